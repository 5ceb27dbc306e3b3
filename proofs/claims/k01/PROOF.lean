import PyProof.Rows.All
import Wide.All
import OpenK.AllK
import Wide.FinOn
import HandS.ForMost
import HandS.Wide
import HandS.Star
import HandS.Defaults
import HandS.Deep
import HandS.Conv
import HandS.SortInts
import HandS.ListItems
import HandS.TupAny
import HandS.TupMul
import HandS.DictComp
import HandS.Style
import HandS.Rev
import HandS.Zip
import HandS.Exc
import HandS.HeadEnd
import HandS.HeadHook2
import HandS.Head2
import HandS.Lambda
import HandS.IsInst
import PyProof.Draws
import PyProof.EnumMake
import HandS.EndBits
import HandS.EndTab
import PyProof.ReprLen
import HandS.ExcInit
import HandS.ExcSuper
import KE.KExcSuper
import HandS.HeadWalk
import HandS.ExcField
import KE.KExcIs
import HandS.Text
import HandS.Dict
import HandS.WordsExc
import PySem.Challenge.RW_earstogether_k01_whole_rows_sums_and_pro
import KE.KStateDown
set_option Elab.async false
set_option linter.all false
set_option maxRecDepth 100000
set_option maxHeartbeats 4000000
set_option autoImplicit false
namespace PL
open PySem PySem.Spec PyProof.Rows L2

/-! ## pure data -/
inductive D where
  | non
  | bl (b : Bool)
  | int (i : Int)
  | str (x : Str)
  | tup (xs : List D)
  | fl (xs : List D)
  | fd (kvs : List (Key × D))
  | frz (xs : List D)
  | ref (i : Nat)
  | exc (c : Nat) (v : D)
  | ins (c : Nat) (fs : List (Nat × D))
  | clo (n : Nat)
  | ft (kvs : List (List Key × D))
/-- what stands at a place that may change -/
inductive Ob where
  | lst (xs : List D)
  | dct (kvs : List (Key × D))
  | ins (c : Nat) (fs : List (Nat × D))
  | dcT (kvs : List (List Key × D))
inductive R (α : Type) where
  | ok (a : α) (h : List Ob)
  | exn (x : D) (h : List Ob)
  | stuck
def R.bind {α β : Type} (r : R α) (f : α → List Ob → R β) : R β := match r with
  | .ok a h => f a h
  | .exn x h => .exn x h
  | .stuck => .stuck
@[simp] theorem bind_ok {α β : Type} {a : α} {h : List Ob} {f : α → List Ob → R β} : (R.ok a h).bind f = f a h := rfl
@[simp] theorem bind_exn {α β : Type} {x : D} {h : List Ob} {f : α → List Ob → R β} : (R.exn x h : R α).bind f = .exn x h := rfl
@[simp] theorem bind_stuck {α β : Type} {f : α → List Ob → R β} : (R.stuck : R α).bind f = .stuck := rfl
abbrev Sl := List (Option D)
abbrev Lt := L2.St
abbrev CE := Sl → List Ob → R D
abbrev CA := Sl → List Ob → R (List D)
abbrev Fn := List D → List Ob → R D
inductive Fl where
  | nx (σ : Sl)
  | rt (d : D)
  | bk (σ : Sl)
  | ct (σ : Sl)
abbrev CS := Sl → List Ob → R Fl

/-! ## how data stand in a heap -/
/-- where the things stand that may change (l), and what is hidden (x) -/
structure Mp where
  l : List Addr
  x : List Addr
/-- a name told by a number: its signs, base 256 -/
def nmL : Nat → Nat → List Nat → List Nat
  | 0, _, acc => acc
  | k + 1, n, acc => if n = 0 then acc else nmL k (n / 256) (n % 256 :: acc)
def nmS (n : Nat) : Str := ⟨(nmL 60 n []).toArray⟩
/-- where the closures of the frames that are under way stand: number, function, code -/
abbrev CloT := Nat → Addr → Addr → Option (HO × HO)
/-- what is known of the written part, of closures, of tables of code objects -/
structure Kc where
  f : PySem.W.Frag
  c : CloT
  t : List (Addr × Str)
  r : List (Sl × Lt)
instance : Coe Kc PySem.W.Frag := ⟨Kc.f⟩
/-- a wish about exceptions, with what is known of closures and tables -/
structure XK where
  e : L2.XK
  c : CloT
  t : List (Addr × Str)
  r : List (Sl × Lt)
instance : CoeFun XK (fun _ => Value → Option Addr → Hp → Prop) := ⟨XK.e⟩
abbrev kc (X : Cx) (E : XK) : Kc := ⟨X.K, E.c, E.t, E.r⟩
/-- no table of code objects -/
def NT (o : HO) : Prop := ∀ ps, o ≠ .tbl ps
theorem nt_tup {xs : List V} : NT (.tup xs) := fun _ z => nomatch z
theorem nt_lst {xs : List V} : NT (.lst xs) := fun _ z => nomatch z
theorem nt_dK {xs : List (Key × V)} : NT (.dK xs) := fun _ z => nomatch z
theorem nt_dT {xs : List (List Key × V)} : NT (.dT xs) := fun _ z => nomatch z
theorem nt_frz {o : Obj} {u : HO} : NT (.frz o u) := fun _ z => nomatch z
theorem nt_ext {φ : Heap → Prop} : NT (.ext φ) := fun _ z => nomatch z
theorem nt_xd {xs : List (Str × V)} : NT (.xd xs) := fun _ z => nomatch z
theorem nt_ins {a b : Addr} {xs : List (Str × V)} : NT (.ins a b xs) := fun _ z => nomatch z
theorem nt_own {a : Addr} : NT (.own a) := fun _ z => nomatch z
/-- an exception of an own class, its dict at dx -/
def excO (K : PySem.W.Frag) (n : Nat) (a dx : Addr) : HO := .ext fun h => ∃ (oe : Obj) (vs : Array Value), h.get? a = some oe ∧ Zc (.ref (He.ga K (nmS n))) (some dx) oe ∧ oe.data = .fields vs
theorem nt_exc {K : PySem.W.Frag} {n : Nat} {a dx : Addr} : NT (excO K n a dx) := nt_ext
def Mp.off (m : Mp) (a : Addr) : Prop := a ∉ m.l ∧ a ∉ m.x
def FzT (K : PySem.W.Frag) (H : Hp) (m : Mp) (a : Addr) (vs : List V) : Prop :=
  (H a = some (.tup vs) ∧ m.off a) ∨
    ∃ (o : Obj) (its : Array Value) (n : Nat), K.lookup a = some o ∧ o.cls = .type "tuple" ∧ o.data = .seq its n ∧ its.size ≤ sizeLine ∧ Vals vs its.toList
theorem FzT.sq {K : PySem.W.Frag} {H : Hp} {m : Mp} {a : Addr} {vs : List V} (h : FzT K H m a vs) : SqT K H a vs := by
  rcases h with ⟨h, _⟩ | h
  · exact .inl (.inl h)
  · exact .inr h
/-- the script's list: read, never written -/
def FzS (K : PySem.W.Frag) (H : Hp) (m : Mp) (a : Addr) (vs : List V) : Prop :=
  ((∃ o, H a = some (.frz o (.lst vs))) ∧ m.off a) ∨
    ∃ (o : Obj) (its : Array Value) (n : Nat), K.lookup a = some o ∧ o.cls = .type "list" ∧ o.dict = none ∧ o.data = .seq its n ∧ its.size ≤ sizeLine ∧ Vals vs its.toList
theorem FzS.sq {K : PySem.W.Frag} {H : Hp} {m : Mp} {a : Addr} {vs : List V} (h : FzS K H m a vs) : SqL K H a vs := by
  rcases h with ⟨h, _⟩ | h
  · exact .inl (.inr h)
  · exact .inr h
section
variable (K : Kc) (H : Hp) (m : Mp)
mutual
inductive RD : D → V → Prop
  | non : RD .non .non
  | bl (b : Bool) : RD (.bl b) (.bl b)
  | int (i : Int) : RD (.int i) (.int i)
  | str (x : Str) : RD (.str x) (.str x)
  | tup {a : Addr} {ds : List D} {vs : List V} : FzT K H m a vs → RDs ds vs → RD (.tup ds) (.ref a)
  | fl {a : Addr} {ds : List D} {vs : List V} : H a = some (.lst vs) → m.off a → RDs ds vs → RD (.fl ds) (.ref a)
  | fd {a : Addr} {ds : List (Key × D)} {vs : List (Key × V)} : H a = some (.dK vs) → m.off a → RDk ds vs → RD (.fd ds) (.ref a)
  | frz {a : Addr} {ds : List D} {vs : List V} : FzS K H m a vs → RDs ds vs → RD (.frz ds) (.ref a)
  | ref {a : Addr} {i : Nat} : m.l[i]? = some a → RD (.ref i) (.ref a)
  | exc {a dx : Addr} {n : Nat} {d : D} {v : V} : H a = some (excO K n a dx) → H dx = some (.xd [(Str.ofString "value", v)]) → m.off a → m.off dx → RD d v → RD (.exc n d) (.ref a)
  | clo {a b : Addr} {n : Nat} {o : HO × HO} : K.c n a b = some o → H a = some o.1 → H b = some o.2 → NT o.1 → NT o.2 → m.off a → m.off b → RD (.clo n) (.ref a)
  | ins {a dx : Addr} {c : Nat} {fs : List (Nat × D)} {vs : List (Str × V)} : H a = some (.ins (He.ga K (nmS c)) dx vs) → H dx = some (.own a) → m.off a → m.off dx → RDf fs vs → RD (.ins c fs) (.ref a)
  | ft {a : Addr} {ds : List (List Key × D)} {vs : List (List Key × V)} : H a = some (.dT vs) → m.off a → RDt ds vs → RD (.ft ds) (.ref a)
inductive RDs : List D → List V → Prop
  | nil : RDs [] []
  | cons {d : D} {v : V} {ds : List D} {vs : List V} : RD d v → RDs ds vs → RDs (d :: ds) (v :: vs)
inductive RDk : List (Key × D) → List (Key × V) → Prop
  | nil : RDk [] []
  | cons {k : Key} {d : D} {v : V} {ds : List (Key × D)} {vs : List (Key × V)} : RD d v → RDk ds vs → RDk ((k, d) :: ds) ((k, v) :: vs)
inductive RDf : List (Nat × D) → List (Str × V) → Prop
  | nil : RDf [] []
  | cons {k : Nat} {d : D} {v : V} {ds : List (Nat × D)} {vs : List (Str × V)} : RD d v → RDf ds vs → RDf ((k, d) :: ds) ((nmS k, v) :: vs)
inductive RDt : List (List Key × D) → List (List Key × V) → Prop
  | nil : RDt [] []
  | cons {k : List Key} {d : D} {v : V} {ds : List (List Key × D)} {vs : List (List Key × V)} : RD d v → RDt ds vs → RDt ((k, d) :: ds) ((k, v) :: vs)
end
def RO : Ob → Addr → Prop
  | .lst xs, a => ∃ vs, H a = some (.lst vs) ∧ RDs K H m xs vs
  | .dct kvs, a => ∃ vs, H a = some (.dK vs) ∧ RDk K H m kvs vs
  | .ins c fs, a => ∃ dx vs, H a = some (.ins (He.ga K (nmS c)) dx vs) ∧ H dx = some (.own a) ∧ m.off dx ∧ RDf K H m fs vs
  | .dcT kvs, a => ∃ vs, H a = some (.dT vs) ∧ RDt K H m kvs vs
end
/-- a table of code objects, or what is told by a predicate -/
def TbE (o : HO) : Prop := (∃ ps, o = .tbl ps) ∨ ∃ φ, o = .ext φ
def RSl (K : Kc) (H : Hp) (m : Mp) (σ : Sl) (τ : Lt) : Prop :=
  σ.length = τ.length ∧ ∀ (i : Nat) (d : D), σ[i]? = some (some d) → ∃ v, τ[i]? = some (some v) ∧ RD K H m d v
structure HR (K : Kc) (H : Hp) (m : Mp) (hs : List Ob) : Prop where
  len : m.l.length = hs.length
  nd : m.l.Nodup
  ob : ∀ (i : Nat) (o : Ob) (a : Addr), hs[i]? = some o → m.l[i]? = some a → RO K H m o a
  hid : ∀ a ∈ m.x, (∃ o, H a = some o ∧ ¬ TbE o) ∧ a ∉ m.l
  tab : LamX.Tabs K.t H
  fr : ∀ p ∈ K.r, RSl K H m p.1 p.2
theorem HR.hidN {K : Kc} {H : Hp} {m : Mp} {hs : List Ob} (h : HR K H m hs) : ∀ a ∈ m.x, H a ≠ none ∧ a ∉ m.l := fun a ha => by
  obtain ⟨⟨o, e, _⟩, n⟩ := h.hid a ha
  exact ⟨by rw [e]; exact (fun z => by cases z), n⟩
/-- from one heap to a later one -/
structure Stp (m : Mp) (H : Hp) (m' : Mp) (H' : Hp) : Prop where
  ext : ∃ t, m'.l = m.l ++ t ∧ ∀ a ∈ t, H a = none
  hx : m'.x = m.x
  kp : ∀ a o, a ∉ m.l → H a = some o → NT o → H' a = some o
  liv : ∀ a ∈ m'.l, H' a ≠ none
  st : ∀ a, H a ≠ none → H' a ≠ none
section
variable {K : Kc} {H H' H1 H2 : Hp} {m m' m1 m2 : Mp} {hs hs' : List Ob}
theorem HR.live (h : HR K H m hs) : ∀ a ∈ m.l, H a ≠ none := fun a ha => by
  obtain ⟨i, hi, e⟩ := List.getElem_of_mem ha
  have h2 : i < hs.length := by rw [← h.len]; exact hi
  have q := h.ob i hs[i] a (List.getElem?_eq_getElem h2) (by rw [List.getElem?_eq_getElem hi, e])
  cases e2 : hs[i] with
  | lst xs => rw [e2] at q; obtain ⟨vs, z, _⟩ := q; rw [z]; exact fun z => by cases z
  | dct xs => rw [e2] at q; obtain ⟨vs, z, _⟩ := q; rw [z]; exact fun z => by cases z
  | ins c fs => rw [e2] at q; obtain ⟨dx, vs, z, _⟩ := q; rw [z]; exact fun z => by cases z
  | dcT kvs => rw [e2] at q; obtain ⟨vs, z, _⟩ := q; rw [z]; exact fun z => by cases z
theorem HR.stp (h : HR K H m hs) : Stp m H m H := ⟨⟨[], by simp⟩, rfl, fun _ _ _ h _ => h, h.live, fun _ h => h⟩
theorem Stp.trans (a : Stp m H m1 H1) (b : Stp m1 H1 m2 H2) : Stp m H m2 H2 := by
  obtain ⟨t1, e1, n1⟩ := a.ext
  obtain ⟨t2, e2, n2⟩ := b.ext
  refine ⟨⟨t1 ++ t2, by rw [e2, e1, List.append_assoc], fun x hx => ?_⟩, b.hx.trans a.hx, fun x o hx h nt => ?_, b.liv, fun x h => b.st x (a.st x h)⟩
  · rcases List.mem_append.mp hx with hx | hx
    · exact n1 x hx
    · cases e : H x with
      | none => rfl
      | some o => exact absurd (n2 x hx) (a.st x (by rw [e]; exact fun z => by cases z))
  · refine b.kp x o (fun z => ?_) (a.kp x o hx h nt) nt
    rw [e1] at z
    rcases List.mem_append.mp z with z | z
    · exact hx z
    · rw [n1 x z] at h
      cases h
theorem Stp.out (s : Stp m H m' H') {a : Addr} {o : HO} (h : H a = some o) (ha : m.off a) : m'.off a := by
  obtain ⟨t, e, n⟩ := s.ext
  refine ⟨fun z => ?_, fun z => ha.2 (s.hx ▸ z)⟩
  rw [e] at z
  rcases List.mem_append.mp z with z | z
  · exact ha.1 z
  · rw [n a z] at h
    cases h
theorem Stp.get (s : Stp m H m' H') {i : Nat} {a : Addr} (h : m.l[i]? = some a) : m'.l[i]? = some a := by
  obtain ⟨t, e, n⟩ := s.ext
  rw [e]
  exact (List.getElem?_append_left (List.getElem?_eq_some_iff.mp h).1).trans h
theorem FzT.mono {a : Addr} {vs : List V} (s : Stp m H m' H') (h : FzT K H m a vs) : FzT K H' m' a vs := by
  rcases h with ⟨h, ha⟩ | h
  · exact .inl ⟨s.kp a _ ha.1 h nt_tup, s.out h ha⟩
  · exact .inr h
theorem FzS.mono {a : Addr} {vs : List V} (s : Stp m H m' H') (h : FzS K H m a vs) : FzS K H' m' a vs := by
  rcases h with ⟨⟨o, h⟩, ha⟩ | h
  · exact .inl ⟨⟨o, s.kp a _ ha.1 h nt_frz⟩, s.out h ha⟩
  · exact .inr h
/-- what a datum leans on is kept -/
structure Stq (m : Mp) (H : Hp) (m' : Mp) (H' : Hp) : Prop where
  get : ∀ (i : Nat) (a : Addr), m.l[i]? = some a → m'.l[i]? = some a
  kp : ∀ (a : Addr) (o : HO), m.off a → H a = some o → NT o → H' a = some o ∧ m'.off a
theorem Stp.q (s : Stp m H m' H') : Stq m H m' H' := ⟨fun _ _ h => s.get h, fun a o ha h nt => ⟨s.kp a o ha.1 h nt, s.out h ha⟩⟩
theorem FzT.monoQ {a : Addr} {vs : List V} (s : Stq m H m' H') (h : FzT K H m a vs) : FzT K H' m' a vs := by
  rcases h with ⟨h, ha⟩ | h
  · exact .inl (s.kp a _ ha h nt_tup)
  · exact .inr h
theorem FzS.monoQ {a : Addr} {vs : List V} (s : Stq m H m' H') (h : FzS K H m a vs) : FzS K H' m' a vs := by
  rcases h with ⟨⟨o, h⟩, ha⟩ | h
  · exact .inl ⟨⟨o, (s.kp a _ ha h nt_frz).1⟩, (s.kp a _ ha h nt_frz).2⟩
  · exact .inr h
mutual
theorem RD.monoQ (s : Stq m H m' H') : ∀ {d : D} {v : V}, RD K H m d v → RD K H' m' d v
  | _, _, .non => .non
  | _, _, .bl b => .bl b
  | _, _, .int i => .int i
  | _, _, .str x => .str x
  | _, _, .tup h r => .tup (h.monoQ s) (RDs.monoQ s r)
  | _, _, .fl h ha r => .fl (s.kp _ _ ha h nt_lst).1 (s.kp _ _ ha h nt_lst).2 (RDs.monoQ s r)
  | _, _, .fd h ha r => .fd (s.kp _ _ ha h nt_dK).1 (s.kp _ _ ha h nt_dK).2 (RDk.monoQ s r)
  | _, _, .frz h r => .frz (h.monoQ s) (RDs.monoQ s r)
  | _, _, .ref h => .ref (s.get _ _ h)
  | _, _, .exc h1 h2 o1 o2 r => .exc (s.kp _ _ o1 h1 nt_exc).1 (s.kp _ _ o2 h2 nt_xd).1 (s.kp _ _ o1 h1 nt_exc).2 (s.kp _ _ o2 h2 nt_xd).2 (RD.monoQ s r)
  | _, _, .clo e h1 h2 n1 n2 o1 o2 => .clo e (s.kp _ _ o1 h1 n1).1 (s.kp _ _ o2 h2 n2).1 n1 n2 (s.kp _ _ o1 h1 n1).2 (s.kp _ _ o2 h2 n2).2
  | _, _, .ins h1 h2 o1 o2 r => .ins (s.kp _ _ o1 h1 nt_ins).1 (s.kp _ _ o2 h2 nt_own).1 (s.kp _ _ o1 h1 nt_ins).2 (s.kp _ _ o2 h2 nt_own).2 (RDf.monoQ s r)
  | _, _, .ft h ha r => .ft (s.kp _ _ ha h nt_dT).1 (s.kp _ _ ha h nt_dT).2 (RDt.monoQ s r)
theorem RDs.monoQ (s : Stq m H m' H') : ∀ {ds : List D} {vs : List V}, RDs K H m ds vs → RDs K H' m' ds vs
  | _, _, .nil => .nil
  | _, _, .cons h r => .cons (RD.monoQ s h) (RDs.monoQ s r)
theorem RDk.monoQ (s : Stq m H m' H') : ∀ {ds : List (Key × D)} {vs : List (Key × V)}, RDk K H m ds vs → RDk K H' m' ds vs
  | _, _, .nil => .nil
  | _, _, .cons h r => .cons (RD.monoQ s h) (RDk.monoQ s r)
theorem RDf.monoQ (s : Stq m H m' H') : ∀ {ds : List (Nat × D)} {vs : List (Str × V)}, RDf K H m ds vs → RDf K H' m' ds vs
  | _, _, .nil => .nil
  | _, _, .cons h r => .cons (RD.monoQ s h) (RDf.monoQ s r)
theorem RDt.monoQ (s : Stq m H m' H') : ∀ {ds : List (List Key × D)} {vs : List (List Key × V)}, RDt K H m ds vs → RDt K H' m' ds vs
  | _, _, .nil => .nil
  | _, _, .cons h r => .cons (RD.monoQ s h) (RDt.monoQ s r)
end
theorem RD.mono (s : Stp m H m' H') {d : D} {v : V} (h : RD K H m d v) : RD K H' m' d v := h.monoQ s.q
theorem RDs.mono (s : Stp m H m' H') {d : List D} {v : List V} (h : RDs K H m d v) : RDs K H' m' d v := h.monoQ s.q
theorem RDk.mono (s : Stp m H m' H') {d : List (Key × D)} {v : List (Key × V)} (h : RDk K H m d v) : RDk K H' m' d v := h.monoQ s.q
theorem RDs.length : ∀ {ds : List D} {vs : List V}, RDs K H m ds vs → ds.length = vs.length
  | _, _, .nil => rfl
  | _, _, .cons _ r => congrArg Nat.succ r.length
theorem RDs.get : ∀ {ds : List D} {vs : List V} {i : Nat} {d : D}, RDs K H m ds vs → ds[i]? = some d → ∃ v, vs[i]? = some v ∧ RD K H m d v
  | _, _, _, _, .nil, e => by simp at e
  | _, _, 0, _, .cons r _, e => by simp at e; subst e; exact ⟨_, rfl, r⟩
  | _, _, i + 1, d, .cons _ t, e => by
    obtain ⟨v, h1, h2⟩ := RDs.get (i := i) (d := d) t (by simpa using e)
    exact ⟨v, by simpa using h1, h2⟩
theorem RDs.append : ∀ {ds es : List D} {vs us : List V}, RDs K H m ds vs → RDs K H m es us → RDs K H m (ds ++ es) (vs ++ us)
  | _, _, _, _, .nil, s => s
  | _, _, _, _, .cons r t, s => .cons r (RDs.append t s)
theorem RDs.take : ∀ {ds : List D} {vs : List V} (n : Nat), RDs K H m ds vs → RDs K H m (ds.take n) (vs.take n)
  | _, _, 0, _ => .nil
  | _, _, _ + 1, .nil => .nil
  | _, _, n + 1, .cons r t => .cons r (RDs.take n t)
theorem RDs.drop : ∀ {ds : List D} {vs : List V} (n : Nat), RDs K H m ds vs → RDs K H m (ds.drop n) (vs.drop n)
  | _, _, 0, r => r
  | _, _, _ + 1, .nil => .nil
  | _, _, n + 1, .cons _ t => RDs.drop n t
theorem RDs.set {d : D} {v : V} (r : RD K H m d v) : ∀ {ds : List D} {vs : List V} (i : Nat), RDs K H m ds vs → RDs K H m (ds.set i d) (vs.set i v)
  | _, _, _, .nil => .nil
  | _, _, 0, .cons _ t => .cons r t
  | _, _, i + 1, .cons q t => .cons q (RDs.set r i t)
theorem RDs.reverse : ∀ {ds : List D} {vs : List V}, RDs K H m ds vs → RDs K H m ds.reverse vs.reverse
  | _, _, .nil => .nil
  | _, _, .cons r t => by
    rw [List.reverse_cons, List.reverse_cons]
    exact RDs.append (RDs.reverse t) (.cons r .nil)
theorem RDs.erase : ∀ {ds : List D} {vs : List V} (i : Nat), RDs K H m ds vs → RDs K H m (ds.eraseIdx i) (vs.eraseIdx i)
  | _, _, _, .nil => .nil
  | _, _, 0, .cons _ t => t
  | _, _, i + 1, .cons r t => .cons r (RDs.erase i t)
theorem RDs.map_int : ∀ {ns : List Int} {vs : List V}, RDs K H m (ns.map D.int) vs → vs = ns.map V.int
  | [], _, .nil => rfl
  | n :: ns, _, .cons r t => by
    cases r
    rw [RDs.map_int t]
    rfl
theorem RDs.map_bl : ∀ {ns : List Bool} {vs : List V}, RDs K H m (ns.map D.bl) vs → vs = ns.map V.bl
  | [], _, .nil => rfl
  | n :: ns, _, .cons r t => by
    cases r
    rw [RDs.map_bl t]
    rfl
theorem RDs.map_str : ∀ {ns : List Str} {vs : List V}, RDs K H m (ns.map D.str) vs → vs = ns.map V.str
  | [], _, .nil => rfl
  | n :: ns, _, .cons r t => by
    cases r
    rw [RDs.map_str t]
    rfl
theorem rds_int : ∀ ns : List Int, RDs K H m (ns.map D.int) (ns.map V.int)
  | [] => .nil
  | n :: ns => .cons (.int n) (rds_int ns)
theorem rds_str : ∀ ns : List Str, RDs K H m (ns.map D.str) (ns.map V.str)
  | [] => .nil
  | n :: ns => .cons (.str n) (rds_str ns)

/-! ## the slots -/
theorem RSl.monoQ {σ : Sl} {τ : Lt} (s : Stq m H m' H') (h : RSl K H m σ τ) : RSl K H' m' σ τ := ⟨h.1, fun i d e => by
  obtain ⟨v, h1, h2⟩ := h.2 i d e
  exact ⟨v, h1, h2.monoQ s⟩⟩
theorem RSl.mono {σ : Sl} {τ : Lt} (s : Stp m H m' H') (h : RSl K H m σ τ) : RSl K H' m' σ τ := ⟨h.1, fun i d e => by
  obtain ⟨v, h1, h2⟩ := h.2 i d e
  exact ⟨v, h1, h2.mono s⟩⟩
theorem RSl.set {σ : Sl} {τ : Lt} {d : D} {v : V} (i : Nat) (h : RSl K H m σ τ) (r : RD K H m d v) : RSl K H m (σ.set i (some d)) (τ.set i (some v)) := by
  refine ⟨by rw [List.length_set, List.length_set, h.1], fun j e q => ?_⟩
  by_cases hj : i = j
  · subst hj
    by_cases hl : i < σ.length
    · rw [List.getElem?_set_self hl] at q
      cases q
      exact ⟨v, List.getElem?_set_self (by rw [← h.1]; exact hl), r⟩
    · rw [List.getElem?_eq_none (by rw [List.length_set]; omega)] at q
      cases q
  · rw [List.getElem?_set_ne hj] at q
    obtain ⟨w, h1, h2⟩ := h.2 j e q
    exact ⟨w, by rw [List.getElem?_set_ne hj]; exact h1, h2⟩

/-! ## ends -/
/-- an exception, told -/
def RX (K : Kc) (H : Hp) (m : Mp) (x : D) (c : Value) (od : Option Addr) : Prop := match x with
  | .exc n v => c = .ref (He.ga K (nmS n)) ∧ ∃ d w, od = some d ∧ m.off d ∧ H d = some (.xd [(Str.ofString "value", w)]) ∧ RD K H m v w
  | _ => False
def Post (K : Kc) (E : XK) (m : Mp) (H : Hp) (r : R D) (Q : VK) : Prop := match r with
  | .ok d hs' => ∀ v m' H', Stp m H m' H' → HR K H' m' hs' → RD K H' m' d v → Q v H'
  | .exn x hs' => ∀ c od m' H', Stp m H m' H' → HR K H' m' hs' → RX K H' m' x c od → E c od H'
  | .stuck => False
theorem Post.mono {E : XK} {Q Q' : VK} {r : R D} (h : Post K E m H r Q) (q : ∀ v H, Q v H → Q' v H) : Post K E m H r Q' := by
  cases r with
  | ok d hs' => exact fun v m' H' s r1 r2 => q _ _ (h v m' H' s r1 r2)
  | exn x hs' => exact h
  | stuck => exact h
theorem Post.step {E : XK} {Q : VK} {r : R D} (s : Stp m H m' H') (h : Post K E m H r Q) : Post K E m' H' r Q := by
  cases r with
  | ok d hs' => exact fun v m2 H2 s2 r1 r2 => h v m2 H2 (s.trans s2) r1 r2
  | exn x hs' => exact fun c od m2 H2 s2 r1 r2 => h c od m2 H2 (s.trans s2) r1 r2
  | stuck => exact h
/-- the reading that a function of data gives -/
def tE (K : Kc) (E : XK) (f : CE) : TE := fun τ H Q => ∃ m σ hs, HR K H m hs ∧ RSl K H m σ τ ∧ Post K E m H (f σ hs) Q
end
theorem PE.imp {X : Cx} {e : Expr} {t t' : TE} (h : PE X e t) (i : ∀ σ H Q, t' σ H Q → t σ H Q) : PE X e t' := ⟨fun pins s σ H Q I q => h.run pins s σ H Q I (i σ H Q q)⟩
theorem PT.imp {X : Cx} {e : Expr} {t t' : TT} (h : PT X e t) (i : ∀ σ H Q, t' σ H Q → t σ H Q) : PT X e t' := ⟨fun pins s σ H Q I q => h.run pins s σ H Q I (i σ H Q q)⟩
theorem PW.imp {X : Cx} {e : Expr} {t t' : TT} (h : PW X e t) (i : ∀ σ H Q, t' σ H Q → t σ H Q) : PW X e t' := ⟨fun w pins s σ H Q I q => h.run w pins s σ H Q I (i σ H Q q)⟩
theorem PS.imp {X : Cx} {e : Stmt} {t t' : TS} (h : PS X e t) (i : ∀ D σ H, t' D σ H → t D σ H) : PS X e t' := ⟨fun pins s σ H Q I q => h.run pins s σ H Q I (i Q σ H q)⟩
theorem PSs.imp {X : Cx} {e : List Stmt} {t t' : TS} (h : PSs X e t) (i : ∀ D σ H, t' D σ H → t D σ H) : PSs X e t' := ⟨fun pins s σ H Q I q => h.run pins s σ H Q I (i Q σ H q)⟩
theorem PA.imp {X : Cx} {e : List Expr} {t t' : TA} (h : PA X e t) (i : ∀ σ H Q, t' σ H Q → t σ H Q) : PA X e t' := ⟨fun pos pins s σ H Q I q => h.run pos pins s σ H Q I (i σ H Q q)⟩
abbrev SE (X : Cx) (E : XK) (e : Expr) (f : CE) : Prop := PE X e (tE (kc X E) E f)
section
variable {K : Kc} {E : XK} {H : Hp} {τ : Lt} {Q : VK}
/-- one after another -/
theorem tE_bind {f : CE} {g : D → CE} (h : tE K E (fun σ hs => (f σ hs).bind fun d hs => g d σ hs) τ H Q) :
    tE K E f τ H fun v H1 => ∃ m σ hs d, HR K H1 m hs ∧ RSl K H1 m σ τ ∧ RD K H1 m d v ∧ Post K E m H1 (g d σ hs) Q := by
  obtain ⟨m, σ, hs, hr, rs, p⟩ := h
  refine ⟨m, σ, hs, hr, rs, ?_⟩
  dsimp only at p
  cases e : f σ hs with
  | ok d hs1 =>
    rw [e] at p
    exact fun v m1 H1 s1 hr1 rd => ⟨m1, σ, hs1, d, hr1, rs.mono s1, rd, Post.step s1 p⟩
  | exn x hs1 => rw [e] at p; exact p
  | stuck => rw [e] at p; exact p
/-- a second one, the first one kept -/
theorem tE_bind2 {g : CE} {k : D → D → List Ob → R D} {v : V} (h : ∃ m σ hs d, HR K H m hs ∧ RSl K H m σ τ ∧ RD K H m d v ∧ Post K E m H ((g σ hs).bind fun d2 hs => k d d2 hs) Q) :
    tE K E g τ H fun w H1 => ∃ m hs d d2, HR K H1 m hs ∧ RD K H1 m d v ∧ RD K H1 m d2 w ∧ Post K E m H1 (k d d2 hs) Q := by
  obtain ⟨m, σ, hs, d, hr, rs, rd, p⟩ := h
  refine ⟨m, σ, hs, hr, rs, ?_⟩
  cases e : g σ hs with
  | ok d2 hs1 =>
    rw [e] at p
    exact fun v m1 H1 s1 hr1 rd1 => ⟨m1, hs1, d, d2, hr1, rd.mono s1, rd1, Post.step s1 p⟩
  | exn x hs1 => rw [e] at p; exact p
  | stuck => rw [e] at p; exact p
end
/-- a two-place operation over data keeps to its rule -/
def Op2 (K : Kc) (r : R2) (k : D → D → List Ob → R D) : Prop :=
  ∀ (E : XK) (H : Hp) (m : Mp) (hs : List Ob) (d d2 : D) (v w : V) (Q : VK), HR K H m hs → RD K H m d v → RD K H m d2 w → Post K E m H (k d d2 hs) Q → r v w H Q
def Op1 (K : Kc) (r : V → Hp → VK → Prop) (k : D → List Ob → R D) : Prop :=
  ∀ (E : XK) (H : Hp) (m : Mp) (hs : List Ob) (d : D) (v : V) (Q : VK), HR K H m hs → RD K H m d v → Post K E m H (k d hs) Q → r v H Q
def c2 (k : D → D → List Ob → R D) (a b : CE) : CE := fun σ hs => (a σ hs).bind fun x hs => (b σ hs).bind fun y hs => k x y hs
def c1 (k : D → List Ob → R D) (a : CE) : CE := fun σ hs => (a σ hs).bind fun x hs => k x hs
theorem imp2 {K : Kc} {E : XK} {r : R2} {k : D → D → List Ob → R D} (o : Op2 K r k) {a b : CE} : ∀ τ H Q, tE K E (c2 k a b) τ H Q → tOp r (tE K E a) (tE K E b) τ H Q := fun τ H Q h => by
  have h1 := tE_bind (τ := τ) (f := a) (g := fun x σ hs => (b σ hs).bind fun y hs => k x y hs) h
  obtain ⟨m, σ, hs, hr, rs, p⟩ := h1
  refine ⟨m, σ, hs, hr, rs, p.mono fun v H1 q => ?_⟩
  have h2 := tE_bind2 (τ := τ) (g := b) (k := k) q
  obtain ⟨m, σ, hs, hr, rs, p⟩ := h2
  exact ⟨m, σ, hs, hr, rs, p.mono fun w H2 ⟨m, hs, d, d2, hr, r1, r2, p⟩ => o E H2 m hs d d2 v w Q hr r1 r2 p⟩
theorem imp1 {K : Kc} {E : XK} {r : V → Hp → VK → Prop} {k : D → List Ob → R D} (o : Op1 K r k) {a : CE} : ∀ τ H Q, tE K E (c1 k a) τ H Q → tE K E a τ H fun v H1 => r v H1 Q := fun τ H Q h => by
  have h1 := tE_bind (τ := τ) (f := a) (g := fun x _ hs => k x hs) h
  obtain ⟨m, σ, hs, hr, rs, p⟩ := h1
  exact ⟨m, σ, hs, hr, rs, p.mono fun v H1 ⟨m, σ, hs, d, hr, _, rd, p⟩ => o E H1 m hs d v Q hr rd p⟩
end PL

set_option Elab.async false
set_option linter.all false
set_option maxRecDepth 100000
set_option maxHeartbeats 4000000
set_option autoImplicit false
namespace PL
open PySem PySem.Spec PyProof.Rows L2
theorem nd_ix {α : Type} : ∀ {l : List α} {i j : Nat} {x : α}, l.Nodup → l[i]? = some x → l[j]? = some x → i = j
  | [], _, _, _, _, h, _ => by simp at h
  | a :: l, 0, 0, _, _, _, _ => rfl
  | a :: l, 0, j + 1, x, n, h, g => by
    have e : a = x := Option.some.inj h
    subst e
    exact absurd (List.mem_of_getElem? (show l[j]? = some a from g)) (List.nodup_cons.mp n).1
  | a :: l, i + 1, 0, x, n, h, g => by
    have e : a = x := Option.some.inj g
    subst e
    exact absurd (List.mem_of_getElem? (show l[i]? = some a from h)) (List.nodup_cons.mp n).1
  | a :: l, i + 1, j + 1, x, n, h, g => congrArg Nat.succ (nd_ix (List.nodup_cons.mp n).2 (show l[i]? = some x from h) (show l[j]? = some x from g))
section
variable {K : Kc} {H H' : Hp} {m : Mp} {hs : List Ob} {p a : Addr} {o : HO}
theorem RO.mono {b : Ob} {m' : Mp} (s : Stp m H m' H') (e : H' a = H a) (h : RO K H m b a) : RO K H' m' b a := by
  cases b with
  | lst xs => obtain ⟨vs, z, r⟩ := h; exact ⟨vs, e.trans z, r.mono s⟩
  | dct xs => obtain ⟨vs, z, r⟩ := h; exact ⟨vs, e.trans z, r.mono s⟩
  | ins c fs => obtain ⟨dx, vs, z, z2, o2, r⟩ := h; exact ⟨dx, vs, e.trans z, s.kp _ _ o2.1 z2 nt_own, s.out z2 o2, r.monoQ s.q⟩
  | dcT xs => obtain ⟨vs, z, r⟩ := h; exact ⟨vs, e.trans z, r.monoQ s.q⟩
theorem tabs_mono {T : List (Addr × Str)} (t : LamX.Tabs T H) (k : ∀ b o, H b = some o → TbE o → H' b = some o) : LamX.Tabs T H' := fun q hq => by
  obtain ⟨ps, h1, h2, h3⟩ := t q hq
  refine ⟨ps, k _ _ h1 (.inl ⟨ps, rfl⟩), h2, fun pos cv hc => ?_⟩
  obtain ⟨c, e1, e2⟩ := h3 pos cv hc
  exact ⟨c, e1, k _ _ e2 (.inr ⟨_, rfl⟩)⟩
theorem tabs_all {T : List (Addr × Str)} (t : LamX.Tabs T H) (k : ∀ b o, H b = some o → H' b = some o) : LamX.Tabs T H' := tabs_mono t fun b o e _ => k b o e
theorem RO.plain {b : Ob} (q : RO K H m b a) : ∀ o, H a = some o → ¬ TbE o := fun o z t => by
  cases b with
  | lst xs => obtain ⟨vs, y, _⟩ := q; rw [y] at z; cases z; rcases t with ⟨_, t⟩ | ⟨_, t⟩ <;> cases t
  | dct xs => obtain ⟨vs, y, _⟩ := q; rw [y] at z; cases z; rcases t with ⟨_, t⟩ | ⟨_, t⟩ <;> cases t
  | ins c fs => obtain ⟨dx, vs, y, _⟩ := q; rw [y] at z; cases z; rcases t with ⟨_, t⟩ | ⟨_, t⟩ <;> cases t
  | dcT xs => obtain ⟨vs, y, _⟩ := q; rw [y] at z; cases z; rcases t with ⟨_, t⟩ | ⟨_, t⟩ <;> cases t
theorem RO.nt {b : Ob} (q : RO K H m b a) : ∀ o, H a = some o → NT o := fun o z ps t => q.plain o z (.inl ⟨ps, t⟩)
theorem RO.monoQ {b : Ob} {m' : Mp} (s : Stq m H m' H') (e : H' a = H a) (h : RO K H m b a) : RO K H' m' b a := by
  cases b with
  | lst xs => obtain ⟨vs, z, r⟩ := h; exact ⟨vs, e.trans z, r.monoQ s⟩
  | dct xs => obtain ⟨vs, z, r⟩ := h; exact ⟨vs, e.trans z, r.monoQ s⟩
  | ins c fs => obtain ⟨dx, vs, z, z2, o2, r⟩ := h; exact ⟨dx, vs, e.trans z, (s.kp _ _ o2 z2 nt_own).1, (s.kp _ _ o2 z2 nt_own).2, r.monoQ s⟩
  | dcT xs => obtain ⟨vs, z, r⟩ := h; exact ⟨vs, e.trans z, r.monoQ s⟩
theorem HR.plain (hr : HR K H m hs) {i : Nat} (hi : m.l[i]? = some a) : ∀ o, H a = some o → ¬ TbE o := fun o e t => by
  have hl : i < hs.length := by rw [← hr.len]; exact (List.getElem?_eq_some_iff.mp hi).1
  exact (hr.ob i hs[i] a (List.getElem?_eq_getElem hl) hi).plain o e t
theorem HR.keep (hr : HR K H m hs) (s : Stp m H m H') (e : ∀ a ∈ m.l, H' a = H a) (tb : LamX.Tabs K.t H') : HR K H' m hs := by
  refine ⟨hr.len, hr.nd, fun i b a h1 h2 => (hr.ob i b a h1 h2).mono s (e a (List.mem_of_getElem? h2)), fun a ha => ?_, tb, fun p hp => (hr.fr p hp).mono s⟩
  obtain ⟨⟨o, z, nt⟩, nl⟩ := hr.hid a ha
  exact ⟨⟨o, s.kp a o nl z fun ps q => nt (.inl ⟨ps, q⟩), nt⟩, nl⟩
theorem HR.notin (hr : HR K H m hs) (np : H p = none) : m.off p := ⟨fun z => hr.live p z np, fun z => (hr.hidN p z).1 np⟩
/-- all that stands is kept -/
theorem HR.same (hr : HR K H m hs) (k : ∀ b o, H b = some o → H' b = some o) : Stp m H m H' ∧ HR K H' m hs := by
  have st : ∀ b, H b ≠ none → H' b ≠ none := fun b hb => by
    cases e : H b with
    | none => exact absurd e hb
    | some u => rw [k b u e]; exact fun z => by cases z
  have s : Stp m H m H' := ⟨⟨[], by simp⟩, rfl, fun b u _ h _ => k b u h, fun b hb => st b (hr.live b hb), st⟩
  refine ⟨s, hr.keep s (fun b hb => ?_) (tabs_all hr.tab k)⟩
  cases e : H b with
  | none => exact absurd e (hr.live b hb)
  | some u => exact k b u e
/-- a new thing that never changes -/
theorem HR.fresh (hr : HR K H m hs) (np : H p = none) (o : HO) : Stp m H m (upd H p o) ∧ HR K (upd H p o) m hs :=
  hr.same fun b u h => by rw [upd_ne (fun z => by rw [z, np] at h; cases h)]; exact h
/-- a thing that may change is changed -/
theorem HR.put (hr : HR K H m hs) {i : Nat} (hi : m.l[i]? = some a) {o : HO} {b : Ob} (hb : RO K (upd H a o) m b a) : Stp m H m (upd H a o) ∧ HR K (upd H a o) m (hs.set i b) := by
  have s : Stp m H m (upd H a o) := ⟨⟨[], by simp⟩, rfl, fun c u hc h _ => by rw [upd_ne (fun z => hc (by rw [z]; exact List.mem_of_getElem? hi))]; exact h, fun c hc => by
    by_cases z : c = a
    · rw [z, upd_same]; exact fun z => by cases z
    · rw [upd_ne z]; exact hr.live c hc, fun c hc => by
    by_cases z : c = a
    · rw [z, upd_same]; exact fun z => by cases z
    · rw [upd_ne z]; exact hc⟩
  refine ⟨s, by rw [List.length_set]; exact hr.len, hr.nd, fun j c d h1 h2 => ?_, fun c hc => ⟨?_, (hr.hid c hc).2⟩, tabs_mono hr.tab fun b u e t => by rw [upd_ne fun z => by rw [z] at e; exact hr.plain hi u e t]; exact e, fun p hp => (hr.fr p hp).mono s⟩
  · by_cases e : i = j
    · subst e
      rw [hi] at h2
      cases h2
      have hl : i < hs.length := by
        have := (List.getElem?_eq_some_iff.mp h1).1
        rwa [List.length_set] at this
      rw [List.getElem?_set_self hl] at h1
      cases h1
      exact hb
    · rw [List.getElem?_set_ne e] at h1
      refine (hr.ob j c d h1 h2).mono s (upd_ne fun z => e ?_)
      subst z
      exact nd_ix hr.nd hi h2
  · rw [upd_ne fun z => (hr.hid c hc).2 (by rw [z]; exact List.mem_of_getElem? hi)]
    exact (hr.hid c hc).1
/-- a new thing that may change -/
def Mp.add (m : Mp) (p : Addr) : Mp := ⟨m.l ++ [p], m.x⟩
theorem HR.newS (hr : HR K H m hs) (np : H p = none) (o : HO) : Stp m H (m.add p) (upd H p o) := by
  obtain ⟨s, _⟩ := hr.fresh np o
  refine ⟨⟨[p], rfl, fun c hc => by rw [List.mem_singleton.mp hc]; exact np⟩, rfl, s.kp, fun c hc => ?_, s.st⟩
  rcases List.mem_append.mp hc with hc | hc
  · exact s.liv c hc
  · rw [List.mem_singleton.mp hc, upd_same]; exact fun z => by cases z
theorem HR.new (hr : HR K H m hs) (np : H p = none) {o : HO} {b : Ob} (hb : RO K (upd H p o) (m.add p) b p) : Stp m H (m.add p) (upd H p o) ∧ HR K (upd H p o) (m.add p) (hs ++ [b]) := by
  have s := hr.newS np o
  have nin := hr.notin np
  refine ⟨s, by show (m.l ++ [p]).length = _; rw [List.length_append, List.length_append, hr.len]; rfl, ?_, fun j c d h1 h2 => ?_, fun c hc => ?_, tabs_all hr.tab fun b u e => by rw [upd_ne fun z => by rw [z, np] at e; cases e]; exact e, fun p hp => (hr.fr p hp).mono s⟩
  · refine List.nodup_append.mpr ⟨hr.nd, by simp, fun x hx y hy => ?_⟩
    rw [List.mem_singleton.mp hy]
    exact fun z => nin.1 (z ▸ hx)
  · have h2' : (m.l ++ [p])[j]? = some d := h2
    by_cases hj : j < m.l.length
    · rw [List.getElem?_append_left (by rw [← hr.len]; exact hj)] at h1
      rw [List.getElem?_append_left hj] at h2'
      exact (hr.ob j c d h1 h2').mono s (upd_ne fun z => nin.1 (z ▸ List.mem_of_getElem? h2'))
    · have e1 : j = m.l.length := by
        have := (List.getElem?_eq_some_iff.mp h2').1
        rw [List.length_append, List.length_singleton] at this
        omega
      rw [List.getElem?_append_right (by omega), e1, Nat.sub_self] at h2'
      rw [List.getElem?_append_right (by rw [← hr.len]; omega), e1, hr.len, Nat.sub_self] at h1
      cases h1
      cases h2'
      exact hb
  · obtain ⟨z1, z2⟩ := hr.hid c hc
    have ne : c ≠ p := fun z => by rw [z] at z1; obtain ⟨o, z3, _⟩ := z1; rw [np] at z3; cases z3
    refine ⟨by rw [upd_ne ne]; exact z1, fun z => ?_⟩
    rcases List.mem_append.mp z with z | z
    · exact z2 z
    · exact ne (List.mem_singleton.mp z)
end

/-! ## names, constants -/
def cV (i : Nat) : CE := fun σ hs => match σ[i]? with
  | some (some d) => .ok d hs
  | _ => .stuck
def cK (d : D) : CE := fun _ hs => .ok d hs
section
variable {X : Cx} {E : XK}
theorem s_var (i : Nat) {x : Str} {pos : Pos} (hN : X.N[i]? = some x := by rfl) (hv : Vis X.env.scope x := by first | exact Or.inl rfl | exact Or.inr (Or.inl rfl) | exact Or.inr (Or.inr rfl)) (hd : (x == ("__debug__" : Str)) = false := by decide)
    (hcd : (x == ("__classdict__" : Str)) = false := by decide) : SE X E (.Name x pos) (cV i) := PE.imp (pe_var hN hv hd hcd) fun τ H Q ⟨m, σ, hs, hr, rs, p⟩ => by
  unfold cV at p
  cases e : σ[i]? with
  | none => rw [e] at p; exact p.elim
  | some o =>
    cases o with
    | none => rw [e] at p; exact p.elim
    | some d =>
      rw [e] at p
      obtain ⟨v, h1, h2⟩ := rs.2 i d e
      exact ⟨v, h1, p v m H hr.stp hr h2⟩
theorem s_con {e : Expr} {v : V} {d : D} (h : PE X e (tC v)) (r : ∀ H m, RD (kc X E) H m d v) : SE X E e (cK d) := PE.imp h fun τ H Q ⟨m, σ, hs, hr, rs, p⟩ => p v m H hr.stp hr (r H m)
theorem s_int {i j pos} : SE X E (.Constant (.int i) j pos) (cK (.int i)) := s_con pe_int fun _ _ => .int i
theorem s_bl {i j pos} : SE X E (.Constant (.bool i) j pos) (cK (.bl i)) := s_con pe_bl fun _ _ => .bl i
theorem s_non {j pos} : SE X E (.Constant .none j pos) (cK .non) := s_con pe_non fun _ _ => .non
theorem s_str {i j pos} : SE X E (.Constant (.str i) j pos) (cK (.str i)) := s_con pe_str fun _ _ => .str i
/-- a constant of the module -/
def GC (K : PySem.W.Frag) (mg : Str → Option Value) (x : Str) (d : D) : Prop := ∃ u v, mg x = some u ∧ RelV v u ∧ ∀ c t r H m, RD ⟨K, c, t, r⟩ H m d v
theorem s_glob {x : Str} {d : D} {pos : Pos} (c : GC X.K X.mg x d) (hg : Gl X x := by rfl) (hd : (x == ("__debug__" : Str)) = false := by decide) : SE X E (.Name x pos) (cK d) := by
  obtain ⟨u, v, h1, h2, h3⟩ := c
  exact s_con (pe_glob hg h1 h2 hd) fun H m => h3 _ _ _ H m
end

/-! ## arithmetic -/
def mulOk (i j : Int) : Bool := decide (i.natAbs.log2 + j.natAbs.log2 < 1000000)
theorem mulOk_c {i j : Int} (h : mulOk i j = true) : CMulW i j := by
  unfold CMulW
  exact of_decide_eq_true h
def kAdd : D → D → List Ob → R D
  | .int a, .int b, hs => .ok (.int (a + b)) hs
  | .str a, .str b, hs => if a.length + b.length ≤ sizeLine then .ok (.str (a ++ b)) hs else .stuck
  | .tup a, .tup b, hs => if a.length + b.length ≤ sizeLine then .ok (.tup (a ++ b)) hs else .stuck
  | .fl a, .fl b, hs => if a.length + b.length ≤ sizeLine then .ok (.fl (a ++ b)) hs else .stuck
  | _, _, _ => .stuck
def kSub : D → D → List Ob → R D
  | .int a, .int b, hs => .ok (.int (a - b)) hs
  | _, _, _ => .stuck
def kMul : D → D → List Ob → R D
  | .int a, .int b, hs => if mulOk a b = true then .ok (.int (a * b)) hs else .stuck
  | .str a, .int k, hs => if 0 ≤ k ∧ k ≤ 100000 ∧ a.length ≤ 100 then .ok (.str ⟨(List.replicate k.toNat a.cps.toList).flatten.toArray⟩) hs else .stuck
  | .tup a, .int k, hs => if a ≠ [] ∧ 2 ≤ k ∧ k ≤ 1000 ∧ a.length ≤ 1000 then .ok (.tup (List.replicate k.toNat a).flatten) hs else .stuck
  | .fl a, .int k, hs => if 0 ≤ k ∧ k ≤ 1000 ∧ a.length ≤ 1000 then .ok (.fl (List.replicate k.toNat a).flatten) hs else .stuck
  | _, _, _ => .stuck
def kDiv : D → D → List Ob → R D
  | .int a, .int b, hs => if 0 < b ∧ b.natAbs.log2 < 9000 then .ok (.int (a / b)) hs else .stuck
  | _, _, _ => .stuck
def kMod : D → D → List Ob → R D
  | .int a, .int b, hs => if 0 < b then .ok (.int (a % b)) hs else .stuck
  | _, _, _ => .stuck
def kPow : D → D → List Ob → R D
  | .int a, .int b, hs => if 0 ≤ b ∧ b ≤ 1000 ∧ a.natAbs.log2 < 100000 then .ok (.int (a ^ b.toNat)) hs else .stuck
  | _, _, _ => .stuck
def kNeg : D → List Ob → R D
  | .int a, hs => .ok (.int (-a)) hs
  | _, _ => .stuck
section
variable {K : Kc} {H : Hp} {m : Mp} {hs : List Ob}
theorem rd_int {i : Int} {v : V} (r : RD K H m (.int i) v) : v = .int i := by cases r; rfl
theorem rd_bl {i : Bool} {v : V} (r : RD K H m (.bl i) v) : v = .bl i := by cases r; rfl
theorem rd_str {i : Str} {v : V} (r : RD K H m (.str i) v) : v = .str i := by cases r; rfl
/-- a new tuple, list of such -/
theorem post_tup {E : XK} {Q : VK} {ds : List D} {vs : List V} {p : Addr} (hr : HR K H m hs) (r : RDs K H m ds vs) (np : H p = none) (h : Post K E m H (.ok (.tup ds) hs) Q) : Q (.ref p) (upd H p (.tup vs)) := by
  obtain ⟨s, hr'⟩ := hr.fresh np (.tup vs)
  exact h _ m _ s hr' (.tup (.inl ⟨upd_same, hr.notin np⟩) (r.mono s))
theorem post_fl {E : XK} {Q : VK} {ds : List D} {vs : List V} {p : Addr} (hr : HR K H m hs) (r : RDs K H m ds vs) (np : H p = none) (h : Post K E m H (.ok (.fl ds) hs) Q) : Q (.ref p) (upd H p (.lst vs)) := by
  obtain ⟨s, hr'⟩ := hr.fresh np (.lst vs)
  exact h _ m _ s hr' (.fl upd_same (hr.notin np) (r.mono s))
theorem Post.here {E : XK} {Q : VK} {d : D} {v : V} (hr : HR K H m hs) (r : RD K H m d v) (h : Post K E m H (.ok d hs) Q) : Q v H := h v m H hr.stp hr r
theorem Post.ite {E : XK} {Q : VK} {c : Prop} [Decidable c] {r : R D} (h : Post K E m H (if c then r else .stuck) Q) : c ∧ Post K E m H r Q := by
  by_cases hc : c
  · rw [if_pos hc] at h
    exact ⟨hc, h⟩
  · rw [if_neg hc] at h
    exact h.elim
end

/-! ### rules that the library lacks -/
section
variable {X : Cx}
def rPow : R2 := fun x y H Q => ∃ i j : Int, x = .int i ∧ y = .int j ∧ (0 ≤ j ∧ j ≤ 1000 ∧ i.natAbs.log2 < 100000) ∧ Q (.int (i ^ j.toNat)) H
theorem bits_le (x : Int) : Builtin.Int.intBits x ≤ x.natAbs.log2 + 1 := by
  unfold Builtin.Int.intBits
  split <;> omega
theorem o_pow : OpR X (binaryOp .Pow) rPow := by
  intro pins s σ H x y v u Q I rx ry h
  obtain ⟨i, j, rfl, rfl, ⟨h1, h2, h3⟩, q⟩ := h
  obtain ⟨t, rfl⟩ := rx
  obtain ⟨t', rfl⟩ := ry
  refine pow_int h1 ?_ ⟨.int _, H, I.tok _, ⟨_, rfl⟩, q⟩
  have b := bits_le i
  have b2 : (Builtin.Int.intBits i : Int) ≤ 100000 := by omega
  have b3 : (Builtin.Int.intBits i : Int) * j ≤ 100000 * 1000 := Int.mul_le_mul b2 h2 h1 (by decide)
  have e : (2 : Int) ^ 27 = 134217728 := by decide
  rw [e]
  omega
def rRepS : R2 := fun x y H Q => ∃ (a : Str) (k : Int), x = .str a ∧ y = .int k ∧ (0 ≤ k ∧ k ≤ 100000 ∧ a.length ≤ 100) ∧ Q (.str ⟨(List.replicate k.toNat a.cps.toList).flatten.toArray⟩) H
theorem fold_rep (a : Array Nat) : ∀ (k : Nat) (acc : List Nat), (List.replicate k a).foldl (fun x y => x ++ y) acc.toArray = (acc ++ (List.replicate k a.toList).flatten).toArray
  | 0, acc => by simp
  | k + 1, acc => by
    rw [List.replicate_succ, List.foldl_cons, List.replicate_succ, List.flatten_cons, ← List.append_assoc, ← fold_rep a k (acc ++ a.toList)]
    congr 1
    cases a
    simp
theorem o_repS : OpR X (binaryOp .Mult) rRepS := by
  intro pins s σ H x y v u Q I rx ry h
  obtain ⟨a, k, rfl, rfl, ⟨h1, h2, h3⟩, q⟩ := h
  obtain ⟨t, rfl⟩ := rx
  obtain ⟨t', rfl⟩ := ry
  have e63 : (2 : Int) ^ 63 = 9223372036854775808 := by decide
  refine PySem.P.mul_str ?_ (fun h4 _ h5 => ?_) (fun h4 _ => ?_) ?_
  · rw [decide_eq_false (by omega), decide_eq_false (by omega)]
    rfl
  · have h6 : ((2 : Int) ^ 63 - 1) / k ≥ ((2 : Int) ^ 63 - 1) / 100000 := by
      rw [e63]
      have z : (9223372036854775808 - 1 : Int) / 100000 = 92233720368547 := by decide
      rw [z]
      refine Int.le_ediv_of_mul_le (by omega) ?_
      have : 92233720368547 * k ≤ 92233720368547 * 100000 := Int.mul_le_mul_of_nonneg_left h2 (by decide)
      omega
    rw [e63] at h6
    have z : (9223372036854775808 - 1 : Int) / 100000 = 92233720368547 := by decide
    rw [z] at h6
    rw [e63] at h5
    omega
  · unfold Builtin.Str.tooLong
    refine decide_eq_false ?_
    have h6 : a.length * k.toNat ≤ 100 * 100000 := Nat.mul_le_mul h3 (by omega)
    rw [sizeLine_eq]
    omega
  · have fin : ∀ (z : Str) (w : Value) (s' : Shared), Inv X pins σ H s' → RelV (.str z) w → z = ⟨(List.replicate k.toNat a.cps.toList).flatten.toArray⟩ → EP X pins σ Q w s' := fun z w s' I' r e => ⟨.str z, H, I', r, by rw [e]; exact q⟩
    by_cases c1 : k < 1
    · rw [if_pos c1]
      refine ⟨by decide, fin Str.empty _ _ (I.tok _) ⟨_, rfl⟩ ?_⟩
      have : k.toNat = 0 := by omega
      rw [this]
      rfl
    · rw [if_neg c1]
      by_cases c2 : (k == 1 || a.length == 0) = true
      · rw [if_pos c2]
        refine fin a _ _ I ⟨_, rfl⟩ ?_
        obtain ⟨l⟩ := a
        rcases Bool.or_eq_true_iff.mp c2 with c3 | c3
        · have : k = 1 := eq_of_beq c3
          rw [this]
          show Str.mk l = _
          simp
        · have c4 : (Str.mk l).length = 0 := eq_of_beq c3
          have : l = #[] := Array.eq_empty_of_size_eq_zero c4
          subst this
          show Str.mk #[] = _
          congr 1
          generalize k.toNat = n
          induction n with
          | zero => rfl
          | succ n ih => rw [List.replicate_succ, List.flatten_cons]; simpa using ih
      · rw [if_neg c2]
        refine ⟨?_, fin _ _ _ (I.tok _) ⟨_, rfl⟩ ?_⟩
        · rw [show (#[] : Array Nat) = ([] : List Nat).toArray from rfl, fold_rep, List.nil_append]
          show (List.replicate k.toNat a.cps.toList).flatten.toArray.size ≤ sizeLine
          rw [List.size_toArray, List.length_flatten, List.map_replicate, List.sum_replicate_nat, sizeLine_eq]
          have h6 : k.toNat * a.cps.toList.length ≤ 100000 * 100 := Nat.mul_le_mul (by omega) (by simpa [Str.length] using h3)
          omega
        · rw [show (#[] : Array Nat) = ([] : List Nat).toArray from rfl, fold_rep, List.nil_append]
end

/-! ### the operators -/
def rAddAll (K : PySem.W.Frag) : R2 := fun x y H Q => (rI0 (fun i j => .int (i + j)) x y H Q ∨ (∃ i j, x = .str i ∧ y = .str j ∧ i.length + j.length ≤ sizeLine ∧ Q (.str (i ++ j)) H)) ∨ (rCatA K x y H Q ∨ rCat x y H Q)
theorem o_add {X : Cx} : OpR X (binaryOp .Add) (rAddAll X.K) := (op_add.or op_add_str).or (op_catA.or op_cat)
section
variable {K : Kc}
theorem o2_add : Op2 K (rAddAll K) kAdd := fun E H m hs d d2 v w Q hr r1 r2 p => by
  unfold kAdd at p
  split at p
  · cases r1
    cases r2
    exact .inl (.inl ⟨_, _, rfl, rfl, p.here hr (.int _)⟩)
  · cases r1
    cases r2
    obtain ⟨c, p⟩ := p.ite
    exact .inl (.inr ⟨_, _, rfl, rfl, c, p.here hr (.str _)⟩)
  · cases r1 with
    | tup z1 q1 =>
      cases r2 with
      | tup z2 q2 =>
        obtain ⟨c, p⟩ := p.ite
        refine .inr (.inl ⟨_, _, _, _, rfl, rfl, z1.sq, z2.sq, by rw [← q1.length, ← q2.length]; exact c, fun e => ?_, fun _ e => ?_, fun _ _ t np => ?_⟩)
        · subst e
          cases q1
          exact p.here hr (.tup z2 q2)
        · subst e
          cases q2
          rw [List.append_nil] at p
          exact p.here hr (.tup z1 q1)
        · exact post_tup hr (q1.append q2) np p
  · cases r1 with
    | fl z1 n1 q1 =>
      cases r2 with
      | fl z2 n2 q2 =>
        obtain ⟨c, p⟩ := p.ite
        exact .inr (.inr ⟨_, _, _, _, rfl, rfl, z1, z2, by rw [← q1.length, ← q2.length]; exact c, fun t np => post_fl hr (q1.append q2) np p⟩)
  · exact p.elim
theorem o2_sub : Op2 K (rI0 fun i j => .int (i - j)) kSub := fun E H m hs d d2 v w Q hr r1 r2 p => by
  unfold kSub at p
  split at p
  · cases r1
    cases r2
    exact ⟨_, _, rfl, rfl, p.here hr (.int _)⟩
  · exact p.elim
def rMulAll (K : PySem.W.Frag) : R2 := fun x y H Q => rI CMulW (fun i j => .int (i * j)) x y H Q ∨ (rRepS x y H Q ∨ (rRepT K x y H Q ∨ rRep x y H Q))
theorem o_mul {X : Cx} : OpR X (binaryOp .Mult) (rMulAll X.K) := op_mulW.or (o_repS.or (op_repT.or op_rep))
theorem RDs.flat {H : Hp} {m : Mp} {ds : List D} {vs : List V} (r : RDs K H m ds vs) : ∀ k : Nat, RDs K H m (List.replicate k ds).flatten (List.replicate k vs).flatten
  | 0 => .nil
  | k + 1 => by
    rw [List.replicate_succ, List.replicate_succ, List.flatten_cons, List.flatten_cons]
    exact r.append (RDs.flat r k)
theorem o2_mul : Op2 K (rMulAll K) kMul := fun E H m hs d d2 v w Q hr r1 r2 p => by
  unfold kMul at p
  split at p
  · cases r1
    cases r2
    obtain ⟨c, p⟩ := p.ite
    exact .inl ⟨_, _, rfl, rfl, mulOk_c c, p.here hr (.int _)⟩
  · cases r1
    cases r2
    obtain ⟨c, p⟩ := p.ite
    exact .inr (.inl ⟨_, _, rfl, rfl, c, p.here hr (.str _)⟩)
  · cases r1 with
    | tup z1 q1 =>
      cases r2
      obtain ⟨⟨c1, c2, c3, c4⟩, p⟩ := p.ite
      refine .inr (.inr (.inl ⟨_, _, _, rfl, rfl, z1.sq, fun e => c1 ?_, c2, c3, by rw [← q1.length]; exact c4, fun t np => post_tup hr (q1.flat _) np p⟩))
      subst e
      cases q1
      rfl
  · cases r1 with
    | fl z1 n1 q1 =>
      cases r2
      obtain ⟨⟨c1, c2, c3⟩, p⟩ := p.ite
      refine .inr (.inr (.inr ⟨_, _, _, rfl, rfl, z1, by omega, by omega, ?_, fun t np => post_fl hr (q1.flat _) np p⟩))
      rw [← q1.length, sizeLine_eq]
      exact Nat.le_trans (Nat.mul_le_mul c3 (show _ ≤ 1000 by omega)) (by decide)
  · exact p.elim
theorem o2_div : Op2 K (rI CDivW fun i j => .int (i / j)) kDiv := fun E H m hs d d2 v w Q hr r1 r2 p => by
  unfold kDiv at p
  split at p
  · cases r1
    cases r2
    obtain ⟨c, p⟩ := p.ite
    exact ⟨_, _, rfl, rfl, c, p.here hr (.int _)⟩
  · exact p.elim
theorem o2_mod : Op2 K (rI (fun _ j => 0 < j) fun i j => .int (i % j)) kMod := fun E H m hs d d2 v w Q hr r1 r2 p => by
  unfold kMod at p
  split at p
  · cases r1
    cases r2
    obtain ⟨c, p⟩ := p.ite
    exact ⟨_, _, rfl, rfl, c, p.here hr (.int _)⟩
  · exact p.elim
theorem o2_pow : Op2 K rPow kPow := fun E H m hs d d2 v w Q hr r1 r2 p => by
  unfold kPow at p
  split at p
  · cases r1
    cases r2
    obtain ⟨c, p⟩ := p.ite
    exact ⟨_, _, rfl, rfl, c, p.here hr (.int _)⟩
  · exact p.elim
theorem o1_neg : Op1 K (rU fun i => .int (-i)) kNeg := fun E H m hs d v Q hr r1 p => by
  unfold kNeg at p
  split at p
  · cases r1
    exact ⟨_, rfl, p.here hr (.int _)⟩
  · exact p.elim
end
section
variable {X : Cx} {E : XK} {a b : Expr} {f g : CE} {pos : Pos}
theorem s_add (ha : SE X E a f) (hb : SE X E b g) : SE X E (.BinOp a .Add b pos) (c2 kAdd f g) := PE.imp (pe_op o_add ha hb) (imp2 o2_add)
theorem s_sub (ha : SE X E a f) (hb : SE X E b g) : SE X E (.BinOp a .Sub b pos) (c2 kSub f g) := PE.imp (pe_op op_sub ha hb) (imp2 o2_sub)
theorem s_mul (ha : SE X E a f) (hb : SE X E b g) : SE X E (.BinOp a .Mult b pos) (c2 kMul f g) := PE.imp (pe_op o_mul ha hb) (imp2 o2_mul)
theorem s_fdiv (ha : SE X E a f) (hb : SE X E b g) : SE X E (.BinOp a .FloorDiv b pos) (c2 kDiv f g) := PE.imp (pe_op op_fdivW ha hb) (imp2 o2_div)
theorem s_mod (ha : SE X E a f) (hb : SE X E b g) : SE X E (.BinOp a .Mod b pos) (c2 kMod f g) := PE.imp (pe_op op_mod ha hb) (imp2 o2_mod)
theorem s_pow (ha : SE X E a f) (hb : SE X E b g) : SE X E (.BinOp a .Pow b pos) (c2 kPow f g) := PE.imp (pe_op o_pow ha hb) (imp2 o2_pow)
theorem s_neg (ha : SE X E a f) : SE X E (.UnaryOp .USub a pos) (c1 kNeg f) := PE.imp (pe_un un_neg ha) (imp1 o1_neg)
end
end PL

set_option Elab.async false
set_option linter.all false
set_option maxRecDepth 100000
set_option maxHeartbeats 4000000
set_option autoImplicit false
namespace PL
open PySem PySem.Spec PyProof.Rows L2
/-! ## tests -/
abbrev ST (X : Cx) (E : XK) (e : Expr) (f : CE) : Prop := PT X e (tTest (tE (kc X E) E f))
def cAnd (f g : CE) : CE := fun σ hs => (f σ hs).bind fun x hs => match x with
  | .bl true => g σ hs
  | .bl false => .ok (.bl false) hs
  | _ => .stuck
def cOr (f g : CE) : CE := fun σ hs => (f σ hs).bind fun x hs => match x with
  | .bl true => .ok (.bl true) hs
  | .bl false => g σ hs
  | _ => .stuck
def kNot : D → List Ob → R D
  | .bl b, hs => .ok (.bl (!b)) hs
  | _, _ => .stuck
def cIf (c f g : CE) : CE := fun σ hs => (c σ hs).bind fun x hs => match x with
  | .bl true => f σ hs
  | .bl false => g σ hs
  | _ => .stuck
section
variable {K : Kc} {E : XK} {f g k : CE} {τ : Lt} {H : Hp}
theorem tE_mono {Q Q' : VK} (h : tE K E f τ H Q) (q : ∀ v H, Q v H → Q' v H) : tE K E f τ H Q' := by
  obtain ⟨m, σ, hs, hr, rs, p⟩ := h
  exact ⟨m, σ, hs, hr, rs, p.mono q⟩
theorem imp_and {Q : Bool → Hp → Prop} (h : tTest (tE K E (cAnd f g)) τ H Q) : tAnd (tTest (tE K E f)) (tTest (tE K E g)) τ H Q := by
  refine tE_mono (tE_bind (τ := τ) (f := f) h) fun v H1 ⟨m, σ, hs, d, hr, rs, rd, p⟩ => ?_
  split at p
  · exact ⟨true, rd_bl rd, iteT ⟨m, σ, hs, hr, rs, p⟩⟩
  · obtain ⟨c, e, q⟩ := p.here hr (.bl false)
    cases e
    exact ⟨false, rd_bl rd, iteF q⟩
  · exact p.elim
theorem imp_or {Q : Bool → Hp → Prop} (h : tTest (tE K E (cOr f g)) τ H Q) : tOr (tTest (tE K E f)) (tTest (tE K E g)) τ H Q := by
  refine tE_mono (tE_bind (τ := τ) (f := f) h) fun v H1 ⟨m, σ, hs, d, hr, rs, rd, p⟩ => ?_
  split at p
  · obtain ⟨c, e, q⟩ := p.here hr (.bl true)
    cases e
    exact ⟨true, rd_bl rd, iteT q⟩
  · exact ⟨false, rd_bl rd, iteF ⟨m, σ, hs, hr, rs, p⟩⟩
  · exact p.elim
theorem imp_not {Q : Bool → Hp → Prop} (h : tTest (tE K E (c1 kNot f)) τ H Q) : tNot (tTest (tE K E f)) τ H Q := by
  refine tE_mono (tE_bind (τ := τ) (f := f) (g := fun x _ hs => kNot x hs) h) fun v H1 ⟨m, σ, hs, d, hr, rs, rd, p⟩ => ?_
  unfold kNot at p
  split at p
  · obtain ⟨c, e, q⟩ := p.here hr (.bl _)
    cases e
    exact ⟨_, rd_bl rd, q⟩
  · exact p.elim
theorem imp_andV {Q : VK} (h : tE K E (cAnd f g) τ H Q) : tAndV (tE K E f) (tE K E g) τ H Q := by
  refine tE_mono (tE_bind (τ := τ) (f := f) h) fun v H1 ⟨m, σ, hs, d, hr, rs, rd, p⟩ => ?_
  split at p
  · exact ⟨true, rd_bl rd, iteT ⟨m, σ, hs, hr, rs, p⟩⟩
  · exact ⟨false, rd_bl rd, iteF (p.here hr (.bl false))⟩
  · exact p.elim
theorem imp_orV {Q : VK} (h : tE K E (cOr f g) τ H Q) : tOrV (tE K E f) (tE K E g) τ H Q := by
  refine tE_mono (tE_bind (τ := τ) (f := f) h) fun v H1 ⟨m, σ, hs, d, hr, rs, rd, p⟩ => ?_
  split at p
  · exact ⟨true, rd_bl rd, iteT (p.here hr (.bl true))⟩
  · exact ⟨false, rd_bl rd, iteF ⟨m, σ, hs, hr, rs, p⟩⟩
  · exact p.elim
theorem imp_notV {Q : VK} (h : tE K E (c1 kNot f) τ H Q) : tNotV (tE K E f) τ H Q := by
  refine tE_mono (tE_bind (τ := τ) (f := f) (g := fun x _ hs => kNot x hs) h) fun v H1 ⟨m, σ, hs, d, hr, rs, rd, p⟩ => ?_
  unfold kNot at p
  split at p
  · exact ⟨_, rd_bl rd, p.here hr (.bl _)⟩
  · exact p.elim
theorem imp_if {Q : VK} (h : tE K E (cIf k f g) τ H Q) : tIf (tTest (tE K E k)) (tE K E f) (tE K E g) τ H Q := by
  refine tE_mono (tE_bind (τ := τ) (f := k) h) fun v H1 ⟨m, σ, hs, d, hr, rs, rd, p⟩ => ?_
  split at p
  · exact ⟨true, rd_bl rd, iteT ⟨m, σ, hs, hr, rs, p⟩⟩
  · exact ⟨false, rd_bl rd, iteF ⟨m, σ, hs, hr, rs, p⟩⟩
  · exact p.elim
end
section
variable {X : Cx} {E : XK} {a b c : Expr} {f g k : CE} {rest : List Expr} {pos : Pos}
theorem st_val (h : SE X E a f) (he : ∀ whole, isTrue a X.env whole = (do let v ← whole; standAt a.pos; holding [v] (truthy v)) := by intro _; rfl) : ST X E a f := pt_val h he
abbrev SW (X : Cx) (E : XK) (e : Expr) (f : CE) : Prop := PW X e (tTest (tE (kc X E) E f))
theorem sw_pt (h : SW X E a f) : ST X E a f := h.pt
theorem sw_and1 (h : ST X E a f) : SW X E (.BoolOp .And [a] pos) f := pw_and1 h
theorem sw_or1 (h : ST X E a f) : SW X E (.BoolOp .Or [a] pos) f := pw_or1 h
theorem sw_and (ha : ST X E a f) (hb : SW X E (.BoolOp .And (b :: rest) pos) g) : SW X E (.BoolOp .And (a :: b :: rest) pos) (cAnd f g) := PW.imp (pw_and ha hb) fun _ _ _ => imp_and
theorem sw_or (ha : ST X E a f) (hb : SW X E (.BoolOp .Or (b :: rest) pos) g) : SW X E (.BoolOp .Or (a :: b :: rest) pos) (cOr f g) := PW.imp (pw_or ha hb) fun _ _ _ => imp_or
theorem st_not (h : ST X E a f) : ST X E (.UnaryOp .Not a pos) (c1 kNot f) := PT.imp (pt_not h) fun _ _ _ => imp_not
theorem s_one {op} (h : SE X E a f) : SE X E (.BoolOp op [a] pos) f := pe_one h
theorem s_and (ha : SE X E a f) (hb : SE X E (.BoolOp .And (b :: rest) pos) g) : SE X E (.BoolOp .And (a :: b :: rest) pos) (cAnd f g) := PE.imp (pe_and ha hb) fun _ _ _ => imp_andV
theorem s_or (ha : SE X E a f) (hb : SE X E (.BoolOp .Or (b :: rest) pos) g) : SE X E (.BoolOp .Or (a :: b :: rest) pos) (cOr f g) := PE.imp (pe_or ha hb) fun _ _ _ => imp_orV
theorem s_not (h : SE X E a f) : SE X E (.UnaryOp .Not a pos) (c1 kNot f) := PE.imp (pe_not h) fun _ _ _ => imp_notV
theorem s_if (hc : ST X E c k) (ha : SE X E a f) (hb : SE X E b g) : SE X E (.IfExp c a b pos) (cIf k f g) := PE.imp (pe_ifExp hc ha hb) fun _ _ _ => imp_if
end
/-! ## comparisons -/
/-! data as the library has it -/
mutual
def py : D → Option PyData
  | .non => some .none
  | .bl b => some (.bool b)
  | .int i => some (.int i)
  | .str x => some (.str x)
  | .tup xs => (pys xs).map .tuple
  | .fl xs => (pys xs).map .list
  | _ => none
def pys : List D → Option (List PyData)
  | [] => some []
  | d :: ds => match py d, pys ds with
    | some p, some ps => some (p :: ps)
    | _, _ => none
end
section
variable {K : Kc} {H : Hp} {m : Mp}
mutual
theorem RD.dp : ∀ {d : D} {v : V} {p : PyData}, RD K H m d v → py d = some p → Dp K H v p
  | _, _, _, .non, e => by cases e; exact .non
  | _, _, _, .bl b, e => by cases e; exact .bl b
  | _, _, _, .int i, e => by cases e; exact .int i
  | _, _, _, .str x, e => by cases e; exact .str x
  | _, _, _, .tup (ds := ds) z r, e => by
    unfold py at e
    cases q : pys ds with
    | none => rw [q] at e; cases e
    | some ps => rw [q] at e; cases e; exact .tup z.sq (RDs.dps r q)
  | _, _, _, .fl (ds := ds) z n r, e => by
    unfold py at e
    cases q : pys ds with
    | none => rw [q] at e; cases e
    | some ps => rw [q] at e; cases e; exact .lst (SqL.of z) (RDs.dps r q)
  | _, _, _, .fd z n r, e => by unfold py at e; cases e
  | _, _, _, .frz z r, e => by unfold py at e; cases e
  | _, _, _, .ref z, e => by unfold py at e; cases e
theorem RDs.dps : ∀ {ds : List D} {vs : List V} {ps : List PyData}, RDs K H m ds vs → pys ds = some ps → DpAll K H vs ps
  | _, _, _, .nil, e => by unfold pys at e; cases e; exact .nil
  | _, _, _, .cons (d := d) (ds := ds) r t, e => by
    unfold pys at e
    cases q1 : py d with
    | none => rw [q1] at e; cases e
    | some p =>
      cases q2 : pys ds with
      | none => rw [q1, q2] at e; cases e
      | some ps => rw [q1, q2] at e; cases e; exact .cons (RD.dp r q1) (RDs.dps t q2)
end
end
def eqB (a b : D) : Option Bool := match py a, py b with
  | some p, some q => if SeqAt.shaped p = true ∧ SeqAt.shaped q = true then some (PyData.eqv p q) else none
  | _, _ => none
/-- the pairs of a dict -/
def dctOf (hs : List Ob) : D → Option (List (Key × D))
  | .fd kvs => some kvs
  | .ref i => match hs[i]? with
    | some (.dct kvs) => some kvs
    | _ => none
  | _ => none
def eqK (a b : D) (hs : List Ob) : Option Bool := match eqB a b with
  | some c => some c
  | none => match dctOf hs a, dctOf hs b with
    | some ks, some ls => if ks.isEmpty = true ∨ ls.isEmpty = true then some (ks.isEmpty && ls.isEmpty) else none
    | _, _ => none
/-- two numbers, two texts -/
def scD : D → D → Option Bool
  | .int a, .int b => some (decide (a = b))
  | .str a, .str b => some (decide (a = b))
  | _, _ => none
def kEq (a b : D) (hs : List Ob) : R D := match scD a b with
  | some c => .ok (.bl c) hs
  | none => match eqK a b hs with
    | some c => .ok (.bl c) hs
    | none => .stuck
def kNe (a b : D) (hs : List Ob) : R D := match scD a b with
  | some c => .ok (.bl (!c)) hs
  | none => match eqK a b hs with
    | some c => .ok (.bl (!c)) hs
    | none => .stuck
def rEqE (n : Bool) : R2 := fun x y H Q => ∃ a b ks ls, x = .ref a ∧ y = .ref b ∧ H a = some (.dK ks) ∧ H b = some (.dK ls) ∧ (ks.isEmpty = true ∨ ls.isEmpty = true) ∧ Q (.bl (n != (ks.isEmpty && ls.isEmpty))) H
section
variable {X : Cx}
theorem kv_empty {κ : Type} {kvs : List (κ × V)} {vs : List (κ × Value)} (r : KV kvs vs) : kvs.isEmpty = vs.isEmpty := by
  cases r <;> rfl
theorem nil_of {α : Type} {va vb : List α} (h : va.isEmpty = true ∨ vb.isEmpty = true) (e : va.length = vb.length) : va = [] := by
  rcases h with h | h
  · exact List.isEmpty_iff.mp h
  · rw [List.isEmpty_iff.mp h] at e
    exact List.eq_nil_of_length_eq_zero e
theorem len_beq {α : Type} {va vb : List α} (h : va.isEmpty = true ∨ vb.isEmpty = true) : (va.length == vb.length && true) = (va.isEmpty && vb.isEmpty) := by
  cases va <;> cases vb <;> simp_all
theorem o_eqE (hu : X.A.units < cLine) : OpR X (compareOp .Eq) (rEqE false) := by
  intro pins s σ H x y v u Q I rx ry h
  obtain ⟨a, b, ks, ls, rfl, rfl, ea, eb, hc, q⟩ := h
  obtain rfl : v = Value.ref a := rx
  obtain rfl : u = Value.ref b := ry
  obtain ⟨_, ya, va, ra, da⟩ := (show ObjOk X.prog X.w H s.heap a (.dK ks) from I.hok a _ ea)
  obtain ⟨_, yb, vb, rb, db⟩ := (show ObjOk X.prog X.w H s.heap b (.dK ls) from I.hok b _ eb)
  rw [kv_empty ra, kv_empty rb] at hc q
  exact PySem.W.keq_eq (knd := mixKind X.prog X.w) (r := true) ya yb da db hu (fun e => by rw [nil_of hc e]; exact .nil) (fin_bl I q (by rw [len_beq hc]; simp))
theorem o_neE (hu : X.A.units < cLine) : OpR X (compareOp .NotEq) (rEqE true) := by
  intro pins s σ H x y v u Q I rx ry h
  obtain ⟨a, b, ks, ls, rfl, rfl, ea, eb, hc, q⟩ := h
  obtain rfl : v = Value.ref a := rx
  obtain rfl : u = Value.ref b := ry
  obtain ⟨_, ya, va, ra, da⟩ := (show ObjOk X.prog X.w H s.heap a (.dK ks) from I.hok a _ ea)
  obtain ⟨_, yb, vb, rb, db⟩ := (show ObjOk X.prog X.w H s.heap b (.dK ls) from I.hok b _ eb)
  rw [kv_empty ra, kv_empty rb] at hc q
  exact PySem.W.keq_ne (knd := mixKind X.prog X.w) (r := true) ya yb da db hu (fun e => by rw [nil_of hc e]; exact .nil) (fin_bl I q (by rw [len_beq hc]; simp))
end

section
variable {K : Kc}
theorem dct_rd {H : Hp} {m : Mp} {hs : List Ob} {d : D} {v : V} {kvs : List (Key × D)} (hr : HR K H m hs) (r : RD K H m d v) (e : dctOf hs d = some kvs) : ∃ a vs, v = .ref a ∧ H a = some (.dK vs) ∧ RDk K H m kvs vs := by
  cases r with
  | fd z n q =>
    have e' : _ = kvs := Option.some.inj e
    subst e'
    exact ⟨_, _, rfl, z, q⟩
  | ref z =>
    rename_i a i
    have e' : (match hs[i]? with | some (.dct kvs) => some kvs | _ => none) = some kvs := e
    split at e'
    · rename_i kv e3
      cases e'
      obtain ⟨vs, q1, q2⟩ := hr.ob _ _ _ e3 z
      exact ⟨_, vs, rfl, q1, q2⟩
    · cases e'
  | _ => cases e
theorem RDk.empty {H : Hp} {m : Mp} : ∀ {ds : List (Key × D)} {vs : List (Key × V)}, RDk K H m ds vs → ds.isEmpty = vs.isEmpty
  | _, _, .nil => rfl
  | _, _, .cons _ _ => rfl
def rEqAll (K : PySem.W.Frag) : R2 := fun x y H Q => (rEqD K x y H Q ∨ rEqE false x y H Q) ∨ rEq x y H Q
def rNeAll (K : PySem.W.Frag) : R2 := fun x y H Q => (rNeD K x y H Q ∨ rEqE true x y H Q) ∨ rNe x y H Q
theorem eqK_use {H : Hp} {m : Mp} {hs : List Ob} {a b : D} {v w : V} {c : Bool} (hr : HR K H m hs) (r1 : RD K H m a v) (r2 : RD K H m b w) (e : eqK a b hs = some c) :
    (∃ p q, Dp K H v p ∧ Dp K H w q ∧ SeqAt.shaped p = true ∧ SeqAt.shaped q = true ∧ c = PyData.eqv p q) ∨
      ∃ x y ks ls, v = .ref x ∧ w = .ref y ∧ H x = some (.dK ks) ∧ H y = some (.dK ls) ∧ (ks.isEmpty = true ∨ ls.isEmpty = true) ∧ c = (ks.isEmpty && ls.isEmpty) := by
  unfold eqK at e
  cases q : eqB a b with
  | some c' =>
    rw [q] at e
    cases e
    unfold eqB at q
    split at q
    · rename_i p1 p2 e1 e2
      split at q
      · rename_i sh
        cases q
        exact .inl ⟨p1, p2, r1.dp e1, r2.dp e2, sh.1, sh.2, rfl⟩
      · cases q
    · cases q
  | none =>
    rw [q] at e
    dsimp only at e
    split at e
    · rename_i ks ls e1 e2
      obtain ⟨x, vs, rfl, h1, q1⟩ := dct_rd hr r1 e1
      obtain ⟨y, ws, rfl, h2, q2⟩ := dct_rd hr r2 e2
      rw [q1.empty, q2.empty] at e
      split at e
      · rename_i z
        cases e
        exact .inr ⟨x, y, vs, ws, rfl, rfl, h1, h2, z, rfl⟩
      · cases e
    · cases e
theorem scD_use {H : Hp} {m : Mp} {a b : D} {v w : V} {c : Bool} (r1 : RD K H m a v) (r2 : RD K H m b w) (e : scD a b = some c) : scal v w = true ∧ c = decide (v = w) := by
  unfold scD at e
  split at e
  · cases r1
    cases r2
    cases e
    refine ⟨rfl, ?_⟩
    simp
  · cases r1
    cases r2
    cases e
    refine ⟨rfl, ?_⟩
    simp
  · cases e
theorem o2_eq : Op2 K (rEqAll K) kEq := fun E H m hs d d2 v w Q hr r1 r2 p => by
  unfold kEq at p
  split at p
  · rename_i c e
    have q := p.here hr (.bl c)
    obtain ⟨z1, rfl⟩ := scD_use r1 r2 e
    exact .inr ⟨z1, q⟩
  · split at p
    · rename_i c e
      have q := p.here hr (.bl c)
      rcases eqK_use hr r1 r2 e with ⟨p1, p2, h1, h2, s1, s2, rfl⟩ | ⟨x, y, ks, ls, rfl, rfl, h1, h2, h3, rfl⟩
      · exact .inl (.inl ⟨p1, p2, h1, h2, s1, s2, q⟩)
      · exact .inl (.inr ⟨x, y, ks, ls, rfl, rfl, h1, h2, h3, by simpa using q⟩)
    · exact p.elim
theorem o2_ne : Op2 K (rNeAll K) kNe := fun E H m hs d d2 v w Q hr r1 r2 p => by
  unfold kNe at p
  split at p
  · rename_i c e
    have q := p.here hr (.bl (!c))
    obtain ⟨z1, rfl⟩ := scD_use r1 r2 e
    exact .inr ⟨z1, q⟩
  · split at p
    · rename_i c e
      have q := p.here hr (.bl (!c))
      rcases eqK_use hr r1 r2 e with ⟨p1, p2, h1, h2, s1, s2, rfl⟩ | ⟨x, y, ks, ls, rfl, rfl, h1, h2, h3, rfl⟩
      · exact .inl (.inl ⟨p1, p2, h1, h2, s1, s2, q⟩)
      · exact .inl (.inr ⟨x, y, ks, ls, rfl, rfl, h1, h2, h3, by simpa using q⟩)
    · exact p.elim
end
def kLt : D → D → List Ob → R D
  | .int a, .int b, hs => .ok (.bl (decide (a < b))) hs
  | .str a, .str b, hs => .ok (.bl (decide (a.cps.toList < b.cps.toList))) hs
  | _, _, _ => .stuck
def kLe : D → D → List Ob → R D
  | .int a, .int b, hs => .ok (.bl (decide (a ≤ b))) hs
  | _, _, _ => .stuck
def kGt : D → D → List Ob → R D
  | .int a, .int b, hs => .ok (.bl (decide (b < a))) hs
  | _, _, _ => .stuck
def kGe : D → D → List Ob → R D
  | .int a, .int b, hs => .ok (.bl (decide (b ≤ a))) hs
  | _, _, _ => .stuck
def rLtAll : R2 := fun x y H Q => rI0 (fun i j => .bl (decide (i < j))) x y H Q ∨ ∃ i j, x = .str i ∧ y = .str j ∧ Q (.bl (decide (i.cps.toList < j.cps.toList))) H
theorem o_lt {X : Cx} : OpR X (compareOp .Lt) rLtAll := op_lt.or op_lt_str
section
variable {K : Kc}
theorem o2_lt : Op2 K rLtAll kLt := fun E H m hs d d2 v w Q hr r1 r2 p => by
  unfold kLt at p
  split at p
  · cases r1
    cases r2
    exact .inl ⟨_, _, rfl, rfl, p.here hr (.bl _)⟩
  · cases r1
    cases r2
    exact .inr ⟨_, _, rfl, rfl, p.here hr (.bl _)⟩
  · exact p.elim
theorem o2_le : Op2 K (rI0 fun i j => .bl (decide (i ≤ j))) kLe := fun E H m hs d d2 v w Q hr r1 r2 p => by
  unfold kLe at p
  split at p
  · cases r1
    cases r2
    exact ⟨_, _, rfl, rfl, p.here hr (.bl _)⟩
  · exact p.elim
theorem o2_gt : Op2 K (rI0 fun i j => .bl (decide (j < i))) kGt := fun E H m hs d d2 v w Q hr r1 r2 p => by
  unfold kGt at p
  split at p
  · cases r1
    cases r2
    exact ⟨_, _, rfl, rfl, p.here hr (.bl _)⟩
  · exact p.elim
theorem o2_ge : Op2 K (rI0 fun i j => .bl (decide (j ≤ i))) kGe := fun E H m hs d d2 v w Q hr r1 r2 p => by
  unfold kGe at p
  split at p
  · cases r1
    cases r2
    exact ⟨_, _, rfl, rfl, p.here hr (.bl _)⟩
  · exact p.elim
end
def kIsN (d : D) (hs : List Ob) : R D := match d with
  | .non => .ok (.bl true) hs
  | _ => .ok (.bl false) hs
def kNotN (d : D) (hs : List Ob) : R D := match d with
  | .non => .ok (.bl false) hs
  | _ => .ok (.bl true) hs
section
variable {X : Cx} {E : XK} {a b c : Expr} {f g k : CE} {pos : Pos}
theorem s_eq {n : Nat} (hr : Room n X.A) (ha : SE X E a f) (hb : SE X E b g) : SE X E (.Compare a [.Eq] [b] pos) (c2 kEq f g) := PE.imp (pe_cmpR (((op_eqD hr.units).or (o_eqE hr.units0)).or op_eq) ha hb (nomark _)) (imp2 o2_eq)
theorem s_ne {n : Nat} (hr : Room n X.A) (ha : SE X E a f) (hb : SE X E b g) : SE X E (.Compare a [.NotEq] [b] pos) (c2 kNe f g) := PE.imp (pe_cmpR (((op_neD hr.units).or (o_neE hr.units0)).or op_ne) ha hb (nomark _)) (imp2 o2_ne)
theorem s_lt (ha : SE X E a f) (hb : SE X E b g) : SE X E (.Compare a [.Lt] [b] pos) (c2 kLt f g) := PE.imp (pe_cmpR o_lt ha hb (nomark _)) (imp2 o2_lt)
theorem s_le (ha : SE X E a f) (hb : SE X E b g) : SE X E (.Compare a [.LtE] [b] pos) (c2 kLe f g) := PE.imp (pe_cmpR op_le ha hb (nomark _)) (imp2 o2_le)
theorem s_gt (ha : SE X E a f) (hb : SE X E b g) : SE X E (.Compare a [.Gt] [b] pos) (c2 kGt f g) := PE.imp (pe_cmpR op_gt ha hb (nomark _)) (imp2 o2_gt)
theorem s_ge (ha : SE X E a f) (hb : SE X E b g) : SE X E (.Compare a [.GtE] [b] pos) (c2 kGe f g) := PE.imp (pe_cmpR op_ge ha hb (nomark _)) (imp2 o2_ge)
theorem st_eq {n : Nat} (hr : Room n X.A) (ha : SE X E a f) (hb : SE X E b g) : ST X E (.Compare a [.Eq] [b] pos) (c2 kEq f g) := PT.imp (pt_cmpR (((op_eqD hr.units).or (o_eqE hr.units0)).or op_eq) ha hb (nomark _)) fun _ _ _ h => imp2 o2_eq _ _ _ h
theorem st_ne {n : Nat} (hr : Room n X.A) (ha : SE X E a f) (hb : SE X E b g) : ST X E (.Compare a [.NotEq] [b] pos) (c2 kNe f g) := PT.imp (pt_cmpR (((op_neD hr.units).or (o_neE hr.units0)).or op_ne) ha hb (nomark _)) fun _ _ _ h => imp2 o2_ne _ _ _ h
theorem st_lt (ha : SE X E a f) (hb : SE X E b g) : ST X E (.Compare a [.Lt] [b] pos) (c2 kLt f g) := PT.imp (pt_cmpR o_lt ha hb (nomark _)) fun _ _ _ h => imp2 o2_lt _ _ _ h
theorem st_le (ha : SE X E a f) (hb : SE X E b g) : ST X E (.Compare a [.LtE] [b] pos) (c2 kLe f g) := PT.imp (pt_cmpR op_le ha hb (nomark _)) fun _ _ _ h => imp2 o2_le _ _ _ h
theorem st_gt (ha : SE X E a f) (hb : SE X E b g) : ST X E (.Compare a [.Gt] [b] pos) (c2 kGt f g) := PT.imp (pt_cmpR op_gt ha hb (nomark _)) fun _ _ _ h => imp2 o2_gt _ _ _ h
theorem st_ge (ha : SE X E a f) (hb : SE X E b g) : ST X E (.Compare a [.GtE] [b] pos) (c2 kGe f g) := PT.imp (pt_cmpR op_ge ha hb (nomark _)) fun _ _ _ h => imp2 o2_ge _ _ _ h
/-- is None -/
theorem rd_non {K : Kc} {H : Hp} {m : Mp} {d : D} {v : V} (r : RD K H m d v) : decide (v = .non) = (match d with | .non => true | _ => false) := by
  cases r <;> rfl
theorem o1_isN {K : Kc} : Op1 K (fun x H Q => Q (.bl (decide (x = .non))) H) kIsN := fun E H m hs d v Q hr r p => by
  show Q (.bl (decide (v = .non))) H
  rw [rd_non r]
  unfold kIsN at p
  cases d <;> exact p.here hr (.bl _)
theorem o1_notN {K : Kc} : Op1 K (fun x H Q => Q (.bl (!decide (x = .non))) H) kNotN := fun E H m hs d v Q hr r p => by
  show Q (.bl (!decide (v = .non))) H
  rw [rd_non r]
  unfold kNotN at p
  cases d <;> exact p.here hr (.bl _)
theorem s_isN {j pos'} (ha : SE X E a f) : SE X E (.Compare a [.Is] [.Constant .none j pos'] pos) (c1 kIsN f) := PE.imp (pe_cmp (pc_isN ha) rfl) (imp1 o1_isN)
theorem s_notN {j pos'} (ha : SE X E a f) : SE X E (.Compare a [.IsNot] [.Constant .none j pos'] pos) (c1 kNotN f) := PE.imp (pe_cmp (pc_notN ha) rfl) (imp1 o1_notN)
theorem st_isN {j pos'} (ha : SE X E a f) : ST X E (.Compare a [.Is] [.Constant .none j pos'] pos) (c1 kIsN f) := PT.imp (pt_cmp (pc_isN ha) rfl) fun _ _ _ h => imp1 o1_isN _ _ _ h
theorem st_notN {j pos'} (ha : SE X E a f) : ST X E (.Compare a [.IsNot] [.Constant .none j pos'] pos) (c1 kNotN f) := PT.imp (pt_cmp (pc_notN ha) rfl) fun _ _ _ h => imp1 o1_notN _ _ _ h
end
end PL

set_option Elab.async false
set_option linter.all false
set_option maxRecDepth 100000
set_option maxHeartbeats 4000000
set_option autoImplicit false
namespace PL
open PySem PySem.Spec PyProof.Rows L2
/-! ## argument lists -/
def PostA (K : Kc) (E : XK) (m : Mp) (H : Hp) (r : R (List D)) (Q : List V → Hp → Prop) : Prop := match r with
  | .ok ds hs' => ∀ vs m' H', Stp m H m' H' → HR K H' m' hs' → RDs K H' m' ds vs → Q vs H'
  | .exn x hs' => ∀ c od m' H', Stp m H m' H' → HR K H' m' hs' → RX K H' m' x c od → E c od H'
  | .stuck => False
def tA (K : Kc) (E : XK) (f : CA) : TA := fun τ H Q => ∃ m σ hs, HR K H m hs ∧ RSl K H m σ τ ∧ PostA K E m H (f σ hs) Q
abbrev SA (X : Cx) (E : XK) (es : List Expr) (f : CA) : Prop := PA X es (tA (kc X E) E f)
def cNil : CA := fun _ hs => .ok [] hs
def cCons (f : CE) (g : CA) : CA := fun σ hs => (f σ hs).bind fun x hs => (g σ hs).bind fun xs hs => .ok (x :: xs) hs
/-- the items of a list, of a tuple -/
def lstOf (hs : List Ob) : D → Option (List D)
  | .fl xs => some xs
  | .frz xs => some xs
  | .ref i => match hs[i]? with
    | some (.lst xs) => some xs
    | _ => none
  | _ => none
def seqOf (hs : List Ob) : D → Option (List D)
  | .tup xs => some xs
  | d => lstOf hs d
def cStar (f : CE) (g : CA) : CA := fun σ hs => (f σ hs).bind fun x hs => match seqOf hs x with
  | some xs => (g σ hs).bind fun ys hs => .ok (xs ++ ys) hs
  | none => .stuck
section
variable {K : Kc} {E : XK} {H H' : Hp} {m m' : Mp} {hs : List Ob} {τ : Lt}
theorem PostA.mono {Q Q' : List V → Hp → Prop} {r : R (List D)} (h : PostA K E m H r Q) (q : ∀ v H, Q v H → Q' v H) : PostA K E m H r Q' := by
  cases r with
  | ok d hs' => exact fun v m' H' s r1 r2 => q _ _ (h v m' H' s r1 r2)
  | exn x hs' => exact h
  | stuck => exact h
theorem PostA.step {Q : List V → Hp → Prop} {r : R (List D)} (s : Stp m H m' H') (h : PostA K E m H r Q) : PostA K E m' H' r Q := by
  cases r with
  | ok d hs' => exact fun v m2 H2 s2 r1 r2 => h v m2 H2 (s.trans s2) r1 r2
  | exn x hs' => exact fun c od m2 H2 s2 r1 r2 => h c od m2 H2 (s.trans s2) r1 r2
  | stuck => exact h
theorem PostA.here {Q : List V → Hp → Prop} {ds : List D} {vs : List V} (hr : HR K H m hs) (r : RDs K H m ds vs) (h : PostA K E m H (.ok ds hs) Q) : Q vs H := h vs m H hr.stp hr r
theorem lst_rd {d : D} {v : V} {xs : List D} (hr : HR K H m hs) (r : RD K H m d v) (e : lstOf hs d = some xs) : ∃ a vs, v = .ref a ∧ SqL K H a vs ∧ RDs K H m xs vs := by
  cases r with
  | fl z n q =>
    have e' : _ = xs := Option.some.inj e
    subst e'
    exact ⟨_, _, rfl, SqL.of z, q⟩
  | frz z q =>
    have e' : _ = xs := Option.some.inj e
    subst e'
    exact ⟨_, _, rfl, z.sq, q⟩
  | ref z =>
    rename_i a i
    have e' : (match hs[i]? with | some (.lst kvs) => some kvs | _ => none) = some xs := e
    split at e'
    · rename_i kv e3
      cases e'
      obtain ⟨vs, q1, q2⟩ := hr.ob _ _ _ e3 z
      exact ⟨_, vs, rfl, SqL.of q1, q2⟩
    · cases e'
  | _ => cases e
theorem seq_rd {d : D} {v : V} {xs : List D} (hr : HR K H m hs) (r : RD K H m d v) (e : seqOf hs d = some xs) : ∃ a vs, v = .ref a ∧ (SqT K H a vs ∨ SqL K H a vs) ∧ RDs K H m xs vs := by
  cases d with
  | tup ys =>
    have e' : ys = xs := Option.some.inj e
    subst e'
    cases r with
    | tup z q => exact ⟨_, _, rfl, .inl z.sq, q⟩
  | _ =>
    obtain ⟨a, vs, h1, h2, h3⟩ := lst_rd hr r e
    exact ⟨a, vs, h1, .inr h2, h3⟩
/-- first an expression, then the rest -/
theorem tA_bind {f : CE} {g : D → CA} {Q : List V → Hp → Prop} (h : tA K E (fun σ hs => (f σ hs).bind fun d hs => g d σ hs) τ H Q) :
    tE K E f τ H fun v H1 => ∃ m σ hs d, HR K H1 m hs ∧ RSl K H1 m σ τ ∧ RD K H1 m d v ∧ PostA K E m H1 (g d σ hs) Q := by
  obtain ⟨m, σ, hs, hr, rs, p⟩ := h
  refine ⟨m, σ, hs, hr, rs, ?_⟩
  dsimp only at p
  cases e : f σ hs with
  | ok d hs1 =>
    rw [e] at p
    exact fun v m1 H1 s1 hr1 rd => ⟨m1, σ, hs1, d, hr1, rs.mono s1, rd, PostA.step s1 p⟩
  | exn x hs1 => rw [e] at p; exact p
  | stuck => rw [e] at p; exact p
theorem imp_cons {f : CE} {g : CA} {Q : List V → Hp → Prop} (h : tA K E (cCons f g) τ H Q) : tCons (tE K E f) (tA K E g) τ H Q := by
  refine tE_mono (tA_bind (τ := τ) (f := f) h) fun v H1 ⟨m, σ, hs, d, hr, rs, rd, p⟩ => ⟨m, σ, hs, hr, rs, ?_⟩
  cases e : g σ hs with
  | ok ds hs1 =>
    rw [e] at p
    exact fun vs m1 H1 s1 hr1 r1 => PostA.here hr1 (.cons (rd.mono s1) r1) (PostA.step s1 p)
  | exn x hs1 => rw [e] at p; exact p
  | stuck => rw [e] at p; exact p
theorem imp_star {f : CE} {g : CA} {Q : List V → Hp → Prop} (h : tA K E (cStar f g) τ H Q) : StX.tStar K (tE K E f) (tA K E g) τ H Q := by
  refine tE_mono (tA_bind (τ := τ) (f := f) (g := fun x σ hs => match seqOf hs x with
  | some xs => (g σ hs).bind fun ys hs => .ok (xs ++ ys) hs
  | none => .stuck) h) fun v H1 ⟨m, σ, hs, d, hr, rs, rd, p⟩ => ?_
  cases e : seqOf hs d with
  | none => rw [e] at p; exact p.elim
  | some xs =>
    rw [e] at p
    obtain ⟨a, vs, rfl, h1, h2⟩ := seq_rd hr rd e
    refine ⟨a, vs, rfl, h1, m, σ, hs, hr, rs, ?_⟩
    dsimp only at p
    cases e2 : g σ hs with
    | ok ds hs1 =>
      rw [e2] at p
      exact fun ws m1 H1 s1 hr1 r1 => PostA.here hr1 ((h2.mono s1).append r1) (PostA.step s1 p)
    | exn x hs1 => rw [e2] at p; exact p
    | stuck => rw [e2] at p; exact p
/-- an operation on a list of arguments -/
def cF (k : List D → List Ob → R D) (a : CA) : CE := fun σ hs => (a σ hs).bind fun ds hs => k ds hs
def OpA (K : Kc) (r : List V → Hp → VK → Prop) (k : List D → List Ob → R D) : Prop :=
  ∀ (E : XK) (H : Hp) (m : Mp) (hs : List Ob) (ds : List D) (vs : List V) (Q : VK), HR K H m hs → RDs K H m ds vs → Post K E m H (k ds hs) Q → r vs H Q
theorem tE_args {a : CA} {k : List D → List Ob → R D} {Q : VK} (h : tE K E (cF k a) τ H Q) : tA K E a τ H fun vs H1 => ∃ m hs ds, HR K H1 m hs ∧ RDs K H1 m ds vs ∧ Post K E m H1 (k ds hs) Q := by
  obtain ⟨m, σ, hs, hr, rs, p⟩ := h
  refine ⟨m, σ, hs, hr, rs, ?_⟩
  unfold cF at p
  cases e : a σ hs with
  | ok ds hs1 =>
    rw [e] at p
    exact fun v m1 H1 s1 hr1 rd => ⟨m1, hs1, ds, hr1, rd, Post.step s1 p⟩
  | exn x hs1 => rw [e] at p; exact p
  | stuck => rw [e] at p; exact p
theorem tA_mono {a : CA} {Q Q' : List V → Hp → Prop} (h : tA K E a τ H Q) (q : ∀ v H, Q v H → Q' v H) : tA K E a τ H Q' := by
  obtain ⟨m, σ, hs, hr, rs, p⟩ := h
  exact ⟨m, σ, hs, hr, rs, p.mono q⟩
theorem impA {r : List V → Hp → VK → Prop} {k : List D → List Ob → R D} (o : OpA K r k) {a : CA} : ∀ τ H Q, tE K E (cF k a) τ H Q → tCB r (tA K E a) τ H Q := fun τ H Q h =>
  tA_mono (tE_args (τ := τ) h) fun vs H1 ⟨m, hs, ds, hr, rd, p⟩ => o E H1 m hs ds vs Q hr rd p
end
section
variable {X : Cx} {E : XK} {e : Expr} {es : List Expr} {f : CE} {g : CA} {pos : Pos}
theorem a_nil : SA X E [] cNil := PA.imp pa_nil fun τ H Q ⟨m, σ, hs, hr, rs, p⟩ => PostA.here hr .nil p
theorem a_cons (ha : SE X E e f) (hb : SA X E es g) (hs : starEach (e :: es) X.env = (false, eval e X.env) :: starEach es X.env := by rfl) : SA X E (e :: es) (cCons f g) := PA.imp (pa_cons ha hb hs) fun _ _ _ => imp_cons
theorem a_star {p : Pos} (ha : SE X E e f) (hb : SA X E es g) (hs : starEach (.Starred e p :: es) X.env = (true, eval e X.env) :: starEach es X.env := by rfl) : SA X E (.Starred e p :: es) (cStar f g) := PA.imp (StX.pa_star ha hb hs) fun _ _ _ => imp_star
end
/-! ## displays -/
def kTup (ds : List D) (hs : List Ob) : R D := if ds.length ≤ sizeLine then .ok (.tup ds) hs else .stuck
/-- a new list: b tells whether it may change -/
def newL (b : Bool) (ds : List D) (hs : List Ob) : R D := match b with
  | true => .ok (.ref hs.length) (hs ++ [.lst ds])
  | false => .ok (.fl ds) hs
def kLst (b : Bool) (ds : List D) (hs : List Ob) : R D := if ds.length ≤ sizeLine then newL b ds hs else .stuck
def newD (b : Bool) (ds : List (Key × D)) (hs : List Ob) : R D := match b with
  | true => .ok (.ref hs.length) (hs ++ [.dct ds])
  | false => .ok (.fd ds) hs
section
variable {K : Kc} {E : XK} {H H' : Hp} {m m' : Mp} {hs : List Ob}
theorem post_new {b : Bool} {Q : VK} {ds : List D} {vs : List V} {p : Addr} (hr : HR K H m hs) (r : RDs K H m ds vs) (np : H p = none) (h : Post K E m H (newL b ds hs) Q) : Q (.ref p) (upd H p (.lst vs)) := by
  cases b with
  | false => exact post_fl hr r np h
  | true =>
    obtain ⟨s, hr'⟩ := hr.new np (o := .lst vs) (b := .lst ds) ⟨vs, upd_same, r.mono (hr.newS np _)⟩
    refine h _ _ _ s hr' (.ref ?_)
    rw [← hr.len]
    simp [Mp.add]
theorem post_newD {b : Bool} {Q : VK} {ds : List (Key × D)} {vs : List (Key × V)} {p : Addr} (hr : HR K H m hs) (r : RDk K H m ds vs) (np : H p = none) (h : Post K E m H (newD b ds hs) Q) : Q (.ref p) (upd H p (.dK vs)) := by
  cases b with
  | false =>
    have ht := (hr.fresh np (.dK vs))
    exact h _ m _ ht.1 ht.2 (.fd upd_same (hr.notin np) (r.mono ht.1))
  | true =>
    obtain ⟨s, hr'⟩ := hr.new np (o := .dK vs) (b := .dct ds) ⟨vs, upd_same, r.mono (hr.newS np _)⟩
    refine h _ _ _ s hr' (.ref ?_)
    rw [← hr.len]
    simp [Mp.add]
end
section
variable {X : Cx} {E : XK} {es : List Expr} {g : CA} {pos : Pos}
theorem s_tup {x1} (h : SA X E es g) : SE X E (.Tuple es x1 pos) (cF kTup g) := PE.imp (pe_tup h) fun τ H Q h => tA_mono (tE_args (τ := τ) h) fun vs H1 ⟨m, hs, ds, hr, rd, p⟩ => by
  obtain ⟨c, p⟩ := p.ite
  exact ⟨by rw [← rd.length]; exact c, fun q nq => post_tup hr rd nq p⟩
theorem s_lst (b : Bool) (h : SA X E es g) : SE X E (.List es pos) (cF (kLst b) g) := PE.imp (pe_lst h) fun τ H Q h => tA_mono (tE_args (τ := τ) h) fun vs H1 ⟨m, hs, ds, hr, rd, p⟩ => by
  obtain ⟨c, p⟩ := p.ite
  exact ⟨by rw [← rd.length]; exact c, fun q nq => post_new hr rd nq p⟩
end
end PL

set_option Elab.async false
set_option linter.all false
set_option maxRecDepth 100000
set_option maxHeartbeats 4000000
set_option autoImplicit false
namespace PL
open PySem PySem.Spec PyProof.Rows L2
theorem PE.or {X : Cx} {e : Expr} {t t' : TE} (h : PE X e t) (h' : PE X e t') : PE X e (fun σ H Q => t σ H Q ∨ t' σ H Q) :=
  ⟨fun pins s σ H Q I q => q.elim (h.run pins s σ H Q I) (h'.run pins s σ H Q I)⟩
/-! ## dicts as tables -/
section
def valD (kvs : List (Key × D)) (k : Key) : Option D := (kvs.find? fun kv => decide (kv.1 = k)).map (·.2)
def putD (kvs : List (Key × D)) (k : Key) (v : D) : List (Key × D) :=
  if (kvs.any fun kv => decide (kv.1 = k)) = true then kvs.map (fun kv => if kv.1 = k then (kv.1, v) else kv) else kvs ++ [(k, v)]
def mergeD (kvs more : List (Key × D)) : List (Key × D) := more.foldl (fun acc kv => putD acc kv.1 kv.2) kvs
def keyD : D → Option Key
  | .int i => some (.inl i)
  | .str x => some (.inr x)
  | _ => none
def unkey : Key → D
  | .inl i => .int i
  | .inr x => .str x
variable {K : Kc} {H : Hp} {m : Mp}
theorem RDk.val (k : Key) : ∀ {ds : List (Key × D)} {vs : List (Key × V)}, RDk K H m ds vs → (valD ds k = none ∧ valV vs k = none) ∨ ∃ d v, valD ds k = some d ∧ valV vs k = some v ∧ RD K H m d v
  | _, _, .nil => .inl ⟨rfl, rfl⟩
  | _, _, .cons (k := k') (d := d) (v := v) (ds := ds) (vs := vs) r t => by
    by_cases e : k' = k
    · refine .inr ⟨d, v, ?_, valV_pos (p := (k', v)) e, r⟩
      simp [valD, List.find?_cons, e]
    · have h1 : valD ((k', d) :: ds) k = valD ds k := by simp [valD, List.find?_cons, e]
      rw [h1, valV_neg (p := (k', v)) e]
      exact RDk.val k t
theorem RDk.any (k : Key) : ∀ {ds : List (Key × D)} {vs : List (Key × V)}, RDk K H m ds vs → (ds.any fun kv => decide (kv.1 = k)) = vs.any fun kv => decide (kv.1 = k)
  | _, _, .nil => rfl
  | _, _, .cons r t => by rw [List.any_cons, List.any_cons, RDk.any k t]
theorem RDk.append : ∀ {ds es : List (Key × D)} {vs us : List (Key × V)}, RDk K H m ds vs → RDk K H m es us → RDk K H m (ds ++ es) (vs ++ us)
  | _, _, _, _, .nil, s => s
  | _, _, _, _, .cons r t, s => .cons r (RDk.append t s)
theorem RDk.mapIf {d : D} {v : V} (k : Key) (r : RD K H m d v) : ∀ {ds : List (Key × D)} {vs : List (Key × V)}, RDk K H m ds vs →
    RDk K H m (ds.map fun kv => if kv.1 = k then (kv.1, d) else kv) (vs.map fun kv => if kv.1 = k then (kv.1, v) else kv)
  | _, _, .nil => .nil
  | _, _, .cons (k := k') r' t => by
    rw [List.map_cons, List.map_cons]
    by_cases e : k' = k
    · rw [if_pos e, if_pos e]
      exact .cons r (RDk.mapIf k r t)
    · rw [if_neg e, if_neg e]
      exact .cons r' (RDk.mapIf k r t)
theorem RDk.put {d : D} {v : V} (k : Key) (r : RD K H m d v) {ds : List (Key × D)} {vs : List (Key × V)} (h : RDk K H m ds vs) : RDk K H m (putD ds k d) (putK vs k v) := by
  unfold putD putK
  rw [h.any k]
  split
  · exact h.mapIf k r
  · exact h.append (.cons r .nil)
theorem RDk.merge : ∀ {es : List (Key × D)} {us : List (Key × V)} {ds : List (Key × D)} {vs : List (Key × V)}, RDk K H m es us → RDk K H m ds vs → RDk K H m (mergeD ds es) (mergeK vs us)
  | _, _, _, _, .nil, h => h
  | _, _, _, _, .cons (k := k) (d := d) (v := v) (ds := es) (vs := us) r t, h => by
    show RDk K H m (mergeD (putD _ k d) es) (mergeK (putK _ k v) us)
    exact RDk.merge t (h.put _ r)
theorem RDk.length : ∀ {ds : List (Key × D)} {vs : List (Key × V)}, RDk K H m ds vs → ds.length = vs.length
  | _, _, .nil => rfl
  | _, _, .cons _ t => congrArg Nat.succ t.length
theorem key_rd {d : D} {v : V} {k : Key} (r : RD K H m d v) (e : keyD d = some k) : v = kV k := by
  cases d with
  | int i => cases e; exact rd_int r
  | str x => cases e; exact rd_str r
  | _ => cases e
theorem unkey_rd (k : Key) : RD K H m (unkey k) (kV k) := by
  cases k with
  | inl i => exact .int i
  | inr x => exact .str x
theorem RDs.at {ds : List D} {vs : List V} {i : Int} {d : D} (r : RDs K H m ds vs) (e : atI ds i = some d) : ∃ v, atI vs i = some v ∧ RD K H m d v := by
  unfold atI at e ⊢
  rw [r.length] at e
  cases q : ixN vs.length i with
  | none => rw [q] at e; cases e
  | some j =>
    rw [q] at e
    exact r.get (show ds[j]? = some d from e)
end
/-! ## items -/
def kItem (x y : D) (hs : List Ob) : R D := match dctOf hs x with
  | some kvs => match (keyD y).bind (valD kvs) with
    | some d => .ok d hs
    | none => .stuck
  | none => match x, y with
    | .str z, .int i => if z.length ≤ sizeLine then match atI z.cps.toList i with
      | some c => .ok (.str ⟨#[c]⟩) hs
      | none => .stuck else .stuck
    | x, .int i => match (seqOf hs x).bind fun xs => atI xs i with
      | some d => .ok d hs
      | none => .stuck
    | _, _ => .stuck
section
variable {K : Kc} {E : XK} {H : Hp} {m : Mp} {hs : List Ob} {τ : Lt}
theorem Post.opt {Q : VK} {o : Option D} (h : Post K E m H (match o with | some d => .ok d hs | none => .stuck) Q) : ∃ d, o = some d ∧ Post K E m H (.ok d hs) Q := by
  cases o with
  | none => exact h.elim
  | some d => exact ⟨d, rfl, h⟩
theorem seq_ix {Q : VK} {x y : D} {v w : V} (hr : HR K H m hs) (r1 : RD K H m x v) (r2 : RD K H m y w) (hd : dctOf hs x = none) (p : Post K E m H (kItem x y hs) Q) : rIx K v w H Q := by
  unfold kItem at p
  rw [hd] at p
  dsimp only at p
  split at p
  · rename_i z i
    cases r1
    cases r2
    obtain ⟨c, p⟩ := p.ite
    cases e : atI z.cps.toList i with
    | none => rw [e] at p; exact p.elim
    | some c' =>
      rw [e] at p
      exact .inr (.inr ⟨z, i, c', rfl, rfl, c, e, p.here hr (.str _)⟩)
  · rename_i x i _
    cases r2
    obtain ⟨d, e, p⟩ := p.opt
    obtain ⟨xs, e1, e2⟩ := Option.bind_eq_some_iff.mp e
    obtain ⟨a, vs, rfl, h1, h2⟩ := seq_rd hr r1 e1
    obtain ⟨u, h3, h4⟩ := h2.at e2
    rcases h1 with h1 | h1
    · exact .inr (.inl ⟨a, vs, i, u, rfl, rfl, h1, h3, p.here hr h4⟩)
    · exact .inl ⟨a, vs, i, u, rfl, rfl, h1, h3, p.here hr h4⟩
  · exact p.elim
theorem dct_ix {Q : VK} {x y : D} {v w : V} {kvs : List (Key × D)} (hr : HR K H m hs) (r1 : RD K H m x v) (r2 : RD K H m y w) (hd : dctOf hs x = some kvs) (p : Post K E m H (kItem x y hs) Q) :
    ∃ a u, v = .ref a ∧ DGet H a w (some u) ∧ Q u H := by
  unfold kItem at p
  rw [hd] at p
  dsimp only at p
  obtain ⟨d, e, p⟩ := p.opt
  obtain ⟨k, e1, e2⟩ := Option.bind_eq_some_iff.mp e
  obtain ⟨a, vs, rfl, h1, h2⟩ := dct_rd hr r1 hd
  cases key_rd r2 e1
  rcases h2.val k with ⟨z, _⟩ | ⟨d', u, z1, z2, z3⟩
  · rw [z] at e2; cases e2
  · rw [z1] at e2
    cases e2
    refine ⟨a, u, rfl, ?_, p.here hr z3⟩
    rw [← z2]
    exact DGet.k h1
theorem imp_item {f g : CE} {Q : VK} (h : tE K E (c2 kItem f g) τ H Q) : tOp (rIx K) (tE K E f) (tE K E g) τ H Q ∨ tDGet (tE K E f) (tE K E g) τ H Q := by
  have h0 := h
  obtain ⟨m, σ, hs, hr, rs, p⟩ := h
  unfold c2 at p
  -- what the first one gives, and the second
  cases e1 : f σ hs with
  | stuck => rw [e1] at p; exact p.elim
  | exn x hs1 =>
    rw [e1] at p
    exact .inl ⟨m, σ, hs, hr, rs, by rw [e1]; exact p⟩
  | ok x hs1 =>
    rw [e1] at p
    cases e2 : g σ hs1 with
    | stuck => rw [bind_ok, e2] at p; exact p.elim
    | exn y hs2 =>
      rw [bind_ok, e2] at p
      refine .inl ⟨m, σ, hs, hr, rs, ?_⟩
      rw [e1]
      exact fun v m1 H1 s1 hr1 r1 => ⟨m1, σ, hs1, hr1, rs.mono s1, by rw [e2]; exact Post.step s1 p⟩
    | ok y hs2 =>
      rw [bind_ok, e2, bind_ok] at p
      cases hd : dctOf hs2 x with
      | none =>
        refine .inl ⟨m, σ, hs, hr, rs, ?_⟩
        rw [e1]
        refine fun v m1 H1 s1 hr1 r1 => ⟨m1, σ, hs1, hr1, rs.mono s1, ?_⟩
        rw [e2]
        exact fun w m2 H2 s2 hr2 r2 => seq_ix hr2 (r1.mono s2) r2 hd (Post.step (s1.trans s2) p)
      | some kvs =>
        refine .inr ⟨m, σ, hs, hr, rs, ?_⟩
        rw [e1]
        refine fun v m1 H1 s1 hr1 r1 => ⟨m1, σ, hs1, hr1, rs.mono s1, ?_⟩
        rw [e2]
        exact fun w m2 H2 s2 hr2 r2 => dct_ix hr2 (r1.mono s2) r2 hd (Post.step (s1.trans s2) p)
end
section
variable {X : Cx} {E : XK} {a b : Expr} {f g : CE} {pos : Pos} {n : Nat}
theorem s_item (hr : Room n X.A) (ha : SE X E a f) (hb : SE X E b g) (hs : PlainIx b := by exact fun _ _ => rfl) : SE X E (.Subscript a b pos) (c2 kItem f g) :=
  PE.imp (PE.or (pe_ix ix_seq ha hb hs) (pe_dget (hu_of hr) ha hb hs)) fun _ _ _ => imp_item
end
/-! ## slices -/
def cutD (xs : List D) (lo hi : Option Int) : List D := (xs.drop (HT.sIx xs.length 0 lo)).take (HT.sIx xs.length xs.length hi - HT.sIx xs.length 0 lo)
/-- a part of a slice -/
abbrev CO := Sl → List Ob → R (Option Int)
def oNo : CO := fun _ hs => .ok none hs
def oSm (f : CE) : CO := fun σ hs => (f σ hs).bind fun x hs => match x with
  | .int i => .ok (some i) hs
  | _ => .stuck
def kCut (b : Bool) (x : D) (lo hi : Option Int) (hs : List Ob) : R D := match x with
  | .str z => if z.length ≤ sizeLine then .ok (.str (cutS z lo hi)) hs else .stuck
  | .tup xs => .ok (.tup (cutD xs lo hi)) hs
  | x => match lstOf hs x with
    | some xs => newL b (cutD xs lo hi) hs
    | none => .stuck
def cCut (b : Bool) (f : CE) (l u : CO) : CE := fun σ hs => (f σ hs).bind fun x hs => (l σ hs).bind fun lo hs => (u σ hs).bind fun hi hs => kCut b x lo hi hs
def PostO (K : Kc) (E : XK) (m : Mp) (H : Hp) (r : R (Option Int)) (Q : Option Int → Hp → Prop) : Prop := match r with
  | .ok o hs' => ∀ m' H', Stp m H m' H' → HR K H' m' hs' → Q o H'
  | .exn x hs' => ∀ c od m' H', Stp m H m' H' → HR K H' m' hs' → RX K H' m' x c od → E c od H'
  | .stuck => False
def tO (K : Kc) (E : XK) (f : CO) : TO := fun τ H Q => ∃ m σ hs, HR K H m hs ∧ RSl K H m σ τ ∧ PostO K E m H (f σ hs) Q
structure SO (X : Cx) (E : XK) (e : Option Expr) (f : CO) : Prop where
  po : PO X e (tO (kc X E) E f)
section
variable {X : Cx} {E : XK} {e : Expr} {f : CE} {K : Kc} {H : Hp} {m : Mp} {hs : List Ob} {τ : Lt}
theorem PO.imp {e : Option Expr} {t t' : TO} (h : PO X e t) (i : ∀ σ H Q, t' σ H Q → t σ H Q) : PO X e t' := ⟨fun pins s σ H Q I q => h.run pins s σ H Q I (i σ H Q q)⟩
theorem o_no : SO X E none oNo := ⟨PO.imp po_none fun τ H Q ⟨m, σ, hs, hr, rs, p⟩ => p m H hr.stp hr⟩
theorem o_sm (h : SE X E e f) : SO X E (some e) (oSm f) := ⟨PO.imp (po_some h) fun τ H Q ⟨m, σ, hs, hr, rs, p⟩ => by
  refine ⟨m, σ, hs, hr, rs, ?_⟩
  unfold oSm at p
  cases e1 : f σ hs with
  | stuck => rw [e1] at p; exact p.elim
  | exn x hs1 => rw [e1] at p; exact p
  | ok x hs1 =>
    rw [e1] at p
    intro v m1 H1 s1 hr1 r1
    cases x with
    | int i => exact ⟨i, rd_int r1, p m1 H1 s1 hr1⟩
    | _ => exact p.elim⟩
theorem RDs.cut {ds : List D} {vs : List V} (r : RDs K H m ds vs) (lo hi : Option Int) : RDs K H m (cutD ds lo hi) (cutV vs lo hi) := by
  unfold cutD cutV
  rw [r.length]
  exact (r.drop _).take _
def rCut (K : PySem.W.Frag) : V → Option Int → Option Int → Hp → VK → Prop := fun x lo hi H Q => rSlL K x lo hi H Q ∨ rSlA K x lo hi H Q ∨ rSlS x lo hi H Q
theorem sl_all : SlR X (rCut X.K) := sl_list.or (sl_tupA.or sl_str)
theorem cut_ok {b : Bool} {x : D} {v : V} {lo hi : Option Int} {Q : VK} (hr : HR K H m hs) (r : RD K H m x v) (p : Post K E m H (kCut b x lo hi hs) Q) : rCut K v lo hi H Q := by
  unfold kCut at p
  split at p
  · cases r
    obtain ⟨c, p⟩ := p.ite
    exact .inr (.inr ⟨_, rfl, c, p.here hr (.str _)⟩)
  · rename_i xs
    cases r with
    | tup z q =>
      refine .inr (.inl ⟨_, _, rfl, z.sq, fun w => ?_, fun _ t nt => post_tup hr (q.cut lo hi) nt p⟩)
      refine p.here hr ?_
      have e : cutD xs lo hi = xs := by
        unfold cutD
        rw [q.length, w.1, w.2, List.drop_zero, Nat.sub_zero, ← q.length, List.take_length]
      rw [e]
      exact .tup z q
  · split at p
    · rename_i xs e
      obtain ⟨a, vs, rfl, h1, h2⟩ := lst_rd hr r e
      exact .inl ⟨a, vs, rfl, h1, fun t nt => post_new hr (h2.cut lo hi) nt p⟩
    · exact p.elim
theorem imp_cut {b : Bool} {f : CE} {l u : CO} {Q : VK} (h : tE K E (cCut b f l u) τ H Q) : tSl (rCut K) (tE K E f) (tO K E l) (tO K E u) τ H Q := by
  refine tE_mono (tE_bind (τ := τ) (f := f) h) fun v H1 ⟨m, σ, hs, d, hr, rs, rd, p⟩ => ⟨m, σ, hs, hr, rs, ?_⟩
  cases e1 : l σ hs with
  | stuck => rw [e1] at p; exact p.elim
  | exn x hs1 => rw [e1] at p; exact p
  | ok lo hs1 =>
    rw [e1, bind_ok] at p
    refine fun m1 H1 s1 hr1 => ⟨m1, σ, hs1, hr1, rs.mono s1, ?_⟩
    cases e2 : u σ hs1 with
    | stuck => rw [e2] at p; exact p.elim
    | exn x hs2 => rw [e2] at p; exact fun c od m2 H2 s2 h2 r2 => p c od m2 H2 (s1.trans s2) h2 r2
    | ok hi hs2 =>
      rw [e2, bind_ok] at p
      exact fun m2 H2 s2 hr2 => cut_ok hr2 (rd.mono (s1.trans s2)) (Post.step (s1.trans s2) p)
theorem s_cut {lo hi : Option Expr} {l u : CO} {pos p2 : Pos} (b : Bool) (h : SE X E e f) (hl : SO X E lo l) (hh : SO X E hi u) : SE X E (.Subscript e (.Slice lo hi none p2) pos) (cCut b f l u) := PE.imp (pe_slice sl_all h hl.po hh.po) fun _ _ _ => imp_cut
end
end PL

set_option Elab.async false
set_option linter.all false
set_option maxRecDepth 100000
set_option maxHeartbeats 4000000
set_option autoImplicit false
namespace PL
open PySem PySem.Spec PyProof.Rows L2
/-! ## built-ins -/
def asInts : List D → Option (List Int)
  | [] => some []
  | .int i :: r => (asInts r).map (i :: ·)
  | _ => none
def asBls : List D → Option (List Bool)
  | [] => some []
  | .bl i :: r => (asBls r).map (i :: ·)
  | _ => none
def asStrs : List D → Option (List Str)
  | [] => some []
  | .str i :: r => (asStrs r).map (i :: ·)
  | _ => none
theorem asInts_eq : ∀ {ds : List D} {ns : List Int}, asInts ds = some ns → ds = ns.map D.int
  | [], _, e => by cases e; rfl
  | d :: r, ns, e => by
    cases d with
    | int i =>
      cases q : asInts r with
      | none => simp [asInts, q] at e
      | some ms => simp [asInts, q] at e; rw [← e, asInts_eq q]; rfl
    | _ => cases e
theorem asBls_eq : ∀ {ds : List D} {ns : List Bool}, asBls ds = some ns → ds = ns.map D.bl
  | [], _, e => by cases e; rfl
  | d :: r, ns, e => by
    cases d with
    | bl i =>
      cases q : asBls r with
      | none => simp [asBls, q] at e
      | some ms => simp [asBls, q] at e; rw [← e, asBls_eq q]; rfl
    | _ => cases e
theorem asStrs_eq : ∀ {ds : List D} {ns : List Str}, asStrs ds = some ns → ds = ns.map D.str
  | [], _, e => by cases e; rfl
  | d :: r, ns, e => by
    cases d with
    | str i =>
      cases q : asStrs r with
      | none => simp [asStrs, q] at e
      | some ms => simp [asStrs, q] at e; rw [← e, asStrs_eq q]; rfl
    | _ => cases e
theorem asInts_map : ∀ ns : List Int, asInts (ns.map D.int) = some ns
  | [] => rfl
  | n :: ns => by simp [asInts, asInts_map ns]
theorem asBls_map : ∀ ns : List Bool, asBls (ns.map D.bl) = some ns
  | [] => rfl
  | n :: ns => by simp [asBls, asBls_map ns]
theorem asStrs_map : ∀ ns : List Str, asStrs (ns.map D.str) = some ns
  | [] => rfl
  | n :: ns => by simp [asStrs, asStrs_map ns]
def one (k : D → List Ob → R D) : List D → List Ob → R D
  | [d], hs => k d hs
  | _, _ => .stuck
def two (k : D → D → List Ob → R D) : List D → List Ob → R D
  | [d, e], hs => k d e hs
  | _, _ => .stuck
section
variable {K : Kc}
theorem opa1 {r : List V → Hp → VK → Prop} {k : D → List Ob → R D} (h : Op1 K (fun v H Q => r [v] H Q) k) : OpA K r (one k) := fun E H m hs ds vs Q hr rd p => by
  cases rd with
  | nil => exact p.elim
  | cons r1 r2 =>
    cases r2 with
    | nil => exact h E H m hs _ _ Q hr r1 p
    | cons _ _ => exact p.elim
theorem opa2 {r : List V → Hp → VK → Prop} {k : D → D → List Ob → R D} (h : Op2 K (fun v w H Q => r [v, w] H Q) k) : OpA K r (two k) := fun E H m hs ds vs Q hr rd p => by
  cases rd with
  | nil => exact p.elim
  | cons r1 r2 =>
    cases r2 with
    | nil => exact p.elim
    | cons r2 r3 =>
      cases r3 with
      | nil => exact h E H m hs _ _ _ _ Q hr r1 r2 p
      | cons _ _ => exact p.elim
end
def kLen (d : D) (hs : List Ob) : R D := match d with
  | .str x => if x.length ≤ sizeLine then .ok (.int x.length) hs else .stuck
  | d => match seqOf hs d with
    | some xs => .ok (.int xs.length) hs
    | none => match dctOf hs d with
      | some kvs => .ok (.int kvs.length) hs
      | none => .stuck
def kAbs (d : D) (hs : List Ob) : R D := match d with
  | .int i => .ok (.int (if i < 0 then -i else i)) hs
  | _ => .stuck
def kInt (d : D) (hs : List Ob) : R D := match d with
  | .int i => .ok (.int i) hs
  | .bl k => .ok (.int (if k then 1 else 0)) hs
  | _ => .stuck
def kMax2 (d e : D) (hs : List Ob) : R D := match d, e with
  | .int i, .int j => .ok (.int (if j > i then j else i)) hs
  | _, _ => .stuck
def kMin2 (d e : D) (hs : List Ob) : R D := match d, e with
  | .int i, .int j => .ok (.int (if j < i then j else i)) hs
  | _, _ => .stuck
def intsOf (hs : List Ob) (d : D) : Option (List Int) := (lstOf hs d).bind asInts
def maxI : List Int → Int
  | [] => 0
  | [x] => x
  | x :: r => if maxI r ≤ x then x else maxI r
def minI : List Int → Int
  | [] => 0
  | [x] => x
  | x :: r => if x ≤ minI r then x else minI r
def kMax (d : D) (hs : List Ob) : R D := match intsOf hs d with
  | some (n :: ns) => .ok (.int (maxI (n :: ns))) hs
  | _ => .stuck
def kMin (d : D) (hs : List Ob) : R D := match intsOf hs d with
  | some (n :: ns) => .ok (.int (minI (n :: ns))) hs
  | _ => .stuck
def kSum (d : D) (hs : List Ob) : R D := match intsOf hs d with
  | some ns => .ok (.int ns.sum) hs
  | none => .stuck
def kAll (d : D) (hs : List Ob) : R D := match (lstOf hs d).bind asBls with
  | some ns => .ok (.bl (ns.all id)) hs
  | none => .stuck
def kAny (d : D) (hs : List Ob) : R D := match (lstOf hs d).bind asBls with
  | some ns => .ok (.bl (ns.any id)) hs
  | none => .stuck
def kList (b : Bool) (d : D) (hs : List Ob) : R D := match seqOf hs d with
  | some xs => newL b xs hs
  | none => match dctOf hs d with
    | some kvs => newL b (kvs.map fun kv => unkey kv.1) hs
    | none => .stuck
def kTupOf (d : D) (hs : List Ob) : R D := match d with
  | .tup xs => .ok (.tup xs) hs
  | d => match lstOf hs d with
    | some xs => .ok (.tup xs) hs
    | none => .stuck
def asPairs : List D → Option (List (Key × D))
  | [] => some []
  | .tup [k, d] :: r => match keyD k, asPairs r with
    | some k', some l => some ((k', d) :: l)
    | _, _ => none
  | _ => none
def kDict (b : Bool) (d : D) (hs : List Ob) : R D := match dctOf hs d with
  | some kvs => newD b kvs hs
  | none => match (lstOf hs d).bind asPairs with
    | some kvs => newD b (mergeD [] kvs) hs
    | none => .stuck
section
theorem maxI_ok : ∀ {ns : List Int}, ns ≠ [] → maxI ns ∈ ns ∧ ∀ y ∈ ns, y ≤ maxI ns
  | [x], _ => ⟨List.mem_singleton.mpr rfl, fun y hy => by rw [List.mem_singleton.mp hy]; exact Int.le_refl _⟩
  | x :: z :: r, _ => by
    obtain ⟨h1, h2⟩ := maxI_ok (ns := z :: r) (by simp)
    show (if maxI (z :: r) ≤ x then x else maxI (z :: r)) ∈ _ ∧ ∀ y ∈ _, y ≤ (if maxI (z :: r) ≤ x then x else maxI (z :: r))
    by_cases c : maxI (z :: r) ≤ x
    · rw [if_pos c]
      refine ⟨List.mem_cons_self, fun y hy => ?_⟩
      rcases List.mem_cons.mp hy with e | hy
      · rw [e]; exact Int.le_refl _
      · exact Int.le_trans (h2 y hy) c
    · rw [if_neg c]
      refine ⟨List.mem_cons_of_mem _ h1, fun y hy => ?_⟩
      rcases List.mem_cons.mp hy with e | hy
      · rw [e]; omega
      · exact h2 y hy
theorem minI_ok : ∀ {ns : List Int}, ns ≠ [] → minI ns ∈ ns ∧ ∀ y ∈ ns, minI ns ≤ y
  | [x], _ => ⟨List.mem_singleton.mpr rfl, fun y hy => by rw [List.mem_singleton.mp hy]; exact Int.le_refl _⟩
  | x :: z :: r, _ => by
    obtain ⟨h1, h2⟩ := minI_ok (ns := z :: r) (by simp)
    show (if x ≤ minI (z :: r) then x else minI (z :: r)) ∈ _ ∧ ∀ y ∈ _, (if x ≤ minI (z :: r) then x else minI (z :: r)) ≤ y
    by_cases c : x ≤ minI (z :: r)
    · rw [if_pos c]
      refine ⟨List.mem_cons_self, fun y hy => ?_⟩
      rcases List.mem_cons.mp hy with e | hy
      · rw [e]; exact Int.le_refl _
      · exact Int.le_trans c (h2 y hy)
    · rw [if_neg c]
      refine ⟨List.mem_cons_of_mem _ h1, fun y hy => ?_⟩
      rcases List.mem_cons.mp hy with e | hy
      · rw [e]; omega
      · exact h2 y hy
variable {X : Cx} {K : Kc}
def rLenA (K : PySem.W.Frag) : List V → Hp → VK → Prop := fun xs H Q => (∃ p ys, xs = [.ref p] ∧ (SqL K H p ys ∨ SqT K H p ys) ∧ Q (.int ys.length) H) ∨ (∃ z, xs = [.str z] ∧ z.length ≤ sizeLine ∧ Q (.int z.length) H) ∨ ∃ a kvs, xs = [V.ref a] ∧ H a = some (.dK kvs) ∧ Q (.int kvs.length) H
theorem c_len : CallR X (.builtin "len") (rLenA X.K) := call_len_seq.or (call_len_str.or call_lenD)
theorem o_len : Op1 K (fun v H Q => rLenA K [v] H Q) kLen := fun E H m hs d v Q hr r p => by
  unfold kLen at p
  split at p
  · cases r
    obtain ⟨c, p⟩ := p.ite
    exact .inr (.inl ⟨_, rfl, c, p.here hr (.int _)⟩)
  · split at p
    · rename_i xs e
      obtain ⟨a, vs, rfl, h1, h2⟩ := seq_rd hr r e
      rw [h2.length] at p
      exact .inl ⟨a, vs, rfl, h1.symm, p.here hr (.int _)⟩
    · split at p
      · rename_i kvs e
        obtain ⟨a, vs, rfl, h1, h2⟩ := dct_rd hr r e
        rw [h2.length] at p
        exact .inr (.inr ⟨a, vs, rfl, h1, p.here hr (.int _)⟩)
      · exact p.elim
theorem o_abs : Op1 K (fun v H Q => ∃ i, [v] = [.int i] ∧ Q (.int (if i < 0 then -i else i)) H) kAbs := fun E H m hs d v Q hr r p => by
  unfold kAbs at p
  split at p
  · cases r
    exact ⟨_, rfl, p.here hr (.int _)⟩
  · exact p.elim
theorem o_int : Op1 K (fun v H Q => (∃ i, [v] = [.int i] ∧ Q (.int i) H) ∨ ∃ k, [v] = [.bl k] ∧ Q (.int (if k then 1 else 0)) H) kInt := fun E H m hs d v Q hr r p => by
  unfold kInt at p
  split at p
  · cases r
    exact .inl ⟨_, rfl, p.here hr (.int _)⟩
  · cases r
    exact .inr ⟨_, rfl, p.here hr (.int _)⟩
  · exact p.elim
theorem o_max2 : Op2 K (fun v w H Q => ∃ i j, [v, w] = [.int i, .int j] ∧ Q (.int (if j > i then j else i)) H) kMax2 := fun E H m hs d e v w Q hr r r2 p => by
  unfold kMax2 at p
  split at p
  · cases r
    cases r2
    exact ⟨_, _, rfl, p.here hr (.int _)⟩
  · exact p.elim
theorem o_min2 : Op2 K (fun v w H Q => ∃ i j, [v, w] = [.int i, .int j] ∧ Q (.int (if j < i then j else i)) H) kMin2 := fun E H m hs d e v w Q hr r r2 p => by
  unfold kMin2 at p
  split at p
  · cases r
    cases r2
    exact ⟨_, _, rfl, p.here hr (.int _)⟩
  · exact p.elim
theorem ints_rd {H : Hp} {m : Mp} {hs : List Ob} {d : D} {v : V} {ns : List Int} (hr : HR K H m hs) (r : RD K H m d v) (e : intsOf hs d = some ns) : ∃ a, v = .ref a ∧ SqL K H a (ns.map V.int) := by
  unfold intsOf at e
  obtain ⟨xs, e1, e2⟩ := Option.bind_eq_some_iff.mp e
  obtain ⟨a, vs, rfl, h1, h2⟩ := lst_rd hr r e1
  rw [asInts_eq e2] at h2
  rw [h2.map_int] at h1
  exact ⟨a, rfl, h1⟩
theorem bls_rd {H : Hp} {m : Mp} {hs : List Ob} {d : D} {v : V} {ns : List Bool} (hr : HR K H m hs) (r : RD K H m d v) (e : (lstOf hs d).bind asBls = some ns) : ∃ a, v = .ref a ∧ SqL K H a (ns.map V.bl) := by
  obtain ⟨xs, e1, e2⟩ := Option.bind_eq_some_iff.mp e
  obtain ⟨a, vs, rfl, h1, h2⟩ := lst_rd hr r e1
  rw [asBls_eq e2] at h2
  rw [h2.map_bl] at h1
  exact ⟨a, rfl, h1⟩
theorem o_max : Op1 K (fun v H Q => rMax K [v] H Q) kMax := fun E H m hs d v Q hr r p => by
  unfold kMax at p
  split at p
  · rename_i n ns e
    obtain ⟨a, rfl, h⟩ := ints_rd hr r e
    have q := p.here hr (.int _)
    obtain ⟨z1, z2⟩ := maxI_ok (ns := n :: ns) (by simp)
    refine ⟨a, n :: ns, rfl, h, by simp, fun m' h1 h2 => ?_⟩
    rw [Int.le_antisymm (z2 m' h1) (h2 _ z1)]
    exact q
  · exact p.elim
theorem o_min : Op1 K (fun v H Q => rMin K [v] H Q) kMin := fun E H m hs d v Q hr r p => by
  unfold kMin at p
  split at p
  · rename_i n ns e
    obtain ⟨a, rfl, h⟩ := ints_rd hr r e
    have q := p.here hr (.int _)
    obtain ⟨z1, z2⟩ := minI_ok (ns := n :: ns) (by simp)
    refine ⟨a, n :: ns, rfl, h, by simp, fun m' h1 h2 => ?_⟩
    rw [Int.le_antisymm (h2 _ z1) (z2 m' h1)]
    exact q
  · exact p.elim
theorem o_sum : Op1 K (fun v H Q => rSum K [v] H Q) kSum := fun E H m hs d v Q hr r p => by
  unfold kSum at p
  split at p
  · rename_i ns e
    obtain ⟨a, rfl, h⟩ := ints_rd hr r e
    exact ⟨a, ns, rfl, h, p.here hr (.int _)⟩
  · exact p.elim
theorem o_all : Op1 K (fun v H Q => rAll K [v] H Q) kAll := fun E H m hs d v Q hr r p => by
  unfold kAll at p
  split at p
  · rename_i ns e
    obtain ⟨a, rfl, h⟩ := bls_rd hr r e
    exact ⟨a, ns, rfl, h, p.here hr (.bl _)⟩
  · exact p.elim
theorem o_any : Op1 K (fun v H Q => rAny K [v] H Q) kAny := fun E H m hs d v Q hr r p => by
  unfold kAny at p
  split at p
  · rename_i ns e
    obtain ⟨a, rfl, h⟩ := bls_rd hr r e
    exact ⟨a, ns, rfl, h, p.here hr (.bl _)⟩
  · exact p.elim
def rListA (K : PySem.W.Frag) : List V → Hp → VK → Prop := fun xs H Q => (∃ p ys, xs = [.ref p] ∧ (SqL K H p ys ∨ SqT K H p ys) ∧ ∀ l, H l = none → Q (.ref l) (upd H l (.lst ys))) ∨
  ∃ (a : Addr) (kvs : List (Key × V)), xs = [.ref a] ∧ Rd H a (.dK kvs) ∧ ∀ p, H p = none → Q (.ref p) (upd H p (.lst (kvs.map fun kv => kV kv.1)))
theorem c_list (hc : X.calm = true) : CallR X (.type "list") (rListA X.K) := call_list_of.or (call_listD hc)
theorem RDk.keys {H : Hp} {m : Mp} : ∀ {ds : List (Key × D)} {vs : List (Key × V)}, RDk K H m ds vs → RDs K H m (ds.map fun kv => unkey kv.1) (vs.map fun kv => kV kv.1)
  | _, _, .nil => .nil
  | _, _, .cons r t => .cons (unkey_rd _) (RDk.keys t)
theorem o_list (b : Bool) : Op1 K (fun v H Q => rListA K [v] H Q) (kList b) := fun E H m hs d v Q hr r p => by
  unfold kList at p
  split at p
  · rename_i xs e
    obtain ⟨a, vs, rfl, h1, h2⟩ := seq_rd hr r e
    exact .inl ⟨a, vs, rfl, h1.symm, fun t nt => post_new hr h2 nt p⟩
  · split at p
    · rename_i kvs e
      obtain ⟨a, vs, rfl, h1, h2⟩ := dct_rd hr r e
      exact .inr ⟨a, vs, rfl, .inl h1, fun t nt => post_new hr h2.keys nt p⟩
    · exact p.elim
theorem o_tupOf : Op1 K (fun v H Q => ∃ p ys, [v] = [.ref p] ∧ ((SqL K H p ys ∧ ∀ l, H l = none → Q (.ref l) (upd H l (.tup ys))) ∨ (SqT K H p ys ∧ Q (.ref p) H))) kTupOf := fun E H m hs d v Q hr r p => by
  unfold kTupOf at p
  split at p
  · cases r with
    | tup z q => exact ⟨_, _, rfl, .inr ⟨z.sq, p.here hr (.tup z q)⟩⟩
  · split at p
    · rename_i xs e
      obtain ⟨a, vs, rfl, h1, h2⟩ := lst_rd hr r e
      exact ⟨a, vs, rfl, .inl ⟨h1, fun t nt => post_tup hr h2 nt p⟩⟩
    · exact p.elim
theorem pairs_rd {H : Hp} {m : Mp} : ∀ {ds : List D} {vs : List V} {kvs : List (Key × D)}, RDs K H m ds vs → asPairs ds = some kvs →
    ∃ (ps : List Addr) (us : List (Key × V)), vs = ps.map V.ref ∧ Paired (fun p kv => SqT K H p [kV kv.1, kv.2]) ps us ∧ RDk K H m kvs us
  | _, _, _, .nil, e => by cases e; exact ⟨[], [], rfl, .nil, .nil⟩
  | _, _, kvs, .cons (d := d) (v := v) (ds := ds) (vs := vs) r t, e => by
    unfold asPairs at e
    split at e
    · rename_i e'; cases e'
    · rename_i k d' r' e'
      cases e'
      split at e
      · rename_i k' l e1 e2
        cases e
        obtain ⟨ps, us, rfl, h1, h2⟩ := pairs_rd t e2
        cases r with
        | tup z q =>
          cases q with
          | cons q1 q2 =>
            cases q2 with
            | cons q2 q3 =>
              cases q3
              rename_i a w1 w2
              cases key_rd q1 e1
              exact ⟨a :: ps, (k', w2) :: us, rfl, .cons z.sq h1, .cons q2 h2⟩
      · cases e
    · cases e
def rDictA (K : PySem.W.Frag) : List V → Hp → VK → Prop := fun xs H Q => (∃ (a : Addr) (ps : List Addr) (kvs : List (Key × V)), xs = [.ref a] ∧ SqL K H a (ps.map V.ref) ∧ Paired (fun p kv => SqT K H p [kV kv.1, kv.2]) ps kvs ∧ ∀ p, H p = none → Q (.ref p) (upd H p (.dK (mergeK [] kvs)))) ∨
  ∃ (a : Addr) (kvs : List (Key × V)), xs = [.ref a] ∧ Rd H a (.dK kvs) ∧ ∀ p, H p = none → Q (.ref p) (upd H p (.dK kvs))
theorem c_dict (hc : X.calm = true) : CallR X (.type "dict") (rDictA X.K) := (call_dictP hc).or call_dictD
theorem o_dict (b : Bool) : Op1 K (fun v H Q => rDictA K [v] H Q) (kDict b) := fun E H m hs d v Q hr r p => by
  unfold kDict at p
  split at p
  · rename_i kvs e
    obtain ⟨a, vs, rfl, h1, h2⟩ := dct_rd hr r e
    exact .inr ⟨a, vs, rfl, .inl h1, fun t nt => post_newD hr h2 nt p⟩
  · split at p
    · rename_i kvs e
      obtain ⟨xs, e1, e2⟩ := Option.bind_eq_some_iff.mp e
      obtain ⟨a, vs, rfl, h1, h2⟩ := lst_rd hr r e1
      obtain ⟨ps, us, rfl, h3, h4⟩ := pairs_rd h2 e2
      exact .inl ⟨a, ps, us, rfl, h1, h3, fun t nt => post_newD hr (h4.merge .nil) nt p⟩
    · exact p.elim
end
section
variable {X : Cx} {E : XK} {e : Expr} {es : List Expr} {f : CE} {g : CA} {p pos : Pos}
theorem s_len (h : SA X E [e] g) (hm : X.mg "len" = none) (hg : Gl X "len" := by rfl) (he : starEach [e] X.env = (false, eval e X.env) :: starEach [] X.env := by rfl) : SE X E (.Call (.Name "len" p) [e] [] pos) (cF (one kLen) g) := PE.imp (pe_callB c_len hg hm PySem.boot_len h (he := he)) (impA (opa1 o_len))
theorem s_abs (h : SA X E [e] g) (hm : X.mg "abs" = none) (hg : Gl X "abs" := by rfl) (he : starEach [e] X.env = (false, eval e X.env) :: starEach [] X.env := by rfl) : SE X E (.Call (.Name "abs" p) [e] [] pos) (cF (one kAbs) g) := PE.imp (pe_callB call_abs hg hm (by decide +kernel) h (he := he)) (impA (opa1 o_abs))
theorem s_intc (h : SA X E [e] g) (hm : X.mg "int" = none) (hg : Gl X "int" := by rfl) (he : starEach [e] X.env = (false, eval e X.env) :: starEach [] X.env := by rfl) : SE X E (.Call (.Name "int" p) [e] [] pos) (cF (one kInt) g) := PE.imp (pe_callTy call_int1 hg hm (by decide +kernel) h (he := he)) (impA (opa1 o_int))
theorem s_max2 {e2 : Expr} (hc : X.calm = true) (h : SA X E [e, e2] g) (hm : X.mg "max" = none) (hg : Gl X "max" := by rfl) (he : starEach [e, e2] X.env = (false, eval e X.env) :: starEach [e2] X.env := by rfl) (hp : (backTo pos (starEach [e2] X.env)).any (·.1) = false := by rfl) : SE X E (.Call (.Name "max" p) [e, e2] [] pos) (cF (two kMax2) g) := PE.imp (pe_callB (call_max2 hc) hg hm (by decide +kernel) h (he := he) (hpl := hp)) (impA (opa2 o_max2))
theorem s_min2 {e2 : Expr} (hc : X.calm = true) (h : SA X E [e, e2] g) (hm : X.mg "min" = none) (hg : Gl X "min" := by rfl) (he : starEach [e, e2] X.env = (false, eval e X.env) :: starEach [e2] X.env := by rfl) (hp : (backTo pos (starEach [e2] X.env)).any (·.1) = false := by rfl) : SE X E (.Call (.Name "min" p) [e, e2] [] pos) (cF (two kMin2) g) := PE.imp (pe_callB (call_min2 hc) hg hm (by decide +kernel) h (he := he) (hpl := hp)) (impA (opa2 o_min2))
theorem s_max (hc : X.calm = true) (h : SA X E [e] g) (hm : X.mg "max" = none) (hg : Gl X "max" := by rfl) (he : starEach [e] X.env = (false, eval e X.env) :: starEach [] X.env := by rfl) : SE X E (.Call (.Name "max" p) [e] [] pos) (cF (one kMax) g) := PE.imp (pe_callB (cr_max hc) hg hm (by decide +kernel) h (he := he)) (impA (opa1 o_max))
theorem s_min (hc : X.calm = true) (h : SA X E [e] g) (hm : X.mg "min" = none) (hg : Gl X "min" := by rfl) (he : starEach [e] X.env = (false, eval e X.env) :: starEach [] X.env := by rfl) : SE X E (.Call (.Name "min" p) [e] [] pos) (cF (one kMin) g) := PE.imp (pe_callB (cr_min hc) hg hm (by decide +kernel) h (he := he)) (impA (opa1 o_min))
theorem s_sum (hc : X.calm = true) (h : SA X E [e] g) (hm : X.mg "sum" = none) (hg : Gl X "sum" := by rfl) (he : starEach [e] X.env = (false, eval e X.env) :: starEach [] X.env := by rfl) : SE X E (.Call (.Name "sum" p) [e] [] pos) (cF (one kSum) g) := PE.imp (pe_callB (cr_sum hc) hg hm (by decide +kernel) h (he := he)) (impA (opa1 o_sum))
theorem s_all (hc : X.calm = true) (h : SA X E [e] g) (hm : X.mg "all" = none) (hg : Gl X "all" := by rfl) (he : starEach [e] X.env = (false, eval e X.env) :: starEach [] X.env := by rfl) : SE X E (.Call (.Name "all" p) [e] [] pos) (cF (one kAll) g) := PE.imp (pe_callB (cr_all hc) hg hm (by decide +kernel) h (he := he)) (impA (opa1 o_all))
theorem s_any (hc : X.calm = true) (h : SA X E [e] g) (hm : X.mg "any" = none) (hg : Gl X "any" := by rfl) (he : starEach [e] X.env = (false, eval e X.env) :: starEach [] X.env := by rfl) : SE X E (.Call (.Name "any" p) [e] [] pos) (cF (one kAny) g) := PE.imp (pe_callB (cr_any hc) hg hm (by decide +kernel) h (he := he)) (impA (opa1 o_any))
theorem s_list (b : Bool) (hc : X.calm = true) (h : SA X E [e] g) (hm : X.mg "list" = none) (hg : Gl X "list" := by rfl) (he : starEach [e] X.env = (false, eval e X.env) :: starEach [] X.env := by rfl) : SE X E (.Call (.Name "list" p) [e] [] pos) (cF (one (kList b)) g) := PE.imp (pe_callTy (c_list hc) hg hm (by decide +kernel) h (he := he)) (impA (opa1 (o_list b)))
theorem s_tuple (h : SA X E [e] g) (hm : X.mg "tuple" = none) (hg : Gl X "tuple" := by rfl) (he : starEach [e] X.env = (false, eval e X.env) :: starEach [] X.env := by rfl) : SE X E (.Call (.Name "tuple" p) [e] [] pos) (cF (one kTupOf) g) := PE.imp (pe_callTy call_tuple_of hg hm (by decide +kernel) h (he := he)) (impA (opa1 o_tupOf))
theorem s_dict (b : Bool) (hc : X.calm = true) (h : SA X E [e] g) (hm : X.mg "dict" = none) (hg : Gl X "dict" := by rfl) (he : starEach [e] X.env = (false, eval e X.env) :: starEach [] X.env := by rfl) : SE X E (.Call (.Name "dict" p) [e] [] pos) (cF (one (kDict b)) g) := PE.imp (pe_callTy (c_dict hc) hg hm (by decide +kernel) h (he := he)) (impA (opa1 (o_dict b)))
end
end PL

set_option Elab.async false
set_option linter.all false
set_option maxRecDepth 100000
set_option maxHeartbeats 4000000
set_option autoImplicit false
namespace PL
open PySem PySem.Spec PyProof.Rows L2
/-! ## what a loop walks -/
inductive Src where
  | seq (xs : List D)
  | live (g : List Ob → Option (List D))
abbrev CI := Sl → List Ob → R Src
/-- from one heap to a later one, maybe with more hidden -/
structure Stw (m : Mp) (H : Hp) (m' : Mp) (H' : Hp) : Prop where
  ext : ∃ t, m'.l = m.l ++ t ∧ ∀ a ∈ t, H a = none
  hx : ∀ a ∈ m'.x, a ∈ m.x ∨ H a = none
  kp : ∀ a o, a ∉ m.l → H a = some o → NT o → H' a = some o
  liv : ∀ a ∈ m'.l, H' a ≠ none
  st : ∀ a, H a ≠ none → H' a ≠ none
theorem Stp.w {m m' : Mp} {H H' : Hp} (s : Stp m H m' H') : Stw m H m' H' := ⟨s.ext, fun a ha => .inl (s.hx ▸ ha), s.kp, s.liv, s.st⟩
theorem Stw.q {m m' : Mp} {H H' : Hp} (s : Stw m H m' H') : Stq m H m' H' := by
  obtain ⟨t, e, n⟩ := s.ext
  refine ⟨fun i a h => ?_, fun a o ha h nt => ⟨s.kp a o ha.1 h nt, fun z => ?_, fun z => ?_⟩⟩
  · rw [e]
    exact (List.getElem?_append_left (List.getElem?_eq_some_iff.mp h).1).trans h
  · rw [e] at z
    rcases List.mem_append.mp z with z | z
    · exact ha.1 z
    · rw [n a z] at h
      cases h
  · rcases s.hx a z with z | z
    · exact ha.2 z
    · rw [z] at h
      cases h
theorem Stw.trans {m m1 m2 : Mp} {H H1 H2 : Hp} (a : Stw m H m1 H1) (b : Stp m1 H1 m2 H2) : Stw m H m2 H2 := by
  obtain ⟨t1, e1, n1⟩ := a.ext
  obtain ⟨t2, e2, n2⟩ := b.ext
  refine ⟨⟨t1 ++ t2, by rw [e2, e1, List.append_assoc], fun x hx => ?_⟩, fun x hx => a.hx x (b.hx ▸ hx), fun x o hx h nt => ?_, b.liv, fun x h => b.st x (a.st x h)⟩
  · rcases List.mem_append.mp hx with hx | hx
    · exact n1 x hx
    · cases e : H x with
      | none => rfl
      | some o => exact absurd (n2 x hx) (a.st x (by rw [e]; exact fun z => by cases z))
  · refine b.kp x o (fun z => ?_) (a.kp x o hx h nt) nt
    rw [e1] at z
    rcases List.mem_append.mp z with z | z
    · exact hx z
    · rw [n1 x z] at h
      cases h
def Del (K : Kc) (J : It) (xs : List D) (m0 : Mp) (H0 : Hp) : Prop := ∀ (i : Nat) (m : Mp) (H : Hp) (hs : List Ob), Stw m0 H0 m H → HR K H m hs →
  (xs.length ≤ i → J.stop i H) ∧ ∀ d, xs[i]? = some d → J.go i H ∧ ∀ x H', J.yld i H x H' → Stp m H m H' ∧ HR K H' m hs ∧ RD K H' m d x
def DelR (K : Kc) (J : It) (r : List Ob → Option (List D)) (m0 : Mp) (H0 : Hp) : Prop := ∀ (i : Nat) (m : Mp) (H : Hp) (hs : List Ob) (xs : List D), Stw m0 H0 m H → HR K H m hs → r hs = some xs →
  (xs.length ≤ i → J.stop i H) ∧ ∀ d, xs[i]? = some d → J.go i H ∧ ∀ x H', J.yld i H x H' → Stp m H m H' ∧ HR K H' m hs ∧ RD K H' m d x
def PostI (K : Kc) (E : XK) (m : Mp) (H : Hp) (r : R Src) (Q : It → Hp → Prop) : Prop := match r with
  | .ok (.seq xs) hs' => ∀ J m' H', Stp m H m' H' → HR K H' m' hs' → Del K J xs m' H' → Q J H'
  | .ok (.live i) hs' => ∀ J m' H', Stp m H m' H' → HR K H' m' hs' → DelR K J i m' H' → Q J H'
  | .exn x hs' => ∀ c od m' H', Stp m H m' H' → HR K H' m' hs' → RX K H' m' x c od → E c od H'
  | .stuck => False
def tI (K : Kc) (E : XK) (f : CI) : TI := fun τ H Q => ∃ m σ hs, HR K H m hs ∧ RSl K H m σ τ ∧ PostI K E m H (f σ hs) Q
abbrev SI (X : Cx) (E : XK) (tg e : Expr) (f : CI) : Prop := PI X tg e (tI (kc X E) E f)
theorem PI.imp {X : Cx} {tg e : Expr} {t t' : TI} (h : PI X tg e t) (i : ∀ σ H Q, t' σ H Q → t σ H Q) : PI X tg e t' := ⟨fun pins s σ H Q I q => h.run pins s σ H Q I (i σ H Q q)⟩
theorem PI.or {X : Cx} {tg e : Expr} {t t' : TI} (h : PI X tg e t) (h' : PI X tg e t') : PI X tg e (fun σ H Q => t σ H Q ∨ t' σ H Q) := ⟨fun pins s σ H Q I q => q.elim (h.run pins s σ H Q I) (h'.run pins s σ H Q I)⟩
def signsOf (x : Str) : List D := x.cps.toList.map fun c => D.str ⟨#[c]⟩
def srcOf (d : D) (hs : List Ob) : R Src := match d with
  | .tup xs => .ok (.seq xs) hs
  | .fl xs => .ok (.seq xs) hs
  | .frz xs => .ok (.seq xs) hs
  | .str x => .ok (.seq (signsOf x)) hs
  | .ref i => match hs[i]? with
    | some (.lst _) => .ok (.live fun hs => lstOf hs (.ref i)) hs
    | _ => .stuck
  | _ => .stuck
def iSeq (f : CE) : CI := fun σ hs => (f σ hs).bind fun d hs => srcOf d hs
section
variable {K : Kc} {E : XK} {H H' : Hp} {m m' : Mp} {hs : List Ob} {τ : Lt}
theorem PostI.step {Q : It → Hp → Prop} {r : R Src} (s : Stp m H m' H') (h : PostI K E m H r Q) : PostI K E m' H' r Q := by
  cases r with
  | ok d hs' =>
    cases d with
    | seq xs => exact fun v m2 H2 s2 r1 r2 => h v m2 H2 (s.trans s2) r1 r2
    | live xs => exact fun v m2 H2 s2 r1 r2 => h v m2 H2 (s.trans s2) r1 r2
  | exn x hs' => exact fun c od m2 H2 s2 r1 r2 => h c od m2 H2 (s.trans s2) r1 r2
  | stuck => exact h
/-- behind a list that stays -/
theorem del_list {a : Addr} {xs : List D} {vs : List V} (st : ∀ m H, Stw m' H' m H → SqL K H a vs ∧ RDs K H m xs vs) : Del K (Itl K a) xs m' H' := fun i m H hs s hr => by
  obtain ⟨h1, h2⟩ := st m H s
  refine ⟨fun l => ⟨vs, h1, by rw [← h2.length]; exact l⟩, fun d e => ?_⟩
  obtain ⟨v, e1, r⟩ := h2.get e
  refine ⟨⟨vs, v, h1, e1⟩, fun x H2 y => ?_⟩
  obtain ⟨rfl, y⟩ := y
  have e2 := y vs h1
  rw [e1] at e2
  cases e2
  exact ⟨hr.stp, hr, r⟩
theorem del_tup {a : Addr} {xs : List D} {vs : List V} (h : FzT K H' m' a vs) (r : RDs K H' m' xs vs) : Del K (Itt K a) xs m' H' := fun i m H hs s hr => by
  have h1 := (h.monoQ s.q).sq
  have h2 := r.monoQ s.q
  refine ⟨fun l => ⟨vs, h1, by rw [← h2.length]; exact l⟩, fun d e => ?_⟩
  obtain ⟨v, e1, r⟩ := h2.get e
  refine ⟨⟨vs, v, h1, e1⟩, fun x H2 y => ?_⟩
  obtain ⟨rfl, y⟩ := y
  have e2 := y vs h1
  rw [e1] at e2
  cases e2
  exact ⟨hr.stp, hr, r⟩
theorem del_str {x : Str} : Del K (Its x) (signsOf x) m' H' := fun i m H hs s hr => by
  refine ⟨fun l => ?_, fun d e => ?_⟩
  · show x.cps.size ≤ i
    unfold signsOf at l
    rw [List.length_map, Array.length_toList] at l
    exact l
  · unfold signsOf at e
    rw [List.getElem?_map] at e
    obtain ⟨c, e1, rfl⟩ := Option.map_eq_some_iff.mp e
    have e1' : x.cps[i]? = some c := by rw [← Array.getElem?_toList]; exact e1
    refine ⟨?_, fun v H2 y => ?_⟩
    · show i < x.cps.size
      exact (Array.getElem?_eq_some_iff.mp e1').1
    · obtain ⟨rfl, c', e2, rfl⟩ := y
      rw [e1'] at e2
      cases e2
      exact ⟨hr.stp, hr, .str _⟩
theorem del_range {lo : Int} {n : Nat} : Del K (Itr lo n) ((List.range n).map fun i => D.int (lo + (i : Nat))) m' H' := fun i m H hs s hr => by
  refine ⟨fun l => ?_, fun d e => ?_⟩
  · rw [List.length_map, List.length_range] at l
    exact l
  · rw [List.getElem?_map] at e
    obtain ⟨c, e1, rfl⟩ := Option.map_eq_some_iff.mp e
    have hi : i < n := by
      have := (List.getElem?_eq_some_iff.mp e1).1
      rwa [List.length_range] at this
    rw [List.getElem?_range hi] at e1
    cases e1
    refine ⟨hi, fun v H2 y => ?_⟩
    obtain ⟨rfl, rfl⟩ := y
    exact ⟨hr.stp, hr, .int _⟩
theorem imp_seq {f : CE} {Q : It → Hp → Prop} (h : tI K E (iSeq f) τ H Q) : iList K (tE K E f) τ H Q ∨ iTup K (tE K E f) τ H Q ∨ iStr (tE K E f) τ H Q := by
  obtain ⟨m, σ, hs, hr, rs, p⟩ := h
  unfold iSeq at p
  cases e1 : f σ hs with
  | stuck => rw [e1] at p; exact p.elim
  | exn x hs1 =>
    rw [e1] at p
    exact .inl ⟨m, σ, hs, hr, rs, by rw [e1]; exact p⟩
  | ok d hs1 =>
    rw [e1, bind_ok] at p
    cases d with
    | tup xs =>
      refine .inr (.inl ⟨m, σ, hs, hr, rs, ?_⟩)
      rw [e1]
      intro v m1 H1 s1 hr1 r1
      cases r1 with
      | tup z q => exact ⟨_, rfl, ⟨_, z.sq⟩, p _ m1 H1 s1 hr1 (del_tup z q)⟩
    | fl xs =>
      refine .inl ⟨m, σ, hs, hr, rs, ?_⟩
      rw [e1]
      intro v m1 H1 s1 hr1 r1
      cases r1 with
      | fl z n q => exact ⟨_, rfl, ⟨_, SqL.of z⟩, p _ m1 H1 s1 hr1 (del_list fun m2 H2 s2 => ⟨SqL.of (s2.kp _ _ n.1 z nt_lst), q.monoQ s2.q⟩)⟩
    | frz xs =>
      refine .inl ⟨m, σ, hs, hr, rs, ?_⟩
      rw [e1]
      intro v m1 H1 s1 hr1 r1
      cases r1 with
      | frz z q => exact ⟨_, rfl, ⟨_, z.sq⟩, p _ m1 H1 s1 hr1 (del_list fun m2 H2 s2 => ⟨(z.monoQ s2.q).sq, q.monoQ s2.q⟩)⟩
    | str x =>
      refine .inr (.inr ⟨m, σ, hs, hr, rs, ?_⟩)
      rw [e1]
      intro v m1 H1 s1 hr1 r1
      exact ⟨x, rd_str r1, p _ m1 H1 s1 hr1 del_str⟩
    | ref i =>
      unfold srcOf at p
      dsimp only at p
      split at p
      · rename_i xs e2
        refine .inl ⟨m, σ, hs, hr, rs, ?_⟩
        rw [e1]
        intro v m1 H1 s1 hr1 r1
        cases r1 with
        | ref z =>
          rename_i a
          obtain ⟨vs, q1, q2⟩ := hr1.ob _ _ _ e2 z
          refine ⟨a, rfl, ⟨vs, SqL.of q1⟩, p _ m1 H1 s1 hr1 fun j m2 H2 hs2 ys s2 hr2 e3 => ?_⟩
          have e3 : hs2[i]? = some (.lst ys) := by
            unfold lstOf at e3
            dsimp only at e3
            split at e3
            · rename_i e4
              cases e3
              exact e4
            · cases e3
          obtain ⟨ws, w1, w2⟩ := hr2.ob _ _ _ e3 (s2.q.get _ _ z)
          refine ⟨fun l => ⟨ws, SqL.of w1, by rw [← w2.length]; exact l⟩, fun d e => ?_⟩
          obtain ⟨v, e4, r⟩ := w2.get e
          refine ⟨⟨ws, v, SqL.of w1, e4⟩, fun x H3 y => ?_⟩
          obtain ⟨rfl, y⟩ := y
          have e5 := y ws (SqL.of w1)
          rw [e4] at e5
          cases e5
          exact ⟨hr2.stp, hr2, r⟩
      · exact p.elim
    | _ => exact p.elim
/-- range(n), range(a, b) -/
def kRng1 (ds : List D) (hs : List Ob) : R Src := match ds with
  | [.int n] => if -(2 ^ 62) ≤ n ∧ n < 2 ^ 62 then .ok (.seq ((List.range n.toNat).map fun i => D.int (0 + (i : Nat)))) hs else .stuck
  | _ => .stuck
def kRng2 (ds : List D) (hs : List Ob) : R Src := match ds with
  | [.int a, .int n] => if -(2 ^ 62) ≤ a ∧ a < 2 ^ 62 ∧ -(2 ^ 62) ≤ n ∧ n < 2 ^ 62 then .ok (.seq ((List.range (n - a).toNat).map fun i => D.int (a + (i : Nat)))) hs else .stuck
  | _ => .stuck
def iArgs (k : List D → List Ob → R Src) (g : CA) : CI := fun σ hs => (g σ hs).bind fun ds hs => k ds hs
theorem tI_args {a : CA} {k : List D → List Ob → R Src} {Q : It → Hp → Prop} (h : tI K E (iArgs k a) τ H Q) : tA K E a τ H fun vs H1 => ∃ m hs ds, HR K H1 m hs ∧ RDs K H1 m ds vs ∧ PostI K E m H1 (k ds hs) Q := by
  obtain ⟨m, σ, hs, hr, rs, p⟩ := h
  refine ⟨m, σ, hs, hr, rs, ?_⟩
  unfold iArgs at p
  cases e : a σ hs with
  | ok ds hs1 =>
    rw [e] at p
    exact fun v m1 H1 s1 hr1 rd => ⟨m1, hs1, ds, hr1, rd, PostI.step s1 p⟩
  | exn x hs1 => rw [e] at p; exact p
  | stuck => rw [e] at p; exact p
theorem PostI.ite {Q : It → Hp → Prop} {c : Prop} [Decidable c] {r : R Src} (h : PostI K E m H (if c then r else .stuck) Q) : c ∧ PostI K E m H r Q := by
  by_cases hc : c
  · rw [if_pos hc] at h
    exact ⟨hc, h⟩
  · rw [if_neg hc] at h
    exact h.elim
theorem imp_rng1 {g : CA} {Q : It → Hp → Prop} (h : tI K E (iArgs kRng1 g) τ H Q) : iRng1 (tA K E g) τ H Q := by
  refine tA_mono (tI_args (τ := τ) h) fun vs H1 ⟨m, hs, ds, hr, rd, p⟩ => ?_
  unfold kRng1 at p
  split at p
  · rename_i n
    obtain ⟨c, p⟩ := p.ite
    cases rd with
    | cons r1 r2 =>
      cases r1
      cases r2
      exact ⟨n, rfl, c.1, c.2, p _ m H1 hr.stp hr del_range⟩
  · exact p.elim
theorem imp_rng2 {g : CA} {Q : It → Hp → Prop} (h : tI K E (iArgs kRng2 g) τ H Q) : iRng2 (tA K E g) τ H Q := by
  refine tA_mono (tI_args (τ := τ) h) fun vs H1 ⟨m, hs, ds, hr, rd, p⟩ => ?_
  unfold kRng2 at p
  split at p
  · rename_i a n
    obtain ⟨c, p⟩ := p.ite
    cases rd with
    | cons r1 r2 =>
      cases r1
      cases r2 with
      | cons r3 r4 =>
        cases r3
        cases r4
        exact ⟨a, n, rfl, c, p _ m H1 hr.stp hr del_range⟩
  · exact p.elim
end
section
variable {X : Cx} {E : XK} {tg e e2 : Expr} {f : CE} {g : CA} {p pos : Pos}
theorem i_seq (h : SE X E e f) : SI X E tg e (iSeq f) := PI.imp (PI.or (pi_list h) (PI.or (pi_tup h) (pi_str h))) fun _ _ _ => imp_seq
theorem i_rng1 (h : SA X E [e] g) (hm : X.mg "range" = none) (hg : Gl X "range" := by rfl) (hs : starEach [e] X.env = [(false, eval e X.env)] := by rfl) : SI X E tg (.Call (.Name "range" p) [e] [] pos) (iArgs kRng1 g) := PI.imp (pi_range1 hg hm h hs) fun _ _ _ => imp_rng1
theorem i_rng2 (h : SA X E [e, e2] g) (hm : X.mg "range" = none) (hg : Gl X "range" := by rfl) (hs : starEach [e, e2] X.env = [(false, eval e X.env), (false, eval e2 X.env)] := by rfl) (hs2 : starEach [e2] X.env = [(false, eval e2 X.env)] := by rfl) : SI X E tg (.Call (.Name "range" p) [e, e2] [] pos) (iArgs kRng2 g) := PI.imp (pi_range2 hg hm h hs hs2) fun _ _ _ => imp_rng2
end
/-! ## targets -/
inductive Tg where
  | nm (i : Nat)
  | tp (ts : List Tg)
mutual
def bindT : Tg → D → Sl → Option Sl
  | .nm i, d, σ => some (σ.set i (some d))
  | .tp ts, .tup ds, σ => bindTs ts ds σ
  | _, _, _ => none
def bindTs : List Tg → List D → Sl → Option Sl
  | [], [], σ => some σ
  | t :: ts, d :: ds, σ => (bindT t d σ).bind fun σ' => bindTs ts ds σ'
  | _, _, _ => none
end
def Tg.idx : Tg → List Nat
  | .nm i => [i]
  | .tp ts => idxs ts
where idxs : List Tg → List Nat
  | [] => []
  | t :: ts => t.idx ++ idxs ts
mutual
def gV (K : PySem.W.Frag) : Tg → TG
  | .nm i => gName i
  | .tp ts => gTup K ts.length (gVs K ts)
def gVs (K : PySem.W.Frag) : List Tg → TGs
  | [] => gNil
  | t :: ts => gCons (gV K t) (gVs K ts)
end
abbrev SG (X : Cx) (tg : Expr) (t : Tg) : Prop := PG X tg (gV X.K t)
abbrev SGs (X : Cx) (tg : List Expr) (t : List Tg) : Prop := PGs X tg (gVs X.K t)
theorem wipe_get (σ : Lt) : ∀ (vs : List Nat) (j : Nat), (wipe σ vs)[j]? = if j ∈ vs then (σ[j]?).map (fun _ => none) else σ[j]?
  | [], j => by simp [wipe]
  | v :: vs, j => by
    unfold wipe
    rw [List.getElem?_set]
    by_cases e : v = j
    · subst e
      rw [if_pos rfl, if_pos List.mem_cons_self, wipe_length]
      by_cases hl : v < σ.length
      · rw [if_pos hl, List.getElem?_eq_getElem hl]
        rfl
      · rw [if_neg hl, List.getElem?_eq_none (by omega)]
        rfl
    · rw [if_neg e, wipe_get σ vs j]
      by_cases hm : j ∈ vs
      · rw [if_pos hm, if_pos (List.mem_cons_of_mem _ hm)]
      · rw [if_neg hm, if_neg (by simp [hm, Ne.symm e])]
theorem wipe_set {σ : Lt} {vs : List Nat} {i : Nat} {x : Option V} (h : i ∈ vs) : wipe (σ.set i x) vs = wipe σ vs := by
  refine List.ext_getElem? fun j => ?_
  rw [wipe_get, wipe_get]
  by_cases e : j ∈ vs
  · rw [if_pos e, if_pos e, List.getElem?_set]
    by_cases z : i = j
    · subst z
      rw [if_pos rfl]
      by_cases hl : i < σ.length
      · rw [if_pos hl, List.getElem?_eq_getElem hl]
        rfl
      · rw [if_neg hl, List.getElem?_eq_none (by omega)]
    · rw [if_neg z]
  · rw [if_neg e, if_neg e, List.getElem?_set_ne (show i ≠ j from fun z => e (by rw [← z]; exact h))]
section
variable {K : Kc} {H : Hp} {m : Mp}
mutual
theorem gV_use : ∀ (t : Tg) {d : D} {v : V} {σ σ' : Sl} {τ : Lt} {Q : Lt → Hp → Prop}, RSl K H m σ τ → RD K H m d v → bindT t d σ = some σ' →
    (∀ τ', RSl K H m σ' τ' → (∀ vs, (∀ i ∈ t.idx, i ∈ vs) → wipe τ' vs = wipe τ vs) → Q τ' H) → gV K t v τ H Q
  | .nm i, d, v, σ, σ', τ, Q, rs, rd, e, q => by
    have e' : σ.set i (some d) = σ' := Option.some.inj (by simpa [bindT] using e)
    subst e'
    unfold gV
    exact q _ (rs.set i rd) fun vs h => wipe_set (h i (by simp [Tg.idx]))
  | .tp ts, d, v, σ, σ', τ, Q, rs, rd, e, q => by
    cases d with
    | tup ds =>
      cases rd with
      | tup z r =>
        have e' : bindTs ts ds σ = some σ' := by simpa [bindT] using e
        unfold gV
        refine ⟨_, _, rfl, z.sq, ?_, gVs_use ts rs r e' fun τ' r' w => q τ' r' fun vs h => w vs fun i hi => h i (by unfold Tg.idx; exact hi)⟩
        rw [← r.length]
        exact bindTs_len ts ds e'
    | _ => simp [bindT] at e
theorem gVs_use : ∀ (ts : List Tg) {ds : List D} {vs : List V} {σ σ' : Sl} {τ : Lt} {Q : Lt → Hp → Prop}, RSl K H m σ τ → RDs K H m ds vs → bindTs ts ds σ = some σ' →
    (∀ τ', RSl K H m σ' τ' → (∀ ws, (∀ i ∈ Tg.idx.idxs ts, i ∈ ws) → wipe τ' ws = wipe τ ws) → Q τ' H) → gVs K ts vs τ H Q
  | [], ds, vs, σ, σ', τ, Q, rs, rd, e, q => by
    cases rd with
    | nil =>
      have e' : σ = σ' := Option.some.inj (by simpa [bindTs] using e)
      subst e'
      unfold gVs
      exact ⟨rfl, q _ rs fun _ _ => rfl⟩
    | cons _ _ => simp [bindTs] at e
  | t :: ts, ds, vs, σ, σ', τ, Q, rs, rd, e, q => by
    cases rd with
    | nil => simp [bindTs] at e
    | @cons d v' ds' vs' r1 r2 =>
      have e' : ((bindT t d σ).bind fun σ' => bindTs ts ds' σ') = some σ' := by simpa [bindTs] using e
      obtain ⟨σ1, e1, e2⟩ := Option.bind_eq_some_iff.mp e'
      unfold gVs
      exact ⟨v', vs', rfl, gV_use t rs r1 e1 fun τ1 rs1 w1 => gVs_use ts rs1 r2 e2 fun τ2 rs2 w2 => q τ2 rs2 fun ws h =>
        (w2 ws fun i hi => h i (by unfold Tg.idx.idxs; exact List.mem_append_right _ hi)).trans (w1 ws fun i hi => h i (by unfold Tg.idx.idxs; exact List.mem_append_left _ hi))⟩
theorem bindTs_len : ∀ (ts : List Tg) (ds : List D) {σ σ' : Sl}, bindTs ts ds σ = some σ' → ds.length = ts.length
  | [], [], _, _, _ => rfl
  | [], _ :: _, _, _, e => by simp [bindTs] at e
  | _ :: _, [], _, _, e => by simp [bindTs] at e
  | t :: ts, d :: ds, σ, σ', e => by
    simp only [bindTs] at e
    obtain ⟨σ1, e1, e2⟩ := Option.bind_eq_some_iff.mp e
    exact congrArg Nat.succ (bindTs_len ts ds e2)
end
end
section
variable {X : Cx}
theorem g_nm (i : Nat) {x : Str} {pos : Pos} (hN : X.N.Nodup) (hi : X.N[i]? = some x := by rfl) (hx : Loc X.env.scope x := by first | exact Or.inl rfl | exact Or.inr rfl) (hf : X.fn x = true ∨ X.env.scope.names.lookup x = some .local := by first | exact .inl rfl | exact .inr rfl) : SG X (.Name x pos) (.nm i) := by
  unfold SG gV
  exact pg_name hN hi hx hf
theorem gs_nil : SGs X [] [] := by
  unfold SGs gVs
  exact pgs_nil
theorem gs_cons {e : Expr} {es : List Expr} {t : Tg} {ts : List Tg} (h1 : SG X e t) (h2 : SGs X es ts) (hs : (assignEach (e :: es) X.env).map (·.2) = assign e X.env :: (assignEach es X.env).map (·.2) := by rfl) : SGs X (e :: es) (t :: ts) := by
  unfold SGs gVs
  exact pgs_cons h1 h2 hs
theorem g_tp {es : List Expr} {k : Nat} {pos : Pos} {ts : List Tg} (hc : X.calm = true) (h : SGs X es ts) (hn : (assignEach es X.env).length = ts.length := by rfl) (hst : (assignEach es X.env).findIdx? (·.1) = none := by rfl) : SG X (.Tuple es k pos) (.tp ts) := by
  unfold SG gV
  exact pg_tup hc h hn hst
end
end PL

set_option Elab.async false
set_option linter.all false
set_option maxRecDepth 100000
set_option maxHeartbeats 4000000
set_option autoImplicit false
namespace PL
open PySem PySem.Spec PyProof.Rows L2
/-! ## statements -/
def PostS (K : Kc) (E : XK) (m : Mp) (H : Hp) (r : R Fl) (D : Ends) : Prop := match r with
  | .ok (.nx σ) hs => ∀ τ' m' H', Stp m H m' H' → HR K H' m' hs → RSl K H' m' σ τ' → D.nx τ' H'
  | .ok (.rt d) hs => ∀ v m' H', Stp m H m' H' → HR K H' m' hs → RD K H' m' d v → D.rt v H'
  | .ok (.bk σ) hs => ∀ τ' m' H', Stp m H m' H' → HR K H' m' hs → RSl K H' m' σ τ' → D.bk τ' H'
  | .ok (.ct σ) hs => ∀ τ' m' H', Stp m H m' H' → HR K H' m' hs → RSl K H' m' σ τ' → D.ct τ' H'
  | .exn x hs => ∀ c od m' H', Stp m H m' H' → HR K H' m' hs → RX K H' m' x c od → E c od H'
  | .stuck => False
def tS (K : Kc) (E : XK) (c : CS) : TS := fun D τ H => ∃ m σ hs, HR K H m hs ∧ RSl K H m σ τ ∧ PostS K E m H (c σ hs) D
abbrev SS (X : Cx) (E : XK) (st : Stmt) (c : CS) : Prop := PS X st (tS (kc X E) E c)
abbrev SSs (X : Cx) (E : XK) (st : List Stmt) (c : CS) : Prop := PSs X st (tS (kc X E) E c)
def cNext : CS := fun σ hs => .ok (.nx σ) hs
def cSeq (c1 c2 : CS) : CS := fun σ hs => (c1 σ hs).bind fun f hs => match f with
  | .nx σ => c2 σ hs
  | f => .ok f hs
section
variable {K : Kc} {E : XK} {H H' : Hp} {m m' : Mp} {hs : List Ob} {τ : Lt} {D D' : Ends}
theorem PostS.step {r : R Fl} (s : Stp m H m' H') (h : PostS K E m H r D) : PostS K E m' H' r D := by
  cases r with
  | ok f hs' =>
    cases f <;> exact fun v m2 H2 s2 r1 r2 => h v m2 H2 (s.trans s2) r1 r2
  | exn x hs' => exact fun c od m2 H2 s2 r1 r2 => h c od m2 H2 (s.trans s2) r1 r2
  | stuck => exact h
theorem PostS.next {σ : Sl} (hr : HR K H m hs) (rs : RSl K H m σ τ) (h : PostS K E m H (.ok (.nx σ) hs) D) : D.nx τ H := h τ m H hr.stp hr rs
theorem PostS.next_step {σ : Sl} (s : Stp m H m' H') (hr : HR K H' m' hs) (rs : RSl K H' m' σ τ) (h : PostS K E m H (.ok (.nx σ) hs) D) : D.nx τ H' := h τ m' H' s hr rs
theorem PostS.ite {c : Prop} [Decidable c] {r : R Fl} (h : PostS K E m H (if c then r else .stuck) D) : c ∧ PostS K E m H r D := by
  by_cases hc : c
  · rw [if_pos hc] at h
    exact ⟨hc, h⟩
  · rw [if_neg hc] at h
    exact h.elim
theorem imp_seqS {c1 c2 : CS} (h : tS K E (cSeq c1 c2) D τ H) : tSeq (tS K E c1) (tS K E c2) D τ H := by
  obtain ⟨m, σ, hs, hr, rs, p⟩ := h
  refine ⟨m, σ, hs, hr, rs, ?_⟩
  unfold cSeq at p
  cases e : c1 σ hs with
  | stuck => rw [e] at p; exact p.elim
  | exn x hs1 => rw [e] at p; exact p
  | ok f hs1 =>
    rw [e, bind_ok] at p
    cases f with
    | nx σ1 => exact fun τ1 m1 H1 s1 hr1 rs1 => ⟨m1, σ1, hs1, hr1, rs1, PostS.step s1 p⟩
    | rt d => exact p
    | bk σ1 => exact p
    | ct σ1 => exact p
/-- an expression first -/
theorem tS_bind {f : CE} {g : _root_.PL.D → CS} (h : tS K E (fun σ hs => (f σ hs).bind fun d hs => g d σ hs) D τ H) :
    tE K E f τ H fun v H1 => ∃ m σ hs d, HR K H1 m hs ∧ RSl K H1 m σ τ ∧ RD K H1 m d v ∧ PostS K E m H1 (g d σ hs) D := by
  obtain ⟨m, σ, hs, hr, rs, p⟩ := h
  refine ⟨m, σ, hs, hr, rs, ?_⟩
  dsimp only at p
  cases e : f σ hs with
  | ok d hs1 =>
    rw [e] at p
    exact fun v m1 H1 s1 hr1 rd => ⟨m1, σ, hs1, d, hr1, rs.mono s1, rd, PostS.step s1 p⟩
  | exn x hs1 => rw [e] at p; exact p
  | stuck => rw [e] at p; exact p
end
def cRet (f : CE) : CS := fun σ hs => (f σ hs).bind fun d hs => .ok (.rt d) hs
def cRetN : CS := fun _ hs => .ok (.rt .non) hs
def cDrop (f : CE) : CS := fun σ hs => (f σ hs).bind fun _ hs => .ok (.nx σ) hs
def cSet (t : Tg) (f : CE) : CS := fun σ hs => (f σ hs).bind fun d hs => match bindT t d σ with
  | some σ' => .ok (.nx σ') hs
  | none => .stuck
def cIfS (c : CE) (a b : CS) : CS := fun σ hs => (c σ hs).bind fun x hs => match x with
  | .bl true => a σ hs
  | .bl false => b σ hs
  | _ => .stuck
def cBreak : CS := fun σ hs => .ok (.bk σ) hs
def cCont : CS := fun σ hs => .ok (.ct σ) hs
/-- name op= e -/
def cAug (i : Nat) (k : D → D → List Ob → R D) (f : CE) : CS := fun σ hs => match σ[i]? with
  | some (some x) => (f σ hs).bind fun y hs => (k x y hs).bind fun z hs => .ok (.nx (σ.set i (some z))) hs
  | _ => .stuck
section
variable {X : Cx} {E : XK} {st : Stmt} {sts : List Stmt} {c1 c2 : CS} {e : Expr} {f : CE} {pos : Pos}
theorem ss_nil : SSs X E [] cNext := PSs.imp pss_nil fun D τ H ⟨m, σ, hs, hr, rs, p⟩ => p τ m H hr.stp hr rs
theorem ss_cons (h1 : SS X E st c1) (h2 : SSs X E sts c2) : SSs X E (st :: sts) (cSeq c1 c2) := PSs.imp (pss_cons h1 h2) fun _ _ _ => imp_seqS
theorem ss_one (h1 : SS X E st c1) : SSs X E [st] c1 := pss_one h1
theorem x_pass : SS X E (.Pass pos) cNext := PS.imp ps_pass fun D τ H ⟨m, σ, hs, hr, rs, p⟩ => p τ m H hr.stp hr rs
theorem x_break : SS X E (.Break pos) cBreak := PS.imp ps_break fun D τ H ⟨m, σ, hs, hr, rs, p⟩ => p τ m H hr.stp hr rs
theorem x_cont : SS X E (.Continue pos) cCont := PS.imp ps_continue fun D τ H ⟨m, σ, hs, hr, rs, p⟩ => p τ m H hr.stp hr rs
theorem x_ret (h : SE X E e f) : SS X E (.Return (some e) pos) (cRet f) := PS.imp (ps_ret h) fun D τ H h => tE_mono (tS_bind (τ := τ) (f := f) (g := fun d _ hs => .ok (.rt d) hs) h) fun v H1 ⟨m, σ, hs, d, hr, rs, rd, p⟩ => p v m H1 hr.stp hr rd
theorem x_retN : SS X E (.Return none pos) cRetN := PS.imp ps_retN fun D τ H ⟨m, σ, hs, hr, rs, p⟩ => p .non m H hr.stp hr .non
theorem x_expr (h : SE X E e f) (hs : swapsWith e none pos.line X.env = pure false := by rfl) : SS X E (.Expr e pos) (cDrop f) := PS.imp (ps_expr h hs) fun D τ H h => tE_mono (tS_bind (τ := τ) (f := f) (g := fun d σ hs => .ok (.nx σ) hs) h) fun v H1 ⟨m, σ, hs, d, hr, rs, rd, p⟩ => p.next hr rs
theorem x_set {i : Nat} {x : Str} {pos' : Pos} (hN : X.N.Nodup) (he : SE X E e f) (hi : X.N[i]? = some x := by rfl) (hx : Loc X.env.scope x := by first | exact Or.inl rfl | exact Or.inr rfl) (hs : swapsWith e (some (.Name x pos')) pos.line X.env = pure false := by rfl)
    (hf : X.fn x = true ∨ X.env.scope.names.lookup x = some .local := by first | exact .inl rfl | exact .inr rfl) : SS X E (.Assign [.Name x pos'] e pos) (cSet (.nm i) f) :=
  PS.imp (ps_set hN hi hx he hs hf) fun D τ H h => tE_mono (tS_bind (τ := τ) (f := f) (g := fun d σ hs => match bindT (.nm i) d σ with
  | some σ' => .ok (.nx σ') hs
  | none => .stuck) h) fun v H1 ⟨m, σ, hs, d, hr, rs, rd, p⟩ => PostS.next (σ := σ.set i (some d)) hr (rs.set i rd) p
theorem x_asg {tg : Expr} {t : Tg} (he : SE X E e f) (hg : SG X tg t) (hs : swapsWithSole [tg] e pos.line X.env = pure false := by rfl) (hw : swappedStores [tg] e X.env = pure none := by rfl) (h1 : (assignEach [tg] X.env).map (·.2) = [assign tg X.env] := by rfl) : SS X E (.Assign [tg] e pos) (cSet t f) :=
  PS.imp (ps_asg he hg hs hw h1) fun D τ H h => tE_mono (tS_bind (τ := τ) (f := f) (g := fun d σ hs => match bindT t d σ with
  | some σ' => .ok (.nx σ') hs
  | none => .stuck) h) fun v H1 ⟨m, σ, hs, d, hr, rs, rd, p⟩ => by
    cases e : bindT t d σ with
    | none => rw [e] at p; exact p.elim
    | some σ' =>
      rw [e] at p
      exact gV_use t rs rd e fun τ' rs' _ => p.next hr rs'
/-- a, b = x, y (names, plainly) -/
def cPar (i j : Nat) (f : CA) : CS := fun σ hs => (f σ hs).bind fun ds hs => match ds with
  | [a, b] => .ok (.nx ((σ.set i (some a)).set j (some b))) hs
  | _ => .stuck
theorem x_par {i j : Nat} {x y : Str} {a b : Expr} {g : CA} {px py pt : Pos} {kt k2 pt2} (hc : X.calm = true) (hN : X.N.Nodup) (ha : SA X E [a, b] g) (hij : i ≠ j := by decide) (hi : X.N[i]? = some x := by rfl) (hj : X.N[j]? = some y := by rfl)
    (hx : X.env.scope.names.lookup x = some .local := by rfl) (hy : X.env.scope.names.lookup y = some .local := by rfl)
    (hw : swappedStores [.Tuple [.Name x px, .Name y py] kt pt] (.Tuple [a, b] k2 pt2) X.env = pure (some [x, y]) := by rfl)
    (hs : swapsWithSole [.Tuple [.Name x px, .Name y py] kt pt] (.Tuple [a, b] k2 pt2) pos.line X.env = pure false := by rfl) :
    SS X E (.Assign [.Tuple [.Name x px, .Name y py] kt pt] (.Tuple [a, b] k2 pt2) pos) (cPar i j g) :=
  PS.imp (ps_par hc hN hi hj hij hx hy ha hw hs) fun D τ H ⟨m, σ, hs, hr, rs, p⟩ => by
    refine ⟨m, σ, hs, hr, rs, ?_⟩
    unfold cPar at p
    cases e : g σ hs with
    | stuck => rw [e] at p; exact p.elim
    | exn x hs1 => rw [e] at p; exact p
    | ok ds hs1 =>
      rw [e, bind_ok] at p
      intro vs m1 H1 s1 hr1 r1
      split at p
      · rename_i a b
        cases r1 with
        | cons q1 q2 =>
          cases q2 with
          | cons q2 q3 =>
            cases q3
            exact ⟨_, _, rfl, PostS.next_step s1 hr1 (((rs.mono s1).set i q1).set j q2) p⟩
      · exact p.elim
theorem x_if {c : Expr} {a b : List Stmt} {k : CE} (hc : ST X E c k) (ha : SSs X E a c1) (hb : SSs X E b c2) : SS X E (.If c a b pos) (cIfS k c1 c2) := PS.imp (ps_if hc ha hb) fun D τ H h => by
  refine tE_mono (tS_bind (τ := τ) (f := k) h) fun v H1 ⟨m, σ, hs, d, hr, rs, rd, p⟩ => ?_
  split at p
  · exact ⟨true, rd_bl rd, iteT ⟨m, σ, hs, hr, rs, p⟩⟩
  · exact ⟨false, rd_bl rd, iteF ⟨m, σ, hs, hr, rs, p⟩⟩
  · exact p.elim
end
/-! ## name op= e -/
def OpIp (K : Kc) (r : TIp) (k : D → D → List Ob → R D) : Prop := Op2 K r k
section
variable {X : Cx} {E : XK} {e : Expr} {f : CE} {pos : Pos} {op : Operator}
theorem pip_of {r : R2} (h : OpR X (inplaceOp op) r) : PIp X op r := fun pins s σ H x y v u Q I r1 r2 q => h pins s σ H x y v u Q I r1 r2 q
theorem x_aug {i : Nat} {x : Str} {pos' : Pos} {r : R2} {k : D → D → List Ob → R D} (o : Op2 (kc X E) r k) (ho : OpR X (inplaceOp op) r) (hN : X.N.Nodup) (he : SE X E e f) (hi : X.N[i]? = some x := by rfl) (hx : Loc X.env.scope x := by first | exact Or.inl rfl | exact Or.inr rfl)
    (hf : X.fn x = true ∨ X.env.scope.names.lookup x = some .local := by first | exact .inl rfl | exact .inr rfl) : SS X E (.AugAssign (.Name x pos') op e pos) (cAug i k f) :=
  PS.imp (ps_aug hN hi hx he (pip_of ho) hf) fun D τ H ⟨m, σ, hs, hr, rs, p⟩ => by
    unfold cAug at p
    split at p
    · rename_i d ed
      obtain ⟨v, hv, rd⟩ := rs.2 i d ed
      refine ⟨v, hv, m, σ, hs, hr, rs, ?_⟩
      cases e1 : f σ hs with
      | stuck => rw [e1] at p; exact p.elim
      | exn x hs1 => rw [e1] at p; exact p
      | ok d2 hs1 =>
        rw [e1, bind_ok] at p
        intro w m1 H1 s1 hr1 r1
        refine o E H1 m1 hs1 d d2 v w _ hr1 (rd.mono s1) r1 ?_
        cases e2 : k d d2 hs1 with
        | stuck => rw [e2] at p; exact p.elim
        | exn x hs2 => rw [e2] at p; exact fun c od m2 H2 s2 h2 r2 => p c od m2 H2 (s1.trans s2) h2 r2
        | ok d3 hs2 =>
          rw [e2, bind_ok] at p
          exact fun z m2 H2 s2 hr2 r2 => PostS.next_step (s1.trans s2) hr2 ((rs.mono (s1.trans s2)).set i r2) p
    · exact p.elim
def rAddIp (K : PySem.W.Frag) : R2 := fun x y H Q => rI0 (fun i j => .int (i + j)) x y H Q ∨ ∃ i j, x = .str i ∧ y = .str j ∧ i.length + j.length ≤ sizeLine ∧ Q (.str (i ++ j)) H
def kAddIp : D → D → List Ob → R D
  | .int a, .int b, hs => .ok (.int (a + b)) hs
  | .str a, .str b, hs => if a.length + b.length ≤ sizeLine then .ok (.str (a ++ b)) hs else .stuck
  | _, _, _ => .stuck
theorem o2_addIp {K : Kc} : Op2 K (rAddIp K) kAddIp := fun E H m hs d d2 v w Q hr r1 r2 p => by
  unfold kAddIp at p
  split at p
  · cases r1
    cases r2
    exact .inl ⟨_, _, rfl, rfl, p.here hr (.int _)⟩
  · cases r1
    cases r2
    obtain ⟨c, p⟩ := p.ite
    exact .inr ⟨_, _, rfl, rfl, c, p.here hr (.str _)⟩
  · exact p.elim
theorem x_augAdd {i : Nat} {x : Str} {pos' : Pos} (hN : X.N.Nodup) (he : SE X E e f) (hi : X.N[i]? = some x := by rfl) (hx : Loc X.env.scope x := by first | exact Or.inl rfl | exact Or.inr rfl)
    (hf : X.fn x = true ∨ X.env.scope.names.lookup x = some .local := by first | exact .inl rfl | exact .inr rfl) : SS X E (.AugAssign (.Name x pos') .Add e pos) (cAug i kAddIp f) := x_aug o2_addIp (iop_add.or iop_add_str) hN he hi hx hf
theorem x_augSub {i : Nat} {x : Str} {pos' : Pos} (hN : X.N.Nodup) (he : SE X E e f) (hi : X.N[i]? = some x := by rfl) (hx : Loc X.env.scope x := by first | exact Or.inl rfl | exact Or.inr rfl)
    (hf : X.fn x = true ∨ X.env.scope.names.lookup x = some .local := by first | exact .inl rfl | exact .inr rfl) : SS X E (.AugAssign (.Name x pos') .Sub e pos) (cAug i kSub f) := x_aug o2_sub iop_sub hN he hi hx hf
end
/-! ## loops -/
@[irreducible] def FUEL : Nat := 2 ^ 12000
def loopW : Nat → CE → CS → CS
  | 0, _, _, _, _ => .stuck
  | n + 1, c, b, σ, hs => (c σ hs).bind fun x hs => match x with
    | .bl true => (b σ hs).bind fun f hs => match f with
      | .nx σ => loopW n c b σ hs
      | .ct σ => loopW n c b σ hs
      | .bk σ => .ok (.nx σ) hs
      | .rt d => .ok (.rt d) hs
    | .bl false => .ok (.nx σ) hs
    | _ => .stuck
def cWhile (c : CE) (b : CS) : CS := fun σ hs => loopW FUEL c b σ hs
def loopL (t : Tg) (b : CS) : List D → CS
  | [], σ, hs => .ok (.nx σ) hs
  | x :: xs, σ, hs => match bindT t x σ with
    | none => .stuck
    | some σ => (b σ hs).bind fun f hs => match f with
      | .nx σ => loopL t b xs σ hs
      | .ct σ => loopL t b xs σ hs
      | .bk σ => .ok (.nx σ) hs
      | .rt d => .ok (.rt d) hs
def loopR (t : Tg) (b : CS) (r : List Ob → Option (List D)) : Nat → Nat → CS
  | n, i, σ, hs => match r hs with
    | some xs => match xs[i]? with
      | none => .ok (.nx σ) hs
      | some x => match n with
        | 0 => .stuck
        | n + 1 => match bindT t x σ with
          | none => .stuck
          | some σ => (b σ hs).bind fun f hs => match f with
            | .nx σ => loopR t b r n (i + 1) σ hs
            | .ct σ => loopR t b r n (i + 1) σ hs
            | .bk σ => .ok (.nx σ) hs
            | .rt d => .ok (.rt d) hs
    | _ => .stuck
def liveLen (r : List Ob → Option (List D)) (hs : List Ob) : Nat := match r hs with
  | some xs => xs.length
  | _ => 0
def cFor (t : Tg) (s : CI) (b : CS) : CS := fun σ hs => (s σ hs).bind fun s hs => match s with
  | .seq xs => loopL t b xs σ hs
  | .live r => loopR t b r (liveLen r hs) 0 σ hs
section
variable {K : Kc} {E : XK} {H H' : Hp} {m m' : Mp} {hs : List Ob} {τ : Lt} {D : Ends}
theorem imp_while {c : CE} {b : CS} (h : tS K E (cWhile c b) D τ H) : tWhile (tTest (tE K E c)) (tS K E b) D τ H := by
  obtain ⟨m, σ, hs, hr, rs, p⟩ := h
  refine ⟨fun n τ H => ∃ m σ hs, HR K H m hs ∧ RSl K H m σ τ ∧ PostS K E m H (loopW n c b σ hs) D, ⟨FUEL, m, σ, hs, hr, rs, p⟩, fun n τ H ⟨m, σ, hs, hr, rs, p⟩ => ?_⟩
  cases n with
  | zero => exact p.elim
  | succ n =>
    have p' : tS K E (fun σ hs => (c σ hs).bind fun x hs => match x with
      | .bl true => (b σ hs).bind fun f hs => match f with
        | .nx σ => loopW n c b σ hs
        | .ct σ => loopW n c b σ hs
        | .bk σ => .ok (.nx σ) hs
        | .rt d => .ok (.rt d) hs
      | .bl false => .ok (.nx σ) hs
      | _ => .stuck) D τ H := ⟨m, σ, hs, hr, rs, p⟩
    refine tE_mono (tS_bind (τ := τ) (f := c) p') fun v H1 ⟨m, σ, hs, d, hr, rs, rd, p⟩ => ?_
    split at p
    · refine ⟨true, rd_bl rd, iteT ⟨fun τ H => ∃ m σ hs, HR K H m hs ∧ RSl K H m σ τ ∧ PostS K E m H (loopW n c b σ hs) D, fun τ2 H2 q => ⟨n, Nat.lt_succ_self n, q⟩, m, σ, hs, hr, rs, ?_⟩⟩
      cases e : b σ hs with
      | stuck => rw [e] at p; exact p.elim
      | exn x hs1 => rw [e] at p; exact p
      | ok f hs1 =>
        rw [e, bind_ok] at p
        cases f with
        | nx σ1 => exact fun τ1 m1 H1 s1 hr1 rs1 => ⟨m1, σ1, hs1, hr1, rs1, PostS.step s1 p⟩
        | ct σ1 => exact fun τ1 m1 H1 s1 hr1 rs1 => ⟨m1, σ1, hs1, hr1, rs1, PostS.step s1 p⟩
        | bk σ1 => exact p
        | rt d => exact p
    · exact ⟨false, rd_bl rd, iteF (p.next hr rs)⟩
    · exact p.elim
theorem imp_for {t : Tg} {s : CI} {b : CS} (h : tS K E (cFor t s b) D τ H) : tFor (tI K E s) (gV K t) (tS K E b) D τ H := by
  obtain ⟨m, σ, hs, hr, rs, p⟩ := h
  refine ⟨m, σ, hs, hr, rs, ?_⟩
  unfold cFor at p
  cases e : s σ hs with
  | stuck => rw [e] at p; exact p.elim
  | exn x hs1 => rw [e] at p; exact p
  | ok src hs1 =>
    rw [e, bind_ok] at p
    cases src with
    | seq xs =>
      intro J m1 H1 s1 hr1 dl
      refine ⟨fun i n τ H => n = xs.length - i ∧ ∃ m σ hs, Stp m1 H1 m H ∧ HR K H m hs ∧ RSl K H m σ τ ∧ PostS K E m H (loopL t b (xs.drop i) σ hs) D, ⟨xs.length, rfl, m1, σ, hs1, hr1.stp, hr1, rs.mono s1, PostS.step s1 p⟩, ?_⟩
      rintro i n τ H ⟨rfl, m, σ, hs, st, hr, rs, p⟩
      obtain ⟨d1, d2⟩ := dl i m H hs st.w hr
      by_cases hi : i < xs.length
      · obtain ⟨d3, d4⟩ := d2 xs[i] (List.getElem?_eq_getElem hi)
        refine .inr ⟨d3, fun τ H => ∃ m σ hs, Stp m1 H1 m H ∧ HR K H m hs ∧ RSl K H m σ τ ∧ PostS K E m H (loopL t b (xs.drop (i + 1)) σ hs) D, fun τ2 H2 q => ⟨xs.length - (i + 1), by omega, rfl, q⟩, fun x H2 y => ?_⟩
        obtain ⟨s2, hr2, rd⟩ := d4 x H2 y
        rw [List.drop_eq_getElem_cons hi] at p
        unfold loopL at p
        cases e2 : bindT t xs[i] σ with
        | none => rw [e2] at p; exact p.elim
        | some σ2 =>
          rw [e2] at p
          refine gV_use t (rs.mono s2) rd e2 fun τ2 rs2 _ => ⟨m, σ2, hs, hr2, rs2, ?_⟩
          dsimp only at p
          cases e3 : b σ2 hs with
          | stuck => rw [e3] at p; exact p.elim
          | exn x hs3 => rw [e3] at p; exact fun c od m3 H3 s3 h3 r3 => p c od m3 H3 (s2.trans s3) h3 r3
          | ok f hs3 =>
            rw [e3, bind_ok] at p
            cases f with
            | nx σ3 => exact fun τ3 m3 H3 s3 hr3 rs3 => ⟨m3, σ3, hs3, (st.trans s2).trans s3, hr3, rs3, PostS.step (s2.trans s3) p⟩
            | ct σ3 => exact fun τ3 m3 H3 s3 hr3 rs3 => ⟨m3, σ3, hs3, (st.trans s2).trans s3, hr3, rs3, PostS.step (s2.trans s3) p⟩
            | bk σ3 => exact fun τ3 m3 H3 s3 hr3 rs3 => p τ3 m3 H3 (s2.trans s3) hr3 rs3
            | rt d => exact fun v m3 H3 s3 hr3 rd3 => p v m3 H3 (s2.trans s3) hr3 rd3
      · rw [List.drop_eq_nil_of_le (by omega)] at p
        exact .inl ⟨d1 (by omega), p.next hr rs⟩
    | live r =>
      intro J m1 H1 s1 hr1 dl
      refine ⟨fun i n τ H => ∃ m σ hs, Stp m1 H1 m H ∧ HR K H m hs ∧ RSl K H m σ τ ∧ PostS K E m H (loopR t b r n i σ hs) D, ⟨_, m1, σ, hs1, hr1.stp, hr1, rs.mono s1, PostS.step s1 p⟩, ?_⟩
      rintro i n τ H ⟨m, σ, hs, st, hr, rs, p⟩
      unfold loopR at p
      split at p
      · rename_i xs ex
        obtain ⟨d1, d2⟩ := dl i m H hs xs st.w hr ex
        split at p
        · rename_i en
          exact .inl ⟨d1 (by rw [List.getElem?_eq_none_iff] at en; exact en), p.next hr rs⟩
        · rename_i x0 en
          obtain ⟨d3, d4⟩ := d2 x0 en
          cases n with
          | zero => exact p.elim
          | succ n =>
            refine .inr ⟨d3, fun τ H => ∃ m σ hs, Stp m1 H1 m H ∧ HR K H m hs ∧ RSl K H m σ τ ∧ PostS K E m H (loopR t b r n (i + 1) σ hs) D, fun τ2 H2 q => ⟨n, Nat.lt_succ_self n, q⟩, fun x H2 y => ?_⟩
            obtain ⟨s2, hr2, rd⟩ := d4 x H2 y
            dsimp only at p
            cases e2 : bindT t x0 σ with
            | none => rw [e2] at p; exact p.elim
            | some σ2 =>
              rw [e2] at p
              refine gV_use t (rs.mono s2) rd e2 fun τ2 rs2 _ => ⟨m, σ2, hs, hr2, rs2, ?_⟩
              dsimp only at p
              cases e3 : b σ2 hs with
              | stuck => rw [e3] at p; exact p.elim
              | exn x hs3 => rw [e3] at p; exact fun c od m3 H3 s3 h3 r3 => p c od m3 H3 (s2.trans s3) h3 r3
              | ok f hs3 =>
                rw [e3, bind_ok] at p
                cases f with
                | nx σ3 => exact fun τ3 m3 H3 s3 hr3 rs3 => ⟨m3, σ3, hs3, (st.trans s2).trans s3, hr3, rs3, PostS.step (s2.trans s3) p⟩
                | ct σ3 => exact fun τ3 m3 H3 s3 hr3 rs3 => ⟨m3, σ3, hs3, (st.trans s2).trans s3, hr3, rs3, PostS.step (s2.trans s3) p⟩
                | bk σ3 => exact fun τ3 m3 H3 s3 hr3 rs3 => p τ3 m3 H3 (s2.trans s3) hr3 rs3
                | rt d => exact fun v m3 H3 s3 hr3 rd3 => p v m3 H3 (s2.trans s3) hr3 rd3
      · exact p.elim
end
section
variable {X : Cx} {E : XK} {tg iter c : Expr} {body : List Stmt} {t : Tg} {s : CI} {k : CE} {b : CS} {pos : Pos}
theorem x_while (hp : PassesOwn (model X.prog X.w) X.A X.env X.xe) (hc : ST X E c k) (hb : SSs X E body b) : SS X E (.While c body [] pos) (cWhile k b) := PS.imp (ps_while hp hc hb) fun _ _ _ => imp_while
theorem x_for (hp : PassesOwn (model X.prog X.w) X.A X.env X.xe) (hc : X.calm = true) (hi : SI X E tg iter s) (hg : SG X tg t) (hb : SSs X E body b) (hs : ∀ x, foldedSetIterable iter X.env x = pure x := by intro _; rfl) : SS X E (.For tg iter body [] pos) (cFor t s b) := PS.imp (ps_for hp hc hi hg hb hs) fun _ _ _ => imp_for
end
end PL

set_option Elab.async false
set_option linter.all false
set_option maxRecDepth 100000
set_option maxHeartbeats 4000000
set_option autoImplicit false
namespace PL
open PySem PySem.Spec PyProof.Rows L2
/-! ## list and dict comprehensions -/
def wipeS (σ : Sl) : List Nat → Sl
  | [] => σ
  | v :: vs => (wipeS σ vs).set v none
abbrev CP := Sl → Ob → List Ob → R Ob
/-- one turn -/
def turnC (t : Tg) (c : CE) (p : CP) (σ : Sl) (x : D) (acc : Ob) (hs : List Ob) : R Ob := match bindT t x σ with
  | none => .stuck
  | some σ => match c σ hs with
    | .ok (.bl true) hs => match p σ acc hs with
      | .ok acc hs => .ok acc hs
      | _ => .stuck
    | .ok (.bl false) hs => .ok acc hs
    | _ => .stuck
def compL (t : Tg) (c : CE) (p : CP) (σ : Sl) : List D → Ob → List Ob → R Ob
  | [], acc, hs => .ok acc hs
  | x :: xs, acc, hs => match turnC t c p σ x acc hs with
    | .ok acc hs => compL t c p σ xs acc hs
    | _ => .stuck
def compR (t : Tg) (c : CE) (p : CP) (σ : Sl) (r : List Ob → Option (List D)) : Nat → Nat → Ob → List Ob → R Ob
  | n, i, acc, hs => match r hs with
    | some xs => match xs[i]? with
      | none => .ok acc hs
      | some x => match n with
        | 0 => .stuck
        | n + 1 => match turnC t c p σ x acc hs with
          | .ok acc hs => compR t c p σ r n (i + 1) acc hs
          | _ => .stuck
    | _ => .stuck
def cYes : CE := fun _ hs => .ok (.bl true) hs
def pLst (e : CE) : CP := fun σ acc hs => match acc with
  | .lst ds => match e σ hs with
    | .ok d hs => if ds.length < sizeLine then .ok (.lst (ds ++ [d])) hs else .stuck
    | _ => .stuck
  | _ => .stuck
def pDct (k v : CE) : CP := fun σ acc hs => match acc with
  | .dct ds => match k σ hs with
    | .ok kd hs => match keyD kd with
      | some key => match v σ hs with
        | .ok d hs => if ds.length < sizeLine then .ok (.dct (putD ds key d)) hs else .stuck
        | _ => .stuck
      | none => .stuck
    | _ => .stuck
  | _ => .stuck
def endC (b : Bool) (o : Ob) (hs : List Ob) : R D := match o with
  | .lst ds => newL b ds hs
  | .dct ds => newD b ds hs
  | _ => .stuck
def cComp (b : Bool) (vs : List Nat) (t : Tg) (s : CI) (c : CE) (o : Ob) (p : CP) : CE := fun σ hs => (s σ hs).bind fun s hs => match s with
  | .seq xs => match compL t c p (wipeS σ vs) xs o hs with
    | .ok o hs => endC b o hs
    | _ => .stuck
  | .live r => match compR t c p (wipeS σ vs) r (liveLen r hs) 0 o hs with
    | .ok o hs => endC b o hs
    | _ => .stuck
def tCm (wi : TI) (g : TG) (tt : TT) (o0 : HO) (tp : Lt → Hp → Addr → (Hp → Prop) → Prop) (vs : List Nat) : TE := fun σ H Q => wi σ H fun J H1 => ∀ A, H1 A = none → ∃ W : Nat → Nat → Hp → Prop, (∃ m, W 0 m (upd H1 A o0)) ∧ ∀ i m H, W i m H →
  (J.stop i H ∧ Q (.ref A) H) ∨ (J.go i H ∧ ∃ Nx : Hp → Prop, (∀ H', Nx H' → ∃ m', m' < m ∧ W (i + 1) m' H') ∧ ∀ x H', J.yld i H x H' → g x (wipe σ vs) H' fun σ2 H2 => wipe σ2 vs = wipe σ vs ∧ tt σ2 H2 fun b H3 =>
    if b = true then tp σ2 H3 A Nx else Nx H3)
section
variable {K : Kc} {E : XK} {H H' H1 : Hp} {m m' m1 : Mp} {hs hs' : List Ob} {τ : Lt} {A : Addr} {acc acc' : Ob} {σ : Sl}
theorem wipeS_get (σ : Sl) : ∀ (vs : List Nat) (j : Nat), (wipeS σ vs)[j]? = if j ∈ vs then (σ[j]?).map (fun _ => none) else σ[j]?
  | [], j => by simp [wipeS]
  | v :: vs, j => by
    have wl : ∀ vs : List Nat, (wipeS σ vs).length = σ.length := fun vs => by
      induction vs with
      | nil => rfl
      | cons a vs ih => unfold wipeS; rw [List.length_set, ih]
    unfold wipeS
    rw [List.getElem?_set]
    by_cases e : v = j
    · subst e
      rw [if_pos rfl, if_pos List.mem_cons_self, wl]
      by_cases hl : v < σ.length
      · rw [if_pos hl, List.getElem?_eq_getElem hl]
        rfl
      · rw [if_neg hl, List.getElem?_eq_none (by omega)]
        rfl
    · rw [if_neg e, wipeS_get σ vs j]
      by_cases hm : j ∈ vs
      · rw [if_pos hm, if_pos (List.mem_cons_of_mem _ hm)]
      · rw [if_neg hm, if_neg (by simp [hm, Ne.symm e])]
theorem wipe_wipe {σ : Lt} {vs : List Nat} : wipe (wipe σ vs) vs = wipe σ vs := by
  refine List.ext_getElem? fun j => ?_
  rw [wipe_get, wipe_get]
  by_cases e : j ∈ vs
  · rw [if_pos e, if_pos e, Option.map_map]
    rfl
  · rw [if_neg e, if_neg e]
theorem RSl.wipe (vs : List Nat) (h : RSl K H m σ τ) : RSl K H m (wipeS σ vs) (wipe τ vs) := by
  refine ⟨?_, fun i d e => ?_⟩
  · rw [wipe_length, ← h.1]
    induction vs with
    | nil => rfl
    | cons a vs ih => unfold wipeS; rw [List.length_set, ih]
  · rw [wipeS_get] at e
    rw [wipe_get]
    by_cases hi : i ∈ vs
    · rw [if_pos hi] at e
      obtain ⟨_, _, z⟩ := Option.map_eq_some_iff.mp e
      cases z
    · rw [if_neg hi] at e ⊢
      exact h.2 i d e
/-- a state within a comprehension: A the new thing -/
structure CSt (K : Kc) (m1 : Mp) (H1 : Hp) (A : Addr) (acc : Ob) (hs : List Ob) (m : Mp) (H : Hp) : Prop where
  st : Stw m1 H1 m H
  hx : m.x = A :: m1.x
  hr : HR K H m hs
  ro : RO K H m acc A
theorem CSt.nin (c : CSt K m1 H1 A acc hs m H) : A ∉ m.l := (c.hr.hid A (by rw [c.hx]; exact List.mem_cons_self)).2
theorem CSt.step (c : CSt K m1 H1 A acc hs m H) (s : Stp m H m' H') (hr : HR K H' m' hs') : CSt K m1 H1 A acc hs' m' H' :=
  ⟨c.st.trans s, s.hx.trans c.hx, hr, c.ro.mono s (by
    cases e : H A with
    | some o => exact s.kp A o c.nin e (c.ro.nt o e)
    | none => exact absurd e (c.hr.hidN A (by rw [c.hx]; exact List.mem_cons_self)).1)⟩
/-- A is put anew -/
theorem CSt.put (c : CSt K m1 H1 A acc hs m H) (hA : H1 A = none) {o : HO} (h : ∀ s : Stq m H m (upd H A o), RO K (upd H A o) m acc' A) : CSt K m1 H1 A acc' hs m (upd H A o) := by
  have q : Stq m H m (upd H A o) := ⟨fun _ _ h => h, fun a o' ha h _ => ⟨by
    rw [upd_ne fun z => ha.2 (by rw [z, c.hx]; exact List.mem_cons_self)]
    exact h, ha⟩⟩
  refine ⟨⟨c.st.ext, c.st.hx, fun a o' ha h nt => ?_, fun a ha => ?_, fun a ha => ?_⟩, c.hx, ⟨c.hr.len, c.hr.nd, fun i b a h1 h2 => ?_, fun a ha => ⟨?_, (c.hr.hid a ha).2⟩, tabs_mono c.hr.tab fun b u e t => by rw [upd_ne fun z => by rw [z] at e; exact c.ro.plain u e t]; exact e, fun p hp => (c.hr.fr p hp).monoQ q⟩, h q⟩
  · rw [upd_ne fun z => by rw [z, hA] at h; cases h]
    exact c.st.kp a o' ha h nt
  · rw [upd_ne (show a ≠ A from fun z => c.nin (z ▸ ha))]
    exact c.st.liv a ha
  · by_cases z : a = A
    · rw [z, upd_same]; exact fun z => by cases z
    · rw [upd_ne z]; exact c.st.st a ha
  · have r := c.hr.ob i b a h1 h2
    have ne : a ≠ A := fun z => c.nin (z ▸ List.mem_of_getElem? h2)
    exact r.monoQ q (upd_ne ne)
  · by_cases e : a = A
    · rw [e, upd_same]; exact ⟨o, rfl, (h q).plain o upd_same⟩
    · rw [upd_ne e]; exact (c.hr.hid a ha).1
/-- the beginning -/
theorem CSt.start (hr : HR K H1 m1 hs) (hA : H1 A = none) {o : HO} (h : RO K (upd H1 A o) ⟨m1.l, A :: m1.x⟩ acc A) : CSt K m1 H1 A acc hs ⟨m1.l, A :: m1.x⟩ (upd H1 A o) := by
  have nA := hr.notin hA
  have q : Stq m1 H1 ⟨m1.l, A :: m1.x⟩ (upd H1 A o) := ⟨fun _ _ h => h, fun a o' ha h _ => by
    have ne : a ≠ A := fun z => by rw [z, hA] at h; cases h
    refine ⟨by rw [upd_ne ne]; exact h, ha.1, fun z => ?_⟩
    rcases List.mem_cons.mp z with z | z
    · exact ne z
    · exact ha.2 z⟩
  refine ⟨⟨⟨[], by simp⟩, fun a ha => ?_, fun a o' ha h _ => ?_, fun a ha => ?_, fun a ha => ?_⟩, rfl, ⟨hr.len, hr.nd, fun i b a h1 h2 => ?_, fun a ha => ?_, tabs_all hr.tab fun b u e => by rw [upd_ne fun z => by rw [z, hA] at e; cases e]; exact e, fun p hp => (hr.fr p hp).monoQ q⟩, h⟩
  · rcases List.mem_cons.mp ha with z | z
    · rw [z]; exact .inr hA
    · exact .inl z
  · rw [upd_ne fun z => by rw [z, hA] at h; cases h]; exact h
  · rw [upd_ne (show a ≠ A from fun z => nA.1 (z ▸ ha))]; exact hr.live a ha
  · by_cases z : a = A
    · rw [z, upd_same]; exact fun z => by cases z
    · rw [upd_ne z]; exact ha
  · have r := hr.ob i b a h1 h2
    have ne : a ≠ A := fun z => nA.1 (z ▸ List.mem_of_getElem? h2)
    exact r.monoQ q (upd_ne ne)
  · rcases List.mem_cons.mp ha with z | z
    · rw [z, upd_same]; exact ⟨⟨o, rfl, h.plain o upd_same⟩, nA.1⟩
    · have ne : a ≠ A := fun e => (hr.hidN a z).1 (e ▸ hA)
      rw [upd_ne ne]; exact hr.hid a z
/-- the end -/
theorem CSt.fin {b : Bool} {Q : VK} (c : CSt K m1 H1 A acc hs m H) (hA : H1 A = none) (nA : A ∉ m1.x) (p : Post K E m1 H1 (endC b acc hs) Q) : Q (.ref A) H := by
  have q : Stq m H ⟨m.l, m1.x⟩ H := ⟨fun _ _ h => h, fun a o' ha h _ => ⟨h, ha.1, fun z => ha.2 (by rw [c.hx]; exact List.mem_cons_of_mem _ z)⟩⟩
  have q2 : Stq m H ⟨m.l ++ [A], m1.x⟩ H := ⟨fun i a h => by
    show (m.l ++ [A])[i]? = some a
    rw [List.getElem?_append_left (List.getElem?_eq_some_iff.mp h).1]; exact h, fun a o' ha h _ => ⟨h, fun z => by
      rcases List.mem_append.mp z with z | z
      · exact ha.1 z
      · exact ha.2 (by rw [c.hx, List.mem_singleton.mp z]; exact List.mem_cons_self), fun z => ha.2 (by rw [c.hx]; exact List.mem_cons_of_mem _ z)⟩⟩
  have hrx : ∀ a ∈ m1.x, (∃ o, H a = some o ∧ ¬ TbE o) ∧ a ∉ m.l := fun a ha => c.hr.hid a (by rw [c.hx]; exact List.mem_cons_of_mem _ ha)
  have ob : ∀ m', Stq m H m' H → ∀ (i : Nat) (b : Ob) (a : Addr), hs[i]? = some b → m.l[i]? = some a → RO K H m' b a := fun m' q i b a h1 h2 => by
    exact (c.hr.ob i b a h1 h2).monoQ q rfl
  have st1 : Stp m1 H1 ⟨m.l, m1.x⟩ H := ⟨c.st.ext, rfl, c.st.kp, c.st.liv, c.st.st⟩
  have hr1 : HR K H ⟨m.l, m1.x⟩ hs := ⟨c.hr.len, c.hr.nd, ob _ q, hrx, c.hr.tab, fun p hp => (c.hr.fr p hp).monoQ q⟩
  have st2 : Stp m1 H1 ⟨m.l ++ [A], m1.x⟩ H := by
    obtain ⟨t, e, n⟩ := c.st.ext
    refine ⟨⟨t ++ [A], by show m.l ++ [A] = _; rw [e, List.append_assoc], fun a ha => ?_⟩, rfl, c.st.kp, fun a ha => ?_, c.st.st⟩
    · rcases List.mem_append.mp ha with z | z
      · exact n a z
      · rw [List.mem_singleton.mp z]; exact hA
    · rcases List.mem_append.mp ha with z | z
      · exact c.st.liv a z
      · rw [List.mem_singleton.mp z]; exact (c.hr.hidN A (by rw [c.hx]; exact List.mem_cons_self)).1
  have hr2 : ∀ b, RO K H ⟨m.l ++ [A], m1.x⟩ b A → HR K H ⟨m.l ++ [A], m1.x⟩ (hs ++ [b]) := fun b rb => by
    refine ⟨by show (m.l ++ [A]).length = _; rw [List.length_append, List.length_append, c.hr.len]; rfl, ?_, fun j c' d h1 h2 => ?_, fun a ha => ⟨(hrx a ha).1, fun z => ?_⟩, c.hr.tab, fun p hp => (c.hr.fr p hp).monoQ q2⟩
    · refine List.nodup_append.mpr ⟨c.hr.nd, by simp, fun x hx y hy => ?_⟩
      rw [List.mem_singleton.mp hy]
      exact fun z => c.nin (z ▸ hx)
    · have h2' : (m.l ++ [A])[j]? = some d := h2
      by_cases hj : j < m.l.length
      · rw [List.getElem?_append_left (by rw [← c.hr.len]; exact hj)] at h1
        rw [List.getElem?_append_left hj] at h2'
        exact ob _ q2 j c' d h1 h2'
      · have e1 : j = m.l.length := by
          have := (List.getElem?_eq_some_iff.mp h2').1
          rw [List.length_append] at this
          simp at this
          omega
        subst e1
        rw [c.hr.len, List.getElem?_concat_length] at h1
        rw [List.getElem?_concat_length] at h2'
        cases h1
        cases h2'
        exact rb
    · rcases List.mem_append.mp z with z | z
      · exact (hrx a ha).2 z
      · exact nA (List.mem_singleton.mp z ▸ ha)
  have offA : Mp.off ⟨m.l, m1.x⟩ A := ⟨c.nin, nA⟩
  have rA : ∀ i, i = hs.length → RD K H ⟨m.l ++ [A], m1.x⟩ (.ref i) (.ref A) := fun i e => .ref (by
    show (m.l ++ [A])[i]? = some A
    rw [e, ← c.hr.len, List.getElem?_concat_length])
  cases acc with
  | lst ds =>
    obtain ⟨vs, e, r⟩ := c.ro
    cases b with
    | false => exact p _ _ _ st1 hr1 (.fl e offA (r.monoQ q))
    | true => exact p _ _ _ st2 (hr2 (.lst ds) ⟨vs, e, r.monoQ q2⟩) (rA _ rfl)
  | dct ds =>
    obtain ⟨vs, e, r⟩ := c.ro
    cases b with
    | false => exact p _ _ _ st1 hr1 (.fd e offA (r.monoQ q))
    | true => exact p _ _ _ st2 (hr2 (.dct ds) ⟨vs, e, r.monoQ q2⟩) (rA _ rfl)
  | ins c fs => exact p.elim
  | dcT c => exact p.elim
abbrev E0 (K : Kc) : XK := ⟨fun _ _ _ => False, K.c, K.t, K.r⟩
/-- the element's part -/
def StepOk (K : Kc) (tp : Lt → Hp → Addr → (Hp → Prop) → Prop) (p : CP) : Prop := ∀ (m1 m : Mp) (H1 H : Hp) (A : Addr) (acc acc' : Ob) (hs hs' : List Ob) (σ : Sl) (τ : Lt) (Nx : Hp → Prop),
  H1 A = none → CSt K m1 H1 A acc hs m H → RSl K H m σ τ → p σ acc hs = .ok acc' hs' → (∀ m' H', CSt K m1 H1 A acc' hs' m' H' → Stq m H m' H' → Nx H') → tp τ H A Nx
theorem Stq.trans {m2 : Mp} {H2 : Hp} (a : Stq m H m' H') (b : Stq m' H' m2 H2) : Stq m H m2 H2 := ⟨fun i x h => b.get i x (a.get i x h), fun x o hx h nt => b.kp x o (a.kp x o hx h nt).2 (a.kp x o hx h nt).1 nt⟩
theorem CSt.putQ {c : CSt K m1 H1 A acc hs m H} {o : HO} : Stq m H m (upd H A o) := ⟨fun _ _ h => h, fun a o' ha h _ => ⟨by
    rw [upd_ne fun z => ha.2 (by rw [z, c.hx]; exact List.mem_cons_self)]
    exact h, ha⟩⟩
theorem step_lst {e : CE} : StepOk K (fun σ H A Nx => tE K (E0 K) e σ H fun y H4 => ∃ acc, H4 A = some (.lst acc) ∧ acc.length < sizeLine ∧ Nx (upd H4 A (.lst (acc ++ [y])))) (pLst e) := fun m1 m H1 H A acc acc' hs hs' σ τ Nx hA c rs ep q => by
  unfold pLst at ep
  split at ep
  · rename_i ds
    refine ⟨m, σ, hs, c.hr, rs, ?_⟩
    cases e1 : e σ hs with
    | stuck => rw [e1] at ep; cases ep
    | exn x hs1 => rw [e1] at ep; cases ep
    | ok d hs1 =>
      rw [e1] at ep
      dsimp only at ep
      split at ep
      · rename_i hl
        cases ep
        intro v m2 H2 s2 hr2 rd
        have c2 := c.step s2 hr2
        obtain ⟨vs, ev, rv⟩ := c2.ro
        refine ⟨vs, ev, by rw [← rv.length]; exact hl, ?_⟩
        exact q m2 _ (c2.put hA fun s => ⟨vs ++ [v], upd_same, (rv.monoQ s).append (.cons (rd.monoQ s) .nil)⟩) (s2.q.trans (CSt.putQ (c := c2)))
      · cases ep
  · cases ep
theorem step_dct {k e : CE} : StepOk K (fun σ H A Nx => tE K (E0 K) k σ H fun y H4 => tE K (E0 K) e σ H4 fun z H5 => ∃ kvs k, y = kV k ∧ H5 A = some (.dK kvs) ∧ kvs.length < sizeLine ∧ Nx (upd H5 A (.dK (putK kvs k z)))) (pDct k e) := fun m1 m H1 H A acc acc' hs hs' σ τ Nx hA c rs ep q => by
  unfold pDct at ep
  split at ep
  · rename_i ds
    refine ⟨m, σ, hs, c.hr, rs, ?_⟩
    cases e1 : k σ hs with
    | stuck => rw [e1] at ep; cases ep
    | exn x hs1 => rw [e1] at ep; cases ep
    | ok d hs1 =>
      rw [e1] at ep
      dsimp only at ep
      split at ep
      · rename_i key hk
        intro v m2 H2 s2 hr2 rd
        have c2 := c.step s2 hr2
        refine ⟨m2, σ, hs1, hr2, rs.mono s2, ?_⟩
        cases e2 : e σ hs1 with
        | stuck => rw [e2] at ep; cases ep
        | exn x hs1 => rw [e2] at ep; cases ep
        | ok d2 hs2 =>
          rw [e2] at ep
          dsimp only at ep
          split at ep
          · rename_i hl
            cases ep
            intro w m3 H3 s3 hr3 rd3
            have c3 := c2.step s3 hr3
            obtain ⟨vs, ev, rv⟩ := c3.ro
            refine ⟨vs, key, key_rd rd hk, ev, by rw [← rv.length]; exact hl, ?_⟩
            exact q m3 _ (c3.put hA fun s => ⟨putK vs key w, upd_same, RDk.put key (rd3.monoQ s) (rv.monoQ s)⟩) ((s2.q.trans s3.q).trans (CSt.putQ (c := c3)))
          · cases ep
      · cases ep
  · cases ep
/-- one turn -/
theorem turn_use {t : Tg} {c : CE} {p : CP} {tp : Lt → Hp → Addr → (Hp → Prop) → Prop} (ok : StepOk K tp p) {vs : List Nat} (hv : ∀ i ∈ t.idx, i ∈ vs) {d : D} {v : V} {Nx : Hp → Prop} (hA : H1 A = none) (cs : CSt K m1 H1 A acc hs m H) (rs : RSl K H m σ (wipe τ vs)) (rd : RD K H m d v)
    (e : turnC t c p σ d acc hs = .ok acc' hs') (q : ∀ m' H', CSt K m1 H1 A acc' hs' m' H' → Stq m H m' H' → Nx H') :
    gV K t v (wipe τ vs) H fun σ2 H2 => wipe σ2 vs = wipe τ vs ∧ tTest (tE K (E0 K) c) σ2 H2 fun b H3 => if b = true then tp σ2 H3 A Nx else Nx H3 := by
  unfold turnC at e
  cases e1 : bindT t d σ with
  | none => rw [e1] at e; cases e
  | some σ1 =>
    rw [e1] at e
    dsimp only at e
    refine gV_use t rs rd e1 fun τ2 rs2 w2 => ⟨(w2 vs hv).trans wipe_wipe, m, σ1, hs, cs.hr, rs2, ?_⟩
    cases e2 : c σ1 hs with
    | stuck => rw [e2] at e; cases e
    | exn x hs2 => rw [e2] at e; cases e
    | ok b hs2 =>
      rw [e2] at e
      intro w m3 H3 s3 hr3 rd3
      have c3 := cs.step s3 hr3
      cases b with
      | bl b =>
        cases rd3
        refine ⟨b, rfl, ?_⟩
        cases b with
        | true =>
          rw [if_pos rfl]
          dsimp only at e
          cases e3 : p σ1 acc hs2 with
          | stuck => rw [e3] at e; cases e
          | exn x hs3 => rw [e3] at e; cases e
          | ok acc3 hs3 =>
            rw [e3] at e
            cases e
            exact ok m1 m3 H1 H3 A acc acc' hs2 hs' σ1 τ2 Nx hA c3 (rs2.mono s3) e3 fun m' H' c' q' => q m' H' c' (s3.q.trans q')
        | false =>
          cases e
          exact iteF (q m3 H3 c3 s3.q)
      | _ => cases e
theorem imp_comp {b : Bool} {t : Tg} {s : CI} {c : CE} {o : Ob} {o0 : HO} {p : CP} {tp : Lt → Hp → Addr → (Hp → Prop) → Prop} (ok : StepOk K tp p) {vs : List Nat} (hv : ∀ i ∈ t.idx, i ∈ vs) (ho : ∀ H m A, RO K (upd H A o0) m o A) {Q : VK}
    (h : tE K E (cComp b vs t s c o p) τ H Q) : tCm (tI K E s) (gV K t) (tTest (tE K (E0 K) c)) o0 tp vs τ H Q := by
  obtain ⟨m, σ, hs, hr, rs, pp⟩ := h
  refine ⟨m, σ, hs, hr, rs, ?_⟩
  unfold cComp at pp
  cases e : s σ hs with
  | stuck => rw [e] at pp; exact pp.elim
  | exn x hs1 => rw [e] at pp; exact pp
  | ok src hs1 =>
    rw [e, bind_ok] at pp
    cases src with
    | seq xs =>
      intro J m1 H1 s1 hr1 dl A hA
      dsimp only at pp
      cases ec : compL t c p (wipeS σ vs) xs o hs1 with
      | stuck => rw [ec] at pp; exact pp.elim
      | exn x hs2 => rw [ec] at pp; exact pp.elim
      | ok oe hse =>
        rw [ec] at pp
        have c0 : CSt K m1 H1 A o hs1 _ (upd H1 A o0) := CSt.start hr1 hA (ho _ _ _)
        refine ⟨fun i n H => n = xs.length - i ∧ ∃ m hs acc, CSt K m1 H1 A acc hs m H ∧ RSl K H m (wipeS σ vs) (wipe τ vs) ∧ compL t c p (wipeS σ vs) (xs.drop i) acc hs = .ok oe hse, ⟨xs.length, rfl, _, hs1, o, c0, (rs.mono s1).wipe vs |>.monoQ ?_, ec⟩, ?_⟩
        · exact ⟨fun _ _ h => h, fun a o' ha h _ => ⟨by rw [upd_ne fun z => by rw [z, hA] at h; cases h]; exact h, ha.1, fun z => by
            rcases List.mem_cons.mp z with z | z
            · rw [z, hA] at h; cases h
            · exact ha.2 z⟩⟩
        rintro i n H ⟨rfl, m, hs, acc, cs, rs', ec'⟩
        obtain ⟨d1, d2⟩ := dl i m H hs cs.st cs.hr
        by_cases hi : i < xs.length
        · obtain ⟨d3, d4⟩ := d2 xs[i] (List.getElem?_eq_getElem hi)
          refine .inr ⟨d3, fun H => ∃ m hs acc, CSt K m1 H1 A acc hs m H ∧ RSl K H m (wipeS σ vs) (wipe τ vs) ∧ compL t c p (wipeS σ vs) (xs.drop (i + 1)) acc hs = .ok oe hse, fun H' q => ⟨xs.length - (i + 1), by omega, rfl, q⟩, fun x H2 y => ?_⟩
          obtain ⟨s2, hr2, rd⟩ := d4 x H2 y
          rw [List.drop_eq_getElem_cons hi] at ec'
          unfold compL at ec'
          cases et : turnC t c p (wipeS σ vs) xs[i] acc hs with
          | stuck => rw [et] at ec'; cases ec'
          | exn x hs2 => rw [et] at ec'; cases ec'
          | ok acc2 hs2 =>
            rw [et] at ec'
            exact turn_use ok hv hA (cs.step s2 hr2) (rs'.mono s2) rd et fun m' H' c' q' => ⟨m', hs2, acc2, c', (rs'.mono s2).monoQ q', ec'⟩
        · rw [List.drop_eq_nil_of_le (by omega)] at ec'
          cases ec'
          refine .inl ⟨d1 (by omega), cs.fin hA (hr1.notin hA).2 (Post.step s1 pp)⟩
    | live r =>
      intro J m1 H1 s1 hr1 dl A hA
      dsimp only at pp
      cases ec : compR t c p (wipeS σ vs) r (liveLen r hs1) 0 o hs1 with
      | stuck => rw [ec] at pp; exact pp.elim
      | exn x hs2 => rw [ec] at pp; exact pp.elim
      | ok oe hse =>
        rw [ec] at pp
        have c0 : CSt K m1 H1 A o hs1 _ (upd H1 A o0) := CSt.start hr1 hA (ho _ _ _)
        refine ⟨fun i n H => ∃ m hs acc, CSt K m1 H1 A acc hs m H ∧ RSl K H m (wipeS σ vs) (wipe τ vs) ∧ compR t c p (wipeS σ vs) r n i acc hs = .ok oe hse, ⟨_, _, hs1, o, c0, (rs.mono s1).wipe vs |>.monoQ ?_, ec⟩, ?_⟩
        · exact ⟨fun _ _ h => h, fun a o' ha h _ => ⟨by rw [upd_ne fun z => by rw [z, hA] at h; cases h]; exact h, ha.1, fun z => by
            rcases List.mem_cons.mp z with z | z
            · rw [z, hA] at h; cases h
            · exact ha.2 z⟩⟩
        rintro i n H ⟨m, hs, acc, cs, rs', ec'⟩
        unfold compR at ec'
        split at ec'
        · rename_i xs ex
          obtain ⟨d1, d2⟩ := dl i m H hs xs cs.st cs.hr ex
          split at ec'
          · rename_i en
            cases ec'
            exact .inl ⟨d1 (by rw [List.getElem?_eq_none_iff] at en; exact en), cs.fin hA (hr1.notin hA).2 (Post.step s1 pp)⟩
          · rename_i x0 en
            obtain ⟨d3, d4⟩ := d2 x0 en
            cases n with
            | zero => cases ec'
            | succ n =>
              refine .inr ⟨d3, fun H => ∃ m hs acc, CSt K m1 H1 A acc hs m H ∧ RSl K H m (wipeS σ vs) (wipe τ vs) ∧ compR t c p (wipeS σ vs) r n (i + 1) acc hs = .ok oe hse, fun H' q => ⟨n, by omega, q⟩, fun x H2 y => ?_⟩
              obtain ⟨s2, hr2, rd⟩ := d4 x H2 y
              dsimp only at ec'
              cases et : turnC t c p (wipeS σ vs) x0 acc hs with
              | stuck => rw [et] at ec'; cases ec'
              | exn x hs2 => rw [et] at ec'; cases ec'
              | ok acc2 hs2 =>
                rw [et] at ec'
                exact turn_use ok hv hA (cs.step s2 hr2) (rs'.mono s2) rd et fun m' H' c' q' => ⟨m', hs2, acc2, c', (rs'.mono s2).monoQ q', ec'⟩
        · cases ec'
end
/-! ## the rules -/
structure SC (X : Cx) (E : XK) (ifs : List Expr) (c : CE) : Prop where
  pts : PTs X ifs (tTest (tE (kc X E) (E0 (kc X E)) c))
theorem PTs.imp {X : Cx} {e : List Expr} {t t' : TT} (h : PTs X e t) (i : ∀ σ H Q, t' σ H Q → t σ H Q) : PTs X e t' := ⟨fun pins s σ H Q I q => h.run pins s σ H Q I (i σ H Q q)⟩
theorem sc_nil {X : Cx} {E : XK} : SC X E [] cYes := ⟨PTs.imp pts_nil fun τ H Q ⟨m, σ, hs, hr, rs, p⟩ => by
  obtain ⟨k, e, q⟩ := p (.bl true) m H hr.stp hr (.bl true)
  cases e
  exact q⟩
theorem sc_one {X : Cx} {E : XK} {e : Expr} {c : CE} (h : ST X (E0 (kc X E)) e c) : SC X E [e] c := ⟨pts_one h⟩
section
variable {X : Cx} {E : XK} {elt kx tg iter : Expr} {ifs : List Expr} {scope : Scope} {own : List (Str × Nat)} {pos : Pos} {t : Tg} {s : CI} {c e ke : CE}
theorem s_lc (b : Bool) (hc : X.calm = true) (hN : X.N.Nodup) (hi : SI X E tg iter s) (ok : BlkOk X.N X.env.scope scope own)
    (hg : ∀ (s : Shared) (H : Hp) (C : Addr) (cl : List (Str × Addr)) (fp : List Addr), SG (X.blk s H scope (compEnvC scope cl C X.env) fp) tg t)
    (ht : ∀ (s : Shared) (H : Hp) (C : Addr) (cl : List (Str × Addr)) (fp : List Addr), SC (X.blk s H scope (compEnvC scope cl C X.env) fp) E ifs c)
    (he : ∀ (s : Shared) (H : Hp) (C : Addr) (cl : List (Str × Addr)) (fp : List Addr), SE (X.blk s H scope (compEnvC scope cl C X.env) fp) (E0 (kc X E)) elt e)
    (hv : ∀ i ∈ t.idx, i ∈ own.map (·.2) := by decide) (hs : ∀ x, foldedSetIterable iter X.env x = pure x := by intro _; rfl) :
    SE X E (.ListComp elt [⟨tg, iter, ifs, 0⟩] scope pos) (cComp b (own.map (·.2)) t s c (.lst []) (pLst e)) :=
  PE.imp (pe_lc hc hN hi ok hg (fun s H C cl fp => (ht s H C cl fp).pts) he hs) fun τ H Q h => imp_comp (o := .lst []) (o0 := .lst []) step_lst hv (fun H m A => ⟨[], upd_same, .nil⟩) h
theorem s_dc (b : Bool) (hc : X.calm = true) (hN : X.N.Nodup) (hi : SI X E tg iter s) (ok : BlkOk X.N X.env.scope scope own)
    (hg : ∀ (s : Shared) (H : Hp) (C : Addr) (cl : List (Str × Addr)) (fp : List Addr), SG (X.blk s H scope (compEnvC scope cl C X.env) fp) tg t)
    (ht : ∀ (s : Shared) (H : Hp) (C : Addr) (cl : List (Str × Addr)) (fp : List Addr), SC (X.blk s H scope (compEnvC scope cl C X.env) fp) E ifs c)
    (hk : ∀ (s : Shared) (H : Hp) (C : Addr) (cl : List (Str × Addr)) (fp : List Addr), SE (X.blk s H scope (compEnvC scope cl C X.env) fp) (E0 (kc X E)) kx ke)
    (he : ∀ (s : Shared) (H : Hp) (C : Addr) (cl : List (Str × Addr)) (fp : List Addr), SE (X.blk s H scope (compEnvC scope cl C X.env) fp) (E0 (kc X E)) elt e)
    (hv : ∀ i ∈ t.idx, i ∈ own.map (·.2) := by decide) (hs : ∀ x, foldedSetIterable iter X.env x = pure x := by intro _; rfl) :
    SE X E (.DictComp kx elt [⟨tg, iter, ifs, 0⟩] scope pos) (cComp b (own.map (·.2)) t s c (.dct []) (pDct ke e)) :=
  PE.imp (pe_dc hc hN hi ok hg (fun s H C cl fp => (ht s H C cl fp).pts) hk he hs) fun τ H Q h => imp_comp (o := .dct []) (o0 := .dK []) step_dct hv (fun H m A => ⟨[], upd_same, .nil⟩) h
variable {i : Nat} {y : Str} {py spos : Pos}
/-- name = [..] -/
theorem x_setLc (b : Bool) (hc : X.calm = true) (hN : X.N.Nodup) (hi : SI X E tg iter s) (ok : BlkOk X.N X.env.scope scope own)
    (hg : ∀ (s : Shared) (H : Hp) (C : Addr) (cl : List (Str × Addr)) (fp : List Addr), SG (X.blk s H scope (compEnvC scope cl C X.env) fp) tg t)
    (ht : ∀ (s : Shared) (H : Hp) (C : Addr) (cl : List (Str × Addr)) (fp : List Addr), SC (X.blk s H scope (compEnvC scope cl C X.env) fp) E ifs c)
    (he : ∀ (s : Shared) (H : Hp) (C : Addr) (cl : List (Str × Addr)) (fp : List Addr), SE (X.blk s H scope (compEnvC scope cl C X.env) fp) (E0 (kc X E)) elt e)
    (hv : ∀ i ∈ t.idx, i ∈ own.map (·.2) := by decide)
    (hy : X.N[i]? = some y := by rfl) (hyl : X.env.scope.names.lookup y = some .local := by rfl)
    (hsw : swapsWith (.ListComp elt [⟨tg, iter, ifs, 0⟩] scope pos) (some (.Name y py)) spos.line X.env = pure true := by rfl)
    (hs : ∀ x, foldedSetIterable iter X.env x = pure x := by intro _; rfl) :
    SS X E (.Assign [.Name y py] (.ListComp elt [⟨tg, iter, ifs, 0⟩] scope pos) spos) (cSet (.nm i) (cComp b (own.map (·.2)) t s c (.lst []) (pLst e))) :=
  PS.imp (ps_setLc (g := gV X.K t) (tt := tTest (tE (kc X E) (E0 (kc X E)) c)) (te := tE (kc X E) (E0 (kc X E)) e) hc hN hy hyl hsw hi ok hg (fun s H C cl fp => (ht s H C cl fp).pts) he hs) fun D τ H h => by
    have h1 := tS_bind (τ := τ) (f := cComp b (own.map (·.2)) t s c (.lst []) (pLst e)) (g := fun d σ hs => match bindT (.nm i) d σ with
      | some σ' => .ok (.nx σ') hs
      | none => .stuck) h
    have h2 := imp_comp (o := .lst []) (o0 := .lst []) (Q := fun v H1 => gName i v τ H1 D.nx) step_lst hv (fun H m A => ⟨[], upd_same, .nil⟩) (tE_mono h1 fun v H1 ⟨m, σ, hs, d, hr, rs, rd, p⟩ => PostS.next (σ := σ.set i (some d)) hr (rs.set i rd) p)
    exact h2
end
end PL

set_option Elab.async false
set_option linter.all false
set_option maxRecDepth 100000
set_option maxHeartbeats 4000000
set_option autoImplicit false
namespace PL
open PySem PySem.Spec PyProof.Rows L2
/-! ## things that change -/
section
variable {K : Kc} {E : XK} {H H' : Hp} {m m' : Mp} {hs : List Ob} {τ : Lt} {Q : VK} {a : Addr}
theorem HR.putS (hr : HR K H m hs) {i : Nat} (hi : m.l[i]? = some a) (o : HO) : Stp m H m (upd H a o) := by
  have ha : a ∈ m.l := List.mem_of_getElem? hi
  refine ⟨⟨[], by simp⟩, rfl, fun b o' hb e _ => ?_, fun b hb => ?_, fun b hb => ?_⟩
  · rw [upd_ne (show b ≠ a from fun z => hb (z ▸ ha))]; exact e
  · by_cases e : b = a
    · rw [e, upd_same]; exact fun z => by cases z
    · rw [upd_ne e]; exact hr.live b hb
  · by_cases e : b = a
    · rw [e, upd_same]; exact fun z => by cases z
    · rw [upd_ne e]; exact hb
theorem HR.putL (hr : HR K H m hs) {i : Nat} (hi : m.l[i]? = some a) {xs : List D} {vs : List V} (r : RDs K H m xs vs) : HR K (upd H a (.lst vs)) m (hs.set i (.lst xs)) :=
  (hr.put hi (o := .lst vs) (b := .lst xs) ⟨vs, upd_same, r.mono (hr.putS hi _)⟩).2
theorem HR.putD (hr : HR K H m hs) {i : Nat} (hi : m.l[i]? = some a) {xs : List (Key × D)} {vs : List (Key × V)} (r : RDk K H m xs vs) : HR K (upd H a (.dK vs)) m (hs.set i (.dct xs)) :=
  (hr.put hi (o := .dK vs) (b := .dct xs) ⟨vs, upd_same, r.mono (hr.putS hi _)⟩).2
theorem ev_bind {f : CE} {σ : Sl} (hr : HR K H m hs) (rs : RSl K H m σ τ) (ex : ∀ x hs', f σ hs = .exn x hs' → ∀ c od m' H', Stp m H m' H' → HR K H' m' hs' → RX K H' m' x c od → E c od H') (st : f σ hs ≠ .stuck)
    (ok : ∀ d hs1, f σ hs = .ok d hs1 → ∀ v m1 H1, Stp m H m1 H1 → HR K H1 m1 hs1 → RD K H1 m1 d v → Q v H1) : tE K E f τ H Q := ⟨m, σ, hs, hr, rs, by
  cases e : f σ hs with
  | ok d hs1 => exact ok d hs1 e
  | exn x hs1 => exact ex x hs1 e
  | stuck => exact st e⟩
theorem c2_split (c : D → D → List Ob → Bool) {f g : CE} {k : D → D → List Ob → R D} (h : tE K E (c2 k f g) τ H Q) :
    tE K E (c2 (fun x y hs => if c x y hs = true then k x y hs else .stuck) f g) τ H Q ∨ tE K E (c2 (fun x y hs => if c x y hs = true then .stuck else k x y hs) f g) τ H Q := by
  obtain ⟨m, σ, hs, hr, rs, p⟩ := h
  unfold c2 at p
  cases e1 : f σ hs with
  | stuck => rw [e1] at p; exact p.elim
  | exn x hs1 => rw [e1] at p; exact .inl ⟨m, σ, hs, hr, rs, by unfold c2; rw [e1]; exact p⟩
  | ok x hs1 =>
    rw [e1, bind_ok] at p
    cases e2 : g σ hs1 with
    | stuck => rw [e2] at p; exact p.elim
    | exn y hs2 => rw [e2] at p; exact .inl ⟨m, σ, hs, hr, rs, by unfold c2; rw [e1, bind_ok, e2]; exact p⟩
    | ok y hs2 =>
      rw [e2, bind_ok] at p
      cases e3 : c x y hs2 with
      | true => exact .inl ⟨m, σ, hs, hr, rs, by unfold c2; rw [e1, bind_ok, e2, bind_ok]; dsimp only; rw [if_pos e3]; exact p⟩
      | false => exact .inr ⟨m, σ, hs, hr, rs, by unfold c2; rw [e1, bind_ok, e2, bind_ok]; dsimp only; rw [if_neg (by rw [e3]; decide)]; exact p⟩
theorem imp2_or (c : D → D → List Ob → Bool) {r1 r2 : R2} {f g : CE} {k : D → D → List Ob → R D} (o1 : Op2 K r1 (fun x y hs => if c x y hs = true then k x y hs else .stuck)) (o2 : Op2 K r2 (fun x y hs => if c x y hs = true then .stuck else k x y hs))
    (h : tE K E (c2 k f g) τ H Q) : tOp r1 (tE K E f) (tE K E g) τ H Q ∨ tOp r2 (tE K E f) (tE K E g) τ H Q := (c2_split c h).imp (imp2 o1 τ H Q) (imp2 o2 τ H Q)
end
/-! ### o[i] = v -/
def kSetIx (o i v : D) (hs : List Ob) : Option (List Ob) := match o with
  | .ref r => match hs[r]? with
    | some (.lst xs) => match i with
      | .int k => match ixN xs.length k with
        | some j => some (hs.set r (.lst (xs.set j v)))
        | none => none
      | _ => none
    | some (.dct kvs) => match keyD i with
      | some key => if kvs.length < sizeLine then some (hs.set r (.dct (putD kvs key v))) else none
      | none => none
    | _ => none
  | _ => none
def cSetIx (o i v : CE) : CS := fun σ hs => (v σ hs).bind fun vd hs => (o σ hs).bind fun od hs => (i σ hs).bind fun id hs => match kSetIx od id vd hs with
  | some hs => .ok (.nx σ) hs
  | none => .stuck
def rSetD : TSet := fun o i v H Q => ∃ a H', o = .ref a ∧ DPut H a i v H' ∧ Q H'
def rSet : TSet := fun o i v H Q => rSetL o i v H Q ∨ rSetD o i v H Q
theorem set_any {X : Cx} (hu : X.A.units + 1 < cLine) : PSet X rSet := by
  intro pins s σ H o i v ov iv u Q I ro ri rv h
  rcases h with h | ⟨a, H', rfl, d, q⟩
  · exact set_list pins s σ H o i v ov iv u Q I ro ri rv h
  · obtain rfl : ov = Value.ref a := ro
    exact d_setItem hu I d ri rv fun s' I' => ⟨H', I', q⟩
def rGetL (K : PySem.W.Frag) : V → V → Hp → VK → Prop := fun x y H Q => ∃ p xs i v, x = .ref p ∧ y = .int i ∧ SqL K H p xs ∧ atI xs i = some v ∧ Q v H
def rGetD : V → V → Hp → VK → Prop := fun x y H Q => ∃ a v, x = .ref a ∧ DGet H a y (some v) ∧ Q v H
theorem get_any {X : Cx} (hu : X.A.units + 1 < cLine) : PGet X (fun x y H Q => rGetL X.K x y H Q ∨ rGetD x y H Q) := by
  intro pins s σ H o i ov iv Q I ro ri h
  rcases h with ⟨p, xs, i, z, rfl, rfl, hq, he, q⟩ | ⟨a, v, rfl, g, q⟩
  · obtain rfl : ov = Value.ref p := ro
    obtain ⟨t, rfl⟩ := ri
    obtain ⟨its, r, pl, hz⟩ := I.list hq
    obtain ⟨j, h1, h2, h3, h4, h5⟩ := atI_get he
    obtain ⟨w, ew, rw'⟩ := r.get h2
    have hl := r.length
    have hn := line63
    by_cases h0 : 0 ≤ i
    · have hj : i.toNat = j := by
        rw [seqIndex_of h0 h5] at h1
        exact Option.some.inj h1
      exact wpAny_getItem_list pl.isList h0 (by omega) (by rw [hj]; simpa using ew) ⟨z, H, I, rw', q⟩
    · have hj : (i + (its.toArray.size : Int)).toNat = j := by
        rw [seqIndex_neg (by omega) h4] at h1
        rw [List.size_toArray, ← hl]
        exact Option.some.inj h1
      exact wpAny_getItem_list_neg pl.isList (by omega) (by rw [List.size_toArray] <;> omega) (by omega) (by rw [hj]; simpa using ew) ⟨z, H, I, rw', q⟩
  · obtain rfl : ov = Value.ref a := ro
    exact d_getItem hu I g ri fun w' s' I' r => ⟨v, H, I', r, q⟩
section
variable {K : Kc} {E : XK} {H H' : Hp} {m m' : Mp} {hs hs' : List Ob} {τ : Lt} {Q : Hp → Prop}
theorem set_use {o i v : D} {x y z : V} (hr : HR K H m hs) (r1 : RD K H m o x) (r2 : RD K H m i y) (r3 : RD K H m v z) (e : kSetIx o i v hs = some hs') (q : ∀ H', Stp m H m H' → HR K H' m hs' → Q H') : rSet x y z H Q := by
  unfold kSetIx at e
  split at e
  · rename_i r
    cases r1 with
    | ref hi =>
      rename_i a
      split at e
      · rename_i xs ex
        obtain ⟨vs, hv, rv⟩ := hr.ob _ _ _ ex hi
        split at e
        · rename_i k
          split at e
          · rename_i j ej
            cases e
            cases r2
            have s := hr.putS hi (.lst (vs.set j z))
            exact .inl ⟨a, vs, k, j, rfl, rfl, hv, by rw [← rv.length]; exact ej, q _ s (hr.putL hi (RDs.set r3 j rv))⟩
          · cases e
        · cases e
      · rename_i kvs ex
        obtain ⟨vs, hv, rv⟩ := hr.ob _ _ _ ex hi
        split at e
        · rename_i key ek
          split at e
          · rename_i hl
            cases e
            have ey := key_rd r2 ek
            have s := hr.putS hi (.dK (putK vs key z))
            exact .inr ⟨a, _, rfl, .inl ⟨vs, key, hv, ey, by rw [← rv.length]; exact hl, rfl⟩, q _ s (hr.putD hi (RDk.put key r3 rv))⟩
          · cases e
        · cases e
      · cases e
  · cases e
theorem imp_setIx {o i v : CE} {D : Ends} (h : tS K E (cSetIx o i v) D τ H) : tAsg (tE K E v) (gSub (tE K E o) (tE K E i) rSet) D τ H := by
  obtain ⟨m, σ, hs, hr, rs, p⟩ := h
  unfold cSetIx at p
  refine ev_bind hr rs (fun x hs' e => by rw [e] at p; exact p) (fun e => by rw [e] at p; exact p.elim) fun d hs1 e v m1 H1 s1 hr1 r1 => ?_
  rw [e, bind_ok] at p
  refine ev_bind hr1 (rs.mono s1) (fun x hs' e => by rw [e] at p; exact fun c od m' H' s => p c od m' H' (s1.trans s)) (fun e => by rw [e] at p; exact p.elim) fun d2 hs2 e v2 m2 H2 s2 hr2 r2 => ?_
  rw [e, bind_ok] at p
  refine ev_bind hr2 ((rs.mono s1).mono s2) (fun x hs' e => by rw [e] at p; exact fun c od m' H' s => p c od m' H' ((s1.trans s2).trans s)) (fun e => by rw [e] at p; exact p.elim) fun d3 hs3 e v3 m3 H3 s3 hr3 r3 => ?_
  rw [e, bind_ok] at p
  split at p
  · rename_i hs4 e4
    exact set_use hr3 (r2.mono s3) r3 ((r1.mono s2).mono s3) e4 fun H4 s4 hr4 => PostS.next_step (((s1.trans s2).trans s3).trans s4) hr4 ((((rs.mono s1).mono s2).mono s3).mono s4) p
  · exact p.elim
def kItemR (o i : D) (hs : List Ob) : R D := match o with
  | .ref r => match hs[r]? with
    | some (.lst xs) => match i with
      | .int k => match atI xs k with
        | some d => .ok d hs
        | none => .stuck
      | _ => .stuck
    | some (.dct kvs) => match (keyD i).bind (valD kvs) with
      | some d => .ok d hs
      | none => .stuck
    | _ => .stuck
  | _ => .stuck
/-- o[i] op= v -/
def cAugIx (k : D → D → List Ob → R D) (o i v : CE) : CS := fun σ hs => (o σ hs).bind fun od hs => (i σ hs).bind fun id hs => (kItemR od id hs).bind fun old hs => (v σ hs).bind fun vd hs => (k old vd hs).bind fun new hs => match kSetIx od id new hs with
  | some hs => .ok (.nx σ) hs
  | none => .stuck
end
section
variable {X : Cx} {E : XK} {o i v : Expr} {fo fi fv : CE} {pos pos' : Pos} {n : Nat}
theorem x_setIx (hr : Room n X.A) (ho : SE X E o fo) (hi : SE X E i fi) (hv : SE X E v fv)
    (ha : ∀ v, assign (.Subscript o i pos') X.env v = (do
      let ov ← holding [v] (eval o X.env)
      let iv ← holding [v, ov] (eval i X.env)
      standAt pos'
      holding [v, ov, iv] (setItem ov iv v)
      release [v, ov, iv] []) := by intro _; rfl)
    (hs : swapsWithSole [.Subscript o i pos'] v pos.line X.env = pure false := by rfl) (hw : swappedStores [.Subscript o i pos'] v X.env = pure none := by rfl)
    (h1 : (assignEach [.Subscript o i pos'] X.env).map (·.2) = [assign (.Subscript o i pos') X.env] := by rfl) : SS X E (.Assign [.Subscript o i pos'] v pos) (cSetIx fo fi fv) :=
  PS.imp (ps_asg hv (pg_sub ho hi (set_any (hu_of hr)) ha) hs hw h1) fun _ _ _ => imp_setIx
end
/-! ### methods of lists -/
def cML (k : D → List D → List Ob → R D) (f : CE) (g : CA) : CE := fun σ hs => (f σ hs).bind fun d hs => if (lstOf hs d).isSome = true then (g σ hs).bind fun ds hs => k d ds hs else .stuck
def OpL (K : Kc) (r : V → List V → Hp → VK → Prop) (k : D → List D → List Ob → R D) : Prop :=
  ∀ (E : XK) (H : Hp) (m : Mp) (hs : List Ob) (d : D) (ds : List D) (v : V) (vs : List V) (Q : VK), HR K H m hs → RD K H m d v → RDs K H m ds vs → Post K E m H (k d ds hs) Q → r v vs H Q
def kAppend (d : D) (ds : List D) (hs : List Ob) : R D := match d, ds with
  | .ref r, [x] => match hs[r]? with
    | some (.lst xs) => if xs.length < sizeLine then .ok .non (hs.set r (.lst (xs ++ [x]))) else .stuck
    | _ => .stuck
  | _, _ => .stuck
def kExtend (d : D) (ds : List D) (hs : List Ob) : R D := match d, ds with
  | .ref r, [x] => match hs[r]?, lstOf hs x with
    | some (.lst xs), some zs => match x with
      | .frz _ => .stuck
      | _ => if xs.length + zs.length ≤ sizeLine then .ok .non (hs.set r (.lst (xs ++ zs))) else .stuck
    | _, _ => .stuck
  | _, _ => .stuck
def kPopAt (d : D) (ds : List D) (hs : List Ob) : R D := match d, ds with
  | .ref r, [.int i] => match hs[r]? with
    | some (.lst xs) => if -(2 ^ 63) ≤ i ∧ i < 2 ^ 63 then match seqIndex? i xs.length with
      | some k => match xs[k]? with
        | some x => .ok x (hs.set r (.lst (xs.eraseIdx k)))
        | none => .stuck
      | none => .stuck else .stuck
    | _ => .stuck
  | _, _ => .stuck
def kPop0 (d : D) (ds : List D) (hs : List Ob) : R D := match d, ds with
  | .ref r, [] => match hs[r]? with
    | some (.lst xs) => match xs[xs.length - 1]? with
      | some x => .ok x (hs.set r (.lst xs.dropLast))
      | none => .stuck
    | _ => .stuck
  | _, _ => .stuck
def kInsert (d : D) (ds : List D) (hs : List Ob) : R D := match d, ds with
  | .ref r, [.int i, x] => match hs[r]? with
    | some (.lst xs) => if xs.length < sizeLine ∧ 0 ≤ i ∧ i < 2 ^ 63 then .ok .non (hs.set r (.lst (xs.take i.toNat ++ [x] ++ xs.drop i.toNat))) else .stuck
    | _ => .stuck
  | _, _ => .stuck
section
variable {K : Kc} {E : XK} {H H' : Hp} {m m' : Mp} {hs hs' : List Ob} {τ : Lt}
theorem RDs.dropLast : ∀ {ds : List D} {vs : List V}, RDs K H m ds vs → RDs K H m ds.dropLast vs.dropLast := fun {ds vs} r => by
  rw [List.dropLast_eq_take, List.dropLast_eq_take, r.length]
  exact r.take _
theorem imp_ml {r : V → List V → Hp → VK → Prop} {k : D → List D → List Ob → R D} (o : OpL K r k) {f : CE} {g : CA} {Q : VK} (h : tE K E (cML k f g) τ H Q) : tBM K "list" r (tE K E f) (tA K E g) τ H Q := by
  obtain ⟨m, σ, hs, hr, rs, p⟩ := h
  unfold cML at p
  refine ev_bind hr rs (fun x hs' e => by rw [e] at p; exact p) (fun e => by rw [e] at p; exact p.elim) fun d hs1 e v m1 H1 s1 hr1 r1 => ?_
  rw [e, bind_ok] at p
  obtain ⟨c, p⟩ := p.ite
  obtain ⟨xs, ex⟩ := Option.isSome_iff_exists.mp c
  obtain ⟨a, vs, rfl, q, _⟩ := lst_rd hr1 r1 ex
  refine ⟨.inl ⟨rfl, vs, q⟩, m1, σ, hs1, hr1, rs.mono s1, ?_⟩
  cases eg : g σ hs1 with
  | stuck => rw [eg] at p; exact p.elim
  | exn x hs2 => rw [eg] at p; exact fun c od m' H' s => p c od m' H' (s1.trans s)
  | ok ds hs2 =>
    rw [eg, bind_ok] at p
    exact fun ws m2 H2 s2 hr2 r2 => o E H2 m2 hs2 d ds _ ws Q hr2 (r1.mono s2) r2 (Post.step (s1.trans s2) p)
theorem imp_ml0 {r : V → List V → Hp → VK → Prop} {k : D → List D → List Ob → R D} (o : OpL K r k) {f : CE} {Q : VK} (h : tE K E (cML k f cNil) τ H Q) : tBM0 K "list" r (tE K E f) τ H Q := by
  obtain ⟨m, σ, hs, hr, rs, p⟩ := h
  unfold cML at p
  refine ev_bind hr rs (fun x hs' e => by rw [e] at p; exact p) (fun e => by rw [e] at p; exact p.elim) fun d hs1 e v m1 H1 s1 hr1 r1 => ?_
  rw [e, bind_ok] at p
  obtain ⟨c, p⟩ := p.ite
  obtain ⟨xs, ex⟩ := Option.isSome_iff_exists.mp c
  obtain ⟨a, vs, rfl, q, _⟩ := lst_rd hr1 r1 ex
  exact ⟨.inl ⟨rfl, vs, q⟩, o E H1 m1 hs1 d [] _ [] Q hr1 r1 .nil (Post.step s1 p)⟩
theorem ol_append : OpL K rAppend kAppend := fun E H m hs d ds v vs Q hr r1 r2 p => by
  unfold kAppend at p
  split at p
  · rename_i r x
    split at p
    · rename_i xs ex
      obtain ⟨c, p⟩ := p.ite
      cases r1 with
      | ref hi =>
        rename_i a
        obtain ⟨ws, hv, rv⟩ := hr.ob _ _ _ ex hi
        cases r2 with
        | cons r3 r4 =>
          cases r4
          rename_i y
          have s := hr.putS hi (.lst (ws ++ [y]))
          exact ⟨a, ws, y, rfl, rfl, hv, by rw [← rv.length]; exact c, p _ _ _ s (hr.putL hi (rv.append (.cons r3 .nil))) .non⟩
    · exact p.elim
  · exact p.elim
theorem ol_extend : OpL K rExtend kExtend := fun E H m hs d ds v vs Q hr r1 r2 p => by
  unfold kExtend at p
  split at p
  · rename_i r x
    split at p
    · rename_i xs zs ex ez
      cases r1 with
      | ref hi =>
        rename_i a
        obtain ⟨ws, hv, rv⟩ := hr.ob _ _ _ ex hi
        cases r2 with
        | cons r3 r4 =>
          cases r4
          rename_i y
          split at p
          · exact p.elim
          · rename_i nf
            obtain ⟨c, p⟩ := p.ite
            have key : ∃ b us, y = .ref b ∧ H b = some (.lst us) ∧ RDs K H m zs us := by
              cases x with
              | fl xs =>
                have ez : some xs = some zs := ez
                cases ez
                cases r3 with
                | fl h n r => exact ⟨_, _, rfl, h, r⟩
              | ref j =>
                cases r3 with
                | ref hj =>
                  unfold lstOf at ez
                  dsimp only at ez
                  split at ez
                  · rename_i ys ey
                    cases ez
                    obtain ⟨us, hu, ru⟩ := hr.ob _ _ _ ey hj
                    exact ⟨_, us, rfl, hu, ru⟩
                  · cases ez
              | frz xs => exact absurd rfl (nf xs)
              | _ => cases ez
            obtain ⟨b, us, rfl, hb, ru⟩ := key
            have s := hr.putS hi (.lst (ws ++ us))
            exact ⟨a, b, ws, us, rfl, rfl, hv, hb, by rw [← rv.length, ← ru.length]; exact c, p _ _ _ s (hr.putL hi (rv.append ru)) .non⟩
    · exact p.elim
  · exact p.elim
theorem ol_popAt : OpL K rPopAt kPopAt := fun E H m hs d ds v vs Q hr r1 r2 p => by
  unfold kPopAt at p
  split at p
  · rename_i r i
    split at p
    · rename_i xs ex
      obtain ⟨c, p⟩ := p.ite
      split at p
      · rename_i k ek
        split at p
        · rename_i x ey
          cases r1 with
          | ref hi =>
            rename_i a
            obtain ⟨ws, hv, rv⟩ := hr.ob _ _ _ ex hi
            cases r2 with
            | cons r3 r4 =>
              cases r4
              cases r3
              obtain ⟨w, hw, rw'⟩ := rv.get ey
              have s := hr.putS hi (.lst (ws.eraseIdx k))
              exact ⟨a, ws, i, k, w, rfl, rfl, hv, c.1, c.2, by rw [← rv.length]; exact ek, hw, p _ _ _ s (hr.putL hi (rv.erase k)) (rw'.mono s)⟩
        · exact p.elim
      · exact p.elim
    · exact p.elim
  · exact p.elim
theorem ol_pop0 : OpL K rPop kPop0 := fun E H m hs d ds v vs Q hr r1 r2 p => by
  unfold kPop0 at p
  split at p
  · rename_i r
    split at p
    · rename_i xs ex
      split at p
      · rename_i x ey
        cases r1 with
        | ref hi =>
          rename_i a
          obtain ⟨ws, hv, rv⟩ := hr.ob _ _ _ ex hi
          cases r2
          obtain ⟨w, hw, rw'⟩ := rv.get ey
          have s := hr.putS hi (.lst ws.dropLast)
          exact ⟨a, ws, w, rfl, rfl, hv, by rw [← rv.length]; exact hw, p _ _ _ s (hr.putL hi rv.dropLast) (rw'.mono s)⟩
      · exact p.elim
    · exact p.elim
  · exact p.elim
end
end PL

set_option Elab.async false
set_option linter.all false
set_option maxRecDepth 100000
set_option maxHeartbeats 4000000
set_option autoImplicit false
namespace PL
open PySem PySem.Spec PyProof.Rows L2
section
variable {X : Cx} {E : XK} {o e e2 : Expr} {f : CE} {g : CA} {apos cpos : Pos}
theorem s_append (ho : SE X E o f) (ha : SA X E [e] g) (hbase : attributeBase o "append" X.env (eval o X.env) = eval o X.env := by rfl)
    (hfew : ((backTo cpos (starEach [e] X.env)).all (fun x => !x.1) && (backToKw cpos (keywordEach [] X.env)).all (fun x => x.1.isSome) && decide (([e] : List Expr).length + ([] : List Keyword).length + (if ([] : List Keyword).isEmpty then 0 else 1) < 30)) = true := by rfl)
    (hline : (apos.endLine == cpos.line) = true := by rfl) (hs : starEach [e] X.env = (false, eval e X.env) :: starEach [] X.env := by rfl) : SE X E (.Call (.Attribute o "append" apos) [e] [] cpos) (cML kAppend f g) :=
  PE.imp (pe_bm PySem.F.plainAttrs_list PySem.F.slot_list_append PySem.F.type_list_append mt_append ho ha hbase hfew hline hs) fun _ _ _ => imp_ml ol_append
theorem s_extend (ho : SE X E o f) (ha : SA X E [e] g) (hbase : attributeBase o "extend" X.env (eval o X.env) = eval o X.env := by rfl)
    (hfew : ((backTo cpos (starEach [e] X.env)).all (fun x => !x.1) && (backToKw cpos (keywordEach [] X.env)).all (fun x => x.1.isSome) && decide (([e] : List Expr).length + ([] : List Keyword).length + (if ([] : List Keyword).isEmpty then 0 else 1) < 30)) = true := by rfl)
    (hline : (apos.endLine == cpos.line) = true := by rfl) (hs : starEach [e] X.env = (false, eval e X.env) :: starEach [] X.env := by rfl) : SE X E (.Call (.Attribute o "extend" apos) [e] [] cpos) (cML kExtend f g) :=
  PE.imp (pe_bm PySem.F.plainAttrs_list PySem.F.slot_list_extend PySem.F.type_list_extend mt_extend ho ha hbase hfew hline hs) fun _ _ _ => imp_ml ol_extend
theorem s_popAt (ho : SE X E o f) (ha : SA X E [e] g) (hbase : attributeBase o "pop" X.env (eval o X.env) = eval o X.env := by rfl)
    (hfew : ((backTo cpos (starEach [e] X.env)).all (fun x => !x.1) && (backToKw cpos (keywordEach [] X.env)).all (fun x => x.1.isSome) && decide (([e] : List Expr).length + ([] : List Keyword).length + (if ([] : List Keyword).isEmpty then 0 else 1) < 30)) = true := by rfl)
    (hline : (apos.endLine == cpos.line) = true := by rfl) (hs : starEach [e] X.env = (false, eval e X.env) :: starEach [] X.env := by rfl) : SE X E (.Call (.Attribute o "pop" apos) [e] [] cpos) (cML kPopAt f g) :=
  PE.imp (pe_bm PySem.F.plainAttrs_list PySem.F.slot_list_pop PySem.F.type_list_pop mt_popAt ho ha hbase hfew hline hs) fun _ _ _ => imp_ml ol_popAt
theorem s_pop0 (ho : SE X E o f) (hbase : attributeBase o "pop" X.env (eval o X.env) = eval o X.env := by rfl) (hline : (apos.endLine == cpos.line) = true := by rfl) : SE X E (.Call (.Attribute o "pop" apos) [] [] cpos) (cML kPop0 f cNil) :=
  PE.imp (pe_bm0 PySem.F.plainAttrs_list PySem.F.slot_list_pop PySem.F.type_list_pop mt_pop ho hbase hline) fun _ _ _ => imp_ml0 ol_pop0
end
/-! ## o[i] op= v -/
section
variable {K : Kc} {E : XK} {H H' : Hp} {m m' : Mp} {hs hs' : List Ob} {τ : Lt}
theorem get_use {o i : D} {x y : V} {Q : VK} (hr : HR K H m hs) (r1 : RD K H m o x) (r2 : RD K H m i y) (p : Post K E m H (kItemR o i hs) Q) : rGetL K x y H Q ∨ rGetD x y H Q := by
  unfold kItemR at p
  split at p
  · rename_i r
    cases r1 with
    | ref hi =>
      rename_i a
      split at p
      · rename_i xs ex
        obtain ⟨vs, hv, rv⟩ := hr.ob _ _ _ ex hi
        split at p
        · rename_i k
          obtain ⟨d, e, p⟩ := p.opt
          cases r2
          obtain ⟨v, e1, rd⟩ := rv.at e
          exact .inl ⟨a, vs, k, v, rfl, rfl, SqL.of hv, e1, p.here hr rd⟩
        · exact p.elim
      · rename_i kvs ex
        obtain ⟨vs, hv, rv⟩ := hr.ob _ _ _ ex hi
        obtain ⟨d, e, p⟩ := p.opt
        obtain ⟨k, e1, e2⟩ := Option.bind_eq_some_iff.mp e
        cases key_rd r2 e1
        rcases rv.val k with ⟨z, _⟩ | ⟨d', u, z1, z2, z3⟩
        · rw [z] at e2; cases e2
        · rw [z1] at e2
          cases e2
          exact .inr ⟨a, u, rfl, by rw [← z2]; exact DGet.k hv, p.here hr z3⟩
      · exact p.elim
  · exact p.elim
theorem imp_augIx {k : D → D → List Ob → R D} {r : R2} (ok : Op2 K r k) {o i v : CE} {D : Ends} (h : tS K E (cAugIx k o i v) D τ H) :
    tAugS (tE K E o) (tE K E i) (tE K E v) (fun x y H Q => rGetL K x y H Q ∨ rGetD x y H Q) r rSet D τ H := by
  obtain ⟨m, σ, hs, hr, rs, p⟩ := h
  unfold cAugIx at p
  refine ev_bind hr rs (fun x hs' e => by rw [e] at p; exact p) (fun e => by rw [e] at p; exact p.elim) fun d1 hs1 e v1 m1 H1 s1 hr1 r1 => ?_
  rw [e, bind_ok] at p
  refine ev_bind hr1 (rs.mono s1) (fun x hs' e => by rw [e] at p; exact fun c od m' H' s => p c od m' H' (s1.trans s)) (fun e => by rw [e] at p; exact p.elim) fun d2 hs2 e v2 m2 H2 s2 hr2 r2 => ?_
  rw [e, bind_ok] at p
  have r1 := r1.mono s2
  have s12 := s1.trans s2
  refine get_use (E := E) hr2 r1 r2 ?_
  cases e3 : kItemR d1 d2 hs2 with
  | stuck => rw [e3] at p; exact p.elim
  | exn x hs3 => rw [e3] at p; exact fun c od m' H' s => p c od m' H' (s12.trans s)
  | ok d3 hs3 =>
    rw [e3, bind_ok] at p
    intro v3 m3 H3 s3 hr3 r3
    have s13 := s12.trans s3
    refine ev_bind hr3 (rs.mono s13) (fun x hs' e => by rw [e] at p; exact fun c od m' H' s => p c od m' H' (s13.trans s)) (fun e => by rw [e] at p; exact p.elim) fun d4 hs4 e v4 m4 H4 s4 hr4 r4 => ?_
    rw [e, bind_ok] at p
    have s14 := s13.trans s4
    refine ok E H4 m4 hs4 d3 d4 v3 v4 _ hr4 (r3.mono s4) r4 ?_
    cases e5 : k d3 d4 hs4 with
    | stuck => rw [e5] at p; exact p.elim
    | exn x hs5 => rw [e5] at p; exact fun c od m' H' s => p c od m' H' (s14.trans s)
    | ok d5 hs5 =>
      rw [e5, bind_ok] at p
      intro v5 m5 H5 s5 hr5 r5
      split at p
      · rename_i hs6 e6
        have s35 := (s3.trans s4).trans s5
        exact set_use hr5 (r1.mono s35) (r2.mono s35) r5 e6 fun H6 s6 hr6 => PostS.next_step ((s14.trans s5).trans s6) hr6 (rs.mono ((s14.trans s5).trans s6)) p
      · exact p.elim
end
section
variable {X : Cx} {E : XK} {o i v : Expr} {fo fi fv : CE} {pos tpos : Pos} {n : Nat}
theorem x_augIx {op : Operator} {r : R2} {k : D → D → List Ob → R D} (ok : Op2 (kc X E) r k) (hop : OpR X (inplaceOp op) r) (hr : Room n X.A) (ho : SE X E o fo) (hi : SE X E i fi) (hv : SE X E v fv)
    (ha : ∀ ov iv new, augStore i ov iv new = (do holding [new, ov, iv] (setItem ov iv new); release [new, ov, iv] []; pure .next) := by intros; rfl) :
    SS X E (.AugAssign (.Subscript o i tpos) op v pos) (cAugIx k fo fi fv) :=
  PS.imp (ps_augS ho hi (get_any (hu_of hr)) hv (pip_of hop) (set_any (hu_of hr)) ha) fun _ _ _ => imp_augIx ok
theorem x_augIxAdd (hr : Room n X.A) (ho : SE X E o fo) (hi : SE X E i fi) (hv : SE X E v fv)
    (ha : ∀ ov iv new, augStore i ov iv new = (do holding [new, ov, iv] (setItem ov iv new); release [new, ov, iv] []; pure .next) := by intros; rfl) :
    SS X E (.AugAssign (.Subscript o i tpos) .Add v pos) (cAugIx kAddIp fo fi fv) := x_augIx o2_addIp (iop_add.or iop_add_str) hr ho hi hv ha
theorem x_augIxSub (hr : Room n X.A) (ho : SE X E o fo) (hi : SE X E i fi) (hv : SE X E v fv)
    (ha : ∀ ov iv new, augStore i ov iv new = (do holding [new, ov, iv] (setItem ov iv new); release [new, ov, iv] []; pure .next) := by intros; rfl) :
    SS X E (.AugAssign (.Subscript o i tpos) .Sub v pos) (cAugIx kSub fo fi fv) := x_augIx o2_sub iop_sub hr ho hi hv ha
end
/-! ## dicts -/
def cDct0 (b : Bool) : CE := fun _ hs => newD b [] hs
def kGet2 (d k x : D) (hs : List Ob) : R D := match dctOf hs d with
  | some kvs => match keyD k with
    | some key => .ok ((valD kvs key).getD x) hs
    | none => .stuck
  | none => .stuck
def cGet2 (d k x : CE) : CE := fun σ hs => (d σ hs).bind fun dd hs => if (dctOf hs dd).isSome = true then (k σ hs).bind fun kd hs => (x σ hs).bind fun xd hs => kGet2 dd kd xd hs else .stuck
def kItems (b : Bool) (d : D) (hs : List Ob) : R D := match dctOf hs d with
  | some kvs => newL b (kvs.map fun kv => D.tup [unkey kv.1, kv.2]) hs
  | none => .stuck
section
variable {K : Kc} {E : XK} {H H' : Hp} {m m' : Mp} {hs hs' : List Ob} {τ : Lt}
theorem get2_use {d k x : D} {v w u : V} {Q : VK} (hr : HR K H m hs) (r1 : RD K H m d v) (r2 : RD K H m k w) (r3 : RD K H m x u) (p : Post K E m H (kGet2 d k x hs) Q) : ∃ a, v = .ref a ∧ ∃ o, DGet H a w o ∧ Q (o.getD u) H := by
  unfold kGet2 at p
  split at p
  · rename_i kvs e
    split at p
    · rename_i key ek
      obtain ⟨a, vs, rfl, h1, h2⟩ := dct_rd hr r1 e
      cases key_rd r2 ek
      refine ⟨a, rfl, _, DGet.k h1, ?_⟩
      rcases h2.val key with ⟨z1, z2⟩ | ⟨d', u', z1, z2, z3⟩
      · rw [z2]; rw [z1] at p; exact p.here hr r3
      · rw [z2]; rw [z1] at p; exact p.here hr z3
    · exact p.elim
  · exact p.elim
theorem imp_get2 {d k x : CE} {Q : VK} (h : tE K E (cGet2 d k x) τ H Q) : tDGet2 (tE K E d) (tE K E k) (tE K E x) τ H Q := by
  obtain ⟨m, σ, hs, hr, rs, p⟩ := h
  unfold cGet2 at p
  refine ev_bind hr rs (fun x hs' e => by rw [e] at p; exact p) (fun e => by rw [e] at p; exact p.elim) fun d1 hs1 e v1 m1 H1 s1 hr1 r1 => ?_
  rw [e, bind_ok] at p
  obtain ⟨c, p⟩ := p.ite
  obtain ⟨kvs, ek⟩ := Option.isSome_iff_exists.mp c
  obtain ⟨a, vs, rfl, h1, h2⟩ := dct_rd hr1 r1 ek
  refine ⟨a, rfl, .inl ⟨vs, .inl h1⟩, ?_⟩
  refine ev_bind hr1 (rs.mono s1) (fun x hs' e => by rw [e] at p; exact fun c od m' H' s => p c od m' H' (s1.trans s)) (fun e => by rw [e] at p; exact p.elim) fun d2 hs2 e v2 m2 H2 s2 hr2 r2 => ?_
  rw [e, bind_ok] at p
  have s12 := s1.trans s2
  refine ev_bind hr2 (rs.mono s12) (fun x hs' e => by rw [e] at p; exact fun c od m' H' s => p c od m' H' (s12.trans s)) (fun e => by rw [e] at p; exact p.elim) fun d3 hs3 e v3 m3 H3 s3 hr3 r3 => ?_
  rw [e, bind_ok] at p
  obtain ⟨a', ea, o, g, q⟩ := get2_use hr3 (r1.mono (s2.trans s3)) (r2.mono s3) r3 (Post.step (s12.trans s3) p)
  cases ea
  exact ⟨o, g, q⟩
theorem HR.newAtS (hr : HR K H m hs) {p : Addr} (kp : ∀ b o, H b = some o → H' b = some o) (np : H p = none) {o : HO} (hp : H' p = some o) : Stp m H (m.add p) H' := by
  obtain ⟨s, _⟩ := hr.same kp
  refine ⟨⟨[p], rfl, fun c hc => by rw [List.mem_singleton.mp hc]; exact np⟩, rfl, s.kp, fun c hc => ?_, s.st⟩
  rcases List.mem_append.mp hc with hc | hc
  · exact s.liv c hc
  · rw [List.mem_singleton.mp hc, hp]; exact fun z => by cases z
theorem HR.newAt (hr : HR K H m hs) {p : Addr} (kp : ∀ b o, H b = some o → H' b = some o) (np : H p = none) {o : HO} (hp : H' p = some o) {b : Ob} (hb : RO K H' (m.add p) b p) : HR K H' (m.add p) (hs ++ [b]) := by
  have s := hr.newAtS kp np hp
  have nin := hr.notin np
  have live : ∀ c, H c ≠ none → H' c = H c := fun c hc => by
    cases e : H c with
    | none => exact absurd e hc
    | some o => exact kp c o e
  refine ⟨by show (m.l ++ [p]).length = _; rw [List.length_append, List.length_append, hr.len]; rfl, ?_, fun j c d h1 h2 => ?_, fun c hc => ?_, tabs_all hr.tab kp, fun p hp => (hr.fr p hp).mono s⟩
  · refine List.nodup_append.mpr ⟨hr.nd, by simp, fun x hx y hy => ?_⟩
    rw [List.mem_singleton.mp hy]
    exact fun z => nin.1 (z ▸ hx)
  · have h2' : (m.l ++ [p])[j]? = some d := h2
    by_cases hj : j < m.l.length
    · rw [List.getElem?_append_left (by rw [← hr.len]; exact hj)] at h1
      rw [List.getElem?_append_left hj] at h2'
      exact (hr.ob j c d h1 h2').mono s (live d (hr.live d (List.mem_of_getElem? h2')))
    · have e1 : j = m.l.length := by
        have := (List.getElem?_eq_some_iff.mp h2').1
        rw [List.length_append, List.length_singleton] at this
        omega
      rw [List.getElem?_append_right (by omega), e1, Nat.sub_self] at h2'
      rw [List.getElem?_append_right (by rw [← hr.len]; omega), e1, hr.len, Nat.sub_self] at h1
      cases h1
      cases h2'
      exact hb
  · obtain ⟨z1, z2⟩ := hr.hid c hc
    have ne : c ≠ p := fun z => (hr.hidN c hc).1 (by rw [z]; exact np)
    refine ⟨by rw [live c (hr.hidN c hc).1]; exact z1, fun z => ?_⟩
    rcases List.mem_append.mp z with z | z
    · exact z2 z
    · exact ne (List.mem_singleton.mp z)
theorem items_rd : ∀ {kvs : List (Key × D)} {vs : List (Key × V)} {ts : List Addr}, RDk K H' m' kvs vs → (∀ t ∈ ts, m'.off t) →
    Paired (fun (t : Addr) (q : Key × V) => H' t = some (.tup [kV q.1, q.2])) ts vs → RDs K H' m' (kvs.map fun kv => D.tup [unkey kv.1, kv.2]) (ts.map V.ref)
  | _, _, _, .nil, _, .nil => .nil
  | _, _, _, .cons r rs, ho, .cons h t => .cons (.tup (.inl ⟨h, ho _ List.mem_cons_self⟩) (.cons (unkey_rd _) (.cons r .nil)))
    (items_rd rs (fun t ht => ho t (List.mem_cons_of_mem _ ht)) t)
theorem items_use {b : Bool} {d : D} {v : V} {Q : VK} (hr : HR K H m hs) (r1 : RD K H m d v) (p : Post K E m H (kItems b d hs) Q) : LiI.rItemsL v H Q := by
  unfold kItems at p
  split at p
  · rename_i kvs e
    obtain ⟨a, vs, e1, h1, h2⟩ := dct_rd hr r1 e
    refine ⟨a, vs, e1, h1, fun H' q ts kp nq nts nin hq pr => ?_⟩
    cases b with
    | false =>
      obtain ⟨s, hr'⟩ := hr.same kp
      exact p _ m H' s hr' (.fl hq (hr.notin nq) (items_rd (h2.mono s) (fun t ht => hr.notin (nts t ht)) pr))
    | true =>
      have s := hr.newAtS kp nq hq
      have rr : RDs K H' (m.add q) (kvs.map fun kv => D.tup [unkey kv.1, kv.2]) (ts.map V.ref) := items_rd (h2.mono s) (fun t ht => ⟨fun z => by
        rcases List.mem_append.mp z with z | z
        · exact (hr.notin (nts t ht)).1 z
        · exact nin (List.mem_singleton.mp z ▸ ht), (hr.notin (nts t ht)).2⟩) pr
      refine p _ (m.add q) H' s (hr.newAt kp nq hq (b := .lst _) ⟨_, hq, rr⟩) (.ref ?_)
      show (m.l ++ [q])[hs.length]? = some q
      rw [← hr.len, List.getElem?_concat_length]
  · exact p.elim
end
section
variable {X : Cx} {E : XK} {d k x e : Expr} {fd fk fx f : CE} {pos apos cpos p : Pos} {n : Nat}
theorem s_dct0 (b : Bool) : SE X E (.Dict [] [] pos) (cDct0 b) := PE.imp pe_dnewK fun τ H Q ⟨m, σ, hs, hr, rs, p⟩ => fun q nq => post_newD hr .nil nq p
theorem s_get2 (hr : Room n X.A) (hd : SE X E d fd) (hk : SE X E k fk) (hx : SE X E x fx) (hbase : attributeBase d "get" X.env (eval d X.env) = eval d X.env := by rfl)
    (hfew : ((backTo cpos (starEach [k, x] X.env)).all (fun x => !x.1) && (backToKw cpos (keywordEach [] X.env)).all (fun x => x.1.isSome) && decide (([k, x] : List Expr).length + ([] : List Keyword).length + (if ([] : List Keyword).isEmpty then 0 else 1) < 30)) = true := by rfl)
    (hline : (apos.endLine == cpos.line) = true := by rfl) (htr : backTo cpos (starEach [k, x] X.env) = [(false, eval k X.env), (false, eval x X.env)] := by rfl) :
    SE X E (.Call (.Attribute d "get" apos) [k, x] [] cpos) (cGet2 fd fk fx) := PE.imp (pe_dget2 (hu_of hr) hd hk hx ⟨hbase, hfew, hline, htr⟩) fun _ _ _ => imp_get2
theorem s_items (b : Bool) (hc : X.calm = true) (he : SE X E e f) (hm : X.mg "list" = none) (hg : Gl X "list" := by rfl) (hbase : attributeBase e "items" X.env (eval e X.env) = eval e X.env := by rfl) (hline : (apos.endLine == cpos.line) = true := by rfl)
    (hs : starEach [.Call (.Attribute e "items" apos) [] [] cpos] X.env = (false, eval (.Call (.Attribute e "items" apos) [] [] cpos) X.env) :: starEach [] X.env := by rfl) :
    SE X E (.Call (.Name "list" p) [.Call (.Attribute e "items" apos) [] [] cpos] [] pos) (c1 (kItems b) f) :=
  PE.imp (LiI.pe_listItems hc he hg hm (by decide +kernel) hbase hline hs) fun τ H Q h => by
    have h1 := tE_bind (τ := τ) (f := f) (g := fun x _ hs => kItems b x hs) h
    exact tE_mono h1 fun v H1 ⟨m, σ, hs, d, hr, _, rd, p⟩ => items_use hr rd p
end
/-! ## ranges laid -/
def kLRg1 (b : Bool) (d : D) (hs : List Ob) : R D := match d with
  | .int n => if n ≤ 2 ^ 24 ∧ -(2 ^ 62) ≤ n then newL b ((List.range n.toNat).map fun i => D.int (0 + (i : Nat))) hs else .stuck
  | _ => .stuck
def kLRg2 (b : Bool) (d e : D) (hs : List Ob) : R D := match d, e with
  | .int a, .int n => if -(2 ^ 62) ≤ a ∧ a < 2 ^ 62 ∧ -(2 ^ 62) ≤ n ∧ n < 2 ^ 62 ∧ (n - a).toNat ≤ 2 ^ 24 then newL b ((List.range (n - a).toNat).map fun i => D.int (a + (i : Nat))) hs else .stuck
  | _, _ => .stuck
section
variable {K : Kc} {E : XK} {H H' : Hp} {m m' : Mp} {hs hs' : List Ob} {τ : Lt}
theorem rds_rg (a : Int) : ∀ ns : List Nat, RDs K H m (ns.map fun i => D.int (a + (i : Nat))) (ns.map fun i => V.int (a + (i : Nat)))
  | [] => .nil
  | n :: ns => .cons (.int _) (rds_rg a ns)
end
section
variable {X : Cx} {E : XK} {e e2 : Expr} {f f2 : CE} {pos p p2 pos2 : Pos}
theorem s_listRg1 (b : Bool) (hc : X.calm = true) (h : SE X E e f) (hm : X.mg "list" = none) (hm2 : X.mg "range" = none) (hg : Gl X "list" := by rfl) (hg2 : Gl X "range" := by rfl)
    (na : starEach [e] X.env = (false, eval e X.env) :: starEach [] X.env := by rfl) (nb : starEach [.Call (.Name "range" p2) [e] [] pos2] X.env = (false, eval (.Call (.Name "range" p2) [e] [] pos2) X.env) :: starEach [] X.env := by rfl) :
    SE X E (.Call (.Name "list" p) [.Call (.Name "range" p2) [e] [] pos2] [] pos) (c1 (kLRg1 b) f) := PE.imp (pe_listRg hc hg hm (prg_1 hg2 hm2 h na) nb) fun τ H Q h => by
  refine tE_mono (tE_bind (τ := τ) (f := f) (g := fun x _ hs => kLRg1 b x hs) h) fun v H1 ⟨m, σ, hs, d, hr, _, rd, p⟩ => ?_
  unfold kLRg1 at p
  split at p
  · rename_i n
    obtain ⟨c, p⟩ := p.ite
    cases rd
    refine ⟨n, rfl, ⟨by decide, by decide, c.2, by omega, by omega⟩, fun q nq => ?_⟩
    have z := post_new (p := q) hr (rds_rg (0 : Int) (List.range n.toNat)) nq p
    unfold rgV
    rw [Int.sub_zero]
    exact z
  · exact p.elim
theorem s_listRg2 (b : Bool) (hc : X.calm = true) (h : SE X E e f) (h2 : SE X E e2 f2) (hm : X.mg "list" = none) (hm2 : X.mg "range" = none) (hg : Gl X "list" := by rfl) (hg2 : Gl X "range" := by rfl)
    (na : starEach [e, e2] X.env = (false, eval e X.env) :: starEach [e2] X.env := by rfl) (na2 : starEach [e2] X.env = (false, eval e2 X.env) :: starEach [] X.env := by rfl) (hp : (backTo pos2 (starEach [e2] X.env)).any (·.1) = false := by rfl)
    (nb : starEach [.Call (.Name "range" p2) [e, e2] [] pos2] X.env = (false, eval (.Call (.Name "range" p2) [e, e2] [] pos2) X.env) :: starEach [] X.env := by rfl) :
    SE X E (.Call (.Name "list" p) [.Call (.Name "range" p2) [e, e2] [] pos2] [] pos) (c2 (kLRg2 b) f f2) := PE.imp (pe_listRg hc hg hm (prg_2 hg2 hm2 h h2 na na2 hp) nb) fun τ H Q h => by
  have h1 := tE_bind (τ := τ) (f := f) (g := fun x σ hs => (f2 σ hs).bind fun y hs => kLRg2 b x y hs) h
  refine tE_mono h1 fun v H1 q => ?_
  refine tE_mono (tE_bind2 (τ := τ) (g := f2) (k := kLRg2 b) q) fun w H2 ⟨m, hs, d, d2, hr, r1, r2, p⟩ => ?_
  unfold kLRg2 at p
  split at p
  · rename_i a n
    obtain ⟨c, p⟩ := p.ite
    cases r1
    cases r2
    exact ⟨a, n, rfl, rfl, c, fun q nq => post_new (p := q) hr (rds_rg a (List.range (n - a).toNat)) nq p⟩
  · exact p.elim
end
end PL

set_option Elab.async false
set_option linter.all false
set_option maxRecDepth 100000
set_option maxHeartbeats 4000000
set_option autoImplicit false
namespace PL
open PySem PySem.Spec PyProof.Rows L2
open PySem.Sem (wp)
/-! ## enumerate over a tuple -/
/-- a tuple's iterator hands out its items, one after the other -/
theorem draws_tup {prog : Program} {w : World} {A : Around} (hd0 : A.handled = none) {it t : Addr} {items : Array Value} (tne : t ≠ it) :
    Draws prog w A it [it, t] items.size (fun i x => items[i]? = some x) (fun i g => g.IsTupleIter it t i ∧ g.IsTuple t items) where
  live := fun i g st => by
    obtain ⟨⟨ob, e1, _⟩, _⟩ := st
    exact ⟨ob, e1⟩
  frame := fun i g g' st fr => by
    obtain ⟨s1, ob, e1, e2⟩ := st
    exact ⟨s1.at fun o e => fr it (by simp) o e, ob, fr t (by simp) ob e1, e2⟩
  item := fun i s Q E lt st fin => by
    obtain ⟨s1, s2⟩ := st
    exact RZ.nextOf_tuple_item s1 s2 (Array.getElem?_eq_getElem lt) fun g' n1 sb => fin _ g' s.toks (Array.getElem?_eq_getElem lt) ⟨n1, s2.extBut sb.extBut tne⟩ sb
  done := fun s Q E st fin => by
    obtain ⟨s1, s2⟩ := st
    exact RZ.nextOf_tuple_end hd0 s1 s2 (Array.getElem?_eq_none (Nat.le_refl _)) fun g' e eb ex => fin g' e eb ex
def tIt (l : Addr) : Obj := { cls := .type "tuple_iterator", data := .fields #[.ref l, .int 0 0] }
def enO (n : Nat) : Obj := { cls := .type "enumerate", data := .fields #[.none, .bool false, .ref n, rawInt 0, .none, .none] }
theorem made_enumT (l : Addr) (xs : Array Value) (k : Nat) (dc : Option Addr) (sl : Array (Option Value)) :
    Meets (Builtin.«enumerate.__new__» ⟨[.type "enumerate", .ref l], []⟩) (fun _ R g => g.heap.get? l = some { cls := .type "tuple", dict := dc, data := .seq xs k, slots := sl } ∧
      R (.ok (.ret (.ref (g.heap.push (tIt l)).objs.size))) { g with heap := (g.heap.push (tIt l)).push (enO g.heap.objs.size) }) :=
  .of_wp fun prog w A R g q => by
    obtain ⟨hp, gl, dd, tk, os⟩ := g
    obtain ⟨el, q⟩ := q
    have sub0 := sub_enumerate
    have isT : Heap.IsTuple (Shared.heap ⟨hp, gl, dd, tk, os⟩) l xs := ⟨_, el, rfl, k, rfl⟩
    wp_walk using AutoSeq1.wpAny_loadPart' el
    refine wpAny_stack_any fun st0 => wpAny_pure ?_
    split
    · rename_i c _ _ _ _ _
      cases (c == Value.type "enumerate")
      · wp_walk using AutoSeq1.wpAny_loadPart' el, wpAny_pyIter_tuple isT
        exact ⟨_, rfl, q⟩
      · wp_walk using AutoSeq1.wpAny_loadPart' el, wpAny_pyIter_tuple isT
        exact ⟨_, rfl, q⟩
    · wp_walk using AutoSeq1.wpAny_loadPart' el, wpAny_pyIter_tuple isT
      exact ⟨_, rfl, q⟩
theorem call_enumT {prog : Program} {w : World} {A : Around} {E : Value → Shared → Prop} {g : Shared} {l : Addr} {xs : Array Value} {Q : Value → Shared → Prop} (isT : g.heap.IsTuple l xs)
    (fin : ∀ g', IsEnum g' (g.heap.objs.size + 1) g.heap.objs.size 0 .none → g'.IsTupleIter g.heap.objs.size l 0 → g'.objs.size = g.heap.objs.size + 2 →
      (∀ b o, g.heap.get? b = some o → g'.get? b = some o) → Q (.ref (g.heap.objs.size + 1)) { g with heap := g' }) :
    wpAny (model prog w) A (call (.type "enumerate") [.ref l]) Q E g := by
  obtain ⟨⟨c, dc, dt, sl⟩, el, e1, k, e2⟩ := isT
  obtain rfl : c = .type "tuple" := e1
  obtain rfl : dt = .seq xs k := e2
  refine callType_new F.called_enumerate (by decide) (F.typeCall_enumerate_1 _) (F.newCall_enumerate_1 _) (fun ob => F.args_object_init_2 ob _) F.entry_enumerate_new (made_enumT l xs k dc sl) ⟨el, ?_⟩
  have z1 : (g.heap.push (tIt l)).objs.size = g.heap.objs.size + 1 := Heap.size_push ..
  show _ ∧ _
  rw [z1]
  have en : IsEnum ((g.heap.push (tIt l)).push (enO g.heap.objs.size)) (g.heap.objs.size + 1) g.heap.objs.size 0 .none := by
    have p1 := Heap.get?_push_size (g.heap.push (tIt l)) (o := enO g.heap.objs.size) rfl
    rw [z1] at p1
    exact p1
  have gi : ((g.heap.push (tIt l)).push (enO g.heap.objs.size)).get? g.heap.objs.size = some (tIt l) := Heap.get?_push_of_some _ (Heap.get?_push_size _ rfl)
  exact ⟨⟨_, en, rfl⟩, fin _ en ⟨_, gi, rfl, rfl⟩ (by rw [Heap.size_push, z1]) fun b o e => Heap.get?_push_of_some _ (Heap.get?_push_of_some _ e)⟩
/-- the tuple at a, each item in a new pair with its number -/
def ItuE (K : PySem.W.Frag) (a : Addr) : It :=
  ⟨fun i H => ∃ (vs : List V) (v : V), SqT K H a vs ∧ vs[i]? = some v, fun i H v H' => ∃ T y, v = .ref T ∧ H T = none ∧ H' = upd H T (.tup [.int (i : Nat), y]) ∧ ∀ vs, SqT K H a vs → vs[i]? = some y,
    fun i H => ∃ vs : List V, SqT K H a vs ∧ vs.length ≤ i⟩
theorem turn_enumT {P : Program} {w : World} {K : PySem.W.Frag} {elts : List Expr} {kk : Nat} {tpos : Pos} (a e it : Addr) :
    Turn P w K (.Tuple elts kk tpos) (ItuE K a) [e, it] e (fun i g => (∃ old, IsEnum g e it ((i : Nat) : Int) old) ∧ g.IsTupleIter it a i ∧ e ≠ it ∧ a ≠ it ∧ e ≠ a) where
  mem := by simp
  obj := fun i g st b hb => by
    obtain ⟨⟨old, en⟩, ⟨ob, o1, o2, o3⟩, _⟩ := st
    have e' : b = e ∨ b = it := by simpa using hb
    rcases e' with rfl | rfl
    · exact ⟨_, en, fun v q => nomatch q⟩
    · exact ⟨ob, o1, fun v q => by rw [o3] at q; cases q⟩
  keep := fun i g g' st k => by
    obtain ⟨⟨old, en⟩, ti, rest⟩ := st
    exact ⟨⟨old, k e (by simp) _ en⟩, ti.at fun o q => k it (by simp) o q, rest⟩
  item := by
    intro X hP hw hK hc i pins s σ H E I hf st hg
    subst hP hw hK
    obtain ⟨⟨old, en⟩, ti, ne1, ne2, ne3⟩ := st
    obtain ⟨vs, v, hq, hv⟩ := hg
    obtain ⟨its, rv, p, _⟩ := I.tuple hq
    obtain ⟨u, hu, ru⟩ := rv.get hv
    have el : e < s.heap.objs.size := Heap.lt_size en
    have il : it < s.heap.objs.size := by
      obtain ⟨_, q, _⟩ := ti
      exact Heap.lt_size q
    have lt : i < its.toArray.size := by
      have := (List.getElem?_eq_some_iff.mp hu).1
      simpa using this
    refine wpAny_pyNext_enum_itemD (draws_tup (show X.A.in1.handled = none from I.ok.hd hc) ne2) en ⟨ti, show s.heap.IsTuple a its.toArray from p⟩ lt ne1 (by simp [ne1, ne3]) fun x g' tk px ho st2 hT hsz hk => ?_
    have ex : x = u := by
      have : its[i]? = some x := by simpa using px
      rw [hu] at this
      exact (Option.some.inj this).symm
    subst ex
    refine ⟨_, rfl, wpAny_letOwnedTupleGo_enum (s := { s with heap := g', toks := tk + 1 }) ho fun g2 en2 sb => ?_⟩
    have hT2 : g2.get? s.heap.objs.size = some { cls := .type "tuple", data := .seq #[.int i tk, x] } := (sb.2 _ (Nat.ne_of_gt el)).trans hT
    have new : ObjOk X.prog X.w (upd H s.heap.objs.size (.tup [.int (i : Nat), v])) g2 s.heap.objs.size (.tup [.int (i : Nat), v]) :=
      ⟨by show 2 ≤ sizeLine; decide, [.int i tk, x], .cons ⟨_, rfl⟩ (.cons ru .nil), ⟨_, hT2, rfl, _, rfl⟩⟩
    have I1 : Inv X pins σ (upd H s.heap.objs.size (.tup [.int (i : Nat), v])) { s with heap := g2, toks := tk + 1 } :=
      I.turnedNew (ch := [e, it]) (fun b ob hb q => (sb.2 b (fun z => hb (by simp [z]))).trans (hk b ob (fun z => hb (by simp [z])) (fun z => hb (by simp [z])) q)) hf (Nat.le_refl _) new
    refine ⟨.ref s.heap.objs.size, _, I1, rfl, ⟨_, v, rfl, I.hok.fresh (Nat.le_refl _), rfl, fun ys hy => by rw [I.tuple_inj hy hq]; exact hv⟩, ⟨⟨x, ?_⟩, st2.1.at fun o q => (sb.2 it (Ne.symm ne1)).trans q, ne1, ne2, ne3⟩, fun b hb => ?_⟩
    · rw [show ((i + 1 : Nat) : Int) = (i : Int) + 1 by omega]
      exact en2
    · have bl : b < s.heap.objs.size := by
        have e' : b = e ∨ b = it := by simpa using hb
        rcases e' with rfl | rfl
        · exact el
        · exact il
      rw [upd_ne (Nat.ne_of_lt bl)]
      exact (hf b hb).1
  done := by
    intro X hP hw hK hc i pins s σ H E I hf st hg
    subst hP hw hK
    obtain ⟨⟨old, en⟩, ti, ne1, ne2, ne3⟩ := st
    obtain ⟨vs, hq, hv⟩ := hg
    obtain ⟨its, rv, p, _⟩ := I.tuple hq
    obtain ⟨f0, f1, f2, f3, f4, f5⟩ := hf it (by simp)
    have hl := rv.length
    have hT : s.TypeIs (.ref e) "enumerate" := ⟨_, en, rfl⟩
    unfold pyNext
    refine wpAny_bind (wpAny_attempt (wpAny_callSpecial?_slot (name := Str.ofString "__next__") hT F.slot_enumerate_next (wpAny_call_entry F.slot_enumerate_next hT F.entry_enumerate_next ?_ (F.args_enumerate_next_1 _))))
    show wpAny _ _ (PySem.field (.ref e) 2 >>= _) _ _ _
    refine wpAny_bind (wpAny_field en rfl (x := .ref it) rfl ?_)
    refine wpAny_bind (RZ.nextOf_tuple_end (show X.A.in1.handled = none from I.ok.hd hc) ti (show s.heap.IsTuple a its.toArray from p) (by simp; omega) fun g' x eb ox => ?_)
    obtain ⟨ob, o1, o2⟩ := ox
    refine wpAny_bind (wpAny_isInstance (T := "StopIteration") (b := true) ⟨ob, o1, o2⟩ isSubtype_stop ?_)
    exact wpAny_pure ⟨rfl, I.turned (t' := s.toks) (fun b o hb e => eb b o hb e) f0 f1 f3 f4 f5⟩
  self := fun A i s Q E st fin => by
    obtain ⟨⟨_, en⟩, _⟩ := st
    exact wpAny_pyIter_enum en fin
def iEnumA (K : PySem.W.Frag) (ta : TA) : TI := fun σ H R => ta σ H fun vs H1 => ∃ a xs, vs = [.ref a] ∧ ((SqL K H1 a xs ∧ R (Ite K a) H1) ∨ (SqT K H1 a xs ∧ R (ItuE K a) H1))
theorem pi_enumA {X : Cx} {e : Expr} {ta : TA} {p pos tpos : Pos} {elts : List Expr} {kk : Nat} (hg : Gl X "enumerate") (hm : X.mg "enumerate" = none) (ha : PA X [e] ta) (hs : starEach [e] X.env = [(false, eval e X.env)] := by rfl) :
    PI X (.Tuple elts kk tpos) (.Call (.Name "enumerate" p) [e] [] pos) (iEnumA X.K ta) := by
  refine ⟨fun pins s σ H R I q0 => ?_⟩
  refine Call_ (ld_blt I hg hm boot_enumerate (PyProof.Rows.callWith_type1 (thn (ha.run pos pins s σ H _ I q0) fun us s1 ⟨vs, H1, I1, r1, q1⟩ => ?_) hs rfl))
  obtain ⟨a, xs, ex, q1⟩ := q1
  subst ex
  cases r1 with
  | cons r rr =>
    cases rr
    cases r
    have fr : ∀ b, b ∈ [s1.heap.objs.size + 1, s1.heap.objs.size] → FpOk X pins H1 b := fun b hb => by
      have e' : b = s1.heap.objs.size + 1 ∨ b = s1.heap.objs.size := by simpa using hb
      have le : s1.heap.objs.size ≤ b := by
        rcases e' with z | z <;> rw [z]
        · exact Nat.le_add_right _ _
        · exact Nat.le_refl _
      exact I1.fpOk le (I1.hok.fresh le)
    rcases q1 with ⟨hq, q⟩ | ⟨hq, q⟩
    · obtain ⟨its, rv, p', _⟩ := I1.list hq
      refine call_enumerate_list p'.isList fun g' en ti hsz hk => wpAny_pyIter_enum en ?_
      have I2 : Inv X pins σ H1 { s1 with heap := g' } := I1.kept (t' := s1.toks) hk
      exact ⟨s1.heap.objs.size + 1, [s1.heap.objs.size + 1, s1.heap.objs.size], _, _, H1, rfl, I2, turn_enum a (s1.heap.objs.size + 1) s1.heap.objs.size, ⟨⟨.none, en⟩, ti, Nat.succ_ne_self _⟩, fr, q⟩
    · obtain ⟨its, rv, p', _⟩ := I1.tuple hq
      obtain ⟨o1, ho1, _⟩ := id p'
      have la : a < s1.heap.objs.size := Heap.lt_size ho1
      refine call_enumT (show s1.heap.IsTuple a its.toArray from p') fun g' en ti hsz hk => wpAny_pyIter_enum en ?_
      have I2 : Inv X pins σ H1 { s1 with heap := g' } := I1.kept (t' := s1.toks) hk
      exact ⟨s1.heap.objs.size + 1, [s1.heap.objs.size + 1, s1.heap.objs.size], _, _, H1, rfl, I2, turn_enumT a (s1.heap.objs.size + 1) s1.heap.objs.size, ⟨⟨.none, en⟩, ti, Nat.succ_ne_self _, Nat.ne_of_lt la, (Nat.ne_of_lt (Nat.lt_succ_of_lt la)).symm⟩, fr, q⟩
end PL

set_option Elab.async false
set_option linter.all false
set_option maxRecDepth 100000
set_option maxHeartbeats 4000000
set_option autoImplicit false
namespace PL
open PySem PySem.Spec PyProof.Rows L2
/-! ## a < b < c -/
def cChain (k k' : D → D → List Ob → R D) (a b c : CE) : CE := fun σ hs => (a σ hs).bind fun x hs => (b σ hs).bind fun y hs => (k x y hs).bind fun z hs => match z with
  | .bl true => (c σ hs).bind fun w hs => k' y w hs
  | .bl false => .ok (.bl false) hs
  | _ => .stuck
section
variable {K : Kc} {E : XK} {H H' : Hp} {m m' : Mp} {hs hs' : List Ob} {τ : Lt}
theorem imp_chain {k k' : D → D → List Ob → R D} {r r' : R2} (o : Op2 K r k) (o' : Op2 K r' k') {a b c : CE} {Q : VK} (h : tE K E (cChain k k' a b c) τ H Q) : tChain r r' (tE K E a) (tE K E b) (tE K E c) τ H Q := by
  obtain ⟨m, σ, hs, hr, rs, p⟩ := h
  unfold cChain at p
  refine ev_bind hr rs (fun x hs' e => by rw [e] at p; exact p) (fun e => by rw [e] at p; exact p.elim) fun d1 hs1 e v1 m1 H1 s1 hr1 r1 => ?_
  rw [e, bind_ok] at p
  refine ev_bind hr1 (rs.mono s1) (fun x hs' e => by rw [e] at p; exact fun c od m' H' s => p c od m' H' (s1.trans s)) (fun e => by rw [e] at p; exact p.elim) fun d2 hs2 e v2 m2 H2 s2 hr2 r2 => ?_
  rw [e, bind_ok] at p
  have s12 := s1.trans s2
  refine o E H2 m2 hs2 d1 d2 v1 v2 _ hr2 (r1.mono s2) r2 ?_
  cases e3 : k d1 d2 hs2 with
  | stuck => rw [e3] at p; exact p.elim
  | exn x hs3 => rw [e3] at p; exact fun c od m' H' s => p c od m' H' (s12.trans s)
  | ok d3 hs3 =>
    rw [e3, bind_ok] at p
    intro v3 m3 H3 s3 hr3 r3
    have s13 := s12.trans s3
    split at p
    · refine ⟨true, rd_bl r3, iteT ?_⟩
      refine ev_bind hr3 (rs.mono s13) (fun x hs' e => by rw [e] at p; exact fun c od m' H' s => p c od m' H' (s13.trans s)) (fun e => by rw [e] at p; exact p.elim) fun d4 hs4 e v4 m4 H4 s4 hr4 r4 => ?_
      rw [e, bind_ok] at p
      exact o' E H4 m4 hs4 d2 d4 v2 v4 _ hr4 (r2.mono (s3.trans s4)) r4 (Post.step (s13.trans s4) p)
    · exact ⟨false, rd_bl r3, iteF (Post.here hr3 (.bl false) (Post.step s13 p))⟩
    · exact p.elim
end
section
variable {X : Cx} {E : XK} {a b c : Expr} {fa fb fc : CE} {pos : Pos}
theorem s_lele (ha : SE X E a fa) (hb : SE X E b fb) (hc : SE X E c fc) (hm : lastMarks [.LtE, .LtE] [b, c] = false := by with_unfolding_all rfl) : SE X E (.Compare a [.LtE, .LtE] [b, c] pos) (cChain kLe kLe fa fb fc) := PE.imp (pe_chain op_le op_le ha hb hc hm) fun _ _ _ => imp_chain o2_le o2_le
theorem s_lelt (ha : SE X E a fa) (hb : SE X E b fb) (hc : SE X E c fc) (hm : lastMarks [.LtE, .Lt] [b, c] = false := by with_unfolding_all rfl) : SE X E (.Compare a [.LtE, .Lt] [b, c] pos) (cChain kLe kLt fa fb fc) := PE.imp (pe_chain op_le o_lt ha hb hc hm) fun _ _ _ => imp_chain o2_le o2_lt
theorem st_lele (ha : SE X E a fa) (hb : SE X E b fb) (hc : SE X E c fc) (hm : lastMarks [.LtE, .LtE] [b, c] = false := by with_unfolding_all rfl) : ST X E (.Compare a [.LtE, .LtE] [b, c] pos) (cChain kLe kLe fa fb fc) := PT.imp (pt_chain op_le op_le ha hb hc hm) fun _ _ _ h => imp_chain o2_le o2_le h
theorem st_lelt (ha : SE X E a fa) (hb : SE X E b fb) (hc : SE X E c fc) (hm : lastMarks [.LtE, .Lt] [b, c] = false := by with_unfolding_all rfl) : ST X E (.Compare a [.LtE, .Lt] [b, c] pos) (cChain kLe kLt fa fb fc) := PT.imp (pt_chain op_le o_lt ha hb hc hm) fun _ _ _ h => imp_chain o2_le o2_lt h
end
/-! ## isinstance -/
def tyOf (hs : List Ob) : D → Option String
  | .non => some "NoneType"
  | .bl _ => some "bool"
  | .int _ => some "int"
  | .str _ => some "str"
  | .tup _ => some "tuple"
  | .fl _ => some "list"
  | .frz _ => some "list"
  | .fd _ => some "dict"
  | .ref r => match hs[r]? with
    | some (.lst _) => some "list"
    | some (.dct _) => some "dict"
    | _ => none
  | _ => none
def kIsi (T : String) (d : D) (hs : List Ob) : R D := match (tyOf hs d).bind fun t => kitB t T with
  | some b => .ok (.bl b) hs
  | none => .stuck
section
variable {K : Kc} {E : XK} {H H' : Hp} {m m' : Mp} {hs hs' : List Ob} {τ : Lt}
theorem ty_rd {d : D} {v : V} {t : String} (hr : HR K H m hs) (r : RD K H m d v) (e : tyOf hs d = some t) : TyX K H v (.type t) := by
  cases r with
  | non => cases e; exact .base .non
  | bl b => cases e; exact .base (.bl b)
  | int b => cases e; exact .base (.int b)
  | str b => cases e; exact .base (.str b)
  | tup z r =>
    cases e
    rcases z with ⟨z, _⟩ | ⟨o, its, n, z, c, _⟩
    · exact .base (.tup z)
    · exact .kTuple z c
  | fl z n r => cases e; exact .base (.lst z)
  | fd z n r => cases e; exact .base (.dK z)
  | frz z r =>
    cases e
    rcases z with ⟨⟨o, z⟩, _⟩ | ⟨o, its, n, z, c, _⟩
    · exact .base (.frz z)
    · exact .kList z c
  | ref hi =>
    unfold tyOf at e
    dsimp only at e
    split at e
    · rename_i ex
      cases e
      obtain ⟨vs, h, _⟩ := hr.ob _ _ _ ex hi
      exact .base (.lst h)
    · rename_i ex
      cases e
      obtain ⟨vs, h, _⟩ := hr.ob _ _ _ ex hi
      exact .base (.dK h)
    · cases e
  | _ => cases e
end
section
variable {X : Cx} {E : XK} {e : Expr} {f : CE} {pos p p2 : Pos}
theorem s_isi {T : String} (x : Str) (h : SE X E e f) (hm : X.mg "isinstance" = none) (hm2 : X.mg x = none) (hv : bootBuiltins x = some (.type T)) (hn : x ≠ "__name__" := by decide) (hd : (x == ("__debug__" : Str)) = false := by decide)
    (hg : Gl X "isinstance" := by rfl) (hg2 : Gl X x := by rfl) (he : starEach [e, .Name x p2] X.env = (false, eval e X.env) :: starEach [.Name x p2] X.env := by rfl) (he2 : starEach [.Name x p2] X.env = (false, eval (.Name x p2) X.env) :: starEach [] X.env := by rfl)
    (hp : (backTo pos (starEach [.Name x p2] X.env)).any (·.1) = false := by rfl) : SE X E (.Call (.Name "isinstance" p) [e, .Name x p2] [] pos) (c1 (kIsi T) f) :=
  PE.imp (pe_callB call_isi hg hm (by decide +kernel) (pa_cons h (pa_cons (pe_bltn (v := .ty T) hg2 hm2 hv rfl hn hd) pa_nil he2) he) (he := he) (hpl := hp)) fun τ H Q h => by
    have h1 := tE_bind (τ := τ) (f := f) (g := fun x _ hs => kIsi T x hs) h
    refine tE_mono h1 fun v H1 ⟨m, σ, hs, d, hr, _, rd, p⟩ => ?_
    unfold kIsi at p
    split at p
    · rename_i b eb
      obtain ⟨t, e1, e2⟩ := Option.bind_eq_some_iff.mp eb
      exact ⟨v, .ty T, .type t, .type T, b, rfl, .ty T, ty_rd hr rd e1, kit_ty e2, p.here hr (.bl b)⟩
    · exact p.elim
end
/-! ## texts -/
def kJoin (a d : D) (hs : List Ob) : R D := match a with
  | .str a => match (seqOf hs d).bind asStrs with
    | some ys => if (ys.map (·.length)).sum + ys.length * a.length ≤ 16777216 then .ok (.str (Txt.join a ys)) hs else .stuck
    | none => .stuck
  | _ => .stuck
def isStr : D → Bool
  | .str _ => true
  | _ => false
def cMS (k : D → D → List Ob → R D) (f g : CE) : CE := fun σ hs => (f σ hs).bind fun d hs => if isStr d = true then (g σ hs).bind fun x hs => k d x hs else .stuck
def kStrI (d : D) (hs : List Ob) : R D := match d with
  | .int i => if i.natAbs.log2 < 1920 then .ok (.str (toString i)) hs else .stuck
  | _ => .stuck
section
variable {K : Kc} {E : XK} {H H' : Hp} {m m' : Mp} {hs hs' : List Ob} {τ : Lt}
theorem imp_ms {k : D → D → List Ob → R D} {r : V → List V → Hp → VK → Prop} (o : ∀ (E : XK) (H : Hp) (m : Mp) (hs : List Ob) (d x : D) (v w : V) (Q : VK), HR K H m hs → RD K H m d v → RD K H m x w → Post K E m H (k d x hs) Q → r v [w] H Q)
    {f g : CE} {Q : VK} (h : tE K E (cMS k f g) τ H Q) : tM1 r (tE K E f) (tE K E g) τ H Q := by
  obtain ⟨m, σ, hs, hr, rs, p⟩ := h
  unfold cMS at p
  refine ev_bind hr rs (fun x hs' e => by rw [e] at p; exact p) (fun e => by rw [e] at p; exact p.elim) fun d1 hs1 e v1 m1 H1 s1 hr1 r1 => ?_
  rw [e, bind_ok] at p
  obtain ⟨c, p⟩ := p.ite
  refine ⟨?_, ?_⟩
  · cases d1 with
    | str x => exact ⟨x, rd_str r1⟩
    | _ => cases c
  refine ev_bind hr1 (rs.mono s1) (fun x hs' e => by rw [e] at p; exact fun c od m' H' s => p c od m' H' (s1.trans s)) (fun e => by rw [e] at p; exact p.elim) fun d2 hs2 e v2 m2 H2 s2 hr2 r2 => ?_
  rw [e, bind_ok] at p
  exact o E H2 m2 hs2 d1 d2 v1 v2 Q hr2 (r1.mono s2) r2 (Post.step (s1.trans s2) p)
end
section
variable {X : Cx} {E : XK} {o e : Expr} {f g : CE} {gA : CA} {pos apos p : Pos}
theorem s_join (ho : SE X E o f) (he : SE X E e g) (hs : starEach [e] X.env = [(false, eval e X.env)] := by rfl) (hbase : attributeBase o "join" X.env (eval o X.env) = eval o X.env := by rfl) (hline : (apos.endLine == pos.line) = true := by rfl) :
    SE X E (.Call (.Attribute o "join" apos) [e] [] pos) (cMS kJoin f g) := PE.imp (pe_join ho he hs hbase hline) fun _ _ _ => imp_ms fun E H m hs d x v w Q hr r1 r2 p => by
  unfold kJoin at p
  split at p
  · rename_i a
    split at p
    · rename_i ys ey
      obtain ⟨xs, e1, e2⟩ := Option.bind_eq_some_iff.mp ey
      obtain ⟨c, p⟩ := p.ite
      obtain ⟨b, vs, rfl, h1, h2⟩ := seq_rd hr r2 e1
      have e3 := asStrs_eq e2
      subst e3
      have e4 := h2.map_str
      subst e4
      exact ⟨a, b, ys, rd_str r1, rfl, h1.symm, c, p.here hr (.str _)⟩
    · exact p.elim
  · exact p.elim
theorem s_strI (h : SA X E [e] gA) (hm : X.mg "str" = none) (hg : Gl X "str" := by rfl) (he : starEach [e] X.env = (false, eval e X.env) :: starEach [] X.env := by rfl) : SE X E (.Call (.Name "str" p) [e] [] pos) (cF (one kStrI) gA) :=
  PE.imp (pe_callTy call_str_int hg hm (by decide +kernel) h (he := he)) (impA (opa1 fun E H m hs d v Q hr r p => by
    unfold kStrI at p
    split at p
    · obtain ⟨c, p⟩ := p.ite
      exact ⟨_, by rw [rd_int r], c, p.here hr (.str _)⟩
    · exact p.elim))
end
/-! ## enumerate, zip -/
def enumD : Nat → List D → List D
  | _, [] => []
  | i, x :: xs => .tup [.int (i : Nat), x] :: enumD (i + 1) xs
theorem enumD_get : ∀ (xs : List D) (k i : Nat), (enumD k xs)[i]? = (xs[i]?).map fun x => D.tup [.int ((k + i : Nat) : Int), x]
  | [], k, i => by simp [enumD]
  | x :: xs, k, 0 => by simp [enumD]
  | x :: xs, k, i + 1 => by
    have := enumD_get xs (k + 1) i
    simp only [enumD, List.getElem?_cons_succ]
    rw [this, show k + 1 + i = k + (i + 1) by omega]
theorem enumD_length : ∀ (xs : List D) (k : Nat), (enumD k xs).length = xs.length
  | [], k => rfl
  | x :: xs, k => congrArg Nat.succ (enumD_length xs (k + 1))
def zipD (xs ys : List D) : List D := List.zipWith (fun a b => D.tup [a, b]) xs ys
/-- a list that stays -/
def frzL : D → Option (List D)
  | .fl xs => some xs
  | .frz xs => some xs
  | _ => none
def tupD : D → Option (List D)
  | .tup xs => some xs
  | _ => none
def kEnum (ds : List D) (hs : List Ob) : R Src := match ds with
  | [d] => match frzL d with
    | some xs => .ok (.seq (enumD 0 xs)) hs
    | none => match tupD d with
      | some xs => .ok (.seq (enumD 0 xs)) hs
      | none => match lstOf hs d with
        | some _ => .ok (.live fun hs => (lstOf hs d).map (enumD 0)) hs
        | none => .stuck
  | _ => .stuck
def kZip (ds : List D) (hs : List Ob) : R Src := match ds with
  | [d, e] => match tupD d, tupD e with
    | some xs, some ys => .ok (.seq (zipD xs ys)) hs
    | _, _ => match frzL d, frzL e with
      | some xs, some ys => .ok (.seq (zipD xs ys)) hs
      | _, _ => match lstOf hs d, lstOf hs e with
        | some _, some _ => .ok (.live fun hs => (lstOf hs d).bind fun xs => (lstOf hs e).map fun ys => zipD xs ys) hs
        | _, _ => .stuck
  | _ => .stuck
section
variable {K : Kc} {E : XK} {H H' : Hp} {m m' : Mp} {hs hs' : List Ob} {τ : Lt}
theorem frz_rd {d : D} {v : V} {xs : List D} (r : RD K H m d v) (e : frzL d = some xs) : ∃ a vs, v = .ref a ∧ RDs K H m xs vs ∧ ∀ m' H', Stw m H m' H' → SqL K H' a vs := by
  cases r with
  | fl z n r =>
    cases e
    exact ⟨_, _, rfl, r, fun m' H' s => SqL.of (s.q.kp _ _ n z nt_lst).1⟩
  | frz z r =>
    cases e
    exact ⟨_, _, rfl, r, fun m' H' s => (z.monoQ s.q).sq⟩
  | _ => cases e
theorem lst_of_frz {d : D} {xs : List D} (e : frzL d = some xs) : lstOf hs d = some xs := by
  cases d with
  | fl ys => exact e
  | frz ys => exact e
  | _ => cases e
theorem tup_new {x y : V} {d e : D} {T : Addr} (hr : HR K H m hs) (nT : H T = none) (r1 : RD K H m d x) (r2 : RD K H m e y) :
    Stp m H m (upd H T (.tup [x, y])) ∧ HR K (upd H T (.tup [x, y])) m hs ∧ RD K (upd H T (.tup [x, y])) m (.tup [d, e]) (.ref T) := by
  obtain ⟨s, h⟩ := hr.fresh nT (.tup [x, y])
  exact ⟨s, h, .tup (.inl ⟨upd_same, hr.notin nT⟩) (.cons (r1.mono s) (.cons (r2.mono s) .nil))⟩
/-- one turn of a walk by enumerate, the list as it stands -/
theorem enum_turn {a : Addr} {xs : List D} {vs : List V} {i : Nat} (hr : HR K H m hs) (q : SqL K H a vs) (r : RDs K H m xs vs) :
    ((enumD 0 xs).length ≤ i → (Ite K a).stop i H) ∧ ∀ d, (enumD 0 xs)[i]? = some d → (Ite K a).go i H ∧ ∀ x H', (Ite K a).yld i H x H' → Stp m H m H' ∧ HR K H' m hs ∧ RD K H' m d x := by
  refine ⟨fun l => ⟨vs, q, by rw [← r.length, ← enumD_length xs 0]; exact l⟩, fun d e => ?_⟩
  rw [enumD_get] at e
  obtain ⟨x, e1, rfl⟩ := Option.map_eq_some_iff.mp e
  obtain ⟨v, e2, rv⟩ := r.get e1
  refine ⟨⟨vs, v, q, e2⟩, fun z H' y => ?_⟩
  obtain ⟨T, w, rfl, nT, rfl, y⟩ := y
  have e3 := y vs q
  rw [e2] at e3
  cases e3
  rw [Nat.zero_add]
  exact tup_new hr nT (.int _) rv
theorem enumT_turn {a : Addr} {xs : List D} {vs : List V} {i : Nat} (hr : HR K H m hs) (q : SqT K H a vs) (r : RDs K H m xs vs) :
    ((enumD 0 xs).length ≤ i → (ItuE K a).stop i H) ∧ ∀ d, (enumD 0 xs)[i]? = some d → (ItuE K a).go i H ∧ ∀ x H', (ItuE K a).yld i H x H' → Stp m H m H' ∧ HR K H' m hs ∧ RD K H' m d x := by
  refine ⟨fun l => ⟨vs, q, by rw [← r.length, ← enumD_length xs 0]; exact l⟩, fun d e => ?_⟩
  rw [enumD_get] at e
  obtain ⟨x, e1, rfl⟩ := Option.map_eq_some_iff.mp e
  obtain ⟨v, e2, rv⟩ := r.get e1
  refine ⟨⟨vs, v, q, e2⟩, fun z H' y => ?_⟩
  obtain ⟨T, w, rfl, nT, rfl, y⟩ := y
  have e3 := y vs q
  rw [e2] at e3
  cases e3
  rw [Nat.zero_add]
  exact tup_new hr nT (.int _) rv
theorem zip_len {xs ys : List D} {i : Nat} (h : (zipD xs ys).length ≤ i) : xs.length ≤ i ∨ ys.length ≤ i := by
  unfold zipD at h
  rw [List.length_zipWith] at h
  omega
theorem zip_get {xs ys : List D} {i : Nat} {d : D} (h : (zipD xs ys)[i]? = some d) : ∃ x y, xs[i]? = some x ∧ ys[i]? = some y ∧ d = .tup [x, y] := by
  unfold zipD at h
  rw [List.getElem?_zipWith] at h
  cases e1 : xs[i]? with
  | none => rw [e1] at h; cases h
  | some x =>
    cases e2 : ys[i]? with
    | none => rw [e1, e2] at h; cases h
    | some y => rw [e1, e2] at h; cases h; exact ⟨x, y, rfl, rfl, rfl⟩
theorem zip_turn {a b : Addr} {xs ys : List D} {vs us : List V} {i : Nat} (hr : HR K H m hs) (q : SqL K H a vs) (r : RDs K H m xs vs) (q2 : SqL K H b us) (r2 : RDs K H m ys us) :
    ((zipD xs ys).length ≤ i → (Itz K a b).stop i H) ∧ ∀ d, (zipD xs ys)[i]? = some d → (Itz K a b).go i H ∧ ∀ x H', (Itz K a b).yld i H x H' → Stp m H m H' ∧ HR K H' m hs ∧ RD K H' m d x := by
  refine ⟨fun l => ⟨vs, us, q, q2, by rw [← r.length, ← r2.length]; exact zip_len l⟩, fun d e => ?_⟩
  obtain ⟨x, y, e1, e2, rfl⟩ := zip_get e
  obtain ⟨v, e3, rv⟩ := r.get e1
  obtain ⟨u, e4, ru⟩ := r2.get e2
  refine ⟨⟨vs, us, v, u, q, q2, e3, e4⟩, fun z H' y => ?_⟩
  obtain ⟨T, w, w2, rfl, nT, rfl, y1, y2⟩ := y
  have e5 := y1 vs q
  rw [e3] at e5
  cases e5
  have e6 := y2 us q2
  rw [e4] at e6
  cases e6
  exact tup_new hr nT rv ru
theorem zipT_turn {a b : Addr} {xs ys : List D} {vs us : List V} {i : Nat} (hr : HR K H m hs) (q : SqT K H a vs) (r : RDs K H m xs vs) (q2 : SqT K H b us) (r2 : RDs K H m ys us) :
    ((zipD xs ys).length ≤ i → (RZ.ItzT K a b).stop i H) ∧ ∀ d, (zipD xs ys)[i]? = some d → (RZ.ItzT K a b).go i H ∧ ∀ x H', (RZ.ItzT K a b).yld i H x H' → Stp m H m H' ∧ HR K H' m hs ∧ RD K H' m d x := by
  refine ⟨fun l => ⟨vs, us, q, q2, by rw [← r.length, ← r2.length]; exact zip_len l⟩, fun d e => ?_⟩
  obtain ⟨x, y, e1, e2, rfl⟩ := zip_get e
  obtain ⟨v, e3, rv⟩ := r.get e1
  obtain ⟨u, e4, ru⟩ := r2.get e2
  refine ⟨⟨vs, us, v, u, q, q2, e3, e4⟩, fun z H' y => ?_⟩
  obtain ⟨T, w, w2, rfl, nT, rfl, y1, y2⟩ := y
  have e5 := y1 vs q
  rw [e3] at e5
  cases e5
  have e6 := y2 us q2
  rw [e4] at e6
  cases e6
  exact tup_new hr nT rv ru
theorem imp_enum {g : CA} {Q : It → Hp → Prop} (h : tI K E (iArgs kEnum g) τ H Q) : iEnumA K (tA K E g) τ H Q := by
  refine tA_mono (tI_args (τ := τ) h) fun vs H1 ⟨m, hs, ds, hr, rd, p⟩ => ?_
  unfold kEnum at p
  split at p
  · rename_i d
    cases rd with
    | cons r1 r2 =>
      cases r2
      split at p
      · rename_i xs ex
        obtain ⟨a, us, rfl, ru, st⟩ := frz_rd r1 ex
        refine ⟨a, us, rfl, .inl ⟨st m H1 hr.stp.w, p _ m H1 hr.stp hr fun i m2 H2 hs2 s2 hr2 => enum_turn hr2 (st m2 H2 s2) (ru.monoQ s2.q)⟩⟩
      · split at p
        · rename_i xs ex
          cases d with
          | tup xs' =>
            cases ex
            cases r1 with
            | tup z1 q1 => exact ⟨_, _, rfl, .inr ⟨z1.sq, p _ m H1 hr.stp hr fun i m2 H2 hs2 s2 hr2 => enumT_turn hr2 (z1.monoQ s2.q).sq (q1.monoQ s2.q)⟩⟩
          | _ => cases ex
        · split at p
          · rename_i xs ex
            obtain ⟨a, us, rfl, q, ru⟩ := lst_rd hr r1 ex
            refine ⟨a, us, rfl, .inl ⟨q, p _ m H1 hr.stp hr fun i m2 H2 hs2 ys s2 hr2 e2 => ?_⟩⟩
            obtain ⟨zs, ez, rfl⟩ := Option.map_eq_some_iff.mp e2
            obtain ⟨a', ws, ea, q2, rw'⟩ := lst_rd hr2 (r1.monoQ s2.q) ez
            cases ea
            exact enum_turn hr2 q2 rw'
          · exact p.elim
  · exact p.elim
theorem imp_zip {g : CA} {Q : It → Hp → Prop} (h : tI K E (iArgs kZip g) τ H Q) : RZ.iZipA K (tA K E g) τ H Q := by
  refine tA_mono (tI_args (τ := τ) h) fun vs H1 ⟨m, hs, ds, hr, rd, p⟩ => ?_
  unfold kZip at p
  split at p
  · rename_i d e
    cases rd with
    | cons r1 r2 =>
      cases r2 with
      | cons r2 r3 =>
        cases r3
        split at p
        · rename_i xs ys ex ey
          cases d with
          | tup xs' =>
            cases ex
            cases e with
            | tup ys' =>
              cases ey
              cases r1 with
              | tup z1 q1 =>
                cases r2 with
                | tup z2 q2 => exact ⟨_, _, _, _, rfl, .inr ⟨z1.sq, z2.sq, p _ m H1 hr.stp hr fun i m2 H2 hs2 s2 hr2 => zipT_turn hr2 (z1.monoQ s2.q).sq (q1.monoQ s2.q) (z2.monoQ s2.q).sq (q2.monoQ s2.q)⟩⟩
            | _ => cases ey
          | _ => cases ex
        · split at p
          · rename_i xs ys ex ey
            obtain ⟨a, us, rfl, ru, st⟩ := frz_rd r1 ex
            obtain ⟨b, us2, rfl, ru2, st2⟩ := frz_rd r2 ey
            exact ⟨a, b, us, us2, rfl, .inl ⟨st m H1 hr.stp.w, st2 m H1 hr.stp.w, p _ m H1 hr.stp hr fun i m2 H2 hs2 s2 hr2 => zip_turn hr2 (st m2 H2 s2) (ru.monoQ s2.q) (st2 m2 H2 s2) (ru2.monoQ s2.q)⟩⟩
          · split at p
            · rename_i xs ys ex ey
              obtain ⟨a, us, rfl, q, ru⟩ := lst_rd hr r1 ex
              obtain ⟨b, us2, rfl, q2, ru2⟩ := lst_rd hr r2 ey
              refine ⟨a, b, us, us2, rfl, .inl ⟨q, q2, p _ m H1 hr.stp hr fun i m2 H2 hs2 zs s2 hr2 e2 => ?_⟩⟩
              obtain ⟨xs1, e3, e4⟩ := Option.bind_eq_some_iff.mp e2
              obtain ⟨ys1, e5, rfl⟩ := Option.map_eq_some_iff.mp e4
              obtain ⟨a', ws, ea, q3, rw'⟩ := lst_rd hr2 (r1.monoQ s2.q) e3
              cases ea
              obtain ⟨b', ws2, eb, q4, rw2⟩ := lst_rd hr2 (r2.monoQ s2.q) e5
              cases eb
              exact zip_turn hr2 q3 rw' q4 rw2
            · exact p.elim
  · exact p.elim
end
section
variable {X : Cx} {E : XK} {e e2 : Expr} {g : CA} {p pos tpos : Pos} {elts : List Expr} {kk : Nat}
theorem i_enum (h : SA X E [e] g) (hm : X.mg "enumerate" = none) (hg : Gl X "enumerate" := by rfl) (hs : starEach [e] X.env = [(false, eval e X.env)] := by rfl) : SI X E (.Tuple elts kk tpos) (.Call (.Name "enumerate" p) [e] [] pos) (iArgs kEnum g) := PI.imp (pi_enumA hg hm h hs) fun _ _ _ => imp_enum
theorem i_zip (h : SA X E [e, e2] g) (hm : X.mg "zip" = none) (hg : Gl X "zip" := by rfl) (hs : starEach [e, e2] X.env = (false, eval e X.env) :: starEach [e2] X.env := by rfl) (hpl : (backTo pos (starEach [e2] X.env)).any (·.1) = false := by rfl) : SI X E (.Tuple elts kk tpos) (.Call (.Name "zip" p) [e, e2] [] pos) (iArgs kZip g) := PI.imp (RZ.pi_zipA hg hm h hs hpl) fun _ _ _ => imp_zip
end
end PL

set_option Elab.async false
set_option linter.all false
set_option maxRecDepth 100000
set_option maxHeartbeats 4000000
set_option autoImplicit false
namespace PL
open PySem PySem.Spec PyProof.Rows L2
/-! ## what a call leaves -/
mutual
def ltR (n : Nat) : D → Bool
  | .tup xs => ltRs n xs
  | .fl xs => ltRs n xs
  | .frz xs => ltRs n xs
  | .fd kvs => ltRk n kvs
  | .ref i => decide (i < n)
  | .exc _ v => ltR n v
  | .ins _ fs => ltRf n fs
  | .clo _ => true
  | .ft kvs => ltRt n kvs
  | .non => true
  | .bl _ => true
  | .int _ => true
  | .str _ => true
def ltRs (n : Nat) : List D → Bool
  | [] => true
  | d :: ds => ltR n d && ltRs n ds
def ltRk (n : Nat) : List (Key × D) → Bool
  | [] => true
  | (_, d) :: ds => ltR n d && ltRk n ds
def ltRf (n : Nat) : List (Nat × D) → Bool
  | [] => true
  | (_, d) :: ds => ltR n d && ltRf n ds
def ltRt (n : Nat) : List (List Key × D) → Bool
  | [] => true
  | (_, d) :: ds => ltR n d && ltRt n ds
end
def ltO (n : Nat) : Ob → Bool
  | .lst xs => ltRs n xs
  | .dct kvs => ltRk n kvs
  | .ins _ fs => ltRf n fs
  | .dcT kvs => ltRt n kvs
/-- what stands above n, frozen -/
def fzD (hs : List Ob) (n : Nat) : Nat → D → D
  | 0, d => d
  | k + 1, .tup xs => .tup (xs.map (fzD hs n k))
  | k + 1, .fl xs => .fl (xs.map (fzD hs n k))
  | k + 1, .fd kvs => .fd (kvs.map fun kv => (kv.1, fzD hs n k kv.2))
  | k + 1, .exc c v => .exc c (fzD hs n k v)
  | k + 1, .ins c fs => .ins c (fs.map fun kv => (kv.1, fzD hs n k kv.2))
  | k + 1, .ft kvs => .ft (kvs.map fun kv => (kv.1, fzD hs n k kv.2))
  | k + 1, .ref i => if i < n then .ref i else match hs[i]? with
    | some (.lst xs) => .fl (xs.map (fzD hs n k))
    | some (.dct kvs) => .fd (kvs.map fun kv => (kv.1, fzD hs n k kv.2))
    | some (.ins c fs) => .ins c (fs.map fun kv => (kv.1, fzD hs n k kv.2))
    | some (.dcT kvs) => .ft (kvs.map fun kv => (kv.1, fzD hs n k kv.2))
    | _ => .ref i
  | _, d => d
def finD (n : Nat) (d : D) (hs : List Ob) : D × List Ob :=
  if hs.length = n then (d, hs) else
    if ltR n (fzD hs n 9 d) = true ∧ (hs.take n).all (ltO n) = true then (fzD hs n 9 d, hs.take n) else (d, hs)
def startD (N : Nat) (ds : List D) : Sl := ds.map some ++ List.replicate (N - ds.length) none
def mkFn (np N : Nat) (cs : CS) : Fn := fun ds hs => if ds.length = np then match cs (startD N ds) hs with
  | .ok (.rt d) hs' => .ok (finD hs.length d hs').1 (finD hs.length d hs').2
  | .ok (.nx _) hs' => .ok .non (finD hs.length .non hs').2
  | .exn x hs' => .exn (finD hs.length x hs').1 (finD hs.length x hs').2
  | _ => .stuck else .stuck
section
variable {K : Kc} {E : XK} {H H' : Hp} {m m' : Mp} {hs hs' : List Ob} {τ : Lt} {n : Nat}
/-- a smaller map, over the same heap -/
structure Sub (m' m : Mp) (n : Nat) : Prop where
  l : m.l = m'.l.take n
  x : m.x = m'.x
  nd : m'.l.Nodup
theorem Sub.off {a : Addr} (s : Sub m' m n) (h : m'.off a) : m.off a := ⟨fun z => h.1 (List.mem_of_mem_take (s.l ▸ z)), fun z => h.2 (s.x ▸ z)⟩
theorem Sub.get {i : Nat} {a : Addr} (s : Sub m' m n) (hi : i < n) (h : m'.l[i]? = some a) : m.l[i]? = some a := by
  rw [s.l, List.getElem?_take_of_lt hi]; exact h
mutual
theorem RD.trn (s : Sub m' m n) : ∀ {d : D} {v : V}, RD K H m' d v → ltR n d = true → RD K H m d v
  | _, _, .non, _ => .non
  | _, _, .bl b, _ => .bl b
  | _, _, .int i, _ => .int i
  | _, _, .str x, _ => .str x
  | _, _, .tup h r, e => .tup (h.elim (fun h => .inl ⟨h.1, s.off h.2⟩) .inr) (RDs.trn s r (by simpa [ltR] using e))
  | _, _, .fl h ha r, e => .fl h (s.off ha) (RDs.trn s r (by simpa [ltR] using e))
  | _, _, .fd h ha r, e => .fd h (s.off ha) (RDk.trn s r (by simpa [ltR] using e))
  | _, _, .frz h r, e => .frz (h.elim (fun h => .inl ⟨h.1, s.off h.2⟩) .inr) (RDs.trn s r (by simpa [ltR] using e))
  | _, _, .ref h, e => .ref (s.get (by simpa [ltR] using e) h)
  | _, _, .exc h1 h2 o1 o2 r, e => .exc h1 h2 (s.off o1) (s.off o2) (RD.trn s r (by simpa [ltR] using e))
  | _, _, .clo k h1 h2 n1 n2 o1 o2, e => .clo k h1 h2 n1 n2 (s.off o1) (s.off o2)
  | _, _, .ins h1 h2 o1 o2 r, e => .ins h1 h2 (s.off o1) (s.off o2) (RDf.trn s r (by simpa [ltR] using e))
  | _, _, .ft h ha r, e => .ft h (s.off ha) (RDt.trn s r (by simpa [ltR] using e))
theorem RDs.trn (s : Sub m' m n) : ∀ {ds : List D} {vs : List V}, RDs K H m' ds vs → ltRs n ds = true → RDs K H m ds vs
  | _, _, .nil, _ => .nil
  | _, _, .cons h r, e => by
    simp only [ltRs, Bool.and_eq_true] at e
    exact .cons (RD.trn s h e.1) (RDs.trn s r e.2)
theorem RDk.trn (s : Sub m' m n) : ∀ {ds : List (Key × D)} {vs : List (Key × V)}, RDk K H m' ds vs → ltRk n ds = true → RDk K H m ds vs
  | _, _, .nil, _ => .nil
  | _, _, .cons h r, e => by
    simp only [ltRk, Bool.and_eq_true] at e
    exact .cons (RD.trn s h e.1) (RDk.trn s r e.2)
theorem RDf.trn (s : Sub m' m n) : ∀ {ds : List (Nat × D)} {vs : List (Str × V)}, RDf K H m' ds vs → ltRf n ds = true → RDf K H m ds vs
  | _, _, .nil, _ => .nil
  | _, _, .cons h r, e => by
    simp only [ltRf, Bool.and_eq_true] at e
    exact .cons (RD.trn s h e.1) (RDf.trn s r e.2)
theorem RDt.trn (s : Sub m' m n) : ∀ {ds : List (List Key × D)} {vs : List (List Key × V)}, RDt K H m' ds vs → ltRt n ds = true → RDt K H m ds vs
  | _, _, .nil, _ => .nil
  | _, _, .cons h r, e => by
    simp only [ltRt, Bool.and_eq_true] at e
    exact .cons (RD.trn s h e.1) (RDt.trn s r e.2)
end
/-- frozen data stand in a map without what was frozen -/
theorem RDs.mapAll {f : D → D} : ∀ {ds : List D} {vs : List V}, RDs K H m' ds vs → (∀ d v, RD K H m' d v → ltR n (f d) = true → RD K H m (f d) v) → ltRs n (ds.map f) = true → RDs K H m (ds.map f) vs
  | _, _, .nil, _, _ => .nil
  | _, _, .cons h r, q, e => by
    simp only [List.map_cons, ltRs, Bool.and_eq_true] at e
    exact .cons (q _ _ h e.1) (RDs.mapAll r q e.2)
theorem RDk.mapAll {f : D → D} : ∀ {ds : List (Key × D)} {vs : List (Key × V)}, RDk K H m' ds vs → (∀ d v, RD K H m' d v → ltR n (f d) = true → RD K H m (f d) v) → ltRk n (ds.map fun kv => (kv.1, f kv.2)) = true → RDk K H m (ds.map fun kv => (kv.1, f kv.2)) vs
  | _, _, .nil, _, _ => .nil
  | _, _, .cons h r, q, e => by
    simp only [List.map_cons, ltRk, Bool.and_eq_true] at e
    exact .cons (q _ _ h e.1) (RDk.mapAll r q e.2)
theorem RDf.mapAll {f : D → D} : ∀ {ds : List (Nat × D)} {vs : List (Str × V)}, RDf K H m' ds vs → (∀ d v, RD K H m' d v → ltR n (f d) = true → RD K H m (f d) v) → ltRf n (ds.map fun kv => (kv.1, f kv.2)) = true → RDf K H m (ds.map fun kv => (kv.1, f kv.2)) vs
  | _, _, .nil, _, _ => .nil
  | _, _, .cons h r, q, e => by
    simp only [List.map_cons, ltRf, Bool.and_eq_true] at e
    exact .cons (q _ _ h e.1) (RDf.mapAll r q e.2)
theorem RDt.mapAll {f : D → D} : ∀ {ds : List (List Key × D)} {vs : List (List Key × V)}, RDt K H m' ds vs → (∀ d v, RD K H m' d v → ltR n (f d) = true → RD K H m (f d) v) → ltRt n (ds.map fun kv => (kv.1, f kv.2)) = true → RDt K H m (ds.map fun kv => (kv.1, f kv.2)) vs
  | _, _, .nil, _, _ => .nil
  | _, _, .cons h r, q, e => by
    simp only [List.map_cons, ltRt, Bool.and_eq_true] at e
    exact .cons (q _ _ h e.1) (RDt.mapAll r q e.2)
theorem RD.froze (hr : HR K H m' hs) (s : Sub m' m n) : ∀ (k : Nat) (d : D) (v : V), RD K H m' d v → ltR n (fzD hs n k d) = true → RD K H m (fzD hs n k d) v
  | 0, d, v, r, e => by
    unfold fzD at e ⊢
    exact r.trn s e
  | k + 1, d, v, r, e => by
    have ih := RD.froze hr s k
    cases r with
    | non => exact .non
    | bl b => exact .bl b
    | int i => exact .int i
    | str x => exact .str x
    | tup h r =>
      unfold fzD at e ⊢
      exact .tup (h.elim (fun h => .inl ⟨h.1, s.off h.2⟩) .inr) (r.mapAll ih (by simpa [ltR] using e))
    | fl h ha r =>
      unfold fzD at e ⊢
      exact .fl h (s.off ha) (r.mapAll ih (by simpa [ltR] using e))
    | fd h ha r =>
      unfold fzD at e ⊢
      exact .fd h (s.off ha) (r.mapAll ih (by simpa [ltR] using e))
    | frz h r => exact (RD.frz h r).trn s (by simpa [fzD] using e)
    | exc h1 h2 o1 o2 r =>
      unfold fzD at e ⊢
      exact .exc h1 h2 (s.off o1) (s.off o2) (ih _ _ r (by simpa [ltR] using e))
    | clo k h1 h2 n1 n2 o1 o2 => exact (RD.clo k h1 h2 n1 n2 o1 o2).trn s (by simpa [fzD] using e)
    | ins h1 h2 o1 o2 r =>
      unfold fzD at e ⊢
      exact .ins h1 h2 (s.off o1) (s.off o2) (r.mapAll ih (by simpa [ltR] using e))
    | ft h ha r =>
      unfold fzD at e ⊢
      exact .ft h (s.off ha) (r.mapAll ih (by simpa [ltR] using e))
    | @ref a i h =>
      unfold fzD at e ⊢
      by_cases hi : i < n
      · rw [if_pos hi]
        exact .ref (s.get hi h)
      · rw [if_neg hi] at e ⊢
        have off : m.off a := by
          refine ⟨fun z => ?_, fun z => (hr.hid a (s.x ▸ z)).2 (List.mem_of_getElem? h)⟩
          rw [s.l] at z
          obtain ⟨j, hj⟩ := List.getElem?_of_mem z
          rw [List.getElem?_take] at hj
          split at hj
          · have := nd_ix s.nd hj h
            omega
          · cases hj
        cases ex : hs[i]? with
        | none => rw [ex] at e; simp [ltR, hi] at e
        | some o =>
          rw [ex] at e
          have ro := hr.ob _ _ _ ex h
          cases o with
          | lst xs =>
            obtain ⟨vs, hv, rv⟩ := ro
            exact .fl hv off (rv.mapAll ih (by simpa [ltR] using e))
          | dct xs =>
            obtain ⟨vs, hv, rv⟩ := ro
            exact .fd hv off (rv.mapAll ih (by simpa [ltR] using e))
          | ins c fs =>
            obtain ⟨dx, vs, hv, hd, od, rv⟩ := ro
            exact .ins hv hd off (s.off od) (rv.mapAll ih (by simpa [ltR] using e))
          | dcT xs =>
            obtain ⟨vs, hv, rv⟩ := ro
            exact .ft hv off (rv.mapAll ih (by simpa [ltR] using e))
theorem Sub.hr (s : Sub m' m n) (hr : HR K H m' hs) (fr : ∀ p ∈ K.r, RSl K H m p.1 p.2) (hn : n ≤ hs.length) (h : (hs.take n).all (ltO n) = true) : HR K H m (hs.take n) := by
  refine ⟨?_, by rw [s.l]; exact s.nd.sublist (List.take_sublist _ _), fun i o a h1 h2 => ?_, fun a ha => ⟨(hr.hid a (s.x ▸ ha)).1, fun z => (hr.hid a (s.x ▸ ha)).2 (List.mem_of_mem_take (s.l ▸ z))⟩, hr.tab, fun p hp => fr p hp⟩
  · rw [s.l, List.length_take, List.length_take, hr.len]
  · have lo : ltO n o = true := List.all_eq_true.mp h o (List.mem_of_getElem? h1)
    have hi : i < n := by
      have := (List.getElem?_eq_some_iff.mp h1).1
      rw [List.length_take] at this
      omega
    rw [List.getElem?_take_of_lt hi] at h1
    rw [s.l, List.getElem?_take_of_lt hi] at h2
    have ro := hr.ob i o a h1 h2
    cases o with
    | lst xs =>
      obtain ⟨vs, hv, rv⟩ := ro
      exact ⟨vs, hv, rv.trn s lo⟩
    | dct xs =>
      obtain ⟨vs, hv, rv⟩ := ro
      exact ⟨vs, hv, rv.trn s lo⟩
    | ins c fs =>
      obtain ⟨dx, vs, hv, hd, od, rv⟩ := ro
      exact ⟨dx, vs, hv, hd, s.off od, rv.trn s lo⟩
    | dcT xs =>
      obtain ⟨vs, hv, rv⟩ := ro
      exact ⟨vs, hv, rv.trn s lo⟩
theorem Stp.sub (hr : HR K H m hs) (s : Stp m H m' H') (nd : m'.l.Nodup) : Sub m' m hs.length ∧ Stp m H m H' := by
  obtain ⟨t, e, n⟩ := s.ext
  refine ⟨⟨by rw [e, ← hr.len, List.take_left], s.hx.symm, nd⟩, ⟨⟨[], by simp⟩, rfl, s.kp, fun a ha => s.liv a (by rw [e]; exact List.mem_append_left _ ha), s.st⟩⟩
theorem Stp.long (hr : HR K H m hs) (s : Stp m H m' H') (hr' : HR K H' m' hs') : hs.length ≤ hs'.length := by
  obtain ⟨t, e, n⟩ := s.ext
  rw [← hr.len, ← hr'.len, e, List.length_append]
  omega
theorem rx_froze {x : D} {c : Value} {od : Option Addr} (hr : HR K H m' hs) (s : Sub m' m n) (r : RX K H m' x c od) (e : ltR n (fzD hs n 9 x) = true) : RX K H m (fzD hs n 9 x) c od := by
  cases x with
  | exc nm v =>
    obtain ⟨e1, d, w, e2, o, h, r⟩ := r
    refine ⟨e1, d, w, e2, s.off o, h, RD.froze hr s 8 v w r ?_⟩
    simpa [fzD, ltR] using e
  | _ => exact r.elim
theorem start_ok {N : Nat} {ds : List D} {vs : List V} (rd : RDs K H m ds vs) : RSl K H m (startD N ds) (vs.map some ++ List.replicate (N - vs.length) none) := by
  refine ⟨?_, fun i d e => ?_⟩
  · simp [startD, rd.length]
  · unfold startD at e
    by_cases hi : i < ds.length
    · rw [List.getElem?_append_left (by simpa using hi), List.getElem?_map] at e
      obtain ⟨d', e1, e2⟩ := Option.map_eq_some_iff.mp e
      cases e2
      obtain ⟨v, hv, r⟩ := rd.get e1
      refine ⟨v, ?_, r⟩
      rw [List.getElem?_append_left (by rw [List.length_map, ← rd.length]; exact hi), List.getElem?_map, hv]
      rfl
    · rw [List.getElem?_append_right (by simpa using hi), List.getElem?_replicate] at e
      split at e <;> cases e
theorem mk_ok {np N : Nat} {cs : CS} {ds : List D} {vs : List V} {Q : VK} (hr : HR K H m hs) (rd : RDs K H m ds vs) (p : Post K E m H (mkFn np N cs ds hs) Q) :
    tS K E cs { nx := fun _ H' => Q .non H', rt := Q, bk := fun _ _ => False, ct := fun _ _ => False } (vs.map some ++ List.replicate (N - vs.length) none) H := by
  unfold mkFn at p
  obtain ⟨c, p⟩ := p.ite
  refine ⟨m, startD N ds, hs, hr, start_ok rd, ?_⟩
  · cases ec : cs (startD N ds) hs with
    | stuck => rw [ec] at p; exact p.elim
    | exn x hs1 =>
      rw [ec] at p
      intro c od m1 H1 s1 hr1 rx
      dsimp only at p
      unfold finD at p
      split at p
      · exact p c od m1 H1 s1 hr1 rx
      · split at p
        · rename_i q
          obtain ⟨sb, st⟩ := s1.sub hr hr1.nd
          exact p c od m H1 st (sb.hr hr1 (fun p hp => (hr.fr p hp).mono st) (s1.long hr hr1) q.2) (rx_froze hr1 sb rx q.1)
        · exact p c od m1 H1 s1 hr1 rx
    | ok f hs1 =>
      rw [ec] at p
      cases f with
      | rt d =>
        intro v m1 H1 s1 hr1 r1
        dsimp only at p
        unfold finD at p
        split at p
        · exact p v m1 H1 s1 hr1 r1
        · split at p
          · rename_i q
            obtain ⟨sb, st⟩ := s1.sub hr hr1.nd
            exact p v m H1 st (sb.hr hr1 (fun p hp => (hr.fr p hp).mono st) (s1.long hr hr1) q.2) (RD.froze hr1 sb 9 d v r1 q.1)
          · exact p v m1 H1 s1 hr1 r1
      | nx σ1 =>
        intro τ1 m1 H1 s1 hr1 r1
        dsimp only at p
        unfold finD at p
        split at p
        · exact p .non m1 H1 s1 hr1 .non
        · split at p
          · rename_i q
            obtain ⟨sb, st⟩ := s1.sub hr hr1.nd
            exact p .non m H1 st (sb.hr hr1 (fun p hp => (hr.fr p hp).mono st) (s1.long hr hr1) q.2) .non
          · exact p .non m1 H1 s1 hr1 .non
      | bk σ1 => exact p.elim
      | ct σ1 => exact p.elim
/-- as mkFn, nothing frozen -/
def mkFn0 (np N : Nat) (cs : CS) : Fn := fun ds hs => if ds.length = np then match cs (startD N ds) hs with
  | .ok (.rt d) hs' => .ok d hs'
  | .ok (.nx _) hs' => .ok .non hs'
  | .exn x hs' => .exn x hs'
  | _ => .stuck else .stuck
theorem mk_ok0 {np N : Nat} {cs : CS} {ds : List D} {vs : List V} {Q : VK} (hr : HR K H m hs) (rd : RDs K H m ds vs) (p : Post K E m H (mkFn0 np N cs ds hs) Q) :
    tS K E cs { nx := fun _ H' => Q .non H', rt := Q, bk := fun _ _ => False, ct := fun _ _ => False } (vs.map some ++ List.replicate (N - vs.length) none) H := by
  unfold mkFn0 at p
  obtain ⟨c, p⟩ := p.ite
  refine ⟨m, startD N ds, hs, hr, start_ok rd, ?_⟩
  cases ec : cs (startD N ds) hs with
  | stuck => rw [ec] at p; exact p.elim
  | exn x hs1 => rw [ec] at p; exact p
  | ok f hs1 =>
    rw [ec] at p
    cases f with
    | rt d => exact p
    | nx σ1 => exact fun τ1 m1 H1 s1 hr1 r1 => p .non m1 H1 s1 hr1 .non
    | bk σ1 => exact p.elim
    | ct σ1 => exact p.elim
end
end PL

set_option Elab.async false
set_option linter.all false
set_option maxRecDepth 100000
set_option maxHeartbeats 4000000
set_option autoImplicit false
namespace PL
open PySem PySem.Spec PyProof.Rows L2
/-! ## defs over data -/
/-- tables as they are due, no closure of a number below q -/
structure EOk (T : List (Addr × Str)) (q : Nat) (E : XK) : Prop where
  t : E.t = T
  c : ∀ n, n < q → ∀ a b, E.c n a b = none
  fa : ∀ n a b o, E.c n a b = some o → ∃ φ, o.1 = .ext φ ∧ ∀ h, φ h → PySem.W.FnAt a h
theorem EOk.le {T : List (Addr × Str)} {p q : Nat} {E : XK} (h : EOk T q E) (l : p ≤ q) : EOk T p E := ⟨h.t, fun n hn => h.c n (Nat.lt_of_lt_of_le hn l), h.fa⟩
theorem EOk.e0 {T : List (Addr × Str)} {q : Nat} {X : Cx} {E : XK} (h : EOk T q E) : EOk T q (E0 (kc X E)) := ⟨h.t, h.c, h.fa⟩
/-- a def keeps to a function of data (no repr is under way) -/
structure FnG (P : Program) (w : World) (K : PySem.W.Frag) (mg : Str → Option Value) (base : Heap) (T : List (Addr × Str)) (q : Nat) (k : Nat) (f : Addr) (fd : FuncData) (ps : List Str) (fn : Fn) : Prop where
  go : ∀ (A : Around) (outer : List Env) (s : Shared) (args : Args) (us : List Value) (vs : List V) (m : Mp) (H : Hp) (hs : List Ob) (ds : List D) (Q : VK) (E : XK), EOk T q E → Room k A → A.guards = some [] → Env0 P w K mg base A outer s H → BindsTo s fd args (ps.zip us) →
    us.length = ps.length → Vals vs us → HR ⟨K, E.c, E.t, E.r⟩ H m hs → RDs ⟨K, E.c, E.t, E.r⟩ H m ds vs → Post ⟨K, E.c, E.t, E.r⟩ E m H (fn ds hs) Q → codeAny (model P w) A (.call (.ref f) args) (CR (L2.CX P w) outer P w H s Q E.e) s
  len : ∀ (ds : List D) (hs : List Ob), fn ds hs ≠ .stuck → ds.length = ps.length
theorem FnG.mono {P : Program} {w : World} {K : PySem.W.Frag} {mg : Str → Option Value} {base : Heap} {T : List (Addr × Str)} {q j k : Nat} {f : Addr} {fd : FuncData} {ps : List Str} {fn : Fn} (F : FnG P w K mg base T q j f fd ps fn) (h : j ≤ k) : FnG P w K mg base T q k f fd ps fn :=
  ⟨fun A outer s args us vs m H hs ds Q E ht r => F.go A outer s args us vs m H hs ds Q E ht (r.mono h), F.len⟩
/-- the context of a def's body -/
abbrev cxG (P : Program) (w : World) (K : PySem.W.Frag) (mg : Str → Option Value) (base : Heap) (N : List Str) (qual : Str) (scope : Scope) (f : Addr) (cdv : Value) (A : Around) (outer : List Env) (s : Shared) (H : Hp) (E : XK) : Cx :=
  cxOf (L2.CX P w) P w K mg base N qual scope f cdv A outer s H E.e
theorem pass_cx {P : Program} {w : World} {K : PySem.W.Frag} {mg : Str → Option Value} {base : Heap} {N : List Str} {qual : Str} {scope : Scope} {f : Addr} {cdv : Value} {A : Around} {outer : List Env} {s : Shared} {H : Hp} {E : XK} :
    Passes (L2.CX P w) (cxG P w K mg base N qual scope f cdv A outer s H E) E.e :=
  passes_call (X := cxG P w K mg base N qual scope f cdv A outer s H E) (takes_of (E := E.e) rfl rfl rfl rfl) fun _ _ _ _ h => h
theorem FnG.ofS {P : Program} {w : World} {K : PySem.W.Frag} {mg : Str → Option Value} {base : Heap} {T : List (Addr × Str)} {q : Nat} {k : Nat} {x qual : Str} {params : Arguments} {body : List Stmt} {scope : Scope} {dvs : List V} {kws : List (Str × V)} {f : Addr} {fd : FuncData}
    {N ps : List Str} {cs : CS} {fn : Fn} (F : FunD K x qual params body scope dvs kws f fd) (S : FnScope N ps scope) (hlen : ∀ (ds : List D) (hs : List Ob), fn ds hs ≠ .stuck → ds.length = ps.length)
    (hmk : ∀ (E : XK) (m : Mp) (H : Hp) (hs : List Ob) (ds : List D) (vs : List V) (Q : VK), HR ⟨K, E.c, E.t, E.r⟩ H m hs → RDs ⟨K, E.c, E.t, E.r⟩ H m ds vs → Post ⟨K, E.c, E.t, E.r⟩ E m H (fn ds hs) Q → tS ⟨K, E.c, E.t, E.r⟩ E cs { nx := fun _ H' => Q .non H', rt := Q, bk := fun _ _ => False, ct := fun _ _ => False } (start N vs) H)
    (hb : ∀ (cdv : Value) (A : Around) (outer : List Env) (s : Shared) (H : Hp) (E : XK), EOk T q E → Room k (A.deeper (envOfC qual scope s.heap.objs.size f cdv)) → (A.deeper (envOfC qual scope s.heap.objs.size f cdv)).guards = some [] →
      SSs (cxG P w K mg base N qual scope f cdv A outer s H E) E body cs) : FnG P w K mg base T q (k + 1) f fd ps fn := by
  obtain ⟨oc, od, dV, kV, doc, pm, an, cdv, ct, osl, rfl, lk, hcd, _, _⟩ := F.ex
  refine ⟨fun A outer s args us vs m H hs ds Q E ht room hg e0 bind hul rel hr rd p => ?_, hlen⟩
  have hvl : vs.length = ps.length := by rw [rel.length]; exact hul
  have kin : K.In s.heap := e0.mod.kin.keeps fun b o e => (e0.bs b o e).1
  have nl : s.heap.NoLimit := e0.mod.nolimit.keeps fun b o e => (e0.bs b o e).1
  have kinds : ∀ y ∈ ps.zip us, scope.names.lookup y.1 = some .local ∨ (scope.names.lookup y.1 = some .cell ∧ ((cellsFrom (s.heap.objs.size + 1) scope.names []).lookup y.1).isSome = true) := by
    rintro ⟨y1, y2⟩ hy
    rcases S.par y1 (List.of_mem_zip hy).1 with q | q
    · exact .inl q
    · exact .inr ⟨q, PySem.W.cellsFrom_some _ _ _ (.inl q)⟩
  refine codeAny_call_function room.depth (kin _ _ lk) rfl S.co S.gen rfl (PySem.W.codeRec_of kin hcd) (bind _ _ _ _ (wpAny_newFunctionEnv_cells S.kind kinds fun env henv s1 ic => ?_))
  subst henv
  refine ⟨nl.keeps ic.toInCall.keep, codeAny_func ?_⟩
  have I : Inv (cxG P w K mg base N qual scope f cdv A outer s H E) [] (start N vs) H s1 := inv_start S room.hd e0 hvl rel ic
  have q := hmk E m H hs ds vs Q hr rd p
  refine wpAny_mono ((hb cdv A outer s H E ht (room.deeper _) hg).run [] s1 (start N vs) H _ I q) (fun fl s2 h => ?_) fun e s2 h => h
  cases fl with
  | ret u => obtain ⟨v, σ2, H2, J, rv, q2⟩ := h; exact ⟨v, H2, J.os, J.bare, J.base, J.hok, rv, q2⟩
  | next => obtain ⟨σ2, H2, J, q2⟩ := h; exact ⟨.non, H2, J.os, J.bare, J.base, J.hok, rfl, q2⟩
  | brk => obtain ⟨_, _, _, q2⟩ := h; exact q2.elim
  | cont => obtain ⟨_, _, _, q2⟩ := h; exact q2.elim
section
variable {P : Program} {w : World} {K : PySem.W.Frag} {mg : Str → Option Value} {base : Heap} {T : List (Addr × Str)} {q : Nat} {k : Nat} {x qual : Str} {params : Arguments} {body : List Stmt} {scope : Scope} {dvs : List V} {kws : List (Str × V)} {f : Addr} {fd : FuncData} {N ps : List Str} {cs : CS}
theorem FnG.of (F : FunD K x qual params body scope dvs kws f fd) (S : FnScope N ps scope)
    (hb : ∀ (cdv : Value) (A : Around) (outer : List Env) (s : Shared) (H : Hp) (E : XK), EOk T q E → Room k (A.deeper (envOfC qual scope s.heap.objs.size f cdv)) → (A.deeper (envOfC qual scope s.heap.objs.size f cdv)).guards = some [] →
      SSs (cxG P w K mg base N qual scope f cdv A outer s H E) E body cs) : FnG P w K mg base T q (k + 1) f fd ps (mkFn ps.length N.length cs) :=
  FnG.ofS F S (fun ds hs h => Decidable.byContradiction fun z => h (by unfold mkFn; rw [if_neg z])) (fun E m H hs ds vs Q hr rd p => mk_ok hr rd p) hb
theorem FnG.of0 (F : FunD K x qual params body scope dvs kws f fd) (S : FnScope N ps scope)
    (hb : ∀ (cdv : Value) (A : Around) (outer : List Env) (s : Shared) (H : Hp) (E : XK), EOk T q E → Room k (A.deeper (envOfC qual scope s.heap.objs.size f cdv)) → (A.deeper (envOfC qual scope s.heap.objs.size f cdv)).guards = some [] →
      SSs (cxG P w K mg base N qual scope f cdv A outer s H E) E body cs) : FnG P w K mg base T q (k + 1) f fd ps (mkFn0 ps.length N.length cs) :=
  FnG.ofS F S (fun ds hs h => Decidable.byContradiction fun z => h (by unfold mkFn0; rw [if_neg z])) (fun E m H hs ds vs Q hr rd p => mk_ok0 hr rd p) hb
end
/-- a def that stands by its name -/
structure Cal (P : Program) (w : World) (K : PySem.W.Frag) (mg : Str → Option Value) (base : Heap) (T : List (Addr × Str)) (q : Nat) (k : Nat) (x : Str) (params : Arguments) (ps : List Str) (fn : Fn) : Prop where
  ex : ∃ (f : Addr) (fd : FuncData) (nm qual : Str) (body : List Stmt) (scope : Scope), FnG P w K mg base T q k f fd ps fn ∧ mg x = some (.ref f) ∧ FunD K nm qual params body scope [] [] f fd
theorem Cal.mono {P : Program} {w : World} {K : PySem.W.Frag} {mg : Str → Option Value} {base : Heap} {T : List (Addr × Str)} {q j k : Nat} {x : Str} {params : Arguments} {ps : List Str} {fn : Fn} (c : Cal P w K mg base T q j x params ps fn) (h : j ≤ k) : Cal P w K mg base T q k x params ps fn := by
  obtain ⟨f, fd, nm, q, b, sc, G, g, F⟩ := c.ex
  exact ⟨f, fd, nm, q, b, sc, G.mono h, g, F⟩
/-- all parameters by place -/
def BindN (params : Arguments) (ps : List Str) : Prop := ∀ (x qual : Str) (body : List Stmt) (scope : Scope) (kV doc pm : Value) (an : Option Addr) (cdv ct : Value) (us : List Value), us.length = ps.length →
  bindArgs (PySem.W.fnOf x qual params body scope .none kV doc pm an cdv ct) ⟨us, []⟩ = pure (ps.zip us)
def reord {α : Type} (pm : List Nat) (xs : List α) : List α := pm.filterMap fun i => xs[i]?
/-- n by place, then the keywords ks -/
def BindK (params : Arguments) (ps ks : List Str) (n : Nat) (pr : List Nat) : Prop := ∀ (x qual : Str) (body : List Stmt) (scope : Scope) (kV doc pm : Value) (an : Option Addr) (cdv ct : Value) (us ws : List Value), us.length = n → ws.length = ks.length →
  bindArgs (PySem.W.fnOf x qual params body scope .none kV doc pm an cdv ct) ⟨us, ks.zip ws⟩ = pure (ps.zip (reord pr (us ++ ws)))
theorem vals_get {vs : List V} {us : List Value} (r : Vals vs us) (i : Nat) : (vs[i]? = none ∧ us[i]? = none) ∨ ∃ v u, vs[i]? = some v ∧ us[i]? = some u ∧ RelV v u := by
  cases e : vs[i]? with
  | none =>
    refine .inl ⟨rfl, ?_⟩
    rw [List.getElem?_eq_none_iff] at e ⊢
    rw [← r.length]; exact e
  | some v =>
    obtain ⟨u, h1, h2⟩ := r.get e
    exact .inr ⟨v, u, rfl, h1, h2⟩
theorem vals_reord {vs : List V} {us : List Value} (r : Vals vs us) : ∀ pr : List Nat, Vals (reord pr vs) (reord pr us)
  | [] => .nil
  | i :: pr => by
    have ih := vals_reord r pr
    unfold reord at ih ⊢
    rcases vals_get r i with ⟨e1, e2⟩ | ⟨v, u, e1, e2, rv⟩
    · rw [List.filterMap_cons_none e1, List.filterMap_cons_none e2]; exact ih
    · rw [List.filterMap_cons_some e1, List.filterMap_cons_some e2]; exact .cons rv ih
section
variable {K : Kc} {E : XK} {H : Hp} {m : Mp} {hs : List Ob} {τ : Lt}
theorem rds_reord {ds : List D} {vs : List V} (r : RDs K H m ds vs) : ∀ pr : List Nat, RDs K H m (reord pr ds) (reord pr vs)
  | [] => .nil
  | i :: pr => by
    have ih := rds_reord r pr
    unfold reord at ih ⊢
    cases e : ds[i]? with
    | none =>
      have e2 : vs[i]? = none := by
        rw [List.getElem?_eq_none_iff] at e ⊢
        rw [← r.length]; exact e
      rw [List.filterMap_cons_none e, List.filterMap_cons_none e2]; exact ih
    | some d =>
      obtain ⟨v, e2, rv⟩ := r.get e
      rw [List.filterMap_cons_some e, List.filterMap_cons_some e2]; exact .cons rv ih
end
/-- the callee runs -/
theorem call_g {X : Cx} {T : List (Addr × Str)} {q : Nat} {k : Nat} {f : Addr} {fd : FuncData} {ps : List Str} {fn : Fn} {E : XK} {pins : List (Addr × Obj)} {σ : L2.St} {H : Hp} {s : Shared} {Q : VK} {args : Args} {us : List Value} {vs : List V} {m : Mp} {hs : List Ob} {ds : List D}
    (G : FnG X.prog X.w X.K X.mg X.base T q k f fd ps fn) (ht : EOk T q E) (room : Room k X.A) (hg : X.A.guards = some []) (hx : Passes (L2.CX X.prog X.w) X E.e) (I : Inv X pins σ H s) (b : BindsTo s fd args (ps.zip us)) (hl : us.length = ps.length) (rel : Vals vs us)
    (hr : HR (kc X E) H m hs) (rd : RDs (kc X E) H m ds vs) (p : Post (kc X E) E m H (fn ds hs) Q) : wpAny (model X.prog X.w) X.A (call (.ref f) args.pos args.kw) (EP X pins σ Q) X.xe s := by
  refine wpAny_call (codeAny_mono (G.go X.A X.stack s args us vs m H hs ds Q E ht room hg I.env0 b hl rel hr rd p) fun r s2 h => ?_)
  cases r with
  | error e => exact hx pins σ H s e s2 I h
  | ok fl => cases fl with
    | ret u => exact I.after h
    | next => exact h.elim
    | brk => exact h.elim
    | cont => exact h.elim
end PL

set_option Elab.async false
set_option linter.all false
set_option maxRecDepth 100000
set_option maxHeartbeats 4000000
set_option autoImplicit false
namespace PL
open PySem PySem.Spec PyProof.Rows L2
theorem post_len {K : Kc} {E : XK} {m : Mp} {H : Hp} {r : R D} {Q : VK} (p : Post K E m H r Q) : r ≠ .stuck := fun z => by rw [z] at p; exact p
theorem FunD.bindG {K : PySem.W.Frag} {x qual : Str} {params : Arguments} {body : List Stmt} {scope : Scope} {f : Addr} {fd : FuncData} {ps : List Str} (F : FunD K x qual params body scope [] [] f fd) (b : BindN params ps) (s : Shared) (us : List Value) (hl : us.length = ps.length) :
    BindsTo s fd ⟨us, []⟩ (ps.zip us) := F.bindsA (fun kV doc pm an cdv ct us h => b _ _ _ _ kV doc pm an cdv ct us h) s us hl
theorem FunD.bindKG {K : PySem.W.Frag} {x qual : Str} {params : Arguments} {body : List Stmt} {scope : Scope} {f : Addr} {fd : FuncData} {ps ks : List Str} {n : Nat} {pr : List Nat} (F : FunD K x qual params body scope [] [] f fd) (b : BindK params ps ks n pr) (s : Shared) (us ws : List Value)
    (hl : us.length = n) (hk : ws.length = ks.length) : BindsTo s fd ⟨us, ks.zip ws⟩ (ps.zip (reord pr (us ++ ws))) := by
  obtain ⟨oc, od, dV, kV, doc, pm, an, cdv, ct, osl, rfl, lk, hcd, hD, hK⟩ := F.ex
  rcases hD with ⟨_, rfl⟩ | ⟨e, _⟩
  · exact .of_eq (b _ _ _ _ kV doc pm an cdv ct us ws hl hk)
  · exact absurd rfl e
section
variable {X : Cx} {E : XK} {T : List (Addr × Str)} {q : Nat} {k : Nat} {x : Str} {params : Arguments} {ps ks : List Str} {fn : Fn} {p pos : Pos} {e : Expr} {es : List Expr} {g gk : CA} {kws : List Keyword} {n : Nat} {pr : List Nat}
/-- f(e, ..) -/
theorem s_call (c : Cal X.prog X.w X.K X.mg X.base T q k x params ps fn) (ht : EOk T q E) (room : Room k X.A) (hgd : X.A.guards = some []) (hx : Passes (L2.CX X.prog X.w) X E.e) (bn : BindN params ps) (ha : SA X E (e :: es) g) (hg : Gl X x := by rfl)
    (hdb : (x == ("__debug__" : Str)) = false := by decide) (he : starEach (e :: es) X.env = (false, eval e X.env) :: starEach es X.env := by rfl) (hpl : (backTo pos (starEach es X.env)).any (·.1) = false := by rfl) :
    SE X E (.Call (.Name x p) (e :: es) [] pos) (cF fn g) := by
  obtain ⟨f, fd, nm, qual, body, scope, G, gx, F⟩ := c.ex
  refine ⟨fun pins s σ H Q I h => wpAny_Call_Name_kw (ld_glob I hg gx (PySem.W.callWith_K (h₀ := X.base) I.ok.mod.kin F.kp (thn (ha.run pos pins s σ H _ I (tE_args (τ := σ) h)) fun us s1 ⟨vs, H1, I1, r, m, hs, ds, hr, rd, q⟩ => ⟨I1.kIn, ?_⟩) he hpl) hdb)⟩
  have hl : us.length = ps.length := by rw [← r.length, ← rd.length]; exact G.len ds hs (post_len q)
  exact call_g G ht room hgd hx I1 (FunD.bindG F bn s1 us hl) hl r hr rd q
/-- f() -/
theorem s_call0 (c : Cal X.prog X.w X.K X.mg X.base T q k x params ps fn) (ht : EOk T q E) (room : Room k X.A) (hgd : X.A.guards = some []) (hx : Passes (L2.CX X.prog X.w) X E.e) (bn : BindN params ps) (hg : Gl X x := by rfl)
    (hdb : (x == ("__debug__" : Str)) = false := by decide) : SE X E (.Call (.Name x p) [] [] pos) (cF fn cNil) := by
  obtain ⟨f, fd, nm, qual, body, scope, G, gx, F⟩ := c.ex
  refine ⟨fun pins s σ H Q I ⟨m, τ, hs, hr, rs, q⟩ => wpAny_Call_Name_kw (ld_glob I hg gx (PySem.W.callWith_K0 I.kIn F.kp ?_) hdb)⟩
  have hl : ([] : List Value).length = ps.length := G.len [] hs (post_len q)
  exact call_g G ht room hgd hx I (FunD.bindG F bn s [] hl) hl .nil hr .nil q
/-- the keywords' values, from the left -/
structure SK (X : Cx) (E : XK) (kws : List Keyword) (g : CA) : Prop where
  pk : PK X kws (tA (kc X E) E g)
theorem PK.imp {t t' : TA} (h : PK X kws t) (i : ∀ σ H Q, t' σ H Q → t σ H Q) : PK X kws t' := ⟨fun pos pins s σ H Q I q => h.run pos pins s σ H Q I (i σ H Q q)⟩
theorem k_nil : SK X E [] cNil := ⟨PK.imp pk_nil fun τ H Q ⟨m, σ, hs, hr, rs, p⟩ => PostA.here hr .nil p⟩
theorem k_cons {nm : Option Str} {kpos : Pos} {f : CE} (ha : SE X E e f) (hb : SK X E kws g) : SK X E (⟨nm, e, kpos⟩ :: kws) (cCons f g) := ⟨PK.imp (pk_cons ha hb.pk) fun _ _ _ => imp_cons⟩
def cCallK (n nk : Nat) (pr : List Nat) (fn : Fn) (g gk : CA) : CE := fun σ hs => (g σ hs).bind fun ds hs => (gk σ hs).bind fun es hs => if ds.length = n ∧ es.length = nk then fn (reord pr (ds ++ es)) hs else .stuck
theorem kw_use {K : Kc} {H : Hp} {m : Mp} {hs : List Ob} {σ : Sl} {τ : Lt} {ds : List D} {vs : List V} {n nk : Nat} {Q : VK} (hr : HR K H m hs) (rs : RSl K H m σ τ) (rd : RDs K H m ds vs)
    (p : Post K E m H ((gk σ hs).bind fun es hs => if ds.length = n ∧ es.length = nk then fn (reord pr (ds ++ es)) hs else .stuck) Q) :
    tA K E gk τ H fun zs H1 => ∃ m hs es, HR K H1 m hs ∧ RDs K H1 m ds vs ∧ RDs K H1 m es zs ∧ ds.length = n ∧ es.length = nk ∧ Post K E m H1 (fn (reord pr (ds ++ es)) hs) Q := by
  refine ⟨m, σ, hs, hr, rs, ?_⟩
  cases e1 : gk σ hs with
  | stuck => rw [e1] at p; exact p.elim
  | exn y hs1 => rw [e1] at p; exact p
  | ok es hs1 =>
    rw [e1, bind_ok] at p
    obtain ⟨c, p⟩ := p.ite
    exact fun zs m1 H1 s1 hr1 r1 => ⟨m1, hs1, es, hr1, rd.mono s1, r1, c.1, c.2, Post.step s1 p⟩
/-- f(k = v, ..) -/
theorem s_callK0 (c : Cal X.prog X.w X.K X.mg X.base T q k x params ps fn) (ht : EOk T q E) (room : Room k X.A) (hgd : X.A.guards = some []) (hx : Passes (L2.CX X.prog X.w) X E.e) (ks : List Str) (pr : List Nat) (bk : BindK params ps ks 0 pr) (hkw : SK X E kws gk) (hg : Gl X x := by rfl)
    (hall : (backToKw pos (keywordEach kws X.env)).all (·.1.isSome) = true := by rfl) (hks : (backToKw pos (keywordEach kws X.env)).filterMap (·.1) = ks := by rfl) (hdb : (x == ("__debug__" : Str)) = false := by decide)
    (hpl : ((backTo pos (starEach [] X.env)).any (·.1) || (backToKw pos (keywordEach kws X.env)).any (·.1.isNone)) = false := by rfl) :
    SE X E (.Call (.Name x p) [] kws pos) (cCallK 0 ks.length pr fn cNil gk) := by
  obtain ⟨f, fd, nm, qual, body, scope, G, gx, F⟩ := c.ex
  refine ⟨fun pins s σ H Q I ⟨m, τ, hs, hr, rs, q⟩ => wpAny_Call_Name_kw (ld_glob I hg gx (PySem.W.callWith_KW0 (h₀ := X.base) I.ok.mod.kin F.kp hall ?_ hpl) hdb)⟩
  refine thn (hkw.pk.run pos pins s σ H _ I (kw_use hr rs .nil q)) fun ws s2 ⟨zs, H2, I2, rz, m2, hs2, es, hr2, rn, rd, ln, lk, q3⟩ => ⟨I2.kIn, ?_⟩
  rw [hks]
  have hn : (reord pr ([] ++ es)).length = ps.length := G.len _ hs2 (post_len q3)
  have hw : (reord pr ([] ++ ws)).length = ps.length := by rw [← (vals_reord (Vals.append .nil rz) pr).length, ← (rds_reord (RDs.append .nil rd) pr).length]; exact hn
  exact call_g G ht room hgd hx I2 (FunD.bindKG F bk s2 [] ws rfl (by rw [← rz.length, ← rd.length]; exact lk)) hw (vals_reord (Vals.append .nil rz) pr) hr2 (rds_reord (RDs.append .nil rd) pr) q3
/-- f(e, .., k = v, ..) -/
theorem s_callK (c : Cal X.prog X.w X.K X.mg X.base T q k x params ps fn) (ht : EOk T q E) (room : Room k X.A) (hgd : X.A.guards = some []) (hx : Passes (L2.CX X.prog X.w) X E.e) (ks : List Str) (n : Nat) (pr : List Nat) (bk : BindK params ps ks n pr) (ha : SA X E (e :: es) g) (hkw : SK X E kws gk) (hg : Gl X x := by rfl)
    (hall : (backToKw pos (keywordEach kws X.env)).all (·.1.isSome) = true := by rfl) (hks : (backToKw pos (keywordEach kws X.env)).filterMap (·.1) = ks := by rfl) (hdb : (x == ("__debug__" : Str)) = false := by decide)
    (he : starEach (e :: es) X.env = (false, eval e X.env) :: starEach es X.env := by rfl) (hpl : ((backTo pos (starEach (e :: es) X.env)).any (·.1) || (backToKw pos (keywordEach kws X.env)).any (·.1.isNone)) = false := by rfl) :
    SE X E (.Call (.Name x p) (e :: es) kws pos) (cCallK n ks.length pr fn g gk) := by
  obtain ⟨f, fd, nm, qual, body, scope, G, gx, F⟩ := c.ex
  refine ⟨fun pins s σ H Q I ⟨m, τ, hs, hr, rs, q⟩ => wpAny_Call_Name_kw (ld_glob I hg gx (PySem.W.callWith_KW (h₀ := X.base) I.ok.mod.kin F.kp hall (thn (ha.run pos pins s σ H (fun vs H1 => tA (kc X E) E gk σ H1 fun zs H2 => ∃ m hs ds es, HR (kc X E) H2 m hs ∧ RDs (kc X E) H2 m ds vs ∧ RDs (kc X E) H2 m es zs ∧ ds.length = n ∧ es.length = ks.length ∧ Post (kc X E) E m H2 (fn (reord pr (ds ++ es)) hs) Q) I ?_) fun us s1 ⟨vs, H1, I1, r, q1⟩ => ?_) hpl he) hdb)⟩
  · refine ⟨m, τ, hs, hr, rs, ?_⟩
    unfold cCallK at q
    cases e1 : g τ hs with
    | stuck => rw [e1] at q; exact q.elim
    | exn y hs1 => rw [e1] at q; exact q
    | ok ds hs1 =>
      rw [e1, bind_ok] at q
      exact fun vs m1 H1 s1 hr1 r1 => tA_mono (kw_use hr1 (rs.mono s1) r1 (Post.step s1 q)) fun zs H2 ⟨m2, hs2, es, a, b, c, d, e, f⟩ => ⟨m2, hs2, ds, es, a, b, c, d, e, f⟩
  · refine thn (hkw.pk.run pos pins s1 σ H1 _ I1 q1) fun ws s2 ⟨zs, H2, I2, rz, m2, hs2, ds, es, hr2, rd1, rd, ln, lk, q3⟩ => ⟨I2.kIn, ?_⟩
    rw [hks]
    have hn : (reord pr (ds ++ es)).length = ps.length := G.len _ hs2 (post_len q3)
    have hw : (reord pr (us ++ ws)).length = ps.length := by rw [← (vals_reord (r.append rz) pr).length, ← (rds_reord (rd1.append rd) pr).length]; exact hn
    exact call_g G ht room hgd hx I2 (FunD.bindKG F bk s2 us ws (by rw [← r.length, ← rd1.length]; exact ln) (by rw [← rz.length, ← rd.length]; exact lk)) hw (vals_reord (r.append rz) pr) hr2 (rds_reord (rd1.append rd) pr) q3
end
end PL

set_option Elab.async false
set_option linter.all false
set_option maxRecDepth 100000
set_option maxHeartbeats 4000000
set_option autoImplicit false
namespace PL
open PySem PySem.Spec PyProof.Rows L2
/-! ## a law's end -/
/-- the tables of code objects of the defs that make closures -/
structure TabsAt (K : PySem.W.Frag) (h : Heap) (cs : List (Addr × Addr)) : Prop where
  at0 : ∀ p ∈ cs, h.get? p.2 = some { cls := .none, data := .fields #[] }
  off : ∀ p ∈ cs, K.lookup p.2 = none
  hd : ∀ p ∈ cs, PySem.W.CodeHd h p.1 p.2
def MainMod (mg : Str → Option Value) (h : Heap) : Prop := ∃ (bm : Addr) (ob : Obj), mg "__builtins__" = some (.ref bm) ∧ bm ≠ builtinsNs ∧ h.get? bm = some ob ∧ ob.cls = .type "module" ∧ ob.dict = some builtinsNs ∧ ob.data = .plain
/-- from a heap in which nothing but the script and the tables may be told -/
theorem law_core {P : Program} {w : World} {K : PySem.W.Frag} {mg mb : Str → Option Value} {k : Nat} {fa a : Addr} {fd : FuncData} {x : Str} {fn : Fn} {s₁ : Shared} {vs : List Value} {ns : List Int} {H : Hp} {hs : List Ob} {cs : List (Addr × Addr)} {T : List (Addr × Str)} {q : Nat}
    (KX : K.In s₁.heap) (gl : s₁.heap.Ns mainGlobals mg) (bl : s₁.heap.Ns builtinsNs mb) (bb : ∀ x : Str, x ≠ "__name__" → mb x = bootBuiltins x) (nl : s₁.heap.NoLimit) (gens : s₁.gens = #[])
    (tc : TabsAt K s₁.heap cs) (hbm : MainMod mg s₁.heap) (hTs : ∀ p ∈ T, p.1 ∈ cs.map (·.2)) (atT : ∀ b ∈ cs.map (·.2), H b = some (.tbl #[]))
    (ha : s₁.heap.get? a = some { cls := .type "list", data := .seq vs.toArray }) (room : Room k callerA) (F : ∀ base : Heap, K.In base → base.Ns mainGlobals mg → (∀ p ∈ cs, LamX.TabB base mg p.1 p.2) → FnG P w K mg base T q k fa fd [x] fn)
    (bind : ∀ (s : Shared) (u : Value), BindsTo s fd ⟨[u], []⟩ [(x, u)]) (ans : fn [.frz (ns.map D.int)] [] = .ok (.bl true) hs)
    (fz : FzS K H ⟨[], []⟩ a (ns.map V.int)) (hok : HOk P w H s₁.heap) (only : ∀ b u, H b = some u → (b = a ∧ ∃ o xs, u = .frz o (.lst xs)) ∨ b ∈ cs.map (·.2)) (lone : H a ≠ none → K.lookup a = none) :
    codeAny (model P w) callerA (.call (.ref fa) ⟨[.ref a], []⟩) (fun r s' => r = .ok (.ret (.bool true)) ∧ OldK s₁.heap s'.heap ∧ s'.os = s₁.os ∧ AllBare s'.gens) s₁ := by
  have tabO : ∀ b ∈ cs.map (·.2), s₁.heap.get? b = some { cls := .none, data := .fields #[] } := fun b hb => by
    obtain ⟨p, hp, rfl⟩ := List.mem_map.mp hb
    exact tc.at0 p hp
  -- an object that is no list and no empty record is not told
  have free : ∀ b o, s₁.heap.get? b = some o → (∀ ws n, o.data ≠ .seq ws n) → o.data ≠ .fields #[] → H b = none := fun b o e h1 h2 => by
    cases q : H b with
    | none => rfl
    | some u =>
      rcases only b u q with ⟨z, _⟩ | z
      · subst z
        rw [ha] at e; cases e
        exact absurd rfl (h1 _ _)
      · rw [tabO b z] at e; cases e
        exact absurd rfl h2
  have stay : ∀ b o, s₁.heap.get? b = some o → H b = none → (hidT s₁.heap H).get? b = some o := fun b o e z => hidT_get e z
  have nsK : ∀ {b : Addr} {m : Str → Option Value}, s₁.heap.Ns b m → (hidT s₁.heap H).Ns b m := by
    rintro b m ⟨o, es, ep, e, d, r⟩
    refine ⟨o, es, ep, stay b o e (free b o e (fun ws n z => ?_) fun z => ?_), d, r⟩
    · rw [d] at z; cases z
    · rw [d] at z; cases z
  have kb : K.In (hidT s₁.heap H) := fun b o e => stay b o (KX b o e) (by
    cases q : H b with
    | none => rfl
    | some u =>
      rcases only b u q with ⟨z, _⟩ | z
      · subst z
        rw [lone (by rw [q]; exact fun z => by cases z)] at e; cases e
      · obtain ⟨p, hp, rfl⟩ := List.mem_map.mp z
        rw [tc.off p hp] at e; cases e)
  have md : Mod K mg (hidT s₁.heap H) := ⟨kb, nsK gl, ⟨mb, nsK bl, bb⟩, by obtain ⟨mc, h1, h2⟩ := nl; exact ⟨mc, nsK h1, h2⟩⟩
  have e0 : Env0 P w K mg (hidT s₁.heap H) callerA [] s₁ H := ⟨rfl, md, fun b o e => of_hidT e, Nat.le_of_eq (hidT_size _ _), trivial, fun b hb => absurd (show b ∈ ([] : List Addr) from hb) (by simp), hok, AllBare.of_eq gens⟩
  have tb : ∀ p ∈ cs, LamX.TabB (hidT s₁.heap H) mg p.1 p.2 := fun p hp => by
    refine ⟨?_, ?_, fun z => ?_⟩
    · obtain ⟨o, us, file, tf, flags, tg, inF, text, tt, e1, r1, r2, r3, r4⟩ := tc.hd p hp
      refine ⟨o, us, file, tf, flags, tg, inF, text, tt, stay _ o e1 (free _ o e1 (fun ws n z => ?_) fun z => ?_), r1, r2, r3, r4⟩
      · rw [r2] at z; cases z
      · rw [r2] at z; cases z
        simp at r3
    · obtain ⟨bm, ob, b1, b2, b3, b4, b5, b6⟩ := hbm
      refine ⟨bm, ob, b1, b2, fun q => ?_, fun q => ?_, stay _ ob b3 (free _ ob b3 (fun ws n z => ?_) fun z => ?_), b4, b5, b6⟩
      · obtain ⟨o, es, ep, e, d, _⟩ := gl
        rw [q, e] at b3; cases b3
        rw [d] at b6; cases b6
      · rw [q, tc.at0 p hp] at b3; cases b3
        cases b6
      · rw [b6] at z; cases z
      · rw [b6] at z; cases z
    · obtain ⟨o, es, ep, e, d, _⟩ := gl
      rw [z, tc.at0 p hp] at e; cases e
      cases d
  have hr : HR ⟨K, fun _ _ _ => none, T, []⟩ H ⟨[], []⟩ [] := ⟨rfl, List.nodup_nil, fun i o a h => by simp at h, fun a h => absurd h (by simp), fun p hp => LamX.TabS.nil (atT _ (hTs p hp)), fun p hp => absurd hp (by simp)⟩
  refine codeAny_mono ((F _ kb (nsK gl) tb).go callerA [] s₁ ⟨[.ref a], []⟩ [.ref a] [.ref a] ⟨[], []⟩ H [] [.frz (ns.map D.int)] (fun v _ => v = .bl true) ⟨fun _ _ _ => False, fun _ _ _ => none, T, []⟩ ⟨rfl, fun _ _ _ _ => rfl, fun _ _ _ _ z => nomatch z⟩ room rfl e0 (bind s₁ (.ref a)) rfl (.cons rfl .nil) hr (.cons (.frz fz (rds_int ns)) .nil) ?_) fun r s2 h => ?_
  · rw [ans]
    exact fun v m' H' _ _ r => rd_bl r
  · cases r with
    | error e =>
      obtain ⟨_, _, _, _, _, _, _, _, _, _, _, _, z⟩ := h
      exact z.elim
    | ok fl => cases fl with
      | next => exact h.elim
      | brk => exact h.elim
      | cont => exact h.elim
      | ret u =>
        obtain ⟨v, H2, os, bare, un, hok2, ru, hv⟩ := h
        have hv2 : v = .bl true := hv
        subst hv2
        have hu : u = Value.bool true := ru
        subst hu
        have old : ∀ b o, b ∉ cs.map (·.2) → s₁.heap.get? b = some o → s2.heap.get? b = some o := fun b o nb e => by
          cases q : H b with
          | none => exact un.keep b o e q (fun z => absurd (show b ∈ ([] : List Addr) from z) (by simp)) (by simp)
          | some u =>
            rcases only b u q with ⟨_, ob, xs, rfl⟩ | z
            · have q2 := un.frzs b ob _ q
              have g1 := (hok b _ q).1
              have g2 := (hok2 b _ q2).1
              rw [e] at g1
              cases g1
              exact g2
            · exact absurd z nb
        have grown : ∀ b ∈ cs.map (·.2), ∃ more : Array Value, s2.heap.get? b = some { cls := .none, data := .fields more } := fun b hb => by
          obtain ⟨more, z⟩ := un.tbls b #[] (atT b hb)
          exact ⟨_, hok2 b _ z⟩
        refine ⟨rfl, ⟨fun b o e => ?_, fun b o e => ?_⟩, os, bare⟩
        · by_cases hb : b ∈ cs.map (·.2)
          · obtain ⟨more, hm⟩ := grown b hb
            obtain ⟨p, hp, rfl⟩ := List.mem_map.mp hb
            rw [tc.at0 p hp] at e; cases e
            exact .inr (.inl ⟨((tc.hd p hp).tab (tc.at0 p hp)).isCodeTable, rfl, #[], more, rfl, by rw [Array.empty_append]; exact hm⟩)
          · exact .inl (old b o hb e)
        · by_cases hb : b ∈ cs.map (·.2)
          · obtain ⟨more, hm⟩ := grown b hb
            exact ⟨_, hm⟩
          · exact ⟨o, old b o hb e⟩
theorem walk_g {l : PySem.W.OpenLaw} {n k : Nat} {qp : Program} {loose : List Str} {XP : (Str → Option Value) → Heap → Prop} {YP : World → Heap → Prop} {d : DefRec} (x : Str)
    (hn : l.most = some n) (hn2 : n ≤ sizeLine) (hdf : d.params.defaults = []) (room : Room k callerA)
    (F : ∀ (w : World) (mg : Str → Option Value) (fa : Addr) (h : Heap), YP w h → h.Ns mainGlobals mg → mg d.name = some (.ref fa) → ∃ (K : PySem.W.Frag) (fd : FuncData) (fn : Fn) (cs : List (Addr × Addr)) (T : List (Addr × Str)) (q : Nat), K.In h ∧ TabsAt K h cs ∧ (∀ p ∈ T, p.1 ∈ cs.map (·.2)) ∧ (∀ (s : Shared) (u : Value), BindsTo s fd ⟨[u], []⟩ [(x, u)]) ∧
      (∀ ns : List Int, ns.length ≤ n → (∀ z ∈ ns, Builtin.Int.intBits z ≤ 1048576) → ∃ hs, fn [.frz (ns.map D.int)] [] = .ok (.bl true) hs) ∧ ∀ base : Heap, K.In base → base.Ns mainGlobals mg → (∀ p ∈ cs, LamX.TabB base mg p.1 p.2) → FnG l.prog w K mg base T q k fa fd [x] fn) :
    PySem.W.WalkO qp loose XP YP l.row.toRowW d [] (fun f vs => PySem.call f vs) := by
  refine Att.attach_callB hn hdf fun w s₀ s₁ mg mb fa o pm cd doc a vs ns G Y ho hd hcd hmg hobj hi hlen hbits hg => ?_
  obtain ⟨K, fd, fn, cs, T, nq, KX, tc, hTs, hb, hans, hF⟩ := F w mg fa _ Y G.T.g hmg
  obtain ⟨hs, ans⟩ := hans ns hlen hbits
  have rv := vals_ints hi
  have hl : ns.length ≤ sizeLine := Nat.le_trans hlen hn2
  have tabO : ∀ b ∈ cs.map (·.2), s₁.heap.get? b = some { cls := .none, data := .fields #[] } := fun b hb => by
    obtain ⟨p, hp, rfl⟩ := List.mem_map.mp hb
    exact tc.at0 p hp
  have na : a ∉ cs.map (·.2) := fun z => by
    have q := tabO a z
    rw [hobj] at q
    exact absurd (congrArg Obj.data (Option.some.inj q)) (fun z => by cases z)
  cases hk : K.lookup a with
  | some oa =>
    have e := KX a oa hk
    rw [hobj] at e
    cases e
    refine law_core (H := fun b => if b ∈ cs.map (·.2) then some (.tbl #[]) else none) KX G.T.g G.T.b G.T.builtins G.T.nolimit hg tc G.T.bmain hTs (fun b hb => if_pos hb) hobj room hF hb ans (.inr ⟨_, vs.toArray, _, hk, rfl, rfl, rfl, by rw [List.size_toArray, hi.length]; exact hl, by simpa using rv⟩) (fun b u z => ?_) (fun b u z => ?_) fun z => absurd (if_neg na) z
    · by_cases hc : b ∈ cs.map (·.2)
      · have z2 := (if_pos hc).symm.trans z
        cases z2
        exact tabO b hc
      · exact nomatch (if_neg hc).symm.trans z
    · by_cases hc : b ∈ cs.map (·.2)
      · exact .inr hc
      · exact nomatch (if_neg hc).symm.trans z
  | none =>
    refine law_core (H := fun b => if b = a then some (.frz { cls := .type "list", data := .seq vs.toArray } (.lst (ns.map V.int))) else if b ∈ cs.map (·.2) then some (.tbl #[]) else none) KX G.T.g G.T.b G.T.builtins G.T.nolimit hg tc G.T.bmain hTs
      (fun b hb => (if_neg (show b ≠ a from fun z => na (by rw [← z]; exact hb))).trans (if_pos hb)) hobj room hF hb ans (.inl ⟨⟨_, if_pos rfl⟩, (fun z => nomatch z), fun z => nomatch z⟩) (fun b u z => ?_) (fun b u z => ?_) fun _ => hk
    · by_cases e : b = a
      · subst e
        have z2 := (if_pos rfl).symm.trans z
        cases z2
        exact ⟨hobj, by rw [List.length_map]; exact hl, vs, _, rv, hobj⟩
      · have z1 := (if_neg e).symm.trans z
        by_cases hc : b ∈ cs.map (·.2)
        · have z2 := (if_pos hc).symm.trans z1
          cases z2
          exact tabO b hc
        · exact nomatch (if_neg hc).symm.trans z1
    · by_cases e : b = a
      · exact .inl ⟨e, _, _, (Option.some.inj ((if_pos e).symm.trans z)).symm⟩
      · have z1 := (if_neg e).symm.trans z
        by_cases hc : b ∈ cs.map (·.2)
        · exact .inr hc
        · exact nomatch (if_neg hc).symm.trans z1
end PL

set_option Elab.async false
set_option linter.all false
set_option maxRecDepth 100000
set_option maxHeartbeats 4000000
set_option autoImplicit false
namespace PL
open PySem PySem.Spec PyProof.Rows L2
/-! ## constants of the top -/
def conAll (c : Value → D → Bool) : List Value → List D → Bool
  | [], [] => true
  | u :: us, d :: ds => c u d && conAll c us ds
  | _, _ => false
def conB (K : PySem.W.Frag) : Nat → Value → D → Bool
  | 0, _, _ => false
  | n + 1, u, d => match d, u with
    | .non, .none => true
    | .bl b, .bool c => b == c
    | .int i, .int j _ => decide (j = i)
    | .str x, .str y _ => decide (y = x)
    | .tup ds, .ref a => match K.lookup a with
      | some ⟨.type c, _, .seq its _, _⟩ => decide (c = "tuple") && (decide (its.size ≤ sizeLine) && conAll (conB K n) its.toList ds)
      | _ => false
    | _, _ => false
def Con (K : PySem.W.Frag) (u : Value) (d : D) : Prop := ∃ v, RelV v u ∧ ∀ c t r H m, RD ⟨K, c, t, r⟩ H m d v
section
variable {K : PySem.W.Frag}
theorem conAll_ok {n : Nat} (ih : ∀ u d, conB K n u d = true → Con K u d) : ∀ (us : List Value) (ds : List D), conAll (conB K n) us ds = true → ∃ vs, Vals vs us ∧ ∀ c t r H m, RDs ⟨K, c, t, r⟩ H m ds vs
  | [], [], _ => ⟨[], .nil, fun _ _ _ _ _ => .nil⟩
  | [], _ :: _, h => by cases h
  | _ :: _, [], h => by cases h
  | u :: us, d :: ds, h => by
    obtain ⟨h1, h2⟩ := Bool.and_eq_true_iff.mp (show (conB K n u d && conAll (conB K n) us ds) = true from h)
    obtain ⟨v, r, q⟩ := ih u d h1
    obtain ⟨vs, rs, qs⟩ := conAll_ok ih us ds h2
    exact ⟨v :: vs, .cons r rs, fun c t r H m => .cons (q c t r H m) (qs c t r H m)⟩
theorem conB_ok : ∀ (n : Nat) (u : Value) (d : D), conB K n u d = true → Con K u d
  | 0, _, _, h => by cases h
  | n + 1, u, d, h => by
    unfold conB at h
    split at h
    · exact ⟨.non, rfl, fun _ _ _ _ _ => .non⟩
    · rename_i b c
      have e : b = c := by simpa using h
      subst e
      exact ⟨.bl b, rfl, fun _ _ _ _ _ => .bl b⟩
    · rename_i i j t
      have e := of_decide_eq_true h
      subst e
      exact ⟨.int j, ⟨t, rfl⟩, fun _ _ _ _ _ => .int j⟩
    · rename_i x y t
      have e := of_decide_eq_true h
      subst e
      exact ⟨.str y, ⟨t, rfl⟩, fun _ _ _ _ _ => .str y⟩
    · rename_i ds a
      split at h
      · rename_i c od its m sl hk
        obtain ⟨h1, h2⟩ := Bool.and_eq_true_iff.mp h
        obtain ⟨h3, h4⟩ := Bool.and_eq_true_iff.mp h2
        obtain ⟨vs, rv, q⟩ := conAll_ok (conB_ok n) its.toList ds h4
        exact ⟨.ref a, rfl, fun c t r H mp => .tup (.inr ⟨_, its, m, hk, congrArg Value.type (of_decide_eq_true h1), rfl, of_decide_eq_true h3, rv⟩) (q c t r H mp)⟩
      · cases h
    · cases h
end
def conG (K : PySem.W.Frag) (q : Str × D) : Bool := match PySem.W.nsIn K mainGlobals q.1 with
  | some (some u) => conB K 6 u q.2
  | _ => false
theorem gc_of {K : PySem.W.Frag} {h : Heap} {mg : Str → Option Value} {x : Str} {d : D} (X : K.In h) (G : h.Ns mainGlobals mg) (c : conG K (x, d) = true) : GC K mg x d := by
  unfold conG at c
  dsimp only at c
  split at c
  · rename_i u e
    obtain ⟨v, r, q⟩ := conB_ok 6 u d c
    exact ⟨u, v, PySem.W.mg_of X G e, r, q⟩
  · cases c
/-! ## what the head looks at -/
def obsG (fa : List He.Fa) (fn : List He.DefD) (cs : List (Str × D)) (K : PySem.W.Frag) : Bool × He.AlD := (cs.all (conG K), He.obsD fa fn K)
def hookG (n : Nat) (fa : List He.Fa) (fn : List He.DefD) (cs : List (Str × D)) : PySem.W.Hook where
  α := Bool × He.AlD
  obs := fun s => obsG fa fn cs (He.frG s.heap.get? (He.asD s.heap.get? n))
  val := fun _ => (true, He.valD fn)
  says := fun _ h => ∃ K : PySem.W.Frag, K.In h ∧ obsG fa fn cs K = (true, He.valD fn)
  of := fun _ _ e => ⟨_, He.frG_in, e⟩
  keeps := fun _ _ _ ⟨K, hK, c⟩ k => ⟨K, PySem.W.Frag.In.keeps hK k, c⟩
def lookG (n : Nat) (fa : List He.Fa) (fn : List He.DefD) (cs : List (Str × D)) (g : Addr → Option Obj) : Bool × He.AlD := obsG fa fn cs (He.frG g (He.asD g n))
theorem lookG_eq {n : Nat} {fa : List He.Fa} {fn : List He.DefD} {cs : List (Str × D)} {g : Addr → Option Obj} {s : Shared} (h : ∀ a, g a = s.heap.get? a) : lookG n fa fn cs g = (hookG n fa fn cs).obs s := by
  have e : g = s.heap.get? := funext h
  rw [e] <;> rfl
structure SaysG (fa : List He.Fa) (fn : List He.DefD) (cs : List (Str × D)) (K : PySem.W.Frag) (mg : Str → Option Value) (h : Heap) : Prop where
  kin : K.In h
  gl : h.Ns mainGlobals mg
  d : He.SaysD fa fn K
  c : cs.all (conG K) = true
theorem SaysG.of {fa : List He.Fa} {fn : List He.DefD} {cs : List (Str × D)} {K : PySem.W.Frag} {mg : Str → Option Value} {h : Heap} (X : K.In h) (G : h.Ns mainGlobals mg) (e : obsG fa fn cs K = (true, He.valD fn)) : SaysG fa fn cs K mg h :=
  ⟨X, G, congrArg (fun z : Bool × He.AlD => z.2) e, congrArg (fun z : Bool × He.AlD => z.1) e⟩
section
variable {fa : List He.Fa} {fn : List He.DefD} {cs : List (Str × D)} {K : PySem.W.Frag} {mg : Str → Option Value} {h : Heap}
theorem SaysG.con (s : SaysG fa fn cs K mg h) (i : Nat) {x : Str} {d : D} (e : cs[i]? = some (x, d) := by rfl) : GC K mg x d :=
  gc_of s.kin s.gl (List.all_eq_true.mp s.c (x, d) (List.mem_of_getElem? e))
theorem SaysG.free (s : SaysG fa fn cs K mg h) (i : Nat) {x : Str} (e : fa[i]? = some (.free x) := by rfl) : mg x = none := He.free_ok s.kin s.gl (s.d.fact i e)
theorem SaysG.cal {P : Program} {w : World} {base : Heap} {T : List (Addr × Str)} {q : Nat} {k : Nat} {ps : List Str} {f : Fn} (s : SaysG fa fn cs K mg h) (i : Nat) {x nm qual : Str} {params : Arguments} {body : List Stmt} {scope : Scope} (ed : fn[i]? = some ⟨(x, none), nm, qual, params, body, scope, [], []⟩)
    (j : Nat) (ef : fa[j]? = some (.glo x)) (ok : ∀ {f' : Addr} {fd : FuncData}, FunD K nm qual params body scope [] [] f' fd → FnG P w K mg base T q k f' fd ps f) : Cal P w K mg base T q k x params ps f := by
  obtain ⟨fd, F⟩ := s.d.def_ i ed
  exact ⟨_, fd, nm, qual, body, scope, ok F, He.glo_ok s.kin s.gl (s.d.fact j ef), F⟩
end
/-! ## the built-in names -/
structure Bl (mg : Str → Option Value) : Prop where
  len : mg "len" = none
  abs : mg "abs" = none
  int : mg "int" = none
  bool : mg "bool" = none
  str : mg "str" = none
  max : mg "max" = none
  min : mg "min" = none
  sum : mg "sum" = none
  all : mg "all" = none
  any : mg "any" = none
  list : mg "list" = none
  tuple : mg "tuple" = none
  dict : mg "dict" = none
  range : mg "range" = none
  isinstance : mg "isinstance" = none
  repr : mg "repr" = none
  sorted : mg "sorted" = none
  enumerate : mg "enumerate" = none
  zip : mg "zip" = none
def blF : List He.Fa := [.free "len", .free "abs", .free "int", .free "bool", .free "str", .free "max", .free "min", .free "sum", .free "all", .free "any", .free "list", .free "tuple", .free "dict", .free "range", .free "isinstance", .free "repr", .free "sorted", .free "enumerate", .free "zip"]
theorem bl_of {gl : List He.Fa} {fn : List He.DefD} {cs : List (Str × D)} {K : PySem.W.Frag} {mg : Str → Option Value} {h : Heap} (s : SaysG (blF ++ gl) fn cs K mg h) : Bl mg :=
  ⟨s.free 0, s.free 1, s.free 2, s.free 3, s.free 4, s.free 5, s.free 6, s.free 7, s.free 8, s.free 9, s.free 10, s.free 11, s.free 12, s.free 13, s.free 14, s.free 15, s.free 16, s.free 17, s.free 18⟩
/-- what is never reached -/
def cNever : CS := fun _ _ => .stuck
theorem x_never {X : Cx} {E : XK} {st : Stmt} : SS X E st cNever := PS.imp ps_never fun D τ H ⟨m, σ, hs, hr, rs, p⟩ => p
/-- the law's def by name gives what walk_g asks -/
theorem law_end {P : Program} {w : World} {K : PySem.W.Frag} {mg : Str → Option Value} {h : Heap} {k : Nat} {x p : Str} {params : Arguments} {fn : Fn} {f0 : Addr} {cs : List (Addr × Addr)} {T : List (Addr × Str)} {q : Nat} (tc : TabsAt K h cs) (hT : ∀ p ∈ T, p.1 ∈ cs.map (·.2))
    (c : ∀ base : Heap, (∀ p ∈ cs, LamX.TabB base mg p.1 p.2) → Cal P w K mg base T q k x params [p] fn) (F0 : ∃ (fd : FuncData) (nm qual : Str) (body : List Stmt) (scope : Scope), mg x = some (.ref (He.ga K x)) ∧ FunD K nm qual params body scope [] [] (He.ga K x) fd) (e : mg x = some (.ref f0)) (b : BindN params [p]) (kin : K.In h)
    (ans : ∀ ns : List Int, ns.length ≤ 63 → (∀ z ∈ ns, Builtin.Int.intBits z ≤ 1048576) → ∃ hs, fn [.frz (ns.map D.int)] [] = .ok (.bl true) hs) :
    ∃ (K : PySem.W.Frag) (fd : FuncData) (fn : Fn) (cs : List (Addr × Addr)) (T : List (Addr × Str)) (q : Nat), K.In h ∧ TabsAt K h cs ∧ (∀ p ∈ T, p.1 ∈ cs.map (·.2)) ∧ (∀ (s : Shared) (u : Value), BindsTo s fd ⟨[u], []⟩ [(p, u)]) ∧ (∀ ns : List Int, ns.length ≤ 63 → (∀ z ∈ ns, Builtin.Int.intBits z ≤ 1048576) → ∃ hs, fn [.frz (ns.map D.int)] [] = .ok (.bl true) hs) ∧
      ∀ base : Heap, K.In base → base.Ns mainGlobals mg → (∀ p ∈ cs, LamX.TabB base mg p.1 p.2) → FnG P w K mg base T q k f0 fd [p] fn := by
  obtain ⟨fd, nm, ql, body, sc, g, F⟩ := F0
  rw [e] at g
  cases g
  refine ⟨K, fd, fn, cs, T, q, kin, tc, hT, fun s u => FunD.bindG F b s [u] rfl, ans, fun base _ _ tb => ?_⟩
  obtain ⟨f2, fd2, nm2, q2, body2, sc2, G2, g2, F2⟩ := (c base tb).ex
  rw [e] at g2
  cases g2
  obtain ⟨_, _, _, _, _, _, _, _, _, _, e1, l1, _⟩ := F.ex
  obtain ⟨_, _, _, _, _, _, _, _, _, _, e2, l2, _⟩ := F2.ex
  rw [l1] at l2
  cases l2
  exact G2
end PL

set_option Elab.async false
set_option linter.all false
set_option maxRecDepth 100000
set_option maxHeartbeats 4000000
set_option autoImplicit false
namespace PL
open PySem PySem.Spec PyProof.Rows L2
/-! ## reckoning -/
section
variable {σ : Sl} {hs : List Ob} {f g c : CE} {d e : D}
@[simp] theorem cK_v : cK d σ hs = .ok d hs := rfl
@[simp] theorem cV_v {i : Nat} (h : σ[i]? = some (some d)) : cV i σ hs = .ok d hs := by unfold cV; rw [h]
@[simp] theorem c1_v {k : D → List Ob → R D} : c1 k f σ hs = (f σ hs).bind fun x hs => k x hs := rfl
@[simp] theorem c2_v {k : D → D → List Ob → R D} : c2 k f g σ hs = (f σ hs).bind fun x hs => (g σ hs).bind fun y hs => k x y hs := rfl
@[simp] theorem cF_v {k : List D → List Ob → R D} {a : CA} : cF k a σ hs = (a σ hs).bind fun ds hs => k ds hs := rfl
@[simp] theorem cNil_v : cNil σ hs = .ok [] hs := rfl
@[simp] theorem cCons_v {a : CA} : cCons f a σ hs = (f σ hs).bind fun x hs => (a σ hs).bind fun xs hs => .ok (x :: xs) hs := rfl
def bIf {α : Type} (x : D) (a b : R α) : R α := match x with
  | .bl true => a
  | .bl false => b
  | _ => .stuck
@[simp] theorem bIf_bl {α : Type} {b : Bool} {x y : R α} : bIf (.bl b) x y = if b = true then x else y := by cases b <;> rfl
@[simp] theorem cAnd_v : cAnd f g σ hs = (f σ hs).bind fun x hs => bIf x (g σ hs) (.ok (.bl false) hs) := by
  unfold cAnd bIf; congr 1
@[simp] theorem cOr_v : cOr f g σ hs = (f σ hs).bind fun x hs => bIf x (.ok (.bl true) hs) (g σ hs) := by
  unfold cOr bIf; congr 1
@[simp] theorem cIf_v : cIf c f g σ hs = (c σ hs).bind fun x hs => bIf x (f σ hs) (g σ hs) := by
  unfold cIf bIf; congr 1
@[simp] theorem cIfS_v {a b : CS} : cIfS c a b σ hs = (c σ hs).bind fun x hs => bIf x (a σ hs) (b σ hs) := by
  unfold cIfS bIf; congr 1
@[simp] theorem cRet_v : cRet f σ hs = (f σ hs).bind fun d hs => .ok (.rt d) hs := rfl
@[simp] theorem cRetN_v : cRetN σ hs = .ok (.rt .non) hs := rfl
@[simp] theorem cDrop_v : cDrop f σ hs = (f σ hs).bind fun _ hs => .ok (.nx σ) hs := rfl
@[simp] theorem cNext_v : cNext σ hs = .ok (.nx σ) hs := rfl
@[simp] theorem cSet_nm {i : Nat} : cSet (.nm i) f σ hs = (f σ hs).bind fun d hs => .ok (.nx (σ.set i (some d))) hs := rfl
def nxt (r : R Fl) (k : Sl → List Ob → R Fl) : R Fl := r.bind fun f hs => match f with
  | .nx σ => k σ hs
  | f => .ok f hs
@[simp] theorem nxt_nx {k : Sl → List Ob → R Fl} : nxt (.ok (.nx σ) hs) k = k σ hs := rfl
@[simp] theorem nxt_rt {k : Sl → List Ob → R Fl} : nxt (.ok (.rt d) hs) k = .ok (.rt d) hs := rfl
@[simp] theorem nxt_if {p : Prop} [Decidable p] {a b : R Fl} {k : Sl → List Ob → R Fl} : nxt (if p then a else b) k = if p then nxt a k else nxt b k := by
  by_cases h : p <;> simp [h]
@[simp] theorem cSeq_v {a b : CS} : cSeq a b σ hs = nxt (a σ hs) b := rfl
@[simp] theorem bind_if {α β : Type} {p : Prop} [Decidable p] {a b : R α} {k : α → List Ob → R β} : (if p then a else b).bind k = if p then a.bind k else b.bind k := by
  by_cases h : p <;> simp [h]
@[simp] theorem kNot_v {b : Bool} : kNot (.bl b) hs = .ok (.bl (!b)) hs := rfl
@[simp] theorem kAdd_v {a b : Int} : kAdd (.int a) (.int b) hs = .ok (.int (a + b)) hs := rfl
@[simp] theorem kSub_v {a b : Int} : kSub (.int a) (.int b) hs = .ok (.int (a - b)) hs := rfl
theorem kMul_v {a b : Int} (h : mulOk a b = true) : kMul (.int a) (.int b) hs = .ok (.int (a * b)) hs := by simp [kMul, h]
theorem kDiv_v {a b : Int} (h : 0 < b) (h2 : b.natAbs.log2 < 9000) : kDiv (.int a) (.int b) hs = .ok (.int (a / b)) hs := by simp [kDiv, h, h2]
theorem kMod_v {a b : Int} (h : 0 < b) : kMod (.int a) (.int b) hs = .ok (.int (a % b)) hs := by simp [kMod, h]
@[simp] theorem kNeg_v {a : Int} : kNeg (.int a) hs = .ok (.int (-a)) hs := rfl
@[simp] theorem kLt_v {a b : Int} : kLt (.int a) (.int b) hs = .ok (.bl (decide (a < b))) hs := rfl
@[simp] theorem kLe_v {a b : Int} : kLe (.int a) (.int b) hs = .ok (.bl (decide (a ≤ b))) hs := rfl
@[simp] theorem kGt_v {a b : Int} : kGt (.int a) (.int b) hs = .ok (.bl (decide (b < a))) hs := rfl
@[simp] theorem kGe_v {a b : Int} : kGe (.int a) (.int b) hs = .ok (.bl (decide (b ≤ a))) hs := rfl
@[simp] theorem kAbs_v {a : Int} : kAbs (.int a) hs = .ok (.int (a.natAbs : Int)) hs := by
  unfold kAbs
  dsimp only
  congr 2
  split <;> omega
@[simp] theorem kInt_v {a : Int} : kInt (.int a) hs = .ok (.int a) hs := rfl
@[simp] theorem kInt_b {a : Bool} : kInt (.bl a) hs = .ok (.int (if a = true then 1 else 0)) hs := rfl
@[simp] theorem one_v {k : D → List Ob → R D} : one k [d] hs = k d hs := rfl
@[simp] theorem two_v {k : D → D → List Ob → R D} : two k [d, e] hs = k d e hs := rfl
@[simp] theorem kMax2_v {a b : Int} : kMax2 (.int a) (.int b) hs = .ok (.int (max a b)) hs := by
  unfold kMax2; dsimp only; congr 2; split <;> omega
@[simp] theorem kMin2_v {a b : Int} : kMin2 (.int a) (.int b) hs = .ok (.int (min a b)) hs := by
  unfold kMin2; dsimp only; congr 2; split <;> omega
@[simp] theorem kIsN_n : kIsN .non hs = .ok (.bl true) hs := rfl
@[simp] theorem kIsN_i {a : Int} : kIsN (.int a) hs = .ok (.bl false) hs := rfl
@[simp] theorem kIsN_t {a : List D} : kIsN (.tup a) hs = .ok (.bl false) hs := rfl
@[simp] theorem kNotN_n : kNotN .non hs = .ok (.bl false) hs := rfl
@[simp] theorem kNotN_i {a : Int} : kNotN (.int a) hs = .ok (.bl true) hs := rfl
@[simp] theorem kNotN_t {a : List D} : kNotN (.tup a) hs = .ok (.bl true) hs := rfl
theorem kTup_v {ds : List D} (h : ds.length ≤ 1000) : kTup ds hs = .ok (.tup ds) hs := by
  unfold kTup
  rw [if_pos (by rw [sizeLine_eq]; omega)]
@[simp] theorem kTup_0 : kTup [] hs = .ok (.tup []) hs := kTup_v (by simp)
@[simp] theorem kTup_2 : kTup [d, e] hs = .ok (.tup [d, e]) hs := kTup_v (by simp)
@[simp] theorem kTup_3 {d' : D} : kTup [d, e, d'] hs = .ok (.tup [d, e, d']) hs := kTup_v (by simp)
@[simp] theorem newL_f {ds : List D} : newL false ds hs = .ok (.fl ds) hs := rfl
@[simp] theorem newL_t {ds : List D} : newL true ds hs = .ok (.ref hs.length) (hs ++ [.lst ds]) := rfl
@[simp] theorem newD_f {ds : List (Key × D)} : newD false ds hs = .ok (.fd ds) hs := rfl
@[simp] theorem newD_t {ds : List (Key × D)} : newD true ds hs = .ok (.ref hs.length) (hs ++ [.dct ds]) := rfl
theorem kLst_v {b : Bool} {ds : List D} (h : ds.length ≤ 1000) : kLst b ds hs = newL b ds hs := by
  unfold kLst
  rw [if_pos (by rw [sizeLine_eq]; omega)]
@[simp] theorem kTupOf_t {ds : List D} : kTupOf (.tup ds) hs = .ok (.tup ds) hs := rfl
@[simp] theorem kTupOf_l {ds : List D} : kTupOf (.fl ds) hs = .ok (.tup ds) hs := rfl
@[simp] theorem kLen_t {ds : List D} : kLen (.tup ds) hs = .ok (.int ds.length) hs := rfl
@[simp] theorem kLen_l {ds : List D} : kLen (.fl ds) hs = .ok (.int ds.length) hs := rfl
@[simp] theorem kLen_z {ds : List D} : kLen (.frz ds) hs = .ok (.int ds.length) hs := rfl
@[simp] theorem kLen_d {ds : List (Key × D)} : kLen (.fd ds) hs = .ok (.int ds.length) hs := rfl
@[simp] theorem kAll_b {bs : List Bool} : kAll (.fl (bs.map D.bl)) hs = .ok (.bl (bs.all id)) hs := by
  unfold kAll; show (match asBls (bs.map D.bl) with | some ns => _ | none => _) = _; rw [asBls_map]
theorem kAll_m {α : Type} {xs : List α} {p : α → Bool} : kAll (.fl (xs.map fun x => D.bl (p x))) hs = .ok (.bl (xs.all p)) hs := by
  have := kAll_b (bs := xs.map p) (hs := hs)
  rw [List.map_map] at this
  rw [show (fun x => D.bl (p x)) = D.bl ∘ p from rfl, this]
  simp [List.all_map]
theorem kAny_m {α : Type} {xs : List α} {p : α → Bool} : kAny (.fl (xs.map fun x => D.bl (p x))) hs = .ok (.bl (xs.any p)) hs := by
  unfold kAny
  have : asBls (xs.map fun x => D.bl (p x)) = some (xs.map p) := by
    have := asBls_map (xs.map p)
    rw [List.map_map] at this; exact this
  show (match asBls (xs.map fun x => D.bl (p x)) with | some ns => _ | none => _) = _
  rw [this]
  simp [List.any_map]
/-! subscripts -/
theorem atI_p {α : Type} {xs : List α} {i : Nat} {x : α} (h : xs[i]? = some x) : atI xs (i : Int) = some x := atI_nat h
theorem kItem_t {ds : List D} {i : Int} (h : atI ds i = some d) : kItem (.tup ds) (.int i) hs = .ok d hs := by
  unfold kItem; simp [dctOf, seqOf, h]
theorem kItem_l {ds : List D} {i : Int} (h : atI ds i = some d) : kItem (.fl ds) (.int i) hs = .ok d hs := by
  unfold kItem; simp [dctOf, seqOf, lstOf, h]
@[simp] theorem kItem_20 : kItem (.tup [d, e]) (.int 0) hs = .ok d hs := kItem_t rfl
@[simp] theorem kItem_21 : kItem (.tup [d, e]) (.int 1) hs = .ok e hs := kItem_t rfl
/-! kinds -/
theorem kIsi_v {T t : String} {b : Bool} (h : tyOf hs d = some t) (k : kitB t T = some b) : kIsi T d hs = .ok (.bl b) hs := by
  unfold kIsi; rw [h]; show (match kitB t T with | some b => _ | none => _) = _; rw [k]
@[simp] theorem isi_ii {a : Int} : kIsi "int" (.int a) hs = .ok (.bl true) hs := kIsi_v rfl (by decide +kernel)
@[simp] theorem isi_ib {a : Bool} : kIsi "int" (.bl a) hs = .ok (.bl true) hs := kIsi_v rfl (by decide +kernel)
@[simp] theorem isi_in : kIsi "int" .non hs = .ok (.bl false) hs := kIsi_v rfl (by decide +kernel)
@[simp] theorem isi_is {a : Str} : kIsi "int" (.str a) hs = .ok (.bl false) hs := kIsi_v rfl (by decide +kernel)
@[simp] theorem isi_it {a : List D} : kIsi "int" (.tup a) hs = .ok (.bl false) hs := kIsi_v rfl (by decide +kernel)
@[simp] theorem isi_il {a : List D} : kIsi "int" (.fl a) hs = .ok (.bl false) hs := kIsi_v rfl (by decide +kernel)
@[simp] theorem isi_id {a : List (Key × D)} : kIsi "int" (.fd a) hs = .ok (.bl false) hs := kIsi_v rfl (by decide +kernel)
@[simp] theorem isi_bi {a : Int} : kIsi "bool" (.int a) hs = .ok (.bl false) hs := kIsi_v rfl (by decide +kernel)
@[simp] theorem isi_bb {a : Bool} : kIsi "bool" (.bl a) hs = .ok (.bl true) hs := kIsi_v rfl (by decide +kernel)
@[simp] theorem isi_ti {a : Int} : kIsi "tuple" (.int a) hs = .ok (.bl false) hs := kIsi_v rfl (by decide +kernel)
@[simp] theorem isi_tb {a : Bool} : kIsi "tuple" (.bl a) hs = .ok (.bl false) hs := kIsi_v rfl (by decide +kernel)
@[simp] theorem isi_tn : kIsi "tuple" .non hs = .ok (.bl false) hs := kIsi_v rfl (by decide +kernel)
@[simp] theorem isi_ts {a : Str} : kIsi "tuple" (.str a) hs = .ok (.bl false) hs := kIsi_v rfl (by decide +kernel)
@[simp] theorem isi_tt {a : List D} : kIsi "tuple" (.tup a) hs = .ok (.bl true) hs := kIsi_v rfl (by decide +kernel)
@[simp] theorem isi_tl {a : List D} : kIsi "tuple" (.fl a) hs = .ok (.bl false) hs := kIsi_v rfl (by decide +kernel)
@[simp] theorem isi_td {a : List (Key × D)} : kIsi "tuple" (.fd a) hs = .ok (.bl false) hs := kIsi_v rfl (by decide +kernel)
/-! equality -/
@[simp] theorem kEq_int {a b : Int} : kEq (.int a) (.int b) hs = .ok (.bl (decide (a = b))) hs := rfl
@[simp] theorem kNe_int {a b : Int} : kNe (.int a) (.int b) hs = .ok (.bl (!decide (a = b))) hs := rfl
@[simp] theorem kEq_str {a b : Str} : kEq (.str a) (.str b) hs = .ok (.bl (decide (a = b))) hs := rfl
@[simp] theorem kNe_str {a b : Str} : kNe (.str a) (.str b) hs = .ok (.bl (!decide (a = b))) hs := rfl
/-- plain data: numbers, texts, tuples and lists of these, no deeper than n -/
def plD : Nat → D → Bool
  | 0, _ => false
  | _ + 1, .non => true
  | _ + 1, .int _ => true
  | _ + 1, .str x => PyData.strOk x
  | n + 1, .tup xs => xs.all (plD n)
  | n + 1, .fl xs => xs.all (plD n)
  | _ + 1, _ => false
theorem pys_pl {n : Nat} (ih : ∀ a, plD n a = true → ∃ p, py a = some p ∧ p.canLay0 = true ∧ p.depth ≤ n) : ∀ xs : List D, xs.all (plD n) = true → ∃ ps, pys xs = some ps ∧ PyData.canLayAll0 ps = true ∧ PyData.depthAll ps ≤ n
  | [], _ => ⟨[], rfl, by simp [PyData.canLayAll0], by simp [PyData.depthAll]⟩
  | x :: xs, h => by
    simp only [List.all_cons, Bool.and_eq_true] at h
    obtain ⟨p, e, c, l⟩ := ih x h.1
    obtain ⟨ps, e2, c2, l2⟩ := pys_pl ih xs h.2
    refine ⟨p :: ps, by simp [pys, e, e2], by simp [PyData.canLayAll0, c, c2], ?_⟩
    simp only [PyData.depthAll]
    omega
theorem py_pl : ∀ (n : Nat) (a : D), plD n a = true → ∃ p, py a = some p ∧ p.canLay0 = true ∧ p.depth ≤ n
  | 0, _, h => by cases h
  | n + 1, a, h => by
    cases a with
    | non => exact ⟨.none, by simp [py], by simp [PyData.canLay0], by simp [PyData.depth]⟩
    | int i => exact ⟨.int i, by simp [py], by simp [PyData.canLay0], by simp [PyData.depth]⟩
    | str x => exact ⟨.str x, by simp [py], by simpa [PyData.canLay0, plD] using h, by simp [PyData.depth]⟩
    | tup xs =>
      obtain ⟨ps, e, c, l⟩ := pys_pl (py_pl n) xs (by simpa [plD] using h)
      exact ⟨.tuple ps, by simp [py, e], by simpa [PyData.canLay0] using c, by simp [PyData.depth, l]⟩
    | fl xs =>
      obtain ⟨ps, e, c, l⟩ := pys_pl (py_pl n) xs (by simpa [plD] using h)
      exact ⟨.list ps, by simp [py, e], by simpa [PyData.canLay0] using c, by simp [PyData.depth, l]⟩
    | _ => simp [plD] at h
theorem eqvs_pl {n : Nat} (ih : ∀ a b p q, plD n a = true → plD n b = true → py a = some p → py b = some q → (PyData.eqv p q = true ↔ a = b)) : ∀ (xs ys : List D) (ps qs : List PyData), xs.all (plD n) = true → ys.all (plD n) = true → pys xs = some ps → pys ys = some qs → (PyData.eqvAll ps qs = true ↔ xs = ys)
  | [], [], ps, qs, _, _, e1, e2 => by
    simp only [pys, Option.some.injEq] at e1 e2
    subst e1 e2
    simp [PyData.eqvAll]
  | [], y :: ys, ps, qs, _, _, e1, e2 => by
    simp only [pys, Option.some.injEq] at e1
    subst e1
    simp only [pys] at e2
    split at e2
    · cases e2; simp [PyData.eqvAll]
    · cases e2
  | x :: xs, [], ps, qs, _, _, e1, e2 => by
    simp only [pys, Option.some.injEq] at e2
    subst e2
    simp only [pys] at e1
    split at e1
    · cases e1; simp [PyData.eqvAll]
    · cases e1
  | x :: xs, y :: ys, ps, qs, h1, h2, e1, e2 => by
    simp only [List.all_cons, Bool.and_eq_true] at h1 h2
    simp only [pys] at e1 e2
    split at e1
    · rename_i p ps' a1 a2
      split at e2
      · rename_i q qs' b1 b2
        cases e1
        cases e2
        simp only [PyData.eqvAll, Bool.and_eq_true, ih x y p q h1.1 h2.1 a1 b1, eqvs_pl ih xs ys ps' qs' h1.2 h2.2 a2 b2, List.cons.injEq]
      · cases e2
    · cases e1
theorem eqv_pl : ∀ (n : Nat) (a b : D) (p q : PyData), plD n a = true → plD n b = true → py a = some p → py b = some q → (PyData.eqv p q = true ↔ a = b)
  | 0, _, _, _, _, h, _, _, _ => by cases h
  | n + 1, a, b, p, q, h1, h2, e1, e2 => by
    have ih := eqvs_pl (eqv_pl n)
    cases a with
    | bl x => simp [plD] at h1
    | frz x => simp [plD] at h1
    | fd x => simp [plD] at h1
    | ref x => simp [plD] at h1
    | exc c x => simp [plD] at h1
    | ins c x => simp [plD] at h1
    | clo c => simp [plD] at h1
    | ft x => simp [plD] at h1
    | non =>
      simp only [py, Option.some.injEq] at e1
      subst e1
      cases b with
      | tup ys => simp only [py, Option.map_eq_some_iff] at e2; obtain ⟨qs, _, rfl⟩ := e2; simp [PyData.eqv]
      | fl ys => simp only [py, Option.map_eq_some_iff] at e2; obtain ⟨qs, _, rfl⟩ := e2; simp [PyData.eqv]
      | non => simp only [py, Option.some.injEq] at e2; subst e2; simp [PyData.eqv]
      | int j => simp only [py, Option.some.injEq] at e2; subst e2; simp [PyData.eqv]
      | str j => simp only [py, Option.some.injEq] at e2; subst e2; simp [PyData.eqv]
      | _ => simp [plD] at h2
    | int i =>
      simp only [py, Option.some.injEq] at e1
      subst e1
      cases b with
      | tup ys => simp only [py, Option.map_eq_some_iff] at e2; obtain ⟨qs, _, rfl⟩ := e2; simp [PyData.eqv]
      | fl ys => simp only [py, Option.map_eq_some_iff] at e2; obtain ⟨qs, _, rfl⟩ := e2; simp [PyData.eqv]
      | non => simp only [py, Option.some.injEq] at e2; subst e2; simp [PyData.eqv]
      | int j => simp only [py, Option.some.injEq] at e2; subst e2; simp [PyData.eqv]
      | str j => simp only [py, Option.some.injEq] at e2; subst e2; simp [PyData.eqv]
      | _ => simp [plD] at h2
    | str i =>
      simp only [py, Option.some.injEq] at e1
      subst e1
      cases b with
      | tup ys => simp only [py, Option.map_eq_some_iff] at e2; obtain ⟨qs, _, rfl⟩ := e2; simp [PyData.eqv]
      | fl ys => simp only [py, Option.map_eq_some_iff] at e2; obtain ⟨qs, _, rfl⟩ := e2; simp [PyData.eqv]
      | non => simp only [py, Option.some.injEq] at e2; subst e2; simp [PyData.eqv]
      | int j => simp only [py, Option.some.injEq] at e2; subst e2; simp [PyData.eqv]
      | str j => simp only [py, Option.some.injEq] at e2; subst e2; simp [PyData.eqv]
      | _ => simp [plD] at h2
    | tup xs =>
      simp only [py, Option.map_eq_some_iff] at e1
      obtain ⟨ps, a1, rfl⟩ := e1
      cases b with
      | tup ys =>
        simp only [py, Option.map_eq_some_iff] at e2; obtain ⟨qs, a2, rfl⟩ := e2
        have := ih xs ys ps qs (by simpa [plD] using h1) (by simpa [plD] using h2) a1 a2
        simpa [PyData.eqv] using this
      | fl ys => simp only [py, Option.map_eq_some_iff] at e2; obtain ⟨qs, _, rfl⟩ := e2; simp [PyData.eqv]
      | non => simp only [py, Option.some.injEq] at e2; subst e2; simp [PyData.eqv]
      | int j => simp only [py, Option.some.injEq] at e2; subst e2; simp [PyData.eqv]
      | str j => simp only [py, Option.some.injEq] at e2; subst e2; simp [PyData.eqv]
      | _ => simp [plD] at h2
    | fl xs =>
      simp only [py, Option.map_eq_some_iff] at e1
      obtain ⟨ps, a1, rfl⟩ := e1
      cases b with
      | fl ys =>
        simp only [py, Option.map_eq_some_iff] at e2; obtain ⟨qs, a2, rfl⟩ := e2
        have := ih xs ys ps qs (by simpa [plD] using h1) (by simpa [plD] using h2) a1 a2
        simpa [PyData.eqv] using this
      | tup ys => simp only [py, Option.map_eq_some_iff] at e2; obtain ⟨qs, _, rfl⟩ := e2; simp [PyData.eqv]
      | non => simp only [py, Option.some.injEq] at e2; subst e2; simp [PyData.eqv]
      | int j => simp only [py, Option.some.injEq] at e2; subst e2; simp [PyData.eqv]
      | str j => simp only [py, Option.some.injEq] at e2; subst e2; simp [PyData.eqv]
      | _ => simp [plD] at h2
theorem eqB_pl {a b : D} (h1 : plD 60 a = true) (h2 : plD 60 b = true) : ∃ c : Bool, eqB a b = some c ∧ (c = true ↔ a = b) := by
  obtain ⟨p, e1, c1, l1⟩ := py_pl 60 a h1
  obtain ⟨q, e2, c2, l2⟩ := py_pl 60 b h2
  refine ⟨PyData.eqv p q, ?_, eqv_pl 60 a b p q h1 h2 e1 e2⟩
  unfold eqB
  rw [e1, e2]
  dsimp only
  rw [if_pos ⟨by simp [SeqAt.shaped, c1]; omega, by simp [SeqAt.shaped, c2]; omega⟩]
theorem scD_ok {a b : D} {c : Bool} (h : scD a b = some c) : c = true ↔ a = b := by
  unfold scD at h
  split at h
  · cases h; simp
  · cases h; simp
  · cases h
theorem kEq_pl {a b : D} (h1 : plD 60 a = true) (h2 : plD 60 b = true) : ∃ c : Bool, kEq a b hs = .ok (.bl c) hs ∧ (c = true ↔ a = b) := by
  obtain ⟨c, e, i⟩ := eqB_pl h1 h2
  unfold kEq
  cases es : scD a b with
  | some c' => exact ⟨c', rfl, scD_ok es⟩
  | none => exact ⟨c, by unfold eqK; rw [e], i⟩
theorem kNe_pl {a b : D} (h1 : plD 60 a = true) (h2 : plD 60 b = true) : ∃ c : Bool, kNe a b hs = .ok (.bl (!c)) hs ∧ (c = true ↔ a = b) := by
  obtain ⟨c, e, i⟩ := eqB_pl h1 h2
  unfold kNe
  cases es : scD a b with
  | some c' => exact ⟨c', rfl, scD_ok es⟩
  | none => exact ⟨c, by unfold eqK; rw [e], i⟩
/-! a call -/
@[simp] theorem finD_s : finD hs.length d hs = (d, hs) := by unfold finD; rw [if_pos rfl]
def leave (hs : List Ob) (r : R Fl) : R D := match r with
  | .ok (.rt d) hs' => .ok (finD hs.length d hs').1 (finD hs.length d hs').2
  | .ok (.nx _) hs' => .ok .non (finD hs.length .non hs').2
  | .exn x hs' => .exn (finD hs.length x hs').1 (finD hs.length x hs').2
  | _ => .stuck
@[simp] theorem leave_s : leave hs (.ok (.rt d) hs) = .ok d hs := by simp [leave]
@[simp] theorem leave_n : leave hs (.ok (.nx σ) hs) = .ok .non hs := by simp [leave]
@[simp] theorem leave_if {p : Prop} [Decidable p] {a b : R Fl} : leave hs (if p then a else b) = if p then leave hs a else leave hs b := by
  by_cases h : p <;> simp [h]
@[simp] theorem mkFn_v {np N : Nat} {cs : CS} {ds : List D} (h : ds.length = np) : mkFn np N cs ds hs = leave hs (cs (startD N ds) hs) := by
  unfold mkFn leave
  exact if_pos h
def leave0 (r : R Fl) : R D := match r with
  | .ok (.rt d) hs' => .ok d hs'
  | .ok (.nx _) hs' => .ok .non hs'
  | .exn x hs' => .exn x hs'
  | _ => .stuck
@[simp] theorem leave0_s : leave0 (.ok (.rt d) hs) = .ok d hs := rfl
@[simp] theorem leave0_n : leave0 (.ok (.nx σ) hs) = .ok .non hs := rfl
@[simp] theorem mkFn0_v {np N : Nat} {cs : CS} {ds : List D} (h : ds.length = np) : mkFn0 np N cs ds hs = leave0 (cs (startD N ds) hs) := by
  unfold mkFn0 leave0
  exact if_pos h
@[simp] theorem startD_v {N : Nat} {ds : List D} : startD N ds = ds.map some ++ List.replicate (N - ds.length) none := rfl
def goW (n : Nat) (c : CE) (b : CS) (f : Fl) (hs : List Ob) : R Fl := match f with
  | .nx σ => loopW n c b σ hs
  | .ct σ => loopW n c b σ hs
  | .bk σ => .ok (.nx σ) hs
  | .rt d => .ok (.rt d) hs
@[simp] theorem goW_nx {n : Nat} {b : CS} : goW n c b (.nx σ) hs = loopW n c b σ hs := rfl
theorem loopW_s {n : Nat} {b : CS} : loopW (n + 1) c b σ hs = (c σ hs).bind fun x hs => bIf x ((b σ hs).bind fun f hs => goW n c b f hs) (.ok (.nx σ) hs) := by
  unfold loopW
  congr 1
def parS (i j : Nat) (σ : Sl) (ds : List D) (hs : List Ob) : R Fl := match ds with
  | [a, b] => .ok (.nx ((σ.set i (some a)).set j (some b))) hs
  | _ => .stuck
@[simp] theorem parS_v {i j : Nat} : parS i j σ [d, e] hs = .ok (.nx ((σ.set i (some d)).set j (some e))) hs := rfl
@[simp] theorem cPar_v {i j : Nat} {a : CA} : cPar i j a σ hs = (a σ hs).bind fun ds hs => parS i j σ ds hs := by
  unfold cPar parS
  congr 1
end
end PL

set_option Elab.async false
set_option linter.all false
set_option maxRecDepth 100000
set_option maxHeartbeats 4000000
set_option autoImplicit false
set_option exponentiation.threshold 20000
namespace PL
open PySem PySem.Spec PyProof.Rows L2
/-! ## comprehensions, loops -/
section
variable {σ : Sl} {hs : List Ob} {t : Tg} {c e : CE}
@[simp] theorem wipeS_0 : wipeS σ [] = σ := rfl
@[simp] theorem wipeS_1 {v : Nat} {vs : List Nat} : wipeS σ (v :: vs) = (wipeS σ vs).set v none := rfl
/-- a comprehension whose turns change nothing: which ones are kept, what is made -/
structure PureC (t : Tg) (c e : CE) (σ : Sl) (hs : List Ob) (x : D) (k : Bool) (y : D) : Prop where
  ok : ∃ σ', bindT t x σ = some σ' ∧ c σ' hs = .ok (.bl k) hs ∧ (k = true → e σ' hs = .ok y hs)
theorem compL_pure {α : Type} (dt : α → D) (p : α → Bool) (g : α → D) : ∀ (xs : List α) (acc : List D), (∀ x ∈ xs, PureC t c e σ hs (dt x) (p x) (g x)) → acc.length + xs.length < 16777216 →
    compL t c (pLst e) σ (xs.map dt) (.lst acc) hs = .ok (.lst (acc ++ (xs.filter p).map g)) hs
  | [], acc, _, _ => by simp [compL]
  | x :: xs, acc, h, hl => by
    obtain ⟨σ', e1, e2, e3⟩ := (h x List.mem_cons_self).ok
    have hx := fun y hy => h y (List.mem_cons_of_mem _ hy)
    simp only [List.length_cons] at hl
    rw [List.map_cons]
    unfold compL turnC
    rw [e1]
    dsimp only
    rw [e2]
    cases hk : p x with
    | true =>
      dsimp only
      unfold pLst
      dsimp only
      rw [e3 hk]
      dsimp only
      rw [if_pos (by rw [sizeLine_eq]; omega)]
      dsimp only
      have := compL_pure dt p g xs (acc ++ [g x]) hx (by rw [List.length_append]; simp; omega)
      unfold pLst at this
      rw [this, List.filter_cons_of_pos hk, List.map_cons, List.append_assoc]
      rfl
    | false =>
      dsimp only
      rw [compL_pure dt p g xs acc hx (by omega), List.filter_cons_of_neg (by rw [hk]; decide)]
theorem comp_pure {α : Type} {b : Bool} {vs : List Nat} {s : CI} (dt : α → D) (p : α → Bool) (g : α → D) (xs : List α) (hs1 : s σ hs = .ok (.seq (xs.map dt)) hs) (h : ∀ x ∈ xs, PureC t c e (wipeS σ vs) hs (dt x) (p x) (g x)) (hl : xs.length < 16777216) :
    cComp b vs t s c (.lst []) (pLst e) σ hs = newL b ((xs.filter p).map g) hs := by
  unfold cComp
  rw [hs1, bind_ok]
  dsimp only
  rw [compL_pure dt p g xs [] h (by simpa using hl)]
  rfl
/-- all kept -/
theorem comp_all {α : Type} {b : Bool} {vs : List Nat} {s : CI} (dt g : α → D) (xs : List α) (hs1 : s σ hs = .ok (.seq (xs.map dt)) hs) (h : ∀ x ∈ xs, ∃ σ', bindT t (dt x) (wipeS σ vs) = some σ' ∧ e σ' hs = .ok (g x) hs) (hl : xs.length < 16777216) :
    cComp b vs t s cYes (.lst []) (pLst e) σ hs = newL b (xs.map g) hs := by
  rw [comp_pure dt (fun _ => true) g xs hs1 (fun x hx => by
    obtain ⟨σ', e1, e2⟩ := h x hx
    exact ⟨σ', e1, rfl, fun _ => e2⟩) hl, List.filter_eq_self.mpr fun _ _ => rfl]
theorem iSeq_t {f : CE} {ds : List D} (h : f σ hs = .ok (.tup ds) hs) : iSeq f σ hs = .ok (.seq ds) hs := by unfold iSeq; rw [h]; rfl
theorem iSeq_l {f : CE} {ds : List D} (h : f σ hs = .ok (.fl ds) hs) : iSeq f σ hs = .ok (.seq ds) hs := by unfold iSeq; rw [h]; rfl
theorem rng1_v {a : CA} {n : Int} (h : a σ hs = .ok [.int n] hs) (h1 : 0 ≤ n) (h2 : n ≤ 2 ^ 24) : iArgs kRng1 a σ hs = .ok (.seq ((List.range n.toNat).map fun i => D.int (i : Nat))) hs := by
  unfold iArgs
  rw [h, bind_ok]
  unfold kRng1
  dsimp only
  rw [if_pos ⟨by omega, by omega⟩]
  simp
theorem rng2_v {a : CA} {lo n : Int} (h : a σ hs = .ok [.int lo, .int n] hs) (h1 : -(2 ^ 62) ≤ lo) (h2 : lo < 2 ^ 62) (h3 : -(2 ^ 62) ≤ n) (h4 : n < 2 ^ 62) : iArgs kRng2 a σ hs = .ok (.seq ((List.range (n - lo).toNat).map fun i => D.int (lo + (i : Nat)))) hs := by
  unfold iArgs
  rw [h, bind_ok]
  unfold kRng2
  dsimp only
  rw [if_pos ⟨h1, h2, h3, h4⟩]
theorem lrg2_v {b : Bool} {lo n : Int} (h1 : -(2 ^ 62) ≤ lo) (h2 : lo < 2 ^ 62) (h3 : -(2 ^ 62) ≤ n) (h4 : n < 2 ^ 62) (h5 : n - lo ≤ 2 ^ 24) : kLRg2 b (.int lo) (.int n) hs = newL b ((List.range (n - lo).toNat).map fun i => D.int (lo + (i : Nat))) hs := by
  unfold kLRg2
  dsimp only
  rw [if_pos ⟨h1, h2, h3, h4, by omega⟩]
theorem lrg1_v {b : Bool} {n : Int} (h1 : 0 ≤ n) (h2 : n ≤ 2 ^ 24) : kLRg1 b (.int n) hs = newL b ((List.range n.toNat).map fun i => D.int (i : Nat)) hs := by
  unfold kLRg1
  dsimp only
  rw [if_pos ⟨h2, by omega⟩]
  simp
/-- a loop over what stays, by an invariant that the turns keep -/
theorem loopL_by {α : Type} {b : CS} (dt : α → D) (st : Nat → Sl) (hp : Nat → List Ob) : ∀ (xs : List α) (k : Nat), (∀ i x, xs[i]? = some x → ∃ σ1, bindT t (dt x) (st (k + i)) = some σ1 ∧ (b σ1 (hp (k + i)) = .ok (.nx (st (k + i + 1))) (hp (k + i + 1)))) →
    loopL t b (xs.map dt) (st k) (hp k) = .ok (.nx (st (k + xs.length))) (hp (k + xs.length))
  | [], k, _ => rfl
  | x :: xs, k, h => by
    obtain ⟨σ1, e1, e2⟩ := h 0 x rfl
    rw [List.map_cons]
    unfold loopL
    rw [show k + 0 = k from rfl] at e1 e2
    rw [e1]
    dsimp only
    rw [e2, bind_ok]
    have := loopL_by dt st hp xs (k + 1) fun i y hy => by
      obtain ⟨σ2, e3, e4⟩ := h (i + 1) y (by simpa using hy)
      refine ⟨σ2, ?_, ?_⟩
      · rw [show k + 1 + i = k + (i + 1) by omega]; exact e3
      · rw [show k + 1 + i = k + (i + 1) by omega]; exact e4
    rw [show k + (x :: xs).length = k + 1 + xs.length by simp; omega]
    exact this
end
section
variable {σ : Sl} {hs : List Ob} {a b c : CE}
@[simp] theorem cChain_v {k k' : D → D → List Ob → R D} : cChain k k' a b c σ hs = (a σ hs).bind fun x hs => (b σ hs).bind fun y hs => (k x y hs).bind fun z hs => bIf z ((c σ hs).bind fun w hs => k' y w hs) (.ok (.bl false) hs) := by
  unfold cChain bIf; congr 1
@[simp] theorem cMS_v {k : D → D → List Ob → R D} : cMS k a b σ hs = (a σ hs).bind fun d hs => if isStr d = true then (b σ hs).bind fun x hs => k d x hs else .stuck := rfl
@[simp] theorem isStr_v {x : Str} : isStr (.str x) = true := rfl
theorem kJoin_l {x : Str} {ys : List Str} (h : (ys.map (·.length)).sum + ys.length * x.length ≤ 16777216) : kJoin (.str x) (.fl (ys.map .str)) hs = .ok (.str (Txt.join x ys)) hs := by
  unfold kJoin
  dsimp only
  rw [show seqOf hs (.fl (ys.map .str)) = some (ys.map .str) from rfl]
  rw [Option.bind_some, asStrs_map]
  dsimp only
  rw [if_pos h]
@[simp] theorem kGet2_v {kvs : List (Key × D)} {k x : D} {key : Key} (h : keyD k = some key) : kGet2 (.fd kvs) k x hs = .ok ((valD kvs key).getD x) hs := by
  unfold kGet2; rw [show dctOf hs (.fd kvs) = some kvs from rfl]; dsimp only; rw [h]
@[simp] theorem keyD_i {i : Int} : keyD (.int i) = some (Sum.inl i) := rfl
@[simp] theorem keyD_s {i : Str} : keyD (.str i) = some (Sum.inr i) := rfl
@[simp] theorem cGet2_v {d k x : CE} : cGet2 d k x σ hs = (d σ hs).bind fun dd hs => if (dctOf hs dd).isSome = true then (k σ hs).bind fun kd hs => (x σ hs).bind fun xd hs => kGet2 dd kd xd hs else .stuck := rfl
@[simp] theorem dctOf_v {kvs : List (Key × D)} : dctOf hs (.fd kvs) = some kvs := rfl
@[simp] theorem kItems_v {b : Bool} {kvs : List (Key × D)} : kItems b (.fd kvs) hs = newL b (kvs.map fun kv => D.tup [unkey kv.1, kv.2]) hs := rfl
@[simp] theorem cDct0_v {b : Bool} : cDct0 b σ hs = newD b [] hs := rfl
theorem join_le (x : Str) : ∀ ys : List Str, (Txt.join x ys).length ≤ (ys.map (·.length)).sum + ys.length * x.length
  | [] => by rw [TL.join_eq]; simp [Str.join, Str.length, Str.empty]
  | [y] => by rw [TL.join_eq]; simp [Str.join]
  | y :: z :: r => by
    have ih := join_le x (z :: r)
    rw [TL.join_eq] at ih ⊢
    simp only [Str.join, Str.length_append]
    simp only [List.map_cons, List.sum_cons, List.length_cons] at ih ⊢
    have : (r.length + 1 + 1) * x.length = (r.length + 1) * x.length + x.length := by rw [Nat.add_mul (r.length + 1), Nat.one_mul]
    omega
theorem sum_le {α : Type} (f : α → Nat) (n : Nat) : ∀ xs : List α, (∀ x ∈ xs, f x ≤ n) → (xs.map f).sum ≤ xs.length * n
  | [], _ => by simp
  | x :: xs, h => by
    have h1 := h x List.mem_cons_self
    have h2 := sum_le f n xs fun y hy => h y (List.mem_cons_of_mem _ hy)
    simp only [List.map_cons, List.sum_cons, List.length_cons, Nat.add_mul, Nat.one_mul]
    omega
end
section
variable {σ : Sl} {hs hs' : List Ob} {a b c : CE} {d : D} {r : Nat} {xs : List D}
theorem kItem_r {i : Int} (h : hs[r]? = some (.lst xs)) (e : atI xs i = some d) : kItem (.ref r) (.int i) hs = .ok d hs := by
  unfold kItem
  simp [dctOf, seqOf, lstOf, h, e]
def setR (σ : Sl) (o : Option (List Ob)) : R Fl := match o with
  | some hs => .ok (.nx σ) hs
  | none => .stuck
@[simp] theorem setR_v : setR σ (some hs) = .ok (.nx σ) hs := rfl
@[simp] theorem cSetIx_v {o i v : CE} : cSetIx o i v σ hs = (v σ hs).bind fun vd hs => (o σ hs).bind fun od hs => (i σ hs).bind fun id hs => setR σ (kSetIx od id vd hs) := by
  unfold cSetIx setR; congr 1
theorem kSetIx_r {i : Int} {j : Nat} (h : hs[r]? = some (.lst xs)) (e : ixN xs.length i = some j) : kSetIx (.ref r) (.int i) d hs = some (hs.set r (.lst (xs.set j d))) := by
  unfold kSetIx
  simp [h, e]
theorem leave_l (h : hs'.length = hs.length) : leave hs (.ok (.rt d) hs') = .ok d hs' := by
  unfold leave finD
  dsimp only
  rw [if_pos h]
theorem leave_ln (h : hs'.length = hs.length) : leave hs (.ok (.nx σ) hs') = .ok .non hs' := by
  unfold leave finD
  dsimp only
  rw [if_pos h]
theorem kPow_v {x y : Int} (h1 : 0 ≤ y) (h2 : y ≤ 1000) (h3 : x.natAbs.log2 < 100000) : kPow (.int x) (.int y) hs = .ok (.int (x ^ y.toNat)) hs := by simp [kPow, h1, h2, h3]
end
/-! ## what is drawn: some result -/
@[irreducible] def W {α : Type} (r : R α) (Q : α → List Ob → Prop) : Prop := match r with
  | .ok a h => Q a h
  | _ => False
section
variable {α β : Type} {Q Q' : α → List Ob → Prop} {hs : List Ob}
@[simp] theorem W_ok {a : α} : W (.ok a hs) Q ↔ Q a hs := by unfold W; exact Iff.rfl
theorem W.mono {r : R α} (h : W r Q) (q : ∀ a h, Q a h → Q' a h) : W r Q' := by
  unfold W at h ⊢
  cases r with
  | ok a h' => exact q a h' h
  | _ => exact h
theorem W.ex {r : R α} (h : W r Q) : ∃ a h', r = .ok a h' ∧ Q a h' := by
  unfold W at h
  cases r with
  | ok a h' => exact ⟨a, h', rfl, h⟩
  | _ => exact h.elim
theorem W.bind {r : R α} {f : α → List Ob → R β} {Q : β → List Ob → Prop} (h : W r fun a h => W (f a h) Q) : W (r.bind f) Q := by
  obtain ⟨a, h', rfl, q⟩ := h.ex
  exact q
theorem W.of {a : α} {r : R α} (e : r = .ok a hs) (h : Q a hs) : W r Q := by rw [e]; exact W_ok.mpr h
end
section
variable {t : Tg} {e c : CE} {σ : Sl}
/-- what a walk makes, item by item -/
structure Each {α : Type} (P : α → D → Prop) (xs : List α) (ys : List D) : Prop where
  len : ys.length = xs.length
  all : ∀ (i : Nat) (x : α) (y : D), xs[i]? = some x → ys[i]? = some y → P x y
theorem Each.nil {α : Type} {P : α → D → Prop} : Each P [] [] := ⟨rfl, fun i x y h => by simp at h⟩
theorem Each.cons {α : Type} {P : α → D → Prop} {x : α} {xs : List α} {y : D} {ys : List D} (h : P x y) (t : Each P xs ys) : Each P (x :: xs) (y :: ys) :=
  ⟨congrArg Nat.succ t.len, fun i x' y' h1 h2 => by
    cases i with
    | zero => cases h1; cases h2; exact h
    | succ i => exact t.all i x' y' (by simpa using h1) (by simpa using h2)⟩
theorem compL_w {α : Type} (dt : α → D) (P : α → D → Prop) (I : Nat → List Ob → Prop) : ∀ (xs : List α) (k : Nat) (acc : List D) (hs : List Ob), I k hs →
    (∀ (i : Nat) (x : α) (hs : List Ob), xs[i]? = some x → I (k + i) hs → ∃ σ', bindT t (dt x) σ = some σ' ∧ W (e σ' hs) fun d hs' => P x d ∧ I (k + i + 1) hs') → acc.length + xs.length < 16777216 →
    W (compL t cYes (pLst e) σ (xs.map dt) (.lst acc) hs) fun o hs' => ∃ ys, o = .lst (acc ++ ys) ∧ Each P xs ys ∧ I (k + xs.length) hs'
  | [], k, acc, hs, h0, _, _ => W.of (a := .lst acc) rfl ⟨[], by simp, .nil, h0⟩
  | x :: xs, k, acc, hs, h0, h, hl => by
    obtain ⟨σ', e1, w⟩ := h 0 x hs rfl h0
    obtain ⟨d, hs1, e2, pd, i1⟩ := w.ex
    simp only [List.length_cons] at hl
    rw [List.map_cons]
    unfold compL turnC
    rw [e1]
    dsimp only
    unfold cYes
    dsimp only
    unfold pLst
    dsimp only
    rw [e2]
    dsimp only
    rw [if_pos (by rw [sizeLine_eq]; omega)]
    dsimp only
    have ih := compL_w dt P I xs (k + 1) (acc ++ [d]) hs1 i1 (fun i y hs hy hi => by
      have := h (i + 1) y hs (by simpa using hy) (by rw [show k + (i + 1) = k + 1 + i by omega]; exact hi)
      rw [show k + (i + 1) + 1 = k + 1 + i + 1 by omega] at this
      exact this) (by rw [List.length_append]; simp; omega)
    refine W.mono ih fun o hs2 ⟨ys, eo, ea, ii⟩ => ⟨d :: ys, by rw [eo, List.append_assoc]; rfl, ea.cons pd, ?_⟩
    rw [show k + (x :: xs).length = k + 1 + xs.length by simp; omega]
    exact ii
theorem comp_w {α : Type} {b : Bool} {vs : List Nat} {s : CI} (dt : α → D) (P : α → D → Prop) (I : Nat → List Ob → Prop) (xs : List α) {hs hs1 : List Ob} (h1 : s σ hs = .ok (.seq (xs.map dt)) hs1) (h0 : I 0 hs1)
    (h : ∀ (i : Nat) (x : α) (hs : List Ob), xs[i]? = some x → I i hs → ∃ σ', bindT t (dt x) (wipeS σ vs) = some σ' ∧ W (e σ' hs) fun d hs' => P x d ∧ I (i + 1) hs') (hl : xs.length < 16777216) :
    W (cComp b vs t s cYes (.lst []) (pLst e) σ hs) fun d hs' => ∃ ys hs2, newL b ys hs2 = .ok d hs' ∧ Each P xs ys ∧ I xs.length hs2 := by
  unfold cComp
  rw [h1, bind_ok]
  dsimp only
  have w := compL_w (t := t) (e := e) (σ := wipeS σ vs) dt P I xs 0 [] hs1 h0 (fun i x hs hx hi => by
    rw [Nat.zero_add] at hi ⊢
    exact h i x hs hx hi) (by simpa using hl)
  obtain ⟨o, hs2, eo, ys, rfl, ea, ii⟩ := w.ex
  rw [eo]
  dsimp only
  rw [Nat.zero_add] at ii
  cases b with
  | false => exact W.of (a := .fl ys) rfl ⟨ys, hs2, rfl, ea, ii⟩
  | true => exact W.of (a := .ref hs2.length) rfl ⟨ys, hs2, rfl, ea, ii⟩
theorem loopL_w {α : Type} {b : CS} (dt : α → D) (I : Nat → Sl → List Ob → Prop) : ∀ (xs : List α) (k : Nat) (σ : Sl) (hs : List Ob), I k σ hs →
    (∀ (i : Nat) (x : α) (σ : Sl) (hs : List Ob), xs[i]? = some x → I (k + i) σ hs → ∃ σ1, bindT t (dt x) σ = some σ1 ∧ W (b σ1 hs) fun f hs' => ∃ σ2, f = .nx σ2 ∧ I (k + i + 1) σ2 hs') →
    W (loopL t b (xs.map dt) σ hs) fun f hs' => ∃ σ', f = .nx σ' ∧ I (k + xs.length) σ' hs'
  | [], k, σ, hs, h0, _ => W.of (a := .nx σ) rfl ⟨σ, rfl, h0⟩
  | x :: xs, k, σ, hs, h0, h => by
    obtain ⟨σ1, e1, w⟩ := h 0 x σ hs rfl h0
    obtain ⟨f, hs1, e2, σ2, rfl, i1⟩ := w.ex
    rw [List.map_cons]
    unfold loopL
    rw [e1]
    dsimp only
    rw [e2, bind_ok]
    dsimp only
    have ih := loopL_w dt I xs (k + 1) σ2 hs1 i1 (fun i y σ hs hy hi => by
      have := h (i + 1) y σ hs (by simpa using hy) (by rw [show k + (i + 1) = k + 1 + i by omega]; exact hi)
      rw [show k + (i + 1) + 1 = k + 1 + i + 1 by omega] at this
      exact this)
    refine W.mono ih fun o hs2 ⟨σ', eo, ii⟩ => ⟨σ', eo, ?_⟩
    rw [show k + (x :: xs).length = k + 1 + xs.length by simp; omega]
    exact ii
end
/-! ## arithmetic bounds -/
theorem log2_lt {n k : Nat} (h : n < 2 ^ k) (hk : 0 < k) : n.log2 < k := by
  by_cases h0 : n = 0
  · subst h0; simpa using hk
  · exact (Nat.log2_lt h0).mpr h
theorem mulOk_of {a b : Int} {i j : Nat} (ha : a.natAbs < 2 ^ i) (hb : b.natAbs < 2 ^ j) (hi : 0 < i) (hj : 0 < j) (h : i + j < 1000000) : mulOk a b = true := by
  have h1 := log2_lt ha hi
  have h2 := log2_lt hb hj
  unfold mulOk
  exact decide_eq_true (by omega)
theorem fuel_le {k : Nat} (h : k ≤ 12000) : 2 ^ k ≤ FUEL := by
  unfold FUEL
  exact Nat.pow_le_pow_right (by decide) h
end PL

set_option Elab.async false
set_option linter.all false
set_option maxRecDepth 100000
set_option maxHeartbeats 4000000
set_option autoImplicit false
namespace PL
open PySem PySem.Spec PyProof.Rows L2
/-! ## repr of data -/
mutual
/-- nested at most n deep (max would be looked at twice at each step) -/
def dpL : PyData → Nat → Bool
  | .list xs, n => (match n with
    | 0 => false
    | k + 1 => dpLs xs k)
  | .tuple xs, n => (match n with
    | 0 => false
    | k + 1 => dpLs xs k)
  | .dict _, _ => false
  | .none, _ => true
  | .bool _, _ => true
  | .int _, _ => true
  | .str _, _ => true
def dpLs : List PyData → Nat → Bool
  | [], _ => true
  | x :: xs, n => dpL x n && dpLs xs n
end
mutual
theorem dpL_le : ∀ (d : PyData) (n : Nat), dpL d n = true → d.depth ≤ n
  | .list xs, 0, h => by simp [dpL] at h
  | .list xs, k + 1, h => by
    simp only [dpL] at h
    have := dpLs_le xs k h
    simp only [PyData.depth]
    omega
  | .tuple xs, 0, h => by simp [dpL] at h
  | .tuple xs, k + 1, h => by
    simp only [dpL] at h
    have := dpLs_le xs k h
    simp only [PyData.depth]
    omega
  | .dict _, _, h => by simp [dpL] at h
  | .none, _, _ => by simp [PyData.depth]
  | .bool _, _, _ => by simp [PyData.depth]
  | .int _, _, _ => by simp [PyData.depth]
  | .str _, _, _ => by simp [PyData.depth]
theorem dpLs_le : ∀ (ds : List PyData) (n : Nat), dpLs ds n = true → PyData.depthAll ds ≤ n
  | [], _, _ => by simp [PyData.depthAll]
  | x :: xs, n, h => by
    simp only [dpLs, Bool.and_eq_true] at h
    have h1 := dpL_le x n h.1
    have h2 := dpLs_le xs n h.2
    simp only [PyData.depthAll]
    omega
end
def kRepr (d : D) (hs : List Ob) : R D := match py d with
  | some p => if p.showable = true ∧ p.hasDict = false ∧ dpL p 60 = true ∧ p.shown.length ≤ sizeLine then .ok (.str p.shown) hs else .stuck
  | none => match d with
    | .fd [] => .ok (.str (PyData.dict []).shown) hs
    | _ => .stuck
section
variable {X : Cx} {E : XK} {e : Expr} {g : CA} {p pos : Pos} {n : Nat}
theorem call_reprD (hr : Room n X.A) (hg : X.A.guards = some []) : CallR X (.builtin "repr") (fun xs H Q => (∃ x d, xs = [x] ∧ Dp X.K H x d ∧ (d.showable = true ∧ d.hasDict = false ∧ d.depth ≤ 60 ∧ d.shown.length ≤ sizeLine) ∧ Q (.str d.shown) H) ∨ ∃ a, xs = [.ref a] ∧ H a = some (.dK []) ∧ Q (.str (PyData.dict []).shown) H) := by
  intro pins s σ H xs us Q I r h
  rcases h with h | ⟨a, rfl, ea, q⟩
  case inr =>
    obtain ⟨u, rfl, rv⟩ := vals1 r
    obtain rfl : u = Value.ref a := rv
    obtain ⟨_, ns, vs, kv, o, es, ep, ho, hx, hd, _, hp, _⟩ := (show ObjOk X.prog X.w H s.heap a (.dK []) from I.hok a _ ea)
    cases kv
    have e0 : es.toList = [] := List.eq_nil_of_length_eq_zero hp.length
    have rd : Reads s.heap (.ref a) (.dict []) (a :: [] ++ []) := Reads.dict ho hx.1 hd (by rw [e0]; exact .nil) (by rw [e0]; exact .nil)
    exact PySem.repr_of_reads' rd (by simp [PyData.showable, PyData.showableKv]) (fun _ m => by
      rw [show a :: [] ++ [] = [a] from rfl, List.mem_singleton] at m
      rw [m] at ns
      simp at ns) hg (by have := hr.un; have : (PyData.dict []).depth ≤ 2 := by decide
                         omega) (fun _ _ e => e) (fun h' u tk hk => ⟨.str _, H, I.kept hk, ⟨_, rfl⟩, q⟩) (by rw [sizeLine_eq]; decide)
  obtain ⟨x, d, rfl, dp, ⟨c1, c2, c3, c4⟩, q⟩ := h
  obtain ⟨u, rfl, rv⟩ := vals1 r
  obtain ⟨as, rd⟩ := Dp.reads I d x u dp rv
  cases dp with
  | non =>
    cases (show u = Value.none from rv)
    exact PySem.P.repr_of_none ⟨.str _, H, I.tok _, ⟨_, rfl⟩, q⟩
  | bl b =>
    cases (show u = Value.bool b from rv)
    exact PySem.P.repr_of_bool ⟨.str _, H, I.tok _, ⟨_, rfl⟩, q⟩
  | int i =>
    obtain ⟨t, rfl⟩ := (show ∃ t, u = Value.int i t from rv)
    exact PySem.P.repr_of_int (by simpa [PyData.showable] using c1) ⟨.str _, H, I.tok _, ⟨_, rfl⟩, q⟩
  | str y =>
    obtain ⟨t, rfl⟩ := (show ∃ t, u = Value.str y t from rv)
    exact PySem.P.repr_of_str ⟨.str _, H, I.tok _, ⟨_, rfl⟩, q⟩ c4
  | lst sq al =>
    obtain rfl := (show u = Value.ref _ from rv)
    exact PySem.repr_of_reads' rd c1 (fun z => by rw [c2] at z; cases z) hg (by have := hr.un; omega) (fun _ _ e => e) (fun h' u tk hk => ⟨.str _, H, I.kept hk, ⟨_, rfl⟩, q⟩) c4
  | tup sq al =>
    obtain rfl := (show u = Value.ref _ from rv)
    exact PySem.repr_of_reads' rd c1 (fun z => by rw [c2] at z; cases z) hg (by have := hr.un; omega) (fun _ _ e => e) (fun h' u tk hk => ⟨.str _, H, I.kept hk, ⟨_, rfl⟩, q⟩) c4
theorem s_repr (hr : Room n X.A) (hgd : X.A.guards = some []) (h : SA X E [e] g) (hm : X.mg "repr" = none) (hg : Gl X "repr" := by rfl) (he : starEach [e] X.env = (false, eval e X.env) :: starEach [] X.env := by rfl) : SE X E (.Call (.Name "repr" p) [e] [] pos) (cF (one kRepr) g) :=
  PE.imp (pe_callB (call_reprD hr hgd) hg hm (by decide +kernel) h (he := he)) (impA (opa1 fun E H m hs d v Q hr r p => by
    unfold kRepr at p
    split at p
    · rename_i pd e1
      obtain ⟨c, p⟩ := p.ite
      exact .inl ⟨v, pd, rfl, r.dp e1, ⟨c.1, c.2.1, dpL_le _ _ c.2.2.1, c.2.2.2⟩, p.here hr (.str _)⟩
    · split at p
      · cases r with
        | fd z n rk =>
          cases rk
          exact .inr ⟨_, rfl, z, p.here hr (.str _)⟩
      · exact p.elim))
end
/-! ## repr(a) == repr(b): the same data have the same text, which is not written out -/
mutual
def sm : D → D → Bool
  | .non, .non => true
  | .bl a, .bl b => a == b
  | .int a, .int b => decide (a = b)
  | .str a, .str b => decide (a = b)
  | .tup a, .tup b => sms a b
  | .fl a, .fl b => sms a b
  | _, _ => false
def sms : List D → List D → Bool
  | [], [] => true
  | a :: as, b :: bs => sm a b && sms as bs
  | _, _ => false
end
mutual
theorem sm_eq : ∀ {a b : D}, sm a b = true → a = b
  | .non, b, h => by cases b <;> simp [sm] at h ⊢
  | .bl a, b, h => by cases b <;> simp [sm] at h ⊢; exact h
  | .int a, b, h => by cases b <;> simp [sm] at h ⊢; exact h
  | .str a, b, h => by cases b <;> simp [sm] at h ⊢; exact h
  | .tup a, b, h => by
    cases b <;> simp [sm] at h ⊢
    exact sms_eq h
  | .fl a, b, h => by
    cases b <;> simp [sm] at h ⊢
    exact sms_eq h
  | .fd a, b, h => by cases b <;> simp [sm] at h
  | .frz a, b, h => by cases b <;> simp [sm] at h
  | .ref a, b, h => by cases b <;> simp [sm] at h
  | .exc _ a, b, h => by cases b <;> simp [sm] at h
  | .ins _ a, b, h => by cases b <;> simp [sm] at h
  | .clo a, b, h => by cases b <;> simp [sm] at h
  | .ft a, b, h => by cases b <;> simp [sm] at h
theorem sms_eq : ∀ {a b : List D}, sms a b = true → a = b
  | [], b, h => by cases b <;> simp [sms] at h ⊢
  | a :: as, b, h => by
    cases b with
    | nil => simp [sms] at h
    | cons b bs =>
      simp only [sms, Bool.and_eq_true] at h
      rw [sm_eq h.1, sms_eq h.2]
end
def okRepr (d : D) : Bool := match py d with
  | some p => p.showable && (!p.hasDict && (dpL p 60 && (p.leavesShort 100 && decide (p.weight ≤ 100000))))
  | none => false
theorem okRepr_v {d : D} (h : okRepr d = true) : ∃ S : Str, ∀ hs, kRepr d hs = .ok (.str S) hs := by
  unfold okRepr at h
  cases e : py d with
  | none => rw [e] at h; cases h
  | some p =>
    rw [e] at h
    simp only [Bool.and_eq_true, Bool.not_eq_true', decide_eq_true_eq] at h
    obtain ⟨h1, h2, h3, h4, h5⟩ := h
    refine ⟨p.shown, fun hs => ?_⟩
    unfold kRepr
    rw [e]
    refine if_pos ⟨h1, h2, h3, Nat.le_trans (PyData.shown_le 100 (by decide) p h4) ?_⟩
    rw [sizeLine_eq]
    omega
def sameR (a b : D) : Bool := match a, b with
  | .fd [], .fd [] => true
  | a, b => sm a b && okRepr a
theorem sameR_v {a b : D} (h : sameR a b = true) : ∃ S : Str, ∀ hs, kRepr a hs = .ok (.str S) hs ∧ kRepr b hs = .ok (.str S) hs := by
  unfold sameR at h
  split at h
  · exact ⟨_, fun hs => ⟨rfl, rfl⟩⟩
  · obtain ⟨h1, h2⟩ := Bool.and_eq_true_iff.mp h
    rw [sm_eq h1] at h2 ⊢
    obtain ⟨S, e⟩ := okRepr_v h2
    exact ⟨S, fun hs => ⟨e hs, e hs⟩⟩
/-- the answer, where the two are the same -/
def cReprSame (ans : Bool) (f g : CE) : CE := fun σ hs => (f σ hs).bind fun a hs => match g σ hs with
  | .ok b hs => if sameR a b = true then .ok (.bl ans) hs else .stuck
  | _ => .stuck
theorem cReprSame_ref {ans : Bool} {k : D → D → List Ob → R D} (hk : ∀ (S : Str) (hs : List Ob), k (.str S) (.str S) hs = .ok (.bl ans) hs) {f g : CE} {σ : Sl} {hs : List Ob} (h : cReprSame ans f g σ hs ≠ .stuck) :
    c2 k (cF (one kRepr) (cCons f cNil)) (cF (one kRepr) (cCons g cNil)) σ hs = cReprSame ans f g σ hs := by
  unfold cReprSame at h ⊢
  unfold c2 cF cCons cNil
  cases ef : f σ hs with
  | stuck => rw [ef] at h; exact absurd rfl h
  | exn x h1 => rfl
  | ok a h1 =>
    rw [ef] at h
    simp only [bind_ok] at h ⊢
    cases eg : g σ h1 with
    | stuck => rw [eg] at h; exact absurd rfl h
    | exn x h2 => rw [eg] at h; exact absurd rfl h
    | ok b h2 =>
      rw [eg] at h
      dsimp only at h ⊢
      by_cases hs : sameR a b = true
      · obtain ⟨S, e⟩ := sameR_v hs
        rw [if_pos hs]
        simp [one, (e h1).1, (e h2).2, eg, hk]
      · rw [if_neg hs] at h
        exact absurd rfl h
theorem kEq_self (S : Str) (hs : List Ob) : kEq (.str S) (.str S) hs = .ok (.bl true) hs := by simp [kEq, scD]
theorem kNe_self (S : Str) (hs : List Ob) : kNe (.str S) (.str S) hs = .ok (.bl false) hs := by simp [kNe, scD]
section
variable {X : Cx} {E : XK} {e : Expr} {f g : CE} {ans : Bool} {k : D → D → List Ob → R D}
theorem same_imp {K : Kc} {τ : Lt} {H : Hp} {Q : VK} (hk : ∀ (S : Str) (hs : List Ob), k (.str S) (.str S) hs = .ok (.bl ans) hs) (h : tE K E (cReprSame ans f g) τ H Q) : tE K E (c2 k (cF (one kRepr) (cCons f cNil)) (cF (one kRepr) (cCons g cNil))) τ H Q := by
  obtain ⟨m, σ, hs, hr, rs, p⟩ := h
  exact ⟨m, σ, hs, hr, rs, by rw [cReprSame_ref hk fun z => by rw [z] at p; exact p]; exact p⟩
theorem s_reprEq (h : SE X E e (c2 kEq (cF (one kRepr) (cCons f cNil)) (cF (one kRepr) (cCons g cNil)))) : SE X E e (cReprSame true f g) := PE.imp h fun _ _ _ => same_imp kEq_self
theorem s_reprNe (h : SE X E e (c2 kNe (cF (one kRepr) (cCons f cNil)) (cF (one kRepr) (cCons g cNil)))) : SE X E e (cReprSame false f g) := PE.imp h fun _ _ _ => same_imp kNe_self
theorem st_reprEq (h : ST X E e (c2 kEq (cF (one kRepr) (cCons f cNil)) (cF (one kRepr) (cCons g cNil)))) : ST X E e (cReprSame true f g) := PT.imp h fun _ _ _ q => same_imp kEq_self q
theorem st_reprNe (h : ST X E e (c2 kNe (cF (one kRepr) (cCons f cNil)) (cF (one kRepr) (cCons g cNil)))) : ST X E e (cReprSame false f g) := PT.imp h fun _ _ _ q => same_imp kNe_self q
end
end PL

set_option Elab.async false
set_option linter.all false
set_option maxRecDepth 100000
set_option maxHeartbeats 4000000
set_option autoImplicit false
namespace PL
open PySem PySem.Spec PyProof.Rows L2
/-! ## an object of the heap is told from now on -/
theorem inv_track {X : Cx} {pins : List (Addr × Obj)} {τ : Lt} {H : Hp} {s : Shared} {a : Addr} {o : HO} (I : Inv X pins τ H s) (nH : H a = none) (n0 : X.s_0.heap.get? a = none) (nl : a ≠ X.env.locals) (nc : ∀ x c, X.env.cells.lookup x = some c → c ≠ a)
    (np : ∀ p ∈ X.pn ++ pins, p.1 ≠ a) (ok : ObjOk X.prog X.w (upd H a o) s.heap a o) : Inv X pins τ (upd H a o) s := by
  have ne : ∀ {b : Addr} {u : HO}, H b = some u → b ≠ a := fun {b u} e z => by rw [z, nH] at e; cases e
  have ne0 : ∀ {b : Addr} {u : Obj}, X.s_0.heap.get? b = some u → b ≠ a := fun {b u} e z => by rw [z, n0] at e; cases e
  refine ⟨I.ok, I.os, I.bare, ⟨I.base.keep, I.base.slot, fun b u e n hx => ?_, I.base.there, fun b xs e => ?_, fun b u xs e => ?_, fun b ps e => ?_⟩, I.loc, I.cell, ?_, fun x c e => ?_, fun p hp => ?_, fun b u e => ?_, I.len⟩
  · rw [upd_ne (ne0 e)]; exact I.base.free b u e n hx
  · have q := I.base.tups b xs e
    rw [upd_ne (ne q)]; exact q
  · have q := I.base.frzs b u xs e
    rw [upd_ne (ne q)]; exact q
  · obtain ⟨more, q⟩ := I.base.tbls b ps e
    exact ⟨more, by rw [upd_ne (ne q)]; exact q⟩
  · rw [upd_ne (Ne.symm nl)]; exact I.free
  · rw [upd_ne (nc x c e)]; exact I.freeC x c e
  · obtain ⟨e1, e2, e3⟩ := I.pin p hp
    exact ⟨e1, by rw [upd_ne (np p hp)]; exact e2, e3⟩
  · by_cases hb : b = a
    · subst hb
      rw [upd_same] at e; cases e
      exact ok
    · rw [upd_ne hb] at e
      exact (I.hok b u e).stay (fun c v _ q => q) (fun c q => by rw [upd_ne (ne q)]; exact q) fun c xs q => by rw [upd_ne (ne q)]; exact q
/-! ## closures -/
/-- the text of a lambda -/
structure LamD where
  n : Nat
  ps : List Str
  params : Arguments
  body : Expr
  scope : Scope
/-- at f: the function that a lambda makes, its code at b -/
def kloO (q : Str) (L : LamD) (cells : List (Str × Addr)) (f b : Addr) : HO := .ext fun h => ∃ pm ctv : Value, h.get? f = some (PySem.W.kla_obj "<lambda>" q L.params L.body L.scope (cloFrom cells L.scope.names []) pm b ctv)
def cloAt (q : Str) (cells : List (Str × Addr)) (own : List LamD) (c : CloT) : CloT := fun n f b => match own.find? (fun L => L.n == n) with
  | some L => some (kloO q L cells f b, LamX.CodeO b q)
  | none => c n f b
theorem klo_ok {P : Program} {w : World} {H : Hp} {h : Heap} {q : Str} {L : LamD} {cells : List (Str × Addr)} {f b : Addr} {pm ctv : Value} (e : h.get? f = some (PySem.W.kla_obj "<lambda>" q L.params L.body L.scope (cloFrom cells L.scope.names []) pm b ctv)) : ObjOk P w H h f (kloO q L cells f b) :=
  ⟨⟨pm, ctv, e⟩, ⟨_, e⟩, fun h1 h2 ⟨pm', ct', z⟩ k => ⟨pm', ct', k _ z⟩⟩
theorem klo_at {P : Program} {w : World} {H : Hp} {h : Heap} {q : Str} {L : LamD} {cells : List (Str × Addr)} {f b : Addr} (hok : HOk P w H h) (e : H f = some (kloO q L cells f b)) : ∃ pm ctv : Value, h.get? f = some (PySem.W.kla_obj "<lambda>" q L.params L.body L.scope (cloFrom cells L.scope.names []) pm b ctv) := by
  have x : ObjOk P w H h f (.ext fun h => ∃ pm ctv : Value, h.get? f = some (PySem.W.kla_obj "<lambda>" q L.params L.body L.scope (cloFrom cells L.scope.names []) pm b ctv)) := hok f _ e
  exact x.1
section
variable {X : Cx} {pins : List (Addr × Obj)} {τ : Lt} {H : Hp} {s : Shared}
/-- a new function of the heap is told -/
theorem track_fn {L : LamD} {H1 : Hp} {b : Addr} {pm ctv : Value} {h' : Heap} {tk : Nat} (I : Inv X pins τ H s) (I1 : Inv X pins τ H1 { s with heap := h', toks := tk }) {f : Addr} (hf : s.heap.objs.size ≤ f) (n1 : H1 f = none)
    (e : h'.get? f = some (PySem.W.kla_obj "<lambda>" (X.env.qual ++ "<lambda>") L.params L.body L.scope (cloFrom X.env.cells L.scope.names []) pm b ctv)) :
    Inv X pins τ (upd H1 f (kloO (X.env.qual ++ "<lambda>") L X.env.cells f b)) { s with heap := h', toks := tk } := by
  refine inv_track I1 n1 ?_ (fun z => ?_) (fun x c hc z => ?_) (fun p hp z => ?_) (klo_ok e)
  · cases q : X.s_0.heap.get? f with
    | none => rfl
    | some o => exact absurd (Nat.lt_of_lt_of_le (Heap.lt_size q) (Nat.le_trans I.sz hf)) (Nat.lt_irrefl _)
  · exact absurd (Nat.lt_of_lt_of_le (z ▸ I.lt) hf) (Nat.lt_irrefl _)
  · obtain ⟨v, o, ho, _⟩ := I.cell x c hc
    exact absurd (Nat.lt_of_lt_of_le (z ▸ Heap.lt_size ho) hf) (Nat.lt_irrefl _)
  · obtain ⟨ho, _⟩ := I.pin p hp
    exact absurd (Nat.lt_of_lt_of_le (z ▸ Heap.lt_size ho) hf) (Nat.lt_irrefl _)
/-- a lambda is made, and told -/
theorem lam_new {L : LamD} {T : List (Addr × Str)} {c P : Addr} {pos : Pos} {E : Value → Shared → Prop} {Q : Value → Shared → Prop} (I : Inv X pins τ H s) (TB : LamX.TabB X.base X.mg c P) (hcode : X.env.code = .ref c)
    (hm : (P, X.env.qual ++ "<lambda>") ∈ T) (hu : ∀ p ∈ T, p.1 = P → p.2 = X.env.qual ++ "<lambda>") (hT : LamX.Tabs T H) (hdef : defaultsOf L.params X.env = ([], [])) (hfree : ∀ y ∈ L.scope.names, y.2 = .free → ∃ c, X.env.cells.lookup y.1 = some c)
    (h : ∀ (f b : Addr) (H1 : Hp) (s1 : Shared), Inv X pins τ H1 s1 → (∀ a o, H a = some o → NT o → H1 a = some o) → (∀ a, H a ≠ none → H1 a ≠ none) → LamX.Tabs T H1 → H f = none → (H b = none ∨ ∃ o, H b = some o ∧ TbE o) →
      H1 f = some (kloO (X.env.qual ++ "<lambda>") L X.env.cells f b) → H1 b = some (LamX.CodeO b (X.env.qual ++ "<lambda>")) → Q (.ref f) s1) :
    wpAny (model X.prog X.w) X.A (eval (.Lambda L.params L.body L.scope pos) X.env) Q E s := by
  obtain ⟨ps, hP, tri, among⟩ := hT _ hm
  have hbP := TB.bm.keeps I.bk
  have gP : s.heap.get? P = some { cls := .none, data := .fields ps } := I.hok P _ hP
  have clok := closure_ok hfree
  refine PySem.W.kla_eval hdef ?_
  cases ec : codeAmong pos ps.toList with
  | some cv =>
    obtain ⟨b, rfl, hco⟩ := among pos cv ec
    refine PySem.W.kla_makeFunctionHit (mg := X.mg) (c := c) (P := P) (ps := ps) clok I.ok.glob (I.mod.glob.keeps I.bk) hcode (TB.code.keeps I.bk) gP tri ec hbP fun ctv h' tk kp sz => ?_
    have kp2 : ∀ a o, s.heap.get? a = some o → (h'.push (PySem.W.kla_obj "<lambda>" (X.env.qual ++ "<lambda>") L.params L.body L.scope (cloFrom X.env.cells L.scope.names []) ((X.mg "__name__").getD .none) b ctv)).get? a = some o := fun a o e => Heap.get?_push_of_some _ (kp a o e)
    have nf : H h'.objs.size = none := I.hok.fresh sz
    have keep : ∀ a o, H a = some o → upd H h'.objs.size (kloO (X.env.qual ++ "<lambda>") L X.env.cells h'.objs.size b) a = some o := fun a o e => by rw [upd_ne (ne_of_none e nf)]; exact e
    refine h h'.objs.size b _ _ (track_fn I (I.kept kp2) sz nf (Heap.get?_push_size _ rfl)) (fun a o e _ => keep a o e) (fun a ha => ?_) (tabs_all hT keep) nf (.inr ⟨_, hco, .inr ⟨_, rfl⟩⟩) upd_same (keep _ _ hco)
    cases e : H a with
    | none => exact absurd e ha
    | some o => rw [keep a o e]; exact fun z => by cases z
  | none =>
    refine PySem.W.kla_makeFunction (mg := X.mg) (c := c) (P := P) (ps := ps) clok I.ok.glob (I.mod.glob.keeps I.bk) hcode (TB.code.keeps I.bk) gP tri ec TB.gP hbP fun b ctv h' tk xb geb ltb rec tab => ?_
    obtain ⟨b2, oc, us, tq, eb, goc, doc, qoc⟩ := rec
    cases eb
    have sz : s.heap.objs.size ≤ h'.objs.size := Nat.le_trans geb (Nat.le_of_lt ltb)
    have nb : H b = none := I.hok.fresh geb
    have nPb : P ≠ b := ne_of_none hP nb
    have szf : ∀ a, a < s.heap.objs.size → a ≠ h'.objs.size := fun a l z => absurd (Nat.lt_of_lt_of_le (z ▸ l) sz) (Nat.lt_irrefl _)
    have n1 : h'.objs.size ≠ b := Nat.ne_of_gt ltb
    have n2 : h'.objs.size ≠ P := Ne.symm (szf P (Heap.lt_size gP))
    have I1 := LamX.inv_table (t' := tk) (q := X.env.qual ++ "<lambda>") (c := b) (more := #[rawInt pos.line, rawInt pos.col, .ref b]) (h' := h'.push (PySem.W.kla_obj "<lambda>" (X.env.qual ++ "<lambda>") L.params L.body L.scope (cloFrom X.env.cells L.scope.names []) ((X.mg "__name__").getD .none) b ctv)) I hP
      (fun a o ha e => Heap.get?_push_of_some _ (xb a o ha e)) (Heap.get?_push_of_some _ tab) geb ⟨oc, us, tq, Heap.get?_push_of_some _ goc, doc, qoc⟩
    have nf1 : upd (upd H P (.tbl (ps ++ #[rawInt pos.line, rawInt pos.col, .ref b]))) b (LamX.CodeO b (X.env.qual ++ "<lambda>")) h'.objs.size = none := by
      rw [upd_ne n1, upd_ne n2]
      exact I.hok.fresh sz
    have I2 := track_fn (L := L) (b := b) I I1 sz nf1 (Heap.get?_push_size _ rfl)
    have nf : H h'.objs.size = none := I.hok.fresh sz
    have keep : ∀ a o, H a = some o → (∀ us, o ≠ .tbl us) → upd (upd (upd H P (.tbl (ps ++ #[rawInt pos.line, rawInt pos.col, .ref b]))) b (LamX.CodeO b (X.env.qual ++ "<lambda>"))) h'.objs.size (kloO (X.env.qual ++ "<lambda>") L X.env.cells h'.objs.size b) a = some o := fun a o e nt => by
      rw [upd_ne (ne_of_none e nf), upd_ne (ne_of_none e nb), upd_ne fun z => nt ps (by rw [z] at e; exact Option.some.inj (e.symm.trans hP))]
      exact e
    have atP : upd (upd (upd H P (.tbl (ps ++ #[rawInt pos.line, rawInt pos.col, .ref b]))) b (LamX.CodeO b (X.env.qual ++ "<lambda>"))) h'.objs.size (kloO (X.env.qual ++ "<lambda>") L X.env.cells h'.objs.size b) P = some (.tbl (ps ++ #[rawInt pos.line, rawInt pos.col, .ref b])) := by
      rw [upd_ne (Ne.symm n2), upd_ne nPb, upd_same]
    have atb : upd (upd (upd H P (.tbl (ps ++ #[rawInt pos.line, rawInt pos.col, .ref b]))) b (LamX.CodeO b (X.env.qual ++ "<lambda>"))) h'.objs.size (kloO (X.env.qual ++ "<lambda>") L X.env.cells h'.objs.size b) b = some (LamX.CodeO b (X.env.qual ++ "<lambda>")) := by
      rw [upd_ne (Ne.symm n1), upd_same]
    have ext_ne : ∀ us φ, HO.ext φ ≠ .tbl us := fun _ _ z => nomatch z
    refine h h'.objs.size b _ _ I2 (fun a o e nt => keep a o e nt) (fun a ha => ?_) (fun p hp => ?_) nf (.inl nb) upd_same atb
    · cases e : H a with
      | none => exact absurd e ha
      | some o =>
        by_cases hb : a = P
        · rw [hb, atP]; exact fun z => by cases z
        · by_cases tt : ∃ us, o = .tbl us
          · have : upd (upd (upd H P (.tbl (ps ++ #[rawInt pos.line, rawInt pos.col, .ref b]))) b (LamX.CodeO b (X.env.qual ++ "<lambda>"))) h'.objs.size (kloO (X.env.qual ++ "<lambda>") L X.env.cells h'.objs.size b) a = some o := by
              rw [upd_ne (ne_of_none e nf), upd_ne (ne_of_none e nb), upd_ne hb]; exact e
            rw [this]; exact fun z => by cases z
          · rw [keep a o e fun us z => tt ⟨us, z⟩]; exact fun z => by cases z
    · by_cases hb : p.1 = P
      · rw [hu p hp hb, hb]
        have el : (ps ++ #[rawInt pos.line, rawInt pos.col, .ref b]).toList = ps.toList ++ [rawInt pos.line, rawInt pos.col, .ref b] := by simp
        refine ⟨_, atP, by rw [el]; exact PySem.TriplesOk_snoc _ _ _ _ tri, fun p' cv hcv => ?_⟩
        rw [el] at hcv
        rcases LamX.among_app _ tri hcv with z | z
        · obtain ⟨c0, e1, e2⟩ := among p' cv z
          exact ⟨c0, e1, keep _ _ e2 fun us => ext_ne us _⟩
        · exact ⟨b, z, atb⟩
      · obtain ⟨ps', a1, a2, a3⟩ := hT p hp
        refine ⟨ps', by rw [upd_ne (ne_of_none a1 nf), upd_ne (ne_of_none a1 nb), upd_ne hb]; exact a1, a2, fun p' cv hcv => ?_⟩
        obtain ⟨c0, e1, e2⟩ := a3 p' cv hcv
        exact ⟨c0, e1, keep _ _ e2 fun us => ext_ne us _⟩
end
end PL

set_option Elab.async false
set_option linter.all false
set_option maxRecDepth 100000
set_option maxHeartbeats 4000000
set_option autoImplicit false
namespace PL
open PySem PySem.Spec PyProof.Rows L2
/-! ## the names of a lambda: its parameters, captured ones, globals -/
structure LamP (sc scope : Scope) (ps : List Str) : Prop where
  kind : scope.kind = .function
  co : scope.isCoroutine = false
  gen : scope.isGenerator = false
  own : ∀ y ∈ scope.names, y.2 ≠ .cell ∧ (y.2 = .local → y.1 ∈ ps)
  par : ∀ p ∈ ps, scope.names.lookup p = some .local
  free : ∀ y ∈ scope.names, y.2 = .free → sc.names.lookup y.1 = some .cell ∨ sc.names.lookup y.1 = some .free
def lamPB (sc scope : Scope) (ps : List Str) : Bool :=
  decide (scope.kind = .function) && !scope.isCoroutine && !scope.isGenerator && (scope.names.all fun y => !decide (y.2 = .cell) && (!decide (y.2 = .local) || decide (y.1 ∈ ps)) && (!decide (y.2 = .free) || decide (sc.names.lookup y.1 = some .cell) || decide (sc.names.lookup y.1 = some .free))) &&
    ps.all fun p => decide (scope.names.lookup p = some .local)
theorem lamP_by {sc scope : Scope} {ps : List Str} (h : lamPB sc scope ps = true) : LamP sc scope ps := by
  unfold lamPB at h
  simp only [Bool.and_eq_true, Bool.or_eq_true, Bool.not_eq_true', decide_eq_true_eq, decide_eq_false_iff_not, List.all_eq_true] at h
  obtain ⟨⟨⟨⟨h1, h2⟩, h3⟩, h4⟩, h5⟩ := h
  refine ⟨h1, h2, h3, fun y hy => ⟨(h4 y hy).1.1, fun e => (h4 y hy).1.2.resolve_left fun z => z e⟩, h5, fun y hy e => ?_⟩
  rcases (h4 y hy).2 with (z | z) | z
  · exact absurd e z
  · exact .inl z
  · exact .inr z
theorem LamP.has {X : Cx} {scope : Scope} {ps : List Str} (L : LamP X.env.scope scope ps) (ok : X.Ok) : ∀ y ∈ scope.names, y.2 = .free → ∃ c, X.env.cells.lookup y.1 = some c := fun y hy e => ok.has _ ((L.free y hy e).elim .inl .inr)
section
variable {X : Cx} {E : XK} {L : LamD} {c P : Addr} {pos : Pos}
/-- a lambda is what its number says -/
theorem s_lam (TB : LamX.TabB X.base X.mg c P) (hcode : X.env.code = .ref c) (hm : (P, X.env.qual ++ "<lambda>") ∈ E.t) (hu : ∀ p ∈ E.t, p.1 = P → p.2 = X.env.qual ++ "<lambda>")
    (hE : ∀ f b, E.c L.n f b = some (kloO (X.env.qual ++ "<lambda>") L X.env.cells f b, LamX.CodeO b (X.env.qual ++ "<lambda>"))) (LP : LamP X.env.scope L.scope L.ps) (hdef : defaultsOf L.params X.env = ([], [])) :
    SE X E (.Lambda L.params L.body L.scope pos) (cK (.clo L.n)) := by
  refine ⟨fun pins s τ H Q I ⟨m, σ, hs, hr, rs, p⟩ => lam_new I TB hcode hm hu hr.tab hdef (LP.has I.ok) fun f b H1 s1 I1 kp st tb nf nb ef eb => ⟨.ref f, H1, I1, rfl, ?_⟩⟩
  have stp : Stp m H m H1 := ⟨⟨[], by simp⟩, rfl, fun a o _ e nt => kp a o e nt, fun a ha => st a (hr.live a ha), st⟩
  refine p (.ref f) m H1 stp (hr.keep stp (fun a ha => ?_) tb) (.clo (hE f b) ef eb nt_ext nt_ext (hr.notin nf) ?_)
  · obtain ⟨i, hi, e⟩ := List.getElem_of_mem ha
    cases q : H a with
    | none => exact absurd q (hr.live a ha)
    | some o => exact kp a o q fun ps z => hr.plain (i := i) (by rw [List.getElem?_eq_getElem hi, e]) o q (.inl ⟨ps, z⟩)
  · rcases nb with nb | ⟨o, nb, t⟩
    · exact hr.notin nb
    · refine ⟨fun z => ?_, fun z => ?_⟩
      · obtain ⟨i, hi, e⟩ := List.getElem_of_mem z
        exact hr.plain (i := i) (by rw [List.getElem?_eq_getElem hi, e]) o nb t
      · obtain ⟨⟨o2, e2, n2⟩, _⟩ := hr.hid b z
        rw [nb] at e2; cases e2
        exact n2 t
end
/-! ## the context of a lambda's body -/
section
variable {X : Cx} {pins : List (Addr × Obj)} {τ τ1 : Lt} {H HZ : Hp} {s s1 : Shared}
theorem lam_start {A : Around} {outer : List Env} {E : L2.XK} {scope : Scope} {ps : List Str} {f b : Addr} {h₁ : Heap} {tk : Nat} {fs : List Addr} {m₁ : Str → Option Value} (I : Inv X pins τ H s) (L : LamP X.env.scope scope ps) (e0 : Env0 X.prog X.w X.K X.mg X.base A outer s1 HZ) (hd : A.handled = none)
    (un : Un fs [] H HZ s.heap s1.heap) (hns : h₁.Ns s1.heap.objs.size m₁) (kp : ∀ b o, s1.heap.get? b = some o → h₁.get? b = some o) (hlen : τ1.length = τ.length)
    (hτ : ∀ (i : Nat) (x : Str) (v : V), X.N[i]? = some x → τ1[i]? = some (some v) → Vis scope x → (∃ u, RelV v u ∧ scope.names.lookup x = some .local ∧ m₁ x = some u) ∨ (scope.names.lookup x = some .free ∧ τ[i]? = some (some v))) :
    Inv (LamX.lamCx X A outer s1 HZ E scope f b) [] τ1 HZ { s1 with heap := h₁, toks := tk } := by
  have fr := L.has I.ok
  have up : ∀ {y c}, (cloFrom X.env.cells scope.names []).lookup y = some c → X.env.cells.lookup y = some c := fun {y c} e => by
    rcases cloFrom_mem (PySem.mem_of_lookup e) with z | ⟨z1, z2⟩
    · cases z
    · obtain ⟨c1, hc⟩ := fr _ z1 rfl
      have hc : X.env.cells.lookup y = some c1 := hc
      rw [z2, hc]
      rfl
  have down : ∀ {y}, scope.names.lookup y = some .free → ∃ c, (cloFrom X.env.cells scope.names []).lookup y = some c := fun {y} e => mem_lookup (cloFrom_has (cells := X.env.cells) (acc := []) (PySem.mem_of_lookup e))
  have cellS : ∀ {c : Addr} {v : Option Value}, H c = none → s.heap.IsCell c v → h₁.IsCell c v := fun {c v} n ⟨o, ho, hd⟩ => by
    obtain ⟨sl, q⟩ := un.any ho n (by simp)
    exact ⟨_, kp _ _ q, hd⟩
  have noX : ∀ a : Addr, a ∉ (LamX.lamCx X A outer s1 HZ E scope f b).ex := fun a z => absurd (show a ∈ ([] : List Addr) from z) (by simp)
  have okC : (LamX.lamCx X A outer s1 HZ E scope f b).Ok := by
    refine ⟨e0.mod, L.kind, rfl, rfl, Nat.le_refl _, fun y z c e1 e2 => I.ok.inj y z c (up e1) (up e2), fun y hy => ?_, fun y c z _ => ?_, fun _ => hd, Around.frames_deeper e0.frames, .inr ⟨rfl, rfl⟩, fun a z => absurd z (noX a), e0.bs, e0.bsz, fun a _ _ => noX a, fun a z => absurd z (noX a), e0.funs, e0.frf⟩
    · rcases (show scope.names.lookup y = some .cell ∨ scope.names.lookup y = some .free from hy) with hy | hy
      · exact absurd rfl (L.own _ (PySem.mem_of_lookup hy)).1
      · exact down hy
    · exact nomatch (show false = true from z)
  refine ⟨okC, rfl, e0.bare, Un.kept kp, ⟨_, hns, fun i y v e1 e2 e3 => ?_⟩, fun y c e => ?_, e0.hok.fresh (Nat.le_refl _), fun y c e => ?_, fun q hq => absurd (show q ∈ ([] : List (Addr × Obj)) ++ [] from hq) (by simp), e0.hok.kept kp, hlen.trans I.len⟩
  · rcases hτ i y v e1 e2 e3 with ⟨u, r, hl, hm⟩ | ⟨hf, ht⟩
    · exact ⟨u, r, .inl ⟨hl, hm⟩⟩
    · obtain ⟨mA, hn, hl⟩ := I.loc
      have fv := L.free _ (PySem.mem_of_lookup hf) rfl
      obtain ⟨u, r, q⟩ := hl i y v e1 ht (fv.elim (fun z => .inr (.inl z)) (fun z => .inr (.inr z)))
      obtain ⟨c2, h2⟩ := down hf
      have c1 := up h2
      refine ⟨u, r, .inr ⟨.inr hf, c2, h2, ?_⟩⟩
      rcases q with ⟨k', _⟩ | ⟨_, c3, e', z⟩
      · have k' : X.env.scope.names.lookup y = some .local := k'
        rcases fv with k2 | k2 <;> rw [show X.env.scope.names.lookup y = _ from k2] at k' <;> cases k'
      · rw [c1] at e'
        cases e'
        exact cellS (I.freeC y _ c1) z
  · obtain ⟨v, z⟩ := I.cell y c (up e)
    exact ⟨v, cellS (I.freeC y c (up e)) z⟩
  · obtain ⟨v, o, ho, hd⟩ := I.cell y c (up e)
    exact un.free c o ho (I.freeC y c (up e)) (by simp)
end
/-- what is raised in a lambda's body leaves it -/
theorem pass_lam {X : Cx} {A : Around} {outer : List Env} {s : Shared} {H : Hp} {E : XK} {scope : Scope} {f b : Addr} : Passes (L2.CX X.prog X.w) (LamX.lamCx X A outer s H E.e scope f b) E.e :=
  passes_call (X := LamX.lamCx X A outer s H E.e scope f b) (takes_of (E := E.e) rfl rfl rfl rfl) fun _ _ _ _ h => h
/-- the slots of a lambda's parameters -/
def setPs : Sl → List Nat → List D → Sl
  | σ, i :: is, d :: ds => setPs (σ.set i (some d)) is ds
  | σ, _, _ => σ
def setPsV : Lt → List Nat → List V → Lt
  | τ, i :: is, d :: ds => setPsV (τ.set i (some d)) is ds
  | τ, _, _ => τ
/-- the meaning of a lambda with its parameters in the slots is, in a frame with the slots σ -/
def phOf (is : List Nat) (f : CE) (σ : Sl) : Fn := fun ds hs => if ds.length = is.length then f (setPs σ is ds) hs else .stuck
theorem setPs_ok {K : Kc} {H : Hp} {m : Mp} : ∀ (is : List Nat) {σ : Sl} {τ : Lt} {ds : List D} {vs : List V}, RSl K H m σ τ → RDs K H m ds vs → RSl K H m (setPs σ is ds) (setPsV τ is vs)
  | [], _, _, _, _, rs, .nil => rs
  | [], _, _, _, _, rs, .cons _ _ => rs
  | _ :: _, _, _, _, _, rs, .nil => rs
  | i :: is, _, _, _, _, rs, .cons r t => setPs_ok is (rs.set i r) t
/-! ## what is promised of closures -/
/-- a closure n of the frames under way does what ph says, from the state s on -/
def CloP (P : Program) (w : World) (K : PySem.W.Frag) (mg : Str → Option Value) (base : Heap) (T : List (Addr × Str)) (q kk : Nat) (c : CloT) (r : List (Sl × Lt)) (ph : Nat → Fn) (s : Shared) (H : Hp) : Prop :=
  ∀ (A' : Around) (outer' : List Env) (s' : Shared) (H' : Hp) (fs : List Addr) (us : List Value) (vs : List V) (m' : Mp) (hs' : List Ob) (n : Nat) (f : Addr) (ds : List D) (Q : VK) (E : XK), EOk T q E → E.c = c → (∀ p ∈ r, p ∈ E.r) → Room kk A' → A'.guards = some [] → Env0 P w K mg base A' outer' s' H' →
    Un fs [] H H' s.heap s'.heap → Vals vs us → HR ⟨K, E.c, E.t, E.r⟩ H' m' hs' → RD ⟨K, E.c, E.t, E.r⟩ H' m' (.clo n) (.ref f) → RDs ⟨K, E.c, E.t, E.r⟩ H' m' ds vs → Post ⟨K, E.c, E.t, E.r⟩ E m' H' (ph n ds hs') Q →
    codeAny (model P w) A' (.call (.ref f) ⟨us, []⟩) (CR (L2.CX P w) outer' P w H' s' Q E.e) s'
theorem CloP.step {P : Program} {w : World} {K : PySem.W.Frag} {mg : Str → Option Value} {base : Heap} {T : List (Addr × Str)} {q kk : Nat} {c : CloT} {r r' : List (Sl × Lt)} {ph : Nat → Fn} {s s1 : Shared} {H H1 : Hp} {fs : List Addr} (C : CloP P w K mg base T q kk c r ph s H)
    (un : Un fs [] H H1 s.heap s1.heap) (hr : ∀ p ∈ r, p ∈ r') : CloP P w K mg base T q kk c r' ph s1 H1 := fun A' outer' s' H' fs' us vs m' hs' n f ds Q E ho hc hr' room g e0 un' rv hh rd rds p =>
  C A' outer' s' H' (fs ++ fs') us vs m' hs' n f ds Q E ho hc (fun p hp => hr' p (hr p hp)) room g e0 ((un.mono (fun b hb => List.mem_append_left _ hb) fun _ z => z).trans (un'.mono (fun b hb => List.mem_append_right _ hb) fun _ z => z)) rv hh rd rds p
theorem kc_callFun {prog : Program} {w : World} {A : Around} {R : Result → Shared → Prop} {s : Shared} {f b : Addr} {args : Args} {q : Str} {L : LamD} {cl : List (Str × Addr)} {pm ctv : Value} (room : A.depth < recursionLimit)
    (hf : s.heap.get? f = some (PySem.W.kla_obj "<lambda>" q L.params L.body L.scope cl pm b ctv)) (hb : s.heap.CodeRec (.ref b) q) (co : L.scope.isCoroutine = false) (gen : L.scope.isGenerator = false) (kind : L.scope.kind = .function) {binds : List (Str × Value)}
    (hbind : bindArgs (PySem.W.kla_fn "<lambda>" q L.params L.body L.scope cl pm (.ref b) ctv) args = pure binds) (hcell : ∀ y ∈ L.scope.names, y.2 ≠ .cell) (hloc : ∀ y ∈ binds, L.scope.names.lookup y.1 = some .local) (nl : s.heap.NoLimit)
    (h : ∀ h₁, h₁.Ns s.heap.objs.size (fun x => binds.reverse.lookup x) → (∀ a o, s.heap.get? a = some o → h₁.get? a = some o) →
      codeAny (model prog w) A (.expr L.body (PySem.W.envX q L.scope s.heap.objs.size f (.ref b) cl)) R { s with heap := h₁, toks := s.toks + binds.length }) :
    codeAny (model prog w) A (.call (.ref f) args) R s := by
  refine PySem.W.kla_callFunE room hf rfl co gen rfl hb ?_
  rw [hbind]
  refine wpAny_pure (wpAny_newFunctionEnv hcell hloc (fun h₁ hns hsb => ⟨nl.fresh _ hsb, ?_⟩) kind)
  exact h h₁ hns fun a o e => hsb.extBut a o (Nat.ne_of_lt (Heap.lt_size e)) (Heap.get?_push_of_some _ e)
/-- what a lambda of the frame does -/
structure LamOk (X : Cx) (E : XK) (T : List (Addr × Str)) (q kk : Nat) (L : LamD) (is : List Nat) (g : CE) : Prop where
  nd : X.N.Nodup
  scope : LamP X.env.scope L.scope L.ps
  few : L.ps = [] ∧ is = [] ∨ ∃ p i, L.ps = [p] ∧ is = [i] ∧ X.N[i]? = some p
  bind : ∀ (q : Str) (cl : List (Str × Addr)) (pm cv ctv : Value) (us : List Value), us.length = L.ps.length → bindArgs (PySem.W.kla_fn "<lambda>" q L.params L.body L.scope cl pm cv ctv) ⟨us, []⟩ = pure (L.ps.zip us)
  body : ∀ (A : Around) (outer : List Env) (s : Shared) (H : Hp) (E' : XK) (f b : Addr), EOk T q E' → E'.c = E.c → Room kk (A.deeper (LamX.lamEnv X L.scope s.heap.objs.size f b)) → (A.deeper (LamX.lamEnv X L.scope s.heap.objs.size f b)).guards = some [] → SE (LamX.lamCx X A outer s H E'.e L.scope f b) E' L.body g
theorem clo_run {X : Cx} {pins : List (Addr × Obj)} {τ : Lt} {σ : Sl} {H : Hp} {s : Shared} {E : XK} {T : List (Addr × Str)} {q kk : Nat} {L : LamD} {is : List Nat} {g : CE} (lo : LamOk X E T q kk L is g) (I : Inv X pins τ H s)
    (hE : ∀ f b, E.c L.n f b = some (kloO (X.env.qual ++ "<lambda>") L X.env.cells f b, LamX.CodeO b (X.env.qual ++ "<lambda>")))
    {A' : Around} {outer' : List Env} {s' : Shared} {H' : Hp} {fs : List Addr} {us : List Value} {vs : List V} {m' : Mp} {hs' : List Ob} {f : Addr} {ds : List D} {Q : VK} {E' : XK} (ho : EOk T q E') (hc : E'.c = E.c) (hr : (σ, τ) ∈ E'.r) (room : Room (kk + 1) A') (hg : A'.guards = some []) (e0 : Env0 X.prog X.w X.K X.mg X.base A' outer' s' H')
    (un : Un fs [] H H' s.heap s'.heap) (rv : Vals vs us) (hh : HR ⟨X.K, E'.c, E'.t, E'.r⟩ H' m' hs') (rd : RD ⟨X.K, E'.c, E'.t, E'.r⟩ H' m' (.clo L.n) (.ref f)) (rds : RDs ⟨X.K, E'.c, E'.t, E'.r⟩ H' m' ds vs) (p : Post ⟨X.K, E'.c, E'.t, E'.r⟩ E' m' H' (phOf is g σ ds hs') Q) :
    codeAny (model X.prog X.w) A' (.call (.ref f) ⟨us, []⟩) (CR (L2.CX X.prog X.w) outer' X.prog X.w H' s' Q E'.e) s' := by
  have LP := lo.scope
  cases rd with
  | @clo _ b _ o ec ef eb _ _ _ _ =>
    have ec : E'.c L.n f b = some o := ec
    rw [hc, hE] at ec
    cases ec
    obtain ⟨pm, ctv, gf⟩ := klo_at e0.hok ef
    obtain ⟨⟨oc, ws, tq, goc, doc, qoc⟩, _, _⟩ := (show ObjOk X.prog X.w H' s'.heap b (LamX.CodeO b (X.env.qual ++ "<lambda>")) from e0.hok b _ eb)
    unfold phOf at p
    obtain ⟨hlen, p⟩ := p.ite
    have hps : L.ps.length = is.length := by rcases lo.few with ⟨e1, e2⟩ | ⟨_, _, e1, e2, _⟩ <;> rw [e1, e2] <;> rfl
    have hul : us.length = L.ps.length := by rw [← rv.length, ← rds.length, hlen, hps]
    have nl : s'.heap.NoLimit := e0.mod.nolimit.keeps fun b o e => (e0.bs b o e).1
    refine kc_callFun room.depth gf ⟨b, oc, ws, tq, rfl, goc, doc, qoc⟩ LP.co LP.gen LP.kind (lo.bind _ _ _ _ _ us hul) (fun y hy => (LP.own y hy).1) (fun y hy => LP.par _ (List.of_mem_zip hy).1) nl fun h₁ hns kp => ?_
    have J : Inv (LamX.lamCx X A' outer' s' H' E'.e L.scope f b) [] (setPsV τ is vs) H' { s' with heap := h₁, toks := s'.toks + (L.ps.zip us).length } := by
      refine lam_start I LP e0 room.hd un hns kp ?_ fun i x v e1 e2 e3 => ?_
      · rcases lo.few with ⟨_, ei⟩ | ⟨_, i, _, ei, _⟩
        · rw [ei]; rfl
        · rw [ei]
          cases vs with
          | nil => rfl
          | cons v vs => exact List.length_set
      · have fre : L.scope.names.lookup x = some .local ∨ L.scope.names.lookup x = some .free := by
          rcases e3 with z | z | z
          · exact .inl z
          · exact absurd rfl (LP.own _ (PySem.mem_of_lookup z)).1
          · exact .inr z
        rcases lo.few with ⟨ep, ei⟩ | ⟨p0, i0, ep, ei, hN⟩
        · rw [ei] at e2
          refine .inr ⟨fre.resolve_left fun z => ?_, e2⟩
          have := (LP.own _ (PySem.mem_of_lookup z)).2 rfl
          rw [ep] at this
          simp at this
        · rw [ep] at hul
          cases rv with
          | nil => cases hul
          | @cons v0 u0 vs0 us0 r0 rt =>
            cases rt with
            | cons _ _ => cases hul
            | nil =>
              rw [ei] at e2
              have e2 : (τ.set i0 (some v0))[i]? = some (some v) := e2
              by_cases hi : i0 = i
              · subst hi
                rw [hN] at e1
                cases e1
                have hl : i0 < τ.length := by
                  have := (List.getElem?_eq_some_iff.mp e2).1
                  rwa [List.length_set] at this
                rw [List.getElem?_set_self hl] at e2
                cases e2
                refine .inl ⟨u0, r0, LP.par _ (by rw [ep]; simp), ?_⟩
                rw [ep]
                simp
              · rw [List.getElem?_set_ne hi] at e2
                refine .inr ⟨fre.resolve_left fun z => ?_, e2⟩
                have hx := (LP.own _ (PySem.mem_of_lookup z)).2 rfl
                rw [ep] at hx
                have hx : x = p0 := List.mem_singleton.mp hx
                rw [hx] at e1
                exact hi (nd_ix lo.nd hN e1)
    have ps := (lo.body A' outer' s' H' E' f b ho hc (room.deeper _) hg).run [] _ _ H' Q J ⟨m', setPs σ is ds, hs', hh, setPs_ok is (hh.fr _ hr) rds, p⟩
    refine PySem.W.kla_codeExpr (wpAny_mono ps (fun v s2 h => ?_) fun e s2 h => h)
    obtain ⟨w', H2, J2, rv2, q2⟩ := h
    exact ⟨w', H2, J2.os, J2.bare, J2.base, J2.hok, rv2, q2⟩
end PL

set_option Elab.async false
set_option linter.all false
set_option maxRecDepth 100000
set_option maxHeartbeats 4000000
set_option autoImplicit false
namespace PL
open PySem PySem.Spec PyProof.Rows L2
/-! ## the same data, more or fewer closures known -/
section
variable {f : PySem.W.Frag} {c c' : CloT} {t t' : List (Addr × Str)} {r r' : List (Sl × Lt)} {H : Hp} {m : Mp}
theorem excO_f {K K' : Kc} (h : K.f = K'.f) {n : Nat} {a dx : Addr} : excO K n a dx = excO K' n a dx := by rw [h]
mutual
theorem RD.up (h : ∀ n a b o, c n a b = some o → c' n a b = some o) : ∀ {d : D} {v : V}, RD ⟨f, c, t, r⟩ H m d v → RD ⟨f, c', t', r'⟩ H m d v
  | _, _, .non => .non
  | _, _, .bl b => .bl b
  | _, _, .int i => .int i
  | _, _, .str x => .str x
  | _, _, .tup z q => .tup z (RDs.up h q)
  | _, _, .fl z n q => .fl z n (RDs.up h q)
  | _, _, .fd z n q => .fd z n (RDk.up h q)
  | _, _, .frz z q => .frz z (RDs.up h q)
  | _, _, .ref z => .ref z
  | _, _, .exc z1 z2 o1 o2 q => .exc z1 z2 o1 o2 (RD.up h q)
  | _, _, .clo e z1 z2 n1 n2 o1 o2 => .clo (h _ _ _ _ e) z1 z2 n1 n2 o1 o2
  | _, _, .ins z1 z2 o1 o2 q => .ins z1 z2 o1 o2 (RDf.up h q)
  | _, _, .ft z n q => .ft z n (RDt.up h q)
theorem RDs.up (h : ∀ n a b o, c n a b = some o → c' n a b = some o) : ∀ {d : List D} {v : List V}, RDs ⟨f, c, t, r⟩ H m d v → RDs ⟨f, c', t', r'⟩ H m d v
  | _, _, .nil => .nil
  | _, _, .cons a b => .cons (RD.up h a) (RDs.up h b)
theorem RDk.up (h : ∀ n a b o, c n a b = some o → c' n a b = some o) : ∀ {d : List (Key × D)} {v : List (Key × V)}, RDk ⟨f, c, t, r⟩ H m d v → RDk ⟨f, c', t', r'⟩ H m d v
  | _, _, .nil => .nil
  | _, _, .cons a b => .cons (RD.up h a) (RDk.up h b)
theorem RDf.up (h : ∀ n a b o, c n a b = some o → c' n a b = some o) : ∀ {d : List (Nat × D)} {v : List (Str × V)}, RDf ⟨f, c, t, r⟩ H m d v → RDf ⟨f, c', t', r'⟩ H m d v
  | _, _, .nil => .nil
  | _, _, .cons a b => .cons (RD.up h a) (RDf.up h b)
theorem RDt.up (h : ∀ n a b o, c n a b = some o → c' n a b = some o) : ∀ {d : List (List Key × D)} {v : List (List Key × V)}, RDt ⟨f, c, t, r⟩ H m d v → RDt ⟨f, c', t', r'⟩ H m d v
  | _, _, .nil => .nil
  | _, _, .cons a b => .cons (RD.up h a) (RDt.up h b)
end
/-! no closure of a number that p tells -/
mutual
def noC (p : Nat → Bool) : D → Bool
  | .tup xs => noCs p xs
  | .fl xs => noCs p xs
  | .frz xs => noCs p xs
  | .fd xs => noCk p xs
  | .exc _ v => noC p v
  | .ins _ xs => noCf p xs
  | .ft xs => noCt p xs
  | .clo n => !p n
  | .non => true
  | .bl _ => true
  | .int _ => true
  | .str _ => true
  | .ref _ => true
def noCs (p : Nat → Bool) : List D → Bool
  | [] => true
  | d :: ds => noC p d && noCs p ds
def noCk (p : Nat → Bool) : List (Key × D) → Bool
  | [] => true
  | (_, d) :: ds => noC p d && noCk p ds
def noCf (p : Nat → Bool) : List (Nat × D) → Bool
  | [] => true
  | (_, d) :: ds => noC p d && noCf p ds
def noCt (p : Nat → Bool) : List (List Key × D) → Bool
  | [] => true
  | (_, d) :: ds => noC p d && noCt p ds
end
def noCO (p : Nat → Bool) : Ob → Bool
  | .lst xs => noCs p xs
  | .dct xs => noCk p xs
  | .ins _ xs => noCf p xs
  | .dcT xs => noCt p xs
mutual
theorem RD.dn {p : Nat → Bool} (h : ∀ n, p n = false → ∀ a b o, c n a b = some o → c' n a b = some o) : ∀ {d : D} {v : V}, RD ⟨f, c, t, r⟩ H m d v → noC p d = true → RD ⟨f, c', t', r'⟩ H m d v
  | _, _, .non, _ => .non
  | _, _, .bl b, _ => .bl b
  | _, _, .int i, _ => .int i
  | _, _, .str x, _ => .str x
  | _, _, .tup z q, e => .tup z (RDs.dn h q (by simpa [noC] using e))
  | _, _, .fl z n q, e => .fl z n (RDs.dn h q (by simpa [noC] using e))
  | _, _, .fd z n q, e => .fd z n (RDk.dn h q (by simpa [noC] using e))
  | _, _, .frz z q, e => .frz z (RDs.dn h q (by simpa [noC] using e))
  | _, _, .ref z, _ => .ref z
  | _, _, .exc z1 z2 o1 o2 q, e => .exc z1 z2 o1 o2 (RD.dn h q (by simpa [noC] using e))
  | _, _, .clo k z1 z2 n1 n2 o1 o2, e => .clo (h _ (by simpa [noC] using e) _ _ _ k) z1 z2 n1 n2 o1 o2
  | _, _, .ins z1 z2 o1 o2 q, e => .ins z1 z2 o1 o2 (RDf.dn h q (by simpa [noC] using e))
  | _, _, .ft z n q, e => .ft z n (RDt.dn h q (by simpa [noC] using e))
theorem RDs.dn {p : Nat → Bool} (h : ∀ n, p n = false → ∀ a b o, c n a b = some o → c' n a b = some o) : ∀ {d : List D} {v : List V}, RDs ⟨f, c, t, r⟩ H m d v → noCs p d = true → RDs ⟨f, c', t', r'⟩ H m d v
  | _, _, .nil, _ => .nil
  | _, _, .cons a b, e => by
    simp only [noCs, Bool.and_eq_true] at e
    exact .cons (RD.dn h a e.1) (RDs.dn h b e.2)
theorem RDk.dn {p : Nat → Bool} (h : ∀ n, p n = false → ∀ a b o, c n a b = some o → c' n a b = some o) : ∀ {d : List (Key × D)} {v : List (Key × V)}, RDk ⟨f, c, t, r⟩ H m d v → noCk p d = true → RDk ⟨f, c', t', r'⟩ H m d v
  | _, _, .nil, _ => .nil
  | _, _, .cons a b, e => by
    simp only [noCk, Bool.and_eq_true] at e
    exact .cons (RD.dn h a e.1) (RDk.dn h b e.2)
theorem RDf.dn {p : Nat → Bool} (h : ∀ n, p n = false → ∀ a b o, c n a b = some o → c' n a b = some o) : ∀ {d : List (Nat × D)} {v : List (Str × V)}, RDf ⟨f, c, t, r⟩ H m d v → noCf p d = true → RDf ⟨f, c', t', r'⟩ H m d v
  | _, _, .nil, _ => .nil
  | _, _, .cons a b, e => by
    simp only [noCf, Bool.and_eq_true] at e
    exact .cons (RD.dn h a e.1) (RDf.dn h b e.2)
theorem RDt.dn {p : Nat → Bool} (h : ∀ n, p n = false → ∀ a b o, c n a b = some o → c' n a b = some o) : ∀ {d : List (List Key × D)} {v : List (List Key × V)}, RDt ⟨f, c, t, r⟩ H m d v → noCt p d = true → RDt ⟨f, c', t', r'⟩ H m d v
  | _, _, .nil, _ => .nil
  | _, _, .cons a b, e => by
    simp only [noCt, Bool.and_eq_true] at e
    exact .cons (RD.dn h a e.1) (RDt.dn h b e.2)
end
theorem RO.up (h : ∀ n a b o, c n a b = some o → c' n a b = some o) {o : Ob} {a : Addr} (q : RO ⟨f, c, t, r⟩ H m o a) : RO ⟨f, c', t', r'⟩ H m o a := by
  cases o with
  | lst xs => obtain ⟨vs, e, q⟩ := q; exact ⟨vs, e, q.up h⟩
  | dct xs => obtain ⟨vs, e, q⟩ := q; exact ⟨vs, e, q.up h⟩
  | ins k xs => obtain ⟨dx, vs, e, e2, o2, q⟩ := q; exact ⟨dx, vs, e, e2, o2, q.up h⟩
  | dcT xs => obtain ⟨vs, e, q⟩ := q; exact ⟨vs, e, q.up h⟩
theorem RO.dn {p : Nat → Bool} (h : ∀ n, p n = false → ∀ a b o, c n a b = some o → c' n a b = some o) {o : Ob} {a : Addr} (q : RO ⟨f, c, t, r⟩ H m o a) (e : noCO p o = true) : RO ⟨f, c', t', r'⟩ H m o a := by
  cases o with
  | lst xs => obtain ⟨vs, z, q⟩ := q; exact ⟨vs, z, q.dn h e⟩
  | dct xs => obtain ⟨vs, z, q⟩ := q; exact ⟨vs, z, q.dn h e⟩
  | ins k xs => obtain ⟨dx, vs, z, e2, o2, q⟩ := q; exact ⟨dx, vs, z, e2, o2, q.dn h e⟩
  | dcT xs => obtain ⟨vs, z, q⟩ := q; exact ⟨vs, z, q.dn h e⟩
theorem RSl.up (h : ∀ n a b o, c n a b = some o → c' n a b = some o) {σ : Sl} {τ : Lt} (q : RSl ⟨f, c, t, r⟩ H m σ τ) : RSl ⟨f, c', t', r'⟩ H m σ τ := ⟨q.1, fun i d e => by
  obtain ⟨v, h1, h2⟩ := q.2 i d e
  exact ⟨v, h1, h2.up h⟩⟩
theorem HR.up (h : ∀ n a b o, c n a b = some o → c' n a b = some o) {hs : List Ob} (q : HR ⟨f, c, t, r⟩ H m hs) (fr : ∀ p ∈ r', RSl ⟨f, c', t, r'⟩ H m p.1 p.2) : HR ⟨f, c', t, r'⟩ H m hs :=
  ⟨q.len, q.nd, fun i o a e1 e2 => (q.ob i o a e1 e2).up h, q.hid, q.tab, fr⟩
theorem HR.dn {p : Nat → Bool} (h : ∀ n, p n = false → ∀ a b o, c n a b = some o → c' n a b = some o) {hs : List Ob} (q : HR ⟨f, c, t, r⟩ H m hs) (e : hs.all (noCO p) = true) (fr : ∀ p ∈ r', RSl ⟨f, c', t, r'⟩ H m p.1 p.2) : HR ⟨f, c', t, r'⟩ H m hs :=
  ⟨q.len, q.nd, fun i o a e1 e2 => (q.ob i o a e1 e2).dn h (List.all_eq_true.mp e o (List.mem_of_getElem? e1)), q.hid, q.tab, fr⟩
end
/-! ## defs that get closures -/
structure FnH (P : Program) (w : World) (K : PySem.W.Frag) (mg : Str → Option Value) (base : Heap) (T : List (Addr × Str)) (q kk k : Nat) (f : Addr) (fd : FuncData) (ps : List Str) (fn : (Nat → Fn) → Fn) : Prop where
  go : ∀ (ph : Nat → Fn) (A : Around) (outer : List Env) (s : Shared) (args : Args) (us : List Value) (vs : List V) (m : Mp) (H : Hp) (hs : List Ob) (ds : List D) (Q : VK) (E : XK), EOk T q E → CloP P w K mg base T q kk E.c E.r ph s H → Room k A → A.guards = some [] → Env0 P w K mg base A outer s H →
    BindsTo s fd args (ps.zip us) → us.length = ps.length → Vals vs us → HR ⟨K, E.c, E.t, E.r⟩ H m hs → RDs ⟨K, E.c, E.t, E.r⟩ H m ds vs → Post ⟨K, E.c, E.t, E.r⟩ E m H (fn ph ds hs) Q →
    codeAny (model P w) A (.call (.ref f) args) (CR (L2.CX P w) outer P w H s Q E.e) s
  len : ∀ (ph : Nat → Fn) (ds : List D) (hs : List Ob), fn ph ds hs ≠ .stuck → ds.length = ps.length
theorem FnH.mono {P : Program} {w : World} {K : PySem.W.Frag} {mg : Str → Option Value} {base : Heap} {T : List (Addr × Str)} {q kk j k : Nat} {f : Addr} {fd : FuncData} {ps : List Str} {fn : (Nat → Fn) → Fn} (F : FnH P w K mg base T q kk j f fd ps fn) (h : j ≤ k) : FnH P w K mg base T q kk k f fd ps fn :=
  ⟨fun ph A outer s args us vs m H hs ds Q E ht cp r => F.go ph A outer s args us vs m H hs ds Q E ht cp (r.mono h), F.len⟩
structure CalH (P : Program) (w : World) (K : PySem.W.Frag) (mg : Str → Option Value) (base : Heap) (T : List (Addr × Str)) (q kk k : Nat) (x : Str) (params : Arguments) (ps : List Str) (fn : (Nat → Fn) → Fn) : Prop where
  ex : ∃ (f : Addr) (fd : FuncData) (nm qual : Str) (body : List Stmt) (scope : Scope), FnH P w K mg base T q kk k f fd ps fn ∧ mg x = some (.ref f) ∧ FunD K nm qual params body scope [] [] f fd
section
variable {P : Program} {w : World} {K : PySem.W.Frag} {mg : Str → Option Value} {base : Heap} {T : List (Addr × Str)} {q kk k : Nat} {x qual : Str} {params : Arguments} {body : List Stmt} {scope : Scope} {f : Addr} {fd : FuncData} {N ps : List Str}
theorem FnH.of {cs : (Nat → Fn) → CS} (F : FunD K x qual params body scope [] [] f fd) (S : FnScope N ps scope)
    (hb : ∀ (ph : Nat → Fn) (cdv : Value) (A : Around) (outer : List Env) (s : Shared) (H : Hp) (E : XK), EOk T q E → CloP P w K mg base T q kk E.c E.r ph s H → Room k (A.deeper (envOfC qual scope s.heap.objs.size f cdv)) → (A.deeper (envOfC qual scope s.heap.objs.size f cdv)).guards = some [] →
      SSs (cxG P w K mg base N qual scope f cdv A outer s H E) E body (cs ph)) : FnH P w K mg base T q kk (k + 1) f fd ps (fun ph => mkFn ps.length N.length (cs ph)) := by
  obtain ⟨oc, od, dV, kV, doc, pm, an, cdv, ct, osl, rfl, lk, hcd, _, _⟩ := F.ex
  refine ⟨fun ph A outer s args us vs m H hs ds Q E ht cp room hg e0 bind hul rel hr rd p => ?_, fun ph ds hs h => Decidable.byContradiction fun z => h (by unfold mkFn; rw [if_neg z])⟩
  have hvl : vs.length = ps.length := by rw [rel.length]; exact hul
  have kin : K.In s.heap := e0.mod.kin.keeps fun b o e => (e0.bs b o e).1
  have nl : s.heap.NoLimit := e0.mod.nolimit.keeps fun b o e => (e0.bs b o e).1
  have kinds : ∀ y ∈ ps.zip us, scope.names.lookup y.1 = some .local ∨ (scope.names.lookup y.1 = some .cell ∧ ((cellsFrom (s.heap.objs.size + 1) scope.names []).lookup y.1).isSome = true) := by
    rintro ⟨y1, y2⟩ hy
    rcases S.par y1 (List.of_mem_zip hy).1 with z | z
    · exact .inl z
    · exact .inr ⟨z, PySem.W.cellsFrom_some _ _ _ (.inl z)⟩
  refine codeAny_call_function room.depth (kin _ _ lk) rfl S.co S.gen rfl (PySem.W.codeRec_of kin hcd) (bind _ _ _ _ (wpAny_newFunctionEnv_cells S.kind kinds fun env henv s1 ic => ?_))
  subst henv
  refine ⟨nl.keeps ic.toInCall.keep, codeAny_func ?_⟩
  have I : Inv (cxG P w K mg base N qual scope f cdv A outer s H E) [] (start N vs) H s1 := inv_start S room.hd e0 hvl rel ic
  have z := mk_ok hr rd p
  refine wpAny_mono ((hb ph cdv A outer s H E ht cp (room.deeper _) hg).run [] s1 (start N vs) H _ I z) (fun fl s2 h => ?_) fun e s2 h => h
  cases fl with
  | ret u => obtain ⟨v, σ2, H2, J, rv, q2⟩ := h; exact ⟨v, H2, J.os, J.bare, J.base, J.hok, rv, q2⟩
  | next => obtain ⟨σ2, H2, J, q2⟩ := h; exact ⟨.non, H2, J.os, J.bare, J.base, J.hok, rfl, q2⟩
  | brk => obtain ⟨_, _, _, q2⟩ := h; exact q2.elim
  | cont => obtain ⟨_, _, _, q2⟩ := h; exact q2.elim
end
/-- a wish with one more frame -/
abbrev XK.push (E : XK) (p : Sl × Lt) : XK := ⟨E.e, E.c, E.t, p :: E.r⟩
theorem EOk.push {T : List (Addr × Str)} {q : Nat} {E : XK} {p : Sl × Lt} (h : EOk T q E) : EOk T q (E.push p) := ⟨h.t, h.c, h.fa⟩
theorem Post.push {X : Cx} {E : XK} {p0 : Sl × Lt} {m : Mp} {H : Hp} {r : R D} {Q : VK} (p : Post (kc X E) E m H r Q) : Post (kc X (E.push p0)) (E.push p0) m H r Q := by
  have back : ∀ {H' : Hp} {m' : Mp} {hs : List Ob}, HR (kc X (E.push p0)) H' m' hs → HR (kc X E) H' m' hs := fun {H' m' hs} h => h.up (fun _ _ _ _ e => e) fun p hp => (h.fr p (List.mem_cons_of_mem _ hp)).up fun _ _ _ _ e => e
  cases r with
  | ok d hs => exact fun v m' H' s h1 h2 => p v m' H' s (back h1) (h2.up fun _ _ _ _ e => e)
  | exn x hs =>
    intro c od m' H' s h1 h2
    refine p c od m' H' s (back h1) ?_
    cases x with
    | exc n v =>
      obtain ⟨e1, d, w, e2, o, e3, q⟩ := h2
      exact ⟨e1, d, w, e2, o, e3, q.up fun _ _ _ _ e => e⟩
    | _ => exact h2.elim
  | stuck => exact p
/-- f(e, ..), f a def that gets closures: lams tells what those of this frame do -/
def cFH (fn : (Nat → Fn) → Fn) (lams : Sl → Nat → Fn) (a : CA) : CE := fun σ hs => (a σ hs).bind fun ds hs => fn (lams σ) ds hs
/-- closures of a frame, told at every state of it -/
def CloF (X : Cx) (E : XK) (T : List (Addr × Str)) (q kk : Nat) (lams : Sl → Nat → Fn) : Prop :=
  ∀ (pins : List (Addr × Obj)) (τ : Lt) (σ : Sl) (s : Shared) (H : Hp), Inv X pins τ H s → CloP X.prog X.w X.K X.mg X.base T q kk E.c ((σ, τ) :: E.r) (lams σ) s H
section
variable {X : Cx} {E : XK} {T : List (Addr × Str)} {q kk k : Nat} {x : Str} {params : Arguments} {ps : List Str} {fn : (Nat → Fn) → Fn} {lams : Sl → Nat → Fn} {p pos : Pos} {e : Expr} {es : List Expr} {g : CA}
theorem tA_keep {a : CA} {k : Sl → List D → List Ob → R D} {Q : VK} {K : Kc} {E : XK} {H : Hp} {τ : Lt} (h : tE K E (fun σ hs => (a σ hs).bind fun ds hs => k σ ds hs) τ H Q) : tA K E a τ H fun vs H1 => ∃ m σ hs ds, HR K H1 m hs ∧ RSl K H1 m σ τ ∧ RDs K H1 m ds vs ∧ Post K E m H1 (k σ ds hs) Q := by
  obtain ⟨m, σ, hs, hr, rs, p⟩ := h
  refine ⟨m, σ, hs, hr, rs, ?_⟩
  dsimp only at p
  cases e : a σ hs with
  | ok ds hs1 =>
    rw [e] at p
    exact fun v m1 H1 s1 hr1 rd => ⟨m1, σ, hs1, ds, hr1, rs.mono s1, rd, Post.step s1 p⟩
  | exn x hs1 => rw [e] at p; exact p
  | stuck => rw [e] at p; exact p
theorem s_callH (c : CalH X.prog X.w X.K X.mg X.base T q kk k x params ps fn) (ht : EOk T q E) (room : Room k X.A) (hgd : X.A.guards = some []) (hx : Passes (L2.CX X.prog X.w) X E.e) (bn : BindN params ps) (cf : CloF X E T q kk lams) (ha : SA X E (e :: es) g) (hg : Gl X x := by rfl)
    (hdb : (x == ("__debug__" : Str)) = false := by decide) (he : starEach (e :: es) X.env = (false, eval e X.env) :: starEach es X.env := by rfl) (hpl : (backTo pos (starEach es X.env)).any (·.1) = false := by rfl) :
    SE X E (.Call (.Name x p) (e :: es) [] pos) (cFH fn lams g) := by
  obtain ⟨f, fd, nm, qual, body, scope, G, gx, F⟩ := c.ex
  refine ⟨fun pins s τ H Q I h => wpAny_Call_Name_kw (ld_glob I hg gx (PySem.W.callWith_K (h₀ := X.base) I.ok.mod.kin F.kp (thn (ha.run pos pins s τ H _ I (tA_keep (k := fun σ ds hs => fn (lams σ) ds hs) (τ := τ) h)) fun us s1 ⟨vs, H1, I1, r, m, σ, hs, ds, hr, rs, rd, q⟩ => ⟨I1.kIn, ?_⟩) he hpl) hdb)⟩
  have hl : us.length = ps.length := by rw [← r.length, ← rd.length]; exact G.len _ ds hs (post_len q)
  have hr2 : HR (kc X (E.push (σ, τ))) H1 m hs := hr.up (fun _ _ _ _ e => e) fun p hp => by
    rcases List.mem_cons.mp hp with z | z
    · rw [z]; exact rs.up fun _ _ _ _ e => e
    · exact (hr.fr p z).up fun _ _ _ _ e => e
  refine wpAny_call (codeAny_mono (G.go (lams σ) X.A X.stack s1 ⟨us, []⟩ us vs m H1 hs ds Q (E.push (σ, τ)) ht.push (cf pins τ σ s1 H1 I1) room hgd I1.env0 (FunD.bindG F bn s1 us hl) hl r hr2 (rd.up fun _ _ _ _ e => e) q.push) fun r s2 h => ?_)
  cases r with
  | error e => exact hx pins τ H1 s1 e s2 I1 h
  | ok fl => cases fl with
    | ret u => exact I1.after h
    | next => exact h.elim
    | brk => exact h.elim
    | cont => exact h.elim
end
/-- the closures that a def got -/
theorem CloP.frame {P : Program} {w : World} {K : PySem.W.Frag} {mg : Str → Option Value} {base : Heap} {T : List (Addr × Str)} {q kk : Nat} {N : List Str} {qual : Str} {scope : Scope} {f : Addr} {cdv : Value} {A : Around} {outer : List Env} {s : Shared} {H : Hp} {E : XK} {ph : Nat → Fn}
    (C : CloP P w K mg base T q kk E.c E.r ph s H) : CloF (cxG P w K mg base N qual scope f cdv A outer s H E) E T q kk (fun _ => ph) := fun pins τ σ s1 H1 I => C.step I.base fun p hp => List.mem_cons_of_mem _ hp
/-- those of the frame's own lambdas -/
def phL (own : List (LamD × List Nat × CE)) (σ : Sl) (n : Nat) : Fn := match own.find? (fun L => L.1.n == n) with
  | some L => phOf L.2.1 L.2.2 σ
  | none => fun _ _ => .stuck
theorem find_map {own : List (LamD × List Nat × CE)} {n : Nat} : (own.map (·.1)).find? (fun L => L.n == n) = (own.find? fun L => L.1.n == n).map (·.1) := by
  induction own with
  | nil => rfl
  | cons a l ih =>
    rw [List.map_cons, List.find?_cons, List.find?_cons]
    cases (a.1.n == n) with
    | true => rfl
    | false => exact ih
theorem clo_own {X : Cx} {E : XK} {T : List (Addr × Str)} {q kk : Nat} {own : List (LamD × List Nat × CE)} {c0 : CloT} (hE : E.c = cloAt (X.env.qual ++ "<lambda>") X.env.cells (own.map (·.1)) c0) (lo : ∀ L ∈ own, LamOk X E T q kk L.1 L.2.1 L.2.2) : CloF X E T q (kk + 1) (phL own) := by
  intro pins τ σ s H I A' outer' s' H' fs us vs m' hs' n f ds Q E' ho hc hr room g e0 un rv hh rd rds p
  unfold phL at p
  cases e : own.find? (fun L => L.1.n == n) with
  | none => rw [e] at p; exact p.elim
  | some L =>
    rw [e] at p
    have hn : L.1.n = n := eq_of_beq (show (L.1.n == n) = true from List.find?_some (p := fun L : LamD × List Nat × CE => L.1.n == n) e)
    subst hn
    refine clo_run (lo L (List.mem_of_find?_eq_some e)) I (fun f b => ?_) ho hc (hr _ List.mem_cons_self) room g e0 un rv hh rd rds p
    rw [hE]
    unfold cloAt
    rw [find_map, e]
    rfl
/-! ## a closure is called -/
def cClo (ph : Nat → Fn) (f : CE) (g : CA) : CE := fun σ hs => (f σ hs).bind fun d hs => match d with
  | .clo n => (g σ hs).bind fun ds hs => ph n ds hs
  | _ => .stuck
section
variable {X : Cx} {E : XK} {T : List (Addr × Str)} {q kk : Nat} {ph : Nat → Fn} {i : Nat} {x : Str} {p pos : Pos} {e : Expr} {es : List Expr} {g : CA}
theorem clo_fn {K : Kc} {E : XK} {P : Program} {w : World} {H : Hp} {m : Mp} {h : Heap} {n : Nat} {v : V} (ht : EOk T q E) (hk : K.c = E.c) (hok : HOk P w H h) (r : RD K H m (.clo n) v) : ∃ f, v = .ref f ∧ PySem.W.FnAt f h := by
  cases r with
  | @clo a b _ o ec ef eb _ _ _ _ =>
    rw [hk] at ec
    obtain ⟨φ, e1, e2⟩ := ht.fa _ _ _ _ ec
    rw [e1] at ef
    have x : ObjOk P w H h a (.ext φ) := hok a _ ef
    exact ⟨a, rfl, e2 h x.1⟩
/-- x(e, ..), x a name that holds a closure that the def got -/
theorem s_clo (i : Nat) (cf : ∀ (pins : List (Addr × Obj)) (τ : Lt) (s : Shared) (H : Hp), Inv X pins τ H s → CloP X.prog X.w X.K X.mg X.base T q kk E.c E.r ph s H) (ht : EOk T q E) (room : Room kk X.A) (hgd : X.A.guards = some []) (hx : Passes (L2.CX X.prog X.w) X E.e)
    (ha : SA X E (e :: es) g) (hN : X.N[i]? = some x := by rfl) (hv : Vis X.env.scope x := by first | exact Or.inl rfl | exact Or.inr (Or.inl rfl) | exact Or.inr (Or.inr rfl)) (hd : (x == ("__debug__" : Str)) = false := by decide) (hcd : (x == ("__classdict__" : Str)) = false := by decide)
    (he : starEach (e :: es) X.env = (false, eval e X.env) :: starEach es X.env := by rfl) (hpl : (backTo pos (starEach es X.env)).any (·.1) = false := by rfl) : SE X E (.Call (.Name x p) (e :: es) [] pos) (cClo ph (cV i) g) := by
  refine ⟨fun pins s τ H Q I ⟨m, σ, hs, hr, rs, pp⟩ => ?_⟩
  unfold cClo cV at pp
  cases ei : σ[i]? with
  | none => rw [ei] at pp; exact pp.elim
  | some o =>
    cases o with
    | none => rw [ei] at pp; exact pp.elim
    | some d =>
      rw [ei] at pp
      cases d with
      | clo n =>
        obtain ⟨v, hv1, rd⟩ := rs.2 i _ ei
        refine wpAny_Call_Name_kw (thn ((pe_var (pos := p) (i := i) hN hv hd hcd).run pins s τ H (fun w H1 => w = v ∧ H1 = H) I ⟨v, hv1, rfl, rfl⟩) fun u s1 ⟨w, H1, I1, r1, e1, e2⟩ => ?_)
        subst e1 e2
        obtain ⟨f, rfl, fa⟩ := clo_fn ht rfl I1.hok rd
        obtain rfl : u = Value.ref f := r1
        refine PySem.W.callWith_F fa (thn (ha.run pos pins s1 τ H1 (fun vs H2 => ∃ m σ hs ds, HR (kc X E) H2 m hs ∧ RSl (kc X E) H2 m σ τ ∧ RD (kc X E) H2 m (.clo n) (.ref f) ∧ RDs (kc X E) H2 m ds vs ∧ Post (kc X E) E m H2 (ph n ds hs) Q) I1 ⟨m, σ, hs, hr, rs, ?_⟩) fun us s2 ⟨vs, H2, I2, r, m2, σ2, hs2, ds, hr2, rs2, rd2, rds, q2⟩ => ⟨?_, ?_⟩) he hpl
        · dsimp only at pp
          rw [bind_ok] at pp
          cases eg : g σ hs with
          | ok ds hs1 =>
            rw [eg] at pp
            exact fun vs m1 H1' s1 hr1 rds => ⟨m1, σ, hs1, ds, hr1, rs.mono s1, rd.mono s1, rds, Post.step s1 pp⟩
          | exn y hs1 => rw [eg] at pp; exact pp
          | stuck => rw [eg] at pp; exact pp
        · obtain ⟨f', e', fa'⟩ := clo_fn ht rfl I2.hok rd2
          cases e'
          exact fa'
        · refine wpAny_call (codeAny_mono (cf pins τ s2 H2 I2 X.A X.stack s2 H2 [] us vs m2 hs2 n f ds Q E ht rfl (fun _ h => h) room hgd I2.env0 Un.refl r hr2 rd2 rds q2) fun r s3 h => ?_)
          cases r with
          | error e => exact hx pins τ H2 s2 e s3 I2 h
          | ok fl => cases fl with
            | ret u => exact I2.after h
            | next => exact h.elim
            | brk => exact h.elim
            | cont => exact h.elim
      | _ => exact pp.elim
/-- x() -/
theorem s_clo0 (i : Nat) (cf : ∀ (pins : List (Addr × Obj)) (τ : Lt) (s : Shared) (H : Hp), Inv X pins τ H s → CloP X.prog X.w X.K X.mg X.base T q kk E.c E.r ph s H) (ht : EOk T q E) (room : Room kk X.A) (hgd : X.A.guards = some []) (hx : Passes (L2.CX X.prog X.w) X E.e)
    (hN : X.N[i]? = some x := by rfl) (hv : Vis X.env.scope x := by first | exact Or.inl rfl | exact Or.inr (Or.inl rfl) | exact Or.inr (Or.inr rfl)) (hd : (x == ("__debug__" : Str)) = false := by decide) (hcd : (x == ("__classdict__" : Str)) = false := by decide) : SE X E (.Call (.Name x p) [] [] pos) (cClo ph (cV i) cNil) := by
  refine ⟨fun pins s τ H Q I ⟨m, σ, hs, hr, rs, pp⟩ => ?_⟩
  unfold cClo cV at pp
  cases ei : σ[i]? with
  | none => rw [ei] at pp; exact pp.elim
  | some o =>
    cases o with
    | none => rw [ei] at pp; exact pp.elim
    | some d =>
      rw [ei] at pp
      cases d with
      | clo n =>
        obtain ⟨v, hv1, rd⟩ := rs.2 i _ ei
        refine wpAny_Call_Name_kw (thn ((pe_var (pos := p) (i := i) hN hv hd hcd).run pins s τ H (fun w H1 => w = v ∧ H1 = H) I ⟨v, hv1, rfl, rfl⟩) fun u s1 ⟨w, H1, I1, r1, e1, e2⟩ => ?_)
        subst e1 e2
        obtain ⟨f, rfl, fa⟩ := clo_fn ht rfl I1.hok rd
        obtain rfl : u = Value.ref f := r1
        refine PySem.W.callWith_F0 fa (wpAny_call (codeAny_mono (cf pins τ s1 H1 I1 X.A X.stack s1 H1 [] [] [] m hs n f [] Q E ht rfl (fun _ h => h) room hgd I1.env0 Un.refl .nil hr rd .nil pp) fun r s3 h => ?_))
        cases r with
        | error e => exact hx pins τ H1 s1 e s3 I1 h
        | ok fl => cases fl with
          | ret u => exact I1.after h
          | next => exact h.elim
          | brk => exact h.elim
          | cont => exact h.elim
      | _ => exact pp.elim
end
end PL

set_option Elab.async false
set_option linter.all false
set_option maxRecDepth 100000
set_option maxHeartbeats 4000000
set_option autoImplicit false
namespace PL
open PySem PySem.Spec PyProof.Rows L2
/-! ## defs that make closures -/
def ownN (q0 q1 n : Nat) : Bool := decide (q0 ≤ n) && decide (n < q1)
def chkR (p : Nat → Bool) : R D → R D
  | .ok d hs => if (noC p d && hs.all (noCO p)) = true then .ok d hs else .stuck
  | .exn x hs => if (noC p x && hs.all (noCO p)) = true then .exn x hs else .stuck
  | .stuck => .stuck
def mkFnL (q0 q1 np N : Nat) (cs : CS) : Fn := fun ds hs => chkR (ownN q0 q1) (mkFn np N cs ds hs)
/-- the wish with a frame's own closures -/
abbrev XK.own (E : XK) (q : Str) (cells : List (Str × Addr)) (own : List LamD) : XK := ⟨E.e, cloAt q cells own E.c, E.t, E.r⟩
theorem cloAt_old {q : Str} {cells : List (Str × Addr)} {own : List LamD} {c : CloT} {n : Nat} {a b : Addr} (h : ∀ L ∈ own, L.n ≠ n) : cloAt q cells own c n a b = c n a b := by
  unfold cloAt
  cases e : own.find? (fun L => L.n == n) with
  | none => rfl
  | some L => exact absurd (eq_of_beq (show (L.n == n) = true from List.find?_some (p := fun L : LamD => L.n == n) e)) (h L (List.mem_of_find?_eq_some e))
section
variable {T : List (Addr × Str)} {q0 q1 : Nat} {E : XK} {q : Str} {cells : List (Str × Addr)} {own : List LamD}
theorem EOk.ownd (ht : EOk T q1 E) (hq : q0 ≤ q1) (ho : ∀ L ∈ own, q0 ≤ L.n ∧ L.n < q1) : EOk T q0 (E.own q cells own) := by
  refine ⟨ht.t, fun n hn a b => ?_, fun n a b o e => ?_⟩
  · exact (cloAt_old (n := n) fun L hL z => absurd (show q0 ≤ n by rw [← z]; exact (ho L hL).1) (Nat.not_le_of_lt hn)).trans (ht.c n (Nat.lt_of_lt_of_le hn hq) a b)
  · have e : cloAt q cells own E.c n a b = some o := e
    unfold cloAt at e
    cases ef : own.find? (fun L => L.n == n) with
    | none => rw [ef] at e; exact ht.fa n a b o e
    | some L =>
      rw [ef] at e
      cases e
      exact ⟨_, rfl, fun h ⟨pm, ct, z⟩ => ⟨_, _, _, _, z⟩⟩
theorem post_own {K : PySem.W.Frag} {m : Mp} {H : Hp} {hs : List Ob} {r : R D} {Q : VK} (ht : EOk T q1 E) (ho : ∀ L ∈ own, q0 ≤ L.n ∧ L.n < q1) (hr : HR ⟨K, E.c, E.t, E.r⟩ H m hs) (p : Post ⟨K, E.c, E.t, E.r⟩ E m H (chkR (ownN q0 q1) r) Q) :
    Post ⟨K, (E.own q cells own).c, E.t, E.r⟩ (E.own q cells own) m H r Q := by
  have dn : ∀ n, ownN q0 q1 n = false → ∀ a b o, (E.own q cells own).c n a b = some o → E.c n a b = some o := fun n hn a b o e => by
    rwa [show (E.own q cells own).c n a b = E.c n a b from cloAt_old fun L hL z => by
      have := ho L hL
      rw [z] at this
      unfold ownN at hn
      simp [this.1, this.2] at hn] at e
  have fr : ∀ {m' : Mp} {H' : Hp}, Stp m H m' H' → ∀ p ∈ E.r, RSl ⟨K, E.c, E.t, E.r⟩ H' m' p.1 p.2 := fun s p hp => (hr.fr p hp).mono s
  cases r with
  | stuck => exact p
  | ok d hs1 =>
    unfold chkR at p
    obtain ⟨c, p⟩ := p.ite
    obtain ⟨c1, c2⟩ := Bool.and_eq_true_iff.mp c
    exact fun v m' H' s h1 h2 => p v m' H' s (h1.dn dn c2 (fr s)) (h2.dn dn c1)
  | exn x hs1 =>
    unfold chkR at p
    obtain ⟨c, p⟩ := p.ite
    obtain ⟨c1, c2⟩ := Bool.and_eq_true_iff.mp c
    intro cv od m' H' s h1 h2
    refine p cv od m' H' s (h1.dn dn c2 (fr s)) ?_
    cases x with
    | exc n v =>
      obtain ⟨e1, d, w, e2, o, e3, z⟩ := h2
      exact ⟨e1, d, w, e2, o, e3, z.dn dn (by simpa [noC] using c1)⟩
    | _ => exact h2.elim
end
/-- the code object of a function of the top -/
def codeF (K : PySem.W.Frag) (f : Addr) : Option Addr := match K.lookup f with
  | some ⟨_, _, .func fd, _⟩ => (match fd.code with
    | .ref c => some c
    | _ => none)
  | _ => none
section
variable {P : Program} {w : World} {K : PySem.W.Frag} {mg : Str → Option Value} {base : Heap} {T : List (Addr × Str)} {k : Nat} {x qual : Str} {params : Arguments} {body : List Stmt} {scope : Scope} {f : Addr} {fd : FuncData} {N ps : List Str} {cs : CS}
theorem FnG.ofL (q0 q1 : Nat) (hq : q0 ≤ q1) (own : List LamD) (ho : ∀ L ∈ own, q0 ≤ L.n ∧ L.n < q1) {c : Addr} (F : FunD K x qual params body scope [] [] f fd) (hc : codeF K f = some c) (S : FnScope N ps scope)
    (hb : ∀ (A : Around) (outer : List Env) (s : Shared) (H : Hp) (E : XK), EOk T q0 E → (∃ c0, E.c = cloAt (qual ++ ".<locals>." ++ "<lambda>") (cellsFrom (s.heap.objs.size + 1) scope.names []) own c0) → Room k (A.deeper (envOfC qual scope s.heap.objs.size f (.ref c))) → (A.deeper (envOfC qual scope s.heap.objs.size f (.ref c))).guards = some [] →
      SSs (cxG P w K mg base N qual scope f (.ref c) A outer s H E) E body cs) : FnG P w K mg base T q1 (k + 1) f fd ps (mkFnL q0 q1 ps.length N.length cs) := by
  obtain ⟨oc, od, dV, kV, doc, pm, an, cdv, ct, osl, rfl, lk, hcd, _, _⟩ := F.ex
  obtain rfl : cdv = .ref c := by
    unfold codeF at hc
    rw [lk] at hc
    dsimp only [PySem.W.fnOf] at hc
    cases cdv <;> simp at hc
    rw [hc]
  have st : ∀ {ds : List D} {hs : List Ob}, mkFnL q0 q1 ps.length N.length cs ds hs ≠ .stuck → ds.length = ps.length := fun {ds hs} h => Decidable.byContradiction fun z => h (by unfold mkFnL mkFn; rw [if_neg z]; rfl)
  refine ⟨fun A outer s args us vs m H hs ds Q E ht room hg e0 bind hul rel hr rd p => ?_, fun ds hs h => st h⟩
  have hvl : vs.length = ps.length := by rw [rel.length]; exact hul
  have kin : K.In s.heap := e0.mod.kin.keeps fun b o e => (e0.bs b o e).1
  have nl : s.heap.NoLimit := e0.mod.nolimit.keeps fun b o e => (e0.bs b o e).1
  have kinds : ∀ y ∈ ps.zip us, scope.names.lookup y.1 = some .local ∨ (scope.names.lookup y.1 = some .cell ∧ ((cellsFrom (s.heap.objs.size + 1) scope.names []).lookup y.1).isSome = true) := by
    rintro ⟨y1, y2⟩ hy
    rcases S.par y1 (List.of_mem_zip hy).1 with z | z
    · exact .inl z
    · exact .inr ⟨z, PySem.W.cellsFrom_some _ _ _ (.inl z)⟩
  refine codeAny_call_function room.depth (kin _ _ lk) rfl S.co S.gen rfl (PySem.W.codeRec_of kin hcd) (bind _ _ _ _ (wpAny_newFunctionEnv_cells S.kind kinds fun env henv s1 ic => ?_))
  subst henv
  refine ⟨nl.keeps ic.toInCall.keep, codeAny_func ?_⟩
  have I : Inv (cxG P w K mg base N qual scope f (.ref c) A outer s H E) [] (start N vs) H s1 := inv_start S room.hd e0 hvl rel ic
  have up : ∀ n a b o, E.c n a b = some o → (E.own (qual ++ ".<locals>." ++ "<lambda>") (cellsFrom (s.heap.objs.size + 1) scope.names []) own).c n a b = some o := fun n a b o e => by
    rw [show (E.own (qual ++ ".<locals>." ++ "<lambda>") (cellsFrom (s.heap.objs.size + 1) scope.names []) own).c n a b = E.c n a b from cloAt_old fun L hL z => by
      rw [ht.c n (by rw [← z]; exact (ho L hL).2) a b] at e; cases e]
    exact e
  have z := mk_ok (hr.up up fun p hp => (hr.fr p hp).up up) (rd.up up) (post_own (own := own) (q := qual ++ ".<locals>." ++ "<lambda>") (cells := cellsFrom (s.heap.objs.size + 1) scope.names []) ht ho hr p)
  refine wpAny_mono ((hb A outer s H (E.own (qual ++ ".<locals>." ++ "<lambda>") (cellsFrom (s.heap.objs.size + 1) scope.names []) own) (ht.ownd hq ho) ⟨E.c, rfl⟩ (room.deeper _) hg).run [] s1 (start N vs) H _ I z) (fun fl s2 h => ?_) fun e s2 h => h
  cases fl with
  | ret u => obtain ⟨v, σ2, H2, J, rv, q2⟩ := h; exact ⟨v, H2, J.os, J.bare, J.base, J.hok, rv, q2⟩
  | next => obtain ⟨σ2, H2, J, q2⟩ := h; exact ⟨.non, H2, J.os, J.bare, J.base, J.hok, rfl, q2⟩
  | brk => obtain ⟨_, _, _, q2⟩ := h; exact q2.elim
  | cont => obtain ⟨_, _, _, q2⟩ := h; exact q2.elim
end
theorem FnG.monoQ {P : Program} {w : World} {K : PySem.W.Frag} {mg : Str → Option Value} {base : Heap} {T : List (Addr × Str)} {q q' k : Nat} {f : Addr} {fd : FuncData} {ps : List Str} {fn : Fn} (F : FnG P w K mg base T q k f fd ps fn) (h : q ≤ q') : FnG P w K mg base T q' k f fd ps fn :=
  ⟨fun A outer s args us vs m H hs ds Q E ht => F.go A outer s args us vs m H hs ds Q E (ht.le h), F.len⟩
end PL

set_option Elab.async false
set_option linter.all false
set_option maxRecDepth 100000
set_option maxHeartbeats 4000000
set_option autoImplicit false
namespace PL
open PySem PySem.Spec PyProof.Rows L2
/-! ## the head of a law with tables of code objects -/
/-- the code object of a def of the top, and its table -/
def tabF (K : PySem.W.Frag) (x : Str) : Addr × Addr := match codeF K (He.ga K x) with
  | some c => (match K.lookup c with
    | some ⟨_, _, .fields vs, _⟩ => (match (vs[11]? : Option Value) with
      | some (.ref P) => (c, P)
      | _ => (0, 0))
    | _ => (0, 0))
  | none => (0, 0)
def isStrV : Value → Bool
  | .str _ _ => true
  | _ => false
def isIntV : Value → Bool
  | .int _ _ => true
  | _ => false
def isBoolV : Value → Bool
  | .bool _ => true
  | _ => false
def hdF (K : PySem.W.Frag) (p : Addr × Addr) : Bool := match K.lookup p.1 with
  | some ⟨.type c, _, .fields vs, _⟩ => decide (c = "code") && (decide (vs[11]? = some (.ref p.2)) && (isStrV (vs.getD 18 .none) && (isIntV (vs.getD 7 .none) && (isBoolV (vs.getD 9 .none) && (isIntV (vs.getD 10 .none) && decide (p.1 ≠ p.2))))))
  | _ => false
def emF (K : PySem.W.Frag) (P : Addr) : Bool := match K.lookup P with
  | some ⟨.none, none, .fields vs, sl⟩ => vs.isEmpty && sl.isEmpty
  | _ => false
theorem hdF_ok {K : PySem.W.Frag} {h : Heap} {p : Addr × Addr} (kin : K.In h) (c : hdF K p = true) : PySem.W.CodeHd h p.1 p.2 := by
  unfold hdF at c
  split at c
  · rename_i cn od vs sl e
    simp only [Bool.and_eq_true, decide_eq_true_eq] at c
    obtain ⟨c1, c2, c3, c4, c5, c6, c7⟩ := c
    subst c1
    have e2 : vs.getD 11 .none = .ref p.2 := by rw [Array.getD_eq_getD_getElem?, c2]; rfl
    cases q3 : vs.getD 18 .none <;> rw [q3] at c3 <;> first | (cases c3; done) | skip
    cases q4 : vs.getD 7 .none <;> rw [q4] at c4 <;> first | (cases c4; done) | skip
    cases q5 : vs.getD 9 .none <;> rw [q5] at c5 <;> first | (cases c5; done) | skip
    cases q6 : vs.getD 10 .none <;> rw [q6] at c6 <;> first | (cases c6; done) | skip
    exact ⟨_, vs, _, _, _, _, _, _, _, kin _ _ e, rfl, rfl, c2, e2, q3, q4, q5, q6, c7⟩
  · cases c
theorem emF_ok {K : PySem.W.Frag} {h : Heap} {P : Addr} (kin : K.In h) (c : emF K P = true) : h.get? P = some { cls := .none, data := .fields #[] } := by
  unfold emF at c
  split at c
  · rename_i vs sl e
    obtain ⟨c1, c2⟩ := Bool.and_eq_true_iff.mp c
    have e1 : vs = #[] := Array.isEmpty_iff.mp c1
    have e2 : sl = #[] := Array.isEmpty_iff.mp c2
    subst e1 e2
    exact kin _ _ e
  · cases c
/-- a part of the heap without some objects -/
def offF (K : PySem.W.Frag) (ts : List Addr) : PySem.W.Frag := K.filter fun p => !ts.contains p.1
theorem offF_look {K : PySem.W.Frag} {ts : List Addr} {a : Addr} : (offF K ts).lookup a = if ts.contains a = true then none else K.lookup a := by
  unfold offF
  induction K with
  | nil => simp
  | cons p K ih =>
    obtain ⟨b, o⟩ := p
    rw [List.filter_cons]
    by_cases hb : ts.contains b = true
    · rw [if_neg (by simp only [hb]; decide), ih, List.lookup_cons]
      by_cases e : a = b
      · subst e; rw [if_pos hb, if_pos hb]
      · rw [show (a == b) = false from by simpa using e]
    · have hb2 : ts.contains b = false := by simpa using hb
      rw [if_pos (by simp only [hb2]; decide), List.lookup_cons, List.lookup_cons, ih]
      by_cases e : a = b
      · subst e; rw [if_neg hb, if_neg hb, show (a == a) = true from by simp]
      · rw [show (a == b) = false from by simpa using e]
theorem offF_in {K : PySem.W.Frag} {ts : List Addr} {h : Heap} (kin : K.In h) : (offF K ts).In h := fun a o e => kin a o (by
  rw [offF_look] at e
  split at e
  · cases e
  · exact e)
/-- mk: the defs that make closures, and what theirs are called -/
def csF (mk : List (Str × Str)) (K : PySem.W.Frag) : List (Addr × Addr) := mk.map fun p => tabF K p.1
def tsF (mk : List (Str × Str)) (K : PySem.W.Frag) : List Addr := (csF mk K).map (·.2)
def TF (mk : List (Str × Str)) (K : PySem.W.Frag) : List (Addr × Str) := mk.map fun p => ((tabF K p.1).2, p.2)
/-- codes and tables are as they are due; tables of other names are other ones; the codes are those that are seen without the tables -/
def okT (mk : List (Str × Str)) (K : PySem.W.Frag) : Bool := mk.all fun p => hdF K (tabF K p.1) && (emF K (tabF K p.1).2 && ((mk.all fun q => !(decide ((tabF K q.1).2 = (tabF K p.1).2)) || decide (q.2 = p.2)) && decide (codeF (offF K (tsF mk K)) (He.ga (offF K (tsF mk K)) p.1) = some (tabF K p.1).1)))
/-! hooks with a word on the rest: xf -/
abbrev AlT (β : Type) : Type := Bool × (β × (Bool × He.AlD))
def obsT {β : Type} (mk : List (Str × Str)) (xf : PySem.W.Frag → β) (fa : List He.Fa) (fn : List He.DefD) (cs : List (Str × D)) (K : PySem.W.Frag) : AlT β := (okT mk K, (xf (offF K (tsF mk K)), obsG fa fn cs (offF K (tsF mk K))))
def frT (g : Addr → Option Obj) (n : Nat) : PySem.W.Frag := He.frG g (cStatics :: He.asD g n)
def hookT {β : Type} (n : Nat) (mk : List (Str × Str)) (xf : PySem.W.Frag → β) (xv : β) (fa : List He.Fa) (fn : List He.DefD) (cs : List (Str × D)) : PySem.W.Hook where
  α := AlT β
  obs := fun s => obsT mk xf fa fn cs (frT s.heap.get? n)
  val := fun _ => (true, (xv, (true, He.valD fn)))
  says := fun _ h => ∃ K : PySem.W.Frag, K.In h ∧ obsT mk xf fa fn cs K = (true, (xv, (true, He.valD fn)))
  of := fun _ _ e => ⟨_, He.frG_in, e⟩
  keeps := fun _ _ _ ⟨K, hK, c⟩ k => ⟨K, PySem.W.Frag.In.keeps hK k, c⟩
def lookT {β : Type} (n : Nat) (mk : List (Str × Str)) (xf : PySem.W.Frag → β) (fa : List He.Fa) (fn : List He.DefD) (cs : List (Str × D)) (g : Addr → Option Obj) : AlT β := obsT mk xf fa fn cs (frT g n)
theorem lookT_eq {β : Type} {n : Nat} {mk : List (Str × Str)} {xf : PySem.W.Frag → β} {xv : β} {fa : List He.Fa} {fn : List He.DefD} {cs : List (Str × D)} {g : Addr → Option Obj} {s : Shared} (h : ∀ a, g a = s.heap.get? a) : lookT n mk xf fa fn cs g = (hookT n mk xf xv fa fn cs).obs s := by
  have e : g = s.heap.get? := funext h
  rw [e] <;> rfl
/-- what the head tells -/
structure SaysT {β : Type} (mk : List (Str × Str)) (xf : PySem.W.Frag → β) (xv : β) (fa : List He.Fa) (fn : List He.DefD) (cs : List (Str × D)) (K0 : PySem.W.Frag) (mg : Str → Option Value) (h : Heap) : Prop where
  g : SaysG fa fn cs (offF K0 (tsF mk K0)) mg h
  x : xf (offF K0 (tsF mk K0)) = xv
  t : TabsAt (offF K0 (tsF mk K0)) h (csF mk K0)
  u : ∀ p ∈ mk, (∀ q ∈ TF mk K0, q.1 = (tabF K0 p.1).2 → q.2 = p.2) ∧ codeF (offF K0 (tsF mk K0)) (He.ga (offF K0 (tsF mk K0)) p.1) = some (tabF K0 p.1).1
theorem SaysT.of {β : Type} {mk : List (Str × Str)} {xf : PySem.W.Frag → β} {xv : β} {fa : List He.Fa} {fn : List He.DefD} {cs : List (Str × D)} {K0 : PySem.W.Frag} {mg : Str → Option Value} {h : Heap} (X : K0.In h) (G : h.Ns mainGlobals mg) (e : obsT mk xf fa fn cs K0 = (true, (xv, (true, He.valD fn)))) : SaysT mk xf xv fa fn cs K0 mg h := by
  have e1 : okT mk K0 = true := congrArg (fun z : AlT β => z.1) e
  have ok := List.all_eq_true.mp e1
  refine ⟨SaysG.of (offF_in X) G (congrArg (fun z : AlT β => z.2.2) e), congrArg (fun z : AlT β => z.2.1) e, ⟨fun p hp => ?_, fun p hp => ?_, fun p hp => ?_⟩, fun p hp => ?_⟩
  · obtain ⟨q, hq, rfl⟩ := List.mem_map.mp hp
    exact emF_ok X (Bool.and_eq_true_iff.mp (Bool.and_eq_true_iff.mp (ok q hq)).2).1
  · rw [offF_look, if_pos (List.contains_iff_mem.mpr (show p.2 ∈ tsF mk K0 from List.mem_map.mpr ⟨p, hp, rfl⟩))]
  · obtain ⟨q, hq, rfl⟩ := List.mem_map.mp hp
    exact hdF_ok X (Bool.and_eq_true_iff.mp (ok q hq)).1
  · obtain ⟨_, h2⟩ := Bool.and_eq_true_iff.mp (ok p hp)
    obtain ⟨_, h3⟩ := Bool.and_eq_true_iff.mp h2
    obtain ⟨h4, h5⟩ := Bool.and_eq_true_iff.mp h3
    refine ⟨fun q hq eq => ?_, of_decide_eq_true h5⟩
    obtain ⟨r, hr, rfl⟩ := List.mem_map.mp hq
    have := List.all_eq_true.mp h4 r hr
    rw [show (tabF K0 r.1).2 = (tabF K0 p.1).2 from eq] at this
    simpa using this
section
variable {β : Type} {mk : List (Str × Str)} {xf : PySem.W.Frag → β} {xv : β} {fa : List He.Fa} {fn : List He.DefD} {cs : List (Str × D)} {K0 : PySem.W.Frag} {mg : Str → Option Value} {h : Heap}
theorem SaysT.hT (_ : SaysT mk xf xv fa fn cs K0 mg h) : ∀ p ∈ TF mk K0, p.1 ∈ (csF mk K0).map (·.2) := fun p hp => by
  obtain ⟨q, hq, rfl⟩ := List.mem_map.mp hp
  exact List.mem_map.mpr ⟨_, List.mem_map.mpr ⟨q, hq, rfl⟩, rfl⟩
/-- what a maker's frame knows of its table -/
structure MkT (K : PySem.W.Frag) (base : Heap) (mg : Str → Option Value) (T : List (Addr × Str)) (f c P : Addr) (q : Str) : Prop where
  code : codeF K f = some c
  tab : LamX.TabB base mg c P
  mem : (P, q) ∈ T
  uni : ∀ p ∈ T, p.1 = P → p.2 = q
theorem SaysT.mkt (s : SaysT mk xf xv fa fn cs K0 mg h) (i : Nat) {base : Heap} (tb : ∀ p ∈ csF mk K0, LamX.TabB base mg p.1 p.2) {x q : Str} (e : mk[i]? = some (x, q)) : ∃ c P, MkT (offF K0 (tsF mk K0)) base mg (TF mk K0) (He.ga (offF K0 (tsF mk K0)) x) c P q := by
  have m := List.mem_of_getElem? e
  obtain ⟨u1, u2⟩ := s.u _ m
  exact ⟨_, _, u2, tb (tabF K0 x) (List.mem_map.mpr ⟨_, m, rfl⟩), List.mem_map.mpr ⟨_, m, rfl⟩, u1⟩
theorem SaysG.cal2 {K : PySem.W.Frag} {P : Program} {w : World} {base : Heap} {T : List (Addr × Str)} {q : Nat} {k : Nat} {ps : List Str} {f : Fn} (s : SaysG fa fn cs K mg h) (i : Nat) {x nm qual : Str} {params : Arguments} {body : List Stmt} {scope : Scope} (ed : fn[i]? = some ⟨(x, none), nm, qual, params, body, scope, [], []⟩)
    (j : Nat) (ef : fa[j]? = some (.glo x)) (ok : ∀ {fd : FuncData}, FunD K nm qual params body scope [] [] (He.ga K x) fd → FnG P w K mg base T q k (He.ga K x) fd ps f) : Cal P w K mg base T q k x params ps f := by
  obtain ⟨fd, F⟩ := s.d.def_ i ed
  exact ⟨_, fd, nm, qual, body, scope, ok F, He.glo_ok s.kin s.gl (s.d.fact j ef), F⟩
theorem SaysG.calH {K : PySem.W.Frag} {P : Program} {w : World} {base : Heap} {T : List (Addr × Str)} {q kk : Nat} {k : Nat} {ps : List Str} {f : (Nat → Fn) → Fn} (s : SaysG fa fn cs K mg h) (i : Nat) {x nm qual : Str} {params : Arguments} {body : List Stmt} {scope : Scope} (ed : fn[i]? = some ⟨(x, none), nm, qual, params, body, scope, [], []⟩)
    (j : Nat) (ef : fa[j]? = some (.glo x)) (ok : ∀ {fd : FuncData}, FunD K nm qual params body scope [] [] (He.ga K x) fd → FnH P w K mg base T q kk k (He.ga K x) fd ps f) : CalH P w K mg base T q kk k x params ps f := by
  obtain ⟨fd, F⟩ := s.d.def_ i ed
  exact ⟨_, fd, nm, qual, body, scope, ok F, He.glo_ok s.kin s.gl (s.d.fact j ef), F⟩
theorem SaysG.fun0 {K : PySem.W.Frag} (s : SaysG fa fn cs K mg h) (i : Nat) {x nm qual : Str} {params : Arguments} {body : List Stmt} {scope : Scope} (ed : fn[i]? = some ⟨(x, none), nm, qual, params, body, scope, [], []⟩)
    (j : Nat) (ef : fa[j]? = some (.glo x)) : ∃ (fd : FuncData) (nm qual : Str) (body : List Stmt) (scope : Scope), mg x = some (.ref (He.ga K x)) ∧ FunD K nm qual params body scope [] [] (He.ga K x) fd := by
  obtain ⟨fd, F⟩ := s.d.def_ i ed
  exact ⟨fd, nm, qual, body, scope, He.glo_ok s.kin s.gl (s.d.fact j ef), F⟩
end
end PL

set_option Elab.async false
set_option linter.all false
set_option maxRecDepth 100000
set_option maxHeartbeats 4000000
set_option autoImplicit false
namespace PL
open PySem PySem.Spec PySem.Calls PyProof.Rows L2
/-! ## exceptions of the program's own classes -/
/-- a class C over D, D over ValueError with its own __init__ at fI -/
structure EarC (K : PySem.W.Frag) (C D fI : Addr) : Prop where
  o : OexC K C
  init : PySem.W.findIn K (.ref C) "__init__" = some (some (.ref fI))
  fn : PySem.W.typeIn K (.ref fI) = some (.type "function")
  sup : PySem.W.mroIn K C (.ref D) = some true
  clsD : ∃ cd, PySem.W.clsIn K D = some cd
  nxt : PySem.W.ks_superIn K C D "__init__" = some (some (.builtin "ValueError.__init__"))
  ve : PySem.W.subIn K (.ref C) (.type "ValueError") = some true
  noV : PySem.W.findIn K (.ref C) "value" = some none
/-- the text of that __init__ -/
structure EarT (ps : Arguments) (body : List Stmt) (scope : Scope) : Prop where
  txt : ∃ p0 p1 p2 p3 p4 p5 p6 p7 p8 p9 : Pos, body = [.Expr (.Call (.Attribute (.Call (.Name "super" p0) [] [] p1) "__init__" p2) [.Name "value" p3] [] p4) p5, .Assign [.Attribute (.Name "self" p6) "value" p7] (.Name "value" p8) p9] ∧
    (∀ env : Env, eval (.Call (.Attribute (.Call (.Name "super" p0) [] [] p1) "__init__" p2) [.Name "value" p3] [] p4) env = (do
      let ov ← attributeBase (.Call (.Name "super" p0) [] [] p1) "__init__" env (eval (.Call (.Name "super" p0) [] [] p1) env)
      standAt p2.atName
      let (f, first) ← holding [ov] (getMethod ov "__init__" (L2.plainOf (.Call (.Name "super" p0) [] [] p1) env))
      callWith p4 f first (backTo p4 (starEach [.Name "value" p3] env)) [])) ∧
    (∀ env : Env, swapsWith (.Call (.Attribute (.Call (.Name "super" p0) [] [] p1) "__init__" p2) [.Name "value" p3] [] p4) none p5.line env = pure false) ∧
    ∀ env : Env, swapsWith (.Name "value" p8) (some (.Attribute (.Name "self" p6) "value" p7)) p9.line env = pure false
  hd : ∃ ar, (ps.posonlyargs ++ ps.args).head? = some ar ∧ ar.arg = "self"
  kind : scope.kind = .function
  co : scope.isCoroutine = false
  gen : scope.isGenerator = false
  nsup : scope.names.lookup ("super" : Str) = some .globalImplicit
  ncls : scope.names.lookup ("__class__" : Str) = some .free
  nself : scope.names.lookup ("self" : Str) = some .local
  nval : scope.names.lookup ("value" : Str) = some .local
  cell : ∀ x ∈ scope.names, x.2 ≠ .cell
  bind : ∀ (nm q : Str) (cl : List (Str × Addr)) (kV doc pm : Value) (an : Option Addr) (cdv ct : Value) (a b : Value), bindArgs (PySem.W.fnX nm q ps body scope cl .none kV doc pm an cdv ct) ⟨[a, b], []⟩ = pure [(Str.ofString "self", a), (Str.ofString "value", b)]
/-- where it stands -/
structure EarF (P : Program) (K : PySem.W.Frag) (D fI : Addr) (q : Str) (ps : Arguments) (body : List Stmt) (scope : Scope) : Prop where
  at_ : ∃ (oc : Value) (od : Option Addr) (osl : Array (Option Value)) (nm : Str) (cc cda : Addr) (kV doc pm ct : Value) (an : Option Addr), K.lookup fI = some ⟨oc, od, .func (PySem.W.fnX nm q ps body scope [("__class__", cc)] .none kV doc pm an (.ref cda) ct), osl⟩ ∧ PySem.W.codeIn K (.ref cda) q = true ∧
    (∃ (ccl : Value) (cdd : Option Addr) (vs : Array Value) (ccs : Array (Option Value)) (tf : Tok), K.lookup cda = some ⟨ccl, cdd, .fields vs, ccs⟩ ∧ vs[2]? = some (.str P.main.file tf)) ∧ ∃ (cl : Value) (cld : Option Addr) (csl : Array (Option Value)), K.lookup cc = some ⟨cl, cld, .cell (some (.ref D)), csl⟩
  sup : PySem.W.nsIn K mainGlobals "super" = some none
  third : PySem.W.nsIn K cStatics "thirdparty.any" = some none
  top : (P.main.scope.names.lookup ("super" : Str)).isSome = false
theorem boot_super : bootBuiltins "super" = some (.type "super") := by first | exact PyProof.Rows.Boot.«super» | decide +kernel | rfl
section
variable {P : Program} {w : World} {A : Around} {K : PySem.W.Frag} {mg mb : Str → Option Value} {hp : Heap} {g : Array GenState} {d : Drawn} {t : Nat} {os : OsState} {C D fI e t0 : Addr} {q : Str} {ps : Arguments} {body : List Stmt} {scope : Scope} {u : Value} {R : Result → Shared → Prop}
theorem mw_call {h : Heap} {tk : Nat} {v e t0 C : Addr} {us : List Value} {nm q : Str} {N : Addr} {bs bm : List Value} {hdct : Bool} {sn : List Str} {sub : List Value} {ab : Bool} {col : Option Bool} {dd : Option Addr} {k0 k1 k2 k3 k5 : Option Value} {E : Value → Shared → Prop} {Q : Value → Shared → Prop}
    (cC : h.get? C = some (excClassObj nm q C N bs bm hdct sn sub ab col dd k0 k1 k2 k3 k5 "ValueError.__new__")) (ce : h.get? e = some (PySem.HandSPX.excO C t0)) (cv : h.get? v = some (PySem.W.kxs_mw "ValueError.__init__" e)) (hl : us.length ≤ sizeLine)
    (fin : ∀ h' t1, (∀ b o, b ≠ e → h.get? b = some o → h'.get? b = some o) → h'.get? e = some (PySem.HandSPX.excO C t1) → Q .none ⟨h', g, d, tk, os⟩) : wpAny (model P w) A (call (.ref v) us) Q E ⟨h, g, d, tk, os⟩ := by
  refine wpAny_call (codeAny_of_tree ?_)
  show wpAny _ A.in1 (callAny (.ref v) ⟨us, []⟩) _ _ _
  simp only [callAny]
  refine wpAny_bind (wpAny_load cv ?_)
  simp only [PySem.W.kxs_mw, show (Value.type "method-wrapper" == Value.type "method" || Value.type "method-wrapper" == Value.type "builtin_function_or_method" || Value.type "method-wrapper" == Value.type "method-wrapper") = true by decide, if_true]
  refine PySem.W.KFB.if_so (by decide) ?_
  refine wpAny_bind (PySem.W.check_bound_init PySem.F.excBase_ValueError.toExcCallFacts cC ce rfl ?_)
  refine wpAny_bind (wpAny_pure (wpAny_pure ?_))
  refine ⟨Code.quiet_builtin _ (by decide +kernel), codeAny_builtin PySem.F.excBase_ValueError.initEntry ?_⟩
  rw [Around.under_plainId PySem.F.excBase_ValueError.init.plain _]
  wp_walk
  refine fin _ h.objs.size (fun b o n z => ?_) ?_
  · exact (Heap.get?_update_other _ _ (Ne.symm n)).trans (Heap.get?_push_of_some _ z)
  · rw [Heap.get?_update_self _ (Heap.get?_push_of_some _ ce) rfl] <;> rfl
theorem ear_init (X : K.In hp) (G : hp.Ns mainGlobals mg) (B : hp.Ns builtinsNs mb) (bb : ∀ x : Str, x ≠ "__name__" → mb x = bootBuiltins x) (nl : hp.NoLimit) (room : A.depth < recursionLimit) (T : EarC K C D fI) (F : EarF P K D fI q ps body scope) (S : EarT ps body scope)
    (he : hp.get? e = some (PySem.HandSPX.excO C t0)) (nK : K.lookup e = none)
    (h : ∀ h' tk dx t1, (∀ b o, b ≠ e → hp.get? b = some o → h'.get? b = some o) → hp.objs.size ≤ dx → h'.get? e = some ({ cls := .ref C, dict := some dx, data := .fields #[.ref t1, .none, .none, .none, .bool false, .none] } : Obj) →
      h'.Ns1 dx (fun y => if y = "value" then some u else none) → R (.ok (.ret .none)) ⟨h', g, d, tk, os⟩) :
    codeAny (model P w) A (.call (.ref fI) ⟨[.ref e, u], []⟩) R ⟨hp, g, d, t, os⟩ := by
  obtain ⟨oc, od, osl, nm, cc, cda, kV, doc, pm, ct, an, lk, hcd, ⟨ccl, cdd, vs, ccs, tf, lkc, hvs⟩, cl, cld, csl, lkcell⟩ := F.at_
  obtain ⟨nmC, qC, NC, bs, bm, sn, sub, ab, col, ddC, k0, k1, k2, k3, k5, hC, hbm⟩ := T.o.cls
  obtain ⟨cdD, hcD⟩ := T.clsD
  have hcl : PySem.W.clsIn K C = some { name := nmC, bases := bs, mro := .ref C :: bm, ns := NC, qualname := qC, hasDict := true, slotNames := sn, subclasses := sub, abstract := ab, collection := col, hasDel := false } := by unfold PySem.W.clsIn; rw [hC] <;> rfl
  obtain ⟨p0, p1, p2, p3, p4, p5, p6, p7, p8, p9, hb, hmc, hsw1, hsw2⟩ := S.txt
  obtain ⟨ar, har, hself⟩ := S.hd
  refine PySem.ks_codeAny_call_defAt (fd := PySem.W.fnX nm q ps body scope [("__class__", cc)] .none kV doc pm an (.ref cda) ct) (binds := [(Str.ofString "self", .ref e), (Str.ofString "value", u)]) room (X _ _ lk) rfl nl (PySem.W.codeRec_of X hcd) rfl (.of_eq (S.bind _ _ _ _ _ _ _ _ _ _ _)) S.cell
    (fun x hx => ?_) (fun h1 hns k1' => ?_) S.co S.gen S.kind
  · rcases List.mem_cons.mp hx with z | z
    · rw [z]; exact S.nself
    · rw [List.mem_singleton.mp z]; exact S.nval
  have kk : ∀ {x : Str} {v : Value}, ([(Str.ofString "self", Value.ref e), (Str.ofString "value", u)] : List (Str × Value)).reverse.lookup x = some v → True := fun _ => trivial
  have X1 : K.In h1 := fun b o z => k1' b o (X b o z)
  obtain ⟨oD, hD1, hD2⟩ : ∃ oD, h1.get? D = some oD ∧ oD.data = .cls cdD := by
    unfold PySem.W.clsIn at hcD
    split at hcD
    · rename_i c dd cd' sl ho
      cases hcD
      exact ⟨_, X1 _ _ ho, rfl⟩
    · cases hcD
  have heC : e ≠ C := fun z => by
    have z1 := X _ _ hC
    rw [← z, he] at z1
    have z2 := congrArg Obj.data (Option.some.inj z1)
    cases z2
  have het : h1.get? e = some (PySem.HandSPX.excO C t0) := k1' _ _ he
  have esz : hp.objs.size ≤ h1.objs.size := by
    obtain ⟨o, _, _, eo, _⟩ := hns
    exact Nat.le_of_lt (Heap.lt_size eo)
  have eL : e ≠ hp.objs.size := Nat.ne_of_lt (Heap.lt_size he)
  have hms : ([(Str.ofString "self", Value.ref e), (Str.ofString "value", u)] : List (Str × Value)).reverse.lookup (Str.ofString "self") = some (Value.ref e) := rfl
  have hmv : ([(Str.ofString "self", Value.ref e), (Str.ofString "value", u)] : List (Str × Value)).reverse.lookup (Str.ofString "value") = some u := rfl
  rw [hb]
  refine PySem.ks_wpAt_execs_cons (PySem.ks_wpAt_Expr_any (PySem.ks_wpAt_MethodCall ?m (hmc _)) (by show (_ && _) = false; simp [callEnv, newEnv, S.kind]) (hsw1 _))
  refine PySem.ks_wpAt_super_base (f := fI) (cc := cda) S.nsup S.ncls (by decide) rfl (k1' _ _ (X _ _ lk)) rfl har rfl (k1' _ _ (X _ _ lkc)) rfl hvs (by simp) F.top ?_
  refine PySem.W.ks_loadName_global S.kind S.nsup (loadGlobal_builtin (mg := mg) (mb := mb) (G.keeps k1') (PySem.W.mg_none_of X G F.sup) (B.keeps k1') ((bb _ (by decide +kernel)).trans boot_super) ⟨rfl, ?_⟩)
  refine wpAny_loadName_free (c := cc) (v := .ref D) S.kind S.ncls rfl ⟨_, X1 _ _ lkcell, rfl⟩ ?_
  rw [hself]
  refine wpAny_loadName_local S.kind S.nself hns hms ?_
  refine PySem.ks_wpAny_isType_cls hD1 hD2 ⟨rfl, ?_⟩
  refine PySem.ks_wpAny_call_super hD1 hD2 het rfl (fun c z => nomatch z) (PySem.W.looks_mroIn X1 T.sup) (fun h2 hso k2 => ?_)
  have X2 : K.In h2 := fun b o z => k2 b o (X1 b o z)
  have I2 : PySem.W.InstAt h2 e (PySem.HandSPX.excO C t0) C none := ⟨k2 _ _ het, rfl, rfl, trivial⟩
  refine PySem.W.kxs_getMethod (l₀ := .ref C :: bm) PySem.W.kxs_ValueError hso (PySem.W.looks_opaque X2 F.third) ((PySem.W.looks_clsIn X2 hcl).andThen .now) rfl X2 ?al (I2.type.andThen (PySem.W.looks_subIn X2 T.ve)) heC (by decide) ?_
  case al =>
    have z := T.nxt
    unfold PySem.W.ks_superIn at z
    rw [hcl] at z
    exact z
  have k3 : ∀ b o, h2.get? b = some o → (h2.push (PySem.W.kxs_mw "ValueError.__init__" e)).get? b = some o := fun b o z => Heap.get?_push_of_some _ z
  have mw3 : (h2.push (PySem.W.kxs_mw "ValueError.__init__" e)).get? h2.objs.size = some (PySem.W.kxs_mw "ValueError.__init__" e) := Heap.get?_push_size _ rfl
  have X3 : K.In (h2.push (PySem.W.kxs_mw "ValueError.__init__" e)) := fun b o z => k3 b o (X2 b o z)
  have he3 := k3 _ _ (k2 _ _ het)
  have ns3 : (h2.push (PySem.W.kxs_mw "ValueError.__init__" e)).Ns hp.objs.size _ := hns.keeps fun b o z => k3 _ _ (k2 _ _ z)
  refine PySem.W.kxs_callWith (i := "ValueError.__init__") (x := e) (by rfl) (evalArgs_plain (spliced_cons (PySem.ESX.ldL ns3 hmv (spliced_nil ⟨mw3, ?_⟩) S.kind S.nval)))
  refine mw_call (X3 _ _ hC) he3 mw3 (show 1 ≤ sizeLine by rw [sizeLine_eq]; omega) fun h4 t1 k4 he4 => ?_
  have X4 : K.In h4 := fun b o z => k4 b o (fun y => by rw [y, nK] at z; cases z) (X3 b o z)
  have ns4 : h4.Ns hp.objs.size _ := ns3.at fun o z => k4 _ _ (Ne.symm eL) z
  refine PySem.ks_wpAt_execs_cons (PySem.ks_wpAt_Assign_Attr (wpAt_of_wpAny (PySem.ESX.ldL ns4 hmv (PySem.ESX.ldL ns4 hms ?_ S.kind S.nself) S.kind S.nval)) (hsw2 _))
  refine PySem.W.set_plain X4 (ox := PySem.HandSPX.excO C t1) (od := none) ⟨he4, rfl, rfl, trivial⟩ T.o.sa ?_
  refine PySem.HandSPX.exc_osa X4 he4 hcl (show PySem.HandSPX.refsVE (.ref C :: bm) = true from hbm) rfl T.noV (fun h5 tk5 dx k5' ge5 ne5 he5 ns5 => ?_)
  refine wpAt_of_wpAny (wpAny_execs_nil (h h5 tk5 dx t1 (fun b o n z => k5' b o n (k4 b o n (k3 _ _ (k2 _ _ (k1' _ _ z))))) (Nat.le_trans ?_ ge5) he5 ns5))
  obtain ⟨o, _, _, eo, _⟩ := ns4
  exact Nat.le_of_lt (Heap.lt_size eo)
end
/-! ## raise C(e) -/
def exnF (n : Nat) : Fn := fun ds hs => match ds with
  | [d] => .exn (.exc n d) hs
  | _ => .stuck
def cRaise (f : CE) : CS := fun σ hs => (f σ hs).bind fun _ _ => .stuck
/-- all about one class -/
structure EarX (P : Program) (K : PySem.W.Frag) (mg : Str → Option Value) (x : Str) (n : Nat) : Prop where
  ex : ∃ (D fI : Addr) (q : Str) (ps : Arguments) (body : List Stmt) (scope : Scope), EarC K (He.ga K (nmS n)) D fI ∧ EarF P K D fI q ps body scope ∧ EarT ps body scope
  mg_ : mg x = some (.ref (He.ga K (nmS n)))
section
variable {X : Cx} {E : XK} {x : Str} {n : Nat} {e : Expr} {g : CA} {p pos pos' : Pos}
theorem pmk_ear (T : EarX X.prog X.K X.mg x n) (room : Room 1 X.A) (ha : SA X E [e] g) (hg : Gl X x) (hdb : (x == ("__debug__" : Str)) = false) (he : starEach [e] X.env = (false, eval e X.env) :: starEach [] X.env) :
    PMk X (.Call (.Name x p) [e] [] pos) (fun σ H Q => (∀ c d H', E.e c d H' → Q c d H') ∧ tE (kc X E) E (cF (exnF n) g) σ H fun _ _ => False) := by
  intro pins s σ H Q I ⟨hQ, h⟩
  obtain ⟨D, fI, q, ps, body, scope, TC, TF, TT⟩ := T.ex
  obtain ⟨nm, qn, N, bs, bm, sn, sub, ab, col, dd, k0, k1, k2, k3, k5, hC, hbm⟩ := TC.o.cls
  refine wpAny_Call_Name_kw (ld_glob I hg T.mg_ (PySem.W.callWith_K (h₀ := X.base) I.ok.mod.kin TC.o.kC (thn (ha.run pos pins s σ H _ I (tE_args (τ := σ) h)) fun us s1 ⟨vs, H1, I1, r1, m, hs, ds, hr, rd, z⟩ => ⟨I1.kIn, ?_⟩) he (by rfl)) hdb)
  cases rd with
  | nil => exact z.elim
  | @cons d0 v0 ds _ rd0 rds => cases rds with
    | cons _ _ => exact z.elim
    | nil =>
      obtain ⟨u, rfl, rv⟩ := vals1 r1
      show wpAny _ _ (call (.ref (He.ga X.K (nmS n))) [u]) _ _ _
      obtain ⟨hp, gg, dr, tk, os⟩ := s1
      have hsz : hp.objs.size ≤ hp.objs.size + 1 := Nat.le_succ _
      have k2' : ∀ b o, hp.get? b = some o → ((hp.push (PySem.W.kdv_tup [u])).push (PySem.HandSPX.excO (He.ga X.K (nmS n)) hp.objs.size)).get? b = some o := fun b o e => Heap.get?_push_of_some _ (Heap.get?_push_of_some _ e)
      have hget : ((hp.push (PySem.W.kdv_tup [u])).push (PySem.HandSPX.excO (He.ga X.K (nmS n)) hp.objs.size)).get? (hp.objs.size + 1) = some (PySem.HandSPX.excO (He.ga X.K (nmS n)) hp.objs.size) := by heap_get
      obtain ⟨mb, nb, bb⟩ := I1.ok.mod.blt
      have nKl : X.K.lookup (hp.objs.size + 1) = none := by
        cases q : X.K.lookup (hp.objs.size + 1) with
        | none => rfl
        | some o => exact absurd (Heap.lt_size (I1.kIn _ _ q)) (Nat.not_lt_of_le hsz)
      refine wpAny_call (PySem.HandSPX.call_own PySem.F.excBase_ValueError (fun Y => PySem.HandSPX.refsVE_contains Y bm hbm) (I1.kIn _ _ hC) (PySem.W.looks_findIn I1.kIn TC.init) (fun self => PySem.W.bind_fn I1.kIn self TC.fn) (show 1 ≤ sizeLine by rw [sizeLine_eq]; omega)
        (ear_init (I1.kIn.keeps k2') ((I1.ok.mod.glob.keeps I1.bk).keeps k2') ((nb.keeps I1.bk).keeps k2') bb ((I1.ok.mod.nolimit.keeps I1.bk).keeps k2') (room.make (He.ga X.K (nmS n)) [u] []).depth TC TF TT hget nKl fun h' tk' dx t1 kk ge he' ns => ?_))
      have ge2 : hp.objs.size + 1 + 1 ≤ dx := by
        rw [Heap.size_push, Heap.size_push] at ge
        exact ge
      have hda : dx ≠ hp.objs.size + 1 := by omega
      have hsd : hp.objs.size ≤ dx := by omega
      have hnd : H1 dx = none := I1.hok.fresh hsd
      obtain ⟨G, g1, g2⟩ := restrict h' fun b => decide (b ≠ hp.objs.size + 1)
      have gk : ∀ b, b ≠ hp.objs.size + 1 → G.get? b = h'.get? b := fun b hb => g1 b (decide_eq_true hb)
      have gn : G.get? (hp.objs.size + 1) = none := g2 _ (by simp)
      have old : ∀ b o, hp.get? b = some o → G.get? b = some o := fun b o z => by
        have hb : b ≠ hp.objs.size + 1 := fun y => by rw [y] at z; exact absurd (Heap.lt_size z) (Nat.not_lt_of_le hsz)
        rw [gk b hb]
        exact kk b o hb (k2' b o z)
      have okx : ObjOk X.prog X.w (upd H1 dx (.xd [(Str.ofString "value", v0)])) G dx (.xd [(Str.ofString "value", v0)]) := ⟨_, ns.at fun o y => (gk dx hda).trans y, relO_put (fs := []) rv fun g => True.intro⟩
      have J := I1.laid (t' := tk') (a := dx) (o := .xd [(Str.ofString "value", v0)]) (h' := G) old hsd okx
      obtain ⟨stp, hr2⟩ := hr.same (H' := upd H1 dx (.xd [(Str.ofString "value", v0)])) fun b o z => (upd_ne (ne_of_none z hnd)).trans z
      refine ⟨rfl, hp.objs.size + 1, _, _, ⟨G, gg, dr, tk', os⟩, _, .ref (He.ga X.K (nmS n)), some dx, rfl, J, fun b o z => ?_, gn, he', ⟨rfl, rfl⟩, rfl, rfl, ?_, rfl, I1.bare, raises_own TC.o.exC TC.o.tyC, hQ _ _ _ (z _ _ m _ stp hr2 ⟨rfl, dx, _, rfl, hr.notin hnd, upd_same, rd0.mono stp⟩)⟩
      · by_cases hb : b = hp.objs.size + 1
        · rw [hb, gn] at z; cases z
        · exact (gk b hb).symm.trans z
      · rw [upd_ne (Ne.symm hda)]; exact I1.hok.fresh hsz
theorem x_raise (T : EarX X.prog X.K X.mg x n) (room : Room 1 X.A) (hc : X.calm = true) (tk : Takes X fun c d _ H => E.e c d H) (ha : SA X E [e] g) (hg : Gl X x := by rfl) (hdb : (x == ("__debug__" : Str)) = false := by decide) (he : starEach [e] X.env = (false, eval e X.env) :: starEach [] X.env := by rfl) :
    SS X E (.Raise (some (.Call (.Name x p) [e] [] pos)) none pos') (cRaise (cF (exnF n) g)) :=
  PS.imp (ps_raise hc tk (pmk_ear T room ha hg hdb he)) fun D τ H ⟨m, σ, hs, hr, rs, q⟩ => ⟨fun _ _ _ h => h, m, σ, hs, hr, rs, by
    unfold cRaise at q
    cases z : cF (exnF n) g σ hs with
    | ok d hs1 => rw [z] at q; exact q.elim
    | exn y hs1 => rw [z] at q; exact q
    | stuck => rw [z] at q; exact q⟩
end
end PL

set_option Elab.async false
set_option linter.all false
set_option maxRecDepth 100000
set_option maxHeartbeats 4000000
set_option autoImplicit false
namespace PL
open PySem PySem.Spec PySem.Calls PyProof.Rows L2
/-! ## try: body, except C as x: suite, the exception told -/
theorem exc_ok {P : Program} {w : World} {K : PySem.W.Frag} {H : Hp} {h : Heap} {n : Nat} {a dx : Addr} {oe : Obj} {vs : Array Value} (e : h.get? a = some oe) (z : Zc (.ref (He.ga K (nmS n))) (some dx) oe) (d : oe.data = .fields vs) : ObjOk P w H h a (excO K n a dx) :=
  ⟨⟨oe, vs, e, z, d⟩, ⟨oe, e⟩, fun h1 h2 ⟨oe1, vs1, e1, z1, d1⟩ k => ⟨oe1, vs1, k _ e1, z1, d1⟩⟩
section
variable {X : Cx} {pins : List (Addr × Obj)} {σ : L2.St} {H : Hp} {s : Shared}
theorem inv_suite (I : Inv X pins σ H s) (a : Addr) : Inv (X.suite a (X.pn ++ pins)) [] σ H s :=
  ⟨I.ok.suite _ _, I.os, I.bare, I.base, I.loc, I.cell, I.free, I.freeC, fun p hp => I.pin p (by rwa [List.append_nil] at hp), I.hok, I.len⟩
theorem inv_unsuite {a : Addr} {pn' : List (Addr × Obj)} (S : Inv (X.suite a (X.pn ++ pins)) pn' σ H s) (ok : X.Ok) : Inv X pins σ H s :=
  ⟨ok, S.os, S.bare, S.base, S.loc, S.cell, S.free, S.freeC, fun p hp => S.pin p (List.mem_append_left _ hp), S.hok, S.len⟩
end
/-- what the clause wishes of an exception -/
def wTr (K : PySem.W.Frag) (N : Nat) (c : Value) (i : Nat) (ts : TS) (Wout : WX) (D : Ends) : WX := fun cls d σ H => σ.length = N → ∃ b, PySem.W.exmOne K cls c = some b ∧
  (b = true → ∃ n dx, cls = .ref (He.ga K (nmS n)) ∧ d = some dx ∧ ∀ a, H a = none → ts { nx := fun σ' H' => D.nx (σ'.set i none) H', rt := D.rt, bk := fun σ' H' => D.bk (σ'.set i none) H', ct := fun σ' H' => D.ct (σ'.set i none) H' } (σ.set i (some (.ref a))) (upd H a (excO K n a dx))) ∧
    (b = false → Wout cls d σ H)
section
variable {X : Cx} {x n : Str} {c : Value} {i : Nat} {body suite : List Stmt} {b₀ : Stmt} {np pos pos' : Pos} {tb : WX → TS} {ts : TS} {Wout : WX}
theorem ps_tryE (hex : X.ex = []) (hs : X.stack = X.env :: X.outer) (hf : X.env.frame = some X.env.locals) (hN : X.N.Nodup) (hi : X.N[i]? = some n) (hln : X.env.kindOf n = some .local) (hc : Names X x c) (tk : Takes X Wout)
    (hb : ∀ (W : WX) (pn : List (Addr × Obj)) (xe : Value → Shared → Prop), Takes (X.tr pn xe) W → PassesOwn (model X.prog X.w) X.A X.env xe → PSs (X.tr pn xe) body (tb W))
    (hsu : ∀ (a : Addr) (pn : List (Addr × Obj)), PSs (X.suite a pn) (b₀ :: suite) ts) :
    PS X (.Try body [.ExceptHandler (some (.Name x np)) (some n) (b₀ :: suite) pos'] [] [] pos) (fun D σ H => tb (wTr X.K X.N.length c i ts Wout D) D σ H) := by
  refine ⟨fun pins s σ H D I h => ?_⟩
  have okX := I.ok
  have frX : X.A.frames = some (X.env :: X.outer) := by rw [okX.frames, hs]
  have lcX : Loc X.env.scope n := .inl hln
  refine wpAny_Try_except ?_
  refine wpAny_mono ((hb (wTr X.K X.N.length c i ts Wout D) (X.pn ++ pins) (fun e s₁ => wpAny (model X.prog X.w) X.A (noteFrame e X.env) (fun _ s₂ => wpAny (model X.prog X.w) X.A (setFlight e none) (fun _ s₃ =>
    wpAny (model X.prog X.w) X.A (handleBy e X.env [.ExceptHandler (some (.Name x np)) (some n) (b₀ :: suite) pos']) (SP X pins D) X.xe s₃) X.xe s₂) X.xe s₁) (fun u s' xx => ?_) PassesOwn.looking).run [] s σ H D (I.toTry _) h) (fun f s1 hsp => ?_) (fun e s1 he => he)
  · -- the exception is here
    obtain ⟨a, B, sI, pins', τ, G, cls, d, rfl, Jt, gd, upF, sky, nG, eos, bre, wish⟩ := xx
    have J : Inv X pins τ G sI := Jt.ofTry okX
    obtain ⟨b, hexm, hyes, hno⟩ := wish Jt.len
    have skyX : Sky B (X.env :: X.outer) a (Zc cls d) X.env.locals s'.heap := by rw [← hs]; exact sky
    show wpAny (model X.prog X.w) X.A (noteFrame (.ref a) X.env) _ _ _
    refine Sky.land Zc.steady frX hf skyX fun g3 fly3 upw3 => ?_
    have J3 : Inv X pins τ G { s' with heap := g3 } := J.landed gd fly3.1 (upF.trans upw3) eos bre
    obtain ⟨oe3, ws3, at3, zc3, dt3⟩ := fly3.there
    have offF : ∀ {q : Heap} {o : Obj} {ws : Array Value}, q.FunFrames B (X.env :: X.outer) → q.get? a = some o → o.data = .fields ws → a ∉ frs (X.env :: X.outer) := fun {q o ws} ff e dd hm => by
      obtain ⟨_, o', e', hnf⟩ := ff.mem hm
      rw [e] at e'
      cases e'
      exact hnf _ dd
    have nfX := offF fly3.2.2.1 at3 dt3
    have neL : a ≠ X.env.locals := fun z => nfX (List.mem_filterMap.mpr ⟨X.env, List.mem_cons_self, by rw [hf, z]⟩)
    have nBa : B.get? a = none := fly3.2.1
    have nI : sI.heap.get? a = none := by
      cases q : sI.heap.get? a with
      | none => rfl
      | some o =>
        have z := gd a o q (by rw [hs]; exact nfX)
        rw [nBa] at z
        cases z
    refine wpAny_handleBy_cons (codeAny_handlers_test ?_) (by intro q; cases q)
    have tyA : PySem.W.Looks (model X.prog X.w) g3 (typeOf (.ref a)) cls := fun A Q E s k q => wpAny_typeOf_ref (k _ _ at3) (by rw [zc3.1]; exact q)
    have lks := PySem.W.exm_one (M := model X.prog X.w) (J3.kIn) tyA hexm
    have S3 := inv_suite J3 a
    have named : ∀ {Q : Value → Shared → Prop} {E : Value → Shared → Prop}, Q c { s' with heap := g3 } → wpAny (model X.prog X.w) (X.A.mark (some (.ref a))) (eval (.Name x np) X.env) Q E { s' with heap := g3 } := fun {Q E} q => by
      obtain ⟨hgl, hdb, hmg | ⟨hmg, hbo, hnn⟩⟩ := hc
      · exact ld_glob (X := X.suite a (X.pn ++ pins)) S3 hgl hmg q hdb
      · exact ld_blt (X := X.suite a (X.pn ++ pins)) S3 hgl hmg hbo q hnn hdb
    refine named (lks.here ?_)
    cases b with
    | true =>
      obtain ⟨k, dx, ec, ed, hrun⟩ := hyes rfl
      refine codeAny_handlers_suite_as ?_
      refine PySem.HandSPX.lands_againZ fly3 fun g4 fly4 upw4 => ?_
      have J4 : Inv X pins τ G { s' with heap := g4 } := J.landed gd fly4.1 ((upF.trans upw3).trans upw4) eos bre
      obtain ⟨oe4, ws4, at4, zc4, dt4⟩ := fly4.there
      have J5 : Inv X pins τ (upd G a (excO X.K k a dx)) { s' with heap := g4 } := by
        refine inv_track J4 nG ?_ neL (fun y z hz e => ?_) (fun p hp e => ?_) (exc_ok at4 (by rw [← ec, ← ed]; exact zc4) dt4)
        · cases q : X.s_0.heap.get? a with
          | none => rfl
          | some o =>
            obtain ⟨o', z⟩ := J.base.there a o q (by rw [hex]; simp)
            rw [nI] at z
            cases z
        · obtain ⟨v, o, ho, hd⟩ := J4.cell y z hz
          rw [e] at ho
          have ho : g4.get? a = some o := ho
          rw [at4] at ho
          cases ho
          rw [dt4] at hd
          cases hd
        · obtain ⟨z, _⟩ := J.pin p hp
          rw [e, nI] at z
          cases z
      refine store_ok (X := X.suite a (X.pn ++ pins)) (v := .ref a) (inv_suite J5 a) hN hi lcX rfl (fun s5 S5 => ?_) (.inr hln)
      refine wpAny_mono ((hsu a (X.pn ++ pins)).run [] s5 _ _ _ S5 (hrun a nG)) (fun f s6 hsp => ?_) (fun _ _ z => False.elim z)
      have fin : ∀ {σ6 : L2.St} {H6 : Hp} {Q : Shared → Prop}, Inv (X.suite a (X.pn ++ pins)) [] σ6 H6 s6 → (∀ s7, Inv X pins (σ6.set i none) H6 s7 → Q s7) →
          wpAny (model X.prog X.w) X.A (do bindName X.env n .none; unbindBehindTheSuite X.env n pos') (fun _ s7 => Q s7) X.xe s6 := fun {σ6 H6 Q} S6 hq => gone_ok (inv_unsuite S6 okX) hN hi hln hq
      cases f with
      | next =>
        obtain ⟨σ6, H6, S6, q6⟩ := hsp
        exact fin S6 fun s7 J7 => ⟨_, _, J7, q6⟩
      | brk =>
        obtain ⟨σ6, H6, S6, q6⟩ := hsp
        exact fin S6 fun s7 J7 => ⟨_, _, J7, q6⟩
      | cont =>
        obtain ⟨σ6, H6, S6, q6⟩ := hsp
        exact fin S6 fun s7 J7 => ⟨_, _, J7, q6⟩
      | ret u =>
        obtain ⟨v6, σ6, H6, S6, r6, q6⟩ := hsp
        exact fin S6 fun s7 J7 => ⟨_, _, _, J7, r6, q6⟩
    | false =>
      show wpAny _ X.A (handleBy (.ref a) X.env []) _ _ _
      refine wpAny_handleBy_nil ?_
      obtain ⟨k1, k2, k3, oe, ws, tb1, oT, ts', he, hz, hd, h1, hr⟩ := id fly3
      unfold PySem.passOn
      refine wpAny_bind (wpAny_field he hd h1 ?_)
      rw [if_neg (show ¬ ((Value.ref tb1 == Value.none) = true) from by simp)]
      have fin : wpAny (model X.prog X.w) X.A (setFlight (.ref a) X.env.frame) (fun _ s4 => wpAny (model X.prog X.w) X.A (throw (.ref a) : Sem Flow) (SP X pins D) X.xe s4) X.xe { s' with heap := g3 } := by
        rw [hf]
        refine PySem.HandSPX.setFlight_upZ fly3 fun g4 held4 upw4 => wpAny_throw (tk _ _ ?_)
        exact ⟨a, B, sI, pins, τ, G, cls, d, rfl, J, gd, (upF.trans upw3).trans upw4, .inr (.inr (by rw [hs]; exact held4)), nG, eos, bre, hno rfl⟩
      first
        | exact wpAny_bind (wpAny_pure (wpAny_bind fin))
        | exact wpAny_bind fin
  · cases f with
    | next =>
      obtain ⟨τ, G, Jt, q⟩ := hsp
      exact wpAny_execs_nil ⟨τ, G, Jt.ofTry okX, q⟩
    | brk =>
      obtain ⟨τ, G, Jt, q⟩ := hsp
      exact ⟨τ, G, Jt.ofTry okX, q⟩
    | cont =>
      obtain ⟨τ, G, Jt, q⟩ := hsp
      exact ⟨τ, G, Jt.ofTry okX, q⟩
    | ret u =>
      obtain ⟨v, τ, G, Jt, r, q⟩ := hsp
      exact ⟨v, τ, G, Jt.ofTry okX, r, q⟩
end
/-! ## as data -/
def cTry (isa : List (Nat × Bool)) (N i : Nat) (body suite : CS) : CS := fun σ hs => match body σ hs with
  | .exn (.exc n v) hs' => (match isa.lookup n with
    | some true => (match suite ((List.replicate N none).set i (some (.exc n v))) hs' with
      | .ok (.rt d) h2 => .ok (.rt d) h2
      | .ok (.nx σ2) h2 => .ok (.nx (σ2.set i none)) h2
      | _ => .stuck)
    | some false => .exn (.exc n v) hs'
    | none => .stuck)
  | .exn _ _ => .stuck
  | r => r
/-- a class by its name, and which exceptions it takes -/
structure Catch (K : PySem.W.Frag) (c : Value) (isa : List (Nat × Bool)) : Prop where
  ok : ∀ p ∈ isa, PySem.W.exmOne K (.ref (He.ga K (nmS p.1))) c = some p.2
theorem lookup_mem {α : Type} {n : Nat} {b : α} : ∀ {l : List (Nat × α)}, l.lookup n = some b → (n, b) ∈ l
  | (k, y) :: l, h => by
    rw [List.lookup_cons] at h
    by_cases e : n = k
    · subst e
      rw [show (n == n) = true from by simp] at h
      cases h
      exact List.mem_cons_self
    · rw [show (n == k) = false from by simpa using e] at h
      exact List.mem_cons_of_mem _ (lookup_mem h)
theorem RSl.unset {K : Kc} {H : Hp} {m : Mp} {σ : Sl} {τ : Lt} (i : Nat) (h : RSl K H m σ τ) : RSl K H m (σ.set i none) (τ.set i none) := by
  refine ⟨by rw [List.length_set, List.length_set, h.1], fun j d e => ?_⟩
  by_cases hj : i = j
  · subst hj
    by_cases hl : i < σ.length
    · rw [List.getElem?_set_self hl] at e; cases e
    · rw [List.getElem?_eq_none (by rw [List.length_set]; omega)] at e; cases e
  · rw [List.getElem?_set_ne hj] at e ⊢
    exact h.2 j d e
theorem rsl_none {K : Kc} {H : Hp} {m : Mp} {N : Nat} {τ : Lt} (h : τ.length = N) : RSl K H m (List.replicate N none) τ := ⟨by rw [List.length_replicate, h], fun i d e => by
  rw [List.getElem?_replicate] at e
  split at e <;> cases e⟩
section
variable {X : Cx} {E : XK} {x n : Str} {c : Value} {i : Nat} {body suite : List Stmt} {b₀ : Stmt} {np pos pos' : Pos} {cb cs : CS} {isa : List (Nat × Bool)}
theorem x_tryE (hC : Catch X.K c isa) (hN : X.N.Nodup) (hc : Names X x c) (tk : Takes X fun c d _ H => E.e c d H)
    (hb : ∀ (W : WX) (pn : List (Addr × Obj)) (xe : Value → Shared → Prop), Takes (X.tr pn xe) W → PassesOwn (model X.prog X.w) X.A X.env xe → SSs (X.tr pn xe) ⟨fun c d H => ∀ σ, W c d σ H, E.c, E.t, E.r⟩ body cb)
    (hsu : ∀ (a : Addr) (pn : List (Addr × Obj)), SSs (X.suite a pn) ⟨fun _ _ _ => False, E.c, E.t, E.r⟩ (b₀ :: suite) cs)
    (hex : X.ex = [] := by rfl) (hs : X.stack = X.env :: X.outer := by rfl) (hf : X.env.frame = some X.env.locals := by rfl) (hi : X.N[i]? = some n := by rfl) (hln : X.env.kindOf n = some .local := by rfl) :
    SS X E (.Try body [.ExceptHandler (some (.Name x np)) (some n) (b₀ :: suite) pos'] [] [] pos) (cTry isa X.N.length i cb cs) := by
  refine PS.imp (ps_tryE (ts := tS (kc X E) ⟨fun _ _ _ => False, E.c, E.t, E.r⟩ cs) (tb := fun W => tS (kc X E) ⟨fun c d H => ∀ σ, W c d σ H, E.c, E.t, E.r⟩ cb) (c := c) (i := i) hex hs hf hN hi hln hc tk hb hsu) fun D τ H ⟨m, σ, hs, hr, rs, p⟩ => ⟨m, σ, hs, hr, rs, ?_⟩
  unfold cTry at p
  cases eb : cb σ hs with
  | stuck => rw [eb] at p; exact p
  | ok fl h1 => rw [eb] at p; cases fl <;> exact p
  | exn y h1 =>
    rw [eb] at p
    intro cv od m1 H1 s1 hr1 rx σ' hl
    cases y with
    | exc k v =>
      obtain ⟨rfl, dx, w, rfl, ox, hd, rv⟩ := rx
      dsimp only at p
      cases el : isa.lookup k with
      | none => rw [el] at p; exact p.elim
      | some b =>
        refine ⟨b, hC.ok (k, b) (lookup_mem el), fun hb => ⟨k, dx, rfl, rfl, fun a na => ?_⟩, fun hb => ?_⟩
        · subst hb
          rw [el] at p
          dsimp only at p
          obtain ⟨stp, hr2⟩ := hr1.same (H' := upd H1 a (excO X.K k a dx)) fun b o z => (upd_ne (ne_of_none z na)).trans z
          have ne : dx ≠ a := ne_of_none hd na
          refine ⟨m1, (List.replicate X.N.length none).set i (some (.exc k v)), h1, hr2, RSl.set i (rsl_none hl) (.exc upd_same ((upd_ne ne).trans hd) (hr1.notin na) ox (rv.mono stp)), ?_⟩
          have p2 : PostS (kc X E) E m1 (upd H1 a (excO X.K k a dx)) _ D := PostS.step (s1.trans stp) p
          cases es : cs ((List.replicate X.N.length none).set i (some (.exc k v))) h1 with
          | stuck => rw [es] at p2; exact p2.elim
          | exn _ _ => rw [es] at p2; exact p2.elim
          | ok fl h2 =>
            rw [es] at p2
            cases fl with
            | rt d => exact p2
            | nx σ2 => exact fun τ' m' H' s hr rs => p2 (τ'.set i none) m' H' s hr (rs.unset i)
            | bk _ => exact p2.elim
            | ct _ => exact p2.elim
        · subst hb
          rw [el] at p
          exact p _ _ m1 H1 s1 hr1 ⟨rfl, dx, w, rfl, ox, hd, rv⟩
    | _ => exact rx.elim
end
end PL

set_option Elab.async false
set_option linter.all false
set_option maxRecDepth 100000
set_option maxHeartbeats 4000000
set_option autoImplicit false
namespace PL
open PySem PySem.Spec PySem.Calls PyProof.Rows L2
/-! ## exceptions asked -/
/-- what an exception class must say -/
structure ExD (K : PySem.W.Frag) (n : Nat) : Prop where
  x : XfC K (He.ga K (nmS n))
  cl : (PySem.W.clsIn K (He.ga K (nmS n))).isSome = true
  noV : PySem.W.findIn K (.ref (He.ga K (nmS n))) "value" = some none
  ca : PySem.W.findIn K (.ref (He.ga K (nmS n))) "__class__" = some (some (.builtin "object.__class__"))
  sp : PySem.W.specialIn K (.builtin "object.__class__") "__get__" = some (some (.builtin "getset_descriptor.__get__"))
  tk : PySem.W.takesIn K (.builtin "object.__class__") = some true
  mo : PySem.W.mroIn K (He.ga K (nmS n)) (.type "object") = some true
def exDB (K : PySem.W.Frag) (n : Nat) : Bool := xfB K (He.ga K (nmS n)) && ((PySem.W.clsIn K (He.ga K (nmS n))).isSome && (decide (PySem.W.findIn K (.ref (He.ga K (nmS n))) "value" = some none) && (decide (PySem.W.findIn K (.ref (He.ga K (nmS n))) "__class__" = some (some (.builtin "object.__class__"))) &&
  (decide (PySem.W.specialIn K (.builtin "object.__class__") "__get__" = some (some (.builtin "getset_descriptor.__get__"))) && (decide (PySem.W.takesIn K (.builtin "object.__class__") = some true) && decide (PySem.W.mroIn K (He.ga K (nmS n)) (.type "object") = some true))))))
theorem exDB_ok {K : PySem.W.Frag} {n : Nat} (h : exDB K n = true) : ExD K n := by
  unfold exDB at h
  simp only [Bool.and_eq_true, decide_eq_true_eq] at h
  obtain ⟨h1, h2, h3, h4, h5, h6, h7⟩ := h
  exact ⟨xfB_ok h1, h2, h3, h4, h5, h6, h7⟩
section
variable {P : Program} {w : World} {K : PySem.W.Frag} {H : Hp} {h : Heap} {n : Nat} {a dx : Addr} {v : V}
/-- an exception object and its dict -/
theorem exc_inst (hok : HOk P w H h) (ea : H a = some (excO K n a dx)) (ed : H dx = some (.xd [(Str.ofString "value", v)])) : ∃ (oe od : Obj) (u : Value), PySem.W.InstAt h a oe (He.ga K (nmS n)) (some od) ∧ RelV v u ∧ PySem.W.lookIn (Str.ofString "value") od = some (some u) := by
  have z : ObjOk P w H h a (.ext fun h => ∃ (oe : Obj) (vs : Array Value), h.get? a = some oe ∧ Zc (.ref (He.ga K (nmS n))) (some dx) oe ∧ oe.data = .fields vs) := hok a _ ea
  obtain ⟨oe, vs, e1, e2, e3⟩ := z.1
  have y : ObjOk P w H h dx (.xd [(Str.ofString "value", v)]) := hok dx _ ed
  obtain ⟨mA, hns, hr⟩ := y
  obtain ⟨od, ho, hl⟩ := lookIn_ns hns
  obtain ⟨u, hu, ru⟩ := RelO.some_of (v := v) (o := mA (Str.ofString "value")) (by
    have q := hr (Str.ofString "value")
    rwa [show ([(Str.ofString "value", v)] : List (Str × V)).lookup (Str.ofString "value") = some v from rfl] at q)
  exact ⟨oe, od, u, ⟨e1, e2.1, by unfold PySem.W.notCls; rw [e3] <;> rfl, by rw [e2.2]; exact ho⟩, ru, by rw [hl, hu]⟩
end
/-! e.value -/
def kVal (ns : List Nat) (d : D) (hs : List Ob) : R D := match d with
  | .exc n v => if ns.contains n = true then .ok v hs else .stuck
  | _ => .stuck
/-! isinstance(e, C) -/
def kIsC (tb : List (Nat × Bool)) (d : D) (hs : List Ob) : R D := match d with
  | .exc n _ => (match tb.lookup n with
    | some b => .ok (.bl b) hs
    | none => .stuck)
  | _ => .stuck
/-- a class by its name, and which exceptions are its -/
structure IsC (K : PySem.W.Frag) (C : Addr) (tb : List (Nat × Bool)) : Prop where
  ok : ∀ p ∈ tb, ExD K p.1 ∧ PySem.W.kitOne K (.ref (He.ga K (nmS p.1))) (.ref C) = some p.2
section
variable {X : Cx} {E : XK} {e : Expr} {f : CE} {pos p p2 : Pos}
theorem s_excv {ns : List Nat} (T : ∀ n ∈ ns, ExD X.K n) (h : SE X E e f) (hb : attributeBase e "value" X.env (eval e X.env) = eval e X.env := by rfl) : SE X E (.Attribute e "value" pos) (c1 (kVal ns) f) := by
  refine ⟨fun pins s τ H Q I q => attr_of hb (thn (h.run pins s τ H _ I (tE_bind (τ := τ) (f := f) (g := fun x _ hs => kVal ns x hs) q)) fun u s1 ⟨v, H1, I1, rv, m, σ, hs, d, hr, rs, rd, z⟩ => ?_)⟩
  unfold kVal at z
  cases rd with
  | @exc a dx n d v ea ed oa od rw' =>
    dsimp only at z
    obtain ⟨c, z⟩ := z.ite
    have T := T n (List.contains_iff_mem.mp c)
    obtain rfl : u = Value.ref a := rv
    obtain ⟨oe, odx, w', J, rw2, lk⟩ := exc_inst (K := X.K) I1.hok ea ed
    exact PySem.HandSPX.exc_get I1.kIn J T.x.ga T.x.gg T.x.exC (PySem.W.findObj_own T.x.hdC T.noV rfl lk) (handed_of rw2) ⟨v, H1, I1.tok _, rw2, z.here hr rw'⟩
  | _ => exact z.elim
theorem s_isC {C : Addr} {tb : List (Nat × Bool)} (x : Str) (T : IsC X.K C tb) (h : SE X E e f) (hm : X.mg "isinstance" = none) (hm2 : X.mg x = some (.ref C)) (hd : (x == ("__debug__" : Str)) = false := by decide)
    (hg : Gl X "isinstance" := by rfl) (hg2 : Gl X x := by rfl) (he : starEach [e, .Name x p2] X.env = (false, eval e X.env) :: starEach [.Name x p2] X.env := by rfl) (he2 : starEach [.Name x p2] X.env = (false, eval (.Name x p2) X.env) :: starEach [] X.env := by rfl)
    (hp : (backTo pos (starEach [.Name x p2] X.env)).any (·.1) = false := by rfl) : SE X E (.Call (.Name "isinstance" p) [e, .Name x p2] [] pos) (c1 (kIsC tb) f) := by
  have hcr : CallR X (.builtin "isinstance") (fun xs H Q => ∃ (a dx : Addr) (n : Nat) (v : V) (b : Bool), xs = [.ref a, .ref C] ∧ H a = some (excO X.K n a dx) ∧ H dx = some (.xd [(Str.ofString "value", v)]) ∧ (n, b) ∈ tb ∧ Q (.bl b) H) := by
    intro pins s σ H xs us Q I r ⟨a, dx, n, v, b, e1, ea, ed, mb, q⟩
    subst e1
    obtain ⟨u1, u2, rfl, r1, r2⟩ := vals2 r
    obtain rfl : u1 = Value.ref a := r1
    obtain rfl : u2 = Value.ref C := r2
    obtain ⟨oe, od, u, J, _, _⟩ := exc_inst (K := X.K) I.hok ea ed
    obtain ⟨T1, k1⟩ := T.ok _ mb
    exact PySem.W.kia_one (PySem.W.kitx_exc T1.cl T1.x.ga T1.x.gg T1.x.exC T1.ca T1.sp T1.tk T1.mo) I.kIn J k1 (fun z => nomatch z) fun tk => ⟨.bl b, H, I.tok tk, rfl, q⟩
  have hcn : PE X (.Name x p2) (fun _ H Q => Q (.ref C) H) := ⟨fun pins s σ H Q I q => ld_glob I hg2 hm2 ⟨.ref C, H, I, rfl, q⟩ hd⟩
  refine PE.imp (pe_callB hcr hg hm (by decide +kernel) (pa_cons h (pa_cons hcn pa_nil he2) he) (he := he) (hpl := hp)) fun τ H Q h => ?_
  have h1 := tE_bind (τ := τ) (f := f) (g := fun x _ hs => kIsC tb x hs) h
  refine tE_mono h1 fun v H1 ⟨m, σ, hs, d, hr, _, rd, z⟩ => ?_
  unfold kIsC at z
  cases rd with
  | @exc a dx n d v ea ed oa od rw' =>
    dsimp only at z
    cases el : tb.lookup n with
    | none => rw [el] at z; exact z.elim
    | some b =>
      rw [el] at z
      exact ⟨a, dx, n, v, b, rfl, ea, ed, lookup_mem el, z.here hr (.bl b)⟩
  | _ => exact z.elim
end
end PL

set_option Elab.async false
set_option linter.all false
set_option maxRecDepth 100000
set_option maxHeartbeats 4000000
set_option autoImplicit false
namespace PL
open PySem PySem.Spec PySem.Calls PyProof.Rows L2
/-! ## what the head says of the exceptions' classes -/
def oexB (K : PySem.W.Frag) (C : Addr) : Bool := match K.lookup C with
  | some ⟨.type t, _, .cls cd, sl⟩ => (match cd.mro, sl.toList with
    | .ref C' :: bm, [_, _, _, _, some (.builtin m), _] => decide (t = "type") && (decide (C' = C) && (decide (m = "ValueError.__new__") && (cd.hasDict && (!cd.hasDel && PySem.HandSPX.refsVE bm))))
    | _, _ => false)
  | _ => false
def someRT (o : Option Bool) : Bool := decide (o = some true)
def clsEB (K : PySem.W.Frag) (D fI C : Addr) : Bool := oexB K C && (decide (PySem.W.findIn K (.ref C) "__setattr__" = some (some (.builtin "object.__setattr__"))) && (someRT (PySem.W.subIn K (.ref C) (.type "BaseException")) && (decide (PySem.W.typeIn K (.ref C) = some (.type "type")) && (PySem.W.keepIn K (.ref C) &&
  (decide (PySem.W.findIn K (.ref C) "__init__" = some (some (.ref fI))) && (decide (PySem.W.typeIn K (.ref fI) = some (.type "function")) && (someRT (PySem.W.mroIn K C (.ref D)) && ((PySem.W.clsIn K D).isSome && (decide (PySem.W.ks_superIn K C D "__init__" = some (some (.builtin "ValueError.__init__"))) &&
  (someRT (PySem.W.subIn K (.ref C) (.type "ValueError")) && decide (PySem.W.findIn K (.ref C) "value" = some none)))))))))))
theorem oexB_ok {K : PySem.W.Frag} {C : Addr} (h : oexB K C = true) : ∃ nm q N bs bm sn sub ab col dd k0 k1 k2 k3 k5, K.lookup C = some (excClassObj nm q C N bs bm true sn sub ab col dd k0 k1 k2 k3 k5 "ValueError.__new__") ∧ PySem.HandSPX.refsVE bm = true := by
  unfold oexB at h
  split at h
  · rename_i t dd cd sl ho
    split at h
    · rename_i C' bm k0 k1 k2 k3 m k5 hm hs
      simp only [Bool.and_eq_true, decide_eq_true_eq, Bool.not_eq_true'] at h
      obtain ⟨rfl, rfl, rfl, hd, hx, hv⟩ := h
      obtain ⟨nm, bs, mro, ns, qn, hasD, sn, sub, ab, col, del⟩ := cd
      dsimp only at hm hd hx
      subst hm hd hx
      obtain ⟨l⟩ := sl
      have hs : l = _ := hs
      subst hs
      exact ⟨nm, qn, ns, bs, bm, sn, sub, ab, col, dd, k0, k1, k2, k3, k5, ho, hv⟩
    · cases h
  · cases h
theorem clsEB_ok {K : PySem.W.Frag} {C D fI : Addr} (h : clsEB K D fI C = true) : EarC K C D fI := by
  unfold clsEB someRT at h
  simp only [Bool.and_eq_true, decide_eq_true_eq] at h
  obtain ⟨h1, h2, h3, h4, h5, h6, h7, h8, h9, h10, h11, h12⟩ := h
  exact ⟨⟨oexB_ok h1, h2, h3, h4, h5⟩, h6, h7, h8, Option.isSome_iff_exists.mp h9, h10, h11, h12⟩
/-- the common __init__ of the classes -/
def initE (K : PySem.W.Frag) (d : Nat) : Addr := He.ma K (He.ga K (nmS d)) "__init__"
abbrev EVal : Type := Option (Str × Arguments × FuncBody × Scope × Addr × Addr)
def earG (d : Nat) (K : PySem.W.Frag) : EVal := match K.lookup (initE K d) with
  | some ⟨_, _, .func fd, _⟩ => some (fd.qualname, fd.params, fd.body, fd.scope, fd.globals, fd.builtins)
  | _ => none
def initB (P : Program) (d : Nat) (K : PySem.W.Frag) : Bool := (match K.lookup (initE K d) with
  | some ⟨_, _, .func fd, _⟩ => (match fd.closure, fd.code with
    | [(nm, cc)], .ref cda => decide (nm = "__class__") && (decide (fd.defaults = .none) && ((match K.lookup cc with
      | some ⟨_, _, .cell (some (.ref D)), _⟩ => decide (D = He.ga K (nmS d))
      | _ => false) && (PySem.W.codeIn K (.ref cda) fd.qualname && (match K.lookup cda with
        | some ⟨_, _, .fields vs, _⟩ => (match (vs[2]? : Option Value) with
          | some (.str f _) => decide (f = (P.main.file : Str))
          | _ => false)
        | _ => false))))
    | _, _ => false)
  | _ => false) && (decide (PySem.W.nsIn K mainGlobals "super" = some none) && (decide (PySem.W.nsIn K cStatics "thirdparty.any" = some none) && !(P.main.scope.names.lookup ("super" : Str)).isSome))
theorem initB_ok {P : Program} {d : Nat} {K : PySem.W.Frag} {q : Str} {ps : Arguments} {body : List Stmt} {scope : Scope} (h : initB P d K = true) (g : earG d K = some (q, ps, .stmts body, scope, mainGlobals, builtinsNs)) : EarF P K (He.ga K (nmS d)) (initE K d) q ps body scope := by
  unfold initB at h
  obtain ⟨h1, h⟩ := Bool.and_eq_true_iff.mp h
  obtain ⟨h2, h⟩ := Bool.and_eq_true_iff.mp h
  obtain ⟨h3, h4⟩ := Bool.and_eq_true_iff.mp h
  refine ⟨?_, of_decide_eq_true h2, of_decide_eq_true h3, by simpa using h4⟩
  unfold earG at g
  split at h1
  · rename_i oc od fd sl ho
    rw [ho] at g
    obtain ⟨n1, n2, n3, n4, n5, n6, n7, n8, n9, n10, n11, n12, n13, n14, n15⟩ := fd
    dsimp only at g h1
    simp only [Option.some.injEq, Prod.mk.injEq] at g
    obtain ⟨e1, e2, e3, e4, e5, e6⟩ := g
    subst e1 e2 e3 e4 e5 e6
    split at h1
    · rename_i nm cc cda
      simp only [Bool.and_eq_true, decide_eq_true_eq] at h1
      obtain ⟨rfl, rfl, c1, c2, c3⟩ := h1
      refine ⟨oc, od, sl, n1, cc, cda, _, _, _, _, _, ho, c2, ?_, ?_⟩
      · split at c3
        · rename_i ccl cdd vs ccs e
          split at c3
          · rename_i f tf ev
            obtain rfl := of_decide_eq_true c3
            exact ⟨ccl, cdd, vs, ccs, tf, e, ev⟩
          · cases c3
        · cases c3
      · split at c1
        · rename_i cl cld D csl e
          obtain rfl := of_decide_eq_true c1
          exact ⟨cl, cld, csl, e⟩
        · cases c1
    · cases h1
  · cases h1
/-- all that a law asks: ns the classes that are raised, ct what the clause over d takes, is the isinstance tables, vs whose value is read -/
def earB (P : Program) (d : Nat) (ns : List Nat) (ct : List (Nat × Bool)) (is : List (Nat × List (Nat × Bool))) (K : PySem.W.Frag) : Bool :=
  initB P d K && ((ns.all fun n => clsEB K (He.ga K (nmS d)) (initE K d) (He.ga K (nmS n)) && (exDB K n && decide (PySem.W.nsIn K mainGlobals (nmS n) = some (some (.ref (He.ga K (nmS n))))))) && (decide (PySem.W.nsIn K mainGlobals (nmS d) = some (some (.ref (He.ga K (nmS d))))) &&
    ((ct.all fun p => decide (PySem.W.exmOne K (.ref (He.ga K (nmS p.1))) (.ref (He.ga K (nmS d))) = some p.2)) && (is.all fun q => decide (PySem.W.nsIn K mainGlobals (nmS q.1) = some (some (.ref (He.ga K (nmS q.1))))) && (q.2.all fun p => exDB K p.1 && decide (PySem.W.kitOne K (.ref (He.ga K (nmS p.1))) (.ref (He.ga K (nmS q.1))) = some p.2))))))
abbrev earV (q : Str) (ps : Arguments) (body : List Stmt) (scope : Scope) : Bool × EVal := (true, some (q, ps, .stmts body, scope, mainGlobals, builtinsNs))
structure EarS (P : Program) (d : Nat) (ns : List Nat) (ct : List (Nat × Bool)) (is : List (Nat × List (Nat × Bool))) (K : PySem.W.Frag) (mg : Str → Option Value) (q : Str) (ps : Arguments) (body : List Stmt) (scope : Scope) : Prop where
  F : EarF P K (He.ga K (nmS d)) (initE K d) q ps body scope
  C : ∀ n ∈ ns, EarC K (He.ga K (nmS n)) (He.ga K (nmS d)) (initE K d) ∧ ExD K n ∧ mg (nmS n) = some (.ref (He.ga K (nmS n)))
  D : mg (nmS d) = some (.ref (He.ga K (nmS d)))
  ct : Catch K (.ref (He.ga K (nmS d))) ct
  is : ∀ q ∈ is, IsC K (He.ga K (nmS q.1)) q.2 ∧ mg (nmS q.1) = some (.ref (He.ga K (nmS q.1)))
section
variable {P : Program} {d : Nat} {ns : List Nat} {ct : List (Nat × Bool)} {is : List (Nat × List (Nat × Bool))} {K : PySem.W.Frag} {mg : Str → Option Value} {h : Heap} {q : Str} {ps : Arguments} {body : List Stmt} {scope : Scope}
theorem EarS.of (kin : K.In h) (G : h.Ns mainGlobals mg) (e : (earB P d ns ct is K, earG d K) = earV q ps body scope) : EarS P d ns ct is K mg q ps body scope := by
  have e1 : earB P d ns ct is K = true := congrArg (fun z : Bool × EVal => z.1) e
  have e2 : earG d K = some (q, ps, .stmts body, scope, mainGlobals, builtinsNs) := congrArg (fun z : Bool × EVal => z.2) e
  unfold earB at e1
  simp only [Bool.and_eq_true, decide_eq_true_eq, List.all_eq_true] at e1
  obtain ⟨h1, h2, h3, h4, h5⟩ := e1
  refine ⟨initB_ok h1 e2, fun n hn => ?_, PySem.W.mg_of kin G h3, ⟨fun p hp => h4 p hp⟩, fun q hq => ?_⟩
  · obtain ⟨a, b, c⟩ := h2 n hn
    exact ⟨clsEB_ok a, exDB_ok b, PySem.W.mg_of kin G c⟩
  · obtain ⟨a, b⟩ := h5 q hq
    exact ⟨⟨fun p hp => ⟨exDB_ok (b p hp).1, (b p hp).2⟩⟩, PySem.W.mg_of kin G a⟩
theorem EarS.x (S : EarS P d ns ct is K mg q ps body scope) (T : EarT ps body scope) (n : Nat) (x : Str) (hn : n ∈ ns := by decide) (hx : nmS n = x := by decide +kernel) : EarX P K mg x n :=
  ⟨⟨_, _, _, _, _, _, (S.C n hn).1, S.F, T⟩, by rw [← hx]; exact (S.C n hn).2.2⟩
theorem EarS.v (S : EarS P d ns ct is K mg q ps body scope) : ∀ n ∈ ns, ExD K n := fun n hn => (S.C n hn).2.1
theorem EarS.dg (S : EarS P d ns ct is K mg q ps body scope) (x : Str) (hx : nmS d = x := by decide +kernel) : mg x = some (.ref (He.ga K (nmS d))) := by rw [← hx]; exact S.D
theorem EarS.i (S : EarS P d ns ct is K mg q ps body scope) (j : Nat) (x : Str) (n : Nat) (tb : List (Nat × Bool)) (e : is[j]? = some (n, tb) := by rfl) (hx : nmS n = x := by decide +kernel) : IsC K (He.ga K (nmS n)) tb ∧ mg x = some (.ref (He.ga K (nmS n))) := by
  rw [← hx]; exact S.is (n, tb) (List.mem_of_getElem? e)
end
end PL

set_option Elab.async false
set_option linter.all false
set_option maxRecDepth 100000
set_option maxHeartbeats 4000000
set_option autoImplicit false
namespace PL
open PySem PySem.Spec PySem.Calls PyProof.Rows L2
/-! ## the lambdas of a text -/
abbrev LamT : Type := Arguments × Expr × Scope
def lamE : Nat → Expr → List LamT
  | 0, _ => []
  | k + 1, e => match e with
    | .Lambda a b s _ => [(a, b, s)]
    | .BoolOp _ vs _ => vs.flatMap (lamE k)
    | .BinOp l _ r _ => lamE k l ++ lamE k r
    | .UnaryOp _ o _ => lamE k o
    | .IfExp t b o _ => lamE k t ++ lamE k b ++ lamE k o
    | .ListComp e gs _ _ => lamE k e ++ gs.flatMap fun g => lamE k g.iter ++ g.ifs.flatMap (lamE k)
    | .Compare l _ cs _ => lamE k l ++ cs.flatMap (lamE k)
    | .Call f as ks _ => lamE k f ++ as.flatMap (lamE k) ++ ks.flatMap fun q => lamE k q.value
    | .Attribute v _ _ => lamE k v
    | .Subscript v s _ => lamE k v ++ lamE k s
    | .Starred v _ => lamE k v
    | .List es _ => es.flatMap (lamE k)
    | .Tuple es _ _ => es.flatMap (lamE k)
    | _ => []
def lamS : Nat → Stmt → List LamT
  | 0, _ => []
  | k + 1, s => match s with
    | .Return (some e) _ => lamE k e
    | .Assign _ v _ => lamE k v
    | .AugAssign _ _ v _ => lamE k v
    | .For _ i b _ _ => lamE k i ++ b.flatMap (lamS k)
    | .While t b _ _ => lamE k t ++ b.flatMap (lamS k)
    | .If t b o _ => lamE k t ++ b.flatMap (lamS k) ++ o.flatMap (lamS k)
    | .Expr e _ => lamE k e
    | _ => []
def lamAt (b : List Stmt) (j : Nat) (d : LamT) : LamT := ((b.flatMap (lamS 40))[j]?).getD d
/-! ## closures by number, no text -/
def phN (own : List (Nat × List Nat × CE)) (σ : Sl) (n : Nat) : Fn := match own.find? (fun L => L.1 == n) with
  | some L => phOf L.2.1 L.2.2 σ
  | none => fun _ _ => .stuck
abbrev Own : Type := List (LamD × List Nat × CE)
def numO (own : Own) : List (Nat × List Nat × CE) := own.map fun L => (L.1.n, L.2.1, L.2.2)
theorem phN_eq (own : Own) : phN (numO own) = phL own := by
  funext σ n
  unfold phN phL numO
  have : ∀ own : Own, ((own.map fun L => (L.1.n, L.2.1, L.2.2)).find? fun L => L.1 == n) = (own.find? fun L => L.1.n == n).map fun L => (L.1.n, L.2.1, L.2.2) := by
    intro own
    induction own with
    | nil => rfl
    | cons a l ih =>
      rw [List.map_cons, List.find?_cons, List.find?_cons]
      cases (a.1.n == n) with
      | true => rfl
      | false => exact ih
  rw [this]
  cases own.find? fun L => L.1.n == n <;> rfl
theorem clo_ownN {X : Cx} {E : XK} {T : List (Addr × Str)} {q kk : Nat} {own : Own} {c0 : CloT} (hE : E.c = cloAt (X.env.qual ++ "<lambda>") X.env.cells (own.map (·.1)) c0) (lo : ∀ L ∈ own, LamOk X E T q kk L.1 L.2.1 L.2.2) : CloF X E T q (kk + 1) (phN (numO own)) := by
  rw [phN_eq]
  exact clo_own hE lo
theorem all_nil {α : Type} {p : α → Prop} : ∀ L ∈ ([] : List α), p L := fun _ h => absurd h (by simp)
theorem all_cons {α : Type} {p : α → Prop} {a : α} {l : List α} (h : p a) (t : ∀ L ∈ l, p L) : ∀ L ∈ a :: l, p L := fun L hL => by
  rcases List.mem_cons.mp hL with z | z
  · rw [z]; exact h
  · exact t L z
theorem own_by {q0 q1 : Nat} {l : List LamD} (h : (l.all fun L => decide (q0 ≤ L.n) && decide (L.n < q1)) = true) : ∀ L ∈ l, q0 ≤ L.n ∧ L.n < q1 := fun L hL => by
  have := List.all_eq_true.mp h L hL
  simpa using this
/-- a lambda, in a frame that knows its table -/
theorem s_lamM {X : Cx} {E : XK} {T : List (Addr × Str)} {q : Nat} {own : Own} {c0 : CloT} {f c P : Addr} {q' : Str} {pos : Pos} {L : LamD} (M : MkT X.K X.base X.mg T f c P q') (ht : EOk T q E) (hE : E.c = cloAt (X.env.qual ++ "<lambda>") X.env.cells (own.map (·.1)) c0)
    (hf : (own.map (·.1)).find? (fun K => K.n == L.n) = some L) (LP : LamP X.env.scope L.scope L.ps) (hq : q' = X.env.qual ++ "<lambda>" := by rfl) (hcode : X.env.code = .ref c := by rfl) (hdef : defaultsOf L.params X.env = ([], []) := by rfl) :
    SE X E (.Lambda L.params L.body L.scope pos) (cK (.clo L.n)) := by
  subst hq
  refine s_lam M.tab hcode (by rw [ht.t]; exact M.mem) (fun p hp => M.uni p (by rw [← ht.t]; exact hp)) (fun f b => ?_) LP hdef
  rw [hE]
  unfold cloAt
  rw [hf]
section
variable {P : Program} {w : World} {K : PySem.W.Frag} {mg : Str → Option Value} {base : Heap} {T : List (Addr × Str)} {q q' k : Nat} {x : Str} {params : Arguments} {ps : List Str} {fn : Fn}
theorem Cal.mQ (c : Cal P w K mg base T q k x params ps fn) (h : q ≤ q') : Cal P w K mg base T q' k x params ps fn := by
  obtain ⟨f, fd, nm, ql, b, sc, G, g, F⟩ := c.ex
  exact ⟨f, fd, nm, ql, b, sc, G.monoQ h, g, F⟩
end
theorem CloP.fr {X : Cx} {E : XK} {T : List (Addr × Str)} {q kk : Nat} {ph : Nat → Fn} (C : CloP X.prog X.w X.K X.mg X.base T q kk E.c E.r ph X.s_0 X.H_0)  (hex : X.ex = [] := by rfl) : CloF X E T q kk (fun _ => ph) := fun pins τ σ s1 H1 I => C.step (by have z := I.base; rw [hex] at z; exact z) fun p hp => List.mem_cons_of_mem _ hp
theorem CloP.at {X : Cx} {E : XK} {T : List (Addr × Str)} {q kk : Nat} {ph : Nat → Fn} (C : CloP X.prog X.w X.K X.mg X.base T q kk E.c E.r ph X.s_0 X.H_0) (pins : List (Addr × Obj)) (τ : Lt) (s : Shared) (H : Hp) (I : Inv X pins τ H s) (hex : X.ex = [] := by rfl) : CloP X.prog X.w X.K X.mg X.base T q kk E.c E.r ph s H := C.step (by have z := I.base; rw [hex] at z; exact z) fun _ h => h
theorem EOk.wi {T : List (Addr × Str)} {q : Nat} {E : XK} (h : EOk T q E) (w : L2.XK) : EOk T q ⟨w, E.c, E.t, E.r⟩ := ⟨h.t, h.c, h.fa⟩
theorem no_hx {X : Cx} : Passes (L2.CX X.prog X.w) X fun _ _ _ => False := fun _ _ _ _ _ _ _ ⟨_, _, _, _, _, _, _, _, _, _, _, _, z⟩ => z.elim
/-- the method m of a class of the top -/
def methOf (s : Stmt) (m : Str) : Stmt := match s with
  | .ClassDef _ _ _ body _ _ _ _ _ _ _ => (body.find? fun t => match t with
    | .FunctionDef n _ _ _ _ _ _ _ _ _ => decide (n = m)
    | _ => false).getD s
  | _ => s
theorem LamOk.lit {X : Cx} {E : XK} {T : List (Addr × Str)} {q kk n : Nat} {ps : List Str} {lt : LamT} {is : List Nat} {g : CE} {a : Arguments} {b : Expr} {s : Scope} (e : lt = (a, b, s)) (h : LamOk X E T q kk ⟨n, ps, a, b, s⟩ is g) : LamOk X E T q kk ⟨n, ps, lt.1, lt.2.1, lt.2.2⟩ is g := by
  subst e
  exact h
end PL

set_option Elab.async false
set_option linter.all false
set_option maxRecDepth 100000
set_option maxHeartbeats 4000000
set_option autoImplicit false
namespace PL
open PySem PySem.Spec PySem.Calls PyProof.Rows L2
/-! ## a, b, c = x, y, z -/
def cPar3 (i j l : Nat) (f : CA) : CS := fun σ hs => (f σ hs).bind fun ds hs => match ds with
  | [a, b, c] => .ok (.nx (((σ.set i (some a)).set j (some b)).set l (some c))) hs
  | _ => .stuck
theorem x_par3 {X : Cx} {E : XK} {i j l : Nat} {x y z : Str} {a b c : Expr} {g : CA} {px py pz pt pos : Pos} {kt k2 pt2} (hc : X.calm = true) (hN : X.N.Nodup) (ha : SA X E [a, b, c] g) (hij : i ≠ j := by decide) (hil : i ≠ l := by decide) (hjl : j ≠ l := by decide)
    (hi : X.N[i]? = some x := by rfl) (hj : X.N[j]? = some y := by rfl) (hl : X.N[l]? = some z := by rfl)
    (hx : X.env.scope.names.lookup x = some .local := by rfl) (hy : X.env.scope.names.lookup y = some .local := by rfl) (hz : X.env.scope.names.lookup z = some .local := by rfl)
    (hw : swappedStores [.Tuple [.Name x px, .Name y py, .Name z pz] kt pt] (.Tuple [a, b, c] k2 pt2) X.env = pure (some [x, y, z]) := by rfl)
    (hs : swapsWithSole [.Tuple [.Name x px, .Name y py, .Name z pz] kt pt] (.Tuple [a, b, c] k2 pt2) pos.line X.env = pure false := by rfl) :
    SS X E (.Assign [.Tuple [.Name x px, .Name y py, .Name z pz] kt pt] (.Tuple [a, b, c] k2 pt2) pos) (cPar3 i j l g) :=
  PS.imp (ps_par3 hc hN hi hj hl hij hil hjl hx hy hz ha hw hs) fun D τ H ⟨m, σ, hs, hr, rs, p⟩ => by
    refine ⟨m, σ, hs, hr, rs, ?_⟩
    unfold cPar3 at p
    cases e : g σ hs with
    | stuck => rw [e] at p; exact p.elim
    | exn x hs1 => rw [e] at p; exact p
    | ok ds hs1 =>
      rw [e, bind_ok] at p
      intro vs m1 H1 s1 hr1 r1
      split at p
      · cases r1 with
        | cons ra r1 => cases r1 with
          | cons rb r1 => cases r1 with
            | cons rc r1 =>
              cases r1
              exact ⟨_, _, _, rfl, PostS.next_step s1 hr1 ((((rs.mono s1).set i ra).set j rb).set l rc) p⟩
      · exact p.elim
/-! ## x in s, x not in s: lists and tuples of flat data; one sign in a text -/
def toV : D → V
  | .bl b => .bl b
  | .int i => .int i
  | .str x => .str x
  | _ => .non
def flatD : D → Bool
  | .non => true
  | .bl _ => true
  | .int _ => true
  | .str _ => true
  | _ => false
def kIn (neg : Bool) (a b : D) (hs : List Ob) : R D := match b with
  | .tup ys => if (flatD a && ys.all flatD) = true then .ok (.bl (if neg then !inV (toV a) (ys.map toV) else inV (toV a) (ys.map toV))) hs else .stuck
  | .fl ys => if (flatD a && ys.all flatD) = true then .ok (.bl (if neg then !inV (toV a) (ys.map toV) else inV (toV a) (ys.map toV))) hs else .stuck
  | .str z => (match a with
    | .str ⟨⟨[c]⟩⟩ => .ok (.bl (if neg then !decide (c ∈ z.cps.toList) else decide (c ∈ z.cps.toList))) hs
    | _ => .stuck)
  | _ => .stuck
section
variable {K : Kc} {E : XK} {H : Hp} {m : Mp} {hs : List Ob} {τ : Lt}
theorem flat_rd {d : D} {v : V} (r : RD K H m d v) (h : flatD d = true) : v = toV d ∧ flatV v = true := by
  cases r <;> first | exact ⟨rfl, rfl⟩ | cases h
theorem flat_rds : ∀ {ds : List D} {vs : List V}, RDs K H m ds vs → ds.all flatD = true → vs = ds.map toV ∧ vs.all flatV = true
  | _, _, .nil, _ => ⟨rfl, rfl⟩
  | _, _, .cons a b, h => by
    rw [List.all_cons, Bool.and_eq_true] at h
    obtain ⟨e1, f1⟩ := flat_rd a h.1
    obtain ⟨e2, f2⟩ := flat_rds b h.2
    exact ⟨by rw [List.map_cons, ← e1, ← e2], by rw [List.all_cons, f1, f2]; rfl⟩
def rInX (K : PySem.W.Frag) (neg : Bool) : R2 := fun x y H Q => rIn K neg x y H Q ∨ ∃ (c : Nat) (z : Str), x = .str ⟨#[c]⟩ ∧ y = .str z ∧ Q (.bl (if neg then !decide (c ∈ z.cps.toList) else decide (c ∈ z.cps.toList))) H
theorem o2_in {neg : Bool} : Op2 K (rInX K.f neg) (kIn neg) := fun E H m hs d d2 v w Q hr r1 r2 p => by
  unfold kIn at p
  split at p
  · obtain ⟨c, p⟩ := p.ite
    obtain ⟨c1, c2⟩ := Bool.and_eq_true_iff.mp c
    cases r2 with
    | tup z q =>
      obtain ⟨e1, f1⟩ := flat_rd r1 c1
      obtain ⟨e2, f2⟩ := flat_rds q c2
      exact .inl ⟨_, _, rfl, .inr z.sq, f1, f2, by rw [e1, e2]; exact p.here hr (.bl _)⟩
  · obtain ⟨c, p⟩ := p.ite
    obtain ⟨c1, c2⟩ := Bool.and_eq_true_iff.mp c
    cases r2 with
    | fl z n q =>
      obtain ⟨e1, f1⟩ := flat_rd r1 c1
      obtain ⟨e2, f2⟩ := flat_rds q c2
      exact .inl ⟨_, _, rfl, .inl (.inl (.inl z)), f1, f2, by rw [e1, e2]; exact p.here hr (.bl _)⟩
  · cases r2
    split at p
    · cases r1
      exact .inr ⟨_, _, rfl, rfl, p.here hr (.bl _)⟩
    · exact p.elim
  · exact p.elim
theorem o_in {X : Cx} : OpR X (compareOp .In) (rInX X.K false) := op_in_seq.or op_in_sign
theorem o_notIn {X : Cx} : OpR X (compareOp .NotIn) (rInX X.K true) := op_notIn_seq.or op_notIn_sign
end
section
variable {X : Cx} {E : XK} {a b : Expr} {f g : CE} {pos : Pos}
theorem s_in (ha : SE X E a f) (hb : SE X E b g) (hm : behindInMarks .In b = false := by rfl) : SE X E (.Compare a [.In] [b] pos) (c2 (kIn false) f g) := PE.imp (pe_cmpR o_in ha hb hm) (imp2 o2_in)
theorem s_nin (ha : SE X E a f) (hb : SE X E b g) (hm : behindInMarks .NotIn b = false := by rfl) : SE X E (.Compare a [.NotIn] [b] pos) (c2 (kIn true) f g) := PE.imp (pe_cmpR o_notIn ha hb hm) (imp2 o2_in)
theorem st_in (ha : SE X E a f) (hb : SE X E b g) (hm : behindInMarks .In b = false := by rfl) : ST X E (.Compare a [.In] [b] pos) (c2 (kIn false) f g) := PT.imp (pt_cmpR o_in ha hb hm) fun _ _ _ h => imp2 o2_in _ _ _ h
theorem st_nin (ha : SE X E a f) (hb : SE X E b g) (hm : behindInMarks .NotIn b = false := by rfl) : ST X E (.Compare a [.NotIn] [b] pos) (c2 (kIn true) f g) := PT.imp (pt_cmpR o_notIn ha hb hm) fun _ _ _ h => imp2 o2_in _ _ _ h
end
/-! ## list(range(a, b, c)) -/
def rgC (i c : Int) (n : Nat) : List D := (List.range n).map fun k => D.int (i + (k : Nat) * c)
def okRg3 (i j c : Int) : Bool := decide (c ≠ 0) && (decide (c.natAbs < 1073741824) && (Builtin.Range.small i j c && (decide (0 ≤ Builtin.Range.rangeSize i j c) && decide (Builtin.Range.rangeSize i j c ≤ 16777216))))
def kLRg3 (b : Bool) : Fn := fun ds hs => match ds with
  | [.int i, .int j, .int c] => if okRg3 i j c = true then newL b (rgC i c (Builtin.Range.rangeSize i j c).toNat) hs else .stuck
  | _ => .stuck
theorem vals_rgC {i c : Int} {n : Nat} {acc : Array Value} (h : ItemsOf (fun k v => ∃ t, v = .int (i + k * c) t) acc n) : Vals ((List.range n).map fun k => V.int (i + (k : Nat) * c)) acc.toList := by
  have e : acc.toList.length = n := by rw [Array.length_toList]; exact h.1
  rw [← e]
  refine vals_of_get acc.toList _ fun k u hk => ?_
  obtain ⟨t, rfl⟩ := h.2 k u (by rw [← hk, Array.getElem?_toList])
  exact ⟨t, rfl⟩
theorem rds_rgC {K : Kc} {H : Hp} {m : Mp} {i c : Int} : ∀ ks : List Nat, RDs K H m (ks.map fun k => D.int (i + (k : Nat) * c)) (ks.map fun k => V.int (i + (k : Nat) * c))
  | [] => .nil
  | k :: ks => .cons (.int _) (rds_rgC ks)
theorem s_listRg3 {X : Cx} {E : XK} {e1 e2 e3 : Expr} {g : CA} {p p2 pos pos2 : Pos} (b : Bool) (hc : X.calm = true) (ha : SA X E [e1, e2, e3] g) (hm : X.mg "list" = none) (hm2 : X.mg "range" = none) (hg : Gl X "list" := by rfl) (hg2 : Gl X "range" := by rfl)
    (hs : starEach [e1, e2, e3] X.env = (false, eval e1 X.env) :: starEach [e2, e3] X.env := by rfl) (hpl : (backTo pos2 (starEach [e2, e3] X.env)).any (·.1) = false := by rfl)
    (nb : starEach [.Call (.Name "range" p2) [e1, e2, e3] [] pos2] X.env = (false, eval (.Call (.Name "range" p2) [e1, e2, e3] [] pos2) X.env) :: starEach [] X.env := by rfl) :
    SE X E (.Call (.Name "list" p) [.Call (.Name "range" p2) [e1, e2, e3] [] pos2] [] pos) (cF (kLRg3 b) g) := by
  refine ⟨fun pins s τ H Q I h => ?_⟩
  refine Call_ (ld_blt I hg hm boot_list (PyProof.Rows.callWith_type1 (args_cons (Call_ (ld_blt I hg2 hm2 boot_range (PyProof.Rows.callWith_type1 (thn (ha.run pos2 pins s τ H _ I (tE_args (τ := τ) h)) fun us s1 ⟨vs, H1, I1, r1, m, hs1, ds, hr, rd, z⟩ => ?_) hs hpl))) nb) nb))
  unfold kLRg3 at z
  split at z
  · rename_i i j c
    obtain ⟨ok, z⟩ := z.ite
    unfold okRg3 at ok
    simp only [Bool.and_eq_true, decide_eq_true_eq] at ok
    obtain ⟨c0, c1, c2, c3, c4⟩ := ok
    cases rd with
    | cons q1 rd => cases rd with
      | cons q2 rd => cases rd with
        | cons q3 rd =>
          cases rd; cases q1; cases q2; cases q3
          cases r1 with
          | cons w1 r1 => cases r1 with
            | cons w2 r1 => cases r1 with
              | cons w3 r1 =>
                cases r1
                obtain ⟨t, rfl⟩ := w1
                obtain ⟨t', rfl⟩ := w2
                obtain ⟨t'', rfl⟩ := w3
                refine call_range_3 c0 ?_ (.inl (PyProof.noPylong_small c1))
                have I2 : Inv X pins τ H1 { s1 with heap := s1.heap.push { cls := .type "range", data := .fields #[.int i t, .int j t', .int c t''] } } := I1.kept (t' := s1.toks) fun b o e => Heap.get?_push_of_some _ e
                refine args_nil (call_list_range (n := (Builtin.Range.rangeSize i j c).toNat) (I2.ok.hd hc) (IsRange.new ..) c2 (by omega) (by omega) fun h' tk acc c' hk e' hi => ?_)
                have hn := I2.hok.fresh (Nat.le_refl _)
                have I3 := I2.laid (t' := tk) hk (Nat.le_refl _) (show ObjOk X.prog X.w (upd H1 _ (.lst _)) h' _ (.lst ((List.range (Builtin.Range.rangeSize i j c).toNat).map fun k => V.int (i + (k : Nat) * c))) from ⟨?_, acc.toList, c', vals_rgC hi, ?_⟩)
                · exact ⟨.ref _, _, I3, rfl, post_new hr (rds_rgC _) hn z⟩
                · rw [List.length_map, List.length_range, sizeLine_eq]; omega
                · rw [Array.toArray_toList]; exact e'
  · exact z.elim
/-! ## xs[::-1], xs a list -/
theorem RDs.rev {K : Kc} {H : Hp} {m : Mp} : ∀ {ds : List D} {vs : List V}, RDs K H m ds vs → RDs K H m ds.reverse vs.reverse
  | _, _, .nil => .nil
  | _, _, .cons a b => by
    rw [List.reverse_cons, List.reverse_cons]
    exact (RDs.rev b).append (.cons a .nil)
def kRevL (b : Bool) (d : D) (hs : List Ob) : R D := match lstOf hs d with
  | some xs => newL b xs.reverse hs
  | none => .stuck
theorem s_revL {X : Cx} {E : XK} {e : Expr} {f : CE} {k : Nat} {p1 p2 p3 pos : Pos} (b : Bool) (h : SE X E e f) : SE X E (.Subscript e (.Slice none none (some (.UnaryOp .USub (.Constant (.int 1) k p1) p2)) p3) pos) (c1 (kRevL b) f) :=
  PE.imp (pe_revL h) fun τ H Q h => tE_mono (tE_bind (τ := τ) (f := f) (g := fun x _ hs => kRevL b x hs) h) fun v H1 ⟨m, σ, hs, d, hr, _, rd, p⟩ => by
    unfold kRevL at p
    split at p
    · rename_i xs el
      obtain ⟨a, vs, e1, e2, e3⟩ := lst_rd hr rd el
      exact ⟨a, vs, e1, e2, fun q nq => post_new hr e3.rev nq p⟩
    · exact p.elim
/-! ## {k: v}, one pair -/
def cDisp1 (b : Bool) (k e : CE) : CE := fun σ hs => match k σ hs with
  | .ok kd h1 => (match keyD kd with
    | some key => (match e σ h1 with
      | .ok x h2 => newD b [(key, x)] h2
      | _ => .stuck)
    | none => .stuck)
  | _ => .stuck
theorem s_disp1 {X : Cx} {E : XK} {ke ve : Expr} {k e : CE} {pos : Pos} (b : Bool) (hk : SE X (E0 (kc X E)) ke k) (hv : SE X (E0 (kc X E)) ve e) : SE X E (.Dict [some ke] [ve] pos) (cDisp1 b k e) :=
  PE.imp (pe_disp (pps_cons hk hv pps_nil) rfl rfl (by simp) (by simp)) fun τ H Q ⟨m, σ, hs, hr, rs, p⟩ => fun A hA => by
    have nA := hr.notin hA
    have c0 : CSt (kc X E) m H A (.dct []) hs ⟨m.l, A :: m.x⟩ (upd H A (.dK [])) := CSt.start hr hA ⟨[], upd_same, .nil⟩
    have q0 : Stq m H ⟨m.l, A :: m.x⟩ (upd H A (.dK [])) := ⟨fun _ _ h => h, fun a o' ha h _ => by
      have ne : a ≠ A := ne_of_none h hA
      refine ⟨by rw [upd_ne ne]; exact h, ha.1, fun z => ?_⟩
      rcases List.mem_cons.mp z with z | z
      · exact ne z
      · exact ha.2 z⟩
    unfold cDisp1 at p
    refine ⟨⟨m.l, A :: m.x⟩, σ, hs, c0.hr, rs.monoQ q0, ?_⟩
    cases e1 : k σ hs with
    | stuck => rw [e1] at p; exact p.elim
    | exn x hs1 => rw [e1] at p; exact p.elim
    | ok kd h1 =>
      rw [e1] at p
      dsimp only at p
      split at p
      · rename_i key ek
        intro v m2 H2 s2 hr2 rd
        have c2 := c0.step s2 hr2
        refine ⟨m2, σ, h1, hr2, (rs.monoQ q0).mono s2, ?_⟩
        cases e2 : e σ h1 with
        | stuck => rw [e2] at p; exact p.elim
        | exn x hs2 => rw [e2] at p; exact p.elim
        | ok x h2 =>
          rw [e2] at p
          intro w m3 H3 s3 hr3 rd3
          have c3 := c2.step s3 hr3
          obtain ⟨vs, ev, rv⟩ := c3.ro
          cases rv
          have kv := key_rd rd ek
          have c4 : CSt (kc X E) m H A (.dct [(key, x)]) h2 m3 (upd H3 A (.dK [(key, w)])) := c3.put hA fun s => ⟨[(key, w)], upd_same, .cons (rd3.monoQ s) .nil⟩
          exact ⟨ev, [(key, w)], by rw [kv]; rfl, by simp, c4.fin (b := b) hA nA.2 p⟩
      · exact p.elim
/-! ## a is b, bools -/
def kIsB (neg : Bool) (a b : D) (hs : List Ob) : R D := match a, b with
  | .bl x, .bl y => .ok (.bl (if neg then !decide (x = y) else decide (x = y))) hs
  | _, _ => .stuck
theorem o2_isB {K : Kc} : Op2 K rIsB (kIsB false) := fun E H m hs d d2 v w Q hr r1 r2 p => by
  unfold kIsB at p
  split at p
  · cases r1
    cases r2
    exact ⟨_, _, rfl, rfl, p.here hr (.bl _)⟩
  · exact p.elim
theorem o2_notB {K : Kc} : Op2 K rNotB (kIsB true) := fun E H m hs d d2 v w Q hr r1 r2 p => by
  unfold kIsB at p
  split at p
  · cases r1
    cases r2
    exact ⟨_, _, rfl, rfl, p.here hr (.bl _)⟩
  · exact p.elim
section
variable {X : Cx} {E : XK} {a b : Expr} {f g : CE} {pos : Pos}
theorem s_isB (ha : SE X E a f) (hb : SE X E b g) : SE X E (.Compare a [.Is] [b] pos) (c2 (kIsB false) f g) := PE.imp (pe_cmpR op_isBl ha hb (nomark _)) (imp2 o2_isB)
theorem s_nisB (ha : SE X E a f) (hb : SE X E b g) : SE X E (.Compare a [.IsNot] [b] pos) (c2 (kIsB true) f g) := PE.imp (pe_cmpR op_notBl ha hb (nomark _)) (imp2 o2_notB)
theorem st_isB (ha : SE X E a f) (hb : SE X E b g) : ST X E (.Compare a [.Is] [b] pos) (c2 (kIsB false) f g) := PT.imp (pt_cmpR op_isBl ha hb (nomark _)) fun _ _ _ h => imp2 o2_isB _ _ _ h
theorem st_nisB (ha : SE X E a f) (hb : SE X E b g) : ST X E (.Compare a [.IsNot] [b] pos) (c2 (kIsB true) f g) := PT.imp (pt_cmpR op_notBl ha hb (nomark _)) fun _ _ _ h => imp2 o2_notB _ _ _ h
end
end PL

set_option autoImplicit false
namespace PL.C
open PySem PySem.Spec PyProof.Rows L2
def b__law_cleared : CS := cRet (cF (one (kDict false)) (cCons (cComp false [1, 2] (.tp [.nm 1, .nm 2]) (iSeq (c1 (kItems false) (cV 0))) (c2 kNe (c2 kItem (cV 2) (cK (.int 0))) (cK (.int 0))) (.lst []) (pLst (cF kTup (cCons (cV 1) (cCons (cV 2) (cNil)))))) (cNil)))
def f__law_cleared : Fn := mkFn 1 3 b__law_cleared
def b_common : CS := cSeq (cPar 0 1 (cCons (cF (one kAbs) (cCons (cV 0) (cNil))) (cCons (cF (one kAbs) (cCons (cV 1) (cNil))) cNil))) (cSeq (cWhile (c2 kNe (cV 1) (cK (.int 0))) (cPar 0 1 (cCons (cV 1) (cCons (c2 kMod (cV 0) (cV 1)) cNil)))) (cRet (cV 0)))
def f_common : Fn := mkFn 2 2 b_common
def b__law_fraction : CS := cSeq (cSet (.nm 2) (cF C.f_common (cCons (cV 0) (cCons (cV 1) (cNil))))) (cRet (cIf (c2 kGt (cV 1) (cK (.int 0))) (cF kTup (cCons (c2 kDiv (cV 0) (cV 2)) (cCons (c2 kDiv (cV 1) (cV 2)) (cNil)))) (cF kTup (cCons (c2 kDiv (c1 kNeg (cV 0)) (cV 2)) (cCons (c2 kDiv (c1 kNeg (cV 1)) (cV 2)) (cNil))))))
def f__law_fraction : Fn := mkFn 2 3 b__law_fraction
def b__law_product : CS := cRet (cF C.f__law_fraction (cCons (c2 kMul (c2 kItem (cV 0) (cK (.int 0))) (c2 kItem (cV 1) (cK (.int 0)))) (cCons (c2 kMul (c2 kItem (cV 0) (cK (.int 1))) (c2 kItem (cV 1) (cK (.int 1)))) (cNil))))
def f__law_product : Fn := mkFn 2 2 b__law_product
def b__law_row_scaled : CS := cRet (cF C.f__law_cleared (cCons (cF (one (kDict false)) (cCons (cComp false [2, 3] (.tp [.nm 2, .nm 3]) (iSeq (c1 (kItems false) (cV 0))) (cYes) (.lst []) (pLst (cF kTup (cCons (cV 2) (cCons (cF C.f__law_product (cCons (cV 3) (cCons (cV 1) (cNil)))) (cNil)))))) (cNil))) (cNil)))
def f__law_row_scaled : Fn := mkFn 2 4 b__law_row_scaled
def b__law_take : CS := cSeq (cIfS (c2 kGt (c2 kItem (cV 0) (cK (.int 0))) (cK (.int 0))) (cSeq (cSet (.nm 4) (c2 kMod (cF (one kInt) (cCons (c2 kItem (cV 0) (cK (.int 0))) (cNil))) (cV 1))) (cSeq (cSetIx (cV 0) (cK (.int 0)) (c2 kDiv (c2 kItem (cV 0) (cK (.int 0))) (cV 1))) (cRet (cV 4)))) (cNext)) (cSeq (cSetIx (cV 0) (cK (.int 2)) (c2 kAdd (c2 kItem (cV 0) (cK (.int 2))) (cK (.int 1)))) (cSeq (cSet (.nm 2) (c2 kItem (cF (kLst false) (cCons (cK (.int 2147483647)) (cCons (cK (.int 2147483629)) (cCons (cK (.int 2147483587)) (cCons (cK (.int 2147483579)) (cCons (cK (.int 2147483563)) (cNil))))))) (c2 kMod (cF (one kInt) (cCons (c2 kItem (cV 0) (cK (.int 2))) (cNil))) (cK (.int 5))))) (cSeq (cSet (.nm 3) (c2 kMod (cF (one kInt) (cCons (c2 kPow (cF (one kInt) (cCons (c2 kAdd (c2 kAdd (c2 kItem (cV 0) (cK (.int 1))) (c2 kMul (c2 kMul (cK (.int 101403)) (c2 kItem (cV 0) (cK (.int 2)))) (c2 kItem (cV 0) (cK (.int 2))))) (cK (.int 1563))) (cNil))) (cK (.int 3))) (cNil))) (cV 2))) (cRet (c2 kMod (cF (one kInt) (cCons (c2 kDiv (c2 kMul (cV 3) (c2 kAdd (c2 kMod (cF (one kInt) (cCons (cV 3) (cNil))) (cK (.int 11747))) (c2 kMul (cK (.int 687)) (c2 kItem (cV 0) (cK (.int 2)))))) (cK (.int 347))) (cNil))) (cV 1))))))
def f__law_take : Fn := mkFn 2 5 b__law_take
def b__law_some (tk : Fn) : CS := cSeq (cPar 3 4 (cCons (cF (one (kList true)) (cCons (cV 1) (cNil))) (cCons (cF (kLst true) (cNil)) cNil))) (cSeq (cFor (.nm 5) (iArgs kRng1 (cCons (cV 2) (cNil))) (cDrop (cML kAppend (cV 4) (cCons (cML kPopAt (cV 3) (cCons (cF tk (cCons (cV 0) (cCons (cF (one kLen) (cCons (cV 3) (cNil))) (cNil)))) (cNil))) (cNil))))) (cRet (cV 4)))
def f__law_some (tk : Fn) : Fn := mkFn 3 6 (b__law_some tk)
def b__law_of (tk : Fn) : CS := cRet (c2 kItem (cV 1) (cF tk (cCons (cV 0) (cCons (cF (one kLen) (cCons (cV 1) (cNil))) (cNil)))))
def f__law_of (tk : Fn) : Fn := mkFn 2 2 (b__law_of tk)
def b__law_drawn_fraction (tk : Fn) : CS := cRet (cF C.f__law_fraction (cCons (c2 kSub (cF tk (cCons (cV 0) (cCons (c2 kAdd (c2 kMul (cK (.int 2)) (cV 1)) (cK (.int 1))) (cNil)))) (cV 1)) (cCons (cF (C.f__law_of tk) (cCons (cV 0) (cCons (cF (kLst false) (cCons (cK (.int 1)) (cCons (cK (.int 1)) (cCons (cK (.int 1)) (cCons (cK (.int 2)) (cCons (cK (.int 3)) (cNil))))))) (cNil)))) (cNil))))
def f__law_drawn_fraction (tk : Fn) : Fn := mkFn 2 2 (b__law_drawn_fraction tk)
def b__law_drawn_row (tk : Fn) : CS := cSeq (cSet (.nm 2) (c2 kSub (cF tk (cCons (cV 0) (cCons (cK (.int 7)) (cNil)))) (cK (.int 3)))) (cRet (cF C.f__law_cleared (cCons (cF (one (kDict false)) (cCons (cComp false [3] (.nm 3) (iArgs kRng1 (cCons (cF tk (cCons (cV 0) (cCons (c2 kAdd (cV 1) (cK (.int 1))) (cNil)))) (cNil))) (cYes) (.lst []) (pLst (cF kTup (cCons (c2 kAdd (cV 2) (cV 3)) (cCons (cF (C.f__law_drawn_fraction tk) (cCons (cV 0) (cCons (cK (.int 3)) (cNil)))) (cNil)))))) (cNil))) (cNil))))
def f__law_drawn_row (tk : Fn) : Fn := mkFn 2 4 (b__law_drawn_row tk)
def b_is_whole : CS := cRet (cAnd (c1 (kIsi "int") (cV 0)) (c1 kNot (c1 (kIsi "bool") (cV 0))))
def f_is_whole : Fn := mkFn 1 1 b_is_whole
def b_is_integer : CS := cRet (cAnd (cF C.f_is_whole (cCons (cV 0) (cNil))) (cAnd (c2 kLe (cV 1) (cV 0)) (cOr (c1 kIsN (cV 2)) (c2 kLe (cV 0) (cV 2)))))
def f_is_integer : Fn := mkFn 3 3 b_is_integer
def b_check_span : CS := cSeq (cIfS (c1 kNot (cF C.f_is_whole (cCons (cV 0) (cNil)))) (cNever) (cNext)) (cIfS (c1 kNot (cF C.f_is_integer (cCons (cV 1) (cCons (cK (.int 1)) (cCons (cK (.int (100))) (cNil)))))) (cNever) (cNext))
def f_check_span : Fn := mkFn 2 2 b_check_span
def b_is_tuple : CS := cRet (cAnd (c1 (kIsi "tuple") (cV 0)) (cAnd (c2 kLe (cV 1) (cF (one kLen) (cCons (cV 0) (cNil)))) (cOr (c1 kIsN (cV 2)) (c2 kLe (cF (one kLen) (cCons (cV 0) (cNil))) (cV 2)))))
def f_is_tuple : Fn := mkFn 3 3 b_is_tuple
def b_is_fraction : CS := cSeq (cIfS (cOr (c1 kNot (cF C.f_is_tuple (cCons (cV 0) (cCons (cK (.int (2))) (cCons (cK (.int (2))) (cNil)))))) (c1 kNot (cF (one kAll) (cCons (cComp false [1] (.nm 1) (iSeq (cV 0)) (cYes) (.lst []) (pLst (cF C.f_is_whole (cCons (cV 1) (cNil))))) (cNil))))) (cRet (cK (.bl false))) (cNext)) (cRet (cAnd (c2 kGe (c2 kItem (cV 0) (cK (.int 1))) (cK (.int 1))) (c2 kEq (cF C.f_common (cCons (c2 kItem (cV 0) (cK (.int 0))) (cCons (c2 kItem (cV 0) (cK (.int 1))) (cNil)))) (cK (.int 1)))))
def f_is_fraction : Fn := mkFn 1 2 b_is_fraction
def b_is_row : CS := cSeq (cIfS (cOr (c1 kNot (cF C.f_is_tuple (cCons (cV 0) (cCons (cK (.int (2))) (cCons (cK (.int (2))) (cNil)))))) (cOr (c1 kNot (cF C.f_is_whole (cCons (c2 kItem (cV 0) (cK (.int 0))) (cNil)))) (c1 kNot (c1 (kIsi "tuple") (c2 kItem (cV 0) (cK (.int 1))))))) (cRet (cK (.bl false))) (cNext)) (cSeq (cIfS (c2 kEq (c2 kItem (cV 0) (cK (.int 1))) (cF kTup (cNil))) (cRet (c2 kEq (c2 kItem (cV 0) (cK (.int 0))) (cK (.int 0)))) (cNext)) (cSeq (cIfS (c1 kNot (cF (one kAll) (cCons (cComp false [1] (.nm 1) (iSeq (c2 kItem (cV 0) (cK (.int 1)))) (cYes) (.lst []) (pLst (cF C.f_is_fraction (cCons (cV 1) (cNil))))) (cNil)))) (cRet (cK (.bl false))) (cNext)) (cRet (cAnd (c2 kNe (c2 kItem (c2 kItem (cV 0) (cK (.int 1))) (cK (.int 0))) (cK (.tup [.int (0), .int (1)]))) (c2 kNe (c2 kItem (c2 kItem (cV 0) (cK (.int 1))) (c1 kNeg (cK (.int 1)))) (cK (.tup [.int (0), .int (1)])))))))
def f_is_row : Fn := mkFn 1 2 b_is_row
def b_sign_of : CS := cSeq (cIfS (c2 kEq (c2 kItem (cV 0) (cK (.int 0))) (cK (.int 0))) (cRet (cK (.str "."))) (cNext)) (cRet (cIf (c2 kGt (c2 kItem (cV 0) (cK (.int 0))) (cK (.int 0))) (cK (.str "+")) (cK (.str "-"))))
def f_sign_of : Fn := mkFn 1 1 b_sign_of
def b_worth_of : CS := cSeq (cSet (.tp [.nm 2, .nm 3]) (cV 0)) (cRet (cIf (cChain kLe kLt (cV 2) (cV 1) (c2 kAdd (cV 2) (cF (one kLen) (cCons (cV 3) (cNil))))) (c2 kItem (cV 3) (c2 kSub (cV 1) (cV 2))) (cK (.tup [.int (0), .int (1)]))))
def f_worth_of : Fn := mkFn 2 4 b_worth_of
def b_signs : CS := cSeq (cIfS (cOr (c1 kNot (cF C.f_is_tuple (cCons (cV 0) (cCons (cK (.int 1)) (cCons (cK (.int (12))) (cNil)))))) (c1 kNot (cF (one kAll) (cCons (cComp false [4] (.nm 4) (iSeq (cV 0)) (cYes) (.lst []) (pLst (cF C.f_is_row (cCons (cV 4) (cNil))))) (cNil))))) (cNever) (cNext)) (cSeq (cDrop (cF C.f_check_span (cCons (cV 1) (cCons (cV 2) (cNil))))) (cSeq (cSet (.nm 3) (c2 (kLRg2 false) (cV 1) (c2 kAdd (cV 1) (cV 2)))) (cRet (cMS kJoin (cK (.str "\n")) (cComp false [4] (.nm 4) (iSeq (cV 0)) (cYes) (.lst []) (pLst (cMS kJoin (cK (.str "")) (cComp false [5] (.nm 5) (iSeq (cV 3)) (cYes) (.lst []) (pLst (cF C.f_sign_of (cCons (cF C.f_worth_of (cCons (cV 4) (cCons (cV 5) (cNil)))) (cNil))))))))))))
def f_signs : Fn := mkFn 3 6 b_signs
def b_check_row : CS := cIfS (c1 kNot (cF C.f_is_row (cCons (cV 0) (cNil)))) (cNever) (cNext)
def f_check_row : Fn := mkFn 1 1 b_check_row
def b_is_below : CS := cRet (c2 kLt (c2 kMul (c2 kItem (cV 0) (cK (.int 0))) (c2 kItem (cV 1) (cK (.int 1)))) (c2 kMul (c2 kItem (cV 1) (cK (.int 0))) (c2 kItem (cV 0) (cK (.int 1)))))
def f_is_below : Fn := mkFn 2 2 b_is_below
def b_bar_of : CS := cSeq (cSet (.nm 2) (c2 kDiv (c2 kMul (cF (one kAbs) (cCons (c2 kItem (cV 0) (cK (.int 0))) (cNil))) (c2 kItem (cV 1) (cK (.int 1)))) (c2 kMul (c2 kItem (cV 0) (cK (.int 1))) (c2 kItem (cV 1) (cK (.int 0)))))) (cRet (c2 kAdd (cIf (c2 kLt (c2 kItem (cV 0) (cK (.int 0))) (cK (.int 0))) (cK (.str "-")) (cK (.str ""))) (c2 kMul (cK (.str "#")) (cF (two kMin2) (cCons (cV 2) (cCons (cK (.int (50))) (cNil)))))))
def f_bar_of : Fn := mkFn 2 3 b_bar_of
def b_bars : CS := cSeq (cDrop (cF C.f_check_row (cCons (cV 0) (cNil)))) (cSeq (cDrop (cF C.f_check_span (cCons (cV 1) (cCons (cV 2) (cNil))))) (cSeq (cIfS (cOr (c1 kNot (cF C.f_is_fraction (cCons (cV 3) (cNil)))) (c1 kNot (cF C.f_is_below (cCons (cK (.tup [.int (0), .int (1)])) (cCons (cV 3) (cNil)))))) (cNever) (cNext)) (cRet (cMS kJoin (cK (.str "\n")) (cComp false [4] (.nm 4) (iSeq (c2 (kLRg2 false) (cV 1) (c2 kAdd (cV 1) (cV 2)))) (cYes) (.lst []) (pLst (cF C.f_bar_of (cCons (cF C.f_worth_of (cCons (cV 0) (cCons (cV 4) (cNil)))) (cCons (cV 3) (cNil))))))))))
def f_bars : Fn := mkFn 4 5 b_bars
def b__law_bar : CS := cSeq (cPar 2 3 (cCons (cF (one kAbs) (cCons (c2 kItem (cV 0) (cK (.int 0))) (cNil))) (cCons (c2 kItem (cV 0) (cK (.int 1))) cNil))) (cSeq (cSet (.nm 4) (cK (.int 0))) (cSeq (cWhile (cAnd (c2 kLt (cV 4) (cK (.int 50))) (c2 kLe (c2 kMul (c2 kMul (c2 kAdd (cV 4) (cK (.int 1))) (c2 kItem (cV 1) (cK (.int 0)))) (cV 3)) (c2 kMul (cV 2) (c2 kItem (cV 1) (cK (.int 1)))))) (cSet (.nm 4) (c2 kAdd (cV 4) (cK (.int 1))))) (cRet (c2 kAdd (cIf (c2 kLt (c2 kItem (cV 0) (cK (.int 0))) (cK (.int 0))) (cK (.str "-")) (cK (.str ""))) (c2 kMul (cK (.str "#")) (cV 4))))))
def f__law_bar : Fn := mkFn 2 5 b__law_bar
def b__law_told_row : CS := cSeq (cIfS (c2 kEq (cV 0) (cDct0 false)) (cRet (cF kTup (cCons (cK (.int 0)) (cCons (cF kTup (cNil)) (cNil))))) (cNext)) (cSeq (cPar 1 2 (cCons (cF (one kMin) (cCons (cF (one (kList false)) (cCons (cV 0) (cNil))) (cNil))) (cCons (cF (one kMax) (cCons (cF (one (kList false)) (cCons (cV 0) (cNil))) (cNil))) cNil))) (cRet (cF kTup (cCons (cV 1) (cCons (cF (one kTupOf) (cCons (cComp false [3] (.nm 3) (iArgs kRng2 (cCons (cV 1) (cCons (c2 kAdd (cV 2) (cK (.int 1))) (cNil)))) (cYes) (.lst []) (pLst (cGet2 (cV 0) (cV 3) (cF kTup (cCons (cK (.int 0)) (cCons (cK (.int 1)) (cNil))))))) (cNil))) (cNil))))))
def f__law_told_row : Fn := mkFn 1 4 b__law_told_row
def b__law_right (tk : Fn) : CS := cSeq (cSet (.nm 1) (c2 kEq (cF tk (cCons (cV 0) (cCons (cK (.int 4)) (cNil)))) (cK (.int 0)))) (cSeq (cSet (.nm 2) (cComp true [10] (.nm 10) (iArgs kRng1 (cCons (c2 kAdd (cK (.int 1)) (cF tk (cCons (cV 0) (cCons (cIf (cV 1) (cK (.int 12)) (cK (.int 4))) (cNil))))) (cNil))) (cYes) (.lst []) (pLst (cF (C.f__law_drawn_row tk) (cCons (cV 0) (cCons (cIf (cV 1) (cK (.int 60)) (cK (.int 5))) (cNil))))))) (cSeq (cSetIx (cV 2) (cK (.int 0)) (cF C.f__law_row_scaled (cCons (c2 kItem (cV 2) (cK (.int 0))) (cCons (cF (C.f__law_of tk) (cCons (cV 0) (cCons (cF (kLst false) (cCons (cF kTup (cCons (cK (.int 1)) (cCons (cK (.int 1)) (cNil)))) (cCons (cF kTup (cCons (cK (.int 1)) (cCons (cK (.int 1)) (cNil)))) (cCons (cF kTup (cCons (cK (.int 40)) (cCons (cK (.int 1)) (cNil)))) (cCons (cF kTup (cCons (c1 kNeg (cK (.int 7))) (cCons (cK (.int 2)) (cNil)))) (cCons (cF kTup (cCons (cK (.int 17)) (cCons (cK (.int 1)) (cNil)))) (cCons (cF kTup (cCons (cK (.int 1)) (cCons (cK (.int 10)) (cNil)))) (cCons (cF kTup (cCons (cK (.int 9)) (cCons (cK (.int 70)) (cNil)))) (cNil))))))))) (cNil)))) (cNil))))) (cSeq (cPar 3 4 (cCons (c2 kSub (cF tk (cCons (cV 0) (cCons (cK (.int 9)) (cNil)))) (cK (.int 6))) (cCons (c2 kAdd (cK (.int 1)) (cF tk (cCons (cV 0) (cCons (cIf (cV 1) (cK (.int 100)) (cK (.int 15))) (cNil))))) cNil))) (cSeq (cSet (.nm 5) (cF (kLst true) (cNil))) (cSeq (cFor (.nm 6) (iSeq (cV 2)) (cSeq (cSet (.nm 8) (cComp false [11] (.nm 11) (iArgs kRng2 (cCons (cV 3) (cCons (c2 kAdd (cV 3) (cV 4)) (cNil)))) (cYes) (.lst []) (pLst (c2 kItem (cGet2 (cV 6) (cV 11) (cF kTup (cCons (cK (.int 0)) (cCons (cK (.int 1)) (cNil))))) (cK (.int 0)))))) (cDrop (cML kAppend (cV 5) (cCons (cMS kJoin (cK (.str "")) (cComp false [12] (.nm 12) (iSeq (cV 8)) (cYes) (.lst []) (pLst (cIf (c2 kGt (cV 12) (cK (.int 0))) (cK (.str "+")) (cIf (c2 kLt (cV 12) (cK (.int 0))) (cK (.str "-")) (cK (.str "."))))))) (cNil)))))) (cSeq (cIfS (c2 kNe (cCallK 0 3 [0, 1, 2] C.f_signs cNil (cCons (cF (one kTupOf) (cCons (cComp false [6] (.nm 6) (iSeq (cV 2)) (cYes) (.lst []) (pLst (cF C.f__law_told_row (cCons (cV 6) (cNil))))) (cNil))) (cCons (cV 3) (cCons (cV 4) (cNil))))) (cMS kJoin (cK (.str "\n")) (cV 5))) (cRet (cK (.bl false))) (cNext)) (cSeq (cFor (.nm 7) (iSeq (cF (C.f__law_some tk) (cCons (cV 0) (cCons (cF (kLst false) (cCons (cF kTup (cCons (cK (.int 1)) (cCons (cK (.int 1)) (cNil)))) (cCons (cF kTup (cCons (cK (.int 1)) (cCons (cK (.int 2)) (cNil)))) (cCons (cF kTup (cCons (cK (.int 1)) (cCons (cK (.int 3)) (cNil)))) (cCons (cF kTup (cCons (cK (.int 3)) (cCons (cK (.int 2)) (cNil)))) (cCons (cF kTup (cCons (cK (.int 5)) (cCons (cK (.int 1)) (cNil)))) (cCons (cF kTup (cCons (cK (.int 2)) (cCons (cK (.int 3)) (cNil)))) (cCons (cF kTup (cCons (cK (.int 1)) (cCons (cK (.int 10)) (cNil)))) (cCons (cF kTup (cCons (cK (.int 3)) (cCons (cK (.int 70)) (cNil)))) (cNil)))))))))) (cCons (cK (.int 4)) (cNil)))))) (cSeq (cSet (.nm 9) (cMS kJoin (cK (.str "\n")) (cComp false [11] (.nm 11) (iArgs kRng2 (cCons (cV 3) (cCons (c2 kAdd (cV 3) (cV 4)) (cNil)))) (cYes) (.lst []) (pLst (cF C.f__law_bar (cCons (cGet2 (c2 kItem (cV 2) (cK (.int 0))) (cV 11) (cF kTup (cCons (cK (.int 0)) (cCons (cK (.int 1)) (cNil))))) (cCons (cV 7) (cNil)))))))) (cIfS (c2 kNe (cCallK 0 4 [0, 1, 2, 3] C.f_bars cNil (cCons (cF C.f__law_told_row (cCons (c2 kItem (cV 2) (cK (.int 0))) (cNil))) (cCons (cV 3) (cCons (cV 4) (cCons (cV 7) (cNil)))))) (cV 9)) (cRet (cK (.bl false))) (cNext)))) (cRet (cK (.bl true))))))))))
def f__law_right (tk : Fn) : Fn := mkFn 1 13 (b__law_right tk)
def b__law_pot : CS := cSeq (cSet (.nm 2) (cIf (c2 kLt (cV 1) (cF (one kLen) (cCons (cV 0) (cNil)))) (c2 kItem (cV 0) (cV 1)) (c2 kAdd (c2 kAdd (c2 kMod (cF (one kInt) (cCons (cF (one kSum) (cCons (cCut false (cV 0) oNo (oSm (cK (.int 1)))) (cNil))) (cNil))) (cK (.int 1000003))) (c2 kMul (cK (.int 1685)) (cV 1))) (cK (.int 1667))))) (cSeq (cSet (.nm 3) (c2 kMul (c2 kMod (cF (one kInt) (cCons (cF (one kAbs) (cCons (cV 2) (cNil))) (cNil))) (c2 kPow (c2 kPow (cK (.int 10)) (cK (.int 60))) (cK (.int 5)))) (cF (one kInt) (cCons (c2 kGe (cF (one kAbs) (cCons (cV 2) (cNil))) (c2 kPow (cK (.int 10)) (cK (.int 18)))) (cNil))))) (cSeq (cSet (.nm 4) (c2 kMod (cF (one kInt) (cCons (cV 2) (cNil))) (cK (.int 2305843009213693951)))) (cRet (cF (kLst true) (cCons (cV 3) (cCons (c2 kMod (cF (one kInt) (cCons (c2 kAdd (c2 kAdd (c2 kMul (cV 4) (cK (.int 87353))) (c2 kMul (c2 kMul (cK (.int 10549)) (cV 1)) (cV 1))) (cK (.int 765))) (cNil))) (cK (.int 2305843009213693921))) (cCons (cK (.int 0)) (cNil))))))))
def f__law_pot : Fn := mkFn0 2 5 b__law_pot
def b__law_cells : CS := cRet (c1 (kLRg1 false) (cF (two kMax2) (cCons (cK (.int 1)) (cCons (cF (two kMin2) (cCons (cV 1) (cCons (cF (one kLen) (cCons (cV 0) (cNil))) (cNil)))) (cNil)))))
def f__law_cells : Fn := mkFn 2 2 b__law_cells
def b_law (tk : Fn) : CS := cRet (cF (one kAll) (cCons (cComp false [1] (.nm 1) (iSeq (cF C.f__law_cells (cCons (cV 0) (cCons (cK (.int 2)) (cNil))))) (cYes) (.lst []) (pLst (cF (C.f__law_right tk) (cCons (cF C.f__law_pot (cCons (cV 0) (cCons (cV 1) (cNil)))) (cNil))))) (cNil)))
def f_law (tk : Fn) : Fn := mkFn 1 2 (b_law tk)
def b__law_take_k01 : CS := cSeq (cIfS (c2 kGt (c2 kItem (cV 0) (cK (.int 0))) (cK (.int 0))) (cSeq (cSet (.nm 4) (c2 kMod (cF (one kInt) (cCons (c2 kItem (cV 0) (cK (.int 0))) (cNil))) (cV 1))) (cSeq (cSetIx (cV 0) (cK (.int 0)) (c2 kDiv (c2 kItem (cV 0) (cK (.int 0))) (cV 1))) (cRet (cV 4)))) (cNext)) (cSeq (cSetIx (cV 0) (cK (.int 2)) (c2 kAdd (c2 kItem (cV 0) (cK (.int 2))) (cK (.int 1)))) (cSeq (cSet (.nm 2) (c2 kItem (cF (kLst false) (cCons (cK (.int 2147483647)) (cCons (cK (.int 2147483629)) (cCons (cK (.int 2147483587)) (cCons (cK (.int 2147483579)) (cCons (cK (.int 2147483563)) (cNil))))))) (c2 kMod (cF (one kInt) (cCons (c2 kItem (cV 0) (cK (.int 2))) (cNil))) (cK (.int 5))))) (cSeq (cSet (.nm 3) (c2 kMod (cF (one kInt) (cCons (c2 kPow (cF (one kInt) (cCons (c2 kAdd (c2 kAdd (c2 kItem (cV 0) (cK (.int 1))) (c2 kMul (c2 kMul (cK (.int 100769)) (c2 kItem (cV 0) (cK (.int 2)))) (c2 kItem (cV 0) (cK (.int 2))))) (cK (.int 2111))) (cNil))) (cK (.int 3))) (cNil))) (cV 2))) (cRet (c2 kMod (cF (one kInt) (cCons (c2 kDiv (c2 kMul (cV 3) (c2 kAdd (c2 kMod (cF (one kInt) (cCons (cV 3) (cNil))) (cK (.int 10559))) (c2 kMul (cK (.int 269)) (c2 kItem (cV 0) (cK (.int 2)))))) (cK (.int 151))) (cNil))) (cV 1))))))
def f__law_take_k01 : Fn := mkFn 2 5 b__law_take_k01
def b__law_full (tk : Fn) : CS := cSeq (cPar 1 2 (cCons (c2 kSub (cF tk (cCons (cV 0) (cCons (cK (.int 9)) (cNil)))) (cK (.int 4))) (cCons (cF tk (cCons (cV 0) (cCons (cK (.int 7)) (cNil)))) cNil))) (cRet (cF kTup (cCons (cV 1) (cCons (cF (one kTupOf) (cCons (cComp false [3] (.nm 3) (iArgs kRng1 (cCons (cV 2) (cNil))) (cYes) (.lst []) (pLst (cIf (c2 kGt (cF tk (cCons (cV 0) (cCons (cK (.int 4)) (cNil)))) (cK (.int 0))) (cF (C.f__law_drawn_fraction tk) (cCons (cV 0) (cCons (cK (.int 2)) (cNil)))) (cF kTup (cCons (cK (.int 0)) (cCons (cK (.int 1)) (cNil))))))) (cNil))) (cNil)))))
def f__law_full (tk : Fn) : Fn := mkFn 1 4 (b__law_full tk)
def b_check_whole : CS := cIfS (c1 kNot (cF C.f_is_whole (cCons (cV 0) (cNil)))) (cNever) (cNext)
def f_check_whole : Fn := mkFn 1 1 b_check_whole
def b_made_row : CS := cSeq (cPar 2 3 (cCons (cK (.int 0)) (cCons (cF (one kLen) (cCons (cV 1) (cNil))) cNil))) (cSeq (cWhile (cAnd (c2 kLt (cV 2) (cV 3)) (c2 kEq (c2 kItem (cV 1) (cV 2)) (cK (.tup [.int (0), .int (1)])))) (cAug 2 kAddIp (cK (.int 1)))) (cSeq (cWhile (cAnd (c2 kLt (cV 2) (cV 3)) (c2 kEq (c2 kItem (cV 1) (c2 kSub (cV 3) (cK (.int 1)))) (cK (.tup [.int (0), .int (1)])))) (cAug 3 kSub (cK (.int 1)))) (cRet (cIf (c2 kEq (cV 2) (cV 3)) (cK (.tup [.int (0), .tup []])) (cF kTup (cCons (c2 kAdd (cV 0) (cV 2)) (cCons (cF (one kTupOf) (cCons (cCut false (cV 1) (oSm (cV 2)) (oSm (cV 3))) (cNil))) (cNil))))))))
def f_made_row : Fn := mkFn 2 4 b_made_row
def b_row_of : CS := cSeq (cDrop (cF C.f_check_whole (cCons (cV 0) (cNil)))) (cSeq (cIfS (cOr (c1 kNot (cF C.f_is_tuple (cCons (cV 1) (cCons (cK (.int 0)) (cCons (cK (.int (200))) (cNil)))))) (c1 kNot (cF (one kAll) (cCons (cComp false [2] (.nm 2) (iSeq (cV 1)) (cYes) (.lst []) (pLst (cF C.f_is_fraction (cCons (cV 2) (cNil))))) (cNil))))) (cNever) (cNext)) (cRet (cF C.f_made_row (cCons (cV 0) (cCons (cV 1) (cNil))))))
def f_row_of : Fn := mkFn 2 3 b_row_of
def b_spread : CS := cSeq (cDrop (cF C.f_check_row (cCons (cV 0) (cNil)))) (cRet (cIf (c2 kEq (cV 0) (cK (.tup [.int (0), .tup []]))) (cK .non) (c2 kSub (cF (one kLen) (cCons (c2 kItem (cV 0) (cK (.int 1))) (cNil))) (cK (.int 1)))))
def f_spread : Fn := mkFn 1 1 b_spread
def b_span_of : CS := cSeq (cSet (.nm 2) (cF (two kMin2) (cCons (c2 kItem (cV 0) (cK (.int 0))) (cCons (c2 kItem (cV 1) (cK (.int 0))) (cNil))))) (cRet (cF kTup (cCons (cV 2) (cCons (c2 kSub (cF (two kMax2) (cCons (c2 kAdd (c2 kItem (cV 0) (cK (.int 0))) (cF (one kLen) (cCons (c2 kItem (cV 0) (cK (.int 1))) (cNil)))) (cCons (c2 kAdd (c2 kItem (cV 1) (cK (.int 0))) (cF (one kLen) (cCons (c2 kItem (cV 1) (cK (.int 1))) (cNil)))) (cNil)))) (cV 2)) (cNil)))))
def f_span_of : Fn := mkFn 2 3 b_span_of
def b_fraction : CS := cSeq (cSet (.nm 2) (cF C.f_common (cCons (cV 0) (cCons (cV 1) (cNil))))) (cSeq (cSet (.nm 2) (cIf (c2 kGt (cV 1) (cK (.int 0))) (cV 2) (c1 kNeg (cV 2)))) (cRet (cF kTup (cCons (c2 kDiv (cV 0) (cV 2)) (cCons (c2 kDiv (cV 1) (cV 2)) (cNil))))))
def f_fraction : Fn := mkFn 2 3 b_fraction
def b_plus_numbers : CS := cRet (cF C.f_fraction (cCons (c2 kAdd (c2 kMul (c2 kItem (cV 0) (cK (.int 0))) (c2 kItem (cV 1) (cK (.int 1)))) (c2 kMul (c2 kItem (cV 1) (cK (.int 0))) (c2 kItem (cV 0) (cK (.int 1))))) (cCons (c2 kMul (c2 kItem (cV 0) (cK (.int 1))) (c2 kItem (cV 1) (cK (.int 1)))) (cNil))))
def f_plus_numbers : Fn := mkFn 2 2 b_plus_numbers
def b_worth_at : CS := cSeq (cSet (.nm 2) (c2 kSub (cV 1) (c2 kItem (cV 0) (cK (.int 0))))) (cRet (cIf (cChain kLe kLt (cK (.int 0)) (cV 2) (cF (one kLen) (cCons (c2 kItem (cV 0) (cK (.int 1))) (cNil)))) (c2 kItem (c2 kItem (cV 0) (cK (.int 1))) (cV 2)) (cK (.tup [.int (0), .int (1)]))))
def f_worth_at : Fn := mkFn 2 3 b_worth_at
def b_plus_of : CS := cSeq (cIfS (cOr (c2 kEq (cV 0) (cK (.tup [.int (0), .tup []]))) (c2 kEq (cV 1) (cK (.tup [.int (0), .tup []])))) (cRet (cIf (c2 kEq (cV 0) (cK (.tup [.int (0), .tup []]))) (cV 1) (cV 0))) (cNext)) (cSeq (cSet (.tp [.nm 2, .nm 3]) (cF C.f_span_of (cCons (cV 0) (cCons (cV 1) (cNil))))) (cSeq (cSet (.nm 4) (c2 (kLRg2 false) (cV 2) (c2 kAdd (cV 2) (cV 3)))) (cRet (cF C.f_made_row (cCons (cV 2) (cCons (cComp false [5] (.nm 5) (iSeq (cV 4)) (cYes) (.lst []) (pLst (cF C.f_plus_numbers (cCons (cF C.f_worth_at (cCons (cV 0) (cCons (cV 5) (cNil)))) (cCons (cF C.f_worth_at (cCons (cV 1) (cCons (cV 5) (cNil)))) (cNil)))))) (cNil)))))))
def f_plus_of : Fn := mkFn 2 6 b_plus_of
def b_plus_rows : CS := cSeq (cDrop (cF C.f_check_row (cCons (cV 0) (cNil)))) (cSeq (cDrop (cF C.f_check_row (cCons (cV 1) (cNil)))) (cRet (cF C.f_plus_of (cCons (cV 0) (cCons (cV 1) (cNil))))))
def f_plus_rows : Fn := mkFn 2 2 b_plus_rows
def b_less_numbers : CS := cRet (cF C.f_fraction (cCons (c2 kSub (c2 kMul (c2 kItem (cV 0) (cK (.int 0))) (c2 kItem (cV 1) (cK (.int 1)))) (c2 kMul (c2 kItem (cV 1) (cK (.int 0))) (c2 kItem (cV 0) (cK (.int 1))))) (cCons (c2 kMul (c2 kItem (cV 0) (cK (.int 1))) (c2 kItem (cV 1) (cK (.int 1)))) (cNil))))
def f_less_numbers : Fn := mkFn 2 2 b_less_numbers
def b_less_of : CS := cSeq (cIfS (c2 kEq (cV 1) (cK (.tup [.int (0), .tup []]))) (cRet (cV 0)) (cNext)) (cSeq (cSet (.tp [.nm 2, .nm 3]) (cIf (c2 kNe (cV 0) (cK (.tup [.int (0), .tup []]))) (cF C.f_span_of (cCons (cV 0) (cCons (cV 1) (cNil)))) (cF kTup (cCons (c2 kItem (cV 1) (cK (.int 0))) (cCons (cF (one kLen) (cCons (c2 kItem (cV 1) (cK (.int 1))) (cNil))) (cNil)))))) (cSeq (cSet (.nm 4) (c2 (kLRg2 false) (cV 2) (c2 kAdd (cV 2) (cV 3)))) (cRet (cF C.f_made_row (cCons (cV 2) (cCons (cComp false [5] (.nm 5) (iSeq (cV 4)) (cYes) (.lst []) (pLst (cF C.f_less_numbers (cCons (cF C.f_worth_at (cCons (cV 0) (cCons (cV 5) (cNil)))) (cCons (cF C.f_worth_at (cCons (cV 1) (cCons (cV 5) (cNil)))) (cNil)))))) (cNil)))))))
def f_less_of : Fn := mkFn 2 6 b_less_of
def b_less_rows : CS := cSeq (cDrop (cF C.f_check_row (cCons (cV 0) (cNil)))) (cSeq (cDrop (cF C.f_check_row (cCons (cV 1) (cNil)))) (cRet (cF C.f_less_of (cCons (cV 0) (cCons (cV 1) (cNil))))))
def f_less_rows : Fn := mkFn 2 2 b_less_rows
def b_whole_worths : CS := cSeq (cSet (.nm 1) (cK (.int 1))) (cSeq (cFor (.tp [.nm 2, .nm 3]) (iSeq (c2 kItem (cV 0) (cK (.int 1)))) (cSet (.nm 1) (c2 kMul (c2 kDiv (cV 1) (cF C.f_common (cCons (cV 1) (cCons (cV 3) (cNil))))) (cV 3)))) (cRet (cF kTup (cCons (cComp false [2, 3] (.tp [.nm 2, .nm 3]) (iSeq (c2 kItem (cV 0) (cK (.int 1)))) (cYes) (.lst []) (pLst (c2 kMul (cV 2) (c2 kDiv (cV 1) (cV 3))))) (cCons (cV 1) (cNil))))))
def f_whole_worths : Fn := mkFn 1 4 b_whole_worths
def b_times_of : CS := cSeq (cIfS (cOr (c2 kEq (cV 0) (cK (.tup [.int (0), .tup []]))) (c2 kEq (cV 1) (cK (.tup [.int (0), .tup []])))) (cRet (cK (.tup [.int (0), .tup []]))) (cNext)) (cSeq (cSet (.tp [.nm 2, .nm 3]) (cF C.f_whole_worths (cCons (cV 0) (cNil)))) (cSeq (cSet (.tp [.nm 4, .nm 5]) (cF C.f_whole_worths (cCons (cV 1) (cNil)))) (cSeq (cSet (.nm 6) (cComp true [8] (.nm 8) (iSeq (c1 (kLRg1 false) (c2 kSub (c2 kAdd (cF (one kLen) (cCons (cV 2) (cNil))) (cF (one kLen) (cCons (cV 4) (cNil)))) (cK (.int 1))))) (cYes) (.lst []) (pLst (cK (.int 0))))) (cSeq (cFor (.tp [.nm 7, .nm 8]) (iArgs kEnum (cCons (cV 2) (cNil))) (cFor (.tp [.nm 9, .nm 10]) (iArgs kEnum (cCons (cV 4) (cNil))) (cAugIx kAddIp (cV 6) (c2 kAdd (cV 7) (cV 9)) (c2 kMul (cV 8) (cV 10))))) (cRet (cF kTup (cCons (c2 kAdd (c2 kItem (cV 0) (cK (.int 0))) (c2 kItem (cV 1) (cK (.int 0)))) (cCons (cF (one kTupOf) (cCons (cComp false [8] (.nm 8) (iSeq (cV 6)) (cYes) (.lst []) (pLst (cF C.f_fraction (cCons (cV 8) (cCons (c2 kMul (cV 3) (cV 5)) (cNil)))))) (cNil))) (cNil)))))))))
def f_times_of : Fn := mkFn 2 11 b_times_of
def b_times_rows : CS := cSeq (cDrop (cF C.f_check_row (cCons (cV 0) (cNil)))) (cSeq (cDrop (cF C.f_check_row (cCons (cV 1) (cNil)))) (cRet (cF C.f_times_of (cCons (cV 0) (cCons (cV 1) (cNil))))))
def f_times_rows : Fn := mkFn 2 2 b_times_rows
def b_times_numbers : CS := cRet (cF C.f_fraction (cCons (c2 kMul (c2 kItem (cV 0) (cK (.int 0))) (c2 kItem (cV 1) (cK (.int 0)))) (cCons (c2 kMul (c2 kItem (cV 0) (cK (.int 1))) (c2 kItem (cV 1) (cK (.int 1)))) (cNil))))
def f_times_numbers : Fn := mkFn 2 2 b_times_numbers
def b_scaled_of : CS := cSeq (cIfS (c2 kEq (cV 1) (cK (.tup [.int (0), .int (1)]))) (cRet (cK (.tup [.int (0), .tup []]))) (cNext)) (cRet (cF kTup (cCons (c2 kItem (cV 0) (cK (.int 0))) (cCons (cF (one kTupOf) (cCons (cComp false [2] (.nm 2) (iSeq (c2 kItem (cV 0) (cK (.int 1)))) (cYes) (.lst []) (pLst (cF C.f_times_numbers (cCons (cV 2) (cCons (cV 1) (cNil)))))) (cNil))) (cNil)))))
def f_scaled_of : Fn := mkFn 2 3 b_scaled_of
def b_scaled : CS := cSeq (cDrop (cF C.f_check_row (cCons (cV 0) (cNil)))) (cSeq (cIfS (c1 kNot (cF C.f_is_fraction (cCons (cV 1) (cNil)))) (cNever) (cNext)) (cRet (cF C.f_scaled_of (cCons (cV 0) (cCons (cV 1) (cNil))))))
def f_scaled : Fn := mkFn 2 2 b_scaled
def b__law_sum : CS := cRet (cF C.f__law_fraction (cCons (c2 kAdd (c2 kMul (c2 kItem (cV 0) (cK (.int 0))) (c2 kItem (cV 1) (cK (.int 1)))) (c2 kMul (c2 kItem (cV 1) (cK (.int 0))) (c2 kItem (cV 0) (cK (.int 1))))) (cCons (c2 kMul (c2 kItem (cV 0) (cK (.int 1))) (c2 kItem (cV 1) (cK (.int 1)))) (cNil))))
def f__law_sum : Fn := mkFn 2 2 b__law_sum
def b__law_row_sum : CS := cSeq (cSet (.nm 2) (cF (one (kDict true)) (cCons (c1 (kItems false) (cV 0)) (cNil)))) (cSeq (cFor (.tp [.nm 3, .nm 4]) (iSeq (c1 (kItems false) (cV 1))) (cSetIx (cV 2) (cV 3) (cF C.f__law_sum (cCons (cGet2 (cV 2) (cV 3) (cF kTup (cCons (cK (.int 0)) (cCons (cK (.int 1)) (cNil))))) (cCons (cV 4) (cNil)))))) (cRet (cF C.f__law_cleared (cCons (cV 2) (cNil)))))
def f__law_row_sum : Fn := mkFn 2 5 b__law_row_sum
def b__law_row_less : CS := cRet (cF C.f__law_row_sum (cCons (cV 0) (cCons (cF C.f__law_row_scaled (cCons (cV 1) (cCons (cF kTup (cCons (c1 kNeg (cK (.int 1))) (cCons (cK (.int 1)) (cNil)))) (cNil)))) (cNil))))
def f__law_row_less : Fn := mkFn 2 2 b__law_row_less
def b__law_row_product : CS := cSeq (cSet (.nm 2) (cDct0 true)) (cSeq (cFor (.tp [.nm 3, .nm 4]) (iSeq (c1 (kItems false) (cV 0))) (cFor (.tp [.nm 5, .nm 6]) (iSeq (c1 (kItems false) (cV 1))) (cSetIx (cV 2) (c2 kAdd (cV 3) (cV 5)) (cF C.f__law_sum (cCons (cGet2 (cV 2) (c2 kAdd (cV 3) (cV 5)) (cF kTup (cCons (cK (.int 0)) (cCons (cK (.int 1)) (cNil))))) (cCons (cF C.f__law_product (cCons (cV 4) (cCons (cV 6) (cNil)))) (cNil))))))) (cRet (cF C.f__law_cleared (cCons (cV 2) (cNil)))))
def f__law_row_product : Fn := mkFn 2 7 b__law_row_product
def b_worth : CS := cSeq (cDrop (cF C.f_check_row (cCons (cV 0) (cNil)))) (cSeq (cDrop (cF C.f_check_whole (cCons (cV 1) (cNil)))) (cRet (cF C.f_worth_at (cCons (cV 0) (cCons (cV 1) (cNil))))))
def f_worth : Fn := mkFn 2 2 b_worth
def b__law_minus : CS := cRet (cF kTup (cCons (c1 kNeg (c2 kItem (cV 0) (cK (.int 0)))) (cCons (c2 kItem (cV 0) (cK (.int 1))) (cNil))))
def f__law_minus : Fn := mkFn 1 1 b__law_minus
def b__law_right_k01 (tk : Fn) : CS := cSeq (cSet (.tp [.nm 1, .nm 2]) (cF (C.f__law_full tk) (cCons (cV 0) (cNil)))) (cSeq (cSet (.nm 3) (cF C.f__law_cleared (cCons (cF (one (kDict false)) (cCons (cComp false [11, 12] (.tp [.nm 11, .nm 12]) (iArgs kEnum (cCons (cV 2) (cNil))) (cYes) (.lst []) (pLst (cF kTup (cCons (c2 kAdd (cV 1) (cV 11)) (cCons (cV 12) (cNil)))))) (cNil))) (cNil)))) (cSeq (cSet (.nm 4) (cCallK 0 2 [0, 1] C.f_row_of cNil (cCons (cV 1) (cCons (cV 2) (cNil))))) (cSeq (cIfS (cOr (c2 kNe (cF (one kRepr) (cCons (cV 4) (cNil))) (cF (one kRepr) (cCons (cF C.f__law_told_row (cCons (cV 3) (cNil))) (cNil)))) (c2 kNe (cF (one kRepr) (cCons (cF C.f_row_of (cCons (c2 kSub (cV 1) (cK (.int 2))) (cCons (c2 kAdd (c2 kAdd (c2 kMul (cF kTup (cCons (cF kTup (cCons (cK (.int 0)) (cCons (cK (.int 1)) (cNil)))) (cNil))) (cK (.int 2))) (cV 2)) (cF kTup (cCons (cF kTup (cCons (cK (.int 0)) (cCons (cK (.int 1)) (cNil)))) (cNil)))) (cNil)))) (cNil))) (cF (one kRepr) (cCons (cV 4) (cNil))))) (cRet (cK (.bl false))) (cNext)) (cSeq (cIfS (c2 kNe (cF (one kRepr) (cCons (cCallK 0 1 [0] C.f_spread cNil (cCons (cV 4) (cNil))) (cNil))) (cF (one kRepr) (cCons (cIf (c2 kNe (cV 3) (cDct0 false)) (c2 kSub (cF (one kMax) (cCons (cF (one (kList false)) (cCons (cV 3) (cNil))) (cNil))) (cF (one kMin) (cCons (cF (one (kList false)) (cCons (cV 3) (cNil))) (cNil)))) (cK .non)) (cNil)))) (cRet (cK (.bl false))) (cNext)) (cSeq (cIfS (c1 kNot (cF (one kAll) (cCons (cComp false [13] (.nm 13) (iArgs kRng2 (cCons (c2 kSub (cV 1) (cK (.int 3))) (cCons (c2 kAdd (cV 1) (cK (.int 9))) (cNil)))) (cYes) (.lst []) (pLst (c2 kEq (cF (one kRepr) (cCons (cCallK 0 2 [0, 1] C.f_worth cNil (cCons (cV 4) (cCons (cV 13) (cNil)))) (cNil))) (cF (one kRepr) (cCons (cGet2 (cV 3) (cV 13) (cF kTup (cCons (cK (.int 0)) (cCons (cK (.int 1)) (cNil))))) (cNil)))))) (cNil)))) (cRet (cK (.bl false))) (cNext)) (cSeq (cFor (.nm 5) (iArgs kRng1 (cCons (cK (.int 3)) (cNil))) (cSeq (cSet (.nm 6) (cF (C.f__law_drawn_row tk) (cCons (cV 0) (cCons (cK (.int 5)) (cNil))))) (cSeq (cIfS (c2 kEq (cV 5) (cK (.int 2))) (cSet (.nm 6) (cF C.f__law_cleared (cCons (cF (one (kDict false)) (cCons (cComp false [13, 12] (.tp [.nm 13, .nm 12]) (iSeq (c1 (kItems false) (cV 3))) (cYes) (.lst []) (pLst (cF kTup (cCons (cV 13) (cCons (cIf (c2 kGt (cF tk (cCons (cV 0) (cCons (cK (.int 3)) (cNil)))) (cK (.int 0))) (cF C.f__law_minus (cCons (cV 12) (cNil))) (cV 12)) (cNil)))))) (cNil))) (cNil)))) (cNext)) (cSeq (cPar 7 8 (cCons (cF C.f__law_told_row (cCons (cV 6) (cNil))) (cCons (cF (C.f__law_drawn_fraction tk) (cCons (cV 0) (cCons (cK (.int 4)) (cNil)))) cNil))) (cSeq (cSet (.nm 9) (cF (kLst false) (cCons (cCallK 0 2 [0, 1] C.f_plus_rows cNil (cCons (cV 4) (cCons (cV 7) (cNil)))) (cCons (cCallK 0 2 [0, 1] C.f_less_rows cNil (cCons (cV 4) (cCons (cV 7) (cNil)))) (cCons (cCallK 0 2 [0, 1] C.f_times_rows cNil (cCons (cV 4) (cCons (cV 7) (cNil)))) (cCons (cCallK 0 2 [0, 1] C.f_scaled cNil (cCons (cV 7) (cCons (cV 8) (cNil)))) (cNil))))))) (cSeq (cSet (.nm 10) (cF (kLst false) (cCons (cF C.f__law_row_sum (cCons (cV 3) (cCons (cV 6) (cNil)))) (cCons (cF C.f__law_row_less (cCons (cV 3) (cCons (cV 6) (cNil)))) (cCons (cF C.f__law_row_product (cCons (cV 3) (cCons (cV 6) (cNil)))) (cCons (cF C.f__law_row_scaled (cCons (cV 6) (cCons (cV 8) (cNil)))) (cNil))))))) (cSeq (cIfS (c2 kNe (cF (one kRepr) (cCons (cV 9) (cNil))) (cF (one kRepr) (cCons (cComp false [12] (.nm 12) (iSeq (cV 10)) (cYes) (.lst []) (pLst (cF C.f__law_told_row (cCons (cV 12) (cNil))))) (cNil)))) (cRet (cK (.bl false))) (cNext)) (cIfS (cOr (c2 kNe (cF (one kRepr) (cCons (cF kTup (cCons (cF C.f_plus_rows (cCons (cV 7) (cCons (cV 4) (cNil)))) (cCons (cF C.f_times_rows (cCons (cV 7) (cCons (cV 4) (cNil)))) (cNil)))) (cNil))) (cF (one kRepr) (cCons (cF kTup (cCons (c2 kItem (cV 9) (cK (.int 0))) (cCons (c2 kItem (cV 9) (cK (.int 2))) (cNil)))) (cNil)))) (c2 kNe (cF (one kRepr) (cCons (cF C.f_less_rows (cCons (c2 kItem (cV 9) (cK (.int 0))) (cCons (cV 7) (cNil)))) (cNil))) (cF (one kRepr) (cCons (cV 4) (cNil))))) (cRet (cK (.bl false))) (cNext))))))))) (cRet (cK (.bl true)))))))))
def f__law_right_k01 (tk : Fn) : Fn := mkFn 1 14 (b__law_right_k01 tk)
def b__law_pot_k01 : CS := cSeq (cSet (.nm 2) (cIf (c2 kLt (cV 1) (cF (one kLen) (cCons (cV 0) (cNil)))) (c2 kItem (cV 0) (cV 1)) (c2 kAdd (c2 kAdd (c2 kMod (cF (one kInt) (cCons (cF (one kSum) (cCons (cCut false (cV 0) oNo (oSm (cK (.int 1)))) (cNil))) (cNil))) (cK (.int 1000003))) (c2 kMul (cK (.int 2447)) (cV 1))) (cK (.int 1811))))) (cSeq (cSet (.nm 3) (c2 kMul (c2 kMod (cF (one kInt) (cCons (cF (one kAbs) (cCons (cV 2) (cNil))) (cNil))) (c2 kPow (c2 kPow (cK (.int 10)) (cK (.int 60))) (cK (.int 5)))) (cF (one kInt) (cCons (c2 kGe (cF (one kAbs) (cCons (cV 2) (cNil))) (c2 kPow (cK (.int 10)) (cK (.int 18)))) (cNil))))) (cSeq (cSet (.nm 4) (c2 kMod (cF (one kInt) (cCons (cV 2) (cNil))) (cK (.int 2305843009213693951)))) (cRet (cF (kLst true) (cCons (cV 3) (cCons (c2 kMod (cF (one kInt) (cCons (c2 kAdd (c2 kAdd (c2 kMul (cV 4) (cK (.int 86069))) (c2 kMul (c2 kMul (cK (.int 11131)) (cV 1)) (cV 1))) (cK (.int 1459))) (cNil))) (cK (.int 2305843009213693921))) (cCons (cK (.int 0)) (cNil))))))))
def f__law_pot_k01 : Fn := mkFn0 2 5 b__law_pot_k01
def b_law_k01 (tk : Fn) : CS := cRet (cF (one kAll) (cCons (cComp false [1] (.nm 1) (iSeq (cF C.f__law_cells (cCons (cV 0) (cCons (cK (.int 3)) (cNil))))) (cYes) (.lst []) (pLst (cF (C.f__law_right_k01 tk) (cCons (cF C.f__law_pot_k01 (cCons (cV 0) (cCons (cV 1) (cNil)))) (cNil))))) (cNil)))
def f_law_k01 (tk : Fn) : Fn := mkFn 1 2 (b_law_k01 tk)
def b_check_span_k55 : CS := cSeq (cIfS (c1 kNot (cF C.f_is_whole (cCons (cV 0) (cNil)))) (cRaise (cF (exnF 1224502928125152554612) (cCons (cV 0) (cNil)))) (cNext)) (cIfS (c1 kNot (cF C.f_is_integer (cCons (cV 1) (cCons (cK (.int 1)) (cCons (cK (.int (100))) (cNil)))))) (cRaise (cF (exnF 1224502929250433787250) (cCons (cV 1) (cNil)))) (cNext))
def f_check_span_k55 : Fn := mkFn 2 2 b_check_span_k55
def b_signs_k55 : CS := cSeq (cIfS (cOr (c1 kNot (cF C.f_is_tuple (cCons (cV 0) (cCons (cK (.int 1)) (cCons (cK (.int (12))) (cNil)))))) (c1 kNot (cF (one kAll) (cCons (cComp false [4] (.nm 4) (iSeq (cV 0)) (cYes) (.lst []) (pLst (cF C.f_is_row (cCons (cV 4) (cNil))))) (cNil))))) (cRaise (cF (exnF 18684431970563955) (cCons (cV 0) (cNil)))) (cNext)) (cSeq (cDrop (cF C.f_check_span_k55 (cCons (cV 1) (cCons (cV 2) (cNil))))) (cSeq (cSet (.nm 3) (c2 (kLRg2 false) (cV 1) (c2 kAdd (cV 1) (cV 2)))) (cRet (cMS kJoin (cK (.str "\n")) (cComp false [4] (.nm 4) (iSeq (cV 0)) (cYes) (.lst []) (pLst (cMS kJoin (cK (.str "")) (cComp false [5] (.nm 5) (iSeq (cV 3)) (cYes) (.lst []) (pLst (cF C.f_sign_of (cCons (cF C.f_worth_of (cCons (cV 4) (cCons (cV 5) (cNil)))) (cNil))))))))))))
def f_signs_k55 : Fn := mkFn 3 6 b_signs_k55
def b_check_row_k55 : CS := cIfS (c1 kNot (cF C.f_is_row (cCons (cV 0) (cNil)))) (cRaise (cF (exnF 72986062385015) (cCons (cV 0) (cNil)))) (cNext)
def f_check_row_k55 : Fn := mkFn 1 1 b_check_row_k55
def b_bars_k55 : CS := cSeq (cDrop (cF C.f_check_row_k55 (cCons (cV 0) (cNil)))) (cSeq (cDrop (cF C.f_check_span_k55 (cCons (cV 1) (cCons (cV 2) (cNil))))) (cSeq (cIfS (cOr (c1 kNot (cF C.f_is_fraction (cCons (cV 3) (cNil)))) (c1 kNot (cF C.f_is_below (cCons (cK (.tup [.int (0), .int (1)])) (cCons (cV 3) (cNil)))))) (cRaise (cF (exnF 18684431987664240) (cCons (cV 3) (cNil)))) (cNext)) (cRet (cMS kJoin (cK (.str "\n")) (cComp false [4] (.nm 4) (iSeq (c2 (kLRg2 false) (cV 1) (c2 kAdd (cV 1) (cV 2)))) (cYes) (.lst []) (pLst (cF C.f_bar_of (cCons (cF C.f_worth_of (cCons (cV 0) (cCons (cV 4) (cNil)))) (cCons (cV 3) (cNil))))))))))
def f_bars_k55 : Fn := mkFn 4 5 b_bars_k55
def b__law_are_hands_right : CS := cSeq (cSet (.tp [.nm 1, .nm 2, .nm 3]) (cF kTup (cCons (cF kTup (cCons (cV 0) (cCons (cF kTup (cCons (cF kTup (cCons (cK (.int 2)) (cCons (cK (.int 1)) (cNil)))) (cCons (cF kTup (cCons (cK (.int 0)) (cCons (cK (.int 1)) (cNil)))) (cCons (cF kTup (cCons (c1 kNeg (cK (.int 5))) (cCons (cK (.int 2)) (cNil)))) (cCons (cF kTup (cCons (cK (.int 1)) (cCons (cK (.int 3)) (cNil)))) (cNil)))))) (cNil)))) (cCons (cF kTup (cCons (cK (.int 0)) (cCons (cF kTup (cNil)) (cNil)))) (cCons (cF kTup (cCons (c2 kSub (cV 0) (cK (.int 2))) (cCons (cF kTup (cCons (cF kTup (cCons (c1 kNeg (cK (.int 1))) (cCons (cK (.int 7)) (cNil)))) (cNil))) (cNil)))) (cNil)))))) (cSeq (cIfS (c2 kNe (cF C.f_signs_k55 (cCons (cF kTup (cCons (cV 1) (cCons (cV 2) (cCons (cV 3) (cNil))))) (cCons (c2 kSub (cV 0) (cK (.int 2))) (cCons (cK (.int 7)) (cNil))))) (cK (.str "..+.-+.\n.......\n-......"))) (cRet (cK (.bl false))) (cNext)) (cSeq (cSet (.nm 4) (cF (kLst false) (cCons (cF kTup (cCons (cF kTup (cCons (cK (.int 1)) (cCons (cK (.int 1)) (cNil)))) (cCons (cK (.str "\n##\n\n-##\n\n")) (cNil)))) (cCons (cF kTup (cCons (cF kTup (cCons (cK (.int 1)) (cCons (cK (.int 3)) (cNil)))) (cCons (cK (.str "\n######\n\n-#######\n#\n")) (cNil)))) (cCons (cF kTup (cCons (cF kTup (cCons (cK (.int 5)) (cCons (cK (.int 2)) (cNil)))) (cCons (cK (.str "\n\n\n-#\n\n")) (cNil)))) (cCons (cF kTup (cCons (cF kTup (cCons (cK (.int 3)) (cCons (cK (.int 1)) (cNil)))) (cCons (cK (.str "\n\n\n-\n\n")) (cNil)))) (cNil))))))) (cSeq (cIfS (c1 kNot (cF (one kAll) (cCons (cComp false [5, 6] (.tp [.nm 5, .nm 6]) (iSeq (cV 4)) (cYes) (.lst []) (pLst (c2 kEq (cF C.f_bars_k55 (cCons (cV 1) (cCons (c2 kSub (cV 0) (cK (.int 1))) (cCons (cK (.int 6)) (cCons (cV 5) (cNil)))))) (cV 6)))) (cNil)))) (cRet (cK (.bl false))) (cNext)) (cRet (c2 kEq (cF C.f_bars_k55 (cCons (cF kTup (cCons (cV 0) (cCons (cF kTup (cCons (cF kTup (cCons (cK (.int 51)) (cCons (cK (.int 1)) (cNil)))) (cCons (cF kTup (cCons (c1 kNeg (cK (.int 99))) (cCons (cK (.int 1)) (cNil)))) (cCons (cF kTup (cCons (cK (.int 50)) (cCons (cK (.int 1)) (cNil)))) (cCons (cF kTup (cCons (cK (.int 49)) (cCons (cK (.int 1)) (cNil)))) (cNil)))))) (cNil)))) (cCons (cV 0) (cCons (cK (.int 4)) (cCons (cF kTup (cCons (cK (.int 1)) (cCons (cK (.int 1)) (cNil)))) (cNil)))))) (c2 kAdd (c2 kAdd (c2 kAdd (c2 kAdd (c2 kAdd (c2 kAdd (c2 kMul (cK (.str "#")) (cK (.int 50))) (cK (.str "\n-"))) (c2 kMul (cK (.str "#")) (cK (.int 50)))) (cK (.str "\n"))) (c2 kMul (cK (.str "#")) (cK (.int 50)))) (cK (.str "\n"))) (c2 kMul (cK (.str "#")) (cK (.int 49)))))))))
def f__law_are_hands_right : Fn := mkFn 1 7 b__law_are_hands_right
def b__law_take_k55 : CS := cSeq (cIfS (c2 kGt (c2 kItem (cV 0) (cK (.int 0))) (cK (.int 0))) (cSeq (cSet (.nm 4) (c2 kMod (cF (one kInt) (cCons (c2 kItem (cV 0) (cK (.int 0))) (cNil))) (cV 1))) (cSeq (cSetIx (cV 0) (cK (.int 0)) (c2 kDiv (c2 kItem (cV 0) (cK (.int 0))) (cV 1))) (cRet (cV 4)))) (cNext)) (cSeq (cSetIx (cV 0) (cK (.int 2)) (c2 kAdd (c2 kItem (cV 0) (cK (.int 2))) (cK (.int 1)))) (cSeq (cSet (.nm 2) (c2 kItem (cF (kLst false) (cCons (cK (.int 2147483647)) (cCons (cK (.int 2147483629)) (cCons (cK (.int 2147483587)) (cCons (cK (.int 2147483579)) (cCons (cK (.int 2147483563)) (cNil))))))) (c2 kMod (cF (one kInt) (cCons (c2 kItem (cV 0) (cK (.int 2))) (cNil))) (cK (.int 5))))) (cSeq (cSet (.nm 3) (c2 kMod (cF (one kInt) (cCons (c2 kPow (cF (one kInt) (cCons (c2 kAdd (c2 kAdd (c2 kItem (cV 0) (cK (.int 1))) (c2 kMul (c2 kMul (cK (.int 101429)) (c2 kItem (cV 0) (cK (.int 2)))) (c2 kItem (cV 0) (cK (.int 2))))) (cK (.int 1571))) (cNil))) (cK (.int 3))) (cNil))) (cV 2))) (cRet (c2 kMod (cF (one kInt) (cCons (c2 kDiv (c2 kMul (cV 3) (c2 kAdd (c2 kMod (cF (one kInt) (cCons (cV 3) (cNil))) (cK (.int 11767))) (c2 kMul (cK (.int 693)) (c2 kItem (cV 0) (cK (.int 2)))))) (cK (.int 349))) (cNil))) (cV 1))))))
def f__law_take_k55 : Fn := mkFn 2 5 b__law_take_k55
def b__law_odd (tk : Fn) : CS := cRet (cF (C.f__law_of tk) (cCons (cV 0) (cCons (cF (kLst false) (cCons (cK .non) (cCons (cK (.bl true)) (cCons (cK (.bl false)) (cCons (cF (kLst false) (cNil)) (cCons (cDct0 false) (cCons (cF kTup (cCons (cK (.bl true)) (cNil))) (cCons (cF kTup (cCons (cF kTup (cNil)) (cNil))) (cCons (c1 kNeg (cK (.int 1))) (cCons (cF (kLst false) (cCons (cK (.int 0)) (cNil))) (cCons (cF kTup (cCons (cK .non) (cNil))) (cCons (cF kTup (cCons (cK (.int 0)) (cCons (cK .non) (cNil)))) (cNil))))))))))))) (cNil))))
def f__law_odd (tk : Fn) : Fn := mkFn 1 1 (b__law_odd tk)
def b__law_caught (ph : Nat → Fn) : CS := cSeq (cTry [(72986062385015, true), (1224502928125152554612, true), (1224502929250433787250, true), (18684431970563955, true), (18684431987664240, true)] 3 2 (cSet (.nm 1) (cClo ph (cV 0) cNil)) (cRet (cF kTup (cCons (cV 2) (cCons (cK .non) (cNil)))))) (cRet (cF kTup (cCons (cK .non) (cCons (cV 1) (cNil)))))
def f__law_caught (ph : Nat → Fn) : Fn := mkFn 1 3 (b__law_caught ph)
def b__law_word : CS := cSeq (cSet (.nm 1) (cF (kLst true) (cCons (cF kTup (cCons (cK (.str "rows")) (cCons (c1 (kIsC [(72986062385015, false), (1224502928125152554612, false), (1224502929250433787250, false), (18684431970563955, true), (18684431987664240, false)]) (cV 0)) (cNil)))) (cCons (cF kTup (cCons (cK (.str "row")) (cCons (c1 (kIsC [(72986062385015, true), (1224502928125152554612, false), (1224502929250433787250, false), (18684431970563955, false), (18684431987664240, false)]) (cV 0)) (cNil)))) (cCons (cF kTup (cCons (cK (.str "moment")) (cCons (c1 (kIsC [(72986062385015, false), (1224502928125152554612, true), (1224502929250433787250, false), (18684431970563955, false), (18684431987664240, false)]) (cV 0)) (cNil)))) (cNil)))))) (cSeq (cDrop (cML kExtend (cV 1) (cCons (cF (kLst false) (cCons (cF kTup (cCons (cK (.str "number")) (cCons (c1 (kIsC [(72986062385015, false), (1224502928125152554612, false), (1224502929250433787250, true), (18684431970563955, false), (18684431987664240, false)]) (cV 0)) (cNil)))) (cCons (cF kTup (cCons (cK (.str "step")) (cCons (c1 (kIsC [(72986062385015, false), (1224502928125152554612, false), (1224502929250433787250, false), (18684431970563955, false), (18684431987664240, true)]) (cV 0)) (cNil)))) (cNil)))) (cNil)))) (cRet (cMS kJoin (cK (.str "")) (cComp false [2, 3] (.tp [.nm 2, .nm 3]) (iSeq (cV 1)) (cV 3) (.lst []) (pLst (cV 2))))))
def f__law_word : Fn := mkFn 1 4 b__law_word
def b__law_is_refused (ph : Nat → Fn) : CS := cSeq (cSet (.nm 3) (c2 kItem (cFH C.f__law_caught (fun _ => ph) (cCons (cV 0) (cNil))) (cK (.int 0)))) (cRet (cAnd (c2 kEq (cF C.f__law_word (cCons (cV 3) (cNil))) (cV 1)) (cReprSame true (c1 (kVal [72986062385015, 1224502928125152554612, 1224502929250433787250, 18684431970563955, 18684431987664240]) (cV 3)) (cV 2))))
def f__law_is_refused (ph : Nat → Fn) : Fn := mkFn 3 4 (b__law_is_refused ph)
def b__law_are_refused (tk : Fn) : CS := cSeq (cSet (.nm 1) (cF kTup (cCons (cK (.int 3)) (cCons (cF kTup (cCons (cF kTup (cCons (cK (.int 1)) (cCons (cK (.int 1)) (cNil)))) (cCons (cF kTup (cCons (cK (.int 0)) (cCons (cK (.int 1)) (cNil)))) (cCons (cF kTup (cCons (cK (.int 2)) (cCons (cK (.int 1)) (cNil)))) (cNil))))) (cNil))))) (cSeq (cFor (.nm 2) (iSeq (cF kTup (cCons (cK .non) (cCons (cF kTup (cNil)) (cCons (cV 1) (cCons (cF (kLst false) (cCons (cV 1) (cNil))) (cCons (c2 kMul (cF kTup (cCons (cV 1) (cNil))) (cK (.int 13))) (cCons (cF kTup (cCons (cF kTup (cCons (cK (.int 0)) (cCons (cF kTup (cCons (cF kTup (cCons (cK (.int 0)) (cCons (cK (.int 1)) (cNil)))) (cNil))) (cNil)))) (cNil))) (cCons (cF kTup (cCons (cK .non) (cNil))) (cCons (cK (.str "rows")) (cCons (cF kTup (cCons (cF kTup (cCons (cK (.bl true)) (cCons (cF kTup (cCons (cF kTup (cCons (cK (.int 1)) (cCons (cK (.int 1)) (cNil)))) (cNil))) (cNil)))) (cNil))) (cCons (cF (C.f__law_odd tk) (cCons (cV 0) (cNil))) (cNil))))))))))))) (cIfS (c1 kNot (cFH C.f__law_is_refused (phN [(0, [], cF C.f_signs_k55 (cCons (cV 2) (cCons (cK .non) (cCons (cK .non) (cNil))))), (1, [], cF C.f_bars_k55 (cCons (cV 2) (cCons (cK .non) (cCons (cK .non) (cCons (cK .non) (cNil)))))), (2, [], cF C.f_signs_k55 (cCons (cF kTup (cCons (cV 1) (cNil))) (cCons (cV 2) (cCons (cK .non) (cNil))))), (3, [], cCallK 0 4 [0, 1, 2, 3] C.f_bars_k55 cNil (cCons (cV 1) (cCons (cV 2) (cCons (cK .non) (cCons (cK .non) (cNil)))))), (4, [], cF C.f_signs_k55 (cCons (cF kTup (cCons (cV 1) (cNil))) (cCons (cK (.int 0)) (cCons (cV 2) (cNil))))), (5, [], cF C.f_bars_k55 (cCons (cV 1) (cCons (cK (.int 0)) (cCons (cV 2) (cCons (cK .non) (cNil)))))), (6, [], cF C.f_bars_k55 (cCons (cV 1) (cCons (cK (.int 0)) (cCons (cK (.int 3)) (cCons (cV 2) (cNil))))))]) (cCons (cK (.clo 0)) (cCons (cK (.str "rows")) (cCons (cV 2) (cNil)))))) (cRet (cK (.bl false))) (cNext))) (cSeq (cFor (.nm 2) (iSeq (cF kTup (cCons (cK .non) (cCons (cF kTup (cCons (cK (.int 1)) (cCons (cF kTup (cNil)) (cNil)))) (cCons (cF kTup (cCons (cK (.int 0)) (cCons (cF kTup (cCons (cF kTup (cCons (cK (.int 0)) (cCons (cK (.int 1)) (cNil)))) (cCons (cF kTup (cCons (cK (.int 1)) (cCons (cK (.int 1)) (cNil)))) (cNil)))) (cNil)))) (cCons (cF kTup (cCons (cK (.int 0)) (cCons (cF kTup (cCons (cF kTup (cCons (cK (.int 1)) (cCons (cK (.int 1)) (cNil)))) (cCons (cF kTup (cCons (cK (.int 0)) (cCons (cK (.int 1)) (cNil)))) (cNil)))) (cNil)))) (cCons (cF kTup (cCons (cK (.int 0)) (cCons (cF kTup (cCons (cF kTup (cCons (cK (.int 2)) (cCons (cK (.int 2)) (cNil)))) (cNil))) (cNil)))) (cCons (cF (kLst false) (cCons (cK (.int 0)) (cCons (cF kTup (cCons (cF kTup (cCons (cK (.int 1)) (cCons (cK (.int 1)) (cNil)))) (cNil))) (cNil)))) (cCons (cF kTup (cCons (cK (.int 0)) (cCons (cF (kLst false) (cCons (cF kTup (cCons (cK (.int 1)) (cCons (cK (.int 1)) (cNil)))) (cNil))) (cNil)))) (cCons (cF kTup (cCons (cK (.int 0)) (cCons (cF kTup (cCons (cK (.int 1)) (cNil))) (cNil)))) (cCons (cF kTup (cCons (cF kTup (cCons (cK (.int 0)) (cCons (cK (.int 1)) (cNil)))) (cCons (cF kTup (cCons (cF kTup (cCons (cK (.int 1)) (cCons (cK (.int 1)) (cNil)))) (cNil))) (cNil)))) (cCons (cK (.str "0: 1")) (cCons (cF (C.f__law_odd tk) (cCons (cV 0) (cNil))) (cNil)))))))))))))) (cIfS (c1 kNot (cFH C.f__law_is_refused (phN [(0, [], cF C.f_signs_k55 (cCons (cV 2) (cCons (cK .non) (cCons (cK .non) (cNil))))), (1, [], cF C.f_bars_k55 (cCons (cV 2) (cCons (cK .non) (cCons (cK .non) (cCons (cK .non) (cNil)))))), (2, [], cF C.f_signs_k55 (cCons (cF kTup (cCons (cV 1) (cNil))) (cCons (cV 2) (cCons (cK .non) (cNil))))), (3, [], cCallK 0 4 [0, 1, 2, 3] C.f_bars_k55 cNil (cCons (cV 1) (cCons (cV 2) (cCons (cK .non) (cCons (cK .non) (cNil)))))), (4, [], cF C.f_signs_k55 (cCons (cF kTup (cCons (cV 1) (cNil))) (cCons (cK (.int 0)) (cCons (cV 2) (cNil))))), (5, [], cF C.f_bars_k55 (cCons (cV 1) (cCons (cK (.int 0)) (cCons (cV 2) (cCons (cK .non) (cNil)))))), (6, [], cF C.f_bars_k55 (cCons (cV 1) (cCons (cK (.int 0)) (cCons (cK (.int 3)) (cCons (cV 2) (cNil))))))]) (cCons (cK (.clo 1)) (cCons (cK (.str "row")) (cCons (cV 2) (cNil)))))) (cRet (cK (.bl false))) (cNext))) (cSeq (cFor (.nm 2) (iSeq (cF kTup (cCons (cK .non) (cCons (cF kTup (cCons (cK (.int 0)) (cCons (cK (.int 1)) (cNil)))) (cCons (cK (.str "0")) (cCons (cK (.bl true)) (cCons (cF (kLst false) (cCons (cK (.int 0)) (cNil))) (cNil)))))))) (cSeq (cIfS (c1 kNot (cFH C.f__law_is_refused (phN [(0, [], cF C.f_signs_k55 (cCons (cV 2) (cCons (cK .non) (cCons (cK .non) (cNil))))), (1, [], cF C.f_bars_k55 (cCons (cV 2) (cCons (cK .non) (cCons (cK .non) (cCons (cK .non) (cNil)))))), (2, [], cF C.f_signs_k55 (cCons (cF kTup (cCons (cV 1) (cNil))) (cCons (cV 2) (cCons (cK .non) (cNil))))), (3, [], cCallK 0 4 [0, 1, 2, 3] C.f_bars_k55 cNil (cCons (cV 1) (cCons (cV 2) (cCons (cK .non) (cCons (cK .non) (cNil)))))), (4, [], cF C.f_signs_k55 (cCons (cF kTup (cCons (cV 1) (cNil))) (cCons (cK (.int 0)) (cCons (cV 2) (cNil))))), (5, [], cF C.f_bars_k55 (cCons (cV 1) (cCons (cK (.int 0)) (cCons (cV 2) (cCons (cK .non) (cNil)))))), (6, [], cF C.f_bars_k55 (cCons (cV 1) (cCons (cK (.int 0)) (cCons (cK (.int 3)) (cCons (cV 2) (cNil))))))]) (cCons (cK (.clo 2)) (cCons (cK (.str "moment")) (cCons (cV 2) (cNil)))))) (cRet (cK (.bl false))) (cNext)) (cIfS (c1 kNot (cFH C.f__law_is_refused (phN [(0, [], cF C.f_signs_k55 (cCons (cV 2) (cCons (cK .non) (cCons (cK .non) (cNil))))), (1, [], cF C.f_bars_k55 (cCons (cV 2) (cCons (cK .non) (cCons (cK .non) (cCons (cK .non) (cNil)))))), (2, [], cF C.f_signs_k55 (cCons (cF kTup (cCons (cV 1) (cNil))) (cCons (cV 2) (cCons (cK .non) (cNil))))), (3, [], cCallK 0 4 [0, 1, 2, 3] C.f_bars_k55 cNil (cCons (cV 1) (cCons (cV 2) (cCons (cK .non) (cCons (cK .non) (cNil)))))), (4, [], cF C.f_signs_k55 (cCons (cF kTup (cCons (cV 1) (cNil))) (cCons (cK (.int 0)) (cCons (cV 2) (cNil))))), (5, [], cF C.f_bars_k55 (cCons (cV 1) (cCons (cK (.int 0)) (cCons (cV 2) (cCons (cK .non) (cNil)))))), (6, [], cF C.f_bars_k55 (cCons (cV 1) (cCons (cK (.int 0)) (cCons (cK (.int 3)) (cCons (cV 2) (cNil))))))]) (cCons (cK (.clo 3)) (cCons (cK (.str "moment")) (cCons (cV 2) (cNil)))))) (cRet (cK (.bl false))) (cNext)))) (cSeq (cFor (.nm 2) (iSeq (cF kTup (cCons (cK .non) (cCons (cK (.int 0)) (cCons (cK (.int 101)) (cCons (c1 kNeg (cK (.int 1))) (cCons (cK (.bl true)) (cCons (cK (.str "5")) (cCons (cF kTup (cCons (cK (.int 5)) (cNil))) (cNil)))))))))) (cSeq (cIfS (c1 kNot (cFH C.f__law_is_refused (phN [(0, [], cF C.f_signs_k55 (cCons (cV 2) (cCons (cK .non) (cCons (cK .non) (cNil))))), (1, [], cF C.f_bars_k55 (cCons (cV 2) (cCons (cK .non) (cCons (cK .non) (cCons (cK .non) (cNil)))))), (2, [], cF C.f_signs_k55 (cCons (cF kTup (cCons (cV 1) (cNil))) (cCons (cV 2) (cCons (cK .non) (cNil))))), (3, [], cCallK 0 4 [0, 1, 2, 3] C.f_bars_k55 cNil (cCons (cV 1) (cCons (cV 2) (cCons (cK .non) (cCons (cK .non) (cNil)))))), (4, [], cF C.f_signs_k55 (cCons (cF kTup (cCons (cV 1) (cNil))) (cCons (cK (.int 0)) (cCons (cV 2) (cNil))))), (5, [], cF C.f_bars_k55 (cCons (cV 1) (cCons (cK (.int 0)) (cCons (cV 2) (cCons (cK .non) (cNil)))))), (6, [], cF C.f_bars_k55 (cCons (cV 1) (cCons (cK (.int 0)) (cCons (cK (.int 3)) (cCons (cV 2) (cNil))))))]) (cCons (cK (.clo 4)) (cCons (cK (.str "number")) (cCons (cV 2) (cNil)))))) (cRet (cK (.bl false))) (cNext)) (cIfS (c1 kNot (cFH C.f__law_is_refused (phN [(0, [], cF C.f_signs_k55 (cCons (cV 2) (cCons (cK .non) (cCons (cK .non) (cNil))))), (1, [], cF C.f_bars_k55 (cCons (cV 2) (cCons (cK .non) (cCons (cK .non) (cCons (cK .non) (cNil)))))), (2, [], cF C.f_signs_k55 (cCons (cF kTup (cCons (cV 1) (cNil))) (cCons (cV 2) (cCons (cK .non) (cNil))))), (3, [], cCallK 0 4 [0, 1, 2, 3] C.f_bars_k55 cNil (cCons (cV 1) (cCons (cV 2) (cCons (cK .non) (cCons (cK .non) (cNil)))))), (4, [], cF C.f_signs_k55 (cCons (cF kTup (cCons (cV 1) (cNil))) (cCons (cK (.int 0)) (cCons (cV 2) (cNil))))), (5, [], cF C.f_bars_k55 (cCons (cV 1) (cCons (cK (.int 0)) (cCons (cV 2) (cCons (cK .non) (cNil)))))), (6, [], cF C.f_bars_k55 (cCons (cV 1) (cCons (cK (.int 0)) (cCons (cK (.int 3)) (cCons (cV 2) (cNil))))))]) (cCons (cK (.clo 5)) (cCons (cK (.str "number")) (cCons (cV 2) (cNil)))))) (cRet (cK (.bl false))) (cNext)))) (cSeq (cFor (.nm 2) (iSeq (cF kTup (cCons (cK .non) (cCons (cK (.int 1)) (cCons (cF kTup (cCons (cK (.int 0)) (cCons (cK (.int 1)) (cNil)))) (cCons (cF kTup (cCons (c1 kNeg (cK (.int 1))) (cCons (cK (.int 1)) (cNil)))) (cCons (cF kTup (cCons (cK (.int 2)) (cCons (cK (.int 2)) (cNil)))) (cCons (cF kTup (cCons (cK (.int 1)) (cCons (cK (.int 0)) (cNil)))) (cCons (cK (.str "1")) (cCons (cF (kLst false) (cCons (cK (.int 1)) (cCons (cK (.int 1)) (cNil)))) (cNil))))))))))) (cIfS (c1 kNot (cFH C.f__law_is_refused (phN [(0, [], cF C.f_signs_k55 (cCons (cV 2) (cCons (cK .non) (cCons (cK .non) (cNil))))), (1, [], cF C.f_bars_k55 (cCons (cV 2) (cCons (cK .non) (cCons (cK .non) (cCons (cK .non) (cNil)))))), (2, [], cF C.f_signs_k55 (cCons (cF kTup (cCons (cV 1) (cNil))) (cCons (cV 2) (cCons (cK .non) (cNil))))), (3, [], cCallK 0 4 [0, 1, 2, 3] C.f_bars_k55 cNil (cCons (cV 1) (cCons (cV 2) (cCons (cK .non) (cCons (cK .non) (cNil)))))), (4, [], cF C.f_signs_k55 (cCons (cF kTup (cCons (cV 1) (cNil))) (cCons (cK (.int 0)) (cCons (cV 2) (cNil))))), (5, [], cF C.f_bars_k55 (cCons (cV 1) (cCons (cK (.int 0)) (cCons (cV 2) (cCons (cK .non) (cNil)))))), (6, [], cF C.f_bars_k55 (cCons (cV 1) (cCons (cK (.int 0)) (cCons (cK (.int 3)) (cCons (cV 2) (cNil))))))]) (cCons (cK (.clo 6)) (cCons (cK (.str "step")) (cCons (cV 2) (cNil)))))) (cRet (cK (.bl false))) (cNext))) (cRet (c2 kEq (cF C.f_signs_k55 (cCons (c2 kMul (cF kTup (cCons (cV 1) (cNil))) (cK (.int 12))) (cCons (cK (.int 3)) (cCons (cK (.int 100)) (cNil))))) (cMS kJoin (cK (.str "\n")) (c2 kMul (cF (kLst false) (cCons (c2 kAdd (cK (.str "+.+")) (c2 kMul (cK (.str ".")) (cK (.int 97)))) (cNil))) (cK (.int 12)))))))))))
def f__law_are_refused (tk : Fn) : Fn := mkFnL 0 7 1 3 (b__law_are_refused tk)
def b__law_right_k55 (tk : Fn) : CS := cRet (cAnd (cF C.f__law_are_hands_right (cCons (c2 kSub (cF tk (cCons (cV 0) (cCons (cK (.int 9)) (cNil)))) (cK (.int 4))) (cNil))) (cF (C.f__law_are_refused tk) (cCons (cV 0) (cNil))))
def f__law_right_k55 (tk : Fn) : Fn := mkFn 1 1 (b__law_right_k55 tk)
def b__law_pot_k55 : CS := cSeq (cSet (.nm 2) (cIf (c2 kLt (cV 1) (cF (one kLen) (cCons (cV 0) (cNil)))) (c2 kItem (cV 0) (cV 1)) (c2 kAdd (c2 kAdd (c2 kMod (cF (one kInt) (cCons (cF (one kSum) (cCons (cCut false (cV 0) oNo (oSm (cK (.int 1)))) (cNil))) (cNil))) (cK (.int 1000003))) (c2 kMul (cK (.int 1691)) (cV 1))) (cK (.int 1681))))) (cSeq (cSet (.nm 3) (c2 kMul (c2 kMod (cF (one kInt) (cCons (cF (one kAbs) (cCons (cV 2) (cNil))) (cNil))) (c2 kPow (c2 kPow (cK (.int 10)) (cK (.int 60))) (cK (.int 5)))) (cF (one kInt) (cCons (c2 kGe (cF (one kAbs) (cCons (cV 2) (cNil))) (c2 kPow (cK (.int 10)) (cK (.int 18)))) (cNil))))) (cSeq (cSet (.nm 4) (c2 kMod (cF (one kInt) (cCons (cV 2) (cNil))) (cK (.int 2305843009213693951)))) (cRet (cF (kLst true) (cCons (cV 3) (cCons (c2 kMod (cF (one kInt) (cCons (c2 kAdd (c2 kAdd (c2 kMul (cV 4) (cK (.int 87391))) (c2 kMul (c2 kMul (cK (.int 10561)) (cV 1)) (cV 1))) (cK (.int 769))) (cNil))) (cK (.int 2305843009213693921))) (cCons (cK (.int 0)) (cNil))))))))
def f__law_pot_k55 : Fn := mkFn0 2 5 b__law_pot_k55
def b_law_k55 (tk : Fn) : CS := cRet (cF (one kAll) (cCons (cComp false [1] (.nm 1) (iSeq (cF C.f__law_cells (cCons (cV 0) (cCons (cK (.int 2)) (cNil))))) (cYes) (.lst []) (pLst (cF (C.f__law_right_k55 tk) (cCons (cF C.f__law_pot_k55 (cCons (cV 0) (cCons (cV 1) (cNil)))) (cNil))))) (cNil)))
def f_law_k55 (tk : Fn) : Fn := mkFn 1 2 (b_law_k55 tk)
def b__law_right_k01b (tk : Fn) : CS := cSeq (cSet (.tp [.nm 1, .nm 2]) (cF (C.f__law_full tk) (cCons (cV 0) (cNil)))) (cSeq (cSet (.nm 3) (cF C.f__law_cleared (cCons (cF (one (kDict false)) (cCons (cComp false [11, 12] (.tp [.nm 11, .nm 12]) (iArgs kEnum (cCons (cV 2) (cNil))) (cYes) (.lst []) (pLst (cF kTup (cCons (c2 kAdd (cV 1) (cV 11)) (cCons (cV 12) (cNil)))))) (cNil))) (cNil)))) (cSeq (cSet (.nm 4) (cCallK 0 2 [0, 1] C.f_row_of cNil (cCons (cV 1) (cCons (cV 2) (cNil))))) (cSeq (cIfS (cOr (cReprSame false (cV 4) (cF C.f__law_told_row (cCons (cV 3) (cNil)))) (cReprSame false (cF C.f_row_of (cCons (c2 kSub (cV 1) (cK (.int 2))) (cCons (c2 kAdd (c2 kAdd (c2 kMul (cF kTup (cCons (cF kTup (cCons (cK (.int 0)) (cCons (cK (.int 1)) (cNil)))) (cNil))) (cK (.int 2))) (cV 2)) (cF kTup (cCons (cF kTup (cCons (cK (.int 0)) (cCons (cK (.int 1)) (cNil)))) (cNil)))) (cNil)))) (cV 4))) (cRet (cK (.bl false))) (cNext)) (cSeq (cIfS (cReprSame false (cCallK 0 1 [0] C.f_spread cNil (cCons (cV 4) (cNil))) (cIf (c2 kNe (cV 3) (cDct0 false)) (c2 kSub (cF (one kMax) (cCons (cF (one (kList false)) (cCons (cV 3) (cNil))) (cNil))) (cF (one kMin) (cCons (cF (one (kList false)) (cCons (cV 3) (cNil))) (cNil)))) (cK .non))) (cRet (cK (.bl false))) (cNext)) (cSeq (cIfS (c1 kNot (cF (one kAll) (cCons (cComp false [13] (.nm 13) (iArgs kRng2 (cCons (c2 kSub (cV 1) (cK (.int 3))) (cCons (c2 kAdd (cV 1) (cK (.int 9))) (cNil)))) (cYes) (.lst []) (pLst (cReprSame true (cCallK 0 2 [0, 1] C.f_worth cNil (cCons (cV 4) (cCons (cV 13) (cNil)))) (cGet2 (cV 3) (cV 13) (cF kTup (cCons (cK (.int 0)) (cCons (cK (.int 1)) (cNil)))))))) (cNil)))) (cRet (cK (.bl false))) (cNext)) (cSeq (cFor (.nm 5) (iArgs kRng1 (cCons (cK (.int 3)) (cNil))) (cSeq (cSet (.nm 6) (cF (C.f__law_drawn_row tk) (cCons (cV 0) (cCons (cK (.int 5)) (cNil))))) (cSeq (cIfS (c2 kEq (cV 5) (cK (.int 2))) (cSet (.nm 6) (cF C.f__law_cleared (cCons (cF (one (kDict false)) (cCons (cComp false [13, 12] (.tp [.nm 13, .nm 12]) (iSeq (c1 (kItems false) (cV 3))) (cYes) (.lst []) (pLst (cF kTup (cCons (cV 13) (cCons (cIf (c2 kGt (cF tk (cCons (cV 0) (cCons (cK (.int 3)) (cNil)))) (cK (.int 0))) (cF C.f__law_minus (cCons (cV 12) (cNil))) (cV 12)) (cNil)))))) (cNil))) (cNil)))) (cNext)) (cSeq (cPar 7 8 (cCons (cF C.f__law_told_row (cCons (cV 6) (cNil))) (cCons (cF (C.f__law_drawn_fraction tk) (cCons (cV 0) (cCons (cK (.int 4)) (cNil)))) cNil))) (cSeq (cSet (.nm 9) (cF (kLst false) (cCons (cCallK 0 2 [0, 1] C.f_plus_rows cNil (cCons (cV 4) (cCons (cV 7) (cNil)))) (cCons (cCallK 0 2 [0, 1] C.f_less_rows cNil (cCons (cV 4) (cCons (cV 7) (cNil)))) (cCons (cCallK 0 2 [0, 1] C.f_times_rows cNil (cCons (cV 4) (cCons (cV 7) (cNil)))) (cCons (cCallK 0 2 [0, 1] C.f_scaled cNil (cCons (cV 7) (cCons (cV 8) (cNil)))) (cNil))))))) (cSeq (cSet (.nm 10) (cF (kLst false) (cCons (cF C.f__law_row_sum (cCons (cV 3) (cCons (cV 6) (cNil)))) (cCons (cF C.f__law_row_less (cCons (cV 3) (cCons (cV 6) (cNil)))) (cCons (cF C.f__law_row_product (cCons (cV 3) (cCons (cV 6) (cNil)))) (cCons (cF C.f__law_row_scaled (cCons (cV 6) (cCons (cV 8) (cNil)))) (cNil))))))) (cSeq (cIfS (cReprSame false (cV 9) (cComp false [12] (.nm 12) (iSeq (cV 10)) (cYes) (.lst []) (pLst (cF C.f__law_told_row (cCons (cV 12) (cNil)))))) (cRet (cK (.bl false))) (cNext)) (cIfS (cOr (cReprSame false (cF kTup (cCons (cF C.f_plus_rows (cCons (cV 7) (cCons (cV 4) (cNil)))) (cCons (cF C.f_times_rows (cCons (cV 7) (cCons (cV 4) (cNil)))) (cNil)))) (cF kTup (cCons (c2 kItem (cV 9) (cK (.int 0))) (cCons (c2 kItem (cV 9) (cK (.int 2))) (cNil))))) (cReprSame false (cF C.f_less_rows (cCons (c2 kItem (cV 9) (cK (.int 0))) (cCons (cV 7) (cNil)))) (cV 4))) (cRet (cK (.bl false))) (cNext))))))))) (cRet (cK (.bl true)))))))))
def f__law_right_k01b (tk : Fn) : Fn := mkFn 1 14 (b__law_right_k01b tk)
def b_law_k01b (tk : Fn) : CS := cRet (cF (one kAll) (cCons (cComp false [1] (.nm 1) (iSeq (cF C.f__law_cells (cCons (cV 0) (cCons (cK (.int 3)) (cNil))))) (cYes) (.lst []) (pLst (cF (C.f__law_right_k01b tk) (cCons (cF C.f__law_pot_k01 (cCons (cV 0) (cCons (cV 1) (cNil)))) (cNil))))) (cNil)))
def f_law_k01b (tk : Fn) : Fn := mkFn 1 2 (b_law_k01b tk)
end PL.C

set_option Elab.async false
set_option linter.all false
set_option maxRecDepth 100000
set_option maxHeartbeats 4000000
set_option autoImplicit false
set_option exponentiation.threshold 20000
namespace PL.C
open PySem PySem.Spec PyProof.Rows L2
abbrev Fr := Int × Int
def frD (q : Fr) : D := .tup [.int q.1, .int q.2]
def rowD (f : Int) (ws : List Fr) : D := .tup [.int f, .tup (ws.map frD)]
section
variable {hs : List Ob}
theorem is_whole_i {i : Int} : f_is_whole [.int i] hs = .ok (.bl true) hs := by
  simp [f_is_whole, b_is_whole]
theorem is_integer_i {v lo hi : Int} : f_is_integer [.int v, .int lo, .int hi] hs = .ok (.bl (decide (lo ≤ v) && decide (v ≤ hi))) hs := by
  simp [f_is_integer, b_is_integer, is_whole_i]
  by_cases h : lo ≤ v <;> simp [h]
theorem is_integer_n {v lo : Int} : f_is_integer [.int v, .int lo, .non] hs = .ok (.bl (decide (lo ≤ v))) hs := by
  simp [f_is_integer, b_is_integer, is_whole_i]
  by_cases h : lo ≤ v <;> simp [h]
theorem is_tuple_t {xs : List D} {lo hi : Int} : f_is_tuple [.tup xs, .int lo, .int hi] hs = .ok (.bl (decide (lo ≤ (xs.length : Int)) && decide ((xs.length : Int) ≤ hi))) hs := by
  simp [f_is_tuple, b_is_tuple]
  by_cases h : lo ≤ (xs.length : Int) <;> simp [h]
/-- Euclid's loop -/
theorem common_loop : ∀ (n : Nat) (a b : Nat), b < n → loopW n (c2 kNe (cV 1) (cK (.int 0))) (cPar 0 1 (cCons (cV 1) (cCons (c2 kMod (cV 0) (cV 1)) cNil))) [some (.int a), some (.int b)] hs = .ok (.nx [some (.int (Nat.gcd a b)), some (.int 0)]) hs
  | 0, _, _, h => absurd h (Nat.not_lt_zero _)
  | n + 1, a, b, h => by
    rw [loopW_s]
    by_cases hb : b = 0
    · subst hb
      simp
    · have hb' : ¬ ((b : Int) = 0) := by omega
      have e : kMod (.int (a : Int)) (.int (b : Int)) hs = .ok (.int ((a % b : Nat) : Int)) hs := by
        rw [kMod_v (by omega)]
        simp
      have ih := common_loop n b (a % b) (by have := Nat.mod_lt a (Nat.pos_of_ne_zero hb); omega)
      simp [hb', hb, e] at ih ⊢
      rw [ih, Nat.gcd_comm a b, Nat.gcd_rec b a, Nat.gcd_comm]
theorem common_v {a b : Int} (h : b.natAbs < FUEL) : f_common [.int a, .int b] hs = .ok (.int (Int.gcd a b : Nat)) hs := by
  have := common_loop (hs := hs) FUEL a.natAbs b.natAbs h
  simp [f_common, b_common, cWhile, this]
  rfl
@[simp] theorem fr_0 {q : Fr} : kItem (frD q) (.int 0) hs = .ok (.int q.1) hs := kItem_t rfl
@[simp] theorem fr_1 {q : Fr} : kItem (frD q) (.int 1) hs = .ok (.int q.2) hs := kItem_t rfl
@[simp] theorem fr_t {q : Fr} : f_is_tuple [frD q, .int 2, .int 2] hs = .ok (.bl true) hs := by simp [frD, is_tuple_t]
theorem all_whole {q : Fr} : cComp false [1] (.nm 1) (iSeq (cV 0)) cYes (.lst []) (pLst (cF f_is_whole (cCons (cV 1) cNil))) [some (frD q), none] hs = .ok (.fl [.bl true, .bl true]) hs :=
  comp_all (b := false) D.int (fun _ => .bl true) [q.1, q.2] (iSeq_t (by simp [frD])) (fun x _ => ⟨[some (frD q), some (.int x)], rfl, by simp [is_whole_i]⟩) (by simp)
theorem is_fraction_v {q : Fr} (h : q.2.natAbs < FUEL) : f_is_fraction [frD q] hs = .ok (.bl (decide (1 ≤ q.2) && decide (Int.gcd q.1 q.2 = 1))) hs := by
  simp only [f_is_fraction, b_is_fraction]
  have k : kAll (.fl [.bl true, .bl true]) hs = .ok (.bl true) hs := rfl
  simp [all_whole, common_v h, k]
  by_cases h1 : 1 ≤ q.2 <;> simp [h1]
  omega
theorem is_below_v {p q : Fr} (h1 : mulOk p.1 q.2 = true) (h2 : mulOk q.1 p.2 = true) : f_is_below [frD p, frD q] hs = .ok (.bl (decide (p.1 * q.2 < q.1 * p.2))) hs := by
  simp [f_is_below, b_is_below, kMul_v h1, kMul_v h2]
/-! ### rows -/
@[simp] theorem row_0 {f : Int} {ws : List Fr} : kItem (rowD f ws) (.int 0) hs = .ok (.int f) hs := kItem_t rfl
@[simp] theorem row_1 {f : Int} {ws : List Fr} : kItem (rowD f ws) (.int 1) hs = .ok (.tup (ws.map frD)) hs := kItem_t rfl
@[simp] theorem row_t {f : Int} {ws : List Fr} : f_is_tuple [rowD f ws, .int 2, .int 2] hs = .ok (.bl true) hs := by simp [rowD, is_tuple_t]
theorem plD_fr {n : Nat} {q : Fr} : plD (n + 2) (frD q) = true := by simp [frD, plD]
theorem plD_frs {n : Nat} {ws : List Fr} : plD (n + 3) (.tup (ws.map frD)) = true := by simp [plD, plD_fr]
theorem plD_row {n : Nat} {f : Int} {ws : List Fr} : plD (n + 4) (rowD f ws) = true := by
  simp only [rowD, plD, List.all_cons, List.all_nil, Bool.and_true]
  simp only [List.all_map, List.all_eq_true, Function.comp_apply, Bool.true_and]
  exact fun x _ => plD_fr
theorem frD_inj {p q : Fr} (h : frD p = frD q) : p = q := by
  simp only [frD, D.tup.injEq, List.cons.injEq, D.int.injEq, and_true] at h
  exact Prod.ext h.1 h.2
theorem kEq_frs {ws : List Fr} : kEq (.tup (ws.map frD)) (.tup []) hs = .ok (.bl ws.isEmpty) hs := by
  obtain ⟨c, e, i⟩ := kEq_pl (hs := hs) (a := .tup (ws.map frD)) (b := .tup []) plD_frs (by simp [plD])
  rw [e]
  congr 2
  rw [Bool.eq_iff_iff, i]
  simp
theorem kNe_fr {p q : Fr} : kNe (frD p) (frD q) hs = .ok (.bl (!decide (p = q))) hs := by
  obtain ⟨c, e, i⟩ := kNe_pl (hs := hs) (a := frD p) (b := frD q) plD_fr plD_fr
  rw [e]
  congr 3
  rw [Bool.eq_iff_iff, i]
  simp only [decide_eq_true_eq]
  exact ⟨frD_inj, fun h => by rw [h]⟩
theorem frD_nought : D.tup [.int 0, .int 1] = frD (0, 1) := rfl
/-- what a fraction must be -/
def okFr (q : Fr) : Bool := decide (1 ≤ q.2) && decide (Int.gcd q.1 q.2 = 1)
def okRow (f : Int) (ws : List Fr) : Bool := if ws.isEmpty then decide (f = 0) else ws.all okFr && (!decide (ws.head? = some (0, 1)) && !decide (ws.getLast? = some (0, 1)))
theorem all_fraction {ws : List Fr} {s0 : Option D} {f : Int} (h : ∀ q ∈ ws, q.2.natAbs < FUEL) (hl : ws.length < 16777216) : cComp false [1] (.nm 1) (iSeq (c2 kItem (cV 0) (cK (.int 1)))) cYes (.lst []) (pLst (cF f_is_fraction (cCons (cV 1) cNil))) [some (rowD f ws), s0] hs = .ok (.fl (ws.map fun q => .bl (okFr q))) hs :=
  comp_all (b := false) frD (fun q => .bl (okFr q)) ws (iSeq_t (by simp)) (fun x hx => ⟨[some (rowD f ws), some (frD x)], rfl, by simp [is_fraction_v (h x hx), okFr]⟩) hl
theorem is_row_v {f : Int} {ws : List Fr} (h : ∀ q ∈ ws, q.2.natAbs < FUEL) (hl : ws.length < 16777216) : f_is_row [rowD f ws] hs = .ok (.bl (okRow f ws)) hs := by
  have hk : kAll (.fl (ws.map fun q => .bl (okFr q))) hs = .ok (.bl (ws.all okFr)) hs := kAll_m
  simp only [f_is_row, b_is_row]
  simp [is_whole_i, kEq_frs, all_fraction h hl, hk, okRow]
  cases ws with
  | nil => simp
  | cons q qs =>
    have h0 : kItem (.tup ((q :: qs).map frD)) (.int 0) hs = .ok (frD q) hs := kItem_t (atI_nat (j := 0) rfl)
    have h1 : ∃ z, (q :: qs).getLast? = some z ∧ kItem (.tup ((q :: qs).map frD)) (.int (-1)) hs = .ok (frD z) hs := by
      obtain ⟨l, z, e⟩ : ∃ l z, q :: qs = l ++ [z] := ⟨_, _, (List.dropLast_concat_getLast (List.cons_ne_nil q qs)).symm⟩
      rw [e]
      exact ⟨z, by simp, kItem_t (by rw [List.map_append]; exact atI_last _ _)⟩
    obtain ⟨z, ez, h1⟩ := h1
    rw [ez]
    cases ha : (q :: qs).all okFr with
    | false => simp
    | true =>
      simp only [h0, h1, frD_nought, kNe_fr, bind_ok]
      by_cases hq : q = (0, 1) <;> simp [hq]
theorem check_row_v {f : Int} {ws : List Fr} (h : ∀ q ∈ ws, q.2.natAbs < FUEL) (hl : ws.length < 16777216) (ok : okRow f ws = true) : f_check_row [rowD f ws] hs = .ok .non hs := by
  simp [f_check_row, b_check_row, is_row_v h hl, ok]
theorem check_span_v {first many : Int} (h1 : 1 ≤ many) (h2 : many ≤ 100) : f_check_span [.int first, .int many] hs = .ok .non hs := by
  simp [f_check_span, b_check_span, is_whole_i, is_integer_i, h1, h2]
def worthAt (f : Int) (ws : List Fr) (m : Int) : Fr := if f ≤ m ∧ m < f + ws.length then ws.getD (m - f).toNat (0, 1) else (0, 1)
theorem worth_of_v {f m : Int} {ws : List Fr} : f_worth_of [rowD f ws, .int m] hs = .ok (frD (worthAt f ws m)) hs := by
  have hb : cSet (.tp [.nm 2, .nm 3]) (cV 0) [some (rowD f ws), some (.int m), none, none] hs = .ok (.nx [some (rowD f ws), some (.int m), some (.int f), some (.tup (ws.map frD))]) hs := rfl
  simp only [f_worth_of, b_worth_of]
  simp [hb]
  unfold worthAt
  by_cases h1 : f ≤ m
  · by_cases h2 : m < f + ws.length
    · have hlt : (m - f).toNat < ws.length := by omega
      obtain ⟨k, hk⟩ : ∃ k : Nat, m - f = (k : Int) := ⟨(m - f).toNat, by omega⟩
      rw [hk] at hlt ⊢
      rw [Int.toNat_natCast] at hlt ⊢
      have e : kItem (.tup (ws.map frD)) (.int (k : Int)) hs = .ok (frD (ws.getD k (0, 1))) hs := kItem_t (atI_nat (by rw [List.getElem?_map]; simp [hlt]))
      simp [h1, h2, hk, e]
    · simp [h1, h2, frD]
  · simp [h1, frD]
def sgn (n : Int) : Str := if n = 0 then "." else if 0 < n then "+" else "-"
theorem sign_of_v {q : Fr} : f_sign_of [frD q] hs = .ok (.str (sgn q.1)) hs := by
  simp [f_sign_of, b_sign_of, sgn]
  by_cases h : q.1 = 0 <;> simp [h]
  by_cases h2 : 0 < q.1 <;> simp [h2]
theorem sgn_len (n : Int) : (sgn n).length = 1 := by
  unfold sgn
  split
  · rfl
  · split <;> rfl
/-- a drawn line of signs -/
def lineOf (g : Int → Fr) (first : Int) (many : Nat) : Str := Txt.join "" ((List.range many).map fun i => sgn (g (first + (i : Nat))).1)
theorem lineOf_len {g : Int → Fr} {first : Int} {many : Nat} : (lineOf g first many).length ≤ many := by
  unfold lineOf
  refine Nat.le_trans (join_le _ _) ?_
  have h : ("" : Str).length = 0 := rfl
  have := sum_le (fun x : Str => x.length) 1 ((List.range many).map fun i => sgn (g (first + (i : Nat))).1) (fun x hx => by
    obtain ⟨i, _, rfl⟩ := List.mem_map.mp hx
    exact Nat.le_of_eq (sgn_len _))
  rw [h]
  rw [List.length_map, List.length_range] at this ⊢
  omega
theorem signs_v {rows : List (Int × List Fr)} {first many : Int} (h0 : 1 ≤ rows.length) (h1 : rows.length ≤ 12) (hr : ∀ r ∈ rows, okRow r.1 r.2 = true ∧ r.2.length < 16777216 ∧ ∀ q ∈ r.2, q.2.natAbs < FUEL) (m1 : 1 ≤ many) (m2 : many ≤ 100) (f1 : -(2 ^ 60) ≤ first) (f2 : first ≤ 2 ^ 60) :
    f_signs [.tup (rows.map fun r => rowD r.1 r.2), .int first, .int many] hs = .ok (.str (Txt.join "\n" (rows.map fun r => lineOf (worthAt r.1 r.2) first many.toNat))) hs := by
  have e1 : cComp false [4] (.nm 4) (iSeq (cV 0)) cYes (.lst []) (pLst (cF f_is_row (cCons (cV 4) cNil))) [some (.tup (rows.map fun r => rowD r.1 r.2)), some (.int first), some (.int many), none, none, none] hs = .ok (.fl (rows.map fun r => .bl true)) hs :=
    comp_all (b := false) (fun r : Int × List Fr => rowD r.1 r.2) (fun _ => .bl true) rows (iSeq_t (by simp)) (fun r hm => ⟨_, rfl, by
      obtain ⟨a, b, c⟩ := hr r hm
      simp [is_row_v c b, a]⟩) (by omega)
  have k1 : kAll (.fl (rows.map fun r => .bl true)) hs = .ok (.bl true) hs := by
    rw [kAll_m (p := fun _ => true)]
    simp
  have g1 : kLRg2 false (.int first) (.int (first + many)) hs = .ok (.fl ((List.range many.toNat).map fun i => D.int (first + (i : Nat)))) hs := by
    rw [lrg2_v (by omega) (by omega) (by omega) (by omega) (by omega), show first + many - first = many by omega]
    rfl
  have e2 : ∀ (r : Int × List Fr), cComp false [5] (.nm 5) (iSeq (cV 3)) cYes (.lst []) (pLst (cF f_sign_of (cCons (cF f_worth_of (cCons (cV 4) (cCons (cV 5) cNil))) cNil))) [some (.tup (rows.map fun r => rowD r.1 r.2)), some (.int first), some (.int many), some (.fl ((List.range many.toNat).map fun i => D.int (first + (i : Nat)))), some (rowD r.1 r.2), none] hs = .ok (.fl (((List.range many.toNat).map fun i => sgn (worthAt r.1 r.2 (first + (i : Nat))).1).map .str)) hs := fun r => by
    rw [List.map_map]
    exact comp_all (b := false) (fun i : Nat => D.int (first + (i : Nat))) (fun i => .str (sgn (worthAt r.1 r.2 (first + (i : Nat))).1)) (List.range many.toNat) (iSeq_l (by simp)) (fun i hm => ⟨_, rfl, by simp [worth_of_v, sign_of_v]⟩) (by rw [List.length_range]; omega)
  have e3 : cComp false [4] (.nm 4) (iSeq (cV 0)) cYes (.lst []) (pLst (cMS kJoin (cK (.str "")) (cComp false [5] (.nm 5) (iSeq (cV 3)) cYes (.lst []) (pLst (cF f_sign_of (cCons (cF f_worth_of (cCons (cV 4) (cCons (cV 5) cNil))) cNil)))))) [some (.tup (rows.map fun r => rowD r.1 r.2)), some (.int first), some (.int many), some (.fl ((List.range many.toNat).map fun i => D.int (first + (i : Nat)))), none, none] hs = .ok (.fl ((rows.map fun r => lineOf (worthAt r.1 r.2) first many.toNat).map .str)) hs := by
    rw [List.map_map]
    refine comp_all (b := false) (fun r : Int × List Fr => rowD r.1 r.2) (fun r => .str (lineOf (worthAt r.1 r.2) first many.toNat)) rows (iSeq_t (by simp)) (fun r hm => ⟨[some (.tup (rows.map fun r => rowD r.1 r.2)), some (.int first), some (.int many), some (.fl ((List.range many.toNat).map fun i => D.int (first + (i : Nat)))), some (rowD r.1 r.2), none], rfl, ?_⟩) (by omega)
    rw [cMS_v, cK_v, bind_ok, if_pos isStr_v, e2 r, bind_ok]
    refine kJoin_l ?_
    have h : ("" : Str).length = 0 := rfl
    have := sum_le (fun x : Str => x.length) 1 ((List.range many.toNat).map fun i => sgn (worthAt r.1 r.2 (first + (i : Nat))).1) (fun x hx => by
      obtain ⟨i, _, rfl⟩ := List.mem_map.mp hx
      exact Nat.le_of_eq (sgn_len _))
    rw [h]
    rw [List.length_map, List.length_range] at this ⊢
    omega
  have j : ((rows.map fun r => lineOf (worthAt r.1 r.2) first many.toNat).map (·.length)).sum + (rows.map fun r => lineOf (worthAt r.1 r.2) first many.toNat).length * ("\n" : Str).length ≤ 16777216 := by
    have h : ("\n" : Str).length = 1 := rfl
    have := sum_le (fun x : Str => x.length) 100 (rows.map fun r => lineOf (worthAt r.1 r.2) first many.toNat) (fun x hx => by
      obtain ⟨r, _, rfl⟩ := List.mem_map.mp hx
      have := lineOf_len (g := worthAt r.1 r.2) (first := first) (many := many.toNat)
      omega)
    rw [h]
    rw [List.length_map] at this ⊢
    omega
  have t : f_is_tuple [.tup (rows.map fun r => rowD r.1 r.2), .int 1, .int 12] hs = .ok (.bl true) hs := by
    rw [is_tuple_t, List.length_map, decide_eq_true (by omega : (1 : Int) ≤ (rows.length : Int)), decide_eq_true (by omega : (rows.length : Int) ≤ 12)]
    rfl
  have jj := kJoin_l (hs := hs) j
  generalize D.fl ((rows.map fun r => lineOf (worthAt r.1 r.2) first many.toNat).map .str) = L at *
  generalize D.tup (rows.map fun r => rowD r.1 r.2) = R at *
  generalize D.fl ((List.range many.toNat).map fun i => D.int (first + (i : Nat))) = M at *
  simp [f_signs, b_signs, t, e1, k1, check_span_v m1 m2, g1, e3, jj]
/-! ### bars -/
def barOf (q s : Fr) : Int := min ((q.1.natAbs : Int) * s.2 / (q.2 * s.1)) 50
def barS (neg : Bool) (n : Int) : Str := (if neg = true then ("-" : Str) else ("" : Str)) ++ ⟨(List.replicate n.toNat ("#" : Str).cps.toList).flatten.toArray⟩
theorem rep_len (n : Nat) : (⟨(List.replicate n ("#" : Str).cps.toList).flatten.toArray⟩ : Str).length = n := by
  unfold Str.length
  rw [List.size_toArray, show ("#" : Str).cps.toList = [35] from rfl]
  simp
theorem kMul_rep {k : Int} (h1 : 0 ≤ k) (h2 : k ≤ 100000) : kMul (.str "#") (.int k) hs = .ok (.str ⟨(List.replicate k.toNat ("#" : Str).cps.toList).flatten.toArray⟩) hs := by
  unfold kMul
  dsimp only
  rw [if_pos ⟨h1, h2, by decide⟩]
theorem kAdd_bar {b : Bool} {k : Int} (h1 : 0 ≤ k) (h2 : k ≤ 100000) : kAdd (.str (if b = true then ("-" : Str) else ("" : Str))) (.str ⟨(List.replicate k.toNat ("#" : Str).cps.toList).flatten.toArray⟩) hs = .ok (.str (barS b k)) hs := by
  unfold kAdd
  dsimp only
  rw [if_pos]
  · rfl
  · rw [rep_len, sizeLine_eq]
    have : (if b = true then ("-" : Str) else "").length ≤ 1 := by cases b <;> decide
    omega
theorem barS_len {b : Bool} {k : Int} (h1 : 0 ≤ k) (h2 : k ≤ 50) : (barS b k).length ≤ 51 := by
  unfold barS
  rw [Str.length_append, rep_len]
  have : (if b = true then ("-" : Str) else "").length ≤ 1 := by cases b <;> decide
  omega
theorem mul_lt_pow {a b : Int} {i j : Nat} (ha : a.natAbs < 2 ^ i) (hb : b.natAbs < 2 ^ j) : (a * b).natAbs < 2 ^ (i + j) := by
  rw [Int.natAbs_mul, Nat.pow_add]
  exact Nat.mul_lt_mul'' ha hb
theorem barOf_nn {q s : Fr} (h1 : 0 < q.2) (h2 : 0 < s.1) (h3 : 0 < s.2) : 0 ≤ barOf q s := by
  have : 0 ≤ (q.1.natAbs : Int) * s.2 / (q.2 * s.1) := Int.ediv_nonneg (Int.mul_nonneg (by omega) (by omega)) (Int.mul_nonneg (by omega) (by omega))
  unfold barOf
  omega
theorem bar_of_v {q s : Fr} {i : Nat} (h1 : 0 < q.2) (h2 : 0 < s.1) (h3 : 0 < s.2) (b1 : q.1.natAbs < 2 ^ i) (b2 : q.2.natAbs < 2 ^ i) (b3 : s.1.natAbs < 2 ^ i) (b4 : s.2.natAbs < 2 ^ i) (hi : 0 < i) (hi2 : i ≤ 4000) :
    f_bar_of [frD q, frD s] hs = .ok (.str (barS (decide (q.1 < 0)) (barOf q s))) hs := by
  have e1 : kMul (.int (q.1.natAbs : Int)) (.int s.2) hs = .ok (.int ((q.1.natAbs : Int) * s.2)) hs := kMul_v (mulOk_of (i := i) (j := i) (by simpa using b1) b4 hi hi (by omega))
  have e2 : kMul (.int q.2) (.int s.1) hs = .ok (.int (q.2 * s.1)) hs := kMul_v (mulOk_of (i := i) (j := i) b2 b3 hi hi (by omega))
  have e3 : kDiv (.int ((q.1.natAbs : Int) * s.2)) (.int (q.2 * s.1)) hs = .ok (.int ((q.1.natAbs : Int) * s.2 / (q.2 * s.1))) hs :=
    kDiv_v (Int.mul_pos h1 h2) (Nat.lt_of_lt_of_le (log2_lt (mul_lt_pow b2 b3) (by omega)) (by omega))
  have nn := barOf_nn h1 h2 h3
  have le : barOf q s ≤ 50 := Int.min_le_right _ _
  have e4 := kMul_rep (hs := hs) nn (by omega)
  have e5 := kAdd_bar (hs := hs) (b := decide (q.1 < 0)) nn (by omega)
  unfold barOf at e4 e5
  simp [f_bar_of, b_bar_of, e1, e2, e3, e4]
  by_cases hn : q.1 < 0
  · simp [hn] at e5 ⊢
    simp [e4, e5, barOf]
  · simp [hn] at e5 ⊢
    simp [e4, e5, barOf]
theorem bars_v {f first many : Int} {ws : List Fr} {s : Fr} {i : Nat} (ok : okRow f ws = true) (hl : ws.length < 16777216) (hw : ∀ q ∈ ws, 0 < q.2 ∧ q.1.natAbs < 2 ^ i ∧ q.2.natAbs < 2 ^ i) (m1 : 1 ≤ many) (m2 : many ≤ 100) (f1 : -(2 ^ 60) ≤ first) (f2 : first ≤ 2 ^ 60)
    (s1 : okFr s = true) (s2 : 0 < s.1) (b3 : s.1.natAbs < 2 ^ i) (b4 : s.2.natAbs < 2 ^ i) (hi : 0 < i) (hi2 : i ≤ 4000) :
    f_bars [rowD f ws, .int first, .int many, frD s] hs = .ok (.str (Txt.join "\n" ((List.range many.toNat).map fun k => barS (decide ((worthAt f ws (first + (k : Nat))).1 < 0)) (barOf (worthAt f ws (first + (k : Nat))) s)))) hs := by
  have ff : ∀ n : Nat, n < 2 ^ i → n < FUEL := fun n h => Nat.lt_of_lt_of_le h (fuel_le (by omega))
  have s3 : 0 < s.2 := by unfold okFr at s1; simp at s1; omega
  have ic : 2 ^ i ≥ 2 := by
    have := Nat.pow_le_pow_right (by decide : 0 < 2) (show 1 ≤ i by omega)
    omega
  have at' : ∀ m : Int, 0 < (worthAt f ws m).2 ∧ (worthAt f ws m).1.natAbs < 2 ^ i ∧ (worthAt f ws m).2.natAbs < 2 ^ i := fun m => by
    unfold worthAt
    have z : (0 : Int) < ((0, 1) : Fr).2 ∧ ((0, 1) : Fr).1.natAbs < 2 ^ i ∧ ((0, 1) : Fr).2.natAbs < 2 ^ i := ⟨by decide, by show 0 < 2 ^ i; omega, by show 1 < 2 ^ i; omega⟩
    split
    · rw [List.getD_eq_getElem?_getD]
      cases e : ws[(m - f).toNat]? with
      | none => exact z
      | some q => exact hw q (List.mem_of_getElem? e)
    · exact z
  have c1 := check_row_v (hs := hs) (fun q hq => ff _ (hw q hq).2.2) hl ok
  have c2' := is_fraction_v (hs := hs) (q := s) (ff _ b4)
  have c3 : f_is_below [.tup [.int 0, .int 1], frD s] hs = .ok (.bl true) hs := by
    have := is_below_v (hs := hs) (p := (0, 1)) (q := s) (mulOk_of (i := 1) (j := i) (by decide) b4 (by decide) hi (by omega)) (mulOk_of (i := i) (j := 1) b3 (by decide) hi (by decide) (by omega))
    rw [frD_nought, this]
    simp [s2]
  have g1 : kLRg2 false (.int first) (.int (first + many)) hs = .ok (.fl ((List.range many.toNat).map fun i => D.int (first + (i : Nat)))) hs := by
    rw [lrg2_v (by omega) (by omega) (by omega) (by omega) (by omega), show first + many - first = many by omega]
    rfl
  have e2 : cComp false [4] (.nm 4) (iSeq (c2 (kLRg2 false) (cV 1) (c2 kAdd (cV 1) (cV 2)))) cYes (.lst []) (pLst (cF f_bar_of (cCons (cF f_worth_of (cCons (cV 0) (cCons (cV 4) cNil))) (cCons (cV 3) cNil)))) [some (rowD f ws), some (.int first), some (.int many), some (frD s), none] hs = .ok (.fl (((List.range many.toNat).map fun k => barS (decide ((worthAt f ws (first + (k : Nat))).1 < 0)) (barOf (worthAt f ws (first + (k : Nat))) s)).map .str)) hs := by
    rw [List.map_map]
    exact comp_all (b := false) (fun i : Nat => D.int (first + (i : Nat))) (fun k => .str (barS (decide ((worthAt f ws (first + (k : Nat))).1 < 0)) (barOf (worthAt f ws (first + (k : Nat))) s))) (List.range many.toNat) (iSeq_l (by simp [g1])) (fun k hm => ⟨_, rfl, by
      obtain ⟨p1, p2, p3⟩ := at' (first + (k : Nat))
      simp [worth_of_v, bar_of_v p1 s2 s3 p2 p3 b3 b4 hi hi2]⟩) (by rw [List.length_range]; omega)
  have j : (((List.range many.toNat).map fun k => barS (decide ((worthAt f ws (first + (k : Nat))).1 < 0)) (barOf (worthAt f ws (first + (k : Nat))) s)).map (·.length)).sum + ((List.range many.toNat).map fun k => barS (decide ((worthAt f ws (first + (k : Nat))).1 < 0)) (barOf (worthAt f ws (first + (k : Nat))) s)).length * ("\n" : Str).length ≤ 16777216 := by
    have h : ("\n" : Str).length = 1 := rfl
    have := sum_le (fun x : Str => x.length) 51 ((List.range many.toNat).map fun k => barS (decide ((worthAt f ws (first + (k : Nat))).1 < 0)) (barOf (worthAt f ws (first + (k : Nat))) s)) (fun x hx => by
      obtain ⟨k, _, rfl⟩ := List.mem_map.mp hx
      exact barS_len (barOf_nn (at' _).1 s2 s3) (Int.min_le_right _ _))
    rw [h]
    rw [List.length_map, List.length_range] at this ⊢
    omega
  have jj := kJoin_l (hs := hs) j
  unfold okFr at s1
  generalize D.fl (((List.range many.toNat).map fun k => barS (decide ((worthAt f ws (first + (k : Nat))).1 < 0)) (barOf (worthAt f ws (first + (k : Nat))) s)).map .str) = L at *
  simp [f_bars, b_bars, c1, check_span_v m1 m2, c2', s1, c3, e2, jj]
end
end PL.C

set_option Elab.async false
set_option linter.all false
set_option maxRecDepth 100000
set_option maxHeartbeats 4000000
set_option autoImplicit false
set_option exponentiation.threshold 20000
namespace PL.C
open PySem PySem.Spec PyProof.Rows L2
/-! ## what is drawn -/
structure PotAt (r n : Nat) (hs : List Ob) : Prop where
  ex : ∃ o s c : Int, hs[r]? = some (.lst [.int o, .int s, .int c]) ∧ 0 ≤ o ∧ o.natAbs < 2 ^ 1000 ∧ 0 ≤ s ∧ s.natAbs < 2 ^ 62 ∧ 0 ≤ c ∧ c ≤ n
theorem PotAt.mono {r n n' : Nat} {hs : List Ob} (h : PotAt r n hs) (l : n ≤ n') : PotAt r n' hs := by
  obtain ⟨o, s, c, h1, h2, h3, h4, h5, h6, h7⟩ := h.ex
  exact ⟨o, s, c, h1, h2, h3, h4, h5, h6, by omega⟩
/-- n more drawn of the pot at r, nothing else changed -/
structure Drawn (r n : Nat) (hs hs' : List Ob) : Prop where
  pot : PotAt r n hs'
  len : hs'.length = hs.length
  oth : ∀ i, i ≠ r → hs'[i]? = hs[i]?
theorem Drawn.refl {r n : Nat} {hs : List Ob} (h : PotAt r n hs) : Drawn r n hs hs := ⟨h, rfl, fun _ _ => rfl⟩
theorem Drawn.trans {r n n' : Nat} {hs hs1 hs2 : List Ob} (a : Drawn r n hs hs1) (b : Drawn r n' hs1 hs2) : Drawn r n' hs hs2 := ⟨b.pot, b.len.trans a.len, fun i h => (b.oth i h).trans (a.oth i h)⟩
theorem Drawn.mono {r n n' : Nat} {hs hs' : List Ob} (a : Drawn r n hs hs') (l : n ≤ n') : Drawn r n' hs hs' := ⟨a.pot.mono l, a.len, a.oth⟩
theorem Drawn.set {r n : Nat} {hs : List Ob} {o s c : Int} (hr : r < hs.length) (h2 : 0 ≤ o) (h3 : o.natAbs < 2 ^ 1000) (h4 : 0 ≤ s) (h5 : s.natAbs < 2 ^ 62) (h6 : 0 ≤ c) (h7 : c ≤ n) : Drawn r n hs (hs.set r (.lst [.int o, .int s, .int c])) :=
  ⟨⟨o, s, c, List.getElem?_set_self hr, h2, h3, h4, h5, h6, h7⟩, List.length_set, fun i h => List.getElem?_set_ne (Ne.symm h)⟩
theorem PotAt.lt {r n : Nat} {hs : List Ob} (h : PotAt r n hs) : r < hs.length := by
  obtain ⟨o, s, c, h1, _⟩ := h.ex
  exact (List.getElem?_eq_some_iff.mp h1).1
theorem abs_lt {a : Int} {k : Nat} (h0 : 0 ≤ a) (h : a < 2 ^ k) : a.natAbs < 2 ^ k := by
  have : (2 : Int) ^ k = ((2 ^ k : Nat) : Int) := by simp
  rw [this] at h
  omega
theorem lt_abs {a : Int} {k : Nat} (h : a.natAbs < 2 ^ k) : a < 2 ^ k := by
  have : (2 : Int) ^ k = ((2 ^ k : Nat) : Int) := by simp
  rw [this]
  omega
section
variable {hs : List Ob} {r n : Nat}
theorem prime_at {c : Int} (h : 0 ≤ c) : ∃ p : Int, kItem (.fl [.int 2147483647, .int 2147483629, .int 2147483587, .int 2147483579, .int 2147483563]) (.int (c % 5)) hs = .ok (.int p) hs ∧ 0 < p ∧ p < 2 ^ 31 := by
  have : c % 5 = 0 ∨ c % 5 = 1 ∨ c % 5 = 2 ∨ c % 5 = 3 ∨ c % 5 = 4 := by omega
  rcases this with e | e | e | e | e <;> rw [e]
  · exact ⟨_, kItem_l (atI_nat (j := 0) rfl), by decide, by decide⟩
  · exact ⟨_, kItem_l (atI_nat (j := 1) rfl), by decide, by decide⟩
  · exact ⟨_, kItem_l (atI_nat (j := 2) rfl), by decide, by decide⟩
  · exact ⟨_, kItem_l (atI_nat (j := 3) rfl), by decide, by decide⟩
  · exact ⟨_, kItem_l (atI_nat (j := 4) rfl), by decide, by decide⟩
theorem ix3_0 : ixN 3 0 = some 0 := by decide
theorem ix3_2 : ixN 3 2 = some 2 := by decide
/-- a law's draw, by its five numbers -/
def takeB (A B C0 D0 E0 : Int) : CS := cSeq (cIfS (c2 kGt (c2 kItem (cV 0) (cK (.int 0))) (cK (.int 0))) (cSeq (cSet (.nm 4) (c2 kMod (cF (one kInt) (cCons (c2 kItem (cV 0) (cK (.int 0))) (cNil))) (cV 1))) (cSeq (cSetIx (cV 0) (cK (.int 0)) (c2 kDiv (c2 kItem (cV 0) (cK (.int 0))) (cV 1))) (cRet (cV 4)))) (cNext)) (cSeq (cSetIx (cV 0) (cK (.int 2)) (c2 kAdd (c2 kItem (cV 0) (cK (.int 2))) (cK (.int 1)))) (cSeq (cSet (.nm 2) (c2 kItem (cF (kLst false) (cCons (cK (.int 2147483647)) (cCons (cK (.int 2147483629)) (cCons (cK (.int 2147483587)) (cCons (cK (.int 2147483579)) (cCons (cK (.int 2147483563)) (cNil))))))) (c2 kMod (cF (one kInt) (cCons (c2 kItem (cV 0) (cK (.int 2))) (cNil))) (cK (.int 5))))) (cSeq (cSet (.nm 3) (c2 kMod (cF (one kInt) (cCons (c2 kPow (cF (one kInt) (cCons (c2 kAdd (c2 kAdd (c2 kItem (cV 0) (cK (.int 1))) (c2 kMul (c2 kMul (cK (.int A)) (c2 kItem (cV 0) (cK (.int 2)))) (c2 kItem (cV 0) (cK (.int 2))))) (cK (.int B))) (cNil))) (cK (.int 3))) (cNil))) (cV 2))) (cRet (c2 kMod (cF (one kInt) (cCons (c2 kDiv (c2 kMul (cV 3) (c2 kAdd (c2 kMod (cF (one kInt) (cCons (cV 3) (cNil))) (cK (.int C0))) (c2 kMul (cK (.int D0)) (c2 kItem (cV 0) (cK (.int 2)))))) (cK (.int E0))) (cNil))) (cV 1))))))
theorem takeB_w {A B C0 D0 E0 u : Int} (hA : 0 < A ∧ A.natAbs < 2 ^ 17) (hB : 0 ≤ B ∧ B.natAbs < 2 ^ 17) (hC : 0 < C0 ∧ C0 < 2 ^ 17) (hD : 0 ≤ D0 ∧ D0.natAbs < 2 ^ 17) (hE : 0 < E0 ∧ E0.natAbs.log2 < 9000) (p : PotAt r n hs) (h0 : 0 < u) (hu : u.natAbs < 2 ^ 8000) (hn : n < 2 ^ 64) : W (mkFn 2 5 (takeB A B C0 D0 E0) [.ref r, .int u] hs) fun d hs' => ∃ v : Int, d = .int v ∧ 0 ≤ v ∧ v < u ∧ Drawn r (n + 1) hs hs' := by
  have hlt := p.lt
  obtain ⟨o, s, c, h1, h2, h3, h4, h5, h6, h7⟩ := p.ex
  have i0 : kItem (.ref r) (.int 0) hs = .ok (.int o) hs := kItem_r h1 (atI_nat (j := 0) rfl)
  by_cases ho : 0 < o
  · have e1 : kMod (.int o) (.int u) hs = .ok (.int (o % u)) hs := kMod_v h0
    have e2 : kDiv (.int o) (.int u) hs = .ok (.int (o / u)) hs := kDiv_v h0 (Nat.lt_of_lt_of_le (log2_lt hu (by decide)) (by decide))
    have e3 : kSetIx (.ref r) (.int 0) (.int (o / u)) hs = some (hs.set r (.lst [.int (o / u), .int s, .int c])) := kSetIx_r h1 ix3_0
    refine W.of (a := .int (o % u)) (hs := hs.set r (.lst [.int (o / u), .int s, .int c])) ?_ ⟨_, rfl, Int.emod_nonneg _ (by omega), Int.emod_lt_of_pos _ h0, Drawn.set hlt (Int.ediv_nonneg h2 (by omega)) ?_ h4 h5 h6 (by omega)⟩
    · simp [takeB, i0, ho, e1, e2, e3]
      exact leave_l List.length_set
    · refine Nat.lt_of_le_of_lt ?_ h3
      have h8 : o / u ≤ o := Int.ediv_le_self _ h2
      have h9 : 0 ≤ o / u := Int.ediv_nonneg h2 (by omega)
      clear h3 h5 hn hu
      omega
  · have g1 : (hs.set r (.lst [.int o, .int s, .int (c + 1)]))[r]? = some (.lst [.int o, .int s, .int (c + 1)]) := List.getElem?_set_self hlt
    have e0 : kItem (.ref r) (.int 2) hs = .ok (.int c) hs := kItem_r h1 (atI_nat (j := 2) rfl)
    have e1 : kSetIx (.ref r) (.int 2) (.int (c + 1)) hs = some (hs.set r (.lst [.int o, .int s, .int (c + 1)])) := kSetIx_r h1 ix3_2
    generalize hH : hs.set r (.lst [.int o, .int s, .int (c + 1)]) = H at *
    have e2 : kItem (.ref r) (.int 2) H = .ok (.int (c + 1)) H := kItem_r g1 (atI_nat (j := 2) rfl)
    have e3 : kItem (.ref r) (.int 1) H = .ok (.int s) H := kItem_r g1 (atI_nat (j := 1) rfl)
    have e4 : kMod (.int (c + 1)) (.int 5) H = .ok (.int ((c + 1) % 5)) H := kMod_v (by decide)
    obtain ⟨q, e5, q1, q2⟩ := prime_at (hs := H) (c := c + 1) (by omega)
    have c1 : (c + 1).natAbs < 2 ^ 65 := by
      have : (2 : Nat) ^ 65 = 2 ^ 64 + 2 ^ 64 := by decide
      clear h3 h5 hu
      omega
    have e6 : kMul (.int A) (.int (c + 1)) H = .ok (.int (A * (c + 1))) H := kMul_v (mulOk_of (i := 17) (j := 65) hA.2 c1 (by decide) (by decide) (by decide))
    have b1 : ((A : Int) * (c + 1)).natAbs < 2 ^ 82 := mul_lt_pow (i := 17) (j := 65) hA.2 c1
    have e7 : kMul (.int (A * (c + 1))) (.int (c + 1)) H = .ok (.int (A * (c + 1) * (c + 1))) H := kMul_v (mulOk_of (i := 82) (j := 65) b1 c1 (by decide) (by decide) (by decide))
    have b2 : ((A : Int) * (c + 1) * (c + 1)).natAbs < 2 ^ 147 := mul_lt_pow (i := 82) (j := 65) b1 c1
    have b3 : (s + A * (c + 1) * (c + 1) + B).natAbs < 2 ^ 149 := by
      generalize (A : Int) * (c + 1) * (c + 1) = z at b2
      have z1 : (2 : Nat) ^ 149 = 4 * 2 ^ 147 := by decide
      have z2 : (2 : Nat) ^ 62 ≤ 2 ^ 147 := by decide
      have z3 : (131072 : Nat) ≤ 2 ^ 147 := by decide
      have z4 := hB.2
      clear h3 hu c1 b1
      omega
    have e8 : kPow (.int (s + A * (c + 1) * (c + 1) + B)) (.int 3) H = .ok (.int ((s + A * (c + 1) * (c + 1) + B) ^ 3)) H := kPow_v (by decide) (by decide) (Nat.lt_of_lt_of_le (log2_lt b3 (by decide)) (by decide))
    generalize (s + A * (c + 1) * (c + 1) + B) ^ 3 = w at e8
    have e9 : kMod (.int w) (.int q) H = .ok (.int (w % q)) H := kMod_v q1
    have w1 : 0 ≤ w % q := Int.emod_nonneg _ (by omega)
    have w2 : w % q < q := Int.emod_lt_of_pos _ q1
    generalize w % q = v at e9 w1 w2
    have e10 : kMod (.int v) (.int C0) H = .ok (.int (v % C0)) H := kMod_v hC.1
    have e11 : kMul (.int D0) (.int (c + 1)) H = .ok (.int (D0 * (c + 1))) H := kMul_v (mulOk_of (i := 17) (j := 65) hD.2 c1 (by decide) (by decide) (by decide))
    have b4 : v.natAbs < 2 ^ 31 := abs_lt w1 (by omega)
    have b5 : (v % C0 + D0 * (c + 1)).natAbs < 2 ^ 83 := by
      have z0 : 0 ≤ v % C0 := Int.emod_nonneg _ (by have := hC.1; omega)
      have z1 : v % C0 < C0 := Int.emod_lt_of_pos _ hC.1
      have z5 := hC.2
      have z2 : ((D0 : Int) * (c + 1)).natAbs < 2 ^ 82 := mul_lt_pow (i := 17) (j := 65) hD.2 c1
      generalize (D0 : Int) * (c + 1) = z at z2
      have z3 : (2 : Nat) ^ 83 = 2 * 2 ^ 82 := by decide
      have z4 : (131072 : Nat) ≤ 2 ^ 82 := by decide
      clear h3 hu c1 b1 b2 b3 h5
      omega
    have e12 : kMul (.int v) (.int (v % C0 + D0 * (c + 1))) H = .ok (.int (v * (v % C0 + D0 * (c + 1)))) H := kMul_v (mulOk_of (i := 31) (j := 83) b4 b5 (by decide) (by decide) (by decide))
    have e13 : kDiv (.int (v * (v % C0 + D0 * (c + 1)))) (.int E0) H = .ok (.int (v * (v % C0 + D0 * (c + 1)) / E0)) H := kDiv_v hE.1 hE.2
    have e14 : kMod (.int (v * (v % C0 + D0 * (c + 1)) / E0)) (.int u) H = .ok (.int (v * (v % C0 + D0 * (c + 1)) / E0 % u)) H := kMod_v h0
    have e15 : kLst false [.int 2147483647, .int 2147483629, .int 2147483587, .int 2147483579, .int 2147483563] H = newL false [.int 2147483647, .int 2147483629, .int 2147483587, .int 2147483579, .int 2147483563] H := kLst_v (by decide)
    have hl : H.length = hs.length := by rw [← hH, List.length_set]
    have dr : Drawn r (n + 1) hs H := by rw [← hH]; exact Drawn.set hlt h2 h3 h4 h5 (by omega) (by omega)
    clear h3 hu c1 b1 b2 b3 h5 hn b5
    refine W.of (a := .int (v * (v % C0 + D0 * (c + 1)) / E0 % u)) (hs := H) ?_ ⟨_, rfl, Int.emod_nonneg _ (by omega), Int.emod_lt_of_pos _ h0, dr⟩
    simp [takeB, i0, ho, e0, e1, e2, e3, e4, e15, e5, e6, e7, e8, e9, e10, e11, e12, e13, e14]
    exact leave_l hl
/-- a def that draws -/
structure TakeOk (tk : Fn) : Prop where
  w : ∀ {hs : List Ob} {r n : Nat} {u : Int}, PotAt r n hs → 0 < u → u.natAbs < 2 ^ 8000 → n < 2 ^ 64 → W (tk [.ref r, .int u] hs) fun d hs' => ∃ v : Int, d = .int v ∧ 0 ≤ v ∧ v < u ∧ Drawn r (n + 1) hs hs'
theorem takeB_ok {A B C0 D0 E0 : Int} (hA : 0 < A ∧ A.natAbs < 2 ^ 17) (hB : 0 ≤ B ∧ B.natAbs < 2 ^ 17) (hC : 0 < C0 ∧ C0 < 2 ^ 17) (hD : 0 ≤ D0 ∧ D0.natAbs < 2 ^ 17) (hE : 0 < E0 ∧ E0.natAbs.log2 < 9000) : TakeOk (mkFn 2 5 (takeB A B C0 D0 E0)) :=
  ⟨fun p h0 hu hn => takeB_w hA hB hC hD hE p h0 hu hn⟩
end
end PL.C

set_option Elab.async false
set_option linter.all false
set_option maxRecDepth 100000
set_option maxHeartbeats 4000000
set_option autoImplicit false
set_option exponentiation.threshold 20000
namespace PL.C
open PySem PySem.Spec PyProof.Rows L2
section
variable {hs : List Ob} {r n : Nat}
theorem leave_d {hs hs' : List Ob} {d : D} (h : Drawn r n hs hs') : leave hs (.ok (.rt d) hs') = .ok d hs' := leave_l h.len
/-- some of a written list -/
theorem of_w {tk : Fn} (ht : TakeOk tk) {ds : List D} (p : PotAt r n hs) (h0 : 0 < ds.length) (h1 : ds.length ≤ 1000) (hn : n < 2 ^ 64) : W (f__law_of tk [.ref r, .fl ds] hs) fun d hs' => d ∈ ds ∧ Drawn r (n + 1) hs hs' := by
  obtain ⟨v, hs1, e, z, rfl, h2, h3, dr⟩ := (ht.w (u := (ds.length : Int)) p (by omega) (by
    have : (1000 : Nat) < 2 ^ 8000 := by decide +kernel
    exact Nat.lt_of_le_of_lt (by omega) this) hn).ex
  obtain ⟨k, hk⟩ : ∃ k : Nat, z = (k : Int) := ⟨z.toNat, by omega⟩
  subst hk
  have hl : k < ds.length := by omega
  have e2 : kItem (.fl ds) (.int (k : Int)) hs1 = .ok ds[k] hs1 := kItem_l (atI_nat (List.getElem?_eq_getElem hl))
  refine W.of (a := ds[k]) (hs := hs1) ?_ ⟨List.getElem_mem hl, dr⟩
  simp [f__law_of, b__law_of, e, e2]
  exact leave_d dr
theorem cells_v {ns : List Int} (h : ns.length ≤ 63) {lim : Int} (h1 : 1 ≤ lim) (h2 : lim ≤ 100) : f__law_cells [.frz (ns.map D.int), .int lim] hs = .ok (.fl ((List.range (max 1 (min lim ns.length)).toNat).map fun i => D.int (i : Nat))) hs := by
  have e : kLRg1 false (.int (max 1 (min lim ns.length))) hs = .ok (.fl ((List.range (max 1 (min lim ns.length)).toNat).map fun i => D.int (i : Nat))) hs := lrg1_v (by omega) (by omega)
  simp [f__law_cells, b__law_cells]
  rw [e]
  simp
/-- in lowest terms -/
def redF (a b : Int) : Fr := (a / (Int.gcd a b : Nat), b / (Int.gcd a b : Nat))
theorem fraction_v {a b : Int} (h : 0 < b) (hb : b.natAbs < 2 ^ 8000) : f__law_fraction [.int a, .int b] hs = .ok (frD (redF a b)) hs := by
  have g0 : 0 < Int.gcd a b := Int.gcd_pos_of_ne_zero_right _ (by omega)
  have g1 : Int.gcd a b ≤ b.natAbs := Nat.le_of_dvd (by omega) (by rw [Int.gcd_eq_natAbs_gcd_natAbs]; exact Nat.gcd_dvd_right _ _)
  have e := common_v (hs := hs) (a := a) (b := b) (Nat.lt_of_lt_of_le hb (fuel_le (by decide)))
  have lg : ((Int.gcd a b : Nat) : Int).natAbs.log2 < 9000 := by
    rw [Int.natAbs_natCast]
    exact Nat.lt_of_lt_of_le (log2_lt (Nat.lt_of_le_of_lt g1 hb) (by decide)) (by decide)
  have e1 : kDiv (.int a) (.int (Int.gcd a b : Nat)) hs = .ok (.int (a / (Int.gcd a b : Nat))) hs := kDiv_v (by clear hb; omega) lg
  have e2 : kDiv (.int b) (.int (Int.gcd a b : Nat)) hs = .ok (.int (b / (Int.gcd a b : Nat))) hs := kDiv_v (by clear hb; omega) lg
  simp [f__law_fraction, b__law_fraction, e, h, e1, e2, frD, redF]
theorem redF_ok {a b : Int} (h : 0 < b) : okFr (redF a b) = true := by
  have g0 : 0 < Int.gcd a b := Int.gcd_pos_of_ne_zero_right _ (by omega)
  have g2 : ((Int.gcd a b : Nat) : Int) ∣ b := Int.gcd_dvd_right _ _
  have h1 := Int.gcd_ediv_gcd_ediv_gcd_of_ne_zero_right (n := a) (m := b) (by omega)
  have h2 : 1 ≤ b / (Int.gcd a b : Nat) := by
    have := Int.le_ediv_of_mul_le (c := ((Int.gcd a b : Nat) : Int)) (a := 1) (b := b) (by omega) (by rw [Int.one_mul]; exact Int.le_of_dvd h g2)
    exact this
  unfold okFr redF
  rw [Bool.and_eq_true]
  exact ⟨decide_eq_true h2, decide_eq_true h1⟩
theorem ediv_le {a g : Int} (h : 0 < g) (d : g ∣ a) : (a / g).natAbs ≤ a.natAbs := by
  rw [Int.natAbs_ediv_of_dvd d]
  exact Nat.div_le_self _ _
theorem redF_le {a b : Int} (h : 0 < b) : (redF a b).1.natAbs ≤ a.natAbs ∧ (redF a b).2.natAbs ≤ b.natAbs := by
  have g0 : 0 < Int.gcd a b := Int.gcd_pos_of_ne_zero_right _ (by omega)
  exact ⟨ediv_le (by omega) (Int.gcd_dvd_left _ _), ediv_le (by omega) (Int.gcd_dvd_right _ _)⟩
theorem redF_0 {a b : Int} (h : 0 < b) : (redF a b).1 = 0 ↔ a = 0 := by
  have g0 : 0 < Int.gcd a b := Int.gcd_pos_of_ne_zero_right _ (by omega)
  unfold redF
  constructor
  · intro z
    have := Int.ediv_mul_cancel (Int.gcd_dvd_left a b)
    rw [show a / (Int.gcd a b : Nat) = 0 from z] at this
    omega
  · rintro rfl
    exact Int.zero_ediv _
def mulF (p q : Fr) : Fr := redF (p.1 * q.1) (p.2 * q.2)
theorem product_v {p q : Fr} {i : Nat} (h1 : 0 < p.2) (h2 : 0 < q.2) (b1 : p.1.natAbs < 2 ^ i) (b2 : p.2.natAbs < 2 ^ i) (b3 : q.1.natAbs < 2 ^ i) (b4 : q.2.natAbs < 2 ^ i) (hi : 0 < i) (hi2 : i ≤ 4000) : f__law_product [frD p, frD q] hs = .ok (frD (mulF p q)) hs := by
  have e1 : kMul (.int p.1) (.int q.1) hs = .ok (.int (p.1 * q.1)) hs := kMul_v (mulOk_of b1 b3 hi hi (by omega))
  have e2 : kMul (.int p.2) (.int q.2) hs = .ok (.int (p.2 * q.2)) hs := kMul_v (mulOk_of b2 b4 hi hi (by omega))
  have e3 := fraction_v (hs := hs) (a := p.1 * q.1) (b := p.2 * q.2) (Int.mul_pos h1 h2) (Nat.lt_of_lt_of_le (mul_lt_pow b2 b4) (Nat.pow_le_pow_right (by decide) (by omega)))
  simp [f__law_product, b__law_product, e1, e2, e3, mulF]
/-- a drawn fraction -/
theorem drawn_fraction_w {tk : Fn} (ht : TakeOk tk) {most : Int} (p : PotAt r n hs) (h0 : 0 ≤ most) (h1 : most ≤ 1000) (hn : n + 1 < 2 ^ 64) : W (f__law_drawn_fraction tk [.ref r, .int most] hs) fun d hs' => ∃ q : Fr, d = frD q ∧ okFr q = true ∧ q.1.natAbs ≤ 1000 ∧ q.2.natAbs ≤ 3 ∧ Drawn r (n + 2) hs hs' := by
  have m0 : kMul (.int 2) (.int most) hs = .ok (.int (2 * most)) hs := kMul_v (mulOk_of (i := 2) (j := 10) (by decide) (by omega) (by decide) (by decide) (by decide))
  obtain ⟨v, hs1, e, z, rfl, h2, h3, dr⟩ := (ht.w (u := 2 * most + 1) p (by omega) (by
    have : (3000 : Nat) < 2 ^ 8000 := by decide +kernel
    exact Nat.lt_of_le_of_lt (by omega) this) (by omega)).ex
  obtain ⟨d, hs2, e2, hm, dr2⟩ := (of_w ht (ds := [.int 1, .int 1, .int 1, .int 2, .int 3]) dr.pot (by decide) (by decide) hn).ex
  obtain ⟨b, rfl, b1, b2⟩ : ∃ b : Int, d = .int b ∧ 0 < b ∧ b ≤ 3 := by
    simp only [List.mem_cons, List.not_mem_nil, or_false] at hm
    rcases hm with rfl | rfl | rfl | rfl | rfl
    · exact ⟨1, rfl, by decide, by decide⟩
    · exact ⟨1, rfl, by decide, by decide⟩
    · exact ⟨1, rfl, by decide, by decide⟩
    · exact ⟨2, rfl, by decide, by decide⟩
    · exact ⟨3, rfl, by decide, by decide⟩
  have e3 := fraction_v (hs := hs2) (a := z - most) (b := b) b1 (by
    have : (3 : Nat) < 2 ^ 8000 := by decide +kernel
    exact Nat.lt_of_le_of_lt (by omega) this)
  have e4 : kLst false [.int 1, .int 1, .int 1, .int 2, .int 3] hs1 = newL false [.int 1, .int 1, .int 1, .int 2, .int 3] hs1 := kLst_v (by decide)
  have le := redF_le (a := z - most) b1
  have dd : Drawn r (n + 2) hs hs2 := dr.trans dr2
  refine W.of (a := frD (redF (z - most) b)) (hs := hs2) ?_ ⟨_, rfl, redF_ok b1, by omega, by omega, dd⟩
  simp [f__law_drawn_fraction, b__law_drawn_fraction, m0, e, e4, e2, e3]
  exact leave_d dd
/-! ### rows as dicts: what stands at which moment -/
abbrev Own := List (Int × Fr)
def kvs (o : Own) : List (Key × D) := o.map fun p => (Sum.inl p.1, frD p.2)
def ownD (o : Own) : D := .fd (kvs o)
def pairD (p : Int × Fr) : D := .tup [.int p.1, frD p.2]
theorem items_own {o : Own} : ((kvs o).map fun kv => D.tup [unkey kv.1, kv.2]) = o.map pairD := by
  unfold kvs
  rw [List.map_map]
  rfl
theorem asPairs_own : ∀ o : Own, asPairs (o.map pairD) = some (kvs o)
  | [] => rfl
  | p :: o => by
    rw [List.map_cons]
    unfold pairD asPairs
    have := asPairs_own o
    unfold pairD at this
    rw [this]
    rfl
def keysOf (o : Own) : List Int := o.map (·.1)
theorem putD_new {l : List (Key × D)} {k : Key} {d : D} (h : ∀ p ∈ l, p.1 ≠ k) : putD l k d = l ++ [(k, d)] := by
  unfold putD
  have : (l.any fun kv => decide (kv.1 = k)) = false := by
    rw [List.any_eq_false]
    intro p hp
    simp [h p hp]
  simp [this]
theorem merge_own : ∀ (o acc : Own), (keysOf (acc ++ o)).Nodup → mergeD (kvs acc) (kvs o) = kvs (acc ++ o)
  | [], acc, _ => by simp [kvs, mergeD]
  | p :: o, acc, h => by
    have e : putD (kvs acc) (Sum.inl p.1) (frD p.2) = kvs (acc ++ [p]) := by
      rw [putD_new]
      · simp [kvs]
      · intro q hq z
        obtain ⟨a, ha, rfl⟩ := List.mem_map.mp hq
        have z' : a.1 = p.1 := Sum.inl.inj z
        unfold keysOf at h
        rw [List.map_append, List.nodup_append] at h
        exact h.2.2 a.1 (List.mem_map.mpr ⟨a, ha, rfl⟩) p.1 (by simp) z'
    have ih := merge_own o (acc ++ [p]) (by rw [List.append_assoc]; exact h)
    rw [List.append_assoc] at ih
    have : mergeD (kvs acc) (kvs (p :: o)) = mergeD (putD (kvs acc) (Sum.inl p.1) (frD p.2)) (kvs o) := by simp [mergeD, kvs]
    rw [this, e, ih]
    rfl
theorem dict_own {o : Own} (h : (keysOf o).Nodup) : kDict false (.fl (o.map pairD)) hs = .ok (ownD o) hs := by
  unfold kDict
  rw [show dctOf hs (.fl (o.map pairD)) = none from rfl]
  dsimp only
  rw [show lstOf hs (.fl (o.map pairD)) = some (o.map pairD) from rfl, Option.bind_some, asPairs_own]
  dsimp only
  have := merge_own o [] h
  rw [show kvs [] = [] from rfl] at this
  rw [this]
  rfl
def getF (o : Own) (m : Int) : Fr := ((o.find? fun p => decide (p.1 = m)).map (·.2)).getD (0, 1)
theorem valD_own {o : Own} {m : Int} : valD (kvs o) (Sum.inl m) = ((o.find? fun p => decide (p.1 = m)).map (·.2)).map frD := by
  unfold valD kvs
  rw [List.find?_map, Option.map_map, Option.map_map]
  congr 1
  congr 1
  funext p
  simp
theorem get_own {o : Own} {m : Int} : kGet2 (ownD o) (.int m) (.tup [.int 0, .int 1]) hs = .ok (frD (getF o m)) hs := by
  unfold ownD
  rw [kGet2_v (key := Sum.inl m) rfl, valD_own, frD_nought]
  unfold getF
  cases (o.find? fun p => decide (p.1 = m)).map (·.2) <;> rfl
@[simp] theorem dctOf_own {o : Own} : dctOf hs (ownD o) = some (kvs o) := rfl
theorem bind_pair {p : Int × Fr} {σ : Sl} {i j : Nat} : bindT (.tp [.nm i, .nm j]) (pairD p) σ = some ((σ.set i (some (.int p.1))).set j (some (frD p.2))) := rfl
theorem kItems_own {o : Own} : kItems false (ownD o) hs = .ok (.fl (o.map pairD)) hs := by
  unfold ownD
  rw [kItems_v, items_own]
  rfl
def clearF (o : Own) : Own := o.filter fun p => !decide (p.2.1 = 0)
theorem clear_nodup {o : Own} (h : (keysOf o).Nodup) : (keysOf (clearF o)).Nodup := h.sublist (List.Sublist.map _ List.filter_sublist)
theorem cleared_v {o : Own} (h : (keysOf o).Nodup) (hl : o.length < 16777216) : f__law_cleared [ownD o] hs = .ok (ownD (clearF o)) hs := by
  have e : cComp false [1, 2] (.tp [.nm 1, .nm 2]) (iSeq (c1 (kItems false) (cV 0))) (c2 kNe (c2 kItem (cV 2) (cK (.int 0))) (cK (.int 0))) (.lst []) (pLst (cF kTup (cCons (cV 1) (cCons (cV 2) cNil)))) [some (ownD o), none, none] hs = .ok (.fl ((clearF o).map pairD)) hs :=
    comp_pure (b := false) pairD (fun p => !decide (p.2.1 = 0)) pairD o (iSeq_l (by simp [kItems_own])) (fun p hp => ⟨⟨_, bind_pair, by simp, fun _ => by simp [pairD]⟩⟩) hl
  simp [f__law_cleared, b__law_cleared, e, dict_own (clear_nodup h)]
def scaleF (o : Own) (q : Fr) : Own := clearF (o.map fun p => (p.1, mulF p.2 q))
theorem row_scaled_v {o : Own} {q : Fr} {i : Nat} (h : (keysOf o).Nodup) (hl : o.length < 16777216) (h2 : 0 < q.2) (hb : ∀ p ∈ o, 0 < p.2.2 ∧ p.2.1.natAbs < 2 ^ i ∧ p.2.2.natAbs < 2 ^ i) (b3 : q.1.natAbs < 2 ^ i) (b4 : q.2.natAbs < 2 ^ i) (hi : 0 < i) (hi2 : i ≤ 4000) :
    f__law_row_scaled [ownD o, frD q] hs = .ok (ownD (scaleF o q)) hs := by
  have kk : keysOf (o.map fun p => (p.1, mulF p.2 q)) = keysOf o := by
    unfold keysOf
    rw [List.map_map]
    rfl
  have e : cComp false [2, 3] (.tp [.nm 2, .nm 3]) (iSeq (c1 (kItems false) (cV 0))) cYes (.lst []) (pLst (cF kTup (cCons (cV 2) (cCons (cF f__law_product (cCons (cV 3) (cCons (cV 1) cNil))) cNil)))) [some (ownD o), some (frD q), none, none] hs = .ok (.fl ((o.map fun p => (p.1, mulF p.2 q)).map pairD)) hs := by
    rw [List.map_map]
    exact comp_all (b := false) pairD (pairD ∘ fun p => (p.1, mulF p.2 q)) o (iSeq_l (by simp [kItems_own])) (fun p hp => ⟨_, bind_pair, by
      obtain ⟨p1, p2, p3⟩ := hb p hp
      simp [product_v p1 h2 p2 p3 b3 b4 hi hi2, pairD]⟩) hl
  have d := dict_own (hs := hs) (o := o.map fun p => (p.1, mulF p.2 q)) (by rw [kk]; exact h)
  have c := cleared_v (hs := hs) (o := o.map fun p => (p.1, mulF p.2 q)) (by rw [kk]; exact h) (by rw [List.length_map]; exact hl)
  unfold scaleF
  generalize D.fl ((o.map fun p => (p.1, mulF p.2 q)).map pairD) = L at e d
  simp [f__law_row_scaled, b__law_row_scaled, e, d, c]
/-! ### a told row -/
def toldRow (o : Own) : Int × List Fr := match o with
  | [] => (0, [])
  | _ => (minI (keysOf o), (List.range (maxI (keysOf o) + 1 - minI (keysOf o)).toNat).map fun i => getF o (minI (keysOf o) + (i : Nat)))
theorem minI_ok' : ∀ {ns : List Int}, ns ≠ [] → minI ns ∈ ns ∧ ∀ y ∈ ns, minI ns ≤ y := fun h => minI_ok h
theorem intsOf_keys {o : Own} : intsOf hs (.fl (o.map fun p => D.int p.1)) = some (keysOf o) := by
  unfold intsOf
  rw [show lstOf hs (.fl (o.map fun p => D.int p.1)) = some (o.map fun p => D.int p.1) from rfl, Option.bind_some, show (o.map fun p => D.int p.1) = (keysOf o).map D.int by unfold keysOf; rw [List.map_map]; rfl, asInts_map]
theorem told_row_v {o : Own} (hk : ∀ p ∈ o, -(2 ^ 20) ≤ p.1 ∧ p.1 < 2 ^ 20) : f__law_told_row [ownD o] hs = .ok (rowD (toldRow o).1 (toldRow o).2) hs := by
  cases ho : o with
  | nil =>
    have e : kEq (ownD []) (.fd []) hs = .ok (.bl true) hs := rfl
    simp [f__law_told_row, b__law_told_row, e]
    rfl
  | cons p r =>
    rw [← ho]
    have ne : keysOf o ≠ [] := by rw [ho]; simp [keysOf]
    obtain ⟨mi, ml⟩ := minI_ok ne
    obtain ⟨xi, xl⟩ := maxI_ok ne
    have bd : ∀ k ∈ keysOf o, -(2 ^ 20) ≤ k ∧ k < 2 ^ 20 := fun k hk' => by
      obtain ⟨a, ha, rfl⟩ := List.mem_map.mp hk'
      exact hk a ha
    have b1 := bd _ mi
    have b2 := bd _ xi
    have e0 : kEq (ownD o) (.fd []) hs = .ok (.bl false) hs := by rw [ho]; rfl
    have el : kList false (ownD o) hs = .ok (.fl (o.map fun p => D.int p.1)) hs := by
      unfold kList
      rw [show seqOf hs (ownD o) = none from rfl]
      dsimp only
      rw [dctOf_own]
      dsimp only
      unfold kvs
      rw [List.map_map]
      rfl
    have emin : kMin (.fl (o.map fun p => D.int p.1)) hs = .ok (.int (minI (keysOf o))) hs := by
      unfold kMin
      rw [intsOf_keys]
      cases hq : keysOf o with
      | nil => exact absurd hq ne
      | cons a b => rfl
    have emax : kMax (.fl (o.map fun p => D.int p.1)) hs = .ok (.int (maxI (keysOf o))) hs := by
      unfold kMax
      rw [intsOf_keys]
      cases hq : keysOf o with
      | nil => exact absurd hq ne
      | cons a b => rfl
    have et : toldRow o = (minI (keysOf o), (List.range (maxI (keysOf o) + 1 - minI (keysOf o)).toNat).map fun i => getF o (minI (keysOf o) + (i : Nat))) := by rw [ho]; rfl
    rw [et]
    generalize minI (keysOf o) = lo at *
    generalize maxI (keysOf o) = hi at *
    have ec : cComp false [3] (.nm 3) (iArgs kRng2 (cCons (cV 1) (cCons (c2 kAdd (cV 2) (cK (.int 1))) cNil))) cYes (.lst []) (pLst (cGet2 (cV 0) (cV 3) (cF kTup (cCons (cK (.int 0)) (cCons (cK (.int 1)) cNil))))) [some (ownD o), some (.int lo), some (.int hi), none] hs = .ok (.fl (((List.range (hi + 1 - lo).toNat).map fun i => getF o (lo + (i : Nat))).map frD)) hs := by
      rw [List.map_map]
      exact comp_all (b := false) (fun i : Nat => D.int (lo + (i : Nat))) (fun i => frD (getF o (lo + (i : Nat)))) (List.range (hi + 1 - lo).toNat) (rng2_v (by simp) (by omega) (by omega) (by omega) (by omega)) (fun i _ => ⟨_, rfl, by simp [get_own]⟩) (by rw [List.length_range]; omega)
    unfold rowD
    generalize ((List.range (hi + 1 - lo).toNat).map fun i => getF o (lo + (i : Nat))).map frD = L at *
    simp [f__law_told_row, b__law_told_row, e0, el, emin, emax, ec]
/-- the told row tells what stands at a moment -/
theorem told_at {o : Own} (m : Int) : worthAt (toldRow o).1 (toldRow o).2 m = getF o m := by
  cases ho : o with
  | nil => simp [toldRow, worthAt, getF]
  | cons p r =>
    rw [← ho]
    have ne : keysOf o ≠ [] := by rw [ho]; simp [keysOf]
    obtain ⟨mi, ml⟩ := minI_ok ne
    obtain ⟨xi, xl⟩ := maxI_ok ne
    have et : toldRow o = (minI (keysOf o), (List.range (maxI (keysOf o) + 1 - minI (keysOf o)).toNat).map fun i => getF o (minI (keysOf o) + (i : Nat))) := by rw [ho]; rfl
    rw [et]
    have xm := ml _ xi
    generalize minI (keysOf o) = lo at *
    generalize maxI (keysOf o) = hi at *
    unfold worthAt
    simp only [List.length_map, List.length_range]
    split
    · rename_i h
      have h3 : (m - lo).toNat < (hi + 1 - lo).toNat := by omega
      rw [List.getD_eq_getElem?_getD, List.getElem?_map, List.getElem?_range h3]
      simp
      rw [show lo + max (m - lo) 0 = m by omega]
    · rename_i h
      unfold getF
      rw [List.find?_eq_none.mpr fun q hq => ?_]
      · rfl
      · have h1 := ml q.1 (List.mem_map.mpr ⟨q, hq, rfl⟩)
        have h2 := xl q.1 (List.mem_map.mpr ⟨q, hq, rfl⟩)
        simp only [decide_eq_true_eq]
        omega
end
end PL.C

set_option Elab.async false
set_option linter.all false
set_option maxRecDepth 100000
set_option maxHeartbeats 4000000
set_option autoImplicit false
set_option exponentiation.threshold 20000
namespace PL.C
open PySem PySem.Spec PyProof.Rows L2
section
variable {hs : List Ob} {r n : Nat}
/-- a row as a dict: what may stand in it, numbers below 2 ^ i -/
structure Nice (i : Nat) (o : Own) : Prop where
  nd : (keysOf o).Nodup
  key : ∀ p ∈ o, -(2 ^ 20) ≤ p.1 ∧ p.1 < 2 ^ 20
  len : o.length ≤ 1000
  val : ∀ p ∈ o, okFr p.2 = true ∧ p.2.1 ≠ 0 ∧ p.2.1.natAbs < 2 ^ i ∧ p.2.2.natAbs < 2 ^ i
theorem Nice.getF {i : Nat} {o : Own} (h : Nice i o) (hi : 0 < i) (m : Int) : okFr (getF o m) = true ∧ (getF o m).1.natAbs < 2 ^ i ∧ (getF o m).2.natAbs < 2 ^ i := by
  have ic : 2 ^ i ≥ 2 := by
    have := Nat.pow_le_pow_right (by decide : 0 < 2) (show 1 ≤ i by omega)
    omega
  unfold C.getF
  cases e : o.find? fun p => decide (p.1 = m) with
  | none => exact ⟨by decide, by show 0 < 2 ^ i; omega, by show 1 < 2 ^ i; omega⟩
  | some p =>
    have hp := List.mem_of_find?_eq_some e
    obtain ⟨a, b, c, d⟩ := h.val p hp
    exact ⟨a, c, d⟩
theorem Nice.getF_key {i : Nat} {o : Own} (h : Nice i o) {m : Int} (hm : m ∈ keysOf o) : (C.getF o m).1 ≠ 0 := by
  obtain ⟨p, hp, rfl⟩ := List.mem_map.mp hm
  unfold C.getF
  cases e : o.find? fun q => decide (q.1 = p.1) with
  | none =>
    have := List.find?_eq_none.mp e p hp
    simp at this
  | some q => exact (h.val q (List.mem_of_find?_eq_some e)).2.1
theorem okFr_pos {q : Fr} (h : okFr q = true) : 0 < q.2 := by
  unfold okFr at h
  rw [Bool.and_eq_true] at h
  have := of_decide_eq_true h.1
  omega
theorem told_ok {i : Nat} {o : Own} (h : Nice i o) (hi : 0 < i) : okRow (toldRow o).1 (toldRow o).2 = true := by
  cases ho : o with
  | nil => rfl
  | cons p r =>
    rw [← ho]
    have ne : keysOf o ≠ [] := by rw [ho]; simp [keysOf]
    obtain ⟨mi, ml⟩ := minI_ok ne
    obtain ⟨xi, xl⟩ := maxI_ok ne
    have et : toldRow o = (minI (keysOf o), (List.range (maxI (keysOf o) + 1 - minI (keysOf o)).toNat).map fun i => C.getF o (minI (keysOf o) + (i : Nat))) := by rw [ho]; rfl
    rw [et]
    have xm := ml _ xi
    generalize minI (keysOf o) = lo at *
    generalize maxI (keysOf o) = hh at *
    obtain ⟨k, hk⟩ : ∃ k : Nat, hh = lo + (k : Int) := ⟨(hh - lo).toNat, by omega⟩
    subst hk
    rw [show (lo + (k : Int) + 1 - lo).toNat = k + 1 by omega]
    unfold okRow
    have n1 : ¬ ((List.range (k + 1)).map fun i => C.getF o (lo + (i : Nat))).isEmpty = true := by simp
    dsimp only
    rw [if_neg n1, Bool.and_eq_true, Bool.and_eq_true]
    refine ⟨?_, ?_, ?_⟩
    · rw [List.all_eq_true]
      intro q hq
      obtain ⟨j, _, rfl⟩ := List.mem_map.mp hq
      exact (h.getF hi _).1
    · rw [List.range_succ_eq_map]
      simp only [List.map_cons, List.head?_cons]
      have := h.getF_key mi
      simp only [Bool.not_eq_true', decide_eq_false_iff_not, Option.some.injEq]
      intro z
      rw [show lo + ((0 : Nat) : Int) = lo by omega] at z
      rw [z] at this
      exact this rfl
    · rw [List.range_succ, List.map_append, List.map_singleton, List.getLast?_concat]
      have := h.getF_key xi
      simp only [Bool.not_eq_true', decide_eq_false_iff_not, Option.some.injEq]
      intro z
      rw [z] at this
      exact this rfl
theorem told_len {o : Own} (hk : ∀ p ∈ o, -(2 ^ 20) ≤ p.1 ∧ p.1 < 2 ^ 20) : (toldRow o).2.length < 16777216 := by
  cases ho : o with
  | nil => decide
  | cons p r =>
    rw [← ho]
    have ne : keysOf o ≠ [] := by rw [ho]; simp [keysOf]
    obtain ⟨mi, ml⟩ := minI_ok ne
    obtain ⟨xi, xl⟩ := maxI_ok ne
    have bd : ∀ k ∈ keysOf o, -(2 ^ 20) ≤ k ∧ k < 2 ^ 20 := fun k hk' => by
      obtain ⟨a, ha, rfl⟩ := List.mem_map.mp hk'
      exact hk a ha
    have b1 := bd _ mi
    have b2 := bd _ xi
    have et : toldRow o = (minI (keysOf o), (List.range (maxI (keysOf o) + 1 - minI (keysOf o)).toNat).map fun i => C.getF o (minI (keysOf o) + (i : Nat))) := by rw [ho]; rfl
    rw [et]
    simp only [List.length_map, List.length_range]
    omega
theorem told_val {i : Nat} {o : Own} (h : Nice i o) (hi : 0 < i) : ∀ q ∈ (toldRow o).2, 0 < q.2 ∧ q.1.natAbs < 2 ^ i ∧ q.2.natAbs < 2 ^ i := by
  cases ho : o with
  | nil => intro q hq; cases hq
  | cons p r =>
    rw [← ho]
    have et : toldRow o = (minI (keysOf o), (List.range (maxI (keysOf o) + 1 - minI (keysOf o)).toNat).map fun i => C.getF o (minI (keysOf o) + (i : Nat))) := by rw [ho]; rfl
    rw [et]
    intro q hq
    obtain ⟨j, _, rfl⟩ := List.mem_map.mp hq
    obtain ⟨a, b, c⟩ := h.getF hi (minI (keysOf o) + (j : Nat))
    exact ⟨okFr_pos a, b, c⟩
/-- what is left when the noughts go -/
theorem Nice.of {i : Nat} {o : Own} (nd : (keysOf o).Nodup) (key : ∀ p ∈ o, -(2 ^ 20) ≤ p.1 ∧ p.1 < 2 ^ 20) (len : o.length ≤ 1000) (val : ∀ p ∈ o, okFr p.2 = true ∧ p.2.1.natAbs < 2 ^ i ∧ p.2.2.natAbs < 2 ^ i) : Nice i (clearF o) :=
  ⟨clear_nodup nd, fun p hp => key p ((List.mem_filter.mp hp).1), Nat.le_trans (List.length_filter_le _ _) len, fun p hp => by
    obtain ⟨a, b, c⟩ := val p ((List.mem_filter.mp hp).1)
    have z := (List.mem_filter.mp hp).2
    simp only [Bool.not_eq_true', decide_eq_false_iff_not] at z
    exact ⟨a, z, b, c⟩⟩
/-- pairs drawn one by one, for moments in a row -/
theorem each_own {first : Int} {k : Nat} {P : Fr → Prop} {ys : List D} (e : Each (fun (i : Nat) d => ∃ q : Fr, d = pairD (first + (i : Nat), q) ∧ P q) (List.range k) ys) :
    ∃ o : Own, ys = o.map pairD ∧ keysOf o = (List.range k).map (fun i => first + (i : Nat)) ∧ ∀ p ∈ o, P p.2 := by
  have gen : ∀ (xs : List Nat) (ys : List D), Each (fun (i : Nat) d => ∃ q : Fr, d = pairD (first + (i : Nat), q) ∧ P q) xs ys → ∃ o : Own, ys = o.map pairD ∧ keysOf o = xs.map (fun i => first + (i : Nat)) ∧ ∀ p ∈ o, P p.2 := by
    intro xs
    induction xs with
    | nil =>
      intro ys e
      have := e.len
      cases ys with
      | nil => exact ⟨[], rfl, rfl, fun p hp => by cases hp⟩
      | cons a b => simp at this
    | cons x xs ih =>
      intro ys e
      have := e.len
      cases ys with
      | nil => simp at this
      | cons y ys =>
        obtain ⟨q, rfl, pq⟩ := e.all 0 x y rfl rfl
        obtain ⟨o, h1, h2, h3⟩ := ih ys ⟨by simpa using this, fun i a b ha hb => e.all (i + 1) a b (by simpa using ha) (by simpa using hb)⟩
        refine ⟨(first + (x : Nat), q) :: o, by rw [h1]; rfl, by rw [List.map_cons, ← h2]; rfl, fun p hp => ?_⟩
        rcases List.mem_cons.mp hp with rfl | hp
        · exact pq
        · exact h3 p hp
  exact gen _ _ e
theorem range_nodup {first : Int} (k : Nat) : ((List.range k).map fun i : Nat => first + (i : Int)).Nodup := by
  have h := List.nodup_range (n := k)
  rw [List.Nodup, List.pairwise_map]
  exact h.imp fun {a b} hab z => hab (by omega)
theorem small_8000 {k : Nat} (h : k ≤ 100000) : k < 2 ^ 8000 := by
  exact Nat.lt_of_le_of_lt h (Nat.lt_of_lt_of_le (show (100000 : Nat) < 2 ^ 17 by decide) (Nat.pow_le_pow_right (by decide) (by decide)))
end
end PL.C

set_option Elab.async false
set_option linter.all false
set_option maxRecDepth 100000
set_option maxHeartbeats 4000000
set_option autoImplicit false
set_option exponentiation.threshold 20000
namespace PL.C
open PySem PySem.Spec PyProof.Rows L2
section
variable {hs : List Ob} {r n : Nat}
theorem rng1_w {a : CA} {σ : Sl} {hs hs2 : List Ob} {k : Nat} (h : a σ hs = .ok [.int (k : Int)] hs2) (h2 : k ≤ 1000000) : iArgs kRng1 a σ hs = .ok (.seq ((List.range k).map fun i : Nat => D.int (i : Int))) hs2 := by
  unfold iArgs
  rw [h, bind_ok]
  unfold kRng1
  have c : -(2 ^ 62) ≤ (k : Int) ∧ (k : Int) < 2 ^ 62 := ⟨by omega, by omega⟩
  dsimp only
  rw [if_pos c]
  simp
/-- the pairs of a drawn row -/
theorem row_pairs_w {tk : Fn} (ht : TakeOk tk) {hs1 : List Ob} {most z : Int} {n0 : Nat} (p : PotAt r n hs1) (h0 : 0 ≤ most) (h1 : most ≤ 100) (hn : n < 2 ^ 60) (s3 : Option D) :
    W (cComp false [3] (.nm 3) (iArgs kRng1 (cCons (cF tk (cCons (cV 0) (cCons (c2 kAdd (cV 1) (cK (.int 1))) cNil))) cNil)) cYes (.lst []) (pLst (cF kTup (cCons (c2 kAdd (cV 2) (cV 3)) (cCons (cF (f__law_drawn_fraction tk) (cCons (cV 0) (cCons (cK (.int 3)) cNil))) cNil)))) [some (.ref r), some (.int most), some (.int z), none] hs1) fun d hs' =>
      ∃ (k : Nat) (ys : List D), d = .fl ys ∧ (k : Int) ≤ most ∧ Each (fun (i : Nat) d => ∃ q : Fr, d = pairD (z + (i : Nat), q) ∧ okFr q = true ∧ q.1.natAbs < 2 ^ 10 ∧ q.2.natAbs < 2 ^ 10) (List.range k) ys ∧ Drawn r (n + 250) hs1 hs' := by
  have hu : (most + 1).natAbs < 2 ^ 8000 := small_8000 (by omega)
  obtain ⟨v2, hs2, e2, k', rfl, k0, k1, dr2⟩ := (ht.w (u := most + 1) p (by omega) hu (by omega)).ex
  clear hu
  obtain ⟨k, rfl⟩ : ∃ k : Nat, k' = (k : Int) := ⟨k'.toNat, by omega⟩
  have src : iArgs kRng1 (cCons (cF tk (cCons (cV 0) (cCons (c2 kAdd (cV 1) (cK (.int 1))) cNil))) cNil) [some (.ref r), some (.int most), some (.int z), none] hs1 = .ok (.seq ((List.range k).map fun i : Nat => D.int (i : Int))) hs2 := by
    exact rng1_w (by simp [e2]) (by omega)
  have turn : ∀ (i : Nat) (x : Nat) (hs3 : List Ob), (List.range k)[i]? = some x → Drawn r (n + 1 + 2 * i) hs1 hs3 → ∃ σ', bindT (.nm 3) (D.int (x : Int)) (wipeS [some (.ref r), some (.int most), some (.int z), none] [3]) = some σ' ∧
      W (cF kTup (cCons (c2 kAdd (cV 2) (cV 3)) (cCons (cF (f__law_drawn_fraction tk) (cCons (cV 0) (cCons (cK (.int 3)) cNil))) cNil)) σ' hs3) fun d hs' => (∃ q : Fr, d = pairD (z + (x : Nat), q) ∧ okFr q = true ∧ q.1.natAbs < 2 ^ 10 ∧ q.2.natAbs < 2 ^ 10) ∧ Drawn r (n + 1 + 2 * (i + 1)) hs1 hs' := by
    intro i x hs3 hx hi
    have hx2 := (List.getElem?_eq_some_iff.mp hx).1
    rw [List.length_range] at hx2
    obtain ⟨d, hs4, e4, q, rfl, q1, q2, q3, dr4⟩ := (drawn_fraction_w ht (most := 3) hi.pot (by decide) (by decide) (by omega)).ex
    refine ⟨[some (.ref r), some (.int most), some (.int z), some (.int (x : Int))], rfl, W.of (a := pairD (z + (x : Nat), q)) (hs := hs4) (by simp [e4, pairD]) ⟨⟨q, rfl, q1, by omega, by omega⟩, (hi.trans dr4).mono (by omega)⟩⟩
  have w := comp_w (b := false) (σ := [some (.ref r), some (.int most), some (.int z), none]) (vs := [3]) (t := .nm 3) (fun i : Nat => D.int (i : Int)) (fun (i : Nat) d => ∃ q : Fr, d = pairD (z + (i : Nat), q) ∧ okFr q = true ∧ q.1.natAbs < 2 ^ 10 ∧ q.2.natAbs < 2 ^ 10)
    (fun i hs' => Drawn r (n + 1 + 2 * i) hs1 hs') (List.range k) src dr2 turn (by rw [List.length_range]; omega)
  refine w.mono fun d hs3 ⟨ys, hs4, en, ea, di⟩ => ?_
  rw [newL_f] at en
  cases en
  rw [List.length_range] at di
  exact ⟨k, ys, rfl, by omega, ea, di.mono (by omega)⟩
theorem drawn_row_w {tk : Fn} (ht : TakeOk tk) {most : Int} (p : PotAt r n hs) (h0 : 0 ≤ most) (h1 : most ≤ 100) (hn : n < 2 ^ 59) : W (f__law_drawn_row tk [.ref r, .int most] hs) fun d hs' => ∃ o : Own, d = ownD o ∧ Nice 10 o ∧ Drawn r (n + 300) hs hs' := by
  obtain ⟨v, hs1, e, z, rfl, z0, z1, dr⟩ := (ht.w (u := 7) p (by decide) (small_8000 (by decide)) (by omega)).ex
  obtain ⟨d, hs3, e3, k, ys, rfl, hk, ea, di⟩ := (row_pairs_w ht (n0 := 0) (most := most) (z := z - 3) dr.pot h0 h1 (by omega) none).ex
  obtain ⟨o, rfl, ko, vo⟩ := each_own (P := fun q => okFr q = true ∧ q.1.natAbs < 2 ^ 10 ∧ q.2.natAbs < 2 ^ 10) ea
  have nd : (keysOf o).Nodup := by rw [ko]; exact range_nodup k
  have lo : o.length = k := by
    have := congrArg List.length ko
    simpa [keysOf] using this
  have kb : ∀ p ∈ o, -(2 ^ 20) ≤ p.1 ∧ p.1 < 2 ^ 20 := fun p hp => by
    have : p.1 ∈ keysOf o := List.mem_map.mpr ⟨p, hp, rfl⟩
    rw [ko] at this
    obtain ⟨j, hj, e⟩ := List.mem_map.mp this
    rw [List.mem_range] at hj
    omega
  have nice : Nice 10 (clearF o) := Nice.of nd kb (by omega) vo
  have dict := dict_own (hs := hs3) nd
  have clr := cleared_v (hs := hs3) nd (by omega)
  have fin : Drawn r (n + 300) hs hs3 := (dr.trans di).mono (by omega)
  generalize D.fl (o.map pairD) = L at *
  refine W.of (a := ownD (clearF o)) (hs := hs3) ?_ ⟨_, rfl, nice, fin⟩
  simp [f__law_drawn_row, b__law_drawn_row, e]
  rw [e3]
  simp [dict, clr]
  exact leave_d fin
/-! ### bars, counted -/
theorem bar_loop (t b s1 s2 : Int) (w s : D) (h1 : kItem s (.int 0) hs = .ok (.int s1) hs) (h2 : kItem s (.int 1) hs = .ok (.int s2) hs) (p1 : 0 < s1) (pb : 0 < b) (p2 : 0 ≤ t * s2) (m1 : ∀ k : Int, 0 ≤ k → k ≤ 50 → mulOk (k + 1) s1 = true ∧ mulOk ((k + 1) * s1) b = true) (m2 : mulOk t s2 = true) : ∀ (j : Nat) (n : Nat) (k : Int), 0 ≤ k → k + (j : Int) = 50 → j < n → k ≤ t * s2 / (b * s1) →
    loopW n (cAnd (c2 kLt (cV 4) (cK (.int 50))) (c2 kLe (c2 kMul (c2 kMul (c2 kAdd (cV 4) (cK (.int 1))) (c2 kItem (cV 1) (cK (.int 0)))) (cV 3)) (c2 kMul (cV 2) (c2 kItem (cV 1) (cK (.int 1)))))) (cSet (.nm 4) (c2 kAdd (cV 4) (cK (.int 1)))) [some w, some s, some (.int t), some (.int b), some (.int k)] hs =
      .ok (.nx [some w, some s, some (.int t), some (.int b), some (.int (min (t * s2 / (b * s1)) 50))]) hs
  | j, 0, k, _, _, h, _ => absurd h (Nat.not_lt_zero _)
  | 0, n + 1, k, k0, kj, hn, kle => by
    have e : k = 50 := by omega
    subst e
    rw [loopW_s]
    simp
    omega
  | j + 1, n + 1, k, k0, kj, hn, kle => by
    rw [loopW_s]
    obtain ⟨a1, a2⟩ := m1 k k0 (by omega)
    have k50 : k < 50 := by omega
    have pos : 0 < b * s1 := Int.mul_pos pb p1
    have iff : ((k + 1) * s1 * b ≤ t * s2) ↔ k + 1 ≤ t * s2 / (b * s1) := by
      rw [Int.le_ediv_iff_mul_le pos, Int.mul_assoc, Int.mul_comm s1 b]
    simp [k50, h1, h2, kMul_v a1, kMul_v a2, kMul_v m2]
    by_cases hk : (k + 1) * s1 * b ≤ t * s2
    · have ih := bar_loop t b s1 s2 w s h1 h2 p1 pb p2 m1 m2 j n (k + 1) (by omega) (by omega) (by omega) (iff.mp hk)
      simp [hk, ih]
    · have : t * s2 / (b * s1) = k := by
        have := mt iff.mpr hk
        omega
      simp [hk, this]
      omega
theorem law_bar_v {q s : Fr} {i : Nat} (h1 : 0 < q.2) (h2 : 0 < s.1) (h3 : 0 < s.2) (b1 : q.1.natAbs < 2 ^ i) (b2 : q.2.natAbs < 2 ^ i) (b3 : s.1.natAbs < 2 ^ i) (b4 : s.2.natAbs < 2 ^ i) (hi : 0 < i) (hi2 : i ≤ 4000) :
    f__law_bar [frD q, frD s] hs = .ok (.str (barS (decide (q.1 < 0)) (barOf q s))) hs := by
  have p2 : 0 ≤ (q.1.natAbs : Int) * s.2 := Int.mul_nonneg (by omega) (by omega)
  have nn := barOf_nn h1 h2 h3
  have le : barOf q s ≤ 50 := Int.min_le_right _ _
  have e4 := kMul_rep (hs := hs) nn (by omega)
  have e5 := kAdd_bar (hs := hs) (b := decide (q.1 < 0)) nn (by omega)
  have lp := bar_loop (hs := hs) (q.1.natAbs : Int) q.2 s.1 s.2 (frD q) (frD s) (by simp) (by simp) h2 h1 p2 (fun k k0 k1 => by
    have c1 : (k + 1).natAbs < 2 ^ 6 := by
      have : (2 : Nat) ^ 6 = 64 := rfl
      rw [this]
      omega
    exact ⟨mulOk_of c1 b3 (by decide) hi (by omega), mulOk_of (mul_lt_pow c1 b3) b2 (by omega) hi (by omega)⟩) (mulOk_of (by simpa using b1) b4 hi hi (by omega)) 50 FUEL 0 (by decide) (by decide) (Nat.lt_of_lt_of_le (by decide : (50 : Nat) < 2 ^ 6) (fuel_le (by decide))) (Int.ediv_nonneg p2 (Int.mul_nonneg (by omega) (by omega)))
  unfold barOf at e4 e5
  simp only [f__law_bar, b__law_bar]
  simp [cWhile, lp, e4]
  by_cases hn : q.1 < 0
  · simp [hn] at e5 ⊢
    simp [e5, barOf]
  · simp [hn] at e5 ⊢
    simp [e5, barOf]
end
end PL.C

set_option Elab.async false
set_option linter.all false
set_option maxRecDepth 100000
set_option maxHeartbeats 4000000
set_option autoImplicit false
set_option exponentiation.threshold 20000
namespace PL.C
open PySem PySem.Spec PyProof.Rows L2
/-- no cell leads to a cell -/
def Flat (hs : List Ob) : Prop := ∀ o ∈ hs, ∀ n, ltO n o = true
section
variable {hs : List Ob} {r n : Nat}
theorem ltRs_all {n : Nat} : ∀ {xs : List D}, (∀ x ∈ xs, ltR n x = true) → ltRs n xs = true
  | [], _ => rfl
  | x :: xs, h => by simp [ltRs, h x List.mem_cons_self, ltRs_all fun y hy => h y (List.mem_cons_of_mem _ hy)]
theorem ltRk_all {n : Nat} : ∀ {xs : List (Key × D)}, (∀ x ∈ xs, ltR n x.2 = true) → ltRk n xs = true
  | [], _ => rfl
  | (k, x) :: xs, h => by simp [ltRk, h (k, x) List.mem_cons_self, ltRk_all fun y hy => h y (List.mem_cons_of_mem _ hy)]
@[simp] theorem ltR_fr {n : Nat} {q : Fr} : ltR n (frD q) = true := by simp [frD, ltR, ltRs]
theorem ltRs_frs {n : Nat} {ws : List Fr} : ltRs n (ws.map frD) = true := ltRs_all fun x hx => by
  obtain ⟨q, _, rfl⟩ := List.mem_map.mp hx
  simp
theorem ltR_own {n : Nat} {o : Own} : ltR n (ownD o) = true := by
  simp only [ownD, ltR]
  refine ltRk_all fun x hx => ?_
  obtain ⟨p, _, rfl⟩ := List.mem_map.mp hx
  simp
theorem Flat.drawn {hs' : List Ob} (f : Flat hs) (d : Drawn r n hs hs') : Flat hs' := fun o ho m => by
  obtain ⟨i, hi⟩ := List.getElem?_of_mem ho
  by_cases e : i = r
  · subst e
    obtain ⟨a, b, c, h, _⟩ := d.pot.ex
    rw [h] at hi
    cases hi
    simp [ltO, ltRs, ltR]
  · rw [d.oth i e] at hi
    exact f o (List.mem_of_getElem? hi) m
theorem fzD_ref {h : List Ob} {m k i : Nat} : fzD h m (k + 1) (.ref i) = if i < m then .ref i else match h[i]? with
    | some (.lst xs) => .fl (xs.map (fzD h m k))
    | some (.dct kvs) => .fd (kvs.map fun kv => (kv.1, fzD h m k kv.2))
    | some (.ins c fs) => .ins c (fs.map fun kv => (kv.1, fzD h m k kv.2))
    | some (.dcT kvs) => .ft (kvs.map fun kv => (kv.1, fzD h m k kv.2))
    | _ => .ref i := rfl
theorem fz_fr {h : List Ob} {m k : Nat} {q : Fr} : fzD h m (k + 2) (frD q) = frD q := by simp [frD, fzD]
theorem fz_own {h : List Ob} {m k : Nat} {o : Own} : fzD h m (k + 3) (ownD o) = ownD o := by
  unfold ownD kvs
  simp only [fzD, List.map_map]
  exact congrArg D.fd (List.map_congr_left fun p _ => by simp [fz_fr])
theorem er_map {α β : Type} (f : α → β) : ∀ (l : List α) (k : Nat), (l.map f).eraseIdx k = (l.eraseIdx k).map f
  | [], _ => rfl
  | _ :: _, 0 => rfl
  | x :: l, k + 1 => congrArg (f x :: ·) (er_map f l k)
theorem cML_v {k : D → List D → List Ob → R D} {f : CE} {g : CA} {σ : Sl} {d : D} {xs : List D} {hs1 : List Ob} (h1 : f σ hs = .ok d hs1) (h2 : lstOf hs1 d = some xs) : cML k f g σ hs = (g σ hs1).bind fun ds hs => k d ds hs := by
  unfold cML
  rw [h1, bind_ok, if_pos (by rw [h2]; rfl)]
theorem lstOf_r {i : Nat} {xs : List D} (h : hs[i]? = some (.lst xs)) : lstOf hs (.ref i) = some xs := by
  simp [lstOf, h]
theorem kLen_r {i : Nat} {xs : List D} (h : hs[i]? = some (.lst xs)) : kLen (.ref i) hs = .ok (.int (xs.length : Int)) hs := by
  unfold kLen
  simp [seqOf, lstOf, h]
theorem kPopAt_v {i k : Nat} {xs : List D} {x : D} (h : hs[i]? = some (.lst xs)) (e : xs[k]? = some x) (hk : k < 2 ^ 60) : kPopAt (.ref i) [.int (k : Int)] hs = .ok x (hs.set i (.lst (xs.eraseIdx k))) := by
  have hl := (List.getElem?_eq_some_iff.mp e).1
  have s : seqIndex? (k : Int) xs.length = some k := by
    rw [seqIndex_of (by omega) (by omega)]
    simp
  unfold kPopAt
  simp only [h]
  rw [if_pos ⟨by omega, by omega⟩, s]
  dsimp only
  rw [e]
theorem kAppend_v {i : Nat} {xs : List D} {x : D} (h : hs[i]? = some (.lst xs)) (hl : xs.length < 16777216) : kAppend (.ref i) [x] hs = .ok .non (hs.set i (.lst (xs ++ [x]))) := by
  unfold kAppend
  simp only [h]
  rw [if_pos (by rw [sizeLine_eq]; exact hl)]
def SomeI (pool : List Fr) (many r n L : Nat) (hs : List Ob) (i : Nat) (σ : Sl) (h : List Ob) : Prop := ∃ (st fo : List Fr) (s5 : Option D), σ = [some (.ref r), some (.fl (pool.map frD)), some (.int (many : Int)), some (.ref L), some (.ref (L + 1)), s5] ∧ h.length = L + 2 ∧ h[L]? = some (.lst (st.map frD)) ∧ h[L + 1]? = some (.lst (fo.map frD)) ∧
    st.length + i = pool.length ∧ fo.length ≤ i ∧ (∀ y ∈ st, y ∈ pool) ∧ (∀ y ∈ fo, y ∈ pool) ∧ PotAt r (n + i) h ∧ ∀ j, j < L → j ≠ r → h[j]? = hs[j]?
theorem some_loop {tk : Fn} (ht : TakeOk tk) {pool : List Fr} {many L : Nat} {H0 : List Ob} (rl : r < L) (hm : many ≤ pool.length) (hp : pool.length ≤ 1000) (hn : n < 2 ^ 60) (i0 : SomeI pool many r n L hs 0 [some (.ref r), some (.fl (pool.map frD)), some (.int (many : Int)), some (.ref L), some (.ref (L + 1)), none] H0) :
    W (loopL (.nm 5) (cDrop (cML kAppend (cV 4) (cCons (cML kPopAt (cV 3) (cCons (cF tk (cCons (cV 0) (cCons (cF (one kLen) (cCons (cV 3) cNil)) cNil))) cNil)) cNil))) ((List.range many).map fun i : Nat => D.int (i : Int)) [some (.ref r), some (.fl (pool.map frD)), some (.int (many : Int)), some (.ref L), some (.ref (L + 1)), none] H0) fun f h =>
      ∃ st fo s5, f = .nx [some (.ref r), some (.fl (pool.map frD)), some (.int (many : Int)), some (.ref L), some (.ref (L + 1)), s5] ∧ SomeI pool many r n L hs many [some (.ref r), some (.fl (pool.map frD)), some (.int (many : Int)), some (.ref L), some (.ref (L + 1)), s5] h ∧ h[L + 1]? = some (.lst (List.map frD fo)) ∧ (∀ y ∈ fo, y ∈ pool) ∧ h.length = L + 2 ∧ PotAt r (n + many) h ∧ (∀ j, j < L → j ≠ r → h[j]? = hs[j]?) ∧ st = 0 := by
  refine W.mono (loopL_w (t := .nm 5) (b := cDrop (cML kAppend (cV 4) (cCons (cML kPopAt (cV 3) (cCons (cF tk (cCons (cV 0) (cCons (cF (one kLen) (cCons (cV 3) cNil)) cNil))) cNil)) cNil))) (fun i : Nat => D.int (i : Int)) (SomeI pool many r n L hs) (List.range many) 0 _ H0 i0 (fun i x σ h hx hi => by
    rw [Nat.zero_add] at hi ⊢
    have hx1 := (List.getElem?_eq_some_iff.mp hx).1
    rw [List.length_range] at hx1
    obtain ⟨st, fo, s5, rfl, hl, g1, g2, sl, fll, sp, fp, po, oth⟩ := hi
    refine ⟨[some (.ref r), some (.fl (pool.map frD)), some (.int (many : Int)), some (.ref L), some (.ref (L + 1)), some (.int (x : Int))], rfl, ?_⟩
    have lr : (st.map frD).length = st.length := List.length_map _
    obtain ⟨v, h1, e1, z, rfl, z0, z1, dr⟩ := (ht.w (u := (st.length : Int)) po (by omega) (small_8000 (by omega)) (by omega)).ex
    obtain ⟨k, rfl⟩ : ∃ k : Nat, z = (k : Int) := ⟨z.toNat, by omega⟩
    have kl : k < st.length := by omega
    have g3 : h1[L]? = some (.lst (st.map frD)) := by rw [dr.oth L (by omega)]; exact g1
    have g4 : h1[L + 1]? = some (.lst (fo.map frD)) := by rw [dr.oth (L + 1) (by omega)]; exact g2
    have e2 := kPopAt_v (x := frD st[k]) g3 (by rw [List.getElem?_map, List.getElem?_eq_getElem kl]; rfl) (by omega)
    have g5 : (h1.set L (.lst ((st.map frD).eraseIdx k)))[L + 1]? = some (.lst (fo.map frD)) := by rw [List.getElem?_set_ne (by omega)]; exact g4
    have e3 := kAppend_v (x := frD st[k]) g5 (by rw [List.length_map]; omega)
    have e4 : cML kPopAt (cV 3) (cCons (cF tk (cCons (cV 0) (cCons (cF (one kLen) (cCons (cV 3) cNil)) cNil))) cNil) [some (.ref r), some (.fl (pool.map frD)), some (.int (many : Int)), some (.ref L), some (.ref (L + 1)), some (.int (x : Int))] h = .ok (frD st[k]) (h1.set L (.lst ((st.map frD).eraseIdx k))) := by
      rw [cML_v (d := .ref L) (hs1 := h) (by simp) (lstOf_r g1)]
      have kl2 := kLen_r g1
      rw [lr] at kl2
      simp [kl2, e1, e2]
    refine W.of (a := .nx [some (.ref r), some (.fl (pool.map frD)), some (.int (many : Int)), some (.ref L), some (.ref (L + 1)), some (.int (x : Int))]) (hs := (h1.set L (.lst ((st.map frD).eraseIdx k))).set (L + 1) (.lst (fo.map frD ++ [frD st[k]]))) ?_ ⟨_, rfl, st.eraseIdx k, fo ++ [st[k]], _, rfl, ?_, ?_, ?_, ?_, ?_, ?_, ?_, ?_, ?_⟩
    · rw [cDrop_v, cML_v (d := .ref (L + 1)) (hs1 := h) (by simp) (lstOf_r g2)]
      simp [e4, e3]
    · rw [List.length_set, List.length_set, dr.len, hl]
    · rw [List.getElem?_set_ne (by omega), List.getElem?_set_self (by rw [dr.len, hl]; omega), er_map]
    · rw [List.getElem?_set_self (by rw [List.length_set, dr.len, hl]; omega), List.map_append]
      rfl
    · rw [List.length_eraseIdx_of_lt kl]
      omega
    · rw [List.length_append]
      simp
      omega
    · exact fun y hy => sp y (List.mem_of_mem_eraseIdx hy)
    · intro y hy
      rcases List.mem_append.mp hy with hy | hy
      · exact fp y hy
      · rw [List.mem_singleton.mp hy]
        exact sp _ (List.getElem_mem kl)
    · obtain ⟨a, b, c, g, rest⟩ := dr.pot.ex
      exact ⟨a, b, c, by rw [List.getElem?_set_ne (by omega), List.getElem?_set_ne (by omega)]; exact g, rest⟩
    · intro j hj hjr
      rw [List.getElem?_set_ne (by omega), List.getElem?_set_ne (by omega), dr.oth j hjr]
      exact oth j hj hjr)) fun f h hq => ?_
  obtain ⟨σ', e6, ii⟩ := hq
  rw [Nat.zero_add, List.length_range] at ii
  have i2 := ii
  obtain ⟨st, fo, s5, e7, hl, g1, g2, sl, fll, sp, fp, po, oth⟩ := i2
  subst e7
  exact ⟨0, fo, s5, e6, ii, g2, fp, hl, po, oth, rfl⟩
/-- some of a pool, each once -/
theorem some_w {tk : Fn} (ht : TakeOk tk) {pool : List Fr} {many : Nat} (p : PotAt r n hs) (fl : Flat hs) (hm : many ≤ pool.length) (hp : pool.length ≤ 1000) (hn : n < 2 ^ 60) : W (f__law_some tk [.ref r, .fl (pool.map frD), .int (many : Int)] hs) fun d hs' => ∃ ys : List Fr, d = .fl (ys.map frD) ∧ (∀ y ∈ ys, y ∈ pool) ∧ Drawn r (n + many) hs hs' := by
  have rl := p.lt
  generalize hL : hs.length = L
  generalize hH0 : hs ++ [Ob.lst (pool.map frD), Ob.lst []] = H0
  have start : cPar 3 4 (cCons (cF (one (kList true)) (cCons (cV 1) cNil)) (cCons (cF (kLst true) cNil) cNil)) [some (.ref r), some (.fl (pool.map frD)), some (.int (many : Int)), none, none, none] hs = .ok (.nx [some (.ref r), some (.fl (pool.map frD)), some (.int (many : Int)), some (.ref L), some (.ref (L + 1)), none]) H0 := by
    have k1 : kList true (.fl (pool.map frD)) hs = .ok (.ref L) (hs ++ [.lst (pool.map frD)]) := by rw [← hL]; rfl
    have k2 : ∀ h : List Ob, kLst true [] h = .ok (.ref h.length) (h ++ [.lst []]) := fun h => kLst_v (by simp)
    simp [k1, k2, ← hH0, hL]
  have i0 : SomeI pool many r n L hs 0 [some (.ref r), some (.fl (pool.map frD)), some (.int (many : Int)), some (.ref L), some (.ref (L + 1)), none] H0 := by
    rw [← hH0]
    refine ⟨pool, [], none, rfl, by simp [hL], by simp [hL], by simp [hL], rfl, Nat.zero_le _, fun y h => h, (fun y h => by cases h), ?_, (fun j h1 h2 => List.getElem?_append_left (by omega))⟩
    obtain ⟨a, b, c, h, rest⟩ := p.ex
    exact ⟨a, b, c, by rw [List.getElem?_append_left rl]; exact h, rest⟩
  have lp := some_loop ht (r := r) (n := n) (pool := pool) (many := many) (L := L) (hs := hs) (H0 := H0) (by omega) hm hp hn i0
  obtain ⟨f, h, ef, st, fo, s5, e6, _, g2, fp, hl, po, oth, _⟩ := lp.ex
  rw [e6] at ef
  have tl : (h.take L).length = hs.length := by rw [List.length_take, hl]; omega
  have dr : Drawn r (n + many) hs (h.take L) := by
    refine ⟨?_, tl, fun j hj => ?_⟩
    · obtain ⟨a, b, c, g, rest⟩ := po.ex
      exact ⟨a, b, c, by rw [List.getElem?_take_of_lt (by omega)]; exact g, rest⟩
    · by_cases hjl : j < L
      · rw [List.getElem?_take_of_lt hjl]
        exact oth j hjl hj
      · rw [List.getElem?_eq_none (by rw [tl]; omega), List.getElem?_eq_none (by omega)]
  have fz : fzD h L 9 (.ref (L + 1)) = .fl (fo.map frD) := by
    rw [fzD_ref (k := 8), if_neg (by omega), g2]
    dsimp only
    rw [List.map_map]
    exact congrArg D.fl (List.map_congr_left fun q _ => fz_fr (k := 6))
  have lv : leave hs (.ok (.rt (.ref (L + 1))) h) = .ok (.fl (fo.map frD)) (h.take L) := by
    unfold leave finD
    dsimp only
    rw [hL, if_neg (by rw [hl]; omega), fz, if_pos]
    refine ⟨by simp only [ltR]; exact ltRs_frs, List.all_eq_true.mpr fun o ho => (fl.drawn dr) o ho _⟩
  refine W.of (a := .fl (fo.map frD)) (hs := h.take L) ?_ ⟨fo, rfl, fp, dr⟩
  have src : iArgs kRng1 (cCons (cV 2) cNil) [some (.ref r), some (.fl (pool.map frD)), some (.int (many : Int)), some (.ref L), some (.ref (L + 1)), none] H0 = .ok (.seq ((List.range many).map fun i : Nat => D.int (i : Int))) H0 := rng1_w (by simp) (by omega)
  simp only [f__law_some, b__law_some]
  rw [mkFn_v (np := 3) rfl, cSeq_v]
  have st0 : startD 6 [.ref r, .fl (pool.map frD), .int (many : Int)] = [some (.ref r), some (.fl (pool.map frD)), some (.int (many : Int)), none, none, none] := rfl
  rw [st0, start, nxt_nx, cSeq_v]
  unfold cFor
  rw [src, bind_ok]
  dsimp only
  rw [ef, nxt_nx]
  simp
  exact lv
end
end PL.C

set_option Elab.async false
set_option linter.all false
set_option maxRecDepth 100000
set_option maxHeartbeats 4000000
set_option autoImplicit false
set_option exponentiation.threshold 20000
namespace PL
open PySem PySem.Spec PyProof.Rows L2
section
variable {t : Tg} {e : CE} {σ : Sl} {hs : List Ob}
theorem srcOf_r {i : Nat} {xs : List D} (h : hs[i]? = some (.lst xs)) : srcOf (.ref i) hs = .ok (.live fun hs => lstOf hs (.ref i)) hs := by simp [srcOf, h]
theorem iSeq_r {f : CE} {i : Nat} {xs : List D} (e : f σ hs = .ok (.ref i) hs) (h : hs[i]? = some (.lst xs)) : iSeq f σ hs = .ok (.live fun hs => lstOf hs (.ref i)) hs := by
  unfold iSeq
  rw [e, bind_ok, srcOf_r h]
theorem compR_all {α : Type} (dt g : α → D) (G : List Ob → Option (List D)) (xs : List α) (hG : G hs = some (xs.map dt)) (h : ∀ x ∈ xs, ∃ σ', bindT t (dt x) σ = some σ' ∧ e σ' hs = .ok (g x) hs) (hl : xs.length < 16777216) : ∀ (n i : Nat) (acc : List D), n + i = xs.length → acc.length = i →
    compR t cYes (pLst e) σ G n i (.lst acc) hs = .ok (.lst (acc ++ (xs.drop i).map g)) hs
  | 0, i, acc, hn, ha => by
    unfold compR
    rw [hG]
    dsimp only
    rw [List.getElem?_eq_none (by rw [List.length_map]; omega)]
    dsimp only
    rw [List.drop_eq_nil_of_le (by omega)]
    simp
  | n + 1, i, acc, hn, ha => by
    have hi : i < xs.length := by omega
    obtain ⟨σ', e1, e2⟩ := h xs[i] (List.getElem_mem hi)
    unfold compR
    rw [hG]
    dsimp only
    rw [List.getElem?_map, List.getElem?_eq_getElem hi]
    simp only [Option.map_some]
    unfold turnC
    rw [e1]
    dsimp only
    unfold cYes
    dsimp only
    have ep : pLst e σ' (.lst acc) hs = .ok (.lst (acc ++ [g xs[i]])) hs := by
      unfold pLst
      dsimp only
      rw [e2]
      dsimp only
      rw [if_pos (by rw [sizeLine_eq]; omega)]
    rw [ep]
    dsimp only
    have ih := compR_all dt g G xs hG h hl n (i + 1) (acc ++ [g xs[i]]) (by omega) (by rw [List.length_append, ha]; rfl)
    unfold cYes at ih
    rw [ih, List.drop_eq_getElem_cons hi, List.map_cons, List.append_assoc]
    rfl
theorem comp_live {α : Type} {b : Bool} {vs : List Nat} {s : CI} (dt g : α → D) (G : List Ob → Option (List D)) (xs : List α) (h1 : s σ hs = .ok (.live G) hs) (hG : G hs = some (xs.map dt)) (h : ∀ x ∈ xs, ∃ σ', bindT t (dt x) (wipeS σ vs) = some σ' ∧ e σ' hs = .ok (g x) hs) (hl : xs.length < 16777216) :
    cComp b vs t s cYes (.lst []) (pLst e) σ hs = newL b (xs.map g) hs := by
  unfold cComp
  rw [h1, bind_ok]
  dsimp only
  have : liveLen G hs = xs.length := by unfold liveLen; rw [hG]; simp
  rw [this, compR_all dt g G xs hG h hl xs.length 0 [] (by omega) rfl]
  simp [endC]
theorem loopR_w {α : Type} {b : CS} (dt : α → D) (G : List Ob → Option (List D)) (xs : List α) (I : Nat → Sl → List Ob → Prop) (hG : ∀ i σ hs, I i σ hs → G hs = some (xs.map dt)) (turn : ∀ (i : Nat) (x : α) (σ : Sl) (hs : List Ob), xs[i]? = some x → I i σ hs → ∃ σ1, bindT t (dt x) σ = some σ1 ∧ W (b σ1 hs) fun f hs' => ∃ σ2, f = .nx σ2 ∧ I (i + 1) σ2 hs') :
    ∀ (n i : Nat) (σ : Sl) (hs : List Ob), n + i = xs.length → I i σ hs → W (loopR t b G n i σ hs) fun f hs' => ∃ σ', f = .nx σ' ∧ I xs.length σ' hs'
  | 0, i, σ, hs, hn, h0 => by
    unfold loopR
    rw [hG i σ hs h0]
    dsimp only
    rw [List.getElem?_eq_none (by rw [List.length_map]; omega)]
    have e : i = xs.length := by omega
    exact W.of (a := .nx σ) rfl ⟨σ, rfl, e ▸ h0⟩
  | n + 1, i, σ, hs, hn, h0 => by
    have hi : i < xs.length := by omega
    obtain ⟨σ1, e1, w⟩ := turn i xs[i] σ hs (List.getElem?_eq_getElem hi) h0
    obtain ⟨f, hs1, e2, σ2, rfl, i1⟩ := w.ex
    unfold loopR
    rw [hG i σ hs h0]
    dsimp only
    rw [List.getElem?_map, List.getElem?_eq_getElem hi]
    simp only [Option.map_some]
    rw [e1]
    dsimp only
    rw [e2, bind_ok]
    exact loopR_w dt G xs I hG turn n (i + 1) σ2 hs1 (by omega) i1
theorem for_live {α : Type} {b : CS} {s : CI} (dt : α → D) (G : List Ob → Option (List D)) (xs : List α) (I : Nat → Sl → List Ob → Prop) {hs1 : List Ob} (h1 : s σ hs = .ok (.live G) hs1) (h0 : I 0 σ hs1) (hG : ∀ i σ hs, I i σ hs → G hs = some (xs.map dt)) (turn : ∀ (i : Nat) (x : α) (σ : Sl) (hs : List Ob), xs[i]? = some x → I i σ hs → ∃ σ1, bindT t (dt x) σ = some σ1 ∧ W (b σ1 hs) fun f hs' => ∃ σ2, f = .nx σ2 ∧ I (i + 1) σ2 hs') :
    W (cFor t s b σ hs) fun f hs' => ∃ σ', f = .nx σ' ∧ I xs.length σ' hs' := by
  unfold cFor
  rw [h1, bind_ok]
  dsimp only
  have : liveLen G hs1 = xs.length := by unfold liveLen; rw [hG 0 σ hs1 h0]; simp
  rw [this]
  exact loopR_w dt G xs I hG turn xs.length 0 σ hs1 (by omega) h0
theorem for_seq {α : Type} {b : CS} {s : CI} (dt : α → D) (xs : List α) (I : Nat → Sl → List Ob → Prop) {hs1 : List Ob} (h1 : s σ hs = .ok (.seq (xs.map dt)) hs1) (h0 : I 0 σ hs1) (turn : ∀ (i : Nat) (x : α) (σ : Sl) (hs : List Ob), xs[i]? = some x → I i σ hs → ∃ σ1, bindT t (dt x) σ = some σ1 ∧ W (b σ1 hs) fun f hs' => ∃ σ2, f = .nx σ2 ∧ I (i + 1) σ2 hs') :
    W (cFor t s b σ hs) fun f hs' => ∃ σ', f = .nx σ' ∧ I xs.length σ' hs' := by
  unfold cFor
  rw [h1, bind_ok]
  dsimp only
  have := loopL_w (t := t) (b := b) dt I xs 0 σ hs1 h0 fun i x σ hs hx hi => by
    rw [Nat.zero_add] at hi ⊢
    exact turn i x σ hs hx hi
  rw [Nat.zero_add] at this
  exact this
end
end PL
namespace PL.C
open PySem PySem.Spec PyProof.Rows L2
section
variable {hs : List Ob} {r n : Nat}
theorem Nice.mono {i j : Nat} {o : Own} (h : Nice i o) (l : i ≤ j) : Nice j o :=
  ⟨h.nd, h.key, h.len, fun p hp => by
    obtain ⟨a, b, c, d⟩ := h.val p hp
    have := Nat.pow_le_pow_right (show 0 < 2 by decide) l
    exact ⟨a, b, by omega, by omega⟩⟩
theorem Nice.scale {o : Own} {q : Fr} (h : Nice 10 o) (h2 : 0 < q.2) (b1 : q.1.natAbs < 2 ^ 7) (b2 : q.2.natAbs < 2 ^ 7) : Nice 20 (scaleF o q) := by
  have kk : keysOf (o.map fun p => (p.1, mulF p.2 q)) = keysOf o := by
    unfold keysOf
    rw [List.map_map]
    rfl
  refine Nice.of (by rw [kk]; exact h.nd) (fun p hp => ?_) (by rw [List.length_map]; exact h.len) fun p hp => ?_
  · obtain ⟨a, ha, rfl⟩ := List.mem_map.mp hp
    exact h.key a ha
  · obtain ⟨a, ha, rfl⟩ := List.mem_map.mp hp
    obtain ⟨v1, v2, v3, v4⟩ := h.val a ha
    have p2 : 0 < a.2.2 * q.2 := Int.mul_pos (okFr_pos v1) h2
    obtain ⟨l1, l2⟩ := redF_le (a := a.2.1 * q.1) p2
    have z : (2 : Nat) ^ 17 ≤ 2 ^ 20 := by decide
    exact ⟨redF_ok p2, Nat.lt_of_lt_of_le (Nat.lt_of_le_of_lt l1 (mul_lt_pow v3 b1)) z, Nat.lt_of_lt_of_le (Nat.lt_of_le_of_lt l2 (mul_lt_pow v4 b2)) z⟩
/-- the law's own line of signs -/
theorem own_line {o : Own} {σ1 σ2 σ3 σ4 σ5 σ7 σ9 σ10 : Option D} {first many : Int} (m1 : 1 ≤ many) (m2 : many ≤ 100) (f1 : -(2 ^ 60) ≤ first) (f2 : first ≤ 2 ^ 60) (σ0 s2 s5 s7 s8 s9 s10 : Option D) (s1 s12 : Option D) :
    cComp false [11] (.nm 11) (iArgs kRng2 (cCons (cV 3) (cCons (c2 kAdd (cV 3) (cV 4)) (cNil)))) (cYes) (.lst []) (pLst (c2 kItem (cGet2 (cV 6) (cV 11) (cF kTup (cCons (cK (.int 0)) (cCons (cK (.int 1)) (cNil))))) (cK (.int 0)))) [σ0, s1, s2, some (.int first), some (.int many), s5, some (ownD o), s7, s8, s9, s10, none, s12] hs =
      .ok (.fl ((List.range many.toNat).map fun i => D.int (getF o (first + (i : Nat))).1)) hs := by
  have e := comp_all (b := false) (vs := [11]) (t := .nm 11) (σ := [σ0, s1, s2, some (.int first), some (.int many), s5, some (ownD o), s7, s8, s9, s10, none, s12]) (hs := hs) (e := c2 kItem (cGet2 (cV 6) (cV 11) (cF kTup (cCons (cK (.int 0)) (cCons (cK (.int 1)) (cNil))))) (cK (.int 0))) (s := iArgs kRng2 (cCons (cV 3) (cCons (c2 kAdd (cV 3) (cV 4)) (cNil)))) (fun i : Nat => D.int (first + (i : Nat))) (fun i => D.int (getF o (first + (i : Nat))).1) (List.range (first + many - first).toNat) (rng2_v (by simp) (by omega) (by omega) (by omega) (by omega)) (fun i _ => ⟨_, rfl, by simp [get_own]⟩) (by rw [List.length_range]; omega)
  rw [e, show first + many - first = many by omega]
  rfl
end
end PL.C

set_option Elab.async false
set_option linter.all false
set_option maxRecDepth 100000
set_option maxHeartbeats 4000000
set_option autoImplicit false
set_option exponentiation.threshold 20000
namespace PL
open PySem PySem.Spec PyProof.Rows L2
theorem W.seq {a b : CS} {σ : Sl} {hs : List Ob} {Q : Fl → List Ob → Prop} (h : W (a σ hs) fun f h => ∃ σ', f = .nx σ' ∧ W (b σ' h) Q) : W (cSeq a b σ hs) Q := by
  obtain ⟨f, h', e, σ', rfl, w⟩ := h.ex
  rw [cSeq_v, e, nxt_nx]
  exact w
theorem W.seq_eq {a b : CS} {σ σ' : Sl} {hs hs' : List Ob} {Q : Fl → List Ob → Prop} (e : a σ hs = .ok (.nx σ') hs') (h : W (b σ' hs') Q) : W (cSeq a b σ hs) Q := by
  rw [cSeq_v, e, nxt_nx]
  exact h
end PL
namespace PL.C
open PySem PySem.Spec PyProof.Rows L2
def pool1 : List Fr := [(1, 1), (1, 1), (40, 1), (-7, 2), (17, 1), (1, 10), (9, 70)]
def pool2 : List Fr := [(1, 1), (1, 2), (1, 3), (3, 2), (5, 1), (2, 3), (1, 10), (3, 70)]
section
variable {hs : List Ob} {r n : Nat}
theorem pool1_v {σ : Sl} : cF (kLst false) (cCons (cF kTup (cCons (cK (.int 1)) (cCons (cK (.int 1)) (cNil)))) (cCons (cF kTup (cCons (cK (.int 1)) (cCons (cK (.int 1)) (cNil)))) (cCons (cF kTup (cCons (cK (.int 40)) (cCons (cK (.int 1)) (cNil)))) (cCons (cF kTup (cCons (c1 kNeg (cK (.int 7))) (cCons (cK (.int 2)) (cNil)))) (cCons (cF kTup (cCons (cK (.int 17)) (cCons (cK (.int 1)) (cNil)))) (cCons (cF kTup (cCons (cK (.int 1)) (cCons (cK (.int 10)) (cNil)))) (cCons (cF kTup (cCons (cK (.int 9)) (cCons (cK (.int 70)) (cNil)))) (cNil)))))))) σ hs = .ok (.fl (pool1.map frD)) hs := by
  simp [kLst_v, pool1, frD]
theorem pool2_v {σ : Sl} : cF (kLst false) (cCons (cF kTup (cCons (cK (.int 1)) (cCons (cK (.int 1)) (cNil)))) (cCons (cF kTup (cCons (cK (.int 1)) (cCons (cK (.int 2)) (cNil)))) (cCons (cF kTup (cCons (cK (.int 1)) (cCons (cK (.int 3)) (cNil)))) (cCons (cF kTup (cCons (cK (.int 3)) (cCons (cK (.int 2)) (cNil)))) (cCons (cF kTup (cCons (cK (.int 5)) (cCons (cK (.int 1)) (cNil)))) (cCons (cF kTup (cCons (cK (.int 2)) (cCons (cK (.int 3)) (cNil)))) (cCons (cF kTup (cCons (cK (.int 1)) (cCons (cK (.int 10)) (cNil)))) (cCons (cF kTup (cCons (cK (.int 3)) (cCons (cK (.int 70)) (cNil)))) (cNil))))))))) σ hs = .ok (.fl (pool2.map frD)) hs := by
  simp [kLst_v, pool2, frD]
theorem each_rows {α : Type} {P : Own → Prop} : ∀ {xs : List α} {ys : List D}, Each (fun (_ : α) d => ∃ o : Own, d = ownD o ∧ P o) xs ys → ∃ rows : List Own, ys = rows.map ownD ∧ rows.length = xs.length ∧ ∀ o ∈ rows, P o
  | [], ys, e => by
    have := e.len
    cases ys with
    | nil => exact ⟨[], rfl, rfl, fun o h => by cases h⟩
    | cons a b => simp at this
  | x :: xs, ys, e => by
    have l := e.len
    cases ys with
    | nil => simp at l
    | cons y ys =>
      obtain ⟨o, rfl, po⟩ := e.all 0 x y rfl rfl
      obtain ⟨rows, rfl, rl, pr⟩ := each_rows (xs := xs) (ys := ys) ⟨by simpa using l, fun i a b ha hb => e.all (i + 1) a b (by simpa using ha) (by simpa using hb)⟩
      exact ⟨o :: rows, rfl, by simp [rl], fun q hq => by
        rcases List.mem_cons.mp hq with rfl | hq
        · exact po
        · exact pr q hq⟩
/-- the state within the law's check: the drawn rows stand at L, the pot at r -/
structure St (hs : List Ob) (r L N : Nat) (rows : List Own) (h : List Ob) : Prop where
  row : h[L]? = some (.lst (rows.map ownD))
  pot : PotAt r N h
  oth : ∀ j, j < L → j ≠ r → h[j]? = hs[j]?
theorem St.drawn {L N N' : Nat} {rows : List Own} {h h' : List Ob} (s : St hs r L N rows h) (d : Drawn r N' h h') (rl : r < L) : St hs r L N' rows h' :=
  ⟨by rw [d.oth L (by omega)]; exact s.row, d.pot, fun j h1 h2 => by rw [d.oth j h2]; exact s.oth j h1 h2⟩
/-- is_wide, some -/
theorem right_1 {tk : Fn} (ht : TakeOk tk) (p : PotAt r n hs) (hn : n < 2 ^ 50) (s1 : Option D) (w : Bool) : W (cSet (.nm 2) (cComp true [10] (.nm 10) (iArgs kRng1 (cCons (c2 kAdd (cK (.int 1)) (cF tk (cCons (cV 0) (cCons (cIf (cV 1) (cK (.int 12)) (cK (.int 4))) (cNil))))) (cNil))) (cYes) (.lst []) (pLst (cF (C.f__law_drawn_row tk) (cCons (cV 0) (cCons (cIf (cV 1) (cK (.int 60)) (cK (.int 5))) (cNil))))))
    [some (.ref r), some (.bl w), none, none, none, none, none, none, none, none, none, none, none] hs) fun f h => ∃ rows : List Own, f = .nx [some (.ref r), some (.bl w), some (.ref hs.length), none, none, none, none, none, none, none, none, none, none] ∧ 1 ≤ rows.length ∧ rows.length ≤ 12 ∧ (∀ o ∈ rows, Nice 10 o) ∧ h.length = hs.length + 1 ∧ St hs r hs.length (n + 4000) rows h := by
  have rl := p.lt
  have tkw : W (tk [.ref r, .int (if w = true then 12 else 4)] hs) fun d hs' => ∃ v : Int, d = .int v ∧ 0 ≤ v ∧ v < 12 ∧ Drawn r (n + 1) hs hs' := by
    refine (ht.w (u := if w = true then 12 else 4) p (by cases w <;> decide) (small_8000 (by cases w <;> decide)) (by omega)).mono fun d h ⟨v, e, v0, v1, dr⟩ => ⟨v, e, v0, ?_, dr⟩
    cases w
    · simp at v1; omega
    · simpa using v1
  obtain ⟨d, h1, e1, v, rfl, v0, v1, dr⟩ := tkw.ex
  obtain ⟨k, rfl⟩ : ∃ k : Nat, v = (k : Int) := ⟨v.toNat, by omega⟩
  have src : iArgs kRng1 (cCons (c2 kAdd (cK (.int 1)) (cF tk (cCons (cV 0) (cCons (cIf (cV 1) (cK (.int 12)) (cK (.int 4))) (cNil))))) (cNil)) [some (.ref r), some (.bl w), none, none, none, none, none, none, none, none, none, none, none] hs = .ok (.seq ((List.range (k + 1)).map fun i : Nat => D.int (i : Int))) h1 := by
    refine rng1_w ?_ (by omega)
    have e : ((1 : Int) + (k : Int)) = ((k + 1 : Nat) : Int) := by omega
    cases w <;> simp at e1 <;> simp [e1, e]
  have turn : ∀ (i : Nat) (x : Nat) (h : List Ob), (List.range (k + 1))[i]? = some x → Drawn r (n + 1 + 300 * i) hs h → ∃ σ', bindT (.nm 10) (D.int (x : Int)) (wipeS [some (.ref r), some (.bl w), none, none, none, none, none, none, none, none, none, none, none] [10]) = some σ' ∧
      W (cF (C.f__law_drawn_row tk) (cCons (cV 0) (cCons (cIf (cV 1) (cK (.int 60)) (cK (.int 5))) (cNil))) σ' h) fun d h' => (∃ o : Own, d = ownD o ∧ Nice 10 o) ∧ Drawn r (n + 1 + 300 * (i + 1)) hs h' := by
    intro i x h hx hi
    have hx2 := (List.getElem?_eq_some_iff.mp hx).1
    rw [List.length_range] at hx2
    obtain ⟨d, h', e4, o, rfl, no, dr4⟩ := (drawn_row_w ht (most := if w = true then 60 else 5) hi.pot (by cases w <;> decide) (by cases w <;> decide) (by omega)).ex
    refine ⟨[some (.ref r), some (.bl w), none, none, none, none, none, none, none, none, some (.int (x : Int)), none, none], rfl, W.of (a := ownD o) (hs := h') ?_ ⟨⟨o, rfl, no⟩, (hi.trans dr4).mono (by omega)⟩⟩
    cases w <;> simp at e4 <;> simp [e4]
  have c := comp_w (b := true) (t := .nm 10) (σ := [some (.ref r), some (.bl w), none, none, none, none, none, none, none, none, none, none, none]) (vs := [10]) (fun i : Nat => D.int (i : Int)) (fun (_ : Nat) d => ∃ o : Own, d = ownD o ∧ Nice 10 o) (fun i h => Drawn r (n + 1 + 300 * i) hs h) (List.range (k + 1)) src dr turn (by rw [List.length_range]; omega)
  obtain ⟨d, h2, e2, ys, h3, en, ea, di⟩ := c.ex
  rw [newL_t] at en
  cases en
  obtain ⟨rows, rfl, rlen, nr⟩ := each_rows ea
  rw [List.length_range] at rlen di
  refine W.of (a := .nx [some (.ref r), some (.bl w), some (.ref hs.length), none, none, none, none, none, none, none, none, none, none]) (hs := h3 ++ [.lst (rows.map ownD)]) ?_ ⟨rows, rfl, by omega, by omega, nr, ?_, ?_, ?_, ?_⟩
  · rw [cSet_nm, e2, bind_ok, di.len]
    rfl
  · rw [List.length_append, di.len]; rfl
  · rw [← di.len, List.getElem?_concat_length]
  · obtain ⟨a, b, c, g, rest⟩ := (di.pot.mono (show n + 1 + 300 * (k + 1) ≤ n + 4000 by omega)).ex
    exact ⟨a, b, c, by rw [List.getElem?_append_left (by rw [di.len]; exact rl)]; exact g, rest⟩
  · intro j h1 h2
    rw [List.getElem?_append_left (by rw [di.len]; exact h1)]
    exact di.oth j h2
/-- some[0] = .. -/
theorem right_2 {tk : Fn} (ht : TakeOk tk) {L N : Nat} {rows : List Own} {h : List Ob} {w : Bool} (s : St hs r L N rows h) (rl : r < L) (hN : N < 2 ^ 51) (l1 : 1 ≤ rows.length) (nr : ∀ o ∈ rows, Nice 10 o) (e : CA) (he : e = (cCons (cF (kLst false) (cCons (cF kTup (cCons (cK (.int 1)) (cCons (cK (.int 1)) (cNil)))) (cCons (cF kTup (cCons (cK (.int 1)) (cCons (cK (.int 1)) (cNil)))) (cCons (cF kTup (cCons (cK (.int 40)) (cCons (cK (.int 1)) (cNil)))) (cCons (cF kTup (cCons (c1 kNeg (cK (.int 7))) (cCons (cK (.int 2)) (cNil)))) (cCons (cF kTup (cCons (cK (.int 17)) (cCons (cK (.int 1)) (cNil)))) (cCons (cF kTup (cCons (cK (.int 1)) (cCons (cK (.int 10)) (cNil)))) (cCons (cF kTup (cCons (cK (.int 9)) (cCons (cK (.int 70)) (cNil)))) (cNil))))))))) (cNil))) :
    W (cSetIx (cV 2) (cK (.int 0)) (cF C.f__law_row_scaled (cCons (c2 kItem (cV 2) (cK (.int 0))) (cCons (cF (C.f__law_of tk) (cCons (cV 0) e)) (cNil)))) [some (.ref r), some (.bl w), some (.ref L), none, none, none, none, none, none, none, none, none, none] h) fun f h' =>
      ∃ rows' : List Own, f = .nx [some (.ref r), some (.bl w), some (.ref L), none, none, none, none, none, none, none, none, none, none] ∧ rows'.length = rows.length ∧ (∀ o ∈ rows', Nice 20 o) ∧ h'.length = h.length ∧ St hs r L (N + 1) rows' h' := by
  subst he
  cases rows with
  | nil => simp at l1
  | cons o rest =>
    have g0 : kItem (.ref L) (.int 0) h = .ok (ownD o) h := kItem_r s.row (atI_nat (j := 0) rfl)
    obtain ⟨d, h1, e1, hm, dr⟩ := (of_w ht (ds := pool1.map frD) s.pot (by decide) (by decide) (by omega)).ex
    obtain ⟨q, hq, rfl⟩ := List.mem_map.mp hm
    have qb : 0 < q.2 ∧ q.1.natAbs < 2 ^ 7 ∧ q.2.natAbs < 2 ^ 7 := by
      have : ∀ q ∈ pool1, 0 < q.2 ∧ q.1.natAbs < 2 ^ 7 ∧ q.2.natAbs < 2 ^ 7 := by decide
      exact this q hq
    have no := nr o List.mem_cons_self
    have z : (2 : Nat) ^ 7 ≤ 2 ^ 10 := by decide
    have sc := row_scaled_v (hs := h1) (o := o) (q := q) (i := 10) no.nd (by have := no.len; omega) qb.1 (fun p hp => ⟨okFr_pos (no.val p hp).1, (no.val p hp).2.2.1, (no.val p hp).2.2.2⟩) (Nat.lt_of_lt_of_le qb.2.1 z) (Nat.lt_of_lt_of_le qb.2.2 z) (by decide) (by decide)
    have s1 := s.drawn dr rl
    have i0 : ixN ((o :: rest).map ownD).length 0 = some 0 := by
      unfold ixN
      simp
    have set := kSetIx_r (d := ownD (scaleF o q)) s1.row i0
    have hl : L < h1.length := (List.getElem?_eq_some_iff.mp s1.row).1
    refine W.of (a := .nx [some (.ref r), some (.bl w), some (.ref L), none, none, none, none, none, none, none, none, none, none]) (hs := h1.set L (.lst (((o :: rest).map ownD).set 0 (ownD (scaleF o q))))) ?_ ⟨scaleF o q :: rest, rfl, rfl, ?_, ?_, ?_, ?_, ?_⟩
    · rw [cSetIx_v]
      have ev : cF C.f__law_row_scaled (cCons (c2 kItem (cV 2) (cK (.int 0))) (cCons (cF (C.f__law_of tk) (cCons (cV 0) (cCons (cF (kLst false) (cCons (cF kTup (cCons (cK (.int 1)) (cCons (cK (.int 1)) (cNil)))) (cCons (cF kTup (cCons (cK (.int 1)) (cCons (cK (.int 1)) (cNil)))) (cCons (cF kTup (cCons (cK (.int 40)) (cCons (cK (.int 1)) (cNil)))) (cCons (cF kTup (cCons (c1 kNeg (cK (.int 7))) (cCons (cK (.int 2)) (cNil)))) (cCons (cF kTup (cCons (cK (.int 17)) (cCons (cK (.int 1)) (cNil)))) (cCons (cF kTup (cCons (cK (.int 1)) (cCons (cK (.int 10)) (cNil)))) (cCons (cF kTup (cCons (cK (.int 9)) (cCons (cK (.int 70)) (cNil)))) (cNil))))))))) (cNil)))) (cNil))) [some (.ref r), some (.bl w), some (.ref L), none, none, none, none, none, none, none, none, none, none] h = .ok (ownD (scaleF o q)) h1 := by
        have pv := pool1_v (hs := h) (σ := [some (.ref r), some (.bl w), some (.ref L), none, none, none, none, none, none, none, none, none, none])
        generalize cF (kLst false) (cCons (cF kTup (cCons (cK (.int 1)) (cCons (cK (.int 1)) (cNil)))) (cCons (cF kTup (cCons (cK (.int 1)) (cCons (cK (.int 1)) (cNil)))) (cCons (cF kTup (cCons (cK (.int 40)) (cCons (cK (.int 1)) (cNil)))) (cCons (cF kTup (cCons (c1 kNeg (cK (.int 7))) (cCons (cK (.int 2)) (cNil)))) (cCons (cF kTup (cCons (cK (.int 17)) (cCons (cK (.int 1)) (cNil)))) (cCons (cF kTup (cCons (cK (.int 1)) (cCons (cK (.int 10)) (cNil)))) (cCons (cF kTup (cCons (cK (.int 9)) (cCons (cK (.int 70)) (cNil)))) (cNil)))))))) = P at *
        generalize D.fl (pool1.map frD) = P2 at *
        simp [g0, pv, e1, sc]
      rw [ev]
      simp [set]
    · intro a ha
      rcases List.mem_cons.mp ha with rfl | ha
      · exact no.scale qb.1 qb.2.1 qb.2.2
      · exact (nr a (List.mem_cons_of_mem _ ha)).mono (by decide)
    · rw [List.length_set, dr.len]
    · rw [List.getElem?_set_self hl]
      rfl
    · obtain ⟨a, b, c, g, rst⟩ := s1.pot.ex
      exact ⟨a, b, c, by rw [List.getElem?_set_ne (by omega)]; exact g, rst⟩
    · intro j h1' h2'
      rw [List.getElem?_set_ne (by omega)]
      exact s1.oth j h1' h2'
end
end PL.C

set_option Elab.async false
set_option linter.all false
set_option maxRecDepth 100000
set_option maxHeartbeats 4000000
set_option autoImplicit false
set_option exponentiation.threshold 20000
namespace PL.C
open PySem PySem.Spec PyProof.Rows L2
section
variable {hs : List Ob} {r n : Nat}
/-- the state of the slots from `first, many` on -/
def Sg (r L : Nat) (w : Bool) (first many : Int) (s5 s6 s7 s8 s9 s10 s11 s12 : Option D) : Sl := [some (.ref r), some (.bl w), some (.ref L), some (.int first), some (.int many), s5, s6, s7, s8, s9, s10, s11, s12]
theorem right_3 {tk : Fn} (ht : TakeOk tk) {L N : Nat} {rows : List Own} {h : List Ob} {w : Bool} (s : St hs r L N rows h) (rl : r < L) (hN : N < 2 ^ 52) :
    W (cPar 3 4 (cCons (c2 kSub (cF tk (cCons (cV 0) (cCons (cK (.int 9)) (cNil)))) (cK (.int 6))) (cCons (c2 kAdd (cK (.int 1)) (cF tk (cCons (cV 0) (cCons (cIf (cV 1) (cK (.int 100)) (cK (.int 15))) (cNil))))) cNil)) [some (.ref r), some (.bl w), some (.ref L), none, none, none, none, none, none, none, none, none, none] h) fun f h' =>
      ∃ first many : Int, f = .nx (Sg r L w first many none none none none none none none none) ∧ -10 ≤ first ∧ first ≤ 10 ∧ 1 ≤ many ∧ many ≤ 100 ∧ h'.length = h.length ∧ St hs r L (N + 2) rows h' := by
  obtain ⟨d, h1, e1, v, rfl, v0, v1, dr⟩ := (ht.w (u := 9) s.pot (by decide) (small_8000 (by decide)) (by omega)).ex
  have tkw : W (tk [.ref r, .int (if w = true then 100 else 15)] h1) fun d hs' => ∃ v : Int, d = .int v ∧ 0 ≤ v ∧ v < 100 ∧ Drawn r (N + 1 + 1) h1 hs' := by
    refine (ht.w (u := if w = true then 100 else 15) dr.pot (by cases w <;> decide) (small_8000 (by cases w <;> decide)) (by omega)).mono fun d h ⟨v, e, v0, v1, dr⟩ => ⟨v, e, v0, ?_, dr⟩
    cases w
    · simp at v1; omega
    · simpa using v1
  obtain ⟨d, h2, e2, u, rfl, u0, u1, dr2⟩ := tkw.ex
  refine W.of (a := .nx (Sg r L w (v - 6) (1 + u) none none none none none none none none)) (hs := h2) ?_ ⟨v - 6, 1 + u, rfl, by omega, by omega, by omega, by omega, by rw [dr2.len, dr.len], (s.drawn dr rl).drawn dr2 rl⟩
  cases w <;> simp at e2 <;> simp [e1, e2, Sg]
/-- the lines, by the law's own -/
theorem right_4 {L N : Nat} {rows : List Own} {h : List Ob} {w : Bool} {first many : Int} (s : St hs r L N rows h) (hl : h.length = L + 2) (rl : r < L) (g : h[L + 1]? = some (.lst [])) (lr : rows.length ≤ 12) (f1 : -10 ≤ first) (f2 : first ≤ 10) (m1 : 1 ≤ many) (m2 : many ≤ 100) :
    W (cFor (.nm 6) (iSeq (cV 2)) (cSeq (cSet (.nm 8) (cComp false [11] (.nm 11) (iArgs kRng2 (cCons (cV 3) (cCons (c2 kAdd (cV 3) (cV 4)) (cNil)))) (cYes) (.lst []) (pLst (c2 kItem (cGet2 (cV 6) (cV 11) (cF kTup (cCons (cK (.int 0)) (cCons (cK (.int 1)) (cNil))))) (cK (.int 0)))))) (cDrop (cML kAppend (cV 5) (cCons (cMS kJoin (cK (.str "")) (cComp false [12] (.nm 12) (iSeq (cV 8)) (cYes) (.lst []) (pLst (cIf (c2 kGt (cV 12) (cK (.int 0))) (cK (.str "+")) (cIf (c2 kLt (cV 12) (cK (.int 0))) (cK (.str "-")) (cK (.str "."))))))) (cNil))))) (Sg r L w first many (some (.ref (L + 1))) none none none none none none none) h) fun f h' =>
      ∃ s6 s8, f = .nx (Sg r L w first many (some (.ref (L + 1))) s6 none s8 none none none none) ∧ h'.length = L + 2 ∧ St hs r L N rows h' ∧ h'[L + 1]? = some (.lst ((rows.map fun o => lineOf (getF o) first many.toNat).map .str)) := by
  have lenr : (rows.map ownD).length = rows.length := List.length_map _
  let I : Nat → Sl → List Ob → Prop := fun i σ h' => ∃ s6 s8, σ = Sg r L w first many (some (.ref (L + 1))) s6 none s8 none none none none ∧ h'.length = L + 2 ∧ St hs r L N rows h' ∧ h'[L + 1]? = some (.lst (((rows.take i).map fun o => lineOf (getF o) first many.toNat).map .str))
  have fw := for_live (t := .nm 6) (b := cSeq (cSet (.nm 8) (cComp false [11] (.nm 11) (iArgs kRng2 (cCons (cV 3) (cCons (c2 kAdd (cV 3) (cV 4)) (cNil)))) (cYes) (.lst []) (pLst (c2 kItem (cGet2 (cV 6) (cV 11) (cF kTup (cCons (cK (.int 0)) (cCons (cK (.int 1)) (cNil))))) (cK (.int 0)))))) (cDrop (cML kAppend (cV 5) (cCons (cMS kJoin (cK (.str "")) (cComp false [12] (.nm 12) (iSeq (cV 8)) (cYes) (.lst []) (pLst (cIf (c2 kGt (cV 12) (cK (.int 0))) (cK (.str "+")) (cIf (c2 kLt (cV 12) (cK (.int 0))) (cK (.str "-")) (cK (.str "."))))))) (cNil)))))
    (s := iSeq (cV 2)) (σ := Sg r L w first many (some (.ref (L + 1))) none none none none none none none) (hs := h) ownD (fun h => lstOf h (.ref L)) rows I (hs1 := h) (iSeq_r (by simp [Sg]) s.row) ⟨none, none, rfl, hl, s, by simpa using g⟩ (fun i σ h' hi => by
      obtain ⟨s6, s8, _, _, st, _⟩ := hi
      exact lstOf_r st.row) (fun i o σ h' ho hi => by
      obtain ⟨s6, s8, rfl, hl', st, gl⟩ := hi
      have il := (List.getElem?_eq_some_iff.mp ho).1
      refine ⟨Sg r L w first many (some (.ref (L + 1))) (some (ownD o)) none s8 none none none none, rfl, ?_⟩
      refine W.seq_eq (σ' := Sg r L w first many (some (.ref (L + 1))) (some (ownD o)) none (some (.fl ((List.range many.toNat).map fun i => D.int (getF o (first + (i : Nat))).1))) none none none none) (hs' := h') ?_ ?_
      · rw [cSet_nm]
        unfold Sg
        rw [own_line (σ1 := none) (σ2 := none) (σ3 := none) (σ4 := none) (σ5 := none) (σ7 := none) (σ9 := none) (σ10 := none) m1 m2 (by omega) (by omega)]
        rfl
      · have e2 : cComp false [12] (.nm 12) (iSeq (cV 8)) (cYes) (.lst []) (pLst (cIf (c2 kGt (cV 12) (cK (.int 0))) (cK (.str "+")) (cIf (c2 kLt (cV 12) (cK (.int 0))) (cK (.str "-")) (cK (.str "."))))) (Sg r L w first many (some (.ref (L + 1))) (some (ownD o)) none (some (.fl ((List.range many.toNat).map fun i => D.int (getF o (first + (i : Nat))).1))) none none none none) h' = .ok (.fl (((List.range many.toNat).map fun i => sgn (getF o (first + (i : Nat))).1).map .str)) h' := by
          rw [List.map_map]
          refine comp_all (b := false) (fun i : Nat => D.int (getF o (first + (i : Nat))).1) (fun i => .str (sgn (getF o (first + (i : Nat))).1)) (List.range many.toNat) (iSeq_l (by simp [Sg])) (fun k hk => ⟨Sg r L w first many (some (.ref (L + 1))) (some (ownD o)) none (some (.fl ((List.range many.toNat).map fun i => D.int (getF o (first + (i : Nat))).1))) none none none (some (.int (getF o (first + (k : Nat))).1)), rfl, ?_⟩) (by rw [List.length_range]; omega)
          generalize (getF o (first + (k : Nat))).1 = z
          simp [Sg, sgn]
          by_cases z0 : 0 < z
          · have : ¬ z = 0 := by omega
            simp [z0, this]
          · by_cases z1 : z < 0
            · have : ¬ z = 0 := by omega
              simp [z0, z1, this]
            · have : z = 0 := by omega
              simp [this]
        have hj : (((List.range many.toNat).map fun i => sgn (getF o (first + (i : Nat))).1).map (·.length)).sum + ((List.range many.toNat).map fun i => sgn (getF o (first + (i : Nat))).1).length * ("" : Str).length ≤ 16777216 := by
          have h : ("" : Str).length = 0 := rfl
          have := sum_le (fun x : Str => x.length) 1 ((List.range many.toNat).map fun i => sgn (getF o (first + (i : Nat))).1) (fun x hx => by
            obtain ⟨i, _, rfl⟩ := List.mem_map.mp hx
            exact Nat.le_of_eq (sgn_len _))
          rw [h]
          rw [List.length_map, List.length_range] at this ⊢
          omega
        have e3 := kJoin_l (hs := h') hj
        have e4 := kAppend_v (x := .str (lineOf (getF o) first many.toNat)) gl (by rw [List.length_map, List.length_map, List.length_take]; omega)
        refine W.of (a := .nx (Sg r L w first many (some (.ref (L + 1))) (some (ownD o)) none (some (.fl ((List.range many.toNat).map fun i => D.int (getF o (first + (i : Nat))).1))) none none none none)) (hs := h'.set (L + 1) (.lst ((((rows.take i).map fun o => lineOf (getF o) first many.toNat).map .str) ++ [.str (lineOf (getF o) first many.toNat)]))) ?_ ⟨_, rfl, _, _, rfl, ?_, ?_, ?_⟩
        · rw [cDrop_v, cML_v (d := .ref (L + 1)) (hs1 := h') (by simp [Sg]) (lstOf_r gl)]
          rw [cCons_v, cMS_v, cK_v, bind_ok, if_pos isStr_v, e2, bind_ok, e3, bind_ok, cNil_v, bind_ok, bind_ok]
          show (kAppend (.ref (L + 1)) [.str (lineOf (getF o) first many.toNat)] h').bind _ = _
          rw [e4]
          rfl
        · rw [List.length_set, hl']
        · refine ⟨by rw [List.getElem?_set_ne (by omega)]; exact st.row, ?_, fun j h1 h2 => by rw [List.getElem?_set_ne (by omega)]; exact st.oth j h1 h2⟩
          obtain ⟨a, b, c, q, rst⟩ := st.pot.ex
          exact ⟨a, b, c, by rw [List.getElem?_set_ne (by omega)]; exact q, rst⟩
        · rw [List.getElem?_set_self (by omega), List.take_succ, ho]
          simp)
  refine fw.mono fun f h' ⟨σ', e, s6, s8, e7, a, b, c⟩ => ⟨s6, s8, by rw [e, e7], a, b, ?_⟩
  rw [List.take_length] at c
  exact c
end
end PL.C

set_option Elab.async false
set_option linter.all false
set_option maxRecDepth 100000
set_option maxHeartbeats 4000000
set_option autoImplicit false
set_option exponentiation.threshold 20000
namespace PL.C
open PySem PySem.Spec PyProof.Rows L2
section
variable {hs : List Ob} {r n : Nat}
theorem kJoin_r {x : Str} {ys : List Str} {i : Nat} (g : hs[i]? = some (.lst (ys.map .str))) (h : (ys.map (·.length)).sum + ys.length * x.length ≤ 16777216) : kJoin (.str x) (.ref i) hs = .ok (.str (Txt.join x ys)) hs := by
  have e : seqOf hs (.ref i) = some (ys.map .str) := by
    unfold seqOf
    exact lstOf_r g
  unfold kJoin
  dsimp only
  rw [e, Option.bind_some, asStrs_map]
  dsimp only
  rw [if_pos h]
theorem lines_ok {rows : List Own} {first many : Int} (lr : rows.length ≤ 12) (m2 : many ≤ 100) : ((rows.map fun o => lineOf (getF o) first many.toNat).map (·.length)).sum + (rows.map fun o => lineOf (getF o) first many.toNat).length * ("\n" : Str).length ≤ 16777216 := by
  have h : ("\n" : Str).length = 1 := rfl
  have := sum_le (fun x : Str => x.length) 100 (rows.map fun o => lineOf (getF o) first many.toNat) (fun x hx => by
    obtain ⟨o, _, rfl⟩ := List.mem_map.mp hx
    have := lineOf_len (g := getF o) (first := first) (many := many.toNat)
    omega)
  rw [h]
  rw [List.length_map] at this ⊢
  omega
theorem told_fun (o : Own) : worthAt (toldRow o).1 (toldRow o).2 = getF o := funext fun m => told_at m
theorem fuel_20 {k : Nat} (h : k < 2 ^ 20) : k < FUEL := Nat.lt_of_lt_of_le h (fuel_le (by decide))
/-- the signs are the law's own -/
theorem right_5 {L N : Nat} {rows : List Own} {h : List Ob} {w : Bool} {first many : Int} {s6 s8 : Option D} (s : St hs r L N rows h) (g : h[L + 1]? = some (.lst ((rows.map fun o => lineOf (getF o) first many.toNat).map .str))) (l1 : 1 ≤ rows.length) (lr : rows.length ≤ 12) (nr : ∀ o ∈ rows, Nice 20 o) (f1 : -10 ≤ first) (f2 : first ≤ 10) (m1 : 1 ≤ many) (m2 : many ≤ 100) :
    cIfS (c2 kNe (cCallK 0 3 [0, 1, 2] C.f_signs cNil (cCons (cF (one kTupOf) (cCons (cComp false [6] (.nm 6) (iSeq (cV 2)) (cYes) (.lst []) (pLst (cF C.f__law_told_row (cCons (cV 6) (cNil))))) (cNil))) (cCons (cV 3) (cCons (cV 4) (cNil))))) (cMS kJoin (cK (.str "\n")) (cV 5))) (cRet (cK (.bl false))) (cNext) (Sg r L w first many (some (.ref (L + 1))) s6 none s8 none none none none) h = .ok (.nx (Sg r L w first many (some (.ref (L + 1))) s6 none s8 none none none none)) h := by
  have e1 : cComp false [6] (.nm 6) (iSeq (cV 2)) (cYes) (.lst []) (pLst (cF C.f__law_told_row (cCons (cV 6) (cNil)))) (Sg r L w first many (some (.ref (L + 1))) s6 none s8 none none none none) h = .ok (.fl ((rows.map toldRow).map fun r => rowD r.1 r.2)) h := by
    rw [List.map_map]
    exact comp_live (b := false) ownD (fun o => rowD (toldRow o).1 (toldRow o).2) (fun h => lstOf h (.ref L)) rows (iSeq_r (by simp [Sg]) s.row) (lstOf_r s.row) (fun o ho => ⟨Sg r L w first many (some (.ref (L + 1))) (some (ownD o)) none s8 none none none none, rfl, by simp [Sg, told_row_v (nr o ho).key]⟩) (by omega)
  have e2 := signs_v (hs := h) (rows := rows.map toldRow) (first := first) (many := many) (by simpa using l1) (by simpa using lr) (fun q hq => by
    obtain ⟨o, ho, rfl⟩ := List.mem_map.mp hq
    exact ⟨told_ok (nr o ho) (by decide), told_len (nr o ho).key, fun q hq => fuel_20 (told_val (nr o ho) (by decide) q hq).2.2⟩) m1 m2 (by omega) (by omega)
  have e3 : ((rows.map toldRow).map fun r => lineOf (worthAt r.1 r.2) first many.toNat) = rows.map fun o => lineOf (getF o) first many.toNat := by
    rw [List.map_map]
    exact List.map_congr_left fun o _ => by
      show lineOf (worthAt (toldRow o).1 (toldRow o).2) first many.toNat = _
      rw [told_fun]
  rw [e3] at e2
  have e4 := kJoin_r g (lines_ok lr m2)
  generalize (rows.map toldRow).map (fun r => rowD r.1 r.2) = R at *
  generalize Txt.join "\n" (rows.map fun o => lineOf (getF o) first many.toNat) = Z at *
  have e5 : cCallK 0 3 [0, 1, 2] C.f_signs cNil (cCons (cF (one kTupOf) (cCons (cComp false [6] (.nm 6) (iSeq (cV 2)) (cYes) (.lst []) (pLst (cF C.f__law_told_row (cCons (cV 6) (cNil))))) (cNil))) (cCons (cV 3) (cCons (cV 4) (cNil)))) (Sg r L w first many (some (.ref (L + 1))) s6 none s8 none none none none) h = .ok (.str Z) h := by
    unfold cCallK
    have v3 : cV 3 (Sg r L w first many (some (.ref (L + 1))) s6 none s8 none none none none) h = .ok (.int first) h := rfl
    have v4 : cV 4 (Sg r L w first many (some (.ref (L + 1))) s6 none s8 none none none none) h = .ok (.int many) h := rfl
    simp [e1, v3, v4, reord, e2]
  have v5 : cV 5 (Sg r L w first many (some (.ref (L + 1))) s6 none s8 none none none none) h = .ok (.ref (L + 1)) h := rfl
  simp [e5, v5, e4]
theorem barsL_ok {g : Int → Fr} {q : Fr} {first many : Int} (hg : ∀ m, 0 < (g m).2) (q1 : 0 < q.1) (q2 : 0 < q.2) (m2 : many ≤ 100) : (((List.range many.toNat).map fun k => barS (decide ((g (first + (k : Nat))).1 < 0)) (barOf (g (first + (k : Nat))) q)).map (·.length)).sum + ((List.range many.toNat).map fun k => barS (decide ((g (first + (k : Nat))).1 < 0)) (barOf (g (first + (k : Nat))) q)).length * ("\n" : Str).length ≤ 16777216 := by
  have h : ("\n" : Str).length = 1 := rfl
  have := sum_le (fun x : Str => x.length) 51 ((List.range many.toNat).map fun k => barS (decide ((g (first + (k : Nat))).1 < 0)) (barOf (g (first + (k : Nat))) q)) (fun x hx => by
    obtain ⟨k, _, rfl⟩ := List.mem_map.mp hx
    exact barS_len (barOf_nn (hg _) q1 q2) (Int.min_le_right _ _))
  rw [h]
  rw [List.length_map, List.length_range] at this ⊢
  omega
/-- the bars, step by step -/
theorem right_6 {L N : Nat} {rows : List Own} {h : List Ob} {w : Bool} {first many : Int} {s6 s7 s8 s9 : Option D} {q : Fr} (s : St hs r L N rows h) (hq : q ∈ pool2) (l1 : 1 ≤ rows.length) (nr : ∀ o ∈ rows, Nice 20 o) (f1 : -10 ≤ first) (f2 : first ≤ 10) (m1 : 1 ≤ many) (m2 : many ≤ 100) :
    ∃ s9', cSeq (cSet (.nm 9) (cMS kJoin (cK (.str "\n")) (cComp false [11] (.nm 11) (iArgs kRng2 (cCons (cV 3) (cCons (c2 kAdd (cV 3) (cV 4)) (cNil)))) (cYes) (.lst []) (pLst (cF C.f__law_bar (cCons (cGet2 (c2 kItem (cV 2) (cK (.int 0))) (cV 11) (cF kTup (cCons (cK (.int 0)) (cCons (cK (.int 1)) (cNil))))) (cCons (cV 7) (cNil)))))))) (cIfS (c2 kNe (cCallK 0 4 [0, 1, 2, 3] C.f_bars cNil (cCons (cF C.f__law_told_row (cCons (c2 kItem (cV 2) (cK (.int 0))) (cNil))) (cCons (cV 3) (cCons (cV 4) (cCons (cV 7) (cNil)))))) (cV 9)) (cRet (cK (.bl false))) (cNext))
      (Sg r L w first many (some (.ref (L + 1))) s6 (some (frD q)) s8 s9 none none none) h = .ok (.nx (Sg r L w first many (some (.ref (L + 1))) s6 (some (frD q)) s8 s9' none none none)) h := by
  cases rows with
  | nil => simp at l1
  | cons o rest =>
    have no := nr o List.mem_cons_self
    have qb : okFr q = true ∧ 0 < q.1 ∧ 0 < q.2 ∧ q.1.natAbs < 2 ^ 20 ∧ q.2.natAbs < 2 ^ 20 := by
      have : ∀ q ∈ pool2, okFr q = true ∧ 0 < q.1 ∧ 0 < q.2 ∧ q.1.natAbs < 2 ^ 20 ∧ q.2.natAbs < 2 ^ 20 := by decide +kernel
      exact this q hq
    obtain ⟨q0, q1, q2, q3, q4⟩ := qb
    have g0 : kItem (.ref L) (.int 0) h = .ok (ownD o) h := kItem_r s.row (atI_nat (j := 0) rfl)
    have gv : ∀ m, 0 < (getF o m).2 := fun m => okFr_pos (no.getF (by decide) m).1
    have e1 : cComp false [11] (.nm 11) (iArgs kRng2 (cCons (cV 3) (cCons (c2 kAdd (cV 3) (cV 4)) (cNil)))) (cYes) (.lst []) (pLst (cF C.f__law_bar (cCons (cGet2 (c2 kItem (cV 2) (cK (.int 0))) (cV 11) (cF kTup (cCons (cK (.int 0)) (cCons (cK (.int 1)) (cNil))))) (cCons (cV 7) (cNil))))) (Sg r L w first many (some (.ref (L + 1))) s6 (some (frD q)) s8 s9 none none none) h = .ok (.fl (((List.range many.toNat).map fun k => barS (decide ((getF o (first + (k : Nat))).1 < 0)) (barOf (getF o (first + (k : Nat))) q)).map .str)) h := by
      have e := comp_all (b := false) (vs := [11]) (t := .nm 11) (σ := Sg r L w first many (some (.ref (L + 1))) s6 (some (frD q)) s8 s9 none none none) (hs := h) (e := cF C.f__law_bar (cCons (cGet2 (c2 kItem (cV 2) (cK (.int 0))) (cV 11) (cF kTup (cCons (cK (.int 0)) (cCons (cK (.int 1)) (cNil))))) (cCons (cV 7) (cNil)))) (s := iArgs kRng2 (cCons (cV 3) (cCons (c2 kAdd (cV 3) (cV 4)) (cNil)))) (fun i : Nat => D.int (first + (i : Nat))) (fun k => .str (barS (decide ((getF o (first + (k : Nat))).1 < 0)) (barOf (getF o (first + (k : Nat))) q))) (List.range (first + many - first).toNat) (rng2_v (by simp [Sg]) (by omega) (by omega) (by omega) (by omega)) (fun k _ => ⟨Sg r L w first many (some (.ref (L + 1))) s6 (some (frD q)) s8 s9 none (some (.int (first + (k : Nat)))) none, rfl, by
        obtain ⟨a, b, c⟩ := no.getF (by decide) (first + (k : Nat))
        have lb := law_bar_v (hs := h) (q := getF o (first + (k : Nat))) (s := q) (i := 20) (gv _) q1 q2 b c q3 q4 (by decide) (by decide)
        simp [Sg, g0, get_own, lb]⟩) (by rw [List.length_range]; omega)
      rw [e, show first + many - first = many by omega, List.map_map]
      rfl
    have e2 := kJoin_l (hs := h) (barsL_ok (g := getF o) (q := q) (first := first) (many := many) gv q1 q2 m2)
    have e3 := told_row_v (hs := h) no.key
    have e4 := bars_v (hs := h) (f := (toldRow o).1) (ws := (toldRow o).2) (s := q) (first := first) (many := many) (i := 20) (told_ok no (by decide)) (told_len no.key) (told_val no (by decide)) m1 m2 (by omega) (by omega) q0 q1 q3 q4 (by decide) (by decide)
    rw [told_fun] at e4
    generalize D.fl (((List.range many.toNat).map fun k => barS (decide ((getF o (first + (k : Nat))).1 < 0)) (barOf (getF o (first + (k : Nat))) q)).map .str) = B at *
    generalize Txt.join "\n" ((List.range many.toNat).map fun k => barS (decide ((getF o (first + (k : Nat))).1 < 0)) (barOf (getF o (first + (k : Nat))) q)) = Z at *
    refine ⟨some (.str Z), ?_⟩
    have e5 : cSet (.nm 9) (cMS kJoin (cK (.str "\n")) (cComp false [11] (.nm 11) (iArgs kRng2 (cCons (cV 3) (cCons (c2 kAdd (cV 3) (cV 4)) (cNil)))) (cYes) (.lst []) (pLst (cF C.f__law_bar (cCons (cGet2 (c2 kItem (cV 2) (cK (.int 0))) (cV 11) (cF kTup (cCons (cK (.int 0)) (cCons (cK (.int 1)) (cNil))))) (cCons (cV 7) (cNil))))))) (Sg r L w first many (some (.ref (L + 1))) s6 (some (frD q)) s8 s9 none none none) h = .ok (.nx (Sg r L w first many (some (.ref (L + 1))) s6 (some (frD q)) s8 (some (.str Z)) none none none)) h := by
      rw [cSet_nm, cMS_v, cK_v, bind_ok, if_pos isStr_v, e1, bind_ok, e2, bind_ok]
      rfl
    rw [cSeq_v, e5, nxt_nx]
    have v2 : cV 2 (Sg r L w first many (some (.ref (L + 1))) s6 (some (frD q)) s8 (some (.str Z)) none none none) h = .ok (.ref L) h := rfl
    have v3 : cV 3 (Sg r L w first many (some (.ref (L + 1))) s6 (some (frD q)) s8 (some (.str Z)) none none none) h = .ok (.int first) h := rfl
    have v4 : cV 4 (Sg r L w first many (some (.ref (L + 1))) s6 (some (frD q)) s8 (some (.str Z)) none none none) h = .ok (.int many) h := rfl
    have v7 : cV 7 (Sg r L w first many (some (.ref (L + 1))) s6 (some (frD q)) s8 (some (.str Z)) none none none) h = .ok (frD q) h := rfl
    have v9 : cV 9 (Sg r L w first many (some (.ref (L + 1))) s6 (some (frD q)) s8 (some (.str Z)) none none none) h = .ok (.str Z) h := rfl
    have e6 : cCallK 0 4 [0, 1, 2, 3] C.f_bars cNil (cCons (cF C.f__law_told_row (cCons (c2 kItem (cV 2) (cK (.int 0))) (cNil))) (cCons (cV 3) (cCons (cV 4) (cCons (cV 7) (cNil))))) (Sg r L w first many (some (.ref (L + 1))) s6 (some (frD q)) s8 (some (.str Z)) none none none) h = .ok (.str Z) h := by
      unfold cCallK
      simp [v2, v3, v4, v7, g0, e3, reord, e4]
    simp [e6, v9]
end
end PL.C

set_option Elab.async false
set_option linter.all false
set_option maxRecDepth 100000
set_option maxHeartbeats 4000000
set_option autoImplicit false
set_option exponentiation.threshold 20000
namespace PL.C
open PySem PySem.Spec PyProof.Rows L2
section
variable {hs : List Ob} {r n : Nat}
theorem flat_of {L N : Nat} {rows : List Own} {h : List Ob} {ls : List Str} (fl : Flat hs) (s : St hs r L N rows h) (hl : h.length = L + 2) (g : h[L + 1]? = some (.lst (ls.map .str))) : Flat h := fun o ho m => by
  obtain ⟨i, hi⟩ := List.getElem?_of_mem ho
  have il := (List.getElem?_eq_some_iff.mp hi).1
  by_cases e1 : i = L + 1
  · subst e1
    rw [g] at hi
    cases hi
    refine ltRs_all fun x hx => ?_
    obtain ⟨y, _, rfl⟩ := List.mem_map.mp hx
    rfl
  · by_cases e2 : i = L
    · subst e2
      rw [s.row] at hi
      cases hi
      refine ltRs_all fun x hx => ?_
      obtain ⟨y, _, rfl⟩ := List.mem_map.mp hx
      exact ltR_own
    · by_cases e3 : i = r
      · subst e3
        obtain ⟨a, b, c, q, _⟩ := s.pot.ex
        rw [q] at hi
        cases hi
        simp [ltO, ltRs, ltR]
      · rw [s.oth i (by omega) e3] at hi
        exact fl o (List.mem_of_getElem? hi) m
theorem right_w {tk : Fn} (ht : TakeOk tk) (p : PotAt r n hs) (fl : Flat hs) (hn : n < 2 ^ 40) : W (f__law_right tk [.ref r] hs) fun d h => d = .bl true ∧ Drawn r (n + 5000) hs h := by
  have rl := p.lt
  have body : W (b__law_right tk [some (.ref r), none, none, none, none, none, none, none, none, none, none, none, none] hs) fun f h => f = .rt (.bl true) ∧ ∃ rows, h.length = hs.length + 2 ∧ St hs r hs.length (n + 5000) rows h := by
    unfold b__law_right
    obtain ⟨d, h0, e0, v, rfl, v0, v1, dr⟩ := (ht.w (u := 4) p (by decide) (small_8000 (by decide)) (by omega)).ex
    refine W.seq_eq (σ' := [some (.ref r), some (.bl (decide (v = 0))), none, none, none, none, none, none, none, none, none, none, none]) (hs' := h0) (by simp [e0]) ?_
    refine W.seq ((right_1 ht (n := n + 1) dr.pot (by omega) none (decide (v = 0))).mono fun f h1 ⟨rows, ef, l1, l12, nr, hl1, st1⟩ => ?_)
    rw [dr.len] at ef hl1 st1
    refine ⟨_, ef, ?_⟩
    have st1 : St hs r hs.length (n + 1 + 4000) rows h1 := ⟨st1.row, st1.pot, fun j a b => by rw [st1.oth j a b, dr.oth j b]⟩
    refine W.seq ((right_2 ht st1 rl (by omega) l1 nr _ rfl).mono fun f h2 ⟨rows2, ef, lr, nr2, hl2, st2⟩ => ⟨_, ef, ?_⟩)
    refine W.seq ((right_3 ht st2 rl (by omega)).mono fun f h3 ⟨first, many, ef, f1, f2, m1, m2, hl3, st3⟩ => ⟨_, ef, ?_⟩)
    have hl4 : h3.length = hs.length + 1 := by rw [hl3, hl2, hl1]
    have e5 : cSet (.nm 5) (cF (kLst true) (cNil)) (Sg r hs.length (decide (v = 0)) first many none none none none none none none none) h3 = .ok (.nx (Sg r hs.length (decide (v = 0)) first many (some (.ref (hs.length + 1))) none none none none none none none)) (h3 ++ [.lst []]) := by
      have k2 : kLst true [] h3 = .ok (.ref h3.length) (h3 ++ [.lst []]) := kLst_v (by simp)
      rw [cSet_nm, cF_v, cNil_v, bind_ok, k2, bind_ok, hl4]
      rfl
    refine W.seq_eq e5 ?_
    have st4 : St hs r hs.length (n + 1 + 4000 + 1 + 2) rows2 (h3 ++ [.lst []]) := by
      refine ⟨by rw [List.getElem?_append_left (by omega)]; exact st3.row, ?_, fun j a b => by rw [List.getElem?_append_left (by omega)]; exact st3.oth j a b⟩
      obtain ⟨a, b, c, q, rst⟩ := st3.pot.ex
      exact ⟨a, b, c, by rw [List.getElem?_append_left (by omega)]; exact q, rst⟩
    have hl5 : (h3 ++ [Ob.lst []]).length = hs.length + 2 := by rw [List.length_append, hl4]; rfl
    have gl : (h3 ++ [Ob.lst []])[hs.length + 1]? = some (.lst []) := by rw [← hl4, List.getElem?_concat_length]
    refine W.seq ((right_4 st4 hl5 rl gl (by omega) f1 f2 m1 m2).mono fun f h6 ⟨s6, s8, ef, hl6, st6, g6⟩ => ⟨_, ef, ?_⟩)
    refine W.seq_eq (right_5 st6 g6 (by omega) (by omega) nr2 f1 f2 m1 m2) ?_
    have fl6 := flat_of fl st6 hl6 g6
    obtain ⟨d, h7, e7, ys, rfl, hys, dr7⟩ := (some_w ht (pool := pool2) (many := 4) st6.pot fl6 (by decide) (by decide) (by omega)).ex
    have src : iSeq (cF (C.f__law_some tk) (cCons (cV 0) (cCons (cF (kLst false) (cCons (cF kTup (cCons (cK (.int 1)) (cCons (cK (.int 1)) (cNil)))) (cCons (cF kTup (cCons (cK (.int 1)) (cCons (cK (.int 2)) (cNil)))) (cCons (cF kTup (cCons (cK (.int 1)) (cCons (cK (.int 3)) (cNil)))) (cCons (cF kTup (cCons (cK (.int 3)) (cCons (cK (.int 2)) (cNil)))) (cCons (cF kTup (cCons (cK (.int 5)) (cCons (cK (.int 1)) (cNil)))) (cCons (cF kTup (cCons (cK (.int 2)) (cCons (cK (.int 3)) (cNil)))) (cCons (cF kTup (cCons (cK (.int 1)) (cCons (cK (.int 10)) (cNil)))) (cCons (cF kTup (cCons (cK (.int 3)) (cCons (cK (.int 70)) (cNil)))) (cNil)))))))))) (cCons (cK (.int 4)) (cNil))))) (Sg r hs.length (decide (v = 0)) first many (some (.ref (hs.length + 1))) s6 none s8 none none none none) h6 = .ok (.seq (ys.map frD)) h7 := by
      have pv := pool2_v (hs := h6) (σ := Sg r hs.length (decide (v = 0)) first many (some (.ref (hs.length + 1))) s6 none s8 none none none none)
      generalize cF (kLst false) (cCons (cF kTup (cCons (cK (.int 1)) (cCons (cK (.int 1)) (cNil)))) (cCons (cF kTup (cCons (cK (.int 1)) (cCons (cK (.int 2)) (cNil)))) (cCons (cF kTup (cCons (cK (.int 1)) (cCons (cK (.int 3)) (cNil)))) (cCons (cF kTup (cCons (cK (.int 3)) (cCons (cK (.int 2)) (cNil)))) (cCons (cF kTup (cCons (cK (.int 5)) (cCons (cK (.int 1)) (cNil)))) (cCons (cF kTup (cCons (cK (.int 2)) (cCons (cK (.int 3)) (cNil)))) (cCons (cF kTup (cCons (cK (.int 1)) (cCons (cK (.int 10)) (cNil)))) (cCons (cF kTup (cCons (cK (.int 3)) (cCons (cK (.int 70)) (cNil)))) (cNil))))))))) = P at *
      generalize D.fl (pool2.map frD) = P2 at *
      have v0 : cV 0 (Sg r hs.length (decide (v = 0)) first many (some (.ref (hs.length + 1))) s6 none s8 none none none none) h6 = .ok (.ref r) h6 := rfl
      unfold iSeq
      rw [cF_v, cCons_v, v0, bind_ok, cCons_v, pv, bind_ok, cCons_v, cK_v, bind_ok, cNil_v, bind_ok, bind_ok, bind_ok, bind_ok]
      have e7' : f__law_some tk [.ref r, P2, .int 4] h6 = .ok (.fl (ys.map frD)) h7 := e7
      rw [e7']
      rfl
    have st7 := st6.drawn dr7 rl
    have fw := for_seq (t := .nm 7) (σ := Sg r hs.length (decide (v = 0)) first many (some (.ref (hs.length + 1))) s6 none s8 none none none none) (hs := h6) frD ys (fun _ σ h => ∃ s7 s9, σ = Sg r hs.length (decide (v = 0)) first many (some (.ref (hs.length + 1))) s6 s7 s8 s9 none none none ∧ h = h7) src ⟨none, none, rfl, rfl⟩ (b := cSeq (cSet (.nm 9) (cMS kJoin (cK (.str "\n")) (cComp false [11] (.nm 11) (iArgs kRng2 (cCons (cV 3) (cCons (c2 kAdd (cV 3) (cV 4)) (cNil)))) (cYes) (.lst []) (pLst (cF C.f__law_bar (cCons (cGet2 (c2 kItem (cV 2) (cK (.int 0))) (cV 11) (cF kTup (cCons (cK (.int 0)) (cCons (cK (.int 1)) (cNil))))) (cCons (cV 7) (cNil)))))))) (cIfS (c2 kNe (cCallK 0 4 [0, 1, 2, 3] C.f_bars cNil (cCons (cF C.f__law_told_row (cCons (c2 kItem (cV 2) (cK (.int 0))) (cNil))) (cCons (cV 3) (cCons (cV 4) (cCons (cV 7) (cNil)))))) (cV 9)) (cRet (cK (.bl false))) (cNext)))
      (fun i q σ h hq ⟨s7, s9, es, eh⟩ => by
        subst es eh
        refine ⟨Sg r hs.length (decide (v = 0)) first many (some (.ref (hs.length + 1))) s6 (some (frD q)) s8 s9 none none none, rfl, ?_⟩
        obtain ⟨s9', e9⟩ := right_6 (w := decide (v = 0)) (s7 := none) (s6 := s6) (s8 := s8) (s9 := s9) st7 (hys q (List.mem_of_getElem? hq)) (by omega) nr2 f1 f2 m1 m2
        exact W.of e9 ⟨_, rfl, some (frD q), s9', rfl, rfl⟩)
    refine W.seq (fw.mono fun f h8 ⟨σ', ef, s7, s9, es, eh⟩ => ⟨σ', ef, ?_⟩)
    subst eh
    refine W.of (a := .rt (.bl true)) (hs := h8) rfl ⟨rfl, rows2, by rw [dr7.len, hl6], ⟨st7.row, st7.pot.mono (by omega), st7.oth⟩⟩
  obtain ⟨f, h, eb, ef, rows, hl, st⟩ := body.ex
  subst ef
  have tl : (h.take hs.length).length = hs.length := by rw [List.length_take, hl]; omega
  have dr : Drawn r (n + 5000) hs (h.take hs.length) := by
    refine ⟨?_, tl, fun j hj => ?_⟩
    · obtain ⟨a, b, c, g, rest⟩ := st.pot.ex
      exact ⟨a, b, c, by rw [List.getElem?_take_of_lt rl]; exact g, rest⟩
    · by_cases hjl : j < hs.length
      · rw [List.getElem?_take_of_lt hjl]
        exact st.oth j hjl hj
      · rw [List.getElem?_eq_none (by rw [tl]; omega), List.getElem?_eq_none (by omega)]
  have fz : fzD h hs.length 9 (.bl true) = .bl true := rfl
  have lv : leave hs (.ok (.rt (.bl true)) h) = .ok (.bl true) (h.take hs.length) := by
    unfold leave finD
    dsimp only
    rw [if_neg (by rw [hl]; omega), fz, if_pos]
    exact ⟨rfl, List.all_eq_true.mpr fun o ho => (fl.drawn dr) o ho _⟩
  refine W.of (a := .bl true) (hs := h.take hs.length) ?_ ⟨rfl, dr⟩
  unfold f__law_right
  rw [mkFn_v (np := 1) rfl]
  have st0 : startD 13 [.ref r] = [some (.ref r), none, none, none, none, none, none, none, none, none, none, none, none] := rfl
  rw [st0, eb]
  exact lv
end
end PL.C

set_option Elab.async false
set_option linter.all false
set_option maxRecDepth 100000
set_option maxHeartbeats 4000000
set_option autoImplicit false
set_option exponentiation.threshold 20000
namespace PL.C
open PySem PySem.Spec PyProof.Rows L2
/-! ## fractions are rational numbers -/
def toF (r : Rat) : Fr := (r.num, (r.den : Int))
theorem toF_inj {a b : Rat} (h : toF a = toF b) : a = b := by
  unfold toF at h
  exact Rat.ext (congrArg Prod.fst h) (Int.ofNat.inj (congrArg Prod.snd h))
theorem toF_ok (r : Rat) : okFr (toF r) = true := by
  unfold okFr toF
  rw [Bool.and_eq_true]
  refine ⟨decide_eq_true ?_, decide_eq_true ?_⟩
  · have := r.den_pos
    show (1 : Int) ≤ (r.den : Int)
    omega
  · show Int.gcd r.num (r.den : Int) = 1
    rw [Int.gcd_eq_natAbs_gcd_natAbs]
    exact r.reduced
theorem ok_toF {q : Fr} (h : okFr q = true) : ∃ r : Rat, q = toF r := by
  have p := okFr_pos h
  unfold okFr at h
  rw [Bool.and_eq_true] at h
  have g := of_decide_eq_true h.2
  refine ⟨⟨q.1, q.2.natAbs, by omega, by rw [Int.gcd_eq_natAbs_gcd_natAbs] at g; exact g⟩, ?_⟩
  unfold toF
  refine Prod.ext rfl ?_
  show q.2 = ((q.2.natAbs : Nat) : Int)
  omega
theorem redF_div {a b : Int} (h : 0 < b) : redF a b = toF (Rat.divInt a b) := by
  unfold redF toF
  rw [Rat.num_divInt, Rat.den_divInt, Int.gcd_comm b a, if_neg (by omega), Int.sign_eq_one_of_pos h, Int.one_mul]
  refine Prod.ext rfl ?_
  show b / ((Int.gcd a b : Nat) : Int) = ((b.natAbs / Int.gcd a b : Nat) : Int)
  rw [Int.natCast_ediv]
  congr 1
  omega
theorem redF_mk {a : Int} {b : Nat} (h : b ≠ 0) : redF a (b : Int) = toF (mkRat a b) := by
  rw [redF_div (by omega), Rat.divInt_ofNat]
theorem mulF_toF (a b : Rat) : mulF (toF a) (toF b) = toF (a * b) := by
  unfold mulF
  show redF (a.num * b.num) ((a.den : Int) * (b.den : Int)) = _
  rw [Rat.mul_def', ← redF_mk (Nat.mul_ne_zero a.den_nz b.den_nz)]
  simp
def addF (p q : Fr) : Fr := redF (p.1 * q.2 + q.1 * p.2) (p.2 * q.2)
def subF (p q : Fr) : Fr := redF (p.1 * q.2 - q.1 * p.2) (p.2 * q.2)
theorem addF_toF (a b : Rat) : addF (toF a) (toF b) = toF (a + b) := by
  unfold addF
  show redF (a.num * (b.den : Int) + b.num * (a.den : Int)) ((a.den : Int) * (b.den : Int)) = _
  rw [Rat.add_def', ← redF_mk (Nat.mul_ne_zero a.den_nz b.den_nz)]
  simp
theorem subF_toF (a b : Rat) : subF (toF a) (toF b) = toF (a - b) := by
  unfold subF
  show redF (a.num * (b.den : Int) - b.num * (a.den : Int)) ((a.den : Int) * (b.den : Int)) = _
  rw [Rat.sub_def', ← redF_mk (Nat.mul_ne_zero a.den_nz b.den_nz)]
  simp
theorem toF_0 : toF 0 = (0, 1) := rfl
theorem toF_eq0 {r : Rat} : toF r = (0, 1) ↔ r = 0 := ⟨fun h => toF_inj (h.trans toF_0.symm), fun h => by rw [h]; rfl⟩
end PL.C

set_option Elab.async false
set_option linter.all false
set_option maxRecDepth 100000
set_option maxHeartbeats 4000000
set_option autoImplicit false
set_option exponentiation.threshold 20000
namespace PL.C
open PySem PySem.Spec PyProof.Rows L2
/-- a bound of a fraction's numbers -/
def Bd (i : Nat) (r : Rat) : Prop := r.num.natAbs < 2 ^ i ∧ r.den < 2 ^ i
def frQ (r : Rat) : D := frD (toF r)
theorem Bd.mono {i j : Nat} {r : Rat} (h : Bd i r) (l : i ≤ j) : Bd j r :=
  ⟨Nat.lt_of_lt_of_le h.1 (Nat.pow_le_pow_right (by decide) l), Nat.lt_of_lt_of_le h.2 (Nat.pow_le_pow_right (by decide) l)⟩
theorem Bd.den {i : Nat} {r : Rat} (h : Bd i r) : ((r.den : Nat) : Int).natAbs < 2 ^ i := by simpa using h.2
theorem bd_red {a b : Int} {i : Nat} {r : Rat} (h : 0 < b) (e : redF a b = toF r) (ha : a.natAbs < 2 ^ i) (hb : b.natAbs < 2 ^ i) : Bd i r := by
  obtain ⟨l1, l2⟩ := redF_le (a := a) h
  rw [e] at l1 l2
  exact ⟨Nat.lt_of_le_of_lt l1 ha, Nat.lt_of_le_of_lt (by simpa [toF] using l2) hb⟩
theorem add_lt_pow {a b : Int} {i : Nat} (ha : a.natAbs < 2 ^ i) (hb : b.natAbs < 2 ^ i) : (a + b).natAbs < 2 ^ (i + 1) := by
  have : (2 : Nat) ^ (i + 1) = 2 * 2 ^ i := by rw [Nat.pow_succ, Nat.mul_comm]
  omega
theorem sub_lt_pow {a b : Int} {i : Nat} (ha : a.natAbs < 2 ^ i) (hb : b.natAbs < 2 ^ i) : (a - b).natAbs < 2 ^ (i + 1) := by
  have : (2 : Nat) ^ (i + 1) = 2 * 2 ^ i := by rw [Nat.pow_succ, Nat.mul_comm]
  omega
theorem denpos (r : Rat) : (0 : Int) < (r.den : Int) := by have := r.den_pos; omega
theorem denmul (a b : Rat) : (0 : Int) < (a.den : Int) * (b.den : Int) := Int.mul_pos (denpos a) (denpos b)
theorem Bd.add {i : Nat} {a b : Rat} (ha : Bd i a) (hb : Bd i b) : Bd (i + i + 1) (a + b) := by
  have e := addF_toF a b
  unfold addF at e
  exact bd_red (denmul a b) e (add_lt_pow (mul_lt_pow ha.1 hb.den) (mul_lt_pow hb.1 ha.den)) (Nat.lt_of_lt_of_le (mul_lt_pow ha.den hb.den) (Nat.pow_le_pow_right (by decide) (by omega)))
theorem Bd.sub {i : Nat} {a b : Rat} (ha : Bd i a) (hb : Bd i b) : Bd (i + i + 1) (a - b) := by
  have e := subF_toF a b
  unfold subF at e
  exact bd_red (denmul a b) e (sub_lt_pow (mul_lt_pow ha.1 hb.den) (mul_lt_pow hb.1 ha.den)) (Nat.lt_of_lt_of_le (mul_lt_pow ha.den hb.den) (Nat.pow_le_pow_right (by decide) (by omega)))
theorem Bd.mul {i : Nat} {a b : Rat} (ha : Bd i a) (hb : Bd i b) : Bd (i + i) (a * b) := by
  have e := mulF_toF a b
  unfold mulF at e
  exact bd_red (denmul a b) e (mul_lt_pow ha.1 hb.1) (mul_lt_pow ha.den hb.den)
section
variable {hs : List Ob}
@[simp] theorem frQ_0 {r : Rat} : kItem (frQ r) (.int 0) hs = .ok (.int r.num) hs := fr_0
@[simp] theorem frQ_1 {r : Rat} : kItem (frQ r) (.int 1) hs = .ok (.int (r.den : Int)) hs := fr_1
/-- the program's fraction, of a bottom above 0 -/
theorem fractionP_v {a b : Int} (h : 0 < b) (hb : b.natAbs < 2 ^ 8000) : f_fraction [.int a, .int b] hs = .ok (frD (redF a b)) hs := by
  have g0 : 0 < Int.gcd a b := Int.gcd_pos_of_ne_zero_right _ (by omega)
  have g1 : Int.gcd a b ≤ b.natAbs := Nat.le_of_dvd (by omega) (by rw [Int.gcd_eq_natAbs_gcd_natAbs]; exact Nat.gcd_dvd_right _ _)
  have e := common_v (hs := hs) (a := a) (b := b) (Nat.lt_of_lt_of_le hb (fuel_le (by decide)))
  have lg : ((Int.gcd a b : Nat) : Int).natAbs.log2 < 9000 := by
    rw [Int.natAbs_natCast]
    exact Nat.lt_of_lt_of_le (log2_lt (Nat.lt_of_le_of_lt g1 hb) (by decide)) (by decide)
  have e1 : kDiv (.int a) (.int (Int.gcd a b : Nat)) hs = .ok (.int (a / (Int.gcd a b : Nat))) hs := kDiv_v (by clear hb; omega) lg
  have e2 : kDiv (.int b) (.int (Int.gcd a b : Nat)) hs = .ok (.int (b / (Int.gcd a b : Nat))) hs := kDiv_v (by clear hb; omega) lg
  simp [f_fraction, b_fraction, e, h, e1, e2, frD, redF]
theorem pow_8000 {a : Int} {k : Nat} (h : a.natAbs < 2 ^ k) (l : k ≤ 8000) : a.natAbs < 2 ^ 8000 := Nat.lt_of_lt_of_le h (Nat.pow_le_pow_right (by decide) l)
theorem plusN_v {i : Nat} {a b : Rat} (ha : Bd i a) (hb : Bd i b) (hi : 0 < i) (l : i ≤ 3000) : f_plus_numbers [frQ a, frQ b] hs = .ok (frQ (a + b)) hs := by
  have e1 : kMul (.int a.num) (.int (b.den : Int)) hs = .ok (.int (a.num * (b.den : Int))) hs := kMul_v (mulOk_of ha.1 hb.den hi hi (by omega))
  have e2 : kMul (.int b.num) (.int (a.den : Int)) hs = .ok (.int (b.num * (a.den : Int))) hs := kMul_v (mulOk_of hb.1 ha.den hi hi (by omega))
  have e3 : kMul (.int (a.den : Int)) (.int (b.den : Int)) hs = .ok (.int ((a.den : Int) * (b.den : Int))) hs := kMul_v (mulOk_of ha.den hb.den hi hi (by omega))
  have e4 := fractionP_v (hs := hs) (a := a.num * (b.den : Int) + b.num * (a.den : Int)) (denmul a b) (pow_8000 (mul_lt_pow ha.den hb.den) (by omega))
  have e5 := addF_toF a b
  unfold addF at e5
  rw [show redF (a.num * (b.den : Int) + b.num * (a.den : Int)) ((a.den : Int) * (b.den : Int)) = toF (a + b) from e5] at e4
  change _ = R.ok (frQ (a + b)) hs at e4
  simp [f_plus_numbers, b_plus_numbers, e1, e2, e3, e4]
theorem lessN_v {i : Nat} {a b : Rat} (ha : Bd i a) (hb : Bd i b) (hi : 0 < i) (l : i ≤ 3000) : f_less_numbers [frQ a, frQ b] hs = .ok (frQ (a - b)) hs := by
  have e1 : kMul (.int a.num) (.int (b.den : Int)) hs = .ok (.int (a.num * (b.den : Int))) hs := kMul_v (mulOk_of ha.1 hb.den hi hi (by omega))
  have e2 : kMul (.int b.num) (.int (a.den : Int)) hs = .ok (.int (b.num * (a.den : Int))) hs := kMul_v (mulOk_of hb.1 ha.den hi hi (by omega))
  have e3 : kMul (.int (a.den : Int)) (.int (b.den : Int)) hs = .ok (.int ((a.den : Int) * (b.den : Int))) hs := kMul_v (mulOk_of ha.den hb.den hi hi (by omega))
  have e4 := fractionP_v (hs := hs) (a := a.num * (b.den : Int) - b.num * (a.den : Int)) (denmul a b) (pow_8000 (mul_lt_pow ha.den hb.den) (by omega))
  have e5 := subF_toF a b
  unfold subF at e5
  rw [show redF (a.num * (b.den : Int) - b.num * (a.den : Int)) ((a.den : Int) * (b.den : Int)) = toF (a - b) from e5] at e4
  change _ = R.ok (frQ (a - b)) hs at e4
  simp [f_less_numbers, b_less_numbers, e1, e2, e3, e4]
theorem timesN_v {i : Nat} {a b : Rat} (ha : Bd i a) (hb : Bd i b) (hi : 0 < i) (l : i ≤ 3000) : f_times_numbers [frQ a, frQ b] hs = .ok (frQ (a * b)) hs := by
  have e1 : kMul (.int a.num) (.int b.num) hs = .ok (.int (a.num * b.num)) hs := kMul_v (mulOk_of ha.1 hb.1 hi hi (by omega))
  have e3 : kMul (.int (a.den : Int)) (.int (b.den : Int)) hs = .ok (.int ((a.den : Int) * (b.den : Int))) hs := kMul_v (mulOk_of ha.den hb.den hi hi (by omega))
  have e4 := fractionP_v (hs := hs) (a := a.num * b.num) (denmul a b) (pow_8000 (mul_lt_pow ha.den hb.den) (by omega))
  have e5 := mulF_toF a b
  unfold mulF at e5
  rw [show redF (a.num * b.num) ((a.den : Int) * (b.den : Int)) = toF (a * b) from e5] at e4
  change _ = R.ok (frQ (a * b)) hs at e4
  simp [f_times_numbers, b_times_numbers, e1, e3, e4]
end
end PL.C

set_option Elab.async false
set_option linter.all false
set_option maxRecDepth 100000
set_option maxHeartbeats 4000000
set_option autoImplicit false
set_option exponentiation.threshold 20000
namespace PL.C
open PySem PySem.Spec PyProof.Rows L2
section
variable {hs : List Ob}
/-! ## rows: the worth at a moment, and the row that some worths make -/
theorem worth_at_v {f m : Int} {ws : List Fr} : f_worth_at [rowD f ws, .int m] hs = .ok (frD (worthAt f ws m)) hs := by
  simp only [f_worth_at, b_worth_at]
  simp
  unfold worthAt
  by_cases h1 : f ≤ m
  · have h1' : 0 ≤ m - f := by omega
    by_cases h2 : m < f + ws.length
    · have h2' : m - f < (ws.length : Int) := by omega
      have hlt : (m - f).toNat < ws.length := by omega
      obtain ⟨k, hk⟩ : ∃ k : Nat, m - f = (k : Int) := ⟨(m - f).toNat, by omega⟩
      rw [hk] at hlt h2' ⊢
      rw [Int.toNat_natCast] at hlt ⊢
      have e : kItem (.tup (ws.map frD)) (.int (k : Int)) hs = .ok (frD (ws.getD k (0, 1))) hs := kItem_t (atI_nat (by rw [List.getElem?_map]; simp [hlt]))
      simp [h1, h2, hlt, hk, e]
    · have h2' : ¬ (m - f < (ws.length : Int)) := by omega
      simp [h1, h2, h1', h2', frD]
  · have h1' : ¬ (0 ≤ m - f) := by omega
    simp [h1, h1', frD]
/-- the worths, frozen in a list or a tuple -/
inductive Seqs (ws : List Fr) : D → Prop
  | t : Seqs ws (.tup (ws.map frD))
  | l : Seqs ws (.fl (ws.map frD))
theorem Seqs.len {ws : List Fr} {X : D} (h : Seqs ws X) : kLen X hs = .ok (.int ws.length) hs := by cases h <;> simp
theorem Seqs.item {ws : List Fr} {X : D} (h : Seqs ws X) {k : Nat} (hk : k < ws.length) : kItem X (.int (k : Int)) hs = .ok (frD (ws.getD k (0, 1))) hs := by
  cases h
  · exact kItem_t (atI_nat (by rw [List.getElem?_map]; simp [hk]))
  · exact kItem_l (atI_nat (by rw [List.getElem?_map]; simp [hk]))
theorem kEq_fr {p q : Fr} : kEq (frD p) (frD q) hs = .ok (.bl (decide (p = q))) hs := by
  obtain ⟨c, e, i⟩ := kEq_pl (hs := hs) (a := frD p) (b := frD q) plD_fr plD_fr
  rw [e]
  congr 2
  rw [Bool.eq_iff_iff, i]
  simp only [decide_eq_true_eq]
  exact ⟨frD_inj, fun h => by rw [h]⟩
theorem low_loop {ws : List Fr} {X s0 : D} (hX : Seqs ws X) : ∀ (d n lo : Nat), ws.length - lo = d → d < n → lo ≤ ws.length → (∀ k, k < lo → ws.getD k (0, 1) = (0, 1)) →
    ∃ lo', lo' ≤ ws.length ∧ (∀ k, k < lo' → ws.getD k (0, 1) = (0, 1)) ∧ (lo' = ws.length ∨ ws.getD lo' (0, 1) ≠ (0, 1)) ∧
      loopW n (cAnd (c2 kLt (cV 2) (cV 3)) (c2 kEq (c2 kItem (cV 1) (cV 2)) (cK (.tup [.int (0), .int (1)])))) (cAug 2 kAddIp (cK (.int 1))) [some s0, some X, some (.int (lo : Int)), some (.int ws.length)] hs = .ok (.nx [some s0, some X, some (.int (lo' : Int)), some (.int ws.length)]) hs
  | _, 0, _, _, h, _, _ => absurd h (Nat.not_lt_zero _)
  | d, n + 1, lo, hd, h, hl, hz => by
    rw [loopW_s]
    by_cases he : lo = ws.length
    · subst he
      exact ⟨ws.length, Nat.le_refl _, hz, .inl rfl, by simp⟩
    · have hlt : lo < ws.length := by omega
      have e := hX.item (hs := hs) hlt
      by_cases hq : ws.getD lo (0, 1) = (0, 1)
      · obtain ⟨lo', a, b, c, p⟩ := low_loop (s0 := s0) hX (d - 1) n (lo + 1) (by omega) (by omega) (by omega) (fun k hk => by
          by_cases hk' : k = lo
          · rw [hk']; exact hq
          · exact hz k (by omega))
        refine ⟨lo', a, b, c, ?_⟩
        rw [hq] at e
        have hc : cAnd (c2 kLt (cV 2) (cV 3)) (c2 kEq (c2 kItem (cV 1) (cV 2)) (cK (.tup [.int (0), .int (1)]))) [some s0, some X, some (.int (lo : Int)), some (.int ws.length)] hs = .ok (.bl true) hs := by
          simp [hlt, e, frD_nought, kEq_fr]
        have ha : cAug 2 kAddIp (cK (.int 1)) [some s0, some X, some (.int (lo : Int)), some (.int ws.length)] hs = .ok (.nx [some s0, some X, some (.int ((lo + 1 : Nat) : Int)), some (.int ws.length)]) hs := rfl
        rw [hc, ← p]
        simp [ha]
      · refine ⟨lo, hl, hz, .inr hq, ?_⟩
        generalize ws.getD lo (0, 1) = z at e hq
        have hc : cAnd (c2 kLt (cV 2) (cV 3)) (c2 kEq (c2 kItem (cV 1) (cV 2)) (cK (.tup [.int (0), .int (1)]))) [some s0, some X, some (.int (lo : Int)), some (.int ws.length)] hs = .ok (.bl false) hs := by
          simp [hlt, e, frD_nought, kEq_fr, hq]
        rw [hc]
        simp
theorem high_loop {ws : List Fr} {X s0 : D} (hX : Seqs ws X) {lo : Nat} : ∀ (d n hi : Nat), hi - lo = d → d < n → lo ≤ hi → hi ≤ ws.length → (∀ k, hi ≤ k → ws.getD k (0, 1) = (0, 1)) →
    ∃ hi', lo ≤ hi' ∧ hi' ≤ ws.length ∧ (∀ k, hi' ≤ k → ws.getD k (0, 1) = (0, 1)) ∧ (hi' = lo ∨ ws.getD (hi' - 1) (0, 1) ≠ (0, 1)) ∧
      loopW n (cAnd (c2 kLt (cV 2) (cV 3)) (c2 kEq (c2 kItem (cV 1) (c2 kSub (cV 3) (cK (.int 1)))) (cK (.tup [.int (0), .int (1)])))) (cAug 3 kSub (cK (.int 1))) [some s0, some X, some (.int (lo : Int)), some (.int (hi : Int))] hs = .ok (.nx [some s0, some X, some (.int (lo : Int)), some (.int (hi' : Int))]) hs
  | _, 0, _, _, h, _, _, _ => absurd h (Nat.not_lt_zero _)
  | d, n + 1, hi, hd, h, hl, hl2, hz => by
    rw [loopW_s]
    by_cases he : hi = lo
    · subst he
      exact ⟨hi, Nat.le_refl _, hl2, hz, .inl rfl, by simp⟩
    · have hlt : lo < hi := by omega
      have e := hX.item (hs := hs) (k := hi - 1) (by omega)
      have ec : ((hi : Int) - 1) = ((hi - 1 : Nat) : Int) := by omega
      by_cases hq : ws.getD (hi - 1) (0, 1) = (0, 1)
      · obtain ⟨hi', a, a2, b, c, p⟩ := high_loop (s0 := s0) hX (lo := lo) (d - 1) n (hi - 1) (by omega) (by omega) (by omega) (by omega) (fun k hk => by
          by_cases hk' : k = hi - 1
          · rw [hk']; exact hq
          · exact hz k (by omega))
        refine ⟨hi', a, a2, b, c, ?_⟩
        rw [hq] at e
        have hc : cAnd (c2 kLt (cV 2) (cV 3)) (c2 kEq (c2 kItem (cV 1) (c2 kSub (cV 3) (cK (.int 1)))) (cK (.tup [.int (0), .int (1)]))) [some s0, some X, some (.int (lo : Int)), some (.int (hi : Int))] hs = .ok (.bl true) hs := by
          simp [hlt, ec, e, frD_nought, kEq_fr]
        have ha : cAug 3 kSub (cK (.int 1)) [some s0, some X, some (.int (lo : Int)), some (.int (hi : Int))] hs = .ok (.nx [some s0, some X, some (.int (lo : Int)), some (.int ((hi - 1 : Nat) : Int))]) hs := by
          rw [← ec]
          rfl
        rw [hc, ← p]
        simp [ha]
      · refine ⟨hi, hl, hl2, hz, .inr hq, ?_⟩
        generalize ws.getD (hi - 1) (0, 1) = z at e hq
        have hc : cAnd (c2 kLt (cV 2) (cV 3)) (c2 kEq (c2 kItem (cV 1) (c2 kSub (cV 3) (cK (.int 1)))) (cK (.tup [.int (0), .int (1)]))) [some s0, some X, some (.int (lo : Int)), some (.int (hi : Int))] hs = .ok (.bl false) hs := by
          simp [hlt, ec, e, frD_nought, kEq_fr, hq]
        rw [hc]
        simp
end
end PL.C

set_option Elab.async false
set_option linter.all false
set_option maxRecDepth 100000
set_option maxHeartbeats 4000000
set_option autoImplicit false
set_option exponentiation.threshold 20000
namespace PL.C
open PySem PySem.Spec PyProof.Rows L2
section
variable {hs : List Ob}
theorem worthAt_D {f m : Int} {ws : List Fr} : worthAt f ws m = if f ≤ m then ws.getD (m - f).toNat (0, 1) else (0, 1) := by
  unfold worthAt
  by_cases h1 : f ≤ m
  · by_cases h2 : m < f + ws.length
    · simp only [h1, h2, and_self, if_true]
    · have : ws.length ≤ (m - f).toNat := by omega
      simp only [h1, h2, and_false, if_false, if_true]
      simp [this]
  · simp [h1]
theorem cutD_v {xs : List D} {lo hi : Nat} (h1 : lo ≤ hi) (h2 : hi ≤ xs.length) : cutD xs (some (lo : Int)) (some (hi : Int)) = (xs.drop lo).take (hi - lo) := by
  unfold cutD
  rw [HT.sIx_nat, HT.sIx_nat, Nat.min_eq_left h2, Nat.min_eq_left (by omega)]
theorem Seqs.cut {ws : List Fr} {X : D} (h : Seqs ws X) {lo hi : Nat} (h1 : lo ≤ hi) (h2 : hi ≤ ws.length) : ∃ Y, kCut false X (some (lo : Int)) (some (hi : Int)) hs = .ok Y hs ∧ kTupOf Y hs = .ok (.tup (((ws.drop lo).take (hi - lo)).map frD)) hs := by
  have e : cutD (ws.map frD) (some (lo : Int)) (some (hi : Int)) = ((ws.drop lo).take (hi - lo)).map frD := by
    rw [cutD_v h1 (by simpa using h2), List.map_take, List.map_drop]
  cases h
  · refine ⟨.tup (cutD (ws.map frD) (some (lo : Int)) (some (hi : Int))), rfl, ?_⟩
    rw [e]; rfl
  · refine ⟨.fl (cutD (ws.map frD) (some (lo : Int)) (some (hi : Int))), rfl, ?_⟩
    rw [e]; rfl
theorem getD_cut {ws : List Fr} {lo hi k : Nat} (h1 : lo ≤ hi) (h2 : hi ≤ ws.length) (hz : ∀ k, hi ≤ k → ws.getD k (0, 1) = (0, 1)) : ((ws.drop lo).take (hi - lo)).getD k (0, 1) = ws.getD (lo + k) (0, 1) := by
  by_cases hk : k < hi - lo
  · simp only [List.getD_eq_getElem?_getD, List.getElem?_take, hk, if_true, List.getElem?_drop]
  · rw [hz (lo + k) (by omega)]
    simp only [List.getD_eq_getElem?_getD, List.getElem?_take, hk, if_false]
    rfl
/-- the row that some worths make: the valid row that answers as they do -/
theorem made_row_v {f : Int} {ws : List Fr} {X : D} (hX : Seqs ws X) (hl : ws.length < FUEL) (hok : ∀ q ∈ ws, okFr q = true) :
    ∃ f' ws', f_made_row [.int f, X] hs = .ok (rowD f' ws') hs ∧ okRow f' ws' = true ∧ (∀ m, worthAt f' ws' m = worthAt f ws m) ∧ (∀ q ∈ ws', q ∈ ws) ∧ (ws' = [] ∨ f ≤ f' ∧ f' + ws'.length ≤ f + ws.length) := by
  obtain ⟨lo, l1, l2, l3, p1⟩ := low_loop (hs := hs) (s0 := .int f) hX ws.length FUEL 0 (by omega) hl (by omega) (fun k hk => absurd hk (Nat.not_lt_zero _))
  obtain ⟨hi, i1, i2, i3, i4, p2⟩ := high_loop (hs := hs) (s0 := .int f) hX (lo := lo) (ws.length - lo) FUEL ws.length rfl (by omega) l1 (Nat.le_refl _) (fun k hk => by simp [hk])
  by_cases he : lo = hi
  · have p3 : f_made_row [.int f, X] hs = .ok (rowD 0 []) hs := by
      simp only [f_made_row, b_made_row]
      rw [he] at p1 p2
      rw [show (((0 : Nat) : Int)) = 0 from rfl] at p1
      simp [cWhile, hX.len, p1, p2, rowD]
    refine ⟨0, [], p3, rfl, fun m => ?_, by simp, .inl rfl⟩
    rw [worthAt_D, worthAt_D]
    by_cases hm : f ≤ m
    · rw [if_pos hm]
      have : ws.getD (m - f).toNat (0, 1) = (0, 1) := by
        by_cases hk : (m - f).toNat < lo
        · exact l2 _ hk
        · exact i3 _ (by omega)
      rw [this]
      simp
    · rw [if_neg hm]
      simp
  · have hlt : lo < hi := by omega
    obtain ⟨Y, ce, cy⟩ := hX.cut (hs := hs) (lo := lo) (hi := hi) i1 i2
    have gl : (((ws.drop lo).take (hi - lo))).length = hi - lo := by
      rw [List.length_take, List.length_drop]; omega
    refine ⟨f + lo, (ws.drop lo).take (hi - lo), ?_, ?_, fun m => ?_, fun q hq => List.mem_of_mem_drop (List.mem_of_mem_take hq), .inr ⟨by omega, by rw [gl]; omega⟩⟩
    · simp only [f_made_row, b_made_row]
      have hne : ¬ ((lo : Int) = (hi : Int)) := by omega
      have ce' : cCut false (cV 1) (oSm (cV 2)) (oSm (cV 3)) [some (.int f), some X, some (.int (lo : Int)), some (.int (hi : Int))] hs = .ok Y hs := by
        rw [← ce]
        simp [cCut, oSm]
      rw [show (((0 : Nat) : Int)) = 0 from rfl] at p1
      simp only [List.map_take, List.map_drop] at cy
      simp [cWhile, hX.len, p1, p2, hne, ce', cy, rowD]
    · have hd : ((ws.drop lo).take (hi - lo)).isEmpty = false := by
        rw [← Bool.not_eq_true, List.isEmpty_iff]
        intro h
        rw [h] at gl
        simp at gl
        omega
      have a0 := getD_cut (k := 0) i1 i2 i3
      have a1 := getD_cut (k := hi - lo - 1) i1 i2 i3
      have n0 : ws.getD lo (0, 1) ≠ (0, 1) := l3.resolve_left (by omega)
      have n1 : ws.getD (hi - 1) (0, 1) ≠ (0, 1) := i4.resolve_left (by omega)
      rw [show lo + (hi - lo - 1) = hi - 1 by omega] at a1
      unfold okRow
      rw [hd]
      simp only [Bool.false_eq_true, if_false, Bool.and_eq_true, List.all_eq_true, Bool.not_eq_true', decide_eq_false_iff_not]
      refine ⟨fun q hq => hok q (List.mem_of_mem_drop (List.mem_of_mem_take hq)), fun h => ?_, fun h => ?_⟩
      · rw [List.getD_eq_getElem?_getD, ← List.head?_eq_getElem?, h] at a0
        exact n0 a0.symm
      · generalize (ws.drop lo).take (hi - lo) = L at a1 gl h
        rw [List.getD_eq_getElem?_getD, ← gl, ← List.getLast?_eq_getElem?, h] at a1
        exact n1 a1.symm
    · rw [worthAt_D, worthAt_D]
      by_cases hm : f ≤ m
      · by_cases hm2 : f + lo ≤ m
        · rw [if_pos hm, if_pos hm2, getD_cut i1 i2 i3]
          congr 1
          omega
        · rw [if_pos hm, if_neg hm2, l2 _ (by omega)]
      · rw [if_neg hm, if_neg (by omega)]
end
end PL.C

set_option Elab.async false
set_option linter.all false
set_option maxRecDepth 100000
set_option maxHeartbeats 4000000
set_option autoImplicit false
set_option exponentiation.threshold 20000
namespace PL.C
open PySem PySem.Spec PyProof.Rows L2
/-! ## a valid row is known by its worths -/
theorem worthAt_nil {m : Int} : worthAt 0 [] m = (0, 1) := by
  rw [worthAt_D]
  split <;> rfl
theorem okRow_c {f : Int} {w : Fr} {ws : List Fr} (h : okRow f (w :: ws) = true) : w ≠ (0, 1) ∧ (w :: ws).getLast? ≠ some (0, 1) ∧ ∀ q ∈ w :: ws, okFr q = true := by
  unfold okRow at h
  simp only [List.isEmpty_cons, Bool.false_eq_true, if_false, Bool.and_eq_true, List.all_eq_true, Bool.not_eq_true', decide_eq_false_iff_not, List.head?_cons, Option.some.injEq] at h
  exact ⟨h.2.1, h.2.2, h.1⟩
theorem worthAt_first {f : Int} {w : Fr} {ws : List Fr} : worthAt f (w :: ws) f = w := by
  rw [worthAt_D, if_pos (Int.le_refl _)]
  simp
theorem worthAt_end {f : Int} {ws : List Fr} (h : ws ≠ []) : worthAt f ws (f + ws.length - 1) = ws.getLast?.getD (0, 1) := by
  have : 0 < ws.length := List.length_pos_iff.mpr h
  rw [worthAt_D, if_pos (by omega), show (f + ws.length - 1 - f).toNat = ws.length - 1 by omega, List.getLast?_eq_getElem?, List.getD_eq_getElem?_getD]
theorem worthAt_off {f m : Int} {ws : List Fr} (h : m < f ∨ f + ws.length ≤ m) : worthAt f ws m = (0, 1) := by
  unfold worthAt
  rw [if_neg (by omega)]
theorem okRow_e {f : Int} (h : okRow f [] = true) : f = 0 := by simpa [okRow] using h
theorem row_ext {f g : Int} {ws vs : List Fr} (h1 : okRow f ws = true) (h2 : okRow g vs = true) (e : ∀ m, worthAt f ws m = worthAt g vs m) : f = g ∧ ws = vs := by
  cases ws with
  | nil =>
    cases vs with
    | nil => exact ⟨(okRow_e h1).trans (okRow_e h2).symm, rfl⟩
    | cons v vs =>
      have := e g
      rw [okRow_e h1, worthAt_nil, worthAt_first] at this
      exact absurd this.symm (okRow_c h2).1
  | cons w ws =>
    cases vs with
    | nil =>
      have := e f
      rw [okRow_e h2, worthAt_nil, worthAt_first] at this
      exact absurd this (okRow_c h1).1
    | cons v vs =>
      have hf : f = g := by
        rcases Int.lt_trichotomy f g with h | h | h
        · have := e f
          rw [worthAt_first, worthAt_off (.inl h)] at this
          exact absurd this (okRow_c h1).1
        · exact h
        · have := e g
          rw [worthAt_first, worthAt_off (.inl h)] at this
          exact absurd this.symm (okRow_c h2).1
      subst hf
      have last : ∀ {x y : Fr} {xs ys : List Fr}, okRow f (x :: xs) = true → (∀ m, worthAt f (x :: xs) m = worthAt f (y :: ys) m) → ¬ (y :: ys).length < (x :: xs).length := fun {x y xs ys} ho he hl => by
        have a := he (f + (x :: xs).length - 1)
        rw [worthAt_end (List.cons_ne_nil _ _), worthAt_off (.inr (by omega))] at a
        have b := (okRow_c ho).2.1
        cases c : (x :: xs).getLast? with
        | none => simp at c
        | some z =>
          rw [c] at a b
          exact b (by rw [show z = (0, 1) from a])
      have l1 := last h1 e
      have l2 := last h2 fun m => (e m).symm
      refine ⟨rfl, List.ext_getElem (by omega) fun i p q => ?_⟩
      have a := e (f + i)
      rw [worthAt_D, worthAt_D, if_pos (by omega), if_pos (by omega), show (f + (i : Int) - f).toNat = i by omega] at a
      simpa [List.getD_eq_getElem?_getD, List.getElem?_eq_getElem p, List.getElem?_eq_getElem q] using a
end PL.C

set_option Elab.async false
set_option linter.all false
set_option maxRecDepth 100000
set_option maxHeartbeats 4000000
set_option autoImplicit false
set_option exponentiation.threshold 20000
namespace PL.C
open PySem PySem.Spec PyProof.Rows L2
/-! ## rows of rational worths; the sum and the difference of two rows -/
def fromF (q : Fr) : Rat := mkRat q.1 q.2.natAbs
theorem fromF_toF (r : Rat) : fromF (toF r) = r := by
  unfold fromF toF
  simpa using Rat.mkRat_self r
/-- a row's worth at a moment, as a rational number -/
def valQ (f : Int) (ws : List Fr) (m : Int) : Rat := fromF (worthAt f ws m)
/-- a valid row with bounded worths, first moment and length -/
structure Row (f : Int) (ws : List Fr) (i : Nat) (a b : Int) : Prop where
  ok : okRow f ws = true
  bd : ∀ q ∈ ws, ∃ r, q = toF r ∧ Bd i r
  lo : a ≤ f
  hi : f + ws.length ≤ b
theorem Bd.zero {i : Nat} (h : 0 < i) : Bd i 0 := ⟨Nat.pow_pos (by decide), Nat.one_lt_two_pow (by omega)⟩
theorem worthAt_bd {f : Int} {ws : List Fr} {i : Nat} (h : ∀ q ∈ ws, ∃ r, q = toF r ∧ Bd i r) (hi : 0 < i) (m : Int) : worthAt f ws m = toF (valQ f ws m) ∧ Bd i (valQ f ws m) := by
  have : ∃ r, worthAt f ws m = toF r ∧ Bd i r := by
    unfold worthAt
    split
    · have hlt : (m - f).toNat < ws.length := by omega
      rw [List.getD_eq_getElem?_getD, List.getElem?_eq_getElem hlt]
      exact h _ (List.getElem_mem hlt)
    · exact ⟨0, rfl, Bd.zero hi⟩
  obtain ⟨r, e, b⟩ := this
  unfold valQ
  rw [e, fromF_toF]
  exact ⟨rfl, b⟩
theorem row_same {f g : Int} {ws vs : List Fr} {i j : Nat} {a b c d : Int} (h1 : Row f ws i a b) (h2 : Row g vs j c d) (hi : 0 < i) (hj : 0 < j) (e : ∀ m, valQ f ws m = valQ g vs m) : f = g ∧ ws = vs :=
  row_ext h1.ok h2.ok fun m => by rw [(worthAt_bd h1.bd hi m).1, (worthAt_bd h2.bd hj m).1, e]
section
variable {hs : List Ob}
theorem kEq_row {f : Int} {ws : List Fr} (ok : okRow f ws = true) : kEq (rowD f ws) (.tup [.int 0, .tup []]) hs = .ok (.bl ws.isEmpty) hs := by
  obtain ⟨c, e, i⟩ := kEq_pl (hs := hs) (a := rowD f ws) (b := rowD 0 []) plD_row plD_row
  rw [show D.tup [.int 0, .tup []] = rowD 0 [] from rfl, e]
  congr 2
  rw [Bool.eq_iff_iff, i]
  constructor
  · intro h
    simp only [rowD, D.tup.injEq, List.cons.injEq, List.map_nil, List.map_eq_nil_iff] at h
    simp [h.2.1]
  · intro h
    rw [List.isEmpty_iff] at h
    subst h
    rw [okRow_e ok]
theorem kNe_row {f : Int} {ws : List Fr} (ok : okRow f ws = true) : kNe (rowD f ws) (.tup [.int 0, .tup []]) hs = .ok (.bl (!ws.isEmpty)) hs := by
  obtain ⟨c, e, i⟩ := kNe_pl (hs := hs) (a := rowD f ws) (b := rowD 0 []) plD_row plD_row
  rw [show D.tup [.int 0, .tup []] = rowD 0 [] from rfl, e]
  congr 3
  rw [Bool.eq_iff_iff, i]
  constructor
  · intro h
    simp only [rowD, D.tup.injEq, List.cons.injEq, List.map_nil, List.map_eq_nil_iff] at h
    simp [h.2.1]
  · intro h
    rw [List.isEmpty_iff] at h
    subst h
    rw [okRow_e ok]
theorem span_of_v {f g : Int} {ws vs : List Fr} : f_span_of [rowD f ws, rowD g vs] hs = .ok (.tup [.int (min f g), .int (max (f + ws.length) (g + vs.length) - min f g)]) hs := by
  simp [f_span_of, b_span_of]
theorem valQ_nil {m : Int} : valQ 0 [] m = 0 := by
  unfold valQ
  rw [worthAt_nil]
  rfl
theorem valQ_e {f m : Int} {ws : List Fr} (ok : okRow f ws = true) (h : ws.isEmpty = true) : valQ f ws m = 0 := by
  rw [List.isEmpty_iff] at h
  subst h
  rw [okRow_e ok, valQ_nil]
theorem valQ_off {f m : Int} {ws : List Fr} (h : m < f ∨ f + ws.length ≤ m) : valQ f ws m = 0 := by
  unfold valQ
  rw [worthAt_off h]
  rfl
/-- the row that a list of rational worths makes -/
theorem made_rat {f : Int} {n i : Nat} {v : Int → Rat} {X : D} {a b : Int} (hX : X = .fl ((List.range n).map fun k => frQ (v (f + (k : Nat)))) ∨ X = .tup ((List.range n).map fun k => frQ (v (f + (k : Nat))))) (hl : n ≤ 1000000) (hv : ∀ m, Bd i (v m)) (hz : ∀ m, m < f ∨ f + n ≤ m → v m = 0) (h0 : a ≤ 0 ∧ 0 ≤ b) (ha : a ≤ f) (hb : f + n ≤ b) :
    ∃ f' ws', f_made_row [.int f, X] hs = .ok (rowD f' ws') hs ∧ Row f' ws' i a b ∧ ∀ m, valQ f' ws' m = v m := by
  have hl1 : ((List.range n).map fun k : Nat => toF (v (f + (k : Nat)))).length = n := by simp
  have e1 : ((List.range n).map fun k : Nat => frQ (v (f + (k : Nat)))) = ((List.range n).map fun k : Nat => toF (v (f + (k : Nat)))).map frD := by
    rw [List.map_map]; rfl
  rw [e1] at hX
  have sX : Seqs ((List.range n).map fun k : Nat => toF (v (f + (k : Nat)))) X := by
    rcases hX with h | h
    · rw [h]; exact .l
    · rw [h]; exact .t
  obtain ⟨f', ws', p, ok, w, sub, loc⟩ := made_row_v (hs := hs) (f := f) sX (by rw [hl1]; exact Nat.lt_of_le_of_lt hl (Nat.lt_of_lt_of_le (by decide : 1000000 < 2 ^ 20) (fuel_le (by decide)))) (fun q hq => by
    obtain ⟨k, _, e⟩ := List.mem_map.mp hq
    rw [← e]
    exact toF_ok _)
  refine ⟨f', ws', p, ⟨ok, fun q hq => ?_, ?_, ?_⟩, fun m => ?_⟩
  · obtain ⟨k, _, e⟩ := List.mem_map.mp (sub q hq)
    exact ⟨_, e.symm, hv _⟩
  · rcases loc with h | ⟨h, _⟩
    · subst h
      rw [okRow_e ok]
      exact h0.1
    · omega
  · rcases loc with h | ⟨_, h⟩
    · subst h
      rw [okRow_e ok]
      simpa using h0.2
    · rw [hl1] at h
      omega
  · unfold valQ
    rw [w m]
    by_cases hm : f ≤ m ∧ m < f + n
    · rw [worthAt_D, if_pos hm.1, List.getD_eq_getElem?_getD, List.getElem?_map, List.getElem?_range (by omega)]
      show fromF (toF (v (f + ((m - f).toNat : Nat)))) = v m
      rw [fromF_toF, show f + ((m - f).toNat : Int) = m by omega]
    · rw [worthAt_off (by rw [hl1]; omega), hz m (by omega)]
      rfl
end
end PL.C

set_option Elab.async false
set_option linter.all false
set_option maxRecDepth 100000
set_option maxHeartbeats 4000000
set_option autoImplicit false
set_option exponentiation.threshold 20000
namespace PL.C
open PySem PySem.Spec PyProof.Rows L2
theorem Row.mono {f : Int} {ws : List Fr} {i j : Nat} {a b : Int} (h : Row f ws i a b) (l : i ≤ j) : Row f ws j a b :=
  ⟨h.ok, fun q hq => by
    obtain ⟨r, e, b⟩ := h.bd q hq
    exact ⟨r, e, b.mono l⟩, h.lo, h.hi⟩
/-- the bounds that a row's first moment and end keep to -/
structure Span (a b : Int) : Prop where
  n : a ≤ 0
  p : 0 ≤ b
  lo : -1000000 ≤ a
  hi : b ≤ 1000000
  w : b - a ≤ 1000000
section
variable {hs : List Ob}
theorem comp_two {F : Fn} {op : Rat → Rat → Rat} {f g lo : Int} {ws vs : List Fr} {s2 s3 : Option D} {n i : Nat} (hn : n ≤ 1000000)
    (hF : ∀ m : Int, F [frD (worthAt f ws m), frD (worthAt g vs m)] hs = .ok (frQ (op (valQ f ws m) (valQ g vs m))) hs) :
    cComp false [5] (.nm 5) (iSeq (cV 4)) (cYes) (.lst []) (pLst (cF F (cCons (cF C.f_worth_at (cCons (cV 0) (cCons (cV 5) (cNil)))) (cCons (cF C.f_worth_at (cCons (cV 1) (cCons (cV 5) (cNil)))) (cNil))))) [some (rowD f ws), some (rowD g vs), s2, s3, some (.fl ((List.range n).map fun k => D.int (lo + (k : Nat)))), none] hs
      = .ok (.fl ((List.range n).map fun k => frQ (op (valQ f ws (lo + (k : Nat))) (valQ g vs (lo + (k : Nat)))))) hs :=
  comp_all (b := false) (fun k : Nat => D.int (lo + (k : Nat))) (fun k : Nat => frQ (op (valQ f ws (lo + (k : Nat))) (valQ g vs (lo + (k : Nat))))) (List.range n) (iSeq_l (by simp))
    (fun k _ => ⟨[some (rowD f ws), some (rowD g vs), s2, s3, some (.fl ((List.range n).map fun k => D.int (lo + (k : Nat)))), some (.int (lo + (k : Nat)))], rfl, by simp [worth_at_v, hF]⟩) (by simp; omega)
theorem plus_of_v {f g a b : Int} {ws vs : List Fr} {i : Nat} (h1 : Row f ws i a b) (h2 : Row g vs i a b) (sp : Span a b) (hi : 0 < i) (l : i ≤ 3000) :
    ∃ f' ws', f_plus_of [rowD f ws, rowD g vs] hs = .ok (rowD f' ws') hs ∧ Row f' ws' (i + i + 1) a b ∧ ∀ m, valQ f' ws' m = valQ f ws m + valQ g vs m := by
  have k1 := kEq_row (hs := hs) h1.ok
  have k2 := kEq_row (hs := hs) h2.ok
  cases e1 : ws.isEmpty with
  | true =>
    rw [e1] at k1
    exact ⟨g, vs, by simp [f_plus_of, b_plus_of, k1, k2], h2.mono (by omega), fun m => by rw [valQ_e h1.ok e1, Rat.zero_add]⟩
  | false =>
    rw [e1] at k1
    cases e2 : vs.isEmpty with
    | true =>
      rw [e2] at k2
      exact ⟨f, ws, by simp [f_plus_of, b_plus_of, k1, k2], h1.mono (by omega), fun m => by rw [valQ_e h2.ok e2, Rat.add_zero]⟩
    | false =>
      rw [e2] at k2
      obtain ⟨n1, n2, n3, n4, n5⟩ := sp
      have a1 := h1.lo
      have a2 := h2.lo
      have a3 := h1.hi
      have a4 := h2.hi
      obtain ⟨n, hn⟩ : ∃ n : Nat, max (f + (ws.length : Int)) (g + (vs.length : Int)) - min f g = (n : Int) := ⟨(max (f + (ws.length : Int)) (g + (vs.length : Int)) - min f g).toNat, by omega⟩
      have sv := span_of_v (hs := hs) (f := f) (g := g) (ws := ws) (vs := vs)
      rw [hn] at sv
      generalize hlo : min f g = lo at sv hn
      have rg : kLRg2 false (.int lo) (.int (lo + n)) hs = .ok (.fl ((List.range n).map fun k => D.int (lo + (k : Nat)))) hs := by
        rw [lrg2_v (by omega) (by omega) (by omega) (by omega) (by omega), show (lo + (n : Int) - lo).toNat = n by omega]
        rfl
      have bd : ∀ m : Int, Bd (i + i + 1) (valQ f ws m + valQ g vs m) := fun m => Bd.add (worthAt_bd h1.bd hi m).2 (worthAt_bd h2.bd hi m).2
      have cv := comp_two (hs := hs) (F := f_plus_numbers) (op := fun x y => x + y) (f := f) (g := g) (ws := ws) (vs := vs) (lo := lo) (s2 := some (.int lo)) (s3 := some (.int n)) (n := n) (i := i) (by omega) (fun m => by
        obtain ⟨q1, q2⟩ := worthAt_bd (f := f) h1.bd hi m
        obtain ⟨q3, q4⟩ := worthAt_bd (f := g) h2.bd hi m
        rw [q1, q3]
        exact plusN_v q2 q4 hi l)
      obtain ⟨f', ws', p, r, v⟩ := made_rat (hs := hs) (f := lo) (n := n) (v := fun m => valQ f ws m + valQ g vs m) (.inl rfl) (by omega) bd (fun m hm => by
        rw [valQ_off (by omega), valQ_off (by omega)]
        exact Rat.zero_add 0) ⟨n1, n2⟩ (by omega) (by omega : lo + n ≤ b)
      refine ⟨f', ws', ?_, r, v⟩
      have st : cSet (.tp [.nm 2, .nm 3]) (cF C.f_span_of (cCons (cV 0) (cCons (cV 1) cNil))) [some (rowD f ws), some (rowD g vs), none, none, none, none] hs = .ok (.nx [some (rowD f ws), some (rowD g vs), some (.int lo), some (.int n), none, none]) hs := by
        unfold cSet
        simp [sv]
        try rfl
      simp only [f_plus_of, b_plus_of]
      simp [k1, k2, st, rg, cv, p]
end
end PL.C

set_option Elab.async false
set_option linter.all false
set_option maxRecDepth 100000
set_option maxHeartbeats 4000000
set_option autoImplicit false
set_option exponentiation.threshold 20000
namespace PL.C
open PySem PySem.Spec PyProof.Rows L2
section
variable {hs : List Ob}
theorem less_of_v {f g a b : Int} {ws vs : List Fr} {i : Nat} (h1 : Row f ws i a b) (h2 : Row g vs i a b) (sp : Span a b) (hi : 0 < i) (l : i ≤ 3000) :
    ∃ f' ws', f_less_of [rowD f ws, rowD g vs] hs = .ok (rowD f' ws') hs ∧ Row f' ws' (i + i + 1) a b ∧ ∀ m, valQ f' ws' m = valQ f ws m - valQ g vs m := by
  have k1 := kNe_row (hs := hs) h1.ok
  have k2 := kEq_row (hs := hs) h2.ok
  cases e2 : vs.isEmpty with
  | true =>
    rw [e2] at k2
    exact ⟨f, ws, by simp [f_less_of, b_less_of, k2], h1.mono (by omega), fun m => by rw [valQ_e h2.ok e2, Rat.sub_eq_add_neg, Rat.neg_zero, Rat.add_zero]⟩
  | false =>
    rw [e2] at k2
    obtain ⟨n1, n2, n3, n4, n5⟩ := sp
    have a1 := h1.lo
    have a2 := h2.lo
    have a3 := h1.hi
    have a4 := h2.hi
    have st : ∃ lo : Int, ∃ n : Nat, a ≤ lo ∧ lo + n ≤ b ∧ (∀ m, m < lo ∨ lo + n ≤ m → valQ f ws m = 0 ∧ valQ g vs m = 0) ∧
        cSet (.tp [.nm 2, .nm 3]) (cIf (c2 kNe (cV 0) (cK (.tup [.int (0), .tup []]))) (cF C.f_span_of (cCons (cV 0) (cCons (cV 1) (cNil)))) (cF kTup (cCons (c2 kItem (cV 1) (cK (.int 0))) (cCons (cF (one kLen) (cCons (c2 kItem (cV 1) (cK (.int 1))) (cNil))) (cNil))))) [some (rowD f ws), some (rowD g vs), none, none, none, none] hs = .ok (.nx [some (rowD f ws), some (rowD g vs), some (.int lo), some (.int n), none, none]) hs := by
      cases e1 : ws.isEmpty with
      | true =>
        rw [e1] at k1
        refine ⟨g, vs.length, a2, a4, fun m hm => ⟨valQ_e h1.ok e1, valQ_off hm⟩, ?_⟩
        unfold cSet
        simp [k1]
        try rfl
      | false =>
        rw [e1] at k1
        obtain ⟨n, hn⟩ : ∃ n : Nat, max (f + (ws.length : Int)) (g + (vs.length : Int)) - min f g = (n : Int) := ⟨(max (f + (ws.length : Int)) (g + (vs.length : Int)) - min f g).toNat, by omega⟩
        have sv := span_of_v (hs := hs) (f := f) (g := g) (ws := ws) (vs := vs)
        rw [hn] at sv
        refine ⟨min f g, n, by omega, by omega, fun m hm => ⟨valQ_off (by omega), valQ_off (by omega)⟩, ?_⟩
        unfold cSet
        simp [k1, sv]
        try rfl
    obtain ⟨lo, n, b1, b2, b3, st⟩ := st
    have rg : kLRg2 false (.int lo) (.int (lo + n)) hs = .ok (.fl ((List.range n).map fun k => D.int (lo + (k : Nat)))) hs := by
      rw [lrg2_v (by omega) (by omega) (by omega) (by omega) (by omega), show (lo + (n : Int) - lo).toNat = n by omega]
      rfl
    have bd : ∀ m : Int, Bd (i + i + 1) (valQ f ws m - valQ g vs m) := fun m => Bd.sub (worthAt_bd h1.bd hi m).2 (worthAt_bd h2.bd hi m).2
    have cv := comp_two (hs := hs) (F := f_less_numbers) (op := fun x y => x - y) (f := f) (g := g) (ws := ws) (vs := vs) (lo := lo) (s2 := some (.int lo)) (s3 := some (.int n)) (n := n) (i := i) (by omega) (fun m => by
      obtain ⟨q1, q2⟩ := worthAt_bd (f := f) h1.bd hi m
      obtain ⟨q3, q4⟩ := worthAt_bd (f := g) h2.bd hi m
      rw [q1, q3]
      exact lessN_v q2 q4 hi l)
    obtain ⟨f', ws', p, r, v⟩ := made_rat (hs := hs) (f := lo) (n := n) (v := fun m => valQ f ws m - valQ g vs m) (.inl rfl) (by omega) bd (fun m hm => by
      obtain ⟨z1, z2⟩ := b3 m hm
      rw [z1, z2]
      exact Rat.sub_self) ⟨n1, n2⟩ b1 b2
    refine ⟨f', ws', ?_, r, v⟩
    simp only [f_less_of, b_less_of]
    simp [k2, st, rg, cv, p]
/-! ### the public ones: they check their rows first -/
theorem Row.chk {f a b : Int} {ws : List Fr} {i : Nat} (h : Row f ws i a b) (sp : Span a b) (l : i ≤ 3000) : f_check_row [rowD f ws] hs = .ok .non hs := by
  obtain ⟨n1, n2, n3, n4, n5⟩ := sp
  have a1 := h.lo
  have a2 := h.hi
  refine check_row_v (fun q hq => ?_) (by omega) h.ok
  obtain ⟨r, e, b⟩ := h.bd q hq
  rw [e]
  refine Nat.lt_of_lt_of_le (?_ : _ < 2 ^ i) (fuel_le (by omega))
  exact b.den
theorem plus_rows_v {f g a b : Int} {ws vs : List Fr} {i : Nat} (h1 : Row f ws i a b) (h2 : Row g vs i a b) (sp : Span a b) (hi : 0 < i) (l : i ≤ 3000) :
    ∃ f' ws', f_plus_rows [rowD f ws, rowD g vs] hs = .ok (rowD f' ws') hs ∧ Row f' ws' (i + i + 1) a b ∧ ∀ m, valQ f' ws' m = valQ f ws m + valQ g vs m := by
  obtain ⟨f', ws', p, r, v⟩ := plus_of_v (hs := hs) h1 h2 sp hi l
  exact ⟨f', ws', by simp [f_plus_rows, b_plus_rows, h1.chk sp l, h2.chk sp l, p], r, v⟩
theorem less_rows_v {f g a b : Int} {ws vs : List Fr} {i : Nat} (h1 : Row f ws i a b) (h2 : Row g vs i a b) (sp : Span a b) (hi : 0 < i) (l : i ≤ 3000) :
    ∃ f' ws', f_less_rows [rowD f ws, rowD g vs] hs = .ok (rowD f' ws') hs ∧ Row f' ws' (i + i + 1) a b ∧ ∀ m, valQ f' ws' m = valQ f ws m - valQ g vs m := by
  obtain ⟨f', ws', p, r, v⟩ := less_of_v (hs := hs) h1 h2 sp hi l
  exact ⟨f', ws', by simp [f_less_rows, b_less_rows, h1.chk sp l, h2.chk sp l, p], r, v⟩
end
end PL.C

set_option Elab.async false
set_option linter.all false
set_option maxRecDepth 100000
set_option maxHeartbeats 4000000
set_option autoImplicit false
set_option exponentiation.threshold 20000
namespace PL.C
open PySem PySem.Spec PyProof.Rows L2
section
variable {hs : List Ob}
/-! ## a row times a fraction; the public ones of one row -/
theorem scaled_of_v {f a b : Int} {ws : List Fr} {i : Nat} {r : Rat} (h : Row f ws i a b) (hr : Bd i r) (sp : Span a b) (hi : 0 < i) (l : i ≤ 3000) :
    ∃ f' ws', f_scaled_of [rowD f ws, frQ r] hs = .ok (rowD f' ws') hs ∧ Row f' ws' (i + i) a b ∧ ∀ m, valQ f' ws' m = valQ f ws m * r := by
  obtain ⟨n1, n2, n3, n4, n5⟩ := sp
  have a1 := h.lo
  have a2 := h.hi
  have k : kEq (frQ r) (frD (0, 1)) hs = .ok (.bl (decide (r = 0))) hs := by
    unfold frQ
    rw [kEq_fr]
    congr 2
    rw [decide_eq_decide]
    exact toF_eq0
  by_cases h0 : r = 0
  · refine ⟨0, [], ?_, ⟨rfl, by simp, n1, by simpa using n2⟩, fun m => by rw [valQ_nil, h0, Rat.mul_zero]⟩
    rw [decide_eq_true h0] at k
    show _ = R.ok (D.tup [.int 0, .tup []]) hs
    simp only [f_scaled_of, b_scaled_of, frD_nought]
    simp [k]
  · have el : ∀ q ∈ ws, f_times_numbers [frD q, frQ r] hs = .ok (frD (toF (fromF q * r))) hs := fun q hq => by
      obtain ⟨s, e, bd⟩ := h.bd q hq
      rw [e, fromF_toF]
      exact timesN_v bd hr hi l
    have cv : cComp false [2] (.nm 2) (iSeq (c2 kItem (cV 0) (cK (.int 1)))) (cYes) (.lst []) (pLst (cF C.f_times_numbers (cCons (cV 2) (cCons (cV 1) (cNil))))) [some (rowD f ws), some (frQ r), none] hs = .ok (.fl (ws.map fun q => frD (toF (fromF q * r)))) hs :=
      comp_all (b := false) frD (fun q => frD (toF (fromF q * r))) ws (iSeq_t (by simp)) (fun q hq => ⟨[some (rowD f ws), some (frQ r), some (frD q)], rfl, by simp [el q hq]⟩) (by omega)
    refine ⟨f, ws.map fun q => toF (fromF q * r), ?_, ⟨?_, fun q hq => ?_, a1, by simpa using a2⟩, fun m => ?_⟩
    · rw [decide_eq_false h0] at k
      show _ = R.ok (D.tup [.int f, .tup ((ws.map fun q => toF (fromF q * r)).map frD)]) hs
      rw [List.map_map]
      have kt : kTupOf (.fl (ws.map fun q => frD (toF (fromF q * r)))) hs = .ok (.tup (ws.map (frD ∘ fun q => toF (fromF q * r)))) hs := rfl
      generalize (ws.map fun q => frD (toF (fromF q * r))) = Z at cv kt
      generalize (ws.map (frD ∘ fun q => toF (fromF q * r))) = Z' at kt
      simp only [f_scaled_of, b_scaled_of, frD_nought]
      simp [k, cv, kt]
    · have nz : ∀ q ∈ ws, q ≠ (0, 1) → toF (fromF q * r) ≠ (0, 1) := fun q hq hn e => by
        obtain ⟨s, es, _⟩ := h.bd q hq
        rw [es, fromF_toF] at e
        rcases Rat.mul_eq_zero.mp (toF_eq0.mp e) with z | z
        · exact hn (by rw [es, z]; rfl)
        · exact h0 z
      cases ws with
      | nil => exact h.ok
      | cons w ws =>
        obtain ⟨c1, c2, c3⟩ := okRow_c h.ok
        unfold okRow
        rw [List.map_cons, List.isEmpty_cons]
        simp only [Bool.false_eq_true, if_false, Bool.and_eq_true, List.all_eq_true, Bool.not_eq_true', decide_eq_false_iff_not]
        refine ⟨fun q hq => ?_, fun e => ?_, fun e => ?_⟩
        · rw [← List.map_cons (f := fun q => toF (fromF q * r))] at hq
          obtain ⟨p, _, e⟩ := List.mem_map.mp hq
          rw [← e]
          exact toF_ok _
        · rw [List.head?_cons, Option.some.injEq] at e
          exact nz w List.mem_cons_self c1 e
        · rw [← List.map_cons (f := fun q => toF (fromF q * r)), List.getLast?_map] at e
          cases c : (w :: ws).getLast? with
          | none => simp at c
          | some z =>
            rw [c] at e
            simp only [Option.map_some, Option.some.injEq] at e
            exact nz z (List.mem_of_getLast? c) (fun hz => c2 (by rw [c, hz])) e
    · obtain ⟨p, hp, e⟩ := List.mem_map.mp hq
      obtain ⟨s, es, bs⟩ := h.bd p hp
      exact ⟨_, e.symm, by rw [es, fromF_toF]; exact Bd.mul bs hr⟩
    · unfold valQ
      rw [worthAt_D, worthAt_D]
      split
      · rw [List.getD_eq_getElem?_getD, List.getD_eq_getElem?_getD, List.getElem?_map]
        cases ws[(m - f).toNat]? with
        | none =>
          show fromF (0, 1) = fromF (0, 1) * r
          exact (Rat.zero_mul r).symm
        | some q => exact fromF_toF _
      · exact (Rat.zero_mul r).symm
theorem scaled_v {f a b : Int} {ws : List Fr} {i : Nat} {r : Rat} (h : Row f ws i a b) (hr : Bd i r) (sp : Span a b) (hi : 0 < i) (l : i ≤ 3000) :
    ∃ f' ws', f_scaled [rowD f ws, frQ r] hs = .ok (rowD f' ws') hs ∧ Row f' ws' (i + i) a b ∧ ∀ m, valQ f' ws' m = valQ f ws m * r := by
  obtain ⟨f', ws', p, rr, v⟩ := scaled_of_v (hs := hs) h hr sp hi l
  have ifr : f_is_fraction [frQ r] hs = .ok (.bl true) hs := by
    unfold frQ
    rw [is_fraction_v (Nat.lt_of_lt_of_le hr.den (fuel_le (by omega)))]
    have := toF_ok r
    unfold okFr at this
    rw [this]
  exact ⟨f', ws', by simp [f_scaled, b_scaled, h.chk sp l, ifr, p], rr, v⟩
theorem worth_v {f a b m : Int} {ws : List Fr} {i : Nat} (h : Row f ws i a b) (sp : Span a b) (hi : 0 < i) (l : i ≤ 3000) :
    f_worth [rowD f ws, .int m] hs = .ok (frQ (valQ f ws m)) hs ∧ Bd i (valQ f ws m) := by
  obtain ⟨e, bd⟩ := worthAt_bd h.bd hi m
  refine ⟨?_, bd⟩
  have w := worth_at_v (hs := hs) (f := f) (m := m) (ws := ws)
  rw [e] at w
  simp [f_worth, b_worth, h.chk sp l, f_check_whole, b_check_whole, is_whole_i, w, frQ]
theorem spread_v {f a b : Int} {ws : List Fr} {i : Nat} (h : Row f ws i a b) (sp : Span a b) (l : i ≤ 3000) :
    f_spread [rowD f ws] hs = .ok (if ws.isEmpty then .non else .int ((ws.length : Int) - 1)) hs := by
  have k := kEq_row (hs := hs) h.ok
  cases e : ws.isEmpty <;> rw [e] at k <;> simp [f_spread, b_spread, h.chk sp l, k]
end
end PL.C

set_option Elab.async false
set_option linter.all false
set_option maxRecDepth 100000
set_option maxHeartbeats 4000000
set_option autoImplicit false
set_option exponentiation.threshold 20000
namespace PL.C
open PySem PySem.Spec PyProof.Rows L2
section
variable {hs : List Ob}
/-! ## the worths of a row over one bottom -/
theorem lcm_step {c u : Int} (hc : 0 < c) (hu : 0 < u) : 0 < c / (Int.gcd c u : Nat) * u ∧ c ∣ c / (Int.gcd c u : Nat) * u ∧ u ∣ c / (Int.gcd c u : Nat) * u ∧ (c / (Int.gcd c u : Nat)).natAbs ≤ c.natAbs := by
  have g0 : 0 < Int.gcd c u := Int.gcd_pos_of_ne_zero_right _ (by omega)
  obtain ⟨k, hk⟩ : ((Int.gcd c u : Nat) : Int) ∣ c := Int.gcd_dvd_left ..
  obtain ⟨l, hl⟩ : ((Int.gcd c u : Nat) : Int) ∣ u := Int.gcd_dvd_right ..
  generalize (Int.gcd c u) = g at g0 hk hl
  have gp : (0 : Int) < (g : Int) := by omega
  have e : c / (g : Int) = k := by
    rw [hk]
    exact Int.mul_ediv_cancel_left k (by omega)
  have k0 : 0 < k := by
    rw [hk] at hc
    exact Int.pos_of_mul_pos_right hc (by omega) |> fun h => h
  rw [e]
  refine ⟨Int.mul_pos k0 hu, ⟨l, ?_⟩, ⟨k, Int.mul_comm k u⟩, ?_⟩
  · rw [hl, hk]
    simp [Int.mul_comm, Int.mul_left_comm]
  · rw [hk, Int.natAbs_mul]
    exact Nat.le_mul_of_pos_left _ (by omega)
theorem ww_loop {i : Nat} {row : D} (hi : 0 < i) : ∀ (ws : List Fr) (j : Nat) (c : Int) (s2 s3 : Option D), 0 < c → 0 < j → c.natAbs < 2 ^ j → (∀ q ∈ ws, 0 < q.2 ∧ q.2.natAbs < 2 ^ i) → j + i * ws.length ≤ 3000 →
    ∃ B s2' s3', loopL (.tp [.nm 2, .nm 3]) (cSet (.nm 1) (c2 kMul (c2 kDiv (cV 1) (cF C.f_common (cCons (cV 1) (cCons (cV 3) (cNil))))) (cV 3))) (ws.map frD) [some row, some (.int c), s2, s3] hs = .ok (.nx [some row, some (.int B), s2', s3']) hs ∧ 0 < B ∧ B.natAbs < 2 ^ (j + i * ws.length) ∧ c ∣ B ∧ ∀ q ∈ ws, q.2 ∣ B
  | [], j, c, s2, s3, hc, _, hb, _, _ => ⟨c, s2, s3, rfl, hc, by simpa using hb, Int.dvd_refl c, by simp⟩
  | q :: ws, j, c, s2, s3, hc, hj, hb, hq, hl => by
    obtain ⟨u0, ub⟩ := hq q List.mem_cons_self
    have hlen : j + i + i * ws.length = j + i * (q :: ws).length := by
      rw [List.length_cons, Nat.mul_succ]; omega
    obtain ⟨p1, p2, p3, p4⟩ := lcm_step hc u0
    have ji : j + i ≤ 3000 := by
      rw [← hlen] at hl
      omega
    have b2 : (c / (Int.gcd c q.2 : Nat) * q.2).natAbs < 2 ^ (j + i) := mul_lt_pow (Nat.lt_of_le_of_lt p4 hb) ub
    obtain ⟨B, t2, t3, e, r1, r2, r3, r4⟩ := ww_loop (row := row) hi ws (j + i) (c / (Int.gcd c q.2 : Nat) * q.2) (some (.int q.1)) (some (.int q.2)) p1 (by omega) b2 (fun x hx => hq x (List.mem_cons_of_mem _ hx)) (by rw [hlen]; exact hl)
    refine ⟨B, t2, t3, ?_, r1, by rw [← hlen]; exact r2, Int.dvd_trans p2 r3, fun x hx => ?_⟩
    · have e1 : bindT (.tp [.nm 2, .nm 3]) (frD q) [some row, some (.int c), s2, s3] = some [some row, some (.int c), some (.int q.1), some (.int q.2)] := rfl
      have cm := common_v (hs := hs) (a := c) (b := q.2) (Nat.lt_of_lt_of_le ub (fuel_le (by omega)))
      have g0 : 0 < Int.gcd c q.2 := Int.gcd_pos_of_ne_zero_right _ (by omega)
      have g1 : Int.gcd c q.2 ≤ q.2.natAbs := Nat.le_of_dvd (by omega) (by rw [Int.gcd_eq_natAbs_gcd_natAbs]; exact Nat.gcd_dvd_right _ _)
      have lg : ((Int.gcd c q.2 : Nat) : Int).natAbs.log2 < 9000 := by
        rw [Int.natAbs_natCast]
        exact Nat.lt_of_lt_of_le (log2_lt (Nat.lt_of_le_of_lt g1 ub) (by omega)) (by omega)
      have dv : kDiv (.int c) (.int (Int.gcd c q.2 : Nat)) hs = .ok (.int (c / (Int.gcd c q.2 : Nat))) hs := kDiv_v (by omega) lg
      have mv : kMul (.int (c / (Int.gcd c q.2 : Nat))) (.int q.2) hs = .ok (.int (c / (Int.gcd c q.2 : Nat) * q.2)) hs := kMul_v (mulOk_of (Nat.lt_of_le_of_lt p4 hb) ub hj hi (by omega))
      rw [List.map_cons]
      unfold loopL
      rw [e1]
      simp [cm, dv, mv]
      exact e
    · rcases List.mem_cons.mp hx with h | h
      · rw [h]; exact Int.dvd_trans p3 r3
      · exact r4 x h
end
end PL.C

set_option Elab.async false
set_option linter.all false
set_option maxRecDepth 100000
set_option maxHeartbeats 4000000
set_option autoImplicit false
set_option exponentiation.threshold 20000
namespace PL.C
open PySem PySem.Spec PyProof.Rows L2
section
variable {hs : List Ob}
/-- a row's worths as integers over one bottom B -/
def overB (B : Int) (ws : List Fr) : List Int := ws.map fun q => q.1 * (B / q.2)
theorem div_le_self {B u : Int} (hu : 0 < u) : (B / u).natAbs ≤ B.natAbs := Int.natAbs_ediv_le_natAbs B u
theorem whole_worths_v {f : Int} {ws : List Fr} {i : Nat} (hi : 0 < i) (hq : ∀ q ∈ ws, 0 < q.2 ∧ q.2.natAbs < 2 ^ i ∧ q.1.natAbs < 2 ^ i) (hl : 1 + i * ws.length ≤ 2000) (hi2 : i ≤ 2000) (hn : ws.length < 16777216) :
    ∃ B, f_whole_worths [rowD f ws] hs = .ok (.tup [.fl ((overB B ws).map D.int), .int B]) hs ∧ 0 < B ∧ B.natAbs < 2 ^ (1 + i * ws.length) ∧ (∀ q ∈ ws, q.2 ∣ B) ∧ ∀ q ∈ ws, (q.1 * (B / q.2)).natAbs < 2 ^ (i + (1 + i * ws.length)) := by
  obtain ⟨B, t2, t3, e, r1, r2, _, r4⟩ := ww_loop (hs := hs) (row := rowD f ws) hi ws 1 1 none none (by decide) (by decide) (by decide) (fun q h => ⟨(hq q h).1, (hq q h).2.1⟩) (by omega)
  have bd : ∀ q ∈ ws, (B / q.2).natAbs < 2 ^ (1 + i * ws.length) := fun q h => Nat.lt_of_le_of_lt (div_le_self (hq q h).1) r2
  have cv : cComp false [2, 3] (.tp [.nm 2, .nm 3]) (iSeq (c2 kItem (cV 0) (cK (.int 1)))) (cYes) (.lst []) (pLst (c2 kMul (cV 2) (c2 kDiv (cV 1) (cV 3)))) [some (rowD f ws), some (.int B), t2, t3] hs = .ok (.fl (ws.map fun q => D.int (q.1 * (B / q.2)))) hs :=
    comp_all (b := false) frD (fun q => D.int (q.1 * (B / q.2))) ws (iSeq_t (by simp)) (fun q h => ⟨[some (rowD f ws), some (.int B), some (.int q.1), some (.int q.2)], rfl, by
      have lg : q.2.natAbs.log2 < 9000 := Nat.lt_of_lt_of_le (log2_lt (hq q h).2.1 hi) (by omega)
      have dv : kDiv (.int B) (.int q.2) hs = .ok (.int (B / q.2)) hs := kDiv_v (hq q h).1 lg
      have mv : kMul (.int q.1) (.int (B / q.2)) hs = .ok (.int (q.1 * (B / q.2))) hs := kMul_v (mulOk_of (hq q h).2.2 (bd q h) hi (by omega) (by omega))
      simp [dv, mv]⟩) hn
  refine ⟨B, ?_, r1, r2, r4, fun q h => mul_lt_pow (hq q h).2.2 (bd q h)⟩
  have sq : iSeq (c2 kItem (cV 0) (cK (.int 1))) [some (rowD f ws), some (.int 1), none, none] hs = .ok (.seq (ws.map frD)) hs := iSeq_t (by simp)
  have fv : cFor (.tp [.nm 2, .nm 3]) (iSeq (c2 kItem (cV 0) (cK (.int 1)))) (cSet (.nm 1) (c2 kMul (c2 kDiv (cV 1) (cF C.f_common (cCons (cV 1) (cCons (cV 3) (cNil))))) (cV 3))) [some (rowD f ws), some (.int 1), none, none] hs = .ok (.nx [some (rowD f ws), some (.int B), t2, t3]) hs := by
    unfold cFor
    rw [sq, bind_ok]
    exact e
  have ov : (overB B ws).map D.int = ws.map fun q => D.int (q.1 * (B / q.2)) := by
    unfold overB
    rw [List.map_map]
    rfl
  rw [ov]
  generalize (ws.map fun q => D.int (q.1 * (B / q.2))) = Z at cv
  simp only [f_whole_worths, b_whole_worths]
  simp [fv, cv]
end
theorem over_rat {r : Rat} {B : Int} (h : (r.den : Int) ∣ B) : ((r.num * (B / (r.den : Int)) : Int) : Rat) = r * (B : Rat) := by
  obtain ⟨k, e⟩ := h
  have d : (r.den : Int) ≠ 0 := by have := r.den_pos; omega
  rw [e, Int.mul_ediv_cancel_left k d, Rat.intCast_mul, Rat.intCast_mul, ← Rat.mul_assoc]
  congr 1
  have e1 : r = (r.num : Rat) / ((r.den : Int) : Rat) := by
    rw [← Rat.divInt_eq_div, Rat.num_divInt_den]
  have nz : ((r.den : Int) : Rat) ≠ 0 := fun h => d (by simpa using h)
  have e2 : (r.num : Rat) / ((r.den : Int) : Rat) * ((r.den : Int) : Rat) = (r.num : Rat) := Rat.div_mul_cancel nz
  rw [← e1] at e2
  exact e2.symm
end PL.C

set_option Elab.async false
set_option linter.all false
set_option maxRecDepth 100000
set_option maxHeartbeats 4000000
set_option autoImplicit false
set_option exponentiation.threshold 20000
namespace PL.C
open PySem PySem.Spec PyProof.Rows L2
section
variable {hs : List Ob}
theorem check_whole_v {m : Int} : f_check_whole [.int m] hs = .ok .non hs := by
  simp [f_check_whole, b_check_whole, is_whole_i]
theorem row_of_v {f a b : Int} {ws : List Fr} {i : Nat} (h : ∀ q ∈ ws, ∃ r, q = toF r ∧ Bd i r) (hl : ws.length ≤ 200) (l : i ≤ 3000) (h0 : a ≤ 0 ∧ 0 ≤ b) (ha : a ≤ f) (hb : f + ws.length ≤ b) :
    ∃ f' ws', f_row_of [.int f, .tup (ws.map frD)] hs = .ok (rowD f' ws') hs ∧ Row f' ws' i a b ∧ ∀ m, valQ f' ws' m = valQ f ws m := by
  have okq : ∀ q ∈ ws, okFr q = true := fun q hq => by
    obtain ⟨r, e, _⟩ := h q hq
    rw [e]; exact toF_ok r
  have fuel : ∀ q ∈ ws, q.2.natAbs < FUEL := fun q hq => by
    obtain ⟨r, e, bd⟩ := h q hq
    rw [e]
    exact Nat.lt_of_lt_of_le bd.den (fuel_le (by omega))
  obtain ⟨f', ws', p, ok, w, sub, loc⟩ := made_row_v (hs := hs) (f := f) (ws := ws) .t (Nat.lt_of_le_of_lt hl (Nat.lt_of_lt_of_le (by decide : 200 < 2 ^ 20) (fuel_le (by decide)))) okq
  have cv : cComp false [2] (.nm 2) (iSeq (cV 1)) (cYes) (.lst []) (pLst (cF C.f_is_fraction (cCons (cV 2) (cNil)))) [some (.int f), some (.tup (ws.map frD)), none] hs = .ok (.fl (ws.map fun q => .bl (okFr q))) hs :=
    comp_all (b := false) frD (fun q => .bl (okFr q)) ws (iSeq_t (by simp)) (fun q hq => ⟨[some (.int f), some (.tup (ws.map frD)), some (frD q)], rfl, by simp [is_fraction_v (fuel q hq), okFr]⟩) (by omega)
  have hk : kAll (.fl (ws.map fun q => .bl (okFr q))) hs = .ok (.bl true) hs := by
    rw [show (true : Bool) = ws.all okFr from (List.all_eq_true.mpr okq).symm]
    exact kAll_m
  refine ⟨f', ws', ?_, ⟨ok, fun q hq => h q (sub q hq), ?_, ?_⟩, fun m => by unfold valQ; rw [w m]⟩
  · have tt : f_is_tuple [.tup (ws.map frD), .int 0, .int 200] hs = .ok (.bl true) hs := by
      rw [is_tuple_t]
      have : (ws.length : Int) ≤ 200 := by omega
      simp [this]
    generalize (ws.map fun q => D.bl (okFr q)) = Z at cv hk
    generalize ws.map frD = Y at cv tt p ⊢
    simp only [f_row_of, b_row_of]
    simp [check_whole_v, tt, cv, hk, p]
  · rcases loc with h | ⟨h, _⟩
    · subst h
      rw [okRow_e ok]
      exact h0.1
    · omega
  · rcases loc with h | ⟨_, h⟩
    · subst h
      rw [okRow_e ok]
      simpa using h0.2
    · omega
/-! ## the law's own numbers -/
theorem law_sum_v {i : Nat} {a b : Rat} (ha : Bd i a) (hb : Bd i b) (hi : 0 < i) (l : i ≤ 3000) : f__law_sum [frQ a, frQ b] hs = .ok (frQ (a + b)) hs := by
  have e1 : kMul (.int a.num) (.int (b.den : Int)) hs = .ok (.int (a.num * (b.den : Int))) hs := kMul_v (mulOk_of ha.1 hb.den hi hi (by omega))
  have e2 : kMul (.int b.num) (.int (a.den : Int)) hs = .ok (.int (b.num * (a.den : Int))) hs := kMul_v (mulOk_of hb.1 ha.den hi hi (by omega))
  have e3 : kMul (.int (a.den : Int)) (.int (b.den : Int)) hs = .ok (.int ((a.den : Int) * (b.den : Int))) hs := kMul_v (mulOk_of ha.den hb.den hi hi (by omega))
  have e4 := fraction_v (hs := hs) (a := a.num * (b.den : Int) + b.num * (a.den : Int)) (denmul a b) (pow_8000 (mul_lt_pow ha.den hb.den) (by omega))
  have e5 := addF_toF a b
  unfold addF at e5
  rw [show redF (a.num * (b.den : Int) + b.num * (a.den : Int)) ((a.den : Int) * (b.den : Int)) = toF (a + b) from e5] at e4
  change _ = R.ok (frQ (a + b)) hs at e4
  simp [f__law_sum, b__law_sum, e1, e2, e3, e4]
theorem law_product_v {i : Nat} {a b : Rat} (ha : Bd i a) (hb : Bd i b) (hi : 0 < i) (l : i ≤ 3000) : f__law_product [frQ a, frQ b] hs = .ok (frQ (a * b)) hs := by
  have := product_v (hs := hs) (p := toF a) (q := toF b) (i := i) (denpos a) (denpos b) ha.1 ha.den hb.1 hb.den hi (by omega)
  rw [mulF_toF] at this
  exact this
theorem law_minus_v {a : Rat} : f__law_minus [frQ a] hs = .ok (frQ (-a)) hs := by
  have e : frQ (-a) = .tup [.int (-a.num), .int (a.den : Int)] := by
    unfold frQ frD toF
    rw [Rat.neg_num, Rat.neg_den]
  rw [e]
  simp [f__law_minus, b__law_minus]
end
end PL.C

set_option Elab.async false
set_option linter.all false
set_option maxRecDepth 100000
set_option maxHeartbeats 4000000
set_option autoImplicit false
set_option exponentiation.threshold 20000
namespace PL.C
open PySem PySem.Spec PyProof.Rows L2
section
variable {hs : List Ob}
/-! ## the product: one step of the two loops -/
theorem last_ob {o : Ob} : (hs ++ [o])[hs.length]? = some o := by simp
theorem aug_step {s0 s1 s2 s3 s4 s5 : Option D} {F : List Int} {a p : Nat} {x y : Int} (h : a + p < F.length) (hm : mulOk x y = true) :
    cAugIx kAddIp (cV 6) (c2 kAdd (cV 7) (cV 9)) (c2 kMul (cV 8) (cV 10)) [s0, s1, s2, s3, s4, s5, some (.ref hs.length), some (.int a), some (.int x), some (.int p), some (.int y)] (hs ++ [.lst (F.map D.int)])
      = .ok (.nx [s0, s1, s2, s3, s4, s5, some (.ref hs.length), some (.int a), some (.int x), some (.int p), some (.int y)]) (hs ++ [.lst ((F.set (a + p) (F[a + p] + x * y)).map D.int)]) := by
  have ix : ixN (F.map D.int).length ((a : Int) + (p : Int)) = some (a + p) := by
    rw [← Int.natCast_add]
    unfold ixN
    rw [List.length_map, if_pos (by omega), if_pos (by omega), Int.toNat_natCast]
  have g : (F.map D.int)[a + p]? = some (.int F[a + p]) := by simp [h]
  have e1 : kItemR (.ref hs.length) (.int ((a : Int) + (p : Int))) (hs ++ [.lst (F.map D.int)]) = .ok (.int F[a + p]) (hs ++ [.lst (F.map D.int)]) := by
    have at0 : atI (F.map D.int) ((a : Int) + (p : Int)) = some (.int F[a + p]) := by
      rw [← Int.natCast_add]
      exact atI_p g
    unfold kItemR
    simp [last_ob, at0]
  have e2 := kSetIx_r (d := .int (F[a + p] + x * y)) (last_ob (hs := hs) (o := .lst (F.map D.int))) ix
  have e3 : kMul (.int x) (.int y) (hs ++ [.lst (F.map D.int)]) = .ok (.int (x * y)) (hs ++ [.lst (F.map D.int)]) := kMul_v hm
  have e4 : (hs ++ [Ob.lst (F.map D.int)]).set hs.length (.lst ((F.map D.int).set (a + p) (.int (F[a + p] + x * y)))) = hs ++ [.lst ((F.set (a + p) (F[a + p] + x * y)).map D.int)] := by
    rw [List.map_set]
    simp
  rw [e4] at e2
  clear e4
  unfold cAugIx
  generalize hs ++ [Ob.lst (F.map D.int)] = H at e1 e2 e3 ⊢
  generalize hs ++ [Ob.lst ((F.set (a + p) (F[a + p] + x * y)).map D.int)] = H2 at e2 ⊢
  have e5 : kAddIp (.int F[a + p]) (.int (x * y)) H = .ok (.int (F[a + p] + x * y)) H := rfl
  simp [e1, e3, e5]
  rw [e2]
end
end PL.C

set_option Elab.async false
set_option linter.all false
set_option maxRecDepth 100000
set_option maxHeartbeats 4000000
set_option autoImplicit false
set_option exponentiation.threshold 20000
namespace PL.C
open PySem PySem.Spec PyProof.Rows L2
section
variable {hs : List Ob}
/-- add a number times a list, from a place on -/
def addRow (F : List Int) (k : Nat) (x : Int) : List Int → List Int
  | [] => F
  | y :: ys => addRow (F.set k (F.getD k 0 + x * y)) (k + 1) x ys
theorem addRow_len {x : Int} : ∀ (ys : List Int) (F : List Int) (k : Nat), (addRow F k x ys).length = F.length
  | [], _, _ => rfl
  | y :: ys, F, k => by
    unfold addRow
    rw [addRow_len ys]
    simp
theorem addRow_get {x : Int} : ∀ (ys : List Int) (F : List Int) (k m : Nat), k + ys.length ≤ F.length → (addRow F k x ys).getD m 0 = F.getD m 0 + (if k ≤ m then x * ys.getD (m - k) 0 else 0)
  | [], F, k, m, _ => by simp [addRow]
  | y :: ys, F, k, m, h => by
    rw [List.length_cons] at h
    unfold addRow
    rw [addRow_get ys _ _ _ (by simp; omega)]
    by_cases e : k = m
    · subst e
      have hk : k < F.length := by omega
      rw [if_neg (by omega), if_pos (Nat.le_refl _), Nat.sub_self]
      simp [List.getD_eq_getElem?_getD, hk]
    · have e1 : (F.set k (F.getD k 0 + x * y)).getD m 0 = F.getD m 0 := by
        rw [List.getD_eq_getElem?_getD, List.getElem?_set_ne e, ← List.getD_eq_getElem?_getD]
      rw [e1]
      by_cases hm : k ≤ m
      · rw [if_pos hm, if_pos (by omega), show m - k = (m - (k + 1)) + 1 by omega]
        simp [List.getD_eq_getElem?_getD]
      · rw [if_neg hm, if_neg (by omega)]
theorem inner_loop {s0 s1 s2 s3 s4 s5 : Option D} {a : Nat} {x : Int} : ∀ (ys : List Int) (p : Nat) (F : List Int) (s9 s10 : Option D), a + p + ys.length ≤ F.length → (∀ y ∈ ys, mulOk x y = true) →
    ∃ t9 t10, loopL (.tp [.nm 9, .nm 10]) (cAugIx kAddIp (cV 6) (c2 kAdd (cV 7) (cV 9)) (c2 kMul (cV 8) (cV 10))) (enumD p (ys.map D.int)) [s0, s1, s2, s3, s4, s5, some (.ref hs.length), some (.int a), some (.int x), s9, s10] (hs ++ [.lst (F.map D.int)])
      = .ok (.nx [s0, s1, s2, s3, s4, s5, some (.ref hs.length), some (.int a), some (.int x), t9, t10]) (hs ++ [.lst ((addRow F (a + p) x ys).map D.int)])
  | [], p, F, s9, s10, _, _ => ⟨s9, s10, rfl⟩
  | y :: ys, p, F, s9, s10, h, hm => by
    rw [List.length_cons] at h
    have st := aug_step (hs := hs) (s0 := s0) (s1 := s1) (s2 := s2) (s3 := s3) (s4 := s4) (s5 := s5) (F := F) (a := a) (p := p) (x := x) (y := y) (by omega) (hm y List.mem_cons_self)
    have gd : F.getD (a + p) 0 = F[a + p] := by
      rw [List.getD_eq_getElem?_getD, List.getElem?_eq_getElem (by omega)]
      rfl
    obtain ⟨t9, t10, e⟩ := inner_loop (s0 := s0) (s1 := s1) (s2 := s2) (s3 := s3) (s4 := s4) (s5 := s5) (a := a) (x := x) ys (p + 1) (F.set (a + p) (F[a + p] + x * y)) (some (.int p)) (some (.int y)) (by simp; omega) (fun z hz => hm z (List.mem_cons_of_mem _ hz))
    refine ⟨t9, t10, ?_⟩
    unfold addRow
    rw [gd, show a + p + 1 = a + (p + 1) from rfl, ← e]
    have e1 : bindT (.tp [.nm 9, .nm 10]) (.tup [.int (p : Int), .int y]) [s0, s1, s2, s3, s4, s5, some (.ref hs.length), some (.int a), some (.int x), s9, s10] = some [s0, s1, s2, s3, s4, s5, some (.ref hs.length), some (.int a), some (.int x), some (.int p), some (.int y)] := rfl
    show loopL _ _ (.tup [.int (p : Int), .int y] :: enumD (p + 1) (ys.map D.int)) _ _ = _
    rw [loopL]
    rw [e1]
    dsimp only
    rw [st, bind_ok]
end
end PL.C

set_option Elab.async false
set_option linter.all false
set_option maxRecDepth 100000
set_option maxHeartbeats 4000000
set_option autoImplicit false
set_option exponentiation.threshold 20000
namespace PL.C
open PySem PySem.Spec PyProof.Rows L2
section
variable {hs : List Ob}
/-- the product of two lists, added onto a list from a place on -/
def conv (F : List Int) (a : Nat) (ys : List Int) : List Int → List Int
  | [] => F
  | x :: xs => conv (addRow F a x ys) (a + 1) ys xs
theorem conv_len {ys : List Int} : ∀ (xs : List Int) (F : List Int) (a : Nat), (conv F a ys xs).length = F.length
  | [], _, _ => rfl
  | x :: xs, F, a => by
    unfold conv
    rw [conv_len xs, addRow_len]
theorem outer_loop {s0 s1 s2 s3 s5 : Option D} {ys : List Int} : ∀ (xs : List Int) (a : Nat) (F : List Int) (s7 s8 s9 s10 : Option D), a + xs.length + ys.length ≤ F.length + 1 → (∀ x ∈ xs, ∀ y ∈ ys, mulOk x y = true) →
    ∃ t7 t8 t9 t10, loopL (.tp [.nm 7, .nm 8]) (cFor (.tp [.nm 9, .nm 10]) (iArgs kEnum (cCons (cV 4) (cNil))) (cAugIx kAddIp (cV 6) (c2 kAdd (cV 7) (cV 9)) (c2 kMul (cV 8) (cV 10)))) (enumD a (xs.map D.int)) [s0, s1, s2, s3, some (.fl (ys.map D.int)), s5, some (.ref hs.length), s7, s8, s9, s10] (hs ++ [.lst (F.map D.int)])
      = .ok (.nx [s0, s1, s2, s3, some (.fl (ys.map D.int)), s5, some (.ref hs.length), t7, t8, t9, t10]) (hs ++ [.lst ((conv F a ys xs).map D.int)])
  | [], a, F, s7, s8, s9, s10, _, _ => ⟨s7, s8, s9, s10, rfl⟩
  | x :: xs, a, F, s7, s8, s9, s10, h, hm => by
    rw [List.length_cons] at h
    obtain ⟨u9, u10, e⟩ := inner_loop (hs := hs) (s0 := s0) (s1 := s1) (s2 := s2) (s3 := s3) (s4 := some (.fl (ys.map D.int))) (s5 := s5) (a := a) (x := x) ys 0 F s9 s10 (by omega) (hm x List.mem_cons_self)
    obtain ⟨t7, t8, t9, t10, e2⟩ := outer_loop (s0 := s0) (s1 := s1) (s2 := s2) (s3 := s3) (s5 := s5) (ys := ys) xs (a + 1) (addRow F a x ys) (some (.int a)) (some (.int x)) u9 u10 (by rw [addRow_len]; omega) (fun z hz => hm z (List.mem_cons_of_mem _ hz))
    refine ⟨t7, t8, t9, t10, ?_⟩
    unfold conv
    rw [← e2]
    have e1 : bindT (.tp [.nm 7, .nm 8]) (.tup [.int (a : Int), .int x]) [s0, s1, s2, s3, some (.fl (ys.map D.int)), s5, some (.ref hs.length), s7, s8, s9, s10] = some [s0, s1, s2, s3, some (.fl (ys.map D.int)), s5, some (.ref hs.length), some (.int a), some (.int x), s9, s10] := rfl
    have sq : iArgs kEnum (cCons (cV 4) (cNil)) [s0, s1, s2, s3, some (.fl (ys.map D.int)), s5, some (.ref hs.length), some (.int a), some (.int x), s9, s10] (hs ++ [.lst (F.map D.int)]) = .ok (.seq (enumD 0 (ys.map D.int))) (hs ++ [.lst (F.map D.int)]) := by
      unfold iArgs
      simp
      rfl
    have fv : cFor (.tp [.nm 9, .nm 10]) (iArgs kEnum (cCons (cV 4) (cNil))) (cAugIx kAddIp (cV 6) (c2 kAdd (cV 7) (cV 9)) (c2 kMul (cV 8) (cV 10))) [s0, s1, s2, s3, some (.fl (ys.map D.int)), s5, some (.ref hs.length), some (.int a), some (.int x), s9, s10] (hs ++ [.lst (F.map D.int)])
        = .ok (.nx [s0, s1, s2, s3, some (.fl (ys.map D.int)), s5, some (.ref hs.length), some (.int a), some (.int x), u9, u10]) (hs ++ [.lst ((addRow F a x ys).map D.int)]) := by
      unfold cFor
      rw [sq, bind_ok]
      exact e
    show loopL _ _ (.tup [.int (a : Int), .int x] :: enumD (a + 1) (xs.map D.int)) _ _ = _
    rw [loopL]
    rw [e1]
    dsimp only
    rw [fv, bind_ok]
end
end PL.C

set_option Elab.async false
set_option linter.all false
set_option maxRecDepth 100000
set_option maxHeartbeats 4000000
set_option autoImplicit false
set_option exponentiation.threshold 20000
namespace PL.C
open PySem PySem.Spec PyProof.Rows L2
/-- what the two loops leave at a place: the terms that fall there -/
def convAt (ys : List Int) (a m : Nat) : List Int → Int
  | [] => 0
  | x :: xs => (if a ≤ m then x * ys.getD (m - a) 0 else 0) + convAt ys (a + 1) m xs
theorem conv_get {ys : List Int} {m : Nat} : ∀ (xs : List Int) (F : List Int) (a : Nat), a + xs.length + ys.length ≤ F.length + 1 → (conv F a ys xs).getD m 0 = F.getD m 0 + convAt ys a m xs
  | [], F, a, _ => by simp [conv, convAt]
  | x :: xs, F, a, h => by
    rw [List.length_cons] at h
    unfold conv convAt
    rw [conv_get xs _ _ (by rw [addRow_len]; omega), addRow_get ys F a m (by omega)]
    omega
end PL.C

set_option Elab.async false
set_option linter.all false
set_option maxRecDepth 100000
set_option maxHeartbeats 4000000
set_option autoImplicit false
set_option exponentiation.threshold 20000
namespace PL.C
open PySem PySem.Spec PyProof.Rows L2
section
variable {hs : List Ob}
/-- a def that made one cell of its own and answers with a row: the cell goes -/
theorem leave_row {f : Int} {ws : List Fr} {o : Ob} (fl : Flat hs) : leave hs (.ok (.rt (rowD f ws)) (hs ++ [o])) = .ok (rowD f ws) hs := by
  have fz : fzD (hs ++ [o]) hs.length 9 (rowD f ws) = rowD f ws := by
    simp only [rowD, fzD, List.map_cons, List.map_nil, List.map_map]
    congr 4
  have tk : (hs ++ [o]).take hs.length = hs := by simp
  unfold leave finD
  dsimp only
  rw [if_neg (by simp), fz, tk, if_pos]
  refine ⟨?_, List.all_eq_true.mpr fun o ho => fl o ho _⟩
  simp only [rowD, ltR, ltRs, Bool.and_true, Bool.true_and]
  exact ltRs_frs
/-- the product, as the program reckons it: sums of whole products over both bottoms -/
theorem times_raw {f g B C : Int} {ws vs : List Fr} (fl : Flat hs) (ok1 : okRow f ws = true) (ok2 : okRow g vs = true) (n1 : ws.isEmpty = false) (n2 : vs.isEmpty = false)
    (w1 : f_whole_worths [rowD f ws] hs = .ok (.tup [.fl ((overB B ws).map D.int), .int B]) hs) (w2 : f_whole_worths [rowD g vs] hs = .ok (.tup [.fl ((overB C vs).map D.int), .int C]) hs)
    (hm : ∀ x ∈ overB B ws, ∀ y ∈ overB C vs, mulOk x y = true) (hBC : mulOk B C = true) (pos : 0 < B * C) (bBC : (B * C).natAbs < 2 ^ 8000) (hl : ws.length + vs.length ≤ 1000000) :
    f_times_of [rowD f ws, rowD g vs] hs = .ok (rowD (f + g) ((conv (List.replicate (ws.length + vs.length - 1) 0) 0 (overB C vs) (overB B ws)).map fun x => redF x (B * C))) hs := by
  have k1 := kEq_row (hs := hs) ok1
  have k2 := kEq_row (hs := hs) ok2
  rw [n1] at k1
  rw [n2] at k2
  have lw : 0 < ws.length := List.length_pos_iff.mpr (by intro h; rw [h] at n1; cases n1)
  have lx : (overB B ws).length = ws.length := by simp [overB]
  have ly : (overB C vs).length = vs.length := by simp [overB]
  generalize hX : overB B ws = xs at *
  generalize hY : overB C vs = ys at *
  have t1 : cSet (.tp [.nm 2, .nm 3]) (cF f_whole_worths (cCons (cV 0) cNil)) [some (rowD f ws), some (rowD g vs), none, none, none, none, none, none, none, none, none] hs = .ok (.nx [some (rowD f ws), some (rowD g vs), some (.fl (xs.map D.int)), some (.int B), none, none, none, none, none, none, none]) hs := by
    unfold cSet
    simp [w1]
    try rfl
  have t2 : cSet (.tp [.nm 4, .nm 5]) (cF f_whole_worths (cCons (cV 1) cNil)) [some (rowD f ws), some (rowD g vs), some (.fl (xs.map D.int)), some (.int B), none, none, none, none, none, none, none] hs = .ok (.nx [some (rowD f ws), some (rowD g vs), some (.fl (xs.map D.int)), some (.int B), some (.fl (ys.map D.int)), some (.int C), none, none, none, none, none]) hs := by
    unfold cSet
    simp [w2]
    try rfl
  generalize hN : ws.length + vs.length - 1 = N
  have zs : cComp true [8] (.nm 8) (iSeq (c1 (kLRg1 false) (c2 kSub (c2 kAdd (cF (one kLen) (cCons (cV 2) (cNil))) (cF (one kLen) (cCons (cV 4) (cNil)))) (cK (.int 1))))) (cYes) (.lst []) (pLst (cK (.int 0))) [some (rowD f ws), some (rowD g vs), some (.fl (xs.map D.int)), some (.int B), some (.fl (ys.map D.int)), some (.int C), none, none, none, none, none] hs = .ok (.ref hs.length) (hs ++ [.lst ((List.replicate N 0).map D.int)]) := by
    have lg : kLRg1 false (.int ((xs.length : Int) + (ys.length : Int) - 1)) hs = .ok (.fl ((List.range N).map fun i => D.int (i : Nat))) hs := by
      rw [lrg1_v (by omega) (by omega), show ((xs.length : Int) + (ys.length : Int) - 1).toNat = N by omega]
      rfl
    rw [comp_all (b := true) (fun i : Nat => D.int (i : Nat)) (fun _ => D.int 0) (List.range N) (iSeq_l (by simp [lg])) (fun x _ => ⟨_, rfl, rfl⟩) (by simp; omega)]
    have : ((List.range N).map fun _ => D.int 0) = (List.replicate N 0).map D.int := by
      rw [List.map_replicate]
      exact List.ext_getElem (by simp) fun i p q => by simp
    rw [this]
    rfl
  obtain ⟨t7, t8, t9, t10, lp⟩ := outer_loop (hs := hs) (s0 := some (rowD f ws)) (s1 := some (rowD g vs)) (s2 := some (.fl (xs.map D.int))) (s3 := some (.int B)) (s5 := some (.int C)) (ys := ys) xs 0 (List.replicate N 0) none none none none (by simp; omega) hm
  have cl : (conv (List.replicate N 0) 0 ys xs).length = N := by rw [conv_len]; simp
  generalize conv (List.replicate N 0) 0 ys xs = Z at lp cl ⊢
  generalize hH0 : hs ++ [Ob.lst ((List.replicate N 0).map D.int)] = H0 at zs lp
  have fv : cFor (.tp [.nm 7, .nm 8]) (iArgs kEnum (cCons (cV 2) (cNil))) (cFor (.tp [.nm 9, .nm 10]) (iArgs kEnum (cCons (cV 4) (cNil))) (cAugIx kAddIp (cV 6) (c2 kAdd (cV 7) (cV 9)) (c2 kMul (cV 8) (cV 10)))) [some (rowD f ws), some (rowD g vs), some (.fl (xs.map D.int)), some (.int B), some (.fl (ys.map D.int)), some (.int C), some (.ref hs.length), none, none, none, none] H0 = .ok (.nx [some (rowD f ws), some (rowD g vs), some (.fl (xs.map D.int)), some (.int B), some (.fl (ys.map D.int)), some (.int C), some (.ref hs.length), t7, t8, t9, t10]) (hs ++ [.lst (Z.map D.int)]) := by
    have sq : iArgs kEnum (cCons (cV 2) (cNil)) [some (rowD f ws), some (rowD g vs), some (.fl (xs.map D.int)), some (.int B), some (.fl (ys.map D.int)), some (.int C), some (.ref hs.length), none, none, none, none] H0 = .ok (.seq (enumD 0 (xs.map D.int))) H0 := by
      unfold iArgs
      simp
      rfl
    rw [cFor, sq, bind_ok]
    exact lp
  have lz : lstOf (hs ++ [Ob.lst (Z.map D.int)]) (.ref hs.length) = some (Z.map D.int) := lstOf_r last_ob
  have cv : cComp false [8] (.nm 8) (iSeq (cV 6)) (cYes) (.lst []) (pLst (cF f_fraction (cCons (cV 8) (cCons (c2 kMul (cV 3) (cV 5)) (cNil))))) [some (rowD f ws), some (rowD g vs), some (.fl (xs.map D.int)), some (.int B), some (.fl (ys.map D.int)), some (.int C), some (.ref hs.length), t7, t8, t9, t10] (hs ++ [.lst (Z.map D.int)]) = .ok (.fl (Z.map fun x => frD (redF x (B * C)))) (hs ++ [.lst (Z.map D.int)]) := by
    have src : iSeq (cV 6) [some (rowD f ws), some (rowD g vs), some (.fl (xs.map D.int)), some (.int B), some (.fl (ys.map D.int)), some (.int C), some (.ref hs.length), t7, t8, t9, t10] (hs ++ [.lst (Z.map D.int)]) = .ok (.live fun h => lstOf h (.ref hs.length)) (hs ++ [.lst (Z.map D.int)]) := by
      unfold iSeq
      show R.bind (R.ok (D.ref hs.length) (hs ++ [Ob.lst (Z.map D.int)])) _ = _
      rw [bind_ok]
      exact srcOf_r last_ob
    rw [comp_live (b := false) (g := fun x => frD (redF x (B * C))) D.int _ Z src lz (fun x _ => ⟨[some (rowD f ws), some (rowD g vs), some (.fl (xs.map D.int)), some (.int B), some (.fl (ys.map D.int)), some (.int C), some (.ref hs.length), t7, some (.int x), t9, t10], rfl, by simp [kMul_v hBC, fractionP_v pos bBC]⟩) (by omega)]
    rfl
  have kt : ∀ h, kTupOf (.fl (Z.map fun x => frD (redF x (B * C)))) h = .ok (.tup ((Z.map fun x => redF x (B * C)).map frD)) h := fun h => by
    rw [List.map_map]; rfl
  have lv := leave_row (hs := hs) (f := f + g) (ws := Z.map fun x => redF x (B * C)) (o := .lst (Z.map D.int)) fl
  unfold rowD at lv
  show _ = R.ok (D.tup [.int (f + g), .tup ((Z.map fun x => redF x (B * C)).map frD)]) hs
  generalize (Z.map fun x => redF x (B * C)).map frD = ZZ at kt lv ⊢
  generalize (Z.map fun x => frD (redF x (B * C))) = Z2 at kt cv
  generalize hs ++ [Ob.lst (Z.map D.int)] = H1 at fv cv lv
  simp only [f_times_of, b_times_of]
  simp [k1, k2, t1, t2, zs, fv, cv, kt]
  exact lv
end
end PL.C

set_option Elab.async false
set_option linter.all false
set_option maxRecDepth 100000
set_option maxHeartbeats 4000000
set_option autoImplicit false
set_option exponentiation.threshold 20000
namespace PL.C
open PySem PySem.Spec PyProof.Rows L2
/-! ## rationals over one bottom -/
def Gd (D N : Nat) (r : Rat) : Prop := ∃ z : Int, r * ((D : Nat) : Rat) = (z : Rat) ∧ z.natAbs ≤ N
section
variable {D E N M i : Nat} {r s : Rat}
theorem Gd.zero : Gd D N 0 := ⟨0, by rw [Rat.zero_mul]; rfl, by simp⟩
theorem Gd.add (h : Gd D N r) (k : Gd D M s) : Gd D (N + M) (r + s) := by
  obtain ⟨z, e, b⟩ := h
  obtain ⟨w, e', b'⟩ := k
  exact ⟨z + w, by rw [Rat.add_mul, e, e', Rat.intCast_add], by omega⟩
theorem Gd.neg (h : Gd D N r) : Gd D N (-r) := by
  obtain ⟨z, e, b⟩ := h
  exact ⟨-z, by rw [Rat.neg_mul, e, Rat.intCast_neg], by omega⟩
theorem Gd.mul (h : Gd D N r) (k : Gd E M s) : Gd (D * E) (N * M) (r * s) := by
  obtain ⟨z, e, b⟩ := h
  obtain ⟨w, e', b'⟩ := k
  refine ⟨z * w, ?_, ?_⟩
  · rw [Rat.intCast_mul, ← e, ← e', Rat.natCast_mul]
    grind
  · rw [Int.natAbs_mul]; exact Nat.mul_le_mul b b'
theorem Gd.mono (h : Gd D N r) (l : N ≤ M) : Gd D M r := by
  obtain ⟨z, e, b⟩ := h
  exact ⟨z, e, Nat.le_trans b l⟩
theorem Gd.bd (h : Gd D N r) (hD : 0 < D) (h1 : N < 2 ^ i) (h2 : D < 2 ^ i) : Bd i r := by
  obtain ⟨z, e, b⟩ := h
  have nz : ((D : Nat) : Rat) ≠ 0 := by
    intro h
    have : D = 0 := by simpa using h
    omega
  have er : r = mkRat z D := by
    rw [Rat.mkRat_eq_div, ← e]
    exact (Rat.mul_div_cancel nz).symm
  have := redF_mk (a := z) (b := D) (by omega)
  rw [← er] at this
  exact bd_red (by omega) this (by omega) (by simpa using h2)
theorem Gd.of (h : r.den ∣ D) : Gd D (r.num.natAbs * D) r := by
  have hd : ((r.den : Nat) : Int) ∣ ((D : Nat) : Int) := Int.natCast_dvd_natCast.mpr h
  refine ⟨r.num * (((D : Nat) : Int) / (r.den : Int)), ?_, ?_⟩
  · have := over_rat hd
    rw [this]
    rfl
  · rw [Int.natAbs_mul]
    refine Nat.mul_le_mul (Nat.le_refl _) ?_
    exact Int.natAbs_ediv_le_natAbs _ _
end
/-! ## rows as pairs: rational worths -/
def qO (o : Own) (m : Int) : Rat := fromF (getF o m)
theorem getF_nil {m : Int} : getF [] m = (0, 1) := rfl
theorem getF_cons {p : Int × Fr} {o : Own} {m : Int} : getF (p :: o) m = if p.1 = m then p.2 else getF o m := by
  unfold getF
  rw [List.find?_cons]
  by_cases h : p.1 = m <;> simp [h]
theorem fromF_z : fromF (0, 1) = 0 := by rw [← toF_0, fromF_toF]
theorem qO_nil {m : Int} : qO [] m = 0 := fromF_z
theorem qO_cons {p : Int × Fr} {o : Own} {m : Int} : qO (p :: o) m = if p.1 = m then fromF p.2 else qO o m := by
  unfold qO
  rw [getF_cons]
  split <;> rfl
theorem qO_off : ∀ {o : Own} {m : Int}, m ∉ keysOf o → qO o m = 0
  | [], _, _ => qO_nil
  | p :: o, m, h => by
    unfold keysOf at h
    rw [List.map_cons, List.mem_cons, not_or] at h
    rw [qO_cons, if_neg fun e => h.1 e.symm, qO_off h.2]
theorem fromF_0 {q : Fr} (h : q.1 = 0) : fromF q = 0 := by
  unfold fromF
  rw [h]
  exact Rat.zero_mkRat _
theorem clear_cons {p : Int × Fr} {o : Own} : clearF (p :: o) = if p.2.1 = 0 then clearF o else p :: clearF o := by
  unfold clearF
  rw [List.filter_cons]
  by_cases h : p.2.1 = 0 <;> simp [h]
theorem qO_clear : ∀ {o : Own} (_ : (keysOf o).Nodup) (m : Int), qO (clearF o) m = qO o m
  | [], _, _ => rfl
  | p :: o, h, m => by
    unfold keysOf at h
    rw [List.map_cons, List.nodup_cons] at h
    have ih := qO_clear (o := o) h.2 m
    rw [clear_cons, qO_cons]
    by_cases e : p.2.1 = 0
    · rw [if_pos e, ih]
      by_cases em : p.1 = m
      · rw [if_pos em, fromF_0 e, qO_off (by rw [← em]; exact h.1)]
      · rw [if_neg em]
    · rw [if_neg e, qO_cons, ih]
theorem qO_at : ∀ {o : Own} (_ : (keysOf o).Nodup) {p : Int × Fr}, p ∈ o → qO o p.1 = fromF p.2
  | x :: o, nd, p, h => by
    unfold keysOf at nd
    rw [List.map_cons, List.nodup_cons] at nd
    rw [qO_cons]
    rcases List.mem_cons.mp h with rfl | h
    · rw [if_pos rfl]
    · rw [if_neg fun e => nd.1 (List.mem_map.mpr ⟨p, h, e.symm⟩), qO_at nd.2 h]
/-! sums of products -/
def dotO : Own → (Int → Rat) → Rat
  | [], _ => 0
  | p :: o, F => fromF p.2 * F p.1 + dotO o F
theorem dotO_cons {F : Int → Rat} {p : Int × Fr} {o : Own} : dotO (p :: o) F = fromF p.2 * F p.1 + dotO o F := rfl
theorem dotO_0 {F : Int → Rat} : ∀ {o : Own}, (∀ p ∈ o, F p.1 = 0) → dotO o F = 0
  | [], _ => rfl
  | p :: o, h => by
    rw [dotO_cons, h p List.mem_cons_self, dotO_0 fun q hq => h q (List.mem_cons_of_mem _ hq), Rat.mul_zero, Rat.add_zero]
theorem dotO_app {F : Int → Rat} {l : Own} : ∀ {o : Own}, dotO (o ++ l) F = dotO o F + dotO l F
  | [] => (Rat.zero_add _).symm
  | p :: o => by
    rw [List.cons_append]
    rw [dotO_cons, dotO_cons, dotO_app, Rat.add_assoc]
theorem dotO_gd {F : Int → Rat} {D E N M : Nat} : ∀ {o : Own}, (∀ p ∈ o, Gd D N (fromF p.2)) → (∀ m, Gd E M (F m)) → Gd (D * E) (o.length * (N * M)) (dotO o F)
  | [], _, _ => Gd.zero
  | p :: o, h, k => by
    rw [dotO_cons]
    have := ((h p List.mem_cons_self).mul (k p.1)).add (dotO_gd (o := o) (fun q hq => h q (List.mem_cons_of_mem _ hq)) k)
    rw [List.length_cons, Nat.add_mul, Nat.one_mul, Nat.add_comm]
    exact this
def sumR (a : Int) : Nat → (Int → Rat) → Rat
  | 0, _ => 0
  | n + 1, G => G a + sumR (a + 1) n G
theorem sumR_s {G : Int → Rat} {n : Nat} {a : Int} : sumR a (n + 1) G = G a + sumR (a + 1) n G := rfl
theorem sumR_0 {G : Int → Rat} : ∀ {n : Nat} {a : Int}, (∀ j, a ≤ j → j < a + n → G j = 0) → sumR a n G = 0
  | 0, _, _ => rfl
  | n + 1, a, h => by
    rw [sumR_s, h a (by omega) (by omega), sumR_0 fun j h1 h2 => h j (by omega) (by omega), Rat.add_zero]
theorem sumR_add {G H : Int → Rat} : ∀ {n : Nat} {a : Int}, sumR a n (fun j => G j + H j) = sumR a n G + sumR a n H
  | 0, _ => (Rat.add_zero 0).symm
  | n + 1, a => by
    rw [sumR_s, sumR_s, sumR_s, sumR_add]
    grind
theorem sumR_one {F : Int → Rat} {x : Int} {c : Rat} : ∀ {n : Nat} {a : Int}, a ≤ x → x < a + n → sumR a n (fun j => (if x = j then c else 0) * F j) = c * F x
  | 0, a, h1, h2 => by omega
  | n + 1, a, h1, h2 => by
    rw [sumR_s]
    by_cases e : x = a
    · subst e
      rw [if_pos rfl, sumR_0 fun j h3 h4 => by rw [if_neg (by omega), Rat.zero_mul], Rat.add_zero]
    · rw [if_neg e, Rat.zero_mul, Rat.zero_add]
      exact sumR_one (by omega) (by omega)
theorem sumR_eq {G H : Int → Rat} {n : Nat} {a : Int} (h : ∀ j, G j = H j) : sumR a n G = sumR a n H := by rw [show G = H from funext h]
theorem dotO_range {F : Int → Rat} {a : Int} {n : Nat} : ∀ {o : Own}, (keysOf o).Nodup → (∀ p ∈ o, a ≤ p.1 ∧ p.1 < a + n) → dotO o F = sumR a n fun j => qO o j * F j
  | [], _, _ => (sumR_0 fun j _ _ => by rw [qO_nil, Rat.zero_mul]).symm
  | p :: o, nd, h => by
    unfold keysOf at nd
    rw [List.map_cons, List.nodup_cons] at nd
    have hp := h p List.mem_cons_self
    rw [dotO_cons, dotO_range (o := o) nd.2 fun q hq => h q (List.mem_cons_of_mem _ hq), ← sumR_one (F := F) (c := fromF p.2) hp.1 hp.2, ← sumR_add]
    refine sumR_eq fun j => ?_
    rw [qO_cons]
    by_cases e : p.1 = j
    · rw [if_pos e, if_pos e, qO_off (by rw [← e]; exact nd.1)]
      grind
    · rw [if_neg e, if_neg e]
      grind
/-- the same worths, the same sum -/
theorem dotO_same {F : Int → Rat} {o l : Own} {a b : Int} (n1 : (keysOf o).Nodup) (n2 : (keysOf l).Nodup) (h1 : ∀ p ∈ o, a ≤ p.1 ∧ p.1 < b) (h2 : ∀ p ∈ l, a ≤ p.1 ∧ p.1 < b) (e : ∀ m, qO o m = qO l m) : dotO o F = dotO l F := by
  have r1 := dotO_range (F := F) (a := a) (n := (b - a).toNat) n1 fun p hp => by have := h1 p hp; omega
  have r2 := dotO_range (F := F) (a := a) (n := (b - a).toNat) n2 fun p hp => by have := h2 p hp; omega
  rw [r1, r2]
  exact sumR_eq fun j => by rw [e j]
/-! the two ways round -/
def sumAt (x : Int) : List (Int × Rat) → Rat
  | [] => 0
  | y :: l => (if y.1 = x then y.2 else 0) + sumAt x l
theorem sumAt_cons {x : Int} {y : Int × Rat} {l : List (Int × Rat)} : sumAt x (y :: l) = (if y.1 = x then y.2 else 0) + sumAt x l := rfl
theorem sumAt_app {x : Int} {k : List (Int × Rat)} : ∀ {l : List (Int × Rat)}, sumAt x (l ++ k) = sumAt x l + sumAt x k
  | [] => (Rat.zero_add _).symm
  | y :: l => by
    rw [List.cons_append, sumAt_cons, sumAt_cons, sumAt_app, Rat.add_assoc]
def pqO (o : Own) : List (Int × Rat) := o.map fun p => (p.1, fromF p.2)
theorem sumAt_pq : ∀ {o : Own} (_ : (keysOf o).Nodup) {x : Int}, sumAt x (pqO o) = qO o x
  | [], _, _ => by rw [qO_nil]; rfl
  | p :: o, nd, x => by
    unfold keysOf at nd
    rw [List.map_cons, List.nodup_cons] at nd
    have ih := sumAt_pq (o := o) nd.2 (x := x)
    unfold pqO at ih ⊢
    rw [List.map_cons, sumAt_cons, ih, qO_cons]
    by_cases e : p.1 = x
    · rw [if_pos e, if_pos e, qO_off (by rw [← e]; exact nd.1), Rat.add_zero]
    · rw [if_neg e, if_neg e, Rat.zero_add]
def timesL (h : Int) (c : Rat) (p : Own) : List (Int × Rat) := p.map fun y => (h + y.1, c * fromF y.2)
theorem sumAt_times {h x : Int} {c : Rat} : ∀ {p : Own} (_ : (keysOf p).Nodup), sumAt x (timesL h c p) = c * qO p (x - h)
  | [], _ => by rw [qO_nil, Rat.mul_zero]; rfl
  | y :: p, nd => by
    unfold keysOf at nd
    rw [List.map_cons, List.nodup_cons] at nd
    have ih := sumAt_times (h := h) (x := x) (c := c) (p := p) nd.2
    unfold timesL at ih ⊢
    rw [List.map_cons, sumAt_cons, ih, qO_cons]
    dsimp only
    by_cases e : y.1 = x - h
    · rw [if_pos (show h + y.1 = x by omega), if_pos e, qO_off (by rw [← e]; exact nd.1), Rat.mul_zero, Rat.add_zero]
    · rw [if_neg (show ¬ h + y.1 = x by omega), if_neg e, Rat.zero_add]
def prodL (o p : Own) : List (Int × Rat) := match o with
  | [] => []
  | x :: o => timesL x.1 (fromF x.2) p ++ prodL o p
theorem sumAt_prod {x : Int} {p : Own} (nd : (keysOf p).Nodup) : ∀ {o : Own}, sumAt x (prodL o p) = dotO o fun j => qO p (x - j)
  | [] => rfl
  | y :: o => by
    rw [dotO_cons]
    unfold prodL
    rw [sumAt_app, sumAt_times nd, sumAt_prod nd]
theorem dot_swap_1 {x : Int} {y : Int × Fr} : ∀ {p : Own}, dotO p (fun j => if y.1 = x - j then fromF y.2 else 0) = sumAt x (timesL y.1 (fromF y.2) p)
  | [] => rfl
  | z :: p => by
    have ih := dot_swap_1 (x := x) (y := y) (p := p)
    unfold timesL at ih ⊢
    rw [List.map_cons, dotO_cons, sumAt_cons, ih]
    dsimp only
    by_cases e : y.1 = x - z.1
    · rw [if_pos e, if_pos (show y.1 + z.1 = x by omega), Rat.mul_comm]
    · rw [if_neg e, if_neg (show ¬ y.1 + z.1 = x by omega), Rat.mul_zero]
theorem dotO_add {F G : Int → Rat} : ∀ {p : Own}, dotO p (fun j => F j + G j) = dotO p F + dotO p G
  | [] => (Rat.add_zero 0).symm
  | z :: p => by
    rw [dotO_cons, dotO_cons, dotO_cons, dotO_add]
    grind
theorem dotO_eq {F G : Int → Rat} {p : Own} (h : ∀ j, F j = G j) : dotO p F = dotO p G := by rw [show F = G from funext h]
/-- products are alike both ways round -/
theorem dot_comm {x : Int} {p : Own} (np : (keysOf p).Nodup) : ∀ {o : Own}, (keysOf o).Nodup → (dotO o fun j => qO p (x - j)) = dotO p fun j => qO o (x - j)
  | [], _ => (dotO_0 fun q _ => qO_nil).symm
  | y :: o, nd => by
    unfold keysOf at nd
    rw [List.map_cons, List.nodup_cons] at nd
    have ih := dot_comm (x := x) np (o := o) nd.2
    have e : (dotO p fun j => qO (y :: o) (x - j)) = dotO p fun j => (if y.1 = x - j then fromF y.2 else 0) + qO o (x - j) := dotO_eq fun j => by
      rw [qO_cons]
      by_cases e : y.1 = x - j
      · rw [if_pos e, if_pos e, qO_off (by rw [← e]; exact nd.1), Rat.add_zero]
      · rw [if_neg e, if_neg e, Rat.zero_add]
    rw [e, dotO_add, dot_swap_1, sumAt_times np, ← ih]
    exact dotO_cons
/-! a row's worths as pairs -/
def enumO (f : Int) : List Fr → Own
  | [] => []
  | w :: ws => (f, w) :: enumO (f + 1) ws
theorem enumO_key : ∀ {ws : List Fr} {f : Int} (p : Int × Fr), p ∈ enumO f ws → f ≤ p.1 ∧ p.1 < f + ws.length ∧ p.2 ∈ ws
  | [], _, p, h => by cases h
  | w :: ws, f, p, h => by
    unfold enumO at h
    rw [List.length_cons]
    rcases List.mem_cons.mp h with rfl | h
    · exact ⟨by omega, by dsimp only; omega, List.mem_cons_self⟩
    · have := enumO_key p h
      exact ⟨by omega, by omega, List.mem_cons_of_mem _ this.2.2⟩
theorem enumO_nd : ∀ {ws : List Fr} {f : Int}, (keysOf (enumO f ws)).Nodup
  | [], _ => List.nodup_nil
  | w :: ws, f => by
    unfold enumO keysOf
    rw [List.map_cons, List.nodup_cons]
    refine ⟨fun h => ?_, enumO_nd⟩
    obtain ⟨p, hp, e⟩ := List.mem_map.mp h
    have := (enumO_key p hp).1
    dsimp only at e
    omega
theorem enumO_len : ∀ {ws : List Fr} {f : Int}, (enumO f ws).length = ws.length
  | [], _ => rfl
  | w :: ws, f => by
    unfold enumO
    rw [List.length_cons, List.length_cons, enumO_len]
theorem enumO_app {vs : List Fr} : ∀ {ws : List Fr} {f : Int}, enumO f (ws ++ vs) = enumO f ws ++ enumO (f + ws.length) vs
  | [], f => by
    show _ = [] ++ enumO (f + ((0 : Nat) : Int)) vs
    rw [show f + ((0 : Nat) : Int) = f by omega]
    rfl
  | w :: ws, f => by
    rw [List.cons_append]
    show (f, w) :: enumO (f + 1) (ws ++ vs) = ((f, w) :: enumO (f + 1) ws) ++ _
    rw [enumO_app, List.cons_append, List.length_cons, show f + 1 + (ws.length : Int) = f + ((ws.length + 1 : Nat) : Int) by omega]
theorem enumO_qO : ∀ {ws : List Fr} {f m : Int}, qO (enumO f ws) m = valQ f ws m
  | [], f, m => by
    unfold valQ worthAt
    rw [if_neg (by simp)]
    rfl
  | w :: ws, f, m => by
    unfold enumO
    rw [qO_cons, enumO_qO]
    unfold valQ
    rw [worthAt_D, worthAt_D]
    by_cases e : f = m
    · subst e
      rw [if_pos rfl, if_pos (Int.le_refl _)]
      simp
    · rw [if_neg e]
      by_cases h : f ≤ m
      · rw [if_pos h, if_pos (by omega), show (m - f).toNat = (m - (f + 1)).toNat + 1 by omega]
        simp
      · rw [if_neg h, if_neg (by omega)]
end PL.C

set_option Elab.async false
set_option linter.all false
set_option maxRecDepth 100000
set_option maxHeartbeats 4000000
set_option autoImplicit false
set_option exponentiation.threshold 20000
namespace PL.C
open PySem PySem.Spec PyProof.Rows L2
/-! ## the law's dicts, written into -/
def putO : Own → Int → Fr → Own
  | [], m, q => [(m, q)]
  | p :: o, m, q => if p.1 = m then (m, q) :: o else p :: putO o m q
theorem putO_cons {m : Int} {q : Fr} {p : Int × Fr} {o : Own} : putO (p :: o) m q = if p.1 = m then (m, q) :: o else p :: putO o m q := rfl
theorem putD_cons {kv : Key × D} {l : List (Key × D)} {k : Key} {d : D} : putD (kv :: l) k d = if kv.1 = k then (k, d) :: l.map (fun kv => if kv.1 = k then (kv.1, d) else kv) else kv :: putD l k d := by
  unfold putD
  by_cases e : kv.1 = k
  · rw [if_pos e, if_pos (by simp [e]), List.map_cons, if_pos e]
    subst e; rfl
  · rw [if_neg e, List.any_cons]
    simp only [e, decide_false, Bool.false_or]
    split
    · rw [List.map_cons, if_neg e]
    · rfl
theorem map_off {k : Int} {d : D} : ∀ {o : Own}, k ∉ keysOf o → (kvs o).map (fun kv => if kv.1 = Sum.inl k then (kv.1, d) else kv) = kvs o
  | [], _ => rfl
  | p :: o, h => by
    unfold keysOf at h
    rw [List.map_cons, List.mem_cons, not_or] at h
    unfold kvs at *
    rw [List.map_cons, List.map_cons]
    have ih := map_off (k := k) (d := d) (o := o) h.2
    unfold kvs at ih
    rw [ih, if_neg fun e => h.1 (Sum.inl.inj e).symm]
theorem putD_own {m : Int} {q : Fr} : ∀ {o : Own} (_ : (keysOf o).Nodup), putD (kvs o) (Sum.inl m) (frD q) = kvs (putO o m q)
  | [], _ => rfl
  | p :: o, nd => by
    unfold keysOf at nd
    rw [List.map_cons, List.nodup_cons] at nd
    have ih := putD_own (m := m) (q := q) (o := o) nd.2
    show putD ((Sum.inl p.1, frD p.2) :: kvs o) _ _ = _
    rw [putD_cons, ih, putO_cons]
    by_cases e : p.1 = m
    · rw [if_pos (by rw [e]), if_pos e, map_off (by rw [← e]; exact nd.1)]
      rfl
    · rw [if_neg (fun h => e (Sum.inl.inj h)), if_neg e]
      rfl
theorem putO_mem {m : Int} {q : Fr} : ∀ {o : Own} {p : Int × Fr}, p ∈ putO o m q → p = (m, q) ∨ p ∈ o
  | [], p, h => .inl (List.mem_singleton.mp h)
  | x :: o, p, h => by
    rw [putO_cons] at h
    split at h
    · rcases List.mem_cons.mp h with h | h
      · exact .inl h
      · exact .inr (List.mem_cons_of_mem _ h)
    · rcases List.mem_cons.mp h with h | h
      · exact .inr (by rw [h]; exact List.mem_cons_self)
      · rcases putO_mem h with h | h
        · exact .inl h
        · exact .inr (List.mem_cons_of_mem _ h)
theorem putO_nd {m : Int} {q : Fr} : ∀ {o : Own}, (keysOf o).Nodup → (keysOf (putO o m q)).Nodup
  | [], _ => by simp [putO, keysOf]
  | x :: o, nd => by
    unfold keysOf at nd
    rw [List.map_cons, List.nodup_cons] at nd
    rw [putO_cons]
    split
    · rename_i e
      unfold keysOf
      rw [List.map_cons, List.nodup_cons]
      exact ⟨by rw [← e]; exact nd.1, nd.2⟩
    · rename_i e
      unfold keysOf
      rw [List.map_cons, List.nodup_cons]
      refine ⟨fun h => ?_, putO_nd nd.2⟩
      obtain ⟨p, hp, ep⟩ := List.mem_map.mp h
      rcases putO_mem hp with h | h
      · rw [h] at ep; exact e ep.symm
      · exact nd.1 (List.mem_map.mpr ⟨p, h, ep⟩)
theorem putO_len {m : Int} {q : Fr} : ∀ {o : Own}, (putO o m q).length ≤ o.length + 1
  | [] => Nat.le_refl _
  | x :: o => by
    rw [putO_cons]
    split
    · simp
    · rw [List.length_cons, List.length_cons]
      exact Nat.succ_le_succ putO_len
theorem putO_get {m x : Int} {q : Fr} : ∀ {o : Own}, qO (putO o m q) x = if m = x then fromF q else qO o x
  | [] => by
    unfold putO
    rw [qO_cons]
  | p :: o => by
    rw [putO_cons]
    by_cases e : p.1 = m
    · rw [if_pos e, qO_cons, qO_cons]
      by_cases h : m = x
      · rw [if_pos h, if_pos h]
      · rw [if_neg h, if_neg h, if_neg (by omega)]
    · rw [if_neg e, qO_cons, putO_get, qO_cons]
      by_cases h : m = x
      · rw [if_pos h, if_neg (by omega), if_pos h]
      · rw [if_neg h, if_neg h]
/-- a dict of rational worths -/
structure Op (D N L : Nat) (a b : Int) (o : Own) : Prop where
  nd : (keysOf o).Nodup
  key : ∀ p ∈ o, a ≤ p.1 ∧ p.1 < b
  len : o.length ≤ L
  val : ∀ p ∈ o, ∃ r, p.2 = toF r ∧ Gd D N r
structure Oq (D N L : Nat) (a b : Int) (o : Own) : Prop extends Op D N L a b o where
  nz : ∀ p ∈ o, p.2.1 ≠ 0
section
variable {D E N M L K : Nat} {a b c d : Int} {o p : Own}
theorem Op.mono (h : Op D N L a b o) (hN : N ≤ M) (hL : L ≤ K) (hc : c ≤ a) (hd : b ≤ d) : Op D M K c d o :=
  ⟨h.nd, fun p hp => by have := h.key p hp; omega, Nat.le_trans h.len hL, fun p hp => by
    obtain ⟨r, e, g⟩ := h.val p hp
    exact ⟨r, e, g.mono hN⟩⟩
theorem Oq.mono (h : Oq D N L a b o) (hN : N ≤ M) (hL : L ≤ K) (hc : c ≤ a) (hd : b ≤ d) : Oq D M K c d o := ⟨h.toOp.mono hN hL hc hd, h.nz⟩
theorem Op.at (h : Op D N L a b o) (m : Int) : getF o m = toF (qO o m) ∧ Gd D N (qO o m) := by
  have : ∃ r, getF o m = toF r ∧ Gd D N r := by
    unfold getF
    cases e : o.find? fun p => decide (p.1 = m) with
    | none => exact ⟨0, rfl, Gd.zero⟩
    | some p => exact h.val p (List.mem_of_find?_eq_some e)
  obtain ⟨r, e, g⟩ := this
  unfold qO
  rw [e, fromF_toF]
  exact ⟨rfl, g⟩
theorem Op.clear (h : Op D N L a b o) : Oq D N L a b (clearF o) :=
  ⟨⟨clear_nodup h.nd, fun p hp => h.key p (List.mem_filter.mp hp).1, Nat.le_trans (List.length_filter_le _ _) h.len, fun p hp => h.val p (List.mem_filter.mp hp).1⟩, fun p hp => by
    have z := (List.mem_filter.mp hp).2
    simp only [Bool.not_eq_true', decide_eq_false_iff_not] at z
    exact z⟩
theorem Op.put {m : Int} {r : Rat} (h : Op D N L a b o) (hm : a ≤ m ∧ m < b) (g : Gd D N r) : Op D N (L + 1) a b (putO o m (toF r)) :=
  ⟨putO_nd h.nd, fun p hp => by
    rcases putO_mem hp with rfl | hp
    · exact hm
    · exact h.key p hp, Nat.le_trans putO_len (Nat.succ_le_succ h.len), fun p hp => by
    rcases putO_mem hp with rfl | hp
    · exact ⟨r, rfl, g⟩
    · exact h.val p hp⟩
/-- added up, one after the other -/
def accO (acc : Own) : List (Int × Rat) → Own
  | [] => acc
  | y :: l => accO (putO acc y.1 (toF (qO acc y.1 + y.2))) l
theorem accO_cons {acc : Own} {y : Int × Rat} {l : List (Int × Rat)} : accO acc (y :: l) = accO (putO acc y.1 (toF (qO acc y.1 + y.2))) l := rfl
theorem accO_at {x : Int} : ∀ {l : List (Int × Rat)} {acc : Own}, qO (accO acc l) x = qO acc x + sumAt x l
  | [], acc => (Rat.add_zero _).symm
  | y :: l, acc => by
    rw [accO_cons, sumAt_cons, accO_at, putO_get, fromF_toF]
    by_cases e : y.1 = x
    · rw [if_pos e, if_pos e, e, Rat.add_assoc]
    · rw [if_neg e, if_neg e, Rat.zero_add]
theorem accO_app {k : List (Int × Rat)} : ∀ {l : List (Int × Rat)} {acc : Own}, accO acc (l ++ k) = accO (accO acc l) k
  | [], _ => rfl
  | y :: l, acc => by
    rw [List.cons_append, accO_cons, accO_app, accO_cons]
theorem accO_ok : ∀ {l : List (Int × Rat)} {acc : Own} {N L : Nat}, Op D N L a b acc → (∀ y ∈ l, (a ≤ y.1 ∧ y.1 < b) ∧ Gd D M y.2) → Op D (N + l.length * M) (L + l.length) a b (accO acc l)
  | [], acc, N, L, h, _ => by simpa [accO] using h
  | y :: l, acc, N, L, h, hl => by
    obtain ⟨h1, h2⟩ := hl y List.mem_cons_self
    have st := (h.mono (M := N + M) (K := L) (c := a) (d := b) (by omega) (Nat.le_refl _) (Int.le_refl _) (Int.le_refl _)).put h1 ((h.at y.1).2.add h2)
    have := accO_ok st fun z hz => hl z (List.mem_cons_of_mem _ hz)
    rw [accO_cons, List.length_cons, Nat.add_mul, Nat.one_mul]
    exact this.mono (by omega) (by omega) (Int.le_refl _) (Int.le_refl _)
end
section
variable {hs : List Ob} {B E N M L i : Nat} {a b : Int}
theorem dct_r {r : Nat} {l : List (Key × D)} (h : hs[r]? = some (.dct l)) : dctOf hs (.ref r) = some l := by simp [dctOf, h]
theorem get_r {r : Nat} {o : Own} {m : Int} (h : hs[r]? = some (.dct (kvs o))) : kGet2 (.ref r) (.int m) (.tup [.int 0, .int 1]) hs = .ok (frD (getF o m)) hs := by
  have := get_own (hs := hs) (o := o) (m := m)
  unfold kGet2 at this ⊢
  rw [dct_r h]
  exact this
theorem set_r {r : Nat} {o : Own} {m : Int} {q : Fr} (nd : (keysOf o).Nodup) (hl : o.length < 16777216) (h : hs[r]? = some (.dct (kvs o))) : kSetIx (.ref r) (.int m) (frD q) hs = some (hs.set r (.dct (kvs (putO o m q)))) := by
  unfold kSetIx
  rw [← putD_own nd]
  have : (kvs o).length < sizeLine := by
    unfold kvs
    rw [List.length_map, sizeLine_eq]
    exact hl
  simp [h, keyD, this]
theorem cleared_r {r : Nat} {o : Own} (h : (keysOf o).Nodup) (hl : o.length < 16777216) (hr : hs[r]? = some (.dct (kvs o))) : f__law_cleared [.ref r] hs = .ok (ownD (clearF o)) hs := by
  have ki : kItems false (.ref r) hs = .ok (.fl (o.map pairD)) hs := by
    unfold kItems
    rw [dct_r hr]
    dsimp only
    rw [items_own]
    rfl
  have e : cComp false [1, 2] (.tp [.nm 1, .nm 2]) (iSeq (c1 (kItems false) (cV 0))) (c2 kNe (c2 kItem (cV 2) (cK (.int 0))) (cK (.int 0))) (.lst []) (pLst (cF kTup (cCons (cV 1) (cCons (cV 2) cNil)))) [some (.ref r), none, none] hs = .ok (.fl ((clearF o).map pairD)) hs :=
    comp_pure (b := false) pairD (fun p => !decide (p.2.1 = 0)) pairD o (iSeq_l (by simp [ki])) (fun p hp => ⟨⟨_, bind_pair, by simp, fun _ => by simp [pairD]⟩⟩) hl
  simp [f__law_cleared, b__law_cleared, e, dict_own (clear_nodup h)]
theorem leave_own {o : Own} {x : Ob} (fl : Flat hs) : leave hs (.ok (.rt (ownD o)) (hs ++ [x])) = .ok (ownD o) hs := by
  have fz : fzD (hs ++ [x]) hs.length 9 (ownD o) = ownD o := fz_own
  have tk : (hs ++ [x]).take hs.length = hs := by simp
  unfold leave finD
  dsimp only
  rw [if_neg (by simp), fz, tk, if_pos]
  exact ⟨ltR_own, List.all_eq_true.mpr fun o ho => fl o ho _⟩
/-- the dict that holds what is added up -/
theorem acc_step {σ : Sl} {o : Own} {k v : CE} {m : Int} {r : Rat} (h : Op B N L a b o) (hB : 0 < B) (hi : 0 < i) (hi2 : i ≤ 3000) (b1 : B < 2 ^ i) (b2 : N < 2 ^ i) (hr : Bd i r) (hL : L < 16777216)
    (s2 : σ[2]? = some (some (.ref hs.length))) (ek : k σ (hs ++ [.dct (kvs o)]) = .ok (.int m) (hs ++ [.dct (kvs o)])) (ev : v σ (hs ++ [.dct (kvs o)]) = .ok (frQ r) (hs ++ [.dct (kvs o)])) :
    cSetIx (cV 2) k (cF C.f__law_sum (cCons (cGet2 (cV 2) k (cF kTup (cCons (cK (.int 0)) (cCons (cK (.int 1)) (cNil))))) (cCons v (cNil)))) σ (hs ++ [.dct (kvs o)])
      = .ok (.nx σ) (hs ++ [.dct (kvs (putO o m (toF (qO o m + r))))]) := by
  have lo := last_ob (hs := hs) (o := .dct (kvs o))
  have g : kGet2 (.ref hs.length) (.int m) (.tup [.int 0, .int 1]) (hs ++ [.dct (kvs o)]) = .ok (frQ (qO o m)) (hs ++ [.dct (kvs o)]) := by
    rw [get_r lo, (h.at m).1]
    rfl
  have sm := law_sum_v (hs := hs ++ [.dct (kvs o)]) ((h.at m).2.bd hB b2 b1) hr hi hi2
  have st := set_r (m := m) (q := toF (qO o m + r)) h.nd (Nat.lt_of_le_of_lt h.len hL) lo
  have dd := dct_r lo
  have eq : (hs ++ [Ob.dct (kvs o)]).set hs.length (.dct (kvs (putO o m (toF (qO o m + r))))) = hs ++ [.dct (kvs (putO o m (toF (qO o m + r))))] := by simp
  rw [eq] at st
  clear eq
  have sv : ∀ h, cV 2 σ h = .ok (.ref hs.length) h := fun h => by unfold cV; rw [s2]
  have st' : kSetIx (.ref hs.length) (.int m) (frQ (qO o m + r)) (hs ++ [.dct (kvs o)]) = some (hs ++ [.dct (kvs (putO o m (toF (qO o m + r))))]) := st
  generalize hs ++ [Ob.dct (kvs o)] = H at *
  generalize hs ++ [Ob.dct (kvs (putO o m (toF (qO o m + r))))] = H2 at *
  simp [sv, ek, ev, dd, g, sm, st']
theorem sum_loop {s0 s1 : Option D} (hB : 0 < B) (hi : 0 < i) (hi2 : i ≤ 3000) (b1 : B < 2 ^ i) : ∀ (l : Own) (acc : Own) (N L : Nat) (s3 s4 : Option D), Op B N L a b acc → (∀ p ∈ l, (a ≤ p.1 ∧ p.1 < b) ∧ ∃ r, p.2 = toF r ∧ Gd B M r) → N + l.length * M < 2 ^ i → M < 2 ^ i → L + l.length < 16777216 →
    ∃ t3 t4, loopL (.tp [.nm 3, .nm 4]) (cSetIx (cV 2) (cV 3) (cF C.f__law_sum (cCons (cGet2 (cV 2) (cV 3) (cF kTup (cCons (cK (.int 0)) (cCons (cK (.int 1)) (cNil))))) (cCons (cV 4) (cNil))))) (l.map pairD) [s0, s1, some (.ref hs.length), s3, s4] (hs ++ [.dct (kvs acc)])
      = .ok (.nx [s0, s1, some (.ref hs.length), t3, t4]) (hs ++ [.dct (kvs (accO acc (pqO l)))])
  | [], acc, N, L, s3, s4, _, _, _, _, _ => ⟨s3, s4, rfl⟩
  | p :: l, acc, N, L, s3, s4, h, hl, hb, hM, hL => by
    obtain ⟨p1, r, er, gr⟩ := hl p List.mem_cons_self
    rw [List.length_cons] at hL
    rw [List.length_cons, Nat.add_mul, Nat.one_mul] at hb
    have st := acc_step (hs := hs) (σ := [s0, s1, some (.ref hs.length), some (.int p.1), some (frD p.2)]) (k := cV 3) (v := cV 4) (m := p.1) (r := r) h hB hi hi2 b1 (by omega) (gr.bd hB hM b1) (by omega) rfl rfl (by rw [er]; rfl)
    have h2 := (h.mono (M := N + M) (K := L) (c := a) (d := b) (by omega) (Nat.le_refl _) (Int.le_refl _) (Int.le_refl _)).put p1 ((h.at p.1).2.add gr)
    obtain ⟨t3, t4, e⟩ := sum_loop (s0 := s0) (s1 := s1) hB hi hi2 b1 l _ (N + M) (L + 1) (some (.int p.1)) (some (frD p.2)) h2 (fun q hq => hl q (List.mem_cons_of_mem _ hq)) (by omega) hM (by omega)
    refine ⟨t3, t4, ?_⟩
    have fr : fromF p.2 = r := by rw [er, fromF_toF]
    show loopL _ _ (pairD p :: l.map pairD) _ _ = R.ok _ (hs ++ [.dct (kvs (accO acc ((p.1, fromF p.2) :: pqO l)))])
    rw [accO_cons]
    dsimp only
    rw [fr, ← e, loopL]
    have e1 : bindT (.tp [.nm 3, .nm 4]) (pairD p) [s0, s1, some (.ref hs.length), s3, s4] = some [s0, s1, some (.ref hs.length), some (.int p.1), some (frD p.2)] := rfl
    rw [e1]
    dsimp only
    rw [st, bind_ok]
theorem row_sum_v {o p : Own} (fl : Flat hs) (h : Op B N L a b o) (k : Op B M E a b p) (hB : 0 < B) (hi : 0 < i) (hi2 : i ≤ 3000) (b1 : B < 2 ^ i) (b2 : N + E * M < 2 ^ i) (b3 : M < 2 ^ i) (hL : L + E < 16777216) :
    ∃ s, f__law_row_sum [ownD o, ownD p] hs = .ok (ownD s) hs ∧ Oq B (N + E * M) (L + E) a b s ∧ ∀ m, qO s m = qO o m + qO p m := by
  have lm : p.length * M ≤ E * M := Nat.mul_le_mul_right _ k.len
  have kl := k.len
  have v : ∀ q ∈ p, (a ≤ q.1 ∧ q.1 < b) ∧ ∃ r, q.2 = toF r ∧ Gd B M r := fun q hq => ⟨k.key q hq, k.val q hq⟩
  obtain ⟨t3, t4, e⟩ := sum_loop (hs := hs) (s0 := some (ownD o)) (s1 := some (ownD p)) hB hi hi2 b1 p o N L none none h v (by omega) b3 (by omega)
  have ok := accO_ok (M := M) (l := pqO p) h fun y hy => by
    obtain ⟨q, hq, rfl⟩ := List.mem_map.mp hy
    obtain ⟨v1, r, er, gr⟩ := v q hq
    exact ⟨v1, by dsimp only; rw [er, fromF_toF]; exact gr⟩
  have pl : (pqO p).length = p.length := by simp [pqO]
  rw [pl] at ok
  have at0 : ∀ m, qO (accO o (pqO p)) m = qO o m + qO p m := fun m => by rw [accO_at, sumAt_pq k.nd]
  generalize accO o (pqO p) = A at e ok at0
  refine ⟨clearF A, ?_, (ok.mono (M := N + E * M) (K := L + E) (c := a) (d := b) (by omega) (by omega) (Int.le_refl _) (Int.le_refl _)).clear, fun m => by rw [qO_clear ok.nd]; exact at0 m⟩
  have dk : kDict true (.fl (o.map pairD)) hs = .ok (.ref hs.length) (hs ++ [.dct (kvs o)]) := by
    have := dict_own (hs := hs) h.nd
    unfold kDict at this ⊢
    rw [show dctOf hs (.fl (o.map pairD)) = none from rfl] at this ⊢
    dsimp only at this ⊢
    rw [show lstOf hs (.fl (o.map pairD)) = some (o.map pairD) from rfl, Option.bind_some, asPairs_own] at this ⊢
    dsimp only at this ⊢
    unfold newD at this ⊢
    dsimp only at this ⊢
    unfold ownD at this
    injection this with t1 t2
    injection t1 with t3
    rw [t3]
  have clr := cleared_r (hs := hs ++ [.dct (kvs A)]) ok.nd (by have := ok.len; omega) last_ob
  have lv := leave_own (o := clearF A) (x := .dct (kvs A)) fl
  have k1 := kItems_own (hs := hs) (o := o)
  have k2 := kItems_own (hs := hs ++ [.dct (kvs o)]) (o := p)
  have fv : cFor (.tp [.nm 3, .nm 4]) (iSeq (c1 (kItems false) (cV 1))) (cSetIx (cV 2) (cV 3) (cF C.f__law_sum (cCons (cGet2 (cV 2) (cV 3) (cF kTup (cCons (cK (.int 0)) (cCons (cK (.int 1)) (cNil))))) (cCons (cV 4) (cNil))))) [some (ownD o), some (ownD p), some (.ref hs.length), none, none] (hs ++ [.dct (kvs o)])
      = .ok (.nx [some (ownD o), some (ownD p), some (.ref hs.length), t3, t4]) (hs ++ [.dct (kvs A)]) := by
    have sq : iSeq (c1 (kItems false) (cV 1)) [some (ownD o), some (ownD p), some (.ref hs.length), none, none] (hs ++ [.dct (kvs o)]) = .ok (.seq (p.map pairD)) (hs ++ [.dct (kvs o)]) := iSeq_l (by simp [k2])
    rw [cFor, sq, bind_ok]
    exact e
  generalize D.fl (o.map pairD) = O1 at k1 dk
  generalize ownD (clearF A) = CA at clr lv ⊢
  generalize hs ++ [Ob.dct (kvs A)] = H2 at clr lv fv
  generalize hs ++ [Ob.dct (kvs o)] = H1 at dk fv
  simp only [f__law_row_sum, b__law_row_sum]
  simp [k1, dk, fv, clr]
  exact lv
theorem prod_in {s0 s1 : Option D} {h : Int} {c : Rat} {C0 : Nat} (hB : 0 < B) (hE : 0 < E) (hi : 0 < i) (hi2 : i ≤ 1500) (b1 : B * E < 2 ^ i) (b4 : C0 < 2 ^ i) (b5 : M < 2 ^ i) (gc : Gd B C0 c) : ∀ (l : Own) (acc : Own) (N L : Nat) (s5 s6 : Option D), Op (B * E) N L a b acc → (∀ p ∈ l, (a ≤ h + p.1 ∧ h + p.1 < b) ∧ ∃ r, p.2 = toF r ∧ Gd E M r) → N + l.length * (C0 * M) < 2 ^ i → L + l.length < 16777216 →
    ∃ t5 t6, loopL (.tp [.nm 5, .nm 6]) (cSetIx (cV 2) (c2 kAdd (cV 3) (cV 5)) (cF C.f__law_sum (cCons (cGet2 (cV 2) (c2 kAdd (cV 3) (cV 5)) (cF kTup (cCons (cK (.int 0)) (cCons (cK (.int 1)) (cNil))))) (cCons (cF C.f__law_product (cCons (cV 4) (cCons (cV 6) (cNil)))) (cNil))))) (l.map pairD) [s0, s1, some (.ref hs.length), some (.int h), some (frQ c), s5, s6] (hs ++ [.dct (kvs acc)])
      = .ok (.nx [s0, s1, some (.ref hs.length), some (.int h), some (frQ c), t5, t6]) (hs ++ [.dct (kvs (accO acc (timesL h c l)))])
  | [], acc, N, L, s5, s6, _, _, _, _ => ⟨s5, s6, rfl⟩
  | p :: l, acc, N, L, s5, s6, hA, hl, hb, hL => by
    obtain ⟨p1, r, er, gr⟩ := hl p List.mem_cons_self
    rw [List.length_cons] at hL
    rw [List.length_cons, Nat.add_mul, Nat.one_mul] at hb
    have bB : B < 2 ^ i := Nat.lt_of_le_of_lt (Nat.le_mul_of_pos_right _ hE) b1
    have bE : E < 2 ^ i := Nat.lt_of_le_of_lt (Nat.le_mul_of_pos_left _ hB) b1
    have g1 : Bd i c := gc.bd hB b4 bB
    have g2 : Bd i r := gr.bd hE b5 bE
    have gg := gc.mul gr
    have pv := law_product_v (hs := hs ++ [.dct (kvs acc)]) g1 g2 hi (by omega)
    have st := acc_step (hs := hs) (i := i + i) (σ := [s0, s1, some (.ref hs.length), some (.int h), some (frQ c), some (.int p.1), some (frD p.2)]) (k := c2 kAdd (cV 3) (cV 5)) (v := cF C.f__law_product (cCons (cV 4) (cCons (cV 6) (cNil)))) (m := h + p.1) (r := c * r) hA (Nat.mul_pos hB hE) (by omega) (by omega) (Nat.lt_of_lt_of_le b1 (Nat.pow_le_pow_right (by decide) (by omega))) (Nat.lt_of_lt_of_le (by omega : N < 2 ^ i) (Nat.pow_le_pow_right (by decide) (by omega))) (Bd.mul g1 g2) (by omega) rfl (by simp) (by rw [er]; simp [frQ] at pv ⊢; exact pv)
    have h2 := (hA.mono (M := N + C0 * M) (K := L) (c := a) (d := b) (by omega) (Nat.le_refl _) (Int.le_refl _) (Int.le_refl _)).put p1 ((hA.at (h + p.1)).2.add gg)
    obtain ⟨t5, t6, e⟩ := prod_in (s0 := s0) (s1 := s1) (h := h) (c := c) hB hE hi hi2 b1 b4 b5 gc l _ (N + C0 * M) (L + 1) (some (.int p.1)) (some (frD p.2)) h2 (fun q hq => hl q (List.mem_cons_of_mem _ hq)) (by omega) (by omega)
    refine ⟨t5, t6, ?_⟩
    have fr : fromF p.2 = r := by rw [er, fromF_toF]
    show loopL _ _ (pairD p :: l.map pairD) _ _ = R.ok _ (hs ++ [.dct (kvs (accO acc ((h + p.1, c * fromF p.2) :: timesL h c l)))])
    rw [accO_cons]
    dsimp only
    rw [fr, ← e, loopL]
    have e1 : bindT (.tp [.nm 5, .nm 6]) (pairD p) [s0, s1, some (.ref hs.length), some (.int h), some (frQ c), s5, s6] = some [s0, s1, some (.ref hs.length), some (.int h), some (frQ c), some (.int p.1), some (frD p.2)] := rfl
    rw [e1]
    dsimp only
    rw [st, bind_ok]
end
end PL.C

set_option Elab.async false
set_option linter.all false
set_option maxRecDepth 100000
set_option maxHeartbeats 4000000
set_option autoImplicit false
set_option exponentiation.threshold 20000
namespace PL.C
open PySem PySem.Spec PyProof.Rows L2
section
variable {hs : List Ob} {B E N M L K i : Nat} {a b c d : Int}
theorem timesL_len {h : Int} {c : Rat} {p : Own} : (timesL h c p).length = p.length := by simp [timesL]
theorem timesL_ok {h a b : Int} {c : Rat} {p : Own} {C0 : Nat} (gc : Gd B C0 c) (v : ∀ q ∈ p, (a ≤ h + q.1 ∧ h + q.1 < b) ∧ ∃ r, q.2 = toF r ∧ Gd E M r) : ∀ y ∈ timesL h c p, (a ≤ y.1 ∧ y.1 < b) ∧ Gd (B * E) (C0 * M) y.2 := fun y hy => by
  obtain ⟨q, hq, rfl⟩ := List.mem_map.mp hy
  obtain ⟨v1, r, er, gr⟩ := v q hq
  refine ⟨v1, ?_⟩
  dsimp only
  rw [er, fromF_toF]
  exact gc.mul gr
theorem prod_out {s0 : Option D} {p : Own} (hB : 0 < B) (hE : 0 < E) (hi : 0 < i) (hi2 : i ≤ 1500) (b1 : B * E < 2 ^ i) (b4 : N < 2 ^ i) (b5 : M < 2 ^ i) (hp : ∀ q ∈ p, ∃ r, q.2 = toF r ∧ Gd E M r) (lp : p.length ≤ K) : ∀ (l : Own) (acc : Own) (N0 L : Nat) (s3 s4 s5 s6 : Option D), Op (B * E) N0 L a b acc → (∀ x ∈ l, (∀ q ∈ p, a ≤ x.1 + q.1 ∧ x.1 + q.1 < b) ∧ ∃ r, x.2 = toF r ∧ Gd B N r) → N0 + l.length * (K * (N * M)) < 2 ^ i → L + l.length * K < 16777216 →
    ∃ t3 t4 t5 t6, loopL (.tp [.nm 3, .nm 4]) (cFor (.tp [.nm 5, .nm 6]) (iSeq (c1 (kItems false) (cV 1))) (cSetIx (cV 2) (c2 kAdd (cV 3) (cV 5)) (cF C.f__law_sum (cCons (cGet2 (cV 2) (c2 kAdd (cV 3) (cV 5)) (cF kTup (cCons (cK (.int 0)) (cCons (cK (.int 1)) (cNil))))) (cCons (cF C.f__law_product (cCons (cV 4) (cCons (cV 6) (cNil)))) (cNil)))))) (l.map pairD) [s0, some (ownD p), some (.ref hs.length), s3, s4, s5, s6] (hs ++ [.dct (kvs acc)])
      = .ok (.nx [s0, some (ownD p), some (.ref hs.length), t3, t4, t5, t6]) (hs ++ [.dct (kvs (accO acc (prodL l p)))]) ∧ Op (B * E) (N0 + l.length * (K * (N * M))) (L + l.length * K) a b (accO acc (prodL l p))
  | [], acc, N0, L, s3, s4, s5, s6, h, _, _, _ => ⟨s3, s4, s5, s6, rfl, h.mono (by omega) (by omega) (Int.le_refl _) (Int.le_refl _)⟩
  | x :: l, acc, N0, L, s3, s4, s5, s6, h, hl, hb, hL => by
    obtain ⟨x1, r, er, gr⟩ := hl x List.mem_cons_self
    rw [List.length_cons, Nat.add_mul, Nat.one_mul] at hL
    rw [List.length_cons, Nat.add_mul, Nat.one_mul] at hb
    have lm : p.length * (N * M) ≤ K * (N * M) := Nat.mul_le_mul_right _ lp
    have v : ∀ q ∈ p, (a ≤ x.1 + q.1 ∧ x.1 + q.1 < b) ∧ ∃ r, q.2 = toF r ∧ Gd E M r := fun q hq => ⟨x1 q hq, hp q hq⟩
    obtain ⟨t5, t6, e⟩ := prod_in (hs := hs) (s0 := s0) (s1 := some (ownD p)) (h := x.1) (c := r) (C0 := N) hB hE hi hi2 b1 b4 b5 gr p acc N0 L s5 s6 h v (by omega) (by omega)
    have st := accO_ok (M := N * M) (l := timesL x.1 r p) h (timesL_ok gr v)
    rw [timesL_len] at st
    have st := st.mono (M := N0 + K * (N * M)) (K := L + K) (c := a) (d := b) (by omega) (by omega) (Int.le_refl _) (Int.le_refl _)
    obtain ⟨u3, u4, u5, u6, e2, fin⟩ := prod_out (s0 := s0) hB hE hi hi2 b1 b4 b5 hp lp l _ (N0 + K * (N * M)) (L + K) (some (.int x.1)) (some (frQ r)) t5 t6 st (fun q hq => hl q (List.mem_cons_of_mem _ hq)) (by omega) (by omega)
    have fr : fromF x.2 = r := by rw [er, fromF_toF]
    have ea : accO acc (prodL (x :: l) p) = accO (accO acc (timesL x.1 r p)) (prodL l p) := by
      show accO acc (timesL x.1 (fromF x.2) p ++ prodL l p) = _
      rw [fr, accO_app]
    rw [ea, List.length_cons, Nat.add_mul, Nat.one_mul, Nat.add_mul, Nat.one_mul]
    refine ⟨u3, u4, u5, u6, ?_, fin.mono (by omega) (by omega) (Int.le_refl _) (Int.le_refl _)⟩
    rw [← e2, List.map_cons, loopL]
    have e1 : bindT (.tp [.nm 3, .nm 4]) (pairD x) [s0, some (ownD p), some (.ref hs.length), s3, s4, s5, s6] = some [s0, some (ownD p), some (.ref hs.length), some (.int x.1), some (frQ r), s5, s6] := by
      unfold frQ
      rw [← er]
      rfl
    rw [e1]
    dsimp only
    have sq : iSeq (c1 (kItems false) (cV 1)) [s0, some (ownD p), some (.ref hs.length), some (.int x.1), some (frQ r), s5, s6] (hs ++ [.dct (kvs acc)]) = .ok (.seq (p.map pairD)) (hs ++ [.dct (kvs acc)]) := iSeq_l (by simp [kItems_own])
    rw [cFor, sq, bind_ok]
    dsimp only
    rw [e, bind_ok]
theorem row_product_v {o p : Own} (fl : Flat hs) (h : Op B N L a b o) (k : Op E M K c d p) (hB : 0 < B) (hE : 0 < E) (hi : 0 < i) (hi2 : i ≤ 1500) (b1 : B * E < 2 ^ i) (b2 : L * (K * (N * M)) < 2 ^ i) (b3 : M < 2 ^ i) (b4 : N < 2 ^ i) (hL : L * K < 16777216) :
    ∃ s, f__law_row_product [ownD o, ownD p] hs = .ok (ownD s) hs ∧ Oq (B * E) (L * (K * (N * M))) (L * K) (a + c) (b + d - 1) s ∧ ∀ m, qO s m = dotO o fun j => qO p (m - j) := by
  have lm : o.length * (K * (N * M)) ≤ L * (K * (N * M)) := Nat.mul_le_mul_right _ h.len
  have lk : o.length * K ≤ L * K := Nat.mul_le_mul_right _ h.len
  have e0 : Op (B * E) 0 0 (a + c) (b + d - 1) [] := ⟨List.nodup_nil, (fun p hp => by cases hp), Nat.le_refl _, (fun p hp => by cases hp)⟩
  obtain ⟨t3, t4, t5, t6, e, ok⟩ := prod_out (hs := hs) (s0 := some (ownD o)) (p := p) (i := i) hB hE hi hi2 b1 b4 b3 k.val k.len o [] 0 0 none none none none e0 (fun x hx => ⟨fun q hq => by
    have := h.key x hx
    have := k.key q hq
    omega, h.val x hx⟩) (by omega) (by omega)
  have at0 : ∀ m, qO (accO [] (prodL o p)) m = dotO o fun j => qO p (m - j) := fun m => by rw [accO_at, sumAt_prod k.nd, qO_nil, Rat.zero_add]
  generalize accO [] (prodL o p) = A at e ok at0
  refine ⟨clearF A, ?_, (ok.mono (M := L * (K * (N * M))) (K := L * K) (c := a + c) (d := b + d - 1) (by omega) (by omega) (Int.le_refl _) (Int.le_refl _)).clear, fun m => by rw [qO_clear ok.nd]; exact at0 m⟩
  have clr := cleared_r (hs := hs ++ [.dct (kvs A)]) ok.nd (by have := ok.len; omega) last_ob
  have lv := leave_own (o := clearF A) (x := .dct (kvs A)) fl
  have e : loopL _ _ _ _ (hs ++ [.dct []]) = _ := e
  have k1 := kItems_own (hs := hs ++ [.dct []]) (o := o)
  have fv : cFor (.tp [.nm 3, .nm 4]) (iSeq (c1 (kItems false) (cV 0))) (cFor (.tp [.nm 5, .nm 6]) (iSeq (c1 (kItems false) (cV 1))) (cSetIx (cV 2) (c2 kAdd (cV 3) (cV 5)) (cF C.f__law_sum (cCons (cGet2 (cV 2) (c2 kAdd (cV 3) (cV 5)) (cF kTup (cCons (cK (.int 0)) (cCons (cK (.int 1)) (cNil))))) (cCons (cF C.f__law_product (cCons (cV 4) (cCons (cV 6) (cNil)))) (cNil)))))) [some (ownD o), some (ownD p), some (.ref hs.length), none, none, none, none] (hs ++ [.dct []])
      = .ok (.nx [some (ownD o), some (ownD p), some (.ref hs.length), t3, t4, t5, t6]) (hs ++ [.dct (kvs A)]) := by
    have sq : iSeq (c1 (kItems false) (cV 0)) [some (ownD o), some (ownD p), some (.ref hs.length), none, none, none, none] (hs ++ [.dct []]) = .ok (.seq (o.map pairD)) (hs ++ [.dct []]) := iSeq_l (by simp [k1])
    rw [cFor, sq, bind_ok]
    exact e
  generalize ownD (clearF A) = CA at clr lv ⊢
  generalize hs ++ [Ob.dct (kvs A)] = H2 at clr lv fv
  simp only [f__law_row_product, b__law_row_product]
  simp [newD, fv, clr]
  exact lv
/-! ## a told row -/
theorem toldO_v {o : Own} (h : Oq B N L a b o) (h0 : -1000000 ≤ a ∧ a ≤ 0 ∧ 0 ≤ b ∧ b ≤ 1000000) (hL : L ≤ 1000) (hi : 0 < i) (hB : 0 < B) (b1 : B < 2 ^ i) (b2 : N < 2 ^ i) :
    f__law_told_row [ownD o] hs = .ok (rowD (toldRow o).1 (toldRow o).2) hs ∧ Row (toldRow o).1 (toldRow o).2 i a b ∧ ∀ m, valQ (toldRow o).1 (toldRow o).2 m = qO o m := by
  have kb : ∀ p ∈ o, -(2 ^ 20) ≤ p.1 ∧ p.1 < 2 ^ 20 := fun p hp => by have := h.key p hp; omega
  refine ⟨told_row_v kb, ?_, fun m => by unfold valQ; rw [told_at]; rfl⟩
  have bd := fun m => (h.at m).2.bd hB b2 b1
  have nice : Nice i o := ⟨h.nd, kb, Nat.le_trans h.len hL, fun p hp => by
    obtain ⟨r, er, gr⟩ := h.val p hp
    have := gr.bd hB b2 b1
    refine ⟨by rw [er]; exact toF_ok r, h.nz p hp, ?_, ?_⟩ <;> rw [er]
    · exact this.1
    · exact this.den⟩
  refine ⟨told_ok nice hi, ?_, ?_, ?_⟩
  · cases ho : o with
    | nil => intro q hq; cases hq
    | cons p r =>
      rw [← ho]
      have et : toldRow o = (minI (keysOf o), (List.range (maxI (keysOf o) + 1 - minI (keysOf o)).toNat).map fun i => C.getF o (minI (keysOf o) + (i : Nat))) := by rw [ho]; rfl
      rw [et]
      intro q hq
      obtain ⟨j, _, rfl⟩ := List.mem_map.mp hq
      exact ⟨_, (h.at _).1, bd _⟩
  · cases ho : o with
    | nil => exact h0.2.1
    | cons p r =>
      rw [← ho]
      have et : (toldRow o).1 = minI (keysOf o) := by rw [ho]; rfl
      have ne : keysOf o ≠ [] := by rw [ho]; simp [keysOf]
      obtain ⟨q, hq, e⟩ := List.mem_map.mp (minI_ok ne).1
      rw [et, ← e]
      exact (h.key q hq).1
  · cases ho : o with
    | nil => simpa [toldRow] using h0.2.2.1
    | cons p r =>
      rw [← ho]
      have et : toldRow o = (minI (keysOf o), (List.range (maxI (keysOf o) + 1 - minI (keysOf o)).toNat).map fun i => C.getF o (minI (keysOf o) + (i : Nat))) := by rw [ho]; rfl
      have ne : keysOf o ≠ [] := by rw [ho]; simp [keysOf]
      obtain ⟨q, hq, e⟩ := List.mem_map.mp (maxI_ok ne).1
      have := (h.key q hq).2
      have l1 := (minI_ok ne).2 _ (maxI_ok ne).1
      rw [et]
      simp only [List.length_map, List.length_range]
      omega
end
end PL.C

set_option Elab.async false
set_option linter.all false
set_option maxRecDepth 100000
set_option maxHeartbeats 4000000
set_option autoImplicit false
set_option exponentiation.threshold 20000
namespace PL.C
open PySem PySem.Spec PyProof.Rows L2
/-! ## the program's product, in rational worths -/
section
variable {hs : List Ob}
theorem conv_rat {g M : Int} {ys : List Int} {vs : List Fr} {B C : Int} {n : Nat} (hy : ∀ k : Nat, ((ys.getD k 0 : Int) : Rat) = valQ g vs (g + (k : Nat)) * (C : Rat)) : ∀ (ws : List Fr) (f : Int) (a : Nat), (∀ q ∈ ws, ∃ r, q = toF r ∧ q.2 ∣ B) → M = f - (a : Int) + g + (n : Int) →
    ((convAt ys a n (overB B ws) : Int) : Rat) = (dotO (enumO f ws) fun j => valQ g vs (M - j)) * ((B : Rat) * (C : Rat))
  | [], f, a, _, _ => by
    show ((0 : Int) : Rat) = 0 * _
    rw [Rat.zero_mul]; rfl
  | w :: ws, f, a, h, hM => by
    obtain ⟨r, er, dv⟩ := h w List.mem_cons_self
    have ih := conv_rat (g := g) (n := n) (M := M) (B := B) hy ws (f + 1) (a + 1) (fun q hq => h q (List.mem_cons_of_mem _ hq)) (by omega)
    unfold enumO dotO overB
    rw [List.map_cons]
    unfold convAt
    unfold overB at ih
    rw [Rat.intCast_add, ih]
    have hr : ((w.1 * (B / w.2) : Int) : Rat) = r * (B : Rat) := by
      rw [er] at dv ⊢
      exact over_rat dv
    have fw : fromF w = r := by rw [er, fromF_toF]
    dsimp only
    rw [fw]
    by_cases ha : a ≤ n
    · rw [if_pos ha, Rat.intCast_mul, hr, hy, show g + ((n - a : Nat) : Int) = M - f by omega]
      grind
    · rw [if_neg ha, show valQ g vs (M - f) = 0 from valQ_off (.inl (by omega))]
      have z : ((0 : Int) : Rat) = 0 := rfl
      rw [z]
      grind
theorem over_get {g : Int} {vs : List Fr} {C : Int} (h : ∀ q ∈ vs, ∃ r, q = toF r ∧ q.2 ∣ C) (k : Nat) : (((overB C vs).getD k 0 : Int) : Rat) = valQ g vs (g + (k : Nat)) * (C : Rat) := by
  unfold valQ
  rw [worthAt_D, if_pos (by omega), show (g + (k : Int) - g).toNat = k by omega, List.getD_eq_getElem?_getD, List.getD_eq_getElem?_getD]
  unfold overB
  rw [List.getElem?_map]
  cases e : vs[k]? with
  | none =>
    show ((0 : Int) : Rat) = fromF (0, 1) * _
    rw [fromF_z, Rat.zero_mul]; rfl
  | some q =>
    obtain ⟨r, er, dv⟩ := h q (List.mem_of_getElem? e)
    show ((q.1 * (C / q.2) : Int) : Rat) = fromF q * _
    rw [er, fromF_toF] at *
    exact over_rat dv
theorem redF_rat {x y : Int} {s : Rat} (hy : 0 < y) (e : (x : Rat) = s * (y : Rat)) : redF x y = toF s := by
  rw [redF_div hy]
  congr 1
  have nz : (y : Rat) ≠ 0 := by
    intro h
    have : y = 0 := by simpa using h
    omega
  rw [Rat.divInt_eq_div, e]
  exact Rat.mul_div_cancel nz
theorem first_dot {f g : Int} {w : Fr} {ws : List Fr} {vs : List Fr} : (dotO (enumO f (w :: ws)) fun j => valQ g vs (f + g - j)) = fromF w * valQ g vs g := by
  unfold enumO
  rw [dotO_cons, dotO_0 (F := fun j => valQ g vs (f + g - j)) fun p hp => valQ_off (.inl (by have := (enumO_key p hp).1; omega)), Rat.add_zero]
  dsimp only
  rw [show f + g - f = g by omega]
theorem last_dot {f g : Int} {w : Fr} {ws : List Fr} {vs : List Fr} : (dotO (enumO f (ws ++ [w])) fun j => valQ g vs (f + (ws.length : Int) + (g + (vs.length : Int) - 1) - j)) = fromF w * valQ g vs (g + (vs.length : Int) - 1) := by
  rw [enumO_app, dotO_app, dotO_0 (F := fun j => valQ g vs (f + (ws.length : Int) + (g + (vs.length : Int) - 1) - j)) fun p hp => valQ_off (.inr (by have := (enumO_key p hp).2.1; omega)), Rat.zero_add]
  show fromF w * valQ g vs (f + (ws.length : Int) + (g + (vs.length : Int) - 1) - (f + (ws.length : Int))) + 0 = _
  rw [Rat.add_zero, show f + (ws.length : Int) + (g + (vs.length : Int) - 1) - (f + (ws.length : Int)) = g + (vs.length : Int) - 1 by omega]
theorem fromF_nz {q : Fr} {r : Rat} (e : q = toF r) (h : q ≠ (0, 1)) : fromF q ≠ 0 := by
  rw [e, fromF_toF]
  intro z
  exact h (by rw [e, z]; rfl)
/-- the product of two rows -/
theorem times_of_v {f g a b c d a2 b2 : Int} {ws vs : List Fr} {i k D0 E0 N M : Nat} (fl : Flat hs) (h1 : Row f ws i a b) (h2 : Row g vs i c d) (hi : 0 < i) (g1 : ∀ m, Gd D0 N (valQ f ws m)) (g2 : ∀ m, Gd E0 M (valQ g vs m))
    (hl : 1 + i * ws.length ≤ 1000) (hl2 : 1 + i * vs.length ≤ 1000) (hi2 : i ≤ 1000) (pD : 0 < D0) (pE : 0 < E0) (bk : ws.length * (N * M) < 2 ^ k) (bd : D0 * E0 < 2 ^ k) (n2 : a2 ≤ 0) (p2 : 0 ≤ b2) (lo2 : a2 ≤ a + c) (hi3 : b + d ≤ b2 + 1) :
    ∃ f' ws', f_times_of [rowD f ws, rowD g vs] hs = .ok (rowD f' ws') hs ∧ Row f' ws' k a2 b2 ∧ ∀ m, valQ f' ws' m = dotO (enumO f ws) fun j => valQ g vs (m - j) := by
  have k1 := kEq_row (hs := hs) h1.ok
  have k2 := kEq_row (hs := hs) h2.ok
  cases e1 : ws.isEmpty with
  | true =>
    rw [e1] at k1
    rw [List.isEmpty_iff] at e1
    subst e1
    refine ⟨0, [], ?_, ⟨rfl, by simp, n2, by simpa using p2⟩, fun m => by rw [valQ_nil]; rfl⟩
    show _ = R.ok (D.tup [.int 0, .tup []]) hs
    simp [f_times_of, b_times_of, k1]
  | false =>
    rw [e1] at k1
    cases e2 : vs.isEmpty with
    | true =>
      rw [e2] at k2
      refine ⟨0, [], ?_, ⟨rfl, by simp, n2, by simpa using p2⟩, fun m => by rw [valQ_nil, dotO_0 (F := fun j => valQ g vs (m - j)) fun p _ => valQ_e h2.ok e2]⟩
      show _ = R.ok (D.tup [.int 0, .tup []]) hs
      simp [f_times_of, b_times_of, k1, k2]
    | false =>
      have q1 : ∀ q ∈ ws, 0 < q.2 ∧ q.2.natAbs < 2 ^ i ∧ q.1.natAbs < 2 ^ i := fun q hq => by
        obtain ⟨r, er, br⟩ := h1.bd q hq
        rw [er]
        exact ⟨denpos r, br.den, br.1⟩
      have q2 : ∀ q ∈ vs, 0 < q.2 ∧ q.2.natAbs < 2 ^ i ∧ q.1.natAbs < 2 ^ i := fun q hq => by
        obtain ⟨r, er, br⟩ := h2.bd q hq
        rw [er]
        exact ⟨denpos r, br.den, br.1⟩
      have lw1 : ws.length ≤ 1000 := by
        have := Nat.le_mul_of_pos_left ws.length hi
        omega
      have lw2 : vs.length ≤ 1000 := by
        have := Nat.le_mul_of_pos_left vs.length hi
        omega
      obtain ⟨B, w1, B0, B1, B2, B3⟩ := whole_worths_v (hs := hs) (f := f) hi q1 (by omega) (by omega) (by omega)
      obtain ⟨C, w2, C0, C1, C2, C3⟩ := whole_worths_v (hs := hs) (f := g) hi q2 (by omega) (by omega) (by omega)
      have hBC : mulOk B C = true := mulOk_of B1 C1 (by omega) (by omega) (by omega)
      have pos : 0 < B * C := Int.mul_pos B0 C0
      have bBC : (B * C).natAbs < 2 ^ 8000 := pow_8000 (mul_lt_pow B1 C1) (by omega)
      have hm : ∀ x ∈ overB B ws, ∀ y ∈ overB C vs, mulOk x y = true := fun x hx y hy => by
        obtain ⟨q, hq, rfl⟩ := List.mem_map.mp hx
        obtain ⟨p, hp, rfl⟩ := List.mem_map.mp hy
        exact mulOk_of (B3 q hq) (C3 p hp) (by omega) (by omega) (by omega)
      have raw := times_raw fl h1.ok h2.ok e1 e2 w1 w2 hm hBC pos bBC (by omega)
      have v1 : ∀ q ∈ ws, ∃ r, q = toF r ∧ q.2 ∣ B := fun q hq => by
        obtain ⟨r, er, _⟩ := h1.bd q hq
        exact ⟨r, er, B2 q hq⟩
      have v2 : ∀ q ∈ vs, ∃ r, q = toF r ∧ q.2 ∣ C := fun q hq => by
        obtain ⟨r, er, _⟩ := h2.bd q hq
        exact ⟨r, er, C2 q hq⟩
      have p1 : 0 < ws.length := List.length_pos_iff.mpr (by intro h; rw [h] at e1; cases e1)
      have p3 : 0 < vs.length := List.length_pos_iff.mpr (by intro h; rw [h] at e2; cases e2)
      -- what stands at each place
      have lx : (overB B ws).length = ws.length := by simp [overB]
      have ly : (overB C vs).length = vs.length := by simp [overB]
      have zl : (conv (List.replicate (ws.length + vs.length - 1) 0) 0 (overB C vs) (overB B ws)).length = ws.length + vs.length - 1 := by rw [conv_len]; simp
      have at0 : ∀ n : Nat, redF ((conv (List.replicate (ws.length + vs.length - 1) 0) 0 (overB C vs) (overB B ws)).getD n 0) (B * C) = toF (dotO (enumO f ws) fun j => valQ g vs (f + g + (n : Int) - j)) := fun n => by
        rw [conv_get _ _ _ (by simp [lx, ly]; omega)]
        have rz : (List.replicate (ws.length + vs.length - 1) (0 : Int)).getD n 0 = 0 := by
          rw [List.getD_eq_getElem?_getD, List.getElem?_replicate]
          split <;> rfl
        rw [rz, Int.zero_add]
        refine redF_rat pos ?_
        rw [conv_rat (g := g) (vs := vs) (M := f + g + (n : Int)) (over_get v2) ws f 0 v1 (by omega), Rat.intCast_mul]
      generalize conv (List.replicate (ws.length + vs.length - 1) 0) 0 (overB C vs) (overB B ws) = Z at raw zl at0
      have gd : ∀ m, Gd (D0 * E0) (ws.length * (N * M)) (dotO (enumO f ws) fun j => valQ g vs (m - j)) := fun m => by
        have := dotO_gd (D := D0) (E := E0) (N := N) (M := M) (F := fun j => valQ g vs (m - j)) (o := enumO f ws) (fun p hp => by
          have e := g1 p.1
          have : valQ f ws p.1 = fromF p.2 := by
            rw [← enumO_qO]
            exact qO_at enumO_nd hp
          rw [← this]; exact e) (fun m' => g2 _)
        rw [enumO_len] at this
        exact this
      have vq : ∀ m, valQ (f + g) (Z.map fun x => redF x (B * C)) m = dotO (enumO f ws) fun j => valQ g vs (m - j) := fun m => by
        by_cases hm : f + g ≤ m ∧ m < f + g + (ws.length + vs.length - 1 : Nat)
        · unfold valQ
          rw [worthAt_D, if_pos hm.1, List.getD_eq_getElem?_getD, List.getElem?_map]
          have hlt : (m - (f + g)).toNat < Z.length := by omega
          have a0 := at0 (m - (f + g)).toNat
          rw [List.getD_eq_getElem?_getD, List.getElem?_eq_getElem hlt] at a0
          rw [List.getElem?_eq_getElem hlt]
          show fromF (redF Z[(m - (f + g)).toNat] (B * C)) = _
          rw [Option.getD_some] at a0
          rw [a0, fromF_toF, show f + g + (((m - (f + g)).toNat : Nat) : Int) = m by omega]
          rfl
        · rw [valQ_off (by rw [List.length_map, zl]; omega)]
          refine (dotO_0 (F := fun j => valQ g vs (m - j)) fun p hp => valQ_off ?_).symm
          have := enumO_key p hp
          omega
      have el : ∀ q ∈ (Z.map fun x => redF x (B * C)), ∃ n : Nat, q = toF (dotO (enumO f ws) fun j => valQ g vs (f + g + (n : Int) - j)) := fun q hq => by
        obtain ⟨n, hn, e⟩ := List.mem_iff_getElem.mp hq
        rw [List.length_map] at hn
        refine ⟨n, ?_⟩
        rw [← at0 n, ← e, List.getElem_map, List.getD_eq_getElem?_getD, List.getElem?_eq_getElem hn]
        rfl
      refine ⟨f + g, _, raw, ⟨?_, fun q hq => ?_, ?_, ?_⟩, vq⟩
      · cases ws with
        | nil => cases e1
        | cons w ws' =>
          cases vs with
          | nil => cases e2
          | cons v vs' =>
            have c1 := okRow_c h1.ok
            have c2 := okRow_c h2.ok
            have zne : Z ≠ [] := by
              intro z
              rw [z] at zl
              simp at zl
              omega
            obtain ⟨z, Z', rfl⟩ := List.exists_cons_of_ne_nil zne
            have hd : redF z (B * C) ≠ (0, 1) := by
              have h0 := at0 0
              have e0 : (dotO (enumO f (w :: ws')) fun j => valQ g (v :: vs') (f + g + ((0 : Nat) : Int) - j)) = fromF w * valQ g (v :: vs') g := by
                rw [← first_dot]
                exact dotO_eq fun j => by rw [show f + g + ((0 : Nat) : Int) - j = f + g - j by omega]
              rw [e0] at h0
              rw [show redF z (B * C) = _ from h0]
              intro z0
              rcases Rat.mul_eq_zero.mp (toF_eq0.mp z0) with zz | zz
              · obtain ⟨r, er, _⟩ := h1.bd w List.mem_cons_self
                exact fromF_nz er c1.1 zz
              · unfold valQ at zz
                rw [worthAt_first] at zz
                obtain ⟨r, er, _⟩ := h2.bd v List.mem_cons_self
                exact fromF_nz er c2.1 zz
            have ld : ((z :: Z').map fun x => redF x (B * C)).getLast? ≠ some (0, 1) := by
              have h0 := at0 ((w :: ws').length + (v :: vs').length - 2)
              obtain ⟨u, us, eu⟩ : ∃ u us, w :: ws' = us ++ [u] := ⟨(w :: ws').getLast (by simp), (w :: ws').dropLast, (List.dropLast_concat_getLast (by simp)).symm⟩
              have lu : (w :: ws').length = us.length + 1 := by rw [eu]; simp
              have e0 : (dotO (enumO f (w :: ws')) fun j => valQ g (v :: vs') (f + g + (((w :: ws').length + (v :: vs').length - 2 : Nat) : Int) - j)) = fromF u * valQ g (v :: vs') (g + ((v :: vs').length : Int) - 1) := by
                rw [← last_dot (f := f) (ws := us), ← eu]
                refine dotO_eq fun j => ?_
                rw [lu, show f + g + ((us.length + 1 + (v :: vs').length - 2 : Nat) : Int) - j = f + (us.length : Int) + (g + ((v :: vs').length : Int) - 1) - j by omega]
              rw [e0, List.getD_eq_getElem?_getD] at h0
              rw [List.getLast?_eq_getElem?, List.length_map, zl, List.getElem?_map, show (w :: ws').length + (v :: vs').length - 1 - 1 = (w :: ws').length + (v :: vs').length - 2 by omega]
              have hlt : (w :: ws').length + (v :: vs').length - 2 < (z :: Z').length := by omega
              rw [List.getElem?_eq_getElem hlt] at h0 ⊢
              rw [Option.getD_some] at h0
              rw [Option.map_some, h0]
              intro z0
              rcases Rat.mul_eq_zero.mp (toF_eq0.mp (Option.some.inj z0)) with zz | zz
              · have lu : (w :: ws').getLast? = some u := by rw [eu]; simp
                obtain ⟨r, er, _⟩ := h1.bd u (List.mem_of_getLast? lu)
                exact fromF_nz er (fun h => c1.2.1 (by rw [lu, h])) zz
              · unfold valQ at zz
                rw [worthAt_end (by simp)] at zz
                cases lv : (v :: vs').getLast? with
                | none => simp at lv
                | some t =>
                  rw [lv] at zz
                  obtain ⟨r, er, _⟩ := h2.bd t (List.mem_of_getLast? lv)
                  exact fromF_nz er (fun h => c2.2.1 (by rw [lv, h])) zz
            unfold okRow
            rw [List.map_cons, List.isEmpty_cons]
            simp only [Bool.false_eq_true, if_false, Bool.and_eq_true, List.all_eq_true, Bool.not_eq_true', decide_eq_false_iff_not]
            refine ⟨fun q hq => ?_, fun e => ?_, fun e => ?_⟩
            · obtain ⟨n, en⟩ := el q (by rw [List.map_cons]; exact hq)
              rw [en]; exact toF_ok _
            · rw [List.head?_cons, Option.some.injEq] at e
              exact hd e
            · exact ld (by rw [List.map_cons]; exact e)
      · obtain ⟨n, en⟩ := el q hq
        exact ⟨_, en, (gd _).bd (Nat.mul_pos pD pE) bk bd⟩
      · have := h1.lo
        have := h2.lo
        omega
      · have := h1.hi
        have := h2.hi
        rw [List.length_map, zl]
        omega
theorem times_rows_v {f g a b c d a2 b2 : Int} {ws vs : List Fr} {i k D0 E0 N M : Nat} (fl : Flat hs) (h1 : Row f ws i a b) (h2 : Row g vs i c d) (s1 : Span a b) (s2 : Span c d) (hi : 0 < i) (g1 : ∀ m, Gd D0 N (valQ f ws m)) (g2 : ∀ m, Gd E0 M (valQ g vs m))
    (hl : 1 + i * ws.length ≤ 1000) (hl2 : 1 + i * vs.length ≤ 1000) (hi2 : i ≤ 1000) (pD : 0 < D0) (pE : 0 < E0) (bk : ws.length * (N * M) < 2 ^ k) (bd : D0 * E0 < 2 ^ k) (n2 : a2 ≤ 0) (p2 : 0 ≤ b2) (lo2 : a2 ≤ a + c) (hi3 : b + d ≤ b2 + 1) :
    ∃ f' ws', f_times_rows [rowD f ws, rowD g vs] hs = .ok (rowD f' ws') hs ∧ Row f' ws' k a2 b2 ∧ ∀ m, valQ f' ws' m = dotO (enumO f ws) fun j => valQ g vs (m - j) := by
  obtain ⟨f', ws', p, r, v⟩ := times_of_v (hs := hs) fl h1 h2 hi g1 g2 hl hl2 hi2 pD pE bk bd n2 p2 lo2 hi3
  exact ⟨f', ws', by simp [f_times_rows, b_times_rows, h1.chk s1 (by omega), h2.chk s2 (by omega), p], r, v⟩
end
end PL.C

set_option Elab.async false
set_option linter.all false
set_option maxRecDepth 100000
set_option maxHeartbeats 4000000
set_option autoImplicit false
set_option exponentiation.threshold 20000
namespace PL.C
open PySem PySem.Spec PyProof.Rows L2
/-! ## rows, known by their worths -/
structure Rw (v : Int → Rat) (i : Nat) (a b : Int) (d : D) : Prop where
  ex : ∃ f ws, d = rowD f ws ∧ Row f ws i a b ∧ ∀ m, valQ f ws m = v m
theorem Rw.eq {v u : Int → Rat} {i j : Nat} {a b a' b' : Int} {d e : D} (h : Rw v i a b d) (k : Rw u j a' b' e) (hi : 0 < i) (hj : 0 < j) (z : ∀ m, v m = u m) : d = e := by
  obtain ⟨f, ws, rfl, r, q⟩ := h.ex
  obtain ⟨g, vs, rfl, s, p⟩ := k.ex
  obtain ⟨e1, e2⟩ := row_same r s hi hj fun m => by rw [q, p, z]
  rw [e1, e2]
theorem Rw.as {v u : Int → Rat} {i : Nat} {a b : Int} {d : D} (h : Rw v i a b d) (z : ∀ m, v m = u m) : Rw u i a b d := by
  obtain ⟨f, ws, e, r, q⟩ := h.ex
  exact ⟨f, ws, e, r, fun m => by rw [q, z]⟩
theorem Rw.mono {v : Int → Rat} {i j : Nat} {a b : Int} {d : D} (h : Rw v i a b d) (l : i ≤ j) : Rw v j a b d := by
  obtain ⟨f, ws, e, r, q⟩ := h.ex
  exact ⟨f, ws, e, r.mono l, q⟩
section
variable {hs : List Ob} {v u : Int → Rat} {i : Nat} {a b : Int} {x y : D}
theorem rw_plus (h : Rw v i a b x) (k : Rw u i a b y) (sp : Span a b) (hi : 0 < i) (l : i ≤ 3000) : ∃ d, f_plus_rows [x, y] hs = .ok d hs ∧ Rw (fun m => v m + u m) (i + i + 1) a b d := by
  obtain ⟨f, ws, rfl, r, q⟩ := h.ex
  obtain ⟨g, vs, rfl, s, p⟩ := k.ex
  obtain ⟨f', ws', e, r', w⟩ := plus_rows_v (hs := hs) r s sp hi l
  exact ⟨_, e, f', ws', rfl, r', fun m => by rw [w, q, p]⟩
theorem rw_less (h : Rw v i a b x) (k : Rw u i a b y) (sp : Span a b) (hi : 0 < i) (l : i ≤ 3000) : ∃ d, f_less_rows [x, y] hs = .ok d hs ∧ Rw (fun m => v m - u m) (i + i + 1) a b d := by
  obtain ⟨f, ws, rfl, r, q⟩ := h.ex
  obtain ⟨g, vs, rfl, s, p⟩ := k.ex
  obtain ⟨f', ws', e, r', w⟩ := less_rows_v (hs := hs) r s sp hi l
  exact ⟨_, e, f', ws', rfl, r', fun m => by rw [w, q, p]⟩
theorem rw_scaled {r0 : Rat} (h : Rw v i a b x) (hr : Bd i r0) (sp : Span a b) (hi : 0 < i) (l : i ≤ 3000) : ∃ d, f_scaled [x, frQ r0] hs = .ok d hs ∧ Rw (fun m => v m * r0) (i + i) a b d := by
  obtain ⟨f, ws, rfl, r, q⟩ := h.ex
  obtain ⟨f', ws', e, r', w⟩ := scaled_v (hs := hs) r hr sp hi l
  exact ⟨_, e, f', ws', rfl, r', fun m => by rw [w, q]⟩
theorem rw_worth {m : Int} (h : Rw v i a b x) (sp : Span a b) (hi : 0 < i) (l : i ≤ 3000) : f_worth [x, .int m] hs = .ok (frQ (v m)) hs := by
  obtain ⟨f, ws, rfl, r, q⟩ := h.ex
  rw [← q]
  exact (worth_v r sp hi l).1
/-- the product of rows whose worths are those of two dicts -/
theorem rw_times {B E N M L K : Nat} {k : Nat} {c d a2 b2 : Int} {o p : Own} (fl : Flat hs) (h : Rw (qO o) i a b x) (g : Rw (qO p) i c d y) (ho : Op B N L a b o) (hp : Op E M K c d p) (s1 : Span a b) (s2 : Span c d) (hi : 0 < i) (hi2 : i ≤ 1000)
    (l1 : 1 + i * (b - a).toNat ≤ 1000) (l2 : 1 + i * (d - c).toNat ≤ 1000) (pB : 0 < B) (pE : 0 < E) (bk : (b - a).toNat * (N * M) < 2 ^ k) (bd : B * E < 2 ^ k) (n2 : a2 ≤ 0) (p2 : 0 ≤ b2) (lo2 : a2 ≤ a + c) (hi3 : b + d ≤ b2 + 1) :
    ∃ z, f_times_rows [x, y] hs = .ok z hs ∧ Rw (fun m => dotO o fun j => qO p (m - j)) k a2 b2 z := by
  obtain ⟨f, ws, rfl, r, q⟩ := h.ex
  obtain ⟨g, vs, rfl, s, t⟩ := g.ex
  have c1 : ws.length ≤ (b - a).toNat := by have := r.lo; have := r.hi; omega
  have c2 : vs.length ≤ (d - c).toNat := by have := s.lo; have := s.hi; omega
  obtain ⟨f', ws', e, r', w⟩ := times_rows_v (hs := hs) (k := k) (D0 := B) (E0 := E) (N := N) (M := M) fl r s s1 s2 hi (fun m => by rw [q]; exact (ho.at m).2) (fun m => by rw [t]; exact (hp.at m).2)
    (by have := Nat.mul_le_mul_left i c1; omega) (by have := Nat.mul_le_mul_left i c2; omega) hi2 pB pE (Nat.lt_of_le_of_lt (Nat.mul_le_mul_right _ c1) bk) bd n2 p2 lo2 hi3
  refine ⟨_, e, f', ws', rfl, r', fun m => ?_⟩
  rw [w, dotO_eq (G := fun j => qO p (m - j)) fun j => t _]
  refine dotO_same (a := a) (b := b) enumO_nd ho.nd (fun p hp => ?_) ho.key fun m => by rw [enumO_qO, q]
  have := enumO_key p hp
  have := r.lo
  have := r.hi
  omega
theorem rw_told {B N L : Nat} {o : Own} (h : Oq B N L a b o) (sp : Span a b) (hL : L ≤ 1000) (hi : 0 < i) (hB : 0 < B) (b1 : B < 2 ^ i) (b2 : N < 2 ^ i) :
    ∃ d, f__law_told_row [ownD o] hs = .ok d hs ∧ Rw (qO o) i a b d := by
  obtain ⟨n1, n2, n3, n4, n5⟩ := sp
  obtain ⟨e, r, q⟩ := toldO_v (hs := hs) h ⟨n3, n1, n2, n4⟩ hL hi hB b1 b2
  exact ⟨_, e, _, _, rfl, r, q⟩
/-! ## the law's own rows -/
theorem scaleF_ok {B E N M L : Nat} {o : Own} {r : Rat} (h : Op B N L a b o) (g : Gd E M r) : Oq (B * E) (N * M) L a b (scaleF o (toF r)) ∧ ∀ m, qO (scaleF o (toF r)) m = qO o m * r := by
  have st : Op (B * E) (N * M) L a b (o.map fun p => (p.1, mulF p.2 (toF r))) := by
    refine ⟨?_, fun p hp => ?_, by rw [List.length_map]; exact h.len, fun p hp => ?_⟩
    · have : keysOf (o.map fun p => (p.1, mulF p.2 (toF r))) = keysOf o := by
        unfold keysOf
        rw [List.map_map]
        rfl
      rw [this]; exact h.nd
    · obtain ⟨q, hq, rfl⟩ := List.mem_map.mp hp
      exact h.key q hq
    · obtain ⟨q, hq, rfl⟩ := List.mem_map.mp hp
      obtain ⟨s, es, gs⟩ := h.val q hq
      refine ⟨s * r, ?_, gs.mul g⟩
      dsimp only
      rw [es, mulF_toF]
  refine ⟨st.clear, fun m => ?_⟩
  unfold scaleF
  rw [qO_clear st.nd]
  have v := h.val
  clear st h
  induction o with
  | nil => rw [List.map_nil, qO_nil, Rat.zero_mul]
  | cons p o ih =>
    rw [List.map_cons, qO_cons, qO_cons, ih fun q hq => v q (List.mem_cons_of_mem _ hq)]
    obtain ⟨s, es, _⟩ := v p List.mem_cons_self
    dsimp only
    split
    · rw [es, mulF_toF, fromF_toF, fromF_toF]
    · rfl
theorem rscaled_v {B E N M L : Nat} {o : Own} {r : Rat} (h : Op B N L a b o) (g : Gd E M r) (hB : 0 < B) (hE : 0 < E) (hL : L < 16777216) (hi : 0 < i) (l : i ≤ 3000) (b1 : B < 2 ^ i) (b2 : N < 2 ^ i) (b3 : E < 2 ^ i) (b4 : M < 2 ^ i) :
    ∃ s, f__law_row_scaled [ownD o, frQ r] hs = .ok (ownD s) hs ∧ Oq (B * E) (N * M) L a b s ∧ ∀ m, qO s m = qO o m * r := by
  obtain ⟨k1, k2⟩ := scaleF_ok h g
  have br := g.bd hE b4 b3
  refine ⟨_, row_scaled_v (i := i) h.nd (Nat.lt_of_le_of_lt h.len hL) (denpos r) (fun p hp => ?_) br.1 br.den hi (by omega), k1, k2⟩
  obtain ⟨s, es, gs⟩ := h.val p hp
  have := gs.bd hB b2 b1
  rw [es]
  exact ⟨denpos s, this.1, this.den⟩
theorem row_less_v {B N L E M : Nat} {o p : Own} (fl : Flat hs) (h : Op B N L a b o) (k : Op B M E a b p) (hB : 0 < B) (hi : 0 < i) (hi2 : i ≤ 3000) (b1 : B < 2 ^ i) (b2 : N + E * M < 2 ^ i) (b3 : M < 2 ^ i) (hL : L + E < 16777216) :
    ∃ s, f__law_row_less [ownD o, ownD p] hs = .ok (ownD s) hs ∧ Oq B (N + E * M) (L + E) a b s ∧ ∀ m, qO s m = qO o m - qO p m := by
  have g1 : Gd 1 1 (-1) := ⟨-1, by rw [show (((1 : Nat) : Nat) : Rat) = 1 from rfl, Rat.mul_one]; rfl, by decide⟩
  obtain ⟨t, e1, ok1, v1⟩ := rscaled_v (hs := hs) (i := i) k g1 hB (by decide) (by omega) hi hi2 b1 b3 (Nat.one_lt_two_pow (by omega)) (Nat.one_lt_two_pow (by omega))
  rw [Nat.mul_one, Nat.mul_one] at ok1
  obtain ⟨s, e2, ok2, v2⟩ := row_sum_v (hs := hs) fl h ok1.toOp hB hi hi2 b1 b2 b3 hL
  refine ⟨s, ?_, ok2, fun m => by rw [v2, v1]; grind⟩
  have e3 : frQ (-1) = .tup [.int (-1), .int 1] := rfl
  rw [e3] at e1
  simp [f__law_row_less, b__law_row_less, e1, e2]
end
/-! ## texts that are not written out -/
structure Rp (k w : Nat) (d : D) : Prop where
  ex : ∃ p, py d = some p ∧ p.showable = true ∧ p.hasDict = false ∧ dpL p k = true ∧ p.leavesShort 100 = true ∧ p.weight ≤ w ∧ sm d d = true
structure Rps (k w : Nat) (ds : List D) : Prop where
  ex : ∃ ps, pys ds = some ps ∧ PyData.showableAll ps = true ∧ PyData.hasDictAll ps = false ∧ dpLs ps k = true ∧ PyData.leavesShortAll 100 ps = true ∧ PyData.weightAll ps ≤ w ∧ sms ds ds = true
theorem Rps.of {k w : Nat} : ∀ {ds : List D}, (∀ d ∈ ds, Rp k w d) → Rps k (ds.length * (w + 1)) ds
  | [], _ => ⟨[], rfl, rfl, rfl, rfl, rfl, by simp [PyData.weightAll], rfl⟩
  | d :: ds, h => by
    obtain ⟨p, e, s1, s2, s3, s4, s5, s6⟩ := (h d List.mem_cons_self).ex
    obtain ⟨ps, es, t1, t2, t3, t4, t5, t6⟩ := (Rps.of (ds := ds) fun x hx => h x (List.mem_cons_of_mem _ hx)).ex
    refine ⟨p :: ps, by unfold pys; rw [e, es], ?_, ?_, ?_, ?_, ?_, ?_⟩
    · simp [PyData.showableAll, s1, t1]
    · simp [PyData.hasDictAll, s2, t2]
    · simp [dpLs, s3, t3]
    · simp [PyData.leavesShortAll, s4, t4]
    · simp only [PyData.weightAll, List.length_cons, Nat.add_mul, Nat.one_mul]
      omega
    · simp [sms, s6, t6]
theorem Rp.tup {k w : Nat} {ds : List D} (h : Rps k w ds) : Rp (k + 1) w (.tup ds) := by
  obtain ⟨ps, es, t1, t2, t3, t4, t5, t6⟩ := h.ex
  exact ⟨.tuple ps, by unfold py; rw [es]; rfl, by simpa [PyData.showable] using t1, by simpa [PyData.hasDict] using t2, by simpa [dpL] using t3, by simpa [PyData.leavesShort] using t4, by simpa [PyData.weight] using t5, by simpa [sm] using t6⟩
theorem Rp.fl {k w : Nat} {ds : List D} (h : Rps k w ds) : Rp (k + 1) w (.fl ds) := by
  obtain ⟨ps, es, t1, t2, t3, t4, t5, t6⟩ := h.ex
  exact ⟨.list ps, by unfold py; rw [es]; rfl, by simpa [PyData.showable] using t1, by simpa [PyData.hasDict] using t2, by simpa [dpL] using t3, by simpa [PyData.leavesShort] using t4, by simpa [PyData.weight] using t5, by simpa [sm] using t6⟩
theorem Rp.int {k i : Nat} {z : Int} (h : z.natAbs < 2 ^ i) (hi : 0 < i) (l : i ≤ 300) : Rp k i (.int z) := by
  refine ⟨.int z, rfl, ?_, rfl, ?_, ?_, ?_, by simp [sm]⟩
  · simp only [PyData.showable, decide_eq_true_eq]
    exact Nat.lt_of_lt_of_le (log2_lt h hi) (by omega)
  · cases k <;> rfl
  · simp only [PyData.leavesShort, decide_eq_true_eq]
    have : z.natAbs < 10 ^ 99 := Nat.lt_of_lt_of_le (Nat.lt_of_lt_of_le h (Nat.pow_le_pow_right (by decide) l)) (by decide +kernel)
    have e := int_text_length_le10 (k := 99) (by decide) this
    show (Str.ofString (toString z)).length ≤ 100
    rw [PySem.ofString_length]; exact e
  · simp only [PyData.weight]
    split
    · omega
    · have := log2_lt h hi
      omega
theorem Rp.non {k w : Nat} : Rp k w .non := ⟨.none, rfl, rfl, rfl, by cases k <;> rfl, rfl, Nat.zero_le _, rfl⟩
theorem Rp.mono {k w u : Nat} {d : D} (h : Rp k w d) (l : w ≤ u) : Rp k u d := by
  obtain ⟨p, e, s1, s2, s3, s4, s5, s6⟩ := h.ex
  exact ⟨p, e, s1, s2, s3, s4, Nat.le_trans s5 l, s6⟩
theorem Rp.same {d : D} (h : Rp 60 100000 d) : sameR d d = true := by
  obtain ⟨p, e, s1, s2, s3, s4, s5, s6⟩ := h.ex
  have ok : okRepr d = true := by
    unfold okRepr
    rw [e]
    simp [s1, s2, s3, s4, s5]
  unfold sameR
  split
  · rfl
  · rw [s6, ok]; rfl
theorem Rp.fr {k i : Nat} {r : Rat} (h : Bd i r) (hi : 0 < i) (l : i ≤ 300) : Rp (k + 1) (2 * (i + 1)) (frQ r) := by
  unfold frQ frD
  refine Rp.tup (Rps.of (w := i) (ds := [.int (toF r).1, .int (toF r).2]) fun d hd => ?_)
  simp only [List.mem_cons, List.not_mem_nil, or_false] at hd
  rcases hd with rfl | rfl
  · exact .int h.1 hi l
  · exact .int h.den hi l
theorem Rw.rp {k : Nat} {v : Int → Rat} {i : Nat} {a b : Int} {d : D} (h : Rw v i a b d) (sp : Span a b) (hi : 20 ≤ i) (l : i ≤ 300) {w : Nat} (hw : (b - a).toNat * (2 * (i + 1) + 1) ≤ w) (hw2 : i ≤ w) : Rp (k + 3 + 1) (2 * (w + 1)) d := by
  obtain ⟨f, ws, rfl, r, q⟩ := h.ex
  obtain ⟨n1, n2, n3, n4, n5⟩ := sp
  have h1 := r.lo
  have h2 := r.hi
  have c1 : ws.length ≤ (b - a).toNat := by omega
  refine Rp.tup (k := k + 3) (Rps.of (w := w) (ds := [.int f, .tup (ws.map frD)]) fun d hd => ?_)
  simp only [List.mem_cons, List.not_mem_nil, or_false] at hd
  rcases hd with rfl | rfl
  · have : f.natAbs < 2 ^ i := Nat.lt_of_lt_of_le (by have : (2 : Nat) ^ 20 = 1048576 := by decide
                                                      omega : f.natAbs < 2 ^ 20) (Nat.pow_le_pow_right (by decide) hi)
    exact (Rp.int (k := k + 3) this (by omega) l).mono hw2
  · have := Rp.tup (k := k + 2) (Rps.of (k := k + 2) (w := 2 * (i + 1)) (ds := ws.map frD) fun d hd => by
      obtain ⟨q, hq, rfl⟩ := List.mem_map.mp hd
      obtain ⟨s, es, bs⟩ := r.bd q hq
      rw [es]
      exact Rp.fr (k := k + 1) bs (by omega) l)
    rw [List.length_map] at this
    exact this.mono (Nat.le_trans (Nat.mul_le_mul_right _ c1) hw)
theorem same_v {ans : Bool} {f g : CE} {σ : Sl} {hs hs1 hs2 : List Ob} {d : D} (e1 : f σ hs = .ok d hs1) (e2 : g σ hs1 = .ok d hs2) (h : Rp 60 100000 d) : cReprSame ans f g σ hs = .ok (.bl ans) hs2 := by
  unfold cReprSame
  rw [e1, bind_ok, e2]
  dsimp only
  rw [if_pos h.same]
end PL.C

set_option Elab.async false
set_option linter.all false
set_option maxRecDepth 100000
set_option maxHeartbeats 4000000
set_option autoImplicit false
set_option exponentiation.threshold 20000
namespace PL.C
open PySem PySem.Spec PyProof.Rows L2
section
variable {hs : List Ob} {r n : Nat}
/-! ## what is drawn, in rational worths -/
theorem dfrac_w {tk : Fn} (ht : TakeOk tk) {most : Int} (p : PotAt r n hs) (h0 : 0 ≤ most) (h1 : most ≤ 1000) (hn : n + 1 < 2 ^ 64) : W (f__law_drawn_fraction tk [.ref r, .int most] hs) fun d hs' => ∃ q : Rat, d = frQ q ∧ Gd 6 6000 q ∧ Drawn r (n + 2) hs hs' :=
  (drawn_fraction_w ht p h0 h1 hn).mono fun d hs' ⟨q, e, ok, b1, b2, dr⟩ => by
    obtain ⟨s, rfl⟩ := ok_toF ok
    refine ⟨s, e, ?_, dr⟩
    have hd := s.den_pos
    have d6 : s.den ∣ 6 := by
      have b2 : s.den ≤ 3 := by simpa [toF] using b2
      have : s.den = 1 ∨ s.den = 2 ∨ s.den = 3 := by omega
      rcases this with e | e | e <;> rw [e] <;> decide
    refine (Gd.of d6).mono ?_
    have b1 : s.num.natAbs ≤ 1000 := b1
    omega
theorem each_pairs {α : Type} {key : α → Int} {P : Fr → Prop} : ∀ {xs : List α} {ys : List D}, Each (fun (x : α) d => ∃ q : Fr, d = pairD (key x, q) ∧ P q) xs ys → ∃ o : Own, ys = o.map pairD ∧ keysOf o = xs.map key ∧ ∀ p ∈ o, P p.2
  | [], ys, e => by
    have := e.len
    cases ys with
    | nil => exact ⟨[], rfl, rfl, fun p hp => by cases hp⟩
    | cons a b => simp at this
  | x :: xs, ys, e => by
    have := e.len
    cases ys with
    | nil => simp at this
    | cons y ys =>
      obtain ⟨q, rfl, pq⟩ := e.all 0 x y rfl rfl
      obtain ⟨o, h1, h2, h3⟩ := each_pairs (key := key) (P := P) (xs := xs) (ys := ys) ⟨by simpa using this, fun i a b ha hb => e.all (i + 1) a b (by simpa using ha) (by simpa using hb)⟩
      refine ⟨(key x, q) :: o, by rw [h1]; rfl, by rw [List.map_cons, ← h2]; rfl, fun p hp => ?_⟩
      rcases List.mem_cons.mp hp with rfl | hp
      · exact pq
      · exact h3 p hp
theorem each_frs {α : Type} {P : Fr → Prop} : ∀ {xs : List α} {ys : List D}, Each (fun (_ : α) d => ∃ q : Fr, d = frD q ∧ P q) xs ys → ∃ o : List Fr, ys = o.map frD ∧ o.length = xs.length ∧ ∀ p ∈ o, P p
  | [], ys, e => by
    have := e.len
    cases ys with
    | nil => exact ⟨[], rfl, rfl, fun p hp => by cases hp⟩
    | cons a b => simp at this
  | x :: xs, ys, e => by
    have := e.len
    cases ys with
    | nil => simp at this
    | cons y ys =>
      obtain ⟨q, rfl, pq⟩ := e.all 0 x y rfl rfl
      obtain ⟨o, h1, h2, h3⟩ := each_frs (P := P) (xs := xs) (ys := ys) ⟨by simpa using this, fun i a b ha hb => e.all (i + 1) a b (by simpa using ha) (by simpa using hb)⟩
      refine ⟨q :: o, by rw [h1]; rfl, by rw [List.length_cons, List.length_cons, h2], fun p hp => ?_⟩
      rcases List.mem_cons.mp hp with rfl | hp
      · exact pq
      · exact h3 p hp
/-- a worth that may be drawn -/
def Dr (q : Fr) : Prop := ∃ s : Rat, q = toF s ∧ Gd 6 6000 s
theorem Dr.z : Dr (0, 1) := ⟨0, rfl, Gd.zero⟩
theorem full_w {tk : Fn} (ht : TakeOk tk) (p : PotAt r n hs) (hn : n < 2 ^ 60) : W (f__law_full tk [.ref r] hs) fun d hs' => ∃ (f : Int) (ws : List Fr), d = .tup [.int f, .tup (ws.map frD)] ∧ -4 ≤ f ∧ f ≤ 4 ∧ ws.length ≤ 6 ∧ (∀ q ∈ ws, Dr q) ∧ Drawn r (n + 100) hs hs' := by
  obtain ⟨v, hs1, e, z, rfl, z0, z1, dr⟩ := (ht.w (u := 9) p (by decide) (small_8000 (by decide)) (by omega)).ex
  obtain ⟨v, hs2, e2, k', rfl, k0, k1, dr2⟩ := (ht.w (u := 7) dr.pot (by decide) (small_8000 (by decide)) (by omega)).ex
  obtain ⟨k, rfl⟩ : ∃ k : Nat, k' = (k : Int) := ⟨k'.toNat, by omega⟩
  have w := comp_w (b := false) (t := .nm 3) (σ := [some (.ref r), some (.int (z - 4)), some (.int (k : Int)), none]) (vs := [3]) (e := cIf (c2 kGt (cF tk (cCons (cV 0) (cCons (cK (.int 4)) (cNil)))) (cK (.int 0))) (cF (C.f__law_drawn_fraction tk) (cCons (cV 0) (cCons (cK (.int 2)) (cNil)))) (cF kTup (cCons (cK (.int 0)) (cCons (cK (.int 1)) (cNil)))))
    (s := iArgs kRng1 (cCons (cV 2) (cNil))) (hs := hs2) (hs1 := hs2) (fun i : Nat => D.int (i : Int)) (fun (_ : Nat) d => ∃ q : Fr, d = frD q ∧ Dr q) (fun i h => Drawn r (n + 2 + 3 * i) hs2 h) (List.range k) (rng1_w (by simp) (by omega)) (dr2.pot.mono (by omega) |> fun q => ⟨q, rfl, fun _ _ => rfl⟩) (fun i x h3 hx hi => by
      obtain ⟨v, h4, e4, t, rfl, t0, t1, dr4⟩ := (ht.w (u := 4) hi.pot (by decide) (small_8000 (by decide)) (by
        have := (List.getElem?_eq_some_iff.mp hx).1
        rw [List.length_range] at this
        omega)).ex
      refine ⟨[some (.ref r), some (.int (z - 4)), some (.int (k : Int)), some (.int (x : Int))], rfl, ?_⟩
      by_cases c : 0 < t
      · obtain ⟨d, h5, e5, q, rfl, gq, dr5⟩ := (dfrac_w ht (most := 2) dr4.pot (by decide) (by decide) (by
          have := (List.getElem?_eq_some_iff.mp hx).1
          rw [List.length_range] at this
          omega)).ex
        exact W.of (a := frQ q) (hs := h5) (by simp [e4, c, e5]) ⟨⟨_, rfl, q, rfl, gq⟩, ((hi.trans dr4).trans dr5).mono (by omega)⟩
      · exact W.of (a := frD (0, 1)) (hs := h4) (by simp [e4, c, frD]) ⟨⟨_, rfl, Dr.z⟩, (hi.trans dr4).mono (by omega)⟩) (by rw [List.length_range]; omega)
  obtain ⟨d, h4, e3, ys, h9, en, ea, di⟩ := w.ex
  rw [newL_f] at en
  cases en
  rw [List.length_range] at di
  obtain ⟨ws, rfl, lw, pw⟩ := each_frs ea
  rw [List.length_range] at lw
  have fin : Drawn r (n + 100) hs h4 := ((dr.trans dr2).trans di).mono (by omega)
  refine W.of (a := .tup [.int (z - 4), .tup (ws.map frD)]) (hs := h4) ?_ ⟨_, _, rfl, by omega, by omega, by omega, pw, fin⟩
  have kt : kTupOf (.fl (ws.map frD)) h4 = .ok (.tup (ws.map frD)) h4 := rfl
  generalize ws.map frD = L at *
  have t1 : cPar 1 2 (cCons (c2 kSub (cF tk (cCons (cV 0) (cCons (cK (.int 9)) (cNil)))) (cK (.int 4))) (cCons (cF tk (cCons (cV 0) (cCons (cK (.int 7)) (cNil)))) cNil)) [some (.ref r), none, none, none] hs = .ok (.nx [some (.ref r), some (.int (z - 4)), some (.int (k : Int)), none]) hs2 := by
    simp [e, e2]
  have st0 : startD 4 [D.ref r] = [some (.ref r), none, none, none] := rfl
  unfold f__law_full b__law_full
  rw [mkFn_v (np := 1) rfl, st0, cSeq_v, t1, nxt_nx, cRet_v, cF_v, cCons_v]
  have v1 : cV 1 [some (D.ref r), some (.int (z - 4)), some (.int (k : Int)), none] hs2 = .ok (.int (z - 4)) hs2 := rfl
  rw [v1, bind_ok, cCons_v, cF_v, cCons_v, e3, bind_ok, cNil_v, bind_ok, bind_ok, one_v, kt, bind_ok, cNil_v, bind_ok, bind_ok, bind_ok]
  show leave hs ((R.ok (D.tup [D.int (z - 4), D.tup L]) h4).bind _) = _
  rw [bind_ok]
  exact leave_d fin
theorem drawnq_w {tk : Fn} (ht : TakeOk tk) (p : PotAt r n hs) (hn : n < 2 ^ 59) : W (f__law_drawn_row tk [.ref r, .int 5] hs) fun d hs' => ∃ o : Own, d = ownD o ∧ Oq 6 6000 6 (-4) 11 o ∧ Drawn r (n + 300) hs hs' := by
  obtain ⟨v, hs1, e, z, rfl, z0, z1, dr⟩ := (ht.w (u := 7) p (by decide) (small_8000 (by decide)) (by omega)).ex
  obtain ⟨v2, hs2, e2, k', rfl, k0, k1, dr2⟩ := (ht.w (u := 6) dr.pot (by omega) (small_8000 (by decide)) (by omega)).ex
  obtain ⟨k, rfl⟩ : ∃ k : Nat, k' = (k : Int) := ⟨k'.toNat, by omega⟩
  have src : iArgs kRng1 (cCons (cF tk (cCons (cV 0) (cCons (c2 kAdd (cV 1) (cK (.int 1))) cNil))) cNil) [some (.ref r), some (.int 5), some (.int (z - 3)), none] hs1 = .ok (.seq ((List.range k).map fun i : Nat => D.int (i : Int))) hs2 := rng1_w (by simp [e2]) (by omega)
  have w := comp_w (b := false) (t := .nm 3) (σ := [some (.ref r), some (.int 5), some (.int (z - 3)), none]) (vs := [3]) (e := cF kTup (cCons (c2 kAdd (cV 2) (cV 3)) (cCons (cF (f__law_drawn_fraction tk) (cCons (cV 0) (cCons (cK (.int 3)) cNil))) cNil)))
    (s := iArgs kRng1 (cCons (cF tk (cCons (cV 0) (cCons (c2 kAdd (cV 1) (cK (.int 1))) cNil))) cNil)) (hs := hs1) (hs1 := hs2) (fun i : Nat => D.int (i : Int)) (fun (i : Nat) d => ∃ q : Fr, d = pairD (z - 3 + (i : Nat), q) ∧ Dr q) (fun i h => Drawn r (n + 2 + 3 * i) hs2 h) (List.range k) src (dr2.pot.mono (by omega) |> fun q => ⟨q, rfl, fun _ _ => rfl⟩) (fun i x h3 hx hi => by
      have hx2 := (List.getElem?_eq_some_iff.mp hx).1
      rw [List.length_range] at hx2
      obtain ⟨d, h5, e5, q, rfl, gq, dr5⟩ := (dfrac_w ht (most := 3) hi.pot (by decide) (by decide) (by omega)).ex
      exact ⟨[some (.ref r), some (.int 5), some (.int (z - 3)), some (.int (x : Int))], rfl, W.of (a := pairD (z - 3 + (x : Nat), toF q)) (hs := h5) (by simp [e5, pairD, frQ]) ⟨⟨_, rfl, q, rfl, gq⟩, (hi.trans dr5).mono (by omega)⟩⟩) (by rw [List.length_range]; omega)
  obtain ⟨d, h4, e3, ys, h9, en, ea, di⟩ := w.ex
  rw [newL_f] at en
  cases en
  rw [List.length_range] at di
  obtain ⟨o, rfl, ko, vo⟩ := each_pairs (key := fun i : Nat => z - 3 + (i : Int)) (P := Dr) ea
  have nd : (keysOf o).Nodup := by rw [ko]; exact range_nodup k
  have lo : o.length = k := by
    have := congrArg List.length ko
    simpa [keysOf] using this
  have op : Op 6 6000 6 (-4) 11 o := ⟨nd, fun p hp => by
    have : p.1 ∈ keysOf o := List.mem_map.mpr ⟨p, hp, rfl⟩
    rw [ko] at this
    obtain ⟨j, hj, e⟩ := List.mem_map.mp this
    rw [List.mem_range] at hj
    omega, by omega, vo⟩
  have dict := dict_own (hs := h4) nd
  have clr := cleared_v (hs := h4) nd (by omega)
  have fin : Drawn r (n + 300) hs h4 := ((dr.trans dr2).trans di).mono (by omega)
  generalize D.fl (o.map pairD) = L at *
  refine W.of (a := ownD (clearF o)) (hs := h4) ?_ ⟨_, rfl, op.clear, fin⟩
  simp [f__law_drawn_row, b__law_drawn_row, e]
  rw [e3]
  simp [dict, clr]
  exact leave_d fin
/-- some worths of a row taken below nought -/
theorem some_minus_w {tk : Fn} (ht : TakeOk tk) (p : PotAt r n hs) (hn : n < 2 ^ 59) {o : Own} {a b : Int} (h : Oq 6 6000 6 a b o) {σ : Sl} (s0 : σ[0]? = some (some (.ref r))) (s3 : σ[3]? = some (some (ownD o))) (hl : σ.length = 14) :
    W (cSet (.nm 6) (cF C.f__law_cleared (cCons (cF (one (kDict false)) (cCons (cComp false [13, 12] (.tp [.nm 13, .nm 12]) (iSeq (c1 (kItems false) (cV 3))) (cYes) (.lst []) (pLst (cF kTup (cCons (cV 13) (cCons (cIf (c2 kGt (cF tk (cCons (cV 0) (cCons (cK (.int 3)) (cNil)))) (cK (.int 0))) (cF C.f__law_minus (cCons (cV 12) (cNil))) (cV 12)) (cNil)))))) (cNil))) (cNil))) σ hs) fun f hs' => ∃ o', f = .nx (σ.set 6 (some (ownD o'))) ∧ Oq 6 6000 6 a b o' ∧ Drawn r (n + 10) hs hs' := by
  have v3 : ∀ h, cV 3 σ h = .ok (ownD o) h := fun h => by unfold cV; rw [s3]
  have w := comp_w (b := false) (t := .tp [.nm 13, .nm 12]) (σ := σ) (vs := [13, 12]) (e := cF kTup (cCons (cV 13) (cCons (cIf (c2 kGt (cF tk (cCons (cV 0) (cCons (cK (.int 3)) (cNil)))) (cK (.int 0))) (cF C.f__law_minus (cCons (cV 12) (cNil))) (cV 12)) (cNil))))
    (s := iSeq (c1 (kItems false) (cV 3))) (hs := hs) (hs1 := hs) pairD (fun (p : Int × Fr) d => ∃ q : Fr, d = pairD (p.1, q) ∧ Dr q) (fun i h => Drawn r (n + i) hs h) o (iSeq_l (by simp [v3, kItems_own])) (Drawn.refl p) (fun i x h3 hx hi => by
      have hx2 := (List.getElem?_eq_some_iff.mp hx).1
      have hl2 := h.len
      obtain ⟨v, h4, e4, t, rfl, t0, t1, dr4⟩ := (ht.w (u := 3) hi.pot (by decide) (small_8000 (by decide)) (by omega)).ex
      obtain ⟨s, es, gs⟩ := h.val x (List.mem_of_getElem? hx)
      refine ⟨_, bind_pair, ?_⟩
      have f0 : ∀ h, cV 0 (((wipeS σ [13, 12]).set 13 (some (.int x.1))).set 12 (some (frD x.2))) h = .ok (.ref r) h := fun h => by
        unfold cV
        rw [List.getElem?_set_ne (by decide), List.getElem?_set_ne (by decide)]
        show (match (wipeS σ [13, 12])[0]? with | some (some d) => R.ok d h | _ => R.stuck) = _
        have : (wipeS σ [13, 12])[0]? = some (some (.ref r)) := by
          unfold wipeS
          simp [s0]
        rw [this]
      have wl : (wipeS σ [13, 12]).length = 14 := by unfold wipeS; simp [hl]
      have f13 : ∀ h, cV 13 (((wipeS σ [13, 12]).set 13 (some (.int x.1))).set 12 (some (frD x.2))) h = .ok (.int x.1) h := fun h => by
        unfold cV
        rw [List.getElem?_set_ne (by decide), List.getElem?_set_self (by omega)]
      have f12 : ∀ h, cV 12 (((wipeS σ [13, 12]).set 13 (some (.int x.1))).set 12 (some (frD x.2))) h = .ok (frD x.2) h := fun h => by
        unfold cV
        rw [List.getElem?_set_self (by rw [List.length_set]; omega)]
      generalize ((wipeS σ [13, 12]).set 13 (some (.int x.1))).set 12 (some (frD x.2)) = σ2 at f0 f13 f12 ⊢
      by_cases c : 0 < t
      · have mv := law_minus_v (hs := h4) (a := s)
        exact W.of (a := pairD (x.1, toF (-s))) (hs := h4) (by
          have : frD x.2 = frQ s := by rw [es]; rfl
          rw [this] at f12
          simp [f0, f13, f12, e4, c, mv, pairD, frQ] at mv ⊢) ⟨⟨_, rfl, -s, rfl, gs.neg⟩, (hi.trans dr4).mono (by omega)⟩
      · exact W.of (a := pairD (x.1, x.2)) (hs := h4) (by simp [f0, f13, f12, e4, c, pairD]) ⟨⟨_, rfl, s, es, gs⟩, (hi.trans dr4).mono (by omega)⟩) (by have := h.len; omega)
  obtain ⟨d, h4, e3, ys, h9, en, ea, di⟩ := w.ex
  rw [newL_f] at en
  cases en
  obtain ⟨o', rfl, ko, vo⟩ := each_pairs (key := fun p : Int × Fr => p.1) (P := Dr) ea
  have ko : keysOf o' = keysOf o := ko
  have nd : (keysOf o').Nodup := by rw [ko]; exact h.nd
  have lo : o'.length = o.length := by
    have := congrArg List.length ko
    simpa [keysOf] using this
  have op : Op 6 6000 6 a b o' := ⟨nd, fun p hp => by
    have : p.1 ∈ keysOf o' := List.mem_map.mpr ⟨p, hp, rfl⟩
    rw [ko] at this
    obtain ⟨j, hj, e⟩ := List.mem_map.mp this
    rw [← e]
    exact h.key j hj, by have := h.len; omega, vo⟩
  have dict := dict_own (hs := h4) nd
  have clr := cleared_v (hs := h4) nd (by have := h.len; omega)
  refine W.of (a := .nx (σ.set 6 (some (ownD (clearF o'))))) (hs := h4) ?_ ⟨_, rfl, op.clear, di.mono (by have := h.len; omega)⟩
  generalize D.fl (o'.map pairD) = L at *
  rw [cSet_nm, cF_v, cCons_v, cF_v, cCons_v, e3]
  simp [dict, clr]
end
end PL.C

set_option Elab.async false
set_option linter.all false
set_option maxRecDepth 100000
set_option maxHeartbeats 4000000
set_option autoImplicit false
set_option exponentiation.threshold 20000
namespace PL.C
open PySem PySem.Spec PyProof.Rows L2
section
variable {hs : List Ob} {r n : Nat}
theorem kAdd_t {a b : List D} (h : a.length + b.length ≤ 1000) : kAdd (.tup a) (.tup b) hs = .ok (.tup (a ++ b)) hs := if_pos (by rw [sizeLine_eq]; omega)
theorem kMul_t {a : List D} {k : Int} (h : a ≠ [] ∧ 2 ≤ k ∧ k ≤ 1000 ∧ a.length ≤ 1000) : kMul (.tup a) (.int k) hs = .ok (.tup (List.replicate k.toNat a).flatten) hs := if_pos h
theorem enumD_own : ∀ {ws : List Fr} {a : Nat}, enumD a (ws.map frD) = (enumO (a : Int) ws).map pairD
  | [], _ => rfl
  | w :: ws, a => by
    show D.tup [.int (a : Nat), frD w] :: enumD (a + 1) (ws.map frD) = pairD ((a : Int), w) :: (enumO ((a : Int) + 1) ws).map pairD
    rw [enumD_own]
    rfl
theorem enumO_shift {f : Int} : ∀ {ws : List Fr} {a : Int}, (enumO a ws).map (fun p => (f + p.1, p.2)) = enumO (f + a) ws
  | [], _ => rfl
  | w :: ws, a => by
    show (f + a, w) :: (enumO (a + 1) ws).map _ = (f + a, w) :: enumO (f + a + 1) ws
    rw [enumO_shift, Int.add_assoc]
/-- the law's own row of worths in a row -/
theorem enum_oq {f a b : Int} {ws : List Fr} {L : Nat} (hw : ∀ q ∈ ws, Dr q) (hl : ws.length ≤ L) (ha : a ≤ f) (hb : f + ws.length ≤ b) : Oq 6 6000 L a b (clearF (enumO f ws)) :=
  Op.clear ⟨enumO_nd, fun p hp => by
    have := enumO_key p hp
    omega, by rw [enumO_len]; exact hl, fun p hp => hw _ (enumO_key p hp).2.2⟩
theorem dr_bd {ws : List Fr} (hw : ∀ q ∈ ws, Dr q) : ∀ q ∈ ws, ∃ r, q = toF r ∧ Bd 20 r := fun q hq => by
  obtain ⟨s, e, g⟩ := hw q hq
  exact ⟨s, e, g.bd (by decide) (by decide) (by decide)⟩
theorem rw_made {f a b : Int} {ws : List Fr} (hw : ∀ q ∈ ws, Dr q) (hl : ws.length ≤ 200) (h0 : a ≤ 0 ∧ 0 ≤ b) (ha : a ≤ f) (hb : f + ws.length ≤ b) : ∃ x, f_row_of [.int f, .tup (ws.map frD)] hs = .ok x hs ∧ Rw (qO (clearF (enumO f ws))) 20 a b x := by
  obtain ⟨f', ws', e, R, v⟩ := row_of_v (hs := hs) (f := f) (dr_bd hw) hl (by decide) h0 ha hb
  exact ⟨_, e, f', ws', rfl, R, fun m => by rw [v, ← enumO_qO, qO_clear enumO_nd]⟩
theorem k01_2 {f : Int} {ws : List Fr} (hf : -4 ≤ f ∧ f ≤ 4) (hl : ws.length ≤ 6) (hw : ∀ q ∈ ws, Dr q) : cSet (.nm 3) (cF C.f__law_cleared (cCons (cF (one (kDict false)) (cCons (cComp false [11, 12] (.tp [.nm 11, .nm 12]) (iArgs kEnum (cCons (cV 2) (cNil))) (cYes) (.lst []) (pLst (cF kTup (cCons (c2 kAdd (cV 1) (cV 11)) (cCons (cV 12) (cNil)))))) (cNil))) (cNil)))
    [some (.ref r), some (.int f), some (.tup (ws.map frD)), none, none, none, none, none, none, none, none, none, none, none] hs = .ok (.nx [some (.ref r), some (.int f), some (.tup (ws.map frD)), some (ownD (clearF (enumO f ws))), none, none, none, none, none, none, none, none, none, none]) hs := by
  have op := enum_oq hw hl (Int.le_refl f) (Int.le_refl _)
  have cv : cComp false [11, 12] (.tp [.nm 11, .nm 12]) (iArgs kEnum (cCons (cV 2) (cNil))) (cYes) (.lst []) (pLst (cF kTup (cCons (c2 kAdd (cV 1) (cV 11)) (cCons (cV 12) (cNil))))) [some (.ref r), some (.int f), some (.tup (ws.map frD)), none, none, none, none, none, none, none, none, none, none, none] hs = .ok (.fl ((enumO f ws).map pairD)) hs := by
    have sq : iArgs kEnum (cCons (cV 2) (cNil)) [some (.ref r), some (.int f), some (.tup (ws.map frD)), none, none, none, none, none, none, none, none, none, none, none] hs = .ok (.seq ((enumO 0 ws).map pairD)) hs := by
      have : (enumO 0 ws).map pairD = enumD 0 (ws.map frD) := enumD_own.symm
      rw [this]
      unfold iArgs
      simp [kEnum, frzL, tupD]
    rw [comp_all (b := false) pairD (fun p => pairD (f + p.1, p.2)) (enumO 0 ws) sq (fun p _ => ⟨_, bind_pair, by simp [wipeS, pairD]⟩) (by rw [enumO_len]; omega)]
    have : (enumO 0 ws).map (fun p => pairD (f + p.1, p.2)) = (enumO f ws).map pairD := by
      have := enumO_shift (f := f) (ws := ws) (a := 0)
      rw [Int.add_zero] at this
      rw [← this, List.map_map]
      rfl
    rw [this]
    rfl
  have dv := dict_own (hs := hs) (o := enumO f ws) enumO_nd
  have clr := cleared_v (hs := hs) (o := enumO f ws) enumO_nd (by rw [enumO_len]; omega)
  generalize D.fl ((enumO f ws).map pairD) = Z at cv dv
  generalize ownD (clearF (enumO f ws)) = Y at clr ⊢
  generalize ws.map frD = W0 at cv ⊢
  simp [cv, dv, clr]
theorem k01_3 {f : Int} {ws : List Fr} (hf : -4 ≤ f ∧ f ≤ 4) (hl : ws.length ≤ 6) (hw : ∀ q ∈ ws, Dr q) : ∃ x, cSet (.nm 4) (cCallK 0 2 [0, 1] C.f_row_of cNil (cCons (cV 1) (cCons (cV 2) (cNil))))
    [some (.ref r), some (.int f), some (.tup (ws.map frD)), some (ownD (clearF (enumO f ws))), none, none, none, none, none, none, none, none, none, none] hs = .ok (.nx [some (.ref r), some (.int f), some (.tup (ws.map frD)), some (ownD (clearF (enumO f ws))), some x, none, none, none, none, none, none, none, none, none]) hs ∧ Rw (qO (clearF (enumO f ws))) 20 (-4) 11 x := by
  obtain ⟨x, e, R⟩ := rw_made (hs := hs) (a := -4) (b := 11) hw (by omega) (by decide) hf.1 (by omega)
  refine ⟨x, ?_, R⟩
  have ck : cCallK 0 2 [0, 1] C.f_row_of cNil (cCons (cV 1) (cCons (cV 2) (cNil))) [some (.ref r), some (.int f), some (.tup (ws.map frD)), some (ownD (clearF (enumO f ws))), none, none, none, none, none, none, none, none, none, none] hs = .ok x hs := by
    unfold cCallK
    generalize ws.map frD = W0 at e ⊢
    simp [reord, e]
  rw [cSet_nm, ck, bind_ok]
  rfl
/-- a row's text is short enough -/
theorem rp_row {k : Nat} {v : Int → Rat} {x : D} (R : Rw v 20 (-4) 11 x) : Rp (k + 4) 10000 x :=
  (R.rp (k := k) ⟨by decide, by decide, by decide, by decide, by decide⟩ (by decide) (by decide) (w := 4000) (by decide) (by decide)).mono (by decide)
theorem k01_4 {f : Int} {ws : List Fr} (hf : -4 ≤ f ∧ f ≤ 4) (hl : ws.length ≤ 6) (hw : ∀ q ∈ ws, Dr q) {o : Own} {x : D} (eo : o = clearF (enumO f ws)) (R : Rw (qO o) 20 (-4) 11 x) : cIfS (cOr (cReprSame false (cV 4) (cF C.f__law_told_row (cCons (cV 3) (cNil)))) (cReprSame false (cF C.f_row_of (cCons (c2 kSub (cV 1) (cK (.int 2))) (cCons (c2 kAdd (c2 kAdd (c2 kMul (cF kTup (cCons (cF kTup (cCons (cK (.int 0)) (cCons (cK (.int 1)) (cNil)))) (cNil))) (cK (.int 2))) (cV 2)) (cF kTup (cCons (cF kTup (cCons (cK (.int 0)) (cCons (cK (.int 1)) (cNil)))) (cNil)))) (cNil)))) (cV 4))) (cRet (cK (.bl false))) (cNext)
    [some (.ref r), some (.int f), some (.tup (ws.map frD)), some (ownD o), some x, none, none, none, none, none, none, none, none, none] hs = .ok (.nx [some (.ref r), some (.int f), some (.tup (ws.map frD)), some (ownD o), some x, none, none, none, none, none, none, none, none, none]) hs := by
  have op : Oq 6 6000 6 (-4) 11 o := by rw [eo]; exact enum_oq hw hl hf.1 (by omega)
  obtain ⟨t, e1, T⟩ := rw_told (hs := hs) (i := 20) op ⟨by decide, by decide, by decide, by decide, by decide⟩ (by decide) (by decide) (by decide) (by decide) (by decide)
  have et : t = x := T.eq R (by decide) (by decide) fun m => rfl
  rw [et] at e1 T
  clear et
  have hw2 : ∀ q ∈ (0, 1) :: (0, 1) :: (ws ++ [(0, 1)]), Dr q := fun q hq => by
    simp only [List.mem_cons, List.mem_append, List.not_mem_nil, or_false] at hq
    rcases hq with rfl | rfl | hq | rfl
    · exact Dr.z
    · exact Dr.z
    · exact hw q hq
    · exact Dr.z
  obtain ⟨y, e2, Y⟩ := rw_made (hs := hs) (f := f - 2) (a := -6) (b := 11) hw2 (by simp; omega) (by decide) (by omega) (by simp; omega)
  have ey : y = x := Y.eq T (by decide) (by decide) fun m => by
    rw [eo, qO_clear enumO_nd, qO_clear enumO_nd, enumO_qO, enumO_qO]
    have : ∀ (g : Int) (vs : List Fr), valQ g ((0, 1) :: vs) m = valQ (g + 1) vs m := fun g vs => by
      rw [← enumO_qO, ← enumO_qO]
      show qO ((g, (0, 1)) :: enumO (g + 1) vs) m = _
      rw [qO_cons]
      split
      · rename_i h
        rw [enumO_qO, valQ_off (.inl (by dsimp only at h; omega))]
        exact fromF_z
      · rfl
    rw [this, this, show f - 2 + 1 + 1 = f by omega]
    rw [← enumO_qO, ← enumO_qO, enumO_app]
    have app : ∀ (p q : Own), (∀ k ∈ keysOf q, k ∉ keysOf p) → (∀ k, qO q k = 0) → qO (p ++ q) m = qO p m := fun p q _ hz => by
      induction p with
      | nil => rw [List.nil_append, hz, qO_nil]
      | cons z p ih =>
        rw [List.cons_append, qO_cons, qO_cons, ih fun k hk hp => by
          rename_i dj
          exact dj k hk (by unfold keysOf at hp ⊢; rw [List.map_cons]; exact List.mem_cons_of_mem _ hp)]
    refine app _ _ (fun k hk hp => ?_) fun k => ?_
    · obtain ⟨a, ha, e⟩ := List.mem_map.mp hk
      obtain ⟨b, hb, e'⟩ := List.mem_map.mp hp
      have := enumO_key a ha
      have := enumO_key b hb
      omega
    · show qO [(f + (ws.length : Int), (0, 1))] k = 0
      rw [qO_cons]
      split
      · exact fromF_z
      · exact qO_nil
  rw [ey] at e2
  have s1 : cReprSame false (cV 4) (cF C.f__law_told_row (cCons (cV 3) (cNil))) [some (.ref r), some (.int f), some (.tup (ws.map frD)), some (ownD o), some x, none, none, none, none, none, none, none, none, none] hs = .ok (.bl false) hs := same_v (d := x) (hs1 := hs) rfl (by simp [e1]) (rp_row (k := 56) R |>.mono (by decide))
  have s2 : cReprSame false (cF C.f_row_of (cCons (c2 kSub (cV 1) (cK (.int 2))) (cCons (c2 kAdd (c2 kAdd (c2 kMul (cF kTup (cCons (cF kTup (cCons (cK (.int 0)) (cCons (cK (.int 1)) (cNil)))) (cNil))) (cK (.int 2))) (cV 2)) (cF kTup (cCons (cF kTup (cCons (cK (.int 0)) (cCons (cK (.int 1)) (cNil)))) (cNil)))) (cNil)))) (cV 4) [some (.ref r), some (.int f), some (.tup (ws.map frD)), some (ownD o), some x, none, none, none, none, none, none, none, none, none] hs = .ok (.bl false) hs := by
    refine same_v (d := x) (hs1 := hs) ?_ rfl (rp_row (k := 56) R |>.mono (by decide))
    have m1 : kMul (.tup [.tup [.int 0, .int 1]]) (.int 2) hs = .ok (.tup [frD (0, 1), frD (0, 1)]) hs := by
      rw [kMul_t (by simp)]
      rfl
    have m2 : kAdd (.tup [frD (0, 1), frD (0, 1)]) (.tup (ws.map frD)) hs = .ok (.tup (frD (0, 1) :: frD (0, 1) :: ws.map frD)) hs := by
      rw [kAdd_t (by simp; omega)]
      rfl
    have m3 : kAdd (.tup (frD (0, 1) :: frD (0, 1) :: ws.map frD)) (.tup [.tup [.int 0, .int 1]]) hs = .ok (.tup (((0, 1) :: (0, 1) :: (ws ++ [(0, 1)])).map frD)) hs := by
      rw [kAdd_t (by simp; omega)]
      simp [frD]
    generalize (((0, 1) :: (0, 1) :: (ws ++ [(0, 1)])).map frD) = W1 at m3 e2
    generalize ws.map frD = W0 at m2 m3 ⊢
    have k1 : kTup [.tup [.int 0, .int 1]] hs = .ok (.tup [.tup [.int 0, .int 1]]) hs := kTup_v (by simp)
    simp [k1, m1, m2, m3, e2]
  rw [cIfS_v, cOr_v, s1, bind_ok, bIf_bl]
  simp [s2]
theorem k01_5 {f : Int} {ws : List Fr} (hf : -4 ≤ f ∧ f ≤ 4) (hl : ws.length ≤ 6) (hw : ∀ q ∈ ws, Dr q) {o : Own} {x : D} (eo : o = clearF (enumO f ws)) (R : Rw (qO o) 20 (-4) 11 x) : cIfS (cReprSame false (cCallK 0 1 [0] C.f_spread cNil (cCons (cV 4) (cNil))) (cIf (c2 kNe (cV 3) (cDct0 false)) (c2 kSub (cF (one kMax) (cCons (cF (one (kList false)) (cCons (cV 3) (cNil))) (cNil))) (cF (one kMin) (cCons (cF (one (kList false)) (cCons (cV 3) (cNil))) (cNil)))) (cK .non))) (cRet (cK (.bl false))) (cNext)
    [some (.ref r), some (.int f), some (.tup (ws.map frD)), some (ownD o), some x, none, none, none, none, none, none, none, none, none] hs = .ok (.nx [some (.ref r), some (.int f), some (.tup (ws.map frD)), some (ownD o), some x, none, none, none, none, none, none, none, none, none]) hs := by
  have op : Oq 6 6000 6 (-4) 11 o := by rw [eo]; exact enum_oq hw hl hf.1 (by omega)
  obtain ⟨e1, r1, q1⟩ := toldO_v (hs := hs) (i := 20) op (by decide) (by decide) (by decide) (by decide) (by decide) (by decide)
  obtain ⟨g, vs, rfl, r2, q2⟩ := R.ex
  obtain ⟨e2, e3⟩ := row_same r2 r1 (by decide) (by decide) fun m => by rw [q1, q2]
  have sp := spread_v (hs := hs) r2 ⟨by decide, by decide, by decide, by decide, by decide⟩ (by decide)
  have ev : ∃ d, f_spread [rowD g vs] hs = .ok d hs ∧ cIf (c2 kNe (cV 3) (cDct0 false)) (c2 kSub (cF (one kMax) (cCons (cF (one (kList false)) (cCons (cV 3) (cNil))) (cNil))) (cF (one kMin) (cCons (cF (one (kList false)) (cCons (cV 3) (cNil))) (cNil)))) (cK .non) [some (.ref r), some (.int f), some (.tup (ws.map frD)), some (ownD o), some (rowD g vs), none, none, none, none, none, none, none, none, none] hs = .ok d hs ∧ Rp 60 100000 d := by
    clear eo
    cases ho : o with
    | nil =>
      rw [ho] at e3
      have : vs = [] := e3
      subst this
      refine ⟨.non, sp, ?_, .non⟩
      have : kNe (ownD []) (.fd []) hs = .ok (.bl false) hs := rfl
      simp [this, newD]
    | cons p t =>
      rw [← ho]
      have ne : keysOf o ≠ [] := by rw [ho]; simp [keysOf]
      have et : toldRow o = (minI (keysOf o), (List.range (maxI (keysOf o) + 1 - minI (keysOf o)).toNat).map fun i => C.getF o (minI (keysOf o) + (i : Nat))) := by rw [ho]; rfl
      obtain ⟨mi, ml⟩ := minI_ok ne
      obtain ⟨xi, xl⟩ := maxI_ok ne
      have b1 := ml _ xi
      obtain ⟨p1, hp1, k1⟩ := List.mem_map.mp mi
      obtain ⟨p2, hp2, k2⟩ := List.mem_map.mp xi
      have c1 := op.key p1 hp1
      have c2 := op.key p2 hp2
      have lv : vs.length = (maxI (keysOf o) + 1 - minI (keysOf o)).toNat := by rw [e3, et]; simp
      have nv : vs.isEmpty = false := by
        cases vs with
        | nil => simp at lv; omega
        | cons a b => rfl
      rw [nv] at sp
      refine ⟨.int (maxI (keysOf o) - minI (keysOf o)), ?_, ?_, ?_⟩
      · rw [sp, show ((vs.length : Nat) : Int) - 1 = maxI (keysOf o) - minI (keysOf o) by omega]
        rfl
      · have e0 : kNe (ownD o) (.fd []) hs = .ok (.bl true) hs := by rw [ho]; rfl
        have el : kList false (ownD o) hs = .ok (.fl (o.map fun p => D.int p.1)) hs := by
          unfold kList
          rw [show seqOf hs (ownD o) = none from rfl]
          dsimp only
          rw [dctOf_own]
          dsimp only
          unfold kvs
          rw [List.map_map]
          rfl
        have emin : kMin (.fl (o.map fun p => D.int p.1)) hs = .ok (.int (minI (keysOf o))) hs := by
          unfold kMin
          rw [intsOf_keys]
          cases hq : keysOf o with
          | nil => exact absurd hq ne
          | cons a b => rfl
        have emax : kMax (.fl (o.map fun p => D.int p.1)) hs = .ok (.int (maxI (keysOf o))) hs := by
          unfold kMax
          rw [intsOf_keys]
          cases hq : keysOf o with
          | nil => exact absurd hq ne
          | cons a b => rfl
        generalize D.fl (o.map fun p => D.int p.1) = L at *
        simp [e0, el, emin, emax, newD]
      · exact (Rp.int (i := 20) (by have : (2 : Nat) ^ 20 = 1048576 := by decide
                                    omega) (by decide) (by decide)).mono (by decide)
  obtain ⟨d, v1, v2, v3⟩ := ev
  have s1 : cReprSame false (cCallK 0 1 [0] C.f_spread cNil (cCons (cV 4) (cNil))) (cIf (c2 kNe (cV 3) (cDct0 false)) (c2 kSub (cF (one kMax) (cCons (cF (one (kList false)) (cCons (cV 3) (cNil))) (cNil))) (cF (one kMin) (cCons (cF (one (kList false)) (cCons (cV 3) (cNil))) (cNil)))) (cK .non)) [some (.ref r), some (.int f), some (.tup (ws.map frD)), some (ownD o), some (rowD g vs), none, none, none, none, none, none, none, none, none] hs = .ok (.bl false) hs := by
    refine same_v (d := d) (hs1 := hs) ?_ v2 v3
    unfold cCallK
    generalize rowD g vs = X at v1 ⊢
    simp [reord, v1]
  rw [cIfS_v, s1, bind_ok, bIf_bl]
  rfl
theorem k01_6 {f : Int} {ws : List Fr} (hf : -4 ≤ f ∧ f ≤ 4) (hl : ws.length ≤ 6) (hw : ∀ q ∈ ws, Dr q) {o : Own} {x : D} (eo : o = clearF (enumO f ws)) (R : Rw (qO o) 20 (-4) 11 x) : cIfS (c1 kNot (cF (one kAll) (cCons (cComp false [13] (.nm 13) (iArgs kRng2 (cCons (c2 kSub (cV 1) (cK (.int 3))) (cCons (c2 kAdd (cV 1) (cK (.int 9))) (cNil)))) (cYes) (.lst []) (pLst (cReprSame true (cCallK 0 2 [0, 1] C.f_worth cNil (cCons (cV 4) (cCons (cV 13) (cNil)))) (cGet2 (cV 3) (cV 13) (cF kTup (cCons (cK (.int 0)) (cCons (cK (.int 1)) (cNil)))))))) (cNil)))) (cRet (cK (.bl false))) (cNext)
    [some (.ref r), some (.int f), some (.tup (ws.map frD)), some (ownD o), some x, none, none, none, none, none, none, none, none, none] hs = .ok (.nx [some (.ref r), some (.int f), some (.tup (ws.map frD)), some (ownD o), some x, none, none, none, none, none, none, none, none, none]) hs := by
  have op : Oq 6 6000 6 (-4) 11 o := by rw [eo]; exact enum_oq hw hl hf.1 (by omega)
  have cv : cComp false [13] (.nm 13) (iArgs kRng2 (cCons (c2 kSub (cV 1) (cK (.int 3))) (cCons (c2 kAdd (cV 1) (cK (.int 9))) (cNil)))) (cYes) (.lst []) (pLst (cReprSame true (cCallK 0 2 [0, 1] C.f_worth cNil (cCons (cV 4) (cCons (cV 13) (cNil)))) (cGet2 (cV 3) (cV 13) (cF kTup (cCons (cK (.int 0)) (cCons (cK (.int 1)) (cNil))))))) [some (.ref r), some (.int f), some (.tup (ws.map frD)), some (ownD o), some x, none, none, none, none, none, none, none, none, none] hs = .ok (.fl ((List.range 12).map fun _ => .bl true)) hs := by
    have sq : iArgs kRng2 (cCons (c2 kSub (cV 1) (cK (.int 3))) (cCons (c2 kAdd (cV 1) (cK (.int 9))) (cNil))) [some (.ref r), some (.int f), some (.tup (ws.map frD)), some (ownD o), some x, none, none, none, none, none, none, none, none, none] hs = .ok (.seq ((List.range 12).map fun i : Nat => D.int (f - 3 + (i : Nat)))) hs := by
      have := rng2_v (hs := hs) (lo := f - 3) (n := f + 9) (a := (cCons (c2 kSub (cV 1) (cK (.int 3))) (cCons (c2 kAdd (cV 1) (cK (.int 9))) (cNil)))) (σ := [some (.ref r), some (.int f), some (.tup (ws.map frD)), some (ownD o), some x, none, none, none, none, none, none, none, none, none]) (by simp) (by omega) (by omega) (by omega) (by omega)
      rw [show (f + 9 - (f - 3)).toNat = 12 by omega] at this
      exact this
    refine comp_all (b := false) (fun i : Nat => D.int (f - 3 + (i : Nat))) (fun _ => .bl true) (List.range 12) sq (fun i _ => ⟨[some (.ref r), some (.int f), some (.tup (ws.map frD)), some (ownD o), some x, none, none, none, none, none, none, none, none, some (.int (f - 3 + (i : Nat)))], rfl, ?_⟩) (by simp)
    have wv := rw_worth (hs := hs) (m := f - 3 + (i : Int)) R ⟨by decide, by decide, by decide, by decide, by decide⟩ (by decide) (by decide)
    have gv : kGet2 (ownD o) (.int (f - 3 + (i : Int))) (.tup [.int 0, .int 1]) hs = .ok (frQ (qO o (f - 3 + (i : Int)))) hs := by
      rw [get_own, (op.at _).1]
      rfl
    have bd := (op.at (f - 3 + (i : Int))).2.bd (i := 20) (by decide) (by decide) (by decide)
    refine same_v (d := frQ (qO o (f - 3 + (i : Int)))) (hs1 := hs) ?_ ?_ ((Rp.fr (k := 59) bd (by decide) (by decide)).mono (by decide))
    · unfold cCallK
      simp [reord, wv]
    · simp [gv]
  have ka : kAll (.fl ((List.range 12).map fun _ => .bl true)) hs = .ok (.bl true) hs := by
    rw [kAll_m (p := fun _ => true)]
    rfl
  generalize D.fl ((List.range 12).map fun _ => D.bl true) = Z at cv ka
  rw [cIfS_v, c1_v, cF_v, cCons_v, cv]
  simp [ka]
end
end PL.C

set_option Elab.async false
set_option linter.all false
set_option maxRecDepth 100000
set_option maxHeartbeats 4000000
set_option autoImplicit false
set_option exponentiation.threshold 20000
namespace PL.C
open PySem PySem.Spec PyProof.Rows L2
/-! ## the laws' common frame -/
section
variable {hs : List Ob}
theorem kItem_z {xs : List D} {d : D} {i : Int} (h : atI xs i = some d) : kItem (.frz xs) (.int i) hs = .ok d hs := by
  unfold kItem; simp [dctOf, seqOf, lstOf, h]
theorem cut_ints {ns : List Int} {lo hi : Option Int} : ∃ ms : List Int, cutD (ns.map D.int) lo hi = ms.map D.int := by
  unfold cutD
  rw [List.length_map, ← List.map_drop, ← List.map_take]
  exact ⟨_, rfl⟩
theorem kSum_i {ms : List Int} : kSum (.fl (ms.map D.int)) hs = .ok (.int ms.sum) hs := by
  unfold kSum intsOf
  rw [show lstOf hs (.fl (ms.map D.int)) = some (ms.map D.int) from rfl, Option.bind_some, asInts_map]
def potB (A B C0 D0 E0 : Int) : CS := cSeq (cSet (.nm 2) (cIf (c2 kLt (cV 1) (cF (one kLen) (cCons (cV 0) (cNil)))) (c2 kItem (cV 0) (cV 1)) (c2 kAdd (c2 kAdd (c2 kMod (cF (one kInt) (cCons (cF (one kSum) (cCons (cCut false (cV 0) oNo (oSm (cK (.int 1)))) (cNil))) (cNil))) (cK (.int 1000003))) (c2 kMul (cK (.int A)) (cV 1))) (cK (.int B))))) (cSeq (cSet (.nm 3) (c2 kMul (c2 kMod (cF (one kInt) (cCons (cF (one kAbs) (cCons (cV 2) (cNil))) (cNil))) (c2 kPow (c2 kPow (cK (.int 10)) (cK (.int 60))) (cK (.int 5)))) (cF (one kInt) (cCons (c2 kGe (cF (one kAbs) (cCons (cV 2) (cNil))) (c2 kPow (cK (.int 10)) (cK (.int 18)))) (cNil))))) (cSeq (cSet (.nm 4) (c2 kMod (cF (one kInt) (cCons (cV 2) (cNil))) (cK (.int 2305843009213693951)))) (cRet (cF (kLst true) (cCons (cV 3) (cCons (c2 kMod (cF (one kInt) (cCons (c2 kAdd (c2 kAdd (c2 kMul (cV 4) (cK (.int C0))) (c2 kMul (c2 kMul (cK (.int D0)) (cV 1)) (cV 1))) (cK (.int E0))) (cNil))) (cK (.int 2305843009213693921))) (cCons (cK (.int 0)) (cNil))))))))
/-- a pot -/
theorem potB_v {A0 B0 C0 D0 E0 : Int} (hA : A0.natAbs < 2 ^ 14) (hC0 : C0.natAbs < 2 ^ 17) (hD : D0.natAbs < 2 ^ 14) {ns : List Int} {place : Nat} (hp : place ≤ 3) : ∃ o s : Int, mkFn0 2 5 (potB A0 B0 C0 D0 E0) [.frz (ns.map D.int), .int (place : Int)] hs = .ok (.ref hs.length) (hs ++ [.lst [.int o, .int s, .int 0]]) ∧ 0 ≤ o ∧ o.natAbs < 2 ^ 1000 ∧ 0 ≤ s ∧ s.natAbs < 2 ^ 62 := by
  -- the cell
  have cell : ∃ c : Int, cIf (c2 kLt (cV 1) (cF (one kLen) (cCons (cV 0) (cNil)))) (c2 kItem (cV 0) (cV 1)) (c2 kAdd (c2 kAdd (c2 kMod (cF (one kInt) (cCons (cF (one kSum) (cCons (cCut false (cV 0) oNo (oSm (cK (.int 1)))) (cNil))) (cNil))) (cK (.int 1000003))) (c2 kMul (cK (.int A0)) (cV 1))) (cK (.int B0))) [some (.frz (ns.map D.int)), some (.int (place : Int)), none, none, none] hs = .ok (.int c) hs := by
    by_cases h : place < ns.length
    · refine ⟨ns[place], ?_⟩
      have e : kItem (.frz (ns.map D.int)) (.int (place : Int)) hs = .ok (.int ns[place]) hs := kItem_z (atI_nat (by rw [List.getElem?_map, List.getElem?_eq_getElem h]; rfl))
      simp [h, e]
    · obtain ⟨ms, em⟩ := cut_ints (ns := ns) (lo := none) (hi := some 1)
      have e1 : cCut false (cV 0) oNo (oSm (cK (.int 1))) [some (.frz (ns.map D.int)), some (.int (place : Int)), none, none, none] hs = .ok (.fl (ms.map D.int)) hs := by
        rw [← em]
        rfl
      have e2 := kSum_i (hs := hs) (ms := ms)
      have e3 : kMod (.int ms.sum) (.int 1000003) hs = .ok (.int (ms.sum % 1000003)) hs := kMod_v (by decide)
      have e4 : kMul (.int A0) (.int (place : Int)) hs = .ok (.int (A0 * (place : Int))) hs := kMul_v (mulOk_of (i := 14) (j := 2) hA (by omega) (by decide) (by decide) (by decide))
      generalize D.fl (ms.map D.int) = M at *
      refine ⟨ms.sum % 1000003 + A0 * (place : Int) + B0, ?_⟩
      simp [h, e1, e2, e3, e4]
  obtain ⟨c, ec⟩ := cell
  generalize hcl : cIf (c2 kLt (cV 1) (cF (one kLen) (cCons (cV 0) (cNil)))) (c2 kItem (cV 0) (cV 1)) (c2 kAdd (c2 kAdd (c2 kMod (cF (one kInt) (cCons (cF (one kSum) (cCons (cCut false (cV 0) oNo (oSm (cK (.int 1)))) (cNil))) (cNil))) (cK (.int 1000003))) (c2 kMul (cK (.int A0)) (cV 1))) (cK (.int B0))) = CL at ec
  -- own
  have p1 : kPow (.int 10) (.int 60) hs = .ok (.int ((10 : Int) ^ 60)) hs := kPow_v (by decide) (by decide) (by decide)
  have p2 : kPow (.int ((10 : Int) ^ 60)) (.int 5) hs = .ok (.int (((10 : Int) ^ 60) ^ 5)) hs := kPow_v (by decide) (by decide) (by decide +kernel)
  have p3 : kPow (.int 10) (.int 18) hs = .ok (.int ((10 : Int) ^ 18)) hs := kPow_v (by decide) (by decide) (by decide)
  have q1 : (0 : Int) < ((10 : Int) ^ 60) ^ 5 := by decide +kernel
  have q2 : ((10 : Int) ^ 60) ^ 5 < 2 ^ 1000 := by decide +kernel
  generalize hA : (10 : Int) ^ 60 = A at p1 p2 q1 q2
  generalize hB : A ^ 5 = B at p2 q1 q2
  generalize hC : (10 : Int) ^ 18 = Cc at p3
  have m1 : kMod (.int (c.natAbs : Int)) (.int B) hs = .ok (.int ((c.natAbs : Int) % B)) hs := kMod_v q1
  have r0 : 0 ≤ (c.natAbs : Int) % B := Int.emod_nonneg _ (by omega)
  have r1 : (c.natAbs : Int) % B < B := Int.emod_lt_of_pos _ q1
  generalize (c.natAbs : Int) % B = R at m1 r0 r1
  have rb : R.natAbs < 2 ^ 1000 := abs_lt r0 (Int.lt_trans r1 q2)
  have m2 : ∀ b : Bool, kMul (.int R) (.int (if b = true then 1 else 0)) hs = .ok (.int (R * (if b = true then 1 else 0))) hs := fun b => kMul_v (mulOk_of (i := 1000) (j := 1) rb (by cases b <;> decide) (by decide) (by decide) (by decide))
  have ob : ∀ b : Bool, 0 ≤ R * (if b = true then 1 else 0) ∧ (R * (if b = true then 1 else 0)).natAbs < 2 ^ 1000 := fun b => by
    cases b
    · simp
    · simpa using ⟨r0, rb⟩
  -- small
  have m3 : kMod (.int c) (.int 2305843009213693951) hs = .ok (.int (c % 2305843009213693951)) hs := kMod_v (by decide)
  have s0 : 0 ≤ c % 2305843009213693951 := Int.emod_nonneg _ (by decide)
  have s1 : c % 2305843009213693951 < 2305843009213693951 := Int.emod_lt_of_pos _ (by decide)
  generalize c % 2305843009213693951 = S at m3 s0 s1
  have sb : S.natAbs < 2 ^ 62 := by
    have : (2 : Nat) ^ 62 = 4611686018427387904 := by decide
    omega
  have m4 : kMul (.int S) (.int C0) hs = .ok (.int (S * C0)) hs := kMul_v (mulOk_of (i := 62) (j := 17) sb hC0 (by decide) (by decide) (by decide))
  have m5 : kMul (.int D0) (.int (place : Int)) hs = .ok (.int (D0 * (place : Int))) hs := kMul_v (mulOk_of (i := 14) (j := 2) hD (by omega) (by decide) (by decide) (by decide))
  have m6 : kMul (.int (D0 * (place : Int))) (.int (place : Int)) hs = .ok (.int (D0 * (place : Int) * (place : Int))) hs := kMul_v (mulOk_of (i := 16) (j := 2) (mul_lt_pow (i := 14) (j := 2) hD (by omega)) (by omega) (by decide) (by decide) (by decide))
  have m7 : kMod (.int (S * C0 + D0 * (place : Int) * (place : Int) + E0)) (.int 2305843009213693921) hs = .ok (.int ((S * C0 + D0 * (place : Int) * (place : Int) + E0) % 2305843009213693921)) hs := kMod_v (by decide)
  generalize D0 * (place : Int) * (place : Int) = G at m6 m7
  have t0 : 0 ≤ (S * C0 + G + E0) % 2305843009213693921 := Int.emod_nonneg _ (by decide)
  have t1 : (S * C0 + G + E0) % 2305843009213693921 < 2305843009213693921 := Int.emod_lt_of_pos _ (by decide)
  generalize (S * C0 + G + E0) % 2305843009213693921 = T at m7 t0 t1
  have tb : T.natAbs < 2 ^ 62 := by
    have : (2 : Nat) ^ 62 = 4611686018427387904 := by decide
    omega
  have l3 : ∀ a b c : D, kLst true [a, b, c] hs = newL true [a, b, c] hs := fun a b c => kLst_v (by simp)
  refine ⟨R * (if decide (Cc ≤ (c.natAbs : Int)) = true then 1 else 0), T, ?_, (ob _).1, (ob _).2, t0, tb⟩
  have ecs : CL [some (.frz (ns.map D.int)), some (.int (place : Int)), none, none, none] hs = .ok (.int c) hs := ec
  generalize D.frz (ns.map D.int) = Z at *
  unfold potB
  rw [hcl, mkFn0_v (np := 2) rfl]
  have st0 : startD 5 [Z, .int (place : Int)] = [some Z, some (.int (place : Int)), none, none, none] := rfl
  have m2' := m2 (decide (Cc ≤ (c.natAbs : Int)))
  rw [st0, cSeq_v, cSet_nm, ecs, bind_ok, nxt_nx]
  simp [p1, p2, p3, m1, m3, m4, m5, m6, m7, l3]
  simp at m2'
  simp [m2', m3, m4, m5, m6, m7, l3]
/-- a def that makes pots -/
structure PotOk (pot : Fn) : Prop where
  v : ∀ {hs : List Ob} {ns : List Int} {place : Nat}, place ≤ 3 → ∃ o s : Int, pot [.frz (ns.map D.int), .int (place : Int)] hs = .ok (.ref hs.length) (hs ++ [.lst [.int o, .int s, .int 0]]) ∧ 0 ≤ o ∧ o.natAbs < 2 ^ 1000 ∧ 0 ≤ s ∧ s.natAbs < 2 ^ 62
theorem potB_ok {A0 B0 C0 D0 E0 : Int} (hA : A0.natAbs < 2 ^ 14) (hC : C0.natAbs < 2 ^ 17) (hD : D0.natAbs < 2 ^ 14) : PotOk (mkFn0 2 5 (potB A0 B0 C0 D0 E0)) := ⟨fun hp => potB_v hA hC hD hp⟩
/-- pots at all places -/
def Pots (k : Nat) (hs : List Ob) : Prop := hs.length = k ∧ ∀ i < k, ∃ n, PotAt i n hs
theorem Pots.drawn {k r n : Nat} {hs hs' : List Ob} (p : Pots k hs) (d : Drawn r n hs hs') : Pots k hs' := ⟨d.len.trans p.1, fun i hi => by
  by_cases e : i = r
  · subst e; exact ⟨n, d.pot⟩
  · obtain ⟨n', q⟩ := p.2 i hi
    obtain ⟨o, s, c, h1, r⟩ := q.ex
    exact ⟨n', o, s, c, (d.oth i e).trans h1, r⟩⟩
/-- what a place is asked -/
structure RightOk (right : Fn) (lim : Nat) : Prop where
  w : ∀ {r : Nat} {hs : List Ob}, r < lim → Pots (r + 1) hs → PotAt r 0 hs → W (right [.ref r] hs) fun d hs' => d = .bl true ∧ Pots (r + 1) hs'
def lawB (right pot : Fn) (lim : Int) : CS := cRet (cF (one kAll) (cCons (cComp false [1] (.nm 1) (iSeq (cF C.f__law_cells (cCons (cV 0) (cCons (cK (.int lim)) (cNil))))) (cYes) (.lst []) (pLst (cF right (cCons (cF pot (cCons (cV 0) (cCons (cV 1) (cNil)))) (cNil))))) (cNil)))
theorem lawB_true {right pot : Fn} {lim : Nat} (hl : 1 ≤ lim) (hl2 : lim ≤ 4) (hp : PotOk pot) (hr : RightOk right lim) (ns : List Int) (h : ns.length ≤ 63) (_ : ∀ z ∈ ns, Builtin.Int.intBits z ≤ 1048576) : ∃ hs, mkFn 1 2 (lawB right pot (lim : Int)) [.frz (ns.map D.int)] [] = .ok (.bl true) hs := by
  have cv := cells_v (hs := []) h (lim := (lim : Int)) (by omega) (by omega)
  obtain ⟨k, hk⟩ : ∃ k, (max 1 (min (lim : Int) (ns.length : Int))).toNat = k := ⟨_, rfl⟩
  have k2 : k ≤ lim := by omega
  rw [hk] at cv
  have w := comp_w (b := false) (t := .nm 1) (σ := [some (.frz (ns.map D.int)), none]) (vs := [1]) (e := cF right (cCons (cF pot (cCons (cV 0) (cCons (cV 1) (cNil)))) (cNil))) (s := iSeq (cF C.f__law_cells (cCons (cV 0) (cCons (cK (.int (lim : Int))) (cNil))))) (hs := []) (hs1 := []) (fun i : Nat => D.int (i : Int)) (fun (_ : Nat) d => d = .bl true) (fun i hs => Pots i hs) (List.range k) (iSeq_l (by simp [cv])) ⟨rfl, fun i hi => absurd hi (by omega)⟩ (fun i x hs hx pt => by
    have xk := (List.getElem?_eq_some_iff.mp hx).1
    rw [List.getElem?_eq_getElem xk, List.getElem_range] at hx
    cases hx
    rw [List.length_range] at xk
    obtain ⟨o, s, ep, o0, o1, s0, s1⟩ := hp.v (hs := hs) (ns := ns) (place := i) (by omega)
    have pa : PotAt i 0 (hs ++ [.lst [.int o, .int s, .int 0]]) := ⟨o, s, 0, by rw [← pt.1]; exact List.getElem?_concat_length, o0, o1, s0, s1, by decide, by decide⟩
    have ps : Pots (i + 1) (hs ++ [.lst [.int o, .int s, .int 0]]) := ⟨by rw [List.length_append, pt.1]; rfl, fun j hj => by
      by_cases e : j = i
      · subst e; exact ⟨0, pa⟩
      · obtain ⟨n', q⟩ := pt.2 j (by omega)
        obtain ⟨o', s', c', h1, r⟩ := q.ex
        exact ⟨n', o', s', c', by rw [List.getElem?_append_left (by rw [pt.1]; omega)]; exact h1, r⟩⟩
    obtain ⟨d, h2, er, rfl, dr⟩ := (hr.w (r := i) (by omega) ps pa).ex
    rw [pt.1] at ep
    refine ⟨[some (.frz (ns.map D.int)), some (.int (i : Int))], rfl, W.of (a := .bl true) (hs := h2) (by simp [ep, er]) ⟨rfl, dr⟩⟩) (by rw [List.length_range]; omega)
  obtain ⟨d, h1, ec, ys, h2, en, ea, _⟩ := w.ex
  rw [newL_f] at en
  cases en
  have ey : ys = (List.replicate ys.length true).map .bl := by
    refine List.ext_getElem (by simp) fun i h1 h2 => ?_
    have := ea.all i i ys[i] (by
      have := ea.len
      rw [List.length_range] at this
      rw [List.getElem?_eq_getElem (by rw [List.length_range]; omega), List.getElem_range]) (List.getElem?_eq_getElem h1)
    simp [this]
  have ka : kAll (.fl ys) h1 = .ok (.bl true) h1 := by
    rw [ey, kAll_b]
    simp
  have dst : ∃ h2, leave [] (.ok (.rt (.bl true)) h1) = .ok (.bl true) h2 := by
    unfold leave finD
    dsimp only
    split
    · exact ⟨_, rfl⟩
    · split
      · exact ⟨_, rfl⟩
      · exact ⟨_, rfl⟩
  obtain ⟨h9, dst⟩ := dst
  refine ⟨h9, ?_⟩
  · unfold lawB
    rw [mkFn_v (np := 1) rfl]
    have st0 : startD 2 [.frz (ns.map D.int)] = [some (.frz (ns.map D.int)), none] := rfl
    rw [st0, cRet_v, cF_v, cCons_v, ec, bind_ok, cNil_v, bind_ok, bind_ok, one_v, ka, bind_ok]
    exact dst
/-! pots that a run may look at -/
abbrev Pt (a b c : Int) : Ob := .lst [.int a, .int b, .int c]
theorem Pots.one {hs : List Ob} (p : Pots 1 hs) : ∃ a b c, hs = [Pt a b c] := by
  obtain ⟨n, q⟩ := p.2 0 (by decide)
  obtain ⟨o, s, c, h1, _⟩ := q.ex
  have hl := p.1
  match hs, hl with
  | [x], _ =>
    simp at h1
    exact ⟨o, s, c, by rw [h1]⟩
theorem Pots.two {hs : List Ob} (p : Pots 2 hs) : ∃ d e f a b c, hs = [Pt d e f, Pt a b c] := by
  obtain ⟨n, q⟩ := p.2 0 (by decide)
  obtain ⟨n', q'⟩ := p.2 1 (by decide)
  obtain ⟨o, s, c, h1, _⟩ := q.ex
  obtain ⟨o', s', c', h2, _⟩ := q'.ex
  have hl := p.1
  match hs, hl with
  | [x, y], _ =>
    simp at h1 h2
    exact ⟨o, s, c, o', s', c', by rw [h1, h2]⟩
end
end PL.C

set_option Elab.async false
set_option linter.all false
set_option maxRecDepth 100000
set_option maxHeartbeats 4000000
set_option autoImplicit false
set_option exponentiation.threshold 20000
namespace PL.C
open PySem PySem.Spec PyProof.Rows L2
theorem callK2 {fn : Fn} {f g : CE} {σ : Sl} {hs hs' : List Ob} {a b d : D} (h1 : f σ hs = .ok a hs) (h2 : g σ hs = .ok b hs) (h3 : fn [a, b] hs = .ok d hs') : cCallK 0 2 [0, 1] fn cNil (cCons f (cCons g cNil)) σ hs = .ok d hs' := by
  unfold cCallK
  simp [h1, h2, reord, h3]
section
variable {hs : List Ob} {r n : Nat}
/-- the rows of one lap: what the program tells, and the law's own -/
structure Lap (o p : Own) (x y : D) (q : Rat) (hs : List Ob) (t0 t1 t2 t3 : D) : Prop where
  plus : f_plus_rows [x, y] hs = .ok t0 hs
  less : f_less_rows [x, y] hs = .ok t1 hs
  times : f_times_rows [x, y] hs = .ok t2 hs
  scaled : f_scaled [y, frQ q] hs = .ok t3 hs
  own : ∃ d0 d1 d2 d3 : Own, f__law_row_sum [ownD o, ownD p] hs = .ok (ownD d0) hs ∧ f__law_row_less [ownD o, ownD p] hs = .ok (ownD d1) hs ∧ f__law_row_product [ownD o, ownD p] hs = .ok (ownD d2) hs ∧ f__law_row_scaled [ownD p, frQ q] hs = .ok (ownD d3) hs ∧
    f__law_told_row [ownD d0] hs = .ok t0 hs ∧ f__law_told_row [ownD d1] hs = .ok t1 hs ∧ f__law_told_row [ownD d2] hs = .ok t2 hs ∧ f__law_told_row [ownD d3] hs = .ok t3 hs
  plus' : f_plus_rows [y, x] hs = .ok t0 hs
  times' : f_times_rows [y, x] hs = .ok t2 hs
  back : f_less_rows [t0, y] hs = .ok x hs
  rp0 : ∀ k, Rp (k + 4) 10000 t0
  rp1 : ∀ k, Rp (k + 4) 10000 t1
  rp2 : ∀ k, Rp (k + 4) 10000 t2
  rp3 : ∀ k, Rp (k + 4) 10000 t3
theorem lap_v {o p : Own} {x y : D} {q : Rat} (fl : Flat hs) (ho : Oq 6 6000 6 (-4) 11 o) (hp : Oq 6 6000 6 (-4) 11 p) (X : Rw (qO o) 20 (-4) 11 x) (Y : Rw (qO p) 20 (-4) 11 y) (hq : Gd 6 6000 q) : ∃ t0 t1 t2 t3, Lap o p x y q hs t0 t1 t2 t3 := by
  have sp : Span (-4) 11 := ⟨by decide, by decide, by decide, by decide, by decide⟩
  have sp2 : Span (-8) 21 := ⟨by decide, by decide, by decide, by decide, by decide⟩
  obtain ⟨t0, e0, T0⟩ := rw_plus (hs := hs) X Y sp (by decide) (by decide)
  obtain ⟨t1, e1, T1⟩ := rw_less (hs := hs) X Y sp (by decide) (by decide)
  obtain ⟨t2, e2, T2⟩ := rw_times (hs := hs) (k := 40) (a2 := -8) (b2 := 21) fl X Y ho.toOp hp.toOp sp sp (by decide) (by decide) (by decide) (by decide) (by decide) (by decide) (by decide) (by decide) (by decide) (by decide) (by decide) (by decide)
  obtain ⟨t3, e3, T3⟩ := rw_scaled (hs := hs) Y (hq.bd (i := 20) (by decide) (by decide) (by decide)) sp (by decide) (by decide)
  obtain ⟨d0, l0, D0, v0⟩ := row_sum_v (hs := hs) (i := 40) fl ho.toOp hp.toOp (by decide) (by decide) (by decide) (by decide) (by decide) (by decide) (by decide)
  obtain ⟨d1, l1, D1, v1⟩ := row_less_v (hs := hs) (i := 40) fl ho.toOp hp.toOp (by decide) (by decide) (by decide) (by decide) (by decide) (by decide) (by decide)
  obtain ⟨d2, l2, D2, v2⟩ := row_product_v (hs := hs) (i := 40) fl ho.toOp hp.toOp (by decide) (by decide) (by decide) (by decide) (by decide) (by decide) (by decide) (by decide) (by decide)
  obtain ⟨d3, l3, D3, v3⟩ := rscaled_v (hs := hs) (i := 40) hp.toOp hq (by decide) (by decide) (by decide) (by decide) (by decide) (by decide) (by decide) (by decide) (by decide)
  obtain ⟨u0, m0, U0⟩ := rw_told (hs := hs) (i := 40) D0 sp (by decide) (by decide) (by decide) (by decide) (by decide)
  obtain ⟨u1, m1, U1⟩ := rw_told (hs := hs) (i := 40) D1 sp (by decide) (by decide) (by decide) (by decide) (by decide)
  obtain ⟨u2, m2, U2⟩ := rw_told (hs := hs) (i := 40) D2 ⟨by decide, by decide, by decide, by decide, by decide⟩ (by decide) (by decide) (by decide) (by decide) (by decide)
  obtain ⟨u3, m3, U3⟩ := rw_told (hs := hs) (i := 40) D3 sp (by decide) (by decide) (by decide) (by decide) (by decide)
  have q0 : u0 = t0 := U0.eq T0 (by decide) (by decide) v0
  have q1 : u1 = t1 := U1.eq T1 (by decide) (by decide) v1
  have q2 : u2 = t2 := U2.eq T2 (by decide) (by decide) v2
  have q3 : u3 = t3 := U3.eq T3 (by decide) (by decide) v3
  rw [q0] at m0
  rw [q1] at m1
  rw [q2] at m2
  rw [q3] at m3
  obtain ⟨w0, f0, W0⟩ := rw_plus (hs := hs) Y X sp (by decide) (by decide)
  obtain ⟨w2, f2, W2⟩ := rw_times (hs := hs) (k := 40) (a2 := -8) (b2 := 21) fl Y X hp.toOp ho.toOp sp sp (by decide) (by decide) (by decide) (by decide) (by decide) (by decide) (by decide) (by decide) (by decide) (by decide) (by decide) (by decide)
  obtain ⟨w1, f1, W1⟩ := rw_less (hs := hs) T0 (Y.mono (by decide)) sp (by decide) (by decide)
  have p0 : w0 = t0 := W0.eq T0 (by decide) (by decide) fun m => Rat.add_comm _ _
  have p2 : w2 = t2 := W2.eq T2 (by decide) (by decide) fun m => dot_comm ho.nd hp.nd
  have p1 : w1 = x := W1.eq X (by decide) (by decide) fun m => by grind
  rw [p0] at f0
  rw [p2] at f2
  rw [p1] at f1
  refine ⟨t0, t1, t2, t3, e0, e1, e2, e3, ⟨d0, d1, d2, d3, l0, l1, l2, l3, m0, m1, m2, m3⟩, f0, f2, f1, fun k => ?_, fun k => ?_, fun k => ?_, fun k => ?_⟩
  · exact (T0.rp (k := k) sp (by decide) (by decide) (w := 4000) (by decide) (by decide)).mono (by decide)
  · exact (T1.rp (k := k) sp (by decide) (by decide) (w := 4000) (by decide) (by decide)).mono (by decide)
  · exact (T2.rp (k := k) sp2 (by decide) (by decide) (w := 4000) (by decide) (by decide)).mono (by decide)
  · exact (T3.rp (k := k) sp (by decide) (by decide) (w := 4000) (by decide) (by decide)).mono (by decide)
theorem lap_4 {f i : Int} {W : List D} {o p : Own} {x y t0 t1 t2 t3 : D} {q : Rat} {s9 s10 s11 s12 s13 : Option D} (L : Lap o p x y q hs t0 t1 t2 t3) :
    cSet (.nm 9) (cF (kLst false) (cCons (cCallK 0 2 [0, 1] C.f_plus_rows cNil (cCons (cV 4) (cCons (cV 7) (cNil)))) (cCons (cCallK 0 2 [0, 1] C.f_less_rows cNil (cCons (cV 4) (cCons (cV 7) (cNil)))) (cCons (cCallK 0 2 [0, 1] C.f_times_rows cNil (cCons (cV 4) (cCons (cV 7) (cNil)))) (cCons (cCallK 0 2 [0, 1] C.f_scaled cNil (cCons (cV 7) (cCons (cV 8) (cNil)))) (cNil)))))) [some (.ref r), some (.int f), some (.tup W), some (ownD o), some x, some (.int i), some (ownD p), some y, some (frQ q), s9, s10, s11, s12, s13] hs = .ok (.nx [some (.ref r), some (.int f), some (.tup W), some (ownD o), some x, some (.int i), some (ownD p), some y, some (frQ q), some (.fl [t0, t1, t2, t3]), s10, s11, s12, s13]) hs := by
  rw [cSet_nm, cF_v, cCons_v, callK2 rfl rfl L.plus, bind_ok, cCons_v, callK2 rfl rfl L.less, bind_ok, cCons_v, callK2 rfl rfl L.times, bind_ok, cCons_v, callK2 rfl rfl L.scaled, bind_ok, cNil_v, bind_ok, bind_ok, bind_ok, bind_ok, bind_ok, kLst_v (by simp)]
  rfl
theorem lap_56 {f i : Int} {W : List D} {o p : Own} {x y t0 t1 t2 t3 : D} {q : Rat} {s9 s10 s11 s12 s13 : Option D} (L : Lap o p x y q hs t0 t1 t2 t3) : ∃ s10', cSet (.nm 10) (cF (kLst false) (cCons (cF C.f__law_row_sum (cCons (cV 3) (cCons (cV 6) (cNil)))) (cCons (cF C.f__law_row_less (cCons (cV 3) (cCons (cV 6) (cNil)))) (cCons (cF C.f__law_row_product (cCons (cV 3) (cCons (cV 6) (cNil)))) (cCons (cF C.f__law_row_scaled (cCons (cV 6) (cCons (cV 8) (cNil)))) (cNil)))))) [some (.ref r), some (.int f), some (.tup W), some (ownD o), some x, some (.int i), some (ownD p), some y, some (frQ q), some (.fl [t0, t1, t2, t3]), s10, s11, s12, s13] hs = .ok (.nx [some (.ref r), some (.int f), some (.tup W), some (ownD o), some x, some (.int i), some (ownD p), some y, some (frQ q), some (.fl [t0, t1, t2, t3]), s10', s11, s12, s13]) hs ∧
    cIfS (cReprSame false (cV 9) (cComp false [12] (.nm 12) (iSeq (cV 10)) (cYes) (.lst []) (pLst (cF C.f__law_told_row (cCons (cV 12) (cNil)))))) (cRet (cK (.bl false))) (cNext) [some (.ref r), some (.int f), some (.tup W), some (ownD o), some x, some (.int i), some (ownD p), some y, some (frQ q), some (.fl [t0, t1, t2, t3]), s10', s11, s12, s13] hs = .ok (.nx [some (.ref r), some (.int f), some (.tup W), some (ownD o), some x, some (.int i), some (ownD p), some y, some (frQ q), some (.fl [t0, t1, t2, t3]), s10', s11, s12, s13]) hs := by
  obtain ⟨d0, d1, d2, d3, l0, l1, l2, l3, m0, m1, m2, m3⟩ := L.own
  refine ⟨some (.fl [ownD d0, ownD d1, ownD d2, ownD d3]), ?_, ?_⟩
  · simp [l0, l1, l2, l3, kLst_v, newL]
  · have cv : cComp false [12] (.nm 12) (iSeq (cV 10)) (cYes) (.lst []) (pLst (cF C.f__law_told_row (cCons (cV 12) (cNil)))) [some (.ref r), some (.int f), some (.tup W), some (ownD o), some x, some (.int i), some (ownD p), some y, some (frQ q), some (.fl [t0, t1, t2, t3]), some (.fl [ownD d0, ownD d1, ownD d2, ownD d3]), s11, s12, s13] hs = .ok (.fl [t0, t1, t2, t3]) hs := by
      rw [comp_all (b := false) (fun z : Own × D => ownD z.1) (fun z => z.2) [(d0, t0), (d1, t1), (d2, t2), (d3, t3)] (iSeq_l rfl) (fun z hz => ⟨[some (.ref r), some (.int f), some (.tup W), some (ownD o), some x, some (.int i), some (ownD p), some y, some (frQ q), some (.fl [t0, t1, t2, t3]), some (.fl [ownD d0, ownD d1, ownD d2, ownD d3]), s11, some (ownD z.1), s13], rfl, ?_⟩) (by simp)]
      · rfl
      · simp only [List.mem_cons, List.not_mem_nil, or_false] at hz
        rcases hz with rfl | rfl | rfl | rfl
        · simp [m0]
        · simp [m1]
        · simp [m2]
        · simp [m3]
    have rp : Rp 60 100000 (.fl [t0, t1, t2, t3]) := (Rp.fl (k := 59) (Rps.of (w := 10000) (ds := [t0, t1, t2, t3]) fun d hd => by
      simp only [List.mem_cons, List.not_mem_nil, or_false] at hd
      rcases hd with rfl | rfl | rfl | rfl
      · exact L.rp0 55
      · exact L.rp1 55
      · exact L.rp2 55
      · exact L.rp3 55)).mono (by simp)
    rw [cIfS_v, same_v (d := .fl [t0, t1, t2, t3]) (hs1 := hs) rfl cv rp, bind_ok, bIf_bl]
    rfl
theorem lap_7 {f i : Int} {W : List D} {o p : Own} {x y t0 t1 t2 t3 : D} {q : Rat} {s9 s10 s11 s12 s13 : Option D} (L : Lap o p x y q hs t0 t1 t2 t3) (rx : ∀ k, Rp (k + 4) 10000 x) : cIfS (cOr (cReprSame false (cF kTup (cCons (cF C.f_plus_rows (cCons (cV 7) (cCons (cV 4) (cNil)))) (cCons (cF C.f_times_rows (cCons (cV 7) (cCons (cV 4) (cNil)))) (cNil)))) (cF kTup (cCons (c2 kItem (cV 9) (cK (.int 0))) (cCons (c2 kItem (cV 9) (cK (.int 2))) (cNil))))) (cReprSame false (cF C.f_less_rows (cCons (c2 kItem (cV 9) (cK (.int 0))) (cCons (cV 7) (cNil)))) (cV 4))) (cRet (cK (.bl false))) (cNext) [some (.ref r), some (.int f), some (.tup W), some (ownD o), some x, some (.int i), some (ownD p), some y, some (frQ q), some (.fl [t0, t1, t2, t3]), s10, s11, s12, s13] hs = .ok (.nx [some (.ref r), some (.int f), some (.tup W), some (ownD o), some x, some (.int i), some (ownD p), some y, some (frQ q), some (.fl [t0, t1, t2, t3]), s10, s11, s12, s13]) hs := by
  have k0 : kItem (.fl [t0, t1, t2, t3]) (.int 0) hs = .ok t0 hs := kItem_l (atI_nat (j := 0) rfl)
  have k2 : kItem (.fl [t0, t1, t2, t3]) (.int 2) hs = .ok t2 hs := kItem_l (atI_nat (j := 2) rfl)
  have rp : Rp 60 100000 (.tup [t0, t2]) := (Rp.tup (k := 59) (Rps.of (w := 10000) (ds := [t0, t2]) fun d hd => by
    simp only [List.mem_cons, List.not_mem_nil, or_false] at hd
    rcases hd with rfl | rfl
    · exact L.rp0 55
    · exact L.rp2 55)).mono (by simp)
  have a1 := L.plus'
  have a2 := L.times'
  have a3 := L.back
  have c1 : cReprSame false (cF kTup (cCons (cF C.f_plus_rows (cCons (cV 7) (cCons (cV 4) (cNil)))) (cCons (cF C.f_times_rows (cCons (cV 7) (cCons (cV 4) (cNil)))) (cNil)))) (cF kTup (cCons (c2 kItem (cV 9) (cK (.int 0))) (cCons (c2 kItem (cV 9) (cK (.int 2))) (cNil)))) [some (.ref r), some (.int f), some (.tup W), some (ownD o), some x, some (.int i), some (ownD p), some y, some (frQ q), some (.fl [t0, t1, t2, t3]), s10, s11, s12, s13] hs = .ok (.bl false) hs := same_v (d := .tup [t0, t2]) (hs1 := hs) (by simp [a1, a2]) (by simp [k0, k2]) rp
  have c2 : cReprSame false (cF C.f_less_rows (cCons (c2 kItem (cV 9) (cK (.int 0))) (cCons (cV 7) (cNil)))) (cV 4) [some (.ref r), some (.int f), some (.tup W), some (ownD o), some x, some (.int i), some (ownD p), some y, some (frQ q), some (.fl [t0, t1, t2, t3]), s10, s11, s12, s13] hs = .ok (.bl false) hs := same_v (d := x) (hs1 := hs) (by simp [k0, a3]) rfl ((rx 56).mono (by decide))
  rw [cIfS_v, cOr_v, c1, bind_ok, bIf_bl]
  simp [c2]
theorem k01_7 {tk : Fn} (ht : TakeOk tk) {f : Int} {W0 : List D} {o : Own} {x : D} (fl : Flat hs) (p0 : PotAt r n hs) (hn : n < 2 ^ 50) (ho : Oq 6 6000 6 (-4) 11 o) (X : Rw (qO o) 20 (-4) 11 x) :
    W ((cFor (.nm 5) (iArgs kRng1 (cCons (cK (.int 3)) (cNil))) (cSeq (cSet (.nm 6) (cF (C.f__law_drawn_row tk) (cCons (cV 0) (cCons (cK (.int 5)) (cNil))))) (cSeq (cIfS (c2 kEq (cV 5) (cK (.int 2))) (cSet (.nm 6) (cF C.f__law_cleared (cCons (cF (one (kDict false)) (cCons (cComp false [13, 12] (.tp [.nm 13, .nm 12]) (iSeq (c1 (kItems false) (cV 3))) (cYes) (.lst []) (pLst (cF kTup (cCons (cV 13) (cCons (cIf (c2 kGt (cF tk (cCons (cV 0) (cCons (cK (.int 3)) (cNil)))) (cK (.int 0))) (cF C.f__law_minus (cCons (cV 12) (cNil))) (cV 12)) (cNil)))))) (cNil))) (cNil)))) (cNext)) (cSeq (cPar 7 8 (cCons (cF C.f__law_told_row (cCons (cV 6) (cNil))) (cCons (cF (C.f__law_drawn_fraction tk) (cCons (cV 0) (cCons (cK (.int 4)) (cNil)))) cNil))) (cSeq (cSet (.nm 9) (cF (kLst false) (cCons (cCallK 0 2 [0, 1] C.f_plus_rows cNil (cCons (cV 4) (cCons (cV 7) (cNil)))) (cCons (cCallK 0 2 [0, 1] C.f_less_rows cNil (cCons (cV 4) (cCons (cV 7) (cNil)))) (cCons (cCallK 0 2 [0, 1] C.f_times_rows cNil (cCons (cV 4) (cCons (cV 7) (cNil)))) (cCons (cCallK 0 2 [0, 1] C.f_scaled cNil (cCons (cV 7) (cCons (cV 8) (cNil)))) (cNil))))))) (cSeq (cSet (.nm 10) (cF (kLst false) (cCons (cF C.f__law_row_sum (cCons (cV 3) (cCons (cV 6) (cNil)))) (cCons (cF C.f__law_row_less (cCons (cV 3) (cCons (cV 6) (cNil)))) (cCons (cF C.f__law_row_product (cCons (cV 3) (cCons (cV 6) (cNil)))) (cCons (cF C.f__law_row_scaled (cCons (cV 6) (cCons (cV 8) (cNil)))) (cNil))))))) (cSeq (cIfS (cReprSame false (cV 9) (cComp false [12] (.nm 12) (iSeq (cV 10)) (cYes) (.lst []) (pLst (cF C.f__law_told_row (cCons (cV 12) (cNil)))))) (cRet (cK (.bl false))) (cNext)) (cIfS (cOr (cReprSame false (cF kTup (cCons (cF C.f_plus_rows (cCons (cV 7) (cCons (cV 4) (cNil)))) (cCons (cF C.f_times_rows (cCons (cV 7) (cCons (cV 4) (cNil)))) (cNil)))) (cF kTup (cCons (c2 kItem (cV 9) (cK (.int 0))) (cCons (c2 kItem (cV 9) (cK (.int 2))) (cNil))))) (cReprSame false (cF C.f_less_rows (cCons (c2 kItem (cV 9) (cK (.int 0))) (cCons (cV 7) (cNil)))) (cV 4))) (cRet (cK (.bl false))) (cNext))))))))) [some (.ref r), some (.int f), some (.tup W0), some (ownD o), some x, none, none, none, none, none, none, none, none, none] hs) fun f h => (∃ σ, f = .nx σ) ∧ Drawn r (n + 1200) hs h := by
  have rx := fun k => rp_row (k := k) X
  have w := for_seq (t := .nm 5) (s := iArgs kRng1 (cCons (cK (.int 3)) (cNil))) (σ := [some (.ref r), some (.int f), some (.tup W0), some (ownD o), some x, none, none, none, none, none, none, none, none, none]) (hs := hs) (hs1 := hs) (b := (cSeq (cSet (.nm 6) (cF (C.f__law_drawn_row tk) (cCons (cV 0) (cCons (cK (.int 5)) (cNil))))) (cSeq (cIfS (c2 kEq (cV 5) (cK (.int 2))) (cSet (.nm 6) (cF C.f__law_cleared (cCons (cF (one (kDict false)) (cCons (cComp false [13, 12] (.tp [.nm 13, .nm 12]) (iSeq (c1 (kItems false) (cV 3))) (cYes) (.lst []) (pLst (cF kTup (cCons (cV 13) (cCons (cIf (c2 kGt (cF tk (cCons (cV 0) (cCons (cK (.int 3)) (cNil)))) (cK (.int 0))) (cF C.f__law_minus (cCons (cV 12) (cNil))) (cV 12)) (cNil)))))) (cNil))) (cNil)))) (cNext)) (cSeq (cPar 7 8 (cCons (cF C.f__law_told_row (cCons (cV 6) (cNil))) (cCons (cF (C.f__law_drawn_fraction tk) (cCons (cV 0) (cCons (cK (.int 4)) (cNil)))) cNil))) (cSeq (cSet (.nm 9) (cF (kLst false) (cCons (cCallK 0 2 [0, 1] C.f_plus_rows cNil (cCons (cV 4) (cCons (cV 7) (cNil)))) (cCons (cCallK 0 2 [0, 1] C.f_less_rows cNil (cCons (cV 4) (cCons (cV 7) (cNil)))) (cCons (cCallK 0 2 [0, 1] C.f_times_rows cNil (cCons (cV 4) (cCons (cV 7) (cNil)))) (cCons (cCallK 0 2 [0, 1] C.f_scaled cNil (cCons (cV 7) (cCons (cV 8) (cNil)))) (cNil))))))) (cSeq (cSet (.nm 10) (cF (kLst false) (cCons (cF C.f__law_row_sum (cCons (cV 3) (cCons (cV 6) (cNil)))) (cCons (cF C.f__law_row_less (cCons (cV 3) (cCons (cV 6) (cNil)))) (cCons (cF C.f__law_row_product (cCons (cV 3) (cCons (cV 6) (cNil)))) (cCons (cF C.f__law_row_scaled (cCons (cV 6) (cCons (cV 8) (cNil)))) (cNil))))))) (cSeq (cIfS (cReprSame false (cV 9) (cComp false [12] (.nm 12) (iSeq (cV 10)) (cYes) (.lst []) (pLst (cF C.f__law_told_row (cCons (cV 12) (cNil)))))) (cRet (cK (.bl false))) (cNext)) (cIfS (cOr (cReprSame false (cF kTup (cCons (cF C.f_plus_rows (cCons (cV 7) (cCons (cV 4) (cNil)))) (cCons (cF C.f_times_rows (cCons (cV 7) (cCons (cV 4) (cNil)))) (cNil)))) (cF kTup (cCons (c2 kItem (cV 9) (cK (.int 0))) (cCons (c2 kItem (cV 9) (cK (.int 2))) (cNil))))) (cReprSame false (cF C.f_less_rows (cCons (c2 kItem (cV 9) (cK (.int 0))) (cCons (cV 7) (cNil)))) (cV 4))) (cRet (cK (.bl false))) (cNext))))))))) (fun j : Nat => D.int (j : Int)) (List.range 3)
    (fun j σ h => (∃ s5 s6 s7 s8 s9 s10 s11 s12 s13, σ = [some (.ref r), some (.int f), some (.tup W0), some (ownD o), some x, s5, s6, s7, s8, s9, s10, s11, s12, s13]) ∧ Drawn r (n + 400 * j) hs h) (rng1_w (k := 3) (by simp) (by decide)) ⟨⟨_, _, _, _, _, _, _, _, _, rfl⟩, Drawn.refl p0⟩ (fun j z σ h hz ⟨⟨s5, s6, s7, s8, s9, s10, s11, s12, s13, es⟩, dr⟩ => by
      have jl := (List.getElem?_eq_some_iff.mp hz).1
      rw [List.length_range] at jl
      subst es
      refine ⟨[some (.ref r), some (.int f), some (.tup W0), some (ownD o), some x, some (.int (z : Int)), s6, s7, s8, s9, s10, s11, s12, s13], rfl, ?_⟩
      -- the drawn row
      obtain ⟨d, h1, e1, p1, rfl, P1, dr1⟩ := (drawnq_w ht dr.pot (by omega)).ex
      refine W.seq_eq (σ' := [some (.ref r), some (.int f), some (.tup W0), some (ownD o), some x, some (.int (z : Int)), some (ownD p1), s7, s8, s9, s10, s11, s12, s13]) (hs' := h1) (by simp [e1]) ?_
      -- at the last lap some of the row itself, below nought
      refine W.seq (W.mono (Q := fun g h2 => ∃ p, g = .nx [some (.ref r), some (.int f), some (.tup W0), some (ownD o), some x, some (.int (z : Int)), some (ownD p), s7, s8, s9, s10, s11, s12, s13] ∧ Oq 6 6000 6 (-4) 11 p ∧ Drawn r (n + 400 * j + 300 + 10) h1 h2) ?_ ?_)
      · by_cases c : (z : Int) = 2
        · have m := some_minus_w ht dr1.pot (by omega) ho (σ := [some (.ref r), some (.int f), some (.tup W0), some (ownD o), some x, some (.int (z : Int)), some (ownD p1), s7, s8, s9, s10, s11, s12, s13]) rfl rfl rfl
          rw [cIfS_v]
          have ce : c2 kEq (cV 5) (cK (.int 2)) [some (.ref r), some (.int f), some (.tup W0), some (ownD o), some x, some (.int (z : Int)), some (ownD p1), s7, s8, s9, s10, s11, s12, s13] h1 = .ok (.bl true) h1 := by simp [c]
          rw [ce, bind_ok, bIf_bl, if_pos rfl]
          refine m.mono fun g h2 ⟨p, e, P, d2⟩ => ⟨p, e, P, d2⟩
        · have ce : c2 kEq (cV 5) (cK (.int 2)) [some (.ref r), some (.int f), some (.tup W0), some (ownD o), some x, some (.int (z : Int)), some (ownD p1), s7, s8, s9, s10, s11, s12, s13] h1 = .ok (.bl false) h1 := by simp [c]
          refine W.of (a := .nx [some (.ref r), some (.int f), some (.tup W0), some (ownD o), some x, some (.int (z : Int)), some (ownD p1), s7, s8, s9, s10, s11, s12, s13]) (hs := h1) ?_ ⟨p1, rfl, P1, (Drawn.refl dr1.pot).mono (by omega)⟩
          rw [cIfS_v, ce, bind_ok, bIf_bl]
          rfl
      · intro g h2 ⟨p, e, P, dr2⟩
        refine ⟨_, e, ?_⟩
        obtain ⟨y, ey, Y⟩ := rw_told (hs := h2) (i := 20) P ⟨by decide, by decide, by decide, by decide, by decide⟩ (by decide) (by decide) (by decide) (by decide) (by decide)
        obtain ⟨d, h3, e3, q, rfl, gq, dr3⟩ := (dfrac_w ht (most := 4) dr2.pot (by decide) (by decide) (by omega)).ex
        refine W.seq_eq (σ' := [some (.ref r), some (.int f), some (.tup W0), some (ownD o), some x, some (.int (z : Int)), some (ownD p), some y, some (frQ q), s9, s10, s11, s12, s13]) (hs' := h3) (by simp [ey, e3]) ?_
        have dd := ((dr.trans dr1).trans dr2).trans dr3
        obtain ⟨t0, t1, t2, t3, L⟩ := lap_v (hs := h3) (fl.drawn dd) ho P X Y gq
        refine W.seq_eq (lap_4 L) ?_
        obtain ⟨s10', a5, a6⟩ := lap_56 (s9 := s9) (f := f) (i := (z : Int)) (W := W0) (s10 := s10) (s11 := s11) (s12 := s12) (s13 := s13) L
        refine W.seq_eq a5 (W.seq_eq a6 ?_)
        refine W.of (lap_7 (s9 := s9) L rx) ⟨_, rfl, ⟨_, _, _, _, _, _, _, _, _, rfl⟩, dd.mono (by omega)⟩)
  refine w.mono fun g h ⟨σ', e, _, dr⟩ => ⟨⟨_, e⟩, ?_⟩
  rw [List.length_range] at dr
  exact dr.mono (by omega)
theorem right01_w {tk : Fn} (ht : TakeOk tk) (p : PotAt r n hs) (fl : Flat hs) (hn : n < 2 ^ 40) : W (f__law_right_k01b tk [.ref r] hs) fun d h => d = .bl true ∧ Drawn r (n + 2000) hs h := by
  have body : W (b__law_right_k01b tk [some (.ref r), none, none, none, none, none, none, none, none, none, none, none, none, none] hs) fun g h => g = .rt (.bl true) ∧ Drawn r (n + 2000) hs h := by
    unfold b__law_right_k01b
    obtain ⟨d, h1, e1, f, ws, rfl, f1, f2, lw, hw, dr⟩ := (full_w ht p (by omega)).ex
    refine W.seq_eq (σ' := [some (.ref r), some (.int f), some (.tup (ws.map frD)), none, none, none, none, none, none, none, none, none, none, none]) (hs' := h1) ?_ ?_
    · unfold cSet
      simp [e1]
      try rfl
    refine W.seq_eq (k01_2 ⟨f1, f2⟩ lw hw) ?_
    obtain ⟨x, e3, X⟩ := k01_3 (hs := h1) (r := r) ⟨f1, f2⟩ lw hw
    refine W.seq_eq e3 (W.seq_eq (k01_4 ⟨f1, f2⟩ lw hw rfl X) (W.seq_eq (k01_5 ⟨f1, f2⟩ lw hw rfl X) (W.seq_eq (k01_6 ⟨f1, f2⟩ lw hw rfl X) ?_)))
    have op : Oq 6 6000 6 (-4) 11 (clearF (enumO f ws)) := enum_oq hw lw f1 (by omega)
    refine W.seq ((k01_7 ht (fl.drawn dr) dr.pot (by omega) op X).mono fun g h ⟨⟨σ, e⟩, d2⟩ => ⟨σ, e, W.of (a := .rt (.bl true)) (hs := h) rfl ⟨rfl, (dr.trans d2).mono (by omega)⟩⟩)
  obtain ⟨g, h, e, rfl, dr⟩ := body.ex
  refine W.of (a := .bl true) (hs := h) ?_ ⟨rfl, dr⟩
  unfold f__law_right_k01b
  rw [mkFn_v (np := 1) rfl]
  have st0 : startD 14 [D.ref r] = [some (.ref r), none, none, none, none, none, none, none, none, none, none, none, none, none] := rfl
  rw [st0, e]
  exact leave_d dr
theorem Pots.flat {k : Nat} (p : Pots k hs) : Flat hs := fun o ho m => by
  obtain ⟨i, hi⟩ := List.getElem?_of_mem ho
  have il := (List.getElem?_eq_some_iff.mp hi).1
  obtain ⟨n', q⟩ := p.2 i (by rw [← p.1]; exact il)
  obtain ⟨a, b, c, g, _⟩ := q.ex
  rw [g] at hi
  cases hi
  simp [ltO, ltRs, ltR]
end
end PL.C

set_option Elab.async false
set_option linter.all false
set_option maxRecDepth 100000
set_option maxHeartbeats 4000000
set_option autoImplicit false
set_option exponentiation.threshold 20000
namespace PL.C
open PySem PySem.Spec PyProof.Rows L2
/-! ## k01: whole rows, sums and products -/
theorem right01 {tk : Fn} (ht : TakeOk tk) : RightOk (f__law_right_k01b tk) 3 := ⟨fun {r hs} hr ps pa => (right01_w ht pa ps.flat (by decide)).mono fun d h ⟨e, dr⟩ => ⟨e, ps.drawn dr⟩⟩
theorem tk_01 : TakeOk f__law_take_k01 := takeB_ok (A := 100769) (B := 2111) (C0 := 10559) (D0 := 269) (E0 := 151) (by decide) (by decide) (by decide) (by decide) ⟨by decide, by decide +kernel⟩
theorem pot_01 : PotOk f__law_pot_k01 := potB_ok (A0 := 2447) (B0 := 1811) (C0 := 86069) (D0 := 11131) (E0 := 1459) (by decide) (by decide) (by decide)
theorem law_true_01 (ns : List Int) (h : ns.length ≤ 63) (b : ∀ z ∈ ns, Builtin.Int.intBits z ≤ 1048576) : ∃ hs, f_law_k01b f__law_take_k01 [.frz (ns.map D.int)] [] = .ok (.bl true) hs := lawB_true (lim := 3) (by decide) (by decide) pot_01 (right01 tk_01) ns h b
end PL.C

set_option Elab.async false
set_option linter.all false
set_option maxRecDepth 100000
set_option maxHeartbeats 0
set_option autoImplicit false
namespace PL.L01
open PySem PySem.Spec PySem.Calls PyProof.Rows L2
abbrev pw : Program := PySem.Challenge.pw_earstogether_k01_whole_rows_sums_and_pro
def top (i : Nat) : Stmt := pw.main.body.getD i (.Pass ⟨0, 0, 0, 0⟩)
abbrev k_NOTHING : D := .tup [.int (0), .tup []]
abbrev k_NOUGHT : D := .tup [.int (0), .int (1)]
abbrev k_PAIR_numbers : D := .int (2)
abbrev k_MOST_WORTHS : D := .int (200)
abbrev k_PAIR_rows : D := .int (2)
def cs : List (Str × D) := [("NOTHING", k_NOTHING), ("NOUGHT", k_NOUGHT), ("PAIR_numbers", k_PAIR_numbers), ("MOST_WORTHS", k_MOST_WORTHS), ("PAIR_rows", k_PAIR_rows)]
structure Gs (K : PySem.W.Frag) (mg : Str → Option Value) : Prop where
  one : True := trivial
  k_NOTHING : GC K mg "NOTHING" k_NOTHING
  k_NOUGHT : GC K mg "NOUGHT" k_NOUGHT
  k_PAIR_numbers : GC K mg "PAIR_numbers" k_PAIR_numbers
  k_MOST_WORTHS : GC K mg "MOST_WORTHS" k_MOST_WORTHS
  k_PAIR_rows : GC K mg "PAIR_rows" k_PAIR_rows
/-! _law_take -/
theorem S__law_take : FnScope ["pot", "upto", "prime", "blend", "digit"] ["pot", "upto"] (defScope (top 48)) := ⟨rfl, rfl, rfl, by decide +kernel, rfl, by decide +kernel, by decide +kernel⟩
theorem bn__law_take : BindN (defArgs (top 48)) ["pot", "upto"] := fun _ _ _ _ _ _ _ _ _ _ us hl => match us, hl with | [_, _], _ => rfl
theorem ok__law_take {P : Program} {w : World} {K : PySem.W.Frag} {mg : Str → Option Value} {base : Heap} {TT : List (Addr × Str)} (T : Bl mg) (G : Gs K mg) {f : Addr} {fd : FuncData} (F : FunD K "_law_take" "_law_take" (defArgs (top 48)) (defBody (top 48)) (defScope (top 48)) [] [] f fd) : FnG P w K mg base TT 0 1 f fd ["pot", "upto"] C.f__law_take_k01 := by
  have S := S__law_take
  refine FnG.of (k := 0) (N := ["pot", "upto", "prime", "blend", "digit"]) (ps := ["pot", "upto"]) (cs := C.b__law_take_k01) F S fun cdv A outer s H E hT hr hg => ?_
  exact ss_cons (x_if (st_gt (s_item hr (s_var 0) (s_int)) (s_int)) (ss_cons (x_set (i := 4) S.nd (s_mod (s_intc (a_cons (s_item hr (s_var 0) (s_int)) (a_nil)) T.int) (s_var 1))) (ss_cons (x_setIx hr (s_var 0) (s_int) (s_fdiv (s_item hr (s_var 0) (s_int)) (s_var 1))) (ss_one (x_ret (s_var 4))))) (ss_nil)) (ss_cons (x_setIx hr (s_var 0) (s_int) (s_add (s_item hr (s_var 0) (s_int)) (s_int))) (ss_cons (x_set (i := 2) S.nd (s_item hr (s_lst false (a_cons (s_int) (a_cons (s_int) (a_cons (s_int) (a_cons (s_int) (a_cons (s_int) (a_nil))))))) (s_mod (s_intc (a_cons (s_item hr (s_var 0) (s_int)) (a_nil)) T.int) (s_int)))) (ss_cons (x_set (i := 3) S.nd (s_mod (s_intc (a_cons (s_pow (s_intc (a_cons (s_add (s_add (s_item hr (s_var 0) (s_int)) (s_mul (s_mul (s_int) (s_item hr (s_var 0) (s_int))) (s_item hr (s_var 0) (s_int)))) (s_int)) (a_nil)) T.int) (s_int)) (a_nil)) T.int) (s_var 2))) (ss_one (x_ret (s_mod (s_intc (a_cons (s_fdiv (s_mul (s_var 3) (s_add (s_mod (s_intc (a_cons (s_var 3) (a_nil)) T.int) (s_int)) (s_mul (s_int) (s_item hr (s_var 0) (s_int))))) (s_int)) (a_nil)) T.int) (s_var 1)))))))
/-! _law_common -/
theorem S__law_common : FnScope ["one", "other"] ["one", "other"] (defScope (top 51)) := ⟨rfl, rfl, rfl, by decide +kernel, rfl, by decide +kernel, by decide +kernel⟩
theorem bn__law_common : BindN (defArgs (top 51)) ["one", "other"] := fun _ _ _ _ _ _ _ _ _ _ us hl => match us, hl with | [_, _], _ => rfl
theorem ok__law_common {P : Program} {w : World} {K : PySem.W.Frag} {mg : Str → Option Value} {base : Heap} {TT : List (Addr × Str)} (T : Bl mg) (G : Gs K mg) {f : Addr} {fd : FuncData} (F : FunD K "_law_common" "_law_common" (defArgs (top 51)) (defBody (top 51)) (defScope (top 51)) [] [] f fd) : FnG P w K mg base TT 0 1 f fd ["one", "other"] C.f_common := by
  have S := S__law_common
  refine FnG.of (k := 0) (N := ["one", "other"]) (ps := ["one", "other"]) (cs := C.b_common) F S fun cdv A outer s H E hT hr hg => ?_
  exact ss_cons (x_par (i := 0) (j := 1) rfl S.nd (a_cons (s_abs (a_cons (s_var 0) (a_nil)) T.abs) (a_cons (s_abs (a_cons (s_var 1) (a_nil)) T.abs) a_nil))) (ss_cons (x_while (passes_of rfl) (st_ne hr (s_var 1) (s_int)) (ss_one (x_par (i := 0) (j := 1) rfl S.nd (a_cons (s_var 1) (a_cons (s_mod (s_var 0) (s_var 1)) a_nil))))) (ss_one (x_ret (s_var 0))))
/-! _law_fraction -/
theorem S__law_fraction : FnScope ["top", "bottom", "part"] ["top", "bottom"] (defScope (top 52)) := ⟨rfl, rfl, rfl, by decide +kernel, rfl, by decide +kernel, by decide +kernel⟩
theorem bn__law_fraction : BindN (defArgs (top 52)) ["top", "bottom"] := fun _ _ _ _ _ _ _ _ _ _ us hl => match us, hl with | [_, _], _ => rfl
theorem ok__law_fraction {P : Program} {w : World} {K : PySem.W.Frag} {mg : Str → Option Value} {base : Heap} {TT : List (Addr × Str)} (T : Bl mg) (G : Gs K mg) (c__law_common : Cal P w K mg base TT 0 1 "_law_common" (defArgs (top 51)) ["one", "other"] C.f_common) {f : Addr} {fd : FuncData} (F : FunD K "_law_fraction" "_law_fraction" (defArgs (top 52)) (defBody (top 52)) (defScope (top 52)) [] [] f fd) : FnG P w K mg base TT 0 2 f fd ["top", "bottom"] C.f__law_fraction := by
  have S := S__law_fraction
  refine FnG.of (k := 1) (N := ["top", "bottom", "part"]) (ps := ["top", "bottom"]) (cs := C.b__law_fraction) F S fun cdv A outer s H E hT hr hg => ?_
  exact ss_cons (x_set (i := 2) S.nd (s_call c__law_common hT (hr.mono (by decide)) hg pass_cx bn__law_common (a_cons (s_var 0) (a_cons (s_var 1) (a_nil))))) (ss_one (x_ret (s_if (st_gt (s_var 1) (s_int)) (s_tup (a_cons (s_fdiv (s_var 0) (s_var 2)) (a_cons (s_fdiv (s_var 1) (s_var 2)) (a_nil)))) (s_tup (a_cons (s_fdiv (s_neg (s_var 0)) (s_var 2)) (a_cons (s_fdiv (s_neg (s_var 1)) (s_var 2)) (a_nil)))))))
/-! _law_of -/
theorem S__law_of : FnScope ["pot", "some"] ["pot", "some"] (defScope (top 49)) := ⟨rfl, rfl, rfl, by decide +kernel, rfl, by decide +kernel, by decide +kernel⟩
theorem bn__law_of : BindN (defArgs (top 49)) ["pot", "some"] := fun _ _ _ _ _ _ _ _ _ _ us hl => match us, hl with | [_, _], _ => rfl
theorem ok__law_of {P : Program} {w : World} {K : PySem.W.Frag} {mg : Str → Option Value} {base : Heap} {TT : List (Addr × Str)} (T : Bl mg) (G : Gs K mg) (c__law_take : Cal P w K mg base TT 0 1 "_law_take" (defArgs (top 48)) ["pot", "upto"] C.f__law_take_k01) {f : Addr} {fd : FuncData} (F : FunD K "_law_of" "_law_of" (defArgs (top 49)) (defBody (top 49)) (defScope (top 49)) [] [] f fd) : FnG P w K mg base TT 0 2 f fd ["pot", "some"] (C.f__law_of C.f__law_take_k01) := by
  have S := S__law_of
  refine FnG.of (k := 1) (N := ["pot", "some"]) (ps := ["pot", "some"]) (cs := (C.b__law_of C.f__law_take_k01)) F S fun cdv A outer s H E hT hr hg => ?_
  exact ss_one (x_ret (s_item hr (s_var 1) (s_call c__law_take hT (hr.mono (by decide)) hg pass_cx bn__law_take (a_cons (s_var 0) (a_cons (s_len (a_cons (s_var 1) (a_nil)) T.len) (a_nil))))))
/-! _law_drawn_fraction -/
theorem S__law_drawn_fraction : FnScope ["pot", "most"] ["pot", "most"] (defScope (top 62)) := ⟨rfl, rfl, rfl, by decide +kernel, rfl, by decide +kernel, by decide +kernel⟩
theorem bn__law_drawn_fraction : BindN (defArgs (top 62)) ["pot", "most"] := fun _ _ _ _ _ _ _ _ _ _ us hl => match us, hl with | [_, _], _ => rfl
theorem ok__law_drawn_fraction {P : Program} {w : World} {K : PySem.W.Frag} {mg : Str → Option Value} {base : Heap} {TT : List (Addr × Str)} (T : Bl mg) (G : Gs K mg) (c__law_take : Cal P w K mg base TT 0 1 "_law_take" (defArgs (top 48)) ["pot", "upto"] C.f__law_take_k01) (c__law_fraction : Cal P w K mg base TT 0 2 "_law_fraction" (defArgs (top 52)) ["top", "bottom"] C.f__law_fraction) (c__law_of : Cal P w K mg base TT 0 2 "_law_of" (defArgs (top 49)) ["pot", "some"] (C.f__law_of C.f__law_take_k01)) {f : Addr} {fd : FuncData} (F : FunD K "_law_drawn_fraction" "_law_drawn_fraction" (defArgs (top 62)) (defBody (top 62)) (defScope (top 62)) [] [] f fd) : FnG P w K mg base TT 0 3 f fd ["pot", "most"] (C.f__law_drawn_fraction C.f__law_take_k01) := by
  have S := S__law_drawn_fraction
  refine FnG.of (k := 2) (N := ["pot", "most"]) (ps := ["pot", "most"]) (cs := (C.b__law_drawn_fraction C.f__law_take_k01)) F S fun cdv A outer s H E hT hr hg => ?_
  exact ss_one (x_ret (s_call c__law_fraction hT (hr.mono (by decide)) hg pass_cx bn__law_fraction (a_cons (s_sub (s_call c__law_take hT (hr.mono (by decide)) hg pass_cx bn__law_take (a_cons (s_var 0) (a_cons (s_add (s_mul (s_int) (s_var 1)) (s_int)) (a_nil)))) (s_var 1)) (a_cons (s_call c__law_of hT (hr.mono (by decide)) hg pass_cx bn__law_of (a_cons (s_var 0) (a_cons (s_lst false (a_cons (s_int) (a_cons (s_int) (a_cons (s_int) (a_cons (s_int) (a_cons (s_int) (a_nil))))))) (a_nil)))) (a_nil)))))
/-! _law_full -/
theorem S__law_full : FnScope ["pot", "first", "many", "at"] ["pot"] (defScope (top 64)) := ⟨rfl, rfl, rfl, by decide +kernel, rfl, by decide +kernel, by decide +kernel⟩
theorem bn__law_full : BindN (defArgs (top 64)) ["pot"] := fun _ _ _ _ _ _ _ _ _ _ us hl => match us, hl with | [_], _ => rfl
theorem ok__law_full {P : Program} {w : World} {K : PySem.W.Frag} {mg : Str → Option Value} {base : Heap} {TT : List (Addr × Str)} (T : Bl mg) (G : Gs K mg) (c__law_take : Cal P w K mg base TT 0 1 "_law_take" (defArgs (top 48)) ["pot", "upto"] C.f__law_take_k01) (c__law_drawn_fraction : Cal P w K mg base TT 0 3 "_law_drawn_fraction" (defArgs (top 62)) ["pot", "most"] (C.f__law_drawn_fraction C.f__law_take_k01)) {f : Addr} {fd : FuncData} (F : FunD K "_law_full" "_law_full" (defArgs (top 64)) (defBody (top 64)) (defScope (top 64)) [] [] f fd) : FnG P w K mg base TT 0 4 f fd ["pot"] (C.f__law_full C.f__law_take_k01) := by
  have S := S__law_full
  refine FnG.of (k := 3) (N := ["pot", "first", "many", "at"]) (ps := ["pot"]) (cs := (C.b__law_full C.f__law_take_k01)) F S fun cdv A outer s H E hT hr hg => ?_
  exact ss_cons (x_par (i := 1) (j := 2) rfl S.nd (a_cons (s_sub (s_call c__law_take hT (hr.mono (by decide)) hg pass_cx bn__law_take (a_cons (s_var 0) (a_cons (s_int) (a_nil)))) (s_int)) (a_cons (s_call c__law_take hT (hr.mono (by decide)) hg pass_cx bn__law_take (a_cons (s_var 0) (a_cons (s_int) (a_nil)))) a_nil))) (ss_one (x_ret (s_tup (a_cons (s_var 1) (a_cons (s_tuple (a_cons (s_lc false rfl S.nd (i_rng1 (a_cons (s_var 2) (a_nil)) T.range) (blkOk_by (own := [("at", 3)]) (by kernel_rfl)) (fun _ _ _ _ _ => g_nm 3 S.nd) (fun _ _ _ _ _ => sc_nil) (fun _ _ _ _ _ => s_if (st_gt (s_call c__law_take hT.e0 (hr.mono (by decide)) hg passL bn__law_take (a_cons (s_var 0) (a_cons (s_int) (a_nil)))) (s_int)) (s_call c__law_drawn_fraction hT.e0 (hr.mono (by decide)) hg passL bn__law_drawn_fraction (a_cons (s_var 0) (a_cons (s_int) (a_nil)))) (s_tup (a_cons (s_int) (a_cons (s_int) (a_nil)))))) (a_nil)) T.tuple) (a_nil))))))
/-! _law_cleared -/
theorem S__law_cleared : FnScope ["own", "moment", "amount"] ["own"] (defScope (top 57)) := ⟨rfl, rfl, rfl, by decide +kernel, rfl, by decide +kernel, by decide +kernel⟩
theorem bn__law_cleared : BindN (defArgs (top 57)) ["own"] := fun _ _ _ _ _ _ _ _ _ _ us hl => match us, hl with | [_], _ => rfl
theorem ok__law_cleared {P : Program} {w : World} {K : PySem.W.Frag} {mg : Str → Option Value} {base : Heap} {TT : List (Addr × Str)} (T : Bl mg) (G : Gs K mg) {f : Addr} {fd : FuncData} (F : FunD K "_law_cleared" "_law_cleared" (defArgs (top 57)) (defBody (top 57)) (defScope (top 57)) [] [] f fd) : FnG P w K mg base TT 0 1 f fd ["own"] C.f__law_cleared := by
  have S := S__law_cleared
  refine FnG.of (k := 0) (N := ["own", "moment", "amount"]) (ps := ["own"]) (cs := C.b__law_cleared) F S fun cdv A outer s H E hT hr hg => ?_
  exact ss_one (x_ret (s_dict false rfl (a_cons (s_lc false rfl S.nd (i_seq (s_items false rfl (s_var 0) T.list)) (blkOk_by (own := [("moment", 1), ("amount", 2)]) (by kernel_rfl)) (fun _ _ _ _ _ => g_tp rfl (gs_cons (g_nm 1 S.nd) (gs_cons (g_nm 2 S.nd) (gs_nil)))) (fun _ _ _ _ _ => sc_one (st_ne hr (s_item hr (s_var 2) (s_int)) (s_int))) (fun _ _ _ _ _ => s_tup (a_cons (s_var 1) (a_cons (s_var 2) (a_nil))))) (a_nil)) T.dict))
/-! is_whole -/
theorem S_is_whole : FnScope ["value"] ["value"] (defScope (top 7)) := ⟨rfl, rfl, rfl, by decide +kernel, rfl, by decide +kernel, by decide +kernel⟩
theorem bn_is_whole : BindN (defArgs (top 7)) ["value"] := fun _ _ _ _ _ _ _ _ _ _ us hl => match us, hl with | [_], _ => rfl
theorem ok_is_whole {P : Program} {w : World} {K : PySem.W.Frag} {mg : Str → Option Value} {base : Heap} {TT : List (Addr × Str)} (T : Bl mg) (G : Gs K mg) {f : Addr} {fd : FuncData} (F : FunD K "is_whole" "is_whole" (defArgs (top 7)) (defBody (top 7)) (defScope (top 7)) [] [] f fd) : FnG P w K mg base TT 0 1 f fd ["value"] C.f_is_whole := by
  have S := S_is_whole
  refine FnG.of (k := 0) (N := ["value"]) (ps := ["value"]) (cs := C.b_is_whole) F S fun cdv A outer s H E hT hr hg => ?_
  exact ss_one (x_ret (s_and (s_isi "int" (s_var 0) T.isinstance T.int (by decide +kernel)) (s_one (s_not (s_isi "bool" (s_var 0) T.isinstance T.bool (by decide +kernel))))))
/-! check_whole -/
theorem S_check_whole : FnScope ["value"] ["value"] (defScope (top 27)) := ⟨rfl, rfl, rfl, by decide +kernel, rfl, by decide +kernel, by decide +kernel⟩
theorem bn_check_whole : BindN (defArgs (top 27)) ["value"] := fun _ _ _ _ _ _ _ _ _ _ us hl => match us, hl with | [_], _ => rfl
theorem ok_check_whole {P : Program} {w : World} {K : PySem.W.Frag} {mg : Str → Option Value} {base : Heap} {TT : List (Addr × Str)} (T : Bl mg) (G : Gs K mg) (c_is_whole : Cal P w K mg base TT 0 1 "is_whole" (defArgs (top 7)) ["value"] C.f_is_whole) {f : Addr} {fd : FuncData} (F : FunD K "check_whole" "check_whole" (defArgs (top 27)) (defBody (top 27)) (defScope (top 27)) [] [] f fd) : FnG P w K mg base TT 0 2 f fd ["value"] C.f_check_whole := by
  have S := S_check_whole
  refine FnG.of (k := 1) (N := ["value"]) (ps := ["value"]) (cs := C.b_check_whole) F S fun cdv A outer s H E hT hr hg => ?_
  exact ss_one (x_if (st_not (st_val (s_call c_is_whole hT (hr.mono (by decide)) hg pass_cx bn_is_whole (a_cons (s_var 0) (a_nil))))) (ss_one (x_never)) (ss_nil))
/-! made_row -/
theorem S_made_row : FnScope ["first", "worths", "low", "high"] ["first", "worths"] (defScope (top 28)) := ⟨rfl, rfl, rfl, by decide +kernel, rfl, by decide +kernel, by decide +kernel⟩
theorem bn_made_row : BindN (defArgs (top 28)) ["first", "worths"] := fun _ _ _ _ _ _ _ _ _ _ us hl => match us, hl with | [_, _], _ => rfl
theorem ok_made_row {P : Program} {w : World} {K : PySem.W.Frag} {mg : Str → Option Value} {base : Heap} {TT : List (Addr × Str)} (T : Bl mg) (G : Gs K mg) {f : Addr} {fd : FuncData} (F : FunD K "made_row" "made_row" (defArgs (top 28)) (defBody (top 28)) (defScope (top 28)) [] [] f fd) : FnG P w K mg base TT 0 1 f fd ["first", "worths"] C.f_made_row := by
  have S := S_made_row
  refine FnG.of (k := 0) (N := ["first", "worths", "low", "high"]) (ps := ["first", "worths"]) (cs := C.b_made_row) F S fun cdv A outer s H E hT hr hg => ?_
  exact ss_cons (x_par (i := 2) (j := 3) rfl S.nd (a_cons (s_int) (a_cons (s_len (a_cons (s_var 1) (a_nil)) T.len) a_nil))) (ss_cons (x_while (passes_of rfl) (sw_pt (sw_and (st_lt (s_var 2) (s_var 3)) (sw_and1 (st_eq hr (s_item hr (s_var 1) (s_var 2)) (s_glob G.k_NOUGHT))))) (ss_one (x_augAdd (i := 2) S.nd (s_int)))) (ss_cons (x_while (passes_of rfl) (sw_pt (sw_and (st_lt (s_var 2) (s_var 3)) (sw_and1 (st_eq hr (s_item hr (s_var 1) (s_sub (s_var 3) (s_int))) (s_glob G.k_NOUGHT))))) (ss_one (x_augSub (i := 3) S.nd (s_int)))) (ss_one (x_ret (s_if (st_eq hr (s_var 2) (s_var 3)) (s_glob G.k_NOTHING) (s_tup (a_cons (s_add (s_var 0) (s_var 2)) (a_cons (s_tuple (a_cons (s_cut false (s_var 1) (o_sm (s_var 2)) (o_sm (s_var 3))) (a_nil)) T.tuple) (a_nil)))))))))
/-! is_tuple -/
theorem S_is_tuple : FnScope ["value", "least", "most"] ["value", "least", "most"] (defScope (top 8)) := ⟨rfl, rfl, rfl, by decide +kernel, rfl, by decide +kernel, by decide +kernel⟩
theorem bn_is_tuple : BindN (defArgs (top 8)) ["value", "least", "most"] := fun _ _ _ _ _ _ _ _ _ _ us hl => match us, hl with | [_, _, _], _ => rfl
theorem ok_is_tuple {P : Program} {w : World} {K : PySem.W.Frag} {mg : Str → Option Value} {base : Heap} {TT : List (Addr × Str)} (T : Bl mg) (G : Gs K mg) {f : Addr} {fd : FuncData} (F : FunD K "is_tuple" "is_tuple" (defArgs (top 8)) (defBody (top 8)) (defScope (top 8)) [] [] f fd) : FnG P w K mg base TT 0 1 f fd ["value", "least", "most"] C.f_is_tuple := by
  have S := S_is_tuple
  refine FnG.of (k := 0) (N := ["value", "least", "most"]) (ps := ["value", "least", "most"]) (cs := C.b_is_tuple) F S fun cdv A outer s H E hT hr hg => ?_
  exact ss_one (x_ret (s_and (s_isi "tuple" (s_var 0) T.isinstance T.tuple (by decide +kernel)) (s_and (s_le (s_var 1) (s_len (a_cons (s_var 0) (a_nil)) T.len)) (s_one (s_or (s_isN (s_var 2)) (s_one (s_le (s_len (a_cons (s_var 0) (a_nil)) T.len) (s_var 2))))))))
/-! common -/
theorem S_common : FnScope ["one", "other"] ["one", "other"] (defScope (top 12)) := ⟨rfl, rfl, rfl, by decide +kernel, rfl, by decide +kernel, by decide +kernel⟩
theorem bn_common : BindN (defArgs (top 12)) ["one", "other"] := fun _ _ _ _ _ _ _ _ _ _ us hl => match us, hl with | [_, _], _ => rfl
theorem ok_common {P : Program} {w : World} {K : PySem.W.Frag} {mg : Str → Option Value} {base : Heap} {TT : List (Addr × Str)} (T : Bl mg) (G : Gs K mg) {f : Addr} {fd : FuncData} (F : FunD K "common" "common" (defArgs (top 12)) (defBody (top 12)) (defScope (top 12)) [] [] f fd) : FnG P w K mg base TT 0 1 f fd ["one", "other"] C.f_common := by
  have S := S_common
  refine FnG.of (k := 0) (N := ["one", "other"]) (ps := ["one", "other"]) (cs := C.b_common) F S fun cdv A outer s H E hT hr hg => ?_
  exact ss_cons (x_par (i := 0) (j := 1) rfl S.nd (a_cons (s_abs (a_cons (s_var 0) (a_nil)) T.abs) (a_cons (s_abs (a_cons (s_var 1) (a_nil)) T.abs) a_nil))) (ss_cons (x_while (passes_of rfl) (st_ne hr (s_var 1) (s_int)) (ss_one (x_par (i := 0) (j := 1) rfl S.nd (a_cons (s_var 1) (a_cons (s_mod (s_var 0) (s_var 1)) a_nil))))) (ss_one (x_ret (s_var 0))))
/-! is_fraction -/
theorem S_is_fraction : FnScope ["value", "part"] ["value"] (defScope (top 14)) := ⟨rfl, rfl, rfl, by decide +kernel, rfl, by decide +kernel, by decide +kernel⟩
theorem bn_is_fraction : BindN (defArgs (top 14)) ["value"] := fun _ _ _ _ _ _ _ _ _ _ us hl => match us, hl with | [_], _ => rfl
theorem ok_is_fraction {P : Program} {w : World} {K : PySem.W.Frag} {mg : Str → Option Value} {base : Heap} {TT : List (Addr × Str)} (T : Bl mg) (G : Gs K mg) (c_is_whole : Cal P w K mg base TT 0 1 "is_whole" (defArgs (top 7)) ["value"] C.f_is_whole) (c_is_tuple : Cal P w K mg base TT 0 1 "is_tuple" (defArgs (top 8)) ["value", "least", "most"] C.f_is_tuple) (c_common : Cal P w K mg base TT 0 1 "common" (defArgs (top 12)) ["one", "other"] C.f_common) {f : Addr} {fd : FuncData} (F : FunD K "is_fraction" "is_fraction" (defArgs (top 14)) (defBody (top 14)) (defScope (top 14)) [] [] f fd) : FnG P w K mg base TT 0 2 f fd ["value"] C.f_is_fraction := by
  have S := S_is_fraction
  refine FnG.of (k := 1) (N := ["value", "part"]) (ps := ["value"]) (cs := C.b_is_fraction) F S fun cdv A outer s H E hT hr hg => ?_
  exact ss_cons (x_if (sw_pt (sw_or (st_not (st_val (s_call c_is_tuple hT (hr.mono (by decide)) hg pass_cx bn_is_tuple (a_cons (s_var 0) (a_cons (s_glob G.k_PAIR_numbers) (a_cons (s_glob G.k_PAIR_numbers) (a_nil))))))) (sw_or1 (st_not (st_val (s_all rfl (a_cons (s_lc false rfl S.nd (i_seq (s_var 0)) (blkOk_by (own := [("part", 1)]) (by kernel_rfl)) (fun _ _ _ _ _ => g_nm 1 S.nd) (fun _ _ _ _ _ => sc_nil) (fun _ _ _ _ _ => s_call c_is_whole hT.e0 (hr.mono (by decide)) hg passL bn_is_whole (a_cons (s_var 1) (a_nil)))) (a_nil)) T.all)))))) (ss_one (x_ret (s_bl))) (ss_nil)) (ss_one (x_ret (s_and (s_ge (s_item hr (s_var 0) (s_int)) (s_int)) (s_one (s_eq hr (s_call c_common hT (hr.mono (by decide)) hg pass_cx bn_common (a_cons (s_item hr (s_var 0) (s_int)) (a_cons (s_item hr (s_var 0) (s_int)) (a_nil)))) (s_int))))))
/-! row_of -/
theorem S_row_of : FnScope ["first", "worths", "number"] ["first", "worths"] (defScope (top 36)) := ⟨rfl, rfl, rfl, by decide +kernel, rfl, by decide +kernel, by decide +kernel⟩
theorem bn_row_of : BindN (defArgs (top 36)) ["first", "worths"] := fun _ _ _ _ _ _ _ _ _ _ us hl => match us, hl with | [_, _], _ => rfl
theorem ok_row_of {P : Program} {w : World} {K : PySem.W.Frag} {mg : Str → Option Value} {base : Heap} {TT : List (Addr × Str)} (T : Bl mg) (G : Gs K mg) (c_check_whole : Cal P w K mg base TT 0 2 "check_whole" (defArgs (top 27)) ["value"] C.f_check_whole) (c_made_row : Cal P w K mg base TT 0 1 "made_row" (defArgs (top 28)) ["first", "worths"] C.f_made_row) (c_is_tuple : Cal P w K mg base TT 0 1 "is_tuple" (defArgs (top 8)) ["value", "least", "most"] C.f_is_tuple) (c_is_fraction : Cal P w K mg base TT 0 2 "is_fraction" (defArgs (top 14)) ["value"] C.f_is_fraction) {f : Addr} {fd : FuncData} (F : FunD K "row_of" "row_of" (defArgs (top 36)) (defBody (top 36)) (defScope (top 36)) [] [] f fd) : FnG P w K mg base TT 0 3 f fd ["first", "worths"] C.f_row_of := by
  have S := S_row_of
  refine FnG.of (k := 2) (N := ["first", "worths", "number"]) (ps := ["first", "worths"]) (cs := C.b_row_of) F S fun cdv A outer s H E hT hr hg => ?_
  exact ss_cons (x_expr (s_call c_check_whole hT (hr.mono (by decide)) hg pass_cx bn_check_whole (a_cons (s_var 0) (a_nil)))) (ss_cons (x_if (sw_pt (sw_or (st_not (st_val (s_call c_is_tuple hT (hr.mono (by decide)) hg pass_cx bn_is_tuple (a_cons (s_var 1) (a_cons (s_int) (a_cons (s_glob G.k_MOST_WORTHS) (a_nil))))))) (sw_or1 (st_not (st_val (s_all rfl (a_cons (s_lc false rfl S.nd (i_seq (s_var 1)) (blkOk_by (own := [("number", 2)]) (by kernel_rfl)) (fun _ _ _ _ _ => g_nm 2 S.nd) (fun _ _ _ _ _ => sc_nil) (fun _ _ _ _ _ => s_call c_is_fraction hT.e0 (hr.mono (by decide)) hg passL bn_is_fraction (a_cons (s_var 2) (a_nil)))) (a_nil)) T.all)))))) (ss_one (x_never)) (ss_nil)) (ss_one (x_ret (s_call c_made_row hT (hr.mono (by decide)) hg pass_cx bn_made_row (a_cons (s_var 0) (a_cons (s_var 1) (a_nil)))))))
/-! _law_drawn_row -/
theorem S__law_drawn_row : FnScope ["pot", "most", "first", "at"] ["pot", "most"] (defScope (top 63)) := ⟨rfl, rfl, rfl, by decide +kernel, rfl, by decide +kernel, by decide +kernel⟩
theorem bn__law_drawn_row : BindN (defArgs (top 63)) ["pot", "most"] := fun _ _ _ _ _ _ _ _ _ _ us hl => match us, hl with | [_, _], _ => rfl
theorem ok__law_drawn_row {P : Program} {w : World} {K : PySem.W.Frag} {mg : Str → Option Value} {base : Heap} {TT : List (Addr × Str)} (T : Bl mg) (G : Gs K mg) (c__law_take : Cal P w K mg base TT 0 1 "_law_take" (defArgs (top 48)) ["pot", "upto"] C.f__law_take_k01) (c__law_drawn_fraction : Cal P w K mg base TT 0 3 "_law_drawn_fraction" (defArgs (top 62)) ["pot", "most"] (C.f__law_drawn_fraction C.f__law_take_k01)) (c__law_cleared : Cal P w K mg base TT 0 1 "_law_cleared" (defArgs (top 57)) ["own"] C.f__law_cleared) {f : Addr} {fd : FuncData} (F : FunD K "_law_drawn_row" "_law_drawn_row" (defArgs (top 63)) (defBody (top 63)) (defScope (top 63)) [] [] f fd) : FnG P w K mg base TT 0 4 f fd ["pot", "most"] (C.f__law_drawn_row C.f__law_take_k01) := by
  have S := S__law_drawn_row
  refine FnG.of (k := 3) (N := ["pot", "most", "first", "at"]) (ps := ["pot", "most"]) (cs := (C.b__law_drawn_row C.f__law_take_k01)) F S fun cdv A outer s H E hT hr hg => ?_
  exact ss_cons (x_set (i := 2) S.nd (s_sub (s_call c__law_take hT (hr.mono (by decide)) hg pass_cx bn__law_take (a_cons (s_var 0) (a_cons (s_int) (a_nil)))) (s_int))) (ss_one (x_ret (s_call c__law_cleared hT (hr.mono (by decide)) hg pass_cx bn__law_cleared (a_cons (s_dict false rfl (a_cons (s_lc false rfl S.nd (i_rng1 (a_cons (s_call c__law_take hT (hr.mono (by decide)) hg pass_cx bn__law_take (a_cons (s_var 0) (a_cons (s_add (s_var 1) (s_int)) (a_nil)))) (a_nil)) T.range) (blkOk_by (own := [("at", 3)]) (by kernel_rfl)) (fun _ _ _ _ _ => g_nm 3 S.nd) (fun _ _ _ _ _ => sc_nil) (fun _ _ _ _ _ => s_tup (a_cons (s_add (s_var 2) (s_var 3)) (a_cons (s_call c__law_drawn_fraction hT.e0 (hr.mono (by decide)) hg passL bn__law_drawn_fraction (a_cons (s_var 0) (a_cons (s_int) (a_nil)))) (a_nil))))) (a_nil)) T.dict) (a_nil)))))
/-! is_row -/
theorem S_is_row : FnScope ["value", "number"] ["value"] (defScope (top 25)) := ⟨rfl, rfl, rfl, by decide +kernel, rfl, by decide +kernel, by decide +kernel⟩
theorem bn_is_row : BindN (defArgs (top 25)) ["value"] := fun _ _ _ _ _ _ _ _ _ _ us hl => match us, hl with | [_], _ => rfl
theorem ok_is_row {P : Program} {w : World} {K : PySem.W.Frag} {mg : Str → Option Value} {base : Heap} {TT : List (Addr × Str)} (T : Bl mg) (G : Gs K mg) (c_is_whole : Cal P w K mg base TT 0 1 "is_whole" (defArgs (top 7)) ["value"] C.f_is_whole) (c_is_tuple : Cal P w K mg base TT 0 1 "is_tuple" (defArgs (top 8)) ["value", "least", "most"] C.f_is_tuple) (c_is_fraction : Cal P w K mg base TT 0 2 "is_fraction" (defArgs (top 14)) ["value"] C.f_is_fraction) {f : Addr} {fd : FuncData} (F : FunD K "is_row" "is_row" (defArgs (top 25)) (defBody (top 25)) (defScope (top 25)) [] [] f fd) : FnG P w K mg base TT 0 3 f fd ["value"] C.f_is_row := by
  have S := S_is_row
  refine FnG.of (k := 2) (N := ["value", "number"]) (ps := ["value"]) (cs := C.b_is_row) F S fun cdv A outer s H E hT hr hg => ?_
  exact ss_cons (x_if (sw_pt (sw_or (st_not (st_val (s_call c_is_tuple hT (hr.mono (by decide)) hg pass_cx bn_is_tuple (a_cons (s_var 0) (a_cons (s_glob G.k_PAIR_rows) (a_cons (s_glob G.k_PAIR_rows) (a_nil))))))) (sw_or (st_not (st_val (s_call c_is_whole hT (hr.mono (by decide)) hg pass_cx bn_is_whole (a_cons (s_item hr (s_var 0) (s_int)) (a_nil))))) (sw_or1 (st_not (st_val (s_isi "tuple" (s_item hr (s_var 0) (s_int)) T.isinstance T.tuple (by decide +kernel)))))))) (ss_one (x_ret (s_bl))) (ss_nil)) (ss_cons (x_if (st_eq hr (s_item hr (s_var 0) (s_int)) (s_tup (a_nil))) (ss_one (x_ret (s_eq hr (s_item hr (s_var 0) (s_int)) (s_int)))) (ss_nil)) (ss_cons (x_if (st_not (st_val (s_all rfl (a_cons (s_lc false rfl S.nd (i_seq (s_item hr (s_var 0) (s_int))) (blkOk_by (own := [("number", 1)]) (by kernel_rfl)) (fun _ _ _ _ _ => g_nm 1 S.nd) (fun _ _ _ _ _ => sc_nil) (fun _ _ _ _ _ => s_call c_is_fraction hT.e0 (hr.mono (by decide)) hg passL bn_is_fraction (a_cons (s_var 1) (a_nil)))) (a_nil)) T.all))) (ss_one (x_ret (s_bl))) (ss_nil)) (ss_one (x_ret (s_and (s_ne hr (s_item hr (s_item hr (s_var 0) (s_int)) (s_int)) (s_glob G.k_NOUGHT)) (s_one (s_ne hr (s_item hr (s_item hr (s_var 0) (s_int)) (s_neg (s_int))) (s_glob G.k_NOUGHT))))))))
/-! check_row -/
theorem S_check_row : FnScope ["value"] ["value"] (defScope (top 26)) := ⟨rfl, rfl, rfl, by decide +kernel, rfl, by decide +kernel, by decide +kernel⟩
theorem bn_check_row : BindN (defArgs (top 26)) ["value"] := fun _ _ _ _ _ _ _ _ _ _ us hl => match us, hl with | [_], _ => rfl
theorem ok_check_row {P : Program} {w : World} {K : PySem.W.Frag} {mg : Str → Option Value} {base : Heap} {TT : List (Addr × Str)} (T : Bl mg) (G : Gs K mg) (c_is_row : Cal P w K mg base TT 0 3 "is_row" (defArgs (top 25)) ["value"] C.f_is_row) {f : Addr} {fd : FuncData} (F : FunD K "check_row" "check_row" (defArgs (top 26)) (defBody (top 26)) (defScope (top 26)) [] [] f fd) : FnG P w K mg base TT 0 4 f fd ["value"] C.f_check_row := by
  have S := S_check_row
  refine FnG.of (k := 3) (N := ["value"]) (ps := ["value"]) (cs := C.b_check_row) F S fun cdv A outer s H E hT hr hg => ?_
  exact ss_one (x_if (st_not (st_val (s_call c_is_row hT (hr.mono (by decide)) hg pass_cx bn_is_row (a_cons (s_var 0) (a_nil))))) (ss_one (x_never)) (ss_nil))
/-! spread -/
theorem S_spread : FnScope ["row"] ["row"] (defScope (top 45)) := ⟨rfl, rfl, rfl, by decide +kernel, rfl, by decide +kernel, by decide +kernel⟩
theorem bn_spread : BindN (defArgs (top 45)) ["row"] := fun _ _ _ _ _ _ _ _ _ _ us hl => match us, hl with | [_], _ => rfl
theorem ok_spread {P : Program} {w : World} {K : PySem.W.Frag} {mg : Str → Option Value} {base : Heap} {TT : List (Addr × Str)} (T : Bl mg) (G : Gs K mg) (c_check_row : Cal P w K mg base TT 0 4 "check_row" (defArgs (top 26)) ["value"] C.f_check_row) {f : Addr} {fd : FuncData} (F : FunD K "spread" "spread" (defArgs (top 45)) (defBody (top 45)) (defScope (top 45)) [] [] f fd) : FnG P w K mg base TT 0 5 f fd ["row"] C.f_spread := by
  have S := S_spread
  refine FnG.of (k := 4) (N := ["row"]) (ps := ["row"]) (cs := C.b_spread) F S fun cdv A outer s H E hT hr hg => ?_
  exact ss_cons (x_expr (s_call c_check_row hT (hr.mono (by decide)) hg pass_cx bn_check_row (a_cons (s_var 0) (a_nil)))) (ss_one (x_ret (s_if (st_eq hr (s_var 0) (s_glob G.k_NOTHING)) (s_non) (s_sub (s_len (a_cons (s_item hr (s_var 0) (s_int)) (a_nil)) T.len) (s_int)))))
/-! _law_told_row -/
theorem S__law_told_row : FnScope ["own", "first", "last", "moment"] ["own"] (defScope (top 56)) := ⟨rfl, rfl, rfl, by decide +kernel, rfl, by decide +kernel, by decide +kernel⟩
theorem bn__law_told_row : BindN (defArgs (top 56)) ["own"] := fun _ _ _ _ _ _ _ _ _ _ us hl => match us, hl with | [_], _ => rfl
theorem ok__law_told_row {P : Program} {w : World} {K : PySem.W.Frag} {mg : Str → Option Value} {base : Heap} {TT : List (Addr × Str)} (T : Bl mg) (G : Gs K mg) {f : Addr} {fd : FuncData} (F : FunD K "_law_told_row" "_law_told_row" (defArgs (top 56)) (defBody (top 56)) (defScope (top 56)) [] [] f fd) : FnG P w K mg base TT 0 1 f fd ["own"] C.f__law_told_row := by
  have S := S__law_told_row
  refine FnG.of (k := 0) (N := ["own", "first", "last", "moment"]) (ps := ["own"]) (cs := C.b__law_told_row) F S fun cdv A outer s H E hT hr hg => ?_
  exact ss_cons (x_if (st_eq hr (s_var 0) (s_dct0 false)) (ss_one (x_ret (s_tup (a_cons (s_int) (a_cons (s_tup (a_nil)) (a_nil)))))) (ss_nil)) (ss_cons (x_par (i := 1) (j := 2) rfl S.nd (a_cons (s_min rfl (a_cons (s_list false rfl (a_cons (s_var 0) (a_nil)) T.list) (a_nil)) T.min) (a_cons (s_max rfl (a_cons (s_list false rfl (a_cons (s_var 0) (a_nil)) T.list) (a_nil)) T.max) a_nil))) (ss_one (x_ret (s_tup (a_cons (s_var 1) (a_cons (s_tuple (a_cons (s_lc false rfl S.nd (i_rng2 (a_cons (s_var 1) (a_cons (s_add (s_var 2) (s_int)) (a_nil))) T.range) (blkOk_by (own := [("moment", 3)]) (by kernel_rfl)) (fun _ _ _ _ _ => g_nm 3 S.nd) (fun _ _ _ _ _ => sc_nil) (fun _ _ _ _ _ => s_get2 hr (s_var 0) (s_var 3) (s_tup (a_cons (s_int) (a_cons (s_int) (a_nil)))))) (a_nil)) T.tuple) (a_nil)))))))
/-! span_of -/
theorem S_span_of : FnScope ["one", "other", "first"] ["one", "other"] (defScope (top 30)) := ⟨rfl, rfl, rfl, by decide +kernel, rfl, by decide +kernel, by decide +kernel⟩
theorem bn_span_of : BindN (defArgs (top 30)) ["one", "other"] := fun _ _ _ _ _ _ _ _ _ _ us hl => match us, hl with | [_, _], _ => rfl
theorem ok_span_of {P : Program} {w : World} {K : PySem.W.Frag} {mg : Str → Option Value} {base : Heap} {TT : List (Addr × Str)} (T : Bl mg) (G : Gs K mg) {f : Addr} {fd : FuncData} (F : FunD K "span_of" "span_of" (defArgs (top 30)) (defBody (top 30)) (defScope (top 30)) [] [] f fd) : FnG P w K mg base TT 0 1 f fd ["one", "other"] C.f_span_of := by
  have S := S_span_of
  refine FnG.of (k := 0) (N := ["one", "other", "first"]) (ps := ["one", "other"]) (cs := C.b_span_of) F S fun cdv A outer s H E hT hr hg => ?_
  exact ss_cons (x_set (i := 2) S.nd (s_min2 rfl (a_cons (s_item hr (s_var 0) (s_int)) (a_cons (s_item hr (s_var 1) (s_int)) (a_nil))) T.min)) (ss_one (x_ret (s_tup (a_cons (s_var 2) (a_cons (s_sub (s_max2 rfl (a_cons (s_add (s_item hr (s_var 0) (s_int)) (s_len (a_cons (s_item hr (s_var 0) (s_int)) (a_nil)) T.len)) (a_cons (s_add (s_item hr (s_var 1) (s_int)) (s_len (a_cons (s_item hr (s_var 1) (s_int)) (a_nil)) T.len)) (a_nil))) T.max) (s_var 2)) (a_nil))))))
/-! fraction -/
theorem S_fraction : FnScope ["top", "bottom", "by"] ["top", "bottom"] (defScope (top 13)) := ⟨rfl, rfl, rfl, by decide +kernel, rfl, by decide +kernel, by decide +kernel⟩
theorem bn_fraction : BindN (defArgs (top 13)) ["top", "bottom"] := fun _ _ _ _ _ _ _ _ _ _ us hl => match us, hl with | [_, _], _ => rfl
theorem ok_fraction {P : Program} {w : World} {K : PySem.W.Frag} {mg : Str → Option Value} {base : Heap} {TT : List (Addr × Str)} (T : Bl mg) (G : Gs K mg) (c_common : Cal P w K mg base TT 0 1 "common" (defArgs (top 12)) ["one", "other"] C.f_common) {f : Addr} {fd : FuncData} (F : FunD K "fraction" "fraction" (defArgs (top 13)) (defBody (top 13)) (defScope (top 13)) [] [] f fd) : FnG P w K mg base TT 0 2 f fd ["top", "bottom"] C.f_fraction := by
  have S := S_fraction
  refine FnG.of (k := 1) (N := ["top", "bottom", "by"]) (ps := ["top", "bottom"]) (cs := C.b_fraction) F S fun cdv A outer s H E hT hr hg => ?_
  exact ss_cons (x_set (i := 2) S.nd (s_call c_common hT (hr.mono (by decide)) hg pass_cx bn_common (a_cons (s_var 0) (a_cons (s_var 1) (a_nil))))) (ss_cons (x_set (i := 2) S.nd (s_if (st_gt (s_var 1) (s_int)) (s_var 2) (s_neg (s_var 2)))) (ss_one (x_ret (s_tup (a_cons (s_fdiv (s_var 0) (s_var 2)) (a_cons (s_fdiv (s_var 1) (s_var 2)) (a_nil)))))))
/-! plus_numbers -/
theorem S_plus_numbers : FnScope ["one", "other"] ["one", "other"] (defScope (top 15)) := ⟨rfl, rfl, rfl, by decide +kernel, rfl, by decide +kernel, by decide +kernel⟩
theorem bn_plus_numbers : BindN (defArgs (top 15)) ["one", "other"] := fun _ _ _ _ _ _ _ _ _ _ us hl => match us, hl with | [_, _], _ => rfl
theorem ok_plus_numbers {P : Program} {w : World} {K : PySem.W.Frag} {mg : Str → Option Value} {base : Heap} {TT : List (Addr × Str)} (T : Bl mg) (G : Gs K mg) (c_fraction : Cal P w K mg base TT 0 2 "fraction" (defArgs (top 13)) ["top", "bottom"] C.f_fraction) {f : Addr} {fd : FuncData} (F : FunD K "plus" "plus" (defArgs (top 15)) (defBody (top 15)) (defScope (top 15)) [] [] f fd) : FnG P w K mg base TT 0 3 f fd ["one", "other"] C.f_plus_numbers := by
  have S := S_plus_numbers
  refine FnG.of (k := 2) (N := ["one", "other"]) (ps := ["one", "other"]) (cs := C.b_plus_numbers) F S fun cdv A outer s H E hT hr hg => ?_
  exact ss_one (x_ret (s_call c_fraction hT (hr.mono (by decide)) hg pass_cx bn_fraction (a_cons (s_add (s_mul (s_item hr (s_var 0) (s_int)) (s_item hr (s_var 1) (s_int))) (s_mul (s_item hr (s_var 1) (s_int)) (s_item hr (s_var 0) (s_int)))) (a_cons (s_mul (s_item hr (s_var 0) (s_int)) (s_item hr (s_var 1) (s_int))) (a_nil)))))
/-! worth_at -/
theorem S_worth_at : FnScope ["row", "moment", "at"] ["row", "moment"] (defScope (top 29)) := ⟨rfl, rfl, rfl, by decide +kernel, rfl, by decide +kernel, by decide +kernel⟩
theorem bn_worth_at : BindN (defArgs (top 29)) ["row", "moment"] := fun _ _ _ _ _ _ _ _ _ _ us hl => match us, hl with | [_, _], _ => rfl
theorem ok_worth_at {P : Program} {w : World} {K : PySem.W.Frag} {mg : Str → Option Value} {base : Heap} {TT : List (Addr × Str)} (T : Bl mg) (G : Gs K mg) {f : Addr} {fd : FuncData} (F : FunD K "worth_at" "worth_at" (defArgs (top 29)) (defBody (top 29)) (defScope (top 29)) [] [] f fd) : FnG P w K mg base TT 0 1 f fd ["row", "moment"] C.f_worth_at := by
  have S := S_worth_at
  refine FnG.of (k := 0) (N := ["row", "moment", "at"]) (ps := ["row", "moment"]) (cs := C.b_worth_at) F S fun cdv A outer s H E hT hr hg => ?_
  exact ss_cons (x_set (i := 2) S.nd (s_sub (s_var 1) (s_item hr (s_var 0) (s_int)))) (ss_one (x_ret (s_if (st_lelt (s_int) (s_var 2) (s_len (a_cons (s_item hr (s_var 0) (s_int)) (a_nil)) T.len)) (s_item hr (s_item hr (s_var 0) (s_int)) (s_var 2)) (s_glob G.k_NOUGHT))))
/-! plus_of -/
theorem S_plus_of : FnScope ["one", "other", "first", "many", "moments", "moment"] ["one", "other"] (defScope (top 31)) := ⟨rfl, rfl, rfl, by decide +kernel, rfl, by decide +kernel, by decide +kernel⟩
theorem bn_plus_of : BindN (defArgs (top 31)) ["one", "other"] := fun _ _ _ _ _ _ _ _ _ _ us hl => match us, hl with | [_, _], _ => rfl
theorem ok_plus_of {P : Program} {w : World} {K : PySem.W.Frag} {mg : Str → Option Value} {base : Heap} {TT : List (Addr × Str)} (T : Bl mg) (G : Gs K mg) (c_made_row : Cal P w K mg base TT 0 1 "made_row" (defArgs (top 28)) ["first", "worths"] C.f_made_row) (c_span_of : Cal P w K mg base TT 0 1 "span_of" (defArgs (top 30)) ["one", "other"] C.f_span_of) (c_plus_numbers : Cal P w K mg base TT 0 3 "plus_numbers" (defArgs (top 15)) ["one", "other"] C.f_plus_numbers) (c_worth_at : Cal P w K mg base TT 0 1 "worth_at" (defArgs (top 29)) ["row", "moment"] C.f_worth_at) {f : Addr} {fd : FuncData} (F : FunD K "plus_of" "plus_of" (defArgs (top 31)) (defBody (top 31)) (defScope (top 31)) [] [] f fd) : FnG P w K mg base TT 0 4 f fd ["one", "other"] C.f_plus_of := by
  have S := S_plus_of
  refine FnG.of (k := 3) (N := ["one", "other", "first", "many", "moments", "moment"]) (ps := ["one", "other"]) (cs := C.b_plus_of) F S fun cdv A outer s H E hT hr hg => ?_
  exact ss_cons (x_if (sw_pt (sw_or (st_eq hr (s_var 0) (s_glob G.k_NOTHING)) (sw_or1 (st_eq hr (s_var 1) (s_glob G.k_NOTHING))))) (ss_one (x_ret (s_if (st_eq hr (s_var 0) (s_glob G.k_NOTHING)) (s_var 1) (s_var 0)))) (ss_nil)) (ss_cons (x_asg (s_call c_span_of hT (hr.mono (by decide)) hg pass_cx bn_span_of (a_cons (s_var 0) (a_cons (s_var 1) (a_nil)))) (g_tp rfl (gs_cons (g_nm 2 S.nd) (gs_cons (g_nm 3 S.nd) (gs_nil))))) (ss_cons (x_set (i := 4) S.nd (s_listRg2 false rfl (s_var 2) (s_add (s_var 2) (s_var 3)) T.list T.range)) (ss_one (x_ret (s_call c_made_row hT (hr.mono (by decide)) hg pass_cx bn_made_row (a_cons (s_var 2) (a_cons (s_lc false rfl S.nd (i_seq (s_var 4)) (blkOk_by (own := [("moment", 5)]) (by kernel_rfl)) (fun _ _ _ _ _ => g_nm 5 S.nd) (fun _ _ _ _ _ => sc_nil) (fun _ _ _ _ _ => s_call c_plus_numbers hT.e0 (hr.mono (by decide)) hg passL bn_plus_numbers (a_cons (s_call c_worth_at hT.e0 (hr.mono (by decide)) hg passL bn_worth_at (a_cons (s_var 0) (a_cons (s_var 5) (a_nil)))) (a_cons (s_call c_worth_at hT.e0 (hr.mono (by decide)) hg passL bn_worth_at (a_cons (s_var 1) (a_cons (s_var 5) (a_nil)))) (a_nil))))) (a_nil))))))))
/-! plus_rows -/
theorem S_plus_rows : FnScope ["one", "other"] ["one", "other"] (defScope (top 37)) := ⟨rfl, rfl, rfl, by decide +kernel, rfl, by decide +kernel, by decide +kernel⟩
theorem bn_plus_rows : BindN (defArgs (top 37)) ["one", "other"] := fun _ _ _ _ _ _ _ _ _ _ us hl => match us, hl with | [_, _], _ => rfl
theorem ok_plus_rows {P : Program} {w : World} {K : PySem.W.Frag} {mg : Str → Option Value} {base : Heap} {TT : List (Addr × Str)} (T : Bl mg) (G : Gs K mg) (c_check_row : Cal P w K mg base TT 0 4 "check_row" (defArgs (top 26)) ["value"] C.f_check_row) (c_plus_of : Cal P w K mg base TT 0 4 "plus_of" (defArgs (top 31)) ["one", "other"] C.f_plus_of) {f : Addr} {fd : FuncData} (F : FunD K "plus" "plus" (defArgs (top 37)) (defBody (top 37)) (defScope (top 37)) [] [] f fd) : FnG P w K mg base TT 0 5 f fd ["one", "other"] C.f_plus_rows := by
  have S := S_plus_rows
  refine FnG.of (k := 4) (N := ["one", "other"]) (ps := ["one", "other"]) (cs := C.b_plus_rows) F S fun cdv A outer s H E hT hr hg => ?_
  exact ss_cons (x_expr (s_call c_check_row hT (hr.mono (by decide)) hg pass_cx bn_check_row (a_cons (s_var 0) (a_nil)))) (ss_cons (x_expr (s_call c_check_row hT (hr.mono (by decide)) hg pass_cx bn_check_row (a_cons (s_var 1) (a_nil)))) (ss_one (x_ret (s_call c_plus_of hT (hr.mono (by decide)) hg pass_cx bn_plus_of (a_cons (s_var 0) (a_cons (s_var 1) (a_nil)))))))
/-! less_numbers -/
theorem S_less_numbers : FnScope ["one", "other"] ["one", "other"] (defScope (top 17)) := ⟨rfl, rfl, rfl, by decide +kernel, rfl, by decide +kernel, by decide +kernel⟩
theorem bn_less_numbers : BindN (defArgs (top 17)) ["one", "other"] := fun _ _ _ _ _ _ _ _ _ _ us hl => match us, hl with | [_, _], _ => rfl
theorem ok_less_numbers {P : Program} {w : World} {K : PySem.W.Frag} {mg : Str → Option Value} {base : Heap} {TT : List (Addr × Str)} (T : Bl mg) (G : Gs K mg) (c_fraction : Cal P w K mg base TT 0 2 "fraction" (defArgs (top 13)) ["top", "bottom"] C.f_fraction) {f : Addr} {fd : FuncData} (F : FunD K "less" "less" (defArgs (top 17)) (defBody (top 17)) (defScope (top 17)) [] [] f fd) : FnG P w K mg base TT 0 3 f fd ["one", "other"] C.f_less_numbers := by
  have S := S_less_numbers
  refine FnG.of (k := 2) (N := ["one", "other"]) (ps := ["one", "other"]) (cs := C.b_less_numbers) F S fun cdv A outer s H E hT hr hg => ?_
  exact ss_one (x_ret (s_call c_fraction hT (hr.mono (by decide)) hg pass_cx bn_fraction (a_cons (s_sub (s_mul (s_item hr (s_var 0) (s_int)) (s_item hr (s_var 1) (s_int))) (s_mul (s_item hr (s_var 1) (s_int)) (s_item hr (s_var 0) (s_int)))) (a_cons (s_mul (s_item hr (s_var 0) (s_int)) (s_item hr (s_var 1) (s_int))) (a_nil)))))
/-! less_of -/
theorem S_less_of : FnScope ["one", "other", "first", "many", "moments", "moment"] ["one", "other"] (defScope (top 32)) := ⟨rfl, rfl, rfl, by decide +kernel, rfl, by decide +kernel, by decide +kernel⟩
theorem bn_less_of : BindN (defArgs (top 32)) ["one", "other"] := fun _ _ _ _ _ _ _ _ _ _ us hl => match us, hl with | [_, _], _ => rfl
theorem ok_less_of {P : Program} {w : World} {K : PySem.W.Frag} {mg : Str → Option Value} {base : Heap} {TT : List (Addr × Str)} (T : Bl mg) (G : Gs K mg) (c_made_row : Cal P w K mg base TT 0 1 "made_row" (defArgs (top 28)) ["first", "worths"] C.f_made_row) (c_span_of : Cal P w K mg base TT 0 1 "span_of" (defArgs (top 30)) ["one", "other"] C.f_span_of) (c_worth_at : Cal P w K mg base TT 0 1 "worth_at" (defArgs (top 29)) ["row", "moment"] C.f_worth_at) (c_less_numbers : Cal P w K mg base TT 0 3 "less_numbers" (defArgs (top 17)) ["one", "other"] C.f_less_numbers) {f : Addr} {fd : FuncData} (F : FunD K "less_of" "less_of" (defArgs (top 32)) (defBody (top 32)) (defScope (top 32)) [] [] f fd) : FnG P w K mg base TT 0 4 f fd ["one", "other"] C.f_less_of := by
  have S := S_less_of
  refine FnG.of (k := 3) (N := ["one", "other", "first", "many", "moments", "moment"]) (ps := ["one", "other"]) (cs := C.b_less_of) F S fun cdv A outer s H E hT hr hg => ?_
  exact ss_cons (x_if (st_eq hr (s_var 1) (s_glob G.k_NOTHING)) (ss_one (x_ret (s_var 0))) (ss_nil)) (ss_cons (x_asg (s_if (st_ne hr (s_var 0) (s_glob G.k_NOTHING)) (s_call c_span_of hT (hr.mono (by decide)) hg pass_cx bn_span_of (a_cons (s_var 0) (a_cons (s_var 1) (a_nil)))) (s_tup (a_cons (s_item hr (s_var 1) (s_int)) (a_cons (s_len (a_cons (s_item hr (s_var 1) (s_int)) (a_nil)) T.len) (a_nil))))) (g_tp rfl (gs_cons (g_nm 2 S.nd) (gs_cons (g_nm 3 S.nd) (gs_nil))))) (ss_cons (x_set (i := 4) S.nd (s_listRg2 false rfl (s_var 2) (s_add (s_var 2) (s_var 3)) T.list T.range)) (ss_one (x_ret (s_call c_made_row hT (hr.mono (by decide)) hg pass_cx bn_made_row (a_cons (s_var 2) (a_cons (s_lc false rfl S.nd (i_seq (s_var 4)) (blkOk_by (own := [("moment", 5)]) (by kernel_rfl)) (fun _ _ _ _ _ => g_nm 5 S.nd) (fun _ _ _ _ _ => sc_nil) (fun _ _ _ _ _ => s_call c_less_numbers hT.e0 (hr.mono (by decide)) hg passL bn_less_numbers (a_cons (s_call c_worth_at hT.e0 (hr.mono (by decide)) hg passL bn_worth_at (a_cons (s_var 0) (a_cons (s_var 5) (a_nil)))) (a_cons (s_call c_worth_at hT.e0 (hr.mono (by decide)) hg passL bn_worth_at (a_cons (s_var 1) (a_cons (s_var 5) (a_nil)))) (a_nil))))) (a_nil))))))))
/-! less_rows -/
theorem S_less_rows : FnScope ["one", "other"] ["one", "other"] (defScope (top 39)) := ⟨rfl, rfl, rfl, by decide +kernel, rfl, by decide +kernel, by decide +kernel⟩
theorem bn_less_rows : BindN (defArgs (top 39)) ["one", "other"] := fun _ _ _ _ _ _ _ _ _ _ us hl => match us, hl with | [_, _], _ => rfl
theorem ok_less_rows {P : Program} {w : World} {K : PySem.W.Frag} {mg : Str → Option Value} {base : Heap} {TT : List (Addr × Str)} (T : Bl mg) (G : Gs K mg) (c_check_row : Cal P w K mg base TT 0 4 "check_row" (defArgs (top 26)) ["value"] C.f_check_row) (c_less_of : Cal P w K mg base TT 0 4 "less_of" (defArgs (top 32)) ["one", "other"] C.f_less_of) {f : Addr} {fd : FuncData} (F : FunD K "less" "less" (defArgs (top 39)) (defBody (top 39)) (defScope (top 39)) [] [] f fd) : FnG P w K mg base TT 0 5 f fd ["one", "other"] C.f_less_rows := by
  have S := S_less_rows
  refine FnG.of (k := 4) (N := ["one", "other"]) (ps := ["one", "other"]) (cs := C.b_less_rows) F S fun cdv A outer s H E hT hr hg => ?_
  exact ss_cons (x_expr (s_call c_check_row hT (hr.mono (by decide)) hg pass_cx bn_check_row (a_cons (s_var 0) (a_nil)))) (ss_cons (x_expr (s_call c_check_row hT (hr.mono (by decide)) hg pass_cx bn_check_row (a_cons (s_var 1) (a_nil)))) (ss_one (x_ret (s_call c_less_of hT (hr.mono (by decide)) hg pass_cx bn_less_of (a_cons (s_var 0) (a_cons (s_var 1) (a_nil)))))))
/-! whole_worths -/
theorem S_whole_worths : FnScope ["row", "bottom", "top", "under"] ["row"] (defScope (top 33)) := ⟨rfl, rfl, rfl, by decide +kernel, rfl, by decide +kernel, by decide +kernel⟩
theorem bn_whole_worths : BindN (defArgs (top 33)) ["row"] := fun _ _ _ _ _ _ _ _ _ _ us hl => match us, hl with | [_], _ => rfl
theorem ok_whole_worths {P : Program} {w : World} {K : PySem.W.Frag} {mg : Str → Option Value} {base : Heap} {TT : List (Addr × Str)} (T : Bl mg) (G : Gs K mg) (c_common : Cal P w K mg base TT 0 1 "common" (defArgs (top 12)) ["one", "other"] C.f_common) {f : Addr} {fd : FuncData} (F : FunD K "whole_worths" "whole_worths" (defArgs (top 33)) (defBody (top 33)) (defScope (top 33)) [] [] f fd) : FnG P w K mg base TT 0 2 f fd ["row"] C.f_whole_worths := by
  have S := S_whole_worths
  refine FnG.of (k := 1) (N := ["row", "bottom", "top", "under"]) (ps := ["row"]) (cs := C.b_whole_worths) F S fun cdv A outer s H E hT hr hg => ?_
  exact ss_cons (x_set (i := 1) S.nd (s_int)) (ss_cons (x_for (passes_of rfl) rfl (i_seq (s_item hr (s_var 0) (s_int))) (g_tp rfl (gs_cons (g_nm 2 S.nd) (gs_cons (g_nm 3 S.nd) (gs_nil)))) (ss_one (x_set (i := 1) S.nd (s_mul (s_fdiv (s_var 1) (s_call c_common hT (hr.mono (by decide)) hg pass_cx bn_common (a_cons (s_var 1) (a_cons (s_var 3) (a_nil))))) (s_var 3))))) (ss_one (x_ret (s_tup (a_cons (s_lc false rfl S.nd (i_seq (s_item hr (s_var 0) (s_int))) (blkOk_by (own := [("top", 2), ("under", 3)]) (by kernel_rfl)) (fun _ _ _ _ _ => g_tp rfl (gs_cons (g_nm 2 S.nd) (gs_cons (g_nm 3 S.nd) (gs_nil)))) (fun _ _ _ _ _ => sc_nil) (fun _ _ _ _ _ => s_mul (s_var 2) (s_fdiv (s_var 1) (s_var 3)))) (a_cons (s_var 1) (a_nil)))))))
/-! times_of -/
theorem S_times_of : FnScope ["one", "other", "mine", "bottom", "its", "under", "found", "at", "number", "place", "factor"] ["one", "other"] (defScope (top 34)) := ⟨rfl, rfl, rfl, by decide +kernel, rfl, by decide +kernel, by decide +kernel⟩
theorem bn_times_of : BindN (defArgs (top 34)) ["one", "other"] := fun _ _ _ _ _ _ _ _ _ _ us hl => match us, hl with | [_, _], _ => rfl
theorem ok_times_of {P : Program} {w : World} {K : PySem.W.Frag} {mg : Str → Option Value} {base : Heap} {TT : List (Addr × Str)} (T : Bl mg) (G : Gs K mg) (c_fraction : Cal P w K mg base TT 0 2 "fraction" (defArgs (top 13)) ["top", "bottom"] C.f_fraction) (c_whole_worths : Cal P w K mg base TT 0 2 "whole_worths" (defArgs (top 33)) ["row"] C.f_whole_worths) {f : Addr} {fd : FuncData} (F : FunD K "times_of" "times_of" (defArgs (top 34)) (defBody (top 34)) (defScope (top 34)) [] [] f fd) : FnG P w K mg base TT 0 3 f fd ["one", "other"] C.f_times_of := by
  have S := S_times_of
  refine FnG.of (k := 2) (N := ["one", "other", "mine", "bottom", "its", "under", "found", "at", "number", "place", "factor"]) (ps := ["one", "other"]) (cs := C.b_times_of) F S fun cdv A outer s H E hT hr hg => ?_
  exact ss_cons (x_if (sw_pt (sw_or (st_eq hr (s_var 0) (s_glob G.k_NOTHING)) (sw_or1 (st_eq hr (s_var 1) (s_glob G.k_NOTHING))))) (ss_one (x_ret (s_glob G.k_NOTHING))) (ss_nil)) (ss_cons (x_asg (s_call c_whole_worths hT (hr.mono (by decide)) hg pass_cx bn_whole_worths (a_cons (s_var 0) (a_nil))) (g_tp rfl (gs_cons (g_nm 2 S.nd) (gs_cons (g_nm 3 S.nd) (gs_nil))))) (ss_cons (x_asg (s_call c_whole_worths hT (hr.mono (by decide)) hg pass_cx bn_whole_worths (a_cons (s_var 1) (a_nil))) (g_tp rfl (gs_cons (g_nm 4 S.nd) (gs_cons (g_nm 5 S.nd) (gs_nil))))) (ss_cons (x_setLc (i := 6) true rfl S.nd (i_seq (s_listRg1 false rfl (s_sub (s_add (s_len (a_cons (s_var 2) (a_nil)) T.len) (s_len (a_cons (s_var 4) (a_nil)) T.len)) (s_int)) T.list T.range)) (blkOk_by (own := [("number", 8)]) (by kernel_rfl)) (fun _ _ _ _ _ => g_nm 8 S.nd) (fun _ _ _ _ _ => sc_nil) (fun _ _ _ _ _ => s_int)) (ss_cons (x_for (passes_of rfl) rfl (i_enum (a_cons (s_var 2) (a_nil)) T.enumerate) (g_tp rfl (gs_cons (g_nm 7 S.nd) (gs_cons (g_nm 8 S.nd) (gs_nil)))) (ss_one (x_for (passes_of rfl) rfl (i_enum (a_cons (s_var 4) (a_nil)) T.enumerate) (g_tp rfl (gs_cons (g_nm 9 S.nd) (gs_cons (g_nm 10 S.nd) (gs_nil)))) (ss_one (x_augIxAdd hr (s_var 6) (s_add (s_var 7) (s_var 9)) (s_mul (s_var 8) (s_var 10))))))) (ss_one (x_ret (s_tup (a_cons (s_add (s_item hr (s_var 0) (s_int)) (s_item hr (s_var 1) (s_int))) (a_cons (s_tuple (a_cons (s_lc false rfl S.nd (i_seq (s_var 6)) (blkOk_by (own := [("number", 8)]) (by kernel_rfl)) (fun _ _ _ _ _ => g_nm 8 S.nd) (fun _ _ _ _ _ => sc_nil) (fun _ _ _ _ _ => s_call c_fraction hT.e0 (hr.mono (by decide)) hg passL bn_fraction (a_cons (s_var 8) (a_cons (s_mul (s_var 3) (s_var 5)) (a_nil))))) (a_nil)) T.tuple) (a_nil))))))))))
/-! times_rows -/
theorem S_times_rows : FnScope ["one", "other"] ["one", "other"] (defScope (top 41)) := ⟨rfl, rfl, rfl, by decide +kernel, rfl, by decide +kernel, by decide +kernel⟩
theorem bn_times_rows : BindN (defArgs (top 41)) ["one", "other"] := fun _ _ _ _ _ _ _ _ _ _ us hl => match us, hl with | [_, _], _ => rfl
theorem ok_times_rows {P : Program} {w : World} {K : PySem.W.Frag} {mg : Str → Option Value} {base : Heap} {TT : List (Addr × Str)} (T : Bl mg) (G : Gs K mg) (c_check_row : Cal P w K mg base TT 0 4 "check_row" (defArgs (top 26)) ["value"] C.f_check_row) (c_times_of : Cal P w K mg base TT 0 3 "times_of" (defArgs (top 34)) ["one", "other"] C.f_times_of) {f : Addr} {fd : FuncData} (F : FunD K "times" "times" (defArgs (top 41)) (defBody (top 41)) (defScope (top 41)) [] [] f fd) : FnG P w K mg base TT 0 5 f fd ["one", "other"] C.f_times_rows := by
  have S := S_times_rows
  refine FnG.of (k := 4) (N := ["one", "other"]) (ps := ["one", "other"]) (cs := C.b_times_rows) F S fun cdv A outer s H E hT hr hg => ?_
  exact ss_cons (x_expr (s_call c_check_row hT (hr.mono (by decide)) hg pass_cx bn_check_row (a_cons (s_var 0) (a_nil)))) (ss_cons (x_expr (s_call c_check_row hT (hr.mono (by decide)) hg pass_cx bn_check_row (a_cons (s_var 1) (a_nil)))) (ss_one (x_ret (s_call c_times_of hT (hr.mono (by decide)) hg pass_cx bn_times_of (a_cons (s_var 0) (a_cons (s_var 1) (a_nil)))))))
/-! times_numbers -/
theorem S_times_numbers : FnScope ["one", "other"] ["one", "other"] (defScope (top 19)) := ⟨rfl, rfl, rfl, by decide +kernel, rfl, by decide +kernel, by decide +kernel⟩
theorem bn_times_numbers : BindN (defArgs (top 19)) ["one", "other"] := fun _ _ _ _ _ _ _ _ _ _ us hl => match us, hl with | [_, _], _ => rfl
theorem ok_times_numbers {P : Program} {w : World} {K : PySem.W.Frag} {mg : Str → Option Value} {base : Heap} {TT : List (Addr × Str)} (T : Bl mg) (G : Gs K mg) (c_fraction : Cal P w K mg base TT 0 2 "fraction" (defArgs (top 13)) ["top", "bottom"] C.f_fraction) {f : Addr} {fd : FuncData} (F : FunD K "times" "times" (defArgs (top 19)) (defBody (top 19)) (defScope (top 19)) [] [] f fd) : FnG P w K mg base TT 0 3 f fd ["one", "other"] C.f_times_numbers := by
  have S := S_times_numbers
  refine FnG.of (k := 2) (N := ["one", "other"]) (ps := ["one", "other"]) (cs := C.b_times_numbers) F S fun cdv A outer s H E hT hr hg => ?_
  exact ss_one (x_ret (s_call c_fraction hT (hr.mono (by decide)) hg pass_cx bn_fraction (a_cons (s_mul (s_item hr (s_var 0) (s_int)) (s_item hr (s_var 1) (s_int))) (a_cons (s_mul (s_item hr (s_var 0) (s_int)) (s_item hr (s_var 1) (s_int))) (a_nil)))))
/-! scaled_of -/
theorem S_scaled_of : FnScope ["row", "by", "number"] ["row", "by"] (defScope (top 35)) := ⟨rfl, rfl, rfl, by decide +kernel, rfl, by decide +kernel, by decide +kernel⟩
theorem bn_scaled_of : BindN (defArgs (top 35)) ["row", "by"] := fun _ _ _ _ _ _ _ _ _ _ us hl => match us, hl with | [_, _], _ => rfl
theorem ok_scaled_of {P : Program} {w : World} {K : PySem.W.Frag} {mg : Str → Option Value} {base : Heap} {TT : List (Addr × Str)} (T : Bl mg) (G : Gs K mg) (c_times_numbers : Cal P w K mg base TT 0 3 "times_numbers" (defArgs (top 19)) ["one", "other"] C.f_times_numbers) {f : Addr} {fd : FuncData} (F : FunD K "scaled_of" "scaled_of" (defArgs (top 35)) (defBody (top 35)) (defScope (top 35)) [] [] f fd) : FnG P w K mg base TT 0 4 f fd ["row", "by"] C.f_scaled_of := by
  have S := S_scaled_of
  refine FnG.of (k := 3) (N := ["row", "by", "number"]) (ps := ["row", "by"]) (cs := C.b_scaled_of) F S fun cdv A outer s H E hT hr hg => ?_
  exact ss_cons (x_if (st_eq hr (s_var 1) (s_glob G.k_NOUGHT)) (ss_one (x_ret (s_glob G.k_NOTHING))) (ss_nil)) (ss_one (x_ret (s_tup (a_cons (s_item hr (s_var 0) (s_int)) (a_cons (s_tuple (a_cons (s_lc false rfl S.nd (i_seq (s_item hr (s_var 0) (s_int))) (blkOk_by (own := [("number", 2)]) (by kernel_rfl)) (fun _ _ _ _ _ => g_nm 2 S.nd) (fun _ _ _ _ _ => sc_nil) (fun _ _ _ _ _ => s_call c_times_numbers hT.e0 (hr.mono (by decide)) hg passL bn_times_numbers (a_cons (s_var 2) (a_cons (s_var 1) (a_nil))))) (a_nil)) T.tuple) (a_nil))))))
/-! scaled -/
theorem S_scaled : FnScope ["row", "by"] ["row", "by"] (defScope (top 43)) := ⟨rfl, rfl, rfl, by decide +kernel, rfl, by decide +kernel, by decide +kernel⟩
theorem bn_scaled : BindN (defArgs (top 43)) ["row", "by"] := fun _ _ _ _ _ _ _ _ _ _ us hl => match us, hl with | [_, _], _ => rfl
theorem ok_scaled {P : Program} {w : World} {K : PySem.W.Frag} {mg : Str → Option Value} {base : Heap} {TT : List (Addr × Str)} (T : Bl mg) (G : Gs K mg) (c_is_fraction : Cal P w K mg base TT 0 2 "is_fraction" (defArgs (top 14)) ["value"] C.f_is_fraction) (c_check_row : Cal P w K mg base TT 0 4 "check_row" (defArgs (top 26)) ["value"] C.f_check_row) (c_scaled_of : Cal P w K mg base TT 0 4 "scaled_of" (defArgs (top 35)) ["row", "by"] C.f_scaled_of) {f : Addr} {fd : FuncData} (F : FunD K "scaled" "scaled" (defArgs (top 43)) (defBody (top 43)) (defScope (top 43)) [] [] f fd) : FnG P w K mg base TT 0 5 f fd ["row", "by"] C.f_scaled := by
  have S := S_scaled
  refine FnG.of (k := 4) (N := ["row", "by"]) (ps := ["row", "by"]) (cs := C.b_scaled) F S fun cdv A outer s H E hT hr hg => ?_
  exact ss_cons (x_expr (s_call c_check_row hT (hr.mono (by decide)) hg pass_cx bn_check_row (a_cons (s_var 0) (a_nil)))) (ss_cons (x_if (st_not (st_val (s_call c_is_fraction hT (hr.mono (by decide)) hg pass_cx bn_is_fraction (a_cons (s_var 1) (a_nil))))) (ss_one (x_never)) (ss_nil)) (ss_one (x_ret (s_call c_scaled_of hT (hr.mono (by decide)) hg pass_cx bn_scaled_of (a_cons (s_var 0) (a_cons (s_var 1) (a_nil)))))))
/-! _law_sum -/
theorem S__law_sum : FnScope ["one", "other"] ["one", "other"] (defScope (top 53)) := ⟨rfl, rfl, rfl, by decide +kernel, rfl, by decide +kernel, by decide +kernel⟩
theorem bn__law_sum : BindN (defArgs (top 53)) ["one", "other"] := fun _ _ _ _ _ _ _ _ _ _ us hl => match us, hl with | [_, _], _ => rfl
theorem ok__law_sum {P : Program} {w : World} {K : PySem.W.Frag} {mg : Str → Option Value} {base : Heap} {TT : List (Addr × Str)} (T : Bl mg) (G : Gs K mg) (c__law_fraction : Cal P w K mg base TT 0 2 "_law_fraction" (defArgs (top 52)) ["top", "bottom"] C.f__law_fraction) {f : Addr} {fd : FuncData} (F : FunD K "_law_sum" "_law_sum" (defArgs (top 53)) (defBody (top 53)) (defScope (top 53)) [] [] f fd) : FnG P w K mg base TT 0 3 f fd ["one", "other"] C.f__law_sum := by
  have S := S__law_sum
  refine FnG.of (k := 2) (N := ["one", "other"]) (ps := ["one", "other"]) (cs := C.b__law_sum) F S fun cdv A outer s H E hT hr hg => ?_
  exact ss_one (x_ret (s_call c__law_fraction hT (hr.mono (by decide)) hg pass_cx bn__law_fraction (a_cons (s_add (s_mul (s_item hr (s_var 0) (s_int)) (s_item hr (s_var 1) (s_int))) (s_mul (s_item hr (s_var 1) (s_int)) (s_item hr (s_var 0) (s_int)))) (a_cons (s_mul (s_item hr (s_var 0) (s_int)) (s_item hr (s_var 1) (s_int))) (a_nil)))))
/-! _law_row_sum -/
theorem S__law_row_sum : FnScope ["one", "other", "found", "moment", "amount"] ["one", "other"] (defScope (top 58)) := ⟨rfl, rfl, rfl, by decide +kernel, rfl, by decide +kernel, by decide +kernel⟩
theorem bn__law_row_sum : BindN (defArgs (top 58)) ["one", "other"] := fun _ _ _ _ _ _ _ _ _ _ us hl => match us, hl with | [_, _], _ => rfl
theorem ok__law_row_sum {P : Program} {w : World} {K : PySem.W.Frag} {mg : Str → Option Value} {base : Heap} {TT : List (Addr × Str)} (T : Bl mg) (G : Gs K mg) (c__law_cleared : Cal P w K mg base TT 0 1 "_law_cleared" (defArgs (top 57)) ["own"] C.f__law_cleared) (c__law_sum : Cal P w K mg base TT 0 3 "_law_sum" (defArgs (top 53)) ["one", "other"] C.f__law_sum) {f : Addr} {fd : FuncData} (F : FunD K "_law_row_sum" "_law_row_sum" (defArgs (top 58)) (defBody (top 58)) (defScope (top 58)) [] [] f fd) : FnG P w K mg base TT 0 4 f fd ["one", "other"] C.f__law_row_sum := by
  have S := S__law_row_sum
  refine FnG.of (k := 3) (N := ["one", "other", "found", "moment", "amount"]) (ps := ["one", "other"]) (cs := C.b__law_row_sum) F S fun cdv A outer s H E hT hr hg => ?_
  exact ss_cons (x_set (i := 2) S.nd (s_dict true rfl (a_cons (s_items false rfl (s_var 0) T.list) (a_nil)) T.dict)) (ss_cons (x_for (passes_of rfl) rfl (i_seq (s_items false rfl (s_var 1) T.list)) (g_tp rfl (gs_cons (g_nm 3 S.nd) (gs_cons (g_nm 4 S.nd) (gs_nil)))) (ss_one (x_setIx hr (s_var 2) (s_var 3) (s_call c__law_sum hT (hr.mono (by decide)) hg pass_cx bn__law_sum (a_cons (s_get2 hr (s_var 2) (s_var 3) (s_tup (a_cons (s_int) (a_cons (s_int) (a_nil))))) (a_cons (s_var 4) (a_nil))))))) (ss_one (x_ret (s_call c__law_cleared hT (hr.mono (by decide)) hg pass_cx bn__law_cleared (a_cons (s_var 2) (a_nil))))))
/-! _law_product -/
theorem S__law_product : FnScope ["one", "other"] ["one", "other"] (defScope (top 54)) := ⟨rfl, rfl, rfl, by decide +kernel, rfl, by decide +kernel, by decide +kernel⟩
theorem bn__law_product : BindN (defArgs (top 54)) ["one", "other"] := fun _ _ _ _ _ _ _ _ _ _ us hl => match us, hl with | [_, _], _ => rfl
theorem ok__law_product {P : Program} {w : World} {K : PySem.W.Frag} {mg : Str → Option Value} {base : Heap} {TT : List (Addr × Str)} (T : Bl mg) (G : Gs K mg) (c__law_fraction : Cal P w K mg base TT 0 2 "_law_fraction" (defArgs (top 52)) ["top", "bottom"] C.f__law_fraction) {f : Addr} {fd : FuncData} (F : FunD K "_law_product" "_law_product" (defArgs (top 54)) (defBody (top 54)) (defScope (top 54)) [] [] f fd) : FnG P w K mg base TT 0 3 f fd ["one", "other"] C.f__law_product := by
  have S := S__law_product
  refine FnG.of (k := 2) (N := ["one", "other"]) (ps := ["one", "other"]) (cs := C.b__law_product) F S fun cdv A outer s H E hT hr hg => ?_
  exact ss_one (x_ret (s_call c__law_fraction hT (hr.mono (by decide)) hg pass_cx bn__law_fraction (a_cons (s_mul (s_item hr (s_var 0) (s_int)) (s_item hr (s_var 1) (s_int))) (a_cons (s_mul (s_item hr (s_var 0) (s_int)) (s_item hr (s_var 1) (s_int))) (a_nil)))))
/-! _law_row_scaled -/
theorem S__law_row_scaled : FnScope ["own", "number", "moment", "amount"] ["own", "number"] (defScope (top 60)) := ⟨rfl, rfl, rfl, by decide +kernel, rfl, by decide +kernel, by decide +kernel⟩
theorem bn__law_row_scaled : BindN (defArgs (top 60)) ["own", "number"] := fun _ _ _ _ _ _ _ _ _ _ us hl => match us, hl with | [_, _], _ => rfl
theorem ok__law_row_scaled {P : Program} {w : World} {K : PySem.W.Frag} {mg : Str → Option Value} {base : Heap} {TT : List (Addr × Str)} (T : Bl mg) (G : Gs K mg) (c__law_cleared : Cal P w K mg base TT 0 1 "_law_cleared" (defArgs (top 57)) ["own"] C.f__law_cleared) (c__law_product : Cal P w K mg base TT 0 3 "_law_product" (defArgs (top 54)) ["one", "other"] C.f__law_product) {f : Addr} {fd : FuncData} (F : FunD K "_law_row_scaled" "_law_row_scaled" (defArgs (top 60)) (defBody (top 60)) (defScope (top 60)) [] [] f fd) : FnG P w K mg base TT 0 4 f fd ["own", "number"] C.f__law_row_scaled := by
  have S := S__law_row_scaled
  refine FnG.of (k := 3) (N := ["own", "number", "moment", "amount"]) (ps := ["own", "number"]) (cs := C.b__law_row_scaled) F S fun cdv A outer s H E hT hr hg => ?_
  exact ss_one (x_ret (s_call c__law_cleared hT (hr.mono (by decide)) hg pass_cx bn__law_cleared (a_cons (s_dict false rfl (a_cons (s_lc false rfl S.nd (i_seq (s_items false rfl (s_var 0) T.list)) (blkOk_by (own := [("moment", 2), ("amount", 3)]) (by kernel_rfl)) (fun _ _ _ _ _ => g_tp rfl (gs_cons (g_nm 2 S.nd) (gs_cons (g_nm 3 S.nd) (gs_nil)))) (fun _ _ _ _ _ => sc_nil) (fun _ _ _ _ _ => s_tup (a_cons (s_var 2) (a_cons (s_call c__law_product hT.e0 (hr.mono (by decide)) hg passL bn__law_product (a_cons (s_var 3) (a_cons (s_var 1) (a_nil)))) (a_nil))))) (a_nil)) T.dict) (a_nil))))
/-! _law_row_less -/
theorem S__law_row_less : FnScope ["one", "other"] ["one", "other"] (defScope (top 61)) := ⟨rfl, rfl, rfl, by decide +kernel, rfl, by decide +kernel, by decide +kernel⟩
theorem bn__law_row_less : BindN (defArgs (top 61)) ["one", "other"] := fun _ _ _ _ _ _ _ _ _ _ us hl => match us, hl with | [_, _], _ => rfl
theorem ok__law_row_less {P : Program} {w : World} {K : PySem.W.Frag} {mg : Str → Option Value} {base : Heap} {TT : List (Addr × Str)} (T : Bl mg) (G : Gs K mg) (c__law_row_sum : Cal P w K mg base TT 0 4 "_law_row_sum" (defArgs (top 58)) ["one", "other"] C.f__law_row_sum) (c__law_row_scaled : Cal P w K mg base TT 0 4 "_law_row_scaled" (defArgs (top 60)) ["own", "number"] C.f__law_row_scaled) {f : Addr} {fd : FuncData} (F : FunD K "_law_row_less" "_law_row_less" (defArgs (top 61)) (defBody (top 61)) (defScope (top 61)) [] [] f fd) : FnG P w K mg base TT 0 5 f fd ["one", "other"] C.f__law_row_less := by
  have S := S__law_row_less
  refine FnG.of (k := 4) (N := ["one", "other"]) (ps := ["one", "other"]) (cs := C.b__law_row_less) F S fun cdv A outer s H E hT hr hg => ?_
  exact ss_one (x_ret (s_call c__law_row_sum hT (hr.mono (by decide)) hg pass_cx bn__law_row_sum (a_cons (s_var 0) (a_cons (s_call c__law_row_scaled hT (hr.mono (by decide)) hg pass_cx bn__law_row_scaled (a_cons (s_var 1) (a_cons (s_tup (a_cons (s_neg (s_int)) (a_cons (s_int) (a_nil)))) (a_nil)))) (a_nil)))))
/-! _law_row_product -/
theorem S__law_row_product : FnScope ["one", "other", "found", "here", "left", "there", "right"] ["one", "other"] (defScope (top 59)) := ⟨rfl, rfl, rfl, by decide +kernel, rfl, by decide +kernel, by decide +kernel⟩
theorem bn__law_row_product : BindN (defArgs (top 59)) ["one", "other"] := fun _ _ _ _ _ _ _ _ _ _ us hl => match us, hl with | [_, _], _ => rfl
theorem ok__law_row_product {P : Program} {w : World} {K : PySem.W.Frag} {mg : Str → Option Value} {base : Heap} {TT : List (Addr × Str)} (T : Bl mg) (G : Gs K mg) (c__law_cleared : Cal P w K mg base TT 0 1 "_law_cleared" (defArgs (top 57)) ["own"] C.f__law_cleared) (c__law_sum : Cal P w K mg base TT 0 3 "_law_sum" (defArgs (top 53)) ["one", "other"] C.f__law_sum) (c__law_product : Cal P w K mg base TT 0 3 "_law_product" (defArgs (top 54)) ["one", "other"] C.f__law_product) {f : Addr} {fd : FuncData} (F : FunD K "_law_row_product" "_law_row_product" (defArgs (top 59)) (defBody (top 59)) (defScope (top 59)) [] [] f fd) : FnG P w K mg base TT 0 4 f fd ["one", "other"] C.f__law_row_product := by
  have S := S__law_row_product
  refine FnG.of (k := 3) (N := ["one", "other", "found", "here", "left", "there", "right"]) (ps := ["one", "other"]) (cs := C.b__law_row_product) F S fun cdv A outer s H E hT hr hg => ?_
  exact ss_cons (x_set (i := 2) S.nd (s_dct0 true)) (ss_cons (x_for (passes_of rfl) rfl (i_seq (s_items false rfl (s_var 0) T.list)) (g_tp rfl (gs_cons (g_nm 3 S.nd) (gs_cons (g_nm 4 S.nd) (gs_nil)))) (ss_one (x_for (passes_of rfl) rfl (i_seq (s_items false rfl (s_var 1) T.list)) (g_tp rfl (gs_cons (g_nm 5 S.nd) (gs_cons (g_nm 6 S.nd) (gs_nil)))) (ss_one (x_setIx hr (s_var 2) (s_add (s_var 3) (s_var 5)) (s_call c__law_sum hT (hr.mono (by decide)) hg pass_cx bn__law_sum (a_cons (s_get2 hr (s_var 2) (s_add (s_var 3) (s_var 5)) (s_tup (a_cons (s_int) (a_cons (s_int) (a_nil))))) (a_cons (s_call c__law_product hT (hr.mono (by decide)) hg pass_cx bn__law_product (a_cons (s_var 4) (a_cons (s_var 6) (a_nil)))) (a_nil))))))))) (ss_one (x_ret (s_call c__law_cleared hT (hr.mono (by decide)) hg pass_cx bn__law_cleared (a_cons (s_var 2) (a_nil))))))
/-! worth -/
theorem S_worth : FnScope ["row", "moment"] ["row", "moment"] (defScope (top 44)) := ⟨rfl, rfl, rfl, by decide +kernel, rfl, by decide +kernel, by decide +kernel⟩
theorem bn_worth : BindN (defArgs (top 44)) ["row", "moment"] := fun _ _ _ _ _ _ _ _ _ _ us hl => match us, hl with | [_, _], _ => rfl
theorem ok_worth {P : Program} {w : World} {K : PySem.W.Frag} {mg : Str → Option Value} {base : Heap} {TT : List (Addr × Str)} (T : Bl mg) (G : Gs K mg) (c_check_whole : Cal P w K mg base TT 0 2 "check_whole" (defArgs (top 27)) ["value"] C.f_check_whole) (c_check_row : Cal P w K mg base TT 0 4 "check_row" (defArgs (top 26)) ["value"] C.f_check_row) (c_worth_at : Cal P w K mg base TT 0 1 "worth_at" (defArgs (top 29)) ["row", "moment"] C.f_worth_at) {f : Addr} {fd : FuncData} (F : FunD K "worth" "worth" (defArgs (top 44)) (defBody (top 44)) (defScope (top 44)) [] [] f fd) : FnG P w K mg base TT 0 5 f fd ["row", "moment"] C.f_worth := by
  have S := S_worth
  refine FnG.of (k := 4) (N := ["row", "moment"]) (ps := ["row", "moment"]) (cs := C.b_worth) F S fun cdv A outer s H E hT hr hg => ?_
  exact ss_cons (x_expr (s_call c_check_row hT (hr.mono (by decide)) hg pass_cx bn_check_row (a_cons (s_var 0) (a_nil)))) (ss_cons (x_expr (s_call c_check_whole hT (hr.mono (by decide)) hg pass_cx bn_check_whole (a_cons (s_var 1) (a_nil)))) (ss_one (x_ret (s_call c_worth_at hT (hr.mono (by decide)) hg pass_cx bn_worth_at (a_cons (s_var 0) (a_cons (s_var 1) (a_nil)))))))
/-! _law_minus -/
theorem S__law_minus : FnScope ["one"] ["one"] (defScope (top 55)) := ⟨rfl, rfl, rfl, by decide +kernel, rfl, by decide +kernel, by decide +kernel⟩
theorem bn__law_minus : BindN (defArgs (top 55)) ["one"] := fun _ _ _ _ _ _ _ _ _ _ us hl => match us, hl with | [_], _ => rfl
theorem ok__law_minus {P : Program} {w : World} {K : PySem.W.Frag} {mg : Str → Option Value} {base : Heap} {TT : List (Addr × Str)} (T : Bl mg) (G : Gs K mg) {f : Addr} {fd : FuncData} (F : FunD K "_law_minus" "_law_minus" (defArgs (top 55)) (defBody (top 55)) (defScope (top 55)) [] [] f fd) : FnG P w K mg base TT 0 1 f fd ["one"] C.f__law_minus := by
  have S := S__law_minus
  refine FnG.of (k := 0) (N := ["one"]) (ps := ["one"]) (cs := C.b__law_minus) F S fun cdv A outer s H E hT hr hg => ?_
  exact ss_one (x_ret (s_tup (a_cons (s_neg (s_item hr (s_var 0) (s_int))) (a_cons (s_item hr (s_var 0) (s_int)) (a_nil)))))
/-! _law_right -/
theorem S__law_right : FnScope ["pot", "first", "worths", "own", "row", "lap", "other", "mate", "number", "told", "due", "at", "one", "moment"] ["pot"] (defScope (top 65)) := ⟨rfl, rfl, rfl, by decide +kernel, rfl, by decide +kernel, by decide +kernel⟩
theorem bn__law_right : BindN (defArgs (top 65)) ["pot"] := fun _ _ _ _ _ _ _ _ _ _ us hl => match us, hl with | [_], _ => rfl
theorem ok__law_right {P : Program} {w : World} {K : PySem.W.Frag} {mg : Str → Option Value} {base : Heap} {TT : List (Addr × Str)} (T : Bl mg) (G : Gs K mg) (c__law_take : Cal P w K mg base TT 0 1 "_law_take" (defArgs (top 48)) ["pot", "upto"] C.f__law_take_k01) (c__law_drawn_fraction : Cal P w K mg base TT 0 3 "_law_drawn_fraction" (defArgs (top 62)) ["pot", "most"] (C.f__law_drawn_fraction C.f__law_take_k01)) (c__law_full : Cal P w K mg base TT 0 4 "_law_full" (defArgs (top 64)) ["pot"] (C.f__law_full C.f__law_take_k01)) (c__law_cleared : Cal P w K mg base TT 0 1 "_law_cleared" (defArgs (top 57)) ["own"] C.f__law_cleared) (c_row_of : Cal P w K mg base TT 0 3 "row_of" (defArgs (top 36)) ["first", "worths"] C.f_row_of) (c__law_drawn_row : Cal P w K mg base TT 0 4 "_law_drawn_row" (defArgs (top 63)) ["pot", "most"] (C.f__law_drawn_row C.f__law_take_k01)) (c_spread : Cal P w K mg base TT 0 5 "spread" (defArgs (top 45)) ["row"] C.f_spread) (c__law_told_row : Cal P w K mg base TT 0 1 "_law_told_row" (defArgs (top 56)) ["own"] C.f__law_told_row) (c_plus_rows : Cal P w K mg base TT 0 5 "plus_rows" (defArgs (top 37)) ["one", "other"] C.f_plus_rows) (c_less_rows : Cal P w K mg base TT 0 5 "less_rows" (defArgs (top 39)) ["one", "other"] C.f_less_rows) (c_times_rows : Cal P w K mg base TT 0 5 "times_rows" (defArgs (top 41)) ["one", "other"] C.f_times_rows) (c_scaled : Cal P w K mg base TT 0 5 "scaled" (defArgs (top 43)) ["row", "by"] C.f_scaled) (c__law_row_sum : Cal P w K mg base TT 0 4 "_law_row_sum" (defArgs (top 58)) ["one", "other"] C.f__law_row_sum) (c__law_row_scaled : Cal P w K mg base TT 0 4 "_law_row_scaled" (defArgs (top 60)) ["own", "number"] C.f__law_row_scaled) (c__law_row_less : Cal P w K mg base TT 0 5 "_law_row_less" (defArgs (top 61)) ["one", "other"] C.f__law_row_less) (c__law_row_product : Cal P w K mg base TT 0 4 "_law_row_product" (defArgs (top 59)) ["one", "other"] C.f__law_row_product) (c_worth : Cal P w K mg base TT 0 5 "worth" (defArgs (top 44)) ["row", "moment"] C.f_worth) (c__law_minus : Cal P w K mg base TT 0 1 "_law_minus" (defArgs (top 55)) ["one"] C.f__law_minus) {f : Addr} {fd : FuncData} (F : FunD K "_law_right" "_law_right" (defArgs (top 65)) (defBody (top 65)) (defScope (top 65)) [] [] f fd) : FnG P w K mg base TT 0 6 f fd ["pot"] (C.f__law_right_k01b C.f__law_take_k01) := by
  have S := S__law_right
  refine FnG.of (k := 5) (N := ["pot", "first", "worths", "own", "row", "lap", "other", "mate", "number", "told", "due", "at", "one", "moment"]) (ps := ["pot"]) (cs := (C.b__law_right_k01b C.f__law_take_k01)) F S fun cdv A outer s H E hT hr hg => ?_
  exact ss_cons (x_asg (s_call c__law_full hT (hr.mono (by decide)) hg pass_cx bn__law_full (a_cons (s_var 0) (a_nil))) (g_tp rfl (gs_cons (g_nm 1 S.nd) (gs_cons (g_nm 2 S.nd) (gs_nil))))) (ss_cons (x_set (i := 3) S.nd (s_call c__law_cleared hT (hr.mono (by decide)) hg pass_cx bn__law_cleared (a_cons (s_dict false rfl (a_cons (s_lc false rfl S.nd (i_enum (a_cons (s_var 2) (a_nil)) T.enumerate) (blkOk_by (own := [("at", 11), ("one", 12)]) (by kernel_rfl)) (fun _ _ _ _ _ => g_tp rfl (gs_cons (g_nm 11 S.nd) (gs_cons (g_nm 12 S.nd) (gs_nil)))) (fun _ _ _ _ _ => sc_nil) (fun _ _ _ _ _ => s_tup (a_cons (s_add (s_var 1) (s_var 11)) (a_cons (s_var 12) (a_nil))))) (a_nil)) T.dict) (a_nil)))) (ss_cons (x_set (i := 4) S.nd (s_callK0 c_row_of hT (hr.mono (by decide)) hg pass_cx ["first", "worths"] [0, 1] (fun _ _ _ _ _ _ _ _ _ _ us ws h1 h2 => match us, ws, h1, h2 with | [], [_, _], _, _ => rfl) (k_cons (s_var 1) (k_cons (s_var 2) (k_nil))))) (ss_cons (x_if (sw_pt (sw_or (st_reprNe (st_ne hr (s_repr hr hg (a_cons (s_var 4) (a_nil)) T.repr) (s_repr hr hg (a_cons (s_call c__law_told_row hT (hr.mono (by decide)) hg pass_cx bn__law_told_row (a_cons (s_var 3) (a_nil))) (a_nil)) T.repr))) (sw_or1 (st_reprNe (st_ne hr (s_repr hr hg (a_cons (s_call c_row_of hT (hr.mono (by decide)) hg pass_cx bn_row_of (a_cons (s_sub (s_var 1) (s_int)) (a_cons (s_add (s_add (s_mul (s_tup (a_cons (s_tup (a_cons (s_int) (a_cons (s_int) (a_nil)))) (a_nil))) (s_int)) (s_var 2)) (s_tup (a_cons (s_tup (a_cons (s_int) (a_cons (s_int) (a_nil)))) (a_nil)))) (a_nil)))) (a_nil)) T.repr) (s_repr hr hg (a_cons (s_var 4) (a_nil)) T.repr)))))) (ss_one (x_ret (s_bl))) (ss_nil)) (ss_cons (x_if (st_reprNe (st_ne hr (s_repr hr hg (a_cons (s_callK0 c_spread hT (hr.mono (by decide)) hg pass_cx ["row"] [0] (fun _ _ _ _ _ _ _ _ _ _ us ws h1 h2 => match us, ws, h1, h2 with | [], [_], _, _ => rfl) (k_cons (s_var 4) (k_nil))) (a_nil)) T.repr) (s_repr hr hg (a_cons (s_if (st_ne hr (s_var 3) (s_dct0 false)) (s_sub (s_max rfl (a_cons (s_list false rfl (a_cons (s_var 3) (a_nil)) T.list) (a_nil)) T.max) (s_min rfl (a_cons (s_list false rfl (a_cons (s_var 3) (a_nil)) T.list) (a_nil)) T.min)) (s_non)) (a_nil)) T.repr))) (ss_one (x_ret (s_bl))) (ss_nil)) (ss_cons (x_if (st_not (st_val (s_all rfl (a_cons (s_lc false rfl S.nd (i_rng2 (a_cons (s_sub (s_var 1) (s_int)) (a_cons (s_add (s_var 1) (s_int)) (a_nil))) T.range) (blkOk_by (own := [("moment", 13)]) (by kernel_rfl)) (fun _ _ _ _ _ => g_nm 13 S.nd) (fun _ _ _ _ _ => sc_nil) (fun _ _ _ _ _ => s_reprEq (s_eq hr (s_repr hr hg (a_cons (s_callK0 c_worth hT.e0 (hr.mono (by decide)) hg passL ["row", "moment"] [0, 1] (fun _ _ _ _ _ _ _ _ _ _ us ws h1 h2 => match us, ws, h1, h2 with | [], [_, _], _, _ => rfl) (k_cons (s_var 4) (k_cons (s_var 13) (k_nil)))) (a_nil)) T.repr) (s_repr hr hg (a_cons (s_get2 hr (s_var 3) (s_var 13) (s_tup (a_cons (s_int) (a_cons (s_int) (a_nil))))) (a_nil)) T.repr)))) (a_nil)) T.all))) (ss_one (x_ret (s_bl))) (ss_nil)) (ss_cons (x_for (passes_of rfl) rfl (i_rng1 (a_cons (s_int) (a_nil)) T.range) (g_nm 5 S.nd) (ss_cons (x_set (i := 6) S.nd (s_call c__law_drawn_row hT (hr.mono (by decide)) hg pass_cx bn__law_drawn_row (a_cons (s_var 0) (a_cons (s_int) (a_nil))))) (ss_cons (x_if (st_eq hr (s_var 5) (s_int)) (ss_one (x_set (i := 6) S.nd (s_call c__law_cleared hT (hr.mono (by decide)) hg pass_cx bn__law_cleared (a_cons (s_dict false rfl (a_cons (s_lc false rfl S.nd (i_seq (s_items false rfl (s_var 3) T.list)) (blkOk_by (own := [("moment", 13), ("one", 12)]) (by kernel_rfl)) (fun _ _ _ _ _ => g_tp rfl (gs_cons (g_nm 13 S.nd) (gs_cons (g_nm 12 S.nd) (gs_nil)))) (fun _ _ _ _ _ => sc_nil) (fun _ _ _ _ _ => s_tup (a_cons (s_var 13) (a_cons (s_if (st_gt (s_call c__law_take hT.e0 (hr.mono (by decide)) hg passL bn__law_take (a_cons (s_var 0) (a_cons (s_int) (a_nil)))) (s_int)) (s_call c__law_minus hT.e0 (hr.mono (by decide)) hg passL bn__law_minus (a_cons (s_var 12) (a_nil))) (s_var 12)) (a_nil))))) (a_nil)) T.dict) (a_nil))))) (ss_nil)) (ss_cons (x_par (i := 7) (j := 8) rfl S.nd (a_cons (s_call c__law_told_row hT (hr.mono (by decide)) hg pass_cx bn__law_told_row (a_cons (s_var 6) (a_nil))) (a_cons (s_call c__law_drawn_fraction hT (hr.mono (by decide)) hg pass_cx bn__law_drawn_fraction (a_cons (s_var 0) (a_cons (s_int) (a_nil)))) a_nil))) (ss_cons (x_set (i := 9) S.nd (s_lst false (a_cons (s_callK0 c_plus_rows hT (hr.mono (by decide)) hg pass_cx ["one", "other"] [0, 1] (fun _ _ _ _ _ _ _ _ _ _ us ws h1 h2 => match us, ws, h1, h2 with | [], [_, _], _, _ => rfl) (k_cons (s_var 4) (k_cons (s_var 7) (k_nil)))) (a_cons (s_callK0 c_less_rows hT (hr.mono (by decide)) hg pass_cx ["one", "other"] [0, 1] (fun _ _ _ _ _ _ _ _ _ _ us ws h1 h2 => match us, ws, h1, h2 with | [], [_, _], _, _ => rfl) (k_cons (s_var 4) (k_cons (s_var 7) (k_nil)))) (a_cons (s_callK0 c_times_rows hT (hr.mono (by decide)) hg pass_cx ["one", "other"] [0, 1] (fun _ _ _ _ _ _ _ _ _ _ us ws h1 h2 => match us, ws, h1, h2 with | [], [_, _], _, _ => rfl) (k_cons (s_var 4) (k_cons (s_var 7) (k_nil)))) (a_cons (s_callK0 c_scaled hT (hr.mono (by decide)) hg pass_cx ["row", "by"] [0, 1] (fun _ _ _ _ _ _ _ _ _ _ us ws h1 h2 => match us, ws, h1, h2 with | [], [_, _], _, _ => rfl) (k_cons (s_var 7) (k_cons (s_var 8) (k_nil)))) (a_nil))))))) (ss_cons (x_set (i := 10) S.nd (s_lst false (a_cons (s_call c__law_row_sum hT (hr.mono (by decide)) hg pass_cx bn__law_row_sum (a_cons (s_var 3) (a_cons (s_var 6) (a_nil)))) (a_cons (s_call c__law_row_less hT (hr.mono (by decide)) hg pass_cx bn__law_row_less (a_cons (s_var 3) (a_cons (s_var 6) (a_nil)))) (a_cons (s_call c__law_row_product hT (hr.mono (by decide)) hg pass_cx bn__law_row_product (a_cons (s_var 3) (a_cons (s_var 6) (a_nil)))) (a_cons (s_call c__law_row_scaled hT (hr.mono (by decide)) hg pass_cx bn__law_row_scaled (a_cons (s_var 6) (a_cons (s_var 8) (a_nil)))) (a_nil))))))) (ss_cons (x_if (st_reprNe (st_ne hr (s_repr hr hg (a_cons (s_var 9) (a_nil)) T.repr) (s_repr hr hg (a_cons (s_lc false rfl S.nd (i_seq (s_var 10)) (blkOk_by (own := [("one", 12)]) (by kernel_rfl)) (fun _ _ _ _ _ => g_nm 12 S.nd) (fun _ _ _ _ _ => sc_nil) (fun _ _ _ _ _ => s_call c__law_told_row hT.e0 (hr.mono (by decide)) hg passL bn__law_told_row (a_cons (s_var 12) (a_nil)))) (a_nil)) T.repr))) (ss_one (x_ret (s_bl))) (ss_nil)) (ss_one (x_if (sw_pt (sw_or (st_reprNe (st_ne hr (s_repr hr hg (a_cons (s_tup (a_cons (s_call c_plus_rows hT (hr.mono (by decide)) hg pass_cx bn_plus_rows (a_cons (s_var 7) (a_cons (s_var 4) (a_nil)))) (a_cons (s_call c_times_rows hT (hr.mono (by decide)) hg pass_cx bn_times_rows (a_cons (s_var 7) (a_cons (s_var 4) (a_nil)))) (a_nil)))) (a_nil)) T.repr) (s_repr hr hg (a_cons (s_tup (a_cons (s_item hr (s_var 9) (s_int)) (a_cons (s_item hr (s_var 9) (s_int)) (a_nil)))) (a_nil)) T.repr))) (sw_or1 (st_reprNe (st_ne hr (s_repr hr hg (a_cons (s_call c_less_rows hT (hr.mono (by decide)) hg pass_cx bn_less_rows (a_cons (s_item hr (s_var 9) (s_int)) (a_cons (s_var 7) (a_nil)))) (a_nil)) T.repr) (s_repr hr hg (a_cons (s_var 4) (a_nil)) T.repr)))))) (ss_one (x_ret (s_bl))) (ss_nil)))))))))) (ss_one (x_ret (s_bl)))))))))
/-! _law_pot -/
theorem S__law_pot : FnScope ["script", "place", "cell", "own", "small"] ["script", "place"] (defScope (top 47)) := ⟨rfl, rfl, rfl, by decide +kernel, rfl, by decide +kernel, by decide +kernel⟩
theorem bn__law_pot : BindN (defArgs (top 47)) ["script", "place"] := fun _ _ _ _ _ _ _ _ _ _ us hl => match us, hl with | [_, _], _ => rfl
theorem ok__law_pot {P : Program} {w : World} {K : PySem.W.Frag} {mg : Str → Option Value} {base : Heap} {TT : List (Addr × Str)} (T : Bl mg) (G : Gs K mg) {f : Addr} {fd : FuncData} (F : FunD K "_law_pot" "_law_pot" (defArgs (top 47)) (defBody (top 47)) (defScope (top 47)) [] [] f fd) : FnG P w K mg base TT 0 1 f fd ["script", "place"] C.f__law_pot_k01 := by
  have S := S__law_pot
  refine FnG.of0 (k := 0) (N := ["script", "place", "cell", "own", "small"]) (ps := ["script", "place"]) (cs := C.b__law_pot_k01) F S fun cdv A outer s H E hT hr hg => ?_
  exact ss_cons (x_set (i := 2) S.nd (s_if (st_lt (s_var 1) (s_len (a_cons (s_var 0) (a_nil)) T.len)) (s_item hr (s_var 0) (s_var 1)) (s_add (s_add (s_mod (s_intc (a_cons (s_sum rfl (a_cons (s_cut false (s_var 0) o_no (o_sm (s_int))) (a_nil)) T.sum) (a_nil)) T.int) (s_int)) (s_mul (s_int) (s_var 1))) (s_int)))) (ss_cons (x_set (i := 3) S.nd (s_mul (s_mod (s_intc (a_cons (s_abs (a_cons (s_var 2) (a_nil)) T.abs) (a_nil)) T.int) (s_pow (s_pow (s_int) (s_int)) (s_int))) (s_intc (a_cons (s_ge (s_abs (a_cons (s_var 2) (a_nil)) T.abs) (s_pow (s_int) (s_int))) (a_nil)) T.int))) (ss_cons (x_set (i := 4) S.nd (s_mod (s_intc (a_cons (s_var 2) (a_nil)) T.int) (s_int))) (ss_one (x_ret (s_lst true (a_cons (s_var 3) (a_cons (s_mod (s_intc (a_cons (s_add (s_add (s_mul (s_var 4) (s_int)) (s_mul (s_mul (s_int) (s_var 1)) (s_var 1))) (s_int)) (a_nil)) T.int) (s_int)) (a_cons (s_int) (a_nil)))))))))
/-! _law_cells -/
theorem S__law_cells : FnScope ["script", "limit"] ["script", "limit"] (defScope (top 50)) := ⟨rfl, rfl, rfl, by decide +kernel, rfl, by decide +kernel, by decide +kernel⟩
theorem bn__law_cells : BindN (defArgs (top 50)) ["script", "limit"] := fun _ _ _ _ _ _ _ _ _ _ us hl => match us, hl with | [_, _], _ => rfl
theorem ok__law_cells {P : Program} {w : World} {K : PySem.W.Frag} {mg : Str → Option Value} {base : Heap} {TT : List (Addr × Str)} (T : Bl mg) (G : Gs K mg) {f : Addr} {fd : FuncData} (F : FunD K "_law_cells" "_law_cells" (defArgs (top 50)) (defBody (top 50)) (defScope (top 50)) [] [] f fd) : FnG P w K mg base TT 0 1 f fd ["script", "limit"] C.f__law_cells := by
  have S := S__law_cells
  refine FnG.of (k := 0) (N := ["script", "limit"]) (ps := ["script", "limit"]) (cs := C.b__law_cells) F S fun cdv A outer s H E hT hr hg => ?_
  exact ss_one (x_ret (s_listRg1 false rfl (s_max2 rfl (a_cons (s_int) (a_cons (s_min2 rfl (a_cons (s_var 1) (a_cons (s_len (a_cons (s_var 0) (a_nil)) T.len) (a_nil))) T.min) (a_nil))) T.max) T.list T.range))
/-! law -/
theorem S_law : FnScope ["script", "place"] ["script"] (defScope (top 66)) := ⟨rfl, rfl, rfl, by decide +kernel, rfl, by decide +kernel, by decide +kernel⟩
theorem bn_law : BindN (defArgs (top 66)) ["script"] := fun _ _ _ _ _ _ _ _ _ _ us hl => match us, hl with | [_], _ => rfl
theorem ok_law {P : Program} {w : World} {K : PySem.W.Frag} {mg : Str → Option Value} {base : Heap} {TT : List (Addr × Str)} (T : Bl mg) (G : Gs K mg) (c__law_right : Cal P w K mg base TT 0 6 "_law_right" (defArgs (top 65)) ["pot"] (C.f__law_right_k01b C.f__law_take_k01)) (c__law_pot : Cal P w K mg base TT 0 1 "_law_pot" (defArgs (top 47)) ["script", "place"] C.f__law_pot_k01) (c__law_cells : Cal P w K mg base TT 0 1 "_law_cells" (defArgs (top 50)) ["script", "limit"] C.f__law_cells) {f : Addr} {fd : FuncData} (F : FunD K "law" "law" (defArgs (top 66)) (defBody (top 66)) (defScope (top 66)) [] [] f fd) : FnG P w K mg base TT 0 7 f fd ["script"] (C.f_law_k01b C.f__law_take_k01) := by
  have S := S_law
  refine FnG.of (k := 6) (N := ["script", "place"]) (ps := ["script"]) (cs := (C.b_law_k01b C.f__law_take_k01)) F S fun cdv A outer s H E hT hr hg => ?_
  exact ss_one (x_ret (s_all rfl (a_cons (s_lc false rfl S.nd (i_seq (s_call c__law_cells hT (hr.mono (by decide)) hg pass_cx bn__law_cells (a_cons (s_var 0) (a_cons (s_int) (a_nil))))) (blkOk_by (own := [("place", 1)]) (by kernel_rfl)) (fun _ _ _ _ _ => g_nm 1 S.nd) (fun _ _ _ _ _ => sc_nil) (fun _ _ _ _ _ => s_call c__law_right hT.e0 (hr.mono (by decide)) hg passL bn__law_right (a_cons (s_call c__law_pot hT.e0 (hr.mono (by decide)) hg passL bn__law_pot (a_cons (s_var 0) (a_cons (s_var 1) (a_nil)))) (a_nil)))) (a_nil)) T.all))
end PL.L01

set_option Elab.async false
set_option linter.all false
set_option maxRecDepth 100000
set_option maxHeartbeats 0
set_option autoImplicit false
namespace PL.L01
open PySem PySem.Spec PyProof.Rows L2
def dd (x nm : Str) (i : Nat) : He.DefD := ⟨(x, none), nm, nm, defArgs (top i), defBody (top i), defScope (top i), [], []⟩
def fn : List He.DefD := [dd "_law_take" "_law_take" 48, dd "_law_common" "_law_common" 51, dd "_law_fraction" "_law_fraction" 52, dd "_law_of" "_law_of" 49, dd "_law_drawn_fraction" "_law_drawn_fraction" 62, dd "_law_full" "_law_full" 64, dd "_law_cleared" "_law_cleared" 57, dd "is_whole" "is_whole" 7, dd "check_whole" "check_whole" 27, dd "made_row" "made_row" 28, dd "is_tuple" "is_tuple" 8, dd "common" "common" 12, dd "is_fraction" "is_fraction" 14, dd "row_of" "row_of" 36, dd "_law_drawn_row" "_law_drawn_row" 63, dd "is_row" "is_row" 25, dd "check_row" "check_row" 26, dd "spread" "spread" 45, dd "_law_told_row" "_law_told_row" 56, dd "span_of" "span_of" 30, dd "fraction" "fraction" 13, dd "plus_numbers" "plus" 15, dd "worth_at" "worth_at" 29, dd "plus_of" "plus_of" 31, dd "plus_rows" "plus" 37, dd "less_numbers" "less" 17, dd "less_of" "less_of" 32, dd "less_rows" "less" 39, dd "whole_worths" "whole_worths" 33, dd "times_of" "times_of" 34, dd "times_rows" "times" 41, dd "times_numbers" "times" 19, dd "scaled_of" "scaled_of" 35, dd "scaled" "scaled" 43, dd "_law_sum" "_law_sum" 53, dd "_law_row_sum" "_law_row_sum" 58, dd "_law_product" "_law_product" 54, dd "_law_row_scaled" "_law_row_scaled" 60, dd "_law_row_less" "_law_row_less" 61, dd "_law_row_product" "_law_row_product" 59, dd "worth" "worth" 44, dd "_law_minus" "_law_minus" 55, dd "_law_right" "_law_right" 65, dd "_law_pot" "_law_pot" 47, dd "_law_cells" "_law_cells" 50, dd "law" "law" 66]
def gl : List He.Fa := [.glo "_law_take", .glo "_law_common", .glo "_law_fraction", .glo "_law_of", .glo "_law_drawn_fraction", .glo "_law_full", .glo "_law_cleared", .glo "is_whole", .glo "check_whole", .glo "made_row", .glo "is_tuple", .glo "common", .glo "is_fraction", .glo "row_of", .glo "_law_drawn_row", .glo "is_row", .glo "check_row", .glo "spread", .glo "_law_told_row", .glo "span_of", .glo "fraction", .glo "plus_numbers", .glo "worth_at", .glo "plus_of", .glo "plus_rows", .glo "less_numbers", .glo "less_of", .glo "less_rows", .glo "whole_worths", .glo "times_of", .glo "times_rows", .glo "times_numbers", .glo "scaled_of", .glo "scaled", .glo "_law_sum", .glo "_law_row_sum", .glo "_law_product", .glo "_law_row_scaled", .glo "_law_row_less", .glo "_law_row_product", .glo "worth", .glo "_law_minus", .glo "_law_right", .glo "_law_pot", .glo "_law_cells", .glo "law"]
abbrev fa : List He.Fa := blF ++ gl
def mk : List (Str × Str) := []
abbrev BT : Type := Unit
def xf (_ : PySem.W.Frag) : BT := ()
def xv : BT := ()
def loose0 : List Str := ["EarError", "BadRow", "BadFraction", "BadNumber", "BadWorths", "is_whole", "is_tuple", "PAIR_numbers", "NOUGHT", "common", "fraction", "is_fraction", "plus", "plus_numbers", "less", "less_numbers", "times", "times_numbers", "PAIR_rows", "MOST_WORTHS"]
def loose1 : List Str := ["NOTHING", "is_row", "check_row", "check_whole", "made_row", "worth_at", "span_of", "plus_of", "less_of", "whole_worths", "times_of", "scaled_of", "row_of", "plus_rows", "less_rows", "times_rows", "scaled", "worth", "spread", "_law_pot"]
def loose2 : List Str := ["_law_take", "_law_of", "_law_cells", "_law_common", "_law_fraction", "_law_sum", "_law_product", "_law_minus", "_law_told_row", "_law_cleared", "_law_row_sum", "_law_row_product", "_law_row_scaled", "_law_row_less", "_law_drawn_fraction", "_law_drawn_row", "_law_full", "_law_right"]
def loose : List Str := loose0 ++ loose1 ++ loose2
abbrev R0 : PySem.W.OpenRow := PySem.W.OpenLaw.row PySem.Challenge.rw_earstogether_k01_whole_rows_sums_and_pro
abbrev hk : PySem.W.Hook := hookT 4 mk xf xv fa fn cs
def ob (s : PySem.W.SharedT) : AlT BT := lookT 4 mk xf fa fn cs (HandSHeadRun.getT s)
theorem ob_eq (s : PySem.W.SharedT) : ob s = hk.obs s.abs := lookT_eq (HandSHeadRun.getT_eq s)
theorem run (w : World) : HandSHeadRun.RunEq R0 (PySem.W.view R0.prog [66]) hk ob 20000 loose w := by
  intro os
  kernel_rfl
theorem gs_of {K : PySem.W.Frag} {mg : Str → Option Value} {h : Heap} (s : SaysG fa fn cs K mg h) : Gs K mg := ⟨trivial, s.con 0, s.con 1, s.con 2, s.con 3, s.con 4⟩
theorem all_of {w : World} {K0 : PySem.W.Frag} {mg : Str → Option Value} {h base : Heap} (s : SaysT mk xf xv fa fn cs K0 mg h) (tb : ∀ p ∈ csF mk K0, LamX.TabB base mg p.1 p.2) : Cal pw w (offF K0 (tsF mk K0)) mg base (TF mk K0) 0 7 "law" (defArgs (top 66)) ["script"] (C.f_law_k01b C.f__law_take_k01) := by
  have g := s.g
  have T := bl_of g
  have G := gs_of g
  let K := offF K0 (tsF mk K0)
  let TT := TF mk K0
  have c__law_take : Cal pw w K mg base TT 0 1 "_law_take" (defArgs (top 48)) ["pot", "upto"] C.f__law_take_k01 := g.cal2 0 rfl 19 rfl (fun F => ok__law_take T G F)
  have c__law_common : Cal pw w K mg base TT 0 1 "_law_common" (defArgs (top 51)) ["one", "other"] C.f_common := g.cal2 1 rfl 20 rfl (fun F => ok__law_common T G F)
  have c__law_fraction : Cal pw w K mg base TT 0 2 "_law_fraction" (defArgs (top 52)) ["top", "bottom"] C.f__law_fraction := g.cal2 2 rfl 21 rfl (fun F => ok__law_fraction T G (c__law_common.mQ (by decide)) F)
  have c__law_of : Cal pw w K mg base TT 0 2 "_law_of" (defArgs (top 49)) ["pot", "some"] (C.f__law_of C.f__law_take_k01) := g.cal2 3 rfl 22 rfl (fun F => ok__law_of T G (c__law_take.mQ (by decide)) F)
  have c__law_drawn_fraction : Cal pw w K mg base TT 0 3 "_law_drawn_fraction" (defArgs (top 62)) ["pot", "most"] (C.f__law_drawn_fraction C.f__law_take_k01) := g.cal2 4 rfl 23 rfl (fun F => ok__law_drawn_fraction T G (c__law_take.mQ (by decide)) (c__law_fraction.mQ (by decide)) (c__law_of.mQ (by decide)) F)
  have c__law_full : Cal pw w K mg base TT 0 4 "_law_full" (defArgs (top 64)) ["pot"] (C.f__law_full C.f__law_take_k01) := g.cal2 5 rfl 24 rfl (fun F => ok__law_full T G (c__law_take.mQ (by decide)) (c__law_drawn_fraction.mQ (by decide)) F)
  have c__law_cleared : Cal pw w K mg base TT 0 1 "_law_cleared" (defArgs (top 57)) ["own"] C.f__law_cleared := g.cal2 6 rfl 25 rfl (fun F => ok__law_cleared T G F)
  have c_is_whole : Cal pw w K mg base TT 0 1 "is_whole" (defArgs (top 7)) ["value"] C.f_is_whole := g.cal2 7 rfl 26 rfl (fun F => ok_is_whole T G F)
  have c_check_whole : Cal pw w K mg base TT 0 2 "check_whole" (defArgs (top 27)) ["value"] C.f_check_whole := g.cal2 8 rfl 27 rfl (fun F => ok_check_whole T G (c_is_whole.mQ (by decide)) F)
  have c_made_row : Cal pw w K mg base TT 0 1 "made_row" (defArgs (top 28)) ["first", "worths"] C.f_made_row := g.cal2 9 rfl 28 rfl (fun F => ok_made_row T G F)
  have c_is_tuple : Cal pw w K mg base TT 0 1 "is_tuple" (defArgs (top 8)) ["value", "least", "most"] C.f_is_tuple := g.cal2 10 rfl 29 rfl (fun F => ok_is_tuple T G F)
  have c_common : Cal pw w K mg base TT 0 1 "common" (defArgs (top 12)) ["one", "other"] C.f_common := g.cal2 11 rfl 30 rfl (fun F => ok_common T G F)
  have c_is_fraction : Cal pw w K mg base TT 0 2 "is_fraction" (defArgs (top 14)) ["value"] C.f_is_fraction := g.cal2 12 rfl 31 rfl (fun F => ok_is_fraction T G (c_is_whole.mQ (by decide)) (c_is_tuple.mQ (by decide)) (c_common.mQ (by decide)) F)
  have c_row_of : Cal pw w K mg base TT 0 3 "row_of" (defArgs (top 36)) ["first", "worths"] C.f_row_of := g.cal2 13 rfl 32 rfl (fun F => ok_row_of T G (c_check_whole.mQ (by decide)) (c_made_row.mQ (by decide)) (c_is_tuple.mQ (by decide)) (c_is_fraction.mQ (by decide)) F)
  have c__law_drawn_row : Cal pw w K mg base TT 0 4 "_law_drawn_row" (defArgs (top 63)) ["pot", "most"] (C.f__law_drawn_row C.f__law_take_k01) := g.cal2 14 rfl 33 rfl (fun F => ok__law_drawn_row T G (c__law_take.mQ (by decide)) (c__law_drawn_fraction.mQ (by decide)) (c__law_cleared.mQ (by decide)) F)
  have c_is_row : Cal pw w K mg base TT 0 3 "is_row" (defArgs (top 25)) ["value"] C.f_is_row := g.cal2 15 rfl 34 rfl (fun F => ok_is_row T G (c_is_whole.mQ (by decide)) (c_is_tuple.mQ (by decide)) (c_is_fraction.mQ (by decide)) F)
  have c_check_row : Cal pw w K mg base TT 0 4 "check_row" (defArgs (top 26)) ["value"] C.f_check_row := g.cal2 16 rfl 35 rfl (fun F => ok_check_row T G (c_is_row.mQ (by decide)) F)
  have c_spread : Cal pw w K mg base TT 0 5 "spread" (defArgs (top 45)) ["row"] C.f_spread := g.cal2 17 rfl 36 rfl (fun F => ok_spread T G (c_check_row.mQ (by decide)) F)
  have c__law_told_row : Cal pw w K mg base TT 0 1 "_law_told_row" (defArgs (top 56)) ["own"] C.f__law_told_row := g.cal2 18 rfl 37 rfl (fun F => ok__law_told_row T G F)
  have c_span_of : Cal pw w K mg base TT 0 1 "span_of" (defArgs (top 30)) ["one", "other"] C.f_span_of := g.cal2 19 rfl 38 rfl (fun F => ok_span_of T G F)
  have c_fraction : Cal pw w K mg base TT 0 2 "fraction" (defArgs (top 13)) ["top", "bottom"] C.f_fraction := g.cal2 20 rfl 39 rfl (fun F => ok_fraction T G (c_common.mQ (by decide)) F)
  have c_plus_numbers : Cal pw w K mg base TT 0 3 "plus_numbers" (defArgs (top 15)) ["one", "other"] C.f_plus_numbers := g.cal2 21 rfl 40 rfl (fun F => ok_plus_numbers T G (c_fraction.mQ (by decide)) F)
  have c_worth_at : Cal pw w K mg base TT 0 1 "worth_at" (defArgs (top 29)) ["row", "moment"] C.f_worth_at := g.cal2 22 rfl 41 rfl (fun F => ok_worth_at T G F)
  have c_plus_of : Cal pw w K mg base TT 0 4 "plus_of" (defArgs (top 31)) ["one", "other"] C.f_plus_of := g.cal2 23 rfl 42 rfl (fun F => ok_plus_of T G (c_made_row.mQ (by decide)) (c_span_of.mQ (by decide)) (c_plus_numbers.mQ (by decide)) (c_worth_at.mQ (by decide)) F)
  have c_plus_rows : Cal pw w K mg base TT 0 5 "plus_rows" (defArgs (top 37)) ["one", "other"] C.f_plus_rows := g.cal2 24 rfl 43 rfl (fun F => ok_plus_rows T G (c_check_row.mQ (by decide)) (c_plus_of.mQ (by decide)) F)
  have c_less_numbers : Cal pw w K mg base TT 0 3 "less_numbers" (defArgs (top 17)) ["one", "other"] C.f_less_numbers := g.cal2 25 rfl 44 rfl (fun F => ok_less_numbers T G (c_fraction.mQ (by decide)) F)
  have c_less_of : Cal pw w K mg base TT 0 4 "less_of" (defArgs (top 32)) ["one", "other"] C.f_less_of := g.cal2 26 rfl 45 rfl (fun F => ok_less_of T G (c_made_row.mQ (by decide)) (c_span_of.mQ (by decide)) (c_worth_at.mQ (by decide)) (c_less_numbers.mQ (by decide)) F)
  have c_less_rows : Cal pw w K mg base TT 0 5 "less_rows" (defArgs (top 39)) ["one", "other"] C.f_less_rows := g.cal2 27 rfl 46 rfl (fun F => ok_less_rows T G (c_check_row.mQ (by decide)) (c_less_of.mQ (by decide)) F)
  have c_whole_worths : Cal pw w K mg base TT 0 2 "whole_worths" (defArgs (top 33)) ["row"] C.f_whole_worths := g.cal2 28 rfl 47 rfl (fun F => ok_whole_worths T G (c_common.mQ (by decide)) F)
  have c_times_of : Cal pw w K mg base TT 0 3 "times_of" (defArgs (top 34)) ["one", "other"] C.f_times_of := g.cal2 29 rfl 48 rfl (fun F => ok_times_of T G (c_fraction.mQ (by decide)) (c_whole_worths.mQ (by decide)) F)
  have c_times_rows : Cal pw w K mg base TT 0 5 "times_rows" (defArgs (top 41)) ["one", "other"] C.f_times_rows := g.cal2 30 rfl 49 rfl (fun F => ok_times_rows T G (c_check_row.mQ (by decide)) (c_times_of.mQ (by decide)) F)
  have c_times_numbers : Cal pw w K mg base TT 0 3 "times_numbers" (defArgs (top 19)) ["one", "other"] C.f_times_numbers := g.cal2 31 rfl 50 rfl (fun F => ok_times_numbers T G (c_fraction.mQ (by decide)) F)
  have c_scaled_of : Cal pw w K mg base TT 0 4 "scaled_of" (defArgs (top 35)) ["row", "by"] C.f_scaled_of := g.cal2 32 rfl 51 rfl (fun F => ok_scaled_of T G (c_times_numbers.mQ (by decide)) F)
  have c_scaled : Cal pw w K mg base TT 0 5 "scaled" (defArgs (top 43)) ["row", "by"] C.f_scaled := g.cal2 33 rfl 52 rfl (fun F => ok_scaled T G (c_is_fraction.mQ (by decide)) (c_check_row.mQ (by decide)) (c_scaled_of.mQ (by decide)) F)
  have c__law_sum : Cal pw w K mg base TT 0 3 "_law_sum" (defArgs (top 53)) ["one", "other"] C.f__law_sum := g.cal2 34 rfl 53 rfl (fun F => ok__law_sum T G (c__law_fraction.mQ (by decide)) F)
  have c__law_row_sum : Cal pw w K mg base TT 0 4 "_law_row_sum" (defArgs (top 58)) ["one", "other"] C.f__law_row_sum := g.cal2 35 rfl 54 rfl (fun F => ok__law_row_sum T G (c__law_cleared.mQ (by decide)) (c__law_sum.mQ (by decide)) F)
  have c__law_product : Cal pw w K mg base TT 0 3 "_law_product" (defArgs (top 54)) ["one", "other"] C.f__law_product := g.cal2 36 rfl 55 rfl (fun F => ok__law_product T G (c__law_fraction.mQ (by decide)) F)
  have c__law_row_scaled : Cal pw w K mg base TT 0 4 "_law_row_scaled" (defArgs (top 60)) ["own", "number"] C.f__law_row_scaled := g.cal2 37 rfl 56 rfl (fun F => ok__law_row_scaled T G (c__law_cleared.mQ (by decide)) (c__law_product.mQ (by decide)) F)
  have c__law_row_less : Cal pw w K mg base TT 0 5 "_law_row_less" (defArgs (top 61)) ["one", "other"] C.f__law_row_less := g.cal2 38 rfl 57 rfl (fun F => ok__law_row_less T G (c__law_row_sum.mQ (by decide)) (c__law_row_scaled.mQ (by decide)) F)
  have c__law_row_product : Cal pw w K mg base TT 0 4 "_law_row_product" (defArgs (top 59)) ["one", "other"] C.f__law_row_product := g.cal2 39 rfl 58 rfl (fun F => ok__law_row_product T G (c__law_cleared.mQ (by decide)) (c__law_sum.mQ (by decide)) (c__law_product.mQ (by decide)) F)
  have c_worth : Cal pw w K mg base TT 0 5 "worth" (defArgs (top 44)) ["row", "moment"] C.f_worth := g.cal2 40 rfl 59 rfl (fun F => ok_worth T G (c_check_whole.mQ (by decide)) (c_check_row.mQ (by decide)) (c_worth_at.mQ (by decide)) F)
  have c__law_minus : Cal pw w K mg base TT 0 1 "_law_minus" (defArgs (top 55)) ["one"] C.f__law_minus := g.cal2 41 rfl 60 rfl (fun F => ok__law_minus T G F)
  have c__law_right : Cal pw w K mg base TT 0 6 "_law_right" (defArgs (top 65)) ["pot"] (C.f__law_right_k01b C.f__law_take_k01) := g.cal2 42 rfl 61 rfl (fun F => ok__law_right T G (c__law_take.mQ (by decide)) (c__law_drawn_fraction.mQ (by decide)) (c__law_full.mQ (by decide)) (c__law_cleared.mQ (by decide)) (c_row_of.mQ (by decide)) (c__law_drawn_row.mQ (by decide)) (c_spread.mQ (by decide)) (c__law_told_row.mQ (by decide)) (c_plus_rows.mQ (by decide)) (c_less_rows.mQ (by decide)) (c_times_rows.mQ (by decide)) (c_scaled.mQ (by decide)) (c__law_row_sum.mQ (by decide)) (c__law_row_scaled.mQ (by decide)) (c__law_row_less.mQ (by decide)) (c__law_row_product.mQ (by decide)) (c_worth.mQ (by decide)) (c__law_minus.mQ (by decide)) F)
  have c__law_pot : Cal pw w K mg base TT 0 1 "_law_pot" (defArgs (top 47)) ["script", "place"] C.f__law_pot_k01 := g.cal2 43 rfl 62 rfl (fun F => ok__law_pot T G F)
  have c__law_cells : Cal pw w K mg base TT 0 1 "_law_cells" (defArgs (top 50)) ["script", "limit"] C.f__law_cells := g.cal2 44 rfl 63 rfl (fun F => ok__law_cells T G F)
  have c_law : Cal pw w K mg base TT 0 7 "law" (defArgs (top 66)) ["script"] (C.f_law_k01b C.f__law_take_k01) := g.cal2 45 rfl 64 rfl (fun F => ok_law T G (c__law_right.mQ (by decide)) (c__law_pot.mQ (by decide)) (c__law_cells.mQ (by decide)) F)
  exact c_law
end PL.L01
open PySem PySem.W PySem.Calls PyProof.Rows
theorem PySem.Challenge.cw_earstogether_k01_whole_rows_sums_and_pro_holds : PySem.Challenge.rw_earstogether_k01_whole_rows_sums_and_pro.Holds := by
  w_on; o_law
  refine HandSHeadRun.head_any (r := PL.L01.R0) (q := view PL.L01.R0.prog [66]) (H := PL.L01.hk) (ob := PL.L01.ob) (M := 20000) (loose := PL.L01.loose) (d := HandSHeadRun.topDef PL.L01.R0.prog 66) (kwd := []) PL.L01.ob_eq (by kernel_rfl) (fun s => by kernel_rfl) PL.L01.run (by kernel_rfl) (by kernel_rfl) (by kernel_rfl) (by rfl) (by first | assumption | decide +kernel) (by decide +kernel) ⟨rfl, rfl, rfl, rfl, rfl, by decide +kernel⟩ ?hw ?hc
  case hw => w_witness2
  case hc =>
    refine PL.walk_g (l := PySem.Challenge.rw_earstogether_k01_whole_rows_sums_and_pro) (n := 63) (k := 7) "script" rfl (by decide) (by kernel_rfl) ⟨rfl, by decide, by decide⟩ ?F
    intro w mg f0 h ⟨K, kin, c⟩ nsp hmg0
    have e : (HandSHeadRun.topDef PL.L01.R0.prog 66).name = ("law" : PySem.Str) := by kernel_rfl
    rw [e] at hmg0
    have s := PL.SaysT.of (mk := PL.L01.mk) (xf := PL.L01.xf) (xv := PL.L01.xv) (fa := PL.L01.fa) (fn := PL.L01.fn) (cs := PL.L01.cs) kin nsp c
    exact PL.law_end s.t s.hT (fun base tb => PL.L01.all_of s tb) (s.g.fun0 45 rfl 64 rfl) hmg0 PL.L01.bn_law s.g.kin PL.C.law_true_01

