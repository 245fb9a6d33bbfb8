import PyProof.Rows.All
import Wide.All
import OpenK.AllK
import Wide.FinOn
import HandS.ForMost
import HandS.Exc
import HandS.TryOnly
import HandS.ExcOwn
import HandS.WordsExc
import HandS.CallSlots
import HandS.IsInst
import HandS.More
import KE.KDictKeyed
import HandS.TupAny
import HandS.TupMul
import HandS.Deep
import HandS.Style
import PySem.Challenge.RW_mirrorstrips_k01_strips_and_patterns_rec
set_option Elab.async false
set_option linter.all false
set_option maxRecDepth 100000
set_option maxHeartbeats 4000000
set_option autoImplicit false
/-! DL1: values as trees, slots, the relation between an environment of trees and the abstract heap, the judgements. -/
namespace DL
open PySem PySem.Spec PyProof.Rows L2

/-! ### values -/
inductive D where
  | non | bl (b : Bool) | int (i : Int) | str (cs : List Nat) | tup (ds : List D) | lst (ds : List D) | dct (ks vs : List D) | dcn (ks vs : List D) | seq (ns : List Int) | fn (n : Nat)
inductive M where
  | lst (ds : List D) | dct (ks vs : List D) | dcn (ks vs : List D)
def M.toD : M → D
  | .lst ds => .lst ds
  | .dct ks vs => .dct ks vs
  | .dcn ks vs => .dcn ks vs
inductive Slot where
  | non | imm (d : D) | own (m : M) | bor (m : M)
abbrev Env := List Slot
structure Ex where
  cls : Nat
  arg : Option D
inductive Out (α : Type) where
  | ok (a : α) (ρ : Env) | exc (x : Ex) (ρ : Env) | bad
inductive Res where
  | imm (d : D) | new (m : M)
inductive Pk where
  | res (r : Res) | at (i : Nat)
inductive SOut where
  | nx (ρ : Env) | rt (r : Res) (ρ : Env) | bk (ρ : Env) | ct (ρ : Env) | exc (x : Ex) (ρ : Env) | bad
inductive FOut where
  | ret (r : Res) (m : Option M) | exc (x : Ex) (m : Option M) | bad
abbrev Fn := List Slot → FOut
abbrev Sg := List (Option V)
abbrev EV := Env → Out Pk
abbrev SV := Env → SOut
def Res.toD : Res → D
  | .imm d => d
  | .new m => m.toD
def Slot.obj? : Slot → Option M
  | .own m => some m
  | .bor m => some m
  | _ => none
/-- what a peeked value is now -/
def Pk.view (ρ : Env) : Pk → Option D
  | .res r => some r.toD
  | .at i => (ρ[i]?).bind fun s => s.obj?.map M.toD

def cstr (cs : List Nat) : Str := ⟨cs.toArray⟩
theorem cstr_inj {a b : List Nat} (h : cstr a = cstr b) : a = b := by
  injection h with h
  exact congrArg Array.toList h
theorem cstr_of (s : Str) : cstr s.cps.toList = s := by cases s; simp [cstr]
theorem cstr_len (cs : List Nat) : (cstr cs).length = cs.length := by simp [cstr, Str.length]

mutual
def D.key : D → Option NestedKey
  | .int i => some (.num i)
  | .str cs => some (.text (cstr cs))
  | .tup ds => (D.keys ds).map .tup
  | _ => none
def D.keys : List D → Option (List NestedKey)
  | [] => some []
  | d :: ds => match D.key d, D.keys ds with
    | some k, some ks => some (k :: ks)
    | _, _ => none
end

/-! ### the static part -/
structure Gm where
  P : Program
  w : World
  K : PySem.W.Frag
  fa : Nat → Option Addr
  ca : Nat → Option Value
  T : List (Addr × Str)

def TupA (K : PySem.W.Frag) (H : Hp) (a : Addr) (xs : List V) : Prop :=
  H a = some (.tup xs) ∨ ∃ (o : Obj) (its : Array Value) (n : Nat), K.lookup a = some o ∧ o.cls = .type "tuple" ∧ o.data = .seq its n ∧ its.size ≤ sizeLine ∧ Vals xs its.toList
theorem TupA.sq {K : PySem.W.Frag} {H : Hp} {a : Addr} {xs : List V} (h : TupA K H a xs) : SqT K H a xs := by
  rcases h with h | h
  · exact .inl (.inl h)
  · exact .inr h

/-- the script: locked, or of the written part -/
def SeqA (K : PySem.W.Frag) (H : Hp) (a : Addr) (xs : List V) : Prop :=
  (∃ o, H a = some (.frz o (.lst xs))) ∨ ∃ (o : Obj) (its : Array Value) (n : Nat), K.lookup a = some o ∧ o.cls = .type "list" ∧ o.dict = none ∧ o.data = .seq its n ∧ its.size ≤ sizeLine ∧ Vals xs its.toList
theorem SeqA.sq {K : PySem.W.Frag} {H : Hp} {a : Addr} {xs : List V} (h : SeqA K H a xs) : SqL K H a xs := by
  rcases h with h | h
  · exact .inl (.inr h)
  · exact .inr h
/-- a dict whose keys are tuples, nested -/
def dNP (G : Gm) (a : Addr) (xs : List (NestedKey × Addr × Value)) : Heap → Prop := fun h =>
  xs.length ≤ sizeLine ∧ (a == sysModules) = false ∧ ∃ o es ep, h.get? a = some o ∧ o.ExactDict ∧ o.data = .dict es ep ∧ es.toList = xs.map (entryOfKey (nestedKind G.P G.w)) ∧ (xs.map (·.1)).Nodup
def dNO (G : Gm) (a : Addr) (xs : List (NestedKey × Addr × Value)) : HO := .ext (dNP G a xs)

def keyD : Key → D
  | .inl i => .int i
  | .inr s => .str s.cps.toList
/-- a dict of the written part, its keys texts -/
def KDL (K : PySem.W.Frag) (w : World) (a : Addr) (ks : List D) (vals : List V) : Prop := ks.length = vals.length ∧ ∀ (i : Nat) (k : D), ks[i]? = some k → ∃ s v, k = .str s ∧ vals[i]? = some v ∧ KDct K w a (cstr s) v
mutual
inductive Imm (G : Gm) (H : Hp) : V → D → Prop
  | non : Imm G H .non .non
  | bl (b : Bool) : Imm G H (.bl b) (.bl b)
  | int (i : Int) : Imm G H (.int i) (.int i)
  | str (cs : List Nat) (h : (cs.all (· < 0x110000)) = true) (hl : cs.length ≤ sizeLine) : Imm G H (.str (cstr cs)) (.str cs)
  | tup {a : Addr} {xs : List V} {ds : List D} (h : TupA G.K H a xs) (r : ImmL G H xs ds) (hl : ds.length ≤ sizeLine) : Imm G H (.ref a) (.tup ds)
  | lst {a : Addr} {o : Obj} {xs : List V} {ds : List D} (h : H a = some (.frz o (.lst xs))) (r : ImmL G H xs ds) (hl : ds.length ≤ sizeLine) : Imm G H (.ref a) (.lst ds)
  | dcn {a : Addr} {o : Obj} {xs : List (NestedKey × Addr × Value)} {vals : List V} {ks vs : List D} (h : H a = some (.frz o (dNO G a xs)))
      (hv : Vals vals (xs.map (·.2.2))) (hk : ks.map D.key = xs.map fun x => some x.1) (rk : ImmL G H (xs.map fun x => V.ref x.2.1) ks) (rv : ImmL G H vals vs) : Imm G H (.ref a) (.dcn ks vs)
  | dck {a : Addr} {o : Obj} {kvs : List (Key × V)} {ks vs : List D} (h : H a = some (.frz o (.dK kvs))) (hk : ks = kvs.map fun p => keyD p.1) (rv : ImmL G H (kvs.map (·.2)) vs) : Imm G H (.ref a) (.dct ks vs)
  | kdc {a : Addr} {vals : List V} {ks vs : List D} (h : KDL G.K G.w a ks vals) (rv : ImmL G H vals vs) : Imm G H (.ref a) (.dct ks vs)
  | seq {a : Addr} {ns : List Int} (h : SeqA G.K H a (ns.map V.int)) : Imm G H (.ref a) (.seq ns)
  | fn {n : Nat} {a : Addr} (h : G.fa n = some a) : Imm G H (.ref a) (.fn n)
inductive ImmL (G : Gm) (H : Hp) : List V → List D → Prop
  | nil : ImmL G H [] []
  | cons {v : V} {d : D} {vs : List V} {ds : List D} (h : Imm G H v d) (t : ImmL G H vs ds) : ImmL G H (v :: vs) (d :: ds)
end

/-- an own mutable object -/
inductive Obm (G : Gm) (H : Hp) (a : Addr) : M → Prop
  | lst {xs : List V} {ds : List D} (h : H a = some (.lst xs)) (r : ImmL G H xs ds) (hl : ds.length ≤ sizeLine) : Obm G H a (.lst ds)
  | dcn {xs : List (NestedKey × Addr × Value)} {vals : List V} {ks vs : List D} (h : H a = some (dNO G a xs))
      (hv : Vals vals (xs.map (·.2.2))) (hk : ks.map D.key = xs.map fun x => some x.1) (rk : ImmL G H (xs.map fun x => V.ref x.2.1) ks) (rv : ImmL G H vals vs) : Obm G H a (.dcn ks vs)

  | dck {kvs : List (Key × V)} {ks vs : List D} (h : H a = some (.dK kvs)) (hk : ks = kvs.map fun p => keyD p.1) (rv : ImmL G H (kvs.map (·.2)) vs) : Obm G H a (.dct ks vs)

/-! ### frames -/
/-- what never changes -/
def Pst : HO → Prop
  | .tup _ => True
  | .frz _ _ => True
  | _ => False
def NTab (o : HO) : Prop := ∀ ps, o ≠ .tbl ps
structure Fr (T : List (Addr × Str)) (A : Addr → Prop) (H H' : Hp) : Prop where
  keep : ∀ b o, H b = some o → NTab o → (Pst o ∨ ¬ A b) → H' b = some o
  dom : ∀ b, H b ≠ none → H' b ≠ none
theorem Fr.refl {T : List (Addr × Str)} {A : Addr → Prop} {H : Hp} : Fr T A H H := ⟨fun _ _ h _ _ => h, fun _ h => h⟩
theorem Fr.trans {T : List (Addr × Str)} {A : Addr → Prop} {H H1 H2 : Hp} (a : Fr T A H H1) (b : Fr T A H1 H2) : Fr T A H H2 :=
  ⟨fun c o h n p => b.keep c o (a.keep c o h n p) n p, fun c h => b.dom c (a.dom c h)⟩
theorem Fr.mono {T : List (Addr × Str)} {A B : Addr → Prop} {H H' : Hp} (a : Fr T A H H') (h : ∀ b, A b → B b) : Fr T B H H' :=
  ⟨fun c o q n p => a.keep c o q n (p.imp id fun z y => z (h c y)), a.dom⟩
theorem Fr.new {T : List (Addr × Str)} {A : Addr → Prop} {H : Hp} {p : Addr} {o : HO} (h : H p = none) : Fr T A H (upd H p o) :=
  ⟨fun b u q _ _ => by rw [upd_ne (ne_of_none q h)]; exact q, fun b q => by
    by_cases e : b = p
    · subst e; rw [upd_same]; exact fun z => nomatch z
    · rw [upd_ne e]; exact q⟩
/-- persistence -/
def Ps (H H' : Hp) : Prop := ∀ b o, H b = some o → Pst o → H' b = some o
theorem Pst.ntab {o : HO} (h : Pst o) : NTab o := fun ps e => by subst e; exact h
theorem Fr.ps {T : List (Addr × Str)} {A : Addr → Prop} {H H' : Hp} (f : Fr T A H H') : Ps H H' := fun b o h p => f.keep b o h p.ntab (.inl p)
theorem Ps.trans {H H1 H2 : Hp} (a : Ps H H1) (b : Ps H1 H2) : Ps H H2 := fun c o h p => b c o (a c o h p) p
theorem TupA.ps {K : PySem.W.Frag} {H H' : Hp} {a : Addr} {xs : List V} (h : TupA K H a xs) (p : Ps H H') : TupA K H' a xs := by
  rcases h with h | h
  · exact .inl (p _ _ h trivial)
  · exact .inr h
theorem SeqA.ps {K : PySem.W.Frag} {H H' : Hp} {a : Addr} {xs : List V} (h : SeqA K H a xs) (p : Ps H H') : SeqA K H' a xs := by
  rcases h with ⟨o, h⟩ | h
  · exact .inl ⟨o, p _ _ h trivial⟩
  · exact .inr h
mutual
theorem Imm.ps {G : Gm} {H H' : Hp} (p : Ps H H') : ∀ {v : V} {d : D}, Imm G H v d → Imm G H' v d
  | _, _, .non => .non
  | _, _, .bl b => .bl b
  | _, _, .int i => .int i
  | _, _, .str s h l => .str s h l
  | _, _, .tup h r l => .tup (h.ps p) (ImmL.ps p r) l
  | _, _, .lst h r l => .lst (p _ _ h trivial) (ImmL.ps p r) l
  | _, _, .dcn h hv hk rk rv => .dcn (p _ _ h trivial) hv hk (ImmL.ps p rk) (ImmL.ps p rv)
  | _, _, .dck h hk rv => .dck (p _ _ h trivial) hk (ImmL.ps p rv)
  | _, _, .kdc h rv => .kdc h (ImmL.ps p rv)
  | _, _, .seq h => .seq (h.ps p)
  | _, _, .fn h => .fn h
theorem ImmL.ps {G : Gm} {H H' : Hp} (p : Ps H H') : ∀ {vs : List V} {ds : List D}, ImmL G H vs ds → ImmL G H' vs ds
  | _, _, .nil => .nil
  | _, _, .cons h t => .cons (Imm.ps p h) (ImmL.ps p t)
end
theorem ImmL.length {G : Gm} {H : Hp} : ∀ {vs : List V} {ds : List D}, ImmL G H vs ds → vs.length = ds.length
  | _, _, .nil => rfl
  | _, _, .cons _ t => by simp [ImmL.length t]
theorem ImmL.append {G : Gm} {H : Hp} : ∀ {vs us : List V} {ds es : List D}, ImmL G H vs ds → ImmL G H us es → ImmL G H (vs ++ us) (ds ++ es)
  | _, _, _, _, .nil, q => q
  | _, _, _, _, .cons h t, q => .cons h (t.append q)
theorem ImmL.get {G : Gm} {H : Hp} : ∀ {vs : List V} {ds : List D} {i : Nat} {d : D}, ImmL G H vs ds → ds[i]? = some d → ∃ v, vs[i]? = some v ∧ Imm G H v d
  | _, _, _, _, .nil, e => by simp at e
  | _, _, 0, _, .cons h t, e => by simp at e; subst e; exact ⟨_, rfl, h⟩
  | _, _, i + 1, _, .cons h t, e => by
    obtain ⟨v, q, r⟩ := t.get (i := i) (by simpa using e)
    exact ⟨v, by simpa using q, r⟩
theorem ImmL.get' {G : Gm} {H : Hp} : ∀ {vs : List V} {ds : List D} {i : Nat} {v : V}, ImmL G H vs ds → vs[i]? = some v → ∃ d, ds[i]? = some d ∧ Imm G H v d
  | _, _, _, _, .nil, e => by simp at e
  | _, _, 0, _, .cons h t, e => by simp at e; subst e; exact ⟨_, rfl, h⟩
  | _, _, i + 1, _, .cons h t, e => by
    obtain ⟨v, q, r⟩ := t.get' (i := i) (by simpa using e)
    exact ⟨v, by simpa using q, r⟩
theorem ImmL.set {G : Gm} {H : Hp} : ∀ {vs : List V} {ds : List D} (i : Nat) {v : V} {d : D}, ImmL G H vs ds → Imm G H v d → ImmL G H (vs.set i v) (ds.set i d)
  | _, _, _, _, _, .nil, _ => .nil
  | _, _, 0, _, _, .cons h t, q => .cons q t
  | _, _, i + 1, _, _, .cons h t, q => .cons h (t.set i q)
theorem ImmL.take {G : Gm} {H : Hp} : ∀ {vs : List V} {ds : List D} (i : Nat), ImmL G H vs ds → ImmL G H (vs.take i) (ds.take i)
  | _, _, 0, _ => by simpa using .nil
  | _, _, i + 1, .nil => .nil
  | _, _, i + 1, .cons h t => .cons h (t.take i)
theorem ImmL.drop {G : Gm} {H : Hp} : ∀ {vs : List V} {ds : List D} (i : Nat), ImmL G H vs ds → ImmL G H (vs.drop i) (ds.drop i)
  | _, _, 0, h => by simpa using h
  | _, _, i + 1, .nil => .nil
  | _, _, i + 1, .cons h t => by simpa using t.drop i
theorem ImmL.reverse {G : Gm} {H : Hp} : ∀ {vs : List V} {ds : List D}, ImmL G H vs ds → ImmL G H vs.reverse ds.reverse
  | _, _, .nil => .nil
  | _, _, .cons h t => by simpa using t.reverse.append (.cons h .nil)
theorem Obm.fr {G : Gm} {T : List (Addr × Str)} {A : Addr → Prop} {H H' : Hp} {a : Addr} {m : M} (h : Obm G H a m) (f : Fr T A H H') (n : ¬ A a) : Obm G H' a m := by
  cases h with
  | lst h r l => exact .lst (f.keep _ _ h (fun _ z => nomatch z) (.inr n)) (r.ps f.ps) l
  | dcn h hv hk rk rv => exact .dcn (f.keep _ _ h (fun _ z => nomatch z) (.inr n)) hv hk (rk.ps f.ps) (rv.ps f.ps)
  | dck h hk rv => exact .dck (f.keep _ _ h (fun _ z => nomatch z) (.inr n)) hk (rv.ps f.ps)
theorem Obm.is {G : Gm} {H : Hp} {a : Addr} {m : M} (h : Obm G H a m) : ∃ o, H a = some o ∧ NTab o ∧ Mut (some o) := by
  cases h with
  | lst h r l => exact ⟨_, h, (fun _ z => nomatch z), trivial⟩
  | dcn h hv hk rk rv => exact ⟨_, h, (fun _ z => nomatch z), trivial⟩
  | dck h hk rv => exact ⟨_, h, (fun _ z => nomatch z), trivial⟩
theorem Obm.ne {G : Gm} {H : Hp} {a : Addr} {m : M} (h : Obm G H a m) : H a ≠ none := by
  obtain ⟨o, e, _⟩ := h.is
  rw [e]; exact fun z => nomatch z

/-! ### the state -/
/-- a def's entry: the abstract heap, the borrowed object's address -/
structure Cn where
  G : Gm
  H0 : Hp
  B : Option Addr
inductive SlotR (G : Gm) (H : Hp) : Slot → Option V → Prop
  | non (v : Option V) : SlotR G H .non v
  | imm {d : D} {v : V} (h : Imm G H v d) : SlotR G H (.imm d) (some v)
  | own {m : M} {a : Addr} (h : Obm G H a m) : SlotR G H (.own m) (some (.ref a))
  | bor {m : M} {a : Addr} (h : Obm G H a m) : SlotR G H (.bor m) (some (.ref a))
def OwnAt (ρ : Env) (σ : Sg) (i : Nat) (a : Addr) : Prop := σ[i]? = some (some (.ref a)) ∧ ∃ s m, ρ[i]? = some s ∧ s.obj? = some m
/-- Tabs keeps while the tables grow -/
abbrev TabsOk (G : Gm) (H : Hp) : Prop := ∀ p ∈ G.T, ∃ ps, H p.1 = some (.tbl ps)
structure Stt (c : Cn) (A : Addr → Prop) (ρ : Env) (σ : Sg) (H : Hp) : Prop where
  len : σ.length = ρ.length
  slot : ∀ (i : Nat) s, ρ[i]? = some s → ∃ v, σ[i]? = some v ∧ SlotR c.G H s v
  inj : ∀ i j a, OwnAt ρ σ i a → OwnAt ρ σ j a → i = j
  inA : ∀ i a, OwnAt ρ σ i a → A a
  live : ∀ a, A a → H a ≠ none
  base : ∀ b o, c.H0 b = some o → NTab o → (Pst o ∨ c.B ≠ some b) → H b = some o
  dom : ∀ b, c.H0 b ≠ none → H b ≠ none
  oldA : ∀ a, A a → c.H0 a = none ∨ c.B = some a
  ownN : ∀ (i : Nat) a m, ρ[i]? = some (.own m) → σ[i]? = some (some (.ref a)) → c.H0 a = none
  borN : ∀ (i : Nat) a m, ρ[i]? = some (.bor m) → σ[i]? = some (some (.ref a)) → i = 0 ∧ c.B = some a
  bAll : ∀ a, c.B = some a → c.H0 a ≠ none

section
variable {c : Cn} {A : Addr → Prop} {ρ ρ' : Env} {σ : Sg} {H H' : Hp}
theorem Stt.is (h : Stt c A ρ σ H) {i : Nat} {s : Slot} (e : ρ[i]? = some s) {m : M} (q : s.obj? = some m) : ∃ a, OwnAt ρ σ i a ∧ Obm c.G H a m := by
  obtain ⟨v, hv, r⟩ := h.slot i s e
  cases r with
  | non v => cases q
  | imm h => cases q
  | own h => cases q; exact ⟨_, ⟨hv, _, _, e, rfl⟩, h⟩
  | bor h => cases q; exact ⟨_, ⟨hv, _, _, e, rfl⟩, h⟩
theorem SlotR.fr {G : Gm} {T : List (Addr × Str)} {A : Addr → Prop} {s : Slot} {v : Option V} (r : SlotR G H s v) (f : Fr T A H H') (n : ∀ m a, s.obj? = some m → v = some (.ref a) → ¬ A a) : SlotR G H' s v := by
  cases r with
  | non v => exact .non v
  | imm h => exact .imm (h.ps f.ps)
  | own h => exact .own (h.fr f (n _ _ rfl rfl))
  | bor h => exact .bor (h.fr f (n _ _ rfl rfl))
/-- a new thing is laid beside -/
theorem Stt.grow (h : Stt c A ρ σ H) (f : Fr c.G.T (fun _ => False) H H') : Stt c A ρ σ H' where
  len := h.len
  slot := fun i s e => by
    obtain ⟨v, hv, r⟩ := h.slot i s e
    exact ⟨v, hv, r.fr f fun _ _ _ _ z => z⟩
  inj := h.inj
  inA := h.inA
  live := fun a q => f.dom a (h.live a q)
  base := fun b o q n p => f.keep b o (h.base b o q n p) n (.inr fun z => z)
  dom := fun b q => f.dom b (h.dom b q)
  oldA := h.oldA
  ownN := h.ownN
  borN := h.borN
  bAll := h.bAll
/-- another set of owned places -/
theorem Stt.own (h : Stt c A ρ σ H) : Stt c (fun a => ∃ i, OwnAt ρ σ i a) ρ σ H := { h with
  inA := fun i a q => ⟨i, q⟩
  live := fun a ⟨i, q⟩ => h.live a (h.inA i a q)
  oldA := fun a ⟨i, q⟩ => h.oldA a (h.inA i a q) }
end

/-! ### what a value is -/
inductive ResR (G : Gm) (H0 H : Hp) : V → Res → Prop
  | imm {v : V} {d : D} (h : Imm G H v d) : ResR G H0 H v (.imm d)
  | new {a : Addr} {m : M} (h : Obm G H a m) (n : H0 a = none) : ResR G H0 H (.ref a) (.new m)
inductive PkR (c : Cn) (A : Addr → Prop) (H0 H : Hp) (σ : Sg) : V → Pk → Prop
  | res {v : V} {r : Res} (h : ResR c.G H0 H v r) : PkR c A H0 H σ v (.res r)
  | at {v : V} {i : Nat} (h : σ[i]? = some (some v)) : PkR c A H0 H σ v (.at i)
/-- an exception: class, own dict -/
inductive ExR (G : Gm) (H : Hp) : Ex → Value → Option Addr → Prop
  | plain {n : Nat} {cls : Value} (h : G.ca n = some cls) : ExR G H ⟨n, none⟩ cls none
  | arg {n : Nat} {d : D} {cls : Value} {a : Addr} {f : Str} {v : V} (h : G.ca n = some cls) (ha : H a = some (.xd [(f, v)])) (hv : Imm G H v d) : ExR G H ⟨n, some d⟩ cls (some a)
inductive Vw (G : Gm) (H : Hp) : V → D → Prop
  | imm {v : V} {d : D} (h : Imm G H v d) : Vw G H v d
  | obj {a : Addr} {m : M} (h : Obm G H a m) : Vw G H (.ref a) m.toD

section
variable {c : Cn} {A : Addr → Prop} {ρ ρ' : Env} {σ : Sg} {H0 H H' H1 : Hp}
theorem ResR.fr {G : Gm} {T : List (Addr × Str)} {v : V} {r : Res} (h : ResR G H0 H v r) (f : Fr T A H H') (live : ∀ a, A a → H0 a ≠ none) : ResR G H0 H' v r := by
  cases h with
  | imm h => exact .imm (h.ps f.ps)
  | new h n => exact .new (h.fr f fun z => live _ z n) n
theorem PkR.fr {v : V} {k : Pk} (h : PkR c A H0 H σ v k) (f : Fr c.G.T A H H') (live : ∀ a, A a → H0 a ≠ none) : PkR c A H0 H' σ v k := by
  cases h with
  | res h => exact .res (h.fr f live)
  | «at» h => exact .at h
theorem ResR.old {G : Gm} {T : List (Addr × Str)} {v : V} {r : Res} (h : ResR G H1 H v r) (f : Fr T A H0 H1) : ResR G H0 H v r := by
  cases h with
  | imm h => exact .imm h
  | @new a _ h n => exact .new h (Classical.byContradiction fun z => f.dom a z n)
theorem PkR.old {v : V} {k : Pk} (h : PkR c A H1 H σ v k) (f : Fr c.G.T A H0 H1) : PkR c A H0 H σ v k := by
  cases h with
  | res h => exact .res (h.old f)
  | «at» h => exact .at h
theorem PkR.view {v : V} {k : Pk} {d : D} (h : PkR c A H0 H σ v k) (s : Stt c A ρ σ H) (e : k.view ρ = some d) : Vw c.G H v d := by
  cases h with
  | res h =>
    cases h with
    | imm h => cases e; exact .imm h
    | new h n => cases e; exact .obj h
  | @«at» i h =>
    simp only [Pk.view] at e
    cases q : ρ[i]? with
    | none => rw [q] at e; cases e
    | some sl =>
      rw [q] at e
      simp only [Option.bind_some] at e
      cases q2 : sl.obj? with
      | none => rw [q2] at e; cases e
      | some m =>
        rw [q2] at e
        cases e
        obtain ⟨a, ⟨ha, _⟩, ho⟩ := s.is q q2
        rw [h] at ha
        cases ha
        exact .obj ho
end

/-! ### the judgements -/
/-- what is wanted of exceptions -/
abbrev Wx := L2.WX
def Out.post {α : Type} (o : Out α) (ok : α → Env → Prop) (ex : Ex → Env → Prop) : Prop :=
  match o with
  | .ok a ρ => ok a ρ
  | .exc x ρ => ex x ρ
  | .bad => False
def Out.bind {α β : Type} (o : Out α) (k : α → Env → Out β) : Out β :=
  match o with
  | .ok a ρ => k a ρ
  | .exc x ρ => .exc x ρ
  | .bad => .bad
theorem Out.post_bind {α β : Type} {o : Out α} {k : α → Env → Out β} {ok : β → Env → Prop} {ex : Ex → Env → Prop} : (o.bind k).post ok ex = o.post (fun a ρ => (k a ρ).post ok ex) ex := by
  cases o <;> rfl
theorem Out.post_imp {α : Type} {o : Out α} {ok ok' : α → Env → Prop} {ex ex' : Ex → Env → Prop} (h : o.post ok ex) (h1 : ∀ a ρ, ok a ρ → ok' a ρ) (h2 : ∀ x ρ, ex x ρ → ex' x ρ) : o.post ok' ex' := by
  cases o with
  | ok a ρ => exact h1 a ρ h
  | exc x ρ => exact h2 x ρ h
  | bad => exact h
/-- the post of a peeked value, of a test, of an exception -/
def kP (c : Cn) (A : Addr → Prop) (H : Hp) (σ : Sg) (Q : VK) : Pk → Env → Prop := fun k ρ' => ∀ v H', Stt c A ρ' σ H' → Fr c.G.T A H H' → PkR c A H H' σ v k → Q v H'
def kX (c : Cn) (W : Wx) (A : Addr → Prop) (H : Hp) (σ : Sg) : Ex → Env → Prop := fun x ρ' => ∀ cls d H', Stt c A ρ' σ H' → Fr c.G.T A H H' → ExR c.G H' x cls d → W cls d σ H'
def kB (c : Cn) (A : Addr → Prop) (H : Hp) (σ : Sg) (Q : Bool → Hp → Prop) : Bool → Env → Prop := fun b ρ' => ∀ H', Stt c A ρ' σ H' → Fr c.G.T A H H' → Q b H'
def tP (c : Cn) (W : Wx) (f : EV) : TE := fun σ H Q => ∃ ρ A, Stt c A ρ σ H ∧ (f ρ).post (kP c A H σ Q) (kX c W A H σ)
def tT (c : Cn) (W : Wx) (f : Env → Out Bool) : TT := fun σ H Q => ∃ ρ A, Stt c A ρ σ H ∧ (f ρ).post (kB c A H σ Q) (kX c W A H σ)
/-- the returned value of a def -/
inductive RetR (c : Cn) (H : Hp) : V → Res → Prop
  | imm {v : V} {d : D} (h : Imm c.G H v d) : RetR c H v (.imm d)
  | new {a : Addr} {m : M} (h : Obm c.G H a m) (n : c.H0 a = none) : RetR c H (.ref a) (.new m)
def sP (c : Cn) (W : Wx) (H : Hp) (D : Ends) : SOut → Prop
  | .nx ρ' => ∀ σ' H' A', Stt c A' ρ' σ' H' → Ps H H' → D.nx σ' H'
  | .bk ρ' => ∀ σ' H' A', Stt c A' ρ' σ' H' → Ps H H' → D.bk σ' H'
  | .ct ρ' => ∀ σ' H' A', Stt c A' ρ' σ' H' → Ps H H' → D.ct σ' H'
  | .rt r ρ' => ∀ v σ' H' A', Stt c A' ρ' σ' H' → Ps H H' → RetR c H' v r → D.rt v H'
  | .exc x ρ' => ∀ cls d σ' H' A', Stt c A' ρ' σ' H' → Ps H H' → ExR c.G H' x cls d → W cls d σ' H'
  | .bad => False
def tS (c : Cn) (W : Wx) (f : SV) : TS := fun D σ H => ∃ ρ A, Stt c A ρ σ H ∧ sP c W H D (f ρ)
/-- the context X is one of this program, at this entry -/
structure XOk (c : Cn) (W : Wx) (X : Cx) : Prop where
  P : X.prog = c.G.P
  w : X.w = c.G.w
  K : X.K = c.G.K
  calm : X.calm = true
  tk : Takes X W
  un : X.A.units + 64 < cLine
def DX (c : Cn) (W : Wx) (X : Cx) (e : Expr) (f : EV) : Prop := PE X e (tP c W f)
def DT (c : Cn) (W : Wx) (X : Cx) (e : Expr) (f : Env → Out Bool) : Prop := PT X e (tT c W f)
def DS (c : Cn) (W : Wx) (X : Cx) (st : Stmt) (f : SV) : Prop := PS X st (tS c W f)
def DSs (c : Cn) (W : Wx) (X : Cx) (sts : List Stmt) (f : SV) : Prop := PSs X sts (tS c W f)

theorem PE.imp {X : Cx} {e : Expr} {t t' : TE} (h : PE X e t) (i : ∀ σ H Q, t' σ H Q → t σ H Q) : PE X e t' := ⟨fun pins s σ H Q I q => h.run pins s σ H Q I (i _ _ _ q)⟩
theorem PT.imp {X : Cx} {e : Expr} {t t' : TT} (h : PT X e t) (i : ∀ σ H Q, t' σ H Q → t σ H Q) : PT X e t' := ⟨fun pins s σ H Q I q => h.run pins s σ H Q I (i _ _ _ q)⟩
theorem PS.imp {X : Cx} {e : Stmt} {t t' : TS} (h : PS X e t) (i : ∀ D σ H, t' D σ H → t D σ H) : PS X e t' := ⟨fun pins s σ H Q I q => h.run pins s σ H Q I (i _ _ _ q)⟩
theorem PSs.imp {X : Cx} {e : List Stmt} {t t' : TS} (h : PSs X e t) (i : ∀ D σ H, t' D σ H → t D σ H) : PSs X e t' := ⟨fun pins s σ H Q I q => h.run pins s σ H Q I (i _ _ _ q)⟩
end DL
/-! DL2: expressions. -/
namespace DL
open PySem PySem.Spec PyProof.Rows L2

section
variable {c : Cn} {W : Wx} {X : Cx} {A : Addr → Prop} {ρ : Env} {σ : Sg} {H0 H : Hp}
theorem cut {f : EV} {R : VK} (S : Stt c A ρ σ H) (F : Fr c.G.T A H0 H) (h : (f ρ).post (kP c A H σ R) (kX c W A H0 σ)) : tP c W f σ H R :=
  ⟨ρ, A, S, Out.post_imp h (fun k ρ1 q => q) fun x ρ1 q cls d H1 S1 F1 E1 => q cls d H1 S1 (F.trans F1) E1⟩
theorem cutT {f : Env → Out Bool} {R : Bool → Hp → Prop} (S : Stt c A ρ σ H) (F : Fr c.G.T A H0 H) (h : (f ρ).post (kB c A H σ R) (kX c W A H0 σ)) : tT c W f σ H R :=
  ⟨ρ, A, S, Out.post_imp h (fun k ρ1 q => q) fun x ρ1 q cls d H1 S1 F1 E1 => q cls d H1 S1 (F.trans F1) E1⟩
/-- the operand's end goes on -/
theorem kP_go {Q : VK} {k : Pk} {R : VK} (h : ∀ v H', Stt c A ρ σ H' → Fr c.G.T A H0 H' → PkR c A H0 H' σ v k → R v H') : kP c A H0 σ R k ρ := h

/-! ### names, constants -/
def eV (i : Nat) : EV := fun ρ => match ρ[i]? with
  | some (.imm d) => .ok (.res (.imm d)) ρ
  | some (.own _) => .ok (.at i) ρ
  | some (.bor _) => .ok (.at i) ρ
  | _ => .bad
def eC (d : D) : EV := fun ρ => .ok (.res (.imm d)) ρ
theorem dx_var (i : Nat) {x : Str} {pos : Pos} (hN : X.N[i]? = some x := by rfl) (hv : Vis X.env.scope x := by first | exact Or.inl rfl | exact Or.inr (Or.inl rfl) | exact Or.inr (Or.inr rfl))
    (hd : (x == ("__debug__" : Str)) = false := by decide) (hcd : (x == ("__classdict__" : Str)) = false := by decide) : DX c W X (.Name x pos) (eV i) := by
  refine PE.imp (pe_var (i := i) hN hv hd hcd) fun σ H Q ⟨ρ, A, S, h⟩ => ?_
  unfold eV at h
  split at h
  · rename_i d e
    obtain ⟨v, hv, r⟩ := S.slot i _ e
    cases r with
    | @imm d v r => exact ⟨v, hv, h v H S .refl (.res (.imm r))⟩
  · rename_i m e
    obtain ⟨v, hv, r⟩ := S.slot i _ e
    cases r with
    | own r => exact ⟨_, hv, h _ H S .refl (.at hv)⟩
  · rename_i m e
    obtain ⟨v, hv, r⟩ := S.slot i _ e
    cases r with
    | bor r => exact ⟨_, hv, h _ H S .refl (.at hv)⟩
  · exact h.elim
theorem dx_int {i : Int} {j : Nat} {pos : Pos} : DX c W X (.Constant (.int i) j pos) (eC (.int i)) :=
  PE.imp pe_int fun σ H Q ⟨ρ, A, S, h⟩ => h _ H S .refl (.res (.imm (.int i)))
theorem dx_bl {b : Bool} {j : Nat} {pos : Pos} : DX c W X (.Constant (.bool b) j pos) (eC (.bl b)) :=
  PE.imp pe_bl fun σ H Q ⟨ρ, A, S, h⟩ => h _ H S .refl (.res (.imm (.bl b)))
theorem dx_non {j : Nat} {pos : Pos} : DX c W X (.Constant .none j pos) (eC .non) :=
  PE.imp pe_non fun σ H Q ⟨ρ, A, S, h⟩ => h _ H S .refl (.res (.imm .non))
theorem dx_str (cs : List Nat) {x : Str} {j : Nat} {pos : Pos} (e : cstr cs = x := by decide +kernel) (h1 : (cs.all (· < 0x110000)) = true := by decide) (h2 : cs.length ≤ 1000 := by decide) : DX c W X (.Constant (.str x) j pos) (eC (.str cs)) := by
  subst e
  exact PE.imp pe_str fun σ H Q ⟨ρ, A, S, h⟩ => h _ H S .refl (.res (.imm (.str cs h1 (Nat.le_trans h2 (by decide)))))
/-- a module's constant -/
theorem dx_glob {x : Str} {d : D} {v : V} {u : Value} {pos : Pos} (hg : Gl X x) (hm : X.mg x = some u) (r : RelV v u) (hi : ∀ H, Imm c.G H v d) (hd : (x == ("__debug__" : Str)) = false := by decide) : DX c W X (.Name x pos) (eC d) :=
  PE.imp (pe_glob hg hm r hd) fun σ H Q ⟨ρ, A, S, h⟩ => h _ H S .refl (.res (.imm (hi H)))

/-! ### freezing -/
/-- the value as a tree; a mutable object is frozen -/
def frzE (f : EV) : EV := fun ρ => (f ρ).bind fun k ρ' => match k with
  | .res r => .ok (.res (.imm r.toD)) ρ'
  | .at i => match ρ'[i]? with
    | some (.own m) => .ok (.res (.imm m.toD)) (ρ'.set i (.imm m.toD))
    | _ => .bad
theorem Obm.freeze {G : Gm} {H : Hp} {a : Addr} {m : M} (h : Obm G H a m) : ∃ u, H a = some u ∧ Mut (some u) ∧ ∀ o, Imm G (upd H a (.frz o u)) (.ref a) m.toD := by
  cases h with
  | @lst xs ds h r l =>
    refine ⟨_, h, trivial, fun o => .lst upd_same (r.ps fun b u e p => ?_) l⟩
    rw [upd_ne (fun z => by subst z; rw [h] at e; cases e; exact p)]; exact e
  | @dcn xs vals ks vs h hv hk rk rv =>
    have ps : ∀ o, Ps H (upd H a (.frz o (dNO G a xs))) := fun o b u e p => by
      rw [upd_ne (fun z => by subst z; rw [h] at e; cases e; exact p)]; exact e
    exact ⟨_, h, trivial, fun o => .dcn upd_same hv hk (rk.ps (ps o)) (rv.ps (ps o))⟩
  | @dck kvs ks vs h hk rv =>
    refine ⟨_, h, trivial, fun o => .dck upd_same hk (rv.ps fun b u e p => ?_)⟩
    rw [upd_ne (fun z => by subst z; rw [h] at e; cases e; exact p)]; exact e
theorem Fr.freeze {T : List (Addr × Str)} {B : Addr → Prop} {H : Hp} {a : Addr} {u : HO} {o : Obj} (h : H a = some u) (mu : Mut (some u)) (hB : B a) : Fr T B H (upd H a (.frz o u)) where
  keep := fun b w e n p => by
    by_cases z : b = a
    · subst z
      rw [h] at e; cases e
      rcases p with p | p
      · cases u <;> first | exact p.elim | exact mu.elim
      · exact (p hB).elim
    · rw [upd_ne z]; exact e
  dom := fun b q => by
    by_cases z : b = a
    · subst z; rw [upd_same]; exact fun q => nomatch q
    · rw [upd_ne z]; exact q
/-- lock what has come -/
theorem pe_lockIf {e : Expr} {t : TE} (h : PE X e t) : PE X e (fun σ H Q => t σ H fun v H1 => Q v H1 ∨ ∃ a u, v = .ref a ∧ H1 a = some u ∧ Mut (some u) ∧ ∀ o, Q v (upd H1 a (.frz o u))) := by
  refine ⟨fun pins s σ H Q I q => thn (h.run pins s σ H _ I q) fun u s1 ⟨v, H1, I1, r, q1⟩ => ?_⟩
  rcases q1 with q1 | ⟨a, w, rfl, ha, mu, q1⟩
  · exact ⟨v, H1, I1, r, q1⟩
  · obtain ⟨od, I2⟩ := I1.lock ha mu
    exact ⟨_, _, I2, r, q1 od⟩
theorem dx_frz {e : Expr} {f : EV} (h : DX c W X e f) : DX c W X e (frzE f) := by
  refine PE.imp (pe_lockIf h) fun σ H Q ⟨ρ, A, S, hp⟩ => cut S .refl ?_
  unfold frzE at hp
  rw [Out.post_bind] at hp
  refine Out.post_imp hp (fun k ρ1 q v H1 S1 F1 R1 => ?_) fun _ _ q => q
  cases R1 with
  | res R1 =>
    cases R1 with
    | @imm _ d hI => exact .inl (q v H1 S1 F1 (.res (.imm hI)))
    | @new a m ho n =>
      obtain ⟨u, hu, mu, him⟩ := ho.freeze
      refine .inr ⟨a, u, rfl, hu, mu, fun o => ?_⟩
      have nA : ¬ A a := fun z => S.live a z n
      have F2 : Fr c.G.T (fun b => b = a) H1 (upd H1 a (.frz o u)) := Fr.freeze hu mu rfl
      have F3 : Fr c.G.T A H (upd H1 a (.frz o u)) := by
        refine ⟨fun b w e nt p => ?_, fun b z => F2.dom b (F1.dom b z)⟩
        have ne : b ≠ a := fun z => by subst z; rw [n] at e; cases e
        exact F2.keep b w (F1.keep b w e nt p) nt (.inr ne)
      refine q _ _ ⟨S1.len, fun i s e => ?_, S1.inj, S1.inA, fun b z => F2.dom b (S1.live b z), fun b w e nt p => ?_, fun b z => F2.dom b (S1.dom b z), S1.oldA, S1.ownN, S1.borN, S1.bAll⟩ F3 (.res (.imm (him o)))
      · obtain ⟨v', hv', r'⟩ := S1.slot i s e
        refine ⟨v', hv', r'.fr F2 fun m' a' hm hv'' z => ?_⟩
        subst z hv''
        exact nA (S1.inA i _ ⟨hv', s, m', e, hm⟩)
      · by_cases z : b = a
        · subst z
          have := S.dom b
          rw [e] at this
          exact (this (fun q => nomatch q) n).elim
        · exact F2.keep b w (S1.base b w e nt p) nt (.inr z)
  | @«at» i hv =>
    simp only at q
    cases e : ρ1[i]? with
    | none => rw [e] at q; exact q.elim
    | some sl =>
      rw [e] at q
      cases sl with
      | non => exact q.elim
      | imm d => exact q.elim
      | bor m => exact q.elim
      | own m =>
        obtain ⟨a, ⟨ha, own⟩, ho⟩ := S1.is e (m := m) rfl
        rw [hv] at ha; cases ha
        obtain ⟨u, hu, mu, him⟩ := ho.freeze
        refine .inr ⟨a, u, rfl, hu, mu, fun o => ?_⟩
        have hA : A a := S1.inA i a ⟨hv, own⟩
        have hi : i < ρ1.length := (List.getElem?_eq_some_iff.mp e).1
        have F2 : Fr c.G.T (fun b => b = a) H1 (upd H1 a (.frz o u)) := Fr.freeze hu mu rfl
        have sub : ∀ {j b}, OwnAt (ρ1.set i (.imm m.toD)) σ j b → OwnAt ρ1 σ j b ∧ j ≠ i := fun {j b} ⟨h1, s', m', h2, h3⟩ => by
          by_cases z : j = i
          · subst z
            rw [List.getElem?_set_self hi] at h2
            cases h2; cases h3
          · rw [List.getElem?_set_ne (Ne.symm z)] at h2
            exact ⟨⟨h1, s', m', h2, h3⟩, z⟩
        refine q _ _ ⟨by rw [List.length_set]; exact S1.len, fun j s' e' => ?_, fun j k b x y => S1.inj j k b (sub x).1 (sub y).1, fun j b x => S1.inA j b (sub x).1, fun b z => F2.dom b (S1.live b z), fun b w e' nt p => ?_, fun b z => F2.dom b (S1.dom b z), S1.oldA, fun j b m' e' h' => ?_, fun j b m' e' h' => ?_, S1.bAll⟩ (F1.trans (F2.mono fun b z => z ▸ hA)) (.res (.imm (him o)))
        · by_cases z : j = i
          · subst z
            rw [List.getElem?_set_self hi] at e'
            cases e'
            exact ⟨_, hv, .imm (him o)⟩
          · rw [List.getElem?_set_ne (Ne.symm z)] at e'
            obtain ⟨v', hv', r'⟩ := S1.slot j s' e'
            refine ⟨v', hv', r'.fr F2 fun m' a' hm hv'' zz => ?_⟩
            subst zz hv''
            exact z (S1.inj j i _ ⟨hv', s', m', e', hm⟩ ⟨hv, own⟩)
        · by_cases z : b = a
          · subst z
            have h0 := S1.ownN i b m e hv
            rw [h0] at e'; cases e'
          · exact F2.keep b w (S1.base b w e' nt p) nt (.inr z)
        · by_cases z : j = i
          · subst z; rw [List.getElem?_set_self hi] at e'; cases e'
          · rw [List.getElem?_set_ne (Ne.symm z)] at e'; exact S1.ownN j b m' e' h'
        · by_cases z : j = i
          · subst z; rw [List.getElem?_set_self hi] at e'; cases e'
          · rw [List.getElem?_set_ne (Ne.symm z)] at e'; exact S1.borN j b m' e' h'

/-! ### two places -/
/-- the value of an operation, by the trees -/
def ofRes (r : Option Res) (ρ : Env) : Out Pk := match r with
  | some r => .ok (.res r) ρ
  | none => .bad
def e2 (g : D → D → Option Res) (f1 f2 : EV) : EV := fun ρ => (f1 ρ).bind fun a ρ1 => (f2 ρ1).bind fun b ρ2 => match a.view ρ2, b.view ρ2 with
  | some x, some y => ofRes (g x y) ρ2
  | _, _ => .bad
def OpG (G : Gm) (r : R2) (g : D → D → Option Res) : Prop := ∀ (H : Hp) (x y : V) (d1 d2 : D) (rs : Res), Vw G H x d1 → Vw G H y d2 → g d1 d2 = some rs →
  ∀ Q : VK, (∀ v H', Fr G.T (fun _ => False) H H' → ResR G H H' v rs → Q v H') → r x y H Q
theorem ofRes_post {r : Option Res} {ρ : Env} {ok : Pk → Env → Prop} {ex : Ex → Env → Prop} (h : (ofRes r ρ).post ok ex) : ∃ rs, r = some rs ∧ ok (.res rs) ρ := by
  cases r with
  | none => exact h.elim
  | some rs => exact ⟨rs, rfl, h⟩
/-- behind an operation that lays at most new things -/
theorem fin1 {R : VK} {rs : Res} {v : V} {H1 H' : Hp} (q : kP c A H0 σ R (.res rs) ρ) (S : Stt c A ρ σ H1) (F : Fr c.G.T A H0 H1) (F1 : Fr c.G.T (fun _ => False) H1 H') (r : ResR c.G H1 H' v rs) : R v H' :=
  q v H' (S.grow F1) (F.trans (F1.mono fun _ z => z.elim)) (.res (r.old F))
theorem use2 {r : R2} {g : D → D → Option Res} (hg : OpG c.G r g) {f1 f2 : EV} {Q : VK} (h : tP c W (e2 g f1 f2) σ H Q) : tOp r (tP c W f1) (tP c W f2) σ H Q := by
  obtain ⟨ρ, A, S, h⟩ := h
  refine cut S .refl ?_
  unfold e2 at h
  rw [Out.post_bind] at h
  refine Out.post_imp h (fun k1 ρ1 q v1 H1 S1 F1 R1 => cut S1 F1 ?_) fun _ _ q => q
  rw [Out.post_bind] at q
  refine Out.post_imp q (fun k2 ρ2 q v2 H2 S2 F2 R2 => ?_) fun _ _ q => q
  split at q
  · rename_i x y e1 e2
    obtain ⟨rs, e3, q⟩ := ofRes_post q
    exact hg H2 v1 v2 x y rs ((R1.fr F2 S.live).view S2 e1) (R2.view S2 e2) e3 Q fun v H' F' r' => fin1 q S2 (F1.trans F2) F' r'
  · exact q.elim
theorem dx_op2 {op : Operator} {r : R2} {g : D → D → Option Res} (ho : OpR X (binaryOp op) r) (hg : OpG c.G r g) {a b : Expr} {f1 f2 : EV} {pos : Pos} (ha : DX c W X a f1) (hb : DX c W X b f2) : DX c W X (.BinOp a op b pos) (e2 g f1 f2) :=
  PE.imp (pe_op ho ha hb) fun _ _ _ h => use2 hg h
theorem dx_cmp {op : CmpOp} {r : R2} {g : D → D → Option Res} (ho : OpR X (compareOp op) r) (hg : OpG c.G r g) {a b : Expr} {f1 f2 : EV} {pos : Pos} (ha : DX c W X a f1) (hb : DX c W X b f2) (hm : behindInMarks op b = false) : DX c W X (.Compare a [op] [b] pos) (e2 g f1 f2) :=
  PE.imp (pe_cmpR ho ha hb hm) fun _ _ _ h => use2 hg h
end
end DL
namespace DL
open PySem PySem.Spec PyProof.Rows L2

/-! ### trees as data -/
mutual
def D.py : D → Option PyData
  | .non => some .none
  | .bl b => some (.bool b)
  | .int i => some (.int i)
  | .str cs => some (.str (cstr cs))
  | .tup ds => (D.pys ds).map .tuple
  | .lst ds => (D.pys ds).map .list
  | .dct _ _ => none
  | .dcn _ _ => none
  | .seq _ => none
  | .fn _ => none
def D.pys : List D → Option (List PyData)
  | [] => some []
  | d :: ds => (D.py d).bind fun p => (D.pys ds).map fun ps => p :: ps
end
mutual
def D.dep : D → Nat
  | .non => 0
  | .bl _ => 0
  | .int _ => 0
  | .str _ => 0
  | .tup ds => D.deps ds + 1
  | .lst ds => D.deps ds + 1
  | .dct _ _ => 1000
  | .dcn _ _ => 1000
  | .seq _ => 1000
  | .fn _ => 1000
def D.deps : List D → Nat
  | [] => 0
  | d :: ds => max (D.dep d) (D.deps ds)
end
mutual
def D.eqv : D → D → Bool
  | .non, .non => true
  | .bl a, .bl b => a == b
  | .bl a, .int j => (if a then 1 else 0) == j
  | .int i, .bl b => i == (if b then 1 else 0)
  | .int i, .int j => i == j
  | .str a, .str b => a == b
  | .tup a, .tup b => D.eqvs a b
  | .lst a, .lst b => D.eqvs a b
  | _, _ => false
def D.eqvs : List D → List D → Bool
  | [], [] => true
  | d :: ds, e :: es => D.eqv d e && D.eqvs ds es
  | _, _ => false
end
theorem cstr_beq (a b : List Nat) : (cstr a == cstr b) = (a == b) := by
  by_cases h : a = b
  · subst h; simp
  · rw [beq_eq_false_iff_ne.mpr h]
    exact beq_eq_false_iff_ne.mpr fun e => h (cstr_inj e)
mutual
theorem D.py_of : ∀ (d : D), d.dep ≤ 64 → ∃ p, d.py = some p ∧ p.depth = d.dep
  | .non, _ => ⟨_, rfl, rfl⟩
  | .bl _, _ => ⟨_, rfl, rfl⟩
  | .int _, _ => ⟨_, rfl, rfl⟩
  | .str _, _ => ⟨_, rfl, rfl⟩
  | .tup ds, h => by
    have h' : D.deps ds + 1 ≤ 64 := h
    obtain ⟨ps, e, q⟩ := D.pys_of ds (by omega)
    exact ⟨.tuple ps, by simp [D.py, e], by simp [PyData.depth, D.dep, q]⟩
  | .lst ds, h => by
    have h' : D.deps ds + 1 ≤ 64 := h
    obtain ⟨ps, e, q⟩ := D.pys_of ds (by omega)
    exact ⟨.list ps, by simp [D.py, e], by simp [PyData.depth, D.dep, q]⟩
  | .dct _ _, h => by simp [D.dep] at h
  | .dcn _ _, h => by simp [D.dep] at h
  | .seq _, h => by simp [D.dep] at h
  | .fn _, h => by simp [D.dep] at h
theorem D.pys_of : ∀ (ds : List D), D.deps ds ≤ 64 → ∃ ps, D.pys ds = some ps ∧ PyData.depthAll ps = D.deps ds
  | [], _ => ⟨[], rfl, rfl⟩
  | d :: ds, h => by
    have h' : max (D.dep d) (D.deps ds) ≤ 64 := h
    obtain ⟨p, e, q⟩ := D.py_of d (by omega)
    obtain ⟨ps, es, qs⟩ := D.pys_of ds (by omega)
    exact ⟨p :: ps, by simp [D.pys, e, es], by simp [PyData.depthAll, D.deps, q, qs]⟩
end
mutual
theorem D.eqv_py : ∀ (d e : D) (p q : PyData), d.py = some p → e.py = some q → PyData.eqv p q = D.eqv d e
  | .tup a, .tup b, p, q, h1, h2 => by
    simp only [D.py, Option.map_eq_some_iff] at h1 h2
    obtain ⟨ps, e1, rfl⟩ := h1
    obtain ⟨qs, e2, rfl⟩ := h2
    simp only [PyData.eqv, D.eqv]
    exact D.eqvs_py a b ps qs e1 e2
  | .lst a, .lst b, p, q, h1, h2 => by
    simp only [D.py, Option.map_eq_some_iff] at h1 h2
    obtain ⟨ps, e1, rfl⟩ := h1
    obtain ⟨qs, e2, rfl⟩ := h2
    simp only [PyData.eqv, D.eqv]
    exact D.eqvs_py a b ps qs e1 e2
  | .str a, .str b, p, q, h1, h2 => by
    simp only [D.py, Option.some.injEq] at h1 h2
    subst h1; subst h2
    simp only [PyData.eqv, D.eqv]
    exact cstr_beq a b
  | .non, e, p, q, h1, h2 => by
    cases e <;> simp only [D.py, Option.some.injEq, Option.map_eq_some_iff] at h1 h2 <;> first | (subst h1; subst h2; simp [PyData.eqv, D.eqv]) | (subst h1; obtain ⟨_, _, rfl⟩ := h2; simp [PyData.eqv, D.eqv]) | cases h2
  | .bl _, e, p, q, h1, h2 => by
    cases e <;> simp only [D.py, Option.some.injEq, Option.map_eq_some_iff] at h1 h2 <;> first | (subst h1; subst h2; simp [PyData.eqv, D.eqv]) | (subst h1; obtain ⟨_, _, rfl⟩ := h2; simp [PyData.eqv, D.eqv]) | cases h2
  | .int _, e, p, q, h1, h2 => by
    cases e <;> simp only [D.py, Option.some.injEq, Option.map_eq_some_iff] at h1 h2 <;> first | (subst h1; subst h2; simp [PyData.eqv, D.eqv]) | (subst h1; obtain ⟨_, _, rfl⟩ := h2; simp [PyData.eqv, D.eqv]) | cases h2
  | .str _, .non, p, q, h1, h2 | .str _, .bl _, p, q, h1, h2 | .str _, .int _, p, q, h1, h2 | .str _, .tup _, p, q, h1, h2 | .str _, .lst _, p, q, h1, h2 | .str _, .dct _ _, p, q, h1, h2 | .str _, .dcn _ _, p, q, h1, h2 | .str _, .seq _, p, q, h1, h2 | .str _, .fn _, p, q, h1, h2 => by
    simp only [D.py, Option.some.injEq, Option.map_eq_some_iff] at h1 h2 <;> first | (subst h1; subst h2; simp [PyData.eqv, D.eqv]) | (subst h1; obtain ⟨_, _, rfl⟩ := h2; simp [PyData.eqv, D.eqv]) | cases h2
  | .tup _, .non, p, q, h1, h2 | .tup _, .bl _, p, q, h1, h2 | .tup _, .int _, p, q, h1, h2 | .tup _, .str _, p, q, h1, h2 | .tup _, .lst _, p, q, h1, h2 | .tup _, .dct _ _, p, q, h1, h2 | .tup _, .dcn _ _, p, q, h1, h2 | .tup _, .seq _, p, q, h1, h2 | .tup _, .fn _, p, q, h1, h2 => by
    simp only [D.py, Option.some.injEq, Option.map_eq_some_iff] at h1 h2 <;> first | (obtain ⟨_, _, rfl⟩ := h1; subst h2; simp [PyData.eqv, D.eqv]) | (obtain ⟨_, _, rfl⟩ := h1; obtain ⟨_, _, rfl⟩ := h2; simp [PyData.eqv, D.eqv]) | cases h2
  | .lst _, .non, p, q, h1, h2 | .lst _, .bl _, p, q, h1, h2 | .lst _, .int _, p, q, h1, h2 | .lst _, .str _, p, q, h1, h2 | .lst _, .tup _, p, q, h1, h2 | .lst _, .dct _ _, p, q, h1, h2 | .lst _, .dcn _ _, p, q, h1, h2 | .lst _, .seq _, p, q, h1, h2 | .lst _, .fn _, p, q, h1, h2 => by
    simp only [D.py, Option.some.injEq, Option.map_eq_some_iff] at h1 h2 <;> first | (obtain ⟨_, _, rfl⟩ := h1; subst h2; simp [PyData.eqv, D.eqv]) | (obtain ⟨_, _, rfl⟩ := h1; obtain ⟨_, _, rfl⟩ := h2; simp [PyData.eqv, D.eqv]) | cases h2
  | .dct _ _, _, _, _, h1, _ => nomatch h1
  | .dcn _ _, _, _, _, h1, _ => nomatch h1
  | .seq _, _, _, _, h1, _ => nomatch h1
  | .fn _, _, _, _, h1, _ => nomatch h1
theorem D.eqvs_py : ∀ (ds es : List D) (ps qs : List PyData), D.pys ds = some ps → D.pys es = some qs → PyData.eqvAll ps qs = D.eqvs ds es
  | [], [], ps, qs, h1, h2 => by
    simp only [D.pys, Option.some.injEq] at h1 h2
    subst h1; subst h2; rfl
  | d :: ds, e :: es, ps, qs, h1, h2 => by
    simp only [D.pys, Option.bind_eq_some_iff, Option.map_eq_some_iff] at h1 h2
    obtain ⟨p, e1, ps', e2, rfl⟩ := h1
    obtain ⟨q, f1, qs', f2, rfl⟩ := h2
    simp only [PyData.eqvAll, D.eqvs, D.eqv_py d e p q e1 f1, D.eqvs_py ds es ps' qs' e2 f2]
  | [], e :: es, ps, qs, h1, h2 => by
    simp only [D.pys, Option.some.injEq, Option.bind_eq_some_iff, Option.map_eq_some_iff] at h1 h2
    obtain ⟨q, f1, qs', f2, rfl⟩ := h2
    subst h1; rfl
  | d :: ds, [], ps, qs, h1, h2 => by
    simp only [D.pys, Option.some.injEq, Option.bind_eq_some_iff, Option.map_eq_some_iff] at h1 h2
    obtain ⟨q, f1, qs', f2, rfl⟩ := h1
    subst h2; rfl
end

section
variable {G : Gm} {H : Hp}
mutual
theorem Imm.dp : ∀ {v : V} {d : D} {p : PyData}, Imm G H v d → d.py = some p → Dp G.K H v p ∧ p.canLay0 = true
  | _, _, p, .non, h => by cases h; exact ⟨.non, rfl⟩
  | _, _, p, .bl b, h => by cases h; exact ⟨.bl b, rfl⟩
  | _, _, p, .int i, h => by cases h; exact ⟨.int i, rfl⟩
  | _, _, p, .str cs h1 h2, h => by
    cases h
    refine ⟨.str _, ?_⟩
    simp only [PyData.canLay0, PyData.strOk, cstr]
    simpa using h1
  | _, _, p, .tup ht r _, h => by
    simp only [D.py, Option.map_eq_some_iff] at h
    obtain ⟨ps, e, rfl⟩ := h
    obtain ⟨h1, h2⟩ := ImmL.dp r e
    exact ⟨.tup ht.sq h1, by simpa [PyData.canLay0] using h2⟩
  | _, _, p, .lst ht r _, h => by
    simp only [D.py, Option.map_eq_some_iff] at h
    obtain ⟨ps, e, rfl⟩ := h
    obtain ⟨h1, h2⟩ := ImmL.dp r e
    exact ⟨.lst (.inl (.inr ⟨_, ht⟩)) h1, by simpa [PyData.canLay0] using h2⟩
  | _, _, _, .dcn .., h => nomatch h
  | _, _, _, .dck .., h => nomatch h
  | _, _, _, .kdc .., h => nomatch h
  | _, _, _, .seq .., h => nomatch h
  | _, _, _, .fn .., h => nomatch h
theorem ImmL.dp : ∀ {vs : List V} {ds : List D} {ps : List PyData}, ImmL G H vs ds → D.pys ds = some ps → DpAll G.K H vs ps ∧ PyData.canLayAll0 ps = true
  | _, _, ps, .nil, h => by cases h; exact ⟨.nil, rfl⟩
  | _, _, ps, .cons hv t, h => by
    simp only [D.pys, Option.bind_eq_some_iff, Option.map_eq_some_iff] at h
    obtain ⟨p, e, ps', e', rfl⟩ := h
    obtain ⟨h1, h2⟩ := Imm.dp hv e
    obtain ⟨h3, h4⟩ := ImmL.dp t e'
    exact ⟨.cons h1 h3, by simp [PyData.canLayAll0, h2, h4]⟩
end
theorem Vw.dp {v : V} {d : D} {p : PyData} (h : Vw G H v d) (e : d.py = some p) : Dp G.K H v p ∧ p.canLay0 = true := by
  cases h with
  | imm h => exact h.dp e
  | obj h =>
    cases h with
    | lst h r hl =>
      simp only [M.toD, D.py, Option.map_eq_some_iff] at e
      obtain ⟨ps, e, rfl⟩ := e
      obtain ⟨h1, h2⟩ := r.dp e
      exact ⟨.lst (SqL.of h) h1, by simpa [PyData.canLay0] using h2⟩
    | dcn => cases e
    | dck => cases e
theorem Vw.shaped {v : V} {d : D} (h : Vw G H v d) (e : d.dep ≤ 64) : ∃ p, d.py = some p ∧ Dp G.K H v p ∧ SeqAt.shaped p = true := by
  obtain ⟨p, hp, hd⟩ := D.py_of d e
  obtain ⟨h1, h2⟩ := h.dp hp
  exact ⟨p, hp, h1, by simp [SeqAt.shaped, h2, hd, e]⟩
theorem Vw.lst {v : V} {ds : List D} (h : Vw G H v (.lst ds)) : ∃ a xs, v = .ref a ∧ Rd H a (.lst xs) ∧ ImmL G H xs ds ∧ ds.length ≤ sizeLine := by
  generalize e : D.lst ds = d at h
  cases h with
  | imm h => cases h <;> first | (cases e; exact ⟨_, _, rfl, .inr ⟨_, by assumption⟩, by assumption, by assumption⟩) | cases e
  | obj h =>
    cases h with
    | lst h r hl => cases e; exact ⟨_, _, rfl, .inl h, r, hl⟩
    | dcn => cases e
    | dck => cases e
theorem Vw.tup {v : V} {ds : List D} (h : Vw G H v (.tup ds)) : ∃ a xs, v = .ref a ∧ TupA G.K H a xs ∧ ImmL G H xs ds ∧ ds.length ≤ sizeLine := by
  generalize e : D.tup ds = d at h
  cases h with
  | imm h => cases h <;> first | (cases e; exact ⟨_, _, rfl, by assumption, by assumption, by assumption⟩) | cases e
  | obj h =>
    cases h with
    | lst h r hl => cases e
    | dcn => cases e
    | dck => cases e
theorem Vw.int {v : V} {i : Int} (h : Vw G H v (.int i)) : v = .int i := by
  generalize e : D.int i = d at h
  cases h with
  | imm h => cases h <;> first | (cases e; rfl) | cases e
  | obj h => cases h <;> cases e
theorem Vw.bl {v : V} {i : Bool} (h : Vw G H v (.bl i)) : v = .bl i := by
  generalize e : D.bl i = d at h
  cases h with
  | imm h => cases h <;> first | (cases e; rfl) | cases e
  | obj h => cases h <;> cases e
theorem Vw.str {v : V} {cs : List Nat} (h : Vw G H v (.str cs)) : v = .str (cstr cs) ∧ (cs.all (· < 0x110000)) = true ∧ cs.length ≤ sizeLine := by
  generalize e : D.str cs = d at h
  cases h with
  | imm h => cases h <;> first | (cases e; exact ⟨rfl, by assumption, by assumption⟩) | cases e
  | obj h => cases h <;> cases e
theorem Vw.seq {v : V} {ns : List Int} (h : Vw G H v (.seq ns)) : ∃ a, v = .ref a ∧ SeqA G.K H a (ns.map V.int) := by
  generalize e : D.seq ns = d at h
  cases h with
  | imm h => cases h <;> first | (cases e; exact ⟨_, rfl, by assumption⟩) | cases e
  | obj h => cases h <;> cases e
/-- nothing new -/
theorem fin_imm {Q : VK} {rs : Res} {v : V} {d : D} (k : ∀ v H', Fr G.T (fun _ => False) H H' → ResR G H H' v rs → Q v H') (e : rs = .imm d) (h : Imm G H v d) : Q v H := by
  subst e; exact k v H .refl (.imm h)
theorem fin_tup {Q : VK} {rs : Res} {p : Addr} {xs : List V} {ds : List D} (k : ∀ v H', Fr G.T (fun _ => False) H H' → ResR G H H' v rs → Q v H') (e : rs = .imm (.tup ds)) (hp : H p = none) (r : ImmL G H xs ds) (hl : ds.length ≤ sizeLine) : Q (.ref p) (upd H p (.tup xs)) := by
  subst e; exact k _ _ (.new hp) (.imm (.tup (.inl upd_same) (r.ps (Fr.new (T := G.T) (A := fun _ => False) hp).ps) hl))
theorem fin_lst {Q : VK} {rs : Res} {p : Addr} {xs : List V} {ds : List D} (k : ∀ v H', Fr G.T (fun _ => False) H H' → ResR G H H' v rs → Q v H') (e : rs = .new (.lst ds)) (hp : H p = none) (r : ImmL G H xs ds) (hl : ds.length ≤ sizeLine) : Q (.ref p) (upd H p (.lst xs)) := by
  subst e; exact k _ _ (.new hp) (.new (.lst upd_same (r.ps (Fr.new (T := G.T) (A := fun _ => False) hp).ps) hl) hp)
end

/-! ### operators by their rules -/
section
variable {X : Cx} {c : Cn}
theorem OpR.or {f : Value → Value → Sem Value} {r r' : R2} (h : OpR X f r) (h' : OpR X f r') : OpR X f (fun x y H Q => r x y H Q ∨ r' x y H Q) := by
  intro pins s σ H x y v u Q I rx ry q
  rcases q with q | q
  · exact h pins s σ H x y v u Q I rx ry q
  · exact h' pins s σ H x y v u Q I rx ry q
/-- a list that is read, frozen or not -/
theorem rdl {pins : List (Addr × Obj)} {σ : Sg} {H : Hp} {s : Shared} {a : Addr} {xs : List V} (I : Inv X pins σ H s) (h : Rd H a (.lst xs)) :
    ∃ (ys : List Value) (k : Nat), Vals xs ys ∧ xs.length = ys.length ∧ s.heap.get? a = some { cls := .type "list", data := .seq ys.toArray k } := by
  obtain ⟨_, ys, k, r, e⟩ := h.ok I.hok
  exact ⟨ys, k, r, r.length, e⟩
def rCatQ : R2 := fun x y H Q => ∃ a b xs ys, x = .ref a ∧ y = .ref b ∧ Rd H a (.lst xs) ∧ Rd H b (.lst ys) ∧ xs.length + ys.length ≤ sizeLine ∧ ∀ p, H p = none → Q (.ref p) (upd H p (.lst (xs ++ ys)))
theorem op_catQ : OpR X (binaryOp .Add) rCatQ := by
  intro pins s σ H x y v u Q I rx ry ⟨a, b, xs, ys, ex, ey, h1, h2, hl, q⟩
  subst ex; subst ey
  cases rx; cases ry
  obtain ⟨us, n, r, l1, e⟩ := rdl I h1
  obtain ⟨ws, m, r', l2, e'⟩ := rdl I h2
  have sz : us.toArray.size + ws.toArray.size ≤ sizeLine := by simp only [List.size_toArray]; omega
  refine PySem.P.add_list e e' ?_ sz
  rw [List.append_toArray]
  exact ⟨.ref _, _, I.lnew (t' := s.toks) (Vals.append r r') (by simp only [List.length_append]; exact hl), rfl, q _ I.fresh⟩
def addG : D → D → Option Res
  | .int i, .int j => some (.imm (.int (i + j)))
  | .str a, .str b => if a.length + b.length ≤ sizeLine then some (.imm (.str (a ++ b))) else none
  | .tup a, .tup b => if a.length + b.length ≤ sizeLine then some (.imm (.tup (a ++ b))) else none
  | .lst a, .lst b => if a.length + b.length ≤ sizeLine then some (.new (.lst (a ++ b))) else none
  | _, _ => none
theorem op_addG : OpR X (binaryOp .Add) (fun x y H Q => rI0 (fun i j => .int (i + j)) x y H Q ∨ (∃ i j, x = .str i ∧ y = .str j ∧ i.length + j.length ≤ sizeLine ∧ Q (.str (i ++ j)) H) ∨ rCatA X.K x y H Q ∨ rCatQ x y H Q) :=
  op_add.or (op_add_str.or (op_catA.or op_catQ))
theorem cstr_app (a b : List Nat) : cstr a ++ cstr b = cstr (a ++ b) := by
  show (⟨(cstr a).cps ++ (cstr b).cps⟩ : Str) = _
  simp [cstr]
theorem addG_ok (hK : X.K = c.G.K) : OpG c.G (fun x y H Q => rI0 (fun i j => .int (i + j)) x y H Q ∨ (∃ i j, x = .str i ∧ y = .str j ∧ i.length + j.length ≤ sizeLine ∧ Q (.str (i ++ j)) H) ∨ rCatA X.K x y H Q ∨ rCatQ x y H Q) addG := by
  intro H x y d e rs hx hy hg Q k
  unfold addG at hg
  split at hg
  · cases hg
    exact .inl ⟨_, _, hx.int, hy.int, k _ _ .refl (.imm (.int _))⟩
  · split at hg
    · rename_i a b hl
      cases hg
      obtain ⟨e1, h1, l1⟩ := hx.str
      obtain ⟨e2, h2, l2⟩ := hy.str
      refine .inr (.inl ⟨_, _, e1, e2, by rw [cstr_len, cstr_len]; exact hl, ?_⟩)
      rw [cstr_app]
      exact k _ _ .refl (.imm (.str _ (by rw [List.all_append, h1, h2]; rfl) (by rw [List.length_append]; exact hl)))
    · cases hg
  · split at hg
    · rename_i a b hl
      cases hg
      obtain ⟨p, xs, rfl, h1, r1, l1⟩ := hx.tup
      obtain ⟨q, ys, rfl, h2, r2, l2⟩ := hy.tup
      refine .inr (.inr (.inl ⟨p, q, xs, ys, rfl, rfl, hK ▸ h1.sq, hK ▸ h2.sq, by rw [r1.length, r2.length]; exact hl, fun z => ?_, fun z1 z2 => ?_, fun z1 z2 w hw => ?_⟩))
      · subst z; cases r1
        exact k _ _ .refl (.imm (.tup h2 r2 l2))
      · subst z2; cases r2
        simp only [List.append_nil] at k
        exact k _ _ .refl (.imm (.tup h1 r1 l1))
      · exact fin_tup k rfl hw (r1.append r2) (by rw [List.length_append]; exact hl)
    · cases hg
  · split at hg
    · rename_i a b hl
      cases hg
      obtain ⟨p, xs, rfl, h1, r1, l1⟩ := hx.lst
      obtain ⟨q, ys, rfl, h2, r2, l2⟩ := hy.lst
      exact .inr (.inr (.inr ⟨p, q, xs, ys, rfl, rfl, h1, h2, by rw [r1.length, r2.length]; exact hl, fun w hw => fin_lst k rfl hw (r1.append r2) (by rw [List.length_append]; exact hl)⟩))
    · cases hg
  · cases hg

/-- two whole numbers -/
def intG (C : Int → Int → Bool) (g : Int → Int → D) : D → D → Option Res
  | .int i, .int j => if C i j then some (.imm (g i j)) else none
  | _, _ => none
theorem intG_ok {C : Int → Int → Prop} {Cb : Int → Int → Bool} {g : Int → Int → V} {gd : Int → Int → D} (hC : ∀ i j, Cb i j = true → C i j) (hg : ∀ (H : Hp) i j, Imm c.G H (g i j) (gd i j)) : OpG c.G (rI C g) (intG Cb gd) := by
  intro H x y d e rs hx hy h Q k
  unfold intG at h
  split at h
  · split at h
    · rename_i hc
      cases h
      exact ⟨_, _, hx.int, hy.int, hC _ _ hc, k _ _ .refl (.imm (hg _ _ _))⟩
    · cases h
  · cases h
theorem intG_ok0 {g : Int → Int → V} {gd : Int → Int → D} (hg : ∀ (H : Hp) i j, Imm c.G H (g i j) (gd i j)) : OpG c.G (rI0 g) (intG (fun _ _ => true) gd) := by
  intro H x y d e rs hx hy h Q k
  unfold intG at h
  split at h
  · cases h
    exact ⟨_, _, hx.int, hy.int, k _ _ .refl (.imm (hg _ _ _))⟩
  · cases h
abbrev subG : D → D → Option Res := intG (fun _ _ => true) fun i j => .int (i - j)
abbrev fdivG : D → D → Option Res := intG (fun _ j => decide (j ≠ 0 ∧ j.natAbs < 1073741824)) fun i j => .int (i.fdiv j)
abbrev modG : D → D → Option Res := intG (fun _ j => decide (j ≠ 0)) fun i j => .int (i.fmod j)
abbrev powG : D → D → Option Res := intG (fun i j => decide (0 ≤ j ∧ j ≤ 1000000 ∧ i.natAbs < 2 ^ 64)) fun i j => .int (i ^ j.toNat)
abbrev ltG : D → D → Option Res := intG (fun _ _ => true) fun i j => .bl (decide (i < j))
abbrev leG : D → D → Option Res := intG (fun _ _ => true) fun i j => .bl (decide (i ≤ j))
abbrev gtG : D → D → Option Res := intG (fun _ _ => true) fun i j => .bl (decide (j < i))
abbrev geG : D → D → Option Res := intG (fun _ _ => true) fun i j => .bl (decide (j ≤ i))
def eqG (d e : D) : Option Res := if d.dep ≤ 64 ∧ e.dep ≤ 64 then some (.imm (.bl (D.eqv d e))) else none
def neG (d e : D) : Option Res := if d.dep ≤ 64 ∧ e.dep ≤ 64 then some (.imm (.bl (!D.eqv d e))) else none
theorem eqG_ok : OpG c.G (rEqD c.G.K) eqG := by
  intro H x y d e rs hx hy h Q k
  unfold eqG at h
  split at h
  · rename_i hd
    cases h
    obtain ⟨p, hp, h1, s1⟩ := hx.shaped hd.1
    obtain ⟨q, hq, h2, s2⟩ := hy.shaped hd.2
    refine ⟨p, q, h1, h2, s1, s2, ?_⟩
    rw [D.eqv_py d e p q hp hq]
    exact k _ _ .refl (.imm (.bl _))
  · cases h
theorem neG_ok : OpG c.G (rNeD c.G.K) neG := by
  intro H x y d e rs hx hy h Q k
  unfold neG at h
  split at h
  · rename_i hd
    cases h
    obtain ⟨p, hp, h1, s1⟩ := hx.shaped hd.1
    obtain ⟨q, hq, h2, s2⟩ := hy.shaped hd.2
    refine ⟨p, q, h1, h2, s1, s2, ?_⟩
    rw [D.eqv_py d e p q hp hq]
    exact k _ _ .refl (.imm (.bl _))
  · cases h
end
end DL
namespace DL
open PySem PySem.Spec PyProof.Rows L2

/-! ### argument lists -/
abbrev AV := Env → Out (List Pk)
def aNil : AV := fun ρ => .ok [] ρ
def aCons (f : EV) (g : AV) : AV := fun ρ => (f ρ).bind fun k ρ1 => (g ρ1).bind fun ks ρ2 => .ok (k :: ks) ρ2
inductive PkL (c : Cn) (A : Addr → Prop) (H0 H : Hp) (σ : Sg) : List V → List Pk → Prop
  | nil : PkL c A H0 H σ [] []
  | cons {v : V} {k : Pk} {vs : List V} {ks : List Pk} (h : PkR c A H0 H σ v k) (t : PkL c A H0 H σ vs ks) : PkL c A H0 H σ (v :: vs) (k :: ks)
inductive VwL (G : Gm) (H : Hp) : List V → List D → Prop
  | nil : VwL G H [] []
  | cons {v : V} {d : D} {vs : List V} {ds : List D} (h : Vw G H v d) (t : VwL G H vs ds) : VwL G H (v :: vs) (d :: ds)
def views (ρ : Env) : List Pk → Option (List D)
  | [] => some []
  | k :: ks => match k.view ρ, views ρ ks with
    | some d, some ds => some (d :: ds)
    | _, _ => none
section
variable {c : Cn} {W : Wx} {X : Cx} {A : Addr → Prop} {ρ : Env} {σ : Sg} {H0 H H' H1 : Hp}
theorem PkL.fr : ∀ {vs : List V} {ks : List Pk}, PkL c A H0 H σ vs ks → Fr c.G.T A H H' → (∀ a, A a → H0 a ≠ none) → PkL c A H0 H' σ vs ks
  | _, _, .nil, _, _ => .nil
  | _, _, .cons h t, f, l => .cons (h.fr f l) (t.fr f l)
theorem PkL.old : ∀ {vs : List V} {ks : List Pk}, PkL c A H1 H σ vs ks → Fr c.G.T A H0 H1 → PkL c A H0 H σ vs ks
  | _, _, .nil, _ => .nil
  | _, _, .cons h t, f => .cons (h.old f) (t.old f)
theorem PkL.view (S : Stt c A ρ σ H) : ∀ {vs : List V} {ks : List Pk} {ds : List D}, PkL c A H0 H σ vs ks → views ρ ks = some ds → VwL c.G H vs ds
  | _, _, _, .nil, e => by cases e; exact .nil
  | _, _, _, .cons (k := k) (ks := ks) h t, e => by
    unfold views at e
    cases h1 : k.view ρ with
    | none => simp [h1] at e
    | some d =>
      cases h2 : views ρ ks with
      | none => simp [h1, h2] at e
      | some ds => simp [h1, h2] at e; subst e; exact .cons (h.view S h1) (t.view S h2)
def kA (c : Cn) (A : Addr → Prop) (H : Hp) (σ : Sg) (Q : List V → Hp → Prop) : List Pk → Env → Prop := fun ks ρ' => ∀ vs H', Stt c A ρ' σ H' → Fr c.G.T A H H' → PkL c A H H' σ vs ks → Q vs H'
def tA (c : Cn) (W : Wx) (f : AV) : TA := fun σ H Q => ∃ ρ A, Stt c A ρ σ H ∧ (f ρ).post (kA c A H σ Q) (kX c W A H σ)
def DA (c : Cn) (W : Wx) (X : Cx) (es : List Expr) (f : AV) : Prop := PA X es (tA c W f)
theorem PA.imp {X : Cx} {es : List Expr} {t t' : TA} (h : PA X es t) (i : ∀ σ H Q, t' σ H Q → t σ H Q) : PA X es t' := ⟨fun pos pins s σ H Q I q => h.run pos pins s σ H Q I (i _ _ _ q)⟩
theorem cutA {f : AV} {R : List V → Hp → Prop} (S : Stt c A ρ σ H) (F : Fr c.G.T A H0 H) (h : (f ρ).post (kA c A H σ R) (kX c W A H0 σ)) : tA c W f σ H R :=
  ⟨ρ, A, S, Out.post_imp h (fun k ρ1 q => q) fun x ρ1 q cls d H1 S1 F1 E1 => q cls d H1 S1 (F.trans F1) E1⟩
theorem da_nil : DA c W X [] aNil := PA.imp pa_nil fun σ H Q ⟨ρ, A, S, h⟩ => h [] H S .refl .nil
theorem da_cons {e : Expr} {es : List Expr} {f : EV} {g : AV} (ha : DX c W X e f) (hr : DA c W X es g) (hs : starEach (e :: es) X.env = (false, eval e X.env) :: starEach es X.env := by rfl) : DA c W X (e :: es) (aCons f g) := by
  refine PA.imp (pa_cons ha hr hs) fun σ H Q ⟨ρ, A, S, h⟩ => cut S .refl ?_
  unfold aCons at h
  rw [Out.post_bind] at h
  refine Out.post_imp h (fun k ρ1 q v H1 S1 F1 R1 => cutA S1 F1 ?_) fun _ _ q => q
  rw [Out.post_bind] at q
  refine Out.post_imp q (fun ks ρ2 q vs H2 S2 F2 R2 => ?_) fun _ _ q => q
  exact q (v :: vs) H2 S2 (F1.trans F2) (.cons (R1.fr F2 S.live) (R2.old F1))

/-! ### calls of what is built in -/
def eB (g : List D → Option Res) (f : AV) : EV := fun ρ => (f ρ).bind fun ks ρ1 => match views ρ1 ks with
  | some ds => ofRes (g ds) ρ1
  | none => .bad
abbrev RB := List V → Hp → VK → Prop
def CallG (G : Gm) (r : RB) (g : List D → Option Res) : Prop := ∀ (H : Hp) (xs : List V) (ds : List D) (rs : Res), VwL G H xs ds → g ds = some rs →
  ∀ Q : VK, (∀ v H', Fr G.T (fun _ => False) H H' → ResR G H H' v rs → Q v H') → r xs H Q
theorem useB {r : RB} {g : List D → Option Res} (hg : CallG c.G r g) {f : AV} {Q : VK} (h : tP c W (eB g f) σ H Q) : tCB r (tA c W f) σ H Q := by
  obtain ⟨ρ, A, S, h⟩ := h
  refine cutA S .refl ?_
  unfold eB at h
  rw [Out.post_bind] at h
  refine Out.post_imp h (fun ks ρ1 q vs H1 S1 F1 R1 => ?_) fun _ _ q => q
  split at q
  · rename_i ds e
    obtain ⟨rs, e3, q⟩ := ofRes_post q
    exact hg H1 vs ds rs (R1.view S1 e) e3 Q fun v H' F' r' => fin1 q S1 F1 F' r'
  · exact q.elim
theorem dx_callB {x : Str} {p pos : Pos} {e : Expr} {es : List Expr} {id : String} {r : RB} {g : List D → Option Res} {f : AV} (hc : CallR X (.builtin id) r) (hg : CallG c.G r g) (hx : Gl X x) (hm : X.mg x = none) (hv : bootBuiltins x = some (.builtin id)) (ha : DA c W X (e :: es) f)
    (hn : x ≠ "__name__" := by decide) (hdb : (x == ("__debug__" : Str)) = false := by decide) (he : starEach (e :: es) X.env = (false, eval e X.env) :: starEach es X.env := by rfl) (hpl : (backTo pos (starEach es X.env)).any (·.1) = false := by rfl) :
    DX c W X (.Call (.Name x p) (e :: es) [] pos) (eB g f) := PE.imp (pe_callB hc hx hm hv ha hn hdb he hpl) fun _ _ _ h => useB hg h
theorem dx_callTy {x : Str} {p pos : Pos} {e : Expr} {es : List Expr} {T : String} {r : RB} {g : List D → Option Res} {f : AV} (hc : CallR X (.type T) r) (hg : CallG c.G r g) (hx : Gl X x) (hm : X.mg x = none) (hv : bootBuiltins x = some (.type T)) (ha : DA c W X (e :: es) f)
    (hn : x ≠ "__name__" := by decide) (hdb : (x == ("__debug__" : Str)) = false := by decide) (he : starEach (e :: es) X.env = (false, eval e X.env) :: starEach es X.env := by rfl) (hpl : (backTo pos (starEach es X.env)).any (·.1) = false := by rfl) :
    DX c W X (.Call (.Name x p) (e :: es) [] pos) (eB g f) := PE.imp (pe_callTy hc hx hm hv ha hn hdb he hpl) fun _ _ _ h => useB hg h
theorem VwL.one {xs : List V} {d : D} (h : VwL c.G H xs [d]) : ∃ x, xs = [x] ∧ Vw c.G H x d := by
  cases h with | cons h t => cases t; exact ⟨_, rfl, h⟩
theorem VwL.two {xs : List V} {d e : D} (h : VwL c.G H xs [d, e]) : ∃ x y, xs = [x, y] ∧ Vw c.G H x d ∧ Vw c.G H y e := by
  cases h with | cons h t => cases t with | cons h' t => cases t; exact ⟨_, _, rfl, h, h'⟩

def lenG : List D → Option Res
  | [.str cs] => some (.imm (.int cs.length))
  | [.lst ds] => some (.imm (.int ds.length))
  | [.tup ds] => some (.imm (.int ds.length))
  | [.seq ns] => some (.imm (.int ns.length))
  | _ => none
theorem lenG_ok (hK : X.K = c.G.K) : CallG c.G (fun xs H Q => ∃ x n, xs = [x] ∧ LenV X.K x H n ∧ Q (.int n) H) lenG := by
  intro H xs ds rs hv hg Q k
  unfold lenG at hg
  split at hg
  · cases hg
    obtain ⟨x, rfl, h⟩ := hv.one
    obtain ⟨rfl, h1, h2⟩ := h.str
    refine ⟨_, _, rfl, ⟨by rw [cstr_len]; exact h2, rfl⟩, ?_⟩
    rw [cstr_len]
    exact k _ _ .refl (.imm (.int _))
  · cases hg
    obtain ⟨x, rfl, h⟩ := hv.one
    obtain ⟨a, xs, rfl, h1, h2, _⟩ := h.lst
    refine ⟨_, _, rfl, .inl ⟨xs, .inl h1, rfl⟩, ?_⟩
    rw [h2.length]
    exact k _ _ .refl (.imm (.int _))
  · cases hg
    obtain ⟨x, rfl, h⟩ := hv.one
    obtain ⟨a, xs, rfl, h1, h2, _⟩ := h.tup
    refine ⟨_, _, rfl, .inr ⟨xs, hK ▸ h1.sq, rfl⟩, ?_⟩
    rw [h2.length]
    exact k _ _ .refl (.imm (.int _))
  · cases hg
    obtain ⟨x, rfl, h⟩ := hv.one
    obtain ⟨a, rfl, h1⟩ := h.seq
    refine ⟨_, _, rfl, .inl ⟨_, hK ▸ h1.sq, rfl⟩, ?_⟩
    rw [List.length_map]
    exact k _ _ .refl (.imm (.int _))
  · cases hg
def intG1 : List D → Option Res
  | [.int i] => some (.imm (.int i))
  | _ => none
theorem intG1_ok : CallG c.G (fun xs H Q => (∃ i, xs = [.int i] ∧ Q (.int i) H) ∨ ∃ k, xs = [.bl k] ∧ Q (.int (if k then 1 else 0)) H) intG1 := by
  intro H xs ds rs hv hg Q k
  unfold intG1 at hg
  split at hg
  · cases hg
    obtain ⟨x, rfl, h⟩ := hv.one
    obtain rfl := h.int
    exact .inl ⟨_, rfl, k _ _ .refl (.imm (.int _))⟩
  · cases hg
def max2G : List D → Option Res
  | [.int i, .int j] => some (.imm (.int (if j > i then j else i)))
  | _ => none
def min2G : List D → Option Res
  | [.int i, .int j] => some (.imm (.int (if j < i then j else i)))
  | _ => none
theorem max2G_ok : CallG c.G (fun xs H Q => ∃ i j, xs = [.int i, .int j] ∧ Q (.int (if j > i then j else i)) H) max2G := by
  intro H xs ds rs hv hg Q k
  unfold max2G at hg
  split at hg
  · cases hg
    obtain ⟨x, y, rfl, h, h'⟩ := hv.two
    obtain rfl := h.int
    obtain rfl := h'.int
    exact ⟨_, _, rfl, k _ _ .refl (.imm (.int _))⟩
  · cases hg
theorem min2G_ok : CallG c.G (fun xs H Q => ∃ i j, xs = [.int i, .int j] ∧ Q (.int (if j < i then j else i)) H) min2G := by
  intro H xs ds rs hv hg Q k
  unfold min2G at hg
  split at hg
  · cases hg
    obtain ⟨x, y, rfl, h, h'⟩ := hv.two
    obtain rfl := h.int
    obtain rfl := h'.int
    exact ⟨_, _, rfl, k _ _ .refl (.imm (.int _))⟩
  · cases hg
def dBools : List D → Option (List Bool)
  | [] => some []
  | .bl b :: ds => (dBools ds).map (b :: ·)
  | _ => none
def dInts : List D → Option (List Int)
  | [] => some []
  | .int b :: ds => (dInts ds).map (b :: ·)
  | _ => none
theorem dBools_of {G : Gm} : ∀ {ds : List D} {bs : List Bool} {xs : List V}, dBools ds = some bs → ImmL G H xs ds → xs = bs.map V.bl
  | [], bs, xs, e, r => by cases e; cases r; rfl
  | d :: ds, bs, xs, e, r => by
    cases r with
    | cons h t =>
      cases h <;> simp only [dBools, Option.map_eq_some_iff] at e <;> first | (obtain ⟨b', e', rfl⟩ := e; rw [dBools_of e' t]; rfl) | cases e
theorem dInts_of {G : Gm} : ∀ {ds : List D} {bs : List Int} {xs : List V}, dInts ds = some bs → ImmL G H xs ds → xs = bs.map V.int
  | [], bs, xs, e, r => by cases e; cases r; rfl
  | d :: ds, bs, xs, e, r => by
    cases r with
    | cons h t =>
      cases h <;> simp only [dInts, Option.map_eq_some_iff] at e <;> first | (obtain ⟨b', e', rfl⟩ := e; rw [dInts_of e' t]; rfl) | cases e
def allG : List D → Option Res
  | [.lst ds] => (dBools ds).map fun bs => .imm (.bl (bs.all id))
  | _ => none
theorem allG_ok {K : PySem.W.Frag} : CallG c.G (rAll K) allG := by
  intro H xs ds rs hv hg Q k
  unfold allG at hg
  split at hg
  · simp only [Option.map_eq_some_iff] at hg
    obtain ⟨bs, e, rfl⟩ := hg
    obtain ⟨x, rfl, h⟩ := hv.one
    obtain ⟨a, ys, rfl, h1, h2, _⟩ := h.lst
    rw [dBools_of e h2] at h1
    exact ⟨_, bs, rfl, .inl h1, k _ _ .refl (.imm (.bl _))⟩
  · cases hg
def sumG : List D → Option Res
  | [.lst ds] => (dInts ds).map fun bs => .imm (.int bs.sum)
  | _ => none
theorem sumG_ok {K : PySem.W.Frag} : CallG c.G (rSum K) sumG := by
  intro H xs ds rs hv hg Q k
  unfold sumG at hg
  split at hg
  · simp only [Option.map_eq_some_iff] at hg
    obtain ⟨bs, e, rfl⟩ := hg
    obtain ⟨x, rfl, h⟩ := hv.one
    obtain ⟨a, ys, rfl, h1, h2, _⟩ := h.lst
    rw [dInts_of e h2] at h1
    exact ⟨_, bs, rfl, .inl h1, k _ _ .refl (.imm (.int _))⟩
  · cases hg
def listG : List D → Option Res
  | [.lst ds] => some (.new (.lst ds))
  | [.tup ds] => some (.new (.lst ds))
  | _ => none
theorem listG_ok (hK : X.K = c.G.K) : CallG c.G (fun xs H Q => ∃ p ys, xs = [.ref p] ∧ (SqL X.K H p ys ∨ SqT X.K H p ys) ∧ ∀ l, H l = none → Q (.ref l) (upd H l (.lst ys))) listG := by
  intro H xs ds rs hv hg Q k
  unfold listG at hg
  split at hg
  · cases hg
    obtain ⟨x, rfl, h⟩ := hv.one
    obtain ⟨a, ys, rfl, h1, h2, hl⟩ := h.lst
    exact ⟨_, _, rfl, .inl (.inl h1), fun l hp => fin_lst k rfl hp h2 hl⟩
  · cases hg
    obtain ⟨x, rfl, h⟩ := hv.one
    obtain ⟨a, ys, rfl, h1, h2, hl⟩ := h.tup
    exact ⟨_, _, rfl, .inr (hK ▸ h1.sq), fun l hp => fin_lst k rfl hp h2 hl⟩
  · cases hg
def tupleG : List D → Option Res
  | [.lst ds] => some (.imm (.tup ds))
  | [.tup ds] => some (.imm (.tup ds))
  | _ => none
theorem tupleG_ok (hK : X.K = c.G.K) : CallG c.G (fun xs H Q => ∃ p ys, xs = [.ref p] ∧ ((SqL X.K H p ys ∧ ∀ l, H l = none → Q (.ref l) (upd H l (.tup ys))) ∨ (SqT X.K H p ys ∧ Q (.ref p) H))) tupleG := by
  intro H xs ds rs hv hg Q k
  unfold tupleG at hg
  split at hg
  · cases hg
    obtain ⟨x, rfl, h⟩ := hv.one
    obtain ⟨a, ys, rfl, h1, h2, hl⟩ := h.lst
    exact ⟨_, _, rfl, .inl ⟨.inl h1, fun l hp => fin_tup k rfl hp h2 hl⟩⟩
  · cases hg
    obtain ⟨x, rfl, h⟩ := hv.one
    obtain ⟨a, ys, rfl, h1, h2, hl⟩ := h.tup
    exact ⟨_, _, rfl, .inr ⟨hK ▸ h1.sq, k _ _ .refl (.imm (.tup h1 h2 hl))⟩⟩
  · cases hg

/-! ### isinstance -/
def D.isi (T : String) : D → Option Bool
  | .non => kitB "NoneType" T
  | .bl _ => kitB "bool" T
  | .int _ => kitB "int" T
  | .str _ => kitB "str" T
  | .tup _ => kitB "tuple" T
  | .lst _ => kitB "list" T
  | _ => none
theorem Vw.ty {v : V} {d : D} {T : String} {b : Bool} (h : Vw c.G H v d) (e : d.isi T = some b) : ∃ t, TyX c.G.K H v t ∧ PySem.W.kitOne c.G.K t (.type T) = some b := by
  have go : ∀ {n : String}, TyX c.G.K H v (.type n) → kitB n T = some b → ∃ t, TyX c.G.K H v t ∧ PySem.W.kitOne c.G.K t (.type T) = some b := fun h1 h2 => ⟨_, h1, kit_ty h2⟩
  cases h with
  | imm h =>
    cases h with
    | non => exact go (.base .non) e
    | bl b => exact go (.base (.bl b)) e
    | int i => exact go (.base (.int i)) e
    | str cs h1 h2 => exact go (.base (.str _)) e
    | tup h r l =>
      rcases h with h | ⟨o, its, n, h1, h2, h3⟩
      · exact go (.base (.tup h)) e
      · exact go (.kTuple h1 h2) e
    | lst h r l => exact go (.base (.frz h)) e
    | dcn => cases e
    | dck => cases e
    | kdc => cases e
    | seq => cases e
    | fn => cases e
  | obj h =>
    cases h with
    | lst h r l => exact go (.base (.lst h)) e
    | dcn => cases e
    | dck => cases e
def eIsi (T : String) (f : EV) : EV := fun ρ => (f ρ).bind fun k ρ1 => match k.view ρ1 with
  | some d => ofRes ((d.isi T).map fun b => .imm (.bl b)) ρ1
  | none => .bad
theorem dx_isi (T : String) {x y : Str} {p q pos : Pos} {e : Expr} {f : EV} (hK : X.K = c.G.K) (hx : Gl X x) (hm : X.mg x = none) (hv : bootBuiltins x = some (.builtin "isinstance")) (hy : Gl X y) (hmy : X.mg y = none) (hvy : bootBuiltins y = some (.type T)) (ha : DX c W X e f)
    (hn : x ≠ "__name__" := by decide) (hdb : (x == ("__debug__" : Str)) = false := by decide) (hny : y ≠ "__name__" := by decide) (hdby : (y == ("__debug__" : Str)) = false := by decide)
    (hs : starEach [e, .Name y q] X.env = (false, eval e X.env) :: starEach [.Name y q] X.env := by rfl) : DX c W X (.Call (.Name x p) [e, .Name y q] [] pos) (eIsi T f) := by
  refine PE.imp (pe_callB call_isi hx hm hv (pa_cons ha (pa_cons (pe_bltn hy hmy hvy (v := .ty T) rfl hny hdby) pa_nil) hs) hn hdb hs) fun σ H Q ⟨ρ, A, S, h⟩ => cut S .refl ?_
  unfold eIsi at h
  rw [Out.post_bind] at h
  refine Out.post_imp h (fun k ρ1 q v H1 S1 F1 R1 => ?_) fun _ _ q => q
  split at q
  · rename_i d e
    obtain ⟨rs, e3, q⟩ := ofRes_post q
    simp only [Option.map_eq_some_iff] at e3
    obtain ⟨b, e4, rfl⟩ := e3
    obtain ⟨t, h1, h2⟩ := (R1.view S1 e).ty e4
    exact ⟨v, .ty T, t, .type T, b, rfl, .ty T, hK ▸ h1, hK ▸ h2, fin1 q S1 F1 .refl (.imm (.bl b))⟩
  · exact q.elim
end
end DL
namespace DL
open PySem PySem.Spec PyProof.Rows L2

section
variable {c : Cn} {W : Wx} {X : Cx} {A : Addr → Prop} {ρ : Env} {σ : Sg} {H0 H H' H1 : Hp}

/-! ### in, not in -/
def inB : D → D → Option Bool
  | .str [x], .str cs => some (decide (x ∈ cs))
  | d, .lst ds => if d.dep ≤ 64 ∧ D.deps ds ≤ 60 then some (ds.any fun z => D.eqv z d) else none
  | d, .tup ds => if d.dep ≤ 64 ∧ D.deps ds ≤ 60 then some (ds.any fun z => D.eqv z d) else none
  | _, _ => none
def inG (neg : Bool) (d e : D) : Option Res := (inB d e).map fun b => .imm (.bl (if neg then !b else b))
def rInA (K : PySem.W.Frag) (neg : Bool) : R2 := fun x y H Q =>
  (∃ (ch : Nat) (z : Str), x = .str ⟨#[ch]⟩ ∧ y = .str z ∧ Q (.bl (if neg then !decide (ch ∈ z.cps.toList) else decide (ch ∈ z.cps.toList))) H) ∨
  (∃ d ds, Dp K H x d ∧ (Dp K H y (.list ds) ∨ Dp K H y (.tuple ds)) ∧ SeqAt.shaped d = true ∧ SeqAt.shaped (.list ds) = true ∧ Q (.bl (if neg then !(ds.any fun z => PyData.eqv z d) else ds.any fun z => PyData.eqv z d)) H)
theorem op_inA (hu : X.A.units + 65 < cLine) : OpR X (compareOp .In) (rInA X.K false) := by
  intro pins s σ H x y v u Q I rx ry h
  rcases h with ⟨ch, z, rfl, rfl, q⟩ | ⟨d, ds, hd, he, sd, se, q⟩
  · exact op_in_sign pins s σ H _ _ v u Q I rx ry ⟨ch, z, rfl, rfl, q⟩
  · obtain ⟨as, r1⟩ := Dp.reads I d x v hd rx
    have hr := room_in_shaped (xs := ds) sd hu
    have c1 := SeqAt.canLay_of_shaped sd
    have c2 := SeqAt.canLay_of_shaped se
    have fin : EP X pins σ Q (.bool (ds.any fun z => PyData.eqv z d)) s := ⟨.bl _, H, I, rfl, q⟩
    rcases he with he | he
    · obtain ⟨bs, r2⟩ := Dp.reads I (.list ds) y u he ry
      exact SeqAt.in_list_reads r2 r1 c2 c1 hr fin
    · obtain ⟨bs, r2⟩ := Dp.reads I (.tuple ds) y u he ry
      exact SeqAt.in_tuple_reads r2 r1 c2 c1 hr fin
theorem op_notInA (hu : X.A.units + 65 < cLine) : OpR X (compareOp .NotIn) (rInA X.K true) := by
  intro pins s σ H x y v u Q I rx ry h
  rcases h with ⟨ch, z, rfl, rfl, q⟩ | ⟨d, ds, hd, he, sd, se, q⟩
  · exact op_notIn_sign pins s σ H _ _ v u Q I rx ry ⟨ch, z, rfl, rfl, q⟩
  · obtain ⟨as, r1⟩ := Dp.reads I d x v hd rx
    have hr := room_in_shaped (xs := ds) sd hu
    have c1 := SeqAt.canLay_of_shaped sd
    have c2 := SeqAt.canLay_of_shaped se
    have fin : EP X pins σ Q (.bool (!ds.any fun z => PyData.eqv z d)) s := ⟨.bl _, H, I, rfl, q⟩
    rcases he with he | he
    · obtain ⟨bs, r2⟩ := Dp.reads I (.list ds) y u he ry
      exact SeqAt.notIn_list_reads r2 r1 c2 c1 hr fin
    · obtain ⟨bs, r2⟩ := Dp.reads I (.tuple ds) y u he ry
      exact SeqAt.notIn_tuple_reads r2 r1 c2 c1 hr fin
theorem eqv_any : ∀ (ds : List D) (d : D) (ps : List PyData) (p : PyData), D.pys ds = some ps → d.py = some p → (ps.any fun z => PyData.eqv z p) = ds.any fun z => D.eqv z d
  | [], d, ps, p, h, h' => by cases h; rfl
  | e :: ds, d, ps, p, h, h' => by
    simp only [D.pys, Option.bind_eq_some_iff, Option.map_eq_some_iff] at h
    obtain ⟨q, e1, qs, e2, rfl⟩ := h
    simp only [List.any_cons, D.eqv_py e d q p e1 h', eqv_any ds d qs p e2 h']
theorem pys_of_list {ds : List D} {p : PyData} (h : (D.lst ds).py = some p) : ∃ ps, D.pys ds = some ps ∧ p = .list ps := by
  simp only [D.py, Option.map_eq_some_iff] at h
  obtain ⟨ps, e, rfl⟩ := h
  exact ⟨ps, e, rfl⟩
theorem inG_ok {neg : Bool} : OpG c.G (rInA c.G.K neg) (inG neg) := by
  intro H x y d e rs hx hy h Q k
  unfold inG at h
  simp only [Option.map_eq_some_iff] at h
  obtain ⟨b, h, rfl⟩ := h
  unfold inB at h
  split at h
  · cases h
    obtain ⟨rfl, _, _⟩ := hx.str
    obtain ⟨rfl, _, _⟩ := hy.str
    exact .inl ⟨_, _, rfl, rfl, k _ _ .refl (.imm (.bl _))⟩
  · rename_i ds
    split at h
    · rename_i hd
      cases h
      have d64 : (D.lst ds).dep ≤ 64 := by show D.deps ds + 1 ≤ 64; omega
      obtain ⟨p, hp, h1, s1⟩ := hx.shaped hd.1
      obtain ⟨q, hq, h2, s2⟩ := hy.shaped d64
      obtain ⟨ps, e1, rfl⟩ := pys_of_list hq
      refine .inr ⟨p, ps, h1, .inl h2, s1, s2, ?_⟩
      rw [eqv_any ds d ps p e1 hp]
      exact k _ _ .refl (.imm (.bl _))
    · cases h
  · rename_i ds
    split at h
    · rename_i hd
      cases h
      have d64 : (D.tup ds).dep ≤ 64 := by show D.deps ds + 1 ≤ 64; omega
      obtain ⟨p, hp, h1, s1⟩ := hx.shaped hd.1
      obtain ⟨q, hq, h2, s2⟩ := hy.shaped d64
      simp only [D.py, Option.map_eq_some_iff] at hq
      obtain ⟨ps, e1, rfl⟩ := hq
      refine .inr ⟨p, ps, h1, .inr h2, s1, s2, ?_⟩
      rw [eqv_any ds d ps p e1 hp]
      exact k _ _ .refl (.imm (.bl _))
    · cases h
  · cases h

/-! ### one place -/
def e1 (g : D → Option Res) (f : EV) : EV := fun ρ => (f ρ).bind fun k ρ1 => match k.view ρ1 with
  | some d => ofRes (g d) ρ1
  | none => .bad
theorem use1 {r : V → Hp → VK → Prop} {g : D → Option Res} (hg : ∀ (H : Hp) (x : V) (d : D) (rs : Res), Vw c.G H x d → g d = some rs → ∀ Q : VK, (∀ v H', Fr c.G.T (fun _ => False) H H' → ResR c.G H H' v rs → Q v H') → r x H Q) {f : EV} {Q : VK} (h : tP c W (e1 g f) σ H Q) :
    tP c W f σ H fun x H1 => r x H1 Q := by
  obtain ⟨ρ, A, S, h⟩ := h
  refine cut S .refl ?_
  unfold e1 at h
  rw [Out.post_bind] at h
  refine Out.post_imp h (fun k ρ1 q v H1 S1 F1 R1 => ?_) fun _ _ q => q
  split at q
  · rename_i d e
    obtain ⟨rs, e3, q⟩ := ofRes_post q
    exact hg H1 v d rs (R1.view S1 e) e3 Q fun v H' F' r' => fin1 q S1 F1 F' r'
  · exact q.elim
def isNoneG (neg : Bool) : D → Option Res
  | .non => some (.imm (.bl (!neg)))
  | _ => some (.imm (.bl neg))
theorem Vw.none_iff {G : Gm} {v : V} {d : D} (h : Vw G H v d) : (v = .non ↔ d = .non) := by
  cases h with
  | imm h => cases h <;> simp
  | obj h => cases h <;> simp [M.toD]
theorem dx_isN {a : Expr} {f : EV} {j : Nat} {p pos : Pos} (ha : DX c W X a f) : DX c W X (.Compare a [.Is] [.Constant .none j p] pos) (e1 (isNoneG false) f) := by
  refine PE.imp (pe_cmp (pc_isN ha) rfl) fun σ H Q h => use1 (r := fun x H Q => Q (.bl (decide (x = .non))) H) (fun H x d rs hv hg Q k => ?_) h
  show Q (.bl (decide (x = .non))) H
  have e := hv.none_iff
  cases d <;> (simp only [isNoneG, Option.some.injEq] at hg; subst hg; first | (rw [decide_eq_true (e.mpr rfl)]; exact k _ _ .refl (.imm (.bl _))) | (rw [decide_eq_false (fun z => nomatch e.mp z)]; exact k _ _ .refl (.imm (.bl _))))
theorem dx_notN {a : Expr} {f : EV} {j : Nat} {p pos : Pos} (ha : DX c W X a f) : DX c W X (.Compare a [.IsNot] [.Constant .none j p] pos) (e1 (isNoneG true) f) := by
  refine PE.imp (pe_cmp (pc_notN ha) rfl) fun σ H Q h => use1 (r := fun x H Q => Q (.bl (!decide (x = .non))) H) (fun H x d rs hv hg Q k => ?_) h
  show Q (.bl (!decide (x = .non))) H
  have e := hv.none_iff
  cases d <;> (simp only [isNoneG, Option.some.injEq] at hg; subst hg; first | (rw [decide_eq_true (e.mpr rfl)]; exact k _ _ .refl (.imm (.bl _))) | (rw [decide_eq_false (fun z => nomatch e.mp z)]; exact k _ _ .refl (.imm (.bl _))))
def negG : D → Option Res
  | .int i => some (.imm (.int (-i)))
  | _ => none
theorem dx_neg {a : Expr} {f : EV} {pos : Pos} (ha : DX c W X a f) : DX c W X (.UnaryOp .USub a pos) (e1 negG f) := by
  refine PE.imp (pe_un un_neg ha) fun σ H Q h => use1 (fun H x d rs hv hg Q k => ?_) h
  cases d <;> simp only [negG, Option.some.injEq] at hg <;> first | (subst hg; exact ⟨_, hv.int, k _ _ .refl (.imm (.int _))⟩) | cases hg

/-! ### a < b < c -/
def resB : Option Res → Option Bool
  | some (.imm (.bl b)) => some b
  | _ => none
def e3 (g g' : D → D → Option Res) (f1 f2 f3 : EV) : EV := fun ρ => (f1 ρ).bind fun a ρ1 => (f2 ρ1).bind fun b ρ2 => match a.view ρ2, b.view ρ2 with
  | some x, some y => match resB (g x y) with
    | some true => (f3 ρ2).bind fun k ρ3 => match b.view ρ3, k.view ρ3 with
      | some y', some z => ofRes (g' y' z) ρ3
      | _, _ => .bad
    | some false => .ok (.res (.imm (.bl false))) ρ2
    | none => .bad
  | _, _ => .bad
theorem resB_eq {o : Option Res} {b : Bool} (h : resB o = some b) : o = some (.imm (.bl b)) := by
  unfold resB at h
  split at h
  · cases h; rfl
  · cases h
theorem ResR.bl {G : Gm} {v : V} {b : Bool} (h : ResR G H0 H v (.imm (.bl b))) : v = .bl b := by
  cases h with | imm h => cases h; rfl
theorem Fr.any {T : List (Addr × Str)} {B : Addr → Prop} (h : Fr T (fun _ => False) H H') : Fr T B H H' := h.mono fun _ z => z.elim
theorem dx_chain {op op' : CmpOp} {r r' : R2} {g g' : D → D → Option Res} (ho : OpR X (compareOp op) r) (ho' : OpR X (compareOp op') r') (hg : OpG c.G r g) (hg' : OpG c.G r' g') {a b d : Expr} {f1 f2 f3 : EV} {pos : Pos} (ha : DX c W X a f1) (hb : DX c W X b f2) (hd : DX c W X d f3)
    (hm : lastMarks [op, op'] [b, d] = false) : DX c W X (.Compare a [op, op'] [b, d] pos) (e3 g g' f1 f2 f3) := by
  refine PE.imp (pe_chain ho ho' ha hb hd hm) fun σ H Q ⟨ρ, A, S, h⟩ => cut S .refl ?_
  unfold e3 at h
  rw [Out.post_bind] at h
  refine Out.post_imp h (fun k1 ρ1 q v1 H1 S1 F1 R1 => cut S1 F1 ?_) fun _ _ q => q
  rw [Out.post_bind] at q
  refine Out.post_imp q (fun k2 ρ2 q v2 H2 S2 F2 R2 => ?_) fun _ _ q => q
  split at q
  · rename_i x y e1 e2
    have V1 := (R1.fr F2 S.live).view S2 e1
    have V2 := R2.view S2 e2
    split at q
    · rename_i e
      refine hg H2 v1 v2 x y _ V1 V2 (resB_eq e) _ fun v H' F' r' => ⟨true, r'.bl, ?_⟩
      rw [if_pos rfl]
      refine cut (S2.grow F') ((F1.trans F2).trans F'.any) ?_
      rw [Out.post_bind] at q
      refine Out.post_imp q (fun k3 ρ3 q v3 H3 S3 F3 R3 => ?_) fun _ _ q => q
      split at q
      · rename_i y' z e4 e5
        obtain ⟨rs, e6, q⟩ := ofRes_post q
        exact hg' H3 v2 v3 y' z rs (((R2.fr F'.any S1.live).fr F3 S1.live).view S3 e4) (R3.view S3 e5) e6 Q fun v H'' F'' r'' => fin1 q S3 (((F1.trans F2).trans F'.any).trans F3) F'' r''
      · exact q.elim
    · rename_i e
      refine hg H2 v1 v2 x y _ V1 V2 (resB_eq e) _ fun v H' F' r' => ⟨false, r'.bl, ?_⟩
      rw [if_neg Bool.false_ne_true]
      exact q _ H' (S2.grow F') ((F1.trans F2).trans F'.any) (.res (.imm (.bl false)))
    · exact q.elim
  · exact q.elim

/-! ### tests -/
abbrev TV := Env → Out Bool
def bT (f : EV) : TV := fun ρ => (f ρ).bind fun k ρ1 => match k with
  | .res (.imm (.bl b)) => .ok b ρ1
  | _ => .bad
def tPB (t : TE) : TT := fun σ H Q => t σ H fun x H1 => ∃ k, x = .bl k ∧ Q k H1
theorem useT {f : EV} {Q : Bool → Hp → Prop} (h : tT c W (bT f) σ H Q) : tP c W f σ H fun x H1 => ∃ k, x = .bl k ∧ Q k H1 := by
  obtain ⟨ρ, A, S, h⟩ := h
  refine cut S .refl ?_
  unfold bT at h
  rw [Out.post_bind] at h
  refine Out.post_imp h (fun k ρ1 q v H1 S1 F1 R1 => ?_) fun _ _ q => q
  split at q
  · cases R1 with
    | res R1 => exact ⟨_, R1.bl, q H1 S1 F1⟩
  · exact q.elim
/-- a comparison as a test -/
theorem dt_cmp {op : CmpOp} {r : R2} {g : D → D → Option Res} (ho : OpR X (compareOp op) r) (hg : OpG c.G r g) {a b : Expr} {f1 f2 : EV} {pos : Pos} (ha : DX c W X a f1) (hb : DX c W X b f2) (hm : behindInMarks op b = false) : DT c W X (.Compare a [op] [b] pos) (bT (e2 g f1 f2)) :=
  PT.imp (pt_cmpR ho ha hb hm) fun _ _ _ h => use2 hg (useT h)
theorem dt_isN {a : Expr} {f : EV} {j : Nat} {p pos : Pos} (ha : DX c W X a f) : DT c W X (.Compare a [.Is] [.Constant .none j p] pos) (bT (e1 (isNoneG false) f)) := by
  refine PT.imp (pt_cmp (pc_isN ha) rfl) fun σ H Q h => ?_
  have := useT h
  refine use1 (r := fun x H Q => Q (.bl (decide (x = .non))) H) (fun H x d rs hv hg Q k => ?_) this
  have e := hv.none_iff
  cases d <;> (simp only [isNoneG, Option.some.injEq] at hg; subst hg; first | (rw [decide_eq_true (e.mpr rfl)]; exact k _ _ .refl (.imm (.bl _))) | (rw [decide_eq_false (fun z => nomatch e.mp z)]; exact k _ _ .refl (.imm (.bl _))))
theorem dt_notN {a : Expr} {f : EV} {j : Nat} {p pos : Pos} (ha : DX c W X a f) : DT c W X (.Compare a [.IsNot] [.Constant .none j p] pos) (bT (e1 (isNoneG true) f)) := by
  refine PT.imp (pt_cmp (pc_notN ha) rfl) fun σ H Q h => ?_
  have := useT h
  refine use1 (r := fun x H Q => Q (.bl (!decide (x = .non))) H) (fun H x d rs hv hg Q k => ?_) this
  have e := hv.none_iff
  cases d <;> (simp only [isNoneG, Option.some.injEq] at hg; subst hg; first | (rw [decide_eq_true (e.mpr rfl)]; exact k _ _ .refl (.imm (.bl _))) | (rw [decide_eq_false (fun z => nomatch e.mp z)]; exact k _ _ .refl (.imm (.bl _))))
/-- a value that is a truth, as a test -/
theorem dt_val {e : Expr} {f : EV} (h : DX c W X e f) (he : ∀ whole, isTrue e X.env whole = (do let v ← whole; standAt e.pos; holding [v] (truthy v)) := by intro _; rfl) : DT c W X e (bT f) :=
  PT.imp (pt_val h he) fun _ _ _ h => useT h
theorem dt_chain {op op' : CmpOp} {r r' : R2} {g g' : D → D → Option Res} (ho : OpR X (compareOp op) r) (ho' : OpR X (compareOp op') r') (hg : OpG c.G r g) (hg' : OpG c.G r' g') {a b d : Expr} {f1 f2 f3 : EV} {pos : Pos} (ha : DX c W X a f1) (hb : DX c W X b f2) (hd : DX c W X d f3)
    (hm : lastMarks [op, op'] [b, d] = false) : DT c W X (.Compare a [op, op'] [b, d] pos) (bT (e3 g g' f1 f2 f3)) := by
  refine PT.imp (pt_chain ho ho' ha hb hd hm) fun σ H Q h => ?_
  obtain ⟨ρ, A, S, h⟩ := useT h
  refine cut S .refl ?_
  unfold e3 at h
  rw [Out.post_bind] at h
  refine Out.post_imp h (fun k1 ρ1 q v1 H1 S1 F1 R1 => cut S1 F1 ?_) fun _ _ q => q
  rw [Out.post_bind] at q
  refine Out.post_imp q (fun k2 ρ2 q v2 H2 S2 F2 R2 => ?_) fun _ _ q => q
  split at q
  · rename_i x y e1 e2
    have V1 := (R1.fr F2 S.live).view S2 e1
    have V2 := R2.view S2 e2
    split at q
    · rename_i e
      refine hg H2 v1 v2 x y _ V1 V2 (resB_eq e) _ fun v H' F' r' => ⟨true, r'.bl, ?_⟩
      rw [if_pos rfl]
      refine cut (S2.grow F') ((F1.trans F2).trans F'.any) ?_
      rw [Out.post_bind] at q
      refine Out.post_imp q (fun k3 ρ3 q v3 H3 S3 F3 R3 => ?_) fun _ _ q => q
      split at q
      · rename_i y' z e4 e5
        obtain ⟨rs, e6, q⟩ := ofRes_post q
        exact hg' H3 v2 v3 y' z rs (((R2.fr F'.any S1.live).fr F3 S1.live).view S3 e4) (R3.view S3 e5) e6 _ fun v H'' F'' r'' => fin1 q S3 (((F1.trans F2).trans F'.any).trans F3) F'' r''
      · exact q.elim
    · rename_i e
      refine hg H2 v1 v2 x y _ V1 V2 (resB_eq e) _ fun v H' F' r' => ⟨false, r'.bl, ?_⟩
      rw [if_neg Bool.false_ne_true]
      exact q _ H' (S2.grow F') ((F1.trans F2).trans F'.any) (.res (.imm (.bl false)))
    · exact q.elim
  · exact q.elim
def tyAnd (f g : TV) : TV := fun ρ => (f ρ).bind fun b ρ1 => if b = true then g ρ1 else .ok false ρ1
def tyOr (f g : TV) : TV := fun ρ => (f ρ).bind fun b ρ1 => if b = true then .ok true ρ1 else g ρ1
def tyNot (f : TV) : TV := fun ρ => (f ρ).bind fun b ρ1 => .ok (!b) ρ1
def DW (c : Cn) (W : Wx) (X : Cx) (e : Expr) (f : TV) : Prop := PW X e (tT c W f)
theorem PW.imp {X : Cx} {e : Expr} {t t' : TT} (h : PW X e t) (i : ∀ σ H Q, t' σ H Q → t σ H Q) : PW X e t' := ⟨fun wh pins s σ H Q I q => h.run wh pins s σ H Q I (i _ _ _ q)⟩
theorem dw_and1 {a : Expr} {f : TV} {pos : Pos} (h : DT c W X a f) : DW c W X (.BoolOp .And [a] pos) f := pw_and1 h
theorem dw_or1 {a : Expr} {f : TV} {pos : Pos} (h : DT c W X a f) : DW c W X (.BoolOp .Or [a] pos) f := pw_or1 h
theorem dw_and {a b : Expr} {rest : List Expr} {f g : TV} {pos : Pos} (ha : DT c W X a f) (hb : DW c W X (.BoolOp .And (b :: rest) pos) g) : DW c W X (.BoolOp .And (a :: b :: rest) pos) (tyAnd f g) := by
  refine PW.imp (pw_and ha hb) fun σ H Q ⟨ρ, A, S, h⟩ => cutT S .refl ?_
  unfold tyAnd at h
  rw [Out.post_bind] at h
  refine Out.post_imp h (fun k ρ1 q H1 S1 F1 => ?_) fun _ _ q => q
  cases k with
  | true =>
    rw [if_pos rfl] at q ⊢
    exact cutT S1 F1 (Out.post_imp q (fun _ _ q H2 S2 F2 => q H2 S2 (F1.trans F2)) fun _ _ q => q)
  | false =>
    rw [if_neg Bool.false_ne_true] at q ⊢
    exact q H1 S1 F1
theorem dw_or {a b : Expr} {rest : List Expr} {f g : TV} {pos : Pos} (ha : DT c W X a f) (hb : DW c W X (.BoolOp .Or (b :: rest) pos) g) : DW c W X (.BoolOp .Or (a :: b :: rest) pos) (tyOr f g) := by
  refine PW.imp (pw_or ha hb) fun σ H Q ⟨ρ, A, S, h⟩ => cutT S .refl ?_
  unfold tyOr at h
  rw [Out.post_bind] at h
  refine Out.post_imp h (fun k ρ1 q H1 S1 F1 => ?_) fun _ _ q => q
  cases k with
  | false =>
    rw [if_neg Bool.false_ne_true] at q ⊢
    exact cutT S1 F1 (Out.post_imp q (fun _ _ q H2 S2 F2 => q H2 S2 (F1.trans F2)) fun _ _ q => q)
  | true =>
    rw [if_pos rfl] at q ⊢
    exact q H1 S1 F1
theorem DW.dt {e : Expr} {f : TV} (h : DW c W X e f) : DT c W X e f := PW.pt h
theorem dt_not {a : Expr} {f : TV} {pos : Pos} (h : DT c W X a f) : DT c W X (.UnaryOp .Not a pos) (tyNot f) := by
  refine PT.imp (pt_not h) fun σ H Q ⟨ρ, A, S, h⟩ => cutT S .refl ?_
  unfold tyNot at h
  rw [Out.post_bind] at h
  exact Out.post_imp h (fun k ρ1 q H1 S1 F1 => q H1 S1 F1) fun _ _ q => q

/-! ### and, or, not, if as values -/
def eAnd (f g : EV) : EV := fun ρ => (f ρ).bind fun k ρ1 => match k with
  | .res (.imm (.bl true)) => g ρ1
  | .res (.imm (.bl false)) => .ok (.res (.imm (.bl false))) ρ1
  | _ => .bad
def eOr (f g : EV) : EV := fun ρ => (f ρ).bind fun k ρ1 => match k with
  | .res (.imm (.bl false)) => g ρ1
  | .res (.imm (.bl true)) => .ok (.res (.imm (.bl true))) ρ1
  | _ => .bad
def eNot (f : EV) : EV := e1 (fun d => match d with | .bl b => some (.imm (.bl (!b))) | _ => none) f
def eIf (t : TV) (f g : EV) : EV := fun ρ => (t ρ).bind fun b ρ1 => if b = true then f ρ1 else g ρ1
theorem dx_one {op : BoolOp} {a : Expr} {f : EV} {pos : Pos} (h : DX c W X a f) : DX c W X (.BoolOp op [a] pos) f := pe_one h
theorem goOn {f : EV} {Q : VK} (S : Stt c A ρ σ H1) (F : Fr c.G.T A H0 H1) (q : (f ρ).post (kP c A H0 σ Q) (kX c W A H0 σ)) : tP c W f σ H1 Q :=
  cut S F (Out.post_imp q (fun _ _ q v H2 S2 F2 R2 => q v H2 S2 (F.trans F2) (R2.old F)) fun _ _ q => q)
theorem dx_and {a b : Expr} {rest : List Expr} {f g : EV} {pos : Pos} (ha : DX c W X a f) (hb : DX c W X (.BoolOp .And (b :: rest) pos) g) : DX c W X (.BoolOp .And (a :: b :: rest) pos) (eAnd f g) := by
  refine PE.imp (pe_and ha hb) fun σ H Q ⟨ρ, A, S, h⟩ => cut S .refl ?_
  unfold eAnd at h
  rw [Out.post_bind] at h
  refine Out.post_imp h (fun k ρ1 q v H1 S1 F1 R1 => ?_) fun _ _ q => q
  split at q
  · cases R1 with
    | res R1 => exact ⟨true, R1.bl, by rw [if_pos rfl]; exact goOn S1 F1 q⟩
  · cases R1 with
    | res R1 => exact ⟨false, R1.bl, by rw [if_neg Bool.false_ne_true]; exact q _ H1 S1 F1 (.res (.imm (.bl false)))⟩
  · exact q.elim
theorem dx_or {a b : Expr} {rest : List Expr} {f g : EV} {pos : Pos} (ha : DX c W X a f) (hb : DX c W X (.BoolOp .Or (b :: rest) pos) g) : DX c W X (.BoolOp .Or (a :: b :: rest) pos) (eOr f g) := by
  refine PE.imp (pe_or ha hb) fun σ H Q ⟨ρ, A, S, h⟩ => cut S .refl ?_
  unfold eOr at h
  rw [Out.post_bind] at h
  refine Out.post_imp h (fun k ρ1 q v H1 S1 F1 R1 => ?_) fun _ _ q => q
  split at q
  · cases R1 with
    | res R1 => exact ⟨false, R1.bl, by rw [if_neg Bool.false_ne_true]; exact goOn S1 F1 q⟩
  · cases R1 with
    | res R1 => exact ⟨true, R1.bl, by rw [if_pos rfl]; exact q _ H1 S1 F1 (.res (.imm (.bl true)))⟩
  · exact q.elim
theorem dx_not {a : Expr} {f : EV} {pos : Pos} (ha : DX c W X a f) : DX c W X (.UnaryOp .Not a pos) (eNot f) := by
  refine PE.imp (pe_not ha) fun σ H Q h => use1 (r := fun x H Q => ∃ k, x = .bl k ∧ Q (.bl (!k)) H) (fun H x d rs hv hg Q k => ?_) h
  split at hg
  · cases hg; exact ⟨_, hv.bl, k _ _ .refl (.imm (.bl _))⟩
  · cases hg
theorem dx_if {t a b : Expr} {ft : TV} {f g : EV} {pos : Pos} (ht : DT c W X t ft) (ha : DX c W X a f) (hb : DX c W X b g) : DX c W X (.IfExp t a b pos) (eIf ft f g) := by
  refine PE.imp (pe_ifExp ht ha hb) fun σ H Q ⟨ρ, A, S, h⟩ => cutT S .refl ?_
  unfold eIf at h
  rw [Out.post_bind] at h
  refine Out.post_imp h (fun k ρ1 q H1 S1 F1 => ?_) fun _ _ q => q
  cases k with
  | true => rw [if_pos rfl] at q ⊢; exact goOn S1 F1 q
  | false => rw [if_neg Bool.false_ne_true] at q ⊢; exact goOn S1 F1 q
end
end DL
namespace DL
open PySem PySem.Spec PyProof.Rows L2

section
variable {c : Cn} {W : Wx} {X : Cx} {A : Addr → Prop} {ρ : Env} {σ : Sg} {H0 H H' H1 : Hp}

/-! ### displays -/
def imms : List Pk → Option (List D)
  | [] => some []
  | .res (.imm d) :: ks => (imms ks).map (d :: ·)
  | _ => none
theorem PkL.imms : ∀ {vs : List V} {ks : List Pk} {ds : List D}, PkL c A H0 H σ vs ks → imms ks = some ds → ImmL c.G H vs ds
  | _, _, _, .nil, e => by cases e; exact .nil
  | _, _, _, .cons (k := k) (ks := ks) h t, e => by
    cases h with
    | res h =>
      cases h with
      | imm h =>
        simp only [DL.imms, Option.map_eq_some_iff] at e
        obtain ⟨ds, e, rfl⟩ := e
        exact .cons h (t.imms e)
      | new h n => cases e
    | «at» h => cases e
def eTup (f : AV) : EV := fun ρ => (f ρ).bind fun ks ρ1 => match imms ks with
  | some ds => if ds.length ≤ 1000 then .ok (.res (.imm (.tup ds))) ρ1 else .bad
  | none => .bad
def eLst (f : AV) : EV := fun ρ => (f ρ).bind fun ks ρ1 => match imms ks with
  | some ds => if ds.length ≤ 1000 then .ok (.res (.new (.lst ds))) ρ1 else .bad
  | none => .bad
theorem line1000 {n : Nat} (h : n ≤ 1000) : n ≤ sizeLine := Nat.le_trans h (by decide)
theorem dx_tup {es : List Expr} {f : AV} {k : Nat} {pos : Pos} (h : DA c W X es f) : DX c W X (.Tuple es k pos) (eTup f) := by
  refine PE.imp (pe_tup h) fun σ H Q ⟨ρ, A, S, h⟩ => cutA S .refl ?_
  unfold eTup at h
  rw [Out.post_bind] at h
  refine Out.post_imp h (fun ks ρ1 q vs H1 S1 F1 R1 => ?_) fun _ _ q => q
  split at q
  · rename_i ds e
    split at q
    · rename_i hl
      have r := R1.imms e
      refine ⟨by rw [r.length]; exact line1000 hl, fun p hp => ?_⟩
      have F2 : Fr c.G.T (fun _ => False) H1 (upd H1 p (.tup vs)) := .new hp
      exact q _ _ (S1.grow F2) (F1.trans F2.any) (.res (.imm (.tup (.inl upd_same) (r.ps F2.ps) (line1000 hl))))
    · exact q.elim
  · exact q.elim
theorem dx_lst {es : List Expr} {f : AV} {pos : Pos} (h : DA c W X es f) : DX c W X (.List es pos) (eLst f) := by
  refine PE.imp (pe_lst h) fun σ H Q ⟨ρ, A, S, h⟩ => cutA S .refl ?_
  unfold eLst at h
  rw [Out.post_bind] at h
  refine Out.post_imp h (fun ks ρ1 q vs H1 S1 F1 R1 => ?_) fun _ _ q => q
  split at q
  · rename_i ds e
    split at q
    · rename_i hl
      have r := R1.imms e
      refine ⟨by rw [r.length]; exact line1000 hl, fun p hp => ?_⟩
      have F2 : Fr c.G.T (fun _ => False) H1 (upd H1 p (.lst vs)) := .new hp
      exact q _ _ (S1.grow F2) (F1.trans F2.any) (.res ((ResR.new (H0 := H1) (.lst upd_same (r.ps F2.ps) (line1000 hl)) hp).old F1))
    · exact q.elim
  · exact q.elim

/-! ### places -/
def ixG : D → D → Option Res
  | .lst ds, .int i => (atI ds i).map .imm
  | .tup ds, .int i => (atI ds i).map .imm
  | .str cs, .int i => (atI cs i).map fun ch => .imm (.str [ch])
  | .seq ns, .int i => (atI ns i).map fun n => .imm (.int n)
  | _, _ => none
theorem atI_map {α β : Type} (f : α → β) (l : List α) (i : Int) : atI (l.map f) i = (atI l i).map f := by
  unfold atI
  rw [List.length_map]
  cases ixN l.length i with
  | none => rfl
  | some j => simp
theorem atI_imm {G : Gm} {xs : List V} {ds : List D} {i : Int} {d : D} (r : ImmL G H xs ds) (e : atI ds i = some d) : ∃ v, atI xs i = some v ∧ Imm G H v d := by
  unfold atI at e ⊢
  rw [r.length]
  cases h : ixN ds.length i with
  | none => rw [h] at e; cases e
  | some j => rw [h] at e; exact r.get e
theorem atI_all {cs : List Nat} {i : Int} {ch : Nat} (e : atI cs i = some ch) : ch ∈ cs := by
  unfold atI at e
  cases h : ixN cs.length i with
  | none => rw [h] at e; cases e
  | some j => rw [h] at e; exact List.mem_of_getElem? e
theorem ixG_ok (hK : X.K = c.G.K) : OpG c.G (rIx X.K) ixG := by
  intro H x y d e rs hx hy h Q k
  unfold ixG at h
  split at h
  · simp only [Option.map_eq_some_iff] at h
    obtain ⟨d, e, rfl⟩ := h
    obtain ⟨a, xs, rfl, h1, h2, _⟩ := hx.lst
    obtain ⟨v, e', hi⟩ := atI_imm h2 e
    exact .inl ⟨_, _, _, v, rfl, hy.int, .inl h1, e', k _ _ .refl (.imm hi)⟩
  · simp only [Option.map_eq_some_iff] at h
    obtain ⟨d, e, rfl⟩ := h
    obtain ⟨a, xs, rfl, h1, h2, _⟩ := hx.tup
    obtain ⟨v, e', hi⟩ := atI_imm h2 e
    exact .inr (.inl ⟨_, _, _, v, rfl, hy.int, hK ▸ h1.sq, e', k _ _ .refl (.imm hi)⟩)
  · simp only [Option.map_eq_some_iff] at h
    obtain ⟨ch, e, rfl⟩ := h
    obtain ⟨rfl, h1, h2⟩ := hx.str
    refine .inr (.inr ⟨_, _, ch, rfl, hy.int, by rw [cstr_len]; exact h2, by simpa [cstr] using e, k _ _ .refl (.imm (.str [ch] ?_ (by show 1 ≤ sizeLine; decide)))⟩)
    have := List.all_eq_true.mp h1 ch (atI_all e)
    simpa using this
  · simp only [Option.map_eq_some_iff] at h
    obtain ⟨n, e, rfl⟩ := h
    obtain ⟨a, rfl, h1⟩ := hx.seq
    exact .inl ⟨_, _, _, .int n, rfl, hy.int, hK ▸ h1.sq, by rw [atI_map, e]; rfl, k _ _ .refl (.imm (.int n))⟩
  · cases h
theorem dx_ix {r : R2} {g : D → D → Option Res} (hr : IxR X r) (hg : OpG c.G r g) {a b : Expr} {f1 f2 : EV} {pos : Pos} (ha : DX c W X a f1) (hb : DX c W X b f2) (hs : PlainIx b := by exact fun _ _ => rfl) : DX c W X (.Subscript a b pos) (e2 g f1 f2) :=
  PE.imp (pe_ix hr ha hb hs) fun _ _ _ h => use2 hg h

/-! ### slices -/
abbrev OV := Env → Out (Option Int)
def oNone : OV := fun ρ => .ok none ρ
def oSome (f : EV) : OV := fun ρ => (f ρ).bind fun k ρ1 => match k with
  | .res (.imm (.int i)) => .ok (some i) ρ1
  | _ => .bad
def kO (c : Cn) (A : Addr → Prop) (H : Hp) (σ : Sg) (Q : Option Int → Hp → Prop) : Option Int → Env → Prop := fun b ρ' => ∀ H', Stt c A ρ' σ H' → Fr c.G.T A H H' → Q b H'
def tO (c : Cn) (W : Wx) (f : OV) : TO := fun σ H Q => ∃ ρ A, Stt c A ρ σ H ∧ (f ρ).post (kO c A H σ Q) (kX c W A H σ)
def DO (c : Cn) (W : Wx) (X : Cx) (e : Option Expr) (f : OV) : Prop := PO X e (tO c W f)
theorem PO.imp {X : Cx} {e : Option Expr} {t t' : TO} (h : PO X e t) (i : ∀ σ H Q, t' σ H Q → t σ H Q) : PO X e t' := by
  obtain ⟨h⟩ := h
  exact ⟨fun pins s σ H Q I q => h pins s σ H Q I (i _ _ _ q)⟩
theorem cutO {f : OV} {R : Option Int → Hp → Prop} (S : Stt c A ρ σ H) (F : Fr c.G.T A H0 H) (h : (f ρ).post (kO c A H σ R) (kX c W A H0 σ)) : tO c W f σ H R :=
  ⟨ρ, A, S, Out.post_imp h (fun k ρ1 q => q) fun x ρ1 q cls d H1 S1 F1 E1 => q cls d H1 S1 (F.trans F1) E1⟩
theorem do_none : DO c W X none oNone := PO.imp po_none fun σ H Q ⟨ρ, A, S, h⟩ => h H S .refl
theorem ResR.int {G : Gm} {v : V} {b : Int} (h : ResR G H0 H v (.imm (.int b))) : v = .int b := by
  cases h with | imm h => cases h; rfl
theorem do_some {e : Expr} {f : EV} (h : DX c W X e f) : DO c W X (some e) (oSome f) := by
  refine PO.imp (po_some h) fun σ H Q ⟨ρ, A, S, h⟩ => cut S .refl ?_
  unfold oSome at h
  rw [Out.post_bind] at h
  refine Out.post_imp h (fun k ρ1 q v H1 S1 F1 R1 => ?_) fun _ _ q => q
  split at q
  · cases R1 with
    | res R1 => exact ⟨_, R1.int, q H1 S1 F1⟩
  · exact q.elim
def cutL {α : Type} (xs : List α) (lo hi : Option Int) : List α := (xs.drop (HT.sIx xs.length 0 lo)).take (HT.sIx xs.length xs.length hi - HT.sIx xs.length 0 lo)
def slG (d : D) (lo hi : Option Int) : Option Res := match d with
  | .lst ds => some (.new (.lst (cutL ds lo hi)))
  | .tup ds => some (.imm (.tup (cutL ds lo hi)))
  | .str cs => some (.imm (.str (cutL cs lo hi)))
  | _ => none
def eSl (f : EV) (lo hi : OV) : EV := fun ρ => (f ρ).bind fun k ρ1 => (lo ρ1).bind fun l ρ2 => (hi ρ2).bind fun u ρ3 => match k.view ρ3 with
  | some d => ofRes (slG d l u) ρ3
  | none => .bad
theorem cutL_len {α : Type} (xs : List α) (lo hi : Option Int) : (cutL xs lo hi).length ≤ xs.length := by
  unfold cutL
  rw [List.length_take, List.length_drop]
  omega
theorem cutL_mem {α : Type} {xs : List α} {lo hi : Option Int} {x : α} (h : x ∈ cutL xs lo hi) : x ∈ xs := List.mem_of_mem_drop (List.mem_of_mem_take h)
theorem cutL_imm {G : Gm} {xs : List V} {ds : List D} (r : ImmL G H xs ds) (lo hi : Option Int) : ImmL G H (cutV xs lo hi) (cutL ds lo hi) := by
  unfold cutV cutL
  rw [r.length]
  exact (r.drop _).take _
abbrev RSl := V → Option Int → Option Int → Hp → VK → Prop
def rSlAll (K : PySem.W.Frag) : RSl := fun x lo hi H Q => rSlL K x lo hi H Q ∨ rSlA K x lo hi H Q ∨ rSlS x lo hi H Q
theorem sl_all : SlR X (rSlAll X.K) := sl_list.or (sl_tupA.or sl_str)
theorem slG_ok {x : V} {d : D} {lo hi : Option Int} {rs : Res} (hK : X.K = c.G.K) (hx : Vw c.G H x d) (h : slG d lo hi = some rs) {Q : VK} (k : ∀ v H', Fr c.G.T (fun _ => False) H H' → ResR c.G H H' v rs → Q v H') : rSlAll X.K x lo hi H Q := by
  unfold slG at h
  split at h
  · cases h
    obtain ⟨a, xs, rfl, h1, h2, hl⟩ := hx.lst
    exact .inl ⟨_, _, rfl, .inl h1, fun p hp => fin_lst k rfl hp (cutL_imm h2 _ _) (Nat.le_trans (cutL_len _ _ _) hl)⟩
  · cases h
    obtain ⟨a, xs, rfl, h1, h2, hl⟩ := hx.tup
    rename_i ds
    refine .inr (.inl ⟨_, _, rfl, hK ▸ h1.sq, fun ⟨z1, z2⟩ => ?_, fun _ p hp => fin_tup k rfl hp (cutL_imm h2 _ _) (Nat.le_trans (cutL_len _ _ _) hl)⟩)
    have e : cutL ds lo hi = ds := by
      unfold cutL
      rw [← h2.length, z1, z2]
      simp [h2.length]
    rw [e] at k
    exact k _ _ .refl (.imm (.tup h1 h2 hl))
  · cases h
    obtain ⟨rfl, h1, h2⟩ := hx.str
    rename_i cs
    refine .inr (.inr ⟨_, rfl, by rw [cstr_len]; exact h2, ?_⟩)
    have e : cutS (cstr cs) lo hi = cstr (cutL cs lo hi) := by simp [cutS, cutL, cstr, Str.length]
    rw [e]
    refine k _ _ .refl (.imm (.str _ ?_ (Nat.le_trans (cutL_len _ _ _) h2)))
    exact List.all_eq_true.mpr fun z hz => List.all_eq_true.mp h1 z (cutL_mem hz)
  · cases h
theorem dx_slice {e : Expr} {lo hi : Option Expr} {f : EV} {fl fh : OV} {p2 pos : Pos} (hK : X.K = c.G.K) (he : DX c W X e f) (hl : DO c W X lo fl) (hu : DO c W X hi fh) : DX c W X (.Subscript e (.Slice lo hi none p2) pos) (eSl f fl fh) := by
  refine PE.imp (pe_slice sl_all he hl hu) fun σ H Q ⟨ρ, A, S, h⟩ => cut S .refl ?_
  unfold eSl at h
  rw [Out.post_bind] at h
  refine Out.post_imp h (fun k ρ1 q v H1 S1 F1 R1 => cutO S1 F1 ?_) fun _ _ q => q
  rw [Out.post_bind] at q
  refine Out.post_imp q (fun l ρ2 q H2 S2 F2 => cutO S2 (F1.trans F2) ?_) fun _ _ q => q
  rw [Out.post_bind] at q
  refine Out.post_imp q (fun u ρ3 q H3 S3 F3 => ?_) fun _ _ q => q
  split at q
  · rename_i d e
    obtain ⟨rs, e3, q⟩ := ofRes_post q
    exact slG_ok hK (((R1.fr F2 S.live).fr F3 S.live).view S3 e) e3 fun v H' F' r' => fin1 q S3 ((F1.trans F2).trans F3) F' r'
  · exact q.elim
def revG : D → Option Res
  | .lst ds => some (.new (.lst ds.reverse))
  | _ => none
theorem dx_revL {e : Expr} {f : EV} {k : Nat} {p1 p2 p3 pos : Pos} (he : DX c W X e f) : DX c W X (.Subscript e (.Slice none none (some (.UnaryOp .USub (.Constant (.int 1) k p1) p2)) p3) pos) (e1 revG f) := by
  refine PE.imp (pe_revL he) fun σ H Q h => use1 (r := fun x H Q => ∃ a xs, x = .ref a ∧ SqL X.K H a xs ∧ ∀ p, H p = none → Q (.ref p) (upd H p (.lst xs.reverse))) (fun H x d rs hv hg Q k => ?_) h
  unfold revG at hg
  split at hg
  · cases hg
    obtain ⟨a, xs, rfl, h1, h2, hl⟩ := hv.lst
    exact ⟨_, _, rfl, .inl h1, fun p hp => fin_lst k rfl hp h2.reverse (by rw [List.length_reverse]; exact hl)⟩
  · cases hg

/-! ### a text's methods -/
def eMS (g : List Nat → D → Option Res) (f fe : EV) : EV := fun ρ => (f ρ).bind fun k ρ1 => match k with
  | .res (.imm (.str cs)) => (fe ρ1).bind fun k2 ρ2 => match k2.view ρ2 with
    | some d => ofRes (g cs d) ρ2
    | none => .bad
  | _ => .bad
abbrev RM := V → List V → Hp → VK → Prop
theorem dx_m1 {id : String} {name : Str} {apos pos : Pos} {r : RM} {g : List Nat → D → Option Res} {o e : Expr} {f fe : EV} (slot : PySem.Slot "str" name id) (ty : typeOf (.builtin id) = pure (.type "method_descriptor")) (rule : MtR X id r)
    (hg : ∀ (H : Hp) (cs : List Nat) (x : V) (d : D) (rs : Res), (cs.all (· < 0x110000)) = true → cs.length ≤ sizeLine → Vw c.G H x d → g cs d = some rs → ∀ Q : VK, (∀ v H', Fr c.G.T (fun _ => False) H H' → ResR c.G H H' v rs → Q v H') → r (.str (cstr cs)) [x] H Q)
    (ho : DX c W X o f) (he : DX c W X e fe) (hs : starEach [e] X.env = [(false, eval e X.env)] := by rfl) (hbase : attributeBase o name X.env (eval o X.env) = eval o X.env := by rfl) (hline : (apos.endLine == pos.line) = true := by rfl) :
    DX c W X (.Call (.Attribute o name apos) [e] [] pos) (eMS g f fe) := by
  refine PE.imp (pe_m1 slot ty rule ho he hs hbase hline) fun σ H Q ⟨ρ, A, S, h⟩ => cut S .refl ?_
  unfold eMS at h
  rw [Out.post_bind] at h
  refine Out.post_imp h (fun k ρ1 q v H1 S1 F1 R1 => ?_) fun _ _ q => q
  split at q
  · rename_i cs
    cases R1 with
    | res R1 =>
      cases R1 with
      | imm hI =>
        cases hI with
        | str _ h1 h2 =>
          refine ⟨⟨_, rfl⟩, cut S1 F1 ?_⟩
          rw [Out.post_bind] at q
          refine Out.post_imp q (fun k2 ρ2 q v2 H2 S2 F2 R2 => ?_) fun _ _ q => q
          split at q
          · rename_i d e
            obtain ⟨rs, e3, q⟩ := ofRes_post q
            exact hg H2 cs v2 d rs h1 h2 (R2.view S2 e) e3 Q fun v H' F' r' => fin1 q S2 (F1.trans F2) F' r'
          · exact q.elim
  · exact q.elim
def dStrs : List D → Option (List (List Nat))
  | [] => some []
  | .str cs :: ds => (dStrs ds).map (cs :: ·)
  | _ => none
theorem dStrs_of {G : Gm} : ∀ {ds : List D} {css : List (List Nat)} {xs : List V}, dStrs ds = some css → ImmL G H xs ds → xs = (css.map cstr).map V.str ∧ ∀ cs ∈ css, (cs.all (· < 0x110000)) = true
  | [], bs, xs, e, r => by cases e; cases r; exact ⟨rfl, fun _ h => nomatch h⟩
  | d :: ds, bs, xs, e, r => by
    cases r with
    | cons h t =>
      cases h <;> simp only [dStrs, Option.map_eq_some_iff] at e <;> first | (obtain ⟨b', e', rfl⟩ := e; obtain ⟨z1, z2⟩ := dStrs_of e' t; rw [z1]; exact ⟨rfl, fun cs hc => (List.mem_cons.mp hc).elim (fun z => z ▸ by assumption) (z2 cs)⟩) | cases e
def joinD (sep : List Nat) (css : List (List Nat)) : List Nat := TL.joinL sep css
def joinG (sep : List Nat) (d : D) : Option Res :=
  match (match d with | .lst ds => dStrs ds | .tup ds => dStrs ds | _ => none) with
  | some css => if (css.map List.length).sum + css.length * sep.length ≤ 16777216 then some (.imm (.str (joinD sep css))) else none
  | none => none
theorem join_all : ∀ {sep : List Nat} {css : List (List Nat)}, (sep.all (· < 0x110000)) = true → (∀ cs ∈ css, (cs.all (· < 0x110000)) = true) → ((joinD sep css).all (· < 0x110000)) = true
  | sep, [], _, _ => rfl
  | sep, [p], _, h => h p (by simp)
  | sep, p :: q :: r, hs, h => by
    show ((p ++ (sep ++ joinD sep (q :: r))).all (· < 0x110000)) = true
    rw [List.all_append, List.all_append, hs, h p (by simp), join_all hs fun cs hc => h cs (by simp only [List.mem_cons] at hc ⊢; exact .inr hc)]
    rfl
theorem join_len : ∀ {sep : List Nat} {css : List (List Nat)}, (joinD sep css).length ≤ (css.map List.length).sum + css.length * sep.length
  | sep, [] => Nat.zero_le _
  | sep, [p] => by show p.length ≤ _; simp
  | sep, p :: q :: r => by
    show (p ++ (sep ++ joinD sep (q :: r))).length ≤ _
    have := join_len (sep := sep) (css := q :: r)
    simp only [List.length_append, List.map_cons, List.sum_cons, List.length_cons] at this ⊢
    rw [Nat.succ_mul]
    omega
theorem dx_join {apos pos : Pos} {o e : Expr} {f fe : EV} (hK : X.K = c.G.K) (ho : DX c W X o f) (he : DX c W X e fe) (hs : starEach [e] X.env = [(false, eval e X.env)] := by rfl) (hbase : attributeBase o "join" X.env (eval o X.env) = eval o X.env := by rfl) (hline : (apos.endLine == pos.line) = true := by rfl) :
    DX c W X (.Call (.Attribute o "join" apos) [e] [] pos) (eMS joinG f fe) := by
  refine dx_m1 F.slot_str_join F.type_str_join mt_join (fun H cs x d rs h1 h2 hv hg Q k => ?_) ho he hs hbase hline
  unfold joinG at hg
  split at hg
  · rename_i css e
    split at hg
    · rename_i hl
      cases hg
      have fin : ∀ {a : Addr} {xs : List V} {ds : List D}, x = .ref a → dStrs ds = some css → ImmL c.G H xs ds → (SqL X.K H a xs ∨ SqT X.K H a xs) → ∃ (a : Str) (p : Addr) (ys : List Str), V.str (cstr cs) = .str a ∧ [x] = [.ref p] ∧ (SqL X.K H p (ys.map V.str) ∨ SqT X.K H p (ys.map V.str)) ∧
          (ys.map (·.length)).sum + ys.length * a.length ≤ 16777216 ∧ Q (.str (Txt.join a ys)) H := fun {a xs ds} ex e r hq => by
        subst ex
        obtain ⟨rfl, z2⟩ := dStrs_of e r
        have e1 : (css.map cstr).map (fun (y : Str) => y.length) = css.map List.length := by
          rw [List.map_map]; exact List.map_congr_left fun y _ => cstr_len y
        refine ⟨cstr cs, a, css.map cstr, rfl, rfl, hq, by rw [e1, List.length_map, cstr_len]; exact hl, ?_⟩
        have e2 : Txt.join (cstr cs) (css.map cstr) = cstr (joinD cs css) := by
          rw [TL.join_eq]
          refine TL.ext_tl ((TL.tl_join _ _).trans ?_)
          have e3 : (css.map cstr).map TL.tl = css := by
            rw [List.map_map]
            conv => rhs; rw [← List.map_id css]
            exact List.map_congr_left fun y _ => by simp [TL.tl, cstr]
          rw [e3]
          simp [TL.tl, cstr, joinD]
        rw [e2]
        exact k _ _ .refl (.imm (.str _ (join_all h1 z2) (Nat.le_trans join_len (Nat.le_trans hl (by decide)))))
      split at e
      · obtain ⟨a, xs, ex, g1, g2, _⟩ := hv.lst
        exact fin ex e g2 (.inl (.inl g1))
      · obtain ⟨a, xs, ex, g1, g2, _⟩ := hv.tup
        exact fin ex e g2 (.inr (hK ▸ g1.sq))
      · cases e
    · cases hg
  · cases hg
def countG (cs : List Nat) (d : D) : Option Res := match d with
  | .str [ch] => some (.imm (.int (cs.count ch)))
  | _ => none
theorem cnt_eq (ch : Nat) : ∀ cs : List Nat, PyProof.Rows.cnt ch cs = (cs.count ch : Nat)
  | [] => rfl
  | a :: r => by
    rw [PyProof.Rows.cnt_cons, cnt_eq ch r, List.count_cons]
    by_cases h : a = ch
    · subst h; simp; omega
    · simp [h]
theorem dx_count {apos pos : Pos} {o e : Expr} {f fe : EV} (ho : DX c W X o f) (he : DX c W X e fe) (hs : starEach [e] X.env = [(false, eval e X.env)] := by rfl) (hbase : attributeBase o "count" X.env (eval o X.env) = eval o X.env := by rfl) (hline : (apos.endLine == pos.line) = true := by rfl) :
    DX c W X (.Call (.Attribute o "count" apos) [e] [] pos) (eMS countG f fe) := by
  refine dx_m1 F.slot_str_count F.type_str_count mt_count (fun H cs x d rs h1 h2 hv hg Q k => ?_) ho he hs hbase hline
  unfold countG at hg
  split at hg
  · cases hg
    obtain ⟨rfl, _, _⟩ := hv.str
    refine ⟨_, _, rfl, rfl, ?_⟩
    have e : Txt.count (cstr cs) (cstr [‹Nat›]) = ((cs.count ‹Nat› : Nat) : Int) := by
      have := PyProof.Rows.count_cnt (cstr cs) ‹Nat›
      rw [cnt_eq] at this
      simpa [cstr] using this
    rw [e]
    exact k _ _ .refl (.imm (.int _))
  · cases hg
end
end DL
namespace DL
open PySem PySem.Spec PyProof.Rows L2

/-! ### what a def does -/
abbrev FnD := Option M → List D → FOut
inductive BorR (G : Gm) (H : Hp) : Option Addr → Option M → Prop
  | none : BorR G H none none
  | some {a : Addr} {m : M} (h : Obm G H a m) : BorR G H (some a) (some m)
def refs (B : Option Addr) : List V := match B with
  | some a => [.ref a]
  | none => []
def endF (G : Gm) (H : Hp) (B : Option Addr) (Q : VK) (E : XK) : FOut → Prop
  | .ret r om => ∀ v H', Fr G.T (fun b => B = some b) H H' → BorR G H' B om → ResR G H H' v r → Q v H'
  | .exc x om => ∀ cls d H', Fr G.T (fun b => B = some b) H H' → BorR G H' B om → ExR G H' x cls d → E cls d H'
  | .bad => False
def spF (G : Gm) (n : Nat) (f : FnD) : Sp := fun vs H Q E => ∃ (B : Option Addr) (om : Option M) (us : List V) (ds : List D), vs = refs B ++ us ∧ vs.length = n ∧ BorR G H B om ∧ ImmL G H us ds ∧ endF G H B Q E (f om ds)

section
variable {c : Cn} {W : Wx} {X : Cx} {A : Addr → Prop} {ρ : Env} {σ : Sg} {H0 H H' H1 : Hp}
def Slot.put (m : M) : Slot → Slot
  | .own _ => .own m
  | .bor _ => .bor m
  | s => s
def callP (f : FnD) (ds : List D) (ρ : Env) : Out Pk := match f none ds with
  | .ret r _ => .ok (.res r) ρ
  | .exc x _ => .exc x ρ
  | .bad => .bad
def callQ (f : FnD) (i : Nat) (m : M) (ds : List D) (ρ : Env) : Out Pk := match f (some m) ds with
  | .ret r (some m') => .ok (.res r) (ρ.modify i (Slot.put m'))
  | .exc x (some m') => .exc x (ρ.modify i (Slot.put m'))
  | _ => .bad
def callOut (f : FnD) (ks : List Pk) (ρ : Env) : Out Pk := match ks with
  | .at i :: ks' => match (ρ[i]?).bind Slot.obj?, imms ks' with
    | some m, some ds => callQ f i m ds ρ
    | _, _ => .bad
  | ks => match imms ks with
    | some ds => callP f ds ρ
    | none => .bad
def eCall (n : Nat) (f : FnD) (args : AV) : EV := fun ρ => (args ρ).bind fun ks ρ1 => if ks.length = n then callOut f ks ρ1 else .bad

/-- the state when the object of slot i has changed -/
theorem Stt.put {i : Nat} {a : Addr} {m' : M} (S : Stt c A ρ σ H) (F : Fr c.G.T (fun b => b = a) H H') (o : OwnAt ρ σ i a) (h : Obm c.G H' a m') : Stt c A (ρ.modify i (Slot.put m')) σ H' := by
  have hA := S.inA i a o
  obtain ⟨ho, s, m0, hs, hm⟩ := o
  have hi : i < ρ.length := (List.getElem?_eq_some_iff.mp hs).1
  have get : ∀ j, (ρ.modify i (Slot.put m'))[j]? = if j = i then some (s.put m') else ρ[j]? := fun j => by
    rw [List.getElem?_modify]
    by_cases z : j = i
    · subst z; simp [hs]
    · simp [z, Ne.symm z]
  have sub : ∀ {j b}, OwnAt (ρ.modify i (Slot.put m')) σ j b → OwnAt ρ σ j b := fun {j b} ⟨h1, s', m'', h2, h3⟩ => by
    rw [get] at h2
    by_cases z : j = i
    · subst z; exact ⟨h1, s, m0, hs, hm⟩
    · rw [if_neg z] at h2; exact ⟨h1, s', m'', h2, h3⟩
  refine ⟨by rw [List.length_modify]; exact S.len, fun j s' e => ?_, fun j k b x y => S.inj j k b (sub x) (sub y), fun j b x => S.inA j b (sub x), fun b z => F.dom b (S.live b z), fun b w e n p => ?_, fun b z => F.dom b (S.dom b z), S.oldA, fun j b m e q => ?_, fun j b m e q => ?_, S.bAll⟩
  · rw [get] at e
    by_cases z : j = i
    · subst z
      rw [if_pos rfl] at e
      cases e
      refine ⟨_, ho, ?_⟩
      cases s with
      | own _ => exact .own h
      | bor _ => exact .bor h
      | non => cases hm
      | imm _ => cases hm
    · rw [if_neg z] at e
      obtain ⟨v, hv, r⟩ := S.slot j s' e
      refine ⟨v, hv, r.fr F fun m2 a2 h2 h3 z2 => ?_⟩
      subst z2 h3
      exact z (S.inj j i _ ⟨hv, s', m2, e, h2⟩ ⟨ho, s, m0, hs, hm⟩)
  · refine F.keep b w (S.base b w e n p) n ?_
    rcases p with p | p
    · exact .inl p
    · refine .inr fun z => ?_
      subst z
      rcases S.oldA b hA with q | q
      · rw [q] at e; cases e
      · exact p q
  · rw [get] at e
    by_cases z : j = i
    · subst z
      rw [if_pos rfl] at e
      cases s with
      | own m1 => exact S.ownN j b m1 hs q
      | bor _ => cases e
      | non => cases hm
      | imm _ => cases hm
    · rw [if_neg z] at e; exact S.ownN j b m e q
  · rw [get] at e
    by_cases z : j = i
    · subst z
      rw [if_pos rfl] at e
      cases s with
      | bor m1 => exact S.borN j b m1 hs q
      | own _ => cases e
      | non => cases hm
      | imm _ => cases hm
    · rw [if_neg z] at e; exact S.borN j b m e q

theorem PkL.length : ∀ {vs : List V} {ks : List Pk}, PkL c A H0 H σ vs ks → vs.length = ks.length
  | _, _, .nil => rfl
  | _, _, .cons _ t => by simp [t.length]
theorem useP {f : FnD} {n : Nat} {ks : List Pk} {ds : List D} {vs : List V} {Q : VK} (S : Stt c A ρ σ H1) (F1 : Fr c.G.T A H H1) (R : PkL c A H H1 σ vs ks) (hl : ks.length = n) (e : imms ks = some ds) (q : (callP f ds ρ).post (kP c A H σ Q) (kX c W A H σ)) :
    spF c.G n f vs H1 Q (WE W σ) := by
  refine ⟨none, none, vs, ds, rfl, by rw [R.length, hl], .none, R.imms e, ?_⟩
  unfold callP at q
  generalize f none ds = o at q
  have em : ∀ {H' : Hp}, Fr c.G.T (fun b => (none : Option Addr) = some b) H1 H' → Fr c.G.T (fun _ => False) H1 H' := fun F => F.mono fun _ z => nomatch z
  cases o with
  | ret r om =>
    intro v H' F' _ r'
    exact fin1 q S F1 (em F') r'
  | exc x om =>
    intro cls d H' F' _ r'
    exact q cls d H' (S.grow (em F')) (F1.trans (em F').any) r'
  | bad => exact q
theorem useQ {f : FnD} {n i : Nat} {ks : List Pk} {ds : List D} {m : M} {v : V} {vs : List V} {Q : VK} (S : Stt c A ρ σ H1) (F1 : Fr c.G.T A H H1) (hv : σ[i]? = some (some v)) (R : PkL c A H H1 σ vs ks) (hl : ks.length + 1 = n) (e : imms ks = some ds) (em : (ρ[i]?).bind Slot.obj? = some m)
    (q : (callQ f i m ds ρ).post (kP c A H σ Q) (kX c W A H σ)) : spF c.G n f (v :: vs) H1 Q (WE W σ) := by
  simp only [Option.bind_eq_some_iff] at em
  obtain ⟨s, hs, hm⟩ := em
  obtain ⟨a, o, ho⟩ := S.is hs hm
  have := o.1
  rw [hv] at this
  cases this
  have hA := S.inA i a o
  refine ⟨some a, some m, vs, ds, rfl, by rw [List.length_cons, R.length, hl], .some ho, R.imms e, ?_⟩
  unfold callQ at q
  generalize f (some m) ds = oo at q
  have eF : ∀ {H' : Hp}, Fr c.G.T (fun b => (some a : Option Addr) = some b) H1 H' → Fr c.G.T (fun b => b = a) H1 H' := fun F => F.mono fun _ z => (Option.some.inj z).symm
  cases oo with
  | ret r om =>
    intro v H' F' B r'
    cases B with
    | some h' =>
      have S' := S.put (eF F') o h'
      exact q v H' S' (F1.trans ((eF F').mono fun b z => z ▸ hA)) (.res (r'.old F1))
  | exc x om =>
    intro cls d H' F' B r'
    cases B with
    | some h' =>
      have S' := S.put (eF F') o h'
      exact q cls d H' S' (F1.trans ((eF F').mono fun b z => z ▸ hA)) r'
  | bad => exact q
theorem useCall {f : FnD} {n : Nat} {args : AV} {Q : VK} (h : tP c W (eCall n f args) σ H Q) : tCallS (spF c.G n f) (fun σ => WE W σ) (tA c W args) σ H Q := by
  obtain ⟨ρ, A, S, h⟩ := h
  refine cutA S .refl ?_
  unfold eCall at h
  rw [Out.post_bind] at h
  refine Out.post_imp h (fun ks ρ1 q vs H1 S1 F1 R1 => ?_) fun _ _ q => q
  split at q
  · rename_i hl
    unfold callOut at q
    split at q
    · rename_i i ks'
      split at q
      · rename_i m ds e1 e2
        cases R1 with
        | cons h t =>
          cases h with
          | «at» hv => exact useQ S1 F1 hv t hl e2 e1 q
      · exact q.elim
    · split at q
      · rename_i ds e
        exact useP S1 F1 R1 hl e q
      · exact q.elim
  · exact q.elim
/-- a def's promise, for callers -/
structure FnP (c : Cn) (X : Cx) (k n : Nat) (f : Addr) (g : FnD) : Prop where
  ex : ∃ (fd : FuncData) (ps : List Str), FnOk X.prog X.w X.K X.mg X.base (L2.CX X.prog X.w) k f fd ps (spF c.G n g) ∧ Binds X.K fd ps []
  kp : PySem.W.keepIn X.K (.ref f) = true
theorem dx_call {x : Str} {p pos : Pos} {e : Expr} {es : List Expr} {k n : Nat} {f : Addr} {g : FnD} {fa : AV} (F : FnP c X k n f g) (hr : Room k X.A) (hg : Gl X x) (hm : X.mg x = some (.ref f)) (tk : Takes X W) (ha : DA c W X (e :: es) fa)
    (hdb : (x == ("__debug__" : Str)) = false := by decide) (he : starEach (e :: es) X.env = (false, eval e X.env) :: starEach es X.env := by rfl) (hpl : (backTo pos (starEach es X.env)).any (·.1) = false := by rfl) :
    DX c W X (.Call (.Name x p) (e :: es) [] pos) (eCall n g fa) := by
  obtain ⟨fd, ps, h1, h2⟩ := F.ex
  exact PE.imp (pe_callS h1 hr hg hm F.kp h2 (passAt tk) ha hdb he hpl) fun _ _ _ h => useCall h
end
end DL
namespace DL
open PySem PySem.Spec PyProof.Rows L2

section
variable {c : Cn} {W : Wx} {X : Cx} {A : Addr → Prop} {ρ : Env} {σ : Sg} {H0 H H' H1 : Hp}

/-! ### stores of trees -/
theorem set_get {α : Type} {l : List α} {i j : Nat} {x : α} : (l.set i x)[j]? = if j = i then (if i < l.length then some x else none) else l[j]? := by
  by_cases h : j = i
  · subst h
    rw [if_pos rfl]
    by_cases hl : j < l.length
    · rw [List.getElem?_set_self hl, if_pos hl]
    · rw [if_neg hl, List.getElem?_eq_none (by rw [List.length_set]; omega)]
  · rw [if_neg h, List.getElem?_set_ne (Ne.symm h)]
theorem Stt.setImm (S : Stt c A ρ σ H) (i : Nat) {s : Slot} {v : Option V} (hs : s.obj? = none) (r : SlotR c.G H s v) : Stt c A (ρ.set i s) (σ.set i v) H := by
  have sub : ∀ {j b}, OwnAt (ρ.set i s) (σ.set i v) j b → OwnAt ρ σ j b ∧ j ≠ i := fun {j b} ⟨h1, s', m', h2, h3⟩ => by
    rw [set_get] at h1 h2
    by_cases z : j = i
    · rw [if_pos z] at h2
      split at h2
      · cases h2; rw [hs] at h3; cases h3
      · cases h2
    · rw [if_neg z] at h1 h2
      exact ⟨⟨h1, s', m', h2, h3⟩, z⟩
  refine ⟨by rw [List.length_set, List.length_set]; exact S.len, fun j s' e => ?_, fun j k b x y => S.inj j k b (sub x).1 (sub y).1, fun j b x => S.inA j b (sub x).1, S.live, S.base, S.dom, S.oldA, fun j b m e q => ?_, fun j b m e q => ?_, S.bAll⟩
  · rw [set_get] at e ⊢
    by_cases z : j = i
    · rw [if_pos z] at e ⊢
      rw [S.len]
      split at e
      · rename_i hi
        cases e
        exact ⟨v, if_pos hi, r⟩
      · cases e
    · rw [if_neg z] at e ⊢
      exact S.slot j s' e
  · rw [set_get] at e q
    by_cases z : j = i
    · rw [if_pos z] at e
      split at e
      · cases e; cases hs
      · cases e
    · rw [if_neg z] at e q; exact S.ownN j b m e q
  · rw [set_get] at e q
    by_cases z : j = i
    · rw [if_pos z] at e
      split at e
      · cases e; cases hs
      · cases e
    · rw [if_neg z] at e q; exact S.borN j b m e q

/-! ### targets -/
def SameBut (is : List Nat) (σ σ' : Sg) : Prop := σ'.length = σ.length ∧ ∀ i, i ∉ is → σ'[i]? = σ[i]?
abbrev GV := D → Env → Option Env
abbrev GVs := List D → Env → Option Env
def gN (i : Nat) : GV := fun d ρ => some (ρ.set i (.imm d))
def gsN : GVs := fun ds ρ => match ds with
  | [] => some ρ
  | _ => none
def gsC (g : GV) (gs : GVs) : GVs := fun ds ρ => match ds with
  | d :: ds => (g d ρ).bind fun ρ1 => gs ds ρ1
  | [] => none
def gT (n : Nat) (gs : GVs) : GV := fun d ρ => match d with
  | .tup ds => if ds.length = n then gs ds ρ else none
  | _ => none
def tG (c : Cn) (is : List Nat) (g : GV) : TG := fun v σ H Q => ∃ ρ A d ρ', Stt c A ρ σ H ∧ Imm c.G H v d ∧ g d ρ = some ρ' ∧ ∀ σ', Stt c A ρ' σ' H → SameBut is σ σ' → Q σ' H
def tGs (c : Cn) (is : List Nat) (g : GVs) : TGs := fun vs σ H Q => ∃ ρ A ds ρ', Stt c A ρ σ H ∧ ImmL c.G H vs ds ∧ g ds ρ = some ρ' ∧ ∀ σ', Stt c A ρ' σ' H → SameBut is σ σ' → Q σ' H
def DG (c : Cn) (X : Cx) (tg : Expr) (is : List Nat) (g : GV) : Prop := PG X tg (tG c is g)
def DGs (c : Cn) (X : Cx) (tgs : List Expr) (is : List Nat) (g : GVs) : Prop := PGs X tgs (tGs c is g)
theorem PG.imp {X : Cx} {e : Expr} {t t' : TG} (h : PG X e t) (i : ∀ v σ H Q, t' v σ H Q → t v σ H Q) : PG X e t' := ⟨fun pins s σ H v u Q I r q => h.run pins s σ H v u Q I r (i _ _ _ _ q)⟩
theorem PGs.imp {X : Cx} {e : List Expr} {t t' : TGs} (h : PGs X e t) (i : ∀ v σ H Q, t' v σ H Q → t v σ H Q) : PGs X e t' := ⟨fun pins s σ H v u Q I r q => h.run pins s σ H v u Q I r (i _ _ _ _ q)⟩
theorem dg_name {i : Nat} {x : Str} {pos : Pos} (hN : X.N.Nodup) (hi : X.N[i]? = some x) (hx : Loc X.env.scope x) (hf : X.fn x = true ∨ X.env.scope.names.lookup x = some .local := by first | exact .inl rfl | exact .inr rfl | assumption) : DG c X (.Name x pos) [i] (gN i) := by
  refine PG.imp (pg_name (i := i) hN hi hx hf) fun v σ H Q ⟨ρ, A, d, ρ', S, r, e, q⟩ => ?_
  cases e
  exact q _ (S.setImm i rfl (.imm r)) ⟨List.length_set, fun j hj => by rw [set_get, if_neg (fun z => hj (by simp [z]))]⟩
theorem dgs_nil : DGs c X [] [] gsN := by
  refine PGs.imp pgs_nil fun v σ H Q ⟨ρ, A, ds, ρ', S, r, e, q⟩ => ?_
  cases r with
  | nil => cases e; exact ⟨rfl, q _ S ⟨rfl, fun _ _ => rfl⟩⟩
  | cons _ _ => cases e
theorem dgs_cons {e : Expr} {es : List Expr} {is js : List Nat} {g : GV} {gs : GVs} (h1 : DG c X e is g) (h2 : DGs c X es js gs) (hs : (assignEach (e :: es) X.env).map (·.2) = assign e X.env :: (assignEach es X.env).map (·.2) := by rfl) : DGs c X (e :: es) (is ++ js) (gsC g gs) := by
  refine PGs.imp (pgs_cons h1 h2 hs) fun v σ H Q ⟨ρ, A, ds, ρ', S, r, e, q⟩ => ?_
  cases r with
  | nil => cases e
  | cons h t =>
    simp only [gsC, Option.bind_eq_some_iff] at e
    obtain ⟨ρ1, e1, e2⟩ := e
    refine ⟨_, _, rfl, ρ, A, _, ρ1, S, h, e1, fun σ1 S1 b1 => ⟨ρ1, A, _, ρ', S1, t, e2, fun σ2 S2 b2 => q σ2 S2 ⟨b2.1.trans b1.1, fun i hi => ?_⟩⟩⟩
    rw [List.mem_append] at hi
    rw [b2.2 i fun z => hi (.inr z), b1.2 i fun z => hi (.inl z)]
theorem dg_tup {es : List Expr} {k : Nat} {is : List Nat} {gs : GVs} {n : Nat} {pos : Pos} (hK : X.K = c.G.K) (hc : X.calm = true) (h : DGs c X es is gs) (hn : (assignEach es X.env).length = n := by rfl) (hst : (assignEach es X.env).findIdx? (·.1) = none := by rfl) :
    DG c X (.Tuple es k pos) is (gT n gs) := by
  refine PG.imp (pg_tup hc h hn hst) fun v σ H Q ⟨ρ, A, d, ρ', S, r, e, q⟩ => ?_
  unfold gT at e
  split at e
  · split at e
    · rename_i hl
      obtain ⟨a, xs, rfl, h1, h2, _⟩ := Vw.tup (.imm r)
      exact ⟨a, xs, rfl, hK ▸ h1.sq, by rw [h2.length, hl], ρ, A, _, ρ', S, h2, e, q⟩
    · cases e
  · cases e

/-! ### what is walked -/
structure ItR (G : Gm) (J : It) (H1 : Hp) (ds : List D) : Prop where
  go : ∀ H, Ps H1 H → ∀ i, i < ds.length → J.go i H
  stop : ∀ H, Ps H1 H → ∀ i, ds.length ≤ i → J.stop i H
  yld : ∀ H, Ps H1 H → ∀ i x H', i < ds.length → J.yld i H x H' → ∃ d, ds[i]? = some d ∧ Imm G H' x d ∧ Fr G.T (fun _ => False) H H'
abbrev IV := Env → Out (List D)
def kI (b : Bool) (c : Cn) (A : Addr → Prop) (H : Hp) (σ : Sg) (R : It → Hp → Prop) : List D → Env → Prop := fun ds ρ' => ∀ J H', Stt c A ρ' σ H' → Fr c.G.T A H H' → ItR c.G J H' ds → (b = true → ds.length ≤ sizeLine) → R J H'
def tI (b : Bool) (c : Cn) (W : Wx) (f : IV) : TI := fun σ H R => ∃ ρ A, Stt c A ρ σ H ∧ (f ρ).post (kI b c A H σ R) (kX c W A H σ)
def DI (b : Bool) (c : Cn) (W : Wx) (X : Cx) (tg e : Expr) (f : IV) : Prop := PI X tg e (tI b c W f)
theorem PI.imp {X : Cx} {tg e : Expr} {t t' : TI} (h : PI X tg e t) (i : ∀ σ H Q, t' σ H Q → t σ H Q) : PI X tg e t' := ⟨fun pins s σ H Q I q => h.run pins s σ H Q I (i _ _ _ q)⟩
theorem PI.or {X : Cx} {tg e : Expr} {t t' : TI} (h : PI X tg e t) (h' : PI X tg e t') : PI X tg e (fun σ H R => t σ H R ∨ t' σ H R) := ⟨fun pins s σ H Q I q => q.elim (h.run pins s σ H Q I) (h'.run pins s σ H Q I)⟩
def iSeq (f : EV) : IV := fun ρ => (f ρ).bind fun k ρ1 => match k with
  | .res (.imm (.lst ds)) => .ok ds ρ1
  | .res (.imm (.tup ds)) => .ok ds ρ1
  | .res (.imm (.str cs)) => .ok (cs.map fun ch => .str [ch]) ρ1
  | _ => .bad
theorem it_list {G : Gm} {a : Addr} {o : Obj} {xs : List V} {ds : List D} (h : H1 a = some (.frz o (.lst xs))) (r : ImmL G H1 xs ds) : ItR G (Itl G.K a) H1 ds := by
  have sq : ∀ H, Ps H1 H → SqL G.K H a xs := fun H p => .inl (.inr ⟨o, p _ _ h trivial⟩)
  refine ⟨fun H p i hi => ?_, fun H p i hi => ⟨xs, sq H p, by rw [r.length]; exact hi⟩, fun H p i x H' hlt y => ?_⟩
  · have hi' : i < xs.length := by rw [r.length]; exact hi
    exact ⟨xs, xs[i], sq H p, List.getElem?_eq_getElem hi'⟩
  · obtain ⟨e, y⟩ := y
    subst e
    obtain ⟨d, e, q⟩ := r.get' (y xs (sq _ p))
    exact ⟨d, e, q.ps p, .refl⟩
theorem it_tup {G : Gm} {a : Addr} {xs : List V} {ds : List D} (h : TupA G.K H1 a xs) (r : ImmL G H1 xs ds) : ItR G (Itt G.K a) H1 ds := by
  have sq : ∀ H, Ps H1 H → SqT G.K H a xs := fun H p => (h.ps p).sq
  refine ⟨fun H p i hi => ?_, fun H p i hi => ⟨xs, sq H p, by rw [r.length]; exact hi⟩, fun H p i x H' hlt y => ?_⟩
  · have hi' : i < xs.length := by rw [r.length]; exact hi
    exact ⟨xs, xs[i], sq H p, List.getElem?_eq_getElem hi'⟩
  · obtain ⟨e, y⟩ := y
    subst e
    obtain ⟨d, e, q⟩ := r.get' (y xs (sq _ p))
    exact ⟨d, e, q.ps p, .refl⟩
/-- the value is known -/
theorem cutOk {f : EV} {k : Pk} {ρ' : Env} {R : VK} (S : Stt c A ρ σ H) (e : f ρ = .ok k ρ') (h : kP c A H σ R k ρ') : tP c W f σ H R := ⟨ρ, A, S, by rw [e]; exact h⟩
theorem cutExc {f : EV} {x : Ex} {ρ' : Env} {R : VK} (S : Stt c A ρ σ H) (e : f ρ = .exc x ρ') (h : kX c W A H σ x ρ') : tP c W f σ H R := ⟨ρ, A, S, by rw [e]; exact h⟩
theorem it_str {G : Gm} {cs : List Nat} (h1 : (cs.all (· < 0x110000)) = true) : ItR G (Its (cstr cs)) H1 (cs.map fun ch => .str [ch]) := by
  have sz : (cstr cs).cps.size = cs.length := by simp [cstr]
  refine ⟨fun H p i hi => ?_, fun H p i hi => ?_, fun H p i x H' _ y => ?_⟩
  · show i < (cstr cs).cps.size; rw [sz]; simpa using hi
  · show (cstr cs).cps.size ≤ i; rw [sz]; simpa using hi
  · obtain ⟨e, ch, e1, e2⟩ := y
    subst e; subst e2
    have e3 : cs[i]? = some ch := by simpa [cstr] using e1
    refine ⟨.str [ch], by simp [e3], ?_, .refl⟩
    have := List.all_eq_true.mp h1 ch (List.mem_of_getElem? e3)
    exact .str [ch] (by simpa using this) (by show 1 ≤ sizeLine; decide)
/-- a list, a tuple, a text -/
theorem di_seq {b : Bool} {tg e : Expr} {f : EV} (hK : X.K = c.G.K) (he : DX c W X e f) : DI b c W X tg e (iSeq (frzE f)) := by
  refine PI.imp (PI.or (pi_list (dx_frz he)) (PI.or (pi_tup (dx_frz he)) (pi_str (dx_frz he)))) fun σ H R ⟨ρ, A, S, h⟩ => ?_
  unfold iSeq at h
  cases e : frzE f ρ with
  | bad => rw [e] at h; exact h.elim
  | exc x ρ1 => rw [e] at h; exact .inl (cutExc S e h)
  | ok k ρ1 =>
    rw [e] at h
    simp only [Out.bind] at h
    split at h
    · refine .inl (cutOk S e fun v H1 S1 F1 R1 => ?_)
      cases R1 with
      | res R1 =>
        cases R1 with
        | imm R1 =>
          cases R1 with
          | lst h1 r hl => exact ⟨_, rfl, ⟨_, .inl (.inr ⟨_, h1⟩)⟩, h _ H1 S1 F1 (hK ▸ it_list h1 r) fun _ => hl⟩
    · refine .inr (.inl (cutOk S e fun v H1 S1 F1 R1 => ?_))
      cases R1 with
      | res R1 =>
        cases R1 with
        | imm R1 =>
          cases R1 with
          | tup h1 r hl => exact ⟨_, rfl, ⟨_, hK ▸ h1.sq⟩, h _ H1 S1 F1 (hK ▸ it_tup h1 r) fun _ => hl⟩
    · refine .inr (.inr (cutOk S e fun v H1 S1 F1 R1 => ?_))
      cases R1 with
      | res R1 =>
        cases R1 with
        | imm R1 =>
          cases R1 with
          | str _ h1 h2 => exact ⟨_, rfl, h _ H1 S1 F1 (it_str h1) fun _ => by rw [List.length_map]; exact h2⟩
    · exact h.elim
/-- a range -/
def rng (lo : Int) (n : Nat) : List D := (List.range n).map fun i => .int (lo + (i : Nat))
def iR1 (f : AV) : IV := fun ρ => (f ρ).bind fun ks ρ1 => match imms ks with
  | some [.int j] => if -(2 ^ 62) ≤ j ∧ j < 2 ^ 62 then .ok (rng 0 j.toNat) ρ1 else .bad
  | _ => .bad
def iR2 (f : AV) : IV := fun ρ => (f ρ).bind fun ks ρ1 => match imms ks with
  | some [.int i, .int j] => if (-(2 ^ 62) ≤ i ∧ i < 2 ^ 62) ∧ -(2 ^ 62) ≤ j ∧ j < 2 ^ 62 then .ok (rng i (j - i).toNat) ρ1 else .bad
  | _ => .bad
theorem it_rng {G : Gm} {lo : Int} {n : Nat} : ItR G (Itr lo n) H1 (rng lo n) := by
  have e : (rng lo n).length = n := by simp [rng]
  refine ⟨fun H p i hi => by rw [e] at hi; exact hi, fun H p i hi => by rw [e] at hi; exact hi, fun H p i x H' hlt y => ?_⟩
  obtain ⟨e1, e2⟩ := y
  subst e1; subst e2
  rw [e] at hlt
  exact ⟨.int (lo + (i : Nat)), by simp [rng, hlt], .int _, .refl⟩
theorem imms_int {G : Gm} {vs : List V} {j : Int} (r : ImmL G H vs [.int j]) : vs = [.int j] := by
  cases r with | cons h t => cases t; cases h; rfl
theorem imms_int2 {G : Gm} {vs : List V} {i j : Int} (r : ImmL G H vs [.int i, .int j]) : vs = [.int i, .int j] := by
  cases r with | cons h t => cases t with | cons h' t => cases t; cases h; cases h'; rfl
theorem di_range1 {tg a : Expr} {f : AV} {p pos : Pos} (hg : Gl X "range") (hm : X.mg "range" = none) (ha : DA c W X [a] f) (hs : starEach [a] X.env = [(false, eval a X.env)] := by rfl) : DI false c W X tg (.Call (.Name "range" p) [a] [] pos) (iR1 f) := by
  refine PI.imp (pi_range1 hg hm ha hs) fun σ H R ⟨ρ, A, S, h⟩ => cutA S .refl ?_
  unfold iR1 at h
  rw [Out.post_bind] at h
  refine Out.post_imp h (fun ks ρ1 q vs H1 S1 F1 R1 => ?_) fun _ _ q => q
  split at q
  · rename_i j e
    split at q
    · rename_i hj
      exact ⟨j, imms_int (R1.imms e), hj.1, hj.2, q _ H1 S1 F1 it_rng fun z => nomatch z⟩
    · exact q.elim
  · exact q.elim
theorem di_range2 {tg a b : Expr} {f : AV} {p pos : Pos} (hg : Gl X "range") (hm : X.mg "range" = none) (ha : DA c W X [a, b] f) (hs : starEach [a, b] X.env = [(false, eval a X.env), (false, eval b X.env)] := by rfl) (hs2 : starEach [b] X.env = [(false, eval b X.env)] := by rfl) : DI false c W X tg (.Call (.Name "range" p) [a, b] [] pos) (iR2 f) := by
  refine PI.imp (pi_range2 hg hm ha hs hs2) fun σ H R ⟨ρ, A, S, h⟩ => cutA S .refl ?_
  unfold iR2 at h
  rw [Out.post_bind] at h
  refine Out.post_imp h (fun ks ρ1 q vs H1 S1 F1 R1 => ?_) fun _ _ q => q
  split at q
  · rename_i i j e
    split at q
    · rename_i hj
      exact ⟨i, j, imms_int2 (R1.imms e), ⟨hj.1.1, hj.1.2, hj.2.1, hj.2.2⟩, q _ H1 S1 F1 it_rng fun z => nomatch z⟩
    · exact q.elim
  · exact q.elim

def iL (f : IV) : IV := fun ρ => (f ρ).bind fun ds ρ1 => if ds.length ≤ sizeLine then .ok ds ρ1 else .bad
theorem di_lim {tg e : Expr} {f : IV} (h : DI false c W X tg e f) : DI true c W X tg e (iL f) := by
  refine PI.imp h fun σ H R ⟨ρ, A, S, h⟩ => ⟨ρ, A, S, ?_⟩
  unfold iL at h
  rw [Out.post_bind] at h
  refine Out.post_imp h (fun ds ρ1 q J H1 S1 F1 R1 _ => ?_) fun _ _ q => q
  split at q
  · rename_i hl
    exact q J H1 S1 F1 R1 fun _ => hl
  · exact q.elim

/-! ### comprehensions -/
def wipeE (ρ : Env) : List Nat → Env
  | [] => ρ
  | v :: vs => (wipeE ρ vs).set v .non
def restE (ρ1 ρ2 : Env) : List Nat → Env
  | [] => ρ2
  | v :: vs => (restE ρ1 ρ2 vs).set v (ρ1[v]?.getD .non)
def plainAt (ρ : Env) (vs : List Nat) : Bool := vs.all fun v => match ρ[v]? with
  | some .non => true
  | some (.imm _) => true
  | _ => false
def lcD (g : GV) (tt : TV) (f : EV) (vs : List Nat) : List D → Env → Out (List D)
  | [], ρ => .ok [] ρ
  | d :: ds, ρ => match g d ρ with
    | none => .bad
    | some ρ1 => match tt ρ1 with
      | .ok false ρ2 => lcD g tt f vs ds (wipeE ρ2 vs)
      | .ok true ρ2 => match f ρ2 with
        | .ok (.res (.imm y)) ρ3 => (lcD g tt f vs ds (wipeE ρ3 vs)).bind fun ys ρ' => .ok (y :: ys) ρ'
        | _ => .bad
      | _ => .bad
def eLc (it : IV) (g : GV) (tt : TV) (f : EV) (vs : List Nat) : EV := fun ρ => (it ρ).bind fun ds ρ1 =>
  if plainAt ρ1 vs = true then
    match lcD g tt f vs ds (wipeE ρ1 vs) with
    | .ok ys ρ2 => .ok (.res (.new (.lst ys))) (restE ρ1 ρ2 vs)
    | _ => .bad
  else .bad
theorem wipe_get (σ : Sg) : ∀ (vs : List Nat) (i : Nat), (wipe σ vs)[i]? = if i ∈ vs then (if i < σ.length then some none else none) else σ[i]?
  | [], i => by simp [wipe]
  | v :: vs, i => by
    unfold wipe
    rw [set_get, wipe_length, wipe_get σ vs i]
    by_cases h : i = v
    · subst h; simp
    · simp [h]
theorem wipeE_len (ρ : Env) : ∀ vs : List Nat, (wipeE ρ vs).length = ρ.length
  | [] => rfl
  | v :: vs => by unfold wipeE; rw [List.length_set, wipeE_len ρ vs]
theorem wipeE_get (ρ : Env) : ∀ (vs : List Nat) (i : Nat), (wipeE ρ vs)[i]? = if i ∈ vs then (if i < ρ.length then some .non else none) else ρ[i]?
  | [], i => by simp [wipeE]
  | v :: vs, i => by
    unfold wipeE
    rw [set_get, wipeE_len, wipeE_get ρ vs i]
    by_cases h : i = v
    · subst h; simp
    · simp [h]
theorem restE_len (ρ1 ρ2 : Env) : ∀ vs : List Nat, (restE ρ1 ρ2 vs).length = ρ2.length
  | [] => rfl
  | v :: vs => by unfold restE; rw [List.length_set, restE_len ρ1 ρ2 vs]
theorem restE_get (ρ1 ρ2 : Env) : ∀ (vs : List Nat) (i : Nat), (restE ρ1 ρ2 vs)[i]? = if i ∈ vs then (if i < ρ2.length then some (ρ1[i]?.getD .non) else none) else ρ2[i]?
  | [], i => by simp [restE]
  | v :: vs, i => by
    unfold restE
    rw [set_get, restE_len, restE_get ρ1 ρ2 vs i]
    by_cases h : i = v
    · subst h; simp
    · simp [h]
theorem Stt.wipe (S : Stt c A ρ σ H) (vs : List Nat) : Stt c A (wipeE ρ vs) (L2.wipe σ vs) H := by
  have sub : ∀ {j b}, OwnAt (wipeE ρ vs) (L2.wipe σ vs) j b → OwnAt ρ σ j b := fun {j b} ⟨h1, s', m', h2, h3⟩ => by
    rw [wipe_get] at h1
    rw [wipeE_get] at h2
    split at h1
    · split at h1 <;> cases h1
    · rename_i z
      rw [if_neg z] at h2
      exact ⟨h1, s', m', h2, h3⟩
  refine ⟨by rw [wipe_length, wipeE_len]; exact S.len, fun j s' e => ?_, fun j k b x y => S.inj j k b (sub x) (sub y), fun j b x => S.inA j b (sub x), S.live, S.base, S.dom, S.oldA, fun j b m e q => ?_, fun j b m e q => ?_, S.bAll⟩
  · rw [wipeE_get] at e
    rw [wipe_get, S.len]
    split at e
    · rename_i hv
      split at e
      · rename_i hj
        cases e
        exact ⟨none, by rw [if_pos hv, if_pos hj], .non _⟩
      · cases e
    · rename_i hv
      rw [if_neg hv]
      exact S.slot j s' e
  · rw [wipeE_get] at e
    rw [wipe_get] at q
    split at e
    · split at e <;> cases e
    · rename_i z
      rw [if_neg z] at q; exact S.ownN j b m e q
  · rw [wipeE_get] at e
    rw [wipe_get] at q
    split at e
    · split at e <;> cases e
    · rename_i z
      rw [if_neg z] at q; exact S.borN j b m e q
theorem plain_get {vs : List Nat} (h : plainAt ρ vs = true) {i : Nat} (hi : i ∈ vs) : ρ[i]? = some .non ∨ ∃ d, ρ[i]? = some (.imm d) := by
  have := List.all_eq_true.mp h i hi
  split at this
  · exact .inl (by assumption)
  · exact .inr ⟨_, by assumption⟩
  · cases this
theorem Stt.rest {vs : List Nat} {ρ2 : Env} (S : Stt c A ρ σ H) (S2 : Stt c A ρ2 (L2.wipe σ vs) H') (F : Fr c.G.T A H H') (hp : plainAt ρ vs = true) : Stt c A (restE ρ ρ2 vs) σ H' := by
  have l2 : ρ2.length = σ.length := by rw [← S2.len, wipe_length]
  have val : ∀ {j s}, (restE ρ ρ2 vs)[j]? = some s → j ∈ vs → s.obj? = none ∧ ∃ v, σ[j]? = some v ∧ SlotR c.G H' s v := fun {j s} e hj => by
    rw [restE_get, if_pos hj] at e
    split at e
    · cases e
      rcases plain_get hp hj with z | ⟨d, z⟩
      · rw [z]
        obtain ⟨v, hv, _⟩ := S.slot j _ z
        exact ⟨rfl, v, hv, .non _⟩
      · rw [z]
        obtain ⟨v, hv, r⟩ := S.slot j _ z
        refine ⟨rfl, v, hv, ?_⟩
        cases r with
        | imm r => exact .imm (r.ps F.ps)
    · cases e
  have sub : ∀ {j b}, OwnAt (restE ρ ρ2 vs) σ j b → OwnAt ρ2 (L2.wipe σ vs) j b := fun {j b} ⟨h1, s', m', h2, h3⟩ => by
    by_cases hj : j ∈ vs
    · rw [(val h2 hj).1] at h3; cases h3
    · rw [restE_get, if_neg hj] at h2
      exact ⟨by rw [wipe_get, if_neg hj]; exact h1, s', m', h2, h3⟩
  refine ⟨by rw [restE_len]; exact l2.symm, fun j s' e => ?_, fun j k b x y => S2.inj j k b (sub x) (sub y), fun j b x => S2.inA j b (sub x), S2.live, S2.base, S2.dom, S2.oldA, fun j b m e q => ?_, fun j b m e q => ?_, S2.bAll⟩
  · by_cases hj : j ∈ vs
    · exact (val e hj).2
    · rw [restE_get, if_neg hj] at e
      obtain ⟨v, hv, r⟩ := S2.slot j s' e
      rw [wipe_get, if_neg hj] at hv
      exact ⟨v, hv, r⟩
  · by_cases hj : j ∈ vs
    · have := (val e hj).1; cases this
    · rw [restE_get, if_neg hj] at e
      exact S2.ownN j b m e (by rw [wipe_get, if_neg hj]; exact q)
  · by_cases hj : j ∈ vs
    · have := (val e hj).1; cases this
    · rw [restE_get, if_neg hj] at e
      exact S2.borN j b m e (by rw [wipe_get, if_neg hj]; exact q)
abbrev WF : Wx := fun _ _ _ _ => False
theorem wipe_same {σ' : Sg} {vs is : List Nat} (h : SameBut is (L2.wipe σ vs) σ') (hs : ∀ i ∈ is, i ∈ vs) : L2.wipe σ' vs = L2.wipe σ vs := by
  refine List.ext_getElem? fun i => ?_
  rw [wipe_get, wipe_get]
  have l : σ'.length = σ.length := by rw [h.1, wipe_length]
  by_cases hi : i ∈ vs
  · rw [if_pos hi, if_pos hi, l]
  · rw [if_neg hi, if_neg hi, h.2 i fun z => hi (hs i z), wipe_get, if_neg hi]
theorem wipe_wipe (σ : Sg) (vs : List Nat) : L2.wipe (L2.wipe σ vs) vs = L2.wipe σ vs := by
  refine List.ext_getElem? fun i => ?_
  rw [wipe_get, wipe_length, wipe_get]
  by_cases hi : i ∈ vs
  · rw [if_pos hi, if_pos hi]
  · rw [if_neg hi, if_neg hi]
theorem lcD_len {g : GV} {tt : TV} {f : EV} {vs : List Nat} : ∀ {ds : List D} {ρ ρ' : Env} {ys : List D}, lcD g tt f vs ds ρ = .ok ys ρ' → ys.length ≤ ds.length
  | [], ρ, ρ', ys, h => by cases h; exact Nat.zero_le _
  | d :: ds, ρ, ρ', ys, h => by
    unfold lcD at h
    split at h
    · cases h
    · split at h
      · exact Nat.le_succ_of_le (lcD_len h)
      · split at h
        · rename_i y ρ3 _
          cases e : lcD g tt f vs ds (wipeE ρ3 vs) with
          | ok zs ρ4 =>
            rw [e] at h
            cases h
            exact Nat.succ_le_succ (lcD_len e)
          | exc x r => rw [e] at h; cases h
          | bad => rw [e] at h; cases h
        · cases h
      · cases h
theorem Fr.late {T : List (Addr × Str)} {B : Addr → Prop} {p : Addr} {o : HO} (F : Fr T B H H1) (h : H p = none) : Fr T B H (upd H1 p o) := by
  refine ⟨fun b u e n q => ?_, fun b e => ?_⟩
  · rw [upd_ne (fun z => by subst z; rw [h] at e; cases e)]; exact F.keep b u e n q
  · by_cases z : b = p
    · subst z; rw [upd_same]; exact fun z => nomatch z
    · rw [upd_ne z]; exact F.dom b e
theorem Stt.other {p : Addr} {o : HO} (S : Stt c A ρ σ H) (hA : ¬ A p) (h0 : c.H0 p = none) (hm : ∃ u, H p = some u ∧ ¬ Pst u) : Stt c A ρ σ (upd H p o) := by
  obtain ⟨u, hu, nu⟩ := hm
  have F : Fr c.G.T (fun b => b = p) H (upd H p o) := ⟨fun b w e n q => by
    rw [upd_ne (fun z => by subst z; rw [hu] at e; cases e; exact q.elim nu fun z => z rfl)]; exact e, fun b e => by
    by_cases z : b = p
    · subst z; rw [upd_same]; exact fun z => nomatch z
    · rw [upd_ne z]; exact e⟩
  refine ⟨S.len, fun i s e => ?_, S.inj, S.inA, fun b q => F.dom b (S.live b q), fun b w e n q => F.keep b w (S.base b w e n q) n (.inr fun z => by subst z; rw [h0] at e; cases e), fun b q => F.dom b (S.dom b q), S.oldA, S.ownN, S.borN, S.bAll⟩
  obtain ⟨v, hv, r⟩ := S.slot i s e
  refine ⟨v, hv, r.fr F fun m a h1 h2 z => ?_⟩
  subst z h2
  exact hA (S.inA i _ ⟨hv, s, m, e, h1⟩)
def tTs (c : Cn) (W : Wx) (f : TV) : TT := tT c W f
def DTs (c : Cn) (W : Wx) (X : Cx) (ifs : List Expr) (f : TV) : Prop := PTs X ifs (tT c W f)
def tyYes : TV := fun ρ => .ok true ρ
theorem PTs.imp {X : Cx} {e : List Expr} {t t' : TT} (h : PTs X e t) (i : ∀ σ H Q, t' σ H Q → t σ H Q) : PTs X e t' := ⟨fun pins s σ H Q I q => h.run pins s σ H Q I (i _ _ _ q)⟩
theorem dts_nil : DTs c W X [] tyYes := PTs.imp pts_nil fun σ H Q ⟨ρ, A, S, h⟩ => h H S .refl
theorem dts_one {e : Expr} {f : TV} (h : DT c W X e f) : DTs c W X [e] f := pts_one h
theorem drop_cons {α : Type} {l : List α} {i : Nat} (h : i < l.length) : l.drop i = l[i] :: l.drop (i + 1) := List.drop_eq_getElem_cons h
theorem lc_imp {it : IV} {is vs : List Nat} {g : GV} {tt : TV} {f : EV} {Q : VK} (his : ∀ i ∈ is, i ∈ vs) (h : tP c W (eLc it g tt f vs) σ H Q) : tLc (tI true c W it) (tG c is g) (tT c WF tt) (tP c WF f) vs σ H Q := by
  obtain ⟨ρ, A, S, h⟩ := h
  refine ⟨ρ, A, S, ?_⟩
  unfold eLc at h
  rw [Out.post_bind] at h
  refine Out.post_imp h (fun ds ρ1 q J H1 S1 F1 R hsz D hD => ?_) fun _ _ q => q
  split at q
  rotate_left
  · exact q.elim
  rename_i hpl
  have hsz := hsz rfl
  split at q
  rotate_left
  · exact q.elim
  rename_i ys ρ2 hrun
  have nA : ¬ A D := fun z => S1.live D z hD
  have h0 : c.H0 D = none := Classical.byContradiction fun z => S1.dom D z hD
  refine ⟨fun i m Hc => m = ds.length - i ∧ i ≤ ds.length ∧ ∃ ρc acc rest xs, Stt c A ρc (L2.wipe σ vs) Hc ∧ Fr c.G.T A H1 Hc ∧ lcD g tt f vs (ds.drop i) ρc = .ok rest ρ2 ∧ acc ++ rest = ys ∧ Hc D = some (.lst xs) ∧ ImmL c.G Hc xs acc ∧ acc.length ≤ i, ⟨ds.length, by simp, Nat.zero_le _, wipeE ρ1 vs, [], ys, [], ?_⟩, ?_⟩
  · exact ⟨(S1.wipe vs).grow (.new hD), Fr.new hD, by simpa using hrun, rfl, upd_same, .nil, Nat.le_refl _⟩
  · rintro i m Hc ⟨rfl, hil, ρc, acc, rest, xs, Sc, Fc, hr, hacc, hDc, hxs, hla⟩
    by_cases hlt : i < ds.length
    rotate_left
    · have ei : ds.drop i = [] := List.drop_eq_nil_of_le (by omega)
      rw [ei] at hr
      simp only [lcD, Out.ok.injEq] at hr
      obtain ⟨rfl, rfl⟩ := hr
      rw [List.append_nil] at hacc
      subst hacc
      refine .inl ⟨R.stop Hc Fc.ps i (by omega), ?_⟩
      exact q _ Hc (S1.rest Sc Fc hpl) (F1.trans Fc) (.res ((ResR.new (H0 := H1) (.lst hDc hxs (by omega)) hD).old F1))
    · refine .inr ⟨R.go Hc Fc.ps i hlt, fun H' => ds.length - (i + 1) = ds.length - (i + 1) ∧ i + 1 ≤ ds.length ∧ ∃ ρc acc rest xs, Stt c A ρc (L2.wipe σ vs) H' ∧ Fr c.G.T A H1 H' ∧ lcD g tt f vs (ds.drop (i + 1)) ρc = .ok rest ρ2 ∧ acc ++ rest = ys ∧ H' D = some (.lst xs) ∧ ImmL c.G H' xs acc ∧ acc.length ≤ i + 1, fun H' n => ⟨ds.length - (i + 1), by omega, n⟩, fun x H' hy => ?_⟩
      obtain ⟨d, hd, hx, F'⟩ := R.yld Hc Fc.ps i x H' hlt hy
      rw [drop_cons hlt] at hr
      have ed : ds[i] = d := by rw [List.getElem?_eq_getElem hlt] at hd; exact Option.some.inj hd
      rw [ed] at hr
      have hD' : H' D = some (.lst xs) := F'.keep D _ hDc (fun _ z => nomatch z) (.inr fun z => z)
      unfold lcD at hr
      split at hr
      · cases hr
      rename_i ρ3 hgd
      refine ⟨ρc, A, d, ρ3, Sc.grow F', hx, hgd, fun σ3 S3 b3 => ⟨wipe_same b3 his, ρ3, A, S3, ?_⟩⟩
      have ew : L2.wipe σ3 vs = L2.wipe σ vs := by rw [wipe_same b3 his]
      have ew2 : L2.wipe (L2.wipe σ vs) vs = L2.wipe σ vs := wipe_wipe σ vs
      split at hr
      · rename_i ρ4 htt
        rw [htt]
        intro H4 S4 F4
        rw [if_neg Bool.false_ne_true]
        refine ⟨rfl, hlt, wipeE ρ4 vs, acc, rest, xs, ?_, Fc.trans (F'.any.trans F4), hr, hacc, F4.keep D _ hD' (fun _ z => nomatch z) (.inr nA), (hxs.ps F'.ps).ps F4.ps, by omega⟩
        have := S4.wipe vs
        rw [ew, ] at this
        exact this
      · rename_i ρ4 htt
        rw [htt]
        intro H4 S4 F4
        rw [if_pos rfl]
        split at hr
        rotate_left
        · cases hr
        rename_i y ρ5 hf
        refine ⟨ρ4, A, S4, ?_⟩
        rw [hf]
        intro v H5 S5 F5 R5
        have F45 := F4.trans F5
        have hD5 : H5 D = some (.lst xs) := F45.keep D _ hD' (fun _ z => nomatch z) (.inr nA)
        cases e : lcD g tt f vs (ds.drop (i + 1)) (wipeE ρ5 vs) with
        | bad => rw [e] at hr; cases hr
        | exc x r => rw [e] at hr; cases hr
        | ok zs ρ6 =>
          rw [e] at hr
          simp only [Out.bind, Out.ok.injEq] at hr
          obtain ⟨rfl, rfl⟩ := hr
          have hx5 : ImmL c.G H5 xs acc := (hxs.ps F'.ps).ps F45.ps
          refine ⟨xs, hD5, by rw [hx5.length]; omega, rfl, hlt, wipeE ρ5 vs, acc ++ [y], zs, xs ++ [v], ?_, ?_, e, by rw [List.append_assoc]; exact hacc, upd_same, ?_, by rw [List.length_append]; simpa using hla⟩
          · have := S5.wipe vs
            rw [ew] at this
            exact this.other nA h0 ⟨_, hD5, fun z => z⟩
          · exact (Fc.trans (F'.any.trans F45)).late hD
          · have ps5 : Ps H5 (upd H5 D (.lst (xs ++ [v]))) := fun b u e p => by
              rw [upd_ne (fun z => by subst z; rw [hD5] at e; cases e; exact p)]; exact e
            cases R5 with
            | res R5 =>
              cases R5 with
              | imm R5 => exact (hx5.append (.cons R5 .nil)).ps ps5
      · cases hr
theorem dx_lc {elt tg iter : Expr} {ifs : List Expr} {scope : Scope} {own : List (Str × Nat)} {pos : Pos} {it : IV} {is : List Nat} {g : GV} {tt : TV} {f : EV} (hc : X.calm = true) (hN : X.N.Nodup) (hi : DI true c W X tg iter it) (ok : BlkOk X.N X.env.scope scope own) (his : ∀ i ∈ is, i ∈ own.map (·.2))
    (hg : ∀ (s : Shared) (H : Hp) (C : Addr) (cl : List (Str × Addr)) (fp : List Addr), DG c (X.blk s H scope (compEnvC scope cl C X.env) fp) tg is g) (ht : ∀ (s : Shared) (H : Hp) (C : Addr) (cl : List (Str × Addr)) (fp : List Addr), DTs c WF (X.blk s H scope (compEnvC scope cl C X.env) fp) ifs tt)
    (he : ∀ (s : Shared) (H : Hp) (C : Addr) (cl : List (Str × Addr)) (fp : List Addr), DX c WF (X.blk s H scope (compEnvC scope cl C X.env) fp) elt f) (hs : ∀ x, foldedSetIterable iter X.env x = pure x := by intro _; rfl) :
    DX c W X (.ListComp elt [⟨tg, iter, ifs, 0⟩] scope pos) (eLc it g tt f (own.map (·.2))) := by
  exact PE.imp (pe_lc hc hN hi ok hg ht he hs) fun σ H Q h => lc_imp his h
end
end DL
namespace DL
open PySem PySem.Spec PyProof.Rows L2

def stB {α : Type} (f : Env → Out α) (k : α → Env → SOut) : SV := fun ρ => match f ρ with
  | .ok a ρ' => k a ρ'
  | .exc x ρ' => .exc x ρ'
  | .bad => .bad
section
variable {c : Cn} {W : Wx} {X : Cx} {A : Addr → Prop} {ρ : Env} {σ : Sg} {H0 H H' H1 : Hp} {D : Ends}
theorem sP.ps {o : SOut} (h : sP c W H D o) (p : Ps H H1) : sP c W H1 D o := by
  cases o with
  | nx ρ => exact fun σ' H' A' S q => h σ' H' A' S (p.trans q)
  | bk ρ => exact fun σ' H' A' S q => h σ' H' A' S (p.trans q)
  | ct ρ => exact fun σ' H' A' S q => h σ' H' A' S (p.trans q)
  | rt r ρ => exact fun v σ' H' A' S q => h v σ' H' A' S (p.trans q)
  | exc x ρ => exact fun cls d σ' H' A' S q => h cls d σ' H' A' S (p.trans q)
  | bad => exact h
theorem sP.kX {x : Ex} (h : sP c W H D (.exc x ρ)) : kX c W A H σ x ρ := fun cls d H' S F E => h cls d σ H' A S F.ps E
theorem useS {f : EV} {k : Pk → Env → SOut} {R : VK} (S : Stt c A ρ σ H) (h : sP c W H D (stB f k ρ)) (hk : ∀ a ρ1 v H1, Stt c A ρ1 σ H1 → Fr c.G.T A H H1 → PkR c A H H1 σ v a → sP c W H1 D (k a ρ1) → R v H1) : tP c W f σ H R := by
  refine ⟨ρ, A, S, ?_⟩
  unfold stB at h
  cases e : f ρ with
  | ok a ρ1 => rw [e] at h; exact fun v H1 S1 F1 R1 => hk a ρ1 v H1 S1 F1 R1 (h.ps F1.ps)
  | exc x ρ1 => rw [e] at h; exact h.kX
  | bad => rw [e] at h; exact h
theorem useSA {f : AV} {k : List Pk → Env → SOut} {R : List V → Hp → Prop} (S : Stt c A ρ σ H) (h : sP c W H D (stB f k ρ)) (hk : ∀ a ρ1 v H1, Stt c A ρ1 σ H1 → Fr c.G.T A H H1 → PkL c A H H1 σ v a → sP c W H1 D (k a ρ1) → R v H1) : tA c W f σ H R := by
  refine ⟨ρ, A, S, ?_⟩
  unfold stB at h
  cases e : f ρ with
  | ok a ρ1 => rw [e] at h; exact fun v H1 S1 F1 R1 => hk a ρ1 v H1 S1 F1 R1 (h.ps F1.ps)
  | exc x ρ1 => rw [e] at h; exact h.kX
  | bad => rw [e] at h; exact h
theorem useST {f : TV} {k : Bool → Env → SOut} {R : Bool → Hp → Prop} (S : Stt c A ρ σ H) (h : sP c W H D (stB f k ρ)) (hk : ∀ a ρ1 H1, Stt c A ρ1 σ H1 → Fr c.G.T A H H1 → sP c W H1 D (k a ρ1) → R a H1) : tT c W f σ H R := by
  refine ⟨ρ, A, S, ?_⟩
  unfold stB at h
  cases e : f ρ with
  | ok a ρ1 => rw [e] at h; exact fun H1 S1 F1 => hk a ρ1 H1 S1 F1 (h.ps F1.ps)
  | exc x ρ1 => rw [e] at h; exact h.kX
  | bad => rw [e] at h; exact h
theorem useSI {bb : Bool} {f : IV} {k : List DL.D → Env → SOut} {R : It → Hp → Prop} (S : Stt c A ρ σ H) (h : sP c W H D (stB f k ρ)) (hk : ∀ a ρ1 J H1, Stt c A ρ1 σ H1 → Fr c.G.T A H H1 → ItR c.G J H1 a → sP c W H1 D (k a ρ1) → R J H1) : tI bb c W f σ H R := by
  refine ⟨ρ, A, S, ?_⟩
  unfold stB at h
  cases e : f ρ with
  | ok a ρ1 => rw [e] at h; exact fun v H1 S1 F1 R1 _ => hk a ρ1 v H1 S1 F1 R1 (h.ps F1.ps)
  | exc x ρ1 => rw [e] at h; exact h.kX
  | bad => rw [e] at h; exact h

/-! ### blocks -/
def sNext : SV := fun ρ => .nx ρ
def sSeq (f g : SV) : SV := fun ρ => match f ρ with
  | .nx ρ' => g ρ'
  | o => o
theorem dss_nil : DSs c W X [] sNext := PSs.imp pss_nil fun D σ H ⟨ρ, A, S, h⟩ => h σ H A S fun _ _ q _ => q
theorem dss_cons {st : Stmt} {rest : List Stmt} {f g : SV} (h1 : DS c W X st f) (h2 : DSs c W X rest g) : DSs c W X (st :: rest) (sSeq f g) := by
  refine PSs.imp (pss_cons h1 h2) fun D σ H ⟨ρ, A, S, h⟩ => ⟨ρ, A, S, ?_⟩
  unfold sSeq at h
  cases e : f ρ with
  | nx ρ' => rw [e] at h; exact fun σ' H' A' S' p => ⟨ρ', A', S', h.ps p⟩
  | bk ρ' => rw [e] at h; exact h
  | ct ρ' => rw [e] at h; exact h
  | rt r ρ' => rw [e] at h; exact h
  | exc x ρ' => rw [e] at h; exact h
  | bad => rw [e] at h; exact h
theorem dss_one {st : Stmt} {f : SV} (h : DS c W X st f) : DSs c W X [st] f := pss_one h
def sPass : SV := sNext
theorem ds_pass {pos : Pos} : DS c W X (.Pass pos) sNext := PS.imp ps_pass fun D σ H ⟨ρ, A, S, h⟩ => h σ H A S fun _ _ q _ => q
def sBreak : SV := fun ρ => .bk ρ
def sCont : SV := fun ρ => .ct ρ
theorem ds_break {pos : Pos} : DS c W X (.Break pos) sBreak := PS.imp ps_break fun D σ H ⟨ρ, A, S, h⟩ => h σ H A S fun _ _ q _ => q
theorem ds_continue {pos : Pos} : DS c W X (.Continue pos) sCont := PS.imp ps_continue fun D σ H ⟨ρ, A, S, h⟩ => h σ H A S fun _ _ q _ => q
theorem ds_doc {x : Str} {j : Nat} {pos pos' : Pos} {k : Option String} : True := trivial

/-! ### return -/
def sRet (f : EV) : SV := stB f fun k ρ => match k with
  | .res r => .rt r ρ
  | .at i => match ρ[i]? with
    | some (.own m) => .rt (.new m) ρ
    | _ => .bad
theorem ResR.ret {v : V} {r : Res} (h : ResR c.G H H1 v r) (S : Stt c A ρ σ H) : RetR c H1 v r := by
  cases h with
  | imm h => exact .imm h
  | new h n => exact .new h (Classical.byContradiction fun z => S.dom _ z n)
theorem ds_ret {e : Expr} {f : EV} {pos : Pos} (he : DX c W X e f) : DS c W X (.Return (some e) pos) (sRet f) := by
  refine PS.imp (ps_ret he) fun D σ H ⟨ρ, A, S, h⟩ => useS S h fun k ρ1 v H1 S1 F1 R1 q => ?_
  cases R1 with
  | res R1 => exact q v σ H1 A S1 (fun _ _ q _ => q) (R1.ret S)
  | @«at» i hv =>
    simp only at q
    cases e : ρ1[i]? with
    | none => rw [e] at q; exact q.elim
    | some s =>
      rw [e] at q
      cases s with
      | own m =>
        obtain ⟨a, ⟨ha, _⟩, ho⟩ := S1.is e (m := m) rfl
        rw [hv] at ha; cases ha
        exact q _ σ H1 A S1 (fun _ _ q _ => q) (.new ho (S1.ownN i a m e hv))
      | non => exact q.elim
      | imm d => exact q.elim
      | bor m => exact q.elim
def sRetN : SV := fun ρ => .rt (.imm .non) ρ
theorem ds_retN {pos : Pos} : DS c W X (.Return none pos) sRetN := PS.imp ps_retN fun D σ H ⟨ρ, A, S, h⟩ => h _ σ H A S (fun _ _ q _ => q) (.imm .non)

/-! ### name = value -/
def setK (i : Nat) (k : Pk) (ρ : Env) : SOut := match k with
  | .res (.imm d) => .nx (ρ.set i (.imm d))
  | .res (.new m) => .nx (ρ.set i (.own m))
  | .at _ => .bad
def sSet (i : Nat) (f : EV) : SV := stB f (setK i)
theorem Stt.setOwn {a : Addr} {m : M} (S : Stt c A ρ σ H) (i : Nat) (h : Obm c.G H a m) (nA : ¬ A a) (h0 : c.H0 a = none) : Stt c (fun b => A b ∨ b = a) (ρ.set i (.own m)) (σ.set i (some (.ref a))) H := by
  have sub : ∀ {j b}, OwnAt (ρ.set i (.own m)) (σ.set i (some (.ref a))) j b → (OwnAt ρ σ j b ∧ j ≠ i) ∨ (j = i ∧ b = a) := fun {j b} ⟨h1, s', m', h2, h3⟩ => by
    rw [set_get] at h1 h2
    by_cases z : j = i
    · rw [if_pos z] at h1
      split at h1
      · cases h1; exact .inr ⟨z, rfl⟩
      · cases h1
    · rw [if_neg z] at h1 h2
      exact .inl ⟨⟨h1, s', m', h2, h3⟩, z⟩
  refine ⟨by rw [List.length_set, List.length_set]; exact S.len, fun j s' e => ?_, fun j k b x y => ?_, fun j b x => ?_, fun b z => ?_, S.base, S.dom, fun b z => ?_, fun j b m' e q => ?_, fun j b m' e q => ?_, S.bAll⟩
  · rw [set_get] at e ⊢
    by_cases z : j = i
    · rw [if_pos z] at e ⊢
      rw [S.len]
      split at e
      · rename_i hi
        cases e
        exact ⟨_, if_pos hi, .own h⟩
      · cases e
    · rw [if_neg z] at e ⊢
      exact S.slot j s' e
  · rcases sub x with ⟨x', zx⟩ | ⟨zx, ex⟩ <;> rcases sub y with ⟨y', zy⟩ | ⟨zy, ey⟩
    · exact S.inj j k b x' y'
    · exact (nA (ey ▸ S.inA _ _ x')).elim
    · exact (nA (ex ▸ S.inA _ _ y')).elim
    · rw [zx, zy]
  · rcases sub x with ⟨x, _⟩ | ⟨_, ex⟩
    · exact .inl (S.inA j b x)
    · exact .inr ex
  · rcases z with z | z
    · exact S.live b z
    · subst z; exact h.ne
  · rcases z with z | z
    · exact S.oldA b z
    · subst z; exact .inl h0
  · rw [set_get] at e q
    by_cases z : j = i
    · rw [if_pos z] at q
      split at q
      · cases q; exact h0
      · cases q
    · rw [if_neg z] at e q; exact S.ownN j b m' e q
  · rw [set_get] at e q
    by_cases z : j = i
    · rw [if_pos z] at e
      split at e <;> cases e
    · rw [if_neg z] at e q; exact S.borN j b m' e q
theorem goSet {i : Nat} {k : Pk} {v : V} {Q : Sg → Hp → Prop} (S : Stt c A ρ σ H) {ρ1 : Env} (S1 : Stt c A ρ1 σ H1) (F1 : Fr c.G.T A H H1) (R1 : PkR c A H H1 σ v k)
    (q : sP c W H1 { D with nx := Q } (setK i k ρ1)) : Q (σ.set i (some v)) H1 := by
  cases R1 with
  | res R1 =>
    cases R1 with
    | imm r => exact q _ H1 A (S1.setImm i rfl (.imm r)) fun _ _ q _ => q
    | new h n =>
      have nA : ¬ A _ := fun z => S.live _ z n
      exact q _ H1 _ (S1.setOwn i h nA (Classical.byContradiction fun z => S.dom _ z n)) fun _ _ q _ => q
  | «at» h => exact q.elim
theorem ds_set {i : Nat} {x : Str} {e : Expr} {f : EV} {pos pos' : Pos} (hN : X.N.Nodup) (hi : X.N[i]? = some x) (hx : Loc X.env.scope x) (he : DX c W X e f) (hs : swapsWith e (some (.Name x pos')) pos.line X.env = pure false := by rfl)
    (hf : X.fn x = true ∨ X.env.scope.names.lookup x = some .local := by first | exact .inl rfl | exact .inr rfl | assumption) : DS c W X (.Assign [.Name x pos'] e pos) (sSet i f) :=
  PS.imp (ps_set (i := i) hN hi hx he hs hf) fun D σ H ⟨ρ, A, S, h⟩ => useS S h fun k ρ1 v H1 S1 F1 R1 q => goSet (D := D) S S1 F1 R1 q
end
end DL
namespace DL
open PySem PySem.Spec PyProof.Rows L2

section
variable {c : Cn} {W : Wx} {X : Cx} {A : Addr → Prop} {ρ : Env} {σ : Sg} {H0 H H' H1 : Hp}

/-! ### what a dict holds -/
def D.pk : D → Option Key
  | .int i => some (.inl i)
  | .str cs => some (.inr (cstr cs))
  | _ => none
def kEq (a b : D) : Bool := match a.key, b.key with
  | some x, some y => decide (x = y)
  | _, _ => false
def dLook : List D → List D → D → Option D
  | a :: ks, v :: vs, k => if kEq a k = true then some v else dLook ks vs k
  | _, _, _ => none
theorem keyD_key (k : Key) : (keyD k).key = some (match k with | .inl i => .num i | .inr s => .text s) := by
  cases k with
  | inl i => rfl
  | inr s => simp [keyD, D.key, cstr_of]
theorem pk_key {d : D} {k : Key} (h : d.pk = some k) : d.key = (keyD k).key := by
  cases d <;> simp only [D.pk, Option.some.injEq] at h <;> first | (subst h; simp [keyD, D.key, cstr]) | cases h
theorem kEq_keyD {a : Key} {d : D} {k : Key} (h : d.pk = some k) : kEq (keyD a) d = decide (a = k) := by
  unfold kEq
  rw [pk_key h, keyD_key, keyD_key]
  cases a <;> cases k <;> simp
theorem pk_V {G : Gm} {v : V} {d : D} {k : Key} (h : Imm G H v d) (e : d.pk = some k) : v = kV k := by
  cases h <;> simp only [D.pk, Option.some.injEq] at e <;> first | (subst e; rfl) | cases e
theorem look_of {G : Gm} : ∀ {kvs : List (Key × V)} {vs : List D} {k : Key} {d : D}, ImmL G H (kvs.map (·.2)) vs → d.pk = some k →
    (match dLook (kvs.map fun p => keyD p.1) vs d with
      | some x => ∃ v, valV kvs k = some v ∧ Imm G H v x
      | none => valV kvs k = none)
  | [], vs, k, d, r, e => by cases r; rfl
  | p :: kvs, vs, k, d, r, e => by
    cases r with
    | cons h t =>
      simp only [List.map_cons, dLook, kEq_keyD e, decide_eq_true_eq]
      by_cases z : p.1 = k
      · rw [if_pos z]
        exact ⟨p.2, valV_pos z, h⟩
      · rw [if_neg z]
        have e2 : valV (p :: kvs) k = valV kvs k := by simp [valV, List.find?_cons, z]
        rw [e2]
        exact look_of t e
/-- d[k] of a dict whose keys are texts and numbers -/
def rIxK : R2 := fun x y H Q => ∃ a v, x = .ref a ∧ DGet H a y (some v) ∧ Q v H
theorem ix_dict (hu : X.A.units + 1 < cLine) : IxR X rIxK := by
  intro value slice pins s σ H x y v u Q I rx ry ⟨a, r, ex, g, q⟩ hs
  subst ex
  obtain rfl : v = Value.ref a := rx
  exact tail_any (dict_typeIs I g) slot_dict_getitem.lookup (d_getItem hu I g ry fun w' s3 I3 rw' => ⟨r, H, I3, rw', q⟩) hs
def ixD (d k : D) : Option Res := match d with
  | .dct ks vs => if k.pk.isSome = true then (dLook ks vs k).map .imm else none
  | _ => ixG d k
def rIxAll (K : PySem.W.Frag) (w : World) : R2 := fun x y H Q => rIx K x y H Q ∨ rIxK x y H Q ∨ rIxD K w x y H Q
theorem ix_all (hu : X.A.units + 1 < cLine) : IxR X (rIxAll X.K X.w) := ix_seq.or ((ix_dict hu).or ix_kdict)
inductive DctR (G : Gm) (H : Hp) (a : Addr) (ks vs : List D) : Prop
  | k (kvs : List (Key × V)) (h : Rd H a (.dK kvs)) (hk : ks = kvs.map fun p => keyD p.1) (rv : ImmL G H (kvs.map (·.2)) vs)
  | w (vals : List V) (h : KDL G.K G.w a ks vals) (rv : ImmL G H vals vs)
inductive DcnR (G : Gm) (H : Hp) (a : Addr) (ks vs : List D) : Prop
  | n (xs : List (NestedKey × Addr × Value)) (vals : List V) (h : Rd H a (dNO G a xs)) (hv : Vals vals (xs.map (·.2.2))) (hk : ks.map D.key = xs.map fun x => some x.1) (rk : ImmL G H (xs.map fun x => V.ref x.2.1) ks) (rv : ImmL G H vals vs)
theorem Vw.dct {G : Gm} {v : V} {ks vs : List D} (h : Vw G H v (.dct ks vs)) : ∃ a, v = .ref a ∧ DctR G H a ks vs := by
  generalize e : D.dct ks vs = d at h
  cases h with
  | imm h =>
    cases h <;> first
      | (cases e; exact ⟨_, rfl, .k _ (.inr ⟨_, by assumption⟩) (by assumption) (by assumption)⟩)
      | (cases e; exact ⟨_, rfl, .w _ (by assumption) (by assumption)⟩)
      | cases e
  | obj h =>
    cases h with
    | lst h r hl => cases e
    | dcn h hv hk rk rv => cases e
    | dck h hk rv => cases e; exact ⟨_, rfl, .k _ (.inl h) hk rv⟩
theorem Vw.dcn {G : Gm} {v : V} {ks vs : List D} (h : Vw G H v (.dcn ks vs)) : ∃ a, v = .ref a ∧ DcnR G H a ks vs := by
  generalize e : D.dcn ks vs = d at h
  cases h with
  | imm h =>
    cases h <;> first
      | (cases e; exact ⟨_, rfl, .n _ _ (.inr ⟨_, by assumption⟩) (by assumption) (by assumption) (by assumption) (by assumption)⟩)
      | cases e
  | obj h =>
    cases h with
    | lst h r hl => cases e
    | dcn h hv hk rk rv => cases e; exact ⟨_, rfl, .n _ _ (.inl h) hv hk rk rv⟩
    | dck h hk rv => cases e
theorem look_w {G : Gm} {w : World} {a : Addr} : ∀ {ks : List D} {vals : List V} {vs : List D} {d x : D} {cs : List Nat}, KDL G.K w a ks vals → ImmL G H vals vs → d = .str cs → dLook ks vs d = some x → ∃ v, KDct G.K w a (cstr cs) v ∧ Imm G H v x
  | [], vals, vs, d, x, cs, h, r, e, q => by unfold dLook at q; cases q
  | k :: ks, [], vs, d, x, cs, h, r, e, q => absurd h.1 (by simp)
  | k :: ks, v :: vals, vs, d, x, cs, h, r, e, q => by
    cases r with
    | cons hv t =>
      obtain ⟨s, v', ek, ev, hd⟩ := h.2 0 k rfl
      cases ev
      subst ek
      unfold dLook at q
      split at q
      · rename_i z
        cases q
        subst e
        have : s = cs := by
          simp only [kEq, D.key, decide_eq_true_eq, NestedKey.text.injEq] at z
          exact cstr_inj z
        subst this
        exact ⟨v, hd, hv⟩
      · exact look_w ⟨Nat.succ.inj h.1, fun i k' e' => h.2 (i + 1) k' e'⟩ t e q
theorem look_wi {K : PySem.W.Frag} {w : World} {a : Addr} {i : Int} : ∀ {ks : List D} {vals : List V} {vs : List D}, KDL K w a ks vals → dLook ks vs (.int i) = none
  | [], vals, vs, h => by unfold dLook; rfl
  | k :: ks, [], vs, h => absurd h.1 (by simp)
  | k :: ks, v :: vals, [], h => by unfold dLook; rfl
  | k :: ks, v :: vals, x :: vs, h => by
    obtain ⟨s, v', ek, ev, hd⟩ := h.2 0 k rfl
    subst ek
    unfold dLook
    have : kEq (.str s) (.int i) = false := by simp [kEq, D.key]
    rw [this, if_neg Bool.false_ne_true]
    exact look_wi (vals := vals) ⟨Nat.succ.inj h.1, fun i k' e' => h.2 (i + 1) k' e'⟩
theorem look_n {G : Gm} {d : D} {k : Key} (hp : d.pk = some k) : ∀ {l : List Addr} {ks vs : List D}, ImmL G H (l.map V.ref) ks → dLook ks vs d = none
  | [], ks, vs, r => by cases r; unfold dLook; rfl
  | a :: l, k0 :: ks, [], r => by unfold dLook; rfl
  | a :: l, k0 :: ks, v :: vs, r => by
    cases r with
    | cons h t =>
      unfold dLook
      have : kEq k0 d = false := by
        unfold kEq
        rw [pk_key hp, keyD_key]
        cases h with
        | tup h r l =>
          simp only [D.key]
          rename_i ds
          cases D.keys ds with
          | none => rfl
          | some ks => cases k <;> simp
        | lst => rfl
        | dcn => rfl
        | dck => rfl
        | kdc => rfl
        | seq => rfl
        | fn => rfl
      rw [this, if_neg Bool.false_ne_true]
      exact look_n hp t
theorem ixD_ok (hK : X.K = c.G.K) (hw : X.w = c.G.w) : OpG c.G (rIxAll X.K X.w) ixD := by
  intro H x y d e rs hx hy h Q k
  unfold ixD at h
  split at h
  · rename_i ks vs
    split at h
    · rename_i hp
      obtain ⟨key, hp⟩ := Option.isSome_iff_exists.mp hp
      simp only [Option.map_eq_some_iff] at h
      obtain ⟨r, e1, rfl⟩ := h
      obtain ⟨a, rfl, hd⟩ := hx.dct
      have hy' : Imm c.G H y e := by
        cases hy with
        | imm h => exact h
        | obj h => cases h <;> cases hp
      cases hd with
      | k kvs h hk rv =>
        subst hk
        have := look_of rv hp
        rw [e1] at this
        obtain ⟨v, e2, hi⟩ := this
        refine .inr (.inl ⟨a, v, rfl, .inl ⟨kvs, key, h, pk_V hy' hp, e2.symm⟩, k _ _ .refl (.imm hi)⟩)
      | w vals h rv =>
        cases hy' with
        | str cs h1 h2 =>
          obtain ⟨v, e2, hi⟩ := look_w h rv rfl e1
          exact .inr (.inr ⟨a, _, v, rfl, rfl, hK ▸ hw ▸ e2, k _ _ .refl (.imm hi)⟩)
        | int i => rw [look_wi h] at e1; cases e1
        | non => cases hp
        | bl _ => cases hp
        | tup => cases hp
        | lst => cases hp
        | dcn => cases hp
        | dck => cases hp
        | kdc => cases hp
        | seq => cases hp
        | fn => cases hp
    · cases h
  · exact .inl (ixG_ok hK H x y d e rs hx hy h Q k)

/-! ### displays of dicts -/
abbrev QV := Env → Out (List (D × D))
def prN : QV := fun ρ => .ok [] ρ
def prC (fk fv : EV) (r : QV) : QV := fun ρ => (fk ρ).bind fun a ρ1 => (fv ρ1).bind fun b ρ2 => match a, b with
  | .res (.imm x), .res (.imm y) => (r ρ2).bind fun ps ρ3 => .ok ((x, y) :: ps) ρ3
  | _, _ => .bad
def kQ (c : Cn) (A : Addr → Prop) (H : Hp) (σ : Sg) (Q : List (V × V) → Hp → Prop) : List (D × D) → Env → Prop := fun ps ρ' => ∀ vs H', Stt c A ρ' σ H' → Fr c.G.T A H H' → ImmL c.G H' (vs.map (·.1)) (ps.map (·.1)) → ImmL c.G H' (vs.map (·.2)) (ps.map (·.2)) → Q vs H'
structure DQ (c : Cn) (W : Wx) (X : Cx) (pos : Pos) (keys : List (Option Expr)) (values : List Expr) (f : QV) : Prop where
  ex : ∃ trs, PPs X pos keys values trs ∧ ∀ (ρ : Env) (A : Addr → Prop) (σ : Sg) (H0 H : Hp) (Q : List (V × V) → Hp → Prop), Stt c A ρ σ H → Fr c.G.T A H0 H → (f ρ).post (kQ c A H σ Q) (kX c W A H0 σ) → tPairs trs σ H Q
theorem dq_nil {pos : Pos} : DQ c W X pos [] [] prN := ⟨[], pps_nil, fun ρ A σ H0 H Q S F h => h [] H S .refl .nil .nil⟩
theorem dq_cons {pos : Pos} {k v : Expr} {ks : List (Option Expr)} {vs : List Expr} {fk fv : EV} {r : QV} (hk : DX c W X k fk) (hv : DX c W X v fv) (hr : DQ c W X pos ks vs r) : DQ c W X pos (some k :: ks) (v :: vs) (prC fk fv r) := by
  obtain ⟨trs, h1, h2⟩ := hr.ex
  refine ⟨_, pps_cons hk hv h1, fun ρ A σ H0 H Q S F h => ?_⟩
  show tP c W fk σ H _
  unfold prC at h
  rw [Out.post_bind] at h
  refine cut S F (Out.post_imp h (fun k1 ρ1 q v1 H1 S1 F1 R1 => ?_) fun _ _ q => q)
  rw [Out.post_bind] at q
  refine cut S1 (F.trans F1) (Out.post_imp q (fun k2 ρ2 q v2 H2 S2 F2 R2 => ?_) fun _ _ q => q)
  split at q
  · rw [Out.post_bind] at q
    refine h2 ρ2 A σ H0 H2 _ S2 ((F.trans F1).trans F2) (Out.post_imp q (fun ps ρ3 q vs H3 S3 F3 i1 i2 => ?_) fun _ _ q => q)
    cases R1 with
    | res R1 =>
      cases R1 with
      | imm R1 =>
        cases R2 with
        | res R2 =>
          cases R2 with
          | imm R2 => exact q _ H3 S3 ((F1.trans F2).trans F3) (.cons ((R1.ps F2.ps).ps F3.ps) i1) (.cons (R2.ps F3.ps) i2)
  · exact q.elim
def pks : List D → Option (List Key)
  | [] => some []
  | d :: ds => match d.pk, pks ds with
    | some k, some ks => some (k :: ks)
    | _, _ => none
def distinct : List Key → Bool
  | [] => true
  | k :: ks => !(ks.any fun j => decide (j = k)) && distinct ks
def eDisp (f : QV) : EV := fun ρ => (f ρ).bind fun ps ρ1 => match pks (ps.map (·.1)) with
  | some ks => if distinct ks = true ∧ ks.length ≤ 15 then .ok (.res (.new (.dct (ps.map (·.1)) (ps.map (·.2))))) ρ1 else .bad
  | none => .bad
theorem pks_kV {G : Gm} : ∀ {vs : List V} {ds : List D} {ks : List Key}, ImmL G H vs ds → pks ds = some ks → vs = ks.map kV ∧ ds = ks.map keyD ∧ ks.length = ds.length
  | _, _, ks, .nil, e => by cases e; exact ⟨rfl, rfl, rfl⟩
  | _, _, ks, .cons (d := d) (ds := ds) h t, e => by
    unfold pks at e
    split at e
    · rename_i k ks' e1 e2
      cases e
      obtain ⟨z1, z2, z3⟩ := pks_kV t e2
      have hd : d = keyD k := by
        cases d <;> simp only [D.pk, Option.some.injEq] at e1 <;> first | (subst e1; simp [keyD, cstr]) | cases e1
      rw [pk_V h e1, z1, hd]
      exact ⟨rfl, congrArg _ z2, by simp [z3]⟩
    · cases e
theorem merge_distinct : ∀ (kvs acc : List (Key × V)), distinct (kvs.map (·.1)) = true → (∀ p ∈ kvs, ∀ q ∈ acc, q.1 ≠ p.1) → mergeK acc kvs = acc ++ kvs
  | [], acc, _, _ => by simp [mergeK]
  | p :: kvs, acc, h, hd => by
    simp only [List.map_cons, distinct, Bool.and_eq_true, Bool.not_eq_true', List.any_eq_false, decide_eq_true_eq] at h
    have e1 : putK acc p.1 p.2 = acc ++ [p] := by
      unfold putK
      rw [if_neg]
      simp only [List.any_eq_true, decide_eq_true_eq, not_exists, not_and]
      exact fun q hq => hd p (by simp) q hq
    show mergeK (putK acc p.1 p.2) kvs = _
    rw [e1, merge_distinct kvs (acc ++ [p]) h.2 fun q hq r hr => ?_]
    · simp
    · rcases List.mem_append.mp hr with hr | hr
      · exact hd q (by simp [hq]) r hr
      · rw [List.mem_singleton.mp hr]
        exact fun z => h.1 q.1 (List.mem_map.mpr ⟨q, hq, rfl⟩) z.symm
theorem zipBack {α β : Type} : ∀ l : List (α × β), l = (l.map (·.1)).zip (l.map (·.2))
  | [] => rfl
  | a :: l => by simp only [List.map_cons, List.zip_cons_cons]; rw [← zipBack l]
theorem dx_disp {keys : List (Option Expr)} {values : List Expr} {f : QV} {pos : Pos} (h : DQ c W X pos keys values f) (hall : keys.all (·.isSome) = true := by rfl) (hl : keys.length = values.length := by rfl) (h0 : keys ≠ [] := by exact fun z => nomatch z) (h15 : keys.length ≤ 15 := by decide) :
    DX c W X (.Dict keys values pos) (eDisp f) := by
  obtain ⟨trs, h1, h2⟩ := h.ex
  refine PE.imp (pe_disp h1 hall hl h0 h15) fun σ H Q ⟨ρ, A, S, h⟩ => fun p hp => ?_
  have Fp : Fr c.G.T (fun _ => False) H (upd H p (.dK [])) := .new hp
  unfold eDisp at h
  rw [Out.post_bind] at h
  have nA : ¬ A p := fun z => S.live p z hp
  refine h2 ρ A σ H _ _ (S.grow Fp) Fp.any (Out.post_imp h (fun ps ρ1 q vs H1 S1 F1 i1 i2 => ?_) fun _ _ q => q)
  split at q
  · rename_i ks e
    split at q
    · rename_i hd
      obtain ⟨z1, z2, z3⟩ := pks_kV i1 e
      have hDp : H1 p = some (.dK []) := F1.keep p _ upd_same (fun _ z => nomatch z) (.inr nA)
      have lv : ks.length = vs.length := by rw [z3, ← i1.length, List.length_map]
      have em : (ks.zip (vs.map (·.2))).map (·.1) = ks := by rw [List.map_fst_zip]; simp [lv]
      have em2 : (ks.zip (vs.map (·.2))).map (·.2) = vs.map (·.2) := by rw [List.map_snd_zip]; simp [lv]
      have e3 : mergeK [] (ks.zip (vs.map (·.2))) = ks.zip (vs.map (·.2)) := by
        rw [merge_distinct _ [] (by rw [em]; exact hd.1) (fun _ _ _ z => nomatch z)]; rfl
      refine ⟨hDp, ks.zip (vs.map (·.2)), ?_, by simp [lv]; omega, ?_⟩
      · have e4 : (ks.zip (vs.map (·.2))).map (fun kv => (kV kv.1, kv.2)) = (ks.map kV).zip (vs.map (·.2)) := by
          rw [List.zip_map_left]; rfl
        rw [e4, ← z1]
        exact zipBack vs
      · rw [e3]
        have h0 : c.H0 p = none := Classical.byContradiction fun z => S.dom p z hp
        have psp : Ps H1 (upd H1 p (.dK (ks.zip (vs.map (·.2))))) := fun b u e2 pp => by
          rw [upd_ne (fun z => by subst z; rw [hDp] at e2; cases e2; exact pp)]; exact e2
        have F2 : Fr c.G.T A H H1 := ⟨fun b w e n pq => F1.keep b w (by rw [upd_ne (fun z => by subst z; rw [hp] at e; cases e)]; exact e) n pq, fun b z => F1.dom b (Fp.dom b z)⟩
        refine q _ _ (S1.other nA h0 ⟨_, hDp, fun z => z⟩) (F2.late hp) (.res (.new (.dck upd_same ?_ ?_) hp))
        · rw [z2]
          conv => lhs; rw [← em]
          rw [List.map_map]; rfl
        · rw [em2]; exact i2.ps psp
    · exact q.elim
  · exact q.elim

/-! ### d.get(k, x) -/
def eGet2 (f fk fx : EV) : EV := fun ρ => (f ρ).bind fun k ρ1 => match k with
  | .res (.new (.dct ks vs)) => (fk ρ1).bind fun kk ρ2 => (fx ρ2).bind fun kx ρ3 => match kk, kx with
    | .res (.imm y), .res (.imm z) => if y.pk.isSome = true then .ok (.res (.imm ((dLook ks vs y).getD z))) ρ3 else .bad
    | _, _ => .bad
  | _ => .bad
theorem dx_get2 {o e f : Expr} {fo fk fx : EV} {apos cpos : Pos} (hu : X.A.units + 1 < cLine) (ho : DX c W X o fo) (he : DX c W X e fk) (hf : DX c W X f fx) (m : M2 X o "get" apos e f cpos) : DX c W X (.Call (.Attribute o "get" apos) [e, f] [] cpos) (eGet2 fo fk fx) := by
  refine PE.imp (pe_dget2 hu ho he hf m) fun σ H Q ⟨ρ, A, S, h⟩ => cut S .refl ?_
  unfold eGet2 at h
  rw [Out.post_bind] at h
  refine Out.post_imp h (fun k ρ1 q v H1 S1 F1 R1 => ?_) fun _ _ q => q
  split at q
  · cases R1 with
    | res R1 =>
      cases R1 with
      | new ho n =>
        cases ho with
        | @dck kvs _ vs hk1 hk2 rv =>
          subst hk2
          refine ⟨_, rfl, .inl ⟨_, .inl hk1⟩, cut S1 F1 ?_⟩
          rw [Out.post_bind] at q
          refine Out.post_imp q (fun k2 ρ2 q v2 H2 S2 F2 R2 => cut S2 (F1.trans F2) ?_) fun _ _ q => q
          rw [Out.post_bind] at q
          refine Out.post_imp q (fun k3 ρ3 q v3 H3 S3 F3 R3 => ?_) fun _ _ q => q
          split at q
          · split at q
            · rename_i hp
              obtain ⟨key, hp⟩ := Option.isSome_iff_exists.mp hp
              cases R2 with
              | res R2 =>
                cases R2 with
                | imm R2 =>
                  cases R3 with
                  | res R3 =>
                    cases R3 with
                    | imm R3 =>
                      have F23 := F2.trans F3
                      have nA : ∀ a, A a → H a ≠ none := S.live
                      have hk3 := F23.keep _ _ hk1 (fun _ z => nomatch z) (.inr fun z => nA _ z n)
                      have lk := look_of (rv.ps F23.ps) hp
                      refine ⟨_, .inl ⟨kvs, key, .inl hk3, pk_V (R2.ps F3.ps) hp, rfl⟩, ?_⟩
                      split at lk
                      · rename_i x e
                        obtain ⟨v, e1, e2⟩ := lk
                        rw [e1]
                        rw [e] at q
                        exact q v H3 S3 ((F1.trans F2).trans F3) (.res (.imm e2))
                      · rename_i e
                        rw [lk]
                        rw [e] at q
                        exact q v3 H3 S3 ((F1.trans F2).trans F3) (.res (.imm R3))
            · exact q.elim
          · exact q.elim
  · exact q.elim
end
end DL
namespace DL
open PySem PySem.Spec PyProof.Rows L2

section
variable {c : Cn} {W : Wx} {X : Cx} {A : Addr → Prop} {ρ : Env} {σ : Sg} {H0 H H' H1 : Hp} {D : Ends}

/-! ### name = [..] -/
theorem ds_setLc {i : Nat} {y : Str} {py : Pos} {elt tg iter : Expr} {ifs : List Expr} {scope : Scope} {own : List (Str × Nat)} {pos spos : Pos} {it : IV} {is : List Nat} {g : GV} {tt : TV} {f : EV} (hc : X.calm = true) (hN : X.N.Nodup) (hy : X.N[i]? = some y) (hyl : X.env.scope.names.lookup y = some .local)
    (hsw : swapsWith (.ListComp elt [⟨tg, iter, ifs, 0⟩] scope pos) (some (.Name y py)) spos.line X.env = pure true) (hi : DI true c W X tg iter it) (ok : BlkOk X.N X.env.scope scope own) (his : ∀ i ∈ is, i ∈ own.map (·.2))
    (hg : ∀ (s : Shared) (H : Hp) (C : Addr) (cl : List (Str × Addr)) (fp : List Addr), DG c (X.blk s H scope (compEnvC scope cl C X.env) fp) tg is g) (ht : ∀ (s : Shared) (H : Hp) (C : Addr) (cl : List (Str × Addr)) (fp : List Addr), DTs c WF (X.blk s H scope (compEnvC scope cl C X.env) fp) ifs tt)
    (he : ∀ (s : Shared) (H : Hp) (C : Addr) (cl : List (Str × Addr)) (fp : List Addr), DX c WF (X.blk s H scope (compEnvC scope cl C X.env) fp) elt f) (hs : ∀ x, foldedSetIterable iter X.env x = pure x := by intro _; rfl) :
    DS c W X (.Assign [.Name y py] (.ListComp elt [⟨tg, iter, ifs, 0⟩] scope pos) spos) (sSet i (eLc it g tt f (own.map (·.2)))) :=
  PS.imp (ps_setLc hc hN hy hyl hsw hi ok hg ht he hs) fun D σ H ⟨ρ, A, S, h⟩ =>
    lc_imp his (useS S h fun k ρ1 v H1 S1 F1 R1 q => goSet (D := D) (Q := D.nx) S S1 F1 R1 q)

/-! ### other targets -/
def sAsg (f : EV) (g : GV) : SV := stB f fun k ρ => match k with
  | .res (.imm d) => match g d ρ with
    | some ρ' => .nx ρ'
    | none => .bad
  | _ => .bad
theorem ds_asg {tg e : Expr} {f : EV} {is : List Nat} {g : GV} {pos : Pos} (he : DX c W X e f) (hg : DG c X tg is g) (hs : swapsWithSole [tg] e pos.line X.env = pure false := by rfl) (hw : swappedStores [tg] e X.env = pure none := by rfl)
    (h1 : (assignEach [tg] X.env).map (·.2) = [assign tg X.env] := by rfl) : DS c W X (.Assign [tg] e pos) (sAsg f g) := by
  refine PS.imp (ps_asg he hg hs hw h1) fun D σ H ⟨ρ, A, S, h⟩ => useS S h fun k ρ1 v H1 S1 F1 R1 q => ?_
  cases R1 with
  | «at» h => exact q.elim
  | res R1 =>
    cases R1 with
    | new h n => exact q.elim
    | @imm _ d r =>
      simp only at q
      cases e : g d ρ1 with
      | none => rw [e] at q; exact q.elim
      | some ρ2 =>
        rw [e] at q
        exact ⟨ρ1, A, d, ρ2, S1, r, e, fun σ2 S2 _ => q σ2 H1 A S2 fun _ _ q _ => q⟩
def sPar (i j : Nat) (f : AV) : SV := stB f fun ks ρ => match ks with
  | [.res (.imm d), .res (.imm e)] => .nx ((ρ.set i (.imm d)).set j (.imm e))
  | _ => .bad
theorem ds_par {i j : Nat} {x y : Str} {a b : Expr} {fa : AV} {px py pt : Pos} {kt k2 : Nat} {pt2 pos : Pos} (hc : X.calm = true) (hN : X.N.Nodup) (hi : X.N[i]? = some x) (hj : X.N[j]? = some y) (hij : i ≠ j)
    (hx : X.env.scope.names.lookup x = some .local) (hy : X.env.scope.names.lookup y = some .local) (ha : DA c W X [a, b] fa)
    (hw : swappedStores [.Tuple [.Name x px, .Name y py] kt pt] (.Tuple [a, b] k2 pt2) X.env = pure (some [x, y]))
    (hs : swapsWithSole [.Tuple [.Name x px, .Name y py] kt pt] (.Tuple [a, b] k2 pt2) pos.line X.env = pure false := by rfl) :
    DS c W X (.Assign [.Tuple [.Name x px, .Name y py] kt pt] (.Tuple [a, b] k2 pt2) pos) (sPar i j fa) := by
  refine PS.imp (ps_par hc hN hi hj hij hx hy ha hw hs) fun D σ H ⟨ρ, A, S, h⟩ => useSA S h fun ks ρ1 vs H1 S1 F1 R1 q => ?_
  split at q
  · cases R1 with
    | cons h1 t =>
      cases t with
      | cons h2 t =>
        cases t
        cases h1 with
        | res h1 =>
          cases h1 with
          | imm h1 =>
            cases h2 with
            | res h2 =>
              cases h2 with
              | imm h2 => exact ⟨_, _, rfl, q _ H1 A ((S1.setImm i rfl (.imm h1)).setImm j rfl (.imm h2)) fun _ _ q _ => q⟩
  · exact q.elim
def sPar3 (i j l : Nat) (f : AV) : SV := stB f fun ks ρ => match ks with
  | [.res (.imm d), .res (.imm e), .res (.imm g)] => .nx (((ρ.set i (.imm d)).set j (.imm e)).set l (.imm g))
  | _ => .bad
theorem ds_par3 {i j l : Nat} {x y z : Str} {a b d : Expr} {fa : AV} {px py pz pt pos : Pos} {kt k2 : Nat} {pt2 : Pos} (hc : X.calm = true) (hN : X.N.Nodup) (hi : X.N[i]? = some x) (hj : X.N[j]? = some y) (hl : X.N[l]? = some z) (hij : i ≠ j) (hil : i ≠ l) (hjl : j ≠ l)
    (hx : X.env.scope.names.lookup x = some .local) (hy : X.env.scope.names.lookup y = some .local) (hz : X.env.scope.names.lookup z = some .local) (ha : DA c W X [a, b, d] fa)
    (hw : swappedStores [.Tuple [.Name x px, .Name y py, .Name z pz] kt pt] (.Tuple [a, b, d] k2 pt2) X.env = pure (some [x, y, z]))
    (hs : swapsWithSole [.Tuple [.Name x px, .Name y py, .Name z pz] kt pt] (.Tuple [a, b, d] k2 pt2) pos.line X.env = pure false := by rfl) :
    DS c W X (.Assign [.Tuple [.Name x px, .Name y py, .Name z pz] kt pt] (.Tuple [a, b, d] k2 pt2) pos) (sPar3 i j l fa) := by
  refine PS.imp (ps_par3 hc hN hi hj hl hij hil hjl hx hy hz ha hw hs) fun D σ H ⟨ρ, A, S, h⟩ => useSA S h fun ks ρ1 vs H1 S1 F1 R1 q => ?_
  split at q
  · cases R1 with
    | cons h1 t =>
      cases t with
      | cons h2 t =>
        cases t with
        | cons h3 t =>
          cases t
          cases h1 with
          | res h1 =>
            cases h1 with
            | imm h1 =>
              cases h2 with
              | res h2 =>
                cases h2 with
                | imm h2 =>
                  cases h3 with
                  | res h3 =>
                    cases h3 with
                    | imm h3 => exact ⟨_, _, _, rfl, q _ H1 A (((S1.setImm i rfl (.imm h1)).setImm j rfl (.imm h2)).setImm l rfl (.imm h3)) fun _ _ q _ => q⟩
  · exact q.elim

/-! ### if, for, while -/
def sIf (t : TV) (f g : SV) : SV := stB t fun b ρ => if b = true then f ρ else g ρ
theorem ds_if {t : Expr} {a b : List Stmt} {ft : TV} {f g : SV} {pos : Pos} (ht : DT c W X t ft) (ha : DSs c W X a f) (hb : DSs c W X b g) : DS c W X (.If t a b pos) (sIf ft f g) := by
  refine PS.imp (ps_if ht ha hb) fun D σ H ⟨ρ, A, S, h⟩ => useST S h fun b ρ1 H1 S1 F1 q => ?_
  cases b with
  | true => rw [if_pos rfl] at q ⊢; exact ⟨ρ1, A, S1, q⟩
  | false => rw [if_neg Bool.false_ne_true] at q ⊢; exact ⟨ρ1, A, S1, q⟩
def forD (g : GV) (b : SV) : List DL.D → SV
  | [], ρ => .nx ρ
  | d :: ds, ρ => match g d ρ with
    | none => .bad
    | some ρ1 => match b ρ1 with
      | .nx ρ2 => forD g b ds ρ2
      | .ct ρ2 => forD g b ds ρ2
      | .bk ρ2 => .nx ρ2
      | o => o
def sFor (it : IV) (g : GV) (b : SV) : SV := stB it fun ds ρ => forD g b ds ρ
theorem ds_for {tg iter : Expr} {body : List Stmt} {it : IV} {is : List Nat} {g : GV} {b : SV} {pos : Pos} (hp : PassesOwn (model X.prog X.w) X.A X.env X.xe) (hc : X.calm = true) (hi : DI false c W X tg iter it) (hg : DG c X tg is g) (hb : DSs c W X body b)
    (hs : ∀ x, foldedSetIterable iter X.env x = pure x := by intro _; rfl) : DS c W X (.For tg iter body [] pos) (sFor it g b) := by
  refine PS.imp (ps_for hp hc hi hg hb hs) fun D σ H ⟨ρ, A, S, h⟩ => useSI S h fun ds ρ1 J H1 S1 F1 R q => ?_
  refine ⟨fun i m σc Hc => m = ds.length - i ∧ i ≤ ds.length ∧ ∃ ρc Ac, Stt c Ac ρc σc Hc ∧ Ps H1 Hc ∧ sP c W Hc D (forD g b (ds.drop i) ρc), ⟨_, rfl, Nat.zero_le _, ρ1, A, S1, fun _ _ q _ => q, by simpa using q⟩, ?_⟩
  rintro i m σc Hc ⟨rfl, hil, ρc, Ac, Sc, pc, hq⟩
  by_cases hlt : i < ds.length
  · refine .inr ⟨R.go Hc pc i hlt, fun σ' H' => i + 1 ≤ ds.length ∧ ∃ ρc Ac, Stt c Ac ρc σ' H' ∧ Ps H1 H' ∧ sP c W H' D (forD g b (ds.drop (i + 1)) ρc), fun σ' H' n => ⟨ds.length - (i + 1), by omega, rfl, n⟩, fun x H2 hy => ?_⟩
    obtain ⟨d, hd, hx, F'⟩ := R.yld Hc pc i x H2 hlt hy
    rw [drop_cons hlt] at hq
    have ed : ds[i] = d := by rw [List.getElem?_eq_getElem hlt] at hd; exact Option.some.inj hd
    rw [ed] at hq
    unfold forD at hq
    cases e : g d ρc with
    | none => rw [e] at hq; exact hq.elim
    | some ρ2 =>
      rw [e] at hq
      simp only at hq
      refine ⟨ρc, Ac, d, ρ2, Sc.grow F', hx, e, fun σ2 S2 _ => ⟨ρ2, Ac, S2, ?_⟩⟩
      cases eb : b ρ2 with
      | nx ρ3 => rw [eb] at hq; exact fun σ' H' A' S' p => ⟨hlt, ρ3, A', S', pc.trans (F'.ps.trans p), (hq.ps F'.ps).ps p⟩
      | ct ρ3 => rw [eb] at hq; exact fun σ' H' A' S' p => ⟨hlt, ρ3, A', S', pc.trans (F'.ps.trans p), (hq.ps F'.ps).ps p⟩
      | bk ρ3 => rw [eb] at hq; exact fun σ' H' A' S' p => hq σ' H' A' S' (F'.ps.trans p)
      | rt r ρ3 => rw [eb] at hq; exact fun v σ' H' A' S' p => hq v σ' H' A' S' (F'.ps.trans p)
      | exc x ρ3 => rw [eb] at hq; exact fun cls d σ' H' A' S' p => hq cls d σ' H' A' S' (F'.ps.trans p)
      | bad => rw [eb] at hq; exact hq
  · have ei : ds.drop i = [] := List.drop_eq_nil_of_le (by omega)
    rw [ei] at hq
    exact .inl ⟨R.stop Hc pc i (by omega), hq σc Hc Ac Sc fun _ _ q _ => q⟩
def whileD (t : TV) (b : SV) : Nat → SV
  | 0, _ => .bad
  | n + 1, ρ => match t ρ with
    | .ok true ρ1 => match b ρ1 with
      | .nx ρ2 => whileD t b n ρ2
      | .ct ρ2 => whileD t b n ρ2
      | .bk ρ2 => .nx ρ2
      | o => o
    | .ok false ρ1 => .nx ρ1
    | .exc x ρ1 => .exc x ρ1
    | .bad => .bad
def wfuel : Nat := 1000000000
def sWhile (t : TV) (b : SV) : SV := whileD t b wfuel
theorem ds_while {t : Expr} {body : List Stmt} {ft : TV} {b : SV} {pos : Pos} (hp : PassesOwn (model X.prog X.w) X.A X.env X.xe) (ht : DT c W X t ft) (hb : DSs c W X body b) : DS c W X (.While t body [] pos) (sWhile ft b) := by
  refine PS.imp (ps_while hp ht hb) fun D σ H ⟨ρ, A, S, h⟩ => ⟨fun m σc Hc => ∃ ρc Ac, Stt c Ac ρc σc Hc ∧ sP c W Hc D (whileD ft b m ρc), ⟨wfuel, ρ, A, S, h⟩, ?_⟩
  rintro m σc Hc ⟨ρc, Ac, Sc, hq⟩
  cases m with
  | zero => exact hq.elim
  | succ n =>
    unfold whileD at hq
    refine ⟨ρc, Ac, Sc, ?_⟩
    cases e : ft ρc with
    | bad => rw [e] at hq; exact hq
    | exc x ρ1 => rw [e] at hq; exact hq.kX
    | ok k ρ1 =>
      rw [e] at hq
      intro H1 S1 F1
      cases k with
      | false => rw [if_neg Bool.false_ne_true]; exact hq σc H1 Ac S1 F1.ps
      | true =>
        rw [if_pos rfl]
        refine ⟨fun σ' H' => ∃ ρc Ac, Stt c Ac ρc σ' H' ∧ sP c W H' D (whileD ft b n ρc), fun σ' H' q => ⟨n, Nat.lt_succ_self n, q⟩, ρ1, Ac, S1, ?_⟩
        simp only at hq
        cases eb : b ρ1 with
        | nx ρ3 => rw [eb] at hq; exact fun σ' H' A' S' p => ⟨ρ3, A', S', (hq.ps F1.ps).ps p⟩
        | ct ρ3 => rw [eb] at hq; exact fun σ' H' A' S' p => ⟨ρ3, A', S', (hq.ps F1.ps).ps p⟩
        | bk ρ3 => rw [eb] at hq; exact fun σ' H' A' S' p => hq σ' H' A' S' (F1.ps.trans p)
        | rt r ρ3 => rw [eb] at hq; exact fun v σ' H' A' S' p => hq v σ' H' A' S' (F1.ps.trans p)
        | exc x ρ3 => rw [eb] at hq; exact fun cls d σ' H' A' S' p => hq cls d σ' H' A' S' (F1.ps.trans p)
        | bad => rw [eb] at hq; exact hq

/-! ### values that are dropped; changed lists -/
def sDrop (f : EV) : SV := stB f fun _ ρ => .nx ρ
theorem ds_expr {e : Expr} {f : EV} {pos : Pos} (he : DX c W X e f) (hs : swapsWith e none pos.line X.env = pure false := by rfl) : DS c W X (.Expr e pos) (sDrop f) :=
  PS.imp (ps_expr he hs) fun D σ H ⟨ρ, A, S, h⟩ => useS S h fun k ρ1 v H1 S1 F1 R1 q => q σ H1 A S1 fun _ _ q _ => q
def lstAt (ρ : Env) (i : Nat) : Option (List DL.D) := match (ρ[i]?).bind Slot.obj? with
  | some (.lst ds) => some ds
  | _ => none
theorem lstAt_is {i : Nat} {ds : List DL.D} (S : Stt c A ρ σ H) (e : lstAt ρ i = some ds) : ∃ a, OwnAt ρ σ i a ∧ Obm c.G H a (.lst ds) := by
  unfold lstAt at e
  split at e
  · rename_i ds' h
    cases e
    simp only [Option.bind_eq_some_iff] at h
    obtain ⟨s, h1, h2⟩ := h
    exact S.is h1 h2
  · cases e
theorem Fr.at {T : List (Addr × Str)} {p : Addr} {o u : HO} (hu : H p = some u) (nu : ¬ Pst u) : Fr T (fun b => b = p) H (upd H p o) := ⟨fun b w e n q => by
    rw [upd_ne (fun z => by subst z; rw [hu] at e; cases e; exact q.elim nu fun z => z rfl)]; exact e, fun b e => by
    by_cases z : b = p
    · subst z; rw [upd_same]; exact fun z => nomatch z
    · rw [upd_ne z]; exact e⟩
def sApp (i : Nat) (f : EV) : SV := fun ρ => match lstAt ρ i with
  | some _ => stB f (fun k ρ1 => match k, lstAt ρ1 i with
    | .res (.imm d), some ds => if ds.length < sizeLine then .nx (ρ1.modify i (Slot.put (.lst (ds ++ [d])))) else .bad
    | _, _ => .bad) ρ
  | none => .bad
theorem ds_app {i : Nat} {x : Str} {e : Expr} {f : EV} {p apos cpos pos : Pos} (hN : X.N[i]? = some x) (hv : Vis X.env.scope x) (hd : (x == ("__debug__" : Str)) = false) (hcd : (x == ("__classdict__" : Str)) = false) (he : DX c W X e f)
    (hbase : attributeBase (.Name x p) "append" X.env (eval (.Name x p) X.env) = eval (.Name x p) X.env := by rfl)
    (hfew : ((backTo cpos (starEach [e] X.env)).all (fun x => !x.1) && (backToKw cpos (keywordEach [] X.env)).all (fun x => x.1.isSome) && decide (([e] : List Expr).length + ([] : List Keyword).length + (if ([] : List Keyword).isEmpty then 0 else 1) < 30)) = true := by rfl)
    (hline : (apos.endLine == cpos.line) = true := by rfl) (hst : starEach [e] X.env = [(false, eval e X.env)] := by rfl) (hpl : (backTo cpos (starEach [] X.env)).any (·.1) = false := by rfl)
    (hs : swapsWith (.Call (.Attribute (.Name x p) "append" apos) [e] [] cpos) none pos.line X.env = pure false := by rfl) :
    DS c W X (.Expr (.Call (.Attribute (.Name x p) "append" apos) [e] [] cpos) pos) (sApp i f) := by
  refine PS.imp (ps_expr (pe_bm PySem.F.plainAttrs_list PySem.F.slot_list_append PySem.F.type_list_append mt_append (pe_var (i := i) hN hv hd hcd) (pa_cons he pa_nil hst) hbase hfew hline hst hpl) hs) fun D σ H ⟨ρ, A, S, h⟩ => ?_
  unfold sApp at h
  split at h
  · rename_i ds0 e0
    obtain ⟨a, o, ho⟩ := lstAt_is S e0
    cases ho with
    | lst hl r hln =>
      refine ⟨_, o.1, .inl ⟨rfl, _, SqL.of hl⟩, useS S h fun k ρ1 v H1 S1 F1 R1 q => ?_⟩
      split at q
      · rename_i d ds e1
        split at q
        · rename_i hlen
          obtain ⟨a', o', ho'⟩ := lstAt_is S1 e1
          have : a' = a := by have := o'.1; rw [o.1] at this; cases this; rfl
          subst this
          cases R1 with
          | res R1 =>
            cases R1 with
            | imm R1 =>
              cases ho' with
              | @lst xs _ hl' r' hln' =>
                refine ⟨_, xs, v, rfl, rfl, hl', by rw [r'.length]; exact hlen, ?_⟩
                have F2 : Fr c.G.T (fun b => b = a') H1 (upd H1 a' (.lst (xs ++ [v]))) := Fr.at hl' fun z => z
                exact q σ _ A (S1.put F2 o' (.lst upd_same ((r'.append (.cons R1 .nil)).ps F2.ps) (by rw [List.length_append]; exact hlen))) F2.ps
        · exact q.elim
      · exact q.elim
  · exact h.elim
def sSetIx (i : Nat) (fi fe : EV) : SV := stB fe fun k ρ1 => match k with
  | .res (.imm d) => match lstAt ρ1 i with
    | some _ => stB fi (fun ki ρ2 => match ki, lstAt ρ2 i with
      | .res (.imm (.int z)), some ds => match ixN ds.length z with
        | some j => .nx (ρ2.modify i (Slot.put (.lst (ds.set j d))))
        | none => .bad
      | _, _ => .bad) ρ1
    | none => .bad
  | _ => .bad
theorem ds_setIx {i : Nat} {x : Str} {ie e : Expr} {fi fe : EV} {p tpos pos : Pos} (hN : X.N[i]? = some x) (hv : Vis X.env.scope x) (hd : (x == ("__debug__" : Str)) = false) (hcd : (x == ("__classdict__" : Str)) = false) (hi : DX c W X ie fi) (he : DX c W X e fe)
    (ha : ∀ v, assign (.Subscript (.Name x p) ie tpos) X.env v = (do
      let ov ← holding [v] (eval (.Name x p) X.env)
      let iv ← holding [v, ov] (eval ie X.env)
      standAt tpos
      holding [v, ov, iv] (setItem ov iv v)
      release [v, ov, iv] []) := by intro _; rfl)
    (hs : swapsWithSole [.Subscript (.Name x p) ie tpos] e pos.line X.env = pure false := by rfl) (hw : swappedStores [.Subscript (.Name x p) ie tpos] e X.env = pure none := by rfl)
    (h1 : (assignEach [.Subscript (.Name x p) ie tpos] X.env).map (·.2) = [assign (.Subscript (.Name x p) ie tpos) X.env] := by rfl) :
    DS c W X (.Assign [.Subscript (.Name x p) ie tpos] e pos) (sSetIx i fi fe) := by
  refine PS.imp (ps_asg he (pg_sub (pe_var (i := i) hN hv hd hcd) hi set_list ha) hs hw h1) fun D σ H ⟨ρ, A, S, h⟩ => useS S h fun k ρ1 v H1 S1 F1 R1 q => ?_
  split at q
  · rename_i d
    split at q
    · rename_i ds0 e0
      obtain ⟨a, o, ho⟩ := lstAt_is S1 e0
      refine ⟨_, o.1, useS S1 q fun ki ρ2 vi H2 S2 F2 R2 q => ?_⟩
      split at q
      · rename_i z ds e1
        split at q
        · rename_i j ej
          obtain ⟨a', o', ho'⟩ := lstAt_is S2 e1
          have : a' = a := by have := o'.1; rw [o.1] at this; cases this; rfl
          subst this
          cases R1 with
          | res R1 =>
            cases R1 with
            | imm R1 =>
              cases R2 with
              | res R2 =>
                cases ho' with
                | @lst xs _ hl' r' hln' =>
                  refine ⟨a', xs, z, j, rfl, R2.int, hl', by rw [r'.length]; exact ej, ?_⟩
                  have F3 : Fr c.G.T (fun b => b = a') H2 (upd H2 a' (.lst (xs.set j v))) := Fr.at hl' fun z => z
                  exact q σ _ A (S2.put F3 o' (.lst upd_same ((r'.set j (R1.ps F2.ps)).ps F3.ps) (by rw [List.length_set]; exact hln'))) F3.ps
        · exact q.elim
      · exact q.elim
    · exact q.elim
  · exact q.elim
end
end DL
namespace DL
open PySem PySem.Spec PyProof.Rows L2

def borS (om : Option M) : List DL.Slot := match om with
  | some m => [DL.Slot.bor m]
  | none => []
def fin2 (om : Option M) (ρ : Env) (k : Option M → FOut) : FOut := match om with
  | none => k none
  | some _ => match ρ[(0 : Nat)]? with
    | some (.bor m) => k (some m)
    | _ => .bad
def finF (om : Option M) : SOut → FOut
  | .nx ρ => fin2 om ρ (.ret (.imm .non))
  | .rt r ρ => fin2 om ρ (.ret r)
  | .exc x ρ => fin2 om ρ (.exc x)
  | _ => .bad
/-- a def: so many parameters, so many further names, the body -/
def mkF (np nx : Nat) (b : SV) : FnD := fun om ds => if (borS om ++ ds.map Slot.imm).length = np then finF om (b ((borS om ++ ds.map Slot.imm) ++ List.replicate nx .non)) else .bad

section
variable {G : Gm} {H : Hp}
theorem ImmL.slots : ∀ {us : List V} {ds : List D} (i : Nat) (s : DL.Slot), ImmL G H us ds → (ds.map Slot.imm)[i]? = some s → ∃ v, (us.map some)[i]? = some v ∧ SlotR G H s v
  | _, _, i, s, .nil, e => by simp at e
  | _, _, 0, s, .cons h t, e => by simp at e; subst e; exact ⟨_, rfl, .imm h⟩
  | _, _, i + 1, s, .cons h t, e => by
    obtain ⟨v, q, r⟩ := t.slots i s (by simpa using e)
    exact ⟨v, by simpa using q, r⟩
theorem pad_get {α : Type} {l : List α} {k i : Nat} {x y : α} (h : (l ++ List.replicate k x)[i]? = some y) : l[i]? = some y ∨ (l.length ≤ i ∧ i < l.length + k ∧ y = x) := by
  by_cases hi : i < l.length
  · rw [List.getElem?_append_left hi] at h; exact .inl h
  · rw [List.getElem?_append_right (by omega), List.getElem?_replicate] at h
    split at h
    · cases h; exact .inr ⟨by omega, by omega, rfl⟩
    · cases h
theorem start_stt {B : Option Addr} {om : Option M} {us : List V} {ds : List D} {k : Nat} (hb : BorR G H B om) (r : ImmL G H us ds) :
    Stt ⟨G, H, B⟩ (fun a => B = some a) ((borS om ++ ds.map Slot.imm) ++ List.replicate k .non) ((refs B ++ us).map some ++ List.replicate k none) H := by
  have l1 : (borS om).length = (refs B).length := by cases hb <;> rfl
  have own : ∀ {i a}, OwnAt ((borS om ++ ds.map Slot.imm) ++ List.replicate k .non) ((refs B ++ us).map some ++ List.replicate k none) i a → i = 0 ∧ B = some a ∧ ∃ m, om = some m := fun {i a} ⟨h1, s, m, h2, h3⟩ => by
    rcases pad_get h2 with h2 | ⟨_, _, rfl⟩
    · cases hb with
      | none =>
        simp only [borS, List.nil_append, List.getElem?_map, Option.map_eq_some_iff] at h2
        obtain ⟨d, _, rfl⟩ := h2
        cases h3
      | @some a' m' ho =>
        cases i with
        | zero =>
          simp only [refs, List.cons_append, List.map_cons, List.getElem?_cons_zero] at h1
          cases h1
          exact ⟨rfl, rfl, _, rfl⟩
        | succ j =>
          simp only [borS, List.cons_append, List.nil_append, List.getElem?_cons_succ, List.getElem?_map, Option.map_eq_some_iff] at h2
          obtain ⟨d, _, rfl⟩ := h2
          cases h3
    · cases h3
  refine ⟨by simp [l1, r.length], fun i s e => ?_, fun i j a x y => by rw [(own x).1, (own y).1], fun i a x => (own x).2.1, fun a x => ?_, fun b o e _ _ => e, fun b h => h, fun a x => .inr x, fun i a m e q => ?_, fun i a m e q => ⟨(own ⟨q, _, _, e, rfl⟩).1, (own ⟨q, _, _, e, rfl⟩).2.1⟩, fun a x => ?_⟩
  · rcases pad_get e with e | ⟨z1, z2, rfl⟩
    · have hi : i < (borS om ++ ds.map Slot.imm).length := (List.getElem?_eq_some_iff.mp e).1
      have hl : i < ((refs B ++ us).map some).length := by
        simp only [List.length_append, List.length_map] at hi ⊢
        rw [← l1, r.length]; exact hi
      rw [List.getElem?_append_left hl]
      cases hb with
      | none => exact r.slots i s e
      | some ho =>
        cases i with
        | zero => simp [borS] at e; subst e; exact ⟨_, rfl, .bor ho⟩
        | succ j => simpa [refs] using r.slots j s (by simpa [borS] using e)
    · have z3 : ((refs B ++ us).map some).length ≤ i := by
        simp only [List.length_append, List.length_map] at z1 ⊢
        rw [← l1, r.length]; exact z1
      rw [List.getElem?_append_right z3, List.getElem?_replicate]
      refine ⟨none, ?_, .non _⟩
      rw [if_pos]
      simp only [List.length_append, List.length_map] at z1 z2 z3 ⊢
      rw [← l1, r.length]; omega
  · cases hb with
    | none => cases x
    | some ho => cases x; exact ho.ne
  · rcases pad_get e with e | ⟨_, _, e⟩
    · cases hb with
      | none =>
        simp only [borS, List.nil_append, List.getElem?_map, Option.map_eq_some_iff] at e
        obtain ⟨d, _, e⟩ := e
        cases e
      | some ho =>
        cases i with
        | zero => simp [borS] at e
        | succ j =>
          simp only [borS, List.cons_append, List.nil_append, List.getElem?_cons_succ, List.getElem?_map, Option.map_eq_some_iff] at e
          obtain ⟨d, _, e⟩ := e
          cases e
    · cases e
  · cases hb with
    | none => cases x
    | some ho => cases x; exact ho.ne
theorem back {c : Cn} {A : Addr → Prop} {ρ : Env} {σ : Sg} {H' : Hp} {om om' : Option M} {k : Option M → FOut} {P : FOut → Prop} (S : Stt c A ρ σ H') (hb : BorR c.G c.H0 c.B om) (h : P (fin2 om ρ k)) (hbad : ¬ P .bad) : ∃ om', BorR c.G H' c.B om' ∧ P (k om') := by
  cases om with
  | none =>
    have : c.B = none := by generalize c.B = b at hb; cases hb; rfl
    rw [this]
    exact ⟨none, .none, h⟩
  | some m =>
    unfold fin2 at h
    split at h
    · cases ‹some m = none›
    · split at h
      · rename_i m' e
        obtain ⟨a, ⟨ha, _⟩, ho⟩ := S.is e (m := m') rfl
        have := (S.borN 0 a m' e ha).2
        rw [this]
        exact ⟨some m', .some ho, h⟩
      · exact (hbad h).elim
theorem RetR.res {c : Cn} {H' : Hp} {v : V} {r : Res} (h : RetR c H' v r) : ResR c.G c.H0 H' v r := by
  cases h with
  | imm h => exact .imm h
  | new h n => exact .new h n
/-- the reading of a body -/
theorem body_ok {b : SV} {np nx : Nat} {vs : List V} {Q : VK} {E : XK} (h : spF G np (mkF np nx b) vs H Q E) :
    ∃ B, tS ⟨G, H, B⟩ (fun cls d _ H' => E cls d H') b { nx := fun _ H' => Q .non H', rt := Q } (vs.map some ++ List.replicate nx none) H := by
  obtain ⟨B, om, us, ds, rfl, hl, hb, r, h⟩ := h
  refine ⟨B, _, _, start_stt (k := nx) hb r, ?_⟩
  unfold mkF at h
  split at h
  · have fr : ∀ {A' ρ' σ' H'}, Stt ⟨G, H, B⟩ A' ρ' σ' H' → Fr G.T (fun b => B = some b) H H' := fun S => ⟨fun b o e n p => S.base b o e n (p.imp id fun z y => z y), S.dom⟩
    generalize b ((borS om ++ ds.map Slot.imm) ++ List.replicate nx .non) = o at h
    cases o with
    | nx ρ' =>
      intro σ' H' A' S' _
      obtain ⟨om', hb', h'⟩ := back (k := .ret (.imm .non)) (om' := none) (P := endF G H B Q E) S' hb h (fun z => z)
      exact h' _ H' (fr S') hb' (.imm .non)
    | rt r ρ' =>
      intro v σ' H' A' S' _ hr
      obtain ⟨om', hb', h'⟩ := back (k := .ret r) (om' := none) (P := endF G H B Q E) S' hb h (fun z => z)
      exact h' v H' (fr S') hb' hr.res
    | exc x ρ' =>
      intro cls d σ' H' A' S' _ hx
      obtain ⟨om', hb', h'⟩ := back (k := .exc x) (om' := none) (P := endF G H B Q E) S' hb h (fun z => z)
      exact h' cls d H' (fr S') hb' hx
    | bk ρ' => exact h.elim
    | ct ρ' => exact h.elim
    | bad => exact h.elim
  · exact h.elim
end

section
variable {P : Program} {w : World} {K : PySem.W.Frag} {mg : Str → Option Value} {base : Heap} {G : Gm}
/-- the context of a def's body -/
abbrev bodyX (P : Program) (w : World) (K : PySem.W.Frag) (mg : Str → Option Value) (base : Heap) (N : List Str) (qual : Str) (st : Stmt) (f : Addr) (cdv : Value) (A : Around) (outer : List PySem.Env) (s : Shared) (H : Hp) (E : XK) : Cx :=
  cxOf (L2.CX P w) P w K mg base N qual (defScope st) f cdv A outer s H E
abbrev bodyW (E : XK) : Wx := fun cls d _ H => E cls d H
theorem okD {x qual : Str} {st : Stmt} {f : Addr} {fd : FuncData} {N ps : List Str} {k np nx : Nat} {b : SV} (F : Fun K x qual st f fd) (S : FnScope N ps (defScope st)) (hps : ps.length = np) (hN : N.length = np + nx)
    (hbody : ∀ (B : Option Addr) (cdv : Value) (A : Around) (outer : List PySem.Env) (s : Shared) (H : Hp) (E : XK), Room k (A.deeper (envOfC qual (defScope st) s.heap.objs.size f cdv)) →
      DSs ⟨G, H, B⟩ (bodyW E) (bodyX P w K mg base N qual st f cdv A outer s H E) (defBody st) b) : FnOk P w K mg base (L2.CX P w) (k + 1) f fd ps (spF G np (mkF np nx b)) := by
  refine F.okX S (fun vs H Q E h => ?_) fun cdv A outer s H vs Q E hr h => ?_
  · obtain ⟨B, om, us, ds, e, hl, _⟩ := h
    rw [hl, hps]
  · have hl : vs.length = np := by obtain ⟨B, om, us, ds, e, hl, _⟩ := h; exact hl
    obtain ⟨B, h⟩ := body_ok h
    refine ⟨_, hbody B cdv A outer s H E hr, ?_⟩
    have e : N.length - vs.length = nx := by omega
    unfold L2.start
    rw [e]
    exact h
end

/-- a def's promise, for callers, whatever the context -/
structure FnG (G : Gm) (mg : Str → Option Value) (base : Heap) (k n : Nat) (f : Addr) (g : FnD) : Prop where
  ex : ∃ (fd : FuncData) (ps : List Str), FnOk G.P G.w G.K mg base (L2.CX G.P G.w) k f fd ps (spF G n g) ∧ Binds G.K fd ps []
  kp : PySem.W.keepIn G.K (.ref f) = true
theorem ru65 {k : Nat} {A : Around} (r : Room k A) : A.units + 65 < cLine := by have := r.un; omega
theorem ru1 {k : Nat} {A : Around} (r : Room k A) : A.units + 1 < cLine := by have := r.un; omega
section
variable {c : Cn} {W : Wx} {X : Cx}
theorem dx_fn {x : Str} {p pos : Pos} {e : Expr} {es : List Expr} {k n : Nat} {f : Addr} {g : FnD} {fa : AV} (F : FnG c.G X.mg X.base k n f g) (hr : Room k X.A) (hm : X.mg x = some (.ref f)) (tk : Takes X W) (ha : DA c W X (e :: es) fa) (hg : Gl X x := by rfl) (hP : X.prog = c.G.P := by rfl) (hw : X.w = c.G.w := by rfl) (hK : X.K = c.G.K := by rfl)
    (hdb : (x == ("__debug__" : Str)) = false := by decide) (he : starEach (e :: es) X.env = (false, eval e X.env) :: starEach es X.env := by rfl) (hpl : (backTo pos (starEach es X.env)).any (·.1) = false := by rfl) :
    DX c W X (.Call (.Name x p) (e :: es) [] pos) (eCall n g fa) := by
  refine dx_call (k := k) (n := n) (f := f) (g := g) ⟨?_, ?_⟩ hr hg hm tk ha hdb he hpl
  · rw [hP, hw, hK]; exact F.ex
  · rw [hK]; exact F.kp
def eCall0 (g : FnD) : EV := fun ρ => callP g [] ρ
theorem dx_fn0 {x : Str} {p pos : Pos} {k : Nat} {f : Addr} {g : FnD} (F : FnG c.G X.mg X.base k 0 f g) (hr : Room k X.A) (hm : X.mg x = some (.ref f)) (tk : Takes X W) (hg : Gl X x := by rfl) (hP : X.prog = c.G.P := by rfl) (hw : X.w = c.G.w := by rfl) (hK : X.K = c.G.K := by rfl)
    (hdb : (x == ("__debug__" : Str)) = false := by decide) : DX c W X (.Call (.Name x p) [] [] pos) (eCall0 g) := by
  obtain ⟨fd, ps, h1, h2⟩ := F.ex
  rw [← hP, ← hw, ← hK] at h1
  rw [← hK] at h2
  refine ⟨fun pins s σ H Q I ⟨ρ, A, S, h⟩ => ?_⟩
  have sp : spF c.G 0 g [] H Q (WE W σ) := useP S .refl .nil rfl rfl h
  refine wpAny_Call_Name_kw (ld_glob I hg hm ?_ hdb)
  exact PySem.W.callWith_K0 I.kIn (by rw [hK]; exact F.kp) (run_fnS (us := []) (E := fun σ => WE W σ) h1 hr h2 (passAt tk σ) I .nil sp)
theorem takesF {X : Cx} : Takes X WF := fun _ _ x => by
  obtain ⟨_, _, _, _, _, _, _, _, _, _, _, _, _, _, _, _, z⟩ := x
  exact z.elim
end
end DL
namespace DL
open PySem PySem.Spec PyProof.Rows L2
section
variable {c : Cn} {W : Wx} {X : Cx} {H : Hp}
/-! ### named rules -/
theorem subG_ok : OpG c.G (rI0 fun i j => .int (i - j)) subG := intG_ok0 fun _ _ _ => .int _
theorem fdivG_ok : OpG c.G (rI CDivN fun i j => .int (i.fdiv j)) fdivG := intG_ok (fun _ _ h => by have := of_decide_eq_true h; exact this) fun _ _ _ => .int _
theorem modG_ok : OpG c.G (rI (fun _ j => j ≠ 0) fun i j => .int (i.fmod j)) modG := intG_ok (fun _ _ h => of_decide_eq_true h) fun _ _ _ => .int _
theorem powG_ok : OpG c.G (rI CPow fun i j => .int (i ^ j.toNat)) powG := intG_ok (fun _ _ h => by have := of_decide_eq_true h; exact this) fun _ _ _ => .int _
theorem ltG_ok : OpG c.G (rI0 fun i j => .bl (decide (i < j))) ltG := intG_ok0 fun _ _ _ => .bl _
theorem leG_ok : OpG c.G (rI0 fun i j => .bl (decide (i ≤ j))) leG := intG_ok0 fun _ _ _ => .bl _
theorem gtG_ok : OpG c.G (rI0 fun i j => .bl (decide (j < i))) gtG := intG_ok0 fun _ _ _ => .bl _
theorem geG_ok : OpG c.G (rI0 fun i j => .bl (decide (j ≤ i))) geG := intG_ok0 fun _ _ _ => .bl _
def mulG : D → D → Option Res
  | .int i, .int j => if (-(2 ^ 64) < i ∧ i < 2 ^ 64) ∨ (-(2 ^ 64) < j ∧ j < 2 ^ 64) then some (.imm (.int (i * j))) else none
  | .tup ds, .int k => if ds ≠ [] ∧ 2 ≤ k ∧ k ≤ 1000 ∧ ds.length ≤ 1000 then some (.imm (.tup (List.replicate k.toNat ds).flatten)) else none
  | _, _ => none
def rMulA (K : PySem.W.Frag) : R2 := fun x y H Q => rI CMul (fun i j => .int (i * j)) x y H Q ∨ rRepT K x y H Q
theorem op_mulA : OpR X (binaryOp .Mult) (rMulA X.K) := op_mul.or op_repT
theorem rep_imm {G : Gm} {xs : List V} {ds : List D} (r : ImmL G H xs ds) : ∀ k : Nat, ImmL G H (List.replicate k xs).flatten (List.replicate k ds).flatten
  | 0 => .nil
  | k + 1 => by simpa [List.replicate_succ] using r.append (rep_imm r k)
theorem rep_len {α : Type} (xs : List α) : ∀ k : Nat, (List.replicate k xs).flatten.length = k * xs.length
  | 0 => by simp
  | k + 1 => by simp [List.replicate_succ, rep_len xs k, Nat.succ_mul, Nat.add_comm]
theorem mulG_ok (hK : X.K = c.G.K) : OpG c.G (rMulA X.K) mulG := by
  intro H x y d e rs hx hy h Q k
  unfold mulG at h
  split at h
  · split at h
    · rename_i hc
      cases h
      exact .inl ⟨_, _, hx.int, hy.int, hc, k _ _ .refl (.imm (.int _))⟩
    · cases h
  · split at h
    · rename_i ds n hc
      cases h
      obtain ⟨a, xs, rfl, h1, h2, hl⟩ := hx.tup
      obtain ⟨c1, c2, c3, c4⟩ := hc
      refine .inr ⟨a, n, xs, rfl, hy.int, hK ▸ h1.sq, fun z => ?_, c2, c3, by rw [h2.length]; exact c4, fun p hp => ?_⟩
      · subst z; cases h2; exact c1 rfl
      · refine fin_tup k rfl hp (rep_imm h2 _) ?_
        rw [rep_len]
        have h3 : n.toNat ≤ 1000 := by omega
        exact Nat.le_trans (Nat.mul_le_mul h3 c4) (by decide)
    · cases h
  · cases h
end
end DL
namespace DL
open PySem PySem.Spec PyProof.Rows L2
theorem bt_len : bootBuiltins "len" = some (.builtin "len") := by decide +kernel
theorem bt_all : bootBuiltins "all" = some (.builtin "all") := by decide +kernel
theorem bt_max : bootBuiltins "max" = some (.builtin "max") := by decide +kernel
theorem bt_min : bootBuiltins "min" = some (.builtin "min") := by decide +kernel
theorem bt_sum : bootBuiltins "sum" = some (.builtin "sum") := by decide +kernel
theorem bt_isinstance : bootBuiltins "isinstance" = some (.builtin "isinstance") := by decide +kernel
theorem bt_int : bootBuiltins "int" = some (.type "int") := by decide +kernel
theorem bt_str : bootBuiltins "str" = some (.type "str") := by decide +kernel
theorem bt_bool : bootBuiltins "bool" = some (.type "bool") := by decide +kernel
theorem bt_tuple : bootBuiltins "tuple" = some (.type "tuple") := by decide +kernel
theorem bt_list : bootBuiltins "list" = some (.type "list") := by decide +kernel
theorem bt_dict : bootBuiltins "dict" = some (.type "dict") := by decide +kernel
theorem bt_set : bootBuiltins "set" = some (.type "set") := by decide +kernel
theorem bt_sorted : bootBuiltins "sorted" = some (.builtin "sorted") := by decide +kernel
section
variable {c : Cn} {W : Wx} {X : Cx}
theorem dx_gstr (cs : List Nat) {x s : Str} {t : Tok} {pos : Pos} (hg : Gl X x) (hm : X.mg x = some (.str s t)) (e : cstr cs = s := by decide +kernel) (h1 : (cs.all (· < 0x110000)) = true := by decide) (h2 : cs.length ≤ 1000 := by decide) (hd : (x == ("__debug__" : Str)) = false := by decide) : DX c W X (.Name x pos) (eC (.str cs)) := by
  subst e
  exact dx_glob (v := .str (cstr cs)) hg hm ⟨_, rfl⟩ (fun _ => .str cs h1 (Nat.le_trans h2 (by decide))) hd
theorem dx_gint {x : Str} {i : Int} {t : Tok} {pos : Pos} (hg : Gl X x) (hm : X.mg x = some (.int i t)) (hd : (x == ("__debug__" : Str)) = false := by decide) : DX c W X (.Name x pos) (eC (.int i)) :=
  dx_glob (v := .int i) hg hm ⟨_, rfl⟩ (fun _ => .int i) hd
theorem dx_gref {x : Str} {a : Addr} {d : D} {pos : Pos} (hg : Gl X x) (hm : X.mg x = some (.ref a)) (hi : ∀ H, Imm c.G H (.ref a) d) (hd : (x == ("__debug__" : Str)) = false := by decide) : DX c W X (.Name x pos) (eC d) :=
  dx_glob (v := .ref a) hg hm rfl hi hd
theorem dx_gfn {x : Str} {a : Addr} {n : Nat} {pos : Pos} (hg : Gl X x) (hm : X.mg x = some (.ref a)) (hi : c.G.fa n = some a) (hd : (x == ("__debug__" : Str)) = false := by decide) : DX c W X (.Name x pos) (eC (.fn n)) :=
  dx_glob (v := .ref a) hg hm rfl (fun _ => .fn hi) hd
abbrev dx_rev := @dx_revL
end
theorem FnG.zero {G : Gm} {mg : Str → Option Value} {base : Heap} {x qual : Str} {st : Stmt} {f : Addr} {fd : FuncData} {ps : List Str} {k n : Nat} (F : Fun G.K x qual st f fd) (hb : Binds G.K fd ps []) (hl : ps.length = n) : FnG G mg base k n f (fun _ _ => .bad) :=
  ⟨⟨fd, ps, ⟨fun vs H Q E h => by obtain ⟨_, _, _, _, _, h, _⟩ := h; rw [h, hl], fun A outer s H args us vs Q E _ _ _ _ h => by obtain ⟨_, _, _, _, _, _, _, _, h⟩ := h; exact h.elim⟩, hb⟩, F.kp⟩
end DL
namespace DL
open PySem PySem.Spec PyProof.Rows L2
def spLaw (K : PySem.W.Frag) : Sp := fun vs H Q _ => ∃ (a : Addr) (ns : List Int), vs = [.ref a] ∧ SeqA K H a (ns.map V.int) ∧ ns.length ≤ 63 ∧ ∀ H', Q (.bl true) H'
theorem seqA_of {K : PySem.W.Frag} {H : Hp} {a : Addr} {xs : List V} (hO : Only H) (hS : SqL K H a xs) : SeqA K H a xs := by
  rcases hS with (h | h) | h
  · rcases hO a with z | ⟨o, ys, z⟩ <;> rw [z] at h <;> cases h
  · exact .inl h
  · exact .inr h
theorem noex_law {P : Program} {w : World} {H : Hp} {s s' : Shared} {e : Value} (z : L2.CX P w [] H s (fun _ _ _ => False) e s') : False := by
  obtain ⟨_, _, _, _, _, _, _, _, _, _, _, _, z⟩ := z
  exact z
end DL
namespace DL
open PySem PySem.Spec PyProof.Rows L2
theorem rel_s {cs : List Nat} {s : Str} {t : Tok} (h : cstr cs = s) : RelV (.str (cstr cs)) (.str s t) := ⟨t, by rw [h]⟩
end DL
/-! Ev: evaluation of mirrors. -/
namespace DL
open PySem PySem.Spec PyProof.Rows L2
theorem isi_int_non  : (D.non).isi "int" = some false := (by decide +kernel : kitB "NoneType" "int" = some false)
theorem isi_int_bl (b : Bool) : (D.bl b).isi "int" = some true := (by decide +kernel : kitB "bool" "int" = some true)
theorem isi_int_int (i : Int) : (D.int i).isi "int" = some true := (by decide +kernel : kitB "int" "int" = some true)
theorem isi_int_str (cs : List Nat) : (D.str cs).isi "int" = some false := (by decide +kernel : kitB "str" "int" = some false)
theorem isi_int_tup (ds : List D) : (D.tup ds).isi "int" = some false := (by decide +kernel : kitB "tuple" "int" = some false)
theorem isi_int_lst (ds : List D) : (D.lst ds).isi "int" = some false := (by decide +kernel : kitB "list" "int" = some false)
theorem isi_bool_non  : (D.non).isi "bool" = some false := (by decide +kernel : kitB "NoneType" "bool" = some false)
theorem isi_bool_bl (b : Bool) : (D.bl b).isi "bool" = some true := (by decide +kernel : kitB "bool" "bool" = some true)
theorem isi_bool_int (i : Int) : (D.int i).isi "bool" = some false := (by decide +kernel : kitB "int" "bool" = some false)
theorem isi_bool_str (cs : List Nat) : (D.str cs).isi "bool" = some false := (by decide +kernel : kitB "str" "bool" = some false)
theorem isi_bool_tup (ds : List D) : (D.tup ds).isi "bool" = some false := (by decide +kernel : kitB "tuple" "bool" = some false)
theorem isi_bool_lst (ds : List D) : (D.lst ds).isi "bool" = some false := (by decide +kernel : kitB "list" "bool" = some false)
theorem isi_str_non  : (D.non).isi "str" = some false := (by decide +kernel : kitB "NoneType" "str" = some false)
theorem isi_str_bl (b : Bool) : (D.bl b).isi "str" = some false := (by decide +kernel : kitB "bool" "str" = some false)
theorem isi_str_int (i : Int) : (D.int i).isi "str" = some false := (by decide +kernel : kitB "int" "str" = some false)
theorem isi_str_str (cs : List Nat) : (D.str cs).isi "str" = some true := (by decide +kernel : kitB "str" "str" = some true)
theorem isi_str_tup (ds : List D) : (D.tup ds).isi "str" = some false := (by decide +kernel : kitB "tuple" "str" = some false)
theorem isi_str_lst (ds : List D) : (D.lst ds).isi "str" = some false := (by decide +kernel : kitB "list" "str" = some false)
theorem isi_tuple_non  : (D.non).isi "tuple" = some false := (by decide +kernel : kitB "NoneType" "tuple" = some false)
theorem isi_tuple_bl (b : Bool) : (D.bl b).isi "tuple" = some false := (by decide +kernel : kitB "bool" "tuple" = some false)
theorem isi_tuple_int (i : Int) : (D.int i).isi "tuple" = some false := (by decide +kernel : kitB "int" "tuple" = some false)
theorem isi_tuple_str (cs : List Nat) : (D.str cs).isi "tuple" = some false := (by decide +kernel : kitB "str" "tuple" = some false)
theorem isi_tuple_tup (ds : List D) : (D.tup ds).isi "tuple" = some true := (by decide +kernel : kitB "tuple" "tuple" = some true)
theorem isi_tuple_lst (ds : List D) : (D.lst ds).isi "tuple" = some false := (by decide +kernel : kitB "list" "tuple" = some false)
theorem isi_list_non  : (D.non).isi "list" = some false := (by decide +kernel : kitB "NoneType" "list" = some false)
theorem isi_list_bl (b : Bool) : (D.bl b).isi "list" = some false := (by decide +kernel : kitB "bool" "list" = some false)
theorem isi_list_int (i : Int) : (D.int i).isi "list" = some false := (by decide +kernel : kitB "int" "list" = some false)
theorem isi_list_str (cs : List Nat) : (D.str cs).isi "list" = some false := (by decide +kernel : kitB "str" "list" = some false)
theorem isi_list_tup (ds : List D) : (D.tup ds).isi "list" = some false := (by decide +kernel : kitB "tuple" "list" = some false)
theorem isi_list_lst (ds : List D) : (D.lst ds).isi "list" = some true := (by decide +kernel : kitB "list" "list" = some true)

/-! ### one step at a time: the rest is not looked at -/
def SOut.seq (o : SOut) (g : SV) : SOut := match o with
  | .nx ρ => g ρ
  | o => o
theorem bind_ok {α β : Type} {a : α} {ρ : Env} {k : α → Env → Out β} : (Out.ok a ρ).bind k = k a ρ := rfl
theorem bind_exc {α β : Type} {x : Ex} {ρ : Env} {k : α → Env → Out β} : (Out.exc x ρ : Out α).bind k = .exc x ρ := rfl
theorem bind_bad {α β : Type} {k : α → Env → Out β} : (Out.bad : Out α).bind k = .bad := rfl
theorem seq_nx {ρ : Env} {g : SV} : (SOut.nx ρ).seq g = g ρ := rfl
theorem seq_rt {r : Res} {ρ : Env} {g : SV} : (SOut.rt r ρ).seq g = .rt r ρ := rfl
theorem seq_bk {ρ : Env} {g : SV} : (SOut.bk ρ).seq g = .bk ρ := rfl
theorem seq_ct {ρ : Env} {g : SV} : (SOut.ct ρ).seq g = .ct ρ := rfl
theorem seq_exc {x : Ex} {ρ : Env} {g : SV} : (SOut.exc x ρ).seq g = .exc x ρ := rfl
theorem seq_bad {g : SV} : (SOut.bad).seq g = .bad := rfl
theorem sSeq_ev {f g : SV} {ρ : Env} : sSeq f g ρ = (f ρ).seq g := by unfold sSeq SOut.seq; cases f ρ <;> rfl
def Out.sb {α : Type} (o : Out α) (k : α → Env → SOut) : SOut := match o with
  | .ok a ρ => k a ρ
  | .exc x ρ => .exc x ρ
  | .bad => .bad
theorem sb_ok {α : Type} {a : α} {ρ : Env} {k : α → Env → SOut} : (Out.ok a ρ).sb k = k a ρ := rfl
theorem sb_exc {α : Type} {x : Ex} {ρ : Env} {k : α → Env → SOut} : (Out.exc x ρ : Out α).sb k = .exc x ρ := rfl
theorem sb_bad {α : Type} {k : α → Env → SOut} : (Out.bad : Out α).sb k = .bad := rfl
theorem stB_ev {α : Type} {f : Env → Out α} {k : α → Env → SOut} {ρ : Env} : stB f k ρ = (f ρ).sb k := by unfold stB Out.sb; cases f ρ <;> rfl
/-- a branch -/
def br {α : Type} (b : Bool) (x y : α) : α := match b with
  | true => x
  | false => y
theorem br_t {α : Type} {x y : α} : br true x y = x := rfl
theorem br_f {α : Type} {x y : α} : br false x y = y := rfl
/-- a branch of two ways on -/
def brK {α : Type} (b : Bool) (f g : Env → α) (ρ : Env) : α := match b with
  | true => f ρ
  | false => g ρ
theorem brK_t {α : Type} {f g : Env → α} {ρ : Env} : brK true f g ρ = f ρ := rfl
theorem brK_f {α : Type} {f g : Env → α} {ρ : Env} : brK false f g ρ = g ρ := rfl
/-- an option's value -/
def oB {α β : Type} (o : Option α) (k : α → Out β) : Out β := match o with
  | some x => k x
  | none => .bad
theorem oB_some {α β : Type} {x : α} {k : α → Out β} : oB (some x) k = k x := rfl
theorem oB_none {α β : Type} {k : α → Out β} : oB none k = .bad := rfl
def oS {α : Type} (o : Option α) (k : α → SOut) : SOut := match o with
  | some x => k x
  | none => .bad
theorem oS_some {α : Type} {x : α} {k : α → SOut} : oS (some x) k = k x := rfl
theorem oS_none {α : Type} {k : α → SOut} : oS none k = .bad := rfl
def oO {α β : Type} (o : Option α) (k : α → Option β) : Option β := match o with
  | some x => k x
  | none => none
theorem oO_some {α β : Type} {x : α} {k : α → Option β} : oO (some x) k = k x := rfl
theorem oO_none {α β : Type} {k : α → Option β} : oO none k = none := rfl
/-- which kind a handle is -/
def pkI (k : Pk) : Option D := match k with
  | .res (.imm d) => some d
  | _ => none
theorem pkI_imm {d : D} : pkI (.res (.imm d)) = some d := rfl
theorem pkI_new {m : M} : pkI (.res (.new m)) = none := rfl
theorem pkI_at {i : Nat} : pkI (.at i) = none := rfl
def dBl (d : D) : Option Bool := match d with
  | .bl b => some b
  | _ => none
theorem dBl_bl {b : Bool} : dBl (.bl b) = some b := rfl
def dInt (d : D) : Option Int := match d with
  | .int b => some b
  | _ => none
theorem dInt_int {b : Int} : dInt (.int b) = some b := rfl
def slotM (s : Option Slot) : Option M := s.bind Slot.obj?
theorem slotM_own {m : M} : slotM (some (.own m)) = some m := rfl
theorem slotM_bor {m : M} : slotM (some (.bor m)) = some m := rfl
def mLst (m : M) : Option (List D) := match m with
  | .lst ds => some ds
  | _ => none
theorem mLst_lst {ds : List D} : mLst (.lst ds) = some ds := rfl

def ifK (f g : SV) : Bool → SV := fun b ρ => brK b f g ρ
theorem ifK_ev {f g : SV} {b : Bool} {ρ : Env} : ifK f g b ρ = brK b f g ρ := rfl
theorem sIf_ev {t : TV} {f g : SV} {ρ : Env} : sIf t f g ρ = (t ρ).sb (ifK f g) := by unfold sIf; rw [stB_ev]; congr; funext b ρ1; cases b <;> rfl
theorem sNext_ev {ρ : Env} : sNext ρ = .nx ρ := rfl
def retS (s : Option Slot) (ρ : Env) : SOut := match s with
  | some (.own m) => .rt (.new m) ρ
  | _ => .bad
def retK : Pk → SV := fun k ρ => match k with
  | .res r => .rt r ρ
  | .at i => retS ρ[i]? ρ
theorem sRet_ev {f : EV} {ρ : Env} : sRet f ρ = (f ρ).sb retK := by unfold sRet; rw [stB_ev]; rfl
theorem retK_res {r : Res} {ρ : Env} : retK (.res r) ρ = .rt r ρ := rfl
theorem retK_at {i : Nat} {ρ : Env} : retK (.at i) ρ = retS ρ[i]? ρ := rfl
theorem retS_own {ρ : Env} {m : M} : retS (some (.own m)) ρ = .rt (.new m) ρ := rfl
theorem sRetN_ev {ρ : Env} : sRetN ρ = .rt (.imm .non) ρ := rfl
theorem sSet_ev {i : Nat} {f : EV} {ρ : Env} : sSet i f ρ = (f ρ).sb (setK i) := stB_ev
theorem setK_imm {i : Nat} {d : D} {ρ : Env} : setK i (.res (.imm d)) ρ = .nx (ρ.set i (.imm d)) := rfl
theorem setK_new {i : Nat} {m : M} {ρ : Env} : setK i (.res (.new m)) ρ = .nx (ρ.set i (.own m)) := rfl
theorem sFor_ev {it : IV} {g : GV} {b : SV} {ρ : Env} : sFor it g b ρ = (it ρ).sb (forD g b) := stB_ev
def dropK : Pk → SV := fun _ ρ => .nx ρ
theorem dropK_ev {k : Pk} {ρ : Env} : dropK k ρ = .nx ρ := rfl
theorem sDrop_ev {f : EV} {ρ : Env} : sDrop f ρ = (f ρ).sb dropK := stB_ev
def appK (i : Nat) : Pk → SV := fun k ρ1 => oS (pkI k) fun d => oS (slotM ρ1[i]?) fun m => oS (mLst m) fun ds => br (decide (ds.length < sizeLine)) (.nx (ρ1.modify i (Slot.put (.lst (ds ++ [d]))))) .bad
theorem lstAt_ev {i : Nat} {ρ : Env} : lstAt ρ i = oO (slotM ρ[i]?) mLst := by
  unfold lstAt slotM
  cases (ρ[i]?).bind Slot.obj? with
  | none => rfl
  | some m => cases m <;> rfl
theorem sApp_ev {i : Nat} {f : EV} {ρ : Env} : sApp i f ρ = oS (oO (slotM ρ[i]?) mLst) fun _ => (f ρ).sb (appK i) := by
  unfold sApp
  rw [lstAt_ev]
  cases oO (slotM ρ[i]?) mLst with
  | none => rfl
  | some ds0 =>
    show stB f _ ρ = _
    rw [stB_ev]
    show _ = (f ρ).sb (appK i)
    congr
    funext k ρ1
    unfold appK
    rw [lstAt_ev]
    cases k with
    | «at» j => rfl
    | res r =>
      cases r with
      | new m => rfl
      | imm d =>
        show _ = oS (slotM ρ1[i]?) _
        cases slotM ρ1[i]? with
        | none => rfl
        | some m => 
          show _ = oS (mLst m) _
          show (match Pk.res (Res.imm d), mLst m with | .res (.imm d), some ds => _ | _, _ => _) = _
          cases mLst m with
          | none => rfl
          | some ds =>
            show (if ds.length < sizeLine then _ else _) = br (decide (ds.length < sizeLine)) _ _
            by_cases hl : ds.length < sizeLine
            · rw [if_pos hl, decide_eq_true hl]; rfl
            · rw [if_neg hl, decide_eq_false hl]; rfl
def setI (i : Nat) (d : D) : Pk → SV := fun k ρ2 => oS (pkI k) fun e => oS (dInt e) fun z => oS (slotM ρ2[i]?) fun m => oS (mLst m) fun ds => oS (ixN ds.length z) fun j => .nx (ρ2.modify i (Slot.put (.lst (ds.set j d))))
def setX (i : Nat) (fi : EV) : Pk → SV := fun k ρ1 => oS (pkI k) fun d => oS (oO (slotM ρ1[i]?) mLst) fun _ => (fi ρ1).sb (setI i d)
theorem sSetIx_ev {i : Nat} {fi fe : EV} {ρ : Env} : sSetIx i fi fe ρ = (fe ρ).sb (setX i fi) := by
  unfold sSetIx
  rw [stB_ev]
  congr
  funext k ρ1
  unfold setX
  rw [lstAt_ev]
  cases k with
  | «at» j => rfl
  | res r =>
    cases r with
    | new m => rfl
    | imm d =>
      show (match oO (slotM ρ1[i]?) mLst with | some _ => _ | none => _) = oS (oO (slotM ρ1[i]?) mLst) _
      cases oO (slotM ρ1[i]?) mLst with
      | none => rfl
      | some ds0 =>
        show stB fi _ ρ1 = (fi ρ1).sb _
        rw [stB_ev]
        congr
        funext ki ρ2
        unfold setI
        rw [lstAt_ev]
        cases ki with
        | «at» j => rfl
        | res r =>
          cases r with
          | new m => rfl
          | imm e =>
            cases e with
            | int z =>
              show (match Pk.res (.imm (.int z)), oO (slotM ρ2[i]?) mLst with | .res (.imm (.int z)), some ds => _ | _, _ => _) = oS (slotM ρ2[i]?) _
              cases slotM ρ2[i]? with
              | none => rfl
              | some m =>
                show (match Pk.res (.imm (.int z)), mLst m with | .res (.imm (.int z)), some ds => _ | _, _ => _) = oS (mLst m) _
                cases mLst m with
                | none => rfl
                | some ds => show (match ixN ds.length z with | some j => _ | none => _) = oS (ixN ds.length z) _; cases ixN ds.length z <;> rfl
            | _ => rfl
def asgK (g : GV) : Pk → SV := fun k ρ => oS (pkI k) fun d => oS (g d ρ) fun ρ' => .nx ρ'
theorem sAsg_ev {f : EV} {g : GV} {ρ : Env} : sAsg f g ρ = (f ρ).sb (asgK g) := by
  unfold sAsg
  rw [stB_ev]
  congr
  funext k ρ1
  cases k with
  | «at» j => rfl
  | res r =>
    cases r with
    | new m => rfl
    | imm d => unfold asgK; show (match g d ρ1 with | some ρ' => _ | none => _) = oS (g d ρ1) _; cases g d ρ1 <;> rfl
def parK (i j : Nat) : List Pk → SV := fun ks ρ => match ks with
  | [.res (.imm d), .res (.imm e)] => .nx ((ρ.set i (.imm d)).set j (.imm e))
  | _ => .bad
theorem sPar_ev {i j : Nat} {f : AV} {ρ : Env} : sPar i j f ρ = (f ρ).sb (parK i j) := by unfold sPar; rw [stB_ev]; rfl
theorem parK_ev {i j : Nat} {d e : D} {ρ : Env} : parK i j [.res (.imm d), .res (.imm e)] ρ = .nx ((ρ.set i (.imm d)).set j (.imm e)) := rfl
def par3K (i j l : Nat) : List Pk → SV := fun ks ρ => match ks with
  | [.res (.imm d), .res (.imm e), .res (.imm g)] => .nx (((ρ.set i (.imm d)).set j (.imm e)).set l (.imm g))
  | _ => .bad
theorem sPar3_ev {i j l : Nat} {f : AV} {ρ : Env} : sPar3 i j l f ρ = (f ρ).sb (par3K i j l) := by unfold sPar3; rw [stB_ev]; rfl
theorem par3K_ev {i j l : Nat} {d e g : D} {ρ : Env} : par3K i j l [.res (.imm d), .res (.imm e), .res (.imm g)] ρ = .nx (((ρ.set i (.imm d)).set j (.imm e)).set l (.imm g)) := rfl

/-! ### expressions -/
def vK (s : Option Slot) (i : Nat) (ρ : Env) : Out Pk := match s with
  | some (.imm d) => .ok (.res (.imm d)) ρ
  | some (.own _) => .ok (.at i) ρ
  | some (.bor _) => .ok (.at i) ρ
  | _ => .bad
theorem eV_ev {i : Nat} {ρ : Env} : eV i ρ = vK ρ[i]? i ρ := rfl
theorem vK_imm {i : Nat} {ρ : Env} {d : D} : vK (some (.imm d)) i ρ = .ok (.res (.imm d)) ρ := rfl
theorem vK_own {i : Nat} {ρ : Env} {m : M} : vK (some (.own m)) i ρ = .ok (.at i) ρ := rfl
theorem vK_bor {i : Nat} {ρ : Env} {m : M} : vK (some (.bor m)) i ρ = .ok (.at i) ρ := rfl
theorem eC_ev {d : D} {ρ : Env} : eC d ρ = .ok (.res (.imm d)) ρ := rfl
theorem view_res {ρ : Env} {r : Res} : (Pk.res r).view ρ = some r.toD := rfl
theorem view_at {ρ : Env} {i : Nat} : (Pk.at i).view ρ = oO (slotM ρ[i]?) fun m => some m.toD := by
  show (ρ[i]?).bind _ = _
  unfold slotM
  cases ρ[i]? with
  | none => rfl
  | some s => cases s <;> rfl
theorem toD_imm {d : D} : (Res.imm d).toD = d := rfl
theorem toD_new {m : M} : (Res.new m).toD = m.toD := rfl
theorem toD_lst {ds : List D} : (M.lst ds).toD = .lst ds := rfl
theorem toD_dct {ks vs : List D} : (M.dct ks vs).toD = .dct ks vs := rfl
theorem toD_dcn {ks vs : List D} : (M.dcn ks vs).toD = .dcn ks vs := rfl
theorem ofRes_ev {o : Option Res} {ρ : Env} : ofRes o ρ = oB o fun r => .ok (.res r) ρ := by cases o <;> rfl
def k1 (g : D → Option Res) (a : Pk) (ρ : Env) : Out Pk := oB (a.view ρ) fun x => oB (g x) fun r => .ok (.res r) ρ
theorem k1_ev {g : D → Option Res} {a : Pk} {ρ : Env} : k1 g a ρ = oB (a.view ρ) fun x => oB (g x) fun r => .ok (.res r) ρ := rfl
def k2 (g : D → D → Option Res) (a b : Pk) (ρ : Env) : Out Pk := oB (a.view ρ) fun x => oB (b.view ρ) fun y => oB (g x y) fun r => .ok (.res r) ρ
theorem k2_ev {g : D → D → Option Res} {a b : Pk} {ρ : Env} : k2 g a b ρ = oB (a.view ρ) fun x => oB (b.view ρ) fun y => oB (g x y) fun r => .ok (.res r) ρ := rfl
theorem k2_eq {g : D → D → Option Res} {a b : Pk} {ρ : Env} : (match a.view ρ, b.view ρ with | some x, some y => ofRes (g x y) ρ | _, _ => Out.bad) = k2 g a b ρ := by
  unfold k2
  cases a.view ρ with
  | none => rfl
  | some x => cases b.view ρ with
    | none => rfl
    | some y => exact ofRes_ev
theorem k1_eq {g : D → Option Res} {a : Pk} {ρ : Env} : (match a.view ρ with | some x => ofRes (g x) ρ | none => Out.bad) = k1 g a ρ := by
  unfold k1
  cases a.view ρ with
  | none => rfl
  | some x => exact ofRes_ev
def e2K (g : D → D → Option Res) (f2 : EV) : Pk → EV := fun a ρ1 => (f2 ρ1).bind (k2 g a)
theorem e2K_ev {g : D → D → Option Res} {f2 : EV} {a : Pk} {ρ1 : Env} : e2K g f2 a ρ1 = (f2 ρ1).bind (k2 g a) := rfl
theorem e2_ev {g : D → D → Option Res} {f1 f2 : EV} {ρ : Env} : e2 g f1 f2 ρ = (f1 ρ).bind (e2K g f2) := by
  unfold e2
  congr
  funext a ρ1
  unfold e2K
  congr
  funext b ρ2
  exact k2_eq
theorem e1_ev {g : D → Option Res} {f : EV} {ρ : Env} : e1 g f ρ = (f ρ).bind (k1 g) := by
  unfold e1
  congr
  funext a ρ1
  exact k1_eq
def notG (d : D) : Option Res := match d with
  | .bl b => some (.imm (.bl (!b)))
  | _ => none
theorem notG_bl {b : Bool} : notG (.bl b) = some (.imm (.bl (!b))) := rfl
theorem eNot_ev {f : EV} {ρ : Env} : eNot f ρ = (f ρ).bind (k1 notG) := e1_ev
def isiG (T : String) (d : D) : Option Res := oO (d.isi T) fun b => some (.imm (.bl b))
theorem isiG_ev {T : String} {d : D} : isiG T d = oO (d.isi T) fun b => some (.imm (.bl b)) := rfl
theorem eIsi_ev {T : String} {f : EV} {ρ : Env} : eIsi T f ρ = (f ρ).bind (k1 (isiG T)) := by
  unfold eIsi
  congr
  funext a ρ1
  unfold k1
  cases a.view ρ1 with
  | none => rfl
  | some x => show ofRes _ _ = oB (isiG T x) _; unfold isiG; cases x.isi T <;> rfl
def andK (g : EV) : Pk → EV := fun k ρ1 => oB (pkI k) fun d => oB (dBl d) fun b => brK b g (eC (.bl false)) ρ1
def orK (g : EV) : Pk → EV := fun k ρ1 => oB (pkI k) fun d => oB (dBl d) fun b => brK b (eC (.bl true)) g ρ1
theorem eAnd_ev {f g : EV} {ρ : Env} : eAnd f g ρ = (f ρ).bind (andK g) := by
  unfold eAnd
  congr
  funext k ρ1
  cases k with
  | «at» j => rfl
  | res r =>
    cases r with
    | new m => rfl
    | imm d => cases d with
      | bl b => cases b <;> rfl
      | _ => rfl
theorem eOr_ev {f g : EV} {ρ : Env} : eOr f g ρ = (f ρ).bind (orK g) := by
  unfold eOr
  congr
  funext k ρ1
  cases k with
  | «at» j => rfl
  | res r =>
    cases r with
    | new m => rfl
    | imm d => cases d with
      | bl b => cases b <;> rfl
      | _ => rfl
def eifK (f g : EV) : Bool → EV := fun b ρ1 => brK b f g ρ1
theorem eifK_ev {f g : EV} {b : Bool} {ρ1 : Env} : eifK f g b ρ1 = brK b f g ρ1 := rfl
theorem eIf_ev {t : TV} {f g : EV} {ρ : Env} : eIf t f g ρ = (t ρ).bind (eifK f g) := by
  unfold eIf
  congr
  funext b ρ1
  cases b <;> rfl
def bK : Pk → Env → Out Bool := fun k ρ1 => oB (pkI k) fun d => oB (dBl d) fun b => .ok b ρ1
theorem bT_ev {f : EV} {ρ : Env} : bT f ρ = (f ρ).bind bK := by
  unfold bT
  congr
  funext k ρ1
  cases k with
  | «at» j => rfl
  | res r =>
    cases r with
    | new m => rfl
    | imm d => cases d <;> rfl
def tyC (b : Bool) : TV := fun ρ => .ok b ρ
theorem tyC_ev {b : Bool} {ρ : Env} : tyC b ρ = .ok b ρ := rfl
def tyaK (g : TV) (b : Bool) : TV := fun ρ1 => brK b g (tyC false) ρ1
theorem tyaK_ev {g : TV} {b : Bool} {ρ1 : Env} : tyaK g b ρ1 = brK b g (tyC false) ρ1 := rfl
def tyoK (g : TV) (b : Bool) : TV := fun ρ1 => brK b (tyC true) g ρ1
theorem tyoK_ev {g : TV} {b : Bool} {ρ1 : Env} : tyoK g b ρ1 = brK b (tyC true) g ρ1 := rfl
def tynK (b : Bool) : TV := fun ρ1 => .ok (!b) ρ1
theorem tynK_ev {b : Bool} {ρ1 : Env} : tynK b ρ1 = .ok (!b) ρ1 := rfl
theorem tyAnd_ev {f g : TV} {ρ : Env} : tyAnd f g ρ = (f ρ).bind (tyaK g) := by
  unfold tyAnd
  congr
  funext b ρ1
  cases b <;> rfl
theorem tyOr_ev {f g : TV} {ρ : Env} : tyOr f g ρ = (f ρ).bind (tyoK g) := by
  unfold tyOr
  congr
  funext b ρ1
  cases b <;> rfl
theorem tyNot_ev {f : TV} {ρ : Env} : tyNot f ρ = (f ρ).bind tynK := rfl
theorem tyYes_ev {ρ : Env} : tyYes ρ = .ok true ρ := rfl
def ch3 (f3 : EV) (g' : D → D → Option Res) (b : Pk) : EV := fun ρ2 => (f3 ρ2).bind (k2 g' b)
theorem ch3_ev {f3 : EV} {g' : D → D → Option Res} {b : Pk} {ρ2 : Env} : ch3 f3 g' b ρ2 = (f3 ρ2).bind (k2 g' b) := rfl
def chK (g g' : D → D → Option Res) (f3 : EV) (a b : Pk) (ρ2 : Env) : Out Pk := oB (a.view ρ2) fun x => oB (b.view ρ2) fun y => oB (resB (g x y)) fun k => brK k (ch3 f3 g' b) (eC (.bl false)) ρ2
def e3K (g g' : D → D → Option Res) (f2 f3 : EV) : Pk → EV := fun a ρ1 => (f2 ρ1).bind (chK g g' f3 a)
theorem e3K_ev {g g' : D → D → Option Res} {f2 f3 : EV} {a : Pk} {ρ1 : Env} : e3K g g' f2 f3 a ρ1 = (f2 ρ1).bind (chK g g' f3 a) := rfl
theorem e3_ev {g g' : D → D → Option Res} {f1 f2 f3 : EV} {ρ : Env} : e3 g g' f1 f2 f3 ρ = (f1 ρ).bind (e3K g g' f2 f3) := by
  unfold e3
  congr
  funext a ρ1
  unfold e3K
  congr
  funext b ρ2
  unfold chK
  cases a.view ρ2 with
  | none => rfl
  | some x => cases b.view ρ2 with
    | none => rfl
    | some y =>
      show (match resB (g x y) with | some true => _ | some false => _ | none => _) = oB (resB (g x y)) _
      cases resB (g x y) with
      | none => rfl
      | some k => cases k with
        | false => rfl
        | true =>
          show (f3 ρ2).bind _ = (f3 ρ2).bind (k2 g' b)
          congr
          funext z ρ3
          exact k2_eq
def frS (s : Option Slot) (i : Nat) (ρ' : Env) : Out Pk := match s with
    | some (.own m) => .ok (.res (.imm m.toD)) (ρ'.set i (.imm m.toD))
    | _ => .bad
theorem frS_own {i : Nat} {ρ : Env} {m : M} : frS (some (.own m)) i ρ = .ok (.res (.imm m.toD)) (ρ.set i (.imm m.toD)) := rfl
def frK : Pk → EV := fun k ρ' => match k with
  | .res r => .ok (.res (.imm r.toD)) ρ'
  | .at i => frS ρ'[i]? i ρ'
theorem frzE_ev {f : EV} {ρ : Env} : frzE f ρ = (f ρ).bind frK := rfl
theorem frK_res {r : Res} {ρ : Env} : frK (.res r) ρ = .ok (.res (.imm r.toD)) ρ := rfl
theorem frK_at {i : Nat} {ρ : Env} : frK (.at i) ρ = frS ρ[i]? i ρ := rfl
theorem aNil_ev {ρ : Env} : aNil ρ = .ok [] ρ := rfl
def acE (k : Pk) : List Pk → AV := fun ks ρ2 => .ok (k :: ks) ρ2
theorem acE_ev {k : Pk} {ks : List Pk} {ρ2 : Env} : acE k ks ρ2 = .ok (k :: ks) ρ2 := rfl
def acK (g : AV) : Pk → AV := fun k ρ1 => (g ρ1).bind (acE k)
theorem acK_ev {g : AV} {k : Pk} {ρ1 : Env} : acK g k ρ1 = (g ρ1).bind (acE k) := rfl
theorem aCons_ev {f : EV} {g : AV} {ρ : Env} : aCons f g ρ = (f ρ).bind (acK g) := rfl
theorem imms_nil : imms [] = some [] := rfl
theorem imms_cons {k : Pk} {ks : List Pk} : imms (k :: ks) = oO (pkI k) fun d => oO (imms ks) fun ds => some (d :: ds) := by
  cases k with
  | «at» j => rfl
  | res r =>
    cases r with
    | new m => rfl
    | imm d => show (imms ks).map _ = oO (imms ks) _; cases imms ks <;> rfl
def tupK : List Pk → EV := fun ks ρ1 => oB (imms ks) fun ds => br (decide (ds.length ≤ 1000)) (.ok (.res (.imm (.tup ds))) ρ1) .bad
def lstK : List Pk → EV := fun ks ρ1 => oB (imms ks) fun ds => br (decide (ds.length ≤ 1000)) (.ok (.res (.new (.lst ds))) ρ1) .bad
theorem ite_br {α : Type} {p : Prop} [Decidable p] {x y : α} : (if p then x else y) = br (decide p) x y := by
  by_cases h : p
  · rw [if_pos h, decide_eq_true h]; rfl
  · rw [if_neg h, decide_eq_false h]; rfl
theorem eTup_ev {f : AV} {ρ : Env} : eTup f ρ = (f ρ).bind tupK := by
  unfold eTup
  congr
  funext ks ρ1
  unfold tupK
  cases imms ks with
  | none => rfl
  | some ds => exact ite_br
theorem eLst_ev {f : AV} {ρ : Env} : eLst f ρ = (f ρ).bind lstK := by
  unfold eLst
  congr
  funext ks ρ1
  unfold lstK
  cases imms ks with
  | none => rfl
  | some ds => exact ite_br
theorem views_nil {ρ : Env} : views ρ [] = some [] := rfl
theorem views_cons {ρ : Env} {k : Pk} {ks : List Pk} : views ρ (k :: ks) = oO (k.view ρ) fun d => oO (views ρ ks) fun ds => some (d :: ds) := by
  show (match k.view ρ, views ρ ks with | some d, some ds => some (d :: ds) | _, _ => none) = _
  cases k.view ρ with
  | none => rfl
  | some d => cases views ρ ks <;> rfl
def bifK (g : List D → Option Res) (ks : List Pk) (ρ : Env) : Out Pk := oB (views ρ ks) fun ds => oB (g ds) fun r => .ok (.res r) ρ
theorem eB_ev {g : List D → Option Res} {f : AV} {ρ : Env} : eB g f ρ = (f ρ).bind (bifK g) := by
  unfold eB
  congr
  funext ks ρ1
  unfold bifK
  cases views ρ1 ks with
  | none => rfl
  | some ds => exact ofRes_ev
def FOut.cp (o : FOut) (ρ : Env) : Out Pk := match o with
  | .ret r _ => .ok (.res r) ρ
  | .exc x _ => .exc x ρ
  | .bad => .bad
def FOut.cq (o : FOut) (i : Nat) (ρ : Env) : Out Pk := match o with
  | .ret r (some m') => .ok (.res r) (ρ.modify i (Slot.put m'))
  | .exc x (some m') => .exc x (ρ.modify i (Slot.put m'))
  | _ => .bad
theorem cp_ret {r : Res} {om : Option M} {ρ : Env} : (FOut.ret r om).cp ρ = .ok (.res r) ρ := rfl
theorem cp_exc {x : Ex} {om : Option M} {ρ : Env} : (FOut.exc x om).cp ρ = .exc x ρ := rfl
theorem cq_ret {r : Res} {m : M} {i : Nat} {ρ : Env} : (FOut.ret r (some m)).cq i ρ = .ok (.res r) (ρ.modify i (Slot.put m)) := rfl
theorem cq_exc {x : Ex} {m : M} {i : Nat} {ρ : Env} : (FOut.exc x (some m)).cq i ρ = .exc x (ρ.modify i (Slot.put m)) := rfl
def coK (f : FnD) (ks : List Pk) (ρ : Env) : Out Pk := match ks with
  | .at i :: ks' => oB (slotM ρ[i]?) fun m => oB (imms ks') fun ds => (f (some m) ds).cq i ρ
  | ks => oB (imms ks) fun ds => (f none ds).cp ρ
def caK (n : Nat) (f : FnD) (ks : List Pk) (ρ : Env) : Out Pk := br (decide (ks.length = n)) (coK f ks ρ) .bad
theorem coK_at {f : FnD} {i : Nat} {ks : List Pk} {ρ : Env} : coK f (.at i :: ks) ρ = oB (slotM ρ[i]?) fun m => oB (imms ks) fun ds => (f (some m) ds).cq i ρ := rfl
theorem coK_res {f : FnD} {r : Res} {ks : List Pk} {ρ : Env} : coK f (.res r :: ks) ρ = oB (imms (.res r :: ks)) fun ds => (f none ds).cp ρ := rfl
theorem coK_nil {f : FnD} {ρ : Env} : coK f [] ρ = (f none []).cp ρ := rfl
theorem callP_ev {f : FnD} {ds : List D} {ρ : Env} : callP f ds ρ = (f none ds).cp ρ := by unfold callP FOut.cp; cases f none ds <;> rfl
theorem callQ_ev {f : FnD} {m : M} {i : Nat} {ds : List D} {ρ : Env} : callQ f i m ds ρ = (f (some m) ds).cq i ρ := by
  unfold callQ FOut.cq
  cases f (some m) ds with
  | ret r om => cases om <;> rfl
  | exc x om => cases om <;> rfl
  | bad => rfl
theorem eCall_ev {n : Nat} {f : FnD} {a : AV} {ρ : Env} : eCall n f a ρ = (a ρ).bind (caK n f) := by
  unfold eCall
  congr
  funext ks ρ1
  show ite _ _ _ = caK n f ks ρ1
  rw [ite_br]
  unfold caK
  congr
  unfold callOut
  cases ks with
  | nil => exact callP_ev
  | cons k ks =>
    cases k with
    | res r =>
      show (match imms (.res r :: ks) with | some ds => _ | none => _) = oB (imms (.res r :: ks)) _
      cases imms (.res r :: ks) with
      | none => rfl
      | some ds => exact callP_ev
    | «at» i =>
      show (match slotM ρ1[i]?, imms ks with | some m, some ds => _ | _, _ => _) = oB (slotM ρ1[i]?) _
      cases slotM ρ1[i]? with
      | none => rfl
      | some m =>
        show _ = oB (imms ks) _
        cases imms ks with
        | none => rfl
        | some ds => exact callQ_ev
theorem eCall0_ev {f : FnD} {ρ : Env} : eCall0 f ρ = (f none []).cp ρ := callP_ev
theorem oNone_ev {ρ : Env} : oNone ρ = .ok none ρ := rfl
def osK : Pk → Env → Out (Option Int) := fun k ρ1 => oB (pkI k) fun d => oB (dInt d) fun i => .ok (some i) ρ1
theorem oSome_ev {f : EV} {ρ : Env} : oSome f ρ = (f ρ).bind osK := by
  unfold oSome
  congr
  funext k ρ1
  cases k with
  | «at» j => rfl
  | res r =>
    cases r with
    | new m => rfl
    | imm d => cases d <;> rfl
def slX (l u : Option Int) (d : D) : Option Res := slG d l u
theorem slX_ev {l u : Option Int} {d : D} : slX l u d = slG d l u := rfl
def slK3 (k : Pk) (l u : Option Int) : EV := fun ρ3 => k1 (slX l u) k ρ3
theorem slK3_ev {k : Pk} {l u : Option Int} {ρ3 : Env} : slK3 k l u ρ3 = k1 (slX l u) k ρ3 := rfl
def slK2 (hi : OV) (k : Pk) (l : Option Int) : EV := fun ρ2 => (hi ρ2).bind (slK3 k l)
theorem slK2_ev {hi : OV} {k : Pk} {l : Option Int} {ρ2 : Env} : slK2 hi k l ρ2 = (hi ρ2).bind (slK3 k l) := rfl
def slK (lo hi : OV) (k : Pk) : EV := fun ρ1 => (lo ρ1).bind (slK2 hi k)
theorem slK_ev {lo hi : OV} {k : Pk} {ρ1 : Env} : slK lo hi k ρ1 = (lo ρ1).bind (slK2 hi k) := rfl
theorem eSl_ev {f : EV} {lo hi : OV} {ρ : Env} : eSl f lo hi ρ = (f ρ).bind (slK lo hi) := by
  unfold eSl
  congr
  funext k ρ1
  unfold slK
  congr
  funext l ρ2
  unfold slK2
  congr
  funext u ρ3
  exact k1_eq
def dStr (d : D) : Option (List Nat) := match d with
  | .str b => some b
  | _ => none
theorem dStr_str {b : List Nat} : dStr (.str b) = some b := rfl
def msC (g : List Nat → D → Option Res) (fe : EV) (ρ1 : Env) (cs : List Nat) : Out Pk := (fe ρ1).bind (k1 (g cs))
theorem msC_ev {g : List Nat → D → Option Res} {fe : EV} {ρ1 : Env} {cs : List Nat} : msC g fe ρ1 cs = (fe ρ1).bind (k1 (g cs)) := rfl
def msK (g : List Nat → D → Option Res) (fe : EV) : Pk → EV := fun k ρ1 => oB (oO (pkI k) dStr) (msC g fe ρ1)
theorem eMS_ev {g : List Nat → D → Option Res} {f fe : EV} {ρ : Env} : eMS g f fe ρ = (f ρ).bind (msK g fe) := by
  unfold eMS
  congr
  funext k ρ1
  cases k with
  | «at» j => rfl
  | res r =>
    cases r with
    | new m => rfl
    | imm d => cases d with
      | str cs =>
        show (fe ρ1).bind _ = (fe ρ1).bind _
        congr
        funext k2 ρ2
        exact k1_eq
      | _ => rfl
/-! ### targets, walks over -/
theorem gN_ev {i : Nat} {d : D} {ρ : Env} : gN i d ρ = some (ρ.set i (.imm d)) := rfl
def dTup (d : D) : Option (List D) := match d with
  | .tup b => some b
  | _ => none
theorem dTup_tup {b : List D} : dTup (.tup b) = some b := rfl
theorem gT_ev {n : Nat} {gs : GVs} {d : D} {ρ : Env} : gT n gs d ρ = oO (dTup d) fun ds => br (decide (ds.length = n)) (gs ds ρ) none := by
  unfold gT
  cases d with
  | tup ds => exact ite_br
  | _ => rfl
theorem gsN_ev {ρ : Env} : gsN [] ρ = some ρ := rfl
theorem gsC_ev {g : GV} {gs : GVs} {d : D} {ds : List D} {ρ : Env} : gsC g gs (d :: ds) ρ = oO (g d ρ) fun ρ1 => gs ds ρ1 := by
  unfold gsC
  show (g d ρ).bind _ = _
  cases g d ρ <;> rfl
def dSq (d : D) : Option (List D) := match d with
  | .tup b => some b
  | .lst b => some b
  | .str cs => some (cs.map fun ch => .str [ch])
  | _ => none
theorem dSq_tup {b : List D} : dSq (.tup b) = some b := rfl
theorem dSq_lst {b : List D} : dSq (.lst b) = some b := rfl
theorem dSq_str {b : List Nat} : dSq (.str b) = some (b.map fun ch => .str [ch]) := rfl
def iqK : Pk → Env → Out (List D) := fun k ρ1 => oB (oO (pkI k) dSq) fun ds => .ok ds ρ1
theorem iqK_ev {k : Pk} {ρ1 : Env} : iqK k ρ1 = oB (oO (pkI k) dSq) fun ds => .ok ds ρ1 := rfl
theorem iSeq_ev {f : EV} {ρ : Env} : iSeq f ρ = (f ρ).bind iqK := by
  unfold iSeq
  congr
  funext k ρ1
  cases k with
  | «at» j => rfl
  | res r =>
    cases r with
    | new m => rfl
    | imm d => cases d <;> rfl
def r1K : List Pk → Env → Out (List D) := fun ks ρ1 => match ks with
  | [k] => oB (pkI k) fun d => oB (dInt d) fun j => br (decide (-(2 ^ 62) ≤ j ∧ j < 2 ^ 62)) (.ok (rng 0 j.toNat) ρ1) .bad
  | _ => .bad
theorem r1K_ev {k : Pk} {ρ1 : Env} : r1K [k] ρ1 = oB (pkI k) fun d => oB (dInt d) fun j => br (decide (-(2 ^ 62) ≤ j ∧ j < 2 ^ 62)) (.ok (rng 0 j.toNat) ρ1) .bad := rfl
theorem iR1_ev {f : AV} {ρ : Env} : iR1 f ρ = (f ρ).bind r1K := by
  unfold iR1
  congr
  funext ks ρ1
  cases ks with
  | nil => rfl
  | cons k ks =>
    rw [imms_cons]
    cases ks with
    | nil => 
      show _ = oB (pkI k) _
      cases pkI k with
      | none => rfl
      | some d => cases d with
        | int j => exact ite_br
        | _ => rfl
    | cons k2 ks =>
      rw [imms_cons]
      cases pkI k with
      | none => rfl
      | some d => cases pkI k2 with
        | none => rfl
        | some d2 => cases imms ks with
          | none => rfl
          | some ds => cases d <;> rfl
def ilK : List D → Env → Out (List D) := fun ds ρ1 => br (decide (ds.length ≤ sizeLine)) (.ok ds ρ1) .bad
theorem ilK_ev {ds : List D} {ρ1 : Env} : ilK ds ρ1 = br (decide (ds.length ≤ sizeLine)) (.ok ds ρ1) .bad := rfl
theorem iL_ev {f : IV} {ρ : Env} : iL f ρ = (f ρ).bind ilK := by
  unfold iL
  congr
  funext ds ρ1
  exact ite_br
end DL
/-! Ev2: comprehensions, walks, functions. -/
namespace DL
open PySem PySem.Spec PyProof.Rows L2
def lcZ (vs : List Nat) : Pk → Env → Out (Option D) := fun k ρ3 => oB (pkI k) fun y => .ok (some y) (wipeE ρ3 vs)
theorem lcZ_ev {vs : List Nat} {k : Pk} {ρ3 : Env} : lcZ vs k ρ3 = oB (pkI k) fun y => .ok (some y) (wipeE ρ3 vs) := rfl
def lcY (f : EV) (vs : List Nat) : Env → Out (Option D) := fun ρ2 => (f ρ2).bind (lcZ vs)
theorem lcY_ev {f : EV} {vs : List Nat} {ρ2 : Env} : lcY f vs ρ2 = (f ρ2).bind (lcZ vs) := rfl
def lcN (vs : List Nat) : Env → Out (Option D) := fun ρ2 => .ok none (wipeE ρ2 vs)
theorem lcN_ev {vs : List Nat} {ρ2 : Env} : lcN vs ρ2 = .ok none (wipeE ρ2 vs) := rfl
def lcB (f : EV) (vs : List Nat) : Bool → Env → Out (Option D) := fun b ρ2 => brK b (lcY f vs) (lcN vs) ρ2
theorem lcB_ev {f : EV} {vs : List Nat} {b : Bool} {ρ2 : Env} : lcB f vs b ρ2 = brK b (lcY f vs) (lcN vs) ρ2 := rfl
def lcT (tt : TV) (f : EV) (vs : List Nat) : Env → Out (Option D) := fun ρ1 => (tt ρ1).bind (lcB f vs)
theorem lcT_ev {tt : TV} {f : EV} {vs : List Nat} {ρ1 : Env} : lcT tt f vs ρ1 = (tt ρ1).bind (lcB f vs) := rfl
def lcS (g : GV) (tt : TV) (f : EV) (vs : List Nat) (d : D) (ρ : Env) : Out (Option D) := oB (g d ρ) (lcT tt f vs)
theorem lcS_ev {g : GV} {tt : TV} {f : EV} {vs : List Nat} {d : D} {ρ : Env} : lcS g tt f vs d ρ = oB (g d ρ) (lcT tt f vs) := rfl
theorem lcD_step {g : GV} {tt : TV} {f : EV} {vs : List Nat} {d : D} {ds : List D} {ρ ρ' : Env} {o : Option D} (h : lcS g tt f vs d ρ = .ok o ρ') :
    lcD g tt f vs (d :: ds) ρ = (lcD g tt f vs ds ρ').bind fun ys ρ'' => .ok (o.toList ++ ys) ρ'' := by
  unfold lcS at h
  show (match g d ρ with | none => _ | some ρ1 => _) = _
  cases hg : g d ρ with
  | none => rw [hg] at h; cases h
  | some ρ1 =>
    rw [hg] at h
    change (tt ρ1).bind _ = _ at h
    show (match tt ρ1 with | .ok false ρ2 => _ | .ok true ρ2 => _ | _ => _) = _
    cases ht : tt ρ1 with
    | bad => rw [ht] at h; cases h
    | exc x ρ2 => rw [ht] at h; cases h
    | ok b ρ2 =>
      rw [ht] at h
      cases b with
      | false =>
        cases h
        show lcD g tt f vs ds (wipeE ρ2 vs) = _
        cases lcD g tt f vs ds (wipeE ρ2 vs) <;> rfl
      | true =>
        change (f ρ2).bind _ = _ at h
        show (match f ρ2 with | .ok (.res (.imm y)) ρ3 => _ | _ => _) = _
        cases hf : f ρ2 with
        | bad => rw [hf] at h; cases h
        | exc x ρ3 => rw [hf] at h; cases h
        | ok k ρ3 =>
          rw [hf] at h
          cases k with
          | «at» i => cases h
          | res r =>
            cases r with
            | new m => cases h
            | imm y => cases h; rfl
theorem lcD_pure {g : GV} {tt : TV} {f : EV} {vs : List Nat} {ρ : Env} {F : D → Option D} : ∀ {ds : List D}, (∀ d ∈ ds, lcS g tt f vs d ρ = .ok (F d) ρ) → lcD g tt f vs ds ρ = .ok (ds.filterMap F) ρ
  | [], _ => rfl
  | d :: ds, h => by
    rw [lcD_step (h d (List.mem_cons_self ..)), lcD_pure (fun e he => h e (List.mem_cons_of_mem _ he))]
    show Out.ok _ _ = _
    rw [List.filterMap_cons]
    cases F d <;> rfl
theorem lcD_map {g : GV} {tt : TV} {f : EV} {vs : List Nat} {ρ : Env} {F : D → D} {ds : List D} (h : ∀ d ∈ ds, lcS g tt f vs d ρ = .ok (some (F d)) ρ) : lcD g tt f vs ds ρ = .ok (ds.map F) ρ := by
  rw [lcD_pure (F := fun d => some (F d)) h, List.filterMap_eq_map']
/-- every item gives one; an invariant runs along -/
theorem lcD_inv {g : GV} {tt : TV} {f : EV} {vs : List Nat} {P : Env → Prop} {Q : D → D → Prop} : ∀ {ds : List D} {ρ : Env}, P ρ → (∀ d ∈ ds, ∀ ρ, P ρ → ∃ y ρ', lcS g tt f vs d ρ = .ok (some y) ρ' ∧ P ρ' ∧ Q d y) →
    ∃ ys ρ', lcD g tt f vs ds ρ = .ok ys ρ' ∧ P ρ' ∧ ys.length = ds.length ∧ ∀ (i : Nat) d y, ds[i]? = some d → ys[i]? = some y → Q d y
  | [], ρ, hp, _ => ⟨[], ρ, rfl, hp, rfl, fun i d y h => by simp at h⟩
  | d :: ds, ρ, hp, h => by
    obtain ⟨y, ρ1, e1, p1, q1⟩ := h d (List.mem_cons_self ..) ρ hp
    obtain ⟨ys, ρ2, e2, p2, l2, q2⟩ := lcD_inv (ds := ds) p1 fun e he => h e (List.mem_cons_of_mem _ he)
    refine ⟨y :: ys, ρ2, ?_, p2, by simp [l2], ?_⟩
    · rw [lcD_step e1, e2]; rfl
    · intro i d' y' hd hy
      cases i with
      | zero => simp at hd hy; subst hd hy; exact q1
      | succ i => simp at hd hy; exact q2 i d' y' hd hy
def lcE (vs : List Nat) (ρ1 : Env) (o : Out (List D)) : Out Pk := match o with
  | .ok ys ρ2 => .ok (.res (.new (.lst ys))) (restE ρ1 ρ2 vs)
  | _ => .bad
theorem lcE_ok {vs : List Nat} {ρ1 ρ2 : Env} {ys : List D} : lcE vs ρ1 (.ok ys ρ2) = .ok (.res (.new (.lst ys))) (restE ρ1 ρ2 vs) := rfl
def lcK (g : GV) (tt : TV) (f : EV) (vs : List Nat) : List D → EV := fun ds ρ1 => br (plainAt ρ1 vs) (lcE vs ρ1 (lcD g tt f vs ds (wipeE ρ1 vs))) .bad
theorem lcK_ev {g : GV} {tt : TV} {f : EV} {vs : List Nat} {ds : List D} {ρ1 : Env} : lcK g tt f vs ds ρ1 = br (plainAt ρ1 vs) (lcE vs ρ1 (lcD g tt f vs ds (wipeE ρ1 vs))) .bad := rfl
theorem eLc_ev {it : IV} {g : GV} {tt : TV} {f : EV} {vs : List Nat} {ρ : Env} : eLc it g tt f vs ρ = (it ρ).bind (lcK g tt f vs) := by
  unfold eLc
  congr
  funext ds ρ1
  unfold lcK
  cases plainAt ρ1 vs with
  | false => rfl
  | true =>
    show (match lcD g tt f vs ds (wipeE ρ1 vs) with | .ok ys ρ2 => _ | _ => _) = lcE vs ρ1 (lcD g tt f vs ds (wipeE ρ1 vs))
    cases lcD g tt f vs ds (wipeE ρ1 vs) <;> rfl
theorem wipeE_nil {ρ : Env} : wipeE ρ [] = ρ := rfl
theorem wipeE_cons {ρ : Env} {v : Nat} {vs : List Nat} : wipeE ρ (v :: vs) = (wipeE ρ vs).set v .non := rfl
theorem restE_nil {ρ1 ρ2 : Env} : restE ρ1 ρ2 [] = ρ2 := rfl
theorem restE_cons {ρ1 ρ2 : Env} {v : Nat} {vs : List Nat} : restE ρ1 ρ2 (v :: vs) = (restE ρ1 ρ2 vs).set v (ρ1[v]?.getD .non) := rfl
def plS (s : Option Slot) : Bool := match s with
  | some .non => true
  | some (.imm _) => true
  | _ => false
theorem plS_non : plS (some .non) = true := rfl
theorem plS_imm {d : D} : plS (some (.imm d)) = true := rfl
theorem plainAt_nil {ρ : Env} : plainAt ρ [] = true := rfl
theorem plainAt_cons {ρ : Env} {v : Nat} {vs : List Nat} : plainAt ρ (v :: vs) = (plS ρ[v]? && plainAt ρ vs) := by
  unfold plainAt plS
  rw [List.all_cons] <;> rfl

/-! ### walks -/
def forS (g : GV) (b : SV) (d : D) (ρ : Env) : SOut := oS (g d ρ) b
theorem forS_ev {g : GV} {b : SV} {d : D} {ρ : Env} : forS g b d ρ = oS (g d ρ) b := rfl
def forR (g : GV) (b : SV) (ds : List D) (o : SOut) : SOut := match o with
  | .nx ρ => forD g b ds ρ
  | .ct ρ => forD g b ds ρ
  | .bk ρ => .nx ρ
  | o => o
theorem forR_nx {g : GV} {b : SV} {ds : List D} {ρ : Env} : forR g b ds (.nx ρ) = forD g b ds ρ := rfl
theorem forR_ct {g : GV} {b : SV} {ds : List D} {ρ : Env} : forR g b ds (.ct ρ) = forD g b ds ρ := rfl
theorem forR_bk {g : GV} {b : SV} {ds : List D} {ρ : Env} : forR g b ds (.bk ρ) = .nx ρ := rfl
theorem forR_rt {g : GV} {b : SV} {ds : List D} {r : Res} {ρ : Env} : forR g b ds (.rt r ρ) = .rt r ρ := rfl
theorem forR_exc {g : GV} {b : SV} {ds : List D} {r : Ex} {ρ : Env} : forR g b ds (.exc r ρ) = .exc r ρ := rfl
theorem forD_nil {g : GV} {b : SV} {ρ : Env} : forD g b [] ρ = .nx ρ := rfl
theorem forD_cons {g : GV} {b : SV} {d : D} {ds : List D} {ρ : Env} : forD g b (d :: ds) ρ = forR g b ds (forS g b d ρ) := by
  show (match g d ρ with | none => _ | some ρ1 => _) = _
  unfold forS
  cases g d ρ with
  | none => rfl
  | some ρ1 =>
    show (match b ρ1 with | .nx ρ2 => _ | .ct ρ2 => _ | .bk ρ2 => _ | o => _) = forR g b ds (b ρ1)
    cases b ρ1 <;> rfl
/-- a walk that ends early or goes through -/
theorem forD_inv {g : GV} {b : SV} {I : Nat → Env → Prop} {R : SOut → Prop} : ∀ {ds : List D} {ρ : Env} {n : Nat}, I n ρ →
    (∀ (j : Nat) d ρ, ds[j]? = some d → I (n + j) ρ → (∃ ρ', (forS g b d ρ = .nx ρ' ∨ forS g b d ρ = .ct ρ') ∧ I (n + j + 1) ρ') ∨ (∃ r ρ', forS g b d ρ = .rt r ρ' ∧ R (.rt r ρ')) ∨ (∃ ρ', forS g b d ρ = .bk ρ' ∧ R (.nx ρ'))) →
    (∃ ρ', forD g b ds ρ = .nx ρ' ∧ I (n + ds.length) ρ') ∨ R (forD g b ds ρ)
  | [], ρ, n, h, _ => .inl ⟨ρ, rfl, h⟩
  | d :: ds, ρ, n, h, hs => by
    rw [forD_cons]
    rcases hs 0 d ρ rfl h with ⟨ρ', e, i'⟩ | ⟨r, ρ', e, hr⟩ | ⟨ρ', e, hr⟩
    · have key := forD_inv (g := g) (b := b) (I := I) (R := R) (ds := ds) (ρ := ρ') (n := n + 1) i' (fun j d' ρ1 hd hi => by
        have := hs (j + 1) d' ρ1 (by simpa using hd) (by rw [show n + (j + 1) = n + 1 + j by omega]; exact hi)
        rwa [show n + (j + 1) = n + 1 + j by omega] at this)
      rw [show n + 1 + ds.length = n + (ds.length + 1) by omega] at key
      rcases e with e | e <;> rw [e] <;> exact key
    · rw [e]; exact .inr hr
    · rw [e]; exact .inr hr
theorem forD_run {g : GV} {b : SV} {I : Nat → Env → Prop} {ds : List D} {ρ : Env} (h : I 0 ρ)
    (hs : ∀ (j : Nat) d ρ, ds[j]? = some d → I j ρ → ∃ ρ', (forS g b d ρ = .nx ρ' ∨ forS g b d ρ = .ct ρ') ∧ I (j + 1) ρ') : ∃ ρ', forD g b ds ρ = .nx ρ' ∧ I ds.length ρ' := by
  rcases forD_inv (g := g) (b := b) (I := I) (R := fun _ => False) (n := 0) h (fun j d ρ hd hi => .inl (by simpa using hs j d ρ hd (by simpa using hi))) with h | h
  · simpa using h
  · exact h.elim

/-! ### functions -/
def finS (s : Option Slot) (k : Option M → FOut) : FOut := match s with
  | some (.bor m) => k (some m)
  | _ => .bad
theorem finS_bor {m : M} {k : Option M → FOut} : finS (some (.bor m)) k = k (some m) := rfl
theorem finN_rt {r : Res} {ρ : Env} : finF none (.rt r ρ) = .ret r none := rfl
theorem finN_nx {ρ : Env} : finF none (.nx ρ) = .ret (.imm .non) none := rfl
theorem finN_exc {x : Ex} {ρ : Env} : finF none (.exc x ρ) = .exc x none := rfl
theorem finM_rt {m : M} {r : Res} {ρ : Env} : finF (some m) (.rt r ρ) = finS ρ[0]? (.ret r) := rfl
theorem finM_nx {m : M} {ρ : Env} : finF (some m) (.nx ρ) = finS ρ[0]? (.ret (.imm .non)) := rfl
theorem finM_exc {m : M} {x : Ex} {ρ : Env} : finF (some m) (.exc x ρ) = finS ρ[0]? (.exc x) := rfl
theorem mkN_ev {np nx : Nat} {b : SV} {ds : List D} : mkF np nx b none ds = br (decide (ds.length = np)) (finF none (b (ds.map Slot.imm ++ List.replicate nx .non))) .bad := by
  unfold mkF borS
  rw [ite_br]
  simp only [List.nil_append, List.length_map]
theorem mkM_ev {np nx : Nat} {b : SV} {m : M} {ds : List D} : mkF np nx b (some m) ds = br (decide (ds.length + 1 = np)) (finF (some m) (b (.bor m :: (ds.map Slot.imm ++ List.replicate nx .non)))) .bad := by
  unfold mkF borS
  rw [ite_br]
  simp only [List.cons_append, List.nil_append, List.length_cons, List.length_map]

/-! ### operations at a value -/
theorem intG_ev {C : Int → Int → Bool} {g : Int → Int → D} {i j : Int} : intG C g (.int i) (.int j) = br (C i j) (some (.imm (g i j))) none := by
  show (if C i j = true then _ else _) = _
  cases C i j <;> rfl
theorem addG_int {i j : Int} : addG (.int i) (.int j) = some (.imm (.int (i + j))) := rfl
theorem addG_str {a b : List Nat} : addG (.str a) (.str b) = br (decide (a.length + b.length ≤ sizeLine)) (some (.imm (.str (a ++ b)))) none := ite_br
theorem addG_tup {a b : List D} : addG (.tup a) (.tup b) = br (decide (a.length + b.length ≤ sizeLine)) (some (.imm (.tup (a ++ b)))) none := ite_br
theorem addG_lst {a b : List D} : addG (.lst a) (.lst b) = br (decide (a.length + b.length ≤ sizeLine)) (some (.new (.lst (a ++ b)))) none := ite_br
theorem mulG_int {i j : Int} : mulG (.int i) (.int j) = br (decide ((-(2 ^ 64) < i ∧ i < 2 ^ 64) ∨ (-(2 ^ 64) < j ∧ j < 2 ^ 64))) (some (.imm (.int (i * j)))) none := ite_br
theorem eqG_ev {d e : D} : eqG d e = br (decide (d.dep ≤ 64) && decide (e.dep ≤ 64)) (some (.imm (.bl (D.eqv d e)))) none := by
  unfold eqG; rw [ite_br, Bool.decide_and]
theorem neG_ev {d e : D} : neG d e = br (decide (d.dep ≤ 64) && decide (e.dep ≤ 64)) (some (.imm (.bl (!D.eqv d e)))) none := by
  unfold neG; rw [ite_br, Bool.decide_and]
theorem dep_non : D.non.dep = 0 := by unfold D.dep; rfl
theorem dep_bl {b : Bool} : (D.bl b).dep = 0 := by unfold D.dep; rfl
theorem dep_int {b : Int} : (D.int b).dep = 0 := by unfold D.dep; rfl
theorem dep_str {b : List Nat} : (D.str b).dep = 0 := by unfold D.dep; rfl
theorem dep_tup {ds : List D} : (D.tup ds).dep = D.deps ds + 1 := by rw [D.dep]
theorem dep_lst {ds : List D} : (D.lst ds).dep = D.deps ds + 1 := by rw [D.dep]
theorem deps_nil : D.deps [] = 0 := by rw [D.deps]
theorem deps_cons {d : D} {ds : List D} : D.deps (d :: ds) = max d.dep (D.deps ds) := by rw [D.deps]
theorem eqv_int {i j : Int} : D.eqv (.int i) (.int j) = decide (i = j) := by unfold D.eqv; rfl
theorem eqv_str {i j : List Nat} : D.eqv (.str i) (.str j) = decide (i = j) := by
  unfold D.eqv
  by_cases h : i = j
  · subst h; simp
  · simp [h]
theorem eqv_bl {i j : Bool} : D.eqv (.bl i) (.bl j) = (i == j) := by unfold D.eqv; rfl
theorem eqv_tup {a b : List D} : D.eqv (.tup a) (.tup b) = D.eqvs a b := by rw [D.eqv]
theorem eqv_lst {a b : List D} : D.eqv (.lst a) (.lst b) = D.eqvs a b := by rw [D.eqv]
theorem eqvs_nil : D.eqvs [] [] = true := by rw [D.eqvs]
theorem eqvs_nc {d : D} {ds : List D} : D.eqvs [] (d :: ds) = false := by rw [D.eqvs] <;> simp
theorem eqvs_cn {d : D} {ds : List D} : D.eqvs (d :: ds) [] = false := by rw [D.eqvs] <;> simp
theorem eqvs_cc {d e : D} {ds es : List D} : D.eqvs (d :: ds) (e :: es) = (D.eqv d e && D.eqvs ds es) := by rw [D.eqvs]
theorem eqvs_nilR {ds : List D} : D.eqvs ds [] = decide (ds = []) := by
  cases ds with
  | nil => rw [eqvs_nil]; rfl
  | cons d ds => rw [eqvs_cn]; simp
theorem len_str {cs : List Nat} : lenG [.str cs] = some (.imm (.int cs.length)) := rfl
theorem len_lst {cs : List D} : lenG [.lst cs] = some (.imm (.int cs.length)) := rfl
theorem len_tup {cs : List D} : lenG [.tup cs] = some (.imm (.int cs.length)) := rfl
theorem len_seq {cs : List Int} : lenG [.seq cs] = some (.imm (.int cs.length)) := rfl
theorem intG1_ev {i : Int} : intG1 [.int i] = some (.imm (.int i)) := rfl
theorem max2_ev {i j : Int} : max2G [.int i, .int j] = some (.imm (.int (if j > i then j else i))) := rfl
theorem min2_ev {i j : Int} : min2G [.int i, .int j] = some (.imm (.int (if j < i then j else i))) := rfl
theorem all_ev {ds : List D} : allG [.lst ds] = oO (dBools ds) fun bs => some (.imm (.bl (bs.all id))) := by
  show (dBools ds).map _ = _
  cases dBools ds <;> rfl
theorem sum_ev {ds : List D} : sumG [.lst ds] = oO (dInts ds) fun bs => some (.imm (.int bs.sum)) := by
  show (dInts ds).map _ = _
  cases dInts ds <;> rfl
theorem list_lst {ds : List D} : listG [.lst ds] = some (.new (.lst ds)) := rfl
theorem list_tup {ds : List D} : listG [.tup ds] = some (.new (.lst ds)) := rfl
theorem tuple_lst {ds : List D} : tupleG [.lst ds] = some (.imm (.tup ds)) := rfl
theorem tuple_tup {ds : List D} : tupleG [.tup ds] = some (.imm (.tup ds)) := rfl
theorem neg_ev {i : Int} : negG (.int i) = some (.imm (.int (-i))) := rfl
theorem resB_ev {b : Bool} : resB (some (.imm (.bl b))) = some b := rfl
theorem inG_ev {neg : Bool} {d e : D} : inG neg d e = oO (inB d e) fun b => some (.imm (.bl (neg ^^ b))) := by
  unfold inG
  cases inB d e with
  | none => rfl
  | some b => cases neg <;> cases b <;> rfl
theorem inB_str {x : Nat} {cs : List Nat} : inB (.str [x]) (.str cs) = some (decide (x ∈ cs)) := rfl
theorem inB_lst {d : D} {ds : List D} : inB d (.lst ds) = br (decide (d.dep ≤ 64) && decide (D.deps ds ≤ 60)) (some (ds.any fun z => D.eqv z d)) none := by
  have : inB d (.lst ds) = if d.dep ≤ 64 ∧ D.deps ds ≤ 60 then some (ds.any fun z => D.eqv z d) else none := by
    unfold inB
    split <;> simp_all
  rw [this, ite_br, Bool.decide_and]
theorem inB_tup {d : D} {ds : List D} : inB d (.tup ds) = br (decide (d.dep ≤ 64) && decide (D.deps ds ≤ 60)) (some (ds.any fun z => D.eqv z d)) none := by
  have : inB d (.tup ds) = if d.dep ≤ 64 ∧ D.deps ds ≤ 60 then some (ds.any fun z => D.eqv z d) else none := by
    unfold inB
    split <;> simp_all
  rw [this, ite_br, Bool.decide_and]
theorem ixD_lst {ds : List D} {i : Int} : ixD (.lst ds) (.int i) = oO (atI ds i) fun d => some (.imm d) := by
  show (atI ds i).map _ = _
  cases atI ds i <;> rfl
theorem ixD_tup {ds : List D} {i : Int} : ixD (.tup ds) (.int i) = oO (atI ds i) fun d => some (.imm d) := by
  show (atI ds i).map _ = _
  cases atI ds i <;> rfl
theorem ixD_str {ds : List Nat} {i : Int} : ixD (.str ds) (.int i) = oO (atI ds i) fun d => some (.imm (.str [d])) := by
  show (atI ds i).map _ = _
  cases atI ds i <;> rfl
theorem ixD_seq {ds : List Int} {i : Int} : ixD (.seq ds) (.int i) = oO (atI ds i) fun d => some (.imm (.int d)) := by
  show (atI ds i).map _ = _
  cases atI ds i <;> rfl
theorem ixN_nat {n : Nat} {i : Int} (h : 0 ≤ i) (h2 : i < n) : ixN n i = some i.toNat := by unfold ixN; rw [if_pos h, if_pos h2]
theorem atI_nat {α : Type} {xs : List α} {i : Int} (h : 0 ≤ i) (h2 : i < xs.length) : ∃ x, atI xs i = some x ∧ xs[i.toNat]? = some x ∧ x ∈ xs := by
  unfold atI
  rw [ixN_nat h h2]
  have hl : i.toNat < xs.length := by omega
  exact ⟨xs[i.toNat], by rw [Option.bind_some, List.getElem?_eq_getElem hl], List.getElem?_eq_getElem hl, List.getElem_mem hl⟩
theorem atI_0 {α : Type} {x : α} {xs : List α} : atI (x :: xs) 0 = some x := by
  obtain ⟨y, e, h, _⟩ := atI_nat (xs := x :: xs) (i := 0) (by omega) (by simp)
  rw [e, ← h]; rfl
theorem atI_1 {α : Type} {x y : α} {xs : List α} : atI (x :: y :: xs) 1 = some y := by
  obtain ⟨z, e, h, _⟩ := atI_nat (xs := x :: y :: xs) (i := 1) (by omega) (by simp; omega)
  rw [e, ← h]; rfl
theorem atI_2 {α : Type} {x y z : α} {xs : List α} : atI (x :: y :: z :: xs) 2 = some z := by
  obtain ⟨w, e, h, _⟩ := atI_nat (xs := x :: y :: z :: xs) (i := 2) (by omega) (by simp; omega)
  rw [e, ← h]; rfl
theorem atI_3 {α : Type} {x y z w : α} {xs : List α} : atI (x :: y :: z :: w :: xs) 3 = some w := by
  obtain ⟨v, e, h, _⟩ := atI_nat (xs := x :: y :: z :: w :: xs) (i := 3) (by omega) (by simp; omega)
  rw [e, ← h]; rfl
theorem sl_lst {ds : List D} {l u : Option Int} : slG (.lst ds) l u = some (.new (.lst (cutL ds l u))) := rfl
theorem sl_tup {ds : List D} {l u : Option Int} : slG (.tup ds) l u = some (.imm (.tup (cutL ds l u))) := rfl
theorem sl_str {ds : List Nat} {l u : Option Int} : slG (.str ds) l u = some (.imm (.str (cutL ds l u))) := rfl
theorem rev_lst {ds : List D} : revG (.lst ds) = some (.new (.lst ds.reverse)) := rfl
theorem join_lst {sep : List Nat} {ds : List D} : joinG sep (.lst ds) = oO (dStrs ds) fun css => br (decide ((css.map List.length).sum + css.length * sep.length ≤ 16777216)) (some (.imm (.str (joinD sep css)))) none := by
  show (match dStrs ds with | some css => _ | none => _) = _
  cases dStrs ds with
  | none => rfl
  | some css => exact ite_br
theorem join_tup {sep : List Nat} {ds : List D} : joinG sep (.tup ds) = oO (dStrs ds) fun css => br (decide ((css.map List.length).sum + css.length * sep.length ≤ 16777216)) (some (.imm (.str (joinD sep css)))) none := by
  show (match dStrs ds with | some css => _ | none => _) = _
  cases dStrs ds with
  | none => rfl
  | some css => exact ite_br
theorem count_ev {cs : List Nat} {ch : Nat} : countG cs (.str [ch]) = some (.imm (.int (cs.count ch))) := rfl
theorem joinD_nil : ∀ (css : List (List Nat)), joinD [] css = css.flatten
  | [] => by unfold joinD; rfl
  | [a] => by unfold joinD; simp [TL.joinL]
  | a :: b :: l => by
    have h := joinD_nil (b :: l)
    unfold joinD at h ⊢
    simp only [TL.joinL, List.append_nil, h, List.flatten_cons, List.nil_append] at h ⊢
    try rw [h]
theorem ixN_0 {n : Nat} : ixN (n + 1) 0 = some 0 := by rw [ixN_nat (by omega) (by omega)]; rfl
theorem ixN_1 {n : Nat} : ixN (n + 2) 1 = some 1 := by rw [ixN_nat (by omega) (by omega)]; rfl
theorem pow1018 : powG (.int 10) (.int 18) = some (.imm (.int 1000000000000000000)) := rfl
theorem fmod_rng (x : Int) {n : Int} (h : 0 < n) : 0 ≤ x.fmod n ∧ x.fmod n < n := by
  rw [Int.fmod_eq_emod_of_nonneg _ (by omega)]
  exact ⟨Int.emod_nonneg _ (by omega), Int.emod_lt_of_pos _ (by omega)⟩
theorem natAbs_0 : Int.natAbs 0 = 0 := rfl
theorem natAbs_1 : Int.natAbs 1 = 1 := rfl
theorem natAbs_2 : Int.natAbs 2 = 2 := rfl
theorem natAbs_3 : Int.natAbs 3 = 3 := rfl
theorem natAbs_4 : Int.natAbs 4 = 4 := rfl
theorem natAbs_5 : Int.natAbs 5 = 5 := rfl
theorem natAbs_6 : Int.natAbs 6 = 6 := rfl
theorem natAbs_7 : Int.natAbs 7 = 7 := rfl
theorem natAbs_8 : Int.natAbs 8 = 8 := rfl
theorem natAbs_9 : Int.natAbs 9 = 9 := rfl
theorem natAbs_10 : Int.natAbs 10 = 10 := rfl
theorem natAbs_11 : Int.natAbs 11 = 11 := rfl
theorem natAbs_12 : Int.natAbs 12 = 12 := rfl
theorem natAbs_13 : Int.natAbs 13 = 13 := rfl
theorem natAbs_14 : Int.natAbs 14 = 14 := rfl
theorem natAbs_15 : Int.natAbs 15 = 15 := rfl
theorem natAbs_16 : Int.natAbs 16 = 16 := rfl
theorem natAbs_17 : Int.natAbs 17 = 17 := rfl
theorem natAbs_18 : Int.natAbs 18 = 18 := rfl
theorem natAbs_19 : Int.natAbs 19 = 19 := rfl
theorem natAbs_20 : Int.natAbs 20 = 20 := rfl
theorem lcD_mapS {g : GV} {tt : TV} {f : EV} {vs : List Nat} {ρ : Env} {α : Type} (q : α → D) {F : α → D} : ∀ {cs : List α}, (∀ c ∈ cs, lcS g tt f vs (q c) ρ = .ok (some (F c)) ρ) → lcD g tt f vs (cs.map q) ρ = .ok (cs.map F) ρ
  | [], _ => rfl
  | c :: cs, h => by
    rw [List.map_cons, lcD_step (h c (List.mem_cons_self ..)), lcD_mapS q (fun e he => h e (List.mem_cons_of_mem _ he))]; rfl
theorem lcD_filS {g : GV} {tt : TV} {f : EV} {vs : List Nat} {ρ : Env} {α : Type} (q : α → D) {F : α → Option D} : ∀ {cs : List α}, (∀ c ∈ cs, lcS g tt f vs (q c) ρ = .ok (F c) ρ) → lcD g tt f vs (cs.map q) ρ = .ok (cs.filterMap F) ρ
  | [], _ => rfl
  | c :: cs, h => by
    rw [List.map_cons, lcD_step (h c (List.mem_cons_self ..)), lcD_filS q (fun e he => h e (List.mem_cons_of_mem _ he)), List.filterMap_cons]
    show Out.ok _ _ = _
    cases F c <;> rfl
theorem forD_el {g : GV} {b : SV} {ds : List D} {ρ : Env} {o : SOut} (hf : forD g b ds ρ = o) (I : Nat → Env → Prop) (R : SOut → Prop) (h : I 0 ρ)
    (hs : ∀ (j : Nat) d ρ, ds[j]? = some d → I j ρ → (∃ ρ', (forS g b d ρ = .nx ρ' ∨ forS g b d ρ = .ct ρ') ∧ I (j + 1) ρ') ∨ (∃ r ρ', forS g b d ρ = .rt r ρ' ∧ R (.rt r ρ')) ∨ (∃ ρ', forS g b d ρ = .bk ρ' ∧ R (.nx ρ'))) :
    (∃ ρ', o = .nx ρ' ∧ I ds.length ρ') ∨ R o := by
  rcases forD_inv (g := g) (b := b) (I := I) (R := R) (n := 0) h (fun j d ρ hd hi => by simpa using hs j d ρ hd (by simpa using hi)) with ⟨ρ', e, hi⟩ | h
  · exact .inl ⟨ρ', hf ▸ e, by simpa using hi⟩
  · exact .inr (hf ▸ h)
theorem forD_el1 {g : GV} {b : SV} {ds : List D} {ρ : Env} {o : SOut} (hf : forD g b ds ρ = o) (I : Nat → Env → Prop) (h : I 0 ρ)
    (hs : ∀ (j : Nat) d ρ, ds[j]? = some d → I j ρ → ∃ ρ', (forS g b d ρ = .nx ρ' ∨ forS g b d ρ = .ct ρ') ∧ I (j + 1) ρ') : ∃ ρ', o = .nx ρ' ∧ I ds.length ρ' := by
  rcases forD_el hf I (fun _ => False) h (fun j d ρ hd hi => .inl (hs j d ρ hd hi)) with h | h
  · exact h
  · exact h.elim
theorem lcD_el {g : GV} {tt : TV} {f : EV} {vs : List Nat} {ds : List D} {ρ : Env} {o : Out (List D)} (hf : lcD g tt f vs ds ρ = o) (P : Env → Prop) (Q : D → D → Prop) (h : P ρ)
    (hs : ∀ d ∈ ds, ∀ ρ, P ρ → ∃ y ρ', lcS g tt f vs d ρ = .ok (some y) ρ' ∧ P ρ' ∧ Q d y) :
    ∃ ys ρ', o = .ok ys ρ' ∧ P ρ' ∧ ys.length = ds.length ∧ ∀ (i : Nat) d y, ds[i]? = some d → ys[i]? = some y → Q d y := by
  obtain ⟨ys, ρ', e, h⟩ := lcD_inv (Q := Q) h hs
  exact ⟨ys, ρ', hf ▸ e, h⟩
theorem join0_lst {ds : List D} : joinG [] (.lst ds) = oO (dStrs ds) fun css => br (decide ((css.map List.length).sum ≤ 16777216)) (some (.imm (.str css.flatten))) none := by
  rw [join_lst]
  cases dStrs ds with
  | none => rfl
  | some css =>
    show br (decide (_ + css.length * 0 ≤ _)) (some (Res.imm (.str (joinD [] css)))) none = _
    rw [joinD_nil]; rfl
theorem join0_tup {ds : List D} : joinG [] (.tup ds) = oO (dStrs ds) fun css => br (decide ((css.map List.length).sum ≤ 16777216)) (some (.imm (.str css.flatten))) none := by
  rw [join_tup]
  cases dStrs ds with
  | none => rfl
  | some css =>
    show br (decide (_ + css.length * 0 ≤ _)) (some (Res.imm (.str (joinD [] css)))) none = _
    rw [joinD_nil]; rfl
end DL
/-! Ev3: displays of dicts; slices; more. -/
namespace DL
open PySem PySem.Spec PyProof.Rows L2
def dispOk (ds : List D) : Bool := match pks ds with
  | some ks => distinct ks && decide (ks.length ≤ 15)
  | none => false
def dispK (ps : List (D × D)) (ρ1 : Env) : Out Pk := br (dispOk (ps.map (·.1))) (.ok (.res (.new (.dct (ps.map (·.1)) (ps.map (·.2))))) ρ1) .bad
theorem eDisp_ev {f : QV} {ρ : Env} : eDisp f ρ = (f ρ).bind dispK := by
  unfold eDisp
  congr
  funext ps ρ1
  unfold dispK dispOk
  cases h : pks (ps.map (·.1)) with
  | none => rfl
  | some ks =>
    show ite _ _ _ = br (distinct ks && decide (ks.length ≤ 15)) _ _
    rw [ite_br, Bool.decide_and]
    congr
    cases distinct ks <;> rfl
theorem prN_ev {ρ : Env} : prN ρ = .ok [] ρ := rfl
def prE (x y : D) : List (D × D) → QV := fun ps ρ3 => .ok ((x, y) :: ps) ρ3
theorem prE_ev {x y : D} {ps : List (D × D)} {ρ3 : Env} : prE x y ps ρ3 = .ok ((x, y) :: ps) ρ3 := rfl
def prK2 (r : QV) (a b : Pk) : QV := fun ρ2 => oB (pkI a) fun x => oB (pkI b) fun y => (r ρ2).bind (prE x y)
theorem prK2_ev {r : QV} {a b : Pk} {ρ2 : Env} : prK2 r a b ρ2 = oB (pkI a) fun x => oB (pkI b) fun y => (r ρ2).bind (prE x y) := rfl
def prK (fv : EV) (r : QV) (a : Pk) : QV := fun ρ1 => (fv ρ1).bind (prK2 r a)
theorem prK_ev {fv : EV} {r : QV} {a : Pk} {ρ1 : Env} : prK fv r a ρ1 = (fv ρ1).bind (prK2 r a) := rfl
theorem prC_ev {fk fv : EV} {r : QV} {ρ : Env} : prC fk fv r ρ = (fk ρ).bind (prK fv r) := by
  unfold prC
  congr
  funext a ρ1
  unfold prK
  congr
  funext b ρ2
  cases a with
  | «at» i => rfl
  | res ra =>
    cases ra with
    | new m => rfl
    | imm x =>
      cases b with
      | «at» i => rfl
      | res rb => cases rb <;> rfl
theorem cstr_iff {a b : List Nat} : (cstr a = cstr b) ↔ a = b := ⟨fun h => by
    have := congrArg (fun s : Str => s.cps.toList) h
    simpa [cstr] using this, fun h => h ▸ rfl⟩
theorem dispOk1 {a : List Nat} : dispOk [.str a] = true := rfl
theorem dispOk2 {a b : List Nat} : dispOk [.str a, .str b] = !decide (b = a) := by
  have e : dispOk [.str a, .str b] = ((!(decide ((.inr (cstr b) : Key) = .inr (cstr a)) || false) && (!false && true)) && true) := rfl
  rw [e]
  have : decide ((.inr (cstr b) : Key) = .inr (cstr a)) = decide (b = a) := decide_eq_decide.mpr (by rw [Sum.inr.injEq, cstr_iff])
  rw [this]
  cases decide (b = a) <;> rfl
theorem dispOk3 {a b c : List Nat} : dispOk [.str a, .str b, .str c] = (!(decide (b = a) || decide (c = a)) && !decide (c = b)) := by
  have e : dispOk [.str a, .str b, .str c] = ((!(decide ((.inr (cstr b) : Key) = .inr (cstr a)) || (decide ((.inr (cstr c) : Key) = .inr (cstr a)) || false)) && (!(decide ((.inr (cstr c) : Key) = .inr (cstr b)) || false) && (!false && true))) && true) := rfl
  rw [e]
  have h (x y : List Nat) : decide ((.inr (cstr x) : Key) = .inr (cstr y)) = decide (x = y) := decide_eq_decide.mpr (by rw [Sum.inr.injEq, cstr_iff])
  rw [h, h, h]
  cases decide (b = a) <;> cases decide (c = a) <;> cases decide (c = b) <;> rfl
theorem kEq_str {a b : List Nat} : kEq (.str a) (.str b) = decide (a = b) := by
  have e : kEq (.str a) (.str b) = decide ((NestedKey.text (cstr a)) = .text (cstr b)) := by
    unfold kEq
    simp only [D.key]
  rw [e]
  exact decide_eq_decide.mpr (by rw [NestedKey.text.injEq, cstr_iff])
theorem kEq_int {a b : Int} : kEq (.int a) (.int b) = decide (a = b) := by
  have e : kEq (.int a) (.int b) = decide ((NestedKey.num a) = .num b) := by
    unfold kEq
    simp only [D.key]
  rw [e]
  exact decide_eq_decide.mpr (by rw [NestedKey.num.injEq])
theorem dLook_cons {a v k : D} {ks vs : List D} : dLook (a :: ks) (v :: vs) k = br (kEq a k) (some v) (dLook ks vs k) := by
  show (if kEq a k = true then some v else dLook ks vs k) = _
  cases kEq a k <;> rfl
theorem dLook_nil {k : D} : dLook [] [] k = none := rfl
def isK (d : D) : Bool := d.pk.isSome
theorem isK_str {a : List Nat} : isK (.str a) = true := rfl
theorem isK_int {a : Int} : isK (.int a) = true := rfl
theorem ixD_dct {ks vs : List D} {k : D} : ixD (.dct ks vs) k = br (isK k) (oO (dLook ks vs k) fun d => some (.imm d)) none := by
  show (if k.pk.isSome = true then (dLook ks vs k).map Res.imm else none) = _
  unfold isK
  cases k.pk.isSome with
  | false => rfl
  | true => show (dLook ks vs k).map _ = oO _ _; cases dLook ks vs k <;> rfl
def dGet (o : Option D) (z : D) : D := match o with
  | some d => d
  | none => z
theorem dGet_some {d z : D} : dGet (some d) z = d := rfl
theorem dGet_none {z : D} : dGet none z = z := rfl
def pkDct (k : Pk) : Option (List D × List D) := match k with
  | .res (.new (.dct ks vs)) => some (ks, vs)
  | _ => none
theorem pkDct_ev {ks vs : List D} : pkDct (.res (.new (.dct ks vs))) = some (ks, vs) := rfl
def get4 (p : List D × List D) (kk : Pk) : Pk → EV := fun kx ρ3 => oB (pkI kk) fun y => oB (pkI kx) fun z => br (isK y) (.ok (.res (.imm (dGet (dLook p.1 p.2 y) z))) ρ3) .bad
theorem get4_ev {p : List D × List D} {kk kx : Pk} {ρ3 : Env} : get4 p kk kx ρ3 = oB (pkI kk) fun y => oB (pkI kx) fun z => br (isK y) (.ok (.res (.imm (dGet (dLook p.1 p.2 y) z))) ρ3) .bad := rfl
def get3 (fx : EV) (p : List D × List D) : Pk → EV := fun kk ρ2 => (fx ρ2).bind (get4 p kk)
theorem get3_ev {fx : EV} {p : List D × List D} {kk : Pk} {ρ2 : Env} : get3 fx p kk ρ2 = (fx ρ2).bind (get4 p kk) := rfl
def get2 (fk fx : EV) (ρ1 : Env) (p : List D × List D) : Out Pk := (fk ρ1).bind (get3 fx p)
theorem get2_ev {fk fx : EV} {ρ1 : Env} {p : List D × List D} : get2 fk fx ρ1 p = (fk ρ1).bind (get3 fx p) := rfl
def getK (fk fx : EV) : Pk → EV := fun k ρ1 => oB (pkDct k) (get2 fk fx ρ1)
theorem getK_ev {fk fx : EV} {k : Pk} {ρ1 : Env} : getK fk fx k ρ1 = oB (pkDct k) (get2 fk fx ρ1) := rfl
theorem eGet2_ev {f fk fx : EV} {ρ : Env} : eGet2 f fk fx ρ = (f ρ).bind (getK fk fx) := by
  unfold eGet2
  congr
  funext k ρ1
  cases k with
  | «at» i => rfl
  | res r =>
    cases r with
    | imm d => rfl
    | new m =>
      cases m with
      | lst ds => rfl
      | dcn ks vs => rfl
      | dct ks vs =>
        show (fk ρ1).bind _ = (fk ρ1).bind (get3 fx (ks, vs))
        congr
        funext kk ρ2
        unfold get3
        congr
        funext kx ρ3
        cases kk with
        | «at» i => rfl
        | res rk =>
          cases rk with
          | new m => rfl
          | imm y =>
            cases kx with
            | «at» i => rfl
            | res rx =>
              cases rx with
              | new m => rfl
              | imm z =>
                show ite _ _ _ = br (isK y) (Out.ok (Pk.res (Res.imm (dGet (dLook ks vs y) z))) ρ3) _
                unfold isK
                cases y.pk.isSome with
                | false => rfl
                | true =>
                  show Out.ok (Pk.res (Res.imm ((dLook ks vs y).getD z))) ρ3 = Out.ok (Pk.res (Res.imm (dGet (dLook ks vs y) z))) ρ3
                  cases dLook ks vs y <;> rfl
theorem lcD_elQ {g : GV} {tt : TV} {f : EV} {vs : List Nat} {ds : List D} {ρ : Env} {o : Out (List D)} (hf : lcD g tt f vs ds ρ = o) (P : Env → Prop) (Q : D → Prop) (h : P ρ)
    (hs : ∀ d ∈ ds, ∀ ρ, P ρ → ∃ y ρ', lcS g tt f vs d ρ = .ok (some y) ρ' ∧ P ρ' ∧ Q y) : ∃ ys ρ', o = .ok ys ρ' ∧ P ρ' ∧ ys.length = ds.length ∧ ∀ y ∈ ys, Q y := by
  obtain ⟨ys, ρ', e, hp, hl, hq⟩ := lcD_el hf P (fun _ y => Q y) h hs
  refine ⟨ys, ρ', e, hp, hl, fun y hy => ?_⟩
  obtain ⟨i, hi, e⟩ := List.mem_iff_getElem.mp hy
  exact hq i ds[i] y (List.getElem?_eq_getElem (by omega)) (by rw [List.getElem?_eq_getElem hi, e])
theorem rng_len (lo : Int) (n : Nat) : (rng lo n).length = n := by unfold rng; simp
theorem rng_mem {lo : Int} {n : Nat} {d : D} (h : d ∈ rng lo n) : ∃ i : Nat, i < n ∧ d = .int (lo + i) := by
  unfold rng at h
  obtain ⟨i, hi, rfl⟩ := List.mem_map.mp h
  exact ⟨i, List.mem_range.mp hi, rfl⟩
theorem rng_get {lo : Int} {n j : Nat} {d : D} (h : (rng lo n)[j]? = some d) : j < n ∧ d = .int (lo + j) := by
  unfold rng at h
  rw [List.getElem?_map] at h
  obtain ⟨i, hi, rfl⟩ := Option.map_eq_some_iff.mp h
  have := List.getElem?_eq_some_iff.mp hi
  obtain ⟨h1, h2⟩ := this
  simp at h1 h2
  subst h2
  exact ⟨h1, rfl⟩
def repT (k : Int) (ds : List D) : List D := (List.replicate k.toNat ds).flatten
theorem mul_tup {ds : List D} {k : Int} : mulG (.tup ds) (.int k) = br (decide (ds ≠ [] ∧ 2 ≤ k ∧ k ≤ 1000 ∧ ds.length ≤ 1000)) (some (.imm (.tup (repT k ds)))) none := by
  show (if ds ≠ [] ∧ 2 ≤ k ∧ k ≤ 1000 ∧ ds.length ≤ 1000 then _ else _) = _
  rw [ite_br]
  rfl
end DL
namespace DL
open PySem PySem.Spec PyProof.Rows L2
def d_LONE : D := .tup [.str [98, 111, 116, 116, 111, 109], .str [99, 97, 117, 103, 104, 116], .str [115, 116, 111, 112, 112, 101, 100], .str [116, 111, 112]]
def b_is_within : SV := (sRet (eAnd (eIsi "int" (eV 0)) (eAnd (eNot (eIsi "bool" (eV 0))) (e3 leG leG (eV 1) (eV 0) (eV 2)))))
def m_is_within : FnD := mkF 3 0 b_is_within

def b_is_column : SV := (sRet (eAnd (eIsi "str" (eV 0)) (eAnd (e2 eqG (eB lenG (aCons (eV 0) aNil)) (eV 1)) (eB allG (aCons (eLc (iSeq (frzE (eV 0))) (gN 3) tyYes (e2 (inG false) (eV 3) (eV 2)) [3]) aNil)))))
def m_is_column : FnD := mkF 3 1 b_is_column

def b_are_columns : SV := (sSeq (sIf (tyOr (tyNot (bT (eIsi "tuple" (eV 0)))) (bT (e2 gtG (eB lenG (aCons (eV 0) aNil)) (eV 2)))) (sRet (eC (.bl false))) sNext)
    (sRet (eB allG (aCons (eLc (iSeq (frzE (eV 0))) (gN 4) tyYes (frzE (eCall 3 m_is_column (aCons (eV 4) (aCons (eV 1) (aCons (eV 3) aNil))))) [4]) aNil))))
def m_are_columns : FnD := mkF 4 1 b_are_columns

def b_is_pair : SV := (sRet (eAnd (eIsi "tuple" (eV 0)) (e2 eqG (eB lenG (aCons (eV 0) aNil)) (eC (.int 2)))))
def m_is_pair : FnD := mkF 1 0 b_is_pair

def b_is_right_strip : SV := (sSeq (sIf (tyOr (tyNot (bT (eCall 1 m_is_pair (aCons (eV 0) aNil)))) (tyNot (bT (eCall 3 m_is_within (aCons (e2 ixD (eV 0) (eC (.int 0))) (aCons (eC (.int 1)) (aCons (eC (.int 3)) aNil))))))) (sRet (eC (.bl false))) sNext)
    (sRet (eCall 4 m_are_columns (aCons (e2 ixD (eV 0) (eC (.int 1))) (aCons (e2 ixD (eV 0) (eC (.int 0))) (aCons (eC (.int 40)) (aCons (eC (.str [35, 46, 100, 112, 113, 117, 118, 119])) aNil)))))))
def m_is_right_strip : FnD := mkF 1 0 b_is_right_strip

def b_is_right_pattern : SV := (sSeq (sIf (tyOr (tyNot (bT (eCall 1 m_is_pair (aCons (eV 0) aNil)))) (tyNot (bT (eCall 3 m_is_within (aCons (e2 ixD (eV 0) (eC (.int 0))) (aCons (eC (.int 1)) (aCons (eC (.int 2)) aNil))))))) (sRet (eC (.bl false))) sNext)
    (sSeq (sIf (tyNot (bT (eCall 4 m_are_columns (aCons (e2 ixD (eV 0) (eC (.int 1))) (aCons (e2 ixD (eV 0) (eC (.int 0))) (aCons (eC (.int 12)) (aCons (e2 addG (eC (.str [35, 46, 100, 112, 113, 117, 118, 119])) (eC (.str [63]))) aNil))))))) (sRet (eC (.bl false))) sNext)
    (sRet (e3 leG leG (eC (.int 1)) (eMS countG (eMS joinG (eC (.str [])) (e2 ixD (eV 0) (eC (.int 1)))) (eC (.str [63]))) (eC (.int 3))))))
def m_is_right_pattern : FnD := mkF 1 0 b_is_right_pattern

def b_is_strip : SV := (sRet (eCall 1 m_is_right_strip (aCons (eV 0) aNil)))
def m_is_strip : FnD := mkF 1 0 b_is_strip

def b_is_pattern : SV := (sRet (eCall 1 m_is_right_pattern (aCons (eV 0) aNil)))
def m_is_pattern : FnD := mkF 1 0 b_is_pattern

def b_is_right_end : SV := (sSeq (sIf (tyOr (tyNot (bT (eCall 1 m_is_pair (aCons (eV 0) aNil)))) (tyNot (bT (eIsi "str" (e2 ixD (eV 0) (eC (.int 0))))))) (sRet (eC (.bl false))) sNext)
    (sSeq (sIf (bT (e2 (inG false) (e2 ixD (eV 0) (eC (.int 0))) (eTup (aCons (eC (.str [108, 101, 102, 116])) (aCons (eC (.str [114, 105, 103, 104, 116])) aNil))))) (sRet (eCall 3 m_is_within (aCons (e2 ixD (eV 0) (eC (.int 1))) (aCons (eC (.int 0)) (aCons (e2 subG (eV 1) (eC (.int 1))) aNil))))) sNext)
    (sRet (eAnd (e2 (inG false) (e2 ixD (eV 0) (eC (.int 0))) (eC d_LONE)) (eCall 3 m_is_within (aCons (e2 ixD (eV 0) (eC (.int 1))) (aCons (eC (.int 0)) (aCons (eC (.int 0)) aNil))))))))
def m_is_right_end : FnD := mkF 2 0 b_is_right_end

def b_is_right_table : SV := (sSeq (sIf (tyOr (tyNot (bT (eCall 1 m_is_pair (aCons (eV 0) aNil)))) (tyOr (tyNot (bT (eIsi "tuple" (e2 ixD (eV 0) (eC (.int 0)))))) (tyNot (bT (eIsi "tuple" (e2 ixD (eV 0) (eC (.int 1)))))))) (sRet (eC (.bl false))) sNext)
    (sSeq (sSet 1 (eB lenG (aCons (e2 ixD (eV 0) (eC (.int 0))) aNil)))
    (sSeq (sIf (tyOr (tyNot (bT (e3 leG leG (eC (.int 1)) (eV 1) (eC (.int 3))))) (bT (e2 neG (eB lenG (aCons (e2 ixD (eV 0) (eC (.int 1))) aNil)) (eV 1)))) (sRet (eC (.bl false))) sNext)
    (sRet (eB allG (aCons (eLc (iSeq (frzE (e2 addG (e2 ixD (eV 0) (eC (.int 0))) (e2 ixD (eV 0) (eC (.int 1)))))) (gN 2) tyYes (frzE (eCall 2 m_is_right_end (aCons (eV 2) (aCons (frzE (eV 1)) aNil)))) [2]) aNil))))))
def m_is_right_table : FnD := mkF 1 2 b_is_right_table

def b_is_table : SV := (sRet (eCall 1 m_is_right_table (aCons (eV 0) aNil)))
def m_is_table : FnD := mkF 1 0 b_is_table

def b_law_source : SV := (sSeq (sSet 2 (eC (.int 0)))
    (sSeq (sIf (bT (e2 gtG (eB lenG (aCons (eV 0) aNil)) (eV 1))) (sSet 2 (eB intG1 (aCons (e2 ixD (eV 0) (eV 1)) aNil))) sNext)
    (sSeq (sSet 3 (e2 modG (e2 addG (e2 addG (e2 mulG (eV 2) (eC (.int 16807))) (e2 mulG (eC (.int 60919)) (eV 1))) (eC (.int 31))) (eC (.int 2147481173))))
    (sSeq (sSet 3 (e2 addG (e2 addG (e2 modG (e2 mulG (eV 3) (eV 3)) (eC (.int 2147481151))) (e2 mulG (eC (.int 2)) (eV 1))) (eC (.int 5))))
    (sRet (eLst (aCons (frzE (eIf (bT (e2 geG (eV 2) (e2 powG (eC (.int 10)) (eC (.int 18))))) (eV 2) (eC (.int 0)))) (aCons (frzE (eV 3)) aNil))))))))
def m_law_source : FnD := mkF 2 2 b_law_source

def b_law_pick : SV := (sSeq (sIf (bT (e2 gtG (e2 ixD (eV 0) (eC (.int 0))) (eC (.int 0)))) (sSeq (sSet 2 (e2 modG (eB intG1 (aCons (e2 ixD (eV 0) (eC (.int 0))) aNil)) (eV 1)))
    (sSeq (sSetIx 0 (eC (.int 0)) (e2 fdivG (eB intG1 (aCons (e2 ixD (eV 0) (eC (.int 0))) aNil)) (eV 1)))
    (sRet (eV 2)))) sNext)
    (sSeq (sSetIx 0 (eC (.int 1)) (e2 modG (eB intG1 (aCons (e2 addG (e2 mulG (e2 ixD (eV 0) (eC (.int 1))) (eC (.int 44497))) (eC (.int 9973))) aNil)) (eC (.int 2147483647))))
    (sRet (e2 modG (e2 fdivG (e2 modG (eB intG1 (aCons (e2 mulG (e2 ixD (eV 0) (eC (.int 1))) (e2 ixD (eV 0) (eC (.int 1)))) aNil)) (eC (.int 2147483399))) (eC (.int 11))) (eV 1)))))
def m_law_pick : FnD := mkF 2 1 b_law_pick

def b_law_chosen : SV := (sRet (e2 ixD (eV 1) (frzE (eCall 2 m_law_pick (aCons (eV 0) (aCons (eB lenG (aCons (eV 1) aNil)) aNil))))))
def m_law_chosen : FnD := mkF 2 0 b_law_chosen

def b_law_is_bool : SV := (sRet (eAnd (eIsi "bool" (eV 0)) (e2 eqG (eV 0) (eV 1))))
def m_law_is_bool : FnD := mkF 2 0 b_law_is_bool

def b_law_wide : SV := (sRet (eAnd (eIsi "tuple" (eV 0)) (e3 leG leG (eV 1) (eB lenG (aCons (eV 0) aNil)) (eV 2))))
def m_law_wide : FnD := mkF 3 0 b_law_wide

def b_law_any_value (self : FnD) : SV := (sSeq (sSet 2 (eLst (aCons (eC .non) (aCons (eC (.bl true)) (aCons (eC (.bl false)) (aCons (eC (.int 0)) (aCons (eC (.int 1)) (aCons (eC (.int 2)) (aCons (eC (.int 3)) (aCons (e1 negG (eC (.int 1))) (aCons (eC (.str [])) (aCons (eC (.str [117])) (aCons (eC (.str [46])) (aCons (eC (.str [112, 35])) (aCons (eC (.str [63])) (aCons (eC (.str [108, 101, 102, 116])) (aCons (eTup aNil) (aCons (frzE (eLst aNil)) (aCons (eTup (aCons (eC (.str [117])) aNil)) (aCons (eTup (aCons (eC (.int 1)) (aCons (eTup aNil) aNil))) aNil))))))))))))))))))))
    (sSeq (sSet 3 (eCall 2 m_law_pick (aCons (eV 0) (aCons (eC (.int 8)) aNil))))
    (sSeq (sIf (tyOr (bT (e2 ltG (eV 1) (eC (.int 1)))) (bT (e2 ltG (eV 3) (eC (.int 5))))) (sRet (eCall 2 m_law_chosen (aCons (eV 0) (aCons (frzE (eV 2)) aNil)))) sNext)
    (sSeq (sSet 4 (eLc (iL (iR1 (aCons (frzE (eCall 2 m_law_pick (aCons (eV 0) (aCons (eC (.int 5)) aNil)))) aNil))) (gN 5) tyYes (frzE (eCall 2 self (aCons (eV 0) (aCons (e2 subG (eV 1) (eC (.int 1))) aNil)))) [5]))
    (sRet (eIf (bT (e2 eqG (eV 3) (eC (.int 5)))) (eV 4) (eB tupleG (aCons (eV 4) aNil))))))))
def m_law_any_value : Nat → FnD
  | 0 => fun _ _ => .bad
  | n + 1 => mkF 2 4 (b_law_any_value (m_law_any_value n))

def b_law_variant (self : FnD) : SV := (sSeq (sSet 3 (eB listG (aCons (eV 1) aNil)))
    (sSeq (sIf (bT (e2 eqG (eV 3) (eLst aNil))) (sRet (eTup (aCons (frzE (eCall 2 (m_law_any_value 5) (aCons (eV 0) (aCons (eC (.int 1)) aNil)))) aNil))) sNext)
    (sSeq (sPar 4 5 (aCons (frzE (eCall 2 m_law_pick (aCons (eV 0) (aCons (eB lenG (aCons (eV 3) aNil)) aNil)))) (aCons (frzE (eCall 2 m_law_pick (aCons (eV 0) (aCons (eC (.int 9)) aNil)))) aNil)))
    (sSeq (sSet 6 (e2 ixD (eV 3) (frzE (eV 4))))
    (sSeq (sIf (tyAnd (bT (eIsi "tuple" (eV 6))) (tyAnd (bT (e2 gtG (eV 2) (eC (.int 0)))) (bT (e2 gtG (eV 5) (eC (.int 2)))))) (sRet (e2 addG (e2 addG (eB tupleG (aCons (eSl (eV 3) oNone (oSome (eV 4))) aNil)) (eTup (aCons (frzE (eCall 3 self (aCons (eV 0) (aCons (frzE (eV 6)) (aCons (e2 subG (eV 2) (eC (.int 1))) aNil))))) aNil))) (eB tupleG (aCons (eSl (eV 3) (oSome (e2 addG (eV 4) (eC (.int 1)))) oNone) aNil)))) sNext)
    (sSeq (sIf (bT (e2 eqG (eV 5) (eC (.int 0)))) (sRet (eB tupleG (aCons (e2 addG (eSl (eV 3) oNone (oSome (eV 4))) (eSl (eV 3) (oSome (e2 addG (eV 4) (eC (.int 1)))) oNone)) aNil))) sNext)
    (sSeq (sIf (bT (e2 eqG (eV 5) (eC (.int 1)))) (sRet (eB tupleG (aCons (e2 addG (eSl (eV 3) oNone (oSome (e2 addG (eV 4) (eC (.int 1))))) (eSl (eV 3) (oSome (eV 4)) oNone)) aNil))) sNext)
    (sSeq (sIf (bT (e2 eqG (eV 5) (eC (.int 2)))) (sRet (eB tupleG (aCons (e2 addG (e2 addG (eSl (eV 3) oNone (oSome (eV 4))) (e1 revG (eSl (eV 3) (oSome (eV 4)) (oSome (e2 addG (eV 4) (eC (.int 2))))))) (eSl (eV 3) (oSome (e2 addG (eV 4) (eC (.int 2)))) oNone)) aNil))) sNext)
    (sSeq (sIf (bT (e2 eqG (eV 5) (eC (.int 3)))) (sRet (eV 3)) sNext)
    (sSeq (sIf (bT (e2 ltG (eV 5) (eC (.int 6)))) (sSetIx 3 (eV 4) (frzE (eCall 2 (m_law_any_value 5) (aCons (eV 0) (aCons (eC (.int 2)) aNil))))) (sSeq (sSet 7 (eLst (aCons (eC .non) (aCons (eC (.bl true)) (aCons (eC (.bl false)) (aCons (eC (.int 0)) (aCons (eC (.int 1)) (aCons (eC (.int 2)) (aCons (eC (.int 3)) (aCons (eC (.int 4)) (aCons (eC (.str [])) (aCons (eC (.str [117])) (aCons (eC (.str [63, 46])) (aCons (eC (.str [100, 113])) (aCons (eC (.str [108, 101, 102, 116])) (aCons (eC (.str [116, 111, 112])) (aCons (eC (.str [120])) (aCons (eTup aNil) (aCons (eTup (aCons (eC (.int 1)) (aCons (eTup (aCons (eC (.str [117])) aNil)) aNil))) aNil)))))))))))))))))))
    (sSetIx 3 (eV 4) (frzE (eCall 2 m_law_chosen (aCons (eV 0) (aCons (frzE (eV 7)) aNil)))))))
    (sRet (eB tupleG (aCons (eV 3) aNil)))))))))))))
def m_law_variant : Nat → FnD
  | 0 => fun _ _ => .bad
  | n + 1 => mkF 3 5 (b_law_variant (m_law_variant n))

def b_law_whole : SV := (sRet (eAnd (eIsi "int" (eV 0)) (eAnd (eNot (eIsi "bool" (eV 0))) (e3 leG leG (eV 1) (eV 0) (eV 2)))))
def m_law_whole : FnD := mkF 3 0 b_law_whole

def b_law_onward : SV := (sSeq (sPar 2 3 (aCons (frzE (eLst (aCons (eC (.int 1)) (aCons (eC (.int 0)) (aCons (eC (.int 3)) (aCons (eC (.int 2)) aNil)))))) (aCons (frzE (eLst (aCons (eC (.int 2)) (aCons (eC (.int 3)) (aCons (eC (.int 0)) (aCons (eC (.int 1)) aNil)))))) aNil)))
    (sSeq (sPar 4 5 (aCons (frzE (eDisp (prC (eC (.str [114, 105, 115, 101])) (frzE (eLst (aCons (eC (.int 0)) (aCons (eC (.int 2)) aNil)))) (prC (eC (.str [102, 97, 108, 108])) (frzE (eLst (aCons (eC (.int 0)) (aCons (eC (.int 1)) aNil)))) prN)))) (aCons (frzE (eDisp (prC (eC (.str [114, 105, 115, 101])) (frzE (eLst (aCons (eC (.int 1)) (aCons (eC (.int 3)) aNil)))) (prC (eC (.str [102, 97, 108, 108])) (frzE (eLst (aCons (eC (.int 2)) (aCons (eC (.int 3)) aNil)))) prN)))) aNil)))
    (sSeq (sIf (bT (e2 eqG (eV 0) (eC (.str [35])))) (sRet (e1 negG (eC (.int 1)))) sNext)
    (sSeq (sIf (bT (e2 (inG false) (eV 0) (eLst (aCons (eC (.str [117])) (aCons (eC (.str [112])) (aCons (eC (.str [113])) aNil)))))) (sSeq (sSet 6 (eOr (e2 eqG (eV 0) (eC (.str [117]))) (e2 (inG false) (eV 1) (e2 ixD (eIf (bT (e2 eqG (eV 0) (eC (.str [112])))) (eV 4) (eV 5)) (eC (.str [114, 105, 115, 101]))))))
    (sRet (eIf (bT (eV 6)) (e2 ixD (eV 2) (eV 1)) (eV 1)))) sNext)
    (sSeq (sIf (bT (e2 (inG false) (eV 0) (eLst (aCons (eC (.str [100])) (aCons (eC (.str [118])) (aCons (eC (.str [119])) aNil)))))) (sSeq (sSet 6 (eOr (e2 eqG (eV 0) (eC (.str [100]))) (e2 (inG false) (eV 1) (e2 ixD (eIf (bT (e2 eqG (eV 0) (eC (.str [118])))) (eV 4) (eV 5)) (eC (.str [102, 97, 108, 108]))))))
    (sRet (eIf (bT (eV 6)) (e2 ixD (eV 3) (eV 1)) (eV 1)))) sNext)
    (sRet (eV 1)))))))
def m_law_onward : FnD := mkF 2 5 b_law_onward

def b_law_walk : SV := (sSeq (sAsg (eV 0) (gT 2 (gsC (gN 2) (gsC (gN 3) gsN))))
    (sSeq (sAsg (eV 1) (gT 2 (gsC (gN 4) (gsC (gN 5) gsN))))
    (sSeq (sSet 6 (eB lenG (aCons (eV 3) aNil)))
    (sSeq (sAsg (eGet2 (eDisp (prC (eC (.str [108, 101, 102, 116])) (eTup (aCons (frzE (eV 5)) (aCons (eC (.int 0)) (aCons (eC (.int 2)) aNil)))) (prC (eC (.str [114, 105, 103, 104, 116])) (eTup (aCons (frzE (eV 5)) (aCons (e2 subG (eV 6) (eC (.int 1))) (aCons (eC (.int 1)) aNil)))) (prC (eC (.str [116, 111, 112])) (eTup (aCons (eC (.int 0)) (aCons (frzE (eV 5)) (aCons (eC (.int 0)) aNil)))) prN)))) (frzE (eV 4)) (eTup (aCons (eC (.int 0)) (aCons (eC (.int 0)) (aCons (eC (.int 0)) aNil))))) (gT 3 (gsC (gN 7) (gsC (gN 8) (gsC (gN 9) gsN)))))
    (sSeq (sIf (bT (e2 eqG (eV 4) (eC (.str [98, 111, 116, 116, 111, 109])))) (sPar3 7 8 9 (aCons (e2 subG (eV 2) (eC (.int 1))) (aCons (frzE (eV 5)) (aCons (eC (.int 3)) aNil)))) sNext)
    (sSeq (sSet 10 (eLst aNil))
    (sSeq (sFor (iR1 (aCons (e2 addG (e2 mulG (e2 mulG (eC (.int 4)) (eV 2)) (eV 6)) (eC (.int 1))) aNil)) (gN 11) (sSeq (sIf (tyOr (bT (e2 ltG (eV 8) (eC (.int 0)))) (bT (e2 geG (eV 8) (eV 6)))) (sRet (eTup (aCons (eTup (aCons (eIf (bT (e2 ltG (eV 8) (eC (.int 0)))) (eC (.str [108, 101, 102, 116])) (eC (.str [114, 105, 103, 104, 116]))) (aCons (frzE (eV 7)) aNil))) (aCons (frzE (eV 10)) aNil)))) sNext)
    (sSeq (sIf (tyOr (bT (e2 ltG (eV 7) (eC (.int 0)))) (bT (e2 geG (eV 7) (eV 2)))) (sRet (eTup (aCons (eTup (aCons (eIf (bT (e2 ltG (eV 7) (eC (.int 0)))) (eC (.str [116, 111, 112])) (eC (.str [98, 111, 116, 116, 111, 109]))) (aCons (frzE (eV 8)) aNil))) (aCons (frzE (eV 10)) aNil)))) sNext)
    (sSeq (sIf (bT (e2 (inG false) (eTup (aCons (frzE (eV 7)) (aCons (frzE (eV 8)) (aCons (frzE (eV 9)) aNil)))) (eV 10))) (sRet (eTup (aCons (eTup (aCons (eC (.str [99, 97, 117, 103, 104, 116])) (aCons (eC (.int 0)) aNil))) (aCons (frzE (eV 10)) aNil)))) sNext)
    (sSeq (sApp 10 (eTup (aCons (frzE (eV 7)) (aCons (frzE (eV 8)) (aCons (frzE (eV 9)) aNil)))))
    (sSeq (sSet 9 (eCall 2 m_law_onward (aCons (e2 ixD (e2 ixD (eV 3) (frzE (eV 8))) (frzE (eV 7))) (aCons (frzE (eV 9)) aNil))))
    (sSeq (sIf (bT (e2 eqG (eV 9) (e1 negG (eC (.int 1))))) (sRet (eTup (aCons (eTup (aCons (eC (.str [115, 116, 111, 112, 112, 101, 100])) (aCons (eC (.int 0)) aNil))) (aCons (frzE (eV 10)) aNil)))) sNext)
    (sPar 7 8 (aCons (frzE (e2 addG (eV 7) (e2 ixD (eLst (aCons (eC (.int 1)) (aCons (eC (.int 0)) (aCons (eC (.int 0)) (aCons (e1 negG (eC (.int 1))) aNil))))) (frzE (eV 9))))) (aCons (frzE (e2 addG (eV 8) (e2 ixD (eLst (aCons (eC (.int 0)) (aCons (e1 negG (eC (.int 1))) (aCons (eC (.int 1)) (aCons (eC (.int 0)) aNil))))) (frzE (eV 9))))) aNil))))))))))
    (sRet (eTup (aCons (eTup (aCons (eC (.str [99, 97, 117, 103, 104, 116])) (aCons (eC (.int 0)) aNil))) (aCons (frzE (eV 10)) aNil)))))))))))
def m_law_walk : FnD := mkF 2 10 b_law_walk

def b_law_plain : SV := (sRet (eIf (bT (e2 (inG false) (e2 ixD (eV 0) (eC (.int 0))) (eLst (aCons (eC (.str [108, 101, 102, 116])) (aCons (eC (.str [114, 105, 103, 104, 116])) aNil))))) (eV 0) (eTup (aCons (e2 ixD (eV 0) (eC (.int 0))) (aCons (eC (.int 0)) aNil)))))
def m_law_plain : FnD := mkF 1 0 b_law_plain

def b_law_table : SV := (sSeq (sSet 1 (eLst aNil))
    (sSeq (sFor (iSeq (frzE (eLst (aCons (eC (.str [108, 101, 102, 116])) (aCons (eC (.str [114, 105, 103, 104, 116])) aNil))))) (gN 2) (sApp 1 (eB tupleG (aCons (eLc (iL (iR1 (aCons (e2 ixD (eV 0) (eC (.int 0))) aNil))) (gN 3) tyYes (frzE (eCall 1 m_law_plain (aCons (e2 ixD (eCall 2 m_law_walk (aCons (eV 0) (aCons (eTup (aCons (eV 2) (aCons (eV 3) aNil))) aNil))) (eC (.int 0))) aNil))) [3]) aNil))))
    (sRet (eTup (aCons (e2 ixD (eV 1) (eC (.int 0))) (aCons (e2 ixD (eV 1) (eC (.int 1))) aNil))))))
def m_law_table : FnD := mkF 1 3 b_law_table

def b_law_signs : SV := (sRet (eLst (aCons (eC (.str [35])) (aCons (eC (.str [46])) (aCons (eC (.str [100])) (aCons (eC (.str [112])) (aCons (eC (.str [113])) (aCons (eC (.str [117])) (aCons (eC (.str [118])) (aCons (eC (.str [119])) aNil))))))))))
def m_law_signs : FnD := mkF 0 0 b_law_signs

def b_law_column : SV := (sSeq (sSet 2 (eLst (aCons (eC (.str [46])) (aCons (eC (.str [46])) (aCons (eC (.str [100])) (aCons (eC (.str [112])) (aCons (eC (.str [113])) (aCons (eC (.str [117])) (aCons (eC (.str [118])) (aCons (eC (.str [119])) (aCons (eC (.str [35])) aNil)))))))))))
    (sRet (eMS joinG (eC (.str [])) (eLc (iL (iR1 (aCons (eV 1) aNil))) (gN 3) tyYes (frzE (eCall 2 m_law_chosen (aCons (eV 0) (aCons (frzE (eSl (eV 2) oNone (oSome (e2 subG (eB lenG (aCons (eV 2) aNil)) (eCall 2 m_law_pick (aCons (eV 0) (aCons (eC (.int 2)) aNil))))))) aNil)))) [3]))))
def m_law_column : FnD := mkF 2 2 b_law_column

def b_law_strip : SV := (sRet (eTup (aCons (eV 1) (aCons (eB tupleG (aCons (eLc (iL (iR1 (aCons (frzE (eCall 2 m_law_pick (aCons (eV 0) (aCons (e2 addG (eV 2) (eC (.int 1))) aNil)))) aNil))) (gN 3) tyYes (frzE (eCall 2 m_law_column (aCons (eV 0) (aCons (eV 1) aNil)))) [3]) aNil)) aNil))))
def m_law_strip : FnD := mkF 3 1 b_law_strip

def b_law_good_strip : SV := (sSeq (sIf (tyOr (tyNot (bT (eCall 3 m_law_wide (aCons (eV 0) (aCons (eC (.int 2)) (aCons (eC (.int 2)) aNil)))))) (tyOr (tyNot (bT (eCall 3 m_law_whole (aCons (e2 ixD (eV 0) (eC (.int 0))) (aCons (eC (.int 1)) (aCons (eV 1) aNil)))))) (tyNot (bT (eCall 3 m_law_wide (aCons (e2 ixD (eV 0) (eC (.int 1))) (aCons (eC (.int 0)) (aCons (eV 2) aNil)))))))) (sRet (eC (.bl false))) sNext)
    (sSeq (sFor (iSeq (frzE (e2 ixD (eV 0) (eC (.int 1))))) (gN 4) (sSeq (sIf (tyOr (tyNot (bT (eIsi "str" (eV 4)))) (bT (e2 neG (eB lenG (aCons (eV 4) aNil)) (e2 ixD (eV 0) (eC (.int 0)))))) (sRet (eC (.bl false))) sNext)
    (sIf (bT (e2 neG (eLc (iSeq (frzE (eV 4))) (gN 5) (bT (e2 (inG true) (eV 5) (eV 3))) (eV 5) [5]) (eLst aNil))) (sRet (eC (.bl false))) sNext)))
    (sRet (eC (.bl true)))))
def m_law_good_strip : FnD := mkF 4 2 b_law_good_strip

def b_law_good_pattern : SV := (sSeq (sIf (tyNot (bT (eCall 4 m_law_good_strip (aCons (eV 0) (aCons (eC (.int 2)) (aCons (eC (.int 12)) (aCons (frzE (e2 addG (eCall0 m_law_signs) (eLst (aCons (eC (.str [63])) aNil)))) aNil))))))) (sRet (eC (.bl false))) sNext)
    (sRet (e2 (inG false) (eB lenG (aCons (eLc (iSeq (frzE (eMS joinG (eC (.str [])) (e2 ixD (eV 0) (eC (.int 1)))))) (gN 1) (bT (e2 eqG (eV 1) (eC (.str [63])))) (eV 1) [1]) aNil)) (eLst (aCons (eC (.int 1)) (aCons (eC (.int 2)) (aCons (eC (.int 3)) aNil)))))))
def m_law_good_pattern : FnD := mkF 1 1 b_law_good_pattern

def b_law_good_end : SV := (sSeq (sIf (tyOr (tyNot (bT (eCall 3 m_law_wide (aCons (eV 0) (aCons (eC (.int 2)) (aCons (eC (.int 2)) aNil)))))) (tyNot (bT (eIsi "str" (e2 ixD (eV 0) (eC (.int 0))))))) (sRet (eC (.bl false))) sNext)
    (sSeq (sIf (bT (e2 (inG false) (e2 ixD (eV 0) (eC (.int 0))) (eLst (aCons (eC (.str [108, 101, 102, 116])) (aCons (eC (.str [114, 105, 103, 104, 116])) aNil))))) (sRet (eCall 3 m_law_whole (aCons (e2 ixD (eV 0) (eC (.int 1))) (aCons (eC (.int 0)) (aCons (e2 subG (eV 1) (eC (.int 1))) aNil))))) sNext)
    (sRet (eAnd (e2 (inG false) (e2 ixD (eV 0) (eC (.int 0))) (eLst (aCons (eC (.str [98, 111, 116, 116, 111, 109])) (aCons (eC (.str [99, 97, 117, 103, 104, 116])) (aCons (eC (.str [115, 116, 111, 112, 112, 101, 100])) (aCons (eC (.str [116, 111, 112])) aNil)))))) (eCall 3 m_law_whole (aCons (e2 ixD (eV 0) (eC (.int 1))) (aCons (eC (.int 0)) (aCons (eC (.int 0)) aNil))))))))
def m_law_good_end : FnD := mkF 2 0 b_law_good_end

def b_law_good_table : SV := (sSeq (sIf (tyOr (tyNot (bT (eCall 3 m_law_wide (aCons (eV 0) (aCons (eC (.int 2)) (aCons (eC (.int 2)) aNil)))))) (tyOr (tyNot (bT (eCall 3 m_law_wide (aCons (e2 ixD (eV 0) (eC (.int 0))) (aCons (eC (.int 1)) (aCons (eC (.int 3)) aNil)))))) (tyNot (bT (eCall 3 m_law_wide (aCons (e2 ixD (eV 0) (eC (.int 1))) (aCons (eC (.int 1)) (aCons (eC (.int 3)) aNil)))))))) (sRet (eC (.bl false))) sNext)
    (sSeq (sIf (bT (e2 neG (eB lenG (aCons (e2 ixD (eV 0) (eC (.int 0))) aNil)) (eB lenG (aCons (e2 ixD (eV 0) (eC (.int 1))) aNil)))) (sRet (eC (.bl false))) sNext)
    (sRet (e2 eqG (eLc (iSeq (frzE (e2 addG (e2 ixD (eV 0) (eC (.int 0))) (e2 ixD (eV 0) (eC (.int 1)))))) (gN 1) (tyNot (bT (eCall 2 m_law_good_end (aCons (eV 1) (aCons (eB lenG (aCons (e2 ixD (eV 0) (eC (.int 0))) aNil)) aNil))))) (eV 1) [1]) (eLst aNil)))))
def m_law_good_table : FnD := mkF 1 1 b_law_good_table

def b_law_told_right : SV := (sSeq (sIf (tyNot (bT (eCall 2 m_law_is_bool (aCons (frzE (eCall 1 m_is_strip (aCons (eV 0) aNil))) (aCons (frzE (eCall 4 m_law_good_strip (aCons (eV 0) (aCons (eC (.int 3)) (aCons (eC (.int 40)) (aCons (frzE (eCall0 m_law_signs)) aNil)))))) aNil))))) (sRet (eC (.bl false))) sNext)
    (sSeq (sIf (tyNot (bT (eCall 2 m_law_is_bool (aCons (frzE (eCall 1 m_is_pattern (aCons (eV 0) aNil))) (aCons (frzE (eCall 1 m_law_good_pattern (aCons (eV 0) aNil))) aNil))))) (sRet (eC (.bl false))) sNext)
    (sRet (eCall 2 m_law_is_bool (aCons (frzE (eCall 1 m_is_table (aCons (eV 0) aNil))) (aCons (frzE (eCall 1 m_law_good_table (aCons (eV 0) aNil))) aNil))))))
def m_law_told_right : FnD := mkF 1 0 b_law_told_right

def b_law : SV := (sSeq (sFor (iR1 (aCons (eB max2G (aCons (eC (.int 6)) (aCons (eB min2G (aCons (eC (.int 20)) (aCons (eB lenG (aCons (eV 0) aNil)) aNil))) aNil))) aNil)) (gN 1) (sSeq (sSet 2 (eCall 2 m_law_source (aCons (eV 0) (aCons (eV 1) aNil))))
    (sSeq (sSet 3 (eCall 3 m_law_strip (aCons (eV 2) (aCons (e2 addG (eC (.int 1)) (eCall 2 m_law_pick (aCons (eV 2) (aCons (eC (.int 3)) aNil)))) (aCons (eC (.int 8)) aNil)))))
    (sSeq (sSet 4 (eCall 1 m_law_table (aCons (frzE (eV 3)) aNil)))
    (sSeq (sSet 5 (eTup (aCons (eC (.int 2)) (aCons (eTup (aCons (frzE (eCall 2 m_law_column (aCons (eV 2) (aCons (eC (.int 2)) aNil)))) (aCons (e2 addG (eC (.str [63])) (eCall 2 m_law_chosen (aCons (eV 2) (aCons (frzE (eLst (aCons (eC (.str [46])) (aCons (eC (.str [63])) (aCons (eC (.str [120])) aNil))))) aNil)))) (aCons (eC (.str [112, 63])) aNil)))) aNil))))
    (sSeq (sSet 6 (eLst (aCons (frzE (eV 3)) (aCons (frzE (eV 4)) (aCons (frzE (eV 5)) (aCons (frzE (eB listG (aCons (eV 3) aNil))) (aCons (frzE (eB listG (aCons (eV 4) aNil))) (aCons (eTup (aCons (e2 ixD (eV 3) (eC (.int 0))) (aCons (frzE (eB listG (aCons (e2 ixD (eV 3) (eC (.int 1))) aNil))) aNil))) (aCons (e2 ixD (eV 4) (eC (.int 0))) (aCons (e2 ixD (eV 3) (eC (.int 1))) aNil))))))))))
    (sSeq (sFor (iR1 (aCons (eC (.int 30)) aNil)) (gN 7) (sSeq (sSet 8 (eCall 3 (m_law_variant 6) (aCons (eV 2) (aCons (frzE (eCall 2 m_law_chosen (aCons (eV 2) (aCons (frzE (eLst (aCons (frzE (eV 3)) (aCons (frzE (eV 4)) (aCons (frzE (eV 5)) aNil))))) aNil)))) (aCons (eC (.int 4)) aNil)))))
    (sSeq (sApp 6 (frzE (eV 8)))
    (sIf (tyAnd (bT (eIsi "tuple" (eV 8))) (bT (e2 eqG (eCall 2 m_law_pick (aCons (eV 2) (aCons (eC (.int 3)) aNil))) (eC (.int 0))))) (sApp 6 (frzE (eCall 3 (m_law_variant 6) (aCons (eV 2) (aCons (frzE (eV 8)) (aCons (eC (.int 4)) aNil)))))) sNext))))
    (sFor (iSeq (frzE (e2 addG (eV 6) (eLst (aCons (frzE (eCall 2 (m_law_any_value 5) (aCons (eV 2) (aCons (eC (.int 3)) aNil)))) aNil))))) (gN 9) (sIf (tyNot (bT (eCall 1 m_law_told_right (aCons (frzE (eV 9)) aNil)))) (sRet (eC (.bl false))) sNext)))))))))
    (sSeq (sSet 4 (eLst (aCons (eTup (aCons (eC (.int 1)) (aCons (e2 mulG (eTup (aCons (eC (.str [117])) aNil)) (eC (.int 40))) aNil))) (aCons (eTup (aCons (eC (.int 1)) (aCons (e2 mulG (eTup (aCons (eC (.str [117])) aNil)) (eC (.int 41))) aNil))) (aCons (eTup (aCons (eC (.int 3)) (aCons (eTup (aCons (eC (.str [117, 46, 100])) aNil)) aNil))) (aCons (eTup (aCons (eC (.int 4)) (aCons (eTup (aCons (eC (.str [117, 46, 100, 46])) aNil)) aNil))) (aCons (eTup (aCons (eC (.int 0)) (aCons (eTup aNil) aNil))) (aCons (eTup (aCons (eC (.bl true)) (aCons (eTup (aCons (eC (.str [117])) aNil)) aNil))) (aCons (eTup (aCons (eC (.int 1)) (aCons (eTup aNil) aNil))) aNil)))))))))
    (sSeq (sSet 4 (e2 addG (eV 4) (eLst (aCons (eTup (aCons (eC (.int 1)) (aCons (e2 mulG (eTup (aCons (eC (.str [63])) aNil)) (eC (.int 3))) aNil))) (aCons (eTup (aCons (eC (.int 1)) (aCons (e2 mulG (eTup (aCons (eC (.str [63])) aNil)) (eC (.int 4))) aNil))) (aCons (eTup (aCons (eC (.int 1)) (aCons (e2 addG (eTup (aCons (eC (.str [63])) aNil)) (e2 mulG (eTup (aCons (eC (.str [46])) aNil)) (eC (.int 11)))) aNil))) (aCons (eTup (aCons (eC (.int 1)) (aCons (e2 addG (eTup (aCons (eC (.str [63])) aNil)) (e2 mulG (eTup (aCons (eC (.str [46])) aNil)) (eC (.int 12)))) aNil))) aNil)))))))
    (sSeq (sSet 4 (e2 addG (eV 4) (eLst (aCons (eTup (aCons (eC (.int 3)) (aCons (eTup (aCons (eC (.str [63, 46, 46])) aNil)) aNil))) (aCons (eTup (aCons (eC (.int 2)) (aCons (eTup (aCons (eC (.str [63])) aNil)) aNil))) (aCons (eTup (aCons (eC (.int 1)) (aCons (eTup (aCons (eC (.str [85])) aNil)) aNil))) (aCons (eTup (aCons (eC (.int 1)) (aCons (eTup (aCons (eC (.str [])) aNil)) aNil))) (aCons (eTup (aCons (eTup (aCons (eTup (aCons (eC (.str [116, 111, 112])) (aCons (eC (.int 0)) aNil))) aNil)) (aCons (eTup (aCons (eTup (aCons (eC (.str [116, 111, 112])) (aCons (eC (.int 1)) aNil))) aNil)) aNil))) aNil))))))))
    (sSeq (sSet 10 (eTup (aCons (eC (.str [114, 105, 103, 104, 116])) (aCons (eC (.int 0)) aNil))))
    (sSeq (sSet 4 (e2 addG (eV 4) (eLst (aCons (eTup (aCons (eTup (aCons (frzE (eV 10)) aNil)) (aCons (eTup (aCons (frzE (eV 10)) aNil)) aNil))) (aCons (eTup (aCons (eTup (aCons (frzE (eV 10)) (aCons (frzE (eV 10)) aNil))) (aCons (eTup (aCons (frzE (eV 10)) aNil)) aNil))) (aCons (eTup (aCons (eTup (aCons (eTup (aCons (eC (.str [114, 105, 103, 104, 116])) (aCons (eC (.int 1)) aNil))) aNil)) (aCons (eTup (aCons (frzE (eV 10)) aNil)) aNil))) (aCons (eTup (aCons (e2 mulG (eTup (aCons (frzE (eV 10)) aNil)) (eC (.int 4))) (aCons (e2 mulG (eTup (aCons (frzE (eV 10)) aNil)) (eC (.int 4))) aNil))) aNil)))))))
    (sSeq (sApp 4 (eTup (aCons (eTup (aCons (eTup (aCons (eC (.str [99, 97, 117, 103, 104, 116])) (aCons (eC (.int 0)) aNil))) (aCons (eTup (aCons (eC (.str [114, 105, 103, 104, 116])) (aCons (eC (.int 1)) aNil))) aNil))) (aCons (eTup (aCons (eTup (aCons (eC (.str [99, 97, 117, 103, 104, 116])) (aCons (eC (.int 1)) aNil))) (aCons (eTup (aCons (eC (.str [108, 101, 102, 116])) (aCons (eC (.int 1)) aNil))) aNil))) aNil))))
    (sRet (e2 eqG (eLc (iSeq (frzE (eV 4))) (gN 9) (tyNot (bT (eCall 1 m_law_told_right (aCons (eV 9) aNil)))) (eV 9) [9]) (eLst aNil))))))))))
def m_law : FnD := mkF 1 10 b_law

end DL
namespace DL
open PySem PySem.Spec PyProof.Rows L2
local macro_rules | `(tactic| walk_at "ev") => `(tactic| simp only [isi_int_non, isi_int_bl, isi_int_int, isi_int_str, isi_int_tup, isi_int_lst, isi_bool_non, isi_bool_bl, isi_bool_int, isi_bool_str, isi_bool_tup, isi_bool_lst, isi_str_non, isi_str_bl, isi_str_int, isi_str_str, isi_str_tup, isi_str_lst, isi_tuple_non, isi_tuple_bl, isi_tuple_int, isi_tuple_str, isi_tuple_tup, isi_tuple_lst, isi_list_non, isi_list_bl, isi_list_int, isi_list_str, isi_list_tup, isi_list_lst, bind_ok, bind_exc, bind_bad, seq_nx, seq_rt, seq_bk, seq_ct, seq_exc, seq_bad, sSeq_ev, sb_ok, sb_exc, sb_bad, br_t, br_f, brK_t, brK_f, oB_some, oB_none, oS_some, oS_none, oO_some, oO_none, pkI_imm, pkI_new, pkI_at, dBl_bl, dInt_int, slotM_own, slotM_bor, mLst_lst, ifK_ev, sIf_ev, sNext_ev, sRet_ev, retK_res, retK_at, retS_own, sRetN_ev, sSet_ev, setK_imm, setK_new, sFor_ev, dropK_ev, sDrop_ev, sApp_ev, sSetIx_ev, sAsg_ev, sPar_ev, parK_ev, sPar3_ev, par3K_ev, eV_ev, vK_imm, vK_own, vK_bor, eC_ev, view_res, view_at, toD_imm, toD_new, toD_lst, toD_dct, toD_dcn, k1_ev, k2_ev, e2K_ev, e2_ev, e1_ev, notG_bl, eNot_ev, isiG_ev, eIsi_ev, eAnd_ev, eOr_ev, eifK_ev, eIf_ev, bT_ev, tyC_ev, tyaK_ev, tyoK_ev, tynK_ev, tyAnd_ev, tyOr_ev, tyNot_ev, tyYes_ev, ch3_ev, e3K_ev, e3_ev, frS_own, frzE_ev, frK_res, frK_at, aNil_ev, acE_ev, acK_ev, aCons_ev, imms_nil, imms_cons, eTup_ev, eLst_ev, views_nil, views_cons, eB_ev, cp_ret, cp_exc, cq_ret, cq_exc, coK_at, coK_res, coK_nil, eCall_ev, eCall0_ev, oNone_ev, oSome_ev, slX_ev, slK3_ev, slK2_ev, slK_ev, eSl_ev, dStr_str, msC_ev, eMS_ev, gN_ev, dTup_tup, gT_ev, gsN_ev, gsC_ev, dSq_tup, dSq_lst, dSq_str, iqK_ev, iSeq_ev, r1K_ev, iR1_ev, ilK_ev, iL_ev, lcZ_ev, lcY_ev, lcN_ev, lcB_ev, lcT_ev, lcE_ok, lcK_ev, eLc_ev, wipeE_nil, wipeE_cons, restE_nil, restE_cons, plS_non, plS_imm, plainAt_nil, plainAt_cons, forR_nx, forR_ct, forR_bk, forR_rt, forR_exc, forD_nil, forD_cons, finS_bor, finN_rt, finN_nx, finN_exc, finM_rt, finM_nx, finM_exc, mkN_ev, mkM_ev, intG_ev, addG_int, addG_str, addG_tup, addG_lst, mulG_int, eqG_ev, neG_ev, dep_non, dep_bl, dep_int, dep_str, dep_tup, dep_lst, deps_nil, deps_cons, eqv_int, eqv_str, eqv_bl, eqv_tup, eqv_lst, eqvs_nil, eqvs_nc, eqvs_cn, eqvs_cc, len_str, len_lst, len_tup, len_seq, intG1_ev, max2_ev, min2_ev, all_ev, sum_ev, list_lst, list_tup, tuple_lst, tuple_tup, neg_ev, resB_ev, inG_ev, inB_str, inB_lst, inB_tup, ixD_lst, ixD_tup, ixD_str, ixD_seq, atI_0, atI_1, atI_2, atI_3, sl_lst, sl_tup, sl_str, rev_lst, count_ev, ixN_0, ixN_1, pow1018, natAbs_0, natAbs_1, natAbs_2, natAbs_3, natAbs_4, natAbs_5, natAbs_6, natAbs_7, natAbs_8, natAbs_9, natAbs_10, natAbs_11, natAbs_12, natAbs_13, natAbs_14, natAbs_15, natAbs_16, natAbs_17, natAbs_18, natAbs_19, natAbs_20, join0_lst, join0_tup, eDisp_ev, prN_ev, prE_ev, prK2_ev, prK_ev, prC_ev, dispOk1, dispOk2, dispOk3, kEq_str, kEq_int, dLook_cons, dLook_nil, isK_str, isK_int, ixD_dct, dGet_some, dGet_none, pkDct_ev, get4_ev, get3_ev, get2_ev, getK_ev, eGet2_ev, rng_len, mul_tup, ifK, appK, setI, setX, asgK, andK, orK, bK, chK, tupK, lstK, bifK, caK, osK, msK, dispK, Nat.reducePow, List.map_cons, List.map_nil, List.cons_append, List.nil_append, List.append_nil, List.length_cons, List.length_nil, List.replicate_succ, List.replicate_zero, List.set_cons_zero, List.set_cons_succ, List.getElem?_cons_zero, List.getElem?_cons_succ, List.modify_zero_cons, List.modify_succ_cons, Slot.put, Nat.reduceAdd, Nat.reduceLeDiff, Nat.reduceEqDiff, Nat.reduceLT, Nat.reduceMul, Nat.reduceSub, Nat.zero_add, Nat.max_zero, Nat.zero_max, Nat.max_self, Nat.max_le, Int.reduceNeg, Int.reduceLE, Int.reduceLT, Int.reduceEq, Int.reduceNe, Int.reducePow, Int.reduceAdd, Int.reduceSub, Int.reduceMul, Int.reduceToNat, ne_eq, not_false_eq_true, not_true_eq_false, decide_true, decide_false, decide_eq_true_eq, decide_not, Bool.not_true, Bool.not_false, Bool.and_true, Bool.true_and, Bool.and_false, Bool.false_and, Bool.or_false, Bool.false_or, Bool.true_or, Bool.or_true, Bool.and_self, Bool.not_not, Bool.false_bne, Bool.true_bne, Bool.false_xor, Bool.true_xor, Bool.xor_false, and_self, and_true, true_and, false_and, and_false, or_true, true_or, false_or, or_false, reduceCtorEq, if_true, if_false, ite_true, ite_false, reduceIte, Option.getD_some, List.all_cons, List.all_nil, List.any_cons, List.any_nil, List.cons.injEq])
local macro_rules | `(tactic| walk_at "evs") => `(tactic| simp only [*, isi_int_non, isi_int_bl, isi_int_int, isi_int_str, isi_int_tup, isi_int_lst, isi_bool_non, isi_bool_bl, isi_bool_int, isi_bool_str, isi_bool_tup, isi_bool_lst, isi_str_non, isi_str_bl, isi_str_int, isi_str_str, isi_str_tup, isi_str_lst, isi_tuple_non, isi_tuple_bl, isi_tuple_int, isi_tuple_str, isi_tuple_tup, isi_tuple_lst, isi_list_non, isi_list_bl, isi_list_int, isi_list_str, isi_list_tup, isi_list_lst, bind_ok, bind_exc, bind_bad, seq_nx, seq_rt, seq_bk, seq_ct, seq_exc, seq_bad, sSeq_ev, sb_ok, sb_exc, sb_bad, br_t, br_f, brK_t, brK_f, oB_some, oB_none, oS_some, oS_none, oO_some, oO_none, pkI_imm, pkI_new, pkI_at, dBl_bl, dInt_int, slotM_own, slotM_bor, mLst_lst, ifK_ev, sIf_ev, sNext_ev, sRet_ev, retK_res, retK_at, retS_own, sRetN_ev, sSet_ev, setK_imm, setK_new, sFor_ev, dropK_ev, sDrop_ev, sApp_ev, sSetIx_ev, sAsg_ev, sPar_ev, parK_ev, sPar3_ev, par3K_ev, eV_ev, vK_imm, vK_own, vK_bor, eC_ev, view_res, view_at, toD_imm, toD_new, toD_lst, toD_dct, toD_dcn, k1_ev, k2_ev, e2K_ev, e2_ev, e1_ev, notG_bl, eNot_ev, isiG_ev, eIsi_ev, eAnd_ev, eOr_ev, eifK_ev, eIf_ev, bT_ev, tyC_ev, tyaK_ev, tyoK_ev, tynK_ev, tyAnd_ev, tyOr_ev, tyNot_ev, tyYes_ev, ch3_ev, e3K_ev, e3_ev, frS_own, frzE_ev, frK_res, frK_at, aNil_ev, acE_ev, acK_ev, aCons_ev, imms_nil, imms_cons, eTup_ev, eLst_ev, views_nil, views_cons, eB_ev, cp_ret, cp_exc, cq_ret, cq_exc, coK_at, coK_res, coK_nil, eCall_ev, eCall0_ev, oNone_ev, oSome_ev, slX_ev, slK3_ev, slK2_ev, slK_ev, eSl_ev, dStr_str, msC_ev, eMS_ev, gN_ev, dTup_tup, gT_ev, gsN_ev, gsC_ev, dSq_tup, dSq_lst, dSq_str, iqK_ev, iSeq_ev, r1K_ev, iR1_ev, ilK_ev, iL_ev, lcZ_ev, lcY_ev, lcN_ev, lcB_ev, lcT_ev, lcE_ok, lcK_ev, eLc_ev, wipeE_nil, wipeE_cons, restE_nil, restE_cons, plS_non, plS_imm, plainAt_nil, plainAt_cons, forR_nx, forR_ct, forR_bk, forR_rt, forR_exc, forD_nil, forD_cons, finS_bor, finN_rt, finN_nx, finN_exc, finM_rt, finM_nx, finM_exc, mkN_ev, mkM_ev, intG_ev, addG_int, addG_str, addG_tup, addG_lst, mulG_int, eqG_ev, neG_ev, dep_non, dep_bl, dep_int, dep_str, dep_tup, dep_lst, deps_nil, deps_cons, eqv_int, eqv_str, eqv_bl, eqv_tup, eqv_lst, eqvs_nil, eqvs_nc, eqvs_cn, eqvs_cc, len_str, len_lst, len_tup, len_seq, intG1_ev, max2_ev, min2_ev, all_ev, sum_ev, list_lst, list_tup, tuple_lst, tuple_tup, neg_ev, resB_ev, inG_ev, inB_str, inB_lst, inB_tup, ixD_lst, ixD_tup, ixD_str, ixD_seq, atI_0, atI_1, atI_2, atI_3, sl_lst, sl_tup, sl_str, rev_lst, count_ev, ixN_0, ixN_1, pow1018, natAbs_0, natAbs_1, natAbs_2, natAbs_3, natAbs_4, natAbs_5, natAbs_6, natAbs_7, natAbs_8, natAbs_9, natAbs_10, natAbs_11, natAbs_12, natAbs_13, natAbs_14, natAbs_15, natAbs_16, natAbs_17, natAbs_18, natAbs_19, natAbs_20, join0_lst, join0_tup, eDisp_ev, prN_ev, prE_ev, prK2_ev, prK_ev, prC_ev, dispOk1, dispOk2, dispOk3, kEq_str, kEq_int, dLook_cons, dLook_nil, isK_str, isK_int, ixD_dct, dGet_some, dGet_none, pkDct_ev, get4_ev, get3_ev, get2_ev, getK_ev, eGet2_ev, rng_len, mul_tup, ifK, appK, setI, setX, asgK, andK, orK, bK, chK, tupK, lstK, bifK, caK, osK, msK, dispK, Nat.reducePow, List.map_cons, List.map_nil, List.cons_append, List.nil_append, List.append_nil, List.length_cons, List.length_nil, List.replicate_succ, List.replicate_zero, List.set_cons_zero, List.set_cons_succ, List.getElem?_cons_zero, List.getElem?_cons_succ, List.modify_zero_cons, List.modify_succ_cons, Slot.put, Nat.reduceAdd, Nat.reduceLeDiff, Nat.reduceEqDiff, Nat.reduceLT, Nat.reduceMul, Nat.reduceSub, Nat.zero_add, Nat.max_zero, Nat.zero_max, Nat.max_self, Nat.max_le, Int.reduceNeg, Int.reduceLE, Int.reduceLT, Int.reduceEq, Int.reduceNe, Int.reducePow, Int.reduceAdd, Int.reduceSub, Int.reduceMul, Int.reduceToNat, ne_eq, not_false_eq_true, not_true_eq_false, decide_true, decide_false, decide_eq_true_eq, decide_not, Bool.not_true, Bool.not_false, Bool.and_true, Bool.true_and, Bool.and_false, Bool.false_and, Bool.or_false, Bool.false_or, Bool.true_or, Bool.or_true, Bool.and_self, Bool.not_not, Bool.false_bne, Bool.true_bne, Bool.false_xor, Bool.true_xor, Bool.xor_false, and_self, and_true, true_and, false_and, and_false, or_true, true_or, false_or, or_false, reduceCtorEq, if_true, if_false, ite_true, ite_false, reduceIte, Option.getD_some, List.all_cons, List.all_nil, List.any_cons, List.any_nil, List.cons.injEq])

/-- a source of draws -/
def Src (m : M) : Prop := ∃ a b : Int, m = .lst [.int a, .int b] ∧ 0 ≤ b ∧ b < 1099511627776
theorem pick_ok {m : M} (h : Src m) {n : Int} (h1 : 1 ≤ n) (h2 : n ≤ 100000) : ∃ r m', m_law_pick (some m) [.int n] = .ret (.imm (.int r)) (some m') ∧ Src m' ∧ 0 ≤ r ∧ r < n := by
  obtain ⟨a, b, rfl, hb, hb2⟩ := h
  unfold m_law_pick b_law_pick
  have hn0 : n ≠ 0 := by omega
  have hnA : n.natAbs < 1073741824 := by omega
  have hr : ∀ x : Int, 0 ≤ x.fmod n ∧ x.fmod n < n := fun x => fmod_rng x (by omega)
  cases ha : decide (0 < a) with
  | true =>
    simp only [decide_eq_true_eq] at ha
    walk_at "evs"
    exact ⟨_, _, rfl, ⟨_, _, rfl, hb, hb2⟩, (hr _).1, (hr _).2⟩
  | false =>
    have ha : ¬ 0 < a := by simpa using ha
    have hx := fmod_rng (b * 44497 + 9973) (n := 2147483647) (by omega)
    generalize hg : (b * 44497 + 9973).fmod 2147483647 = x at hx
    have hx1 : -18446744073709551616 < x := by omega
    have hx2 : x < 18446744073709551616 := by omega
    have h11 : Int.natAbs 11 = 11 := rfl
    walk_at "evs"
    exact ⟨_, _, rfl, ⟨_, _, rfl, hx.1, by omega⟩, (hr _).1, (hr _).2⟩
theorem chosen_ok {m : M} (h : Src m) {d : D} {ds : List D} (hd : d = .tup ds ∨ d = .lst ds) (h1 : 1 ≤ ds.length) (h2 : ds.length ≤ 100000) : ∃ x m', m_law_chosen (some m) [d] = .ret (.imm x) (some m') ∧ Src m' ∧ x ∈ ds := by
  obtain ⟨r, m', e, hs, hr1, hr2⟩ := pick_ok h (n := ds.length) (by omega) (by omega)
  obtain ⟨x, ex, _, hx⟩ := atI_nat hr1 hr2
  unfold m_law_chosen b_law_chosen
  rcases hd with rfl | rfl
  · walk_at "ev"
    walk_at "evs"
    exact ⟨_, _, rfl, hs, hx⟩
  · walk_at "ev"
    walk_at "evs"
    exact ⟨_, _, rfl, hs, hx⟩

theorem source_ok (ns : List Int) (k : Int) (hk : 0 ≤ k) (hk2 : k < 1000) : ∃ m', m_law_source none [.seq ns, .int k] = .ret (.new m') none ∧ Src m' := by
  unfold m_law_source b_law_source
  have key : ∀ num : Int, ∃ m', finF none (((sSet 3 (e2 modG (e2 addG (e2 addG (e2 mulG (eV 2) (eC (.int 16807))) (e2 mulG (eC (.int 60919)) (eV 1))) (eC (.int 31))) (eC (.int 2147481173)))) [.imm (.seq ns), .imm (.int k), .imm (.int num), .non]).seq
    (sSeq (sSet 3 (e2 addG (e2 addG (e2 modG (e2 mulG (eV 3) (eV 3)) (eC (.int 2147481151))) (e2 mulG (eC (.int 2)) (eV 1))) (eC (.int 5))))
    (sRet (eLst (aCons (frzE (eIf (bT (e2 geG (eV 2) (e2 powG (eC (.int 10)) (eC (.int 18))))) (eV 2) (eC (.int 0)))) (aCons (frzE (eV 3)) aNil)))))) = .ret (.new m') none ∧ Src m' := fun num => by
    have hx := fmod_rng (num * 16807 + 60919 * k + 31) (n := 2147481173) (by omega)
    generalize hg : (num * 16807 + 60919 * k + 31).fmod 2147481173 = x at hx
    have hx1 : -18446744073709551616 < x := by omega
    have hx2 : x < 18446744073709551616 := by omega
    have hy := fmod_rng (x * x) (n := 2147481151) (by omega)
    cases hc : decide ((1000000000000000000 : Int) ≤ num) with
    | true =>
      simp only [decide_eq_true_eq] at hc
      walk_at "evs"
      exact ⟨_, rfl, _, _, rfl, by omega, by omega⟩
    | false =>
      have hc : ¬ (1000000000000000000 : Int) ≤ num := by simpa using hc
      walk_at "evs"
      exact ⟨_, rfl, _, _, rfl, by omega, by omega⟩
  cases hkc : decide (k < ns.length) with
  | true =>
    have hk3 : k < ns.length := by simpa using hkc
    obtain ⟨x, ex, _, _⟩ := atI_nat hk hk3
    obtain ⟨m', e, hm⟩ := key x
    refine ⟨m', ?_, hm⟩
    rw [← e]
    walk_at "evs"
  | false =>
    have hk3 : ¬ k < ns.length := by simpa using hkc
    obtain ⟨m', e, hm⟩ := key 0
    refine ⟨m', ?_, hm⟩
    rw [← e]
    walk_at "evs"

/-- plain values, no longer than L and no deeper than n -/
inductive Dat (L : Nat) : Nat → D → Prop
  | non (n : Nat) : Dat L n .non
  | bl (n : Nat) (b : Bool) : Dat L n (.bl b)
  | int (n : Nat) (i : Int) : Dat L n (.int i)
  | str (n : Nat) (cs : List Nat) (h : cs.length ≤ L) : Dat L n (.str cs)
  | tup (n : Nat) (ds : List D) (h : ds.length ≤ L) (k : ∀ d ∈ ds, Dat L n d) : Dat L (n + 1) (.tup ds)
  | lst (n : Nat) (ds : List D) (h : ds.length ≤ L) (k : ∀ d ∈ ds, Dat L n d) : Dat L (n + 1) (.lst ds)
theorem deps_le {ds : List D} {n : Nat} (h : ∀ d ∈ ds, d.dep ≤ n) : D.deps ds ≤ n := by
  induction ds with
  | nil => rw [deps_nil]; omega
  | cons d ds ih => rw [deps_cons, Nat.max_le]; exact ⟨h d (List.mem_cons_self ..), ih fun e he => h e (List.mem_cons_of_mem _ he)⟩
theorem Dat.dep_le {L n : Nat} {d : D} (h : Dat L n d) : d.dep ≤ n := by
  induction h with
  | non n => rw [dep_non]; omega
  | bl n b => rw [dep_bl]; omega
  | int n b => rw [dep_int]; omega
  | str n b => rw [dep_str]; omega
  | tup n ds h k ih => rw [dep_tup]; have := deps_le ih; omega
  | lst n ds h k ih => rw [dep_lst]; have := deps_le ih; omega
theorem Dat.mono {L n : Nat} {d : D} (h : Dat L n d) : ∀ {L' m : Nat}, L ≤ L' → n ≤ m → Dat L' m d := by
  induction h with
  | non n => exact fun _ _ => .non _
  | bl n b => exact fun _ _ => .bl _ _
  | int n b => exact fun _ _ => .int _ _
  | str n b h => exact fun _ _ => .str _ _ (by omega)
  | tup n ds h k ih =>
    intro L' m h1 h2
    obtain ⟨m', rfl⟩ : ∃ m', m = m' + 1 := ⟨m - 1, by omega⟩
    exact .tup m' ds (by omega) fun d hd => ih d hd h1 (by omega)
  | lst n ds h k ih =>
    intro L' m h1 h2
    obtain ⟨m', rfl⟩ : ∃ m', m = m' + 1 := ⟨m - 1, by omega⟩
    exact .lst m' ds (by omega) fun d hd => ih d hd h1 (by omega)
theorem Dat.deps_tup {L n : Nat} {ds : List D} (h : Dat L n (.tup ds)) : D.deps ds + 1 ≤ n := by
  have := h.dep_le
  rwa [dep_tup] at this
theorem Dat.deps_lst {L n : Nat} {ds : List D} (h : Dat L n (.lst ds)) : D.deps ds + 1 ≤ n := by
  have := h.dep_le
  rwa [dep_lst] at this
theorem Dat.inT {L n : Nat} {ds : List D} (h : Dat L n (.tup ds)) : ∀ d ∈ ds, Dat L n d := by
  cases h with
  | tup n ds h k => exact fun d hd => (k d hd).mono (Nat.le_refl _) (by omega)
theorem Dat.lenT {L n : Nat} {ds : List D} (h : Dat L n (.tup ds)) : ds.length ≤ L := by
  cases h with
  | tup n ds h k => exact h
theorem Dat.lenL {L n : Nat} {ds : List D} (h : Dat L n (.lst ds)) : ds.length ≤ L := by
  cases h with
  | lst n ds h k => exact h
theorem Dat.inL {L n : Nat} {ds : List D} (h : Dat L n (.lst ds)) : ∀ d ∈ ds, Dat L n d := by
  cases h with
  | lst n ds h k => exact fun d hd => (k d hd).mono (Nat.le_refl _) (by omega)
def rB (b : Bool) : FOut := .ret (.imm (.bl b)) none
def isInt (d : D) (a b : Int) : Bool := match d with
  | .int i => decide (a ≤ i) && decide (i ≤ b)
  | _ => false
theorem f_within {L n : Nat} {d : D} (h : Dat L n d) (a b : Int) : m_is_within none [d, .int a, .int b] = rB (isInt d a b) := by
  unfold m_is_within b_is_within
  cases h <;> walk_at "ev" <;> try rfl
  rename_i i
  cases h : decide (a ≤ i) <;> walk_at "ev" <;> simp [rB, isInt, h]
theorem f_whole {L n : Nat} {d : D} (h : Dat L n d) (a b : Int) : m_law_whole none [d, .int a, .int b] = rB (isInt d a b) := by
  unfold m_law_whole b_law_whole
  cases h <;> walk_at "ev" <;> try rfl
  rename_i i
  cases h : decide (a ≤ i) <;> walk_at "ev" <;> simp [rB, isInt, h]
def isPair (d : D) : Bool := match d with
  | .tup ds => decide (ds.length = 2)
  | _ => false
def isWide (d : D) (a b : Int) : Bool := match d with
  | .tup ds => decide (a ≤ ds.length) && decide ((ds.length : Int) ≤ b)
  | _ => false
theorem isPair_eq {d : D} : isPair d = true ↔ ∃ a b, d = .tup [a, b] := by
  constructor
  · intro h
    cases d with
    | tup ds =>
      have : ds.length = 2 := by simpa [isPair] using h
      match ds, this with
      | [a, b], _ => exact ⟨a, b, rfl⟩
    | _ => simp [isPair] at h
  · rintro ⟨a, b, rfl⟩; rfl
theorem f_pair {L n : Nat} {d : D} (h : Dat L n d) : m_is_pair none [d] = rB (isPair d) := by
  unfold m_is_pair b_is_pair
  cases h <;> walk_at "ev" <;> try rfl
  rename_i ds _ _
  have e : decide ((ds.length : Int) = 2) = decide (ds.length = 2) := decide_eq_decide.mpr (by omega)
  rw [e]; rfl
theorem f_wide {L n : Nat} {d : D} (h : Dat L n d) (a b : Int) : m_law_wide none [d, .int a, .int b] = rB (isWide d a b) := by
  unfold m_law_wide b_law_wide
  cases h <;> walk_at "ev" <;> try rfl
  rename_i ds _ _
  cases h : decide (a ≤ ds.length) <;> walk_at "ev" <;> simp [rB, isWide, h]
theorem wide22 (d : D) : isWide d 2 2 = isPair d := by
  cases d with
  | tup ds =>
    simp only [isWide, isPair]
    rw [← Bool.decide_and]
    exact decide_eq_decide.mpr (by omega)
  | _ => rfl
def isCol (d : D) (w : Int) (ss : List Nat) : Bool := match d with
  | .str s => decide ((s.length : Int) = w) && s.all fun c => decide (c ∈ ss)
  | _ => false
theorem dBools_map {α : Type} (f : α → Bool) (xs : List α) : dBools (xs.map fun x => .bl (f x)) = some (xs.map f) := by
  induction xs with
  | nil => rfl
  | cons x xs ih => show (dBools (xs.map fun x => .bl (f x))).map _ = _; rw [ih]; rfl
theorem all_id {α : Type} (f : α → Bool) (xs : List α) : (xs.map f).all id = xs.all f := by rw [List.all_map]; rfl
theorem f_column {L n : Nat} {d : D} (h : Dat L n d) (w : Int) (ss : List Nat) : m_is_column none [d, .int w, .str ss] = rB (isCol d w ss) := by
  unfold m_is_column b_is_column
  cases h <;> walk_at "ev" <;> try rfl
  rename_i s _
  cases h : decide ((s.length : Int) = w) with
  | false => walk_at "ev"; simp [rB, isCol, h]
  | true =>
    walk_at "ev"
    rw [lcD_mapS (fun ch => .str [ch]) (F := fun c => .bl (decide (c ∈ ss))) (by
      intro c hc
      rw [lcS_ev]
      walk_at "ev")]
    walk_at "ev"
    rw [dBools_map]
    walk_at "ev"
    rw [all_id]
    simp [rB, isCol, h]
def areCols (d : D) (w most : Int) (ss : List Nat) : Bool := match d with
  | .tup cs => decide ((cs.length : Int) ≤ most) && cs.all fun c => isCol c w ss
  | _ => false
theorem f_columns {L n : Nat} {d : D} (h : Dat L n d) (w most : Int) (ss : List Nat) : m_are_columns none [d, .int w, .int most, .str ss] = rB (areCols d w most ss) := by
  unfold m_are_columns b_are_columns
  cases h <;> walk_at "ev" <;> try rfl
  rename_i cs hl hk
  cases h : decide (most < (cs.length : Int)) with
  | true =>
    walk_at "ev"
    simp only [decide_eq_true_eq] at h
    have h2 : decide ((cs.length : Int) ≤ most) = false := decide_eq_false (by omega)
    simp only [rB, areCols, h2, Bool.false_and]
  | false =>
    walk_at "ev"
    rw [lcD_map (F := fun d => .bl (isCol d w ss)) (by
      intro d hd
      rw [lcS_ev]
      walk_at "ev"
      rw [f_column (hk d hd) w ss]
      unfold rB
      walk_at "ev")]
    walk_at "ev"
    rw [dBools_map]
    walk_at "ev"
    rw [all_id]
    simp only [decide_eq_false_iff_not] at h
    have : (cs.length : Int) ≤ most := by omega
    simp [rB, areCols, this]
def isStrip (d : D) (wide most : Int) (ss : List Nat) : Bool := match d with
  | .tup [.int w, b] => decide (1 ≤ w) && decide (w ≤ wide) && areCols b w most ss
  | _ => false
def SS : List Nat := [35, 46, 100, 112, 113, 117, 118, 119]
theorem f_right_strip {L n : Nat} {d : D} (h : Dat L n d) : m_is_right_strip none [d] = rB (isStrip d 3 40 SS) := by
  unfold m_is_right_strip b_is_right_strip
  walk_at "ev"
  rw [f_pair h]
  cases hp : isPair d with
  | false =>
    unfold rB
    walk_at "ev"
    have : isStrip d 3 40 SS = false := by
      unfold isStrip
      split
      · simp [isPair] at hp
      · rfl
    rw [this]
  | true =>
    obtain ⟨a, b, rfl⟩ := isPair_eq.mp hp
    have ha := h.inT a (by simp)
    have hb := h.inT b (by simp)
    unfold rB
    walk_at "ev"
    rw [f_within ha]
    unfold rB
    cases hw : isInt a 1 3 with
    | false =>
      walk_at "ev"
      have : isStrip (.tup [a, b]) 3 40 SS = false := by
        unfold isStrip
        split
        · rename_i w b' e; cases e; simp [isInt] at hw ⊢; intro h1 h2; have := hw h1; omega
        · rfl
      rw [this]
    | true =>
      cases a with
      | int w =>
        walk_at "ev"
        rw [f_columns hb w]
        unfold rB
        walk_at "ev"
        have hw2 : (decide (1 ≤ w) && decide (w ≤ 3)) = true := hw
        have e : isStrip (.tup [.int w, b]) 3 40 SS = (decide (1 ≤ w) && decide (w ≤ 3) && areCols b w 40 SS) := rfl
        rw [e, hw2]
        rfl
      | _ => simp [isInt] at hw

/-! the law's own -/
def sgD (ss : List Nat) : List D := ss.map fun c => .str [c]
theorem any_sg (ss : List Nat) (c : Nat) : (List.any (sgD ss) fun z => D.eqv z (.str [c])) = decide (c ∈ ss) := by
  induction ss with
  | nil => rfl
  | cons x xs ih =>
    show (D.eqv (.str [x]) (.str [c]) || List.any (sgD xs) fun z => D.eqv z (.str [c])) = _
    rw [ih, eqv_str]
    by_cases h : c = x
    · subst h; simp
    · have : ¬ x = c := fun e => h e.symm
      simp [h, this]
theorem deps_sg (ss : List Nat) : D.deps (sgD ss) = 0 := by
  have := deps_le (ds := sgD ss) (n := 0) (by
    intro d hd
    obtain ⟨c, _, rfl⟩ := List.mem_map.mp hd
    rw [dep_str]; omega)
  omega
def fltC (s ss : List Nat) : List D := s.filterMap fun c => if c ∈ ss then none else some (.str [c])
theorem fltC_nil (s ss : List Nat) : (fltC s ss = []) ↔ (s.all fun c => decide (c ∈ ss)) = true := by
  unfold fltC
  rw [List.filterMap_eq_nil_iff, List.all_eq_true]
  constructor
  · intro h c hc
    have := h c hc
    by_cases hm : c ∈ ss
    · simpa using hm
    · simp [hm] at this
  · intro h c hc
    have := h c hc
    simp only [decide_eq_true_eq] at this
    simp [this]
theorem deps_flt (s ss : List Nat) : D.deps (fltC s ss) = 0 := by
  have := deps_le (ds := fltC s ss) (n := 0) (by
    intro d hd
    unfold fltC at hd
    obtain ⟨c, _, hc⟩ := List.mem_filterMap.mp hd
    split at hc
    · cases hc
    · cases hc; rw [dep_str]; omega)
  omega
theorem f_good_strip {L n : Nat} {d : D} (h : Dat L n d) (hn : n ≤ 50) (wide long : Int) (ss : List Nat) : m_law_good_strip none [d, .int wide, .int long, .lst (sgD ss)] = rB (isStrip d wide long ss) := by
  unfold m_law_good_strip b_law_good_strip
  walk_at "ev"
  rw [f_wide h, wide22]
  cases hp : isPair d with
  | false =>
    unfold rB
    walk_at "ev"
    have : isStrip d wide long ss = false := by
      unfold isStrip
      split
      · simp [isPair] at hp
      · rfl
    rw [this]
  | true =>
    obtain ⟨a, b, rfl⟩ := isPair_eq.mp hp
    have ha := h.inT a (by simp)
    have hb := h.inT b (by simp)
    unfold rB
    walk_at "ev"
    rw [f_whole ha]
    unfold rB
    cases hw : isInt a 1 wide with
    | false =>
      walk_at "ev"
      have : isStrip (.tup [a, b]) wide long ss = false := by
        unfold isStrip
        split
        · rename_i w b' e; cases e; simp [isInt] at hw ⊢; intro h1 h2; have := hw h1; omega
        · rfl
      rw [this]
    | true =>
      cases a with
      | int w =>
        have hw2 : (decide (1 ≤ w) && decide (w ≤ wide)) = true := hw
        have e : isStrip (.tup [.int w, b]) wide long ss = (decide (1 ≤ w) && decide (w ≤ wide) && areCols b w long ss) := rfl
        walk_at "ev"
        rw [f_wide hb]
        unfold rB
        cases hg : isWide b 0 long with
        | false =>
          walk_at "ev"
          have : areCols b w long ss = false := by
            cases b with
            | tup cs =>
              have : decide ((cs.length : Int) ≤ long) = false := by
                simp [isWide] at hg
                simp; omega
              simp only [areCols, this, Bool.false_and]
            | _ => rfl
          rw [e, this, Bool.and_false]
        | true =>
          cases b with
          | tup cs =>
            have hl : decide ((cs.length : Int) ≤ long) = true := by
              simp [isWide] at hg
              simp; omega
            walk_at "ev"
            rw [e, hw2]
            have hcs := hb.inT
            rw [Bool.true_and]
            generalize hf : forD _ _ _ _ = o
            rcases forD_el hf (fun j ρ => ∃ s4, ρ = [.imm (.tup [.int w, .tup cs]), .imm (.int wide), .imm (.int long), .imm (.lst (sgD ss)), s4, .non] ∧ ∀ i c, i < j → cs[i]? = some c → isCol c w ss = true)
              (fun o => (∃ ρ', o = .rt (.imm (.bl false)) ρ') ∧ cs.all (fun c => isCol c w ss) = false) ⟨_, rfl, fun i c hi => by omega⟩ (by
                rintro j c ρ hj ⟨s4, rfl, hI⟩
                rw [forS_ev]
                have hmem : c ∈ cs := List.mem_of_getElem? hj
                have key : isCol c w ss = false → cs.all (fun c => isCol c w ss) = false := fun hc => by
                  rw [List.all_eq_false]; exact ⟨c, hmem, by simp [hc]⟩
                have hc := hcs c hmem
                walk_at "ev"
                cases hc with
                | str _ s hs =>
                  walk_at "ev"
                  cases hw3 : decide ((s.length : Int) = w) with
                  | false =>
                    walk_at "ev"
                    exact .inr (.inl ⟨_, _, rfl, ⟨_, rfl⟩, key (by simp only [isCol, hw3, Bool.false_and])⟩)
                  | true =>
                    walk_at "ev"
                    rw [lcD_filS (fun ch => .str [ch]) (F := fun c => if c ∈ ss then none else some (.str [c])) (by
                      intro ch hch
                      rw [lcS_ev]
                      walk_at "ev"
                      rw [deps_sg, any_sg]
                      by_cases hm : ch ∈ ss
                      · rw [decide_eq_true hm, if_pos hm]
                        walk_at "ev"
                      · rw [decide_eq_false hm, if_neg hm]
                        walk_at "ev")]
                    rw [show (s.filterMap fun c => if c ∈ ss then none else some (D.str [c])) = fltC s ss from rfl]
                    walk_at "ev"
                    rw [deps_flt, eqvs_nilR]
                    walk_at "ev"
                    cases hw4 : s.all fun c => decide (c ∈ ss) with
                    | true =>
                      rw [decide_eq_true ((fltC_nil s ss).mpr hw4)]
                      walk_at "ev"
                      refine .inl ⟨_, rfl, _, rfl, fun i c' hi hc' => ?_⟩
                      by_cases hij : i = j
                      · subst hij
                        rw [hj] at hc'
                        cases hc'
                        simp only [isCol, hw3, hw4, Bool.and_self]
                      · exact hI i c' (by omega) hc'
                    | false =>
                      rw [decide_eq_false (p := fltC s ss = []) (fun e => by rw [(fltC_nil s ss).mp e] at hw4; cases hw4)]
                      walk_at "ev"
                      exact .inr (.inl ⟨_, _, rfl, ⟨_, rfl⟩, key (by simp only [isCol, hw3, hw4, Bool.and_false])⟩)
                | _ =>
                  walk_at "ev"
                  exact .inr (.inl ⟨_, _, rfl, ⟨_, rfl⟩, key rfl⟩)) with ⟨ρ', rfl, s4, rfl, hI⟩ | ⟨⟨ρ', rfl⟩, hR⟩
            · walk_at "ev"
              have : cs.all (fun c => isCol c w ss) = true := List.all_eq_true.mpr fun c hc => by
                obtain ⟨i, hi, e⟩ := List.mem_iff_getElem.mp hc
                exact hI i c hi (by rw [List.getElem?_eq_getElem hi, e])
              simp only [areCols, hl, this, Bool.and_self]
            · walk_at "ev"
              simp only [areCols, hR, Bool.and_false]
          | _ => simp [isWide] at hg
      | _ => simp [isInt] at hw

theorem isStrip_eq {d : D} {wide long : Int} {ss : List Nat} (h : isStrip d wide long ss = true) : ∃ (w : Int) (css : List (List Nat)), d = .tup [.int w, .tup (css.map .str)] ∧ 1 ≤ w ∧ w ≤ wide ∧ (css.length : Int) ≤ long ∧ (∀ s ∈ css, (s.length : Int) = w) := by
  unfold isStrip at h
  split at h
  · rename_i w b
    rw [Bool.and_eq_true, Bool.and_eq_true] at h
    obtain ⟨⟨h1, h2⟩, h3⟩ := h
    cases b with
    | tup cs =>
      have h3' : (decide ((cs.length : Int) ≤ long) && cs.all fun c => isCol c w ss) = true := h3
      rw [Bool.and_eq_true] at h3'
      obtain ⟨h4, h5⟩ := h3'
      simp only [decide_eq_true_eq] at h1 h2 h4
      have key : ∀ cs : List D, (cs.all fun c => isCol c w ss) = true → ∃ css : List (List Nat), cs = css.map .str ∧ ∀ s ∈ css, (s.length : Int) = w := by
        intro cs
        induction cs with
        | nil => exact fun _ => ⟨[], rfl, by simp⟩
        | cons c cs ih =>
          intro h
          rw [List.all_cons, Bool.and_eq_true] at h
          obtain ⟨css, rfl, hc⟩ := ih h.2
          cases c with
          | str s =>
            have h6 : (decide ((s.length : Int) = w) && s.all fun c => decide (c ∈ ss)) = true := h.1
            rw [Bool.and_eq_true] at h6
            simp only [decide_eq_true_eq] at h6
            refine ⟨s :: css, rfl, fun t ht => ?_⟩
            rcases List.mem_cons.mp ht with rfl | ht
            · exact h6.1
            · exact hc t ht
          | _ => simp [isCol] at h
      obtain ⟨css, rfl, hc⟩ := key cs h5
      exact ⟨w, css, rfl, h1, h2, by simpa using h4, hc⟩
    | _ => simp [areCols] at h3
  · cases h
theorem dStrs_map (css : List (List Nat)) : dStrs (css.map .str) = some css := by
  induction css with
  | nil => rfl
  | cons c cs ih => show (dStrs (cs.map .str)).map _ = _; rw [ih]; rfl
def cntD (d : D) : Nat := match d with
  | .tup [_, .tup cs] => ((dStrs cs).getD []).flatten.count 63
  | _ => 0
def SQ : List Nat := [35, 46, 100, 112, 113, 117, 118, 119, 63]
def isPat (d : D) : Bool := isStrip d 2 12 SQ && (decide (1 ≤ cntD d) && decide (cntD d ≤ 3))
theorem sum_small {css : List (List Nat)} {k : Nat} (h : ∀ s ∈ css, s.length ≤ k) : (css.map List.length).sum ≤ css.length * k := by
  induction css with
  | nil => simp
  | cons c cs ih =>
    have h1 := h c (List.mem_cons_self ..)
    have h2 := ih fun s hs => h s (List.mem_cons_of_mem _ hs)
    rw [List.map_cons, List.sum_cons, List.length_cons, Nat.succ_mul]
    omega
theorem f_right_pattern {L n : Nat} {d : D} (h : Dat L n d) : m_is_right_pattern none [d] = rB (isPat d) := by
  unfold m_is_right_pattern b_is_right_pattern
  walk_at "ev"
  rw [f_pair h]
  cases hp : isPair d with
  | false =>
    unfold rB
    walk_at "ev"
    have : isStrip d 2 12 SQ = false := by
      unfold isStrip
      split
      · simp [isPair] at hp
      · rfl
    unfold isPat
    rw [this, Bool.false_and]
  | true =>
    obtain ⟨a, b, rfl⟩ := isPair_eq.mp hp
    have ha := h.inT a (by simp)
    have hb := h.inT b (by simp)
    unfold rB
    walk_at "ev"
    rw [f_within ha]
    unfold rB
    cases hw : isInt a 1 2 with
    | false =>
      walk_at "ev"
      have : isStrip (.tup [a, b]) 2 12 SQ = false := by
        unfold isStrip
        split
        · rename_i w b' e; cases e; simp [isInt] at hw ⊢; intro h1 h2; have := hw h1; omega
        · rfl
      unfold isPat
      rw [this, Bool.false_and]
    | true =>
      cases a with
      | int w =>
        have hw2 : (decide (1 ≤ w) && decide (w ≤ 2)) = true := hw
        have e : isStrip (.tup [.int w, b]) 2 12 SQ = areCols b w 12 SQ := by
          have : isStrip (.tup [.int w, b]) 2 12 SQ = (decide (1 ≤ w) && decide (w ≤ 2) && areCols b w 12 SQ) := rfl
          rw [this, hw2, Bool.true_and]
        have hsz : (1 : Nat) ≤ sizeLine := by decide
        have hsz : (9 : Nat) ≤ sizeLine := by decide
        walk_at "evs"
        rw [f_columns hb w]
        unfold rB isPat
        rw [e]
        show _ = FOut.ret (.imm (.bl (areCols b w 12 SQ && _))) none
        show finF none ((((((FOut.ret (.imm (.bl (areCols b w 12 SQ))) none).cp _).bind _).bind _).sb _).seq _) = _
        cases hc : areCols b w 12 SQ with
        | false => walk_at "ev"
        | true =>
          obtain ⟨w', css, e', h1, h2, h3, h4⟩ := isStrip_eq (e.trans hc)
          cases e'
          have hs := sum_small (css := css) (k := 2) (fun s hs => by have := h4 s hs; omega)
          have hcnt : cntD (.tup [.int w, .tup (css.map .str)]) = css.flatten.count 63 := by
            show ((dStrs (css.map .str)).getD []).flatten.count 63 = _
            rw [dStrs_map]; rfl
          have hle : (css.map List.length).sum ≤ 16777216 := by omega
          walk_at "ev"
          rw [dStrs_map]
          walk_at "ev"
          rw [hcnt]
          rw [decide_eq_true hle]
          walk_at "ev"
          generalize css.flatten.count 63 = k
          rw [show decide ((1 : Int) ≤ k) = decide (1 ≤ k) from decide_eq_decide.mpr (by omega)]
          cases decide (1 ≤ k) with
          | false => walk_at "ev"
          | true =>
            walk_at "ev"
            rw [show decide ((k : Int) ≤ 3) = decide (k ≤ 3) from decide_eq_decide.mpr (by omega)]
      | _ => simp [isInt] at hw

theorem f_signs : m_law_signs none [] = .ret (.new (.lst (sgD SS))) none := by
  unfold m_law_signs b_law_signs
  walk_at "ev"
  rfl
theorem fil_count (s : List Nat) : (s.filterMap fun c => if c = 63 then some (D.str [c]) else none).length = s.count 63 := by
  induction s with
  | nil => rfl
  | cons c s ih =>
    rw [List.filterMap_cons, List.count_cons]
    by_cases h : c = 63
    · subst h; simp [ih]
    · simp [h, ih]
theorem f_good_pattern {L n : Nat} {d : D} (h : Dat L n d) (hn : n ≤ 50) : m_law_good_pattern none [d] = rB (isPat d) := by
  unfold m_law_good_pattern b_law_good_pattern
  have hsz : (9 : Nat) ≤ sizeLine := by decide
  have hl : (sgD SS).length = 8 := rfl
  have hq : sgD SS ++ [D.str [63]] = sgD SQ := rfl
  walk_at "ev"
  rw [f_signs]
  walk_at "evs"
  rw [f_good_strip h hn]
  unfold rB isPat
  cases hc : isStrip d 2 12 SQ with
  | false => walk_at "ev"
  | true =>
    obtain ⟨w, css, rfl, h1, h2, h3, h4⟩ := isStrip_eq hc
    have hs := sum_small (css := css) (k := 2) (fun s hs => by have := h4 s hs; omega)
    have hcnt : cntD (.tup [.int w, .tup (css.map .str)]) = css.flatten.count 63 := by
      show ((dStrs (css.map .str)).getD []).flatten.count 63 = _
      rw [dStrs_map]; rfl
    have hle : (css.map List.length).sum ≤ 16777216 := by omega
    walk_at "ev"
    rw [dStrs_map]
    walk_at "ev"
    rw [hcnt, decide_eq_true hle]
    walk_at "ev"
    rw [lcD_filS (fun ch => .str [ch]) (F := fun c => if c = 63 then some (.str [c]) else none) (by
      intro c hc
      rw [lcS_ev]
      walk_at "ev"
      by_cases hm : c = 63
      · subst hm
        walk_at "ev"
      · have hm' : ¬ [c] = [63] := by simpa using hm
        rw [if_neg hm]
        walk_at "evs")]
    walk_at "ev"
    rw [fil_count]
    generalize css.flatten.count 63 = k
    have e : (decide ((1 : Int) = k) || (decide ((2 : Int) = k) || decide ((3 : Int) = k))) = (decide (1 ≤ k) && decide (k ≤ 3)) := by
      rw [← Bool.decide_or, ← Bool.decide_or, ← Bool.decide_and]
      exact decide_eq_decide.mpr (by omega)
    rw [e]

def sL : List Nat := [108, 101, 102, 116]
def sR : List Nat := [114, 105, 103, 104, 116]
def sideS (s : List Nat) : Bool := decide (sL = s) || decide (sR = s)
def loneS (s : List Nat) : Bool := decide ([98, 111, 116, 116, 111, 109] = s) || (decide ([99, 97, 117, 103, 104, 116] = s) || (decide ([115, 116, 111, 112, 112, 101, 100] = s) || decide ([116, 111, 112] = s)))
def isEnd (d : D) (w : Int) : Bool := match d with
  | .tup [.str s, b] => if sideS s = true then isInt b 0 (w - 1) else loneS s && isInt b 0 0
  | _ => false
theorem f_right_end {L n : Nat} {d : D} (h : Dat L n d) (w : Int) : m_is_right_end none [d, .int w] = rB (isEnd d w) := by
  unfold m_is_right_end b_is_right_end d_LONE
  walk_at "ev"
  rw [f_pair h]
  cases hp : isPair d with
  | false =>
    unfold rB
    walk_at "ev"
    have : isEnd d w = false := by
      unfold isEnd
      split
      · simp [isPair] at hp
      · rfl
    rw [this]
  | true =>
    obtain ⟨a, b, rfl⟩ := isPair_eq.mp hp
    have ha := h.inT a (by simp)
    have hb := h.inT b (by simp)
    unfold rB
    walk_at "ev"
    cases ha with
    | str _ s _ =>
      walk_at "ev"
      rw [show (decide ([108, 101, 102, 116] = s) || decide ([114, 105, 103, 104, 116] = s)) = sideS s from rfl]
      have e : isEnd (.tup [.str s, b]) w = if sideS s = true then isInt b 0 (w - 1) else loneS s && isInt b 0 0 := rfl
      rw [e]
      cases sideS s with
      | true =>
        walk_at "ev"
        rw [f_within hb]
        unfold rB
        walk_at "ev"
      | false =>
        walk_at "ev"
        rw [show (decide ([98, 111, 116, 116, 111, 109] = s) || (decide ([99, 97, 117, 103, 104, 116] = s) || (decide ([115, 116, 111, 112, 112, 101, 100] = s) || decide ([116, 111, 112] = s)))) = loneS s from rfl]
        cases loneS s with
        | true =>
          walk_at "ev"
          rw [f_within hb]
          unfold rB
          walk_at "ev"
        | false => walk_at "ev"
    | _ =>
      walk_at "ev"
      rfl
theorem f_good_end {L n : Nat} {d : D} (h : Dat L n d) (w : Int) : m_law_good_end none [d, .int w] = rB (isEnd d w) := by
  unfold m_law_good_end b_law_good_end
  walk_at "ev"
  rw [f_wide h, wide22]
  cases hp : isPair d with
  | false =>
    unfold rB
    walk_at "ev"
    have : isEnd d w = false := by
      unfold isEnd
      split
      · simp [isPair] at hp
      · rfl
    rw [this]
  | true =>
    obtain ⟨a, b, rfl⟩ := isPair_eq.mp hp
    have ha := h.inT a (by simp)
    have hb := h.inT b (by simp)
    unfold rB
    walk_at "ev"
    cases ha with
    | str _ s _ =>
      walk_at "ev"
      rw [show (decide ([108, 101, 102, 116] = s) || decide ([114, 105, 103, 104, 116] = s)) = sideS s from rfl]
      have e : isEnd (.tup [.str s, b]) w = if sideS s = true then isInt b 0 (w - 1) else loneS s && isInt b 0 0 := rfl
      rw [e]
      cases sideS s with
      | true =>
        walk_at "ev"
        rw [f_whole hb]
        unfold rB
        walk_at "ev"
      | false =>
        walk_at "ev"
        rw [show (decide ([98, 111, 116, 116, 111, 109] = s) || (decide ([99, 97, 117, 103, 104, 116] = s) || (decide ([115, 116, 111, 112, 112, 101, 100] = s) || decide ([116, 111, 112] = s)))) = loneS s from rfl]
        cases loneS s with
        | true =>
          walk_at "ev"
          rw [f_whole hb]
          unfold rB
          walk_at "ev"
        | false => walk_at "ev"
    | _ =>
      walk_at "ev"
      rfl
def isTab (d : D) : Bool := match d with
  | .tup [.tup a, .tup b] => decide (1 ≤ a.length) && decide (a.length ≤ 3) && decide (b.length = a.length) && (a ++ b).all fun e => isEnd e a.length
  | _ => false
theorem f_right_table {L n : Nat} {d : D} (h : Dat L n d) : m_is_right_table none [d] = rB (isTab d) := by
  unfold m_is_right_table b_is_right_table
  walk_at "ev"
  rw [f_pair h]
  cases hp : isPair d with
  | false =>
    unfold rB
    walk_at "ev"
    have : isTab d = false := by
      unfold isTab
      split
      · simp [isPair] at hp
      · rfl
    rw [this]
  | true =>
    obtain ⟨a, b, rfl⟩ := isPair_eq.mp hp
    have ha := h.inT a (by simp)
    have hb := h.inT b (by simp)
    unfold rB
    walk_at "ev"
    cases ha with
    | tup _ as hal hak =>
      walk_at "ev"
      cases hb with
      | tup _ bs hbl hbk =>
        walk_at "ev"
        have e : isTab (.tup [.tup as, .tup bs]) = (decide (1 ≤ as.length) && decide (as.length ≤ 3) && decide (bs.length = as.length) && (as ++ bs).all fun e => isEnd e as.length) := rfl
        rw [e]
        rw [show decide ((1 : Int) ≤ as.length) = decide (1 ≤ as.length) from decide_eq_decide.mpr (by omega)]
        cases h1 : decide (1 ≤ as.length) with
        | false => walk_at "ev"
        | true =>
          walk_at "ev"
          rw [show decide ((as.length : Int) ≤ 3) = decide (as.length ≤ 3) from decide_eq_decide.mpr (by omega)]
          cases h2 : decide (as.length ≤ 3) with
          | false => walk_at "ev"
          | true =>
            walk_at "ev"
            rw [show decide ((bs.length : Int) = as.length) = decide (bs.length = as.length) from decide_eq_decide.mpr (by omega)]
            cases h3 : decide (bs.length = as.length) with
            | false => walk_at "ev"
            | true =>
              simp only [decide_eq_true_eq] at h2 h3
              have h4 : as.length + bs.length ≤ sizeLine := by
                have : 6 ≤ sizeLine := by decide
                omega
              walk_at "ev"
              rw [decide_eq_true h4]
              walk_at "ev"
              rw [lcD_map (F := fun d => .bl (isEnd d as.length)) (by
                intro d hd
                rw [lcS_ev]
                walk_at "ev"
                rw [f_right_end ((List.mem_append.mp hd).elim (hak d) (hbk d))]
                unfold rB
                walk_at "ev")]
              walk_at "ev"
              rw [dBools_map]
              walk_at "ev"
              rw [all_id]
      | _ =>
        walk_at "ev"
        rfl
    | _ =>
      walk_at "ev"
      rfl

def badE (w : Int) (ds : List D) : List D := ds.filterMap fun d => if isEnd d w = true then none else some d
theorem badE_nil (w : Int) (ds : List D) : decide (badE w ds = []) = ds.all fun e => isEnd e w := by
  unfold badE
  induction ds with
  | nil => rfl
  | cons d ds ih =>
    rw [List.filterMap_cons, List.all_cons]
    cases h : isEnd d w with
    | true => simp only [if_true]; rw [ih]; rfl
    | false => simp
theorem badE_deps {L n : Nat} (w : Int) {ds : List D} (h : ∀ d ∈ ds, Dat L n d) : D.deps (badE w ds) ≤ n := deps_le fun d hd => by
  obtain ⟨e, he, hc⟩ := List.mem_filterMap.mp hd
  split at hc
  · cases hc
  · cases hc; exact (h _ he).dep_le
theorem f_good_table {L n : Nat} {d : D} (h : Dat L n d) (hn : n ≤ 50) : m_law_good_table none [d] = rB (isTab d) := by
  unfold m_law_good_table b_law_good_table
  walk_at "ev"
  rw [f_wide h, wide22]
  cases hp : isPair d with
  | false =>
    unfold rB
    walk_at "ev"
    have : isTab d = false := by
      unfold isTab
      split
      · simp [isPair] at hp
      · rfl
    rw [this]
  | true =>
    obtain ⟨a, b, rfl⟩ := isPair_eq.mp hp
    have ha := h.inT a (by simp)
    have hb := h.inT b (by simp)
    have hd1 := h.dep_le
    unfold rB
    walk_at "ev"
    rw [f_wide ha]
    unfold rB
    cases hw : isWide a 1 3 with
    | false =>
      have : isTab (.tup [a, b]) = false := by
        unfold isTab
        split
        · rename_i as bs e
          cases e
          simp [isWide] at hw
          simp
          intro h1 h2
          omega
        · rfl
      rw [this]
      walk_at "ev"
    | true =>
      walk_at "ev"
      rw [f_wide hb]
      unfold rB
      cases a with
      | tup as =>
        have hw' : 1 ≤ as.length ∧ as.length ≤ 3 := by simp [isWide] at hw; omega
        cases b with
        | tup bs =>
          have e : isTab (.tup [.tup as, .tup bs]) = (decide (1 ≤ as.length) && decide (as.length ≤ 3) && decide (bs.length = as.length) && (as ++ bs).all fun e => isEnd e as.length) := rfl
          rw [e, decide_eq_true hw'.1, decide_eq_true hw'.2]
          cases hw2 : isWide (.tup bs) 1 3 with
          | false =>
            walk_at "ev"
            rw [decide_eq_false (p := bs.length = as.length) (by simp [isWide] at hw2; omega), Bool.false_and]
          | true =>
            walk_at "ev"
            rw [show decide ((as.length : Int) = bs.length) = decide (bs.length = as.length) from decide_eq_decide.mpr (by omega)]
            cases h3 : decide (bs.length = as.length) with
            | false => walk_at "ev"
            | true =>
              simp only [decide_eq_true_eq] at h3
              have h4 : as.length + bs.length ≤ sizeLine := by
                have : 6 ≤ sizeLine := by decide
                omega
              walk_at "ev"
              rw [decide_eq_true h4]
              walk_at "ev"
              have hds : ∀ d ∈ as ++ bs, Dat L n d := fun d hd => by
                rcases List.mem_append.mp hd with hd | hd
                · exact ha.inT d hd
                · exact hb.inT d hd
              rw [lcD_pure (F := fun d => if isEnd d as.length = true then none else some d) (by
                intro d hd
                rw [lcS_ev]
                walk_at "ev"
                rw [f_good_end (hds d hd)]
                unfold rB
                cases isEnd d as.length with
                | true => walk_at "ev"
                | false => walk_at "ev")]
              rw [show ((as ++ bs).filterMap fun d => if isEnd d as.length = true then none else some d) = badE as.length (as ++ bs) from rfl]
              have hdb : D.deps (badE as.length (as ++ bs)) ≤ 63 := Nat.le_trans (badE_deps _ hds) (by omega)
              walk_at "ev"
              rw [decide_eq_true hdb, eqvs_nilR, badE_nil]
              walk_at "ev"
        | _ =>
          walk_at "ev"
          rfl
      | _ => simp [isWide] at hw
theorem f_is_bool (a b : Bool) : m_law_is_bool none [.bl a, .bl b] = rB (a == b) := by
  unfold m_law_is_bool b_law_is_bool
  walk_at "ev"
  rfl
theorem f_strip1 {L n : Nat} {d : D} (h : Dat L n d) : m_is_strip none [d] = rB (isStrip d 3 40 SS) := by
  unfold m_is_strip b_is_strip
  walk_at "ev"
  rw [f_right_strip h]
  unfold rB
  walk_at "ev"
theorem f_pattern1 {L n : Nat} {d : D} (h : Dat L n d) : m_is_pattern none [d] = rB (isPat d) := by
  unfold m_is_pattern b_is_pattern
  walk_at "ev"
  rw [f_right_pattern h]
  unfold rB
  walk_at "ev"
theorem f_table1 {L n : Nat} {d : D} (h : Dat L n d) : m_is_table none [d] = rB (isTab d) := by
  unfold m_is_table b_is_table
  walk_at "ev"
  rw [f_right_table h]
  unfold rB
  walk_at "ev"
theorem told_ok {L n : Nat} {d : D} (h : Dat L n d) (hn : n ≤ 50) : m_law_told_right none [d] = rB true := by
  unfold m_law_told_right b_law_told_right
  walk_at "ev"
  rw [f_strip1 h]
  unfold rB
  walk_at "ev"
  rw [f_signs]
  walk_at "ev"
  rw [f_good_strip h hn]
  unfold rB
  walk_at "ev"
  rw [f_is_bool]
  unfold rB
  rw [beq_self_eq_true]
  walk_at "ev"
  rw [f_pattern1 h]
  unfold rB
  walk_at "ev"
  rw [f_good_pattern h hn]
  unfold rB
  walk_at "ev"
  rw [f_is_bool]
  unfold rB
  rw [beq_self_eq_true]
  walk_at "ev"
  rw [f_table1 h]
  unfold rB
  walk_at "ev"
  rw [f_good_table h hn]
  unfold rB
  walk_at "ev"
  rw [f_is_bool]
  unfold rB
  rw [beq_self_eq_true]
  walk_at "ev"

def datB (L : Nat) : Nat → D → Bool
  | _, .non => true
  | _, .bl _ => true
  | _, .int _ => true
  | _, .str cs => decide (cs.length ≤ L)
  | n + 1, .tup ds => decide (ds.length ≤ L) && ds.all (datB L n)
  | n + 1, .lst ds => decide (ds.length ≤ L) && ds.all (datB L n)
  | _, _ => false
theorem datB_ok {L : Nat} : ∀ {n : Nat} {d : D}, datB L n d = true → Dat L n d
  | n, .non, _ => .non _
  | n, .bl _, _ => .bl _ _
  | n, .int _, _ => .int _ _
  | n, .str cs, h => by unfold datB at h; exact .str _ _ (by simpa using h)
  | 0, .tup _, h => by unfold datB at h; cases h
  | 0, .lst _, h => by unfold datB at h; cases h
  | n + 1, .tup ds, h => by
    unfold datB at h
    rw [Bool.and_eq_true, List.all_eq_true, decide_eq_true_eq] at h
    exact .tup _ _ h.1 fun d hd => datB_ok (h.2 d hd)
  | n + 1, .lst ds, h => by
    unfold datB at h
    rw [Bool.and_eq_true, List.all_eq_true, decide_eq_true_eq] at h
    exact .lst _ _ h.1 fun d hd => datB_ok (h.2 d hd)
  | n, .dct _ _, h => by cases n <;> simp [datB] at h
  | n, .dcn _ _, h => by cases n <;> simp [datB] at h
  | n, .seq _, h => by cases n <;> simp [datB] at h
  | n, .fn _, h => by cases n <;> simp [datB] at h
theorem datAll {L n : Nat} {ds : List D} (h : ds.all (datB L n) = true) : ∀ d ∈ ds, Dat L n d := fun d hd => datB_ok (List.all_eq_true.mp h d hd)
theorem any_ok : ∀ (k : Nat) {m : M}, Src m → ∀ deep : Int, deep ≤ k → ∃ r m', m_law_any_value (k + 1) (some m) [.int deep] = .ret r (some m') ∧ Src m' ∧ Dat 18 (k + 3) r.toD
  | k, m, hm, deep, hd => by
    unfold m_law_any_value b_law_any_value
    obtain ⟨w, m1, e1, hm1, hw1, hw2⟩ := pick_ok hm (n := 8) (by omega) (by omega)
    walk_at "ev"
    generalize hso : [D.non, .bl true, .bl false, .int 0, .int 1, .int 2, .int 3, .int (-1), .str [], .str [117], .str [46], .str [112, 35], .str [63], .str [108, 101, 102, 116], .tup [], .lst [], .tup [.str [117]], .tup [.int 1, .tup []]] = so
    have hsd : ∀ d ∈ so, Dat 18 (k + 3) d := fun d hd => (datAll (L := 18) (n := 2) (ds := so) (by rw [← hso]; rfl) d hd).mono (Nat.le_refl _) (by omega)
    have hsl : so.length = 18 := by rw [← hso]; rfl
    clear hso
    rw [e1]
    obtain ⟨x, m2, e2, hm2, hx⟩ := chosen_ok hm1 (d := .lst so) (ds := so) (.inr rfl) (by omega) (by omega)
    walk_at "ev"
    cases hc : decide (deep < 1) with
    | true =>
      walk_at "ev"
      rw [e2]
      walk_at "ev"
      exact ⟨_, _, rfl, hm2, hsd x hx⟩
    | false =>
      walk_at "ev"
      cases hc2 : decide (w < 5) with
      | true =>
        walk_at "ev"
        rw [e2]
        walk_at "ev"
        exact ⟨_, _, rfl, hm2, hsd x hx⟩
      | false =>
        simp only [decide_eq_false_iff_not] at hc
        walk_at "ev"
        obtain ⟨q, m3, e3, hm3, hq1, hq2⟩ := pick_ok hm1 (n := 5) (by omega) (by omega)
        rw [e3]
        walk_at "ev"
        have hr : -4611686018427387904 ≤ q ∧ q < 4611686018427387904 := by omega
        have hz : q.toNat ≤ sizeLine := by
          have : 5 ≤ sizeLine := by decide
          omega
        rw [decide_eq_true hr]
        walk_at "ev"
        rw [decide_eq_true hz]
        walk_at "ev"
        generalize hf : lcD _ _ _ _ _ _ = o
        obtain ⟨k', rfl⟩ : ∃ k', k = k' + 1 := ⟨k - 1, by omega⟩
        obtain ⟨ys, ρ', rfl, ⟨m4, rfl, hm4⟩, hl, hy⟩ := lcD_elQ hf (fun ρ => ∃ m, ρ = [.bor m, .imm (.int deep), .own (.lst so), .imm (.int w), .non, .non] ∧ Src m) (Dat 18 (k' + 1 + 2)) ⟨_, rfl, hm3⟩ (by
          rintro d _ ρ ⟨m, rfl, hm⟩
          rw [lcS_ev]
          walk_at "ev"
          obtain ⟨r, m', e, hm', hr⟩ := any_ok k' hm (deep - 1) (by omega)
          rw [e]
          walk_at "ev"
          exact ⟨_, _, rfl, ⟨_, rfl, hm'⟩, hr⟩)
        have hl' : ys.length ≤ 18 := by rw [hl, rng_len]; omega
        walk_at "ev"
        cases hc3 : decide (w = 5) with
        | true =>
          walk_at "ev"
          exact ⟨_, _, rfl, hm4, .lst _ _ hl' hy⟩
        | false =>
          walk_at "ev"
          exact ⟨_, _, rfl, hm4, .tup _ _ hl' hy⟩

theorem big_le {n : Nat} (h : n ≤ 100000) : n ≤ sizeLine := by
  have : 100000 ≤ sizeLine := by decide
  omega
theorem big_lt {n : Nat} (h : n ≤ 100000) : n < sizeLine := by
  have : 100000 < sizeLine := by decide
  omega
def v_rest : SV := (sSeq (sIf (bT (e2 eqG (eV 5) (eC (.int 0)))) (sRet (eB tupleG (aCons (e2 addG (eSl (eV 3) oNone (oSome (eV 4))) (eSl (eV 3) (oSome (e2 addG (eV 4) (eC (.int 1)))) oNone)) aNil))) sNext)
    (sSeq (sIf (bT (e2 eqG (eV 5) (eC (.int 1)))) (sRet (eB tupleG (aCons (e2 addG (eSl (eV 3) oNone (oSome (e2 addG (eV 4) (eC (.int 1))))) (eSl (eV 3) (oSome (eV 4)) oNone)) aNil))) sNext)
    (sSeq (sIf (bT (e2 eqG (eV 5) (eC (.int 2)))) (sRet (eB tupleG (aCons (e2 addG (e2 addG (eSl (eV 3) oNone (oSome (eV 4))) (e1 revG (eSl (eV 3) (oSome (eV 4)) (oSome (e2 addG (eV 4) (eC (.int 2))))))) (eSl (eV 3) (oSome (e2 addG (eV 4) (eC (.int 2)))) oNone)) aNil))) sNext)
    (sSeq (sIf (bT (e2 eqG (eV 5) (eC (.int 3)))) (sRet (eV 3)) sNext)
    (sSeq (sIf (bT (e2 ltG (eV 5) (eC (.int 6)))) (sSetIx 3 (eV 4) (frzE (eCall 2 (m_law_any_value 5) (aCons (eV 0) (aCons (eC (.int 2)) aNil))))) (sSeq (sSet 7 (eLst (aCons (eC .non) (aCons (eC (.bl true)) (aCons (eC (.bl false)) (aCons (eC (.int 0)) (aCons (eC (.int 1)) (aCons (eC (.int 2)) (aCons (eC (.int 3)) (aCons (eC (.int 4)) (aCons (eC (.str [])) (aCons (eC (.str [117])) (aCons (eC (.str [63, 46])) (aCons (eC (.str [100, 113])) (aCons (eC (.str [108, 101, 102, 116])) (aCons (eC (.str [116, 111, 112])) (aCons (eC (.str [120])) (aCons (eTup aNil) (aCons (eTup (aCons (eC (.int 1)) (aCons (eTup (aCons (eC (.str [117])) aNil)) aNil))) aNil)))))))))))))))))))
    (sSetIx 3 (eV 4) (frzE (eCall 2 m_law_chosen (aCons (eV 0) (aCons (frzE (eV 7)) aNil)))))))
    (sRet (eB tupleG (aCons (eV 3) aNil))))))))
def v_in (self : FnD) : SV := (sRet (e2 addG (e2 addG (eB tupleG (aCons (eSl (eV 3) oNone (oSome (eV 4))) aNil)) (eTup (aCons (frzE (eCall 3 self (aCons (eV 0) (aCons (frzE (eV 6)) (aCons (e2 subG (eV 2) (eC (.int 1))) aNil))))) aNil))) (eB tupleG (aCons (eSl (eV 3) (oSome (e2 addG (eV 4) (eC (.int 1)))) oNone) aNil))))
theorem v_cut (self : FnD) : b_law_variant self = (sSeq (sSet 3 (eB listG (aCons (eV 1) aNil)))
    (sSeq (sIf (bT (e2 eqG (eV 3) (eLst aNil))) (sRet (eTup (aCons (frzE (eCall 2 (m_law_any_value 5) (aCons (eV 0) (aCons (eC (.int 1)) aNil)))) aNil))) sNext)
    (sSeq (sPar 4 5 (aCons (frzE (eCall 2 m_law_pick (aCons (eV 0) (aCons (eB lenG (aCons (eV 3) aNil)) aNil)))) (aCons (frzE (eCall 2 m_law_pick (aCons (eV 0) (aCons (eC (.int 9)) aNil)))) aNil)))
    (sSeq (sSet 6 (e2 ixD (eV 3) (frzE (eV 4))))
    (sSeq (sIf (tyAnd (bT (eIsi "tuple" (eV 6))) (tyAnd (bT (e2 gtG (eV 2) (eC (.int 0)))) (bT (e2 gtG (eV 5) (eC (.int 2)))))) (v_in self) sNext)
    v_rest))))) := rfl
theorem var_rest {k : Nat} {m m2 : M} (hm2 : Src m2) {L n : Nat} {ds : List D} (hd : Dat L n (.tup ds)) (hL : 20 ≤ L) (hL2 : L ≤ 1000) (hn : 8 ≤ n) (hn2 : n + k ≤ 40) {s w deep : Int} {x : D} (hs1 : 0 ≤ s) (hs2 : s < ds.length) :
    ∃ r m', finF (some m) (v_rest [.bor m2, .imm (.tup ds), .imm (.int deep), .own (.lst ds), .imm (.int s), .imm (.int w), .imm x, .non]) = .ret r (some m') ∧ Src m' ∧ ∃ es, (r = .imm (.tup es) ∨ r = .new (.lst es)) ∧ es.length ≤ 3 * L + 1 ∧ ∀ e ∈ es, Dat (3 * L + 1) (n + k) e := by
  unfold v_rest
  have hlen := hd.lenT
  have hin : ∀ e ∈ ds, Dat (3 * L + 1) (n + k) e := fun e he => (hd.inT e he).mono (by omega) (by omega)
  have hset : ∀ y, Dat L n y → (∀ e ∈ ds.set s.toNat y, Dat (3 * L + 1) (n + k) e) ∧ (ds.set s.toNat y).length ≤ 3 * L + 1 := fun y hy => ⟨fun e he => by
    rcases List.mem_or_eq_of_mem_set he with h | h
    · exact hin e h
    · exact h ▸ hy.mono (by omega) (by omega), by rw [List.length_set]; omega⟩
  have hcl : ∀ l u, (cutL ds l u).length ≤ L := fun l u => Nat.le_trans (cutL_len ds l u) hlen
  have hcm : ∀ {l u e}, e ∈ cutL ds l u → Dat (3 * L + 1) (n + k) e := fun h => hin _ (cutL_mem h)
  walk_at "ev"
  cases h0 : decide (w = 0) with
  | true =>
    have ha := hcl none (some s)
    have hb := hcl (some (s + 1)) none
    have hsz : (cutL ds none (some s)).length + (cutL ds (some (s + 1)) none).length ≤ sizeLine := big_le (by omega)
    walk_at "ev"
    rw [decide_eq_true hsz]
    walk_at "ev"
    exact ⟨_, _, rfl, hm2, _, .inl rfl, by rw [List.length_append]; omega, fun e he => (List.mem_append.mp he).elim hcm hcm⟩
  | false =>
  walk_at "ev"
  cases h1 : decide (w = 1) with
  | true =>
    have ha := hcl none (some (s + 1))
    have hb := hcl (some s) none
    have hsz : (cutL ds none (some (s + 1))).length + (cutL ds (some s) none).length ≤ sizeLine := big_le (by omega)
    walk_at "ev"
    rw [decide_eq_true hsz]
    walk_at "ev"
    exact ⟨_, _, rfl, hm2, _, .inl rfl, by rw [List.length_append]; omega, fun e he => (List.mem_append.mp he).elim hcm hcm⟩
  | false =>
  walk_at "ev"
  cases h2 : decide (w = 2) with
  | true =>
    have ha := hcl none (some s)
    have hb := hcl (some s) (some (s + 2))
    have hd := hcl (some (s + 2)) none
    have hsz : (cutL ds none (some s)).length + ((cutL ds (some s) (some (s + 2))).reverse).length ≤ sizeLine := big_le (by rw [List.length_reverse]; omega)
    have hsz2 : (cutL ds none (some s) ++ (cutL ds (some s) (some (s + 2))).reverse).length + (cutL ds (some (s + 2)) none).length ≤ sizeLine := big_le (by rw [List.length_append, List.length_reverse]; omega)
    walk_at "ev"
    rw [decide_eq_true hsz]
    walk_at "ev"
    rw [decide_eq_true hsz2]
    walk_at "ev"
    refine ⟨_, _, rfl, hm2, _, .inl rfl, by rw [List.length_append, List.length_append, List.length_reverse]; omega, fun e he => ?_⟩
    rcases List.mem_append.mp he with he | he
    · rcases List.mem_append.mp he with he | he
      · exact hcm he
      · exact hcm (List.mem_reverse.mp he)
    · exact hcm he
  | false =>
  walk_at "ev"
  cases h3 : decide (w = 3) with
  | true =>
    walk_at "ev"
    exact ⟨_, _, rfl, hm2, _, .inr rfl, by omega, hin⟩
  | false =>
  walk_at "ev"
  cases h4 : decide (w < 6) with
  | true =>
    obtain ⟨r, m3, q3, hm3, hr⟩ := any_ok 4 hm2 2 (by omega)
    walk_at "ev"
    rw [q3]
    walk_at "ev"
    rw [ixN_nat hs1 hs2]
    walk_at "ev"
    exact ⟨_, _, rfl, hm3, _, .inl rfl, (hset _ (hr.mono (by omega) (by omega))).2, (hset _ (hr.mono (by omega) (by omega))).1⟩
  | false =>
    walk_at "ev"
    generalize hso : [D.non, .bl true, .bl false, .int 0, .int 1, .int 2, .int 3, .int 4, .str [], .str [117], .str [63, 46], .str [100, 113], .str [108, 101, 102, 116], .str [116, 111, 112], .str [120], .tup [], .tup [.int 1, .tup [.str [117]]]] = so
    have hsd : ∀ d ∈ so, Dat L n d := fun d hd => (datAll (L := 18) (n := 2) (ds := so) (by rw [← hso]; rfl) d hd).mono (by omega) (by omega)
    have hsl : so.length = 17 := by rw [← hso]; rfl
    clear hso
    obtain ⟨y, m3, q3, hm3, hy⟩ := chosen_ok hm2 (d := .lst so) (ds := so) (.inr rfl) (by omega) (by omega)
    rw [q3]
    walk_at "ev"
    rw [ixN_nat hs1 hs2]
    walk_at "ev"
    exact ⟨_, _, rfl, hm3, _, .inl rfl, (hset _ (hsd y hy)).2, (hset _ (hsd y hy)).1⟩
theorem var_ok : ∀ (k : Nat) {m : M}, Src m → ∀ {L n : Nat} {ds : List D}, Dat L n (.tup ds) → 20 ≤ L → L ≤ 1000 → 8 ≤ n → n + k ≤ 40 → ∀ deep : Int, deep ≤ k →
    ∃ r m', m_law_variant (k + 1) (some m) [.tup ds, .int deep] = .ret r (some m') ∧ Src m' ∧ ∃ es, (r = .imm (.tup es) ∨ r = .new (.lst es)) ∧ es.length ≤ 3 * L + 1 ∧ ∀ e ∈ es, Dat (3 * L + 1) (n + k) e
  | k, m, hm, L, n, ds, hd, hL, hL2, hn, hn2, deep, hk => by
    unfold m_law_variant
    rw [v_cut]
    have hlen := hd.lenT
    have hdep := hd.deps_tup
    have hdep2 : D.deps ds ≤ 63 := by omega
    have hin : ∀ e ∈ ds, Dat (3 * L + 1) (n + k) e := fun e he => (hd.inT e he).mono (by omega) (by omega)
    walk_at "ev"
    rw [decide_eq_true hdep2, eqvs_nilR]
    cases hc : decide (ds = []) with
    | true =>
      obtain ⟨r, m1, q1, hm1, hr⟩ := any_ok 4 hm 1 (by omega)
      walk_at "ev"
      rw [q1]
      walk_at "ev"
      exact ⟨_, _, rfl, hm1, _, .inl rfl, by simp, fun e he => by
        cases List.mem_singleton.mp he
        exact hr.mono (by omega) (by omega)⟩
    | false =>
      have hpos : 1 ≤ ds.length := by
        cases ds with
        | nil => simp at hc
        | cons d ds => simp
      obtain ⟨s, m1, q1, hm1, hs1, hs2⟩ := pick_ok hm (n := ds.length) (by omega) (by omega)
      obtain ⟨w, m2, q2, hm2, hw1, hw2⟩ := pick_ok hm1 (n := 9) (by omega) (by omega)
      obtain ⟨x, ex, hx1, hx2⟩ := atI_nat hs1 hs2
      have hxd := hd.inT x hx2
      walk_at "ev"
      rw [q1]
      walk_at "ev"
      rw [q2]
      walk_at "ev"
      rw [ex]
      walk_at "ev"
      have hgo : ∀ es, x = .tup es → 0 < deep → 2 < w → ∃ r m', finF (some m) ((v_in (m_law_variant k) [.bor m2, .imm (.tup ds), .imm (.int deep), .own (.lst ds), .imm (.int s), .imm (.int w), .imm x, .non]).seq v_rest) = .ret r (some m') ∧ Src m' ∧ ∃ es, (r = .imm (.tup es) ∨ r = .new (.lst es)) ∧ es.length ≤ 3 * L + 1 ∧ ∀ e ∈ es, Dat (3 * L + 1) (n + k) e := by
        rintro es rfl hdp _
        unfold v_in
        obtain ⟨k', rfl⟩ : ∃ k', k = k' + 1 := ⟨k - 1, by omega⟩
        obtain ⟨r, m3, q3, hm3, fs, hr, hr1, hr2⟩ := var_ok k' hm2 hxd hL hL2 hn (by omega) (deep - 1) (by omega)
        have hrd : Dat (3 * L + 1) (n + (k' + 1)) r.toD := by
          rcases hr with rfl | rfl
          · exact (Dat.tup _ _ hr1 hr2)
          · exact (Dat.lst _ _ hr1 hr2)
        have ha : (cutL ds none (some s)).length ≤ L := Nat.le_trans (cutL_len ds _ _) hlen
        have hb : (cutL ds (some (s + 1)) none).length ≤ L := Nat.le_trans (cutL_len ds _ _) hlen
        have hsz : (cutL ds none (some s)).length + 1 ≤ sizeLine := big_le (by omega)
        have hsz2 : (cutL ds none (some s) ++ [r.toD]).length + (cutL ds (some (s + 1)) none).length ≤ sizeLine := big_le (by rw [List.length_append, List.length_singleton]; omega)
        walk_at "ev"
        rw [q3]
        walk_at "ev"
        rw [decide_eq_true hsz]
        walk_at "ev"
        rw [decide_eq_true hsz2]
        walk_at "ev"
        refine ⟨_, _, rfl, hm3, _, .inl rfl, by rw [List.length_append, List.length_append, List.length_singleton]; omega, fun e he => ?_⟩
        rcases List.mem_append.mp he with he | he
        · rcases List.mem_append.mp he with he | he
          · exact hin _ (cutL_mem he)
          · cases List.mem_singleton.mp he; exact hrd
        · exact hin _ (cutL_mem he)
      have hrest := var_rest (k := k) (m := m) hm2 hd hL hL2 hn hn2 (s := s) (w := w) (deep := deep) (x := x) hs1 hs2
      cases hxd with
      | tup _ es _ _ =>
        walk_at "ev"
        cases h1 : decide (0 < deep) with
        | false =>
          walk_at "ev"
          exact hrest
        | true =>
          walk_at "ev"
          cases h2 : decide (2 < w) with
          | false =>
            walk_at "ev"
            exact hrest
          | true =>
            walk_at "ev"
            exact hgo es rfl (by simpa using h1) (by simpa using h2)
      | _ =>
        walk_at "ev"
        exact hrest

def sm8 : List D := [.str [46], .str [46], .str [100], .str [112], .str [113], .str [117], .str [118], .str [119], .str [35]]
theorem strs_of {ys : List D} (h : ∀ y ∈ ys, ∃ c : Nat, y = .str [c]) : ∃ cs : List Nat, ys = (cs.map fun c => [c]).map .str ∧ cs.length = ys.length := by
  induction ys with
  | nil => exact ⟨[], rfl, rfl⟩
  | cons y ys ih =>
    obtain ⟨c, rfl⟩ := h y (List.mem_cons_self ..)
    obtain ⟨cs, e, hl⟩ := ih fun y hy => h y (List.mem_cons_of_mem _ hy)
    exact ⟨c :: cs, by rw [e]; rfl, by simp [hl]⟩
theorem flat1 (cs : List Nat) : (cs.map fun c => [c]).flatten = cs := by
  induction cs with
  | nil => rfl
  | cons c cs ih => rw [List.map_cons, List.flatten_cons, ih]; rfl
theorem sum1 (cs : List Nat) : ((cs.map fun c => [c]).map List.length).sum = cs.length := by
  induction cs with
  | nil => rfl
  | cons c cs ih => rw [List.map_cons, List.map_cons, List.sum_cons, ih, List.length_cons, List.length_cons, List.length_nil]; omega
theorem column_ok {m : M} (hm : Src m) {w : Int} (h1 : 0 ≤ w) (h2 : w ≤ 100) : ∃ cs m', m_law_column (some m) [.int w] = .ret (.imm (.str cs)) (some m') ∧ Src m' ∧ (cs.length : Int) = w := by
  unfold m_law_column b_law_column
  have hr : -4611686018427387904 ≤ w ∧ w < 4611686018427387904 := by omega
  have hz : w.toNat ≤ sizeLine := big_le (by omega)
  walk_at "ev"
  generalize hso : [D.str [46], .str [46], .str [100], .str [112], .str [113], .str [117], .str [118], .str [119], .str [35]] = so
  have hsd : ∀ d ∈ so, ∃ c : Nat, d = .str [c] := by
    rw [← hso]
    intro d hd
    simp only [List.mem_cons, List.not_mem_nil, or_false] at hd
    rcases hd with rfl | rfl | rfl | rfl | rfl | rfl | rfl | rfl | rfl <;> exact ⟨_, rfl⟩
  have hsl : so.length = 9 := by rw [← hso]; rfl
  clear hso
  rw [decide_eq_true hr]
  walk_at "ev"
  rw [decide_eq_true hz]
  walk_at "ev"
  generalize hf : lcD _ _ _ _ _ _ = o
  obtain ⟨ys, ρ', rfl, ⟨m2, rfl, hm2⟩, hl, hy⟩ := lcD_elQ hf (fun ρ => ∃ m, ρ = [.bor m, .imm (.int w), .own (.lst so), .non] ∧ Src m) (fun y => ∃ c : Nat, y = .str [c]) ⟨_, rfl, hm⟩ (by
    rintro d _ ρ ⟨m, rfl, hm⟩
    rw [lcS_ev]
    walk_at "ev"
    obtain ⟨r, m1, q1, hm1, hr1, hr2⟩ := pick_ok hm (n := 2) (by omega) (by omega)
    rw [q1]
    walk_at "ev"
    rw [hsl]
    have hcl : 1 ≤ (cutL so none (some ((9 : Nat) - r))).length := by
      unfold cutL
      rw [List.length_take, List.length_drop]
      unfold HT.sIx
      simp only [hsl]
      rw [if_neg (by omega)]
      omega
    have hcl2 := cutL_len so none (some ((9 : Nat) - r))
    obtain ⟨y, m3, q3, hm3, hy⟩ := chosen_ok hm1 (d := .lst (cutL so none (some ((9 : Nat) - r)))) (.inr rfl) hcl (by omega)
    rw [q3]
    walk_at "ev"
    exact ⟨_, _, rfl, ⟨_, rfl, hm3⟩, hsd _ (cutL_mem hy)⟩)
  obtain ⟨cs, rfl, hcs⟩ := strs_of hy
  have hlen : (cs.length : Int) = w := by rw [hcs, hl, rng_len]; omega
  walk_at "ev"
  rw [dStrs_map]
  walk_at "ev"
  rw [sum1, flat1, decide_eq_true (by omega)]
  walk_at "ev"
  exact ⟨_, _, rfl, hm2, hlen⟩
theorem strip_ok {m : M} (hm : Src m) {w : Int} (h1 : 0 ≤ w) (h2 : w ≤ 100) : ∃ (css : List (List Nat)) (m' : M), m_law_strip (some m) [.int w, .int 8] = .ret (.imm (.tup [.int w, .tup (css.map .str)])) (some m') ∧ Src m' ∧ css.length ≤ 8 ∧ ∀ cs ∈ css, (cs.length : Int) = w := by
  unfold m_law_strip b_law_strip
  obtain ⟨r, m1, q1, hm1, hr1, hr2⟩ := pick_ok hm (n := 9) (by omega) (by omega)
  have hr : -4611686018427387904 ≤ r ∧ r < 4611686018427387904 := by omega
  have hz : r.toNat ≤ sizeLine := big_le (by omega)
  walk_at "ev"
  rw [q1]
  walk_at "ev"
  rw [decide_eq_true hr]
  walk_at "ev"
  rw [decide_eq_true hz]
  walk_at "ev"
  generalize hf : lcD _ _ _ _ _ _ = o
  obtain ⟨ys, ρ', rfl, ⟨m2, rfl, hm2⟩, hl, hy⟩ := lcD_elQ hf (fun ρ => ∃ m, ρ = [.bor m, .imm (.int w), .imm (.int 8), .non] ∧ Src m) (fun y => ∃ cs : List Nat, y = .str cs ∧ (cs.length : Int) = w) ⟨_, rfl, hm1⟩ (by
    rintro d _ ρ ⟨m, rfl, hm⟩
    rw [lcS_ev]
    walk_at "ev"
    obtain ⟨cs, m1, q1, hm1, hl⟩ := column_ok hm h1 h2
    rw [q1]
    walk_at "ev"
    exact ⟨_, _, rfl, ⟨_, rfl, hm1⟩, _, rfl, hl⟩)
  have key : ∀ ys : List D, (∀ y ∈ ys, ∃ cs : List Nat, y = .str cs ∧ (cs.length : Int) = w) → ∃ css : List (List Nat), ys = css.map .str ∧ css.length = ys.length ∧ ∀ cs ∈ css, (cs.length : Int) = w := by
    intro ys
    induction ys with
    | nil => exact fun _ => ⟨[], rfl, rfl, by simp⟩
    | cons y ys ih =>
      intro h
      obtain ⟨c, rfl, hc⟩ := h y (List.mem_cons_self ..)
      obtain ⟨css, e, hl, hcs⟩ := ih fun y hy => h y (List.mem_cons_of_mem _ hy)
      refine ⟨c :: css, by rw [e]; rfl, by simp [hl], fun d hd => ?_⟩
      rcases List.mem_cons.mp hd with rfl | hd
      · exact hc
      · exact hcs d hd
  obtain ⟨css, rfl, hcl, hcs⟩ := key ys hy
  walk_at "ev"
  exact ⟨css, _, rfl, hm2, by rw [hcl, hl, rng_len]; omega, hcs⟩
/-- a direction -/
def Way (i : Int) : Prop := i = 0 ∨ i = 1 ∨ i = 2 ∨ i = 3
theorem onward_ok (c : Nat) {i : Int} (hi : Way i) : ∃ r, m_law_onward none [.str [c], .int i] = .ret (.imm (.int r)) none ∧ (r = -1 ∨ Way r) := by
  unfold m_law_onward b_law_onward
  by_cases h1 : c = 35
  · subst h1
    walk_at "ev"
    exact ⟨_, rfl, .inl rfl⟩
  by_cases h2 : c = 117
  · subst h2
    rcases hi with rfl | rfl | rfl | rfl <;> walk_at "ev" <;> exact ⟨_, rfl, .inr (by unfold Way; omega)⟩
  by_cases h3 : c = 112
  · subst h3
    rcases hi with rfl | rfl | rfl | rfl <;> walk_at "ev" <;> exact ⟨_, rfl, .inr (by unfold Way; omega)⟩
  by_cases h4 : c = 113
  · subst h4
    rcases hi with rfl | rfl | rfl | rfl <;> walk_at "ev" <;> exact ⟨_, rfl, .inr (by unfold Way; omega)⟩
  by_cases h5 : c = 100
  · subst h5
    rcases hi with rfl | rfl | rfl | rfl <;> walk_at "ev" <;> exact ⟨_, rfl, .inr (by unfold Way; omega)⟩
  by_cases h6 : c = 118
  · subst h6
    rcases hi with rfl | rfl | rfl | rfl <;> walk_at "ev" <;> exact ⟨_, rfl, .inr (by unfold Way; omega)⟩
  by_cases h7 : c = 119
  · subst h7
    rcases hi with rfl | rfl | rfl | rfl <;> walk_at "ev" <;> exact ⟨_, rfl, .inr (by unfold Way; omega)⟩
  have g1 : ¬ 117 = c := fun e => h2 e.symm
  have g2 : ¬ 112 = c := fun e => h3 e.symm
  have g3 : ¬ 113 = c := fun e => h4 e.symm
  have g4 : ¬ 100 = c := fun e => h5 e.symm
  have g5 : ¬ 118 = c := fun e => h6 e.symm
  have g6 : ¬ 119 = c := fun e => h7 e.symm
  clear h2 h3 h4 h5 h6 h7
  rcases hi with rfl | rfl | rfl | rfl <;> walk_at "evs" <;> exact ⟨_, rfl, .inr (by unfold Way; omega)⟩

def w_body : SV := (sSeq (sIf (tyOr (bT (e2 ltG (eV 8) (eC (.int 0)))) (bT (e2 geG (eV 8) (eV 6)))) (sRet (eTup (aCons (eTup (aCons (eIf (bT (e2 ltG (eV 8) (eC (.int 0)))) (eC (.str [108, 101, 102, 116])) (eC (.str [114, 105, 103, 104, 116]))) (aCons (frzE (eV 7)) aNil))) (aCons (frzE (eV 10)) aNil)))) sNext)
    (sSeq (sIf (tyOr (bT (e2 ltG (eV 7) (eC (.int 0)))) (bT (e2 geG (eV 7) (eV 2)))) (sRet (eTup (aCons (eTup (aCons (eIf (bT (e2 ltG (eV 7) (eC (.int 0)))) (eC (.str [116, 111, 112])) (eC (.str [98, 111, 116, 116, 111, 109]))) (aCons (frzE (eV 8)) aNil))) (aCons (frzE (eV 10)) aNil)))) sNext)
    (sSeq (sIf (bT (e2 (inG false) (eTup (aCons (frzE (eV 7)) (aCons (frzE (eV 8)) (aCons (frzE (eV 9)) aNil)))) (eV 10))) (sRet (eTup (aCons (eTup (aCons (eC (.str [99, 97, 117, 103, 104, 116])) (aCons (eC (.int 0)) aNil))) (aCons (frzE (eV 10)) aNil)))) sNext)
    (sSeq (sApp 10 (eTup (aCons (frzE (eV 7)) (aCons (frzE (eV 8)) (aCons (frzE (eV 9)) aNil)))))
    (sSeq (sSet 9 (eCall 2 m_law_onward (aCons (e2 ixD (e2 ixD (eV 3) (frzE (eV 8))) (frzE (eV 7))) (aCons (frzE (eV 9)) aNil))))
    (sSeq (sIf (bT (e2 eqG (eV 9) (e1 negG (eC (.int 1))))) (sRet (eTup (aCons (eTup (aCons (eC (.str [115, 116, 111, 112, 112, 101, 100])) (aCons (eC (.int 0)) aNil))) (aCons (frzE (eV 10)) aNil)))) sNext)
    (sPar 7 8 (aCons (frzE (e2 addG (eV 7) (e2 ixD (eLst (aCons (eC (.int 1)) (aCons (eC (.int 0)) (aCons (eC (.int 0)) (aCons (e1 negG (eC (.int 1))) aNil))))) (frzE (eV 9))))) (aCons (frzE (e2 addG (eV 8) (e2 ixD (eLst (aCons (eC (.int 0)) (aCons (e1 negG (eC (.int 1))) (aCons (eC (.int 1)) (aCons (eC (.int 0)) aNil))))) (frzE (eV 9))))) aNil)))))))))
def w_tail : SV := (sRet (eTup (aCons (eTup (aCons (eC (.str [99, 97, 117, 103, 104, 116])) (aCons (eC (.int 0)) aNil))) (aCons (frzE (eV 10)) aNil))))
theorem w_cut : b_law_walk = (sSeq (sAsg (eV 0) (gT 2 (gsC (gN 2) (gsC (gN 3) gsN))))
    (sSeq (sAsg (eV 1) (gT 2 (gsC (gN 4) (gsC (gN 5) gsN))))
    (sSeq (sSet 6 (eB lenG (aCons (eV 3) aNil)))
    (sSeq (sAsg (eGet2 (eDisp (prC (eC (.str [108, 101, 102, 116])) (eTup (aCons (frzE (eV 5)) (aCons (eC (.int 0)) (aCons (eC (.int 2)) aNil)))) (prC (eC (.str [114, 105, 103, 104, 116])) (eTup (aCons (frzE (eV 5)) (aCons (e2 subG (eV 6) (eC (.int 1))) (aCons (eC (.int 1)) aNil)))) (prC (eC (.str [116, 111, 112])) (eTup (aCons (eC (.int 0)) (aCons (frzE (eV 5)) (aCons (eC (.int 0)) aNil)))) prN)))) (frzE (eV 4)) (eTup (aCons (eC (.int 0)) (aCons (eC (.int 0)) (aCons (eC (.int 0)) aNil))))) (gT 3 (gsC (gN 7) (gsC (gN 8) (gsC (gN 9) gsN)))))
    (sSeq (sIf (bT (e2 eqG (eV 4) (eC (.str [98, 111, 116, 116, 111, 109])))) (sPar3 7 8 9 (aCons (e2 subG (eV 2) (eC (.int 1))) (aCons (frzE (eV 5)) (aCons (eC (.int 3)) aNil)))) sNext)
    (sSeq (sSet 10 (eLst aNil))
    (sSeq (sFor (iR1 (aCons (e2 addG (e2 mulG (e2 mulG (eC (.int 4)) (eV 2)) (eV 6)) (eC (.int 1))) aNil)) (gN 11) w_body) w_tail))))))) := rfl
/-- one end of a beam -/
def IsE (d : D) : Prop := ∃ (s : List Nat) (i : Int), d = .tup [.str s, .int i] ∧ s.length ≤ 10
theorem atI_ways {α : Type} {i : Int} (hi : Way i) (a b c d : α) : ∃ x, atI [a, b, c, d] i = some x ∧ (x = a ∨ x = b ∨ x = c ∨ x = d) := by
  rcases hi with rfl | rfl | rfl | rfl
  · exact ⟨a, atI_0, .inl rfl⟩
  · exact ⟨b, atI_1, .inr (.inl rfl)⟩
  · exact ⟨c, atI_2, .inr (.inr (.inl rfl))⟩
  · exact ⟨d, atI_3, .inr (.inr (.inr rfl))⟩
theorem dat_deps {L n : Nat} {ds : List D} (h : ∀ d ∈ ds, Dat L n d) : D.deps ds ≤ n := deps_le fun d hd => (h d hd).dep_le
theorem Way.ne {i : Int} (h : Way i) : i ≠ -1 := by unfold Way at h; omega
theorem w_step {w : Int} {css : List (List Nat)} (hl : css.length ≤ 100) (hc : ∀ cs ∈ css, (cs.length : Int) = w) {strip gate side : D} {k : D} {t : D} {row col way : Int} (hw : Way way) {sn : List D} (hsn : ∀ d ∈ sn, Dat 3 1 d) (hsl : sn.length ≤ 90000) {s11 : Slot} :
    (∃ e sn' ρ', forS (gN 11) w_body t [.imm strip, .imm gate, .imm (.int w), .imm (.tup (css.map .str)), .imm side, .imm k, .imm (.int css.length), .imm (.int row), .imm (.int col), .imm (.int way), .own (.lst sn), s11] = .rt (.imm (.tup [e, sn'])) ρ' ∧ IsE e) ∨
    (∃ row' col' way', forS (gN 11) w_body t [.imm strip, .imm gate, .imm (.int w), .imm (.tup (css.map .str)), .imm side, .imm k, .imm (.int css.length), .imm (.int row), .imm (.int col), .imm (.int way), .own (.lst sn), s11] = .nx [.imm strip, .imm gate, .imm (.int w), .imm (.tup (css.map .str)), .imm side, .imm k, .imm (.int css.length), .imm (.int row'), .imm (.int col'), .imm (.int way'), .own (.lst (sn ++ [.tup [.int row, .int col, .int way]])), .imm t] ∧ Way way') := by
  rw [forS_ev]
  unfold w_body
  walk_at "ev"
  cases a1 : decide (col < 0) with
  | true =>
    walk_at "ev"
    rw [a1]
    walk_at "ev"
    exact .inl ⟨_, _, _, rfl, _, _, rfl, by decide⟩
  | false =>
  walk_at "ev"
  cases a2 : decide ((css.length : Int) ≤ col) with
  | true =>
    walk_at "ev"
    rw [a1]
    walk_at "ev"
    exact .inl ⟨_, _, _, rfl, _, _, rfl, by decide⟩
  | false =>
  walk_at "ev"
  cases a3 : decide (row < 0) with
  | true =>
    walk_at "ev"
    rw [a3]
    walk_at "ev"
    exact .inl ⟨_, _, _, rfl, _, _, rfl, by decide⟩
  | false =>
  walk_at "ev"
  cases a4 : decide (w ≤ row) with
  | true =>
    walk_at "ev"
    rw [a3]
    walk_at "ev"
    exact .inl ⟨_, _, _, rfl, _, _, rfl, by decide⟩
  | false =>
  have hdp : D.deps sn ≤ 60 := Nat.le_trans (dat_deps hsn) (by omega)
  walk_at "ev"
  rw [decide_eq_true hdp]
  walk_at "ev"
  cases a5 : sn.any fun z => D.eqv z (.tup [.int row, .int col, .int way]) with
  | true =>
    walk_at "ev"
    exact .inl ⟨_, _, _, rfl, _, _, rfl, by decide⟩
  | false =>
  simp only [decide_eq_false_iff_not] at a1 a2 a3 a4
  obtain ⟨cd, b1, b2, b3⟩ := atI_nat (xs := css.map D.str) (i := col) (by omega) (by rw [List.length_map]; omega)
  obtain ⟨cs, hcs, rfl⟩ := List.mem_map.mp b3
  obtain ⟨ch, g1, _, _⟩ := atI_nat (xs := cs) (i := row) (by omega) (by have := hc cs hcs; omega)
  walk_at "ev"
  rw [decide_eq_true (big_lt (by omega))]
  walk_at "ev"
  rw [b1]
  walk_at "ev"
  rw [g1]
  walk_at "ev"
  obtain ⟨r, q1, hr⟩ := onward_ok ch hw
  rw [q1]
  walk_at "ev"
  rcases hr with rfl | hr
  · walk_at "ev"
    exact .inl ⟨_, _, _, rfl, _, _, rfl, by decide⟩
  · rw [decide_eq_false hr.ne]
    walk_at "ev"
    obtain ⟨x, hx, hx'⟩ := atI_ways hr (D.int 1) (.int 0) (.int 0) (.int (-1))
    obtain ⟨y, hy, hy'⟩ := atI_ways hr (D.int 0) (.int (-1)) (.int 1) (.int 0)
    have : ∃ z, x = .int z := by rcases hx' with rfl | rfl | rfl | rfl <;> exact ⟨_, rfl⟩
    obtain ⟨z, rfl⟩ := this
    have : ∃ z, y = .int z := by rcases hy' with rfl | rfl | rfl | rfl <;> exact ⟨_, rfl⟩
    obtain ⟨z', rfl⟩ := this
    rw [hx]
    walk_at "ev"
    rw [hy]
    walk_at "ev"
    exact .inr ⟨_, _, _, rfl, hr⟩
theorem walk_ok {w : Int} (h1 : 1 ≤ w) (h2 : w ≤ 3) {css : List (List Nat)} (hl : css.length ≤ 100) (hc : ∀ cs ∈ css, (cs.length : Int) = w) {side : List Nat} (hs : side = sL ∨ side = sR) {k : Int} (hk : 0 ≤ k) (hk2 : k < w) :
    ∃ e sn, m_law_walk none [.tup [.int w, .tup (css.map .str)], .tup [.str side, .int k]] = .ret (.imm (.tup [e, sn])) none ∧ IsE e := by
  unfold m_law_walk
  rw [w_cut]
  have hll : (css.map D.str).length = css.length := List.length_map ..
  have hlen0 : (0 : Int) ≤ css.length := by omega
  have hb1 : -4611686018427387904 ≤ 4 * w * css.length + 1 ∧ 4 * w * css.length + 1 < 4611686018427387904 ∧ 4 * w * css.length + 1 ≤ 2000 := by
    have h12 : 4 * w ≤ 12 := by omega
    have := Int.mul_le_mul h12 (show (css.length : Int) ≤ 100 by omega) hlen0 (by omega)
    have := Int.mul_nonneg (show 0 ≤ 4 * w by omega) hlen0
    omega
  have hb2 : -18446744073709551616 < 4 * w ∧ 4 * w < 18446744073709551616 := by omega
  have hb3 : -18446744073709551616 < w ∧ w < 18446744073709551616 := by omega
  generalize hN : 4 * w * (css.length : Int) + 1 = N at hb1
  have hmain : ∀ (col way : Int), Way way → ∃ e sn, finF none ((forD (gN 11) w_body (rng 0 N.toNat) [.imm (.tup [.int w, .tup (css.map .str)]), .imm (.tup [.str side, .int k]), .imm (.int w), .imm (.tup (css.map .str)), .imm (.str side), .imm (.int k), .imm (.int css.length), .imm (.int k), .imm (.int col), .imm (.int way), .own (.lst []), .non]).seq w_tail) = .ret (.imm (.tup [e, sn])) none ∧ IsE e := by
    intro col way hw
    generalize hf : forD _ _ _ _ = o
    rcases forD_el hf (fun j ρ => ∃ row col way sn s11, ρ = [.imm (.tup [.int w, .tup (css.map .str)]), .imm (.tup [.str side, .int k]), .imm (.int w), .imm (.tup (css.map .str)), .imm (.str side), .imm (.int k), .imm (.int css.length), .imm (.int row), .imm (.int col), .imm (.int way), .own (.lst sn), s11] ∧ Way way ∧ (∀ d ∈ sn, Dat 3 1 d) ∧ sn.length ≤ j)
      (fun o => ∃ e sn ρ', o = .rt (.imm (.tup [e, sn])) ρ' ∧ IsE e) ⟨_, _, _, _, _, rfl, hw, by simp, by simp⟩ (by
        rintro j d ρ hj ⟨row, col, way, sn, s11, rfl, hw, hsn, hsl⟩
        have hj2 := (List.getElem?_eq_some_iff.mp hj).1
        rw [rng_len] at hj2
        rcases w_step hl hc hw hsn (by omega) with ⟨e, sn', ρ', h, he⟩ | ⟨row', col', way', h, hw'⟩
        · exact .inr (.inl ⟨_, _, h, _, _, _, rfl, he⟩)
        · refine .inl ⟨_, .inl h, _, _, _, _, _, rfl, hw', fun d hd => ?_, by rw [List.length_append, List.length_singleton]; omega⟩
          rcases List.mem_append.mp hd with hd | hd
          · exact hsn d hd
          · cases List.mem_singleton.mp hd
            exact datB_ok rfl) with ⟨ρ', rfl, row, col, way, sn, s11, rfl, _⟩ | ⟨e, sn, ρ', rfl, he⟩
    · unfold w_tail
      walk_at "ev"
      exact ⟨_, _, rfl, _, _, rfl, by decide⟩
    · walk_at "ev"
      exact ⟨_, _, rfl, he⟩
  rcases hs with rfl | rfl
  · unfold sL at hmain ⊢
    have hm := hmain 0 2 (by unfold Way; omega)
    walk_at "ev"
    rw [hll, decide_eq_true (Or.inl hb2)]
    walk_at "ev"
    rw [hN, decide_eq_true ⟨hb1.1, hb1.2.1⟩]
    walk_at "ev"
    exact hm
  · unfold sR at hmain ⊢
    have hm := hmain (css.length - 1) 1 (by unfold Way; omega)
    walk_at "ev"
    rw [hll, decide_eq_true (Or.inl hb2)]
    walk_at "ev"
    rw [hN, decide_eq_true ⟨hb1.1, hb1.2.1⟩]
    walk_at "ev"
    exact hm

def l_val : SV := (sIf (tyNot (bT (eCall 1 m_law_told_right (aCons (frzE (eV 9)) aNil)))) (sRet (eC (.bl false))) sNext)
def l_turn : SV := (sSeq (sSet 8 (eCall 3 (m_law_variant 6) (aCons (eV 2) (aCons (frzE (eCall 2 m_law_chosen (aCons (eV 2) (aCons (frzE (eLst (aCons (frzE (eV 3)) (aCons (frzE (eV 4)) (aCons (frzE (eV 5)) aNil))))) aNil)))) (aCons (eC (.int 4)) aNil)))))
    (sSeq (sApp 6 (frzE (eV 8)))
    (sIf (tyAnd (bT (eIsi "tuple" (eV 8))) (bT (e2 eqG (eCall 2 m_law_pick (aCons (eV 2) (aCons (eC (.int 3)) aNil))) (eC (.int 0))))) (sApp 6 (frzE (eCall 3 (m_law_variant 6) (aCons (eV 2) (aCons (frzE (eV 8)) (aCons (eC (.int 4)) aNil)))))) sNext)))
def l_outer : SV := (sSeq (sSet 2 (eCall 2 m_law_source (aCons (eV 0) (aCons (eV 1) aNil))))
    (sSeq (sSet 3 (eCall 3 m_law_strip (aCons (eV 2) (aCons (e2 addG (eC (.int 1)) (eCall 2 m_law_pick (aCons (eV 2) (aCons (eC (.int 3)) aNil)))) (aCons (eC (.int 8)) aNil)))))
    (sSeq (sSet 4 (eCall 1 m_law_table (aCons (frzE (eV 3)) aNil)))
    (sSeq (sSet 5 (eTup (aCons (eC (.int 2)) (aCons (eTup (aCons (frzE (eCall 2 m_law_column (aCons (eV 2) (aCons (eC (.int 2)) aNil)))) (aCons (e2 addG (eC (.str [63])) (eCall 2 m_law_chosen (aCons (eV 2) (aCons (frzE (eLst (aCons (eC (.str [46])) (aCons (eC (.str [63])) (aCons (eC (.str [120])) aNil))))) aNil)))) (aCons (eC (.str [112, 63])) aNil)))) aNil))))
    (sSeq (sSet 6 (eLst (aCons (frzE (eV 3)) (aCons (frzE (eV 4)) (aCons (frzE (eV 5)) (aCons (frzE (eB listG (aCons (eV 3) aNil))) (aCons (frzE (eB listG (aCons (eV 4) aNil))) (aCons (eTup (aCons (e2 ixD (eV 3) (eC (.int 0))) (aCons (frzE (eB listG (aCons (e2 ixD (eV 3) (eC (.int 1))) aNil))) aNil))) (aCons (e2 ixD (eV 4) (eC (.int 0))) (aCons (e2 ixD (eV 3) (eC (.int 1))) aNil))))))))))
    (sSeq (sFor (iR1 (aCons (eC (.int 30)) aNil)) (gN 7) l_turn)
    (sFor (iSeq (frzE (e2 addG (eV 6) (eLst (aCons (frzE (eCall 2 (m_law_any_value 5) (aCons (eV 2) (aCons (eC (.int 3)) aNil)))) aNil))))) (gN 9) l_val)))))))
def l_tail : SV := (sSeq (sSet 4 (eLst (aCons (eTup (aCons (eC (.int 1)) (aCons (e2 mulG (eTup (aCons (eC (.str [117])) aNil)) (eC (.int 40))) aNil))) (aCons (eTup (aCons (eC (.int 1)) (aCons (e2 mulG (eTup (aCons (eC (.str [117])) aNil)) (eC (.int 41))) aNil))) (aCons (eTup (aCons (eC (.int 3)) (aCons (eTup (aCons (eC (.str [117, 46, 100])) aNil)) aNil))) (aCons (eTup (aCons (eC (.int 4)) (aCons (eTup (aCons (eC (.str [117, 46, 100, 46])) aNil)) aNil))) (aCons (eTup (aCons (eC (.int 0)) (aCons (eTup aNil) aNil))) (aCons (eTup (aCons (eC (.bl true)) (aCons (eTup (aCons (eC (.str [117])) aNil)) aNil))) (aCons (eTup (aCons (eC (.int 1)) (aCons (eTup aNil) aNil))) aNil)))))))))
    (sSeq (sSet 4 (e2 addG (eV 4) (eLst (aCons (eTup (aCons (eC (.int 1)) (aCons (e2 mulG (eTup (aCons (eC (.str [63])) aNil)) (eC (.int 3))) aNil))) (aCons (eTup (aCons (eC (.int 1)) (aCons (e2 mulG (eTup (aCons (eC (.str [63])) aNil)) (eC (.int 4))) aNil))) (aCons (eTup (aCons (eC (.int 1)) (aCons (e2 addG (eTup (aCons (eC (.str [63])) aNil)) (e2 mulG (eTup (aCons (eC (.str [46])) aNil)) (eC (.int 11)))) aNil))) (aCons (eTup (aCons (eC (.int 1)) (aCons (e2 addG (eTup (aCons (eC (.str [63])) aNil)) (e2 mulG (eTup (aCons (eC (.str [46])) aNil)) (eC (.int 12)))) aNil))) aNil)))))))
    (sSeq (sSet 4 (e2 addG (eV 4) (eLst (aCons (eTup (aCons (eC (.int 3)) (aCons (eTup (aCons (eC (.str [63, 46, 46])) aNil)) aNil))) (aCons (eTup (aCons (eC (.int 2)) (aCons (eTup (aCons (eC (.str [63])) aNil)) aNil))) (aCons (eTup (aCons (eC (.int 1)) (aCons (eTup (aCons (eC (.str [85])) aNil)) aNil))) (aCons (eTup (aCons (eC (.int 1)) (aCons (eTup (aCons (eC (.str [])) aNil)) aNil))) (aCons (eTup (aCons (eTup (aCons (eTup (aCons (eC (.str [116, 111, 112])) (aCons (eC (.int 0)) aNil))) aNil)) (aCons (eTup (aCons (eTup (aCons (eC (.str [116, 111, 112])) (aCons (eC (.int 1)) aNil))) aNil)) aNil))) aNil))))))))
    (sSeq (sSet 10 (eTup (aCons (eC (.str [114, 105, 103, 104, 116])) (aCons (eC (.int 0)) aNil))))
    (sSeq (sSet 4 (e2 addG (eV 4) (eLst (aCons (eTup (aCons (eTup (aCons (frzE (eV 10)) aNil)) (aCons (eTup (aCons (frzE (eV 10)) aNil)) aNil))) (aCons (eTup (aCons (eTup (aCons (frzE (eV 10)) (aCons (frzE (eV 10)) aNil))) (aCons (eTup (aCons (frzE (eV 10)) aNil)) aNil))) (aCons (eTup (aCons (eTup (aCons (eTup (aCons (eC (.str [114, 105, 103, 104, 116])) (aCons (eC (.int 1)) aNil))) aNil)) (aCons (eTup (aCons (frzE (eV 10)) aNil)) aNil))) (aCons (eTup (aCons (e2 mulG (eTup (aCons (frzE (eV 10)) aNil)) (eC (.int 4))) (aCons (e2 mulG (eTup (aCons (frzE (eV 10)) aNil)) (eC (.int 4))) aNil))) aNil)))))))
    (sSeq (sApp 4 (eTup (aCons (eTup (aCons (eTup (aCons (eC (.str [99, 97, 117, 103, 104, 116])) (aCons (eC (.int 0)) aNil))) (aCons (eTup (aCons (eC (.str [114, 105, 103, 104, 116])) (aCons (eC (.int 1)) aNil))) aNil))) (aCons (eTup (aCons (eTup (aCons (eC (.str [99, 97, 117, 103, 104, 116])) (aCons (eC (.int 1)) aNil))) (aCons (eTup (aCons (eC (.str [108, 101, 102, 116])) (aCons (eC (.int 1)) aNil))) aNil))) aNil))))
    (sRet (e2 eqG (eLc (iSeq (frzE (eV 4))) (gN 9) (tyNot (bT (eCall 1 m_law_told_right (aCons (eV 9) aNil)))) (eV 9) [9]) (eLst aNil)))))))))
theorem l_cut : b_law = (sSeq (sFor (iR1 (aCons (eB max2G (aCons (eC (.int 6)) (aCons (eB min2G (aCons (eC (.int 20)) (aCons (eB lenG (aCons (eV 0) aNil)) aNil))) aNil))) aNil)) (gN 1) l_outer) l_tail) := rfl
theorem plain_ok {e : D} (h : IsE e) : ∃ e', m_law_plain none [e] = .ret (.imm e') none ∧ IsE e' := by
  obtain ⟨s, i, rfl, hs⟩ := h
  unfold m_law_plain b_law_plain
  walk_at "ev"
  cases (decide ([108, 101, 102, 116] = s) || decide ([114, 105, 103, 104, 116] = s)) with
  | true =>
    walk_at "ev"
    exact ⟨_, rfl, _, _, rfl, hs⟩
  | false =>
    walk_at "ev"
    exact ⟨_, rfl, _, _, rfl, hs⟩
theorem IsE.dat {e : D} (h : IsE e) : Dat 20 1 e := by
  obtain ⟨s, i, rfl, hs⟩ := h
  refine .tup _ _ (by simp) fun d hd => ?_
  simp only [List.mem_cons, List.not_mem_nil, or_false] at hd
  rcases hd with rfl | rfl
  · exact .str _ _ (by omega)
  · exact .int _ _
theorem table_ok {w : Int} (h1 : 1 ≤ w) (h2 : w ≤ 3) {css : List (List Nat)} (hl : css.length ≤ 100) (hc : ∀ cs ∈ css, (cs.length : Int) = w) :
    ∃ as bs, m_law_table none [.tup [.int w, .tup (css.map .str)]] = .ret (.imm (.tup [.tup as, .tup bs])) none ∧ as.length ≤ 3 ∧ bs.length ≤ 3 ∧ (∀ e ∈ as, IsE e) ∧ ∀ e ∈ bs, IsE e := by
  unfold m_law_table b_law_table
  have hr : -4611686018427387904 ≤ w ∧ w < 4611686018427387904 := by omega
  have hz : w.toNat ≤ sizeLine := big_le (by omega)
  have hz0 : 0 < sizeLine := big_lt (by omega)
  have hz1 : 1 < sizeLine := big_lt (by omega)
  have step : ∀ (rs : List D) (side : List Nat) (hs : side = sL ∨ side = sR) (hrs : rs.length < sizeLine) (s2 : Slot), ∃ as : List D, as.length ≤ 3 ∧ (∀ e ∈ as, IsE e) ∧ forS (gN 2) (sApp 1 (eB tupleG (aCons (eLc (iL (iR1 (aCons (e2 ixD (eV 0) (eC (.int 0))) aNil))) (gN 3) tyYes (frzE (eCall 1 m_law_plain (aCons (e2 ixD (eCall 2 m_law_walk (aCons (eV 0) (aCons (eTup (aCons (eV 2) (aCons (eV 3) aNil))) aNil))) (eC (.int 0))) aNil))) [3]) aNil))) (.str side)
      [.imm (.tup [.int w, .tup (css.map .str)]), .own (.lst rs), s2, .non] = .nx [.imm (.tup [.int w, .tup (css.map .str)]), .own (.lst (rs ++ [.tup as])), .imm (.str side), .non] := by
    intro rs side hs hrs s2
    rw [forS_ev]
    walk_at "ev"
    rw [decide_eq_true hr]
    walk_at "ev"
    rw [decide_eq_true hz]
    walk_at "ev"
    generalize hf : lcD _ _ _ _ _ _ = o
    obtain ⟨ys, ρ', rfl, rfl, hl, hy⟩ := lcD_elQ hf (fun ρ => ρ = [.imm (.tup [.int w, .tup (css.map .str)]), .own (.lst rs), .imm (.str side), .non]) IsE rfl (by
      rintro d hd ρ rfl
      obtain ⟨i, hi, rfl⟩ := rng_mem hd
      rw [lcS_ev]
      obtain ⟨e, sn, q1, he⟩ := walk_ok h1 h2 hl hc hs (k := 0 + (i : Nat)) (by omega) (by omega)
      obtain ⟨e', q2, he'⟩ := plain_ok he
      walk_at "ev"
      rw [q1]
      walk_at "ev"
      rw [q2]
      walk_at "ev"
      exact ⟨_, _, rfl, rfl, he'⟩)
    refine ⟨ys, by rw [hl, rng_len]; omega, hy, ?_⟩
    walk_at "ev"
    rw [decide_eq_true hrs]
    walk_at "ev"
  obtain ⟨as, ha1, ha2, ha⟩ := step [] sL (.inl rfl) hz0 .non
  obtain ⟨bs, hb1, hb2, hb⟩ := step [.tup as] sR (.inr rfl) hz1 (.imm (.str sL))
  unfold sL at ha hb
  unfold sR at hb
  rw [List.nil_append] at ha
  walk_at "ev"
  rw [ha]
  walk_at "ev"
  rw [hb]
  walk_at "ev"
  exact ⟨_, _, rfl, ha1, hb1, ha2, hb2⟩

theorem var6_ok {m : M} (hm : Src m) {L n : Nat} {ds : List D} (hd : Dat L n (.tup ds)) (hL : 20 ≤ L) (hL2 : L ≤ 1000) (hn : 8 ≤ n) (hn2 : n + 5 ≤ 40) :
    ∃ r m', m_law_variant 6 (some m) [.tup ds, .int 4] = .ret r (some m') ∧ Src m' ∧ Dat (3 * L + 1) (n + 6) r.toD ∧ ∃ es, r = .imm (.tup es) ∨ r = .new (.lst es) := by
  obtain ⟨r, m', h, hm', es, hr, h1, h2⟩ := var_ok 5 hm hd hL hL2 hn hn2 4 (by omega)
  refine ⟨r, m', h, hm', ?_, es, hr⟩
  rcases hr with rfl | rfl
  · exact .tup _ _ h1 h2
  · exact .lst _ _ h1 h2
theorem turn_ok {m : M} (hm : Src m) {sc k strip rows some_ t : D} {as bs cs vs : List D} (h1 : strip = .tup as) (h2 : rows = .tup bs) (h3 : some_ = .tup cs) (hs : Dat 20 8 strip) (hr : Dat 20 8 rows) (hso : Dat 20 8 some_) (hv : ∀ v ∈ vs, Dat 1000 30 v) (hvl : vs.length ≤ 90000) {s7 s8 s9 s10 : Slot} :
    ∃ m' vs' s8', forS (gN 7) l_turn t [.imm sc, .imm k, .own m, .imm strip, .imm rows, .imm some_, .own (.lst vs), s7, s8, s9, s10] = .nx [.imm sc, .imm k, .own m', .imm strip, .imm rows, .imm some_, .own (.lst vs'), .imm t, s8', s9, s10] ∧ Src m' ∧ (∀ v ∈ vs', Dat 1000 30 v) ∧ vs'.length ≤ vs.length + 2 := by
  subst h1 h2 h3
  rw [forS_ev]
  unfold l_turn
  obtain ⟨x, m1, q1, hm1, hx⟩ := chosen_ok hm (d := .lst [.tup as, .tup bs, .tup cs]) (.inr rfl) (by simp) (by simp)
  have hx' : Dat 20 8 x ∧ ∃ ds, x = .tup ds := by
    simp only [List.mem_cons, List.not_mem_nil, or_false] at hx
    rcases hx with rfl | rfl | rfl
    · exact ⟨hs, _, rfl⟩
    · exact ⟨hr, _, rfl⟩
    · exact ⟨hso, _, rfl⟩
  obtain ⟨hxd, ds, rfl⟩ := hx'
  obtain ⟨r, m2, q2, hm2, hrd, es, hes⟩ := var6_ok hm1 hxd (by omega) (by omega) (by omega) (by omega)
  have hap : ∀ (ws : List D) (y : D), (∀ v ∈ ws, Dat 1000 30 v) → Dat 1000 30 y → ∀ v ∈ ws ++ [y], Dat 1000 30 v := fun ws y h hy v hv => by
    rcases List.mem_append.mp hv with hv | hv
    · exact h v hv
    · cases List.mem_singleton.mp hv; exact hy
  have hb1 : vs.length < sizeLine := big_lt (by omega)
  walk_at "ev"
  rw [q1]
  walk_at "ev"
  rw [q2]
  rcases hes with rfl | rfl
  · have hod : Dat 1000 30 (.tup es) := hrd.mono (by omega) (by omega)
    have hv1 := hap vs _ hv hod
    have hb2 : (vs ++ [D.tup es]).length < sizeLine := big_lt (by rw [List.length_append, List.length_singleton]; omega)
    obtain ⟨p, m3, q3, hm3, _⟩ := pick_ok hm2 (n := 3) (by omega) (by omega)
    walk_at "ev"
    rw [decide_eq_true hb1]
    walk_at "ev"
    rw [q3]
    walk_at "ev"
    cases decide (p = 0) with
    | false =>
      walk_at "ev"
      exact ⟨_, _, _, rfl, hm3, hv1, by rw [List.length_append, List.length_singleton]; omega⟩
    | true =>
      obtain ⟨r', m4, q4, hm4, hrd', _⟩ := var6_ok hm3 hrd (by omega) (by omega) (by omega) (by omega)
      walk_at "ev"
      rw [q4]
      walk_at "ev"
      rw [decide_eq_true hb2]
      walk_at "ev"
      exact ⟨_, _, _, rfl, hm4, hap _ _ hv1 (hrd'.mono (by omega) (by omega)), by simp⟩
  · have hod : Dat 1000 30 (.lst es) := hrd.mono (by omega) (by omega)
    walk_at "ev"
    rw [decide_eq_true hb1]
    walk_at "ev"
    exact ⟨_, _, _, rfl, hm2, hap vs _ hv hod, by rw [List.length_append, List.length_singleton]; omega⟩

theorem strip_dat {w : Int} {css : List (List Nat)} (h1 : 0 ≤ w) (h2 : w ≤ 20) (hl : css.length ≤ 20) (hc : ∀ cs ∈ css, (cs.length : Int) = w) : Dat 20 8 (.tup (css.map .str)) ∧ Dat 20 8 (.tup [.int w, .tup (css.map .str)]) := by
  have hs : ∀ d ∈ css.map D.str, Dat 20 6 d := fun d hd => by
    obtain ⟨cs, hcs, rfl⟩ := List.mem_map.mp hd
    exact .str _ _ (by have := hc cs hcs; omega)
  have h : Dat 20 7 (.tup (css.map D.str)) := .tup _ _ (by rw [List.length_map]; omega) hs
  refine ⟨h.mono (by omega) (by omega), .tup _ _ (by simp) fun d hd => ?_⟩
  simp only [List.mem_cons, List.not_mem_nil, or_false] at hd
  rcases hd with rfl | rfl
  · exact .int _ _
  · exact h
theorem outer_ok (ns : List Int) {k : Int} (hk : 0 ≤ k) (hk2 : k < 1000) {s1 s2 s3 s4 s5 s6 s7 s8 s9 s10 : Slot} :
    ∃ ρ', forS (gN 1) l_outer (.int k) [.imm (.seq ns), s1, s2, s3, s4, s5, s6, s7, s8, s9, s10] = .nx ρ' ∧ ∃ s1 s2 s3 s4 s5 s6 s7 s8 d9, ρ' = [.imm (.seq ns), s1, s2, s3, s4, s5, s6, s7, s8, .imm d9, s10] := by
  obtain ⟨m, q1, hm⟩ := source_ok ns k hk hk2
  obtain ⟨p, m1, q2, hm1, hp1, hp2⟩ := pick_ok hm (n := 3) (by omega) (by omega)
  obtain ⟨css, m2, q3, hm2, hcl, hcc⟩ := strip_ok hm1 (w := 1 + p) (by omega) (by omega)
  obtain ⟨as, bs, q4, ha1, hb1, ha2, hb2⟩ := table_ok (w := 1 + p) (by omega) (by omega) (css := css) (by omega) hcc
  obtain ⟨cs, m3, q5, hm3, hcs⟩ := column_ok hm2 (w := 2) (by omega) (by omega)
  obtain ⟨x, m4, q6, hm4, hx⟩ := chosen_ok hm3 (d := .lst [.str [46], .str [63], .str [120]]) (.inr rfl) (by simp) (by simp)
  have hx' : ∃ c : Nat, x = .str [c] := by
    simp only [List.mem_cons, List.not_mem_nil, or_false] at hx
    rcases hx with rfl | rfl | rfl <;> exact ⟨_, rfl⟩
  obtain ⟨c, rfl⟩ := hx'
  obtain ⟨hcd, hsd⟩ := strip_dat (w := 1 + p) (by omega) (by omega) (css := css) (by omega) hcc
  have hz2 : 2 ≤ sizeLine := big_le (by omega)
  have hrd : Dat 20 8 (.tup [.tup as, .tup bs]) := by
    refine .tup _ _ (by simp) fun d hd => ?_
    simp only [List.mem_cons, List.not_mem_nil, or_false] at hd
    rcases hd with rfl | rfl
    · exact .tup _ _ (by omega) fun e he => (ha2 e he).dat.mono (by omega) (by omega)
    · exact .tup _ _ (by omega) fun e he => (hb2 e he).dat.mono (by omega) (by omega)
  have hsod : Dat 20 8 (.tup [.int 2, .tup [.str cs, .str [63, c], .str [112, 63]]]) := by
    refine .tup _ _ (by simp) fun d hd => ?_
    simp only [List.mem_cons, List.not_mem_nil, or_false] at hd
    rcases hd with rfl | rfl
    · exact .int _ _
    · refine .tup _ _ (by simp) fun d hd => ?_
      simp only [List.mem_cons, List.not_mem_nil, or_false] at hd
      rcases hd with rfl | rfl | rfl
      · exact .str _ _ (by omega)
      · exact .str _ _ (by simp)
      · exact .str _ _ (by simp)
  have toL : ∀ {ds : List D}, Dat 20 8 (.tup ds) → Dat 1000 30 (.lst ds) := fun {ds} h => by
    cases h with
    | tup n ds h k => exact .lst _ _ (by omega) fun d hd => (k d hd).mono (by omega) (by omega)
  have up : ∀ {d : D}, Dat 20 8 d → Dat 1000 30 d := fun h => h.mono (by omega) (by omega)
  rw [forS_ev]
  unfold l_outer
  walk_at "ev"
  rw [q1]
  walk_at "ev"
  rw [q2]
  walk_at "ev"
  rw [q3]
  walk_at "ev"
  rw [q4]
  walk_at "ev"
  rw [q5]
  walk_at "ev"
  rw [q6]
  walk_at "ev"
  rw [decide_eq_true hz2]
  walk_at "ev"
  generalize hv0 : [D.tup [.int (1 + p), .tup (css.map .str)], .tup [.tup as, .tup bs], .tup [.int 2, .tup [.str cs, .str [63, c], .str [112, 63]]], .lst [.int (1 + p), .tup (css.map .str)], .lst [.tup as, .tup bs], .tup [.int (1 + p), .lst (css.map .str)], .tup as, .tup (css.map .str)] = vs0
  have hvd : ∀ v ∈ vs0, Dat 1000 30 v := by
    subst hv0
    intro v hv
    simp only [List.mem_cons, List.not_mem_nil, or_false] at hv
    rcases hv with rfl | rfl | rfl | rfl | rfl | rfl | rfl | rfl
    · exact up hsd
    · exact up hrd
    · exact up hsod
    · exact toL hsd
    · exact toL hrd
    · refine .tup _ _ (by simp) fun d hd => ?_
      simp only [List.mem_cons, List.not_mem_nil, or_false] at hd
      rcases hd with rfl | rfl
      · exact .int _ _
      · refine .lst _ _ (by rw [List.length_map]; omega) fun d hd => ?_
        obtain ⟨cs, hcs, rfl⟩ := List.mem_map.mp hd
        exact .str _ _ (by have := hcc cs hcs; omega)
    · exact up (hrd.inT _ (by simp))
    · exact up hcd
  have hvl : vs0.length = 8 := by rw [← hv0]; rfl
  clear hv0
  generalize hf : forD (gN 7) _ _ _ = o
  obtain ⟨ρ', rfl, m5, vs, s7', s8', rfl, hm5, hvs, hvsl⟩ := forD_el1 hf (fun j ρ => ∃ m vs s7 s8, ρ = [.imm (.seq ns), .imm (.int k), .own m, .imm (.tup [.int (1 + p), .tup (css.map .str)]), .imm (.tup [.tup as, .tup bs]), .imm (.tup [.int 2, .tup [.str cs, .str [63, c], .str [112, 63]]]), .own (.lst vs), s7, s8, s9, s10] ∧ Src m ∧ (∀ v ∈ vs, Dat 1000 30 v) ∧ vs.length ≤ 8 + 2 * j) ⟨_, _, _, _, rfl, hm4, hvd, by omega⟩ (by
    rintro j d ρ hj ⟨m, vs, s7, s8, rfl, hm, hvs, hvl⟩
    have hj2 := (List.getElem?_eq_some_iff.mp hj).1
    rw [rng_len] at hj2
    obtain ⟨m', vs', s8', h, hm', hvs', hvl'⟩ := turn_ok hm (sc := .seq ns) (k := .int k) (t := d) rfl rfl rfl hsd hrd hsod hvs (by omega) (s7 := s7) (s8 := s8) (s9 := s9) (s10 := s10)
    exact ⟨_, .inl h, _, _, _, _, rfl, hm', hvs', by omega⟩)
  rw [rng_len] at hvsl
  obtain ⟨r, m6, q7, hm6, hr⟩ := any_ok 4 hm5 3 (by omega)
  have hz3 : vs.length + 1 ≤ sizeLine := big_le (by omega)
  walk_at "ev"
  rw [q7]
  walk_at "ev"
  rw [decide_eq_true hz3]
  walk_at "ev"
  have hall : ∀ v ∈ vs ++ [r.toD], Dat 1000 30 v := fun v hv => by
    rcases List.mem_append.mp hv with hv | hv
    · exact hvs v hv
    · cases List.mem_singleton.mp hv; exact hr.mono (by omega) (by omega)
  generalize hf2 : forD (gN 9) _ _ _ = o
  obtain ⟨ρ', rfl, s9', rfl, h9⟩ := forD_el1 hf2 (fun j ρ => ∃ s9', ρ = [.imm (.seq ns), .imm (.int k), .own m6, .imm (.tup [.int (1 + p), .tup (css.map .str)]), .imm (.tup [.tup as, .tup bs]), .imm (.tup [.int 2, .tup [.str cs, .str [63, c], .str [112, 63]]]), .own (.lst vs), s7', s8', s9', s10] ∧ (j = 0 ∨ ∃ d, s9' = .imm d)) ⟨_, rfl, .inl rfl⟩ (by
    rintro j d ρ hj ⟨s9', rfl, _⟩
    rw [forS_ev]
    unfold l_val
    walk_at "ev"
    rw [told_ok (hall d (List.mem_of_getElem? hj)) (by omega)]
    unfold rB
    walk_at "ev"
    exact ⟨_, rfl, _, rfl, _, rfl⟩)
  rcases h9 with h9 | ⟨d9, rfl⟩
  · rw [List.length_append, List.length_singleton] at h9; omega
  · exact ⟨_, rfl, _, _, _, _, _, _, _, _, _, rfl⟩
theorem tail_ok {sc : D} {s1 s2 s3 s4 s5 s6 s7 s8 : Slot} {s9 : Slot} (h9 : plS (some s9) = true) : ∃ ρ', l_tail [.imm sc, s1, s2, s3, s4, s5, s6, s7, s8, s9, .non] = .rt (.imm (.bl true)) ρ' := by
  unfold l_tail
  have z1 : 11 ≤ sizeLine := big_le (by omega)
  have z2 : 16 ≤ sizeLine := big_le (by omega)
  have z3 : 20 ≤ sizeLine := big_le (by omega)
  have z4 : 20 < sizeLine := big_lt (by omega)
  have z5 : 1 + (repT 11 [.str [46]]).length ≤ sizeLine := big_le (by decide)
  have z6 : 1 + (repT 12 [.str [46]]).length ≤ sizeLine := big_le (by decide)
  walk_at "evs"
  generalize hv : [D.tup [D.int 1, D.tup (repT 40 [D.str [117]])], _, _, _, _, _, _, _, _, _, _, _, _, _, _, _, _, _, _, _, _] = vs
  have hall : ∀ v ∈ vs, Dat 100 10 v := datAll (by rw [← hv]; decide +kernel)
  clear hv
  rw [lcD_pure (F := fun _ => none) (by
    intro d hd
    rw [lcS_ev]
    walk_at "ev"
    rw [told_ok (hall d hd) (by omega)]
    unfold rB
    walk_at "ev")]
  have hnil : vs.filterMap (fun _ => (none : Option D)) = [] := by simp
  rw [hnil]
  walk_at "ev"
  exact ⟨_, rfl⟩

theorem law_true : ∀ ns : List Int, ns.length ≤ 63 → m_law none [.seq ns] = .ret (.imm (.bl true)) none := by
  intro ns hns
  unfold m_law
  rw [l_cut]
  walk_at "ev"
  generalize hN : (if (if (ns.length : Int) < 20 then (ns.length : Int) else 20) > 6 then (if (ns.length : Int) < 20 then (ns.length : Int) else 20) else 6) = N
  have hN1 : -4611686018427387904 ≤ N ∧ N < 4611686018427387904 := by
    rw [← hN]; split <;> split <;> omega
  have hN2 : 6 ≤ N ∧ N ≤ 20 := by
    rw [← hN]; split <;> split <;> omega
  rw [decide_eq_true hN1]
  walk_at "ev"
  generalize hf : forD (gN 1) _ _ _ = o
  obtain ⟨ρ', rfl, s1, s2, s3, s4, s5, s6, s7, s8, s9, rfl, h9⟩ := forD_el1 hf (fun j ρ => ∃ s1 s2 s3 s4 s5 s6 s7 s8 s9, ρ = [.imm (.seq ns), s1, s2, s3, s4, s5, s6, s7, s8, s9, .non] ∧ plS (some s9) = true) ⟨_, _, _, _, _, _, _, _, _, rfl, rfl⟩ (by
    rintro j d ρ hj ⟨s1, s2, s3, s4, s5, s6, s7, s8, s9, rfl, h9⟩
    obtain ⟨hj1, rfl⟩ := rng_get hj
    obtain ⟨ρ', h, t1, t2, t3, t4, t5, t6, t7, t8, d9, rfl⟩ := outer_ok ns (k := 0 + (j : Nat)) (by omega) (by omega) (s1 := s1) (s2 := s2) (s3 := s3) (s4 := s4) (s5 := s5) (s6 := s6) (s7 := s7) (s8 := s8) (s9 := s9) (s10 := .non)
    exact ⟨_, .inl h, _, _, _, _, _, _, _, _, _, rfl, rfl⟩)
  obtain ⟨ρ2, h⟩ := tail_ok (sc := .seq ns) (s1 := s1) (s2 := s2) (s3 := s3) (s4 := s4) (s5 := s5) (s6 := s6) (s7 := s7) (s8 := s8) h9
  walk_at "ev"
  rw [h]
  walk_at "ev"

end DL
namespace DL
open PySem PySem.Spec PyProof.Rows L2
def topS (i : Nat) : Stmt := PySem.Challenge.pw_mirrorstrips_k01_strips_and_patterns_rec.main.body.getD i (.Pass ⟨0, 0, 0, 0⟩)
section
variable {G : Gm} {mg : Str → Option Value} {base : Heap}
abbrev s_is_within : Stmt := topS 5
theorem sc_is_within : FnScope ["value", "low", "high"] ["value", "low", "high"] (defScope s_is_within) := ⟨rfl, rfl, rfl, by decide +kernel, rfl, by decide +kernel, by decide +kernel⟩
theorem ok_is_within {f : Addr} {fd : FuncData} (F : Fun G.K "is_within" "is_within" s_is_within f fd) (n_bool : mg "bool" = none) (n_int : mg "int" = none) (n_isinstance : mg "isinstance" = none) : FnG G mg base 1 3 f m_is_within :=
  ⟨⟨_, ["value", "low", "high"], okD (k := 0) (np := 3) (nx := 0) F sc_is_within rfl rfl (fun B cdv A outer s H E hr => (show DSs _ _ _ _ b_is_within from (dss_one (ds_ret (dx_and (dx_isi "int" rfl rfl n_isinstance bt_isinstance rfl n_int bt_int (dx_var 0)) (dx_and (dx_not (dx_isi "bool" rfl rfl n_isinstance bt_isinstance rfl n_bool bt_bool (dx_var 0))) (dx_one (dx_chain op_le op_le leG_ok leG_ok (dx_var 1) (dx_var 0) (dx_var 2) rfl)))))))), (F.binds (ps := ["value", "low", "high"]) fun _ _ _ _ _ _ us hl => match us, hl with | [_, _, _], _ => rfl)⟩, F.kp⟩

abbrev s_is_column : Stmt := topS 6
theorem sc_is_column : FnScope ["value", "width", "signs", "sign"] ["value", "width", "signs"] (defScope s_is_column) := ⟨rfl, rfl, rfl, by decide +kernel, rfl, by decide +kernel, by decide +kernel⟩
theorem ok_is_column {f : Addr} {fd : FuncData} (F : Fun G.K "is_column" "is_column" s_is_column f fd) (n_all : mg "all" = none) (n_isinstance : mg "isinstance" = none) (n_len : mg "len" = none) (n_str : mg "str" = none) : FnG G mg base 1 3 f m_is_column :=
  ⟨⟨_, ["value", "width", "signs"], okD (k := 0) (np := 3) (nx := 1) F sc_is_column rfl rfl (fun B cdv A outer s H E hr => (show DSs _ _ _ _ b_is_column from (dss_one (ds_ret (dx_and (dx_isi "str" rfl rfl n_isinstance bt_isinstance rfl n_str bt_str (dx_var 0)) (dx_and (dx_cmp (op_eqD hr.units) eqG_ok (dx_callB call_len (lenG_ok rfl) rfl n_len bt_len (da_cons (dx_var 0) da_nil)) (dx_var 1) (nomark _)) (dx_one (dx_callB (cr_all rfl) allG_ok rfl n_all bt_all (da_cons (dx_lc (own := [("sign", 3)]) rfl sc_is_column.nd (di_seq rfl (dx_var 0)) (blkOk_by (N := ["value", "width", "signs", "sign"]) (sc := defScope s_is_column) (by decide +kernel)) (his := by decide) (fun _ _ _ _ _ => (dg_name (i := 3) sc_is_column.nd rfl (by first | exact Or.inl rfl | exact Or.inr rfl))) (fun _ _ _ _ _ => dts_nil) (fun _ _ _ _ _ => (dx_cmp (op_inA (ru65 hr)) inG_ok (dx_var 3) (dx_var 2) (by rfl)))) da_nil))))))))), (F.binds (ps := ["value", "width", "signs"]) fun _ _ _ _ _ _ us hl => match us, hl with | [_, _, _], _ => rfl)⟩, F.kp⟩

abbrev s_are_columns : Stmt := topS 7
theorem sc_are_columns : FnScope ["value", "width", "most", "signs", "column"] ["value", "width", "most", "signs"] (defScope s_are_columns) := ⟨rfl, rfl, rfl, by decide +kernel, rfl, by decide +kernel, by decide +kernel⟩
theorem ok_are_columns {f : Addr} {fd : FuncData} (F : Fun G.K "are_columns" "are_columns" s_are_columns f fd) (n_all : mg "all" = none) {a_is_column : Addr} (g_is_column : mg "is_column" = some (.ref a_is_column)) (F_is_column : FnG G mg base 1 3 a_is_column m_is_column) (n_isinstance : mg "isinstance" = none) (n_len : mg "len" = none) (n_tuple : mg "tuple" = none) : FnG G mg base 2 4 f m_are_columns :=
  ⟨⟨_, ["value", "width", "most", "signs"], okD (k := 1) (np := 4) (nx := 1) F sc_are_columns rfl rfl (fun B cdv A outer s H E hr => (show DSs _ _ _ _ b_are_columns from (dss_cons (ds_if (DW.dt (dw_or (dt_not (dt_val (dx_isi "tuple" rfl rfl n_isinstance bt_isinstance rfl n_tuple bt_tuple (dx_var 0)))) (dw_or1 (dt_cmp op_gt gtG_ok (dx_callB call_len (lenG_ok rfl) rfl n_len bt_len (da_cons (dx_var 0) da_nil)) (dx_var 2) (nomark _))))) (dss_one (ds_ret dx_bl)) dss_nil)
    (dss_one (ds_ret (dx_callB (cr_all rfl) allG_ok rfl n_all bt_all (da_cons (dx_lc (own := [("column", 4)]) rfl sc_are_columns.nd (di_seq rfl (dx_var 0)) (blkOk_by (N := ["value", "width", "most", "signs", "column"]) (sc := defScope s_are_columns) (by decide +kernel)) (his := by decide) (fun _ _ _ _ _ => (dg_name (i := 4) sc_are_columns.nd rfl (by first | exact Or.inl rfl | exact Or.inr rfl))) (fun _ _ _ _ _ => dts_nil) (fun _ _ _ _ _ => (dx_frz (dx_fn F_is_column (hr.mono (by decide)) g_is_column takesF (da_cons (dx_var 4) (da_cons (dx_var 1) (da_cons (dx_var 3) da_nil))))))) da_nil))))))), (F.binds (ps := ["value", "width", "most", "signs"]) fun _ _ _ _ _ _ us hl => match us, hl with | [_, _, _, _], _ => rfl)⟩, F.kp⟩

abbrev s_is_pair : Stmt := topS 8
theorem sc_is_pair : FnScope ["value"] ["value"] (defScope s_is_pair) := ⟨rfl, rfl, rfl, by decide +kernel, rfl, by decide +kernel, by decide +kernel⟩
theorem ok_is_pair {f : Addr} {fd : FuncData} (F : Fun G.K "is_pair" "is_pair" s_is_pair f fd) (n_isinstance : mg "isinstance" = none) (n_len : mg "len" = none) (n_tuple : mg "tuple" = none) : FnG G mg base 1 1 f m_is_pair :=
  ⟨⟨_, ["value"], okD (k := 0) (np := 1) (nx := 0) F sc_is_pair rfl rfl (fun B cdv A outer s H E hr => (show DSs _ _ _ _ b_is_pair from (dss_one (ds_ret (dx_and (dx_isi "tuple" rfl rfl n_isinstance bt_isinstance rfl n_tuple bt_tuple (dx_var 0)) (dx_one (dx_cmp (op_eqD hr.units) eqG_ok (dx_callB call_len (lenG_ok rfl) rfl n_len bt_len (da_cons (dx_var 0) da_nil)) dx_int (nomark _)))))))), (F.binds (ps := ["value"]) fun _ _ _ _ _ _ us hl => match us, hl with | [_], _ => rfl)⟩, F.kp⟩

abbrev s_is_right_strip : Stmt := topS 9
theorem sc_is_right_strip : FnScope ["value"] ["value"] (defScope s_is_right_strip) := ⟨rfl, rfl, rfl, by decide +kernel, rfl, by decide +kernel, by decide +kernel⟩
theorem ok_is_right_strip {f : Addr} {fd : FuncData} (F : Fun G.K "is_right_strip" "is_right_strip" s_is_right_strip f fd) {t_MOST_LONG : Tok} (c_MOST_LONG : mg "MOST_LONG" = some (.int 40 t_MOST_LONG)) {t_MOST_WIDE : Tok} (c_MOST_WIDE : mg "MOST_WIDE" = some (.int 3 t_MOST_WIDE)) {t_SIGNS : Tok} (c_SIGNS : mg "SIGNS" = some (.str "#.dpquvw" t_SIGNS)) {a_are_columns : Addr} (g_are_columns : mg "are_columns" = some (.ref a_are_columns)) (F_are_columns : FnG G mg base 2 4 a_are_columns m_are_columns) {a_is_pair : Addr} (g_is_pair : mg "is_pair" = some (.ref a_is_pair)) (F_is_pair : FnG G mg base 1 1 a_is_pair m_is_pair) {a_is_within : Addr} (g_is_within : mg "is_within" = some (.ref a_is_within)) (F_is_within : FnG G mg base 1 3 a_is_within m_is_within) : FnG G mg base 3 1 f m_is_right_strip :=
  ⟨⟨_, ["value"], okD (k := 2) (np := 1) (nx := 0) F sc_is_right_strip rfl rfl (fun B cdv A outer s H E hr => (show DSs _ _ _ _ b_is_right_strip from (dss_cons (ds_if (DW.dt (dw_or (dt_not (dt_val (dx_fn F_is_pair (hr.mono (by decide)) g_is_pair (takes_of rfl rfl rfl rfl) (da_cons (dx_var 0) da_nil)))) (dw_or1 (dt_not (dt_val (dx_fn F_is_within (hr.mono (by decide)) g_is_within (takes_of rfl rfl rfl rfl) (da_cons (dx_ix (ix_all (ru1 hr)) (ixD_ok rfl rfl) (dx_var 0) dx_int) (da_cons dx_int (da_cons (dx_gint rfl c_MOST_WIDE) da_nil))))))))) (dss_one (ds_ret dx_bl)) dss_nil)
    (dss_one (ds_ret (dx_fn F_are_columns (hr.mono (by decide)) g_are_columns (takes_of rfl rfl rfl rfl) (da_cons (dx_ix (ix_all (ru1 hr)) (ixD_ok rfl rfl) (dx_var 0) dx_int) (da_cons (dx_ix (ix_all (ru1 hr)) (ixD_ok rfl rfl) (dx_var 0) dx_int) (da_cons (dx_gint rfl c_MOST_LONG) (da_cons (dx_gstr [35, 46, 100, 112, 113, 117, 118, 119] rfl c_SIGNS) da_nil)))))))))), (F.binds (ps := ["value"]) fun _ _ _ _ _ _ us hl => match us, hl with | [_], _ => rfl)⟩, F.kp⟩

abbrev s_is_right_pattern : Stmt := topS 10
theorem sc_is_right_pattern : FnScope ["value"] ["value"] (defScope s_is_right_pattern) := ⟨rfl, rfl, rfl, by decide +kernel, rfl, by decide +kernel, by decide +kernel⟩
theorem ok_is_right_pattern {f : Addr} {fd : FuncData} (F : Fun G.K "is_right_pattern" "is_right_pattern" s_is_right_pattern f fd) {t_MOST_PATTERN : Tok} (c_MOST_PATTERN : mg "MOST_PATTERN" = some (.int 12 t_MOST_PATTERN)) {t_SIGNS : Tok} (c_SIGNS : mg "SIGNS" = some (.str "#.dpquvw" t_SIGNS)) {a_are_columns : Addr} (g_are_columns : mg "are_columns" = some (.ref a_are_columns)) (F_are_columns : FnG G mg base 2 4 a_are_columns m_are_columns) {a_is_pair : Addr} (g_is_pair : mg "is_pair" = some (.ref a_is_pair)) (F_is_pair : FnG G mg base 1 1 a_is_pair m_is_pair) {a_is_within : Addr} (g_is_within : mg "is_within" = some (.ref a_is_within)) (F_is_within : FnG G mg base 1 3 a_is_within m_is_within) : FnG G mg base 3 1 f m_is_right_pattern :=
  ⟨⟨_, ["value"], okD (k := 2) (np := 1) (nx := 0) F sc_is_right_pattern rfl rfl (fun B cdv A outer s H E hr => (show DSs _ _ _ _ b_is_right_pattern from (dss_cons (ds_if (DW.dt (dw_or (dt_not (dt_val (dx_fn F_is_pair (hr.mono (by decide)) g_is_pair (takes_of rfl rfl rfl rfl) (da_cons (dx_var 0) da_nil)))) (dw_or1 (dt_not (dt_val (dx_fn F_is_within (hr.mono (by decide)) g_is_within (takes_of rfl rfl rfl rfl) (da_cons (dx_ix (ix_all (ru1 hr)) (ixD_ok rfl rfl) (dx_var 0) dx_int) (da_cons dx_int (da_cons dx_int da_nil))))))))) (dss_one (ds_ret dx_bl)) dss_nil)
    (dss_cons (ds_if (dt_not (dt_val (dx_fn F_are_columns (hr.mono (by decide)) g_are_columns (takes_of rfl rfl rfl rfl) (da_cons (dx_ix (ix_all (ru1 hr)) (ixD_ok rfl rfl) (dx_var 0) dx_int) (da_cons (dx_ix (ix_all (ru1 hr)) (ixD_ok rfl rfl) (dx_var 0) dx_int) (da_cons (dx_gint rfl c_MOST_PATTERN) (da_cons (dx_op2 op_addG (addG_ok rfl) (dx_gstr [35, 46, 100, 112, 113, 117, 118, 119] rfl c_SIGNS) (dx_str [63])) da_nil))))))) (dss_one (ds_ret dx_bl)) dss_nil)
    (dss_one (ds_ret (dx_chain op_le op_le leG_ok leG_ok dx_int (dx_count (dx_join rfl (dx_str []) (dx_ix (ix_all (ru1 hr)) (ixD_ok rfl rfl) (dx_var 0) dx_int)) (dx_str [63])) dx_int rfl))))))), (F.binds (ps := ["value"]) fun _ _ _ _ _ _ us hl => match us, hl with | [_], _ => rfl)⟩, F.kp⟩

abbrev s_is_strip : Stmt := topS 11
theorem sc_is_strip : FnScope ["value"] ["value"] (defScope s_is_strip) := ⟨rfl, rfl, rfl, by decide +kernel, rfl, by decide +kernel, by decide +kernel⟩
theorem ok_is_strip {f : Addr} {fd : FuncData} (F : Fun G.K "is_strip" "is_strip" s_is_strip f fd) {a_is_right_strip : Addr} (g_is_right_strip : mg "is_right_strip" = some (.ref a_is_right_strip)) (F_is_right_strip : FnG G mg base 3 1 a_is_right_strip m_is_right_strip) : FnG G mg base 4 1 f m_is_strip :=
  ⟨⟨_, ["value"], okD (k := 3) (np := 1) (nx := 0) F sc_is_strip rfl rfl (fun B cdv A outer s H E hr => (show DSs _ _ _ _ b_is_strip from (dss_one (ds_ret (dx_fn F_is_right_strip (hr.mono (by decide)) g_is_right_strip (takes_of rfl rfl rfl rfl) (da_cons (dx_var 0) da_nil)))))), (F.binds (ps := ["value"]) fun _ _ _ _ _ _ us hl => match us, hl with | [_], _ => rfl)⟩, F.kp⟩

abbrev s_is_pattern : Stmt := topS 12
theorem sc_is_pattern : FnScope ["value"] ["value"] (defScope s_is_pattern) := ⟨rfl, rfl, rfl, by decide +kernel, rfl, by decide +kernel, by decide +kernel⟩
theorem ok_is_pattern {f : Addr} {fd : FuncData} (F : Fun G.K "is_pattern" "is_pattern" s_is_pattern f fd) {a_is_right_pattern : Addr} (g_is_right_pattern : mg "is_right_pattern" = some (.ref a_is_right_pattern)) (F_is_right_pattern : FnG G mg base 3 1 a_is_right_pattern m_is_right_pattern) : FnG G mg base 4 1 f m_is_pattern :=
  ⟨⟨_, ["value"], okD (k := 3) (np := 1) (nx := 0) F sc_is_pattern rfl rfl (fun B cdv A outer s H E hr => (show DSs _ _ _ _ b_is_pattern from (dss_one (ds_ret (dx_fn F_is_right_pattern (hr.mono (by decide)) g_is_right_pattern (takes_of rfl rfl rfl rfl) (da_cons (dx_var 0) da_nil)))))), (F.binds (ps := ["value"]) fun _ _ _ _ _ _ us hl => match us, hl with | [_], _ => rfl)⟩, F.kp⟩

abbrev s_is_right_end : Stmt := topS 15
theorem sc_is_right_end : FnScope ["value", "width"] ["value", "width"] (defScope s_is_right_end) := ⟨rfl, rfl, rfl, by decide +kernel, rfl, by decide +kernel, by decide +kernel⟩
theorem ok_is_right_end {f : Addr} {fd : FuncData} (F : Fun G.K "is_right_end" "is_right_end" s_is_right_end f fd) {r_LONE : Addr} (c_LONE : mg "LONE" = some (.ref r_LONE)) (i_LONE : ∀ H : Hp, Imm G H (.ref r_LONE) d_LONE) {a_is_pair : Addr} (g_is_pair : mg "is_pair" = some (.ref a_is_pair)) (F_is_pair : FnG G mg base 1 1 a_is_pair m_is_pair) {a_is_within : Addr} (g_is_within : mg "is_within" = some (.ref a_is_within)) (F_is_within : FnG G mg base 1 3 a_is_within m_is_within) (n_isinstance : mg "isinstance" = none) (n_str : mg "str" = none) : FnG G mg base 2 2 f m_is_right_end :=
  ⟨⟨_, ["value", "width"], okD (k := 1) (np := 2) (nx := 0) F sc_is_right_end rfl rfl (fun B cdv A outer s H E hr => (show DSs _ _ _ _ b_is_right_end from (dss_cons (ds_if (DW.dt (dw_or (dt_not (dt_val (dx_fn F_is_pair (hr.mono (by decide)) g_is_pair (takes_of rfl rfl rfl rfl) (da_cons (dx_var 0) da_nil)))) (dw_or1 (dt_not (dt_val (dx_isi "str" rfl rfl n_isinstance bt_isinstance rfl n_str bt_str (dx_ix (ix_all (ru1 hr)) (ixD_ok rfl rfl) (dx_var 0) dx_int))))))) (dss_one (ds_ret dx_bl)) dss_nil)
    (dss_cons (ds_if (dt_cmp (op_inA (ru65 hr)) inG_ok (dx_ix (ix_all (ru1 hr)) (ixD_ok rfl rfl) (dx_var 0) dx_int) (dx_tup (da_cons (dx_str [108, 101, 102, 116]) (da_cons (dx_str [114, 105, 103, 104, 116]) da_nil))) (by rfl)) (dss_one (ds_ret (dx_fn F_is_within (hr.mono (by decide)) g_is_within (takes_of rfl rfl rfl rfl) (da_cons (dx_ix (ix_all (ru1 hr)) (ixD_ok rfl rfl) (dx_var 0) dx_int) (da_cons dx_int (da_cons (dx_op2 op_sub subG_ok (dx_var 1) dx_int) da_nil)))))) dss_nil)
    (dss_one (ds_ret (dx_and (dx_cmp (op_inA (ru65 hr)) inG_ok (dx_ix (ix_all (ru1 hr)) (ixD_ok rfl rfl) (dx_var 0) dx_int) (dx_gref rfl c_LONE i_LONE) (by rfl)) (dx_one (dx_fn F_is_within (hr.mono (by decide)) g_is_within (takes_of rfl rfl rfl rfl) (da_cons (dx_ix (ix_all (ru1 hr)) (ixD_ok rfl rfl) (dx_var 0) dx_int) (da_cons dx_int (da_cons dx_int da_nil)))))))))))), (F.binds (ps := ["value", "width"]) fun _ _ _ _ _ _ us hl => match us, hl with | [_, _], _ => rfl)⟩, F.kp⟩

abbrev s_is_right_table : Stmt := topS 16
theorem sc_is_right_table : FnScope ["value", "width", "end"] ["value"] (defScope s_is_right_table) := ⟨rfl, rfl, rfl, by decide +kernel, rfl, by decide +kernel, by decide +kernel⟩
theorem ok_is_right_table {f : Addr} {fd : FuncData} (F : Fun G.K "is_right_table" "is_right_table" s_is_right_table f fd) (n_all : mg "all" = none) {a_is_pair : Addr} (g_is_pair : mg "is_pair" = some (.ref a_is_pair)) (F_is_pair : FnG G mg base 1 1 a_is_pair m_is_pair) {a_is_right_end : Addr} (g_is_right_end : mg "is_right_end" = some (.ref a_is_right_end)) (F_is_right_end : FnG G mg base 2 2 a_is_right_end m_is_right_end) (n_isinstance : mg "isinstance" = none) (n_len : mg "len" = none) (n_tuple : mg "tuple" = none) : FnG G mg base 3 1 f m_is_right_table :=
  ⟨⟨_, ["value"], okD (k := 2) (np := 1) (nx := 2) F sc_is_right_table rfl rfl (fun B cdv A outer s H E hr => (show DSs _ _ _ _ b_is_right_table from (dss_cons (ds_if (DW.dt (dw_or (dt_not (dt_val (dx_fn F_is_pair (hr.mono (by decide)) g_is_pair (takes_of rfl rfl rfl rfl) (da_cons (dx_var 0) da_nil)))) (dw_or (dt_not (dt_val (dx_isi "tuple" rfl rfl n_isinstance bt_isinstance rfl n_tuple bt_tuple (dx_ix (ix_all (ru1 hr)) (ixD_ok rfl rfl) (dx_var 0) dx_int)))) (dw_or1 (dt_not (dt_val (dx_isi "tuple" rfl rfl n_isinstance bt_isinstance rfl n_tuple bt_tuple (dx_ix (ix_all (ru1 hr)) (ixD_ok rfl rfl) (dx_var 0) dx_int)))))))) (dss_one (ds_ret dx_bl)) dss_nil)
    (dss_cons (ds_set (i := 1) sc_is_right_table.nd rfl (.inr rfl) (dx_callB call_len (lenG_ok rfl) rfl n_len bt_len (da_cons (dx_ix (ix_all (ru1 hr)) (ixD_ok rfl rfl) (dx_var 0) dx_int) da_nil)))
    (dss_cons (ds_if (DW.dt (dw_or (dt_not (dt_chain op_le op_le leG_ok leG_ok dx_int (dx_var 1) dx_int rfl)) (dw_or1 (dt_cmp (op_neD hr.units) neG_ok (dx_callB call_len (lenG_ok rfl) rfl n_len bt_len (da_cons (dx_ix (ix_all (ru1 hr)) (ixD_ok rfl rfl) (dx_var 0) dx_int) da_nil)) (dx_var 1) (nomark _))))) (dss_one (ds_ret dx_bl)) dss_nil)
    (dss_one (ds_ret (dx_callB (cr_all rfl) allG_ok rfl n_all bt_all (da_cons (dx_lc (own := [("end", 2)]) rfl sc_is_right_table.nd (di_seq rfl (dx_op2 op_addG (addG_ok rfl) (dx_ix (ix_all (ru1 hr)) (ixD_ok rfl rfl) (dx_var 0) dx_int) (dx_ix (ix_all (ru1 hr)) (ixD_ok rfl rfl) (dx_var 0) dx_int))) (blkOk_by (N := ["value", "width", "end"]) (sc := defScope s_is_right_table) (by decide +kernel)) (his := by decide) (fun _ _ _ _ _ => (dg_name (i := 2) sc_is_right_table.nd rfl (by first | exact Or.inl rfl | exact Or.inr rfl))) (fun _ _ _ _ _ => dts_nil) (fun _ _ _ _ _ => (dx_frz (dx_fn F_is_right_end (hr.mono (by decide)) g_is_right_end takesF (da_cons (dx_var 2) (da_cons (dx_frz (dx_var 1)) da_nil)))))) da_nil))))))))), (F.binds (ps := ["value"]) fun _ _ _ _ _ _ us hl => match us, hl with | [_], _ => rfl)⟩, F.kp⟩

abbrev s_is_table : Stmt := topS 17
theorem sc_is_table : FnScope ["value"] ["value"] (defScope s_is_table) := ⟨rfl, rfl, rfl, by decide +kernel, rfl, by decide +kernel, by decide +kernel⟩
theorem ok_is_table {f : Addr} {fd : FuncData} (F : Fun G.K "is_table" "is_table" s_is_table f fd) {a_is_right_table : Addr} (g_is_right_table : mg "is_right_table" = some (.ref a_is_right_table)) (F_is_right_table : FnG G mg base 3 1 a_is_right_table m_is_right_table) : FnG G mg base 4 1 f m_is_table :=
  ⟨⟨_, ["value"], okD (k := 3) (np := 1) (nx := 0) F sc_is_table rfl rfl (fun B cdv A outer s H E hr => (show DSs _ _ _ _ b_is_table from (dss_one (ds_ret (dx_fn F_is_right_table (hr.mono (by decide)) g_is_right_table (takes_of rfl rfl rfl rfl) (da_cons (dx_var 0) da_nil)))))), (F.binds (ps := ["value"]) fun _ _ _ _ _ _ us hl => match us, hl with | [_], _ => rfl)⟩, F.kp⟩

abbrev s_law_source : Stmt := topS 19
theorem sc_law_source : FnScope ["script", "k", "number", "start"] ["script", "k"] (defScope s_law_source) := ⟨rfl, rfl, rfl, by decide +kernel, rfl, by decide +kernel, by decide +kernel⟩
theorem ok_law_source {f : Addr} {fd : FuncData} (F : Fun G.K "_law_source" "_law_source" s_law_source f fd) (n_int : mg "int" = none) (n_len : mg "len" = none) : FnG G mg base 1 2 f m_law_source :=
  ⟨⟨_, ["script", "k"], okD (k := 0) (np := 2) (nx := 2) F sc_law_source rfl rfl (fun B cdv A outer s H E hr => (show DSs _ _ _ _ b_law_source from (dss_cons (ds_set (i := 2) sc_law_source.nd rfl (.inl rfl) dx_int)
    (dss_cons (ds_if (dt_cmp op_gt gtG_ok (dx_callB call_len (lenG_ok rfl) rfl n_len bt_len (da_cons (dx_var 0) da_nil)) (dx_var 1) (nomark _)) (dss_one (ds_set (i := 2) sc_law_source.nd rfl (.inl rfl) (dx_callTy call_int1 intG1_ok rfl n_int bt_int (da_cons (dx_ix (ix_all (ru1 hr)) (ixD_ok rfl rfl) (dx_var 0) (dx_var 1)) da_nil)))) dss_nil)
    (dss_cons (ds_set (i := 3) sc_law_source.nd rfl (.inl rfl) (dx_op2 op_modN modG_ok (dx_op2 op_addG (addG_ok rfl) (dx_op2 op_addG (addG_ok rfl) (dx_op2 op_mulA (mulG_ok rfl) (dx_var 2) dx_int) (dx_op2 op_mulA (mulG_ok rfl) dx_int (dx_var 1))) dx_int) dx_int))
    (dss_cons (ds_set (i := 3) sc_law_source.nd rfl (.inl rfl) (dx_op2 op_addG (addG_ok rfl) (dx_op2 op_addG (addG_ok rfl) (dx_op2 op_modN modG_ok (dx_op2 op_mulA (mulG_ok rfl) (dx_var 3) (dx_var 3)) dx_int) (dx_op2 op_mulA (mulG_ok rfl) dx_int (dx_var 1))) dx_int))
    (dss_one (ds_ret (dx_lst (da_cons (dx_frz (dx_if (dt_cmp op_ge geG_ok (dx_var 2) (dx_op2 op_pow powG_ok dx_int dx_int) (nomark _)) (dx_var 2) dx_int)) (da_cons (dx_frz (dx_var 3)) da_nil))))))))))), (F.binds (ps := ["script", "k"]) fun _ _ _ _ _ _ us hl => match us, hl with | [_, _], _ => rfl)⟩, F.kp⟩

abbrev s_law_pick : Stmt := topS 20
theorem sc_law_pick : FnScope ["source", "many", "found"] ["source", "many"] (defScope s_law_pick) := ⟨rfl, rfl, rfl, by decide +kernel, rfl, by decide +kernel, by decide +kernel⟩
theorem ok_law_pick {f : Addr} {fd : FuncData} (F : Fun G.K "_law_pick" "_law_pick" s_law_pick f fd) (n_int : mg "int" = none) : FnG G mg base 1 2 f m_law_pick :=
  ⟨⟨_, ["source", "many"], okD (k := 0) (np := 2) (nx := 1) F sc_law_pick rfl rfl (fun B cdv A outer s H E hr => (show DSs _ _ _ _ b_law_pick from (dss_cons (ds_if (dt_cmp op_gt gtG_ok (dx_ix (ix_all (ru1 hr)) (ixD_ok rfl rfl) (dx_var 0) dx_int) dx_int (nomark _)) (dss_cons (ds_set (i := 2) sc_law_pick.nd rfl (.inl rfl) (dx_op2 op_modN modG_ok (dx_callTy call_int1 intG1_ok rfl n_int bt_int (da_cons (dx_ix (ix_all (ru1 hr)) (ixD_ok rfl rfl) (dx_var 0) dx_int) da_nil)) (dx_var 1)))
    (dss_cons (ds_setIx (i := 0) rfl (by first | exact Or.inl rfl | exact Or.inr (Or.inl rfl) | exact Or.inr (Or.inr rfl)) (by decide) (by decide) dx_int (dx_op2 op_fdivN fdivG_ok (dx_callTy call_int1 intG1_ok rfl n_int bt_int (da_cons (dx_ix (ix_all (ru1 hr)) (ixD_ok rfl rfl) (dx_var 0) dx_int) da_nil)) (dx_var 1)))
    (dss_one (ds_ret (dx_var 2))))) dss_nil)
    (dss_cons (ds_setIx (i := 0) rfl (by first | exact Or.inl rfl | exact Or.inr (Or.inl rfl) | exact Or.inr (Or.inr rfl)) (by decide) (by decide) dx_int (dx_op2 op_modN modG_ok (dx_callTy call_int1 intG1_ok rfl n_int bt_int (da_cons (dx_op2 op_addG (addG_ok rfl) (dx_op2 op_mulA (mulG_ok rfl) (dx_ix (ix_all (ru1 hr)) (ixD_ok rfl rfl) (dx_var 0) dx_int) dx_int) dx_int) da_nil)) dx_int))
    (dss_one (ds_ret (dx_op2 op_modN modG_ok (dx_op2 op_fdivN fdivG_ok (dx_op2 op_modN modG_ok (dx_callTy call_int1 intG1_ok rfl n_int bt_int (da_cons (dx_op2 op_mulA (mulG_ok rfl) (dx_ix (ix_all (ru1 hr)) (ixD_ok rfl rfl) (dx_var 0) dx_int) (dx_ix (ix_all (ru1 hr)) (ixD_ok rfl rfl) (dx_var 0) dx_int)) da_nil)) dx_int) dx_int) (dx_var 1)))))))), (F.binds (ps := ["source", "many"]) fun _ _ _ _ _ _ us hl => match us, hl with | [_, _], _ => rfl)⟩, F.kp⟩

abbrev s_law_chosen : Stmt := topS 21
theorem sc_law_chosen : FnScope ["source", "things"] ["source", "things"] (defScope s_law_chosen) := ⟨rfl, rfl, rfl, by decide +kernel, rfl, by decide +kernel, by decide +kernel⟩
theorem ok_law_chosen {f : Addr} {fd : FuncData} (F : Fun G.K "_law_chosen" "_law_chosen" s_law_chosen f fd) {a_law_pick : Addr} (g_law_pick : mg "_law_pick" = some (.ref a_law_pick)) (F_law_pick : FnG G mg base 1 2 a_law_pick m_law_pick) (n_len : mg "len" = none) : FnG G mg base 2 2 f m_law_chosen :=
  ⟨⟨_, ["source", "things"], okD (k := 1) (np := 2) (nx := 0) F sc_law_chosen rfl rfl (fun B cdv A outer s H E hr => (show DSs _ _ _ _ b_law_chosen from (dss_one (ds_ret (dx_ix (ix_all (ru1 hr)) (ixD_ok rfl rfl) (dx_var 1) (dx_frz (dx_fn F_law_pick (hr.mono (by decide)) g_law_pick (takes_of rfl rfl rfl rfl) (da_cons (dx_var 0) (da_cons (dx_callB call_len (lenG_ok rfl) rfl n_len bt_len (da_cons (dx_var 1) da_nil)) da_nil))))))))), (F.binds (ps := ["source", "things"]) fun _ _ _ _ _ _ us hl => match us, hl with | [_, _], _ => rfl)⟩, F.kp⟩

abbrev s_law_is_bool : Stmt := topS 22
theorem sc_law_is_bool : FnScope ["told", "due"] ["told", "due"] (defScope s_law_is_bool) := ⟨rfl, rfl, rfl, by decide +kernel, rfl, by decide +kernel, by decide +kernel⟩
theorem ok_law_is_bool {f : Addr} {fd : FuncData} (F : Fun G.K "_law_is_bool" "_law_is_bool" s_law_is_bool f fd) (n_bool : mg "bool" = none) (n_isinstance : mg "isinstance" = none) : FnG G mg base 1 2 f m_law_is_bool :=
  ⟨⟨_, ["told", "due"], okD (k := 0) (np := 2) (nx := 0) F sc_law_is_bool rfl rfl (fun B cdv A outer s H E hr => (show DSs _ _ _ _ b_law_is_bool from (dss_one (ds_ret (dx_and (dx_isi "bool" rfl rfl n_isinstance bt_isinstance rfl n_bool bt_bool (dx_var 0)) (dx_one (dx_cmp (op_eqD hr.units) eqG_ok (dx_var 0) (dx_var 1) (nomark _)))))))), (F.binds (ps := ["told", "due"]) fun _ _ _ _ _ _ us hl => match us, hl with | [_, _], _ => rfl)⟩, F.kp⟩

abbrev s_law_wide : Stmt := topS 23
theorem sc_law_wide : FnScope ["value", "low", "high"] ["value", "low", "high"] (defScope s_law_wide) := ⟨rfl, rfl, rfl, by decide +kernel, rfl, by decide +kernel, by decide +kernel⟩
theorem ok_law_wide {f : Addr} {fd : FuncData} (F : Fun G.K "_law_wide" "_law_wide" s_law_wide f fd) (n_isinstance : mg "isinstance" = none) (n_len : mg "len" = none) (n_tuple : mg "tuple" = none) : FnG G mg base 1 3 f m_law_wide :=
  ⟨⟨_, ["value", "low", "high"], okD (k := 0) (np := 3) (nx := 0) F sc_law_wide rfl rfl (fun B cdv A outer s H E hr => (show DSs _ _ _ _ b_law_wide from (dss_one (ds_ret (dx_and (dx_isi "tuple" rfl rfl n_isinstance bt_isinstance rfl n_tuple bt_tuple (dx_var 0)) (dx_one (dx_chain op_le op_le leG_ok leG_ok (dx_var 1) (dx_callB call_len (lenG_ok rfl) rfl n_len bt_len (da_cons (dx_var 0) da_nil)) (dx_var 2) rfl))))))), (F.binds (ps := ["value", "low", "high"]) fun _ _ _ _ _ _ us hl => match us, hl with | [_, _, _], _ => rfl)⟩, F.kp⟩

abbrev s_law_any_value : Stmt := topS 24
theorem sc_law_any_value : FnScope ["source", "deep", "simple_so", "way", "parts", "turn"] ["source", "deep"] (defScope s_law_any_value) := ⟨rfl, rfl, rfl, by decide +kernel, rfl, by decide +kernel, by decide +kernel⟩
theorem ok_law_any_value {f : Addr} {fd : FuncData} (F : Fun G.K "_law_any_value" "_law_any_value" s_law_any_value f fd) (g_law_any_value : mg "_law_any_value" = some (.ref f)) {a_law_chosen : Addr} (g_law_chosen : mg "_law_chosen" = some (.ref a_law_chosen)) (F_law_chosen : FnG G mg base 2 2 a_law_chosen m_law_chosen) {a_law_pick : Addr} (g_law_pick : mg "_law_pick" = some (.ref a_law_pick)) (F_law_pick : FnG G mg base 1 2 a_law_pick m_law_pick) (n_range : mg "range" = none) (n_tuple : mg "tuple" = none) : ∀ n, FnG G mg base (3 + n) 2 f (m_law_any_value n)
  | 0 => FnG.zero F (F.binds (ps := ["source", "deep"]) fun _ _ _ _ _ _ us hl => match us, hl with | [_, _], _ => rfl) (ps := ["source", "deep"]) rfl
  | n + 1 => by
    have F_law_any_value := ok_law_any_value F g_law_any_value g_law_chosen F_law_chosen g_law_pick F_law_pick n_range n_tuple n
    exact ⟨⟨_, ["source", "deep"], okD (k := 3 + n) (np := 2) (nx := 4) F sc_law_any_value rfl rfl (fun B cdv A outer s H E hr => (show DSs _ _ _ _ (b_law_any_value (m_law_any_value n)) from (dss_cons (ds_set (i := 2) sc_law_any_value.nd rfl (.inl rfl) (dx_lst (da_cons dx_non (da_cons dx_bl (da_cons dx_bl (da_cons dx_int (da_cons dx_int (da_cons dx_int (da_cons dx_int (da_cons (dx_neg dx_int) (da_cons (dx_str []) (da_cons (dx_str [117]) (da_cons (dx_str [46]) (da_cons (dx_str [112, 35]) (da_cons (dx_str [63]) (da_cons (dx_str [108, 101, 102, 116]) (da_cons (dx_tup da_nil) (da_cons (dx_frz (dx_lst da_nil)) (da_cons (dx_tup (da_cons (dx_str [117]) da_nil)) (da_cons (dx_tup (da_cons dx_int (da_cons (dx_tup da_nil) da_nil))) da_nil))))))))))))))))))))
    (dss_cons (ds_set (i := 3) sc_law_any_value.nd rfl (.inl rfl) (dx_fn F_law_pick (hr.mono (by omega)) g_law_pick (takes_of rfl rfl rfl rfl) (da_cons (dx_var 0) (da_cons dx_int da_nil))))
    (dss_cons (ds_if (DW.dt (dw_or (dt_cmp op_lt ltG_ok (dx_var 1) dx_int (nomark _)) (dw_or1 (dt_cmp op_lt ltG_ok (dx_var 3) dx_int (nomark _))))) (dss_one (ds_ret (dx_fn F_law_chosen (hr.mono (by omega)) g_law_chosen (takes_of rfl rfl rfl rfl) (da_cons (dx_var 0) (da_cons (dx_frz (dx_var 2)) da_nil))))) dss_nil)
    (dss_cons (ds_setLc (i := 4) (own := [("turn", 5)]) rfl sc_law_any_value.nd rfl rfl (sw_true rfl rfl rfl (by decide +kernel)) (di_lim (di_range1 rfl n_range (da_cons (dx_frz (dx_fn F_law_pick (hr.mono (by omega)) g_law_pick (takes_of rfl rfl rfl rfl) (da_cons (dx_var 0) (da_cons dx_int da_nil)))) da_nil))) (blkOk_by (N := ["source", "deep", "simple_so", "way", "parts", "turn"]) (sc := defScope s_law_any_value) (by decide +kernel)) (his := by decide) (fun _ _ _ _ _ => (dg_name (i := 5) sc_law_any_value.nd rfl (by first | exact Or.inl rfl | exact Or.inr rfl))) (fun _ _ _ _ _ => dts_nil) (fun _ _ _ _ _ => (dx_frz (dx_fn F_law_any_value (hr.mono (by omega)) g_law_any_value takesF (da_cons (dx_var 0) (da_cons (dx_op2 op_sub subG_ok (dx_var 1) dx_int) da_nil))))))
    (dss_one (ds_ret (dx_if (dt_cmp (op_eqD hr.units) eqG_ok (dx_var 3) dx_int (nomark _)) (dx_var 4) (dx_callTy call_tuple_of (tupleG_ok rfl) rfl n_tuple bt_tuple (da_cons (dx_var 4) da_nil))))))))))), (F.binds (ps := ["source", "deep"]) fun _ _ _ _ _ _ us hl => match us, hl with | [_, _], _ => rfl)⟩, F.kp⟩

abbrev s_law_variant : Stmt := topS 25
theorem sc_law_variant : FnScope ["source", "value", "deep", "parts", "spot", "way", "inner", "near"] ["source", "value", "deep"] (defScope s_law_variant) := ⟨rfl, rfl, rfl, by decide +kernel, rfl, by decide +kernel, by decide +kernel⟩
theorem ok_law_variant {f : Addr} {fd : FuncData} (F : Fun G.K "_law_variant" "_law_variant" s_law_variant f fd) (g_law_variant : mg "_law_variant" = some (.ref f)) {a_law_any_value : Addr} (g_law_any_value : mg "_law_any_value" = some (.ref a_law_any_value)) (F_law_any_value : FnG G mg base 8 2 a_law_any_value (m_law_any_value 5)) {a_law_chosen : Addr} (g_law_chosen : mg "_law_chosen" = some (.ref a_law_chosen)) (F_law_chosen : FnG G mg base 2 2 a_law_chosen m_law_chosen) {a_law_pick : Addr} (g_law_pick : mg "_law_pick" = some (.ref a_law_pick)) (F_law_pick : FnG G mg base 1 2 a_law_pick m_law_pick) (n_isinstance : mg "isinstance" = none) (n_len : mg "len" = none) (n_list : mg "list" = none) (n_tuple : mg "tuple" = none) : ∀ n, FnG G mg base (9 + n) 3 f (m_law_variant n)
  | 0 => FnG.zero F (F.binds (ps := ["source", "value", "deep"]) fun _ _ _ _ _ _ us hl => match us, hl with | [_, _, _], _ => rfl) (ps := ["source", "value", "deep"]) rfl
  | n + 1 => by
    have F_law_variant := ok_law_variant F g_law_variant g_law_any_value F_law_any_value g_law_chosen F_law_chosen g_law_pick F_law_pick n_isinstance n_len n_list n_tuple n
    exact ⟨⟨_, ["source", "value", "deep"], okD (k := 9 + n) (np := 3) (nx := 5) F sc_law_variant rfl rfl (fun B cdv A outer s H E hr => (show DSs _ _ _ _ (b_law_variant (m_law_variant n)) from (dss_cons (ds_set (i := 3) sc_law_variant.nd rfl (.inl rfl) (dx_callTy call_list_of (listG_ok rfl) rfl n_list bt_list (da_cons (dx_var 1) da_nil)))
    (dss_cons (ds_if (dt_cmp (op_eqD hr.units) eqG_ok (dx_var 3) (dx_lst da_nil) (nomark _)) (dss_one (ds_ret (dx_tup (da_cons (dx_frz (dx_fn F_law_any_value (hr.mono (by omega)) g_law_any_value (takes_of rfl rfl rfl rfl) (da_cons (dx_var 0) (da_cons dx_int da_nil)))) da_nil)))) dss_nil)
    (dss_cons (ds_par (i := 4) (j := 5) rfl sc_law_variant.nd rfl rfl (by decide) rfl rfl (da_cons (dx_frz (dx_fn F_law_pick (hr.mono (by omega)) g_law_pick (takes_of rfl rfl rfl rfl) (da_cons (dx_var 0) (da_cons (dx_callB call_len (lenG_ok rfl) rfl n_len bt_len (da_cons (dx_var 3) da_nil)) da_nil)))) (da_cons (dx_frz (dx_fn F_law_pick (hr.mono (by omega)) g_law_pick (takes_of rfl rfl rfl rfl) (da_cons (dx_var 0) (da_cons dx_int da_nil)))) da_nil)) (by rfl))
    (dss_cons (ds_set (i := 6) sc_law_variant.nd rfl (.inl rfl) (dx_ix (ix_all (ru1 hr)) (ixD_ok rfl rfl) (dx_var 3) (dx_frz (dx_var 4))))
    (dss_cons (ds_if (DW.dt (dw_and (dt_val (dx_isi "tuple" rfl rfl n_isinstance bt_isinstance rfl n_tuple bt_tuple (dx_var 6))) (dw_and (dt_cmp op_gt gtG_ok (dx_var 2) dx_int (nomark _)) (dw_and1 (dt_cmp op_gt gtG_ok (dx_var 5) dx_int (nomark _)))))) (dss_one (ds_ret (dx_op2 op_addG (addG_ok rfl) (dx_op2 op_addG (addG_ok rfl) (dx_callTy call_tuple_of (tupleG_ok rfl) rfl n_tuple bt_tuple (da_cons (dx_slice rfl (dx_var 3) do_none (do_some (dx_var 4))) da_nil)) (dx_tup (da_cons (dx_frz (dx_fn F_law_variant (hr.mono (by omega)) g_law_variant (takes_of rfl rfl rfl rfl) (da_cons (dx_var 0) (da_cons (dx_frz (dx_var 6)) (da_cons (dx_op2 op_sub subG_ok (dx_var 2) dx_int) da_nil))))) da_nil))) (dx_callTy call_tuple_of (tupleG_ok rfl) rfl n_tuple bt_tuple (da_cons (dx_slice rfl (dx_var 3) (do_some (dx_op2 op_addG (addG_ok rfl) (dx_var 4) dx_int)) do_none) da_nil))))) dss_nil)
    (dss_cons (ds_if (dt_cmp (op_eqD hr.units) eqG_ok (dx_var 5) dx_int (nomark _)) (dss_one (ds_ret (dx_callTy call_tuple_of (tupleG_ok rfl) rfl n_tuple bt_tuple (da_cons (dx_op2 op_addG (addG_ok rfl) (dx_slice rfl (dx_var 3) do_none (do_some (dx_var 4))) (dx_slice rfl (dx_var 3) (do_some (dx_op2 op_addG (addG_ok rfl) (dx_var 4) dx_int)) do_none)) da_nil)))) dss_nil)
    (dss_cons (ds_if (dt_cmp (op_eqD hr.units) eqG_ok (dx_var 5) dx_int (nomark _)) (dss_one (ds_ret (dx_callTy call_tuple_of (tupleG_ok rfl) rfl n_tuple bt_tuple (da_cons (dx_op2 op_addG (addG_ok rfl) (dx_slice rfl (dx_var 3) do_none (do_some (dx_op2 op_addG (addG_ok rfl) (dx_var 4) dx_int))) (dx_slice rfl (dx_var 3) (do_some (dx_var 4)) do_none)) da_nil)))) dss_nil)
    (dss_cons (ds_if (dt_cmp (op_eqD hr.units) eqG_ok (dx_var 5) dx_int (nomark _)) (dss_one (ds_ret (dx_callTy call_tuple_of (tupleG_ok rfl) rfl n_tuple bt_tuple (da_cons (dx_op2 op_addG (addG_ok rfl) (dx_op2 op_addG (addG_ok rfl) (dx_slice rfl (dx_var 3) do_none (do_some (dx_var 4))) (dx_rev (dx_slice rfl (dx_var 3) (do_some (dx_var 4)) (do_some (dx_op2 op_addG (addG_ok rfl) (dx_var 4) dx_int))))) (dx_slice rfl (dx_var 3) (do_some (dx_op2 op_addG (addG_ok rfl) (dx_var 4) dx_int)) do_none)) da_nil)))) dss_nil)
    (dss_cons (ds_if (dt_cmp (op_eqD hr.units) eqG_ok (dx_var 5) dx_int (nomark _)) (dss_one (ds_ret (dx_var 3))) dss_nil)
    (dss_cons (ds_if (dt_cmp op_lt ltG_ok (dx_var 5) dx_int (nomark _)) (dss_one (ds_setIx (i := 3) rfl (by first | exact Or.inl rfl | exact Or.inr (Or.inl rfl) | exact Or.inr (Or.inr rfl)) (by decide) (by decide) (dx_var 4) (dx_frz (dx_fn F_law_any_value (hr.mono (by omega)) g_law_any_value (takes_of rfl rfl rfl rfl) (da_cons (dx_var 0) (da_cons dx_int da_nil)))))) (dss_cons (ds_set (i := 7) sc_law_variant.nd rfl (.inl rfl) (dx_lst (da_cons dx_non (da_cons dx_bl (da_cons dx_bl (da_cons dx_int (da_cons dx_int (da_cons dx_int (da_cons dx_int (da_cons dx_int (da_cons (dx_str []) (da_cons (dx_str [117]) (da_cons (dx_str [63, 46]) (da_cons (dx_str [100, 113]) (da_cons (dx_str [108, 101, 102, 116]) (da_cons (dx_str [116, 111, 112]) (da_cons (dx_str [120]) (da_cons (dx_tup da_nil) (da_cons (dx_tup (da_cons dx_int (da_cons (dx_tup (da_cons (dx_str [117]) da_nil)) da_nil))) da_nil)))))))))))))))))))
    (dss_one (ds_setIx (i := 3) rfl (by first | exact Or.inl rfl | exact Or.inr (Or.inl rfl) | exact Or.inr (Or.inr rfl)) (by decide) (by decide) (dx_var 4) (dx_frz (dx_fn F_law_chosen (hr.mono (by omega)) g_law_chosen (takes_of rfl rfl rfl rfl) (da_cons (dx_var 0) (da_cons (dx_frz (dx_var 7)) da_nil))))))))
    (dss_one (ds_ret (dx_callTy call_tuple_of (tupleG_ok rfl) rfl n_tuple bt_tuple (da_cons (dx_var 3) da_nil)))))))))))))))), (F.binds (ps := ["source", "value", "deep"]) fun _ _ _ _ _ _ us hl => match us, hl with | [_, _, _], _ => rfl)⟩, F.kp⟩

abbrev s_law_whole : Stmt := topS 26
theorem sc_law_whole : FnScope ["value", "low", "high"] ["value", "low", "high"] (defScope s_law_whole) := ⟨rfl, rfl, rfl, by decide +kernel, rfl, by decide +kernel, by decide +kernel⟩
theorem ok_law_whole {f : Addr} {fd : FuncData} (F : Fun G.K "_law_whole" "_law_whole" s_law_whole f fd) (n_bool : mg "bool" = none) (n_int : mg "int" = none) (n_isinstance : mg "isinstance" = none) : FnG G mg base 1 3 f m_law_whole :=
  ⟨⟨_, ["value", "low", "high"], okD (k := 0) (np := 3) (nx := 0) F sc_law_whole rfl rfl (fun B cdv A outer s H E hr => (show DSs _ _ _ _ b_law_whole from (dss_one (ds_ret (dx_and (dx_isi "int" rfl rfl n_isinstance bt_isinstance rfl n_int bt_int (dx_var 0)) (dx_and (dx_not (dx_isi "bool" rfl rfl n_isinstance bt_isinstance rfl n_bool bt_bool (dx_var 0))) (dx_one (dx_chain op_le op_le leG_ok leG_ok (dx_var 1) (dx_var 0) (dx_var 2) rfl)))))))), (F.binds (ps := ["value", "low", "high"]) fun _ _ _ _ _ _ us hl => match us, hl with | [_, _, _], _ => rfl)⟩, F.kp⟩

abbrev s_law_onward : Stmt := topS 27
theorem sc_law_onward : FnScope ["sign", "way", "rising", "falling", "upper", "lower", "good"] ["sign", "way"] (defScope s_law_onward) := ⟨rfl, rfl, rfl, by decide +kernel, rfl, by decide +kernel, by decide +kernel⟩
theorem ok_law_onward {f : Addr} {fd : FuncData} (F : Fun G.K "_law_onward" "_law_onward" s_law_onward f fd) : FnG G mg base 1 2 f m_law_onward :=
  ⟨⟨_, ["sign", "way"], okD (k := 0) (np := 2) (nx := 5) F sc_law_onward rfl rfl (fun B cdv A outer s H E hr => (show DSs _ _ _ _ b_law_onward from (dss_cons (ds_par (i := 2) (j := 3) rfl sc_law_onward.nd rfl rfl (by decide) rfl rfl (da_cons (dx_frz (dx_lst (da_cons dx_int (da_cons dx_int (da_cons dx_int (da_cons dx_int da_nil)))))) (da_cons (dx_frz (dx_lst (da_cons dx_int (da_cons dx_int (da_cons dx_int (da_cons dx_int da_nil)))))) da_nil)) (by rfl))
    (dss_cons (ds_par (i := 4) (j := 5) rfl sc_law_onward.nd rfl rfl (by decide) rfl rfl (da_cons (dx_frz (dx_disp (dq_cons (dx_str [114, 105, 115, 101]) (dx_frz (dx_lst (da_cons dx_int (da_cons dx_int da_nil)))) (dq_cons (dx_str [102, 97, 108, 108]) (dx_frz (dx_lst (da_cons dx_int (da_cons dx_int da_nil)))) dq_nil)))) (da_cons (dx_frz (dx_disp (dq_cons (dx_str [114, 105, 115, 101]) (dx_frz (dx_lst (da_cons dx_int (da_cons dx_int da_nil)))) (dq_cons (dx_str [102, 97, 108, 108]) (dx_frz (dx_lst (da_cons dx_int (da_cons dx_int da_nil)))) dq_nil)))) da_nil)) (by rfl))
    (dss_cons (ds_if (dt_cmp (op_eqD hr.units) eqG_ok (dx_var 0) (dx_str [35]) (nomark _)) (dss_one (ds_ret (dx_neg dx_int))) dss_nil)
    (dss_cons (ds_if (dt_cmp (op_inA (ru65 hr)) inG_ok (dx_var 0) (dx_lst (da_cons (dx_str [117]) (da_cons (dx_str [112]) (da_cons (dx_str [113]) da_nil)))) (by rfl)) (dss_cons (ds_set (i := 6) sc_law_onward.nd rfl (.inl rfl) (dx_or (dx_cmp (op_eqD hr.units) eqG_ok (dx_var 0) (dx_str [117]) (nomark _)) (dx_one (dx_cmp (op_inA (ru65 hr)) inG_ok (dx_var 1) (dx_ix (ix_all (ru1 hr)) (ixD_ok rfl rfl) (dx_if (dt_cmp (op_eqD hr.units) eqG_ok (dx_var 0) (dx_str [112]) (nomark _)) (dx_var 4) (dx_var 5)) (dx_str [114, 105, 115, 101])) (by rfl)))))
    (dss_one (ds_ret (dx_if (dt_val (dx_var 6)) (dx_ix (ix_all (ru1 hr)) (ixD_ok rfl rfl) (dx_var 2) (dx_var 1)) (dx_var 1))))) dss_nil)
    (dss_cons (ds_if (dt_cmp (op_inA (ru65 hr)) inG_ok (dx_var 0) (dx_lst (da_cons (dx_str [100]) (da_cons (dx_str [118]) (da_cons (dx_str [119]) da_nil)))) (by rfl)) (dss_cons (ds_set (i := 6) sc_law_onward.nd rfl (.inl rfl) (dx_or (dx_cmp (op_eqD hr.units) eqG_ok (dx_var 0) (dx_str [100]) (nomark _)) (dx_one (dx_cmp (op_inA (ru65 hr)) inG_ok (dx_var 1) (dx_ix (ix_all (ru1 hr)) (ixD_ok rfl rfl) (dx_if (dt_cmp (op_eqD hr.units) eqG_ok (dx_var 0) (dx_str [118]) (nomark _)) (dx_var 4) (dx_var 5)) (dx_str [102, 97, 108, 108])) (by rfl)))))
    (dss_one (ds_ret (dx_if (dt_val (dx_var 6)) (dx_ix (ix_all (ru1 hr)) (ixD_ok rfl rfl) (dx_var 3) (dx_var 1)) (dx_var 1))))) dss_nil)
    (dss_one (ds_ret (dx_var 1)))))))))), (F.binds (ps := ["sign", "way"]) fun _ _ _ _ _ _ us hl => match us, hl with | [_, _], _ => rfl)⟩, F.kp⟩

abbrev s_law_walk : Stmt := topS 28
theorem sc_law_walk : FnScope ["strip", "gate", "width", "columns", "side", "index", "long", "row", "column", "way", "seen", "turn"] ["strip", "gate"] (defScope s_law_walk) := ⟨rfl, rfl, rfl, by decide +kernel, rfl, by decide +kernel, by decide +kernel⟩
theorem ok_law_walk {f : Addr} {fd : FuncData} (F : Fun G.K "_law_walk" "_law_walk" s_law_walk f fd) {a_law_onward : Addr} (g_law_onward : mg "_law_onward" = some (.ref a_law_onward)) (F_law_onward : FnG G mg base 1 2 a_law_onward m_law_onward) (n_len : mg "len" = none) (n_range : mg "range" = none) : FnG G mg base 2 2 f m_law_walk :=
  ⟨⟨_, ["strip", "gate"], okD (k := 1) (np := 2) (nx := 10) F sc_law_walk rfl rfl (fun B cdv A outer s H E hr => (show DSs _ _ _ _ b_law_walk from (dss_cons (ds_asg (dx_var 0) (dg_tup rfl rfl (dgs_cons (dg_name (i := 2) sc_law_walk.nd rfl (by first | exact Or.inl rfl | exact Or.inr rfl)) (dgs_cons (dg_name (i := 3) sc_law_walk.nd rfl (by first | exact Or.inl rfl | exact Or.inr rfl)) dgs_nil))))
    (dss_cons (ds_asg (dx_var 1) (dg_tup rfl rfl (dgs_cons (dg_name (i := 4) sc_law_walk.nd rfl (by first | exact Or.inl rfl | exact Or.inr rfl)) (dgs_cons (dg_name (i := 5) sc_law_walk.nd rfl (by first | exact Or.inl rfl | exact Or.inr rfl)) dgs_nil))))
    (dss_cons (ds_set (i := 6) sc_law_walk.nd rfl (.inl rfl) (dx_callB call_len (lenG_ok rfl) rfl n_len bt_len (da_cons (dx_var 3) da_nil)))
    (dss_cons (ds_asg (dx_get2 (ru1 hr) (dx_disp (dq_cons (dx_str [108, 101, 102, 116]) (dx_tup (da_cons (dx_frz (dx_var 5)) (da_cons dx_int (da_cons dx_int da_nil)))) (dq_cons (dx_str [114, 105, 103, 104, 116]) (dx_tup (da_cons (dx_frz (dx_var 5)) (da_cons (dx_op2 op_sub subG_ok (dx_var 6) dx_int) (da_cons dx_int da_nil)))) (dq_cons (dx_str [116, 111, 112]) (dx_tup (da_cons dx_int (da_cons (dx_frz (dx_var 5)) (da_cons dx_int da_nil)))) dq_nil)))) (dx_frz (dx_var 4)) (dx_tup (da_cons dx_int (da_cons dx_int (da_cons dx_int da_nil)))) ⟨rfl, rfl, rfl, rfl⟩) (dg_tup rfl rfl (dgs_cons (dg_name (i := 7) sc_law_walk.nd rfl (by first | exact Or.inl rfl | exact Or.inr rfl)) (dgs_cons (dg_name (i := 8) sc_law_walk.nd rfl (by first | exact Or.inl rfl | exact Or.inr rfl)) (dgs_cons (dg_name (i := 9) sc_law_walk.nd rfl (by first | exact Or.inl rfl | exact Or.inr rfl)) dgs_nil)))))
    (dss_cons (ds_if (dt_cmp (op_eqD hr.units) eqG_ok (dx_var 4) (dx_str [98, 111, 116, 116, 111, 109]) (nomark _)) (dss_one (ds_par3 (i := 7) (j := 8) (l := 9) rfl sc_law_walk.nd rfl rfl rfl (by decide) (by decide) (by decide) rfl rfl rfl (da_cons (dx_op2 op_sub subG_ok (dx_var 2) dx_int) (da_cons (dx_frz (dx_var 5)) (da_cons dx_int da_nil))) (by rfl))) dss_nil)
    (dss_cons (ds_set (i := 10) sc_law_walk.nd rfl (.inl rfl) (dx_lst da_nil))
    (dss_cons (ds_for (passes_of rfl) rfl (di_range1 rfl n_range (da_cons (dx_op2 op_addG (addG_ok rfl) (dx_op2 op_mulA (mulG_ok rfl) (dx_op2 op_mulA (mulG_ok rfl) dx_int (dx_var 2)) (dx_var 6)) dx_int) da_nil)) (dg_name (i := 11) sc_law_walk.nd rfl (by first | exact Or.inl rfl | exact Or.inr rfl)) (dss_cons (ds_if (DW.dt (dw_or (dt_cmp op_lt ltG_ok (dx_var 8) dx_int (nomark _)) (dw_or1 (dt_cmp op_ge geG_ok (dx_var 8) (dx_var 6) (nomark _))))) (dss_one (ds_ret (dx_tup (da_cons (dx_tup (da_cons (dx_if (dt_cmp op_lt ltG_ok (dx_var 8) dx_int (nomark _)) (dx_str [108, 101, 102, 116]) (dx_str [114, 105, 103, 104, 116])) (da_cons (dx_frz (dx_var 7)) da_nil))) (da_cons (dx_frz (dx_var 10)) da_nil))))) dss_nil)
    (dss_cons (ds_if (DW.dt (dw_or (dt_cmp op_lt ltG_ok (dx_var 7) dx_int (nomark _)) (dw_or1 (dt_cmp op_ge geG_ok (dx_var 7) (dx_var 2) (nomark _))))) (dss_one (ds_ret (dx_tup (da_cons (dx_tup (da_cons (dx_if (dt_cmp op_lt ltG_ok (dx_var 7) dx_int (nomark _)) (dx_str [116, 111, 112]) (dx_str [98, 111, 116, 116, 111, 109])) (da_cons (dx_frz (dx_var 8)) da_nil))) (da_cons (dx_frz (dx_var 10)) da_nil))))) dss_nil)
    (dss_cons (ds_if (dt_cmp (op_inA (ru65 hr)) inG_ok (dx_tup (da_cons (dx_frz (dx_var 7)) (da_cons (dx_frz (dx_var 8)) (da_cons (dx_frz (dx_var 9)) da_nil)))) (dx_var 10) (by rfl)) (dss_one (ds_ret (dx_tup (da_cons (dx_tup (da_cons (dx_str [99, 97, 117, 103, 104, 116]) (da_cons dx_int da_nil))) (da_cons (dx_frz (dx_var 10)) da_nil))))) dss_nil)
    (dss_cons (ds_app (i := 10) rfl (by first | exact Or.inl rfl | exact Or.inr (Or.inl rfl) | exact Or.inr (Or.inr rfl)) (by decide) (by decide) (dx_tup (da_cons (dx_frz (dx_var 7)) (da_cons (dx_frz (dx_var 8)) (da_cons (dx_frz (dx_var 9)) da_nil)))))
    (dss_cons (ds_set (i := 9) sc_law_walk.nd rfl (.inl rfl) (dx_fn F_law_onward (hr.mono (by decide)) g_law_onward (takes_of rfl rfl rfl rfl) (da_cons (dx_ix (ix_all (ru1 hr)) (ixD_ok rfl rfl) (dx_ix (ix_all (ru1 hr)) (ixD_ok rfl rfl) (dx_var 3) (dx_frz (dx_var 8))) (dx_frz (dx_var 7))) (da_cons (dx_frz (dx_var 9)) da_nil))))
    (dss_cons (ds_if (dt_cmp (op_eqD hr.units) eqG_ok (dx_var 9) (dx_neg dx_int) (nomark _)) (dss_one (ds_ret (dx_tup (da_cons (dx_tup (da_cons (dx_str [115, 116, 111, 112, 112, 101, 100]) (da_cons dx_int da_nil))) (da_cons (dx_frz (dx_var 10)) da_nil))))) dss_nil)
    (dss_one (ds_par (i := 7) (j := 8) rfl sc_law_walk.nd rfl rfl (by decide) rfl rfl (da_cons (dx_frz (dx_op2 op_addG (addG_ok rfl) (dx_var 7) (dx_ix (ix_all (ru1 hr)) (ixD_ok rfl rfl) (dx_lst (da_cons dx_int (da_cons dx_int (da_cons dx_int (da_cons (dx_neg dx_int) da_nil))))) (dx_frz (dx_var 9))))) (da_cons (dx_frz (dx_op2 op_addG (addG_ok rfl) (dx_var 8) (dx_ix (ix_all (ru1 hr)) (ixD_ok rfl rfl) (dx_lst (da_cons dx_int (da_cons (dx_neg dx_int) (da_cons dx_int (da_cons dx_int da_nil))))) (dx_frz (dx_var 9))))) da_nil)) (by rfl))))))))))
    (dss_one (ds_ret (dx_tup (da_cons (dx_tup (da_cons (dx_str [99, 97, 117, 103, 104, 116]) (da_cons dx_int da_nil))) (da_cons (dx_frz (dx_var 10)) da_nil)))))))))))))), (F.binds (ps := ["strip", "gate"]) fun _ _ _ _ _ _ us hl => match us, hl with | [_, _], _ => rfl)⟩, F.kp⟩

abbrev s_law_plain : Stmt := topS 29
theorem sc_law_plain : FnScope ["end"] ["end"] (defScope s_law_plain) := ⟨rfl, rfl, rfl, by decide +kernel, rfl, by decide +kernel, by decide +kernel⟩
theorem ok_law_plain {f : Addr} {fd : FuncData} (F : Fun G.K "_law_plain" "_law_plain" s_law_plain f fd) : FnG G mg base 1 1 f m_law_plain :=
  ⟨⟨_, ["end"], okD (k := 0) (np := 1) (nx := 0) F sc_law_plain rfl rfl (fun B cdv A outer s H E hr => (show DSs _ _ _ _ b_law_plain from (dss_one (ds_ret (dx_if (dt_cmp (op_inA (ru65 hr)) inG_ok (dx_ix (ix_all (ru1 hr)) (ixD_ok rfl rfl) (dx_var 0) dx_int) (dx_lst (da_cons (dx_str [108, 101, 102, 116]) (da_cons (dx_str [114, 105, 103, 104, 116]) da_nil))) (by rfl)) (dx_var 0) (dx_tup (da_cons (dx_ix (ix_all (ru1 hr)) (ixD_ok rfl rfl) (dx_var 0) dx_int) (da_cons dx_int da_nil)))))))), (F.binds (ps := ["end"]) fun _ _ _ _ _ _ us hl => match us, hl with | [_], _ => rfl)⟩, F.kp⟩

abbrev s_law_table : Stmt := topS 30
theorem sc_law_table : FnScope ["strip", "rows", "side", "row"] ["strip"] (defScope s_law_table) := ⟨rfl, rfl, rfl, by decide +kernel, rfl, by decide +kernel, by decide +kernel⟩
theorem ok_law_table {f : Addr} {fd : FuncData} (F : Fun G.K "_law_table" "_law_table" s_law_table f fd) {a_law_plain : Addr} (g_law_plain : mg "_law_plain" = some (.ref a_law_plain)) (F_law_plain : FnG G mg base 1 1 a_law_plain m_law_plain) {a_law_walk : Addr} (g_law_walk : mg "_law_walk" = some (.ref a_law_walk)) (F_law_walk : FnG G mg base 2 2 a_law_walk m_law_walk) (n_range : mg "range" = none) (n_tuple : mg "tuple" = none) : FnG G mg base 3 1 f m_law_table :=
  ⟨⟨_, ["strip"], okD (k := 2) (np := 1) (nx := 3) F sc_law_table rfl rfl (fun B cdv A outer s H E hr => (show DSs _ _ _ _ b_law_table from (dss_cons (ds_set (i := 1) sc_law_table.nd rfl (.inl rfl) (dx_lst da_nil))
    (dss_cons (ds_for (passes_of rfl) rfl (di_seq rfl (dx_lst (da_cons (dx_str [108, 101, 102, 116]) (da_cons (dx_str [114, 105, 103, 104, 116]) da_nil)))) (dg_name (i := 2) sc_law_table.nd rfl (by first | exact Or.inl rfl | exact Or.inr rfl)) (dss_one (ds_app (i := 1) rfl (by first | exact Or.inl rfl | exact Or.inr (Or.inl rfl) | exact Or.inr (Or.inr rfl)) (by decide) (by decide) (dx_callTy call_tuple_of (tupleG_ok rfl) rfl n_tuple bt_tuple (da_cons (dx_lc (own := [("row", 3)]) rfl sc_law_table.nd (di_lim (di_range1 rfl n_range (da_cons (dx_ix (ix_all (ru1 hr)) (ixD_ok rfl rfl) (dx_var 0) dx_int) da_nil))) (blkOk_by (N := ["strip", "rows", "side", "row"]) (sc := defScope s_law_table) (by decide +kernel)) (his := by decide) (fun _ _ _ _ _ => (dg_name (i := 3) sc_law_table.nd rfl (by first | exact Or.inl rfl | exact Or.inr rfl))) (fun _ _ _ _ _ => dts_nil) (fun _ _ _ _ _ => (dx_frz (dx_fn F_law_plain (hr.mono (by decide)) g_law_plain takesF (da_cons (dx_ix (ix_all (ru1 hr)) (ixD_ok rfl rfl) (dx_fn F_law_walk (hr.mono (by decide)) g_law_walk takesF (da_cons (dx_var 0) (da_cons (dx_tup (da_cons (dx_var 2) (da_cons (dx_var 3) da_nil))) da_nil))) dx_int) da_nil))))) da_nil)))))
    (dss_one (ds_ret (dx_tup (da_cons (dx_ix (ix_all (ru1 hr)) (ixD_ok rfl rfl) (dx_var 1) dx_int) (da_cons (dx_ix (ix_all (ru1 hr)) (ixD_ok rfl rfl) (dx_var 1) dx_int) da_nil))))))))), (F.binds (ps := ["strip"]) fun _ _ _ _ _ _ us hl => match us, hl with | [_], _ => rfl)⟩, F.kp⟩

abbrev s_law_signs : Stmt := topS 31
theorem sc_law_signs : FnScope [] [] (defScope s_law_signs) := ⟨rfl, rfl, rfl, by decide +kernel, rfl, by decide +kernel, by decide +kernel⟩
theorem ok_law_signs {f : Addr} {fd : FuncData} (F : Fun G.K "_law_signs" "_law_signs" s_law_signs f fd) : FnG G mg base 1 0 f m_law_signs :=
  ⟨⟨_, [], okD (k := 0) (np := 0) (nx := 0) F sc_law_signs rfl rfl (fun B cdv A outer s H E hr => (show DSs _ _ _ _ b_law_signs from (dss_one (ds_ret (dx_lst (da_cons (dx_str [35]) (da_cons (dx_str [46]) (da_cons (dx_str [100]) (da_cons (dx_str [112]) (da_cons (dx_str [113]) (da_cons (dx_str [117]) (da_cons (dx_str [118]) (da_cons (dx_str [119]) da_nil))))))))))))), (F.binds (ps := []) fun _ _ _ _ _ _ us hl => match us, hl with | [], _ => rfl)⟩, F.kp⟩

abbrev s_law_column : Stmt := topS 32
theorem sc_law_column : FnScope ["source", "width", "some", "row"] ["source", "width"] (defScope s_law_column) := ⟨rfl, rfl, rfl, by decide +kernel, rfl, by decide +kernel, by decide +kernel⟩
theorem ok_law_column {f : Addr} {fd : FuncData} (F : Fun G.K "_law_column" "_law_column" s_law_column f fd) {a_law_chosen : Addr} (g_law_chosen : mg "_law_chosen" = some (.ref a_law_chosen)) (F_law_chosen : FnG G mg base 2 2 a_law_chosen m_law_chosen) {a_law_pick : Addr} (g_law_pick : mg "_law_pick" = some (.ref a_law_pick)) (F_law_pick : FnG G mg base 1 2 a_law_pick m_law_pick) (n_len : mg "len" = none) (n_range : mg "range" = none) : FnG G mg base 3 2 f m_law_column :=
  ⟨⟨_, ["source", "width"], okD (k := 2) (np := 2) (nx := 2) F sc_law_column rfl rfl (fun B cdv A outer s H E hr => (show DSs _ _ _ _ b_law_column from (dss_cons (ds_set (i := 2) sc_law_column.nd rfl (.inr rfl) (dx_lst (da_cons (dx_str [46]) (da_cons (dx_str [46]) (da_cons (dx_str [100]) (da_cons (dx_str [112]) (da_cons (dx_str [113]) (da_cons (dx_str [117]) (da_cons (dx_str [118]) (da_cons (dx_str [119]) (da_cons (dx_str [35]) da_nil)))))))))))
    (dss_one (ds_ret (dx_join rfl (dx_str []) (dx_lc (own := [("row", 3)]) rfl sc_law_column.nd (di_lim (di_range1 rfl n_range (da_cons (dx_var 1) da_nil))) (blkOk_by (N := ["source", "width", "some", "row"]) (sc := defScope s_law_column) (by decide +kernel)) (his := by decide) (fun _ _ _ _ _ => (dg_name (i := 3) sc_law_column.nd rfl (by first | exact Or.inl rfl | exact Or.inr rfl))) (fun _ _ _ _ _ => dts_nil) (fun _ _ _ _ _ => (dx_frz (dx_fn F_law_chosen (hr.mono (by decide)) g_law_chosen takesF (da_cons (dx_var 0) (da_cons (dx_frz (dx_slice rfl (dx_var 2) do_none (do_some (dx_op2 op_sub subG_ok (dx_callB call_len (lenG_ok rfl) rfl n_len bt_len (da_cons (dx_var 2) da_nil)) (dx_fn F_law_pick (hr.mono (by decide)) g_law_pick takesF (da_cons (dx_var 0) (da_cons dx_int da_nil))))))) da_nil)))))))))))), (F.binds (ps := ["source", "width"]) fun _ _ _ _ _ _ us hl => match us, hl with | [_, _], _ => rfl)⟩, F.kp⟩

abbrev s_law_strip : Stmt := topS 33
theorem sc_law_strip : FnScope ["source", "width", "most", "turn"] ["source", "width", "most"] (defScope s_law_strip) := ⟨rfl, rfl, rfl, by decide +kernel, rfl, by decide +kernel, by decide +kernel⟩
theorem ok_law_strip {f : Addr} {fd : FuncData} (F : Fun G.K "_law_strip" "_law_strip" s_law_strip f fd) {a_law_column : Addr} (g_law_column : mg "_law_column" = some (.ref a_law_column)) (F_law_column : FnG G mg base 3 2 a_law_column m_law_column) {a_law_pick : Addr} (g_law_pick : mg "_law_pick" = some (.ref a_law_pick)) (F_law_pick : FnG G mg base 1 2 a_law_pick m_law_pick) (n_range : mg "range" = none) (n_tuple : mg "tuple" = none) : FnG G mg base 4 3 f m_law_strip :=
  ⟨⟨_, ["source", "width", "most"], okD (k := 3) (np := 3) (nx := 1) F sc_law_strip rfl rfl (fun B cdv A outer s H E hr => (show DSs _ _ _ _ b_law_strip from (dss_one (ds_ret (dx_tup (da_cons (dx_var 1) (da_cons (dx_callTy call_tuple_of (tupleG_ok rfl) rfl n_tuple bt_tuple (da_cons (dx_lc (own := [("turn", 3)]) rfl sc_law_strip.nd (di_lim (di_range1 rfl n_range (da_cons (dx_frz (dx_fn F_law_pick (hr.mono (by decide)) g_law_pick (takes_of rfl rfl rfl rfl) (da_cons (dx_var 0) (da_cons (dx_op2 op_addG (addG_ok rfl) (dx_var 2) dx_int) da_nil)))) da_nil))) (blkOk_by (N := ["source", "width", "most", "turn"]) (sc := defScope s_law_strip) (by decide +kernel)) (his := by decide) (fun _ _ _ _ _ => (dg_name (i := 3) sc_law_strip.nd rfl (by first | exact Or.inl rfl | exact Or.inr rfl))) (fun _ _ _ _ _ => dts_nil) (fun _ _ _ _ _ => (dx_frz (dx_fn F_law_column (hr.mono (by decide)) g_law_column takesF (da_cons (dx_var 0) (da_cons (dx_var 1) da_nil)))))) da_nil)) da_nil))))))), (F.binds (ps := ["source", "width", "most"]) fun _ _ _ _ _ _ us hl => match us, hl with | [_, _, _], _ => rfl)⟩, F.kp⟩

abbrev s_law_good_strip : Stmt := topS 34
theorem sc_law_good_strip : FnScope ["value", "wide", "long", "signs", "column", "sign"] ["value", "wide", "long", "signs"] (defScope s_law_good_strip) := ⟨rfl, rfl, rfl, by decide +kernel, rfl, by decide +kernel, by decide +kernel⟩
theorem ok_law_good_strip {f : Addr} {fd : FuncData} (F : Fun G.K "_law_good_strip" "_law_good_strip" s_law_good_strip f fd) {a_law_whole : Addr} (g_law_whole : mg "_law_whole" = some (.ref a_law_whole)) (F_law_whole : FnG G mg base 1 3 a_law_whole m_law_whole) {a_law_wide : Addr} (g_law_wide : mg "_law_wide" = some (.ref a_law_wide)) (F_law_wide : FnG G mg base 1 3 a_law_wide m_law_wide) (n_isinstance : mg "isinstance" = none) (n_len : mg "len" = none) (n_str : mg "str" = none) : FnG G mg base 2 4 f m_law_good_strip :=
  ⟨⟨_, ["value", "wide", "long", "signs"], okD (k := 1) (np := 4) (nx := 2) F sc_law_good_strip rfl rfl (fun B cdv A outer s H E hr => (show DSs _ _ _ _ b_law_good_strip from (dss_cons (ds_if (DW.dt (dw_or (dt_not (dt_val (dx_fn F_law_wide (hr.mono (by decide)) g_law_wide (takes_of rfl rfl rfl rfl) (da_cons (dx_var 0) (da_cons dx_int (da_cons dx_int da_nil)))))) (dw_or (dt_not (dt_val (dx_fn F_law_whole (hr.mono (by decide)) g_law_whole (takes_of rfl rfl rfl rfl) (da_cons (dx_ix (ix_all (ru1 hr)) (ixD_ok rfl rfl) (dx_var 0) dx_int) (da_cons dx_int (da_cons (dx_var 1) da_nil)))))) (dw_or1 (dt_not (dt_val (dx_fn F_law_wide (hr.mono (by decide)) g_law_wide (takes_of rfl rfl rfl rfl) (da_cons (dx_ix (ix_all (ru1 hr)) (ixD_ok rfl rfl) (dx_var 0) dx_int) (da_cons dx_int (da_cons (dx_var 2) da_nil)))))))))) (dss_one (ds_ret dx_bl)) dss_nil)
    (dss_cons (ds_for (passes_of rfl) rfl (di_seq rfl (dx_ix (ix_all (ru1 hr)) (ixD_ok rfl rfl) (dx_var 0) dx_int)) (dg_name (i := 4) sc_law_good_strip.nd rfl (by first | exact Or.inl rfl | exact Or.inr rfl)) (dss_cons (ds_if (DW.dt (dw_or (dt_not (dt_val (dx_isi "str" rfl rfl n_isinstance bt_isinstance rfl n_str bt_str (dx_var 4)))) (dw_or1 (dt_cmp (op_neD hr.units) neG_ok (dx_callB call_len (lenG_ok rfl) rfl n_len bt_len (da_cons (dx_var 4) da_nil)) (dx_ix (ix_all (ru1 hr)) (ixD_ok rfl rfl) (dx_var 0) dx_int) (nomark _))))) (dss_one (ds_ret dx_bl)) dss_nil)
    (dss_one (ds_if (dt_cmp (op_neD hr.units) neG_ok (dx_lc (own := [("sign", 5)]) rfl sc_law_good_strip.nd (di_seq rfl (dx_var 4)) (blkOk_by (N := ["value", "wide", "long", "signs", "column", "sign"]) (sc := defScope s_law_good_strip) (by decide +kernel)) (his := by decide) (fun _ _ _ _ _ => (dg_name (i := 5) sc_law_good_strip.nd rfl (by first | exact Or.inl rfl | exact Or.inr rfl))) (fun _ _ _ _ _ => (dts_one (dt_cmp (op_notInA (ru65 hr)) inG_ok (dx_var 5) (dx_var 3) (by rfl)))) (fun _ _ _ _ _ => (dx_var 5))) (dx_lst da_nil) (nomark _)) (dss_one (ds_ret dx_bl)) dss_nil))))
    (dss_one (ds_ret dx_bl)))))), (F.binds (ps := ["value", "wide", "long", "signs"]) fun _ _ _ _ _ _ us hl => match us, hl with | [_, _, _, _], _ => rfl)⟩, F.kp⟩

abbrev s_law_good_pattern : Stmt := topS 35
theorem sc_law_good_pattern : FnScope ["value", "sign"] ["value"] (defScope s_law_good_pattern) := ⟨rfl, rfl, rfl, by decide +kernel, rfl, by decide +kernel, by decide +kernel⟩
theorem ok_law_good_pattern {f : Addr} {fd : FuncData} (F : Fun G.K "_law_good_pattern" "_law_good_pattern" s_law_good_pattern f fd) {a_law_good_strip : Addr} (g_law_good_strip : mg "_law_good_strip" = some (.ref a_law_good_strip)) (F_law_good_strip : FnG G mg base 2 4 a_law_good_strip m_law_good_strip) {a_law_signs : Addr} (g_law_signs : mg "_law_signs" = some (.ref a_law_signs)) (F_law_signs : FnG G mg base 1 0 a_law_signs m_law_signs) (n_len : mg "len" = none) : FnG G mg base 3 1 f m_law_good_pattern :=
  ⟨⟨_, ["value"], okD (k := 2) (np := 1) (nx := 1) F sc_law_good_pattern rfl rfl (fun B cdv A outer s H E hr => (show DSs _ _ _ _ b_law_good_pattern from (dss_cons (ds_if (dt_not (dt_val (dx_fn F_law_good_strip (hr.mono (by decide)) g_law_good_strip (takes_of rfl rfl rfl rfl) (da_cons (dx_var 0) (da_cons dx_int (da_cons dx_int (da_cons (dx_frz (dx_op2 op_addG (addG_ok rfl) (dx_fn0 F_law_signs (hr.mono (by decide)) g_law_signs (takes_of rfl rfl rfl rfl)) (dx_lst (da_cons (dx_str [63]) da_nil)))) da_nil))))))) (dss_one (ds_ret dx_bl)) dss_nil)
    (dss_one (ds_ret (dx_cmp (op_inA (ru65 hr)) inG_ok (dx_callB call_len (lenG_ok rfl) rfl n_len bt_len (da_cons (dx_lc (own := [("sign", 1)]) rfl sc_law_good_pattern.nd (di_seq rfl (dx_join rfl (dx_str []) (dx_ix (ix_all (ru1 hr)) (ixD_ok rfl rfl) (dx_var 0) dx_int))) (blkOk_by (N := ["value", "sign"]) (sc := defScope s_law_good_pattern) (by decide +kernel)) (his := by decide) (fun _ _ _ _ _ => (dg_name (i := 1) sc_law_good_pattern.nd rfl (by first | exact Or.inl rfl | exact Or.inr rfl))) (fun _ _ _ _ _ => (dts_one (dt_cmp (op_eqD hr.units) eqG_ok (dx_var 1) (dx_str [63]) (nomark _)))) (fun _ _ _ _ _ => (dx_var 1))) da_nil)) (dx_lst (da_cons dx_int (da_cons dx_int (da_cons dx_int da_nil)))) (by rfl))))))), (F.binds (ps := ["value"]) fun _ _ _ _ _ _ us hl => match us, hl with | [_], _ => rfl)⟩, F.kp⟩

abbrev s_law_good_end : Stmt := topS 36
theorem sc_law_good_end : FnScope ["value", "width"] ["value", "width"] (defScope s_law_good_end) := ⟨rfl, rfl, rfl, by decide +kernel, rfl, by decide +kernel, by decide +kernel⟩
theorem ok_law_good_end {f : Addr} {fd : FuncData} (F : Fun G.K "_law_good_end" "_law_good_end" s_law_good_end f fd) {a_law_whole : Addr} (g_law_whole : mg "_law_whole" = some (.ref a_law_whole)) (F_law_whole : FnG G mg base 1 3 a_law_whole m_law_whole) {a_law_wide : Addr} (g_law_wide : mg "_law_wide" = some (.ref a_law_wide)) (F_law_wide : FnG G mg base 1 3 a_law_wide m_law_wide) (n_isinstance : mg "isinstance" = none) (n_str : mg "str" = none) : FnG G mg base 2 2 f m_law_good_end :=
  ⟨⟨_, ["value", "width"], okD (k := 1) (np := 2) (nx := 0) F sc_law_good_end rfl rfl (fun B cdv A outer s H E hr => (show DSs _ _ _ _ b_law_good_end from (dss_cons (ds_if (DW.dt (dw_or (dt_not (dt_val (dx_fn F_law_wide (hr.mono (by decide)) g_law_wide (takes_of rfl rfl rfl rfl) (da_cons (dx_var 0) (da_cons dx_int (da_cons dx_int da_nil)))))) (dw_or1 (dt_not (dt_val (dx_isi "str" rfl rfl n_isinstance bt_isinstance rfl n_str bt_str (dx_ix (ix_all (ru1 hr)) (ixD_ok rfl rfl) (dx_var 0) dx_int))))))) (dss_one (ds_ret dx_bl)) dss_nil)
    (dss_cons (ds_if (dt_cmp (op_inA (ru65 hr)) inG_ok (dx_ix (ix_all (ru1 hr)) (ixD_ok rfl rfl) (dx_var 0) dx_int) (dx_lst (da_cons (dx_str [108, 101, 102, 116]) (da_cons (dx_str [114, 105, 103, 104, 116]) da_nil))) (by rfl)) (dss_one (ds_ret (dx_fn F_law_whole (hr.mono (by decide)) g_law_whole (takes_of rfl rfl rfl rfl) (da_cons (dx_ix (ix_all (ru1 hr)) (ixD_ok rfl rfl) (dx_var 0) dx_int) (da_cons dx_int (da_cons (dx_op2 op_sub subG_ok (dx_var 1) dx_int) da_nil)))))) dss_nil)
    (dss_one (ds_ret (dx_and (dx_cmp (op_inA (ru65 hr)) inG_ok (dx_ix (ix_all (ru1 hr)) (ixD_ok rfl rfl) (dx_var 0) dx_int) (dx_lst (da_cons (dx_str [98, 111, 116, 116, 111, 109]) (da_cons (dx_str [99, 97, 117, 103, 104, 116]) (da_cons (dx_str [115, 116, 111, 112, 112, 101, 100]) (da_cons (dx_str [116, 111, 112]) da_nil))))) (by rfl)) (dx_one (dx_fn F_law_whole (hr.mono (by decide)) g_law_whole (takes_of rfl rfl rfl rfl) (da_cons (dx_ix (ix_all (ru1 hr)) (ixD_ok rfl rfl) (dx_var 0) dx_int) (da_cons dx_int (da_cons dx_int da_nil)))))))))))), (F.binds (ps := ["value", "width"]) fun _ _ _ _ _ _ us hl => match us, hl with | [_, _], _ => rfl)⟩, F.kp⟩

abbrev s_law_good_table : Stmt := topS 37
theorem sc_law_good_table : FnScope ["value", "end"] ["value"] (defScope s_law_good_table) := ⟨rfl, rfl, rfl, by decide +kernel, rfl, by decide +kernel, by decide +kernel⟩
theorem ok_law_good_table {f : Addr} {fd : FuncData} (F : Fun G.K "_law_good_table" "_law_good_table" s_law_good_table f fd) {a_law_good_end : Addr} (g_law_good_end : mg "_law_good_end" = some (.ref a_law_good_end)) (F_law_good_end : FnG G mg base 2 2 a_law_good_end m_law_good_end) {a_law_wide : Addr} (g_law_wide : mg "_law_wide" = some (.ref a_law_wide)) (F_law_wide : FnG G mg base 1 3 a_law_wide m_law_wide) (n_len : mg "len" = none) : FnG G mg base 3 1 f m_law_good_table :=
  ⟨⟨_, ["value"], okD (k := 2) (np := 1) (nx := 1) F sc_law_good_table rfl rfl (fun B cdv A outer s H E hr => (show DSs _ _ _ _ b_law_good_table from (dss_cons (ds_if (DW.dt (dw_or (dt_not (dt_val (dx_fn F_law_wide (hr.mono (by decide)) g_law_wide (takes_of rfl rfl rfl rfl) (da_cons (dx_var 0) (da_cons dx_int (da_cons dx_int da_nil)))))) (dw_or (dt_not (dt_val (dx_fn F_law_wide (hr.mono (by decide)) g_law_wide (takes_of rfl rfl rfl rfl) (da_cons (dx_ix (ix_all (ru1 hr)) (ixD_ok rfl rfl) (dx_var 0) dx_int) (da_cons dx_int (da_cons dx_int da_nil)))))) (dw_or1 (dt_not (dt_val (dx_fn F_law_wide (hr.mono (by decide)) g_law_wide (takes_of rfl rfl rfl rfl) (da_cons (dx_ix (ix_all (ru1 hr)) (ixD_ok rfl rfl) (dx_var 0) dx_int) (da_cons dx_int (da_cons dx_int da_nil)))))))))) (dss_one (ds_ret dx_bl)) dss_nil)
    (dss_cons (ds_if (dt_cmp (op_neD hr.units) neG_ok (dx_callB call_len (lenG_ok rfl) rfl n_len bt_len (da_cons (dx_ix (ix_all (ru1 hr)) (ixD_ok rfl rfl) (dx_var 0) dx_int) da_nil)) (dx_callB call_len (lenG_ok rfl) rfl n_len bt_len (da_cons (dx_ix (ix_all (ru1 hr)) (ixD_ok rfl rfl) (dx_var 0) dx_int) da_nil)) (nomark _)) (dss_one (ds_ret dx_bl)) dss_nil)
    (dss_one (ds_ret (dx_cmp (op_eqD hr.units) eqG_ok (dx_lc (own := [("end", 1)]) rfl sc_law_good_table.nd (di_seq rfl (dx_op2 op_addG (addG_ok rfl) (dx_ix (ix_all (ru1 hr)) (ixD_ok rfl rfl) (dx_var 0) dx_int) (dx_ix (ix_all (ru1 hr)) (ixD_ok rfl rfl) (dx_var 0) dx_int))) (blkOk_by (N := ["value", "end"]) (sc := defScope s_law_good_table) (by decide +kernel)) (his := by decide) (fun _ _ _ _ _ => (dg_name (i := 1) sc_law_good_table.nd rfl (by first | exact Or.inl rfl | exact Or.inr rfl))) (fun _ _ _ _ _ => (dts_one (dt_not (dt_val (dx_fn F_law_good_end (hr.mono (by decide)) g_law_good_end takesF (da_cons (dx_var 1) (da_cons (dx_callB call_len (lenG_ok rfl) rfl n_len bt_len (da_cons (dx_ix (ix_all (ru1 hr)) (ixD_ok rfl rfl) (dx_var 0) dx_int) da_nil)) da_nil))))))) (fun _ _ _ _ _ => (dx_var 1))) (dx_lst da_nil) (nomark _)))))))), (F.binds (ps := ["value"]) fun _ _ _ _ _ _ us hl => match us, hl with | [_], _ => rfl)⟩, F.kp⟩

abbrev s_law_told_right : Stmt := topS 38
theorem sc_law_told_right : FnScope ["value"] ["value"] (defScope s_law_told_right) := ⟨rfl, rfl, rfl, by decide +kernel, rfl, by decide +kernel, by decide +kernel⟩
theorem ok_law_told_right {f : Addr} {fd : FuncData} (F : Fun G.K "_law_told_right" "_law_told_right" s_law_told_right f fd) {a_law_good_pattern : Addr} (g_law_good_pattern : mg "_law_good_pattern" = some (.ref a_law_good_pattern)) (F_law_good_pattern : FnG G mg base 3 1 a_law_good_pattern m_law_good_pattern) {a_law_good_strip : Addr} (g_law_good_strip : mg "_law_good_strip" = some (.ref a_law_good_strip)) (F_law_good_strip : FnG G mg base 2 4 a_law_good_strip m_law_good_strip) {a_law_good_table : Addr} (g_law_good_table : mg "_law_good_table" = some (.ref a_law_good_table)) (F_law_good_table : FnG G mg base 3 1 a_law_good_table m_law_good_table) {a_law_is_bool : Addr} (g_law_is_bool : mg "_law_is_bool" = some (.ref a_law_is_bool)) (F_law_is_bool : FnG G mg base 1 2 a_law_is_bool m_law_is_bool) {a_law_signs : Addr} (g_law_signs : mg "_law_signs" = some (.ref a_law_signs)) (F_law_signs : FnG G mg base 1 0 a_law_signs m_law_signs) {a_is_pattern : Addr} (g_is_pattern : mg "is_pattern" = some (.ref a_is_pattern)) (F_is_pattern : FnG G mg base 4 1 a_is_pattern m_is_pattern) {a_is_strip : Addr} (g_is_strip : mg "is_strip" = some (.ref a_is_strip)) (F_is_strip : FnG G mg base 4 1 a_is_strip m_is_strip) {a_is_table : Addr} (g_is_table : mg "is_table" = some (.ref a_is_table)) (F_is_table : FnG G mg base 4 1 a_is_table m_is_table) : FnG G mg base 5 1 f m_law_told_right :=
  ⟨⟨_, ["value"], okD (k := 4) (np := 1) (nx := 0) F sc_law_told_right rfl rfl (fun B cdv A outer s H E hr => (show DSs _ _ _ _ b_law_told_right from (dss_cons (ds_if (dt_not (dt_val (dx_fn F_law_is_bool (hr.mono (by decide)) g_law_is_bool (takes_of rfl rfl rfl rfl) (da_cons (dx_frz (dx_fn F_is_strip (hr.mono (by decide)) g_is_strip (takes_of rfl rfl rfl rfl) (da_cons (dx_var 0) da_nil))) (da_cons (dx_frz (dx_fn F_law_good_strip (hr.mono (by decide)) g_law_good_strip (takes_of rfl rfl rfl rfl) (da_cons (dx_var 0) (da_cons dx_int (da_cons dx_int (da_cons (dx_frz (dx_fn0 F_law_signs (hr.mono (by decide)) g_law_signs (takes_of rfl rfl rfl rfl))) da_nil)))))) da_nil))))) (dss_one (ds_ret dx_bl)) dss_nil)
    (dss_cons (ds_if (dt_not (dt_val (dx_fn F_law_is_bool (hr.mono (by decide)) g_law_is_bool (takes_of rfl rfl rfl rfl) (da_cons (dx_frz (dx_fn F_is_pattern (hr.mono (by decide)) g_is_pattern (takes_of rfl rfl rfl rfl) (da_cons (dx_var 0) da_nil))) (da_cons (dx_frz (dx_fn F_law_good_pattern (hr.mono (by decide)) g_law_good_pattern (takes_of rfl rfl rfl rfl) (da_cons (dx_var 0) da_nil))) da_nil))))) (dss_one (ds_ret dx_bl)) dss_nil)
    (dss_one (ds_ret (dx_fn F_law_is_bool (hr.mono (by decide)) g_law_is_bool (takes_of rfl rfl rfl rfl) (da_cons (dx_frz (dx_fn F_is_table (hr.mono (by decide)) g_is_table (takes_of rfl rfl rfl rfl) (da_cons (dx_var 0) da_nil))) (da_cons (dx_frz (dx_fn F_law_good_table (hr.mono (by decide)) g_law_good_table (takes_of rfl rfl rfl rfl) (da_cons (dx_var 0) da_nil))) da_nil))))))))), (F.binds (ps := ["value"]) fun _ _ _ _ _ _ us hl => match us, hl with | [_], _ => rfl)⟩, F.kp⟩

abbrev s_law : Stmt := topS 39
theorem sc_law : FnScope ["script", "k", "source", "strip", "rows", "some", "values", "turn", "odd", "value", "end"] ["script"] (defScope s_law) := ⟨rfl, rfl, rfl, by decide +kernel, rfl, by decide +kernel, by decide +kernel⟩
theorem ok_law {f : Addr} {fd : FuncData} (F : Fun G.K "law" "law" s_law f fd) {a_law_any_value : Addr} (g_law_any_value : mg "_law_any_value" = some (.ref a_law_any_value)) (F_law_any_value : FnG G mg base 8 2 a_law_any_value (m_law_any_value 5)) {a_law_chosen : Addr} (g_law_chosen : mg "_law_chosen" = some (.ref a_law_chosen)) (F_law_chosen : FnG G mg base 2 2 a_law_chosen m_law_chosen) {a_law_column : Addr} (g_law_column : mg "_law_column" = some (.ref a_law_column)) (F_law_column : FnG G mg base 3 2 a_law_column m_law_column) {a_law_pick : Addr} (g_law_pick : mg "_law_pick" = some (.ref a_law_pick)) (F_law_pick : FnG G mg base 1 2 a_law_pick m_law_pick) {a_law_source : Addr} (g_law_source : mg "_law_source" = some (.ref a_law_source)) (F_law_source : FnG G mg base 1 2 a_law_source m_law_source) {a_law_strip : Addr} (g_law_strip : mg "_law_strip" = some (.ref a_law_strip)) (F_law_strip : FnG G mg base 4 3 a_law_strip m_law_strip) {a_law_table : Addr} (g_law_table : mg "_law_table" = some (.ref a_law_table)) (F_law_table : FnG G mg base 3 1 a_law_table m_law_table) {a_law_told_right : Addr} (g_law_told_right : mg "_law_told_right" = some (.ref a_law_told_right)) (F_law_told_right : FnG G mg base 5 1 a_law_told_right m_law_told_right) {a_law_variant : Addr} (g_law_variant : mg "_law_variant" = some (.ref a_law_variant)) (F_law_variant : FnG G mg base 15 3 a_law_variant (m_law_variant 6)) (n_isinstance : mg "isinstance" = none) (n_len : mg "len" = none) (n_list : mg "list" = none) (n_max : mg "max" = none) (n_min : mg "min" = none) (n_range : mg "range" = none) (n_tuple : mg "tuple" = none) : FnOk G.P G.w G.K mg base (L2.CX G.P G.w) 16 f fd ["script"] (spF G 1 m_law) :=
  okD (k := 15) (np := 1) (nx := 10) F sc_law rfl rfl (fun B cdv A outer s H E hr => (show DSs _ _ _ _ b_law from (dss_cons (ds_for (passes_of rfl) rfl (di_range1 rfl n_range (da_cons (dx_callB (call_max2 rfl) max2G_ok rfl n_max bt_max (da_cons dx_int (da_cons (dx_callB (call_min2 rfl) min2G_ok rfl n_min bt_min (da_cons dx_int (da_cons (dx_callB call_len (lenG_ok rfl) rfl n_len bt_len (da_cons (dx_var 0) da_nil)) da_nil))) da_nil))) da_nil)) (dg_name (i := 1) sc_law.nd rfl (by first | exact Or.inl rfl | exact Or.inr rfl)) (dss_cons (ds_set (i := 2) sc_law.nd rfl (.inl rfl) (dx_fn F_law_source (hr.mono (by decide)) g_law_source (takes_of rfl rfl rfl rfl) (da_cons (dx_var 0) (da_cons (dx_var 1) da_nil))))
    (dss_cons (ds_set (i := 3) sc_law.nd rfl (.inl rfl) (dx_fn F_law_strip (hr.mono (by decide)) g_law_strip (takes_of rfl rfl rfl rfl) (da_cons (dx_var 2) (da_cons (dx_op2 op_addG (addG_ok rfl) dx_int (dx_fn F_law_pick (hr.mono (by decide)) g_law_pick (takes_of rfl rfl rfl rfl) (da_cons (dx_var 2) (da_cons dx_int da_nil)))) (da_cons dx_int da_nil)))))
    (dss_cons (ds_set (i := 4) sc_law.nd rfl (.inl rfl) (dx_fn F_law_table (hr.mono (by decide)) g_law_table (takes_of rfl rfl rfl rfl) (da_cons (dx_frz (dx_var 3)) da_nil)))
    (dss_cons (ds_set (i := 5) sc_law.nd rfl (.inl rfl) (dx_tup (da_cons dx_int (da_cons (dx_tup (da_cons (dx_frz (dx_fn F_law_column (hr.mono (by decide)) g_law_column (takes_of rfl rfl rfl rfl) (da_cons (dx_var 2) (da_cons dx_int da_nil)))) (da_cons (dx_op2 op_addG (addG_ok rfl) (dx_str [63]) (dx_fn F_law_chosen (hr.mono (by decide)) g_law_chosen (takes_of rfl rfl rfl rfl) (da_cons (dx_var 2) (da_cons (dx_frz (dx_lst (da_cons (dx_str [46]) (da_cons (dx_str [63]) (da_cons (dx_str [120]) da_nil))))) da_nil)))) (da_cons (dx_str [112, 63]) da_nil)))) da_nil))))
    (dss_cons (ds_set (i := 6) sc_law.nd rfl (.inl rfl) (dx_lst (da_cons (dx_frz (dx_var 3)) (da_cons (dx_frz (dx_var 4)) (da_cons (dx_frz (dx_var 5)) (da_cons (dx_frz (dx_callTy call_list_of (listG_ok rfl) rfl n_list bt_list (da_cons (dx_var 3) da_nil))) (da_cons (dx_frz (dx_callTy call_list_of (listG_ok rfl) rfl n_list bt_list (da_cons (dx_var 4) da_nil))) (da_cons (dx_tup (da_cons (dx_ix (ix_all (ru1 hr)) (ixD_ok rfl rfl) (dx_var 3) dx_int) (da_cons (dx_frz (dx_callTy call_list_of (listG_ok rfl) rfl n_list bt_list (da_cons (dx_ix (ix_all (ru1 hr)) (ixD_ok rfl rfl) (dx_var 3) dx_int) da_nil))) da_nil))) (da_cons (dx_ix (ix_all (ru1 hr)) (ixD_ok rfl rfl) (dx_var 4) dx_int) (da_cons (dx_ix (ix_all (ru1 hr)) (ixD_ok rfl rfl) (dx_var 3) dx_int) da_nil))))))))))
    (dss_cons (ds_for (passes_of rfl) rfl (di_range1 rfl n_range (da_cons dx_int da_nil)) (dg_name (i := 7) sc_law.nd rfl (by first | exact Or.inl rfl | exact Or.inr rfl)) (dss_cons (ds_set (i := 8) sc_law.nd rfl (.inl rfl) (dx_fn F_law_variant (hr.mono (by decide)) g_law_variant (takes_of rfl rfl rfl rfl) (da_cons (dx_var 2) (da_cons (dx_frz (dx_fn F_law_chosen (hr.mono (by decide)) g_law_chosen (takes_of rfl rfl rfl rfl) (da_cons (dx_var 2) (da_cons (dx_frz (dx_lst (da_cons (dx_frz (dx_var 3)) (da_cons (dx_frz (dx_var 4)) (da_cons (dx_frz (dx_var 5)) da_nil))))) da_nil)))) (da_cons dx_int da_nil)))))
    (dss_cons (ds_app (i := 6) rfl (by first | exact Or.inl rfl | exact Or.inr (Or.inl rfl) | exact Or.inr (Or.inr rfl)) (by decide) (by decide) (dx_frz (dx_var 8)))
    (dss_one (ds_if (DW.dt (dw_and (dt_val (dx_isi "tuple" rfl rfl n_isinstance bt_isinstance rfl n_tuple bt_tuple (dx_var 8))) (dw_and1 (dt_cmp (op_eqD hr.units) eqG_ok (dx_fn F_law_pick (hr.mono (by decide)) g_law_pick (takes_of rfl rfl rfl rfl) (da_cons (dx_var 2) (da_cons dx_int da_nil))) dx_int (nomark _))))) (dss_one (ds_app (i := 6) rfl (by first | exact Or.inl rfl | exact Or.inr (Or.inl rfl) | exact Or.inr (Or.inr rfl)) (by decide) (by decide) (dx_frz (dx_fn F_law_variant (hr.mono (by decide)) g_law_variant (takes_of rfl rfl rfl rfl) (da_cons (dx_var 2) (da_cons (dx_frz (dx_var 8)) (da_cons dx_int da_nil))))))) dss_nil)))))
    (dss_one (ds_for (passes_of rfl) rfl (di_seq rfl (dx_op2 op_addG (addG_ok rfl) (dx_var 6) (dx_lst (da_cons (dx_frz (dx_fn F_law_any_value (hr.mono (by decide)) g_law_any_value (takes_of rfl rfl rfl rfl) (da_cons (dx_var 2) (da_cons dx_int da_nil)))) da_nil)))) (dg_name (i := 9) sc_law.nd rfl (by first | exact Or.inl rfl | exact Or.inr rfl)) (dss_one (ds_if (dt_not (dt_val (dx_fn F_law_told_right (hr.mono (by decide)) g_law_told_right (takes_of rfl rfl rfl rfl) (da_cons (dx_frz (dx_var 9)) da_nil)))) (dss_one (ds_ret dx_bl)) dss_nil)))))))))))
    (dss_cons (ds_set (i := 4) sc_law.nd rfl (.inl rfl) (dx_lst (da_cons (dx_tup (da_cons dx_int (da_cons (dx_op2 op_mulA (mulG_ok rfl) (dx_tup (da_cons (dx_str [117]) da_nil)) dx_int) da_nil))) (da_cons (dx_tup (da_cons dx_int (da_cons (dx_op2 op_mulA (mulG_ok rfl) (dx_tup (da_cons (dx_str [117]) da_nil)) dx_int) da_nil))) (da_cons (dx_tup (da_cons dx_int (da_cons (dx_tup (da_cons (dx_str [117, 46, 100]) da_nil)) da_nil))) (da_cons (dx_tup (da_cons dx_int (da_cons (dx_tup (da_cons (dx_str [117, 46, 100, 46]) da_nil)) da_nil))) (da_cons (dx_tup (da_cons dx_int (da_cons (dx_tup da_nil) da_nil))) (da_cons (dx_tup (da_cons dx_bl (da_cons (dx_tup (da_cons (dx_str [117]) da_nil)) da_nil))) (da_cons (dx_tup (da_cons dx_int (da_cons (dx_tup da_nil) da_nil))) da_nil)))))))))
    (dss_cons (ds_set (i := 4) sc_law.nd rfl (.inl rfl) (dx_op2 op_addG (addG_ok rfl) (dx_var 4) (dx_lst (da_cons (dx_tup (da_cons dx_int (da_cons (dx_op2 op_mulA (mulG_ok rfl) (dx_tup (da_cons (dx_str [63]) da_nil)) dx_int) da_nil))) (da_cons (dx_tup (da_cons dx_int (da_cons (dx_op2 op_mulA (mulG_ok rfl) (dx_tup (da_cons (dx_str [63]) da_nil)) dx_int) da_nil))) (da_cons (dx_tup (da_cons dx_int (da_cons (dx_op2 op_addG (addG_ok rfl) (dx_tup (da_cons (dx_str [63]) da_nil)) (dx_op2 op_mulA (mulG_ok rfl) (dx_tup (da_cons (dx_str [46]) da_nil)) dx_int)) da_nil))) (da_cons (dx_tup (da_cons dx_int (da_cons (dx_op2 op_addG (addG_ok rfl) (dx_tup (da_cons (dx_str [63]) da_nil)) (dx_op2 op_mulA (mulG_ok rfl) (dx_tup (da_cons (dx_str [46]) da_nil)) dx_int)) da_nil))) da_nil)))))))
    (dss_cons (ds_set (i := 4) sc_law.nd rfl (.inl rfl) (dx_op2 op_addG (addG_ok rfl) (dx_var 4) (dx_lst (da_cons (dx_tup (da_cons dx_int (da_cons (dx_tup (da_cons (dx_str [63, 46, 46]) da_nil)) da_nil))) (da_cons (dx_tup (da_cons dx_int (da_cons (dx_tup (da_cons (dx_str [63]) da_nil)) da_nil))) (da_cons (dx_tup (da_cons dx_int (da_cons (dx_tup (da_cons (dx_str [85]) da_nil)) da_nil))) (da_cons (dx_tup (da_cons dx_int (da_cons (dx_tup (da_cons (dx_str []) da_nil)) da_nil))) (da_cons (dx_tup (da_cons (dx_tup (da_cons (dx_tup (da_cons (dx_str [116, 111, 112]) (da_cons dx_int da_nil))) da_nil)) (da_cons (dx_tup (da_cons (dx_tup (da_cons (dx_str [116, 111, 112]) (da_cons dx_int da_nil))) da_nil)) da_nil))) da_nil))))))))
    (dss_cons (ds_set (i := 10) sc_law.nd rfl (.inl rfl) (dx_tup (da_cons (dx_str [114, 105, 103, 104, 116]) (da_cons dx_int da_nil))))
    (dss_cons (ds_set (i := 4) sc_law.nd rfl (.inl rfl) (dx_op2 op_addG (addG_ok rfl) (dx_var 4) (dx_lst (da_cons (dx_tup (da_cons (dx_tup (da_cons (dx_frz (dx_var 10)) da_nil)) (da_cons (dx_tup (da_cons (dx_frz (dx_var 10)) da_nil)) da_nil))) (da_cons (dx_tup (da_cons (dx_tup (da_cons (dx_frz (dx_var 10)) (da_cons (dx_frz (dx_var 10)) da_nil))) (da_cons (dx_tup (da_cons (dx_frz (dx_var 10)) da_nil)) da_nil))) (da_cons (dx_tup (da_cons (dx_tup (da_cons (dx_tup (da_cons (dx_str [114, 105, 103, 104, 116]) (da_cons dx_int da_nil))) da_nil)) (da_cons (dx_tup (da_cons (dx_frz (dx_var 10)) da_nil)) da_nil))) (da_cons (dx_tup (da_cons (dx_op2 op_mulA (mulG_ok rfl) (dx_tup (da_cons (dx_frz (dx_var 10)) da_nil)) dx_int) (da_cons (dx_op2 op_mulA (mulG_ok rfl) (dx_tup (da_cons (dx_frz (dx_var 10)) da_nil)) dx_int) da_nil))) da_nil)))))))
    (dss_cons (ds_app (i := 4) rfl (by first | exact Or.inl rfl | exact Or.inr (Or.inl rfl) | exact Or.inr (Or.inr rfl)) (by decide) (by decide) (dx_tup (da_cons (dx_tup (da_cons (dx_tup (da_cons (dx_str [99, 97, 117, 103, 104, 116]) (da_cons dx_int da_nil))) (da_cons (dx_tup (da_cons (dx_str [114, 105, 103, 104, 116]) (da_cons dx_int da_nil))) da_nil))) (da_cons (dx_tup (da_cons (dx_tup (da_cons (dx_str [99, 97, 117, 103, 104, 116]) (da_cons dx_int da_nil))) (da_cons (dx_tup (da_cons (dx_str [108, 101, 102, 116]) (da_cons dx_int da_nil))) da_nil))) da_nil))))
    (dss_one (ds_ret (dx_cmp (op_eqD hr.units) eqG_ok (dx_lc (own := [("value", 9)]) rfl sc_law.nd (di_seq rfl (dx_var 4)) (blkOk_by (N := ["script", "k", "source", "strip", "rows", "some", "values", "turn", "odd", "value", "end"]) (sc := defScope s_law) (by decide +kernel)) (his := by decide) (fun _ _ _ _ _ => (dg_name (i := 9) sc_law.nd rfl (by first | exact Or.inl rfl | exact Or.inr rfl))) (fun _ _ _ _ _ => (dts_one (dt_not (dt_val (dx_fn F_law_told_right (hr.mono (by decide)) g_law_told_right takesF (da_cons (dx_var 9) da_nil)))))) (fun _ _ _ _ _ => (dx_var 9))) (dx_lst da_nil) (nomark _)))))))))))))

end
end DL
namespace DL
open PySem PySem.Spec PyProof.Rows L2
theorem all_mk {l : PySem.W.OpenLaw} {w : World} {K : PySem.W.Frag} {h : Heap} {mg : Str → Option Value} {fa : Addr} (X : K.In h) (Gn : h.Ns mainGlobals mg) (hfa : mg "law" = some (.ref fa))
    {f_is_within : Addr} {od_is_within an_is_within : Option Addr} {sl_is_within : Array (Option Value)} {oc_is_within kV_is_within dc_is_within pm_is_within cd_is_within ct_is_within : Value}
    (a_is_within : PySem.W.nsIn K mainGlobals "is_within" = some (some (.ref f_is_within)))
    (l_is_within : K.lookup f_is_within = some ⟨oc_is_within, od_is_within, .func (PySem.W.fnOf "is_within" "is_within" (defArgs s_is_within) (defBody s_is_within) (defScope s_is_within) .none kV_is_within dc_is_within pm_is_within an_is_within cd_is_within ct_is_within), sl_is_within⟩)
    (q_is_within : PySem.W.codeIn K cd_is_within "is_within" = true) (k_is_within : PySem.W.keepIn K (.ref f_is_within) = true)
    {f_is_column : Addr} {od_is_column an_is_column : Option Addr} {sl_is_column : Array (Option Value)} {oc_is_column kV_is_column dc_is_column pm_is_column cd_is_column ct_is_column : Value}
    (a_is_column : PySem.W.nsIn K mainGlobals "is_column" = some (some (.ref f_is_column)))
    (l_is_column : K.lookup f_is_column = some ⟨oc_is_column, od_is_column, .func (PySem.W.fnOf "is_column" "is_column" (defArgs s_is_column) (defBody s_is_column) (defScope s_is_column) .none kV_is_column dc_is_column pm_is_column an_is_column cd_is_column ct_is_column), sl_is_column⟩)
    (q_is_column : PySem.W.codeIn K cd_is_column "is_column" = true) (k_is_column : PySem.W.keepIn K (.ref f_is_column) = true)
    {f_are_columns : Addr} {od_are_columns an_are_columns : Option Addr} {sl_are_columns : Array (Option Value)} {oc_are_columns kV_are_columns dc_are_columns pm_are_columns cd_are_columns ct_are_columns : Value}
    (a_are_columns : PySem.W.nsIn K mainGlobals "are_columns" = some (some (.ref f_are_columns)))
    (l_are_columns : K.lookup f_are_columns = some ⟨oc_are_columns, od_are_columns, .func (PySem.W.fnOf "are_columns" "are_columns" (defArgs s_are_columns) (defBody s_are_columns) (defScope s_are_columns) .none kV_are_columns dc_are_columns pm_are_columns an_are_columns cd_are_columns ct_are_columns), sl_are_columns⟩)
    (q_are_columns : PySem.W.codeIn K cd_are_columns "are_columns" = true) (k_are_columns : PySem.W.keepIn K (.ref f_are_columns) = true)
    {f_is_pair : Addr} {od_is_pair an_is_pair : Option Addr} {sl_is_pair : Array (Option Value)} {oc_is_pair kV_is_pair dc_is_pair pm_is_pair cd_is_pair ct_is_pair : Value}
    (a_is_pair : PySem.W.nsIn K mainGlobals "is_pair" = some (some (.ref f_is_pair)))
    (l_is_pair : K.lookup f_is_pair = some ⟨oc_is_pair, od_is_pair, .func (PySem.W.fnOf "is_pair" "is_pair" (defArgs s_is_pair) (defBody s_is_pair) (defScope s_is_pair) .none kV_is_pair dc_is_pair pm_is_pair an_is_pair cd_is_pair ct_is_pair), sl_is_pair⟩)
    (q_is_pair : PySem.W.codeIn K cd_is_pair "is_pair" = true) (k_is_pair : PySem.W.keepIn K (.ref f_is_pair) = true)
    {f_is_right_strip : Addr} {od_is_right_strip an_is_right_strip : Option Addr} {sl_is_right_strip : Array (Option Value)} {oc_is_right_strip kV_is_right_strip dc_is_right_strip pm_is_right_strip cd_is_right_strip ct_is_right_strip : Value}
    (a_is_right_strip : PySem.W.nsIn K mainGlobals "is_right_strip" = some (some (.ref f_is_right_strip)))
    (l_is_right_strip : K.lookup f_is_right_strip = some ⟨oc_is_right_strip, od_is_right_strip, .func (PySem.W.fnOf "is_right_strip" "is_right_strip" (defArgs s_is_right_strip) (defBody s_is_right_strip) (defScope s_is_right_strip) .none kV_is_right_strip dc_is_right_strip pm_is_right_strip an_is_right_strip cd_is_right_strip ct_is_right_strip), sl_is_right_strip⟩)
    (q_is_right_strip : PySem.W.codeIn K cd_is_right_strip "is_right_strip" = true) (k_is_right_strip : PySem.W.keepIn K (.ref f_is_right_strip) = true)
    {f_is_right_pattern : Addr} {od_is_right_pattern an_is_right_pattern : Option Addr} {sl_is_right_pattern : Array (Option Value)} {oc_is_right_pattern kV_is_right_pattern dc_is_right_pattern pm_is_right_pattern cd_is_right_pattern ct_is_right_pattern : Value}
    (a_is_right_pattern : PySem.W.nsIn K mainGlobals "is_right_pattern" = some (some (.ref f_is_right_pattern)))
    (l_is_right_pattern : K.lookup f_is_right_pattern = some ⟨oc_is_right_pattern, od_is_right_pattern, .func (PySem.W.fnOf "is_right_pattern" "is_right_pattern" (defArgs s_is_right_pattern) (defBody s_is_right_pattern) (defScope s_is_right_pattern) .none kV_is_right_pattern dc_is_right_pattern pm_is_right_pattern an_is_right_pattern cd_is_right_pattern ct_is_right_pattern), sl_is_right_pattern⟩)
    (q_is_right_pattern : PySem.W.codeIn K cd_is_right_pattern "is_right_pattern" = true) (k_is_right_pattern : PySem.W.keepIn K (.ref f_is_right_pattern) = true)
    {f_is_strip : Addr} {od_is_strip an_is_strip : Option Addr} {sl_is_strip : Array (Option Value)} {oc_is_strip kV_is_strip dc_is_strip pm_is_strip cd_is_strip ct_is_strip : Value}
    (a_is_strip : PySem.W.nsIn K mainGlobals "is_strip" = some (some (.ref f_is_strip)))
    (l_is_strip : K.lookup f_is_strip = some ⟨oc_is_strip, od_is_strip, .func (PySem.W.fnOf "is_strip" "is_strip" (defArgs s_is_strip) (defBody s_is_strip) (defScope s_is_strip) .none kV_is_strip dc_is_strip pm_is_strip an_is_strip cd_is_strip ct_is_strip), sl_is_strip⟩)
    (q_is_strip : PySem.W.codeIn K cd_is_strip "is_strip" = true) (k_is_strip : PySem.W.keepIn K (.ref f_is_strip) = true)
    {f_is_pattern : Addr} {od_is_pattern an_is_pattern : Option Addr} {sl_is_pattern : Array (Option Value)} {oc_is_pattern kV_is_pattern dc_is_pattern pm_is_pattern cd_is_pattern ct_is_pattern : Value}
    (a_is_pattern : PySem.W.nsIn K mainGlobals "is_pattern" = some (some (.ref f_is_pattern)))
    (l_is_pattern : K.lookup f_is_pattern = some ⟨oc_is_pattern, od_is_pattern, .func (PySem.W.fnOf "is_pattern" "is_pattern" (defArgs s_is_pattern) (defBody s_is_pattern) (defScope s_is_pattern) .none kV_is_pattern dc_is_pattern pm_is_pattern an_is_pattern cd_is_pattern ct_is_pattern), sl_is_pattern⟩)
    (q_is_pattern : PySem.W.codeIn K cd_is_pattern "is_pattern" = true) (k_is_pattern : PySem.W.keepIn K (.ref f_is_pattern) = true)
    {f_is_right_end : Addr} {od_is_right_end an_is_right_end : Option Addr} {sl_is_right_end : Array (Option Value)} {oc_is_right_end kV_is_right_end dc_is_right_end pm_is_right_end cd_is_right_end ct_is_right_end : Value}
    (a_is_right_end : PySem.W.nsIn K mainGlobals "is_right_end" = some (some (.ref f_is_right_end)))
    (l_is_right_end : K.lookup f_is_right_end = some ⟨oc_is_right_end, od_is_right_end, .func (PySem.W.fnOf "is_right_end" "is_right_end" (defArgs s_is_right_end) (defBody s_is_right_end) (defScope s_is_right_end) .none kV_is_right_end dc_is_right_end pm_is_right_end an_is_right_end cd_is_right_end ct_is_right_end), sl_is_right_end⟩)
    (q_is_right_end : PySem.W.codeIn K cd_is_right_end "is_right_end" = true) (k_is_right_end : PySem.W.keepIn K (.ref f_is_right_end) = true)
    {f_is_right_table : Addr} {od_is_right_table an_is_right_table : Option Addr} {sl_is_right_table : Array (Option Value)} {oc_is_right_table kV_is_right_table dc_is_right_table pm_is_right_table cd_is_right_table ct_is_right_table : Value}
    (a_is_right_table : PySem.W.nsIn K mainGlobals "is_right_table" = some (some (.ref f_is_right_table)))
    (l_is_right_table : K.lookup f_is_right_table = some ⟨oc_is_right_table, od_is_right_table, .func (PySem.W.fnOf "is_right_table" "is_right_table" (defArgs s_is_right_table) (defBody s_is_right_table) (defScope s_is_right_table) .none kV_is_right_table dc_is_right_table pm_is_right_table an_is_right_table cd_is_right_table ct_is_right_table), sl_is_right_table⟩)
    (q_is_right_table : PySem.W.codeIn K cd_is_right_table "is_right_table" = true) (k_is_right_table : PySem.W.keepIn K (.ref f_is_right_table) = true)
    {f_is_table : Addr} {od_is_table an_is_table : Option Addr} {sl_is_table : Array (Option Value)} {oc_is_table kV_is_table dc_is_table pm_is_table cd_is_table ct_is_table : Value}
    (a_is_table : PySem.W.nsIn K mainGlobals "is_table" = some (some (.ref f_is_table)))
    (l_is_table : K.lookup f_is_table = some ⟨oc_is_table, od_is_table, .func (PySem.W.fnOf "is_table" "is_table" (defArgs s_is_table) (defBody s_is_table) (defScope s_is_table) .none kV_is_table dc_is_table pm_is_table an_is_table cd_is_table ct_is_table), sl_is_table⟩)
    (q_is_table : PySem.W.codeIn K cd_is_table "is_table" = true) (k_is_table : PySem.W.keepIn K (.ref f_is_table) = true)
    {f_law_source : Addr} {od_law_source an_law_source : Option Addr} {sl_law_source : Array (Option Value)} {oc_law_source kV_law_source dc_law_source pm_law_source cd_law_source ct_law_source : Value}
    (a_law_source : PySem.W.nsIn K mainGlobals "_law_source" = some (some (.ref f_law_source)))
    (l_law_source : K.lookup f_law_source = some ⟨oc_law_source, od_law_source, .func (PySem.W.fnOf "_law_source" "_law_source" (defArgs s_law_source) (defBody s_law_source) (defScope s_law_source) .none kV_law_source dc_law_source pm_law_source an_law_source cd_law_source ct_law_source), sl_law_source⟩)
    (q_law_source : PySem.W.codeIn K cd_law_source "_law_source" = true) (k_law_source : PySem.W.keepIn K (.ref f_law_source) = true)
    {f_law_pick : Addr} {od_law_pick an_law_pick : Option Addr} {sl_law_pick : Array (Option Value)} {oc_law_pick kV_law_pick dc_law_pick pm_law_pick cd_law_pick ct_law_pick : Value}
    (a_law_pick : PySem.W.nsIn K mainGlobals "_law_pick" = some (some (.ref f_law_pick)))
    (l_law_pick : K.lookup f_law_pick = some ⟨oc_law_pick, od_law_pick, .func (PySem.W.fnOf "_law_pick" "_law_pick" (defArgs s_law_pick) (defBody s_law_pick) (defScope s_law_pick) .none kV_law_pick dc_law_pick pm_law_pick an_law_pick cd_law_pick ct_law_pick), sl_law_pick⟩)
    (q_law_pick : PySem.W.codeIn K cd_law_pick "_law_pick" = true) (k_law_pick : PySem.W.keepIn K (.ref f_law_pick) = true)
    {f_law_chosen : Addr} {od_law_chosen an_law_chosen : Option Addr} {sl_law_chosen : Array (Option Value)} {oc_law_chosen kV_law_chosen dc_law_chosen pm_law_chosen cd_law_chosen ct_law_chosen : Value}
    (a_law_chosen : PySem.W.nsIn K mainGlobals "_law_chosen" = some (some (.ref f_law_chosen)))
    (l_law_chosen : K.lookup f_law_chosen = some ⟨oc_law_chosen, od_law_chosen, .func (PySem.W.fnOf "_law_chosen" "_law_chosen" (defArgs s_law_chosen) (defBody s_law_chosen) (defScope s_law_chosen) .none kV_law_chosen dc_law_chosen pm_law_chosen an_law_chosen cd_law_chosen ct_law_chosen), sl_law_chosen⟩)
    (q_law_chosen : PySem.W.codeIn K cd_law_chosen "_law_chosen" = true) (k_law_chosen : PySem.W.keepIn K (.ref f_law_chosen) = true)
    {f_law_is_bool : Addr} {od_law_is_bool an_law_is_bool : Option Addr} {sl_law_is_bool : Array (Option Value)} {oc_law_is_bool kV_law_is_bool dc_law_is_bool pm_law_is_bool cd_law_is_bool ct_law_is_bool : Value}
    (a_law_is_bool : PySem.W.nsIn K mainGlobals "_law_is_bool" = some (some (.ref f_law_is_bool)))
    (l_law_is_bool : K.lookup f_law_is_bool = some ⟨oc_law_is_bool, od_law_is_bool, .func (PySem.W.fnOf "_law_is_bool" "_law_is_bool" (defArgs s_law_is_bool) (defBody s_law_is_bool) (defScope s_law_is_bool) .none kV_law_is_bool dc_law_is_bool pm_law_is_bool an_law_is_bool cd_law_is_bool ct_law_is_bool), sl_law_is_bool⟩)
    (q_law_is_bool : PySem.W.codeIn K cd_law_is_bool "_law_is_bool" = true) (k_law_is_bool : PySem.W.keepIn K (.ref f_law_is_bool) = true)
    {f_law_wide : Addr} {od_law_wide an_law_wide : Option Addr} {sl_law_wide : Array (Option Value)} {oc_law_wide kV_law_wide dc_law_wide pm_law_wide cd_law_wide ct_law_wide : Value}
    (a_law_wide : PySem.W.nsIn K mainGlobals "_law_wide" = some (some (.ref f_law_wide)))
    (l_law_wide : K.lookup f_law_wide = some ⟨oc_law_wide, od_law_wide, .func (PySem.W.fnOf "_law_wide" "_law_wide" (defArgs s_law_wide) (defBody s_law_wide) (defScope s_law_wide) .none kV_law_wide dc_law_wide pm_law_wide an_law_wide cd_law_wide ct_law_wide), sl_law_wide⟩)
    (q_law_wide : PySem.W.codeIn K cd_law_wide "_law_wide" = true) (k_law_wide : PySem.W.keepIn K (.ref f_law_wide) = true)
    {f_law_any_value : Addr} {od_law_any_value an_law_any_value : Option Addr} {sl_law_any_value : Array (Option Value)} {oc_law_any_value kV_law_any_value dc_law_any_value pm_law_any_value cd_law_any_value ct_law_any_value : Value}
    (a_law_any_value : PySem.W.nsIn K mainGlobals "_law_any_value" = some (some (.ref f_law_any_value)))
    (l_law_any_value : K.lookup f_law_any_value = some ⟨oc_law_any_value, od_law_any_value, .func (PySem.W.fnOf "_law_any_value" "_law_any_value" (defArgs s_law_any_value) (defBody s_law_any_value) (defScope s_law_any_value) .none kV_law_any_value dc_law_any_value pm_law_any_value an_law_any_value cd_law_any_value ct_law_any_value), sl_law_any_value⟩)
    (q_law_any_value : PySem.W.codeIn K cd_law_any_value "_law_any_value" = true) (k_law_any_value : PySem.W.keepIn K (.ref f_law_any_value) = true)
    {f_law_variant : Addr} {od_law_variant an_law_variant : Option Addr} {sl_law_variant : Array (Option Value)} {oc_law_variant kV_law_variant dc_law_variant pm_law_variant cd_law_variant ct_law_variant : Value}
    (a_law_variant : PySem.W.nsIn K mainGlobals "_law_variant" = some (some (.ref f_law_variant)))
    (l_law_variant : K.lookup f_law_variant = some ⟨oc_law_variant, od_law_variant, .func (PySem.W.fnOf "_law_variant" "_law_variant" (defArgs s_law_variant) (defBody s_law_variant) (defScope s_law_variant) .none kV_law_variant dc_law_variant pm_law_variant an_law_variant cd_law_variant ct_law_variant), sl_law_variant⟩)
    (q_law_variant : PySem.W.codeIn K cd_law_variant "_law_variant" = true) (k_law_variant : PySem.W.keepIn K (.ref f_law_variant) = true)
    {f_law_whole : Addr} {od_law_whole an_law_whole : Option Addr} {sl_law_whole : Array (Option Value)} {oc_law_whole kV_law_whole dc_law_whole pm_law_whole cd_law_whole ct_law_whole : Value}
    (a_law_whole : PySem.W.nsIn K mainGlobals "_law_whole" = some (some (.ref f_law_whole)))
    (l_law_whole : K.lookup f_law_whole = some ⟨oc_law_whole, od_law_whole, .func (PySem.W.fnOf "_law_whole" "_law_whole" (defArgs s_law_whole) (defBody s_law_whole) (defScope s_law_whole) .none kV_law_whole dc_law_whole pm_law_whole an_law_whole cd_law_whole ct_law_whole), sl_law_whole⟩)
    (q_law_whole : PySem.W.codeIn K cd_law_whole "_law_whole" = true) (k_law_whole : PySem.W.keepIn K (.ref f_law_whole) = true)
    {f_law_onward : Addr} {od_law_onward an_law_onward : Option Addr} {sl_law_onward : Array (Option Value)} {oc_law_onward kV_law_onward dc_law_onward pm_law_onward cd_law_onward ct_law_onward : Value}
    (a_law_onward : PySem.W.nsIn K mainGlobals "_law_onward" = some (some (.ref f_law_onward)))
    (l_law_onward : K.lookup f_law_onward = some ⟨oc_law_onward, od_law_onward, .func (PySem.W.fnOf "_law_onward" "_law_onward" (defArgs s_law_onward) (defBody s_law_onward) (defScope s_law_onward) .none kV_law_onward dc_law_onward pm_law_onward an_law_onward cd_law_onward ct_law_onward), sl_law_onward⟩)
    (q_law_onward : PySem.W.codeIn K cd_law_onward "_law_onward" = true) (k_law_onward : PySem.W.keepIn K (.ref f_law_onward) = true)
    {f_law_walk : Addr} {od_law_walk an_law_walk : Option Addr} {sl_law_walk : Array (Option Value)} {oc_law_walk kV_law_walk dc_law_walk pm_law_walk cd_law_walk ct_law_walk : Value}
    (a_law_walk : PySem.W.nsIn K mainGlobals "_law_walk" = some (some (.ref f_law_walk)))
    (l_law_walk : K.lookup f_law_walk = some ⟨oc_law_walk, od_law_walk, .func (PySem.W.fnOf "_law_walk" "_law_walk" (defArgs s_law_walk) (defBody s_law_walk) (defScope s_law_walk) .none kV_law_walk dc_law_walk pm_law_walk an_law_walk cd_law_walk ct_law_walk), sl_law_walk⟩)
    (q_law_walk : PySem.W.codeIn K cd_law_walk "_law_walk" = true) (k_law_walk : PySem.W.keepIn K (.ref f_law_walk) = true)
    {f_law_plain : Addr} {od_law_plain an_law_plain : Option Addr} {sl_law_plain : Array (Option Value)} {oc_law_plain kV_law_plain dc_law_plain pm_law_plain cd_law_plain ct_law_plain : Value}
    (a_law_plain : PySem.W.nsIn K mainGlobals "_law_plain" = some (some (.ref f_law_plain)))
    (l_law_plain : K.lookup f_law_plain = some ⟨oc_law_plain, od_law_plain, .func (PySem.W.fnOf "_law_plain" "_law_plain" (defArgs s_law_plain) (defBody s_law_plain) (defScope s_law_plain) .none kV_law_plain dc_law_plain pm_law_plain an_law_plain cd_law_plain ct_law_plain), sl_law_plain⟩)
    (q_law_plain : PySem.W.codeIn K cd_law_plain "_law_plain" = true) (k_law_plain : PySem.W.keepIn K (.ref f_law_plain) = true)
    {f_law_table : Addr} {od_law_table an_law_table : Option Addr} {sl_law_table : Array (Option Value)} {oc_law_table kV_law_table dc_law_table pm_law_table cd_law_table ct_law_table : Value}
    (a_law_table : PySem.W.nsIn K mainGlobals "_law_table" = some (some (.ref f_law_table)))
    (l_law_table : K.lookup f_law_table = some ⟨oc_law_table, od_law_table, .func (PySem.W.fnOf "_law_table" "_law_table" (defArgs s_law_table) (defBody s_law_table) (defScope s_law_table) .none kV_law_table dc_law_table pm_law_table an_law_table cd_law_table ct_law_table), sl_law_table⟩)
    (q_law_table : PySem.W.codeIn K cd_law_table "_law_table" = true) (k_law_table : PySem.W.keepIn K (.ref f_law_table) = true)
    {f_law_signs : Addr} {od_law_signs an_law_signs : Option Addr} {sl_law_signs : Array (Option Value)} {oc_law_signs kV_law_signs dc_law_signs pm_law_signs cd_law_signs ct_law_signs : Value}
    (a_law_signs : PySem.W.nsIn K mainGlobals "_law_signs" = some (some (.ref f_law_signs)))
    (l_law_signs : K.lookup f_law_signs = some ⟨oc_law_signs, od_law_signs, .func (PySem.W.fnOf "_law_signs" "_law_signs" (defArgs s_law_signs) (defBody s_law_signs) (defScope s_law_signs) .none kV_law_signs dc_law_signs pm_law_signs an_law_signs cd_law_signs ct_law_signs), sl_law_signs⟩)
    (q_law_signs : PySem.W.codeIn K cd_law_signs "_law_signs" = true) (k_law_signs : PySem.W.keepIn K (.ref f_law_signs) = true)
    {f_law_column : Addr} {od_law_column an_law_column : Option Addr} {sl_law_column : Array (Option Value)} {oc_law_column kV_law_column dc_law_column pm_law_column cd_law_column ct_law_column : Value}
    (a_law_column : PySem.W.nsIn K mainGlobals "_law_column" = some (some (.ref f_law_column)))
    (l_law_column : K.lookup f_law_column = some ⟨oc_law_column, od_law_column, .func (PySem.W.fnOf "_law_column" "_law_column" (defArgs s_law_column) (defBody s_law_column) (defScope s_law_column) .none kV_law_column dc_law_column pm_law_column an_law_column cd_law_column ct_law_column), sl_law_column⟩)
    (q_law_column : PySem.W.codeIn K cd_law_column "_law_column" = true) (k_law_column : PySem.W.keepIn K (.ref f_law_column) = true)
    {f_law_strip : Addr} {od_law_strip an_law_strip : Option Addr} {sl_law_strip : Array (Option Value)} {oc_law_strip kV_law_strip dc_law_strip pm_law_strip cd_law_strip ct_law_strip : Value}
    (a_law_strip : PySem.W.nsIn K mainGlobals "_law_strip" = some (some (.ref f_law_strip)))
    (l_law_strip : K.lookup f_law_strip = some ⟨oc_law_strip, od_law_strip, .func (PySem.W.fnOf "_law_strip" "_law_strip" (defArgs s_law_strip) (defBody s_law_strip) (defScope s_law_strip) .none kV_law_strip dc_law_strip pm_law_strip an_law_strip cd_law_strip ct_law_strip), sl_law_strip⟩)
    (q_law_strip : PySem.W.codeIn K cd_law_strip "_law_strip" = true) (k_law_strip : PySem.W.keepIn K (.ref f_law_strip) = true)
    {f_law_good_strip : Addr} {od_law_good_strip an_law_good_strip : Option Addr} {sl_law_good_strip : Array (Option Value)} {oc_law_good_strip kV_law_good_strip dc_law_good_strip pm_law_good_strip cd_law_good_strip ct_law_good_strip : Value}
    (a_law_good_strip : PySem.W.nsIn K mainGlobals "_law_good_strip" = some (some (.ref f_law_good_strip)))
    (l_law_good_strip : K.lookup f_law_good_strip = some ⟨oc_law_good_strip, od_law_good_strip, .func (PySem.W.fnOf "_law_good_strip" "_law_good_strip" (defArgs s_law_good_strip) (defBody s_law_good_strip) (defScope s_law_good_strip) .none kV_law_good_strip dc_law_good_strip pm_law_good_strip an_law_good_strip cd_law_good_strip ct_law_good_strip), sl_law_good_strip⟩)
    (q_law_good_strip : PySem.W.codeIn K cd_law_good_strip "_law_good_strip" = true) (k_law_good_strip : PySem.W.keepIn K (.ref f_law_good_strip) = true)
    {f_law_good_pattern : Addr} {od_law_good_pattern an_law_good_pattern : Option Addr} {sl_law_good_pattern : Array (Option Value)} {oc_law_good_pattern kV_law_good_pattern dc_law_good_pattern pm_law_good_pattern cd_law_good_pattern ct_law_good_pattern : Value}
    (a_law_good_pattern : PySem.W.nsIn K mainGlobals "_law_good_pattern" = some (some (.ref f_law_good_pattern)))
    (l_law_good_pattern : K.lookup f_law_good_pattern = some ⟨oc_law_good_pattern, od_law_good_pattern, .func (PySem.W.fnOf "_law_good_pattern" "_law_good_pattern" (defArgs s_law_good_pattern) (defBody s_law_good_pattern) (defScope s_law_good_pattern) .none kV_law_good_pattern dc_law_good_pattern pm_law_good_pattern an_law_good_pattern cd_law_good_pattern ct_law_good_pattern), sl_law_good_pattern⟩)
    (q_law_good_pattern : PySem.W.codeIn K cd_law_good_pattern "_law_good_pattern" = true) (k_law_good_pattern : PySem.W.keepIn K (.ref f_law_good_pattern) = true)
    {f_law_good_end : Addr} {od_law_good_end an_law_good_end : Option Addr} {sl_law_good_end : Array (Option Value)} {oc_law_good_end kV_law_good_end dc_law_good_end pm_law_good_end cd_law_good_end ct_law_good_end : Value}
    (a_law_good_end : PySem.W.nsIn K mainGlobals "_law_good_end" = some (some (.ref f_law_good_end)))
    (l_law_good_end : K.lookup f_law_good_end = some ⟨oc_law_good_end, od_law_good_end, .func (PySem.W.fnOf "_law_good_end" "_law_good_end" (defArgs s_law_good_end) (defBody s_law_good_end) (defScope s_law_good_end) .none kV_law_good_end dc_law_good_end pm_law_good_end an_law_good_end cd_law_good_end ct_law_good_end), sl_law_good_end⟩)
    (q_law_good_end : PySem.W.codeIn K cd_law_good_end "_law_good_end" = true) (k_law_good_end : PySem.W.keepIn K (.ref f_law_good_end) = true)
    {f_law_good_table : Addr} {od_law_good_table an_law_good_table : Option Addr} {sl_law_good_table : Array (Option Value)} {oc_law_good_table kV_law_good_table dc_law_good_table pm_law_good_table cd_law_good_table ct_law_good_table : Value}
    (a_law_good_table : PySem.W.nsIn K mainGlobals "_law_good_table" = some (some (.ref f_law_good_table)))
    (l_law_good_table : K.lookup f_law_good_table = some ⟨oc_law_good_table, od_law_good_table, .func (PySem.W.fnOf "_law_good_table" "_law_good_table" (defArgs s_law_good_table) (defBody s_law_good_table) (defScope s_law_good_table) .none kV_law_good_table dc_law_good_table pm_law_good_table an_law_good_table cd_law_good_table ct_law_good_table), sl_law_good_table⟩)
    (q_law_good_table : PySem.W.codeIn K cd_law_good_table "_law_good_table" = true) (k_law_good_table : PySem.W.keepIn K (.ref f_law_good_table) = true)
    {f_law_told_right : Addr} {od_law_told_right an_law_told_right : Option Addr} {sl_law_told_right : Array (Option Value)} {oc_law_told_right kV_law_told_right dc_law_told_right pm_law_told_right cd_law_told_right ct_law_told_right : Value}
    (a_law_told_right : PySem.W.nsIn K mainGlobals "_law_told_right" = some (some (.ref f_law_told_right)))
    (l_law_told_right : K.lookup f_law_told_right = some ⟨oc_law_told_right, od_law_told_right, .func (PySem.W.fnOf "_law_told_right" "_law_told_right" (defArgs s_law_told_right) (defBody s_law_told_right) (defScope s_law_told_right) .none kV_law_told_right dc_law_told_right pm_law_told_right an_law_told_right cd_law_told_right ct_law_told_right), sl_law_told_right⟩)
    (q_law_told_right : PySem.W.codeIn K cd_law_told_right "_law_told_right" = true) (k_law_told_right : PySem.W.keepIn K (.ref f_law_told_right) = true)
    {f_law : Addr} {od_law an_law : Option Addr} {sl_law : Array (Option Value)} {oc_law kV_law dc_law pm_law cd_law ct_law : Value}
    (a_law : PySem.W.nsIn K mainGlobals "law" = some (some (.ref f_law)))
    (l_law : K.lookup f_law = some ⟨oc_law, od_law, .func (PySem.W.fnOf "law" "law" (defArgs s_law) (defBody s_law) (defScope s_law) .none kV_law dc_law pm_law an_law cd_law ct_law), sl_law⟩)
    (q_law : PySem.W.codeIn K cd_law "law" = true) (k_law : PySem.W.keepIn K (.ref f_law) = true)
    (z_all : PySem.W.nsIn K mainGlobals "all" = some none)
    (z_bool : PySem.W.nsIn K mainGlobals "bool" = some none)
    (z_int : PySem.W.nsIn K mainGlobals "int" = some none)
    (z_isinstance : PySem.W.nsIn K mainGlobals "isinstance" = some none)
    (z_len : PySem.W.nsIn K mainGlobals "len" = some none)
    (z_list : PySem.W.nsIn K mainGlobals "list" = some none)
    (z_max : PySem.W.nsIn K mainGlobals "max" = some none)
    (z_min : PySem.W.nsIn K mainGlobals "min" = some none)
    (z_range : PySem.W.nsIn K mainGlobals "range" = some none)
    (z_str : PySem.W.nsIn K mainGlobals "str" = some none)
    (z_tuple : PySem.W.nsIn K mainGlobals "tuple" = some none)
    {r_LONE : Addr} {od_LONE : Option Addr} {n_LONE : Nat} {sl_LONE : Array (Option Value)} {t_LONE0 t_LONE1 t_LONE2 t_LONE3 : Tok} (w_LONE : PySem.W.nsIn K mainGlobals "LONE" = some (some (.ref r_LONE)))
    (u_LONE : K.lookup r_LONE = some ⟨.type "tuple", od_LONE, .seq #[.str "bottom" t_LONE0, .str "caught" t_LONE1, .str "stopped" t_LONE2, .str "top" t_LONE3] n_LONE, sl_LONE⟩)
    {t_MOST_LONG : Tok} (w_MOST_LONG : PySem.W.nsIn K mainGlobals "MOST_LONG" = some (some (.int 40 t_MOST_LONG)))
    {t_MOST_PATTERN : Tok} (w_MOST_PATTERN : PySem.W.nsIn K mainGlobals "MOST_PATTERN" = some (some (.int 12 t_MOST_PATTERN)))
    {t_MOST_WIDE : Tok} (w_MOST_WIDE : PySem.W.nsIn K mainGlobals "MOST_WIDE" = some (some (.int 3 t_MOST_WIDE)))
    {t_SIGNS : Tok} (w_SIGNS : PySem.W.nsIn K mainGlobals "SIGNS" = some (some (.str "#.dpquvw" t_SIGNS)))
    (hm : ∀ ns : List Int, ns.length ≤ 63 → m_law none [.seq ns] = .ret (.imm (.bl true)) none) :
    ∃ fd : FuncData, (∀ (s : Shared) (v : Value), BindsTo s fd ⟨[v], []⟩ [("script", v)]) ∧ ∀ base : Heap, K.In base → base.Ns mainGlobals mg → FnOk l.prog w K mg base (L2.CX l.prog w) 16 fa fd ["script"] (spLaw K) := by
  have e := hfa.symm.trans (PySem.W.mg_of X Gn a_law)
  cases e
  let G : Gm := ⟨l.prog, w, K, fun _ => none, fun _ => none, []⟩
  have n_all : mg "all" = none := PySem.W.mg_none_of X Gn z_all
  have n_bool : mg "bool" = none := PySem.W.mg_none_of X Gn z_bool
  have n_int : mg "int" = none := PySem.W.mg_none_of X Gn z_int
  have n_isinstance : mg "isinstance" = none := PySem.W.mg_none_of X Gn z_isinstance
  have n_len : mg "len" = none := PySem.W.mg_none_of X Gn z_len
  have n_list : mg "list" = none := PySem.W.mg_none_of X Gn z_list
  have n_max : mg "max" = none := PySem.W.mg_none_of X Gn z_max
  have n_min : mg "min" = none := PySem.W.mg_none_of X Gn z_min
  have n_range : mg "range" = none := PySem.W.mg_none_of X Gn z_range
  have n_str : mg "str" = none := PySem.W.mg_none_of X Gn z_str
  have n_tuple : mg "tuple" = none := PySem.W.mg_none_of X Gn z_tuple
  have c_LONE := PySem.W.mg_of X Gn w_LONE
  have i_LONE : ∀ H : Hp, Imm G H (.ref r_LONE) d_LONE := fun H => .tup (xs := [.str (cstr [98, 111, 116, 116, 111, 109]), .str (cstr [99, 97, 117, 103, 104, 116]), .str (cstr [115, 116, 111, 112, 112, 101, 100]), .str (cstr [116, 111, 112])]) (.inr ⟨_, _, _, u_LONE, rfl, rfl, by show 4 ≤ sizeLine; decide, .cons (rel_s (by decide +kernel)) (.cons (rel_s (by decide +kernel)) (.cons (rel_s (by decide +kernel)) (.cons (rel_s (by decide +kernel)) (.nil))))⟩) (.cons (.str _ (by decide) (by decide)) (.cons (.str _ (by decide) (by decide)) (.cons (.str _ (by decide) (by decide)) (.cons (.str _ (by decide) (by decide)) .nil)))) (by show 4 ≤ sizeLine; decide)
  have c_MOST_LONG := PySem.W.mg_of X Gn w_MOST_LONG
  have c_MOST_PATTERN := PySem.W.mg_of X Gn w_MOST_PATTERN
  have c_MOST_WIDE := PySem.W.mg_of X Gn w_MOST_WIDE
  have c_SIGNS := PySem.W.mg_of X Gn w_SIGNS
  have F_is_within := fun_mk (st := s_is_within) l_is_within q_is_within k_is_within
  have g_is_within := PySem.W.mg_of X Gn a_is_within
  have F_is_column := fun_mk (st := s_is_column) l_is_column q_is_column k_is_column
  have g_is_column := PySem.W.mg_of X Gn a_is_column
  have F_are_columns := fun_mk (st := s_are_columns) l_are_columns q_are_columns k_are_columns
  have g_are_columns := PySem.W.mg_of X Gn a_are_columns
  have F_is_pair := fun_mk (st := s_is_pair) l_is_pair q_is_pair k_is_pair
  have g_is_pair := PySem.W.mg_of X Gn a_is_pair
  have F_is_right_strip := fun_mk (st := s_is_right_strip) l_is_right_strip q_is_right_strip k_is_right_strip
  have g_is_right_strip := PySem.W.mg_of X Gn a_is_right_strip
  have F_is_right_pattern := fun_mk (st := s_is_right_pattern) l_is_right_pattern q_is_right_pattern k_is_right_pattern
  have g_is_right_pattern := PySem.W.mg_of X Gn a_is_right_pattern
  have F_is_strip := fun_mk (st := s_is_strip) l_is_strip q_is_strip k_is_strip
  have g_is_strip := PySem.W.mg_of X Gn a_is_strip
  have F_is_pattern := fun_mk (st := s_is_pattern) l_is_pattern q_is_pattern k_is_pattern
  have g_is_pattern := PySem.W.mg_of X Gn a_is_pattern
  have F_is_right_end := fun_mk (st := s_is_right_end) l_is_right_end q_is_right_end k_is_right_end
  have g_is_right_end := PySem.W.mg_of X Gn a_is_right_end
  have F_is_right_table := fun_mk (st := s_is_right_table) l_is_right_table q_is_right_table k_is_right_table
  have g_is_right_table := PySem.W.mg_of X Gn a_is_right_table
  have F_is_table := fun_mk (st := s_is_table) l_is_table q_is_table k_is_table
  have g_is_table := PySem.W.mg_of X Gn a_is_table
  have F_law_source := fun_mk (st := s_law_source) l_law_source q_law_source k_law_source
  have g_law_source := PySem.W.mg_of X Gn a_law_source
  have F_law_pick := fun_mk (st := s_law_pick) l_law_pick q_law_pick k_law_pick
  have g_law_pick := PySem.W.mg_of X Gn a_law_pick
  have F_law_chosen := fun_mk (st := s_law_chosen) l_law_chosen q_law_chosen k_law_chosen
  have g_law_chosen := PySem.W.mg_of X Gn a_law_chosen
  have F_law_is_bool := fun_mk (st := s_law_is_bool) l_law_is_bool q_law_is_bool k_law_is_bool
  have g_law_is_bool := PySem.W.mg_of X Gn a_law_is_bool
  have F_law_wide := fun_mk (st := s_law_wide) l_law_wide q_law_wide k_law_wide
  have g_law_wide := PySem.W.mg_of X Gn a_law_wide
  have F_law_any_value := fun_mk (st := s_law_any_value) l_law_any_value q_law_any_value k_law_any_value
  have g_law_any_value := PySem.W.mg_of X Gn a_law_any_value
  have F_law_variant := fun_mk (st := s_law_variant) l_law_variant q_law_variant k_law_variant
  have g_law_variant := PySem.W.mg_of X Gn a_law_variant
  have F_law_whole := fun_mk (st := s_law_whole) l_law_whole q_law_whole k_law_whole
  have g_law_whole := PySem.W.mg_of X Gn a_law_whole
  have F_law_onward := fun_mk (st := s_law_onward) l_law_onward q_law_onward k_law_onward
  have g_law_onward := PySem.W.mg_of X Gn a_law_onward
  have F_law_walk := fun_mk (st := s_law_walk) l_law_walk q_law_walk k_law_walk
  have g_law_walk := PySem.W.mg_of X Gn a_law_walk
  have F_law_plain := fun_mk (st := s_law_plain) l_law_plain q_law_plain k_law_plain
  have g_law_plain := PySem.W.mg_of X Gn a_law_plain
  have F_law_table := fun_mk (st := s_law_table) l_law_table q_law_table k_law_table
  have g_law_table := PySem.W.mg_of X Gn a_law_table
  have F_law_signs := fun_mk (st := s_law_signs) l_law_signs q_law_signs k_law_signs
  have g_law_signs := PySem.W.mg_of X Gn a_law_signs
  have F_law_column := fun_mk (st := s_law_column) l_law_column q_law_column k_law_column
  have g_law_column := PySem.W.mg_of X Gn a_law_column
  have F_law_strip := fun_mk (st := s_law_strip) l_law_strip q_law_strip k_law_strip
  have g_law_strip := PySem.W.mg_of X Gn a_law_strip
  have F_law_good_strip := fun_mk (st := s_law_good_strip) l_law_good_strip q_law_good_strip k_law_good_strip
  have g_law_good_strip := PySem.W.mg_of X Gn a_law_good_strip
  have F_law_good_pattern := fun_mk (st := s_law_good_pattern) l_law_good_pattern q_law_good_pattern k_law_good_pattern
  have g_law_good_pattern := PySem.W.mg_of X Gn a_law_good_pattern
  have F_law_good_end := fun_mk (st := s_law_good_end) l_law_good_end q_law_good_end k_law_good_end
  have g_law_good_end := PySem.W.mg_of X Gn a_law_good_end
  have F_law_good_table := fun_mk (st := s_law_good_table) l_law_good_table q_law_good_table k_law_good_table
  have g_law_good_table := PySem.W.mg_of X Gn a_law_good_table
  have F_law_told_right := fun_mk (st := s_law_told_right) l_law_told_right q_law_told_right k_law_told_right
  have g_law_told_right := PySem.W.mg_of X Gn a_law_told_right
  have F_law := fun_mk (st := s_law) l_law q_law k_law
  have g_law := PySem.W.mg_of X Gn a_law
  refine ⟨PySem.W.fnOf "law" "law" (defArgs s_law) (defBody s_law) (defScope s_law) .none kV_law dc_law pm_law an_law cd_law ct_law, fun s v => .of_eq rfl, fun base _ _ => ?_⟩
  have G_is_within := ok_is_within (G := G) (mg := mg) (base := base) F_is_within n_bool n_int n_isinstance
  have G_is_column := ok_is_column (G := G) (mg := mg) (base := base) F_is_column n_all n_isinstance n_len n_str
  have G_are_columns := ok_are_columns (G := G) (mg := mg) (base := base) F_are_columns n_all g_is_column G_is_column n_isinstance n_len n_tuple
  have G_is_pair := ok_is_pair (G := G) (mg := mg) (base := base) F_is_pair n_isinstance n_len n_tuple
  have G_is_right_strip := ok_is_right_strip (G := G) (mg := mg) (base := base) F_is_right_strip c_MOST_LONG c_MOST_WIDE c_SIGNS g_are_columns G_are_columns g_is_pair G_is_pair g_is_within G_is_within
  have G_is_right_pattern := ok_is_right_pattern (G := G) (mg := mg) (base := base) F_is_right_pattern c_MOST_PATTERN c_SIGNS g_are_columns G_are_columns g_is_pair G_is_pair g_is_within G_is_within
  have G_is_strip := ok_is_strip (G := G) (mg := mg) (base := base) F_is_strip g_is_right_strip G_is_right_strip
  have G_is_pattern := ok_is_pattern (G := G) (mg := mg) (base := base) F_is_pattern g_is_right_pattern G_is_right_pattern
  have G_is_right_end := ok_is_right_end (G := G) (mg := mg) (base := base) F_is_right_end c_LONE i_LONE g_is_pair G_is_pair g_is_within G_is_within n_isinstance n_str
  have G_is_right_table := ok_is_right_table (G := G) (mg := mg) (base := base) F_is_right_table n_all g_is_pair G_is_pair g_is_right_end G_is_right_end n_isinstance n_len n_tuple
  have G_is_table := ok_is_table (G := G) (mg := mg) (base := base) F_is_table g_is_right_table G_is_right_table
  have G_law_source := ok_law_source (G := G) (mg := mg) (base := base) F_law_source n_int n_len
  have G_law_pick := ok_law_pick (G := G) (mg := mg) (base := base) F_law_pick n_int
  have G_law_chosen := ok_law_chosen (G := G) (mg := mg) (base := base) F_law_chosen g_law_pick G_law_pick n_len
  have G_law_is_bool := ok_law_is_bool (G := G) (mg := mg) (base := base) F_law_is_bool n_bool n_isinstance
  have G_law_wide := ok_law_wide (G := G) (mg := mg) (base := base) F_law_wide n_isinstance n_len n_tuple
  have G_law_any_value := ok_law_any_value (G := G) (mg := mg) (base := base) F_law_any_value g_law_any_value g_law_chosen G_law_chosen g_law_pick G_law_pick n_range n_tuple 5
  have G_law_variant := ok_law_variant (G := G) (mg := mg) (base := base) F_law_variant g_law_variant g_law_any_value G_law_any_value g_law_chosen G_law_chosen g_law_pick G_law_pick n_isinstance n_len n_list n_tuple 6
  have G_law_whole := ok_law_whole (G := G) (mg := mg) (base := base) F_law_whole n_bool n_int n_isinstance
  have G_law_onward := ok_law_onward (G := G) (mg := mg) (base := base) F_law_onward 
  have G_law_walk := ok_law_walk (G := G) (mg := mg) (base := base) F_law_walk g_law_onward G_law_onward n_len n_range
  have G_law_plain := ok_law_plain (G := G) (mg := mg) (base := base) F_law_plain 
  have G_law_table := ok_law_table (G := G) (mg := mg) (base := base) F_law_table g_law_plain G_law_plain g_law_walk G_law_walk n_range n_tuple
  have G_law_signs := ok_law_signs (G := G) (mg := mg) (base := base) F_law_signs 
  have G_law_column := ok_law_column (G := G) (mg := mg) (base := base) F_law_column g_law_chosen G_law_chosen g_law_pick G_law_pick n_len n_range
  have G_law_strip := ok_law_strip (G := G) (mg := mg) (base := base) F_law_strip g_law_column G_law_column g_law_pick G_law_pick n_range n_tuple
  have G_law_good_strip := ok_law_good_strip (G := G) (mg := mg) (base := base) F_law_good_strip g_law_whole G_law_whole g_law_wide G_law_wide n_isinstance n_len n_str
  have G_law_good_pattern := ok_law_good_pattern (G := G) (mg := mg) (base := base) F_law_good_pattern g_law_good_strip G_law_good_strip g_law_signs G_law_signs n_len
  have G_law_good_end := ok_law_good_end (G := G) (mg := mg) (base := base) F_law_good_end g_law_whole G_law_whole g_law_wide G_law_wide n_isinstance n_str
  have G_law_good_table := ok_law_good_table (G := G) (mg := mg) (base := base) F_law_good_table g_law_good_end G_law_good_end g_law_wide G_law_wide n_len
  have G_law_told_right := ok_law_told_right (G := G) (mg := mg) (base := base) F_law_told_right g_law_good_pattern G_law_good_pattern g_law_good_strip G_law_good_strip g_law_good_table G_law_good_table g_law_is_bool G_law_is_bool g_law_signs G_law_signs g_is_pattern G_is_pattern g_is_strip G_is_strip g_is_table G_is_table
  refine (ok_law (G := G) (mg := mg) (base := base) F_law g_law_any_value G_law_any_value g_law_chosen G_law_chosen g_law_column G_law_column g_law_pick G_law_pick g_law_source G_law_source g_law_strip G_law_strip g_law_table G_law_table g_law_told_right G_law_told_right g_law_variant G_law_variant n_isinstance n_len n_list n_max n_min n_range n_tuple).imp fun vs H Q E h => ?_
  obtain ⟨a, ns, rfl, hS, hl, k⟩ := h
  refine ⟨none, none, [.ref a], [.seq ns], rfl, rfl, .none, .cons (.seq hS) .nil, ?_⟩
  rw [hm ns hl]
  intro v H2 _ _ r
  cases r with | imm r => cases r; exact k H2
theorem walk {l : PySem.W.OpenLaw} {q : Program} {loose : List Str} {XP : (Str → Option Value) → Heap → Prop} {YP : World → Heap → Prop} {d : DefRec} {K : Params → PySem.W.Frag} (hn : l.most = some 63) (hdf : d.params.defaults = [])
    (hY : ∀ (w : World) (h : Heap), YP w h → (K w.params).In h)
    (F : ∀ (w : World) (mg : Str → Option Value) (fa : Addr) (h : Heap), (K w.params).In h → h.Ns mainGlobals mg → mg d.name = some (.ref fa) →
      ∃ fd : FuncData, (∀ (s : Shared) (u : Value), BindsTo s fd ⟨[u], []⟩ [("script", u)]) ∧ ∀ base : Heap, (K w.params).In base → base.Ns mainGlobals mg → FnOk l.prog w (K w.params) mg base (L2.CX l.prog w) 16 fa fd ["script"] (spLaw (K w.params))) :
    PySem.W.WalkO q loose XP YP l.row.toRowW d [] (fun f vs => PySem.call f vs) :=
  L2.walk_of (n := 63) (k := 16) (x := "script") (CX := fun w => L2.CX l.prog w) (sp := fun w => spLaw (K w.params)) hn (by decide) hdf ⟨rfl, by decide, by decide⟩ hY F (fun _ _ a ns hl hO hS => ⟨a, ns, rfl, seqA_of hO hS, hl, fun _ => rfl⟩) fun _ _ _ _ _ z => noex_law z
end DL

open PySem PySem.W PyProof.Rows in
theorem PySem.Challenge.cw_mirrorstrips_k01_strips_and_patterns_rec_holds : PySem.Challenge.rw_mirrorstrips_k01_strips_and_patterns_rec.Holds := by
  w_on; o_law; k_head; (case hw => w_witness2)
  k_fill
  refine DL.walk (l := PySem.Challenge.rw_mirrorstrips_k01_strips_and_patterns_rec) rfl rfl (fun w h Y => PySem.W.kIn_of Y) ?F
  case F =>
    intro w mg fa h KX G hmg
    refine' DL.all_mk KX G hmg ?a_is_within ?l_is_within ?q_is_within ?k_is_within ?a_is_column ?l_is_column ?q_is_column ?k_is_column ?a_are_columns ?l_are_columns ?q_are_columns ?k_are_columns ?a_is_pair ?l_is_pair ?q_is_pair ?k_is_pair ?a_is_right_strip ?l_is_right_strip ?q_is_right_strip ?k_is_right_strip ?a_is_right_pattern ?l_is_right_pattern ?q_is_right_pattern ?k_is_right_pattern ?a_is_strip ?l_is_strip ?q_is_strip ?k_is_strip ?a_is_pattern ?l_is_pattern ?q_is_pattern ?k_is_pattern ?a_is_right_end ?l_is_right_end ?q_is_right_end ?k_is_right_end ?a_is_right_table ?l_is_right_table ?q_is_right_table ?k_is_right_table ?a_is_table ?l_is_table ?q_is_table ?k_is_table ?a_law_source ?l_law_source ?q_law_source ?k_law_source ?a_law_pick ?l_law_pick ?q_law_pick ?k_law_pick ?a_law_chosen ?l_law_chosen ?q_law_chosen ?k_law_chosen ?a_law_is_bool ?l_law_is_bool ?q_law_is_bool ?k_law_is_bool ?a_law_wide ?l_law_wide ?q_law_wide ?k_law_wide ?a_law_any_value ?l_law_any_value ?q_law_any_value ?k_law_any_value ?a_law_variant ?l_law_variant ?q_law_variant ?k_law_variant ?a_law_whole ?l_law_whole ?q_law_whole ?k_law_whole ?a_law_onward ?l_law_onward ?q_law_onward ?k_law_onward ?a_law_walk ?l_law_walk ?q_law_walk ?k_law_walk ?a_law_plain ?l_law_plain ?q_law_plain ?k_law_plain ?a_law_table ?l_law_table ?q_law_table ?k_law_table ?a_law_signs ?l_law_signs ?q_law_signs ?k_law_signs ?a_law_column ?l_law_column ?q_law_column ?k_law_column ?a_law_strip ?l_law_strip ?q_law_strip ?k_law_strip ?a_law_good_strip ?l_law_good_strip ?q_law_good_strip ?k_law_good_strip ?a_law_good_pattern ?l_law_good_pattern ?q_law_good_pattern ?k_law_good_pattern ?a_law_good_end ?l_law_good_end ?q_law_good_end ?k_law_good_end ?a_law_good_table ?l_law_good_table ?q_law_good_table ?k_law_good_table ?a_law_told_right ?l_law_told_right ?q_law_told_right ?k_law_told_right ?a_law ?l_law ?q_law ?k_law ?z_all ?z_bool ?z_int ?z_isinstance ?z_len ?z_list ?z_max ?z_min ?z_range ?z_str ?z_tuple ?w_LONE ?u_LONE ?w_MOST_LONG ?w_MOST_PATTERN ?w_MOST_WIDE ?w_SIGNS DL.law_true
    (case a_is_within => k_is)
    (case l_is_within => k_is)
    (case q_is_within => k_is)
    (case k_is_within => k_is)
    (case a_is_column => k_is)
    (case l_is_column => k_is)
    (case q_is_column => k_is)
    (case k_is_column => k_is)
    (case a_are_columns => k_is)
    (case l_are_columns => k_is)
    (case q_are_columns => k_is)
    (case k_are_columns => k_is)
    (case a_is_pair => k_is)
    (case l_is_pair => k_is)
    (case q_is_pair => k_is)
    (case k_is_pair => k_is)
    (case a_is_right_strip => k_is)
    (case l_is_right_strip => k_is)
    (case q_is_right_strip => k_is)
    (case k_is_right_strip => k_is)
    (case a_is_right_pattern => k_is)
    (case l_is_right_pattern => k_is)
    (case q_is_right_pattern => k_is)
    (case k_is_right_pattern => k_is)
    (case a_is_strip => k_is)
    (case l_is_strip => k_is)
    (case q_is_strip => k_is)
    (case k_is_strip => k_is)
    (case a_is_pattern => k_is)
    (case l_is_pattern => k_is)
    (case q_is_pattern => k_is)
    (case k_is_pattern => k_is)
    (case a_is_right_end => k_is)
    (case l_is_right_end => k_is)
    (case q_is_right_end => k_is)
    (case k_is_right_end => k_is)
    (case a_is_right_table => k_is)
    (case l_is_right_table => k_is)
    (case q_is_right_table => k_is)
    (case k_is_right_table => k_is)
    (case a_is_table => k_is)
    (case l_is_table => k_is)
    (case q_is_table => k_is)
    (case k_is_table => k_is)
    (case a_law_source => k_is)
    (case l_law_source => k_is)
    (case q_law_source => k_is)
    (case k_law_source => k_is)
    (case a_law_pick => k_is)
    (case l_law_pick => k_is)
    (case q_law_pick => k_is)
    (case k_law_pick => k_is)
    (case a_law_chosen => k_is)
    (case l_law_chosen => k_is)
    (case q_law_chosen => k_is)
    (case k_law_chosen => k_is)
    (case a_law_is_bool => k_is)
    (case l_law_is_bool => k_is)
    (case q_law_is_bool => k_is)
    (case k_law_is_bool => k_is)
    (case a_law_wide => k_is)
    (case l_law_wide => k_is)
    (case q_law_wide => k_is)
    (case k_law_wide => k_is)
    (case a_law_any_value => k_is)
    (case l_law_any_value => k_is)
    (case q_law_any_value => k_is)
    (case k_law_any_value => k_is)
    (case a_law_variant => k_is)
    (case l_law_variant => k_is)
    (case q_law_variant => k_is)
    (case k_law_variant => k_is)
    (case a_law_whole => k_is)
    (case l_law_whole => k_is)
    (case q_law_whole => k_is)
    (case k_law_whole => k_is)
    (case a_law_onward => k_is)
    (case l_law_onward => k_is)
    (case q_law_onward => k_is)
    (case k_law_onward => k_is)
    (case a_law_walk => k_is)
    (case l_law_walk => k_is)
    (case q_law_walk => k_is)
    (case k_law_walk => k_is)
    (case a_law_plain => k_is)
    (case l_law_plain => k_is)
    (case q_law_plain => k_is)
    (case k_law_plain => k_is)
    (case a_law_table => k_is)
    (case l_law_table => k_is)
    (case q_law_table => k_is)
    (case k_law_table => k_is)
    (case a_law_signs => k_is)
    (case l_law_signs => k_is)
    (case q_law_signs => k_is)
    (case k_law_signs => k_is)
    (case a_law_column => k_is)
    (case l_law_column => k_is)
    (case q_law_column => k_is)
    (case k_law_column => k_is)
    (case a_law_strip => k_is)
    (case l_law_strip => k_is)
    (case q_law_strip => k_is)
    (case k_law_strip => k_is)
    (case a_law_good_strip => k_is)
    (case l_law_good_strip => k_is)
    (case q_law_good_strip => k_is)
    (case k_law_good_strip => k_is)
    (case a_law_good_pattern => k_is)
    (case l_law_good_pattern => k_is)
    (case q_law_good_pattern => k_is)
    (case k_law_good_pattern => k_is)
    (case a_law_good_end => k_is)
    (case l_law_good_end => k_is)
    (case q_law_good_end => k_is)
    (case k_law_good_end => k_is)
    (case a_law_good_table => k_is)
    (case l_law_good_table => k_is)
    (case q_law_good_table => k_is)
    (case k_law_good_table => k_is)
    (case a_law_told_right => k_is)
    (case l_law_told_right => k_is)
    (case q_law_told_right => k_is)
    (case k_law_told_right => k_is)
    (case a_law => k_is)
    (case l_law => k_is)
    (case q_law => k_is)
    (case k_law => k_is)
    (case z_all => k_is)
    (case z_bool => k_is)
    (case z_int => k_is)
    (case z_isinstance => k_is)
    (case z_len => k_is)
    (case z_list => k_is)
    (case z_max => k_is)
    (case z_min => k_is)
    (case z_range => k_is)
    (case z_str => k_is)
    (case z_tuple => k_is)
    (case w_LONE => k_is)
    (case u_LONE => k_is)
    (case w_MOST_LONG => k_is)
    (case w_MOST_PATTERN => k_is)
    (case w_MOST_WIDE => k_is)
    (case w_SIGNS => k_is)
