import PyProof.Rows.All
import Wide.All
import OpenK.AllK
import Wide.FinOn
import HandS.ForMost
import HandS.Exc
import HandS.ExcCtx
import HandS.HotCalls
import HandS.Lambda
import HandS.TryOnly
import HandS.ExcOwn
import HandS.WordsExc
import HandS.CallSlots
import HandS.IsInst
import HandS.More
import KE.KDictKeyed
import HandS.TupAny
import HandS.TupMul
import HandS.Deep
import HandS.Style
import KE.KRevSl
import KE.KDictCopyH
import PyProof.ListStr
import KE.KDictPairs
import PyProof.StrOps2
import HandS.TupLen
import HandS.ExcIs
import HandS.EndTab
import PySem.Challenge.RW_mirrorstrips_k22_whole_strips_in_parts
set_option Elab.async false
set_option linter.all false
set_option maxRecDepth 100000
set_option maxHeartbeats 4000000
set_option autoImplicit false
/-! DL1: values as trees, slots, the relation between an environment of trees and the abstract heap, the judgements. -/
namespace DL
open PySem PySem.Spec PyProof.Rows L2

/-! ### values -/
inductive D where
  | non | bl (b : Bool) | int (i : Int) | str (cs : List Nat) | tup (ds : List D) | lst (ds : List D) | dct (ks vs : List D) | dcn (ks vs : List D) | seq (ns : List Int) | fn (n : Nat)
inductive M where
  | lst (ds : List D) | dct (ks vs : List D) | dcn (ks vs : List D)
def M.toD : M → D
  | .lst ds => .lst ds
  | .dct ks vs => .dct ks vs
  | .dcn ks vs => .dcn ks vs
inductive Slot where
  | non | imm (d : D) | own (m : M) | bor (m : M)
abbrev Env := List Slot
structure Ex where
  cls : Nat
  arg : Option D
inductive Out (α : Type) where
  | ok (a : α) (ρ : Env) | exc (x : Ex) (ρ : Env) | bad
inductive Res where
  | imm (d : D) | new (m : M) | pair (d : D) (m : M)
inductive Pk where
  | res (r : Res) | at (i : Nat)
inductive SOut where
  | nx (ρ : Env) | rt (r : Res) (ρ : Env) | bk (ρ : Env) | ct (ρ : Env) | exc (x : Ex) (ρ : Env) | bad
inductive FOut where
  | ret (r : Res) (m : Option M) | exc (x : Ex) (m : Option M) | bad
abbrev Fn := List Slot → FOut
abbrev Sg := List (Option V)
abbrev EV := Env → Out Pk
abbrev SV := Env → SOut
def Res.vw : Res → Option D
  | .imm d => some d
  | .new m => some m.toD
  | .pair _ _ => none
def Slot.obj? : Slot → Option M
  | .own m => some m
  | .bor m => some m
  | _ => none
/-- what a peeked value is now -/
def Pk.view (ρ : Env) : Pk → Option D
  | .res r => r.vw
  | .at i => (ρ[i]?).bind fun s => s.obj?.map M.toD

def cstr (cs : List Nat) : Str := ⟨cs.toArray⟩
theorem cstr_inj {a b : List Nat} (h : cstr a = cstr b) : a = b := by
  injection h with h
  exact congrArg Array.toList h
theorem cstr_of (s : Str) : cstr s.cps.toList = s := by cases s; simp [cstr]
theorem cstr_len (cs : List Nat) : (cstr cs).length = cs.length := by simp [cstr, Str.length]

mutual
def D.key : D → Option NestedKey
  | .int i => some (.num i)
  | .str cs => some (.text (cstr cs))
  | .tup ds => (D.keys ds).map .tup
  | _ => none
def D.keys : List D → Option (List NestedKey)
  | [] => some []
  | d :: ds => match D.key d, D.keys ds with
    | some k, some ks => some (k :: ks)
    | _, _ => none
end

/-! ### the static part -/
structure Gm where
  P : Program
  w : World
  K : PySem.W.Frag
  fa : Nat → Option Addr
  ca : Nat → Option Value
  T : List (Addr × Str)

def TupA (K : PySem.W.Frag) (H : Hp) (a : Addr) (xs : List V) : Prop :=
  H a = some (.tup xs) ∨ ∃ (o : Obj) (its : Array Value) (n : Nat), K.lookup a = some o ∧ o.cls = .type "tuple" ∧ o.data = .seq its n ∧ its.size ≤ sizeLine ∧ Vals xs its.toList
theorem TupA.sq {K : PySem.W.Frag} {H : Hp} {a : Addr} {xs : List V} (h : TupA K H a xs) : SqT K H a xs := by
  rcases h with h | h
  · exact .inl (.inl h)
  · exact .inr h

/-- the script: locked, or of the written part -/
def SeqA (K : PySem.W.Frag) (H : Hp) (a : Addr) (xs : List V) : Prop :=
  (∃ o, H a = some (.frz o (.lst xs))) ∨ ∃ (o : Obj) (its : Array Value) (n : Nat), K.lookup a = some o ∧ o.cls = .type "list" ∧ o.dict = none ∧ o.data = .seq its n ∧ its.size ≤ sizeLine ∧ Vals xs its.toList
theorem SeqA.sq {K : PySem.W.Frag} {H : Hp} {a : Addr} {xs : List V} (h : SeqA K H a xs) : SqL K H a xs := by
  rcases h with h | h
  · exact .inl (.inr h)
  · exact .inr h
/-- a dict whose keys are tuples, nested -/
def dNP (G : Gm) (a : Addr) (xs : List (NestedKey × Addr × Value)) : Heap → Prop := fun h =>
  xs.length ≤ sizeLine ∧ (a == sysModules) = false ∧ ∃ o es ep, h.get? a = some o ∧ o.ExactDict ∧ o.data = .dict es ep ∧ es.toList = xs.map (entryOfKey (nestedKind G.P G.w)) ∧ (xs.map (·.1)).Nodup ∧ ∀ x ∈ xs, x.1.depth ≤ 8
def dNO (G : Gm) (a : Addr) (xs : List (NestedKey × Addr × Value)) : HO := .ext (dNP G a xs)
/-- neither a table nor a code object -/
def NCo (u : HO) : Prop := (∀ ps, u ≠ .tbl ps) ∧ ∀ c q, u ≠ LamX.CodeO c q
theorem NCo.lst {xs : List V} : NCo (.lst xs) := ⟨fun _ => nofun, fun _ _ => nofun⟩
theorem NCo.dK {kvs : List (Key × V)} : NCo (.dK kvs) := ⟨fun _ => nofun, fun _ _ => nofun⟩
theorem NCo.dNO {G : Gm} {a : Addr} {xs : List (NestedKey × Addr × Value)} : NCo (dNO G a xs) := by
  refine ⟨fun ps e => ?_, fun c q e => ?_⟩
  · unfold DL.dNO at e; cases e
  · unfold DL.dNO LamX.CodeO at e
    injection e with e
    have e := congrFun e ({ objs := Array.replicate (c + a + 1) { cls := .none, data := .fields #[.none, .str q default] } } : Heap)
    have g : ∀ b, b < c + a + 1 → (({ objs := Array.replicate (c + a + 1) { cls := .none, data := .fields #[.none, .str q default] } } : Heap)).get? b = some { cls := .none, data := .fields #[.none, .str q default] } := fun b hb => by
      unfold Heap.get?
      simp [hb]
    have y : dNP G a xs ({ objs := Array.replicate (c + a + 1) { cls := .none, data := .fields #[.none, .str q default] } } : Heap) := by
      rw [e]
      exact ⟨_, _, default, g c (Nat.lt_succ_of_le (Nat.le_add_right c a)), rfl, rfl⟩
    obtain ⟨_, _, o, es, ep, h1, _, h2, _⟩ := y
    rw [g a (Nat.lt_succ_of_le (Nat.le_add_left a c))] at h1
    cases h1
    cases h2

def keyD : Key → D
  | .inl i => .int i
  | .inr s => .str s.cps.toList
/-- a dict of the written part, its keys texts -/
def KDL (K : PySem.W.Frag) (w : World) (a : Addr) (ks : List D) (vals : List V) : Prop := ks.length = vals.length ∧ ∀ (i : Nat) (k : D), ks[i]? = some k → ∃ s v, k = .str s ∧ vals[i]? = some v ∧ KDct K w a (cstr s) v
mutual
inductive Imm (G : Gm) (H : Hp) : V → D → Prop
  | non : Imm G H .non .non
  | bl (b : Bool) : Imm G H (.bl b) (.bl b)
  | int (i : Int) : Imm G H (.int i) (.int i)
  | str (cs : List Nat) (h : (cs.all (· < 0x110000)) = true) (hl : cs.length ≤ sizeLine) : Imm G H (.str (cstr cs)) (.str cs)
  | tup {a : Addr} {xs : List V} {ds : List D} (h : TupA G.K H a xs) (r : ImmL G H xs ds) (hl : ds.length ≤ sizeLine) : Imm G H (.ref a) (.tup ds)
  | lst {a : Addr} {o : Obj} {xs : List V} {ds : List D} (h : H a = some (.frz o (.lst xs))) (r : ImmL G H xs ds) (hl : ds.length ≤ sizeLine) : Imm G H (.ref a) (.lst ds)
  | dcn {a : Addr} {o : Obj} {xs : List (NestedKey × Addr × Value)} {vals : List V} {ks vs : List D} (h : H a = some (.frz o (dNO G a xs)))
      (hv : Vals vals (xs.map (·.2.2))) (hk : ks.map D.key = xs.map fun x => some x.1) (rk : ImmL G H (xs.map fun x => V.ref x.2.1) ks) (rv : ImmL G H vals vs) : Imm G H (.ref a) (.dcn ks vs)
  | dck {a : Addr} {o : Obj} {kvs : List (Key × V)} {ks vs : List D} (h : H a = some (.frz o (.dK kvs))) (hk : ks = kvs.map fun p => keyD p.1) (rv : ImmL G H (kvs.map (·.2)) vs) : Imm G H (.ref a) (.dct ks vs)
  | kdc {a : Addr} {vals : List V} {ks vs : List D} (h : KDL G.K G.w a ks vals) (rv : ImmL G H vals vs) : Imm G H (.ref a) (.dct ks vs)
  | seq {a : Addr} {ns : List Int} (h : SeqA G.K H a (ns.map V.int)) : Imm G H (.ref a) (.seq ns)
  | fn {n : Nat} {a : Addr} (h : G.fa n = some a) : Imm G H (.ref a) (.fn n)
inductive ImmL (G : Gm) (H : Hp) : List V → List D → Prop
  | nil : ImmL G H [] []
  | cons {v : V} {d : D} {vs : List V} {ds : List D} (h : Imm G H v d) (t : ImmL G H vs ds) : ImmL G H (v :: vs) (d :: ds)
end

/-- an own mutable object -/
inductive Obm (G : Gm) (H : Hp) (a : Addr) : M → Prop
  | lst {xs : List V} {ds : List D} (h : H a = some (.lst xs)) (r : ImmL G H xs ds) (hl : ds.length ≤ sizeLine) : Obm G H a (.lst ds)
  | dcn {xs : List (NestedKey × Addr × Value)} {vals : List V} {ks vs : List D} (h : H a = some (dNO G a xs))
      (hv : Vals vals (xs.map (·.2.2))) (hk : ks.map D.key = xs.map fun x => some x.1) (rk : ImmL G H (xs.map fun x => V.ref x.2.1) ks) (rv : ImmL G H vals vs) : Obm G H a (.dcn ks vs)

  | dck {kvs : List (Key × V)} {ks vs : List D} (h : H a = some (.dK kvs)) (hk : ks = kvs.map fun p => keyD p.1) (rv : ImmL G H (kvs.map (·.2)) vs) : Obm G H a (.dct ks vs)

/-! ### frames -/
/-- what never changes -/
def Pst : HO → Prop
  | .tup _ => True
  | .frz _ _ => True
  | _ => False
def NTab (o : HO) : Prop := ∀ ps, o ≠ .tbl ps
structure Fr (T : List (Addr × Str)) (A : Addr → Prop) (H H' : Hp) : Prop where
  keep : ∀ b o, H b = some o → NTab o → (Pst o ∨ ¬ A b) → H' b = some o
  dom : ∀ b, H b ≠ none → H' b ≠ none
  tabs : LamX.Tabs T H → LamX.Tabs T H'
/-- a place that bears neither a table nor a code object may change -/
theorem tabs_at {T : List (Addr × Str)} {H H' : Hp} {p : Addr} (hp : H p = none ∨ ∃ u, H p = some u ∧ NCo u) (k : ∀ b, b ≠ p → H' b = H b) (t : LamX.Tabs T H) : LamX.Tabs T H' := fun z hz => by
  obtain ⟨ps, h1, h2, h3⟩ := t z hz
  have n1 : z.1 ≠ p := fun e => by
    rw [e] at h1
    rcases hp with hp | ⟨u, hu, q1, _⟩
    · rw [hp] at h1; cases h1
    · rw [hu] at h1; exact q1 ps (Option.some.inj h1)
  refine ⟨ps, (k _ n1).trans h1, h2, fun pos cv hc => ?_⟩
  obtain ⟨c, e1, e2⟩ := h3 pos cv hc
  have n2 : c ≠ p := fun e => by
    rw [e] at e2
    rcases hp with hp | ⟨u, hu, _, q2⟩
    · rw [hp] at e2; cases e2
    · rw [hu] at e2; exact q2 _ _ (Option.some.inj e2)
  exact ⟨c, e1, (k _ n2).trans e2⟩
theorem Fr.refl {T : List (Addr × Str)} {A : Addr → Prop} {H : Hp} : Fr T A H H := ⟨fun _ _ h _ _ => h, fun _ h => h, fun t => t⟩
theorem Fr.trans {T : List (Addr × Str)} {A : Addr → Prop} {H H1 H2 : Hp} (a : Fr T A H H1) (b : Fr T A H1 H2) : Fr T A H H2 :=
  ⟨fun c o h n p => b.keep c o (a.keep c o h n p) n p, fun c h => b.dom c (a.dom c h), fun t => b.tabs (a.tabs t)⟩
theorem Fr.mono {T : List (Addr × Str)} {A B : Addr → Prop} {H H' : Hp} (a : Fr T A H H') (h : ∀ b, A b → B b) : Fr T B H H' :=
  ⟨fun c o q n p => a.keep c o q n (p.imp id fun z y => z (h c y)), a.dom, a.tabs⟩
theorem Fr.new {T : List (Addr × Str)} {A : Addr → Prop} {H : Hp} {p : Addr} {o : HO} (h : H p = none) : Fr T A H (upd H p o) :=
  ⟨fun b u q _ _ => by rw [upd_ne (ne_of_none q h)]; exact q, fun b q => by
    by_cases e : b = p
    · subst e; rw [upd_same]; exact fun z => nomatch z
    · rw [upd_ne e]; exact q, tabs_at (.inl h) fun b e => upd_ne e⟩
/-- persistence -/
def Ps (H H' : Hp) : Prop := ∀ b o, H b = some o → Pst o → H' b = some o
theorem Pst.ntab {o : HO} (h : Pst o) : NTab o := fun ps e => by subst e; exact h
theorem Fr.ps {T : List (Addr × Str)} {A : Addr → Prop} {H H' : Hp} (f : Fr T A H H') : Ps H H' := fun b o h p => f.keep b o h p.ntab (.inl p)
theorem Ps.trans {H H1 H2 : Hp} (a : Ps H H1) (b : Ps H1 H2) : Ps H H2 := fun c o h p => b c o (a c o h p) p
theorem TupA.ps {K : PySem.W.Frag} {H H' : Hp} {a : Addr} {xs : List V} (h : TupA K H a xs) (p : Ps H H') : TupA K H' a xs := by
  rcases h with h | h
  · exact .inl (p _ _ h trivial)
  · exact .inr h
theorem SeqA.ps {K : PySem.W.Frag} {H H' : Hp} {a : Addr} {xs : List V} (h : SeqA K H a xs) (p : Ps H H') : SeqA K H' a xs := by
  rcases h with ⟨o, h⟩ | h
  · exact .inl ⟨o, p _ _ h trivial⟩
  · exact .inr h
mutual
theorem Imm.ps {G : Gm} {H H' : Hp} (p : Ps H H') : ∀ {v : V} {d : D}, Imm G H v d → Imm G H' v d
  | _, _, .non => .non
  | _, _, .bl b => .bl b
  | _, _, .int i => .int i
  | _, _, .str s h l => .str s h l
  | _, _, .tup h r l => .tup (h.ps p) (ImmL.ps p r) l
  | _, _, .lst h r l => .lst (p _ _ h trivial) (ImmL.ps p r) l
  | _, _, .dcn h hv hk rk rv => .dcn (p _ _ h trivial) hv hk (ImmL.ps p rk) (ImmL.ps p rv)
  | _, _, .dck h hk rv => .dck (p _ _ h trivial) hk (ImmL.ps p rv)
  | _, _, .kdc h rv => .kdc h (ImmL.ps p rv)
  | _, _, .seq h => .seq (h.ps p)
  | _, _, .fn h => .fn h
theorem ImmL.ps {G : Gm} {H H' : Hp} (p : Ps H H') : ∀ {vs : List V} {ds : List D}, ImmL G H vs ds → ImmL G H' vs ds
  | _, _, .nil => .nil
  | _, _, .cons h t => .cons (Imm.ps p h) (ImmL.ps p t)
end
theorem ImmL.length {G : Gm} {H : Hp} : ∀ {vs : List V} {ds : List D}, ImmL G H vs ds → vs.length = ds.length
  | _, _, .nil => rfl
  | _, _, .cons _ t => by simp [ImmL.length t]
theorem ImmL.append {G : Gm} {H : Hp} : ∀ {vs us : List V} {ds es : List D}, ImmL G H vs ds → ImmL G H us es → ImmL G H (vs ++ us) (ds ++ es)
  | _, _, _, _, .nil, q => q
  | _, _, _, _, .cons h t, q => .cons h (t.append q)
theorem ImmL.get {G : Gm} {H : Hp} : ∀ {vs : List V} {ds : List D} {i : Nat} {d : D}, ImmL G H vs ds → ds[i]? = some d → ∃ v, vs[i]? = some v ∧ Imm G H v d
  | _, _, _, _, .nil, e => by simp at e
  | _, _, 0, _, .cons h t, e => by simp at e; subst e; exact ⟨_, rfl, h⟩
  | _, _, i + 1, _, .cons h t, e => by
    obtain ⟨v, q, r⟩ := t.get (i := i) (by simpa using e)
    exact ⟨v, by simpa using q, r⟩
theorem ImmL.get' {G : Gm} {H : Hp} : ∀ {vs : List V} {ds : List D} {i : Nat} {v : V}, ImmL G H vs ds → vs[i]? = some v → ∃ d, ds[i]? = some d ∧ Imm G H v d
  | _, _, _, _, .nil, e => by simp at e
  | _, _, 0, _, .cons h t, e => by simp at e; subst e; exact ⟨_, rfl, h⟩
  | _, _, i + 1, _, .cons h t, e => by
    obtain ⟨v, q, r⟩ := t.get' (i := i) (by simpa using e)
    exact ⟨v, by simpa using q, r⟩
theorem ImmL.set {G : Gm} {H : Hp} : ∀ {vs : List V} {ds : List D} (i : Nat) {v : V} {d : D}, ImmL G H vs ds → Imm G H v d → ImmL G H (vs.set i v) (ds.set i d)
  | _, _, _, _, _, .nil, _ => .nil
  | _, _, 0, _, _, .cons h t, q => .cons q t
  | _, _, i + 1, _, _, .cons h t, q => .cons h (t.set i q)
theorem ImmL.take {G : Gm} {H : Hp} : ∀ {vs : List V} {ds : List D} (i : Nat), ImmL G H vs ds → ImmL G H (vs.take i) (ds.take i)
  | _, _, 0, _ => by simpa using .nil
  | _, _, i + 1, .nil => .nil
  | _, _, i + 1, .cons h t => .cons h (t.take i)
theorem ImmL.drop {G : Gm} {H : Hp} : ∀ {vs : List V} {ds : List D} (i : Nat), ImmL G H vs ds → ImmL G H (vs.drop i) (ds.drop i)
  | _, _, 0, h => by simpa using h
  | _, _, i + 1, .nil => .nil
  | _, _, i + 1, .cons h t => by simpa using t.drop i
theorem ImmL.reverse {G : Gm} {H : Hp} : ∀ {vs : List V} {ds : List D}, ImmL G H vs ds → ImmL G H vs.reverse ds.reverse
  | _, _, .nil => .nil
  | _, _, .cons h t => by simpa using t.reverse.append (.cons h .nil)
theorem Obm.fr {G : Gm} {T : List (Addr × Str)} {A : Addr → Prop} {H H' : Hp} {a : Addr} {m : M} (h : Obm G H a m) (f : Fr T A H H') (n : ¬ A a) : Obm G H' a m := by
  cases h with
  | lst h r l => exact .lst (f.keep _ _ h (fun _ z => nomatch z) (.inr n)) (r.ps f.ps) l
  | dcn h hv hk rk rv => exact .dcn (f.keep _ _ h (fun _ z => nomatch z) (.inr n)) hv hk (rk.ps f.ps) (rv.ps f.ps)
  | dck h hk rv => exact .dck (f.keep _ _ h (fun _ z => nomatch z) (.inr n)) hk (rv.ps f.ps)
theorem Obm.is {G : Gm} {H : Hp} {a : Addr} {m : M} (h : Obm G H a m) : ∃ o, H a = some o ∧ NTab o ∧ Mut (some o) := by
  cases h with
  | lst h r l => exact ⟨_, h, (fun _ z => nomatch z), trivial⟩
  | dcn h hv hk rk rv => exact ⟨_, h, (fun _ z => nomatch z), trivial⟩
  | dck h hk rv => exact ⟨_, h, (fun _ z => nomatch z), trivial⟩
theorem Obm.ne {G : Gm} {H : Hp} {a : Addr} {m : M} (h : Obm G H a m) : H a ≠ none := by
  obtain ⟨o, e, _⟩ := h.is
  rw [e]; exact fun z => nomatch z

/-! ### the state -/
/-- a def's entry: the abstract heap, the borrowed object's address -/
structure Cn where
  G : Gm
  H0 : Hp
  B : Option Addr
inductive SlotR (G : Gm) (H : Hp) : Slot → Option V → Prop
  | non (v : Option V) : SlotR G H .non v
  | imm {d : D} {v : V} (h : Imm G H v d) : SlotR G H (.imm d) (some v)
  | own {m : M} {a : Addr} (h : Obm G H a m) : SlotR G H (.own m) (some (.ref a))
  | bor {m : M} {a : Addr} (h : Obm G H a m) : SlotR G H (.bor m) (some (.ref a))
def OwnAt (ρ : Env) (σ : Sg) (i : Nat) (a : Addr) : Prop := σ[i]? = some (some (.ref a)) ∧ ∃ s m, ρ[i]? = some s ∧ s.obj? = some m
/-- Tabs keeps while the tables grow -/
abbrev TabsOk (G : Gm) (H : Hp) : Prop := ∀ p ∈ G.T, ∃ ps, H p.1 = some (.tbl ps)
structure Stt (c : Cn) (A : Addr → Prop) (ρ : Env) (σ : Sg) (H : Hp) : Prop where
  len : σ.length = ρ.length
  slot : ∀ (i : Nat) s, ρ[i]? = some s → ∃ v, σ[i]? = some v ∧ SlotR c.G H s v
  inj : ∀ i j a, OwnAt ρ σ i a → OwnAt ρ σ j a → i = j
  inA : ∀ i a, OwnAt ρ σ i a → A a
  live : ∀ a, A a → H a ≠ none
  base : ∀ b o, c.H0 b = some o → NTab o → (Pst o ∨ c.B ≠ some b) → H b = some o
  dom : ∀ b, c.H0 b ≠ none → H b ≠ none
  oldA : ∀ a, A a → c.H0 a = none ∨ c.B = some a
  ownN : ∀ (i : Nat) a m, ρ[i]? = some (.own m) → σ[i]? = some (some (.ref a)) → c.H0 a = none
  borN : ∀ (i : Nat) a m, ρ[i]? = some (.bor m) → σ[i]? = some (some (.ref a)) → i = 0 ∧ c.B = some a
  bAll : ∀ a, c.B = some a → c.H0 a ≠ none
  tabs : LamX.Tabs c.G.T H
  tabs0 : LamX.Tabs c.G.T c.H0

section
variable {c : Cn} {A : Addr → Prop} {ρ ρ' : Env} {σ : Sg} {H H' : Hp}
theorem Stt.is (h : Stt c A ρ σ H) {i : Nat} {s : Slot} (e : ρ[i]? = some s) {m : M} (q : s.obj? = some m) : ∃ a, OwnAt ρ σ i a ∧ Obm c.G H a m := by
  obtain ⟨v, hv, r⟩ := h.slot i s e
  cases r with
  | non v => cases q
  | imm h => cases q
  | own h => cases q; exact ⟨_, ⟨hv, _, _, e, rfl⟩, h⟩
  | bor h => cases q; exact ⟨_, ⟨hv, _, _, e, rfl⟩, h⟩
theorem SlotR.fr {G : Gm} {T : List (Addr × Str)} {A : Addr → Prop} {s : Slot} {v : Option V} (r : SlotR G H s v) (f : Fr T A H H') (n : ∀ m a, s.obj? = some m → v = some (.ref a) → ¬ A a) : SlotR G H' s v := by
  cases r with
  | non v => exact .non v
  | imm h => exact .imm (h.ps f.ps)
  | own h => exact .own (h.fr f (n _ _ rfl rfl))
  | bor h => exact .bor (h.fr f (n _ _ rfl rfl))
/-- a new thing is laid beside -/
theorem Stt.grow (h : Stt c A ρ σ H) (f : Fr c.G.T (fun _ => False) H H') : Stt c A ρ σ H' where
  len := h.len
  slot := fun i s e => by
    obtain ⟨v, hv, r⟩ := h.slot i s e
    exact ⟨v, hv, r.fr f fun _ _ _ _ z => z⟩
  inj := h.inj
  inA := h.inA
  live := fun a q => f.dom a (h.live a q)
  base := fun b o q n p => f.keep b o (h.base b o q n p) n (.inr fun z => z)
  dom := fun b q => f.dom b (h.dom b q)
  oldA := h.oldA
  ownN := h.ownN
  borN := h.borN
  bAll := h.bAll
  tabs := f.tabs h.tabs
  tabs0 := h.tabs0
/-- another set of owned places -/
theorem Stt.own (h : Stt c A ρ σ H) : Stt c (fun a => ∃ i, OwnAt ρ σ i a) ρ σ H := { h with
  inA := fun i a q => ⟨i, q⟩
  live := fun a ⟨i, q⟩ => h.live a (h.inA i a q)
  oldA := fun a ⟨i, q⟩ => h.oldA a (h.inA i a q) }
end

/-! ### what a value is -/
inductive ResR (G : Gm) (H0 H : Hp) : V → Res → Prop
  | imm {v : V} {d : D} (h : Imm G H v d) : ResR G H0 H v (.imm d)
  | new {a : Addr} {m : M} (h : Obm G H a m) (n : H0 a = none) : ResR G H0 H (.ref a) (.new m)
  | pair {t l : Addr} {v : V} {d : D} {m : M} (ht : H t = some (.tup [v, .ref l])) (hv : Imm G H v d) (ho : Obm G H l m) (n1 : H0 t = none) (n2 : H0 l = none) : ResR G H0 H (.ref t) (.pair d m)
inductive PkR (c : Cn) (A : Addr → Prop) (H0 H : Hp) (σ : Sg) : V → Pk → Prop
  | res {v : V} {r : Res} (h : ResR c.G H0 H v r) : PkR c A H0 H σ v (.res r)
  | at {v : V} {i : Nat} (h : σ[i]? = some (some v)) : PkR c A H0 H σ v (.at i)
/-- an exception: class, own dict -/
inductive ExR (G : Gm) (H : Hp) : Ex → Value → Option Addr → Prop
  | plain {n : Nat} {cls : Value} (h : G.ca n = some cls) : ExR G H ⟨n, none⟩ cls none
  | arg {n : Nat} {d : D} {cls : Value} {a : Addr} {f : Str} {v : V} (h : G.ca n = some cls) (ha : H a = some (.xd [(f, v)])) (hv : Imm G H v d) : ExR G H ⟨n, some d⟩ cls (some a)
inductive Vw (G : Gm) (H : Hp) : V → D → Prop
  | imm {v : V} {d : D} (h : Imm G H v d) : Vw G H v d
  | obj {a : Addr} {m : M} (h : Obm G H a m) : Vw G H (.ref a) m.toD

section
variable {c : Cn} {A : Addr → Prop} {ρ ρ' : Env} {σ : Sg} {H0 H H' H1 : Hp}
theorem ResR.fr {G : Gm} {T : List (Addr × Str)} {v : V} {r : Res} (h : ResR G H0 H v r) (f : Fr T A H H') (live : ∀ a, A a → H0 a ≠ none) : ResR G H0 H' v r := by
  cases h with
  | imm h => exact .imm (h.ps f.ps)
  | new h n => exact .new (h.fr f fun z => live _ z n) n
  | pair ht hv ho n1 n2 => exact .pair (f.ps _ _ ht trivial) (hv.ps f.ps) (ho.fr f fun z => live _ z n2) n1 n2
theorem PkR.fr {v : V} {k : Pk} (h : PkR c A H0 H σ v k) (f : Fr c.G.T A H H') (live : ∀ a, A a → H0 a ≠ none) : PkR c A H0 H' σ v k := by
  cases h with
  | res h => exact .res (h.fr f live)
  | «at» h => exact .at h
theorem ResR.old {G : Gm} {T : List (Addr × Str)} {v : V} {r : Res} (h : ResR G H1 H v r) (f : Fr T A H0 H1) : ResR G H0 H v r := by
  cases h with
  | imm h => exact .imm h
  | @new a _ h n => exact .new h (Classical.byContradiction fun z => f.dom a z n)
  | @pair t l _ _ _ ht hv ho n1 n2 => exact .pair ht hv ho (Classical.byContradiction fun z => f.dom t z n1) (Classical.byContradiction fun z => f.dom l z n2)
theorem PkR.old {v : V} {k : Pk} (h : PkR c A H1 H σ v k) (f : Fr c.G.T A H0 H1) : PkR c A H0 H σ v k := by
  cases h with
  | res h => exact .res (h.old f)
  | «at» h => exact .at h
theorem PkR.view {v : V} {k : Pk} {d : D} (h : PkR c A H0 H σ v k) (s : Stt c A ρ σ H) (e : k.view ρ = some d) : Vw c.G H v d := by
  cases h with
  | res h =>
    cases h with
    | imm h => cases e; exact .imm h
    | new h n => cases e; exact .obj h
    | pair => cases e
  | @«at» i h =>
    simp only [Pk.view] at e
    cases q : ρ[i]? with
    | none => rw [q] at e; cases e
    | some sl =>
      rw [q] at e
      simp only [Option.bind_some] at e
      cases q2 : sl.obj? with
      | none => rw [q2] at e; cases e
      | some m =>
        rw [q2] at e
        cases e
        obtain ⟨a, ⟨ha, _⟩, ho⟩ := s.is q q2
        rw [h] at ha
        cases ha
        exact .obj ho
end

/-! ### the judgements -/
/-- what is wanted of exceptions -/
abbrev Wx := L2.WX
def Out.post {α : Type} (o : Out α) (ok : α → Env → Prop) (ex : Ex → Env → Prop) : Prop :=
  match o with
  | .ok a ρ => ok a ρ
  | .exc x ρ => ex x ρ
  | .bad => False
def Out.bind {α β : Type} (o : Out α) (k : α → Env → Out β) : Out β :=
  match o with
  | .ok a ρ => k a ρ
  | .exc x ρ => .exc x ρ
  | .bad => .bad
theorem Out.post_bind {α β : Type} {o : Out α} {k : α → Env → Out β} {ok : β → Env → Prop} {ex : Ex → Env → Prop} : (o.bind k).post ok ex = o.post (fun a ρ => (k a ρ).post ok ex) ex := by
  cases o <;> rfl
theorem Out.post_imp {α : Type} {o : Out α} {ok ok' : α → Env → Prop} {ex ex' : Ex → Env → Prop} (h : o.post ok ex) (h1 : ∀ a ρ, ok a ρ → ok' a ρ) (h2 : ∀ x ρ, ex x ρ → ex' x ρ) : o.post ok' ex' := by
  cases o with
  | ok a ρ => exact h1 a ρ h
  | exc x ρ => exact h2 x ρ h
  | bad => exact h
/-- the post of a peeked value, of a test, of an exception -/
def kP (c : Cn) (A : Addr → Prop) (H : Hp) (σ : Sg) (Q : VK) : Pk → Env → Prop := fun k ρ' => ∀ v H', Stt c A ρ' σ H' → Fr c.G.T A H H' → PkR c A H H' σ v k → Q v H'
def kX (c : Cn) (W : Wx) (A : Addr → Prop) (H : Hp) (σ : Sg) : Ex → Env → Prop := fun x ρ' => ∀ cls d H', Stt c A ρ' σ H' → Fr c.G.T A H H' → ExR c.G H' x cls d → W cls d σ H'
def kB (c : Cn) (A : Addr → Prop) (H : Hp) (σ : Sg) (Q : Bool → Hp → Prop) : Bool → Env → Prop := fun b ρ' => ∀ H', Stt c A ρ' σ H' → Fr c.G.T A H H' → Q b H'
def tP (c : Cn) (W : Wx) (f : EV) : TE := fun σ H Q => ∃ ρ A, Stt c A ρ σ H ∧ (f ρ).post (kP c A H σ Q) (kX c W A H σ)
def tT (c : Cn) (W : Wx) (f : Env → Out Bool) : TT := fun σ H Q => ∃ ρ A, Stt c A ρ σ H ∧ (f ρ).post (kB c A H σ Q) (kX c W A H σ)
/-- the returned value of a def -/
inductive RetR (c : Cn) (H : Hp) : V → Res → Prop
  | imm {v : V} {d : D} (h : Imm c.G H v d) : RetR c H v (.imm d)
  | new {a : Addr} {m : M} (h : Obm c.G H a m) (n : c.H0 a = none) : RetR c H (.ref a) (.new m)
  | pair {t l : Addr} {v : V} {d : D} {m : M} (ht : H t = some (.tup [v, .ref l])) (hv : Imm c.G H v d) (ho : Obm c.G H l m) (n1 : c.H0 t = none) (n2 : c.H0 l = none) : RetR c H (.ref t) (.pair d m)
def sP (c : Cn) (W : Wx) (H : Hp) (D : Ends) : SOut → Prop
  | .nx ρ' => ∀ σ' H' A', Stt c A' ρ' σ' H' → Ps H H' → D.nx σ' H'
  | .bk ρ' => ∀ σ' H' A', Stt c A' ρ' σ' H' → Ps H H' → D.bk σ' H'
  | .ct ρ' => ∀ σ' H' A', Stt c A' ρ' σ' H' → Ps H H' → D.ct σ' H'
  | .rt r ρ' => ∀ v σ' H' A', Stt c A' ρ' σ' H' → Ps H H' → RetR c H' v r → D.rt v H'
  | .exc x ρ' => ∀ cls d σ' H' A', Stt c A' ρ' σ' H' → Ps H H' → ExR c.G H' x cls d → W cls d σ' H'
  | .bad => False
def tS (c : Cn) (W : Wx) (f : SV) : TS := fun D σ H => ∃ ρ A, Stt c A ρ σ H ∧ sP c W H D (f ρ)
/-- the context X is one of this program, at this entry -/
structure XOk (c : Cn) (W : Wx) (X : Cx) : Prop where
  P : X.prog = c.G.P
  w : X.w = c.G.w
  K : X.K = c.G.K
  calm : X.calm = true
  tk : L2N.Takes X W
  un : X.A.units + 64 < cLine
def DX (c : Cn) (W : Wx) (X : Cx) (e : Expr) (f : EV) : Prop := PE X e (tP c W f)
def DT (c : Cn) (W : Wx) (X : Cx) (e : Expr) (f : Env → Out Bool) : Prop := PT X e (tT c W f)
def DS (c : Cn) (W : Wx) (X : Cx) (st : Stmt) (f : SV) : Prop := PS X st (tS c W f)
def DSs (c : Cn) (W : Wx) (X : Cx) (sts : List Stmt) (f : SV) : Prop := PSs X sts (tS c W f)

theorem PE.imp {X : Cx} {e : Expr} {t t' : TE} (h : PE X e t) (i : ∀ σ H Q, t' σ H Q → t σ H Q) : PE X e t' := ⟨fun pins s σ H Q I q => h.run pins s σ H Q I (i _ _ _ q)⟩
theorem PT.imp {X : Cx} {e : Expr} {t t' : TT} (h : PT X e t) (i : ∀ σ H Q, t' σ H Q → t σ H Q) : PT X e t' := ⟨fun pins s σ H Q I q => h.run pins s σ H Q I (i _ _ _ q)⟩
theorem PS.imp {X : Cx} {e : Stmt} {t t' : TS} (h : PS X e t) (i : ∀ D σ H, t' D σ H → t D σ H) : PS X e t' := ⟨fun pins s σ H Q I q => h.run pins s σ H Q I (i _ _ _ q)⟩
theorem PSs.imp {X : Cx} {e : List Stmt} {t t' : TS} (h : PSs X e t) (i : ∀ D σ H, t' D σ H → t D σ H) : PSs X e t' := ⟨fun pins s σ H Q I q => h.run pins s σ H Q I (i _ _ _ q)⟩
end DL
/-! DL2: expressions. -/
namespace DL
open PySem PySem.Spec PyProof.Rows L2

section
variable {c : Cn} {W : Wx} {X : Cx} {A : Addr → Prop} {ρ : Env} {σ : Sg} {H0 H : Hp}
theorem cut {f : EV} {R : VK} (S : Stt c A ρ σ H) (F : Fr c.G.T A H0 H) (h : (f ρ).post (kP c A H σ R) (kX c W A H0 σ)) : tP c W f σ H R :=
  ⟨ρ, A, S, Out.post_imp h (fun k ρ1 q => q) fun x ρ1 q cls d H1 S1 F1 E1 => q cls d H1 S1 (F.trans F1) E1⟩
theorem cutT {f : Env → Out Bool} {R : Bool → Hp → Prop} (S : Stt c A ρ σ H) (F : Fr c.G.T A H0 H) (h : (f ρ).post (kB c A H σ R) (kX c W A H0 σ)) : tT c W f σ H R :=
  ⟨ρ, A, S, Out.post_imp h (fun k ρ1 q => q) fun x ρ1 q cls d H1 S1 F1 E1 => q cls d H1 S1 (F.trans F1) E1⟩
/-- the operand's end goes on -/
theorem kP_go {Q : VK} {k : Pk} {R : VK} (h : ∀ v H', Stt c A ρ σ H' → Fr c.G.T A H0 H' → PkR c A H0 H' σ v k → R v H') : kP c A H0 σ R k ρ := h

/-! ### names, constants -/
def eV (i : Nat) : EV := fun ρ => match ρ[i]? with
  | some (.imm d) => .ok (.res (.imm d)) ρ
  | some (.own _) => .ok (.at i) ρ
  | some (.bor _) => .ok (.at i) ρ
  | _ => .bad
def eC (d : D) : EV := fun ρ => .ok (.res (.imm d)) ρ
theorem dx_var (i : Nat) {x : Str} {pos : Pos} (hN : X.N[i]? = some x := by rfl) (hv : Vis X.env.scope x := by first | exact Or.inl rfl | exact Or.inr (Or.inl rfl) | exact Or.inr (Or.inr rfl))
    (hd : (x == ("__debug__" : Str)) = false := by decide) (hcd : (x == ("__classdict__" : Str)) = false := by decide) : DX c W X (.Name x pos) (eV i) := by
  refine PE.imp (pe_var (i := i) hN hv hd hcd) fun σ H Q ⟨ρ, A, S, h⟩ => ?_
  unfold eV at h
  split at h
  · rename_i d e
    obtain ⟨v, hv, r⟩ := S.slot i _ e
    cases r with
    | @imm d v r => exact ⟨v, hv, h v H S .refl (.res (.imm r))⟩
  · rename_i m e
    obtain ⟨v, hv, r⟩ := S.slot i _ e
    cases r with
    | own r => exact ⟨_, hv, h _ H S .refl (.at hv)⟩
  · rename_i m e
    obtain ⟨v, hv, r⟩ := S.slot i _ e
    cases r with
    | bor r => exact ⟨_, hv, h _ H S .refl (.at hv)⟩
  · exact h.elim
theorem dx_int {i : Int} {j : Nat} {pos : Pos} : DX c W X (.Constant (.int i) j pos) (eC (.int i)) :=
  PE.imp pe_int fun σ H Q ⟨ρ, A, S, h⟩ => h _ H S .refl (.res (.imm (.int i)))
theorem dx_bl {b : Bool} {j : Nat} {pos : Pos} : DX c W X (.Constant (.bool b) j pos) (eC (.bl b)) :=
  PE.imp pe_bl fun σ H Q ⟨ρ, A, S, h⟩ => h _ H S .refl (.res (.imm (.bl b)))
theorem dx_non {j : Nat} {pos : Pos} : DX c W X (.Constant .none j pos) (eC .non) :=
  PE.imp pe_non fun σ H Q ⟨ρ, A, S, h⟩ => h _ H S .refl (.res (.imm .non))
theorem dx_str (cs : List Nat) {x : Str} {j : Nat} {pos : Pos} (e : cstr cs = x := by decide +kernel) (h1 : (cs.all (· < 0x110000)) = true := by decide) (h2 : cs.length ≤ 1000 := by decide) : DX c W X (.Constant (.str x) j pos) (eC (.str cs)) := by
  subst e
  exact PE.imp pe_str fun σ H Q ⟨ρ, A, S, h⟩ => h _ H S .refl (.res (.imm (.str cs h1 (Nat.le_trans h2 (by decide)))))
/-- a module's constant -/
theorem dx_glob {x : Str} {d : D} {v : V} {u : Value} {pos : Pos} (hg : Gl X x) (hm : X.mg x = some u) (r : RelV v u) (hi : ∀ H, Imm c.G H v d) (hd : (x == ("__debug__" : Str)) = false := by decide) : DX c W X (.Name x pos) (eC d) :=
  PE.imp (pe_glob hg hm r hd) fun σ H Q ⟨ρ, A, S, h⟩ => h _ H S .refl (.res (.imm (hi H)))

/-! ### freezing -/
/-- the value as a tree; a mutable object is frozen -/
def frzE (f : EV) : EV := fun ρ => (f ρ).bind fun k ρ' => match k with
  | .res r => match r.vw with
    | some d => .ok (.res (.imm d)) ρ'
    | none => .bad
  | .at i => match ρ'[i]? with
    | some (.own m) => .ok (.res (.imm m.toD)) (ρ'.set i (.imm m.toD))
    | _ => .bad
theorem Obm.freeze {G : Gm} {H : Hp} {a : Addr} {m : M} (h : Obm G H a m) : ∃ u, H a = some u ∧ Mut (some u) ∧ NCo u ∧ ∀ o, Imm G (upd H a (.frz o u)) (.ref a) m.toD := by
  cases h with
  | @lst xs ds h r l =>
    refine ⟨_, h, trivial, ⟨fun _ => nofun, fun _ _ => nofun⟩, fun o => .lst upd_same (r.ps fun b u e p => ?_) l⟩
    rw [upd_ne (fun z => by subst z; rw [h] at e; cases e; exact p)]; exact e
  | @dcn xs vals ks vs h hv hk rk rv =>
    have ps : ∀ o, Ps H (upd H a (.frz o (dNO G a xs))) := fun o b u e p => by
      rw [upd_ne (fun z => by subst z; rw [h] at e; cases e; exact p)]; exact e
    exact ⟨_, h, trivial, .dNO, fun o => .dcn upd_same hv hk (rk.ps (ps o)) (rv.ps (ps o))⟩
  | @dck kvs ks vs h hk rv =>
    refine ⟨_, h, trivial, ⟨fun _ => nofun, fun _ _ => nofun⟩, fun o => .dck upd_same hk (rv.ps fun b u e p => ?_)⟩
    rw [upd_ne (fun z => by subst z; rw [h] at e; cases e; exact p)]; exact e
theorem Fr.freeze {T : List (Addr × Str)} {B : Addr → Prop} {H : Hp} {a : Addr} {u : HO} {o : Obj} (h : H a = some u) (mu : Mut (some u)) (nc : NCo u) (hB : B a) : Fr T B H (upd H a (.frz o u)) where
  tabs := tabs_at (.inr ⟨u, h, nc⟩) fun b e => upd_ne e
  keep := fun b w e n p => by
    by_cases z : b = a
    · subst z
      rw [h] at e; cases e
      rcases p with p | p
      · cases u <;> first | exact p.elim | exact mu.elim
      · exact (p hB).elim
    · rw [upd_ne z]; exact e
  dom := fun b q => by
    by_cases z : b = a
    · subst z; rw [upd_same]; exact fun q => nomatch q
    · rw [upd_ne z]; exact q
/-- lock what has come -/
theorem pe_lockIf {e : Expr} {t : TE} (h : PE X e t) : PE X e (fun σ H Q => t σ H fun v H1 => Q v H1 ∨ ∃ a u, v = .ref a ∧ H1 a = some u ∧ Mut (some u) ∧ ∀ o, Q v (upd H1 a (.frz o u))) := by
  refine ⟨fun pins s σ H Q I q => thn (h.run pins s σ H _ I q) fun u s1 ⟨v, H1, I1, r, q1⟩ => ?_⟩
  rcases q1 with q1 | ⟨a, w, rfl, ha, mu, q1⟩
  · exact ⟨v, H1, I1, r, q1⟩
  · obtain ⟨od, I2⟩ := I1.lock ha mu
    exact ⟨_, _, I2, r, q1 od⟩
theorem dx_frz {e : Expr} {f : EV} (h : DX c W X e f) : DX c W X e (frzE f) := by
  refine PE.imp (pe_lockIf h) fun σ H Q ⟨ρ, A, S, hp⟩ => cut S .refl ?_
  unfold frzE at hp
  rw [Out.post_bind] at hp
  refine Out.post_imp hp (fun k ρ1 q v H1 S1 F1 R1 => ?_) fun _ _ q => q
  cases R1 with
  | res R1 =>
    cases R1 with
    | @imm _ d hI => exact .inl (q v H1 S1 F1 (.res (.imm hI)))
    | pair => exact q.elim
    | @new a m ho n =>
      obtain ⟨u, hu, mu, nc, him⟩ := ho.freeze
      refine .inr ⟨a, u, rfl, hu, mu, fun o => ?_⟩
      have nA : ¬ A a := fun z => S.live a z n
      have F2 : Fr c.G.T (fun b => b = a) H1 (upd H1 a (.frz o u)) := Fr.freeze hu mu nc rfl
      have F3 : Fr c.G.T A H (upd H1 a (.frz o u)) := by
        refine ⟨fun b w e nt p => ?_, fun b z => F2.dom b (F1.dom b z), fun t => F2.tabs (F1.tabs t)⟩
        have ne : b ≠ a := fun z => by subst z; rw [n] at e; cases e
        exact F2.keep b w (F1.keep b w e nt p) nt (.inr ne)
      refine q _ _ ⟨S1.len, fun i s e => ?_, S1.inj, S1.inA, fun b z => F2.dom b (S1.live b z), fun b w e nt p => ?_, fun b z => F2.dom b (S1.dom b z), S1.oldA, S1.ownN, S1.borN, S1.bAll, F2.tabs S1.tabs, S1.tabs0⟩ F3 (.res (.imm (him o)))
      · obtain ⟨v', hv', r'⟩ := S1.slot i s e
        refine ⟨v', hv', r'.fr F2 fun m' a' hm hv'' z => ?_⟩
        subst z hv''
        exact nA (S1.inA i _ ⟨hv', s, m', e, hm⟩)
      · by_cases z : b = a
        · subst z
          have := S.dom b
          rw [e] at this
          exact (this (fun q => nomatch q) n).elim
        · exact F2.keep b w (S1.base b w e nt p) nt (.inr z)
  | @«at» i hv =>
    simp only at q
    cases e : ρ1[i]? with
    | none => rw [e] at q; exact q.elim
    | some sl =>
      rw [e] at q
      cases sl with
      | non => exact q.elim
      | imm d => exact q.elim
      | bor m => exact q.elim
      | own m =>
        obtain ⟨a, ⟨ha, own⟩, ho⟩ := S1.is e (m := m) rfl
        rw [hv] at ha; cases ha
        obtain ⟨u, hu, mu, nc, him⟩ := ho.freeze
        refine .inr ⟨a, u, rfl, hu, mu, fun o => ?_⟩
        have hA : A a := S1.inA i a ⟨hv, own⟩
        have hi : i < ρ1.length := (List.getElem?_eq_some_iff.mp e).1
        have F2 : Fr c.G.T (fun b => b = a) H1 (upd H1 a (.frz o u)) := Fr.freeze hu mu nc rfl
        have sub : ∀ {j b}, OwnAt (ρ1.set i (.imm m.toD)) σ j b → OwnAt ρ1 σ j b ∧ j ≠ i := fun {j b} ⟨h1, s', m', h2, h3⟩ => by
          by_cases z : j = i
          · subst z
            rw [List.getElem?_set_self hi] at h2
            cases h2; cases h3
          · rw [List.getElem?_set_ne (Ne.symm z)] at h2
            exact ⟨⟨h1, s', m', h2, h3⟩, z⟩
        refine q _ _ ⟨by rw [List.length_set]; exact S1.len, fun j s' e' => ?_, fun j k b x y => S1.inj j k b (sub x).1 (sub y).1, fun j b x => S1.inA j b (sub x).1, fun b z => F2.dom b (S1.live b z), fun b w e' nt p => ?_, fun b z => F2.dom b (S1.dom b z), S1.oldA, fun j b m' e' h' => ?_, fun j b m' e' h' => ?_, S1.bAll, F2.tabs S1.tabs, S1.tabs0⟩ (F1.trans (F2.mono fun b z => z ▸ hA)) (.res (.imm (him o)))
        · by_cases z : j = i
          · subst z
            rw [List.getElem?_set_self hi] at e'
            cases e'
            exact ⟨_, hv, .imm (him o)⟩
          · rw [List.getElem?_set_ne (Ne.symm z)] at e'
            obtain ⟨v', hv', r'⟩ := S1.slot j s' e'
            refine ⟨v', hv', r'.fr F2 fun m' a' hm hv'' zz => ?_⟩
            subst zz hv''
            exact z (S1.inj j i _ ⟨hv', s', m', e', hm⟩ ⟨hv, own⟩)
        · by_cases z : b = a
          · subst z
            have h0 := S1.ownN i b m e hv
            rw [h0] at e'; cases e'
          · exact F2.keep b w (S1.base b w e' nt p) nt (.inr z)
        · by_cases z : j = i
          · subst z; rw [List.getElem?_set_self hi] at e'; cases e'
          · rw [List.getElem?_set_ne (Ne.symm z)] at e'; exact S1.ownN j b m' e' h'
        · by_cases z : j = i
          · subst z; rw [List.getElem?_set_self hi] at e'; cases e'
          · rw [List.getElem?_set_ne (Ne.symm z)] at e'; exact S1.borN j b m' e' h'

/-! ### two places -/
/-- the value of an operation, by the trees -/
def ofRes (r : Option Res) (ρ : Env) : Out Pk := match r with
  | some r => .ok (.res r) ρ
  | none => .bad
def e2 (g : D → D → Option Res) (f1 f2 : EV) : EV := fun ρ => (f1 ρ).bind fun a ρ1 => (f2 ρ1).bind fun b ρ2 => match a.view ρ2, b.view ρ2 with
  | some x, some y => ofRes (g x y) ρ2
  | _, _ => .bad
def OpG (G : Gm) (r : R2) (g : D → D → Option Res) : Prop := ∀ (H : Hp) (x y : V) (d1 d2 : D) (rs : Res), Vw G H x d1 → Vw G H y d2 → g d1 d2 = some rs →
  ∀ Q : VK, (∀ v H', Fr G.T (fun _ => False) H H' → ResR G H H' v rs → Q v H') → r x y H Q
theorem ofRes_post {r : Option Res} {ρ : Env} {ok : Pk → Env → Prop} {ex : Ex → Env → Prop} (h : (ofRes r ρ).post ok ex) : ∃ rs, r = some rs ∧ ok (.res rs) ρ := by
  cases r with
  | none => exact h.elim
  | some rs => exact ⟨rs, rfl, h⟩
/-- behind an operation that lays at most new things -/
theorem fin1 {R : VK} {rs : Res} {v : V} {H1 H' : Hp} (q : kP c A H0 σ R (.res rs) ρ) (S : Stt c A ρ σ H1) (F : Fr c.G.T A H0 H1) (F1 : Fr c.G.T (fun _ => False) H1 H') (r : ResR c.G H1 H' v rs) : R v H' :=
  q v H' (S.grow F1) (F.trans (F1.mono fun _ z => z.elim)) (.res (r.old F))
theorem use2 {r : R2} {g : D → D → Option Res} (hg : OpG c.G r g) {f1 f2 : EV} {Q : VK} (h : tP c W (e2 g f1 f2) σ H Q) : tOp r (tP c W f1) (tP c W f2) σ H Q := by
  obtain ⟨ρ, A, S, h⟩ := h
  refine cut S .refl ?_
  unfold e2 at h
  rw [Out.post_bind] at h
  refine Out.post_imp h (fun k1 ρ1 q v1 H1 S1 F1 R1 => cut S1 F1 ?_) fun _ _ q => q
  rw [Out.post_bind] at q
  refine Out.post_imp q (fun k2 ρ2 q v2 H2 S2 F2 R2 => ?_) fun _ _ q => q
  split at q
  · rename_i x y e1 e2
    obtain ⟨rs, e3, q⟩ := ofRes_post q
    exact hg H2 v1 v2 x y rs ((R1.fr F2 S.live).view S2 e1) (R2.view S2 e2) e3 Q fun v H' F' r' => fin1 q S2 (F1.trans F2) F' r'
  · exact q.elim
theorem dx_op2 {op : Operator} {r : R2} {g : D → D → Option Res} (ho : OpR X (binaryOp op) r) (hg : OpG c.G r g) {a b : Expr} {f1 f2 : EV} {pos : Pos} (ha : DX c W X a f1) (hb : DX c W X b f2) : DX c W X (.BinOp a op b pos) (e2 g f1 f2) :=
  PE.imp (pe_op ho ha hb) fun _ _ _ h => use2 hg h
theorem dx_cmp {op : CmpOp} {r : R2} {g : D → D → Option Res} (ho : OpR X (compareOp op) r) (hg : OpG c.G r g) {a b : Expr} {f1 f2 : EV} {pos : Pos} (ha : DX c W X a f1) (hb : DX c W X b f2) (hm : behindInMarks op b = false) : DX c W X (.Compare a [op] [b] pos) (e2 g f1 f2) :=
  PE.imp (pe_cmpR ho ha hb hm) fun _ _ _ h => use2 hg h
end
end DL
namespace DL
open PySem PySem.Spec PyProof.Rows L2

/-! ### trees as data -/
mutual
def D.py : D → Option PyData
  | .non => some .none
  | .bl b => some (.bool b)
  | .int i => some (.int i)
  | .str cs => some (.str (cstr cs))
  | .tup ds => (D.pys ds).map .tuple
  | .lst ds => (D.pys ds).map .list
  | .dct _ _ => none
  | .dcn _ _ => none
  | .seq _ => none
  | .fn _ => none
def D.pys : List D → Option (List PyData)
  | [] => some []
  | d :: ds => (D.py d).bind fun p => (D.pys ds).map fun ps => p :: ps
end
mutual
def D.dep : D → Nat
  | .non => 0
  | .bl _ => 0
  | .int _ => 0
  | .str _ => 0
  | .tup ds => D.deps ds + 1
  | .lst ds => D.deps ds + 1
  | .dct _ _ => 1000
  | .dcn _ _ => 1000
  | .seq _ => 1000
  | .fn _ => 1000
def D.deps : List D → Nat
  | [] => 0
  | d :: ds => max (D.dep d) (D.deps ds)
end
mutual
def D.eqv : D → D → Bool
  | .non, .non => true
  | .bl a, .bl b => a == b
  | .bl a, .int j => (if a then 1 else 0) == j
  | .int i, .bl b => i == (if b then 1 else 0)
  | .int i, .int j => i == j
  | .str a, .str b => a == b
  | .tup a, .tup b => D.eqvs a b
  | .lst a, .lst b => D.eqvs a b
  | _, _ => false
def D.eqvs : List D → List D → Bool
  | [], [] => true
  | d :: ds, e :: es => D.eqv d e && D.eqvs ds es
  | _, _ => false
end
theorem cstr_beq (a b : List Nat) : (cstr a == cstr b) = (a == b) := by
  by_cases h : a = b
  · subst h; simp
  · rw [beq_eq_false_iff_ne.mpr h]
    exact beq_eq_false_iff_ne.mpr fun e => h (cstr_inj e)
mutual
theorem D.py_of : ∀ (d : D), d.dep ≤ 64 → ∃ p, d.py = some p ∧ p.depth = d.dep
  | .non, _ => ⟨_, rfl, rfl⟩
  | .bl _, _ => ⟨_, rfl, rfl⟩
  | .int _, _ => ⟨_, rfl, rfl⟩
  | .str _, _ => ⟨_, rfl, rfl⟩
  | .tup ds, h => by
    have h' : D.deps ds + 1 ≤ 64 := h
    obtain ⟨ps, e, q⟩ := D.pys_of ds (by omega)
    exact ⟨.tuple ps, by simp [D.py, e], by simp [PyData.depth, D.dep, q]⟩
  | .lst ds, h => by
    have h' : D.deps ds + 1 ≤ 64 := h
    obtain ⟨ps, e, q⟩ := D.pys_of ds (by omega)
    exact ⟨.list ps, by simp [D.py, e], by simp [PyData.depth, D.dep, q]⟩
  | .dct _ _, h => by simp [D.dep] at h
  | .dcn _ _, h => by simp [D.dep] at h
  | .seq _, h => by simp [D.dep] at h
  | .fn _, h => by simp [D.dep] at h
theorem D.pys_of : ∀ (ds : List D), D.deps ds ≤ 64 → ∃ ps, D.pys ds = some ps ∧ PyData.depthAll ps = D.deps ds
  | [], _ => ⟨[], rfl, rfl⟩
  | d :: ds, h => by
    have h' : max (D.dep d) (D.deps ds) ≤ 64 := h
    obtain ⟨p, e, q⟩ := D.py_of d (by omega)
    obtain ⟨ps, es, qs⟩ := D.pys_of ds (by omega)
    exact ⟨p :: ps, by simp [D.pys, e, es], by simp [PyData.depthAll, D.deps, q, qs]⟩
end
mutual
theorem D.eqv_py : ∀ (d e : D) (p q : PyData), d.py = some p → e.py = some q → PyData.eqv p q = D.eqv d e
  | .tup a, .tup b, p, q, h1, h2 => by
    simp only [D.py, Option.map_eq_some_iff] at h1 h2
    obtain ⟨ps, e1, rfl⟩ := h1
    obtain ⟨qs, e2, rfl⟩ := h2
    simp only [PyData.eqv, D.eqv]
    exact D.eqvs_py a b ps qs e1 e2
  | .lst a, .lst b, p, q, h1, h2 => by
    simp only [D.py, Option.map_eq_some_iff] at h1 h2
    obtain ⟨ps, e1, rfl⟩ := h1
    obtain ⟨qs, e2, rfl⟩ := h2
    simp only [PyData.eqv, D.eqv]
    exact D.eqvs_py a b ps qs e1 e2
  | .str a, .str b, p, q, h1, h2 => by
    simp only [D.py, Option.some.injEq] at h1 h2
    subst h1; subst h2
    simp only [PyData.eqv, D.eqv]
    exact cstr_beq a b
  | .non, e, p, q, h1, h2 => by
    cases e <;> simp only [D.py, Option.some.injEq, Option.map_eq_some_iff] at h1 h2 <;> first | (subst h1; subst h2; simp [PyData.eqv, D.eqv]) | (subst h1; obtain ⟨_, _, rfl⟩ := h2; simp [PyData.eqv, D.eqv]) | cases h2
  | .bl _, e, p, q, h1, h2 => by
    cases e <;> simp only [D.py, Option.some.injEq, Option.map_eq_some_iff] at h1 h2 <;> first | (subst h1; subst h2; simp [PyData.eqv, D.eqv]) | (subst h1; obtain ⟨_, _, rfl⟩ := h2; simp [PyData.eqv, D.eqv]) | cases h2
  | .int _, e, p, q, h1, h2 => by
    cases e <;> simp only [D.py, Option.some.injEq, Option.map_eq_some_iff] at h1 h2 <;> first | (subst h1; subst h2; simp [PyData.eqv, D.eqv]) | (subst h1; obtain ⟨_, _, rfl⟩ := h2; simp [PyData.eqv, D.eqv]) | cases h2
  | .str _, .non, p, q, h1, h2 | .str _, .bl _, p, q, h1, h2 | .str _, .int _, p, q, h1, h2 | .str _, .tup _, p, q, h1, h2 | .str _, .lst _, p, q, h1, h2 | .str _, .dct _ _, p, q, h1, h2 | .str _, .dcn _ _, p, q, h1, h2 | .str _, .seq _, p, q, h1, h2 | .str _, .fn _, p, q, h1, h2 => by
    simp only [D.py, Option.some.injEq, Option.map_eq_some_iff] at h1 h2 <;> first | (subst h1; subst h2; simp [PyData.eqv, D.eqv]) | (subst h1; obtain ⟨_, _, rfl⟩ := h2; simp [PyData.eqv, D.eqv]) | cases h2
  | .tup _, .non, p, q, h1, h2 | .tup _, .bl _, p, q, h1, h2 | .tup _, .int _, p, q, h1, h2 | .tup _, .str _, p, q, h1, h2 | .tup _, .lst _, p, q, h1, h2 | .tup _, .dct _ _, p, q, h1, h2 | .tup _, .dcn _ _, p, q, h1, h2 | .tup _, .seq _, p, q, h1, h2 | .tup _, .fn _, p, q, h1, h2 => by
    simp only [D.py, Option.some.injEq, Option.map_eq_some_iff] at h1 h2 <;> first | (obtain ⟨_, _, rfl⟩ := h1; subst h2; simp [PyData.eqv, D.eqv]) | (obtain ⟨_, _, rfl⟩ := h1; obtain ⟨_, _, rfl⟩ := h2; simp [PyData.eqv, D.eqv]) | cases h2
  | .lst _, .non, p, q, h1, h2 | .lst _, .bl _, p, q, h1, h2 | .lst _, .int _, p, q, h1, h2 | .lst _, .str _, p, q, h1, h2 | .lst _, .tup _, p, q, h1, h2 | .lst _, .dct _ _, p, q, h1, h2 | .lst _, .dcn _ _, p, q, h1, h2 | .lst _, .seq _, p, q, h1, h2 | .lst _, .fn _, p, q, h1, h2 => by
    simp only [D.py, Option.some.injEq, Option.map_eq_some_iff] at h1 h2 <;> first | (obtain ⟨_, _, rfl⟩ := h1; subst h2; simp [PyData.eqv, D.eqv]) | (obtain ⟨_, _, rfl⟩ := h1; obtain ⟨_, _, rfl⟩ := h2; simp [PyData.eqv, D.eqv]) | cases h2
  | .dct _ _, _, _, _, h1, _ => nomatch h1
  | .dcn _ _, _, _, _, h1, _ => nomatch h1
  | .seq _, _, _, _, h1, _ => nomatch h1
  | .fn _, _, _, _, h1, _ => nomatch h1
theorem D.eqvs_py : ∀ (ds es : List D) (ps qs : List PyData), D.pys ds = some ps → D.pys es = some qs → PyData.eqvAll ps qs = D.eqvs ds es
  | [], [], ps, qs, h1, h2 => by
    simp only [D.pys, Option.some.injEq] at h1 h2
    subst h1; subst h2; rfl
  | d :: ds, e :: es, ps, qs, h1, h2 => by
    simp only [D.pys, Option.bind_eq_some_iff, Option.map_eq_some_iff] at h1 h2
    obtain ⟨p, e1, ps', e2, rfl⟩ := h1
    obtain ⟨q, f1, qs', f2, rfl⟩ := h2
    simp only [PyData.eqvAll, D.eqvs, D.eqv_py d e p q e1 f1, D.eqvs_py ds es ps' qs' e2 f2]
  | [], e :: es, ps, qs, h1, h2 => by
    simp only [D.pys, Option.some.injEq, Option.bind_eq_some_iff, Option.map_eq_some_iff] at h1 h2
    obtain ⟨q, f1, qs', f2, rfl⟩ := h2
    subst h1; rfl
  | d :: ds, [], ps, qs, h1, h2 => by
    simp only [D.pys, Option.some.injEq, Option.bind_eq_some_iff, Option.map_eq_some_iff] at h1 h2
    obtain ⟨q, f1, qs', f2, rfl⟩ := h1
    subst h2; rfl
end

section
variable {G : Gm} {H : Hp}
mutual
theorem Imm.dp : ∀ {v : V} {d : D} {p : PyData}, Imm G H v d → d.py = some p → Dp G.K H v p ∧ p.canLay0 = true
  | _, _, p, .non, h => by cases h; exact ⟨.non, rfl⟩
  | _, _, p, .bl b, h => by cases h; exact ⟨.bl b, rfl⟩
  | _, _, p, .int i, h => by cases h; exact ⟨.int i, rfl⟩
  | _, _, p, .str cs h1 h2, h => by
    cases h
    refine ⟨.str _, ?_⟩
    simp only [PyData.canLay0, PyData.strOk, cstr]
    simpa using h1
  | _, _, p, .tup ht r _, h => by
    simp only [D.py, Option.map_eq_some_iff] at h
    obtain ⟨ps, e, rfl⟩ := h
    obtain ⟨h1, h2⟩ := ImmL.dp r e
    exact ⟨.tup ht.sq h1, by simpa [PyData.canLay0] using h2⟩
  | _, _, p, .lst ht r _, h => by
    simp only [D.py, Option.map_eq_some_iff] at h
    obtain ⟨ps, e, rfl⟩ := h
    obtain ⟨h1, h2⟩ := ImmL.dp r e
    exact ⟨.lst (.inl (.inr ⟨_, ht⟩)) h1, by simpa [PyData.canLay0] using h2⟩
  | _, _, _, .dcn .., h => nomatch h
  | _, _, _, .dck .., h => nomatch h
  | _, _, _, .kdc .., h => nomatch h
  | _, _, _, .seq .., h => nomatch h
  | _, _, _, .fn .., h => nomatch h
theorem ImmL.dp : ∀ {vs : List V} {ds : List D} {ps : List PyData}, ImmL G H vs ds → D.pys ds = some ps → DpAll G.K H vs ps ∧ PyData.canLayAll0 ps = true
  | _, _, ps, .nil, h => by cases h; exact ⟨.nil, rfl⟩
  | _, _, ps, .cons hv t, h => by
    simp only [D.pys, Option.bind_eq_some_iff, Option.map_eq_some_iff] at h
    obtain ⟨p, e, ps', e', rfl⟩ := h
    obtain ⟨h1, h2⟩ := Imm.dp hv e
    obtain ⟨h3, h4⟩ := ImmL.dp t e'
    exact ⟨.cons h1 h3, by simp [PyData.canLayAll0, h2, h4]⟩
end
theorem Vw.dp {v : V} {d : D} {p : PyData} (h : Vw G H v d) (e : d.py = some p) : Dp G.K H v p ∧ p.canLay0 = true := by
  cases h with
  | imm h => exact h.dp e
  | obj h =>
    cases h with
    | lst h r hl =>
      simp only [M.toD, D.py, Option.map_eq_some_iff] at e
      obtain ⟨ps, e, rfl⟩ := e
      obtain ⟨h1, h2⟩ := r.dp e
      exact ⟨.lst (SqL.of h) h1, by simpa [PyData.canLay0] using h2⟩
    | dcn => cases e
    | dck => cases e
theorem Vw.shaped {v : V} {d : D} (h : Vw G H v d) (e : d.dep ≤ 64) : ∃ p, d.py = some p ∧ Dp G.K H v p ∧ SeqAt.shaped p = true := by
  obtain ⟨p, hp, hd⟩ := D.py_of d e
  obtain ⟨h1, h2⟩ := h.dp hp
  exact ⟨p, hp, h1, by simp [SeqAt.shaped, h2, hd, e]⟩
theorem Vw.lst {v : V} {ds : List D} (h : Vw G H v (.lst ds)) : ∃ a xs, v = .ref a ∧ Rd H a (.lst xs) ∧ ImmL G H xs ds ∧ ds.length ≤ sizeLine := by
  generalize e : D.lst ds = d at h
  cases h with
  | imm h => cases h <;> first | (cases e; exact ⟨_, _, rfl, .inr ⟨_, by assumption⟩, by assumption, by assumption⟩) | cases e
  | obj h =>
    cases h with
    | lst h r hl => cases e; exact ⟨_, _, rfl, .inl h, r, hl⟩
    | dcn => cases e
    | dck => cases e
theorem Vw.tup {v : V} {ds : List D} (h : Vw G H v (.tup ds)) : ∃ a xs, v = .ref a ∧ TupA G.K H a xs ∧ ImmL G H xs ds ∧ ds.length ≤ sizeLine := by
  generalize e : D.tup ds = d at h
  cases h with
  | imm h => cases h <;> first | (cases e; exact ⟨_, _, rfl, by assumption, by assumption, by assumption⟩) | cases e
  | obj h =>
    cases h with
    | lst h r hl => cases e
    | dcn => cases e
    | dck => cases e
theorem Vw.int {v : V} {i : Int} (h : Vw G H v (.int i)) : v = .int i := by
  generalize e : D.int i = d at h
  cases h with
  | imm h => cases h <;> first | (cases e; rfl) | cases e
  | obj h => cases h <;> cases e
theorem Vw.bl {v : V} {i : Bool} (h : Vw G H v (.bl i)) : v = .bl i := by
  generalize e : D.bl i = d at h
  cases h with
  | imm h => cases h <;> first | (cases e; rfl) | cases e
  | obj h => cases h <;> cases e
theorem Vw.str {v : V} {cs : List Nat} (h : Vw G H v (.str cs)) : v = .str (cstr cs) ∧ (cs.all (· < 0x110000)) = true ∧ cs.length ≤ sizeLine := by
  generalize e : D.str cs = d at h
  cases h with
  | imm h => cases h <;> first | (cases e; exact ⟨rfl, by assumption, by assumption⟩) | cases e
  | obj h => cases h <;> cases e
theorem Vw.seq {v : V} {ns : List Int} (h : Vw G H v (.seq ns)) : ∃ a, v = .ref a ∧ SeqA G.K H a (ns.map V.int) := by
  generalize e : D.seq ns = d at h
  cases h with
  | imm h => cases h <;> first | (cases e; exact ⟨_, rfl, by assumption⟩) | cases e
  | obj h => cases h <;> cases e
/-- nothing new -/
theorem fin_imm {Q : VK} {rs : Res} {v : V} {d : D} (k : ∀ v H', Fr G.T (fun _ => False) H H' → ResR G H H' v rs → Q v H') (e : rs = .imm d) (h : Imm G H v d) : Q v H := by
  subst e; exact k v H .refl (.imm h)
theorem fin_tup {Q : VK} {rs : Res} {p : Addr} {xs : List V} {ds : List D} (k : ∀ v H', Fr G.T (fun _ => False) H H' → ResR G H H' v rs → Q v H') (e : rs = .imm (.tup ds)) (hp : H p = none) (r : ImmL G H xs ds) (hl : ds.length ≤ sizeLine) : Q (.ref p) (upd H p (.tup xs)) := by
  subst e; exact k _ _ (.new hp) (.imm (.tup (.inl upd_same) (r.ps (Fr.new (T := G.T) (A := fun _ => False) hp).ps) hl))
theorem fin_lst {Q : VK} {rs : Res} {p : Addr} {xs : List V} {ds : List D} (k : ∀ v H', Fr G.T (fun _ => False) H H' → ResR G H H' v rs → Q v H') (e : rs = .new (.lst ds)) (hp : H p = none) (r : ImmL G H xs ds) (hl : ds.length ≤ sizeLine) : Q (.ref p) (upd H p (.lst xs)) := by
  subst e; exact k _ _ (.new hp) (.new (.lst upd_same (r.ps (Fr.new (T := G.T) (A := fun _ => False) hp).ps) hl) hp)
end

/-! ### operators by their rules -/
section
variable {X : Cx} {c : Cn}
theorem OpR.or {f : Value → Value → Sem Value} {r r' : R2} (h : OpR X f r) (h' : OpR X f r') : OpR X f (fun x y H Q => r x y H Q ∨ r' x y H Q) := by
  intro pins s σ H x y v u Q I rx ry q
  rcases q with q | q
  · exact h pins s σ H x y v u Q I rx ry q
  · exact h' pins s σ H x y v u Q I rx ry q
/-- a list that is read, frozen or not -/
theorem rdl {pins : List (Addr × Obj)} {σ : Sg} {H : Hp} {s : Shared} {a : Addr} {xs : List V} (I : Inv X pins σ H s) (h : Rd H a (.lst xs)) :
    ∃ (ys : List Value) (k : Nat), Vals xs ys ∧ xs.length = ys.length ∧ s.heap.get? a = some { cls := .type "list", data := .seq ys.toArray k } := by
  obtain ⟨_, ys, k, r, e⟩ := h.ok I.hok
  exact ⟨ys, k, r, r.length, e⟩
def rCatQ : R2 := fun x y H Q => ∃ a b xs ys, x = .ref a ∧ y = .ref b ∧ Rd H a (.lst xs) ∧ Rd H b (.lst ys) ∧ xs.length + ys.length ≤ sizeLine ∧ ∀ p, H p = none → Q (.ref p) (upd H p (.lst (xs ++ ys)))
theorem op_catQ : OpR X (binaryOp .Add) rCatQ := by
  intro pins s σ H x y v u Q I rx ry ⟨a, b, xs, ys, ex, ey, h1, h2, hl, q⟩
  subst ex; subst ey
  cases rx; cases ry
  obtain ⟨us, n, r, l1, e⟩ := rdl I h1
  obtain ⟨ws, m, r', l2, e'⟩ := rdl I h2
  have sz : us.toArray.size + ws.toArray.size ≤ sizeLine := by simp only [List.size_toArray]; omega
  refine PySem.P.add_list e e' ?_ sz
  rw [List.append_toArray]
  exact ⟨.ref _, _, I.lnew (t' := s.toks) (Vals.append r r') (by simp only [List.length_append]; exact hl), rfl, q _ I.fresh⟩
def addG : D → D → Option Res
  | .int i, .int j => some (.imm (.int (i + j)))
  | .str a, .str b => if a.length + b.length ≤ sizeLine then some (.imm (.str (a ++ b))) else none
  | .tup a, .tup b => if a.length + b.length ≤ sizeLine then some (.imm (.tup (a ++ b))) else none
  | .lst a, .lst b => if a.length + b.length ≤ sizeLine then some (.new (.lst (a ++ b))) else none
  | _, _ => none
theorem op_addG : OpR X (binaryOp .Add) (fun x y H Q => rI0 (fun i j => .int (i + j)) x y H Q ∨ (∃ i j, x = .str i ∧ y = .str j ∧ i.length + j.length ≤ sizeLine ∧ Q (.str (i ++ j)) H) ∨ rCatA X.K x y H Q ∨ rCatQ x y H Q) :=
  op_add.or (op_add_str.or (op_catA.or op_catQ))
theorem cstr_app (a b : List Nat) : cstr a ++ cstr b = cstr (a ++ b) := by
  show (⟨(cstr a).cps ++ (cstr b).cps⟩ : Str) = _
  simp [cstr]
theorem addG_ok (hK : X.K = c.G.K) : OpG c.G (fun x y H Q => rI0 (fun i j => .int (i + j)) x y H Q ∨ (∃ i j, x = .str i ∧ y = .str j ∧ i.length + j.length ≤ sizeLine ∧ Q (.str (i ++ j)) H) ∨ rCatA X.K x y H Q ∨ rCatQ x y H Q) addG := by
  intro H x y d e rs hx hy hg Q k
  unfold addG at hg
  split at hg
  · cases hg
    exact .inl ⟨_, _, hx.int, hy.int, k _ _ .refl (.imm (.int _))⟩
  · split at hg
    · rename_i a b hl
      cases hg
      obtain ⟨e1, h1, l1⟩ := hx.str
      obtain ⟨e2, h2, l2⟩ := hy.str
      refine .inr (.inl ⟨_, _, e1, e2, by rw [cstr_len, cstr_len]; exact hl, ?_⟩)
      rw [cstr_app]
      exact k _ _ .refl (.imm (.str _ (by rw [List.all_append, h1, h2]; rfl) (by rw [List.length_append]; exact hl)))
    · cases hg
  · split at hg
    · rename_i a b hl
      cases hg
      obtain ⟨p, xs, rfl, h1, r1, l1⟩ := hx.tup
      obtain ⟨q, ys, rfl, h2, r2, l2⟩ := hy.tup
      refine .inr (.inr (.inl ⟨p, q, xs, ys, rfl, rfl, hK ▸ h1.sq, hK ▸ h2.sq, by rw [r1.length, r2.length]; exact hl, fun z => ?_, fun z1 z2 => ?_, fun z1 z2 w hw => ?_⟩))
      · subst z; cases r1
        exact k _ _ .refl (.imm (.tup h2 r2 l2))
      · subst z2; cases r2
        simp only [List.append_nil] at k
        exact k _ _ .refl (.imm (.tup h1 r1 l1))
      · exact fin_tup k rfl hw (r1.append r2) (by rw [List.length_append]; exact hl)
    · cases hg
  · split at hg
    · rename_i a b hl
      cases hg
      obtain ⟨p, xs, rfl, h1, r1, l1⟩ := hx.lst
      obtain ⟨q, ys, rfl, h2, r2, l2⟩ := hy.lst
      exact .inr (.inr (.inr ⟨p, q, xs, ys, rfl, rfl, h1, h2, by rw [r1.length, r2.length]; exact hl, fun w hw => fin_lst k rfl hw (r1.append r2) (by rw [List.length_append]; exact hl)⟩))
    · cases hg
  · cases hg

/-- two whole numbers -/
def intG (C : Int → Int → Bool) (g : Int → Int → D) : D → D → Option Res
  | .int i, .int j => if C i j then some (.imm (g i j)) else none
  | _, _ => none
theorem intG_ok {C : Int → Int → Prop} {Cb : Int → Int → Bool} {g : Int → Int → V} {gd : Int → Int → D} (hC : ∀ i j, Cb i j = true → C i j) (hg : ∀ (H : Hp) i j, Imm c.G H (g i j) (gd i j)) : OpG c.G (rI C g) (intG Cb gd) := by
  intro H x y d e rs hx hy h Q k
  unfold intG at h
  split at h
  · split at h
    · rename_i hc
      cases h
      exact ⟨_, _, hx.int, hy.int, hC _ _ hc, k _ _ .refl (.imm (hg _ _ _))⟩
    · cases h
  · cases h
theorem intG_ok0 {g : Int → Int → V} {gd : Int → Int → D} (hg : ∀ (H : Hp) i j, Imm c.G H (g i j) (gd i j)) : OpG c.G (rI0 g) (intG (fun _ _ => true) gd) := by
  intro H x y d e rs hx hy h Q k
  unfold intG at h
  split at h
  · cases h
    exact ⟨_, _, hx.int, hy.int, k _ _ .refl (.imm (hg _ _ _))⟩
  · cases h
abbrev subG : D → D → Option Res := intG (fun _ _ => true) fun i j => .int (i - j)
abbrev fdivG : D → D → Option Res := intG (fun _ j => decide (j ≠ 0 ∧ j.natAbs < 1073741824)) fun i j => .int (i.fdiv j)
abbrev modG : D → D → Option Res := intG (fun _ j => decide (j ≠ 0)) fun i j => .int (i.fmod j)
abbrev powG : D → D → Option Res := intG (fun i j => decide (0 ≤ j ∧ j ≤ 1000000 ∧ i.natAbs < 2 ^ 64)) fun i j => .int (i ^ j.toNat)
abbrev ltG : D → D → Option Res := intG (fun _ _ => true) fun i j => .bl (decide (i < j))
abbrev leG : D → D → Option Res := intG (fun _ _ => true) fun i j => .bl (decide (i ≤ j))
abbrev gtG : D → D → Option Res := intG (fun _ _ => true) fun i j => .bl (decide (j < i))
abbrev geG : D → D → Option Res := intG (fun _ _ => true) fun i j => .bl (decide (j ≤ i))
def eqG (d e : D) : Option Res := if d.dep ≤ 64 ∧ e.dep ≤ 64 then some (.imm (.bl (D.eqv d e))) else none
def neG (d e : D) : Option Res := if d.dep ≤ 64 ∧ e.dep ≤ 64 then some (.imm (.bl (!D.eqv d e))) else none
theorem eqG_ok : OpG c.G (rEqD c.G.K) eqG := by
  intro H x y d e rs hx hy h Q k
  unfold eqG at h
  split at h
  · rename_i hd
    cases h
    obtain ⟨p, hp, h1, s1⟩ := hx.shaped hd.1
    obtain ⟨q, hq, h2, s2⟩ := hy.shaped hd.2
    refine ⟨p, q, h1, h2, s1, s2, ?_⟩
    rw [D.eqv_py d e p q hp hq]
    exact k _ _ .refl (.imm (.bl _))
  · cases h
theorem neG_ok : OpG c.G (rNeD c.G.K) neG := by
  intro H x y d e rs hx hy h Q k
  unfold neG at h
  split at h
  · rename_i hd
    cases h
    obtain ⟨p, hp, h1, s1⟩ := hx.shaped hd.1
    obtain ⟨q, hq, h2, s2⟩ := hy.shaped hd.2
    refine ⟨p, q, h1, h2, s1, s2, ?_⟩
    rw [D.eqv_py d e p q hp hq]
    exact k _ _ .refl (.imm (.bl _))
  · cases h
end
end DL
namespace DL
open PySem PySem.Spec PyProof.Rows L2

/-! ### argument lists -/
abbrev AV := Env → Out (List Pk)
def aNil : AV := fun ρ => .ok [] ρ
def aCons (f : EV) (g : AV) : AV := fun ρ => (f ρ).bind fun k ρ1 => (g ρ1).bind fun ks ρ2 => .ok (k :: ks) ρ2
inductive PkL (c : Cn) (A : Addr → Prop) (H0 H : Hp) (σ : Sg) : List V → List Pk → Prop
  | nil : PkL c A H0 H σ [] []
  | cons {v : V} {k : Pk} {vs : List V} {ks : List Pk} (h : PkR c A H0 H σ v k) (t : PkL c A H0 H σ vs ks) : PkL c A H0 H σ (v :: vs) (k :: ks)
inductive VwL (G : Gm) (H : Hp) : List V → List D → Prop
  | nil : VwL G H [] []
  | cons {v : V} {d : D} {vs : List V} {ds : List D} (h : Vw G H v d) (t : VwL G H vs ds) : VwL G H (v :: vs) (d :: ds)
def views (ρ : Env) : List Pk → Option (List D)
  | [] => some []
  | k :: ks => match k.view ρ, views ρ ks with
    | some d, some ds => some (d :: ds)
    | _, _ => none
section
variable {c : Cn} {W : Wx} {X : Cx} {A : Addr → Prop} {ρ : Env} {σ : Sg} {H0 H H' H1 : Hp}
theorem PkL.fr : ∀ {vs : List V} {ks : List Pk}, PkL c A H0 H σ vs ks → Fr c.G.T A H H' → (∀ a, A a → H0 a ≠ none) → PkL c A H0 H' σ vs ks
  | _, _, .nil, _, _ => .nil
  | _, _, .cons h t, f, l => .cons (h.fr f l) (t.fr f l)
theorem PkL.old : ∀ {vs : List V} {ks : List Pk}, PkL c A H1 H σ vs ks → Fr c.G.T A H0 H1 → PkL c A H0 H σ vs ks
  | _, _, .nil, _ => .nil
  | _, _, .cons h t, f => .cons (h.old f) (t.old f)
theorem PkL.view (S : Stt c A ρ σ H) : ∀ {vs : List V} {ks : List Pk} {ds : List D}, PkL c A H0 H σ vs ks → views ρ ks = some ds → VwL c.G H vs ds
  | _, _, _, .nil, e => by cases e; exact .nil
  | _, _, _, .cons (k := k) (ks := ks) h t, e => by
    unfold views at e
    cases h1 : k.view ρ with
    | none => simp [h1] at e
    | some d =>
      cases h2 : views ρ ks with
      | none => simp [h1, h2] at e
      | some ds => simp [h1, h2] at e; subst e; exact .cons (h.view S h1) (t.view S h2)
def kA (c : Cn) (A : Addr → Prop) (H : Hp) (σ : Sg) (Q : List V → Hp → Prop) : List Pk → Env → Prop := fun ks ρ' => ∀ vs H', Stt c A ρ' σ H' → Fr c.G.T A H H' → PkL c A H H' σ vs ks → Q vs H'
def tA (c : Cn) (W : Wx) (f : AV) : TA := fun σ H Q => ∃ ρ A, Stt c A ρ σ H ∧ (f ρ).post (kA c A H σ Q) (kX c W A H σ)
def DA (c : Cn) (W : Wx) (X : Cx) (es : List Expr) (f : AV) : Prop := PA X es (tA c W f)
theorem PA.imp {X : Cx} {es : List Expr} {t t' : TA} (h : PA X es t) (i : ∀ σ H Q, t' σ H Q → t σ H Q) : PA X es t' := ⟨fun pos pins s σ H Q I q => h.run pos pins s σ H Q I (i _ _ _ q)⟩
theorem cutA {f : AV} {R : List V → Hp → Prop} (S : Stt c A ρ σ H) (F : Fr c.G.T A H0 H) (h : (f ρ).post (kA c A H σ R) (kX c W A H0 σ)) : tA c W f σ H R :=
  ⟨ρ, A, S, Out.post_imp h (fun k ρ1 q => q) fun x ρ1 q cls d H1 S1 F1 E1 => q cls d H1 S1 (F.trans F1) E1⟩
theorem da_nil : DA c W X [] aNil := PA.imp pa_nil fun σ H Q ⟨ρ, A, S, h⟩ => h [] H S .refl .nil
theorem da_cons {e : Expr} {es : List Expr} {f : EV} {g : AV} (ha : DX c W X e f) (hr : DA c W X es g) (hs : starEach (e :: es) X.env = (false, eval e X.env) :: starEach es X.env := by rfl) : DA c W X (e :: es) (aCons f g) := by
  refine PA.imp (pa_cons ha hr hs) fun σ H Q ⟨ρ, A, S, h⟩ => cut S .refl ?_
  unfold aCons at h
  rw [Out.post_bind] at h
  refine Out.post_imp h (fun k ρ1 q v H1 S1 F1 R1 => cutA S1 F1 ?_) fun _ _ q => q
  rw [Out.post_bind] at q
  refine Out.post_imp q (fun ks ρ2 q vs H2 S2 F2 R2 => ?_) fun _ _ q => q
  exact q (v :: vs) H2 S2 (F1.trans F2) (.cons (R1.fr F2 S.live) (R2.old F1))

/-! ### calls of what is built in -/
def eB (g : List D → Option Res) (f : AV) : EV := fun ρ => (f ρ).bind fun ks ρ1 => match views ρ1 ks with
  | some ds => ofRes (g ds) ρ1
  | none => .bad
abbrev RB := List V → Hp → VK → Prop
def CallG (G : Gm) (r : RB) (g : List D → Option Res) : Prop := ∀ (H : Hp) (xs : List V) (ds : List D) (rs : Res), VwL G H xs ds → g ds = some rs →
  ∀ Q : VK, (∀ v H', Fr G.T (fun _ => False) H H' → ResR G H H' v rs → Q v H') → r xs H Q
theorem useB {r : RB} {g : List D → Option Res} (hg : CallG c.G r g) {f : AV} {Q : VK} (h : tP c W (eB g f) σ H Q) : tCB r (tA c W f) σ H Q := by
  obtain ⟨ρ, A, S, h⟩ := h
  refine cutA S .refl ?_
  unfold eB at h
  rw [Out.post_bind] at h
  refine Out.post_imp h (fun ks ρ1 q vs H1 S1 F1 R1 => ?_) fun _ _ q => q
  split at q
  · rename_i ds e
    obtain ⟨rs, e3, q⟩ := ofRes_post q
    exact hg H1 vs ds rs (R1.view S1 e) e3 Q fun v H' F' r' => fin1 q S1 F1 F' r'
  · exact q.elim
theorem dx_callB {x : Str} {p pos : Pos} {e : Expr} {es : List Expr} {id : String} {r : RB} {g : List D → Option Res} {f : AV} (hc : CallR X (.builtin id) r) (hg : CallG c.G r g) (hx : Gl X x) (hm : X.mg x = none) (hv : bootBuiltins x = some (.builtin id)) (ha : DA c W X (e :: es) f)
    (hn : x ≠ "__name__" := by decide) (hdb : (x == ("__debug__" : Str)) = false := by decide) (he : starEach (e :: es) X.env = (false, eval e X.env) :: starEach es X.env := by rfl) (hpl : (backTo pos (starEach es X.env)).any (·.1) = false := by rfl) :
    DX c W X (.Call (.Name x p) (e :: es) [] pos) (eB g f) := PE.imp (pe_callB hc hx hm hv ha hn hdb he hpl) fun _ _ _ h => useB hg h
theorem dx_callTy {x : Str} {p pos : Pos} {e : Expr} {es : List Expr} {T : String} {r : RB} {g : List D → Option Res} {f : AV} (hc : CallR X (.type T) r) (hg : CallG c.G r g) (hx : Gl X x) (hm : X.mg x = none) (hv : bootBuiltins x = some (.type T)) (ha : DA c W X (e :: es) f)
    (hn : x ≠ "__name__" := by decide) (hdb : (x == ("__debug__" : Str)) = false := by decide) (he : starEach (e :: es) X.env = (false, eval e X.env) :: starEach es X.env := by rfl) (hpl : (backTo pos (starEach es X.env)).any (·.1) = false := by rfl) :
    DX c W X (.Call (.Name x p) (e :: es) [] pos) (eB g f) := PE.imp (pe_callTy hc hx hm hv ha hn hdb he hpl) fun _ _ _ h => useB hg h
theorem VwL.one {xs : List V} {d : D} (h : VwL c.G H xs [d]) : ∃ x, xs = [x] ∧ Vw c.G H x d := by
  cases h with | cons h t => cases t; exact ⟨_, rfl, h⟩
theorem VwL.two {xs : List V} {d e : D} (h : VwL c.G H xs [d, e]) : ∃ x y, xs = [x, y] ∧ Vw c.G H x d ∧ Vw c.G H y e := by
  cases h with | cons h t => cases t with | cons h' t => cases t; exact ⟨_, _, rfl, h, h'⟩

def lenG : List D → Option Res
  | [.str cs] => some (.imm (.int cs.length))
  | [.lst ds] => some (.imm (.int ds.length))
  | [.tup ds] => some (.imm (.int ds.length))
  | [.seq ns] => some (.imm (.int ns.length))
  | _ => none
theorem lenG_ok (hK : X.K = c.G.K) : CallG c.G (fun xs H Q => ∃ x n, xs = [x] ∧ LenV X.K x H n ∧ Q (.int n) H) lenG := by
  intro H xs ds rs hv hg Q k
  unfold lenG at hg
  split at hg
  · cases hg
    obtain ⟨x, rfl, h⟩ := hv.one
    obtain ⟨rfl, h1, h2⟩ := h.str
    refine ⟨_, _, rfl, ⟨by rw [cstr_len]; exact h2, rfl⟩, ?_⟩
    rw [cstr_len]
    exact k _ _ .refl (.imm (.int _))
  · cases hg
    obtain ⟨x, rfl, h⟩ := hv.one
    obtain ⟨a, xs, rfl, h1, h2, _⟩ := h.lst
    refine ⟨_, _, rfl, .inl ⟨xs, .inl h1, rfl⟩, ?_⟩
    rw [h2.length]
    exact k _ _ .refl (.imm (.int _))
  · cases hg
    obtain ⟨x, rfl, h⟩ := hv.one
    obtain ⟨a, xs, rfl, h1, h2, _⟩ := h.tup
    refine ⟨_, _, rfl, .inr ⟨xs, hK ▸ h1.sq, rfl⟩, ?_⟩
    rw [h2.length]
    exact k _ _ .refl (.imm (.int _))
  · cases hg
    obtain ⟨x, rfl, h⟩ := hv.one
    obtain ⟨a, rfl, h1⟩ := h.seq
    refine ⟨_, _, rfl, .inl ⟨_, hK ▸ h1.sq, rfl⟩, ?_⟩
    rw [List.length_map]
    exact k _ _ .refl (.imm (.int _))
  · cases hg
def intG1 : List D → Option Res
  | [.int i] => some (.imm (.int i))
  | [.bl b] => some (.imm (.int (if b then 1 else 0)))
  | _ => none
theorem intG1_ok : CallG c.G (fun xs H Q => (∃ i, xs = [.int i] ∧ Q (.int i) H) ∨ ∃ k, xs = [.bl k] ∧ Q (.int (if k then 1 else 0)) H) intG1 := by
  intro H xs ds rs hv hg Q k
  unfold intG1 at hg
  split at hg
  · cases hg
    obtain ⟨x, rfl, h⟩ := hv.one
    obtain rfl := h.int
    exact .inl ⟨_, rfl, k _ _ .refl (.imm (.int _))⟩
  · cases hg
    obtain ⟨x, rfl, h⟩ := hv.one
    obtain rfl := h.bl
    exact .inr ⟨_, rfl, k _ _ .refl (.imm (.int _))⟩
  · cases hg
def max2G : List D → Option Res
  | [.int i, .int j] => some (.imm (.int (if j > i then j else i)))
  | _ => none
def min2G : List D → Option Res
  | [.int i, .int j] => some (.imm (.int (if j < i then j else i)))
  | _ => none
theorem max2G_ok : CallG c.G (fun xs H Q => ∃ i j, xs = [.int i, .int j] ∧ Q (.int (if j > i then j else i)) H) max2G := by
  intro H xs ds rs hv hg Q k
  unfold max2G at hg
  split at hg
  · cases hg
    obtain ⟨x, y, rfl, h, h'⟩ := hv.two
    obtain rfl := h.int
    obtain rfl := h'.int
    exact ⟨_, _, rfl, k _ _ .refl (.imm (.int _))⟩
  · cases hg
theorem min2G_ok : CallG c.G (fun xs H Q => ∃ i j, xs = [.int i, .int j] ∧ Q (.int (if j < i then j else i)) H) min2G := by
  intro H xs ds rs hv hg Q k
  unfold min2G at hg
  split at hg
  · cases hg
    obtain ⟨x, y, rfl, h, h'⟩ := hv.two
    obtain rfl := h.int
    obtain rfl := h'.int
    exact ⟨_, _, rfl, k _ _ .refl (.imm (.int _))⟩
  · cases hg
def dBools : List D → Option (List Bool)
  | [] => some []
  | .bl b :: ds => (dBools ds).map (b :: ·)
  | _ => none
def dInts : List D → Option (List Int)
  | [] => some []
  | .int b :: ds => (dInts ds).map (b :: ·)
  | _ => none
theorem dBools_of {G : Gm} : ∀ {ds : List D} {bs : List Bool} {xs : List V}, dBools ds = some bs → ImmL G H xs ds → xs = bs.map V.bl
  | [], bs, xs, e, r => by cases e; cases r; rfl
  | d :: ds, bs, xs, e, r => by
    cases r with
    | cons h t =>
      cases h <;> simp only [dBools, Option.map_eq_some_iff] at e <;> first | (obtain ⟨b', e', rfl⟩ := e; rw [dBools_of e' t]; rfl) | cases e
theorem dInts_of {G : Gm} : ∀ {ds : List D} {bs : List Int} {xs : List V}, dInts ds = some bs → ImmL G H xs ds → xs = bs.map V.int
  | [], bs, xs, e, r => by cases e; cases r; rfl
  | d :: ds, bs, xs, e, r => by
    cases r with
    | cons h t =>
      cases h <;> simp only [dInts, Option.map_eq_some_iff] at e <;> first | (obtain ⟨b', e', rfl⟩ := e; rw [dInts_of e' t]; rfl) | cases e
def allG : List D → Option Res
  | [.lst ds] => (dBools ds).map fun bs => .imm (.bl (bs.all id))
  | _ => none
theorem allG_ok {K : PySem.W.Frag} : CallG c.G (rAll K) allG := by
  intro H xs ds rs hv hg Q k
  unfold allG at hg
  split at hg
  · simp only [Option.map_eq_some_iff] at hg
    obtain ⟨bs, e, rfl⟩ := hg
    obtain ⟨x, rfl, h⟩ := hv.one
    obtain ⟨a, ys, rfl, h1, h2, _⟩ := h.lst
    rw [dBools_of e h2] at h1
    exact ⟨_, bs, rfl, .inl h1, k _ _ .refl (.imm (.bl _))⟩
  · cases hg
def sumG : List D → Option Res
  | [.lst ds] => (dInts ds).map fun bs => .imm (.int bs.sum)
  | _ => none
theorem sumG_ok {K : PySem.W.Frag} : CallG c.G (rSum K) sumG := by
  intro H xs ds rs hv hg Q k
  unfold sumG at hg
  split at hg
  · simp only [Option.map_eq_some_iff] at hg
    obtain ⟨bs, e, rfl⟩ := hg
    obtain ⟨x, rfl, h⟩ := hv.one
    obtain ⟨a, ys, rfl, h1, h2, _⟩ := h.lst
    rw [dInts_of e h2] at h1
    exact ⟨_, bs, rfl, .inl h1, k _ _ .refl (.imm (.int _))⟩
  · cases hg
def listG : List D → Option Res
  | [.lst ds] => some (.new (.lst ds))
  | [.tup ds] => some (.new (.lst ds))
  | _ => none
theorem listG_ok (hK : X.K = c.G.K) : CallG c.G (fun xs H Q => ∃ p ys, xs = [.ref p] ∧ (SqL X.K H p ys ∨ SqT X.K H p ys) ∧ ∀ l, H l = none → Q (.ref l) (upd H l (.lst ys))) listG := by
  intro H xs ds rs hv hg Q k
  unfold listG at hg
  split at hg
  · cases hg
    obtain ⟨x, rfl, h⟩ := hv.one
    obtain ⟨a, ys, rfl, h1, h2, hl⟩ := h.lst
    exact ⟨_, _, rfl, .inl (.inl h1), fun l hp => fin_lst k rfl hp h2 hl⟩
  · cases hg
    obtain ⟨x, rfl, h⟩ := hv.one
    obtain ⟨a, ys, rfl, h1, h2, hl⟩ := h.tup
    exact ⟨_, _, rfl, .inr (hK ▸ h1.sq), fun l hp => fin_lst k rfl hp h2 hl⟩
  · cases hg
def tupleG : List D → Option Res
  | [.lst ds] => some (.imm (.tup ds))
  | [.tup ds] => some (.imm (.tup ds))
  | _ => none
theorem tupleG_ok (hK : X.K = c.G.K) : CallG c.G (fun xs H Q => ∃ p ys, xs = [.ref p] ∧ ((SqL X.K H p ys ∧ ∀ l, H l = none → Q (.ref l) (upd H l (.tup ys))) ∨ (SqT X.K H p ys ∧ Q (.ref p) H))) tupleG := by
  intro H xs ds rs hv hg Q k
  unfold tupleG at hg
  split at hg
  · cases hg
    obtain ⟨x, rfl, h⟩ := hv.one
    obtain ⟨a, ys, rfl, h1, h2, hl⟩ := h.lst
    exact ⟨_, _, rfl, .inl ⟨.inl h1, fun l hp => fin_tup k rfl hp h2 hl⟩⟩
  · cases hg
    obtain ⟨x, rfl, h⟩ := hv.one
    obtain ⟨a, ys, rfl, h1, h2, hl⟩ := h.tup
    exact ⟨_, _, rfl, .inr ⟨hK ▸ h1.sq, k _ _ .refl (.imm (.tup h1 h2 hl))⟩⟩
  · cases hg

/-! ### isinstance -/
def D.isi (T : String) : D → Option Bool
  | .non => kitB "NoneType" T
  | .bl _ => kitB "bool" T
  | .int _ => kitB "int" T
  | .str _ => kitB "str" T
  | .tup _ => kitB "tuple" T
  | .lst _ => kitB "list" T
  | _ => none
theorem Vw.ty {v : V} {d : D} {T : String} {b : Bool} (h : Vw c.G H v d) (e : d.isi T = some b) : ∃ t, TyX c.G.K H v t ∧ PySem.W.kitOne c.G.K t (.type T) = some b := by
  have go : ∀ {n : String}, TyX c.G.K H v (.type n) → kitB n T = some b → ∃ t, TyX c.G.K H v t ∧ PySem.W.kitOne c.G.K t (.type T) = some b := fun h1 h2 => ⟨_, h1, kit_ty h2⟩
  cases h with
  | imm h =>
    cases h with
    | non => exact go (.base .non) e
    | bl b => exact go (.base (.bl b)) e
    | int i => exact go (.base (.int i)) e
    | str cs h1 h2 => exact go (.base (.str _)) e
    | tup h r l =>
      rcases h with h | ⟨o, its, n, h1, h2, h3⟩
      · exact go (.base (.tup h)) e
      · exact go (.kTuple h1 h2) e
    | lst h r l => exact go (.base (.frz h)) e
    | dcn => cases e
    | dck => cases e
    | kdc => cases e
    | seq => cases e
    | fn => cases e
  | obj h =>
    cases h with
    | lst h r l => exact go (.base (.lst h)) e
    | dcn => cases e
    | dck => cases e
def eIsi (T : String) (f : EV) : EV := fun ρ => (f ρ).bind fun k ρ1 => match k.view ρ1 with
  | some d => ofRes ((d.isi T).map fun b => .imm (.bl b)) ρ1
  | none => .bad
theorem dx_isi (T : String) {x y : Str} {p q pos : Pos} {e : Expr} {f : EV} (hK : X.K = c.G.K) (hx : Gl X x) (hm : X.mg x = none) (hv : bootBuiltins x = some (.builtin "isinstance")) (hy : Gl X y) (hmy : X.mg y = none) (hvy : bootBuiltins y = some (.type T)) (ha : DX c W X e f)
    (hn : x ≠ "__name__" := by decide) (hdb : (x == ("__debug__" : Str)) = false := by decide) (hny : y ≠ "__name__" := by decide) (hdby : (y == ("__debug__" : Str)) = false := by decide)
    (hs : starEach [e, .Name y q] X.env = (false, eval e X.env) :: starEach [.Name y q] X.env := by rfl) : DX c W X (.Call (.Name x p) [e, .Name y q] [] pos) (eIsi T f) := by
  refine PE.imp (pe_callB call_isi hx hm hv (pa_cons ha (pa_cons (pe_bltn hy hmy hvy (v := .ty T) rfl hny hdby) pa_nil) hs) hn hdb hs) fun σ H Q ⟨ρ, A, S, h⟩ => cut S .refl ?_
  unfold eIsi at h
  rw [Out.post_bind] at h
  refine Out.post_imp h (fun k ρ1 q v H1 S1 F1 R1 => ?_) fun _ _ q => q
  split at q
  · rename_i d e
    obtain ⟨rs, e3, q⟩ := ofRes_post q
    simp only [Option.map_eq_some_iff] at e3
    obtain ⟨b, e4, rfl⟩ := e3
    obtain ⟨t, h1, h2⟩ := (R1.view S1 e).ty e4
    exact ⟨v, .ty T, t, .type T, b, rfl, .ty T, hK ▸ h1, hK ▸ h2, fin1 q S1 F1 .refl (.imm (.bl b))⟩
  · exact q.elim
end
end DL
namespace DL
open PySem PySem.Spec PyProof.Rows L2

section
variable {c : Cn} {W : Wx} {X : Cx} {A : Addr → Prop} {ρ : Env} {σ : Sg} {H0 H H' H1 : Hp}

/-! ### in, not in -/
def inB : D → D → Option Bool
  | .str [x], .str cs => some (decide (x ∈ cs))
  | d, .lst ds => if d.dep ≤ 64 ∧ D.deps ds ≤ 60 then some (ds.any fun z => D.eqv z d) else none
  | d, .tup ds => if d.dep ≤ 64 ∧ D.deps ds ≤ 60 then some (ds.any fun z => D.eqv z d) else none
  | _, _ => none
def inG (neg : Bool) (d e : D) : Option Res := (inB d e).map fun b => .imm (.bl (if neg then !b else b))
def rInA (K : PySem.W.Frag) (neg : Bool) : R2 := fun x y H Q =>
  (∃ (ch : Nat) (z : Str), x = .str ⟨#[ch]⟩ ∧ y = .str z ∧ Q (.bl (if neg then !decide (ch ∈ z.cps.toList) else decide (ch ∈ z.cps.toList))) H) ∨
  (∃ d ds, Dp K H x d ∧ (Dp K H y (.list ds) ∨ Dp K H y (.tuple ds)) ∧ SeqAt.shaped d = true ∧ SeqAt.shaped (.list ds) = true ∧ Q (.bl (if neg then !(ds.any fun z => PyData.eqv z d) else ds.any fun z => PyData.eqv z d)) H)
theorem op_inA (hu : X.A.units + 65 < cLine) : OpR X (compareOp .In) (rInA X.K false) := by
  intro pins s σ H x y v u Q I rx ry h
  rcases h with ⟨ch, z, rfl, rfl, q⟩ | ⟨d, ds, hd, he, sd, se, q⟩
  · exact op_in_sign pins s σ H _ _ v u Q I rx ry ⟨ch, z, rfl, rfl, q⟩
  · obtain ⟨as, r1⟩ := Dp.reads I d x v hd rx
    have hr := room_in_shaped (xs := ds) sd hu
    have c1 := SeqAt.canLay_of_shaped sd
    have c2 := SeqAt.canLay_of_shaped se
    have fin : EP X pins σ Q (.bool (ds.any fun z => PyData.eqv z d)) s := ⟨.bl _, H, I, rfl, q⟩
    rcases he with he | he
    · obtain ⟨bs, r2⟩ := Dp.reads I (.list ds) y u he ry
      exact SeqAt.in_list_reads r2 r1 c2 c1 hr fin
    · obtain ⟨bs, r2⟩ := Dp.reads I (.tuple ds) y u he ry
      exact SeqAt.in_tuple_reads r2 r1 c2 c1 hr fin
theorem op_notInA (hu : X.A.units + 65 < cLine) : OpR X (compareOp .NotIn) (rInA X.K true) := by
  intro pins s σ H x y v u Q I rx ry h
  rcases h with ⟨ch, z, rfl, rfl, q⟩ | ⟨d, ds, hd, he, sd, se, q⟩
  · exact op_notIn_sign pins s σ H _ _ v u Q I rx ry ⟨ch, z, rfl, rfl, q⟩
  · obtain ⟨as, r1⟩ := Dp.reads I d x v hd rx
    have hr := room_in_shaped (xs := ds) sd hu
    have c1 := SeqAt.canLay_of_shaped sd
    have c2 := SeqAt.canLay_of_shaped se
    have fin : EP X pins σ Q (.bool (!ds.any fun z => PyData.eqv z d)) s := ⟨.bl _, H, I, rfl, q⟩
    rcases he with he | he
    · obtain ⟨bs, r2⟩ := Dp.reads I (.list ds) y u he ry
      exact SeqAt.notIn_list_reads r2 r1 c2 c1 hr fin
    · obtain ⟨bs, r2⟩ := Dp.reads I (.tuple ds) y u he ry
      exact SeqAt.notIn_tuple_reads r2 r1 c2 c1 hr fin
theorem eqv_any : ∀ (ds : List D) (d : D) (ps : List PyData) (p : PyData), D.pys ds = some ps → d.py = some p → (ps.any fun z => PyData.eqv z p) = ds.any fun z => D.eqv z d
  | [], d, ps, p, h, h' => by cases h; rfl
  | e :: ds, d, ps, p, h, h' => by
    simp only [D.pys, Option.bind_eq_some_iff, Option.map_eq_some_iff] at h
    obtain ⟨q, e1, qs, e2, rfl⟩ := h
    simp only [List.any_cons, D.eqv_py e d q p e1 h', eqv_any ds d qs p e2 h']
theorem pys_of_list {ds : List D} {p : PyData} (h : (D.lst ds).py = some p) : ∃ ps, D.pys ds = some ps ∧ p = .list ps := by
  simp only [D.py, Option.map_eq_some_iff] at h
  obtain ⟨ps, e, rfl⟩ := h
  exact ⟨ps, e, rfl⟩
theorem inG_ok {neg : Bool} : OpG c.G (rInA c.G.K neg) (inG neg) := by
  intro H x y d e rs hx hy h Q k
  unfold inG at h
  simp only [Option.map_eq_some_iff] at h
  obtain ⟨b, h, rfl⟩ := h
  unfold inB at h
  split at h
  · cases h
    obtain ⟨rfl, _, _⟩ := hx.str
    obtain ⟨rfl, _, _⟩ := hy.str
    exact .inl ⟨_, _, rfl, rfl, k _ _ .refl (.imm (.bl _))⟩
  · rename_i ds
    split at h
    · rename_i hd
      cases h
      have d64 : (D.lst ds).dep ≤ 64 := by show D.deps ds + 1 ≤ 64; omega
      obtain ⟨p, hp, h1, s1⟩ := hx.shaped hd.1
      obtain ⟨q, hq, h2, s2⟩ := hy.shaped d64
      obtain ⟨ps, e1, rfl⟩ := pys_of_list hq
      refine .inr ⟨p, ps, h1, .inl h2, s1, s2, ?_⟩
      rw [eqv_any ds d ps p e1 hp]
      exact k _ _ .refl (.imm (.bl _))
    · cases h
  · rename_i ds
    split at h
    · rename_i hd
      cases h
      have d64 : (D.tup ds).dep ≤ 64 := by show D.deps ds + 1 ≤ 64; omega
      obtain ⟨p, hp, h1, s1⟩ := hx.shaped hd.1
      obtain ⟨q, hq, h2, s2⟩ := hy.shaped d64
      simp only [D.py, Option.map_eq_some_iff] at hq
      obtain ⟨ps, e1, rfl⟩ := hq
      refine .inr ⟨p, ps, h1, .inr h2, s1, s2, ?_⟩
      rw [eqv_any ds d ps p e1 hp]
      exact k _ _ .refl (.imm (.bl _))
    · cases h
  · cases h

/-! ### one place -/
def e1 (g : D → Option Res) (f : EV) : EV := fun ρ => (f ρ).bind fun k ρ1 => match k.view ρ1 with
  | some d => ofRes (g d) ρ1
  | none => .bad
theorem use1 {r : V → Hp → VK → Prop} {g : D → Option Res} (hg : ∀ (H : Hp) (x : V) (d : D) (rs : Res), Vw c.G H x d → g d = some rs → ∀ Q : VK, (∀ v H', Fr c.G.T (fun _ => False) H H' → ResR c.G H H' v rs → Q v H') → r x H Q) {f : EV} {Q : VK} (h : tP c W (e1 g f) σ H Q) :
    tP c W f σ H fun x H1 => r x H1 Q := by
  obtain ⟨ρ, A, S, h⟩ := h
  refine cut S .refl ?_
  unfold e1 at h
  rw [Out.post_bind] at h
  refine Out.post_imp h (fun k ρ1 q v H1 S1 F1 R1 => ?_) fun _ _ q => q
  split at q
  · rename_i d e
    obtain ⟨rs, e3, q⟩ := ofRes_post q
    exact hg H1 v d rs (R1.view S1 e) e3 Q fun v H' F' r' => fin1 q S1 F1 F' r'
  · exact q.elim
def isNoneG (neg : Bool) : D → Option Res
  | .non => some (.imm (.bl (!neg)))
  | _ => some (.imm (.bl neg))
theorem Vw.none_iff {G : Gm} {v : V} {d : D} (h : Vw G H v d) : (v = .non ↔ d = .non) := by
  cases h with
  | imm h => cases h <;> simp
  | obj h => cases h <;> simp [M.toD]
theorem dx_isN {a : Expr} {f : EV} {j : Nat} {p pos : Pos} (ha : DX c W X a f) : DX c W X (.Compare a [.Is] [.Constant .none j p] pos) (e1 (isNoneG false) f) := by
  refine PE.imp (pe_cmp (pc_isN ha) rfl) fun σ H Q h => use1 (r := fun x H Q => Q (.bl (decide (x = .non))) H) (fun H x d rs hv hg Q k => ?_) h
  show Q (.bl (decide (x = .non))) H
  have e := hv.none_iff
  cases d <;> (simp only [isNoneG, Option.some.injEq] at hg; subst hg; first | (rw [decide_eq_true (e.mpr rfl)]; exact k _ _ .refl (.imm (.bl _))) | (rw [decide_eq_false (fun z => nomatch e.mp z)]; exact k _ _ .refl (.imm (.bl _))))
theorem dx_notN {a : Expr} {f : EV} {j : Nat} {p pos : Pos} (ha : DX c W X a f) : DX c W X (.Compare a [.IsNot] [.Constant .none j p] pos) (e1 (isNoneG true) f) := by
  refine PE.imp (pe_cmp (pc_notN ha) rfl) fun σ H Q h => use1 (r := fun x H Q => Q (.bl (!decide (x = .non))) H) (fun H x d rs hv hg Q k => ?_) h
  show Q (.bl (!decide (x = .non))) H
  have e := hv.none_iff
  cases d <;> (simp only [isNoneG, Option.some.injEq] at hg; subst hg; first | (rw [decide_eq_true (e.mpr rfl)]; exact k _ _ .refl (.imm (.bl _))) | (rw [decide_eq_false (fun z => nomatch e.mp z)]; exact k _ _ .refl (.imm (.bl _))))
def negG : D → Option Res
  | .int i => some (.imm (.int (-i)))
  | _ => none
theorem dx_neg {a : Expr} {f : EV} {pos : Pos} (ha : DX c W X a f) : DX c W X (.UnaryOp .USub a pos) (e1 negG f) := by
  refine PE.imp (pe_un un_neg ha) fun σ H Q h => use1 (fun H x d rs hv hg Q k => ?_) h
  cases d <;> simp only [negG, Option.some.injEq] at hg <;> first | (subst hg; exact ⟨_, hv.int, k _ _ .refl (.imm (.int _))⟩) | cases hg

/-! ### a < b < c -/
def resB : Option Res → Option Bool
  | some (.imm (.bl b)) => some b
  | _ => none
def e3 (g g' : D → D → Option Res) (f1 f2 f3 : EV) : EV := fun ρ => (f1 ρ).bind fun a ρ1 => (f2 ρ1).bind fun b ρ2 => match a.view ρ2, b.view ρ2 with
  | some x, some y => match resB (g x y) with
    | some true => (f3 ρ2).bind fun k ρ3 => match b.view ρ3, k.view ρ3 with
      | some y', some z => ofRes (g' y' z) ρ3
      | _, _ => .bad
    | some false => .ok (.res (.imm (.bl false))) ρ2
    | none => .bad
  | _, _ => .bad
theorem resB_eq {o : Option Res} {b : Bool} (h : resB o = some b) : o = some (.imm (.bl b)) := by
  unfold resB at h
  split at h
  · cases h; rfl
  · cases h
theorem ResR.bl {G : Gm} {v : V} {b : Bool} (h : ResR G H0 H v (.imm (.bl b))) : v = .bl b := by
  cases h with | imm h => cases h; rfl
theorem Fr.any {T : List (Addr × Str)} {B : Addr → Prop} (h : Fr T (fun _ => False) H H') : Fr T B H H' := h.mono fun _ z => z.elim
theorem dx_chain {op op' : CmpOp} {r r' : R2} {g g' : D → D → Option Res} (ho : OpR X (compareOp op) r) (ho' : OpR X (compareOp op') r') (hg : OpG c.G r g) (hg' : OpG c.G r' g') {a b d : Expr} {f1 f2 f3 : EV} {pos : Pos} (ha : DX c W X a f1) (hb : DX c W X b f2) (hd : DX c W X d f3)
    (hm : lastMarks [op, op'] [b, d] = false) : DX c W X (.Compare a [op, op'] [b, d] pos) (e3 g g' f1 f2 f3) := by
  refine PE.imp (pe_chain ho ho' ha hb hd hm) fun σ H Q ⟨ρ, A, S, h⟩ => cut S .refl ?_
  unfold e3 at h
  rw [Out.post_bind] at h
  refine Out.post_imp h (fun k1 ρ1 q v1 H1 S1 F1 R1 => cut S1 F1 ?_) fun _ _ q => q
  rw [Out.post_bind] at q
  refine Out.post_imp q (fun k2 ρ2 q v2 H2 S2 F2 R2 => ?_) fun _ _ q => q
  split at q
  · rename_i x y e1 e2
    have V1 := (R1.fr F2 S.live).view S2 e1
    have V2 := R2.view S2 e2
    split at q
    · rename_i e
      refine hg H2 v1 v2 x y _ V1 V2 (resB_eq e) _ fun v H' F' r' => ⟨true, r'.bl, ?_⟩
      rw [if_pos rfl]
      refine cut (S2.grow F') ((F1.trans F2).trans F'.any) ?_
      rw [Out.post_bind] at q
      refine Out.post_imp q (fun k3 ρ3 q v3 H3 S3 F3 R3 => ?_) fun _ _ q => q
      split at q
      · rename_i y' z e4 e5
        obtain ⟨rs, e6, q⟩ := ofRes_post q
        exact hg' H3 v2 v3 y' z rs (((R2.fr F'.any S1.live).fr F3 S1.live).view S3 e4) (R3.view S3 e5) e6 Q fun v H'' F'' r'' => fin1 q S3 (((F1.trans F2).trans F'.any).trans F3) F'' r''
      · exact q.elim
    · rename_i e
      refine hg H2 v1 v2 x y _ V1 V2 (resB_eq e) _ fun v H' F' r' => ⟨false, r'.bl, ?_⟩
      rw [if_neg Bool.false_ne_true]
      exact q _ H' (S2.grow F') ((F1.trans F2).trans F'.any) (.res (.imm (.bl false)))
    · exact q.elim
  · exact q.elim

/-! ### tests -/
abbrev TV := Env → Out Bool
def bT (f : EV) : TV := fun ρ => (f ρ).bind fun k ρ1 => match k with
  | .res (.imm (.bl b)) => .ok b ρ1
  | _ => .bad
def tPB (t : TE) : TT := fun σ H Q => t σ H fun x H1 => ∃ k, x = .bl k ∧ Q k H1
theorem useT {f : EV} {Q : Bool → Hp → Prop} (h : tT c W (bT f) σ H Q) : tP c W f σ H fun x H1 => ∃ k, x = .bl k ∧ Q k H1 := by
  obtain ⟨ρ, A, S, h⟩ := h
  refine cut S .refl ?_
  unfold bT at h
  rw [Out.post_bind] at h
  refine Out.post_imp h (fun k ρ1 q v H1 S1 F1 R1 => ?_) fun _ _ q => q
  split at q
  · cases R1 with
    | res R1 => exact ⟨_, R1.bl, q H1 S1 F1⟩
  · exact q.elim
/-- a comparison as a test -/
theorem dt_cmp {op : CmpOp} {r : R2} {g : D → D → Option Res} (ho : OpR X (compareOp op) r) (hg : OpG c.G r g) {a b : Expr} {f1 f2 : EV} {pos : Pos} (ha : DX c W X a f1) (hb : DX c W X b f2) (hm : behindInMarks op b = false) : DT c W X (.Compare a [op] [b] pos) (bT (e2 g f1 f2)) :=
  PT.imp (pt_cmpR ho ha hb hm) fun _ _ _ h => use2 hg (useT h)
theorem dt_isN {a : Expr} {f : EV} {j : Nat} {p pos : Pos} (ha : DX c W X a f) : DT c W X (.Compare a [.Is] [.Constant .none j p] pos) (bT (e1 (isNoneG false) f)) := by
  refine PT.imp (pt_cmp (pc_isN ha) rfl) fun σ H Q h => ?_
  have := useT h
  refine use1 (r := fun x H Q => Q (.bl (decide (x = .non))) H) (fun H x d rs hv hg Q k => ?_) this
  have e := hv.none_iff
  cases d <;> (simp only [isNoneG, Option.some.injEq] at hg; subst hg; first | (rw [decide_eq_true (e.mpr rfl)]; exact k _ _ .refl (.imm (.bl _))) | (rw [decide_eq_false (fun z => nomatch e.mp z)]; exact k _ _ .refl (.imm (.bl _))))
theorem dt_notN {a : Expr} {f : EV} {j : Nat} {p pos : Pos} (ha : DX c W X a f) : DT c W X (.Compare a [.IsNot] [.Constant .none j p] pos) (bT (e1 (isNoneG true) f)) := by
  refine PT.imp (pt_cmp (pc_notN ha) rfl) fun σ H Q h => ?_
  have := useT h
  refine use1 (r := fun x H Q => Q (.bl (!decide (x = .non))) H) (fun H x d rs hv hg Q k => ?_) this
  have e := hv.none_iff
  cases d <;> (simp only [isNoneG, Option.some.injEq] at hg; subst hg; first | (rw [decide_eq_true (e.mpr rfl)]; exact k _ _ .refl (.imm (.bl _))) | (rw [decide_eq_false (fun z => nomatch e.mp z)]; exact k _ _ .refl (.imm (.bl _))))
/-- a value that is a truth, as a test -/
theorem dt_val {e : Expr} {f : EV} (h : DX c W X e f) (he : ∀ whole, isTrue e X.env whole = (do let v ← whole; standAt e.pos; holding [v] (truthy v)) := by intro _; rfl) : DT c W X e (bT f) :=
  PT.imp (pt_val h he) fun _ _ _ h => useT h
theorem dt_chain {op op' : CmpOp} {r r' : R2} {g g' : D → D → Option Res} (ho : OpR X (compareOp op) r) (ho' : OpR X (compareOp op') r') (hg : OpG c.G r g) (hg' : OpG c.G r' g') {a b d : Expr} {f1 f2 f3 : EV} {pos : Pos} (ha : DX c W X a f1) (hb : DX c W X b f2) (hd : DX c W X d f3)
    (hm : lastMarks [op, op'] [b, d] = false) : DT c W X (.Compare a [op, op'] [b, d] pos) (bT (e3 g g' f1 f2 f3)) := by
  refine PT.imp (pt_chain ho ho' ha hb hd hm) fun σ H Q h => ?_
  obtain ⟨ρ, A, S, h⟩ := useT h
  refine cut S .refl ?_
  unfold e3 at h
  rw [Out.post_bind] at h
  refine Out.post_imp h (fun k1 ρ1 q v1 H1 S1 F1 R1 => cut S1 F1 ?_) fun _ _ q => q
  rw [Out.post_bind] at q
  refine Out.post_imp q (fun k2 ρ2 q v2 H2 S2 F2 R2 => ?_) fun _ _ q => q
  split at q
  · rename_i x y e1 e2
    have V1 := (R1.fr F2 S.live).view S2 e1
    have V2 := R2.view S2 e2
    split at q
    · rename_i e
      refine hg H2 v1 v2 x y _ V1 V2 (resB_eq e) _ fun v H' F' r' => ⟨true, r'.bl, ?_⟩
      rw [if_pos rfl]
      refine cut (S2.grow F') ((F1.trans F2).trans F'.any) ?_
      rw [Out.post_bind] at q
      refine Out.post_imp q (fun k3 ρ3 q v3 H3 S3 F3 R3 => ?_) fun _ _ q => q
      split at q
      · rename_i y' z e4 e5
        obtain ⟨rs, e6, q⟩ := ofRes_post q
        exact hg' H3 v2 v3 y' z rs (((R2.fr F'.any S1.live).fr F3 S1.live).view S3 e4) (R3.view S3 e5) e6 _ fun v H'' F'' r'' => fin1 q S3 (((F1.trans F2).trans F'.any).trans F3) F'' r''
      · exact q.elim
    · rename_i e
      refine hg H2 v1 v2 x y _ V1 V2 (resB_eq e) _ fun v H' F' r' => ⟨false, r'.bl, ?_⟩
      rw [if_neg Bool.false_ne_true]
      exact q _ H' (S2.grow F') ((F1.trans F2).trans F'.any) (.res (.imm (.bl false)))
    · exact q.elim
  · exact q.elim
def tyAnd (f g : TV) : TV := fun ρ => (f ρ).bind fun b ρ1 => if b = true then g ρ1 else .ok false ρ1
def tyOr (f g : TV) : TV := fun ρ => (f ρ).bind fun b ρ1 => if b = true then .ok true ρ1 else g ρ1
def tyNot (f : TV) : TV := fun ρ => (f ρ).bind fun b ρ1 => .ok (!b) ρ1
def DW (c : Cn) (W : Wx) (X : Cx) (e : Expr) (f : TV) : Prop := PW X e (tT c W f)
theorem PW.imp {X : Cx} {e : Expr} {t t' : TT} (h : PW X e t) (i : ∀ σ H Q, t' σ H Q → t σ H Q) : PW X e t' := ⟨fun wh pins s σ H Q I q => h.run wh pins s σ H Q I (i _ _ _ q)⟩
theorem dw_and1 {a : Expr} {f : TV} {pos : Pos} (h : DT c W X a f) : DW c W X (.BoolOp .And [a] pos) f := pw_and1 h
theorem dw_or1 {a : Expr} {f : TV} {pos : Pos} (h : DT c W X a f) : DW c W X (.BoolOp .Or [a] pos) f := pw_or1 h
theorem dw_and {a b : Expr} {rest : List Expr} {f g : TV} {pos : Pos} (ha : DT c W X a f) (hb : DW c W X (.BoolOp .And (b :: rest) pos) g) : DW c W X (.BoolOp .And (a :: b :: rest) pos) (tyAnd f g) := by
  refine PW.imp (pw_and ha hb) fun σ H Q ⟨ρ, A, S, h⟩ => cutT S .refl ?_
  unfold tyAnd at h
  rw [Out.post_bind] at h
  refine Out.post_imp h (fun k ρ1 q H1 S1 F1 => ?_) fun _ _ q => q
  cases k with
  | true =>
    rw [if_pos rfl] at q ⊢
    exact cutT S1 F1 (Out.post_imp q (fun _ _ q H2 S2 F2 => q H2 S2 (F1.trans F2)) fun _ _ q => q)
  | false =>
    rw [if_neg Bool.false_ne_true] at q ⊢
    exact q H1 S1 F1
theorem dw_or {a b : Expr} {rest : List Expr} {f g : TV} {pos : Pos} (ha : DT c W X a f) (hb : DW c W X (.BoolOp .Or (b :: rest) pos) g) : DW c W X (.BoolOp .Or (a :: b :: rest) pos) (tyOr f g) := by
  refine PW.imp (pw_or ha hb) fun σ H Q ⟨ρ, A, S, h⟩ => cutT S .refl ?_
  unfold tyOr at h
  rw [Out.post_bind] at h
  refine Out.post_imp h (fun k ρ1 q H1 S1 F1 => ?_) fun _ _ q => q
  cases k with
  | false =>
    rw [if_neg Bool.false_ne_true] at q ⊢
    exact cutT S1 F1 (Out.post_imp q (fun _ _ q H2 S2 F2 => q H2 S2 (F1.trans F2)) fun _ _ q => q)
  | true =>
    rw [if_pos rfl] at q ⊢
    exact q H1 S1 F1
theorem DW.dt {e : Expr} {f : TV} (h : DW c W X e f) : DT c W X e f := PW.pt h
theorem dt_not {a : Expr} {f : TV} {pos : Pos} (h : DT c W X a f) : DT c W X (.UnaryOp .Not a pos) (tyNot f) := by
  refine PT.imp (pt_not h) fun σ H Q ⟨ρ, A, S, h⟩ => cutT S .refl ?_
  unfold tyNot at h
  rw [Out.post_bind] at h
  exact Out.post_imp h (fun k ρ1 q H1 S1 F1 => q H1 S1 F1) fun _ _ q => q

/-! ### and, or, not, if as values -/
def eAnd (f g : EV) : EV := fun ρ => (f ρ).bind fun k ρ1 => match k with
  | .res (.imm (.bl true)) => g ρ1
  | .res (.imm (.bl false)) => .ok (.res (.imm (.bl false))) ρ1
  | _ => .bad
def eOr (f g : EV) : EV := fun ρ => (f ρ).bind fun k ρ1 => match k with
  | .res (.imm (.bl false)) => g ρ1
  | .res (.imm (.bl true)) => .ok (.res (.imm (.bl true))) ρ1
  | _ => .bad
def eNot (f : EV) : EV := e1 (fun d => match d with | .bl b => some (.imm (.bl (!b))) | _ => none) f
def eIf (t : TV) (f g : EV) : EV := fun ρ => (t ρ).bind fun b ρ1 => if b = true then f ρ1 else g ρ1
theorem dx_one {op : BoolOp} {a : Expr} {f : EV} {pos : Pos} (h : DX c W X a f) : DX c W X (.BoolOp op [a] pos) f := pe_one h
theorem goOn {f : EV} {Q : VK} (S : Stt c A ρ σ H1) (F : Fr c.G.T A H0 H1) (q : (f ρ).post (kP c A H0 σ Q) (kX c W A H0 σ)) : tP c W f σ H1 Q :=
  cut S F (Out.post_imp q (fun _ _ q v H2 S2 F2 R2 => q v H2 S2 (F.trans F2) (R2.old F)) fun _ _ q => q)
theorem dx_and {a b : Expr} {rest : List Expr} {f g : EV} {pos : Pos} (ha : DX c W X a f) (hb : DX c W X (.BoolOp .And (b :: rest) pos) g) : DX c W X (.BoolOp .And (a :: b :: rest) pos) (eAnd f g) := by
  refine PE.imp (pe_and ha hb) fun σ H Q ⟨ρ, A, S, h⟩ => cut S .refl ?_
  unfold eAnd at h
  rw [Out.post_bind] at h
  refine Out.post_imp h (fun k ρ1 q v H1 S1 F1 R1 => ?_) fun _ _ q => q
  split at q
  · cases R1 with
    | res R1 => exact ⟨true, R1.bl, by rw [if_pos rfl]; exact goOn S1 F1 q⟩
  · cases R1 with
    | res R1 => exact ⟨false, R1.bl, by rw [if_neg Bool.false_ne_true]; exact q _ H1 S1 F1 (.res (.imm (.bl false)))⟩
  · exact q.elim
theorem dx_or {a b : Expr} {rest : List Expr} {f g : EV} {pos : Pos} (ha : DX c W X a f) (hb : DX c W X (.BoolOp .Or (b :: rest) pos) g) : DX c W X (.BoolOp .Or (a :: b :: rest) pos) (eOr f g) := by
  refine PE.imp (pe_or ha hb) fun σ H Q ⟨ρ, A, S, h⟩ => cut S .refl ?_
  unfold eOr at h
  rw [Out.post_bind] at h
  refine Out.post_imp h (fun k ρ1 q v H1 S1 F1 R1 => ?_) fun _ _ q => q
  split at q
  · cases R1 with
    | res R1 => exact ⟨false, R1.bl, by rw [if_neg Bool.false_ne_true]; exact goOn S1 F1 q⟩
  · cases R1 with
    | res R1 => exact ⟨true, R1.bl, by rw [if_pos rfl]; exact q _ H1 S1 F1 (.res (.imm (.bl true)))⟩
  · exact q.elim
theorem dx_not {a : Expr} {f : EV} {pos : Pos} (ha : DX c W X a f) : DX c W X (.UnaryOp .Not a pos) (eNot f) := by
  refine PE.imp (pe_not ha) fun σ H Q h => use1 (r := fun x H Q => ∃ k, x = .bl k ∧ Q (.bl (!k)) H) (fun H x d rs hv hg Q k => ?_) h
  split at hg
  · cases hg; exact ⟨_, hv.bl, k _ _ .refl (.imm (.bl _))⟩
  · cases hg
theorem dx_if {t a b : Expr} {ft : TV} {f g : EV} {pos : Pos} (ht : DT c W X t ft) (ha : DX c W X a f) (hb : DX c W X b g) : DX c W X (.IfExp t a b pos) (eIf ft f g) := by
  refine PE.imp (pe_ifExp ht ha hb) fun σ H Q ⟨ρ, A, S, h⟩ => cutT S .refl ?_
  unfold eIf at h
  rw [Out.post_bind] at h
  refine Out.post_imp h (fun k ρ1 q H1 S1 F1 => ?_) fun _ _ q => q
  cases k with
  | true => rw [if_pos rfl] at q ⊢; exact goOn S1 F1 q
  | false => rw [if_neg Bool.false_ne_true] at q ⊢; exact goOn S1 F1 q
end
end DL
namespace DL
open PySem PySem.Spec PyProof.Rows L2

section
variable {c : Cn} {W : Wx} {X : Cx} {A : Addr → Prop} {ρ : Env} {σ : Sg} {H0 H H' H1 : Hp}

/-! ### displays -/
def imms : List Pk → Option (List D)
  | [] => some []
  | .res (.imm d) :: ks => (imms ks).map (d :: ·)
  | _ => none
theorem PkL.imms : ∀ {vs : List V} {ks : List Pk} {ds : List D}, PkL c A H0 H σ vs ks → imms ks = some ds → ImmL c.G H vs ds
  | _, _, _, .nil, e => by cases e; exact .nil
  | _, _, _, .cons (k := k) (ks := ks) h t, e => by
    cases h with
    | res h =>
      cases h with
      | imm h =>
        simp only [DL.imms, Option.map_eq_some_iff] at e
        obtain ⟨ds, e, rfl⟩ := e
        exact .cons h (t.imms e)
      | new h n => cases e
      | pair => cases e
    | «at» h => cases e
def eTup (f : AV) : EV := fun ρ => (f ρ).bind fun ks ρ1 => match imms ks with
  | some ds => if ds.length ≤ 1000 then .ok (.res (.imm (.tup ds))) ρ1 else .bad
  | none => .bad
def eLst (f : AV) : EV := fun ρ => (f ρ).bind fun ks ρ1 => match imms ks with
  | some ds => if ds.length ≤ 1000 then .ok (.res (.new (.lst ds))) ρ1 else .bad
  | none => .bad
theorem line1000 {n : Nat} (h : n ≤ 1000) : n ≤ sizeLine := Nat.le_trans h (by decide)
theorem dx_tup {es : List Expr} {f : AV} {k : Nat} {pos : Pos} (h : DA c W X es f) : DX c W X (.Tuple es k pos) (eTup f) := by
  refine PE.imp (pe_tup h) fun σ H Q ⟨ρ, A, S, h⟩ => cutA S .refl ?_
  unfold eTup at h
  rw [Out.post_bind] at h
  refine Out.post_imp h (fun ks ρ1 q vs H1 S1 F1 R1 => ?_) fun _ _ q => q
  split at q
  · rename_i ds e
    split at q
    · rename_i hl
      have r := R1.imms e
      refine ⟨by rw [r.length]; exact line1000 hl, fun p hp => ?_⟩
      have F2 : Fr c.G.T (fun _ => False) H1 (upd H1 p (.tup vs)) := .new hp
      exact q _ _ (S1.grow F2) (F1.trans F2.any) (.res (.imm (.tup (.inl upd_same) (r.ps F2.ps) (line1000 hl))))
    · exact q.elim
  · exact q.elim
theorem dx_lst {es : List Expr} {f : AV} {pos : Pos} (h : DA c W X es f) : DX c W X (.List es pos) (eLst f) := by
  refine PE.imp (pe_lst h) fun σ H Q ⟨ρ, A, S, h⟩ => cutA S .refl ?_
  unfold eLst at h
  rw [Out.post_bind] at h
  refine Out.post_imp h (fun ks ρ1 q vs H1 S1 F1 R1 => ?_) fun _ _ q => q
  split at q
  · rename_i ds e
    split at q
    · rename_i hl
      have r := R1.imms e
      refine ⟨by rw [r.length]; exact line1000 hl, fun p hp => ?_⟩
      have F2 : Fr c.G.T (fun _ => False) H1 (upd H1 p (.lst vs)) := .new hp
      exact q _ _ (S1.grow F2) (F1.trans F2.any) (.res ((ResR.new (H0 := H1) (.lst upd_same (r.ps F2.ps) (line1000 hl)) hp).old F1))
    · exact q.elim
  · exact q.elim

/-! ### places -/
def ixG : D → D → Option Res
  | .lst ds, .int i => (atI ds i).map .imm
  | .tup ds, .int i => (atI ds i).map .imm
  | .str cs, .int i => (atI cs i).map fun ch => .imm (.str [ch])
  | .seq ns, .int i => (atI ns i).map fun n => .imm (.int n)
  | _, _ => none
theorem atI_map {α β : Type} (f : α → β) (l : List α) (i : Int) : atI (l.map f) i = (atI l i).map f := by
  unfold atI
  rw [List.length_map]
  cases ixN l.length i with
  | none => rfl
  | some j => simp
theorem atI_imm {G : Gm} {xs : List V} {ds : List D} {i : Int} {d : D} (r : ImmL G H xs ds) (e : atI ds i = some d) : ∃ v, atI xs i = some v ∧ Imm G H v d := by
  unfold atI at e ⊢
  rw [r.length]
  cases h : ixN ds.length i with
  | none => rw [h] at e; cases e
  | some j => rw [h] at e; exact r.get e
theorem atI_all {cs : List Nat} {i : Int} {ch : Nat} (e : atI cs i = some ch) : ch ∈ cs := by
  unfold atI at e
  cases h : ixN cs.length i with
  | none => rw [h] at e; cases e
  | some j => rw [h] at e; exact List.mem_of_getElem? e
theorem ixG_ok (hK : X.K = c.G.K) : OpG c.G (rIx X.K) ixG := by
  intro H x y d e rs hx hy h Q k
  unfold ixG at h
  split at h
  · simp only [Option.map_eq_some_iff] at h
    obtain ⟨d, e, rfl⟩ := h
    obtain ⟨a, xs, rfl, h1, h2, _⟩ := hx.lst
    obtain ⟨v, e', hi⟩ := atI_imm h2 e
    exact .inl ⟨_, _, _, v, rfl, hy.int, .inl h1, e', k _ _ .refl (.imm hi)⟩
  · simp only [Option.map_eq_some_iff] at h
    obtain ⟨d, e, rfl⟩ := h
    obtain ⟨a, xs, rfl, h1, h2, _⟩ := hx.tup
    obtain ⟨v, e', hi⟩ := atI_imm h2 e
    exact .inr (.inl ⟨_, _, _, v, rfl, hy.int, hK ▸ h1.sq, e', k _ _ .refl (.imm hi)⟩)
  · simp only [Option.map_eq_some_iff] at h
    obtain ⟨ch, e, rfl⟩ := h
    obtain ⟨rfl, h1, h2⟩ := hx.str
    refine .inr (.inr ⟨_, _, ch, rfl, hy.int, by rw [cstr_len]; exact h2, by simpa [cstr] using e, k _ _ .refl (.imm (.str [ch] ?_ (by show 1 ≤ sizeLine; decide)))⟩)
    have := List.all_eq_true.mp h1 ch (atI_all e)
    simpa using this
  · simp only [Option.map_eq_some_iff] at h
    obtain ⟨n, e, rfl⟩ := h
    obtain ⟨a, rfl, h1⟩ := hx.seq
    exact .inl ⟨_, _, _, .int n, rfl, hy.int, hK ▸ h1.sq, by rw [atI_map, e]; rfl, k _ _ .refl (.imm (.int n))⟩
  · cases h
theorem dx_ix {r : R2} {g : D → D → Option Res} (hr : IxR X r) (hg : OpG c.G r g) {a b : Expr} {f1 f2 : EV} {pos : Pos} (ha : DX c W X a f1) (hb : DX c W X b f2) (hs : PlainIx b := by exact fun _ _ => rfl) : DX c W X (.Subscript a b pos) (e2 g f1 f2) :=
  PE.imp (pe_ix hr ha hb hs) fun _ _ _ h => use2 hg h

/-! ### slices -/
abbrev OV := Env → Out (Option Int)
def oNone : OV := fun ρ => .ok none ρ
def oSome (f : EV) : OV := fun ρ => (f ρ).bind fun k ρ1 => match k with
  | .res (.imm (.int i)) => .ok (some i) ρ1
  | _ => .bad
def kO (c : Cn) (A : Addr → Prop) (H : Hp) (σ : Sg) (Q : Option Int → Hp → Prop) : Option Int → Env → Prop := fun b ρ' => ∀ H', Stt c A ρ' σ H' → Fr c.G.T A H H' → Q b H'
def tO (c : Cn) (W : Wx) (f : OV) : TO := fun σ H Q => ∃ ρ A, Stt c A ρ σ H ∧ (f ρ).post (kO c A H σ Q) (kX c W A H σ)
def DO (c : Cn) (W : Wx) (X : Cx) (e : Option Expr) (f : OV) : Prop := PO X e (tO c W f)
theorem PO.imp {X : Cx} {e : Option Expr} {t t' : TO} (h : PO X e t) (i : ∀ σ H Q, t' σ H Q → t σ H Q) : PO X e t' := by
  obtain ⟨h⟩ := h
  exact ⟨fun pins s σ H Q I q => h pins s σ H Q I (i _ _ _ q)⟩
theorem cutO {f : OV} {R : Option Int → Hp → Prop} (S : Stt c A ρ σ H) (F : Fr c.G.T A H0 H) (h : (f ρ).post (kO c A H σ R) (kX c W A H0 σ)) : tO c W f σ H R :=
  ⟨ρ, A, S, Out.post_imp h (fun k ρ1 q => q) fun x ρ1 q cls d H1 S1 F1 E1 => q cls d H1 S1 (F.trans F1) E1⟩
theorem do_none : DO c W X none oNone := PO.imp po_none fun σ H Q ⟨ρ, A, S, h⟩ => h H S .refl
theorem ResR.int {G : Gm} {v : V} {b : Int} (h : ResR G H0 H v (.imm (.int b))) : v = .int b := by
  cases h with | imm h => cases h; rfl
theorem do_some {e : Expr} {f : EV} (h : DX c W X e f) : DO c W X (some e) (oSome f) := by
  refine PO.imp (po_some h) fun σ H Q ⟨ρ, A, S, h⟩ => cut S .refl ?_
  unfold oSome at h
  rw [Out.post_bind] at h
  refine Out.post_imp h (fun k ρ1 q v H1 S1 F1 R1 => ?_) fun _ _ q => q
  split at q
  · cases R1 with
    | res R1 => exact ⟨_, R1.int, q H1 S1 F1⟩
  · exact q.elim
def cutL {α : Type} (xs : List α) (lo hi : Option Int) : List α := (xs.drop (HT.sIx xs.length 0 lo)).take (HT.sIx xs.length xs.length hi - HT.sIx xs.length 0 lo)
def slG (d : D) (lo hi : Option Int) : Option Res := match d with
  | .lst ds => some (.new (.lst (cutL ds lo hi)))
  | .tup ds => some (.imm (.tup (cutL ds lo hi)))
  | .str cs => some (.imm (.str (cutL cs lo hi)))
  | _ => none
def eSl (f : EV) (lo hi : OV) : EV := fun ρ => (f ρ).bind fun k ρ1 => (lo ρ1).bind fun l ρ2 => (hi ρ2).bind fun u ρ3 => match k.view ρ3 with
  | some d => ofRes (slG d l u) ρ3
  | none => .bad
theorem cutL_len {α : Type} (xs : List α) (lo hi : Option Int) : (cutL xs lo hi).length ≤ xs.length := by
  unfold cutL
  rw [List.length_take, List.length_drop]
  omega
theorem cutL_mem {α : Type} {xs : List α} {lo hi : Option Int} {x : α} (h : x ∈ cutL xs lo hi) : x ∈ xs := List.mem_of_mem_drop (List.mem_of_mem_take h)
theorem cutL_imm {G : Gm} {xs : List V} {ds : List D} (r : ImmL G H xs ds) (lo hi : Option Int) : ImmL G H (cutV xs lo hi) (cutL ds lo hi) := by
  unfold cutV cutL
  rw [r.length]
  exact (r.drop _).take _
abbrev RSl := V → Option Int → Option Int → Hp → VK → Prop
def rSlAll (K : PySem.W.Frag) : RSl := fun x lo hi H Q => rSlL K x lo hi H Q ∨ rSlA K x lo hi H Q ∨ rSlS x lo hi H Q
theorem sl_all : SlR X (rSlAll X.K) := sl_list.or (sl_tupA.or sl_str)
theorem slG_ok {x : V} {d : D} {lo hi : Option Int} {rs : Res} (hK : X.K = c.G.K) (hx : Vw c.G H x d) (h : slG d lo hi = some rs) {Q : VK} (k : ∀ v H', Fr c.G.T (fun _ => False) H H' → ResR c.G H H' v rs → Q v H') : rSlAll X.K x lo hi H Q := by
  unfold slG at h
  split at h
  · cases h
    obtain ⟨a, xs, rfl, h1, h2, hl⟩ := hx.lst
    exact .inl ⟨_, _, rfl, .inl h1, fun p hp => fin_lst k rfl hp (cutL_imm h2 _ _) (Nat.le_trans (cutL_len _ _ _) hl)⟩
  · cases h
    obtain ⟨a, xs, rfl, h1, h2, hl⟩ := hx.tup
    rename_i ds
    refine .inr (.inl ⟨_, _, rfl, hK ▸ h1.sq, fun ⟨z1, z2⟩ => ?_, fun _ p hp => fin_tup k rfl hp (cutL_imm h2 _ _) (Nat.le_trans (cutL_len _ _ _) hl)⟩)
    have e : cutL ds lo hi = ds := by
      unfold cutL
      rw [← h2.length, z1, z2]
      simp [h2.length]
    rw [e] at k
    exact k _ _ .refl (.imm (.tup h1 h2 hl))
  · cases h
    obtain ⟨rfl, h1, h2⟩ := hx.str
    rename_i cs
    refine .inr (.inr ⟨_, rfl, by rw [cstr_len]; exact h2, ?_⟩)
    have e : cutS (cstr cs) lo hi = cstr (cutL cs lo hi) := by simp [cutS, cutL, cstr, Str.length]
    rw [e]
    refine k _ _ .refl (.imm (.str _ ?_ (Nat.le_trans (cutL_len _ _ _) h2)))
    exact List.all_eq_true.mpr fun z hz => List.all_eq_true.mp h1 z (cutL_mem hz)
  · cases h
theorem dx_slice {e : Expr} {lo hi : Option Expr} {f : EV} {fl fh : OV} {p2 pos : Pos} (hK : X.K = c.G.K) (he : DX c W X e f) (hl : DO c W X lo fl) (hu : DO c W X hi fh) : DX c W X (.Subscript e (.Slice lo hi none p2) pos) (eSl f fl fh) := by
  refine PE.imp (pe_slice sl_all he hl hu) fun σ H Q ⟨ρ, A, S, h⟩ => cut S .refl ?_
  unfold eSl at h
  rw [Out.post_bind] at h
  refine Out.post_imp h (fun k ρ1 q v H1 S1 F1 R1 => cutO S1 F1 ?_) fun _ _ q => q
  rw [Out.post_bind] at q
  refine Out.post_imp q (fun l ρ2 q H2 S2 F2 => cutO S2 (F1.trans F2) ?_) fun _ _ q => q
  rw [Out.post_bind] at q
  refine Out.post_imp q (fun u ρ3 q H3 S3 F3 => ?_) fun _ _ q => q
  split at q
  · rename_i d e
    obtain ⟨rs, e3, q⟩ := ofRes_post q
    exact slG_ok hK (((R1.fr F2 S.live).fr F3 S.live).view S3 e) e3 fun v H' F' r' => fin1 q S3 ((F1.trans F2).trans F3) F' r'
  · exact q.elim
def revG : D → Option Res
  | .lst ds => some (.new (.lst ds.reverse))
  | _ => none
theorem dx_revL {e : Expr} {f : EV} {k : Nat} {p1 p2 p3 pos : Pos} (he : DX c W X e f) : DX c W X (.Subscript e (.Slice none none (some (.UnaryOp .USub (.Constant (.int 1) k p1) p2)) p3) pos) (e1 revG f) := by
  refine PE.imp (pe_revL he) fun σ H Q h => use1 (r := fun x H Q => ∃ a xs, x = .ref a ∧ SqL X.K H a xs ∧ ∀ p, H p = none → Q (.ref p) (upd H p (.lst xs.reverse))) (fun H x d rs hv hg Q k => ?_) h
  unfold revG at hg
  split at hg
  · cases hg
    obtain ⟨a, xs, rfl, h1, h2, hl⟩ := hv.lst
    exact ⟨_, _, rfl, .inl h1, fun p hp => fin_lst k rfl hp h2.reverse (by rw [List.length_reverse]; exact hl)⟩
  · cases hg

/-! ### a text's methods -/
def eMS (g : List Nat → D → Option Res) (f fe : EV) : EV := fun ρ => (f ρ).bind fun k ρ1 => match k with
  | .res (.imm (.str cs)) => (fe ρ1).bind fun k2 ρ2 => match k2.view ρ2 with
    | some d => ofRes (g cs d) ρ2
    | none => .bad
  | _ => .bad
abbrev RM := V → List V → Hp → VK → Prop
theorem dx_m1 {id : String} {name : Str} {apos pos : Pos} {r : RM} {g : List Nat → D → Option Res} {o e : Expr} {f fe : EV} (slot : PySem.Slot "str" name id) (ty : typeOf (.builtin id) = pure (.type "method_descriptor")) (rule : MtR X id r)
    (hg : ∀ (H : Hp) (cs : List Nat) (x : V) (d : D) (rs : Res), (cs.all (· < 0x110000)) = true → cs.length ≤ sizeLine → Vw c.G H x d → g cs d = some rs → ∀ Q : VK, (∀ v H', Fr c.G.T (fun _ => False) H H' → ResR c.G H H' v rs → Q v H') → r (.str (cstr cs)) [x] H Q)
    (ho : DX c W X o f) (he : DX c W X e fe) (hs : starEach [e] X.env = [(false, eval e X.env)] := by rfl) (hbase : attributeBase o name X.env (eval o X.env) = eval o X.env := by rfl) (hline : (apos.endLine == pos.line) = true := by rfl) :
    DX c W X (.Call (.Attribute o name apos) [e] [] pos) (eMS g f fe) := by
  refine PE.imp (pe_m1 slot ty rule ho he hs hbase hline) fun σ H Q ⟨ρ, A, S, h⟩ => cut S .refl ?_
  unfold eMS at h
  rw [Out.post_bind] at h
  refine Out.post_imp h (fun k ρ1 q v H1 S1 F1 R1 => ?_) fun _ _ q => q
  split at q
  · rename_i cs
    cases R1 with
    | res R1 =>
      cases R1 with
      | imm hI =>
        cases hI with
        | str _ h1 h2 =>
          refine ⟨⟨_, rfl⟩, cut S1 F1 ?_⟩
          rw [Out.post_bind] at q
          refine Out.post_imp q (fun k2 ρ2 q v2 H2 S2 F2 R2 => ?_) fun _ _ q => q
          split at q
          · rename_i d e
            obtain ⟨rs, e3, q⟩ := ofRes_post q
            exact hg H2 cs v2 d rs h1 h2 (R2.view S2 e) e3 Q fun v H' F' r' => fin1 q S2 (F1.trans F2) F' r'
          · exact q.elim
  · exact q.elim
def dStrs : List D → Option (List (List Nat))
  | [] => some []
  | .str cs :: ds => (dStrs ds).map (cs :: ·)
  | _ => none
theorem dStrs_of {G : Gm} : ∀ {ds : List D} {css : List (List Nat)} {xs : List V}, dStrs ds = some css → ImmL G H xs ds → xs = (css.map cstr).map V.str ∧ ∀ cs ∈ css, (cs.all (· < 0x110000)) = true
  | [], bs, xs, e, r => by cases e; cases r; exact ⟨rfl, fun _ h => nomatch h⟩
  | d :: ds, bs, xs, e, r => by
    cases r with
    | cons h t =>
      cases h <;> simp only [dStrs, Option.map_eq_some_iff] at e <;> first | (obtain ⟨b', e', rfl⟩ := e; obtain ⟨z1, z2⟩ := dStrs_of e' t; rw [z1]; exact ⟨rfl, fun cs hc => (List.mem_cons.mp hc).elim (fun z => z ▸ by assumption) (z2 cs)⟩) | cases e
def joinD (sep : List Nat) (css : List (List Nat)) : List Nat := TL.joinL sep css
def joinG (sep : List Nat) (d : D) : Option Res :=
  match (match d with | .lst ds => dStrs ds | .tup ds => dStrs ds | _ => none) with
  | some css => if (css.map List.length).sum + css.length * sep.length ≤ 16777216 then some (.imm (.str (joinD sep css))) else none
  | none => none
theorem join_all : ∀ {sep : List Nat} {css : List (List Nat)}, (sep.all (· < 0x110000)) = true → (∀ cs ∈ css, (cs.all (· < 0x110000)) = true) → ((joinD sep css).all (· < 0x110000)) = true
  | sep, [], _, _ => rfl
  | sep, [p], _, h => h p (by simp)
  | sep, p :: q :: r, hs, h => by
    show ((p ++ (sep ++ joinD sep (q :: r))).all (· < 0x110000)) = true
    rw [List.all_append, List.all_append, hs, h p (by simp), join_all hs fun cs hc => h cs (by simp only [List.mem_cons] at hc ⊢; exact .inr hc)]
    rfl
theorem join_len : ∀ {sep : List Nat} {css : List (List Nat)}, (joinD sep css).length ≤ (css.map List.length).sum + css.length * sep.length
  | sep, [] => Nat.zero_le _
  | sep, [p] => by show p.length ≤ _; simp
  | sep, p :: q :: r => by
    show (p ++ (sep ++ joinD sep (q :: r))).length ≤ _
    have := join_len (sep := sep) (css := q :: r)
    simp only [List.length_append, List.map_cons, List.sum_cons, List.length_cons] at this ⊢
    rw [Nat.succ_mul]
    omega
theorem dx_join {apos pos : Pos} {o e : Expr} {f fe : EV} (hK : X.K = c.G.K) (ho : DX c W X o f) (he : DX c W X e fe) (hs : starEach [e] X.env = [(false, eval e X.env)] := by rfl) (hbase : attributeBase o "join" X.env (eval o X.env) = eval o X.env := by rfl) (hline : (apos.endLine == pos.line) = true := by rfl) :
    DX c W X (.Call (.Attribute o "join" apos) [e] [] pos) (eMS joinG f fe) := by
  refine dx_m1 F.slot_str_join F.type_str_join mt_join (fun H cs x d rs h1 h2 hv hg Q k => ?_) ho he hs hbase hline
  unfold joinG at hg
  split at hg
  · rename_i css e
    split at hg
    · rename_i hl
      cases hg
      have fin : ∀ {a : Addr} {xs : List V} {ds : List D}, x = .ref a → dStrs ds = some css → ImmL c.G H xs ds → (SqL X.K H a xs ∨ SqT X.K H a xs) → ∃ (a : Str) (p : Addr) (ys : List Str), V.str (cstr cs) = .str a ∧ [x] = [.ref p] ∧ (SqL X.K H p (ys.map V.str) ∨ SqT X.K H p (ys.map V.str)) ∧
          (ys.map (·.length)).sum + ys.length * a.length ≤ 16777216 ∧ Q (.str (Txt.join a ys)) H := fun {a xs ds} ex e r hq => by
        subst ex
        obtain ⟨rfl, z2⟩ := dStrs_of e r
        have e1 : (css.map cstr).map (fun (y : Str) => y.length) = css.map List.length := by
          rw [List.map_map]; exact List.map_congr_left fun y _ => cstr_len y
        refine ⟨cstr cs, a, css.map cstr, rfl, rfl, hq, by rw [e1, List.length_map, cstr_len]; exact hl, ?_⟩
        have e2 : Txt.join (cstr cs) (css.map cstr) = cstr (joinD cs css) := by
          rw [TL.join_eq]
          refine TL.ext_tl ((TL.tl_join _ _).trans ?_)
          have e3 : (css.map cstr).map TL.tl = css := by
            rw [List.map_map]
            conv => rhs; rw [← List.map_id css]
            exact List.map_congr_left fun y _ => by simp [TL.tl, cstr]
          rw [e3]
          simp [TL.tl, cstr, joinD]
        rw [e2]
        exact k _ _ .refl (.imm (.str _ (join_all h1 z2) (Nat.le_trans join_len (Nat.le_trans hl (by decide)))))
      split at e
      · obtain ⟨a, xs, ex, g1, g2, _⟩ := hv.lst
        exact fin ex e g2 (.inl (.inl g1))
      · obtain ⟨a, xs, ex, g1, g2, _⟩ := hv.tup
        exact fin ex e g2 (.inr (hK ▸ g1.sq))
      · cases e
    · cases hg
  · cases hg
def countG (cs : List Nat) (d : D) : Option Res := match d with
  | .str [ch] => some (.imm (.int (cs.count ch)))
  | _ => none
theorem cnt_eq (ch : Nat) : ∀ cs : List Nat, PyProof.Rows.cnt ch cs = (cs.count ch : Nat)
  | [] => rfl
  | a :: r => by
    rw [PyProof.Rows.cnt_cons, cnt_eq ch r, List.count_cons]
    by_cases h : a = ch
    · subst h; simp; omega
    · simp [h]
theorem dx_count {apos pos : Pos} {o e : Expr} {f fe : EV} (ho : DX c W X o f) (he : DX c W X e fe) (hs : starEach [e] X.env = [(false, eval e X.env)] := by rfl) (hbase : attributeBase o "count" X.env (eval o X.env) = eval o X.env := by rfl) (hline : (apos.endLine == pos.line) = true := by rfl) :
    DX c W X (.Call (.Attribute o "count" apos) [e] [] pos) (eMS countG f fe) := by
  refine dx_m1 F.slot_str_count F.type_str_count mt_count (fun H cs x d rs h1 h2 hv hg Q k => ?_) ho he hs hbase hline
  unfold countG at hg
  split at hg
  · cases hg
    obtain ⟨rfl, _, _⟩ := hv.str
    refine ⟨_, _, rfl, rfl, ?_⟩
    have e : Txt.count (cstr cs) (cstr [‹Nat›]) = ((cs.count ‹Nat› : Nat) : Int) := by
      have := PyProof.Rows.count_cnt (cstr cs) ‹Nat›
      rw [cnt_eq] at this
      simpa [cstr] using this
    rw [e]
    exact k _ _ .refl (.imm (.int _))
  · cases hg
end
end DL
namespace DL
open PySem PySem.Spec PyProof.Rows L2

/-! ### what a def does -/
abbrev FnD := Option M → List D → FOut
inductive BorR (G : Gm) (H : Hp) : Option Addr → Option M → Prop
  | none : BorR G H none none
  | some {a : Addr} {m : M} (h : Obm G H a m) : BorR G H (some a) (some m)
def refs (B : Option Addr) : List V := match B with
  | some a => [.ref a]
  | none => []
def endF (G : Gm) (H : Hp) (B : Option Addr) (Q : VK) (E : XK) : FOut → Prop
  | .ret r om => ∀ v H', Fr G.T (fun b => B = some b) H H' → BorR G H' B om → ResR G H H' v r → Q v H'
  | .exc x om => ∀ cls d H', Fr G.T (fun b => B = some b) H H' → BorR G H' B om → ExR G H' x cls d → E cls d H'
  | .bad => False
def spF (G : Gm) (n : Nat) (f : FnD) : Sp := fun vs H Q E => LamX.Tabs G.T H ∧ ∃ (B : Option Addr) (om : Option M) (us : List V) (ds : List D), vs = refs B ++ us ∧ vs.length = n ∧ BorR G H B om ∧ ImmL G H us ds ∧ endF G H B Q E (f om ds)

section
variable {c : Cn} {W : Wx} {X : Cx} {A : Addr → Prop} {ρ : Env} {σ : Sg} {H0 H H' H1 : Hp}
def Slot.put (m : M) : Slot → Slot
  | .own _ => .own m
  | .bor _ => .bor m
  | s => s
def callP (f : FnD) (ds : List D) (ρ : Env) : Out Pk := match f none ds with
  | .ret r _ => .ok (.res r) ρ
  | .exc x _ => .exc x ρ
  | .bad => .bad
def callQ (f : FnD) (i : Nat) (m : M) (ds : List D) (ρ : Env) : Out Pk := match f (some m) ds with
  | .ret r (some m') => .ok (.res r) (ρ.modify i (Slot.put m'))
  | .exc x (some m') => .exc x (ρ.modify i (Slot.put m'))
  | _ => .bad
def callOut (f : FnD) (ks : List Pk) (ρ : Env) : Out Pk := match ks with
  | .at i :: ks' => match (ρ[i]?).bind Slot.obj?, imms ks' with
    | some m, some ds => callQ f i m ds ρ
    | _, _ => .bad
  | ks => match imms ks with
    | some ds => callP f ds ρ
    | none => .bad
def eCall (n : Nat) (f : FnD) (args : AV) : EV := fun ρ => (args ρ).bind fun ks ρ1 => if ks.length = n then callOut f ks ρ1 else .bad

/-- the state when the object of slot i has changed -/
theorem Stt.put {i : Nat} {a : Addr} {m' : M} (S : Stt c A ρ σ H) (F : Fr c.G.T (fun b => b = a) H H') (o : OwnAt ρ σ i a) (h : Obm c.G H' a m') : Stt c A (ρ.modify i (Slot.put m')) σ H' := by
  have hA := S.inA i a o
  obtain ⟨ho, s, m0, hs, hm⟩ := o
  have hi : i < ρ.length := (List.getElem?_eq_some_iff.mp hs).1
  have get : ∀ j, (ρ.modify i (Slot.put m'))[j]? = if j = i then some (s.put m') else ρ[j]? := fun j => by
    rw [List.getElem?_modify]
    by_cases z : j = i
    · subst z; simp [hs]
    · simp [z, Ne.symm z]
  have sub : ∀ {j b}, OwnAt (ρ.modify i (Slot.put m')) σ j b → OwnAt ρ σ j b := fun {j b} ⟨h1, s', m'', h2, h3⟩ => by
    rw [get] at h2
    by_cases z : j = i
    · subst z; exact ⟨h1, s, m0, hs, hm⟩
    · rw [if_neg z] at h2; exact ⟨h1, s', m'', h2, h3⟩
  refine ⟨by rw [List.length_modify]; exact S.len, fun j s' e => ?_, fun j k b x y => S.inj j k b (sub x) (sub y), fun j b x => S.inA j b (sub x), fun b z => F.dom b (S.live b z), fun b w e n p => ?_, fun b z => F.dom b (S.dom b z), S.oldA, fun j b m e q => ?_, fun j b m e q => ?_, S.bAll, F.tabs S.tabs, S.tabs0⟩
  · rw [get] at e
    by_cases z : j = i
    · subst z
      rw [if_pos rfl] at e
      cases e
      refine ⟨_, ho, ?_⟩
      cases s with
      | own _ => exact .own h
      | bor _ => exact .bor h
      | non => cases hm
      | imm _ => cases hm
    · rw [if_neg z] at e
      obtain ⟨v, hv, r⟩ := S.slot j s' e
      refine ⟨v, hv, r.fr F fun m2 a2 h2 h3 z2 => ?_⟩
      subst z2 h3
      exact z (S.inj j i _ ⟨hv, s', m2, e, h2⟩ ⟨ho, s, m0, hs, hm⟩)
  · refine F.keep b w (S.base b w e n p) n ?_
    rcases p with p | p
    · exact .inl p
    · refine .inr fun z => ?_
      subst z
      rcases S.oldA b hA with q | q
      · rw [q] at e; cases e
      · exact p q
  · rw [get] at e
    by_cases z : j = i
    · subst z
      rw [if_pos rfl] at e
      cases s with
      | own m1 => exact S.ownN j b m1 hs q
      | bor _ => cases e
      | non => cases hm
      | imm _ => cases hm
    · rw [if_neg z] at e; exact S.ownN j b m e q
  · rw [get] at e
    by_cases z : j = i
    · subst z
      rw [if_pos rfl] at e
      cases s with
      | bor m1 => exact S.borN j b m1 hs q
      | own _ => cases e
      | non => cases hm
      | imm _ => cases hm
    · rw [if_neg z] at e; exact S.borN j b m e q

theorem PkL.length : ∀ {vs : List V} {ks : List Pk}, PkL c A H0 H σ vs ks → vs.length = ks.length
  | _, _, .nil => rfl
  | _, _, .cons _ t => by simp [t.length]
theorem useP {f : FnD} {n : Nat} {ks : List Pk} {ds : List D} {vs : List V} {Q : VK} (S : Stt c A ρ σ H1) (F1 : Fr c.G.T A H H1) (R : PkL c A H H1 σ vs ks) (hl : ks.length = n) (e : imms ks = some ds) (q : (callP f ds ρ).post (kP c A H σ Q) (kX c W A H σ)) :
    spF c.G n f vs H1 Q (WE W σ) := by
  refine ⟨S.tabs, none, none, vs, ds, rfl, by rw [R.length, hl], .none, R.imms e, ?_⟩
  unfold callP at q
  generalize f none ds = o at q
  have em : ∀ {H' : Hp}, Fr c.G.T (fun b => (none : Option Addr) = some b) H1 H' → Fr c.G.T (fun _ => False) H1 H' := fun F => F.mono fun _ z => nomatch z
  cases o with
  | ret r om =>
    intro v H' F' _ r'
    exact fin1 q S F1 (em F') r'
  | exc x om =>
    intro cls d H' F' _ r'
    exact q cls d H' (S.grow (em F')) (F1.trans (em F').any) r'
  | bad => exact q
theorem useQ {f : FnD} {n i : Nat} {ks : List Pk} {ds : List D} {m : M} {v : V} {vs : List V} {Q : VK} (S : Stt c A ρ σ H1) (F1 : Fr c.G.T A H H1) (hv : σ[i]? = some (some v)) (R : PkL c A H H1 σ vs ks) (hl : ks.length + 1 = n) (e : imms ks = some ds) (em : (ρ[i]?).bind Slot.obj? = some m)
    (q : (callQ f i m ds ρ).post (kP c A H σ Q) (kX c W A H σ)) : spF c.G n f (v :: vs) H1 Q (WE W σ) := by
  simp only [Option.bind_eq_some_iff] at em
  obtain ⟨s, hs, hm⟩ := em
  obtain ⟨a, o, ho⟩ := S.is hs hm
  have := o.1
  rw [hv] at this
  cases this
  have hA := S.inA i a o
  refine ⟨S.tabs, some a, some m, vs, ds, rfl, by rw [List.length_cons, R.length, hl], .some ho, R.imms e, ?_⟩
  unfold callQ at q
  generalize f (some m) ds = oo at q
  have eF : ∀ {H' : Hp}, Fr c.G.T (fun b => (some a : Option Addr) = some b) H1 H' → Fr c.G.T (fun b => b = a) H1 H' := fun F => F.mono fun _ z => (Option.some.inj z).symm
  cases oo with
  | ret r om =>
    intro v H' F' B r'
    cases B with
    | some h' =>
      have S' := S.put (eF F') o h'
      exact q v H' S' (F1.trans ((eF F').mono fun b z => z ▸ hA)) (.res (r'.old F1))
  | exc x om =>
    intro cls d H' F' B r'
    cases B with
    | some h' =>
      have S' := S.put (eF F') o h'
      exact q cls d H' S' (F1.trans ((eF F').mono fun b z => z ▸ hA)) r'
  | bad => exact q
theorem useCall {f : FnD} {n : Nat} {args : AV} {Q : VK} (h : tP c W (eCall n f args) σ H Q) : tCallS (spF c.G n f) (fun σ => WE W σ) (tA c W args) σ H Q := by
  obtain ⟨ρ, A, S, h⟩ := h
  refine cutA S .refl ?_
  unfold eCall at h
  rw [Out.post_bind] at h
  refine Out.post_imp h (fun ks ρ1 q vs H1 S1 F1 R1 => ?_) fun _ _ q => q
  split at q
  · rename_i hl
    unfold callOut at q
    split at q
    · rename_i i ks'
      split at q
      · rename_i m ds e1 e2
        cases R1 with
        | cons h t =>
          cases h with
          | «at» hv => exact useQ S1 F1 hv t hl e2 e1 q
      · exact q.elim
    · split at q
      · rename_i ds e
        exact useP S1 F1 R1 hl e q
      · exact q.elim
  · exact q.elim
/-- a def's promise, for callers -/
structure FnP (c : Cn) (X : Cx) (k n : Nat) (f : Addr) (g : FnD) : Prop where
  ex : ∃ (fd : FuncData) (ps : List Str), FnOk X.prog X.w X.K X.mg X.base (L2N.CX X.prog X.w) k f fd ps (spF c.G n g) ∧ Binds X.K fd ps []
  kp : PySem.W.keepIn X.K (.ref f) = true
theorem dx_call {x : Str} {p pos : Pos} {e : Expr} {es : List Expr} {k n : Nat} {f : Addr} {g : FnD} {fa : AV} (F : FnP c X k n f g) (hr : Room k X.A) (hg : Gl X x) (hm : X.mg x = some (.ref f)) (tk : L2N.Takes X W) (ha : DA c W X (e :: es) fa)
    (hdb : (x == ("__debug__" : Str)) = false := by decide) (he : starEach (e :: es) X.env = (false, eval e X.env) :: starEach es X.env := by rfl) (hpl : (backTo pos (starEach es X.env)).any (·.1) = false := by rfl) :
    DX c W X (.Call (.Name x p) (e :: es) [] pos) (eCall n g fa) := by
  obtain ⟨fd, ps, h1, h2⟩ := F.ex
  exact PE.imp (pe_callS h1 hr hg hm F.kp h2 (L2N.passAt tk) ha hdb he hpl) fun _ _ _ h => useCall h
end
end DL
namespace DL
open PySem PySem.Spec PyProof.Rows L2

section
variable {c : Cn} {W : Wx} {X : Cx} {A : Addr → Prop} {ρ : Env} {σ : Sg} {H0 H H' H1 : Hp}

/-! ### stores of trees -/
theorem set_get {α : Type} {l : List α} {i j : Nat} {x : α} : (l.set i x)[j]? = if j = i then (if i < l.length then some x else none) else l[j]? := by
  by_cases h : j = i
  · subst h
    rw [if_pos rfl]
    by_cases hl : j < l.length
    · rw [List.getElem?_set_self hl, if_pos hl]
    · rw [if_neg hl, List.getElem?_eq_none (by rw [List.length_set]; omega)]
  · rw [if_neg h, List.getElem?_set_ne (Ne.symm h)]
theorem Stt.setImm (S : Stt c A ρ σ H) (i : Nat) {s : Slot} {v : Option V} (hs : s.obj? = none) (r : SlotR c.G H s v) : Stt c A (ρ.set i s) (σ.set i v) H := by
  have sub : ∀ {j b}, OwnAt (ρ.set i s) (σ.set i v) j b → OwnAt ρ σ j b ∧ j ≠ i := fun {j b} ⟨h1, s', m', h2, h3⟩ => by
    rw [set_get] at h1 h2
    by_cases z : j = i
    · rw [if_pos z] at h2
      split at h2
      · cases h2; rw [hs] at h3; cases h3
      · cases h2
    · rw [if_neg z] at h1 h2
      exact ⟨⟨h1, s', m', h2, h3⟩, z⟩
  refine ⟨by rw [List.length_set, List.length_set]; exact S.len, fun j s' e => ?_, fun j k b x y => S.inj j k b (sub x).1 (sub y).1, fun j b x => S.inA j b (sub x).1, S.live, S.base, S.dom, S.oldA, fun j b m e q => ?_, fun j b m e q => ?_, S.bAll, S.tabs, S.tabs0⟩
  · rw [set_get] at e ⊢
    by_cases z : j = i
    · rw [if_pos z] at e ⊢
      rw [S.len]
      split at e
      · rename_i hi
        cases e
        exact ⟨v, if_pos hi, r⟩
      · cases e
    · rw [if_neg z] at e ⊢
      exact S.slot j s' e
  · rw [set_get] at e q
    by_cases z : j = i
    · rw [if_pos z] at e
      split at e
      · cases e; cases hs
      · cases e
    · rw [if_neg z] at e q; exact S.ownN j b m e q
  · rw [set_get] at e q
    by_cases z : j = i
    · rw [if_pos z] at e
      split at e
      · cases e; cases hs
      · cases e
    · rw [if_neg z] at e q; exact S.borN j b m e q

/-! ### targets -/
def SameBut (is : List Nat) (σ σ' : Sg) : Prop := σ'.length = σ.length ∧ ∀ i, i ∉ is → σ'[i]? = σ[i]?
abbrev GV := D → Env → Option Env
abbrev GVs := List D → Env → Option Env
def gN (i : Nat) : GV := fun d ρ => some (ρ.set i (.imm d))
def gsN : GVs := fun ds ρ => match ds with
  | [] => some ρ
  | _ => none
def gsC (g : GV) (gs : GVs) : GVs := fun ds ρ => match ds with
  | d :: ds => (g d ρ).bind fun ρ1 => gs ds ρ1
  | [] => none
def gT (n : Nat) (gs : GVs) : GV := fun d ρ => match d with
  | .tup ds => if ds.length = n then gs ds ρ else none
  | _ => none
def tG (c : Cn) (is : List Nat) (g : GV) : TG := fun v σ H Q => ∃ ρ A d ρ', Stt c A ρ σ H ∧ Imm c.G H v d ∧ g d ρ = some ρ' ∧ ∀ σ', Stt c A ρ' σ' H → SameBut is σ σ' → Q σ' H
def tGs (c : Cn) (is : List Nat) (g : GVs) : TGs := fun vs σ H Q => ∃ ρ A ds ρ', Stt c A ρ σ H ∧ ImmL c.G H vs ds ∧ g ds ρ = some ρ' ∧ ∀ σ', Stt c A ρ' σ' H → SameBut is σ σ' → Q σ' H
def DG (c : Cn) (X : Cx) (tg : Expr) (is : List Nat) (g : GV) : Prop := PG X tg (tG c is g)
def DGs (c : Cn) (X : Cx) (tgs : List Expr) (is : List Nat) (g : GVs) : Prop := PGs X tgs (tGs c is g)
theorem PG.imp {X : Cx} {e : Expr} {t t' : TG} (h : PG X e t) (i : ∀ v σ H Q, t' v σ H Q → t v σ H Q) : PG X e t' := ⟨fun pins s σ H v u Q I r q => h.run pins s σ H v u Q I r (i _ _ _ _ q)⟩
theorem PGs.imp {X : Cx} {e : List Expr} {t t' : TGs} (h : PGs X e t) (i : ∀ v σ H Q, t' v σ H Q → t v σ H Q) : PGs X e t' := ⟨fun pins s σ H v u Q I r q => h.run pins s σ H v u Q I r (i _ _ _ _ q)⟩
theorem dg_name {i : Nat} {x : Str} {pos : Pos} (hN : X.N.Nodup) (hi : X.N[i]? = some x) (hx : Loc X.env.scope x) (hf : X.fn x = true ∨ X.env.scope.names.lookup x = some .local := by first | exact .inl rfl | exact .inr rfl | assumption) : DG c X (.Name x pos) [i] (gN i) := by
  refine PG.imp (pg_name (i := i) hN hi hx hf) fun v σ H Q ⟨ρ, A, d, ρ', S, r, e, q⟩ => ?_
  cases e
  exact q _ (S.setImm i rfl (.imm r)) ⟨List.length_set, fun j hj => by rw [set_get, if_neg (fun z => hj (by simp [z]))]⟩
theorem dgs_nil : DGs c X [] [] gsN := by
  refine PGs.imp pgs_nil fun v σ H Q ⟨ρ, A, ds, ρ', S, r, e, q⟩ => ?_
  cases r with
  | nil => cases e; exact ⟨rfl, q _ S ⟨rfl, fun _ _ => rfl⟩⟩
  | cons _ _ => cases e
theorem dgs_cons {e : Expr} {es : List Expr} {is js : List Nat} {g : GV} {gs : GVs} (h1 : DG c X e is g) (h2 : DGs c X es js gs) (hs : (assignEach (e :: es) X.env).map (·.2) = assign e X.env :: (assignEach es X.env).map (·.2) := by rfl) : DGs c X (e :: es) (is ++ js) (gsC g gs) := by
  refine PGs.imp (pgs_cons h1 h2 hs) fun v σ H Q ⟨ρ, A, ds, ρ', S, r, e, q⟩ => ?_
  cases r with
  | nil => cases e
  | cons h t =>
    simp only [gsC, Option.bind_eq_some_iff] at e
    obtain ⟨ρ1, e1, e2⟩ := e
    refine ⟨_, _, rfl, ρ, A, _, ρ1, S, h, e1, fun σ1 S1 b1 => ⟨ρ1, A, _, ρ', S1, t, e2, fun σ2 S2 b2 => q σ2 S2 ⟨b2.1.trans b1.1, fun i hi => ?_⟩⟩⟩
    rw [List.mem_append] at hi
    rw [b2.2 i fun z => hi (.inr z), b1.2 i fun z => hi (.inl z)]
theorem dg_tup {es : List Expr} {k : Nat} {is : List Nat} {gs : GVs} {n : Nat} {pos : Pos} (hK : X.K = c.G.K) (hc : X.calm = true) (h : DGs c X es is gs) (hn : (assignEach es X.env).length = n := by rfl) (hst : (assignEach es X.env).findIdx? (·.1) = none := by rfl) :
    DG c X (.Tuple es k pos) is (gT n gs) := by
  refine PG.imp (pg_tup hc h hn hst) fun v σ H Q ⟨ρ, A, d, ρ', S, r, e, q⟩ => ?_
  unfold gT at e
  split at e
  · split at e
    · rename_i hl
      obtain ⟨a, xs, rfl, h1, h2, _⟩ := Vw.tup (.imm r)
      exact ⟨a, xs, rfl, hK ▸ h1.sq, by rw [h2.length, hl], ρ, A, _, ρ', S, h2, e, q⟩
    · cases e
  · cases e

/-! ### what is walked -/
structure ItR (G : Gm) (J : It) (H1 : Hp) (ds : List D) : Prop where
  go : ∀ H, Ps H1 H → ∀ i, i < ds.length → J.go i H
  stop : ∀ H, Ps H1 H → ∀ i, ds.length ≤ i → J.stop i H
  yld : ∀ H, Ps H1 H → ∀ i x H', i < ds.length → J.yld i H x H' → ∃ d, ds[i]? = some d ∧ Imm G H' x d ∧ Fr G.T (fun _ => False) H H'
abbrev IV := Env → Out (List D)
def kI (b : Bool) (c : Cn) (A : Addr → Prop) (H : Hp) (σ : Sg) (R : It → Hp → Prop) : List D → Env → Prop := fun ds ρ' => ∀ J H', Stt c A ρ' σ H' → Fr c.G.T A H H' → ItR c.G J H' ds → (b = true → ds.length ≤ sizeLine) → R J H'
def tI (b : Bool) (c : Cn) (W : Wx) (f : IV) : TI := fun σ H R => ∃ ρ A, Stt c A ρ σ H ∧ (f ρ).post (kI b c A H σ R) (kX c W A H σ)
def DI (b : Bool) (c : Cn) (W : Wx) (X : Cx) (tg e : Expr) (f : IV) : Prop := PI X tg e (tI b c W f)
theorem PI.imp {X : Cx} {tg e : Expr} {t t' : TI} (h : PI X tg e t) (i : ∀ σ H Q, t' σ H Q → t σ H Q) : PI X tg e t' := ⟨fun pins s σ H Q I q => h.run pins s σ H Q I (i _ _ _ q)⟩
theorem PI.or {X : Cx} {tg e : Expr} {t t' : TI} (h : PI X tg e t) (h' : PI X tg e t') : PI X tg e (fun σ H R => t σ H R ∨ t' σ H R) := ⟨fun pins s σ H Q I q => q.elim (h.run pins s σ H Q I) (h'.run pins s σ H Q I)⟩
def iSeq (f : EV) : IV := fun ρ => (f ρ).bind fun k ρ1 => match k with
  | .res (.imm (.lst ds)) => .ok ds ρ1
  | .res (.imm (.tup ds)) => .ok ds ρ1
  | .res (.imm (.str cs)) => .ok (cs.map fun ch => .str [ch]) ρ1
  | _ => .bad
theorem it_list {G : Gm} {a : Addr} {o : Obj} {xs : List V} {ds : List D} (h : H1 a = some (.frz o (.lst xs))) (r : ImmL G H1 xs ds) : ItR G (Itl G.K a) H1 ds := by
  have sq : ∀ H, Ps H1 H → SqL G.K H a xs := fun H p => .inl (.inr ⟨o, p _ _ h trivial⟩)
  refine ⟨fun H p i hi => ?_, fun H p i hi => ⟨xs, sq H p, by rw [r.length]; exact hi⟩, fun H p i x H' hlt y => ?_⟩
  · have hi' : i < xs.length := by rw [r.length]; exact hi
    exact ⟨xs, xs[i], sq H p, List.getElem?_eq_getElem hi'⟩
  · obtain ⟨e, y⟩ := y
    subst e
    obtain ⟨d, e, q⟩ := r.get' (y xs (sq _ p))
    exact ⟨d, e, q.ps p, .refl⟩
theorem it_tup {G : Gm} {a : Addr} {xs : List V} {ds : List D} (h : TupA G.K H1 a xs) (r : ImmL G H1 xs ds) : ItR G (Itt G.K a) H1 ds := by
  have sq : ∀ H, Ps H1 H → SqT G.K H a xs := fun H p => (h.ps p).sq
  refine ⟨fun H p i hi => ?_, fun H p i hi => ⟨xs, sq H p, by rw [r.length]; exact hi⟩, fun H p i x H' hlt y => ?_⟩
  · have hi' : i < xs.length := by rw [r.length]; exact hi
    exact ⟨xs, xs[i], sq H p, List.getElem?_eq_getElem hi'⟩
  · obtain ⟨e, y⟩ := y
    subst e
    obtain ⟨d, e, q⟩ := r.get' (y xs (sq _ p))
    exact ⟨d, e, q.ps p, .refl⟩
/-- the value is known -/
theorem cutOk {f : EV} {k : Pk} {ρ' : Env} {R : VK} (S : Stt c A ρ σ H) (e : f ρ = .ok k ρ') (h : kP c A H σ R k ρ') : tP c W f σ H R := ⟨ρ, A, S, by rw [e]; exact h⟩
theorem cutExc {f : EV} {x : Ex} {ρ' : Env} {R : VK} (S : Stt c A ρ σ H) (e : f ρ = .exc x ρ') (h : kX c W A H σ x ρ') : tP c W f σ H R := ⟨ρ, A, S, by rw [e]; exact h⟩
theorem it_str {G : Gm} {cs : List Nat} (h1 : (cs.all (· < 0x110000)) = true) : ItR G (Its (cstr cs)) H1 (cs.map fun ch => .str [ch]) := by
  have sz : (cstr cs).cps.size = cs.length := by simp [cstr]
  refine ⟨fun H p i hi => ?_, fun H p i hi => ?_, fun H p i x H' _ y => ?_⟩
  · show i < (cstr cs).cps.size; rw [sz]; simpa using hi
  · show (cstr cs).cps.size ≤ i; rw [sz]; simpa using hi
  · obtain ⟨e, ch, e1, e2⟩ := y
    subst e; subst e2
    have e3 : cs[i]? = some ch := by simpa [cstr] using e1
    refine ⟨.str [ch], by simp [e3], ?_, .refl⟩
    have := List.all_eq_true.mp h1 ch (List.mem_of_getElem? e3)
    exact .str [ch] (by simpa using this) (by show 1 ≤ sizeLine; decide)
/-- a list, a tuple, a text -/
theorem di_seq {b : Bool} {tg e : Expr} {f : EV} (hK : X.K = c.G.K) (he : DX c W X e f) : DI b c W X tg e (iSeq (frzE f)) := by
  refine PI.imp (PI.or (pi_list (dx_frz he)) (PI.or (pi_tup (dx_frz he)) (pi_str (dx_frz he)))) fun σ H R ⟨ρ, A, S, h⟩ => ?_
  unfold iSeq at h
  cases e : frzE f ρ with
  | bad => rw [e] at h; exact h.elim
  | exc x ρ1 => rw [e] at h; exact .inl (cutExc S e h)
  | ok k ρ1 =>
    rw [e] at h
    simp only [Out.bind] at h
    split at h
    · refine .inl (cutOk S e fun v H1 S1 F1 R1 => ?_)
      cases R1 with
      | res R1 =>
        cases R1 with
        | imm R1 =>
          cases R1 with
          | lst h1 r hl => exact ⟨_, rfl, ⟨_, .inl (.inr ⟨_, h1⟩)⟩, h _ H1 S1 F1 (hK ▸ it_list h1 r) fun _ => hl⟩
    · refine .inr (.inl (cutOk S e fun v H1 S1 F1 R1 => ?_))
      cases R1 with
      | res R1 =>
        cases R1 with
        | imm R1 =>
          cases R1 with
          | tup h1 r hl => exact ⟨_, rfl, ⟨_, hK ▸ h1.sq⟩, h _ H1 S1 F1 (hK ▸ it_tup h1 r) fun _ => hl⟩
    · refine .inr (.inr (cutOk S e fun v H1 S1 F1 R1 => ?_))
      cases R1 with
      | res R1 =>
        cases R1 with
        | imm R1 =>
          cases R1 with
          | str _ h1 h2 => exact ⟨_, rfl, h _ H1 S1 F1 (it_str h1) fun _ => by rw [List.length_map]; exact h2⟩
    · exact h.elim
/-- a range -/
def rng (lo : Int) (n : Nat) : List D := (List.range n).map fun i => .int (lo + (i : Nat))
def iR1 (f : AV) : IV := fun ρ => (f ρ).bind fun ks ρ1 => match imms ks with
  | some [.int j] => if -(2 ^ 62) ≤ j ∧ j < 2 ^ 62 then .ok (rng 0 j.toNat) ρ1 else .bad
  | _ => .bad
def iR2 (f : AV) : IV := fun ρ => (f ρ).bind fun ks ρ1 => match imms ks with
  | some [.int i, .int j] => if (-(2 ^ 62) ≤ i ∧ i < 2 ^ 62) ∧ -(2 ^ 62) ≤ j ∧ j < 2 ^ 62 then .ok (rng i (j - i).toNat) ρ1 else .bad
  | _ => .bad
theorem it_rng {G : Gm} {lo : Int} {n : Nat} : ItR G (Itr lo n) H1 (rng lo n) := by
  have e : (rng lo n).length = n := by simp [rng]
  refine ⟨fun H p i hi => by rw [e] at hi; exact hi, fun H p i hi => by rw [e] at hi; exact hi, fun H p i x H' hlt y => ?_⟩
  obtain ⟨e1, e2⟩ := y
  subst e1; subst e2
  rw [e] at hlt
  exact ⟨.int (lo + (i : Nat)), by simp [rng, hlt], .int _, .refl⟩
theorem imms_int {G : Gm} {vs : List V} {j : Int} (r : ImmL G H vs [.int j]) : vs = [.int j] := by
  cases r with | cons h t => cases t; cases h; rfl
theorem imms_int2 {G : Gm} {vs : List V} {i j : Int} (r : ImmL G H vs [.int i, .int j]) : vs = [.int i, .int j] := by
  cases r with | cons h t => cases t with | cons h' t => cases t; cases h; cases h'; rfl
theorem di_range1 {tg a : Expr} {f : AV} {p pos : Pos} (hg : Gl X "range") (hm : X.mg "range" = none) (ha : DA c W X [a] f) (hs : starEach [a] X.env = [(false, eval a X.env)] := by rfl) : DI false c W X tg (.Call (.Name "range" p) [a] [] pos) (iR1 f) := by
  refine PI.imp (pi_range1 hg hm ha hs) fun σ H R ⟨ρ, A, S, h⟩ => cutA S .refl ?_
  unfold iR1 at h
  rw [Out.post_bind] at h
  refine Out.post_imp h (fun ks ρ1 q vs H1 S1 F1 R1 => ?_) fun _ _ q => q
  split at q
  · rename_i j e
    split at q
    · rename_i hj
      exact ⟨j, imms_int (R1.imms e), hj.1, hj.2, q _ H1 S1 F1 it_rng fun z => nomatch z⟩
    · exact q.elim
  · exact q.elim
theorem di_range2 {tg a b : Expr} {f : AV} {p pos : Pos} (hg : Gl X "range") (hm : X.mg "range" = none) (ha : DA c W X [a, b] f) (hs : starEach [a, b] X.env = [(false, eval a X.env), (false, eval b X.env)] := by rfl) (hs2 : starEach [b] X.env = [(false, eval b X.env)] := by rfl) : DI false c W X tg (.Call (.Name "range" p) [a, b] [] pos) (iR2 f) := by
  refine PI.imp (pi_range2 hg hm ha hs hs2) fun σ H R ⟨ρ, A, S, h⟩ => cutA S .refl ?_
  unfold iR2 at h
  rw [Out.post_bind] at h
  refine Out.post_imp h (fun ks ρ1 q vs H1 S1 F1 R1 => ?_) fun _ _ q => q
  split at q
  · rename_i i j e
    split at q
    · rename_i hj
      exact ⟨i, j, imms_int2 (R1.imms e), ⟨hj.1.1, hj.1.2, hj.2.1, hj.2.2⟩, q _ H1 S1 F1 it_rng fun z => nomatch z⟩
    · exact q.elim
  · exact q.elim

def iL (f : IV) : IV := fun ρ => (f ρ).bind fun ds ρ1 => if ds.length ≤ sizeLine then .ok ds ρ1 else .bad
theorem di_lim {tg e : Expr} {f : IV} (h : DI false c W X tg e f) : DI true c W X tg e (iL f) := by
  refine PI.imp h fun σ H R ⟨ρ, A, S, h⟩ => ⟨ρ, A, S, ?_⟩
  unfold iL at h
  rw [Out.post_bind] at h
  refine Out.post_imp h (fun ds ρ1 q J H1 S1 F1 R1 _ => ?_) fun _ _ q => q
  split at q
  · rename_i hl
    exact q J H1 S1 F1 R1 fun _ => hl
  · exact q.elim

/-! ### comprehensions -/
def wipeE (ρ : Env) : List Nat → Env
  | [] => ρ
  | v :: vs => (wipeE ρ vs).set v .non
def restE (ρ1 ρ2 : Env) : List Nat → Env
  | [] => ρ2
  | v :: vs => (restE ρ1 ρ2 vs).set v (ρ1[v]?.getD .non)
def plainAt (ρ : Env) (vs : List Nat) : Bool := vs.all fun v => match ρ[v]? with
  | some .non => true
  | some (.imm _) => true
  | _ => false
def lcD (g : GV) (tt : TV) (f : EV) (vs : List Nat) : List D → Env → Out (List D)
  | [], ρ => .ok [] ρ
  | d :: ds, ρ => match g d ρ with
    | none => .bad
    | some ρ1 => match tt ρ1 with
      | .ok false ρ2 => lcD g tt f vs ds (wipeE ρ2 vs)
      | .ok true ρ2 => match f ρ2 with
        | .ok (.res (.imm y)) ρ3 => (lcD g tt f vs ds (wipeE ρ3 vs)).bind fun ys ρ' => .ok (y :: ys) ρ'
        | _ => .bad
      | _ => .bad
def eLc (it : IV) (g : GV) (tt : TV) (f : EV) (vs : List Nat) : EV := fun ρ => (it ρ).bind fun ds ρ1 =>
  if plainAt ρ1 vs = true then
    match lcD g tt f vs ds (wipeE ρ1 vs) with
    | .ok ys ρ2 => .ok (.res (.new (.lst ys))) (restE ρ1 ρ2 vs)
    | _ => .bad
  else .bad
theorem wipe_get (σ : Sg) : ∀ (vs : List Nat) (i : Nat), (wipe σ vs)[i]? = if i ∈ vs then (if i < σ.length then some none else none) else σ[i]?
  | [], i => by simp [wipe]
  | v :: vs, i => by
    unfold wipe
    rw [set_get, wipe_length, wipe_get σ vs i]
    by_cases h : i = v
    · subst h; simp
    · simp [h]
theorem wipeE_len (ρ : Env) : ∀ vs : List Nat, (wipeE ρ vs).length = ρ.length
  | [] => rfl
  | v :: vs => by unfold wipeE; rw [List.length_set, wipeE_len ρ vs]
theorem wipeE_get (ρ : Env) : ∀ (vs : List Nat) (i : Nat), (wipeE ρ vs)[i]? = if i ∈ vs then (if i < ρ.length then some .non else none) else ρ[i]?
  | [], i => by simp [wipeE]
  | v :: vs, i => by
    unfold wipeE
    rw [set_get, wipeE_len, wipeE_get ρ vs i]
    by_cases h : i = v
    · subst h; simp
    · simp [h]
theorem restE_len (ρ1 ρ2 : Env) : ∀ vs : List Nat, (restE ρ1 ρ2 vs).length = ρ2.length
  | [] => rfl
  | v :: vs => by unfold restE; rw [List.length_set, restE_len ρ1 ρ2 vs]
theorem restE_get (ρ1 ρ2 : Env) : ∀ (vs : List Nat) (i : Nat), (restE ρ1 ρ2 vs)[i]? = if i ∈ vs then (if i < ρ2.length then some (ρ1[i]?.getD .non) else none) else ρ2[i]?
  | [], i => by simp [restE]
  | v :: vs, i => by
    unfold restE
    rw [set_get, restE_len, restE_get ρ1 ρ2 vs i]
    by_cases h : i = v
    · subst h; simp
    · simp [h]
theorem Stt.wipe (S : Stt c A ρ σ H) (vs : List Nat) : Stt c A (wipeE ρ vs) (L2.wipe σ vs) H := by
  have sub : ∀ {j b}, OwnAt (wipeE ρ vs) (L2.wipe σ vs) j b → OwnAt ρ σ j b := fun {j b} ⟨h1, s', m', h2, h3⟩ => by
    rw [wipe_get] at h1
    rw [wipeE_get] at h2
    split at h1
    · split at h1 <;> cases h1
    · rename_i z
      rw [if_neg z] at h2
      exact ⟨h1, s', m', h2, h3⟩
  refine ⟨by rw [wipe_length, wipeE_len]; exact S.len, fun j s' e => ?_, fun j k b x y => S.inj j k b (sub x) (sub y), fun j b x => S.inA j b (sub x), S.live, S.base, S.dom, S.oldA, fun j b m e q => ?_, fun j b m e q => ?_, S.bAll, S.tabs, S.tabs0⟩
  · rw [wipeE_get] at e
    rw [wipe_get, S.len]
    split at e
    · rename_i hv
      split at e
      · rename_i hj
        cases e
        exact ⟨none, by rw [if_pos hv, if_pos hj], .non _⟩
      · cases e
    · rename_i hv
      rw [if_neg hv]
      exact S.slot j s' e
  · rw [wipeE_get] at e
    rw [wipe_get] at q
    split at e
    · split at e <;> cases e
    · rename_i z
      rw [if_neg z] at q; exact S.ownN j b m e q
  · rw [wipeE_get] at e
    rw [wipe_get] at q
    split at e
    · split at e <;> cases e
    · rename_i z
      rw [if_neg z] at q; exact S.borN j b m e q
theorem plain_get {vs : List Nat} (h : plainAt ρ vs = true) {i : Nat} (hi : i ∈ vs) : ρ[i]? = some .non ∨ ∃ d, ρ[i]? = some (.imm d) := by
  have := List.all_eq_true.mp h i hi
  split at this
  · exact .inl (by assumption)
  · exact .inr ⟨_, by assumption⟩
  · cases this
theorem Stt.rest {vs : List Nat} {ρ2 : Env} (S : Stt c A ρ σ H) (S2 : Stt c A ρ2 (L2.wipe σ vs) H') (F : Fr c.G.T A H H') (hp : plainAt ρ vs = true) : Stt c A (restE ρ ρ2 vs) σ H' := by
  have l2 : ρ2.length = σ.length := by rw [← S2.len, wipe_length]
  have val : ∀ {j s}, (restE ρ ρ2 vs)[j]? = some s → j ∈ vs → s.obj? = none ∧ ∃ v, σ[j]? = some v ∧ SlotR c.G H' s v := fun {j s} e hj => by
    rw [restE_get, if_pos hj] at e
    split at e
    · cases e
      rcases plain_get hp hj with z | ⟨d, z⟩
      · rw [z]
        obtain ⟨v, hv, _⟩ := S.slot j _ z
        exact ⟨rfl, v, hv, .non _⟩
      · rw [z]
        obtain ⟨v, hv, r⟩ := S.slot j _ z
        refine ⟨rfl, v, hv, ?_⟩
        cases r with
        | imm r => exact .imm (r.ps F.ps)
    · cases e
  have sub : ∀ {j b}, OwnAt (restE ρ ρ2 vs) σ j b → OwnAt ρ2 (L2.wipe σ vs) j b := fun {j b} ⟨h1, s', m', h2, h3⟩ => by
    by_cases hj : j ∈ vs
    · rw [(val h2 hj).1] at h3; cases h3
    · rw [restE_get, if_neg hj] at h2
      exact ⟨by rw [wipe_get, if_neg hj]; exact h1, s', m', h2, h3⟩
  refine ⟨by rw [restE_len]; exact l2.symm, fun j s' e => ?_, fun j k b x y => S2.inj j k b (sub x) (sub y), fun j b x => S2.inA j b (sub x), S2.live, S2.base, S2.dom, S2.oldA, fun j b m e q => ?_, fun j b m e q => ?_, S2.bAll, S2.tabs, S2.tabs0⟩
  · by_cases hj : j ∈ vs
    · exact (val e hj).2
    · rw [restE_get, if_neg hj] at e
      obtain ⟨v, hv, r⟩ := S2.slot j s' e
      rw [wipe_get, if_neg hj] at hv
      exact ⟨v, hv, r⟩
  · by_cases hj : j ∈ vs
    · have := (val e hj).1; cases this
    · rw [restE_get, if_neg hj] at e
      exact S2.ownN j b m e (by rw [wipe_get, if_neg hj]; exact q)
  · by_cases hj : j ∈ vs
    · have := (val e hj).1; cases this
    · rw [restE_get, if_neg hj] at e
      exact S2.borN j b m e (by rw [wipe_get, if_neg hj]; exact q)
abbrev WF : Wx := fun _ _ _ _ => False
theorem wipe_same {σ' : Sg} {vs is : List Nat} (h : SameBut is (L2.wipe σ vs) σ') (hs : ∀ i ∈ is, i ∈ vs) : L2.wipe σ' vs = L2.wipe σ vs := by
  refine List.ext_getElem? fun i => ?_
  rw [wipe_get, wipe_get]
  have l : σ'.length = σ.length := by rw [h.1, wipe_length]
  by_cases hi : i ∈ vs
  · rw [if_pos hi, if_pos hi, l]
  · rw [if_neg hi, if_neg hi, h.2 i fun z => hi (hs i z), wipe_get, if_neg hi]
theorem wipe_wipe (σ : Sg) (vs : List Nat) : L2.wipe (L2.wipe σ vs) vs = L2.wipe σ vs := by
  refine List.ext_getElem? fun i => ?_
  rw [wipe_get, wipe_length, wipe_get]
  by_cases hi : i ∈ vs
  · rw [if_pos hi, if_pos hi]
  · rw [if_neg hi, if_neg hi]
theorem lcD_len {g : GV} {tt : TV} {f : EV} {vs : List Nat} : ∀ {ds : List D} {ρ ρ' : Env} {ys : List D}, lcD g tt f vs ds ρ = .ok ys ρ' → ys.length ≤ ds.length
  | [], ρ, ρ', ys, h => by cases h; exact Nat.zero_le _
  | d :: ds, ρ, ρ', ys, h => by
    unfold lcD at h
    split at h
    · cases h
    · split at h
      · exact Nat.le_succ_of_le (lcD_len h)
      · split at h
        · rename_i y ρ3 _
          cases e : lcD g tt f vs ds (wipeE ρ3 vs) with
          | ok zs ρ4 =>
            rw [e] at h
            cases h
            exact Nat.succ_le_succ (lcD_len e)
          | exc x r => rw [e] at h; cases h
          | bad => rw [e] at h; cases h
        · cases h
      · cases h
theorem Fr.late {T : List (Addr × Str)} {B : Addr → Prop} {p : Addr} {o : HO} (F : Fr T B H H1) (h : H p = none) (hn : H1 p = none ∨ ∃ u, H1 p = some u ∧ NCo u) : Fr T B H (upd H1 p o) := by
  refine ⟨fun b u e n q => ?_, fun b e => ?_, fun t => tabs_at hn (fun b e => upd_ne e) (F.tabs t)⟩
  · rw [upd_ne (fun z => by subst z; rw [h] at e; cases e)]; exact F.keep b u e n q
  · by_cases z : b = p
    · subst z; rw [upd_same]; exact fun z => nomatch z
    · rw [upd_ne z]; exact F.dom b e
theorem Stt.other {p : Addr} {o : HO} (S : Stt c A ρ σ H) (hA : ¬ A p) (h0 : c.H0 p = none) (hm : ∃ u, H p = some u ∧ ¬ Pst u ∧ NCo u) : Stt c A ρ σ (upd H p o) := by
  obtain ⟨u, hu, nu, nc⟩ := hm
  have F : Fr c.G.T (fun b => b = p) H (upd H p o) := ⟨fun b w e n q => by
    rw [upd_ne (fun z => by subst z; rw [hu] at e; cases e; exact q.elim nu fun z => z rfl)]; exact e, fun b e => by
    by_cases z : b = p
    · subst z; rw [upd_same]; exact fun z => nomatch z
    · rw [upd_ne z]; exact e, tabs_at (.inr ⟨u, hu, nc⟩) fun b e => upd_ne e⟩
  refine ⟨S.len, fun i s e => ?_, S.inj, S.inA, fun b q => F.dom b (S.live b q), fun b w e n q => F.keep b w (S.base b w e n q) n (.inr fun z => by subst z; rw [h0] at e; cases e), fun b q => F.dom b (S.dom b q), S.oldA, S.ownN, S.borN, S.bAll, F.tabs S.tabs, S.tabs0⟩
  obtain ⟨v, hv, r⟩ := S.slot i s e
  refine ⟨v, hv, r.fr F fun m a h1 h2 z => ?_⟩
  subst z h2
  exact hA (S.inA i _ ⟨hv, s, m, e, h1⟩)
def tTs (c : Cn) (W : Wx) (f : TV) : TT := tT c W f
def DTs (c : Cn) (W : Wx) (X : Cx) (ifs : List Expr) (f : TV) : Prop := PTs X ifs (tT c W f)
def tyYes : TV := fun ρ => .ok true ρ
theorem PTs.imp {X : Cx} {e : List Expr} {t t' : TT} (h : PTs X e t) (i : ∀ σ H Q, t' σ H Q → t σ H Q) : PTs X e t' := ⟨fun pins s σ H Q I q => h.run pins s σ H Q I (i _ _ _ q)⟩
theorem dts_nil : DTs c W X [] tyYes := PTs.imp pts_nil fun σ H Q ⟨ρ, A, S, h⟩ => h H S .refl
theorem dts_one {e : Expr} {f : TV} (h : DT c W X e f) : DTs c W X [e] f := pts_one h
theorem drop_cons {α : Type} {l : List α} {i : Nat} (h : i < l.length) : l.drop i = l[i] :: l.drop (i + 1) := List.drop_eq_getElem_cons h
theorem lc_imp {it : IV} {is vs : List Nat} {g : GV} {tt : TV} {f : EV} {Q : VK} (his : ∀ i ∈ is, i ∈ vs) (h : tP c W (eLc it g tt f vs) σ H Q) : tLc (tI true c W it) (tG c is g) (tT c WF tt) (tP c WF f) vs σ H Q := by
  obtain ⟨ρ, A, S, h⟩ := h
  refine ⟨ρ, A, S, ?_⟩
  unfold eLc at h
  rw [Out.post_bind] at h
  refine Out.post_imp h (fun ds ρ1 q J H1 S1 F1 R hsz D hD => ?_) fun _ _ q => q
  split at q
  rotate_left
  · exact q.elim
  rename_i hpl
  have hsz := hsz rfl
  split at q
  rotate_left
  · exact q.elim
  rename_i ys ρ2 hrun
  have nA : ¬ A D := fun z => S1.live D z hD
  have h0 : c.H0 D = none := Classical.byContradiction fun z => S1.dom D z hD
  refine ⟨fun i m Hc => m = ds.length - i ∧ i ≤ ds.length ∧ ∃ ρc acc rest xs, Stt c A ρc (L2.wipe σ vs) Hc ∧ Fr c.G.T A H1 Hc ∧ lcD g tt f vs (ds.drop i) ρc = .ok rest ρ2 ∧ acc ++ rest = ys ∧ Hc D = some (.lst xs) ∧ ImmL c.G Hc xs acc ∧ acc.length ≤ i, ⟨ds.length, by simp, Nat.zero_le _, wipeE ρ1 vs, [], ys, [], ?_⟩, ?_⟩
  · exact ⟨(S1.wipe vs).grow (.new hD), Fr.new hD, by simpa using hrun, rfl, upd_same, .nil, Nat.le_refl _⟩
  · rintro i m Hc ⟨rfl, hil, ρc, acc, rest, xs, Sc, Fc, hr, hacc, hDc, hxs, hla⟩
    by_cases hlt : i < ds.length
    rotate_left
    · have ei : ds.drop i = [] := List.drop_eq_nil_of_le (by omega)
      rw [ei] at hr
      simp only [lcD, Out.ok.injEq] at hr
      obtain ⟨rfl, rfl⟩ := hr
      rw [List.append_nil] at hacc
      subst hacc
      refine .inl ⟨R.stop Hc Fc.ps i (by omega), ?_⟩
      exact q _ Hc (S1.rest Sc Fc hpl) (F1.trans Fc) (.res ((ResR.new (H0 := H1) (.lst hDc hxs (by omega)) hD).old F1))
    · refine .inr ⟨R.go Hc Fc.ps i hlt, fun H' => ds.length - (i + 1) = ds.length - (i + 1) ∧ i + 1 ≤ ds.length ∧ ∃ ρc acc rest xs, Stt c A ρc (L2.wipe σ vs) H' ∧ Fr c.G.T A H1 H' ∧ lcD g tt f vs (ds.drop (i + 1)) ρc = .ok rest ρ2 ∧ acc ++ rest = ys ∧ H' D = some (.lst xs) ∧ ImmL c.G H' xs acc ∧ acc.length ≤ i + 1, fun H' n => ⟨ds.length - (i + 1), by omega, n⟩, fun x H' hy => ?_⟩
      obtain ⟨d, hd, hx, F'⟩ := R.yld Hc Fc.ps i x H' hlt hy
      rw [drop_cons hlt] at hr
      have ed : ds[i] = d := by rw [List.getElem?_eq_getElem hlt] at hd; exact Option.some.inj hd
      rw [ed] at hr
      have hD' : H' D = some (.lst xs) := F'.keep D _ hDc (fun _ z => nomatch z) (.inr fun z => z)
      unfold lcD at hr
      split at hr
      · cases hr
      rename_i ρ3 hgd
      refine ⟨ρc, A, d, ρ3, Sc.grow F', hx, hgd, fun σ3 S3 b3 => ⟨wipe_same b3 his, ρ3, A, S3, ?_⟩⟩
      have ew : L2.wipe σ3 vs = L2.wipe σ vs := by rw [wipe_same b3 his]
      have ew2 : L2.wipe (L2.wipe σ vs) vs = L2.wipe σ vs := wipe_wipe σ vs
      split at hr
      · rename_i ρ4 htt
        rw [htt]
        intro H4 S4 F4
        rw [if_neg Bool.false_ne_true]
        refine ⟨rfl, hlt, wipeE ρ4 vs, acc, rest, xs, ?_, Fc.trans (F'.any.trans F4), hr, hacc, F4.keep D _ hD' (fun _ z => nomatch z) (.inr nA), (hxs.ps F'.ps).ps F4.ps, by omega⟩
        have := S4.wipe vs
        rw [ew, ] at this
        exact this
      · rename_i ρ4 htt
        rw [htt]
        intro H4 S4 F4
        rw [if_pos rfl]
        split at hr
        rotate_left
        · cases hr
        rename_i y ρ5 hf
        refine ⟨ρ4, A, S4, ?_⟩
        rw [hf]
        intro v H5 S5 F5 R5
        have F45 := F4.trans F5
        have hD5 : H5 D = some (.lst xs) := F45.keep D _ hD' (fun _ z => nomatch z) (.inr nA)
        cases e : lcD g tt f vs (ds.drop (i + 1)) (wipeE ρ5 vs) with
        | bad => rw [e] at hr; cases hr
        | exc x r => rw [e] at hr; cases hr
        | ok zs ρ6 =>
          rw [e] at hr
          simp only [Out.bind, Out.ok.injEq] at hr
          obtain ⟨rfl, rfl⟩ := hr
          have hx5 : ImmL c.G H5 xs acc := (hxs.ps F'.ps).ps F45.ps
          refine ⟨xs, hD5, by rw [hx5.length]; omega, rfl, hlt, wipeE ρ5 vs, acc ++ [y], zs, xs ++ [v], ?_, ?_, e, by rw [List.append_assoc]; exact hacc, upd_same, ?_, by rw [List.length_append]; simpa using hla⟩
          · have := S5.wipe vs
            rw [ew] at this
            exact this.other nA h0 ⟨_, hD5, fun z => z, .lst⟩
          · exact (Fc.trans (F'.any.trans F45)).late hD (.inr ⟨_, hD5, .lst⟩)
          · have ps5 : Ps H5 (upd H5 D (.lst (xs ++ [v]))) := fun b u e p => by
              rw [upd_ne (fun z => by subst z; rw [hD5] at e; cases e; exact p)]; exact e
            cases R5 with
            | res R5 =>
              cases R5 with
              | imm R5 => exact (hx5.append (.cons R5 .nil)).ps ps5
      · cases hr
theorem dx_lc {elt tg iter : Expr} {ifs : List Expr} {scope : Scope} {own : List (Str × Nat)} {pos : Pos} {it : IV} {is : List Nat} {g : GV} {tt : TV} {f : EV} (hc : X.calm = true) (hN : X.N.Nodup) (hi : DI true c W X tg iter it) (ok : BlkOk X.N X.env.scope scope own) (his : ∀ i ∈ is, i ∈ own.map (·.2))
    (hg : ∀ (s : Shared) (H : Hp) (C : Addr) (cl : List (Str × Addr)) (fp : List Addr), DG c (X.blk s H scope (compEnvC scope cl C X.env) fp) tg is g) (ht : ∀ (s : Shared) (H : Hp) (C : Addr) (cl : List (Str × Addr)) (fp : List Addr), DTs c WF (X.blk s H scope (compEnvC scope cl C X.env) fp) ifs tt)
    (he : ∀ (s : Shared) (H : Hp) (C : Addr) (cl : List (Str × Addr)) (fp : List Addr), DX c WF (X.blk s H scope (compEnvC scope cl C X.env) fp) elt f) (hs : ∀ x, foldedSetIterable iter X.env x = pure x := by intro _; rfl) :
    DX c W X (.ListComp elt [⟨tg, iter, ifs, 0⟩] scope pos) (eLc it g tt f (own.map (·.2))) := by
  exact PE.imp (pe_lc hc hN hi ok hg ht he hs) fun σ H Q h => lc_imp his h
end
end DL
namespace DL
open PySem PySem.Spec PyProof.Rows L2

def stB {α : Type} (f : Env → Out α) (k : α → Env → SOut) : SV := fun ρ => match f ρ with
  | .ok a ρ' => k a ρ'
  | .exc x ρ' => .exc x ρ'
  | .bad => .bad
section
variable {c : Cn} {W : Wx} {X : Cx} {A : Addr → Prop} {ρ : Env} {σ : Sg} {H0 H H' H1 : Hp} {D : Ends}
theorem sP.ps {o : SOut} (h : sP c W H D o) (p : Ps H H1) : sP c W H1 D o := by
  cases o with
  | nx ρ => exact fun σ' H' A' S q => h σ' H' A' S (p.trans q)
  | bk ρ => exact fun σ' H' A' S q => h σ' H' A' S (p.trans q)
  | ct ρ => exact fun σ' H' A' S q => h σ' H' A' S (p.trans q)
  | rt r ρ => exact fun v σ' H' A' S q => h v σ' H' A' S (p.trans q)
  | exc x ρ => exact fun cls d σ' H' A' S q => h cls d σ' H' A' S (p.trans q)
  | bad => exact h
theorem sP.kX {x : Ex} (h : sP c W H D (.exc x ρ)) : kX c W A H σ x ρ := fun cls d H' S F E => h cls d σ H' A S F.ps E
theorem useS {f : EV} {k : Pk → Env → SOut} {R : VK} (S : Stt c A ρ σ H) (h : sP c W H D (stB f k ρ)) (hk : ∀ a ρ1 v H1, Stt c A ρ1 σ H1 → Fr c.G.T A H H1 → PkR c A H H1 σ v a → sP c W H1 D (k a ρ1) → R v H1) : tP c W f σ H R := by
  refine ⟨ρ, A, S, ?_⟩
  unfold stB at h
  cases e : f ρ with
  | ok a ρ1 => rw [e] at h; exact fun v H1 S1 F1 R1 => hk a ρ1 v H1 S1 F1 R1 (h.ps F1.ps)
  | exc x ρ1 => rw [e] at h; exact h.kX
  | bad => rw [e] at h; exact h
theorem useSA {f : AV} {k : List Pk → Env → SOut} {R : List V → Hp → Prop} (S : Stt c A ρ σ H) (h : sP c W H D (stB f k ρ)) (hk : ∀ a ρ1 v H1, Stt c A ρ1 σ H1 → Fr c.G.T A H H1 → PkL c A H H1 σ v a → sP c W H1 D (k a ρ1) → R v H1) : tA c W f σ H R := by
  refine ⟨ρ, A, S, ?_⟩
  unfold stB at h
  cases e : f ρ with
  | ok a ρ1 => rw [e] at h; exact fun v H1 S1 F1 R1 => hk a ρ1 v H1 S1 F1 R1 (h.ps F1.ps)
  | exc x ρ1 => rw [e] at h; exact h.kX
  | bad => rw [e] at h; exact h
theorem useST {f : TV} {k : Bool → Env → SOut} {R : Bool → Hp → Prop} (S : Stt c A ρ σ H) (h : sP c W H D (stB f k ρ)) (hk : ∀ a ρ1 H1, Stt c A ρ1 σ H1 → Fr c.G.T A H H1 → sP c W H1 D (k a ρ1) → R a H1) : tT c W f σ H R := by
  refine ⟨ρ, A, S, ?_⟩
  unfold stB at h
  cases e : f ρ with
  | ok a ρ1 => rw [e] at h; exact fun H1 S1 F1 => hk a ρ1 H1 S1 F1 (h.ps F1.ps)
  | exc x ρ1 => rw [e] at h; exact h.kX
  | bad => rw [e] at h; exact h
theorem useSI {bb : Bool} {f : IV} {k : List DL.D → Env → SOut} {R : It → Hp → Prop} (S : Stt c A ρ σ H) (h : sP c W H D (stB f k ρ)) (hk : ∀ a ρ1 J H1, Stt c A ρ1 σ H1 → Fr c.G.T A H H1 → ItR c.G J H1 a → sP c W H1 D (k a ρ1) → R J H1) : tI bb c W f σ H R := by
  refine ⟨ρ, A, S, ?_⟩
  unfold stB at h
  cases e : f ρ with
  | ok a ρ1 => rw [e] at h; exact fun v H1 S1 F1 R1 _ => hk a ρ1 v H1 S1 F1 R1 (h.ps F1.ps)
  | exc x ρ1 => rw [e] at h; exact h.kX
  | bad => rw [e] at h; exact h

/-! ### blocks -/
def sNext : SV := fun ρ => .nx ρ
def sSeq (f g : SV) : SV := fun ρ => match f ρ with
  | .nx ρ' => g ρ'
  | o => o
theorem dss_nil : DSs c W X [] sNext := PSs.imp pss_nil fun D σ H ⟨ρ, A, S, h⟩ => h σ H A S fun _ _ q _ => q
theorem dss_cons {st : Stmt} {rest : List Stmt} {f g : SV} (h1 : DS c W X st f) (h2 : DSs c W X rest g) : DSs c W X (st :: rest) (sSeq f g) := by
  refine PSs.imp (pss_cons h1 h2) fun D σ H ⟨ρ, A, S, h⟩ => ⟨ρ, A, S, ?_⟩
  unfold sSeq at h
  cases e : f ρ with
  | nx ρ' => rw [e] at h; exact fun σ' H' A' S' p => ⟨ρ', A', S', h.ps p⟩
  | bk ρ' => rw [e] at h; exact h
  | ct ρ' => rw [e] at h; exact h
  | rt r ρ' => rw [e] at h; exact h
  | exc x ρ' => rw [e] at h; exact h
  | bad => rw [e] at h; exact h
theorem dss_one {st : Stmt} {f : SV} (h : DS c W X st f) : DSs c W X [st] f := pss_one h
def sPass : SV := sNext
theorem ds_pass {pos : Pos} : DS c W X (.Pass pos) sNext := PS.imp ps_pass fun D σ H ⟨ρ, A, S, h⟩ => h σ H A S fun _ _ q _ => q
def sBreak : SV := fun ρ => .bk ρ
def sCont : SV := fun ρ => .ct ρ
theorem ds_break {pos : Pos} : DS c W X (.Break pos) sBreak := PS.imp ps_break fun D σ H ⟨ρ, A, S, h⟩ => h σ H A S fun _ _ q _ => q
theorem ds_continue {pos : Pos} : DS c W X (.Continue pos) sCont := PS.imp ps_continue fun D σ H ⟨ρ, A, S, h⟩ => h σ H A S fun _ _ q _ => q
theorem ds_doc {x : Str} {j : Nat} {pos pos' : Pos} {k : Option String} : True := trivial

/-! ### return -/
def sRet (f : EV) : SV := stB f fun k ρ => match k with
  | .res r => .rt r ρ
  | .at i => match ρ[i]? with
    | some (.own m) => .rt (.new m) ρ
    | _ => .bad
theorem ResR.ret {v : V} {r : Res} (h : ResR c.G H H1 v r) (S : Stt c A ρ σ H) : RetR c H1 v r := by
  cases h with
  | imm h => exact .imm h
  | new h n => exact .new h (Classical.byContradiction fun z => S.dom _ z n)
  | pair ht hv ho n1 n2 => exact .pair ht hv ho (Classical.byContradiction fun z => S.dom _ z n1) (Classical.byContradiction fun z => S.dom _ z n2)
theorem ds_ret {e : Expr} {f : EV} {pos : Pos} (he : DX c W X e f) : DS c W X (.Return (some e) pos) (sRet f) := by
  refine PS.imp (ps_ret he) fun D σ H ⟨ρ, A, S, h⟩ => useS S h fun k ρ1 v H1 S1 F1 R1 q => ?_
  cases R1 with
  | res R1 => exact q v σ H1 A S1 (fun _ _ q _ => q) (R1.ret S)
  | @«at» i hv =>
    simp only at q
    cases e : ρ1[i]? with
    | none => rw [e] at q; exact q.elim
    | some s =>
      rw [e] at q
      cases s with
      | own m =>
        obtain ⟨a, ⟨ha, _⟩, ho⟩ := S1.is e (m := m) rfl
        rw [hv] at ha; cases ha
        exact q _ σ H1 A S1 (fun _ _ q _ => q) (.new ho (S1.ownN i a m e hv))
      | non => exact q.elim
      | imm d => exact q.elim
      | bor m => exact q.elim
def sRetN : SV := fun ρ => .rt (.imm .non) ρ
theorem ds_retN {pos : Pos} : DS c W X (.Return none pos) sRetN := PS.imp ps_retN fun D σ H ⟨ρ, A, S, h⟩ => h _ σ H A S (fun _ _ q _ => q) (.imm .non)

/-! ### name = value -/
def setK (i : Nat) (k : Pk) (ρ : Env) : SOut := match k with
  | .res (.imm d) => .nx (ρ.set i (.imm d))
  | .res (.new m) => .nx (ρ.set i (.own m))
  | .res (.pair _ _) => .bad
  | .at _ => .bad
def sSet (i : Nat) (f : EV) : SV := stB f (setK i)
theorem Stt.setOwn {a : Addr} {m : M} (S : Stt c A ρ σ H) (i : Nat) (h : Obm c.G H a m) (nA : ¬ A a) (h0 : c.H0 a = none) : Stt c (fun b => A b ∨ b = a) (ρ.set i (.own m)) (σ.set i (some (.ref a))) H := by
  have sub : ∀ {j b}, OwnAt (ρ.set i (.own m)) (σ.set i (some (.ref a))) j b → (OwnAt ρ σ j b ∧ j ≠ i) ∨ (j = i ∧ b = a) := fun {j b} ⟨h1, s', m', h2, h3⟩ => by
    rw [set_get] at h1 h2
    by_cases z : j = i
    · rw [if_pos z] at h1
      split at h1
      · cases h1; exact .inr ⟨z, rfl⟩
      · cases h1
    · rw [if_neg z] at h1 h2
      exact .inl ⟨⟨h1, s', m', h2, h3⟩, z⟩
  refine ⟨by rw [List.length_set, List.length_set]; exact S.len, fun j s' e => ?_, fun j k b x y => ?_, fun j b x => ?_, fun b z => ?_, S.base, S.dom, fun b z => ?_, fun j b m' e q => ?_, fun j b m' e q => ?_, S.bAll, S.tabs, S.tabs0⟩
  · rw [set_get] at e ⊢
    by_cases z : j = i
    · rw [if_pos z] at e ⊢
      rw [S.len]
      split at e
      · rename_i hi
        cases e
        exact ⟨_, if_pos hi, .own h⟩
      · cases e
    · rw [if_neg z] at e ⊢
      exact S.slot j s' e
  · rcases sub x with ⟨x', zx⟩ | ⟨zx, ex⟩ <;> rcases sub y with ⟨y', zy⟩ | ⟨zy, ey⟩
    · exact S.inj j k b x' y'
    · exact (nA (ey ▸ S.inA _ _ x')).elim
    · exact (nA (ex ▸ S.inA _ _ y')).elim
    · rw [zx, zy]
  · rcases sub x with ⟨x, _⟩ | ⟨_, ex⟩
    · exact .inl (S.inA j b x)
    · exact .inr ex
  · rcases z with z | z
    · exact S.live b z
    · subst z; exact h.ne
  · rcases z with z | z
    · exact S.oldA b z
    · subst z; exact .inl h0
  · rw [set_get] at e q
    by_cases z : j = i
    · rw [if_pos z] at q
      split at q
      · cases q; exact h0
      · cases q
    · rw [if_neg z] at e q; exact S.ownN j b m' e q
  · rw [set_get] at e q
    by_cases z : j = i
    · rw [if_pos z] at e
      split at e <;> cases e
    · rw [if_neg z] at e q; exact S.borN j b m' e q
theorem goSet {i : Nat} {k : Pk} {v : V} {Q : Sg → Hp → Prop} (S : Stt c A ρ σ H) {ρ1 : Env} (S1 : Stt c A ρ1 σ H1) (F1 : Fr c.G.T A H H1) (R1 : PkR c A H H1 σ v k)
    (q : sP c W H1 { D with nx := Q } (setK i k ρ1)) : Q (σ.set i (some v)) H1 := by
  cases R1 with
  | res R1 =>
    cases R1 with
    | imm r => exact q _ H1 A (S1.setImm i rfl (.imm r)) fun _ _ q _ => q
    | pair => exact q.elim
    | new h n =>
      have nA : ¬ A _ := fun z => S.live _ z n
      exact q _ H1 _ (S1.setOwn i h nA (Classical.byContradiction fun z => S.dom _ z n)) fun _ _ q _ => q
  | «at» h => exact q.elim
theorem ds_set {i : Nat} {x : Str} {e : Expr} {f : EV} {pos pos' : Pos} (hN : X.N.Nodup) (hi : X.N[i]? = some x) (hx : Loc X.env.scope x) (he : DX c W X e f) (hs : swapsWith e (some (.Name x pos')) pos.line X.env = pure false := by rfl)
    (hf : X.fn x = true ∨ X.env.scope.names.lookup x = some .local := by first | exact .inl rfl | exact .inr rfl | assumption) : DS c W X (.Assign [.Name x pos'] e pos) (sSet i f) :=
  PS.imp (ps_set (i := i) hN hi hx he hs hf) fun D σ H ⟨ρ, A, S, h⟩ => useS S h fun k ρ1 v H1 S1 F1 R1 q => goSet (D := D) S S1 F1 R1 q
end
end DL
namespace DL
open PySem PySem.Spec PyProof.Rows L2

section
variable {c : Cn} {W : Wx} {X : Cx} {A : Addr → Prop} {ρ : Env} {σ : Sg} {H0 H H' H1 : Hp}

/-! ### what a dict holds -/
def D.pk : D → Option Key
  | .int i => some (.inl i)
  | .str cs => some (.inr (cstr cs))
  | _ => none
def kEq (a b : D) : Bool := match a.key, b.key with
  | some x, some y => decide (x = y)
  | _, _ => false
def dLook : List D → List D → D → Option D
  | a :: ks, v :: vs, k => if kEq a k = true then some v else dLook ks vs k
  | _, _, _ => none
theorem keyD_key (k : Key) : (keyD k).key = some (match k with | .inl i => .num i | .inr s => .text s) := by
  cases k with
  | inl i => rfl
  | inr s => simp [keyD, D.key, cstr_of]
theorem pk_key {d : D} {k : Key} (h : d.pk = some k) : d.key = (keyD k).key := by
  cases d <;> simp only [D.pk, Option.some.injEq] at h <;> first | (subst h; simp [keyD, D.key, cstr]) | cases h
theorem kEq_keyD {a : Key} {d : D} {k : Key} (h : d.pk = some k) : kEq (keyD a) d = decide (a = k) := by
  unfold kEq
  rw [pk_key h, keyD_key, keyD_key]
  cases a <;> cases k <;> simp
theorem pk_V {G : Gm} {v : V} {d : D} {k : Key} (h : Imm G H v d) (e : d.pk = some k) : v = kV k := by
  cases h <;> simp only [D.pk, Option.some.injEq] at e <;> first | (subst e; rfl) | cases e
theorem look_of {G : Gm} : ∀ {kvs : List (Key × V)} {vs : List D} {k : Key} {d : D}, ImmL G H (kvs.map (·.2)) vs → d.pk = some k →
    (match dLook (kvs.map fun p => keyD p.1) vs d with
      | some x => ∃ v, valV kvs k = some v ∧ Imm G H v x
      | none => valV kvs k = none)
  | [], vs, k, d, r, e => by cases r; rfl
  | p :: kvs, vs, k, d, r, e => by
    cases r with
    | cons h t =>
      simp only [List.map_cons, dLook, kEq_keyD e, decide_eq_true_eq]
      by_cases z : p.1 = k
      · rw [if_pos z]
        exact ⟨p.2, valV_pos z, h⟩
      · rw [if_neg z]
        have e2 : valV (p :: kvs) k = valV kvs k := by simp [valV, List.find?_cons, z]
        rw [e2]
        exact look_of t e
/-- d[k] of a dict whose keys are texts and numbers -/
def rIxK : R2 := fun x y H Q => ∃ a v, x = .ref a ∧ DGet H a y (some v) ∧ Q v H
theorem ix_dict (hu : X.A.units + 1 < cLine) : IxR X rIxK := by
  intro value slice pins s σ H x y v u Q I rx ry ⟨a, r, ex, g, q⟩ hs
  subst ex
  obtain rfl : v = Value.ref a := rx
  exact tail_any (dict_typeIs I g) slot_dict_getitem.lookup (d_getItem hu I g ry fun w' s3 I3 rw' => ⟨r, H, I3, rw', q⟩) hs
def ixD (d k : D) : Option Res := match d with
  | .dct ks vs => if k.pk.isSome = true then (dLook ks vs k).map .imm else none
  | _ => ixG d k
def rIxAll (K : PySem.W.Frag) (w : World) : R2 := fun x y H Q => rIx K x y H Q ∨ rIxK x y H Q ∨ rIxD K w x y H Q
theorem ix_all (hu : X.A.units + 1 < cLine) : IxR X (rIxAll X.K X.w) := ix_seq.or ((ix_dict hu).or ix_kdict)
inductive DctR (G : Gm) (H : Hp) (a : Addr) (ks vs : List D) : Prop
  | k (kvs : List (Key × V)) (h : Rd H a (.dK kvs)) (hk : ks = kvs.map fun p => keyD p.1) (rv : ImmL G H (kvs.map (·.2)) vs)
  | w (vals : List V) (h : KDL G.K G.w a ks vals) (rv : ImmL G H vals vs)
inductive DcnR (G : Gm) (H : Hp) (a : Addr) (ks vs : List D) : Prop
  | n (xs : List (NestedKey × Addr × Value)) (vals : List V) (h : Rd H a (dNO G a xs)) (hv : Vals vals (xs.map (·.2.2))) (hk : ks.map D.key = xs.map fun x => some x.1) (rk : ImmL G H (xs.map fun x => V.ref x.2.1) ks) (rv : ImmL G H vals vs)
theorem Vw.dct {G : Gm} {v : V} {ks vs : List D} (h : Vw G H v (.dct ks vs)) : ∃ a, v = .ref a ∧ DctR G H a ks vs := by
  generalize e : D.dct ks vs = d at h
  cases h with
  | imm h =>
    cases h <;> first
      | (cases e; exact ⟨_, rfl, .k _ (.inr ⟨_, by assumption⟩) (by assumption) (by assumption)⟩)
      | (cases e; exact ⟨_, rfl, .w _ (by assumption) (by assumption)⟩)
      | cases e
  | obj h =>
    cases h with
    | lst h r hl => cases e
    | dcn h hv hk rk rv => cases e
    | dck h hk rv => cases e; exact ⟨_, rfl, .k _ (.inl h) hk rv⟩
theorem Vw.dcn {G : Gm} {v : V} {ks vs : List D} (h : Vw G H v (.dcn ks vs)) : ∃ a, v = .ref a ∧ DcnR G H a ks vs := by
  generalize e : D.dcn ks vs = d at h
  cases h with
  | imm h =>
    cases h <;> first
      | (cases e; exact ⟨_, rfl, .n _ _ (.inr ⟨_, by assumption⟩) (by assumption) (by assumption) (by assumption) (by assumption)⟩)
      | cases e
  | obj h =>
    cases h with
    | lst h r hl => cases e
    | dcn h hv hk rk rv => cases e; exact ⟨_, rfl, .n _ _ (.inl h) hv hk rk rv⟩
    | dck h hk rv => cases e
theorem look_w {G : Gm} {w : World} {a : Addr} : ∀ {ks : List D} {vals : List V} {vs : List D} {d x : D} {cs : List Nat}, KDL G.K w a ks vals → ImmL G H vals vs → d = .str cs → dLook ks vs d = some x → ∃ v, KDct G.K w a (cstr cs) v ∧ Imm G H v x
  | [], vals, vs, d, x, cs, h, r, e, q => by unfold dLook at q; cases q
  | k :: ks, [], vs, d, x, cs, h, r, e, q => absurd h.1 (by simp)
  | k :: ks, v :: vals, vs, d, x, cs, h, r, e, q => by
    cases r with
    | cons hv t =>
      obtain ⟨s, v', ek, ev, hd⟩ := h.2 0 k rfl
      cases ev
      subst ek
      unfold dLook at q
      split at q
      · rename_i z
        cases q
        subst e
        have : s = cs := by
          simp only [kEq, D.key, decide_eq_true_eq, NestedKey.text.injEq] at z
          exact cstr_inj z
        subst this
        exact ⟨v, hd, hv⟩
      · exact look_w ⟨Nat.succ.inj h.1, fun i k' e' => h.2 (i + 1) k' e'⟩ t e q
theorem look_wi {K : PySem.W.Frag} {w : World} {a : Addr} {i : Int} : ∀ {ks : List D} {vals : List V} {vs : List D}, KDL K w a ks vals → dLook ks vs (.int i) = none
  | [], vals, vs, h => by unfold dLook; rfl
  | k :: ks, [], vs, h => absurd h.1 (by simp)
  | k :: ks, v :: vals, [], h => by unfold dLook; rfl
  | k :: ks, v :: vals, x :: vs, h => by
    obtain ⟨s, v', ek, ev, hd⟩ := h.2 0 k rfl
    subst ek
    unfold dLook
    have : kEq (.str s) (.int i) = false := by simp [kEq, D.key]
    rw [this, if_neg Bool.false_ne_true]
    exact look_wi (vals := vals) ⟨Nat.succ.inj h.1, fun i k' e' => h.2 (i + 1) k' e'⟩
theorem look_n {G : Gm} {d : D} {k : Key} (hp : d.pk = some k) : ∀ {l : List Addr} {ks vs : List D}, ImmL G H (l.map V.ref) ks → dLook ks vs d = none
  | [], ks, vs, r => by cases r; unfold dLook; rfl
  | a :: l, k0 :: ks, [], r => by unfold dLook; rfl
  | a :: l, k0 :: ks, v :: vs, r => by
    cases r with
    | cons h t =>
      unfold dLook
      have : kEq k0 d = false := by
        unfold kEq
        rw [pk_key hp, keyD_key]
        cases h with
        | tup h r l =>
          simp only [D.key]
          rename_i ds
          cases D.keys ds with
          | none => rfl
          | some ks => cases k <;> simp
        | lst => rfl
        | dcn => rfl
        | dck => rfl
        | kdc => rfl
        | seq => rfl
        | fn => rfl
      rw [this, if_neg Bool.false_ne_true]
      exact look_n hp t
theorem ixD_ok (hK : X.K = c.G.K) (hw : X.w = c.G.w) : OpG c.G (rIxAll X.K X.w) ixD := by
  intro H x y d e rs hx hy h Q k
  unfold ixD at h
  split at h
  · rename_i ks vs
    split at h
    · rename_i hp
      obtain ⟨key, hp⟩ := Option.isSome_iff_exists.mp hp
      simp only [Option.map_eq_some_iff] at h
      obtain ⟨r, e1, rfl⟩ := h
      obtain ⟨a, rfl, hd⟩ := hx.dct
      have hy' : Imm c.G H y e := by
        cases hy with
        | imm h => exact h
        | obj h => cases h <;> cases hp
      cases hd with
      | k kvs h hk rv =>
        subst hk
        have := look_of rv hp
        rw [e1] at this
        obtain ⟨v, e2, hi⟩ := this
        refine .inr (.inl ⟨a, v, rfl, .inl ⟨kvs, key, h, pk_V hy' hp, e2.symm⟩, k _ _ .refl (.imm hi)⟩)
      | w vals h rv =>
        cases hy' with
        | str cs h1 h2 =>
          obtain ⟨v, e2, hi⟩ := look_w h rv rfl e1
          exact .inr (.inr ⟨a, _, v, rfl, rfl, hK ▸ hw ▸ e2, k _ _ .refl (.imm hi)⟩)
        | int i => rw [look_wi h] at e1; cases e1
        | non => cases hp
        | bl _ => cases hp
        | tup => cases hp
        | lst => cases hp
        | dcn => cases hp
        | dck => cases hp
        | kdc => cases hp
        | seq => cases hp
        | fn => cases hp
    · cases h
  · exact .inl (ixG_ok hK H x y d e rs hx hy h Q k)

/-! ### displays of dicts -/
abbrev QV := Env → Out (List (D × D))
def prN : QV := fun ρ => .ok [] ρ
def prC (fk fv : EV) (r : QV) : QV := fun ρ => (fk ρ).bind fun a ρ1 => (fv ρ1).bind fun b ρ2 => match a, b with
  | .res (.imm x), .res (.imm y) => (r ρ2).bind fun ps ρ3 => .ok ((x, y) :: ps) ρ3
  | _, _ => .bad
def kQ (c : Cn) (A : Addr → Prop) (H : Hp) (σ : Sg) (Q : List (V × V) → Hp → Prop) : List (D × D) → Env → Prop := fun ps ρ' => ∀ vs H', Stt c A ρ' σ H' → Fr c.G.T A H H' → ImmL c.G H' (vs.map (·.1)) (ps.map (·.1)) → ImmL c.G H' (vs.map (·.2)) (ps.map (·.2)) → Q vs H'
structure DQ (c : Cn) (W : Wx) (X : Cx) (pos : Pos) (keys : List (Option Expr)) (values : List Expr) (f : QV) : Prop where
  ex : ∃ trs, PPs X pos keys values trs ∧ ∀ (ρ : Env) (A : Addr → Prop) (σ : Sg) (H0 H : Hp) (Q : List (V × V) → Hp → Prop), Stt c A ρ σ H → Fr c.G.T A H0 H → (f ρ).post (kQ c A H σ Q) (kX c W A H0 σ) → tPairs trs σ H Q
theorem dq_nil {pos : Pos} : DQ c W X pos [] [] prN := ⟨[], pps_nil, fun ρ A σ H0 H Q S F h => h [] H S .refl .nil .nil⟩
theorem dq_cons {pos : Pos} {k v : Expr} {ks : List (Option Expr)} {vs : List Expr} {fk fv : EV} {r : QV} (hk : DX c W X k fk) (hv : DX c W X v fv) (hr : DQ c W X pos ks vs r) : DQ c W X pos (some k :: ks) (v :: vs) (prC fk fv r) := by
  obtain ⟨trs, h1, h2⟩ := hr.ex
  refine ⟨_, pps_cons hk hv h1, fun ρ A σ H0 H Q S F h => ?_⟩
  show tP c W fk σ H _
  unfold prC at h
  rw [Out.post_bind] at h
  refine cut S F (Out.post_imp h (fun k1 ρ1 q v1 H1 S1 F1 R1 => ?_) fun _ _ q => q)
  rw [Out.post_bind] at q
  refine cut S1 (F.trans F1) (Out.post_imp q (fun k2 ρ2 q v2 H2 S2 F2 R2 => ?_) fun _ _ q => q)
  split at q
  · rw [Out.post_bind] at q
    refine h2 ρ2 A σ H0 H2 _ S2 ((F.trans F1).trans F2) (Out.post_imp q (fun ps ρ3 q vs H3 S3 F3 i1 i2 => ?_) fun _ _ q => q)
    cases R1 with
    | res R1 =>
      cases R1 with
      | imm R1 =>
        cases R2 with
        | res R2 =>
          cases R2 with
          | imm R2 => exact q _ H3 S3 ((F1.trans F2).trans F3) (.cons ((R1.ps F2.ps).ps F3.ps) i1) (.cons (R2.ps F3.ps) i2)
  · exact q.elim
def pks : List D → Option (List Key)
  | [] => some []
  | d :: ds => match d.pk, pks ds with
    | some k, some ks => some (k :: ks)
    | _, _ => none
def distinct : List Key → Bool
  | [] => true
  | k :: ks => !(ks.any fun j => decide (j = k)) && distinct ks
def eDisp (f : QV) : EV := fun ρ => (f ρ).bind fun ps ρ1 => match pks (ps.map (·.1)) with
  | some ks => if distinct ks = true ∧ ks.length ≤ 15 then .ok (.res (.new (.dct (ps.map (·.1)) (ps.map (·.2))))) ρ1 else .bad
  | none => .bad
theorem pks_kV {G : Gm} : ∀ {vs : List V} {ds : List D} {ks : List Key}, ImmL G H vs ds → pks ds = some ks → vs = ks.map kV ∧ ds = ks.map keyD ∧ ks.length = ds.length
  | _, _, ks, .nil, e => by cases e; exact ⟨rfl, rfl, rfl⟩
  | _, _, ks, .cons (d := d) (ds := ds) h t, e => by
    unfold pks at e
    split at e
    · rename_i k ks' e1 e2
      cases e
      obtain ⟨z1, z2, z3⟩ := pks_kV t e2
      have hd : d = keyD k := by
        cases d <;> simp only [D.pk, Option.some.injEq] at e1 <;> first | (subst e1; simp [keyD, cstr]) | cases e1
      rw [pk_V h e1, z1, hd]
      exact ⟨rfl, congrArg _ z2, by simp [z3]⟩
    · cases e
theorem merge_distinct : ∀ (kvs acc : List (Key × V)), distinct (kvs.map (·.1)) = true → (∀ p ∈ kvs, ∀ q ∈ acc, q.1 ≠ p.1) → mergeK acc kvs = acc ++ kvs
  | [], acc, _, _ => by simp [mergeK]
  | p :: kvs, acc, h, hd => by
    simp only [List.map_cons, distinct, Bool.and_eq_true, Bool.not_eq_true', List.any_eq_false, decide_eq_true_eq] at h
    have e1 : putK acc p.1 p.2 = acc ++ [p] := by
      unfold putK
      rw [if_neg]
      simp only [List.any_eq_true, decide_eq_true_eq, not_exists, not_and]
      exact fun q hq => hd p (by simp) q hq
    show mergeK (putK acc p.1 p.2) kvs = _
    rw [e1, merge_distinct kvs (acc ++ [p]) h.2 fun q hq r hr => ?_]
    · simp
    · rcases List.mem_append.mp hr with hr | hr
      · exact hd q (by simp [hq]) r hr
      · rw [List.mem_singleton.mp hr]
        exact fun z => h.1 q.1 (List.mem_map.mpr ⟨q, hq, rfl⟩) z.symm
theorem zipBack {α β : Type} : ∀ l : List (α × β), l = (l.map (·.1)).zip (l.map (·.2))
  | [] => rfl
  | a :: l => by simp only [List.map_cons, List.zip_cons_cons]; rw [← zipBack l]
theorem dx_disp {keys : List (Option Expr)} {values : List Expr} {f : QV} {pos : Pos} (h : DQ c W X pos keys values f) (hall : keys.all (·.isSome) = true := by rfl) (hl : keys.length = values.length := by rfl) (h0 : keys ≠ [] := by exact fun z => nomatch z) (h15 : keys.length ≤ 15 := by decide) :
    DX c W X (.Dict keys values pos) (eDisp f) := by
  obtain ⟨trs, h1, h2⟩ := h.ex
  refine PE.imp (pe_disp h1 hall hl h0 h15) fun σ H Q ⟨ρ, A, S, h⟩ => fun p hp => ?_
  have Fp : Fr c.G.T (fun _ => False) H (upd H p (.dK [])) := .new hp
  unfold eDisp at h
  rw [Out.post_bind] at h
  have nA : ¬ A p := fun z => S.live p z hp
  refine h2 ρ A σ H _ _ (S.grow Fp) Fp.any (Out.post_imp h (fun ps ρ1 q vs H1 S1 F1 i1 i2 => ?_) fun _ _ q => q)
  split at q
  · rename_i ks e
    split at q
    · rename_i hd
      obtain ⟨z1, z2, z3⟩ := pks_kV i1 e
      have hDp : H1 p = some (.dK []) := F1.keep p _ upd_same (fun _ z => nomatch z) (.inr nA)
      have lv : ks.length = vs.length := by rw [z3, ← i1.length, List.length_map]
      have em : (ks.zip (vs.map (·.2))).map (·.1) = ks := by rw [List.map_fst_zip]; simp [lv]
      have em2 : (ks.zip (vs.map (·.2))).map (·.2) = vs.map (·.2) := by rw [List.map_snd_zip]; simp [lv]
      have e3 : mergeK [] (ks.zip (vs.map (·.2))) = ks.zip (vs.map (·.2)) := by
        rw [merge_distinct _ [] (by rw [em]; exact hd.1) (fun _ _ _ z => nomatch z)]; rfl
      refine ⟨hDp, ks.zip (vs.map (·.2)), ?_, by simp [lv]; omega, ?_⟩
      · have e4 : (ks.zip (vs.map (·.2))).map (fun kv => (kV kv.1, kv.2)) = (ks.map kV).zip (vs.map (·.2)) := by
          rw [List.zip_map_left]; rfl
        rw [e4, ← z1]
        exact zipBack vs
      · rw [e3]
        have h0 : c.H0 p = none := Classical.byContradiction fun z => S.dom p z hp
        have psp : Ps H1 (upd H1 p (.dK (ks.zip (vs.map (·.2))))) := fun b u e2 pp => by
          rw [upd_ne (fun z => by subst z; rw [hDp] at e2; cases e2; exact pp)]; exact e2
        have F2 : Fr c.G.T A H H1 := ⟨fun b w e n pq => F1.keep b w (by rw [upd_ne (fun z => by subst z; rw [hp] at e; cases e)]; exact e) n pq, fun b z => F1.dom b (Fp.dom b z), fun t => F1.tabs (Fp.tabs t)⟩
        refine q _ _ (S1.other nA h0 ⟨_, hDp, fun z => z, .dK⟩) (F2.late hp (.inr ⟨_, hDp, .dK⟩)) (.res (.new (.dck upd_same ?_ ?_) hp))
        · rw [z2]
          conv => lhs; rw [← em]
          rw [List.map_map]; rfl
        · rw [em2]; exact i2.ps psp
    · exact q.elim
  · exact q.elim

/-! ### d.get(k, x) -/
def eGet2 (f fk fx : EV) : EV := fun ρ => (f ρ).bind fun k ρ1 => match k with
  | .res (.new (.dct ks vs)) => (fk ρ1).bind fun kk ρ2 => (fx ρ2).bind fun kx ρ3 => match kk, kx with
    | .res (.imm y), .res (.imm z) => if y.pk.isSome = true then .ok (.res (.imm ((dLook ks vs y).getD z))) ρ3 else .bad
    | _, _ => .bad
  | _ => .bad
theorem dx_get2 {o e f : Expr} {fo fk fx : EV} {apos cpos : Pos} (hu : X.A.units + 1 < cLine) (ho : DX c W X o fo) (he : DX c W X e fk) (hf : DX c W X f fx) (m : M2 X o "get" apos e f cpos) : DX c W X (.Call (.Attribute o "get" apos) [e, f] [] cpos) (eGet2 fo fk fx) := by
  refine PE.imp (pe_dget2 hu ho he hf m) fun σ H Q ⟨ρ, A, S, h⟩ => cut S .refl ?_
  unfold eGet2 at h
  rw [Out.post_bind] at h
  refine Out.post_imp h (fun k ρ1 q v H1 S1 F1 R1 => ?_) fun _ _ q => q
  split at q
  · cases R1 with
    | res R1 =>
      cases R1 with
      | new ho n =>
        cases ho with
        | @dck kvs _ vs hk1 hk2 rv =>
          subst hk2
          refine ⟨_, rfl, .inl ⟨_, .inl hk1⟩, cut S1 F1 ?_⟩
          rw [Out.post_bind] at q
          refine Out.post_imp q (fun k2 ρ2 q v2 H2 S2 F2 R2 => cut S2 (F1.trans F2) ?_) fun _ _ q => q
          rw [Out.post_bind] at q
          refine Out.post_imp q (fun k3 ρ3 q v3 H3 S3 F3 R3 => ?_) fun _ _ q => q
          split at q
          · split at q
            · rename_i hp
              obtain ⟨key, hp⟩ := Option.isSome_iff_exists.mp hp
              cases R2 with
              | res R2 =>
                cases R2 with
                | imm R2 =>
                  cases R3 with
                  | res R3 =>
                    cases R3 with
                    | imm R3 =>
                      have F23 := F2.trans F3
                      have nA : ∀ a, A a → H a ≠ none := S.live
                      have hk3 := F23.keep _ _ hk1 (fun _ z => nomatch z) (.inr fun z => nA _ z n)
                      have lk := look_of (rv.ps F23.ps) hp
                      refine ⟨_, .inl ⟨kvs, key, .inl hk3, pk_V (R2.ps F3.ps) hp, rfl⟩, ?_⟩
                      split at lk
                      · rename_i x e
                        obtain ⟨v, e1, e2⟩ := lk
                        rw [e1]
                        rw [e] at q
                        exact q v H3 S3 ((F1.trans F2).trans F3) (.res (.imm e2))
                      · rename_i e
                        rw [lk]
                        rw [e] at q
                        exact q v3 H3 S3 ((F1.trans F2).trans F3) (.res (.imm R3))
            · exact q.elim
          · exact q.elim
  · exact q.elim
end
end DL
namespace DL
open PySem PySem.Spec PyProof.Rows L2

section
variable {c : Cn} {W : Wx} {X : Cx} {A : Addr → Prop} {ρ : Env} {σ : Sg} {H0 H H' H1 : Hp} {D : Ends}

/-! ### name = [..] -/
theorem ds_setLc {i : Nat} {y : Str} {py : Pos} {elt tg iter : Expr} {ifs : List Expr} {scope : Scope} {own : List (Str × Nat)} {pos spos : Pos} {it : IV} {is : List Nat} {g : GV} {tt : TV} {f : EV} (hc : X.calm = true) (hN : X.N.Nodup) (hy : X.N[i]? = some y) (hyl : X.env.scope.names.lookup y = some .local)
    (hsw : swapsWith (.ListComp elt [⟨tg, iter, ifs, 0⟩] scope pos) (some (.Name y py)) spos.line X.env = pure true) (hi : DI true c W X tg iter it) (ok : BlkOk X.N X.env.scope scope own) (his : ∀ i ∈ is, i ∈ own.map (·.2))
    (hg : ∀ (s : Shared) (H : Hp) (C : Addr) (cl : List (Str × Addr)) (fp : List Addr), DG c (X.blk s H scope (compEnvC scope cl C X.env) fp) tg is g) (ht : ∀ (s : Shared) (H : Hp) (C : Addr) (cl : List (Str × Addr)) (fp : List Addr), DTs c WF (X.blk s H scope (compEnvC scope cl C X.env) fp) ifs tt)
    (he : ∀ (s : Shared) (H : Hp) (C : Addr) (cl : List (Str × Addr)) (fp : List Addr), DX c WF (X.blk s H scope (compEnvC scope cl C X.env) fp) elt f) (hs : ∀ x, foldedSetIterable iter X.env x = pure x := by intro _; rfl) :
    DS c W X (.Assign [.Name y py] (.ListComp elt [⟨tg, iter, ifs, 0⟩] scope pos) spos) (sSet i (eLc it g tt f (own.map (·.2)))) :=
  PS.imp (ps_setLc hc hN hy hyl hsw hi ok hg ht he hs) fun D σ H ⟨ρ, A, S, h⟩ =>
    lc_imp his (useS S h fun k ρ1 v H1 S1 F1 R1 q => goSet (D := D) (Q := D.nx) S S1 F1 R1 q)

/-! ### other targets -/
def sAsg (f : EV) (g : GV) : SV := stB f fun k ρ => match k with
  | .res (.imm d) => match g d ρ with
    | some ρ' => .nx ρ'
    | none => .bad
  | _ => .bad
theorem ds_asg {tg e : Expr} {f : EV} {is : List Nat} {g : GV} {pos : Pos} (he : DX c W X e f) (hg : DG c X tg is g) (hs : swapsWithSole [tg] e pos.line X.env = pure false := by rfl) (hw : swappedStores [tg] e X.env = pure none := by rfl)
    (h1 : (assignEach [tg] X.env).map (·.2) = [assign tg X.env] := by rfl) : DS c W X (.Assign [tg] e pos) (sAsg f g) := by
  refine PS.imp (ps_asg he hg hs hw h1) fun D σ H ⟨ρ, A, S, h⟩ => useS S h fun k ρ1 v H1 S1 F1 R1 q => ?_
  cases R1 with
  | «at» h => exact q.elim
  | res R1 =>
    cases R1 with
    | new h n => exact q.elim
    | pair => exact q.elim
    | @imm _ d r =>
      simp only at q
      cases e : g d ρ1 with
      | none => rw [e] at q; exact q.elim
      | some ρ2 =>
        rw [e] at q
        exact ⟨ρ1, A, d, ρ2, S1, r, e, fun σ2 S2 _ => q σ2 H1 A S2 fun _ _ q _ => q⟩
def sPar (i j : Nat) (f : AV) : SV := stB f fun ks ρ => match ks with
  | [.res (.imm d), .res (.imm e)] => .nx ((ρ.set i (.imm d)).set j (.imm e))
  | _ => .bad
theorem ds_par {i j : Nat} {x y : Str} {a b : Expr} {fa : AV} {px py pt : Pos} {kt k2 : Nat} {pt2 pos : Pos} (hc : X.calm = true) (hN : X.N.Nodup) (hi : X.N[i]? = some x) (hj : X.N[j]? = some y) (hij : i ≠ j)
    (hx : X.env.scope.names.lookup x = some .local) (hy : X.env.scope.names.lookup y = some .local) (ha : DA c W X [a, b] fa)
    (hw : swappedStores [.Tuple [.Name x px, .Name y py] kt pt] (.Tuple [a, b] k2 pt2) X.env = pure (some [x, y]))
    (hs : swapsWithSole [.Tuple [.Name x px, .Name y py] kt pt] (.Tuple [a, b] k2 pt2) pos.line X.env = pure false := by rfl) :
    DS c W X (.Assign [.Tuple [.Name x px, .Name y py] kt pt] (.Tuple [a, b] k2 pt2) pos) (sPar i j fa) := by
  refine PS.imp (ps_par hc hN hi hj hij hx hy ha hw hs) fun D σ H ⟨ρ, A, S, h⟩ => useSA S h fun ks ρ1 vs H1 S1 F1 R1 q => ?_
  split at q
  · cases R1 with
    | cons h1 t =>
      cases t with
      | cons h2 t =>
        cases t
        cases h1 with
        | res h1 =>
          cases h1 with
          | imm h1 =>
            cases h2 with
            | res h2 =>
              cases h2 with
              | imm h2 => exact ⟨_, _, rfl, q _ H1 A ((S1.setImm i rfl (.imm h1)).setImm j rfl (.imm h2)) fun _ _ q _ => q⟩
  · exact q.elim
def sPar3 (i j l : Nat) (f : AV) : SV := stB f fun ks ρ => match ks with
  | [.res (.imm d), .res (.imm e), .res (.imm g)] => .nx (((ρ.set i (.imm d)).set j (.imm e)).set l (.imm g))
  | _ => .bad
theorem ds_par3 {i j l : Nat} {x y z : Str} {a b d : Expr} {fa : AV} {px py pz pt pos : Pos} {kt k2 : Nat} {pt2 : Pos} (hc : X.calm = true) (hN : X.N.Nodup) (hi : X.N[i]? = some x) (hj : X.N[j]? = some y) (hl : X.N[l]? = some z) (hij : i ≠ j) (hil : i ≠ l) (hjl : j ≠ l)
    (hx : X.env.scope.names.lookup x = some .local) (hy : X.env.scope.names.lookup y = some .local) (hz : X.env.scope.names.lookup z = some .local) (ha : DA c W X [a, b, d] fa)
    (hw : swappedStores [.Tuple [.Name x px, .Name y py, .Name z pz] kt pt] (.Tuple [a, b, d] k2 pt2) X.env = pure (some [x, y, z]))
    (hs : swapsWithSole [.Tuple [.Name x px, .Name y py, .Name z pz] kt pt] (.Tuple [a, b, d] k2 pt2) pos.line X.env = pure false := by rfl) :
    DS c W X (.Assign [.Tuple [.Name x px, .Name y py, .Name z pz] kt pt] (.Tuple [a, b, d] k2 pt2) pos) (sPar3 i j l fa) := by
  refine PS.imp (ps_par3 hc hN hi hj hl hij hil hjl hx hy hz ha hw hs) fun D σ H ⟨ρ, A, S, h⟩ => useSA S h fun ks ρ1 vs H1 S1 F1 R1 q => ?_
  split at q
  · cases R1 with
    | cons h1 t =>
      cases t with
      | cons h2 t =>
        cases t with
        | cons h3 t =>
          cases t
          cases h1 with
          | res h1 =>
            cases h1 with
            | imm h1 =>
              cases h2 with
              | res h2 =>
                cases h2 with
                | imm h2 =>
                  cases h3 with
                  | res h3 =>
                    cases h3 with
                    | imm h3 => exact ⟨_, _, _, rfl, q _ H1 A (((S1.setImm i rfl (.imm h1)).setImm j rfl (.imm h2)).setImm l rfl (.imm h3)) fun _ _ q _ => q⟩
  · exact q.elim

/-! ### if, for, while -/
def sIf (t : TV) (f g : SV) : SV := stB t fun b ρ => if b = true then f ρ else g ρ
theorem ds_if {t : Expr} {a b : List Stmt} {ft : TV} {f g : SV} {pos : Pos} (ht : DT c W X t ft) (ha : DSs c W X a f) (hb : DSs c W X b g) : DS c W X (.If t a b pos) (sIf ft f g) := by
  refine PS.imp (ps_if ht ha hb) fun D σ H ⟨ρ, A, S, h⟩ => useST S h fun b ρ1 H1 S1 F1 q => ?_
  cases b with
  | true => rw [if_pos rfl] at q ⊢; exact ⟨ρ1, A, S1, q⟩
  | false => rw [if_neg Bool.false_ne_true] at q ⊢; exact ⟨ρ1, A, S1, q⟩
def forD (g : GV) (b : SV) : List DL.D → SV
  | [], ρ => .nx ρ
  | d :: ds, ρ => match g d ρ with
    | none => .bad
    | some ρ1 => match b ρ1 with
      | .nx ρ2 => forD g b ds ρ2
      | .ct ρ2 => forD g b ds ρ2
      | .bk ρ2 => .nx ρ2
      | o => o
def sFor (it : IV) (g : GV) (b : SV) : SV := stB it fun ds ρ => forD g b ds ρ
theorem ds_for {tg iter : Expr} {body : List Stmt} {it : IV} {is : List Nat} {g : GV} {b : SV} {pos : Pos} (hp : PassesOwn (model X.prog X.w) X.A X.env X.xe) (hc : X.calm = true) (hi : DI false c W X tg iter it) (hg : DG c X tg is g) (hb : DSs c W X body b)
    (hs : ∀ x, foldedSetIterable iter X.env x = pure x := by intro _; rfl) : DS c W X (.For tg iter body [] pos) (sFor it g b) := by
  refine PS.imp (ps_for hp hc hi hg hb hs) fun D σ H ⟨ρ, A, S, h⟩ => useSI S h fun ds ρ1 J H1 S1 F1 R q => ?_
  refine ⟨fun i m σc Hc => m = ds.length - i ∧ i ≤ ds.length ∧ ∃ ρc Ac, Stt c Ac ρc σc Hc ∧ Ps H1 Hc ∧ sP c W Hc D (forD g b (ds.drop i) ρc), ⟨_, rfl, Nat.zero_le _, ρ1, A, S1, fun _ _ q _ => q, by simpa using q⟩, ?_⟩
  rintro i m σc Hc ⟨rfl, hil, ρc, Ac, Sc, pc, hq⟩
  by_cases hlt : i < ds.length
  · refine .inr ⟨R.go Hc pc i hlt, fun σ' H' => i + 1 ≤ ds.length ∧ ∃ ρc Ac, Stt c Ac ρc σ' H' ∧ Ps H1 H' ∧ sP c W H' D (forD g b (ds.drop (i + 1)) ρc), fun σ' H' n => ⟨ds.length - (i + 1), by omega, rfl, n⟩, fun x H2 hy => ?_⟩
    obtain ⟨d, hd, hx, F'⟩ := R.yld Hc pc i x H2 hlt hy
    rw [drop_cons hlt] at hq
    have ed : ds[i] = d := by rw [List.getElem?_eq_getElem hlt] at hd; exact Option.some.inj hd
    rw [ed] at hq
    unfold forD at hq
    cases e : g d ρc with
    | none => rw [e] at hq; exact hq.elim
    | some ρ2 =>
      rw [e] at hq
      simp only at hq
      refine ⟨ρc, Ac, d, ρ2, Sc.grow F', hx, e, fun σ2 S2 _ => ⟨ρ2, Ac, S2, ?_⟩⟩
      cases eb : b ρ2 with
      | nx ρ3 => rw [eb] at hq; exact fun σ' H' A' S' p => ⟨hlt, ρ3, A', S', pc.trans (F'.ps.trans p), (hq.ps F'.ps).ps p⟩
      | ct ρ3 => rw [eb] at hq; exact fun σ' H' A' S' p => ⟨hlt, ρ3, A', S', pc.trans (F'.ps.trans p), (hq.ps F'.ps).ps p⟩
      | bk ρ3 => rw [eb] at hq; exact fun σ' H' A' S' p => hq σ' H' A' S' (F'.ps.trans p)
      | rt r ρ3 => rw [eb] at hq; exact fun v σ' H' A' S' p => hq v σ' H' A' S' (F'.ps.trans p)
      | exc x ρ3 => rw [eb] at hq; exact fun cls d σ' H' A' S' p => hq cls d σ' H' A' S' (F'.ps.trans p)
      | bad => rw [eb] at hq; exact hq
  · have ei : ds.drop i = [] := List.drop_eq_nil_of_le (by omega)
    rw [ei] at hq
    exact .inl ⟨R.stop Hc pc i (by omega), hq σc Hc Ac Sc fun _ _ q _ => q⟩
def whileD (t : TV) (b : SV) : Nat → SV
  | 0, _ => .bad
  | n + 1, ρ => match t ρ with
    | .ok true ρ1 => match b ρ1 with
      | .nx ρ2 => whileD t b n ρ2
      | .ct ρ2 => whileD t b n ρ2
      | .bk ρ2 => .nx ρ2
      | o => o
    | .ok false ρ1 => .nx ρ1
    | .exc x ρ1 => .exc x ρ1
    | .bad => .bad
def wfuel : Nat := 1000000000
def sWhile (t : TV) (b : SV) : SV := whileD t b wfuel
theorem ds_while {t : Expr} {body : List Stmt} {ft : TV} {b : SV} {pos : Pos} (hp : PassesOwn (model X.prog X.w) X.A X.env X.xe) (ht : DT c W X t ft) (hb : DSs c W X body b) : DS c W X (.While t body [] pos) (sWhile ft b) := by
  refine PS.imp (ps_while hp ht hb) fun D σ H ⟨ρ, A, S, h⟩ => ⟨fun m σc Hc => ∃ ρc Ac, Stt c Ac ρc σc Hc ∧ sP c W Hc D (whileD ft b m ρc), ⟨wfuel, ρ, A, S, h⟩, ?_⟩
  rintro m σc Hc ⟨ρc, Ac, Sc, hq⟩
  cases m with
  | zero => exact hq.elim
  | succ n =>
    unfold whileD at hq
    refine ⟨ρc, Ac, Sc, ?_⟩
    cases e : ft ρc with
    | bad => rw [e] at hq; exact hq
    | exc x ρ1 => rw [e] at hq; exact hq.kX
    | ok k ρ1 =>
      rw [e] at hq
      intro H1 S1 F1
      cases k with
      | false => rw [if_neg Bool.false_ne_true]; exact hq σc H1 Ac S1 F1.ps
      | true =>
        rw [if_pos rfl]
        refine ⟨fun σ' H' => ∃ ρc Ac, Stt c Ac ρc σ' H' ∧ sP c W H' D (whileD ft b n ρc), fun σ' H' q => ⟨n, Nat.lt_succ_self n, q⟩, ρ1, Ac, S1, ?_⟩
        simp only at hq
        cases eb : b ρ1 with
        | nx ρ3 => rw [eb] at hq; exact fun σ' H' A' S' p => ⟨ρ3, A', S', (hq.ps F1.ps).ps p⟩
        | ct ρ3 => rw [eb] at hq; exact fun σ' H' A' S' p => ⟨ρ3, A', S', (hq.ps F1.ps).ps p⟩
        | bk ρ3 => rw [eb] at hq; exact fun σ' H' A' S' p => hq σ' H' A' S' (F1.ps.trans p)
        | rt r ρ3 => rw [eb] at hq; exact fun v σ' H' A' S' p => hq v σ' H' A' S' (F1.ps.trans p)
        | exc x ρ3 => rw [eb] at hq; exact fun cls d σ' H' A' S' p => hq cls d σ' H' A' S' (F1.ps.trans p)
        | bad => rw [eb] at hq; exact hq

/-! ### values that are dropped; changed lists -/
def sDrop (f : EV) : SV := stB f fun _ ρ => .nx ρ
theorem ds_expr {e : Expr} {f : EV} {pos : Pos} (he : DX c W X e f) (hs : swapsWith e none pos.line X.env = pure false := by rfl) : DS c W X (.Expr e pos) (sDrop f) :=
  PS.imp (ps_expr he hs) fun D σ H ⟨ρ, A, S, h⟩ => useS S h fun k ρ1 v H1 S1 F1 R1 q => q σ H1 A S1 fun _ _ q _ => q
def lstAt (ρ : Env) (i : Nat) : Option (List DL.D) := match (ρ[i]?).bind Slot.obj? with
  | some (.lst ds) => some ds
  | _ => none
theorem lstAt_is {i : Nat} {ds : List DL.D} (S : Stt c A ρ σ H) (e : lstAt ρ i = some ds) : ∃ a, OwnAt ρ σ i a ∧ Obm c.G H a (.lst ds) := by
  unfold lstAt at e
  split at e
  · rename_i ds' h
    cases e
    simp only [Option.bind_eq_some_iff] at h
    obtain ⟨s, h1, h2⟩ := h
    exact S.is h1 h2
  · cases e
theorem Fr.at {T : List (Addr × Str)} {p : Addr} {o u : HO} (hu : H p = some u) (nu : ¬ Pst u) (nc : NCo u) : Fr T (fun b => b = p) H (upd H p o) := ⟨fun b w e n q => by
    rw [upd_ne (fun z => by subst z; rw [hu] at e; cases e; exact q.elim nu fun z => z rfl)]; exact e, fun b e => by
    by_cases z : b = p
    · subst z; rw [upd_same]; exact fun z => nomatch z
    · rw [upd_ne z]; exact e, tabs_at (.inr ⟨u, hu, nc⟩) fun b e => upd_ne e⟩
def sApp (i : Nat) (f : EV) : SV := fun ρ => match lstAt ρ i with
  | some _ => stB f (fun k ρ1 => match k, lstAt ρ1 i with
    | .res (.imm d), some ds => if ds.length < sizeLine then .nx (ρ1.modify i (Slot.put (.lst (ds ++ [d])))) else .bad
    | _, _ => .bad) ρ
  | none => .bad
theorem ds_app {i : Nat} {x : Str} {e : Expr} {f : EV} {p apos cpos pos : Pos} (hN : X.N[i]? = some x) (hv : Vis X.env.scope x) (hd : (x == ("__debug__" : Str)) = false) (hcd : (x == ("__classdict__" : Str)) = false) (he : DX c W X e f)
    (hbase : attributeBase (.Name x p) "append" X.env (eval (.Name x p) X.env) = eval (.Name x p) X.env := by rfl)
    (hfew : ((backTo cpos (starEach [e] X.env)).all (fun x => !x.1) && (backToKw cpos (keywordEach [] X.env)).all (fun x => x.1.isSome) && decide (([e] : List Expr).length + ([] : List Keyword).length + (if ([] : List Keyword).isEmpty then 0 else 1) < 30)) = true := by rfl)
    (hline : (apos.endLine == cpos.line) = true := by rfl) (hst : starEach [e] X.env = [(false, eval e X.env)] := by rfl) (hpl : (backTo cpos (starEach [] X.env)).any (·.1) = false := by rfl)
    (hs : swapsWith (.Call (.Attribute (.Name x p) "append" apos) [e] [] cpos) none pos.line X.env = pure false := by rfl) :
    DS c W X (.Expr (.Call (.Attribute (.Name x p) "append" apos) [e] [] cpos) pos) (sApp i f) := by
  refine PS.imp (ps_expr (pe_bm PySem.F.plainAttrs_list PySem.F.slot_list_append PySem.F.type_list_append mt_append (pe_var (i := i) hN hv hd hcd) (pa_cons he pa_nil hst) hbase hfew hline hst hpl) hs) fun D σ H ⟨ρ, A, S, h⟩ => ?_
  unfold sApp at h
  split at h
  · rename_i ds0 e0
    obtain ⟨a, o, ho⟩ := lstAt_is S e0
    cases ho with
    | lst hl r hln =>
      refine ⟨_, o.1, .inl ⟨rfl, _, SqL.of hl⟩, useS S h fun k ρ1 v H1 S1 F1 R1 q => ?_⟩
      split at q
      · rename_i d ds e1
        split at q
        · rename_i hlen
          obtain ⟨a', o', ho'⟩ := lstAt_is S1 e1
          have : a' = a := by have := o'.1; rw [o.1] at this; cases this; rfl
          subst this
          cases R1 with
          | res R1 =>
            cases R1 with
            | imm R1 =>
              cases ho' with
              | @lst xs _ hl' r' hln' =>
                refine ⟨_, xs, v, rfl, rfl, hl', by rw [r'.length]; exact hlen, ?_⟩
                have F2 : Fr c.G.T (fun b => b = a') H1 (upd H1 a' (.lst (xs ++ [v]))) := Fr.at hl' (fun z => z) .lst
                exact q σ _ A (S1.put F2 o' (.lst upd_same ((r'.append (.cons R1 .nil)).ps F2.ps) (by rw [List.length_append]; exact hlen))) F2.ps
        · exact q.elim
      · exact q.elim
  · exact h.elim
def sSetIx (i : Nat) (fi fe : EV) : SV := stB fe fun k ρ1 => match k with
  | .res (.imm d) => match lstAt ρ1 i with
    | some _ => stB fi (fun ki ρ2 => match ki, lstAt ρ2 i with
      | .res (.imm (.int z)), some ds => match ixN ds.length z with
        | some j => .nx (ρ2.modify i (Slot.put (.lst (ds.set j d))))
        | none => .bad
      | _, _ => .bad) ρ1
    | none => .bad
  | _ => .bad
theorem ds_setIx {i : Nat} {x : Str} {ie e : Expr} {fi fe : EV} {p tpos pos : Pos} (hN : X.N[i]? = some x) (hv : Vis X.env.scope x) (hd : (x == ("__debug__" : Str)) = false) (hcd : (x == ("__classdict__" : Str)) = false) (hi : DX c W X ie fi) (he : DX c W X e fe)
    (ha : ∀ v, assign (.Subscript (.Name x p) ie tpos) X.env v = (do
      let ov ← holding [v] (eval (.Name x p) X.env)
      let iv ← holding [v, ov] (eval ie X.env)
      standAt tpos
      holding [v, ov, iv] (setItem ov iv v)
      release [v, ov, iv] []) := by intro _; rfl)
    (hs : swapsWithSole [.Subscript (.Name x p) ie tpos] e pos.line X.env = pure false := by rfl) (hw : swappedStores [.Subscript (.Name x p) ie tpos] e X.env = pure none := by rfl)
    (h1 : (assignEach [.Subscript (.Name x p) ie tpos] X.env).map (·.2) = [assign (.Subscript (.Name x p) ie tpos) X.env] := by rfl) :
    DS c W X (.Assign [.Subscript (.Name x p) ie tpos] e pos) (sSetIx i fi fe) := by
  refine PS.imp (ps_asg he (pg_sub (pe_var (i := i) hN hv hd hcd) hi set_list ha) hs hw h1) fun D σ H ⟨ρ, A, S, h⟩ => useS S h fun k ρ1 v H1 S1 F1 R1 q => ?_
  split at q
  · rename_i d
    split at q
    · rename_i ds0 e0
      obtain ⟨a, o, ho⟩ := lstAt_is S1 e0
      refine ⟨_, o.1, useS S1 q fun ki ρ2 vi H2 S2 F2 R2 q => ?_⟩
      split at q
      · rename_i z ds e1
        split at q
        · rename_i j ej
          obtain ⟨a', o', ho'⟩ := lstAt_is S2 e1
          have : a' = a := by have := o'.1; rw [o.1] at this; cases this; rfl
          subst this
          cases R1 with
          | res R1 =>
            cases R1 with
            | imm R1 =>
              cases R2 with
              | res R2 =>
                cases ho' with
                | @lst xs _ hl' r' hln' =>
                  refine ⟨a', xs, z, j, rfl, R2.int, hl', by rw [r'.length]; exact ej, ?_⟩
                  have F3 : Fr c.G.T (fun b => b = a') H2 (upd H2 a' (.lst (xs.set j v))) := Fr.at hl' (fun z => z) .lst
                  exact q σ _ A (S2.put F3 o' (.lst upd_same ((r'.set j (R1.ps F2.ps)).ps F3.ps) (by rw [List.length_set]; exact hln'))) F3.ps
        · exact q.elim
      · exact q.elim
    · exact q.elim
  · exact q.elim
end
end DL
namespace DL
open PySem PySem.Spec PyProof.Rows L2

def borS (om : Option M) : List DL.Slot := match om with
  | some m => [DL.Slot.bor m]
  | none => []
def fin2 (om : Option M) (ρ : Env) (k : Option M → FOut) : FOut := match om with
  | none => k none
  | some _ => match ρ[(0 : Nat)]? with
    | some (.bor m) => k (some m)
    | _ => .bad
def finF (om : Option M) : SOut → FOut
  | .nx ρ => fin2 om ρ (.ret (.imm .non))
  | .rt r ρ => fin2 om ρ (.ret r)
  | .exc x ρ => fin2 om ρ (.exc x)
  | _ => .bad
/-- a def: so many parameters, so many further names, the body -/
def mkF (np nx : Nat) (b : SV) : FnD := fun om ds => if (borS om ++ ds.map Slot.imm).length = np then finF om (b ((borS om ++ ds.map Slot.imm) ++ List.replicate nx .non)) else .bad

section
variable {G : Gm} {H : Hp}
theorem ImmL.slots : ∀ {us : List V} {ds : List D} (i : Nat) (s : DL.Slot), ImmL G H us ds → (ds.map Slot.imm)[i]? = some s → ∃ v, (us.map some)[i]? = some v ∧ SlotR G H s v
  | _, _, i, s, .nil, e => by simp at e
  | _, _, 0, s, .cons h t, e => by simp at e; subst e; exact ⟨_, rfl, .imm h⟩
  | _, _, i + 1, s, .cons h t, e => by
    obtain ⟨v, q, r⟩ := t.slots i s (by simpa using e)
    exact ⟨v, by simpa using q, r⟩
theorem pad_get {α : Type} {l : List α} {k i : Nat} {x y : α} (h : (l ++ List.replicate k x)[i]? = some y) : l[i]? = some y ∨ (l.length ≤ i ∧ i < l.length + k ∧ y = x) := by
  by_cases hi : i < l.length
  · rw [List.getElem?_append_left hi] at h; exact .inl h
  · rw [List.getElem?_append_right (by omega), List.getElem?_replicate] at h
    split at h
    · cases h; exact .inr ⟨by omega, by omega, rfl⟩
    · cases h
theorem start_stt {B : Option Addr} {om : Option M} {us : List V} {ds : List D} {k : Nat} (ht : LamX.Tabs G.T H) (hb : BorR G H B om) (r : ImmL G H us ds) :
    Stt ⟨G, H, B⟩ (fun a => B = some a) ((borS om ++ ds.map Slot.imm) ++ List.replicate k .non) ((refs B ++ us).map some ++ List.replicate k none) H := by
  have l1 : (borS om).length = (refs B).length := by cases hb <;> rfl
  have own : ∀ {i a}, OwnAt ((borS om ++ ds.map Slot.imm) ++ List.replicate k .non) ((refs B ++ us).map some ++ List.replicate k none) i a → i = 0 ∧ B = some a ∧ ∃ m, om = some m := fun {i a} ⟨h1, s, m, h2, h3⟩ => by
    rcases pad_get h2 with h2 | ⟨_, _, rfl⟩
    · cases hb with
      | none =>
        simp only [borS, List.nil_append, List.getElem?_map, Option.map_eq_some_iff] at h2
        obtain ⟨d, _, rfl⟩ := h2
        cases h3
      | @some a' m' ho =>
        cases i with
        | zero =>
          simp only [refs, List.cons_append, List.map_cons, List.getElem?_cons_zero] at h1
          cases h1
          exact ⟨rfl, rfl, _, rfl⟩
        | succ j =>
          simp only [borS, List.cons_append, List.nil_append, List.getElem?_cons_succ, List.getElem?_map, Option.map_eq_some_iff] at h2
          obtain ⟨d, _, rfl⟩ := h2
          cases h3
    · cases h3
  refine ⟨by simp [l1, r.length], fun i s e => ?_, fun i j a x y => by rw [(own x).1, (own y).1], fun i a x => (own x).2.1, fun a x => ?_, fun b o e _ _ => e, fun b h => h, fun a x => .inr x, fun i a m e q => ?_, fun i a m e q => ⟨(own ⟨q, _, _, e, rfl⟩).1, (own ⟨q, _, _, e, rfl⟩).2.1⟩, fun a x => ?_, ht, ht⟩
  · rcases pad_get e with e | ⟨z1, z2, rfl⟩
    · have hi : i < (borS om ++ ds.map Slot.imm).length := (List.getElem?_eq_some_iff.mp e).1
      have hl : i < ((refs B ++ us).map some).length := by
        simp only [List.length_append, List.length_map] at hi ⊢
        rw [← l1, r.length]; exact hi
      rw [List.getElem?_append_left hl]
      cases hb with
      | none => exact r.slots i s e
      | some ho =>
        cases i with
        | zero => simp [borS] at e; subst e; exact ⟨_, rfl, .bor ho⟩
        | succ j => simpa [refs] using r.slots j s (by simpa [borS] using e)
    · have z3 : ((refs B ++ us).map some).length ≤ i := by
        simp only [List.length_append, List.length_map] at z1 ⊢
        rw [← l1, r.length]; exact z1
      rw [List.getElem?_append_right z3, List.getElem?_replicate]
      refine ⟨none, ?_, .non _⟩
      rw [if_pos]
      simp only [List.length_append, List.length_map] at z1 z2 z3 ⊢
      rw [← l1, r.length]; omega
  · cases hb with
    | none => cases x
    | some ho => cases x; exact ho.ne
  · rcases pad_get e with e | ⟨_, _, e⟩
    · cases hb with
      | none =>
        simp only [borS, List.nil_append, List.getElem?_map, Option.map_eq_some_iff] at e
        obtain ⟨d, _, e⟩ := e
        cases e
      | some ho =>
        cases i with
        | zero => simp [borS] at e
        | succ j =>
          simp only [borS, List.cons_append, List.nil_append, List.getElem?_cons_succ, List.getElem?_map, Option.map_eq_some_iff] at e
          obtain ⟨d, _, e⟩ := e
          cases e
    · cases e
  · cases hb with
    | none => cases x
    | some ho => cases x; exact ho.ne
theorem back {c : Cn} {A : Addr → Prop} {ρ : Env} {σ : Sg} {H' : Hp} {om om' : Option M} {k : Option M → FOut} {P : FOut → Prop} (S : Stt c A ρ σ H') (hb : BorR c.G c.H0 c.B om) (h : P (fin2 om ρ k)) (hbad : ¬ P .bad) : ∃ om', BorR c.G H' c.B om' ∧ P (k om') := by
  cases om with
  | none =>
    have : c.B = none := by generalize c.B = b at hb; cases hb; rfl
    rw [this]
    exact ⟨none, .none, h⟩
  | some m =>
    unfold fin2 at h
    split at h
    · cases ‹some m = none›
    · split at h
      · rename_i m' e
        obtain ⟨a, ⟨ha, _⟩, ho⟩ := S.is e (m := m') rfl
        have := (S.borN 0 a m' e ha).2
        rw [this]
        exact ⟨some m', .some ho, h⟩
      · exact (hbad h).elim
theorem RetR.res {c : Cn} {H' : Hp} {v : V} {r : Res} (h : RetR c H' v r) : ResR c.G c.H0 H' v r := by
  cases h with
  | imm h => exact .imm h
  | new h n => exact .new h n
  | pair ht hv ho n1 n2 => exact .pair ht hv ho n1 n2
/-- the reading of a body -/
theorem body_ok {b : SV} {np nx : Nat} {vs : List V} {Q : VK} {E : XK} (h : spF G np (mkF np nx b) vs H Q E) :
    ∃ B, tS ⟨G, H, B⟩ (fun cls d _ H' => E cls d H') b { nx := fun _ H' => Q .non H', rt := Q } (vs.map some ++ List.replicate nx none) H := by
  obtain ⟨ht, B, om, us, ds, rfl, hl, hb, r, h⟩ := h
  refine ⟨B, _, _, start_stt (k := nx) ht hb r, ?_⟩
  unfold mkF at h
  split at h
  · have fr : ∀ {A' ρ' σ' H'}, Stt ⟨G, H, B⟩ A' ρ' σ' H' → Fr G.T (fun b => B = some b) H H' := fun S => ⟨fun b o e n p => S.base b o e n (p.imp id fun z y => z y), S.dom, fun _ => S.tabs⟩
    generalize b ((borS om ++ ds.map Slot.imm) ++ List.replicate nx .non) = o at h
    cases o with
    | nx ρ' =>
      intro σ' H' A' S' _
      obtain ⟨om', hb', h'⟩ := back (k := .ret (.imm .non)) (om' := none) (P := endF G H B Q E) S' hb h (fun z => z)
      exact h' _ H' (fr S') hb' (.imm .non)
    | rt r ρ' =>
      intro v σ' H' A' S' _ hr
      obtain ⟨om', hb', h'⟩ := back (k := .ret r) (om' := none) (P := endF G H B Q E) S' hb h (fun z => z)
      exact h' v H' (fr S') hb' hr.res
    | exc x ρ' =>
      intro cls d σ' H' A' S' _ hx
      obtain ⟨om', hb', h'⟩ := back (k := .exc x) (om' := none) (P := endF G H B Q E) S' hb h (fun z => z)
      exact h' cls d H' (fr S') hb' hx
    | bk ρ' => exact h.elim
    | ct ρ' => exact h.elim
    | bad => exact h.elim
  · exact h.elim
end

section
variable {P : Program} {w : World} {K : PySem.W.Frag} {mg : Str → Option Value} {base : Heap} {G : Gm}
/-- the context of a def's body -/
abbrev bodyX (P : Program) (w : World) (K : PySem.W.Frag) (mg : Str → Option Value) (base : Heap) (N : List Str) (qual : Str) (st : Stmt) (f : Addr) (cdv : Value) (A : Around) (outer : List PySem.Env) (s : Shared) (H : Hp) (E : XK) : Cx :=
  cxOf (L2N.CX P w) P w K mg base N qual (defScope st) f cdv A outer s H E
abbrev bodyW (E : XK) : Wx := fun cls d _ H => E cls d H
theorem okD {x qual : Str} {st : Stmt} {f : Addr} {fd : FuncData} {N ps : List Str} {k np nx : Nat} {b : SV} (F : Fun K x qual st f fd) (S : FnScope N ps (defScope st)) (hps : ps.length = np) (hN : N.length = np + nx)
    (hbody : ∀ (B : Option Addr) (cdv : Value) (A : Around) (outer : List PySem.Env) (s : Shared) (H : Hp) (E : XK), Room k (A.deeper (envOfC qual (defScope st) s.heap.objs.size f cdv)) →
      DSs ⟨G, H, B⟩ (bodyW E) (bodyX P w K mg base N qual st f cdv A outer s H E) (defBody st) b) : FnOk P w K mg base (L2N.CX P w) (k + 1) f fd ps (spF G np (mkF np nx b)) := by
  obtain ⟨v1, v2, v3, v4, v5, v6, cdv, v7, v8, rfl, hlk, hcode⟩ := F.ex
  refine fn_of hlk hcode S (fun vs H Q E h => ?_) fun A outer s H vs Q E hr h => ?_
  · obtain ⟨_, B, om, us, ds, e, hl, _⟩ := h
    rw [hl, hps]
  · have hl : vs.length = np := by obtain ⟨_, B, om, us, ds, e, hl, _⟩ := h; exact hl
    obtain ⟨B, h⟩ := body_ok h
    refine ⟨_, hbody B cdv A outer s H E hr, ?_⟩
    have e : N.length - vs.length = nx := by omega
    unfold L2.start
    rw [e]
    exact h
end

/-- a def's promise, for callers, whatever the context -/
structure FnG (G : Gm) (mg : Str → Option Value) (base : Heap) (k n : Nat) (f : Addr) (g : FnD) : Prop where
  ex : ∃ (fd : FuncData) (ps : List Str), FnOk G.P G.w G.K mg base (L2N.CX G.P G.w) k f fd ps (spF G n g) ∧ Binds G.K fd ps []
  kp : PySem.W.keepIn G.K (.ref f) = true
theorem ru65 {k : Nat} {A : Around} (r : Room k A) : A.units + 65 < cLine := by have := r.un; omega
theorem ru1 {k : Nat} {A : Around} (r : Room k A) : A.units + 1 < cLine := by have := r.un; omega
section
variable {c : Cn} {W : Wx} {X : Cx}
theorem dx_fn {x : Str} {p pos : Pos} {e : Expr} {es : List Expr} {k n : Nat} {f : Addr} {g : FnD} {fa : AV} (F : FnG c.G X.mg X.base k n f g) (hr : Room k X.A) (hm : X.mg x = some (.ref f)) (tk : L2N.Takes X W) (ha : DA c W X (e :: es) fa) (hg : Gl X x := by rfl) (hP : X.prog = c.G.P := by rfl) (hw : X.w = c.G.w := by rfl) (hK : X.K = c.G.K := by rfl)
    (hdb : (x == ("__debug__" : Str)) = false := by decide) (he : starEach (e :: es) X.env = (false, eval e X.env) :: starEach es X.env := by rfl) (hpl : (backTo pos (starEach es X.env)).any (·.1) = false := by rfl) :
    DX c W X (.Call (.Name x p) (e :: es) [] pos) (eCall n g fa) := by
  refine dx_call (k := k) (n := n) (f := f) (g := g) ⟨?_, ?_⟩ hr hg hm tk ha hdb he hpl
  · rw [hP, hw, hK]; exact F.ex
  · rw [hK]; exact F.kp
def eCall0 (g : FnD) : EV := fun ρ => callP g [] ρ
theorem dx_fn0 {x : Str} {p pos : Pos} {k : Nat} {f : Addr} {g : FnD} (F : FnG c.G X.mg X.base k 0 f g) (hr : Room k X.A) (hm : X.mg x = some (.ref f)) (tk : L2N.Takes X W) (hg : Gl X x := by rfl) (hP : X.prog = c.G.P := by rfl) (hw : X.w = c.G.w := by rfl) (hK : X.K = c.G.K := by rfl)
    (hdb : (x == ("__debug__" : Str)) = false := by decide) : DX c W X (.Call (.Name x p) [] [] pos) (eCall0 g) := by
  obtain ⟨fd, ps, h1, h2⟩ := F.ex
  rw [← hP, ← hw, ← hK] at h1
  rw [← hK] at h2
  refine ⟨fun pins s σ H Q I ⟨ρ, A, S, h⟩ => ?_⟩
  have sp : spF c.G 0 g [] H Q (WE W σ) := useP S .refl .nil rfl rfl h
  refine wpAny_Call_Name_kw (ld_glob I hg hm ?_ hdb)
  exact PySem.W.callWith_K0 I.kIn (by rw [hK]; exact F.kp) (run_fnS (us := []) (E := fun σ => WE W σ) h1 hr h2 (L2N.passAt tk σ) I .nil sp)
theorem takesF {X : Cx} : L2N.Takes X WF := fun _ _ x => by
  obtain ⟨_, _, _, _, _, _, _, _, _, _, _, _, _, _, _, _, z⟩ := x
  exact z.elim
end
end DL
namespace DL
open PySem PySem.Spec PyProof.Rows L2
section
variable {c : Cn} {W : Wx} {X : Cx} {H : Hp}
/-! ### named rules -/
theorem subG_ok : OpG c.G (rI0 fun i j => .int (i - j)) subG := intG_ok0 fun _ _ _ => .int _
theorem fdivG_ok : OpG c.G (rI CDivN fun i j => .int (i.fdiv j)) fdivG := intG_ok (fun _ _ h => by have := of_decide_eq_true h; exact this) fun _ _ _ => .int _
theorem modG_ok : OpG c.G (rI (fun _ j => j ≠ 0) fun i j => .int (i.fmod j)) modG := intG_ok (fun _ _ h => of_decide_eq_true h) fun _ _ _ => .int _
theorem powG_ok : OpG c.G (rI CPow fun i j => .int (i ^ j.toNat)) powG := intG_ok (fun _ _ h => by have := of_decide_eq_true h; exact this) fun _ _ _ => .int _
theorem ltG_ok : OpG c.G (rI0 fun i j => .bl (decide (i < j))) ltG := intG_ok0 fun _ _ _ => .bl _
theorem leG_ok : OpG c.G (rI0 fun i j => .bl (decide (i ≤ j))) leG := intG_ok0 fun _ _ _ => .bl _
theorem gtG_ok : OpG c.G (rI0 fun i j => .bl (decide (j < i))) gtG := intG_ok0 fun _ _ _ => .bl _
theorem geG_ok : OpG c.G (rI0 fun i j => .bl (decide (j ≤ i))) geG := intG_ok0 fun _ _ _ => .bl _
def mulG : D → D → Option Res
  | .int i, .int j => if (-(2 ^ 64) < i ∧ i < 2 ^ 64) ∨ (-(2 ^ 64) < j ∧ j < 2 ^ 64) then some (.imm (.int (i * j))) else none
  | .tup ds, .int k => if ds ≠ [] ∧ 2 ≤ k ∧ k ≤ 1000 ∧ ds.length ≤ 1000 then some (.imm (.tup (List.replicate k.toNat ds).flatten)) else none
  | _, _ => none
def rMulA (K : PySem.W.Frag) : R2 := fun x y H Q => rI CMul (fun i j => .int (i * j)) x y H Q ∨ rRepT K x y H Q
theorem op_mulA : OpR X (binaryOp .Mult) (rMulA X.K) := op_mul.or op_repT
theorem rep_imm {G : Gm} {xs : List V} {ds : List D} (r : ImmL G H xs ds) : ∀ k : Nat, ImmL G H (List.replicate k xs).flatten (List.replicate k ds).flatten
  | 0 => .nil
  | k + 1 => by simpa [List.replicate_succ] using r.append (rep_imm r k)
theorem rep_len {α : Type} (xs : List α) : ∀ k : Nat, (List.replicate k xs).flatten.length = k * xs.length
  | 0 => by simp
  | k + 1 => by simp [List.replicate_succ, rep_len xs k, Nat.succ_mul, Nat.add_comm]
theorem mulG_ok (hK : X.K = c.G.K) : OpG c.G (rMulA X.K) mulG := by
  intro H x y d e rs hx hy h Q k
  unfold mulG at h
  split at h
  · split at h
    · rename_i hc
      cases h
      exact .inl ⟨_, _, hx.int, hy.int, hc, k _ _ .refl (.imm (.int _))⟩
    · cases h
  · split at h
    · rename_i ds n hc
      cases h
      obtain ⟨a, xs, rfl, h1, h2, hl⟩ := hx.tup
      obtain ⟨c1, c2, c3, c4⟩ := hc
      refine .inr ⟨a, n, xs, rfl, hy.int, hK ▸ h1.sq, fun z => ?_, c2, c3, by rw [h2.length]; exact c4, fun p hp => ?_⟩
      · subst z; cases h2; exact c1 rfl
      · refine fin_tup k rfl hp (rep_imm h2 _) ?_
        rw [rep_len]
        have h3 : n.toNat ≤ 1000 := by omega
        exact Nat.le_trans (Nat.mul_le_mul h3 c4) (by decide)
    · cases h
  · cases h
end
end DL
namespace DL
open PySem PySem.Spec PyProof.Rows L2
theorem bt_len : bootBuiltins "len" = some (.builtin "len") := by decide +kernel
theorem bt_all : bootBuiltins "all" = some (.builtin "all") := by decide +kernel
theorem bt_max : bootBuiltins "max" = some (.builtin "max") := by decide +kernel
theorem bt_min : bootBuiltins "min" = some (.builtin "min") := by decide +kernel
theorem bt_sum : bootBuiltins "sum" = some (.builtin "sum") := by decide +kernel
theorem bt_isinstance : bootBuiltins "isinstance" = some (.builtin "isinstance") := by decide +kernel
theorem bt_int : bootBuiltins "int" = some (.type "int") := by decide +kernel
theorem bt_str : bootBuiltins "str" = some (.type "str") := by decide +kernel
theorem bt_bool : bootBuiltins "bool" = some (.type "bool") := by decide +kernel
theorem bt_tuple : bootBuiltins "tuple" = some (.type "tuple") := by decide +kernel
theorem bt_list : bootBuiltins "list" = some (.type "list") := by decide +kernel
theorem bt_dict : bootBuiltins "dict" = some (.type "dict") := by decide +kernel
theorem bt_set : bootBuiltins "set" = some (.type "set") := by decide +kernel
theorem bt_sorted : bootBuiltins "sorted" = some (.builtin "sorted") := by decide +kernel
section
variable {c : Cn} {W : Wx} {X : Cx}
theorem dx_gstr (cs : List Nat) {x s : Str} {t : Tok} {pos : Pos} (hg : Gl X x) (hm : X.mg x = some (.str s t)) (e : cstr cs = s := by decide +kernel) (h1 : (cs.all (· < 0x110000)) = true := by decide) (h2 : cs.length ≤ 1000 := by decide) (hd : (x == ("__debug__" : Str)) = false := by decide) : DX c W X (.Name x pos) (eC (.str cs)) := by
  subst e
  exact dx_glob (v := .str (cstr cs)) hg hm ⟨_, rfl⟩ (fun _ => .str cs h1 (Nat.le_trans h2 (by decide))) hd
theorem dx_gint {x : Str} {i : Int} {t : Tok} {pos : Pos} (hg : Gl X x) (hm : X.mg x = some (.int i t)) (hd : (x == ("__debug__" : Str)) = false := by decide) : DX c W X (.Name x pos) (eC (.int i)) :=
  dx_glob (v := .int i) hg hm ⟨_, rfl⟩ (fun _ => .int i) hd
theorem dx_gref {x : Str} {a : Addr} {d : D} {pos : Pos} (hg : Gl X x) (hm : X.mg x = some (.ref a)) (hi : ∀ H, Imm c.G H (.ref a) d) (hd : (x == ("__debug__" : Str)) = false := by decide) : DX c W X (.Name x pos) (eC d) :=
  dx_glob (v := .ref a) hg hm rfl hi hd
theorem dx_gfn {x : Str} {a : Addr} {n : Nat} {pos : Pos} (hg : Gl X x) (hm : X.mg x = some (.ref a)) (hi : c.G.fa n = some a) (hd : (x == ("__debug__" : Str)) = false := by decide) : DX c W X (.Name x pos) (eC (.fn n)) :=
  dx_glob (v := .ref a) hg hm rfl (fun _ => .fn hi) hd
abbrev dx_rev := @dx_revL
end
theorem FnG.zero {G : Gm} {mg : Str → Option Value} {base : Heap} {x qual : Str} {st : Stmt} {f : Addr} {fd : FuncData} {ps : List Str} {k n : Nat} (F : Fun G.K x qual st f fd) (hb : Binds G.K fd ps []) (hl : ps.length = n) : FnG G mg base k n f (fun _ _ => .bad) :=
  ⟨⟨fd, ps, ⟨fun vs H Q E h => by obtain ⟨_, _, _, _, _, _, h, _⟩ := h; rw [h, hl], fun A outer s H args us vs Q E _ _ _ _ h => by obtain ⟨_, _, _, _, _, _, _, _, _, h⟩ := h; exact h.elim⟩, hb⟩, F.kp⟩
end DL
namespace DL
open PySem PySem.Spec PyProof.Rows L2
def spLaw (K : PySem.W.Frag) : Sp := fun vs H Q _ => ∃ (a : Addr) (ns : List Int), vs = [.ref a] ∧ SeqA K H a (ns.map V.int) ∧ ns.length ≤ 63 ∧ ∀ H', Q (.bl true) H'
theorem seqA_of {K : PySem.W.Frag} {H : Hp} {a : Addr} {xs : List V} (hO : Only H) (hS : SqL K H a xs) : SeqA K H a xs := by
  rcases hS with (h | h) | h
  · rcases hO a with z | ⟨o, ys, z⟩ <;> rw [z] at h <;> cases h
  · exact .inl h
  · exact .inr h
theorem noex_law {P : Program} {w : World} {H : Hp} {s s' : Shared} {e : Value} (z : L2N.CX P w [] H s (fun _ _ _ => False) e s') : False := by
  obtain ⟨_, _, _, _, _, _, _, _, _, _, _, _, z⟩ := z
  exact z
end DL
namespace DL
open PySem PySem.Spec PyProof.Rows L2
theorem rel_s {cs : List Nat} {s : Str} {t : Tok} (h : cstr cs = s) : RelV (.str (cstr cs)) (.str s t) := ⟨t, by rw [h]⟩
end DL
/-! DL15: t[::-1] of a text, a tuple, a list; a list times an int. -/
namespace DL
open PySem PySem.Spec PyProof.Rows L2
section
variable {prog : Program} {w : World} {A : Around} {E : Value → Shared → Prop} {s : Shared}
theorem adjust_rev (n : Nat) : Builtin.Slice.sliceAdjust none none (-1) (n : Int) = ((n : Int) - 1, -1) := by
  unfold Builtin.Slice.sliceAdjust
  rfl
theorem places_rev (n : Nat) : Builtin.Slice.slicePlaces ((n : Int) - 1) (-1) (-1) = n := by
  unfold Builtin.Slice.slicePlaces
  have h1 : ¬ ((-1 : Int) > 0) := by omega
  rw [if_neg h1]
  by_cases h : (n : Int) - 1 > -1
  · rw [if_pos h, show (- -1 : Int) = 1 by decide, Int.ediv_one]
    omega
  · rw [if_neg h]
    omega
theorem rev_of {α : Type} (xs : Array α) : ((List.range xs.size).map fun k => xs.size - 1 - k).filterMap (xs[·]?) = xs.toList.reverse := by
  rw [PySem.W.krv_range, List.filterMap_reverse, PySem.W.krv_all]
theorem pick_rev (xs : Array Value) : ((List.range xs.size).filterMap fun (m : Nat) => xs[(((xs.size : Int) - 1) + (m : Int) * -1).toNat]?) = xs.toList.reverse := by
  rw [← rev_of, List.filterMap_map]
  refine congrArg (fun f => List.filterMap f (List.range xs.size)) (funext fun m => ?_)
  show _ = xs[xs.size - 1 - m]?
  rw [show (((xs.size : Int) - 1) + (m : Int) * -1).toNat = xs.size - 1 - m by omega]
theorem applied_rev {sl : Addr} {t : Tok} {n : Nat} {Q : Int × Int × Nat → Shared → Prop} (hs : s.heap.IsSliceOf sl .none .none (.int (-1) t)) (h : Q ((n : Int) - 1, -1, n) s) :
    wpAny (model prog w) A (Builtin.Slice.sliceApplied (.ref sl) (pure (n : Int))) Q E s := by
  obtain ⟨os, g, _, gd⟩ := id hs
  unfold Builtin.Slice.sliceApplied Builtin.Slice.sliceFields
  refine wpAny_bind (wpAny_bind (wpAny_field g gd (x := .none) rfl (wpAny_bind (wpAny_field g gd (x := .none) rfl (wpAny_bind (wpAny_field g gd (x := .int (-1) t) rfl (wpAny_pure ?_)))))))
  refine wpAny_bind (HT.slicePart_ (.int (-1) t) ?_)
  show wpAny _ _ (if ((-1 : Int) == 0) = true then _ else _) _ _ s
  rw [if_neg (by decide)]
  refine wpAny_bind (HT.slicePart_ .none (wpAny_bind (HT.slicePart_ .none (wpAny_bind (wpAny_pure ?_)))))
  show wpAny _ _ (match Builtin.Slice.sliceAdjust none none (-1) (n : Int) with | (lo, hi) => pure (lo, (-1 : Int), Builtin.Slice.slicePlaces lo hi (-1))) _ _ s
  rw [adjust_rev]
  show wpAny _ _ (pure ((n : Int) - 1, (-1 : Int), Builtin.Slice.slicePlaces ((n : Int) - 1) (-1) (-1))) _ _ s
  rw [places_rev]
  exact wpAny_pure h
theorem getItem_tupR {a sl : Addr} {items : Array Value} {t : Tok} {Q : Value → Shared → Prop} (ht : IsTup s.heap a items) (hs : s.heap.IsSliceOf sl .none .none (.int (-1) t))
    (h : Q (.ref s.heap.objs.size) { s with heap := s.heap.push { cls := .type "tuple", data := .seq items.toList.reverse.toArray } }) (sz : items.size ≤ sizeLine) :
    wpAny (model prog w) A (getItem (.ref a) (.ref sl)) Q E s := by
  have fit : sizeOk (.seq items.toList.reverse.toArray) := by
    show items.toList.reverse.toArray.size ≤ sizeLine
    simpa using sz
  obtain ⟨os, g, gc, gd⟩ := id hs
  have ts : s.TypeIs (.ref sl) "slice" := ⟨os, g, gc⟩
  unfold getItem
  try with_reducible refine wpAny_holding ?_
  first | refine wpAny_bind (wpAny_pure ?_) | skip
  refine wpAny_bind (wpAny_sequenceKey ht.typeIs (by decide) ?_)
  refine wpAny_bind (wpAny_callSpecial?_slot (name := Str.ofString "__getitem__") ht.typeIs slot_tuple_getitem (wpAny_call_entry slot_tuple_getitem ht.typeIs entry_tuple_getitem ?_ (args_tuple_getitem _ _)))
  show wpAny _ _ (Builtin.Tuple.tupleItemsOf (.ref a) >>= _) _ _ s
  refine wpAny_bind (tupleItemsOf_ ht ?_)
  refine wpAny_bind (wpAny_typeOf ts ?_)
  rw [if_pos (by decide)]
  refine wpAny_bind (applied_rev hs ?_)
  show wpAny _ _ (if (((items.size : Int) - 1) == 0 && (-1 : Int) == 1 && items.size == items.size) = true then _ else _) _ _ s
  have no : ¬ ((((items.size : Int) - 1) == 0 && (-1 : Int) == 1 && items.size == items.size) = true) := fun q => by
    rw [Bool.and_eq_true, Bool.and_eq_true] at q
    exact absurd q.1.2 (by decide)
  rw [if_neg no, pick_rev]
  first
    | exact wpAny_bind (m := Builtin.Tuple.tupleExact _) (wpAny_newObj_type (wpAny_pure ⟨_, rfl, wpAny_pure h⟩) fit)
    | exact wpAny_bind (m := Builtin.Tuple.tupleExact _) (wpAny_newObj_type (wpAny_bind (wpAny_pure (wpAny_pure ⟨_, rfl, wpAny_pure h⟩))) fit)
    | exact wpAny_bind (wpAny_bind (m := Builtin.Tuple.tupleExact _) (wpAny_newObj_type (wpAny_pure (wpAny_pure ⟨_, rfl, wpAny_pure h⟩)) fit))
    | exact wpAny_bind (wpAny_bind (m := Builtin.Tuple.tupleExact _) (wpAny_newObj_type (wpAny_pure ⟨_, rfl, wpAny_pure h⟩) fit))
theorem picked_rev (x : Str) (t : Tok) : slicePicked x none none (some (-1, t)) = (List.range x.length).map fun k => x.length - 1 - k := by
  unfold slicePicked
  show Builtin.Str.strSliceIndices none none (-1) x.length = _
  unfold Builtin.Str.strSliceIndices
  exact PySem.W.krv_sliceRange x.length
theorem made_rev (cs : List Nat) (t u : Tok) : sliceMade (cstr cs) u none none (some (-1, t)) = .str (cstr cs.reverse) := by
  unfold sliceMade
  rw [if_neg (by simp), picked_rev]
  have e := rev_of (cstr cs).cps
  have e2 : (cstr cs).length = (cstr cs).cps.size := rfl
  rw [e2, e]
  simp [cstr]
end
section
variable {c : Cn} {W : Wx} {X : Cx}
theorem pe_revA {e : Expr} {te : TE} {k : Nat} {p1 p2 p3 pos : Pos} (he : PE X e te) : PE X (.Subscript e (.Slice none none (some (.UnaryOp .USub (.Constant (.int 1) k p1) p2)) p3) pos) (fun σ H Q => te σ H fun x H1 =>
    (∃ a xs, x = .ref a ∧ SqL X.K H1 a xs ∧ ∀ p, H1 p = none → Q (.ref p) (upd H1 p (.lst xs.reverse))) ∨ (∃ a xs, x = .ref a ∧ SqT X.K H1 a xs ∧ ∀ p, H1 p = none → Q (.ref p) (upd H1 p (.tup xs.reverse))) ∨ (∃ cs, x = .str (cstr cs) ∧ cs.length ≤ sizeLine ∧ Q (.str (cstr cs.reverse)) H1)) := by
  refine ⟨fun pins s σ H Q I h => Subscript_ (thn (he.run pins s σ H _ I h) fun v s1 ⟨x, H1, I1, r1, q⟩ => ?_)⟩
  have step : PO X (some (.UnaryOp .USub (.Constant (.int 1) k p1) p2)) (tPart (tUn (rU fun i => .int (-i)) (tC (.int 1)))) := po_some (pe_un un_neg pe_int)
  refine wpAny_Slice (thn (po_none.run pins s1 σ H1 (fun o H2 => o = none ∧ H2 = H1) I1 ⟨rfl, rfl⟩) fun vl s2 ⟨l, H2, I2, pl, el, e2⟩ => ?_)
  subst el e2
  refine thn (po_none.run pins s2 σ H2 (fun o H3 => o = none ∧ H3 = H2) I2 ⟨rfl, rfl⟩) fun vu s3 ⟨u, H3, I3, pu, eu, e3⟩ => ?_
  subst eu e3
  refine thn (step.run pins s3 σ H3 (fun o H4 => o = some (-1) ∧ H4 = H3) I3 ⟨1, rfl, -1, rfl, rfl, rfl⟩) fun vs s4 ⟨o, H4, I4, ps, eo, e4⟩ => ?_
  subst eo e4
  cases pl; cases pu
  obtain ⟨tk, rfl⟩ : ∃ tk, vs = .int (-1) tk := by cases ps with | int i t => exact ⟨t, rfl⟩
  have I5 : Inv X pins σ H4 { s4 with heap := s4.heap.push { cls := .type "slice", data := .fields #[.none, .none, .int (-1) tk] } } := I4.kept (t' := s4.toks) fun b ob q => Heap.get?_push_of_some _ q
  show wpAny (model X.prog X.w) X.A (subscriptTail e (.Slice none none (some (.UnaryOp .USub (.Constant (.int 1) k p1) p2)) p3) v (.ref s4.heap.objs.size)) (EP X pins σ Q) X.xe { s4 with heap := s4.heap.push { cls := .type "slice", data := .fields #[.none, .none, .int (-1) tk] } }
  rcases q with ⟨a, xs, rfl, hx, q⟩ | ⟨a, xs, rfl, hx, q⟩ | ⟨cs, rfl, hl, q⟩
  · cases r1
    obtain ⟨its, r, ht, hz⟩ := I5.list hx
    have hlen := r.length
    refine tail_any (ops := [.ref a, .ref s4.heap.objs.size]) ht.isList.typeIs (PySem.slot_list_getitem.lookup) ?_ (by with_unfolding_all rfl)
    refine wpAny_getItem_list_slice ht.isList (Heap.IsSliceOf.new _ _ _ _) .none .none (.int (-1) tk) (by decide) ?_ (by rw [List.size_toArray]; omega)
    rw [PySem.W.krv_pick]
    refine ⟨.ref _, _, I5.laid (t' := s4.toks) (o := .lst xs.reverse) (fun b ob q => Heap.get?_push_of_some _ q) (Nat.le_refl _) ?_, rfl, q _ (I5.hok.fresh (Nat.le_refl _))⟩
    exact ⟨by rw [List.length_reverse]; exact hz, _, 0, r.reverse, Heap.get?_push_size _ rfl⟩
  · cases r1
    obtain ⟨its, r, ht, hz⟩ := I5.tuple hx
    have hlen := r.length
    refine tail_any (ops := [.ref a, .ref s4.heap.objs.size]) ht.typeIs (slot_tuple_getitem.lookup) ?_ (by with_unfolding_all rfl)
    refine getItem_tupR ht (Heap.IsSliceOf.new _ _ _ _) ?_ (by rw [List.size_toArray]; omega)
    refine ⟨.ref _, _, I5.laid (t' := s4.toks) (o := .tup xs.reverse) (fun b ob q => Heap.get?_push_of_some _ q) (Nat.le_refl _) ?_, rfl, q _ (I5.hok.fresh (Nat.le_refl _))⟩
    exact ⟨by rw [List.length_reverse]; exact hz, _, by simpa using r.reverse, IsTup.new _ _⟩
  · obtain ⟨t, rfl⟩ := r1
    refine tail_any (ops := [.ref s4.heap.objs.size, .str (cstr cs) t]) (typeIs_str _ _ t) (PySem.F.slot_str_getitem.lookup) ?_ (by with_unfolding_all rfl)
    refine wpAny_getItem_str_slice (l := none) (u := none) (st := some (-1, tk)) ⟨_, Heap.get?_push_size _ rfl, rfl, rfl⟩ rfl ?_
    rw [made_rev]
    exact ⟨by rw [cstr_len, List.length_reverse]; exact hl, ⟨.str (cstr cs.reverse), H4, I5.tok _, ⟨_, rfl⟩, q⟩⟩
def revG2 : D → Option Res
  | .lst ds => some (.new (.lst ds.reverse))
  | .tup ds => some (.imm (.tup ds.reverse))
  | .str cs => some (.imm (.str cs.reverse))
  | _ => none
theorem dx_revA {e : Expr} {f : EV} {k : Nat} {p1 p2 p3 pos : Pos} (hK : X.K = c.G.K) (he : DX c W X e f) : DX c W X (.Subscript e (.Slice none none (some (.UnaryOp .USub (.Constant (.int 1) k p1) p2)) p3) pos) (e1 revG2 f) := by
  refine PE.imp (pe_revA he) fun σ H Q h => use1 (r := fun x H1 Q => (∃ a xs, x = .ref a ∧ SqL X.K H1 a xs ∧ ∀ p, H1 p = none → Q (.ref p) (upd H1 p (.lst xs.reverse))) ∨ (∃ a xs, x = .ref a ∧ SqT X.K H1 a xs ∧ ∀ p, H1 p = none → Q (.ref p) (upd H1 p (.tup xs.reverse))) ∨ (∃ cs, x = .str (cstr cs) ∧ cs.length ≤ sizeLine ∧ Q (.str (cstr cs.reverse)) H1)) (fun H x d rs hv hg Q k => ?_) h
  unfold revG2 at hg
  split at hg
  · cases hg
    obtain ⟨a, xs, rfl, h1, h2, hl⟩ := hv.lst
    exact .inl ⟨a, xs, rfl, .inl h1, fun p hp => fin_lst k rfl hp h2.reverse (by rw [List.length_reverse]; exact hl)⟩
  · cases hg
    obtain ⟨a, xs, rfl, h1, h2, hl⟩ := hv.tup
    exact .inr (.inl ⟨a, xs, rfl, hK ▸ h1.sq, fun p hp => fin_tup k rfl hp h2.reverse (by rw [List.length_reverse]; exact hl)⟩)
  · cases hg
    obtain ⟨rfl, h1, h2⟩ := hv.str
    exact .inr (.inr ⟨_, rfl, h2, k _ _ .refl (.imm (.str _ (by rw [List.all_reverse]; exact h1) (by rw [List.length_reverse]; exact h2)))⟩)
  · cases hg
/-! ### a list times an int -/
def rRepQ : R2 := fun x y H Q => ∃ l k xs, x = .ref l ∧ y = .int k ∧ Rd H l (.lst xs) ∧ -(2 ^ 63) ≤ k ∧ k < 2 ^ 63 ∧ xs.length * k.toNat ≤ sizeLine ∧ ∀ p, H p = none → Q (.ref p) (upd H p (.lst (List.replicate k.toNat xs).flatten))
theorem op_repQ : OpR X (binaryOp .Mult) rRepQ := by
  intro pins s σ H x y v u Q I rx ry ⟨l, k, xs, ex, ey, h, k1, k2, sz, q⟩
  subst ex; subst ey
  cases rx
  obtain ⟨t, rfl⟩ := ry
  obtain ⟨us, n, r, l1, e⟩ := rdl I h
  have sz2 : us.toArray.size * k.toNat ≤ sizeLine := by
    rw [List.size_toArray, ← l1]; exact sz
  have cap : ¬ us.toArray.size * k.toNat > (2 ^ 63 - 1) / 8 := by
    have : (sizeLine : Nat) ≤ (2 ^ 63 - 1) / 8 := by decide
    omega
  have fit : ¬ (!Builtin.List.listFitsIndex k) = true := by
    rw [fitsIndex_both k1 k2]; exact Bool.false_ne_true
  have long : ¬ Builtin.List.listTooLong (us.toArray.size * k.toNat) = true := by
    rw [notLongL sz2]; exact Bool.false_ne_true
  have new : List.foldl (fun x1 x2 => x1 ++ x2) #[] (List.replicate (if us.toArray.isEmpty = true then 0 else k.toNat) us.toArray) = (List.replicate k.toNat us).flatten.toArray := by
    have f : ∀ m : Nat, List.foldl (fun x1 x2 => x1 ++ x2) #[] (List.replicate m us.toArray) = (List.replicate m us).flatten.toArray := fun m => by
      have := foldl_rep us m []
      rwa [List.nil_append] at this
    rw [f]
    cases us with
    | nil => simp
    | cons a b => rw [if_neg (by simp)]
  refine wpAny_binaryOp_repeat_ref (T := "list") (U := "int") (by decide) ⟨_, e, rfl⟩ (fun s2 => typeIs_int s2 k t) noFill_list_mul F.fills_int_mul F.slot_int_rmul repeat_list F.slot_int_index.lookup
    (call_meets F.slot_int_rmul (typeIs_int s k t) F.entry_int_rmul (F.args_int_rmul_2 _ _) (int___rmul___int_list k t l us.toArray n)
      ⟨e, rfl, ⟨_, e, rfl⟩, call_meets F.slot_list_mul ⟨_, e, rfl⟩ F.entry_list_mul (F.args_list_mul_2 _ _) (AutoListH.list___mul___list_int_3 l us.toArray n k t fit cap long) ⟨e, ?_⟩⟩)
  rw [new]
  exact ⟨.ref _, _, I.lnew (t' := s.toks) (r.rep k.toNat) (by rw [PyProof.Rows.lm_len_rep_flat, Nat.mul_comm]; exact sz), rfl, q _ I.fresh⟩
def mulG2 : D → D → Option Res
  | .lst ds, .int k => if -(2 ^ 63) ≤ k ∧ k < 2 ^ 63 ∧ ds.length * k.toNat ≤ sizeLine then some (.new (.lst (List.replicate k.toNat ds).flatten)) else none
  | a, b => mulG a b
def rMul2 (K : PySem.W.Frag) : R2 := fun x y H Q => rRepQ x y H Q ∨ rMulA K x y H Q
theorem op_mul2 : OpR X (binaryOp .Mult) (rMul2 X.K) := op_repQ.or op_mulA
theorem mulG2_ok (hK : X.K = c.G.K) : OpG c.G (rMul2 X.K) mulG2 := by
  intro H x y d e rs hx hy h Q k
  unfold mulG2 at h
  split at h
  · split at h
    · rename_i ds n hc
      cases h
      obtain ⟨a, xs, rfl, h1, h2, hl⟩ := hx.lst
      refine .inl ⟨a, n, xs, rfl, hy.int, h1, hc.1, hc.2.1, by rw [h2.length]; exact hc.2.2, fun p hp => ?_⟩
      refine fin_lst k rfl hp (rep_imm h2 _) ?_
      rw [rep_len, Nat.mul_comm]
      exact hc.2.2
    · cases h
  · exact .inr (mulG_ok hK H x y _ _ rs hx hy h Q k)
end
end DL
/-! Dn1: dicts whose keys are tuples. -/
namespace DL
open PySem PySem.Spec PyProof.Rows L2
/-- a tuple that may be a key -/
def kok (d : D) : Bool := match d.key with
  | some (.tup ks) => decide ((NestedKey.tup ks).depth ≤ 8)
  | _ => false
section
variable {X : Cx} {pins : List (Addr × Obj)} {σ : L2.St} {H : Hp} {s : Shared} {G : Gm}
mutual
theorem Imm.nest (I : Inv X pins σ H s) (hK : X.K = G.K) : ∀ {v : V} {d : D} {k : NestedKey} {u : Value}, Imm G H v d → D.key d = some k → RelV v u → NestedIs s.heap k u
  | _, _, k, u, .non, e, _ => by cases e
  | _, _, k, u, .bl b, e, _ => by cases e
  | _, _, k, u, .int i, e, r => by cases e; obtain ⟨t, rfl⟩ := r; exact .int _ _
  | _, _, k, u, .str cs h l, e, r => by cases e; obtain ⟨t, rfl⟩ := r; exact .text _ _
  | _, _, k, u, .tup ht r hl, e, q => by
    simp only [D.key, Option.map_eq_some_iff] at e
    obtain ⟨ks, e, rfl⟩ := e
    obtain ⟨its, rv, pt, _⟩ := I.tuple (hK ▸ ht.sq)
    cases q
    obtain ⟨o, g, c, n, dt⟩ := pt
    exact .tup g c dt (ImmL.nest I hK r e (by simpa using rv))
  | _, _, k, u, .lst .., e, _ => by cases e
  | _, _, k, u, .dcn .., e, _ => by cases e
  | _, _, k, u, .dck .., e, _ => by cases e
  | _, _, k, u, .kdc .., e, _ => by cases e
  | _, _, k, u, .seq .., e, _ => by cases e
  | _, _, k, u, .fn .., e, _ => by cases e
theorem ImmL.nest (I : Inv X pins σ H s) (hK : X.K = G.K) : ∀ {vs : List V} {ds : List D} {ks : List NestedKey} {us : List Value}, ImmL G H vs ds → D.keys ds = some ks → Vals vs us → NestedAll s.heap ks us
  | _, _, ks, us, .nil, e, r => by cases e; cases r; exact .nil
  | _, _, ks, us, .cons (d := d) (ds := ds) h t, e, r => by
    simp only [D.keys] at e
    split at e
    · rename_i k ks' e1 e2
      cases e
      cases r with
      | cons r1 r2 => exact .cons (Imm.nest I hK h e1 r1) (ImmL.nest I hK t e2 r2)
    · cases e
end
/-- a dict that may be a key's place -/
theorem key_is (I : Inv X pins σ H s) (hK : X.K = G.K) {v : V} {d : D} {u : Value} (h : Imm G H v d) (hk : kok d = true) (r : RelV v u) : ∃ a k, u = .ref a ∧ v = .ref a ∧ d.key = some k ∧ (nestedKind X.prog X.w).is s.heap k a := by
  unfold kok at hk
  split at hk
  · rename_i ks e
    have n := Imm.nest I hK h e r
    have ev : ∃ a, v = .ref a := by
      cases h <;> first | exact ⟨_, rfl⟩ | (exfalso; cases e)
    obtain ⟨a, rfl⟩ := ev
    cases r
    exact ⟨a, _, rfl, rfl, e, n, of_decide_eq_true hk⟩
  · cases hk
theorem key_ref {v : V} {d : D} (h : Imm G H v d) (hk : kok d = true) : ∃ a, v = .ref a := by
  cases h <;> first | exact ⟨_, rfl⟩ | (exfalso; simp [kok, D.key] at hk)
theorem keys_is (I : Inv X pins σ H s) (hK : X.K = G.K) : ∀ {xs : List (NestedKey × Addr × Value)} {ks : List D}, (∀ x ∈ xs, x.1.depth ≤ 8) → ImmL G H (xs.map fun x => V.ref x.2.1) ks → ks.map D.key = xs.map (fun x => some x.1) → ∀ x ∈ xs, (nestedKind X.prog X.w).is s.heap x.1 x.2.1
  | [], ks, hd, r, e, x, hx => by cases hx
  | y :: xs, [], hd, r, e, x, hx => by simp at e
  | y :: xs, k :: ks, hd, r, e, x, hx => by
    rw [List.map_cons, List.map_cons, List.cons.injEq] at e
    cases r with
    | cons h t =>
      rcases List.mem_cons.mp hx with rfl | hx
      · exact ⟨Imm.nest I hK h e.1 rfl, hd _ (by simp)⟩
      · exact keys_is I hK (fun z hz => hd z (by simp [hz])) t e.2 x hx
theorem dNO_rd (I : Inv X pins σ H s) {a : Addr} {xs : List (NestedKey × Addr × Value)} (h : Rd H a (dNO G a xs)) : dNP G a xs s.heap := by
  rcases h with h | ⟨o, h⟩
  · exact (I.hok a _ h).1
  · obtain ⟨_, h⟩ := I.hok a _ h
    exact h.1
theorem dcn_of (I : Inv X pins σ H s) (hP : X.prog = G.P) (hw : X.w = G.w) (hK : X.K = G.K) {a : Addr} {xs : List (NestedKey × Addr × Value)} {ks : List D} (h : Rd H a (dNO G a xs)) (hk : ks.map D.key = xs.map fun x => some x.1) (rk : ImmL G H (xs.map fun x => V.ref x.2.1) ks) :
    xs.length ≤ sizeLine ∧ (a == sysModules) = false ∧ s.heap.DictOfH (nestedKind X.prog X.w) a xs := by
  obtain ⟨h1, h2, o, es, ep, h3, h4, h5, h6, h7, h8⟩ := dNO_rd I h
  rw [← hP, ← hw] at h6
  exact ⟨h1, h2, o, es, ep, h3, h4, h5, h6, keys_is I hK h8 rk hk, h7⟩
end
theorem kEq_of {a b : D} {x y : NestedKey} (h : a.key = some x) (h' : b.key = some y) : kEq a b = decide (x = y) := by
  unfold kEq; rw [h, h']
/-- what is looked for -/
theorem look_d {G : Gm} {H : Hp} {d : D} {k : NestedKey} (hd : d.key = some k) : ∀ {xs : List (NestedKey × Addr × Value)} {vals : List V} {ks vs : List D}, Vals vals (xs.map (·.2.2)) → ks.map D.key = xs.map (fun x => some x.1) → ImmL G H vals vs →
    match dLook ks vs d with
      | some x => ∃ p v, atKey xs k = some p ∧ RelV v p.2 ∧ Imm G H v x
      | none => atKey xs k = none
  | [], vals, ks, vs, hv, hk, rv => by
    cases ks with
    | nil => cases vs <;> rfl
    | cons a b => simp at hk
  | y :: xs, vals, [], vs, hv, hk, rv => by simp at hk
  | y :: xs, [], k0 :: ks, vs, hv, hk, rv => by cases hv
  | y :: xs, v0 :: vals, k0 :: ks, [], hv, hk, rv => by cases rv
  | y :: xs, v0 :: vals, k0 :: ks, w0 :: vs, hv, hk, rv => by
    rw [List.map_cons, List.map_cons, List.cons.injEq] at hk
    cases rv with
    | cons h t =>
      cases hv with
      | cons r1 r2 =>
        unfold dLook
        rw [kEq_of hk.1 hd]
        by_cases z : y.1 = k
        · rw [decide_eq_true z, if_pos rfl]
          exact ⟨y.2, v0, by simp [atKey, z], r1, h⟩
        · rw [decide_eq_false z, if_neg Bool.false_ne_true]
          have ih := look_d (G := G) (H := H) hd r2 hk.2 t
          have e : atKey (y :: xs) k = atKey xs k := by simp [atKey, List.find?_cons, z]
          rw [e]
          exact ih
def hasK : List D → D → Bool
  | [], _ => false
  | a :: ks, d => kEq a d || hasK ks d
theorem has_d {d : D} {k : NestedKey} (hd : d.key = some k) : ∀ {xs : List (NestedKey × Addr × Value)} {ks : List D}, ks.map D.key = xs.map (fun x => some x.1) → (atKey xs k).isSome = hasK ks d
  | [], ks, hk => by
    cases ks with
    | nil => rfl
    | cons a b => simp at hk
  | y :: xs, [], hk => by simp at hk
  | y :: xs, k0 :: ks, hk => by
    rw [List.map_cons, List.map_cons, List.cons.injEq] at hk
    unfold hasK
    rw [kEq_of hk.1 hd]
    by_cases z : y.1 = k
    · rw [decide_eq_true z]
      simp [atKey, z]
    · rw [decide_eq_false z, Bool.false_or, ← has_d hd hk.2]
      simp [atKey, List.find?_cons, z]

/-! ### in, [] -/
section
variable {X : Cx} {c : Cn} {W : Wx}
def rInN (G : Gm) (neg : Bool) : R2 := fun x y H Q => ∃ a d ks vs, y = .ref a ∧ DcnR G H a ks vs ∧ Imm G H x d ∧ kok d = true ∧ Q (.bl (if neg then !(hasK ks d) else hasK ks d)) H
theorem op_inN (hP : X.prog = c.G.P) (hw : X.w = c.G.w) (hK : X.K = c.G.K) (hu : X.A.units + 65 < cLine) : OpR X (compareOp .In) (rInN c.G false) := by
  intro pins s σ H x y v u Q I rx ry ⟨a, d, ks, vs, ey, R, hd, hk, q⟩
  subst ey
  cases ry
  obtain ⟨xs, vals, h, hv, hkk, rk, rv⟩ := R
  obtain ⟨b, k, rfl, rfl, ek, is⟩ := key_is I hK hd hk rx
  obtain ⟨z1, z2, dd⟩ := dcn_of I hP hw hK h hkk rk
  refine wpAny_in_heap (knd := nestedKind X.prog X.w) (by show X.A.units + 1 + 8 < cLine; omega) is z2 dd ?_
  rw [has_d ek hkk]
  exact ⟨.bl _, H, I.tok _, rfl, q⟩
theorem op_notInN (hP : X.prog = c.G.P) (hw : X.w = c.G.w) (hK : X.K = c.G.K) (hu : X.A.units + 65 < cLine) : OpR X (compareOp .NotIn) (rInN c.G true) := by
  intro pins s σ H x y v u Q I rx ry ⟨a, d, ks, vs, ey, R, hd, hk, q⟩
  subst ey
  cases ry
  obtain ⟨xs, vals, h, hv, hkk, rk, rv⟩ := R
  obtain ⟨b, k, rfl, rfl, ek, is⟩ := key_is I hK hd hk rx
  obtain ⟨z1, z2, dd⟩ := dcn_of I hP hw hK h hkk rk
  refine notIn_keyed (knd := nestedKind X.prog X.w) (by show X.A.units + 1 + 8 < cLine; omega) is z2 ⟨xs, dd, rfl⟩ ?_
  rw [valueAt_pairsH, Option.isSome_map, has_d ek hkk]
  exact ⟨.bl _, H, I.tok _, rfl, q⟩
def inG2 (neg : Bool) (d e : D) : Option Res := match e with
  | .dcn ks _ => if kok d = true then some (.imm (.bl (if neg then !(hasK ks d) else hasK ks d))) else none
  | e => inG neg d e
def rInB (G : Gm) (K : PySem.W.Frag) (neg : Bool) : R2 := fun x y H Q => rInA K neg x y H Q ∨ rInN G neg x y H Q
theorem op_in2 (hP : X.prog = c.G.P) (hw : X.w = c.G.w) (hK : X.K = c.G.K) (hu : X.A.units + 65 < cLine) : OpR X (compareOp .In) (rInB c.G X.K false) := (op_inA hu).or (op_inN hP hw hK hu)
theorem op_notIn2 (hP : X.prog = c.G.P) (hw : X.w = c.G.w) (hK : X.K = c.G.K) (hu : X.A.units + 65 < cLine) : OpR X (compareOp .NotIn) (rInB c.G X.K true) := (op_notInA hu).or (op_notInN hP hw hK hu)
theorem kok_vw {G : Gm} {H : Hp} {v : V} {d : D} (h : Vw G H v d) (hk : kok d = true) : Imm G H v d := by
  cases h with
  | imm h => exact h
  | obj h => cases h <;> simp [M.toD, kok, D.key] at hk
theorem inG2_ok {neg : Bool} (hK : X.K = c.G.K) : OpG c.G (rInB c.G X.K neg) (inG2 neg) := by
  intro H x y d e rs hx hy h Q k
  unfold inG2 at h
  split at h
  · split at h
    · rename_i hk
      cases h
      obtain ⟨a, rfl, R⟩ := hy.dcn
      exact .inr ⟨a, d, _, _, rfl, R, kok_vw hx hk, hk, k _ _ .refl (.imm (.bl _))⟩
    · cases h
  · exact .inl (hK ▸ inG_ok H x y _ _ rs hx hy h Q k)
def rIxN (G : Gm) : R2 := fun x y H Q => ∃ a d ks vs z v, x = .ref a ∧ DcnR G H a ks vs ∧ Imm G H y d ∧ kok d = true ∧ dLook ks vs d = some z ∧ (∀ v, Imm G H v z → Q v H) ∧ v = z
theorem ix_dcn (hP : X.prog = c.G.P) (hw : X.w = c.G.w) (hK : X.K = c.G.K) (hu : X.A.units + 9 < cLine) : IxR X (rIxN c.G) := by
  intro value slice pins s σ H x y v u Q I rx ry ⟨a, d, ks, vs, z, v', ex, R, hd, hk, hl, q, _⟩ hs
  subst ex
  obtain rfl : v = Value.ref a := rx
  obtain ⟨xs, vals, h, hv, hkk, rk, rv⟩ := R
  obtain ⟨b, k, rfl, rfl, ek, is⟩ := key_is I hK hd hk ry
  obtain ⟨z1, z2, dd⟩ := dcn_of I hP hw hK h hkk rk
  have L := look_d (G := c.G) (H := H) ek hv hkk rv
  rw [hl] at L
  obtain ⟨p, w', e1, e2, e3⟩ := L
  exact tail_any dd.typeIs slot_dict_getitem.lookup (wpAny_getItem_heap (knd := nestedKind X.prog X.w) (by show X.A.units + 1 + 8 < cLine; omega) is dd e1 ⟨w', H, I.tok _, e2, q w' e3⟩) hs
def ixD2 (d k : D) : Option Res := match d with
  | .dcn ks vs => if kok k = true then (dLook ks vs k).map .imm else none
  | d => ixD d k
def rIxA2 (G : Gm) (K : PySem.W.Frag) (w : World) : R2 := fun x y H Q => rIxAll K w x y H Q ∨ rIxN G x y H Q
theorem ix_all2 (hP : X.prog = c.G.P) (hw : X.w = c.G.w) (hK : X.K = c.G.K) (hu : X.A.units + 65 < cLine) : IxR X (rIxA2 c.G X.K X.w) := (ix_all (by omega)).or (ix_dcn hP hw hK (by omega))
theorem ixD2_ok (hK : X.K = c.G.K) (hw : X.w = c.G.w) : OpG c.G (rIxA2 c.G X.K X.w) ixD2 := by
  intro H x y d e rs hx hy h Q k
  unfold ixD2 at h
  split at h
  · split at h
    · rename_i hk
      simp only [Option.map_eq_some_iff] at h
      obtain ⟨z, hz, rfl⟩ := h
      obtain ⟨a, rfl, R⟩ := hx.dcn
      exact .inr ⟨a, e, _, _, z, z, rfl, R, kok_vw hy hk, hk, hz, fun v hv => k v H .refl (.imm hv), rfl⟩
    · cases h
  · exact .inl (ixD_ok hK hw H x y _ _ rs hx hy h Q k)
end
end DL
/-! Dn2: {}, d[k] = v, list(d), for k in d, of dicts whose keys are tuples. -/
namespace DL
open PySem PySem.Spec PyProof.Rows L2
/-- what is put in -/
def putK : List D → List D → D → D → List D × List D
  | a :: ks, v :: vs, k, x => if kEq a k = true then (a :: ks, x :: vs) else (a :: (putK ks vs k x).1, v :: (putK ks vs k x).2)
  | _, _, k, x => ([k], [x])
section
variable {G : Gm} {H : Hp}
theorem stored_cons {y : NestedKey × Addr × Value} {xs : List (NestedKey × Addr × Value)} {k : NestedKey} {a : Addr} {v : Value} (h : ¬ y.1 = k) : storedH (y :: xs) k a v = y :: storedH xs k a v := by
  have e : atKey (y :: xs) k = atKey xs k := by simp [atKey, List.find?_cons, h]
  unfold storedH
  rw [e]
  by_cases z : (atKey xs k).isSome = true
  · rw [if_pos z, if_pos z, List.map_cons]
    have : putAt k v y = y := by unfold putAt; rw [if_neg h]
    rw [this]
  · rw [if_neg z, if_neg z]; rfl
theorem stored_hit {y : NestedKey × Addr × Value} {xs : List (NestedKey × Addr × Value)} {k : NestedKey} {a : Addr} {v : Value} (h : y.1 = k) (hn : ((y :: xs).map (·.1)).Nodup) : storedH (y :: xs) k a v = (y.1, y.2.1, v) :: xs := by
  have e : (atKey (y :: xs) k).isSome = true := by simp [atKey, h]
  unfold storedH
  rw [if_pos e, List.map_cons]
  have p : putAt k v y = (y.1, y.2.1, v) := by unfold putAt; rw [if_pos h]
  rw [p]
  refine congrArg _ ?_
  rw [List.map_cons, List.nodup_cons] at hn
  conv => rhs; rw [← List.map_id xs]
  refine List.map_congr_left fun z hz => ?_
  have : ¬ z.1 = k := fun q => hn.1 (by rw [h, ← q]; exact List.mem_map.mpr ⟨z, hz, rfl⟩)
  unfold putAt
  rw [if_neg this]; rfl
/-- the dict behind a store -/
theorem put_d {d x : D} {k : NestedKey} {b : Addr} {v : V} {u : Value} (hd : d.key = some k) (hi : Imm G H (.ref b) d) (hx : Imm G H v x) (hr : RelV v u) : ∀ {xs : List (NestedKey × Addr × Value)} {vals : List V} {ks vs : List D}, (xs.map (·.1)).Nodup → Vals vals (xs.map (·.2.2)) → ks.map D.key = xs.map (fun x => some x.1) → ImmL G H (xs.map fun x => V.ref x.2.1) ks → ImmL G H vals vs →
    ∃ vals', Vals vals' ((storedH xs k b u).map (·.2.2)) ∧ (putK ks vs d x).1.map D.key = (storedH xs k b u).map (fun x => some x.1) ∧ ImmL G H ((storedH xs k b u).map fun x => V.ref x.2.1) (putK ks vs d x).1 ∧ ImmL G H vals' (putK ks vs d x).2
  | [], vals, ks, vs, hn, hv, hk, rk, rv => by
    cases rk
    have e : putK [] vs d x = ([d], [x]) := by unfold putK; rfl
    rw [e]
    have e2 : storedH ([] : List (NestedKey × Addr × Value)) k b u = [(k, b, u)] := rfl
    rw [e2]
    exact ⟨[v], .cons hr .nil, by simp [hd], .cons hi .nil, .cons hx .nil⟩
  | y :: xs, vals, [], vs, hn, hv, hk, rk, rv => by simp at hk
  | y :: xs, [], k0 :: ks, vs, hn, hv, hk, rk, rv => by cases hv
  | y :: xs, v0 :: vals, k0 :: ks, [], hn, hv, hk, rk, rv => by cases rv
  | y :: xs, v0 :: vals, k0 :: ks, w0 :: vs, hn, hv, hk, rk, rv => by
    have hk0 := hk
    rw [List.map_cons, List.map_cons, List.cons.injEq] at hk
    cases rv with
    | cons h t =>
      cases hv with
      | cons r1 r2 =>
        cases rk with
        | cons q1 q2 =>
          unfold putK
          rw [kEq_of hk.1 hd]
          by_cases z : y.1 = k
          · rw [decide_eq_true z, if_pos rfl, stored_hit z hn]
            exact ⟨v :: vals, .cons hr r2, hk0, .cons q1 q2, .cons hx t⟩
          · rw [decide_eq_false z, if_neg Bool.false_ne_true, stored_cons z]
            rw [List.map_cons, List.nodup_cons] at hn
            obtain ⟨vals', a1, a2, a3, a4⟩ := put_d hd hi hx hr hn.2 r2 hk.2 q2 t
            exact ⟨v0 :: vals', .cons r1 a1, by rw [List.map_cons, List.map_cons, hk.1, a2], .cons q1 a3, .cons h a4⟩
end
theorem stored_len {xs : List (NestedKey × Addr × Value)} {k : NestedKey} {b : Addr} {u : Value} : (storedH xs k b u).length ≤ xs.length + 1 := by
  unfold storedH
  split <;> simp
theorem stored_dep {xs : List (NestedKey × Addr × Value)} {k : NestedKey} {b : Addr} {u : Value} (h : ∀ x ∈ xs, x.1.depth ≤ 8) (hk : k.depth ≤ 8) : ∀ x ∈ storedH xs k b u, x.1.depth ≤ 8 := fun x hx => by
  unfold storedH at hx
  split at hx
  · obtain ⟨y, hy, rfl⟩ := List.mem_map.mp hx
    have := h y hy
    unfold putAt
    split <;> exact this
  · rcases List.mem_append.mp hx with hx | hx
    · exact h x hx
    · cases List.mem_singleton.mp hx; exact hk
section
variable {X : Cx} {c : Cn} {W : Wx} {A : Addr → Prop} {ρ : Env} {σ : Sg} {H H1 : Hp}
/-! ### {} -/
def eDnew : EV := fun ρ => .ok (.res (.new (.dcn [] []))) ρ
theorem pe_dnewN (hP : X.prog = c.G.P) (hw : X.w = c.G.w) {pos : Pos} : PE X (.Dict [] [] pos) (fun _ H Q => ∀ p, H p = none → Q (.ref p) (upd H p (dNO c.G p []))) := by
  refine ⟨fun pins s σ H Q I h => ?_⟩
  have big := I.big
  refine wpAny_Dict_empty ?_
  have new : ObjOk X.prog X.w (upd H s.heap.objs.size (dNO c.G s.heap.objs.size [])) (s.heap.push { cls := .type "dict", data := .dict #[] }) s.heap.objs.size (dNO c.G s.heap.objs.size []) := by
    refine ⟨⟨Nat.zero_le _, ?_, _, #[], 0, Heap.get?_push_size _ rfl, ⟨rfl, rfl, rfl⟩, rfl, rfl, List.nodup_nil, fun _ hx => by simp at hx⟩, ⟨_, Heap.get?_push_size _ rfl⟩, fun h1 h2 ⟨a1, a2, o, es, ep, a3, a4⟩ st => ⟨a1, a2, o, es, ep, st _ a3, a4⟩⟩
    exact beq_eq_false_iff_ne.mpr (Nat.ne_of_gt big)
  exact ⟨.ref _, _, I.laid (t' := s.toks) (o := dNO c.G s.heap.objs.size []) (fun b ob q => Heap.get?_push_of_some _ q) (Nat.le_refl _) new, rfl, h _ I.fresh⟩
theorem dx_dnewN {pos : Pos} (hP : X.prog = c.G.P := by rfl) (hw : X.w = c.G.w := by rfl) : DX c W X (.Dict [] [] pos) eDnew := by
  refine PE.imp (pe_dnewN hP hw) fun σ H Q ⟨ρ, A, S, h⟩ => fun p hp => ?_
  have F : Fr c.G.T (fun _ => False) H (upd H p (dNO c.G p [])) := .new hp
  exact h _ _ (S.grow F) F.any (.res (.new (.dcn upd_same (vals := []) .nil rfl .nil .nil) hp))
/-! ### d[k] = v -/
def rSetN (G : Gm) : V → V → V → Hp → (Hp → Prop) → Prop := fun o i v H Q => ∃ a ks vs y x, o = .ref a ∧ H a ≠ none ∧ Obm G H a (.dcn ks vs) ∧ Imm G H i y ∧ kok y = true ∧ Imm G H v x ∧ ks.length < sizeLine ∧
  ∀ xs' u, H a = some u → NCo u → ¬ Pst u → Obm G (upd H a (dNO G a xs')) a (.dcn (putK ks vs y x).1 (putK ks vs y x).2) → Q (upd H a (dNO G a xs'))
theorem set_dcn (hP : X.prog = c.G.P) (hw : X.w = c.G.w) (hK : X.K = c.G.K) (hu : X.A.units + 65 < cLine) : PSet X (rSetN c.G) := by
  intro pins s σ H o i v ov iv u Q I ro ri rv ⟨a, ks, vs, y, x, eo, _, ho, hy, hk, hx, hl, q⟩
  subst eo
  cases ro
  cases ho with
  | @dcn xs vals _ _ h hv hkk rk rvv =>
    obtain ⟨b, k, e1, e2, ek, is⟩ := key_is I hK hy hk ri
    subst e1 e2
    obtain ⟨z1, z2, dd⟩ := dcn_of I hP hw hK (.inl h) hkk rk
    obtain ⟨_, _, _, _, _, _, _, _, _, nd, dp⟩ := dNO_rd I (.inl h)
    have xl : xs.length = ks.length := by have := congrArg List.length hkk; simpa using this.symm
    refine wpAny_setItem_heap (knd := nestedKind X.prog X.w) (hsz := z1) (by show X.A.units + 1 + 8 < cLine; omega) is dd fun h' hm' hs => ?_
    obtain ⟨vals', a1, a2, a3, a4⟩ := put_d (H := H) ek hy hx rv nd hv hkk rk rvv
    have up : ∀ b' o', H b' = some o' → Pst o' → upd H a (dNO c.G a (storedH xs k b u)) b' = some o' := fun b' o' e p => by
      rw [upd_ne (fun z => by subst z; rw [h] at e; cases e; exact p)]; exact e
    have obm : Obm c.G (upd H a (dNO c.G a (storedH xs k b u))) a (.dcn (putK ks vs y x).1 (putK ks vs y x).2) := .dcn upd_same a1 a2 (a3.ps up) (a4.ps up)
    obtain ⟨o', es', ep', g1, g2, g3, g4, g5, g6⟩ := hm'
    refine ⟨upd H a (dNO c.G a (storedH xs k b u)), I.write (t' := s.toks + (nestedKind X.prog X.w).draws k) (x := a) (e := a) (o := dNO c.G a (storedH xs k b u)) (by rw [h]; trivial) (.inl rfl) (fun b' u' ne e => (hs.2 b' ne).trans e) ⟨_, g1⟩ ?_, q _ _ h .dNO (fun z => z) obm⟩
    refine ⟨⟨Nat.le_trans stored_len (by omega), z2, o', es', ep', g1, g2, g3, by rw [← hP, ← hw]; exact g4, g6, stored_dep dp is.2⟩, ⟨_, g1⟩, fun h1 h2 ⟨b1, b2, o, es, ep, b3, b4⟩ st => ⟨b1, b2, o, es, ep, st _ b3, b4⟩⟩
def dcnAt (ρ : Env) (i : Nat) : Option (List DL.D × List DL.D) := match (ρ[i]?).bind Slot.obj? with
  | some (.dcn ks vs) => some (ks, vs)
  | _ => none
theorem dcnAt_is {i : Nat} {p : List DL.D × List DL.D} (S : Stt c A ρ σ H) (e : dcnAt ρ i = some p) : ∃ a, OwnAt ρ σ i a ∧ Obm c.G H a (.dcn p.1 p.2) := by
  unfold dcnAt at e
  split at e
  · rename_i ks vs h
    cases e
    simp only [Option.bind_eq_some_iff] at h
    obtain ⟨s, h1, h2⟩ := h
    exact S.is h1 h2
  · cases e
def sPut (i : Nat) (fi fe : EV) : SV := stB fe fun k ρ1 => match k with
  | .res (.imm d) => match dcnAt ρ1 i with
    | some _ => stB fi (fun ki ρ2 => match ki, dcnAt ρ2 i with
      | .res (.imm y), some (ks, vs) => if kok y = true ∧ ks.length < sizeLine then .nx (ρ2.modify i (Slot.put (.dcn (putK ks vs y d).1 (putK ks vs y d).2))) else .bad
      | _, _ => .bad) ρ1
    | none => .bad
  | _ => .bad
theorem ds_put {i : Nat} {x : Str} {ie e : Expr} {fi fe : EV} {p tpos pos : Pos} (hu : X.A.units + 65 < cLine) (hN : X.N[i]? = some x) (hv : Vis X.env.scope x) (hd : (x == ("__debug__" : Str)) = false) (hcd : (x == ("__classdict__" : Str)) = false) (hi : DX c W X ie fi) (he : DX c W X e fe)
    (hP : X.prog = c.G.P := by rfl) (hw2 : X.w = c.G.w := by rfl) (hK : X.K = c.G.K := by rfl)
    (ha : ∀ v, assign (.Subscript (.Name x p) ie tpos) X.env v = (do
      let ov ← holding [v] (eval (.Name x p) X.env)
      let iv ← holding [v, ov] (eval ie X.env)
      standAt tpos
      holding [v, ov, iv] (setItem ov iv v)
      release [v, ov, iv] []) := by intro _; rfl)
    (hs : swapsWithSole [.Subscript (.Name x p) ie tpos] e pos.line X.env = pure false := by rfl) (hw : swappedStores [.Subscript (.Name x p) ie tpos] e X.env = pure none := by rfl)
    (h1 : (assignEach [.Subscript (.Name x p) ie tpos] X.env).map (·.2) = [assign (.Subscript (.Name x p) ie tpos) X.env] := by rfl) :
    DS c W X (.Assign [.Subscript (.Name x p) ie tpos] e pos) (sPut i fi fe) := by
  refine PS.imp (ps_asg he (pg_sub (pe_var (i := i) hN hv hd hcd) hi (set_dcn hP hw2 hK hu) ha) hs hw h1) fun D σ H ⟨ρ, A, S, h⟩ => useS S h fun k ρ1 v H1 S1 F1 R1 q => ?_
  split at q
  · rename_i d
    split at q
    · rename_i p0 e0
      obtain ⟨a, o, ho⟩ := dcnAt_is S1 e0
      refine ⟨_, o.1, useS S1 q fun ki ρ2 vi H2 S2 F2 R2 q => ?_⟩
      split at q
      · rename_i y ks vs e1
        split at q
        · rename_i hc
          obtain ⟨a', o', ho'⟩ := dcnAt_is S2 e1
          have : a' = a := by have := o'.1; rw [o.1] at this; cases this; rfl
          subst this
          cases R1 with
          | res R1 =>
            cases R1 with
            | imm R1 =>
              cases R2 with
              | res R2 =>
                cases R2 with
                | imm R2 =>
                  refine ⟨a', ks, vs, y, d, rfl, ho'.ne, ho', R2, hc.1, R1.ps F2.ps, hc.2, fun xs' u hu nc np ob => ?_⟩
                  have F3 : Fr c.G.T (fun b => b = a') H2 (upd H2 a' (dNO c.G a' xs')) := Fr.at hu np nc
                  exact q σ _ A (S2.put F3 o' ob) F3.ps
        · exact q.elim
      · exact q.elim
    · exact q.elim
  · exact q.elim
/-! ### list(d) -/
theorem vals_keys {P : Program} {w : World} {xs : List (NestedKey × Addr × Value)} {es : Array DictEntry} {acc : Array Value} (he : es.toList = xs.map (entryOfKey (nestedKind P w))) (h : ItemsOf (fun i v => ∃ hi : i < es.size, v = es[i].key) acc es.size) : Vals (xs.map fun x => V.ref x.2.1) acc.toList := by
  have hl : es.size = xs.length := by rw [← Array.length_toList, he, List.length_map]
  have e : acc.toList = xs.map fun x => Value.ref x.2.1 := by
    refine List.ext_getElem (by rw [Array.length_toList, h.1, hl, List.length_map]) fun j h1 h2 => ?_
    have ja : j < acc.size := by simpa using h1
    obtain ⟨hi, e⟩ := h.2 j acc[j] (Array.getElem?_eq_getElem ja)
    rw [Array.getElem_toList, e, List.getElem_map]
    have q : es[j] = es.toList[j]'(by rw [Array.length_toList]; exact hi) := (Array.getElem_toList hi).symm
    rw [q]
    simp only [he, List.getElem_map]
    rfl
  rw [e]
  clear e h hl he
  induction xs with
  | nil => exact .nil
  | cons x xs ih => exact .cons rfl ih
theorem call_list_dcn (hc : X.calm = true) (hP : X.prog = c.G.P) (hw : X.w = c.G.w) : CallR X (.type "list") (fun ys H Q => ∃ a xs, ys = [.ref a] ∧ Rd H a (dNO c.G a xs) ∧ ∀ l, H l = none → Q (.ref l) (upd H l (.lst (xs.map fun x => V.ref x.2.1)))) := by
  intro pins s σ H ys us Q I r ⟨a, xs, e, h, q⟩
  subst e
  cases r with
  | cons r1 r2 =>
    cases r2
    cases r1
    obtain ⟨z1, z2, o, es, ep, g1, g2, g3, g4, _⟩ := dNO_rd I h
    have hl : es.size = xs.length := by rw [← Array.length_toList, g4, List.length_map]
    refine PySem.W.kdl_call (PySem.KdlSrc.rawDict (prog := X.prog) (w := X.w) (es := es) (ep := ep) z2) (I.ok.hd hc) ⟨o, g1, g2, g3⟩ (by omega) fun h' tk acc' c' kp ea items => ?_
    refine ⟨.ref s.heap.objs.size, _, I.laid (t' := tk) kp (Nat.le_refl _) (show ObjOk X.prog X.w _ h' _ (.lst (xs.map fun x => V.ref x.2.1)) from ⟨by rw [List.length_map]; exact z1, acc'.toList, c', vals_keys g4 items, by rw [Array.toArray_toList]; exact ea⟩), rfl, q _ (I.hok.fresh (Nat.le_refl _))⟩
theorem vals_signs {z : Str} {acc : Array Value} (h : ItemsOf (SignAt z) acc z.cps.size) : Vals (z.cps.toList.map fun c => V.str ⟨#[c]⟩) acc.toList := by
  have key : ∀ (cs : List Nat) (us : List Value), us.length = cs.length → (∀ (i : Nat) (v : Value), us[i]? = some v → ∃ (c : Nat) (u : Tok), cs[i]? = some c ∧ v = Value.str ⟨#[c]⟩ u) → Vals (cs.map fun c => V.str ⟨#[c]⟩) us := by
    intro cs
    induction cs with
    | nil =>
      intro us hl _
      cases us with
      | nil => exact .nil
      | cons a b => cases hl
    | cons c cs ih =>
      intro us hl hx
      cases us with
      | nil => cases hl
      | cons a us =>
        refine .cons ?_ (ih us (by simpa using hl) fun i v e => ?_)
        · obtain ⟨c', u, e1, e2⟩ := hx 0 a rfl
          cases e1
          exact ⟨u, e2⟩
        · exact hx (i + 1) v (by simpa using e)
  refine key _ _ (by rw [Array.length_toList, Array.length_toList]; exact h.1) fun i v e => ?_
  obtain ⟨c, u, e1, e2⟩ := h.2 i v (by rw [← Array.getElem?_toList]; exact e)
  exact ⟨c, u, by rw [Array.getElem?_toList]; exact e1, e2⟩
theorem call_list_text (hc : X.calm = true) : CallR X (.type "list") (fun ys H Q => ∃ z : Str, ys = [.str z] ∧ z.length ≤ sizeLine ∧ ∀ l, H l = none → Q (.ref l) (upd H l (.lst (z.cps.toList.map fun c => V.str ⟨#[c]⟩)))) := by
  intro pins s σ H ys us Q I r ⟨z, e, hz, q⟩
  subst e
  obtain ⟨u, rfl, t, rfl⟩ := vals1 r
  have hl : z.cps.toList.length ≤ sizeLine := by rw [Array.length_toList]; exact hz
  refine PySem.call_list_str (I.ok.hd hc) z t (fun h' tk acc' c' kp ea items => ?_) hz
  exact ⟨.ref s.heap.objs.size, _, I.laid (t' := tk) kp (Nat.le_refl _) (show ObjOk X.prog X.w _ h' _ (.lst (z.cps.toList.map fun c => V.str ⟨#[c]⟩)) from ⟨by rw [List.length_map]; exact hl, acc'.toList, c', vals_signs items, by rw [Array.toArray_toList]; exact ea⟩), rfl, q _ (I.hok.fresh (Nat.le_refl _))⟩
def listG2 : List DL.D → Option Res
  | [.dcn ks _] => if ks.length ≤ sizeLine then some (.new (.lst ks)) else none
  | [.str cs] => some (.new (.lst (cs.map fun c => .str [c])))
  | ds => listG ds
abbrev rLst2 (G : Gm) (K : PySem.W.Frag) : RB := fun xs H Q => (∃ p ys, xs = [.ref p] ∧ (SqL K H p ys ∨ SqT K H p ys) ∧ ∀ l, H l = none → Q (.ref l) (upd H l (.lst ys))) ∨ (∃ a ys, xs = [.ref a] ∧ Rd H a (dNO G a ys) ∧ ∀ l, H l = none → Q (.ref l) (upd H l (.lst (ys.map fun x => V.ref x.2.1)))) ∨ (∃ z : Str, xs = [.str z] ∧ z.length ≤ sizeLine ∧ ∀ l, H l = none → Q (.ref l) (upd H l (.lst (z.cps.toList.map fun c => V.str ⟨#[c]⟩))))
theorem CallR.or {f : Value} {r r' : RB} (h : CallR X f r) (h' : CallR X f r') : CallR X f (fun xs H Q => r xs H Q ∨ r' xs H Q) := by
  intro pins s σ H xs us Q I r q
  rcases q with q | q
  · exact h pins s σ H xs us Q I r q
  · exact h' pins s σ H xs us Q I r q
theorem call_list2 (hc : X.calm = true) (hP : X.prog = c.G.P) (hw : X.w = c.G.w) : CallR X (.type "list") (rLst2 c.G X.K) := call_list_of.or ((call_list_dcn hc hP hw).or (call_list_text hc))
theorem signs_imm {G : Gm} {H : Hp} : ∀ {cs : List Nat}, (cs.all (· < 0x110000)) = true → ImmL G H (cs.map fun c => V.str ⟨#[c]⟩) (cs.map fun c => .str [c])
  | [], _ => .nil
  | c :: cs, h => by
    rw [List.all_cons, Bool.and_eq_true] at h
    exact .cons (.str [c] (by rw [List.all_cons, h.1]; rfl) (by show 1 ≤ sizeLine; decide)) (signs_imm h.2)
theorem listG2_ok (hK : X.K = c.G.K) : CallG c.G (rLst2 c.G X.K) listG2 := by
  intro H xs ds rs hv hg Q k
  unfold listG2 at hg
  split at hg
  · split at hg
    · rename_i hl
      cases hg
      obtain ⟨x, rfl, h⟩ := hv.one
      obtain ⟨a, rfl, R⟩ := h.dcn
      obtain ⟨ys, vals, h, hv', hkk, rk, rv⟩ := R
      exact .inr (.inl ⟨a, ys, rfl, h, fun l hp => fin_lst k rfl hp rk hl⟩)
    · cases hg
  · cases hg
    obtain ⟨x, rfl, h⟩ := hv.one
    obtain ⟨rfl, h1, h2⟩ := h.str
    exact .inr (.inr ⟨_, rfl, by rw [cstr_len]; exact h2, fun l hp => fin_lst k rfl hp (signs_imm h1) (by rw [List.length_map]; exact h2)⟩)
  · exact .inl (listG_ok hK H xs _ rs hv hg Q k)
end
end DL
/-! Pr: a new tuple whose second item is an own new object. -/
namespace DL
open PySem PySem.Spec PyProof.Rows L2
section
variable {c : Cn} {W : Wx} {X : Cx} {A : Addr → Prop} {ρ : Env} {σ : Sg} {H0 H H' H1 : Hp}
def mkpK (ks : List Pk) (ρ : Env) : Out Pk := match ks with
  | [.res (.imm d), .res (.new m)] => .ok (.res (.pair d m)) ρ
  | _ => .bad
def eMkP (f : AV) : EV := fun ρ => (f ρ).bind mkpK
theorem dx_mkp {es : List Expr} {f : AV} {k : Nat} {pos : Pos} (h : DA c W X es f) : DX c W X (.Tuple es k pos) (eMkP f) := by
  refine PE.imp (pe_tup h) fun σ H Q ⟨ρ, A, S, h⟩ => cutA S .refl ?_
  unfold eMkP at h
  rw [Out.post_bind] at h
  refine Out.post_imp h (fun ks ρ1 q vs H1 S1 F1 R1 => ?_) fun _ _ q => q
  unfold mkpK at q
  split at q
  · rename_i d m
    cases R1 with
    | cons r1 t =>
      cases t with
      | cons r2 t =>
        cases t
        cases r1 with
        | res r1 =>
          cases r1 with
          | imm hv =>
            cases r2 with
            | res r2 =>
              cases r2 with
              | @new l _ ho n =>
                rename_i v1
                refine ⟨by show 2 ≤ sizeLine; decide, fun p hp => ?_⟩
                have F2 : Fr c.G.T (fun _ => False) H1 (upd H1 p (.tup [v1, .ref l])) := .new hp
                exact q _ _ (S1.grow F2) (F1.trans F2.any) (.res (.pair upd_same (hv.ps F2.ps) (ho.fr F2 fun z => z) (Classical.byContradiction fun z => F1.dom p z hp) n))
  · exact q.elim
def prjK (b : Bool) (k : Pk) (ρ : Env) : Out Pk := match k with
  | .res (.pair d m) => .ok (.res (match b with | true => .new m | false => .imm d)) ρ
  | _ => .bad
def ePr (b : Bool) (f : EV) : EV := fun ρ => (f ρ).bind (prjK b)
theorem dx_pr0 {a : Expr} {f : EV} {j : Nat} {pos pos' : Pos} (hK : X.K = c.G.K) (ha : DX c W X a f) : DX c W X (.Subscript a (.Constant (.int 0) j pos') pos) (ePr false f) := by
  refine PE.imp (pe_ix ix_seq ha pe_int (fun _ _ => rfl)) fun σ H Q ⟨ρ, A, S, h⟩ => cut S .refl ?_
  unfold ePr at h
  rw [Out.post_bind] at h
  refine Out.post_imp h (fun k ρ1 q v H1 S1 F1 R1 => ?_) fun _ _ q => q
  unfold prjK at q
  split at q
  · cases R1 with
    | res R1 =>
      cases R1 with
      | pair ht hv ho n1 n2 =>
        exact .inr (.inl ⟨_, _, _, _, rfl, rfl, .inl (.inl ht), rfl, q _ _ S1 F1 (.res (.imm hv))⟩)
  · exact q.elim
theorem dx_pr1 {a : Expr} {f : EV} {j : Nat} {pos pos' : Pos} (hK : X.K = c.G.K) (ha : DX c W X a f) : DX c W X (.Subscript a (.Constant (.int 1) j pos') pos) (ePr true f) := by
  refine PE.imp (pe_ix ix_seq ha pe_int (fun _ _ => rfl)) fun σ H Q ⟨ρ, A, S, h⟩ => cut S .refl ?_
  unfold ePr at h
  rw [Out.post_bind] at h
  refine Out.post_imp h (fun k ρ1 q v H1 S1 F1 R1 => ?_) fun _ _ q => q
  unfold prjK at q
  split at q
  · cases R1 with
    | res R1 =>
      cases R1 with
      | pair ht hv ho n1 n2 =>
        exact .inr (.inl ⟨_, _, _, _, rfl, rfl, .inl (.inl ht), rfl, q _ _ S1 F1 (.res (.new ho n2))⟩)
  · exact q.elim
end
end DL
/-! Dn3: for k in d, d a locked dict whose keys are tuples. -/
namespace DL
open PySem PySem.Spec PySem.Calls PyProof.Rows PyProof.V L2
section
variable {X : Cx} {pins : List (Addr × Obj)} {σ : L2.St} {H : Hp} {s : Shared} {G : Gm} {d : Addr} {o : Obj} {xs : List (NestedKey × Addr × Value)}
theorem frzN (I : Inv X pins σ H s) (h : H d = some (.frz o (dNO G d xs))) :
    (d == sysModules) = false ∧ s.heap.get? d = some o ∧ o.ExactDict ∧ ∃ (es : Array DictEntry) (ep : Nat), o.data = .dict es ep ∧ es.size = xs.length ∧
      ∀ (i : Nat) z, xs[i]? = some z → ∃ en : DictEntry, es[i]? = some en ∧ en.key = .ref z.2.1 := by
  obtain ⟨hd, q⟩ := I.hok d _ h
  obtain ⟨h1, h2, o', es, ep, h3, h4, h5, h6, h7, h8⟩ := q.1
  rw [hd] at h3
  cases h3
  refine ⟨h2, hd, h4, es, ep, h5, by rw [← Array.length_toList, h6, List.length_map], fun i z e => ?_⟩
  have e2 : es.toList[i]? = some (entryOfKey (nestedKind G.P G.w) z) := by rw [h6, List.getElem?_map, e]; rfl
  rw [Array.getElem?_toList] at e2
  exact ⟨_, e2, rfl⟩
/-- the keys -/
def Itkn (G : Gm) (d : Addr) (o : Obj) (xs : List (NestedKey × Addr × Value)) : It :=
  ⟨fun i H => H d = some (.frz o (dNO G d xs)) ∧ i < xs.length, fun i H x H' => H' = H ∧ ∃ z, xs[i]? = some z ∧ x = .ref z.2.1, fun i H => H d = some (.frz o (dNO G d xs)) ∧ xs.length ≤ i⟩
theorem turn_keysN {P : Program} {w : World} {K : PySem.W.Frag} {tg : Expr} {es : Array DictEntry} {ep : Nat} (it : Addr) (hod : o.data = .dict es ep) : Turn P w K tg (Itkn G d o xs) [it] it (fun i h => h.IsKeyIter it d i xs.length ep) where
  mem := by simp
  obj := fun i h st b hb => by
    have e : b = it := by simpa using hb
    subst e
    obtain ⟨oi, e, c, dd⟩ := st
    exact ⟨oi, e, fun v z => by rw [dd] at z; cases z⟩
  keep := fun i h h' st k => st.at fun oi e => k it (by simp) oi e
  item := by
    intro X hP hw hK hc i pins s σ H E I hf st hg
    subst hP hw hK
    obtain ⟨hd, hi⟩ := hg
    obtain ⟨f0, f1, f2, f3, f4, f5⟩ := hf it (by simp)
    obtain ⟨hs, hgd, hx, es', ep', hdt, hsz, ent⟩ := frzN I hd
    obtain ⟨rfl, rfl⟩ := dict_ep hod hdt
    obtain ⟨z, hz⟩ : ∃ p, xs[i]? = some p := ⟨xs[i], List.getElem?_eq_getElem hi⟩
    obtain ⟨en, hen, hkey⟩ := ent i z hz
    refine next_key_item st hgd hdt hsz hen fun h' st' sb => ?_
    have I1 : Inv X pins σ H { s with heap := h' } := I.turned (t' := s.toks) (fun b ob hb e => (sb.2 b hb).trans e) f0 f1 f3 f4 f5
    obtain ⟨oi, e, c, dd⟩ := id st'
    exact ⟨en.key, rfl, go_of (s := { s with heap := h' }) e c dd (by decide) ⟨.ref z.2.1, H, I1, hkey, ⟨rfl, z, hz, rfl⟩, st', fun b hb => (hf b hb).1⟩⟩
  done := by
    intro X hP hw hK hc i pins s σ H E I hf st hg
    subst hP hw hK
    obtain ⟨hd, hi⟩ := hg
    obtain ⟨f0, f1, f2, f3, f4, f5⟩ := hf it (by simp)
    obtain ⟨hs, hgd, hx, es', ep', hdt, hsz, ent⟩ := frzN I hd
    obtain ⟨rfl, rfl⟩ := dict_ep hod hdt
    exact next_key_end (I.ok.hd hc) st hgd hdt hsz hi fun h' eb => ⟨rfl, I.turned (t' := s.toks) (fun b ob hb e => eb b ob hb e) f0 f1 f3 f4 f5⟩
  self := fun A i s Q E st h => by
    refine wpAny_pyIter_slot st.typeIs F.slot_dict_keyiterator_iter (wpAny_call_entry F.slot_dict_keyiterator_iter st.typeIs F.entry_dict_keyiterator_iter ?_ (F.args_dict_keyiterator_iter_1 _))
    show wpAny _ _ (ret (.ref it)) _ _ s
    exact wpAny_pure ⟨_, rfl, "dict_keyiterator", _, st.typeIs, F.slot_dict_keyiterator_next.lookup, h⟩
def iKeysN (G : Gm) (td : TE) : TI := fun σ H R => td σ H fun x H1 => ∃ d o xs, x = .ref d ∧ H1 d = some (.frz o (dNO G d xs)) ∧ R (Itkn G d o xs) H1
theorem pi_keysN {tg e : Expr} {td : TE} (he : PE X e td) : PI X tg e (iKeysN G td) := by
  refine ⟨fun pins s σ H R I h => ?_⟩
  refine thn (he.run pins s σ H _ I h) fun u s1 ⟨x, H1, I1, rx, d, o, xs, ex, hd, q⟩ => ?_
  subst ex
  obtain rfl : u = Value.ref d := rx
  obtain ⟨hs, hgd, hx, es, ep, hdt, hsz, ent⟩ := frzN I1 hd
  refine iter_keys hs hgd hx hdt (pi_one (tk := s1.toks) I1 _ (turn_keysN _ hdt) ⟨_, Heap.get?_push_size _ rfl, rfl, ?_⟩ q)
  rw [hsz] <;> rfl
end
theorem it_keysN {G : Gm} {H1 : Hp} {d : Addr} {o : Obj} {xs : List (NestedKey × Addr × Value)} {ks : List D} (h : H1 d = some (.frz o (dNO G d xs))) (rk : ImmL G H1 (xs.map fun x => V.ref x.2.1) ks) : ItR G (Itkn G d o xs) H1 ks where
  go := fun H p i hi => ⟨p _ _ h trivial, by have := rk.length; rw [List.length_map] at this; omega⟩
  stop := fun H p i hi => ⟨p _ _ h trivial, by have := rk.length; rw [List.length_map] at this; omega⟩
  yld := fun H p i x H' hi y => by
    obtain ⟨rfl, z, hz, rfl⟩ := y
    obtain ⟨d', e, im⟩ := rk.get' (i := i) (v := .ref z.2.1) (by rw [List.getElem?_map, hz]; rfl)
    exact ⟨d', e, im.ps p, .refl⟩
section
variable {c : Cn} {W : Wx} {X : Cx}
def iSeqN (f : EV) : IV := fun ρ => (f ρ).bind fun k ρ1 => match k with
  | .res (.imm (.dcn ks _)) => if ks.length ≤ sizeLine then .ok ks ρ1 else .bad
  | _ => .bad
theorem di_seqN {b : Bool} {tg e : Expr} {f : EV} (he : DX c W X e f) : DI b c W X tg e (iSeqN (frzE f)) := by
  refine PI.imp (pi_keysN (G := c.G) (dx_frz he)) fun σ H R ⟨ρ, A, S, h⟩ => ?_
  unfold iSeqN at h
  cases e : frzE f ρ with
  | bad => rw [e] at h; exact h.elim
  | exc x ρ1 => rw [e] at h; exact cutExc S e h
  | ok k ρ1 =>
    rw [e] at h
    simp only [Out.bind] at h
    split at h
    · split at h
      · rename_i hl
        refine cutOk S e fun v H1 S1 F1 R1 => ?_
        cases R1 with
        | res R1 =>
          cases R1 with
          | imm R1 =>
            cases R1 with
            | @dcn a o xs vals ks vs h1 hv hk rk rv => exact ⟨_, _, _, rfl, h1, h _ H1 S1 F1 (it_keysN h1 rk) fun _ => hl⟩
      · exact h.elim
    · exact h.elim
end
end DL
/-! X1: names stored side by side, new objects among them. -/
namespace DL
open PySem PySem.Spec PyProof.Rows L2
def pkSlot : Pk → Option Slot
  | .res (.imm d) => some (.imm d)
  | .res (.new m) => some (.own m)
  | _ => none
section
variable {c : Cn} {W : Wx} {X : Cx} {A : Addr → Prop} {ρ : Env} {σ : Sg} {H0 H H' H1 : Hp}
theorem putS {i : Nat} {k : Pk} {s : Slot} {v : V} {σ0 : Sg} {A0 : Addr → Prop} (e : pkSlot k = some s) (S : Stt c A ρ σ H) (R : PkR c A0 H0 H σ0 v k) (fr : ∀ a, v = .ref a → H0 a = none → ¬ A a ∧ c.H0 a = none) :
    ∃ A', Stt c A' (ρ.set i s) (σ.set i (some v)) H ∧ ∀ b, A' b → A b ∨ (v = .ref b ∧ (∃ m, k = .res (.new m)) ∧ H0 b = none) := by
  cases R with
  | «at» h => cases e
  | res R =>
    cases R with
    | imm r => cases e; exact ⟨A, S.setImm i rfl (.imm r), fun b h => .inl h⟩
    | pair => cases e
    | new h n =>
      cases e
      obtain ⟨n1, n2⟩ := fr _ rfl n
      refine ⟨_, S.setOwn i h n1 n2, fun b hb => ?_⟩
      rcases hb with hb | rfl
      · exact .inl hb
      · exact .inr ⟨rfl, ⟨_, rfl⟩, n⟩
theorem PkR.new_ne {k : Pk} {v : V} {b : Addr} {m : M} (R : PkR c A H0 H σ v k) (e : v = .ref b) (ek : k = .res (.new m)) : H b ≠ none := by
  subst e ek
  cases R with
  | res R => cases R with
    | new h n => exact h.ne
def sParG (i j : Nat) (f g : EV) : SV := stB f fun k1 => stB g fun k2 ρ => match pkSlot k1, pkSlot k2 with
  | some s, some t => .nx ((ρ.set i s).set j t)
  | _, _ => .bad
theorem ds_parG {i j : Nat} {x y : Str} {a b : Expr} {f g : EV} {px py pt : Pos} {kt k2 : Nat} {pt2 pos : Pos} (hc : X.calm = true) (hN : X.N.Nodup) (hi : X.N[i]? = some x) (hj : X.N[j]? = some y) (hij : i ≠ j)
    (hx : X.env.scope.names.lookup x = some .local) (hy : X.env.scope.names.lookup y = some .local) (ha : DX c W X a f) (hb : DX c W X b g)
    (hw : swappedStores [.Tuple [.Name x px, .Name y py] kt pt] (.Tuple [a, b] k2 pt2) X.env = pure (some [x, y]))
    (hs : swapsWithSole [.Tuple [.Name x px, .Name y py] kt pt] (.Tuple [a, b] k2 pt2) pos.line X.env = pure false := by rfl)
    (h1 : starEach [a, b] X.env = (false, eval a X.env) :: starEach [b] X.env := by rfl) (h2 : starEach [b] X.env = (false, eval b X.env) :: starEach [] X.env := by rfl) :
    DS c W X (.Assign [.Tuple [.Name x px, .Name y py] kt pt] (.Tuple [a, b] k2 pt2) pos) (sParG i j f g) := by
  refine PS.imp (ps_par hc hN hi hj hij hx hy (pa_cons ha (pa_cons hb pa_nil h2) h1) hw hs) fun D σ H ⟨ρ, A, S, h⟩ => ?_
  refine useS S h fun k1 ρ1 v1 H1 S1 F1 R1 q => useS S1 q fun k2 ρ2 v2 H2 S2 F2 R2 q => ?_
  split at q
  · rename_i s t e1 e2
    refine ⟨v1, v2, rfl, ?_⟩
    obtain ⟨A3, S3, z3⟩ := putS (i := i) e1 S2 (R1.fr F2 S.live) fun a _ n => ⟨fun z => S.live _ z n, Classical.byContradiction fun z => S.dom _ z n⟩
    obtain ⟨A4, S4, z4⟩ := putS (i := j) e2 S3 R2 fun a _ n => ⟨fun z => by
      rcases z3 a z with z | ⟨q1, ⟨m, q2⟩, q3⟩
      · exact S1.live _ z n
      · exact R1.new_ne q1 q2 n, Classical.byContradiction fun z => S1.dom _ z n⟩
    exact q _ H2 A4 S4 fun _ _ q _ => q
  · exact q.elim
def sParG3 (i j l : Nat) (f g h : EV) : SV := stB f fun k1 => stB g fun k2 => stB h fun k3 ρ => match pkSlot k1, pkSlot k2, pkSlot k3 with
  | some s, some t, some u => .nx (((ρ.set i s).set j t).set l u)
  | _, _, _ => .bad
theorem ds_parG3 {i j l : Nat} {x y z : Str} {a b d : Expr} {f g h : EV} {px py pz pt pos : Pos} {kt k2 : Nat} {pt2 : Pos} (hc : X.calm = true) (hN : X.N.Nodup) (hi : X.N[i]? = some x) (hj : X.N[j]? = some y) (hl : X.N[l]? = some z) (hij : i ≠ j) (hil : i ≠ l) (hjl : j ≠ l)
    (hx : X.env.scope.names.lookup x = some .local) (hy : X.env.scope.names.lookup y = some .local) (hz : X.env.scope.names.lookup z = some .local) (ha : DX c W X a f) (hb : DX c W X b g) (hd : DX c W X d h)
    (hw : swappedStores [.Tuple [.Name x px, .Name y py, .Name z pz] kt pt] (.Tuple [a, b, d] k2 pt2) X.env = pure (some [x, y, z]))
    (hs : swapsWithSole [.Tuple [.Name x px, .Name y py, .Name z pz] kt pt] (.Tuple [a, b, d] k2 pt2) pos.line X.env = pure false := by rfl)
    (h1 : starEach [a, b, d] X.env = (false, eval a X.env) :: starEach [b, d] X.env := by rfl) (h2 : starEach [b, d] X.env = (false, eval b X.env) :: starEach [d] X.env := by rfl) (h3 : starEach [d] X.env = (false, eval d X.env) :: starEach [] X.env := by rfl) :
    DS c W X (.Assign [.Tuple [.Name x px, .Name y py, .Name z pz] kt pt] (.Tuple [a, b, d] k2 pt2) pos) (sParG3 i j l f g h) := by
  refine PS.imp (ps_par3 hc hN hi hj hl hij hil hjl hx hy hz (pa_cons ha (pa_cons hb (pa_cons hd pa_nil h3) h2) h1) hw hs) fun D σ H ⟨ρ, A, S, h⟩ => ?_
  refine useS S h fun k1 ρ1 v1 H1 S1 F1 R1 q => useS S1 q fun k2 ρ2 v2 H2 S2 F2 R2 q => useS S2 q fun k3 ρ3 v3 H3 S3 F3 R3 q => ?_
  split at q
  · rename_i s t u e1 e2 e3
    refine ⟨v1, v2, v3, rfl, ?_⟩
    obtain ⟨A4, S4, z4⟩ := putS (i := i) e1 S3 (R1.fr (F2.trans F3) S.live) fun a _ n => ⟨fun z => S.live _ z n, Classical.byContradiction fun z => S.dom _ z n⟩
    obtain ⟨A5, S5, z5⟩ := putS (i := j) e2 S4 (R2.fr F3 S1.live) fun a _ n => ⟨fun z => by
      rcases z4 a z with z | ⟨q1, ⟨m, q2⟩, q3⟩
      · exact S1.live _ z n
      · exact R1.new_ne q1 q2 n, Classical.byContradiction fun z => S1.dom _ z n⟩
    obtain ⟨A6, S6, z6⟩ := putS (i := l) e3 S5 R3 fun a _ n => ⟨fun z => by
      rcases z5 a z with z | ⟨q1, ⟨m, q2⟩, q3⟩
      · rcases z4 a z with z | ⟨q1, ⟨m, q2⟩, q3⟩
        · exact S2.live _ z n
        · exact (R1.fr F2 S.live).new_ne q1 q2 n
      · exact R2.new_ne q1 q2 n, Classical.byContradiction fun z => S2.dom _ z n⟩
    exact q _ H3 A6 S6 fun _ _ q _ => q
  · exact q.elim
end
end DL
/-! X2: a tuple times any int: the same one, the empty one, a longer one. -/
namespace DL
open PySem PySem.Spec PyProof.Rows L2
theorem tuple_mulSame (l : Addr) (items : Array Value) (n : Nat) (dd : Option Addr) (sl : Array (Option Value)) (x : Int) (u : Tok) (c0 : (decide (x < -(2 ^ 63)) || decide (x ≥ 2 ^ 63)) = false) (c1 : (items.isEmpty || x == 1) = true) :
    Meets (Builtin.«tuple.__mul__» ⟨[.ref l, .int x u], []⟩) (fun _ R s => s.heap.get? l = some { cls := .type "tuple", dict := dd, data := .seq items n, slots := sl } ∧ R (.ok (.ret (Value.ref l))) s) :=
  .of_wp fun prog w A R s h => by
    obtain ⟨hp, g, d, tk, os⟩ := s
    obtain ⟨hl, h⟩ := h
    have f1 := AutoSeq1.idx_int
    wp_walk using wpAny_loadPart' hl
    repeat (first
      | (refine wpAny_ite_false (decide_eq_false (by rw [c0]; exact Bool.false_ne_true)) ?_; wp_walk using wpAny_loadPart' hl)
      | (refine wpAny_ite_true (decide_eq_true c1) ?_; wp_walk using wpAny_loadPart' hl))
    exact ⟨_, rfl, h⟩
theorem tuple_mulNone (l : Addr) (items : Array Value) (n : Nat) (dd : Option Addr) (sl : Array (Option Value)) (x : Int) (u : Tok) (c0 : (decide (x < -(2 ^ 63)) || decide (x ≥ 2 ^ 63)) = false) (c1 : (items.isEmpty || x == 1) = false) (c2 : (decide (x ≤ 0) || items.isEmpty) = true) :
    Meets (Builtin.«tuple.__mul__» ⟨[.ref l, .int x u], []⟩) (fun _ R s => s.heap.get? l = some { cls := .type "tuple", dict := dd, data := .seq items n, slots := sl } ∧
      R (.ok (.ret (Value.ref s.heap.objs.size))) { s with heap := s.heap.push { cls := Value.type "tuple", data := Data.seq #[] }, toks := s.toks }) :=
  .of_wp fun prog w A R s h => by
    obtain ⟨hp, g, d, tk, os⟩ := s
    obtain ⟨hl, h⟩ := h
    have f1 := AutoSeq1.idx_int
    wp_walk using wpAny_loadPart' hl
    repeat (first
      | (refine wpAny_ite_false (decide_eq_false (by rw [c0]; exact Bool.false_ne_true)) ?_; wp_walk using wpAny_loadPart' hl)
      | (refine wpAny_ite_false (decide_eq_false (by rw [c1]; exact Bool.false_ne_true)) ?_; wp_walk using wpAny_loadPart' hl)
      | (refine wpAny_ite_true (decide_eq_true c2) ?_; wp_walk using wpAny_loadPart' hl)
      | (refine wpAny_ite_false (decide_eq_false (Nat.not_lt.mpr (Nat.zero_le _))) ?_; wp_walk using wpAny_loadPart' hl))
    exact ⟨_, rfl, h⟩
def rMulS (K : PySem.W.Frag) : R2 := fun x y H Q => ∃ l k xs, x = .ref l ∧ y = .int k ∧ SqT K H l xs ∧ -(2 ^ 63) ≤ k ∧ k < 2 ^ 63 ∧ (xs = [] ∨ k = 1) ∧ Q (.ref l) H
def rMulZ (K : PySem.W.Frag) : R2 := fun x y H Q => ∃ l k xs, x = .ref l ∧ y = .int k ∧ SqT K H l xs ∧ -(2 ^ 63) ≤ k ∧ k ≤ 0 ∧ xs ≠ [] ∧ ∀ p, H p = none → Q (.ref p) (upd H p (.tup []))
section
variable {X : Cx} {c : Cn}
theorem op_mulS : OpR X (binaryOp .Mult) (rMulS X.K) := by
  intro pins s σ H x y v u Q I rx ry h
  obtain ⟨l, k, xs, rfl, rfl, hT, h1, h2, hz, q⟩ := h
  cases rx
  obtain ⟨t, rfl⟩ := ry
  obtain ⟨its, r, ⟨⟨cls, dd, data, sl⟩, ho, hc, n, hd⟩, hs⟩ := I.tuple hT
  simp only at hc hd
  subst hc hd
  have c0 : (decide (k < -(2 ^ 63)) || decide (k ≥ 2 ^ 63)) = false := by
    rw [decide_eq_false (by omega), decide_eq_false (by omega)] <;> rfl
  have c1 : (its.toArray.isEmpty || k == 1) = true := by
    rcases hz with rfl | rfl
    · cases r; rfl
    · simp
  refine wpAny_binaryOp_repeat_ref (T := "tuple") (U := "int") (by decide) ⟨_, ho, rfl⟩ (fun s' => typeIs_int s' k t) noFill_tuple_mul F.fills_int_mul F.slot_int_rmul repeat_tuple F.slot_int_index.lookup
    (call_meets F.slot_int_rmul (typeIs_int s k t) F.entry_int_rmul (F.args_int_rmul_2 _ _) (int_rmul_tuple k t l its.toArray n dd sl)
      ⟨ho, rfl, ⟨_, ho, rfl⟩, call_meets F.slot_tuple_mul ⟨_, ho, rfl⟩ F.entry_tuple_mul (F.args_tuple_mul_2 _ _) (tuple_mulSame l its.toArray n dd sl k t c0 c1) ⟨ho, ?_⟩⟩)
  exact ⟨.ref l, _, I.tok _, rfl, q⟩
theorem op_mulZ : OpR X (binaryOp .Mult) (rMulZ X.K) := by
  intro pins s σ H x y v u Q I rx ry h
  obtain ⟨l, k, xs, rfl, rfl, hT, h1, h2, hne, q⟩ := h
  cases rx
  obtain ⟨t, rfl⟩ := ry
  obtain ⟨its, r, ⟨⟨cls, dd, data, sl⟩, ho, hc, n, hd⟩, hs⟩ := I.tuple hT
  simp only at hc hd
  subst hc hd
  have c0 : (decide (k < -(2 ^ 63)) || decide (k ≥ 2 ^ 63)) = false := by
    rw [decide_eq_false (by omega), decide_eq_false (by omega)] <;> rfl
  have hi : its.toArray.isEmpty = false := by
    cases r with
    | nil => exact absurd rfl hne
    | cons a b => rfl
  have c1 : (its.toArray.isEmpty || k == 1) = false := by
    rw [hi, Bool.false_or]
    exact beq_eq_false_iff_ne.mpr (by omega)
  have c2 : (decide (k ≤ 0) || its.toArray.isEmpty) = true := by
    rw [decide_eq_true h2]; rfl
  refine wpAny_binaryOp_repeat_ref (T := "tuple") (U := "int") (by decide) ⟨_, ho, rfl⟩ (fun s' => typeIs_int s' k t) noFill_tuple_mul F.fills_int_mul F.slot_int_rmul repeat_tuple F.slot_int_index.lookup
    (call_meets F.slot_int_rmul (typeIs_int s k t) F.entry_int_rmul (F.args_int_rmul_2 _ _) (int_rmul_tuple k t l its.toArray n dd sl)
      ⟨ho, rfl, ⟨_, ho, rfl⟩, call_meets F.slot_tuple_mul ⟨_, ho, rfl⟩ F.entry_tuple_mul (F.args_tuple_mul_2 _ _) (tuple_mulNone l its.toArray n dd sl k t c0 c1 c2) ⟨ho, ?_⟩⟩)
  refine ⟨.ref s.heap.objs.size, _, I.laid (t' := s.toks) (o := .tup []) (fun b ob q => Heap.get?_push_of_some _ q) (Nat.le_refl _) ?_, rfl, q _ (I.hok.fresh (Nat.le_refl _))⟩
  exact ⟨Nat.zero_le _, [], .nil, IsTup.new _ _⟩
def mulG3 (a b : D) : Option Res := match a, b with
  | .tup ds, .int k => if -(2 ^ 63) ≤ k ∧ k < 2 ^ 63 ∧ (ds = [] ∨ k = 1) then some (.imm (.tup ds)) else if -(2 ^ 63) ≤ k ∧ k ≤ 0 then some (.imm (.tup [])) else mulG2 a b
  | a, b => mulG2 a b
def rMul3 (K : PySem.W.Frag) : R2 := fun x y H Q => rMulS K x y H Q ∨ rMulZ K x y H Q ∨ rMul2 K x y H Q
theorem op_mul3 : OpR X (binaryOp .Mult) (rMul3 X.K) := op_mulS.or (op_mulZ.or op_mul2)
theorem mulG3_ok (hK : X.K = c.G.K) : OpG c.G (rMul3 X.K) mulG3 := by
  intro H x y d e rs hx hy h Q k
  unfold mulG3 at h
  split at h
  · rename_i ds n
    split at h
    · rename_i hc
      cases h
      obtain ⟨a, xs, rfl, h1, h2, hl⟩ := hx.tup
      refine .inl ⟨a, n, xs, rfl, hy.int, hK ▸ h1.sq, hc.1, hc.2.1, ?_, k _ _ .refl (.imm (.tup h1 h2 hl))⟩
      rcases hc.2.2 with e | e
      · subst e; cases h2; exact .inl rfl
      · exact .inr e
    · rename_i hd
      split at h
      · rename_i hc
        cases h
        obtain ⟨a, xs, rfl, h1, h2, hl⟩ := hx.tup
        refine .inr (.inl ⟨a, n, xs, rfl, hy.int, hK ▸ h1.sq, hc.1, hc.2, fun e => ?_, fun p hp => fin_tup k rfl hp .nil (Nat.zero_le _)⟩)
        subst e; cases h2
        exact hd ⟨hc.1, by omega, .inl rfl⟩
      · exact .inr (.inr (mulG2_ok hK H x y _ _ rs hx hy h Q k))
  · exact .inr (.inr (mulG2_ok hK H x y _ _ rs hx hy h Q k))
end
end DL
/-! X3: xs.index(y). -/
namespace DL
open PySem PySem.Spec PyProof.Rows L2
def ixOf : List D → D → Option Nat
  | [], _ => none
  | d :: ds, e => if D.eqv d e = true then some 0 else (ixOf ds e).map (· + 1)
theorem ixOf_py : ∀ {ds : List D} {e : D} {ps : List PyData} {q : PyData} {j : Nat}, D.pys ds = some ps → e.py = some q → ixOf ds e = some j →
    ∃ z, ps[j]? = some z ∧ PyData.eqv z q = true ∧ ∀ (m : Nat) (z' : PyData), m < j → ps[m]? = some z' → PyData.eqv z' q = false
  | [], _, _, _, _, _, _, h => by cases h
  | d :: ds, e, ps, q, j, hp, hq, h => by
    simp only [D.pys, Option.bind_eq_some_iff, Option.map_eq_some_iff] at hp
    obtain ⟨p, e1, ps', e2, rfl⟩ := hp
    · unfold ixOf at h
      by_cases z : D.eqv d e = true
      · rw [if_pos z] at h
        cases h
        exact ⟨p, rfl, by rw [D.eqv_py d e p q e1 hq]; exact z, fun m _ hm => absurd hm (Nat.not_lt_zero _)⟩
      · rw [if_neg z] at h
        obtain ⟨i, hi, rfl⟩ := Option.map_eq_some_iff.mp h
        obtain ⟨y, h1, h2, h3⟩ := ixOf_py e2 hq hi
        refine ⟨y, by simpa using h1, h2, fun m z' hm hz => ?_⟩
        cases m with
        | zero =>
          cases hz
          rw [D.eqv_py d e p q e1 hq]
          exact Bool.eq_false_iff.mpr z
        | succ m => exact h3 m z' (by omega) (by simpa using hz)
def lixG (d e : D) : Option Res := match d with
  | .lst ds => if D.deps ds ≤ 60 ∧ e.dep ≤ 60 then (ixOf ds e).map (fun j : Nat => Res.imm (.int (j : Int))) else none
  | _ => none
def isLst : Option D → Bool
  | some (.lst _) => true
  | _ => false
def eLIx (f fe : EV) : EV := fun ρ => (f ρ).bind fun k ρ1 => if isLst (k.view ρ1) = true then (fe ρ1).bind fun k2 ρ2 => match k.view ρ2, k2.view ρ2 with
  | some d, some e => ofRes (lixG d e) ρ2
  | _, _ => .bad
  else .bad
section
variable {X : Cx} {c : Cn} {W : Wx}
theorem dx_lindex {o e : Expr} {f fe : EV} {apos pos : Pos} (hu : X.A.units + 65 < cLine) (ho : DX c W X o f) (he : DX c W X e fe) (hK : X.K = c.G.K := by rfl) (hbase : attributeBase o "index" X.env (eval o X.env) = eval o X.env := by rfl)
    (hfew : ((backTo pos (starEach [e] X.env)).all (fun x => !x.1) && (backToKw pos (keywordEach [] X.env)).all (fun x => x.1.isSome)
      && decide (([e] : List Expr).length + ([] : List Keyword).length + (if ([] : List Keyword).isEmpty then 0 else 1) < 30)) = true := by rfl)
    (hline : (apos.endLine == pos.line) = true := by rfl) (hs : starEach [e] X.env = (false, eval e X.env) :: starEach [] X.env := by rfl) (hplain : (backTo pos (starEach [] X.env)).any (·.1) = false := by rfl) :
    DX c W X (.Call (.Attribute o "index" apos) [e] [] pos) (eLIx f fe) := by
  refine PE.imp (pe_bm PySem.F.plainAttrs_list PySem.F.slot_list_index PySem.F.type_list_index (mt_indexD hu) ho (pa_cons he pa_nil hs) hbase hfew hline hs hplain) fun σ H Q ⟨ρ, A, S, h⟩ => cut S .refl ?_
  unfold eLIx at h
  rw [Out.post_bind] at h
  refine Out.post_imp h (fun k ρ1 q v H1 S1 F1 R1 => ?_) fun _ _ q => q
  split at q
  · rename_i hl
    have ty : tyV X.K "list" v H1 := by
      unfold isLst at hl
      split at hl
      · rename_i ds ev
        obtain ⟨a, xs, rfl, h1, h2, _⟩ := (R1.view S1 ev).lst
        exact .inl ⟨rfl, xs, .inl h1⟩
      · cases hl
    refine ⟨ty, cut S1 F1 ?_⟩
    rw [Out.post_bind] at q
    refine Out.post_imp q (fun k2 ρ2 q v2 H2 S2 F2 R2 => ?_) fun _ _ q => q
    split at q
    · rename_i d e' e1 e2
      obtain ⟨rs, e3, q⟩ := ofRes_post q
      have V1 := (R1.fr F2 S.live).view S2 e1
      have V2 := R2.view S2 e2
      unfold lixG at e3
      split at e3
      · rename_i ds
        split at e3
        · rename_i hd
          obtain ⟨j, hj, rfl⟩ := Option.map_eq_some_iff.mp e3
          have d64 : (D.lst ds).dep ≤ 64 := by show D.deps ds + 1 ≤ 64; omega
          obtain ⟨p, hp, h1, s1⟩ := V2.shaped (by omega)
          obtain ⟨q', hq, h2, s2⟩ := V1.shaped d64
          obtain ⟨ps, e5, rfl⟩ := pys_of_list hq
          obtain ⟨a, xs, rfl, _⟩ := V1.lst
          obtain ⟨z, g1, g2, g3⟩ := ixOf_py e5 hp hj
          exact ⟨a, v2, p, ps, j, z, rfl, rfl, hK ▸ h2, hK ▸ h1, s2, s1, g1, g2, g3, fin1 q S2 (F1.trans F2) .refl (.imm (.int _))⟩
        · cases e3
      · cases e3
    · exact q.elim
  · exact q.elim
end
end DL
/-! X4: dict(ps), d.get(k, x), of dicts whose keys are tuples. -/
namespace DL
open PySem PySem.Spec PyProof.Rows L2
def putAll : List D → List D → List (D × D) → List D × List D
  | ks, vs, [] => (ks, vs)
  | ks, vs, p :: ps => putAll (putK ks vs p.1 p.2).1 (putK ks vs p.1 p.2).2 ps
theorem stored_nodup {xs : List (NestedKey × Addr × Value)} {k : NestedKey} {b : Addr} {u : Value} (h : (xs.map (·.1)).Nodup) : ((storedH xs k b u).map (·.1)).Nodup := by
  cases e : atKey xs k with
  | none =>
    rw [storedH_new e, List.map_append, List.nodup_append]
    refine ⟨h, by simp, fun x hx y hy z => ?_⟩
    subst z
    obtain ⟨q, hq, rfl⟩ := List.mem_map.mp hx
    have hy : q.1 = k := by simpa using hy
    have : (atKey xs k).isSome = true := by
      unfold atKey
      rw [Option.isSome_map, List.find?_isSome]
      exact ⟨q, hq, by simp [hy]⟩
    rw [e] at this
    cases this
  | some p =>
    rw [storedH_old e, List.map_map]
    have : ((fun x : NestedKey × Addr × Value => x.1) ∘ putAt k u) = fun x => x.1 := by
      funext x
      show (putAt k u x).1 = x.1
      unfold putAt
      split <;> rfl
    rw [this]
    exact h
section
variable {G : Gm} {H : Hp}
/-- all that is stored -/
theorem put_all : ∀ {qs : List (NestedKey × Addr × Value)} {prs : List (D × D)} {pv : List V} {xs : List (NestedKey × Addr × Value)} {vals : List V} {ks vs : List D}, (prs.map fun p => p.1.key) = qs.map (fun q => some q.1) → ImmL G H (qs.map fun q => V.ref q.2.1) (prs.map (·.1)) → Vals pv (qs.map (·.2.2)) → ImmL G H pv (prs.map (·.2)) →
    (xs.map (·.1)).Nodup → Vals vals (xs.map (·.2.2)) → ks.map D.key = xs.map (fun x => some x.1) → ImmL G H (xs.map fun x => V.ref x.2.1) ks → ImmL G H vals vs →
    ∃ vals', Vals vals' ((storedAllH xs qs).map (·.2.2)) ∧ (putAll ks vs prs).1.map D.key = (storedAllH xs qs).map (fun x => some x.1) ∧ ImmL G H ((storedAllH xs qs).map fun x => V.ref x.2.1) (putAll ks vs prs).1 ∧ ImmL G H vals' (putAll ks vs prs).2 ∧ (storedAllH xs qs).length ≤ xs.length + qs.length
  | [], prs, pv, xs, vals, ks, vs, e1, e2, e3, e4, hn, hv, hk, rk, rv => by
    have : prs = [] := by
      cases prs with
      | nil => rfl
      | cons a b => simp at e1
    subst this
    exact ⟨vals, hv, hk, rk, rv, Nat.le_refl _⟩
  | q :: qs, [], pv, xs, vals, ks, vs, e1, e2, e3, e4, hn, hv, hk, rk, rv => by simp at e1
  | q :: qs, p :: prs, [], xs, vals, ks, vs, e1, e2, e3, e4, hn, hv, hk, rk, rv => by cases e3
  | q :: qs, p :: prs, v :: pv, xs, vals, ks, vs, e1, e2, e3, e4, hn, hv, hk, rk, rv => by
    rw [List.map_cons, List.map_cons, List.cons.injEq] at e1
    cases e2 with
    | cons i1 t1 =>
      cases e3 with
      | cons r1 r2 =>
        cases e4 with
        | cons i2 t2 =>
          obtain ⟨vals1, a1, a2, a3, a4⟩ := put_d (G := G) (H := H) e1.1 i1 i2 r1 hn hv hk rk rv
          obtain ⟨vals2, b1, b2, b3, b4, b5⟩ := put_all (qs := qs) (prs := prs) e1.2 t1 r2 t2 (stored_nodup (k := q.1) (b := q.2.1) (u := q.2.2) hn) a1 a2 a3 a4
          have hl := stored_len (xs := xs) (k := q.1) (b := q.2.1) (u := q.2.2)
          exact ⟨vals2, b1, b2, b3, b4, by
            have : (storedAllH xs (q :: qs)).length = (storedAllH (storedH xs q.1 q.2.1 q.2.2) qs).length := rfl
            rw [this, List.length_cons]
            omega⟩
theorem storedAll_dep {qs xs : List (NestedKey × Addr × Value)} (h : ∀ x ∈ xs, x.1.depth ≤ 8) (hq : ∀ x ∈ qs, x.1.depth ≤ 8) : ∀ x ∈ storedAllH xs qs, x.1.depth ≤ 8 := by
  induction qs generalizing xs with
  | nil => exact h
  | cons q qs ih => exact ih (stored_dep h (hq q (by simp))) fun x hx => hq x (by simp [hx])
end
section
variable {X : Cx} {pins : List (Addr × Obj)} {σ : L2.St} {H : Hp} {s : Shared} {G : Gm}
theorem pairs_is (I : Inv X pins σ H s) (hK : X.K = G.K) : ∀ {prs : List (D × D)} {xs : List V} {us : List Value}, ImmL G H xs (prs.map fun p => .tup [p.1, p.2]) → Vals xs us → (∀ p ∈ prs, kok p.1 = true) →
    ∃ (qs : List (NestedKey × Addr × Value)) (Tl : List Addr) (pv : List V), qs.length = prs.length ∧ us = Tl.map Value.ref ∧ Tl.length = qs.length ∧ (∀ (j : Nat) (k v : Value), (qs.map fun q => (Value.ref q.2.1, q.2.2))[j]? = some (k, v) → ∃ T, Tl[j]? = some T ∧ PairAt s.heap T k v) ∧
      (∀ q ∈ qs, (nestedKind X.prog X.w).is s.heap q.1 q.2.1) ∧ (prs.map fun p => p.1.key) = qs.map (fun q => some q.1) ∧ ImmL G H (qs.map fun q => V.ref q.2.1) (prs.map (·.1)) ∧ Vals pv (qs.map (·.2.2)) ∧ ImmL G H pv (prs.map (·.2))
  | [], xs, us, r, rv, hk => by
    cases r
    cases rv
    exact ⟨[], [], [], rfl, rfl, rfl, fun j k v e => by simp at e, fun q hq => (nomatch hq), rfl, .nil, .nil, .nil⟩
  | p :: prs, [], us, r, rv, hk => by cases r
  | p :: prs, x :: xs, [], r, rv, hk => by cases rv
  | p :: prs, x :: xs, u :: us, r, rv, hk => by
    cases r with
    | cons h t =>
      cases rv with
      | cons rx rt =>
        obtain ⟨qs, Tl, pv, a1, a2, a3, a4, a5, a6, a7, a8, a9⟩ := pairs_is I hK t rt fun q hq => hk q (by simp [hq])
        cases h with
        | tup ht r2 hl =>
          cases rx
          obtain ⟨its, ri, it, _⟩ := I.tuple (hK ▸ ht.sq)
          cases r2 with
          | cons i1 r3 =>
            cases r3 with
            | cons i2 r4 =>
              cases r4
              cases ri with
              | cons w1 w2 =>
                cases w2 with
                | cons w3 w4 =>
                  cases w4
                  obtain ⟨b, k, rfl, rfl, ek, is⟩ := key_is I hK i1 (hk p (by simp)) w1
                  refine ⟨(k, b, _) :: qs, _ :: Tl, _ :: pv, by simp [a1], by rw [a2]; rfl, by simp [a3], fun j k' v' e => ?_, fun q hq => ?_, by rw [List.map_cons, List.map_cons, ek, a6], .cons i1 a7, .cons w3 a8, .cons i2 a9⟩
                  · cases j with
                    | zero =>
                      cases e
                      refine ⟨_, rfl, .inl ?_⟩
                      obtain ⟨o, g1, g2, n, g3⟩ := it
                      exact ⟨o, g1, g2, n, g3⟩
                    | succ j => exact a4 j k' v' (by simpa using e)
                  · rcases List.mem_cons.mp hq with rfl | hq
                    · exact is
                    · exact a5 q hq
theorem call_dictN (hc : X.calm = true) (hP : X.prog = G.P) (hw : X.w = G.w) (hK : X.K = G.K) (hu : X.A.units + 65 < cLine) : CallR X (.type "dict") (fun ys H Q => ∃ (a : Addr) (xs : List V) (prs : List (D × D)), ys = [.ref a] ∧ Rd H a (.lst xs) ∧ ImmL G H xs (prs.map fun p => .tup [p.1, p.2]) ∧ (∀ p ∈ prs, kok p.1 = true) ∧ prs.length ≤ sizeLine ∧
    ∀ l xs', H l = none → Obm G (upd H l (dNO G l xs')) l (.dcn (putAll [] [] prs).1 (putAll [] [] prs).2) → Q (.ref l) (upd H l (dNO G l xs'))) := by
  intro pins s σ H ys us Q I r ⟨a, xs, prs, e, h, im, hk, hl, q⟩
  subst e
  cases r with
  | cons r1 r2 =>
    cases r2
    cases r1
    obtain ⟨us, n, rv, l1, eo⟩ := rdl I h
    obtain ⟨qs, Tl, pv, a1, a2, a3, a4, a5, a6, a7, a8, a9⟩ := pairs_is I hK im rv hk
    have big := I.big
    have P := PairArg.list (prog := X.prog) (w := X.w) a us.toArray (fun j => Tl.getD j 0) (qs.map fun q => (Value.ref q.2.1, q.2.2))
    have sz : us.toArray.size = (qs.map fun q => (Value.ref q.2.1, q.2.2)).length := by
      rw [List.size_toArray, a2, List.length_map, List.length_map, a3]
    have ql : (qs.map fun q => (Value.ref q.2.1, q.2.2)).length = qs.length := List.length_map ..
    refine call_dict_pairsH (knd := nestedKind X.prog X.w) (ps := qs) P (I.ok.hd hc) (by show X.A.units + 1 + 1 + 8 < cLine; omega) ⟨⟨_, n, eo, rfl, rfl, rfl⟩, sz, fun j k v e => ?_⟩ ⟨ql.symm, fun i k v e => ?_⟩ (fun h' hk x hx => ?_) (by rw [ql, a1]; exact hl) fun h' tk hd' hk' => ?_
    · obtain ⟨T, e1, e2⟩ := a4 j k v e
      have ed : Tl.getD j 0 = T := by rw [List.getD_eq_getElem?_getD, e1]; rfl
      refine ⟨?_, by show PairAt s.heap (Tl.getD j 0) k v; rw [ed]; exact e2⟩
      show us.toArray[j]? = some (Value.ref (Tl.getD j 0))
      rw [List.getElem?_toArray, a2, List.getElem?_map, e1, ed]
      rfl
    · have e' : (qs.map fun q => (Value.ref q.2.1, q.2.2))[i]? = some (k, v) := e
      rw [List.getElem?_map] at e'
      obtain ⟨z, e1, e2⟩ := Option.map_eq_some_iff.mp e'
      cases e2
      exact ⟨z.1, z.2.1, e1, rfl⟩
    · refine nestedKind_stays.stays (fun b o vs n e ed => hk b o ?_ (by simp) e) (a5 x hx)
      intro eb
      subst eb
      exact absurd (Heap.lt_size e) (Nat.lt_irrefl _)
    · obtain ⟨o', es', ep', g1, g2, g3, g4, g5, g6⟩ := hd'
      have hf : H s.heap.objs.size = none := I.fresh
      obtain ⟨vals', b1, b2, b3, b4, b5⟩ := put_all (G := G) (H := H) (xs := []) (vals := []) (ks := []) (vs := []) a6 a7 a8 a9 List.nodup_nil .nil rfl .nil .nil
      have up : Ps H (upd H s.heap.objs.size (dNO G s.heap.objs.size (storedAllH [] qs))) := fun b' o' e p => by
        rw [upd_ne (fun z => by subst z; rw [hf] at e; cases e)]; exact e
      refine ⟨.ref s.heap.objs.size, _, I.laid (t' := tk) (o := dNO G s.heap.objs.size (storedAllH [] qs)) (fun b o e => hk' b o (by simp) e) (Nat.le_refl _) ?_, rfl, q _ _ hf (.dcn upd_same b1 b2 (b3.ps up) (b4.ps up))⟩
      refine ⟨⟨by have := b5; simp at this; omega, beq_eq_false_iff_ne.mpr (Nat.ne_of_gt big), o', es', ep', g1, g2, g3, by rw [← hP, ← hw]; exact g4, g6, storedAll_dep (fun _ hx => nomatch hx) fun x hx => (a5 x hx).2⟩, ⟨_, g1⟩, fun h1 h2 ⟨b1, b2, o, es, ep, b3, b4⟩ st => ⟨b1, b2, o, es, ep, st _ b3, b4⟩⟩
def prsOf : List D → Option (List (D × D))
  | [] => some []
  | .tup [a, b] :: ds => (prsOf ds).map ((a, b) :: ·)
  | _ => none
theorem prsOf_is : ∀ {ds : List D} {prs : List (D × D)}, prsOf ds = some prs → ds = prs.map fun p => .tup [p.1, p.2]
  | [], prs, h => by cases h; rfl
  | d :: ds, prs, h => by
    unfold prsOf at h
    split at h
    · rename_i e; cases e
    · rename_i a b ds' e
      cases e
      obtain ⟨ps, h2, rfl⟩ := Option.map_eq_some_iff.mp h
      rw [prsOf_is h2]
      rfl
    · cases h
def dictG : List D → Option Res
  | [.lst ds] => match prsOf ds with
    | some prs => if prs.all (fun p => kok p.1) = true ∧ prs.length ≤ sizeLine then some (.new (.dcn (putAll [] [] prs).1 (putAll [] [] prs).2)) else none
    | none => none
  | _ => none
def rDctN (G : Gm) : RB := fun ys H Q => ∃ (a : Addr) (xs : List V) (prs : List (D × D)), ys = [.ref a] ∧ Rd H a (.lst xs) ∧ ImmL G H xs (prs.map fun p => .tup [p.1, p.2]) ∧ (∀ p ∈ prs, kok p.1 = true) ∧ prs.length ≤ sizeLine ∧
    ∀ l xs', H l = none → Obm G (upd H l (dNO G l xs')) l (.dcn (putAll [] [] prs).1 (putAll [] [] prs).2) → Q (.ref l) (upd H l (dNO G l xs'))
end
section
variable {X : Cx} {c : Cn} {W : Wx}
theorem dictG_ok : CallG c.G (rDctN c.G) dictG := by
  intro H xs ds rs hv hg Q k
  unfold dictG at hg
  split at hg
  · split at hg
    · rename_i prs e
      split at hg
      · rename_i hk
        cases hg
        obtain ⟨x, rfl, h⟩ := hv.one
        obtain ⟨a, ys, rfl, h1, h2, _⟩ := h.lst
        refine ⟨a, ys, prs, rfl, h1, prsOf_is e ▸ h2, fun p hp => List.all_eq_true.mp hk.1 p hp, hk.2, fun l xs' hl ho => ?_⟩
        exact k _ _ (.new hl) (.new ho hl)
      · cases hg
    · cases hg
  · cases hg
theorem call_dictN2 (hc : X.calm = true) (hP : X.prog = c.G.P) (hw : X.w = c.G.w) (hK : X.K = c.G.K) (hu : X.A.units + 65 < cLine) : CallR X (.type "dict") (rDctN c.G) := call_dictN hc hP hw hK hu
/-! d.get(k, x) -/
theorem pe_getN {o e f : Expr} {td ty tx : TE} {apos cpos : Pos} (hP : X.prog = c.G.P) (hw : X.w = c.G.w) (hK : X.K = c.G.K) (hu : X.A.units + 65 < cLine) (ho : PE X o td) (he : PE X e ty) (hf : PE X f tx) (m : M2 X o "get" apos e f cpos) :
    PE X (.Call (.Attribute o "get" apos) [e, f] [] cpos) (fun σ H Q => td σ H fun x H1 => ∃ a xs0, x = .ref a ∧ Rd H1 a (dNO c.G a xs0) ∧ ty σ H1 fun y H2 => tx σ H2 fun z H3 => ∃ d ks vs, DcnR c.G H3 a ks vs ∧ Imm c.G H3 y d ∧ kok d = true ∧
      match dLook ks vs d with
      | some r => ∀ v, Imm c.G H3 v r → Q v H3
      | none => Q z H3) := by
  refine ⟨fun pins s σ H Q I h => ?_⟩
  refine wpAny_Call_method m.base m.few m.line PySem.F.plainAttrs_dict PySem.F.slot_dict_get PySem.F.type_dict_get (thn (ho.run pins s σ H _ I h) fun u s1 ⟨x, H1, I1, rx, a, xs0, ex, d, q1⟩ => ?_)
  subst ex
  obtain rfl : u = Value.ref a := rx
  obtain ⟨_, sm, o1, es1, ep1, g1, g2, g3, _⟩ := dNO_rd I1 d
  refine ⟨⟨o1, g1, g2.1⟩, fun b hb => by cases hb; exact ⟨o1, g1, g2.2.1⟩, ?_⟩
  rw [m.trees]
  refine wpAny_dict_get2_heap (knd := nestedKind X.prog X.w) (by show X.A.units + 1 + 8 < cLine; omega) sm ?_
  refine thn (he.run pins s1 σ H1 _ I1 q1) fun iv s2 ⟨y, H2, I2, ry, q2⟩ => thn (hf.run pins s2 σ H2 _ I2 q2) fun fv s3 ⟨z, H3, I3, rz, dd, ks, vs, R, hd, hk, q3⟩ => ?_
  obtain ⟨xs, vals, h, hv, hkk, rk, rv⟩ := R
  obtain ⟨b, k, rfl, rfl, ek, is⟩ := key_is I3 hK hd hk ry
  obtain ⟨z1, z2, dc⟩ := dcn_of I3 hP hw hK h hkk rk
  have L := look_d (G := c.G) (H := H3) ek hv hkk rv
  refine ⟨b, k, xs, rfl, is, dc, ?_⟩
  cases el : dLook ks vs dd with
  | none =>
    rw [el] at q3 L
    rw [L]
    exact ⟨z, H3, I3.tok _, rz, q3⟩
  | some r =>
    rw [el] at q3 L
    obtain ⟨p, w', e1, e2, e3⟩ := L
    rw [e1]
    exact ⟨w', H3, I3.tok _, e2, q3 w' e3⟩
def isDcn : Option D → Bool
  | some (.dcn _ _) => true
  | _ => false
def eGetN (fo fk fx : EV) : EV := fun ρ => (fo ρ).bind fun k ρ1 => if isDcn (k.view ρ1) = true then (fk ρ1).bind fun k2 ρ2 => (fx ρ2).bind fun k3 ρ3 => match k.view ρ3, k2, k3 with
  | some (.dcn ks vs), .res (.imm y), .res (.imm z) => if kok y = true then .ok (.res (.imm ((dLook ks vs y).getD z))) ρ3 else .bad
  | _, _, _ => .bad
  else .bad
theorem dx_getN {o e f : Expr} {fo fk fx : EV} {apos cpos : Pos} (hu : X.A.units + 65 < cLine) (ho : DX c W X o fo) (he : DX c W X e fk) (hf : DX c W X f fx) (m : M2 X o "get" apos e f cpos) (hP : X.prog = c.G.P := by rfl) (hw : X.w = c.G.w := by rfl) (hK : X.K = c.G.K := by rfl) :
    DX c W X (.Call (.Attribute o "get" apos) [e, f] [] cpos) (eGetN fo fk fx) := by
  refine PE.imp (pe_getN hP hw hK hu ho he hf m) fun σ H Q ⟨ρ, A, S, h⟩ => cut S .refl ?_
  unfold eGetN at h
  rw [Out.post_bind] at h
  refine Out.post_imp h (fun k ρ1 q v H1 S1 F1 R1 => ?_) fun _ _ q => q
  split at q
  · rename_i hl
    have ty : ∃ a xs0, v = .ref a ∧ Rd H1 a (dNO c.G a xs0) := by
      unfold isDcn at hl
      split at hl
      · rename_i ks vs ev
        obtain ⟨a, rfl, R⟩ := (R1.view S1 ev).dcn
        obtain ⟨xs, vals, h, _⟩ := R
        exact ⟨a, xs, rfl, h⟩
      · cases hl
    obtain ⟨a, xs0, rfl, h0⟩ := ty
    refine ⟨a, xs0, rfl, h0, cut S1 F1 ?_⟩
    rw [Out.post_bind] at q
    refine Out.post_imp q (fun k2 ρ2 q v2 H2 S2 F2 R2 => cut S2 (F1.trans F2) ?_) fun _ _ q => q
    rw [Out.post_bind] at q
    refine Out.post_imp q (fun k3 ρ3 q v3 H3 S3 F3 R3 => ?_) fun _ _ q => q
    split at q
    · rename_i ks vs y z ev qq
      split at q
      · rename_i hk
        have V1 := ((R1.fr F2 S.live).fr F3 S.live).view S3 ev
        obtain ⟨a', ea, R⟩ := V1.dcn
        cases ea
        cases R2 with
        | res R2 => cases R2 with
          | imm R2 => cases R3 with
            | res R3 => cases R3 with
              | imm R3 =>
                refine ⟨y, ks, vs, R, R2.ps F3.ps, hk, ?_⟩
                cases el : dLook ks vs y with
                | none =>
                  rw [el] at q
                  exact q _ H3 S3 ((F1.trans F2).trans F3) (.res (.imm R3))
                | some r =>
                  rw [el] at q
                  exact fun v hv => q v H3 S3 ((F1.trans F2).trans F3) (.res (.imm hv))
      · exact q.elim
    · exact q.elim
  · exact q.elim
end
end DL
/-! X5: a text times an int. -/
namespace DL
open PySem PySem.Spec PyProof.Rows L2
def rMulT : R2 := fun x y H Q => ∃ (cs : List Nat) (k : Int), x = .str (cstr cs) ∧ y = .int k ∧ cs.length ≤ 1000 ∧ -1000 ≤ k ∧ k ≤ 1000 ∧ Q (.str (cstr (List.replicate k.toNat cs).flatten)) H
section
variable {X : Cx} {c : Cn}
theorem foldl_cps (cs : List Nat) : ∀ (m : Nat) (acc : Array Nat), List.foldl (fun x1 x2 => x1 ++ x2) acc (List.replicate m (cstr cs).cps) = acc ++ (List.replicate m cs).flatten.toArray
  | 0, acc => by simp
  | m + 1, acc => by
    rw [List.replicate_succ, List.foldl_cons, foldl_cps cs m, List.replicate_succ, List.flatten_cons]
    simp [cstr]
theorem op_mulT : OpR X (binaryOp .Mult) rMulT := by
  intro pins s σ H x y v u Q I rx ry h
  obtain ⟨cs, k, rfl, rfl, h1, h2, h3, q⟩ := h
  obtain ⟨t, rfl⟩ := rx
  obtain ⟨t', rfl⟩ := ry
  have hl : (cstr cs).length = cs.length := cstr_len cs
  have fl : (List.replicate k.toNat cs).flatten.length ≤ 1000000 := by
    rw [rep_len]
    have : k.toNat * cs.length ≤ 1000 * 1000 := Nat.mul_le_mul (by omega) h1
    omega
  refine PySem.P.mul_str (by rw [decide_eq_false (by omega), decide_eq_false (by omega)]; rfl) (fun a1 a2 => ?_) (fun a1 a2 => ?_) ?_
  · rw [hl]
    have k1 : 0 < k := by omega
    have m : (cs.length : Int) * k ≤ 1000 * 1000 := Int.mul_le_mul (by omega) h3 (by omega) (by omega)
    have := Int.le_ediv_of_mul_le (a := (cs.length : Int)) (b := 2 ^ 63 - 1) k1 (by omega)
    omega
  · unfold Builtin.Str.tooLong
    rw [hl]
    have : cs.length * k.toNat ≤ 1000 * 1000 := Nat.mul_le_mul h1 (by omega)
    exact decide_eq_false (by rw [sizeLine_eq]; omega)
  · split
    · rename_i a
      have : k.toNat = 0 := by omega
      rw [this] at q
      exact ⟨by decide, .str (cstr []), H, I.tok _, ⟨_, rfl⟩, q⟩
    · split
      · rename_i a b
        have e : (List.replicate k.toNat cs).flatten = cs := by
          rw [Bool.or_eq_true] at b
          rcases b with b | b
          · have : k = 1 := by simpa using b
            subst this
            simp
          · have : cs = [] := by
              have : (cstr cs).length = 0 := by simpa using b
              rw [hl] at this
              exact List.eq_nil_of_length_eq_zero this
            subst this
            simp
        rw [e] at q
        exact ⟨.str (cstr cs), H, I, ⟨t, rfl⟩, q⟩
      · refine ⟨?_, .str (cstr (List.replicate k.toNat cs).flatten), H, I.tok _, ⟨s.toks, ?_⟩, q⟩
        · rw [foldl_cps]
          have e : (#[] ++ (List.replicate k.toNat cs).flatten.toArray).size = (List.replicate k.toNat cs).flatten.length := by simp
          show (#[] ++ (List.replicate k.toNat cs).flatten.toArray).size ≤ sizeLine
          rw [e, sizeLine_eq]
          omega
        · rw [foldl_cps]
          simp [cstr]
def mulG4 (a b : D) : Option Res := match a, b with
  | .str cs, .int k => if cs.length ≤ 1000 ∧ -1000 ≤ k ∧ k ≤ 1000 then some (.imm (.str (List.replicate k.toNat cs).flatten)) else none
  | a, b => mulG3 a b
def rMul4 (K : PySem.W.Frag) : R2 := fun x y H Q => rMulT x y H Q ∨ rMul3 K x y H Q
theorem op_mul4 : OpR X (binaryOp .Mult) (rMul4 X.K) := op_mulT.or op_mul3
theorem all_rep {cs : List Nat} (h : (cs.all (· < 0x110000)) = true) : ∀ k : Nat, ((List.replicate k cs).flatten.all (· < 0x110000)) = true
  | 0 => rfl
  | k + 1 => by rw [List.replicate_succ, List.flatten_cons, List.all_append, h, all_rep h k]; rfl
theorem mulG4_ok (hK : X.K = c.G.K) : OpG c.G (rMul4 X.K) mulG4 := by
  intro H x y d e rs hx hy h Q k
  unfold mulG4 at h
  split at h
  · split at h
    · rename_i cs n hc
      cases h
      obtain ⟨rfl, h1, h2⟩ := hx.str
      refine .inl ⟨cs, n, rfl, hy.int, hc.1, hc.2.1, hc.2.2, k _ _ .refl (.imm (.str _ (all_rep h1 _) ?_))⟩
      rw [rep_len, sizeLine_eq]
      have : n.toNat * cs.length ≤ 1000 * 1000 := Nat.mul_le_mul (by omega) hc.1
      omega
    · cases h
  · exact .inr (mulG3_ok hK H x y _ _ rs hx hy h Q k)
end
end DL
/-! X6: len(d) of a dict whose keys are tuples. -/
namespace DL
open PySem PySem.Spec PyProof.Rows L2
section
variable {X : Cx} {c : Cn}
def rLenN (G : Gm) : RB := fun ys H Q => ∃ a ks vs, ys = [.ref a] ∧ DcnR G H a ks vs ∧ Q (.int ((ks.length : Nat) : Int)) H
theorem call_lenN (hP : X.prog = c.G.P) (hw : X.w = c.G.w) (hK : X.K = c.G.K) : CallR X (.builtin "len") (rLenN c.G) := by
  intro pins s σ H ys us Q I r ⟨a, ks, vs, e, R, q⟩
  subst e
  cases r with
  | cons r1 r2 =>
    cases r2
    cases r1
    obtain ⟨xs, vals, h, hv, hkk, rk, rv⟩ := R
    obtain ⟨z1, z2, dd⟩ := dcn_of I hP hw hK h hkk rk
    have xl : xs.length = ks.length := by have := congrArg List.length hkk; simpa using this.symm
    have sl := sizeLine_eq
    refine call_len_dictH z2 dd (by omega) ?_
    exact ⟨.int (ks.length : Int), H, I.tok _, ⟨_, by rw [xl]⟩, q⟩
def lenG2 : List D → Option Res
  | [.dcn ks _] => some (.imm (.int ks.length))
  | ds => lenG ds
theorem call_len2 (hP : X.prog = c.G.P) (hw : X.w = c.G.w) (hK : X.K = c.G.K) : CallR X (.builtin "len") (fun xs H Q => rLenN c.G xs H Q ∨ ∃ x n, xs = [x] ∧ LenV X.K x H n ∧ Q (.int n) H) := (call_lenN hP hw hK).or call_len
theorem lenG2_ok (hK : X.K = c.G.K) : CallG c.G (fun xs H Q => rLenN c.G xs H Q ∨ ∃ x n, xs = [x] ∧ LenV X.K x H n ∧ Q (.int n) H) lenG2 := by
  intro H xs ds rs hv hg Q k
  unfold lenG2 at hg
  split at hg
  · cases hg
    obtain ⟨x, rfl, h⟩ := hv.one
    obtain ⟨a, rfl, R⟩ := h.dcn
    exact .inl ⟨a, _, _, rfl, R, k _ _ .refl (.imm (.int _))⟩
  · exact .inr (lenG_ok hK H xs _ rs hv hg Q k)
end
end DL
/-! Hot1: lists walked and tuples unpacked while an exception is handled. -/
namespace DL
open PySem PySem.Spec PyProof.Rows L2
section
variable {prog : Program} {w : World} {A : Around} {E : Value → Shared → Prop} {s : Shared}
/-- a list's walk is through, an exception is handled -/
theorem hot_list_end {z y x1 : Addr} {i : Nat} {items : Array Value} {Q : Option Value → Shared → Prop} (hot : HotX.HotAt A x1 s.heap) (st : s.heap.IsListIter z y i) (pl : s.heap.IsList y items) (no : items[i]? = none)
    (k : ∀ h', Heap.ExtBut z s.heap h' → Q none { s with heap := h' }) : wpAny (model prog w) A (pyNext (.ref z)) Q E s := by
  obtain ⟨oi, gi, ci, di⟩ := id st
  obtain ⟨ol, gl, _, nl, dl⟩ := pl
  obtain ⟨hand, o1, vs1, g1, d1, c1⟩ := hot
  have ne : x1 ≠ z := fun e => by
    rw [e, gi] at g1
    cases g1
    rw [di] at d1
    cases d1
    cases c1
  unfold pyNext
  refine wpAny_bind (wpAny_attempt (wpAny_callSpecial?_slot (name := Str.ofString "__next__") st.typeIs slot_listiter_next (wpAny_call_entry slot_listiter_next st.typeIs entry_listiter_next ?_ (args_listiter_next _))))
  show wpAny _ _ (field (.ref z) 0 >>= _) _ _ s
  refine wpAny_bind (wpAny_field gi di (x := .ref y) rfl ?_)
  show wpAny _ _ (if (Value.ref y == Value.none) = true then _ else _) _ _ s
  rw [if_neg (show (Value.ref y == Value.none) ≠ true from Bool.false_ne_true)]
  show wpAny _ _ (field (.ref z) 1 >>= _) _ _ s
  refine wpAny_bind (wpAny_field gi di (x := .int i 0) rfl ?_)
  show wpAny _ _ (seqItems? (.ref y) >>= _) _ _ s
  refine wpAny_bind (wpAny_seqItems gl dl ?_)
  simp only [Int.toNat_natCast, no]
  refine wpAny_bind (wpAny_rule (wpAny_bind (wpAny_setField gi di (by simp) ?_)))
  show wpAny _ _ (newExc (Value.type "StopIteration") [] >>= _) _ _ _
  refine wpAny_bind ?_
  simp only [newExc, newTuple]
  refine wpAny_bind (wpAny_newObj_type (wpAny_bind (m := firstArgMember _ _) (wpAny_of_eq (a := Value.none) rfl (wpAny_newObj_type ?_ (by size_fits)))) (by size_fits))
  have g2 := (Heap.get?_update_other (h := s.heap) (a := z) (b := x1) (Obj.mapFields (·.setIfInBounds 0 Value.none)) (fun e => ne e.symm)).trans g1
  refine HotX.raiseNew_hot ⟨hand, o1, vs1, Heap.get?_push_of_some _ (Heap.get?_push_of_some _ g2), d1, c1⟩ (Nat.ne_of_lt (Heap.lt_size (Heap.get?_push_of_some _ g2))) (Heap.get?_push_size _ rfl) rfl (by first | (simp; done) | (simp; omega)) ?_
  refine wpAny_bind (wpAny_isInstance (T := "StopIteration") (b := true) ⟨_, Heap.get?_update_self _ (Heap.get?_push_size _ rfl) rfl, rfl⟩ isSubtype_stop (wpAny_pure (k _ fun b o hb e => ?_)))
  have g3 := Heap.get?_push_of_some { cls := .type "tuple", data := .seq #[] } ((Heap.get?_update_other (h := s.heap) (a := z) (b := b) (Obj.mapFields (·.setIfInBounds 0 Value.none)) (fun e => hb e.symm)).trans e)
  rw [Heap.get?_update_other _ _ (Nat.ne_of_gt (Heap.lt_size g3))]
  exact Heap.get?_push_of_some _ g3
/-- a tuple's walk is through, an exception is handled -/
theorem hot_tuple_end {z y x1 : Addr} {i : Nat} {items : Array Value} {Q : Option Value → Shared → Prop} (hot : HotX.HotAt A x1 s.heap) (st : IsTupIter s.heap z y i) (pl : IsTup s.heap y items) (no : items[i]? = none)
    (k : ∀ h', Heap.ExtBut z s.heap h' → Q none { s with heap := h' }) : wpAny (model prog w) A (pyNext (.ref z)) Q E s := by
  obtain ⟨oi, gi, ci, di⟩ := id st
  obtain ⟨ol, gl, _, nl, dl⟩ := pl
  obtain ⟨hand, o1, vs1, g1, d1, c1⟩ := hot
  have ne : x1 ≠ z := fun e => by
    rw [e, gi] at g1
    cases g1
    rw [di] at d1
    cases d1
    cases c1
  unfold pyNext
  refine wpAny_bind (wpAny_attempt (wpAny_callSpecial?_slot (name := Str.ofString "__next__") st.typeIs slot_tupleiter_next (wpAny_call_entry slot_tupleiter_next st.typeIs entry_tupleiter_next ?_ (args_tupleiter_next _))))
  show wpAny _ _ (field (.ref z) 0 >>= _) _ _ s
  refine wpAny_bind (wpAny_field gi di (x := .ref y) rfl ?_)
  show wpAny _ _ (if (Value.ref y == Value.none) = true then _ else _) _ _ s
  rw [if_neg (show (Value.ref y == Value.none) ≠ true from Bool.false_ne_true)]
  show wpAny _ _ (field (.ref z) 1 >>= _) _ _ s
  refine wpAny_bind (wpAny_field gi di (x := .int i 0) rfl ?_)
  show wpAny _ _ (seqItems? (.ref y) >>= _) _ _ s
  refine wpAny_bind (wpAny_seqItems gl dl ?_)
  simp only [Int.toNat_natCast, no]
  refine wpAny_bind (wpAny_rule (wpAny_bind (wpAny_setField gi di (by simp) ?_)))
  show wpAny _ _ (newExc (Value.type "StopIteration") [] >>= _) _ _ _
  refine wpAny_bind ?_
  simp only [newExc, newTuple]
  refine wpAny_bind (wpAny_newObj_type (wpAny_bind (m := firstArgMember _ _) (wpAny_of_eq (a := Value.none) rfl (wpAny_newObj_type ?_ (by size_fits)))) (by size_fits))
  have g2 := (Heap.get?_update_other (h := s.heap) (a := z) (b := x1) (Obj.mapFields (·.setIfInBounds 0 Value.none)) (fun e => ne e.symm)).trans g1
  refine HotX.raiseNew_hot ⟨hand, o1, vs1, Heap.get?_push_of_some _ (Heap.get?_push_of_some _ g2), d1, c1⟩ (Nat.ne_of_lt (Heap.lt_size (Heap.get?_push_of_some _ g2))) (Heap.get?_push_size _ rfl) rfl (by first | (simp; done) | (simp; omega)) ?_
  refine wpAny_bind (wpAny_isInstance (T := "StopIteration") (b := true) ⟨_, Heap.get?_update_self _ (Heap.get?_push_size _ rfl) rfl, rfl⟩ isSubtype_stop (wpAny_pure (k _ fun b o hb e => ?_)))
  have g3 := Heap.get?_push_of_some { cls := .type "tuple", data := .seq #[] } ((Heap.get?_update_other (h := s.heap) (a := z) (b := b) (Obj.mapFields (·.setIfInBounds 0 Value.none)) (fun e => hb e.symm)).trans e)
  rw [Heap.get?_update_other _ _ (Nat.ne_of_gt (Heap.lt_size g3))]
  exact Heap.get?_push_of_some _ g3
/-- a tuple unpacked, an exception is handled -/
theorem hot_unpack {y x1 : Addr} {items : Array Value} {Q : List Value → Shared → Prop} (hot : HotX.HotAt A x1 s.heap) (pt : IsTup s.heap y items)
    (k : ∀ h', Heap.ExtBut s.heap.objs.size s.heap h' → Q items.toList { s with heap := h' }) : wpAny (model prog w) A (unpackItems (.ref y) items.size none) Q E s := by
  have lt : y ≠ s.heap.objs.size := by
    obtain ⟨oy, gy, _⟩ := pt
    exact Nat.ne_of_lt (Heap.lt_size gy)
  have lx : x1 ≠ s.heap.objs.size := by
    obtain ⟨_, ox, _, gx, _⟩ := hot
    exact Nat.ne_of_lt (Heap.lt_size gx)
  unfold unpackItems
  refine wpAny_bind ?_
  unfold notIterableAtAll
  refine wpAny_bind (wpAny_specialOf pt.typeIs slot_tuple_iter.lookup (wpAny_pure ?_))
  simp only [Bool.false_eq_true, if_false]
  refine wpAny_bind (wpAny_holding (iter_tuple pt (wpAny_bind (wpAny_holding (draw_tuple lt items.size 0 _ _ ⟨_, Heap.get?_push_size _ rfl, rfl, rfl⟩ (pt.push _) (by omega) fun h1 it1 sb1 => ?_)))))
  have all : List.take items.size (List.drop 0 items.toList) = items.toList := by
    rw [List.drop_zero]
    exact List.take_of_length_le (by simp)
  rw [all, if_neg (by simp)]
  have pt1 : IsTup h1 y items := (pt.push _).extBut sb1.extBut lt
  have hot1 : HotX.HotAt A x1 h1 := by
    obtain ⟨hh, o1, vs1, g1, d1, c1⟩ := hot
    exact ⟨hh, o1, vs1, sb1.extBut _ _ lx (Heap.get?_push_of_some _ g1), d1, c1⟩
  refine wpAny_bind (wpAny_holding (hot_tuple_end hot1 it1 pt1 (by simp) fun h2 e2 => ?_))
  simp only [Option.isSome_none, Bool.false_eq_true, if_false]
  exact wpAny_pure (k h2 fun b o hb e => e2 b o hb (sb1.extBut b o hb (Heap.get?_push_of_some _ e)))
theorem hot_assign {env : PySem.Env} {elts : List Expr} {j : Nat} {pos : Pos} {y x1 : Addr} {items : Array Value} {Q : Unit → Shared → Prop} (hot : HotX.HotAt A x1 s.heap) (pt : IsTup s.heap y items)
    (n1 : (assignEach elts env).length = items.size) (n2 : (assignEach elts env).findIdx? (·.1) = none)
    (k : ∀ h', Heap.ExtBut s.heap.objs.size s.heap h' → wpAny (model prog w) A (assignInOrder ((assignEach elts env).map (·.2)) items.toList) Q E { s with heap := h' }) :
    wpAny (model prog w) A (assign (.Tuple elts j pos) env (.ref y)) Q E s := by
  rw [assign_Tuple]
  refine wpAny_bind (wpAny_standAt ?_)
  unfold unpack
  rw [n1, n2]
  exact wpAny_bind (wpAny_holding (hot_unpack hot pt k))
end
/-- at each state of the context an exception is handled -/
def HotS (X : Cx) : Prop := ∃ x1, ∀ (pins : List (Addr × Obj)) (σ : L2.St) (H : Hp) (s : Shared), Inv X pins σ H s → HotX.HotAt X.A x1 s.heap
section
variable {X : Cx}
theorem hotS_of {p : Addr × Obj} (h : L2H.Hot1 X.A p) (hp : p ∈ X.pn) : HotS X := ⟨p.1, fun pins σ H s I => by
  obtain ⟨hh, v1, d1, c1⟩ := h
  exact ⟨hh, p.2, v1, (I.pin p (List.mem_append_left _ hp)).1, d1, c1⟩⟩
theorem pg_tupH {es : List Expr} {j n : Nat} {t : TGs} {pos : Pos} (hc : HotS X) (h : PGs X es t) (hn : (assignEach es X.env).length = n := by rfl) (hst : (assignEach es X.env).findIdx? (·.1) = none := by rfl) : PG X (.Tuple es j pos) (gTup X.K n t) := by
  refine ⟨fun pins s σ H v u Q I r ⟨a, xs, e, sq, hl, hw⟩ => ?_⟩
  subst e
  cases r
  obtain ⟨its, rv, pt, _⟩ := I.tuple sq
  obtain ⟨x1, hot⟩ := hc
  refine hot_assign (hot _ _ _ _ I) (by first | exact pt | exact (show IsTup s.heap a its.toArray from pt)) (by simp [hn, ← hl, rv.length]) hst fun h' hx => ?_
  have I1 : Inv X pins σ H { s with heap := h' } := I.kept (t' := s.toks) fun b o g => hx b o (Nat.ne_of_lt (Heap.lt_size g)) g
  exact h.run pins _ σ H xs _ Q I1 (by simpa using rv) hw
theorem hl_item {tg : Expr} (a z : Addr) {i : Nat} {pins : List (Addr × Obj)} {s : Shared} {σ : L2.St} {H : Hp} {E : Value → Shared → Prop} (I : Inv X pins σ H s) (hf : FpOk X pins H z) (st : s.heap.IsListIter z a i) (hg : (Itl X.K a).go i H) :
    wpAny (model X.prog X.w) X.A (pyNext (.ref z)) (fun r s1 => ∃ u, r = some u ∧ wpAny (model X.prog X.w) X.A (letOwnedTupleGo tg (.ref z) u) (fun _ s2 => ∃ x, Inv X pins σ H s2 ∧ RelV x u ∧ (Itl X.K a).yld i H x H ∧ s2.heap.IsListIter z a (i + 1)) E s1) E s := by
  obtain ⟨xs, x, sq, hx⟩ := hg
  obtain ⟨its, rv, pl, _⟩ := I.list sq
  obtain ⟨u, hu, ru⟩ := rv.get hx
  obtain ⟨q0, q1, q2, q3, q4, q5⟩ := hf
  refine wpAny_pyNext_list_item st pl.isList (x := u) (by simpa using hu) fun h' st' sb => ?_
  have I1 : Inv X pins σ H { s with heap := h' } := I.turned (t' := s.toks) (fun b o hb g => (sb.2 b hb).trans g) q0 q1 q3 q4 q5
  obtain ⟨o, g, ci, di⟩ := id st'
  refine ⟨u, rfl, go_of (s := { s with heap := h' }) g ci di (by decide) ⟨x, I1, ru, ⟨rfl, fun ys hy => ?_⟩, st'⟩⟩
  rw [I.list_inj hy sq]
  exact hx
theorem hl_done (hc : HotS X) (a z : Addr) {i : Nat} {pins : List (Addr × Obj)} {s : Shared} {σ : L2.St} {H : Hp} {E : Value → Shared → Prop} (I : Inv X pins σ H s) (hf : FpOk X pins H z) (st : s.heap.IsListIter z a i) (hg : (Itl X.K a).stop i H) :
    wpAny (model X.prog X.w) X.A (pyNext (.ref z)) (fun r s1 => r = none ∧ Inv X pins σ H s1) E s := by
  obtain ⟨xs, sq, hx⟩ := hg
  obtain ⟨its, rv, pl, _⟩ := I.list sq
  obtain ⟨q0, q1, q2, q3, q4, q5⟩ := hf
  have hl := rv.length
  obtain ⟨x1, hot⟩ := hc
  exact hot_list_end (hot _ _ _ _ I) st pl.isList (by simp; omega) fun h' eb => ⟨rfl, I.turned (t' := s.toks) (fun b o hb g => eb b o hb g) q0 q1 q3 q4 q5⟩
end
end DL
/-! Hot2: a list comprehension over a list while an exception is handled. -/
namespace DL
open PySem PySem.Spec PyProof.Rows L2
section
variable {X : Cx}
theorem pe_lcB {elt tg l : Expr} {ifs : List Expr} {scope : Scope} {own : List (Str × Nat)} {pos : Pos} {tl : TE} {g : TG} {tt : TT} {te : TE} {p : Addr × Obj} (hp : L2H.Hot1 X.A p) (hpn : p ∈ X.pn) (hN : X.N.Nodup) (hl : PE X l tl) (ok : BlkOk X.N X.env.scope scope own)
    (hg : ∀ (s : Shared) (H : Hp) (C : Addr) (cl : List (Str × Addr)) (fp : List Addr), HotS (X.blk s H scope (compEnvC scope cl C X.env) fp) → PG (X.blk s H scope (compEnvC scope cl C X.env) fp) tg g)
    (ht : ∀ (s : Shared) (H : Hp) (C : Addr) (cl : List (Str × Addr)) (fp : List Addr), PTs (X.blk s H scope (compEnvC scope cl C X.env) fp) ifs tt)
    (he : ∀ (s : Shared) (H : Hp) (C : Addr) (cl : List (Str × Addr)) (fp : List Addr), PE (X.blk s H scope (compEnvC scope cl C X.env) fp) elt te) (hs : ∀ x, foldedSetIterable l X.env x = pure x := by intro _; rfl) :
    PE X (.ListComp elt [⟨tg, l, ifs, 0⟩] scope pos) (tLc (iList X.K tl) g tt te (own.map (·.2))) := by
  refine ⟨fun pins s σ H Q I h => ?_⟩
  rw [eval_ListComp]
  have free0 : ∀ y ∈ scope.names, y.2 = .free → ∃ c, X.env.cells.lookup y.1 = some c := fun y hy e => (ok.free y hy e).elim (fun k => I.ok.has _ (.inl k)) fun k => I.ok.has _ (.inr k)
  refine wpAny_comprehension_free rfl hs (closure_ok free0) ok.kind (fun y hy e => by rw [ok.uniq y hy, e]) (thn (hl.run pins s σ H _ I h) fun xv s1 ⟨x, H1, I1, r1, a, ex, ⟨xs, sq⟩, q⟩ => ?_)
  subst ex
  cases r1
  obtain ⟨its, rv, pl, _⟩ := I1.list sq
  refine wpAny_pyIter_list pl.isList ?_
  generalize hz : s1.heap.objs.size = z
  generalize hs2 : ({ s1 with heap := s1.heap.push { cls := .type "list_iterator", data := .fields #[.ref a, .int 0 0] } } : Shared) = s2
  have st2 : s2.heap.IsListIter z a 0 := by
    rw [← hs2, ← hz]
    exact ⟨_, Heap.get?_push_size _ rfl, rfl, rfl⟩
  have I2 : Inv X pins σ H1 s2 := by
    rw [← hs2]
    exact I1.kept (t' := s1.toks) fun b o e => Heap.get?_push_of_some _ e
  have fz : FpOk X pins H1 z := by
    rw [← hz]
    exact I1.fpOk (Nat.le_refl _) (I1.hok.fresh (Nat.le_refl _))
  refine wpAny_newObj_type (newEnv_comp ?_) (by show 0 ≤ sizeLine; decide)
  generalize hD : s2.heap.objs.size = D
  have freshD : H1 D = none := I2.hok.fresh (Nat.le_of_eq hD)
  have zD : z < D := by
    obtain ⟨oz, gz, _⟩ := st2
    rw [← hD]
    exact Heap.lt_size gz
  obtain ⟨Wl, ⟨m0, w0⟩, turn⟩ := q D freshD
  generalize hs3 : ({ s2 with heap := s2.heap.push { cls := .type "list", data := .seq ([] : List Value).toArray } } : Shared) = s3
  have g3 : ∀ b o, s2.heap.get? b = some o → s3.heap.get? b = some o := fun b o e => by
    rw [← hs3]
    exact Heap.get?_push_of_some _ e
  have I3 : Inv X pins σ (upd H1 D (.lst [])) s3 := by
    rw [← hs3]
    refine I2.laid (t' := s2.toks) (fun b o e => Heap.get?_push_of_some _ e) (Nat.le_of_eq hD) ⟨Nat.zero_le _, [], 0, .nil, ?_⟩
    rw [← hD]
    exact Heap.get?_push_size _ rfl
  have h3 : s3.heap.objs.size = D + 1 := by
    rw [← hs3, ← hD]
    exact Heap.size_push _ _
  have fz3 : FpOk X pins (upd H1 D (.lst [])) z := ⟨by rw [upd_ne (Nat.ne_of_lt zD)]; exact fz.1, fz.2⟩
  have st3 : s3.heap.IsListIter z a 0 := st2.at fun o e => g3 z o e
  generalize hH3 : upd H1 D (.lst []) = H3 at I3 w0 fz3
  have I4 := block_start I3 ok hN (fp := [z]) fun b hb => by
    cases List.mem_singleton.mp hb
    obtain ⟨oz, gz, _⟩ := id st3
    exact ⟨fz3, Heap.lt_size gz⟩
  -- in the block, too, it is handled
  have hot4 : ∀ (scope' : Scope) (ce : PySem.Env), HotS (X.blk s3 H3 scope' ce [z]) := fun scope' ce => ⟨p.1, fun pins' σ' H' s' I' => by
    obtain ⟨hh, v1, d1, c1⟩ := hp
    have q3 := I3.pin p (List.mem_append_left _ hpn)
    have nz : p.1 ∉ [z] := fun e => fz3.2.2.2.2.2 p (List.mem_append_left _ hpn) (List.mem_singleton.mp e)
    have nf : p.1 ∉ frs X.stack := fun hm => by
      rcases I3.ok.stk with e | ⟨e, ef⟩
      · rw [e] at hm
        exact q3.2.2.2.1 hm
      · rw [e] at hm
        obtain ⟨en, hen, hq⟩ := List.mem_filterMap.mp hm
        rcases List.mem_cons.mp hen with rfl | hen
        · rw [ef] at hq
          exact q3.2.2.1 (Option.some.inj hq).symm
        · exact q3.2.2.2.1 (List.mem_filterMap.mpr ⟨en, hen, hq⟩)
    exact ⟨hh, p.2, v1, I'.base.keep p.1 p.2 q3.1 q3.2.1 nf nz, d1, c1⟩⟩
  have pg := hg s3 H3 s3.heap.objs.size (cellsFrom (s3.heap.objs.size + 1) scope.names (cloFrom X.env.cells scope.names [])) [z] (hot4 _ _)
  have pt := ht s3 H3 s3.heap.objs.size (cellsFrom (s3.heap.objs.size + 1) scope.names (cloFrom X.env.cells scope.names [])) [z]
  have pe := he s3 H3 s3.heap.objs.size (cellsFrom (s3.heap.objs.size + 1) scope.names (cloFrom X.env.cells scope.names [])) [z]
  have hot5 := hot4 scope (compEnvC scope (cellsFrom (s3.heap.objs.size + 1) scope.names (cloFrom X.env.cells scope.names [])) s3.heap.objs.size X.env)
  show codeAny _ _ (.compStart (.ListComp elt [⟨tg, l, ifs, 0⟩] scope pos) 0 (.ref z) (.ref D) (compEnvC scope (cellsFrom (s3.heap.objs.size + 1) scope.names (cloFrom X.env.cells scope.names [])) s3.heap.objs.size X.env)) (compPost (model X.prog X.w) X.A X.xe none (EP X pins σ Q) (.ref D) s3.heap.objs.size) { s3 with heap := pushCells (s3.heap.push { cls := .type "dict", data := .dict #[] }) scope.names }
  generalize hce : compEnvC scope (cellsFrom (s3.heap.objs.size + 1) scope.names (cloFrom X.env.cells scope.names [])) s3.heap.objs.size X.env = ce at I4 pg pt pe hot5 ⊢
  have ceL : ce.locals = s3.heap.objs.size := by subst hce; rfl
  generalize hs4 : ({ s3 with heap := pushCells (s3.heap.push { cls := .type "dict", data := .dict #[] }) scope.names } : Shared) = s4 at I4 ⊢
  have st4 : s4.heap.IsListIter z a 0 := st3.at fun o e => by
    rw [← hs4]
    exact pushCells_keeps _ _ _ _ (Heap.get?_push_of_some _ e)
  have stay : ∀ {σ' : L2.St} {H' : Hp} {s' : Shared}, Inv (X.blk s3 H3 scope ce [z]) [] σ' H' s' → H' z = none → FpOk (X.blk s3 H3 scope ce [z]) [] H' z := fun {σ' H' s'} I' hn =>
    ⟨hn, (I'.ok.exf z (List.mem_singleton.mpr rfl)).1, I'.ok.exfs z (List.mem_singleton.mpr rfl), .inl (List.mem_singleton.mpr rfl), fun y c e => (I'.ok.exf z (List.mem_singleton.mpr rfl)).2 y c e, fun r hr => absurd (show r ∈ ([] : List (Addr × Obj)) ++ [] from hr) (by simp)⟩
  have loop : codeAny (model X.prog X.w) X.A (.compLoop (.ListComp elt [⟨tg, l, ifs, 0⟩] scope pos) 0 (.ref z) (.ref D) ce) (compPost (model X.prog X.w) X.A X.xe none (EP X pins σ Q) (.ref D) s3.heap.objs.size) s4 := by
    refine compLoop_any (fun n s' => ∃ i H', Inv (X.blk s3 H3 scope ce [z]) [] (wipe σ (own.map (·.2))) H' s' ∧ s'.heap.IsListIter z a i ∧ H' z = none ∧ Wl i n H') ?_ m0 ⟨0, H3, I4, st4, fz3.1, w0⟩
    rintro n s5 ⟨i, H5, I5, st5, n5, w5⟩
    rcases turn i n H5 w5 with ⟨stop, qq⟩ | ⟨go, Nx, hNx, step⟩
    · refine thnF (hl_done (E := fun _ _ => False) hot5 a z I5 (stay I5 n5) st5 stop) fun r s6 ⟨hr, I6⟩ => ?_
      subst hr
      have I7 : Inv X pins σ H5 s6 := I3.call' (ch := [z]) I6.os I6.base I6.hok I6.bare fun b hb => by
        cases List.mem_singleton.mp hb
        exact ⟨fz3.2.2.2.1, fz3.2.1, fz3.2.2.2.2.1, fz3.2.2.2.2.2⟩
      have nC : H5 s3.heap.objs.size = none := by
        have y : H5 ce.locals = none := I6.free
        rwa [ceL] at y
      obtain ⟨mm, hn, _⟩ := I6.loc
      have hn : s6.heap.Ns ce.locals mm := hn
      rw [ceL] at hn
      obtain ⟨f0, f1, f2, f3, f4, f5⟩ := I3.fpOk (H' := H5) (Nat.le_refl _) nC
      exact ⟨mm, hn, fun h'' sb => ⟨.ref D, H5, I7.turned (t' := s6.toks) (fun b o hb e => (sb.2 b hb).trans e) f0 f1 f3 f4 f5, rfl, qq⟩⟩
    · refine thnF (hl_item (X := X.blk s3 H3 scope ce [z]) (tg := tg) (E := fun _ _ => False) a z I5 (stay I5 n5) st5 go) fun r s6 ⟨u, hr, h6⟩ => ?_
      subst hr
      refine thnF h6 fun _ s7 ⟨x, I7, r7, y7, st7⟩ => ?_
      have I7' := I7.pinned (fp := [z]) (fun b hb => by
        cases List.mem_singleton.mp hb
        exact stay I7 n5) (fun b hb => by
        cases List.mem_singleton.mp hb
        obtain ⟨o, e, _, d⟩ := id st7
        exact ⟨o, e, fun v y => by rw [d] at y; cases y⟩)
      refine thnF (pg.run _ s7 _ H5 x u _ I7' r7 (step x H5 y7)) fun _ s8 ⟨σ8, H8, I8, hw8, q8⟩ => ?_
      refine thnF (pt.run _ s8 σ8 H8 _ I8 q8) fun b s9 ⟨H9, I9, q9⟩ => ?_
      have fin : ∀ {s' : Shared} {H' : Hp}, Inv (X.blk s3 H3 scope ce [z]) ([] ++ pinsAt [z] s7.heap) σ8 H' s' → Nx H' → ∃ m, m < n ∧ ∃ i H', Inv (X.blk s3 H3 scope ce [z]) [] (wipe σ (own.map (·.2))) H' s' ∧ s'.heap.IsListIter z a i ∧ H' z = none ∧ Wl i m H' := fun {s' H'} I' nx => by
        obtain ⟨m', hm, w'⟩ := hNx H' nx
        have pin' : ∀ o, s7.heap.get? z = some o → s'.heap.get? z = some o ∧ H' z = none := fun o e =>
          have y := I'.pin (z, o) (List.mem_append_right _ (List.mem_append_right _ (mem_pinsAt (List.mem_singleton.mpr rfl) e)))
          ⟨y.1, y.2.1⟩
        have hlen : (wipe σ (own.map (·.2))).length = σ8.length := by rw [← hw8, wipe_length]
        refine ⟨m', hm, i + 1, H', (I'.unpinned (pins := [])).weak hlen (fun j v e => ?_), st7.at fun o e => (pin' o e).1, ?_, w'⟩
        · rw [← hw8] at e
          exact (wipe_some e).1
        · obtain ⟨o, e, _⟩ := id st7
          exact (pin' o e).2
      cases b with
      | false =>
        simp only [Bool.false_eq_true, if_false] at q9 ⊢
        exact fin I9 q9
      | true =>
        simp only [if_true] at q9 ⊢
        refine thnF (pe.run _ s9 σ8 H9 _ I9 q9) fun yv' s10 ⟨yv, H10, I10, r10, acc, hD10, hz10, nx⟩ => ?_
        exact app_ok (X := X.blk s3 H3 scope ce [z]) I10 hD10 hz10 r10 fun s11 I11 => fin I11 nx
  exact codeAny_compStart_list loop (wpAny_pyIter_listiter st4 loop)
end
end DL
/-! Hot3: the layer's rules while an exception is handled. -/
namespace DL
open PySem PySem.Spec PyProof.Rows L2
section
variable {c : Cn} {W : Wx} {X : Cx} {A : Addr → Prop} {ρ : Env} {σ : Sg} {H H1 : Hp}
/-- a list alone -/
def iLs (f : EV) : IV := fun ρ => (f ρ).bind fun k ρ1 => match k with
  | .res (.imm (.lst ds)) => .ok ds ρ1
  | _ => .bad
theorem ls_imp {f : EV} {R : It → Hp → Prop} (hK : X.K = c.G.K) (h : tI true c W (iLs (frzE f)) σ H R) : iList X.K (tP c W (frzE f)) σ H R := by
  obtain ⟨ρ, A, S, h⟩ := h
  unfold iLs at h
  cases e : frzE f ρ with
  | bad => rw [e] at h; exact h.elim
  | exc x ρ1 => rw [e] at h; exact cutExc S e h
  | ok k ρ1 =>
    rw [e] at h
    simp only [Out.bind] at h
    split at h
    · refine cutOk S e fun v H1 S1 F1 R1 => ?_
      cases R1 with
      | res R1 =>
        cases R1 with
        | imm R1 =>
          cases R1 with
          | lst h1 r hl => exact ⟨_, rfl, ⟨_, .inl (.inr ⟨_, h1⟩)⟩, h _ H1 S1 F1 (hK ▸ it_list h1 r) fun _ => hl⟩
    · exact h.elim
theorem dx_lcH {elt tg l : Expr} {ifs : List Expr} {scope : Scope} {own : List (Str × Nat)} {pos : Pos} {fl : EV} {is : List Nat} {g : GV} {tt : TV} {f : EV} {p : Addr × Obj} (hp : L2H.Hot1 X.A p) (hpn : p ∈ X.pn) (hK : X.K = c.G.K) (hN : X.N.Nodup) (hl : DX c W X l fl) (ok : BlkOk X.N X.env.scope scope own) (his : ∀ i ∈ is, i ∈ own.map (·.2))
    (hg : ∀ (s : Shared) (H : Hp) (C : Addr) (cl : List (Str × Addr)) (fp : List Addr), HotS (X.blk s H scope (compEnvC scope cl C X.env) fp) → DG c (X.blk s H scope (compEnvC scope cl C X.env) fp) tg is g) (ht : ∀ (s : Shared) (H : Hp) (C : Addr) (cl : List (Str × Addr)) (fp : List Addr), DTs c WF (X.blk s H scope (compEnvC scope cl C X.env) fp) ifs tt)
    (he : ∀ (s : Shared) (H : Hp) (C : Addr) (cl : List (Str × Addr)) (fp : List Addr), DX c WF (X.blk s H scope (compEnvC scope cl C X.env) fp) elt f) (hs : ∀ x, foldedSetIterable l X.env x = pure x := by intro _; rfl) :
    DX c W X (.ListComp elt [⟨tg, l, ifs, 0⟩] scope pos) (eLc (iLs (frzE fl)) g tt f (own.map (·.2))) :=
  PE.imp (pe_lcB hp hpn hN (dx_frz hl) ok hg ht he hs) fun σ H Q h => ls_imp hK (lc_imp his h)
theorem dg_tupH {es : List Expr} {k : Nat} {is : List Nat} {gs : GVs} {n : Nat} {pos : Pos} (hK : X.K = c.G.K) (hc : HotS X) (h : DGs c X es is gs) (hn : (assignEach es X.env).length = n := by rfl) (hst : (assignEach es X.env).findIdx? (·.1) = none := by rfl) :
    DG c X (.Tuple es k pos) is (gT n gs) := by
  refine PG.imp (pg_tupH hc h hn hst) fun v σ H Q ⟨ρ, A, d, ρ', S, r, e, q⟩ => ?_
  unfold gT at e
  split at e
  · split at e
    · rename_i hl
      obtain ⟨a, xs, rfl, h1, h2, _⟩ := Vw.tup (.imm r)
      exact ⟨a, xs, rfl, hK ▸ h1.sq, by rw [h2.length, hl], ρ, A, _, ρ', S, h2, e, q⟩
    · cases e
  · cases e
/-- isinstance of an exception that stands in the frame -/
theorem call_isP {a D : Addr} {oe : Obj} (C : ExcC X.K D) (hz : Zc (.ref D) none oe) (hf : ∃ vs, oe.data = .fields vs) (hm : (a, oe) ∈ X.pn) : CallR X (.builtin "isinstance") (rIsE X.K D a) := by
  intro pins s σ H xs us Q I r ⟨cv1, cv, b, e1, hcv, e2, q⟩
  subst e1
  rcases r with _ | ⟨rx, rr⟩
  rcases rr with _ | ⟨rt, rr⟩
  cases rr
  cases rx
  cases hcv _ rt
  have g1 := (I.pin (a, oe) (List.mem_append_left _ hm)).1
  obtain ⟨vs, hv⟩ := hf
  have J : PySem.W.InstAt s.heap a oe D none := by
    obtain ⟨o1, o2, o3, o4⟩ := oe
    obtain ⟨h1, h2⟩ := hz
    dsimp only at h1 h2 hv
    subst h1 h2 hv
    exact ⟨g1, rfl, rfl, trivial⟩
  refine PySem.W.kia_one (PySem.W.handS_kitx_exc C.hg C.hk C.hs C.hd C.ha C.hn C.ht C.hm) I.kIn J e2 (fun z => nomatch z) fun tk => ?_
  exact ⟨.bl b, H, I.kept (t' := tk) fun _ _ z => z, rfl, q⟩
end
end DL
/-! Hot4: a def that the except suite calls: what it promises may tell of the handled exception. -/
namespace DL
open PySem PySem.Spec PyProof.Rows L2
abbrev SpE := Addr × Obj → Sp
structure FnE (P : Program) (w : World) (K : PySem.W.Frag) (mg : Str → Option Value) (base : Heap) (CX : CXT) (k : Nat) (f : Addr) (fd : FuncData) (ps : List Str) (sp : SpE) : Prop where
  len : ∀ p vs H Q E, sp p vs H Q E → vs.length = ps.length
  run : ∀ (A : Around) (outer : List PySem.Env) (s : Shared) (H : Hp) (args : Args) (us : List Value) (vs : List V) (Q : VK) (E : XK) (p : Addr × Obj), L2H.RoomH k A → L2H.Hot1 A p → L2H.PinOk outer H s p → Env0 P w K mg base A outer s H → BindsTo s fd args (ps.zip us) → Vals vs us → sp p vs H Q E →
    codeAny (model P w) A (.call (.ref f) args) (CR CX outer P w H s Q E) s
theorem fnE_of {CX : CXT} {P : Program} {w : World} {K : PySem.W.Frag} {mg : Str → Option Value} {base : Heap} {k : Nat} {f : Addr} {name qual : Str} {params : Arguments} {body : List Stmt} {scope : Scope} {dV kV doc pm cdv ct oc : Value} {an od : Option Addr} {osl : Array (Option Value)} {N ps : List Str} {sp : SpE}
    (lk : K.lookup f = some ⟨oc, od, .func (PySem.W.fnOf name qual params body scope dV kV doc pm an cdv ct), osl⟩) (hcd : PySem.W.codeIn K cdv qual = true) (S : FnScope N ps scope) (len : ∀ p vs H Q E, sp p vs H Q E → vs.length = ps.length)
    (hb : ∀ (A : Around) (outer : List PySem.Env) (s : Shared) (H : Hp) (vs : List V) (Q : VK) (E : XK) (p : Addr × Obj), L2H.Hot1 A p → L2H.RoomH k (A.deeper (envOfC qual scope s.heap.objs.size f cdv)) → sp p vs H Q E →
      ∃ t, PSs (L2H.cxH CX P w K mg base N qual scope f cdv A outer s H E p) body t ∧ t { nx := fun _ H' => Q .non H', rt := Q } (L2.start N vs) H) : FnE P w K mg base CX (k + 1) f (PySem.W.fnOf name qual params body scope dV kV doc pm an cdv ct) ps sp := by
  refine ⟨len, fun A outer s H args us vs Q E p hr hot pin e0 bd rv h => ?_⟩
  have hl := len _ _ _ _ _ h
  have kin : K.In s.heap := e0.mod.kin.keeps fun b o g => (e0.bs b o g).1
  have nol : s.heap.NoLimit := e0.mod.nolimit.keeps fun b o g => (e0.bs b o g).1
  refine codeAny_call_function hr.depth (kin _ _ lk) rfl S.co S.gen rfl (PySem.W.codeRec_of kin hcd) (bd _ _ _ _ ?_)
  refine wpAny_newFunctionEnv_cells S.kind (fun y hy => ?_) fun env he s1 x => ?_
  · rcases S.par y.1 (List.of_mem_zip (a := y.1) (b := y.2) hy).1 with e | e
    · exact .inl e
    · exact .inr ⟨e, PySem.W.cellsFrom_some _ _ _ (.inl e)⟩
  subst he
  obtain ⟨t, ht, hq⟩ := hb A outer s H vs Q E p hot (hr.deeper _) h
  have J := L2H.inv_startH (CX := CX) (E := E) (qual := qual) (f := f) (cd := cdv) S pin e0 hl rv x
  refine ⟨nol.keeps x.toInCall.keep, codeAny_func (wpAny_mono (ht.run [] s1 (L2.start N vs) H _ J hq) (fun fl s' r => ?_) fun _ _ r => r)⟩
  cases fl with
  | brk => exact (show False from r.choose_spec.choose_spec.2).elim
  | cont => exact (show False from r.choose_spec.choose_spec.2).elim
  | next =>
    obtain ⟨σ', H', J', q⟩ := r
    exact ⟨.non, H', J'.os, J'.bare, J'.base, J'.hok, rfl, q⟩
  | ret u =>
    obtain ⟨v, σ', H', J', rv', q⟩ := r
    exact ⟨v, H', J'.os, J'.bare, J'.base, J'.hok, rv', q⟩
section
variable {X : Cx} {CX : CXT} {k : Nat} {f : Addr} {fd : FuncData} {ps : List Str} {sp : SpE} {E : L2.St → XK} {x : Str} {q pos : Pos} {e : Expr} {es : List Expr} {t : TA}
/-- f(..) in the except suite -/
theorem pe_callE {p : Addr × Obj} (F : FnE X.prog X.w X.K X.mg X.base CX k f fd ps sp) (hr : L2H.RoomH k X.A) (hot : L2H.Hot1 X.A p) (hpn : p ∈ X.pn) (hg : Gl X x) (hm : X.mg x = some (.ref f)) (hk : PySem.W.keepIn X.K (.ref f) = true) (hb : L2.Binds X.K fd ps []) (hx : ∀ σ, PassesAt CX X σ (E σ))
    (ha : PA X (e :: es) t) (hdb : (x == ("__debug__" : Str)) = false := by decide) (he : starEach (e :: es) X.env = (false, eval e X.env) :: starEach es X.env := by rfl) (hpl : (backTo pos (starEach es X.env)).any (·.1) = false := by rfl) :
    PE X (.Call (.Name x q) (e :: es) [] pos) (tCallS (sp p) E t) := by
  refine ⟨fun pins s σ H Q I h => wpAny_Call_Name_kw (ld_glob I hg hm ?_ hdb)⟩
  refine PySem.W.callWith_K (h₀ := X.base) I.ok.mod.kin hk (thn (ha.run pos pins s σ H _ I h) fun us s1 ⟨vs, H1, I1, r, q1⟩ => ⟨I1.kIn, ?_⟩) he hpl
  have b := hb s1 us I1.kIn (by rw [List.append_nil, ← r.length]; exact F.len _ _ _ _ _ q1)
  rw [List.append_nil] at b
  have P1 := I1.pin p (List.mem_append_left _ hpn)
  have pin : L2H.PinOk X.stack H1 s1 p := ⟨P1.1, P1.2.1, fun m => (List.mem_cons.mp (I1.stkSub p.1 m)).elim P1.2.2.1 P1.2.2.2.1, P1.2.2.2.2⟩
  refine wpAny_call (codeAny_mono (F.run X.A X.stack s1 H1 ⟨us, []⟩ us vs Q (E σ) p hr hot pin I1.env0 b r q1) fun r s' hq => ?_)
  cases r with
  | error ex => exact hx σ pins H1 s1 ex s' I1 hq
  | ok fl =>
    cases fl with
    | ret u => exact I1.after hq
    | next => exact (show False from hq).elim
    | brk => exact (show False from hq).elim
    | cont => exact (show False from hq).elim
end
end DL
/-! Hot5: isinstance of the exception, and the rule for such a def. -/
namespace DL
open PySem PySem.Spec PyProof.Rows L2
section
variable {c : Cn} {W : Wx} {X : Cx}
def eIsE (b : Bool) (f : EV) : EV := fun ρ => (f ρ).bind fun k ρ1 => match k with
  | .res (.imm (.fn 999)) => .ok (.res (.imm (.bl b))) ρ1
  | _ => .bad
theorem dx_isE {x y : Str} {p q pos : Pos} {e : Expr} {f : EV} {a D C : Addr} {oe : Obj} {b : Bool} (hK : X.K = c.G.K) (CC : ExcC X.K D) (hz : Zc (.ref D) none oe) (hf : ∃ vs, oe.data = .fields vs) (hpn : (a, oe) ∈ X.pn) (hfa : c.G.fa 999 = some a)
    (hx : Gl X x) (hm : X.mg x = none) (hv : bootBuiltins x = some (.builtin "isinstance")) (hy : Gl X y) (hmy : X.mg y = some (.ref C)) (hk : PySem.W.kitOne X.K (.ref D) (.ref C) = some b) (ha : DX c W X e f)
    (hn : x ≠ "__name__" := by decide) (hdb : (x == ("__debug__" : Str)) = false := by decide) (hdby : (y == ("__debug__" : Str)) = false := by decide)
    (hs : starEach [e, .Name y q] X.env = (false, eval e X.env) :: starEach [.Name y q] X.env := by rfl) : DX c W X (.Call (.Name x p) [e, .Name y q] [] pos) (eIsE b f) := by
  refine PE.imp (pe_callB (call_isP CC hz hf hpn) hx hm hv (pa_cons ha (pa_cons (pe_glob hy hmy (v := .ref C) rfl hdby) pa_nil) hs) hn hdb hs) fun σ H Q ⟨ρ, A, S, h⟩ => cut S .refl ?_
  unfold eIsE at h
  rw [Out.post_bind] at h
  refine Out.post_imp h (fun k ρ1 q v H1 S1 F1 R1 => ?_) fun _ _ q => q
  split at q
  · have ev : v = .ref a := by
      cases R1 with
      | res R1 =>
        cases R1 with
        | imm R1 =>
          cases R1 with
          | fn h => rw [hfa] at h; cases h; rfl
    subst ev
    exact ⟨.ref C, .ref C, b, rfl, fun u hu => by cases hu; rfl, hk, fin1 q S1 F1 .refl (.imm (.bl b))⟩
  · exact q.elim
end
/-- the exception stands as the opaque value 999 -/
abbrev exG (G : Gm) (a : Addr) : Gm := { G with fa := fun n => if n = 999 then some a else G.fa n }
def spE (G : Gm) (D : Addr) (g : FnD) : SpE := fun p vs H Q E => Zc (.ref D) none p.2 ∧ (∃ us, p.2.data = .fields us) ∧ spF (exG G p.1) 1 g vs H Q E
section
variable {P : Program} {w : World} {K : PySem.W.Frag} {mg : Str → Option Value} {base : Heap} {G : Gm}
theorem okE {x qual : Str} {st : Stmt} {f D : Addr} {fd : FuncData} {N ps : List Str} {k nx : Nat} {b : SV} (F : Fun K x qual st f fd) (S : FnScope N ps (defScope st)) (hps : ps.length = 1) (hN : N.length = 1 + nx)
    (hbody : ∀ (p : Addr × Obj) (B : Option Addr) (cdv : Value) (A : Around) (outer : List PySem.Env) (s : Shared) (H : Hp) (E : XK), L2H.Hot1 A p → Zc (.ref D) none p.2 → (∃ us, p.2.data = .fields us) → L2H.RoomH k (A.deeper (envOfC qual (defScope st) s.heap.objs.size f cdv)) →
      DSs ⟨exG G p.1, H, B⟩ (bodyW E) (L2H.cxH (L2N.CX P w) P w K mg base N qual (defScope st) f cdv A outer s H E p) (defBody st) b) : FnE P w K mg base (L2N.CX P w) (k + 1) f fd ps (spE G D (mkF 1 nx b)) := by
  obtain ⟨v1, v2, v3, v4, v5, v6, cdv, v7, v8, rfl, hlk, hcode⟩ := F.ex
  refine fnE_of hlk hcode S (fun p vs H Q E h => ?_) fun A outer s H vs Q E p hot hr h => ?_
  · obtain ⟨_, _, _, B, om, us, ds, e, hl, _⟩ := h
    rw [hl, hps]
  · obtain ⟨hz, hf, h⟩ := h
    have hl : vs.length = 1 := by obtain ⟨_, B, om, us, ds, e, hl, _⟩ := h; exact hl
    obtain ⟨B, h⟩ := body_ok h
    refine ⟨_, hbody p B cdv A outer s H E hot hz hf hr, ?_⟩
    have e : N.length - vs.length = nx := by omega
    unfold L2.start
    rw [e]
    exact h
end
end DL
/-! Hot6: raise. -/
namespace DL
open PySem PySem.Spec PyProof.Rows L2
def sRaise (n : Nat) : SV := fun ρ => .exc ⟨n, none⟩ ρ
theorem ds_raise {c : Cn} {W : Wx} {X : Cx} {C : Addr} {bmB : List Value} {B newId initId : String} {x m : Str} {j n : Nat} {p p2 pos pos' : Pos} (F : ExcBaseFacts B newId initId bmB) (q : PySem.W.excIn X.K C bmB newId = true) (gC : X.mg x = some (.ref C)) (kC : PySem.W.keepIn X.K (.ref C) = true) (r : Raises X (.ref C)) (hg : Gl X x)
    (hc : X.calm = true) (tk : L2N.Takes X W) (ca : c.G.ca n = some (.ref C)) (hdb : (x == ("__debug__" : Str)) = false := by decide) : DS c W X (.Raise (some (.Call (.Name x p) [.Constant (.str m) j p2] [] pos)) none pos') (sRaise n) :=
  PS.imp (L2N.ps_raise hc tk (L2N.pmk_own F q gC kC r hg hdb)) fun D σ H ⟨ρ, A, S, h⟩ => h _ _ _ _ A S (fun _ _ e _ => e) (.plain ca)
end DL
/-! Lam0: the making of a lambda; no object that stood is gone behind it. -/
namespace DL
open PySem PySem.Spec PyProof.Rows L2 LamX
section
variable {X : Cx} {pins : List (Addr × Obj)} {σ : L2.St} {H : Hp} {s : Shared}
theorem lam_make3 {T : List (Addr × Str)} {c P : Addr} {params : Arguments} {body : Expr} {scope : Scope} {pos : Pos} {E : Value → Shared → Prop} {Q : Value → Shared → Prop}
    (J : Inv X pins σ H s) (B : TabB X.base X.mg c P) (kc : X.env.code = .ref c) (mT : (P, X.env.qual ++ "<lambda>") ∈ T) (uT : ∀ z ∈ T, z.1 = P → z.2 = X.env.qual ++ "<lambda>") (tT : Tabs T H)
    (nd : defaultsOf params X.env = ([], [])) (fr : ∀ y ∈ scope.names, y.2 = .free → ∃ c, X.env.cells.lookup y.1 = some c)
    (go : ∀ (f c' : Addr) (pm ctv : Value) (H1 : Hp) (s' : Shared), Inv X pins σ H1 s' → ExtN H H1 → (∀ b, H b ≠ none → H1 b ≠ none) → Tabs T H1 →
      s'.heap.get? f = some (PySem.W.kla_obj "<lambda>" (X.env.qual ++ "<lambda>") params body scope (cloFrom X.env.cells scope.names []) pm c' ctv) → H1 f = none → f ∉ frs X.stack → H1 c' = some (CodeO c' (X.env.qual ++ "<lambda>")) → Q (.ref f) s') :
    wpAny (model X.prog X.w) X.A (eval (.Lambda params body scope pos) X.env) Q E s := by
  have tP := tT _ mT
  obtain ⟨vs, eP, tri, code⟩ := tP
  have mods : s.heap.BuiltinsAt X.mg P := B.bm.keeps J.bk
  have gP : s.heap.get? P = some { cls := .none, data := .fields vs } := J.hok P _ eP
  have out : ∀ f, s.heap.objs.size ≤ f → f ∉ frs X.stack := fun f le z => by
    rcases List.mem_cons.mp (J.stkSub _ z) with e | e
    · have lt := J.lt
      rw [← e] at lt
      exact Nat.lt_irrefl _ (Nat.lt_of_lt_of_le lt le)
    · exact J.nofs le e
  refine PySem.W.kla_eval nd ?_
  cases look : codeAmong pos vs.toList with
  | some cv =>
    obtain ⟨c', rfl, co⟩ := code pos cv look
    refine PySem.W.kla_makeFunctionHit (mg := X.mg) (c := c) (P := P) (ps := vs) (closure_ok fr) J.ok.glob
      (J.mod.glob.keeps J.bk) kc (B.code.keeps J.bk) gP tri look mods fun ctv h2 tk keep size => ?_
    exact go h2.objs.size c' _ ctv H _ (J.kept fun b o e => Heap.get?_push_of_some _ (keep b o e)) (ExtN.refl H) (fun b z => z) tT
      (Heap.get?_push_size _ rfl) (J.hok.fresh size) (out _ size) co
  | none =>
    refine PySem.W.kla_makeFunction (mg := X.mg) (c := c) (P := P) (ps := vs) (closure_ok fr) J.ok.glob
      (J.mod.glob.keeps J.bk) kc (B.code.keeps J.bk) gP tri look B.gP mods fun c' ctv h2 tk keep ge lt rec tab => ?_
    obtain ⟨c2, oc, us, t, e2, g1, g2, g3⟩ := rec
    cases e2
    have size : s.heap.objs.size ≤ h2.objs.size := Nat.le_trans ge (Nat.le_of_lt lt)
    have new : H c' = none := J.hok.fresh ge
    have J1 := inv_table (t' := tk) (more := #[rawInt pos.line, rawInt pos.col, .ref c'])
      (h' := h2.push (PySem.W.kla_obj "<lambda>" (X.env.qual ++ "<lambda>") params body scope (cloFrom X.env.cells scope.names []) ((X.mg "__name__").getD .none) c' ctv)) J eP
      (fun b o z e => Heap.get?_push_of_some _ (keep b o z e)) (Heap.get?_push_of_some _ tab) ge ⟨oc, us, t, Heap.get?_push_of_some _ g1, g2, g3⟩
    have ext : ExtN H (upd (upd H P (.tbl (vs ++ #[rawInt pos.line, rawInt pos.col, .ref c']))) c' (CodeO c' (X.env.qual ++ "<lambda>"))) := fun b o e n => by
      rw [upd_ne (ne_of_none e new)]
      rw [upd_ne (fun z => n vs (Option.some.inj (e.symm.trans (by rw [z]; exact eP))))]
      exact e
    have dom : ∀ b, H b ≠ none → upd (upd H P (.tbl (vs ++ #[rawInt pos.line, rawInt pos.col, .ref c']))) c' (CodeO c' (X.env.qual ++ "<lambda>")) b ≠ none := fun b z => by
      by_cases q : b = c'
      · rw [q, upd_same]; exact fun z => nomatch z
      · rw [upd_ne q]
        by_cases q : b = P
        · rw [q, upd_same]; exact fun z => nomatch z
        · rw [upd_ne q]; exact z
    have toL : (vs ++ #[rawInt pos.line, rawInt pos.col, .ref c']).toList = vs.toList ++ [rawInt pos.line, rawInt pos.col, .ref c'] := by simp
    refine go h2.objs.size c' ((X.mg "__name__").getD .none) ctv _ _ J1 ext dom (fun z hz => ?_) (Heap.get?_push_size _ rfl) ?_ (out _ size) upd_same
    · by_cases q : z.1 = P
      · rw [uT z hz q, q]
        refine ⟨_, by rw [upd_ne (ne_of_none eP new), upd_same], by rw [toL]; exact PySem.TriplesOk_snoc _ _ _ _ tri, fun p2 v2 h => ?_⟩
        rw [toL] at h
        rcases among_app _ tri h with y | y
        · obtain ⟨c0, y1, y2⟩ := code p2 v2 y
          exact ⟨c0, y1, ext _ _ y2 codeO_ne⟩
        · exact ⟨c', y, upd_same⟩
      · obtain ⟨us2, a1, a2, a3⟩ := tT z hz
        refine ⟨us2, by rw [upd_ne (ne_of_none a1 new), upd_ne q]; exact a1, a2, fun p2 v2 h => ?_⟩
        obtain ⟨c0, y1, y2⟩ := a3 p2 v2 h
        exact ⟨c0, y1, ext _ _ y2 codeO_ne⟩
    · rw [upd_ne (Nat.ne_of_gt lt), upd_ne (Nat.ne_of_gt (Nat.lt_of_lt_of_le (Heap.lt_size gP) size))]
      exact J.hok.fresh size
end
end DL
/-! Lam1: a lambda given to a def that calls it inside a try; what is told of an exception: its context is None. -/
namespace DL
open PySem PySem.Spec PyProof.Rows L2 LamX
abbrev lamN (X : Cx) (A : Around) (outer : List PySem.Env) (s : Shared) (H : Hp) (E : XK) (scope : Scope) (f c' : Addr) : Cx :=
  (lamCx X A outer s H E scope f c').tr [] fun e s' => wpAny (model X.prog X.w) (A.deeper (lamEnv X scope s.heap.objs.size f c')) (leaving (lamEnv X scope s.heap.objs.size f c') e) (fun _ s'' => L2N.CX X.prog X.w outer H s E e s'') (fun e' s'' => L2N.CX X.prog X.w outer H s E e' s'') s'
section
variable {X : Cx} {pins : List (Addr × Obj)} {σ : L2.St} {H HZ : Hp} {s s1 : Shared}
theorem pe_actN {CXg : CXT} {Eg : XK} {Ng : List Str} {qg : Str} {sg : Scope} {g f c' : Addr} {cdg pm ctv : Value} {params : Arguments} {body : Expr} {scope : Scope} {k i : Nat} {a : Str} {pn : List (Addr × Obj)} {xe : Value → Shared → Prop} {W : WX} {E : XK} {tb : TE} {p1 p2 : Pos}
    (I : Inv X pins σ H s) (L : LamS X.env.scope scope) (gf : s.heap.get? f = some (PySem.W.kla_obj "<lambda>" (X.env.qual ++ "<lambda>") params body scope (cloFrom X.env.cells scope.names []) pm c' ctv)) (nf : H f = none) (nfr : f ∉ frs X.stack)
    (bind : bindArgs (PySem.W.kla_fn "<lambda>" (X.env.qual ++ "<lambda>") params body scope (cloFrom X.env.cells scope.names []) pm (.ref c') ctv) ⟨[], []⟩ = pure [])
    (tk : L2N.Takes ((cxOf CXg X.prog X.w X.K X.mg X.base Ng qg sg g cdg X.A X.stack s H Eg).tr pn xe) W) (hW : ∀ cls d σ' H', E cls d H' → W cls d σ' H') (hr : Room (k + 1) (X.A.deeper (envOfC qg sg s.heap.objs.size g cdg)))
    (hbody : ∀ (A : Around) (outer : List PySem.Env) (s : Shared) (H : Hp), Room k (A.deeper (lamEnv X scope s.heap.objs.size f c')) → PE (lamN X A outer s H E scope f c') body tb)
    (hN : Ng[i]? = some a) (hv : Vis sg a) (hd : (a == ("__debug__" : Str)) = false := by decide) (hcd : (a == ("__classdict__" : Str)) = false := by decide) :
    PE ((cxOf CXg X.prog X.w X.K X.mg X.base Ng qg sg g cdg X.A X.stack s H Eg).tr pn xe) (.Call (.Name a p1) [] [] p2) (fun σZ HZ Q => σZ[i]? = some (some (.ref f)) ∧ HZ c' = some (CodeO c' (X.env.qual ++ "<lambda>")) ∧ tb σ HZ Q) := by
  refine ⟨fun pinsZ sZ σZ HZ Q IZ ⟨hs, hc, ht⟩ => ?_⟩
  have name := (pe_var (X := (cxOf CXg X.prog X.w X.K X.mg X.base Ng qg sg g cdg X.A X.stack s H Eg).tr pn xe) (pos := p1) (i := i) hN hv hd hcd).run pinsZ sZ σZ HZ (fun v H1 => v = .ref f ∧ H1 = HZ) IZ ⟨.ref f, hs, rfl, rfl⟩
  refine wpAny_Call_Name_kw (thn name fun u s1 ⟨v, H1, I1, r1, e1, e2⟩ => ?_)
  subst e1
  rw [e2] at I1
  cases (show u = Value.ref f from r1)
  have g1 := I1.base.keep f _ gf nf nfr (fun z => nomatch (show f ∈ ([] : List Addr) from z))
  refine PySem.W.callWith_F0 ⟨_, _, _, _, g1⟩ ?_
  obtain ⟨⟨oc, vs, t, go, gd, gv⟩, _, _⟩ := I1.hok c' _ hc
  have hx : Passes (L2N.CX X.prog X.w) ((cxOf CXg X.prog X.w X.K X.mg X.base Ng qg sg g cdg X.A X.stack s H Eg).tr pn xe) E := L2N.passes_call tk hW
  have rc : codeAny (model X.prog X.w) (X.A.deeper (envOfC qg sg s.heap.objs.size g cdg)) (.call (.ref f) ⟨[], []⟩) (CR (L2N.CX X.prog X.w) (envOfC qg sg s.heap.objs.size g cdg :: X.stack) X.prog X.w HZ s1 Q E) s1 := by
    refine PySem.W.kla_callFunE hr.depth g1 rfl L.co L.gen rfl ⟨c', oc, vs, t, rfl, go, gd, gv⟩ ?_
    rw [bind]
    refine wpAny_pure (wpAny_newFunctionEnv (fun y hy => (L.own y hy).2) (fun y hy => absurd hy (by simp)) (fun h1 hns hsb => ⟨I1.nolimit.fresh _ hsb, ?_⟩) L.kind)
    show codeAny _ _ (.expr body (lamEnv X scope s1.heap.objs.size f c')) _ _
    have J : Inv (lamCx X (X.A.deeper (envOfC qg sg s.heap.objs.size g cdg)) (envOfC qg sg s.heap.objs.size g cdg :: X.stack) s1 HZ E scope f c') [] σ HZ { s1 with heap := h1, toks := s1.toks + ([] : List (Str × Value)).length } :=
      lam_start2 I L I1.env0 hr.hd I1.base hns fun b o e => hsb.extBut b o (Nat.ne_of_lt (Heap.lt_size e)) (Heap.get?_push_of_some _ e)
    refine PySem.W.kla_codeExpr (wpAny_mono ((hbody _ _ s1 HZ (hr.deeper _)).run [] _ _ HZ Q (J.toTry _) ht) (fun v s' hq => ?_) fun e s' hq => hq)
    obtain ⟨w', H', J', rv, q⟩ := hq
    exact ⟨w', H', J'.os, J'.bare, J'.base, J'.hok, rv, q⟩
  refine wpAny_call (codeAny_mono rc fun r s' hq => ?_)
  cases r with
  | error e => exact hx pinsZ σZ HZ s1 e s' I1 hq
  | ok fl =>
    cases fl with
    | ret u => exact I1.after hq
    | next => exact (show False from hq).elim
    | brk => exact (show False from hq).elim
    | cont => exact (show False from hq).elim
end
/-- the def that calls what it got -/
def GivesN (X : Cx) (Ng : List Str) (x : Str) (sg : Scope) (g : Addr) (cdg : Value) (bg : List Stmt) (a : Str) (q : Str) (TT : (XK → Hp → VK → Prop) → Hp → VK → Prop) : Prop :=
  ∀ (f c' : Addr) (s : Shared) (H : Hp) (Q : VK) (tl : XK → Hp → VK → Prop), Room 1 (X.A.deeper (envOfC x sg s.heap.objs.size g cdg)) →
    (∀ (W : WX) (pn : List (Addr × Obj)) (xe : Value → Shared → Prop) (E : XK) (p1 p2 : Pos), L2N.Takes ((cxOf C8.CX0 X.prog X.w X.K X.mg X.base Ng x sg g cdg X.A X.stack s H C8.E0).tr pn xe) W → (∀ cls d σ' H', E cls d H' → W cls d σ' H') →
      PE ((cxOf C8.CX0 X.prog X.w X.K X.mg X.base Ng x sg g cdg X.A X.stack s H C8.E0).tr pn xe) (.Call (.Name a p1) [] [] p2) (fun σZ HZ Q => σZ[0]? = some (some (.ref f)) ∧ HZ c' = some (CodeO c' q) ∧ tl E HZ Q)) →
    H c' = some (CodeO c' q) → TT tl H Q →
    ∃ t, PSs (cxOf C8.CX0 X.prog X.w X.K X.mg X.base Ng x sg g cdg X.A X.stack s H C8.E0).nox bg t ∧ t { nx := fun _ H' => Q .non H', rt := Q } (L2.start Ng [.ref f]) H
/-- the lambda made; no object that stood is gone -/
def tLamD (T : List (Addr × Str)) (TT : (XK → Hp → VK → Prop) → Hp → VK → Prop) (t : XK → TE) : TE := fun σ H Q =>
  Tabs T H ∧ ∀ H1, ExtN H H1 → (∀ b, H b ≠ none → H1 b ≠ none) → Tabs T H1 → TT (fun E H' Q' => t E σ H' Q') H1 Q
section
variable {X : Cx}
theorem pe_lamN {T : List (Addr × Str)} {TT : (XK → Hp → VK → Prop) → Hp → VK → Prop} {x a : Str} {g c P : Addr} {k : Nat} {pg : Arguments} {bg : List Stmt} {sg : Scope} {dV kV doc pm cdv ct oc : Value} {an od : Option Addr} {osl : Array (Option Value)} {Ng : List Str}
    {params : Arguments} {body : Expr} {scope : Scope} {t : XK → TE} {p lpos pos : Pos} (hg : Gl X x) (hm : X.mg x = some (.ref g)) (hk : PySem.W.keepIn X.K (.ref g) = true)
    (lk : X.K.lookup g = some ⟨oc, od, .func (PySem.W.fnOf x x pg bg sg dV kV doc pm an cdv ct), osl⟩) (hcg : PySem.W.codeIn X.K cdv x = true) (hb : L2.Binds X.K (PySem.W.fnOf x x pg bg sg dV kV doc pm an cdv ct) [a] []) (Sg : FnScope Ng [a] sg) (hNg : Ng[0]? = some a) (hva : Vis sg a)
    (hG : GivesN X Ng x sg g cdv bg a (X.env.qual ++ "<lambda>") TT) (TB : TabB X.base X.mg c P) (hcode : X.env.code = .ref c) (hmT : (P, X.env.qual ++ "<lambda>") ∈ T) (hu : ∀ p ∈ T, p.1 = P → p.2 = X.env.qual ++ "<lambda>") (hr : Room (k + 2) X.A) (L : LamS X.env.scope scope) (hdef : defaultsOf params X.env = ([], []))
    (hbind : ∀ (q : Str) (cl : List (Str × Addr)) (pm cv ctv : Value), bindArgs (PySem.W.kla_fn "<lambda>" q params body scope cl pm cv ctv) ⟨[], []⟩ = pure [])
    (hbody : ∀ (A : Around) (outer : List PySem.Env) (s : Shared) (H : Hp) (E : XK) (f c' : Addr), Room k (A.deeper (lamEnv X scope s.heap.objs.size f c')) → PE (lamN X A outer s H E scope f c') body (t E))
    (hdb : (x == ("__debug__" : Str)) = false := by decide) (hd : (a == ("__debug__" : Str)) = false := by decide) (hcd : (a == ("__classdict__" : Str)) = false := by decide) :
    PE X (.Call (.Name x p) [.Lambda params body scope lpos] [] pos) (tLamD T TT t) := by
  refine ⟨fun pins s σ H Q I ⟨hT, h⟩ => wpAny_Call_Name_kw (ld_glob I hg hm (PySem.W.callWith_K (h₀ := X.base) I.ok.mod.kin hk ?_ (by rfl) (by rfl)) hdb)⟩
  show wpAny _ _ (spliced ((false, eval (.Lambda params body scope lpos) X.env) :: backTo pos (starEach [] X.env))) _ _ s
  refine Calls.spliced_cons (lam_make3 I TB hcode hmT hu hT hdef (L.has I.ok) fun f c' pm' ctv H1 s' I1 eN dm T1 gf nf nfr hco => Calls.spliced_nil ⟨I1.kIn, ?_⟩)
  have rc : codeAny (model X.prog X.w) X.A (.call (.ref g) ⟨[.ref f], []⟩) (CR C8.CX0 X.stack X.prog X.w H1 s' Q C8.E0) s' := by
    refine run_ofS (N := Ng) (ps := [a]) (us := [.ref f]) (vs := [.ref f]) lk hcg Sg hr I1.env0 (hb s' [.ref f] I1.kIn rfl) (.cons rfl .nil) rfl fun hr' => ?_
    obtain ⟨t', ht', hq'⟩ := hG f c' s' H1 Q (fun E H' Q' => t E σ H' Q') (hr'.mono (by omega)) (fun W pn xe E p1 p2 tk hW => pe_actN (i := 0) I1 L gf nf nfr (hbind _ _ _ _ _) tk hW hr' (fun A outer s H hr2 => hbody A outer s H E f c' hr2) hNg hva hd hcd) hco (h H1 eN dm T1)
    exact ⟨t', ht'.nox, hq'⟩
  refine wpAny_call (codeAny_mono rc fun r s2 hq => ?_)
  cases r with
  | error e => exact (show False from hq).elim
  | ok fl =>
    cases fl with
    | ret u => exact I1.after hq
    | next => exact (show False from hq).elim
    | brk => exact (show False from hq).elim
    | cont => exact (show False from hq).elim
end
end DL
/-! Lam2: try: call() / except X as e: return g(e) / return ''. -/
namespace DL
open PySem PySem.Spec PyProof.Rows L2 LamX
/-- what is told of a call that may be refused -/
def TRef (G : Gm) (CS : Addr) (gE : Nat → FnD) (ret : Str) : (XK → Hp → VK → Prop) → Hp → VK → Prop := fun tl H Q =>
  tl (fun cls d H' => ∃ (n : Nat) (D : Addr), G.ca n = some cls ∧ cls = .ref D ∧ d = none ∧ PySem.W.exmOne G.K cls (.ref CS) = some true ∧ ∀ a, H' a = none → spF (exG G a) 1 (gE n) [.ref a] H' Q (fun _ _ _ => False)) H (fun _ H' => Q (.str ret) H')
theorem ref_gives {X : Cx} {G : Gm} {Ng : List Str} {x a e q ret er ec : Str} {sg : Scope} {g CS fE : Addr} {cdg : Value} {gE : Nat → FnD} {j : Nat} {p1 p2 p3 p4 p5 p6 p7 p8 p9 p10 p11 p12 : Pos} (hK : X.K = G.K)
    (hge : sg.names.lookup ec = some .globalImplicit) (hme : X.mg ec = some (.ref CS)) (hde : (ec == ("__debug__" : Str)) = false) (h0 : ∀ f : Addr, L2.start Ng [V.ref f] = [some (V.ref f), none]) (hNd : Ng.Nodup) (hN1 : Ng[1]? = some e) (hle : sg.names.lookup e = some .local)
    (hde2 : (e == ("__debug__" : Str)) = false) (hcd2 : (e == ("__classdict__" : Str)) = false)
    (hgr : sg.names.lookup er = some .globalImplicit) (hmr : X.mg er = some (.ref fE)) (hkr : PySem.W.keepIn X.K (.ref fE) = true) (hdr : (er == ("__debug__" : Str)) = false)
    (FE : ∀ n D, G.ca n = some (.ref D) → ∃ fd ps, FnE X.prog X.w X.K X.mg X.base (L2N.CX X.prog X.w) 1 fE fd ps (spE G D (gE n)) ∧ L2.Binds X.K fd ps []) :
    GivesN X Ng x sg g cdg [.Try [.Expr (.Call (.Name a p1) [] [] p2) p3] [.ExceptHandler (some (.Name ec p4)) (some e) [.Return (some (.Call (.Name er p5) [.Name e p6] [] p7)) p8] p9] [] [] p10, .Return (some (.Constant (.str ret) j p11)) p12] a q (TRef G CS gE ret) := by
  intro f c' s H Q tl hr act hc h
  have hgl : Gl (cxOf C8.CX0 X.prog X.w X.K X.mg X.base Ng x sg g cdg X.A X.stack s H C8.E0).nox ec := hge
  refine ⟨_, pss_cons (L2N.ps_try_as (X := (cxOf C8.CX0 X.prog X.w X.K X.mg X.base Ng x sg g cdg X.A X.stack s H C8.E0).nox) (c := .ref CS) (i := 1) (Wout := WF)
      (tb := fun W D σ H => ∃ Ech : XK, (∀ cls d σ' H', Ech cls d H' → W cls d σ' H') ∧ σ[0]? = some (some (.ref f)) ∧ H c' = some (CodeO c' q) ∧ tl Ech H (fun _ H' => D.nx σ H'))
      (ts := fun a cls d D σ H => ∃ (n : Nat) (DD : Addr), G.ca n = some cls ∧ cls = .ref DD ∧ d = none ∧ (∃ σ0 : Sg, σ = σ0.set 1 (some (.ref a))) ∧ spF (exG G a) 1 (gE n) [.ref a] H D.rt (fun _ _ _ => False))
      rfl rfl hNd hN1 hle ⟨hgl, hde, .inl hme⟩ takesF (fun W pn xe tk _ => ?_) (fun a oe cls d pn hz hf => ?_)) (pss_one (ps_ret pe_str)), ?_⟩
  · refine ⟨fun pins s' σ H' D I h' => ?_⟩
    obtain ⟨Ech, hW, h1, h2, h3⟩ := h'
    have hp := act W pn xe Ech p1 p2 tk hW
    exact (pss_one (ps_expr (pos := p3) hp)).run pins s' σ H' D I ⟨h1, h2, h3⟩
  · refine ⟨fun pins s' τ H' D I h' => ?_⟩
    obtain ⟨n, DD, hn, rfl, rfl, ⟨σ0, rfl⟩, h2⟩ := h'
    have len : (σ0.set 1 (some (V.ref a))).length = Ng.length := I.len
    have len2 : 1 < Ng.length := (List.getElem?_eq_some_iff.mp hN1).1
    have h1 : (σ0.set 1 (some (V.ref a)))[1]? = some (some (V.ref a)) := by
      rw [List.length_set] at len
      simp [len, len2]
    obtain ⟨fd, ps, F, B⟩ := FE n DD hn
    have hot : L2H.Hot1 (X.A.deeper (envOfC x sg s.heap.objs.size g cdg) |>.mark (some (.ref a))) (a, oe) := by
      obtain ⟨us, hu⟩ := hf
      exact ⟨rfl, us, hu, hz.2.2 us hu⟩
    have call := pe_callE (p := (a, oe)) (X := ((cxOf C8.CX0 X.prog X.w X.K X.mg X.base Ng x sg g cdg X.A X.stack s H C8.E0).nox).suite a ((a, oe) :: pn)) (pos := p7) (q := p5) (x := er) (E := fun σ => WE WF σ) F ⟨hr.dp, hr.un⟩ hot (List.mem_cons_self ..) hgr hmr hkr B (fun σ => L2N.passAt takesF σ)
      (pa_cons (pe_var (pos := p6) (i := 1) hN1 (.inl hle) hde2 hcd2) pa_nil) hdr
    refine (pss_one (ps_ret (pos := p8) call)).run pins s' _ H' D I ?_
    exact ⟨.ref a, h1, ⟨hz.1, hz.2.1⟩, hf, h2⟩
  · have e0 := h0 f
    refine ⟨_, fun cls d σ' H' ⟨n, D, h1, h2, h3, h4, h5⟩ => ⟨true, by rw [show (cxOf C8.CX0 X.prog X.w X.K X.mg X.base Ng x sg g cdg X.A X.stack s H C8.E0).nox.K = G.K from hK]; exact h4, fun _ a ha => ⟨n, D, h1, h2, h3, ⟨σ', rfl⟩, h5 a ha⟩, fun z => nomatch z⟩, by rw [e0]; rfl, hc, h⟩
end DL
/-! Ref1: a name that holds a def is called; f(lambda: ..) where f tells of the error. -/
namespace DL
open PySem PySem.Spec PyProof.Rows L2 LamX
/-- the defs that are handed on -/
abbrev FTab := Nat → Option (Nat × FnD)
def eCallV (FT : FTab) (i : Nat) (args : AV) : EV := fun ρ => match ρ[i]? with
  | some (.imm (.fn n)) => match FT n with
    | some (np, g) => eCall np g args ρ
    | none => .bad
  | _ => .bad
structure FtOk (G : Gm) (mg : Str → Option Value) (base : Heap) (k : Nat) (FT : FTab) : Prop where
  ok : ∀ n np g, FT n = some (np, g) → ∃ a, G.fa n = some a ∧ FnG G mg base k np a g
section
variable {c : Cn} {W : Wx} {X : Cx} {A : Addr → Prop} {ρ : Env} {σ : Sg} {H0 H H' H1 : Hp}
theorem dx_callV {FT : FTab} {i k : Nat} {x : Str} {p pos : Pos} {e : Expr} {es : List Expr} {fa : AV} (F : FtOk c.G X.mg X.base k FT) (hr : Room k X.A) (hN : X.N[i]? = some x) (hv : Vis X.env.scope x) (tk : L2N.Takes X W) (ha : DA c W X (e :: es) fa) (hP : X.prog = c.G.P := by rfl) (hw : X.w = c.G.w := by rfl) (hK : X.K = c.G.K := by rfl)
    (hdb : (x == ("__debug__" : Str)) = false := by decide) (hcd : (x == ("__classdict__" : Str)) = false := by decide) (he : starEach (e :: es) X.env = (false, eval e X.env) :: starEach es X.env := by rfl) (hpl : (backTo pos (starEach es X.env)).any (·.1) = false := by rfl) :
    DX c W X (.Call (.Name x p) (e :: es) [] pos) (eCallV FT i fa) := by
  refine ⟨fun pins s σ H Q I ⟨ρ, A, S, h⟩ => ?_⟩
  unfold eCallV at h
  split at h
  · rename_i n hs
    split at h
    · rename_i np g hg
      obtain ⟨a, ea, FG⟩ := F.ok n np g hg
      obtain ⟨v, hσ, r⟩ := S.slot i _ hs
      have ev : v = some (.ref a) := by
        cases r with
        | imm r =>
          cases r with
          | fn z => rw [ea] at z; cases z; rfl
      subst ev
      obtain ⟨fd, ps, h1, h2⟩ := FG.ex
      rw [← hP, ← hw, ← hK] at h1
      rw [← hK] at h2
      have kp := FG.kp
      rw [← hK] at kp
      have use := useCall (W := W) (c := c) (σ := σ) (H := H) (Q := Q) (f := g) (n := np) (args := fa) ⟨ρ, A, S, h⟩
      refine wpAny_Call_Name_kw (thn ((pe_var (pos := p) hN hv hdb hcd).run pins s σ H (fun v H1 => v = .ref a ∧ H1 = H) I ⟨.ref a, hσ, rfl, rfl⟩) fun u s1 ⟨v, H1, I1, r1, e1, e2⟩ => ?_)
      subst e1
      rw [e2] at I1
      cases r1
      refine PySem.W.callWith_K (h₀ := X.base) I.ok.mod.kin kp (thn (ha.run pos pins s1 σ _ _ I1 use) fun us s2 ⟨vs, H2, I2, r, q⟩ => ⟨I2.kIn, ?_⟩) he hpl
      exact run_fnS h1 hr h2 (L2N.passAt tk σ) I2 r q
    · exact h.elim
  · exact h.elim

/-- what is refused: the word; else no word -/
def eRef (gE : Nat → FnD) (f : EV) : EV := fun ρ => match f ρ with
  | .ok _ ρ1 => .ok (.res (.imm (.str []))) ρ1
  | .exc ⟨n, none⟩ ρ1 => match gE n none [.fn 999] with
    | .ret (.imm (.str cs)) none => .ok (.res (.imm (.str cs))) ρ1
    | _ => .bad
  | _ => .bad
/-- tables and code objects may come -/
theorem Stt.tab {H1 : Hp} (h : Stt c A ρ σ H) (eN : ExtN H H1) (dm : ∀ b, H b ≠ none → H1 b ≠ none) (T1 : Tabs c.G.T H1) : Stt c A ρ σ H1 ∧ Fr c.G.T (fun _ => False) H H1 := by
  have f : Fr c.G.T (fun _ => False) H H1 := ⟨fun b o e n _ => eN b o e n, dm, fun _ => T1⟩
  exact ⟨h.grow f, f⟩
theorem dx_refS {TT : (XK → Hp → VK → Prop) → Hp → VK → Prop} {e : Expr} {gE : Nat → FnD} {f : EV} {CS : Addr} (hTT : TT = TRef c.G CS gE (cstr []))
    (hca : ∀ n cls, c.G.ca n = some cls → ∃ D, cls = .ref D ∧ PySem.W.exmOne c.G.K cls (.ref CS) = some true)
    (h : PE X e (tLamD c.G.T TT fun E => tP c (bodyW E) f)) : DX c W X e (eRef gE f) := by
  subst hTT
  refine PE.imp h fun σ H Q ⟨ρ, A, S, h⟩ => ⟨S.tabs, fun H1 eN dm T1 => ?_⟩
  obtain ⟨S1, F1⟩ := S.tab eN dm T1
  refine ⟨ρ, A, S1, ?_⟩
  unfold eRef at h
  split at h
  · rename_i k ρ1 e
    rw [e]
    exact fun v H' S' F' _ => h _ H' S' (F1.any.trans F') (.res (.imm (.str [] rfl (by decide))))
  · rename_i n ρ1 e
    rw [e]
    intro cls d H' S' F' hx
    cases hx with
    | plain hc =>
      obtain ⟨D, rfl, hm⟩ := hca _ _ hc
      refine ⟨n, D, hc, rfl, rfl, hm, fun a ha => ?_⟩
      split at h
      · rename_i cs eg
        refine ⟨S'.tabs, none, none, [.ref a], [.fn 999], rfl, rfl, .none, .cons (.fn (show (if (999 : Nat) = 999 then some a else c.G.fa 999) = some a from if_pos rfl)) .nil, ?_⟩
        rw [eg]
        intro v H2 F2 _ r
        have Fd : Fr c.G.T (fun _ => False) H' H2 := F2.mono fun _ z => nomatch z
        have ri : Imm c.G H2 v (.str cs) := by
          cases r with
          | imm r => cases r with
            | str _ h1 h2 => exact .str _ h1 h2
        exact h v H2 (S'.grow Fd) ((F1.any.trans F').trans Fd.any) (.res (.imm ri))
      · exact h.elim
  · exact h.elim
/-- the def that refuses: what is known of it -/
structure RefOk (G : Gm) (mg : Str → Option Value) (base : Heap) (x : Str) (gE : Nat → FnD) : Prop where
  ex : ∃ (g CS : Addr) (a : Str) (Ng : List Str) (pg : Arguments) (bg : List Stmt) (sg : Scope) (dV kV doc pm cdv ct oc : Value) (an od : Option Addr) (osl : Array (Option Value)),
    mg x = some (.ref g) ∧ PySem.W.keepIn G.K (.ref g) = true ∧ G.K.lookup g = some ⟨oc, od, .func (PySem.W.fnOf x x pg bg sg dV kV doc pm an cdv ct), osl⟩ ∧ PySem.W.codeIn G.K cdv x = true ∧
    L2.Binds G.K (PySem.W.fnOf x x pg bg sg dV kV doc pm an cdv ct) [a] [] ∧ FnScope Ng [a] sg ∧ Ng[0]? = some a ∧ Vis sg a ∧ (a == ("__debug__" : Str)) = false ∧ (a == ("__classdict__" : Str)) = false ∧
    (∀ (X : Cx) (q : Str), X.prog = G.P → X.w = G.w → X.K = G.K → X.mg = mg → X.base = base → GivesN X Ng x sg g cdv bg a q (TRef G CS gE (cstr []))) ∧
    ∀ n cls, G.ca n = some cls → ∃ D, cls = .ref D ∧ PySem.W.exmOne G.K cls (.ref CS) = some true
/-- the table of the code objects of a def's lambdas -/
structure LamT (G : Gm) (mg : Str → Option Value) (base : Heap) (cc P : Addr) (q : Str) : Prop where
  tb : TabB base mg cc P
  mem : (P, q) ∈ G.T
  uni : ∀ z ∈ G.T, z.1 = P → z.2 = q
theorem dx_ref {x q : Str} {k : Nat} {gE : Nat → FnD} {cc P : Addr} {params : Arguments} {body : Expr} {scope : Scope} {f : EV} {p lpos pos : Pos} (R : RefOk c.G X.mg X.base x gE) (LT : LamT c.G X.mg X.base cc P q) (hr : Room (k + 2) X.A)
    (hbody : ∀ (A : Around) (outer : List PySem.Env) (s : Shared) (H : Hp) (E : XK) (f' c' : Addr), Room k (A.deeper (lamEnv X scope s.heap.objs.size f' c')) → DX c (bodyW E) (lamN X A outer s H E scope f' c') body f)
    (hq : X.env.qual ++ "<lambda>" = q := by rfl) (hg : Gl X x := by rfl) (hcode : X.env.code = .ref cc := by rfl) (L : LamS X.env.scope scope := by exact LamX.lamS_by (by first | decide +kernel | kernel_rfl | rfl)) (hdef : defaultsOf params X.env = ([], []) := by rfl)
    (hbind : ∀ (q : Str) (cl : List (Str × Addr)) (pm cv ctv : Value), bindArgs (PySem.W.kla_fn "<lambda>" q params body scope cl pm cv ctv) ⟨[], []⟩ = pure [] := by intros; rfl) (hP : X.prog = c.G.P := by rfl) (hw : X.w = c.G.w := by rfl) (hK : X.K = c.G.K := by rfl)
    (hdb : (x == ("__debug__" : Str)) = false := by decide) : DX c W X (.Call (.Name x p) [.Lambda params body scope lpos] [] pos) (eRef gE f) := by
  obtain ⟨g, CS, a, Ng, pg, bg, sg, dV, kV, doc, pm, cdv, ct, oc, an, od, osl, r1, r2, r3, r4, r5, r6, r7, r8, r9, r10, r11, r12⟩ := R.ex
  rw [← hK] at r2 r3 r4 r5
  refine dx_refS (TT := TRef c.G CS gE (cstr [])) rfl r12 (pe_lamN (TT := TRef c.G CS gE (cstr [])) (t := fun E => tP c (bodyW E) f) (k := k) hg r1 r2 r3 r4 r5 r6 r7 r8 (r11 X _ hP hw hK rfl rfl) LT.tb hcode (by rw [hq]; exact LT.mem) (fun z h e => by rw [hq]; exact LT.uni z h e) hr L hdef hbind (fun A outer s H E f' c' h => hbody A outer s H E f' c' h) hdb r9 r10)
end
section
variable {P : Program} {w : World} {K : PySem.W.Frag} {mg : Str → Option Value} {base : Heap} {G : Gm}
/-- as okD, of a def whose code object is known -/
theorem okL {x qual : Str} {st : Stmt} {f cc : Addr} {fd : FuncData} {N ps : List Str} {k np nx : Nat} {b : SV} (F : Fun K x qual st f fd) (hcc : fd.code = .ref cc) (S : FnScope N ps (defScope st)) (hps : ps.length = np) (hN : N.length = np + nx)
    (hbody : ∀ (B : Option Addr) (A : Around) (outer : List PySem.Env) (s : Shared) (H : Hp) (E : XK), Room k (A.deeper (envOfC qual (defScope st) s.heap.objs.size f (.ref cc))) →
      DSs ⟨G, H, B⟩ (bodyW E) (bodyX P w K mg base N qual st f (.ref cc) A outer s H E) (defBody st) b) : FnOk P w K mg base (L2N.CX P w) (k + 1) f fd ps (spF G np (mkF np nx b)) := by
  obtain ⟨v1, v2, v3, v4, v5, v6, cdv, v7, v8, rfl, hlk, hcode⟩ := F.ex
  have e : cdv = .ref cc := hcc
  subst e
  refine fn_of hlk hcode S (fun vs H Q E h => ?_) fun A outer s H vs Q E hr h => ?_
  · obtain ⟨_, B, om, us, ds, e, hl, _⟩ := h
    rw [hl, hps]
  · have hl : vs.length = np := by obtain ⟨_, B, om, us, ds, e, hl, _⟩ := h; exact hl
    obtain ⟨B, h⟩ := body_ok h
    refine ⟨_, hbody B A outer s H E hr, ?_⟩
    have e : N.length - vs.length = nx := by omega
    unfold L2.start
    rw [e]
    exact h
end
end DL
/-! Fin1: the law's own def; the end of a row with tables. -/
namespace DL
open PySem PySem.Spec PyProof.Rows L2 LamX
theorem pss_lock {X : Cx} {b : List Stmt} {t : TS} (h : PSs X b t) : PSs X b (fun D σ H => ∃ a u, H a = some u ∧ Mut (some u) ∧ ∀ o, t D σ (upd H a (.frz o u))) := by
  refine ⟨fun pins s σ H Q I ⟨a, u, ha, mu, q⟩ => ?_⟩
  obtain ⟨od, I2⟩ := I.lock ha mu
  exact h.run pins s σ _ Q I2 (q od)
def spLawT (G : Gm) : Sp := fun vs H Q _ => ∃ (a : Addr) (ns : List Int), vs = [.ref a] ∧ SqL G.K H a (ns.map V.int) ∧ ns.length ≤ 63 ∧ Tabs G.T H ∧ ∀ H', Q (.bl true) H'
section
variable {mg : Str → Option Value} {base : Heap} {G : Gm}
theorem okLaw {x qual : Str} {st : Stmt} {f : Addr} {fd : FuncData} {N ps : List Str} {k nx : Nat} {b : SV} (F : Fun G.K x qual st f fd) (S : FnScope N ps (defScope st)) (hps : ps.length = 1) (hN : N.length = 1 + nx)
    (hm : ∀ ns : List Int, ns.length ≤ 63 → mkF 1 nx b none [.seq ns] = .ret (.imm (.bl true)) none)
    (hbody : ∀ (B : Option Addr) (cdv : Value) (A : Around) (outer : List PySem.Env) (s : Shared) (H H2 : Hp) (E : XK), Room k (A.deeper (envOfC qual (defScope st) s.heap.objs.size f cdv)) →
      DSs ⟨G, H2, B⟩ (bodyW E) (bodyX G.P G.w G.K mg base N qual st f cdv A outer s H E) (defBody st) b) : FnOk G.P G.w G.K mg base (L2N.CX G.P G.w) (k + 1) f fd ps (spLawT G) := by
  obtain ⟨v1, v2, v3, v4, v5, v6, cdv, v7, v8, rfl, hlk, hcode⟩ := F.ex
  refine fn_of hlk hcode S (fun vs H Q E h => ?_) fun A outer s H vs Q E hr h => ?_
  · obtain ⟨a, ns, rfl, _⟩ := h
    rw [hps]; rfl
  · obtain ⟨a, ns, rfl, hS, hl, ht, kq⟩ := h
    have key : PSs (bodyX G.P G.w G.K mg base N qual st f cdv A outer s H E) (defBody st) (fun D σ H' => ∃ H2 B, tS ⟨G, H2, B⟩ (bodyW E) b D σ H') :=
      ⟨fun pins s' σ H' D I ⟨H2, B, h⟩ => (hbody B cdv A outer s H H2 E hr).run pins s' σ H' D I h⟩
    have e : N.length - [V.ref a].length = nx := by
      rw [hN]; simp
    have go : ∀ H2 : Hp, Tabs G.T H2 → SeqA G.K H2 a (ns.map V.int) → ∃ H3 B, tS ⟨G, H3, B⟩ (bodyW E) b { nx := fun _ H' => Q .non H', rt := Q } (L2.start N [V.ref a]) H2 := fun H2 ht2 hS2 => by
      have sp : spF G 1 (mkF 1 nx b) [V.ref a] H2 Q E := by
        refine ⟨ht2, none, none, [.ref a], [.seq ns], rfl, rfl, .none, .cons (.seq hS2) .nil, ?_⟩
        rw [hm ns hl]
        intro v H' _ _ r
        cases r with
        | imm r => cases r; exact kq H'
      obtain ⟨B, h⟩ := body_ok sp
      unfold L2.start
      rw [e]
      exact ⟨H2, B, h⟩
    rcases hS with (hS | hS) | hS
    · refine ⟨_, pss_lock key, a, _, hS, trivial, fun o => go _ (tabs_at (.inr ⟨_, hS, .lst⟩) (fun b e => upd_ne e) ht) (.inl ⟨o, upd_same⟩)⟩
    · exact ⟨_, key, go H ht (.inl hS)⟩
    · exact ⟨_, key, go H ht (.inr hS)⟩
end
/-- the end of a row, told of the tables -/
theorem walkT {l : PySem.W.OpenLaw} {n k : Nat} {q : Program} {loose : List Str} {XP : (Str → Option Value) → Heap → Prop} {YP : World → Heap → Prop} {d : DefRec} {K : Params → PySem.W.Frag} {CX : World → CXT} {x : Str}
    (most : l.most = some n) (small : n ≤ sizeLine) (nd : d.params.defaults = []) (room : Room k callerA) (inK : ∀ (w : World) (h : Heap), YP w h → (K w.params).In h)
    (F : ∀ (w : World) (mg : Str → Option Value) (fa : Addr) (h : Heap), (∀ {d : DefRec} {x : Str} {c P : Addr}, (recsOf q).find? (fun e => e.name == x) = some d → PySem.W.tabIn (K w.params) x = some (c, P) → PySem.W.CodeHd h c P ∧ h.get? P = some (PySem.W.tabObj #[])) →
      YP w h → (K w.params).In h → h.Ns mainGlobals mg → mg d.name = some (.ref fa) → LawAtS l w (K w.params) (CX w) k n x mg fa h)
    (out : ∀ (w : World) (H : Hp) (s : Shared) (e : Value) (s' : Shared), CX w [] H s (fun _ _ _ => False) e s' → False) :
    PySem.W.WalkO q loose XP YP l.row.toRowW d [] (fun f vs => PySem.call f vs) := by
  refine Att.attach_callB most nd fun w s0 s1 mg mb fa o pm cd doc a vs ns G Y ho hd hcd hmg hobj hints hlen hbits hg => ?_
  have kin := inK w _ Y
  have law := F w mg fa _ (fun r t => PySem.W.tab_of G.T kin r t) Y kin G.T.g hmg
  obtain ⟨fd, cs, sp, t1, t2, t3, b, hsp, run⟩ := law
  refine law_callTs kin G.T.g G.T.b G.T.builtins G.T.nolimit hg t1 t2 t3 G.T.bmain hobj hints (Nat.le_trans hlen small) room run b (fun H hH hS => ?_) fun H e s' => out w H s1 e s'
  exact hsp H a ns hlen hbits hH hS
end DL
/-! Fin2: the exception classes, the tables of defs: bundles of facts. -/
namespace DL
open PySem PySem.Spec PyProof.Rows L2 LamX
abbrev CaT := Nat → Option Value
def caN : CaT := fun _ => none
def caC (n : Nat) (C : Addr) (r : CaT) : CaT := fun m => if m = n then some (.ref C) else r m
theorem caN_all {P : Nat → Addr → Prop} : ∀ n D, caN n = some (.ref D) → P n D := fun n D h => nomatch h
theorem caC_all {P : Nat → Addr → Prop} {n : Nat} {C : Addr} {r : CaT} (h : P n C) (t : ∀ n D, r n = some (.ref D) → P n D) : ∀ m D, caC n C r m = some (.ref D) → P m D := fun m D e => by
  unfold caC at e
  split at e
  · rename_i q; subst q; cases e; exact h
  · exact t m D e
theorem caN_ref {P : Nat → Value → Prop} : ∀ n v, caN n = some v → P n v := fun n D h => nomatch h
theorem caC_ref {P : Nat → Value → Prop} {n : Nat} {C : Addr} {r : CaT} (h : P n (.ref C)) (t : ∀ n v, r n = some v → P n v) : ∀ m v, caC n C r m = some v → P m v := fun m D e => by
  unfold caC at e
  split at e
  · rename_i q; subst q; cases e; exact h
  · exact t m D e
abbrev FaT := Nat → Option Addr
def faN : FaT := fun _ => none
def faC (n : Nat) (a : Addr) (r : FaT) : FaT := fun m => if m = n then some a else r m
def ftN : FTab := fun _ => none
def ftC (n np : Nat) (g : FnD) (r : FTab) : FTab := fun m => if m = n then some (np, g) else r m
theorem FnG.mono {G : Gm} {mg : Str → Option Value} {base : Heap} {k k' n : Nat} {f : Addr} {g : FnD} (F : FnG G mg base k n f g) (h : k ≤ k') : FnG G mg base k' n f g := by
  obtain ⟨fd, ps, F1, F2⟩ := F.ex
  exact ⟨⟨fd, ps, ⟨F1.len, fun A outer s H args us vs Q E hr => F1.run A outer s H args us vs Q E (hr.mono h)⟩, F2⟩, F.kp⟩
section
variable {G : Gm} {mg : Str → Option Value} {base : Heap}
theorem ftN_ok {k : Nat} : FtOk G mg base k ftN := ⟨fun n np g h => nomatch h⟩
theorem ftC_ok {k n np : Nat} {g : FnD} {a : Addr} {r : FTab} (e : G.fa n = some a) (F : FnG G mg base k np a g) (t : FtOk G mg base k r) : FtOk G mg base k (ftC n np g r) := ⟨fun m np' g' h => by
  unfold ftC at h
  split at h
  · rename_i q; subst q; cases h; exact ⟨a, e, F⟩
  · exact t.ok m np' g' h⟩
def bmV : List Value := [.type "ValueError", .type "Exception", .type "BaseException", .type "object"]
/-- a class whose errors are raised -/
structure ExcK (G : Gm) (mg : Str → Option Value) (x : Str) (n : Nat) : Prop where
  ex : ∃ C, mg x = some (.ref C) ∧ PySem.W.excIn G.K C bmV "ValueError.__new__" = true ∧ PySem.W.keepIn G.K (.ref C) = true ∧ PySem.W.subIn G.K (.ref C) (.type "BaseException") = some true ∧ PySem.W.typeIn G.K (.ref C) = some (.type "type") ∧ G.ca n = some (.ref C)
/-- a class that isinstance asks for -/
structure ClsK (G : Gm) (mg : Str → Option Value) (x : Str) (i : Nat) : Prop where
  ex : ∃ C, mg x = some (.ref C) ∧ ∀ n D, G.ca n = some (.ref D) → PySem.W.kitOne G.K (.ref D) (.ref C) = some (n == i)
end
theorem ds_raiseK {c : Cn} {W : Wx} {X : Cx} {x m : Str} {j n : Nat} {p p2 pos pos' : Pos} (e : ExcK c.G X.mg x n) (tk : L2N.Takes X W) (hK : X.K = c.G.K := by rfl) (hg : Gl X x := by rfl) (hc : X.calm = true := by rfl) (hdb : (x == ("__debug__" : Str)) = false := by decide) :
    DS c W X (.Raise (some (.Call (.Name x p) [.Constant (.str m) j p2] [] pos)) none pos') (sRaise n) := by
  obtain ⟨C, h1, h2, h3, h4, h5, h6⟩ := e.ex
  rw [← hK] at h2 h3 h4 h5
  exact ds_raise (F := PySem.F.excBase_ValueError) h2 h1 h3 (raises_own h4 h5) hg hc tk h6 hdb
theorem dx_isK {c : Cn} {W : Wx} {X : Cx} {G : Gm} {x y : Str} {p q pos : Pos} {e : Expr} {f : EV} {D : Addr} {i n : Nat} {pe : Addr × Obj} (h : ClsK G X.mg y i) (hn : G.ca n = some (.ref D)) (CC : ExcC G.K D) (hz : Zc (.ref D) none pe.2) (hf : ∃ vs, pe.2.data = .fields vs) (hpn : pe ∈ X.pn) (hG : c.G = exG G pe.1)
    (hm : X.mg x = none) (ha : DX c W X e f) (hx : Gl X x := by rfl) (hy : Gl X y := by rfl) (hv : bootBuiltins x = some (.builtin "isinstance") := by exact bt_isinstance) (hK : X.K = G.K := by rfl)
    (hnn : x ≠ "__name__" := by decide) (hdb : (x == ("__debug__" : Str)) = false := by decide) (hdby : (y == ("__debug__" : Str)) = false := by decide)
    (hs : starEach [e, .Name y q] X.env = (false, eval e X.env) :: starEach [.Name y q] X.env := by rfl) : DX c W X (.Call (.Name x p) [e, .Name y q] [] pos) (eIsE (n == i) f) := by
  obtain ⟨C, h1, h2⟩ := h.ex
  obtain ⟨a, oe⟩ := pe
  exact dx_isE (a := a) (oe := oe) (by rw [hK, hG]) (hK ▸ CC) hz hf hpn (by rw [hG]; exact (show (if (999 : Nat) = 999 then some a else G.fa 999) = some a from if_pos rfl)) hx hm hv hy h1 (hK ▸ h2 n D hn) ha hnn hdb hdby hs
end DL
namespace DL
open PySem PySem.Spec PyProof.Rows L2 LamX
theorem kdl_nil {K : PySem.W.Frag} {w : World} {a : Addr} : KDL K w a [] [] := ⟨rfl, fun i k h => by simp at h⟩
theorem kdl_cons {K : PySem.W.Frag} {w : World} {a : Addr} {s : List Nat} {v : V} {ks : List D} {vals : List V} (h : KDct K w a (cstr s) v) (t : KDL K w a ks vals) : KDL K w a (.str s :: ks) (v :: vals) := ⟨by simp [t.1], fun i k e => by
  cases i with
  | zero => simp at e; subst e; exact ⟨s, v, rfl, rfl, h⟩
  | succ i => exact t.2 i k (by simpa using e)⟩
end DL
/-! Ev: evaluation of mirrors. -/
namespace DL
open PySem PySem.Spec PyProof.Rows L2
theorem isi_int_non  : (D.non).isi "int" = some false := (by decide +kernel : kitB "NoneType" "int" = some false)
theorem isi_int_bl (b : Bool) : (D.bl b).isi "int" = some true := (by decide +kernel : kitB "bool" "int" = some true)
theorem isi_int_int (i : Int) : (D.int i).isi "int" = some true := (by decide +kernel : kitB "int" "int" = some true)
theorem isi_int_str (cs : List Nat) : (D.str cs).isi "int" = some false := (by decide +kernel : kitB "str" "int" = some false)
theorem isi_int_tup (ds : List D) : (D.tup ds).isi "int" = some false := (by decide +kernel : kitB "tuple" "int" = some false)
theorem isi_int_lst (ds : List D) : (D.lst ds).isi "int" = some false := (by decide +kernel : kitB "list" "int" = some false)
theorem isi_bool_non  : (D.non).isi "bool" = some false := (by decide +kernel : kitB "NoneType" "bool" = some false)
theorem isi_bool_bl (b : Bool) : (D.bl b).isi "bool" = some true := (by decide +kernel : kitB "bool" "bool" = some true)
theorem isi_bool_int (i : Int) : (D.int i).isi "bool" = some false := (by decide +kernel : kitB "int" "bool" = some false)
theorem isi_bool_str (cs : List Nat) : (D.str cs).isi "bool" = some false := (by decide +kernel : kitB "str" "bool" = some false)
theorem isi_bool_tup (ds : List D) : (D.tup ds).isi "bool" = some false := (by decide +kernel : kitB "tuple" "bool" = some false)
theorem isi_bool_lst (ds : List D) : (D.lst ds).isi "bool" = some false := (by decide +kernel : kitB "list" "bool" = some false)
theorem isi_str_non  : (D.non).isi "str" = some false := (by decide +kernel : kitB "NoneType" "str" = some false)
theorem isi_str_bl (b : Bool) : (D.bl b).isi "str" = some false := (by decide +kernel : kitB "bool" "str" = some false)
theorem isi_str_int (i : Int) : (D.int i).isi "str" = some false := (by decide +kernel : kitB "int" "str" = some false)
theorem isi_str_str (cs : List Nat) : (D.str cs).isi "str" = some true := (by decide +kernel : kitB "str" "str" = some true)
theorem isi_str_tup (ds : List D) : (D.tup ds).isi "str" = some false := (by decide +kernel : kitB "tuple" "str" = some false)
theorem isi_str_lst (ds : List D) : (D.lst ds).isi "str" = some false := (by decide +kernel : kitB "list" "str" = some false)
theorem isi_tuple_non  : (D.non).isi "tuple" = some false := (by decide +kernel : kitB "NoneType" "tuple" = some false)
theorem isi_tuple_bl (b : Bool) : (D.bl b).isi "tuple" = some false := (by decide +kernel : kitB "bool" "tuple" = some false)
theorem isi_tuple_int (i : Int) : (D.int i).isi "tuple" = some false := (by decide +kernel : kitB "int" "tuple" = some false)
theorem isi_tuple_str (cs : List Nat) : (D.str cs).isi "tuple" = some false := (by decide +kernel : kitB "str" "tuple" = some false)
theorem isi_tuple_tup (ds : List D) : (D.tup ds).isi "tuple" = some true := (by decide +kernel : kitB "tuple" "tuple" = some true)
theorem isi_tuple_lst (ds : List D) : (D.lst ds).isi "tuple" = some false := (by decide +kernel : kitB "list" "tuple" = some false)
theorem isi_list_non  : (D.non).isi "list" = some false := (by decide +kernel : kitB "NoneType" "list" = some false)
theorem isi_list_bl (b : Bool) : (D.bl b).isi "list" = some false := (by decide +kernel : kitB "bool" "list" = some false)
theorem isi_list_int (i : Int) : (D.int i).isi "list" = some false := (by decide +kernel : kitB "int" "list" = some false)
theorem isi_list_str (cs : List Nat) : (D.str cs).isi "list" = some false := (by decide +kernel : kitB "str" "list" = some false)
theorem isi_list_tup (ds : List D) : (D.tup ds).isi "list" = some false := (by decide +kernel : kitB "tuple" "list" = some false)
theorem isi_list_lst (ds : List D) : (D.lst ds).isi "list" = some true := (by decide +kernel : kitB "list" "list" = some true)

/-! ### one step at a time: the rest is not looked at -/
def SOut.seq (o : SOut) (g : SV) : SOut := match o with
  | .nx ρ => g ρ
  | o => o
theorem bind_ok {α β : Type} {a : α} {ρ : Env} {k : α → Env → Out β} : (Out.ok a ρ).bind k = k a ρ := (rfl)
theorem bind_exc {α β : Type} {x : Ex} {ρ : Env} {k : α → Env → Out β} : (Out.exc x ρ : Out α).bind k = .exc x ρ := (rfl)
theorem bind_bad {α β : Type} {k : α → Env → Out β} : (Out.bad : Out α).bind k = .bad := (rfl)
theorem seq_nx {ρ : Env} {g : SV} : (SOut.nx ρ).seq g = g ρ := (rfl)
theorem seq_rt {r : Res} {ρ : Env} {g : SV} : (SOut.rt r ρ).seq g = .rt r ρ := (rfl)
theorem seq_bk {ρ : Env} {g : SV} : (SOut.bk ρ).seq g = .bk ρ := (rfl)
theorem seq_ct {ρ : Env} {g : SV} : (SOut.ct ρ).seq g = .ct ρ := (rfl)
theorem seq_exc {x : Ex} {ρ : Env} {g : SV} : (SOut.exc x ρ).seq g = .exc x ρ := (rfl)
theorem seq_bad {g : SV} : (SOut.bad).seq g = .bad := (rfl)
theorem sSeq_ev {f g : SV} {ρ : Env} : sSeq f g ρ = (f ρ).seq g := by unfold sSeq SOut.seq; cases f ρ <;> rfl
def Out.sb {α : Type} (o : Out α) (k : α → Env → SOut) : SOut := match o with
  | .ok a ρ => k a ρ
  | .exc x ρ => .exc x ρ
  | .bad => .bad
theorem sb_ok {α : Type} {a : α} {ρ : Env} {k : α → Env → SOut} : (Out.ok a ρ).sb k = k a ρ := (rfl)
theorem sb_exc {α : Type} {x : Ex} {ρ : Env} {k : α → Env → SOut} : (Out.exc x ρ : Out α).sb k = .exc x ρ := (rfl)
theorem sb_bad {α : Type} {k : α → Env → SOut} : (Out.bad : Out α).sb k = .bad := (rfl)
theorem stB_ev {α : Type} {f : Env → Out α} {k : α → Env → SOut} {ρ : Env} : stB f k ρ = (f ρ).sb k := by unfold stB Out.sb; cases f ρ <;> rfl
/-- a branch -/
def br {α : Type} (b : Bool) (x y : α) : α := match b with
  | true => x
  | false => y
theorem br_t {α : Type} {x y : α} : br true x y = x := (rfl)
theorem br_f {α : Type} {x y : α} : br false x y = y := (rfl)
/-- a branch of two ways on -/
def brK {α : Type} (b : Bool) (f g : Env → α) (ρ : Env) : α := match b with
  | true => f ρ
  | false => g ρ
theorem brK_t {α : Type} {f g : Env → α} {ρ : Env} : brK true f g ρ = f ρ := (rfl)
theorem brK_f {α : Type} {f g : Env → α} {ρ : Env} : brK false f g ρ = g ρ := (rfl)
/-- an option's value -/
def oB {α β : Type} (o : Option α) (k : α → Out β) : Out β := match o with
  | some x => k x
  | none => .bad
theorem oB_some {α β : Type} {x : α} {k : α → Out β} : oB (some x) k = k x := (rfl)
theorem oB_none {α β : Type} {k : α → Out β} : oB none k = .bad := (rfl)
def oS {α : Type} (o : Option α) (k : α → SOut) : SOut := match o with
  | some x => k x
  | none => .bad
theorem oS_some {α : Type} {x : α} {k : α → SOut} : oS (some x) k = k x := (rfl)
theorem oS_none {α : Type} {k : α → SOut} : oS none k = .bad := (rfl)
def oO {α β : Type} (o : Option α) (k : α → Option β) : Option β := match o with
  | some x => k x
  | none => none
theorem oO_some {α β : Type} {x : α} {k : α → Option β} : oO (some x) k = k x := (rfl)
theorem oO_none {α β : Type} {k : α → Option β} : oO none k = none := (rfl)
/-- which kind a handle is -/
def pkI (k : Pk) : Option D := match k with
  | .res (.imm d) => some d
  | _ => none
theorem pkI_imm {d : D} : pkI (.res (.imm d)) = some d := (rfl)
theorem pkI_new {m : M} : pkI (.res (.new m)) = none := (rfl)
theorem pkI_at {i : Nat} : pkI (.at i) = none := (rfl)
def dBl (d : D) : Option Bool := match d with
  | .bl b => some b
  | _ => none
theorem dBl_bl {b : Bool} : dBl (.bl b) = some b := (rfl)
def dInt (d : D) : Option Int := match d with
  | .int b => some b
  | _ => none
theorem dInt_int {b : Int} : dInt (.int b) = some b := (rfl)
def slotM (s : Option Slot) : Option M := s.bind Slot.obj?
theorem slotM_own {m : M} : slotM (some (.own m)) = some m := (rfl)
theorem slotM_bor {m : M} : slotM (some (.bor m)) = some m := (rfl)
def mLst (m : M) : Option (List D) := match m with
  | .lst ds => some ds
  | _ => none
theorem mLst_lst {ds : List D} : mLst (.lst ds) = some ds := (rfl)

def ifK (f g : SV) : Bool → SV := fun b ρ => brK b f g ρ
theorem ifK_ev {f g : SV} {b : Bool} {ρ : Env} : ifK f g b ρ = brK b f g ρ := (rfl)
theorem sIf_ev {t : TV} {f g : SV} {ρ : Env} : sIf t f g ρ = (t ρ).sb (ifK f g) := by unfold sIf; rw [stB_ev]; congr; funext b ρ1; cases b <;> rfl
theorem sNext_ev {ρ : Env} : sNext ρ = .nx ρ := (rfl)
def retS (s : Option Slot) (ρ : Env) : SOut := match s with
  | some (.own m) => .rt (.new m) ρ
  | _ => .bad
def retK : Pk → SV := fun k ρ => match k with
  | .res r => .rt r ρ
  | .at i => retS ρ[i]? ρ
theorem sRet_ev {f : EV} {ρ : Env} : sRet f ρ = (f ρ).sb retK := by unfold sRet; rw [stB_ev]; rfl
theorem retK_res {r : Res} {ρ : Env} : retK (.res r) ρ = .rt r ρ := (rfl)
theorem retK_at {i : Nat} {ρ : Env} : retK (.at i) ρ = retS ρ[i]? ρ := (rfl)
theorem retS_own {ρ : Env} {m : M} : retS (some (.own m)) ρ = .rt (.new m) ρ := (rfl)
theorem sRetN_ev {ρ : Env} : sRetN ρ = .rt (.imm .non) ρ := (rfl)
theorem sSet_ev {i : Nat} {f : EV} {ρ : Env} : sSet i f ρ = (f ρ).sb (setK i) := stB_ev
theorem setK_imm {i : Nat} {d : D} {ρ : Env} : setK i (.res (.imm d)) ρ = .nx (ρ.set i (.imm d)) := (rfl)
theorem setK_new {i : Nat} {m : M} {ρ : Env} : setK i (.res (.new m)) ρ = .nx (ρ.set i (.own m)) := (rfl)
theorem sFor_ev {it : IV} {g : GV} {b : SV} {ρ : Env} : sFor it g b ρ = (it ρ).sb (forD g b) := stB_ev
def dropK : Pk → SV := fun _ ρ => .nx ρ
theorem dropK_ev {k : Pk} {ρ : Env} : dropK k ρ = .nx ρ := (rfl)
theorem sDrop_ev {f : EV} {ρ : Env} : sDrop f ρ = (f ρ).sb dropK := stB_ev
def appK (i : Nat) : Pk → SV := fun k ρ1 => oS (pkI k) fun d => oS (slotM ρ1[i]?) fun m => oS (mLst m) fun ds => br (decide (ds.length < sizeLine)) (.nx (ρ1.modify i (Slot.put (.lst (ds ++ [d]))))) .bad
theorem lstAt_ev {i : Nat} {ρ : Env} : lstAt ρ i = oO (slotM ρ[i]?) mLst := by
  unfold lstAt slotM
  cases (ρ[i]?).bind Slot.obj? with
  | none => rfl
  | some m => cases m <;> rfl
theorem sApp_ev {i : Nat} {f : EV} {ρ : Env} : sApp i f ρ = oS (oO (slotM ρ[i]?) mLst) fun _ => (f ρ).sb (appK i) := by
  unfold sApp
  rw [lstAt_ev]
  cases oO (slotM ρ[i]?) mLst with
  | none => rfl
  | some ds0 =>
    show stB f _ ρ = _
    rw [stB_ev]
    show _ = (f ρ).sb (appK i)
    congr
    funext k ρ1
    unfold appK
    rw [lstAt_ev]
    cases k with
    | «at» j => rfl
    | res r =>
      cases r with
      | new m => rfl
      | pair d m => rfl
      | imm d =>
        show _ = oS (slotM ρ1[i]?) _
        cases slotM ρ1[i]? with
        | none => rfl
        | some m => 
          show _ = oS (mLst m) _
          show (match Pk.res (Res.imm d), mLst m with | .res (.imm d), some ds => _ | _, _ => _) = _
          cases mLst m with
          | none => rfl
          | some ds =>
            show (if ds.length < sizeLine then _ else _) = br (decide (ds.length < sizeLine)) _ _
            by_cases hl : ds.length < sizeLine
            · rw [if_pos hl, decide_eq_true hl]; rfl
            · rw [if_neg hl, decide_eq_false hl]; rfl
def setI (i : Nat) (d : D) : Pk → SV := fun k ρ2 => oS (pkI k) fun e => oS (dInt e) fun z => oS (slotM ρ2[i]?) fun m => oS (mLst m) fun ds => oS (ixN ds.length z) fun j => .nx (ρ2.modify i (Slot.put (.lst (ds.set j d))))
def setX (i : Nat) (fi : EV) : Pk → SV := fun k ρ1 => oS (pkI k) fun d => oS (oO (slotM ρ1[i]?) mLst) fun _ => (fi ρ1).sb (setI i d)
theorem sSetIx_ev {i : Nat} {fi fe : EV} {ρ : Env} : sSetIx i fi fe ρ = (fe ρ).sb (setX i fi) := by
  unfold sSetIx
  rw [stB_ev]
  congr
  funext k ρ1
  unfold setX
  rw [lstAt_ev]
  cases k with
  | «at» j => rfl
  | res r =>
    cases r with
    | new m => rfl
    | pair d m => rfl
    | imm d =>
      show (match oO (slotM ρ1[i]?) mLst with | some _ => _ | none => _) = oS (oO (slotM ρ1[i]?) mLst) _
      cases oO (slotM ρ1[i]?) mLst with
      | none => rfl
      | some ds0 =>
        show stB fi _ ρ1 = (fi ρ1).sb _
        rw [stB_ev]
        congr
        funext ki ρ2
        unfold setI
        rw [lstAt_ev]
        cases ki with
        | «at» j => rfl
        | res r =>
          cases r with
          | new m => rfl
          | pair d m => rfl
          | imm e =>
            cases e with
            | int z =>
              show (match Pk.res (.imm (.int z)), oO (slotM ρ2[i]?) mLst with | .res (.imm (.int z)), some ds => _ | _, _ => _) = oS (slotM ρ2[i]?) _
              cases slotM ρ2[i]? with
              | none => rfl
              | some m =>
                show (match Pk.res (.imm (.int z)), mLst m with | .res (.imm (.int z)), some ds => _ | _, _ => _) = oS (mLst m) _
                cases mLst m with
                | none => rfl
                | some ds => show (match ixN ds.length z with | some j => _ | none => _) = oS (ixN ds.length z) _; cases ixN ds.length z <;> rfl
            | _ => rfl
def asgK (g : GV) : Pk → SV := fun k ρ => oS (pkI k) fun d => oS (g d ρ) fun ρ' => .nx ρ'
theorem sAsg_ev {f : EV} {g : GV} {ρ : Env} : sAsg f g ρ = (f ρ).sb (asgK g) := by
  unfold sAsg
  rw [stB_ev]
  congr
  funext k ρ1
  cases k with
  | «at» j => rfl
  | res r =>
    cases r with
    | new m => rfl
    | pair d m => rfl
    | imm d => unfold asgK; show (match g d ρ1 with | some ρ' => _ | none => _) = oS (g d ρ1) _; cases g d ρ1 <;> rfl
def parK (i j : Nat) : List Pk → SV := fun ks ρ => match ks with
  | [.res (.imm d), .res (.imm e)] => .nx ((ρ.set i (.imm d)).set j (.imm e))
  | _ => .bad
theorem sPar_ev {i j : Nat} {f : AV} {ρ : Env} : sPar i j f ρ = (f ρ).sb (parK i j) := by unfold sPar; rw [stB_ev]; rfl
theorem parK_ev {i j : Nat} {d e : D} {ρ : Env} : parK i j [.res (.imm d), .res (.imm e)] ρ = .nx ((ρ.set i (.imm d)).set j (.imm e)) := (rfl)
def par3K (i j l : Nat) : List Pk → SV := fun ks ρ => match ks with
  | [.res (.imm d), .res (.imm e), .res (.imm g)] => .nx (((ρ.set i (.imm d)).set j (.imm e)).set l (.imm g))
  | _ => .bad
theorem sPar3_ev {i j l : Nat} {f : AV} {ρ : Env} : sPar3 i j l f ρ = (f ρ).sb (par3K i j l) := by unfold sPar3; rw [stB_ev]; rfl
theorem par3K_ev {i j l : Nat} {d e g : D} {ρ : Env} : par3K i j l [.res (.imm d), .res (.imm e), .res (.imm g)] ρ = .nx (((ρ.set i (.imm d)).set j (.imm e)).set l (.imm g)) := (rfl)

/-! ### expressions -/
def vK (s : Option Slot) (i : Nat) (ρ : Env) : Out Pk := match s with
  | some (.imm d) => .ok (.res (.imm d)) ρ
  | some (.own _) => .ok (.at i) ρ
  | some (.bor _) => .ok (.at i) ρ
  | _ => .bad
theorem eV_ev {i : Nat} {ρ : Env} : eV i ρ = vK ρ[i]? i ρ := (rfl)
theorem vK_imm {i : Nat} {ρ : Env} {d : D} : vK (some (.imm d)) i ρ = .ok (.res (.imm d)) ρ := (rfl)
theorem vK_own {i : Nat} {ρ : Env} {m : M} : vK (some (.own m)) i ρ = .ok (.at i) ρ := (rfl)
theorem vK_bor {i : Nat} {ρ : Env} {m : M} : vK (some (.bor m)) i ρ = .ok (.at i) ρ := (rfl)
theorem eC_ev {d : D} {ρ : Env} : eC d ρ = .ok (.res (.imm d)) ρ := (rfl)
theorem view_res {ρ : Env} {r : Res} : (Pk.res r).view ρ = r.vw := (rfl)
theorem view_at {ρ : Env} {i : Nat} : (Pk.at i).view ρ = oO (slotM ρ[i]?) fun m => some m.toD := by
  show (ρ[i]?).bind _ = _
  unfold slotM
  cases ρ[i]? with
  | none => rfl
  | some s => cases s <;> rfl
theorem toD_imm {d : D} : (Res.imm d).vw = some d := (rfl)
theorem toD_new {m : M} : (Res.new m).vw = some m.toD := (rfl)
theorem toD_lst {ds : List D} : (M.lst ds).toD = .lst ds := (rfl)
theorem toD_dct {ks vs : List D} : (M.dct ks vs).toD = .dct ks vs := (rfl)
theorem toD_dcn {ks vs : List D} : (M.dcn ks vs).toD = .dcn ks vs := (rfl)
theorem ofRes_ev {o : Option Res} {ρ : Env} : ofRes o ρ = oB o fun r => .ok (.res r) ρ := by cases o <;> rfl
def k1 (g : D → Option Res) (a : Pk) (ρ : Env) : Out Pk := oB (a.view ρ) fun x => oB (g x) fun r => .ok (.res r) ρ
theorem k1_ev {g : D → Option Res} {a : Pk} {ρ : Env} : k1 g a ρ = oB (a.view ρ) fun x => oB (g x) fun r => .ok (.res r) ρ := (rfl)
def k2 (g : D → D → Option Res) (a b : Pk) (ρ : Env) : Out Pk := oB (a.view ρ) fun x => oB (b.view ρ) fun y => oB (g x y) fun r => .ok (.res r) ρ
theorem k2_ev {g : D → D → Option Res} {a b : Pk} {ρ : Env} : k2 g a b ρ = oB (a.view ρ) fun x => oB (b.view ρ) fun y => oB (g x y) fun r => .ok (.res r) ρ := (rfl)
theorem k2_eq {g : D → D → Option Res} {a b : Pk} {ρ : Env} : (match a.view ρ, b.view ρ with | some x, some y => ofRes (g x y) ρ | _, _ => Out.bad) = k2 g a b ρ := by
  unfold k2
  cases a.view ρ with
  | none => rfl
  | some x => cases b.view ρ with
    | none => rfl
    | some y => exact ofRes_ev
theorem k1_eq {g : D → Option Res} {a : Pk} {ρ : Env} : (match a.view ρ with | some x => ofRes (g x) ρ | none => Out.bad) = k1 g a ρ := by
  unfold k1
  cases a.view ρ with
  | none => rfl
  | some x => exact ofRes_ev
def e2K (g : D → D → Option Res) (f2 : EV) : Pk → EV := fun a ρ1 => (f2 ρ1).bind (k2 g a)
theorem e2K_ev {g : D → D → Option Res} {f2 : EV} {a : Pk} {ρ1 : Env} : e2K g f2 a ρ1 = (f2 ρ1).bind (k2 g a) := (rfl)
theorem e2_ev {g : D → D → Option Res} {f1 f2 : EV} {ρ : Env} : e2 g f1 f2 ρ = (f1 ρ).bind (e2K g f2) := by
  unfold e2
  congr
  funext a ρ1
  unfold e2K
  congr
  funext b ρ2
  exact k2_eq
theorem e1_ev {g : D → Option Res} {f : EV} {ρ : Env} : e1 g f ρ = (f ρ).bind (k1 g) := by
  unfold e1
  congr
  funext a ρ1
  exact k1_eq
def notG (d : D) : Option Res := match d with
  | .bl b => some (.imm (.bl (!b)))
  | _ => none
theorem notG_bl {b : Bool} : notG (.bl b) = some (.imm (.bl (!b))) := (rfl)
theorem eNot_ev {f : EV} {ρ : Env} : eNot f ρ = (f ρ).bind (k1 notG) := e1_ev
def isiG (T : String) (d : D) : Option Res := oO (d.isi T) fun b => some (.imm (.bl b))
theorem isiG_ev {T : String} {d : D} : isiG T d = oO (d.isi T) fun b => some (.imm (.bl b)) := (rfl)
theorem eIsi_ev {T : String} {f : EV} {ρ : Env} : eIsi T f ρ = (f ρ).bind (k1 (isiG T)) := by
  unfold eIsi
  congr
  funext a ρ1
  unfold k1
  cases a.view ρ1 with
  | none => rfl
  | some x => show ofRes _ _ = oB (isiG T x) _; unfold isiG; cases x.isi T <;> rfl
def andK (g : EV) : Pk → EV := fun k ρ1 => oB (pkI k) fun d => oB (dBl d) fun b => brK b g (eC (.bl false)) ρ1
def orK (g : EV) : Pk → EV := fun k ρ1 => oB (pkI k) fun d => oB (dBl d) fun b => brK b (eC (.bl true)) g ρ1
theorem eAnd_ev {f g : EV} {ρ : Env} : eAnd f g ρ = (f ρ).bind (andK g) := by
  unfold eAnd
  congr
  funext k ρ1
  cases k with
  | «at» j => rfl
  | res r =>
    cases r with
    | new m => rfl
    | pair d m => rfl
    | imm d => cases d with
      | bl b => cases b <;> rfl
      | _ => rfl
theorem eOr_ev {f g : EV} {ρ : Env} : eOr f g ρ = (f ρ).bind (orK g) := by
  unfold eOr
  congr
  funext k ρ1
  cases k with
  | «at» j => rfl
  | res r =>
    cases r with
    | new m => rfl
    | pair d m => rfl
    | imm d => cases d with
      | bl b => cases b <;> rfl
      | _ => rfl
def eifK (f g : EV) : Bool → EV := fun b ρ1 => brK b f g ρ1
theorem eifK_ev {f g : EV} {b : Bool} {ρ1 : Env} : eifK f g b ρ1 = brK b f g ρ1 := (rfl)
theorem eIf_ev {t : TV} {f g : EV} {ρ : Env} : eIf t f g ρ = (t ρ).bind (eifK f g) := by
  unfold eIf
  congr
  funext b ρ1
  cases b <;> rfl
def bK : Pk → Env → Out Bool := fun k ρ1 => oB (pkI k) fun d => oB (dBl d) fun b => .ok b ρ1
theorem bT_ev {f : EV} {ρ : Env} : bT f ρ = (f ρ).bind bK := by
  unfold bT
  congr
  funext k ρ1
  cases k with
  | «at» j => rfl
  | res r =>
    cases r with
    | new m => rfl
    | pair d m => rfl
    | imm d => cases d <;> rfl
def tyC (b : Bool) : TV := fun ρ => .ok b ρ
theorem tyC_ev {b : Bool} {ρ : Env} : tyC b ρ = .ok b ρ := (rfl)
def tyaK (g : TV) (b : Bool) : TV := fun ρ1 => brK b g (tyC false) ρ1
theorem tyaK_ev {g : TV} {b : Bool} {ρ1 : Env} : tyaK g b ρ1 = brK b g (tyC false) ρ1 := (rfl)
def tyoK (g : TV) (b : Bool) : TV := fun ρ1 => brK b (tyC true) g ρ1
theorem tyoK_ev {g : TV} {b : Bool} {ρ1 : Env} : tyoK g b ρ1 = brK b (tyC true) g ρ1 := (rfl)
def tynK (b : Bool) : TV := fun ρ1 => .ok (!b) ρ1
theorem tynK_ev {b : Bool} {ρ1 : Env} : tynK b ρ1 = .ok (!b) ρ1 := (rfl)
theorem tyAnd_ev {f g : TV} {ρ : Env} : tyAnd f g ρ = (f ρ).bind (tyaK g) := by
  unfold tyAnd
  congr
  funext b ρ1
  cases b <;> rfl
theorem tyOr_ev {f g : TV} {ρ : Env} : tyOr f g ρ = (f ρ).bind (tyoK g) := by
  unfold tyOr
  congr
  funext b ρ1
  cases b <;> rfl
theorem tyNot_ev {f : TV} {ρ : Env} : tyNot f ρ = (f ρ).bind tynK := (rfl)
theorem tyYes_ev {ρ : Env} : tyYes ρ = .ok true ρ := (rfl)
def ch3 (f3 : EV) (g' : D → D → Option Res) (b : Pk) : EV := fun ρ2 => (f3 ρ2).bind (k2 g' b)
theorem ch3_ev {f3 : EV} {g' : D → D → Option Res} {b : Pk} {ρ2 : Env} : ch3 f3 g' b ρ2 = (f3 ρ2).bind (k2 g' b) := (rfl)
def chK (g g' : D → D → Option Res) (f3 : EV) (a b : Pk) (ρ2 : Env) : Out Pk := oB (a.view ρ2) fun x => oB (b.view ρ2) fun y => oB (resB (g x y)) fun k => brK k (ch3 f3 g' b) (eC (.bl false)) ρ2
def e3K (g g' : D → D → Option Res) (f2 f3 : EV) : Pk → EV := fun a ρ1 => (f2 ρ1).bind (chK g g' f3 a)
theorem e3K_ev {g g' : D → D → Option Res} {f2 f3 : EV} {a : Pk} {ρ1 : Env} : e3K g g' f2 f3 a ρ1 = (f2 ρ1).bind (chK g g' f3 a) := (rfl)
theorem e3_ev {g g' : D → D → Option Res} {f1 f2 f3 : EV} {ρ : Env} : e3 g g' f1 f2 f3 ρ = (f1 ρ).bind (e3K g g' f2 f3) := by
  unfold e3
  congr
  funext a ρ1
  unfold e3K
  congr
  funext b ρ2
  unfold chK
  cases a.view ρ2 with
  | none => rfl
  | some x => cases b.view ρ2 with
    | none => rfl
    | some y =>
      show (match resB (g x y) with | some true => _ | some false => _ | none => _) = oB (resB (g x y)) _
      cases resB (g x y) with
      | none => rfl
      | some k => cases k with
        | false => rfl
        | true =>
          show (f3 ρ2).bind _ = (f3 ρ2).bind (k2 g' b)
          congr
          funext z ρ3
          exact k2_eq
def frS (s : Option Slot) (i : Nat) (ρ' : Env) : Out Pk := match s with
    | some (.own m) => .ok (.res (.imm m.toD)) (ρ'.set i (.imm m.toD))
    | _ => .bad
theorem frS_own {i : Nat} {ρ : Env} {m : M} : frS (some (.own m)) i ρ = .ok (.res (.imm m.toD)) (ρ.set i (.imm m.toD)) := (rfl)
def frK : Pk → EV := fun k ρ' => match k with
  | .res r => oB r.vw fun d => .ok (.res (.imm d)) ρ'
  | .at i => frS ρ'[i]? i ρ'
theorem frzE_ev {f : EV} {ρ : Env} : frzE f ρ = (f ρ).bind frK := by
  unfold frzE
  congr
  funext k ρ1
  cases k with
  | «at» j => rfl
  | res r => cases r <;> rfl
theorem frK_res {r : Res} {ρ : Env} : frK (.res r) ρ = oB r.vw fun d => .ok (.res (.imm d)) ρ := (rfl)
theorem frK_at {i : Nat} {ρ : Env} : frK (.at i) ρ = frS ρ[i]? i ρ := (rfl)
theorem aNil_ev {ρ : Env} : aNil ρ = .ok [] ρ := (rfl)
def acE (k : Pk) : List Pk → AV := fun ks ρ2 => .ok (k :: ks) ρ2
theorem acE_ev {k : Pk} {ks : List Pk} {ρ2 : Env} : acE k ks ρ2 = .ok (k :: ks) ρ2 := (rfl)
def acK (g : AV) : Pk → AV := fun k ρ1 => (g ρ1).bind (acE k)
theorem acK_ev {g : AV} {k : Pk} {ρ1 : Env} : acK g k ρ1 = (g ρ1).bind (acE k) := (rfl)
theorem aCons_ev {f : EV} {g : AV} {ρ : Env} : aCons f g ρ = (f ρ).bind (acK g) := (rfl)
theorem imms_nil : imms [] = some [] := (rfl)
theorem imms_cons {k : Pk} {ks : List Pk} : imms (k :: ks) = oO (pkI k) fun d => oO (imms ks) fun ds => some (d :: ds) := by
  cases k with
  | «at» j => rfl
  | res r =>
    cases r with
    | new m => rfl
    | pair d m => rfl
    | imm d => show (imms ks).map _ = oO (imms ks) _; cases imms ks <;> rfl
def tupK : List Pk → EV := fun ks ρ1 => oB (imms ks) fun ds => br (decide (ds.length ≤ 1000)) (.ok (.res (.imm (.tup ds))) ρ1) .bad
def lstK : List Pk → EV := fun ks ρ1 => oB (imms ks) fun ds => br (decide (ds.length ≤ 1000)) (.ok (.res (.new (.lst ds))) ρ1) .bad
theorem ite_br {α : Type} {p : Prop} [Decidable p] {x y : α} : (if p then x else y) = br (decide p) x y := by
  by_cases h : p
  · rw [if_pos h, decide_eq_true h]; rfl
  · rw [if_neg h, decide_eq_false h]; rfl
theorem eTup_ev {f : AV} {ρ : Env} : eTup f ρ = (f ρ).bind tupK := by
  unfold eTup
  congr
  funext ks ρ1
  unfold tupK
  cases imms ks with
  | none => rfl
  | some ds => exact ite_br
theorem eLst_ev {f : AV} {ρ : Env} : eLst f ρ = (f ρ).bind lstK := by
  unfold eLst
  congr
  funext ks ρ1
  unfold lstK
  cases imms ks with
  | none => rfl
  | some ds => exact ite_br
theorem views_nil {ρ : Env} : views ρ [] = some [] := (rfl)
theorem views_cons {ρ : Env} {k : Pk} {ks : List Pk} : views ρ (k :: ks) = oO (k.view ρ) fun d => oO (views ρ ks) fun ds => some (d :: ds) := by
  show (match k.view ρ, views ρ ks with | some d, some ds => some (d :: ds) | _, _ => none) = _
  cases k.view ρ with
  | none => rfl
  | some d => cases views ρ ks <;> rfl
def bifK (g : List D → Option Res) (ks : List Pk) (ρ : Env) : Out Pk := oB (views ρ ks) fun ds => oB (g ds) fun r => .ok (.res r) ρ
theorem eB_ev {g : List D → Option Res} {f : AV} {ρ : Env} : eB g f ρ = (f ρ).bind (bifK g) := by
  unfold eB
  congr
  funext ks ρ1
  unfold bifK
  cases views ρ1 ks with
  | none => rfl
  | some ds => exact ofRes_ev
def FOut.cp (o : FOut) (ρ : Env) : Out Pk := match o with
  | .ret r _ => .ok (.res r) ρ
  | .exc x _ => .exc x ρ
  | .bad => .bad
def FOut.cq (o : FOut) (i : Nat) (ρ : Env) : Out Pk := match o with
  | .ret r (some m') => .ok (.res r) (ρ.modify i (Slot.put m'))
  | .exc x (some m') => .exc x (ρ.modify i (Slot.put m'))
  | _ => .bad
theorem cp_ret {r : Res} {om : Option M} {ρ : Env} : (FOut.ret r om).cp ρ = .ok (.res r) ρ := (rfl)
theorem cp_exc {x : Ex} {om : Option M} {ρ : Env} : (FOut.exc x om).cp ρ = .exc x ρ := (rfl)
theorem cq_ret {r : Res} {m : M} {i : Nat} {ρ : Env} : (FOut.ret r (some m)).cq i ρ = .ok (.res r) (ρ.modify i (Slot.put m)) := (rfl)
theorem cq_exc {x : Ex} {m : M} {i : Nat} {ρ : Env} : (FOut.exc x (some m)).cq i ρ = .exc x (ρ.modify i (Slot.put m)) := (rfl)
def coK (f : FnD) (ks : List Pk) (ρ : Env) : Out Pk := match ks with
  | .at i :: ks' => oB (slotM ρ[i]?) fun m => oB (imms ks') fun ds => (f (some m) ds).cq i ρ
  | ks => oB (imms ks) fun ds => (f none ds).cp ρ
def caK (n : Nat) (f : FnD) (ks : List Pk) (ρ : Env) : Out Pk := br (decide (ks.length = n)) (coK f ks ρ) .bad
theorem coK_at {f : FnD} {i : Nat} {ks : List Pk} {ρ : Env} : coK f (.at i :: ks) ρ = oB (slotM ρ[i]?) fun m => oB (imms ks) fun ds => (f (some m) ds).cq i ρ := (rfl)
theorem coK_res {f : FnD} {r : Res} {ks : List Pk} {ρ : Env} : coK f (.res r :: ks) ρ = oB (imms (.res r :: ks)) fun ds => (f none ds).cp ρ := (rfl)
theorem coK_nil {f : FnD} {ρ : Env} : coK f [] ρ = (f none []).cp ρ := (rfl)
theorem callP_ev {f : FnD} {ds : List D} {ρ : Env} : callP f ds ρ = (f none ds).cp ρ := by unfold callP FOut.cp; cases f none ds <;> rfl
theorem callQ_ev {f : FnD} {m : M} {i : Nat} {ds : List D} {ρ : Env} : callQ f i m ds ρ = (f (some m) ds).cq i ρ := by
  unfold callQ FOut.cq
  cases f (some m) ds with
  | ret r om => cases om <;> rfl
  | exc x om => cases om <;> rfl
  | bad => rfl
theorem eCall_ev {n : Nat} {f : FnD} {a : AV} {ρ : Env} : eCall n f a ρ = (a ρ).bind (caK n f) := by
  unfold eCall
  congr
  funext ks ρ1
  show ite _ _ _ = caK n f ks ρ1
  rw [ite_br]
  unfold caK
  congr
  unfold callOut
  cases ks with
  | nil => exact callP_ev
  | cons k ks =>
    cases k with
    | res r =>
      show (match imms (.res r :: ks) with | some ds => _ | none => _) = oB (imms (.res r :: ks)) _
      cases imms (.res r :: ks) with
      | none => rfl
      | some ds => exact callP_ev
    | «at» i =>
      show (match slotM ρ1[i]?, imms ks with | some m, some ds => _ | _, _ => _) = oB (slotM ρ1[i]?) _
      cases slotM ρ1[i]? with
      | none => rfl
      | some m =>
        show _ = oB (imms ks) _
        cases imms ks with
        | none => rfl
        | some ds => exact callQ_ev
theorem eCall0_ev {f : FnD} {ρ : Env} : eCall0 f ρ = (f none []).cp ρ := callP_ev
theorem oNone_ev {ρ : Env} : oNone ρ = .ok none ρ := (rfl)
def osK : Pk → Env → Out (Option Int) := fun k ρ1 => oB (pkI k) fun d => oB (dInt d) fun i => .ok (some i) ρ1
theorem oSome_ev {f : EV} {ρ : Env} : oSome f ρ = (f ρ).bind osK := by
  unfold oSome
  congr
  funext k ρ1
  cases k with
  | «at» j => rfl
  | res r =>
    cases r with
    | new m => rfl
    | pair d m => rfl
    | imm d => cases d <;> rfl
def slX (l u : Option Int) (d : D) : Option Res := slG d l u
theorem slX_ev {l u : Option Int} {d : D} : slX l u d = slG d l u := (rfl)
def slK3 (k : Pk) (l u : Option Int) : EV := fun ρ3 => k1 (slX l u) k ρ3
theorem slK3_ev {k : Pk} {l u : Option Int} {ρ3 : Env} : slK3 k l u ρ3 = k1 (slX l u) k ρ3 := (rfl)
def slK2 (hi : OV) (k : Pk) (l : Option Int) : EV := fun ρ2 => (hi ρ2).bind (slK3 k l)
theorem slK2_ev {hi : OV} {k : Pk} {l : Option Int} {ρ2 : Env} : slK2 hi k l ρ2 = (hi ρ2).bind (slK3 k l) := (rfl)
def slK (lo hi : OV) (k : Pk) : EV := fun ρ1 => (lo ρ1).bind (slK2 hi k)
theorem slK_ev {lo hi : OV} {k : Pk} {ρ1 : Env} : slK lo hi k ρ1 = (lo ρ1).bind (slK2 hi k) := (rfl)
theorem eSl_ev {f : EV} {lo hi : OV} {ρ : Env} : eSl f lo hi ρ = (f ρ).bind (slK lo hi) := by
  unfold eSl
  congr
  funext k ρ1
  unfold slK
  congr
  funext l ρ2
  unfold slK2
  congr
  funext u ρ3
  exact k1_eq
def dStr (d : D) : Option (List Nat) := match d with
  | .str b => some b
  | _ => none
theorem dStr_str {b : List Nat} : dStr (.str b) = some b := (rfl)
def msC (g : List Nat → D → Option Res) (fe : EV) (ρ1 : Env) (cs : List Nat) : Out Pk := (fe ρ1).bind (k1 (g cs))
theorem msC_ev {g : List Nat → D → Option Res} {fe : EV} {ρ1 : Env} {cs : List Nat} : msC g fe ρ1 cs = (fe ρ1).bind (k1 (g cs)) := (rfl)
def msK (g : List Nat → D → Option Res) (fe : EV) : Pk → EV := fun k ρ1 => oB (oO (pkI k) dStr) (msC g fe ρ1)
theorem eMS_ev {g : List Nat → D → Option Res} {f fe : EV} {ρ : Env} : eMS g f fe ρ = (f ρ).bind (msK g fe) := by
  unfold eMS
  congr
  funext k ρ1
  cases k with
  | «at» j => rfl
  | res r =>
    cases r with
    | new m => rfl
    | pair d m => rfl
    | imm d => cases d with
      | str cs =>
        show (fe ρ1).bind _ = (fe ρ1).bind _
        congr
        funext k2 ρ2
        exact k1_eq
      | _ => rfl
/-! ### targets, walks over -/
theorem gN_ev {i : Nat} {d : D} {ρ : Env} : gN i d ρ = some (ρ.set i (.imm d)) := (rfl)
def dTup (d : D) : Option (List D) := match d with
  | .tup b => some b
  | _ => none
theorem dTup_tup {b : List D} : dTup (.tup b) = some b := (rfl)
theorem gT_ev {n : Nat} {gs : GVs} {d : D} {ρ : Env} : gT n gs d ρ = oO (dTup d) fun ds => br (decide (ds.length = n)) (gs ds ρ) none := by
  unfold gT
  cases d with
  | tup ds => exact ite_br
  | _ => rfl
theorem gsN_ev {ρ : Env} : gsN [] ρ = some ρ := (rfl)
theorem gsC_ev {g : GV} {gs : GVs} {d : D} {ds : List D} {ρ : Env} : gsC g gs (d :: ds) ρ = oO (g d ρ) fun ρ1 => gs ds ρ1 := by
  unfold gsC
  show (g d ρ).bind _ = _
  cases g d ρ <;> rfl
def dSq (d : D) : Option (List D) := match d with
  | .tup b => some b
  | .lst b => some b
  | .str cs => some (cs.map fun ch => .str [ch])
  | _ => none
theorem dSq_tup {b : List D} : dSq (.tup b) = some b := (rfl)
theorem dSq_lst {b : List D} : dSq (.lst b) = some b := (rfl)
theorem dSq_str {b : List Nat} : dSq (.str b) = some (b.map fun ch => .str [ch]) := (rfl)
def iqK : Pk → Env → Out (List D) := fun k ρ1 => oB (oO (pkI k) dSq) fun ds => .ok ds ρ1
theorem iqK_ev {k : Pk} {ρ1 : Env} : iqK k ρ1 = oB (oO (pkI k) dSq) fun ds => .ok ds ρ1 := (rfl)
theorem iSeq_ev {f : EV} {ρ : Env} : iSeq f ρ = (f ρ).bind iqK := by
  unfold iSeq
  congr
  funext k ρ1
  cases k with
  | «at» j => rfl
  | res r =>
    cases r with
    | new m => rfl
    | pair d m => rfl
    | imm d => cases d <;> rfl
def r1K : List Pk → Env → Out (List D) := fun ks ρ1 => match ks with
  | [k] => oB (pkI k) fun d => oB (dInt d) fun j => br (decide (-(2 ^ 62) ≤ j ∧ j < 2 ^ 62)) (.ok (rng 0 j.toNat) ρ1) .bad
  | _ => .bad
theorem r1K_ev {k : Pk} {ρ1 : Env} : r1K [k] ρ1 = oB (pkI k) fun d => oB (dInt d) fun j => br (decide (-(2 ^ 62) ≤ j ∧ j < 2 ^ 62)) (.ok (rng 0 j.toNat) ρ1) .bad := (rfl)
theorem iR1_ev {f : AV} {ρ : Env} : iR1 f ρ = (f ρ).bind r1K := by
  unfold iR1
  congr
  funext ks ρ1
  cases ks with
  | nil => rfl
  | cons k ks =>
    rw [imms_cons]
    cases ks with
    | nil => 
      show _ = oB (pkI k) _
      cases pkI k with
      | none => rfl
      | some d => cases d with
        | int j => exact ite_br
        | _ => rfl
    | cons k2 ks =>
      rw [imms_cons]
      cases pkI k with
      | none => rfl
      | some d => cases pkI k2 with
        | none => rfl
        | some d2 => cases imms ks with
          | none => rfl
          | some ds => cases d <;> rfl
def ilK : List D → Env → Out (List D) := fun ds ρ1 => br (decide (ds.length ≤ sizeLine)) (.ok ds ρ1) .bad
theorem ilK_ev {ds : List D} {ρ1 : Env} : ilK ds ρ1 = br (decide (ds.length ≤ sizeLine)) (.ok ds ρ1) .bad := (rfl)
theorem iL_ev {f : IV} {ρ : Env} : iL f ρ = (f ρ).bind ilK := by
  unfold iL
  congr
  funext ds ρ1
  exact ite_br
end DL
/-! Ev2: comprehensions, walks, functions. -/
namespace DL
open PySem PySem.Spec PyProof.Rows L2
def lcZ (vs : List Nat) : Pk → Env → Out (Option D) := fun k ρ3 => oB (pkI k) fun y => .ok (some y) (wipeE ρ3 vs)
theorem lcZ_ev {vs : List Nat} {k : Pk} {ρ3 : Env} : lcZ vs k ρ3 = oB (pkI k) fun y => .ok (some y) (wipeE ρ3 vs) := (rfl)
def lcY (f : EV) (vs : List Nat) : Env → Out (Option D) := fun ρ2 => (f ρ2).bind (lcZ vs)
theorem lcY_ev {f : EV} {vs : List Nat} {ρ2 : Env} : lcY f vs ρ2 = (f ρ2).bind (lcZ vs) := (rfl)
def lcN (vs : List Nat) : Env → Out (Option D) := fun ρ2 => .ok none (wipeE ρ2 vs)
theorem lcN_ev {vs : List Nat} {ρ2 : Env} : lcN vs ρ2 = .ok none (wipeE ρ2 vs) := (rfl)
def lcB (f : EV) (vs : List Nat) : Bool → Env → Out (Option D) := fun b ρ2 => brK b (lcY f vs) (lcN vs) ρ2
theorem lcB_ev {f : EV} {vs : List Nat} {b : Bool} {ρ2 : Env} : lcB f vs b ρ2 = brK b (lcY f vs) (lcN vs) ρ2 := (rfl)
def lcT (tt : TV) (f : EV) (vs : List Nat) : Env → Out (Option D) := fun ρ1 => (tt ρ1).bind (lcB f vs)
theorem lcT_ev {tt : TV} {f : EV} {vs : List Nat} {ρ1 : Env} : lcT tt f vs ρ1 = (tt ρ1).bind (lcB f vs) := (rfl)
def lcS (g : GV) (tt : TV) (f : EV) (vs : List Nat) (d : D) (ρ : Env) : Out (Option D) := oB (g d ρ) (lcT tt f vs)
theorem lcS_ev {g : GV} {tt : TV} {f : EV} {vs : List Nat} {d : D} {ρ : Env} : lcS g tt f vs d ρ = oB (g d ρ) (lcT tt f vs) := (rfl)
theorem lcD_step {g : GV} {tt : TV} {f : EV} {vs : List Nat} {d : D} {ds : List D} {ρ ρ' : Env} {o : Option D} (h : lcS g tt f vs d ρ = .ok o ρ') :
    lcD g tt f vs (d :: ds) ρ = (lcD g tt f vs ds ρ').bind fun ys ρ'' => .ok (o.toList ++ ys) ρ'' := by
  unfold lcS at h
  show (match g d ρ with | none => _ | some ρ1 => _) = _
  cases hg : g d ρ with
  | none => rw [hg] at h; cases h
  | some ρ1 =>
    rw [hg] at h
    change (tt ρ1).bind _ = _ at h
    show (match tt ρ1 with | .ok false ρ2 => _ | .ok true ρ2 => _ | _ => _) = _
    cases ht : tt ρ1 with
    | bad => rw [ht] at h; cases h
    | exc x ρ2 => rw [ht] at h; cases h
    | ok b ρ2 =>
      rw [ht] at h
      cases b with
      | false =>
        cases h
        show lcD g tt f vs ds (wipeE ρ2 vs) = _
        cases lcD g tt f vs ds (wipeE ρ2 vs) <;> rfl
      | true =>
        change (f ρ2).bind _ = _ at h
        show (match f ρ2 with | .ok (.res (.imm y)) ρ3 => _ | _ => _) = _
        cases hf : f ρ2 with
        | bad => rw [hf] at h; cases h
        | exc x ρ3 => rw [hf] at h; cases h
        | ok k ρ3 =>
          rw [hf] at h
          cases k with
          | «at» i => cases h
          | res r =>
            cases r with
            | new m => cases h
            | pair d m => cases h
            | imm y => cases h; rfl
theorem lcD_pure {g : GV} {tt : TV} {f : EV} {vs : List Nat} {ρ : Env} {F : D → Option D} : ∀ {ds : List D}, (∀ d ∈ ds, lcS g tt f vs d ρ = .ok (F d) ρ) → lcD g tt f vs ds ρ = .ok (ds.filterMap F) ρ
  | [], _ => rfl
  | d :: ds, h => by
    rw [lcD_step (h d (List.mem_cons_self ..)), lcD_pure (fun e he => h e (List.mem_cons_of_mem _ he))]
    show Out.ok _ _ = _
    rw [List.filterMap_cons]
    cases F d <;> rfl
theorem lcD_map {g : GV} {tt : TV} {f : EV} {vs : List Nat} {ρ : Env} {F : D → D} {ds : List D} (h : ∀ d ∈ ds, lcS g tt f vs d ρ = .ok (some (F d)) ρ) : lcD g tt f vs ds ρ = .ok (ds.map F) ρ := by
  rw [lcD_pure (F := fun d => some (F d)) h, List.filterMap_eq_map']
/-- every item gives one; an invariant runs along -/
theorem lcD_inv {g : GV} {tt : TV} {f : EV} {vs : List Nat} {P : Env → Prop} {Q : D → D → Prop} : ∀ {ds : List D} {ρ : Env}, P ρ → (∀ d ∈ ds, ∀ ρ, P ρ → ∃ y ρ', lcS g tt f vs d ρ = .ok (some y) ρ' ∧ P ρ' ∧ Q d y) →
    ∃ ys ρ', lcD g tt f vs ds ρ = .ok ys ρ' ∧ P ρ' ∧ ys.length = ds.length ∧ ∀ (i : Nat) d y, ds[i]? = some d → ys[i]? = some y → Q d y
  | [], ρ, hp, _ => ⟨[], ρ, rfl, hp, rfl, fun i d y h => by simp at h⟩
  | d :: ds, ρ, hp, h => by
    obtain ⟨y, ρ1, e1, p1, q1⟩ := h d (List.mem_cons_self ..) ρ hp
    obtain ⟨ys, ρ2, e2, p2, l2, q2⟩ := lcD_inv (ds := ds) p1 fun e he => h e (List.mem_cons_of_mem _ he)
    refine ⟨y :: ys, ρ2, ?_, p2, by simp [l2], ?_⟩
    · rw [lcD_step e1, e2]; rfl
    · intro i d' y' hd hy
      cases i with
      | zero => simp at hd hy; subst hd hy; exact q1
      | succ i => simp at hd hy; exact q2 i d' y' hd hy
def lcE (vs : List Nat) (ρ1 : Env) (o : Out (List D)) : Out Pk := match o with
  | .ok ys ρ2 => .ok (.res (.new (.lst ys))) (restE ρ1 ρ2 vs)
  | _ => .bad
theorem lcE_ok {vs : List Nat} {ρ1 ρ2 : Env} {ys : List D} : lcE vs ρ1 (.ok ys ρ2) = .ok (.res (.new (.lst ys))) (restE ρ1 ρ2 vs) := (rfl)
def lcK (g : GV) (tt : TV) (f : EV) (vs : List Nat) : List D → EV := fun ds ρ1 => br (plainAt ρ1 vs) (lcE vs ρ1 (lcD g tt f vs ds (wipeE ρ1 vs))) .bad
theorem lcK_ev {g : GV} {tt : TV} {f : EV} {vs : List Nat} {ds : List D} {ρ1 : Env} : lcK g tt f vs ds ρ1 = br (plainAt ρ1 vs) (lcE vs ρ1 (lcD g tt f vs ds (wipeE ρ1 vs))) .bad := (rfl)
theorem eLc_ev {it : IV} {g : GV} {tt : TV} {f : EV} {vs : List Nat} {ρ : Env} : eLc it g tt f vs ρ = (it ρ).bind (lcK g tt f vs) := by
  unfold eLc
  congr
  funext ds ρ1
  unfold lcK
  cases plainAt ρ1 vs with
  | false => rfl
  | true =>
    show (match lcD g tt f vs ds (wipeE ρ1 vs) with | .ok ys ρ2 => _ | _ => _) = lcE vs ρ1 (lcD g tt f vs ds (wipeE ρ1 vs))
    cases lcD g tt f vs ds (wipeE ρ1 vs) <;> rfl
theorem wipeE_nil {ρ : Env} : wipeE ρ [] = ρ := (rfl)
theorem wipeE_cons {ρ : Env} {v : Nat} {vs : List Nat} : wipeE ρ (v :: vs) = (wipeE ρ vs).set v .non := (rfl)
theorem restE_nil {ρ1 ρ2 : Env} : restE ρ1 ρ2 [] = ρ2 := (rfl)
theorem restE_cons {ρ1 ρ2 : Env} {v : Nat} {vs : List Nat} : restE ρ1 ρ2 (v :: vs) = (restE ρ1 ρ2 vs).set v (ρ1[v]?.getD .non) := (rfl)
def plS (s : Option Slot) : Bool := match s with
  | some .non => true
  | some (.imm _) => true
  | _ => false
theorem plS_non : plS (some .non) = true := (rfl)
theorem plS_imm {d : D} : plS (some (.imm d)) = true := (rfl)
theorem plainAt_nil {ρ : Env} : plainAt ρ [] = true := (rfl)
theorem plainAt_cons {ρ : Env} {v : Nat} {vs : List Nat} : plainAt ρ (v :: vs) = (plS ρ[v]? && plainAt ρ vs) := by
  unfold plainAt plS
  rw [List.all_cons] <;> rfl

/-! ### walks -/
def forS (g : GV) (b : SV) (d : D) (ρ : Env) : SOut := oS (g d ρ) b
theorem forS_ev {g : GV} {b : SV} {d : D} {ρ : Env} : forS g b d ρ = oS (g d ρ) b := (rfl)
def forR (g : GV) (b : SV) (ds : List D) (o : SOut) : SOut := match o with
  | .nx ρ => forD g b ds ρ
  | .ct ρ => forD g b ds ρ
  | .bk ρ => .nx ρ
  | o => o
theorem forR_nx {g : GV} {b : SV} {ds : List D} {ρ : Env} : forR g b ds (.nx ρ) = forD g b ds ρ := (rfl)
theorem forR_ct {g : GV} {b : SV} {ds : List D} {ρ : Env} : forR g b ds (.ct ρ) = forD g b ds ρ := (rfl)
theorem forR_bk {g : GV} {b : SV} {ds : List D} {ρ : Env} : forR g b ds (.bk ρ) = .nx ρ := (rfl)
theorem forR_rt {g : GV} {b : SV} {ds : List D} {r : Res} {ρ : Env} : forR g b ds (.rt r ρ) = .rt r ρ := (rfl)
theorem forR_exc {g : GV} {b : SV} {ds : List D} {r : Ex} {ρ : Env} : forR g b ds (.exc r ρ) = .exc r ρ := (rfl)
theorem forD_nil {g : GV} {b : SV} {ρ : Env} : forD g b [] ρ = .nx ρ := (rfl)
theorem forD_cons {g : GV} {b : SV} {d : D} {ds : List D} {ρ : Env} : forD g b (d :: ds) ρ = forR g b ds (forS g b d ρ) := by
  show (match g d ρ with | none => _ | some ρ1 => _) = _
  unfold forS
  cases g d ρ with
  | none => rfl
  | some ρ1 =>
    show (match b ρ1 with | .nx ρ2 => _ | .ct ρ2 => _ | .bk ρ2 => _ | o => _) = forR g b ds (b ρ1)
    cases b ρ1 <;> rfl
/-- a walk that ends early or goes through -/
theorem forD_inv {g : GV} {b : SV} {I : Nat → Env → Prop} {R : SOut → Prop} : ∀ {ds : List D} {ρ : Env} {n : Nat}, I n ρ →
    (∀ (j : Nat) d ρ, ds[j]? = some d → I (n + j) ρ → (∃ ρ', (forS g b d ρ = .nx ρ' ∨ forS g b d ρ = .ct ρ') ∧ I (n + j + 1) ρ') ∨ (∃ r ρ', forS g b d ρ = .rt r ρ' ∧ R (.rt r ρ')) ∨ (∃ ρ', forS g b d ρ = .bk ρ' ∧ R (.nx ρ'))) →
    (∃ ρ', forD g b ds ρ = .nx ρ' ∧ I (n + ds.length) ρ') ∨ R (forD g b ds ρ)
  | [], ρ, n, h, _ => .inl ⟨ρ, rfl, h⟩
  | d :: ds, ρ, n, h, hs => by
    rw [forD_cons]
    rcases hs 0 d ρ rfl h with ⟨ρ', e, i'⟩ | ⟨r, ρ', e, hr⟩ | ⟨ρ', e, hr⟩
    · have key := forD_inv (g := g) (b := b) (I := I) (R := R) (ds := ds) (ρ := ρ') (n := n + 1) i' (fun j d' ρ1 hd hi => by
        have := hs (j + 1) d' ρ1 (by simpa using hd) (by rw [show n + (j + 1) = n + 1 + j by omega]; exact hi)
        rwa [show n + (j + 1) = n + 1 + j by omega] at this)
      rw [show n + 1 + ds.length = n + (ds.length + 1) by omega] at key
      rcases e with e | e <;> rw [e] <;> exact key
    · rw [e]; exact .inr hr
    · rw [e]; exact .inr hr
theorem forD_run {g : GV} {b : SV} {I : Nat → Env → Prop} {ds : List D} {ρ : Env} (h : I 0 ρ)
    (hs : ∀ (j : Nat) d ρ, ds[j]? = some d → I j ρ → ∃ ρ', (forS g b d ρ = .nx ρ' ∨ forS g b d ρ = .ct ρ') ∧ I (j + 1) ρ') : ∃ ρ', forD g b ds ρ = .nx ρ' ∧ I ds.length ρ' := by
  rcases forD_inv (g := g) (b := b) (I := I) (R := fun _ => False) (n := 0) h (fun j d ρ hd hi => .inl (by simpa using hs j d ρ hd (by simpa using hi))) with h | h
  · simpa using h
  · exact h.elim

/-! ### functions -/
def finS (s : Option Slot) (k : Option M → FOut) : FOut := match s with
  | some (.bor m) => k (some m)
  | _ => .bad
theorem finS_bor {m : M} {k : Option M → FOut} : finS (some (.bor m)) k = k (some m) := (rfl)
theorem finN_rt {r : Res} {ρ : Env} : finF none (.rt r ρ) = .ret r none := (rfl)
theorem finN_nx {ρ : Env} : finF none (.nx ρ) = .ret (.imm .non) none := (rfl)
theorem finN_exc {x : Ex} {ρ : Env} : finF none (.exc x ρ) = .exc x none := (rfl)
theorem finM_rt {m : M} {r : Res} {ρ : Env} : finF (some m) (.rt r ρ) = finS ρ[0]? (.ret r) := (rfl)
theorem finM_nx {m : M} {ρ : Env} : finF (some m) (.nx ρ) = finS ρ[0]? (.ret (.imm .non)) := (rfl)
theorem finM_exc {m : M} {x : Ex} {ρ : Env} : finF (some m) (.exc x ρ) = finS ρ[0]? (.exc x) := (rfl)
theorem mkN_ev {np nx : Nat} {b : SV} {ds : List D} : mkF np nx b none ds = br (decide (ds.length = np)) (finF none (b (ds.map Slot.imm ++ List.replicate nx .non))) .bad := by
  unfold mkF borS
  rw [ite_br]
  simp only [List.nil_append, List.length_map]
theorem mkM_ev {np nx : Nat} {b : SV} {m : M} {ds : List D} : mkF np nx b (some m) ds = br (decide (ds.length + 1 = np)) (finF (some m) (b (.bor m :: (ds.map Slot.imm ++ List.replicate nx .non)))) .bad := by
  unfold mkF borS
  rw [ite_br]
  simp only [List.cons_append, List.nil_append, List.length_cons, List.length_map]

/-! ### operations at a value -/
theorem intG_ev {C : Int → Int → Bool} {g : Int → Int → D} {i j : Int} : intG C g (.int i) (.int j) = br (C i j) (some (.imm (g i j))) none := by
  show (if C i j = true then _ else _) = _
  cases C i j <;> rfl
theorem addG_int {i j : Int} : addG (.int i) (.int j) = some (.imm (.int (i + j))) := (rfl)
theorem addG_str {a b : List Nat} : addG (.str a) (.str b) = br (decide (a.length + b.length ≤ sizeLine)) (some (.imm (.str (a ++ b)))) none := ite_br
theorem addG_tup {a b : List D} : addG (.tup a) (.tup b) = br (decide (a.length + b.length ≤ sizeLine)) (some (.imm (.tup (a ++ b)))) none := ite_br
theorem addG_lst {a b : List D} : addG (.lst a) (.lst b) = br (decide (a.length + b.length ≤ sizeLine)) (some (.new (.lst (a ++ b)))) none := ite_br
theorem mulG_int {i j : Int} : mulG (.int i) (.int j) = br (decide ((-(2 ^ 64) < i ∧ i < 2 ^ 64) ∨ (-(2 ^ 64) < j ∧ j < 2 ^ 64))) (some (.imm (.int (i * j)))) none := ite_br
theorem eqG_ev {d e : D} : eqG d e = br (decide (d.dep ≤ 64) && decide (e.dep ≤ 64)) (some (.imm (.bl (D.eqv d e)))) none := by
  unfold eqG; rw [ite_br, Bool.decide_and]
theorem neG_ev {d e : D} : neG d e = br (decide (d.dep ≤ 64) && decide (e.dep ≤ 64)) (some (.imm (.bl (!D.eqv d e)))) none := by
  unfold neG; rw [ite_br, Bool.decide_and]
theorem dep_non : D.non.dep = 0 := by unfold D.dep; rfl
theorem dep_bl {b : Bool} : (D.bl b).dep = 0 := by unfold D.dep; rfl
theorem dep_int {b : Int} : (D.int b).dep = 0 := by unfold D.dep; rfl
theorem dep_str {b : List Nat} : (D.str b).dep = 0 := by unfold D.dep; rfl
theorem dep_tup {ds : List D} : (D.tup ds).dep = D.deps ds + 1 := by rw [D.dep]
theorem dep_lst {ds : List D} : (D.lst ds).dep = D.deps ds + 1 := by rw [D.dep]
theorem deps_nil : D.deps [] = 0 := by rw [D.deps]
theorem deps_cons {d : D} {ds : List D} : D.deps (d :: ds) = max d.dep (D.deps ds) := by rw [D.deps]
theorem eqv_int {i j : Int} : D.eqv (.int i) (.int j) = decide (i = j) := by unfold D.eqv; rfl
theorem eqv_str {i j : List Nat} : D.eqv (.str i) (.str j) = decide (i = j) := by
  unfold D.eqv
  by_cases h : i = j
  · subst h; simp
  · simp [h]
theorem eqv_bl {i j : Bool} : D.eqv (.bl i) (.bl j) = (i == j) := by unfold D.eqv; rfl
theorem eqv_tup {a b : List D} : D.eqv (.tup a) (.tup b) = D.eqvs a b := by rw [D.eqv]
theorem eqv_lst {a b : List D} : D.eqv (.lst a) (.lst b) = D.eqvs a b := by rw [D.eqv]
theorem eqvs_nil : D.eqvs [] [] = true := by rw [D.eqvs]
theorem eqvs_nc {d : D} {ds : List D} : D.eqvs [] (d :: ds) = false := by rw [D.eqvs] <;> simp
theorem eqvs_cn {d : D} {ds : List D} : D.eqvs (d :: ds) [] = false := by rw [D.eqvs] <;> simp
theorem eqvs_cc {d e : D} {ds es : List D} : D.eqvs (d :: ds) (e :: es) = (D.eqv d e && D.eqvs ds es) := by rw [D.eqvs]
theorem eqvs_nilR {ds : List D} : D.eqvs ds [] = decide (ds = []) := by
  cases ds with
  | nil => rw [eqvs_nil]; rfl
  | cons d ds => rw [eqvs_cn]; simp
theorem len_str {cs : List Nat} : lenG [.str cs] = some (.imm (.int cs.length)) := (rfl)
theorem len_lst {cs : List D} : lenG [.lst cs] = some (.imm (.int cs.length)) := (rfl)
theorem len_tup {cs : List D} : lenG [.tup cs] = some (.imm (.int cs.length)) := (rfl)
theorem len_seq {cs : List Int} : lenG [.seq cs] = some (.imm (.int cs.length)) := (rfl)
theorem intG1_ev {i : Int} : intG1 [.int i] = some (.imm (.int i)) := (rfl)
theorem intG1_t : intG1 [.bl true] = some (.imm (.int 1)) := (rfl)
theorem intG1_f : intG1 [.bl false] = some (.imm (.int 0)) := (rfl)
theorem max2_ev {i j : Int} : max2G [.int i, .int j] = some (.imm (.int (if j > i then j else i))) := (rfl)
theorem min2_ev {i j : Int} : min2G [.int i, .int j] = some (.imm (.int (if j < i then j else i))) := (rfl)
theorem all_ev {ds : List D} : allG [.lst ds] = oO (dBools ds) fun bs => some (.imm (.bl (bs.all id))) := by
  show (dBools ds).map _ = _
  cases dBools ds <;> rfl
theorem sum_ev {ds : List D} : sumG [.lst ds] = oO (dInts ds) fun bs => some (.imm (.int bs.sum)) := by
  show (dInts ds).map _ = _
  cases dInts ds <;> rfl
theorem list_lst {ds : List D} : listG [.lst ds] = some (.new (.lst ds)) := (rfl)
theorem list_tup {ds : List D} : listG [.tup ds] = some (.new (.lst ds)) := (rfl)
theorem tuple_lst {ds : List D} : tupleG [.lst ds] = some (.imm (.tup ds)) := (rfl)
theorem tuple_tup {ds : List D} : tupleG [.tup ds] = some (.imm (.tup ds)) := (rfl)
theorem neg_ev {i : Int} : negG (.int i) = some (.imm (.int (-i))) := (rfl)
theorem resB_ev {b : Bool} : resB (some (.imm (.bl b))) = some b := (rfl)
theorem inG_ev {neg : Bool} {d e : D} : inG neg d e = oO (inB d e) fun b => some (.imm (.bl (neg ^^ b))) := by
  unfold inG
  cases inB d e with
  | none => rfl
  | some b => cases neg <;> cases b <;> rfl
theorem inB_str {x : Nat} {cs : List Nat} : inB (.str [x]) (.str cs) = some (decide (x ∈ cs)) := (rfl)
theorem inB_lst {d : D} {ds : List D} : inB d (.lst ds) = br (decide (d.dep ≤ 64) && decide (D.deps ds ≤ 60)) (some (ds.any fun z => D.eqv z d)) none := by
  have : inB d (.lst ds) = if d.dep ≤ 64 ∧ D.deps ds ≤ 60 then some (ds.any fun z => D.eqv z d) else none := by
    unfold inB
    split <;> simp_all
  rw [this, ite_br, Bool.decide_and]
theorem inB_tup {d : D} {ds : List D} : inB d (.tup ds) = br (decide (d.dep ≤ 64) && decide (D.deps ds ≤ 60)) (some (ds.any fun z => D.eqv z d)) none := by
  have : inB d (.tup ds) = if d.dep ≤ 64 ∧ D.deps ds ≤ 60 then some (ds.any fun z => D.eqv z d) else none := by
    unfold inB
    split <;> simp_all
  rw [this, ite_br, Bool.decide_and]
theorem ixD_lst {ds : List D} {i : Int} : ixD (.lst ds) (.int i) = oO (atI ds i) fun d => some (.imm d) := by
  show (atI ds i).map _ = _
  cases atI ds i <;> rfl
theorem ixD_tup {ds : List D} {i : Int} : ixD (.tup ds) (.int i) = oO (atI ds i) fun d => some (.imm d) := by
  show (atI ds i).map _ = _
  cases atI ds i <;> rfl
theorem ixD_str {ds : List Nat} {i : Int} : ixD (.str ds) (.int i) = oO (atI ds i) fun d => some (.imm (.str [d])) := by
  show (atI ds i).map _ = _
  cases atI ds i <;> rfl
theorem ixD_seq {ds : List Int} {i : Int} : ixD (.seq ds) (.int i) = oO (atI ds i) fun d => some (.imm (.int d)) := by
  show (atI ds i).map _ = _
  cases atI ds i <;> rfl
theorem ixN_nat {n : Nat} {i : Int} (h : 0 ≤ i) (h2 : i < n) : ixN n i = some i.toNat := by unfold ixN; rw [if_pos h, if_pos h2]
theorem atI_nat {α : Type} {xs : List α} {i : Int} (h : 0 ≤ i) (h2 : i < xs.length) : ∃ x, atI xs i = some x ∧ xs[i.toNat]? = some x ∧ x ∈ xs := by
  unfold atI
  rw [ixN_nat h h2]
  have hl : i.toNat < xs.length := by omega
  exact ⟨xs[i.toNat], by rw [Option.bind_some, List.getElem?_eq_getElem hl], List.getElem?_eq_getElem hl, List.getElem_mem hl⟩
theorem atI_0 {α : Type} {x : α} {xs : List α} : atI (x :: xs) 0 = some x := by
  obtain ⟨y, e, h, _⟩ := atI_nat (xs := x :: xs) (i := 0) (by omega) (by simp)
  rw [e, ← h]; rfl
theorem atI_1 {α : Type} {x y : α} {xs : List α} : atI (x :: y :: xs) 1 = some y := by
  obtain ⟨z, e, h, _⟩ := atI_nat (xs := x :: y :: xs) (i := 1) (by omega) (by simp; omega)
  rw [e, ← h]; rfl
theorem atI_2 {α : Type} {x y z : α} {xs : List α} : atI (x :: y :: z :: xs) 2 = some z := by
  obtain ⟨w, e, h, _⟩ := atI_nat (xs := x :: y :: z :: xs) (i := 2) (by omega) (by simp; omega)
  rw [e, ← h]; rfl
theorem atI_3 {α : Type} {x y z w : α} {xs : List α} : atI (x :: y :: z :: w :: xs) 3 = some w := by
  obtain ⟨v, e, h, _⟩ := atI_nat (xs := x :: y :: z :: w :: xs) (i := 3) (by omega) (by simp; omega)
  rw [e, ← h]; rfl
theorem sl_lst {ds : List D} {l u : Option Int} : slG (.lst ds) l u = some (.new (.lst (cutL ds l u))) := (rfl)
theorem sl_tup {ds : List D} {l u : Option Int} : slG (.tup ds) l u = some (.imm (.tup (cutL ds l u))) := (rfl)
theorem sl_str {ds : List Nat} {l u : Option Int} : slG (.str ds) l u = some (.imm (.str (cutL ds l u))) := (rfl)
theorem rev_lst {ds : List D} : revG (.lst ds) = some (.new (.lst ds.reverse)) := (rfl)
theorem join_lst {sep : List Nat} {ds : List D} : joinG sep (.lst ds) = oO (dStrs ds) fun css => br (decide ((css.map List.length).sum + css.length * sep.length ≤ 16777216)) (some (.imm (.str (joinD sep css)))) none := by
  show (match dStrs ds with | some css => _ | none => _) = _
  cases dStrs ds with
  | none => rfl
  | some css => exact ite_br
theorem join_tup {sep : List Nat} {ds : List D} : joinG sep (.tup ds) = oO (dStrs ds) fun css => br (decide ((css.map List.length).sum + css.length * sep.length ≤ 16777216)) (some (.imm (.str (joinD sep css)))) none := by
  show (match dStrs ds with | some css => _ | none => _) = _
  cases dStrs ds with
  | none => rfl
  | some css => exact ite_br
theorem count_ev {cs : List Nat} {ch : Nat} : countG cs (.str [ch]) = some (.imm (.int (cs.count ch))) := (rfl)
theorem joinD_nil : ∀ (css : List (List Nat)), joinD [] css = css.flatten
  | [] => by unfold joinD; rfl
  | [a] => by unfold joinD; simp [TL.joinL]
  | a :: b :: l => by
    have h := joinD_nil (b :: l)
    unfold joinD at h ⊢
    simp only [TL.joinL, List.append_nil, h, List.flatten_cons, List.nil_append] at h ⊢
    try rw [h]
theorem ixN_0 {n : Nat} : ixN (n + 1) 0 = some 0 := by rw [ixN_nat (by omega) (by omega)]; rfl
theorem ixN_1 {n : Nat} : ixN (n + 2) 1 = some 1 := by rw [ixN_nat (by omega) (by omega)]; rfl
theorem pow1018 : powG (.int 10) (.int 18) = some (.imm (.int 1000000000000000000)) := (rfl)
theorem fmod_rng (x : Int) {n : Int} (h : 0 < n) : 0 ≤ x.fmod n ∧ x.fmod n < n := by
  rw [Int.fmod_eq_emod_of_nonneg _ (by omega)]
  exact ⟨Int.emod_nonneg _ (by omega), Int.emod_lt_of_pos _ (by omega)⟩
theorem natAbs_0 : Int.natAbs 0 = 0 := (rfl)
theorem natAbs_1 : Int.natAbs 1 = 1 := (rfl)
theorem natAbs_2 : Int.natAbs 2 = 2 := (rfl)
theorem natAbs_3 : Int.natAbs 3 = 3 := (rfl)
theorem natAbs_4 : Int.natAbs 4 = 4 := (rfl)
theorem natAbs_5 : Int.natAbs 5 = 5 := (rfl)
theorem natAbs_6 : Int.natAbs 6 = 6 := (rfl)
theorem natAbs_7 : Int.natAbs 7 = 7 := (rfl)
theorem natAbs_8 : Int.natAbs 8 = 8 := (rfl)
theorem natAbs_9 : Int.natAbs 9 = 9 := (rfl)
theorem natAbs_10 : Int.natAbs 10 = 10 := (rfl)
theorem natAbs_11 : Int.natAbs 11 = 11 := (rfl)
theorem natAbs_12 : Int.natAbs 12 = 12 := (rfl)
theorem natAbs_13 : Int.natAbs 13 = 13 := (rfl)
theorem natAbs_14 : Int.natAbs 14 = 14 := (rfl)
theorem natAbs_15 : Int.natAbs 15 = 15 := (rfl)
theorem natAbs_16 : Int.natAbs 16 = 16 := (rfl)
theorem natAbs_17 : Int.natAbs 17 = 17 := (rfl)
theorem natAbs_18 : Int.natAbs 18 = 18 := (rfl)
theorem natAbs_19 : Int.natAbs 19 = 19 := (rfl)
theorem natAbs_20 : Int.natAbs 20 = 20 := (rfl)
theorem lcD_mapS {g : GV} {tt : TV} {f : EV} {vs : List Nat} {ρ : Env} {α : Type} (q : α → D) {F : α → D} : ∀ {cs : List α}, (∀ c ∈ cs, lcS g tt f vs (q c) ρ = .ok (some (F c)) ρ) → lcD g tt f vs (cs.map q) ρ = .ok (cs.map F) ρ
  | [], _ => rfl
  | c :: cs, h => by
    rw [List.map_cons, lcD_step (h c (List.mem_cons_self ..)), lcD_mapS q (fun e he => h e (List.mem_cons_of_mem _ he))]; rfl
theorem lcD_filS {g : GV} {tt : TV} {f : EV} {vs : List Nat} {ρ : Env} {α : Type} (q : α → D) {F : α → Option D} : ∀ {cs : List α}, (∀ c ∈ cs, lcS g tt f vs (q c) ρ = .ok (F c) ρ) → lcD g tt f vs (cs.map q) ρ = .ok (cs.filterMap F) ρ
  | [], _ => rfl
  | c :: cs, h => by
    rw [List.map_cons, lcD_step (h c (List.mem_cons_self ..)), lcD_filS q (fun e he => h e (List.mem_cons_of_mem _ he)), List.filterMap_cons]
    show Out.ok _ _ = _
    cases F c <;> rfl
theorem forD_el {g : GV} {b : SV} {ds : List D} {ρ : Env} {o : SOut} (hf : forD g b ds ρ = o) (I : Nat → Env → Prop) (R : SOut → Prop) (h : I 0 ρ)
    (hs : ∀ (j : Nat) d ρ, ds[j]? = some d → I j ρ → (∃ ρ', (forS g b d ρ = .nx ρ' ∨ forS g b d ρ = .ct ρ') ∧ I (j + 1) ρ') ∨ (∃ r ρ', forS g b d ρ = .rt r ρ' ∧ R (.rt r ρ')) ∨ (∃ ρ', forS g b d ρ = .bk ρ' ∧ R (.nx ρ'))) :
    (∃ ρ', o = .nx ρ' ∧ I ds.length ρ') ∨ R o := by
  rcases forD_inv (g := g) (b := b) (I := I) (R := R) (n := 0) h (fun j d ρ hd hi => by simpa using hs j d ρ hd (by simpa using hi)) with ⟨ρ', e, hi⟩ | h
  · exact .inl ⟨ρ', hf ▸ e, by simpa using hi⟩
  · exact .inr (hf ▸ h)
theorem forD_el1 {g : GV} {b : SV} {ds : List D} {ρ : Env} {o : SOut} (hf : forD g b ds ρ = o) (I : Nat → Env → Prop) (h : I 0 ρ)
    (hs : ∀ (j : Nat) d ρ, ds[j]? = some d → I j ρ → ∃ ρ', (forS g b d ρ = .nx ρ' ∨ forS g b d ρ = .ct ρ') ∧ I (j + 1) ρ') : ∃ ρ', o = .nx ρ' ∧ I ds.length ρ' := by
  rcases forD_el hf I (fun _ => False) h (fun j d ρ hd hi => .inl (hs j d ρ hd hi)) with h | h
  · exact h
  · exact h.elim
theorem lcD_el {g : GV} {tt : TV} {f : EV} {vs : List Nat} {ds : List D} {ρ : Env} {o : Out (List D)} (hf : lcD g tt f vs ds ρ = o) (P : Env → Prop) (Q : D → D → Prop) (h : P ρ)
    (hs : ∀ d ∈ ds, ∀ ρ, P ρ → ∃ y ρ', lcS g tt f vs d ρ = .ok (some y) ρ' ∧ P ρ' ∧ Q d y) :
    ∃ ys ρ', o = .ok ys ρ' ∧ P ρ' ∧ ys.length = ds.length ∧ ∀ (i : Nat) d y, ds[i]? = some d → ys[i]? = some y → Q d y := by
  obtain ⟨ys, ρ', e, h⟩ := lcD_inv (Q := Q) h hs
  exact ⟨ys, ρ', hf ▸ e, h⟩
theorem join0_lst {ds : List D} : joinG [] (.lst ds) = oO (dStrs ds) fun css => br (decide ((css.map List.length).sum ≤ 16777216)) (some (.imm (.str css.flatten))) none := by
  rw [join_lst]
  cases dStrs ds with
  | none => rfl
  | some css =>
    show br (decide (_ + css.length * 0 ≤ _)) (some (Res.imm (.str (joinD [] css)))) none = _
    rw [joinD_nil]; rfl
theorem join0_tup {ds : List D} : joinG [] (.tup ds) = oO (dStrs ds) fun css => br (decide ((css.map List.length).sum ≤ 16777216)) (some (.imm (.str css.flatten))) none := by
  rw [join_tup]
  cases dStrs ds with
  | none => rfl
  | some css =>
    show br (decide (_ + css.length * 0 ≤ _)) (some (Res.imm (.str (joinD [] css)))) none = _
    rw [joinD_nil]; rfl
end DL
/-! Ev3: displays of dicts; slices; more. -/
namespace DL
open PySem PySem.Spec PyProof.Rows L2
def dispOk (ds : List D) : Bool := match pks ds with
  | some ks => distinct ks && decide (ks.length ≤ 15)
  | none => false
def dispK (ps : List (D × D)) (ρ1 : Env) : Out Pk := br (dispOk (ps.map (·.1))) (.ok (.res (.new (.dct (ps.map (·.1)) (ps.map (·.2))))) ρ1) .bad
theorem eDisp_ev {f : QV} {ρ : Env} : eDisp f ρ = (f ρ).bind dispK := by
  unfold eDisp
  congr
  funext ps ρ1
  unfold dispK dispOk
  cases h : pks (ps.map (·.1)) with
  | none => rfl
  | some ks =>
    show ite _ _ _ = br (distinct ks && decide (ks.length ≤ 15)) _ _
    rw [ite_br, Bool.decide_and]
    congr
    cases distinct ks <;> rfl
theorem prN_ev {ρ : Env} : prN ρ = .ok [] ρ := (rfl)
def prE (x y : D) : List (D × D) → QV := fun ps ρ3 => .ok ((x, y) :: ps) ρ3
theorem prE_ev {x y : D} {ps : List (D × D)} {ρ3 : Env} : prE x y ps ρ3 = .ok ((x, y) :: ps) ρ3 := (rfl)
def prK2 (r : QV) (a b : Pk) : QV := fun ρ2 => oB (pkI a) fun x => oB (pkI b) fun y => (r ρ2).bind (prE x y)
theorem prK2_ev {r : QV} {a b : Pk} {ρ2 : Env} : prK2 r a b ρ2 = oB (pkI a) fun x => oB (pkI b) fun y => (r ρ2).bind (prE x y) := (rfl)
def prK (fv : EV) (r : QV) (a : Pk) : QV := fun ρ1 => (fv ρ1).bind (prK2 r a)
theorem prK_ev {fv : EV} {r : QV} {a : Pk} {ρ1 : Env} : prK fv r a ρ1 = (fv ρ1).bind (prK2 r a) := (rfl)
theorem prC_ev {fk fv : EV} {r : QV} {ρ : Env} : prC fk fv r ρ = (fk ρ).bind (prK fv r) := by
  unfold prC
  congr
  funext a ρ1
  unfold prK
  congr
  funext b ρ2
  cases a with
  | «at» i => rfl
  | res ra =>
    cases ra with
    | new m => rfl
    | pair d m => rfl
    | imm x =>
      cases b with
      | «at» i => rfl
      | res rb => cases rb <;> rfl
theorem cstr_iff {a b : List Nat} : (cstr a = cstr b) ↔ a = b := ⟨fun h => by
    have := congrArg (fun s : Str => s.cps.toList) h
    simpa [cstr] using this, fun h => h ▸ rfl⟩
theorem dispOk1 {a : List Nat} : dispOk [.str a] = true := (rfl)
theorem dispOk2 {a b : List Nat} : dispOk [.str a, .str b] = !decide (b = a) := by
  have e : dispOk [.str a, .str b] = ((!(decide ((.inr (cstr b) : Key) = .inr (cstr a)) || false) && (!false && true)) && true) := (rfl)
  rw [e]
  have : decide ((.inr (cstr b) : Key) = .inr (cstr a)) = decide (b = a) := decide_eq_decide.mpr (by rw [Sum.inr.injEq, cstr_iff])
  rw [this]
  cases decide (b = a) <;> rfl
theorem dispOk3 {a b c : List Nat} : dispOk [.str a, .str b, .str c] = (!(decide (b = a) || decide (c = a)) && !decide (c = b)) := by
  have e : dispOk [.str a, .str b, .str c] = ((!(decide ((.inr (cstr b) : Key) = .inr (cstr a)) || (decide ((.inr (cstr c) : Key) = .inr (cstr a)) || false)) && (!(decide ((.inr (cstr c) : Key) = .inr (cstr b)) || false) && (!false && true))) && true) := (rfl)
  rw [e]
  have h (x y : List Nat) : decide ((.inr (cstr x) : Key) = .inr (cstr y)) = decide (x = y) := decide_eq_decide.mpr (by rw [Sum.inr.injEq, cstr_iff])
  rw [h, h, h]
  cases decide (b = a) <;> cases decide (c = a) <;> cases decide (c = b) <;> rfl
theorem kEq_str {a b : List Nat} : kEq (.str a) (.str b) = decide (a = b) := by
  have e : kEq (.str a) (.str b) = decide ((NestedKey.text (cstr a)) = .text (cstr b)) := by
    unfold kEq
    simp only [D.key]
  rw [e]
  exact decide_eq_decide.mpr (by rw [NestedKey.text.injEq, cstr_iff])
theorem kEq_int {a b : Int} : kEq (.int a) (.int b) = decide (a = b) := by
  have e : kEq (.int a) (.int b) = decide ((NestedKey.num a) = .num b) := by
    unfold kEq
    simp only [D.key]
  rw [e]
  exact decide_eq_decide.mpr (by rw [NestedKey.num.injEq])
theorem dLook_cons {a v k : D} {ks vs : List D} : dLook (a :: ks) (v :: vs) k = br (kEq a k) (some v) (dLook ks vs k) := by
  show (if kEq a k = true then some v else dLook ks vs k) = _
  cases kEq a k <;> rfl
theorem dLook_nil {k : D} : dLook [] [] k = none := (rfl)
def isK (d : D) : Bool := d.pk.isSome
theorem isK_str {a : List Nat} : isK (.str a) = true := (rfl)
theorem isK_int {a : Int} : isK (.int a) = true := (rfl)
theorem ixD_dct {ks vs : List D} {k : D} : ixD (.dct ks vs) k = br (isK k) (oO (dLook ks vs k) fun d => some (.imm d)) none := by
  show (if k.pk.isSome = true then (dLook ks vs k).map Res.imm else none) = _
  unfold isK
  cases k.pk.isSome with
  | false => rfl
  | true => show (dLook ks vs k).map _ = oO _ _; cases dLook ks vs k <;> rfl
def dGet (o : Option D) (z : D) : D := match o with
  | some d => d
  | none => z
theorem dGet_some {d z : D} : dGet (some d) z = d := (rfl)
theorem dGet_none {z : D} : dGet none z = z := (rfl)
def pkDct (k : Pk) : Option (List D × List D) := match k with
  | .res (.new (.dct ks vs)) => some (ks, vs)
  | _ => none
theorem pkDct_ev {ks vs : List D} : pkDct (.res (.new (.dct ks vs))) = some (ks, vs) := (rfl)
def get4 (p : List D × List D) (kk : Pk) : Pk → EV := fun kx ρ3 => oB (pkI kk) fun y => oB (pkI kx) fun z => br (isK y) (.ok (.res (.imm (dGet (dLook p.1 p.2 y) z))) ρ3) .bad
theorem get4_ev {p : List D × List D} {kk kx : Pk} {ρ3 : Env} : get4 p kk kx ρ3 = oB (pkI kk) fun y => oB (pkI kx) fun z => br (isK y) (.ok (.res (.imm (dGet (dLook p.1 p.2 y) z))) ρ3) .bad := (rfl)
def get3 (fx : EV) (p : List D × List D) : Pk → EV := fun kk ρ2 => (fx ρ2).bind (get4 p kk)
theorem get3_ev {fx : EV} {p : List D × List D} {kk : Pk} {ρ2 : Env} : get3 fx p kk ρ2 = (fx ρ2).bind (get4 p kk) := (rfl)
def get2 (fk fx : EV) (ρ1 : Env) (p : List D × List D) : Out Pk := (fk ρ1).bind (get3 fx p)
theorem get2_ev {fk fx : EV} {ρ1 : Env} {p : List D × List D} : get2 fk fx ρ1 p = (fk ρ1).bind (get3 fx p) := (rfl)
def getK (fk fx : EV) : Pk → EV := fun k ρ1 => oB (pkDct k) (get2 fk fx ρ1)
theorem getK_ev {fk fx : EV} {k : Pk} {ρ1 : Env} : getK fk fx k ρ1 = oB (pkDct k) (get2 fk fx ρ1) := (rfl)
theorem eGet2_ev {f fk fx : EV} {ρ : Env} : eGet2 f fk fx ρ = (f ρ).bind (getK fk fx) := by
  unfold eGet2
  congr
  funext k ρ1
  cases k with
  | «at» i => rfl
  | res r =>
    cases r with
    | imm d => rfl
    | pair d m => rfl
    | new m =>
      cases m with
      | lst ds => rfl
      | dcn ks vs => rfl
      | dct ks vs =>
        show (fk ρ1).bind _ = (fk ρ1).bind (get3 fx (ks, vs))
        congr
        funext kk ρ2
        unfold get3
        congr
        funext kx ρ3
        cases kk with
        | «at» i => rfl
        | res rk =>
          cases rk with
          | new m => rfl
          | pair d m => rfl
          | imm y =>
            cases kx with
            | «at» i => rfl
            | res rx =>
              cases rx with
              | new m => rfl
              | pair d m => rfl
              | imm z =>
                show ite _ _ _ = br (isK y) (Out.ok (Pk.res (Res.imm (dGet (dLook ks vs y) z))) ρ3) _
                unfold isK
                cases y.pk.isSome with
                | false => rfl
                | true =>
                  show Out.ok (Pk.res (Res.imm ((dLook ks vs y).getD z))) ρ3 = Out.ok (Pk.res (Res.imm (dGet (dLook ks vs y) z))) ρ3
                  cases dLook ks vs y <;> rfl
theorem lcD_elQ {g : GV} {tt : TV} {f : EV} {vs : List Nat} {ds : List D} {ρ : Env} {o : Out (List D)} (hf : lcD g tt f vs ds ρ = o) (P : Env → Prop) (Q : D → Prop) (h : P ρ)
    (hs : ∀ d ∈ ds, ∀ ρ, P ρ → ∃ y ρ', lcS g tt f vs d ρ = .ok (some y) ρ' ∧ P ρ' ∧ Q y) : ∃ ys ρ', o = .ok ys ρ' ∧ P ρ' ∧ ys.length = ds.length ∧ ∀ y ∈ ys, Q y := by
  obtain ⟨ys, ρ', e, hp, hl, hq⟩ := lcD_el hf P (fun _ y => Q y) h hs
  refine ⟨ys, ρ', e, hp, hl, fun y hy => ?_⟩
  obtain ⟨i, hi, e⟩ := List.mem_iff_getElem.mp hy
  exact hq i ds[i] y (List.getElem?_eq_getElem (by omega)) (by rw [List.getElem?_eq_getElem hi, e])
theorem rng_len (lo : Int) (n : Nat) : (rng lo n).length = n := by unfold rng; simp
theorem rng_mem {lo : Int} {n : Nat} {d : D} (h : d ∈ rng lo n) : ∃ i : Nat, i < n ∧ d = .int (lo + i) := by
  unfold rng at h
  obtain ⟨i, hi, rfl⟩ := List.mem_map.mp h
  exact ⟨i, List.mem_range.mp hi, rfl⟩
theorem rng_get {lo : Int} {n j : Nat} {d : D} (h : (rng lo n)[j]? = some d) : j < n ∧ d = .int (lo + j) := by
  unfold rng at h
  rw [List.getElem?_map] at h
  obtain ⟨i, hi, rfl⟩ := Option.map_eq_some_iff.mp h
  have := List.getElem?_eq_some_iff.mp hi
  obtain ⟨h1, h2⟩ := this
  simp at h1 h2
  subst h2
  exact ⟨h1, rfl⟩
def repT (k : Int) (ds : List D) : List D := (List.replicate k.toNat ds).flatten
theorem mul_tup {ds : List D} {k : Int} : mulG (.tup ds) (.int k) = br (decide (ds ≠ [] ∧ 2 ≤ k ∧ k ≤ 1000 ∧ ds.length ≤ 1000)) (some (.imm (.tup (repT k ds)))) none := by
  show (if ds ≠ [] ∧ 2 ≤ k ∧ k ≤ 1000 ∧ ds.length ≤ 1000 then _ else _) = _
  rw [ite_br]
  rfl
end DL
/-! Ev4: errors, refusals, handed defs. -/
namespace DL
open PySem PySem.Spec PyProof.Rows L2
theorem sRaise_ev {n : Nat} {ρ : Env} : sRaise n ρ = .exc ⟨n, none⟩ ρ := (rfl)
def refE (o : FOut) (ρ1 : Env) : Out Pk := match o with
  | .ret (.imm (.str cs)) none => .ok (.res (.imm (.str cs))) ρ1
  | _ => .bad
theorem refE_ev {cs : List Nat} {ρ1 : Env} : refE (.ret (.imm (.str cs)) none) ρ1 = .ok (.res (.imm (.str cs))) ρ1 := (rfl)
def refK (gE : Nat → FnD) (o : Out Pk) : Out Pk := match o with
  | .ok _ ρ1 => .ok (.res (.imm (.str []))) ρ1
  | .exc ⟨n, none⟩ ρ1 => refE (gE n none [.fn 999]) ρ1
  | _ => .bad
theorem eRef_ev {gE : Nat → FnD} {f : EV} {ρ : Env} : eRef gE f ρ = refK gE (f ρ) := by
  unfold eRef refK
  cases f ρ with
  | bad => rfl
  | ok k ρ1 => rfl
  | exc x ρ1 =>
    obtain ⟨n, a⟩ := x
    cases a with
    | some d => rfl
    | none =>
      show (match gE n none [.fn 999] with | .ret (.imm (.str cs)) none => _ | _ => _) = refE (gE n none [.fn 999]) ρ1
      unfold refE
      rfl
theorem refK_ok {gE : Nat → FnD} {k : Pk} {ρ1 : Env} : refK gE (.ok k ρ1) = .ok (.res (.imm (.str []))) ρ1 := (rfl)
theorem refK_exc {gE : Nat → FnD} {n : Nat} {ρ1 : Env} : refK gE (.exc ⟨n, none⟩ ρ1) = refE (gE n none [.fn 999]) ρ1 := (rfl)
def cvT (o : Option (Nat × FnD)) (args : AV) (ρ : Env) : Out Pk := match o with
  | some (np, g) => eCall np g args ρ
  | none => .bad
theorem cvT_ev {np : Nat} {g : FnD} {args : AV} {ρ : Env} : cvT (some (np, g)) args ρ = eCall np g args ρ := (rfl)
def cvK (FT : FTab) (args : AV) (ρ : Env) (s : Option Slot) : Out Pk := match s with
  | some (.imm (.fn n)) => cvT (FT n) args ρ
  | _ => .bad
theorem cvK_ev {FT : FTab} {args : AV} {ρ : Env} {n : Nat} : cvK FT args ρ (some (.imm (.fn n))) = cvT (FT n) args ρ := (rfl)
theorem eCallV_ev {FT : FTab} {i : Nat} {args : AV} {ρ : Env} : eCallV FT i args ρ = cvK FT args ρ ρ[i]? := by
  unfold eCallV cvK
  generalize ρ[i]? = o
  cases o with
  | none => rfl
  | some s =>
    cases s with
    | non => rfl
    | own m => rfl
    | bor m => rfl
    | imm d =>
      cases d with
      | fn n =>
        show _ = cvT (FT n) args ρ
        unfold cvT
        cases h : FT n with
        | none => simp only [h]
        | some p => simp only [h]
      | _ => rfl
theorem dispOk4 {a b c d : List Nat} : dispOk [.str a, .str b, .str c, .str d] = ((!(decide (b = a) || decide (c = a) || decide (d = a)) && !(decide (c = b) || decide (d = b))) && !decide (d = c)) := by
  have e : dispOk [.str a, .str b, .str c, .str d] = ((!(decide ((.inr (cstr b) : Key) = .inr (cstr a)) || (decide ((.inr (cstr c) : Key) = .inr (cstr a)) || (decide ((.inr (cstr d) : Key) = .inr (cstr a)) || false))) && (!(decide ((.inr (cstr c) : Key) = .inr (cstr b)) || (decide ((.inr (cstr d) : Key) = .inr (cstr b)) || false)) && (!(decide ((.inr (cstr d) : Key) = .inr (cstr c)) || false) && (!false && true)))) && true) := (rfl)
  rw [e]
  have h (x y : List Nat) : decide ((.inr (cstr x) : Key) = .inr (cstr y)) = decide (x = y) := decide_eq_decide.mpr (by rw [Sum.inr.injEq, cstr_iff])
  rw [h, h, h, h, h, h]
  cases decide (b = a) <;> cases decide (c = a) <;> cases decide (d = a) <;> cases decide (c = b) <;> cases decide (d = b) <;> cases decide (d = c) <;> rfl
theorem rev2_lst {ds : List D} : revG2 (.lst ds) = some (.new (.lst ds.reverse)) := (rfl)
theorem rev2_tup {ds : List D} : revG2 (.tup ds) = some (.imm (.tup ds.reverse)) := (rfl)
theorem rev2_str {ds : List Nat} : revG2 (.str ds) = some (.imm (.str ds.reverse)) := (rfl)
theorem mul2_int {i j : Int} : mulG2 (.int i) (.int j) = br (decide ((-(2 ^ 64) < i ∧ i < 2 ^ 64) ∨ (-(2 ^ 64) < j ∧ j < 2 ^ 64))) (some (.imm (.int (i * j)))) none := mulG_int
theorem mul2_tup {ds : List D} {k : Int} : mulG2 (.tup ds) (.int k) = br (decide (ds ≠ [] ∧ 2 ≤ k ∧ k ≤ 1000 ∧ ds.length ≤ 1000)) (some (.imm (.tup (repT k ds)))) none := mul_tup
theorem mul2_lst {ds : List D} {k : Int} : mulG2 (.lst ds) (.int k) = br (decide (-(2 ^ 63) ≤ k ∧ k < 2 ^ 63 ∧ ds.length * k.toNat ≤ sizeLine)) (some (.new (.lst (repT k ds)))) none := ite_br
/-- what a block gives back -/
def SOut.res? : SOut → Option Res
  | .rt r _ => some r
  | _ => none
theorem SOut.of_res {o : SOut} {r : Res} (h : o.res? = some r) : ∃ ρ, o = .rt r ρ := by
  cases o <;> simp only [SOut.res?, Option.some.injEq] at h <;> first | (subst h; exact ⟨_, rfl⟩) | cases h
end DL
/-! Ev5: dicts whose keys are tuples. -/
namespace DL
open PySem PySem.Spec PyProof.Rows L2
theorem eDnew_ev {ρ : Env} : eDnew ρ = .ok (.res (.new (.dcn [] []))) ρ := (rfl)
theorem in2_ev {neg : Bool} {d e : D} (h : ∀ ks vs, e ≠ .dcn ks vs) : inG2 neg d e = inG neg d e := by
  cases e <;> first | rfl | exact (h _ _ rfl).elim
theorem in2_str {neg : Bool} {d : D} {cs : List Nat} : inG2 neg d (.str cs) = inG neg d (.str cs) := (rfl)
theorem in2_lst {neg : Bool} {d : D} {cs : List D} : inG2 neg d (.lst cs) = inG neg d (.lst cs) := (rfl)
theorem in2_tup {neg : Bool} {d : D} {cs : List D} : inG2 neg d (.tup cs) = inG neg d (.tup cs) := (rfl)
theorem in2_dcn {neg : Bool} {d : D} {ks vs : List D} : inG2 neg d (.dcn ks vs) = br (kok d) (some (.imm (.bl (neg ^^ hasK ks d)))) none := by
  show (if kok d = true then _ else _) = _
  cases kok d with
  | false => rfl
  | true => cases neg <;> cases h : hasK ks d <;> rfl
theorem ix2_str {k : D} {cs : List Nat} : ixD2 (.str cs) k = ixD (.str cs) k := (rfl)
theorem ix2_lst {k : D} {cs : List D} : ixD2 (.lst cs) k = ixD (.lst cs) k := (rfl)
theorem ix2_tup {k : D} {cs : List D} : ixD2 (.tup cs) k = ixD (.tup cs) k := (rfl)
theorem ix2_seq {k : D} {cs : List Int} : ixD2 (.seq cs) k = ixD (.seq cs) k := (rfl)
theorem ix2_dct {k : D} {ks vs : List D} : ixD2 (.dct ks vs) k = ixD (.dct ks vs) k := (rfl)
theorem ix2_dcn {k : D} {ks vs : List D} : ixD2 (.dcn ks vs) k = br (kok k) (oO (dLook ks vs k) fun d => some (.imm d)) none := by
  show (if kok k = true then (dLook ks vs k).map Res.imm else none) = _
  cases kok k with
  | false => rfl
  | true => show (dLook ks vs k).map _ = oO _ _; cases dLook ks vs k <;> rfl
theorem list2_lst {ds : List D} : listG2 [.lst ds] = some (.new (.lst ds)) := (rfl)
theorem list2_str {cs : List Nat} : listG2 [.str cs] = some (.new (.lst (cs.map fun c => .str [c]))) := (rfl)
theorem list2_tup {ds : List D} : listG2 [.tup ds] = some (.new (.lst ds)) := (rfl)
theorem list2_dcn {ks vs : List D} : listG2 [.dcn ks vs] = br (decide (ks.length ≤ sizeLine)) (some (.new (.lst ks))) none := ite_br
def mDcn (m : M) : Option (List D × List D) := match m with
  | .dcn ks vs => some (ks, vs)
  | _ => none
theorem mDcn_dcn {ks vs : List D} : mDcn (.dcn ks vs) = some (ks, vs) := (rfl)
theorem dcnAt_ev {i : Nat} {ρ : Env} : dcnAt ρ i = oO (slotM ρ[i]?) mDcn := by
  unfold dcnAt slotM
  cases (ρ[i]?).bind Slot.obj? with
  | none => rfl
  | some m => cases m <;> rfl
def putD (ks vs : List D) (y d : D) : M := .dcn (putK ks vs y d).1 (putK ks vs y d).2
def putI (i : Nat) (d : D) : Pk → SV := fun k ρ2 => oS (pkI k) fun y => oS (slotM ρ2[i]?) fun m => oS (mDcn m) fun p => br (kok y && decide (p.1.length < sizeLine)) (.nx (ρ2.modify i (Slot.put (putD p.1 p.2 y d)))) .bad
theorem putI_ev {i : Nat} {d : D} {k : Pk} {ρ2 : Env} : putI i d k ρ2 = oS (pkI k) fun y => oS (slotM ρ2[i]?) fun m => oS (mDcn m) fun p => br (kok y && decide (p.1.length < sizeLine)) (.nx (ρ2.modify i (Slot.put (putD p.1 p.2 y d)))) .bad := (rfl)
def putX (i : Nat) (fi : EV) : Pk → SV := fun k ρ1 => oS (pkI k) fun d => oS (oO (slotM ρ1[i]?) mDcn) fun _ => (fi ρ1).sb (putI i d)
theorem putX_ev {i : Nat} {fi : EV} {k : Pk} {ρ1 : Env} : putX i fi k ρ1 = oS (pkI k) fun d => oS (oO (slotM ρ1[i]?) mDcn) fun _ => (fi ρ1).sb (putI i d) := (rfl)
theorem sPut_ev {i : Nat} {fi fe : EV} {ρ : Env} : sPut i fi fe ρ = (fe ρ).sb (putX i fi) := by
  unfold sPut
  rw [stB_ev]
  congr
  funext k ρ1
  unfold putX
  rw [dcnAt_ev]
  cases k with
  | «at» j => rfl
  | res r =>
    cases r with
    | new m => rfl
    | pair d m => rfl
    | imm d =>
      show (match oO (slotM ρ1[i]?) mDcn with | some _ => _ | none => _) = oS (oO (slotM ρ1[i]?) mDcn) _
      cases oO (slotM ρ1[i]?) mDcn with
      | none => rfl
      | some ds0 =>
        show stB fi _ ρ1 = (fi ρ1).sb _
        rw [stB_ev]
        congr
        funext ki ρ2
        unfold putI
        rw [dcnAt_ev]
        cases ki with
        | «at» j => rfl
        | res r =>
          cases r with
          | new m => rfl
          | pair d m => rfl
          | imm e =>
            show (match Pk.res (.imm e), oO (slotM ρ2[i]?) mDcn with | .res (.imm y), some (ks, vs) => _ | _, _ => _) = oS (slotM ρ2[i]?) _
            cases slotM ρ2[i]? with
            | none => rfl
            | some m =>
              show (match Pk.res (.imm e), mDcn m with | .res (.imm y), some (ks, vs) => _ | _, _ => _) = oS (mDcn m) _
              cases mDcn m with
              | none => rfl
              | some p =>
                show (if kok e = true ∧ p.1.length < sizeLine then _ else _) = br (kok e && decide (p.1.length < sizeLine)) _ _
                by_cases h : kok e = true ∧ p.1.length < sizeLine
                · rw [if_pos h, h.1, decide_eq_true h.2]; rfl
                · rw [if_neg h]
                  cases hk : kok e with
                  | false => rfl
                  | true => rw [decide_eq_false (fun z => h ⟨hk, z⟩)]; rfl
/-! a loop while a test holds -/
theorem sWhile_ev {t : TV} {b : SV} {ρ : Env} : sWhile t b ρ = whileD t b wfuel ρ := (rfl)
def whB (t : TV) (b : SV) (n : Nat) : SOut → SOut := fun o => match o with
  | .nx ρ2 => whileD t b n ρ2
  | .ct ρ2 => whileD t b n ρ2
  | .bk ρ2 => .nx ρ2
  | o => o
theorem whB_nx {t : TV} {b : SV} {n : Nat} {ρ2 : Env} : whB t b n (.nx ρ2) = whileD t b n ρ2 := (rfl)
theorem whB_ct {t : TV} {b : SV} {n : Nat} {ρ2 : Env} : whB t b n (.ct ρ2) = whileD t b n ρ2 := (rfl)
theorem whB_bk {t : TV} {b : SV} {n : Nat} {ρ2 : Env} : whB t b n (.bk ρ2) = .nx ρ2 := (rfl)
theorem whB_rt {t : TV} {b : SV} {n : Nat} {r : Res} {ρ2 : Env} : whB t b n (.rt r ρ2) = .rt r ρ2 := (rfl)
theorem whB_exc {t : TV} {b : SV} {n : Nat} {r : Ex} {ρ2 : Env} : whB t b n (.exc r ρ2) = .exc r ρ2 := (rfl)
def whT (t : TV) (b : SV) (n : Nat) : Bool → SV := fun k ρ1 => br k (whB t b n (b ρ1)) (.nx ρ1)
theorem whT_t {t : TV} {b : SV} {n : Nat} {ρ1 : Env} : whT t b n true ρ1 = whB t b n (b ρ1) := (rfl)
theorem whT_f {t : TV} {b : SV} {n : Nat} {ρ1 : Env} : whT t b n false ρ1 = .nx ρ1 := (rfl)
theorem whileD_ev {t : TV} {b : SV} {n : Nat} {ρ : Env} : whileD t b (n + 1) ρ = (t ρ).sb (whT t b n) := by
  show (match t ρ with | .ok true ρ1 => _ | .ok false ρ1 => _ | .exc x ρ1 => _ | .bad => _) = (t ρ).sb (whT t b n)
  cases t ρ with
  | bad => rfl
  | exc x ρ1 => rfl
  | ok k ρ1 =>
    cases k with
    | false => rfl
    | true =>
      show (match b ρ1 with | .nx ρ2 => _ | .ct ρ2 => _ | .bk ρ2 => _ | o => o) = whB t b n (b ρ1)
      cases b ρ1 <;> rfl
/-- a loop that a measure ends: behind each turn the invariant holds at a smaller one, or the loop is left -/
theorem whileD_run {t : TV} {b : SV} {I : Nat → Env → Prop} {R : SOut → Prop} (hs : ∀ m ρ, I m ρ → (∃ ρ1, t ρ = .ok false ρ1 ∧ R (.nx ρ1)) ∨ (∃ ρ1, t ρ = .ok true ρ1 ∧ ((∃ ρ2 m', (b ρ1 = .nx ρ2 ∨ b ρ1 = .ct ρ2) ∧ m' < m ∧ I m' ρ2) ∨ (∃ r ρ2, b ρ1 = .rt r ρ2 ∧ R (.rt r ρ2)) ∨ (∃ ρ2, b ρ1 = .bk ρ2 ∧ R (.nx ρ2))))) :
    ∀ (n : Nat) {m : Nat} {ρ : Env}, m < n → I m ρ → R (whileD t b n ρ)
  | 0, m, ρ, h, _ => absurd h (Nat.not_lt_zero _)
  | n + 1, m, ρ, h, hi => by
    rw [whileD_ev]
    rcases hs m ρ hi with ⟨ρ1, e, r⟩ | ⟨ρ1, e, ⟨ρ2, m', e2, hm, hi2⟩ | ⟨r, ρ2, e2, hr⟩ | ⟨ρ2, e2, hr⟩⟩
    · rw [e]; exact r
    · rw [e]
      show R (whB t b n (b ρ1))
      rcases e2 with e2 | e2 <;> rw [e2]
      · exact whileD_run hs n (by omega) hi2
      · exact whileD_run hs n (by omega) hi2
    · rw [e]
      show R (whB t b n (b ρ1))
      rw [e2]; exact hr
    · rw [e]
      show R (whB t b n (b ρ1))
      rw [e2]; exact hr
theorem fuel_big {m : Nat} (h : m ≤ 100000) : m < wfuel := by
  have : 100000 < wfuel := by decide
  omega
theorem eMkP_ev {f : AV} {ρ : Env} : eMkP f ρ = (f ρ).bind mkpK := (rfl)
theorem mkpK_ev {d : D} {m : M} {ρ : Env} : mkpK [.res (.imm d), .res (.new m)] ρ = .ok (.res (.pair d m)) ρ := (rfl)
theorem ePr_ev {b : Bool} {f : EV} {ρ : Env} : ePr b f ρ = (f ρ).bind (prjK b) := (rfl)
theorem prjK_f {d : D} {m : M} {ρ : Env} : prjK false (.res (.pair d m)) ρ = .ok (.res (.imm d)) ρ := (rfl)
theorem prjK_t {d : D} {m : M} {ρ : Env} : prjK true (.res (.pair d m)) ρ = .ok (.res (.new m)) ρ := (rfl)
theorem none_non {b : Bool} : isNoneG b .non = some (.imm (.bl (!b))) := (rfl)
theorem none_bl {b c : Bool} : isNoneG b (.bl c) = some (.imm (.bl b)) := (rfl)
theorem none_int {b : Bool} {i : Int} : isNoneG b (.int i) = some (.imm (.bl b)) := (rfl)
theorem none_str {b : Bool} {i : List Nat} : isNoneG b (.str i) = some (.imm (.bl b)) := (rfl)
theorem none_tup {b : Bool} {i : List D} : isNoneG b (.tup i) = some (.imm (.bl b)) := (rfl)
theorem none_lst {b : Bool} {i : List D} : isNoneG b (.lst i) = some (.imm (.bl b)) := (rfl)
def iqNK : Pk → Env → Out (List D) := fun k ρ1 => match k with
  | .res (.imm (.dcn ks _)) => br (decide (ks.length ≤ sizeLine)) (.ok ks ρ1) .bad
  | _ => .bad
theorem iqNK_ev {ks vs : List D} {ρ1 : Env} : iqNK (.res (.imm (.dcn ks vs))) ρ1 = br (decide (ks.length ≤ sizeLine)) (.ok ks ρ1) .bad := (rfl)
theorem iSeqN_ev {f : EV} {ρ : Env} : iSeqN f ρ = (f ρ).bind iqNK := by
  unfold iSeqN
  congr
  funext k ρ1
  cases k with
  | «at» i => rfl
  | res r =>
    cases r with
    | new m => rfl
    | pair d m => rfl
    | imm d =>
      cases d with
      | dcn ks vs =>
        show (if ks.length ≤ sizeLine then _ else _) = br (decide (ks.length ≤ sizeLine)) _ _
        by_cases hl : ks.length ≤ sizeLine
        · rw [if_pos hl, decide_eq_true hl]; rfl
        · rw [if_neg hl, decide_eq_false hl]; rfl
      | _ => rfl
end DL
/-! Ev6: evaluation of what X1, X2 bring. -/
namespace DL
open PySem PySem.Spec PyProof.Rows L2
theorem pkSlot_imm {d : D} : pkSlot (.res (.imm d)) = some (.imm d) := (rfl)
theorem pkSlot_new {m : M} : pkSlot (.res (.new m)) = some (.own m) := (rfl)
def pgK2 (i j : Nat) (k1 : Pk) : Pk → SV := fun k2 ρ => oS (pkSlot k1) fun s => oS (pkSlot k2) fun t => .nx ((ρ.set i s).set j t)
def pgK1 (i j : Nat) (g : EV) : Pk → SV := fun k1 ρ => (g ρ).sb (pgK2 i j k1)
theorem pgK2_ev {i j : Nat} {k1 k2 : Pk} {ρ : Env} : pgK2 i j k1 k2 ρ = oS (pkSlot k1) fun s => oS (pkSlot k2) fun t => .nx ((ρ.set i s).set j t) := (rfl)
theorem pgK1_ev {i j : Nat} {g : EV} {k1 : Pk} {ρ : Env} : pgK1 i j g k1 ρ = (g ρ).sb (pgK2 i j k1) := (rfl)
theorem sParG_ev {i j : Nat} {f g : EV} {ρ : Env} : sParG i j f g ρ = (f ρ).sb (pgK1 i j g) := by
  unfold sParG
  rw [stB_ev]
  congr 1
  funext k1 ρ1
  rw [stB_ev]
  unfold pgK1
  congr 1
  funext k2 ρ2
  unfold pgK2
  cases pkSlot k1 <;> cases pkSlot k2 <;> rfl
def phK3 (i j l : Nat) (k1 k2 : Pk) : Pk → SV := fun k3 ρ => oS (pkSlot k1) fun s => oS (pkSlot k2) fun t => oS (pkSlot k3) fun u => .nx (((ρ.set i s).set j t).set l u)
def phK2 (i j l : Nat) (h : EV) (k1 : Pk) : Pk → SV := fun k2 ρ => (h ρ).sb (phK3 i j l k1 k2)
def phK1 (i j l : Nat) (g h : EV) : Pk → SV := fun k1 ρ => (g ρ).sb (phK2 i j l h k1)
theorem phK3_ev {i j l : Nat} {k1 k2 k3 : Pk} {ρ : Env} : phK3 i j l k1 k2 k3 ρ = oS (pkSlot k1) fun s => oS (pkSlot k2) fun t => oS (pkSlot k3) fun u => .nx (((ρ.set i s).set j t).set l u) := (rfl)
theorem phK2_ev {i j l : Nat} {h : EV} {k1 k2 : Pk} {ρ : Env} : phK2 i j l h k1 k2 ρ = (h ρ).sb (phK3 i j l k1 k2) := (rfl)
theorem phK1_ev {i j l : Nat} {g h : EV} {k1 : Pk} {ρ : Env} : phK1 i j l g h k1 ρ = (g ρ).sb (phK2 i j l h k1) := (rfl)
theorem sParG3_ev {i j l : Nat} {f g h : EV} {ρ : Env} : sParG3 i j l f g h ρ = (f ρ).sb (phK1 i j l g h) := by
  unfold sParG3
  rw [stB_ev]
  congr 1
  funext k1 ρ1
  rw [stB_ev]
  unfold phK1
  congr 1
  funext k2 ρ2
  rw [stB_ev]
  unfold phK2
  congr 1
  funext k3 ρ3
  unfold phK3
  cases pkSlot k1 <;> cases pkSlot k2 <;> cases pkSlot k3 <;> rfl
theorem mul3_tup {ds : List D} {k : Int} : mulG3 (.tup ds) (.int k) = br (decide (-(2 ^ 63) ≤ k ∧ k < 2 ^ 63 ∧ (ds = [] ∨ k = 1))) (some (.imm (.tup ds))) (br (decide (-(2 ^ 63) ≤ k ∧ k ≤ 0)) (some (.imm (.tup []))) (mulG2 (.tup ds) (.int k))) := by
  show (if _ then _ else (if _ then _ else _)) = _
  rw [← ite_br, ← ite_br]
def lixK (fe : EV) : Pk → EV := fun k ρ1 => br (isLst (k.view ρ1)) ((fe ρ1).bind (k2 lixG k)) .bad
theorem lixK_ev {fe : EV} {k : Pk} {ρ1 : Env} : lixK fe k ρ1 = br (isLst (k.view ρ1)) ((fe ρ1).bind (k2 lixG k)) .bad := (rfl)
theorem eLIx_ev {f fe : EV} {ρ : Env} : eLIx f fe ρ = (f ρ).bind (lixK fe) := by
  unfold eLIx
  congr 1
  funext k ρ1
  unfold lixK
  cases isLst (k.view ρ1)
  · rfl
  · show (fe ρ1).bind _ = (fe ρ1).bind _
    congr 1
    funext k2' ρ2
    exact k2_eq
theorem isLst_lst {ds : List D} : isLst (some (.lst ds)) = true := (rfl)
theorem lixG_lst {ds : List D} {e : D} : lixG (.lst ds) e = br (decide (D.deps ds ≤ 60 ∧ e.dep ≤ 60)) ((ixOf ds e).map fun j : Nat => Res.imm (.int (j : Int))) none := by
  show (if _ then _ else _) = _
  rw [← ite_br]
theorem dictG_lst {ds : List D} : dictG [.lst ds] = oO (prsOf ds) fun prs => br (decide (prs.all (fun p => kok p.1) = true ∧ prs.length ≤ sizeLine)) (some (.new (.dcn (putAll [] [] prs).1 (putAll [] [] prs).2))) none := by
  show (match prsOf ds with | some prs => _ | none => _) = _
  cases prsOf ds with
  | none => rfl
  | some prs =>
    show (if _ then _ else _) = br _ _ _
    rw [← ite_br]
theorem prsOf_map {α : Type} (f g : α → D) : ∀ xs : List α, prsOf (xs.map fun x => .tup [f x, g x]) = some (xs.map fun x => (f x, g x))
  | [] => rfl
  | x :: xs => by
    show (prsOf (xs.map fun x => .tup [f x, g x])).map ((f x, g x) :: ·) = _
    rw [prsOf_map f g xs]
    rfl
theorem isDcn_dcn {ks vs : List D} : isDcn (some (.dcn ks vs)) = true := (rfl)
def getR (k k2 k3 : Pk) (ρ3 : Env) : Out Pk := match k.view ρ3, k2, k3 with
  | some (.dcn ks vs), .res (.imm y), .res (.imm z) => if kok y = true then .ok (.res (.imm ((dLook ks vs y).getD z))) ρ3 else .bad
  | _, _, _ => .bad
def gnK3 (k k2 : Pk) : Pk → EV := fun k3 ρ3 => getR k k2 k3 ρ3
def gnK2 (fx : EV) (k : Pk) : Pk → EV := fun k2 ρ2 => (fx ρ2).bind (gnK3 k k2)
def gnK1 (fk fx : EV) : Pk → EV := fun k ρ1 => br (isDcn (k.view ρ1)) ((fk ρ1).bind (gnK2 fx k)) .bad
theorem gnK1_ev {fk fx : EV} {k : Pk} {ρ1 : Env} : gnK1 fk fx k ρ1 = br (isDcn (k.view ρ1)) ((fk ρ1).bind (gnK2 fx k)) .bad := (rfl)
theorem gnK2_ev {fx : EV} {k k2 : Pk} {ρ2 : Env} : gnK2 fx k k2 ρ2 = (fx ρ2).bind (gnK3 k k2) := (rfl)
def gnR (y z : D) (ρ : Env) (o : Option D) : Out Pk := match o with
  | some (.dcn ks vs) => br (kok y) (.ok (.res (.imm ((dLook ks vs y).getD z))) ρ) .bad
  | _ => .bad
theorem gnR_dcn {y z : D} {ρ : Env} {ks vs : List D} : gnR y z ρ (some (.dcn ks vs)) = br (kok y) (.ok (.res (.imm ((dLook ks vs y).getD z))) ρ) .bad := (rfl)
theorem gnK3_ev {k : Pk} {y z : D} {ρ3 : Env} : gnK3 k (.res (.imm y)) (.res (.imm z)) ρ3 = gnR y z ρ3 (k.view ρ3) := by
  unfold gnK3 getR gnR
  cases k.view ρ3 with
  | none => rfl
  | some d => cases d <;> first | rfl | (simp only []; cases kok y <;> rfl)
theorem eGetN_ev {fo fk fx : EV} {ρ : Env} : eGetN fo fk fx ρ = (fo ρ).bind (gnK1 fk fx) := by
  unfold eGetN
  congr 1
  funext k ρ1
  unfold gnK1
  cases isDcn (k.view ρ1)
  · rfl
  · show (fk ρ1).bind _ = (fk ρ1).bind _
    congr 1
theorem mul4_str {cs : List Nat} {k : Int} : mulG4 (.str cs) (.int k) = br (decide (cs.length ≤ 1000 ∧ -1000 ≤ k ∧ k ≤ 1000)) (some (.imm (.str (List.replicate k.toNat cs).flatten))) none := by
  show (if _ then _ else _) = _
  rw [← ite_br]
theorem len2_dcn {ks vs : List D} : lenG2 [.dcn ks vs] = some (.imm (.int ks.length)) := (rfl)
end DL
namespace DL
open PySem PySem.Spec PyProof.Rows L2
def d_FACES : D := D.dct [(D.str [117]), (D.str [112]), (D.str [113]), (D.str [100]), (D.str [118]), (D.str [119])] [(D.tup [(D.str [100, 111, 119, 110]), (D.str [108, 101, 102, 116]), (D.str [114, 105, 103, 104, 116]), (D.str [117, 112])]), (D.tup [(D.str [100, 111, 119, 110]), (D.str [114, 105, 103, 104, 116])]), (D.tup [(D.str [108, 101, 102, 116]), (D.str [117, 112])]), (D.tup [(D.str [100, 111, 119, 110]), (D.str [108, 101, 102, 116]), (D.str [114, 105, 103, 104, 116]), (D.str [117, 112])]), (D.tup [(D.str [100, 111, 119, 110]), (D.str [108, 101, 102, 116])]), (D.tup [(D.str [114, 105, 103, 104, 116]), (D.str [117, 112])])]
def d_FALLING : D := D.dct [(D.str [108, 101, 102, 116]), (D.str [100, 111, 119, 110]), (D.str [114, 105, 103, 104, 116]), (D.str [117, 112])] [(D.str [117, 112]), (D.str [114, 105, 103, 104, 116]), (D.str [100, 111, 119, 110]), (D.str [108, 101, 102, 116])]
def d_RISING : D := D.dct [(D.str [114, 105, 103, 104, 116]), (D.str [100, 111, 119, 110]), (D.str [108, 101, 102, 116]), (D.str [117, 112])] [(D.str [117, 112]), (D.str [108, 101, 102, 116]), (D.str [100, 111, 119, 110]), (D.str [114, 105, 103, 104, 116])]
def d_STEPS : D := D.dct [(D.str [100, 111, 119, 110]), (D.str [108, 101, 102, 116]), (D.str [114, 105, 103, 104, 116]), (D.str [117, 112])] [(D.tup [(D.int 1), (D.int 0)]), (D.tup [(D.int 0), (D.int (-1))]), (D.tup [(D.int 0), (D.int 1)]), (D.tup [(D.int (-1)), (D.int 0)])]
def b_is_within : SV := (sRet (eAnd (eIsi "int" (eV 0)) (eAnd (eNot (eIsi "bool" (eV 0))) (e3 leG leG (eV 1) (eV 0) (eV 2)))))
def m_is_within : FnD := mkF 3 0 b_is_within

def b_is_column : SV := (sRet (eAnd (eIsi "str" (eV 0)) (eAnd (e2 eqG (eB lenG (aCons (eV 0) aNil)) (eV 1)) (eB allG (aCons (eLc (iSeq (frzE (eV 0))) (gN 3) tyYes (e2 (inG2 false) (eV 3) (eV 2)) [3]) aNil)))))
def m_is_column : FnD := mkF 3 1 b_is_column

def b_are_columns : SV := (sSeq (sIf (tyOr (tyNot (bT (eIsi "tuple" (eV 0)))) (bT (e2 gtG (eB lenG (aCons (eV 0) aNil)) (eV 2)))) (sRet (eC (.bl false))) sNext)
    (sRet (eB allG (aCons (eLc (iSeq (frzE (eV 0))) (gN 4) tyYes (frzE (eCall 3 m_is_column (aCons (eV 4) (aCons (eV 1) (aCons (eV 3) aNil))))) [4]) aNil))))
def m_are_columns : FnD := mkF 4 1 b_are_columns

def b_is_pair : SV := (sRet (eAnd (eIsi "tuple" (eV 0)) (e2 eqG (eB lenG (aCons (eV 0) aNil)) (eC (.int 2)))))
def m_is_pair : FnD := mkF 1 0 b_is_pair

def b_is_right_strip : SV := (sSeq (sIf (tyOr (tyNot (bT (eCall 1 m_is_pair (aCons (eV 0) aNil)))) (tyNot (bT (eCall 3 m_is_within (aCons (e2 ixD2 (eV 0) (eC (.int 0))) (aCons (eC (.int 1)) (aCons (eC (.int 3)) aNil))))))) (sRet (eC (.bl false))) sNext)
    (sRet (eCall 4 m_are_columns (aCons (e2 ixD2 (eV 0) (eC (.int 1))) (aCons (e2 ixD2 (eV 0) (eC (.int 0))) (aCons (eC (.int 40)) (aCons (eC (.str [35, 46, 100, 112, 113, 117, 118, 119])) aNil)))))))
def m_is_right_strip : FnD := mkF 1 0 b_is_right_strip

def b_need_strip : SV := (sIf (tyNot (bT (eCall 1 m_is_right_strip (aCons (eV 0) aNil)))) (sRaise 0) sNext)
def m_need_strip : FnD := mkF 1 0 b_need_strip

def b_onward : SV := (sSeq (sIf (bT (e2 eqG (eV 0) (eC (.str [35])))) (sRet (eC (.str []))) sNext)
    (sSeq (sIf (tyOr (bT (e2 eqG (eV 0) (eC (.str [46])))) (bT (e2 (inG2 true) (eV 1) (e2 ixD2 (eC d_FACES) (eV 0))))) (sRet (eV 1)) sNext)
    (sRet (eIf (bT (e2 (inG2 false) (eV 0) (eC (.str [112, 113, 117])))) (e2 ixD2 (eC d_RISING) (eV 1)) (e2 ixD2 (eC d_FALLING) (eV 1))))))
def m_onward : FnD := mkF 2 0 b_onward

def b_entry : SV := (sSeq (sAsg (eV 1) (gT 2 (gsC (gN 2) (gsC (gN 3) gsN))))
    (sSeq (sIf (bT (e2 eqG (eV 2) (eC (.str [108, 101, 102, 116])))) (sRet (eTup (aCons (frzE (eV 3)) (aCons (eC (.int 0)) (aCons (eC (.str [114, 105, 103, 104, 116])) aNil))))) sNext)
    (sSeq (sIf (bT (e2 eqG (eV 2) (eC (.str [114, 105, 103, 104, 116])))) (sRet (eTup (aCons (frzE (eV 3)) (aCons (e2 subG (eB lenG (aCons (e2 ixD2 (eV 0) (eC (.int 1))) aNil)) (eC (.int 1))) (aCons (eC (.str [108, 101, 102, 116])) aNil))))) sNext)
    (sRet (eIf (bT (e2 eqG (eV 2) (eC (.str [116, 111, 112])))) (eTup (aCons (eC (.int 0)) (aCons (frzE (eV 3)) (aCons (eC (.str [100, 111, 119, 110])) aNil)))) (eTup (aCons (e2 subG (e2 ixD2 (eV 0) (eC (.int 0))) (eC (.int 1))) (aCons (frzE (eV 3)) (aCons (eC (.str [117, 112])) aNil)))))))))
def m_entry : FnD := mkF 2 2 b_entry

def b_exit_of : SV := (sSeq (sAsg (eV 1) (gT 3 (gsC (gN 2) (gsC (gN 3) (gsC (gN 4) gsN)))))
    (sSeq (sIf (bT (e2 ltG (eV 3) (eC (.int 0)))) (sRet (eTup (aCons (eC (.str [108, 101, 102, 116])) (aCons (frzE (eV 2)) aNil)))) sNext)
    (sSeq (sIf (bT (e2 geG (eV 3) (eB lenG (aCons (e2 ixD2 (eV 0) (eC (.int 1))) aNil)))) (sRet (eTup (aCons (eC (.str [114, 105, 103, 104, 116])) (aCons (frzE (eV 2)) aNil)))) sNext)
    (sSeq (sIf (bT (e2 ltG (eV 2) (eC (.int 0)))) (sRet (eTup (aCons (eC (.str [116, 111, 112])) (aCons (frzE (eV 3)) aNil)))) sNext)
    (sRet (eIf (bT (e2 geG (eV 2) (e2 ixD2 (eV 0) (eC (.int 0))))) (eTup (aCons (eC (.str [98, 111, 116, 116, 111, 109])) (aCons (frzE (eV 3)) aNil))) (eC .non)))))))
def m_exit_of : FnD := mkF 2 3 b_exit_of

def b_moved : SV := (sSeq (sAsg (eV 1) (gT 3 (gsC (gN 2) (gsC (gN 3) (gsC (gN 4) gsN)))))
    (sSeq (sSet 4 (eCall 2 m_onward (aCons (e2 ixD2 (e2 ixD2 (e2 ixD2 (eV 0) (eC (.int 1))) (frzE (eV 3))) (frzE (eV 2))) (aCons (frzE (eV 4)) aNil))))
    (sSeq (sIf (bT (e2 eqG (eV 4) (eC (.str [])))) (sRet (eC .non)) sNext)
    (sSeq (sAsg (e2 ixD2 (eC d_STEPS) (frzE (eV 4))) (gT 2 (gsC (gN 5) (gsC (gN 6) gsN))))
    (sRet (eTup (aCons (frzE (e2 addG (eV 2) (eV 5))) (aCons (frzE (e2 addG (eV 3) (eV 6))) (aCons (frzE (eV 4)) aNil)))))))))
def m_moved : FnD := mkF 2 5 b_moved

def b1_followed : SV := (sSeq (sIf (bT (e2 (inG2 false) (eV 2) (eV 3))) (sRet (eMkP (aCons (eTup (aCons (eC (.str [99, 97, 117, 103, 104, 116])) (aCons (eC (.int 0)) aNil))) (aCons (eB listG2 (aCons (eV 3) aNil)) aNil)))) sNext)
    (sSeq (sPut 3 (frzE (eV 2)) (eC (.bl true)))
    (sSet 2 (eCall 2 m_moved (aCons (eV 0) (aCons (frzE (eV 2)) aNil))))))
def r1_followed : SV := (sSeq (sSet 4 (frzE (eIf (bT (e1 (isNoneG false) (eV 2))) (eTup (aCons (eC (.str [115, 116, 111, 112, 112, 101, 100])) (aCons (eC (.int 0)) aNil))) (eCall 2 m_exit_of (aCons (eV 0) (aCons (frzE (eV 2)) aNil))))))
    (sRet (eMkP (aCons (frzE (eV 4)) (aCons (eB listG2 (aCons (eV 3) aNil)) aNil)))))
def b_followed : SV := (sSeq (sSet 2 (eCall 2 m_entry (aCons (eV 0) (aCons (eV 1) aNil))))
    (sSeq (sSet 3 eDnew)
    (sSeq (sWhile (tyAnd (bT (e1 (isNoneG true) (eV 2))) (bT (e1 (isNoneG false) (eCall 2 m_exit_of (aCons (eV 0) (aCons (frzE (eV 2)) aNil)))))) b1_followed)
    r1_followed)))
def m_followed : FnD := mkF 2 3 b_followed

def b_plain_end : SV := (sRet (eIf (bT (e2 (inG2 false) (e2 ixD2 (eV 0) (eC (.int 0))) (eTup (aCons (eC (.str [108, 101, 102, 116])) (aCons (eC (.str [114, 105, 103, 104, 116])) aNil))))) (eV 0) (eTup (aCons (e2 ixD2 (eV 0) (eC (.int 0))) (aCons (eC (.int 0)) aNil)))))
def m_plain_end : FnD := mkF 1 0 b_plain_end

def b_end_at : SV := (sRet (eCall 1 m_plain_end (aCons (ePr false (eCall 2 m_followed (aCons (eV 0) (aCons (eTup (aCons (eV 1) (aCons (eV 2) aNil))) aNil)))) aNil)))
def m_end_at : FnD := mkF 3 0 b_end_at

def b_table_of : SV := (sSeq (sSet 1 (eLc (iL (iR1 (aCons (e2 ixD2 (eV 0) (eC (.int 0))) aNil))) (gN 2) tyYes (frzE (eCall 3 m_end_at (aCons (eV 0) (aCons (eC (.str [108, 101, 102, 116])) (aCons (eV 2) aNil))))) [2]))
    (sRet (eTup (aCons (eB tupleG (aCons (eV 1) aNil)) (aCons (eB tupleG (aCons (eLc (iL (iR1 (aCons (e2 ixD2 (eV 0) (eC (.int 0))) aNil))) (gN 2) tyYes (frzE (eCall 3 m_end_at (aCons (eV 0) (aCons (eC (.str [114, 105, 103, 104, 116])) (aCons (eV 2) aNil))))) [2]) aNil)) aNil)))))
def m_table_of : FnD := mkF 1 2 b_table_of

def b1_chased : SV := (sSeq (sIf (bT (e2 (inG2 false) (eTup (aCons (frzE (eV 4)) (aCons (frzE (eV 5)) aNil))) (eV 6))) (sRet (eTup (aCons (eC (.str [99, 97, 117, 103, 104, 116])) (aCons (eC (.int 0)) aNil)))) sNext)
    (sSeq (sPut 6 (eTup (aCons (frzE (eV 4)) (aCons (frzE (eV 5)) aNil))) (eC (.bl true)))
    (sSeq (sSet 5 (eIf (bT (e2 eqG (eV 4) (eC (.int 0)))) (e2 ixD2 (e2 ixD2 (eV 1) (eC (.int 0))) (e2 ixD2 (eV 5) (eC (.int 1)))) (e2 ixD2 (e2 ixD2 (eV 0) (eC (.int 1))) (e2 ixD2 (eV 5) (eC (.int 1))))))
    (sSet 4 (e2 subG (eC (.int 1)) (eV 4))))))
def r1_chased : SV := (sRet (eV 5))
def b_chased : SV := (sSeq (sAsg (eIf (bT (e2 eqG (eV 2) (eC (.str [108, 101, 102, 116])))) (eTup (aCons (eC (.int 0)) (aCons (e2 ixD2 (e2 ixD2 (eV 0) (eC (.int 0))) (eV 3)) aNil))) (eTup (aCons (eC (.int 1)) (aCons (e2 ixD2 (e2 ixD2 (eV 1) (eC (.int 1))) (eV 3)) aNil)))) (gT 2 (gsC (gN 4) (gsC (gN 5) gsN))))
    (sSeq (sSet 6 eDnew)
    (sSeq (sWhile (bT (e2 eqG (e2 ixD2 (eV 5) (eC (.int 0))) (eIf (bT (e2 eqG (eV 4) (eC (.int 0)))) (eC (.str [114, 105, 103, 104, 116])) (eC (.str [108, 101, 102, 116]))))) b1_chased)
    r1_chased)))
def m_chased : FnD := mkF 4 3 b_chased

def b_multiplied : SV := (sSeq (sSet 2 (eB lenG (aCons (e2 ixD2 (eV 0) (eC (.int 0))) aNil)))
    (sSeq (sSet 3 (eLc (iL (iR1 (aCons (frzE (eV 2)) aNil))) (gN 4) tyYes (frzE (eCall 4 m_chased (aCons (eV 0) (aCons (eV 1) (aCons (eC (.str [108, 101, 102, 116])) (aCons (eV 4) aNil)))))) [4]))
    (sRet (eTup (aCons (eB tupleG (aCons (eV 3) aNil)) (aCons (eB tupleG (aCons (eLc (iL (iR1 (aCons (frzE (eV 2)) aNil))) (gN 4) tyYes (frzE (eCall 4 m_chased (aCons (eV 0) (aCons (eV 1) (aCons (eC (.str [114, 105, 103, 104, 116])) (aCons (eV 4) aNil)))))) [4]) aNil)) aNil))))))
def m_multiplied : FnD := mkF 2 3 b_multiplied

def b_is_word : SV := (sSeq (sIf (tyOr (tyNot (bT (eCall 1 m_is_pair (aCons (eV 0) aNil)))) (tyOr (tyNot (bT (eCall 4 m_are_columns (aCons (e2 ixD2 (eV 0) (eC (.int 0))) (aCons (eV 1) (aCons (eC (.int 6)) (aCons (eC (.str [35, 46, 100, 112, 113, 117, 118, 119])) aNil))))))) (bT (e2 eqG (e2 ixD2 (eV 0) (eC (.int 0))) (eTup aNil))))) (sRet (eC (.bl false))) sNext)
    (sRet (eCall 3 m_is_within (aCons (e2 ixD2 (eV 0) (eC (.int 1))) (aCons (eC (.int 1)) (aCons (eC (.int 1000000000000000000000000000000)) aNil))))))
def m_is_word : FnD := mkF 2 0 b_is_word

def b_are_right_parts : SV := (sSeq (sIf (tyOr (tyNot (bT (eCall 1 m_is_pair (aCons (eV 0) aNil)))) (tyNot (bT (eCall 3 m_is_within (aCons (e2 ixD2 (eV 0) (eC (.int 0))) (aCons (eC (.int 1)) (aCons (eC (.int 3)) aNil))))))) (sRet (eC (.bl false))) sNext)
    (sSeq (sIf (tyOr (tyNot (bT (eIsi "tuple" (e2 ixD2 (eV 0) (eC (.int 1)))))) (bT (e2 gtG (eB lenG (aCons (e2 ixD2 (eV 0) (eC (.int 1))) aNil)) (eC (.int 4))))) (sRet (eC (.bl false))) sNext)
    (sRet (eB allG (aCons (eLc (iSeq (frzE (e2 ixD2 (eV 0) (eC (.int 1))))) (gN 1) tyYes (frzE (eCall 2 m_is_word (aCons (eV 1) (aCons (e2 ixD2 (eV 0) (eC (.int 0))) aNil)))) [1]) aNil)))))
def m_are_right_parts : FnD := mkF 1 1 b_are_right_parts

def b_need_parts : SV := (sIf (tyNot (bT (eCall 1 m_are_right_parts (aCons (eV 0) aNil)))) (sRaise 11) sNext)
def m_need_parts : FnD := mkF 1 0 b_need_parts

def b1_powered : SV := (sSeq (sIf (bT (e2 eqG (e2 modG (eV 1) (eC (.int 2))) (eC (.int 1)))) (sSet 2 (eCall 2 m_multiplied (aCons (frzE (eV 2)) (aCons (frzE (eV 0)) aNil)))) sNext)
    (sSeq (sSet 0 (eCall 2 m_multiplied (aCons (frzE (eV 0)) (aCons (frzE (eV 0)) aNil))))
    (sSet 1 (e2 fdivG (eV 1) (eC (.int 2))))))
def r1_powered : SV := (sRet (eV 2))
def b_powered : SV := (sSeq (sSet 2 (eCall 1 m_table_of (aCons (eTup (aCons (eB lenG (aCons (e2 ixD2 (eV 0) (eC (.int 0))) aNil)) (aCons (eTup aNil) aNil))) aNil)))
    (sSeq (sWhile (bT (e2 gtG (eV 1) (eC (.int 0)))) b1_powered)
    r1_powered))
def m_powered : FnD := mkF 2 1 b_powered

def b1_long_table : SV := (sSet 1 (eCall 2 m_multiplied (aCons (frzE (eV 1)) (aCons (frzE (eCall 2 m_powered (aCons (frzE (eCall 1 m_table_of (aCons (eTup (aCons (e2 ixD2 (eV 0) (eC (.int 0))) (aCons (eV 2) aNil))) aNil))) (aCons (eV 3) aNil)))) aNil))))
def r1_long_table : SV := (sRet (eV 1))
def b_long_table : SV := (sSeq (sDrop (eCall 1 m_need_parts (aCons (eV 0) aNil)))
    (sSeq (sSet 1 (eCall 1 m_table_of (aCons (eTup (aCons (e2 ixD2 (eV 0) (eC (.int 0))) (aCons (eTup aNil) aNil))) aNil)))
    (sSeq (sFor (iSeq (frzE (e2 ixD2 (eV 0) (eC (.int 1))))) (gT 2 (gsC (gN 2) (gsC (gN 3) gsN))) b1_long_table)
    r1_long_table)))
def m_long_table : FnD := mkF 1 3 b_long_table

def b_count_columns : SV := (sSeq (sDrop (eCall 1 m_need_parts (aCons (eV 0) aNil)))
    (sRet (eB sumG (aCons (eLc (iSeq (frzE (e2 ixD2 (eV 0) (eC (.int 1))))) (gT 2 (gsC (gN 1) (gsC (gN 2) gsN))) tyYes (e2 mulG2 (eB lenG (aCons (eV 1) aNil)) (eV 2)) [1, 2]) aNil))))
def m_count_columns : FnD := mkF 1 2 b_count_columns

def b1_come_round : SV := (sSeq (sPut 3 (frzE (eV 2)) (eB lenG2 (aCons (eV 3) aNil)))
    (sSet 2 (eCall 2 m_multiplied (aCons (frzE (eV 2)) (aCons (frzE (eV 1)) aNil)))))
def r1_come_round : SV := (sRet (eTup (aCons (e2 ixD2 (eV 3) (frzE (eV 2))) (aCons (e2 subG (eB lenG2 (aCons (eV 3) aNil)) (e2 ixD2 (eV 3) (frzE (eV 2)))) aNil))))
def b_come_round : SV := (sSeq (sDrop (eCall 1 m_need_strip (aCons (eV 0) aNil)))
    (sSeq (sPar 1 2 (aCons (frzE (eCall 1 m_table_of (aCons (eV 0) aNil))) (aCons (frzE (eCall 1 m_table_of (aCons (eTup (aCons (e2 ixD2 (eV 0) (eC (.int 0))) (aCons (eTup aNil) aNil))) aNil))) aNil)))
    (sSeq (sSet 3 eDnew)
    (sSeq (sWhile (bT (e2 (inG2 true) (eV 2) (eV 3))) b1_come_round)
    r1_come_round))))
def m_come_round : FnD := mkF 1 3 b_come_round

def FT : FTab := (ftC 12 1 m_long_table (ftC 2 1 m_count_columns (ftC 1 1 m_come_round ftN)))

def b_law_source : SV := (sSeq (sSet 2 (eC (.int 0)))
    (sSeq (sIf (bT (e2 gtG (eB lenG (aCons (eV 0) aNil)) (eV 1))) (sSet 2 (eB intG1 (aCons (e2 ixD2 (eV 0) (eV 1)) aNil))) sNext)
    (sSeq (sSet 3 (e2 modG (e2 addG (e2 addG (e2 mulG2 (eV 2) (eC (.int 16807))) (e2 mulG2 (eC (.int 60919)) (eV 1))) (eC (.int 31))) (eC (.int 2147481173))))
    (sSeq (sSet 3 (e2 addG (e2 addG (e2 modG (e2 mulG2 (eV 3) (eV 3)) (eC (.int 2147481151))) (e2 mulG2 (eC (.int 2)) (eV 1))) (eC (.int 5))))
    (sRet (eLst (aCons (frzE (eIf (bT (e2 geG (eV 2) (e2 powG (eC (.int 10)) (eC (.int 18))))) (eV 2) (eC (.int 0)))) (aCons (frzE (eV 3)) aNil))))))))
def m_law_source : FnD := mkF 2 2 b_law_source

def b_law_pick : SV := (sSeq (sIf (bT (e2 gtG (e2 ixD2 (eV 0) (eC (.int 0))) (eC (.int 0)))) (sSeq (sSet 2 (e2 modG (eB intG1 (aCons (e2 ixD2 (eV 0) (eC (.int 0))) aNil)) (eV 1)))
    (sSeq (sSetIx 0 (eC (.int 0)) (e2 fdivG (eB intG1 (aCons (e2 ixD2 (eV 0) (eC (.int 0))) aNil)) (eV 1)))
    (sRet (eV 2)))) sNext)
    (sSeq (sSetIx 0 (eC (.int 1)) (e2 modG (eB intG1 (aCons (e2 addG (e2 mulG2 (e2 ixD2 (eV 0) (eC (.int 1))) (eC (.int 44497))) (eC (.int 9973))) aNil)) (eC (.int 2147483647))))
    (sRet (e2 modG (e2 fdivG (e2 modG (eB intG1 (aCons (e2 mulG2 (e2 ixD2 (eV 0) (eC (.int 1))) (e2 ixD2 (eV 0) (eC (.int 1)))) aNil)) (eC (.int 2147483399))) (eC (.int 11))) (eV 1)))))
def m_law_pick : FnD := mkF 2 1 b_law_pick

def b_law_chosen : SV := (sRet (e2 ixD2 (eV 1) (frzE (eCall 2 m_law_pick (aCons (eV 0) (aCons (eB lenG (aCons (eV 1) aNil)) aNil))))))
def m_law_chosen : FnD := mkF 2 0 b_law_chosen

def b_law_onward : SV := (sSeq (sPar 2 3 (aCons (frzE (eLst (aCons (eC (.int 1)) (aCons (eC (.int 0)) (aCons (eC (.int 3)) (aCons (eC (.int 2)) aNil)))))) (aCons (frzE (eLst (aCons (eC (.int 2)) (aCons (eC (.int 3)) (aCons (eC (.int 0)) (aCons (eC (.int 1)) aNil)))))) aNil)))
    (sSeq (sPar 4 5 (aCons (frzE (eDisp (prC (eC (.str [114, 105, 115, 101])) (frzE (eLst (aCons (eC (.int 0)) (aCons (eC (.int 2)) aNil)))) (prC (eC (.str [102, 97, 108, 108])) (frzE (eLst (aCons (eC (.int 0)) (aCons (eC (.int 1)) aNil)))) prN)))) (aCons (frzE (eDisp (prC (eC (.str [114, 105, 115, 101])) (frzE (eLst (aCons (eC (.int 1)) (aCons (eC (.int 3)) aNil)))) (prC (eC (.str [102, 97, 108, 108])) (frzE (eLst (aCons (eC (.int 2)) (aCons (eC (.int 3)) aNil)))) prN)))) aNil)))
    (sSeq (sIf (bT (e2 eqG (eV 0) (eC (.str [35])))) (sRet (e1 negG (eC (.int 1)))) sNext)
    (sSeq (sIf (bT (e2 (inG2 false) (eV 0) (eLst (aCons (eC (.str [117])) (aCons (eC (.str [112])) (aCons (eC (.str [113])) aNil)))))) (sSeq (sSet 6 (eOr (e2 eqG (eV 0) (eC (.str [117]))) (e2 (inG2 false) (eV 1) (e2 ixD2 (eIf (bT (e2 eqG (eV 0) (eC (.str [112])))) (eV 4) (eV 5)) (eC (.str [114, 105, 115, 101]))))))
    (sRet (eIf (bT (eV 6)) (e2 ixD2 (eV 2) (eV 1)) (eV 1)))) sNext)
    (sSeq (sIf (bT (e2 (inG2 false) (eV 0) (eLst (aCons (eC (.str [100])) (aCons (eC (.str [118])) (aCons (eC (.str [119])) aNil)))))) (sSeq (sSet 6 (eOr (e2 eqG (eV 0) (eC (.str [100]))) (e2 (inG2 false) (eV 1) (e2 ixD2 (eIf (bT (e2 eqG (eV 0) (eC (.str [118])))) (eV 4) (eV 5)) (eC (.str [102, 97, 108, 108]))))))
    (sRet (eIf (bT (eV 6)) (e2 ixD2 (eV 3) (eV 1)) (eV 1)))) sNext)
    (sRet (eV 1)))))))
def m_law_onward : FnD := mkF 2 5 b_law_onward

def b1_law_walk : SV := (sSeq (sIf (tyOr (bT (e2 ltG (eV 8) (eC (.int 0)))) (bT (e2 geG (eV 8) (eV 6)))) (sRet (eTup (aCons (eTup (aCons (eIf (bT (e2 ltG (eV 8) (eC (.int 0)))) (eC (.str [108, 101, 102, 116])) (eC (.str [114, 105, 103, 104, 116]))) (aCons (frzE (eV 7)) aNil))) (aCons (frzE (eV 10)) aNil)))) sNext)
    (sSeq (sIf (tyOr (bT (e2 ltG (eV 7) (eC (.int 0)))) (bT (e2 geG (eV 7) (eV 2)))) (sRet (eTup (aCons (eTup (aCons (eIf (bT (e2 ltG (eV 7) (eC (.int 0)))) (eC (.str [116, 111, 112])) (eC (.str [98, 111, 116, 116, 111, 109]))) (aCons (frzE (eV 8)) aNil))) (aCons (frzE (eV 10)) aNil)))) sNext)
    (sSeq (sIf (bT (e2 (inG2 false) (eTup (aCons (frzE (eV 7)) (aCons (frzE (eV 8)) (aCons (frzE (eV 9)) aNil)))) (eV 10))) (sRet (eTup (aCons (eTup (aCons (eC (.str [99, 97, 117, 103, 104, 116])) (aCons (eC (.int 0)) aNil))) (aCons (frzE (eV 10)) aNil)))) sNext)
    (sSeq (sApp 10 (eTup (aCons (frzE (eV 7)) (aCons (frzE (eV 8)) (aCons (frzE (eV 9)) aNil)))))
    (sSeq (sSet 9 (eCall 2 m_law_onward (aCons (e2 ixD2 (e2 ixD2 (eV 3) (frzE (eV 8))) (frzE (eV 7))) (aCons (frzE (eV 9)) aNil))))
    (sSeq (sIf (bT (e2 eqG (eV 9) (e1 negG (eC (.int 1))))) (sRet (eTup (aCons (eTup (aCons (eC (.str [115, 116, 111, 112, 112, 101, 100])) (aCons (eC (.int 0)) aNil))) (aCons (frzE (eV 10)) aNil)))) sNext)
    (sPar 7 8 (aCons (frzE (e2 addG (eV 7) (e2 ixD2 (eLst (aCons (eC (.int 1)) (aCons (eC (.int 0)) (aCons (eC (.int 0)) (aCons (e1 negG (eC (.int 1))) aNil))))) (frzE (eV 9))))) (aCons (frzE (e2 addG (eV 8) (e2 ixD2 (eLst (aCons (eC (.int 0)) (aCons (e1 negG (eC (.int 1))) (aCons (eC (.int 1)) (aCons (eC (.int 0)) aNil))))) (frzE (eV 9))))) aNil)))))))))
def r1_law_walk : SV := (sRet (eTup (aCons (eTup (aCons (eC (.str [99, 97, 117, 103, 104, 116])) (aCons (eC (.int 0)) aNil))) (aCons (frzE (eV 10)) aNil))))
def b_law_walk : SV := (sSeq (sAsg (eV 0) (gT 2 (gsC (gN 2) (gsC (gN 3) gsN))))
    (sSeq (sAsg (eV 1) (gT 2 (gsC (gN 4) (gsC (gN 5) gsN))))
    (sSeq (sSet 6 (eB lenG (aCons (eV 3) aNil)))
    (sSeq (sAsg (eGet2 (eDisp (prC (eC (.str [108, 101, 102, 116])) (eTup (aCons (frzE (eV 5)) (aCons (eC (.int 0)) (aCons (eC (.int 2)) aNil)))) (prC (eC (.str [114, 105, 103, 104, 116])) (eTup (aCons (frzE (eV 5)) (aCons (e2 subG (eV 6) (eC (.int 1))) (aCons (eC (.int 1)) aNil)))) (prC (eC (.str [116, 111, 112])) (eTup (aCons (eC (.int 0)) (aCons (frzE (eV 5)) (aCons (eC (.int 0)) aNil)))) prN)))) (frzE (eV 4)) (eTup (aCons (eC (.int 0)) (aCons (eC (.int 0)) (aCons (eC (.int 0)) aNil))))) (gT 3 (gsC (gN 7) (gsC (gN 8) (gsC (gN 9) gsN)))))
    (sSeq (sIf (bT (e2 eqG (eV 4) (eC (.str [98, 111, 116, 116, 111, 109])))) (sPar3 7 8 9 (aCons (e2 subG (eV 2) (eC (.int 1))) (aCons (frzE (eV 5)) (aCons (eC (.int 3)) aNil)))) sNext)
    (sSeq (sSet 10 (eLst aNil))
    (sSeq (sFor (iR1 (aCons (e2 addG (e2 mulG2 (e2 mulG2 (eC (.int 4)) (eV 2)) (eV 6)) (eC (.int 1))) aNil)) (gN 11) b1_law_walk)
    r1_law_walk)))))))
def m_law_walk : FnD := mkF 2 10 b_law_walk

def b_law_plain : SV := (sRet (eIf (bT (e2 (inG2 false) (e2 ixD2 (eV 0) (eC (.int 0))) (eLst (aCons (eC (.str [108, 101, 102, 116])) (aCons (eC (.str [114, 105, 103, 104, 116])) aNil))))) (eV 0) (eTup (aCons (e2 ixD2 (eV 0) (eC (.int 0))) (aCons (eC (.int 0)) aNil)))))
def m_law_plain : FnD := mkF 1 0 b_law_plain

def b1_law_table : SV := (sApp 1 (eB tupleG (aCons (eLc (iL (iR1 (aCons (e2 ixD2 (eV 0) (eC (.int 0))) aNil))) (gN 3) tyYes (frzE (eCall 1 m_law_plain (aCons (e2 ixD2 (eCall 2 m_law_walk (aCons (eV 0) (aCons (eTup (aCons (eV 2) (aCons (eV 3) aNil))) aNil))) (eC (.int 0))) aNil))) [3]) aNil)))
def r1_law_table : SV := (sRet (eTup (aCons (e2 ixD2 (eV 1) (eC (.int 0))) (aCons (e2 ixD2 (eV 1) (eC (.int 1))) aNil))))
def b_law_table : SV := (sSeq (sSet 1 (eLst aNil))
    (sSeq (sFor (iSeq (frzE (eLst (aCons (eC (.str [108, 101, 102, 116])) (aCons (eC (.str [114, 105, 103, 104, 116])) aNil))))) (gN 2) b1_law_table)
    r1_law_table))
def m_law_table : FnD := mkF 1 3 b_law_table

def b3_law_times : SV := (sIf (tyAnd (bT (e2 eqG (eV 7) (eC (.int 0)))) (bT (e2 eqG (e2 ixD2 (eV 6) (eC (.int 0))) (eC (.str [114, 105, 103, 104, 116]))))) (sPar 6 7 (aCons (e2 ixD2 (e2 ixD2 (eV 1) (eC (.int 0))) (e2 ixD2 (eV 6) (eC (.int 1)))) (aCons (eC (.int 1)) aNil))) (sIf (tyAnd (bT (e2 eqG (eV 7) (eC (.int 1)))) (bT (e2 eqG (e2 ixD2 (eV 6) (eC (.int 0))) (eC (.str [108, 101, 102, 116]))))) (sPar 6 7 (aCons (e2 ixD2 (e2 ixD2 (eV 0) (eC (.int 1))) (e2 ixD2 (eV 6) (eC (.int 1)))) (aCons (eC (.int 0)) aNil))) sNext))
def r1_law_times : SV := (sSeq (sSet 9 (eOr (eAnd (e2 eqG (eV 7) (eC (.int 0))) (e2 eqG (e2 ixD2 (eV 6) (eC (.int 0))) (eC (.str [114, 105, 103, 104, 116])))) (eAnd (e2 eqG (eV 7) (eC (.int 1))) (e2 eqG (e2 ixD2 (eV 6) (eC (.int 0))) (eC (.str [108, 101, 102, 116]))))))
    (sApp 4 (frzE (eIf (bT (eV 9)) (eTup (aCons (eC (.str [99, 97, 117, 103, 104, 116])) (aCons (eC (.int 0)) aNil))) (eV 6)))))
def b2_law_times : SV := (sSeq (sPar 6 7 (aCons (e2 ixD2 (e2 ixD2 (e2 ixD2 (eTup (aCons (eV 0) (aCons (eV 1) aNil))) (eV 3)) (eV 3)) (eV 5)) (aCons (eV 3) aNil)))
    (sSeq (sFor (iR1 (aCons (e2 addG (e2 mulG2 (eC (.int 4)) (eB lenG (aCons (e2 ixD2 (eV 0) (eC (.int 0))) aNil))) (eC (.int 2))) aNil)) (gN 8) b3_law_times)
    r1_law_times))
def r2_law_times : SV := (sApp 2 (eB tupleG (aCons (eV 4) aNil)))
def b1_law_times : SV := (sSeq (sSet 4 (eLst aNil))
    (sSeq (sFor (iR1 (aCons (eB lenG (aCons (e2 ixD2 (eV 0) (eC (.int 0))) aNil)) aNil)) (gN 5) b2_law_times)
    r2_law_times))
def r3_law_times : SV := (sRet (eTup (aCons (e2 ixD2 (eV 2) (eC (.int 0))) (aCons (e2 ixD2 (eV 2) (eC (.int 1))) aNil))))
def b_law_times : SV := (sSeq (sSet 2 (eLst aNil))
    (sSeq (sFor (iSeq (frzE (eTup (aCons (eC (.int 0)) (aCons (eC (.int 1)) aNil))))) (gN 3) b1_law_times)
    r3_law_times))
def m_law_times : FnD := mkF 2 8 b_law_times

def b_law_column : SV := (sSeq (sSet 2 (eLst (aCons (eC (.str [46])) (aCons (eC (.str [46])) (aCons (eC (.str [100])) (aCons (eC (.str [112])) (aCons (eC (.str [113])) (aCons (eC (.str [117])) (aCons (eC (.str [118])) (aCons (eC (.str [119])) (aCons (eC (.str [35])) aNil)))))))))))
    (sRet (eMS joinG (eC (.str [])) (eLc (iL (iR1 (aCons (eV 1) aNil))) (gN 3) tyYes (frzE (eCall 2 m_law_chosen (aCons (eV 0) (aCons (frzE (eSl (eV 2) oNone (oSome (e2 subG (eB lenG (aCons (eV 2) aNil)) (eCall 2 m_law_pick (aCons (eV 0) (aCons (eC (.int 2)) aNil))))))) aNil)))) [3]))))
def m_law_column : FnD := mkF 2 2 b_law_column

def b_law_strip : SV := (sRet (eTup (aCons (eV 1) (aCons (eB tupleG (aCons (eLc (iL (iR1 (aCons (frzE (eCall 2 m_law_pick (aCons (eV 0) (aCons (e2 addG (eV 2) (eC (.int 1))) aNil)))) aNil))) (gN 3) tyYes (frzE (eCall 2 m_law_column (aCons (eV 0) (aCons (eV 1) aNil)))) [3]) aNil)) aNil))))
def m_law_strip : FnD := mkF 3 1 b_law_strip


def b_law_error (n : Nat) : SV := (sSeq (sSet 1 (eLst (aCons (eTup (aCons (eC (.str [115, 116, 114, 105, 112])) (aCons (eIsE (n == 0) (eV 0)) aNil))) (aCons (eTup (aCons (eC (.str [103, 97, 116, 101])) (aCons (eIsE (n == 1) (eV 0)) aNil))) aNil))))
    (sSeq (sSet 1 (e2 addG (eV 1) (eLst (aCons (eTup (aCons (eC (.str [115, 105, 100, 101])) (aCons (eIsE (n == 2) (eV 0)) aNil))) (aCons (eTup (aCons (eC (.str [114, 111, 119])) (aCons (eIsE (n == 3) (eV 0)) aNil))) aNil)))))
    (sSeq (sSet 1 (e2 addG (eV 1) (eLst (aCons (eTup (aCons (eC (.str [99, 111, 108, 117, 109, 110])) (aCons (eIsE (n == 4) (eV 0)) aNil))) (aCons (eTup (aCons (eC (.str [115, 105, 103, 110])) (aCons (eIsE (n == 5) (eV 0)) aNil))) aNil)))))
    (sSeq (sSet 1 (e2 addG (eV 1) (eLst (aCons (eTup (aCons (eC (.str [101, 110, 100])) (aCons (eIsE (n == 6) (eV 0)) aNil))) (aCons (eTup (aCons (eC (.str [116, 97, 98, 108, 101])) (aCons (eIsE (n == 7) (eV 0)) aNil))) aNil)))))
    (sSeq (sSet 1 (e2 addG (eV 1) (eLst (aCons (eTup (aCons (eC (.str [115, 116, 111, 99, 107])) (aCons (eIsE (n == 8) (eV 0)) aNil))) (aCons (eTup (aCons (eC (.str [112, 97, 116, 116, 101, 114, 110])) (aCons (eIsE (n == 9) (eV 0)) aNil))) aNil)))))
    (sSeq (sSet 1 (e2 addG (eV 1) (eLst (aCons (eTup (aCons (eC (.str [115, 101, 101, 110])) (aCons (eIsE (n == 10) (eV 0)) aNil))) (aCons (eTup (aCons (eC (.str [112, 97, 114, 116, 115])) (aCons (eIsE (n == 11) (eV 0)) aNil))) aNil)))))
    (sSeq (sSet 1 (e2 addG (eV 1) (eLst (aCons (eTup (aCons (eC (.str [110, 117, 109, 98, 101, 114])) (aCons (eIsE (n == 12) (eV 0)) aNil))) (aCons (eTup (aCons (eC (.str [119, 105, 100, 116, 104])) (aCons (eIsE (n == 13) (eV 0)) aNil))) aNil)))))
    (sSeq (sSet 1 (e2 addG (eV 1) (eLst (aCons (eTup (aCons (eC (.str [101, 99, 104, 111])) (aCons (eIsE (n == 14) (eV 0)) aNil))) (aCons (eTup (aCons (eC (.str [119, 105, 100, 101])) (aCons (eIsE (n == 15) (eV 0)) aNil))) aNil)))))
    (sSeq (sSet 1 (e2 addG (eV 1) (eLst (aCons (eTup (aCons (eC (.str [117, 110, 108, 105, 107, 101])) (aCons (eIsE (n == 16) (eV 0)) aNil))) (aCons (eTup (aCons (eC (.str [117, 110, 100, 111])) (aCons (eIsE (n == 17) (eV 0)) aNil))) aNil)))))
    (sSeq (sSet 1 (e2 addG (eV 1) (eLst (aCons (eTup (aCons (eC (.str [109, 97, 110, 121])) (aCons (eIsE (n == 18) (eV 0)) aNil))) (aCons (eTup (aCons (eC (.str [116, 101, 120, 116])) (aCons (eIsE (n == 19) (eV 0)) aNil))) aNil)))))
    (sRet (eMS joinG (eC (.str [32])) (eLc (iLs (frzE (eV 1))) (gT 2 (gsC (gN 2) (gsC (gN 3) gsN))) (bT (eV 3)) (eV 2) [2, 3])))))))))))))
def m_law_error (n : Nat) : FnD := mkF 1 3 (b_law_error n)

def b_law_one : SV := (sRet (eRef m_law_error (eCallV FT 0 (aCons (eV 1) aNil))))
def m_law_one : FnD := mkF 2 0 b_law_one

def b1_law_power : SV := (sApp 3 (frzE (eCall 2 m_law_times (aCons (e2 ixD2 (eV 3) (e1 negG (eC (.int 1)))) (aCons (eV 1) aNil)))))
def r1_law_power : SV := (sSeq (sSet 4 (eLIx (eV 3) (eCall 2 m_law_times (aCons (e2 ixD2 (eV 3) (e1 negG (eC (.int 1)))) (aCons (eV 1) aNil)))))
    (sSeq (sIf (bT (e2 ltG (eV 2) (eB lenG (aCons (eV 3) aNil)))) (sRet (eTup (aCons (e2 ixD2 (eV 3) (eV 2)) (aCons (eTup (aCons (frzE (eV 4)) (aCons (e2 subG (eB lenG (aCons (eV 3) aNil)) (eV 4)) aNil))) aNil)))) sNext)
    (sRet (eTup (aCons (e2 ixD2 (eV 3) (e2 addG (eV 4) (e2 modG (e2 subG (eV 2) (eV 4)) (e2 subG (eB lenG (aCons (eV 3) aNil)) (eV 4))))) (aCons (eTup (aCons (frzE (eV 4)) (aCons (e2 subG (eB lenG (aCons (eV 3) aNil)) (eV 4)) aNil))) aNil))))))
def b_law_power : SV := (sSeq (sSet 3 (eLst (aCons (frzE (eCall 1 m_law_table (aCons (eTup (aCons (eV 0) (aCons (eTup aNil) aNil))) aNil))) aNil)))
    (sSeq (sWhile (bT (e2 (inG2 true) (eCall 2 m_law_times (aCons (e2 ixD2 (eV 3) (e1 negG (eC (.int 1)))) (aCons (eV 1) aNil))) (eV 3))) b1_law_power)
    r1_law_power))
def m_law_power : FnD := mkF 3 2 b_law_power

def b2_law : SV := (sSeq (sSet 9 (eB tupleG (aCons (eLc (iL (iR1 (aCons (e2 addG (eC (.int 1)) (eCall 2 m_law_pick (aCons (eV 2) (aCons (eC (.int 6)) aNil)))) aNil))) (gN 16) tyYes (frzE (eCall 2 m_law_column (aCons (eV 2) (aCons (frzE (eV 3)) aNil)))) [16]) aNil)))
    (sSeq (sSet 10 (eCall 2 m_law_chosen (aCons (eV 2) (aCons (frzE (eLst (aCons (eC (.int 1)) (aCons (eC (.int 2)) (aCons (eC (.int 3)) (aCons (eC (.int 5)) (aCons (e2 powG (eC (.int 10)) (eC (.int 30))) (aCons (e2 addG (e2 powG (eC (.int 10)) (eC (.int 29))) (eCall 2 m_law_pick (aCons (eV 2) (aCons (eC (.int 99)) aNil)))) (aCons (eC (.int 1)) aNil))))))))) aNil))))
    (sSeq (sPar 4 6 (aCons (e2 addG (eV 4) (eTup (aCons (eTup (aCons (frzE (eV 9)) (aCons (frzE (eV 10)) aNil))) aNil))) (aCons (frzE (e2 addG (eV 6) (e2 mulG2 (eB lenG (aCons (eV 9) aNil)) (eV 10)))) aNil)))
    (sSeq (sSet 5 (eCall 2 m_law_times (aCons (frzE (eV 5)) (aCons (e2 ixD2 (eCall 3 m_law_power (aCons (frzE (eV 3)) (aCons (frzE (eCall 1 m_law_table (aCons (eTup (aCons (frzE (eV 3)) (aCons (frzE (eV 9)) aNil))) aNil))) (aCons (frzE (eV 10)) aNil)))) (eC (.int 0))) aNil))))
    (sSet 7 (e2 addG (eV 7) (e2 mulG3 (eV 9) (eB min2G (aCons (eV 10) (aCons (eC (.int 9)) aNil))))))))))
def b4_law : SV := (sIf (bT (e2 neG (eCall 2 m_law_one (aCons (eV 12) (aCons (eV 15) aNil))) (eC (.str [112, 97, 114, 116, 115])))) (sRet (eC (.bl false))) sNext)
def b3_law : SV := (sSeq (sSet 13 (eTup (aCons (eTup (aCons (e2 mulG4 (eC (.str [117])) (eV 3)) aNil)) (aCons (eC (.int 1)) aNil))))
    (sSeq (sSet 9 (eTup (aCons (e2 mulG4 (eC (.str [117])) (eV 3)) aNil)))
    (sSeq (sSet 14 (eLst (aCons (eC .non) (aCons (eTup (aCons (frzE (eV 3)) (aCons (frzE (eLst (aCons (frzE (eV 13)) aNil))) aNil))) (aCons (eTup (aCons (frzE (eV 3)) (aCons (e2 mulG2 (eTup (aCons (frzE (eV 13)) aNil)) (eC (.int 5))) aNil))) (aCons (eTup (aCons (eC (.int 4)) (aCons (eTup aNil) aNil))) (aCons (eTup (aCons (frzE (eV 3)) (aCons (eTup (aCons (eTup (aCons (frzE (eV 9)) (aCons (eC (.int 0)) aNil))) aNil)) aNil))) aNil)))))))
    (sSeq (sSet 14 (e2 addG (eV 14) (eLst (aCons (eTup (aCons (frzE (eV 3)) (aCons (eTup (aCons (eTup (aCons (eTup aNil) (aCons (eC (.int 2)) aNil))) aNil)) aNil))) (aCons (eTup (aCons (frzE (eV 3)) (aCons (eTup (aCons (eTup (aCons (e2 mulG3 (eV 9) (eC (.int 7))) (aCons (eC (.int 1)) aNil))) aNil)) aNil))) aNil)))))
    (sFor (iSeq (frzE (e2 addG (eV 14) (eLst (aCons (eTup (aCons (frzE (eV 3)) (aCons (eTup (aCons (eTup (aCons (frzE (eV 9)) (aCons (e2 addG (e2 powG (eC (.int 10)) (eC (.int 30))) (eC (.int 1))) aNil))) aNil)) aNil))) (aCons (eTup (aCons (eC (.int 0)) (aCons (eTup aNil) aNil))) aNil)))))) (gN 15) b4_law)))))
def r1_law : SV := (sIf (bT (e2 neG (eCall 2 m_law_one (aCons (eC (.fn 1)) (aCons (eC .non) aNil))) (eC (.str [115, 116, 114, 105, 112])))) (sRet (eC (.bl false))) sNext)
def r2_law : SV := (sSeq (sIf (tyOr (bT (e2 neG (eCall 1 m_long_table (aCons (eTup (aCons (frzE (eV 3)) (aCons (frzE (eV 4)) aNil))) aNil)) (eV 5))) (bT (e2 neG (eCall 1 m_count_columns (aCons (eTup (aCons (frzE (eV 3)) (aCons (frzE (eV 4)) aNil))) aNil)) (eV 6)))) (sRet (eC (.bl false))) sNext)
    (sSeq (sIf (tyAnd (bT (e2 eqG (eB lenG (aCons (eV 7) aNil)) (eV 6))) (bT (e2 neG (eCall 1 m_law_table (aCons (eTup (aCons (frzE (eV 3)) (aCons (frzE (eV 7)) aNil))) aNil)) (eV 5)))) (sRet (eC (.bl false))) sNext)
    (sSeq (sSet 11 (eCall 3 m_law_strip (aCons (eV 2) (aCons (frzE (eV 3)) (aCons (eC (.int 4)) aNil)))))
    (sSeq (sIf (bT (e2 neG (eCall 1 m_come_round (aCons (frzE (eV 11)) aNil)) (e2 ixD2 (eCall 3 m_law_power (aCons (frzE (eV 3)) (aCons (frzE (eCall 1 m_law_table (aCons (frzE (eV 11)) aNil))) (aCons (eC (.int 0)) aNil)))) (eC (.int 1))))) (sRet (eC (.bl false))) sNext)
    (sSeq (sFor (iSeq (frzE (eLst (aCons (eC (.fn 12)) (aCons (eC (.fn 2)) aNil))))) (gN 12) b3_law)
    r1_law)))))
def b1_law : SV := (sSeq (sSet 2 (eCall 2 m_law_source (aCons (eV 0) (aCons (eV 1) aNil))))
    (sSeq (sAsg (eTup (aCons (e2 addG (eC (.int 1)) (eCall 2 m_law_pick (aCons (eV 2) (aCons (eC (.int 3)) aNil)))) (aCons (eTup aNil) aNil))) (gT 2 (gsC (gN 3) (gsC (gN 4) gsN))))
    (sSeq (sPar3 5 6 7 (aCons (frzE (eCall 1 m_law_table (aCons (eTup (aCons (frzE (eV 3)) (aCons (eTup aNil) aNil))) aNil))) (aCons (eC (.int 0)) (aCons (eTup aNil) aNil))))
    (sSeq (sFor (iR1 (aCons (frzE (eCall 2 m_law_pick (aCons (eV 2) (aCons (eC (.int 5)) aNil)))) aNil)) (gN 8) b2_law)
    r2_law))))
def r3_law : SV := (sSeq (sIf (tyOr (bT (e2 neG (eCall 1 m_come_round (aCons (eTup (aCons (eC (.int 1)) (aCons (eTup (aCons (eC (.str [46])) aNil)) aNil))) aNil)) (eTup (aCons (eC (.int 0)) (aCons (eC (.int 1)) aNil))))) (bT (e2 neG (eCall 1 m_come_round (aCons (eTup (aCons (eC (.int 2)) (aCons (eTup (aCons (eC (.str [119, 118])) aNil)) aNil))) aNil)) (eTup (aCons (eC (.int 1)) (aCons (eC (.int 1)) aNil)))))) (sRet (eC (.bl false))) sNext)
    (sRet (e2 eqG (eCall 1 m_long_table (aCons (eTup (aCons (eC (.int 1)) (aCons (eTup (aCons (eTup (aCons (eTup (aCons (eC (.str [112])) (aCons (eC (.str [46])) aNil))) (aCons (e2 powG (eC (.int 10)) (eC (.int 30))) aNil))) (aCons (eTup (aCons (eTup (aCons (eC (.str [119])) aNil)) (aCons (eC (.int 2)) aNil))) aNil))) aNil))) aNil)) (eTup (aCons (eTup (aCons (eTup (aCons (eC (.str [116, 111, 112])) (aCons (eC (.int 0)) aNil))) aNil)) (aCons (eTup (aCons (eTup (aCons (eC (.str [108, 101, 102, 116])) (aCons (eC (.int 0)) aNil))) aNil)) aNil))))))
def b_law : SV := (sSeq (sFor (iR1 (aCons (eB max2G (aCons (eC (.int 8)) (aCons (eB min2G (aCons (eC (.int 24)) (aCons (eB lenG (aCons (eV 0) aNil)) aNil))) aNil))) aNil)) (gN 1) b1_law)
    r3_law)
def m_law : FnD := mkF 1 16 b_law

end DL
namespace DL
open PySem PySem.Spec PyProof.Rows L2
local macro_rules | `(tactic| walk_at "ev") => `(tactic| simp only [pkSlot_imm, pkSlot_new, pgK2_ev, pgK1_ev, sParG_ev, phK3_ev, phK2_ev, phK1_ev, sParG3_ev, mul3_tup, eLIx_ev, lixK_ev, isLst_lst, lixG_lst, dictG_lst, isDcn_dcn, gnK1_ev, gnK2_ev, gnK3_ev, gnR_dcn, eGetN_ev, mul4_str, len2_dcn, none_non, none_bl, none_int, none_str, none_tup, none_lst, iSeqN_ev, iqNK_ev, eMkP_ev, mkpK_ev, ePr_ev, prjK_f, prjK_t, eDnew_ev, in2_str, in2_lst, in2_tup, in2_dcn, ix2_str, ix2_lst, ix2_tup, ix2_seq, ix2_dct, ix2_dcn, list2_lst, list2_tup, list2_str, list2_dcn, mDcn_dcn, sPut_ev, putI_ev, putX_ev, sWhile_ev, whB_nx, whB_ct, whB_bk, whB_rt, whB_exc, whT_t, whT_f, sRaise_ev, refE_ev, eRef_ev, refK_ok, refK_exc, cvT_ev, cvK_ev, eCallV_ev, dispOk4, rev2_lst, rev2_tup, rev2_str, mul2_int, mul2_tup, mul2_lst, isi_int_non, isi_int_bl, isi_int_int, isi_int_str, isi_int_tup, isi_int_lst, isi_bool_non, isi_bool_bl, isi_bool_int, isi_bool_str, isi_bool_tup, isi_bool_lst, isi_str_non, isi_str_bl, isi_str_int, isi_str_str, isi_str_tup, isi_str_lst, isi_tuple_non, isi_tuple_bl, isi_tuple_int, isi_tuple_str, isi_tuple_tup, isi_tuple_lst, isi_list_non, isi_list_bl, isi_list_int, isi_list_str, isi_list_tup, isi_list_lst, bind_ok, bind_exc, bind_bad, seq_nx, seq_rt, seq_bk, seq_ct, seq_exc, seq_bad, sSeq_ev, sb_ok, sb_exc, sb_bad, br_t, br_f, brK_t, brK_f, oB_some, oB_none, oS_some, oS_none, oO_some, oO_none, pkI_imm, pkI_new, pkI_at, dBl_bl, dInt_int, slotM_own, slotM_bor, mLst_lst, ifK_ev, sIf_ev, sNext_ev, sRet_ev, retK_res, retK_at, retS_own, sRetN_ev, sSet_ev, setK_imm, setK_new, sFor_ev, dropK_ev, sDrop_ev, sApp_ev, sSetIx_ev, sAsg_ev, sPar_ev, parK_ev, sPar3_ev, par3K_ev, eV_ev, vK_imm, vK_own, vK_bor, eC_ev, view_res, view_at, toD_imm, toD_new, toD_lst, toD_dct, toD_dcn, k1_ev, k2_ev, e2K_ev, e2_ev, e1_ev, notG_bl, eNot_ev, isiG_ev, eIsi_ev, eAnd_ev, eOr_ev, eifK_ev, eIf_ev, bT_ev, tyC_ev, tyaK_ev, tyoK_ev, tynK_ev, tyAnd_ev, tyOr_ev, tyNot_ev, tyYes_ev, ch3_ev, e3K_ev, e3_ev, frS_own, frzE_ev, frK_res, frK_at, aNil_ev, acE_ev, acK_ev, aCons_ev, imms_nil, imms_cons, eTup_ev, eLst_ev, views_nil, views_cons, eB_ev, cp_ret, cp_exc, cq_ret, cq_exc, coK_at, coK_res, coK_nil, eCall_ev, eCall0_ev, oNone_ev, oSome_ev, slX_ev, slK3_ev, slK2_ev, slK_ev, eSl_ev, dStr_str, msC_ev, eMS_ev, gN_ev, dTup_tup, gT_ev, gsN_ev, gsC_ev, dSq_tup, dSq_lst, dSq_str, iqK_ev, iSeq_ev, r1K_ev, iR1_ev, ilK_ev, iL_ev, lcZ_ev, lcY_ev, lcN_ev, lcB_ev, lcT_ev, lcE_ok, lcK_ev, eLc_ev, wipeE_nil, wipeE_cons, restE_nil, restE_cons, plS_non, plS_imm, plainAt_nil, plainAt_cons, forR_nx, forR_ct, forR_bk, forR_rt, forR_exc, forD_nil, forD_cons, finS_bor, finN_rt, finN_nx, finN_exc, finM_rt, finM_nx, finM_exc, mkN_ev, mkM_ev, intG_ev, addG_int, addG_str, addG_tup, addG_lst, mulG_int, eqG_ev, neG_ev, dep_non, dep_bl, dep_int, dep_str, dep_tup, dep_lst, deps_nil, deps_cons, eqv_int, eqv_str, eqv_bl, eqv_tup, eqv_lst, eqvs_nil, eqvs_nc, eqvs_cn, eqvs_cc, len_str, len_lst, len_tup, len_seq, intG1_ev, intG1_t, intG1_f, max2_ev, min2_ev, all_ev, sum_ev, list_lst, list_tup, tuple_lst, tuple_tup, neg_ev, resB_ev, inG_ev, inB_str, inB_lst, inB_tup, ixD_lst, ixD_tup, ixD_str, ixD_seq, atI_0, atI_1, atI_2, atI_3, sl_lst, sl_tup, sl_str, rev_lst, count_ev, ixN_0, ixN_1, pow1018, natAbs_0, natAbs_1, natAbs_2, natAbs_3, natAbs_4, natAbs_5, natAbs_6, natAbs_7, natAbs_8, natAbs_9, natAbs_10, natAbs_11, natAbs_12, natAbs_13, natAbs_14, natAbs_15, natAbs_16, natAbs_17, natAbs_18, natAbs_19, natAbs_20, join0_lst, join0_tup, eDisp_ev, prN_ev, prE_ev, prK2_ev, prK_ev, prC_ev, dispOk1, dispOk2, dispOk3, kEq_str, kEq_int, dLook_cons, dLook_nil, isK_str, isK_int, ixD_dct, dGet_some, dGet_none, pkDct_ev, get4_ev, get3_ev, get2_ev, getK_ev, eGet2_ev, rng_len, mul_tup, ifK, appK, setI, setX, asgK, andK, orK, bK, chK, tupK, lstK, bifK, caK, osK, msK, dispK, Nat.reducePow, List.map_cons, List.map_nil, List.cons_append, List.nil_append, List.append_nil, List.length_cons, List.length_nil, List.replicate_succ, List.replicate_zero, List.set_cons_zero, List.set_cons_succ, List.getElem?_cons_zero, List.getElem?_cons_succ, List.modify_zero_cons, List.modify_succ_cons, Slot.put, Nat.reduceAdd, Nat.reduceLeDiff, Nat.reduceEqDiff, Nat.reduceLT, Nat.reduceMul, Nat.reduceSub, Nat.zero_add, Nat.max_zero, Nat.zero_max, Nat.max_self, Nat.max_le, Int.reduceNeg, Int.reduceLE, Int.reduceLT, Int.reduceEq, Int.reduceNe, Int.reducePow, Int.reduceAdd, Int.reduceSub, Int.reduceMul, Int.reduceToNat, ne_eq, not_false_eq_true, not_true_eq_false, decide_true, decide_false, decide_eq_true_eq, decide_not, Bool.not_true, Bool.not_false, Bool.and_true, Bool.true_and, Bool.and_false, Bool.false_and, Bool.or_false, Bool.false_or, Bool.true_or, Bool.or_true, Bool.and_self, Bool.not_not, Bool.false_bne, Bool.true_bne, Bool.false_xor, Bool.true_xor, Bool.xor_false, and_self, and_true, true_and, false_and, and_false, or_true, true_or, false_or, or_false, reduceCtorEq, if_true, if_false, ite_true, ite_false, reduceIte, Option.getD_some, List.all_cons, List.all_nil, List.any_cons, List.any_nil, List.cons.injEq])
local macro_rules | `(tactic| walk_at "evs") => `(tactic| simp only [*, pkSlot_imm, pkSlot_new, pgK2_ev, pgK1_ev, sParG_ev, phK3_ev, phK2_ev, phK1_ev, sParG3_ev, mul3_tup, eLIx_ev, lixK_ev, isLst_lst, lixG_lst, dictG_lst, isDcn_dcn, gnK1_ev, gnK2_ev, gnK3_ev, gnR_dcn, eGetN_ev, mul4_str, len2_dcn, none_non, none_bl, none_int, none_str, none_tup, none_lst, iSeqN_ev, iqNK_ev, eMkP_ev, mkpK_ev, ePr_ev, prjK_f, prjK_t, eDnew_ev, in2_str, in2_lst, in2_tup, in2_dcn, ix2_str, ix2_lst, ix2_tup, ix2_seq, ix2_dct, ix2_dcn, list2_lst, list2_tup, list2_str, list2_dcn, mDcn_dcn, sPut_ev, putI_ev, putX_ev, sWhile_ev, whB_nx, whB_ct, whB_bk, whB_rt, whB_exc, whT_t, whT_f, sRaise_ev, refE_ev, eRef_ev, refK_ok, refK_exc, cvT_ev, cvK_ev, eCallV_ev, dispOk4, rev2_lst, rev2_tup, rev2_str, mul2_int, mul2_tup, mul2_lst, isi_int_non, isi_int_bl, isi_int_int, isi_int_str, isi_int_tup, isi_int_lst, isi_bool_non, isi_bool_bl, isi_bool_int, isi_bool_str, isi_bool_tup, isi_bool_lst, isi_str_non, isi_str_bl, isi_str_int, isi_str_str, isi_str_tup, isi_str_lst, isi_tuple_non, isi_tuple_bl, isi_tuple_int, isi_tuple_str, isi_tuple_tup, isi_tuple_lst, isi_list_non, isi_list_bl, isi_list_int, isi_list_str, isi_list_tup, isi_list_lst, bind_ok, bind_exc, bind_bad, seq_nx, seq_rt, seq_bk, seq_ct, seq_exc, seq_bad, sSeq_ev, sb_ok, sb_exc, sb_bad, br_t, br_f, brK_t, brK_f, oB_some, oB_none, oS_some, oS_none, oO_some, oO_none, pkI_imm, pkI_new, pkI_at, dBl_bl, dInt_int, slotM_own, slotM_bor, mLst_lst, ifK_ev, sIf_ev, sNext_ev, sRet_ev, retK_res, retK_at, retS_own, sRetN_ev, sSet_ev, setK_imm, setK_new, sFor_ev, dropK_ev, sDrop_ev, sApp_ev, sSetIx_ev, sAsg_ev, sPar_ev, parK_ev, sPar3_ev, par3K_ev, eV_ev, vK_imm, vK_own, vK_bor, eC_ev, view_res, view_at, toD_imm, toD_new, toD_lst, toD_dct, toD_dcn, k1_ev, k2_ev, e2K_ev, e2_ev, e1_ev, notG_bl, eNot_ev, isiG_ev, eIsi_ev, eAnd_ev, eOr_ev, eifK_ev, eIf_ev, bT_ev, tyC_ev, tyaK_ev, tyoK_ev, tynK_ev, tyAnd_ev, tyOr_ev, tyNot_ev, tyYes_ev, ch3_ev, e3K_ev, e3_ev, frS_own, frzE_ev, frK_res, frK_at, aNil_ev, acE_ev, acK_ev, aCons_ev, imms_nil, imms_cons, eTup_ev, eLst_ev, views_nil, views_cons, eB_ev, cp_ret, cp_exc, cq_ret, cq_exc, coK_at, coK_res, coK_nil, eCall_ev, eCall0_ev, oNone_ev, oSome_ev, slX_ev, slK3_ev, slK2_ev, slK_ev, eSl_ev, dStr_str, msC_ev, eMS_ev, gN_ev, dTup_tup, gT_ev, gsN_ev, gsC_ev, dSq_tup, dSq_lst, dSq_str, iqK_ev, iSeq_ev, r1K_ev, iR1_ev, ilK_ev, iL_ev, lcZ_ev, lcY_ev, lcN_ev, lcB_ev, lcT_ev, lcE_ok, lcK_ev, eLc_ev, wipeE_nil, wipeE_cons, restE_nil, restE_cons, plS_non, plS_imm, plainAt_nil, plainAt_cons, forR_nx, forR_ct, forR_bk, forR_rt, forR_exc, forD_nil, forD_cons, finS_bor, finN_rt, finN_nx, finN_exc, finM_rt, finM_nx, finM_exc, mkN_ev, mkM_ev, intG_ev, addG_int, addG_str, addG_tup, addG_lst, mulG_int, eqG_ev, neG_ev, dep_non, dep_bl, dep_int, dep_str, dep_tup, dep_lst, deps_nil, deps_cons, eqv_int, eqv_str, eqv_bl, eqv_tup, eqv_lst, eqvs_nil, eqvs_nc, eqvs_cn, eqvs_cc, len_str, len_lst, len_tup, len_seq, intG1_ev, intG1_t, intG1_f, max2_ev, min2_ev, all_ev, sum_ev, list_lst, list_tup, tuple_lst, tuple_tup, neg_ev, resB_ev, inG_ev, inB_str, inB_lst, inB_tup, ixD_lst, ixD_tup, ixD_str, ixD_seq, atI_0, atI_1, atI_2, atI_3, sl_lst, sl_tup, sl_str, rev_lst, count_ev, ixN_0, ixN_1, pow1018, natAbs_0, natAbs_1, natAbs_2, natAbs_3, natAbs_4, natAbs_5, natAbs_6, natAbs_7, natAbs_8, natAbs_9, natAbs_10, natAbs_11, natAbs_12, natAbs_13, natAbs_14, natAbs_15, natAbs_16, natAbs_17, natAbs_18, natAbs_19, natAbs_20, join0_lst, join0_tup, eDisp_ev, prN_ev, prE_ev, prK2_ev, prK_ev, prC_ev, dispOk1, dispOk2, dispOk3, kEq_str, kEq_int, dLook_cons, dLook_nil, isK_str, isK_int, ixD_dct, dGet_some, dGet_none, pkDct_ev, get4_ev, get3_ev, get2_ev, getK_ev, eGet2_ev, rng_len, mul_tup, ifK, appK, setI, setX, asgK, andK, orK, bK, chK, tupK, lstK, bifK, caK, osK, msK, dispK, Nat.reducePow, List.map_cons, List.map_nil, List.cons_append, List.nil_append, List.append_nil, List.length_cons, List.length_nil, List.replicate_succ, List.replicate_zero, List.set_cons_zero, List.set_cons_succ, List.getElem?_cons_zero, List.getElem?_cons_succ, List.modify_zero_cons, List.modify_succ_cons, Slot.put, Nat.reduceAdd, Nat.reduceLeDiff, Nat.reduceEqDiff, Nat.reduceLT, Nat.reduceMul, Nat.reduceSub, Nat.zero_add, Nat.max_zero, Nat.zero_max, Nat.max_self, Nat.max_le, Int.reduceNeg, Int.reduceLE, Int.reduceLT, Int.reduceEq, Int.reduceNe, Int.reducePow, Int.reduceAdd, Int.reduceSub, Int.reduceMul, Int.reduceToNat, ne_eq, not_false_eq_true, not_true_eq_false, decide_true, decide_false, decide_eq_true_eq, decide_not, Bool.not_true, Bool.not_false, Bool.and_true, Bool.true_and, Bool.and_false, Bool.false_and, Bool.or_false, Bool.false_or, Bool.true_or, Bool.or_true, Bool.and_self, Bool.not_not, Bool.false_bne, Bool.true_bne, Bool.false_xor, Bool.true_xor, Bool.xor_false, and_self, and_true, true_and, false_and, and_false, or_true, true_or, false_or, or_false, reduceCtorEq, if_true, if_false, ite_true, ite_false, reduceIte, Option.getD_some, List.all_cons, List.all_nil, List.any_cons, List.any_nil, List.cons.injEq])

/-! p1: rays, plain Lean. -/
inductive Sd where | left | right | top | bottom | stopped | caught
  deriving DecidableEq
inductive Dr where | down | left | right | up
  deriving DecidableEq
structure En where
  sd : Sd
  ix : Int
  deriving DecidableEq
structure Ry where
  r : Int
  c : Int
  d : Dr
  deriving DecidableEq
abbrev Cols := List (List Nat)
def ris : Dr → Dr | .right => .up | .down => .left | .left => .down | .up => .right
def fal : Dr → Dr | .left => .up | .down => .right | .right => .down | .up => .left
def onw (s : Nat) (d : Dr) : Option Dr :=
  if s = 35 then none
  else if s = 117 then some (ris d)
  else if s = 112 then some (if d = .down ∨ d = .right then ris d else d)
  else if s = 113 then some (if d = .left ∨ d = .up then ris d else d)
  else if s = 100 then some (fal d)
  else if s = 118 then some (if d = .down ∨ d = .left then fal d else d)
  else if s = 119 then some (if d = .right ∨ d = .up then fal d else d)
  else some d
def Dr.dr : Dr → Int | .down => 1 | .left => 0 | .right => 0 | .up => -1
def Dr.dc : Dr → Int | .down => 0 | .left => -1 | .right => 1 | .up => 0
def cellA (cs : Cols) (r c : Int) : Nat := (cs.getD c.toNat []).getD r.toNat 46
def exitA (w n : Int) (s : Ry) : Option En :=
  if s.c < 0 then some ⟨.left, s.r⟩ else if n ≤ s.c then some ⟨.right, s.r⟩ else if s.r < 0 then some ⟨.top, s.c⟩ else if w ≤ s.r then some ⟨.bottom, s.c⟩ else none
def mvA (s : Ry) (d : Dr) : Ry := ⟨s.r + d.dr, s.c + d.dc, d⟩
def nextA (cs : Cols) (s : Ry) : Option Ry := (onw (cellA cs s.r s.c) s.d).map (mvA s)
def trace (w : Int) (cs : Cols) : Nat → List Ry → Ry → Option (En × List Ry)
  | 0, _, _ => none
  | n + 1, seen, s => match exitA w cs.length s with
    | some e => some (e, seen)
    | none => if s ∈ seen then some (⟨.caught, 0⟩, seen) else match nextA cs s with
      | none => some (⟨.stopped, 0⟩, seen ++ [s])
      | some s' => trace w cs n (seen ++ [s]) s'
def entryA (w n : Int) (g : En) : Ry := match g.sd with
  | .left => ⟨g.ix, 0, .right⟩
  | .right => ⟨g.ix, n - 1, .left⟩
  | .top => ⟨0, g.ix, .down⟩
  | _ => ⟨w - 1, g.ix, .up⟩
/-- a gate of a strip -/
def Gate (w n : Int) (g : En) : Prop := 0 ≤ g.ix ∧ ((g.sd = .left ∨ g.sd = .right) ∧ g.ix < w ∨ (g.sd = .top ∨ g.sd = .bottom) ∧ g.ix < n)
theorem trace_mono {w : Int} {cs : Cols} : ∀ {f f' : Nat} {seen : List Ry} {s : Ry} {x : En × List Ry}, f ≤ f' → trace w cs f seen s = some x → trace w cs f' seen s = some x
  | 0, _, _, _, _, _, h => by simp [trace] at h
  | f + 1, f', seen, s, x, hl, h => by
    obtain ⟨g, rfl⟩ : ∃ g, f' = g + 1 := ⟨f' - 1, by omega⟩
    unfold trace at h ⊢
    split at h
    · exact h
    · split at h
      · rename_i hm; rw [if_pos hm]; exact h
      · rename_i hm; rw [if_neg hm]
        split at h
        · exact h
        · exact trace_mono (by omega) h
theorem getD_of {α : Type} {l : List α} {i : Nat} {d : α} (h : i < l.length) : l.getD i d = l[i] := by simp [List.getD, h]
/-! ### the walk ends in time -/
def Inb (w n : Int) (s : Ry) : Prop := 0 ≤ s.r ∧ s.r < w ∧ 0 ≤ s.c ∧ s.c < n
theorem exit_none {w n : Int} {s : Ry} : exitA w n s = none ↔ Inb w n s := by
  unfold exitA Inb
  constructor
  · intro h
    split at h
    · cases h
    · split at h
      · cases h
      · split at h
        · cases h
        · split at h
          · cases h
          · omega
  · rintro ⟨h1, h2, h3, h4⟩
    rw [if_neg (by omega), if_neg (by omega), if_neg (by omega), if_neg (by omega)]
theorem nodup_small : ∀ (m : Nat) (l : List Nat), l.Nodup → (∀ x ∈ l, x < m) → l.length ≤ m
  | 0, l, _, h => by
    cases l with
    | nil => simp
    | cons a l => exact absurd (h a (by simp)) (by omega)
  | m + 1, l, hn, h => by
    have h1 := nodup_small m (l.erase m) (hn.erase m) (fun x hx => by
      have hx1 := h x (List.mem_of_mem_erase hx)
      have : x ≠ m := fun e => by subst e; exact (List.Nodup.not_mem_erase hn) hx
      omega)
    have h2 := List.length_erase_add_one_le l m
    omega
  where
    List.length_erase_add_one_le (l : List Nat) (m : Nat) : l.length ≤ (l.erase m).length + 1 := by
      rw [List.length_erase]; split <;> omega
def Dr.ix : Dr → Nat | .down => 0 | .left => 1 | .right => 2 | .up => 3
theorem Dr.ix_inj {a b : Dr} (h : a.ix = b.ix) : a = b := by cases a <;> cases b <;> first | rfl | (exact absurd h (by decide))
theorem Dr.ix_lt (a : Dr) : a.ix < 4 := by cases a <;> decide
def codeR (w : Nat) (s : Ry) : Nat := (s.c.toNat * w + s.r.toNat) * 4 + s.d.ix
theorem mul_add_inj {w a b c d : Nat} (hb : b < w) (hd : d < w) (h : a * w + b = c * w + d) : a = c ∧ b = d := by
  have h1 : (a * w + b) % w = (c * w + d) % w := by rw [h]
  rw [Nat.mul_comm a, Nat.mul_comm c, Nat.mul_add_mod, Nat.mul_add_mod, Nat.mod_eq_of_lt hb, Nat.mod_eq_of_lt hd] at h1
  subst h1
  have h2 : a * w = c * w := by omega
  exact ⟨Nat.eq_of_mul_eq_mul_right (by omega) h2, rfl⟩
theorem codeR_inj {w n : Nat} {s t : Ry} (hs : Inb w n s) (ht : Inb w n t) (h : codeR w s = codeR w t) : s = t := by
  obtain ⟨r, c, d⟩ := s
  obtain ⟨r', c', d'⟩ := t
  unfold Inb at hs ht
  simp only [codeR] at h hs ht
  obtain ⟨h1, h2⟩ := mul_add_inj (Dr.ix_lt d) (Dr.ix_lt d') h
  obtain ⟨h3, h4⟩ := mul_add_inj (by omega) (by omega) h1
  have := Dr.ix_inj h2
  subst this
  rw [show r = r' by omega, show c = c' by omega]
theorem codeR_lt {w n : Nat} {s : Ry} (hs : Inb w n s) : codeR w s < 4 * w * n := by
  unfold Inb at hs
  unfold codeR
  have h1 := Dr.ix_lt s.d
  have h2 : s.c.toNat + 1 ≤ n := by omega
  have h3 : (s.c.toNat + 1) * w ≤ n * w := Nat.mul_le_mul_right w h2
  have h4 : s.r.toNat < w := by omega
  have h5 : 4 * w * n = n * w * 4 := by rw [Nat.mul_comm (4 * w), ← Nat.mul_assoc, Nat.mul_comm n 4, Nat.mul_assoc, Nat.mul_comm 4]
  rw [Nat.add_mul, Nat.one_mul] at h3
  omega
theorem nodup_map {α β : Type} {f : α → β} : ∀ {l : List α}, (∀ a ∈ l, ∀ b ∈ l, f a = f b → a = b) → l.Nodup → (l.map f).Nodup
  | [], _, _ => by simp
  | a :: l, hf, hn => by
    rw [List.map_cons, List.nodup_cons]
    rw [List.nodup_cons] at hn
    refine ⟨fun hm => ?_, nodup_map (fun a ha b hb => hf a (by simp [ha]) b (by simp [hb])) hn.2⟩
    obtain ⟨b, hb, e⟩ := List.mem_map.mp hm
    have := hf b (by simp [hb]) a (by simp) e
    subst this
    exact hn.1 hb
theorem nodup_rays {w n : Nat} {l : List Ry} (hn : l.Nodup) (h : ∀ s ∈ l, Inb w n s) : l.length ≤ 4 * w * n := by
  have key : (l.map (codeR w)).Nodup := nodup_map (fun a ha b hb e => codeR_inj (h a ha) (h b hb) e) hn
  have := nodup_small (4 * w * n) _ key (fun x hx => by
    obtain ⟨s, hs, rfl⟩ := List.mem_map.mp hx
    exact codeR_lt (h s hs))
  simpa using this
theorem trace_none {w : Nat} {cs : Cols} : ∀ {f : Nat} {seen : List Ry} {s : Ry}, seen.Nodup → (∀ t ∈ seen, Inb w cs.length t) → trace w cs f seen s = none → seen.length + f ≤ 4 * w * cs.length
  | 0, seen, s, hn, hi, _ => by have := nodup_rays hn hi; omega
  | f + 1, seen, s, hn, hi, h => by
    unfold trace at h
    split at h
    · cases h
    · rename_i he
      split at h
      · cases h
      · rename_i hm
        split at h
        · cases h
        · have hn2 : (seen ++ [s]).Nodup := by
            rw [List.nodup_append]
            refine ⟨hn, by simp, fun a ha b hb e => ?_⟩
            cases List.mem_singleton.mp hb
            subst e
            exact hm ha
          have := trace_none hn2 (fun t ht => by
            rcases List.mem_append.mp ht with ht | ht
            · exact hi t ht
            · cases List.mem_singleton.mp ht; exact exit_none.mp he) h
          rw [List.length_append, List.length_singleton] at this
          omega
/-- how a ray goes -/
def goA (w : Nat) (cs : Cols) (s : Ry) : En × List Ry := (trace w cs (4 * w * cs.length + 1) [] s).getD (⟨.caught, 0⟩, [])
theorem goA_some (w : Nat) (cs : Cols) (s : Ry) : trace w cs (4 * w * cs.length + 1) [] s = some (goA w cs s) := by
  unfold goA
  cases h : trace w cs (4 * w * cs.length + 1) [] s with
  | some x => rfl
  | none =>
    have := trace_none (w := w) (cs := cs) (by simp) (by simp) h
    simp at this
    omega
def walkA (w : Nat) (cs : Cols) (g : En) : En × List Ry := goA w cs (entryA w cs.length g)
/-- a strip -/
structure Wf (w : Nat) (cs : Cols) : Prop where
  w1 : 1 ≤ w
  w3 : w ≤ 3
  len : cs.length ≤ 40
  col : ∀ c ∈ cs, c.length = w
  sg : ∀ c ∈ cs, ∀ s ∈ c, s ∈ [35, 46, 100, 112, 113, 117, 118, 119]
structure Wh (w : Nat) (cs : Cols) : Prop where
  w1 : 1 ≤ w
  w3 : w ≤ 3
  len : cs.length ≤ 400
  col : ∀ c ∈ cs, c.length = w
  sg : ∀ c ∈ cs, ∀ s ∈ c, s ∈ [35, 46, 100, 112, 113, 117, 118, 119]
theorem Wf.wh {w : Nat} {cs : Cols} (h : Wf w cs) : Wh w cs := ⟨h.w1, h.w3, by have := h.len; omega, h.col, h.sg⟩
theorem trace_mem {w : Int} {cs : Cols} : ∀ {f : Nat} {seen : List Ry} {s : Ry} {x : En × List Ry}, (∀ t ∈ seen, Inb w cs.length t) → trace w cs f seen s = some x → ∀ t ∈ x.2, Inb w cs.length t
  | 0, _, _, _, _, h => by simp [trace] at h
  | f + 1, seen, s, x, hi, h => by
    unfold trace at h
    split at h
    · cases h; exact hi
    · rename_i he
      have hi2 : ∀ t ∈ seen ++ [s], Inb w cs.length t := fun t ht => by
        rcases List.mem_append.mp ht with ht | ht
        · exact hi t ht
        · cases List.mem_singleton.mp ht; exact exit_none.mp he
      split at h
      · cases h; exact hi
      · split at h
        · cases h; exact hi2
        · exact trace_mem hi2 h

/-! p2: a strip that is turned. -/
def turnS (s : Nat) : Nat := if s = 112 then 113 else if s = 113 then 112 else if s = 118 then 119 else if s = 119 then 118 else s
def flipS (s : Nat) : Nat := if s = 100 then 117 else if s = 112 then 119 else if s = 113 then 118 else if s = 117 then 100 else if s = 118 then 113 else if s = 119 then 112 else s
def halfA (cs : Cols) : Cols := cs.reverse.map fun c => c.reverse.map turnS
def overA (cs : Cols) : Cols := cs.map fun c => c.reverse.map flipS
def Dr.back : Dr → Dr | .down => .up | .left => .right | .right => .left | .up => .down
def Dr.flip : Dr → Dr | .down => .up | .left => .left | .right => .right | .up => .down
def halfR (w n : Int) (s : Ry) : Ry := ⟨w - 1 - s.r, n - 1 - s.c, s.d.back⟩
def overR (w : Int) (s : Ry) : Ry := ⟨w - 1 - s.r, s.c, s.d.flip⟩
def halfE (w n : Int) (e : En) : En := match e.sd with
  | .left => ⟨.right, w - 1 - e.ix⟩
  | .right => ⟨.left, w - 1 - e.ix⟩
  | .top => ⟨.bottom, n - 1 - e.ix⟩
  | .bottom => ⟨.top, n - 1 - e.ix⟩
  | _ => e
def overE (w : Int) (e : En) : En := match e.sd with
  | .left => ⟨.left, w - 1 - e.ix⟩
  | .right => ⟨.right, w - 1 - e.ix⟩
  | .top => ⟨.bottom, e.ix⟩
  | .bottom => ⟨.top, e.ix⟩
  | _ => e
theorem turnS_turnS (s : Nat) : turnS (turnS s) = s := by
  by_cases h35 : s = 35
  · subst h35; decide
  by_cases h117 : s = 117
  · subst h117; decide
  by_cases h112 : s = 112
  · subst h112; decide
  by_cases h113 : s = 113
  · subst h113; decide
  by_cases h100 : s = 100
  · subst h100; decide
  by_cases h118 : s = 118
  · subst h118; decide
  by_cases h119 : s = 119
  · subst h119; decide
  simp [turnS, h112, h113, h118, h119]
theorem flipS_flipS (s : Nat) : flipS (flipS s) = s := by
  by_cases h35 : s = 35
  · subst h35; decide
  by_cases h117 : s = 117
  · subst h117; decide
  by_cases h112 : s = 112
  · subst h112; decide
  by_cases h113 : s = 113
  · subst h113; decide
  by_cases h100 : s = 100
  · subst h100; decide
  by_cases h118 : s = 118
  · subst h118; decide
  by_cases h119 : s = 119
  · subst h119; decide
  simp [flipS, h112, h113, h118, h119, h100, h117]
theorem halfA_halfA (cs : Cols) : halfA (halfA cs) = cs := by
  unfold halfA
  rw [← List.map_reverse, List.reverse_reverse, List.map_map]
  conv => rhs; rw [← List.map_id cs]
  refine List.map_congr_left fun c _ => ?_
  show ((c.reverse.map turnS).reverse.map turnS) = c
  rw [← List.map_reverse, List.reverse_reverse, List.map_map]
  conv => rhs; rw [← List.map_id c]
  exact List.map_congr_left fun s _ => turnS_turnS s
theorem overA_overA (cs : Cols) : overA (overA cs) = cs := by
  unfold overA
  rw [List.map_map]
  conv => rhs; rw [← List.map_id cs]
  refine List.map_congr_left fun c _ => ?_
  show ((c.reverse.map flipS).reverse.map flipS) = c
  rw [← List.map_reverse, List.reverse_reverse, List.map_map]
  conv => rhs; rw [← List.map_id c]
  exact List.map_congr_left fun s _ => flipS_flipS s
theorem halfA_len (cs : Cols) : (halfA cs).length = cs.length := by simp [halfA]
theorem overA_len (cs : Cols) : (overA cs).length = cs.length := by simp [overA]
theorem sg_turn {s : Nat} (h : s ∈ [35, 46, 100, 112, 113, 117, 118, 119]) : turnS s ∈ [35, 46, 100, 112, 113, 117, 118, 119] := by
  simp only [List.mem_cons, List.not_mem_nil, or_false] at h
  rcases h with rfl | rfl | rfl | rfl | rfl | rfl | rfl | rfl <;> decide
theorem sg_flip {s : Nat} (h : s ∈ [35, 46, 100, 112, 113, 117, 118, 119]) : flipS s ∈ [35, 46, 100, 112, 113, 117, 118, 119] := by
  simp only [List.mem_cons, List.not_mem_nil, or_false] at h
  rcases h with rfl | rfl | rfl | rfl | rfl | rfl | rfl | rfl <;> decide
theorem Wf.half {w : Nat} {cs : Cols} (h : Wf w cs) : Wf w (halfA cs) := by
  refine ⟨h.w1, h.w3, by rw [halfA_len]; exact h.len, fun c hc => ?_, fun c hc s hs => ?_⟩
  · obtain ⟨d, hd, rfl⟩ := List.mem_map.mp hc
    simp [h.col d (by simpa using hd)]
  · obtain ⟨d, hd, rfl⟩ := List.mem_map.mp hc
    obtain ⟨t, ht, rfl⟩ := List.mem_map.mp hs
    exact sg_turn (h.sg d (by simpa using hd) t (by simpa using ht))
theorem Wf.over {w : Nat} {cs : Cols} (h : Wf w cs) : Wf w (overA cs) := by
  refine ⟨h.w1, h.w3, by rw [overA_len]; exact h.len, fun c hc => ?_, fun c hc s hs => ?_⟩
  · obtain ⟨d, hd, rfl⟩ := List.mem_map.mp hc
    simp [h.col d hd]
  · obtain ⟨d, hd, rfl⟩ := List.mem_map.mp hc
    obtain ⟨t, ht, rfl⟩ := List.mem_map.mp hs
    exact sg_flip (h.sg d hd t (by simpa using ht))
theorem cell_half {w : Nat} {cs : Cols} (h : Wf w cs) {s : Ry} (hi : Inb w cs.length s) : cellA (halfA cs) (w - 1 - s.r) (cs.length - 1 - s.c) = turnS (cellA cs s.r s.c) := by
  unfold Inb at hi
  unfold cellA
  have h1 : s.c.toNat < cs.length := by omega
  have hc := h.col _ (List.getElem_mem h1)
  have h2 : s.r.toNat < cs[s.c.toNat].length := by omega
  rw [getD_of h1, getD_of h2]
  have h3 : ((cs.length : Int) - 1 - s.c).toNat = cs.length - 1 - s.c.toNat := by omega
  have h4 : ((w : Int) - 1 - s.r).toNat = w - 1 - s.r.toNat := by omega
  rw [h3, h4, getD_of (l := halfA cs) (by rw [halfA_len]; omega)]
  have h5 : (halfA cs)[cs.length - 1 - s.c.toNat]'(by rw [halfA_len]; omega) = (cs[s.c.toNat]).reverse.map turnS := by
    simp only [halfA, List.getElem_map, List.getElem_reverse]
    congr 3
    omega
  rw [getD_of (by rw [h5]; simp; omega)]
  simp only [h5]
  simp only [List.getElem_map, List.getElem_reverse]
  congr 2
  omega
theorem cell_over {w : Nat} {cs : Cols} (h : Wf w cs) {s : Ry} (hi : Inb w cs.length s) : cellA (overA cs) (w - 1 - s.r) s.c = flipS (cellA cs s.r s.c) := by
  unfold Inb at hi
  unfold cellA
  have h1 : s.c.toNat < cs.length := by omega
  have hc := h.col _ (List.getElem_mem h1)
  have h2 : s.r.toNat < cs[s.c.toNat].length := by omega
  rw [getD_of h1, getD_of h2]
  have h4 : ((w : Int) - 1 - s.r).toNat = w - 1 - s.r.toNat := by omega
  rw [h4, getD_of (l := overA cs) (by rw [overA_len]; omega)]
  have h5 : (overA cs)[s.c.toNat]'(by rw [overA_len]; omega) = (cs[s.c.toNat]).reverse.map flipS := by
    simp only [overA, List.getElem_map]
  rw [getD_of (by rw [h5]; simp; omega)]
  simp only [h5]
  simp only [List.getElem_map, List.getElem_reverse]
  congr 2
  omega
theorem onw_turn (s : Nat) (d : Dr) : onw (turnS s) d.back = (onw s d).map Dr.back := by
  by_cases h35 : s = 35
  · subst h35; cases d <;> decide
  by_cases h117 : s = 117
  · subst h117; cases d <;> decide
  by_cases h112 : s = 112
  · subst h112; cases d <;> decide
  by_cases h113 : s = 113
  · subst h113; cases d <;> decide
  by_cases h100 : s = 100
  · subst h100; cases d <;> decide
  by_cases h118 : s = 118
  · subst h118; cases d <;> decide
  by_cases h119 : s = 119
  · subst h119; cases d <;> decide
  simp [turnS, onw, h35, h117, h100, h112, h113, h118, h119]
theorem onw_flip (s : Nat) (d : Dr) : onw (flipS s) d.flip = (onw s d).map Dr.flip := by
  by_cases h35 : s = 35
  · subst h35; cases d <;> decide
  by_cases h117 : s = 117
  · subst h117; cases d <;> decide
  by_cases h112 : s = 112
  · subst h112; cases d <;> decide
  by_cases h113 : s = 113
  · subst h113; cases d <;> decide
  by_cases h100 : s = 100
  · subst h100; cases d <;> decide
  by_cases h118 : s = 118
  · subst h118; cases d <;> decide
  by_cases h119 : s = 119
  · subst h119; cases d <;> decide
  simp [flipS, onw, h35, h117, h100, h112, h113, h118, h119]
theorem back_dr (d : Dr) : d.back.dr = - d.dr ∧ d.back.dc = - d.dc := by cases d <;> decide
theorem flip_dr (d : Dr) : d.flip.dr = - d.dr ∧ d.flip.dc = d.dc := by cases d <;> decide
theorem Dr.back_inj {a b : Dr} (h : a.back = b.back) : a = b := by cases a <;> cases b <;> first | rfl | (exact absurd h (by decide))
theorem Dr.flip_inj {a b : Dr} (h : a.flip = b.flip) : a = b := by cases a <;> cases b <;> first | rfl | (exact absurd h (by decide))
theorem halfR_inj {w n : Int} {s t : Ry} (h : halfR w n s = halfR w n t) : s = t := by
  obtain ⟨r, c, d⟩ := s
  obtain ⟨r', c', d'⟩ := t
  simp only [halfR, Ry.mk.injEq] at h
  obtain ⟨h1, h2, h3⟩ := h
  rw [Dr.back_inj h3, show r = r' by omega, show c = c' by omega]
theorem overR_inj {w : Int} {s t : Ry} (h : overR w s = overR w t) : s = t := by
  obtain ⟨r, c, d⟩ := s
  obtain ⟨r', c', d'⟩ := t
  simp only [overR, Ry.mk.injEq] at h
  obtain ⟨h1, h2, h3⟩ := h
  rw [Dr.flip_inj h3, show r = r' by omega, show c = c' by omega]
/-- a ray stands at one place more than within at most -/
def Near (w n : Int) (s : Ry) : Prop := (0 ≤ s.r ∧ s.r < w ∧ -1 ≤ s.c ∧ s.c ≤ n) ∨ (-1 ≤ s.r ∧ s.r ≤ w ∧ 0 ≤ s.c ∧ s.c < n)
theorem exit_halfR {w n : Int} {s : Ry} (h : Near w n s) (hn : 0 < n) (hw : 0 ≤ w) : exitA w n (halfR w n s) = (exitA w n s).map (halfE w n) := by
  unfold exitA halfR
  dsimp only
  unfold Near at h
  by_cases h1 : s.c < 0
  · have a1 : ¬ n - 1 - s.c < 0 := by omega
    have a2 : n ≤ n - 1 - s.c := by omega
    rw [if_neg a1, if_pos a2, if_pos h1]; rfl
  · by_cases h2 : n ≤ s.c
    · have a1 : n - 1 - s.c < 0 := by omega
      rw [if_pos a1, if_neg h1, if_pos h2]; rfl
    · have a1 : ¬ n - 1 - s.c < 0 := by omega
      have a2 : ¬ n ≤ n - 1 - s.c := by omega
      rw [if_neg a1, if_neg a2, if_neg h1, if_neg h2]
      by_cases h3 : s.r < 0
      · have a3 : ¬ w - 1 - s.r < 0 := by omega
        have a4 : w ≤ w - 1 - s.r := by omega
        rw [if_neg a3, if_pos a4, if_pos h3]; rfl
      · by_cases h4 : w ≤ s.r
        · have a3 : w - 1 - s.r < 0 := by omega
          rw [if_pos a3, if_neg h3, if_pos h4]; rfl
        · have a3 : ¬ w - 1 - s.r < 0 := by omega
          have a4 : ¬ w ≤ w - 1 - s.r := by omega
          rw [if_neg a3, if_neg a4, if_neg h3, if_neg h4]; rfl
theorem exit_overR {w n : Int} {s : Ry} (h : Near w n s) (hw : 0 ≤ w) : exitA w n (overR w s) = (exitA w n s).map (overE w) := by
  unfold exitA overR
  dsimp only
  unfold Near at h
  by_cases h1 : s.c < 0
  · rw [if_pos h1, if_pos h1]; rfl
  · by_cases h2 : n ≤ s.c
    · rw [if_neg h1, if_pos h2, if_neg h1, if_pos h2]; rfl
    · rw [if_neg h1, if_neg h2, if_neg h1, if_neg h2]
      by_cases h3 : s.r < 0
      · have a3 : ¬ w - 1 - s.r < 0 := by omega
        have a4 : w ≤ w - 1 - s.r := by omega
        rw [if_neg a3, if_pos a4, if_pos h3]; rfl
      · by_cases h4 : w ≤ s.r
        · have a3 : w - 1 - s.r < 0 := by omega
          rw [if_pos a3, if_neg h3, if_pos h4]; rfl
        · have a3 : ¬ w - 1 - s.r < 0 := by omega
          have a4 : ¬ w ≤ w - 1 - s.r := by omega
          rw [if_neg a3, if_neg a4, if_neg h3, if_neg h4]; rfl
theorem near_next {w n : Int} {s : Ry} (h : Inb w n s) (d : Dr) : Near w n (mvA s d) := by
  unfold Inb at h
  unfold Near mvA
  cases d <;> simp only [Dr.dr, Dr.dc] <;> omega
theorem next_half {w : Nat} {cs : Cols} (h : Wf w cs) {s : Ry} (hi : Inb w cs.length s) : nextA (halfA cs) (halfR w cs.length s) = (nextA cs s).map (halfR w cs.length) := by
  unfold nextA
  have e : cellA (halfA cs) (halfR w cs.length s).r (halfR w cs.length s).c = turnS (cellA cs s.r s.c) := cell_half h hi
  rw [e, show (halfR w cs.length s).d = s.d.back from rfl, onw_turn]
  cases onw (cellA cs s.r s.c) s.d with
  | none => rfl
  | some d =>
    simp only [Option.map_some, Option.some.injEq]
    unfold mvA halfR
    have := back_dr d
    simp only [Ry.mk.injEq, and_true]
    omega
theorem next_over {w : Nat} {cs : Cols} (h : Wf w cs) {s : Ry} (hi : Inb w cs.length s) : nextA (overA cs) (overR w s) = (nextA cs s).map (overR w) := by
  unfold nextA
  have e : cellA (overA cs) (overR w s).r (overR w s).c = flipS (cellA cs s.r s.c) := cell_over h hi
  rw [e, show (overR w s).d = s.d.flip from rfl, onw_flip]
  cases onw (cellA cs s.r s.c) s.d with
  | none => rfl
  | some d =>
    simp only [Option.map_some, Option.some.injEq]
    unfold mvA overR
    have := flip_dr d
    simp only [Ry.mk.injEq, and_true]
    omega
theorem mem_map_inj {α β : Type} {f : α → β} (hf : ∀ a b, f a = f b → a = b) {l : List α} {a : α} : f a ∈ l.map f ↔ a ∈ l := by
  constructor
  · intro h
    obtain ⟨b, hb, e⟩ := List.mem_map.mp h
    rw [← hf _ _ e]; exact hb
  · exact fun h => List.mem_map.mpr ⟨a, h, rfl⟩
theorem trace_half {w : Nat} {cs : Cols} (h : Wf w cs) (hn : 0 < cs.length) : ∀ {f : Nat} {seen : List Ry} {s : Ry}, Near w cs.length s →
    trace w (halfA cs) f (seen.map (halfR w cs.length)) (halfR w cs.length s) = (trace w cs f seen s).map fun x => (halfE w cs.length x.1, x.2.map (halfR w cs.length))
  | 0, _, _, _ => rfl
  | f + 1, seen, s, hs => by
    unfold trace
    rw [halfA_len, exit_halfR hs (by omega) (by omega)]
    cases he : exitA w cs.length s with
    | some e => rfl
    | none =>
      have hi := exit_none.mp he
      simp only [Option.map_none]
      by_cases hm : s ∈ seen
      · rw [if_pos hm, if_pos ((mem_map_inj fun a b => halfR_inj).mpr hm)]; rfl
      · rw [if_neg hm, if_neg (fun z => hm ((mem_map_inj fun a b => halfR_inj).mp z)), next_half h hi]
        cases hx : nextA cs s with
        | none => simp [halfE]
        | some s' =>
          simp only [Option.map_some]
          have hs' : Near w cs.length s' := by
            unfold nextA at hx
            obtain ⟨d, _, rfl⟩ := Option.map_eq_some_iff.mp hx
            exact near_next hi d
          have := trace_half h hn (f := f) (seen := seen ++ [s]) hs'
          rw [List.map_append, List.map_cons, List.map_nil] at this
          exact this
theorem trace_over {w : Nat} {cs : Cols} (h : Wf w cs) : ∀ {f : Nat} {seen : List Ry} {s : Ry}, Near w cs.length s →
    trace w (overA cs) f (seen.map (overR w)) (overR w s) = (trace w cs f seen s).map fun x => (overE w x.1, x.2.map (overR w))
  | 0, _, _, _ => rfl
  | f + 1, seen, s, hs => by
    unfold trace
    rw [overA_len, exit_overR hs (by omega)]
    cases he : exitA w cs.length s with
    | some e => rfl
    | none =>
      have hi := exit_none.mp he
      simp only [Option.map_none]
      by_cases hm : s ∈ seen
      · rw [if_pos hm, if_pos ((mem_map_inj fun a b => overR_inj).mpr hm)]; rfl
      · rw [if_neg hm, if_neg (fun z => hm ((mem_map_inj fun a b => overR_inj).mp z)), next_over h hi]
        cases hx : nextA cs s with
        | none => simp [overE]
        | some s' =>
          simp only [Option.map_some]
          have hs' : Near w cs.length s' := by
            unfold nextA at hx
            obtain ⟨d, _, rfl⟩ := Option.map_eq_some_iff.mp hx
            exact near_next hi d
          have := trace_over h (f := f) (seen := seen ++ [s]) hs'
          rw [List.map_append, List.map_cons, List.map_nil] at this
          exact this
theorem entry_near {w n : Int} {g : En} (h : Gate w n g) (hw : 0 < w) (hn : 0 ≤ n) : Near w n (entryA w n g) := by
  obtain ⟨sd, ix⟩ := g
  unfold Gate at h
  unfold Near entryA
  cases sd <;> simp_all <;> omega
theorem Gate.half {w n : Int} {g : En} (h : Gate w n g) : Gate w n (halfE w n g) := by
  obtain ⟨sd, ix⟩ := g
  unfold Gate at h ⊢
  cases sd <;> simp_all [halfE] <;> omega
theorem Gate.over {w n : Int} {g : En} (h : Gate w n g) : Gate w n (overE w g) := by
  obtain ⟨sd, ix⟩ := g
  unfold Gate at h ⊢
  cases sd <;> simp_all [overE] <;> omega
theorem entry_half {w n : Int} {g : En} (h : Gate w n g) : entryA w n (halfE w n g) = halfR w n (entryA w n g) := by
  obtain ⟨sd, ix⟩ := g
  unfold Gate at h
  cases sd <;> simp_all [halfE, halfR, entryA, Dr.back] <;> omega
theorem entry_over {w n : Int} {g : En} (h : Gate w n g) : entryA w n (overE w g) = overR w (entryA w n g) := by
  obtain ⟨sd, ix⟩ := g
  unfold Gate at h
  cases sd <;> simp_all [overE, overR, entryA, Dr.flip] <;> omega
theorem walk_half {w : Nat} {cs : Cols} (h : Wf w cs) {g : En} (hg : Gate w cs.length g) : (walkA w (halfA cs) (halfE w cs.length g)).1 = halfE w cs.length (walkA w cs g).1 := by
  have hw := h.w1
  by_cases hn : 0 < cs.length
  · have key := trace_half h hn (f := 4 * w * cs.length + 1) (seen := []) (entry_near hg (by omega) (by omega))
    rw [goA_some, List.map_nil, ← entry_half hg] at key
    have k2 := goA_some w (halfA cs) (entryA w (halfA cs).length (halfE w cs.length g))
    rw [halfA_len] at k2
    rw [key] at k2
    unfold walkA
    rw [halfA_len]
    rw [← Option.some.inj k2]
  · have e : cs = [] := List.eq_nil_of_length_eq_zero (by omega)
    subst e
    obtain ⟨sd, ix⟩ := g
    unfold Gate at hg
    cases sd <;> simp_all [walkA, halfE, halfA, entryA, goA, trace, exitA] <;> omega
theorem walk_over {w : Nat} {cs : Cols} (h : Wf w cs) {g : En} (hg : Gate w cs.length g) : (walkA w (overA cs) (overE w g)).1 = overE w (walkA w cs g).1 := by
  have hw := h.w1
  have key := trace_over h (f := 4 * w * cs.length + 1) (seen := []) (entry_near hg (by omega) (by omega))
  rw [goA_some, List.map_nil, ← entry_over hg] at key
  have k2 := goA_some w (overA cs) (entryA w (overA cs).length (overE w g))
  rw [overA_len] at k2
  rw [key] at k2
  unfold walkA
  rw [overA_len]
  rw [← Option.some.inj k2]

/-! p3: machines -/
inductive Ends {σ ε : Type} (m : σ → σ ⊕ ε) : σ → ε → Prop
  | done {s : σ} {e : ε} (h : m s = .inr e) : Ends m s e
  | step {s s' : σ} {e : ε} (h : m s = .inl s') (t : Ends m s' e) : Ends m s e
section
variable {σ ε : Type} {m : σ → σ ⊕ ε}
theorem Ends.det {s : σ} {e e' : ε} (h : Ends m s e) (g : Ends m s e') : e = e' := by
  induction h with
  | done h =>
    cases g with
    | done g => rw [h] at g; exact Sum.inr.inj g
    | step g _ => rw [h] at g; cases g
  | step h t ih =>
    cases g with
    | done g => rw [h] at g; cases g
    | step g u => rw [h] at g; cases g; exact ih u
theorem Ends.closed {C : σ → Prop} (hc : ∀ s, C s → ∃ s', m s = .inl s' ∧ C s') {s : σ} {e : ε} (h : Ends m s e) : ¬ C s := by
  induction h with
  | done h => intro c; obtain ⟨s', h', _⟩ := hc _ c; rw [h] at h'; cases h'
  | step h t ih => intro c; obtain ⟨s', h', c'⟩ := hc _ c; rw [h] at h'; cases h'; exact ih c'
def runG (m : σ → σ ⊕ ε) : Nat → σ → Option ε
  | 0, s => match m s with | .inr e => some e | .inl _ => none
  | n + 1, s => match m s with | .inr e => some e | .inl s' => runG m n s'
theorem runG_ends : ∀ {n : Nat} {s : σ} {e : ε}, runG m n s = some e → Ends m s e
  | 0, s, e, h => by
    unfold runG at h
    split at h
    · rename_i q; cases h; exact .done q
    · cases h
  | n + 1, s, e, h => by
    unfold runG at h
    split at h
    · rename_i q; cases h; exact .done q
    · rename_i q; exact .step q (runG_ends h)
theorem runG_mono : ∀ {n k : Nat} {s : σ} {e : ε}, n ≤ k → runG m n s = some e → runG m k s = some e
  | 0, 0, s, e, _, h => h
  | 0, k + 1, s, e, _, h => by
    cases q : m s with
    | inr e' => simp only [runG, q] at h ⊢; exact h
    | inl s' => simp only [runG, q] at h; cases h
  | n + 1, 0, s, e, hl, _ => by omega
  | n + 1, k + 1, s, e, hl, h => by
    cases q : m s with
    | inr e' => simp only [runG, q] at h ⊢; exact h
    | inl s' => simp only [runG, q] at h ⊢; exact runG_mono (by omega) h
variable [DecidableEq σ]
def traceG (m : σ → σ ⊕ ε) : Nat → List σ → σ → Option (Option ε × List σ)
  | 0, _, _ => none
  | n + 1, seen, s => match m s with
    | .inr e => some (some e, seen)
    | .inl s' => if s ∈ seen then some (none, seen) else traceG m n (seen ++ [s]) s'
/-- what was seen leads to s -/
def Chn (m : σ → σ ⊕ ε) (seen : List σ) (s : σ) : Prop := ∀ t ∈ seen, ∃ t', m t = .inl t' ∧ (t' ∈ seen ∨ t' = s)
theorem Chn.nil {s : σ} : Chn m [] s := fun _ h => nomatch h
theorem Chn.snoc {seen : List σ} {s s' : σ} (h : Chn m seen s) (q : m s = .inl s') : Chn m (seen ++ [s]) s' := by
  intro t ht
  rcases List.mem_append.mp ht with ht | ht
  · obtain ⟨t', e, c⟩ := h t ht
    refine ⟨t', e, .inl ?_⟩
    rcases c with c | c
    · exact List.mem_append_left _ c
    · rw [c]; exact List.mem_append_right _ (List.mem_cons_self ..)
  · rw [List.mem_singleton] at ht
    subst ht
    exact ⟨s', q, .inr rfl⟩
theorem Chn.loop {seen : List σ} {s : σ} (h : Chn m seen s) (hs : s ∈ seen) (e : ε) : ¬ Ends m s e := fun he => by
  refine he.closed (C := fun t => t ∈ seen) (fun t ht => ?_) hs
  obtain ⟨t', q, c⟩ := h t ht
  refine ⟨t', q, ?_⟩
  rcases c with c | c
  · exact c
  · rw [c]; exact hs
theorem traceG_ok : ∀ {f : Nat} {seen : List σ} {s : σ} {x : Option ε × List σ}, Chn m seen s → traceG m f seen s = some x → (∃ e, x.1 = some e ∧ Ends m s e ∧ runG m f s = some e) ∨ (x.1 = none ∧ ∀ e, ¬ Ends m s e)
  | 0, _, _, _, _, h => by simp [traceG] at h
  | f + 1, seen, s, x, c, h => by
    unfold traceG at h
    split at h
    · rename_i e q
      cases h
      refine .inl ⟨e, rfl, .done q, ?_⟩
      unfold runG
      rw [q]
    · rename_i s' q
      split at h
      · rename_i hm
        cases h
        exact .inr ⟨rfl, c.loop hm⟩
      · rcases traceG_ok (c.snoc q) h with ⟨e, h1, h2, h3⟩ | ⟨h1, h2⟩
        · refine .inl ⟨e, h1, .step q h2, ?_⟩
          unfold runG
          rw [q]
          exact h3
        · refine .inr ⟨h1, fun e he => ?_⟩
          cases he with
          | done g => rw [q] at g; cases g
          | step g t => rw [q] at g; cases g; exact h2 e t
theorem traceG_none {P : σ → Prop} {code : σ → Nat} {N : Nat} (hP : ∀ s s', P s → m s = .inl s' → P s') (hc : ∀ s s', P s → m s = .inl s' → code s < N)
    (hi : ∀ s t s' t', P s → P t → m s = .inl s' → m t = .inl t' → code s = code t → s = t) : ∀ {f : Nat} {seen : List σ} {s : σ}, seen.Nodup → (∀ t ∈ seen, P t ∧ ∃ t', m t = .inl t') → P s → traceG m f seen s = none → seen.length + f ≤ N
  | 0, seen, s, nd, hs, _, _ => by
    have h1 := nodup_map (f := code) (l := seen) (fun a ha b hb e => by
      obtain ⟨p, a', qa⟩ := hs a ha
      obtain ⟨p2, b', qb⟩ := hs b hb
      exact hi a b a' b' p p2 qa qb e) nd
    have h2 := nodup_small N _ h1 (fun x hx => by
      obtain ⟨a, ha, rfl⟩ := List.mem_map.mp hx
      obtain ⟨p, a', qa⟩ := hs a ha
      exact hc a a' p qa)
    rw [List.length_map] at h2
    omega
  | f + 1, seen, s, nd, hs, p, h => by
    unfold traceG at h
    split at h
    · cases h
    · rename_i s' q
      split at h
      · cases h
      · rename_i hm
        have := traceG_none hP hc hi (f := f) (seen := seen ++ [s]) (s := s') (by
          rw [List.nodup_append]
          exact ⟨nd, by simp, fun a ha b hb e => by rw [List.mem_singleton] at hb; subst hb; subst e; exact hm ha⟩) (fun t ht => by
          rcases List.mem_append.mp ht with ht | ht
          · exact hs t ht
          · rw [List.mem_singleton] at ht; subst ht; exact ⟨p, _, q⟩) (hP _ _ p q) h
        rw [List.length_append, List.length_singleton] at this
        omega
end

/-! p4: devices that are laid side by side -/
abbrev Rl := Bool → Nat → En → Prop
/-- a ray within two devices: which device it enters, at which side, in which row -/
inductive Run (F G : Rl) : Bool → Bool → Nat → En → Prop
  | fo {k : Bool} {i : Nat} {e : En} (h : F k i e) (n : e.sd ≠ .right) : Run F G false k i e
  | fg {k : Bool} {i : Nat} {j : Int} {e : En} (h : F k i ⟨.right, j⟩) (t : Run F G true false j.toNat e) : Run F G false k i e
  | go {k : Bool} {i : Nat} {e : En} (h : G k i e) (n : e.sd ≠ .left) : Run F G true k i e
  | gf {k : Bool} {i : Nat} {j : Int} {e : En} (h : G k i ⟨.left, j⟩) (t : Run F G false true j.toNat e) : Run F G true k i e
def Comp (F G : Rl) : Rl := fun k i e => Run F G k k i e
inductive Dv where | f | g | h
inductive Run3 (F G H : Rl) : Dv → Bool → Nat → En → Prop
  | fo {k : Bool} {i : Nat} {e : En} (h : F k i e) (n : e.sd ≠ .right) : Run3 F G H .f k i e
  | fg {k : Bool} {i : Nat} {j : Int} {e : En} (h : F k i ⟨.right, j⟩) (t : Run3 F G H .g false j.toNat e) : Run3 F G H .f k i e
  | go {k : Bool} {i : Nat} {e : En} (h : G k i e) (n : e.sd ≠ .left) (n2 : e.sd ≠ .right) : Run3 F G H .g k i e
  | gf {k : Bool} {i : Nat} {j : Int} {e : En} (h : G k i ⟨.left, j⟩) (t : Run3 F G H .f true j.toNat e) : Run3 F G H .g k i e
  | gh {k : Bool} {i : Nat} {j : Int} {e : En} (h : G k i ⟨.right, j⟩) (t : Run3 F G H .h false j.toNat e) : Run3 F G H .g k i e
  | ho {k : Bool} {i : Nat} {e : En} (h : H k i e) (n : e.sd ≠ .left) : Run3 F G H .h k i e
  | hg {k : Bool} {i : Nat} {j : Int} {e : En} (h : H k i ⟨.left, j⟩) (t : Run3 F G H .g true j.toNat e) : Run3 F G H .h k i e
section
variable {F G H : Rl}
def dvL : Bool → Dv | false => .f | true => .g
def dvR : Bool → Dv | false => .g | true => .h
def dvE : Bool → Dv | false => .f | true => .h
theorem runL_3 {d k : Bool} {i : Nat} {e1 : En} (h : Run F G d k i e1) : (e1.sd ≠ .right → Run3 F G H (dvL d) k i e1) ∧ ∀ e, e1.sd = .right → Run3 F G H .h false e1.ix.toNat e → Run3 F G H (dvL d) k i e := by
  induction h with
  | fo h n => exact ⟨fun _ => .fo h n, fun e q => (n q).elim⟩
  | fg h t ih => exact ⟨fun n => .fg h (ih.1 n), fun e q r => .fg h (ih.2 e q r)⟩
  | @go k i e1 h n =>
    refine ⟨fun n2 => .go h n n2, fun e q r => ?_⟩
    obtain ⟨sd, ix⟩ := e1
    simp only at q r
    subst q
    exact .gh h r
  | gf h t ih => exact ⟨fun n => .gf h (ih.1 n), fun e q r => .gf h (ih.2 e q r)⟩
theorem outL_3 {d k : Bool} {i : Nat} {e : En} (h : Run (Comp F G) H d k i e) : (d = false → Run3 F G H (dvL k) k i e) ∧ (d = true → Run3 F G H .h k i e) := by
  induction h with
  | fo h n => exact ⟨fun _ => (runL_3 h).1 n, fun z => (nomatch z)⟩
  | fg h t ih => exact ⟨fun _ => (runL_3 h).2 _ rfl (ih.2 rfl), fun z => (nomatch z)⟩
  | go h n => exact ⟨fun z => (nomatch z), fun _ => .ho h n⟩
  | gf h t ih => exact ⟨fun z => (nomatch z), fun _ => .hg h (ih.1 rfl)⟩
theorem in3_L {D : Dv} {k : Bool} {i : Nat} {e : En} (h : Run3 F G H D k i e) :
    (D = .f → ∀ k0 i0, (∀ e1, Run F G false k i e1 → Comp F G k0 i0 e1) → Run (Comp F G) H false k0 i0 e) ∧
    (D = .g → ∀ k0 i0, (∀ e1, Run F G true k i e1 → Comp F G k0 i0 e1) → Run (Comp F G) H false k0 i0 e) ∧
    (D = .h → Run (Comp F G) H true k i e) := by
  induction h with
  | fo h n => exact ⟨fun _ k0 i0 q => .fo (q _ (.fo h n)) n, fun z => (nomatch z), fun z => (nomatch z)⟩
  | fg h t ih => exact ⟨fun _ k0 i0 q => ih.2.1 rfl k0 i0 fun e1 r => q e1 (.fg h r), fun z => (nomatch z), fun z => (nomatch z)⟩
  | go h n n2 => exact ⟨fun z => (nomatch z), fun _ k0 i0 q => .fo (q _ (.go h n)) n2, fun z => (nomatch z)⟩
  | gf h t ih => exact ⟨fun z => (nomatch z), fun _ k0 i0 q => ih.1 rfl k0 i0 fun e1 r => q e1 (.gf h r), fun z => (nomatch z)⟩
  | gh h t ih => exact ⟨fun z => (nomatch z), fun _ k0 i0 q => .fg (q _ (.go h (fun z => nomatch z))) (ih.2.2 rfl), fun z => (nomatch z)⟩
  | ho h n => exact ⟨fun z => (nomatch z), fun z => (nomatch z), fun _ => .go h n⟩
  | hg h t ih => exact ⟨fun z => (nomatch z), fun z => (nomatch z), fun _ => .gf h (ih.2.1 rfl true _ fun e1 r => r)⟩
theorem compL_3 {k : Bool} {i : Nat} {e : En} : Comp (Comp F G) H k i e ↔ Run3 F G H (dvE k) k i e := by
  constructor
  · intro h
    cases k with
    | false => exact (outL_3 h).1 rfl
    | true => exact (outL_3 h).2 rfl
  · intro h
    cases k with
    | false => exact (in3_L h).1 rfl _ _ fun e1 r => r
    | true => exact (in3_L h).2.2 rfl
theorem runR_3 {d k : Bool} {i : Nat} {e1 : En} (h : Run G H d k i e1) : (e1.sd ≠ .left → Run3 F G H (dvR d) k i e1) ∧ ∀ e, e1.sd = .left → Run3 F G H .f true e1.ix.toNat e → Run3 F G H (dvR d) k i e := by
  induction h with
  | @fo k i e1 h n =>
    refine ⟨fun n2 => .go h n2 n, fun e q r => ?_⟩
    obtain ⟨sd, ix⟩ := e1
    simp only at q r
    subst q
    exact .gf h r
  | fg h t ih => exact ⟨fun n => .gh h (ih.1 n), fun e q r => .gh h (ih.2 e q r)⟩
  | go h n => exact ⟨fun _ => .ho h n, fun e q => (n q).elim⟩
  | gf h t ih => exact ⟨fun n => .hg h (ih.1 n), fun e q r => .hg h (ih.2 e q r)⟩
theorem outR_3 {d k : Bool} {i : Nat} {e : En} (h : Run F (Comp G H) d k i e) : (d = false → Run3 F G H .f k i e) ∧ (d = true → Run3 F G H (dvR k) k i e) := by
  induction h with
  | fo h n => exact ⟨fun _ => .fo h n, fun z => (nomatch z)⟩
  | fg h t ih => exact ⟨fun _ => .fg h (ih.2 rfl), fun z => (nomatch z)⟩
  | go h n => exact ⟨fun z => (nomatch z), fun _ => (runR_3 h).1 n⟩
  | gf h t ih => exact ⟨fun z => (nomatch z), fun _ => (runR_3 h).2 _ rfl (ih.1 rfl)⟩
theorem in3_R {D : Dv} {k : Bool} {i : Nat} {e : En} (h : Run3 F G H D k i e) :
    (D = .h → ∀ k0 i0, (∀ e1, Run G H true k i e1 → Comp G H k0 i0 e1) → Run F (Comp G H) true k0 i0 e) ∧
    (D = .g → ∀ k0 i0, (∀ e1, Run G H false k i e1 → Comp G H k0 i0 e1) → Run F (Comp G H) true k0 i0 e) ∧
    (D = .f → Run F (Comp G H) false k i e) := by
  induction h with
  | fo h n => exact ⟨fun z => (nomatch z), fun z => (nomatch z), fun _ => .fo h n⟩
  | fg h t ih => exact ⟨fun z => (nomatch z), fun z => (nomatch z), fun _ => .fg h (ih.2.1 rfl false _ fun e1 r => r)⟩
  | go h n n2 => exact ⟨fun z => (nomatch z), fun _ k0 i0 q => .go (q _ (.fo h n2)) n, fun z => (nomatch z)⟩
  | gf h t ih => exact ⟨fun z => (nomatch z), fun _ k0 i0 q => .gf (q _ (.fo h (fun z => nomatch z))) (ih.2.2 rfl), fun z => (nomatch z)⟩
  | gh h t ih => exact ⟨fun z => (nomatch z), fun _ k0 i0 q => ih.1 rfl k0 i0 fun e1 r => q e1 (.fg h r), fun z => (nomatch z)⟩
  | ho h n => exact ⟨fun _ k0 i0 q => .go (q _ (.go h n)) n, fun z => (nomatch z), fun z => (nomatch z)⟩
  | hg h t ih => exact ⟨fun _ k0 i0 q => ih.2.1 rfl k0 i0 fun e1 r => q e1 (.gf h r), fun z => (nomatch z), fun z => (nomatch z)⟩
theorem compR_3 {k : Bool} {i : Nat} {e : En} : Comp F (Comp G H) k i e ↔ Run3 F G H (dvE k) k i e := by
  constructor
  · intro h
    cases k with
    | false => exact (outR_3 h).1 rfl
    | true => exact (outR_3 h).2 rfl
  · intro h
    cases k with
    | false => exact (in3_R h).2.2 rfl
    | true => exact (in3_R h).1 rfl _ _ fun e1 r => r
theorem comp_assoc {k : Bool} {i : Nat} {e : En} : Comp (Comp F G) H k i e ↔ Comp F (Comp G H) k i e := compL_3.trans compR_3.symm
end

/-! p5: tables -/
def cauE : En := ⟨.caught, 0⟩
structure Tab where
  l : List En
  r : List En
def Tab.at (t : Tab) : Bool → Nat → En
  | false, i => t.l.getD i cauE
  | true, i => t.r.getD i cauE
def Tab.rel (t : Tab) : Rl := fun k i e => t.at k i = e ∧ e.sd ≠ .caught
def EndOk (w : Nat) (e : En) : Prop := ((e.sd = .left ∨ e.sd = .right) ∧ 0 ≤ e.ix ∧ e.ix < w) ∨ ((e.sd ≠ .left ∧ e.sd ≠ .right) ∧ e.ix = 0)
structure TabOk (w : Nat) (t : Tab) : Prop where
  ll : t.l.length = w
  rl : t.r.length = w
  okl : ∀ e ∈ t.l, EndOk w e
  okr : ∀ e ∈ t.r, EndOk w e
theorem EndOk.cau {w : Nat} : EndOk w cauE := .inr ⟨⟨fun z => (nomatch z), fun z => (nomatch z)⟩, rfl⟩
theorem TabOk.at {w : Nat} {t : Tab} (h : TabOk w t) (k : Bool) (i : Nat) : EndOk w (t.at k i) := by
  cases k with
  | false =>
    show EndOk w (t.l.getD i cauE)
    by_cases hi : i < t.l.length
    · rw [getD_of hi]; exact h.okl _ (List.getElem_mem hi)
    · rw [List.getD_eq_getElem?_getD, List.getElem?_eq_none (by omega)]; exact .cau
  | true =>
    show EndOk w (t.r.getD i cauE)
    by_cases hi : i < t.r.length
    · rw [getD_of hi]; exact h.okr _ (List.getElem_mem hi)
    · rw [List.getD_eq_getElem?_getD, List.getElem?_eq_none (by omega)]; exact .cau
theorem list_ext_at {w : Nat} {a b : List En} (ha : a.length = w) (hb : b.length = w) (h : ∀ i, i < w → a.getD i cauE = b.getD i cauE) : a = b := by
  refine List.ext_getElem (ha.trans hb.symm) fun i h1 h2 => ?_
  have := h i (by omega)
  rwa [getD_of h1, getD_of h2] at this
theorem En.cau_of {w : Nat} {e : En} (h : EndOk w e) (hc : e.sd = .caught) : e = cauE := by
  obtain ⟨sd, ix⟩ := e
  simp only at hc
  subst hc
  rcases h with ⟨h, _⟩ | ⟨_, h⟩
  · simp at h
  · simp only at h; rw [h]; rfl
theorem Tab.at_ext {w : Nat} {t u : Tab} (ht : TabOk w t) (hu : TabOk w u) {k : Bool} {i : Nat} (h : ∀ e, t.rel k i e ↔ u.rel k i e) : t.at k i = u.at k i := by
  by_cases c : (t.at k i).sd = .caught
  · by_cases c2 : (u.at k i).sd = .caught
    · rw [En.cau_of (ht.at k i) c, En.cau_of (hu.at k i) c2]
    · exact ((h _).mpr ⟨rfl, c2⟩).1
  · exact ((h _).mp ⟨rfl, c⟩).1.symm
theorem Tab.ext_rel {w : Nat} {t u : Tab} (ht : TabOk w t) (hu : TabOk w u) (h : ∀ k i e, i < w → (t.rel k i e ↔ u.rel k i e)) : t = u := by
  have h1 : t.l = u.l := list_ext_at ht.ll hu.ll fun i hi => Tab.at_ext ht hu (k := false) (h false i · hi)
  have h2 : t.r = u.r := list_ext_at ht.rl hu.rl fun i hi => Tab.at_ext ht hu (k := true) (h true i · hi)
  cases t; cases u
  simp only at h1 h2
  rw [h1, h2]
/-! chasing -/
abbrev Cs := Bool × En
def mC (a b : Tab) : Cs → Cs ⊕ En
  | (false, e) => if e.sd = .right then .inl (true, b.at false e.ix.toNat) else .inr e
  | (true, e) => if e.sd = .left then .inl (false, a.at true e.ix.toNat) else .inr e
def startC (a b : Tab) (k : Bool) (i : Nat) : Cs := match k with
  | false => (false, a.at false i)
  | true => (true, b.at true i)
def devC (a b : Tab) (d k : Bool) (i : Nat) : Cs := match d with
  | false => (false, a.at k i)
  | true => (true, b.at k i)
theorem startC_dev {a b : Tab} {k : Bool} {i : Nat} : startC a b k i = devC a b k k i := by cases k <;> rfl
def chaseE (a b : Tab) (n : Nat) (s : Cs) : En := (runG (mC a b) n s).getD cauE
def prodA (w : Nat) (a b : Tab) : Tab := ⟨(List.range w).map fun i => chaseE a b (4 * w + 2) (startC a b false i), (List.range w).map fun i => chaseE a b (4 * w + 2) (startC a b true i)⟩
section
variable {w : Nat} {a b : Tab}
theorem ends_run {s : Cs} {e : En} (h : Ends (mC a b) s e) : e.sd ≠ .caught → ∀ d k i, s = devC a b d k i → Run a.rel b.rel d k i e := by
  induction h with
  | @done s e h =>
    rintro hc d k i rfl
    cases d with
    | false =>
      simp only [devC, mC] at h
      split at h
      · cases h
      · rename_i n
        cases h
        exact .fo ⟨rfl, hc⟩ n
    | true =>
      simp only [devC, mC] at h
      split at h
      · cases h
      · rename_i n
        cases h
        exact .go ⟨rfl, hc⟩ n
  | @step s s' e h t ih =>
    rintro hc d k i rfl
    cases d with
    | false =>
      simp only [devC, mC] at h
      split at h
      · rename_i n
        cases h
        refine .fg (j := (a.at k i).ix) ⟨?_, fun z => (nomatch z)⟩ (ih hc true false _ rfl)
        generalize a.at k i = x at n
        cases x; simp only at n; rw [n]
      · cases h
    | true =>
      simp only [devC, mC] at h
      split at h
      · rename_i n
        cases h
        refine .gf (j := (b.at k i).ix) ⟨?_, fun z => (nomatch z)⟩ (ih hc false true _ rfl)
        generalize b.at k i = x at n
        cases x; simp only at n; rw [n]
      · cases h
theorem run_ends {d k : Bool} {i : Nat} {e : En} (h : Run a.rel b.rel d k i e) : Ends (mC a b) (devC a b d k i) e ∧ e.sd ≠ .caught := by
  induction h with
  | fo h n =>
    refine ⟨.done ?_, h.2⟩
    simp only [devC, mC]
    rw [h.1, if_neg n]
  | fg h t ih =>
    refine ⟨.step ?_ ih.1, ih.2⟩
    simp only [devC, mC]
    rw [h.1, if_pos rfl]
  | go h n =>
    refine ⟨.done ?_, h.2⟩
    simp only [devC, mC]
    rw [h.1, if_neg n]
  | gf h t ih =>
    refine ⟨.step ?_ ih.1, ih.2⟩
    simp only [devC, mC]
    rw [h.1, if_pos rfl]
/-- states that go on are few -/
def codeC (w : Nat) (s : Cs) : Nat := if s.1 = false then s.2.ix.toNat else w + s.2.ix.toNat
def PC (w : Nat) (s : Cs) : Prop := EndOk w s.2
theorem mC_go {s s' : Cs} (h : mC a b s = .inl s') : (s.1 = false ∧ s.2.sd = .right ∧ s' = devC a b true false s.2.ix.toNat) ∨ (s.1 = true ∧ s.2.sd = .left ∧ s' = devC a b false true s.2.ix.toNat) := by
  obtain ⟨k, e⟩ := s
  cases k with
  | false =>
    simp only [mC] at h
    split at h
    · rename_i n; cases h; exact .inl ⟨rfl, n, rfl⟩
    · cases h
  | true =>
    simp only [mC] at h
    split at h
    · rename_i n; cases h; exact .inr ⟨rfl, n, rfl⟩
    · cases h
theorem dev_ok (ha : TabOk w a) (hb : TabOk w b) (d k : Bool) (i : Nat) : PC w (devC a b d k i) := by
  cases d
  · exact ha.at k i
  · exact hb.at k i
theorem EndOk.side {e : En} (h : EndOk w e) (hs : e.sd = .left ∨ e.sd = .right) : 0 ≤ e.ix ∧ e.ix < w := by
  rcases h with ⟨_, h⟩ | ⟨h, _⟩
  · exact h
  · rcases hs with hs | hs
    · exact (h.1 hs).elim
    · exact (h.2 hs).elim
theorem mC_rng {s s' : Cs} (p : PC w s) (h : mC a b s = .inl s') : 0 ≤ s.2.ix ∧ s.2.ix < w := by
  rcases mC_go h with ⟨_, h2, _⟩ | ⟨_, h2, _⟩
  · exact EndOk.side p (.inr h2)
  · exact EndOk.side p (.inl h2)
theorem chase_trace (ha : TabOk w a) (hb : TabOk w b) {f : Nat} {seen : List Cs} {s : Cs} (nd : seen.Nodup) (hs : ∀ t ∈ seen, PC w t ∧ ∃ t', mC a b t = .inl t') (p : PC w s) (h : traceG (mC a b) f seen s = none) : seen.length + f ≤ 2 * w := by
  refine traceG_none (P := PC w) (code := codeC w) (fun s s' _ h => ?_) (fun s s' p h => ?_) (fun s t s' t' p1 p2 h1 h2 e => ?_) nd hs p h
  · rcases mC_go h with ⟨_, _, rfl⟩ | ⟨_, _, rfl⟩ <;> exact dev_ok ha hb _ _ _
  · have := mC_rng p h
    unfold codeC
    split <;> omega
  · have r1 := mC_rng p1 h1
    have r2 := mC_rng p2 h2
    obtain ⟨k1, e1⟩ := s
    obtain ⟨k2, e2⟩ := t
    obtain ⟨sd1, ix1⟩ := e1
    obtain ⟨sd2, ix2⟩ := e2
    simp only at r1 r2
    rcases mC_go h1 with ⟨q1, q2, _⟩ | ⟨q1, q2, _⟩ <;> rcases mC_go h2 with ⟨q3, q4, _⟩ | ⟨q3, q4, _⟩ <;> simp only at q1 q2 q3 q4 <;> subst q1 q2 q3 q4 <;> simp only [codeC, if_pos, if_neg, Bool.true_eq_false, not_false_eq_true, if_false] at e
    · have : ix1 = ix2 := by omega
      rw [this]
    · omega
    · omega
    · have : ix1 = ix2 := by omega
      rw [this]
theorem chase_ends (ha : TabOk w a) (hb : TabOk w b) {s : Cs} (p : PC w s) {e : En} (h : Ends (mC a b) s e) : chaseE a b (4 * w + 2) s = e := by
  cases ht : traceG (mC a b) (2 * w + 1) [] s with
  | none =>
    have := chase_trace ha hb List.nodup_nil (fun _ h => nomatch h) p ht
    simp at this
    omega
  | some x =>
    rcases traceG_ok .nil ht with ⟨e', h1, h2, h3⟩ | ⟨h1, h2⟩
    · have : e' = e := h2.det h
      subst this
      unfold chaseE
      rw [runG_mono (by omega) h3]
      rfl
    · exact (h2 e h).elim
theorem chase_not {s : Cs} {n : Nat} (h : ∀ e, ¬ Ends (mC a b) s e) : chaseE a b n s = cauE := by
  unfold chaseE
  cases q : runG (mC a b) n s with
  | none => rfl
  | some e => exact (h e (runG_ends q)).elim
theorem chase_iff (ha : TabOk w a) (hb : TabOk w b) {s : Cs} (p : PC w s) {e : En} (hc : e.sd ≠ .caught) : chaseE a b (4 * w + 2) s = e ↔ Ends (mC a b) s e := by
  constructor
  · intro h
    by_cases q : ∃ e', Ends (mC a b) s e'
    · obtain ⟨e', q⟩ := q
      rw [chase_ends ha hb p q] at h
      rw [← h]; exact q
    · rw [chase_not fun e' z => q ⟨e', z⟩] at h
      subst h
      exact (hc rfl).elim
  · exact chase_ends ha hb p
theorem prod_at {k : Bool} {i : Nat} (hi : i < w) : (prodA w a b).at k i = chaseE a b (4 * w + 2) (startC a b k i) := by
  cases k
  · show ((List.range w).map _).getD i cauE = _
    rw [getD_of (by simpa using hi)]
    simp
  · show ((List.range w).map _).getD i cauE = _
    rw [getD_of (by simpa using hi)]
    simp
theorem prod_rel (ha : TabOk w a) (hb : TabOk w b) {k : Bool} {i : Nat} (hi : i < w) {e : En} : (prodA w a b).rel k i e ↔ Comp a.rel b.rel k i e := by
  show (prodA w a b).at k i = e ∧ e.sd ≠ .caught ↔ _
  rw [prod_at hi, startC_dev]
  constructor
  · rintro ⟨h, hc⟩
    exact ends_run ((chase_iff ha hb (dev_ok ha hb _ _ _) hc).mp h) hc _ _ _ rfl
  · intro h
    obtain ⟨h1, h2⟩ := run_ends h
    exact ⟨(chase_iff ha hb (dev_ok ha hb _ _ _) h2).mpr h1, h2⟩
theorem ends_ok (ha : TabOk w a) (hb : TabOk w b) {s : Cs} {e : En} (h : Ends (mC a b) s e) : PC w s → EndOk w e := by
  induction h with
  | @done s e h =>
    intro p
    obtain ⟨k, x⟩ := s
    cases k <;> simp only [mC] at h <;> split at h <;> cases h <;> exact p
  | step h t ih =>
    intro _
    apply ih
    rcases mC_go h with ⟨_, _, rfl⟩ | ⟨_, _, rfl⟩ <;> exact dev_ok ha hb _ _ _
theorem chase_ok (ha : TabOk w a) (hb : TabOk w b) {s : Cs} (p : PC w s) (n : Nat) : EndOk w (chaseE a b n s) := by
  unfold chaseE
  cases q : runG (mC a b) n s with
  | none => exact .cau
  | some e => exact ends_ok ha hb (runG_ends q) p
theorem prod_ok (ha : TabOk w a) (hb : TabOk w b) : TabOk w (prodA w a b) := by
  refine ⟨by simp [prodA], by simp [prodA], fun e he => ?_, fun e he => ?_⟩
  · simp only [prodA, List.mem_map] at he
    obtain ⟨i, _, rfl⟩ := he
    rw [startC_dev]
    exact chase_ok ha hb (dev_ok ha hb _ _ _) _
  · simp only [prodA, List.mem_map] at he
    obtain ⟨i, _, rfl⟩ := he
    rw [startC_dev]
    exact chase_ok ha hb (dev_ok ha hb _ _ _) _
end
/-- only rows of the width are met -/
def Rows (w : Nat) (F : Rl) : Prop := ∀ k i (e : En), F k i e → EndOk w e
theorem run_cong {w : Nat} {F G F' G' : Rl} (hf : Rows w F) (hg : Rows w G) (f : ∀ k i e, i < w → F k i e → F' k i e) (g : ∀ k i e, i < w → G k i e → G' k i e) {d k : Bool} {i : Nat} {e : En} (h : Run F G d k i e) : i < w → Run F' G' d k i e := by
  have nx : ∀ {sd : Sd} {j : Int}, (sd = .left ∨ sd = .right) → EndOk w ⟨sd, j⟩ → j.toNat < w := fun hs h => by
    have := EndOk.side h hs
    simp only at this
    omega
  induction h with
  | fo h n => exact fun hi => .fo (f _ _ _ hi h) n
  | fg h t ih => exact fun hi => .fg (f _ _ _ hi h) (ih (nx (.inr rfl) (hf _ _ _ h)))
  | go h n => exact fun hi => .go (g _ _ _ hi h) n
  | gf h t ih => exact fun hi => .gf (g _ _ _ hi h) (ih (nx (.inl rfl) (hg _ _ _ h)))
theorem TabOk.rows {w : Nat} {t : Tab} (h : TabOk w t) : Rows w t.rel := fun k i e q => q.1 ▸ h.at k i
theorem comp_cong {w : Nat} {F G F' G' : Rl} (hf : Rows w F) (hg : Rows w G) (hf' : Rows w F') (hg' : Rows w G') (f : ∀ k i e, i < w → (F k i e ↔ F' k i e)) (g : ∀ k i e, i < w → (G k i e ↔ G' k i e)) {k : Bool} {i : Nat} {e : En} (hi : i < w) : Comp F G k i e ↔ Comp F' G' k i e :=
  ⟨fun h => run_cong hf hg (fun k i e hi => (f k i e hi).mp) (fun k i e hi => (g k i e hi).mp) h hi, fun h => run_cong hf' hg' (fun k i e hi => (f k i e hi).mpr) (fun k i e hi => (g k i e hi).mpr) h hi⟩
theorem run_rows {w : Nat} {F G : Rl} (hf : Rows w F) (hg : Rows w G) {d k : Bool} {i : Nat} {e : En} (h : Run F G d k i e) : EndOk w e := by
  induction h with
  | fo h _ => exact hf _ _ _ h
  | fg _ _ ih => exact ih
  | go h _ => exact hg _ _ _ h
  | gf _ _ ih => exact ih
/-- products are associative -/
theorem prod_assoc {w : Nat} {a b c : Tab} (ha : TabOk w a) (hb : TabOk w b) (hc : TabOk w c) : prodA w (prodA w a b) c = prodA w a (prodA w b c) := by
  have hab := prod_ok ha hb
  have hbc := prod_ok hb hc
  refine Tab.ext_rel (prod_ok hab hc) (prod_ok ha hbc) fun k i e hi => ?_
  rw [prod_rel hab hc hi, prod_rel ha hbc hi]
  have r1 : Rows w (Comp a.rel b.rel) := fun _ _ _ h => run_rows ha.rows hb.rows h
  have r2 : Rows w (Comp b.rel c.rel) := fun _ _ _ h => run_rows hb.rows hc.rows h
  rw [comp_cong hab.rows hc.rows r1 hc.rows (fun k i e hi => prod_rel ha hb hi) (fun _ _ _ _ => Iff.rfl) hi]
  rw [comp_cong ha.rows hbc.rows ha.rows r2 (fun _ _ _ _ => Iff.rfl) (fun k i e hi => prod_rel hb hc hi) hi]
  exact comp_assoc

/-! p6: strips as devices -/
def mW (w : Nat) (cs : Cols) (s : Ry) : Ry ⊕ En := match exitA w cs.length s with
  | some e => .inr e
  | none => match nextA cs s with
    | none => .inr ⟨.stopped, 0⟩
    | some s' => .inl s'
def plainE (e : En) : En := if e.sd = .left ∨ e.sd = .right then e else ⟨e.sd, 0⟩
theorem plain_sd (e : En) : (plainE e).sd = e.sd := by unfold plainE; split <;> rfl
theorem plain_right {e : En} {j : Int} (h : plainE e = ⟨.right, j⟩) : e = ⟨.right, j⟩ := by
  have : e.sd = .right := by rw [← plain_sd, h]
  unfold plainE at h
  rwa [if_pos (.inr this)] at h
theorem plain_left {e : En} {j : Int} (h : plainE e = ⟨.left, j⟩) : e = ⟨.left, j⟩ := by
  have : e.sd = .left := by rw [← plain_sd, h]
  unfold plainE at h
  rwa [if_pos (.inl this)] at h
theorem exit_sd {w n : Int} {s : Ry} {e : En} (h : exitA w n s = some e) : e.sd ≠ .caught ∧ e.sd ≠ .stopped := by
  unfold exitA at h
  split at h
  · cases h; exact ⟨fun z => (nomatch z), fun z => (nomatch z)⟩
  · split at h
    · cases h; exact ⟨fun z => (nomatch z), fun z => (nomatch z)⟩
    · split at h
      · cases h; exact ⟨fun z => (nomatch z), fun z => (nomatch z)⟩
      · split at h
        · cases h; exact ⟨fun z => (nomatch z), fun z => (nomatch z)⟩
        · cases h
section
variable {w : Nat} {cs : Cols}
theorem mW_inl {s s' : Ry} (h : mW w cs s = .inl s') : Inb w cs.length s ∧ nextA cs s = some s' ∧ ∃ d, s' = mvA s d := by
  unfold mW at h
  split at h
  · cases h
  · rename_i q
    split at h
    · cases h
    · rename_i s2 q2
      cases h
      refine ⟨exit_none.mp q, q2, ?_⟩
      unfold nextA at q2
      cases ho : onw (cellA cs s.r s.c) s.d with
      | none => rw [ho] at q2; cases q2
      | some d => rw [ho] at q2; exact ⟨d, (Option.some.inj q2).symm⟩
theorem mW_inr {s : Ry} {e : En} (h : mW w cs s = .inr e) : exitA w cs.length s = some e ∨ e = ⟨.stopped, 0⟩ := by
  unfold mW at h
  split at h
  · rename_i q; cases h; exact .inl q
  · split at h
    · cases h; exact .inr rfl
    · cases h
theorem mW_exit {s : Ry} {e : En} (h : exitA w cs.length s = some e) : mW w cs s = .inr e := by unfold mW; rw [h]
theorem trace_ends : ∀ {f : Nat} {seen : List Ry} {s : Ry} {x : En × List Ry}, Chn (mW w cs) seen s → trace w cs f seen s = some x → (Ends (mW w cs) s x.1 ∧ x.1.sd ≠ .caught) ∨ (x.1 = cauE ∧ ∀ e, ¬ Ends (mW w cs) s e)
  | 0, _, _, _, _, h => by simp [trace] at h
  | f + 1, seen, s, x, c, h => by
    unfold trace at h
    cases he : exitA w cs.length s with
    | some e =>
      rw [he] at h
      cases h
      exact .inl ⟨.done (mW_exit he), (exit_sd he).1⟩
    | none =>
      rw [he] at h
      simp only at h
      by_cases hm : s ∈ seen
      · rw [if_pos hm] at h
        cases h
        exact .inr ⟨rfl, c.loop hm⟩
      · rw [if_neg hm] at h
        cases hn : nextA cs s with
        | none =>
          rw [hn] at h
          cases h
          refine .inl ⟨.done ?_, fun z => (nomatch z)⟩
          unfold mW
          rw [he]
          simp only [hn]
        | some s' =>
          rw [hn] at h
          have q : mW w cs s = .inl s' := by
            unfold mW
            rw [he]
            simp only [hn]
          rcases trace_ends (c.snoc q) h with ⟨h1, h2⟩ | ⟨h1, h2⟩
          · exact .inl ⟨.step q h1, h2⟩
          · refine .inr ⟨h1, fun e z => ?_⟩
            cases z with
            | done g => rw [q] at g; cases g
            | step g t => rw [q] at g; cases g; exact h2 e t
def sideOf (k : Bool) : Sd := if k then .right else .left
def tableA (w : Nat) (cs : Cols) : Tab := ⟨(List.range w).map fun (i : Nat) => plainE (walkA w cs ⟨.left, (i : Int)⟩).1, (List.range w).map fun (i : Nat) => plainE (walkA w cs ⟨.right, (i : Int)⟩).1⟩
def WR (w : Nat) (cs : Cols) : Rl := fun k i e => i < w ∧ ∃ e0, Ends (mW w cs) (entryA w cs.length ⟨sideOf k, (i : Int)⟩) e0 ∧ plainE e0 = e
theorem table_at {k : Bool} {i : Nat} (hi : i < w) : (tableA w cs).at k i = plainE (walkA w cs ⟨sideOf k, (i : Int)⟩).1 := by
  cases k
  · show ((List.range w).map _).getD i cauE = _
    rw [getD_of (by simpa using hi)]
    simp [sideOf]
  · show ((List.range w).map _).getD i cauE = _
    rw [getD_of (by simpa using hi)]
    simp [sideOf]
theorem walk_ends (g : En) : (Ends (mW w cs) (entryA w cs.length g) (walkA w cs g).1 ∧ (walkA w cs g).1.sd ≠ .caught) ∨ ((walkA w cs g).1 = cauE ∧ ∀ e, ¬ Ends (mW w cs) (entryA w cs.length g) e) :=
  trace_ends .nil (goA_some w cs (entryA w cs.length g))
theorem table_rel {k : Bool} {i : Nat} (hi : i < w) {e : En} : (tableA w cs).rel k i e ↔ WR w cs k i e := by
  show (tableA w cs).at k i = e ∧ e.sd ≠ .caught ↔ _
  rw [table_at hi]
  rcases walk_ends (w := w) (cs := cs) ⟨sideOf k, (i : Int)⟩ with ⟨h1, h2⟩ | ⟨h1, h2⟩
  · constructor
    · rintro ⟨h, _⟩
      exact ⟨hi, _, h1, h⟩
    · rintro ⟨_, e0, q, h⟩
      have := q.det h1
      subst this
      exact ⟨h, by rw [← h, plain_sd]; exact h2⟩
  · constructor
    · rintro ⟨h, hc⟩
      rw [h1] at h
      subst h
      exact (hc rfl).elim
    · rintro ⟨_, e0, q, h⟩
      exact (h2 e0 q).elim
theorem ends_near {s : Ry} {e : En} (h : Ends (mW w cs) s e) : Near w cs.length s → EndOk w (plainE e) := by
  induction h with
  | @done s e h =>
    intro nr
    rcases mW_inr h with q | rfl
    · unfold Near at nr
      unfold exitA at q
      split at q
      · cases q
        exact .inl ⟨.inl rfl, by show 0 ≤ s.r; omega, by show s.r < w; omega⟩
      · split at q
        · cases q
          exact .inl ⟨.inr rfl, by show 0 ≤ s.r; omega, by show s.r < w; omega⟩
        · split at q
          · cases q
            exact .inr ⟨⟨fun z => (nomatch z), fun z => (nomatch z)⟩, rfl⟩
          · split at q
            · cases q
              exact .inr ⟨⟨fun z => (nomatch z), fun z => (nomatch z)⟩, rfl⟩
            · cases q
    · exact .inr ⟨⟨fun z => (nomatch z), fun z => (nomatch z)⟩, rfl⟩
  | step h t ih =>
    intro nr
    obtain ⟨hi, _, d, rfl⟩ := mW_inl h
    exact ih (near_next hi d)
theorem gate_side {k : Bool} {i : Nat} {n : Int} (hi : i < w) : Gate w n ⟨sideOf k, (i : Int)⟩ := by
  refine ⟨by show (0 : Int) ≤ i; omega, .inl ⟨?_, by show (i : Int) < w; omega⟩⟩
  cases k
  · exact .inl rfl
  · exact .inr rfl
theorem wr_rows : Rows w (WR w cs) := fun k i e ⟨hi, e0, h, q⟩ => q ▸ ends_near h (entry_near (gate_side hi) (by omega) (by omega))
theorem table_ok : TabOk w (tableA w cs) := by
  have key : ∀ k (i : Nat), i < w → EndOk w (plainE (walkA w cs ⟨sideOf k, (i : Int)⟩).1) := fun k i hi => by
    rcases walk_ends (w := w) (cs := cs) ⟨sideOf k, (i : Int)⟩ with ⟨h1, h2⟩ | ⟨h1, h2⟩
    · exact ends_near h1 (entry_near (gate_side hi) (by omega) (by omega))
    · rw [h1]; exact .cau
  refine ⟨by simp [tableA], by simp [tableA], fun e he => ?_, fun e he => ?_⟩
  · simp only [tableA, List.mem_map, List.mem_range] at he
    obtain ⟨i, hi, rfl⟩ := he
    exact key false i hi
  · simp only [tableA, List.mem_map, List.mem_range] at he
    obtain ⟨i, hi, rfl⟩ := he
    exact key true i hi
end
/-! two strips side by side -/
section
variable {w : Nat} {S T : Cols}
theorem cell_left {r c : Int} (h0 : 0 ≤ c) (h : c < S.length) : cellA (S ++ T) r c = cellA S r c := by
  unfold cellA
  have h1 : c.toNat < S.length := by omega
  have h2 : c.toNat < (S ++ T).length := by rw [List.length_append]; omega
  rw [getD_of h1, getD_of h2, List.getElem_append_left h1]
theorem cell_right {r c : Int} (h : (S.length : Int) ≤ c) : cellA (S ++ T) r c = cellA T r (c - S.length) := by
  unfold cellA
  have h1 : (c - S.length).toNat = c.toNat - S.length := by omega
  rw [h1, List.getD_eq_getElem?_getD, List.getD_eq_getElem?_getD, List.getElem?_append_right (by omega), List.getD_eq_getElem?_getD, List.getD_eq_getElem?_getD]
theorem mW_left {s : Ry} (h : s.c < S.length) : mW w (S ++ T) s = mW w S s := by
  have hl : ((S ++ T).length : Int) = S.length + T.length := by rw [List.length_append]; omega
  have e1 : exitA w (S ++ T).length s = exitA w S.length s := by
    unfold exitA
    rw [hl]
    have a1 : ¬ (S.length : Int) + T.length ≤ s.c := by omega
    have a2 : ¬ (S.length : Int) ≤ s.c := by omega
    rw [if_neg a1, if_neg a2]
  unfold mW
  rw [e1]
  cases he : exitA w S.length s with
  | some e => rfl
  | none =>
    have hi := exit_none.mp he
    have : nextA (S ++ T) s = nextA S s := by
      unfold nextA
      rw [cell_left hi.2.2.1 h]
    simp only [this]
def shR (n : Nat) (s : Ry) : Ry := ⟨s.r, s.c - n, s.d⟩
theorem mW_right {s : Ry} (h : (S.length : Int) ≤ s.c) : (∃ e e', mW w (S ++ T) s = .inr e ∧ mW w T (shR S.length s) = .inr e' ∧ plainE e = plainE e' ∧ e'.sd ≠ .left) ∨ (∃ s', mW w (S ++ T) s = .inl s' ∧ mW w T (shR S.length s) = .inl (shR S.length s')) := by
  have hl : ((S ++ T).length : Int) = S.length + T.length := by rw [List.length_append]; omega
  have c0 : ¬ s.c < 0 := by omega
  have c1 : ¬ (shR S.length s).c < 0 := by show ¬ s.c - (S.length : Int) < 0; omega
  by_cases a1 : (S.length : Int) + T.length ≤ s.c
  · have a2 : (T.length : Int) ≤ (shR S.length s).c := by show (T.length : Int) ≤ s.c - (S.length : Int); omega
    refine .inl ⟨⟨.right, s.r⟩, ⟨.right, s.r⟩, mW_exit ?_, mW_exit ?_, rfl, fun z => (nomatch z)⟩
    · unfold exitA; rw [hl, if_neg c0, if_pos a1]
    · unfold exitA; rw [if_neg c1, if_pos a2]; rfl
  have a2 : ¬ (T.length : Int) ≤ (shR S.length s).c := by show ¬ (T.length : Int) ≤ s.c - (S.length : Int); omega
  by_cases a3 : s.r < 0
  · refine .inl ⟨⟨.top, s.c⟩, ⟨.top, s.c - S.length⟩, mW_exit ?_, mW_exit ?_, rfl, fun z => (nomatch z)⟩
    · unfold exitA; rw [hl, if_neg c0, if_neg a1, if_pos a3]
    · unfold exitA; rw [if_neg c1, if_neg a2, if_pos (show (shR S.length s).r < 0 from a3)]; rfl
  by_cases a4 : (w : Int) ≤ s.r
  · refine .inl ⟨⟨.bottom, s.c⟩, ⟨.bottom, s.c - S.length⟩, mW_exit ?_, mW_exit ?_, rfl, fun z => (nomatch z)⟩
    · unfold exitA; rw [hl, if_neg c0, if_neg a1, if_neg a3, if_pos a4]
    · unfold exitA; rw [if_neg c1, if_neg a2, if_neg (show ¬ (shR S.length s).r < 0 from a3), if_pos (show (w : Int) ≤ (shR S.length s).r from a4)]; rfl
  have x1 : exitA w (S ++ T).length s = none := by
    unfold exitA; rw [hl, if_neg c0, if_neg a1, if_neg a3, if_neg a4]
  have x2 : exitA w T.length (shR S.length s) = none := by
    unfold exitA; rw [if_neg c1, if_neg a2, if_neg (show ¬ (shR S.length s).r < 0 from a3), if_neg (show ¬ (w : Int) ≤ (shR S.length s).r from a4)]
  have cell : cellA T (shR S.length s).r (shR S.length s).c = cellA (S ++ T) s.r s.c := (cell_right h).symm
  cases ho : onw (cellA (S ++ T) s.r s.c) s.d with
  | none =>
    refine .inl ⟨⟨.stopped, 0⟩, ⟨.stopped, 0⟩, ?_, ?_, rfl, fun z => (nomatch z)⟩
    · have n1 : nextA (S ++ T) s = none := by unfold nextA; rw [ho]; rfl
      unfold mW; rw [x1]; simp only [n1]
    · have n2 : nextA T (shR S.length s) = none := by
        unfold nextA
        rw [cell]
        show (onw (cellA (S ++ T) s.r s.c) s.d).map _ = none
        rw [ho]; rfl
      unfold mW; rw [x2]; simp only [n2]
  | some d =>
    refine .inr ⟨mvA s d, ?_, ?_⟩
    · have n1 : nextA (S ++ T) s = some (mvA s d) := by unfold nextA; rw [ho]; rfl
      unfold mW; rw [x1]; simp only [n1]
    · have n2 : nextA T (shR S.length s) = some (shR S.length (mvA s d)) := by
        unfold nextA
        rw [cell]
        show (onw (cellA (S ++ T) s.r s.c) s.d).map _ = _
        rw [ho]
        show some (mvA (shR S.length s) d) = _
        unfold mvA shR
        simp only [Option.some.injEq, Ry.mk.injEq, true_and, and_true]
        omega
      unfold mW; rw [x2]; simp only [n2]
theorem dc_cases (d : Dr) : (d = .right ∧ d.dc = 1 ∧ d.dr = 0) ∨ (d = .left ∧ d.dc = -1 ∧ d.dr = 0) ∨ d.dc = 0 := by cases d <;> simp [Dr.dc, Dr.dr]
theorem inr_left {s : Ry} {e : En} (h : s.c < S.length) (q : mW w S s = .inr e) : e.sd ≠ .right := by
  rcases mW_inr q with q | rfl
  · unfold exitA at q
    have : ¬ (S.length : Int) ≤ s.c := by omega
    rw [if_neg this] at q
    split at q
    · cases q; exact fun z => (nomatch z)
    · split at q
      · cases q; exact fun z => (nomatch z)
      · split at q
        · cases q; exact fun z => (nomatch z)
        · cases q
  · exact fun z => (nomatch z)
theorem exit_right {w n : Int} {s : Ry} (h0 : 0 ≤ n) (h : n ≤ s.c) : exitA w n s = some ⟨.right, s.r⟩ := by
  unfold exitA
  rw [if_neg (by omega), if_pos h]
theorem exit_left {w n : Int} {s : Ry} (h : s.c < 0) : exitA w n s = some ⟨.left, s.r⟩ := by
  unfold exitA
  rw [if_pos h]
theorem ry_ext {s t : Ry} (h1 : s.r = t.r) (h2 : s.c = t.c) (h3 : s.d = t.d) : s = t := by
  cases s; cases t; simp only at h1 h2 h3; rw [h1, h2, h3]
theorem two_in {s : Ry} {e : En} (h : Ends (mW w (S ++ T)) s e) :
    (s.c < S.length → ∀ k i, i < w → (∀ e1, Ends (mW w S) s e1 → WR w S k i (plainE e1)) → Run (WR w S) (WR w T) false k i (plainE e)) ∧
    ((S.length : Int) ≤ s.c → ∀ k i, i < w → (∀ e1, Ends (mW w T) (shR S.length s) e1 → WR w T k i (plainE e1)) → Run (WR w S) (WR w T) true k i (plainE e)) := by
  induction h with
  | @done s e h =>
    refine ⟨fun hc k i hi q => ?_, fun hc k i hi q => ?_⟩
    · rw [mW_left hc] at h
      exact .fo (q e (.done h)) (by rw [plain_sd]; exact inr_left hc h)
    · rcases mW_right (w := w) (T := T) hc with ⟨e1, e2, h1, h2, h3, h4⟩ | ⟨s', h1, _⟩
      · rw [h1] at h
        cases h
        rw [h3]
        exact .go (q e2 (.done h2)) (by rw [plain_sd]; exact h4)
      · rw [h1] at h; cases h
  | @step s s' e h t ih =>
    obtain ⟨hin, _, d, hd⟩ := mW_inl h
    have hr : s'.r = s.r + d.dr := by rw [hd]; rfl
    have hcc : s'.c = s.c + d.dc := by rw [hd]; rfl
    have hdd : s'.d = d := by rw [hd]; rfl
    unfold Inb at hin
    refine ⟨fun hc k i hi q => ?_, fun hc k i hi q => ?_⟩
    · rw [mW_left hc] at h
      by_cases c2 : s'.c < S.length
      · exact ih.1 c2 k i hi fun e1 z => q e1 (.step h z)
      · have x : d = .right ∧ d.dr = 0 := by
          rcases dc_cases d with ⟨a, _, b⟩ | ⟨_, a, _⟩ | a
          · exact ⟨a, b⟩
          · omega
          · omega
        have hx : d.dc = 1 := by rw [x.1]; rfl
        have w1 := q _ (.step h (.done (mW_exit (exit_right (by omega) (by omega)))))
        refine .fg (j := s'.r) w1 (ih.2 (by omega) false s'.r.toNat (by omega) fun e1 z => ⟨by omega, e1, ?_, rfl⟩)
        have : entryA w T.length ⟨sideOf false, (s'.r.toNat : Int)⟩ = shR S.length s' := by
          refine ry_ext ?_ ?_ ?_
          · show ((s'.r.toNat : Nat) : Int) = s'.r; omega
          · show (0 : Int) = s'.c - S.length; omega
          · show Dr.right = s'.d; rw [hdd, x.1]
        rw [this]; exact z
    · rcases mW_right (w := w) (T := T) hc with ⟨e1, e2, h1, h2, h3, h4⟩ | ⟨s2, h1, h2⟩
      · rw [h1] at h; cases h
      · rw [h1] at h
        cases h
        by_cases c2 : s'.c < S.length
        · have x : d = .left ∧ d.dr = 0 := by
            rcases dc_cases d with ⟨_, a, _⟩ | ⟨a, _, b⟩ | a
            · omega
            · exact ⟨a, b⟩
            · omega
          have hx : d.dc = -1 := by rw [x.1]; rfl
          have w1 := q _ (.step h2 (.done (mW_exit (exit_left (by show s'.c - (S.length : Int) < 0; omega)))))
          refine .gf (j := s'.r) w1 (ih.1 c2 true s'.r.toNat (by omega) fun e1 z => ⟨by omega, e1, ?_, rfl⟩)
          have : entryA w S.length ⟨sideOf true, (s'.r.toNat : Int)⟩ = s' := by
            refine ry_ext ?_ ?_ ?_
            · show ((s'.r.toNat : Nat) : Int) = s'.r; omega
            · show (S.length : Int) - 1 = s'.c; omega
            · show Dr.left = s'.d; rw [hdd, x.1]
          rw [this]; exact z
        · exact ih.2 (by omega) k i hi fun e1 z => q e1 (.step h2 z)
theorem out_left {s : Ry} {e1 : En} (h : Ends (mW w S) s e1) : (s.c < S.length ∨ (s.c = S.length ∧ s.d = .right)) → (e1.sd ≠ .right → Ends (mW w (S ++ T)) s e1) ∧ (e1.sd = .right → ∀ e2, Ends (mW w (S ++ T)) ⟨e1.ix, S.length, .right⟩ e2 → Ends (mW w (S ++ T)) s e2) := by
  induction h with
  | @done s e h =>
    rintro (hc | ⟨hc, hd⟩)
    · have := inr_left hc h
      refine ⟨fun _ => .done (by rw [mW_left hc]; exact h), fun z => (this z).elim⟩
    · rw [mW_exit (exit_right (by omega) (by omega))] at h
      cases h
      refine ⟨fun z => (z rfl).elim, fun _ e2 q => ?_⟩
      have : s = ⟨s.r, S.length, .right⟩ := ry_ext rfl hc hd
      rw [this]; exact q
  | @step s s' e h t ih =>
    obtain ⟨hin, _, d, hd⟩ := mW_inl h
    have hcc : s'.c = s.c + d.dc := by rw [hd]; rfl
    have hdd : s'.d = d := by rw [hd]; rfl
    unfold Inb at hin
    intro _
    have hc : s.c < S.length := by omega
    have ok : s'.c < S.length ∨ (s'.c = S.length ∧ s'.d = .right) := by
      rcases dc_cases d with ⟨a, b, _⟩ | ⟨_, a, _⟩ | a
      · by_cases c2 : s'.c < S.length
        · exact .inl c2
        · exact .inr ⟨by omega, by rw [hdd, a]⟩
      · exact .inl (by omega)
      · exact .inl (by omega)
    have h' : mW w (S ++ T) s = .inl s' := by rw [mW_left hc]; exact h
    obtain ⟨i1, i2⟩ := ih ok
    exact ⟨fun n => .step h' (i1 n), fun n e2 q => .step h' (i2 n e2 q)⟩
def shL (n : Nat) (s : Ry) : Ry := ⟨s.r, s.c + n, s.d⟩
theorem shR_shL (n : Nat) (s : Ry) : shR n (shL n s) = s := ry_ext rfl (by show s.c + n - n = s.c; omega) rfl
theorem shL_shR (n : Nat) (s : Ry) : shL n (shR n s) = s := ry_ext rfl (by show s.c - n + n = s.c; omega) rfl
theorem out_right {s : Ry} {e1 : En} (h : Ends (mW w T) s e1) : (0 ≤ s.c ∨ (s.c = -1 ∧ s.d = .left)) → (e1.sd ≠ .left → ∃ e0, Ends (mW w (S ++ T)) (shL S.length s) e0 ∧ plainE e0 = plainE e1) ∧ (e1.sd = .left → ∀ e2, Ends (mW w (S ++ T)) ⟨e1.ix, S.length - 1, .left⟩ e2 → Ends (mW w (S ++ T)) (shL S.length s) e2) := by
  induction h with
  | @done s e h =>
    rintro (hc | ⟨hc, hd⟩)
    · rcases mW_right (w := w) (S := S) (T := T) (s := shL S.length s) (by show (S.length : Int) ≤ s.c + S.length; omega) with ⟨e1, e2, h1, h2, h3, h4⟩ | ⟨s', h1, h2⟩
      · rw [shR_shL, h] at h2
        cases h2
        exact ⟨fun _ => ⟨e1, .done h1, h3⟩, fun z => (h4 z).elim⟩
      · rw [shR_shL, h] at h2; cases h2
    · rw [mW_exit (exit_left (by omega))] at h
      cases h
      refine ⟨fun z => (z rfl).elim, fun _ e2 q => ?_⟩
      have : shL S.length s = ⟨s.r, S.length - 1, .left⟩ := ry_ext rfl (by show s.c + (S.length : Int) = S.length - 1; omega) hd
      rw [this]; exact q
  | @step s s' e h t ih =>
    obtain ⟨hin, _, d, hd⟩ := mW_inl h
    have hcc : s'.c = s.c + d.dc := by rw [hd]; rfl
    have hdd : s'.d = d := by rw [hd]; rfl
    unfold Inb at hin
    intro _
    have ok : 0 ≤ s'.c ∨ (s'.c = -1 ∧ s'.d = .left) := by
      rcases dc_cases d with ⟨_, a, _⟩ | ⟨a, b, _⟩ | a
      · exact .inl (by omega)
      · by_cases c2 : 0 ≤ s'.c
        · exact .inl c2
        · exact .inr ⟨by omega, by rw [hdd, a]⟩
      · exact .inl (by omega)
    have h' : mW w (S ++ T) (shL S.length s) = .inl (shL S.length s') := by
      rcases mW_right (w := w) (S := S) (T := T) (s := shL S.length s) (by show (S.length : Int) ≤ s.c + S.length; omega) with ⟨e1, e2, h1, h2, h3, h4⟩ | ⟨s2, h1, h2⟩
      · rw [shR_shL, h] at h2; cases h2
      · rw [shR_shL, h] at h2
        have h2 := Sum.inl.inj h2
        rw [h1, h2, shL_shR]
    obtain ⟨i1, i2⟩ := ih ok
    refine ⟨fun n => ?_, fun n e2 q => .step h' (i2 n e2 q)⟩
    obtain ⟨e0, a, b⟩ := i1 n
    exact ⟨e0, .step h' a, b⟩
theorem entL {n : Int} {i : Nat} : entryA w n ⟨sideOf false, (i : Int)⟩ = ⟨i, 0, .right⟩ := rfl
theorem entR {n : Int} {i : Nat} : entryA w n ⟨sideOf true, (i : Int)⟩ = ⟨i, n - 1, .left⟩ := rfl
theorem two_out {d k : Bool} {i : Nat} {e : En} (h : Run (WR w S) (WR w T) d k i e) :
    (d = false → ∃ e0, Ends (mW w (S ++ T)) (entryA w S.length ⟨sideOf k, (i : Int)⟩) e0 ∧ plainE e0 = e) ∧
    (d = true → ∃ e0, Ends (mW w (S ++ T)) (shL S.length (entryA w T.length ⟨sideOf k, (i : Int)⟩)) e0 ∧ plainE e0 = e) := by
  have okS : ∀ (k : Bool) (i : Nat), (entryA w S.length ⟨sideOf k, (i : Int)⟩).c < S.length ∨ ((entryA w S.length ⟨sideOf k, (i : Int)⟩).c = S.length ∧ (entryA w S.length ⟨sideOf k, (i : Int)⟩).d = .right) := fun k i => by
    cases k
    · rw [entL]
      by_cases h : 0 < S.length
      · exact .inl (by show (0 : Int) < S.length; omega)
      · exact .inr ⟨by show (0 : Int) = S.length; omega, rfl⟩
    · rw [entR]; exact .inl (by show (S.length : Int) - 1 < S.length; omega)
  have okT : ∀ (k : Bool) (i : Nat), 0 ≤ (entryA w T.length ⟨sideOf k, (i : Int)⟩).c ∨ ((entryA w T.length ⟨sideOf k, (i : Int)⟩).c = -1 ∧ (entryA w T.length ⟨sideOf k, (i : Int)⟩).d = .left) := fun k i => by
    cases k
    · rw [entL]; exact .inl (Int.le_refl 0)
    · rw [entR]
      by_cases h : 0 < T.length
      · exact .inl (by show (0 : Int) ≤ T.length - 1; omega)
      · exact .inr ⟨by show (T.length : Int) - 1 = -1; omega, rfl⟩
  induction h with
  | @fo k i e h n =>
    refine ⟨fun _ => ?_, fun z => (nomatch z)⟩
    obtain ⟨hi, e0, q, rfl⟩ := h
    exact ⟨e0, (out_left q (okS k i)).1 (by rwa [plain_sd] at n), rfl⟩
  | @fg k i j e h t ih =>
    refine ⟨fun _ => ?_, fun z => (nomatch z)⟩
    have hj := EndOk.side (wr_rows _ _ _ h) (.inr rfl)
    simp only at hj
    obtain ⟨hi, e0, q, h0⟩ := h
    have h0 := plain_right h0
    subst h0
    obtain ⟨e2, a, b⟩ := ih.2 rfl
    refine ⟨e2, (out_left q (okS k i)).2 rfl e2 ?_, b⟩
    have : shL S.length (entryA w T.length ⟨sideOf false, ((j.toNat : Nat) : Int)⟩) = ⟨j, S.length, .right⟩ := by
      rw [entL]
      exact ry_ext (by show ((j.toNat : Nat) : Int) = j; omega) (by show (0 : Int) + S.length = S.length; omega) rfl
    rw [this] at a
    exact a
  | @go k i e h n =>
    refine ⟨fun z => (nomatch z), fun _ => ?_⟩
    obtain ⟨hi, e0, q, rfl⟩ := h
    exact (out_right q (okT k i)).1 (by rwa [plain_sd] at n)
  | @gf k i j e h t ih =>
    refine ⟨fun z => (nomatch z), fun _ => ?_⟩
    have hj := EndOk.side (wr_rows _ _ _ h) (.inl rfl)
    simp only at hj
    obtain ⟨hi, e0, q, h0⟩ := h
    have h0 := plain_left h0
    subst h0
    obtain ⟨e2, a, b⟩ := ih.1 rfl
    refine ⟨e2, (out_right q (okT k i)).2 rfl e2 ?_, b⟩
    have : entryA w S.length ⟨sideOf true, ((j.toNat : Nat) : Int)⟩ = ⟨j, S.length - 1, .left⟩ := by
      rw [entR]
      exact ry_ext (by show ((j.toNat : Nat) : Int) = j; omega) rfl rfl
    rw [this] at a
    exact a
theorem comp_two {k : Bool} {i : Nat} {e : En} (hi : i < w) : Comp (WR w S) (WR w T) k i e ↔ WR w (S ++ T) k i e := by
  have hl : ((S ++ T).length : Int) = S.length + T.length := by rw [List.length_append]; omega
  constructor
  · intro h
    cases k with
    | false =>
      obtain ⟨e0, a, b⟩ := (two_out h).1 rfl
      exact ⟨hi, e0, a, b⟩
    | true =>
      obtain ⟨e0, a, b⟩ := (two_out h).2 rfl
      refine ⟨hi, e0, ?_, b⟩
      have : entryA w (S ++ T).length ⟨sideOf true, (i : Int)⟩ = shL S.length (entryA w T.length ⟨sideOf true, (i : Int)⟩) := by
        rw [entR, entR, hl]
        exact ry_ext rfl (by show (S.length : Int) + T.length - 1 = T.length - 1 + S.length; omega) rfl
      rw [this]; exact a
  · rintro ⟨_, e0, h, rfl⟩
    cases k with
    | false =>
      rw [entL] at h
      by_cases hS : 0 < S.length
      · exact (two_in h).1 (by show (0 : Int) < S.length; omega) false i hi fun e1 z => ⟨hi, e1, z, rfl⟩
      · have h0 : S.length = 0 := by omega
        have r := (two_in h).2 (by show (S.length : Int) ≤ 0; omega) false i hi fun e1 z => ⟨hi, e1, by
          rw [entL]
          have : shR S.length ⟨i, 0, .right⟩ = ⟨i, 0, .right⟩ := ry_ext rfl (by show (0 : Int) - S.length = 0; omega) rfl
          rw [this] at z; exact z, rfl⟩
        refine .fg (j := i) ⟨hi, ⟨.right, i⟩, .done (mW_exit ?_), rfl⟩ (by rw [Int.toNat_natCast]; exact r)
        rw [entL]
        exact exit_right (by omega) (by show (S.length : Int) ≤ 0; omega)
    | true =>
      rw [entR, hl] at h
      by_cases hT : 0 < T.length
      · refine (two_in h).2 (by show (S.length : Int) ≤ S.length + T.length - 1; omega) true i hi fun e1 z => ⟨hi, e1, ?_, rfl⟩
        rw [entR]
        have : shR S.length ⟨i, (S.length : Int) + T.length - 1, .left⟩ = ⟨i, T.length - 1, .left⟩ := ry_ext rfl (by show (S.length : Int) + T.length - 1 - S.length = T.length - 1; omega) rfl
        rw [this] at z; exact z
      · have h0 : T.length = 0 := by omega
        have r := (two_in h).1 (by show (S.length : Int) + T.length - 1 < S.length; omega) true i hi fun e1 z => ⟨hi, e1, by
          rw [entR]
          have : (⟨i, (S.length : Int) + T.length - 1, .left⟩ : Ry) = ⟨i, S.length - 1, .left⟩ := ry_ext rfl (by show (S.length : Int) + T.length - 1 = S.length - 1; omega) rfl
          rw [this] at z; exact z, rfl⟩
        refine .gf (j := i) ⟨hi, ⟨.left, i⟩, .done (mW_exit ?_), rfl⟩ (by rw [Int.toNat_natCast]; exact r)
        rw [entR]
        exact exit_left (by show (T.length : Int) - 1 < 0; omega)
/-- the table of two strips side by side is the product -/
theorem table_two : prodA w (tableA w S) (tableA w T) = tableA w (S ++ T) := by
  refine Tab.ext_rel (prod_ok table_ok table_ok) table_ok fun k i e hi => ?_
  rw [prod_rel table_ok table_ok hi, table_rel hi]
  rw [comp_cong table_ok.rows table_ok.rows wr_rows wr_rows (fun k i e hi => table_rel hi) (fun k i e hi => table_rel hi) hi]
  exact comp_two hi
end

/-! q1: powers of tables (no program) -/
def repC (n : Nat) (X : Cols) : Cols := (List.replicate n X).flatten
theorem repC_succ (n : Nat) (X : Cols) : repC (n + 1) X = X ++ repC n X := by simp [repC, List.replicate_succ]
theorem repC_add (n m : Nat) (X : Cols) : repC (n + m) X = repC n X ++ repC m X := by
  induction n with
  | zero => simp [repC]
  | succ n ih => rw [show n + 1 + m = (n + m) + 1 by omega, repC_succ, repC_succ, ih, List.append_assoc]
theorem repC_one (X : Cols) : repC 1 X = X := by simp [repC]
theorem repC_snoc (n : Nat) (X : Cols) : repC (n + 1) X = repC n X ++ X := by rw [repC_add, repC_one]
theorem repC_two (n : Nat) (X : Cols) : repC n (X ++ X) = repC (2 * n) X := by
  induction n with
  | zero => rfl
  | succ n ih => rw [repC_succ, ih, show 2 * (n + 1) = 1 + (1 + 2 * n) by omega, repC_add, repC_add, repC_one, List.append_assoc]
section
variable {w : Nat} {X : Cols}
def PT (w : Nat) (X : Cols) (n : Nat) : Tab := tableA w (repC n X)
theorem PT_succ (n : Nat) : PT w X (n + 1) = prodA w (PT w X n) (tableA w X) := by
  unfold PT
  rw [table_two, repC_snoc]
theorem PT_ok (n : Nat) : TabOk w (PT w X n) := table_ok
def codeE (w : Nat) (e : En) : Nat := match e.sd with
  | .left => e.ix.toNat
  | .right => w + e.ix.toNat
  | .top => 2 * w
  | .bottom => 2 * w + 1
  | .stopped => 2 * w + 2
  | .caught => 2 * w + 3
theorem codeE_lt {w : Nat} (hw : w ≤ 3) {e : En} (h : EndOk w e) : codeE w e < 10 := by
  obtain ⟨sd, ix⟩ := e
  unfold EndOk at h
  simp only at h
  cases sd <;> simp only [codeE] <;> simp at h <;> omega
theorem codeE_inj {w : Nat} {e f : En} (h : EndOk w e) (g : EndOk w f) (q : codeE w e = codeE w f) : e = f := by
  obtain ⟨sd, ix⟩ := e
  obtain ⟨sd', ix'⟩ := f
  unfold EndOk at h g
  simp only at h g
  cases sd <;> cases sd' <;> simp only [codeE] at q <;> simp at h g <;> first | (exfalso; omega) | (congr 1; omega)
def codeL (w : Nat) : List En → Nat
  | [] => 0
  | e :: l => codeE w e + 10 * codeL w l
theorem codeL_lt {w : Nat} (hw : w ≤ 3) : ∀ {l : List En}, (∀ e ∈ l, EndOk w e) → codeL w l < 10 ^ l.length
  | [], _ => Nat.one_pos
  | e :: l, h => by
    have h1 := codeE_lt hw (h e (by simp))
    have h2 := codeL_lt hw (l := l) fun f hf => h f (by simp [hf])
    unfold codeL
    rw [List.length_cons, Nat.pow_succ]
    omega
theorem codeL_inj {w : Nat} (hw : w ≤ 3) : ∀ {l m : List En}, l.length = m.length → (∀ e ∈ l, EndOk w e) → (∀ e ∈ m, EndOk w e) → codeL w l = codeL w m → l = m
  | [], [], _, _, _, _ => rfl
  | [], _ :: _, h, _, _, _ => by simp at h
  | _ :: _, [], h, _, _, _ => by simp at h
  | e :: l, f :: m, h, h1, h2, q => by
    unfold codeL at q
    have a := codeE_lt hw (h1 e (by simp))
    have b := codeE_lt hw (h2 f (by simp))
    have q1 : codeE w e = codeE w f := by omega
    have q2 : codeL w l = codeL w m := by omega
    rw [codeE_inj (h1 e (by simp)) (h2 f (by simp)) q1, codeL_inj hw (by simpa using h) (fun x hx => h1 x (by simp [hx])) (fun x hx => h2 x (by simp [hx])) q2]
def codeT (w : Nat) (t : Tab) : Nat := codeL w (t.l ++ t.r)
theorem codeT_lt {w : Nat} (hw : w ≤ 3) {t : Tab} (h : TabOk w t) : codeT w t < 1000000 := by
  have h1 := codeL_lt hw (l := t.l ++ t.r) fun e he => by
    rcases List.mem_append.mp he with he | he
    · exact h.okl e he
    · exact h.okr e he
  have h2 : (t.l ++ t.r).length ≤ 6 := by rw [List.length_append, h.ll, h.rl]; omega
  have h3 : 10 ^ (t.l ++ t.r).length ≤ 10 ^ 6 := Nat.pow_le_pow_right (by decide) h2
  have h4 : (10 : Nat) ^ 6 = 1000000 := by decide
  unfold codeT
  omega
theorem codeT_inj {w : Nat} (hw : w ≤ 3) {t u : Tab} (h : TabOk w t) (g : TabOk w u) (q : codeT w t = codeT w u) : t = u := by
  have := codeL_inj hw (l := t.l ++ t.r) (m := u.l ++ u.r) (by rw [List.length_append, List.length_append, h.ll, h.rl, g.ll, g.rl]) (fun e he => by
    rcases List.mem_append.mp he with he | he
    · exact h.okl e he
    · exact h.okr e he) (fun e he => by
    rcases List.mem_append.mp he with he | he
    · exact g.okl e he
    · exact g.okr e he) q
  obtain ⟨l, r⟩ := t
  obtain ⟨l', r'⟩ := u
  have := List.append_inj this (h.ll.trans g.ll.symm)
  simp only at this
  rw [this.1, this.2]
/-- a row of tables comes round -/
theorem tab_round (hw : w ≤ 3) : ∃ N, N ≤ 1000000 ∧ (∃ b, b < N ∧ PT w X N = PT w X b) ∧ ∀ i j, i < j → j < N → PT w X i ≠ PT w X j := by
  by_cases h : ∃ n, n ≤ 1000000 ∧ ∃ b, b < n ∧ PT w X n = PT w X b
  · obtain ⟨n, h⟩ := h
    induction n using Nat.strongRecOn with
    | _ n ih =>
      by_cases z : ∃ m, m < n ∧ ∃ b, b < m ∧ PT w X m = PT w X b
      · obtain ⟨m, h1, h2⟩ := z
        exact ih m h1 ⟨by omega, h2⟩
      · exact ⟨n, h.1, h.2, fun i j hij hj e => z ⟨j, hj, i, hij, e.symm⟩⟩
  · exfalso
    have nd : ((List.range 1000001).map fun i => codeT w (PT w X i)).Nodup := by
      refine nodup_map (fun a ha b hb e => ?_) List.nodup_range
      have ha := List.mem_range.mp ha
      have hb := List.mem_range.mp hb
      have e := codeT_inj hw (PT_ok a) (PT_ok b) e
      rcases Nat.lt_trichotomy a b with q | q | q
      · exact (h ⟨b, by omega, a, q, e.symm⟩).elim
      · exact q
      · exact (h ⟨a, by omega, b, q, e⟩).elim
    have := nodup_small 1000000 _ nd fun x hx => by
      obtain ⟨i, _, rfl⟩ := List.mem_map.mp hx
      exact codeT_lt hw (PT_ok i)
    rw [List.length_map, List.length_range] at this
    omega
theorem PT_shift {N b : Nat} (h : PT w X N = PT w X b) : ∀ i, PT w X (N + i) = PT w X (b + i)
  | 0 => h
  | i + 1 => by rw [← Nat.add_assoc, ← Nat.add_assoc, PT_succ, PT_succ, PT_shift h i]
/-- far out all comes round -/
theorem PT_far {N b : Nat} (hb : b < N) (h : PT w X N = PT w X b) : ∀ t, b ≤ t → PT w X t = PT w X (b + (t - b) % (N - b)) := by
  intro t
  induction t using Nat.strongRecOn with
  | _ t ih =>
    intro ht
    by_cases z : t < N
    · rw [Nat.mod_eq_of_lt (by omega)]
      congr 1
      omega
    · have e := PT_shift h (t - N)
      rw [show N + (t - N) = t by omega] at e
      rw [e, ih (b + (t - N)) (by omega) (by omega)]
      congr 1
      have : t - b = (b + (t - N) - b) + (N - b) := by omega
      rw [this, Nat.add_mod_right]
end

/-- plain values, no longer than L and no deeper than n -/
inductive Dat (L : Nat) : Nat → D → Prop
  | non (n : Nat) : Dat L n .non
  | bl (n : Nat) (b : Bool) : Dat L n (.bl b)
  | int (n : Nat) (i : Int) : Dat L n (.int i)
  | str (n : Nat) (cs : List Nat) (h : cs.length ≤ L) : Dat L n (.str cs)
  | tup (n : Nat) (ds : List D) (h : ds.length ≤ L) (k : ∀ d ∈ ds, Dat L n d) : Dat L (n + 1) (.tup ds)
  | lst (n : Nat) (ds : List D) (h : ds.length ≤ L) (k : ∀ d ∈ ds, Dat L n d) : Dat L (n + 1) (.lst ds)
theorem deps_le {ds : List D} {n : Nat} (h : ∀ d ∈ ds, d.dep ≤ n) : D.deps ds ≤ n := by
  induction ds with
  | nil => rw [deps_nil]; omega
  | cons d ds ih => rw [deps_cons, Nat.max_le]; exact ⟨h d (List.mem_cons_self ..), ih fun e he => h e (List.mem_cons_of_mem _ he)⟩
theorem Dat.dep_le {L n : Nat} {d : D} (h : Dat L n d) : d.dep ≤ n := by
  induction h with
  | non n => rw [dep_non]; omega
  | bl n b => rw [dep_bl]; omega
  | int n b => rw [dep_int]; omega
  | str n b => rw [dep_str]; omega
  | tup n ds h k ih => rw [dep_tup]; have := deps_le ih; omega
  | lst n ds h k ih => rw [dep_lst]; have := deps_le ih; omega
theorem Dat.mono {L n : Nat} {d : D} (h : Dat L n d) : ∀ {L' m : Nat}, L ≤ L' → n ≤ m → Dat L' m d := by
  induction h with
  | non n => exact fun _ _ => .non _
  | bl n b => exact fun _ _ => .bl _ _
  | int n b => exact fun _ _ => .int _ _
  | str n b h => exact fun _ _ => .str _ _ (by omega)
  | tup n ds h k ih =>
    intro L' m h1 h2
    obtain ⟨m', rfl⟩ : ∃ m', m = m' + 1 := ⟨m - 1, by omega⟩
    exact .tup m' ds (by omega) fun d hd => ih d hd h1 (by omega)
  | lst n ds h k ih =>
    intro L' m h1 h2
    obtain ⟨m', rfl⟩ : ∃ m', m = m' + 1 := ⟨m - 1, by omega⟩
    exact .lst m' ds (by omega) fun d hd => ih d hd h1 (by omega)
theorem Dat.deps_tup {L n : Nat} {ds : List D} (h : Dat L n (.tup ds)) : D.deps ds + 1 ≤ n := by
  have := h.dep_le
  rwa [dep_tup] at this
theorem Dat.deps_lst {L n : Nat} {ds : List D} (h : Dat L n (.lst ds)) : D.deps ds + 1 ≤ n := by
  have := h.dep_le
  rwa [dep_lst] at this
theorem Dat.inT {L n : Nat} {ds : List D} (h : Dat L n (.tup ds)) : ∀ d ∈ ds, Dat L n d := by
  cases h with
  | tup n ds h k => exact fun d hd => (k d hd).mono (Nat.le_refl _) (by omega)
theorem Dat.lenT {L n : Nat} {ds : List D} (h : Dat L n (.tup ds)) : ds.length ≤ L := by
  cases h with
  | tup n ds h k => exact h
theorem Dat.lenL {L n : Nat} {ds : List D} (h : Dat L n (.lst ds)) : ds.length ≤ L := by
  cases h with
  | lst n ds h k => exact h
theorem Dat.inL {L n : Nat} {ds : List D} (h : Dat L n (.lst ds)) : ∀ d ∈ ds, Dat L n d := by
  cases h with
  | lst n ds h k => exact fun d hd => (k d hd).mono (Nat.le_refl _) (by omega)
def rB (b : Bool) : FOut := .ret (.imm (.bl b)) none
def isInt (d : D) (a b : Int) : Bool := match d with
  | .int i => decide (a ≤ i) && decide (i ≤ b)
  | _ => false
def isPair (d : D) : Bool := match d with
  | .tup ds => decide (ds.length = 2)
  | _ => false
def isWide (d : D) (a b : Int) : Bool := match d with
  | .tup ds => decide (a ≤ ds.length) && decide ((ds.length : Int) ≤ b)
  | _ => false
theorem isPair_eq {d : D} : isPair d = true ↔ ∃ a b, d = .tup [a, b] := by
  constructor
  · intro h
    cases d with
    | tup ds =>
      have : ds.length = 2 := by simpa [isPair] using h
      match ds, this with
      | [a, b], _ => exact ⟨a, b, rfl⟩
    | _ => simp [isPair] at h
  · rintro ⟨a, b, rfl⟩; rfl
theorem wide22 (d : D) : isWide d 2 2 = isPair d := by
  cases d with
  | tup ds =>
    simp only [isWide, isPair]
    rw [← Bool.decide_and]
    exact decide_eq_decide.mpr (by omega)
  | _ => rfl
def isCol (d : D) (w : Int) (ss : List Nat) : Bool := match d with
  | .str s => decide ((s.length : Int) = w) && s.all fun c => decide (c ∈ ss)
  | _ => false
theorem dBools_map {α : Type} (f : α → Bool) (xs : List α) : dBools (xs.map fun x => .bl (f x)) = some (xs.map f) := by
  induction xs with
  | nil => rfl
  | cons x xs ih => show (dBools (xs.map fun x => .bl (f x))).map _ = _; rw [ih]; rfl
theorem all_id {α : Type} (f : α → Bool) (xs : List α) : (xs.map f).all id = xs.all f := by rw [List.all_map]; rfl
def areCols (d : D) (w most : Int) (ss : List Nat) : Bool := match d with
  | .tup cs => decide ((cs.length : Int) ≤ most) && cs.all fun c => isCol c w ss
  | _ => false
def isStrip (d : D) (wide most : Int) (ss : List Nat) : Bool := match d with
  | .tup [.int w, b] => decide (1 ≤ w) && decide (w ≤ wide) && areCols b w most ss
  | _ => false
def SS : List Nat := [35, 46, 100, 112, 113, 117, 118, 119]
def sgD (ss : List Nat) : List D := ss.map fun c => .str [c]
theorem any_sg (ss : List Nat) (c : Nat) : (List.any (sgD ss) fun z => D.eqv z (.str [c])) = decide (c ∈ ss) := by
  induction ss with
  | nil => rfl
  | cons x xs ih =>
    show (D.eqv (.str [x]) (.str [c]) || List.any (sgD xs) fun z => D.eqv z (.str [c])) = _
    rw [ih, eqv_str]
    by_cases h : c = x
    · subst h; simp
    · have : ¬ x = c := fun e => h e.symm
      simp [h, this]
theorem deps_sg (ss : List Nat) : D.deps (sgD ss) = 0 := by
  have := deps_le (ds := sgD ss) (n := 0) (by
    intro d hd
    obtain ⟨c, _, rfl⟩ := List.mem_map.mp hd
    rw [dep_str]; omega)
  omega
theorem dStrs_map (css : List (List Nat)) : dStrs (css.map .str) = some css := by
  induction css with
  | nil => rfl
  | cons c cs ih => show (dStrs (cs.map .str)).map _ = _; rw [ih]; rfl
theorem big_le {n : Nat} (h : n ≤ 100000) : n ≤ sizeLine := by
  have : 100000 ≤ sizeLine := by decide
  omega
theorem big_lt {n : Nat} (h : n ≤ 100000) : n < sizeLine := by
  have : 100000 < sizeLine := by decide
  omega
def datB (L : Nat) : Nat → D → Bool
  | _, .non => true
  | _, .bl _ => true
  | _, .int _ => true
  | _, .str cs => decide (cs.length ≤ L)
  | n + 1, .tup ds => decide (ds.length ≤ L) && ds.all (datB L n)
  | n + 1, .lst ds => decide (ds.length ≤ L) && ds.all (datB L n)
  | _, _ => false
theorem datB_ok {L : Nat} : ∀ {n : Nat} {d : D}, datB L n d = true → Dat L n d
  | n, .non, _ => .non _
  | n, .bl _, _ => .bl _ _
  | n, .int _, _ => .int _ _
  | n, .str cs, h => by unfold datB at h; exact .str _ _ (by simpa using h)
  | 0, .tup _, h => by unfold datB at h; cases h
  | 0, .lst _, h => by unfold datB at h; cases h
  | n + 1, .tup ds, h => by
    unfold datB at h
    rw [Bool.and_eq_true, List.all_eq_true, decide_eq_true_eq] at h
    exact .tup _ _ h.1 fun d hd => datB_ok (h.2 d hd)
  | n + 1, .lst ds, h => by
    unfold datB at h
    rw [Bool.and_eq_true, List.all_eq_true, decide_eq_true_eq] at h
    exact .lst _ _ h.1 fun d hd => datB_ok (h.2 d hd)
  | n, .dct _ _, h => by cases n <;> simp [datB] at h
  | n, .dcn _ _, h => by cases n <;> simp [datB] at h
  | n, .seq _, h => by cases n <;> simp [datB] at h
  | n, .fn _, h => by cases n <;> simp [datB] at h
theorem datAll {L n : Nat} {ds : List D} (h : ds.all (datB L n) = true) : ∀ d ∈ ds, Dat L n d := fun d hd => datB_ok (List.all_eq_true.mp h d hd)
theorem strs_of {ys : List D} (h : ∀ y ∈ ys, ∃ c : Nat, y = .str [c]) : ∃ cs : List Nat, ys = (cs.map fun c => [c]).map .str ∧ cs.length = ys.length := by
  induction ys with
  | nil => exact ⟨[], rfl, rfl⟩
  | cons y ys ih =>
    obtain ⟨c, rfl⟩ := h y (List.mem_cons_self ..)
    obtain ⟨cs, e, hl⟩ := ih fun y hy => h y (List.mem_cons_of_mem _ hy)
    exact ⟨c :: cs, by rw [e]; rfl, by simp [hl]⟩
theorem flat1 (cs : List Nat) : (cs.map fun c => [c]).flatten = cs := by
  induction cs with
  | nil => rfl
  | cons c cs ih => rw [List.map_cons, List.flatten_cons, ih]; rfl
theorem sum1 (cs : List Nat) : ((cs.map fun c => [c]).map List.length).sum = cs.length := by
  induction cs with
  | nil => rfl
  | cons c cs ih => rw [List.map_cons, List.map_cons, List.sum_cons, ih, List.length_cons, List.length_cons, List.length_nil]; omega

/-- a source of draws -/
def Src (m : M) : Prop := ∃ a b : Int, m = .lst [.int a, .int b] ∧ 0 ≤ b ∧ b < 1099511627776
theorem pick_ok {m : M} (h : Src m) {n : Int} (h1 : 1 ≤ n) (h2 : n ≤ 100000) : ∃ r m', m_law_pick (some m) [.int n] = .ret (.imm (.int r)) (some m') ∧ Src m' ∧ 0 ≤ r ∧ r < n := by
  obtain ⟨a, b, rfl, hb, hb2⟩ := h
  unfold m_law_pick b_law_pick
  have hn0 : n ≠ 0 := by omega
  have hnA : n.natAbs < 1073741824 := by omega
  have hr : ∀ x : Int, 0 ≤ x.fmod n ∧ x.fmod n < n := fun x => fmod_rng x (by omega)
  cases ha : decide (0 < a) with
  | true =>
    simp only [decide_eq_true_eq] at ha
    walk_at "evs"
    exact ⟨_, _, rfl, ⟨_, _, rfl, hb, hb2⟩, (hr _).1, (hr _).2⟩
  | false =>
    have ha : ¬ 0 < a := by simpa using ha
    have hx := fmod_rng (b * 44497 + 9973) (n := 2147483647) (by omega)
    generalize hg : (b * 44497 + 9973).fmod 2147483647 = x at hx
    have hx1 : -18446744073709551616 < x := by omega
    have hx2 : x < 18446744073709551616 := by omega
    have h11 : Int.natAbs 11 = 11 := rfl
    walk_at "evs"
    exact ⟨_, _, rfl, ⟨_, _, rfl, hx.1, by omega⟩, (hr _).1, (hr _).2⟩
theorem chosen_ok {m : M} (h : Src m) {d : D} {ds : List D} (hd : d = .tup ds ∨ d = .lst ds) (h1 : 1 ≤ ds.length) (h2 : ds.length ≤ 100000) : ∃ x m', m_law_chosen (some m) [d] = .ret (.imm x) (some m') ∧ Src m' ∧ x ∈ ds := by
  obtain ⟨r, m', e, hs, hr1, hr2⟩ := pick_ok h (n := ds.length) (by omega) (by omega)
  obtain ⟨x, ex, _, hx⟩ := atI_nat hr1 hr2
  unfold m_law_chosen b_law_chosen
  rcases hd with rfl | rfl
  · walk_at "ev"
    walk_at "evs"
    exact ⟨_, _, rfl, hs, hx⟩
  · walk_at "ev"
    walk_at "evs"
    exact ⟨_, _, rfl, hs, hx⟩

theorem source_ok (ns : List Int) (k : Int) (hk : 0 ≤ k) (hk2 : k < 1000) : ∃ m', m_law_source none [.seq ns, .int k] = .ret (.new m') none ∧ Src m' := by
  unfold m_law_source b_law_source
  have key : ∀ num : Int, ∃ m', finF none (((sSet 3 (e2 modG (e2 addG (e2 addG (e2 mulG2 (eV 2) (eC (.int 16807))) (e2 mulG2 (eC (.int 60919)) (eV 1))) (eC (.int 31))) (eC (.int 2147481173)))) [.imm (.seq ns), .imm (.int k), .imm (.int num), .non]).seq
    (sSeq (sSet 3 (e2 addG (e2 addG (e2 modG (e2 mulG2 (eV 3) (eV 3)) (eC (.int 2147481151))) (e2 mulG2 (eC (.int 2)) (eV 1))) (eC (.int 5))))
    (sRet (eLst (aCons (frzE (eIf (bT (e2 geG (eV 2) (e2 powG (eC (.int 10)) (eC (.int 18))))) (eV 2) (eC (.int 0)))) (aCons (frzE (eV 3)) aNil)))))) = .ret (.new m') none ∧ Src m' := fun num => by
    have hx := fmod_rng (num * 16807 + 60919 * k + 31) (n := 2147481173) (by omega)
    generalize hg : (num * 16807 + 60919 * k + 31).fmod 2147481173 = x at hx
    have hx1 : -18446744073709551616 < x := by omega
    have hx2 : x < 18446744073709551616 := by omega
    have hy := fmod_rng (x * x) (n := 2147481151) (by omega)
    cases hc : decide ((1000000000000000000 : Int) ≤ num) with
    | true =>
      simp only [decide_eq_true_eq] at hc
      walk_at "evs"
      exact ⟨_, rfl, _, _, rfl, by omega, by omega⟩
    | false =>
      have hc : ¬ (1000000000000000000 : Int) ≤ num := by simpa using hc
      walk_at "evs"
      exact ⟨_, rfl, _, _, rfl, by omega, by omega⟩
  cases hkc : decide (k < ns.length) with
  | true =>
    have hk3 : k < ns.length := by simpa using hkc
    obtain ⟨x, ex, _, _⟩ := atI_nat hk hk3
    obtain ⟨m', e, hm⟩ := key x
    refine ⟨m', ?_, hm⟩
    rw [← e]
    walk_at "evs"
  | false =>
    have hk3 : ¬ k < ns.length := by simpa using hkc
    obtain ⟨m', e, hm⟩ := key 0
    refine ⟨m', ?_, hm⟩
    rw [← e]
    walk_at "evs"

theorem f_within {L n : Nat} {d : D} (h : Dat L n d) (a b : Int) : m_is_within none [d, .int a, .int b] = rB (isInt d a b) := by
  unfold m_is_within b_is_within
  cases h <;> walk_at "ev" <;> try rfl
  rename_i i
  cases h : decide (a ≤ i) <;> walk_at "ev" <;> simp [rB, isInt, h]
theorem f_pair {L n : Nat} {d : D} (h : Dat L n d) : m_is_pair none [d] = rB (isPair d) := by
  unfold m_is_pair b_is_pair
  cases h <;> walk_at "ev" <;> try rfl
  rename_i ds _ _
  have e : decide ((ds.length : Int) = 2) = decide (ds.length = 2) := decide_eq_decide.mpr (by omega)
  rw [e]; rfl
theorem f_column {L n : Nat} {d : D} (h : Dat L n d) (w : Int) (ss : List Nat) : m_is_column none [d, .int w, .str ss] = rB (isCol d w ss) := by
  unfold m_is_column b_is_column
  cases h <;> walk_at "ev" <;> try rfl
  rename_i s _
  cases h : decide ((s.length : Int) = w) with
  | false => walk_at "ev"; simp [rB, isCol, h]
  | true =>
    walk_at "ev"
    rw [lcD_mapS (fun ch => .str [ch]) (F := fun c => .bl (decide (c ∈ ss))) (by
      intro c hc
      rw [lcS_ev]
      walk_at "ev")]
    walk_at "ev"
    rw [dBools_map]
    walk_at "ev"
    rw [all_id]
    simp [rB, isCol, h]
theorem f_columns {L n : Nat} {d : D} (h : Dat L n d) (w most : Int) (ss : List Nat) : m_are_columns none [d, .int w, .int most, .str ss] = rB (areCols d w most ss) := by
  unfold m_are_columns b_are_columns
  cases h <;> walk_at "ev" <;> try rfl
  rename_i cs hl hk
  cases h : decide (most < (cs.length : Int)) with
  | true =>
    walk_at "ev"
    simp only [decide_eq_true_eq] at h
    have h2 : decide ((cs.length : Int) ≤ most) = false := decide_eq_false (by omega)
    simp only [rB, areCols, h2, Bool.false_and]
  | false =>
    walk_at "ev"
    rw [lcD_map (F := fun d => .bl (isCol d w ss)) (by
      intro d hd
      rw [lcS_ev]
      walk_at "ev"
      rw [f_column (hk d hd) w ss]
      unfold rB
      walk_at "ev")]
    walk_at "ev"
    rw [dBools_map]
    walk_at "ev"
    rw [all_id]
    simp only [decide_eq_false_iff_not] at h
    have : (cs.length : Int) ≤ most := by omega
    simp [rB, areCols, this]
theorem f_right_strip {L n : Nat} {d : D} (h : Dat L n d) : m_is_right_strip none [d] = rB (isStrip d 3 40 SS) := by
  unfold m_is_right_strip b_is_right_strip
  walk_at "ev"
  rw [f_pair h]
  cases hp : isPair d with
  | false =>
    unfold rB
    walk_at "ev"
    have : isStrip d 3 40 SS = false := by
      unfold isStrip
      split
      · simp [isPair] at hp
      · rfl
    rw [this]
  | true =>
    obtain ⟨a, b, rfl⟩ := isPair_eq.mp hp
    have ha := h.inT a (by simp)
    have hb := h.inT b (by simp)
    unfold rB
    walk_at "ev"
    rw [f_within ha]
    unfold rB
    cases hw : isInt a 1 3 with
    | false =>
      walk_at "ev"
      have : isStrip (.tup [a, b]) 3 40 SS = false := by
        unfold isStrip
        split
        · rename_i w b' e; cases e; simp [isInt] at hw ⊢; intro h1 h2; have := hw h1; omega
        · rfl
      rw [this]
    | true =>
      cases a with
      | int w =>
        walk_at "ev"
        rw [f_columns hb w]
        unfold rB
        walk_at "ev"
        have hw2 : (decide (1 ≤ w) && decide (w ≤ 3)) = true := hw
        have e : isStrip (.tup [.int w, b]) 3 40 SS = (decide (1 ≤ w) && decide (w ≤ 3) && areCols b w 40 SS) := rfl
        rw [e, hw2]
        rfl
      | _ => simp [isInt] at hw

/-! c3a: rays as values -/
def Sd.cs : Sd → List Nat
  | .left => [108, 101, 102, 116]
  | .right => [114, 105, 103, 104, 116]
  | .top => [116, 111, 112]
  | .bottom => [98, 111, 116, 116, 111, 109]
  | .stopped => [115, 116, 111, 112, 112, 101, 100]
  | .caught => [99, 97, 117, 103, 104, 116]
def encE (e : En) : D := .tup [.str e.sd.cs, .int e.ix]
def encC (cs : Cols) : D := .tup (cs.map .str)
def encS (w : Nat) (cs : Cols) : D := .tup [.int w, encC cs]
theorem cell_at {w : Nat} {cs : Cols} (h : Wh w cs) {s : Ry} (hi : Inb w cs.length s) : ∃ col, atI (cs.map D.str) s.c = some (.str col) ∧ atI col s.r = some (cellA cs s.r s.c) := by
  unfold Inb at hi
  have h1 : s.c.toNat < cs.length := by omega
  have hc := h.col _ (List.getElem_mem h1)
  have h2 : s.r.toNat < cs[s.c.toNat].length := by omega
  obtain ⟨x, ex, gx, _⟩ := atI_nat (xs := cs.map D.str) (i := s.c) (by omega) (by rw [List.length_map]; omega)
  rw [List.getElem?_map, List.getElem?_eq_getElem h1] at gx
  cases gx
  obtain ⟨y, ey, gy, _⟩ := atI_nat (xs := cs[s.c.toNat]) (i := s.r) (by omega) (by omega)
  refine ⟨_, ex, ?_⟩
  rw [ey, ← gy]
  unfold cellA
  rw [getD_of h1, getD_of h2, List.getElem?_eq_getElem h2]

/-! c3: the law's walk -/
def Dr.z : Dr → Int | .down => 0 | .left => 1 | .right => 2 | .up => 3
def encI (s : Ry) : D := .tup [.int s.r, .int s.c, .int s.d.z]
theorem z_down : Dr.down.z = 0 := rfl
theorem z_left : Dr.left.z = 1 := rfl
theorem z_right : Dr.right.z = 2 := rfl
theorem z_up : Dr.up.z = 3 := rfl
theorem Dr.z_inj {a b : Dr} (h : a.z = b.z) : a = b := by cases a <;> cases b <;> first | rfl | (exact absurd h (by decide))
def onwZ (o : Option Dr) : Int := match o with | none => -1 | some d => d.z
theorem f_onward (c : Nat) (d : Dr) : m_law_onward none [.str [c], .int d.z] = .ret (.imm (.int (onwZ (onw c d)))) none := by
  unfold m_law_onward b_law_onward
  by_cases h1 : c = 35
  · subst h1; cases d <;> kernel_rfl
  by_cases h2 : c = 117
  · subst h2; cases d <;> kernel_rfl
  by_cases h3 : c = 112
  · subst h3; cases d <;> kernel_rfl
  by_cases h4 : c = 113
  · subst h4; cases d <;> kernel_rfl
  by_cases h5 : c = 100
  · subst h5; cases d <;> kernel_rfl
  by_cases h6 : c = 118
  · subst h6; cases d <;> kernel_rfl
  by_cases h7 : c = 119
  · subst h7; cases d <;> kernel_rfl
  have e : onw c d = some d := by simp [onw, h1, h2, h3, h4, h5, h6, h7]
  rw [e]
  have g1 : ¬ 117 = c := fun e => h2 e.symm
  have g2 : ¬ 112 = c := fun e => h3 e.symm
  have g3 : ¬ 113 = c := fun e => h4 e.symm
  have g4 : ¬ 100 = c := fun e => h5 e.symm
  have g5 : ¬ 118 = c := fun e => h6 e.symm
  have g6 : ¬ 119 = c := fun e => h7 e.symm
  clear h2 h3 h4 h5 h6 h7 e
  cases d <;> (unfold Dr.z; walk_at "evs"; rfl)
theorem any_encI (sn : List Ry) (s : Ry) : ((sn.map encI).any fun z => D.eqv z (.tup [.int s.r, .int s.c, .int s.d.z])) = decide (s ∈ sn) := by
  induction sn with
  | nil => rfl
  | cons t sn ih =>
    rw [List.map_cons, List.any_cons, ih]
    have e : D.eqv (encI t) (.tup [.int s.r, .int s.c, .int s.d.z]) = decide (s = t) := by
      unfold encI
      rw [eqv_tup, eqvs_cc, eqvs_cc, eqvs_cc, eqvs_nil, eqv_int, eqv_int, eqv_int, Bool.and_true, ← Bool.decide_and, ← Bool.decide_and]
      refine decide_eq_decide.mpr ⟨fun ⟨h1, h2, h3⟩ => ?_, fun h => by subst h; exact ⟨rfl, rfl, rfl⟩⟩
      cases s; cases t
      simp only at h1 h2 h3
      rw [h1, h2, Dr.z_inj h3]
    rw [e]
    simp
theorem deps_encI (sn : List Ry) : D.deps (sn.map encI) ≤ 1 := deps_le fun d hd => by
  obtain ⟨s, _, rfl⟩ := List.mem_map.mp hd
  unfold encI
  rw [dep_tup, deps_cons, deps_cons, deps_cons, deps_nil, dep_int, dep_int, dep_int]
  decide
theorem atI_z (d : Dr) (a b c e : D) : atI [a, b, c, e] d.z = some (match d with | .down => a | .left => b | .right => c | .up => e) := by
  cases d
  · exact atI_0
  · exact atI_1
  · exact atI_2
  · exact atI_3
section
variable {w : Nat} {cs : Cols} {strip gate side k t : D} {s : Ry} {sn : List Ry} {s11 : Slot}
def wEnv (w : Nat) (cs : Cols) (strip gate side k : D) (s : Ry) (sn : List Ry) (s11 : Slot) : Env :=
  [.imm strip, .imm gate, .imm (.int w), .imm (.tup (cs.map .str)), .imm side, .imm k, .imm (.int cs.length), .imm (.int s.r), .imm (.int s.c), .imm (.int s.d.z), .own (.lst (sn.map encI)), s11]
theorem w_exit {e : En} (he : exitA w cs.length s = some e) : ∃ ρ', forS (gN 11) b1_law_walk t (wEnv w cs strip gate side k s sn s11) = .rt (.imm (.tup [encE e, .lst (sn.map encI)])) ρ' := by
  rw [forS_ev]
  unfold wEnv b1_law_walk
  walk_at "ev"
  unfold exitA at he
  split at he
  · rename_i a1
    cases he
    rw [decide_eq_true a1]
    walk_at "ev"
    rw [decide_eq_true a1]
    walk_at "ev"
    exact ⟨_, rfl⟩
  · rename_i a1
    split at he
    · rename_i a2
      cases he
      rw [decide_eq_false a1]
      walk_at "ev"
      rw [decide_eq_true a2]
      walk_at "ev"
      rw [decide_eq_false a1]
      walk_at "ev"
      exact ⟨_, rfl⟩
    · rename_i a2
      rw [decide_eq_false a1]
      walk_at "ev"
      rw [decide_eq_false a2]
      walk_at "ev"
      split at he
      · rename_i a3
        cases he
        rw [decide_eq_true a3]
        walk_at "ev"
        rw [decide_eq_true a3]
        walk_at "ev"
        exact ⟨_, rfl⟩
      · rename_i a3
        split at he
        · rename_i a4
          cases he
          rw [decide_eq_false a3]
          walk_at "ev"
          rw [decide_eq_true a4]
          walk_at "ev"
          rw [decide_eq_false a3]
          walk_at "ev"
          exact ⟨_, rfl⟩
        · cases he
theorem w_in (h : Wh w cs) (he : exitA w cs.length s = none) (hsl : sn.length ≤ 90000) : ∃ ρ', forS (gN 11) b1_law_walk t (wEnv w cs strip gate side k s sn s11) =
    (if s ∈ sn then SOut.rt (.imm (.tup [encE ⟨.caught, 0⟩, .lst (sn.map encI)])) ρ' else match nextA cs s with
      | none => .rt (.imm (.tup [encE ⟨.stopped, 0⟩, .lst ((sn ++ [s]).map encI)])) ρ'
      | some s' => .nx (wEnv w cs strip gate side k s' (sn ++ [s]) (.imm t))) := by
  have hi := exit_none.mp he
  obtain ⟨col, c1, c2⟩ := cell_at h hi
  unfold Inb at hi
  have a1 : ¬ s.c < 0 := by omega
  have a2 : ¬ (cs.length : Int) ≤ s.c := by omega
  have a3 : ¬ s.r < 0 := by omega
  have a4 : ¬ (w : Int) ≤ s.r := by omega
  have hdp := deps_encI sn
  have hdp2 : D.deps (sn.map encI) ≤ 60 := by omega
  rw [forS_ev]
  unfold wEnv b1_law_walk
  walk_at "ev"
  rw [decide_eq_false a1]
  walk_at "ev"
  rw [decide_eq_false a2]
  walk_at "ev"
  rw [decide_eq_false a3]
  walk_at "ev"
  rw [decide_eq_false a4]
  walk_at "ev"
  rw [decide_eq_true hdp2, any_encI]
  by_cases hm : s ∈ sn
  · rw [decide_eq_true hm]
    walk_at "ev"
    simp only [if_pos hm]
    exact ⟨_, rfl⟩
  · rw [decide_eq_false hm]
    simp only [if_neg hm]
    walk_at "ev"
    rw [decide_eq_true (big_lt (by rw [List.length_map]; omega))]
    walk_at "ev"
    rw [c1]
    walk_at "ev"
    rw [c2]
    walk_at "ev"
    rw [f_onward]
    walk_at "ev"
    unfold nextA
    cases ho : onw (cellA cs s.r s.c) s.d with
    | none =>
      unfold onwZ
      walk_at "ev"
      rw [List.map_append]
      exact ⟨_, rfl⟩
    | some d =>
      unfold onwZ
      have hz : ¬ d.z = -1 := by cases d <;> decide
      walk_at "ev"
      rw [decide_eq_false hz]
      walk_at "ev"
      refine ⟨[], ?_⟩
      rw [List.map_append]
      cases d <;> simp only [z_down, z_left, z_right, z_up] <;> walk_at "ev" <;> rfl
theorem w_loop (h : Wh w cs) : ∀ {ds : List D} {sn : List Ry} {s : Ry} {s11 : Slot} {x : En × List Ry}, sn.length + ds.length ≤ 90000 → trace w cs ds.length sn s = some x →
    ∃ ρ', forD (gN 11) b1_law_walk ds (wEnv w cs strip gate side k s sn s11) = .rt (.imm (.tup [encE x.1, .lst (x.2.map encI)])) ρ'
  | [], _, _, _, _, _, h => by simp [trace] at h
  | t :: ds, sn, s, s11, x, hl, hx => by
    rw [List.length_cons] at hl hx
    rw [forD_cons]
    unfold trace at hx
    cases he : exitA w cs.length s with
    | some e =>
      rw [he] at hx
      cases hx
      obtain ⟨ρ', q⟩ := w_exit (strip := strip) (gate := gate) (side := side) (k := k) (t := t) (sn := sn) (s11 := s11) he
      rw [q]
      exact ⟨_, rfl⟩
    | none =>
      rw [he] at hx
      simp only at hx
      obtain ⟨ρ', q⟩ := w_in (strip := strip) (gate := gate) (side := side) (k := k) (t := t) (sn := sn) (s11 := s11) h he (by omega)
      rw [q]
      by_cases hm : s ∈ sn
      · rw [if_pos hm] at hx ⊢
        cases hx
        exact ⟨_, rfl⟩
      · rw [if_neg hm] at hx ⊢
        cases hn : nextA cs s with
        | none =>
          simp only [hn] at hx ⊢
          cases hx
          exact ⟨_, rfl⟩
        | some s' =>
          simp only [hn] at hx ⊢
          rw [forR_nx]
          exact w_loop h (by rw [List.length_append, List.length_singleton]; omega) hx
end
theorem walk_left {W ix : Int} {cs : Cols} {N : Nat} {r : Res} {ρ' : Env} (hN : (4 * W * (cs.length : Int) + 1).toNat = N) (hb1 : -4611686018427387904 ≤ 4 * W * (cs.length : Int) + 1 ∧ 4 * W * (cs.length : Int) + 1 < 4611686018427387904) (hb2 : -18446744073709551616 < 4 * W ∧ 4 * W < 18446744073709551616)
    (q : forD (gN 11) b1_law_walk (rng 0 N) [.imm (.tup [.int W, .tup (cs.map .str)]), .imm (.tup [.str [108, 101, 102, 116], .int ix]), .imm (.int W), .imm (.tup (cs.map .str)), .imm (.str [108, 101, 102, 116]), .imm (.int ix), .imm (.int cs.length), .imm (.int ix), .imm (.int 0), .imm (.int 2), .own (.lst []), .non] = .rt r ρ') :
    m_law_walk none [.tup [.int W, .tup (cs.map .str)], .tup [.str [108, 101, 102, 116], .int ix]] = .ret r none := by
  unfold m_law_walk b_law_walk
  have hml : (cs.map D.str).length = cs.length := List.length_map ..
  walk_at "ev"
  rw [hml, decide_eq_true (Or.inl hb2)]
  walk_at "ev"
  rw [decide_eq_true hb1]
  walk_at "ev"
  rw [hN, q]
  walk_at "ev"
theorem walk_right {W ix : Int} {cs : Cols} {N : Nat} {r : Res} {ρ' : Env} (hN : (4 * W * (cs.length : Int) + 1).toNat = N) (hb1 : -4611686018427387904 ≤ 4 * W * (cs.length : Int) + 1 ∧ 4 * W * (cs.length : Int) + 1 < 4611686018427387904) (hb2 : -18446744073709551616 < 4 * W ∧ 4 * W < 18446744073709551616)
    (q : forD (gN 11) b1_law_walk (rng 0 N) [.imm (.tup [.int W, .tup (cs.map .str)]), .imm (.tup [.str [114, 105, 103, 104, 116], .int ix]), .imm (.int W), .imm (.tup (cs.map .str)), .imm (.str [114, 105, 103, 104, 116]), .imm (.int ix), .imm (.int cs.length), .imm (.int ix), .imm (.int ((cs.length : Int) - 1)), .imm (.int 1), .own (.lst []), .non] = .rt r ρ') :
    m_law_walk none [.tup [.int W, .tup (cs.map .str)], .tup [.str [114, 105, 103, 104, 116], .int ix]] = .ret r none := by
  unfold m_law_walk b_law_walk
  have hml : (cs.map D.str).length = cs.length := List.length_map ..
  walk_at "ev"
  rw [hml, decide_eq_true (Or.inl hb2)]
  walk_at "ev"
  rw [decide_eq_true hb1]
  walk_at "ev"
  rw [hN, q]
  walk_at "ev"
theorem walk_top {W ix : Int} {cs : Cols} {N : Nat} {r : Res} {ρ' : Env} (hN : (4 * W * (cs.length : Int) + 1).toNat = N) (hb1 : -4611686018427387904 ≤ 4 * W * (cs.length : Int) + 1 ∧ 4 * W * (cs.length : Int) + 1 < 4611686018427387904) (hb2 : -18446744073709551616 < 4 * W ∧ 4 * W < 18446744073709551616)
    (q : forD (gN 11) b1_law_walk (rng 0 N) [.imm (.tup [.int W, .tup (cs.map .str)]), .imm (.tup [.str [116, 111, 112], .int ix]), .imm (.int W), .imm (.tup (cs.map .str)), .imm (.str [116, 111, 112]), .imm (.int ix), .imm (.int cs.length), .imm (.int 0), .imm (.int ix), .imm (.int 0), .own (.lst []), .non] = .rt r ρ') :
    m_law_walk none [.tup [.int W, .tup (cs.map .str)], .tup [.str [116, 111, 112], .int ix]] = .ret r none := by
  unfold m_law_walk b_law_walk
  have hml : (cs.map D.str).length = cs.length := List.length_map ..
  walk_at "ev"
  rw [hml, decide_eq_true (Or.inl hb2)]
  walk_at "ev"
  rw [decide_eq_true hb1]
  walk_at "ev"
  rw [hN, q]
  walk_at "ev"
theorem walk_bottom {W ix : Int} {cs : Cols} {N : Nat} {r : Res} {ρ' : Env} (hN : (4 * W * (cs.length : Int) + 1).toNat = N) (hb1 : -4611686018427387904 ≤ 4 * W * (cs.length : Int) + 1 ∧ 4 * W * (cs.length : Int) + 1 < 4611686018427387904) (hb2 : -18446744073709551616 < 4 * W ∧ 4 * W < 18446744073709551616)
    (q : forD (gN 11) b1_law_walk (rng 0 N) [.imm (.tup [.int W, .tup (cs.map .str)]), .imm (.tup [.str [98, 111, 116, 116, 111, 109], .int ix]), .imm (.int W), .imm (.tup (cs.map .str)), .imm (.str [98, 111, 116, 116, 111, 109]), .imm (.int ix), .imm (.int cs.length), .imm (.int (W - 1)), .imm (.int ix), .imm (.int 3), .own (.lst []), .non] = .rt r ρ') :
    m_law_walk none [.tup [.int W, .tup (cs.map .str)], .tup [.str [98, 111, 116, 116, 111, 109], .int ix]] = .ret r none := by
  unfold m_law_walk b_law_walk
  have hml : (cs.map D.str).length = cs.length := List.length_map ..
  walk_at "ev"
  rw [hml, decide_eq_true (Or.inl hb2)]
  walk_at "ev"
  rw [decide_eq_true hb1]
  walk_at "ev"
  rw [hN, q]
  walk_at "ev"
theorem f_walkH {w : Nat} {cs : Cols} (h : Wh w cs) {g : En} (hg : Gate w cs.length g) : m_law_walk none [encS w cs, encE g] = .ret (.imm (.tup [encE (walkA w cs g).1, .lst ((walkA w cs g).2.map encI)])) none := by
  have hw := h.w1
  have hw3 := h.w3
  have hl := h.len
  have hlen0 : (0 : Int) ≤ cs.length := by omega
  have hN : ((4 * (w : Int) * (cs.length : Int) + 1).toNat) = 4 * w * cs.length + 1 := by
    have : (4 * (w : Int) * (cs.length : Int) + 1) = ((4 * w * cs.length + 1 : Nat) : Int) := by
      rw [Int.natCast_add, Int.natCast_mul, Int.natCast_mul]; rfl
    rw [this, Int.toNat_natCast]
  have hb : 4 * w * cs.length + 1 ≤ 5000 := by
    have : 4 * w * cs.length ≤ 12 * 400 := Nat.mul_le_mul (by omega) hl
    omega
  have hb1 : -4611686018427387904 ≤ 4 * (w : Int) * (cs.length : Int) + 1 ∧ 4 * (w : Int) * (cs.length : Int) + 1 < 4611686018427387904 := by
    have h0 : 0 ≤ 4 * (w : Int) * (cs.length : Int) := Int.mul_nonneg (by omega) hlen0
    omega
  have hb2 : -18446744073709551616 < 4 * (w : Int) ∧ 4 * (w : Int) < 18446744073709551616 := by omega
  have hloop : ∀ (sd k : D) (s11 : Slot), ∃ ρ', forD (gN 11) b1_law_walk (rng 0 (4 * w * cs.length + 1)) (wEnv w cs (encS w cs) (encE g) sd k (entryA w cs.length g) [] s11) = .rt (.imm (.tup [encE (walkA w cs g).1, .lst ((walkA w cs g).2.map encI)])) ρ' := fun sd k s11 => by
    refine w_loop h (x := walkA w cs g) (by rw [rng_len]; simp; omega) ?_
    rw [rng_len]
    exact goA_some w cs _
  obtain ⟨sd, ix⟩ := g
  unfold Gate at hg
  cases sd with
  | left =>
    obtain ⟨ρ', q⟩ := hloop (.str Sd.left.cs) (.int ix) .non
    simp only [encS, encC, encE, Sd.cs, wEnv, entryA, z_right, List.map_nil] at q ⊢
    exact walk_left hN hb1 hb2 q
  | right =>
    obtain ⟨ρ', q⟩ := hloop (.str Sd.right.cs) (.int ix) .non
    simp only [encS, encC, encE, Sd.cs, wEnv, entryA, z_left, List.map_nil] at q ⊢
    exact walk_right hN hb1 hb2 q
  | top =>
    obtain ⟨ρ', q⟩ := hloop (.str Sd.top.cs) (.int ix) .non
    simp only [encS, encC, encE, Sd.cs, wEnv, entryA, z_down, List.map_nil] at q ⊢
    exact walk_top hN hb1 hb2 q
  | bottom =>
    obtain ⟨ρ', q⟩ := hloop (.str Sd.bottom.cs) (.int ix) .non
    simp only [encS, encC, encE, Sd.cs, wEnv, entryA, z_up, List.map_nil] at q ⊢
    exact walk_bottom hN hb1 hb2 q
  | stopped => simp at hg
  | caught => simp at hg
theorem f_walk {w : Nat} {cs : Cols} (h : Wf w cs) {g : En} (hg : Gate w cs.length g) : m_law_walk none [encS w cs, encE g] = .ret (.imm (.tup [encE (walkA w cs g).1, .lst ((walkA w cs g).2.map encI)])) none := f_walkH h.wh hg

/-! c4: drawn strips -/
def SG (c : Nat) : Prop := c ∈ [35, 46, 100, 112, 113, 117, 118, 119]
theorem strs_ofP {P : Nat → Prop} {ys : List D} (h : ∀ y ∈ ys, ∃ c : Nat, y = .str [c] ∧ P c) : ∃ cs : List Nat, ys = (cs.map fun c => [c]).map .str ∧ cs.length = ys.length ∧ ∀ c ∈ cs, P c := by
  induction ys with
  | nil => exact ⟨[], rfl, rfl, by simp⟩
  | cons y ys ih =>
    obtain ⟨c, rfl, hc⟩ := h y (List.mem_cons_self ..)
    obtain ⟨cs, e, hl, hp⟩ := ih fun y hy => h y (List.mem_cons_of_mem _ hy)
    refine ⟨c :: cs, by rw [e]; rfl, by simp [hl], fun d hd => ?_⟩
    rcases List.mem_cons.mp hd with rfl | hd
    · exact hc
    · exact hp d hd
theorem column_ok {m : M} (hm : Src m) {w : Int} (h1 : 0 ≤ w) (h2 : w ≤ 100) : ∃ cs m', m_law_column (some m) [.int w] = .ret (.imm (.str cs)) (some m') ∧ Src m' ∧ (cs.length : Int) = w ∧ ∀ c ∈ cs, SG c := by
  unfold m_law_column b_law_column
  have hr : -4611686018427387904 ≤ w ∧ w < 4611686018427387904 := by omega
  have hz : w.toNat ≤ sizeLine := big_le (by omega)
  walk_at "ev"
  generalize hso : [D.str [46], .str [46], .str [100], .str [112], .str [113], .str [117], .str [118], .str [119], .str [35]] = so
  have hsd : ∀ d ∈ so, ∃ c : Nat, d = .str [c] ∧ SG c := by
    rw [← hso]
    intro d hd
    simp only [List.mem_cons, List.not_mem_nil, or_false] at hd
    rcases hd with rfl | rfl | rfl | rfl | rfl | rfl | rfl | rfl | rfl <;> exact ⟨_, rfl, by unfold SG; decide⟩
  have hsl : so.length = 9 := by rw [← hso]; rfl
  clear hso
  rw [decide_eq_true hr]
  walk_at "ev"
  rw [decide_eq_true hz]
  walk_at "ev"
  generalize hf : lcD _ _ _ _ _ _ = o
  obtain ⟨ys, ρ', rfl, ⟨m2, rfl, hm2⟩, hl, hy⟩ := lcD_elQ hf (fun ρ => ∃ m, ρ = [.bor m, .imm (.int w), .own (.lst so), .non] ∧ Src m) (fun y => ∃ c : Nat, y = .str [c] ∧ SG c) ⟨_, rfl, hm⟩ (by
    rintro d _ ρ ⟨m, rfl, hm⟩
    rw [lcS_ev]
    walk_at "ev"
    obtain ⟨r, m1, q1, hm1, hr1, hr2⟩ := pick_ok hm (n := 2) (by omega) (by omega)
    rw [q1]
    walk_at "ev"
    rw [hsl]
    have hcl : 1 ≤ (cutL so none (some ((9 : Nat) - r))).length := by
      unfold cutL
      rw [List.length_take, List.length_drop]
      unfold HT.sIx
      simp only [hsl]
      rw [if_neg (by omega)]
      omega
    have hcl2 := cutL_len so none (some ((9 : Nat) - r))
    obtain ⟨y, m3, q3, hm3, hy⟩ := chosen_ok hm1 (d := .lst (cutL so none (some ((9 : Nat) - r)))) (.inr rfl) hcl (by omega)
    rw [q3]
    walk_at "ev"
    exact ⟨_, _, rfl, ⟨_, rfl, hm3⟩, hsd _ (cutL_mem hy)⟩)
  obtain ⟨cs, rfl, hcs, hP⟩ := strs_ofP hy
  have hlen : (cs.length : Int) = w := by rw [hcs, hl, rng_len]; omega
  walk_at "ev"
  rw [dStrs_map]
  walk_at "ev"
  rw [sum1, flat1, decide_eq_true (by omega)]
  walk_at "ev"
  exact ⟨_, _, rfl, hm2, hlen, hP⟩

/-! c4s: the law's strips -/
theorem strip_ok {m : M} (hm : Src m) {W mo : Int} (h1 : 1 ≤ W) (h3 : W ≤ 3) (hmo : 0 ≤ mo) (hmo2 : mo ≤ 40) : ∃ (cs : Cols) (m' : M), m_law_strip (some m) [.int W, .int mo] = .ret (.imm (.tup [.int W, encC cs])) (some m') ∧ Src m' ∧ (cs.length : Int) ≤ mo ∧ Wf W.toNat cs := by
  unfold m_law_strip b_law_strip
  obtain ⟨r, m1, q1, hm1, hr1, hr2⟩ := pick_ok hm (n := mo + 1) (by omega) (by omega)
  have hr : -4611686018427387904 ≤ r ∧ r < 4611686018427387904 := by omega
  have hz : r.toNat ≤ sizeLine := big_le (by omega)
  walk_at "ev"
  rw [q1]
  walk_at "ev"
  rw [decide_eq_true hr]
  walk_at "ev"
  rw [decide_eq_true hz]
  walk_at "ev"
  generalize hf : lcD _ _ _ _ _ _ = o
  obtain ⟨ys, ρ', rfl, ⟨m2, rfl, hm2⟩, hl, hy⟩ := lcD_elQ hf (fun ρ => ∃ m, ρ = [.bor m, .imm (.int W), .imm (.int mo), .non] ∧ Src m) (fun y => ∃ cs : List Nat, y = .str cs ∧ (cs.length : Int) = W ∧ ∀ c ∈ cs, SG c) ⟨_, rfl, hm1⟩ (by
    rintro d _ ρ ⟨m, rfl, hm⟩
    rw [lcS_ev]
    walk_at "ev"
    obtain ⟨cs, m1, q1, hm1, hl, hP⟩ := column_ok hm (w := W) (by omega) (by omega)
    rw [q1]
    walk_at "ev"
    exact ⟨_, _, rfl, ⟨_, rfl, hm1⟩, _, rfl, hl, hP⟩)
  have key : ∀ ys : List D, (∀ y ∈ ys, ∃ cs : List Nat, y = .str cs ∧ (cs.length : Int) = W ∧ ∀ c ∈ cs, SG c) → ∃ css : List (List Nat), ys = css.map .str ∧ css.length = ys.length ∧ ∀ cs ∈ css, (cs.length : Int) = W ∧ ∀ c ∈ cs, SG c := by
    intro ys
    induction ys with
    | nil => exact fun _ => ⟨[], rfl, rfl, by simp⟩
    | cons y ys ih =>
      intro h
      obtain ⟨c, rfl, hc⟩ := h y (List.mem_cons_self ..)
      obtain ⟨css, e, hl, hcs⟩ := ih fun y hy => h y (List.mem_cons_of_mem _ hy)
      refine ⟨c :: css, by rw [e]; rfl, by simp [hl], fun d hd => ?_⟩
      rcases List.mem_cons.mp hd with rfl | hd
      · exact hc
      · exact hcs d hd
  obtain ⟨css, rfl, hcl, hcs⟩ := key ys hy
  have hln : css.length = r.toNat := by rw [hcl, hl, rng_len]
  walk_at "ev"
  refine ⟨css, _, rfl, hm2, by omega, ⟨by omega, by omega, by omega, fun c hc => ?_, fun c hc => (hcs c hc).2⟩⟩
  have := (hcs c hc).1
  omega

/-! c5: the program's check of a strip -/
theorem encC_dat {w : Nat} {cs : Cols} (h : Wf w cs) {L n : Nat} (hL : 40 ≤ L) (hn : 1 ≤ n) : Dat L n (encC cs) := by
  obtain ⟨n, rfl⟩ : ∃ k, n = k + 1 := ⟨n - 1, by omega⟩
  refine .tup _ _ (by rw [List.length_map]; have := h.len; omega) fun d hd => ?_
  obtain ⟨c, hc, rfl⟩ := List.mem_map.mp hd
  exact .str _ _ (by have := h.col c hc; have := h.w3; omega)
theorem encS_dat {w : Nat} {cs : Cols} (h : Wf w cs) {L n : Nat} (hL : 40 ≤ L) (hn : 2 ≤ n) : Dat L n (encS w cs) := by
  obtain ⟨n, rfl⟩ : ∃ k, n = k + 1 := ⟨n - 1, by omega⟩
  refine .tup _ _ (by simp; omega) fun d hd => ?_
  simp only [List.mem_cons, List.not_mem_nil, or_false] at hd
  rcases hd with rfl | rfl
  · exact .int _ _
  · exact encC_dat h hL (by omega)
theorem isStrip_enc {w : Nat} {cs : Cols} (h : Wf w cs) : isStrip (encS w cs) 3 40 SS = true := by
  have h1 := h.w1
  have h3 := h.w3
  have hl := h.len
  simp only [isStrip, encS, encC, areCols, List.length_map, Bool.and_eq_true, decide_eq_true_eq, List.all_eq_true, List.mem_map]
  refine ⟨⟨by omega, by omega⟩, by omega, ?_⟩
  rintro d ⟨c, hc, rfl⟩
  simp only [isCol, Bool.and_eq_true, decide_eq_true_eq, List.all_eq_true]
  refine ⟨by rw [h.col c hc], fun s hs => ?_⟩
  simpa [SS] using h.sg c hc s hs
theorem f_need_strip {L n : Nat} {d : D} (h : Dat L n d) : m_need_strip none [d] = if isStrip d 3 40 SS = true then .ret (.imm .non) none else .exc ⟨0, none⟩ none := by
  unfold m_need_strip b_need_strip
  walk_at "ev"
  rw [f_right_strip h]
  unfold rB
  cases isStrip d 3 40 SS <;> walk_at "ev" <;> rfl
theorem need_ok {w : Nat} {cs : Cols} (h : Wf w cs) : m_need_strip none [encS w cs] = .ret (.imm .non) none := by
  rw [f_need_strip (encS_dat (L := 40) (n := 2) h (by omega) (by omega)), if_pos (isStrip_enc h)]
theorem need_bad {L n : Nat} {d : D} (h : Dat L n d) (hb : isStrip d 3 40 SS = false) : m_need_strip none [d] = .exc ⟨0, none⟩ none := by
  rw [f_need_strip h, if_neg (by rw [hb]; exact Bool.false_ne_true)]

/-! c7: refusals -/
theorem err_strip : m_law_error 0 none [.fn 999] = .ret (.imm (.str [115, 116, 114, 105, 112])) none := by kernel_rfl

/-! c8: equality of values; gates -/
theorem eqvs_refl : ∀ {ds : List D}, (∀ d ∈ ds, D.eqv d d = true) → D.eqvs ds ds = true
  | [], _ => eqvs_nil
  | d :: ds, h => by rw [eqvs_cc, h d (by simp), eqvs_refl fun e he => h e (by simp [he])]; rfl
theorem Dat.eqv_refl {L n : Nat} {d : D} (h : Dat L n d) : D.eqv d d = true := by
  induction h with
  | non n => unfold D.eqv; rfl
  | bl n b => rw [eqv_bl]; simp
  | int n b => rw [eqv_int]; simp
  | str n b => rw [eqv_str]; simp
  | tup n ds h k ih => rw [eqv_tup]; exact eqvs_refl ih
  | lst n ds h k ih => rw [eqv_lst]; exact eqvs_refl ih
theorem Sd.cs_inj {a b : Sd} (h : a.cs = b.cs) : a = b := by cases a <;> cases b <;> first | rfl | (exact absurd h (by decide))
theorem eqv_encE {a b : En} : D.eqv (encE a) (encE b) = decide (a = b) := by
  unfold encE
  rw [eqv_tup, eqvs_cc, eqvs_cc, eqvs_nil, eqv_str, eqv_int, Bool.and_true, ← Bool.decide_and]
  refine decide_eq_decide.mpr ⟨fun ⟨h1, h2⟩ => ?_, fun h => by subst h; exact ⟨rfl, rfl⟩⟩
  cases a; cases b
  simp only at h1 h2
  rw [h2, Sd.cs_inj h1]
theorem dep_encE {a : En} : (encE a).dep = 1 := by
  unfold encE
  rw [dep_tup, deps_cons, deps_cons, deps_nil, dep_str, dep_int]
  rfl
def rowsA (sd : Sd) (n : Nat) : List En := (List.range n).map fun (i : Nat) => ⟨sd, (i : Int)⟩
def gatesA (w : Nat) : List En := rowsA .left w ++ rowsA .right w
def longA (n : Nat) : List En := rowsA .top n ++ rowsA .bottom n
theorem gates_ok {w n : Nat} {g : En} (h : g ∈ gatesA w ++ longA n) : Gate w n g := by
  unfold gatesA longA rowsA at h
  unfold Gate
  simp only [List.mem_append, List.mem_map, List.mem_range] at h
  rcases h with (⟨i, hi, rfl⟩ | ⟨i, hi, rfl⟩) | ⟨i, hi, rfl⟩ | ⟨i, hi, rfl⟩ <;> simp <;> omega
theorem rows_len (sd : Sd) (n : Nat) : (rowsA sd n).length = n := by simp [rowsA]
theorem rng_map (n : Nat) : rng 0 n = (List.range n).map fun i => .int (i : Int) := by
  unfold rng
  refine List.map_congr_left fun i _ => ?_
  rw [Int.zero_add]

/-! c9: columns as values -/
theorem cut_to {cs : Cols} {i : Int} (h : 0 ≤ i) : slG (encC cs) none (some i) = some (.imm (encC (cs.take i.toNat))) := by
  have : cutL (cs.map D.str) none (some i) = (cs.take i.toNat).map D.str := by
    unfold cutL HT.sIx
    simp only [Nat.sub_zero, List.drop_zero, List.length_map]
    rw [if_neg (by omega), ← List.map_take]
    congr 1
    rcases Nat.le_total i.toNat cs.length with q | q
    · rw [Nat.min_eq_left q]
    · rw [Nat.min_eq_right q, List.take_length, List.take_of_length_le q]
  show some (Res.imm (.tup (cutL (cs.map D.str) none (some i)))) = _
  rw [this]
  rfl
theorem cut_from {cs : Cols} {i : Int} (h : 0 ≤ i) : slG (encC cs) (some i) none = some (.imm (encC (cs.drop i.toNat))) := by
  have : cutL (cs.map D.str) (some i) none = (cs.drop i.toNat).map D.str := by
    unfold cutL HT.sIx
    simp only [List.length_map]
    rw [if_neg (by omega), ← List.map_drop, ← List.map_take]
    congr 1
    rcases Nat.le_total i.toNat cs.length with q | q
    · rw [Nat.min_eq_left q, ← List.length_drop, List.take_length]
    · rw [Nat.min_eq_right q, List.drop_length, List.drop_of_length_le q]; simp
  show some (Res.imm (.tup (cutL (cs.map D.str) (some i) none))) = _
  rw [this]
  rfl
theorem eqv_nil {cs : Cols} : D.eqv (encC cs) (.tup []) = decide (cs = []) := by
  unfold encC
  rw [eqv_tup]
  cases cs with
  | nil => rw [List.map_nil, eqvs_nil]; rfl
  | cons c cs => rw [List.map_cons, eqvs_cn]; rfl
theorem lenC_add {a b : Cols} (h : a.length + b.length ≤ 1000) : addG (encC a) (encC b) = some (.imm (encC (a ++ b))) := by
  unfold encC
  walk_at "ev"
  rw [decide_eq_true (big_le (by rw [List.length_map, List.length_map]; omega)), List.map_append]
  walk_at "ev"
theorem wf_add {w : Nat} {a b : Cols} (ha : Wf w a) (hb : Wf w b) (h : a.length + b.length ≤ 40) : Wf w (a ++ b) := by
  refine ⟨ha.w1, ha.w3, by rw [List.length_append]; exact h, fun c hc => ?_, fun c hc => ?_⟩
  · rcases List.mem_append.mp hc with hc | hc
    · exact ha.col c hc
    · exact hb.col c hc
  · rcases List.mem_append.mp hc with hc | hc
    · exact ha.sg c hc
    · exact hb.sg c hc
section
variable {w : Nat} {cs : Cols}
theorem wf_sub (h : Wf w cs) {a : Cols} (ha : ∀ c ∈ a, c ∈ cs) (hl : a.length ≤ cs.length) : Wf w a :=
  ⟨h.w1, h.w3, Nat.le_trans hl h.len, fun c hc => h.col c (ha c hc), fun c hc => h.sg c (ha c hc)⟩
theorem encC_dep (h : Wf w cs) : (encC cs).dep ≤ 64 := by
  have := (encC_dat h (L := 40) (n := 1) (by omega) (by omega)).dep_le
  omega
end

/-! d0: ends as values -/
theorem encE_dat {L n : Nat} (hL : 10 ≤ L) (hn : 1 ≤ n) (e : En) : Dat L n (encE e) := by
  obtain ⟨n, rfl⟩ : ∃ k, n = k + 1 := ⟨n - 1, by omega⟩
  refine .tup _ _ (by simp; omega) fun d hd => ?_
  simp only [List.mem_cons, List.not_mem_nil, or_false] at hd
  rcases hd with rfl | rfl
  · refine .str _ _ ?_
    have : e.sd.cs.length ≤ 7 := by cases e.sd <;> decide
    omega
  · exact .int _ _

/-! d1: the program's walk -/
def Dr.cs : Dr → List Nat
  | .down => [100, 111, 119, 110]
  | .left => [108, 101, 102, 116]
  | .right => [114, 105, 103, 104, 116]
  | .up => [117, 112]
theorem Dr.cs_inj {a b : Dr} (h : a.cs = b.cs) : a = b := by cases a <;> cases b <;> first | rfl | (exact absurd h (by decide))
def encP (s : Ry) : D := .tup [.int s.r, .int s.c, .str s.d.cs]
def dirO (o : Option Dr) : List Nat := match o with | none => [] | some d => d.cs
theorem f_ponward {c : Nat} (hc : c ∈ [35, 46, 100, 112, 113, 117, 118, 119]) (d : Dr) : m_onward none [.str [c], .str d.cs] = .ret (.imm (.str (dirO (onw c d)))) none := by
  simp only [List.mem_cons, List.not_mem_nil, or_false] at hc
  rcases hc with rfl | rfl | rfl | rfl | rfl | rfl | rfl | rfl <;> cases d <;> kernel_rfl
section
variable {w : Nat} {cs : Cols}
theorem f_entry {g : En} (hg : Gate w cs.length g) : m_entry none [encS w cs, encE g] = .ret (.imm (encP (entryA w cs.length g))) none := by
  unfold m_entry b_entry encS encC
  have hml : (cs.map D.str).length = cs.length := List.length_map ..
  obtain ⟨sd, ix⟩ := g
  unfold Gate at hg
  cases sd with
  | stopped => simp at hg
  | caught => simp at hg
  | _ =>
    simp only [encE, Sd.cs, entryA, encP, Dr.cs]
    walk_at "ev"
    try rw [hml]
def endO (o : Option En) : D := match o with | none => .non | some e => encE e
theorem f_exit {s : Ry} : m_exit_of none [encS w cs, encP s] = .ret (.imm (endO (exitA w cs.length s))) none := by
  unfold m_exit_of b_exit_of encS encC encP exitA
  have hml : (cs.map D.str).length = cs.length := List.length_map ..
  walk_at "ev"
  by_cases a1 : s.c < 0
  · rw [decide_eq_true a1, if_pos a1]
    walk_at "ev"
    rfl
  rw [decide_eq_false a1, if_neg a1]
  walk_at "ev"
  rw [hml]
  by_cases a2 : (cs.length : Int) ≤ s.c
  · rw [decide_eq_true a2, if_pos a2]
    walk_at "ev"
    rfl
  rw [decide_eq_false a2, if_neg a2]
  walk_at "ev"
  by_cases a3 : s.r < 0
  · rw [decide_eq_true a3, if_pos a3]
    walk_at "ev"
    rfl
  rw [decide_eq_false a3, if_neg a3]
  walk_at "ev"
  by_cases a4 : (w : Int) ≤ s.r
  · rw [decide_eq_true a4, if_pos a4]
    walk_at "ev"
    rfl
  rw [decide_eq_false a4, if_neg a4]
  walk_at "ev"
  rfl
def rayO (o : Option Ry) : D := match o with | none => .non | some e => encP e
theorem steps_at (d : Dr) : ixD2 d_STEPS (.str d.cs) = some (.imm (.tup [.int d.dr, .int d.dc])) := by cases d <;> kernel_rfl
theorem cell_sg (h : Wf w cs) {s : Ry} (hi : Inb w cs.length s) : cellA cs s.r s.c ∈ [35, 46, 100, 112, 113, 117, 118, 119] := by
  unfold Inb at hi
  have h1 : s.c.toNat < cs.length := by omega
  have hc := h.col _ (List.getElem_mem h1)
  have h2 : s.r.toNat < cs[s.c.toNat].length := by omega
  unfold cellA
  rw [getD_of h1, getD_of h2]
  exact h.sg _ (List.getElem_mem h1) _ (List.getElem_mem h2)
theorem f_moved (h : Wf w cs) {s : Ry} (hi : Inb w cs.length s) : m_moved none [encS w cs, encP s] = .ret (.imm (rayO (nextA cs s))) none := by
  obtain ⟨col, c1, c2⟩ := cell_at h.wh hi
  unfold m_moved b_moved encS encC encP
  walk_at "ev"
  rw [c1]
  walk_at "ev"
  rw [c2]
  walk_at "ev"
  rw [f_ponward (cell_sg h hi)]
  unfold nextA
  cases ho : onw (cellA cs s.r s.c) s.d with
  | none =>
    unfold dirO
    walk_at "ev"
    rfl
  | some d =>
    unfold dirO
    have hz : ¬ d.cs = [] := by cases d <;> decide
    walk_at "ev"
    rw [decide_eq_false hz]
    walk_at "ev"
    rw [steps_at]
    walk_at "ev"
    rfl
theorem key_encP (s : Ry) : (encP s).key = some (.tup [.num s.r, .num s.c, .text (cstr s.d.cs)]) := rfl
theorem kok_encP (s : Ry) : kok (encP s) = true := by
  unfold kok
  rw [key_encP]
  rfl
theorem kEq_encP (s t : Ry) : kEq (encP s) (encP t) = decide (s = t) := by
  unfold kEq
  rw [key_encP, key_encP]
  refine decide_eq_decide.mpr ⟨fun e => ?_, fun e => by subst e; rfl⟩
  injection e with e
  injection e with e1 e
  injection e with e2 e
  injection e with e3 e
  injection e1 with e1
  injection e2 with e2
  injection e3 with e3
  cases s; cases t
  simp only at e1 e2 e3
  rw [e1, e2, Dr.cs_inj (cstr_inj e3)]
theorem has_encP (s : Ry) : ∀ sn : List Ry, hasK (sn.map encP) (encP s) = decide (s ∈ sn)
  | [] => rfl
  | t :: sn => by
    show (kEq (encP t) (encP s) || hasK (sn.map encP) (encP s)) = _
    rw [kEq_encP, has_encP s sn]
    by_cases h : s = t
    · subst h; simp
    · have : ¬ t = s := fun e => h e.symm
      simp [h, this]
def trs (sn : List Ry) : List D := sn.map fun _ => .bl true
theorem put_encP {s : Ry} : ∀ {sn : List Ry}, ¬ s ∈ sn → putK (sn.map encP) (trs sn) (encP s) (.bl true) = ((sn ++ [s]).map encP, trs (sn ++ [s]))
  | [], _ => rfl
  | t :: sn, h => by
    have ht : ¬ t = s := fun e => h (by rw [e]; exact List.mem_cons_self ..)
    have hs : ¬ s ∈ sn := fun e => h (List.mem_cons_of_mem _ e)
    show (if kEq (encP t) (encP s) = true then _ else (encP t :: (putK (sn.map encP) (trs sn) (encP s) (.bl true)).1, D.bl true :: (putK (sn.map encP) (trs sn) (encP s) (.bl true)).2)) = _
    rw [kEq_encP, decide_eq_false ht, put_encP hs]
    rfl
def fEnv (w : Nat) (cs : Cols) (g : D) (k : D) (sn : List Ry) : Env := [.imm (encS w cs), .imm g, .imm k, .own (.dcn (sn.map encP) (trs sn)), .non]
theorem putD_encP {s : Ry} {sn : List Ry} (h : ¬ s ∈ sn) : putD (sn.map encP) (trs sn) (encP s) (.bl true) = .dcn ((sn ++ [s]).map encP) (trs (sn ++ [s])) := by
  unfold putD
  rw [put_encP h]
end

/-! d2: the loop -/
section
variable {w : Nat} {cs : Cols}
theorem none_encP {b : Bool} {s : Ry} : isNoneG b (encP s) = some (.imm (.bl b)) := (rfl)
theorem none_encE {b : Bool} {s : En} : isNoneG b (encE s) = some (.imm (.bl b)) := (rfl)
def tW : TV := tyAnd (bT (e1 (isNoneG true) (eV 2))) (bT (e1 (isNoneG false) (eCall 2 m_exit_of (aCons (eV 0) (aCons (frzE (eV 2)) aNil)))))
theorem t_go {g : D} {s : Ry} {sn : List Ry} : tW (fEnv w cs g (encP s) sn) = .ok (exitA w cs.length s).isNone (fEnv w cs g (encP s) sn) := by
  unfold tW fEnv
  walk_at "ev"
  rw [none_encP]
  walk_at "ev"
  rw [f_exit]
  cases exitA w cs.length s with
  | none =>
    unfold endO
    walk_at "ev"
    rfl
  | some e =>
    unfold endO
    walk_at "ev"
    rw [none_encE]
    walk_at "ev"
    rfl
theorem t_stop {g : D} {sn : List Ry} : tW (fEnv w cs g .non sn) = .ok false (fEnv w cs g .non sn) := by
  unfold tW fEnv
  walk_at "ev"
theorem b_go (h : Wf w cs) {g : D} {s : Ry} {sn : List Ry} (he : exitA w cs.length s = none) (hl : sn.length ≤ 90000) :
    b1_followed (fEnv w cs g (encP s) sn) = if s ∈ sn then SOut.rt (.pair (encE ⟨.caught, 0⟩) (.lst (sn.map encP))) (fEnv w cs g (encP s) sn) else .nx (fEnv w cs g (rayO (nextA cs s)) (sn ++ [s])) := by
  have hi := exit_none.mp he
  have hlen : (sn.map encP).length ≤ sizeLine := big_le (by rw [List.length_map]; omega)
  have hlen2 : (sn.map encP).length < sizeLine := big_lt (by rw [List.length_map]; omega)
  unfold b1_followed fEnv
  walk_at "ev"
  rw [kok_encP]
  walk_at "ev"
  rw [has_encP]
  by_cases hm : s ∈ sn
  · rw [decide_eq_true hm, if_pos hm]
    walk_at "ev"
    rw [decide_eq_true hlen]
    walk_at "ev"
    rfl
  · rw [decide_eq_false hm, if_neg hm]
    walk_at "ev"
    rw [kok_encP, decide_eq_true hlen2]
    walk_at "ev"
    rw [putD_encP hm]
    rw [f_moved h hi]
    walk_at "ev"
theorem loop_fol (h : Wf w cs) {g : D} {x : En × List Ry} {n f : Nat} {s : Ry} (hn : f < n) (hf : f ≤ 90000) (ht : trace w cs f [] s = some x) :
    (whileD tW b1_followed n (fEnv w cs g (encP s) []) = .nx (fEnv w cs g .non x.2) ∧ x.1 = ⟨.stopped, 0⟩ ∧ x.2.length ≤ 90000) ∨
    (∃ s', whileD tW b1_followed n (fEnv w cs g (encP s) []) = .nx (fEnv w cs g (encP s') x.2) ∧ exitA w cs.length s' = some x.1 ∧ x.2.length ≤ 90000) ∨
    (∃ ρ', whileD tW b1_followed n (fEnv w cs g (encP s) []) = .rt (.pair (encE x.1) (.lst (x.2.map encP))) ρ') := by
  refine whileD_run (t := tW) (b := b1_followed)
    (I := fun m ρ => (∃ s sn, ρ = fEnv w cs g (encP s) sn ∧ trace w cs m sn s = some x ∧ sn.length + m ≤ 90000) ∨ (ρ = fEnv w cs g .non x.2 ∧ x.1 = ⟨.stopped, 0⟩ ∧ x.2.length ≤ 90000))
    (R := fun o => (o = .nx (fEnv w cs g .non x.2) ∧ x.1 = ⟨.stopped, 0⟩ ∧ x.2.length ≤ 90000) ∨ (∃ s', o = .nx (fEnv w cs g (encP s') x.2) ∧ exitA w cs.length s' = some x.1 ∧ x.2.length ≤ 90000) ∨ (∃ ρ', o = .rt (.pair (encE x.1) (.lst (x.2.map encP))) ρ')) ?_ n hn (.inl ⟨s, [], rfl, ht, by simpa using hf⟩)
  rintro m ρ (⟨s, sn, rfl, hx, hl⟩ | ⟨rfl, h1, h2⟩)
  · cases m with
    | zero => simp [trace] at hx
    | succ m =>
      rw [t_go]
      unfold trace at hx
      cases he : exitA w cs.length s with
      | some e =>
        rw [he] at hx
        cases hx
        exact .inl ⟨_, rfl, .inr (.inl ⟨s, rfl, he, by simp only; omega⟩)⟩
      | none =>
        rw [he] at hx
        simp only at hx
        refine .inr ⟨_, rfl, ?_⟩
        rw [b_go h he (by omega)]
        by_cases hm : s ∈ sn
        · rw [if_pos hm] at hx ⊢
          cases hx
          exact .inr (.inl ⟨_, _, rfl, .inr (.inr ⟨_, rfl⟩)⟩)
        · rw [if_neg hm] at hx ⊢
          cases hn : nextA cs s with
          | none =>
            rw [hn] at hx
            cases hx
            exact .inl ⟨_, 0, .inl rfl, by omega, .inr ⟨rfl, rfl, by simp only [List.length_append, List.length_singleton]; omega⟩⟩
          | some s' =>
            rw [hn] at hx
            exact .inl ⟨_, m, .inl rfl, by omega, .inl ⟨s', _, rfl, hx, by rw [List.length_append, List.length_singleton]; omega⟩⟩
  · exact .inl ⟨_, t_stop, .inl ⟨rfl, h1, h2⟩⟩
theorem b_fol_eq : b_followed = sSeq (sSet 2 (eCall 2 m_entry (aCons (eV 0) (aCons (eV 1) aNil)))) (sSeq (sSet 3 eDnew) (sSeq (sWhile tW b1_followed) r1_followed)) := rfl
theorem walk_len (h : Wf w cs) (s : Ry) : (4 * w * cs.length + 1) ≤ 500 := by
  have := Nat.mul_le_mul (Nat.mul_le_mul (Nat.le_refl 4) h.w3) h.len
  omega
theorem f_followed (h : Wf w cs) {g : En} (hg : Gate w cs.length g) : m_followed none [encS w cs, encE g] = .ret (.pair (encE (walkA w cs g).1) (.lst ((walkA w cs g).2.map encP))) none := by
  have hb := walk_len h ⟨0, 0, .up⟩
  have key := loop_fol h (g := encE g) (n := wfuel) (f := 4 * w * cs.length + 1) (s := entryA w cs.length g) (fuel_big (by omega)) (by omega) (goA_some w cs _)
  have e0 : fEnv w cs (encE g) (encP (entryA w cs.length g)) [] = [.imm (encS w cs), .imm (encE g), .imm (encP (entryA w cs.length g)), .own (.dcn [] []), .non] := rfl
  unfold m_followed
  rw [b_fol_eq]
  walk_at "ev"
  rw [f_entry hg]
  walk_at "ev"
  rw [← e0]
  have ew : goA w cs (entryA w cs.length g) = walkA w cs g := rfl
  rw [ew] at key
  rcases key with ⟨q, h1, h2⟩ | ⟨s', q, h1, h2⟩ | ⟨ρ', q⟩
  · have hlen : ((walkA w cs g).2.map encP).length ≤ sizeLine := big_le (by rw [List.length_map]; omega)
    rw [q, h1]
    unfold r1_followed fEnv
    walk_at "ev"
    rw [decide_eq_true hlen]
    walk_at "ev"
    rfl
  · have hlen : ((walkA w cs g).2.map encP).length ≤ sizeLine := big_le (by rw [List.length_map]; omega)
    rw [q]
    unfold r1_followed fEnv
    walk_at "ev"
    rw [none_encP]
    walk_at "ev"
    rw [f_exit, h1]
    unfold endO
    walk_at "ev"
    rw [decide_eq_true hlen]
    walk_at "ev"
  · rw [q]
    walk_at "ev"
end

/-! e2: tables of strips -/
def encT (t : Tab) : D := .tup [.tup (t.l.map encE), .tup (t.r.map encE)]
theorem ix0 {w : Nat} {cs : Cols} : ixD2 (encS w cs) (.int 0) = some (.imm (.int w)) := by unfold encS; walk_at "ev"
theorem ix1 {w : Nat} {cs : Cols} : ixD2 (encS w cs) (.int 1) = some (.imm (encC cs)) := by unfold encS; walk_at "ev"
theorem tx0 {t : Tab} : ixD2 (encT t) (.int 0) = some (.imm (.tup (t.l.map encE))) := by unfold encT; walk_at "ev"
theorem tx1 {t : Tab} : ixD2 (encT t) (.int 1) = some (.imm (.tup (t.r.map encE))) := by unfold encT; walk_at "ev"
theorem f_plain (e : En) : m_plain_end none [encE e] = .ret (.imm (encE (plainE e))) none := by
  unfold m_plain_end b_plain_end encE plainE
  obtain ⟨sd, ix⟩ := e
  cases sd <;> simp only [Sd.cs] <;> walk_at "ev" <;> first | rfl | simp [Sd.cs]
section
variable {w : Nat} {cs : Cols}
theorem f_end_at (h : Wf w cs) {k : Bool} {i : Nat} (hi : i < w) : m_end_at none [encS w cs, .str (sideOf k).cs, .int (i : Int)] = .ret (.imm (encE (plainE (walkA w cs ⟨sideOf k, (i : Int)⟩).1))) none := by
  have q : m_followed none [encS w cs, .tup [.str (sideOf k).cs, .int (i : Int)]] = _ := f_followed h (g := ⟨sideOf k, (i : Int)⟩) (gate_side hi)
  unfold m_end_at b_end_at
  walk_at "ev"
  rw [q]
  walk_at "ev"
  rw [f_plain]
  walk_at "ev"
theorem table_of' {S : D} {W : Int} {F : Bool → Nat → En} (h0 : ixD2 S (.int 0) = some (.imm (.int W))) (hW : W = w) (hw : w ≤ 3)
    (hL : ∀ i, i < w → m_end_at none [S, .str [108, 101, 102, 116], .int (i : Int)] = .ret (.imm (encE (F false i))) none)
    (hR : ∀ i, i < w → m_end_at none [S, .str [114, 105, 103, 104, 116], .int (i : Int)] = .ret (.imm (encE (F true i))) none) :
    m_table_of none [S] = .ret (.imm (.tup [.tup ((List.range w).map fun i => encE (F false i)), .tup ((List.range w).map fun i => encE (F true i))])) none := by
  unfold m_table_of b_table_of
  have hr : -4611686018427387904 ≤ W ∧ W < 4611686018427387904 := by omega
  have hz : W.toNat ≤ sizeLine := big_le (by omega)
  have hWn : W.toNat = w := by omega
  walk_at "ev"
  rw [h0]
  walk_at "ev"
  rw [decide_eq_true hr]
  walk_at "ev"
  rw [decide_eq_true hz]
  walk_at "ev"
  rw [hWn, rng_map, lcD_mapS (fun i : Nat => .int (i : Int)) (F := fun i => encE (F false i)) (by
    intro i hi
    rw [lcS_ev]
    walk_at "ev"
    rw [hL i (List.mem_range.mp hi)]
    walk_at "ev")]
  walk_at "ev"
  rw [h0]
  walk_at "ev"
  rw [decide_eq_true hr]
  walk_at "ev"
  rw [hWn] at hz
  rw [hWn, decide_eq_true hz]
  walk_at "ev"
  rw [rng_map, lcD_mapS (fun i : Nat => .int (i : Int)) (F := fun i => encE (F true i)) (by
    intro i hi
    rw [lcS_ev]
    walk_at "ev"
    rw [hR i (List.mem_range.mp hi)]
    walk_at "ev")]
  walk_at "ev"
theorem encT_table : encT (tableA w cs) = .tup [.tup ((List.range w).map fun (i : Nat) => encE (plainE (walkA w cs ⟨sideOf false, (i : Int)⟩).1)), .tup ((List.range w).map fun (i : Nat) => encE (plainE (walkA w cs ⟨sideOf true, (i : Int)⟩).1))] := by
  unfold encT tableA
  rw [List.map_map, List.map_map]
  rfl
theorem f_table_of (h : Wf w cs) : m_table_of none [encS w cs] = .ret (.imm (encT (tableA w cs))) none := by
  rw [encT_table]
  exact table_of' (F := fun k i => plainE (walkA w cs ⟨sideOf k, (i : Int)⟩).1) ix0 rfl h.w3 (fun i hi => f_end_at h (k := false) hi) (fun i hi => f_end_at h (k := true) hi)
end
section
variable {w : Nat} {a b : Tab}
theorem ens_dat {L n : Nat} {l : List En} (hL : 10 ≤ L) (hl : l.length ≤ L) (hn : 2 ≤ n) : Dat L n (.tup (l.map encE)) := by
  obtain ⟨n, rfl⟩ : ∃ k, n = k + 1 := ⟨n - 1, by omega⟩
  refine .tup _ _ (by rw [List.length_map]; exact hl) fun d hd => ?_
  obtain ⟨s, _, rfl⟩ := List.mem_map.mp hd
  exact encE_dat hL (by omega) s
theorem encT_dat {L n : Nat} (ha : TabOk w a) (hw : w ≤ 3) (hL : 10 ≤ L) (hn : 3 ≤ n) : Dat L n (encT a) := by
  obtain ⟨n, rfl⟩ : ∃ k, n = k + 1 := ⟨n - 1, by omega⟩
  refine .tup _ _ (by simp; omega) fun d hd => ?_
  simp only [List.mem_cons, List.not_mem_nil, or_false] at hd
  rcases hd with rfl | rfl
  · exact ens_dat hL (by rw [ha.ll]; omega) (by omega)
  · exact ens_dat hL (by rw [ha.rl]; omega) (by omega)
end
section
variable {w : Nat}
theorem encT_dep {t : Tab} (h : TabOk w t) (hw : w ≤ 3) : (encT t).dep ≤ 64 := by
  have := (encT_dat (L := 10) (n := 3) h hw (by omega) (by omega)).dep_le
  omega
theorem encT_eqv {t : Tab} (h : TabOk w t) (hw : w ≤ 3) : D.eqv (encT t) (encT t) = true := (encT_dat (L := 10) (n := 3) h hw (by omega) (by omega)).eqv_refl
end

/-! e2l: the law's table -/
theorem f_law_plain (e : En) : m_law_plain none [encE e] = .ret (.imm (encE (plainE e))) none := by
  unfold m_law_plain b_law_plain encE plainE
  obtain ⟨sd, ix⟩ := e
  cases sd <;> simp only [Sd.cs] <;> walk_at "ev" <;> first | rfl | simp [Sd.cs]
section
variable {w : Nat} {cs : Cols}
theorem law_table' {S : D} {W : Int} {F : Bool → Nat → En} {G : Bool → Nat → D} (h0 : ixD2 S (.int 0) = some (.imm (.int W))) (hW : W = w) (hw : w ≤ 3)
    (hL : ∀ i, i < w → m_law_walk none [S, .tup [.str [108, 101, 102, 116], .int (i : Int)]] = .ret (.imm (.tup [encE (F false i), G false i])) none)
    (hR : ∀ i, i < w → m_law_walk none [S, .tup [.str [114, 105, 103, 104, 116], .int (i : Int)]] = .ret (.imm (.tup [encE (F true i), G true i])) none) :
    m_law_table none [S] = .ret (.imm (.tup [.tup ((List.range w).map fun i => encE (plainE (F false i))), .tup ((List.range w).map fun i => encE (plainE (F true i)))])) none := by
  unfold m_law_table b_law_table
  have hr : -4611686018427387904 ≤ W ∧ W < 4611686018427387904 := by omega
  have hz : W.toNat ≤ sizeLine := big_le (by omega)
  have hWn : W.toNat = w := by omega
  have z0 : 0 < sizeLine := big_lt (by omega)
  have z1 : 1 < sizeLine := big_lt (by omega)
  walk_at "ev"
  rw [forS_ev]
  unfold b1_law_table
  walk_at "ev"
  rw [h0]
  walk_at "ev"
  rw [decide_eq_true hr]
  walk_at "ev"
  rw [decide_eq_true hz]
  walk_at "ev"
  rw [hWn, rng_map, lcD_mapS (fun i : Nat => .int (i : Int)) (F := fun i => encE (plainE (F false i))) (by
    intro i hi
    rw [lcS_ev]
    walk_at "ev"
    rw [hL i (List.mem_range.mp hi)]
    walk_at "ev"
    rw [f_law_plain]
    walk_at "ev")]
  walk_at "ev"
  rw [decide_eq_true z0]
  walk_at "ev"
  rw [forS_ev]
  walk_at "ev"
  rw [h0]
  walk_at "ev"
  rw [decide_eq_true hr]
  walk_at "ev"
  rw [hWn] at hz
  rw [hWn, decide_eq_true hz]
  walk_at "ev"
  rw [rng_map, lcD_mapS (fun i : Nat => .int (i : Int)) (F := fun i => encE (plainE (F true i))) (by
    intro i hi
    rw [lcS_ev]
    walk_at "ev"
    rw [hR i (List.mem_range.mp hi)]
    walk_at "ev"
    rw [f_law_plain]
    walk_at "ev")]
  walk_at "ev"
  rw [decide_eq_true z1]
  walk_at "ev"
  unfold r1_law_table
  walk_at "ev"
theorem f_law_tableH (h : Wh w cs) : m_law_table none [encS w cs] = .ret (.imm (encT (tableA w cs))) none := by
  rw [encT_table]
  exact law_table' (F := fun k i => (walkA w cs ⟨sideOf k, (i : Int)⟩).1) (G := fun k i => .lst ((walkA w cs ⟨sideOf k, (i : Int)⟩).2.map encI)) ix0 rfl h.w3
    (fun i hi => f_walkH h (g := ⟨sideOf false, (i : Int)⟩) (gate_side hi)) (fun i hi => f_walkH h (g := ⟨sideOf true, (i : Int)⟩) (gate_side hi))
theorem f_law_table (h : Wf w cs) : m_law_table none [encS w cs] = .ret (.imm (encT (tableA w cs))) none := f_law_tableH h.wh
end

/-! e3a: tables as values -/
/-! dicts whose keys are written things -/
section
variable {α : Type} [DecidableEq α] {enc : α → D}
theorem has_gen (hk : ∀ a b, kEq (enc a) (enc b) = decide (a = b)) (s : α) : ∀ sn : List α, hasK (sn.map enc) (enc s) = decide (s ∈ sn)
  | [] => rfl
  | t :: sn => by
    show (kEq (enc t) (enc s) || hasK (sn.map enc) (enc s)) = _
    rw [hk, has_gen hk s sn]
    by_cases h : s = t
    · subst h; simp
    · have : ¬ t = s := fun e => h e.symm
      simp [h, this]
theorem has_t (hk : ∀ a b, kEq (enc a) (enc b) = decide (a = b)) {s : α} {sn : List α} (h : s ∈ sn) : hasK (sn.map enc) (enc s) = true := by rw [has_gen hk]; exact decide_eq_true h
theorem has_f (hk : ∀ a b, kEq (enc a) (enc b) = decide (a = b)) {s : α} {sn : List α} (h : ¬ s ∈ sn) : hasK (sn.map enc) (enc s) = false := by rw [has_gen hk]; exact decide_eq_false h
def trG (sn : List α) : List D := sn.map fun _ => .bl true
theorem put_gen (hk : ∀ a b, kEq (enc a) (enc b) = decide (a = b)) {s : α} : ∀ {sn : List α}, ¬ s ∈ sn → putK (sn.map enc) (trG sn) (enc s) (.bl true) = ((sn ++ [s]).map enc, trG (sn ++ [s]))
  | [], _ => rfl
  | t :: sn, h => by
    have ht : ¬ t = s := fun e => h (by rw [e]; exact List.mem_cons_self ..)
    have hs : ¬ s ∈ sn := fun e => h (List.mem_cons_of_mem _ e)
    show (if kEq (enc t) (enc s) = true then _ else (enc t :: (putK (sn.map enc) (trG sn) (enc s) (.bl true)).1, D.bl true :: (putK (sn.map enc) (trG sn) (enc s) (.bl true)).2)) = _
    rw [hk, decide_eq_false ht, put_gen hk hs]
    rfl
theorem putD_gen (hk : ∀ a b, kEq (enc a) (enc b) = decide (a = b)) {s : α} {sn : List α} (h : ¬ s ∈ sn) : putD (sn.map enc) (trG sn) (enc s) (.bl true) = .dcn ((sn ++ [s]).map enc) (trG (sn ++ [s])) := by
  unfold putD
  rw [put_gen hk h]
end
def kz (b : Bool) : Int := if b then 1 else 0
theorem kz_f : kz false = 0 := rfl
theorem kz_t : kz true = 1 := rfl
def encK (s : Cs) : D := .tup [.int (kz s.1), encE s.2]
theorem key_encK (s : Cs) : (encK s).key = some (.tup [.num (kz s.1), .tup [.text (cstr s.2.sd.cs), .num s.2.ix]]) := rfl
theorem kok_encK (s : Cs) : kok (encK s) = true := by
  unfold kok
  rw [key_encK]
  rfl
theorem kEq_encK (s t : Cs) : kEq (encK s) (encK t) = decide (s = t) := by
  unfold kEq
  rw [key_encK, key_encK]
  refine decide_eq_decide.mpr ⟨fun e => ?_, fun e => by subst e; rfl⟩
  injection e with e
  injection e with e1 e
  injection e with e2 _
  injection e2 with e2
  injection e2 with e3 e
  injection e with e4 _
  injection e1 with e1
  injection e3 with e3
  injection e4 with e4
  obtain ⟨k1, ⟨sd1, ix1⟩⟩ := s
  obtain ⟨k2, ⟨sd2, ix2⟩⟩ := t
  simp only at e1 e3 e4
  have h1 : k1 = k2 := by cases k1 <;> cases k2 <;> first | rfl | (exact absurd e1 (by decide))
  rw [h1, Sd.cs_inj (cstr_inj e3), e4]
section
variable {w : Nat} {a b : Tab}
theorem tab_atI (ha : TabOk w a) {k : Bool} {i : Int} (h0 : 0 ≤ i) (h1 : i < w) : atI (cond k (a.r.map encE) (a.l.map encE)) i = some (encE (a.at k i.toNat)) := by
  have hl : (cond k a.r a.l).length = w := by cases k; exact ha.ll; exact ha.rl
  have e : cond k (a.r.map encE) (a.l.map encE) = (cond k a.r a.l).map encE := by cases k <;> rfl
  rw [e]
  obtain ⟨x, ex, gx, _⟩ := atI_nat (xs := (cond k a.r a.l).map encE) (i := i) h0 (by rw [List.length_map, hl]; exact h1)
  rw [ex]
  have hi : i.toNat < (cond k a.r a.l).length := by omega
  rw [List.getElem?_map, List.getElem?_eq_getElem hi] at gx
  have gx := Option.some.inj gx
  rw [← gx]
  cases k
  · show _ = some (encE (a.l.getD i.toNat cauE)); rw [getD_of (l := a.l) hi]; rfl
  · show _ = some (encE (a.r.getD i.toNat cauE)); rw [getD_of (l := a.r) hi]; rfl
theorem atL (ha : TabOk w a) {i : Int} (h0 : 0 ≤ i) (h1 : i < w) : atI (a.l.map encE) i = some (encE (a.at false i.toNat)) := tab_atI ha (k := false) h0 h1
theorem atR (ha : TabOk w a) {i : Int} (h0 : 0 ≤ i) (h1 : i < w) : atI (a.r.map encE) i = some (encE (a.at true i.toNat)) := tab_atI ha (k := true) h0 h1
theorem ee0 {e : En} : ixD2 (encE e) (.int 0) = some (.imm (.str e.sd.cs)) := by unfold encE; walk_at "ev"
theorem ee1 {e : En} : ixD2 (encE e) (.int 1) = some (.imm (.int e.ix)) := by unfold encE; walk_at "ev"
end
theorem cs_right {x : Sd} : decide (x.cs = [114, 105, 103, 104, 116]) = decide (x = .right) := by cases x <;> rfl
theorem cs_left {x : Sd} : decide (x.cs = [108, 101, 102, 116]) = decide (x = .left) := by cases x <;> rfl

/-! e3: products -/
section
variable {w : Nat} {a b : Tab}
def cEnv (a b : Tab) (side row : D) (s : Cs) (sn : List Cs) : Env := [.imm (encT a), .imm (encT b), .imm side, .imm row, .imm (.int (kz s.1)), .imm (encE s.2), .own (.dcn (sn.map encK) (trG sn))]
def tC : TV := bT (e2 eqG (e2 ixD2 (eV 5) (eC (.int 0))) (eIf (bT (e2 eqG (eV 4) (eC (.int 0)))) (eC (.str [114, 105, 103, 104, 116])) (eC (.str [108, 101, 102, 116]))))
def goC (s : Cs) : Bool := cond s.1 (decide (s.2.sd = .left)) (decide (s.2.sd = .right))
theorem t_ev {side row : D} {s : Cs} {sn : List Cs} : tC (cEnv a b side row s sn) = .ok (goC s) (cEnv a b side row s sn) := by
  obtain ⟨k, e⟩ := s
  unfold tC cEnv
  cases k with
  | false =>
    simp only [kz_f]
    walk_at "ev"
    rw [ee0]
    walk_at "ev"
    rw [cs_right]
    rfl
  | true =>
    simp only [kz_t]
    walk_at "ev"
    rw [ee0]
    walk_at "ev"
    rw [cs_left]
    rfl
theorem go_inl {s s' : Cs} (h : mC a b s = .inl s') : goC s = true := by
  obtain ⟨k, e⟩ := s
  cases k <;> simp only [mC] at h <;> split at h
  · rename_i q; simp [goC, q]
  · cases h
  · rename_i q; simp [goC, q]
  · cases h
theorem go_inr {s : Cs} {e : En} (h : mC a b s = .inr e) : goC s = false ∧ e = s.2 := by
  obtain ⟨k, x⟩ := s
  cases k <;> simp only [mC] at h <;> split at h
  · cases h
  · rename_i q; cases h; exact ⟨by simp [goC, q], rfl⟩
  · cases h
  · rename_i q; cases h; exact ⟨by simp [goC, q], rfl⟩
theorem b_chase (ha : TabOk w a) (hb : TabOk w b) {side row : D} {s s' : Cs} {sn : List Cs} (p : PC w s) (h : mC a b s = .inl s') (hl : sn.length ≤ 90000) :
    b1_chased (cEnv a b side row s sn) = if s ∈ sn then SOut.rt (.imm (encE cauE)) (cEnv a b side row s sn) else .nx (cEnv a b side row s' (sn ++ [s])) := by
  have hr := mC_rng p h
  have hlen2 : (sn.map encK).length < sizeLine := big_lt (by rw [List.length_map]; omega)
  have eK : D.tup [.int (kz s.1), encE s.2] = encK s := rfl
  unfold b1_chased cEnv
  walk_at "ev"
  rw [eK, kok_encK]
  walk_at "ev"
  by_cases hm : s ∈ sn
  · rw [has_t kEq_encK hm, if_pos hm]
    walk_at "ev"
    rfl
  · rw [has_f kEq_encK hm, if_neg hm]
    walk_at "ev"
    rw [eK, kok_encK, decide_eq_true hlen2]
    walk_at "ev"
    rw [putD_gen kEq_encK hm]
    rcases mC_go h with ⟨h1, h2, h3⟩ | ⟨h1, h2, h3⟩
    · obtain ⟨k, e⟩ := s
      simp only at h1 h2 h3 hr
      subst h1
      subst h3
      simp only [kz_f]
      walk_at "ev"
      rw [tx0]
      walk_at "ev"
      rw [ee1]
      walk_at "ev"
      rw [atL hb hr.1 hr.2]
      walk_at "ev"
      rfl
    · obtain ⟨k, e⟩ := s
      simp only at h1 h2 h3 hr
      subst h1
      subst h3
      simp only [kz_t]
      walk_at "ev"
      rw [tx1]
      walk_at "ev"
      rw [ee1]
      walk_at "ev"
      rw [atR ha hr.1 hr.2]
      walk_at "ev"
      rfl
theorem loop_chase (ha : TabOk w a) (hb : TabOk w b) {side row : D} {x : Option En × List Cs} {n f : Nat} {s : Cs} (p : PC w s) (hn : f < n) (hf : f ≤ 90000) (ht : traceG (mC a b) f [] s = some x) :
    (∃ e k sn, x.1 = some e ∧ whileD tC b1_chased n (cEnv a b side row s []) = .nx (cEnv a b side row (k, e) sn)) ∨
    (∃ ρ', x.1 = none ∧ whileD tC b1_chased n (cEnv a b side row s []) = .rt (.imm (encE cauE)) ρ') := by
  refine whileD_run (t := tC) (b := b1_chased)
    (I := fun m ρ => ∃ s sn, ρ = cEnv a b side row s sn ∧ PC w s ∧ traceG (mC a b) m sn s = some x ∧ sn.length + m ≤ 90000)
    (R := fun o => (∃ e k sn, x.1 = some e ∧ o = .nx (cEnv a b side row (k, e) sn)) ∨ (∃ ρ', x.1 = none ∧ o = .rt (.imm (encE cauE)) ρ')) ?_ n hn ⟨s, [], rfl, p, ht, by simpa using hf⟩
  rintro m ρ ⟨s, sn, rfl, p, hx, hl⟩
  cases m with
  | zero => simp [traceG] at hx
  | succ m =>
    rw [t_ev]
    unfold traceG at hx
    cases he : mC a b s with
    | inr e =>
      rw [he] at hx
      cases hx
      obtain ⟨g, rfl⟩ := go_inr he
      rw [g]
      exact .inl ⟨_, rfl, .inl ⟨_, s.1, sn, rfl, rfl⟩⟩
    | inl s' =>
      rw [he] at hx
      simp only at hx
      rw [go_inl he]
      refine .inr ⟨_, rfl, ?_⟩
      rw [b_chase ha hb p he (by omega)]
      by_cases hm : s ∈ sn
      · simp only [hm, if_true] at hx ⊢
        cases hx
        exact .inr (.inl ⟨_, _, rfl, .inr ⟨_, rfl, rfl⟩⟩)
      · simp only [hm, if_false] at hx ⊢
        refine .inl ⟨_, m, .inl rfl, by omega, s', _, rfl, ?_, hx, by rw [List.length_append, List.length_singleton]; omega⟩
        rcases mC_go he with ⟨_, _, rfl⟩ | ⟨_, _, rfl⟩ <;> exact dev_ok ha hb _ _ _
theorem b_chased_eq : b_chased = sSeq (sAsg (eIf (bT (e2 eqG (eV 2) (eC (.str [108, 101, 102, 116])))) (eTup (aCons (eC (.int 0)) (aCons (e2 ixD2 (e2 ixD2 (eV 0) (eC (.int 0))) (eV 3)) aNil))) (eTup (aCons (eC (.int 1)) (aCons (e2 ixD2 (e2 ixD2 (eV 1) (eC (.int 1))) (eV 3)) aNil)))) (gT 2 (gsC (gN 4) (gsC (gN 5) gsN))))
    (sSeq (sSet 6 eDnew) (sSeq (sWhile tC b1_chased) r1_chased)) := rfl
theorem f_chased (ha : TabOk w a) (hb : TabOk w b) (hw : w ≤ 3) {k : Bool} {i : Nat} (hi : i < w) : m_chased none [encT a, encT b, .str (sideOf k).cs, .int (i : Int)] = .ret (.imm (encE (chaseE a b (4 * w + 2) (startC a b k i)))) none := by
  have p : PC w (startC a b k i) := by rw [startC_dev]; exact dev_ok ha hb _ _ _
  have i0 : (0 : Int) ≤ i := by omega
  have i1 : (i : Int) < w := by omega
  obtain ⟨x, hx⟩ : ∃ x, traceG (mC a b) (2 * w + 1) [] (startC a b k i) = some x := by
    cases ht : traceG (mC a b) (2 * w + 1) [] (startC a b k i) with
    | some x => exact ⟨x, rfl⟩
    | none =>
      have := chase_trace ha hb List.nodup_nil (fun _ h => nomatch h) p ht
      simp at this
      omega
  have key := loop_chase ha hb (side := .str (sideOf k).cs) (row := .int (i : Int)) (n := wfuel) p (fuel_big (by omega)) (by omega) hx
  have res := traceG_ok .nil hx
  have fin : finF none ((whileD tC b1_chased wfuel (cEnv a b (.str (sideOf k).cs) (.int (i : Int)) (startC a b k i) [])).seq r1_chased) = .ret (.imm (encE (chaseE a b (4 * w + 2) (startC a b k i)))) none := by
    rcases key with ⟨e, k', sn, h1, q⟩ | ⟨ρ', h1, q⟩
    · rcases res with ⟨e', g1, g2, _⟩ | ⟨g1, _⟩
      · rw [h1] at g1
        cases g1
        rw [q, chase_ends ha hb p g2]
        unfold r1_chased cEnv
        walk_at "ev"
      · rw [h1] at g1; cases g1
    · rcases res with ⟨e', g1, _⟩ | ⟨_, g2⟩
      · rw [h1] at g1; cases g1
      · rw [q, chase_not g2]
        walk_at "ev"
  unfold m_chased
  rw [b_chased_eq]
  cases k with
  | false =>
    simp only [sideOf, Sd.cs, Bool.false_eq_true, if_false] at fin ⊢
    walk_at "ev"
    rw [tx0]
    walk_at "ev"
    rw [atL ha i0 i1, Int.toNat_natCast]
    walk_at "ev"
    exact fin
  | true =>
    simp only [sideOf, Sd.cs, if_true] at fin ⊢
    walk_at "ev"
    rw [tx1]
    walk_at "ev"
    rw [atR hb i0 i1, Int.toNat_natCast]
    walk_at "ev"
    exact fin
end

/-! e4a: the product -/
section
variable {w : Nat} {a b : Tab}
theorem encT_prod : encT (prodA w a b) = .tup [.tup ((List.range w).map fun i => encE (chaseE a b (4 * w + 2) (startC a b false i))), .tup ((List.range w).map fun i => encE (chaseE a b (4 * w + 2) (startC a b true i)))] := by
  unfold encT prodA
  rw [List.map_map, List.map_map]
  rfl
theorem f_multiplied (ha : TabOk w a) (hb : TabOk w b) (hw : w ≤ 3) : m_multiplied none [encT a, encT b] = .ret (.imm (encT (prodA w a b))) none := by
  rw [encT_prod]
  unfold m_multiplied b_multiplied
  have hml : (a.l.map encE).length = w := by rw [List.length_map, ha.ll]
  generalize hW : (w : Int) = W
  have hr : -4611686018427387904 ≤ W ∧ W < 4611686018427387904 := by omega
  have hz : W.toNat ≤ sizeLine := big_le (by omega)
  have hWn : W.toNat = w := by omega
  walk_at "ev"
  rw [tx0]
  walk_at "ev"
  rw [hml, hW]
  rw [decide_eq_true hr]
  walk_at "ev"
  rw [decide_eq_true hz]
  walk_at "ev"
  rw [hWn, rng_map, lcD_mapS (fun i : Nat => .int (i : Int)) (F := fun i => encE (chaseE a b (4 * w + 2) (startC a b false i))) (by
    intro i hi
    have q := f_chased ha hb hw (k := false) (List.mem_range.mp hi)
    rw [lcS_ev]
    walk_at "ev"
    rw [show m_chased none [encT a, encT b, .str [108, 101, 102, 116], .int (i : Int)] = _ from q]
    walk_at "ev")]
  walk_at "ev"
  rw [decide_eq_true hr]
  walk_at "ev"
  rw [hWn] at hz
  rw [hWn, decide_eq_true hz]
  walk_at "ev"
  rw [rng_map, lcD_mapS (fun i : Nat => .int (i : Int)) (F := fun i => encE (chaseE a b (4 * w + 2) (startC a b true i))) (by
    intro i hi
    have q := f_chased ha hb hw (k := true) (List.mem_range.mp hi)
    rw [lcS_ev]
    walk_at "ev"
    rw [show m_chased none [encT a, encT b, .str [114, 105, 103, 104, 116], .int (i : Int)] = _ from q]
    walk_at "ev")]
  walk_at "ev"
end

/-! e5: the law's product -/
section
variable {w : Nat} {a b : Tab}
def stp (a b : Tab) (s : Cs) : Cs := match mC a b s with | .inl s' => s' | .inr _ => s
def itS (a b : Tab) : Nat → Cs → Cs
  | 0, s => s
  | n + 1, s => itS a b n (stp a b s)
theorem itS_inr {s : Cs} {e : En} (h : mC a b s = .inr e) : ∀ n, itS a b n s = s
  | 0 => rfl
  | n + 1 => by
    have : stp a b s = s := by unfold stp; rw [h]
    show itS a b n (stp a b s) = s
    rw [this]
    exact itS_inr h n
theorem runG_it : ∀ (n : Nat) (s : Cs), runG (mC a b) n s = match mC a b (itS a b n s) with | .inr e => some e | .inl _ => none
  | 0, s => by
    simp only [runG, itS]
    cases mC a b s <;> rfl
  | n + 1, s => by
    cases h : mC a b s with
    | inr e =>
      rw [itS_inr h]
      simp only [runG, h]
    | inl s' =>
      have : stp a b s = s' := by unfold stp; rw [h]
      show _ = match mC a b (itS a b n (stp a b s)) with | .inr e => some e | .inl _ => none
      rw [this, ← runG_it n s']
      simp only [runG, h]
theorem chase_it (n : Nat) (s : Cs) : chaseE a b n s = if goC (itS a b n s) = true then cauE else (itS a b n s).2 := by
  unfold chaseE
  rw [runG_it]
  cases h : mC a b (itS a b n s) with
  | inr e =>
    obtain ⟨g, rfl⟩ := go_inr h
    rw [g]
    rfl
  | inl s' => rw [go_inl h]; rfl
theorem stp_pc (ha : TabOk w a) (hb : TabOk w b) {s : Cs} (p : PC w s) : PC w (stp a b s) := by
  unfold stp
  cases h : mC a b s with
  | inr e => exact p
  | inl s' => rcases mC_go h with ⟨_, _, rfl⟩ | ⟨_, _, rfl⟩ <;> exact dev_ok ha hb _ _ _
variable {s2 s3 s4 s5 s6 s7 s8 s9 : Slot}
def lE (a b : Tab) (s2 s3 s4 s5 : Slot) (s : Cs) (s8 s9 : Slot) : Env := [.imm (encT a), .imm (encT b), s2, s3, s4, s5, .imm (encE s.2), .imm (.int (kz s.1)), s8, s9]
theorem b3_times (ha : TabOk w a) (hb : TabOk w b) {s : Cs} (p : PC w s) {d : D} : forS (gN 8) b3_law_times d (lE a b s2 s3 s4 s5 s s8 s9) = .nx (lE a b s2 s3 s4 s5 (stp a b s) (.imm d) s9) := by
  obtain ⟨k, e⟩ := s
  rw [forS_ev]
  unfold b3_law_times lE stp
  cases k with
  | false =>
    simp only [kz_f]
    walk_at "ev"
    rw [ee0]
    walk_at "ev"
    rw [cs_right]
    by_cases h : e.sd = .right
    · have hr := EndOk.side p (.inr h)
      have hm : mC a b (false, e) = .inl (true, b.at false e.ix.toNat) := by simp only [mC]; rw [if_pos h]
      simp only at hr
      rw [decide_eq_true h]
      walk_at "ev"
      rw [tx0]
      walk_at "ev"
      rw [ee1]
      walk_at "ev"
      rw [atL hb hr.1 hr.2]
      walk_at "ev"
      rw [hm]
      rfl
    · have hm : mC a b (false, e) = .inr e := by simp only [mC]; rw [if_neg h]
      rw [decide_eq_false h]
      walk_at "ev"
      rw [hm]
      rfl
  | true =>
    simp only [kz_t]
    walk_at "ev"
    rw [ee0]
    walk_at "ev"
    rw [cs_left]
    by_cases h : e.sd = .left
    · have hr := EndOk.side p (.inl h)
      have hm : mC a b (true, e) = .inl (false, a.at true e.ix.toNat) := by simp only [mC]; rw [if_pos h]
      simp only at hr
      rw [decide_eq_true h]
      walk_at "ev"
      rw [tx1]
      walk_at "ev"
      rw [ee1]
      walk_at "ev"
      rw [atR ha hr.1 hr.2]
      walk_at "ev"
      rw [hm]
      rfl
    · have hm : mC a b (true, e) = .inr e := by simp only [mC]; rw [if_neg h]
      rw [decide_eq_false h]
      walk_at "ev"
      rw [hm]
      rfl
theorem l_times (ha : TabOk w a) (hb : TabOk w b) : ∀ {ds : List D} {s : Cs} {s8 : Slot}, PC w s → ∃ s8', forD (gN 8) b3_law_times ds (lE a b s2 s3 s4 s5 s s8 s9) = .nx (lE a b s2 s3 s4 s5 (itS a b ds.length s) s8' s9)
  | [], s, s8, p => ⟨s8, rfl⟩
  | d :: ds, s, s8, p => by
    obtain ⟨s8', q⟩ := l_times ha hb (ds := ds) (s8 := .imm d) (stp_pc ha hb p)
    refine ⟨s8', ?_⟩
    rw [forD_cons, b3_times ha hb p, forR_nx, q]
    rfl
theorem b2_times (ha : TabOk w a) (hb : TabOk w b) (hw : w ≤ 3) {k : Bool} {i : Nat} (hi : i < w) {l : List D} (hl : l.length ≤ 1000) :
    ∃ s6' s7' s8' s9', forS (gN 5) b2_law_times (.int (i : Int)) [.imm (encT a), .imm (encT b), s2, .imm (.int (kz k)), .own (.lst l), s5, s6, s7, s8, s9] =
      .nx [.imm (encT a), .imm (encT b), s2, .imm (.int (kz k)), .own (.lst (l ++ [encE (chaseE a b (4 * w + 2) (startC a b k i))])), .imm (.int (i : Int)), s6', s7', s8', s9'] := by
  have i0 : (0 : Int) ≤ i := by omega
  have i1 : (i : Int) < w := by omega
  have p : PC w (startC a b k i) := by rw [startC_dev]; exact dev_ok ha hb _ _ _
  have hml : (a.l.map encE).length = w := by rw [List.length_map, ha.ll]
  have hll : l.length < sizeLine := big_lt (by omega)
  generalize hW : (w : Int) = W
  have hr : -4611686018427387904 ≤ 4 * W + 2 ∧ 4 * W + 2 < 4611686018427387904 := by omega
  have hWn : (4 * W + 2).toNat = 4 * w + 2 := by omega
  have hr2 : -18446744073709551616 < W ∧ W < 18446744073709551616 := by omega
  obtain ⟨s8', q⟩ := l_times (s2 := s2) (s3 := .imm (.int (kz k))) (s4 := .own (.lst l)) (s5 := .imm (.int (i : Int))) (s9 := s9) ha hb (ds := rng 0 (4 * w + 2)) (s8 := s8) p
  rw [rng_len] at q
  have r1 : ∀ s : Cs, s = itS a b (4 * w + 2) (startC a b k i) → ∃ s6' s7' s8'' s9', r1_law_times (lE a b s2 (.imm (.int (kz k))) (.own (.lst l)) (.imm (.int (i : Int))) s s8' s9) = .nx [.imm (encT a), .imm (encT b), s2, .imm (.int (kz k)), .own (.lst (l ++ [encE (chaseE a b (4 * w + 2) (startC a b k i))])), .imm (.int (i : Int)), s6', s7', s8'', s9'] := by
    intro s hs
    rw [chase_it, ← hs]
    obtain ⟨k', e⟩ := s
    unfold r1_law_times lE
    cases k' with
    | false =>
      simp only [kz_f]
      walk_at "ev"
      rw [ee0]
      walk_at "ev"
      rw [cs_right]
      by_cases h : e.sd = .right
      · have g : goC (false, e) = true := by simp [goC, h]
        rw [decide_eq_true h, g]
        walk_at "ev"
        rw [decide_eq_true hll]
        walk_at "ev"
        exact ⟨_, _, _, _, rfl⟩
      · have g : goC (false, e) = false := by simp [goC, h]
        rw [decide_eq_false h, g]
        walk_at "ev"
        rw [decide_eq_true hll]
        walk_at "ev"
        exact ⟨_, _, _, _, rfl⟩
    | true =>
      simp only [kz_t]
      walk_at "ev"
      rw [ee0]
      walk_at "ev"
      rw [cs_left]
      by_cases h : e.sd = .left
      · have g : goC (true, e) = true := by simp [goC, h]
        rw [decide_eq_true h, g]
        walk_at "ev"
        rw [decide_eq_true hll]
        walk_at "ev"
        exact ⟨_, _, _, _, rfl⟩
      · have g : goC (true, e) = false := by simp [goC, h]
        rw [decide_eq_false h, g]
        walk_at "ev"
        rw [decide_eq_true hll]
        walk_at "ev"
        exact ⟨_, _, _, _, rfl⟩
  obtain ⟨s6', s7', s8'', s9', r⟩ := r1 _ rfl
  refine ⟨s6', s7', s8'', s9', ?_⟩
  rw [forS_ev]
  unfold b2_law_times
  cases k with
  | false =>
    simp only [kz_f] at q r ⊢
    walk_at "ev"
    rw [tx0]
    walk_at "ev"
    rw [atL ha i0 (by omega), Int.toNat_natCast]
    walk_at "ev"
    rw [tx0]
    walk_at "ev"
    rw [hml, hW]
    rw [decide_eq_true hr]
    walk_at "ev"
    rw [hWn, show forD (gN 8) b3_law_times (rng 0 (4 * w + 2)) [.imm (encT a), .imm (encT b), s2, .imm (.int 0), .own (.lst l), .imm (.int (i : Int)), .imm (encE (a.at false i)), .imm (.int 0), s8, s9] = _ from q]
    walk_at "ev"
    rw [r]
  | true =>
    simp only [kz_t] at q r ⊢
    walk_at "ev"
    rw [tx1]
    walk_at "ev"
    rw [atR hb i0 (by omega), Int.toNat_natCast]
    walk_at "ev"
    rw [tx0]
    walk_at "ev"
    rw [hml, hW]
    rw [decide_eq_true hr]
    walk_at "ev"
    rw [hWn, show forD (gN 8) b3_law_times (rng 0 (4 * w + 2)) [.imm (encT a), .imm (encT b), s2, .imm (.int 1), .own (.lst l), .imm (.int (i : Int)), .imm (encE (b.at true i)), .imm (.int 1), s8, s9] = _ from q]
    walk_at "ev"
    rw [r]
def rowsT (w : Nat) (a b : Tab) (k : Bool) : List D := (List.range w).map fun i => encE (chaseE a b (4 * w + 2) (startC a b k i))
theorem b1_times (ha : TabOk w a) (hb : TabOk w b) (hw : w ≤ 3) {k : Bool} {l : List D} (hl : l.length ≤ 1000) :
    ∃ s4' s5' s6' s7' s8' s9', forS (gN 3) b1_law_times (.int (kz k)) [.imm (encT a), .imm (encT b), .own (.lst l), s3, s4, s5, s6, s7, s8, s9] =
      .nx [.imm (encT a), .imm (encT b), .own (.lst (l ++ [.tup (rowsT w a b k)])), .imm (.int (kz k)), s4', s5', s6', s7', s8', s9'] := by
  have hml : (a.l.map encE).length = w := by rw [List.length_map, ha.ll]
  have hll : l.length < sizeLine := big_lt (by omega)
  generalize hW : (w : Int) = W
  have hr : -4611686018427387904 ≤ W ∧ W < 4611686018427387904 := by omega
  have hWn : W.toNat = w := by omega
  rw [forS_ev]
  unfold b1_law_times
  walk_at "ev"
  rw [tx0]
  walk_at "ev"
  rw [hml, hW, decide_eq_true hr]
  walk_at "ev"
  rw [hWn]
  generalize hf : forD (gN 5) _ _ _ = o
  obtain ⟨ρ', rfl, s5', s6', s7', s8', s9', rfl⟩ := forD_el1 hf (fun j ρ => ∃ s5 s6 s7 s8 s9, ρ = [.imm (encT a), .imm (encT b), .own (.lst l), .imm (.int (kz k)), .own (.lst ((List.range j).map fun i => encE (chaseE a b (4 * w + 2) (startC a b k i)))), s5, s6, s7, s8, s9]) ⟨_, _, _, _, _, rfl⟩ (by
    rintro j d ρ hj ⟨s5, s6, s7, s8, s9, rfl⟩
    obtain ⟨hj1, rfl⟩ := rng_get hj
    rw [Int.zero_add]
    obtain ⟨s6', s7', s8', s9', q⟩ := b2_times ha hb hw (k := k) (i := j) hj1 (l := (List.range j).map fun i => encE (chaseE a b (4 * w + 2) (startC a b k i))) (by rw [List.length_map, List.length_range]; omega) (s2 := .own (.lst l)) (s5 := s5) (s6 := s6) (s7 := s7) (s8 := s8) (s9 := s9)
    refine ⟨_, .inl q, .imm (.int (j : Int)), s6', s7', s8', s9', ?_⟩
    rw [List.range_succ, List.map_append]
    rfl)
  rw [rng_len]
  walk_at "ev"
  unfold r2_law_times
  walk_at "ev"
  rw [decide_eq_true hll]
  walk_at "ev"
  exact ⟨_, _, _, _, _, _, rfl⟩
theorem f_times (ha : TabOk w a) (hb : TabOk w b) (hw : w ≤ 3) : m_law_times none [encT a, encT b] = .ret (.imm (encT (prodA w a b))) none := by
  obtain ⟨s4, s5, s6, s7, s8, s9, q1⟩ := b1_times ha hb hw (k := false) (l := []) (by simp) (s3 := .non) (s4 := .non) (s5 := .non) (s6 := .non) (s7 := .non) (s8 := .non) (s9 := .non)
  obtain ⟨t4, t5, t6, t7, t8, t9, q2⟩ := b1_times ha hb hw (k := true) (l := [.tup (rowsT w a b false)]) (by simp) (s3 := .imm (.int 0)) (s4 := s4) (s5 := s5) (s6 := s6) (s7 := s7) (s8 := s8) (s9 := s9)
  simp only [kz_f, kz_t] at q1 q2
  rw [encT_prod]
  unfold m_law_times b_law_times
  walk_at "ev"
  rw [q1]
  walk_at "ev"
  rw [q2]
  walk_at "ev"
  unfold r3_law_times
  walk_at "ev"
  rfl
end

/-! e2q: equality of tables, columns, echoes -/
theorem eqvs_map {α : Type} [DecidableEq α] {enc : α → D} (h : ∀ a b, D.eqv (enc a) (enc b) = decide (a = b)) : ∀ (x y : List α), D.eqvs (x.map enc) (y.map enc) = decide (x = y)
  | [], [] => by simp [D.eqvs]
  | [], b :: y => by simp [D.eqvs]
  | a :: x, [] => by simp [D.eqvs]
  | a :: x, b :: y => by
    show (D.eqv (enc a) (enc b) && D.eqvs (x.map enc) (y.map enc)) = _
    rw [h, eqvs_map h x y]
    by_cases e : a = b
    · subst e; simp
    · simp [e]
theorem eqv_encC {x y : Cols} : D.eqv (encC x) (encC y) = decide (x = y) := by
  show D.eqvs (x.map D.str) (y.map D.str) = _
  refine eqvs_map (fun a b => ?_) x y
  walk_at "ev"
theorem eqv_encT {a b : Tab} : D.eqv (encT a) (encT b) = decide (a.l = b.l ∧ a.r = b.r) := by
  show (D.eqvs (a.l.map encE) (b.l.map encE) && (D.eqvs (a.r.map encE) (b.r.map encE) && true)) = _
  rw [eqvs_map (fun _ _ => eqv_encE), eqvs_map (fun _ _ => eqv_encE), Bool.and_true, Bool.decide_and]
theorem tab_ext {a b : Tab} (h : a.l = b.l ∧ a.r = b.r) : a = b := by
  obtain ⟨l, r⟩ := a
  obtain ⟨l', r'⟩ := b
  obtain ⟨h1, h2⟩ := h
  simp only at h1 h2
  subst h1 h2
  rfl
theorem eqvT_iff {a b : Tab} : D.eqv (encT a) (encT b) = true ↔ a = b := by
  rw [eqv_encT, decide_eq_true_iff]
  exact ⟨tab_ext, fun e => by subst e; exact ⟨rfl, rfl⟩⟩
def LstS (s : Slot) (X : List D) : Prop := s = .imm (.lst X) ∨ s = .own (.lst X)

/-! c4t: lists of drawn columns, of encoded things -/
theorem encs_of {α : Type} {enc : α → D} {P : α → Prop} : ∀ {ys : List D}, (∀ y ∈ ys, ∃ x, y = enc x ∧ P x) → ∃ xs : List α, ys = xs.map enc ∧ xs.length = ys.length ∧ ∀ x ∈ xs, P x
  | [], _ => ⟨[], rfl, rfl, by simp⟩
  | y :: ys, h => by
    obtain ⟨x, rfl, hx⟩ := h y (List.mem_cons_self ..)
    obtain ⟨xs, e, hl, hp⟩ := encs_of fun y hy => h y (List.mem_cons_of_mem _ hy)
    refine ⟨x :: xs, by rw [e]; rfl, by simp [hl], fun d hd => ?_⟩
    rcases List.mem_cons.mp hd with rfl | hd
    · exact hx
    · exact hp d hd
def ColP (w : Nat) (c : List Nat) : Prop := c.length = w ∧ ∀ s ∈ c, SG s
theorem wf_cols {w : Nat} (h1 : 1 ≤ w) (h3 : w ≤ 3) {cs : Cols} (hl : cs.length ≤ 40) (h : ∀ c ∈ cs, ColP w c) : Wf w cs := ⟨h1, h3, hl, fun c hc => (h c hc).1, fun c hc => (h c hc).2⟩
theorem cutMap {α : Type} {f : α → D} {xs : List α} {i : Int} (h : 0 ≤ i) : cutL (xs.map f) none (some i) = (xs.take i.toNat).map f := by
  unfold cutL HT.sIx
  simp only [Nat.sub_zero, List.drop_zero, List.length_map]
  rw [if_neg (by omega), ← List.map_take]
  congr 1
  rcases Nat.le_total i.toNat xs.length with q | q
  · rw [Nat.min_eq_left q]
  · rw [Nat.min_eq_right q, List.take_length, List.take_of_length_le q]
def Pln (s : Slot) : Prop := s = .non ∨ ∃ d, s = .imm d
theorem Pln.pl {s : Slot} (h : Pln s) : plS (some s) = true := by
  rcases h with rfl | ⟨d, rfl⟩ <;> rfl

/-! r1: parts -/
structure WordOk (w : Nat) (p : Cols × Nat) : Prop where
  ne : p.1 ≠ []
  len : p.1.length ≤ 6
  col : ∀ c ∈ p.1, ColP w c
  n1 : 1 ≤ p.2
  n2 : p.2 ≤ 1000000000000000000000000000000
def encW (p : Cols × Nat) : D := .tup [encC p.1, .int (p.2 : Int)]
def encPs (w : Nat) (ps : List (Cols × Nat)) : D := .tup [.int (w : Int), .tup (ps.map encW)]
section
variable {w : Nat}
theorem word_wf (h1 : 1 ≤ w) (h3 : w ≤ 3) {p : Cols × Nat} (h : WordOk w p) : Wf w p.1 := wf_cols h1 h3 (by have := h.len; omega) h.col
theorem cols_enc (h1 : 1 ≤ w) (h3 : w ≤ 3) {p : Cols × Nat} (h : WordOk w p) : areCols (encC p.1) w 6 SS = true := by
  have hl := h.len
  simp only [encC, areCols, List.length_map, Bool.and_eq_true, decide_eq_true_eq, List.all_eq_true, List.mem_map]
  refine ⟨by omega, ?_⟩
  rintro d ⟨c, hc, rfl⟩
  simp only [isCol, Bool.and_eq_true, decide_eq_true_eq, List.all_eq_true]
  refine ⟨by rw [(h.col c hc).1], fun s hs => ?_⟩
  simpa [SS, SG] using (h.col c hc).2 s hs
theorem f_word (h1 : 1 ≤ w) (h3 : w ≤ 3) {p : Cols × Nat} (h : WordOk w p) : m_is_word none [encW p, .int (w : Int)] = rB true := by
  have hw := word_wf h1 h3 h
  have hd : Dat 50 3 (encC p.1) := encC_dat hw (by omega) (by omega)
  have hp : m_is_pair none [.tup [encC p.1, .int (p.2 : Int)]] = rB true := by
    rw [f_pair (L := 50) (n := 5) (.tup _ _ (by simp) fun d hd' => by
      simp only [List.mem_cons, List.not_mem_nil, or_false] at hd'
      rcases hd' with rfl | rfl
      · exact hd.mono (by omega) (by omega)
      · exact .int _ _)]
    rfl
  have hn : m_is_within none [.int (p.2 : Int), .int 1, .int 1000000000000000000000000000000] = rB true := by
    rw [f_within (L := 50) (n := 5) (.int _ _)]
    have := h.n1
    have := h.n2
    simp only [rB, isInt]
    congr 3
    rw [Bool.and_eq_true]
    exact ⟨decide_eq_true (by omega), decide_eq_true (by omega)⟩
  unfold m_is_word b_is_word encW
  walk_at "ev"
  rw [hp]
  unfold rB
  walk_at "ev"
  rw [show m_are_columns none [encC p.1, .int (w : Int), .int 6, .str [35, 46, 100, 112, 113, 117, 118, 119]] = rB true from by rw [show [35, 46, 100, 112, 113, 117, 118, 119] = SS from rfl, f_columns hd, cols_enc h1 h3 h]]
  unfold rB
  walk_at "ev"
  rw [decide_eq_true (encC_dep hw), eqv_nil, decide_eq_false h.ne]
  walk_at "ev"
  rw [hn]
  unfold rB
  walk_at "ev"
theorem f_parts (h1 : 1 ≤ w) (h3 : w ≤ 3) {ps : List (Cols × Nat)} (h : ∀ p ∈ ps, WordOk w p) (hl : ps.length ≤ 4) : m_need_parts none [encPs w ps] = .ret (.imm .non) none := by
  have hdp : Dat 50 4 (.tup (ps.map encW)) := .tup _ _ (by rw [List.length_map]; omega) fun d hd => by
    obtain ⟨p, hp, rfl⟩ := List.mem_map.mp hd
    refine .tup _ _ (by simp) fun d hd' => ?_
    simp only [List.mem_cons, List.not_mem_nil, or_false] at hd'
    rcases hd' with rfl | rfl
    · exact encC_dat (word_wf h1 h3 (h p hp)) (by omega) (by omega)
    · exact .int _ _
  have hp : m_is_pair none [.tup [.int (w : Int), .tup (ps.map encW)]] = rB true := by
    rw [f_pair (L := 50) (n := 5) (.tup _ _ (by simp) fun d hd' => by
      simp only [List.mem_cons, List.not_mem_nil, or_false] at hd'
      rcases hd' with rfl | rfl
      · exact .int _ _
      · exact hdp)]
    rfl
  have hn : m_is_within none [.int (w : Int), .int 1, .int 3] = rB true := by
    rw [f_within (L := 50) (n := 5) (.int _ _)]
    simp only [rB, isInt]
    congr 3
    rw [Bool.and_eq_true]
    exact ⟨decide_eq_true (by omega), decide_eq_true (by omega)⟩
  have key : m_are_right_parts none [encPs w ps] = rB true := by
    unfold m_are_right_parts b_are_right_parts encPs
    walk_at "ev"
    rw [hp]
    unfold rB
    walk_at "ev"
    rw [hn]
    unfold rB
    walk_at "ev"
    rw [List.length_map, decide_eq_false (by omega)]
    walk_at "ev"
    rw [lcD_mapS encW (F := fun _ => .bl true) (by
      intro p hp
      rw [lcS_ev]
      walk_at "ev"
      rw [f_word h1 h3 (h p hp)]
      unfold rB
      walk_at "ev")]
    walk_at "ev"
    rw [show (ps.map fun _ => D.bl true) = ps.map (fun x => D.bl ((fun _ => true) x)) from rfl, dBools_map (fun _ => true)]
    walk_at "ev"
    rw [all_id]
    simp
  unfold m_need_parts b_need_parts
  walk_at "ev"
  rw [key]
  unfold rB
  walk_at "ev"
/-! powers -/
def pwEnv (X F : Cols) (w n : Nat) : Env := [.imm (encT (tableA w X)), .imm (.int (n : Int)), .imm (encT (tableA w F))]
theorem b1_pow (h3 : w ≤ 3) {X F : Cols} {n : Nat} (hn : 0 < n) : b1_powered (pwEnv X F w n) = .nx (pwEnv (X ++ X) (if n % 2 = 1 then F ++ X else F) w (n / 2)) := by
  have m1 : (n : Int).fmod 2 = ((n % 2 : Nat) : Int) := by
    rw [Int.fmod_eq_emod_of_nonneg _ (by omega)]; rfl
  have m2 : (n : Int).fdiv 2 = ((n / 2 : Nat) : Int) := by
    rw [Int.fdiv_eq_ediv_of_nonneg _ (by omega)]; rfl
  have e1 := f_multiplied (w := w) (a := tableA w F) (b := tableA w X) table_ok table_ok h3
  have e2 := f_multiplied (w := w) (a := tableA w X) (b := tableA w X) table_ok table_ok h3
  rw [table_two] at e1 e2
  unfold b1_powered pwEnv
  walk_at "ev"
  rw [m1]
  by_cases q : n % 2 = 1
  · rw [decide_eq_true (show ((n % 2 : Nat) : Int) = 1 by omega), if_pos q]
    walk_at "ev"
    rw [e1]
    walk_at "ev"
    rw [e2]
    walk_at "ev"
    rw [m2]
  · rw [decide_eq_false (show ¬ ((n % 2 : Nat) : Int) = 1 by omega), if_neg q]
    walk_at "ev"
    rw [e2]
    walk_at "ev"
    rw [m2]
theorem pow_step {X F : Cols} {n : Nat} : (if n % 2 = 1 then F ++ X else F) ++ repC (n / 2) (X ++ X) = F ++ repC n X := by
  rw [repC_two]
  by_cases q : n % 2 = 1
  · rw [if_pos q, List.append_assoc]
    congr 1
    have : n = 2 * (n / 2) + 1 := by omega
    conv => rhs; rw [this, repC_succ]
  · rw [if_neg q]
    have : n = 2 * (n / 2) := by omega
    conv => rhs; rw [this]
theorem loop_pow (h3 : w ≤ 3) {X : Cols} {n k N : Nat} (hN : k < N) (hk : n < 2 ^ k) : ∃ X', whileD (bT (e2 gtG (eV 1) (eC (.int 0)))) b1_powered N (pwEnv X [] w n) = .nx (pwEnv X' (repC n X) w 0) := by
  refine whileD_run (t := bT (e2 gtG (eV 1) (eC (.int 0)))) (b := b1_powered)
    (I := fun m ρ => ∃ Y F i, ρ = pwEnv Y F w i ∧ i < 2 ^ m ∧ F ++ repC i Y = repC n X)
    (R := fun o => ∃ X', o = .nx (pwEnv X' (repC n X) w 0)) ?_ N hN ⟨X, [], n, rfl, hk, rfl⟩
  rintro m ρ ⟨Y, F, i, rfl, hi, e⟩
  have t : (bT (e2 gtG (eV 1) (eC (.int 0)))) (pwEnv Y F w i) = .ok (decide (0 < (i : Int))) (pwEnv Y F w i) := by
    unfold pwEnv
    walk_at "ev"
  rw [t]
  by_cases z : i = 0
  · subst z
    refine .inl ⟨_, rfl, Y, ?_⟩
    have : F = repC n X := by rw [← e]; simp [repC]
    rw [this]
  · rw [decide_eq_true (by omega)]
    refine .inr ⟨_, rfl, .inl ?_⟩
    rw [b1_pow h3 (by omega)]
    cases m with
    | zero => omega
    | succ m => exact ⟨_, m, .inl rfl, by omega, _, _, _, rfl, by rw [Nat.pow_succ] at hi; omega, by rw [pow_step, e]⟩
theorem wf_nil (h1 : 1 ≤ w) (h3 : w ≤ 3) : Wf w [] := ⟨h1, h3, by simp, by simp, by simp⟩
theorem f_table_nil (h1 : 1 ≤ w) (h3 : w ≤ 3) : m_table_of none [.tup [.int (w : Int), .tup []]] = .ret (.imm (encT (tableA w []))) none := by
  have e : D.tup [.int (w : Int), .tup []] = encS w [] := rfl
  rw [e, f_table_of (wf_nil h1 h3)]
theorem f_powered (h1 : 1 ≤ w) (h3 : w ≤ 3) {X : Cols} {n : Nat} (hn : n ≤ 1000000000000000000000000000000) : m_powered none [encT (tableA w X), .int (n : Int)] = .ret (.imm (encT (PT w X n))) none := by
  have hml : ((tableA w X).l.map encE).length = w := by rw [List.length_map, (table_ok (w := w) (cs := X)).ll]
  have big : n < 2 ^ 100 := Nat.lt_of_le_of_lt hn (by decide)
  obtain ⟨X', q⟩ := loop_pow h3 (X := X) (n := n) (k := 100) (N := wfuel) (fuel_big (by omega)) big
  unfold m_powered b_powered
  walk_at "ev"
  rw [tx0]
  walk_at "ev"
  rw [hml, f_table_nil h1 h3]
  walk_at "ev"
  rw [show [Slot.imm (encT (tableA w X)), .imm (.int (n : Int)), .imm (encT (tableA w []))] = pwEnv X [] w n from rfl, q]
  unfold pwEnv r1_powered
  walk_at "ev"
  rfl
/-! the strip of parts -/
def allC (ps : List (Cols × Nat)) : Cols := ps.flatMap fun p => repC p.2 p.1
def longN (ps : List (Cols × Nat)) : Nat := (ps.map fun p => p.1.length * p.2).sum
theorem loop_long (h1 : 1 ≤ w) (h3 : w ≤ 3) {S : D} (hS : ixD2 S (.int 0) = some (.imm (.int (w : Int)))) : ∀ {ps : List (Cols × Nat)} {F : Cols} {s2 s3 : Slot}, (∀ p ∈ ps, WordOk w p) →
    ∃ t2 t3, forD (gT 2 (gsC (gN 2) (gsC (gN 3) gsN))) b1_long_table (ps.map encW) [.imm S, .imm (encT (tableA w F)), s2, s3] = .nx [.imm S, .imm (encT (tableA w (F ++ allC ps))), t2, t3]
  | [], F, s2, s3, _ => ⟨s2, s3, by rw [List.map_nil, forD_nil]; simp [allC]⟩
  | p :: ps, F, s2, s3, h => by
    have hp := h p (by simp)
    have e := f_multiplied (w := w) (a := tableA w F) (b := PT w p.1 p.2) table_ok (PT_ok _) h3
    have et : prodA w (tableA w F) (PT w p.1 p.2) = tableA w (F ++ repC p.2 p.1) := table_two
    rw [et] at e
    obtain ⟨t2, t3, q⟩ := loop_long h1 h3 hS (ps := ps) (F := F ++ repC p.2 p.1) (s2 := .imm (encC p.1)) (s3 := .imm (.int (p.2 : Int))) fun x hx => h x (by simp [hx])
    have st : forS (gT 2 (gsC (gN 2) (gsC (gN 3) gsN))) b1_long_table (encW p) [.imm S, .imm (encT (tableA w F)), s2, s3] = .nx [.imm S, .imm (encT (tableA w (F ++ repC p.2 p.1))), .imm (encC p.1), .imm (.int (p.2 : Int))] := by
      rw [forS_ev]
      unfold b1_long_table encW
      walk_at "ev"
      rw [hS]
      walk_at "ev"
      rw [show D.tup [.int (w : Int), encC p.1] = encS w p.1 from rfl, f_table_of (word_wf h1 h3 hp)]
      walk_at "ev"
      rw [f_powered h1 h3 hp.n2]
      walk_at "ev"
      rw [e]
      walk_at "ev"
    rw [List.map_cons, forD_cons, st]
    walk_at "ev"
    rw [q]
    refine ⟨t2, t3, ?_⟩
    simp [allC, List.append_assoc]
theorem ixp0 {ps : List (Cols × Nat)} : ixD2 (encPs w ps) (.int 0) = some (.imm (.int (w : Int))) := by unfold encPs; walk_at "ev"
theorem ixp1 {ps : List (Cols × Nat)} : ixD2 (encPs w ps) (.int 1) = some (.imm (.tup (ps.map encW))) := by unfold encPs; walk_at "ev"
theorem f_long_table (h1 : 1 ≤ w) (h3 : w ≤ 3) {ps : List (Cols × Nat)} (h : ∀ p ∈ ps, WordOk w p) (hl : ps.length ≤ 4) : m_long_table none [encPs w ps] = .ret (.imm (encT (tableA w (allC ps)))) none := by
  obtain ⟨t2, t3, q⟩ := loop_long h1 h3 (ixp0 (ps := ps)) (ps := ps) (F := []) (s2 := .non) (s3 := .non) h
  rw [List.nil_append] at q
  unfold m_long_table b_long_table
  walk_at "ev"
  rw [f_parts h1 h3 h hl]
  walk_at "ev"
  rw [ixp0]
  walk_at "ev"
  rw [f_table_nil h1 h3]
  walk_at "ev"
  rw [ixp1]
  walk_at "ev"
  rw [q]
  unfold r1_long_table
  walk_at "ev"
theorem dInts_map {α : Type} (f : α → Int) : ∀ xs : List α, dInts (xs.map fun x => .int (f x)) = some (xs.map f)
  | [] => rfl
  | x :: xs => by show (dInts (xs.map fun x => .int (f x))).map _ = _; rw [dInts_map f xs]; rfl
theorem sum_cast (l : List Nat) : (l.map fun n : Nat => (n : Int)).sum = ((l.sum : Nat) : Int) := by
  induction l with
  | nil => rfl
  | cons a l ih => rw [List.map_cons, List.sum_cons, ih, List.sum_cons, Int.natCast_add]
theorem f_count (h1 : 1 ≤ w) (h3 : w ≤ 3) {ps : List (Cols × Nat)} (h : ∀ p ∈ ps, WordOk w p) (hl : ps.length ≤ 4) : m_count_columns none [encPs w ps] = .ret (.imm (.int ((longN ps : Nat) : Int))) none := by
  unfold m_count_columns b_count_columns
  walk_at "ev"
  rw [f_parts h1 h3 h hl]
  walk_at "ev"
  rw [ixp1]
  walk_at "ev"
  rw [lcD_mapS encW (F := fun p => .int (((p.1.length * p.2 : Nat)) : Int)) (by
    intro p hp
    have hp := h p hp
    have hl : lenG [encC p.1] = some (.imm (.int (p.1.length : Int))) := by
      unfold encC
      walk_at "ev"
      rw [List.length_map]
    have hb := hp.len
    rw [lcS_ev]
    unfold encW
    walk_at "ev"
    rw [hl]
    walk_at "ev"
    rw [decide_eq_true (by omega)]
    walk_at "ev"
    rw [Int.natCast_mul])]
  walk_at "ev"
  rw [dInts_map]
  walk_at "ev"
  have := sum_cast (ps.map fun p => p.1.length * p.2)
  rw [List.map_map] at this
  rw [← show ((ps.map fun p => p.1.length * p.2).map fun n : Nat => (n : Int)).sum = (ps.map fun x => ((x.1.length * x.2 : Nat) : Int)).sum by rw [List.map_map]; rfl, sum_cast]
  rfl
end

/-! r2: come_round, the law's powers -/
structure Rnd (w : Nat) (X : Cols) (N b : Nat) : Prop where
  big : N ≤ 1000000
  lt : b < N
  eq : PT w X N = PT w X b
  ne : ∀ i j, i < j → j < N → PT w X i ≠ PT w X j
theorem rnd_of {w : Nat} (hw : w ≤ 3) (X : Cols) : ∃ N b, Rnd w X N b := by
  obtain ⟨N, h1, ⟨b, h2, h3⟩, h4⟩ := tab_round (w := w) (X := X) hw
  exact ⟨N, b, h1, h2, h3, h4⟩
instance : DecidableEq Tab := fun a b => decidable_of_iff (a.l = b.l ∧ a.r = b.r) ⟨tab_ext, fun e => by subst e; exact ⟨rfl, rfl⟩⟩
theorem keys_map {α : Type} {enc : α → D} {ke : α → NestedKey} (h : ∀ a, (enc a).key = some (ke a)) : ∀ l : List α, D.keys (l.map enc) = some (l.map ke)
  | [] => rfl
  | a :: l => by
    show (match (enc a).key, D.keys (l.map enc) with | some k, some ks => some (k :: ks) | _, _ => none) = _
    rw [h a, keys_map h l]
    rfl
def keE (e : En) : NestedKey := .tup [.text (cstr e.sd.cs), .num e.ix]
theorem key_encE2 (e : En) : (encE e).key = some (keE e) := rfl
theorem keE_inj {a b : En} (e : keE a = keE b) : a = b := by
  unfold keE at e
  injection e with e
  injection e with e1 e
  injection e with e2 _
  injection e2 with e2
  injection e1 with e1
  obtain ⟨sd1, ix1⟩ := a
  obtain ⟨sd2, ix2⟩ := b
  simp only at e1 e2
  rw [Sd.cs_inj (cstr_inj e1), e2]
theorem key_encT (t : Tab) : (encT t).key = some (.tup [.tup (t.l.map keE), .tup (t.r.map keE)]) := by
  have h1 : (D.tup (t.l.map encE)).key = some (.tup (t.l.map keE)) := by
    show (D.keys _).map _ = _
    rw [keys_map key_encE2]; rfl
  have h2 : (D.tup (t.r.map encE)).key = some (.tup (t.r.map keE)) := by
    show (D.keys _).map _ = _
    rw [keys_map key_encE2]; rfl
  show (match (D.tup (t.l.map encE)).key, D.keys [D.tup (t.r.map encE)] with | some k, some ks => some (k :: ks) | _, _ => none).map NestedKey.tup = _
  rw [h1]
  show (match some (NestedKey.tup (t.l.map keE)), (match (D.tup (t.r.map encE)).key, some [] with | some k, some ks => some (k :: ks) | _, _ => none) with | some k, some ks => some (k :: ks) | _, _ => none).map NestedKey.tup = _
  rw [h2]
  rfl
theorem dep_keE (l : List En) : NestedKey.depthAll (l.map keE) ≤ 1 := by
  induction l with
  | nil => exact Nat.zero_le _
  | cons e l ih =>
    show max (NestedKey.depth (keE e)) (NestedKey.depthAll (l.map keE)) ≤ 1
    exact Nat.max_le.mpr ⟨Nat.le_refl _, ih⟩
theorem kok_encT (t : Tab) : kok (encT t) = true := by
  unfold kok
  rw [key_encT]
  refine decide_eq_true ?_
  show max (NestedKey.depthAll (t.l.map keE) + 1) (max (NestedKey.depthAll (t.r.map keE) + 1) 0) + 1 ≤ 8
  have h1 := dep_keE t.l
  have h2 := dep_keE t.r
  omega
theorem map_keE {l m : List En} (h : l.map keE = m.map keE) : l = m := by
  induction l generalizing m with
  | nil => cases m with
    | nil => rfl
    | cons a b => simp at h
  | cons a l ih => cases m with
    | nil => simp at h
    | cons b m =>
      rw [List.map_cons, List.map_cons, List.cons.injEq] at h
      rw [keE_inj h.1, ih h.2]
theorem kEq_encT (a b : Tab) : kEq (encT a) (encT b) = decide (a = b) := by
  unfold kEq
  rw [key_encT, key_encT]
  refine decide_eq_decide.mpr ⟨fun e => ?_, fun e => by subst e; rfl⟩
  injection e with e
  injection e with e1 e
  injection e with e2 _
  injection e1 with e1
  injection e2 with e2
  exact tab_ext ⟨map_keE e1, map_keE e2⟩
theorem put_new {α : Type} [DecidableEq α] {enc : α → D} (hk : ∀ a b, kEq (enc a) (enc b) = decide (a = b)) {s : α} {x : D} : ∀ {sn : List α} {vs : List D}, vs.length = sn.length → ¬ s ∈ sn → putK (sn.map enc) vs (enc s) x = ((sn ++ [s]).map enc, vs ++ [x])
  | [], [], _, _ => rfl
  | [], _ :: _, h, _ => by simp at h
  | _ :: _, [], h, _ => by simp at h
  | t :: sn, v :: vs, hl, h => by
    have ht : ¬ t = s := fun e => h (by rw [e]; exact List.mem_cons_self ..)
    have hs : ¬ s ∈ sn := fun e => h (List.mem_cons_of_mem _ e)
    show (if kEq (enc t) (enc s) = true then _ else (enc t :: (putK (sn.map enc) vs (enc s) x).1, v :: (putK (sn.map enc) vs (enc s) x).2)) = _
    rw [hk, decide_eq_false ht, put_new hk (by simpa using hl) hs]
    rfl
section
variable {w N b : Nat} {X : Cols}
def ptR (w : Nat) (X : Cols) (n : Nat) : List Tab := (List.range n).map (PT w X)
theorem ptR_succ (n : Nat) : ptR w X (n + 1) = ptR w X n ++ [PT w X n] := by simp [ptR, List.range_succ]
theorem ptR_len (n : Nat) : (ptR w X n).length = n := by simp [ptR]
theorem ptR_mem (R : Rnd w X N b) {n : Nat} (h : n ≤ N) : PT w X n ∈ ptR w X n ↔ n = N := by
  constructor
  · intro hm
    obtain ⟨i, hi, e⟩ := List.mem_map.mp hm
    have hi := List.mem_range.mp hi
    rcases Nat.lt_or_ge n N with q | q
    · exact (R.ne i n hi q e).elim
    · omega
  · intro e
    subst e
    exact List.mem_map.mpr ⟨b, List.mem_range.mpr R.lt, R.eq.symm⟩
def natD (n : Nat) : List D := (List.range n).map fun i : Nat => .int (i : Int)
theorem natD_succ (n : Nat) : natD (n + 1) = natD n ++ [.int (n : Int)] := by simp [natD, List.range_succ]
def rEnv (w : Nat) (X : Cols) (n : Nat) : Env := [.imm (encS w X), .imm (encT (tableA w X)), .imm (encT (PT w X n)), .own (.dcn ((ptR w X n).map encT) (natD n))]
theorem b1_round (h3 : w ≤ 3) {n : Nat} (hn : ¬ PT w X n ∈ ptR w X n) (hb : n ≤ 1000000) : b1_come_round (rEnv w X n) = .nx (rEnv w X (n + 1)) := by
  have e := f_multiplied (w := w) (a := PT w X n) (b := tableA w X) (PT_ok n) table_ok h3
  rw [← PT_succ] at e
  have sl : ((ptR w X n).map encT).length < sizeLine := by rw [List.length_map, ptR_len, sizeLine_eq]; omega
  unfold b1_come_round rEnv
  walk_at "ev"
  rw [kok_encT, decide_eq_true sl]
  walk_at "ev"
  rw [e]
  walk_at "ev"
  unfold putD
  rw [put_new kEq_encT (by rw [ptR_len]; simp [natD]) hn]
  simp only [List.length_map, ptR_len, ptR_succ, natD_succ]
theorem look_pt (R : Rnd w X N b) : ∀ {l : List Nat}, (∀ i ∈ l, i < N) → b ∈ l → dLook ((l.map (PT w X)).map encT) (l.map fun i : Nat => .int (i : Int)) (encT (PT w X b)) = some (.int (b : Int))
  | [], _, h => nomatch h
  | i :: l, hl, h => by
    show (if kEq (encT (PT w X i)) (encT (PT w X b)) = true then _ else _) = _
    rw [kEq_encT]
    by_cases e : PT w X i = PT w X b
    · rw [decide_eq_true e, if_pos rfl]
      have hi := hl i (by simp)
      have : i = b := by
        rcases Nat.lt_trichotomy i b with q | q | q
        · exact (R.ne i b q R.lt e).elim
        · exact q
        · exact (R.ne b i q hi e.symm).elim
      rw [this]
    · rw [decide_eq_false e, if_neg Bool.false_ne_true]
      rcases List.mem_cons.mp h with rfl | h
      · exact (e rfl).elim
      · exact look_pt R (fun j hj => hl j (by simp [hj])) h
def rndD (N b : Nat) : D := .tup [.int (b : Int), .int (((N - b : Nat)) : Int)]
theorem loop_round (R : Rnd w X N b) (h3 : w ≤ 3) {F : Nat} (hF : N < F) : whileD (bT (e2 (inG2 true) (eV 2) (eV 3))) b1_come_round F (rEnv w X 0) = .nx (rEnv w X N) := by
  refine whileD_run (t := bT (e2 (inG2 true) (eV 2) (eV 3))) (b := b1_come_round) (I := fun m ρ => m ≤ N ∧ ρ = rEnv w X (N - m)) (R := fun o => o = .nx (rEnv w X N)) ?_ F hF ⟨Nat.le_refl _, by rw [Nat.sub_self]⟩
  rintro m ρ ⟨hm, rfl⟩
  have t : (bT (e2 (inG2 true) (eV 2) (eV 3))) (rEnv w X (N - m)) = .ok (!decide (PT w X (N - m) ∈ ptR w X (N - m))) (rEnv w X (N - m)) := by
    unfold rEnv
    walk_at "ev"
    rw [kok_encT, has_gen kEq_encT]
    walk_at "ev"
  rw [t]
  by_cases z : m = 0
  · subst z
    rw [Nat.sub_zero, decide_eq_true ((ptR_mem R (Nat.le_refl _)).mpr rfl)]
    exact .inl ⟨_, rfl, rfl⟩
  · have hn : ¬ PT w X (N - m) ∈ ptR w X (N - m) := fun h => by
      have := (ptR_mem R (by omega)).mp h
      omega
    rw [decide_eq_false hn]
    have rb := R.big
    refine .inr ⟨_, rfl, .inl ⟨_, m - 1, .inl (b1_round h3 hn (by omega)), by omega, by omega, ?_⟩⟩
    congr 1
    omega
theorem fuel_mill {m : Nat} (h : m ≤ 1000000) : m < wfuel := by
  have : 1000000 < wfuel := by decide
  omega
theorem f_come_round (R : Rnd w X N b) (h : Wf w X) : m_come_round none [encS w X] = .ret (.imm (rndD N b)) none := by
  have h1 := h.w1
  have h3 := h.w3
  have lk : dLook ((ptR w X N).map encT) (natD N) (encT (PT w X N)) = some (.int (b : Int)) := by
    rw [R.eq]
    exact look_pt R (fun i hi => List.mem_range.mp hi) (List.mem_range.mpr R.lt)
  have q := loop_round R h3 (F := wfuel) (fuel_mill R.big)
  have lt := R.lt
  unfold m_come_round b_come_round
  walk_at "ev"
  rw [need_ok h]
  walk_at "ev"
  rw [f_table_of h]
  walk_at "ev"
  rw [ix0]
  walk_at "ev"
  rw [f_table_nil h1 h3]
  walk_at "ev"
  rw [show [Slot.imm (encS w X), .imm (encT (tableA w X)), .imm (encT (tableA w [])), .own (.dcn [] [])] = rEnv w X 0 from rfl, q]
  unfold rEnv r1_come_round
  walk_at "ev"
  rw [kok_encT, lk]
  walk_at "ev"
  rw [kok_encT, lk]
  walk_at "ev"
  rw [List.length_map, ptR_len]
  unfold rndD
  rw [show ((N : Int) - b) = ((N - b : Nat) : Int) by omega]
/-! the law's powers -/
def lpEnv (w : Nat) (X : Cols) (times n : Nat) (s4 : Slot) : Env := [.imm (.int (w : Int)), .imm (encT (tableA w X)), .imm (.int (times : Int)), .own (.lst ((ptR w X (n + 1)).map encT)), s4]
theorem at_last {l : List Tab} {t : Tab} : ixD2 (.lst ((l ++ [t]).map encT)) (.int (-1)) = some (.imm (encT t)) := by
  have e : atI ((l ++ [t]).map encT) (-1) = some (encT t) := by
    unfold atI ixN
    rw [if_neg (by omega), List.length_map, List.length_append, List.length_singleton, if_pos (by omega)]
    show ((l ++ [t]).map encT)[(-1 + ((l.length + 1 : Nat) : Int)).toNat]? = _
    have : (-1 + ((l.length + 1 : Nat) : Int)).toNat = l.length := by omega
    rw [this, List.getElem?_map, List.getElem?_append_right (Nat.le_refl _), Nat.sub_self]
    rfl
  walk_at "ev"
  rw [e]
  walk_at "ev"
theorem any_encT (sn : List Tab) (s : Tab) : ((sn.map encT).any fun z => D.eqv z (encT s)) = decide (s ∈ sn) := by
  induction sn with
  | nil => rfl
  | cons t sn ih =>
    rw [List.map_cons, List.any_cons, ih]
    by_cases h : t = s
    · subst h; rw [eqvT_iff.mpr rfl]; simp
    · have e : D.eqv (encT t) (encT s) = false := Bool.eq_false_iff.mpr fun z => h (eqvT_iff.mp z)
      have h' : ¬ s = t := fun z => h z.symm
      rw [e]
      simp [h']
theorem deps_encT (h3 : w ≤ 3) (n : Nat) : D.deps ((ptR w X n).map encT) ≤ 60 := deps_le fun d hd => by
  obtain ⟨t, ht, rfl⟩ := List.mem_map.mp hd
  obtain ⟨i, _, rfl⟩ := List.mem_map.mp ht
  have := (encT_dat (L := 10) (n := 3) (PT_ok (w := w) (X := X) i) h3 (by omega) (by omega)).dep_le
  omega
theorem dep_encT (h3 : w ≤ 3) (n : Nat) : (encT (PT w X n)).dep ≤ 60 := by
  have := (encT_dat (L := 10) (n := 3) (PT_ok (w := w) (X := X) n) h3 (by omega) (by omega)).dep_le
  omega
end

/-! r3: the law's powers -/
section
variable {w N b : Nat} {X : Cols}
theorem times_pt (h3 : w ≤ 3) (n : Nat) : m_law_times none [encT (PT w X n), encT (tableA w X)] = .ret (.imm (encT (PT w X (n + 1)))) none := by
  rw [f_times (PT_ok n) table_ok h3, ← PT_succ]
theorem at_pt {i n : Nat} (h : i < n) : atI ((ptR w X n).map encT) (i : Int) = some (encT (PT w X i)) := by
  obtain ⟨x, ex, gx, _⟩ := atI_nat (xs := (ptR w X n).map encT) (i := (i : Int)) (by omega) (by rw [List.length_map, ptR_len]; omega)
  rw [ex]
  rw [List.getElem?_map, Int.toNat_natCast] at gx
  have : (ptR w X n)[i]? = some (PT w X i) := by
    unfold ptR
    rw [List.getElem?_map, List.getElem?_eq_getElem (by simpa using h)]
    simp
  rw [this] at gx
  rw [← Option.some.inj gx]
theorem ix_pt (R : Rnd w X N b) : ∀ {l : List Nat}, l.Pairwise (· < ·) → (∀ i ∈ l, i < N) → b ∈ l → ∃ j, ixOf ((l.map (PT w X)).map encT) (encT (PT w X b)) = some j ∧ l[j]? = some b
  | [], _, _, h => nomatch h
  | i :: l, hp, hl, h => by
    show ∃ j, (if D.eqv (encT (PT w X i)) (encT (PT w X b)) = true then some 0 else (ixOf ((l.map (PT w X)).map encT) (encT (PT w X b))).map (· + 1)) = some j ∧ _
    by_cases e : PT w X i = PT w X b
    · rw [if_pos (eqvT_iff.mpr e)]
      have hi := hl i (by simp)
      have : i = b := by
        rcases Nat.lt_trichotomy i b with q | q | q
        · exact (R.ne i b q R.lt e).elim
        · exact q
        · exact (R.ne b i q hi e.symm).elim
      exact ⟨0, rfl, by rw [this]; rfl⟩
    · rw [if_neg fun z => e (eqvT_iff.mp z)]
      rcases List.mem_cons.mp h with rfl | h
      · exact (e rfl).elim
      · obtain ⟨j, h1, h2⟩ := ix_pt R (List.pairwise_cons.mp hp).2 (fun k hk => hl k (by simp [hk])) h
        exact ⟨j + 1, by rw [h1]; rfl, by simpa using h2⟩
theorem ix_N (R : Rnd w X N b) : ixOf ((ptR w X N).map encT) (encT (PT w X N)) = some b := by
  rw [R.eq]
  obtain ⟨j, h1, h2⟩ := ix_pt R (l := List.range N) List.pairwise_lt_range (fun i hi => List.mem_range.mp hi) (List.mem_range.mpr R.lt)
  have : j = b := by
    rw [List.getElem?_eq_some_iff] at h2
    obtain ⟨hj, e⟩ := h2
    simpa using e
  rw [← this] at h1 ⊢
  exact h1
theorem last_pt (n : Nat) : ixD2 (.lst ((ptR w X (n + 1)).map encT)) (.int (-1)) = some (.imm (encT (PT w X n))) := by
  rw [ptR_succ]
  exact at_last
theorem t_lp (h3 : w ≤ 3) {times n : Nat} {s4 : Slot} : (bT (e2 (inG2 true) (eCall 2 m_law_times (aCons (e2 ixD2 (eV 3) (e1 negG (eC (.int 1)))) (aCons (eV 1) aNil))) (eV 3))) (lpEnv w X times n s4) = .ok (!decide (PT w X (n + 1) ∈ ptR w X (n + 1))) (lpEnv w X times n s4) := by
  have la := last_pt (w := w) (X := X) n
  unfold lpEnv
  have la2 : atI ((ptR w X (n + 1)).map encT) (-1) = some (encT (PT w X n)) := by
    have : ixD2 (.lst ((ptR w X (n + 1)).map encT)) (.int (-1)) = oO (atI ((ptR w X (n + 1)).map encT) (-1)) fun d => some (.imm d) := by walk_at "ev"
    rw [this] at la
    cases q : atI ((ptR w X (n + 1)).map encT) (-1) with
    | none => rw [q] at la; cases la
    | some d => rw [q] at la; cases la; rfl
  walk_at "ev"
  rw [la2]
  walk_at "ev"
  rw [times_pt h3]
  walk_at "ev"
  rw [decide_eq_true (show (encT (PT w X (n + 1))).dep ≤ 64 from by have := dep_encT (w := w) (X := X) h3 (n + 1); omega), decide_eq_true (deps_encT (w := w) (X := X) h3 (n + 1)), any_encT]
  walk_at "ev"
theorem b1_lp (h3 : w ≤ 3) {times n : Nat} {s4 : Slot} (hn : n ≤ 1000000) : b1_law_power (lpEnv w X times n s4) = .nx (lpEnv w X times (n + 1) s4) := by
  have sl : ((ptR w X (n + 1)).map encT).length < sizeLine := by rw [List.length_map, ptR_len, sizeLine_eq]; omega
  have la := last_pt (w := w) (X := X) n
  have la2 : atI ((ptR w X (n + 1)).map encT) (-1) = some (encT (PT w X n)) := by
    have : ixD2 (.lst ((ptR w X (n + 1)).map encT)) (.int (-1)) = oO (atI ((ptR w X (n + 1)).map encT) (-1)) fun d => some (.imm d) := by walk_at "ev"
    rw [this] at la
    cases q : atI ((ptR w X (n + 1)).map encT) (-1) with
    | none => rw [q] at la; cases la
    | some d => rw [q] at la; cases la; rfl
  unfold b1_law_power lpEnv
  walk_at "ev"
  rw [la2]
  walk_at "ev"
  rw [times_pt h3]
  walk_at "ev"
  rw [decide_eq_true sl]
  walk_at "ev"
  rw [ptR_succ (n + 1), List.map_append]
  rfl
theorem loop_lp (R : Rnd w X N b) (h3 : w ≤ 3) {times F : Nat} {s4 : Slot} (hF : N < F) : whileD (bT (e2 (inG2 true) (eCall 2 m_law_times (aCons (e2 ixD2 (eV 3) (e1 negG (eC (.int 1)))) (aCons (eV 1) aNil))) (eV 3))) b1_law_power F (lpEnv w X times 0 s4) = .nx (lpEnv w X times (N - 1) s4) := by
  have lt := R.lt
  refine whileD_run (t := bT (e2 (inG2 true) (eCall 2 m_law_times (aCons (e2 ixD2 (eV 3) (e1 negG (eC (.int 1)))) (aCons (eV 1) aNil))) (eV 3))) (b := b1_law_power) (I := fun m ρ => m ≤ N - 1 ∧ ρ = lpEnv w X times (N - 1 - m) s4) (R := fun o => o = .nx (lpEnv w X times (N - 1) s4)) ?_ F (m := N - 1) (by omega) ⟨Nat.le_refl _, by rw [Nat.sub_self]⟩
  rintro m ρ ⟨hm, rfl⟩
  rw [t_lp h3]
  by_cases z : m = 0
  · subst z
    rw [Nat.sub_zero, show N - 1 + 1 = N by omega, decide_eq_true ((ptR_mem R (Nat.le_refl _)).mpr rfl)]
    exact .inl ⟨_, rfl, rfl⟩
  · have hn : ¬ PT w X (N - 1 - m + 1) ∈ ptR w X (N - 1 - m + 1) := fun h => by
      have := (ptR_mem R (by omega)).mp h
      omega
    rw [decide_eq_false hn]
    have rb := R.big
    refine .inr ⟨_, rfl, .inl ⟨_, m - 1, .inl (b1_lp h3 (by omega)), by omega, by omega, ?_⟩⟩
    congr 1
    omega
theorem f_law_power (R : Rnd w X N b) (h1 : 1 ≤ w) (h3 : w ≤ 3) (t : Nat) : m_law_power none [.int (w : Int), encT (tableA w X), .int (t : Int)] = .ret (.imm (.tup [encT (PT w X t), rndD N b])) none := by
  have lt := R.lt
  have rb := R.big
  have q := loop_lp R h3 (times := t) (F := wfuel) (s4 := .non) (fuel_mill R.big)
  have la := last_pt (w := w) (X := X) (N - 1)
  rw [show N - 1 + 1 = N by omega] at la
  have la2 : atI ((ptR w X N).map encT) (-1) = some (encT (PT w X (N - 1))) := by
    have : ixD2 (.lst ((ptR w X N).map encT)) (.int (-1)) = oO (atI ((ptR w X N).map encT) (-1)) fun d => some (.imm d) := by walk_at "ev"
    rw [this] at la
    cases q : atI ((ptR w X N).map encT) (-1) with
    | none => rw [q] at la; cases la
    | some d => rw [q] at la; cases la; rfl
  have tp := times_pt (w := w) (X := X) h3 (N - 1)
  rw [show N - 1 + 1 = N by omega] at tp
  have eS : D.tup [.int (w : Int), .tup []] = encS w [] := rfl
  unfold m_law_power b_law_power
  walk_at "ev"
  rw [eS, f_law_table (wf_nil h1 h3)]
  walk_at "ev"
  rw [show [Slot.imm (D.int (w : Int)), .imm (encT (tableA w X)), .imm (.int (t : Int)), .own (.lst [encT (tableA w [])]), .non] = lpEnv w X t 0 .non from rfl, q]
  unfold lpEnv r1_law_power
  rw [show N - 1 + 1 = N by omega]
  walk_at "ev"
  rw [la2]
  walk_at "ev"
  rw [tp]
  walk_at "ev"
  rw [decide_eq_true (show D.deps ((ptR w X N).map encT) ≤ 60 ∧ (encT (PT w X N)).dep ≤ 60 from ⟨deps_encT h3 N, dep_encT h3 N⟩), ix_N R]
  rw [Option.map_some]
  walk_at "ev"
  rw [List.length_map, ptR_len]
  have eD : D.tup [.int (b : Int), .int ((N : Int) - b)] = rndD N b := by
    unfold rndD
    rw [show ((N : Int) - b) = ((N - b : Nat) : Int) by omega]
  by_cases z : t < N
  · rw [decide_eq_true (show (t : Int) < (N : Int) by omega)]
    walk_at "ev"
    rw [at_pt z]
    walk_at "ev"
    rw [List.length_map, ptR_len, eD]
  · rw [decide_eq_false (show ¬ (t : Int) < (N : Int) by omega)]
    walk_at "ev"
    rw [List.length_map, ptR_len]
    have hm : ((t : Int) - b).fmod ((N : Int) - b) = (((t - b) % (N - b) : Nat) : Int) := by
      rw [show (t : Int) - b = ((t - b : Nat) : Int) by omega, show (N : Int) - b = ((N - b : Nat) : Int) by omega, Int.fmod_eq_emod_of_nonneg _ (by omega)]
      rfl
    have hlt : (t - b) % (N - b) < N - b := Nat.mod_lt _ (by omega)
    rw [decide_eq_false (show ¬ ((N : Int) - b) = 0 by omega)]
    walk_at "ev"
    rw [hm, show (b : Int) + (((t - b) % (N - b) : Nat) : Int) = ((b + (t - b) % (N - b) : Nat) : Int) by omega, at_pt (by omega)]
    walk_at "ev"
    rw [List.length_map, ptR_len, eD, ← PT_far lt R.eq t (by omega)]
end

/-! k22: the law -/
section
variable {s0 s1 s2 s3 s4 s5 s6 s7 s8 s9 s10 s11 s12 s13 s14 s15 : Slot}
theorem b3_1_12 : forS (gN 12) b3_law (.fn 12) [s0, s1, s2, .imm (.int 1), s4, s5, s6, s7, s8, s9, s10, s11, s12, s13, s14, s15, .non] =
    .nx [s0, s1, s2, .imm (.int 1), s4, s5, s6, s7, s8, .imm (.tup [.str [117]]), s10, s11, .imm (.fn 12), .imm (.tup [.tup [.str [117]], .int 1]), .own (.lst [.non, .tup [.int 1, .lst [.tup [.tup [.str [117]], .int 1]]], .tup [.int 1, .tup [.tup [.tup [.str [117]], .int 1], .tup [.tup [.str [117]], .int 1], .tup [.tup [.str [117]], .int 1], .tup [.tup [.str [117]], .int 1], .tup [.tup [.str [117]], .int 1]]], .tup [.int 4, .tup []], .tup [.int 1, .tup [.tup [.tup [.str [117]], .int 0]]], .tup [.int 1, .tup [.tup [.tup [], .int 2]]], .tup [.int 1, .tup [.tup [.tup [.str [117], .str [117], .str [117], .str [117], .str [117], .str [117], .str [117]], .int 1]]]]), .imm (.tup [.int 0, .tup []]), .non] := by kernel_rfl
theorem b3_1_2 : forS (gN 12) b3_law (.fn 2) [s0, s1, s2, .imm (.int 1), s4, s5, s6, s7, s8, s9, s10, s11, s12, s13, s14, s15, .non] =
    .nx [s0, s1, s2, .imm (.int 1), s4, s5, s6, s7, s8, .imm (.tup [.str [117]]), s10, s11, .imm (.fn 2), .imm (.tup [.tup [.str [117]], .int 1]), .own (.lst [.non, .tup [.int 1, .lst [.tup [.tup [.str [117]], .int 1]]], .tup [.int 1, .tup [.tup [.tup [.str [117]], .int 1], .tup [.tup [.str [117]], .int 1], .tup [.tup [.str [117]], .int 1], .tup [.tup [.str [117]], .int 1], .tup [.tup [.str [117]], .int 1]]], .tup [.int 4, .tup []], .tup [.int 1, .tup [.tup [.tup [.str [117]], .int 0]]], .tup [.int 1, .tup [.tup [.tup [], .int 2]]], .tup [.int 1, .tup [.tup [.tup [.str [117], .str [117], .str [117], .str [117], .str [117], .str [117], .str [117]], .int 1]]]]), .imm (.tup [.int 0, .tup []]), .non] := by kernel_rfl
theorem b3_2_12 : forS (gN 12) b3_law (.fn 12) [s0, s1, s2, .imm (.int 2), s4, s5, s6, s7, s8, s9, s10, s11, s12, s13, s14, s15, .non] =
    .nx [s0, s1, s2, .imm (.int 2), s4, s5, s6, s7, s8, .imm (.tup [.str [117, 117]]), s10, s11, .imm (.fn 12), .imm (.tup [.tup [.str [117, 117]], .int 1]), .own (.lst [.non, .tup [.int 2, .lst [.tup [.tup [.str [117, 117]], .int 1]]], .tup [.int 2, .tup [.tup [.tup [.str [117, 117]], .int 1], .tup [.tup [.str [117, 117]], .int 1], .tup [.tup [.str [117, 117]], .int 1], .tup [.tup [.str [117, 117]], .int 1], .tup [.tup [.str [117, 117]], .int 1]]], .tup [.int 4, .tup []], .tup [.int 2, .tup [.tup [.tup [.str [117, 117]], .int 0]]], .tup [.int 2, .tup [.tup [.tup [], .int 2]]], .tup [.int 2, .tup [.tup [.tup [.str [117, 117], .str [117, 117], .str [117, 117], .str [117, 117], .str [117, 117], .str [117, 117], .str [117, 117]], .int 1]]]]), .imm (.tup [.int 0, .tup []]), .non] := by kernel_rfl
theorem b3_2_2 : forS (gN 12) b3_law (.fn 2) [s0, s1, s2, .imm (.int 2), s4, s5, s6, s7, s8, s9, s10, s11, s12, s13, s14, s15, .non] =
    .nx [s0, s1, s2, .imm (.int 2), s4, s5, s6, s7, s8, .imm (.tup [.str [117, 117]]), s10, s11, .imm (.fn 2), .imm (.tup [.tup [.str [117, 117]], .int 1]), .own (.lst [.non, .tup [.int 2, .lst [.tup [.tup [.str [117, 117]], .int 1]]], .tup [.int 2, .tup [.tup [.tup [.str [117, 117]], .int 1], .tup [.tup [.str [117, 117]], .int 1], .tup [.tup [.str [117, 117]], .int 1], .tup [.tup [.str [117, 117]], .int 1], .tup [.tup [.str [117, 117]], .int 1]]], .tup [.int 4, .tup []], .tup [.int 2, .tup [.tup [.tup [.str [117, 117]], .int 0]]], .tup [.int 2, .tup [.tup [.tup [], .int 2]]], .tup [.int 2, .tup [.tup [.tup [.str [117, 117], .str [117, 117], .str [117, 117], .str [117, 117], .str [117, 117], .str [117, 117], .str [117, 117]], .int 1]]]]), .imm (.tup [.int 0, .tup []]), .non] := by kernel_rfl
theorem b3_3_12 : forS (gN 12) b3_law (.fn 12) [s0, s1, s2, .imm (.int 3), s4, s5, s6, s7, s8, s9, s10, s11, s12, s13, s14, s15, .non] =
    .nx [s0, s1, s2, .imm (.int 3), s4, s5, s6, s7, s8, .imm (.tup [.str [117, 117, 117]]), s10, s11, .imm (.fn 12), .imm (.tup [.tup [.str [117, 117, 117]], .int 1]), .own (.lst [.non, .tup [.int 3, .lst [.tup [.tup [.str [117, 117, 117]], .int 1]]], .tup [.int 3, .tup [.tup [.tup [.str [117, 117, 117]], .int 1], .tup [.tup [.str [117, 117, 117]], .int 1], .tup [.tup [.str [117, 117, 117]], .int 1], .tup [.tup [.str [117, 117, 117]], .int 1], .tup [.tup [.str [117, 117, 117]], .int 1]]], .tup [.int 4, .tup []], .tup [.int 3, .tup [.tup [.tup [.str [117, 117, 117]], .int 0]]], .tup [.int 3, .tup [.tup [.tup [], .int 2]]], .tup [.int 3, .tup [.tup [.tup [.str [117, 117, 117], .str [117, 117, 117], .str [117, 117, 117], .str [117, 117, 117], .str [117, 117, 117], .str [117, 117, 117], .str [117, 117, 117]], .int 1]]]]), .imm (.tup [.int 0, .tup []]), .non] := by kernel_rfl
theorem b3_3_2 : forS (gN 12) b3_law (.fn 2) [s0, s1, s2, .imm (.int 3), s4, s5, s6, s7, s8, s9, s10, s11, s12, s13, s14, s15, .non] =
    .nx [s0, s1, s2, .imm (.int 3), s4, s5, s6, s7, s8, .imm (.tup [.str [117, 117, 117]]), s10, s11, .imm (.fn 2), .imm (.tup [.tup [.str [117, 117, 117]], .int 1]), .own (.lst [.non, .tup [.int 3, .lst [.tup [.tup [.str [117, 117, 117]], .int 1]]], .tup [.int 3, .tup [.tup [.tup [.str [117, 117, 117]], .int 1], .tup [.tup [.str [117, 117, 117]], .int 1], .tup [.tup [.str [117, 117, 117]], .int 1], .tup [.tup [.str [117, 117, 117]], .int 1], .tup [.tup [.str [117, 117, 117]], .int 1]]], .tup [.int 4, .tup []], .tup [.int 3, .tup [.tup [.tup [.str [117, 117, 117]], .int 0]]], .tup [.int 3, .tup [.tup [.tup [], .int 2]]], .tup [.int 3, .tup [.tup [.tup [.str [117, 117, 117], .str [117, 117, 117], .str [117, 117, 117], .str [117, 117, 117], .str [117, 117, 117], .str [117, 117, 117], .str [117, 117, 117]], .int 1]]]]), .imm (.tup [.int 0, .tup []]), .non] := by kernel_rfl
theorem b3_ok {w : Nat} (h1 : 1 ≤ w) (h3 : w ≤ 3) : ∃ s9' s12' s13' s14' s15', forD (gN 12) b3_law [.fn 12, .fn 2] [s0, s1, s2, .imm (.int (w : Int)), s4, s5, s6, s7, s8, s9, s10, s11, s12, s13, s14, s15, .non] =
    .nx [s0, s1, s2, .imm (.int (w : Int)), s4, s5, s6, s7, s8, s9', s10, s11, s12', s13', s14', s15', .non] := by
  have hw : w = 1 ∨ w = 2 ∨ w = 3 := by omega
  rcases hw with rfl | rfl | rfl
  · rw [forD_cons, show ((1 : Nat) : Int) = 1 from rfl, b3_1_12]
    walk_at "ev"
    rw [b3_1_2]
    walk_at "ev"
    exact ⟨_, _, _, _, _, rfl⟩
  · rw [forD_cons, show ((2 : Nat) : Int) = 2 from rfl, b3_2_12]
    walk_at "ev"
    rw [b3_2_2]
    walk_at "ev"
    exact ⟨_, _, _, _, _, rfl⟩
  · rw [forD_cons, show ((3 : Nat) : Int) = 3 from rfl, b3_3_12]
    walk_at "ev"
    rw [b3_3_2]
    walk_at "ev"
    exact ⟨_, _, _, _, _, rfl⟩
theorem r1_ok : r1_law [s0, s1, s2, s3, s4, s5, s6, s7, s8, s9, s10, s11, s12, s13, s14, s15, .non] = .nx [s0, s1, s2, s3, s4, s5, s6, s7, s8, s9, s10, s11, s12, s13, s14, s15, .non] := by kernel_rfl
theorem r3_ok : (r3_law [s0, s1, s2, s3, s4, s5, s6, s7, s8, s9, s10, s11, s12, s13, s14, s15, .non]).res? = some (.imm (.bl true)) := by kernel_rfl
end
section
variable {w : Nat}
theorem mulC {cs : Cols} {k : Nat} (hne : cs ≠ []) (hl : cs.length ≤ 6) (k1 : 1 ≤ k) (k9 : k ≤ 9) : mulG3 (encC cs) (.int (k : Int)) = some (.imm (encC (repC k cs))) := by
  have hl2 : (cs.map D.str).length ≤ 1000 := by rw [List.length_map]; omega
  have ne : ¬ (cs.map D.str) = [] := fun e => hne (by simpa using e)
  have e : repT (k : Int) (cs.map .str) = (repC k cs).map .str := by
    unfold repT repC
    rw [Int.toNat_natCast, List.map_flatten, List.map_replicate]
  unfold encC
  rw [mul3_tup]
  by_cases z : k = 1
  · subst z
    rw [decide_eq_true (by refine ⟨by decide, by decide, .inr rfl⟩)]
    walk_at "ev"
    rw [repC_one]
  · rw [decide_eq_false (by
      rintro ⟨_, _, h | h⟩
      · exact ne h
      · omega), decide_eq_false (by omega)]
    walk_at "ev"
    rw [decide_eq_true (show ¬ (cs.map D.str) = [] ∧ 2 ≤ (k : Int) ∧ (k : Int) ≤ 1000 ∧ (cs.map D.str).length ≤ 1000 from ⟨ne, by omega, by omega, hl2⟩)]
    walk_at "ev"
    rw [e]
structure LawI (w : Nat) (ps : List (Cols × Nat)) (cols : Cols) : Prop where
  pl : ps.length ≤ 4
  ok : ∀ p ∈ ps, WordOk w p
  cl : cols.length ≤ 54 * ps.length
  le : cols.length ≤ longN ps
  eq : cols.length = longN ps → cols = allC ps
  col : ∀ c ∈ cols, ColP w c
theorem repC_len (n : Nat) (X : Cols) : (repC n X).length = n * X.length := by simp [repC]
theorem repC_mem {n : Nat} {X : Cols} {c : List Nat} (h : c ∈ repC n X) : c ∈ X := by
  unfold repC at h
  obtain ⟨l, h1, h2⟩ := List.mem_flatten.mp h
  rw [(List.mem_replicate.mp h1).2] at h2
  exact h2
theorem LawI.step {ps : List (Cols × Nat)} {cols : Cols} (h : LawI w ps cols) (hp : ps.length ≤ 3) {p : Cols × Nat} (ok : WordOk w p) : LawI w (ps ++ [p]) (cols ++ repC (min p.2 9) p.1) where
  pl := by simp; omega
  ok := fun q hq => by
    rcases List.mem_append.mp hq with hq | hq
    · exact h.ok q hq
    · rw [List.mem_singleton] at hq; subst hq; exact ok
  cl := by
    have h1 := h.cl
    have h2 := ok.len
    have : (repC (min p.2 9) p.1).length ≤ 9 * 6 := by
      rw [repC_len]
      exact Nat.mul_le_mul (Nat.min_le_right _ _) h2
    rw [List.length_append, List.length_append, List.length_singleton]
    omega
  le := by
    have h1 := h.le
    have : (repC (min p.2 9) p.1).length ≤ p.1.length * p.2 := by
      rw [repC_len, Nat.mul_comm]
      exact Nat.mul_le_mul (Nat.le_refl _) (Nat.min_le_left _ _)
    have e : longN (ps ++ [p]) = longN ps + p.1.length * p.2 := by simp [longN]
    rw [e, List.length_append]
    omega
  eq := fun q => by
    have h1 := h.le
    have ne : 0 < p.1.length := List.length_pos_iff.mpr ok.ne
    have e : longN (ps ++ [p]) = longN ps + p.1.length * p.2 := by simp [longN]
    have hle : (repC (min p.2 9) p.1).length ≤ p.1.length * p.2 := by
      rw [repC_len, Nat.mul_comm]
      exact Nat.mul_le_mul (Nat.le_refl _) (Nat.min_le_left _ _)
    rw [e, List.length_append] at q
    have q1 : cols.length = longN ps := by omega
    have q2 : (repC (min p.2 9) p.1).length = p.1.length * p.2 := by omega
    rw [repC_len, Nat.mul_comm] at q2
    have q3 : min p.2 9 = p.2 := Nat.eq_of_mul_eq_mul_left ne q2
    rw [h.eq q1, q3]
    simp [allC]
  col := fun c hc => by
    rcases List.mem_append.mp hc with hc | hc
    · exact h.col c hc
    · exact ok.col c (repC_mem hc)
theorem allC_snoc {ps : List (Cols × Nat)} {p : Cols × Nat} : allC (ps ++ [p]) = allC ps ++ repC p.2 p.1 := by simp [allC]
theorem longN_snoc {ps : List (Cols × Nat)} {p : Cols × Nat} : longN (ps ++ [p]) = longN ps + p.1.length * p.2 := by simp [longN]
def wEnv22 (s0 s1 : Slot) (m : M) (w : Nat) (ps : List (Cols × Nat)) (cols : Cols) (s8 s9 s10 s11 s12 s13 s14 s15 : Slot) : Env :=
  [s0, s1, .own m, .imm (.int (w : Int)), .imm (.tup (ps.map encW)), .imm (encT (tableA w (allC ps))), .imm (.int ((longN ps : Nat) : Int)), .imm (encC cols), s8, s9, s10, s11, s12, s13, s14, s15, .non]
theorem b2_ok (h1 : 1 ≤ w) (h3 : w ≤ 3) {m : M} (hm : Src m) {ps : List (Cols × Nat)} {cols : Cols} (hI : LawI w ps cols) (hp : ps.length ≤ 3) {d : D} {s0 s1 s8 s9 s10 s11 s12 s13 s14 s15 : Slot} :
    ∃ m' p s9' s10', Src m' ∧ WordOk w p ∧ forS (gN 8) b2_law d (wEnv22 s0 s1 m w ps cols s8 s9 s10 s11 s12 s13 s14 s15) = .nx (wEnv22 s0 s1 m' w (ps ++ [p]) (cols ++ repC (min p.2 9) p.1) (.imm d) s9' s10' s11 s12 s13 s14 s15) := by
  obtain ⟨r, m1, q1, hm1, hr1, hr2⟩ := pick_ok hm (n := 6) (by omega) (by omega)
  have hr : -4611686018427387904 ≤ 1 + r ∧ 1 + r < 4611686018427387904 := by omega
  have hz : (1 + r).toNat ≤ sizeLine := big_le (by omega)
  rw [forS_ev]
  unfold b2_law wEnv22
  walk_at "ev"
  rw [q1]
  walk_at "ev"
  rw [decide_eq_true hr]
  walk_at "ev"
  rw [decide_eq_true hz]
  walk_at "ev"
  generalize hf : lcD _ _ _ _ _ _ = o
  obtain ⟨ys, ρ', rfl, ⟨m2, rfl, hm2⟩, hl, hy⟩ := lcD_elQ hf (fun ρ => ∃ m, ρ = [s0, s1, .own m, .imm (.int (w : Int)), .imm (.tup (ps.map encW)), .imm (encT (tableA w (allC ps))), .imm (.int ((longN ps : Nat) : Int)), .imm (encC cols), .imm d, s9, s10, s11, s12, s13, s14, s15, .non] ∧ Src m) (fun y => ∃ c : List Nat, y = .str c ∧ ColP w c) ⟨_, rfl, hm1⟩ (by
    rintro d2 _ ρ ⟨m, rfl, hm⟩
    rw [lcS_ev]
    walk_at "ev"
    obtain ⟨c, m1, q1, hm1, hl, hP⟩ := column_ok hm (w := (w : Int)) (by omega) (by omega)
    rw [q1]
    walk_at "ev"
    exact ⟨_, _, rfl, ⟨_, rfl, hm1⟩, c, rfl, by omega, hP⟩)
  obtain ⟨cs, rfl, hcl, hcs⟩ := encs_of hy
  rw [rng_len] at hl
  have hc0 : cs.length = (1 + r).toNat := by rw [hcl, hl]
  have hc6 : cs.length ≤ 6 := by omega
  have hne : cs ≠ [] := fun e => by
    rw [e, List.length_nil] at hc0
    omega
  obtain ⟨r2, m3, q3, hm3, hr3, hr4⟩ := pick_ok hm2 (n := 99) (by omega) (by omega)
  walk_at "ev"
  rw [q3]
  walk_at "ev"
  obtain ⟨x, m4, q4, hm4, hx⟩ := chosen_ok hm3 (d := .lst [.int 1, .int 2, .int 3, .int 5, .int 1000000000000000000000000000000, .int (100000000000000000000000000000 + r2), .int 1]) (.inr rfl) (by simp) (by simp)
  have hx2 : ∃ n : Nat, x = .int (n : Int) ∧ 1 ≤ n ∧ n ≤ 1000000000000000000000000000000 := by
    simp only [List.mem_cons, List.not_mem_nil, or_false] at hx
    rcases hx with rfl | rfl | rfl | rfl | rfl | rfl | rfl
    · exact ⟨1, rfl, by omega, by omega⟩
    · exact ⟨2, rfl, by omega, by omega⟩
    · exact ⟨3, rfl, by omega, by omega⟩
    · exact ⟨5, rfl, by omega, by omega⟩
    · exact ⟨1000000000000000000000000000000, rfl, by omega, by omega⟩
    · exact ⟨(100000000000000000000000000000 + r2).toNat, by rw [Int.toNat_of_nonneg (by omega)], by omega, by omega⟩
    · exact ⟨1, rfl, by omega, by omega⟩
  obtain ⟨n, rfl, hn1, hn2⟩ := hx2
  have wo : WordOk w (cs, n) := ⟨hne, hc6, hcs, hn1, hn2⟩
  have hwf := word_wf h1 h3 wo
  obtain ⟨N, b, R⟩ := rnd_of h3 cs
  have pw := f_law_power R h1 h3 n
  have tm : m_law_times none [encT (tableA w (allC ps)), encT (PT w cs n)] = .ret (.imm (encT (tableA w (allC (ps ++ [(cs, n)]))))) none := by
    rw [f_times table_ok (PT_ok n) h3]
    unfold PT
    rw [table_two, allC_snoc]
  have eCc : D.tup (cs.map .str) = encC cs := rfl
  have eS : D.tup [.int (w : Int), encC cs] = encS w cs := rfl
  have hl2 : lenG [encC cs] = some (.imm (.int (cs.length : Int))) := by
    unfold encC
    walk_at "ev"
    rw [List.length_map]
  rw [q4, eCc]
  walk_at "ev"
  rw [decide_eq_true (show ((ps.map encW).length + 1 ≤ sizeLine) from big_le (by rw [List.length_map]; omega))]
  walk_at "ev"
  rw [hl2]
  walk_at "ev"
  rw [decide_eq_true (show (-18446744073709551616 < (cs.length : Int) ∧ (cs.length : Int) < 18446744073709551616 ∨ -18446744073709551616 < (n : Int) ∧ (n : Int) < 18446744073709551616) from .inl (by omega))]
  walk_at "ev"
  rw [eS, f_law_table hwf]
  walk_at "ev"
  rw [pw]
  walk_at "ev"
  rw [tm]
  walk_at "ev"
  have cl := hI.cl
  have hmin : (if (9 : Int) < (n : Int) then (9 : Int) else (n : Int)) = ((min n 9 : Nat) : Int) := by
    split <;> omega
  rw [hmin, mulC hne hc6 (by omega) (by omega)]
  walk_at "ev"
  rw [lenC_add (by rw [repC_len]; have : min n 9 * cs.length ≤ 9 * 6 := Nat.mul_le_mul (by omega) hc6; omega)]
  walk_at "ev"
  have e1 : ps.map encW ++ [D.tup [encC cs, .int (n : Int)]] = (ps ++ [(cs, n)]).map encW := by rw [List.map_append]; rfl
  have e2 : ((longN ps : Nat) : Int) + (cs.length : Int) * (n : Int) = ((longN (ps ++ [(cs, n)]) : Nat) : Int) := by
    rw [longN_snoc, Int.natCast_add, Int.natCast_mul]
  rw [e1, e2]
  exact ⟨m4, (cs, n), _, _, hm4, wo, rfl⟩
theorem r2_ok (h1 : 1 ≤ w) (h3 : w ≤ 3) {m : M} (hm : Src m) {ps : List (Cols × Nat)} {cols : Cols} (hI : LawI w ps cols) {s0 s1 s8 s9 s10 s11 s12 s13 s14 s15 : Slot} :
    ∃ m' s9' s11' s12' s13' s14' s15', Src m' ∧ r2_law (wEnv22 s0 s1 m w ps cols s8 s9 s10 s11 s12 s13 s14 s15) = .nx (wEnv22 s0 s1 m' w ps cols s8 s9' s10 s11' s12' s13' s14' s15') := by
  have hpl := hI.pl
  have cl := hI.cl
  have eP : D.tup [.int (w : Int), .tup (ps.map encW)] = encPs w ps := rfl
  have eS : ∀ X : Cols, D.tup [.int (w : Int), encC X] = encS w X := fun X => rfl
  have hwh : Wh w cols := ⟨h1, h3, by omega, fun c hc => (hI.col c hc).1, fun c hc => (hI.col c hc).2⟩
  have hl2 : lenG [encC cols] = some (.imm (.int (cols.length : Int))) := by
    unfold encC
    walk_at "ev"
    rw [List.length_map]
  obtain ⟨cs, m2, q1, hm2, hcl, hwf⟩ := strip_ok hm (W := (w : Int)) (mo := 4) (by omega) (by omega) (by omega) (by omega)
  rw [Int.toNat_natCast] at hwf
  obtain ⟨N, b, R⟩ := rnd_of h3 cs
  have cr := f_come_round R hwf
  have lp := f_law_power R h1 h3 0
  rw [show ((0 : Nat) : Int) = 0 from rfl] at lp
  have drn : (rndD N b).dep ≤ 64 := by unfold rndD; simp only [D.dep, D.deps]; omega
  have ern : D.eqv (rndD N b) (rndD N b) = true := by
    unfold rndD
    walk_at "ev"
  obtain ⟨s9', s12', s13', s14', s15', q3⟩ := b3_ok h1 h3 (s0 := s0) (s1 := s1) (s2 := .own m2) (s4 := .imm (.tup (ps.map encW))) (s5 := .imm (encT (tableA w (allC ps)))) (s6 := .imm (.int ((longN ps : Nat) : Int))) (s7 := .imm (encC cols)) (s8 := s8) (s9 := s9) (s10 := s10) (s11 := .imm (encS w cs)) (s12 := s12) (s13 := s13) (s14 := s14) (s15 := s15)
  have q4 := r1_ok (s0 := s0) (s1 := s1) (s2 := .own m2) (s3 := .imm (.int (w : Int))) (s4 := .imm (.tup (ps.map encW))) (s5 := .imm (encT (tableA w (allC ps)))) (s6 := .imm (.int ((longN ps : Nat) : Int))) (s7 := .imm (encC cols)) (s8 := s8) (s9 := s9') (s10 := s10) (s11 := .imm (encS w cs)) (s12 := s12') (s13 := s13') (s14 := s14') (s15 := s15')
  unfold r2_law wEnv22
  walk_at "ev"
  rw [eP, f_long_table h1 h3 hI.ok hpl]
  walk_at "ev"
  rw [decide_eq_true (encT_dep table_ok h3), encT_eqv table_ok h3]
  walk_at "ev"
  rw [eP, f_count h1 h3 hI.ok hpl]
  walk_at "ev"
  rw [hl2]
  walk_at "ev"
  by_cases z : (cols.length : Int) = ((longN ps : Nat) : Int)
  · rw [decide_eq_true z]
    walk_at "ev"
    have ez := hI.eq (by omega)
    rw [eS, f_law_tableH hwh]
    walk_at "ev"
    rw [ez, decide_eq_true (encT_dep table_ok h3), encT_eqv table_ok h3]
    walk_at "ev"
    rw [q1]
    walk_at "ev"
    rw [eS, cr]
    walk_at "ev"
    rw [f_law_table hwf]
    walk_at "ev"
    rw [lp]
    walk_at "ev"
    rw [decide_eq_true drn, ern]
    walk_at "ev"
    rw [ez] at q3 q4
    rw [← forD_cons, q3]
    walk_at "ev"
    rw [q4]
    exact ⟨_, _, _, _, _, _, _, hm2, rfl⟩
  · rw [decide_eq_false z]
    walk_at "ev"
    rw [q1]
    walk_at "ev"
    rw [eS, cr]
    walk_at "ev"
    rw [f_law_table hwf]
    walk_at "ev"
    rw [lp]
    walk_at "ev"
    rw [decide_eq_true drn, ern]
    walk_at "ev"
    rw [← forD_cons, q3]
    walk_at "ev"
    rw [q4]
    exact ⟨_, _, _, _, _, _, _, hm2, rfl⟩
theorem b1_ok (ns : List Int) {k : Int} (hk : 0 ≤ k) (hk2 : k < 1000) {s1 s2 s3 s4 s5 s6 s7 s8 s9 s10 s11 s12 s13 s14 s15 : Slot} :
    ∃ t2 t3 t4 t5 t6 t7 t8 t9 t10 t11 t12 t13 t14 t15, forS (gN 1) b1_law (.int k) [.imm (.seq ns), s1, s2, s3, s4, s5, s6, s7, s8, s9, s10, s11, s12, s13, s14, s15, .non] =
      .nx [.imm (.seq ns), .imm (.int k), t2, t3, t4, t5, t6, t7, t8, t9, t10, t11, t12, t13, t14, t15, .non] := by
  obtain ⟨m, q1, hm⟩ := source_ok ns k hk hk2
  obtain ⟨p, m1, q2, hm1, hp1, hp2⟩ := pick_ok hm (n := 3) (by omega) (by omega)
  obtain ⟨r, m2, q3, hm2, hr1, hr2⟩ := pick_ok hm1 (n := 5) (by omega) (by omega)
  generalize hw : (1 + p).toNat = w
  have hW : 1 + p = (w : Int) := by omega
  have h1 : 1 ≤ w := by omega
  have h3 : w ≤ 3 := by omega
  have hr : -4611686018427387904 ≤ r ∧ r < 4611686018427387904 := by omega
  have eS : D.tup [.int (w : Int), .tup []] = encS w [] := rfl
  rw [forS_ev]
  unfold b1_law
  walk_at "ev"
  rw [q1]
  walk_at "ev"
  rw [q2]
  walk_at "ev"
  rw [hW, eS, f_law_table (wf_nil h1 h3)]
  walk_at "ev"
  rw [q3]
  walk_at "ev"
  rw [decide_eq_true hr]
  walk_at "ev"
  rw [show [Slot.imm (D.seq ns), .imm (.int k), .own m2, .imm (.int (w : Int)), .imm (.tup []), .imm (encT (tableA w [])), .imm (.int 0), .imm (.tup []), s8, s9, s10, s11, s12, s13, s14, s15, .non] = wEnv22 (.imm (.seq ns)) (.imm (.int k)) m2 w [] [] s8 s9 s10 s11 s12 s13 s14 s15 from rfl]
  generalize hf : forD (gN 8) _ _ _ = o
  obtain ⟨ρ', rfl, m3, ps, cols, s8', s9', s10', hm3, hI, hpl, rfl⟩ := forD_el1 hf (fun j ρ => ∃ m ps cols s8 s9 s10, Src m ∧ LawI w ps cols ∧ ps.length = j ∧ ρ = wEnv22 (.imm (.seq ns)) (.imm (.int k)) m w ps cols s8 s9 s10 s11 s12 s13 s14 s15) ⟨m2, [], [], _, _, _, hm2, ⟨by simp, by simp, by simp, by simp, fun _ => rfl, by simp⟩, rfl, rfl⟩ (by
    rintro j d ρ hj ⟨m, ps, cols, s8, s9, s10, hm, hI, hpl, rfl⟩
    obtain ⟨hj1, rfl⟩ := rng_get hj
    obtain ⟨m', p, t9, t10, hm', wo, q⟩ := b2_ok h1 h3 hm hI (by omega) (d := .int (0 + (j : Nat))) (s0 := .imm (.seq ns)) (s1 := .imm (.int k)) (s8 := s8) (s9 := s9) (s10 := s10) (s11 := s11) (s12 := s12) (s13 := s13) (s14 := s14) (s15 := s15)
    exact ⟨_, .inl q, m', _, _, _, _, _, hm', hI.step (by omega) wo, by rw [List.length_append, List.length_singleton, hpl], rfl⟩)
  walk_at "ev"
  obtain ⟨m4, t9, t11, t12, t13, t14, t15, _, q⟩ := r2_ok h1 h3 hm3 hI (s0 := .imm (.seq ns)) (s1 := .imm (.int k)) (s8 := s8') (s9 := s9') (s10 := s10') (s11 := s11) (s12 := s12) (s13 := s13) (s14 := s14) (s15 := s15)
  rw [q]
  exact ⟨_, _, _, _, _, _, _, _, _, _, _, _, _, _, rfl⟩
end
theorem law_true : ∀ ns : List Int, ns.length ≤ 63 → m_law none [.seq ns] = .ret (.imm (.bl true)) none := by
  intro ns hns
  unfold m_law b_law
  walk_at "ev"
  generalize hN : (if (if (ns.length : Int) < 24 then (ns.length : Int) else 24) > 8 then (if (ns.length : Int) < 24 then (ns.length : Int) else 24) else 8) = N
  have hN1 : -4611686018427387904 ≤ N ∧ N < 4611686018427387904 := by
    rw [← hN]; split <;> split <;> omega
  have hN2 : 8 ≤ N ∧ N ≤ 24 := by
    rw [← hN]; split <;> split <;> omega
  rw [decide_eq_true hN1]
  walk_at "ev"
  generalize hf : forD (gN 1) _ _ _ = o
  obtain ⟨ρ', rfl, s1, s2, s3, s4, s5, s6, s7, s8, s9, s10, s11, s12, s13, s14, s15, rfl⟩ := forD_el1 hf (fun j ρ => ∃ s1 s2 s3 s4 s5 s6 s7 s8 s9 s10 s11 s12 s13 s14 s15, ρ = [.imm (.seq ns), s1, s2, s3, s4, s5, s6, s7, s8, s9, s10, s11, s12, s13, s14, s15, .non]) ⟨_, _, _, _, _, _, _, _, _, _, _, _, _, _, _, rfl⟩ (by
    rintro j d ρ hj ⟨s1, s2, s3, s4, s5, s6, s7, s8, s9, s10, s11, s12, s13, s14, s15, rfl⟩
    obtain ⟨hj1, rfl⟩ := rng_get hj
    obtain ⟨t2, t3, t4, t5, t6, t7, t8, t9, t10, t11, t12, t13, t14, t15, h⟩ := b1_ok ns (k := 0 + (j : Nat)) (by omega) (by omega) (s1 := s1) (s2 := s2) (s3 := s3) (s4 := s4) (s5 := s5) (s6 := s6) (s7 := s7) (s8 := s8) (s9 := s9) (s10 := s10) (s11 := s11) (s12 := s12) (s13 := s13) (s14 := s14) (s15 := s15)
    exact ⟨_, .inl h, _, _, _, _, _, _, _, _, _, _, _, _, _, _, _, rfl⟩)
  obtain ⟨ρ2, h⟩ := SOut.of_res (r3_ok (s0 := .imm (.seq ns)) (s1 := s1) (s2 := s2) (s3 := s3) (s4 := s4) (s5 := s5) (s6 := s6) (s7 := s7) (s8 := s8) (s9 := s9) (s10 := s10) (s11 := s11) (s12 := s12) (s13 := s13) (s14 := s14) (s15 := s15))
  walk_at "ev"
  rw [h]
  walk_at "ev"

end DL
namespace DL
open PySem PySem.Spec PyProof.Rows L2
def topS (i : Nat) : Stmt := PySem.Challenge.pw_mirrorstrips_k22_whole_strips_in_parts.main.body.getD i (.Pass ⟨0, 0, 0, 0⟩)
section
variable {G : Gm} {mg : Str → Option Value} {base : Heap}
abbrev s_is_within : Stmt := topS 26
theorem sc_is_within : FnScope ["value", "low", "high"] ["value", "low", "high"] (defScope s_is_within) := ⟨rfl, rfl, rfl, by decide +kernel, rfl, by decide +kernel, by decide +kernel⟩
theorem ok_is_within {f : Addr} {fd : FuncData} (F : Fun G.K "is_within" "is_within" s_is_within f fd) (n_bool : mg "bool" = none) (n_int : mg "int" = none) (n_isinstance : mg "isinstance" = none) : FnG G mg base 1 3 f m_is_within :=
  ⟨⟨_, ["value", "low", "high"], okD (k := 0) (np := 3) (nx := 0) F sc_is_within rfl rfl (fun B cdv A outer s H E hr => (show DSs _ _ _ _ b_is_within from (dss_one (ds_ret (dx_and (dx_isi "int" rfl rfl n_isinstance bt_isinstance rfl n_int bt_int (dx_var 0)) (dx_and (dx_not (dx_isi "bool" rfl rfl n_isinstance bt_isinstance rfl n_bool bt_bool (dx_var 0))) (dx_one (dx_chain op_le op_le leG_ok leG_ok (dx_var 1) (dx_var 0) (dx_var 2) rfl)))))))), (F.binds (ps := ["value", "low", "high"]) fun _ _ _ _ _ _ us hl => match us, hl with | [_, _, _], _ => rfl)⟩, F.kp⟩

abbrev s_is_column : Stmt := topS 27
theorem sc_is_column : FnScope ["value", "width", "signs", "sign"] ["value", "width", "signs"] (defScope s_is_column) := ⟨rfl, rfl, rfl, by decide +kernel, rfl, by decide +kernel, by decide +kernel⟩
theorem ok_is_column {f : Addr} {fd : FuncData} (F : Fun G.K "is_column" "is_column" s_is_column f fd) (n_all : mg "all" = none) (n_isinstance : mg "isinstance" = none) (n_len : mg "len" = none) (n_str : mg "str" = none) : FnG G mg base 1 3 f m_is_column :=
  ⟨⟨_, ["value", "width", "signs"], okD (k := 0) (np := 3) (nx := 1) F sc_is_column rfl rfl (fun B cdv A outer s H E hr => (show DSs _ _ _ _ b_is_column from (dss_one (ds_ret (dx_and (dx_isi "str" rfl rfl n_isinstance bt_isinstance rfl n_str bt_str (dx_var 0)) (dx_and (dx_cmp (op_eqD hr.units) eqG_ok (dx_callB call_len (lenG_ok rfl) rfl n_len bt_len (da_cons (dx_var 0) da_nil)) (dx_var 1) (nomark _)) (dx_one (dx_callB (cr_all rfl) allG_ok rfl n_all bt_all (da_cons (dx_lc (own := [("sign", 3)]) rfl sc_is_column.nd (di_seq rfl (dx_var 0)) (blkOk_by (N := ["value", "width", "signs", "sign"]) (sc := defScope s_is_column) (by decide +kernel)) (his := by decide) (fun _ _ _ _ _ => (dg_name (i := 3) sc_is_column.nd rfl (by first | exact Or.inl rfl | exact Or.inr rfl))) (fun _ _ _ _ _ => dts_nil) (fun _ _ _ _ _ => (dx_cmp (op_in2 rfl rfl rfl (ru65 hr)) (inG2_ok rfl) (dx_var 3) (dx_var 2) (by rfl)))) da_nil))))))))), (F.binds (ps := ["value", "width", "signs"]) fun _ _ _ _ _ _ us hl => match us, hl with | [_, _, _], _ => rfl)⟩, F.kp⟩

abbrev s_are_columns : Stmt := topS 28
theorem sc_are_columns : FnScope ["value", "width", "most", "signs", "column"] ["value", "width", "most", "signs"] (defScope s_are_columns) := ⟨rfl, rfl, rfl, by decide +kernel, rfl, by decide +kernel, by decide +kernel⟩
theorem ok_are_columns {f : Addr} {fd : FuncData} (F : Fun G.K "are_columns" "are_columns" s_are_columns f fd) (n_all : mg "all" = none) {a_is_column : Addr} (g_is_column : mg "is_column" = some (.ref a_is_column)) (F_is_column : FnG G mg base 1 3 a_is_column m_is_column) (n_isinstance : mg "isinstance" = none) (n_len : mg "len" = none) (n_tuple : mg "tuple" = none) : FnG G mg base 2 4 f m_are_columns :=
  ⟨⟨_, ["value", "width", "most", "signs"], okD (k := 1) (np := 4) (nx := 1) F sc_are_columns rfl rfl (fun B cdv A outer s H E hr => (show DSs _ _ _ _ b_are_columns from (dss_cons (ds_if (DW.dt (dw_or (dt_not (dt_val (dx_isi "tuple" rfl rfl n_isinstance bt_isinstance rfl n_tuple bt_tuple (dx_var 0)))) (dw_or1 (dt_cmp op_gt gtG_ok (dx_callB call_len (lenG_ok rfl) rfl n_len bt_len (da_cons (dx_var 0) da_nil)) (dx_var 2) (nomark _))))) (dss_one (ds_ret dx_bl)) dss_nil)
    (dss_one (ds_ret (dx_callB (cr_all rfl) allG_ok rfl n_all bt_all (da_cons (dx_lc (own := [("column", 4)]) rfl sc_are_columns.nd (di_seq rfl (dx_var 0)) (blkOk_by (N := ["value", "width", "most", "signs", "column"]) (sc := defScope s_are_columns) (by decide +kernel)) (his := by decide) (fun _ _ _ _ _ => (dg_name (i := 4) sc_are_columns.nd rfl (by first | exact Or.inl rfl | exact Or.inr rfl))) (fun _ _ _ _ _ => dts_nil) (fun _ _ _ _ _ => (dx_frz (dx_fn F_is_column (hr.mono (by decide)) g_is_column takesF (da_cons (dx_var 4) (da_cons (dx_var 1) (da_cons (dx_var 3) da_nil))))))) da_nil))))))), (F.binds (ps := ["value", "width", "most", "signs"]) fun _ _ _ _ _ _ us hl => match us, hl with | [_, _, _, _], _ => rfl)⟩, F.kp⟩

abbrev s_is_pair : Stmt := topS 29
theorem sc_is_pair : FnScope ["value"] ["value"] (defScope s_is_pair) := ⟨rfl, rfl, rfl, by decide +kernel, rfl, by decide +kernel, by decide +kernel⟩
theorem ok_is_pair {f : Addr} {fd : FuncData} (F : Fun G.K "is_pair" "is_pair" s_is_pair f fd) (n_isinstance : mg "isinstance" = none) (n_len : mg "len" = none) (n_tuple : mg "tuple" = none) : FnG G mg base 1 1 f m_is_pair :=
  ⟨⟨_, ["value"], okD (k := 0) (np := 1) (nx := 0) F sc_is_pair rfl rfl (fun B cdv A outer s H E hr => (show DSs _ _ _ _ b_is_pair from (dss_one (ds_ret (dx_and (dx_isi "tuple" rfl rfl n_isinstance bt_isinstance rfl n_tuple bt_tuple (dx_var 0)) (dx_one (dx_cmp (op_eqD hr.units) eqG_ok (dx_callB call_len (lenG_ok rfl) rfl n_len bt_len (da_cons (dx_var 0) da_nil)) dx_int (nomark _)))))))), (F.binds (ps := ["value"]) fun _ _ _ _ _ _ us hl => match us, hl with | [_], _ => rfl)⟩, F.kp⟩

abbrev s_is_right_strip : Stmt := topS 30
theorem sc_is_right_strip : FnScope ["value"] ["value"] (defScope s_is_right_strip) := ⟨rfl, rfl, rfl, by decide +kernel, rfl, by decide +kernel, by decide +kernel⟩
theorem ok_is_right_strip {f : Addr} {fd : FuncData} (F : Fun G.K "is_right_strip" "is_right_strip" s_is_right_strip f fd) {t_MOST_LONG : Tok} (c_MOST_LONG : mg "MOST_LONG" = some (.int 40 t_MOST_LONG)) {t_MOST_WIDE : Tok} (c_MOST_WIDE : mg "MOST_WIDE" = some (.int 3 t_MOST_WIDE)) {t_SIGNS : Tok} (c_SIGNS : mg "SIGNS" = some (.str "#.dpquvw" t_SIGNS)) {a_are_columns : Addr} (g_are_columns : mg "are_columns" = some (.ref a_are_columns)) (F_are_columns : FnG G mg base 2 4 a_are_columns m_are_columns) {a_is_pair : Addr} (g_is_pair : mg "is_pair" = some (.ref a_is_pair)) (F_is_pair : FnG G mg base 1 1 a_is_pair m_is_pair) {a_is_within : Addr} (g_is_within : mg "is_within" = some (.ref a_is_within)) (F_is_within : FnG G mg base 1 3 a_is_within m_is_within) : FnG G mg base 3 1 f m_is_right_strip :=
  ⟨⟨_, ["value"], okD (k := 2) (np := 1) (nx := 0) F sc_is_right_strip rfl rfl (fun B cdv A outer s H E hr => (show DSs _ _ _ _ b_is_right_strip from (dss_cons (ds_if (DW.dt (dw_or (dt_not (dt_val (dx_fn F_is_pair (hr.mono (by decide)) g_is_pair (L2N.takes_of rfl rfl rfl rfl) (da_cons (dx_var 0) da_nil)))) (dw_or1 (dt_not (dt_val (dx_fn F_is_within (hr.mono (by decide)) g_is_within (L2N.takes_of rfl rfl rfl rfl) (da_cons (dx_ix (ix_all2 rfl rfl rfl (ru65 hr)) (ixD2_ok rfl rfl) (dx_var 0) dx_int) (da_cons dx_int (da_cons (dx_gint rfl c_MOST_WIDE) da_nil))))))))) (dss_one (ds_ret dx_bl)) dss_nil)
    (dss_one (ds_ret (dx_fn F_are_columns (hr.mono (by decide)) g_are_columns (L2N.takes_of rfl rfl rfl rfl) (da_cons (dx_ix (ix_all2 rfl rfl rfl (ru65 hr)) (ixD2_ok rfl rfl) (dx_var 0) dx_int) (da_cons (dx_ix (ix_all2 rfl rfl rfl (ru65 hr)) (ixD2_ok rfl rfl) (dx_var 0) dx_int) (da_cons (dx_gint rfl c_MOST_LONG) (da_cons (dx_gstr [35, 46, 100, 112, 113, 117, 118, 119] rfl c_SIGNS) da_nil)))))))))), (F.binds (ps := ["value"]) fun _ _ _ _ _ _ us hl => match us, hl with | [_], _ => rfl)⟩, F.kp⟩

abbrev s_need_strip : Stmt := topS 31
theorem sc_need_strip : FnScope ["value"] ["value"] (defScope s_need_strip) := ⟨rfl, rfl, rfl, by decide +kernel, rfl, by decide +kernel, by decide +kernel⟩
theorem ok_need_strip {f : Addr} {fd : FuncData} (F : Fun G.K "need_strip" "need_strip" s_need_strip f fd) {a_is_right_strip : Addr} (g_is_right_strip : mg "is_right_strip" = some (.ref a_is_right_strip)) (F_is_right_strip : FnG G mg base 3 1 a_is_right_strip m_is_right_strip) (e_InvalidStrip : ExcK G mg "InvalidStrip" 0) : FnG G mg base 4 1 f m_need_strip :=
  ⟨⟨_, ["value"], okD (k := 3) (np := 1) (nx := 0) F sc_need_strip rfl rfl (fun B cdv A outer s H E hr => (show DSs _ _ _ _ b_need_strip from (dss_one (ds_if (dt_not (dt_val (dx_fn F_is_right_strip (hr.mono (by decide)) g_is_right_strip (L2N.takes_of rfl rfl rfl rfl) (da_cons (dx_var 0) da_nil)))) (dss_one (ds_raiseK e_InvalidStrip (L2N.takes_of rfl rfl rfl rfl))) dss_nil)))), (F.binds (ps := ["value"]) fun _ _ _ _ _ _ us hl => match us, hl with | [_], _ => rfl)⟩, F.kp⟩

abbrev s_onward : Stmt := topS 37
theorem sc_onward : FnScope ["sign", "direction"] ["sign", "direction"] (defScope s_onward) := ⟨rfl, rfl, rfl, by decide +kernel, rfl, by decide +kernel, by decide +kernel⟩
theorem ok_onward {f : Addr} {fd : FuncData} (F : Fun G.K "onward" "onward" s_onward f fd) {r_FACES : Addr} (c_FACES : mg "FACES" = some (.ref r_FACES)) (i_FACES : ∀ H : Hp, Imm G H (.ref r_FACES) d_FACES) {r_FALLING : Addr} (c_FALLING : mg "FALLING" = some (.ref r_FALLING)) (i_FALLING : ∀ H : Hp, Imm G H (.ref r_FALLING) d_FALLING) {r_RISING : Addr} (c_RISING : mg "RISING" = some (.ref r_RISING)) (i_RISING : ∀ H : Hp, Imm G H (.ref r_RISING) d_RISING) : FnG G mg base 1 2 f m_onward :=
  ⟨⟨_, ["sign", "direction"], okD (k := 0) (np := 2) (nx := 0) F sc_onward rfl rfl (fun B cdv A outer s H E hr => (show DSs _ _ _ _ b_onward from (dss_cons (ds_if (dt_cmp (op_eqD hr.units) eqG_ok (dx_var 0) (dx_str [35]) (nomark _)) (dss_one (ds_ret (dx_str []))) dss_nil)
    (dss_cons (ds_if (DW.dt (dw_or (dt_cmp (op_eqD hr.units) eqG_ok (dx_var 0) (dx_str [46]) (nomark _)) (dw_or1 (dt_cmp (op_notIn2 rfl rfl rfl (ru65 hr)) (inG2_ok rfl) (dx_var 1) (dx_ix (ix_all2 rfl rfl rfl (ru65 hr)) (ixD2_ok rfl rfl) (dx_gref rfl c_FACES i_FACES) (dx_var 0)) (by rfl))))) (dss_one (ds_ret (dx_var 1))) dss_nil)
    (dss_one (ds_ret (dx_if (dt_cmp (op_in2 rfl rfl rfl (ru65 hr)) (inG2_ok rfl) (dx_var 0) (dx_str [112, 113, 117]) (by rfl)) (dx_ix (ix_all2 rfl rfl rfl (ru65 hr)) (ixD2_ok rfl rfl) (dx_gref rfl c_RISING i_RISING) (dx_var 1)) (dx_ix (ix_all2 rfl rfl rfl (ru65 hr)) (ixD2_ok rfl rfl) (dx_gref rfl c_FALLING i_FALLING) (dx_var 1))))))))), (F.binds (ps := ["sign", "direction"]) fun _ _ _ _ _ _ us hl => match us, hl with | [_, _], _ => rfl)⟩, F.kp⟩

abbrev s_entry : Stmt := topS 38
theorem sc_entry : FnScope ["strip", "gate", "side", "index"] ["strip", "gate"] (defScope s_entry) := ⟨rfl, rfl, rfl, by decide +kernel, rfl, by decide +kernel, by decide +kernel⟩
theorem ok_entry {f : Addr} {fd : FuncData} (F : Fun G.K "entry" "entry" s_entry f fd) (n_len : mg "len" = none) : FnG G mg base 1 2 f m_entry :=
  ⟨⟨_, ["strip", "gate"], okD (k := 0) (np := 2) (nx := 2) F sc_entry rfl rfl (fun B cdv A outer s H E hr => (show DSs _ _ _ _ b_entry from (dss_cons (ds_asg (dx_var 1) (dg_tup rfl rfl (dgs_cons (dg_name (i := 2) sc_entry.nd rfl (by first | exact Or.inl rfl | exact Or.inr rfl)) (dgs_cons (dg_name (i := 3) sc_entry.nd rfl (by first | exact Or.inl rfl | exact Or.inr rfl)) dgs_nil))))
    (dss_cons (ds_if (dt_cmp (op_eqD hr.units) eqG_ok (dx_var 2) (dx_str [108, 101, 102, 116]) (nomark _)) (dss_one (ds_ret (dx_tup (da_cons (dx_frz (dx_var 3)) (da_cons dx_int (da_cons (dx_str [114, 105, 103, 104, 116]) da_nil)))))) dss_nil)
    (dss_cons (ds_if (dt_cmp (op_eqD hr.units) eqG_ok (dx_var 2) (dx_str [114, 105, 103, 104, 116]) (nomark _)) (dss_one (ds_ret (dx_tup (da_cons (dx_frz (dx_var 3)) (da_cons (dx_op2 op_sub subG_ok (dx_callB call_len (lenG_ok rfl) rfl n_len bt_len (da_cons (dx_ix (ix_all2 rfl rfl rfl (ru65 hr)) (ixD2_ok rfl rfl) (dx_var 0) dx_int) da_nil)) dx_int) (da_cons (dx_str [108, 101, 102, 116]) da_nil)))))) dss_nil)
    (dss_one (ds_ret (dx_if (dt_cmp (op_eqD hr.units) eqG_ok (dx_var 2) (dx_str [116, 111, 112]) (nomark _)) (dx_tup (da_cons dx_int (da_cons (dx_frz (dx_var 3)) (da_cons (dx_str [100, 111, 119, 110]) da_nil)))) (dx_tup (da_cons (dx_op2 op_sub subG_ok (dx_ix (ix_all2 rfl rfl rfl (ru65 hr)) (ixD2_ok rfl rfl) (dx_var 0) dx_int) dx_int) (da_cons (dx_frz (dx_var 3)) (da_cons (dx_str [117, 112]) da_nil)))))))))))), (F.binds (ps := ["strip", "gate"]) fun _ _ _ _ _ _ us hl => match us, hl with | [_, _], _ => rfl)⟩, F.kp⟩

abbrev s_exit_of : Stmt := topS 39
theorem sc_exit_of : FnScope ["strip", "ray", "row", "column", "direction"] ["strip", "ray"] (defScope s_exit_of) := ⟨rfl, rfl, rfl, by decide +kernel, rfl, by decide +kernel, by decide +kernel⟩
theorem ok_exit_of {f : Addr} {fd : FuncData} (F : Fun G.K "exit_of" "exit_of" s_exit_of f fd) (n_len : mg "len" = none) : FnG G mg base 1 2 f m_exit_of :=
  ⟨⟨_, ["strip", "ray"], okD (k := 0) (np := 2) (nx := 3) F sc_exit_of rfl rfl (fun B cdv A outer s H E hr => (show DSs _ _ _ _ b_exit_of from (dss_cons (ds_asg (dx_var 1) (dg_tup rfl rfl (dgs_cons (dg_name (i := 2) sc_exit_of.nd rfl (by first | exact Or.inl rfl | exact Or.inr rfl)) (dgs_cons (dg_name (i := 3) sc_exit_of.nd rfl (by first | exact Or.inl rfl | exact Or.inr rfl)) (dgs_cons (dg_name (i := 4) sc_exit_of.nd rfl (by first | exact Or.inl rfl | exact Or.inr rfl)) dgs_nil)))))
    (dss_cons (ds_if (dt_cmp op_lt ltG_ok (dx_var 3) dx_int (nomark _)) (dss_one (ds_ret (dx_tup (da_cons (dx_str [108, 101, 102, 116]) (da_cons (dx_frz (dx_var 2)) da_nil))))) dss_nil)
    (dss_cons (ds_if (dt_cmp op_ge geG_ok (dx_var 3) (dx_callB call_len (lenG_ok rfl) rfl n_len bt_len (da_cons (dx_ix (ix_all2 rfl rfl rfl (ru65 hr)) (ixD2_ok rfl rfl) (dx_var 0) dx_int) da_nil)) (nomark _)) (dss_one (ds_ret (dx_tup (da_cons (dx_str [114, 105, 103, 104, 116]) (da_cons (dx_frz (dx_var 2)) da_nil))))) dss_nil)
    (dss_cons (ds_if (dt_cmp op_lt ltG_ok (dx_var 2) dx_int (nomark _)) (dss_one (ds_ret (dx_tup (da_cons (dx_str [116, 111, 112]) (da_cons (dx_frz (dx_var 3)) da_nil))))) dss_nil)
    (dss_one (ds_ret (dx_if (dt_cmp op_ge geG_ok (dx_var 2) (dx_ix (ix_all2 rfl rfl rfl (ru65 hr)) (ixD2_ok rfl rfl) (dx_var 0) dx_int) (nomark _)) (dx_tup (da_cons (dx_str [98, 111, 116, 116, 111, 109]) (da_cons (dx_frz (dx_var 3)) da_nil))) dx_non))))))))), (F.binds (ps := ["strip", "ray"]) fun _ _ _ _ _ _ us hl => match us, hl with | [_, _], _ => rfl)⟩, F.kp⟩

abbrev s_moved : Stmt := topS 40
theorem sc_moved : FnScope ["strip", "ray", "row", "column", "direction", "down", "right"] ["strip", "ray"] (defScope s_moved) := ⟨rfl, rfl, rfl, by decide +kernel, rfl, by decide +kernel, by decide +kernel⟩
theorem ok_moved {f : Addr} {fd : FuncData} (F : Fun G.K "moved" "moved" s_moved f fd) {r_STEPS : Addr} (c_STEPS : mg "STEPS" = some (.ref r_STEPS)) (i_STEPS : ∀ H : Hp, Imm G H (.ref r_STEPS) d_STEPS) {a_onward : Addr} (g_onward : mg "onward" = some (.ref a_onward)) (F_onward : FnG G mg base 1 2 a_onward m_onward) : FnG G mg base 2 2 f m_moved :=
  ⟨⟨_, ["strip", "ray"], okD (k := 1) (np := 2) (nx := 5) F sc_moved rfl rfl (fun B cdv A outer s H E hr => (show DSs _ _ _ _ b_moved from (dss_cons (ds_asg (dx_var 1) (dg_tup rfl rfl (dgs_cons (dg_name (i := 2) sc_moved.nd rfl (by first | exact Or.inl rfl | exact Or.inr rfl)) (dgs_cons (dg_name (i := 3) sc_moved.nd rfl (by first | exact Or.inl rfl | exact Or.inr rfl)) (dgs_cons (dg_name (i := 4) sc_moved.nd rfl (by first | exact Or.inl rfl | exact Or.inr rfl)) dgs_nil)))))
    (dss_cons (ds_set (i := 4) sc_moved.nd rfl (.inl rfl) (dx_fn F_onward (hr.mono (by decide)) g_onward (L2N.takes_of rfl rfl rfl rfl) (da_cons (dx_ix (ix_all2 rfl rfl rfl (ru65 hr)) (ixD2_ok rfl rfl) (dx_ix (ix_all2 rfl rfl rfl (ru65 hr)) (ixD2_ok rfl rfl) (dx_ix (ix_all2 rfl rfl rfl (ru65 hr)) (ixD2_ok rfl rfl) (dx_var 0) dx_int) (dx_frz (dx_var 3))) (dx_frz (dx_var 2))) (da_cons (dx_frz (dx_var 4)) da_nil))))
    (dss_cons (ds_if (dt_cmp (op_eqD hr.units) eqG_ok (dx_var 4) (dx_str []) (nomark _)) (dss_one (ds_ret dx_non)) dss_nil)
    (dss_cons (ds_asg (dx_ix (ix_all2 rfl rfl rfl (ru65 hr)) (ixD2_ok rfl rfl) (dx_gref rfl c_STEPS i_STEPS) (dx_frz (dx_var 4))) (dg_tup rfl rfl (dgs_cons (dg_name (i := 5) sc_moved.nd rfl (by first | exact Or.inl rfl | exact Or.inr rfl)) (dgs_cons (dg_name (i := 6) sc_moved.nd rfl (by first | exact Or.inl rfl | exact Or.inr rfl)) dgs_nil))))
    (dss_one (ds_ret (dx_tup (da_cons (dx_frz (dx_op2 op_addG (addG_ok rfl) (dx_var 2) (dx_var 5))) (da_cons (dx_frz (dx_op2 op_addG (addG_ok rfl) (dx_var 3) (dx_var 6))) (da_cons (dx_frz (dx_var 4)) da_nil)))))))))))), (F.binds (ps := ["strip", "ray"]) fun _ _ _ _ _ _ us hl => match us, hl with | [_, _], _ => rfl)⟩, F.kp⟩

abbrev s_followed : Stmt := topS 41
theorem sc_followed : FnScope ["strip", "gate", "ray", "known", "end"] ["strip", "gate"] (defScope s_followed) := ⟨rfl, rfl, rfl, by decide +kernel, rfl, by decide +kernel, by decide +kernel⟩
theorem ok_followed {f : Addr} {fd : FuncData} (F : Fun G.K "followed" "followed" s_followed f fd) {a_entry : Addr} (g_entry : mg "entry" = some (.ref a_entry)) (F_entry : FnG G mg base 1 2 a_entry m_entry) {a_exit_of : Addr} (g_exit_of : mg "exit_of" = some (.ref a_exit_of)) (F_exit_of : FnG G mg base 1 2 a_exit_of m_exit_of) (n_list : mg "list" = none) {a_moved : Addr} (g_moved : mg "moved" = some (.ref a_moved)) (F_moved : FnG G mg base 2 2 a_moved m_moved) : FnG G mg base 3 2 f m_followed :=
  ⟨⟨_, ["strip", "gate"], okD (k := 2) (np := 2) (nx := 3) F sc_followed rfl rfl (fun B cdv A outer s H E hr => (show DSs _ _ _ _ b_followed from (dss_cons (ds_set (i := 2) sc_followed.nd rfl (.inl rfl) (dx_fn F_entry (hr.mono (by decide)) g_entry (L2N.takes_of rfl rfl rfl rfl) (da_cons (dx_var 0) (da_cons (dx_var 1) da_nil))))
    (dss_cons (ds_set (i := 3) sc_followed.nd rfl (.inl rfl) dx_dnewN)
    (dss_cons (ds_while (passes_of rfl) (DW.dt (dw_and (dt_notN (dx_var 2)) (dw_and1 (dt_isN (dx_fn F_exit_of (hr.mono (by decide)) g_exit_of (L2N.takes_of rfl rfl rfl rfl) (da_cons (dx_var 0) (da_cons (dx_frz (dx_var 2)) da_nil))))))) (dss_cons (ds_if (dt_cmp (op_in2 rfl rfl rfl (ru65 hr)) (inG2_ok rfl) (dx_var 2) (dx_var 3) (by rfl)) (dss_one (ds_ret (dx_mkp (da_cons (dx_tup (da_cons (dx_str [99, 97, 117, 103, 104, 116]) (da_cons dx_int da_nil))) (da_cons (dx_callTy (call_list2 rfl rfl rfl) (listG2_ok rfl) rfl n_list bt_list (da_cons (dx_var 3) da_nil)) da_nil))))) dss_nil)
    (dss_cons (ds_put (i := 3) (ru65 hr) rfl (by first | exact Or.inl rfl | exact Or.inr (Or.inl rfl) | exact Or.inr (Or.inr rfl)) (by decide) (by decide) (dx_frz (dx_var 2)) dx_bl)
    (dss_one (ds_set (i := 2) sc_followed.nd rfl (.inl rfl) (dx_fn F_moved (hr.mono (by decide)) g_moved (L2N.takes_of rfl rfl rfl rfl) (da_cons (dx_var 0) (da_cons (dx_frz (dx_var 2)) da_nil))))))))
    (dss_cons (ds_set (i := 4) sc_followed.nd rfl (.inl rfl) (dx_frz (dx_if (dt_isN (dx_var 2)) (dx_tup (da_cons (dx_str [115, 116, 111, 112, 112, 101, 100]) (da_cons dx_int da_nil))) (dx_fn F_exit_of (hr.mono (by decide)) g_exit_of (L2N.takes_of rfl rfl rfl rfl) (da_cons (dx_var 0) (da_cons (dx_frz (dx_var 2)) da_nil))))))
    (dss_one (ds_ret (dx_mkp (da_cons (dx_frz (dx_var 4)) (da_cons (dx_callTy (call_list2 rfl rfl rfl) (listG2_ok rfl) rfl n_list bt_list (da_cons (dx_var 3) da_nil)) da_nil))))))))))), (F.binds (ps := ["strip", "gate"]) fun _ _ _ _ _ _ us hl => match us, hl with | [_, _], _ => rfl)⟩, F.kp⟩

abbrev s_plain_end : Stmt := topS 43
theorem sc_plain_end : FnScope ["end"] ["end"] (defScope s_plain_end) := ⟨rfl, rfl, rfl, by decide +kernel, rfl, by decide +kernel, by decide +kernel⟩
theorem ok_plain_end {f : Addr} {fd : FuncData} (F : Fun G.K "plain_end" "plain_end" s_plain_end f fd) : FnG G mg base 1 1 f m_plain_end :=
  ⟨⟨_, ["end"], okD (k := 0) (np := 1) (nx := 0) F sc_plain_end rfl rfl (fun B cdv A outer s H E hr => (show DSs _ _ _ _ b_plain_end from (dss_one (ds_ret (dx_if (dt_cmp (op_in2 rfl rfl rfl (ru65 hr)) (inG2_ok rfl) (dx_ix (ix_all2 rfl rfl rfl (ru65 hr)) (ixD2_ok rfl rfl) (dx_var 0) dx_int) (dx_tup (da_cons (dx_str [108, 101, 102, 116]) (da_cons (dx_str [114, 105, 103, 104, 116]) da_nil))) (by rfl)) (dx_var 0) (dx_tup (da_cons (dx_ix (ix_all2 rfl rfl rfl (ru65 hr)) (ixD2_ok rfl rfl) (dx_var 0) dx_int) (da_cons dx_int da_nil)))))))), (F.binds (ps := ["end"]) fun _ _ _ _ _ _ us hl => match us, hl with | [_], _ => rfl)⟩, F.kp⟩

abbrev s_end_at : Stmt := topS 44
theorem sc_end_at : FnScope ["strip", "side", "row"] ["strip", "side", "row"] (defScope s_end_at) := ⟨rfl, rfl, rfl, by decide +kernel, rfl, by decide +kernel, by decide +kernel⟩
theorem ok_end_at {f : Addr} {fd : FuncData} (F : Fun G.K "end_at" "end_at" s_end_at f fd) {a_followed : Addr} (g_followed : mg "followed" = some (.ref a_followed)) (F_followed : FnG G mg base 3 2 a_followed m_followed) {a_plain_end : Addr} (g_plain_end : mg "plain_end" = some (.ref a_plain_end)) (F_plain_end : FnG G mg base 1 1 a_plain_end m_plain_end) : FnG G mg base 4 3 f m_end_at :=
  ⟨⟨_, ["strip", "side", "row"], okD (k := 3) (np := 3) (nx := 0) F sc_end_at rfl rfl (fun B cdv A outer s H E hr => (show DSs _ _ _ _ b_end_at from (dss_one (ds_ret (dx_fn F_plain_end (hr.mono (by decide)) g_plain_end (L2N.takes_of rfl rfl rfl rfl) (da_cons (dx_pr0 rfl (dx_fn F_followed (hr.mono (by decide)) g_followed (L2N.takes_of rfl rfl rfl rfl) (da_cons (dx_var 0) (da_cons (dx_tup (da_cons (dx_var 1) (da_cons (dx_var 2) da_nil))) da_nil)))) da_nil)))))), (F.binds (ps := ["strip", "side", "row"]) fun _ _ _ _ _ _ us hl => match us, hl with | [_, _, _], _ => rfl)⟩, F.kp⟩

abbrev s_table_of : Stmt := topS 45
theorem sc_table_of : FnScope ["strip", "lefts", "row"] ["strip"] (defScope s_table_of) := ⟨rfl, rfl, rfl, by decide +kernel, rfl, by decide +kernel, by decide +kernel⟩
theorem ok_table_of {f : Addr} {fd : FuncData} (F : Fun G.K "table_of" "table_of" s_table_of f fd) {a_end_at : Addr} (g_end_at : mg "end_at" = some (.ref a_end_at)) (F_end_at : FnG G mg base 4 3 a_end_at m_end_at) (n_range : mg "range" = none) (n_tuple : mg "tuple" = none) : FnG G mg base 5 1 f m_table_of :=
  ⟨⟨_, ["strip"], okD (k := 4) (np := 1) (nx := 2) F sc_table_of rfl rfl (fun B cdv A outer s H E hr => (show DSs _ _ _ _ b_table_of from (dss_cons (ds_setLc (i := 1) (own := [("row", 2)]) rfl sc_table_of.nd rfl rfl (sw_true rfl rfl rfl (by decide +kernel)) (di_lim (di_range1 rfl n_range (da_cons (dx_ix (ix_all2 rfl rfl rfl (ru65 hr)) (ixD2_ok rfl rfl) (dx_var 0) dx_int) da_nil))) (blkOk_by (N := ["strip", "lefts", "row"]) (sc := defScope s_table_of) (by decide +kernel)) (his := by decide) (fun _ _ _ _ _ => (dg_name (i := 2) sc_table_of.nd rfl (by first | exact Or.inl rfl | exact Or.inr rfl))) (fun _ _ _ _ _ => dts_nil) (fun _ _ _ _ _ => (dx_frz (dx_fn F_end_at (hr.mono (by decide)) g_end_at takesF (da_cons (dx_var 0) (da_cons (dx_str [108, 101, 102, 116]) (da_cons (dx_var 2) da_nil)))))))
    (dss_one (ds_ret (dx_tup (da_cons (dx_callTy call_tuple_of (tupleG_ok rfl) rfl n_tuple bt_tuple (da_cons (dx_var 1) da_nil)) (da_cons (dx_callTy call_tuple_of (tupleG_ok rfl) rfl n_tuple bt_tuple (da_cons (dx_lc (own := [("row", 2)]) rfl sc_table_of.nd (di_lim (di_range1 rfl n_range (da_cons (dx_ix (ix_all2 rfl rfl rfl (ru65 hr)) (ixD2_ok rfl rfl) (dx_var 0) dx_int) da_nil))) (blkOk_by (N := ["strip", "lefts", "row"]) (sc := defScope s_table_of) (by decide +kernel)) (his := by decide) (fun _ _ _ _ _ => (dg_name (i := 2) sc_table_of.nd rfl (by first | exact Or.inl rfl | exact Or.inr rfl))) (fun _ _ _ _ _ => dts_nil) (fun _ _ _ _ _ => (dx_frz (dx_fn F_end_at (hr.mono (by decide)) g_end_at takesF (da_cons (dx_var 0) (da_cons (dx_str [114, 105, 103, 104, 116]) (da_cons (dx_var 2) da_nil))))))) da_nil)) da_nil)))))))), (F.binds (ps := ["strip"]) fun _ _ _ _ _ _ us hl => match us, hl with | [_], _ => rfl)⟩, F.kp⟩

abbrev s_chased : Stmt := topS 46
theorem sc_chased : FnScope ["one", "other", "side", "row", "inner", "end", "known"] ["one", "other", "side", "row"] (defScope s_chased) := ⟨rfl, rfl, rfl, by decide +kernel, rfl, by decide +kernel, by decide +kernel⟩
theorem ok_chased {f : Addr} {fd : FuncData} (F : Fun G.K "chased" "chased" s_chased f fd) : FnG G mg base 1 4 f m_chased :=
  ⟨⟨_, ["one", "other", "side", "row"], okD (k := 0) (np := 4) (nx := 3) F sc_chased rfl rfl (fun B cdv A outer s H E hr => (show DSs _ _ _ _ b_chased from (dss_cons (ds_asg (dx_if (dt_cmp (op_eqD hr.units) eqG_ok (dx_var 2) (dx_str [108, 101, 102, 116]) (nomark _)) (dx_tup (da_cons dx_int (da_cons (dx_ix (ix_all2 rfl rfl rfl (ru65 hr)) (ixD2_ok rfl rfl) (dx_ix (ix_all2 rfl rfl rfl (ru65 hr)) (ixD2_ok rfl rfl) (dx_var 0) dx_int) (dx_var 3)) da_nil))) (dx_tup (da_cons dx_int (da_cons (dx_ix (ix_all2 rfl rfl rfl (ru65 hr)) (ixD2_ok rfl rfl) (dx_ix (ix_all2 rfl rfl rfl (ru65 hr)) (ixD2_ok rfl rfl) (dx_var 1) dx_int) (dx_var 3)) da_nil)))) (dg_tup rfl rfl (dgs_cons (dg_name (i := 4) sc_chased.nd rfl (by first | exact Or.inl rfl | exact Or.inr rfl)) (dgs_cons (dg_name (i := 5) sc_chased.nd rfl (by first | exact Or.inl rfl | exact Or.inr rfl)) dgs_nil))))
    (dss_cons (ds_set (i := 6) sc_chased.nd rfl (.inl rfl) dx_dnewN)
    (dss_cons (ds_while (passes_of rfl) (dt_cmp (op_eqD hr.units) eqG_ok (dx_ix (ix_all2 rfl rfl rfl (ru65 hr)) (ixD2_ok rfl rfl) (dx_var 5) dx_int) (dx_if (dt_cmp (op_eqD hr.units) eqG_ok (dx_var 4) dx_int (nomark _)) (dx_str [114, 105, 103, 104, 116]) (dx_str [108, 101, 102, 116])) (nomark _)) (dss_cons (ds_if (dt_cmp (op_in2 rfl rfl rfl (ru65 hr)) (inG2_ok rfl) (dx_tup (da_cons (dx_frz (dx_var 4)) (da_cons (dx_frz (dx_var 5)) da_nil))) (dx_var 6) (by rfl)) (dss_one (ds_ret (dx_tup (da_cons (dx_str [99, 97, 117, 103, 104, 116]) (da_cons dx_int da_nil))))) dss_nil)
    (dss_cons (ds_put (i := 6) (ru65 hr) rfl (by first | exact Or.inl rfl | exact Or.inr (Or.inl rfl) | exact Or.inr (Or.inr rfl)) (by decide) (by decide) (dx_tup (da_cons (dx_frz (dx_var 4)) (da_cons (dx_frz (dx_var 5)) da_nil))) dx_bl)
    (dss_cons (ds_set (i := 5) sc_chased.nd rfl (.inl rfl) (dx_if (dt_cmp (op_eqD hr.units) eqG_ok (dx_var 4) dx_int (nomark _)) (dx_ix (ix_all2 rfl rfl rfl (ru65 hr)) (ixD2_ok rfl rfl) (dx_ix (ix_all2 rfl rfl rfl (ru65 hr)) (ixD2_ok rfl rfl) (dx_var 1) dx_int) (dx_ix (ix_all2 rfl rfl rfl (ru65 hr)) (ixD2_ok rfl rfl) (dx_var 5) dx_int)) (dx_ix (ix_all2 rfl rfl rfl (ru65 hr)) (ixD2_ok rfl rfl) (dx_ix (ix_all2 rfl rfl rfl (ru65 hr)) (ixD2_ok rfl rfl) (dx_var 0) dx_int) (dx_ix (ix_all2 rfl rfl rfl (ru65 hr)) (ixD2_ok rfl rfl) (dx_var 5) dx_int))))
    (dss_one (ds_set (i := 4) sc_chased.nd rfl (.inl rfl) (dx_op2 op_sub subG_ok dx_int (dx_var 4))))))))
    (dss_one (ds_ret (dx_var 5)))))))), (F.binds (ps := ["one", "other", "side", "row"]) fun _ _ _ _ _ _ us hl => match us, hl with | [_, _, _, _], _ => rfl)⟩, F.kp⟩

abbrev s_multiplied : Stmt := topS 47
theorem sc_multiplied : FnScope ["one", "other", "width", "lefts", "row"] ["one", "other"] (defScope s_multiplied) := ⟨rfl, rfl, rfl, by decide +kernel, rfl, by decide +kernel, by decide +kernel⟩
theorem ok_multiplied {f : Addr} {fd : FuncData} (F : Fun G.K "multiplied" "multiplied" s_multiplied f fd) {a_chased : Addr} (g_chased : mg "chased" = some (.ref a_chased)) (F_chased : FnG G mg base 1 4 a_chased m_chased) (n_len : mg "len" = none) (n_range : mg "range" = none) (n_tuple : mg "tuple" = none) : FnG G mg base 2 2 f m_multiplied :=
  ⟨⟨_, ["one", "other"], okD (k := 1) (np := 2) (nx := 3) F sc_multiplied rfl rfl (fun B cdv A outer s H E hr => (show DSs _ _ _ _ b_multiplied from (dss_cons (ds_set (i := 2) sc_multiplied.nd rfl (.inl rfl) (dx_callB call_len (lenG_ok rfl) rfl n_len bt_len (da_cons (dx_ix (ix_all2 rfl rfl rfl (ru65 hr)) (ixD2_ok rfl rfl) (dx_var 0) dx_int) da_nil)))
    (dss_cons (ds_setLc (i := 3) (own := [("row", 4)]) rfl sc_multiplied.nd rfl rfl (sw_true rfl rfl rfl (by decide +kernel)) (di_lim (di_range1 rfl n_range (da_cons (dx_frz (dx_var 2)) da_nil))) (blkOk_by (N := ["one", "other", "width", "lefts", "row"]) (sc := defScope s_multiplied) (by decide +kernel)) (his := by decide) (fun _ _ _ _ _ => (dg_name (i := 4) sc_multiplied.nd rfl (by first | exact Or.inl rfl | exact Or.inr rfl))) (fun _ _ _ _ _ => dts_nil) (fun _ _ _ _ _ => (dx_frz (dx_fn F_chased (hr.mono (by decide)) g_chased takesF (da_cons (dx_var 0) (da_cons (dx_var 1) (da_cons (dx_str [108, 101, 102, 116]) (da_cons (dx_var 4) da_nil))))))))
    (dss_one (ds_ret (dx_tup (da_cons (dx_callTy call_tuple_of (tupleG_ok rfl) rfl n_tuple bt_tuple (da_cons (dx_var 3) da_nil)) (da_cons (dx_callTy call_tuple_of (tupleG_ok rfl) rfl n_tuple bt_tuple (da_cons (dx_lc (own := [("row", 4)]) rfl sc_multiplied.nd (di_lim (di_range1 rfl n_range (da_cons (dx_frz (dx_var 2)) da_nil))) (blkOk_by (N := ["one", "other", "width", "lefts", "row"]) (sc := defScope s_multiplied) (by decide +kernel)) (his := by decide) (fun _ _ _ _ _ => (dg_name (i := 4) sc_multiplied.nd rfl (by first | exact Or.inl rfl | exact Or.inr rfl))) (fun _ _ _ _ _ => dts_nil) (fun _ _ _ _ _ => (dx_frz (dx_fn F_chased (hr.mono (by decide)) g_chased takesF (da_cons (dx_var 0) (da_cons (dx_var 1) (da_cons (dx_str [114, 105, 103, 104, 116]) (da_cons (dx_var 4) da_nil)))))))) da_nil)) da_nil))))))))), (F.binds (ps := ["one", "other"]) fun _ _ _ _ _ _ us hl => match us, hl with | [_, _], _ => rfl)⟩, F.kp⟩

abbrev s_is_word : Stmt := topS 52
theorem sc_is_word : FnScope ["value", "width"] ["value", "width"] (defScope s_is_word) := ⟨rfl, rfl, rfl, by decide +kernel, rfl, by decide +kernel, by decide +kernel⟩
theorem ok_is_word {f : Addr} {fd : FuncData} (F : Fun G.K "is_word" "is_word" s_is_word f fd) {t_MOST_COLUMNS : Tok} (c_MOST_COLUMNS : mg "MOST_COLUMNS" = some (.int 6 t_MOST_COLUMNS)) {t_MOST_TIMES : Tok} (c_MOST_TIMES : mg "MOST_TIMES" = some (.int 1000000000000000000000000000000 t_MOST_TIMES)) {t_SIGNS : Tok} (c_SIGNS : mg "SIGNS" = some (.str "#.dpquvw" t_SIGNS)) {a_are_columns : Addr} (g_are_columns : mg "are_columns" = some (.ref a_are_columns)) (F_are_columns : FnG G mg base 2 4 a_are_columns m_are_columns) {a_is_pair : Addr} (g_is_pair : mg "is_pair" = some (.ref a_is_pair)) (F_is_pair : FnG G mg base 1 1 a_is_pair m_is_pair) {a_is_within : Addr} (g_is_within : mg "is_within" = some (.ref a_is_within)) (F_is_within : FnG G mg base 1 3 a_is_within m_is_within) : FnG G mg base 3 2 f m_is_word :=
  ⟨⟨_, ["value", "width"], okD (k := 2) (np := 2) (nx := 0) F sc_is_word rfl rfl (fun B cdv A outer s H E hr => (show DSs _ _ _ _ b_is_word from (dss_cons (ds_if (DW.dt (dw_or (dt_not (dt_val (dx_fn F_is_pair (hr.mono (by decide)) g_is_pair (L2N.takes_of rfl rfl rfl rfl) (da_cons (dx_var 0) da_nil)))) (dw_or (dt_not (dt_val (dx_fn F_are_columns (hr.mono (by decide)) g_are_columns (L2N.takes_of rfl rfl rfl rfl) (da_cons (dx_ix (ix_all2 rfl rfl rfl (ru65 hr)) (ixD2_ok rfl rfl) (dx_var 0) dx_int) (da_cons (dx_var 1) (da_cons (dx_gint rfl c_MOST_COLUMNS) (da_cons (dx_gstr [35, 46, 100, 112, 113, 117, 118, 119] rfl c_SIGNS) da_nil))))))) (dw_or1 (dt_cmp (op_eqD hr.units) eqG_ok (dx_ix (ix_all2 rfl rfl rfl (ru65 hr)) (ixD2_ok rfl rfl) (dx_var 0) dx_int) (dx_tup da_nil) (nomark _)))))) (dss_one (ds_ret dx_bl)) dss_nil)
    (dss_one (ds_ret (dx_fn F_is_within (hr.mono (by decide)) g_is_within (L2N.takes_of rfl rfl rfl rfl) (da_cons (dx_ix (ix_all2 rfl rfl rfl (ru65 hr)) (ixD2_ok rfl rfl) (dx_var 0) dx_int) (da_cons dx_int (da_cons (dx_gint rfl c_MOST_TIMES) da_nil))))))))), (F.binds (ps := ["value", "width"]) fun _ _ _ _ _ _ us hl => match us, hl with | [_, _], _ => rfl)⟩, F.kp⟩

abbrev s_are_right_parts : Stmt := topS 53
theorem sc_are_right_parts : FnScope ["value", "word"] ["value"] (defScope s_are_right_parts) := ⟨rfl, rfl, rfl, by decide +kernel, rfl, by decide +kernel, by decide +kernel⟩
theorem ok_are_right_parts {f : Addr} {fd : FuncData} (F : Fun G.K "are_right_parts" "are_right_parts" s_are_right_parts f fd) {t_MOST_WORDS : Tok} (c_MOST_WORDS : mg "MOST_WORDS" = some (.int 4 t_MOST_WORDS)) (n_all : mg "all" = none) {a_is_pair : Addr} (g_is_pair : mg "is_pair" = some (.ref a_is_pair)) (F_is_pair : FnG G mg base 1 1 a_is_pair m_is_pair) {a_is_within : Addr} (g_is_within : mg "is_within" = some (.ref a_is_within)) (F_is_within : FnG G mg base 1 3 a_is_within m_is_within) {a_is_word : Addr} (g_is_word : mg "is_word" = some (.ref a_is_word)) (F_is_word : FnG G mg base 3 2 a_is_word m_is_word) (n_isinstance : mg "isinstance" = none) (n_len : mg "len" = none) (n_tuple : mg "tuple" = none) : FnG G mg base 4 1 f m_are_right_parts :=
  ⟨⟨_, ["value"], okD (k := 3) (np := 1) (nx := 1) F sc_are_right_parts rfl rfl (fun B cdv A outer s H E hr => (show DSs _ _ _ _ b_are_right_parts from (dss_cons (ds_if (DW.dt (dw_or (dt_not (dt_val (dx_fn F_is_pair (hr.mono (by decide)) g_is_pair (L2N.takes_of rfl rfl rfl rfl) (da_cons (dx_var 0) da_nil)))) (dw_or1 (dt_not (dt_val (dx_fn F_is_within (hr.mono (by decide)) g_is_within (L2N.takes_of rfl rfl rfl rfl) (da_cons (dx_ix (ix_all2 rfl rfl rfl (ru65 hr)) (ixD2_ok rfl rfl) (dx_var 0) dx_int) (da_cons dx_int (da_cons dx_int da_nil))))))))) (dss_one (ds_ret dx_bl)) dss_nil)
    (dss_cons (ds_if (DW.dt (dw_or (dt_not (dt_val (dx_isi "tuple" rfl rfl n_isinstance bt_isinstance rfl n_tuple bt_tuple (dx_ix (ix_all2 rfl rfl rfl (ru65 hr)) (ixD2_ok rfl rfl) (dx_var 0) dx_int)))) (dw_or1 (dt_cmp op_gt gtG_ok (dx_callB call_len (lenG_ok rfl) rfl n_len bt_len (da_cons (dx_ix (ix_all2 rfl rfl rfl (ru65 hr)) (ixD2_ok rfl rfl) (dx_var 0) dx_int) da_nil)) (dx_gint rfl c_MOST_WORDS) (nomark _))))) (dss_one (ds_ret dx_bl)) dss_nil)
    (dss_one (ds_ret (dx_callB (cr_all rfl) allG_ok rfl n_all bt_all (da_cons (dx_lc (own := [("word", 1)]) rfl sc_are_right_parts.nd (di_seq rfl (dx_ix (ix_all2 rfl rfl rfl (ru65 hr)) (ixD2_ok rfl rfl) (dx_var 0) dx_int)) (blkOk_by (N := ["value", "word"]) (sc := defScope s_are_right_parts) (by decide +kernel)) (his := by decide) (fun _ _ _ _ _ => (dg_name (i := 1) sc_are_right_parts.nd rfl (by first | exact Or.inl rfl | exact Or.inr rfl))) (fun _ _ _ _ _ => dts_nil) (fun _ _ _ _ _ => (dx_frz (dx_fn F_is_word (hr.mono (by decide)) g_is_word takesF (da_cons (dx_var 1) (da_cons (dx_ix (ix_all2 rfl rfl rfl (ru65 hr)) (ixD2_ok rfl rfl) (dx_var 0) dx_int) da_nil)))))) da_nil)))))))), (F.binds (ps := ["value"]) fun _ _ _ _ _ _ us hl => match us, hl with | [_], _ => rfl)⟩, F.kp⟩

abbrev s_need_parts : Stmt := topS 54
theorem sc_need_parts : FnScope ["value"] ["value"] (defScope s_need_parts) := ⟨rfl, rfl, rfl, by decide +kernel, rfl, by decide +kernel, by decide +kernel⟩
theorem ok_need_parts {f : Addr} {fd : FuncData} (F : Fun G.K "need_parts" "need_parts" s_need_parts f fd) {a_are_right_parts : Addr} (g_are_right_parts : mg "are_right_parts" = some (.ref a_are_right_parts)) (F_are_right_parts : FnG G mg base 4 1 a_are_right_parts m_are_right_parts) (e_InvalidParts : ExcK G mg "InvalidParts" 11) : FnG G mg base 5 1 f m_need_parts :=
  ⟨⟨_, ["value"], okD (k := 4) (np := 1) (nx := 0) F sc_need_parts rfl rfl (fun B cdv A outer s H E hr => (show DSs _ _ _ _ b_need_parts from (dss_one (ds_if (dt_not (dt_val (dx_fn F_are_right_parts (hr.mono (by decide)) g_are_right_parts (L2N.takes_of rfl rfl rfl rfl) (da_cons (dx_var 0) da_nil)))) (dss_one (ds_raiseK e_InvalidParts (L2N.takes_of rfl rfl rfl rfl))) dss_nil)))), (F.binds (ps := ["value"]) fun _ _ _ _ _ _ us hl => match us, hl with | [_], _ => rfl)⟩, F.kp⟩

abbrev s_powered : Stmt := topS 55
theorem sc_powered : FnScope ["table", "times", "found"] ["table", "times"] (defScope s_powered) := ⟨rfl, rfl, rfl, by decide +kernel, rfl, by decide +kernel, by decide +kernel⟩
theorem ok_powered {f : Addr} {fd : FuncData} (F : Fun G.K "powered" "powered" s_powered f fd) (n_len : mg "len" = none) {a_multiplied : Addr} (g_multiplied : mg "multiplied" = some (.ref a_multiplied)) (F_multiplied : FnG G mg base 2 2 a_multiplied m_multiplied) {a_table_of : Addr} (g_table_of : mg "table_of" = some (.ref a_table_of)) (F_table_of : FnG G mg base 5 1 a_table_of m_table_of) : FnG G mg base 6 2 f m_powered :=
  ⟨⟨_, ["table", "times"], okD (k := 5) (np := 2) (nx := 1) F sc_powered rfl rfl (fun B cdv A outer s H E hr => (show DSs _ _ _ _ b_powered from (dss_cons (ds_set (i := 2) sc_powered.nd rfl (.inl rfl) (dx_fn F_table_of (hr.mono (by decide)) g_table_of (L2N.takes_of rfl rfl rfl rfl) (da_cons (dx_tup (da_cons (dx_callB call_len (lenG_ok rfl) rfl n_len bt_len (da_cons (dx_ix (ix_all2 rfl rfl rfl (ru65 hr)) (ixD2_ok rfl rfl) (dx_var 0) dx_int) da_nil)) (da_cons (dx_tup da_nil) da_nil))) da_nil)))
    (dss_cons (ds_while (passes_of rfl) (dt_cmp op_gt gtG_ok (dx_var 1) dx_int (nomark _)) (dss_cons (ds_if (dt_cmp (op_eqD hr.units) eqG_ok (dx_op2 op_modN modG_ok (dx_var 1) dx_int) dx_int (nomark _)) (dss_one (ds_set (i := 2) sc_powered.nd rfl (.inl rfl) (dx_fn F_multiplied (hr.mono (by decide)) g_multiplied (L2N.takes_of rfl rfl rfl rfl) (da_cons (dx_frz (dx_var 2)) (da_cons (dx_frz (dx_var 0)) da_nil))))) dss_nil)
    (dss_cons (ds_set (i := 0) sc_powered.nd rfl (.inl rfl) (dx_fn F_multiplied (hr.mono (by decide)) g_multiplied (L2N.takes_of rfl rfl rfl rfl) (da_cons (dx_frz (dx_var 0)) (da_cons (dx_frz (dx_var 0)) da_nil))))
    (dss_one (ds_set (i := 1) sc_powered.nd rfl (.inl rfl) (dx_op2 op_fdivN fdivG_ok (dx_var 1) dx_int))))))
    (dss_one (ds_ret (dx_var 2))))))), (F.binds (ps := ["table", "times"]) fun _ _ _ _ _ _ us hl => match us, hl with | [_, _], _ => rfl)⟩, F.kp⟩

abbrev s_long_table : Stmt := topS 56
theorem sc_long_table : FnScope ["parts", "found", "columns", "times"] ["parts"] (defScope s_long_table) := ⟨rfl, rfl, rfl, by decide +kernel, rfl, by decide +kernel, by decide +kernel⟩
theorem ok_long_table {f : Addr} {fd : FuncData} (F : Fun G.K "long_table" "long_table" s_long_table f fd) {a_multiplied : Addr} (g_multiplied : mg "multiplied" = some (.ref a_multiplied)) (F_multiplied : FnG G mg base 2 2 a_multiplied m_multiplied) {a_need_parts : Addr} (g_need_parts : mg "need_parts" = some (.ref a_need_parts)) (F_need_parts : FnG G mg base 5 1 a_need_parts m_need_parts) {a_powered : Addr} (g_powered : mg "powered" = some (.ref a_powered)) (F_powered : FnG G mg base 6 2 a_powered m_powered) {a_table_of : Addr} (g_table_of : mg "table_of" = some (.ref a_table_of)) (F_table_of : FnG G mg base 5 1 a_table_of m_table_of) : FnG G mg base 7 1 f m_long_table :=
  ⟨⟨_, ["parts"], okD (k := 6) (np := 1) (nx := 3) F sc_long_table rfl rfl (fun B cdv A outer s H E hr => (show DSs _ _ _ _ b_long_table from (dss_cons (ds_expr (dx_fn F_need_parts (hr.mono (by decide)) g_need_parts (L2N.takes_of rfl rfl rfl rfl) (da_cons (dx_var 0) da_nil)))
    (dss_cons (ds_set (i := 1) sc_long_table.nd rfl (.inl rfl) (dx_fn F_table_of (hr.mono (by decide)) g_table_of (L2N.takes_of rfl rfl rfl rfl) (da_cons (dx_tup (da_cons (dx_ix (ix_all2 rfl rfl rfl (ru65 hr)) (ixD2_ok rfl rfl) (dx_var 0) dx_int) (da_cons (dx_tup da_nil) da_nil))) da_nil)))
    (dss_cons (ds_for (passes_of rfl) rfl (di_seq rfl (dx_ix (ix_all2 rfl rfl rfl (ru65 hr)) (ixD2_ok rfl rfl) (dx_var 0) dx_int)) (dg_tup rfl rfl (dgs_cons (dg_name (i := 2) sc_long_table.nd rfl (by first | exact Or.inl rfl | exact Or.inr rfl)) (dgs_cons (dg_name (i := 3) sc_long_table.nd rfl (by first | exact Or.inl rfl | exact Or.inr rfl)) dgs_nil))) (dss_one (ds_set (i := 1) sc_long_table.nd rfl (.inl rfl) (dx_fn F_multiplied (hr.mono (by decide)) g_multiplied (L2N.takes_of rfl rfl rfl rfl) (da_cons (dx_frz (dx_var 1)) (da_cons (dx_frz (dx_fn F_powered (hr.mono (by decide)) g_powered (L2N.takes_of rfl rfl rfl rfl) (da_cons (dx_frz (dx_fn F_table_of (hr.mono (by decide)) g_table_of (L2N.takes_of rfl rfl rfl rfl) (da_cons (dx_tup (da_cons (dx_ix (ix_all2 rfl rfl rfl (ru65 hr)) (ixD2_ok rfl rfl) (dx_var 0) dx_int) (da_cons (dx_var 2) da_nil))) da_nil))) (da_cons (dx_var 3) da_nil)))) da_nil))))))
    (dss_one (ds_ret (dx_var 1)))))))), (F.binds (ps := ["parts"]) fun _ _ _ _ _ _ us hl => match us, hl with | [_], _ => rfl)⟩, F.kp⟩

abbrev s_count_columns : Stmt := topS 57
theorem sc_count_columns : FnScope ["parts", "columns", "times"] ["parts"] (defScope s_count_columns) := ⟨rfl, rfl, rfl, by decide +kernel, rfl, by decide +kernel, by decide +kernel⟩
theorem ok_count_columns {f : Addr} {fd : FuncData} (F : Fun G.K "count_columns" "count_columns" s_count_columns f fd) (n_len : mg "len" = none) {a_need_parts : Addr} (g_need_parts : mg "need_parts" = some (.ref a_need_parts)) (F_need_parts : FnG G mg base 5 1 a_need_parts m_need_parts) (n_sum : mg "sum" = none) : FnG G mg base 6 1 f m_count_columns :=
  ⟨⟨_, ["parts"], okD (k := 5) (np := 1) (nx := 2) F sc_count_columns rfl rfl (fun B cdv A outer s H E hr => (show DSs _ _ _ _ b_count_columns from (dss_cons (ds_expr (dx_fn F_need_parts (hr.mono (by decide)) g_need_parts (L2N.takes_of rfl rfl rfl rfl) (da_cons (dx_var 0) da_nil)))
    (dss_one (ds_ret (dx_callB (cr_sum rfl) sumG_ok rfl n_sum bt_sum (da_cons (dx_lc (own := [("columns", 1), ("times", 2)]) rfl sc_count_columns.nd (di_seq rfl (dx_ix (ix_all2 rfl rfl rfl (ru65 hr)) (ixD2_ok rfl rfl) (dx_var 0) dx_int)) (blkOk_by (N := ["parts", "columns", "times"]) (sc := defScope s_count_columns) (by decide +kernel)) (his := by decide) (fun _ _ _ _ _ => (dg_tup rfl rfl (dgs_cons (dg_name (i := 1) sc_count_columns.nd rfl (by first | exact Or.inl rfl | exact Or.inr rfl)) (dgs_cons (dg_name (i := 2) sc_count_columns.nd rfl (by first | exact Or.inl rfl | exact Or.inr rfl)) dgs_nil)))) (fun _ _ _ _ _ => dts_nil) (fun _ _ _ _ _ => (dx_op2 op_mul2 (mulG2_ok rfl) (dx_callB call_len (lenG_ok rfl) rfl n_len bt_len (da_cons (dx_var 1) da_nil)) (dx_var 2)))) da_nil))))))), (F.binds (ps := ["parts"]) fun _ _ _ _ _ _ us hl => match us, hl with | [_], _ => rfl)⟩, F.kp⟩

abbrev s_come_round : Stmt := topS 58
theorem sc_come_round : FnScope ["strip", "once", "here", "known"] ["strip"] (defScope s_come_round) := ⟨rfl, rfl, rfl, by decide +kernel, rfl, by decide +kernel, by decide +kernel⟩
theorem ok_come_round {f : Addr} {fd : FuncData} (F : Fun G.K "come_round" "come_round" s_come_round f fd) (n_len : mg "len" = none) {a_multiplied : Addr} (g_multiplied : mg "multiplied" = some (.ref a_multiplied)) (F_multiplied : FnG G mg base 2 2 a_multiplied m_multiplied) {a_need_strip : Addr} (g_need_strip : mg "need_strip" = some (.ref a_need_strip)) (F_need_strip : FnG G mg base 4 1 a_need_strip m_need_strip) {a_table_of : Addr} (g_table_of : mg "table_of" = some (.ref a_table_of)) (F_table_of : FnG G mg base 5 1 a_table_of m_table_of) : FnG G mg base 6 1 f m_come_round :=
  ⟨⟨_, ["strip"], okD (k := 5) (np := 1) (nx := 3) F sc_come_round rfl rfl (fun B cdv A outer s H E hr => (show DSs _ _ _ _ b_come_round from (dss_cons (ds_expr (dx_fn F_need_strip (hr.mono (by decide)) g_need_strip (L2N.takes_of rfl rfl rfl rfl) (da_cons (dx_var 0) da_nil)))
    (dss_cons (ds_par (i := 1) (j := 2) rfl sc_come_round.nd rfl rfl (by decide) rfl rfl (da_cons (dx_frz (dx_fn F_table_of (hr.mono (by decide)) g_table_of (L2N.takes_of rfl rfl rfl rfl) (da_cons (dx_var 0) da_nil))) (da_cons (dx_frz (dx_fn F_table_of (hr.mono (by decide)) g_table_of (L2N.takes_of rfl rfl rfl rfl) (da_cons (dx_tup (da_cons (dx_ix (ix_all2 rfl rfl rfl (ru65 hr)) (ixD2_ok rfl rfl) (dx_var 0) dx_int) (da_cons (dx_tup da_nil) da_nil))) da_nil))) da_nil)) (by rfl))
    (dss_cons (ds_set (i := 3) sc_come_round.nd rfl (.inl rfl) dx_dnewN)
    (dss_cons (ds_while (passes_of rfl) (dt_cmp (op_notIn2 rfl rfl rfl (ru65 hr)) (inG2_ok rfl) (dx_var 2) (dx_var 3) (by rfl)) (dss_cons (ds_put (i := 3) (ru65 hr) rfl (by first | exact Or.inl rfl | exact Or.inr (Or.inl rfl) | exact Or.inr (Or.inr rfl)) (by decide) (by decide) (dx_frz (dx_var 2)) (dx_callB (call_len2 rfl rfl rfl) (lenG2_ok rfl) rfl n_len bt_len (da_cons (dx_var 3) da_nil)))
    (dss_one (ds_set (i := 2) sc_come_round.nd rfl (.inl rfl) (dx_fn F_multiplied (hr.mono (by decide)) g_multiplied (L2N.takes_of rfl rfl rfl rfl) (da_cons (dx_frz (dx_var 2)) (da_cons (dx_frz (dx_var 1)) da_nil)))))))
    (dss_one (ds_ret (dx_tup (da_cons (dx_ix (ix_all2 rfl rfl rfl (ru65 hr)) (ixD2_ok rfl rfl) (dx_var 3) (dx_frz (dx_var 2))) (da_cons (dx_op2 op_sub subG_ok (dx_callB (call_len2 rfl rfl rfl) (lenG2_ok rfl) rfl n_len bt_len (da_cons (dx_var 3) da_nil)) (dx_ix (ix_all2 rfl rfl rfl (ru65 hr)) (ixD2_ok rfl rfl) (dx_var 3) (dx_frz (dx_var 2)))) da_nil))))))))))), (F.binds (ps := ["strip"]) fun _ _ _ _ _ _ us hl => match us, hl with | [_], _ => rfl)⟩, F.kp⟩

abbrev s_law_source : Stmt := topS 60
theorem sc_law_source : FnScope ["script", "k", "number", "start"] ["script", "k"] (defScope s_law_source) := ⟨rfl, rfl, rfl, by decide +kernel, rfl, by decide +kernel, by decide +kernel⟩
theorem ok_law_source {f : Addr} {fd : FuncData} (F : Fun G.K "_law_source" "_law_source" s_law_source f fd) (n_int : mg "int" = none) (n_len : mg "len" = none) : FnG G mg base 1 2 f m_law_source :=
  ⟨⟨_, ["script", "k"], okD (k := 0) (np := 2) (nx := 2) F sc_law_source rfl rfl (fun B cdv A outer s H E hr => (show DSs _ _ _ _ b_law_source from (dss_cons (ds_set (i := 2) sc_law_source.nd rfl (.inl rfl) dx_int)
    (dss_cons (ds_if (dt_cmp op_gt gtG_ok (dx_callB call_len (lenG_ok rfl) rfl n_len bt_len (da_cons (dx_var 0) da_nil)) (dx_var 1) (nomark _)) (dss_one (ds_set (i := 2) sc_law_source.nd rfl (.inl rfl) (dx_callTy call_int1 intG1_ok rfl n_int bt_int (da_cons (dx_ix (ix_all2 rfl rfl rfl (ru65 hr)) (ixD2_ok rfl rfl) (dx_var 0) (dx_var 1)) da_nil)))) dss_nil)
    (dss_cons (ds_set (i := 3) sc_law_source.nd rfl (.inl rfl) (dx_op2 op_modN modG_ok (dx_op2 op_addG (addG_ok rfl) (dx_op2 op_addG (addG_ok rfl) (dx_op2 op_mul2 (mulG2_ok rfl) (dx_var 2) dx_int) (dx_op2 op_mul2 (mulG2_ok rfl) dx_int (dx_var 1))) dx_int) dx_int))
    (dss_cons (ds_set (i := 3) sc_law_source.nd rfl (.inl rfl) (dx_op2 op_addG (addG_ok rfl) (dx_op2 op_addG (addG_ok rfl) (dx_op2 op_modN modG_ok (dx_op2 op_mul2 (mulG2_ok rfl) (dx_var 3) (dx_var 3)) dx_int) (dx_op2 op_mul2 (mulG2_ok rfl) dx_int (dx_var 1))) dx_int))
    (dss_one (ds_ret (dx_lst (da_cons (dx_frz (dx_if (dt_cmp op_ge geG_ok (dx_var 2) (dx_op2 op_pow powG_ok dx_int dx_int) (nomark _)) (dx_var 2) dx_int)) (da_cons (dx_frz (dx_var 3)) da_nil))))))))))), (F.binds (ps := ["script", "k"]) fun _ _ _ _ _ _ us hl => match us, hl with | [_, _], _ => rfl)⟩, F.kp⟩

abbrev s_law_pick : Stmt := topS 61
theorem sc_law_pick : FnScope ["source", "many", "found"] ["source", "many"] (defScope s_law_pick) := ⟨rfl, rfl, rfl, by decide +kernel, rfl, by decide +kernel, by decide +kernel⟩
theorem ok_law_pick {f : Addr} {fd : FuncData} (F : Fun G.K "_law_pick" "_law_pick" s_law_pick f fd) (n_int : mg "int" = none) : FnG G mg base 1 2 f m_law_pick :=
  ⟨⟨_, ["source", "many"], okD (k := 0) (np := 2) (nx := 1) F sc_law_pick rfl rfl (fun B cdv A outer s H E hr => (show DSs _ _ _ _ b_law_pick from (dss_cons (ds_if (dt_cmp op_gt gtG_ok (dx_ix (ix_all2 rfl rfl rfl (ru65 hr)) (ixD2_ok rfl rfl) (dx_var 0) dx_int) dx_int (nomark _)) (dss_cons (ds_set (i := 2) sc_law_pick.nd rfl (.inl rfl) (dx_op2 op_modN modG_ok (dx_callTy call_int1 intG1_ok rfl n_int bt_int (da_cons (dx_ix (ix_all2 rfl rfl rfl (ru65 hr)) (ixD2_ok rfl rfl) (dx_var 0) dx_int) da_nil)) (dx_var 1)))
    (dss_cons (ds_setIx (i := 0) rfl (by first | exact Or.inl rfl | exact Or.inr (Or.inl rfl) | exact Or.inr (Or.inr rfl)) (by decide) (by decide) dx_int (dx_op2 op_fdivN fdivG_ok (dx_callTy call_int1 intG1_ok rfl n_int bt_int (da_cons (dx_ix (ix_all2 rfl rfl rfl (ru65 hr)) (ixD2_ok rfl rfl) (dx_var 0) dx_int) da_nil)) (dx_var 1)))
    (dss_one (ds_ret (dx_var 2))))) dss_nil)
    (dss_cons (ds_setIx (i := 0) rfl (by first | exact Or.inl rfl | exact Or.inr (Or.inl rfl) | exact Or.inr (Or.inr rfl)) (by decide) (by decide) dx_int (dx_op2 op_modN modG_ok (dx_callTy call_int1 intG1_ok rfl n_int bt_int (da_cons (dx_op2 op_addG (addG_ok rfl) (dx_op2 op_mul2 (mulG2_ok rfl) (dx_ix (ix_all2 rfl rfl rfl (ru65 hr)) (ixD2_ok rfl rfl) (dx_var 0) dx_int) dx_int) dx_int) da_nil)) dx_int))
    (dss_one (ds_ret (dx_op2 op_modN modG_ok (dx_op2 op_fdivN fdivG_ok (dx_op2 op_modN modG_ok (dx_callTy call_int1 intG1_ok rfl n_int bt_int (da_cons (dx_op2 op_mul2 (mulG2_ok rfl) (dx_ix (ix_all2 rfl rfl rfl (ru65 hr)) (ixD2_ok rfl rfl) (dx_var 0) dx_int) (dx_ix (ix_all2 rfl rfl rfl (ru65 hr)) (ixD2_ok rfl rfl) (dx_var 0) dx_int)) da_nil)) dx_int) dx_int) (dx_var 1)))))))), (F.binds (ps := ["source", "many"]) fun _ _ _ _ _ _ us hl => match us, hl with | [_, _], _ => rfl)⟩, F.kp⟩

abbrev s_law_chosen : Stmt := topS 62
theorem sc_law_chosen : FnScope ["source", "things"] ["source", "things"] (defScope s_law_chosen) := ⟨rfl, rfl, rfl, by decide +kernel, rfl, by decide +kernel, by decide +kernel⟩
theorem ok_law_chosen {f : Addr} {fd : FuncData} (F : Fun G.K "_law_chosen" "_law_chosen" s_law_chosen f fd) {a_law_pick : Addr} (g_law_pick : mg "_law_pick" = some (.ref a_law_pick)) (F_law_pick : FnG G mg base 1 2 a_law_pick m_law_pick) (n_len : mg "len" = none) : FnG G mg base 2 2 f m_law_chosen :=
  ⟨⟨_, ["source", "things"], okD (k := 1) (np := 2) (nx := 0) F sc_law_chosen rfl rfl (fun B cdv A outer s H E hr => (show DSs _ _ _ _ b_law_chosen from (dss_one (ds_ret (dx_ix (ix_all2 rfl rfl rfl (ru65 hr)) (ixD2_ok rfl rfl) (dx_var 1) (dx_frz (dx_fn F_law_pick (hr.mono (by decide)) g_law_pick (L2N.takes_of rfl rfl rfl rfl) (da_cons (dx_var 0) (da_cons (dx_callB call_len (lenG_ok rfl) rfl n_len bt_len (da_cons (dx_var 1) da_nil)) da_nil))))))))), (F.binds (ps := ["source", "things"]) fun _ _ _ _ _ _ us hl => match us, hl with | [_, _], _ => rfl)⟩, F.kp⟩

abbrev s_law_onward : Stmt := topS 63
theorem sc_law_onward : FnScope ["sign", "way", "rising", "falling", "upper", "lower", "good"] ["sign", "way"] (defScope s_law_onward) := ⟨rfl, rfl, rfl, by decide +kernel, rfl, by decide +kernel, by decide +kernel⟩
theorem ok_law_onward {f : Addr} {fd : FuncData} (F : Fun G.K "_law_onward" "_law_onward" s_law_onward f fd) : FnG G mg base 1 2 f m_law_onward :=
  ⟨⟨_, ["sign", "way"], okD (k := 0) (np := 2) (nx := 5) F sc_law_onward rfl rfl (fun B cdv A outer s H E hr => (show DSs _ _ _ _ b_law_onward from (dss_cons (ds_par (i := 2) (j := 3) rfl sc_law_onward.nd rfl rfl (by decide) rfl rfl (da_cons (dx_frz (dx_lst (da_cons dx_int (da_cons dx_int (da_cons dx_int (da_cons dx_int da_nil)))))) (da_cons (dx_frz (dx_lst (da_cons dx_int (da_cons dx_int (da_cons dx_int (da_cons dx_int da_nil)))))) da_nil)) (by rfl))
    (dss_cons (ds_par (i := 4) (j := 5) rfl sc_law_onward.nd rfl rfl (by decide) rfl rfl (da_cons (dx_frz (dx_disp (dq_cons (dx_str [114, 105, 115, 101]) (dx_frz (dx_lst (da_cons dx_int (da_cons dx_int da_nil)))) (dq_cons (dx_str [102, 97, 108, 108]) (dx_frz (dx_lst (da_cons dx_int (da_cons dx_int da_nil)))) dq_nil)))) (da_cons (dx_frz (dx_disp (dq_cons (dx_str [114, 105, 115, 101]) (dx_frz (dx_lst (da_cons dx_int (da_cons dx_int da_nil)))) (dq_cons (dx_str [102, 97, 108, 108]) (dx_frz (dx_lst (da_cons dx_int (da_cons dx_int da_nil)))) dq_nil)))) da_nil)) (by rfl))
    (dss_cons (ds_if (dt_cmp (op_eqD hr.units) eqG_ok (dx_var 0) (dx_str [35]) (nomark _)) (dss_one (ds_ret (dx_neg dx_int))) dss_nil)
    (dss_cons (ds_if (dt_cmp (op_in2 rfl rfl rfl (ru65 hr)) (inG2_ok rfl) (dx_var 0) (dx_lst (da_cons (dx_str [117]) (da_cons (dx_str [112]) (da_cons (dx_str [113]) da_nil)))) (by rfl)) (dss_cons (ds_set (i := 6) sc_law_onward.nd rfl (.inl rfl) (dx_or (dx_cmp (op_eqD hr.units) eqG_ok (dx_var 0) (dx_str [117]) (nomark _)) (dx_one (dx_cmp (op_in2 rfl rfl rfl (ru65 hr)) (inG2_ok rfl) (dx_var 1) (dx_ix (ix_all2 rfl rfl rfl (ru65 hr)) (ixD2_ok rfl rfl) (dx_if (dt_cmp (op_eqD hr.units) eqG_ok (dx_var 0) (dx_str [112]) (nomark _)) (dx_var 4) (dx_var 5)) (dx_str [114, 105, 115, 101])) (by rfl)))))
    (dss_one (ds_ret (dx_if (dt_val (dx_var 6)) (dx_ix (ix_all2 rfl rfl rfl (ru65 hr)) (ixD2_ok rfl rfl) (dx_var 2) (dx_var 1)) (dx_var 1))))) dss_nil)
    (dss_cons (ds_if (dt_cmp (op_in2 rfl rfl rfl (ru65 hr)) (inG2_ok rfl) (dx_var 0) (dx_lst (da_cons (dx_str [100]) (da_cons (dx_str [118]) (da_cons (dx_str [119]) da_nil)))) (by rfl)) (dss_cons (ds_set (i := 6) sc_law_onward.nd rfl (.inl rfl) (dx_or (dx_cmp (op_eqD hr.units) eqG_ok (dx_var 0) (dx_str [100]) (nomark _)) (dx_one (dx_cmp (op_in2 rfl rfl rfl (ru65 hr)) (inG2_ok rfl) (dx_var 1) (dx_ix (ix_all2 rfl rfl rfl (ru65 hr)) (ixD2_ok rfl rfl) (dx_if (dt_cmp (op_eqD hr.units) eqG_ok (dx_var 0) (dx_str [118]) (nomark _)) (dx_var 4) (dx_var 5)) (dx_str [102, 97, 108, 108])) (by rfl)))))
    (dss_one (ds_ret (dx_if (dt_val (dx_var 6)) (dx_ix (ix_all2 rfl rfl rfl (ru65 hr)) (ixD2_ok rfl rfl) (dx_var 3) (dx_var 1)) (dx_var 1))))) dss_nil)
    (dss_one (ds_ret (dx_var 1)))))))))), (F.binds (ps := ["sign", "way"]) fun _ _ _ _ _ _ us hl => match us, hl with | [_, _], _ => rfl)⟩, F.kp⟩

abbrev s_law_walk : Stmt := topS 64
theorem sc_law_walk : FnScope ["strip", "gate", "width", "columns", "side", "index", "long", "row", "column", "way", "seen", "turn"] ["strip", "gate"] (defScope s_law_walk) := ⟨rfl, rfl, rfl, by decide +kernel, rfl, by decide +kernel, by decide +kernel⟩
theorem ok_law_walk {f : Addr} {fd : FuncData} (F : Fun G.K "_law_walk" "_law_walk" s_law_walk f fd) {a_law_onward : Addr} (g_law_onward : mg "_law_onward" = some (.ref a_law_onward)) (F_law_onward : FnG G mg base 1 2 a_law_onward m_law_onward) (n_len : mg "len" = none) (n_range : mg "range" = none) : FnG G mg base 2 2 f m_law_walk :=
  ⟨⟨_, ["strip", "gate"], okD (k := 1) (np := 2) (nx := 10) F sc_law_walk rfl rfl (fun B cdv A outer s H E hr => (show DSs _ _ _ _ b_law_walk from (dss_cons (ds_asg (dx_var 0) (dg_tup rfl rfl (dgs_cons (dg_name (i := 2) sc_law_walk.nd rfl (by first | exact Or.inl rfl | exact Or.inr rfl)) (dgs_cons (dg_name (i := 3) sc_law_walk.nd rfl (by first | exact Or.inl rfl | exact Or.inr rfl)) dgs_nil))))
    (dss_cons (ds_asg (dx_var 1) (dg_tup rfl rfl (dgs_cons (dg_name (i := 4) sc_law_walk.nd rfl (by first | exact Or.inl rfl | exact Or.inr rfl)) (dgs_cons (dg_name (i := 5) sc_law_walk.nd rfl (by first | exact Or.inl rfl | exact Or.inr rfl)) dgs_nil))))
    (dss_cons (ds_set (i := 6) sc_law_walk.nd rfl (.inl rfl) (dx_callB call_len (lenG_ok rfl) rfl n_len bt_len (da_cons (dx_var 3) da_nil)))
    (dss_cons (ds_asg (dx_get2 (ru1 hr) (dx_disp (dq_cons (dx_str [108, 101, 102, 116]) (dx_tup (da_cons (dx_frz (dx_var 5)) (da_cons dx_int (da_cons dx_int da_nil)))) (dq_cons (dx_str [114, 105, 103, 104, 116]) (dx_tup (da_cons (dx_frz (dx_var 5)) (da_cons (dx_op2 op_sub subG_ok (dx_var 6) dx_int) (da_cons dx_int da_nil)))) (dq_cons (dx_str [116, 111, 112]) (dx_tup (da_cons dx_int (da_cons (dx_frz (dx_var 5)) (da_cons dx_int da_nil)))) dq_nil)))) (dx_frz (dx_var 4)) (dx_tup (da_cons dx_int (da_cons dx_int (da_cons dx_int da_nil)))) ⟨rfl, rfl, rfl, rfl⟩) (dg_tup rfl rfl (dgs_cons (dg_name (i := 7) sc_law_walk.nd rfl (by first | exact Or.inl rfl | exact Or.inr rfl)) (dgs_cons (dg_name (i := 8) sc_law_walk.nd rfl (by first | exact Or.inl rfl | exact Or.inr rfl)) (dgs_cons (dg_name (i := 9) sc_law_walk.nd rfl (by first | exact Or.inl rfl | exact Or.inr rfl)) dgs_nil)))))
    (dss_cons (ds_if (dt_cmp (op_eqD hr.units) eqG_ok (dx_var 4) (dx_str [98, 111, 116, 116, 111, 109]) (nomark _)) (dss_one (ds_par3 (i := 7) (j := 8) (l := 9) rfl sc_law_walk.nd rfl rfl rfl (by decide) (by decide) (by decide) rfl rfl rfl (da_cons (dx_op2 op_sub subG_ok (dx_var 2) dx_int) (da_cons (dx_frz (dx_var 5)) (da_cons dx_int da_nil))) (by rfl))) dss_nil)
    (dss_cons (ds_set (i := 10) sc_law_walk.nd rfl (.inl rfl) (dx_lst da_nil))
    (dss_cons (ds_for (passes_of rfl) rfl (di_range1 rfl n_range (da_cons (dx_op2 op_addG (addG_ok rfl) (dx_op2 op_mul2 (mulG2_ok rfl) (dx_op2 op_mul2 (mulG2_ok rfl) dx_int (dx_var 2)) (dx_var 6)) dx_int) da_nil)) (dg_name (i := 11) sc_law_walk.nd rfl (by first | exact Or.inl rfl | exact Or.inr rfl)) (dss_cons (ds_if (DW.dt (dw_or (dt_cmp op_lt ltG_ok (dx_var 8) dx_int (nomark _)) (dw_or1 (dt_cmp op_ge geG_ok (dx_var 8) (dx_var 6) (nomark _))))) (dss_one (ds_ret (dx_tup (da_cons (dx_tup (da_cons (dx_if (dt_cmp op_lt ltG_ok (dx_var 8) dx_int (nomark _)) (dx_str [108, 101, 102, 116]) (dx_str [114, 105, 103, 104, 116])) (da_cons (dx_frz (dx_var 7)) da_nil))) (da_cons (dx_frz (dx_var 10)) da_nil))))) dss_nil)
    (dss_cons (ds_if (DW.dt (dw_or (dt_cmp op_lt ltG_ok (dx_var 7) dx_int (nomark _)) (dw_or1 (dt_cmp op_ge geG_ok (dx_var 7) (dx_var 2) (nomark _))))) (dss_one (ds_ret (dx_tup (da_cons (dx_tup (da_cons (dx_if (dt_cmp op_lt ltG_ok (dx_var 7) dx_int (nomark _)) (dx_str [116, 111, 112]) (dx_str [98, 111, 116, 116, 111, 109])) (da_cons (dx_frz (dx_var 8)) da_nil))) (da_cons (dx_frz (dx_var 10)) da_nil))))) dss_nil)
    (dss_cons (ds_if (dt_cmp (op_in2 rfl rfl rfl (ru65 hr)) (inG2_ok rfl) (dx_tup (da_cons (dx_frz (dx_var 7)) (da_cons (dx_frz (dx_var 8)) (da_cons (dx_frz (dx_var 9)) da_nil)))) (dx_var 10) (by rfl)) (dss_one (ds_ret (dx_tup (da_cons (dx_tup (da_cons (dx_str [99, 97, 117, 103, 104, 116]) (da_cons dx_int da_nil))) (da_cons (dx_frz (dx_var 10)) da_nil))))) dss_nil)
    (dss_cons (ds_app (i := 10) rfl (by first | exact Or.inl rfl | exact Or.inr (Or.inl rfl) | exact Or.inr (Or.inr rfl)) (by decide) (by decide) (dx_tup (da_cons (dx_frz (dx_var 7)) (da_cons (dx_frz (dx_var 8)) (da_cons (dx_frz (dx_var 9)) da_nil)))))
    (dss_cons (ds_set (i := 9) sc_law_walk.nd rfl (.inl rfl) (dx_fn F_law_onward (hr.mono (by decide)) g_law_onward (L2N.takes_of rfl rfl rfl rfl) (da_cons (dx_ix (ix_all2 rfl rfl rfl (ru65 hr)) (ixD2_ok rfl rfl) (dx_ix (ix_all2 rfl rfl rfl (ru65 hr)) (ixD2_ok rfl rfl) (dx_var 3) (dx_frz (dx_var 8))) (dx_frz (dx_var 7))) (da_cons (dx_frz (dx_var 9)) da_nil))))
    (dss_cons (ds_if (dt_cmp (op_eqD hr.units) eqG_ok (dx_var 9) (dx_neg dx_int) (nomark _)) (dss_one (ds_ret (dx_tup (da_cons (dx_tup (da_cons (dx_str [115, 116, 111, 112, 112, 101, 100]) (da_cons dx_int da_nil))) (da_cons (dx_frz (dx_var 10)) da_nil))))) dss_nil)
    (dss_one (ds_par (i := 7) (j := 8) rfl sc_law_walk.nd rfl rfl (by decide) rfl rfl (da_cons (dx_frz (dx_op2 op_addG (addG_ok rfl) (dx_var 7) (dx_ix (ix_all2 rfl rfl rfl (ru65 hr)) (ixD2_ok rfl rfl) (dx_lst (da_cons dx_int (da_cons dx_int (da_cons dx_int (da_cons (dx_neg dx_int) da_nil))))) (dx_frz (dx_var 9))))) (da_cons (dx_frz (dx_op2 op_addG (addG_ok rfl) (dx_var 8) (dx_ix (ix_all2 rfl rfl rfl (ru65 hr)) (ixD2_ok rfl rfl) (dx_lst (da_cons dx_int (da_cons (dx_neg dx_int) (da_cons dx_int (da_cons dx_int da_nil))))) (dx_frz (dx_var 9))))) da_nil)) (by rfl))))))))))
    (dss_one (ds_ret (dx_tup (da_cons (dx_tup (da_cons (dx_str [99, 97, 117, 103, 104, 116]) (da_cons dx_int da_nil))) (da_cons (dx_frz (dx_var 10)) da_nil)))))))))))))), (F.binds (ps := ["strip", "gate"]) fun _ _ _ _ _ _ us hl => match us, hl with | [_, _], _ => rfl)⟩, F.kp⟩

abbrev s_law_plain : Stmt := topS 65
theorem sc_law_plain : FnScope ["end"] ["end"] (defScope s_law_plain) := ⟨rfl, rfl, rfl, by decide +kernel, rfl, by decide +kernel, by decide +kernel⟩
theorem ok_law_plain {f : Addr} {fd : FuncData} (F : Fun G.K "_law_plain" "_law_plain" s_law_plain f fd) : FnG G mg base 1 1 f m_law_plain :=
  ⟨⟨_, ["end"], okD (k := 0) (np := 1) (nx := 0) F sc_law_plain rfl rfl (fun B cdv A outer s H E hr => (show DSs _ _ _ _ b_law_plain from (dss_one (ds_ret (dx_if (dt_cmp (op_in2 rfl rfl rfl (ru65 hr)) (inG2_ok rfl) (dx_ix (ix_all2 rfl rfl rfl (ru65 hr)) (ixD2_ok rfl rfl) (dx_var 0) dx_int) (dx_lst (da_cons (dx_str [108, 101, 102, 116]) (da_cons (dx_str [114, 105, 103, 104, 116]) da_nil))) (by rfl)) (dx_var 0) (dx_tup (da_cons (dx_ix (ix_all2 rfl rfl rfl (ru65 hr)) (ixD2_ok rfl rfl) (dx_var 0) dx_int) (da_cons dx_int da_nil)))))))), (F.binds (ps := ["end"]) fun _ _ _ _ _ _ us hl => match us, hl with | [_], _ => rfl)⟩, F.kp⟩

abbrev s_law_table : Stmt := topS 66
theorem sc_law_table : FnScope ["strip", "rows", "side", "row"] ["strip"] (defScope s_law_table) := ⟨rfl, rfl, rfl, by decide +kernel, rfl, by decide +kernel, by decide +kernel⟩
theorem ok_law_table {f : Addr} {fd : FuncData} (F : Fun G.K "_law_table" "_law_table" s_law_table f fd) {a_law_plain : Addr} (g_law_plain : mg "_law_plain" = some (.ref a_law_plain)) (F_law_plain : FnG G mg base 1 1 a_law_plain m_law_plain) {a_law_walk : Addr} (g_law_walk : mg "_law_walk" = some (.ref a_law_walk)) (F_law_walk : FnG G mg base 2 2 a_law_walk m_law_walk) (n_range : mg "range" = none) (n_tuple : mg "tuple" = none) : FnG G mg base 3 1 f m_law_table :=
  ⟨⟨_, ["strip"], okD (k := 2) (np := 1) (nx := 3) F sc_law_table rfl rfl (fun B cdv A outer s H E hr => (show DSs _ _ _ _ b_law_table from (dss_cons (ds_set (i := 1) sc_law_table.nd rfl (.inl rfl) (dx_lst da_nil))
    (dss_cons (ds_for (passes_of rfl) rfl (di_seq rfl (dx_lst (da_cons (dx_str [108, 101, 102, 116]) (da_cons (dx_str [114, 105, 103, 104, 116]) da_nil)))) (dg_name (i := 2) sc_law_table.nd rfl (by first | exact Or.inl rfl | exact Or.inr rfl)) (dss_one (ds_app (i := 1) rfl (by first | exact Or.inl rfl | exact Or.inr (Or.inl rfl) | exact Or.inr (Or.inr rfl)) (by decide) (by decide) (dx_callTy call_tuple_of (tupleG_ok rfl) rfl n_tuple bt_tuple (da_cons (dx_lc (own := [("row", 3)]) rfl sc_law_table.nd (di_lim (di_range1 rfl n_range (da_cons (dx_ix (ix_all2 rfl rfl rfl (ru65 hr)) (ixD2_ok rfl rfl) (dx_var 0) dx_int) da_nil))) (blkOk_by (N := ["strip", "rows", "side", "row"]) (sc := defScope s_law_table) (by decide +kernel)) (his := by decide) (fun _ _ _ _ _ => (dg_name (i := 3) sc_law_table.nd rfl (by first | exact Or.inl rfl | exact Or.inr rfl))) (fun _ _ _ _ _ => dts_nil) (fun _ _ _ _ _ => (dx_frz (dx_fn F_law_plain (hr.mono (by decide)) g_law_plain takesF (da_cons (dx_ix (ix_all2 rfl rfl rfl (ru65 hr)) (ixD2_ok rfl rfl) (dx_fn F_law_walk (hr.mono (by decide)) g_law_walk takesF (da_cons (dx_var 0) (da_cons (dx_tup (da_cons (dx_var 2) (da_cons (dx_var 3) da_nil))) da_nil))) dx_int) da_nil))))) da_nil)))))
    (dss_one (ds_ret (dx_tup (da_cons (dx_ix (ix_all2 rfl rfl rfl (ru65 hr)) (ixD2_ok rfl rfl) (dx_var 1) dx_int) (da_cons (dx_ix (ix_all2 rfl rfl rfl (ru65 hr)) (ixD2_ok rfl rfl) (dx_var 1) dx_int) da_nil))))))))), (F.binds (ps := ["strip"]) fun _ _ _ _ _ _ us hl => match us, hl with | [_], _ => rfl)⟩, F.kp⟩

abbrev s_law_times : Stmt := topS 67
theorem sc_law_times : FnScope ["one", "other", "rows", "side", "found", "row", "end", "here", "turn", "inner"] ["one", "other"] (defScope s_law_times) := ⟨rfl, rfl, rfl, by decide +kernel, rfl, by decide +kernel, by decide +kernel⟩
theorem ok_law_times {f : Addr} {fd : FuncData} (F : Fun G.K "_law_times" "_law_times" s_law_times f fd) (n_len : mg "len" = none) (n_range : mg "range" = none) (n_tuple : mg "tuple" = none) : FnG G mg base 1 2 f m_law_times :=
  ⟨⟨_, ["one", "other"], okD (k := 0) (np := 2) (nx := 8) F sc_law_times rfl rfl (fun B cdv A outer s H E hr => (show DSs _ _ _ _ b_law_times from (dss_cons (ds_set (i := 2) sc_law_times.nd rfl (.inl rfl) (dx_lst da_nil))
    (dss_cons (ds_for (passes_of rfl) rfl (di_seq rfl (dx_tup (da_cons dx_int (da_cons dx_int da_nil)))) (dg_name (i := 3) sc_law_times.nd rfl (by first | exact Or.inl rfl | exact Or.inr rfl)) (dss_cons (ds_set (i := 4) sc_law_times.nd rfl (.inl rfl) (dx_lst da_nil))
    (dss_cons (ds_for (passes_of rfl) rfl (di_range1 rfl n_range (da_cons (dx_callB call_len (lenG_ok rfl) rfl n_len bt_len (da_cons (dx_ix (ix_all2 rfl rfl rfl (ru65 hr)) (ixD2_ok rfl rfl) (dx_var 0) dx_int) da_nil)) da_nil)) (dg_name (i := 5) sc_law_times.nd rfl (by first | exact Or.inl rfl | exact Or.inr rfl)) (dss_cons (ds_par (i := 6) (j := 7) rfl sc_law_times.nd rfl rfl (by decide) rfl rfl (da_cons (dx_ix (ix_all2 rfl rfl rfl (ru65 hr)) (ixD2_ok rfl rfl) (dx_ix (ix_all2 rfl rfl rfl (ru65 hr)) (ixD2_ok rfl rfl) (dx_ix (ix_all2 rfl rfl rfl (ru65 hr)) (ixD2_ok rfl rfl) (dx_tup (da_cons (dx_var 0) (da_cons (dx_var 1) da_nil))) (dx_var 3)) (dx_var 3)) (dx_var 5)) (da_cons (dx_var 3) da_nil)) (by rfl))
    (dss_cons (ds_for (passes_of rfl) rfl (di_range1 rfl n_range (da_cons (dx_op2 op_addG (addG_ok rfl) (dx_op2 op_mul2 (mulG2_ok rfl) dx_int (dx_callB call_len (lenG_ok rfl) rfl n_len bt_len (da_cons (dx_ix (ix_all2 rfl rfl rfl (ru65 hr)) (ixD2_ok rfl rfl) (dx_var 0) dx_int) da_nil))) dx_int) da_nil)) (dg_name (i := 8) sc_law_times.nd rfl (by first | exact Or.inl rfl | exact Or.inr rfl)) (dss_one (ds_if (DW.dt (dw_and (dt_cmp (op_eqD hr.units) eqG_ok (dx_var 7) dx_int (nomark _)) (dw_and1 (dt_cmp (op_eqD hr.units) eqG_ok (dx_ix (ix_all2 rfl rfl rfl (ru65 hr)) (ixD2_ok rfl rfl) (dx_var 6) dx_int) (dx_str [114, 105, 103, 104, 116]) (nomark _))))) (dss_one (ds_par (i := 6) (j := 7) rfl sc_law_times.nd rfl rfl (by decide) rfl rfl (da_cons (dx_ix (ix_all2 rfl rfl rfl (ru65 hr)) (ixD2_ok rfl rfl) (dx_ix (ix_all2 rfl rfl rfl (ru65 hr)) (ixD2_ok rfl rfl) (dx_var 1) dx_int) (dx_ix (ix_all2 rfl rfl rfl (ru65 hr)) (ixD2_ok rfl rfl) (dx_var 6) dx_int)) (da_cons dx_int da_nil)) (by rfl))) (dss_one (ds_if (DW.dt (dw_and (dt_cmp (op_eqD hr.units) eqG_ok (dx_var 7) dx_int (nomark _)) (dw_and1 (dt_cmp (op_eqD hr.units) eqG_ok (dx_ix (ix_all2 rfl rfl rfl (ru65 hr)) (ixD2_ok rfl rfl) (dx_var 6) dx_int) (dx_str [108, 101, 102, 116]) (nomark _))))) (dss_one (ds_par (i := 6) (j := 7) rfl sc_law_times.nd rfl rfl (by decide) rfl rfl (da_cons (dx_ix (ix_all2 rfl rfl rfl (ru65 hr)) (ixD2_ok rfl rfl) (dx_ix (ix_all2 rfl rfl rfl (ru65 hr)) (ixD2_ok rfl rfl) (dx_var 0) dx_int) (dx_ix (ix_all2 rfl rfl rfl (ru65 hr)) (ixD2_ok rfl rfl) (dx_var 6) dx_int)) (da_cons dx_int da_nil)) (by rfl))) dss_nil)))))
    (dss_cons (ds_set (i := 9) sc_law_times.nd rfl (.inl rfl) (dx_or (dx_and (dx_cmp (op_eqD hr.units) eqG_ok (dx_var 7) dx_int (nomark _)) (dx_one (dx_cmp (op_eqD hr.units) eqG_ok (dx_ix (ix_all2 rfl rfl rfl (ru65 hr)) (ixD2_ok rfl rfl) (dx_var 6) dx_int) (dx_str [114, 105, 103, 104, 116]) (nomark _)))) (dx_one (dx_and (dx_cmp (op_eqD hr.units) eqG_ok (dx_var 7) dx_int (nomark _)) (dx_one (dx_cmp (op_eqD hr.units) eqG_ok (dx_ix (ix_all2 rfl rfl rfl (ru65 hr)) (ixD2_ok rfl rfl) (dx_var 6) dx_int) (dx_str [108, 101, 102, 116]) (nomark _)))))))
    (dss_one (ds_app (i := 4) rfl (by first | exact Or.inl rfl | exact Or.inr (Or.inl rfl) | exact Or.inr (Or.inr rfl)) (by decide) (by decide) (dx_frz (dx_if (dt_val (dx_var 9)) (dx_tup (da_cons (dx_str [99, 97, 117, 103, 104, 116]) (da_cons dx_int da_nil))) (dx_var 6)))))))))
    (dss_one (ds_app (i := 2) rfl (by first | exact Or.inl rfl | exact Or.inr (Or.inl rfl) | exact Or.inr (Or.inr rfl)) (by decide) (by decide) (dx_callTy call_tuple_of (tupleG_ok rfl) rfl n_tuple bt_tuple (da_cons (dx_var 4) da_nil)))))))
    (dss_one (ds_ret (dx_tup (da_cons (dx_ix (ix_all2 rfl rfl rfl (ru65 hr)) (ixD2_ok rfl rfl) (dx_var 2) dx_int) (da_cons (dx_ix (ix_all2 rfl rfl rfl (ru65 hr)) (ixD2_ok rfl rfl) (dx_var 2) dx_int) da_nil))))))))), (F.binds (ps := ["one", "other"]) fun _ _ _ _ _ _ us hl => match us, hl with | [_, _], _ => rfl)⟩, F.kp⟩

abbrev s_law_column : Stmt := topS 68
theorem sc_law_column : FnScope ["source", "width", "some", "row"] ["source", "width"] (defScope s_law_column) := ⟨rfl, rfl, rfl, by decide +kernel, rfl, by decide +kernel, by decide +kernel⟩
theorem ok_law_column {f : Addr} {fd : FuncData} (F : Fun G.K "_law_column" "_law_column" s_law_column f fd) {a_law_chosen : Addr} (g_law_chosen : mg "_law_chosen" = some (.ref a_law_chosen)) (F_law_chosen : FnG G mg base 2 2 a_law_chosen m_law_chosen) {a_law_pick : Addr} (g_law_pick : mg "_law_pick" = some (.ref a_law_pick)) (F_law_pick : FnG G mg base 1 2 a_law_pick m_law_pick) (n_len : mg "len" = none) (n_range : mg "range" = none) : FnG G mg base 3 2 f m_law_column :=
  ⟨⟨_, ["source", "width"], okD (k := 2) (np := 2) (nx := 2) F sc_law_column rfl rfl (fun B cdv A outer s H E hr => (show DSs _ _ _ _ b_law_column from (dss_cons (ds_set (i := 2) sc_law_column.nd rfl (.inr rfl) (dx_lst (da_cons (dx_str [46]) (da_cons (dx_str [46]) (da_cons (dx_str [100]) (da_cons (dx_str [112]) (da_cons (dx_str [113]) (da_cons (dx_str [117]) (da_cons (dx_str [118]) (da_cons (dx_str [119]) (da_cons (dx_str [35]) da_nil)))))))))))
    (dss_one (ds_ret (dx_join rfl (dx_str []) (dx_lc (own := [("row", 3)]) rfl sc_law_column.nd (di_lim (di_range1 rfl n_range (da_cons (dx_var 1) da_nil))) (blkOk_by (N := ["source", "width", "some", "row"]) (sc := defScope s_law_column) (by decide +kernel)) (his := by decide) (fun _ _ _ _ _ => (dg_name (i := 3) sc_law_column.nd rfl (by first | exact Or.inl rfl | exact Or.inr rfl))) (fun _ _ _ _ _ => dts_nil) (fun _ _ _ _ _ => (dx_frz (dx_fn F_law_chosen (hr.mono (by decide)) g_law_chosen takesF (da_cons (dx_var 0) (da_cons (dx_frz (dx_slice rfl (dx_var 2) do_none (do_some (dx_op2 op_sub subG_ok (dx_callB call_len (lenG_ok rfl) rfl n_len bt_len (da_cons (dx_var 2) da_nil)) (dx_fn F_law_pick (hr.mono (by decide)) g_law_pick takesF (da_cons (dx_var 0) (da_cons dx_int da_nil))))))) da_nil)))))))))))), (F.binds (ps := ["source", "width"]) fun _ _ _ _ _ _ us hl => match us, hl with | [_, _], _ => rfl)⟩, F.kp⟩

abbrev s_law_strip : Stmt := topS 69
theorem sc_law_strip : FnScope ["source", "width", "most", "turn"] ["source", "width", "most"] (defScope s_law_strip) := ⟨rfl, rfl, rfl, by decide +kernel, rfl, by decide +kernel, by decide +kernel⟩
theorem ok_law_strip {f : Addr} {fd : FuncData} (F : Fun G.K "_law_strip" "_law_strip" s_law_strip f fd) {a_law_column : Addr} (g_law_column : mg "_law_column" = some (.ref a_law_column)) (F_law_column : FnG G mg base 3 2 a_law_column m_law_column) {a_law_pick : Addr} (g_law_pick : mg "_law_pick" = some (.ref a_law_pick)) (F_law_pick : FnG G mg base 1 2 a_law_pick m_law_pick) (n_range : mg "range" = none) (n_tuple : mg "tuple" = none) : FnG G mg base 4 3 f m_law_strip :=
  ⟨⟨_, ["source", "width", "most"], okD (k := 3) (np := 3) (nx := 1) F sc_law_strip rfl rfl (fun B cdv A outer s H E hr => (show DSs _ _ _ _ b_law_strip from (dss_one (ds_ret (dx_tup (da_cons (dx_var 1) (da_cons (dx_callTy call_tuple_of (tupleG_ok rfl) rfl n_tuple bt_tuple (da_cons (dx_lc (own := [("turn", 3)]) rfl sc_law_strip.nd (di_lim (di_range1 rfl n_range (da_cons (dx_frz (dx_fn F_law_pick (hr.mono (by decide)) g_law_pick (L2N.takes_of rfl rfl rfl rfl) (da_cons (dx_var 0) (da_cons (dx_op2 op_addG (addG_ok rfl) (dx_var 2) dx_int) da_nil)))) da_nil))) (blkOk_by (N := ["source", "width", "most", "turn"]) (sc := defScope s_law_strip) (by decide +kernel)) (his := by decide) (fun _ _ _ _ _ => (dg_name (i := 3) sc_law_strip.nd rfl (by first | exact Or.inl rfl | exact Or.inr rfl))) (fun _ _ _ _ _ => dts_nil) (fun _ _ _ _ _ => (dx_frz (dx_fn F_law_column (hr.mono (by decide)) g_law_column takesF (da_cons (dx_var 0) (da_cons (dx_var 1) da_nil)))))) da_nil)) da_nil))))))), (F.binds (ps := ["source", "width", "most"]) fun _ _ _ _ _ _ us hl => match us, hl with | [_, _, _], _ => rfl)⟩, F.kp⟩

abbrev s_law_refused : Stmt := topS 70
theorem sc_law_refused : FnScope ["call", "e"] ["call"] (defScope s_law_refused) := ⟨rfl, rfl, rfl, by decide +kernel, rfl, by decide +kernel, by decide +kernel⟩
theorem ok_law_refused {g CS fE : Addr} {dV kV doc pm cdv ct oc : Value} {an od : Option Addr} {osl : Array (Option Value)} (hm : mg "_law_refused" = some (.ref g)) (hk : PySem.W.keepIn G.K (.ref g) = true)
    (lk : G.K.lookup g = some ⟨oc, od, .func (PySem.W.fnOf "_law_refused" "_law_refused" (defArgs s_law_refused) (defBody s_law_refused) (defScope s_law_refused) dV kV doc pm an cdv ct), osl⟩) (hc : PySem.W.codeIn G.K cdv "_law_refused" = true) (hb : L2.Binds G.K (PySem.W.fnOf "_law_refused" "_law_refused" (defArgs s_law_refused) (defBody s_law_refused) (defScope s_law_refused) dV kV doc pm an cdv ct) ["call"] [])
    (hS : mg "StripError" = some (.ref CS)) (hE : mg "_law_error" = some (.ref fE)) (kE : PySem.W.keepIn G.K (.ref fE) = true) (xm : ∀ n cls, G.ca n = some cls → ∃ D, cls = .ref D ∧ PySem.W.exmOne G.K cls (.ref CS) = some true)
    (FE : ∀ n D, G.ca n = some (.ref D) → ∃ fd ps, FnE G.P G.w G.K mg base (L2N.CX G.P G.w) 1 fE fd ps (spE G D (m_law_error n)) ∧ L2.Binds G.K fd ps []) : RefOk G mg base "_law_refused" m_law_error :=
  ⟨g, CS, "call", _, _, _, _, dV, kV, doc, pm, cdv, ct, oc, an, od, osl, hm, hk, lk, hc, hb, sc_law_refused, rfl, .inl rfl, by decide, by decide,
    fun X q hP hw hK hmg hbase => ref_gives (X := X) (G := G) hK rfl (by rw [hmg]; exact hS) (by decide) (fun f => rfl) sc_law_refused.nd rfl rfl (by decide) (by decide) rfl (by rw [hmg]; exact hE) (by rw [hK]; exact kE) (by decide) (fun n D h => by rw [hP, hw, hK, hmg, hbase]; exact FE n D h), xm⟩

abbrev s_law_error : Stmt := topS 71
theorem sc_law_error : FnScope ["e", "some", "word_so", "good"] ["e"] (defScope s_law_error) := ⟨rfl, rfl, rfl, by decide +kernel, rfl, by decide +kernel, by decide +kernel⟩
theorem ok_law_error {f D : Addr} {fd : FuncData} {n : Nat} (F : Fun G.K "_law_error" "_law_error" s_law_error f fd) (hn : G.ca n = some (.ref D)) (xc : ∀ n D, G.ca n = some (.ref D) → ExcC G.K D) (s_InvalidColumn : ClsK G mg "InvalidColumn" 4) (s_InvalidEcho : ClsK G mg "InvalidEcho" 14) (s_InvalidEnd : ClsK G mg "InvalidEnd" 6) (s_InvalidGate : ClsK G mg "InvalidGate" 1) (s_InvalidNumber : ClsK G mg "InvalidNumber" 12) (s_InvalidParts : ClsK G mg "InvalidParts" 11) (s_InvalidPattern : ClsK G mg "InvalidPattern" 9) (s_InvalidRow : ClsK G mg "InvalidRow" 3) (s_InvalidSeen : ClsK G mg "InvalidSeen" 10) (s_InvalidSide : ClsK G mg "InvalidSide" 2) (s_InvalidSign : ClsK G mg "InvalidSign" 5) (s_InvalidStock : ClsK G mg "InvalidStock" 8) (s_InvalidStrip : ClsK G mg "InvalidStrip" 0) (s_InvalidTable : ClsK G mg "InvalidTable" 7) (s_InvalidText : ClsK G mg "InvalidText" 19) (s_InvalidWidth : ClsK G mg "InvalidWidth" 13) (s_NothingToUndo : ClsK G mg "NothingToUndo" 17) (s_TooMany : ClsK G mg "TooMany" 18) (s_TooWide : ClsK G mg "TooWide" 15) (s_Unlike : ClsK G mg "Unlike" 16) (n_isinstance : mg "isinstance" = none) : FnE G.P G.w G.K mg base (L2N.CX G.P G.w) 1 f fd ["e"] (spE G D (m_law_error n)) :=
  okE (k := 0) (nx := 3) F sc_law_error rfl rfl (fun p B cdv A outer s H E hot hz hf hr => (show DSs _ _ _ _ (b_law_error n) from (dss_cons (ds_set (i := 1) sc_law_error.nd rfl (.inl rfl) (dx_lst (da_cons (dx_tup (da_cons (dx_str [115, 116, 114, 105, 112]) (da_cons (dx_isK s_InvalidStrip hn (xc n D hn) hz hf (List.mem_cons_self ..) rfl n_isinstance (dx_var 0)) da_nil))) (da_cons (dx_tup (da_cons (dx_str [103, 97, 116, 101]) (da_cons (dx_isK s_InvalidGate hn (xc n D hn) hz hf (List.mem_cons_self ..) rfl n_isinstance (dx_var 0)) da_nil))) da_nil))))
    (dss_cons (ds_set (i := 1) sc_law_error.nd rfl (.inl rfl) (dx_op2 op_addG (addG_ok rfl) (dx_var 1) (dx_lst (da_cons (dx_tup (da_cons (dx_str [115, 105, 100, 101]) (da_cons (dx_isK s_InvalidSide hn (xc n D hn) hz hf (List.mem_cons_self ..) rfl n_isinstance (dx_var 0)) da_nil))) (da_cons (dx_tup (da_cons (dx_str [114, 111, 119]) (da_cons (dx_isK s_InvalidRow hn (xc n D hn) hz hf (List.mem_cons_self ..) rfl n_isinstance (dx_var 0)) da_nil))) da_nil)))))
    (dss_cons (ds_set (i := 1) sc_law_error.nd rfl (.inl rfl) (dx_op2 op_addG (addG_ok rfl) (dx_var 1) (dx_lst (da_cons (dx_tup (da_cons (dx_str [99, 111, 108, 117, 109, 110]) (da_cons (dx_isK s_InvalidColumn hn (xc n D hn) hz hf (List.mem_cons_self ..) rfl n_isinstance (dx_var 0)) da_nil))) (da_cons (dx_tup (da_cons (dx_str [115, 105, 103, 110]) (da_cons (dx_isK s_InvalidSign hn (xc n D hn) hz hf (List.mem_cons_self ..) rfl n_isinstance (dx_var 0)) da_nil))) da_nil)))))
    (dss_cons (ds_set (i := 1) sc_law_error.nd rfl (.inl rfl) (dx_op2 op_addG (addG_ok rfl) (dx_var 1) (dx_lst (da_cons (dx_tup (da_cons (dx_str [101, 110, 100]) (da_cons (dx_isK s_InvalidEnd hn (xc n D hn) hz hf (List.mem_cons_self ..) rfl n_isinstance (dx_var 0)) da_nil))) (da_cons (dx_tup (da_cons (dx_str [116, 97, 98, 108, 101]) (da_cons (dx_isK s_InvalidTable hn (xc n D hn) hz hf (List.mem_cons_self ..) rfl n_isinstance (dx_var 0)) da_nil))) da_nil)))))
    (dss_cons (ds_set (i := 1) sc_law_error.nd rfl (.inl rfl) (dx_op2 op_addG (addG_ok rfl) (dx_var 1) (dx_lst (da_cons (dx_tup (da_cons (dx_str [115, 116, 111, 99, 107]) (da_cons (dx_isK s_InvalidStock hn (xc n D hn) hz hf (List.mem_cons_self ..) rfl n_isinstance (dx_var 0)) da_nil))) (da_cons (dx_tup (da_cons (dx_str [112, 97, 116, 116, 101, 114, 110]) (da_cons (dx_isK s_InvalidPattern hn (xc n D hn) hz hf (List.mem_cons_self ..) rfl n_isinstance (dx_var 0)) da_nil))) da_nil)))))
    (dss_cons (ds_set (i := 1) sc_law_error.nd rfl (.inl rfl) (dx_op2 op_addG (addG_ok rfl) (dx_var 1) (dx_lst (da_cons (dx_tup (da_cons (dx_str [115, 101, 101, 110]) (da_cons (dx_isK s_InvalidSeen hn (xc n D hn) hz hf (List.mem_cons_self ..) rfl n_isinstance (dx_var 0)) da_nil))) (da_cons (dx_tup (da_cons (dx_str [112, 97, 114, 116, 115]) (da_cons (dx_isK s_InvalidParts hn (xc n D hn) hz hf (List.mem_cons_self ..) rfl n_isinstance (dx_var 0)) da_nil))) da_nil)))))
    (dss_cons (ds_set (i := 1) sc_law_error.nd rfl (.inl rfl) (dx_op2 op_addG (addG_ok rfl) (dx_var 1) (dx_lst (da_cons (dx_tup (da_cons (dx_str [110, 117, 109, 98, 101, 114]) (da_cons (dx_isK s_InvalidNumber hn (xc n D hn) hz hf (List.mem_cons_self ..) rfl n_isinstance (dx_var 0)) da_nil))) (da_cons (dx_tup (da_cons (dx_str [119, 105, 100, 116, 104]) (da_cons (dx_isK s_InvalidWidth hn (xc n D hn) hz hf (List.mem_cons_self ..) rfl n_isinstance (dx_var 0)) da_nil))) da_nil)))))
    (dss_cons (ds_set (i := 1) sc_law_error.nd rfl (.inl rfl) (dx_op2 op_addG (addG_ok rfl) (dx_var 1) (dx_lst (da_cons (dx_tup (da_cons (dx_str [101, 99, 104, 111]) (da_cons (dx_isK s_InvalidEcho hn (xc n D hn) hz hf (List.mem_cons_self ..) rfl n_isinstance (dx_var 0)) da_nil))) (da_cons (dx_tup (da_cons (dx_str [119, 105, 100, 101]) (da_cons (dx_isK s_TooWide hn (xc n D hn) hz hf (List.mem_cons_self ..) rfl n_isinstance (dx_var 0)) da_nil))) da_nil)))))
    (dss_cons (ds_set (i := 1) sc_law_error.nd rfl (.inl rfl) (dx_op2 op_addG (addG_ok rfl) (dx_var 1) (dx_lst (da_cons (dx_tup (da_cons (dx_str [117, 110, 108, 105, 107, 101]) (da_cons (dx_isK s_Unlike hn (xc n D hn) hz hf (List.mem_cons_self ..) rfl n_isinstance (dx_var 0)) da_nil))) (da_cons (dx_tup (da_cons (dx_str [117, 110, 100, 111]) (da_cons (dx_isK s_NothingToUndo hn (xc n D hn) hz hf (List.mem_cons_self ..) rfl n_isinstance (dx_var 0)) da_nil))) da_nil)))))
    (dss_cons (ds_set (i := 1) sc_law_error.nd rfl (.inl rfl) (dx_op2 op_addG (addG_ok rfl) (dx_var 1) (dx_lst (da_cons (dx_tup (da_cons (dx_str [109, 97, 110, 121]) (da_cons (dx_isK s_TooMany hn (xc n D hn) hz hf (List.mem_cons_self ..) rfl n_isinstance (dx_var 0)) da_nil))) (da_cons (dx_tup (da_cons (dx_str [116, 101, 120, 116]) (da_cons (dx_isK s_InvalidText hn (xc n D hn) hz hf (List.mem_cons_self ..) rfl n_isinstance (dx_var 0)) da_nil))) da_nil)))))
    (dss_one (ds_ret (dx_join rfl (dx_str [32]) (dx_lcH (own := [("word_so", 2), ("good", 3)]) hot (List.mem_cons_self ..) rfl sc_law_error.nd (dx_var 1) (blkOk_by (N := ["e", "some", "word_so", "good"]) (sc := defScope s_law_error) (by decide +kernel)) (his := by decide) (fun _ _ _ _ _ hc => (dg_tupH rfl hc (dgs_cons (dg_name (i := 2) sc_law_error.nd rfl (by first | exact Or.inl rfl | exact Or.inr rfl)) (dgs_cons (dg_name (i := 3) sc_law_error.nd rfl (by first | exact Or.inl rfl | exact Or.inr rfl)) dgs_nil)))) (fun _ _ _ _ _ => (dts_one (dt_val (dx_var 3)))) (fun _ _ _ _ _ => (dx_var 2))))))))))))))))))

abbrev s_law_one : Stmt := topS 72
theorem sc_law_one : FnScope ["call", "one"] ["call", "one"] (defScope s_law_one) := ⟨rfl, rfl, rfl, by decide +kernel, rfl, by decide +kernel, by decide +kernel⟩
theorem ok_law_one {f : Addr} {fd : FuncData} {cc_law_one P_law_one : Addr} (F : Fun G.K "_law_one" "_law_one" s_law_one f fd) (hcc : fd.code = .ref cc_law_one) (T_tab : FtOk G mg base 7 FT) (L_law_one : LamT G mg base cc_law_one P_law_one "_law_one.<locals>.<lambda>") (R_ref : RefOk G mg base "_law_refused" m_law_error) : FnG G mg base 10 2 f m_law_one :=
  ⟨⟨_, ["call", "one"], okL (k := 9) (np := 2) (nx := 0) F hcc sc_law_one rfl rfl (fun B A outer s H E hr => (show DSs _ _ _ _ b_law_one from (dss_one (ds_ret (dx_ref (k := 7) R_ref L_law_one (hr.mono (by decide)) (fun A outer s H E f1 c1 hr => (dx_callV (i := 0) T_tab (hr.mono (by decide)) rfl (by first | exact Or.inl rfl | exact Or.inr (Or.inl rfl) | exact Or.inr (Or.inr rfl)) (L2N.takes_of rfl rfl rfl rfl) (da_cons (dx_var 1) da_nil)))))))), (F.binds (ps := ["call", "one"]) fun _ _ _ _ _ _ us hl => match us, hl with | [_, _], _ => rfl)⟩, F.kp⟩

abbrev s_law_power : Stmt := topS 73
theorem sc_law_power : FnScope ["width", "once", "times", "rows", "begin"] ["width", "once", "times"] (defScope s_law_power) := ⟨rfl, rfl, rfl, by decide +kernel, rfl, by decide +kernel, by decide +kernel⟩
theorem ok_law_power {f : Addr} {fd : FuncData} (F : Fun G.K "_law_power" "_law_power" s_law_power f fd) {a_law_table : Addr} (g_law_table : mg "_law_table" = some (.ref a_law_table)) (F_law_table : FnG G mg base 3 1 a_law_table m_law_table) {a_law_times : Addr} (g_law_times : mg "_law_times" = some (.ref a_law_times)) (F_law_times : FnG G mg base 1 2 a_law_times m_law_times) (n_len : mg "len" = none) : FnG G mg base 4 3 f m_law_power :=
  ⟨⟨_, ["width", "once", "times"], okD (k := 3) (np := 3) (nx := 2) F sc_law_power rfl rfl (fun B cdv A outer s H E hr => (show DSs _ _ _ _ b_law_power from (dss_cons (ds_set (i := 3) sc_law_power.nd rfl (.inl rfl) (dx_lst (da_cons (dx_frz (dx_fn F_law_table (hr.mono (by decide)) g_law_table (L2N.takes_of rfl rfl rfl rfl) (da_cons (dx_tup (da_cons (dx_var 0) (da_cons (dx_tup da_nil) da_nil))) da_nil))) da_nil)))
    (dss_cons (ds_while (passes_of rfl) (dt_cmp (op_notIn2 rfl rfl rfl (ru65 hr)) (inG2_ok rfl) (dx_fn F_law_times (hr.mono (by decide)) g_law_times (L2N.takes_of rfl rfl rfl rfl) (da_cons (dx_ix (ix_all2 rfl rfl rfl (ru65 hr)) (ixD2_ok rfl rfl) (dx_var 3) (dx_neg dx_int)) (da_cons (dx_var 1) da_nil))) (dx_var 3) (by rfl)) (dss_one (ds_app (i := 3) rfl (by first | exact Or.inl rfl | exact Or.inr (Or.inl rfl) | exact Or.inr (Or.inr rfl)) (by decide) (by decide) (dx_frz (dx_fn F_law_times (hr.mono (by decide)) g_law_times (L2N.takes_of rfl rfl rfl rfl) (da_cons (dx_ix (ix_all2 rfl rfl rfl (ru65 hr)) (ixD2_ok rfl rfl) (dx_var 3) (dx_neg dx_int)) (da_cons (dx_var 1) da_nil)))))))
    (dss_cons (ds_set (i := 4) sc_law_power.nd rfl (.inl rfl) (dx_lindex (ru65 hr) (dx_var 3) (dx_fn F_law_times (hr.mono (by decide)) g_law_times (L2N.takes_of rfl rfl rfl rfl) (da_cons (dx_ix (ix_all2 rfl rfl rfl (ru65 hr)) (ixD2_ok rfl rfl) (dx_var 3) (dx_neg dx_int)) (da_cons (dx_var 1) da_nil)))))
    (dss_cons (ds_if (dt_cmp op_lt ltG_ok (dx_var 2) (dx_callB call_len (lenG_ok rfl) rfl n_len bt_len (da_cons (dx_var 3) da_nil)) (nomark _)) (dss_one (ds_ret (dx_tup (da_cons (dx_ix (ix_all2 rfl rfl rfl (ru65 hr)) (ixD2_ok rfl rfl) (dx_var 3) (dx_var 2)) (da_cons (dx_tup (da_cons (dx_frz (dx_var 4)) (da_cons (dx_op2 op_sub subG_ok (dx_callB call_len (lenG_ok rfl) rfl n_len bt_len (da_cons (dx_var 3) da_nil)) (dx_var 4)) da_nil))) da_nil))))) dss_nil)
    (dss_one (ds_ret (dx_tup (da_cons (dx_ix (ix_all2 rfl rfl rfl (ru65 hr)) (ixD2_ok rfl rfl) (dx_var 3) (dx_op2 op_addG (addG_ok rfl) (dx_var 4) (dx_op2 op_modN modG_ok (dx_op2 op_sub subG_ok (dx_var 2) (dx_var 4)) (dx_op2 op_sub subG_ok (dx_callB call_len (lenG_ok rfl) rfl n_len bt_len (da_cons (dx_var 3) da_nil)) (dx_var 4))))) (da_cons (dx_tup (da_cons (dx_frz (dx_var 4)) (da_cons (dx_op2 op_sub subG_ok (dx_callB call_len (lenG_ok rfl) rfl n_len bt_len (da_cons (dx_var 3) da_nil)) (dx_var 4)) da_nil))) da_nil))))))))))), (F.binds (ps := ["width", "once", "times"]) fun _ _ _ _ _ _ us hl => match us, hl with | [_, _, _], _ => rfl)⟩, F.kp⟩

abbrev s_law : Stmt := topS 74
theorem sc_law : FnScope ["script", "k", "source", "width", "words_so", "due", "long", "columns", "turn", "word", "times", "strip", "call", "one", "odds", "odd", "again"] ["script"] (defScope s_law) := ⟨rfl, rfl, rfl, by decide +kernel, rfl, by decide +kernel, by decide +kernel⟩
theorem ok_law {f : Addr} {fd : FuncData} (F : Fun G.K "law" "law" s_law f fd) (hm : ∀ ns : List Int, ns.length ≤ 63 → m_law none [.seq ns] = .ret (.imm (.bl true)) none) {a_law_chosen : Addr} (g_law_chosen : mg "_law_chosen" = some (.ref a_law_chosen)) (F_law_chosen : FnG G mg base 2 2 a_law_chosen m_law_chosen) {a_law_column : Addr} (g_law_column : mg "_law_column" = some (.ref a_law_column)) (F_law_column : FnG G mg base 3 2 a_law_column m_law_column) {a_law_one : Addr} (g_law_one : mg "_law_one" = some (.ref a_law_one)) (F_law_one : FnG G mg base 10 2 a_law_one m_law_one) {a_law_pick : Addr} (g_law_pick : mg "_law_pick" = some (.ref a_law_pick)) (F_law_pick : FnG G mg base 1 2 a_law_pick m_law_pick) {a_law_power : Addr} (g_law_power : mg "_law_power" = some (.ref a_law_power)) (F_law_power : FnG G mg base 4 3 a_law_power m_law_power) {a_law_source : Addr} (g_law_source : mg "_law_source" = some (.ref a_law_source)) (F_law_source : FnG G mg base 1 2 a_law_source m_law_source) {a_law_strip : Addr} (g_law_strip : mg "_law_strip" = some (.ref a_law_strip)) (F_law_strip : FnG G mg base 4 3 a_law_strip m_law_strip) {a_law_table : Addr} (g_law_table : mg "_law_table" = some (.ref a_law_table)) (F_law_table : FnG G mg base 3 1 a_law_table m_law_table) {a_law_times : Addr} (g_law_times : mg "_law_times" = some (.ref a_law_times)) (F_law_times : FnG G mg base 1 2 a_law_times m_law_times) {a_come_round : Addr} (g_come_round : mg "come_round" = some (.ref a_come_round)) (F_come_round : FnG G mg base 6 1 a_come_round m_come_round) {a_count_columns : Addr} (g_count_columns : mg "count_columns" = some (.ref a_count_columns)) (F_count_columns : FnG G mg base 6 1 a_count_columns m_count_columns) (i_come_round : G.fa 1 = some a_come_round) (i_count_columns : G.fa 2 = some a_count_columns) {a_long_table : Addr} (g_long_table : mg "long_table" = some (.ref a_long_table)) (i_long_table : G.fa 12 = some a_long_table) (n_len : mg "len" = none) (F_long_table : FnG G mg base 7 1 a_long_table m_long_table) (n_max : mg "max" = none) (n_min : mg "min" = none) (n_range : mg "range" = none) (n_tuple : mg "tuple" = none) : FnOk G.P G.w G.K mg base (L2N.CX G.P G.w) 11 f fd ["script"] (spLawT G) :=
  okLaw (k := 10) (nx := 16) F sc_law rfl rfl hm (fun B cdv A outer s H H2 E hr => (show DSs _ _ _ _ b_law from (dss_cons (ds_for (passes_of rfl) rfl (di_range1 rfl n_range (da_cons (dx_callB (call_max2 rfl) max2G_ok rfl n_max bt_max (da_cons dx_int (da_cons (dx_callB (call_min2 rfl) min2G_ok rfl n_min bt_min (da_cons dx_int (da_cons (dx_callB call_len (lenG_ok rfl) rfl n_len bt_len (da_cons (dx_var 0) da_nil)) da_nil))) da_nil))) da_nil)) (dg_name (i := 1) sc_law.nd rfl (by first | exact Or.inl rfl | exact Or.inr rfl)) (dss_cons (ds_set (i := 2) sc_law.nd rfl (.inr rfl) (dx_fn F_law_source (hr.mono (by decide)) g_law_source (L2N.takes_of rfl rfl rfl rfl) (da_cons (dx_var 0) (da_cons (dx_var 1) da_nil))))
    (dss_cons (ds_asg (dx_tup (da_cons (dx_op2 op_addG (addG_ok rfl) dx_int (dx_fn F_law_pick (hr.mono (by decide)) g_law_pick (L2N.takes_of rfl rfl rfl rfl) (da_cons (dx_var 2) (da_cons dx_int da_nil)))) (da_cons (dx_tup da_nil) da_nil))) (dg_tup rfl rfl (dgs_cons (dg_name (i := 3) sc_law.nd rfl (by first | exact Or.inl rfl | exact Or.inr rfl)) (dgs_cons (dg_name (i := 4) sc_law.nd rfl (by first | exact Or.inl rfl | exact Or.inr rfl)) dgs_nil))))
    (dss_cons (ds_par3 (i := 5) (j := 6) (l := 7) rfl sc_law.nd rfl rfl rfl (by decide) (by decide) (by decide) rfl rfl rfl (da_cons (dx_frz (dx_fn F_law_table (hr.mono (by decide)) g_law_table (L2N.takes_of rfl rfl rfl rfl) (da_cons (dx_tup (da_cons (dx_frz (dx_var 3)) (da_cons (dx_tup da_nil) da_nil))) da_nil))) (da_cons dx_int (da_cons (dx_tup da_nil) da_nil))) (by rfl))
    (dss_cons (ds_for (passes_of rfl) rfl (di_range1 rfl n_range (da_cons (dx_frz (dx_fn F_law_pick (hr.mono (by decide)) g_law_pick (L2N.takes_of rfl rfl rfl rfl) (da_cons (dx_var 2) (da_cons dx_int da_nil)))) da_nil)) (dg_name (i := 8) sc_law.nd rfl (by first | exact Or.inl rfl | exact Or.inr rfl)) (dss_cons (ds_set (i := 9) sc_law.nd rfl (.inl rfl) (dx_callTy call_tuple_of (tupleG_ok rfl) rfl n_tuple bt_tuple (da_cons (dx_lc (own := [("again", 16)]) rfl sc_law.nd (di_lim (di_range1 rfl n_range (da_cons (dx_op2 op_addG (addG_ok rfl) dx_int (dx_fn F_law_pick (hr.mono (by decide)) g_law_pick (L2N.takes_of rfl rfl rfl rfl) (da_cons (dx_var 2) (da_cons dx_int da_nil)))) da_nil))) (blkOk_by (N := ["script", "k", "source", "width", "words_so", "due", "long", "columns", "turn", "word", "times", "strip", "call", "one", "odds", "odd", "again"]) (sc := defScope s_law) (by decide +kernel)) (his := by decide) (fun _ _ _ _ _ => (dg_name (i := 16) sc_law.nd rfl (by first | exact Or.inl rfl | exact Or.inr rfl))) (fun _ _ _ _ _ => dts_nil) (fun _ _ _ _ _ => (dx_frz (dx_fn F_law_column (hr.mono (by decide)) g_law_column takesF (da_cons (dx_var 2) (da_cons (dx_frz (dx_var 3)) da_nil)))))) da_nil)))
    (dss_cons (ds_set (i := 10) sc_law.nd rfl (.inl rfl) (dx_fn F_law_chosen (hr.mono (by decide)) g_law_chosen (L2N.takes_of rfl rfl rfl rfl) (da_cons (dx_var 2) (da_cons (dx_frz (dx_lst (da_cons dx_int (da_cons dx_int (da_cons dx_int (da_cons dx_int (da_cons (dx_op2 op_pow powG_ok dx_int dx_int) (da_cons (dx_op2 op_addG (addG_ok rfl) (dx_op2 op_pow powG_ok dx_int dx_int) (dx_fn F_law_pick (hr.mono (by decide)) g_law_pick (L2N.takes_of rfl rfl rfl rfl) (da_cons (dx_var 2) (da_cons dx_int da_nil)))) (da_cons dx_int da_nil))))))))) da_nil))))
    (dss_cons (ds_par (i := 4) (j := 6) rfl sc_law.nd rfl rfl (by decide) rfl rfl (da_cons (dx_op2 op_addG (addG_ok rfl) (dx_var 4) (dx_tup (da_cons (dx_tup (da_cons (dx_frz (dx_var 9)) (da_cons (dx_frz (dx_var 10)) da_nil))) da_nil))) (da_cons (dx_frz (dx_op2 op_addG (addG_ok rfl) (dx_var 6) (dx_op2 op_mul2 (mulG2_ok rfl) (dx_callB call_len (lenG_ok rfl) rfl n_len bt_len (da_cons (dx_var 9) da_nil)) (dx_var 10)))) da_nil)) (by rfl))
    (dss_cons (ds_set (i := 5) sc_law.nd rfl (.inl rfl) (dx_fn F_law_times (hr.mono (by decide)) g_law_times (L2N.takes_of rfl rfl rfl rfl) (da_cons (dx_frz (dx_var 5)) (da_cons (dx_ix (ix_all2 rfl rfl rfl (ru65 hr)) (ixD2_ok rfl rfl) (dx_fn F_law_power (hr.mono (by decide)) g_law_power (L2N.takes_of rfl rfl rfl rfl) (da_cons (dx_frz (dx_var 3)) (da_cons (dx_frz (dx_fn F_law_table (hr.mono (by decide)) g_law_table (L2N.takes_of rfl rfl rfl rfl) (da_cons (dx_tup (da_cons (dx_frz (dx_var 3)) (da_cons (dx_frz (dx_var 9)) da_nil))) da_nil))) (da_cons (dx_frz (dx_var 10)) da_nil)))) dx_int) da_nil))))
    (dss_one (ds_set (i := 7) sc_law.nd rfl (.inl rfl) (dx_op2 op_addG (addG_ok rfl) (dx_var 7) (dx_op2 op_mul3 (mulG3_ok rfl) (dx_var 9) (dx_callB (call_min2 rfl) min2G_ok rfl n_min bt_min (da_cons (dx_var 10) (da_cons dx_int da_nil))))))))))))
    (dss_cons (ds_if (DW.dt (dw_or (dt_cmp (op_neD hr.units) neG_ok (dx_fn F_long_table (hr.mono (by decide)) g_long_table (L2N.takes_of rfl rfl rfl rfl) (da_cons (dx_tup (da_cons (dx_frz (dx_var 3)) (da_cons (dx_frz (dx_var 4)) da_nil))) da_nil)) (dx_var 5) (nomark _)) (dw_or1 (dt_cmp (op_neD hr.units) neG_ok (dx_fn F_count_columns (hr.mono (by decide)) g_count_columns (L2N.takes_of rfl rfl rfl rfl) (da_cons (dx_tup (da_cons (dx_frz (dx_var 3)) (da_cons (dx_frz (dx_var 4)) da_nil))) da_nil)) (dx_var 6) (nomark _))))) (dss_one (ds_ret dx_bl)) dss_nil)
    (dss_cons (ds_if (DW.dt (dw_and (dt_cmp (op_eqD hr.units) eqG_ok (dx_callB call_len (lenG_ok rfl) rfl n_len bt_len (da_cons (dx_var 7) da_nil)) (dx_var 6) (nomark _)) (dw_and1 (dt_cmp (op_neD hr.units) neG_ok (dx_fn F_law_table (hr.mono (by decide)) g_law_table (L2N.takes_of rfl rfl rfl rfl) (da_cons (dx_tup (da_cons (dx_frz (dx_var 3)) (da_cons (dx_frz (dx_var 7)) da_nil))) da_nil)) (dx_var 5) (nomark _))))) (dss_one (ds_ret dx_bl)) dss_nil)
    (dss_cons (ds_set (i := 11) sc_law.nd rfl (.inl rfl) (dx_fn F_law_strip (hr.mono (by decide)) g_law_strip (L2N.takes_of rfl rfl rfl rfl) (da_cons (dx_var 2) (da_cons (dx_frz (dx_var 3)) (da_cons dx_int da_nil)))))
    (dss_cons (ds_if (dt_cmp (op_neD hr.units) neG_ok (dx_fn F_come_round (hr.mono (by decide)) g_come_round (L2N.takes_of rfl rfl rfl rfl) (da_cons (dx_frz (dx_var 11)) da_nil)) (dx_ix (ix_all2 rfl rfl rfl (ru65 hr)) (ixD2_ok rfl rfl) (dx_fn F_law_power (hr.mono (by decide)) g_law_power (L2N.takes_of rfl rfl rfl rfl) (da_cons (dx_frz (dx_var 3)) (da_cons (dx_frz (dx_fn F_law_table (hr.mono (by decide)) g_law_table (L2N.takes_of rfl rfl rfl rfl) (da_cons (dx_frz (dx_var 11)) da_nil))) (da_cons dx_int da_nil)))) dx_int) (nomark _)) (dss_one (ds_ret dx_bl)) dss_nil)
    (dss_cons (ds_for (passes_of rfl) rfl (di_seq rfl (dx_lst (da_cons (dx_gfn rfl g_long_table i_long_table) (da_cons (dx_gfn rfl g_count_columns i_count_columns) da_nil)))) (dg_name (i := 12) sc_law.nd rfl (by first | exact Or.inl rfl | exact Or.inr rfl)) (dss_cons (ds_set (i := 13) sc_law.nd rfl (.inl rfl) (dx_tup (da_cons (dx_tup (da_cons (dx_op2 op_mul4 (mulG4_ok rfl) (dx_str [117]) (dx_var 3)) da_nil)) (da_cons dx_int da_nil))))
    (dss_cons (ds_set (i := 9) sc_law.nd rfl (.inl rfl) (dx_tup (da_cons (dx_op2 op_mul4 (mulG4_ok rfl) (dx_str [117]) (dx_var 3)) da_nil)))
    (dss_cons (ds_set (i := 14) sc_law.nd rfl (.inl rfl) (dx_lst (da_cons dx_non (da_cons (dx_tup (da_cons (dx_frz (dx_var 3)) (da_cons (dx_frz (dx_lst (da_cons (dx_frz (dx_var 13)) da_nil))) da_nil))) (da_cons (dx_tup (da_cons (dx_frz (dx_var 3)) (da_cons (dx_op2 op_mul2 (mulG2_ok rfl) (dx_tup (da_cons (dx_frz (dx_var 13)) da_nil)) dx_int) da_nil))) (da_cons (dx_tup (da_cons dx_int (da_cons (dx_tup da_nil) da_nil))) (da_cons (dx_tup (da_cons (dx_frz (dx_var 3)) (da_cons (dx_tup (da_cons (dx_tup (da_cons (dx_frz (dx_var 9)) (da_cons dx_int da_nil))) da_nil)) da_nil))) da_nil)))))))
    (dss_cons (ds_set (i := 14) sc_law.nd rfl (.inl rfl) (dx_op2 op_addG (addG_ok rfl) (dx_var 14) (dx_lst (da_cons (dx_tup (da_cons (dx_frz (dx_var 3)) (da_cons (dx_tup (da_cons (dx_tup (da_cons (dx_tup da_nil) (da_cons dx_int da_nil))) da_nil)) da_nil))) (da_cons (dx_tup (da_cons (dx_frz (dx_var 3)) (da_cons (dx_tup (da_cons (dx_tup (da_cons (dx_op2 op_mul3 (mulG3_ok rfl) (dx_var 9) dx_int) (da_cons dx_int da_nil))) da_nil)) da_nil))) da_nil)))))
    (dss_one (ds_for (passes_of rfl) rfl (di_seq rfl (dx_op2 op_addG (addG_ok rfl) (dx_var 14) (dx_lst (da_cons (dx_tup (da_cons (dx_frz (dx_var 3)) (da_cons (dx_tup (da_cons (dx_tup (da_cons (dx_frz (dx_var 9)) (da_cons (dx_op2 op_addG (addG_ok rfl) (dx_op2 op_pow powG_ok dx_int dx_int) dx_int) da_nil))) da_nil)) da_nil))) (da_cons (dx_tup (da_cons dx_int (da_cons (dx_tup da_nil) da_nil))) da_nil))))) (dg_name (i := 15) sc_law.nd rfl (by first | exact Or.inl rfl | exact Or.inr rfl)) (dss_one (ds_if (dt_cmp (op_neD hr.units) neG_ok (dx_fn F_law_one (hr.mono (by decide)) g_law_one (L2N.takes_of rfl rfl rfl rfl) (da_cons (dx_var 12) (da_cons (dx_var 15) da_nil))) (dx_str [112, 97, 114, 116, 115]) (nomark _)) (dss_one (ds_ret dx_bl)) dss_nil)))))))))
    (dss_one (ds_if (dt_cmp (op_neD hr.units) neG_ok (dx_fn F_law_one (hr.mono (by decide)) g_law_one (L2N.takes_of rfl rfl rfl rfl) (da_cons (dx_gfn rfl g_come_round i_come_round) (da_cons dx_non da_nil))) (dx_str [115, 116, 114, 105, 112]) (nomark _)) (dss_one (ds_ret dx_bl)) dss_nil))))))))))))
    (dss_cons (ds_if (DW.dt (dw_or (dt_cmp (op_neD hr.units) neG_ok (dx_fn F_come_round (hr.mono (by decide)) g_come_round (L2N.takes_of rfl rfl rfl rfl) (da_cons (dx_tup (da_cons dx_int (da_cons (dx_tup (da_cons (dx_str [46]) da_nil)) da_nil))) da_nil)) (dx_tup (da_cons dx_int (da_cons dx_int da_nil))) (nomark _)) (dw_or1 (dt_cmp (op_neD hr.units) neG_ok (dx_fn F_come_round (hr.mono (by decide)) g_come_round (L2N.takes_of rfl rfl rfl rfl) (da_cons (dx_tup (da_cons dx_int (da_cons (dx_tup (da_cons (dx_str [119, 118]) da_nil)) da_nil))) da_nil)) (dx_tup (da_cons dx_int (da_cons dx_int da_nil))) (nomark _))))) (dss_one (ds_ret dx_bl)) dss_nil)
    (dss_one (ds_ret (dx_cmp (op_eqD hr.units) eqG_ok (dx_fn F_long_table (hr.mono (by decide)) g_long_table (L2N.takes_of rfl rfl rfl rfl) (da_cons (dx_tup (da_cons dx_int (da_cons (dx_tup (da_cons (dx_tup (da_cons (dx_tup (da_cons (dx_str [112]) (da_cons (dx_str [46]) da_nil))) (da_cons (dx_op2 op_pow powG_ok dx_int dx_int) da_nil))) (da_cons (dx_tup (da_cons (dx_tup (da_cons (dx_str [119]) da_nil)) (da_cons dx_int da_nil))) da_nil))) da_nil))) da_nil)) (dx_tup (da_cons (dx_tup (da_cons (dx_tup (da_cons (dx_str [116, 111, 112]) (da_cons dx_int da_nil))) da_nil)) (da_cons (dx_tup (da_cons (dx_tup (da_cons (dx_str [108, 101, 102, 116]) (da_cons dx_int da_nil))) da_nil)) da_nil))) (nomark _))))))))

end
end DL
namespace DL
open PySem PySem.Spec PyProof.Rows L2
theorem all_mk {l : PySem.W.OpenLaw} {w : World} {K : PySem.W.Frag} {h : Heap} {mg : Str → Option Value} {fa : Addr} (X : K.In h) (Gn : h.Ns mainGlobals mg) (hfa : mg "law" = some (.ref fa))
    {f_is_within : Addr} {od_is_within an_is_within : Option Addr} {sl_is_within : Array (Option Value)} {oc_is_within kV_is_within dc_is_within pm_is_within cd_is_within ct_is_within : Value}
    (a_is_within : PySem.W.nsIn K mainGlobals "is_within" = some (some (.ref f_is_within)))
    (l_is_within : K.lookup f_is_within = some ⟨oc_is_within, od_is_within, .func (PySem.W.fnOf "is_within" "is_within" (defArgs s_is_within) (defBody s_is_within) (defScope s_is_within) .none kV_is_within dc_is_within pm_is_within an_is_within cd_is_within ct_is_within), sl_is_within⟩)
    (q_is_within : PySem.W.codeIn K cd_is_within "is_within" = true) (k_is_within : PySem.W.keepIn K (.ref f_is_within) = true)
    {f_is_column : Addr} {od_is_column an_is_column : Option Addr} {sl_is_column : Array (Option Value)} {oc_is_column kV_is_column dc_is_column pm_is_column cd_is_column ct_is_column : Value}
    (a_is_column : PySem.W.nsIn K mainGlobals "is_column" = some (some (.ref f_is_column)))
    (l_is_column : K.lookup f_is_column = some ⟨oc_is_column, od_is_column, .func (PySem.W.fnOf "is_column" "is_column" (defArgs s_is_column) (defBody s_is_column) (defScope s_is_column) .none kV_is_column dc_is_column pm_is_column an_is_column cd_is_column ct_is_column), sl_is_column⟩)
    (q_is_column : PySem.W.codeIn K cd_is_column "is_column" = true) (k_is_column : PySem.W.keepIn K (.ref f_is_column) = true)
    {f_are_columns : Addr} {od_are_columns an_are_columns : Option Addr} {sl_are_columns : Array (Option Value)} {oc_are_columns kV_are_columns dc_are_columns pm_are_columns cd_are_columns ct_are_columns : Value}
    (a_are_columns : PySem.W.nsIn K mainGlobals "are_columns" = some (some (.ref f_are_columns)))
    (l_are_columns : K.lookup f_are_columns = some ⟨oc_are_columns, od_are_columns, .func (PySem.W.fnOf "are_columns" "are_columns" (defArgs s_are_columns) (defBody s_are_columns) (defScope s_are_columns) .none kV_are_columns dc_are_columns pm_are_columns an_are_columns cd_are_columns ct_are_columns), sl_are_columns⟩)
    (q_are_columns : PySem.W.codeIn K cd_are_columns "are_columns" = true) (k_are_columns : PySem.W.keepIn K (.ref f_are_columns) = true)
    {f_is_pair : Addr} {od_is_pair an_is_pair : Option Addr} {sl_is_pair : Array (Option Value)} {oc_is_pair kV_is_pair dc_is_pair pm_is_pair cd_is_pair ct_is_pair : Value}
    (a_is_pair : PySem.W.nsIn K mainGlobals "is_pair" = some (some (.ref f_is_pair)))
    (l_is_pair : K.lookup f_is_pair = some ⟨oc_is_pair, od_is_pair, .func (PySem.W.fnOf "is_pair" "is_pair" (defArgs s_is_pair) (defBody s_is_pair) (defScope s_is_pair) .none kV_is_pair dc_is_pair pm_is_pair an_is_pair cd_is_pair ct_is_pair), sl_is_pair⟩)
    (q_is_pair : PySem.W.codeIn K cd_is_pair "is_pair" = true) (k_is_pair : PySem.W.keepIn K (.ref f_is_pair) = true)
    {f_is_right_strip : Addr} {od_is_right_strip an_is_right_strip : Option Addr} {sl_is_right_strip : Array (Option Value)} {oc_is_right_strip kV_is_right_strip dc_is_right_strip pm_is_right_strip cd_is_right_strip ct_is_right_strip : Value}
    (a_is_right_strip : PySem.W.nsIn K mainGlobals "is_right_strip" = some (some (.ref f_is_right_strip)))
    (l_is_right_strip : K.lookup f_is_right_strip = some ⟨oc_is_right_strip, od_is_right_strip, .func (PySem.W.fnOf "is_right_strip" "is_right_strip" (defArgs s_is_right_strip) (defBody s_is_right_strip) (defScope s_is_right_strip) .none kV_is_right_strip dc_is_right_strip pm_is_right_strip an_is_right_strip cd_is_right_strip ct_is_right_strip), sl_is_right_strip⟩)
    (q_is_right_strip : PySem.W.codeIn K cd_is_right_strip "is_right_strip" = true) (k_is_right_strip : PySem.W.keepIn K (.ref f_is_right_strip) = true)
    {f_need_strip : Addr} {od_need_strip an_need_strip : Option Addr} {sl_need_strip : Array (Option Value)} {oc_need_strip kV_need_strip dc_need_strip pm_need_strip cd_need_strip ct_need_strip : Value}
    (a_need_strip : PySem.W.nsIn K mainGlobals "need_strip" = some (some (.ref f_need_strip)))
    (l_need_strip : K.lookup f_need_strip = some ⟨oc_need_strip, od_need_strip, .func (PySem.W.fnOf "need_strip" "need_strip" (defArgs s_need_strip) (defBody s_need_strip) (defScope s_need_strip) .none kV_need_strip dc_need_strip pm_need_strip an_need_strip cd_need_strip ct_need_strip), sl_need_strip⟩)
    (q_need_strip : PySem.W.codeIn K cd_need_strip "need_strip" = true) (k_need_strip : PySem.W.keepIn K (.ref f_need_strip) = true)
    {f_onward : Addr} {od_onward an_onward : Option Addr} {sl_onward : Array (Option Value)} {oc_onward kV_onward dc_onward pm_onward cd_onward ct_onward : Value}
    (a_onward : PySem.W.nsIn K mainGlobals "onward" = some (some (.ref f_onward)))
    (l_onward : K.lookup f_onward = some ⟨oc_onward, od_onward, .func (PySem.W.fnOf "onward" "onward" (defArgs s_onward) (defBody s_onward) (defScope s_onward) .none kV_onward dc_onward pm_onward an_onward cd_onward ct_onward), sl_onward⟩)
    (q_onward : PySem.W.codeIn K cd_onward "onward" = true) (k_onward : PySem.W.keepIn K (.ref f_onward) = true)
    {f_entry : Addr} {od_entry an_entry : Option Addr} {sl_entry : Array (Option Value)} {oc_entry kV_entry dc_entry pm_entry cd_entry ct_entry : Value}
    (a_entry : PySem.W.nsIn K mainGlobals "entry" = some (some (.ref f_entry)))
    (l_entry : K.lookup f_entry = some ⟨oc_entry, od_entry, .func (PySem.W.fnOf "entry" "entry" (defArgs s_entry) (defBody s_entry) (defScope s_entry) .none kV_entry dc_entry pm_entry an_entry cd_entry ct_entry), sl_entry⟩)
    (q_entry : PySem.W.codeIn K cd_entry "entry" = true) (k_entry : PySem.W.keepIn K (.ref f_entry) = true)
    {f_exit_of : Addr} {od_exit_of an_exit_of : Option Addr} {sl_exit_of : Array (Option Value)} {oc_exit_of kV_exit_of dc_exit_of pm_exit_of cd_exit_of ct_exit_of : Value}
    (a_exit_of : PySem.W.nsIn K mainGlobals "exit_of" = some (some (.ref f_exit_of)))
    (l_exit_of : K.lookup f_exit_of = some ⟨oc_exit_of, od_exit_of, .func (PySem.W.fnOf "exit_of" "exit_of" (defArgs s_exit_of) (defBody s_exit_of) (defScope s_exit_of) .none kV_exit_of dc_exit_of pm_exit_of an_exit_of cd_exit_of ct_exit_of), sl_exit_of⟩)
    (q_exit_of : PySem.W.codeIn K cd_exit_of "exit_of" = true) (k_exit_of : PySem.W.keepIn K (.ref f_exit_of) = true)
    {f_moved : Addr} {od_moved an_moved : Option Addr} {sl_moved : Array (Option Value)} {oc_moved kV_moved dc_moved pm_moved cd_moved ct_moved : Value}
    (a_moved : PySem.W.nsIn K mainGlobals "moved" = some (some (.ref f_moved)))
    (l_moved : K.lookup f_moved = some ⟨oc_moved, od_moved, .func (PySem.W.fnOf "moved" "moved" (defArgs s_moved) (defBody s_moved) (defScope s_moved) .none kV_moved dc_moved pm_moved an_moved cd_moved ct_moved), sl_moved⟩)
    (q_moved : PySem.W.codeIn K cd_moved "moved" = true) (k_moved : PySem.W.keepIn K (.ref f_moved) = true)
    {f_followed : Addr} {od_followed an_followed : Option Addr} {sl_followed : Array (Option Value)} {oc_followed kV_followed dc_followed pm_followed cd_followed ct_followed : Value}
    (a_followed : PySem.W.nsIn K mainGlobals "followed" = some (some (.ref f_followed)))
    (l_followed : K.lookup f_followed = some ⟨oc_followed, od_followed, .func (PySem.W.fnOf "followed" "followed" (defArgs s_followed) (defBody s_followed) (defScope s_followed) .none kV_followed dc_followed pm_followed an_followed cd_followed ct_followed), sl_followed⟩)
    (q_followed : PySem.W.codeIn K cd_followed "followed" = true) (k_followed : PySem.W.keepIn K (.ref f_followed) = true)
    {f_plain_end : Addr} {od_plain_end an_plain_end : Option Addr} {sl_plain_end : Array (Option Value)} {oc_plain_end kV_plain_end dc_plain_end pm_plain_end cd_plain_end ct_plain_end : Value}
    (a_plain_end : PySem.W.nsIn K mainGlobals "plain_end" = some (some (.ref f_plain_end)))
    (l_plain_end : K.lookup f_plain_end = some ⟨oc_plain_end, od_plain_end, .func (PySem.W.fnOf "plain_end" "plain_end" (defArgs s_plain_end) (defBody s_plain_end) (defScope s_plain_end) .none kV_plain_end dc_plain_end pm_plain_end an_plain_end cd_plain_end ct_plain_end), sl_plain_end⟩)
    (q_plain_end : PySem.W.codeIn K cd_plain_end "plain_end" = true) (k_plain_end : PySem.W.keepIn K (.ref f_plain_end) = true)
    {f_end_at : Addr} {od_end_at an_end_at : Option Addr} {sl_end_at : Array (Option Value)} {oc_end_at kV_end_at dc_end_at pm_end_at cd_end_at ct_end_at : Value}
    (a_end_at : PySem.W.nsIn K mainGlobals "end_at" = some (some (.ref f_end_at)))
    (l_end_at : K.lookup f_end_at = some ⟨oc_end_at, od_end_at, .func (PySem.W.fnOf "end_at" "end_at" (defArgs s_end_at) (defBody s_end_at) (defScope s_end_at) .none kV_end_at dc_end_at pm_end_at an_end_at cd_end_at ct_end_at), sl_end_at⟩)
    (q_end_at : PySem.W.codeIn K cd_end_at "end_at" = true) (k_end_at : PySem.W.keepIn K (.ref f_end_at) = true)
    {f_table_of : Addr} {od_table_of an_table_of : Option Addr} {sl_table_of : Array (Option Value)} {oc_table_of kV_table_of dc_table_of pm_table_of cd_table_of ct_table_of : Value}
    (a_table_of : PySem.W.nsIn K mainGlobals "table_of" = some (some (.ref f_table_of)))
    (l_table_of : K.lookup f_table_of = some ⟨oc_table_of, od_table_of, .func (PySem.W.fnOf "table_of" "table_of" (defArgs s_table_of) (defBody s_table_of) (defScope s_table_of) .none kV_table_of dc_table_of pm_table_of an_table_of cd_table_of ct_table_of), sl_table_of⟩)
    (q_table_of : PySem.W.codeIn K cd_table_of "table_of" = true) (k_table_of : PySem.W.keepIn K (.ref f_table_of) = true)
    {f_chased : Addr} {od_chased an_chased : Option Addr} {sl_chased : Array (Option Value)} {oc_chased kV_chased dc_chased pm_chased cd_chased ct_chased : Value}
    (a_chased : PySem.W.nsIn K mainGlobals "chased" = some (some (.ref f_chased)))
    (l_chased : K.lookup f_chased = some ⟨oc_chased, od_chased, .func (PySem.W.fnOf "chased" "chased" (defArgs s_chased) (defBody s_chased) (defScope s_chased) .none kV_chased dc_chased pm_chased an_chased cd_chased ct_chased), sl_chased⟩)
    (q_chased : PySem.W.codeIn K cd_chased "chased" = true) (k_chased : PySem.W.keepIn K (.ref f_chased) = true)
    {f_multiplied : Addr} {od_multiplied an_multiplied : Option Addr} {sl_multiplied : Array (Option Value)} {oc_multiplied kV_multiplied dc_multiplied pm_multiplied cd_multiplied ct_multiplied : Value}
    (a_multiplied : PySem.W.nsIn K mainGlobals "multiplied" = some (some (.ref f_multiplied)))
    (l_multiplied : K.lookup f_multiplied = some ⟨oc_multiplied, od_multiplied, .func (PySem.W.fnOf "multiplied" "multiplied" (defArgs s_multiplied) (defBody s_multiplied) (defScope s_multiplied) .none kV_multiplied dc_multiplied pm_multiplied an_multiplied cd_multiplied ct_multiplied), sl_multiplied⟩)
    (q_multiplied : PySem.W.codeIn K cd_multiplied "multiplied" = true) (k_multiplied : PySem.W.keepIn K (.ref f_multiplied) = true)
    {f_is_word : Addr} {od_is_word an_is_word : Option Addr} {sl_is_word : Array (Option Value)} {oc_is_word kV_is_word dc_is_word pm_is_word cd_is_word ct_is_word : Value}
    (a_is_word : PySem.W.nsIn K mainGlobals "is_word" = some (some (.ref f_is_word)))
    (l_is_word : K.lookup f_is_word = some ⟨oc_is_word, od_is_word, .func (PySem.W.fnOf "is_word" "is_word" (defArgs s_is_word) (defBody s_is_word) (defScope s_is_word) .none kV_is_word dc_is_word pm_is_word an_is_word cd_is_word ct_is_word), sl_is_word⟩)
    (q_is_word : PySem.W.codeIn K cd_is_word "is_word" = true) (k_is_word : PySem.W.keepIn K (.ref f_is_word) = true)
    {f_are_right_parts : Addr} {od_are_right_parts an_are_right_parts : Option Addr} {sl_are_right_parts : Array (Option Value)} {oc_are_right_parts kV_are_right_parts dc_are_right_parts pm_are_right_parts cd_are_right_parts ct_are_right_parts : Value}
    (a_are_right_parts : PySem.W.nsIn K mainGlobals "are_right_parts" = some (some (.ref f_are_right_parts)))
    (l_are_right_parts : K.lookup f_are_right_parts = some ⟨oc_are_right_parts, od_are_right_parts, .func (PySem.W.fnOf "are_right_parts" "are_right_parts" (defArgs s_are_right_parts) (defBody s_are_right_parts) (defScope s_are_right_parts) .none kV_are_right_parts dc_are_right_parts pm_are_right_parts an_are_right_parts cd_are_right_parts ct_are_right_parts), sl_are_right_parts⟩)
    (q_are_right_parts : PySem.W.codeIn K cd_are_right_parts "are_right_parts" = true) (k_are_right_parts : PySem.W.keepIn K (.ref f_are_right_parts) = true)
    {f_need_parts : Addr} {od_need_parts an_need_parts : Option Addr} {sl_need_parts : Array (Option Value)} {oc_need_parts kV_need_parts dc_need_parts pm_need_parts cd_need_parts ct_need_parts : Value}
    (a_need_parts : PySem.W.nsIn K mainGlobals "need_parts" = some (some (.ref f_need_parts)))
    (l_need_parts : K.lookup f_need_parts = some ⟨oc_need_parts, od_need_parts, .func (PySem.W.fnOf "need_parts" "need_parts" (defArgs s_need_parts) (defBody s_need_parts) (defScope s_need_parts) .none kV_need_parts dc_need_parts pm_need_parts an_need_parts cd_need_parts ct_need_parts), sl_need_parts⟩)
    (q_need_parts : PySem.W.codeIn K cd_need_parts "need_parts" = true) (k_need_parts : PySem.W.keepIn K (.ref f_need_parts) = true)
    {f_powered : Addr} {od_powered an_powered : Option Addr} {sl_powered : Array (Option Value)} {oc_powered kV_powered dc_powered pm_powered cd_powered ct_powered : Value}
    (a_powered : PySem.W.nsIn K mainGlobals "powered" = some (some (.ref f_powered)))
    (l_powered : K.lookup f_powered = some ⟨oc_powered, od_powered, .func (PySem.W.fnOf "powered" "powered" (defArgs s_powered) (defBody s_powered) (defScope s_powered) .none kV_powered dc_powered pm_powered an_powered cd_powered ct_powered), sl_powered⟩)
    (q_powered : PySem.W.codeIn K cd_powered "powered" = true) (k_powered : PySem.W.keepIn K (.ref f_powered) = true)
    {f_long_table : Addr} {od_long_table an_long_table : Option Addr} {sl_long_table : Array (Option Value)} {oc_long_table kV_long_table dc_long_table pm_long_table cd_long_table ct_long_table : Value}
    (a_long_table : PySem.W.nsIn K mainGlobals "long_table" = some (some (.ref f_long_table)))
    (l_long_table : K.lookup f_long_table = some ⟨oc_long_table, od_long_table, .func (PySem.W.fnOf "long_table" "long_table" (defArgs s_long_table) (defBody s_long_table) (defScope s_long_table) .none kV_long_table dc_long_table pm_long_table an_long_table cd_long_table ct_long_table), sl_long_table⟩)
    (q_long_table : PySem.W.codeIn K cd_long_table "long_table" = true) (k_long_table : PySem.W.keepIn K (.ref f_long_table) = true)
    {f_count_columns : Addr} {od_count_columns an_count_columns : Option Addr} {sl_count_columns : Array (Option Value)} {oc_count_columns kV_count_columns dc_count_columns pm_count_columns cd_count_columns ct_count_columns : Value}
    (a_count_columns : PySem.W.nsIn K mainGlobals "count_columns" = some (some (.ref f_count_columns)))
    (l_count_columns : K.lookup f_count_columns = some ⟨oc_count_columns, od_count_columns, .func (PySem.W.fnOf "count_columns" "count_columns" (defArgs s_count_columns) (defBody s_count_columns) (defScope s_count_columns) .none kV_count_columns dc_count_columns pm_count_columns an_count_columns cd_count_columns ct_count_columns), sl_count_columns⟩)
    (q_count_columns : PySem.W.codeIn K cd_count_columns "count_columns" = true) (k_count_columns : PySem.W.keepIn K (.ref f_count_columns) = true)
    {f_come_round : Addr} {od_come_round an_come_round : Option Addr} {sl_come_round : Array (Option Value)} {oc_come_round kV_come_round dc_come_round pm_come_round cd_come_round ct_come_round : Value}
    (a_come_round : PySem.W.nsIn K mainGlobals "come_round" = some (some (.ref f_come_round)))
    (l_come_round : K.lookup f_come_round = some ⟨oc_come_round, od_come_round, .func (PySem.W.fnOf "come_round" "come_round" (defArgs s_come_round) (defBody s_come_round) (defScope s_come_round) .none kV_come_round dc_come_round pm_come_round an_come_round cd_come_round ct_come_round), sl_come_round⟩)
    (q_come_round : PySem.W.codeIn K cd_come_round "come_round" = true) (k_come_round : PySem.W.keepIn K (.ref f_come_round) = true)
    {f_law_source : Addr} {od_law_source an_law_source : Option Addr} {sl_law_source : Array (Option Value)} {oc_law_source kV_law_source dc_law_source pm_law_source cd_law_source ct_law_source : Value}
    (a_law_source : PySem.W.nsIn K mainGlobals "_law_source" = some (some (.ref f_law_source)))
    (l_law_source : K.lookup f_law_source = some ⟨oc_law_source, od_law_source, .func (PySem.W.fnOf "_law_source" "_law_source" (defArgs s_law_source) (defBody s_law_source) (defScope s_law_source) .none kV_law_source dc_law_source pm_law_source an_law_source cd_law_source ct_law_source), sl_law_source⟩)
    (q_law_source : PySem.W.codeIn K cd_law_source "_law_source" = true) (k_law_source : PySem.W.keepIn K (.ref f_law_source) = true)
    {f_law_pick : Addr} {od_law_pick an_law_pick : Option Addr} {sl_law_pick : Array (Option Value)} {oc_law_pick kV_law_pick dc_law_pick pm_law_pick cd_law_pick ct_law_pick : Value}
    (a_law_pick : PySem.W.nsIn K mainGlobals "_law_pick" = some (some (.ref f_law_pick)))
    (l_law_pick : K.lookup f_law_pick = some ⟨oc_law_pick, od_law_pick, .func (PySem.W.fnOf "_law_pick" "_law_pick" (defArgs s_law_pick) (defBody s_law_pick) (defScope s_law_pick) .none kV_law_pick dc_law_pick pm_law_pick an_law_pick cd_law_pick ct_law_pick), sl_law_pick⟩)
    (q_law_pick : PySem.W.codeIn K cd_law_pick "_law_pick" = true) (k_law_pick : PySem.W.keepIn K (.ref f_law_pick) = true)
    {f_law_chosen : Addr} {od_law_chosen an_law_chosen : Option Addr} {sl_law_chosen : Array (Option Value)} {oc_law_chosen kV_law_chosen dc_law_chosen pm_law_chosen cd_law_chosen ct_law_chosen : Value}
    (a_law_chosen : PySem.W.nsIn K mainGlobals "_law_chosen" = some (some (.ref f_law_chosen)))
    (l_law_chosen : K.lookup f_law_chosen = some ⟨oc_law_chosen, od_law_chosen, .func (PySem.W.fnOf "_law_chosen" "_law_chosen" (defArgs s_law_chosen) (defBody s_law_chosen) (defScope s_law_chosen) .none kV_law_chosen dc_law_chosen pm_law_chosen an_law_chosen cd_law_chosen ct_law_chosen), sl_law_chosen⟩)
    (q_law_chosen : PySem.W.codeIn K cd_law_chosen "_law_chosen" = true) (k_law_chosen : PySem.W.keepIn K (.ref f_law_chosen) = true)
    {f_law_onward : Addr} {od_law_onward an_law_onward : Option Addr} {sl_law_onward : Array (Option Value)} {oc_law_onward kV_law_onward dc_law_onward pm_law_onward cd_law_onward ct_law_onward : Value}
    (a_law_onward : PySem.W.nsIn K mainGlobals "_law_onward" = some (some (.ref f_law_onward)))
    (l_law_onward : K.lookup f_law_onward = some ⟨oc_law_onward, od_law_onward, .func (PySem.W.fnOf "_law_onward" "_law_onward" (defArgs s_law_onward) (defBody s_law_onward) (defScope s_law_onward) .none kV_law_onward dc_law_onward pm_law_onward an_law_onward cd_law_onward ct_law_onward), sl_law_onward⟩)
    (q_law_onward : PySem.W.codeIn K cd_law_onward "_law_onward" = true) (k_law_onward : PySem.W.keepIn K (.ref f_law_onward) = true)
    {f_law_walk : Addr} {od_law_walk an_law_walk : Option Addr} {sl_law_walk : Array (Option Value)} {oc_law_walk kV_law_walk dc_law_walk pm_law_walk cd_law_walk ct_law_walk : Value}
    (a_law_walk : PySem.W.nsIn K mainGlobals "_law_walk" = some (some (.ref f_law_walk)))
    (l_law_walk : K.lookup f_law_walk = some ⟨oc_law_walk, od_law_walk, .func (PySem.W.fnOf "_law_walk" "_law_walk" (defArgs s_law_walk) (defBody s_law_walk) (defScope s_law_walk) .none kV_law_walk dc_law_walk pm_law_walk an_law_walk cd_law_walk ct_law_walk), sl_law_walk⟩)
    (q_law_walk : PySem.W.codeIn K cd_law_walk "_law_walk" = true) (k_law_walk : PySem.W.keepIn K (.ref f_law_walk) = true)
    {f_law_plain : Addr} {od_law_plain an_law_plain : Option Addr} {sl_law_plain : Array (Option Value)} {oc_law_plain kV_law_plain dc_law_plain pm_law_plain cd_law_plain ct_law_plain : Value}
    (a_law_plain : PySem.W.nsIn K mainGlobals "_law_plain" = some (some (.ref f_law_plain)))
    (l_law_plain : K.lookup f_law_plain = some ⟨oc_law_plain, od_law_plain, .func (PySem.W.fnOf "_law_plain" "_law_plain" (defArgs s_law_plain) (defBody s_law_plain) (defScope s_law_plain) .none kV_law_plain dc_law_plain pm_law_plain an_law_plain cd_law_plain ct_law_plain), sl_law_plain⟩)
    (q_law_plain : PySem.W.codeIn K cd_law_plain "_law_plain" = true) (k_law_plain : PySem.W.keepIn K (.ref f_law_plain) = true)
    {f_law_table : Addr} {od_law_table an_law_table : Option Addr} {sl_law_table : Array (Option Value)} {oc_law_table kV_law_table dc_law_table pm_law_table cd_law_table ct_law_table : Value}
    (a_law_table : PySem.W.nsIn K mainGlobals "_law_table" = some (some (.ref f_law_table)))
    (l_law_table : K.lookup f_law_table = some ⟨oc_law_table, od_law_table, .func (PySem.W.fnOf "_law_table" "_law_table" (defArgs s_law_table) (defBody s_law_table) (defScope s_law_table) .none kV_law_table dc_law_table pm_law_table an_law_table cd_law_table ct_law_table), sl_law_table⟩)
    (q_law_table : PySem.W.codeIn K cd_law_table "_law_table" = true) (k_law_table : PySem.W.keepIn K (.ref f_law_table) = true)
    {f_law_times : Addr} {od_law_times an_law_times : Option Addr} {sl_law_times : Array (Option Value)} {oc_law_times kV_law_times dc_law_times pm_law_times cd_law_times ct_law_times : Value}
    (a_law_times : PySem.W.nsIn K mainGlobals "_law_times" = some (some (.ref f_law_times)))
    (l_law_times : K.lookup f_law_times = some ⟨oc_law_times, od_law_times, .func (PySem.W.fnOf "_law_times" "_law_times" (defArgs s_law_times) (defBody s_law_times) (defScope s_law_times) .none kV_law_times dc_law_times pm_law_times an_law_times cd_law_times ct_law_times), sl_law_times⟩)
    (q_law_times : PySem.W.codeIn K cd_law_times "_law_times" = true) (k_law_times : PySem.W.keepIn K (.ref f_law_times) = true)
    {f_law_column : Addr} {od_law_column an_law_column : Option Addr} {sl_law_column : Array (Option Value)} {oc_law_column kV_law_column dc_law_column pm_law_column cd_law_column ct_law_column : Value}
    (a_law_column : PySem.W.nsIn K mainGlobals "_law_column" = some (some (.ref f_law_column)))
    (l_law_column : K.lookup f_law_column = some ⟨oc_law_column, od_law_column, .func (PySem.W.fnOf "_law_column" "_law_column" (defArgs s_law_column) (defBody s_law_column) (defScope s_law_column) .none kV_law_column dc_law_column pm_law_column an_law_column cd_law_column ct_law_column), sl_law_column⟩)
    (q_law_column : PySem.W.codeIn K cd_law_column "_law_column" = true) (k_law_column : PySem.W.keepIn K (.ref f_law_column) = true)
    {f_law_strip : Addr} {od_law_strip an_law_strip : Option Addr} {sl_law_strip : Array (Option Value)} {oc_law_strip kV_law_strip dc_law_strip pm_law_strip cd_law_strip ct_law_strip : Value}
    (a_law_strip : PySem.W.nsIn K mainGlobals "_law_strip" = some (some (.ref f_law_strip)))
    (l_law_strip : K.lookup f_law_strip = some ⟨oc_law_strip, od_law_strip, .func (PySem.W.fnOf "_law_strip" "_law_strip" (defArgs s_law_strip) (defBody s_law_strip) (defScope s_law_strip) .none kV_law_strip dc_law_strip pm_law_strip an_law_strip cd_law_strip ct_law_strip), sl_law_strip⟩)
    (q_law_strip : PySem.W.codeIn K cd_law_strip "_law_strip" = true) (k_law_strip : PySem.W.keepIn K (.ref f_law_strip) = true)
    {f_law_refused : Addr} {od_law_refused an_law_refused : Option Addr} {sl_law_refused : Array (Option Value)} {oc_law_refused kV_law_refused dc_law_refused pm_law_refused cd_law_refused ct_law_refused : Value}
    (a_law_refused : PySem.W.nsIn K mainGlobals "_law_refused" = some (some (.ref f_law_refused)))
    (l_law_refused : K.lookup f_law_refused = some ⟨oc_law_refused, od_law_refused, .func (PySem.W.fnOf "_law_refused" "_law_refused" (defArgs s_law_refused) (defBody s_law_refused) (defScope s_law_refused) .none kV_law_refused dc_law_refused pm_law_refused an_law_refused cd_law_refused ct_law_refused), sl_law_refused⟩)
    (q_law_refused : PySem.W.codeIn K cd_law_refused "_law_refused" = true) (k_law_refused : PySem.W.keepIn K (.ref f_law_refused) = true)
    {f_law_error : Addr} {od_law_error an_law_error : Option Addr} {sl_law_error : Array (Option Value)} {oc_law_error kV_law_error dc_law_error pm_law_error cd_law_error ct_law_error : Value}
    (a_law_error : PySem.W.nsIn K mainGlobals "_law_error" = some (some (.ref f_law_error)))
    (l_law_error : K.lookup f_law_error = some ⟨oc_law_error, od_law_error, .func (PySem.W.fnOf "_law_error" "_law_error" (defArgs s_law_error) (defBody s_law_error) (defScope s_law_error) .none kV_law_error dc_law_error pm_law_error an_law_error cd_law_error ct_law_error), sl_law_error⟩)
    (q_law_error : PySem.W.codeIn K cd_law_error "_law_error" = true) (k_law_error : PySem.W.keepIn K (.ref f_law_error) = true)
    {f_law_one : Addr} {od_law_one an_law_one : Option Addr} {sl_law_one : Array (Option Value)} {oc_law_one kV_law_one dc_law_one pm_law_one  ct_law_one : Value} {cc_law_one : Addr}
    (a_law_one : PySem.W.nsIn K mainGlobals "_law_one" = some (some (.ref f_law_one)))
    (l_law_one : K.lookup f_law_one = some ⟨oc_law_one, od_law_one, .func (PySem.W.fnOf "_law_one" "_law_one" (defArgs s_law_one) (defBody s_law_one) (defScope s_law_one) .none kV_law_one dc_law_one pm_law_one an_law_one (.ref cc_law_one) ct_law_one), sl_law_one⟩)
    (q_law_one : PySem.W.codeIn K (.ref cc_law_one) "_law_one" = true) (k_law_one : PySem.W.keepIn K (.ref f_law_one) = true)
    {f_law_power : Addr} {od_law_power an_law_power : Option Addr} {sl_law_power : Array (Option Value)} {oc_law_power kV_law_power dc_law_power pm_law_power cd_law_power ct_law_power : Value}
    (a_law_power : PySem.W.nsIn K mainGlobals "_law_power" = some (some (.ref f_law_power)))
    (l_law_power : K.lookup f_law_power = some ⟨oc_law_power, od_law_power, .func (PySem.W.fnOf "_law_power" "_law_power" (defArgs s_law_power) (defBody s_law_power) (defScope s_law_power) .none kV_law_power dc_law_power pm_law_power an_law_power cd_law_power ct_law_power), sl_law_power⟩)
    (q_law_power : PySem.W.codeIn K cd_law_power "_law_power" = true) (k_law_power : PySem.W.keepIn K (.ref f_law_power) = true)
    {f_law : Addr} {od_law an_law : Option Addr} {sl_law : Array (Option Value)} {oc_law kV_law dc_law pm_law cd_law ct_law : Value}
    (a_law : PySem.W.nsIn K mainGlobals "law" = some (some (.ref f_law)))
    (l_law : K.lookup f_law = some ⟨oc_law, od_law, .func (PySem.W.fnOf "law" "law" (defArgs s_law) (defBody s_law) (defScope s_law) .none kV_law dc_law pm_law an_law cd_law ct_law), sl_law⟩)
    (q_law : PySem.W.codeIn K cd_law "law" = true) (k_law : PySem.W.keepIn K (.ref f_law) = true)
    {odc_law_one : Option Addr} {vs_law_one : Array Value} {slc_law_one : Array (Option Value)} {P_law_one : Addr} (v_law_one : K.lookup cc_law_one = some ⟨.type "code", odc_law_one, .fields vs_law_one, slc_law_one⟩) (p_law_one : vs_law_one[11]? = some (.ref P_law_one)) (t_law_one : PySem.W.CodeHd h cc_law_one P_law_one ∧ h.get? P_law_one = some (PySem.W.tabObj #[])) (u_law_one : K.lookup P_law_one = none)
    (z_all : PySem.W.nsIn K mainGlobals "all" = some none)
    (z_bool : PySem.W.nsIn K mainGlobals "bool" = some none)
    (z_int : PySem.W.nsIn K mainGlobals "int" = some none)
    (z_isinstance : PySem.W.nsIn K mainGlobals "isinstance" = some none)
    (z_len : PySem.W.nsIn K mainGlobals "len" = some none)
    (z_list : PySem.W.nsIn K mainGlobals "list" = some none)
    (z_max : PySem.W.nsIn K mainGlobals "max" = some none)
    (z_min : PySem.W.nsIn K mainGlobals "min" = some none)
    (z_range : PySem.W.nsIn K mainGlobals "range" = some none)
    (z_str : PySem.W.nsIn K mainGlobals "str" = some none)
    (z_sum : PySem.W.nsIn K mainGlobals "sum" = some none)
    (z_tuple : PySem.W.nsIn K mainGlobals "tuple" = some none)
    {t_FACES_0_0 : Tok}
    {t_FACES_0_1 : Tok}
    {t_FACES_0_2 : Tok}
    {t_FACES_0_3 : Tok}
    {r_FACES_0 : Addr} {od_FACES_0 : Option Addr} {n_FACES_0 : Nat} {sl_FACES_0 : Array (Option Value)}
    {t_FACES_1_0 : Tok}
    {t_FACES_1_1 : Tok}
    {r_FACES_1 : Addr} {od_FACES_1 : Option Addr} {n_FACES_1 : Nat} {sl_FACES_1 : Array (Option Value)}
    {t_FACES_2_0 : Tok}
    {t_FACES_2_1 : Tok}
    {r_FACES_2 : Addr} {od_FACES_2 : Option Addr} {n_FACES_2 : Nat} {sl_FACES_2 : Array (Option Value)}
    {t_FACES_3_0 : Tok}
    {t_FACES_3_1 : Tok}
    {t_FACES_3_2 : Tok}
    {t_FACES_3_3 : Tok}
    {r_FACES_3 : Addr} {od_FACES_3 : Option Addr} {n_FACES_3 : Nat} {sl_FACES_3 : Array (Option Value)}
    {t_FACES_4_0 : Tok}
    {t_FACES_4_1 : Tok}
    {r_FACES_4 : Addr} {od_FACES_4 : Option Addr} {n_FACES_4 : Nat} {sl_FACES_4 : Array (Option Value)}
    {t_FACES_5_0 : Tok}
    {t_FACES_5_1 : Tok}
    {r_FACES_5 : Addr} {od_FACES_5 : Option Addr} {n_FACES_5 : Nat} {sl_FACES_5 : Array (Option Value)}
    {r_FACES : Addr} {es_FACES : Array DictEntry} {n_FACES : Nat}
    (w_FACES : PySem.W.nsIn K mainGlobals "FACES" = some (some (.ref r_FACES)))
    (u_FACES : K.lookup r_FACES = some ⟨.type "dict", none, .dict es_FACES n_FACES, #[]⟩) (y_FACES : PySem.W.KeysLit w.params es_FACES.toList)
    (v_FACES_0 : PySem.W.nsIn K r_FACES "u" = some (some (.ref r_FACES_0)))
    (v_FACES_1 : PySem.W.nsIn K r_FACES "p" = some (some (.ref r_FACES_1)))
    (v_FACES_2 : PySem.W.nsIn K r_FACES "q" = some (some (.ref r_FACES_2)))
    (v_FACES_3 : PySem.W.nsIn K r_FACES "d" = some (some (.ref r_FACES_3)))
    (v_FACES_4 : PySem.W.nsIn K r_FACES "v" = some (some (.ref r_FACES_4)))
    (v_FACES_5 : PySem.W.nsIn K r_FACES "w" = some (some (.ref r_FACES_5)))
    (u_FACES_0 : K.lookup r_FACES_0 = some ⟨.type "tuple", od_FACES_0, .seq #[(.str "down" t_FACES_0_0), (.str "left" t_FACES_0_1), (.str "right" t_FACES_0_2), (.str "up" t_FACES_0_3)] n_FACES_0, sl_FACES_0⟩)
    (u_FACES_1 : K.lookup r_FACES_1 = some ⟨.type "tuple", od_FACES_1, .seq #[(.str "down" t_FACES_1_0), (.str "right" t_FACES_1_1)] n_FACES_1, sl_FACES_1⟩)
    (u_FACES_2 : K.lookup r_FACES_2 = some ⟨.type "tuple", od_FACES_2, .seq #[(.str "left" t_FACES_2_0), (.str "up" t_FACES_2_1)] n_FACES_2, sl_FACES_2⟩)
    (u_FACES_3 : K.lookup r_FACES_3 = some ⟨.type "tuple", od_FACES_3, .seq #[(.str "down" t_FACES_3_0), (.str "left" t_FACES_3_1), (.str "right" t_FACES_3_2), (.str "up" t_FACES_3_3)] n_FACES_3, sl_FACES_3⟩)
    (u_FACES_4 : K.lookup r_FACES_4 = some ⟨.type "tuple", od_FACES_4, .seq #[(.str "down" t_FACES_4_0), (.str "left" t_FACES_4_1)] n_FACES_4, sl_FACES_4⟩)
    (u_FACES_5 : K.lookup r_FACES_5 = some ⟨.type "tuple", od_FACES_5, .seq #[(.str "right" t_FACES_5_0), (.str "up" t_FACES_5_1)] n_FACES_5, sl_FACES_5⟩)
    {t_FALLING_0 : Tok}
    {t_FALLING_1 : Tok}
    {t_FALLING_2 : Tok}
    {t_FALLING_3 : Tok}
    {r_FALLING : Addr} {es_FALLING : Array DictEntry} {n_FALLING : Nat}
    (w_FALLING : PySem.W.nsIn K mainGlobals "FALLING" = some (some (.ref r_FALLING)))
    (u_FALLING : K.lookup r_FALLING = some ⟨.type "dict", none, .dict es_FALLING n_FALLING, #[]⟩) (y_FALLING : PySem.W.KeysLit w.params es_FALLING.toList)
    (v_FALLING_0 : PySem.W.nsIn K r_FALLING "left" = some (some (.str "up" t_FALLING_0)))
    (v_FALLING_1 : PySem.W.nsIn K r_FALLING "down" = some (some (.str "right" t_FALLING_1)))
    (v_FALLING_2 : PySem.W.nsIn K r_FALLING "right" = some (some (.str "down" t_FALLING_2)))
    (v_FALLING_3 : PySem.W.nsIn K r_FALLING "up" = some (some (.str "left" t_FALLING_3)))
    {t_MOST_COLUMNS : Tok}
    (w_MOST_COLUMNS : PySem.W.nsIn K mainGlobals "MOST_COLUMNS" = some (some (.int (6) t_MOST_COLUMNS)))
    {t_MOST_LONG : Tok}
    (w_MOST_LONG : PySem.W.nsIn K mainGlobals "MOST_LONG" = some (some (.int (40) t_MOST_LONG)))
    {t_MOST_TIMES : Tok}
    (w_MOST_TIMES : PySem.W.nsIn K mainGlobals "MOST_TIMES" = some (some (.int (1000000000000000000000000000000) t_MOST_TIMES)))
    {t_MOST_WIDE : Tok}
    (w_MOST_WIDE : PySem.W.nsIn K mainGlobals "MOST_WIDE" = some (some (.int (3) t_MOST_WIDE)))
    {t_MOST_WORDS : Tok}
    (w_MOST_WORDS : PySem.W.nsIn K mainGlobals "MOST_WORDS" = some (some (.int (4) t_MOST_WORDS)))
    {t_RISING_0 : Tok}
    {t_RISING_1 : Tok}
    {t_RISING_2 : Tok}
    {t_RISING_3 : Tok}
    {r_RISING : Addr} {es_RISING : Array DictEntry} {n_RISING : Nat}
    (w_RISING : PySem.W.nsIn K mainGlobals "RISING" = some (some (.ref r_RISING)))
    (u_RISING : K.lookup r_RISING = some ⟨.type "dict", none, .dict es_RISING n_RISING, #[]⟩) (y_RISING : PySem.W.KeysLit w.params es_RISING.toList)
    (v_RISING_0 : PySem.W.nsIn K r_RISING "right" = some (some (.str "up" t_RISING_0)))
    (v_RISING_1 : PySem.W.nsIn K r_RISING "down" = some (some (.str "left" t_RISING_1)))
    (v_RISING_2 : PySem.W.nsIn K r_RISING "left" = some (some (.str "down" t_RISING_2)))
    (v_RISING_3 : PySem.W.nsIn K r_RISING "up" = some (some (.str "right" t_RISING_3)))
    {t_SIGNS : Tok}
    (w_SIGNS : PySem.W.nsIn K mainGlobals "SIGNS" = some (some (.str "#.dpquvw" t_SIGNS)))
    {t_STEPS_0_0 : Tok}
    {t_STEPS_0_1 : Tok}
    {r_STEPS_0 : Addr} {od_STEPS_0 : Option Addr} {n_STEPS_0 : Nat} {sl_STEPS_0 : Array (Option Value)}
    {t_STEPS_1_0 : Tok}
    {t_STEPS_1_1 : Tok}
    {r_STEPS_1 : Addr} {od_STEPS_1 : Option Addr} {n_STEPS_1 : Nat} {sl_STEPS_1 : Array (Option Value)}
    {t_STEPS_2_0 : Tok}
    {t_STEPS_2_1 : Tok}
    {r_STEPS_2 : Addr} {od_STEPS_2 : Option Addr} {n_STEPS_2 : Nat} {sl_STEPS_2 : Array (Option Value)}
    {t_STEPS_3_0 : Tok}
    {t_STEPS_3_1 : Tok}
    {r_STEPS_3 : Addr} {od_STEPS_3 : Option Addr} {n_STEPS_3 : Nat} {sl_STEPS_3 : Array (Option Value)}
    {r_STEPS : Addr} {es_STEPS : Array DictEntry} {n_STEPS : Nat}
    (w_STEPS : PySem.W.nsIn K mainGlobals "STEPS" = some (some (.ref r_STEPS)))
    (u_STEPS : K.lookup r_STEPS = some ⟨.type "dict", none, .dict es_STEPS n_STEPS, #[]⟩) (y_STEPS : PySem.W.KeysLit w.params es_STEPS.toList)
    (v_STEPS_0 : PySem.W.nsIn K r_STEPS "down" = some (some (.ref r_STEPS_0)))
    (v_STEPS_1 : PySem.W.nsIn K r_STEPS "left" = some (some (.ref r_STEPS_1)))
    (v_STEPS_2 : PySem.W.nsIn K r_STEPS "right" = some (some (.ref r_STEPS_2)))
    (v_STEPS_3 : PySem.W.nsIn K r_STEPS "up" = some (some (.ref r_STEPS_3)))
    (u_STEPS_0 : K.lookup r_STEPS_0 = some ⟨.type "tuple", od_STEPS_0, .seq #[(.int (1) t_STEPS_0_0), (.int (0) t_STEPS_0_1)] n_STEPS_0, sl_STEPS_0⟩)
    (u_STEPS_1 : K.lookup r_STEPS_1 = some ⟨.type "tuple", od_STEPS_1, .seq #[(.int (0) t_STEPS_1_0), (.int (-1) t_STEPS_1_1)] n_STEPS_1, sl_STEPS_1⟩)
    (u_STEPS_2 : K.lookup r_STEPS_2 = some ⟨.type "tuple", od_STEPS_2, .seq #[(.int (0) t_STEPS_2_0), (.int (1) t_STEPS_2_1)] n_STEPS_2, sl_STEPS_2⟩)
    (u_STEPS_3 : K.lookup r_STEPS_3 = some ⟨.type "tuple", od_STEPS_3, .seq #[(.int (-1) t_STEPS_3_0), (.int (0) t_STEPS_3_1)] n_STEPS_3, sl_STEPS_3⟩)
    {C_InvalidStrip : Addr} (ac_InvalidStrip : PySem.W.nsIn K mainGlobals "InvalidStrip" = some (some (.ref C_InvalidStrip)))
    {C_InvalidParts : Addr} (ac_InvalidParts : PySem.W.nsIn K mainGlobals "InvalidParts" = some (some (.ref C_InvalidParts)))
    {C_InvalidGate : Addr} (ac_InvalidGate : PySem.W.nsIn K mainGlobals "InvalidGate" = some (some (.ref C_InvalidGate)))
    {C_InvalidSide : Addr} (ac_InvalidSide : PySem.W.nsIn K mainGlobals "InvalidSide" = some (some (.ref C_InvalidSide)))
    {C_InvalidRow : Addr} (ac_InvalidRow : PySem.W.nsIn K mainGlobals "InvalidRow" = some (some (.ref C_InvalidRow)))
    {C_InvalidColumn : Addr} (ac_InvalidColumn : PySem.W.nsIn K mainGlobals "InvalidColumn" = some (some (.ref C_InvalidColumn)))
    {C_InvalidSign : Addr} (ac_InvalidSign : PySem.W.nsIn K mainGlobals "InvalidSign" = some (some (.ref C_InvalidSign)))
    {C_InvalidEnd : Addr} (ac_InvalidEnd : PySem.W.nsIn K mainGlobals "InvalidEnd" = some (some (.ref C_InvalidEnd)))
    {C_InvalidTable : Addr} (ac_InvalidTable : PySem.W.nsIn K mainGlobals "InvalidTable" = some (some (.ref C_InvalidTable)))
    {C_InvalidStock : Addr} (ac_InvalidStock : PySem.W.nsIn K mainGlobals "InvalidStock" = some (some (.ref C_InvalidStock)))
    {C_InvalidPattern : Addr} (ac_InvalidPattern : PySem.W.nsIn K mainGlobals "InvalidPattern" = some (some (.ref C_InvalidPattern)))
    {C_InvalidSeen : Addr} (ac_InvalidSeen : PySem.W.nsIn K mainGlobals "InvalidSeen" = some (some (.ref C_InvalidSeen)))
    {C_InvalidNumber : Addr} (ac_InvalidNumber : PySem.W.nsIn K mainGlobals "InvalidNumber" = some (some (.ref C_InvalidNumber)))
    {C_InvalidWidth : Addr} (ac_InvalidWidth : PySem.W.nsIn K mainGlobals "InvalidWidth" = some (some (.ref C_InvalidWidth)))
    {C_InvalidEcho : Addr} (ac_InvalidEcho : PySem.W.nsIn K mainGlobals "InvalidEcho" = some (some (.ref C_InvalidEcho)))
    {C_TooWide : Addr} (ac_TooWide : PySem.W.nsIn K mainGlobals "TooWide" = some (some (.ref C_TooWide)))
    {C_Unlike : Addr} (ac_Unlike : PySem.W.nsIn K mainGlobals "Unlike" = some (some (.ref C_Unlike)))
    {C_NothingToUndo : Addr} (ac_NothingToUndo : PySem.W.nsIn K mainGlobals "NothingToUndo" = some (some (.ref C_NothingToUndo)))
    {C_TooMany : Addr} (ac_TooMany : PySem.W.nsIn K mainGlobals "TooMany" = some (some (.ref C_TooMany)))
    {C_InvalidText : Addr} (ac_InvalidText : PySem.W.nsIn K mainGlobals "InvalidText" = some (some (.ref C_InvalidText)))
    {C_StripError : Addr} (ac_StripError : PySem.W.nsIn K mainGlobals "StripError" = some (some (.ref C_StripError)))
    (ex_InvalidStrip : PySem.W.excIn K C_InvalidStrip bmV "ValueError.__new__" = true) (kp_InvalidStrip : PySem.W.keepIn K (.ref C_InvalidStrip) = true) (sb_InvalidStrip : PySem.W.subIn K (.ref C_InvalidStrip) (.type "BaseException") = some true) (ty_InvalidStrip : PySem.W.typeIn K (.ref C_InvalidStrip) = some (.type "type"))
    (xc_InvalidStrip_hg : PySem.W.findIn K (.ref C_InvalidStrip) "__getattribute__" = some (some (.builtin "BaseException.__getattribute__")))
    (xc_InvalidStrip_hk : PySem.W.findIn K (.ref C_InvalidStrip) "__getattr__" = some none)
    (xc_InvalidStrip_hs : PySem.W.subIn K (.ref C_InvalidStrip) (.type "BaseException") = some true)
    (xc_InvalidStrip_hd : PySem.W.hasDictIn K C_InvalidStrip = true)
    (xc_InvalidStrip_ha : PySem.W.findIn K (.ref C_InvalidStrip) "__class__" = some (some (.builtin "object.__class__")))
    (xc_InvalidStrip_hm : PySem.W.mroIn K C_InvalidStrip (.type "object") = some true)
    (em_InvalidStrip : PySem.W.exmOne K (.ref C_InvalidStrip) (.ref C_StripError) = some true)
    (kt_InvalidStrip_InvalidStrip : PySem.W.kitOne K (.ref C_InvalidStrip) (.ref C_InvalidStrip) = some true)
    (kt_InvalidStrip_InvalidGate : PySem.W.kitOne K (.ref C_InvalidStrip) (.ref C_InvalidGate) = some false)
    (kt_InvalidStrip_InvalidSide : PySem.W.kitOne K (.ref C_InvalidStrip) (.ref C_InvalidSide) = some false)
    (kt_InvalidStrip_InvalidRow : PySem.W.kitOne K (.ref C_InvalidStrip) (.ref C_InvalidRow) = some false)
    (kt_InvalidStrip_InvalidColumn : PySem.W.kitOne K (.ref C_InvalidStrip) (.ref C_InvalidColumn) = some false)
    (kt_InvalidStrip_InvalidSign : PySem.W.kitOne K (.ref C_InvalidStrip) (.ref C_InvalidSign) = some false)
    (kt_InvalidStrip_InvalidEnd : PySem.W.kitOne K (.ref C_InvalidStrip) (.ref C_InvalidEnd) = some false)
    (kt_InvalidStrip_InvalidTable : PySem.W.kitOne K (.ref C_InvalidStrip) (.ref C_InvalidTable) = some false)
    (kt_InvalidStrip_InvalidStock : PySem.W.kitOne K (.ref C_InvalidStrip) (.ref C_InvalidStock) = some false)
    (kt_InvalidStrip_InvalidPattern : PySem.W.kitOne K (.ref C_InvalidStrip) (.ref C_InvalidPattern) = some false)
    (kt_InvalidStrip_InvalidSeen : PySem.W.kitOne K (.ref C_InvalidStrip) (.ref C_InvalidSeen) = some false)
    (kt_InvalidStrip_InvalidParts : PySem.W.kitOne K (.ref C_InvalidStrip) (.ref C_InvalidParts) = some false)
    (kt_InvalidStrip_InvalidNumber : PySem.W.kitOne K (.ref C_InvalidStrip) (.ref C_InvalidNumber) = some false)
    (kt_InvalidStrip_InvalidWidth : PySem.W.kitOne K (.ref C_InvalidStrip) (.ref C_InvalidWidth) = some false)
    (kt_InvalidStrip_InvalidEcho : PySem.W.kitOne K (.ref C_InvalidStrip) (.ref C_InvalidEcho) = some false)
    (kt_InvalidStrip_TooWide : PySem.W.kitOne K (.ref C_InvalidStrip) (.ref C_TooWide) = some false)
    (kt_InvalidStrip_Unlike : PySem.W.kitOne K (.ref C_InvalidStrip) (.ref C_Unlike) = some false)
    (kt_InvalidStrip_NothingToUndo : PySem.W.kitOne K (.ref C_InvalidStrip) (.ref C_NothingToUndo) = some false)
    (kt_InvalidStrip_TooMany : PySem.W.kitOne K (.ref C_InvalidStrip) (.ref C_TooMany) = some false)
    (kt_InvalidStrip_InvalidText : PySem.W.kitOne K (.ref C_InvalidStrip) (.ref C_InvalidText) = some false)
    (ex_InvalidParts : PySem.W.excIn K C_InvalidParts bmV "ValueError.__new__" = true) (kp_InvalidParts : PySem.W.keepIn K (.ref C_InvalidParts) = true) (sb_InvalidParts : PySem.W.subIn K (.ref C_InvalidParts) (.type "BaseException") = some true) (ty_InvalidParts : PySem.W.typeIn K (.ref C_InvalidParts) = some (.type "type"))
    (xc_InvalidParts_hg : PySem.W.findIn K (.ref C_InvalidParts) "__getattribute__" = some (some (.builtin "BaseException.__getattribute__")))
    (xc_InvalidParts_hk : PySem.W.findIn K (.ref C_InvalidParts) "__getattr__" = some none)
    (xc_InvalidParts_hs : PySem.W.subIn K (.ref C_InvalidParts) (.type "BaseException") = some true)
    (xc_InvalidParts_hd : PySem.W.hasDictIn K C_InvalidParts = true)
    (xc_InvalidParts_ha : PySem.W.findIn K (.ref C_InvalidParts) "__class__" = some (some (.builtin "object.__class__")))
    (xc_InvalidParts_hm : PySem.W.mroIn K C_InvalidParts (.type "object") = some true)
    (em_InvalidParts : PySem.W.exmOne K (.ref C_InvalidParts) (.ref C_StripError) = some true)
    (kt_InvalidParts_InvalidStrip : PySem.W.kitOne K (.ref C_InvalidParts) (.ref C_InvalidStrip) = some false)
    (kt_InvalidParts_InvalidGate : PySem.W.kitOne K (.ref C_InvalidParts) (.ref C_InvalidGate) = some false)
    (kt_InvalidParts_InvalidSide : PySem.W.kitOne K (.ref C_InvalidParts) (.ref C_InvalidSide) = some false)
    (kt_InvalidParts_InvalidRow : PySem.W.kitOne K (.ref C_InvalidParts) (.ref C_InvalidRow) = some false)
    (kt_InvalidParts_InvalidColumn : PySem.W.kitOne K (.ref C_InvalidParts) (.ref C_InvalidColumn) = some false)
    (kt_InvalidParts_InvalidSign : PySem.W.kitOne K (.ref C_InvalidParts) (.ref C_InvalidSign) = some false)
    (kt_InvalidParts_InvalidEnd : PySem.W.kitOne K (.ref C_InvalidParts) (.ref C_InvalidEnd) = some false)
    (kt_InvalidParts_InvalidTable : PySem.W.kitOne K (.ref C_InvalidParts) (.ref C_InvalidTable) = some false)
    (kt_InvalidParts_InvalidStock : PySem.W.kitOne K (.ref C_InvalidParts) (.ref C_InvalidStock) = some false)
    (kt_InvalidParts_InvalidPattern : PySem.W.kitOne K (.ref C_InvalidParts) (.ref C_InvalidPattern) = some false)
    (kt_InvalidParts_InvalidSeen : PySem.W.kitOne K (.ref C_InvalidParts) (.ref C_InvalidSeen) = some false)
    (kt_InvalidParts_InvalidParts : PySem.W.kitOne K (.ref C_InvalidParts) (.ref C_InvalidParts) = some true)
    (kt_InvalidParts_InvalidNumber : PySem.W.kitOne K (.ref C_InvalidParts) (.ref C_InvalidNumber) = some false)
    (kt_InvalidParts_InvalidWidth : PySem.W.kitOne K (.ref C_InvalidParts) (.ref C_InvalidWidth) = some false)
    (kt_InvalidParts_InvalidEcho : PySem.W.kitOne K (.ref C_InvalidParts) (.ref C_InvalidEcho) = some false)
    (kt_InvalidParts_TooWide : PySem.W.kitOne K (.ref C_InvalidParts) (.ref C_TooWide) = some false)
    (kt_InvalidParts_Unlike : PySem.W.kitOne K (.ref C_InvalidParts) (.ref C_Unlike) = some false)
    (kt_InvalidParts_NothingToUndo : PySem.W.kitOne K (.ref C_InvalidParts) (.ref C_NothingToUndo) = some false)
    (kt_InvalidParts_TooMany : PySem.W.kitOne K (.ref C_InvalidParts) (.ref C_TooMany) = some false)
    (kt_InvalidParts_InvalidText : PySem.W.kitOne K (.ref C_InvalidParts) (.ref C_InvalidText) = some false)
    (gs_hn : PySem.W.specialIn K (.builtin "object.__class__") "__get__" = some (some (.builtin "getset_descriptor.__get__"))) (gs_ht : PySem.W.takesIn K (.builtin "object.__class__") = some true)
    (hm : ∀ ns : List Int, ns.length ≤ 63 → m_law none [.seq ns] = .ret (.imm (.bl true)) none) :
    LamX.LawAtS l w K (L2N.CX l.prog w) 11 63 "script" mg fa h := by
  have e := hfa.symm.trans (PySem.W.mg_of X Gn a_law)
  cases e
  let G : Gm := ⟨l.prog, w, K, (faC 12 f_long_table (faC 2 f_count_columns (faC 1 f_come_round faN))), (caC 0 C_InvalidStrip (caC 11 C_InvalidParts caN)), [(P_law_one, "_law_one.<locals>.<lambda>")]⟩
  have n_all : mg "all" = none := PySem.W.mg_none_of X Gn z_all
  have n_bool : mg "bool" = none := PySem.W.mg_none_of X Gn z_bool
  have n_int : mg "int" = none := PySem.W.mg_none_of X Gn z_int
  have n_isinstance : mg "isinstance" = none := PySem.W.mg_none_of X Gn z_isinstance
  have n_len : mg "len" = none := PySem.W.mg_none_of X Gn z_len
  have n_list : mg "list" = none := PySem.W.mg_none_of X Gn z_list
  have n_max : mg "max" = none := PySem.W.mg_none_of X Gn z_max
  have n_min : mg "min" = none := PySem.W.mg_none_of X Gn z_min
  have n_range : mg "range" = none := PySem.W.mg_none_of X Gn z_range
  have n_str : mg "str" = none := PySem.W.mg_none_of X Gn z_str
  have n_sum : mg "sum" = none := PySem.W.mg_none_of X Gn z_sum
  have n_tuple : mg "tuple" = none := PySem.W.mg_none_of X Gn z_tuple
  have c_FACES := PySem.W.mg_of X Gn w_FACES
  have i_FACES : ∀ H : Hp, Imm G H (.ref r_FACES) d_FACES := fun H => (.kdc (vals := [(V.ref r_FACES_0), (V.ref r_FACES_1), (V.ref r_FACES_2), (V.ref r_FACES_3), (V.ref r_FACES_4), (V.ref r_FACES_5)]) (kdl_cons ⟨_, _, _, u_FACES, y_FACES, (by rw [show cstr [117] = ("u" : Str) from by decide +kernel]; exact v_FACES_0), rfl⟩ (kdl_cons ⟨_, _, _, u_FACES, y_FACES, (by rw [show cstr [112] = ("p" : Str) from by decide +kernel]; exact v_FACES_1), rfl⟩ (kdl_cons ⟨_, _, _, u_FACES, y_FACES, (by rw [show cstr [113] = ("q" : Str) from by decide +kernel]; exact v_FACES_2), rfl⟩ (kdl_cons ⟨_, _, _, u_FACES, y_FACES, (by rw [show cstr [100] = ("d" : Str) from by decide +kernel]; exact v_FACES_3), rfl⟩ (kdl_cons ⟨_, _, _, u_FACES, y_FACES, (by rw [show cstr [118] = ("v" : Str) from by decide +kernel]; exact v_FACES_4), rfl⟩ (kdl_cons ⟨_, _, _, u_FACES, y_FACES, (by rw [show cstr [119] = ("w" : Str) from by decide +kernel]; exact v_FACES_5), rfl⟩ (kdl_nil))))))) (.cons (.tup (xs := [(V.str (cstr [100, 111, 119, 110])), (V.str (cstr [108, 101, 102, 116])), (V.str (cstr [114, 105, 103, 104, 116])), (V.str (cstr [117, 112]))]) (.inr ⟨_, _, _, u_FACES_0, rfl, rfl, by show 4 ≤ sizeLine; decide, (.cons (rel_s (by decide +kernel)) (.cons (rel_s (by decide +kernel)) (.cons (rel_s (by decide +kernel)) (.cons (rel_s (by decide +kernel)) .nil))))⟩) (.cons (.str _ (by decide) (by decide)) (.cons (.str _ (by decide) (by decide)) (.cons (.str _ (by decide) (by decide)) (.cons (.str _ (by decide) (by decide)) .nil)))) (by show 4 ≤ sizeLine; decide)) (.cons (.tup (xs := [(V.str (cstr [100, 111, 119, 110])), (V.str (cstr [114, 105, 103, 104, 116]))]) (.inr ⟨_, _, _, u_FACES_1, rfl, rfl, by show 2 ≤ sizeLine; decide, (.cons (rel_s (by decide +kernel)) (.cons (rel_s (by decide +kernel)) .nil))⟩) (.cons (.str _ (by decide) (by decide)) (.cons (.str _ (by decide) (by decide)) .nil)) (by show 2 ≤ sizeLine; decide)) (.cons (.tup (xs := [(V.str (cstr [108, 101, 102, 116])), (V.str (cstr [117, 112]))]) (.inr ⟨_, _, _, u_FACES_2, rfl, rfl, by show 2 ≤ sizeLine; decide, (.cons (rel_s (by decide +kernel)) (.cons (rel_s (by decide +kernel)) .nil))⟩) (.cons (.str _ (by decide) (by decide)) (.cons (.str _ (by decide) (by decide)) .nil)) (by show 2 ≤ sizeLine; decide)) (.cons (.tup (xs := [(V.str (cstr [100, 111, 119, 110])), (V.str (cstr [108, 101, 102, 116])), (V.str (cstr [114, 105, 103, 104, 116])), (V.str (cstr [117, 112]))]) (.inr ⟨_, _, _, u_FACES_3, rfl, rfl, by show 4 ≤ sizeLine; decide, (.cons (rel_s (by decide +kernel)) (.cons (rel_s (by decide +kernel)) (.cons (rel_s (by decide +kernel)) (.cons (rel_s (by decide +kernel)) .nil))))⟩) (.cons (.str _ (by decide) (by decide)) (.cons (.str _ (by decide) (by decide)) (.cons (.str _ (by decide) (by decide)) (.cons (.str _ (by decide) (by decide)) .nil)))) (by show 4 ≤ sizeLine; decide)) (.cons (.tup (xs := [(V.str (cstr [100, 111, 119, 110])), (V.str (cstr [108, 101, 102, 116]))]) (.inr ⟨_, _, _, u_FACES_4, rfl, rfl, by show 2 ≤ sizeLine; decide, (.cons (rel_s (by decide +kernel)) (.cons (rel_s (by decide +kernel)) .nil))⟩) (.cons (.str _ (by decide) (by decide)) (.cons (.str _ (by decide) (by decide)) .nil)) (by show 2 ≤ sizeLine; decide)) (.cons (.tup (xs := [(V.str (cstr [114, 105, 103, 104, 116])), (V.str (cstr [117, 112]))]) (.inr ⟨_, _, _, u_FACES_5, rfl, rfl, by show 2 ≤ sizeLine; decide, (.cons (rel_s (by decide +kernel)) (.cons (rel_s (by decide +kernel)) .nil))⟩) (.cons (.str _ (by decide) (by decide)) (.cons (.str _ (by decide) (by decide)) .nil)) (by show 2 ≤ sizeLine; decide)) .nil)))))))
  have c_FALLING := PySem.W.mg_of X Gn w_FALLING
  have i_FALLING : ∀ H : Hp, Imm G H (.ref r_FALLING) d_FALLING := fun H => (.kdc (vals := [(V.str (cstr [117, 112])), (V.str (cstr [114, 105, 103, 104, 116])), (V.str (cstr [100, 111, 119, 110])), (V.str (cstr [108, 101, 102, 116]))]) (kdl_cons ⟨_, _, _, u_FALLING, y_FALLING, (by rw [show cstr [108, 101, 102, 116] = ("left" : Str) from by decide +kernel]; exact v_FALLING_0), (rel_s (by decide +kernel))⟩ (kdl_cons ⟨_, _, _, u_FALLING, y_FALLING, (by rw [show cstr [100, 111, 119, 110] = ("down" : Str) from by decide +kernel]; exact v_FALLING_1), (rel_s (by decide +kernel))⟩ (kdl_cons ⟨_, _, _, u_FALLING, y_FALLING, (by rw [show cstr [114, 105, 103, 104, 116] = ("right" : Str) from by decide +kernel]; exact v_FALLING_2), (rel_s (by decide +kernel))⟩ (kdl_cons ⟨_, _, _, u_FALLING, y_FALLING, (by rw [show cstr [117, 112] = ("up" : Str) from by decide +kernel]; exact v_FALLING_3), (rel_s (by decide +kernel))⟩ (kdl_nil))))) (.cons (.str _ (by decide) (by decide)) (.cons (.str _ (by decide) (by decide)) (.cons (.str _ (by decide) (by decide)) (.cons (.str _ (by decide) (by decide)) .nil)))))
  have c_MOST_COLUMNS := PySem.W.mg_of X Gn w_MOST_COLUMNS
  have c_MOST_LONG := PySem.W.mg_of X Gn w_MOST_LONG
  have c_MOST_TIMES := PySem.W.mg_of X Gn w_MOST_TIMES
  have c_MOST_WIDE := PySem.W.mg_of X Gn w_MOST_WIDE
  have c_MOST_WORDS := PySem.W.mg_of X Gn w_MOST_WORDS
  have c_RISING := PySem.W.mg_of X Gn w_RISING
  have i_RISING : ∀ H : Hp, Imm G H (.ref r_RISING) d_RISING := fun H => (.kdc (vals := [(V.str (cstr [117, 112])), (V.str (cstr [108, 101, 102, 116])), (V.str (cstr [100, 111, 119, 110])), (V.str (cstr [114, 105, 103, 104, 116]))]) (kdl_cons ⟨_, _, _, u_RISING, y_RISING, (by rw [show cstr [114, 105, 103, 104, 116] = ("right" : Str) from by decide +kernel]; exact v_RISING_0), (rel_s (by decide +kernel))⟩ (kdl_cons ⟨_, _, _, u_RISING, y_RISING, (by rw [show cstr [100, 111, 119, 110] = ("down" : Str) from by decide +kernel]; exact v_RISING_1), (rel_s (by decide +kernel))⟩ (kdl_cons ⟨_, _, _, u_RISING, y_RISING, (by rw [show cstr [108, 101, 102, 116] = ("left" : Str) from by decide +kernel]; exact v_RISING_2), (rel_s (by decide +kernel))⟩ (kdl_cons ⟨_, _, _, u_RISING, y_RISING, (by rw [show cstr [117, 112] = ("up" : Str) from by decide +kernel]; exact v_RISING_3), (rel_s (by decide +kernel))⟩ (kdl_nil))))) (.cons (.str _ (by decide) (by decide)) (.cons (.str _ (by decide) (by decide)) (.cons (.str _ (by decide) (by decide)) (.cons (.str _ (by decide) (by decide)) .nil)))))
  have c_SIGNS := PySem.W.mg_of X Gn w_SIGNS
  have c_STEPS := PySem.W.mg_of X Gn w_STEPS
  have i_STEPS : ∀ H : Hp, Imm G H (.ref r_STEPS) d_STEPS := fun H => (.kdc (vals := [(V.ref r_STEPS_0), (V.ref r_STEPS_1), (V.ref r_STEPS_2), (V.ref r_STEPS_3)]) (kdl_cons ⟨_, _, _, u_STEPS, y_STEPS, (by rw [show cstr [100, 111, 119, 110] = ("down" : Str) from by decide +kernel]; exact v_STEPS_0), rfl⟩ (kdl_cons ⟨_, _, _, u_STEPS, y_STEPS, (by rw [show cstr [108, 101, 102, 116] = ("left" : Str) from by decide +kernel]; exact v_STEPS_1), rfl⟩ (kdl_cons ⟨_, _, _, u_STEPS, y_STEPS, (by rw [show cstr [114, 105, 103, 104, 116] = ("right" : Str) from by decide +kernel]; exact v_STEPS_2), rfl⟩ (kdl_cons ⟨_, _, _, u_STEPS, y_STEPS, (by rw [show cstr [117, 112] = ("up" : Str) from by decide +kernel]; exact v_STEPS_3), rfl⟩ (kdl_nil))))) (.cons (.tup (xs := [(V.int (1)), (V.int (0))]) (.inr ⟨_, _, _, u_STEPS_0, rfl, rfl, by show 2 ≤ sizeLine; decide, (.cons ⟨_, rfl⟩ (.cons ⟨_, rfl⟩ .nil))⟩) (.cons (.int _) (.cons (.int _) .nil)) (by show 2 ≤ sizeLine; decide)) (.cons (.tup (xs := [(V.int (0)), (V.int (-1))]) (.inr ⟨_, _, _, u_STEPS_1, rfl, rfl, by show 2 ≤ sizeLine; decide, (.cons ⟨_, rfl⟩ (.cons ⟨_, rfl⟩ .nil))⟩) (.cons (.int _) (.cons (.int _) .nil)) (by show 2 ≤ sizeLine; decide)) (.cons (.tup (xs := [(V.int (0)), (V.int (1))]) (.inr ⟨_, _, _, u_STEPS_2, rfl, rfl, by show 2 ≤ sizeLine; decide, (.cons ⟨_, rfl⟩ (.cons ⟨_, rfl⟩ .nil))⟩) (.cons (.int _) (.cons (.int _) .nil)) (by show 2 ≤ sizeLine; decide)) (.cons (.tup (xs := [(V.int (-1)), (V.int (0))]) (.inr ⟨_, _, _, u_STEPS_3, rfl, rfl, by show 2 ≤ sizeLine; decide, (.cons ⟨_, rfl⟩ (.cons ⟨_, rfl⟩ .nil))⟩) (.cons (.int _) (.cons (.int _) .nil)) (by show 2 ≤ sizeLine; decide)) .nil)))))
  have F_is_within := fun_mk (st := s_is_within) l_is_within q_is_within k_is_within
  have g_is_within := PySem.W.mg_of X Gn a_is_within
  have F_is_column := fun_mk (st := s_is_column) l_is_column q_is_column k_is_column
  have g_is_column := PySem.W.mg_of X Gn a_is_column
  have F_are_columns := fun_mk (st := s_are_columns) l_are_columns q_are_columns k_are_columns
  have g_are_columns := PySem.W.mg_of X Gn a_are_columns
  have F_is_pair := fun_mk (st := s_is_pair) l_is_pair q_is_pair k_is_pair
  have g_is_pair := PySem.W.mg_of X Gn a_is_pair
  have F_is_right_strip := fun_mk (st := s_is_right_strip) l_is_right_strip q_is_right_strip k_is_right_strip
  have g_is_right_strip := PySem.W.mg_of X Gn a_is_right_strip
  have F_need_strip := fun_mk (st := s_need_strip) l_need_strip q_need_strip k_need_strip
  have g_need_strip := PySem.W.mg_of X Gn a_need_strip
  have F_onward := fun_mk (st := s_onward) l_onward q_onward k_onward
  have g_onward := PySem.W.mg_of X Gn a_onward
  have F_entry := fun_mk (st := s_entry) l_entry q_entry k_entry
  have g_entry := PySem.W.mg_of X Gn a_entry
  have F_exit_of := fun_mk (st := s_exit_of) l_exit_of q_exit_of k_exit_of
  have g_exit_of := PySem.W.mg_of X Gn a_exit_of
  have F_moved := fun_mk (st := s_moved) l_moved q_moved k_moved
  have g_moved := PySem.W.mg_of X Gn a_moved
  have F_followed := fun_mk (st := s_followed) l_followed q_followed k_followed
  have g_followed := PySem.W.mg_of X Gn a_followed
  have F_plain_end := fun_mk (st := s_plain_end) l_plain_end q_plain_end k_plain_end
  have g_plain_end := PySem.W.mg_of X Gn a_plain_end
  have F_end_at := fun_mk (st := s_end_at) l_end_at q_end_at k_end_at
  have g_end_at := PySem.W.mg_of X Gn a_end_at
  have F_table_of := fun_mk (st := s_table_of) l_table_of q_table_of k_table_of
  have g_table_of := PySem.W.mg_of X Gn a_table_of
  have F_chased := fun_mk (st := s_chased) l_chased q_chased k_chased
  have g_chased := PySem.W.mg_of X Gn a_chased
  have F_multiplied := fun_mk (st := s_multiplied) l_multiplied q_multiplied k_multiplied
  have g_multiplied := PySem.W.mg_of X Gn a_multiplied
  have F_is_word := fun_mk (st := s_is_word) l_is_word q_is_word k_is_word
  have g_is_word := PySem.W.mg_of X Gn a_is_word
  have F_are_right_parts := fun_mk (st := s_are_right_parts) l_are_right_parts q_are_right_parts k_are_right_parts
  have g_are_right_parts := PySem.W.mg_of X Gn a_are_right_parts
  have F_need_parts := fun_mk (st := s_need_parts) l_need_parts q_need_parts k_need_parts
  have g_need_parts := PySem.W.mg_of X Gn a_need_parts
  have F_powered := fun_mk (st := s_powered) l_powered q_powered k_powered
  have g_powered := PySem.W.mg_of X Gn a_powered
  have F_long_table := fun_mk (st := s_long_table) l_long_table q_long_table k_long_table
  have g_long_table := PySem.W.mg_of X Gn a_long_table
  have F_count_columns := fun_mk (st := s_count_columns) l_count_columns q_count_columns k_count_columns
  have g_count_columns := PySem.W.mg_of X Gn a_count_columns
  have F_come_round := fun_mk (st := s_come_round) l_come_round q_come_round k_come_round
  have g_come_round := PySem.W.mg_of X Gn a_come_round
  have F_law_source := fun_mk (st := s_law_source) l_law_source q_law_source k_law_source
  have g_law_source := PySem.W.mg_of X Gn a_law_source
  have F_law_pick := fun_mk (st := s_law_pick) l_law_pick q_law_pick k_law_pick
  have g_law_pick := PySem.W.mg_of X Gn a_law_pick
  have F_law_chosen := fun_mk (st := s_law_chosen) l_law_chosen q_law_chosen k_law_chosen
  have g_law_chosen := PySem.W.mg_of X Gn a_law_chosen
  have F_law_onward := fun_mk (st := s_law_onward) l_law_onward q_law_onward k_law_onward
  have g_law_onward := PySem.W.mg_of X Gn a_law_onward
  have F_law_walk := fun_mk (st := s_law_walk) l_law_walk q_law_walk k_law_walk
  have g_law_walk := PySem.W.mg_of X Gn a_law_walk
  have F_law_plain := fun_mk (st := s_law_plain) l_law_plain q_law_plain k_law_plain
  have g_law_plain := PySem.W.mg_of X Gn a_law_plain
  have F_law_table := fun_mk (st := s_law_table) l_law_table q_law_table k_law_table
  have g_law_table := PySem.W.mg_of X Gn a_law_table
  have F_law_times := fun_mk (st := s_law_times) l_law_times q_law_times k_law_times
  have g_law_times := PySem.W.mg_of X Gn a_law_times
  have F_law_column := fun_mk (st := s_law_column) l_law_column q_law_column k_law_column
  have g_law_column := PySem.W.mg_of X Gn a_law_column
  have F_law_strip := fun_mk (st := s_law_strip) l_law_strip q_law_strip k_law_strip
  have g_law_strip := PySem.W.mg_of X Gn a_law_strip
  have F_law_refused := fun_mk (st := s_law_refused) l_law_refused q_law_refused k_law_refused
  have g_law_refused := PySem.W.mg_of X Gn a_law_refused
  have F_law_error := fun_mk (st := s_law_error) l_law_error q_law_error k_law_error
  have g_law_error := PySem.W.mg_of X Gn a_law_error
  have F_law_one := fun_mk (st := s_law_one) l_law_one q_law_one k_law_one
  have g_law_one := PySem.W.mg_of X Gn a_law_one
  have F_law_power := fun_mk (st := s_law_power) l_law_power q_law_power k_law_power
  have g_law_power := PySem.W.mg_of X Gn a_law_power
  have F_law := fun_mk (st := s_law) l_law q_law k_law
  have g_law := PySem.W.mg_of X Gn a_law
  have i_long_table : G.fa 12 = some f_long_table := rfl
  have i_count_columns : G.fa 2 = some f_count_columns := rfl
  have i_come_round : G.fa 1 = some f_come_round := rfl
  have gc_InvalidStrip := PySem.W.mg_of X Gn ac_InvalidStrip
  have gc_InvalidParts := PySem.W.mg_of X Gn ac_InvalidParts
  have gc_InvalidGate := PySem.W.mg_of X Gn ac_InvalidGate
  have gc_InvalidSide := PySem.W.mg_of X Gn ac_InvalidSide
  have gc_InvalidRow := PySem.W.mg_of X Gn ac_InvalidRow
  have gc_InvalidColumn := PySem.W.mg_of X Gn ac_InvalidColumn
  have gc_InvalidSign := PySem.W.mg_of X Gn ac_InvalidSign
  have gc_InvalidEnd := PySem.W.mg_of X Gn ac_InvalidEnd
  have gc_InvalidTable := PySem.W.mg_of X Gn ac_InvalidTable
  have gc_InvalidStock := PySem.W.mg_of X Gn ac_InvalidStock
  have gc_InvalidPattern := PySem.W.mg_of X Gn ac_InvalidPattern
  have gc_InvalidSeen := PySem.W.mg_of X Gn ac_InvalidSeen
  have gc_InvalidNumber := PySem.W.mg_of X Gn ac_InvalidNumber
  have gc_InvalidWidth := PySem.W.mg_of X Gn ac_InvalidWidth
  have gc_InvalidEcho := PySem.W.mg_of X Gn ac_InvalidEcho
  have gc_TooWide := PySem.W.mg_of X Gn ac_TooWide
  have gc_Unlike := PySem.W.mg_of X Gn ac_Unlike
  have gc_NothingToUndo := PySem.W.mg_of X Gn ac_NothingToUndo
  have gc_TooMany := PySem.W.mg_of X Gn ac_TooMany
  have gc_InvalidText := PySem.W.mg_of X Gn ac_InvalidText
  have gc_StripError := PySem.W.mg_of X Gn ac_StripError
  have e_InvalidStrip : ExcK G mg "InvalidStrip" 0 := ⟨C_InvalidStrip, gc_InvalidStrip, ex_InvalidStrip, kp_InvalidStrip, sb_InvalidStrip, ty_InvalidStrip, rfl⟩
  have e_InvalidParts : ExcK G mg "InvalidParts" 11 := ⟨C_InvalidParts, gc_InvalidParts, ex_InvalidParts, kp_InvalidParts, sb_InvalidParts, ty_InvalidParts, rfl⟩
  have xc : ∀ n D, G.ca n = some (.ref D) → ExcC G.K D := (caC_all ⟨xc_InvalidStrip_hg, xc_InvalidStrip_hk, xc_InvalidStrip_hs, xc_InvalidStrip_hd, xc_InvalidStrip_ha, gs_hn, gs_ht, xc_InvalidStrip_hm⟩ (caC_all ⟨xc_InvalidParts_hg, xc_InvalidParts_hk, xc_InvalidParts_hs, xc_InvalidParts_hd, xc_InvalidParts_ha, gs_hn, gs_ht, xc_InvalidParts_hm⟩ caN_all))
  have xm : ∀ n cls, G.ca n = some cls → ∃ D, cls = .ref D ∧ PySem.W.exmOne G.K cls (.ref C_StripError) = some true := (caC_ref ⟨_, rfl, em_InvalidStrip⟩ (caC_ref ⟨_, rfl, em_InvalidParts⟩ caN_ref))
  have s_InvalidStrip : ClsK G mg "InvalidStrip" 0 := ⟨C_InvalidStrip, gc_InvalidStrip, (caC_all kt_InvalidStrip_InvalidStrip (caC_all kt_InvalidParts_InvalidStrip caN_all))⟩
  have s_InvalidGate : ClsK G mg "InvalidGate" 1 := ⟨C_InvalidGate, gc_InvalidGate, (caC_all kt_InvalidStrip_InvalidGate (caC_all kt_InvalidParts_InvalidGate caN_all))⟩
  have s_InvalidSide : ClsK G mg "InvalidSide" 2 := ⟨C_InvalidSide, gc_InvalidSide, (caC_all kt_InvalidStrip_InvalidSide (caC_all kt_InvalidParts_InvalidSide caN_all))⟩
  have s_InvalidRow : ClsK G mg "InvalidRow" 3 := ⟨C_InvalidRow, gc_InvalidRow, (caC_all kt_InvalidStrip_InvalidRow (caC_all kt_InvalidParts_InvalidRow caN_all))⟩
  have s_InvalidColumn : ClsK G mg "InvalidColumn" 4 := ⟨C_InvalidColumn, gc_InvalidColumn, (caC_all kt_InvalidStrip_InvalidColumn (caC_all kt_InvalidParts_InvalidColumn caN_all))⟩
  have s_InvalidSign : ClsK G mg "InvalidSign" 5 := ⟨C_InvalidSign, gc_InvalidSign, (caC_all kt_InvalidStrip_InvalidSign (caC_all kt_InvalidParts_InvalidSign caN_all))⟩
  have s_InvalidEnd : ClsK G mg "InvalidEnd" 6 := ⟨C_InvalidEnd, gc_InvalidEnd, (caC_all kt_InvalidStrip_InvalidEnd (caC_all kt_InvalidParts_InvalidEnd caN_all))⟩
  have s_InvalidTable : ClsK G mg "InvalidTable" 7 := ⟨C_InvalidTable, gc_InvalidTable, (caC_all kt_InvalidStrip_InvalidTable (caC_all kt_InvalidParts_InvalidTable caN_all))⟩
  have s_InvalidStock : ClsK G mg "InvalidStock" 8 := ⟨C_InvalidStock, gc_InvalidStock, (caC_all kt_InvalidStrip_InvalidStock (caC_all kt_InvalidParts_InvalidStock caN_all))⟩
  have s_InvalidPattern : ClsK G mg "InvalidPattern" 9 := ⟨C_InvalidPattern, gc_InvalidPattern, (caC_all kt_InvalidStrip_InvalidPattern (caC_all kt_InvalidParts_InvalidPattern caN_all))⟩
  have s_InvalidSeen : ClsK G mg "InvalidSeen" 10 := ⟨C_InvalidSeen, gc_InvalidSeen, (caC_all kt_InvalidStrip_InvalidSeen (caC_all kt_InvalidParts_InvalidSeen caN_all))⟩
  have s_InvalidParts : ClsK G mg "InvalidParts" 11 := ⟨C_InvalidParts, gc_InvalidParts, (caC_all kt_InvalidStrip_InvalidParts (caC_all kt_InvalidParts_InvalidParts caN_all))⟩
  have s_InvalidNumber : ClsK G mg "InvalidNumber" 12 := ⟨C_InvalidNumber, gc_InvalidNumber, (caC_all kt_InvalidStrip_InvalidNumber (caC_all kt_InvalidParts_InvalidNumber caN_all))⟩
  have s_InvalidWidth : ClsK G mg "InvalidWidth" 13 := ⟨C_InvalidWidth, gc_InvalidWidth, (caC_all kt_InvalidStrip_InvalidWidth (caC_all kt_InvalidParts_InvalidWidth caN_all))⟩
  have s_InvalidEcho : ClsK G mg "InvalidEcho" 14 := ⟨C_InvalidEcho, gc_InvalidEcho, (caC_all kt_InvalidStrip_InvalidEcho (caC_all kt_InvalidParts_InvalidEcho caN_all))⟩
  have s_TooWide : ClsK G mg "TooWide" 15 := ⟨C_TooWide, gc_TooWide, (caC_all kt_InvalidStrip_TooWide (caC_all kt_InvalidParts_TooWide caN_all))⟩
  have s_Unlike : ClsK G mg "Unlike" 16 := ⟨C_Unlike, gc_Unlike, (caC_all kt_InvalidStrip_Unlike (caC_all kt_InvalidParts_Unlike caN_all))⟩
  have s_NothingToUndo : ClsK G mg "NothingToUndo" 17 := ⟨C_NothingToUndo, gc_NothingToUndo, (caC_all kt_InvalidStrip_NothingToUndo (caC_all kt_InvalidParts_NothingToUndo caN_all))⟩
  have s_TooMany : ClsK G mg "TooMany" 18 := ⟨C_TooMany, gc_TooMany, (caC_all kt_InvalidStrip_TooMany (caC_all kt_InvalidParts_TooMany caN_all))⟩
  have s_InvalidText : ClsK G mg "InvalidText" 19 := ⟨C_InvalidText, gc_InvalidText, (caC_all kt_InvalidStrip_InvalidText (caC_all kt_InvalidParts_InvalidText caN_all))⟩
  refine ⟨PySem.W.fnOf "law" "law" (defArgs s_law) (defBody s_law) (defScope s_law) .none kV_law dc_law pm_law an_law cd_law ct_law, [(cc_law_one, P_law_one)], spLawT G, List.forall_mem_cons.mpr ⟨t_law_one.2, List.forall_mem_nil _⟩, List.forall_mem_cons.mpr ⟨u_law_one, List.forall_mem_nil _⟩, List.forall_mem_cons.mpr ⟨t_law_one.1, List.forall_mem_nil _⟩, fun s v => .of_eq rfl, fun H a ns hl _ hT hS => ⟨a, ns, rfl, hS, hl, List.forall_mem_cons.mpr ⟨LamX.TabS.nil (hT (cc_law_one, P_law_one) (by simp)), List.forall_mem_nil _⟩, fun _ => rfl⟩, fun base _ _ hTB => ?_⟩
  have L_law_one : LamT G mg base cc_law_one P_law_one "_law_one.<locals>.<lambda>" := ⟨hTB (cc_law_one, P_law_one) (by simp), by simp [G], by intro z hz e; simp [G] at hz; rcases hz with rfl <;> first | rfl | (exfalso; simp_all)⟩
  have G_is_within := ok_is_within (G := G) (mg := mg) (base := base) F_is_within n_bool n_int n_isinstance
  have G_is_column := ok_is_column (G := G) (mg := mg) (base := base) F_is_column n_all n_isinstance n_len n_str
  have G_are_columns := ok_are_columns (G := G) (mg := mg) (base := base) F_are_columns n_all g_is_column G_is_column n_isinstance n_len n_tuple
  have G_is_pair := ok_is_pair (G := G) (mg := mg) (base := base) F_is_pair n_isinstance n_len n_tuple
  have G_is_right_strip := ok_is_right_strip (G := G) (mg := mg) (base := base) F_is_right_strip c_MOST_LONG c_MOST_WIDE c_SIGNS g_are_columns G_are_columns g_is_pair G_is_pair g_is_within G_is_within
  have G_need_strip := ok_need_strip (G := G) (mg := mg) (base := base) F_need_strip g_is_right_strip G_is_right_strip e_InvalidStrip
  have G_onward := ok_onward (G := G) (mg := mg) (base := base) F_onward c_FACES i_FACES c_FALLING i_FALLING c_RISING i_RISING
  have G_entry := ok_entry (G := G) (mg := mg) (base := base) F_entry n_len
  have G_exit_of := ok_exit_of (G := G) (mg := mg) (base := base) F_exit_of n_len
  have G_moved := ok_moved (G := G) (mg := mg) (base := base) F_moved c_STEPS i_STEPS g_onward G_onward
  have G_followed := ok_followed (G := G) (mg := mg) (base := base) F_followed g_entry G_entry g_exit_of G_exit_of n_list g_moved G_moved
  have G_plain_end := ok_plain_end (G := G) (mg := mg) (base := base) F_plain_end 
  have G_end_at := ok_end_at (G := G) (mg := mg) (base := base) F_end_at g_followed G_followed g_plain_end G_plain_end
  have G_table_of := ok_table_of (G := G) (mg := mg) (base := base) F_table_of g_end_at G_end_at n_range n_tuple
  have G_chased := ok_chased (G := G) (mg := mg) (base := base) F_chased 
  have G_multiplied := ok_multiplied (G := G) (mg := mg) (base := base) F_multiplied g_chased G_chased n_len n_range n_tuple
  have G_is_word := ok_is_word (G := G) (mg := mg) (base := base) F_is_word c_MOST_COLUMNS c_MOST_TIMES c_SIGNS g_are_columns G_are_columns g_is_pair G_is_pair g_is_within G_is_within
  have G_are_right_parts := ok_are_right_parts (G := G) (mg := mg) (base := base) F_are_right_parts c_MOST_WORDS n_all g_is_pair G_is_pair g_is_within G_is_within g_is_word G_is_word n_isinstance n_len n_tuple
  have G_need_parts := ok_need_parts (G := G) (mg := mg) (base := base) F_need_parts g_are_right_parts G_are_right_parts e_InvalidParts
  have G_powered := ok_powered (G := G) (mg := mg) (base := base) F_powered n_len g_multiplied G_multiplied g_table_of G_table_of
  have G_long_table := ok_long_table (G := G) (mg := mg) (base := base) F_long_table g_multiplied G_multiplied g_need_parts G_need_parts g_powered G_powered g_table_of G_table_of
  have G_count_columns := ok_count_columns (G := G) (mg := mg) (base := base) F_count_columns n_len g_need_parts G_need_parts n_sum
  have G_come_round := ok_come_round (G := G) (mg := mg) (base := base) F_come_round n_len g_multiplied G_multiplied g_need_strip G_need_strip g_table_of G_table_of
  have T_tab : FtOk G mg base 7 FT := (ftC_ok i_long_table (G_long_table.mono (by decide)) (ftC_ok i_count_columns (G_count_columns.mono (by decide)) (ftC_ok i_come_round (G_come_round.mono (by decide)) ftN_ok)))
  have G_law_source := ok_law_source (G := G) (mg := mg) (base := base) F_law_source n_int n_len
  have G_law_pick := ok_law_pick (G := G) (mg := mg) (base := base) F_law_pick n_int
  have G_law_chosen := ok_law_chosen (G := G) (mg := mg) (base := base) F_law_chosen g_law_pick G_law_pick n_len
  have G_law_onward := ok_law_onward (G := G) (mg := mg) (base := base) F_law_onward 
  have G_law_walk := ok_law_walk (G := G) (mg := mg) (base := base) F_law_walk g_law_onward G_law_onward n_len n_range
  have G_law_plain := ok_law_plain (G := G) (mg := mg) (base := base) F_law_plain 
  have G_law_table := ok_law_table (G := G) (mg := mg) (base := base) F_law_table g_law_plain G_law_plain g_law_walk G_law_walk n_range n_tuple
  have G_law_times := ok_law_times (G := G) (mg := mg) (base := base) F_law_times n_len n_range n_tuple
  have G_law_column := ok_law_column (G := G) (mg := mg) (base := base) F_law_column g_law_chosen G_law_chosen g_law_pick G_law_pick n_len n_range
  have G_law_strip := ok_law_strip (G := G) (mg := mg) (base := base) F_law_strip g_law_column G_law_column g_law_pick G_law_pick n_range n_tuple
  have E_law_error : ∀ n D, G.ca n = some (.ref D) → ∃ fd ps, FnE G.P G.w G.K mg base (L2N.CX G.P G.w) 1 f_law_error fd ps (spE G D (m_law_error n)) ∧ L2.Binds G.K fd ps [] := fun n D hn => ⟨_, ["e"], ok_law_error (G := G) (mg := mg) (base := base) F_law_error hn xc s_InvalidColumn s_InvalidEcho s_InvalidEnd s_InvalidGate s_InvalidNumber s_InvalidParts s_InvalidPattern s_InvalidRow s_InvalidSeen s_InvalidSide s_InvalidSign s_InvalidStock s_InvalidStrip s_InvalidTable s_InvalidText s_InvalidWidth s_NothingToUndo s_TooMany s_TooWide s_Unlike n_isinstance, F_law_error.binds (ps := ["e"]) fun _ _ _ _ _ _ us hl => match us, hl with | [_], _ => rfl⟩
  have R_ref := ok_law_refused (G := G) (mg := mg) (base := base) g_law_refused k_law_refused l_law_refused q_law_refused (F_law_refused.binds (ps := ["call"]) fun _ _ _ _ _ _ us hl => match us, hl with | [_], _ => rfl) gc_StripError g_law_error k_law_error xm E_law_error
  have G_law_one := ok_law_one (G := G) (mg := mg) (base := base) F_law_one rfl T_tab L_law_one R_ref
  have G_law_power := ok_law_power (G := G) (mg := mg) (base := base) F_law_power g_law_table G_law_table g_law_times G_law_times n_len
  exact ok_law (G := G) (mg := mg) (base := base) F_law hm g_law_chosen G_law_chosen g_law_column G_law_column g_law_one G_law_one g_law_pick G_law_pick g_law_power G_law_power g_law_source G_law_source g_law_strip G_law_strip g_law_table G_law_table g_law_times G_law_times g_come_round G_come_round g_count_columns G_count_columns i_come_round i_count_columns g_long_table i_long_table n_len G_long_table n_max n_min n_range n_tuple
end DL

open PySem PySem.W PyProof.Rows in
set_option maxRecDepth 100000 in
set_option maxHeartbeats 0 in
theorem PySem.Challenge.cw_mirrorstrips_k22_whole_strips_in_parts_holds : PySem.Challenge.rw_mirrorstrips_k22_whole_strips_in_parts.Holds := by
  w_on; o_law; k_head; (case hw => w_witness2)
  k_fill
  refine DL.walkT (l := PySem.Challenge.rw_mirrorstrips_k22_whole_strips_in_parts) (n := 63) (k := 11) (x := "script") (CX := fun w => L2N.CX PySem.Challenge.rw_mirrorstrips_k22_whole_strips_in_parts.prog w) rfl (by decide) rfl ⟨rfl, by decide, by decide⟩ (fun w h Y => by first | exact PySem.W.km_in_of Y | exact PySem.W.kIn_of Y) ?F (fun _ _ _ _ _ z => DL.noex_law z)
  case F =>
    intro w mg fa h hTab Y KX G hmg
    refine' DL.all_mk KX G hmg ?a_is_within ?l_is_within ?q_is_within ?k_is_within ?a_is_column ?l_is_column ?q_is_column ?k_is_column ?a_are_columns ?l_are_columns ?q_are_columns ?k_are_columns ?a_is_pair ?l_is_pair ?q_is_pair ?k_is_pair ?a_is_right_strip ?l_is_right_strip ?q_is_right_strip ?k_is_right_strip ?a_need_strip ?l_need_strip ?q_need_strip ?k_need_strip ?a_onward ?l_onward ?q_onward ?k_onward ?a_entry ?l_entry ?q_entry ?k_entry ?a_exit_of ?l_exit_of ?q_exit_of ?k_exit_of ?a_moved ?l_moved ?q_moved ?k_moved ?a_followed ?l_followed ?q_followed ?k_followed ?a_plain_end ?l_plain_end ?q_plain_end ?k_plain_end ?a_end_at ?l_end_at ?q_end_at ?k_end_at ?a_table_of ?l_table_of ?q_table_of ?k_table_of ?a_chased ?l_chased ?q_chased ?k_chased ?a_multiplied ?l_multiplied ?q_multiplied ?k_multiplied ?a_is_word ?l_is_word ?q_is_word ?k_is_word ?a_are_right_parts ?l_are_right_parts ?q_are_right_parts ?k_are_right_parts ?a_need_parts ?l_need_parts ?q_need_parts ?k_need_parts ?a_powered ?l_powered ?q_powered ?k_powered ?a_long_table ?l_long_table ?q_long_table ?k_long_table ?a_count_columns ?l_count_columns ?q_count_columns ?k_count_columns ?a_come_round ?l_come_round ?q_come_round ?k_come_round ?a_law_source ?l_law_source ?q_law_source ?k_law_source ?a_law_pick ?l_law_pick ?q_law_pick ?k_law_pick ?a_law_chosen ?l_law_chosen ?q_law_chosen ?k_law_chosen ?a_law_onward ?l_law_onward ?q_law_onward ?k_law_onward ?a_law_walk ?l_law_walk ?q_law_walk ?k_law_walk ?a_law_plain ?l_law_plain ?q_law_plain ?k_law_plain ?a_law_table ?l_law_table ?q_law_table ?k_law_table ?a_law_times ?l_law_times ?q_law_times ?k_law_times ?a_law_column ?l_law_column ?q_law_column ?k_law_column ?a_law_strip ?l_law_strip ?q_law_strip ?k_law_strip ?a_law_refused ?l_law_refused ?q_law_refused ?k_law_refused ?a_law_error ?l_law_error ?q_law_error ?k_law_error ?a_law_one ?l_law_one ?q_law_one ?k_law_one ?a_law_power ?l_law_power ?q_law_power ?k_law_power ?a_law ?l_law ?q_law ?k_law ?v_law_one ?p_law_one ?t_law_one ?u_law_one ?z_all ?z_bool ?z_int ?z_isinstance ?z_len ?z_list ?z_max ?z_min ?z_range ?z_str ?z_sum ?z_tuple ?w_FACES ?u_FACES ?y_FACES ?v_FACES_0 ?v_FACES_1 ?v_FACES_2 ?v_FACES_3 ?v_FACES_4 ?v_FACES_5 ?u_FACES_0 ?u_FACES_1 ?u_FACES_2 ?u_FACES_3 ?u_FACES_4 ?u_FACES_5 ?w_FALLING ?u_FALLING ?y_FALLING ?v_FALLING_0 ?v_FALLING_1 ?v_FALLING_2 ?v_FALLING_3 ?w_MOST_COLUMNS ?w_MOST_LONG ?w_MOST_TIMES ?w_MOST_WIDE ?w_MOST_WORDS ?w_RISING ?u_RISING ?y_RISING ?v_RISING_0 ?v_RISING_1 ?v_RISING_2 ?v_RISING_3 ?w_SIGNS ?w_STEPS ?u_STEPS ?y_STEPS ?v_STEPS_0 ?v_STEPS_1 ?v_STEPS_2 ?v_STEPS_3 ?u_STEPS_0 ?u_STEPS_1 ?u_STEPS_2 ?u_STEPS_3 ?ac_InvalidStrip ?ac_InvalidParts ?ac_InvalidGate ?ac_InvalidSide ?ac_InvalidRow ?ac_InvalidColumn ?ac_InvalidSign ?ac_InvalidEnd ?ac_InvalidTable ?ac_InvalidStock ?ac_InvalidPattern ?ac_InvalidSeen ?ac_InvalidNumber ?ac_InvalidWidth ?ac_InvalidEcho ?ac_TooWide ?ac_Unlike ?ac_NothingToUndo ?ac_TooMany ?ac_InvalidText ?ac_StripError ?ex_InvalidStrip ?kp_InvalidStrip ?sb_InvalidStrip ?ty_InvalidStrip ?xc_InvalidStrip_hg ?xc_InvalidStrip_hk ?xc_InvalidStrip_hs ?xc_InvalidStrip_hd ?xc_InvalidStrip_ha ?xc_InvalidStrip_hm ?em_InvalidStrip ?kt_InvalidStrip_InvalidStrip ?kt_InvalidStrip_InvalidGate ?kt_InvalidStrip_InvalidSide ?kt_InvalidStrip_InvalidRow ?kt_InvalidStrip_InvalidColumn ?kt_InvalidStrip_InvalidSign ?kt_InvalidStrip_InvalidEnd ?kt_InvalidStrip_InvalidTable ?kt_InvalidStrip_InvalidStock ?kt_InvalidStrip_InvalidPattern ?kt_InvalidStrip_InvalidSeen ?kt_InvalidStrip_InvalidParts ?kt_InvalidStrip_InvalidNumber ?kt_InvalidStrip_InvalidWidth ?kt_InvalidStrip_InvalidEcho ?kt_InvalidStrip_TooWide ?kt_InvalidStrip_Unlike ?kt_InvalidStrip_NothingToUndo ?kt_InvalidStrip_TooMany ?kt_InvalidStrip_InvalidText ?ex_InvalidParts ?kp_InvalidParts ?sb_InvalidParts ?ty_InvalidParts ?xc_InvalidParts_hg ?xc_InvalidParts_hk ?xc_InvalidParts_hs ?xc_InvalidParts_hd ?xc_InvalidParts_ha ?xc_InvalidParts_hm ?em_InvalidParts ?kt_InvalidParts_InvalidStrip ?kt_InvalidParts_InvalidGate ?kt_InvalidParts_InvalidSide ?kt_InvalidParts_InvalidRow ?kt_InvalidParts_InvalidColumn ?kt_InvalidParts_InvalidSign ?kt_InvalidParts_InvalidEnd ?kt_InvalidParts_InvalidTable ?kt_InvalidParts_InvalidStock ?kt_InvalidParts_InvalidPattern ?kt_InvalidParts_InvalidSeen ?kt_InvalidParts_InvalidParts ?kt_InvalidParts_InvalidNumber ?kt_InvalidParts_InvalidWidth ?kt_InvalidParts_InvalidEcho ?kt_InvalidParts_TooWide ?kt_InvalidParts_Unlike ?kt_InvalidParts_NothingToUndo ?kt_InvalidParts_TooMany ?kt_InvalidParts_InvalidText ?gs_hn ?gs_ht DL.law_true
    (case a_is_within => k_is)
    (case l_is_within => k_is)
    (case q_is_within => k_is)
    (case k_is_within => k_is)
    (case a_is_column => k_is)
    (case l_is_column => k_is)
    (case q_is_column => k_is)
    (case k_is_column => k_is)
    (case a_are_columns => k_is)
    (case l_are_columns => k_is)
    (case q_are_columns => k_is)
    (case k_are_columns => k_is)
    (case a_is_pair => k_is)
    (case l_is_pair => k_is)
    (case q_is_pair => k_is)
    (case k_is_pair => k_is)
    (case a_is_right_strip => k_is)
    (case l_is_right_strip => k_is)
    (case q_is_right_strip => k_is)
    (case k_is_right_strip => k_is)
    (case a_need_strip => k_is)
    (case l_need_strip => k_is)
    (case q_need_strip => k_is)
    (case k_need_strip => k_is)
    (case a_onward => k_is)
    (case l_onward => k_is)
    (case q_onward => k_is)
    (case k_onward => k_is)
    (case a_entry => k_is)
    (case l_entry => k_is)
    (case q_entry => k_is)
    (case k_entry => k_is)
    (case a_exit_of => k_is)
    (case l_exit_of => k_is)
    (case q_exit_of => k_is)
    (case k_exit_of => k_is)
    (case a_moved => k_is)
    (case l_moved => k_is)
    (case q_moved => k_is)
    (case k_moved => k_is)
    (case a_followed => k_is)
    (case l_followed => k_is)
    (case q_followed => k_is)
    (case k_followed => k_is)
    (case a_plain_end => k_is)
    (case l_plain_end => k_is)
    (case q_plain_end => k_is)
    (case k_plain_end => k_is)
    (case a_end_at => k_is)
    (case l_end_at => k_is)
    (case q_end_at => k_is)
    (case k_end_at => k_is)
    (case a_table_of => k_is)
    (case l_table_of => k_is)
    (case q_table_of => k_is)
    (case k_table_of => k_is)
    (case a_chased => k_is)
    (case l_chased => k_is)
    (case q_chased => k_is)
    (case k_chased => k_is)
    (case a_multiplied => k_is)
    (case l_multiplied => k_is)
    (case q_multiplied => k_is)
    (case k_multiplied => k_is)
    (case a_is_word => k_is)
    (case l_is_word => k_is)
    (case q_is_word => k_is)
    (case k_is_word => k_is)
    (case a_are_right_parts => k_is)
    (case l_are_right_parts => k_is)
    (case q_are_right_parts => k_is)
    (case k_are_right_parts => k_is)
    (case a_need_parts => k_is)
    (case l_need_parts => k_is)
    (case q_need_parts => k_is)
    (case k_need_parts => k_is)
    (case a_powered => k_is)
    (case l_powered => k_is)
    (case q_powered => k_is)
    (case k_powered => k_is)
    (case a_long_table => k_is)
    (case l_long_table => k_is)
    (case q_long_table => k_is)
    (case k_long_table => k_is)
    (case a_count_columns => k_is)
    (case l_count_columns => k_is)
    (case q_count_columns => k_is)
    (case k_count_columns => k_is)
    (case a_come_round => k_is)
    (case l_come_round => k_is)
    (case q_come_round => k_is)
    (case k_come_round => k_is)
    (case a_law_source => k_is)
    (case l_law_source => k_is)
    (case q_law_source => k_is)
    (case k_law_source => k_is)
    (case a_law_pick => k_is)
    (case l_law_pick => k_is)
    (case q_law_pick => k_is)
    (case k_law_pick => k_is)
    (case a_law_chosen => k_is)
    (case l_law_chosen => k_is)
    (case q_law_chosen => k_is)
    (case k_law_chosen => k_is)
    (case a_law_onward => k_is)
    (case l_law_onward => k_is)
    (case q_law_onward => k_is)
    (case k_law_onward => k_is)
    (case a_law_walk => k_is)
    (case l_law_walk => k_is)
    (case q_law_walk => k_is)
    (case k_law_walk => k_is)
    (case a_law_plain => k_is)
    (case l_law_plain => k_is)
    (case q_law_plain => k_is)
    (case k_law_plain => k_is)
    (case a_law_table => k_is)
    (case l_law_table => k_is)
    (case q_law_table => k_is)
    (case k_law_table => k_is)
    (case a_law_times => k_is)
    (case l_law_times => k_is)
    (case q_law_times => k_is)
    (case k_law_times => k_is)
    (case a_law_column => k_is)
    (case l_law_column => k_is)
    (case q_law_column => k_is)
    (case k_law_column => k_is)
    (case a_law_strip => k_is)
    (case l_law_strip => k_is)
    (case q_law_strip => k_is)
    (case k_law_strip => k_is)
    (case a_law_refused => k_is)
    (case l_law_refused => k_is)
    (case q_law_refused => k_is)
    (case k_law_refused => k_is)
    (case a_law_error => k_is)
    (case l_law_error => k_is)
    (case q_law_error => k_is)
    (case k_law_error => k_is)
    (case a_law_one => k_is)
    (case l_law_one => k_is)
    (case q_law_one => k_is)
    (case k_law_one => k_is)
    (case a_law_power => k_is)
    (case l_law_power => k_is)
    (case q_law_power => k_is)
    (case k_law_power => k_is)
    (case a_law => k_is)
    (case l_law => k_is)
    (case q_law => k_is)
    (case k_law => k_is)
    (case v_law_one => k_is)
    (case p_law_one => rfl)
    (case t_law_one => exact ⟨PySem.W.codeHd_of_K KX (by kernel_rfl), PySem.W.km_tabs_of Y _ (by first | decide | simp)⟩)
    (case u_law_one => kernel_rfl)
    (case z_all => k_is)
    (case z_bool => k_is)
    (case z_int => k_is)
    (case z_isinstance => k_is)
    (case z_len => k_is)
    (case z_list => k_is)
    (case z_max => k_is)
    (case z_min => k_is)
    (case z_range => k_is)
    (case z_str => k_is)
    (case z_sum => k_is)
    (case z_tuple => k_is)
    (case w_FACES => k_is)
    (case u_FACES => k_is)
    (case y_FACES => (show PySem.W.KeysLit _ (_ :: _); repeat (first | exact trivial | refine ⟨⟨_, _, rfl, rfl⟩, ?_⟩)))
    (case v_FACES_0 => k_is)
    (case v_FACES_1 => k_is)
    (case v_FACES_2 => k_is)
    (case v_FACES_3 => k_is)
    (case v_FACES_4 => k_is)
    (case v_FACES_5 => k_is)
    (case u_FACES_0 => k_is)
    (case u_FACES_1 => k_is)
    (case u_FACES_2 => k_is)
    (case u_FACES_3 => k_is)
    (case u_FACES_4 => k_is)
    (case u_FACES_5 => k_is)
    (case w_FALLING => k_is)
    (case u_FALLING => k_is)
    (case y_FALLING => (show PySem.W.KeysLit _ (_ :: _); repeat (first | exact trivial | refine ⟨⟨_, _, rfl, rfl⟩, ?_⟩)))
    (case v_FALLING_0 => k_is)
    (case v_FALLING_1 => k_is)
    (case v_FALLING_2 => k_is)
    (case v_FALLING_3 => k_is)
    (case w_MOST_COLUMNS => k_is)
    (case w_MOST_LONG => k_is)
    (case w_MOST_TIMES => k_is)
    (case w_MOST_WIDE => k_is)
    (case w_MOST_WORDS => k_is)
    (case w_RISING => k_is)
    (case u_RISING => k_is)
    (case y_RISING => (show PySem.W.KeysLit _ (_ :: _); repeat (first | exact trivial | refine ⟨⟨_, _, rfl, rfl⟩, ?_⟩)))
    (case v_RISING_0 => k_is)
    (case v_RISING_1 => k_is)
    (case v_RISING_2 => k_is)
    (case v_RISING_3 => k_is)
    (case w_SIGNS => k_is)
    (case w_STEPS => k_is)
    (case u_STEPS => k_is)
    (case y_STEPS => (show PySem.W.KeysLit _ (_ :: _); repeat (first | exact trivial | refine ⟨⟨_, _, rfl, rfl⟩, ?_⟩)))
    (case v_STEPS_0 => k_is)
    (case v_STEPS_1 => k_is)
    (case v_STEPS_2 => k_is)
    (case v_STEPS_3 => k_is)
    (case u_STEPS_0 => k_is)
    (case u_STEPS_1 => k_is)
    (case u_STEPS_2 => k_is)
    (case u_STEPS_3 => k_is)
    (case ac_InvalidStrip => k_is)
    (case ac_InvalidParts => k_is)
    (case ac_InvalidGate => k_is)
    (case ac_InvalidSide => k_is)
    (case ac_InvalidRow => k_is)
    (case ac_InvalidColumn => k_is)
    (case ac_InvalidSign => k_is)
    (case ac_InvalidEnd => k_is)
    (case ac_InvalidTable => k_is)
    (case ac_InvalidStock => k_is)
    (case ac_InvalidPattern => k_is)
    (case ac_InvalidSeen => k_is)
    (case ac_InvalidNumber => k_is)
    (case ac_InvalidWidth => k_is)
    (case ac_InvalidEcho => k_is)
    (case ac_TooWide => k_is)
    (case ac_Unlike => k_is)
    (case ac_NothingToUndo => k_is)
    (case ac_TooMany => k_is)
    (case ac_InvalidText => k_is)
    (case ac_StripError => k_is)
    (case ex_InvalidStrip => kernel_rfl)
    (case kp_InvalidStrip => k_is)
    (case sb_InvalidStrip => k_is)
    (case ty_InvalidStrip => k_is)
    (case xc_InvalidStrip_hg => k_is)
    (case xc_InvalidStrip_hk => k_is)
    (case xc_InvalidStrip_hs => k_is)
    (case xc_InvalidStrip_hd => k_is)
    (case xc_InvalidStrip_ha => k_is)
    (case xc_InvalidStrip_hm => k_is)
    (case em_InvalidStrip => kernel_rfl)
    (case kt_InvalidStrip_InvalidStrip => kernel_rfl)
    (case kt_InvalidStrip_InvalidGate => kernel_rfl)
    (case kt_InvalidStrip_InvalidSide => kernel_rfl)
    (case kt_InvalidStrip_InvalidRow => kernel_rfl)
    (case kt_InvalidStrip_InvalidColumn => kernel_rfl)
    (case kt_InvalidStrip_InvalidSign => kernel_rfl)
    (case kt_InvalidStrip_InvalidEnd => kernel_rfl)
    (case kt_InvalidStrip_InvalidTable => kernel_rfl)
    (case kt_InvalidStrip_InvalidStock => kernel_rfl)
    (case kt_InvalidStrip_InvalidPattern => kernel_rfl)
    (case kt_InvalidStrip_InvalidSeen => kernel_rfl)
    (case kt_InvalidStrip_InvalidParts => kernel_rfl)
    (case kt_InvalidStrip_InvalidNumber => kernel_rfl)
    (case kt_InvalidStrip_InvalidWidth => kernel_rfl)
    (case kt_InvalidStrip_InvalidEcho => kernel_rfl)
    (case kt_InvalidStrip_TooWide => kernel_rfl)
    (case kt_InvalidStrip_Unlike => kernel_rfl)
    (case kt_InvalidStrip_NothingToUndo => kernel_rfl)
    (case kt_InvalidStrip_TooMany => kernel_rfl)
    (case kt_InvalidStrip_InvalidText => kernel_rfl)
    (case ex_InvalidParts => kernel_rfl)
    (case kp_InvalidParts => k_is)
    (case sb_InvalidParts => k_is)
    (case ty_InvalidParts => k_is)
    (case xc_InvalidParts_hg => k_is)
    (case xc_InvalidParts_hk => k_is)
    (case xc_InvalidParts_hs => k_is)
    (case xc_InvalidParts_hd => k_is)
    (case xc_InvalidParts_ha => k_is)
    (case xc_InvalidParts_hm => k_is)
    (case em_InvalidParts => kernel_rfl)
    (case kt_InvalidParts_InvalidStrip => kernel_rfl)
    (case kt_InvalidParts_InvalidGate => kernel_rfl)
    (case kt_InvalidParts_InvalidSide => kernel_rfl)
    (case kt_InvalidParts_InvalidRow => kernel_rfl)
    (case kt_InvalidParts_InvalidColumn => kernel_rfl)
    (case kt_InvalidParts_InvalidSign => kernel_rfl)
    (case kt_InvalidParts_InvalidEnd => kernel_rfl)
    (case kt_InvalidParts_InvalidTable => kernel_rfl)
    (case kt_InvalidParts_InvalidStock => kernel_rfl)
    (case kt_InvalidParts_InvalidPattern => kernel_rfl)
    (case kt_InvalidParts_InvalidSeen => kernel_rfl)
    (case kt_InvalidParts_InvalidParts => kernel_rfl)
    (case kt_InvalidParts_InvalidNumber => kernel_rfl)
    (case kt_InvalidParts_InvalidWidth => kernel_rfl)
    (case kt_InvalidParts_InvalidEcho => kernel_rfl)
    (case kt_InvalidParts_TooWide => kernel_rfl)
    (case kt_InvalidParts_Unlike => kernel_rfl)
    (case kt_InvalidParts_NothingToUndo => kernel_rfl)
    (case kt_InvalidParts_TooMany => kernel_rfl)
    (case kt_InvalidParts_InvalidText => kernel_rfl)
    (case gs_hn => k_is)
    (case gs_ht => k_is)
