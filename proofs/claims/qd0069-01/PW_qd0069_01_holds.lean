import PyProof.Rows.All
import Wide.All
import OpenK.AllK
import Wide.FinOn
import PySem.Challenge.RW_qd0069_01
open PySem PySem.W PySem.Calls PyProof.Rows
set_option Elab.async false
set_option maxRecDepth 100000
set_option linter.unusedVariables false
set_option genSizeOf false
set_option genInjectivity false
namespace Mine
section
local macro_rules | `(tactic| o_head $H) => `(tactic| assumption)
set_option maxRecDepth 100000 in
set_option maxHeartbeats 8000000 in
theorem kk (h : PySem.Challenge.rw_qd0069_01.row.Holds) : PySem.Challenge.rw_qd0069_01.row.Holds := by k_head
end


/-- static words -/
structure Bs where
  prog : Program
  w : World
  base : Heap
  os : OsState

inductive AObj where
  | inst (C d : Addr)
  | attrs (C : Addr) (l : List (Str × Value))
  | list (vs : List Value)
  | tup (vs : List Value)
  | tabI (D : List (PyData × PyData))
  | tabS (D : List (PyData × PyData))
  | cell (v : Value)
  | emptyCell
  | lit (l : Addr) (i : Nat)
  | tit (l : Addr) (i : Nat)
  | rit (x left : Int)
  | obj (o : Obj)
  | frame (o : Obj)
  | err (d : Option Addr)
  | edict (l : List (Str × Value))

noncomputable def okAttr (K : Frag) (C : Addr) (n : Str) : Bool :=
  plainGet K C n && hasDictIn K C && (match findIn K (.ref C) n with | some a => noGet K a | none => false) &&
  (findIn K (.ref C) "__setattr__" == some (some (.builtin "object.__setattr__"))) && plainOver K C && (takerIn K C n == some none)
noncomputable def okAt (C : Addr) (n : Str) : Prop := ∀ P, okAttr (kk.heap_1 P) C n = true

noncomputable def AttrsIs (C : Addr) (l : List (Str × Value)) (es : List DictEntry) : Prop :=
  es.length ≤ l.length ∧ (∀ x, (es.find? fun e => e.key.isStr x).map (·.val) = l.lookup x) ∧ es.any (·.refKey) = false ∧ ∀ p ∈ l, okAt C p.1 ∧ handedIn p.2 = true

noncomputable def AObj.is (b : Bs) : AObj → Obj → Prop
  | .inst C d, o => o = instObj C d
  | .attrs C l, o => ∃ es n, o = dictOf es n ∧ AttrsIs C l es
  | .list vs, o => ∃ n, o = listOf vs.toArray n
  | .tup vs, o => ∃ n, o = { cls := .type "tuple", data := .seq vs.toArray n }
  | .tabI D, o => ∃ kvs, o.IsDictOf (intKind b.prog b.w) kvs ∧ PyProof.V.FlatPairs PyData.int kvs D
  | .tabS D, o => ∃ kvs, o.IsDictOf (strKind b.prog b.w) kvs ∧ PyProof.V.FlatPairs PyData.str kvs D
  | .cell v, o => o.data = .cell (some v)
  | .emptyCell, o => o.data = .cell none
  | .lit l i, o => o.cls = .type "list_iterator" ∧ o.data = .fields #[.ref l, .int i 0]
  | .tit l i, o => o.cls = .type "tuple_iterator" ∧ o.data = .fields #[.ref l, .int i 0]
  | .rit x left, o => o = { cls := .type "range_iterator", data := .fields #[rawInt x, rawInt left, rawInt 1] }
  | .obj x, o => o = x
  | .frame x, o => (∃ sl, o = { x with slots := sl }) ∧ ∀ vs, x.data ≠ .fields vs
  | .err d, o => ∃ t : Addr, o = { cls := .ref 71, dict := d, data := .fields #[.ref t, .none, .none, .none, .bool false, .none] }
  | .edict l, o => ∃ es ep, o.data = .dict es ep ∧ StrKeys es ∧ UniqKeys es ∧ ∀ n, nsFind es n = l.lookup n

noncomputable def Knows (b : Bs) (h : Heap) (a : Addr) (A : AObj) : Prop := ∃ o, h.get? a = some o ∧ A.is b o
abbrev Kw := Addr → AObj → Prop
noncomputable def Kw.Le (κ κ' : Kw) : Prop := ∀ a A, κ a A → κ' a A
noncomputable def Kw.ext (κ : Kw) (own : List (Addr × AObj)) : Kw := fun a A => κ a A ∨ (a, A) ∈ own
theorem Kw.le_ext (κ : Kw) (own : List (Addr × AObj)) : κ.Le (κ.ext own) := fun _ _ h => .inl h
theorem Kw.Le.trans {a b c : Kw} (x : a.Le b) (y : b.Le c) : a.Le c := fun _ _ h => y _ _ (x _ _ h)
theorem Kw.Le.refl (a : Kw) : a.Le a := fun _ _ h => h

structure St (b : Bs) (hid : Kw) (L : Addr) (m : Str → Option Value) (κ₀ κ : Kw) (own : List (Addr × AObj)) (s : Shared) : Prop where
  ns : s.heap.Ns L m
  bs : b.base.StaysIn s.heap
  ab : b.base.objs.size ≤ L
  nd : (own.map (·.1)).Nodup
  ow : ∀ p ∈ own, Knows b s.heap p.1 p.2
  kn : ∀ a A, κ a A → Knows b s.heap a A
  hi : ∀ a A, hid a A → Knows b s.heap a A
  oL : L ∉ own.map (·.1)
  kL : ∀ A, ¬ κ L A
  hL : ∀ A, ¬ hid L A
  ok : ∀ a A, κ a A → a ∉ own.map (·.1)
  oh : ∀ a A, hid a A → a ∉ own.map (·.1)
  kh : ∀ a A B, κ a A → ¬ hid a B
  hf : ∀ a A B, hid a A → hid a B → A = B
  og : ∀ p ∈ own, b.base.objs.size ≤ p.1
  ka : ∀ a A, κ a A → a ≠ sysModules
  lo : sysModules < b.base.objs.size
  le : κ₀.Le κ
  gens : s.gens = #[]
  os : s.os = b.os

theorem Knows.lt {b : Bs} {h : Heap} {a : Addr} {A : AObj} (k : Knows b h a A) : a < h.objs.size := let ⟨_, e, _⟩ := k; Heap.lt_size e
theorem Knows.keep {b : Bs} {h h' : Heap} {a : Addr} {A : AObj} (k : Knows b h a A) (e : ∀ o, h.get? a = some o → h'.get? a = some o) : Knows b h' a A :=
  let ⟨o, q, i⟩ := k; ⟨o, e o q, i⟩

section
variable {b : Bs} {hid : Kw} {L : Addr} {m m' : Str → Option Value} {κ₀ κ : Kw} {own : List (Addr × AObj)} {s s' : Shared}

theorem St.fr (S : St b hid L m κ₀ κ own s) : Fr b.base L s.heap m := ⟨S.ns, S.bs, S.ab⟩
theorem base_none {h : Heap} {a : Addr} (k : h.objs.size ≤ a) : h.get? a = none := by
  cases q : h.get? a with
  | none => rfl
  | some o => exact absurd (Heap.lt_size q) (Nat.not_lt.mpr k)
theorem St.ob (S : St b hid L m κ₀ κ own s) {p : Addr × AObj} (hp : p ∈ own) : b.base.get? p.1 = none := base_none (S.og p hp)
theorem St.base_lt (S : St b hid L m κ₀ κ own s) {a : Addr} {o : Obj} (h : b.base.get? a = some o) : a < L := Nat.lt_of_lt_of_le (Heap.lt_size h) S.ab

/-- the heap has grown, or nothing was turned -/
theorem St.keeps (S : St b hid L m κ₀ κ own s) (k : ∀ a o, s.heap.get? a = some o → s'.heap.get? a = some o) (hg : s'.gens = s.gens) (ho : s'.os = s.os) : St b hid L m κ₀ κ own s' where
  ns := S.ns.keeps k
  bs := fun a o e => k a o (S.bs a o e)
  ab := S.ab
  nd := S.nd
  ow := fun p hp => (S.ow p hp).keep fun o => k _ o
  kn := fun a A h => (S.kn a A h).keep fun o => k _ o
  hi := fun a A h => (S.hi a A h).keep fun o => k _ o
  oL := S.oL
  kL := S.kL
  hL := S.hL
  ok := S.ok
  oh := S.oh
  kh := S.kh
  hf := S.hf
  og := S.og
  ka := S.ka
  lo := S.lo
  le := S.le
  gens := hg.trans S.gens
  os := ho.trans S.os

theorem St.toks (S : St b hid L m κ₀ κ own s) (t : Nat) : St b hid L m κ₀ κ own { s with toks := t } := S.keeps (fun _ _ e => e) rfl rfl

/-- a store into the frame -/
theorem St.local (S : St b hid L m κ₀ κ own s) {h' : Heap} {t : Nat} (hn : h'.Ns L m') (hs : Heap.SameBut L s.heap h') : St b hid L m' κ₀ κ own { s with heap := h', toks := t } := by
  have ne : ∀ a, a ≠ L → ∀ o, s.heap.get? a = some o → h'.get? a = some o := fun a h o e => (hs.2 a h).trans e
  exact {
    ns := hn
    bs := fun a o e => ne a (Nat.ne_of_lt (S.base_lt e)) o (S.bs a o e)
    ab := S.ab
    nd := S.nd
    ow := fun p hp => (S.ow p hp).keep (ne _ fun e => S.oL (e ▸ List.mem_map_of_mem hp))
    kn := fun a A h => (S.kn a A h).keep (ne _ fun e => S.kL A (e ▸ h))
    hi := fun a A h => (S.hi a A h).keep (ne _ fun e => S.hL A (e ▸ h))
    oL := S.oL, kL := S.kL, hL := S.hL, ok := S.ok, oh := S.oh, kh := S.kh, hf := S.hf, og := S.og, ka := S.ka, lo := S.lo, le := S.le, gens := S.gens, os := S.os }

/-- a new object -/
theorem St.alloc (S : St b hid L m κ₀ κ own s) {s' : Shared} {a : Addr} {A : AObj} (ha : s.heap.objs.size ≤ a) (k : ∀ a o, s.heap.get? a = some o → s'.heap.get? a = some o) (hk : Knows b s'.heap a A)
    (hg : s'.gens = s.gens) (ho : s'.os = s.os) : St b hid L m κ₀ κ ((a, A) :: own) s' := by
  have S' := S.keeps k hg ho
  have lt : ∀ {c C}, Knows b s.heap c C → c ≠ a := fun x => Nat.ne_of_lt (Nat.lt_of_lt_of_le x.lt ha)
  have nm : a ∉ own.map (·.1) := fun h => by
    obtain ⟨p, hp, e⟩ := List.mem_map.mp h
    exact lt (S.ow p hp) e
  have nL : L ≠ a := Nat.ne_of_lt (Nat.lt_of_lt_of_le S.ns.lt ha)
  exact { S' with
    nd := List.nodup_cons.mpr ⟨nm, S.nd⟩
    ow := fun p hp => by
      rcases List.mem_cons.mp hp with rfl | hp
      · exact hk
      · exact S'.ow p hp
    oL := fun h => by
      rcases List.mem_cons.mp h with e | h
      · exact nL e
      · exact S.oL h
    ok := fun c C hc h => by
      rcases List.mem_cons.mp h with e | h
      · exact lt (S.kn c C hc) e
      · exact S.ok c C hc h
    oh := fun c C hc h => by
      rcases List.mem_cons.mp h with e | h
      · exact lt (S.hi c C hc) e
      · exact S.oh c C hc h
    og := fun p hp => by
      rcases List.mem_cons.mp hp with rfl | hp
      · exact Nat.le_trans S.ab (Nat.le_trans (Nat.le_of_lt S.ns.lt) ha)
      · exact S.og p hp }

inductive Put (a : Addr) (A A' : AObj) : List (Addr × AObj) → List (Addr × AObj) → Prop
  | head {r} : Put a A A' ((a, A) :: r) ((a, A') :: r)
  | tail {p r r'} : Put a A A' r r' → Put a A A' (p :: r) (p :: r')
theorem Put.keys {a : Addr} {A A' : AObj} {l l'} (h : Put a A A' l l') : l'.map (·.1) = l.map (·.1) := by
  induction h with
  | head => rfl
  | tail _ ih => exact congrArg (List.cons _) ih
theorem Put.mem {a : Addr} {A A' : AObj} {l l'} (h : Put a A A' l l') : (a, A) ∈ l := by
  induction h with
  | head => exact .head _
  | tail _ ih => exact .tail _ ih
theorem Put.back {a : Addr} {A A' : AObj} {l l'} (h : Put a A A' l l') : ∀ p ∈ l', p = (a, A') ∨ p ∈ l := by
  induction h with
  | head => exact fun p hp => (List.mem_cons.mp hp).imp id (.tail _)
  | tail _ ih => exact fun p hp => (List.mem_cons.mp hp).elim (fun h => .inr (h ▸ .head _)) fun h => (ih p h).imp id (.tail _)
theorem Put.apart {a : Addr} {A A' : AObj} {l l'} (h : Put a A A' l l') : (l.map (·.1)).Nodup → ∀ p ∈ l', p = (a, A') ∨ (p ∈ l ∧ p.1 ≠ a) := by
  induction h with
  | head => exact fun nd p hp => (List.mem_cons.mp hp).imp id fun h => ⟨.tail _ h, fun e => (List.nodup_cons.mp nd).1 (List.mem_map.mpr ⟨p, h, e⟩)⟩
  | tail r ih => exact fun nd p hp => (List.mem_cons.mp hp).elim (fun h => .inr ⟨h ▸ .head _, fun e => (List.nodup_cons.mp nd).1 (List.mem_map.mpr ⟨_, r.mem, (h ▸ e).symm⟩)⟩) fun h => (ih (List.nodup_cons.mp nd).2 p h).imp id fun z => ⟨.tail _ z.1, z.2⟩

/-- an own object is turned -/
theorem St.upd (S : St b hid L m κ₀ κ own s) {h' : Heap} {t : Nat} {a : Addr} {A A' : AObj} {own' : List (Addr × AObj)} (hp : Put a A A' own own') (hs : Heap.SameBut a s.heap h') (hk : Knows b h' a A') :
    St b hid L m κ₀ κ own' { s with heap := h', toks := t } := by
  have ha : a ∈ own.map (·.1) := List.mem_map_of_mem hp.mem
  have ne : ∀ c, c ≠ a → ∀ o, s.heap.get? c = some o → h'.get? c = some o := fun c h o e => (hs.2 c h).trans e
  have nL : L ≠ a := fun e => S.oL (e ▸ ha)
  have kk := hp.keys
  exact {
    ns := S.ns.at fun o e => ne L nL o e
    bs := fun c o e => ne c (fun q => by rw [q, S.ob hp.mem] at e; cases e) o (S.bs c o e)
    ab := S.ab
    nd := kk ▸ S.nd
    ow := fun p hp' => by
      rcases hp.apart S.nd p hp' with rfl | ⟨h, n⟩
      · exact hk
      · exact (S.ow p h).keep (ne _ n)
    kn := fun c C h => (S.kn c C h).keep (ne _ fun e => S.ok c C h (e ▸ ha))
    hi := fun c C h => (S.hi c C h).keep (ne _ fun e => S.oh c C h (e ▸ ha))
    oL := kk ▸ S.oL
    kL := S.kL
    hL := S.hL
    ok := fun c C h => kk ▸ S.ok c C h
    oh := fun c C h => kk ▸ S.oh c C h
    kh := S.kh, hf := S.hf
    og := fun p hp' => by
      rcases hp.back p hp' with rfl | h
      · exact S.og (a, A) hp.mem
      · exact S.og p h
    ka := S.ka, lo := S.lo
    le := S.le, gens := S.gens, os := S.os }

/-- own objects are frozen, or let go -/
theorem St.freeze {fz own' : List (Addr × AObj)} (S : St b hid L m κ₀ κ own s) (hp : (fz ++ own').Sublist own) : St b hid L m κ₀ (κ.ext fz) own' s := by
  have hs := hp.subset
  have nd : ((fz ++ own').map (·.1)).Nodup := S.nd.sublist (hp.map _)
  rw [List.map_append, List.nodup_append] at nd
  have sub : ∀ a, a ∈ own'.map (·.1) → a ∈ own.map (·.1) := fun a h => by
    obtain ⟨p, hp, rfl⟩ := List.mem_map.mp h
    exact List.mem_map_of_mem (hs (List.mem_append_right _ hp))
  have subf : ∀ {a A}, (a, A) ∈ fz → a ∈ own.map (·.1) := fun h => List.mem_map_of_mem (hs (List.mem_append_left _ h))
  exact { S with
    nd := nd.2.1
    ow := fun p hp => S.ow p (hs (List.mem_append_right _ hp))
    kn := fun a A h => h.elim (S.kn a A) fun h => S.ow _ (hs (List.mem_append_left _ h))
    oL := fun h => S.oL (sub _ h)
    kL := fun A h => h.elim (S.kL A) fun h => S.oL (subf h)
    ok := fun a A h hm => h.elim (fun h => S.ok a A h (sub _ hm)) fun h => nd.2.2 a (List.mem_map_of_mem h) a hm rfl
    oh := fun a A h hm => S.oh a A h (sub _ hm)
    kh := fun a A B h hh => h.elim (fun h => S.kh a A B h hh) fun h => S.oh a B hh (subf h)
    og := fun p hp => S.og p (hs (List.mem_append_right _ hp))
    ka := fun a A h => h.elim (S.ka a A) fun h e => Nat.lt_irrefl _ (Nat.lt_of_lt_of_le S.lo (e ▸ S.og _ (hs (List.mem_append_left _ h))))
    le := S.le.trans (Kw.le_ext _ _) }
theorem St.drop {own' : List (Addr × AObj)} (S : St b hid L m κ₀ κ own s) (hp : own'.Sublist own) : St b hid L m κ₀ κ own' s := by
  have S' := S.freeze (fz := []) hp
  have e : κ.ext [] = κ := by funext a A; simp [Kw.ext]
  rwa [e] at S'
theorem St.perm {own' : List (Addr × AObj)} (S : St b hid L m κ₀ κ own s) (hp : own.Perm own') : St b hid L m κ₀ κ own' s :=
  have hm := hp.map (·.1)
  { S with
    nd := hm.nodup_iff.mp S.nd
    ow := fun p h => S.ow p (hp.mem_iff.mpr h)
    oL := fun h => S.oL (hm.mem_iff.mpr h)
    ok := fun a A h q => S.ok a A h (hm.mem_iff.mpr q)
    oh := fun a A h q => S.oh a A h (hm.mem_iff.mpr q)
    og := fun p h => S.og p (hp.mem_iff.mpr h) }
end

/-- what is known: of an own object, or by κ -/
noncomputable def Has (κ : Kw) (own : List (Addr × AObj)) (a : Addr) (A : AObj) : Prop := (a, A) ∈ own ∨ κ a A
theorem St.has {b : Bs} {hid : Kw} {L : Addr} {m : Str → Option Value} {κ₀ κ : Kw} {own : List (Addr × AObj)} {s : Shared} (S : St b hid L m κ₀ κ own s) {a : Addr} {A : AObj} (h : Has κ own a A) : Knows b s.heap a A :=
  h.elim (S.ow _) (S.kn _ _)

structure TopB (base : Heap) : Prop where
  top : ∃ p loose mean mg mb, Top p loose mean mg mb base
structure Gd (b : Bs) : Prop where
  K : (kk.heap_1 b.w.params).In b.base
  T : TopB b.base
  file : ((b.prog.main.file : Str) == ("/claim/cut.py" : Str)) = true
  sup : (b.prog.main.scope.names.lookup ("super" : Str)).isSome = false

/-- the frames beneath stand: this one, or hidden -/
noncomputable def OutOk (b : Bs) (L : Addr) (hid : Kw) (frs : List Env) : Prop :=
  ∀ env ∈ frs, env.scope.kind ≠ .module ∧ ∃ L', env.frame = some L' ∧ b.base.get? L' = none ∧ (L' = L ∨ ∃ o, hid L' (.frame o))

structure Cx (b : Bs) (lv : Nat) (A : Around) (L : Addr) (hid : Kw) (frs : List Env) : Prop where
  fr : A.frames = some frs
  hd : A.handled = none
  dp : A.depth + 2 * lv ≤ 900
  un : A.units + 20 * lv ≤ 5000
  ok : OutOk b L hid frs
theorem Cx.less {b : Bs} {lv lv' : Nat} {A : Around} {L : Addr} {hid : Kw} {frs : List Env} (C : Cx b lv A L hid frs) (h : lv' ≤ lv) : Cx b lv' A L hid frs :=
  { C with dp := by have := C.dp; omega, un := by have := C.un; omega }

/- an exception in flight -/
noncomputable def KB (b : Bs) (B : Heap) (a : Addr) (A : AObj) : Prop := (∃ o, A = .frame o) ∨ Knows b B a A
structure InB (b : Bs) (B : Heap) (hid κ : Kw) (own : List (Addr × AObj)) : Prop where
  bs : b.base.StaysIn B
  kb : ∀ a A, ((a, A) ∈ own ∨ κ a A ∨ hid a A) → KB b B a A
structure Fly (b : Bs) (hid : Kw) (L : Addr) (m : Str → Option Value) (κ₀ κ : Kw) (own : List (Addr × AObj)) (frs : List Env) (e : Addr) (s : Shared) : Prop where
  st : St b hid L m κ₀ κ own s
  fl : ∃ B a0, Heap.FlyingW B frs e (.ref 71) a0 s.heap ∧ InB b B hid κ own
section
variable {b : Bs} {hid : Kw} {L : Addr} {m m' : Str → Option Value} {κ₀ κ : Kw} {own : List (Addr × AObj)} {s s' : Shared} {frs : List Env}
theorem KB.after {B h h' : Heap} {a : Addr} {A : AObj} (k : KB b B a A) (now : Knows b h a A) (st : B.StaysIn h') (up : h.UpToSlots h') : Knows b h' a A := by
  rcases k with ⟨o, rfl⟩ | k
  · obtain ⟨x, hx, ⟨sl, rfl⟩, hd⟩ := now
    obtain ⟨sl', e⟩ := up a _ hx hd
    exact ⟨_, e, ⟨sl', rfl⟩, hd⟩
  · exact k.keep fun o => st _ o
theorem St.flew {B h' : Heap} {t : Nat} (S : St b hid L m κ₀ κ own s) (I : InB b B hid κ own) (st : B.StaysIn h') (up : s.heap.UpToSlots h') : St b hid L m κ₀ κ own { s with heap := h', toks := t } :=
  { S with
    ns := up.ns S.ns
    bs := fun a o e => st _ _ (I.bs a o e)
    ow := fun p hp => (I.kb p.1 p.2 (.inl hp)).after (S.ow p hp) st up
    kn := fun a A h => (I.kb a A (.inr (.inl h))).after (S.kn a A h) st up
    hi := fun a A h => (I.kb a A (.inr (.inr h))).after (S.hi a A h) st up }
end
theorem fillK : PySem.Challenge.rw_qd0069_01 = PySem.Challenge.rw_qd0069_01 ∧ kk.heap_1 = kk.heap_1 := by k_fill; exact ⟨rfl, rfl⟩
theorem zreg : True := by
  (k_with "mem" => first
    | exact List.Mem.head _
    | assumption
    | (refine List.Mem.tail _ ?_; k_extra "mem"))
  (k_with "hast" => first
    | assumption
    | (refine Has.tail ?_; k_extra "hast"))
  (k_with "has" => first
    | (refine Or.inl ?_; k_extra "mem")
    | exact Or.inr (by assumption)
    | k_extra "hast")
  (k_with "put" => first
    | exact Put.head
    | (refine' Put.tail ?zputp; (case zputp => k_extra "put")))
  (k_with "okAt" => first
    | assumption
    | exact fun P => by kernel_rfl)
  (k_with "zname" => first
    | ((with_reducible refine' R_name (by assumption) (by assumption) ?zv ?zk ?zl ?zd ?_); (case zv => first | exact rfl | assumption); (case zk => exact rfl); (case zl => exact rfl); (case zd => exact rfl))
    | ((with_reducible refine' R_glob (by assumption) (by assumption) (by assumption) ?zv ?zk ?zl ?zd ?_); (case zv => k_is); (case zk => exact rfl); (case zl => exact rfl); (case zd => exact rfl))
    | ((with_reducible refine' R_boot (by assumption) (by assumption) (by assumption) ?zx ?za ?zb ?zc ?zd ?ze ?_); (case zd => exact rfl); (case za => k_is); (case zb => decide); (case zc => exact rfl); (case ze => exact rfl); (case zx => boot_fact))
    | ((with_reducible refine' R_cell (by assumption) (by assumption) ?zc ?zh ?zk ?zl ?zd ?_); (case zc => exact rfl); (case zh => k_extra "has"); (case zk => exact rfl); (case zl => exact rfl); (case zd => exact rfl)))
  (k_with "zconst" => first
    | ((with_reducible refine R_int (by assumption) ?_); intro _ _ _)
    | ((with_reducible refine R_str (by assumption) ?_); intro _ _ _)
    | with_reducible refine Constant_none ?_
    | with_reducible refine Constant_bool ?_)
  (k_with "zeval" => first
    | ((with_reducible show wpAny _ _ (eval (Expr.Name _ _) _) _ _ _); k_extra "zname")
    | ((with_reducible show wpAny _ _ (eval (Expr.Constant _ _ _) _) _ _ _); k_extra "zconst")
    | ((with_reducible show wpAny _ _ (eval (Expr.Attribute (Expr.Name _ _) _ _) _) _ _ _); ((with_reducible refine' R_attrN (by assumption) (by assumption) (by assumption) ?zv ?zk ?zl ?zd ?za ?zb ?zw ?_); (case zv => first | exact rfl | assumption); (case zk => exact rfl); (case zl => exact rfl); (case zd => exact rfl); (case za => k_extra "has"); (case zb => k_extra "has"); (case zw => exact rfl); intro _ _))
    | ((with_reducible show wpAny _ _ (eval (Expr.Call (Expr.Attribute (Expr.Name _ _) _ _) _ [] _) _) _ _ _); ((refine' R_mcallN rfl (by assumption) (by assumption) (by assumption) ?zv ?zk ?zl ?zd ?za ?zb ?zw ?zg ?zf ?zt ?_); (case zv => first | exact rfl | assumption); (case zk => exact rfl); (case zl => exact rfl); (case zd => exact rfl); (case za => k_extra "has"); (case zb => k_extra "has"); (case zw => first | exact rfl | (refine' NoMeth.look ?zh ?ze ?zn; (case zh => assumption); (case ze => exact rfl); (case zn => exact rfl))); (case zf => first | k_is | (refine' CoreC.find ?zh ?ze; (case zh => assumption); (case ze => exact rfl))); (case zg => first | k_is | (refine' CoreC.plain ?zh ?ze; (case zh => assumption); (case ze => exact rfl))); (case zt => first | k_is | exact IsFn.look (by assumption)); intro zQ zhQ))
    | ((with_reducible show wpAny _ _ (eval (Expr.Attribute (Expr.Name _ _) _ _) _) _ _ _); refine Attribute_Name_ ?_)
    | ((with_reducible show wpAny _ _ (eval (Expr.Attribute _ _ _) _) _ _ _); refine Attribute_any_ ?_)
    | ((with_reducible show wpAny _ _ (eval (Expr.Call (Expr.Attribute _ _ _) _ _ _) _) _ _ _); refine R_mcall rfl ?_)
    | ((with_reducible show wpAny _ _ (eval (Expr.Call (Expr.Name _ _) _ [] _) _) _ _ _); (refine R_callC rfl ?_); intro zQ zhQ)
    | ((with_reducible show wpAny _ _ (eval (Expr.Compare _ [_] [_] _) _) _ _ _); refine wpAny_Compare1 ?_)
    | ((with_reducible show wpAny _ _ (eval (Expr.Subscript _ (Expr.Slice _ _ _ _) _) _) _ _ _); (with_reducible refine R_slice ?_))
    | (with_reducible refine Subscript_ ?_)
    | ((with_reducible show wpAny _ _ (eval (Expr.BinOp _ _ _ _) _) _ _ _); refine wpAny_BinOp ?_)
    | (with_reducible refine IfExp_ ?_)
    | ((with_reducible show wpAny _ _ (eval (Expr.UnaryOp _ _ _) _) _ _ _); with_reducible refine UnaryOp_ ?_)
    | (with_reducible refine List_ ?_)
    | (with_reducible refine Tuple_ ?_)
    | (with_reducible refine BoolOp_and ?_)
    | (with_reducible refine BoolOp_or ?_)
    | (with_reducible refine BoolOp_one ?_)
    | ((with_reducible refine R_newDictI (by assumption) ?_); intro _ _ _))
  (k_with "zexec" => first
    | ((with_reducible show wpAny _ _ (exec (Stmt.Assign [Expr.Name _ _] _ _) _) _ _ _); refine wpAny_Assign_Name ?_)
    | ((with_reducible show wpAny _ _ (exec (Stmt.Assign [Expr.Attribute _ _ _] _ _) _) _ _ _); refine plainObj_wpAny_Assign_Attribute ?_)
    | ((with_reducible show wpAny _ _ (exec (Stmt.Assign [Expr.Subscript _ _ _] _ _) _) _ _ _); refine wpAny_Assign_Subscript ?_)
    | ((with_reducible show wpAny _ _ (exec (Stmt.Expr _ _) _) _ _ _); (with_reducible refine' R_expr (by assumption) ?zk ?zs ?_); (case zk => exact rfl); (case zs => exact rfl))
    | (with_reducible refine wpAny_If ?_)
    | (with_reducible refine wpAny_Return_some ?_)
    | (with_reducible refine wpAny_Return_none ?_)
    | ((with_reducible show wpAny _ _ (exec (Stmt.Assign [Expr.Tuple _ _ _] _ _) _) _ _ _); first | refine Assign_Tuple ?_ | refine Assign_Tuple_swapped ?_)
    | with_reducible refine wpAny_Continue ?_)
  (k_with "zist" => first
    | ((with_reducible show wpAny _ _ (isTrue (Expr.Compare _ [_] [_] _) _ _) _ _ _); refine wpAny_isTrue_Compare1 ?_)
    | ((with_reducible show wpAny _ _ (isTrue (Expr.Attribute _ _ _) _ _) _ _ _); refine isTrue_plain ?_)
    | ((with_reducible show wpAny _ _ (isTrue (Expr.Name _ _) _ _) _ _ _); refine isTrue_plain ?_)
    | ((with_reducible show wpAny _ _ (isTrue (Expr.Call _ _ _ _) _ _) _ _ _); refine isTrue_plain ?_)
    | ((with_reducible show wpAny _ _ (isTrue (Expr.Constant _ _ _) _ _) _ _ _); refine isTrue_plain ?_)
    | (with_reducible refine isTrue_and ?_)
    | (with_reducible refine isTrue_and_nil ?_)
    | (with_reducible refine isTrue_or ?_)
    | (with_reducible refine isTrue_or_nil ?_)
    | (with_reducible refine isTrue_not ?_))
  (k_with "zargs" => first
    | ((with_reducible show wpAny _ _ (spliced _) _ _ _); (first | ((with_reducible refine' R_splN (by assumption) (by assumption) ?zv ?zk ?zl ?zd ?_); (case zv => first | exact rfl | assumption); (case zk => exact rfl); (case zl => exact rfl); (case zd => exact rfl)) | with_reducible refine R_spl0 ?_ | ((with_reducible refine R_spl ?_ ?_); (exact rfl))))
    | ((with_reducible show wpAny _ _ (evalPart _ _) _ _ _); (first | (with_reducible refine wpAny_evalPart_none ?_) | (with_reducible refine wpAny_evalPart_some ?_)))
    | (with_reducible refine R_cwb0 ?_)
    | ((with_reducible refine R_cwb ?_ ?_ ?_); (exact rfl); (exact rfl))
    | ((with_reducible refine R_cwb1 ?_ ?_ ?_); (exact rfl); (exact rfl))
    | ((with_reducible refine' R_cwf0 (by assumption) (by assumption) ?zk ?_); (case zk => first | k_is | exact IsFn.keep (by assumption)))
    | ((with_reducible refine' R_cwf (by assumption) (by assumption) ?zk ?za ?zb ?_); (case zk => first | k_is | exact IsFn.keep (by assumption)); (case za => exact rfl); (case zb => exact rfl))
    | ((with_reducible refine' R_cwf1 (by assumption) (by assumption) ?zk ?za ?zb ?_); (case zk => first | k_is | exact IsFn.keep (by assumption)); (case za => exact rfl); (case zb => exact rfl))
    | ((with_reducible refine R_cwt ?_ ?_ ?_); (exact rfl); (exact rfl)))
  (k_with "zcmp" => first
    | (with_reducible refine R_eq ?_)
    | (with_reducible refine R_ne ?_)
    | (with_reducible refine R_lt ?_)
    | (with_reducible refine R_le ?_)
    | (with_reducible refine R_gt ?_)
    | (with_reducible refine R_ge ?_)
    | ((with_reducible refine' R_is ?zp ?_); (case zp => exact rfl))
    | ((with_reducible refine' R_isNot ?zp ?_); (case zp => exact rfl))
    | (with_reducible refine R_eqstr ?_)
    | (with_reducible refine R_nestr ?_)
    | ((with_reducible refine' R_ne_nil (by assumption) (by assumption) ?za ?zb ?_); (case za => k_extra "has"); (case zb => k_extra "has"))
    | ((with_reducible refine' R_eq_nil (by assumption) (by assumption) ?za ?zb ?_); (case za => k_extra "has"); (case zb => k_extra "has"))
    | ((with_reducible refine' R_inI (by assumption) ?zk ?_); (case zk => k_extra "has"); intro _ _)
    | ((with_reducible refine' R_notinI (by assumption) ?zk ?_); (case zk => k_extra "has"); intro _ _))
  (k_with "zbin" => first
    | ((with_reducible refine R_add (by assumption) ?_); intro _ _ _)
    | ((with_reducible refine R_sub (by assumption) ?_); intro _ _ _)
    | ((with_reducible refine R_mul (by assumption) ?_ ?_); (first | exact mul_fits_right (by omega) (by omega) | exact mul_fits_left (by omega) (by omega)); intro _ _ _)
    | ((with_reducible refine R_mod (by assumption) ?_ ?_); (first | assumption | decide | omega); intro _ _ _)
    | ((with_reducible refine R_fdiv (by assumption) ?_ ?_ ?_); (first | assumption | decide | omega); (first | exact PyProof.noPylong_small (by omega) | exact PyProof.noPylong_small (by decide)); intro _ _ _)
    | ((with_reducible refine' R_mulOne (by assumption) ?zk ?za ?zb ?_); (case zk => k_extra "has"); (case za => first | with_reducible assumption | with_reducible exact Int.natCast_nonneg _ | decide | omega); (case zb => first | with_reducible assumption | with_reducible exact lt63n (by assumption) | with_reducible exact lt63 (by assumption) | decide | omega); intro _ _ _))
  (k_with "zcallb" => first
    | ((with_reducible refine' R_len (by assumption) ?zk ?zz ?_); (case zk => k_extra "has"); (case zz => first | with_reducible assumption | omega | (simp; omega)); intro _ _ _)
    | ((with_reducible refine' R_lenTup (by assumption) ?zk ?zz ?_); (case zk => k_extra "has"); (case zz => first | assumption | omega | decide | (simp; omega)); intro _ _ _)
    | ((with_reducible refine' R_append (by assumption) ?zp ?zz ?_); (case zp => k_extra "put"); (case zz => first | assumption | omega); intro _ _)
    | ((with_reducible refine' R_extend (by assumption) ?zp ?zk ?zz ?_); (case zp => k_extra "put"); (case zk => k_extra "has"); (case zz => first | assumption | (simp; omega)); intro _ _)
    | ((with_reducible refine R_abs (by assumption) ?_); intro _ _ _)
    | ((with_reducible refine' R_pop0 (by assumption) ?zp ?zz ?_); (case zp => k_extra "put"); (case zz => assumption); intro _ _))
  (k_with "zcallt" => first
    | ((with_reducible refine R_range1 (by assumption) ?_); intro _ _ _ _ _ _)
    | ((with_reducible refine' R_listcopy (by assumption) ?zk ?zz ?_); (case zk => k_extra "has"); (case zz => first | assumption | (simp; omega)); intro _ _ _)
    | ((with_reducible refine R_int_bool (by assumption) ?_); intro _ _ _)
    | with_reducible refine call_int_int ?_)
  (k_with "zmeth" => first
    | ((with_reducible show wpAny _ _ (getMethod (Value.ref _) (Str.ofString "pop") _) _ _ _); (with_reducible refine' R_getMethod_list (by assumption) ?zk PySem.F.slot_list_pop PySem.F.type_list_pop ?_); (case zk => k_extra "has"))
    | ((with_reducible show wpAny _ _ (getMethod (Value.ref _) (Str.ofString "append") _) _ _ _); (with_reducible refine' R_getMethod_list (by assumption) ?zk PySem.F.slot_list_append PySem.F.type_list_append ?_); (case zk => k_extra "has"))
    | ((with_reducible show wpAny _ _ (getMethod (Value.ref _) (Str.ofString "extend") _) _ _ _); (with_reducible refine' R_getMethod_list (by assumption) ?zk PySem.F.slot_list_extend PySem.F.type_list_extend ?_); (case zk => k_extra "has"))
    | ((with_reducible refine' R_getmeth (by assumption) (by assumption) ?za ?zb ?zv ?zg ?zf ?zt ?_); (case za => k_extra "has"); (case zb => k_extra "has"); (case zv => first | exact rfl | (refine' NoMeth.look ?zh ?ze ?zn; (case zh => assumption); (case ze => exact rfl); (case zn => exact rfl))); (case zf => first | k_is | (refine' CoreC.find ?zh ?ze; (case zh => assumption); (case ze => exact rfl))); (case zg => first | k_is | (refine' CoreC.plain ?zh ?ze; (case zh => assumption); (case ze => exact rfl))); (case zt => first | k_is | exact IsFn.look (by assumption)))
    | ((with_reducible refine' R_getI (by assumption) ?zk ?_); (case zk => k_extra "has"))
    | ((with_reducible refine' R_getS (by assumption) ?zk ?_); (case zk => k_extra "has"))
    | ((with_reducible show wpAny _ _ (getMethod (Value.type "Exception") _ _) _ _ _); (with_reducible refine' R_typemeth (by assumption) (by assumption) ?zm ?zs ?ze ?zh ?_); (case zm => kernel_rfl); (case zs => decide +kernel); (case ze => k_is); (case zh => exact rfl); intro _ _))
  (k_with "zsub" => first
    | ((with_reducible refine' R_item (by assumption) ?zk ?za ?zb ?zx ?zs ?_); (case zk => k_extra "has"); (case zx => first | assumption | exact rfl); (case za => first | with_reducible assumption | with_reducible exact Int.natCast_nonneg _ | decide | omega); (case zb => first | with_reducible assumption | with_reducible exact lt63n (by assumption) | with_reducible exact lt63 (by assumption) | decide | omega); (case zs => with_unfolding_all rfl))
    | ((with_reducible refine' R_tupItem (by assumption) ?zk ?za ?zb ?zx ?zs ?_); (case zk => k_extra "has"); (case za => decide); (case zb => decide); (case zx => exact rfl); (case zs => with_unfolding_all rfl))
    | ((with_reducible refine' R_last (by assumption) ?zk ?zs ?_); (case zk => k_extra "has"); (case zs => with_unfolding_all rfl)))
  (k_with "zset" => first
    | ((with_reducible refine' R_setattr (by assumption) (by assumption) ?za ?zp ?zl ?zh ?zz ?ze ?_); (case za => k_extra "has"); (case zp => k_extra "put"); (case zl => exact rfl); (case zh => first | exact rfl | assumption); (case zz => first | exact Nat.le_of_ble_eq_true rfl | exact NoMeth.len (by assumption)); (case ze => exact rfl); intro _ _)
    | ((with_reducible refine' R_setattrN (by assumption) (by assumption) ?za ?zp ?zo ?zh ?zz ?ze ?_); (case za => k_extra "has"); (case zp => k_extra "put"); (case zo => k_extra "okAt"); (case zh => first | exact rfl | assumption); (case zz => first | exact Nat.le_of_ble_eq_true rfl | exact NoMeth.len (by assumption)); (case ze => exact rfl); intro _ _))
  (k_with "zstore" => first
    | ((with_reducible refine' R_store (by assumption) (by assumption) ?zk ?zl ?_); (case zk => exact rfl); (case zl => exact rfl); intro _ _)
    | ((with_reducible refine' R_storeC (by assumption) (by assumption) ?zc ?zp ?zx ?zk ?zl ?_); (case zc => exact rfl); (case zp => k_extra "put"); (case zx => first | exact trivial | assumption); (case zk => exact rfl); (case zl => exact rfl); intro _ _))
  (k_with "zmore" => first
    | ((with_reducible show wpAny _ _ (assignInOrder _ _) _ _ _); first | refine assignInOrder_cons ?_ | refine assignInOrder_nil ?_)
    | ((with_reducible show wpAny _ _ (assign (Expr.Name _ _) _ _) _ _ _); refine assign_Name ?_)
    | with_reducible refine bindName_ ?_
    | ((with_reducible refine' R_asgT (by assumption) (by assumption) ?zk ?zn ?zs ?_); (case zk => k_extra "has"); (case zn => exact rfl); (case zs => exact rfl); intro _ _)
    | ((with_reducible refine' R_unpI (by assumption) (by assumption) ?zk ?zn ?_); (case zk => k_extra "has"); (case zn => exact rfl); intro _ _)
    | ((with_reducible refine R_neg (by assumption) ?_); intro _ _ _))
  (k_with "zflow" => first
    | with_reducible refine R_next ?_
    | with_reducible refine R_sret ?_
    | with_reducible refine R_kseq (by assumption) ?_
    | with_reducible refine R_cutV (by assumption) ?_
    | with_reducible refine R_retK ?_
    | with_reducible refine R_fallK ?_
    | ((with_reducible refine R_kand (by assumption) (by assumption) ?_))
    | ((with_reducible refine' R_sliceFrom (by assumption) ?zk ?zz ?za ?_); (case zk => k_extra "has"); (case zz => assumption); (case za => assumption); intro _ _ _)
    | with_reducible refine R_scont ?_
    | with_reducible refine R_joinR ?_
    | with_reducible refine R_joinC ?_
    | with_reducible refine R_joinN ?_
    | with_reducible refine R_forC ?_
    | with_reducible refine R_forN ?_
    | with_reducible refine R_forR ?_
    | with_reducible refine R_itT ?_
    | with_reducible refine R_itF ?_
    | ((with_reducible show (if _ = true then _ else _)); (first | refine R_itT' rfl ?_ | refine R_itF' rfl ?_)))
  (k_with "zwp" => first
    | ((with_reducible show wpAny _ _ (eval _ _) _ _ _); k_extra "zeval")
    | ((with_reducible show wpAny _ _ (exec _ _) _ _ _); k_extra "zexec")
    | ((with_reducible show wpAny _ _ (execs _ _) _ _ _); (first | ((with_reducible refine R_execsK ?_); intro zK zhK) | with_reducible refine wpAny_execs_nil ?_))
    | ((with_reducible show wpAny _ _ (spliced _) _ _ _); k_extra "zargs")
    | ((with_reducible show wpAny _ _ (callWith _ _ _ _ _) _ _ _); k_extra "zargs")
    | ((with_reducible show wpAny _ _ (getMethod _ _ _) _ _ _); k_extra "zmeth")
    | ((with_reducible show wpAny _ _ (getAttr _ _ _) _ _ _); (((with_reducible refine' R_getattr (by assumption) (by assumption) ?za ?zb ?zv ?_); (case za => k_extra "has"); (case zb => k_extra "has"); (case zv => exact rfl); intro _ _)))
    | ((with_reducible show wpAny _ _ (isTrue _ _ _) _ _ _); k_extra "zist")
    | ((with_reducible show wpAny _ _ (compareOp _ _ _) _ _ _); k_extra "zcmp")
    | ((with_reducible show wpAny _ _ (binaryOp _ _ _) _ _ _); k_extra "zbin")
    | ((with_reducible show wpAny _ _ (call (Value.builtin _) _) _ _ _); k_extra "zcallb")
    | ((with_reducible show wpAny _ _ (call (Value.type _) _) _ _ _); k_extra "zcallt")
    | ((with_reducible show wpAny _ _ (storeName _ _ _) _ _ _); k_extra "zstore")
    | ((with_reducible show wpAny _ _ (subscriptTail _ _ _ _) _ _ _); k_extra "zsub")
    | ((with_reducible show wpAny _ _ (setAttr _ _ _) _ _ _); k_extra "zset")
    | ((with_reducible show wpAny _ _ (truthy _) _ _ _); ((with_reducible refine R_truthy_bool ?_)))
    | ((with_reducible show wpAny _ _ (newList _) _ _ _); (((with_reducible refine R_newList (by assumption) ?_ ?_); (exact Nat.le_of_ble_eq_true rfl); intro _ _ _)))
    | ((with_reducible show wpAny _ _ (newTuple _) _ _ _); (((with_reducible refine R_newTuple (by assumption) ?_ ?_); (exact Nat.le_of_ble_eq_true rfl); intro _ _ _)))
    | ((with_reducible show wpAny _ _ (evalPart _ _) _ _ _); k_extra "zargs")
    | ((with_reducible show wpAny _ _ (setItem _ _ _) _ _ _); (((with_reducible refine' R_setItem (by assumption) ?zp ?za ?zb ?zn ?ze ?_); (case zp => k_extra "put"); (case za => decide); (case zb => decide); (case zn => exact Nat.le_of_ble_eq_true rfl); (case ze => exact rfl); intro _ _)))
    | k_extra "zmore")
  (k_with "z" => first | ((with_reducible show wpAny _ _ _ _ _ _); k_extra "zwp") | k_extra "zflow")
  (k_with "za" => first | k_extra "z" | (with_reducible refine PySem.wpAt_of_wpAny ?_))
  (k_with "zi" => with_reducible refine R_ite (fun hq => ?_) (fun hq => ?_))
  (k_with "sel" => first | exact Sel.head | (refine' Sel.tail ?zselp; (case zselp => k_extra "sel")))
  (k_with "perm" => first | exact List.Perm.refl _ | (refine' Sel.go ?zgos ?zgop; (case zgos => k_extra "sel"); (case zgop => k_extra "perm")))
  (k_with "zI" => repeat ((fail_if_success (with_reducible show wpAny _ _ (execs (Stmt.If _ _ _ _ :: _) _) _ _ _)); k_extra "z"))
  (k_with "zE" => repeat ((fail_if_success (with_reducible show wpAny _ _ (execs (Stmt.Assign _ (Expr.IfExp _ _ _ _) _ :: _) _) _ _ _)); k_extra "z"))
  (k_with "zT" => repeat ((fail_if_success (with_reducible show wpAny _ _ (execs (Stmt.Assign [Expr.Tuple _ _ _] _ _ :: _) _) _ _ _)); k_extra "z"))
  (k_with "zF" => repeat ((fail_if_success (with_reducible show wpAny _ _ (eval (Expr.IfExp _ _ _ _) _) _ _ _)); k_extra "z"))
  (k_with "zC" => repeat ((fail_if_success (with_reducible show wpAny _ _ (execs (Stmt.Assign _ (Expr.ListComp _ _ _ _) _ :: _) _) _ _ _)); k_extra "z"))
  (k_with "zS" => repeat ((fail_if_success (with_reducible show wpAny _ _ (eval (Expr.Subscript _ (Expr.Slice _ _ _ _) _) _) _ _ _)); k_extra "z"))
  (k_with "sup" => ((with_reducible refine' R_sup (by assumption) (by assumption) rfl ?zkx ?zkd ?zhf ?zhp ?zhv ?zhcode ?zhvs ?zhcell ?hD ?zhsub ?zhsuper ?zhat ?zhks ?zhkc ?zhka ?zhk ?zhboot ?zhno ?zhm ?zht ?zhfn ?zhcall ?_); (case zkx => k_extra "mem"); (case zkd => k_extra "has"); (case zhf => k_is); (case zhp => exact rfl); (case zhv => exact rfl); (case zhcode => k_is); (case zhvs => exact rfl); (case zhcell => k_is); (case hD => k_is); (case zhsub => k_is); (case zhsuper => k_is); (case zhat => decide); (case zhks => exact rfl); (case zhkc => exact rfl); (case zhka => exact rfl); (case zhk => exact rfl); (case zhboot => first | boot_by_name | rfl | kernel_rfl); (case zhno => k_is); (case zhm => ks_is); (case zht => k_is); (case zhfn => k_is); (case zhcall => exact rfl)))
  trivial

section
variable {b : Bs} {lv : Nat} {A : Around} {E : Value → Shared → Prop} {s : Shared} {hid : Kw} {L : Addr} {m : Str → Option Value} {κ₀ κ : Kw} {own : List (Addr × AObj)} {frs : List Env}

/- flow -/
noncomputable def SeqK (M : Model) (A : Around) (rest : List Stmt) (env : Env) (Q : Flow → Shared → Prop) (E : Value → Shared → Prop) (f : Flow) (s : Shared) : Prop :=
  match f with | .next => wpAny M A (execs rest env) Q E s | f => Q f s
theorem R_execs {M : Model} {env : Env} {st rest} {Q : Flow → Shared → Prop} (h : wpAny M A (exec st env) (SeqK M A rest env Q E) E s) : wpAny M A (execs (st :: rest) env) Q E s :=
  wpAny_execs_cons (wpAny_mono h (fun f _ x => by cases f <;> exact x) fun _ _ x => x)
/-- what stands behind a statement, unknown while it is walked -/
noncomputable def SeqLe (M : Model) (A : Around) (rest : List Stmt) (env : Env) (Q : Flow → Shared → Prop) (E : Value → Shared → Prop) (K : Flow → Shared → Prop) : Prop := ∀ fl s, SeqK M A rest env Q E fl s → K fl s
theorem R_execsK {M : Model} {env : Env} {st rest} {Q : Flow → Shared → Prop} (h : ∀ K, SeqLe M A rest env Q E K → wpAny M A (exec st env) K E s) : wpAny M A (execs (st :: rest) env) Q E s := R_execs (h _ fun _ _ x => x)
theorem R_kseq {M : Model} {env : Env} {rest} {Q K : Flow → Shared → Prop} {fl : Flow} (hK : SeqLe M A rest env Q E K) (h : SeqK M A rest env Q E fl s) : K fl s := hK _ _ h
/-- what an expression's value goes to, unknown while the expression is walked -/
noncomputable def CutLe (Q Q' : Value → Shared → Prop) : Prop := ∀ v s, Q v s → Q' v s
theorem R_cutV {Q Q' : Value → Shared → Prop} {v : Value} (hQ : CutLe Q Q') (h : Q v s) : Q' v s := hQ _ _ h
theorem R_callC {M : Model} {env : Env} {func : Expr} {args : List Expr} {pos : Pos} {Q : Value → Shared → Prop} (he : eval (.Call func args [] pos) env = (do callWith pos (← eval func env) [] (backTo pos (starEach args env)) (backToKw pos (keywordEach [] env))))
    (h : ∀ Q', CutLe Q Q' → wpAny M A (eval func env) (fun f s₁ => wpAny M A (callWith pos f [] (backTo pos (starEach args env)) []) Q' E s₁) E s) : wpAny M A (eval (.Call func args [] pos) env) Q E s := Call_ (h _ fun _ _ x => x) he
theorem R_next {M : Model} {env : Env} {rest} {Q : Flow → Shared → Prop} (h : wpAny M A (execs rest env) Q E s) : SeqK M A rest env Q E .next s := h
theorem R_sret {M : Model} {env : Env} {rest} {Q : Flow → Shared → Prop} {v : Value} (h : Q (.ret v) s) : SeqK M A rest env Q E (.ret v) s := h
theorem R_scont {M : Model} {env : Env} {rest} {Q : Flow → Shared → Prop} (h : Q .cont s) : SeqK M A rest env Q E .cont s := h
theorem R_sbrk {M : Model} {env : Env} {rest} {Q : Flow → Shared → Prop} (h : Q .brk s) : SeqK M A rest env Q E .brk s := h

/- names -/
/-- a name's new value -/
noncomputable def nset (x : Str) (v : Value) (m : Str → Option Value) : Str → Option Value := fun y => if y = x then some v else m y
structure EnvIs (env : Env) (sc : Scope) (L : Addr) (cl : List (Str × Addr)) : Prop where
  sc : env.scope = sc
  lo : env.locals = L
  gl : env.globals = mainGlobals
  bu : env.builtins = builtinsNs
  ce : env.cells = cl
section
variable {env : Env} {sc : Scope} {cl : List (Str × Addr)} {x : Str} {pos : Pos} {v : Value}
theorem EnvIs.kind (hE : EnvIs env sc L cl) {k : NameKind} (h : sc.names.lookup x = some k) : env.kindOf x = some k := by show env.scope.names.lookup x = _; rw [hE.sc]; exact h
theorem R_name {Q : Value → Shared → Prop} (hE : EnvIs env sc L cl) (S : St b hid L m κ₀ κ own s) (hv : m x = some v)
    (hk : sc.kind = .function) (hl : sc.names.lookup x = some .local) (hd : (x == ("__debug__" : Str)) = false) (h : Q v s) :
    wpAny (model b.prog b.w) A (eval (.Name x pos) env) Q E s := wpAny_Name (wpAny_loadName_local (by rw [hE.sc]; exact hk) (hE.kind hl) (hE.lo ▸ S.ns) hv h) hd
theorem R_glob {Q : Value → Shared → Prop} (hE : EnvIs env sc L cl) (G : Gd b) (S : St b hid L m κ₀ κ own s) (hv : nsIn (kk.heap_1 b.w.params) mainGlobals x = some (some v))
    (hk : sc.kind = .function) (hl : sc.names.lookup x = some .globalImplicit) (hd : (x == ("__debug__" : Str)) = false) (h : Q v s) :
    wpAny (model b.prog b.w) A (eval (.Name x pos) env) Q E s := by
  obtain ⟨_, _, _, _, _, T⟩ := G.T.top
  exact Name_function_global (by rw [hE.sc]; exact hk) (hE.kind hl) (loadGlobal_global (by rw [hE.gl]; exact T.g.keeps S.bs) (mg_of G.K T.g hv) h) hd
theorem R_boot {Q : Value → Shared → Prop} (hE : EnvIs env sc L cl) (G : Gd b) (S : St b hid L m κ₀ κ own s) (hv : bootBuiltins x = some v)
    (hn : nsIn (kk.heap_1 b.w.params) mainGlobals x = some none) (hm : x ≠ "__name__") (hk : sc.kind = .function) (hl : sc.names.lookup x = some .globalImplicit) (hd : (x == ("__debug__" : Str)) = false) (h : Q v s) :
    wpAny (model b.prog b.w) A (eval (.Name x pos) env) Q E s := by
  obtain ⟨_, _, _, _, _, T⟩ := G.T.top
  exact Name_function_global (by rw [hE.sc]; exact hk) (hE.kind hl) (loadGlobal_builtin (by rw [hE.gl]; exact T.g.keeps S.bs) (mg_none_of G.K T.g hn) (by rw [hE.bu]; exact T.b.keeps S.bs) ((T.builtins x hm).trans hv) h) hd
theorem R_store {Q : Unit → Shared → Prop} (hE : EnvIs env sc L cl) (S : St b hid L m κ₀ κ own s) (hk : sc.kind = .function) (hl : sc.names.lookup x = some .local)
    (h : ∀ s', St b hid L (nset x v m) κ₀ κ own s' → Q () s') : wpAny (model b.prog b.w) A (storeName env x v) Q E s :=
  wpAny_storeName_local (hE.kind hl) (hE.lo ▸ S.ns) (fun h' hn hs => by
    rw [hE.lo] at hn hs
    exact h _ (S.local hn hs)) (by rw [hE.sc, hk]; rfl)
theorem R_cell {c : Addr} {Q : Value → Shared → Prop} (hE : EnvIs env sc L cl) (S : St b hid L m κ₀ κ own s) (hc : cl.lookup x = some c) (k : Has κ own c (.cell v))
    (hk : sc.kind = .function) (hl : sc.names.lookup x = some .cell) (hd : (x == ("__debug__" : Str)) = false) (h : Q v s) :
    wpAny (model b.prog b.w) A (eval (.Name x pos) env) Q E s := by
  obtain ⟨o, e, hd'⟩ := S.has k
  exact wpAny_Name (wpAny_loadName_cell (by rw [hE.sc]; exact hk) (hE.kind hl) (by rw [hE.ce]; exact hc) ⟨o, e, hd'⟩ h) hd
end
/- constants -/
theorem R_int {env : Env} {i k pos} {Q : Value → Shared → Prop} (S : St b hid L m κ₀ κ own s) (h : ∀ s' t, St b hid L m κ₀ κ own s' → Q (.int i t) s') : wpAny (model b.prog b.w) A (eval (.Constant (.int i) k pos) env) Q E s :=
  wpAny_Constant_int (h _ _ (S.toks _))
theorem R_str {env : Env} {x k pos} {Q : Value → Shared → Prop} (S : St b hid L m κ₀ κ own s) (h : ∀ s' t, St b hid L m κ₀ κ own s' → Q (.str x t) s') : wpAny (model b.prog b.w) A (eval (.Constant (.str x) k pos) env) Q E s :=
  Constant_str (h _ _ (S.toks _))

/- ints -/
theorem bits_small {i : Int} (h0 : 0 ≤ i) (h : i < 2 ^ 62) : Builtin.Int.intBits i ≤ 64 := by
  exact PySem.intBits_le_64 (by omega) (by omega)
theorem mul_fits_right {i j : Int} (h0 : 0 ≤ j) (h : j < 2 ^ 62) : IntMulOk i j := .of_right (bits_small h0 h)
theorem mul_fits_left {i j : Int} (h0 : 0 ≤ i) (h : i < 2 ^ 62) : IntMulOk i j := .of_left (bits_small h0 h)

section
variable {i j : Int} {t u : Tok} {Q : Value → Shared → Prop}
theorem R_add (S : St b hid L m κ₀ κ own s) (h : ∀ s' t, St b hid L m κ₀ κ own s' → Q (.int (i + j) t) s') : wpAny (model b.prog b.w) A (binaryOp .Add (.int i t) (.int j u)) Q E s := PySem.P.add_int (h _ _ (S.toks _))
theorem R_sub (S : St b hid L m κ₀ κ own s) (h : ∀ s' t, St b hid L m κ₀ κ own s' → Q (.int (i - j) t) s') : wpAny (model b.prog b.w) A (binaryOp .Sub (.int i t) (.int j u)) Q E s := PySem.P.sub_int (h _ _ (S.toks _))
theorem R_mul (S : St b hid L m κ₀ κ own s) (hm : IntMulOk i j) (h : ∀ s' t, St b hid L m κ₀ κ own s' → Q (.int (i * j) t) s') : wpAny (model b.prog b.w) A (binaryOp .Mult (.int i t) (.int j u)) Q E s := PySem.P.mul_int (h _ _ (S.toks _)) hm
theorem R_mod (S : St b hid L m κ₀ κ own s) (hj : j ≠ 0) (h : ∀ s' t, St b hid L m κ₀ κ own s' → Q (.int (i.fmod j) t) s') : wpAny (model b.prog b.w) A (binaryOp .Mod (.int i t) (.int j u)) Q E s := mod_int' hj (h _ _ (S.toks _))
theorem R_fdiv (S : St b hid L m κ₀ κ own s) (hj : j ≠ 0) (hp : Builtin.divisionGoesByPylong i j = false) (h : ∀ s' t, St b hid L m κ₀ κ own s' → Q (.int (i.fdiv j) t) s') : wpAny (model b.prog b.w) A (binaryOp .FloorDiv (.int i t) (.int j u)) Q E s := floordiv_int hj (h _ _ (S.toks _)) (.inl hp)
theorem R_eq (h : Q (.bool (i == j)) s) : wpAny (model b.prog b.w) A (compareOp .Eq (.int i t) (.int j u)) Q E s := PySem.P.eq_int h
theorem R_ne (h : Q (.bool (i != j)) s) : wpAny (model b.prog b.w) A (compareOp .NotEq (.int i t) (.int j u)) Q E s := PySem.P.ne_int h
theorem R_lt (h : Q (.bool (decide (i < j))) s) : wpAny (model b.prog b.w) A (compareOp .Lt (.int i t) (.int j u)) Q E s := PySem.P.lt_int h
theorem R_le (h : Q (.bool (decide (i ≤ j))) s) : wpAny (model b.prog b.w) A (compareOp .LtE (.int i t) (.int j u)) Q E s := PySem.P.le_int h
theorem R_gt (h : Q (.bool (decide (j < i))) s) : wpAny (model b.prog b.w) A (compareOp .Gt (.int i t) (.int j u)) Q E s := PySem.P.gt_int h
theorem R_ge (h : Q (.bool (decide (j ≤ i))) s) : wpAny (model b.prog b.w) A (compareOp .GtE (.int i t) (.int j u)) Q E s := PySem.P.ge_int h
end
theorem R_truthy_bool {c : Bool} {Q : Bool → Shared → Prop} (h : Q c s) : wpAny (model b.prog b.w) A (truthy (.bool c)) Q E s := fun _ _ _ => h
theorem fmod_lo {i k : Int} (h : 0 < k) : 0 ≤ i.fmod k := Int.fmod_nonneg_of_pos i h
theorem fmod_hi {i k : Int} (h : 0 < k) : i.fmod k < k := Int.fmod_lt_of_pos i h
theorem fdiv_lo {i k : Int} (h0 : 0 ≤ i) (h : 0 < k) : 0 ≤ i.fdiv k := Int.fdiv_nonneg h0 (Int.le_of_lt h)
theorem R_itT {X Y : Prop} (h : X) : if true = true then X else Y := h
theorem R_itT' {c : Bool} {X Y : Prop} (hc : c = true) (h : X) : if c = true then X else Y := by rw [if_pos hc]; exact h
theorem R_itF' {c : Bool} {X Y : Prop} (hc : c = false) (h : Y) : if c = true then X else Y := by rw [hc]; simpa using h
theorem R_itF {X Y : Prop} (h : Y) : if false = true then X else Y := by simpa using h
theorem R_join {M : Model} {t : Sem Flow} {Q : Flow → Shared → Prop} (P : Shared → Prop) (h : wpAny M A t (fun f s' => f = .next ∧ P s') E s) (k : ∀ s', P s' → Q .next s') : wpAny M A t Q E s :=
  wpAny_mono h (fun f s' x => by obtain ⟨rfl, x⟩ := x; exact k s' x) fun _ _ x => x
/-- a join: what holds behind it, said with the goal behind it unknown -/
theorem R_joinK {M : Model} {t : Sem Flow} {Q : Flow → Shared → Prop} (Ψ : (Shared → Prop) → Prop) (h : ∀ K, Ψ K → wpAny M A t (fun f s' => f = .next ∧ K s') E s) (k : Ψ (Q .next)) : wpAny M A t Q E s :=
  wpAny_mono (h _ k) (fun f s' x => by obtain ⟨rfl, x⟩ := x; exact x) fun _ _ x => x
theorem R_ite {c : Bool} {X Y : Prop} (ht : c = true → X) (hf : c = false → Y) : if c then X else Y := by cases c <;> simp_all

/- lists -/
theorem Knows.list {b : Bs} {h : Heap} {a : Addr} {vs : List Value} (k : Knows b h a (.list vs)) : ∃ n, IsL h a vs.toArray n := by
  obtain ⟨o, e, n, rfl⟩ := k; exact ⟨n, e⟩
theorem isL_list {h : Heap} {a : Addr} {vs : List Value} {n : Nat} (x : IsL h a vs.toArray n) : h.IsList a vs.toArray := ⟨_, x, rfl, n, rfl⟩
theorem R_newList {vs : List Value} {Q : Value → Shared → Prop} (S : St b hid L m κ₀ κ own s) (hz : vs.length ≤ sizeLine) (h : ∀ s' l, St b hid L m κ₀ κ ((l, .list vs) :: own) s' → Q (.ref l) s') : wpAny (model b.prog b.w) A (newList vs) Q E s :=
  wpAny_newObj_type (h _ _ (S.alloc (Nat.le_refl _) (fun _ _ e => Heap.get?_push_of_some _ e) ⟨_, Heap.get?_push_size _ rfl, 0, rfl⟩ rfl rfl)) (by show vs.toArray.size ≤ sizeLine; rw [List.size_toArray]; exact hz)
theorem R_newTuple {vs : List Value} {Q : Value → Shared → Prop} (S : St b hid L m κ₀ κ own s) (hz : vs.length ≤ sizeLine) (h : ∀ s' l, St b hid L m κ₀ κ ((l, .tup vs) :: own) s' → Q (.ref l) s') : wpAny (model b.prog b.w) A (newTuple vs) Q E s :=
  wpAny_newObj_type (h _ _ (S.alloc (Nat.le_refl _) (fun _ _ e => Heap.get?_push_of_some _ e) ⟨_, Heap.get?_push_size _ rfl, 0, rfl⟩ rfl rfl)) (by show vs.toArray.size ≤ sizeLine; rw [List.size_toArray]; exact hz)

theorem R_item {value slice : PySem.Expr} {l : Addr} {vs : List Value} {i : Int} {u : Tok} {v : Value} {Q : Value → Shared → Prop} (S : St b hid L m κ₀ κ own s) (k : Has κ own l (.list vs))
    (h0 : 0 ≤ i) (h1 : i < 2 ^ 63) (hx : vs[i.toNat]? = some v) (hs : subscripted slice false (.ref l) (.int i u) = operate [.ref l, .int i u] (getItem (.ref l) (.int i u))) (h : Q v s) :
    wpAny (model b.prog b.w) A (subscriptTail value slice (.ref l) (.int i u)) Q E s := by
  obtain ⟨n, x⟩ := (S.has k).list
  exact tail_any (isL_list x).typeIs slot_list_getitem.lookup (wpAny_getItem_list (isL_list x) h0 h1 (by simpa using hx) h) hs
theorem R_setItem {l : Addr} {vs vs' : List Value} {i : Int} {u : Tok} {v : Value} {own' : List (Addr × AObj)} {Q : Unit → Shared → Prop} (S : St b hid L m κ₀ κ own s) (p : Put l (.list vs) (.list vs') own own')
    (h0 : 0 ≤ i) (h1 : i < 2 ^ 63) (hn : i.toNat < vs.length) (e : vs.set i.toNat v = vs') (h : ∀ s', St b hid L m κ₀ κ own' s' → Q () s') :
    wpAny (model b.prog b.w) A (setItem (.ref l) (.int i u) v) Q E s := by
  obtain ⟨n, x⟩ := (S.ow _ p.mem).list
  refine ki_setAt (n := n) x h0 h1 (by simp; omega) (h _ (S.upd (t := s.toks) p (.update _ _ _) ⟨_, x.update (·.setIfInBounds i.toNat v), n, ?_⟩))
  subst e
  simp [W.listOf]
theorem R_getMethod_list {name : Str} {id : String} {pl : Sem Bool} {l : Addr} {vs : List Value} {Q : Value × List Value → Shared → Prop} (S : St b hid L m κ₀ κ own s) (k : Has κ own l (.list vs)) (slot : Slot "list" name id)
    (hty : typeOf (.builtin id) = pure (.type "method_descriptor")) (h : Q (.builtin id, [.ref l]) s) : wpAny (model b.prog b.w) A (getMethod (.ref l) name pl) Q E s := by
  obtain ⟨n, x⟩ := (S.has k).list
  exact getMethod_list_of slot hty (isL_list x) ⟨_, x, rfl⟩ h
theorem R_pop0 {l : Addr} {v : Value} {vs : List Value} {u : Tok} {own' : List (Addr × AObj)} {Q : Value → Shared → Prop} (S : St b hid L m κ₀ κ own s) (p : Put l (.list (v :: vs)) (.list vs) own own') (hz : vs.length < sizeLine)
    (h : ∀ s', St b hid L m κ₀ κ own' s' → Q v s') : wpAny (model b.prog b.w) A (call (.builtin "list.pop") [.ref l, .int 0 u]) Q E s := by
  obtain ⟨n, x⟩ := (S.ow _ p.mem).list
  refine call_meets PySem.F.slot_list_pop ⟨_, x, rfl⟩ PySem.F.entry_list_pop (PySem.F.args_list_pop_2 _ _) (PySem.MeetsSeq.list_pop_at l _ n 0 u 0 v (by decide) (by simp [seqIndex?]) (by simp) (by simp; omega))
    ⟨x, h _ (S.upd (t := s.toks) p (.update _ _ _) ⟨_, x.update fun xs => xs.eraseIdxIfInBounds 0, n + 1, ?_⟩)⟩
  simp [W.listOf, Array.eraseIdxIfInBounds]
theorem R_append {l : Addr} {v : Value} {vs : List Value} {own' : List (Addr × AObj)} {Q : Value → Shared → Prop} (S : St b hid L m κ₀ κ own s) (p : Put l (.list vs) (.list (vs ++ [v])) own own') (hz : vs.length ≤ sizeLine)
    (h : ∀ s', St b hid L m κ₀ κ own' s' → Q .none s') : wpAny (model b.prog b.w) A (call (.builtin "list.append") [.ref l, v]) Q E s := by
  obtain ⟨n, x⟩ := (S.ow _ p.mem).list
  exact append_at x (fun h' hs ho => h _ (S.upd (t := s.toks) p hs ⟨_, ho, n + 1, by simp [W.listOf]⟩)) (by simpa using hz)
theorem R_abs {i : Int} {t : Tok} {Q : Value → Shared → Prop} (S : St b hid L m κ₀ κ own s) (h : ∀ s' t, St b hid L m κ₀ κ own s' → Q (.int (if i < 0 then -i else i) t) s') :
    wpAny (model b.prog b.w) A (call (.builtin "abs") [.int i t]) Q E s := call_abs_int fun _ _ => h _ _ (S.toks _)

/-- a list of ints against the empty list -/
theorem R_ne_nil {l e : Addr} {vs : List Value} {Q : Value → Shared → Prop} (S : St b hid L m κ₀ κ own s) (C : Cx b lv A L hid frs) (k : Has κ own l (.list vs)) (k' : Has κ own e (.list [])) (h : Q (.bool (!vs.isEmpty)) s) :
    wpAny (model b.prog b.w) A (compareOp .NotEq (.ref l) (.ref e)) Q E s := by
  have hu : A.units < cLine := by have := C.un; show A.units < 9900; omega
  obtain ⟨n, x⟩ := (S.has k).list
  obtain ⟨n', x'⟩ := (S.has k').list
  cases vs with
  | nil => exact (PySem.SeqAt.RcNeAt.lists (e := fun _ => true) (isL_list x) (isL_list x') rfl hu (fun j h1 => absurd h1 (by simp))) _ _ _ _ (by simpa using h)
  | cons v vs => exact (PySem.SeqAt.RcNeAt.lists_lengths (isL_list x) (isL_list x') (by simp) hu) _ _ _ _ h
end

/- calls -/
section
variable {b : Bs} {lv : Nat} {A : Around} {E : Value → Shared → Prop} {s : Shared} {hid : Kw} {m : Str → Option Value} {κ₀ κ : Kw} {ex own : List (Addr × AObj)} {frs : List Env} {env : Env}

theorem R_kand {P : Prop} {L : Addr} (G : Gd b) (S : St b hid L m κ₀ κ own s) (h : P) : (kk.heap_1 b.w.params).In s.heap ∧ P := ⟨G.K.keeps S.bs, h⟩
theorem R_cwf {L : Addr} {e : Expr} {rest : List Expr} {pos : Pos} {f : Value} {Q : Value → Shared → Prop} (G : Gd b) (S : St b hid L m κ₀ κ own s) (hk : keepIn (kk.heap_1 b.w.params) f = true)
    (he : starEach (e :: rest) env = (false, eval e env) :: starEach rest env) (hplain : (backTo pos (starEach rest env)).any (·.1) = false)
    (h : wpAny (model b.prog b.w) A (spliced (backTo pos (starEach (e :: rest) env))) (fun vs s₁ => (kk.heap_1 b.w.params).In s₁.heap ∧ wpAny (model b.prog b.w) A (call f vs) Q E s₁) E s) :
    wpAny (model b.prog b.w) A (callWith pos f [] (backTo pos (starEach (e :: rest) env)) []) Q E s := callWith_K (first := []) (G.K.keeps S.bs) hk h he hplain
theorem R_cwf1 {L : Addr} {e : Expr} {rest : List Expr} {pos : Pos} {f x : Value} {Q : Value → Shared → Prop} (G : Gd b) (S : St b hid L m κ₀ κ own s) (hk : keepIn (kk.heap_1 b.w.params) f = true)
    (he : starEach (e :: rest) env = (false, eval e env) :: starEach rest env) (hplain : (backTo pos (starEach rest env)).any (·.1) = false)
    (h : wpAny (model b.prog b.w) A (spliced (backTo pos (starEach (e :: rest) env))) (fun vs s₁ => (kk.heap_1 b.w.params).In s₁.heap ∧ wpAny (model b.prog b.w) A (call f (x :: vs)) Q E s₁) E s) :
    wpAny (model b.prog b.w) A (callWith pos f [x] (backTo pos (starEach (e :: rest) env)) []) Q E s := callWith_K (first := [x]) (G.K.keeps S.bs) hk h he hplain
theorem R_cwf0 {L : Addr} {pos : Pos} {f : Value} {first : List Value} {Q : Value → Shared → Prop} (G : Gd b) (S : St b hid L m κ₀ κ own s) (hk : keepIn (kk.heap_1 b.w.params) f = true)
    (h : wpAny (model b.prog b.w) A (call f first) Q E s) :
    wpAny (model b.prog b.w) A (callWith pos f first (backTo pos (starEach [] env)) []) Q E s := callWith_K0 (G.K.keeps S.bs) hk (by rwa [List.append_nil])
theorem R_cwb {pos : Pos} {id : String} {e : Expr} {rest : List Expr} {Q : Value → Shared → Prop}
    (he : starEach (e :: rest) env = (false, eval e env) :: starEach rest env) (hplain : (backTo pos (starEach rest env)).any (·.1) = false)
    (h : wpAny (model b.prog b.w) A (spliced (backTo pos (starEach (e :: rest) env))) (fun vs s₁ => wpAny (model b.prog b.w) A (call (.builtin id) vs) Q E s₁) E s) :
    wpAny (model b.prog b.w) A (callWith pos (.builtin id) [] (backTo pos (starEach (e :: rest) env)) []) Q E s := callWith_builtin1 h he hplain
theorem R_cwb1 {pos : Pos} {id : String} {x : Value} {e : Expr} {rest : List Expr} {Q : Value → Shared → Prop}
    (he : starEach (e :: rest) env = (false, eval e env) :: starEach rest env) (hplain : (backTo pos (starEach rest env)).any (·.1) = false)
    (h : wpAny (model b.prog b.w) A (spliced (backTo pos (starEach (e :: rest) env))) (fun vs s₁ => wpAny (model b.prog b.w) A (call (.builtin id) (x :: vs)) Q E s₁) E s) :
    wpAny (model b.prog b.w) A (callWith pos (.builtin id) [x] (backTo pos (starEach (e :: rest) env)) []) Q E s := callWith_method1 (first := [x]) h he hplain
theorem R_cwb0 {pos : Pos} {id : String} {first : List Value} {Q : Value → Shared → Prop} (h : wpAny (model b.prog b.w) A (call (.builtin id) first) Q E s) :
    wpAny (model b.prog b.w) A (callWith pos (.builtin id) first (backTo pos (starEach [] env)) []) Q E s := callWith_method0 h
theorem R_cwt {pos : Pos} {T : String} {e : Expr} {rest : List Expr} {Q : Value → Shared → Prop}
    (he : starEach (e :: rest) env = (false, eval e env) :: starEach rest env) (hplain : (backTo pos (starEach rest env)).any (·.1) = false)
    (h : wpAny (model b.prog b.w) A (spliced (backTo pos (starEach (e :: rest) env))) (fun vs s₁ => wpAny (model b.prog b.w) A (call (.type T) vs) Q E s₁) E s) :
    wpAny (model b.prog b.w) A (callWith pos (.type T) [] (backTo pos (starEach (e :: rest) env)) []) Q E s := Pv.callWith_type1 h he hplain
theorem R_mcall {o : Expr} {name : Str} {apos pos : Pos} {args : List Expr} {pl : Sem Bool} {Q : Value → Shared → Prop}
    (he : eval (.Call (.Attribute o name apos) args [] pos) env = (do
      let ov ← eval o env
      standAt apos.atName
      let (f, first) ← holding [ov] (getMethod ov name pl)
      callWith pos f first (backTo pos (starEach args env)) (backToKw pos (keywordEach [] env))))
    (h : wpAny (model b.prog b.w) A (eval o env) (fun ov s₁ => wpAny (model b.prog b.w) A (getMethod ov name pl) (fun fx s₂ => wpAny (model b.prog b.w) A (callWith pos fx.1 fx.2 (backTo pos (starEach args env)) []) Q E s₂) E s₁) E s) :
    wpAny (model b.prog b.w) A (eval (.Call (.Attribute o name apos) args [] pos) env) Q E s := methodCall_KW h he
theorem R_spl {e : Expr} {rest : List Expr} {pos : Pos} {Q : List Value → Shared → Prop} (he : starEach (e :: rest) env = (false, eval e env) :: starEach rest env)
    (h : wpAny (model b.prog b.w) A (eval e env) (fun v s₁ => wpAny (model b.prog b.w) A (spliced (backTo pos (starEach rest env))) (fun vs s₂ => Q (v :: vs) s₂) E s₁) E s) :
    wpAny (model b.prog b.w) A (spliced (backTo pos (starEach (e :: rest) env))) Q E s := spliced_more h he
theorem R_spl0 {pos : Pos} {Q : List Value → Shared → Prop} (h : Q [] s) : wpAny (model b.prog b.w) A (spliced (backTo pos (starEach [] env))) Q E s := spliced_none h

noncomputable def hidIn (hid : Kw) (ex : List (Addr × AObj)) (L : Addr) (h : Heap) : Kw := fun a A => hid a A ∨ (a, A) ∈ ex ∨ (a = L ∧ ∃ o, A = .frame o ∧ h.get? L = some o)

theorem nodup_fun {l : List (Addr × AObj)} (nd : (l.map (·.1)).Nodup) {a : Addr} {A B : AObj} (h : (a, A) ∈ l) (h' : (a, B) ∈ l) : A = B := by
  induction l with
  | nil => cases h
  | cons p r ih =>
    have n := List.nodup_cons.mp nd
    rcases List.mem_cons.mp h with q | q
    · subst q
      rcases List.mem_cons.mp h' with e | e
      · cases e; rfl
      · exact (n.1 (List.mem_map_of_mem (f := (·.1)) e)).elim
    · rcases List.mem_cons.mp h' with e | e
      · subst e; exact (n.1 (List.mem_map_of_mem (f := (·.1)) q)).elim
      · exact ih n.2 q e

theorem St.enter {L : Addr} (S : St b hid L m κ₀ κ (ex ++ own) s) {h₁ : Heap} {t : Nat} {m' : Str → Option Value} (hn : h₁.Ns s.heap.objs.size m') (hk : ∀ c o, s.heap.get? c = some o → h₁.get? c = some o) :
    St b (hidIn hid ex L s.heap) s.heap.objs.size m' κ κ own { s with heap := h₁, toks := t } := by
  have K := S.keeps (s' := { s with heap := h₁, toks := t }) hk rfl rfl
  have D := S.drop (List.sublist_append_right ex own)
  have KD := K.drop (List.sublist_append_right ex own)
  have nd := S.nd
  rw [List.map_append, List.nodup_append] at nd
  have fr : ∀ {c C}, Knows b s.heap c C → c ≠ s.heap.objs.size := fun x => Nat.ne_of_lt x.lt
  obtain ⟨oL, es, ep, hoL, hdL, _⟩ := id S.ns
  have hi : ∀ a A, hidIn hid ex L s.heap a A → Knows b s.heap a A := fun a A h => by
    rcases h with h | h | ⟨rfl, o, rfl, ho⟩
    · exact S.hi a A h
    · exact S.ow _ (List.mem_append_left _ h)
    · obtain rfl : o = oL := by rw [hoL] at ho; cases ho; rfl
      exact ⟨o, ho, ⟨o.slots, rfl⟩, fun vs q => by rw [hdL] at q; cases q⟩
  exact {
    ns := hn
    bs := K.bs
    ab := Nat.le_trans S.ab (Nat.le_of_lt S.ns.lt)
    nd := D.nd
    ow := KD.ow
    kn := KD.kn
    hi := fun a A h => (hi a A h).keep fun o => hk _ o
    oL := fun h => by
      obtain ⟨p, hp, e⟩ := List.mem_map.mp h
      exact fr (D.ow p hp) e
    kL := fun A h => fr (S.kn _ A h) rfl
    hL := fun A h => fr (hi _ A h) rfl
    ok := D.ok
    oh := fun a A h hm => by
      rcases h with h | h | ⟨rfl, _⟩
      · exact D.oh a A h hm
      · exact nd.2.2 a (List.mem_map_of_mem h) a hm rfl
      · exact D.oL hm
    kh := fun a A B h hh => by
      rcases hh with hh | hh | ⟨rfl, _⟩
      · exact S.kh a A B h hh
      · exact S.ok a A h (List.mem_map_of_mem (List.mem_append_left _ hh))
      · exact S.kL A h
    hf := fun a A B h h' => by
      have exm : ∀ {A}, (a, A) ∈ ex → a ∈ (ex ++ own).map (·.1) := fun h => List.mem_map_of_mem (List.mem_append_left _ h)
      rcases h with h | h | ⟨rfl, o, rfl, ho⟩ <;> rcases h' with h' | h' | ⟨e, o', rfl, ho'⟩
      · exact S.hf _ _ _ h h'
      · exact (S.oh _ _ h (exm h')).elim
      · exact (S.hL A (e ▸ h)).elim
      · exact (S.oh _ _ h' (exm h)).elim
      · exact nodup_fun nd.1 h h'
      · exact (S.oL (e ▸ exm h)).elim
      · exact (S.hL _ h').elim
      · exact (S.oL (exm h')).elim
      · rw [ho] at ho'; cases ho'; rfl
    og := D.og
    ka := S.ka
    lo := S.lo
    le := Kw.Le.refl _
    gens := S.gens
    os := S.os }

theorem St.leave {L L' : Addr} {m' : Str → Option Value} {κ' : Kw} {own' : List (Addr × AObj)} {s' : Shared} (S : St b hid L m κ₀ κ (ex ++ own) s) (S' : St b (hidIn hid ex L s.heap) L' m' κ κ' own' s') :
    St b hid L m κ₀ κ' (ex ++ own') s' := by
  obtain ⟨oL, es, ep, hoL, r⟩ := id S.ns
  have hLh : hidIn hid ex L s.heap L (.frame oL) := .inr (.inr ⟨rfl, oL, rfl, hoL⟩)
  obtain ⟨o', e', ⟨sl, rfl⟩, _⟩ := S'.hi _ _ hLh
  have exh : ∀ {a A}, (a, A) ∈ ex → hidIn hid ex L s.heap a A := fun h => .inr (.inl h)
  have nd := S.nd
  rw [List.map_append, List.nodup_append] at nd
  have mem : ∀ {a}, a ∈ (ex ++ own').map (·.1) → (∃ A, (a, A) ∈ ex) ∨ a ∈ own'.map (·.1) := fun h => by
    rw [List.map_append, List.mem_append] at h
    refine h.imp (fun h => ?_) id
    obtain ⟨p, hp, rfl⟩ := List.mem_map.mp h
    exact ⟨p.2, hp⟩
  have exm : ∀ {a A}, (a, A) ∈ ex → a ∈ (ex ++ own).map (·.1) := fun h => List.mem_map_of_mem (List.mem_append_left _ h)
  exact {
    ns := ⟨_, es, ep, e', r⟩
    bs := S'.bs
    ab := S.ab
    nd := by
      rw [List.map_append, List.nodup_append]
      refine ⟨nd.1, S'.nd, fun a ha c hc e => ?_⟩
      subst e
      obtain ⟨p, hp, rfl⟩ := List.mem_map.mp ha
      exact S'.oh _ p.2 (exh hp) hc
    ow := fun p hp => (List.mem_append.mp hp).elim (fun h => S'.hi _ _ (exh h)) (S'.ow p)
    kn := S'.kn
    hi := fun a A h => S'.hi a A (.inl h)
    oL := fun h => (mem h).elim (fun ⟨A, h⟩ => S.oL (exm h)) (S'.oh _ _ hLh)
    kL := fun A h => S'.kh _ _ _ h hLh
    hL := S.hL
    ok := fun a A h hm => (mem hm).elim (fun ⟨B, hb⟩ => S'.kh a A B h (exh hb)) (S'.ok a A h)
    oh := fun a A h hm => (mem hm).elim (fun ⟨B, hb⟩ => S.oh a A h (exm hb)) (S'.oh a A (.inl h))
    kh := fun a A B h hh => S'.kh a A B h (.inl hh)
    hf := S.hf
    og := fun p hp => (List.mem_append.mp hp).elim (fun h => S.og p (List.mem_append_left _ h)) (S'.og p)
    ka := S'.ka
    lo := S.lo
    le := S.le.trans S'.le
    gens := S'.gens
    os := S'.os }

theorem Fly.leave {L L' : Addr} {m' : Str → Option Value} {κ' : Kw} {own' : List (Addr × AObj)} {e : Addr} {s' : Shared} (S : St b hid L m κ₀ κ (ex ++ own) s) (F : Fly b (hidIn hid ex L s.heap) L' m' κ κ' own' frs e s') :
    Fly b hid L m κ₀ κ' (ex ++ own') frs e s' := by
  obtain ⟨S', B, a0, fl, I⟩ := F
  refine ⟨S.leave S', B, a0, fl, I.bs, fun a A h => I.kb a A ?_⟩
  rcases h with h | h | h
  · rcases List.mem_append.mp h with h | h
    · exact .inr (.inr (.inr (.inl h)))
    · exact .inl h
  · exact .inr (.inl h)
  · exact .inr (.inr (.inl h))
/-- the way back from a call -/
structure Ret (b : Bs) (hid' : Kw) (L' : Addr) (hid : Kw) (L : Addr) (m : Str → Option Value) (κ₀ κ : Kw) (ex : List (Addr × AObj)) (frs : List Env) : Prop where
  st : ∀ {m' κ' own' s''}, St b hid' L' m' κ κ' own' s'' → St b hid L m κ₀ κ' (ex ++ own') s''
  fly : ∀ {m' κ' own' e s''}, Fly b hid' L' m' κ κ' own' frs e s'' → Fly b hid L m κ₀ κ' (ex ++ own') frs e s''

theorem hidden_ok {L L' : Addr} {m' : Str → Option Value} {h : Heap} (hn : h.Ns L m') (hb : b.base.objs.size ≤ L) (ok : OutOk b L hid frs) : OutOk b L' (hidIn hid ex L h) frs := fun e he => by
  obtain ⟨oL, es, ep, hoL, hd, _⟩ := id hn
  obtain ⟨h1, L₁, h2, h3, h4⟩ := ok e he
  refine ⟨h1, L₁, h2, h3, .inr ?_⟩
  rcases h4 with rfl | ⟨o, h4⟩
  · exact ⟨oL, .inr (.inr ⟨rfl, oL, rfl, hoL⟩)⟩
  · exact ⟨o, .inl h4⟩
theorem Cx.enter {L : Addr} {q : Str} {sc : Scope} {f : Addr} {cd : Value} {κ₁ : Kw} (C : Cx b (lv + 1) A L hid frs) (S : St b hid L m κ₁ κ (ex ++ own) s) (hk : sc.kind = .function) :
    Cx b lv (A.deeper (envOf q sc s.heap.objs.size f cd)) s.heap.objs.size (hidIn hid ex L s.heap) (envOf q sc s.heap.objs.size f cd :: frs) where
  fr := Around.frames_deeper C.fr
  hd := C.hd
  dp := by have := C.dp; show A.depth + 1 + 2 * lv ≤ 900; omega
  un := by have := C.un; show A.units + 3 + 20 * lv ≤ 5000; omega
  ok := fun e he => by
    rcases List.mem_cons.mp he with rfl | he
    · refine ⟨by show sc.kind ≠ _; rw [hk]; decide, _, rfl, base_none (Nat.le_trans S.ab (Nat.le_of_lt S.ns.lt)), .inl rfl⟩
    · exact hidden_ok S.ns S.ab C.ok e he

noncomputable def RetK (Q : Value → Shared → Prop) (fl : Flow) (s : Shared) : Prop := Q (match fl with | .ret v => v | _ => .none) s
theorem R_retK {Q : Value → Shared → Prop} {v : Value} (h : Q v s) : RetK Q (.ret v) s := h
theorem R_fallK {Q : Value → Shared → Prop} (h : Q .none s) : RetK Q .next s := h
noncomputable def ExcK (M : Model) (A : Around) (env : Env) (E : Value → Shared → Prop) (e : Value) (s : Shared) : Prop := wpAny M A (leaving env e) (fun _ s₃ => E e s₃) (fun e' s₃ => E e' s₃) s

noncomputable def CallR (Q : Value → Shared → Prop) (E : Value → Shared → Prop) (r : Result) (s : Shared) : Prop := match r with | .ok (.ret v) => Q v s | .ok _ => False | .error e => E e s
abbrev CallC (b : Bs) (A : Around) (f : Addr) (args : List Value) (Q : Value → Shared → Prop) (E : Value → Shared → Prop) (s : Shared) : Prop := codeAny (model b.prog b.w) A (.call (.ref f) ⟨args, []⟩) (CallR Q E) s
theorem CallC.go {b : Bs} {A : Around} {f : Addr} {args : List Value} {Q : Value → Shared → Prop} {E : Value → Shared → Prop} {s : Shared} (h : CallC b A f args Q E s) : wpAny (model b.prog b.w) A (call (.ref f) args) Q E s := wpAny_call h
theorem call_cd (rb : List (Str × Value)) {name qual : Str} {params : Arguments} {body : List Stmt} {scope : Scope} {dV kV doc pm cdv ct oc : Value} {an od : Option Addr} {osl : Array (Option Value)} {f : Addr} {args : List Value} {L : Addr} {Q : Value → Shared → Prop}
    (G : Gd b) (C : Cx b (lv + 1) A L hid frs) (S : St b hid L m κ₀ κ (ex ++ own) s)
    (ho : (kk.heap_1 b.w.params).lookup f = some ⟨oc, od, .func (fnOf name qual params body scope dV kV doc pm an cdv ct), osl⟩) (hcd : codeIn (kk.heap_1 b.w.params) cdv qual = true)
    (hbind : BindsTo s (fnOf name qual params body scope dV kV doc pm an cdv ct) ⟨args, []⟩ rb.reverse) (hloc : ∀ y ∈ rb.reverse, scope.names.lookup y.1 = some .local)
    (hco : scope.isCoroutine = false) (hgen : scope.isGenerator = false) (hk : scope.kind = .function) (hcell : ∀ x ∈ scope.names, x.2 ≠ .cell)
    (h : ∀ L' hid' s' A' env', env' = envOf qual scope L' f cdv → EnvIs env' scope L' [] → A' = A.deeper env' → Cx b lv A' L' hid' (env' :: frs) → St b hid' L' (fun y => rb.lookup y) κ κ own s' →
      Ret b hid' L' hid L m κ₀ κ ex frs →
      wpAny (model b.prog b.w) A' (execs body env') (RetK Q) (ExcK (model b.prog b.w) A' env' E) s') :
    CallC b A f args Q E s := by
  have X : (kk.heap_1 b.w.params).In s.heap := G.K.keeps S.bs
  obtain ⟨_, _, _, _, _, T⟩ := G.T.top
  refine (codeAny_call_def (fd := fnOf name qual params body scope dV kV doc pm an cdv ct) (body := body) (binds := rb.reverse) (by have := C.dp; show A.depth < 1000; omega) (X _ _ ho) rfl (T.nolimit.keeps S.bs) (codeRec_of X hcd) rfl hbind hcell hloc (fun h₁ hns hk₁ => ?_) hco hgen hk)
  exact h _ _ _ _ _ rfl ⟨rfl, rfl, rfl, rfl, rfl⟩ rfl (C.enter S hk) (S.enter (by rwa [List.reverse_reverse] at hns) hk₁) ⟨fun S' => S.leave S', fun F => F.leave S⟩
theorem call_cx (rb : List (Str × Value)) {name qual : Str} {params : Arguments} {body : List Stmt} {scope : Scope} {dV kV doc pm cdv ct oc : Value} {an od : Option Addr} {osl : Array (Option Value)} {f : Addr} {args : List Value} {L : Addr} {Q : Value → Shared → Prop}
    (G : Gd b) (C : Cx b (lv + 1) A L hid frs) (S : St b hid L m κ₀ κ (ex ++ own) s)
    (ho : (kk.heap_1 b.w.params).lookup f = some ⟨oc, od, .func (fnOf name qual params body scope dV kV doc pm an cdv ct), osl⟩) (hcd : codeIn (kk.heap_1 b.w.params) cdv qual = true)
    (hbind : BindsTo s (fnOf name qual params body scope dV kV doc pm an cdv ct) ⟨args, []⟩ rb.reverse) (hloc : ∀ y ∈ rb.reverse, scope.names.lookup y.1 = some .local)
    (hco : scope.isCoroutine = false) (hgen : scope.isGenerator = false) (hk : scope.kind = .function) (hcell : ∀ x ∈ scope.names, x.2 ≠ .cell)
    (h : ∀ L' hid' s' A' env', env' = envOf qual scope L' f cdv → EnvIs env' scope L' [] → A' = A.deeper env' → Cx b lv A' L' hid' (env' :: frs) → St b hid' L' (fun y => rb.lookup y) κ κ own s' →
      Ret b hid' L' hid L m κ₀ κ ex frs →
      wpAny (model b.prog b.w) A' (execs body env') (RetK Q) (ExcK (model b.prog b.w) A' env' E) s') :
    wpAny (model b.prog b.w) A (call (.ref f) args) Q E s := (call_cd rb G C S ho hcd hbind hloc hco hgen hk hcell h).go
end
noncomputable def setA (n : Str) (v : Value) : List (Str × Value) → List (Str × Value)
  | [] => [(n, v)]
  | (k, u) :: r => if n = k then (k, v) :: r else (k, u) :: setA n v r
theorem setA_lookup (n : Str) (v : Value) (x : Str) : ∀ l, (setA n v l).lookup x = if x = n then some v else l.lookup x
  | [] => by
    simp only [setA, List.lookup_cons, List.lookup_nil]
    by_cases h : x = n
    · simp [h]
    · have : (x == n) = false := by simpa using h
      simp [this, h]
  | (k, u) :: r => by
    have ih := setA_lookup n v x r
    unfold setA
    by_cases h : n = k
    · subst h
      simp only [if_true, List.lookup_cons]
      by_cases q : x = n
      · simp [q]
      · have : (x == n) = false := by simpa using q
        simp [this, q]
    · simp only [if_neg h, List.lookup_cons]
      by_cases q : x = k
      · subst q
        have : x ≠ n := fun e => h e.symm
        simp [this]
      · have : (x == k) = false := by simpa using q
        simp only [this, ih]
theorem setA_length (n : Str) (v : Value) : ∀ l, (l.lookup n).isSome = true → (setA n v l).length = l.length
  | [], h => by simp at h
  | (k, u) :: r, h => by
    unfold setA
    by_cases q : n = k
    · simp [q]
    · have : (n == k) = false := by simpa using q
      simp only [List.lookup_cons, this] at h
      simp [q, setA_length n v r h]
theorem setA_length' (n : Str) (v : Value) : ∀ l, (l.lookup n) = none → (setA n v l).length = l.length + 1
  | [], h => rfl
  | (k, u) :: r, h => by
    unfold setA
    by_cases q : n = k
    · subst q; simp at h
    · have : (n == k) = false := by simpa using q
      simp only [List.lookup_cons, this] at h
      simp [q, setA_length' n v r h]
theorem setA_mem (n : Str) (v : Value) : ∀ l, ∀ p ∈ setA n v l, p = (n, v) ∨ p ∈ l
  | [], p, h => .inl (by simpa [setA] using h)
  | (k, u) :: r, p, h => by
    unfold setA at h
    by_cases q : n = k
    · subst q
      rw [if_pos rfl] at h
      rcases List.mem_cons.mp h with h | h
      · exact .inl h
      · exact .inr (.tail _ h)
    · rw [if_neg q] at h
      rcases List.mem_cons.mp h with h | h
      · exact .inr (h ▸ .head _)
      · exact (setA_mem n v r p h).imp id (.tail _)
theorem putL_find' (name : Str) (h : Int) (t : Tok) (v : Value) (x : Str) : ∀ es : List DictEntry,
    ((putL name h (.str name t) v es).find? fun e => e.key.isStr x).map (·.val) = if x = name then some v else (es.find? fun e => e.key.isStr x).map (·.val)
  | [] => by
    have : (Value.str name t).isStr x = decide (name = x) := by simp [Value.isStr]; rfl
    simp only [putL, List.find?_cons, this, List.find?_nil]
    by_cases q : x = name
    · subst q; simp
    · have : ¬ name = x := fun e => q e.symm
      simp [q, this]
  | e :: r => by
    have ih := putL_find' name h t v x r
    unfold putL
    by_cases q : e.key.isStr name = true
    · rw [if_pos q]
      simp only [List.find?_cons]
      by_cases z : x = name
      · subst z; simp [q]
      · have : e.key.isStr x = false := by
          cases w : e.key.isStr x with
          | false => rfl
          | true => exact absurd (Value.isStr_inj _ _ _ w q) z
        simp [this, z]
    · rw [if_neg q]
      simp only [List.find?_cons]
      cases w : e.key.isStr x with
      | true =>
        have : x ≠ name := fun e' => q (e' ▸ w)
        simp [this]
      | false => simpa using ih
theorem putL_refKey (name : Str) (h : Int) (t : Tok) (v : Value) : ∀ es : List DictEntry, es.any (·.refKey) = false → (putL name h (.str name t) v es).any (·.refKey) = false
  | [], _ => rfl
  | e :: r, q => by
    simp only [List.any_cons, Bool.or_eq_false_iff] at q
    unfold putL
    split
    · simp only [List.any_cons, Bool.or_eq_false_iff]; exact ⟨q.1, q.2⟩
    · simp only [List.any_cons, Bool.or_eq_false_iff]; exact ⟨q.1, putL_refKey name h t v r q.2⟩
theorem putL_length (name : Str) (h : Int) (k v : Value) : ∀ es : List DictEntry, (putL name h k v es).length = if es.any (·.key.isStr name) then es.length else es.length + 1
  | [] => rfl
  | e :: r => by
    unfold putL
    by_cases q : e.key.isStr name = true
    · simp [q]
    · have q' : e.key.isStr name = false := by simpa using q
      rw [if_neg q]
      simp only [List.length_cons, List.any_cons, q', Bool.false_or, putL_length name h k v r]
      split <;> rfl
theorem getL_of {es : List DictEntry} {l : List (Str × Value)} (hf : ∀ x, (es.find? fun e => e.key.isStr x).map (·.val) = l.lookup x) (hr : es.any (·.refKey) = false) (x : Str) : getL x es = some (l.lookup x) := by
  unfold getL
  rw [← hf x]
  cases es.find? (fun e => e.key.isStr x) with
  | none => simp [hr]
  | some e => rfl
theorem AttrsIs.put {C : Addr} {l : List (Str × Value)} {es : List DictEntry} (X : AttrsIs C l es) {name : Str} {h : Int} {t : Tok} {v : Value} (ok : okAt C name) (hh : handedIn v = true) :
    AttrsIs C (setA name v l) (putL name h (.str name t) v es) := by
  obtain ⟨h1, h2, h3, h4⟩ := X
  refine ⟨?_, fun x => ?_, putL_refKey _ _ _ _ _ h3, fun p hp => ?_⟩
  · rw [putL_length]
    have e := h2 name
    cases q : l.lookup name with
    | none =>
      rw [setA_length' _ _ _ q]
      split <;> omega
    | some u =>
      rw [q] at e
      have a : es.any (fun e => e.key.isStr name) = true := by
        cases z : es.find? (fun e => e.key.isStr name) with
        | none => rw [z] at e; cases e
        | some en => exact List.any_eq_true.mpr ⟨en, List.mem_of_find?_eq_some z, List.find?_some (p := fun e : DictEntry => e.key.isStr name) z⟩
      rw [setA_length _ _ _ (by rw [q]; rfl), if_pos a]
      exact h1
  · rw [putL_find', setA_lookup]
    split
    · rfl
    · exact h2 x
  · rcases setA_mem _ _ _ p hp with rfl | hp
    · exact ⟨ok, hh⟩
    · exact h4 p hp

noncomputable def others (base h : Heap) (L d : Addr) : List (Addr × Obj) := (List.range h.objs.size).filterMap fun a => if a = L ∨ a = d ∨ (base.get? a).isSome = true then none else (h.get? a).map (a, ·)
theorem mem_others {base h : Heap} {L d a : Addr} {o : Obj} : (a, o) ∈ others base h L d ↔ a ≠ L ∧ a ≠ d ∧ base.get? a = none ∧ h.get? a = some o := by
  unfold others
  rw [List.mem_filterMap]
  constructor
  · rintro ⟨c, _, e⟩
    by_cases q : c = L ∨ c = d ∨ (base.get? c).isSome = true
    · rw [if_pos q] at e; cases e
    · rw [if_neg q] at e
      obtain ⟨x, hx, e⟩ := Option.map_eq_some_iff.mp e
      cases e
      simp only [not_or] at q
      refine ⟨q.1, q.2.1, ?_, hx⟩
      cases z : base.get? a with
      | none => rfl
      | some _ => rw [z] at q; simp at q
  · rintro ⟨h1, h2, h3, h4⟩
    refine ⟨a, List.mem_range.mpr (Heap.lt_size h4), ?_⟩
    rw [if_neg (by simp [h1, h2, h3]), h4]; rfl

section
variable {b : Bs} {lv : Nat} {A : Around} {E : Value → Shared → Prop} {s : Shared} {hid : Kw} {L : Addr} {m m' : Str → Option Value} {κ₀ κ : Kw} {own own' : List (Addr × AObj)} {frs : List Env} {env : Env}

/-- an own object turned: by the others' ledger -/
theorem St.updN (S : St b hid L m κ₀ κ own s) {h' : Heap} {t : Nat} {a : Addr} {X X' : AObj} {o' : Obj} (hp : Put a X X' own own') (F : Fr b.base L h' m') (N : News b.base L h' (others b.base s.heap L a ++ [(a, o')])) (hk : X'.is b o') :
    St b hid L m' κ₀ κ own' { s with heap := h', toks := t } := by
  have ha : a ∈ own.map (·.1) := List.mem_map_of_mem hp.mem
  have ne : ∀ c, c ≠ a → c ≠ L → ∀ o, s.heap.get? c = some o → h'.get? c = some o := fun c h hL o e => by
    cases q : b.base.get? c with
    | none => exact (N (c, o) (List.mem_append_left _ (mem_others.mpr ⟨hL, h, q, e⟩))).1
    | some o₂ =>
      have := S.bs c o₂ q
      rw [e] at this; cases this
      exact F.keep c o q
  have kk := hp.keys
  exact {
    ns := F.ns
    bs := F.keep
    ab := S.ab
    nd := kk ▸ S.nd
    ow := fun p hp' => by
      rcases hp.apart S.nd p hp' with rfl | ⟨h, n⟩
      · exact ⟨o', (N (a, o') (List.mem_append_right _ (.head _))).1, hk⟩
      · exact (S.ow p h).keep (ne _ n fun e => S.oL (e ▸ List.mem_map_of_mem h))
    kn := fun c C h => (S.kn c C h).keep (ne _ (fun e => S.ok c C h (e ▸ ha)) fun e => S.kL C (e ▸ h))
    hi := fun c C h => (S.hi c C h).keep (ne _ (fun e => S.oh c C h (e ▸ ha)) fun e => S.hL C (e ▸ h))
    oL := kk ▸ S.oL
    kL := S.kL
    hL := S.hL
    ok := fun c C h => kk ▸ S.ok c C h
    oh := fun c C h => kk ▸ S.oh c C h
    kh := S.kh
    hf := S.hf
    og := fun p hp' => by
      rcases hp.back p hp' with rfl | h
      · exact S.og (a, X) hp.mem
      · exact S.og p h
    ka := S.ka, lo := S.lo
    le := S.le, gens := S.gens, os := S.os }
theorem St.newsN (S : St b hid L m κ₀ κ own s) {a : Addr} {o : Obj} (hL : a ≠ L) (hb : b.base.get? a = none) (ho : s.heap.get? a = some o) : News b.base L s.heap (others b.base s.heap L a ++ [(a, o)]) := fun p hp => by
  rcases List.mem_append.mp hp with h | h
  · obtain ⟨h1, h2, h3, h4⟩ := mem_others.mp (show (p.1, p.2) ∈ _ from h)
    exact ⟨h4, h1, h3⟩
  · cases List.mem_singleton.mp h
    exact ⟨ho, hL, hb⟩

theorem St.inst (S : St b hid L m κ₀ κ own s) {x C d : Addr} {C' : Addr} {l : List (Str × Value)} (kx : Has κ own x (.inst C d)) (kd : Has κ own d (.attrs C' l)) :
    ∃ es n, AttrsIs C' l es ∧ s.heap.get? d = some (dictOf es n) ∧ InstAt s.heap x (instObj C d) C (some (dictOf es n)) := by
  obtain ⟨o, e, rfl⟩ := S.has kx
  obtain ⟨o', e', es, n, rfl, X⟩ := S.has kd
  exact ⟨es, n, X, e', ⟨e, rfl, rfl, e'⟩⟩
theorem okAttr_of {C : Addr} {n : Str} (h : okAt C n) (P : Params) : plainGet (kk.heap_1 P) C n = true ∧ hasDictIn (kk.heap_1 P) C = true ∧ (∃ a, findIn (kk.heap_1 P) (.ref C) n = some a ∧ noGet (kk.heap_1 P) a = true) ∧
    findIn (kk.heap_1 P) (.ref C) "__setattr__" = some (some (.builtin "object.__setattr__")) ∧ plainOver (kk.heap_1 P) C = true ∧ takerIn (kk.heap_1 P) C n = some none := by
  have := h P
  unfold okAttr at this
  simp only [Bool.and_eq_true, beq_iff_eq] at this
  obtain ⟨⟨⟨⟨⟨h1, h2⟩, h3⟩, h4⟩, h5⟩, h6⟩ := this
  refine ⟨h1, h2, ?_, h4, h5, h6⟩
  split at h3
  · rename_i a e; exact ⟨a, e, h3⟩
  · cases h3

theorem lookup_mem {x : Str} {v : Value} : ∀ {l : List (Str × Value)}, l.lookup x = some v → (x, v) ∈ l
  | [], h => by simp at h
  | (k, u) :: r, h => by
    rw [List.lookup_cons] at h
    by_cases q : x = k
    · subst q; simp at h; subst h; exact .head _
    · have : (x == k) = false := by simpa using q
      simp only [this] at h
      exact .tail _ (lookup_mem h)
theorem R_getattr {x C d : Addr} {l : List (Str × Value)} {name : Str} {ex : Bool} {v : Value} {Q : Value → Shared → Prop} (G : Gd b) (S : St b hid L m κ₀ κ own s) (kx : Has κ own x (.inst C d)) (kd : Has κ own d (.attrs C l))
    (hv : l.lookup name = some v) (h : ∀ s', St b hid L m κ₀ κ own s' → Q v s') : wpAny (model b.prog b.w) A (getAttr (.ref x) name ex) Q E s := by
  obtain ⟨es, n, ⟨h1, h2, h3, h4⟩, e, I⟩ := S.inst kx kd
  obtain ⟨ok, hh⟩ := h4 _ (lookup_mem hv)
  obtain ⟨o1, o2, ⟨a, o3, o4⟩, _⟩ := okAttr_of ok b.w.params
  exact get_own S.fr G.K I o1 o2 o3 o4 (by rw [getL_of h2 h3, hv]) hh (h _ (S.toks _))
theorem R_getmeth {x C d f : Addr} {l : List (Str × Value)} {name : Str} {pl : Sem Bool} {Q : Value × List Value → Shared → Prop} (G : Gd b) (S : St b hid L m κ₀ κ own s) (kx : Has κ own x (.inst C d)) (kd : Has κ own d (.attrs C l))
    (hv : l.lookup name = none) (hg : plainGet (kk.heap_1 b.w.params) C name = true) (hf : findIn (kk.heap_1 b.w.params) (.ref C) name = some (some (.ref f))) (ht : isFn (kk.heap_1 b.w.params) (.ref f) = true)
    (h : Q (.ref f, [.ref x]) s) : wpAny (model b.prog b.w) A (getMethod (.ref x) name pl) Q E s := by
  obtain ⟨es, n, ⟨h1, h2, h3, h4⟩, e, I⟩ := S.inst kx kd
  exact method_inst S.fr G.K I hg hf ht (by rw [getL_of h2 h3, hv]) h
theorem R_attrN {sc : Scope} {cl : List (Str × Addr)} {env : Env} {x attr : Str} {xp pos : Pos} {a C d : Addr} {l : List (Str × Value)} {v : Value} {Q : Value → Shared → Prop} (hE : EnvIs env sc L cl) (G : Gd b) (S : St b hid L m κ₀ κ own s) (hv : m x = some (.ref a)) (hk : sc.kind = .function) (hl : sc.names.lookup x = some .local) (hd : (x == ("__debug__" : Str)) = false)
    (kx : Has κ own a (.inst C d)) (kd : Has κ own d (.attrs C l)) (hw : l.lookup attr = some v) (h : ∀ s', St b hid L m κ₀ κ own s' → Q v s') : wpAny (model b.prog b.w) A (eval (.Attribute (.Name x xp) attr pos) env) Q E s :=
  Attribute_Name_ (R_name hE S hv hk hl hd (R_getattr G S kx kd hw h))
theorem R_mcallN {sc : Scope} {cl : List (Str × Addr)} {env : Env} {x name : Str} {xp apos pos : Pos} {args : List Expr} {a C d f : Addr} {l : List (Str × Value)} {pl : Sem Bool} {Q : Value → Shared → Prop}
    (he : eval (.Call (.Attribute (.Name x xp) name apos) args [] pos) env = (do
      let ov ← eval (.Name x xp) env
      standAt apos.atName
      let (f, first) ← holding [ov] (getMethod ov name pl)
      callWith pos f first (backTo pos (starEach args env)) (backToKw pos (keywordEach [] env)))) (hE : EnvIs env sc L cl) (G : Gd b) (S : St b hid L m κ₀ κ own s) (hv : m x = some (.ref a)) (hk : sc.kind = .function) (hl : sc.names.lookup x = some .local) (hd : (x == ("__debug__" : Str)) = false)
    (kx : Has κ own a (.inst C d)) (kd : Has κ own d (.attrs C l)) (hw : l.lookup name = none) (hg : plainGet (kk.heap_1 b.w.params) C name = true) (hf : findIn (kk.heap_1 b.w.params) (.ref C) name = some (some (.ref f))) (ht : isFn (kk.heap_1 b.w.params) (.ref f) = true)
    (h : ∀ Q', CutLe Q Q' → wpAny (model b.prog b.w) A (callWith pos (.ref f) [.ref a] (backTo pos (starEach args env)) []) Q' E s) : wpAny (model b.prog b.w) A (eval (.Call (.Attribute (.Name x xp) name apos) args [] pos) env) Q E s :=
  R_mcall he (R_name hE S hv hk hl hd (R_getmeth G S kx kd hw hg hf ht (h _ fun _ _ x => x)))
theorem R_splN {sc : Scope} {cl : List (Str × Addr)} {env : Env} {x : Str} {xp pos : Pos} {rest : List Expr} {v : Value} {Q : List Value → Shared → Prop} (hE : EnvIs env sc L cl) (S : St b hid L m κ₀ κ own s) (hv : m x = some v) (hk : sc.kind = .function) (hl : sc.names.lookup x = some .local) (hd : (x == ("__debug__" : Str)) = false)
    (h : wpAny (model b.prog b.w) A (spliced (backTo pos (starEach rest env))) (fun vs s₂ => Q (v :: vs) s₂) E s) : wpAny (model b.prog b.w) A (spliced (backTo pos (starEach (.Name x xp :: rest) env))) Q E s :=
  R_spl rfl (R_name hE S hv hk hl hd h)
theorem R_setattrN {x C d : Addr} {l l' : List (Str × Value)} {name : Str} {v : Value} {Q : Unit → Shared → Prop} (G : Gd b) (S : St b hid L m κ₀ κ own s) (kx : Has κ own x (.inst C d)) (p : Put d (.attrs C l) (.attrs C l') own own')
    (ok : okAt C name) (hh : handedIn v = true) (hz : l.length ≤ 500) (e : setA name v l = l') (h : ∀ s', St b hid L m κ₀ κ own' s' → Q () s') : wpAny (model b.prog b.w) A (setAttr (.ref x) name v) Q E s := by
  subst e
  obtain ⟨es, n, X, ed, I⟩ := S.inst kx (.inl p.mem)
  obtain ⟨_, o2, _, o4, o5, o6⟩ := okAttr_of ok b.w.params
  have hdL : d ≠ L := fun q => S.oL (q ▸ List.mem_map_of_mem p.mem)
  have N := S.newsN hdL (S.ob p.mem) ed
  have g := getL_of X.2.1 X.2.2.1 name
  have X' := X.put (name := name) (h := PyData.keyHash b.w.params name) (t := s.toks + 1) (v := v) ok hh
  refine set_plain (G.K.keeps S.bs) I o4 (osa_dict (s := { s with toks := s.toks + 1 }) (post := []) S.fr N (G.K.keeps S.bs) I rfl o5 o6 o2 (by show (getL name es).isSome = true; rw [g]; rfl)
    (fun q hq => (mem_others.mp (show (q.1, q.2) ∈ _ from hq)).2.1) (fun _ hq => nomatch hq) (by rw [putName_dict]) rfl ?_ fun h' F' N' => h _ (S.updN (t := s.toks + 1 + 1) p F' N' ⟨_, _, rfl, X'⟩))
  have := X'.1
  show (putL name (PyData.keyHash b.w.params name) (.str name (s.toks + 1)) v es).length ≤ 1000
  cases q : l.lookup name with
  | none => rw [setA_length' _ _ _ q] at this; omega
  | some u => rw [setA_length _ _ _ (by rw [q]; rfl)] at this; omega
theorem R_setattr {x C d : Addr} {l l' : List (Str × Value)} {name : Str} {v : Value} {Q : Unit → Shared → Prop} (G : Gd b) (S : St b hid L m κ₀ κ own s) (kx : Has κ own x (.inst C d)) (p : Put d (.attrs C l) (.attrs C l') own own')
    (hl : (l.lookup name).isSome = true) (hh : handedIn v = true) (hz : l.length ≤ 500) (e : setA name v l = l') (h : ∀ s', St b hid L m κ₀ κ own' s' → Q () s') : wpAny (model b.prog b.w) A (setAttr (.ref x) name v) Q E s := by
  obtain ⟨es, n, X, ed, I⟩ := S.inst kx (.inl p.mem)
  obtain ⟨u, hu⟩ := Option.isSome_iff_exists.mp hl
  exact R_setattrN G S kx p (X.2.2.2 _ (lookup_mem hu)).1 hh hz e h

theorem St.make (S : St b hid L m κ₀ κ own s) {C : Addr} (hk : ∀ p ∈ ([] : List (Str × Value)), okAt C p.1) :
    St b hid L m κ₀ κ ((s.heap.objs.size + 1, .inst C s.heap.objs.size) :: (s.heap.objs.size, .attrs C []) :: own) { s with heap := (s.heap.push emptyDict).push (instObj C s.heap.objs.size) } := by
  have S1 := S.alloc (s' := { s with heap := s.heap.push emptyDict }) (a := s.heap.objs.size) (A := .attrs C []) (Nat.le_refl _) (fun _ _ e => Heap.get?_push_of_some _ e)
    ⟨_, Heap.get?_push_size _ rfl, [], 0, rfl, Nat.le_refl _, fun _ => rfl, rfl, fun _ h => nomatch h⟩ rfl rfl
  refine S1.alloc (a := s.heap.objs.size + 1) (A := .inst C s.heap.objs.size) (by show (s.heap.push emptyDict).objs.size ≤ _; rw [Heap.size_push]; exact Nat.le_refl _) (fun _ _ e => Heap.get?_push_of_some _ e) ⟨_, ?_, rfl⟩ rfl rfl
  have := Heap.get?_push_size (s.heap.push emptyDict) (o := instObj C s.heap.objs.size) rfl
  rwa [Heap.size_push] at this

/-- an instance of an own class, made by its own __init__ -/
theorem new_cx (rb : Addr → List (Str × Value)) {ex : List (Addr × AObj)} {name qual : Str} {params : Arguments} {body : List Stmt} {scope : Scope} {dV kV doc pm cdv ct oc : Value} {an od : Option Addr} {osl : Array (Option Value)} {C f : Addr} {args : List Value} {Q : Value → Shared → Prop}
    (G : Gd b) (K : Cx b (lv + 2) A L hid frs) (S : St b hid L m κ₀ κ (ex ++ own) s)
    (hm : makesIn (kk.heap_1 b.w.params) C = true) (hi : findIn (kk.heap_1 b.w.params) (.ref C) "__init__" = some (some (.ref f))) (hf : isFn (kk.heap_1 b.w.params) (.ref f) = true)
    (ho : (kk.heap_1 b.w.params).lookup f = some ⟨oc, od, .func (fnOf name qual params body scope dV kV doc pm an cdv ct), osl⟩) (hcd : codeIn (kk.heap_1 b.w.params) cdv qual = true)
    (hbind : ∀ x s, (kk.heap_1 b.w.params).In s.heap → BindsTo s (fnOf name qual params body scope dV kV doc pm an cdv ct) ⟨.ref x :: args, []⟩ (rb x).reverse) (hloc : ∀ x, ∀ y ∈ (rb x).reverse, scope.names.lookup y.1 = some .local)
    (hco : scope.isCoroutine = false) (hgen : scope.isGenerator = false) (hk : scope.kind = .function) (hcell : ∀ x ∈ scope.names, x.2 ≠ .cell)
    (h : ∀ x d L' hid' s' A' env', env' = envOf qual scope L' f cdv → EnvIs env' scope L' [] → Cx b lv A' L' hid' (env' :: frs) → St b hid' L' (fun y => (rb x).lookup y) κ κ ((x, .inst C d) :: (d, .attrs C []) :: own) s' →
      Ret b hid' L' hid L m κ₀ κ ex frs →
      wpAny (model b.prog b.w) A' (execs body env') (RetK fun v s'' => v = .none ∧ Q (.ref x) s'') (ExcK (model b.prog b.w) A' env' E) s') :
    wpAny (model b.prog b.w) A (call (.ref C) args) Q E s := by
  have X : (kk.heap_1 b.w.params).In s.heap := G.K.keeps S.bs
  obtain ⟨_, _, _, _, _, T⟩ := G.T.top
  have S2 := S.make (C := C) fun _ h => nomatch h
  have S3 := S2.perm (own' := ex ++ (s.heap.objs.size + 1, .inst C s.heap.objs.size) :: (s.heap.objs.size, .attrs C []) :: own) (List.perm_append_comm_assoc [_, _] ex own)
  refine wpAny_call ?_
  obtain ⟨hp, g, dr, tk, os⟩ := s
  refine make_core (makes_of X hm) (looks_findIn X hi) (fun self => bind_fn X self (beq_iff_eq.mp hf)) (.inl rfl) ?_
  have K' : Cx b (lv + 1) (A.under (.builtin "type.__call__" ⟨.ref C :: args, []⟩)) L hid frs := {
    fr := by
      have e : (A.under (.builtin "type.__call__" ⟨.ref C :: args, []⟩)).frames = A.frames := rfl
      rw [e, K.fr]
    hd := K.hd
    dp := by have := K.dp; show A.depth + 1 + 2 * (lv + 1) ≤ 900; omega
    un := by
      have := K.un
      have e : (A.under (.builtin "type.__call__" ⟨.ref C :: args, []⟩)).units = A.units + 1 := rfl
      rw [e]; omega
    ok := K.ok }
  have X3 : (kk.heap_1 b.w.params).In (hp.push emptyDict |>.push (instObj C hp.objs.size)) := G.K.keeps S3.bs
  refine codeAny_call_def (fd := fnOf name qual params body scope dV kV doc pm an cdv ct) (body := body) (by have := K'.dp; show (A.under _).depth < 1000; omega) (X3 _ _ ho) rfl (T.nolimit.keeps S3.bs) (codeRec_of X3 hcd) rfl (hbind (hp.objs.size + 1) _ X3) hcell (hloc _) (fun h₁ hns hk₁ => ?_) hco hgen hk
  · refine wpAny_mono (h (hp.objs.size + 1) hp.objs.size _ _ _ _ _ rfl ⟨rfl, rfl, rfl, rfl, rfl⟩ (K'.enter S3 hk) (S3.enter (by rwa [List.reverse_reverse] at hns) hk₁) ⟨fun S' => St.leave S3 S', fun F => Fly.leave S3 F⟩) (fun fl s'' q => ?_) fun _ _ q => q
    exact q
end
section
variable {b : Bs} {lv : Nat} {A : Around} {E : Value → Shared → Prop} {s : Shared} {hid : Kw} {L : Addr} {m m' : Str → Option Value} {κ₀ κ : Kw} {own own' : List (Addr × AObj)} {frs : List Env} {env : Env}

theorem R_neg {i : Int} {t : Tok} {Q : Value → Shared → Prop} (S : St b hid L m κ₀ κ own s) (h : ∀ s' t, St b hid L m κ₀ κ own s' → Q (.int (-i) t) s') : wpAny (model b.prog b.w) A (unaryOp .USub (.int i t)) Q E s := PySem.P.neg_int (h _ _ (S.toks _))
theorem R_len {l : Addr} {vs : List Value} {Q : Value → Shared → Prop} (S : St b hid L m κ₀ κ own s) (k : Has κ own l (.list vs)) (hz : vs.length ≤ 1000000) (h : ∀ s' t, St b hid L m κ₀ κ own s' → Q (.int vs.length t) s') :
    wpAny (model b.prog b.w) A (call (.builtin "len") [.ref l]) Q E s := by
  obtain ⟨n, x⟩ := (S.has k).list
  exact len_list (isL_list x) (by simp; omega) (by simpa using h _ _ (S.toks _))
theorem last_get (vs : List Value) (v : Value) : (vs ++ [v]).toArray[((-1 : Int) + (vs ++ [v]).toArray.size).toNat]? = some v := by
  have : ((-1 : Int) + (vs ++ [v]).toArray.size).toNat = vs.length := by simp; omega
  rw [this]; simp
/-- the last item, by -1 -/
theorem R_last {value slice : PySem.Expr} {l : Addr} {vs : List Value} {u : Tok} {v : Value} {Q : Value → Shared → Prop} (S : St b hid L m κ₀ κ own s) (k : Has κ own l (.list (vs ++ [v])))
    (hs : subscripted slice false (.ref l) (.int (-1) u) = operate [.ref l, .int (-1) u] (getItem (.ref l) (.int (-1) u))) (h : Q v s) :
    wpAny (model b.prog b.w) A (subscriptTail value slice (.ref l) (.int (-1) u)) Q E s := by
  obtain ⟨n, x⟩ := (S.has k).list
  exact tail_any (isL_list x).typeIs slot_list_getitem.lookup (wpAny_getItem_list_neg (isL_list x) (by omega) (by simp; omega) (by omega) (last_get vs v) h) hs
theorem Knows.tup {h : Heap} {a : Addr} {vs : List Value} (k : Knows b h a (.tup vs)) : ∃ n, h.get? a = some { cls := .type "tuple", data := .seq vs.toArray n } := by
  obtain ⟨o, e, n, rfl⟩ := k; exact ⟨n, e⟩
theorem R_tupItem {value slice : PySem.Expr} {l : Addr} {vs : List Value} {i : Int} {u : Tok} {v : Value} {Q : Value → Shared → Prop} (S : St b hid L m κ₀ κ own s) (k : Has κ own l (.tup vs))
    (h0 : 0 ≤ i) (h1 : i < 2 ^ 63) (hx : vs[i.toNat]? = some v) (hs : subscripted slice false (.ref l) (.int i u) = operate [.ref l, .int i u] (getItem (.ref l) (.int i u))) (h : Q v s) :
    wpAny (model b.prog b.w) A (subscriptTail value slice (.ref l) (.int i u)) Q E s := by
  obtain ⟨n, x⟩ := (S.has k).tup
  have hlt : i.toNat < vs.length := by
    rcases Nat.lt_or_ge i.toNat vs.length with q | q
    · exact q
    · rw [List.getElem?_eq_none q] at hx; cases hx
  exact item_tupleT (t := l) (l := vs) ⟨_, x, rfl, n, rfl⟩ (by omega) h1 (j := i.toNat) (by simp [seqIndex?]; omega) (by simpa using hx) h hs

/- is -/
theorem R_is {x y : Value} {Q : Value → Shared → Prop} (hp : plainIs x y = true) (h : Q (.bool (x == y)) s) : wpAny (model b.prog b.w) A (compareOp .Is x y) Q E s := wpAny_is_plain hp h
theorem R_isNot {x y : Value} {Q : Value → Shared → Prop} (hp : plainIs x y = true) (h : Q (.bool (!(x == y))) s) : wpAny (model b.prog b.w) A (compareOp .IsNot x y) Q E s := wpAny_isNot_plain hp h
/- texts -/
theorem R_eqstr {x y : Str} {t u : Tok} {Q : Value → Shared → Prop} (h : Q (.bool (x == y)) s) : wpAny (model b.prog b.w) A (compareOp .Eq (.str x t) (.str y u)) Q E s := PySem.P.eq_str (by rwa [PySem.SeqAt.str_beq])
theorem R_nestr {x y : Str} {t u : Tok} {Q : Value → Shared → Prop} (h : Q (.bool (x != y)) s) : wpAny (model b.prog b.w) A (compareOp .NotEq (.str x t) (.str y u)) Q E s := PySem.P.ne_str (by
  have : (x.cps.toList != y.cps.toList) = (x != y) := by unfold bne; rw [PySem.SeqAt.str_beq]
  rwa [this])
theorem R_strint {i : Int} {t : Tok} {Q : Value → Shared → Prop} (S : St b hid L m κ₀ κ own s) (hi : i.natAbs < 2 ^ 64) (h : ∀ s' t, St b hid L m κ₀ κ own s' → Q (.str (toString i) t) s') : wpAny (model b.prog b.w) A (call (.type "str") [.int i t]) Q E s :=
  PySem.P.str_of_int (by
    rcases Nat.eq_zero_or_pos i.natAbs with q | q
    · rw [q]; decide
    · exact Nat.lt_trans ((Nat.log2_lt (by omega)).mpr hi) (by decide)) (h _ _ (S.toks _))
theorem R_addstr {x y : Str} {t u : Tok} {Q : Value → Shared → Prop} (S : St b hid L m κ₀ κ own s) (hx : (x.length == 0) = false) (hy : (y.length == 0) = false) (hz : (x ++ y).length ≤ sizeLine) (h : ∀ s' t, St b hid L m κ₀ κ own s' → Q (.str (x ++ y) t) s') :
    wpAny (model b.prog b.w) A (binaryOp .Add (.str x t) (.str y u)) Q E s := by
  refine PySem.P.add_str ?_
  rw [hx, hy]
  exact ⟨hz, h _ _ (S.toks _)⟩
/- lists -/
theorem R_addlist {l c : Addr} {vs us : List Value} {Q : Value → Shared → Prop} (S : St b hid L m κ₀ κ own s) (k : Has κ own l (.list vs)) (k' : Has κ own c (.list us)) (hz : vs.length + us.length ≤ sizeLine)
    (h : ∀ s' a, St b hid L m κ₀ κ ((a, .list (vs ++ us)) :: own) s' → Q (.ref a) s') : wpAny (model b.prog b.w) A (binaryOp .Add (.ref l) (.ref c)) Q E s := by
  obtain ⟨n, x⟩ := (S.has k).list
  obtain ⟨n', x'⟩ := (S.has k').list
  refine PySem.P.add_list x x' (h _ _ (S.alloc (Nat.le_refl _) (fun _ _ e => Heap.get?_push_of_some _ e) ⟨_, Heap.get?_push_size _ rfl, 0, by simp [W.listOf]⟩ rfl rfl)) (by simpa using hz)
theorem R_eq_nil {l e : Addr} {vs : List Value} {Q : Value → Shared → Prop} (S : St b hid L m κ₀ κ own s) (C : Cx b lv A L hid frs) (k : Has κ own l (.list vs)) (k' : Has κ own e (.list [])) (h : Q (.bool (vs.isEmpty)) s) :
    wpAny (model b.prog b.w) A (compareOp .Eq (.ref l) (.ref e)) Q E s := by
  have hu : A.units < cLine := by have := C.un; show A.units < 9900; omega
  obtain ⟨n, x⟩ := (S.has k).list
  obtain ⟨n', x'⟩ := (S.has k').list
  cases vs with
  | nil => exact (PySem.SeqAt.RcAt.lists (e := fun _ => true) (isL_list x) (isL_list x') rfl hu (fun j h1 => absurd h1 (by simp))) _ _ _ _ (by simpa using h)
  | cons v vs => exact (PySem.SeqAt.RcAt.lists_lengths (isL_list x) (isL_list x') (by simp) hu) _ _ _ _ h
theorem R_eq_ints {l e : Addr} {vs us : List Value} {ns ms : List Int} {Q : Value → Shared → Prop} (S : St b hid L m κ₀ κ own s) (C : Cx b lv A L hid frs) (k : Has κ own l (.list vs)) (k' : Has κ own e (.list us)) (hi : IntsAre vs ns) (hi' : IntsAre us ms) (h : Q (.bool (decide (ns = ms))) s) :
    wpAny (model b.prog b.w) A (compareOp .Eq (.ref l) (.ref e)) Q E s := by
  obtain ⟨n, x⟩ := (S.has k).list
  obtain ⟨n', x'⟩ := (S.has k').list
  exact eq_intsK (isL_list x) hi (isL_list x') hi' (by have := C.un; show A.units + 64 < 9900; omega) h

/- slices -/
noncomputable def SliceK (b : Bs) (Q : Value → Shared → Prop) (o vl vu : Value) (s₃ : Shared) : Prop := ∃ l items lo hi, o = .ref l ∧ s₃.heap.IsList l items ∧ items.size ≤ sizeLine ∧ IsPart vl lo ∧ IsPart vu hi ∧
        Q (.ref (s₃.heap.objs.size + 1)) { s₃ with heap := (s₃.heap.push { cls := .type "slice", data := .fields #[vl, vu, .none] }).push { cls := .type "list", data := .seq (slicePick items lo hi none) } }
theorem R_slice {value : Expr} {lower upper : Option Expr} {p pos : Pos} {Q : Value → Shared → Prop}
    (h : wpAny (model b.prog b.w) A (eval value env) (fun o s₁ => wpAny (model b.prog b.w) A (evalPart lower env) (fun vl s₂ => wpAny (model b.prog b.w) A (evalPart upper env) (fun vu s₃ => SliceK b Q o vl vu s₃) E s₂) E s₁) E s) :
    wpAny (model b.prog b.w) A (eval (.Subscript value (.Slice lower upper none p) pos) env) Q E s := by
  have h' : wpAny (model b.prog b.w) A (eval value env) (fun o s₁ => wpAny (model b.prog b.w) A (eval (.Slice lower upper none p) env) (fun i s₂ => s₂.TypeIs o "list" ∧ wpAny (model b.prog b.w) A (getItem o i) Q E s₂) E s₁) E s := by
    refine wpAny_mono h (fun o s₁ h₁ => wpAny_Slice (wpAny_mono h₁ (fun vl s₂ h₂ => wpAny_mono h₂ (fun vu s₃ h₃ => ?_) fun _ _ e => e) fun _ _ e => e)) fun _ _ e => e
    obtain ⟨l, items, lo, hi, rfl, hl, hsz, pl, pu, hQ⟩ := h₃
    rw [evalPart_none]
    refine wpAny_pure ⟨(hl.push _).typeIs, wpAny_getItem_list_slice (hl.push _) (Heap.IsSliceOf.new ..) pl pu .none (by simp) ?_ hsz⟩
    rw [Heap.size_push]
    exact hQ
  rw [eval_Subscript]
  refine wpAny_bind (wpAny_mono h' (fun o s₁ h₁ => wpAny_bind (wpAny_holding (wpAny_mono h₁ (fun i s₂ h₂ => wpAny_bind (wpAny_standAt ?_)) fun _ _ x => x))) fun _ _ x => x)
  have fin : wpAny (model b.prog b.w) A (operate [i, o] (getItem o i)) (fun r s₃ => wpAny (model b.prog b.w) A (letTemporaryGo value o r >>= fun _ => pure r) Q E s₃) E s₂ :=
    wpAny_operating (wpAny_mono h₂.2 (fun r s₃ h₃ => wpAny_bind (wpAny_letTemporaryGo (wpAny_pure h₃))) fun _ _ x => x)
  first
    | (refine wpAny_bind ?_
       rw [getitemInPython_of_ne h₂.1.not_modules]
       refine wpAny_bind (wpAny_specialOf h₂.1 list_getitem_lookup ?_)
       first
         | exact wpAny_pure (wpAny_bind fin)
         | exact wpAny_bind (wpAny_pure (wpAny_bind fin))
         | exact wpAny_bind fin)
    | (refine wpAny_bind (wpAny_specialOf h₂.1 list_getitem_lookup ?_)
       first
         | exact wpAny_bind (wpAny_pure (wpAny_bind fin))
         | exact wpAny_bind fin)
theorem St.sliced (S : St b hid L m κ₀ κ own s) {vl vu : Value} {its : Array Value} {us : List Value} (e : its = us.toArray) :
    St b hid L m κ₀ κ ((s.heap.objs.size + 1, .list us) :: own) { s with heap := (s.heap.push { cls := .type "slice", data := .fields #[vl, vu, .none] }).push { cls := .type "list", data := .seq its } } := by
  subst e
  have S1 := S.keeps (s' := { s with heap := s.heap.push { cls := .type "slice", data := .fields #[vl, vu, .none] } }) (fun _ _ e => Heap.get?_push_of_some _ e) rfl rfl
  refine S1.alloc (a := s.heap.objs.size + 1) (A := .list us) (by show (s.heap.push _).objs.size ≤ _; rw [Heap.size_push]; exact Nat.le_refl _) (fun _ _ e => Heap.get?_push_of_some _ e) ⟨_, ?_, 0, rfl⟩ rfl rfl
  have := Heap.get?_push_size (s.heap.push { cls := .type "slice", data := .fields #[vl, vu, .none] }) (o := { cls := .type "list", data := .seq us.toArray }) rfl
  rwa [Heap.size_push] at this
theorem R_sliceFrom {l : Addr} {vs : List Value} {i : Int} {t : Tok} {Q : Value → Shared → Prop} (S : St b hid L m κ₀ κ own s) (k : Has κ own l (.list vs)) (hz : vs.length ≤ sizeLine) (h0 : 0 ≤ i)
    (h : ∀ s' a, St b hid L m κ₀ κ ((a, .list (vs.drop i.toNat)) :: own) s' → Q (.ref a) s') : SliceK b Q (.ref l) (.int i t) .none s := by
  obtain ⟨n, x⟩ := (S.has k).list
  obtain ⟨j, rfl⟩ := Int.eq_ofNat_of_zero_le h0
  exact ⟨l, _, some (j : Int), none, rfl, isL_list x, by simpa using hz, .int _ _, .none, h _ _ (S.sliced (by rw [slicePick_from']; simp))⟩
theorem R_sliceUpto {l : Addr} {vs : List Value} {i : Int} {t : Tok} {Q : Value → Shared → Prop} (S : St b hid L m κ₀ κ own s) (k : Has κ own l (.list vs)) (hz : vs.length ≤ sizeLine) (h0 : 0 ≤ i)
    (h : ∀ s' a, St b hid L m κ₀ κ ((a, .list (vs.take i.toNat)) :: own) s' → Q (.ref a) s') : SliceK b Q (.ref l) .none (.int i t) s := by
  obtain ⟨n, x⟩ := (S.has k).list
  obtain ⟨j, rfl⟩ := Int.eq_ofNat_of_zero_le h0
  exact ⟨l, _, none, some (j : Int), rfl, isL_list x, by simpa using hz, .none, .int _ _, h _ _ (S.sliced (by rw [slicePick_upto']; simp))⟩
theorem R_sliceInit {l : Addr} {vs : List Value} {t : Tok} {Q : Value → Shared → Prop} (S : St b hid L m κ₀ κ own s) (k : Has κ own l (.list vs)) (hz : vs.length ≤ sizeLine)
    (h : ∀ s' a, St b hid L m κ₀ κ ((a, .list vs.dropLast) :: own) s' → Q (.ref a) s') : SliceK b Q (.ref l) .none (.int (-1) t) s := by
  obtain ⟨n, x⟩ := (S.has k).list
  exact ⟨l, _, none, some (-1), rfl, isL_list x, by simpa using hz, .none, .int _ _, h _ _ (S.sliced (by rw [show (-1 : Int) = -((1 : Nat) : Int) from rfl, slicePick_butLast _ 1 (Nat.le_refl _)]; simp [List.dropLast_eq_take]))⟩

/- dicts -/
theorem St.tabI (S : St b hid L m κ₀ κ own s) {d : Addr} {D : List (PyData × PyData)} (k : Has κ own d (.tabI D)) : TabAt (intKind b.prog b.w) PyData.int s.heap d D := by
  have hs : d ≠ sysModules := k.elim (fun h e => Nat.lt_irrefl _ (Nat.lt_of_lt_of_le S.lo (e ▸ S.og _ h))) (S.ka _ _)
  obtain ⟨o, e, kvs, hd, hf⟩ := S.has k
  exact TabAt.ofObj (by simpa using hs) e hd hf
theorem St.tabS (S : St b hid L m κ₀ κ own s) {d : Addr} {D : List (PyData × PyData)} (k : Has κ own d (.tabS D)) : TabAt (strKind b.prog b.w) PyData.str s.heap d D := by
  have hs : d ≠ sysModules := k.elim (fun h e => Nat.lt_irrefl _ (Nat.lt_of_lt_of_le S.lo (e ▸ S.og _ h))) (S.ka _ _)
  obtain ⟨o, e, kvs, hd, hf⟩ := S.has k
  exact TabAt.ofObj (by simpa using hs) e hd hf
theorem R_getI {d : Addr} {D : List (PyData × PyData)} {pl : Sem Bool} {Q : Value × List Value → Shared → Prop} (S : St b hid L m κ₀ κ own s) (k : Has κ own d (.tabI D)) (h : Q (.builtin "dict.get", [.ref d]) s) :
    wpAny (model b.prog b.w) A (getMethod (.ref d) "get" pl) Q E s := getMethod_intTab_get (S.tabI k) h
theorem R_getS {d : Addr} {D : List (PyData × PyData)} {pl : Sem Bool} {Q : Value × List Value → Shared → Prop} (S : St b hid L m κ₀ κ own s) (k : Has κ own d (.tabS D)) (h : Q (.builtin "dict.get", [.ref d]) s) :
    wpAny (model b.prog b.w) A (getMethod (.ref d) "get" pl) Q E s := getMethod_strTab_get (S.tabS k) h
theorem R_callgetI {d : Addr} {D : List (PyData × PyData)} {i : Int} {t : Tok} {dflt : Value} {dd : PyData} {Q : Value → Shared → Prop} (S : St b hid L m κ₀ κ own s) (k : Has κ own d (.tabI D)) (hx : PyProof.V.Flat dflt dd)
    (h : ∀ s' v, St b hid L m κ₀ κ own s' → PyProof.V.Flat v ((PySem.Spec.lookup (.int i) D).getD dd) → Q v s') : wpAny (model b.prog b.w) A (call (.builtin "dict.get") [.ref d, .int i t, dflt]) Q E s :=
  call_get2_intTab (S.tabI k) hx fun v hv => h _ v (S.toks _) hv
theorem R_callgetS {d : Addr} {D : List (PyData × PyData)} {x : Str} {t : Tok} {dflt : Value} {dd : PyData} {Q : Value → Shared → Prop} (S : St b hid L m κ₀ κ own s) (k : Has κ own d (.tabS D)) (hx : PyProof.V.Flat dflt dd)
    (h : ∀ s' v, St b hid L m κ₀ κ own s' → PyProof.V.Flat v ((PySem.Spec.lookup (.str x) D).getD dd) → Q v s') : wpAny (model b.prog b.w) A (call (.builtin "dict.get") [.ref d, .str x t, dflt]) Q E s :=
  call_get2_strTab (S.tabS k) hx fun v hv => h _ v (S.toks _) hv
theorem R_inI {d : Addr} {D : List (PyData × PyData)} {i : Int} {t : Tok} {Q : Value → Shared → Prop} (S : St b hid L m κ₀ κ own s) (k : Has κ own d (.tabI D)) (h : ∀ s', St b hid L m κ₀ κ own s' → Q (.bool (PySem.Spec.lookup (.int i) D).isSome) s') :
    wpAny (model b.prog b.w) A (compareOp .In (.int i t) (.ref d)) Q E s := in_intTab (S.tabI k) (h _ (S.toks _))
theorem R_notinI {d : Addr} {D : List (PyData × PyData)} {i : Int} {t : Tok} {Q : Value → Shared → Prop} (S : St b hid L m κ₀ κ own s) (k : Has κ own d (.tabI D)) (h : ∀ s', St b hid L m κ₀ κ own s' → Q (.bool (!(PySem.Spec.lookup (.int i) D).isSome)) s') :
    wpAny (model b.prog b.w) A (compareOp .NotIn (.int i t) (.ref d)) Q E s := notin_intTab (S.tabI k) (h _ (S.toks _))
theorem R_itemI {value slice : PySem.Expr} {d : Addr} {D : List (PyData × PyData)} {i : Int} {t : Tok} {dv : PyData} {Q : Value → Shared → Prop} (S : St b hid L m κ₀ κ own s) (k : Has κ own d (.tabI D)) (hl : PySem.Spec.lookup (.int i) D = some dv)
    (hs : subscripted slice false (.ref d) (.int i t) = operate [.ref d, .int i t] (getItem (.ref d) (.int i t)))
    (h : ∀ s' v, St b hid L m κ₀ κ own s' → PyProof.V.Flat v dv → Q v s') : wpAny (model b.prog b.w) A (subscriptTail value slice (.ref d) (.int i t)) Q E s :=
  tab_tail (S.tabI k) (getItem_tab PyProof.V.same_int (intKind_is _ _ _ _) (S.tabI k) hl fun v hv => h _ v (S.toks _) hv) hs
theorem R_setI {d : Addr} {D D' : List (PyData × PyData)} {i : Int} {t : Tok} {v : Value} {dv : PyData} {Q : Unit → Shared → Prop} (S : St b hid L m κ₀ κ own s) (p : Put d (.tabI D) (.tabI D') own own') (hv : PyProof.V.Flat v dv) (hz : D.length ≤ sizeLine)
    (e : PyProof.V.putD (.int i) dv D = D') (h : ∀ s', St b hid L m κ₀ κ own' s' → Q () s') : wpAny (model b.prog b.w) A (setItem (.ref d) (.int i t) v) Q E s := by
  subst e
  obtain ⟨o, ho, kvs, hd, hf⟩ := S.ow _ p.mem
  have hdL : d ≠ L := fun q => S.oL (q ▸ List.mem_map_of_mem p.mem)
  have N := S.newsN hdL (S.ob p.mem) ho
  exact setItem_madeIn (rest := []) (hsz := hz) PyProof.V.same_int (intKind_is _ _ _ _) hv S.fr N (fun q hq => (mem_others.mp (show (q.1, q.2) ∈ _ from hq)).2.1) (fun _ hq => nomatch hq) hd hf
    fun h' o' F' N' hd' hf' => h _ (S.updN (t := s.toks + 1) p F' N' ⟨_, hd', hf'⟩)

theorem R_expr {sc : Scope} {cl : List (Str × Addr)} {e : Expr} {pos : Pos} {Q : Flow → Shared → Prop} (hE : EnvIs env sc L cl) (hk : sc.kind = .function) (hs : swapsWith e none pos.line env = pure false)
    (h : wpAny (model b.prog b.w) A (eval e env) (fun _ => Q .next) E s) : wpAny (model b.prog b.w) A (exec (.Expr e pos) env) Q E s :=
  wpAny_Expr_any h (by unfold interactive; rw [hE.sc, hk]; rfl) hs
theorem R_typemeth {T : String} {name : Str} {v : Value} {pl : Sem Bool} {Q : Value × List Value → Shared → Prop} (G : Gd b) (S : St b hid L m κ₀ κ own s) (ht : typeOf (.type T) = pure (.type "type")) (hs : Manifest.isStub T = false)
    (e : findCls (kk.heap_1 b.w.params) (.type T) (.type "type") name = some (.val v)) (hh : handedIn v = true) (h : ∀ s', St b hid L m κ₀ κ own s' → Q (v, []) s') :
    wpAny (model b.prog b.w) A (getMethod (.type T) name pl) Q E s := method_type S.fr G.K ht hs e hh (h _ (S.toks _))
end
/- the machine's classes: Core and Parser -/
noncomputable def meths : List Str := ["begin", "outcome", "parse", "pull", "needs", "look", "lone_rule", "terminal_of", "note", "place", "finish", "step", "is_established", "shift", "reduce", "act", "go_on", "expected", "tell_fault", "fail", "recover", "error_goal"]
noncomputable def NoMeth (l : List (Str × Value)) : Prop := (∀ n, meths.contains n = true → l.lookup n = none) ∧ l.length ≤ 20
theorem NoMeth.len {x : List (Str × Value)} (h : NoMeth x) : x.length + 12 ≤ 500 := by have := h.2; omega
noncomputable def IsFn (f : Addr) : Prop := ∀ P, isFn (kk.heap_1 P) (.ref f) = true ∧ keepIn (kk.heap_1 P) (.ref f) = true
theorem IsFn.look {f : Addr} (h : IsFn f) {P : Params} : isFn (kk.heap_1 P) (.ref f) = true := (h P).1
theorem IsFn.keep {f : Addr} (h : IsFn f) {P : Params} : keepIn (kk.heap_1 P) (.ref f) = true := (h P).2
structure Virt where
  cls : Addr
  ext : List (Str × Value) → Prop
  ext2 : List (Str × Value) → Prop
  weak : Bool
  begin : Addr
  look : Addr
  isest : Addr
  shift : Addr
  act : Addr
  goon : Addr
  expected : Addr
  fail : Addr
noncomputable def coreTbl (v : Virt) : List (Str × Addr) := [("begin", v.begin), ("outcome", 417), ("parse", 424), ("pull", 431), ("needs", 445), ("look", v.look), ("lone_rule", 459), ("terminal_of", 466), ("note", 473), ("place", 480), ("finish", 487), ("step", 494),
  ("is_established", v.isest), ("shift", v.shift), ("reduce", 515), ("act", v.act), ("go_on", v.goon), ("expected", v.expected), ("tell_fault", 541), ("fail", v.fail)]
structure CoreC (C : Addr) (v : Virt) : Prop where
  look : ∀ {n f}, (coreTbl v).lookup n = some f → ∀ P, plainGet (kk.heap_1 P) C n = true ∧ findIn (kk.heap_1 P) (.ref C) n = some (some (.ref f))
theorem NoMeth.look {x : List (Str × Value)} (h : NoMeth x) {n : Str} {l : List (Str × Value)} (e : l.lookup n = x.lookup n) (hn : meths.contains n = true) : l.lookup n = none := e.trans (h.1 n hn)
theorem CoreC.find {C : Addr} {v : Virt} (h : CoreC C v) {n : Str} {f : Addr} {P : Params} (e : (coreTbl v).lookup n = some f) : findIn (kk.heap_1 P) (.ref C) n = some (some (.ref f)) := (h.look e P).2
theorem CoreC.plain {C : Addr} {v : Virt} (h : CoreC C v) {n : Str} {f : Addr} {P : Params} (e : (coreTbl v).lookup n = some f) : plainGet (kk.heap_1 P) C n = true := (h.look e P).1
structure VirtFn (v : Virt) : Prop where
  begin : IsFn v.begin
  look : IsFn v.look
  isest : IsFn v.isest
  shift : IsFn v.shift
  act : IsFn v.act
  goon : IsFn v.goon
  expected : IsFn v.expected
  fail : IsFn v.fail
inductive Sel {α : Type} (y : α) : List α → List α → Prop
  | head {l} : Sel y (y :: l) l
  | tail {x l l'} : Sel y l l' → Sel y (x :: l) (x :: l')
theorem Sel.perm {α : Type} {y : α} {l l' : List α} (h : Sel y l l') : l.Perm (y :: l') := by
  induction h with
  | head => exact .refl _
  | tail _ ih => exact (ih.cons _).trans (.swap _ _ _)
theorem Sel.go {α : Type} {y : α} {l l' l₂ : List α} (h : Sel y l l') (p : l'.Perm l₂) : l.Perm (y :: l₂) := h.perm.trans (p.cons _)
section
variable {b : Bs} {lv : Nat} {A : Around} {E : Value → Shared → Prop} {s : Shared} {hid : Kw} {L : Addr} {m m' : Str → Option Value} {κ₀ κ : Kw} {own own' : List (Addr × AObj)} {frs : List Env} {env : Env}

/-- an object that no fact speaks of is turned -/
theorem St.other {C : Addr} {h' : Heap} {t : Nat} (S : St b hid L m κ₀ κ own s) (hL : L ≠ C) (ho : C ∉ own.map (·.1)) (hk : ∀ A, ¬ κ C A) (hh : ∀ A, ¬ hid C A) (hb : b.base.get? C = none) (hs : Heap.ExtBut C s.heap h') :
    St b hid L m κ₀ κ own { s with heap := h', toks := t } := by
  exact { S with
    ns := S.ns.at fun o e => hs _ o hL e
    bs := fun a o e => hs _ _ (fun q => by rw [q, hb] at e; cases e) (S.bs a o e)
    ow := fun p hp => (S.ow p hp).keep fun o => hs _ o fun q => ho (q ▸ List.mem_map_of_mem hp)
    kn := fun a A h => (S.kn a A h).keep fun o => hs _ o fun q => hk A (q ▸ h)
    hi := fun a A h => (S.hi a A h).keep fun o => hs _ o fun q => hh A (q ▸ h) }
/-- the first own object is let go, turned or not -/
theorem St.lose {a : Addr} {X : AObj} {h' : Heap} {t : Nat} (S : St b hid L m κ₀ κ ((a, X) :: own) s) (hs : Heap.ExtBut a s.heap h') : St b hid L m κ₀ κ own { s with heap := h', toks := t } := by
  have D := S.drop (List.sublist_cons_self _ _)
  have nd := List.nodup_cons.mp S.nd
  exact D.other (fun e => S.oL (e ▸ List.mem_cons_self)) nd.1 (fun A h => S.ok a A h List.mem_cons_self) (fun A h => S.oh a A h List.mem_cons_self) (S.ob (p := (a, X)) List.mem_cons_self) hs

structure Iter (b : Bs) (Src : Kw → List (Addr × AObj) → Prop) (ob : Nat → AObj) (n : Nat) (P : Nat → Value → Prop) : Prop where
  item : ∀ {A : Around} {E : Value → Shared → Prop} {s : Shared} {hid : Kw} {L : Addr} {m : Str → Option Value} {κ₀ κ : Kw} {own : List (Addr × AObj)} {it : Addr} {i : Nat} {Q : Option Value → Shared → Prop}, i < n →
    St b hid L m κ₀ κ ((it, ob i) :: own) s → Src κ own → (∀ s' v, P i v → St b hid L m κ₀ κ ((it, ob (i + 1)) :: own) s' → Q (some v) s') → wpAny (model b.prog b.w) A (pyNext (.ref it)) Q E s
  done : ∀ {A : Around} {E : Value → Shared → Prop} {s : Shared} {hid : Kw} {L : Addr} {m : Str → Option Value} {κ₀ κ : Kw} {own : List (Addr × AObj)} {it : Addr} {Q : Option Value → Shared → Prop}, A.handled = none →
    St b hid L m κ₀ κ ((it, ob n) :: own) s → Src κ own → (∀ s', St b hid L m κ₀ κ own s' → Q none s') → wpAny (model b.prog b.w) A (pyNext (.ref it)) Q E s
  tail : ∀ {κ : Kw} {own : List (Addr × AObj)} {p : Addr × AObj}, Src κ own → Src κ (p :: own)
  self : ∀ {A : Around} {E : Value → Shared → Prop} {s : Shared} {hid : Kw} {L : Addr} {m : Str → Option Value} {κ₀ κ : Kw} {own : List (Addr × AObj)} {it : Addr} {Q : Value → Shared → Prop},
    St b hid L m κ₀ κ ((it, ob 0) :: own) s → Q (.ref it) s → wpAny (model b.prog b.w) A (pyIter (.ref it)) Q E s

theorem R_iterList {l : Addr} {vs : List Value} {Q : Value → Shared → Prop} (S : St b hid L m κ₀ κ own s) (k : Has κ own l (.list vs)) (h : ∀ s' it, St b hid L m κ₀ κ ((it, .lit l 0) :: own) s' → Q (.ref it) s') :
    wpAny (model b.prog b.w) A (pyIter (.ref l)) Q E s := by
  obtain ⟨n, x⟩ := (S.has k).list
  exact wpAny_pyIter_list (isL_list x) (h _ _ (S.alloc (Nat.le_refl _) (fun _ _ e => Heap.get?_push_of_some _ e) ⟨_, Heap.get?_push_size _ rfl, rfl, rfl⟩ rfl rfl))
theorem Has.tail {p : Addr × AObj} {a : Addr} {X : AObj} (h : Has κ own a X) : Has κ (p :: own) a X := h.imp (.tail _) id
theorem iterList (b : Bs) (l : Addr) (vs : List Value) : Iter b (fun κ own => Has κ own l (.list vs)) (.lit l) vs.length (fun i v => vs[i]? = some v) where
  item {A E s hid L m κ₀ κ own it i Q} hi S k h := by
    obtain ⟨n, x⟩ := (S.has k.tail).list
    obtain ⟨o, e, hc, hd⟩ := S.ow _ (.head _)
    refine wpAny_pyNext_list_item (x := vs[i]) ⟨o, e, hc, hd⟩ (isL_list x) (by simp [hi]) fun h' hit hs => h _ _ (by simp [hi]) (S.upd (t := s.toks) .head hs ?_)
    obtain ⟨o', e', hc', hd'⟩ := hit
    exact ⟨o', e', hc', hd'⟩
  done {A E s hid L m κ₀ κ own it Q} hh S k h := by
    obtain ⟨n, x⟩ := (S.has k.tail).list
    obtain ⟨o, e, hc, hd⟩ := S.ow _ (.head _)
    exact wpAny_pyNext_list_end hh ⟨o, e, hc, hd⟩ (isL_list x) (by simp) fun h' hs => h _ (S.lose (t := s.toks) hs)
  tail k := k.tail
  self {A E s hid L m κ₀ κ own it Q} S h := by
    obtain ⟨o, e, hc, hd⟩ := S.ow _ (.head _)
    exact wpAny_pyIter_listiter ⟨o, e, hc, hd⟩ h

theorem isTup_tup {h : Heap} {a : Addr} {vs : List Value} {n : Nat} (x : h.get? a = some { cls := .type "tuple", data := .seq vs.toArray n }) : h.IsTuple a vs.toArray := ⟨_, x, rfl, n, rfl⟩
theorem R_iterTup {l : Addr} {vs : List Value} {Q : Value → Shared → Prop} (S : St b hid L m κ₀ κ own s) (k : Has κ own l (.tup vs)) (h : ∀ s' it, St b hid L m κ₀ κ ((it, .tit l 0) :: own) s' → Q (.ref it) s') :
    wpAny (model b.prog b.w) A (pyIter (.ref l)) Q E s := by
  obtain ⟨n, x⟩ := (S.has k).tup
  exact wpAny_pyIter_tuple (isTup_tup x) (h _ _ (S.alloc (Nat.le_refl _) (fun _ _ e => Heap.get?_push_of_some _ e) ⟨_, Heap.get?_push_size _ rfl, rfl, rfl⟩ rfl rfl))
theorem iterTup (b : Bs) (l : Addr) (vs : List Value) : Iter b (fun κ own => Has κ own l (.tup vs)) (.tit l) vs.length (fun i v => vs[i]? = some v) where
  item {A E s hid L m κ₀ κ own it i Q} hi S k h := by
    obtain ⟨n, x⟩ := (S.has k.tail).tup
    obtain ⟨o, e, hc, hd⟩ := S.ow _ (.head _)
    refine wpAny_pyNext_tuple_item (x := vs[i]) ⟨o, e, hc, hd⟩ (isTup_tup x) (by simp [hi]) fun h' hit hs => h _ _ (by simp [hi]) (S.upd (t := s.toks) .head hs ?_)
    obtain ⟨o', e', hc', hd'⟩ := hit
    exact ⟨o', e', hc', hd'⟩
  done {A E s hid L m κ₀ κ own it Q} hh S k h := by
    obtain ⟨n, x⟩ := (S.has k.tail).tup
    obtain ⟨o, e, hc, hd⟩ := S.ow _ (.head _)
    exact wpAny_pyNext_tuple_end hh ⟨o, e, hc, hd⟩ (isTup_tup x) (by simp) fun h' hs => h _ (S.lose (t := s.toks) hs)
  tail k := k.tail
  self {A E s hid L m κ₀ κ own it Q} S h := by
    obtain ⟨o, e, hc, hd⟩ := S.ow _ (.head _)
    have hit : s.heap.IsTupleIter it l 0 := ⟨o, e, hc, hd⟩
    refine wpAny_pyIter_slot hit.typeIs F.slot_tuple_iterator_iter (wpAny_call_entry F.slot_tuple_iterator_iter hit.typeIs F.entry_tuple_iterator_iter ?_ (F.args_tuple_iterator_iter_1 _))
    show wpAny _ _ (ret (.ref it)) _ _ s
    exact wpAny_pure ⟨_, rfl, "tuple_iterator", _, hit.typeIs, F.slot_tuple_iterator_next.lookup, h⟩

theorem R_range1 {n : Int} {t : Tok} {Q : Value → Shared → Prop} (S : St b hid L m κ₀ κ own s) (h : ∀ s' r t u v, St b hid L m κ₀ κ ((r, .obj { cls := .type "range", data := .fields #[.int 0 t, .int n u, .int 1 v] }) :: own) s' → Q (.ref r) s') :
    wpAny (model b.prog b.w) A (call (.type "range") [.int n t]) Q E s :=
  call_range_1 (h _ _ _ _ _ (S.alloc (Nat.le_refl _) (fun _ _ e => Heap.get?_push_of_some _ e) ⟨_, Heap.get?_push_size _ rfl, rfl⟩ rfl rfl))
theorem R_iterRange {r : Addr} (n : Nat) {t u v : Tok} {Q : Value → Shared → Prop} (S : St b hid L m κ₀ κ own s) (k : Has κ own r (.obj { cls := .type "range", data := .fields #[.int 0 t, .int n u, .int 1 v] })) (h1 : n < 2 ^ 62)
    (h : ∀ s' it, St b hid L m κ₀ κ ((it, .rit ((0 : Nat) : Int) ((n : Int) - ((0 : Nat) : Int))) :: own) s' → Q (.ref it) s') : wpAny (model b.prog b.w) A (pyIter (.ref r)) Q E s := by
  obtain ⟨o, e, rfl⟩ := S.has k
  refine wpAny_pyIter_range e (small_one (by decide) (by decide) (by omega) (by omega)) ?_
  rw [rangeSize_one]
  have : (if (0 : Int) < n then (n : Int) - 0 else 0) = n := by split <;> omega
  rw [this]
  exact h _ _ (S.alloc (Nat.le_refl _) (fun _ _ e => Heap.get?_push_of_some _ e) ⟨_, Heap.get?_push_size _ rfl, by show _ = _; simp⟩ rfl rfl)
theorem iterRange (b : Bs) (n : Nat) : Iter b (fun _ _ => True) (fun i => .rit i ((n : Int) - i)) n (fun i v => ∃ t, v = .int i t) where
  item {A E s hid L m κ₀ κ own it i Q} hi S k h := by
    obtain ⟨o, e, rfl⟩ := S.ow _ (.head _)
    refine wpAny_pyNext_range_item e (by omega) fun h' hit hs => h _ _ ⟨_, rfl⟩ (S.upd .head hs ⟨_, hit, ?_⟩)
    show _ = _
    have e1 : ((i + 1 : Nat) : Int) = (i : Int) + 1 := by omega
    have e2 : (n : Int) - i - 1 = (n : Int) - ((i + 1 : Nat) : Int) := by omega
    rw [e2, e1]
  done {A E s hid L m κ₀ κ own it Q} hh S k h := by
    obtain ⟨o, e, rfl⟩ := S.ow _ (.head _)
    exact wpAny_pyNext_range_end hh e (by omega) fun h' hs => h _ (S.lose (t := s.toks) hs)
  tail k := k
  self {A E s hid L m κ₀ κ own it Q} S h := by
    obtain ⟨o, e, rfl⟩ := S.ow _ (.head _)
    have hT : s.TypeIs (.ref it) "range_iterator" := ⟨_, e, rfl⟩
    refine wpAny_pyIter_slot hT F.slot_range_iterator_iter (wpAny_call_entry F.slot_range_iterator_iter hT F.entry_range_iterator_iter ?_ (F.args_range_iterator_iter_1 _))
    show wpAny _ _ (ret (.ref it)) _ _ s
    exact wpAny_pure ⟨_, rfl, "range_iterator", _, hT, F.slot_range_iterator_next.lookup, h⟩

noncomputable def ForK (Nx : Shared → Prop) (Q : Flow → Shared → Prop) (fl : Flow) (s : Shared) : Prop := match fl with
  | .next | .cont => Nx s
  | .brk => Q .next s
  | .ret v => Q (.ret v) s
theorem R_forN {Nx : Shared → Prop} {Q : Flow → Shared → Prop} (h : Nx s) : ForK Nx Q .next s := h
theorem R_forR {Nx : Shared → Prop} {Q : Flow → Shared → Prop} {v : Value} (h : Q (.ret v) s) : ForK Nx Q (.ret v) s := h

theorem R_For {Src : Kw → List (Addr × AObj) → Prop} {ob : Nat → AObj} {n : Nat} {P : Nat → Value → Prop} {sc : Scope} {cl : List (Str × Addr)} {x : Str} {px pos : Pos} {iter : Expr} {body : List Stmt} {Q : Flow → Shared → Prop}
    (I : Iter b Src ob n P) (Inv : Nat → (Str → Option Value) → Kw → List (Addr × AObj) → Prop) (C : Cx b lv A L hid frs) (hE : EnvIs env sc L cl) (hk : sc.kind = .function) (hx : sc.names.lookup x = some .local)
    (hs : ∀ v, foldedSetIterable iter env v = pure v)
    (h : wpAny (model b.prog b.w) A (eval iter env) (fun xv s₁ => wpAny (model b.prog b.w) A (pyIter xv) (fun itv s₂ => ∃ it m κ own, itv = .ref it ∧ St b hid L m κ₀ κ ((it, ob 0) :: own) s₂ ∧ Inv 0 m κ own) E s₁) E s)
    (hsrc : ∀ i m κ own, Inv i m κ own → Src κ own)
    (hbody : ∀ i it v m κ own s E' (Nx : Shared → Prop), i < n → P i v → Inv i m κ own → (∀ s' m' κ' own', St b hid L m' κ₀ κ' ((it, ob (i + 1)) :: own') s' → Inv (i + 1) m' κ' own' → Nx s') → St b hid L (nset x v m) κ₀ κ ((it, ob (i + 1)) :: own) s →
      wpAny (model b.prog b.w) A (execs body env) (ForK Nx Q) E' s)
    (done : ∀ m κ own s, Inv n m κ own → St b hid L m κ₀ κ own s → Q .next s) :
    wpAny (model b.prog b.w) A (exec (.For (.Name x px) iter body [] pos) env) Q E s := by
  refine wpAny_For (wpAny_mono h (fun xv s₁ h₁ => wpAny_mono h₁ (fun itv s₂ h₂ => ?_) fun _ _ e => e) fun _ _ e => e) hs
  obtain ⟨it, m, κ, own, rfl, S, hI⟩ := h₂
  refine codeAny_forLoop (fun k s => ∃ i m κ own, k = n + 1 - i ∧ i ≤ n ∧ St b hid L m κ₀ κ ((it, ob i) :: own) s ∧ Inv i m κ own) ?_ (n + 1) ⟨0, m, κ, own, rfl, Nat.zero_le _, S, hI⟩
  rintro _ s ⟨i, m, κ, own, rfl, hi, S, hI⟩
  rcases Nat.lt_or_ge i n with q | q
  · refine I.item q S (hsrc _ _ _ _ hI) fun s' v hv S' => ?_
    refine wpAny_assign_Name (R_store hE S' hk hx fun s'' S'' => ?_)
    refine wpAny_mono (hbody i it v m κ own s'' _ (fun s' => ∃ m' κ' own', St b hid L m' κ₀ κ' ((it, ob (i + 1)) :: own') s' ∧ Inv (i + 1) m' κ' own') q hv hI (fun _ m' κ' own' x y => ⟨m', κ', own', x, y⟩) S'') (fun fl s₃ h₃ => ?_) fun _ _ e => e
    cases fl with
    | next => obtain ⟨m', κ', own', S₃, hI'⟩ := h₃; exact ⟨n + 1 - (i + 1), by omega, i + 1, m', κ', own', rfl, q, S₃, hI'⟩
    | cont => obtain ⟨m', κ', own', S₃, hI'⟩ := h₃; exact ⟨n + 1 - (i + 1), by omega, i + 1, m', κ', own', rfl, q, S₃, hI'⟩
    | brk => exact h₃
    | ret v => exact h₃
  · obtain rfl : i = n := by omega
    exact I.done C.hd S (hsrc _ _ _ _ hI) fun s' S' => wpAny_execs_nil (done _ _ _ _ hI S')

theorem R_While {test : Expr} {body : List Stmt} {pos : Pos} {Q : Flow → Shared → Prop} (Inv : Nat → Shared → Prop) (hE : PassesOwn (model b.prog b.w) A env E) (n : Nat) (h : Inv n s)
    (turn : ∀ n s (Nx : Shared → Prop), Inv n s → (∀ s' k, k < n → Inv k s' → Nx s') → wpAny (model b.prog b.w) A (isTrue test env (eval test env)) (fun c s₂ => if c = true then wpAny (model b.prog b.w) A (execs body env) (ForK Nx Q) E s₂ else Q .next s₂) E s) :
    wpAny (model b.prog b.w) A (exec (.While test body [] pos) env) Q E s := by
  refine wpAny_While (codeAny_whileLoop Inv (fun n s hI => wpAny_passesOwn hE (wpAny_mono (turn n s (fun s' => ∃ k, k < n ∧ Inv k s') hI fun _ k x y => ⟨k, x, y⟩) (fun c s₂ h₂ => ?_) fun _ _ e => e)) n h)
  cases c with
  | false =>
    simp only [Bool.false_eq_true, if_false] at h₂ ⊢
    exact wpAny_execs_nil h₂
  | true =>
    simp only [if_true] at h₂ ⊢
    refine wpAny_passesOwn hE (wpAny_mono h₂ (fun fl s₃ h₃ => ?_) fun _ _ e => e)
    cases fl <;> exact h₃
/- comprehensions -/
noncomputable def relabelS (scope sc : Scope) : Scope :=
  { scope with names := scope.names.map fun (n, k) => if (k == .free && sc.kind == .function && sc.names.lookup n == some .cell) then (n, .cell) else (n, k) }

theorem St.leaveC {C : Addr} {s' : Shared} {h' : Heap} {t : Nat} (S : St b hid L m κ₀ κ own s) {m' : Str → Option Value} {κ' : Kw} (S' : St b (hidIn hid [] L s.heap) C m' κ κ' own' s') (hs : Heap.ExtBut C s'.heap h') :
    St b hid L m κ₀ κ' own' { s' with heap := h', toks := t } := by
  have D : St b hid L m κ₀ κ' ([] ++ own') s' := St.leave (ex := []) S S'
  obtain ⟨oL, es, ep, hoL, _⟩ := id S.ns
  exact D.other (fun e => S'.hL (.frame oL) (.inr (.inr ⟨e ▸ rfl, oL, rfl, e ▸ hoL⟩))) S'.oL S'.kL (fun A h => S'.hL A (.inl h)) (base_none S'.ab) hs

theorem comp_core {Src : Kw → List (Addr × AObj) → Prop} {ob : Nat → AObj} {n : Nat} {P : Nat → Value → Prop} {sc scope : Scope} {cl cl' : List (Str × Addr)} {x : Str} {px pos : Pos} {elt iter : Expr} {ifs : List Expr} {it : Addr} {RR : Value → Addr → Result → Shared → Prop}
    (I : Iter b Src ob n P) (Inv : Nat → List Value → Kw → List (Addr × AObj) → Prop) (C : Cx b lv A L hid frs) (hE : EnvIs env sc L cl)
    (hkind : scope.kind = .function) (hcell : ∀ y ∈ scope.names, y.2 ≠ .cell) (hx : (relabelS scope sc).names.lookup x = some .local)
    (S : St b hid L m κ₀ κ ((it, ob 0) :: own) s) (hI : Inv 0 [] κ own) (hz : n ≤ sizeLine)
    (hlen : ∀ i ys κ own, Inv i ys κ own → ys.length ≤ i) (hsrc : ∀ i ys κ own, Inv i ys κ own → Src κ own)
    (hbody : ∀ i acc v ys (m₁ : Str → Option Value) κ₁ own₁ hid' C' cenv s₁ E' (Nx : Value → Shared → Prop) (Nf : Shared → Prop), i < n → P i v → Inv i ys κ₁ own₁ → (∀ y s₄ m' κ' own', St b hid' C' m' κ κ' ((it, ob (i + 1)) :: (acc, .list ys) :: own') s₄ → Inv (i + 1) (ys ++ [y]) κ' own' → Nx y s₄) → (∀ s₃ m' κ' own', St b hid' C' m' κ κ' ((it, ob (i + 1)) :: (acc, .list ys) :: own') s₃ → Inv (i + 1) ys κ' own' → Nf s₃) → EnvIs cenv (relabelS scope sc) C' cl' → Cx b lv A C' hid' frs →
      St b hid' C' (nset x v m₁) κ κ₁ ((it, ob (i + 1)) :: (acc, .list ys) :: own₁) s₁ →
      wpAny (model b.prog b.w) A (forIn ifs true fun c r => if r = true then do let ok ← isTrue c cenv (eval c cenv); pure (ForInStep.yield ok) else pure (ForInStep.yield r)) (fun ok s₃ =>
        if ok = true then wpAny (model b.prog b.w) A (eval elt cenv) Nx E' s₃ else Nf s₃) E' s₁)
    (done : ∀ acc ys C' m' κ' own' s₁ (S₀ : Shared), Inv n ys κ' own' → St b hid L m κ₀ κ own S₀ → St b (hidIn hid [] L S₀.heap) C' m' κ κ' ((acc, .list ys) :: own') s₁ → RR (.ref acc) C' (.ok .next) s₁) :
    wpAny (model b.prog b.w) A (newList []) (fun acc s₃ => wpAny (model b.prog b.w) A (newFunctionEnv scope env.globals cl' [] env.qual none .none (some env)) (fun cenv s₄ =>
      codeAny (model b.prog b.w) A (.compStart (.ListComp elt [⟨.Name x px, iter, ifs, 0⟩] scope pos) 0 (.ref it) acc { cenv with scope := relabel scope env }) (RR acc cenv.locals) s₄) E s₃) E s := by
  refine R_newList S (by decide) fun s₁ acc S₁ => ?_
  refine wpAny_newFunctionEnv hcell (by intro y hy; simp at hy) (fun h₁ hns hsb => ?_) hkind
  have hkeep : ∀ c o, s₁.heap.get? c = some o → h₁.get? c = some o := fun c o e => hsb.extBut c o (Nat.ne_of_lt (Heap.lt_size e)) (Heap.get?_push_of_some _ e)
  have S₂ := St.enter (ex := []) S₁ (h₁ := h₁) (t := s₁.toks + 0) (by simpa using hns) hkeep
  have C₂ : Cx b lv A s₁.heap.objs.size (hidIn hid [] L s₁.heap) frs := { C with ok := hidden_ok S₁.ns S₁.ab C.ok }
  have S₀ : St b hid L m κ₀ κ own s₁ := S₁.drop ((List.sublist_cons_self _ _).trans (List.sublist_cons_self _ _))
  generalize s₁.heap.objs.size = D at S₂ C₂
  have hE₂ : EnvIs { newEnv scope D env.globals cl' env.qual none .none (some env) 0 with scope := relabel scope env } (relabelS scope sc) D cl' := by
    refine ⟨?_, rfl, hE.gl, hE.bu, rfl⟩
    show relabel scope env = _
    unfold relabel relabelS Env.kindOf
    rw [hE.sc]
  have S₃ : St b (hidIn hid [] L s₁.heap) D (fun y => ([] : List (Str × Value)).reverse.lookup y) κ κ ((it, ob 0) :: (acc, .list []) :: own) { s₁ with heap := h₁, toks := s₁.toks + 0 } :=
    (S₂.perm (List.Perm.swap _ _ _))
  have loop : ∀ s₄ : Shared, s₄ = { s₁ with heap := h₁, toks := s₁.toks + ([] : List (Str × Value)).length } →
      codeAny (model b.prog b.w) A (.compLoop (.ListComp elt [⟨.Name x px, iter, ifs, 0⟩] scope pos) 0 (.ref it) (.ref acc) { newEnv scope D env.globals cl' env.qual none .none (some env) 0 with scope := relabel scope env })
        (RR (.ref acc) D) s₄ := by
    rintro s₄ rfl
    refine codeAny_compLoop_tests (fun k s => ∃ i ys m κ₁ own, k = n + 1 - i ∧ i ≤ n ∧ St b (hidIn hid [] L s₁.heap) D m κ κ₁ ((it, ob i) :: (acc, .list ys) :: own) s ∧ Inv i ys κ₁ own) ?_ (n + 1) ⟨0, [], _, _, _, rfl, Nat.zero_le _, S₃, hI⟩
    rintro _ s ⟨i, ys, m₁, κ₁, own₁, rfl, hi, T, hI⟩
    have src : Src κ₁ ((acc, .list ys) :: own₁) := I.tail (hsrc _ _ _ _ hI)
    rcases Nat.lt_or_ge i n with q | q
    · refine I.item q T src fun s' v hv T' => ?_
      refine wpAny_assign_Name (R_store hE₂ T' hkind hx fun s'' T'' => ?_)
      refine wpAny_mono (hbody i acc v ys m₁ κ₁ own₁ _ _ _ s'' _ (fun y s₄ => ∃ m' κ' own', St b (hidIn hid [] L s₁.heap) D m' κ κ' ((it, ob (i + 1)) :: (acc, .list ys) :: own') s₄ ∧ Inv (i + 1) (ys ++ [y]) κ' own') (fun s₃ => ∃ m' κ' own', St b (hidIn hid [] L s₁.heap) D m' κ κ' ((it, ob (i + 1)) :: (acc, .list ys) :: own') s₃ ∧ Inv (i + 1) ys κ' own') q hv hI (fun _ _ m' κ' own' x y => ⟨m', κ', own', x, y⟩) (fun _ m' κ' own' x y => ⟨m', κ', own', x, y⟩) hE₂ C₂ T'') (fun ok s₅ h₅ => ?_) fun _ _ e => e
      cases ok with
      | false =>
        simp only [Bool.false_eq_true, if_false] at h₅ ⊢
        obtain ⟨m', κ', own', T₅, hI'⟩ := h₅
        exact ⟨n + 1 - (i + 1), by omega, i + 1, ys, m', κ', own', rfl, q, T₅, hI'⟩
      | true =>
        simp only [if_true] at h₅ ⊢
        refine wpAny_mono h₅ (fun y s₆ h₆ => ?_) fun _ _ e => e
        obtain ⟨m', κ', own', T₆, hI'⟩ := h₆
        refine R_append T₆ (.tail .head) (Nat.le_trans (hlen _ _ _ _ hI) (Nat.le_trans hi hz)) fun s₇ T₇ => ?_
        exact ⟨n + 1 - (i + 1), by omega, i + 1, ys ++ [y], m', κ', own', rfl, q, T₇, hI'⟩
    · obtain rfl : i = n := by omega
      exact I.done C₂.hd T src fun s' T' => done acc ys _ _ _ _ _ _ hI S₀ T'
  exact codeAny_compStart_list (loop _ rfl) (I.self S₃ (loop _ rfl))

noncomputable def compScope (scope : Scope) : Bool := (scope.kind == .function) && scope.names.all (fun y => y.2 != .cell) && scope.names.all (fun y => y.2 != .local || scope.names.lookup y.1 == some .local)
theorem compScope_of {scope : Scope} (h : compScope scope = true) : scope.kind = .function ∧ (∀ y ∈ scope.names, y.2 ≠ .cell) ∧ (∀ y ∈ scope.names, y.2 = .local → scope.names.lookup y.1 = some .local) := by
  unfold compScope at h
  simp only [Bool.and_eq_true, beq_iff_eq, List.all_eq_true] at h
  obtain ⟨⟨h1, h2⟩, h3⟩ := h
  refine ⟨h1, fun y hy e => ?_, fun y hy e => ?_⟩
  · have := h2 y hy; rw [e] at this; revert this; decide
  · have := h3 y hy; rw [e] at this; simpa using this

/-- what is left of a comprehension when its source is an iterator -/
inductive CompRest (b : Bs) (lv : Nat) (A : Around) (L : Addr) (hid : Kw) (frs : List Env) (m : Str → Option Value) (κ₀ : Kw) (sc' : Scope) (cl' : List (Str × Addr)) (x : Str) (elt : Expr) (ifs : List Expr) (mm : Addr → Str → Option Value) (F : Addr → Shared → Prop) (itv : Value) (s : Shared) : Prop
  | mk (Src : Kw → List (Addr × AObj) → Prop) (ob : Nat → AObj) (n : Nat) (P : Nat → Value → Prop) (Inv : Nat → List Value → Kw → List (Addr × AObj) → Prop) (it : Addr) (κ : Kw) (own : List (Addr × AObj))
    (I : Iter b Src ob n P) (e : itv = .ref it) (S : St b hid L m κ₀ κ ((it, ob 0) :: own) s) (hI : Inv 0 [] κ own) (hz : n ≤ sizeLine) (hlen : ∀ i ys κ own, Inv i ys κ own → ys.length ≤ i) (hsrc : ∀ i ys κ own, Inv i ys κ own → Src κ own)
    (hbody : ∀ i acc v ys (m₁ : Str → Option Value) κ₁ own₁ hid' C' cenv s₁ E' (Nx : Value → Shared → Prop) (Nf : Shared → Prop), i < n → P i v → Inv i ys κ₁ own₁ → (∀ y s₄ m' κ' own', St b hid' C' m' κ κ' ((it, ob (i + 1)) :: (acc, .list ys) :: own') s₄ → Inv (i + 1) (ys ++ [y]) κ' own' → Nx y s₄) → (∀ s₃ m' κ' own', St b hid' C' m' κ κ' ((it, ob (i + 1)) :: (acc, .list ys) :: own') s₃ → Inv (i + 1) ys κ' own' → Nf s₃) → EnvIs cenv sc' C' cl' → Cx b lv A C' hid' frs →
      St b hid' C' (nset x v m₁) κ κ₁ ((it, ob (i + 1)) :: (acc, .list ys) :: own₁) s₁ →
      wpAny (model b.prog b.w) A (forIn ifs true fun c r => if r = true then do let ok ← isTrue c cenv (eval c cenv); pure (ForInStep.yield ok) else pure (ForInStep.yield r)) (fun ok s₃ =>
        if ok = true then wpAny (model b.prog b.w) A (eval elt cenv) Nx E' s₃ else Nf s₃) E' s₁)
    (done : ∀ acc ys κ' own' s', Inv n ys κ' own' → St b hid L (mm acc) κ₀ κ' ((acc, .list ys) :: own') s' → F acc s')
theorem R_rest {Src : Kw → List (Addr × AObj) → Prop} {ob : Nat → AObj} {n : Nat} {P : Nat → Value → Prop} {sc' : Scope} {cl' : List (Str × Addr)} {x : Str} {elt : Expr} {ifs : List Expr} {mm : Addr → Str → Option Value} {F : Addr → Shared → Prop} {it : Addr}
    (I : Iter b Src ob n P) (Inv : Nat → List Value → Kw → List (Addr × AObj) → Prop) (S : St b hid L m κ₀ κ ((it, ob 0) :: own) s) (hI : Inv 0 [] κ own) (hz : n ≤ sizeLine)
    (hlen : ∀ i ys κ own, Inv i ys κ own → ys.length ≤ i) (hsrc : ∀ i ys κ own, Inv i ys κ own → Src κ own)
    (hbody : ∀ i acc v ys (m₁ : Str → Option Value) κ₁ own₁ hid' C' cenv s₁ E' (Nx : Value → Shared → Prop) (Nf : Shared → Prop), i < n → P i v → Inv i ys κ₁ own₁ → (∀ y s₄ m' κ' own', St b hid' C' m' κ κ' ((it, ob (i + 1)) :: (acc, .list ys) :: own') s₄ → Inv (i + 1) (ys ++ [y]) κ' own' → Nx y s₄) → (∀ s₃ m' κ' own', St b hid' C' m' κ κ' ((it, ob (i + 1)) :: (acc, .list ys) :: own') s₃ → Inv (i + 1) ys κ' own' → Nf s₃) → EnvIs cenv sc' C' cl' → Cx b lv A C' hid' frs →
      St b hid' C' (nset x v m₁) κ κ₁ ((it, ob (i + 1)) :: (acc, .list ys) :: own₁) s₁ →
      wpAny (model b.prog b.w) A (forIn ifs true fun c r => if r = true then do let ok ← isTrue c cenv (eval c cenv); pure (ForInStep.yield ok) else pure (ForInStep.yield r)) (fun ok s₃ =>
        if ok = true then wpAny (model b.prog b.w) A (eval elt cenv) Nx E' s₃ else Nf s₃) E' s₁)
    (done : ∀ acc ys κ' own' s', Inv n ys κ' own' → St b hid L (mm acc) κ₀ κ' ((acc, .list ys) :: own') s' → F acc s') : CompRest b lv A L hid frs m κ₀ sc' cl' x elt ifs mm F (.ref it) s :=
  ⟨Src, ob, n, P, Inv, it, κ, own, I, rfl, S, hI, hz, hlen, hsrc, hbody, done⟩

theorem R_comp {sc scope : Scope} {cl cl' : List (Str × Addr)} {x : Str} {px pos : Pos} {elt iter : Expr} {ifs : List Expr} {Q : Value → Shared → Prop}
    (m : Str → Option Value) (κ₀ : Kw) (C : Cx b lv A L hid frs) (hE : EnvIs env sc L cl) (hclos : closureFor scope env = pure cl') (hs : ∀ v, foldedSetIterable iter env v = pure v)
    (hsc : compScope scope = true) (hx : (relabelS scope sc).names.lookup x = some .local)
    (h : wpAny (model b.prog b.w) A (eval iter env) (fun xv s₁ => wpAny (model b.prog b.w) A (pyIter xv) (CompRest b lv A L hid frs m κ₀ (relabelS scope sc) cl' x elt ifs (fun _ => m) (fun acc s' => Q (.ref acc) s')) E s₁) E s) :
    wpAny (model b.prog b.w) A (eval (.ListComp elt [⟨.Name x px, iter, ifs, 0⟩] scope pos) env) Q E s := by
  obtain ⟨hkind, hcell, hnames⟩ := compScope_of hsc
  rw [eval_ListComp]
  refine wpAny_comprehension_free (use := none) rfl hs hclos hkind hnames (wpAny_mono h (fun xv s₁ h₁ => wpAny_mono h₁ (fun itv s₂ h₂ => ?_) fun _ _ e => e) fun _ _ e => e)
  obtain ⟨Src, ob, n, P, Inv, it, κ, own, I, rfl, S, hI, hz, hlen, hsrc, hbody, done⟩ := h₂
  refine comp_core (RR := fun acc C => compPost (model b.prog b.w) A E none Q acc C) I Inv C hE hkind hcell hx S hI hz hlen hsrc hbody ?_
  intro acc ys C' m' κ' own' s₁ S₀ hI' T₀ T
  exact ⟨_, T.ns, fun h'' hs'' => done _ _ _ _ _ hI' (T₀.leaveC (t := s₁.toks) T hs''.extBut)⟩

theorem R_compUse {sc scope : Scope} {cl cl' : List (Str × Addr)} {x y : Str} {px py pos spos : Pos} {elt iter : Expr} {ifs : List Expr} {Q : Flow → Shared → Prop}
    (m : Str → Option Value) (κ₀ : Kw) (C : Cx b lv A L hid frs) (hE : EnvIs env sc L cl)
    (hsw : swapsWith (.ListComp elt [⟨.Name x px, iter, ifs, 0⟩] scope pos) (some (.Name y py)) spos.line env = pure true)
    (hclos : closureFor scope env = pure cl') (hs : ∀ v, foldedSetIterable iter env v = pure v)
    (hsc : compScope scope = true) (hx : (relabelS scope sc).names.lookup x = some .local) (hk : sc.kind = .function) (hy : sc.names.lookup y = some .local)
    (h : wpAny (model b.prog b.w) A (eval iter env) (fun xv s₁ => wpAny (model b.prog b.w) A (pyIter xv) (CompRest b lv A L hid frs m κ₀ (relabelS scope sc) cl' x elt ifs (fun acc z => if z = y then some (.ref acc) else m z) (fun _ s' => Q .next s')) E s₁) E s) :
    wpAny (model b.prog b.w) A (exec (.Assign [.Name y py] (.ListComp elt [⟨.Name x px, iter, ifs, 0⟩] scope pos) spos) env) Q E s := by
  obtain ⟨hkind, hcell, hnames⟩ := compScope_of hsc
  rw [exec_Assign_Name_used _ _ _ _ hsw]
  refine wpAny_bind (wpAny_standAt (wpAny_bind ?_))
  show wpAny _ A (do let _ ← comprehension (.ListComp elt [⟨.Name x px, iter, ifs, 0⟩] scope pos) scope env _ (newList []) false (eval iter env) (some (assign (.Name y py) env))) _ _ s
  refine wpAny_bind (wpAny_mono (wpAny_comprehension_free (use := some (assign (.Name y py) env)) (Q := fun _ s' => Q .next s') rfl hs hclos hkind hnames
    (wpAny_mono h (fun xv s₁ h₁ => wpAny_mono h₁ (fun itv s₂ h₂ => ?_) fun _ _ e => e) fun _ _ e => e)) (fun _ s' hq => wpAny_pure (wpAny_pure hq)) fun _ _ e => e)
  obtain ⟨Src, ob, n, P, Inv, it, κ, own, I, rfl, S, hI, hz, hlen, hsrc, hbody, done⟩ := h₂
  refine comp_core (RR := fun acc C => compPost (model b.prog b.w) A E (some (assign (.Name y py) env)) (fun _ s' => Q .next s') acc C) I Inv C hE hkind hcell hx S hI hz hlen hsrc hbody ?_
  intro acc ys C' m' κ' own' s₁ S₀ hI' T₀ T
  have D : St b hid L m κ₀ κ' ([] ++ (acc, .list ys) :: own') s₁ := St.leave (ex := []) T₀ T
  obtain ⟨oL, es, ep, hoL, _⟩ := id T₀.ns
  have hLC : L ≠ C' := fun e => T.hL (.frame oL) (.inr (.inr ⟨e ▸ rfl, oL, rfl, e ▸ hoL⟩))
  show wpAny _ A (assign (.Name y py) env (.ref acc)) _ _ _
  refine wpAny_assign_Name (wpAny_storeName_local (hE.kind hy) (hE.lo ▸ D.ns) (fun h' hn hsb => ?_) (by rw [hE.sc, hk]; rfl))
  rw [hE.lo] at hn hsb
  refine ⟨_, T.ns.sameBut hsb (Ne.symm hLC), fun h'' hs'' => ?_⟩
  exact done _ _ _ _ _ hI' ((D.local (t := s₁.toks + 1) hn hsb).other (t := s₁.toks + 1) hLC T.oL T.kL (fun A h => T.hL A (.inl h)) (base_none T.ab) hs''.extBut)

theorem R_tests0 {cenv : Env} {Q : Bool → Shared → Prop} (h : Q true s) : wpAny (model b.prog b.w) A (forIn ([] : List Expr) true fun c r => if r = true then do let ok ← isTrue c cenv (eval c cenv); pure (ForInStep.yield ok) else pure (ForInStep.yield r)) Q E s :=
  wpAny_tests_nil h
theorem R_tests1 {cenv : Env} {c : Expr} {Q : Bool → Shared → Prop} (h : wpAny (model b.prog b.w) A (isTrue c cenv (eval c cenv)) Q E s) :
    wpAny (model b.prog b.w) A (forIn [c] true fun c r => if r = true then do let ok ← isTrue c cenv (eval c cenv); pure (ForInStep.yield ok) else pure (ForInStep.yield r)) Q E s :=
  wpAny_tests_one h
end
/- functions with cell variables -/
noncomputable def cellOf (cm : Str → Option Value) (p : Str × Addr) : Addr × AObj := (p.2, match cm p.1 with | some v => .cell v | none => .emptyCell)
section
variable {b : Bs} {lv : Nat} {A : Around} {E : Value → Shared → Prop} {s : Shared} {hid : Kw} {L : Addr} {m m' : Str → Option Value} {κ₀ κ : Kw} {ex own own' : List (Addr × AObj)} {frs : List Env} {env : Env}
theorem hidIn_knows (S : St b hid L m κ₀ κ (ex ++ own) s) {a : Addr} {X : AObj} (h : hidIn hid ex L s.heap a X) : Knows b s.heap a X := by
  obtain ⟨oL, es, ep, hoL, hdL, _⟩ := id S.ns
  rcases h with h | h | ⟨rfl, o, rfl, ho⟩
  · exact S.hi a X h
  · exact S.ow _ (List.mem_append_left _ h)
  · obtain rfl : o = oL := by rw [hoL] at ho; cases ho; rfl
    exact ⟨o, ho, ⟨o.slots, rfl⟩, fun vs q => by rw [hdL] at q; cases q⟩
theorem lookup_of_nodup : ∀ {l : List (Str × Addr)}, (l.map (·.1)).Nodup → ∀ p ∈ l, l.lookup p.1 = some p.2
  | (k, u) :: r, nd, p, hp => by
    have n := List.nodup_cons.mp nd
    rcases List.mem_cons.mp hp with rfl | hp
    · simp
    · have : (p.1 == k) = false := by
        rw [beq_eq_false_iff_ne]; intro e; exact n.1 (e ▸ List.mem_map_of_mem (f := (·.1)) hp)
      simp only [List.lookup_cons, this]
      exact lookup_of_nodup n.2 p hp
theorem St.enterC (S : St b hid L m κ₀ κ (ex ++ own) s) {s' : Shared} {m' cm : Str → Option Value} {cs : List (Str × Addr)} (x : InCallC s s.heap.objs.size m' cs cm s') (nd : (cs.map (·.1)).Nodup) :
    St b (hidIn hid ex L s.heap) s.heap.objs.size m' κ κ (cs.map (cellOf cm) ++ own) s' := by
  obtain ⟨⟨⟨h₁, tk, rfl⟩, hn, hk, hf⟩, xc, xa, xb⟩ := x
  have S' := S.enter (h₁ := h₁) (t := tk) hn hk
  have D := S.drop (List.sublist_append_right ex own)
  have cl : (cs.map (cellOf cm)).map (·.1) = cs.map (·.2) := by rw [List.map_map]; rfl
  have mem : ∀ {a}, a ∈ (cs.map (cellOf cm) ++ own).map (·.1) → s.heap.objs.size < a ∨ a ∈ own.map (·.1) := fun h => by
    rw [List.map_append, cl, List.mem_append] at h
    refine h.imp (fun h => ?_) id
    obtain ⟨p, hp, rfl⟩ := List.mem_map.mp h
    exact xb p.1 p.2 hp
  have lt : ∀ {a X}, Knows b s.heap a X → ¬ s.heap.objs.size < a := fun k h => Nat.lt_asymm k.lt h
  exact { S' with
    nd := by
      rw [List.map_append, cl, List.nodup_append]
      refine ⟨?_, S'.nd, fun a ha c hc e => ?_⟩
      · rw [List.Nodup, List.pairwise_map]; exact xa
      · subst e
        obtain ⟨p, hp, rfl⟩ := List.mem_map.mp ha
        obtain ⟨q, hq, e⟩ := List.mem_map.mp hc
        exact lt (D.ow q hq) (e ▸ xb p.1 p.2 hp)
    ow := fun p hp => by
      rcases List.mem_append.mp hp with h | h
      · obtain ⟨q, hq, rfl⟩ := List.mem_map.mp h
        obtain ⟨o, ho, hd⟩ := xc q.1 q.2 (lookup_of_nodup nd q hq)
        refine ⟨o, ho, ?_⟩
        unfold cellOf
        dsimp only
        cases e : cm q.1 with
        | none => rw [e] at hd; exact hd
        | some v => rw [e] at hd; exact hd
      · exact S'.ow p h
    oL := fun h => (mem h).elim (Nat.lt_irrefl _) S'.oL
    ok := fun a X h hm => (mem hm).elim (lt (S.kn a X h)) (S'.ok a X h)
    oh := fun a X h hm => (mem hm).elim (lt (hidIn_knows S h)) (S'.oh a X h)
    og := fun p hp => by
      rcases List.mem_append.mp hp with h | h
      · obtain ⟨q, hq, rfl⟩ := List.mem_map.mp h
        exact Nat.le_trans S.ab (Nat.le_trans (Nat.le_of_lt S.ns.lt) (Nat.le_of_lt (xb q.1 q.2 hq)))
      · exact S'.og p h }
theorem Cx.enterE {env' : Env} {κ₁ : Kw} (C : Cx b (lv + 1) A L hid frs) (S : St b hid L m κ₁ κ (ex ++ own) s) (hf : env'.frame = some s.heap.objs.size) (hk : env'.scope.kind = .function) :
    Cx b lv (A.deeper env') s.heap.objs.size (hidIn hid ex L s.heap) (env' :: frs) where
  fr := Around.frames_deeper C.fr
  hd := C.hd
  dp := by have := C.dp; show A.depth + 1 + 2 * lv ≤ 900; omega
  un := by have := C.un; show A.units + 3 + 20 * lv ≤ 5000; omega
  ok := fun e he => by
    rcases List.mem_cons.mp he with rfl | he
    · refine ⟨by rw [hk]; decide, _, hf, base_none (Nat.le_trans S.ab (Nat.le_of_lt S.ns.lt)), .inl rfl⟩
    · exact hidden_ok S.ns S.ab C.ok e he
theorem cellsFrom_names : ∀ (names : List (Str × NameKind)) (n : Nat) (acc : List (Str × Addr)), (cellsFrom n names acc).map (·.1) = ((names.filter fun p => p.2 == .cell).map (·.1)).reverse ++ acc.map (·.1)
  | [], _, _ => rfl
  | (k, kd) :: r, n, acc => by
    unfold cellsFrom
    by_cases h : (kd == NameKind.cell) = true
    · rw [if_pos h, cellsFrom_names r, List.filter_cons_of_pos (by exact h)]; simp
    · rw [if_neg h, cellsFrom_names r, List.filter_cons_of_neg (by exact h)]
noncomputable def cellNames (scope : Scope) : List Str := ((scope.names.filter fun p => p.2 == .cell).map (·.1)).reverse

theorem call_cells (binds : List (Str × Value)) (mL mC : Str → Option Value) {name qual : Str} {params : Arguments} {body : List Stmt} {scope : Scope} {dV kV doc pm cdv ct oc : Value} {an od : Option Addr} {osl : Array (Option Value)} {f : Addr} {args : List Value} {Q : Value → Shared → Prop}
    (G : Gd b) (C : Cx b (lv + 1) A L hid frs) (S : St b hid L m κ₀ κ (ex ++ own) s)
    (ho : (kk.heap_1 b.w.params).lookup f = some ⟨oc, od, .func (fnOf name qual params body scope dV kV doc pm an cdv ct), osl⟩) (hcd : codeIn (kk.heap_1 b.w.params) cdv qual = true)
    (hbind : bindArgs (fnOf name qual params body scope dV kV doc pm an cdv ct) ⟨args, []⟩ = pure binds)
    (hkind : ∀ x ∈ binds, scope.names.lookup x.1 = some .local ∨ (scope.names.lookup x.1 = some .cell ∧ (cellNames scope).contains x.1 = true))
    (hL : bindL (fun x => scope.names.lookup x) binds (fun _ => none) = mL) (hC : bindC (fun x => scope.names.lookup x) binds (fun _ => none) = mC) (hnd : (cellNames scope).Nodup)
    (hco : scope.isCoroutine = false) (hgen : scope.isGenerator = false) (hk : scope.kind = .function)
    (h : ∀ cs L' hid' s' A' env', cs.map (·.1) = cellNames scope → env' = newEnv scope L' mainGlobals cs (qual ++ ".<locals>.") (some f) cdv none builtinsNs → EnvIs env' scope L' cs → A' = A.deeper env' → Cx b lv A' L' hid' (env' :: frs) →
      St b hid' L' mL κ κ (cs.map (cellOf mC) ++ own) s' → Ret b hid' L' hid L m κ₀ κ ex frs →
      wpAny (model b.prog b.w) A' (execs body env') (RetK Q) (ExcK (model b.prog b.w) A' env' E) s') :
    wpAny (model b.prog b.w) A (call (.ref f) args) Q E s := by
  subst hL hC
  have X : (kk.heap_1 b.w.params).In s.heap := G.K.keeps S.bs
  obtain ⟨_, _, _, _, _, T⟩ := G.T.top
  have hnm : (cellsFrom (s.heap.objs.size + 1) scope.names []).map (·.1) = cellNames scope := by rw [cellsFrom_names]; simp [cellNames]
  refine wpAny_call (codeAny_call_cells (fd := fnOf name qual params body scope dV kV doc pm an cdv ct) (body := body) (binds := binds) (by have := C.dp; show A.depth < 1000; omega) (X _ _ ho) rfl (T.nolimit.keeps S.bs) (codeRec_of X hcd) rfl hbind rfl (fun x hx => (hkind x hx).imp id fun ⟨h1, h2⟩ => ⟨h1, ?_⟩) (fun s₁ x => ?_) hco hgen hk)
  · exact h _ _ _ _ _ _ hnm rfl ⟨rfl, rfl, rfl, rfl, rfl⟩ rfl (C.enterE S rfl hk) (S.enterC x (by rw [hnm]; exact hnd)) ⟨fun S' => S.leave S', fun F => F.leave S⟩
  · have : x.1 ∈ (cellsFrom (s.heap.objs.size + 1) scope.names []).map (·.1) := by rw [hnm]; simpa using h2
    obtain ⟨p, hp, e⟩ := List.mem_map.mp this
    have := lookup_of_nodup (by rw [hnm]; exact hnd) p hp
    show ((cellsFrom (s.heap.objs.size + 1) scope.names []).lookup x.1).isSome = true
    rw [← e, this]; rfl
end
theorem cells_nil {cs : List (Str × Addr)} (h : cs.map (·.1) = []) : cs = [] := by simpa using h
theorem cells_cons {cs : List (Str × Addr)} {x : Str} {xs : List Str} (h : cs.map (·.1) = x :: xs) : ∃ a r, cs = (x, a) :: r ∧ r.map (·.1) = xs := by
  match cs, h with
  | (n, a) :: r, h =>
    have h' := List.cons.inj h
    obtain rfl : n = x := h'.1
    exact ⟨a, r, rfl, h'.2⟩
/- the classes of the exceptions -/
noncomputable abbrev excMro : List Value := [.ref 46, .type "Exception", .type "BaseException", .type "object"]
theorem cls71 (P : Params) : ∃ nm q bs sub ab col dd k0 k1 k2 k3 k5, (kk.heap_1 P).lookup 71 = some (excClassObj nm q 71 70 bs excMro true [] sub ab col dd k0 k1 k2 k3 k5 "Exception.__new__") :=
  ⟨_, _, _, _, _, _, _, _, _, _, _, _, rfl⟩

section
variable {prog : Program} {w : World} {A : Around} {E : Value → Shared → Prop} {h : Heap} {g : Array GenState} {d : Drawn} {t : Nat} {os : OsState}
variable {nm q : Str} {C N : Addr} {bs : List Value} {hdct : Bool} {sn : List Str} {sub : List Value} {ab : Bool} {col : Option Bool} {dd : Option Addr} {k0 k1 k2 k3 k5 : Option Value}

theorem err_new_ok {M : Model} {rest : List Value} {Q : Unit → Shared → Prop} (hC : h.get? C = some (excClassObj nm q C N bs excMro hdct sn sub ab col dd k0 k1 k2 k3 k5 "Exception.__new__"))
    (hq : Q () ⟨h, g, d, t, os⟩) : wpAny M A (checkBuiltinCall "Exception.__new__" ⟨.ref C :: rest, []⟩) Q E ⟨h, g, d, t, os⟩ := by
  have hcont : (Value.ref C :: excMro).contains (.type "Exception") = true := by rw [List.contains_cons]; simp [excMro]
  have F := F.excBase_Exception
  have hstar := F.noStar
  simp only [checkBuiltinCall, F.newKind, F.newSplit, F.newRow]
  repeat (first | refine wpAny_loadPart_at hC ?_ | (refine wpAny_isSubtype_exc hC ?_; rw [hcont]) | refine wpAny_staticBase_exc hC ?_ | refine wpAny_madeBy_exc hC ?_ | simp only [bne_self_eq_false, Bool.false_eq_true, if_false] | wp_step)
  exact hq
theorem err_new {rest : List Value} {R : Result → Shared → Prop} (hC : h.get? C = some (excClassObj nm q C N bs excMro hdct sn sub ab col dd k0 k1 k2 k3 k5 "Exception.__new__"))
    (hq : R (.ok (.ret (.ref (h.objs.size + 1)))) ⟨(h.push { cls := .type "tuple", data := .seq rest.toArray }).push
      { cls := .ref C, data := .fields #[.ref h.objs.size, .none, .none, .none, .bool false, .none] }, g, d, t, os⟩) (hrest : rest.length ≤ sizeLine) :
    codeAny (model prog w) A (.builtin "Exception.__new__" ⟨.ref C :: rest, []⟩) R ⟨h, g, d, t, os⟩ := by
  have F := F.excBase_Exception
  have hends := F.ends
  have hcB : (Value.ref C :: excMro).contains (.type "Exception") = true := by rw [List.contains_cons]; simp [excMro]
  have hcA : (Value.ref C :: excMro).contains (.type "AttributeError") = false := by rw [List.contains_cons]; rfl
  have hcN : (Value.ref C :: excMro).contains (.type "NameError") = false := by rw [List.contains_cons]; rfl
  refine codeAny_builtinAt F.entry ?_
  unfold Builtin.«BaseException.__new__»
  refine PySem.wpAt_bind ?_
  show PySem.wpAt _ _ _ (stack >>= _) _ _ _
  refine PySem.wpAt_bind (PySem.wpAt_stack fun p below => PySem.wpAt_of_wpAny ?_)
  wp_walk
  refine PySem.wpAt_of_wpAny ?_
  rw [F.owner]
  repeat (first | with_reducible refine wpAny_madeHere_exc F.canon hC ?_ | with_reducible refine wpAny_loadPart_at hC ?_ | (with_reducible refine wpAny_isSubtype_exc hC ?_; first | rw [hcB] | rw [hcA] | rw [hcN]) | wp_step)
  show R _ _
  rw [Heap.size_push]
  exact hq
theorem err_init_ok {M : Model} {e : Addr} {oe : Obj} {rest : List Value} {Q : Unit → Shared → Prop} (hC : h.get? C = some (excClassObj nm q C N bs excMro hdct sn sub ab col dd k0 k1 k2 k3 k5 "Exception.__new__"))
    (he : h.get? e = some oe) (hcls : oe.cls = .ref C) (hq : Q () ⟨h, g, d, t, os⟩) : wpAny M A (checkBuiltinCall "Exception.__init__" ⟨.ref e :: rest, []⟩) Q E ⟨h, g, d, t, os⟩ := by
  have hcB : (Value.ref C :: excMro).contains (.type "Exception") = true := by rw [List.contains_cons]; simp [excMro]
  have F := F.excBase_Exception
  have hshort := F.noStar
  simp only [checkBuiltinCall, F.initKind, F.initSplit, F.initRow]
  repeat (first | (with_reducible refine wpAny_loadPart_at he ?_; rw [hcls]) | with_reducible refine wpAny_loadPart_at hC ?_ | (with_reducible refine wpAny_isSubtype_exc hC ?_; rw [hcB]) | wp_step)
  refine wpAny_onRaise ?_
  rw [show ∀ (a b : String) (n : Nat), Bind.check ⟨.positional, "*", "Exception", .self, [⟨"args", .varPos, false⟩]⟩ a b n (List.map (fun x => x.fst) ({ pos := Value.ref e :: rest } : Args).kw) = pure () from
    fun a b n => check_star_args _ _ _ _ _ _]
  exact wpAny_pure hq
theorem err_init {e : Addr} {oe : Obj} {vs : Array Value} {t0 : Addr} {rest : List Value} {Q : Value → Shared → Prop} (hC : h.get? C = some (excClassObj nm q C N bs excMro hdct sn sub ab col dd k0 k1 k2 k3 k5 "Exception.__new__"))
    (he : h.get? e = some oe) (hcls : oe.cls = .ref C) (hd : oe.data = .fields vs) (h0 : vs[0]? = some (.ref t0)) (hrest : rest.length ≤ sizeLine)
    (hq : Q .none ⟨(h.push { cls := .type "tuple", data := .seq rest.toArray }).update e (Obj.mapFields (·.setIfInBounds 0 (.ref h.objs.size))), g, d, t, os⟩) :
    wpAny (model prog w) A (call (.builtin "Exception.__init__") (.ref e :: rest)) Q E ⟨h, g, d, t, os⟩ := by
  have F := F.excBase_Exception
  refine wpAny_call (codeAny_call_builtin F.init.plain F.initEntry (err_init_ok hC he hcls ?_))
  unfold Builtin.«BaseException.__init__»
  dsimp only
  rw [if_neg (by simp)]
  unfold newTuple Builtin.BaseException.bexcPut
  have hsz : 0 < vs.size := (Array.getElem?_eq_some_iff.mp h0).1
  have he₁ := Heap.get?_push_of_some (h := h) { cls := .type "tuple", data := .seq rest.toArray } he
  refine wpAny_bind (wpAny_newObj_type (wpAny_bind (wpAny_bind (wpAny_field he₁ hd h0 (wpAny_bind (wpAny_setField he₁ hd hsz ?_))))) (by show rest.toArray.size ≤ sizeLine; rw [List.size_toArray]; exact hrest))
  exact wpAny_letGo (wpAny_pure hq)
theorem err_raise {s : Shared} {env : Env} {x : Sem Value} {Q : Flow → Shared → Prop} (hh : A.handled = none)
    (hx : wpAny (model prog w) A x (fun v s₁ => ∃ e oe vs, v = .ref e ∧ s₁.heap.get? C = some (excClassObj nm q C N bs excMro hdct sn sub ab col dd k0 k1 k2 k3 k5 "Exception.__new__") ∧
      s₁.heap.get? e = some oe ∧ oe.cls = .ref C ∧ oe.data = .fields vs ∧ vs[1]? = some .none ∧ E (.ref e) s₁) E s) :
    wpAny (model prog w) A (raiseStmt env (some x) none) Q E s := by
  have hcB : (Value.ref C :: excMro).contains (.type "BaseException") = true := by rw [List.contains_cons]; simp [excMro]
  unfold raiseStmt
  refine wpAny_bind (wpAny_mono hx (fun v s₁ h₁ => ?_) fun _ _ x => x)
  obtain ⟨e, oe, vs, rfl, hC, he, hcls, hd, h1, hE⟩ := h₁
  obtain ⟨hp, g, d, tk, os⟩ := s₁
  obtain ⟨oc, od, oda, osl⟩ := oe
  dsimp only at hcls hd
  subst hcls hd
  repeat (first | with_reducible refine wpAny_loadPart_at he ?_ | with_reducible refine wpAny_loadPart_at hC ?_ | (with_reducible refine wpAny_isSubtype_exc hC ?_; rw [hcB]) | wp_step)
  rw [h1]
  refine wpAny_pure (wpAny_pure ?_)
  exact wpAny_raiseNew_none hh hE
end
theorem fn36 (P : Params) : ∃ o, (kk.heap_1 P).lookup 36 = some o ∧ o.cls = .type "function" := ⟨_, rfl, rfl⟩
section
variable {prog : Program} {w : World} {A : Around} {E : Value → Shared → Prop} {h : Heap} {g : Array GenState} {d : Drawn} {t : Nat} {os : OsState}

theorem err_type_call {rest : List Value} {Q : Fin → Shared → Prop} (X : (kk.heap_1 w.params).In h) (hrest : rest.length ≤ sizeLine)
    (hq : wpAny (model prog w) A (call (.ref 36) (.ref (h.objs.size + 1) :: rest)) (fun r s' => r = .none ∧ Q (.done (.ret (.ref (h.objs.size + 1)))) s') E
      ⟨(h.push { cls := .type "tuple", data := .seq rest.toArray }).push { cls := .ref 71, data := .fields #[.ref h.objs.size, .none, .none, .none, .bool false, .none] }, g, d, t, os⟩) :
    wpAny (model prog w) A (Builtin.«type.__call__» ⟨.ref 71 :: rest, []⟩) Q E ⟨h, g, d, t, os⟩ := by
  obtain ⟨nm, q, bs, sub, ab, col, dd, k0, k1, k2, k3, k5, h71⟩ := cls71 w.params
  obtain ⟨oI, h36, hfc⟩ := fn36 w.params
  have hC := X _ _ h71
  have hf : findIn (kk.heap_1 w.params) (.ref 71) "__init__" = some (some (.ref 36)) := by k_is
  repeat (first | with_reducible refine wpAny_loadPart_at hC ?_ | with_reducible refine wpAny_madeBy_exc hC ?_ | wp_step)
  refine codeAny_call_builtin_code (Code.quiet_builtin _ F.excBase_Exception.quiet) (err_new_ok hC ?_)
  refine err_new hC ?_ hrest
  have kp : ∀ b o, h.get? b = some o → ((h.push { cls := .type "tuple", data := .seq rest.toArray }).push { cls := .ref 71, data := .fields #[.ref h.objs.size, .none, .none, .none, .bool false, .none] }).get? b = some o :=
    fun b o e => Heap.get?_push_of_some _ (Heap.get?_push_of_some _ e)
  have hget : ((h.push { cls := .type "tuple", data := .seq rest.toArray }).push
      { cls := .ref 71, data := .fields #[.ref h.objs.size, .none, .none, .none, .bool false, .none] }).get? (h.objs.size + 1) = some
      { cls := .ref 71, data := .fields #[.ref h.objs.size, .none, .none, .none, .bool false, .none] } := by heap_get
  have hC₁ := kp _ _ hC
  have X₁ : (kk.heap_1 w.params).In _ := fun a o e => kp _ _ (X a o e)
  have hfI₁ := X₁ _ _ h36
  have hcC : (Value.ref 71 :: excMro).contains (.ref 71) = true := by simp
  show wpAny _ _ _ _ _ _
  unfold isInstance
  repeat (first | with_reducible refine wpAny_loadPart_at hget ?_ | (with_reducible refine wpAny_isSubtype_exc hC₁ ?_; rw [hcC]) | wp_step)
  show wpAny _ _ (typeLookup (.ref 71) _) _ _ _
  refine looks_findIn X₁ hf _ _ _ _ (fun _ _ e => e) ?_
  refine wpAny_holding (wpAny_bind ?_)
  unfold bindSpecial
  refine wpAny_bind (wpAny_typeOf (T := "function") ⟨_, hfI₁, hfc⟩ ?_)
  rw [if_pos (by decide)]
  refine wpAny_pure (wpAny_bind (wpAny_mono hq (fun r s' hr => ?_) fun _ _ x => x))
  obtain ⟨rfl, hQ⟩ := hr
  wp_walk
  exact hQ
theorem err_call {rest : List Value} {Q : Value → Shared → Prop} (X : (kk.heap_1 w.params).In h) (hrest : rest.length ≤ sizeLine)
    (hq : wpAny (model prog w) (A.under (.builtin "type.__call__" ⟨.ref 71 :: rest, []⟩)) (call (.ref 36) (.ref (h.objs.size + 1) :: rest)) (fun r s' => r = .none ∧ Q (.ref (h.objs.size + 1)) s') E
      ⟨(h.push { cls := .type "tuple", data := .seq rest.toArray }).push { cls := .ref 71, data := .fields #[.ref h.objs.size, .none, .none, .none, .bool false, .none] }, g, d, t, os⟩) :
    wpAny (model prog w) A (call (.ref 71) rest) Q E ⟨h, g, d, t, os⟩ := by
  obtain ⟨nm, q, bs, sub, ab, col, dd, k0, k1, k2, k3, k5, h71⟩ := cls71 w.params
  have hC := X _ _ h71
  have f1 := tc_lookup
  have f2 := tc_bind (.ref 71)
  have hT : (⟨h, g, d, t, os⟩ : Shared).TypeIs (.ref 71) "type" := ⟨_, hC, rfl⟩
  refine wpAny_call (codeAny_of_tree ?_)
  show wpAny _ _ (callAny (.ref 71) _) _ _ _
  repeat (any_goals (first | assumption | with_reducible refine wpAny_loadPart_at hC ?_ | wp_step))
  refine ⟨rfl, ?_⟩
  exact codeAny_call_builtin_at (Code.quiet_builtin _ (by decide +kernel)) entry_typeCall (wpAny_check_type_call_sub hC (err_type_call X hrest hq))
end
open PySem.Builtin PySem.Builtin.ObjectAttr
theorem clsIn71 (P : Params) : ∃ cd, clsIn (kk.heap_1 P) 71 = some cd ∧ cd.mro = .ref 71 :: excMro ∧ cd.hasDict = true := ⟨_, rfl, rfl, rfl⟩
section
variable {b : Bs} {lv : Nat} {A : Around} {E : Value → Shared → Prop} {s : Shared} {hid : Kw} {L : Addr} {m m' : Str → Option Value} {κ₀ κ : Kw} {own own' : List (Addr × AObj)} {frs : List Env} {env : Env}

theorem osa_err {prog : Program} {w : World} {e : Addr} {ox : Obj} {od : Option Obj} {name : Str} {tk : Tok} {v : Value} {R : Result → Shared → Prop} (X : (kk.heap_1 w.params).In s.heap) (I : InstAt s.heap e ox 71 od)
    (ht : takerIn (kk.heap_1 w.params) 71 name = some none)
    (h : ∀ b, wpAny (model prog w) A.in1 (storeInOwnDict (.ref e) (.ref 71) (.str name tk) name v b)
      (fun fin s' => match fin with | .done f => R (.ok f) s' | .again c' => c'.quiet = true ∧ codeAny (model prog w) A c' R s') (fun e s' => R (.error e) s') s) :
    codeAny (model prog w) A (.call (.builtin "object.__setattr__") ⟨[.ref e, .str name tk, v], []⟩) R s := by
  have SF := PySem.F.store_object
  obtain ⟨cd, hc, hmro, -⟩ := clsIn71 w.params
  have hm : Looks (model prog w) s.heap (mroOf (.ref 71)) cd.mro := (looks_clsIn X hc).andThen .now
  have sub : Looks (model prog w) s.heap (isInstance (.ref e) (.type "object")) true := I.type.andThen (looks_mroIn X (by unfold mroIn; rw [hc, Option.bind_some, hmro]; rfl))
  refine codeAny_call_builtin SF.slot.plain SF.entry (@check_slot (model prog w) _ _ s "object.__setattr__" "object" "__setattr__" (.ref e) [.str name tk, v] [] _ SF.kind SF.split sub (SF.args (.ref e) (.str name tk) v) ?_)
  obtain ⟨attr, ha, hr⟩ := Option.bind_eq_some_iff.mp ht
  have L3 : Looks (model prog w) s.heap (storeTaker? attr) none := by
    cases attr with
    | none => exact .now
    | some a =>
      obtain ⟨b, hb, hn⟩ := Option.map_eq_some_iff.mp hr
      refine (looks_takesIn X hb).andThen ?_
      cases b
      · exact .now
      · cases hn
  rw [osa_eq, refuse_eq]
  refine wpAny_bind (wpAny_bind (I.type.here (wpAny_bind (hm.here ?_))))
  rw [hmro, refuseLoop_ref, refuseLoop_ref, PySem.F.store_Exception.passes]
  exact wpAny_pure (wpAny_bind (I.type.here (wpAny_bind ((looks_findIn X ha).here (wpAny_bind (L3.here (h _)))))))

theorem within_of (l : List (Str × Value)) : Within (fun x => l.lookup x) (l.map (·.1)) := fun x h => by
  induction l with
  | nil => simp at h
  | cons p r ih =>
    obtain ⟨k, u⟩ := p
    by_cases q : x = k
    · subst q; exact .head _
    · have : (x == k) = false := by simpa using q
      simp only [List.lookup_cons, this] at h
      exact .tail _ (ih h)

theorem R_errset1 {e d : Addr} {l : List (Str × Value)} {name : Str} {v : Value} {Q : Unit → Shared → Prop} (G : Gd b) (S : St b hid L m κ₀ κ ((d, .edict l) :: (e, .err (some d)) :: own) s)
    (ht : takerIn (kk.heap_1 b.w.params) 71 name = some none) (hs : findIn (kk.heap_1 b.w.params) (.ref 71) "__setattr__" = some (some (.builtin "object.__setattr__"))) (hz : l.length ≤ 100)
    (h : ∀ s', St b hid L m κ₀ κ ((d, .edict ((name, v) :: l)) :: (e, .err (some d)) :: own) s' → Q () s') : wpAny (model b.prog b.w) A (setAttr (.ref e) name v) Q E s := by
  have X := G.K.keeps S.bs
  obtain ⟨oe, he, t, rfl⟩ := S.ow (e, .err (some d)) (.tail _ (.head _))
  obtain ⟨od, hd, es, ep, h1, h2, h3, h4⟩ := S.ow (d, .edict l) (.head _)
  have I : InstAt s.heap e { cls := .ref 71, dict := some d, data := .fields #[.ref t, .none, .none, .none, .bool false, .none] } 71 (some od) := ⟨he, rfl, rfl, hd⟩
  have I' : InstAt { s with toks := s.toks + 1 }.heap e { cls := .ref 71, dict := some d, data := .fields #[.ref t, .none, .none, .none, .bool false, .none] } 71 (some od) := I
  obtain ⟨cd, hc, hmro, hdict⟩ := clsIn71 b.w.params
  refine set_plain X I hs (osa_err (s := { s with toks := s.toks + 1 }) X I' ht fun bb => ?_)
  refine wpAny_bind (wpAny_pure (wpAny_bind (wpAny_bind (wpAny_loadPart he (wpAny_bind ((looks_clsIn (h := ({ s with toks := s.toks + 1 } : Shared).heap) X hc).here ?_))))))
  rw [hdict]
  refine wpAny_pure (a := some d) ?_
  show wpAny _ _ (storeInDict d (.str name s.toks) name v) _ _ _
  unfold storeInDict newKeyGuard
  have hns : s.heap.Ns1 d (fun x => l.lookup x) := ⟨od, es, ep, hd, h1, h2, h3, h4⟩
  refine wpAny_bind (wpAny_pure (wpAny_bind (wpAny_nsSet1 (s := { s with toks := s.toks + 1 }) hns fun h' hn' hsb => ?_)))
  obtain ⟨oD, esD, epD, hoD, hdD, hcD⟩ := hn'.count (Within.cons name v (within_of l))
  refine wpAny_bind (wpAny_lookBehind hoD (by rw [hdD]; exact pastItsLine_dict (Nat.le_trans hcD (by rw [List.length_cons, List.length_map, sizeLine_eq]; omega))) ?_)
  obtain ⟨oD', esD', epD', hoD', k1, k2, k3, k4⟩ := hn'
  refine wpAny_pure (h _ (S.upd (t := s.toks + 1 + 1) .head hsb ⟨oD', hoD', esD', epD', k1, k2, k3, fun n => ?_⟩))
  rw [k4 n, List.lookup_cons]
  by_cases q : n = name
  · subst q; simp
  · have : (n == name) = false := by simpa using q
    simp [q, this]

theorem R_errset0 {e : Addr} {name : Str} {v : Value} {Q : Unit → Shared → Prop} (G : Gd b) (S : St b hid L m κ₀ κ ((e, .err none) :: own) s)
    (ht : takerIn (kk.heap_1 b.w.params) 71 name = some none) (hs : findIn (kk.heap_1 b.w.params) (.ref 71) "__setattr__" = some (some (.builtin "object.__setattr__")))
    (h : ∀ s' d, St b hid L m κ₀ κ ((d, .edict [(name, v)]) :: (e, .err (some d)) :: own) s' → Q () s') : wpAny (model b.prog b.w) A (setAttr (.ref e) name v) Q E s := by
  have X := G.K.keeps S.bs
  obtain ⟨oe, he, t, rfl⟩ := S.ow (e, .err none) (.head _)
  have I : InstAt s.heap e { cls := .ref 71, dict := none, data := .fields #[.ref t, .none, .none, .none, .bool false, .none] } 71 none := ⟨he, rfl, rfl, trivial⟩
  have I' : InstAt { s with toks := s.toks + 1 }.heap e { cls := .ref 71, dict := none, data := .fields #[.ref t, .none, .none, .none, .bool false, .none] } 71 none := I
  obtain ⟨cd, hc, hmro, hdict⟩ := clsIn71 b.w.params
  refine set_plain X I hs (osa_err (s := { s with toks := s.toks + 1 }) X I' ht fun bb => ?_)
  refine wpAny_bind (wpAny_pure (wpAny_bind (wpAny_bind (wpAny_loadPart he (wpAny_bind ((looks_clsIn (h := ({ s with toks := s.toks + 1 } : Shared).heap) X hc).here ?_))))))
  rw [hdict]
  have hx₁ : (s.heap.push { cls := .type "dict", data := .dict #[] }).get? e = some { cls := .ref 71, dict := none, data := .fields #[.ref t, .none, .none, .none, .bool false, .none] } := Heap.get?_push_of_some _ he
  have hxs : e ≠ s.heap.objs.size := Nat.ne_of_lt (Heap.lt_size he)
  refine wpAny_bind (wpAny_alloc (wpAny_bind (wpAny_update hx₁ (wpAny_pure ?_))))
  show wpAny _ _ (storeInDict s.heap.objs.size (.str name s.toks) name v) _ _ _
  have S1 := S.alloc (s' := { s with heap := s.heap.push { cls := .type "dict", data := .dict #[] } }) (a := s.heap.objs.size) (A := .edict []) (Nat.le_refl _) (fun _ _ e => Heap.get?_push_of_some _ e)
    ⟨_, Heap.get?_push_size _ rfl, #[], 0, rfl, fun e he => absurd he (by simp), List.Pairwise.nil, fun _ => rfl⟩ rfl rfl
  have S2 := S1.upd (t := s.toks + 1) (A' := .err (some s.heap.objs.size)) (.tail .head) (Heap.SameBut.update _ e (fun o => { cls := o.cls, dict := some s.heap.objs.size, data := o.data, slots := o.slots })) ⟨_, Heap.get?_update_self _ hx₁ rfl, t, rfl⟩
  have hns : ((s.heap.push { cls := .type "dict", data := .dict #[] }).update e (fun o => { cls := o.cls, dict := some s.heap.objs.size, data := o.data, slots := o.slots })).Ns1 s.heap.objs.size (fun x => ([] : List (Str × Value)).lookup x) := by
    obtain ⟨od, hd, es, ep, h1, h2, h3, h4⟩ := S2.ow (s.heap.objs.size, .edict []) (.head _)
    exact ⟨od, es, ep, hd, h1, h2, h3, h4⟩
  unfold storeInDict newKeyGuard
  refine wpAny_bind (wpAny_pure (wpAny_bind (wpAny_nsSet1 hns fun h' hn' hsb => ?_)))
  obtain ⟨oD, esD, epD, hoD, hdD, hcD⟩ := hn'.count (Within.cons name v (within_of []))
  refine wpAny_bind (wpAny_lookBehind hoD (by rw [hdD]; exact pastItsLine_dict (Nat.le_trans hcD (by rw [List.length_cons, List.length_map, sizeLine_eq]; simp))) ?_)
  obtain ⟨oD', esD', epD', hoD', k1, k2, k3, k4⟩ := hn'
  refine wpAny_pure (h _ _ (S2.upd (t := s.toks + 1 + 1) .head hsb ⟨oD', hoD', esD', epD', k1, k2, k3, fun n => ?_⟩))
  rw [k4 n, List.lookup_cons]
  by_cases q : n = name
  · subst q; simp
  · have : (n == name) = false := by simpa using q
    simp [q, this]

theorem funFrames_of {h B : Heap} : ∀ {l : List Env}, (∀ env ∈ l, env.scope.kind ≠ .module ∧ ∃ L o, env.frame = some L ∧ B.get? L = none ∧ h.get? L = some o ∧ ∀ vs, o.data ≠ .fields vs) → h.FunFrames B l
  | [], _ => trivial
  | e :: r, k => ⟨(k e (.head _)).1, (k e (.head _)).2, funFrames_of fun x hx => k x (.tail _ hx)⟩

theorem R_leaveFirst {e : Addr} {dd : Option Addr} (C : Cx b lv A L hid (env :: frs)) (hf : env.frame = some L) (S : St b hid L m κ₀ κ ((e, .err dd) :: own) s)
    (h : ∀ s', Fly b hid L m κ₀ κ own frs e s' → E (.ref e) s') : ExcK (model b.prog b.w) A env E (.ref e) s := by
  obtain ⟨oe, he, t, rfl⟩ := S.ow _ (.head _)
  have D := S.drop (List.sublist_cons_self _ _)
  have nd := List.nodup_cons.mp S.nd
  have eL : L ≠ e := fun q => S.oL (q ▸ List.mem_cons_self)
  have mem : ∀ a, a ∈ (e :: (env :: frs).filterMap (·.frame)) → a = e ∨ a = L ∨ ∃ o, hid a (.frame o) := fun a ha => by
    rcases List.mem_cons.mp ha with q | ha
    · exact .inl q
    · obtain ⟨x, hx, hxf⟩ := List.mem_filterMap.mp ha
      obtain ⟨_, L', h2, _, h4⟩ := C.ok x hx
      rw [h2] at hxf
      cases hxf
      exact .inr h4
  have hB : ∀ a o, s.heap.get? a = some o → a ≠ e → a ≠ L → (∀ o, ¬ hid a (.frame o)) → (hideAll s.heap (e :: (env :: frs).filterMap (·.frame))).get? a = some o := fun a o q n1 n2 n3 =>
    hideAll_get _ q fun hm => (mem a hm).elim n1 fun z => z.elim n2 fun ⟨o, z⟩ => n3 o z
  have kB : ∀ {a X}, Knows b s.heap a X → a ≠ e → a ≠ L → (∀ o, ¬ hid a (.frame o)) → KB b (hideAll s.heap (e :: (env :: frs).filterMap (·.frame))) a X := fun ⟨o, q, i⟩ n1 n2 n3 => .inr ⟨o, hB _ o q n1 n2 n3, i⟩
  have I : InB b (hideAll s.heap (e :: (env :: frs).filterMap (·.frame))) hid κ own := by
    refine ⟨fun a o q => ?_, fun a X h => ?_⟩
    · refine hideAll_get _ (S.bs a o q) fun hm => ?_
      rcases List.mem_cons.mp hm with z | hm
      · rw [z, S.ob (p := (e, .err dd)) (.head _)] at q; cases q
      · obtain ⟨x, hx, hxf⟩ := List.mem_filterMap.mp hm
        obtain ⟨_, L', h2, h3, _⟩ := C.ok x hx
        rw [h2] at hxf; cases hxf
        rw [h3] at q; cases q
    · rcases h with h | h | h
      · have ha := List.mem_map_of_mem (f := (·.1)) h
        exact kB (D.ow _ h) (fun z => nd.1 (z ▸ ha)) (fun z => D.oL (z ▸ ha)) fun o z => D.oh _ _ z ha
      · exact kB (S.kn _ _ h) (fun z => S.ok _ _ h (z ▸ List.mem_cons_self)) (fun z => S.kL _ (z ▸ h)) fun o z => S.kh _ _ _ h z
      · by_cases hq : ∃ o, hid a (.frame o)
        · obtain ⟨o, ho⟩ := hq
          exact .inl ⟨o, S.hf _ _ _ h ho⟩
        · exact kB (S.hi _ _ h) (fun z => S.oh _ _ h (z ▸ List.mem_cons_self)) (fun z => S.hL _ (z ▸ h)) fun o z => hq ⟨o, z⟩
  have FF : s.heap.FunFrames (hideAll s.heap (e :: (env :: frs).filterMap (·.frame))) (env :: frs) := funFrames_of fun x hx => by
    obtain ⟨h1, L', h2, h3, h4⟩ := C.ok x hx
    have hn : (hideAll s.heap (e :: (env :: frs).filterMap (·.frame))).get? L' = none := hideAll_none _ (.tail _ (List.mem_filterMap.mpr ⟨x, hx, h2⟩))
    rcases h4 with rfl | ⟨o, h4⟩
    · obtain ⟨oL, es, ep, hoL, hd, _⟩ := id S.ns
      exact ⟨h1, _, oL, h2, hn, hoL, fun vs q => by rw [hd] at q; cases q⟩
    · obtain ⟨y, hy, ⟨sl, rfl⟩, hd⟩ := S.hi _ _ h4
      exact ⟨h1, _, _, h2, hn, hy, hd⟩
  refine wpAny_leaving_firstW (a0 := .ref t) C.fr FF hf he (fun a o q => of_hideAll _ q) (hideAll_none _ (.head _)) rfl rfl rfl fun h' ⟨k1, ⟨_, _, k2⟩, k3, k4⟩ => ?_
  exact h _ ⟨D.flew (t := s.toks) I k1 k4, _, _, ⟨k1, hideAll_none _ (.head _), k2, k3⟩, I⟩

theorem R_leaveOn {e : Addr} (C : Cx b lv A L hid (env :: frs)) (hf : env.frame = some L) (F : Fly b hid L m κ₀ κ own (env :: frs) e s)
    (h : ∀ s', Fly b hid L m κ₀ κ own frs e s' → E (.ref e) s') : ExcK (model b.prog b.w) A env E (.ref e) s := by
  obtain ⟨S, B, a0, fl, I⟩ := F
  exact wpAny_leaves_onW C.fr hf fl fun h' f' up => h _ ⟨S.flew (t := s.toks) I f'.1 up, B, a0, f', I⟩

theorem raise_arm {x : Str} {np cpos pos : Pos} {args : List Expr} {env : Env} : exec (.Raise (some (.Call (.Name x np) args [] cpos)) none pos) env = (do
    standAt pos
    raiseStmt env (some (do let v ← eval (.Call (.Name x np) args [] cpos) env; standAt pos; pure v)) none) := rfl
theorem R_raise {x : Str} {np cpos pos : Pos} {args : List Expr} {Q : Flow → Shared → Prop} (G : Gd b) (C : Cx b lv A L hid frs)
    (h : wpAny (model b.prog b.w) A (eval (.Call (.Name x np) args [] cpos) env) (fun v s₁ => ∃ e d m κ own, v = .ref e ∧ St b hid L m κ₀ κ ((e, .err d) :: own) s₁ ∧ E (.ref e) s₁) E s) :
    wpAny (model b.prog b.w) A (exec (.Raise (some (.Call (.Name x np) args [] cpos)) none pos) env) Q E s := by
  obtain ⟨nm, q, bs, sub, ab, col, dd, k0, k1, k2, k3, k5, h71⟩ := cls71 b.w.params
  rw [raise_arm]
  refine wpAny_bind (wpAny_standAt (err_raise (nm := nm) (q := q) (C := 71) (N := 70) (bs := bs) (hdct := true) (sn := []) (sub := sub) (ab := ab) (col := col) (dd := dd) (k0 := k0) (k1 := k1) (k2 := k2) (k3 := k3) (k5 := k5) C.hd (wpAny_bind (wpAny_mono h (fun v s₁ h₁ => wpAny_bind (wpAny_standAt (wpAny_pure ?_))) fun _ _ y => y))))
  obtain ⟨e, d, m, κ, own, rfl, S, hE⟩ := h₁
  obtain ⟨oe, he, t, rfl⟩ := S.ow _ (.head _)
  exact ⟨e, _, _, rfl, G.K.keeps S.bs _ _ h71, he, rfl, rfl, rfl, hE⟩

theorem R_errinit {e : Addr} {rest : List Value} {Q : Value → Shared → Prop} (G : Gd b) (S : St b hid L m κ₀ κ ((e, .err none) :: own) s) (hz : rest.length ≤ sizeLine)
    (h : ∀ s', St b hid L m κ₀ κ ((e, .err none) :: own) s' → Q .none s') : wpAny (model b.prog b.w) A (call (.builtin "Exception.__init__") (.ref e :: rest)) Q E s := by
  obtain ⟨nm, q, bs, sub, ab, col, dd, k0, k1, k2, k3, k5, h71⟩ := cls71 b.w.params
  obtain ⟨oe, he, t, rfl⟩ := S.ow (e, .err none) (.head _)
  have he₁ := Heap.get?_push_of_some (h := s.heap) { cls := .type "tuple", data := .seq rest.toArray } he
  have S1 := S.keeps (s' := { s with heap := s.heap.push { cls := .type "tuple", data := .seq rest.toArray } }) (fun _ _ e => Heap.get?_push_of_some _ e) rfl rfl
  obtain ⟨hp, g, dr, tk, os⟩ := s
  refine err_init (G.K.keeps S.bs _ _ h71) he rfl rfl rfl hz (h _ (S1.upd (t := tk) .head (Heap.SameBut.update _ e _) ⟨_, Heap.get?_update_self _ he₁ rfl, hp.objs.size, rfl⟩))
end
section
variable {b : Bs} {lv : Nat} {A : Around} {E : Value → Shared → Prop} {s : Shared} {hid : Kw} {L : Addr} {m m' : Str → Option Value} {κ₀ κ : Kw} {ex own own' : List (Addr × AObj)} {frs : List Env} {env : Env}
set_option maxHeartbeats 2000000 in
theorem toolerr_spec {e : Addr} {x at_ : Value} {Q : Value → Shared → Prop} (G : Gd b) (C : Cx b (lv + 1) A L hid frs)
    (S : St b hid L m κ₀ κ (ex ++ (e, .err none) :: own) s) (ok : ∀ s' d l, St b hid L m κ₀ κ (ex ++ (d, .edict l) :: (e, .err (some d)) :: own) s' → Q .none s') :
    wpAny (model b.prog b.w) A (call (.ref 36) [.ref e, x, at_]) Q E s := by
  refine call_cx [("at", at_), ("what", x), ("self", .ref e)] G C S (by k_is) (by k_is) (binds_K (G.K.keeps S.bs) rfl (by k_is) rfl rfl rfl) (locs rfl) rfl rfl rfl (by decide) fun L' hid' s' A' env' hE hI hA C' S' ret => ?_
  repeat' k_extra "z"
  with_reducible refine' R_errinit G (by assumption) ?z fun _ _ => ?_
  case z => exact Nat.le_of_ble_eq_true rfl
  repeat' k_extra "z"
  with_reducible refine' R_errset0 G (by assumption) ?a ?b fun _ _ _ => ?_
  case a => k_is
  case b => k_is
  repeat' k_extra "z"
  with_reducible refine' R_errset1 G (by assumption) ?a ?b ?z fun _ _ => ?_
  case a => k_is
  case b => k_is
  case z => exact Nat.le_of_ble_eq_true rfl
  repeat' k_extra "z"
  exact ok _ _ _ (ret.st (by assumption))

theorem St.perr {rest : List Value} (S : St b hid L m κ₀ κ (ex ++ own) s) : St b hid L m κ₀ κ (ex ++ (s.heap.objs.size + 1, .err none) :: own)
    { s with heap := (s.heap.push { cls := .type "tuple", data := .seq rest.toArray }).push { cls := .ref 71, data := .fields #[.ref s.heap.objs.size, .none, .none, .none, .bool false, .none] } } := by
  have S1 := S.keeps (s' := { s with heap := s.heap.push { cls := .type "tuple", data := .seq rest.toArray } }) (fun _ _ e => Heap.get?_push_of_some _ e) rfl rfl
  have S2 := S1.alloc (s' := { s with heap := (s.heap.push { cls := .type "tuple", data := .seq rest.toArray }).push { cls := .ref 71, data := .fields #[.ref s.heap.objs.size, .none, .none, .none, .bool false, .none] } }) (a := s.heap.objs.size + 1) (A := .err none)
    (by show (s.heap.push _).objs.size ≤ _; rw [Heap.size_push]; exact Nat.le_refl _) (fun _ _ e => Heap.get?_push_of_some _ e) ⟨_, by
      have := Heap.get?_push_size (s.heap.push { cls := .type "tuple", data := .seq rest.toArray }) (o := { cls := .ref 71, data := .fields #[.ref s.heap.objs.size, .none, .none, .none, .bool false, .none] }) rfl
      rwa [Heap.size_push] at this, _, rfl⟩ rfl rfl
  exact S2.perm List.perm_middle.symm
theorem Cx.under {c : Addr} {rest : List Value} (C : Cx b (lv + 1) A L hid frs) : Cx b lv (A.under (.builtin "type.__call__" ⟨.ref c :: rest, []⟩)) L hid frs where
  fr := by
    have e : (A.under (.builtin "type.__call__" ⟨.ref c :: rest, []⟩)).frames = A.frames := rfl
    rw [e, C.fr]
  hd := C.hd
  dp := by have := C.dp; show A.depth + 1 + 2 * lv ≤ 900; omega
  un := by
    have := C.un
    have e : (A.under (.builtin "type.__call__" ⟨.ref c :: rest, []⟩)).units = A.units + 1 := rfl
    rw [e]; omega
  ok := C.ok
theorem perr_spec {x at_ : Value} {Q : Value → Shared → Prop} (G : Gd b) (C : Cx b (lv + 2) A L hid frs) (S : St b hid L m κ₀ κ (ex ++ own) s)
    (ok : ∀ s' e d, St b hid L m κ₀ κ (ex ++ (e, .err d) :: own) s' → Q (.ref e) s') : wpAny (model b.prog b.w) A (call (.ref 71) [x, at_]) Q E s := by
  obtain ⟨hp, g, dr, tk, os⟩ := s
  refine err_call (G.K.keeps S.bs) (Nat.le_of_ble_eq_true rfl) (toolerr_spec G C.under (St.perr S) fun s' d l S' => ⟨rfl, ok _ _ (some d) (S'.drop (List.Sublist.append (List.Sublist.refl _) (List.sublist_cons_self _ _)))⟩)
end
noncomputable def tubO (t c : Addr) (x n sm : Int) (tx tn ts : Tok) (vs : List Value) : List (Addr × AObj) := [(t, .list [.ref c, .int x tx, .int n tn, .int sm ts]), (c, .list vs)]
/-- a tub, at most N draws from it so far -/
inductive Tub (t : Addr) (N : Nat) (own : List (Addr × AObj)) : Prop
  | mk (c : Addr) (x n sm : Int) (tx tn ts : Tok) (vs : List Value) (cells : List Int) (e : own = tubO t c x n sm tx tn ts vs) (h1 : IntsAre vs cells) (h2 : 0 ≤ x) (h3 : 0 ≤ n) (h4 : n ≤ (N : Int)) (h5 : 0 ≤ sm) (h6 : sm < 1009) (h7 : cells.length ≤ 1000)

section
variable {b : Bs} {lv : Nat} {A : Around} {E : Value → Shared → Prop} {s : Shared} {hid : Kw} {m : Str → Option Value} {κ₀ κ : Kw} {ex own : List (Addr × AObj)} {frs : List Env} {L : Addr}

set_option maxHeartbeats 2000000 in
theorem cup_spec {t : Addr} {N : Nat} {k : Int} {tk : Tok} {Q : Value → Shared → Prop} (G : Gd b) (C : Cx b (lv + 1) A L hid frs)
    (S : St b hid L m κ₀ κ (ex ++ own) s) (T : Tub t N own) (hN : N ≤ 100000) (hk : 0 < k) (hk' : k ≤ 1000)
    (ok : ∀ s' own' d td, St b hid L m κ₀ κ (ex ++ own') s' → Tub t (N + 1) own' → 0 ≤ d → d < k → Q (.int d td) s') :
    wpAny (model b.prog b.w) A (call (.ref 853) [.ref t, .int k tk]) Q E s := by
  obtain ⟨c, x, n, sm, tx, tn, ts, vs, cells, rfl, hv, hx, hn, hn', hs, hs', hl⟩ := T
  refine call_cx [("many", .int k tk), ("tub", .ref t)] G C S (by k_is) (by k_is) (BindsTo.of_eq rfl) (locs rfl) rfl rfl rfl (by decide) fun L' hid' s' A' env' hE hI hA C' S' ret => ?_
  refine R_execs (R_joinK (fun KK => ∀ s' x tx vs cells, St b hid' L' (fun y => List.lookup y [(Str.ofString "many", Value.int k tk), (Str.ofString "tub", Value.ref t)]) κ κ (tubO t c x n sm tx tn ts vs) s' → IntsAre vs cells → 0 ≤ x → cells.length ≤ 1000 → KK s') ?_ ?_)
  · intro KK hK
    repeat' k_extra "z"
    k_extra "zi"
    · repeat' k_extra "z"
      cases hv with
      | nil => 
        repeat' k_extra "z"
        exact ⟨rfl, hK _ _ _ _ _ (St.drop (by assumption) (List.sublist_cons_self _ _)) .nil hx hl⟩
      | cons i ti hv => 
        have hz : _ < sizeLine := Nat.lt_of_le_of_lt (Nat.le_of_eq hv.length) (Nat.lt_of_lt_of_le (Nat.lt_of_succ_le hl) (by decide))
        repeat' k_extra "z"
        refine ⟨rfl, hK _ _ _ _ _ (St.drop (by assumption) (List.sublist_cons_self _ _)) hv ?_ (Nat.le_of_succ_le hl)⟩
        split <;> omega
    · repeat' k_extra "z"
      exact ⟨rfl, hK _ _ _ _ _ (by assumption) hv hx hl⟩
  · rintro s' x tx vs cells S hv hx hl
    repeat' k_extra "z"
    refine ok _ _ _ _ (ret.st (by assumption)) ⟨_, _, _, _, _, _, _, _, _, rfl, hv, fdiv_lo hx hk, by omega, by omega, hs, hs', hl⟩ (fmod_lo hk) (fmod_hi hk)
end
/-- what the tables hold -/
structure TabD where
  rules : List (Int × Int × Int)
  rows : List (List Int)
  gotos : List (List (PyData × PyData))
  defaults : List Int
noncomputable abbrev numD : List (PyData × PyData) := [(.str "$end", .int 0), (.str "error", .int 1), (.str "$undefined", .int 2), (.str "a", .int 3), (.str "b", .int 4)]
theorem ints_get {vs : List Value} {ns : List Int} (h : IntsAre vs ns) {i : Nat} {n : Int} (e : ns[i]? = some n) : ∃ t, vs[i]? = some (.int n t) := by
  induction h generalizing i with
  | nil => simp at e
  | cons k t _ ih =>
    cases i with
    | zero => simp at e; subst e; exact ⟨t, rfl⟩
    | succ i => simpa using ih (by simpa using e)
inductive TabK (κ : Kw) (tb : Addr) (T : TabD) : Prop
  | mk (d ls lns bfs dfs nms gr rws gts cf se : Addr) (t5 tm : Tok) (lsv lnv bfv dfv rwv gtv : List Value) (k1 : κ tb (.inst 245 d))
    (k2 : κ d (.attrs 245 [("names", .ref 841), ("terminal_count", .int 5 t5), ("lefts", .ref ls), ("lengths", .ref lns), ("befores", .ref bfs), ("defaults", .ref dfs), ("numbers", .ref nms), ("grammar", .ref gr), ("rows", .ref rws), ("gotos", .ref gts), ("conflicts", .ref cf), ("settled", .ref se), ("mode", .str "drawn" tm)]))
    (k3 : κ ls (.list lsv)) (k4 : κ lns (.list lnv)) (k5 : κ bfs (.list bfv)) (k6 : κ dfs (.list dfv)) (k7 : κ nms (.tabS numD)) (k8 : κ rws (.list rwv)) (k9 : κ gts (.list gtv))
    (i1 : IntsAre lsv (5 :: T.rules.map (·.1))) (i2 : IntsAre lnv (2 :: T.rules.map (·.2.1))) (i3 : IntsAre bfv (0 :: T.rules.map (·.2.2))) (i4 : IntsAre dfv T.defaults)
    (i5 : ∀ (i : Nat) row, T.rows[i]? = some row → ∃ (a : Addr) (vs : List Value), rwv[i]? = some (Value.ref a) ∧ κ a (.list vs) ∧ IntsAre vs row)
    (i6 : ∀ (i : Nat) D, T.gotos[i]? = some D → ∃ a : Addr, gtv[i]? = some (Value.ref a) ∧ κ a (.tabI D))
section
variable {b : Bs} {lv : Nat} {A : Around} {E : Value → Shared → Prop} {s : Shared} {hid : Kw} {L : Addr} {m m' : Str → Option Value} {κ₀ κ : Kw} {ex own own' : List (Addr × AObj)} {frs : List Env} {env : Env} {tb : Addr} {T : TabD}
set_option maxHeartbeats 2000000


theorem St.e (S : St b hid L m κ₀ κ own s) : St b hid L m κ₀ κ (own ++ []) s := by rwa [List.append_nil]
theorem Ret.pure {hid' : Kw} {L' : Addr} {own₁ : List (Addr × AObj)} {s' : Shared} (R : Ret b hid' L' hid L m κ₀ κ own frs) (S : St b hid' L' m' κ κ own₁ s') : St b hid L m κ₀ κ own s' :=
  (R.st S).drop (List.sublist_append_left _ _)

theorem explicit_spec {st k c : Int} {t1 t2 : Tok} {row : List Int} {Q : Value → Shared → Prop} (G : Gd b) (C : Cx b (lv + 1) A L hid frs) (S : St b hid L m κ₀ κ own s) (TK : TabK κ tb T)
    (h0 : 0 ≤ st) (h1 : st < 100) (hr : T.rows[st.toNat]? = some row) (k0 : 0 ≤ k) (k1 : k < 100) (hc : row[k.toNat]? = some c) (ok : ∀ s' t, St b hid L m κ₀ κ own s' → Q (.int c t) s') :
    wpAny (model b.prog b.w) A (call (.ref 235) [.ref tb, .int st t1, .int k t2]) Q E s := by
  obtain ⟨d, ls, lns, bfs, dfs, nms, gr, rws, gts, cf, se, t5, tm, lsv, lnv, bfv, dfv, rwv, gtv, k1, k2, k3, k4, k5, k6, k7, k8, k9, i1, i2, i3, i4, i5, i6⟩ := TK
  obtain ⟨ra, rv, e1, e2, e3⟩ := i5 _ _ hr
  obtain ⟨tc, e4⟩ := ints_get e3 hc
  refine call_cx [("terminal", .int k t2), ("state", .int st t1), ("self", .ref tb)] G C S.e (by k_is) (by k_is) (BindsTo.of_eq rfl) (locs rfl) rfl rfl rfl (by decide) fun L' hid' s' A' env' hE hI hA C' S' ret => ?_
  repeat' k_extra "z"
  exact ok _ _ (ret.pure (by assumption))
theorem default_spec {st c : Int} {t1 : Tok} {Q : Value → Shared → Prop} (G : Gd b) (C : Cx b (lv + 1) A L hid frs) (S : St b hid L m κ₀ κ own s) (TK : TabK κ tb T)
    (h0 : 0 ≤ st) (h1 : st < 100) (hr : T.defaults[st.toNat]? = some c) (ok : ∀ s' t, St b hid L m κ₀ κ own s' → Q (.int c t) s') :
    wpAny (model b.prog b.w) A (call (.ref 172) [.ref tb, .int st t1]) Q E s := by
  obtain ⟨d, ls, lns, bfs, dfs, nms, gr, rws, gts, cf, se, t5, tm, lsv, lnv, bfv, dfv, rwv, gtv, k1, k2, k3, k4, k5, k6, k7, k8, k9, i1, i2, i3, i4, i5, i6⟩ := TK
  obtain ⟨tc, e4⟩ := ints_get i4 hr
  refine call_cx [("state", .int st t1), ("self", .ref tb)] G C S.e (by k_is) (by k_is) (BindsTo.of_eq rfl) (locs rfl) rfl rfl rfl (by decide) fun L' hid' s' A' env' hE hI hA C' S' ret => ?_
  repeat' k_extra "z"
  exact ok _ _ (ret.pure (by assumption))
theorem left_spec {r c : Int} {t1 : Tok} {Q : Value → Shared → Prop} (G : Gd b) (C : Cx b (lv + 1) A L hid frs) (S : St b hid L m κ₀ κ own s) (TK : TabK κ tb T)
    (h0 : 0 ≤ r) (h1 : r < 100) (hr : (5 :: T.rules.map (·.1))[r.toNat]? = some c) (ok : ∀ s' t, St b hid L m κ₀ κ own s' → Q (.int c t) s') :
    wpAny (model b.prog b.w) A (call (.ref 137) [.ref tb, .int r t1]) Q E s := by
  obtain ⟨d, ls, lns, bfs, dfs, nms, gr, rws, gts, cf, se, t5, tm, lsv, lnv, bfv, dfv, rwv, gtv, k1, k2, k3, k4, k5, k6, k7, k8, k9, i1, i2, i3, i4, i5, i6⟩ := TK
  obtain ⟨tc, e4⟩ := ints_get i1 hr
  refine call_cx [("rule", .int r t1), ("self", .ref tb)] G C S.e (by k_is) (by k_is) (BindsTo.of_eq rfl) (locs rfl) rfl rfl rfl (by decide) fun L' hid' s' A' env' hE hI hA C' S' ret => ?_
  repeat' k_extra "z"
  exact ok _ _ (ret.pure (by assumption))
theorem length_spec {r c : Int} {t1 : Tok} {Q : Value → Shared → Prop} (G : Gd b) (C : Cx b (lv + 1) A L hid frs) (S : St b hid L m κ₀ κ own s) (TK : TabK κ tb T)
    (h0 : 0 ≤ r) (h1 : r < 100) (hr : (2 :: T.rules.map (·.2.1))[r.toNat]? = some c) (ok : ∀ s' t, St b hid L m κ₀ κ own s' → Q (.int c t) s') :
    wpAny (model b.prog b.w) A (call (.ref 144) [.ref tb, .int r t1]) Q E s := by
  obtain ⟨d, ls, lns, bfs, dfs, nms, gr, rws, gts, cf, se, t5, tm, lsv, lnv, bfv, dfv, rwv, gtv, k1, k2, k3, k4, k5, k6, k7, k8, k9, i1, i2, i3, i4, i5, i6⟩ := TK
  obtain ⟨tc, e4⟩ := ints_get i2 hr
  refine call_cx [("rule", .int r t1), ("self", .ref tb)] G C S.e (by k_is) (by k_is) (BindsTo.of_eq rfl) (locs rfl) rfl rfl rfl (by decide) fun L' hid' s' A' env' hE hI hA C' S' ret => ?_
  repeat' k_extra "z"
  exact ok _ _ (ret.pure (by assumption))
theorem before_spec {r c : Int} {t1 : Tok} {Q : Value → Shared → Prop} (G : Gd b) (C : Cx b (lv + 1) A L hid frs) (S : St b hid L m κ₀ κ own s) (TK : TabK κ tb T)
    (h0 : 0 ≤ r) (h1 : r < 100) (hr : (0 :: T.rules.map (·.2.2))[r.toNat]? = some c) (ok : ∀ s' t, St b hid L m κ₀ κ own s' → Q (.int c t) s') :
    wpAny (model b.prog b.w) A (call (.ref 151) [.ref tb, .int r t1]) Q E s := by
  obtain ⟨d, ls, lns, bfs, dfs, nms, gr, rws, gts, cf, se, t5, tm, lsv, lnv, bfv, dfv, rwv, gtv, k1, k2, k3, k4, k5, k6, k7, k8, k9, i1, i2, i3, i4, i5, i6⟩ := TK
  obtain ⟨tc, e4⟩ := ints_get i3 hr
  refine call_cx [("rule", .int r t1), ("self", .ref tb)] G C S.e (by k_is) (by k_is) (BindsTo.of_eq rfl) (locs rfl) rfl rfl rfl (by decide) fun L' hid' s' A' env' hE hI hA C' S' ret => ?_
  repeat' k_extra "z"
  exact ok _ _ (ret.pure (by assumption))

/-- the goto of a dict; -1 where there is none -/
noncomputable def gotoOf (D : List (PyData × PyData)) (l : Int) : Int := match (PySem.Spec.lookup (.int l) D) with | some (.int g) => g | _ => -1
noncomputable def GotoOk (D : List (PyData × PyData)) : Prop := ∀ l, PySem.Spec.lookup (.int l) D = none ∨ ∃ g, PySem.Spec.lookup (.int l) D = some (.int g)
theorem flat_int {v : Value} {i : Int} (h : PyProof.V.Flat v (.int i)) : ∃ t, v = .int i t := by
  cases h default; exact ⟨_, rfl⟩
theorem goto_spec {st l : Int} {t1 t2 : Tok} {D : List (PyData × PyData)} {Q : Value → Shared → Prop} (G : Gd b) (C : Cx b (lv + 1) A L hid frs) (S : St b hid L m κ₀ κ own s) (TK : TabK κ tb T)
    (h0 : 0 ≤ st) (h1 : st < 100) (hr : T.gotos[st.toNat]? = some D) (hD : GotoOk D) (ok : ∀ s' t, St b hid L m κ₀ κ own s' → Q (.int (gotoOf D l) t) s') :
    wpAny (model b.prog b.w) A (call (.ref 242) [.ref tb, .int st t1, .int l t2]) Q E s := by
  obtain ⟨d, ls, lns, bfs, dfs, nms, gr, rws, gts, cf, se, t5, tm, lsv, lnv, bfv, dfv, rwv, gtv, k1, k2, k3, k4, k5, k6, k7, k8, k9, i1, i2, i3, i4, i5, i6⟩ := TK
  obtain ⟨ra, e1, e2⟩ := i6 _ _ hr
  refine call_cx [("nonterminal", .int l t2), ("state", .int st t1), ("self", .ref tb)] G C S.e (by k_is) (by k_is) (BindsTo.of_eq rfl) (locs rfl) rfl rfl rfl (by decide) fun L' hid' s' A' env' hE hI hA C' S' ret => ?_
  repeat' k_extra "z"
  refine R_callgetI (by assumption) (.inr e2) (.int (-1) _) fun s'' v S'' hv => ?_
  have : ∃ t, v = .int (gotoOf D l) t := by
    rcases hD l with h | ⟨g, h⟩
    · rw [h] at hv; unfold gotoOf; rw [h]; exact flat_int hv
    · rw [h] at hv; unfold gotoOf; rw [h]; exact flat_int hv
  obtain ⟨t, rfl⟩ := this
  repeat' k_extra "z"
  exact ok _ _ (ret.pure (by assumption))
/-- a name's number -/
noncomputable def numOf (x : Str) : Int := match (PySem.Spec.lookup (.str x) numD) with | some (.int g) => g | _ => 2
theorem terminal_spec {x : Str} {t1 : Tok} {Q : Value → Shared → Prop} (G : Gd b) (C : Cx b (lv + 1) A L hid frs) (S : St b hid L m κ₀ κ own s) (TK : TabK κ tb T)
    (hx : PySem.Spec.lookup (.str x) numD = none ∨ ∃ g, PySem.Spec.lookup (.str x) numD = some (.int g)) (ok : ∀ s' t, St b hid L m κ₀ κ own s' → Q (.int (numOf x) t) s') :
    wpAny (model b.prog b.w) A (call (.ref 130) [.ref tb, .str x t1]) Q E s := by
  obtain ⟨d, ls, lns, bfs, dfs, nms, gr, rws, gts, cf, se, t5, tm, lsv, lnv, bfv, dfv, rwv, gtv, k1, k2, k3, k4, k5, k6, k7, k8, k9, i1, i2, i3, i4, i5, i6⟩ := TK
  refine call_cx [("name", .str x t1), ("self", .ref tb)] G C S.e (by k_is) (by k_is) (BindsTo.of_eq rfl) (locs rfl) rfl rfl rfl (by decide) fun L' hid' s' A' env' hE hI hA C' S' ret => ?_
  repeat' k_extra "z"
  refine R_callgetS (by assumption) (.inr k7) (.int 2 _) fun s'' v S'' hv => ?_
  have : ∃ t, v = .int (numOf x) t := by
    rcases hx with h | ⟨g, h⟩
    · rw [h] at hv; unfold numOf; rw [h]; exact flat_int hv
    · rw [h] at hv; unfold numOf; rw [h]; exact flat_int hv
  obtain ⟨t, rfl⟩ := this
  repeat' k_extra "z"
  exact ok _ _ (ret.pure (by assumption))
end
noncomputable abbrev BARREDz : Int := -1048576
noncomputable abbrev ACCEPTz : Int := 1048576
noncomputable def actF (c df : Int) : Int := if c = BARREDz then 0 else if c = 0 then -df else c
section
variable {b : Bs} {lv : Nat} {A : Around} {E : Value → Shared → Prop} {s : Shared} {hid : Kw} {L : Addr} {m m' : Str → Option Value} {κ₀ κ : Kw} {ex own own' : List (Addr × AObj)} {frs : List Env} {env : Env} {tb : Addr} {T : TabD}
set_option maxHeartbeats 2000000
theorem action_spec {st k c df : Int} {t1 t2 : Tok} {row : List Int} {Q : Value → Shared → Prop} (G : Gd b) (C : Cx b (lv + 2) A L hid frs) (S : St b hid L m κ₀ κ own s) (TK : TabK κ tb T)
    (h0 : 0 ≤ st) (h1 : st < 100) (hr : T.rows[st.toNat]? = some row) (k0 : 0 ≤ k) (k1 : k < 100) (hc : row[k.toNat]? = some c) (hd : T.defaults[st.toNat]? = some df) (ok : ∀ s' t, St b hid L m κ₀ κ own s' → Q (.int (actF c df) t) s') :
    wpAny (model b.prog b.w) A (call (.ref 186) [.ref tb, .int st t1, .int k t2]) Q E s := by
  have TK' := TK
  obtain ⟨d, ls, lns, bfs, dfs, nms, gr, rws, gts, cf, se, t5, tm, lsv, lnv, bfv, dfv, rwv, gtv, k1, k2, k3, k4, k5, k6, k7, k8, k9, i1, i2, i3, i4, i5, i6⟩ := TK'
  refine call_cx [("terminal", .int k t2), ("state", .int st t1), ("self", .ref tb)] G C S.e (by k_is) (by k_is) (BindsTo.of_eq rfl) (locs rfl) rfl rfl rfl (by decide) fun L' hid' s' A' env' hE hI hA C' S' ret => ?_
  repeat' k_extra "z"
  with_reducible refine explicit_spec G C' (by assumption) TK h0 h1 hr k0 (by assumption) hc fun _ _ _ => ?_
  repeat' k_extra "z"
  k_extra "zi"
  · repeat' k_extra "z"
    have : actF c df = 0 := by unfold actF; rw [if_pos (by simpa using hq)]
    exact this ▸ ok _ _ (ret.pure (by assumption))
  have n1 : ¬ c = BARREDz := by simpa using hq
  clear hq
  repeat' k_extra "z"
  k_extra "zi"
  · repeat' k_extra "z"
    with_reducible refine default_spec G C' (by assumption) TK h0 h1 hd fun _ _ _ => ?_
    repeat' k_extra "z"
    have : actF c df = -df := by unfold actF; rw [if_neg n1, if_pos (by simpa using hq)]
    exact this ▸ ok _ _ (ret.pure (by assumption))
  repeat' k_extra "z"
  have : actF c df = c := by unfold actF; rw [if_neg n1, if_neg (by simpa using hq)]
  exact this ▸ ok _ _ (ret.pure (by assumption))
end
noncomputable def isExp (row : List Int) (k : Nat) : Bool := k != 1 && k != 2 && (row.getD k 0 != 0 && row.getD k 0 != BARREDz)
noncomputable def expUpto (row : List Int) (i : Nat) : List Int := ((List.range i).filter (isExp row)).map (fun (k : Nat) => (k : Int))
theorem expUpto_succ (row : List Int) (i : Nat) : expUpto row (i + 1) = if isExp row i then expUpto row i ++ [(i : Int)] else expUpto row i := by
  unfold expUpto
  rw [List.range_succ, List.filter_append]
  split <;> simp_all
theorem ints_snoc {vs : List Value} {ns : List Int} (h : IntsAre vs ns) (i : Int) (t : Tok) : IntsAre (vs ++ [.int i t]) (ns ++ [i]) := by
  induction h with
  | nil => exact .cons _ _ .nil
  | cons _ _ _ ih => exact .cons _ _ ih
section
variable {b : Bs} {lv : Nat} {A : Around} {E : Value → Shared → Prop} {s : Shared} {hid : Kw} {L : Addr} {m m' : Str → Option Value} {κ₀ κ : Kw} {ex own own' : List (Addr × AObj)} {frs : List Env} {env : Env} {tb : Addr} {T : TabD}
set_option maxHeartbeats 2000000
theorem expected_spec {st : Int} {t1 : Tok} {row : List Int} {Q : Value → Shared → Prop} (G : Gd b) (C : Cx b (lv + 2) A L hid frs) (S : St b hid L m κ₀ κ own s) (TK : TabK κ tb T)
    (h0 : 0 ≤ st) (h1 : st < 100) (hr : T.rows[st.toNat]? = some row) (h5 : row.length = 5) (ok : ∀ s' f vs, St b hid L m κ₀ κ ((f, .list vs) :: own) s' → IntsAre vs (expUpto row 5) → Q (.ref f) s') :
    wpAny (model b.prog b.w) A (call (.ref 193) [.ref tb, .int st t1]) Q E s := by
  have TK' := TK
  obtain ⟨d, ls, lns, bfs, dfs, nms, gr, rws, gts, cf, se, t5, tm, lsv, lnv, bfv, dfv, rwv, gtv, k1, k2, k3, k4, k5, k6, k7, k8, k9, i1, i2, i3, i4, i5, i6⟩ := TK'
  refine call_cx [("state", .int st t1), ("self", .ref tb)] G C S.e (by k_is) (by k_is) (BindsTo.of_eq rfl) (locs rfl) rfl rfl rfl (by decide) fun L' hid' s' A' env' hE hI hA C' S' ret => ?_
  repeat' k_extra "z"
  with_reducible refine' R_For (iterRange b 5) (fun i m' κ' own' => κ = κ' ∧ ∃ f vs, own' = [(f, .list vs)] ∧ IntsAre vs (expUpto row i) ∧ m' "found" = some (.ref f) ∧ m' "self" = some (.ref tb) ∧ m' "state" = some (.int st t1)) C' hI ?k ?l ?fs ?h ?src ?body ?done
  case k => exact rfl
  case l => exact rfl
  case fs => intro _; exact rfl
  case src => exact fun _ _ _ _ _ => trivial
  case h =>
    repeat' k_extra "z"
    with_reducible refine' R_iterRange 5 (by assumption) ?a ?b fun s'' it S'' => ?_
    case a => k_extra "has"
    case b => decide
    exact ⟨it, _, _, _, rfl, S''.drop (.cons_cons _ (.cons _ (.refl _))), rfl, _, _, rfl, .nil, rfl, rfl, rfl⟩
  case body =>
    intro i it v m₁ κ' _ s₁ E' Nx hi hZ10 hZ11 hN S₁
    obtain ⟨t, rfl⟩ := hZ10
    obtain ⟨rfl, f, vs, rfl, hv, n1, n2, n3⟩ := hZ11
    have hz : vs.length ≤ sizeLine := by
      have e := hv.length
      have : (expUpto row i).length ≤ i := by unfold expUpto; rw [List.length_map]; exact Nat.le_trans (List.length_filter_le _ _) (by simp)
      exact Nat.le_trans (by omega : vs.length ≤ 5) (by decide)
    have hrow : row[(i : Int).toNat]? = some (row.getD i 0) := by simp [h5, hi]
    have skip : ∀ {m₂ : Str → Option Value} {s₂ : Shared}, St b hid' L' m₂ κ κ ((it, .rit ((i + 1 : Nat) : Int) ((5 : Nat) - ((i + 1 : Nat) : Int))) :: [(f, .list vs)]) s₂ → isExp row i = false → m₂ "found" = some (.ref f) → m₂ "self" = some (.ref tb) → m₂ "state" = some (.int st t1) →
        Nx s₂ :=
      fun S q a1 a2 a3 => hN _ _ _ _ S ⟨rfl, f, vs, rfl, by rw [expUpto_succ, if_neg (by rw [q]; decide)]; exact hv, a1, a2, a3⟩
    repeat' k_extra "z"
    k_extra "zi"
    · repeat' k_extra "z"
      k_extra "zi"
      · repeat' k_extra "z"
        with_reducible refine explicit_spec G C' (by assumption) TK h0 h1 hr (Int.natCast_nonneg i) (by omega) hrow fun _ _ _ => ?_
        repeat' k_extra "z"
        k_extra "zi"
        · repeat' k_extra "z"
          k_extra "zi"
          · repeat' k_extra "z"
            refine' hN _ _ _ _ ?S ⟨rfl, f, _, rfl, ?q, ?_, ?_, ?_⟩
            case S => assumption
            case q => rw [expUpto_succ, if_pos (by unfold isExp; simp_all; omega)]; exact ints_snoc hv _ _
            all_goals assumption
          · repeat' k_extra "z"
            refine' skip ?S ?q ?_ ?_ ?_
            case S => assumption
            case q => unfold isExp; simp_all
            all_goals assumption
        · repeat' k_extra "z"
          refine' skip ?S ?q ?_ ?_ ?_
          case S => assumption
          case q => unfold isExp; simp_all
          all_goals assumption
      · repeat' k_extra "z"
        refine' skip ?S ?q ?_ ?_ ?_
        case S => assumption
        case q => unfold isExp; simp_all; omega
        all_goals assumption
    · repeat' k_extra "z"
      refine' skip ?S ?q ?_ ?_ ?_
      case S => assumption
      case q => unfold isExp; simp_all; omega
      all_goals assumption
  case done =>
    intro m₁ _ _ s₁ hZ4 S₁
    obtain ⟨rfl, f, vs, rfl, hv, n1, n2, n3⟩ := hZ4
    repeat' k_extra "z"
    exact ok _ _ _ (ret.st S₁ |>.perm (by simpa using List.perm_append_comm)) hv
end
noncomputable def consF (row : List Int) (df : Int) : Bool := df != 0 && row == [0, 0, 0, 0, 0]
theorem row_zero {row : List Int} (h5 : row.length = 5) : (∀ k, k < 5 → row.getD k 0 = 0) ↔ row = [0, 0, 0, 0, 0] := by
  constructor
  · intro h
    refine (List.eq_replicate_iff (n := 5)).mpr ⟨h5, fun b hb => ?_⟩
    obtain ⟨i, hi, rfl⟩ := List.mem_iff_getElem.mp hb
    have := h i (h5 ▸ hi)
    rwa [List.getD_eq_getElem?_getD, List.getElem?_eq_getElem hi] at this
  · intro h k hk
    subst h
    show (List.replicate 5 (0 : Int)).getD k 0 = 0
    rw [List.getD_eq_getElem?_getD, List.getElem?_replicate]
    split <;> rfl
section
variable {b : Bs} {lv : Nat} {A : Around} {E : Value → Shared → Prop} {s : Shared} {hid : Kw} {L : Addr} {m m' : Str → Option Value} {κ₀ κ : Kw} {ex own own' : List (Addr × AObj)} {frs : List Env} {env : Env} {tb : Addr} {T : TabD}
set_option maxHeartbeats 2000000
theorem cons_spec {st df : Int} {t1 : Tok} {row : List Int} {Q : Value → Shared → Prop} (G : Gd b) (C : Cx b (lv + 2) A L hid frs) (S : St b hid L m κ₀ κ own s) (TK : TabK κ tb T)
    (h0 : 0 ≤ st) (h1 : st < 100) (hr : T.rows[st.toNat]? = some row) (h5 : row.length = 5) (hd : T.defaults[st.toNat]? = some df) (ok : ∀ s', St b hid L m κ₀ κ own s' → Q (.bool (consF row df)) s') :
    wpAny (model b.prog b.w) A (call (.ref 200) [.ref tb, .int st t1]) Q E s := by
  have TK' := TK
  obtain ⟨d, ls, lns, bfs, dfs, nms, gr, rws, gts, cf, se, t5, tm, lsv, lnv, bfv, dfv, rwv, gtv, k1, k2, k3, k4, k5, k6, k7, k8, k9, i1, i2, i3, i4, i5, i6⟩ := TK'
  clear k3 k4 k5 k6 k7 k8 k9 i1 i2 i3 i4 i5 i6
  refine call_cx [("state", .int st t1), ("self", .ref tb)] G C S.e (by k_is) (by k_is) (BindsTo.of_eq rfl) (locs rfl) rfl rfl rfl (by decide) fun L' hid' s' A' env' hE hI hA C' S' ret => ?_
  repeat' k_extra "z"
  with_reducible refine default_spec G C' (by assumption) TK h0 h1 hd fun _ _ _ => ?_
  repeat' k_extra "z"
  k_extra "zi"
  · repeat' k_extra "z"
    have : consF row df = false := by unfold consF; rw [show df = 0 by simpa using hq]; rfl
    exact this ▸ ok _ (ret.pure (by assumption))
  have nd : df ≠ 0 := by simpa using hq
  repeat' k_extra "z"
  with_reducible refine' R_For (iterRange b 5) (fun i m' κ' own' => κ = κ' ∧ own' = [] ∧ (∀ k, k < i → row.getD k 0 = 0) ∧ m' "self" = some (.ref tb) ∧ m' "state" = some (.int st t1)) C' hI ?k ?l ?fs ?h ?src ?body ?done
  case k => exact rfl
  case l => exact rfl
  case fs => intro _; exact rfl
  case src => exact fun _ _ _ _ _ => trivial
  case h =>
    repeat' k_extra "z"
    with_reducible refine' R_iterRange 5 (by assumption) ?a ?b fun s'' it S'' => ?_
    case a => k_extra "has"
    case b => decide
    exact ⟨it, _, _, _, rfl, S''.drop (.cons_cons _ (.cons _ (.refl _))), rfl, rfl, fun k hk => absurd hk (by omega), rfl, rfl⟩
  case body =>
    intro i it v m₁ κ' _ s₁ E' Nx hi hZ10 hZ11 hN S₁
    obtain ⟨t, rfl⟩ := hZ10
    obtain ⟨rfl, rfl, hz, n2, n3⟩ := hZ11
    have hrow : row[(i : Int).toNat]? = some (row.getD i 0) := by simp [h5, hi]
    repeat' k_extra "z"
    with_reducible refine explicit_spec G C' (by assumption) TK h0 h1 hr (Int.natCast_nonneg i) (by omega) hrow fun _ _ _ => ?_
    repeat' k_extra "z"
    k_extra "zi"
    · repeat' k_extra "z"
      have : consF row df = false := by
        unfold consF
        have : row ≠ [0, 0, 0, 0, 0] := fun e => by
          have := (row_zero h5).mpr e i hi
          rw [this] at hq
          exact absurd hq (by decide)
        simp [this]
      exact this ▸ ok _ (ret.pure (by assumption))
    · repeat' k_extra "z"
      refine' hN _ _ _ _ ?S ⟨rfl, rfl, ?q, ?_, ?_⟩
      case S => assumption
      case q =>
        intro k hk
        rcases Nat.lt_succ_iff_lt_or_eq.mp hk with h | rfl
        · exact hz k h
        · simpa using hq
      all_goals assumption
  case done =>
    intro m₁ _ _ s₁ hZ4 S₁
    obtain ⟨rfl, rfl, hz, n2, n3⟩ := hZ4
    repeat' k_extra "z"
    have : consF row df = true := by
      unfold consF
      rw [(row_zero h5).mp hz]
      simp [nd]
    exact this ▸ ok _ (ret.pure S₁)
end
/- the pure machine -/
inductive Mv where
  | shift (g : Int)
  | reduce (r : Int)
  | accept
  | pop (s : Int)
structure Cfg where
  stack : List Int
  worths : List (Option Str)
  moves : List Mv
  spot : Nat
  seen : Bool
structure Res where
  ans : Str
  val : Option Str
  moves : List Mv
  fault : Option (Str × Int × List Int × Int)
  count : Int
noncomputable def TabD.row (T : TabD) (st : Int) : List Int := T.rows.getD st.toNat []
noncomputable def TabD.df (T : TabD) (st : Int) : Int := T.defaults.getD st.toNat 0
noncomputable def TabD.rule (T : TabD) (r : Int) : Int × Int × Int := T.rules.getD (r.toNat - 1) (0, 0, 0)
noncomputable def TabD.goto (T : TabD) (st l : Int) : Int := gotoOf (T.gotos.getD st.toNat []) l
noncomputable def TabD.lone (T : TabD) (st : Int) : Int := if consF (T.row st) (T.df st) then T.df st else 0
noncomputable def Cfg.top (c : Cfg) : Int := c.stack.getLastD 0
noncomputable def Cfg.cnt (c : Cfg) : Int := c.spot + (if c.seen then 1 else 0)
noncomputable def kindAt (kinds : List Str) (i : Nat) : Str := kinds.getD i "$end"
noncomputable def termOf (x : Str) : Int := if numOf x = 1 then 2 else numOf x
noncomputable def worthAt (kinds : List Str) (i : Nat) : Str := if i < kinds.length then ("w" : Str) ++ (toString i : String) else ""
noncomputable def raisedR (c : Cfg) (moves : List Mv) : Res := { ans := "raised", val := none, moves, fault := none, count := c.cnt }
noncomputable def reduceF (T : TabD) (most : Int) (c : Cfg) (r : Int) : Cfg ⊕ Res :=
  let (left, length, ahead) := T.rule r
  if (c.worths.length : Int) - length - ahead < 0 ∨ most ≤ c.moves.length then .inr (raisedR c c.moves) else
  let first := c.worths.length - length.toNat - ahead.toNat
  let worth := ((c.worths.drop first).head?).join
  let stack := c.stack.take (c.worths.length - length.toNat + 1)
  let g := T.goto (stack.getLastD 0) left
  if g < 0 then .inr (raisedR c (c.moves ++ [.reduce r])) else
  .inl { c with stack := stack ++ [g], worths := c.worths.take (c.worths.length - length.toNat) ++ [worth], moves := c.moves ++ [.reduce r] }
noncomputable def turnF (T : TabD) (kinds : List Str) (most : Int) (c : Cfg) : Cfg ⊕ Res :=
  if 0 < T.lone c.top then reduceF T most c (T.lone c.top) else
  let c := { c with seen := true }
  let act := actF ((T.row c.top).getD (termOf (kindAt kinds c.spot)).toNat 0) (T.df c.top)
  if act = ACCEPTz then (if c.worths = [] ∨ most ≤ c.moves.length then .inr (raisedR c c.moves) else
    .inr { ans := "accepted", val := c.worths.getLast?.join, moves := c.moves ++ [.accept], fault := none, count := c.cnt })
  else if 0 < act then (if most ≤ c.moves.length then .inr (raisedR c c.moves) else
    .inl { stack := c.stack ++ [act], worths := c.worths ++ [some (worthAt kinds c.spot)], moves := c.moves ++ [.shift act], spot := c.spot + 1, seen := false })
  else if act < 0 then reduceF T most c (-act)
  else .inr { ans := "aborted", val := none, moves := c.moves, fault := some (kindAt kinds c.spot, c.top, expUpto (T.row c.top) 5, c.spot), count := c.cnt }
inductive Runs (T : TabD) (kinds : List Str) (most : Int) : Cfg → Res → Prop
  | done {c r} : turnF T kinds most c = .inr r → Runs T kinds most c r
  | more {c c' r} : turnF T kinds most c = .inl c' → Runs T kinds most c' r → Runs T kinds most c r
theorem Runs.det {T : TabD} {kinds : List Str} {most : Int} {c : Cfg} {r : Res} (h : Runs T kinds most c r) : ∀ {r'}, Runs T kinds most c r' → r = r' := by
  induction h with
  | done e => intro r' h'; cases h' with
    | done e' => rw [e] at e'; cases e'; rfl
    | more e' _ => rw [e] at e'; cases e'
  | more e _ ih => intro r' h'; cases h' with
    | done e' => rw [e] at e'; cases e'
    | more e' h' => rw [e] at e'; cases e'; exact ih h'

/-- what the drawn tables keep to -/
structure TabD.Ok (T : TabD) : Prop where
  n : ∃ n, 0 < n ∧ n ≤ 5 ∧ T.rows.length = n ∧ T.gotos.length = n ∧ T.defaults.length = n
  row : ∀ r ∈ T.rows, r.length = 5
  cell : ∀ r ∈ T.rows, ∀ a ∈ r, a = ACCEPTz ∨ a = BARREDz ∨ (0 ≤ a ∧ a < T.rows.length) ∨ (a < 0 ∧ -a ≤ T.rules.length)
  df : ∀ a ∈ T.defaults, 0 ≤ a ∧ a ≤ T.rules.length
  rule : ∀ r ∈ T.rules, 0 ≤ r.2.1 ∧ r.2.1 ≤ 3 ∧ 0 ≤ r.2.2 ∧ r.2.2 ≤ 2
  rules : T.rules.length ≤ 3
  goto : ∀ D ∈ T.gotos, GotoOk D ∧ ∀ l, gotoOf D l < T.rows.length
  err : ∀ r ∈ T.rows, r[1]? = some 0
/-- what holds of a configuration -/
structure Cfg.Ok (T : TabD) (most : Int) (c : Cfg) : Prop where
  len : c.stack.length = c.worths.length + 1
  sts : ∀ a ∈ c.stack, 0 ≤ a ∧ a < T.rows.length
  mvs : (c.moves.length : Int) ≤ most
  wl : c.worths.length ≤ c.moves.length

/- values -/
noncomputable def WorthIs : Value → Option Str → Prop
  | v, none => v = .none
  | v, some x => ∃ t, v = .str x t
noncomputable def Mv.is : Mv → List Value → Prop
  | .shift g, vs => ∃ t u, vs = [.str "shift" t, .int g u]
  | .reduce r, vs => ∃ t u, vs = [.str "reduce" t, .int r u]
  | .accept, vs => ∃ t, vs = [.str "accept" t]
  | .pop s, vs => ∃ t u, vs = [.str "pop" t, .int s u]
inductive All2 {α β : Type} (F : α → β → Prop) : List α → List β → Prop
  | nil : All2 F [] []
  | cons {a b l r} : F a b → All2 F l r → All2 F (a :: l) (b :: r)
section
variable {α β : Type} {F : α → β → Prop}
theorem All2.length {l : List α} {r : List β} (h : All2 F l r) : l.length = r.length := by
  induction h with
  | nil => rfl
  | cons _ _ ih => exact congrArg Nat.succ ih
theorem All2.append {l : List α} {r : List β} {l' r'} (h : All2 F l r) (h' : All2 F l' r') : All2 F (l ++ l') (r ++ r') := by
  induction h with
  | nil => exact h'
  | cons a _ ih => exact .cons a ih
theorem All2.snoc {l : List α} {r : List β} {a b} (h : All2 F l r) (x : F a b) : All2 F (l ++ [a]) (r ++ [b]) := h.append (.cons x .nil)
theorem All2.mono {G : α → β → Prop} (k : ∀ a b, F a b → G a b) {l : List α} {r : List β} (h : All2 F l r) : All2 G l r := by
  induction h with
  | nil => exact .nil
  | cons a _ ih => exact .cons (k _ _ a) ih
theorem All2.take {l : List α} {r : List β} (n : Nat) (h : All2 F l r) : All2 F (l.take n) (r.take n) := by
  induction h generalizing n with
  | nil => rw [List.take_nil, List.take_nil]; exact .nil
  | cons a _ ih => cases n with
    | zero => exact .nil
    | succ n => exact .cons a (ih n)
theorem All2.drop {l : List α} {r : List β} (n : Nat) (h : All2 F l r) : All2 F (l.drop n) (r.drop n) := by
  induction h generalizing n with
  | nil => rw [List.drop_nil, List.drop_nil]; exact .nil
  | cons a h ih => cases n with
    | zero => exact .cons a h
    | succ n => exact ih n
theorem All2.get {l : List α} {r : List β} {i : Nat} {y} (h : All2 F l r) (e : r[i]? = some y) : ∃ x, l[i]? = some x ∧ F x y := by
  induction h generalizing i with
  | nil => cases i <;> cases e
  | cons a _ ih => cases i with
    | zero => cases e; exact ⟨_, rfl, a⟩
    | succ i => exact ih e
end
theorem ints_take {vs : List Value} {ns : List Int} (h : IntsAre vs ns) : ∀ n, IntsAre (vs.take n) (ns.take n) := by
  induction h with
  | nil => intro n; simpa using IntsAre.nil
  | cons i t _ ih => intro n; cases n with
    | zero => exact .nil
    | succ n => exact .cons i t (ih n)
theorem ints_last {vs : List Value} {ns : List Int} {n : Int} (h : IntsAre vs (ns ++ [n])) : ∃ us t, vs = us ++ [.int n t] ∧ IntsAre us ns := by
  induction ns generalizing vs with
  | nil => cases h with | cons i t h => cases h; exact ⟨[], t, rfl, .nil⟩
  | cons k r ih => cases h with | cons i t h =>
    obtain ⟨us, u, rfl, h'⟩ := ih h
    exact ⟨_ :: us, u, rfl, .cons _ _ h'⟩
theorem last_split {c : List Int} {n : Nat} (h : c.length = n + 1) : ∃ pre, c = pre ++ [c.getLastD 0] := by
  have ne : c ≠ [] := fun e => by rw [e] at h; simp at h
  refine ⟨c.dropLast, ?_⟩
  have : c.getLastD 0 = c.getLast ne := by rw [List.getLastD_eq_getLast?, List.getLast?_eq_some_getLast ne]; rfl
  rw [this, List.dropLast_concat_getLast]
/- arithmetic, said with letters -/
theorem le_eq {a b k K : Nat} (e : a = b) (h : b ≤ k) (d : k ≤ K) : a ≤ K := e ▸ Nat.le_trans h d
theorem lt63 {x : Int} (h : x < 5) : x < 2 ^ 63 := Int.lt_trans h (by decide)
theorem lt63h {x : Int} (h : x < 100) : x < 2 ^ 63 := Int.lt_trans h (by decide)
theorem lt63k {n k : Nat} (h : n < k) (hk : k ≤ 1000000) : (n : Int) < 2 ^ 63 := Int.lt_trans (Int.ofNat_lt.mpr (Nat.lt_of_lt_of_le h hk)) (by decide)
theorem lt63n {n : Nat} (h : n < 5) : (n : Int) < 2 ^ 63 := lt63k h (by decide)
theorem tn_lt {x : Int} {n : Nat} (h : 0 ≤ x ∧ x < 5) (e : n = 5) : x.toNat < n := by subst e; exact (Int.toNat_lt h.1).mpr h.2
theorem spot_or {n k : Nat} (h : k ≤ 10) : (n : Int) < 2 ^ 63 ∨ ¬ n < k := (Nat.lt_or_ge n k).imp (fun q => lt63k q (Nat.le_trans h (by decide))) Nat.not_lt_of_ge
theorem lt_cast {n a b : Nat} (e : a = b) (h : (n : Int) < a) : n < b := e ▸ Int.ofNat_lt.mp h
theorem ge_cast {n a b : Nat} (e : a = b) (h : ¬ (n : Int) < a) : b ≤ n := e ▸ Nat.le_of_not_lt fun q => h (Int.ofNat_lt.mpr q)
theorem most_ge {a b : Nat} {m : Int} (e : a = b) (h : (a : Int) = m) : m ≤ b := by rw [← h, e]; exact Int.le_refl _
theorem most_eq {a b : Nat} {m : Int} (e : a = b) (l : (b : Int) ≤ m) (h : m ≤ b) : (a : Int) = m := by rw [e]; exact Int.le_antisymm l h
theorem most_dec {b c : Nat} {m : Int} (h : ¬ m ≤ (b : Int)) (e : c = b + 1) : (m - c).toNat < (m - b).toNat := by subst e; omega
theorem nat_bd {b : Nat} {m : Int} (h : (b : Int) ≤ m) (h2 : m ≤ 100) : b ≤ 100 := Int.ofNat_le.mp (Int.le_trans h h2)
theorem abs64 {n : Nat} (h : n ≤ 100) : (n : Int).natAbs < 2 ^ 64 := Nat.lt_of_le_of_lt h (by decide)
theorem sub_pos' {a : Int} (h : a < 0) : 0 < 0 - a := by rw [Int.zero_sub]; exact Int.neg_pos_of_neg h
theorem rr_idx {r : Int} {n : Nat} (h0 : 0 < r) (h1 : r ≤ n) : r.toNat - 1 < n := by omega
theorem cnd_lt {a b : Int} {k n : Nat} (e : k = n) (h : (k : Int) < a + b) : (n : Int) - a - b < 0 := by subst e; rw [Int.sub_sub]; exact Int.sub_neg_of_lt h
theorem cnd_ge {a b : Int} {k : Nat} (h : ¬ (k : Int) < a + b) : 0 ≤ (k : Int) - a - b := by rw [Int.sub_sub]; exact Int.sub_nonneg_of_le (Int.not_lt.mp h)
theorem cnd_not {a b : Int} {k n : Nat} (e : k = n) (h : ¬ (k : Int) < a + b) : ¬ (n : Int) - a - b < 0 := e ▸ Int.not_lt.mpr (cnd_ge h)
theorem cnd_one {a b : Int} {k : Nat} (hb : 0 ≤ b) (h : ¬ (k : Int) < a + b) : 0 ≤ (k : Int) - a := Int.le_trans (cnd_ge h) (Int.sub_le_self _ hb)
theorem ge_more {a : Int} {p q : Nat} (e : p = q + 1) (h : 0 ≤ (q : Int) - a) : 0 ≤ (p : Int) - a := by subst e; omega
theorem idx63 {a b : Int} {k : Nat} (ha : 0 ≤ a) (hb : 0 ≤ b) (hk : k ≤ 1000000) : (k : Int) - a - b < 2 ^ 63 := Int.lt_of_le_of_lt (Int.le_trans (Int.sub_le_self _ hb) (Int.sub_le_self _ ha)) (Int.lt_of_le_of_lt (Int.ofNat_le.mpr hk) (by decide))
theorem four_or {d : Int} (h0 : 0 ≤ d) (h1 : d < 4) : d = 0 ∨ d = 1 ∨ d = 2 ∨ d = 3 := by
  obtain ⟨n, rfl⟩ := Int.eq_ofNat_of_zero_le h0
  exact (by decide : ∀ n : Nat, n < 4 → ((n : Int) = 0 ∨ (n : Int) = 1 ∨ (n : Int) = 2 ∨ (n : Int) = 3)) n (Int.ofNat_lt.mp h1)
theorem five_or {d : Int} (h0 : 0 ≤ d) (h1 : d < 5) : d = 0 ∨ d = 1 ∨ d = 2 ∨ d = 3 ∨ d = 4 := by
  obtain ⟨n, rfl⟩ := Int.eq_ofNat_of_zero_le h0
  exact (by decide : ∀ n : Nat, n < 5 → ((n : Int) = 0 ∨ (n : Int) = 1 ∨ (n : Int) = 2 ∨ (n : Int) = 3 ∨ (n : Int) = 4)) n (Int.ofNat_lt.mp h1)
theorem ar2 {a b : Int} {k n : Nat} (h1 : 0 ≤ a) (h2 : 0 ≤ b) (e : k = n) (h : 0 ≤ (k : Int) - a - b) : ((k : Int) - a - b).toNat = n - a.toNat - b.toNat := by
  obtain ⟨x, rfl⟩ := Int.eq_ofNat_of_zero_le h1
  obtain ⟨y, rfl⟩ := Int.eq_ofNat_of_zero_le h2
  subst e
  show ((k : Int) - x - y).toNat = k - x - y
  rw [Int.sub_sub, Nat.sub_sub]
  exact Int.toNat_sub k (x + y)
theorem ar1 {a : Int} {k n : Nat} (h1 : 0 ≤ a) (e : k = n) (h : 0 ≤ (k : Int) - a) : ((k : Int) - a).toNat = n - a.toNat := by
  obtain ⟨x, rfl⟩ := Int.eq_ofNat_of_zero_le h1
  subst e
  exact Int.toNat_sub k x
theorem ar1p {a : Int} {k n : Nat} (h1 : 0 ≤ a) (e : k = n) (h : 0 ≤ (k : Int) - a) : ((k : Int) - a + 1).toNat = n - a.toNat + 1 := by
  obtain ⟨x, rfl⟩ := Int.eq_ofNat_of_zero_le h1
  subst e
  have hx : x ≤ k := Int.ofNat_le.mp (Int.sub_nonneg.mp h)
  show ((k : Int) - (x : Int) + 1).toNat = k - x + 1
  rw [← Int.ofNat_sub hx]
  rfl
theorem ar1s {a : Int} {k n p w : Nat} (h1 : 0 ≤ a) (e : k = n) (e2 : n = w + 1) (e3 : p = w) (h : 0 ≤ (p : Int) - a) : ((k : Int) - a).toNat = w - a.toNat + 1 := by
  obtain ⟨x, rfl⟩ := Int.eq_ofNat_of_zero_le h1
  subst e e2 e3
  have hx : x ≤ p := Int.ofNat_le.mp (Int.sub_nonneg.mp h)
  exact (Int.toNat_sub (p + 1) x).trans (Nat.succ_sub hx)
theorem arlt {a b : Int} {p w : Nat} (h1 : 0 ≤ a) (h2 : 0 ≤ b) (e : p = w) (hg : ¬ (p : Int) < a + b) (hp : 0 < a + b) : w - a.toNat - b.toNat < w := by omega
theorem arle {a b : Int} {w : Nat} (h1 : 0 ≤ a) (h2 : 0 ≤ b) (hp : ¬ 0 < a + b) : w ≤ w - a.toNat - b.toNat := by omega
theorem armin1 {a w s : Nat} (e : s = w + 1) : min (w - a + 1) s = w - a + 1 := by
  subst e
  exact Nat.min_eq_left (Nat.succ_le_succ (Nat.sub_le w a))
theorem armin2 {a w : Nat} : w - a + 1 + (0 + 1) = min (w - a) w + (0 + 1) + 1 := by
  rw [Nat.min_eq_left (Nat.sub_le w a)]
theorem armin3 {a w : Nat} : min (w - a + 1) (w + 1) = min (w - a) w + 1 := by
  rw [Nat.min_eq_left (Nat.succ_le_succ (Nat.sub_le w a)), Nat.min_eq_left (Nat.sub_le w a)]
theorem arp {r : Int} (h : 0 < r) : (r - 1).toNat = r.toNat - 1 := by
  obtain ⟨n, rfl⟩ := Int.eq_ofNat_of_zero_le (Int.le_of_lt h)
  exact Int.toNat_sub n 1
theorem cons_of {α : Type} {l : List α} {n : Nat} (h : l.length = n + 1) : ∃ a r, l = a :: r ∧ r.length = n := by
  cases l with
  | nil => cases h
  | cons a r => exact ⟨a, r, rfl, Nat.succ.inj h⟩
open PySem.Spec PyProof.V in
noncomputable def LoneOk (T : TabD) (D : List (PyData × PyData)) : Prop :=
  (∀ s v, lookup (.int s) D = some v → v = .int (T.lone s)) ∧ ∃ L : List Int, L.Nodup ∧ (∀ x ∈ L, 0 ≤ x ∧ x < 5) ∧ D.length = L.length ∧ ∀ s, s ∈ L ↔ (lookup (.int s) D).isSome = true
theorem pigeon : ∀ (L M : List Int), L.Nodup → (∀ x ∈ L, x ∈ M) → L.length ≤ M.length
  | [], _, _, _ => Nat.zero_le _
  | a :: L, M, nd, h => by
    have nd := List.nodup_cons.mp nd
    have := pigeon L (M.erase a) nd.2 fun x hx => (List.mem_erase_of_ne (fun e : x = a => nd.1 (by rw [← e]; exact hx))).mpr (h x (.tail _ hx))
    rw [List.length_erase_of_mem (h a (.head _))] at this
    have pos : 0 < M.length := List.length_pos_of_mem (h a (.head _))
    show L.length + 1 ≤ _
    omega
theorem LoneOk.len {T : TabD} {D : List (PyData × PyData)} (h : LoneOk T D) : D.length ≤ 5 := by
  obtain ⟨_, L, nd, hb, e, _⟩ := h
  rw [e]
  refine pigeon L [0, 1, 2, 3, 4] nd fun x hx => ?_
  have := hb x hx
  simp
  omega
open PySem.Spec PyProof.V PyProof.Rows in
theorem LoneOk.put {T : TabD} {D : List (PyData × PyData)} (h : LoneOk T D) {s : Int} (h0 : 0 ≤ s) (h1 : s < 5) (n : lookup (.int s) D = none) : LoneOk T (putD (.int s) (.int (T.lone s)) D) := by
  obtain ⟨hv, L, nd, hb, e, hm⟩ := h
  refine ⟨fun k v hk => ?_, s :: L, List.nodup_cons.mpr ⟨fun q => ?_, nd⟩, fun x hx => ?_, ?_, fun k => ?_⟩
  · rw [lookup_putD_int] at hk
    split at hk
    · rename_i q; cases hk; rw [q]
    · exact hv k v hk
  · have := (hm s).mp q; rw [n] at this; cases this
  · rcases List.mem_cons.mp hx with rfl | hx
    · exact ⟨h0, h1⟩
    · exact hb x hx
  · rw [putD_absent n, List.length_append, e]; rfl
  · rw [lookup_putD_int, List.mem_cons, hm k]
    split
    · rename_i q; simp [q]
    · rename_i q; simp [q]
theorem LoneOk.nil (T : TabD) : LoneOk T [] := by
  refine ⟨fun s v h => ?_, [], .nil, fun x hx => (nomatch hx), rfl, fun s => ?_⟩
  · cases h
  · constructor
    · intro h; cases h
    · intro h; cases h

theorem Has.t7 {κ : Kw} {X : List (Addr × AObj)} {a : Addr} {Y : AObj} (h : Has κ X a Y) {p1 p2 p3 p4 p5 p6 p7 : Addr × AObj} : Has κ (p1 :: p2 :: p3 :: p4 :: p5 :: p6 :: p7 :: X) a Y := h.tail.tail.tail.tail.tail.tail.tail
inductive TokH (κ : Kw) (X : List (Addr × AObj)) (tok : Addr) (kind : Str) (worth : Str) : Prop
  | mk (d : Addr) (tk tt tw : Tok) (x : Str) (h1 : Has κ X tok (.inst 105 d)) (h2 : Has κ X d (.attrs 105 [("kind", .str kind tk), ("text", .str x tt), ("at", .none), ("worth", .str worth tw)]))
inductive MvIn (X : List (Addr × AObj)) (v : Value) (mv : Mv) : Prop
  | mk (a : Addr) (vs : List Value) (e : v = .ref a) (h : (a, .tup vs) ∈ X) (i : mv.is vs)
theorem TokH.mono {κ : Kw} {X Y : List (Addr × AObj)} (h : ∀ p ∈ X, p ∈ Y) {tok : Addr} {x y : Str} (k : TokH κ X tok x y) : TokH κ Y tok x y := by
  obtain ⟨d, tk, tt, tw, z, h1, h2⟩ := k
  exact ⟨d, tk, tt, tw, z, h1.imp (h _) id, h2.imp (h _) id⟩
noncomputable def namesT : List (Str × Tok) := [("$end", 1324), ("error", 1325), ("$undefined", 1326), ("a", 1327), ("b", 1328), ("$accept", 1329), ("s", 1330), ("t", 1331)]
noncomputable def namesV : List Value := namesT.map fun p => .str p.1 p.2
noncomputable def nameOf (n : Int) : Str := ((namesT.getD n.toNat ("", 0))).1
noncomputable def StrIs (v : Value) (x : Str) : Prop := ∃ t, v = .str x t
/-- a told fault -/
inductive FaultIs (κ : Kw) (X : List (Addr × AObj)) (v : Value) (f : Str × Int × List Int × Int) : Prop
  | mk (a d tok nl : Addr) (t1 t2 : Tok) (nv : List Value) (wo : Str) (e : v = .ref a) (h1 : (a, .inst 328 d) ∈ X) (h2 : (d, .attrs 328 [("token", .ref tok), ("state", .int f.2.1 t1), ("expected", .ref nl), ("index", .int f.2.2.2 t2)]) ∈ X)
    (h3 : (nl, .list nv) ∈ X) (h4 : All2 StrIs nv (f.2.2.1.map nameOf)) (h5 : TokH κ X tok f.1 wo)
theorem FaultIs.mono {κ : Kw} {X Y : List (Addr × AObj)} (h : ∀ p ∈ X, p ∈ Y) {v : Value} {f : Str × Int × List Int × Int} (k : FaultIs κ X v f) : FaultIs κ Y v f := by
  obtain ⟨a, d, tok, nl, t1, t2, nv, wo, e, h1, h2, h3, h4, h5⟩ := k
  exact ⟨a, d, tok, nl, t1, t2, nv, wo, e, h _ h1, h _ h2, h _ h3, h4, h5.mono h⟩
abbrev Flt := Value × (Str × Int × List Int × Int)
noncomputable def LookOk (κ : Kw) (X : List (Addr × AObj)) (kinds : List Str) (c : Cfg) (lk : Value) (flts : List Flt) : Prop :=
  (if c.seen then ∃ tok, lk = .ref tok ∧ TokH κ X tok (kindAt kinds c.spot) (worthAt kinds c.spot) else lk = .none) ∧ ∀ p ∈ flts, FaultIs κ X p.1 p.2
noncomputable abbrev attrL (tb hd : Addr) (most : Int) (tm : Tok) (ln st vl : Addr) (lk : Value) (cnt : Int) (tc : Tok) (ans : Str) (ta : Tok) (val : Value) (fl mv : Addr) (extra : List (Str × Value)) : List (Str × Value) :=
  ("tables", .ref tb) :: ("handler", .ref hd) :: ("most", .int most tm) :: ("lone", .ref ln) :: ("states", .ref st) :: ("values", .ref vl) :: ("looked", lk) :: ("count", .int cnt tc) :: ("answer", .str ans ta) :: ("value", val) :: ("faults", .ref fl) :: ("moves", .ref mv) :: extra
/-- a machine in a configuration -/
structure MCx where
  T : TabD
  kinds : List Str
  C : Addr
  c : Addr
  tb : Addr
  hd : Addr
  most : Int
  ext : List (Str × Value) → Prop
  ans : Str
  val : Value
inductive Mach (κ : Kw) (M : MCx) (cf : Cfg) (flts : List Flt) (own : List (Addr × AObj)) : Prop
  | mk (extra : List (Str × Value)) (hx : M.ext extra) (d ln st vl fl mv : Addr) (tm tc ta : Tok) (D : List (PyData × PyData)) (sts vals mvs : List Value) (lk : Value) (X : List (Addr × AObj))
    (ho : own = (M.c, .inst M.C d) :: (d, .attrs M.C (attrL M.tb M.hd M.most tm ln st vl lk cf.cnt tc M.ans ta M.val fl mv extra)) :: (ln, .tabI D) :: (st, .list sts) :: (vl, .list vals) :: (fl, .list (flts.map Prod.fst)) :: (mv, .list mvs) :: X)
    (hi : IntsAre sts cf.stack) (hw : All2 WorthIs vals cf.worths) (hm : All2 (MvIn X) mvs cf.moves) (hl : LoneOk M.T D) (hk : LookOk κ X M.kinds cf lk flts)
noncomputable def NoM (ext : List (Str × Value) → Prop) : Prop := ∀ x, ext x → NoMeth x
theorem MvIn.mono' {X Y : List (Addr × AObj)} (h : ∀ p ∈ X, p ∈ Y) {v : Value} {mv : Mv} (k : MvIn X v mv) : MvIn Y v mv := by
  obtain ⟨a, vs, e, hm, hi⟩ := k
  exact ⟨a, vs, e, h _ hm, hi⟩
theorem LookOk.mono {κ : Kw} {X Y : List (Addr × AObj)} (h : ∀ p ∈ X, p ∈ Y) {kinds : List Str} {c : Cfg} {lk : Value} {flts : List Flt} (k : LookOk κ X kinds c lk flts) : LookOk κ Y kinds c lk flts := by
  refine ⟨?_, fun p hp => (k.2 p hp).mono h⟩
  have k := k.1
  split
  · rename_i q; rw [if_pos q] at k; obtain ⟨t, e, k⟩ := k; exact ⟨t, e, k.mono h⟩
  · rename_i q; rw [if_neg q] at k; exact k
theorem LookOk.mono' {κ : Kw} {X Y : List (Addr × AObj)} (h : ∀ p ∈ X, p ∈ Y) {kinds : List Str} {c : Cfg} {lk : Value} {flts : List Flt} (k : LookOk κ X kinds c lk flts) : LookOk κ Y kinds c lk flts := k.mono h
/-- other own objects are taken in -/
theorem Mach.absorb {κ : Kw} {M : MCx} {cf : Cfg} {flts : List Flt} {own : List (Addr × AObj)} (Y : List (Addr × AObj)) (H : Mach κ M cf flts own) : ∃ own', (Y ++ own).Perm own' ∧ Mach κ M cf flts own' ∧ ∀ p ∈ Y, p ∈ own' := by
  obtain ⟨extra, hx, d, ln, sl, vl, fl, mv, tm, tc, ta, D, sts, vals, mvs, lk, X, rfl, hi, hw, hm, hl, hk⟩ := H
  refine ⟨_, List.perm_append_comm_assoc Y [_, _, _, _, _, _, _] X, ⟨extra, hx, d, ln, sl, vl, fl, mv, tm, tc, ta, D, sts, vals, mvs, lk, Y ++ X, rfl, hi, hw, hm.mono fun _ _ k => k.mono' fun p hp => List.mem_append_right _ hp, hl, hk.mono' fun p hp => List.mem_append_right _ hp⟩, fun p hp => ?_⟩
  exact List.mem_append_right [_, _, _, _, _, _, _] (List.mem_append_left _ hp)
theorem St.nil {b : Bs} {hid : Kw} {L : Addr} {m : Str → Option Value} {κ₀ κ : Kw} {own : List (Addr × AObj)} {s : Shared} (S : St b hid L m κ₀ κ own s) : St b hid L m κ₀ κ ([] ++ own) s := S
theorem TabD.Ok.at {T : TabD} (O : T.Ok) {st : Int} (h0 : 0 ≤ st) (h1 : st < T.rows.length) : T.rows[st.toNat]? = some (T.row st) ∧ (T.row st).length = 5 ∧ T.defaults[st.toNat]? = some (T.df st) ∧ st < 5 ∧ st < 100 ∧
    ∃ D, T.gotos[st.toNat]? = some D ∧ GotoOk D ∧ ∀ l, T.goto st l = gotoOf D l ∧ gotoOf D l < T.rows.length := by
  obtain ⟨n, n0, n5, e1, e2, e3⟩ := O.n
  have h1' : st < (n : Int) := e1 ▸ h1
  have hn : st.toNat < n := (Int.toNat_lt h0).mpr h1'
  have h5 := Int.lt_of_lt_of_le h1' (Int.ofNat_le.mpr n5)
  have r : T.rows[st.toNat]? = some (T.row st) := by
    unfold TabD.row; rw [List.getD_eq_getElem?_getD, List.getElem?_eq_getElem (by rw [e1]; exact hn)]; rfl
  have g : T.gotos[st.toNat]? = some (T.gotos.getD st.toNat []) := by
    rw [List.getD_eq_getElem?_getD, List.getElem?_eq_getElem (by rw [e2]; exact hn)]; rfl
  refine ⟨r, O.row _ (List.mem_of_getElem? r), ?_, h5, Int.lt_trans h5 (by decide), _, g, (O.goto _ (List.mem_of_getElem? g)).1, fun l => ⟨rfl, (O.goto _ (List.mem_of_getElem? g)).2 l⟩⟩
  unfold TabD.df; rw [List.getD_eq_getElem?_getD, List.getElem?_eq_getElem (by rw [e3]; exact hn)]; rfl
theorem MvIn.mono {X Y : List (Addr × AObj)} (h : ∀ p ∈ X, p ∈ Y) {v : Value} {mv : Mv} (k : MvIn X v mv) : MvIn Y v mv := by
  obtain ⟨a, vs, e, hm, hi⟩ := k
  exact ⟨a, vs, e, h _ hm, hi⟩
section
variable {b : Bs} {lv : Nat} {A : Around} {E : Value → Shared → Prop} {s : Shared} {hid : Kw} {L : Addr} {m m' : Str → Option Value} {κ₀ κ : Kw} {ex own own' : List (Addr × AObj)} {frs : List Env} {env : Env} {M : MCx} {vt : Virt} {cf : Cfg} {flts : List Flt}
set_option maxHeartbeats 2000000
theorem lone_spec {st : Int} {t : Tok} {Q : Value → Shared → Prop} (G : Gd b) (C : Cx b (lv + 3) A L hid frs) (cN : CoreC M.C vt) (nm : NoM M.ext) (TK : TabK κ M.tb M.T) (TO : M.T.Ok)
    (S : St b hid L m κ₀ κ (ex ++ own) s) (H : Mach κ M cf flts own) (h0 : 0 ≤ st) (h1 : st < M.T.rows.length)
    (ok : ∀ s' own' t, St b hid L m κ₀ κ (ex ++ own') s' → Mach κ M cf flts own' → Q (.int (M.T.lone st) t) s') :
    wpAny (model b.prog b.w) A (call (.ref 459) [.ref M.c, .int st t]) Q E s := by
  obtain ⟨T, kinds, Cl, c, tb, hd, most, ext, ans, val⟩ := M
  dsimp only at *
  obtain ⟨extra, hx, d, ln, sl, vl, fl, mv, tm, tc, ta, D, sts, vals, mvs, lk, X, ho, hi, hw, hm, hl, hk⟩ := H
  dsimp only at *
  subst ho
  have nmx := nm _ hx
  have TK' := TK
  obtain ⟨td, ls, lns, bfs, dfs, nms, gr, rws, gts, cf', se, t5, tm', lsv, lnv, bfv, dfv, rwv, gtv, k1, k2, -⟩ := TK'
  obtain ⟨a1, a2, a3, a4, a5, -⟩ := TO.at h0 h1
  refine call_cx [("state", .int st t), ("self", .ref c)] G C S (by k_is) (by k_is) (BindsTo.of_eq rfl) (locs rfl) rfl rfl rfl (by decide) fun L' hid' s' A' env' hE hI hA C' S' ret => ?_
  refine R_execs (R_joinK (fun KK => ∀ s₁ D', St b hid' L' (fun y => List.lookup y [(Str.ofString "state", Value.int st t), (Str.ofString "self", Value.ref c)]) κ κ
    ((c, .inst Cl d) :: (d, .attrs Cl (attrL tb hd most tm ln sl vl lk cf.cnt tc ans ta val fl mv extra)) :: (ln, .tabI D') :: (sl, .list sts) :: (vl, .list vals) :: (fl, .list (flts.map Prod.fst)) :: (mv, .list mvs) :: X) s₁ →
    LoneOk T D' → PySem.Spec.lookup (.int st) D' = some (.int (T.lone st)) → KK s₁) ?_ ?_)
  · intro KK hK
    repeat' k_extra "z"
    k_extra "zi"
    · have hn : PySem.Spec.lookup (.int st) D = none := by simpa using hq
      repeat' k_extra "z"
      with_reducible refine cons_spec G C' (by assumption) TK h0 a5 a1 a2 a3 fun _ _ => ?_
      repeat' k_extra "z"
      k_extra "zi"
      · repeat' k_extra "z"
        with_reducible refine default_spec G C' (by assumption) TK h0 a5 a3 fun _ _ _ => ?_
        repeat' k_extra "z"
        with_reducible refine' R_setI (by assumption) ?p (.int _ _) ?z ?e fun _ _ => ?_
        case p => k_extra "put"
        case z => exact Nat.le_trans hl.len (by decide)
        case e => exact rfl
        repeat' k_extra "z"
        have e : T.lone st = T.df st := by unfold TabD.lone; rw [if_pos hq]
        exact ⟨rfl, hK _ _ (by assumption) (e ▸ hl.put h0 a4 hn) (by rw [PyProof.Rows.lookup_putD_int, if_pos rfl, e])⟩
      · repeat' k_extra "z"
        with_reducible refine' R_setI (by assumption) ?p (.int _ _) ?z ?e fun _ _ => ?_
        case p => k_extra "put"
        case z => exact Nat.le_trans hl.len (by decide)
        case e => exact rfl
        repeat' k_extra "z"
        have e : T.lone st = 0 := by unfold TabD.lone; rw [if_neg (by rw [hq]; decide)]
        exact ⟨rfl, hK _ _ (by assumption) (e ▸ hl.put h0 a4 hn) (by rw [PyProof.Rows.lookup_putD_int, if_pos rfl, e])⟩
    · repeat' k_extra "z"
      have hs : (PySem.Spec.lookup (.int st) D).isSome = true := by simpa using hq
      obtain ⟨w, hw'⟩ := Option.isSome_iff_exists.mp hs
      exact ⟨rfl, hK _ _ (by assumption) hl (by rw [hw', hl.1 _ _ hw'])⟩
  · rintro s₁ D' S₁ hl' hv
    repeat' k_extra "z"
    with_reducible refine' R_itemI (by assumption) ?kk hv ?s fun s₃ v S₃ hv => ?_
    case kk => k_extra "has"
    case s => with_unfolding_all rfl
    obtain ⟨tv, rfl⟩ := flat_int hv
    repeat' k_extra "z"
    exact ok _ _ _ (ret.st (by assumption)) ⟨extra, hx, d, ln, sl, vl, fl, mv, tm, tc, ta, _, sts, vals, mvs, lk, X, rfl, hi, hw, hm, hl', hk⟩
end
section
variable {b : Bs} {lv : Nat} {A : Around} {E : Value → Shared → Prop} {s : Shared} {hid : Kw} {L : Addr} {m m' : Str → Option Value} {κ₀ κ : Kw} {ex own own' : List (Addr × AObj)} {frs : List Env} {env : Env} {M : MCx} {vt : Virt} {cf : Cfg} {flts : List Flt}
set_option maxHeartbeats 2000000
theorem needs_spec {Q : Value → Shared → Prop} (G : Gd b) (C : Cx b (lv + 4) A L hid frs) (cN : CoreC M.C vt) (nm : NoM M.ext) (TK : TabK κ M.tb M.T) (TO : M.T.Ok)
    (S : St b hid L m κ₀ κ (ex ++ own) s) (H : Mach κ M cf flts own) (O : cf.Ok M.T M.most)
    (ok : ∀ s' own', St b hid L m κ₀ κ (ex ++ own') s' → Mach κ M cf flts own' → Q (.bool (!cf.seen && M.T.lone cf.top == 0)) s') :
    wpAny (model b.prog b.w) A (call (.ref 445) [.ref M.c]) Q E s := by
  have H' := H
  obtain ⟨T, kinds, Cl, c, tb, hd, most, ext, ans, val⟩ := M
  dsimp only at *
  obtain ⟨extra, hx, d, ln, sl, vl, fl, mv, tm, tc, ta, D, sts, vals, mvs, lk, X, ho, hi, hw, hm, hl, hk⟩ := H
  dsimp only at *
  subst ho
  have nmx := nm _ hx
  refine call_cx [("self", .ref c)] G C S (by k_is) (by k_is) (BindsTo.of_eq rfl) (locs rfl) rfl rfl rfl (by decide) fun L' hid' s' A' env' hE hI hA C' S' ret => ?_
  obtain ⟨pre, hpre⟩ := last_split O.len
  have htop : 0 ≤ cf.top ∧ cf.top < T.rows.length := O.sts _ (by rw [hpre]; exact List.mem_append_right _ (.head _))
  rw [hpre] at hi
  obtain ⟨us, tt, rfl, hi'⟩ := ints_last hi
  cases hs : cf.seen with
  | true =>
    obtain ⟨hk, hkF⟩ := hk
    rw [if_pos hs] at hk
    obtain ⟨tok, rfl, _⟩ := hk
    repeat' k_extra "z"
    have r := ok _ _ (ret.st (by assumption)) H'
    rw [hs] at r
    exact r
  | false =>
    obtain ⟨hk, hkF⟩ := hk
    rw [if_neg (by rw [hs]; decide)] at hk
    subst hk
    repeat' k_extra "z"
    refine lone_spec (ex := []) G C' cN nm TK TO (by assumption) H' htop.1 htop.2 fun s₂ own₂ t₂ S₂ H₂ => ?_
    repeat' k_extra "z"
    have r := ok _ _ (ret.st (by assumption)) H₂
    rw [hs] at r
    exact r

theorem look_spec {tok : Addr} {Y : List (Addr × AObj)} {Q : Value → Shared → Prop} (G : Gd b) (nm : NoM M.ext) (C : Cx b (lv + 1) A L hid frs) (S : St b hid L m κ₀ κ (ex ++ (Y ++ own)) s) (H : Mach κ M cf flts own) (hs : cf.seen = false)
    (tk : TokH κ Y tok (kindAt M.kinds cf.spot) (worthAt M.kinds cf.spot))
    (ok : ∀ s' own', St b hid L m κ₀ κ (ex ++ own') s' → Mach κ M { cf with seen := true } flts own' → Q .none s') :
    CallC b A 452 [.ref M.c, .ref tok] Q E s := by
  obtain ⟨T, kinds, Cl, c, tb, hd, most, ext, ans, val⟩ := M
  dsimp only at *
  obtain ⟨extra, hx, d, ln, sl, vl, fl, mv, tm, tc, ta, D, sts, vals, mvs, lk, X, ho, hi, hw, hm, hl, hk⟩ := H
  dsimp only at *
  subst ho
  have nmx := nm _ hx
  have S := S.perm (own' := ex ++ ((c, .inst Cl d) :: (d, .attrs Cl (attrL tb hd most tm ln sl vl lk cf.cnt tc ans ta val fl mv extra)) :: (ln, .tabI D) :: (sl, .list sts) :: (vl, .list vals) :: (fl, .list (flts.map Prod.fst)) :: (mv, .list mvs) :: (Y ++ X)))
    (List.Perm.append_left _ (List.perm_append_comm_assoc Y [_, _, _, _, _, _, _] X))
  refine call_cd [("token", .ref tok), ("self", .ref c)] G C S (by k_is) (by k_is) (BindsTo.of_eq rfl) (locs rfl) rfl rfl rfl (by decide) fun L' hid' s' A' env' hE hI hA C' S' ret => ?_
  repeat' k_extra "z"
  have e : cf.cnt + 1 = Cfg.cnt { cf with seen := true } := by unfold Cfg.cnt; rw [hs]; simp
  have r := ret.st (by assumption)
  rw [e] at r
  exact ok _ _ r ⟨extra, hx, d, ln, sl, vl, fl, mv, tm, _, ta, D, sts, vals, mvs, _, Y ++ X, rfl, hi, hw, hm.mono fun _ _ k => k.mono fun p hp => List.mem_append_right _ hp, hl, ⟨⟨tok, rfl, tk.mono fun p hp => List.mem_append_left _ hp⟩, fun p hq => (hk.2 p hq).mono fun p hp => List.mem_append_right _ hp⟩⟩
theorem place_spec {Q : Value → Shared → Prop} (G : Gd b) (nm : NoM M.ext) (C : Cx b (lv + 1) A L hid frs) (S : St b hid L m κ₀ κ (ex ++ own) s) (H : Mach κ M cf flts own)
    (ok : ∀ s', St b hid L m κ₀ κ (ex ++ own) s' → Q .none s') : wpAny (model b.prog b.w) A (call (.ref 480) [.ref M.c]) Q E s := by
  obtain ⟨T, kinds, Cl, c, tb, hd, most, ext, ans, val⟩ := M
  dsimp only at *
  obtain ⟨extra, hx, d, ln, sl, vl, fl, mv, tm, tc, ta, D, sts, vals, mvs, lk, X, ho, hi, hw, hm, hl, hk⟩ := H
  dsimp only at *
  subst ho
  have nmx := nm _ hx
  refine call_cx [("self", .ref c)] G C S (by k_is) (by k_is) (BindsTo.of_eq rfl) (locs rfl) rfl rfl rfl (by decide) fun L' hid' s' A' env' hE hI hA C' S' ret => ?_
  cases hs : cf.seen with
  | true =>
    obtain ⟨hk, hkF⟩ := hk
    rw [if_pos hs] at hk
    obtain ⟨tok, rfl, td, tk, tt, tw, x, h1, h2⟩ := hk
    repeat' k_extra "z"
    exact ok _ (ret.st (by assumption))
  | false =>
    obtain ⟨hk, hkF⟩ := hk
    rw [if_neg (by rw [hs]; decide)] at hk
    subst hk
    repeat' k_extra "z"
    exact ok _ (ret.st (by assumption))
theorem terminal_of_spec {tok td : Addr} {kind : Str} {l : List (Str × Value)} {tk : Tok} {Q : Value → Shared → Prop} (G : Gd b) (C : Cx b (lv + 2) A L hid frs) (nm : NoM M.ext) (TK : TabK κ M.tb M.T) (S : St b hid L m κ₀ κ (ex ++ own) s) (H : Mach κ M cf flts own)
    (h1 : Has κ own tok (.inst 105 td)) (h2 : Has κ own td (.attrs 105 (("kind", .str kind tk) :: l))) (hkd : PySem.Spec.lookup (.str kind) numD = none ∨ ∃ g, PySem.Spec.lookup (.str kind) numD = some (.int g))
    (ok : ∀ s' t, St b hid L m κ₀ κ (ex ++ own) s' → Q (.int (termOf kind) t) s') : wpAny (model b.prog b.w) A (call (.ref 466) [.ref M.c, .ref tok]) Q E s := by
  obtain ⟨T, kinds, Cl, c, tb, hd, most, ext, ans, val⟩ := M
  dsimp only at *
  obtain ⟨extra, hx, d, ln, sl, vl, fl, mv, tm, tc, ta, D, sts, vals, mvs, lk, X, ho, hi, hw, hm, hl, hk⟩ := H
  dsimp only at *
  subst ho
  have nmx := nm _ hx
  have TK' := TK
  obtain ⟨td, ls, lns, bfs, dfs, nms, gr, rws, gts, cf', se, t5, tm', lsv, lnv, bfv, dfv, rwv, gtv, k1, k2, -⟩ := TK'
  refine call_cx [("token", .ref tok), ("self", .ref c)] G C S (by k_is) (by k_is) (BindsTo.of_eq rfl) (locs rfl) rfl rfl rfl (by decide) fun L' hid' s' A' env' hE hI hA C' S' ret => ?_
  repeat' k_extra "z"
  with_reducible refine terminal_spec G C' (by assumption) TK hkd fun _ _ _ => ?_
  repeat' k_extra "z"
  k_extra "zi"
  · repeat' k_extra "z"
    have e : termOf kind = 2 := by unfold termOf; rw [if_pos (by simpa using hq)]
    exact e ▸ ok _ _ (ret.st (by assumption))
  · repeat' k_extra "z"
    have e : termOf kind = numOf kind := by unfold termOf; rw [if_neg (by simpa using hq)]
    exact e ▸ ok _ _ (ret.st (by assumption))
theorem finish_spec {x : Str} {t : Tok} {v : Value} {Q : Value → Shared → Prop} (G : Gd b) (nm : NoM M.ext) (C : Cx b (lv + 1) A L hid frs) (S : St b hid L m κ₀ κ (ex ++ own) s) (H : Mach κ M cf flts own) (hv : handedIn v = true)
    (ok : ∀ s' own', St b hid L m κ₀ κ (ex ++ own') s' → Mach κ { M with ans := x, val := v } cf flts own' → Q .none s') : wpAny (model b.prog b.w) A (call (.ref 487) [.ref M.c, .str x t, v]) Q E s := by
  obtain ⟨T, kinds, Cl, c, tb, hd, most, ext, ans, val⟩ := M
  dsimp only at *
  obtain ⟨extra, hx, d, ln, sl, vl, fl, mv, tm, tc, ta, D, sts, vals, mvs, lk, X, ho, hi, hw, hm, hl, hk⟩ := H
  dsimp only at *
  subst ho
  have nmx := nm _ hx
  refine call_cx [("value", v), ("answer", .str x t), ("self", .ref c)] G C S (by k_is) (by k_is) (BindsTo.of_eq rfl) (locs rfl) rfl rfl rfl (by decide) fun L' hid' s' A' env' hE hI hA C' S' ret => ?_
  repeat' k_extra "z"
  exact ok _ _ (ret.st (by assumption)) ⟨extra, hx, d, ln, sl, vl, fl, mv, tm, _, _, D, sts, vals, mvs, lk, X, rfl, hi, hw, hm, hl, hk⟩
end
theorem strlen_small : ∀ n : Nat, n ≤ 100 → (((toString (n : Int) : String) : Str).length == 0) = false ∧ ((toString (n : Int) : String) : Str).length ≤ 3 := by
  intro n hn
  have : ∀ k : Fin 101, (((toString ((k.1 : Nat) : Int) : String) : Str).length == 0) = false ∧ ((toString ((k.1 : Nat) : Int) : String) : Str).length ≤ 3 := by decide +kernel
  exact this ⟨n, by omega⟩
section
variable {b : Bs} {lv : Nat} {A : Around} {E : Value → Shared → Prop} {s : Shared} {hid : Kw} {L : Addr} {m m' : Str → Option Value} {κ₀ κ : Kw} {ex own own' : List (Addr × AObj)} {frs : List Env} {env : Env} {M : MCx} {vt : Virt} {cf : Cfg} {flts : List Flt}
set_option maxHeartbeats 2000000
theorem note_spec {a : Addr} {vs : List Value} {mo : Mv} {Q : Value → Shared → Prop} (G : Gd b) (C : Cx b (lv + 5) A L hid frs) (cN : CoreC M.C vt) (nm : NoM M.ext)
    (S : St b hid L m κ₀ κ (ex ++ (a, .tup vs) :: own) s) (H : Mach κ M cf flts own) (O : cf.Ok M.T M.most) (hmost : 0 ≤ M.most ∧ M.most ≤ 100) (hmo : mo.is vs)
    (ok : ∀ s' own', (cf.moves.length : Int) < M.most → St b hid L m κ₀ κ (ex ++ own') s' → Mach κ M { cf with moves := cf.moves ++ [mo] } flts own' → Q .none s')
    (exc : ∀ s' own' e, M.most ≤ cf.moves.length → Fly b hid L m κ₀ κ (ex ++ own') frs e s' → Mach κ M cf flts own' → E (.ref e) s') :
    wpAny (model b.prog b.w) A (call (.ref 473) [.ref M.c, .ref a]) Q E s := by
  obtain ⟨T, kinds, Cl, c, tb, hd, most, ext, ans, val⟩ := M
  dsimp only at *
  obtain ⟨extra, hx, d, ln, sl, vl, fl, mv, tm, tc, ta, D, sts, vals, mvs, lk, X, ho, hi, hw, hm, hl, hk⟩ := H
  dsimp only at *
  subst ho
  have nmx := nm _ hx
  have S := S.perm (own' := ex ++ ((c, .inst Cl d) :: (d, .attrs Cl (attrL tb hd most tm ln sl vl lk cf.cnt tc ans ta val fl mv extra)) :: (ln, .tabI D) :: (sl, .list sts) :: (vl, .list vals) :: (fl, .list (flts.map Prod.fst)) :: (mv, .list mvs) :: (a, .tup vs) :: X))
    (List.Perm.append_left _ (List.perm_middle (l₁ := [_, _, _, _, _, _, _])).symm)
  have hlen := hm.length
  have H' : Mach κ ⟨T, kinds, Cl, c, tb, hd, most, ext, ans, val⟩ cf flts ((c, .inst Cl d) :: (d, .attrs Cl (attrL tb hd most tm ln sl vl lk cf.cnt tc ans ta val fl mv extra)) :: (ln, .tabI D) :: (sl, .list sts) :: (vl, .list vals) :: (fl, .list (flts.map Prod.fst)) :: (mv, .list mvs) :: (a, .tup vs) :: X) :=
    ⟨extra, hx, d, ln, sl, vl, fl, mv, tm, tc, ta, D, sts, vals, mvs, lk, (a, .tup vs) :: X, rfl, hi, hw, hm.mono fun _ _ k => k.mono fun p hp => .tail _ hp, hl, hk.mono fun p hp => .tail _ hp⟩
  refine call_cx [("move", .ref a), ("self", .ref c)] G C S (by k_is) (by k_is) (BindsTo.of_eq rfl) (locs rfl) rfl rfl rfl (by decide) fun L' hid' s' A' env' hE hI hA C' S' ret => ?_
  have hz : mvs.length ≤ 100 := by have := O.mvs; omega
  have hz' : mvs.length ≤ sizeLine := Nat.le_trans hz (by decide)
  obtain ⟨n, rfl⟩ := Int.eq_ofNat_of_zero_le hmost.1
  have hs := strlen_small n (by omega)
  repeat' k_extra "z"
  k_extra "zi"
  · have hge : (n : Int) ≤ cf.moves.length := by have := of_decide_eq_true hq; omega
    with_reducible refine R_execs (R_raise (κ₀ := κ) G C' ?_)
    repeat' k_extra "z"
    with_reducible refine R_strint (by assumption) (by omega) fun _ _ _ => ?_
    repeat' k_extra "z"
    have l1 : (("more than " : Str) ++ ((toString (n : Int) : String) : Str)).length ≤ 13 := by
      rw [PySem.Str.length_append]
      have e : ("more than " : Str).length = 10 := by decide
      omega
    have l2 : (("more than " : Str) ++ ((toString (n : Int) : String) : Str)).length ≠ 0 := by
      rw [PySem.Str.length_append]
      have e : ("more than " : Str).length = 10 := by decide
      omega
    with_reducible refine' R_addstr (by assumption) ?_ hs.1 ?_ fun _ _ _ => ?_
    · rfl
    · exact Nat.le_trans l1 (by decide)
    repeat' k_extra "z"
    with_reducible refine' R_addstr (by assumption) ?_ ?_ ?_ fun _ _ _ => ?_
    · exact beq_eq_false_iff_ne.mpr l2
    · rfl
    · rw [PySem.Str.length_append]
      have e : (" moves" : Str).length = 6 := by decide
      exact Nat.le_trans (Nat.add_le_add l1 (Nat.le_of_eq e)) (by decide)
    repeat' k_extra "z"
    refine place_spec (ex := []) G nm C' (by assumption) H' fun _ _ => ?_
    repeat' k_extra "z"
    refine perr_spec (ex := []) (lv := lv + 2) G C' (by assumption) fun s₃ e dd S₃ => ?_
    refine R_cutV (by assumption) ?_
    refine ⟨e, dd, _, _, _, rfl, S₃, R_leaveFirst C' (by rw [hE]; rfl) S₃ fun s₄ F => ?_⟩
    exact exc _ _ _ hge (ret.fly F) H'
  · repeat' k_extra "z"
    have r := ret.st (by assumption)
    exact ok _ _ (by have := of_decide_eq_false hq; omega) r ⟨extra, hx, d, ln, sl, vl, fl, mv, tm, tc, ta, D, sts, vals, _, lk, (a, .tup vs) :: X, rfl, hi, hw, (hm.mono fun _ _ k => k.mono fun p hp => .tail _ hp).snoc ⟨a, vs, rfl, .head _, hmo⟩, hl, hk.mono fun p hp => .tail _ hp⟩
end
/-- a machine's surroundings -/
structure MK (κ : Kw) (M : MCx) (vt : Virt) : Prop where
  cN : CoreC M.C vt
  vf : VirtFn vt
  nm : NoM M.ext
  tk : TabK κ M.tb M.T
  to : M.T.Ok
  m0 : 0 ≤ M.most ∧ M.most ≤ 100
  hd : ∃ hdd, κ M.hd (.inst 292 hdd) ∧ κ hdd (.attrs 292 [])
  hC : M.C = vt.cls ∧ κ 841 (.list namesV)
  hX : M.ext = vt.ext
  kd : ∀ i, PySem.Spec.lookup (.str (kindAt M.kinds i)) numD = none ∨ ∃ g, PySem.Spec.lookup (.str (kindAt M.kinds i)) numD = some (.int g)
noncomputable def Cfg.shifted (c : Cfg) (kinds : List Str) (g : Int) : Cfg := { stack := c.stack ++ [g], worths := c.worths ++ [some (worthAt kinds c.spot)], moves := c.moves ++ [.shift g], spot := c.spot + 1, seen := false }
section
variable {b : Bs} {lv : Nat} {A : Around} {E : Value → Shared → Prop} {s : Shared} {hid : Kw} {L : Addr} {m m' : Str → Option Value} {κ₀ κ : Kw} {ex own own' : List (Addr × AObj)} {frs : List Env} {env : Env} {M : MCx} {vt : Virt} {cf : Cfg} {flts : List Flt}
set_option maxHeartbeats 2000000
theorem hshift_spec {tok td : Addr} {tk tt tw : Tok} {x k w : Str} {Q : Value → Shared → Prop} {hd : Addr} (G : Gd b) (C : Cx b (lv + 1) A L hid frs) (S : St b hid L m κ₀ κ own s) (h1 : Has κ own tok (.inst 105 td))
    (h2 : Has κ own td (.attrs 105 [("kind", .str k tk), ("text", .str x tt), ("at", .none), ("worth", .str w tw)]))
    (ok : ∀ s', St b hid L m κ₀ κ own s' → Q (.str w tw) s') : wpAny (model b.prog b.w) A (call (.ref 275) [.ref hd, .ref tok]) Q E s := by
  refine call_cx (ex := []) [("token", .ref tok), ("self", .ref hd)] G C S (by k_is) (by k_is) (BindsTo.of_eq rfl) (locs rfl) rfl rfl rfl (by decide) fun L' hid' s' A' env' hE hI hA C' S' ret => ?_
  repeat' k_extra "z"
  exact ok _ (ret.st (by assumption))
theorem core_shift {g : Int} {t : Tok} {Q : Value → Shared → Prop} (G : Gd b) (C : Cx b (lv + 7) A L hid frs) (K : MK κ M vt) (S : St b hid L m κ₀ κ (ex ++ own) s) (H : Mach κ M cf flts own) (O : cf.Ok M.T M.most) (hs : cf.seen = true)
    (ok : ∀ s' own', (cf.moves.length : Int) < M.most → St b hid L m κ₀ κ (ex ++ own') s' → Mach κ M (cf.shifted M.kinds g) flts own' → Q .none s')
    (exc : ∀ s' own' e, M.most ≤ cf.moves.length → Fly b hid L m κ₀ κ (ex ++ own') frs e s' → Mach κ M cf flts own' → E (.ref e) s') :
    CallC b A 508 [.ref M.c, .int g t] Q E s := by
  obtain ⟨cN, vf, nm, tk, to, m0, ⟨hdd, hk1, hk2⟩, hC, hX, kd⟩ := K
  have H' := H
  obtain ⟨T, kinds, Cl, c, tb, hd, most, ext, ans, val⟩ := M
  dsimp only at *
  obtain ⟨extra, hx, d, ln, sl, vl, fl, mv, tm, tc, ta, D, sts, vals, mvs, lk, X, ho, hi, hw, hm, hl, hk⟩ := H
  dsimp only at *
  subst ho
  have nmx := nm _ hx
  refine call_cd [("goal", .int g t), ("self", .ref c)] G C S (by k_is) (by k_is) (BindsTo.of_eq rfl) (locs rfl) rfl rfl rfl (by decide) fun L' hid' s' A' env' hE hI hA C' S' ret => ?_
  repeat' k_extra "z"
  refine note_spec (ex := []) (lv := lv + 1) (mo := .shift g) G C' cN nm (by assumption) H' O m0 ⟨_, _, rfl⟩ (fun s₂ own₂ hlt S₂ H₂ => ?_) fun s₂ own₂ e hge F H₂ => ?_
  · obtain ⟨extra, hx, d, ln, sl, vl, fl, mv, tm, tc, ta, D, sts, vals, mvs, lk, X, rfl, hi, hw, hm, hl, hk⟩ := H₂
    dsimp only at *
    have nmx := nm _ hx
    obtain ⟨hk, hkF⟩ := hk
    rw [if_pos hs] at hk
    obtain ⟨tok, rfl, td, tk, tt, tw, x, h1, h2⟩ := hk
    have hz1 : sts.length ≤ sizeLine := by have e1 := hi.length; have := O.len; have := O.wl; have := O.mvs; exact Nat.le_trans (by omega : sts.length ≤ 101) (by decide)
    have hz2 : vals.length ≤ sizeLine := by have e1 := hw.length; have := O.wl; have := O.mvs; exact Nat.le_trans (by omega : vals.length ≤ 100) (by decide)
    repeat' k_extra "z"
    refine hshift_spec G C' (by assumption) h1.t7 h2.t7 fun _ _ => ?_
    repeat' k_extra "z"
    have r := ret.st (by assumption)
    have e : ∀ (mo : List Mv), Cfg.cnt { cf with moves := mo } = Cfg.cnt (cf.shifted kinds g) := fun mo => by unfold Cfg.cnt Cfg.shifted; dsimp only; rw [hs]; simp
    rw [e] at r
    exact ok _ _ hlt r ⟨extra, hx, d, ln, sl, vl, fl, mv, tm, _, _, D, _, _, _, _, X, rfl, ints_snoc hi _ _, hw.snoc ⟨_, rfl⟩, hm, hl, ⟨rfl, hkF⟩⟩
  · refine R_leaveOn C' (by rw [hE]; rfl) F fun s₃ F₃ => exc _ _ _ hge (ret.fly F₃) H₂
end
section
variable {b : Bs} {lv : Nat} {A : Around} {E : Value → Shared → Prop} {s : Shared} {hid : Kw} {L : Addr} {m m' : Str → Option Value} {κ₀ κ : Kw} {ex own own' : List (Addr × AObj)} {frs : List Env} {env : Env} {M : MCx} {vt : Virt} {cf : Cfg} {flts : List Flt}
set_option maxHeartbeats 2000000
theorem hreduce_spec {hd l : Addr} {r ctl : Value} {us : List Value} {Q : Value → Shared → Prop} (G : Gd b) (C : Cx b (lv + 1) A L hid frs) (S : St b hid L m κ₀ κ own s) (k : Has κ own l (.list us)) (hz : us.length ≤ 1000)
    (ok : ∀ s', St b hid L m κ₀ κ own s' → Q (us.headD .none) s') : wpAny (model b.prog b.w) A (call (.ref 282) [.ref hd, r, .ref l, ctl]) Q E s := by
  refine call_cx (ex := []) [("control", ctl), ("values", .ref l), ("rule", r), ("self", .ref hd)] G C S (by k_is) (by k_is) (BindsTo.of_eq rfl) (locs rfl) rfl rfl rfl (by decide) fun L' hid' s' A' env' hE hI hA C' S' ret => ?_
  cases us with
  | nil =>
    repeat' k_extra "z"
    exact ok _ (ret.st (by assumption))
  | cons v us =>
    have hp : decide ((0 : Int) < ((v :: us).length : Nat)) = true := decide_eq_true (by simp)
    repeat' k_extra "z"
    rw [hp]
    repeat' k_extra "z"
    exact ok _ (ret.st (by assumption))
theorem core_act {r : Value} {l : Addr} {us : List Value} {Q : Value → Shared → Prop} (G : Gd b) (C : Cx b (lv + 2) A L hid frs) (K : MK κ M vt) (S : St b hid L m κ₀ κ (ex ++ own) s) (H : Mach κ M cf flts own)
    (k : Has κ own l (.list us)) (hz : us.length ≤ 1000) (ok : ∀ s', St b hid L m κ₀ κ (ex ++ own) s' → Q (us.headD .none) s') : wpAny (model b.prog b.w) A (call (.ref 522) [.ref M.c, r, .ref l]) Q E s := by
  obtain ⟨cN, vf, nm, tk, to, m0, ⟨hdd, hk1, hk2⟩, hC, hX, kd⟩ := K
  obtain ⟨T, kinds, Cl, c, tb, hd, most, ext, ans, val⟩ := M
  dsimp only at *
  obtain ⟨extra, hx, d, ln, sl, vl, fl, mv, tm, tc, ta, D, sts, vals, mvs, lk, X, ho, hi, hw, hm, hl, hk⟩ := H
  dsimp only at *
  subst ho
  have nmx := nm _ hx
  refine call_cx [("values", .ref l), ("rule", r), ("self", .ref c)] G C S (by k_is) (by k_is) (BindsTo.of_eq rfl) (locs rfl) rfl rfl rfl (by decide) fun L' hid' s' A' env' hE hI hA C' S' ret => ?_
  repeat' k_extra "z"
  refine hreduce_spec G C' (by assumption) k hz fun _ _ => ?_
  repeat' k_extra "z"
  exact ok _ (ret.st (by assumption))

theorem rule_facts {T : TabD} (O : T.Ok) {r : Int} (h0 : 0 < r) (h1 : r ≤ T.rules.length) : r < 100 ∧ (5 :: T.rules.map (·.1))[r.toNat]? = some (T.rule r).1 ∧ (2 :: T.rules.map (·.2.1))[r.toNat]? = some (T.rule r).2.1 ∧ (0 :: T.rules.map (·.2.2))[r.toNat]? = some (T.rule r).2.2 ∧
    0 ≤ (T.rule r).2.1 ∧ (T.rule r).2.1 ≤ 3 ∧ 0 ≤ (T.rule r).2.2 ∧ (T.rule r).2.2 ≤ 2 := by
  have hr := O.rules
  obtain ⟨k, hk⟩ : ∃ k, r.toNat = k + 1 := ⟨r.toNat - 1, by omega⟩
  have hkl : k < T.rules.length := by omega
  have e : T.rule r = T.rules[k] := by
    unfold TabD.rule
    rw [hk, Nat.add_sub_cancel, List.getD_eq_getElem?_getD, List.getElem?_eq_getElem hkl]; rfl
  have := O.rule _ (List.getElem_mem hkl)
  rw [e, hk]
  refine ⟨by omega, ?_, ?_, ?_, this⟩ <;> simp [hkl]
noncomputable def Cfg.gone (c : Cfg) (g : Int) (w : Option Str) : Cfg := { c with stack := c.stack ++ [g], worths := c.worths ++ [w] }
theorem core_goon {r : Int} {t : Tok} {v : Value} {w : Option Str} {Q : Value → Shared → Prop} (G : Gd b) (C : Cx b (lv + 7) A L hid frs) (K : MK κ M vt) (S : St b hid L m κ₀ κ (ex ++ own) s) (H : Mach κ M cf flts own)
    (hlen : cf.stack.length = cf.worths.length + 1) (hsz : cf.worths.length ≤ 100) (hst : ∀ a ∈ cf.stack, 0 ≤ a ∧ a < M.T.rows.length) (hr : 0 < r) (hr' : r ≤ M.T.rules.length) (hv : WorthIs v w)
    (ok : ∀ s' own', 0 ≤ M.T.goto cf.top (M.T.rule r).1 → St b hid L m κ₀ κ (ex ++ own') s' → Mach κ M (cf.gone (M.T.goto cf.top (M.T.rule r).1) w) flts own' → Q .none s')
    (exc : ∀ s' own' e, M.T.goto cf.top (M.T.rule r).1 < 0 → Fly b hid L m κ₀ κ (ex ++ own') frs e s' → Mach κ M cf flts own' → E (.ref e) s') :
    CallC b A 529 [.ref M.c, .int r t, v] Q E s := by
  obtain ⟨cN, vf, nm, TK, to, m0, ⟨hdd, hk1, hk2⟩, hC, hX, kd⟩ := K
  have H' := H
  obtain ⟨T, kinds, Cl, c, tb, hd, most, ext, ans, val⟩ := M
  dsimp only at *
  obtain ⟨extra, hx, d, ln, sl, vl, fl, mv, tm, tc, ta, D, sts, vals, mvs, lk, X, ho, hi, hw, hm, hl, hk⟩ := H
  dsimp only at *
  subst ho
  have nmx := nm _ hx
  have TK' := TK
  obtain ⟨td, ls, lns, bfs, dfs, nms, gr, rws, gts, cf', se, t5, tm', lsv, lnv, bfv, dfv, rwv, gtv, k1, k2, -⟩ := TK'
  obtain ⟨f0, f1, f2, f3, -⟩ := rule_facts to hr hr'
  obtain ⟨pre, hpre⟩ := last_split hlen
  have htop : 0 ≤ cf.top ∧ cf.top < T.rows.length := hst _ (by rw [hpre]; exact List.mem_append_right _ (.head _))
  obtain ⟨a1, a2, a3, a4, a5, DD, a6, a7, a8⟩ := to.at htop.1 htop.2
  have hi₀ := hi
  rw [hpre] at hi
  obtain ⟨us, tt, rfl, hi'⟩ := ints_last hi
  have hz1 : (us ++ [Value.int (cf.stack.getLastD 0) tt]).length ≤ sizeLine := by have e1 := hi₀.length; exact Nat.le_trans (by omega : _ ≤ 101) (by decide)
  have hz2 : vals.length ≤ sizeLine := by have e1 := hw.length; exact Nat.le_trans (by omega : _ ≤ 100) (by decide)
  refine call_cd [("value", v), ("rule", .int r t), ("self", .ref c)] G C S (by k_is) (by k_is) (BindsTo.of_eq rfl) (locs rfl) rfl rfl rfl (by decide) fun L' hid' s' A' env' hE hI hA C' S' ret => ?_
  repeat' k_extra "z"
  refine left_spec (lv := lv + 5) G C' (by assumption) TK (Int.le_of_lt hr) f0 f1 fun _ _ _ => ?_
  repeat' k_extra "z"
  refine goto_spec (lv := lv + 5) G C' (by assumption) TK htop.1 a5 a6 a7 fun _ _ _ => ?_
  have eg : T.goto cf.top (T.rule r).1 = gotoOf DD (T.rule r).1 := (a8 _).1
  rw [eg] at ok exc
  repeat' k_extra "z"
  k_extra "zi"
  · have hlt : gotoOf DD (T.rule r).1 < 0 := of_decide_eq_true hq
    have hb : r.natAbs ≤ 100 := by omega
    have hrr : ((r.natAbs : Nat) : Int) = r := by omega
    have hs := strlen_small r.natAbs hb
    rw [hrr] at hs
    with_reducible refine R_execs (R_raise (κ₀ := κ) G C' ?_)
    repeat' k_extra "z"
    with_reducible refine R_strint (by assumption) (by omega) fun _ _ _ => ?_
    repeat' k_extra "z"
    with_reducible refine' R_addstr (by assumption) ?_ hs.1 ?_ fun _ _ _ => ?_
    · rfl
    · rw [PySem.Str.length_append]
      have e : ("no state behind rule " : Str).length = 21 := by decide
      exact Nat.le_trans (Nat.add_le_add (Nat.le_of_eq e) hs.2) (by decide)
    repeat' k_extra "z"
    refine place_spec (ex := []) G nm C' (by assumption) H' fun _ _ => ?_
    repeat' k_extra "z"
    refine perr_spec (ex := []) (lv := lv + 4) G C' (by assumption) fun s₃ e dd S₃ => ?_
    refine R_cutV (by assumption) ?_
    refine ⟨e, dd, _, _, _, rfl, S₃, R_leaveFirst C' (by rw [hE]; rfl) S₃ fun s₄ F => ?_⟩
    exact exc _ _ _ hlt (ret.fly F) H'
  · have hge : 0 ≤ gotoOf DD (T.rule r).1 := by have := of_decide_eq_false hq; omega
    repeat' k_extra "z"
    have r := ret.st (by assumption)
    exact ok _ _ hge r ⟨extra, hx, d, ln, sl, vl, fl, mv, tm, tc, ta, D, _, _, _, lk, X, rfl, ints_snoc hi₀ _ _, hw.snoc hv, hm, hl, hk⟩
end
noncomputable def ActSpec (b : Bs) (vt : Virt) : Prop := ∀ {lv : Nat} {A : Around} {E : Value → Shared → Prop} {s : Shared} {hid : Kw} {L : Addr} {m : Str → Option Value} {κ₀ κ : Kw} {ex own : List (Addr × AObj)} {frs : List Env} {M : MCx} {cf : Cfg} {flts : List Flt}
  {r : Value} {l : Addr} {us : List Value} {Q : Value → Shared → Prop}, Cx b (lv + 2) A L hid frs → MK κ M vt → St b hid L m κ₀ κ (ex ++ own) s → Mach κ M cf flts own → Has κ own l (.list us) → us.length ≤ 1000 →
  (∀ s', St b hid L m κ₀ κ (ex ++ own) s' → Q (us.headD .none) s') → wpAny (model b.prog b.w) A (call (.ref vt.act) [.ref M.c, r, .ref l]) Q E s
noncomputable def GoSpec (b : Bs) (vt : Virt) : Prop := ∀ {lv : Nat} {A : Around} {E : Value → Shared → Prop} {s : Shared} {hid : Kw} {L : Addr} {m : Str → Option Value} {κ₀ κ : Kw} {ex own : List (Addr × AObj)} {frs : List Env} {M : MCx} {cf : Cfg} {flts : List Flt}
  {r : Int} {t : Tok} {v : Value} {w : Option Str} {Q : Value → Shared → Prop}, Cx b (lv + 10) A L hid frs → MK κ M vt → St b hid L m κ₀ κ (ex ++ own) s → Mach κ M cf flts own →
  cf.stack.length = cf.worths.length + 1 → cf.worths.length ≤ 100 → (∀ a ∈ cf.stack, 0 ≤ a ∧ a < M.T.rows.length) → 0 < r → r ≤ M.T.rules.length → WorthIs v w →
  (∀ s' own', 0 ≤ M.T.goto cf.top (M.T.rule r).1 → St b hid L m κ₀ κ (ex ++ own') s' → Mach κ M (cf.gone (M.T.goto cf.top (M.T.rule r).1) w) flts own' → Q .none s') →
  (∀ s' own' e, M.T.goto cf.top (M.T.rule r).1 < 0 → Fly b hid L m κ₀ κ (ex ++ own') frs e s' → Mach κ M cf flts own' → E (.ref e) s') →
  wpAny (model b.prog b.w) A (call (.ref vt.goon) [.ref M.c, .int r t, v]) Q E s
theorem All2.headD {vs : List Value} {ws : List (Option Str)} (h : All2 WorthIs vs ws) : WorthIs (vs.headD .none) ws.head?.join := by
  cases h with
  | nil => rfl
  | cons a _ => exact a
theorem Mv.is_reduce (r : Int) (t u : Tok) : Mv.is (.reduce r) [.str "reduce" t, .int r u] := ⟨t, u, rfl⟩
theorem Mv.is_shift (r : Int) (t u : Tok) : Mv.is (.shift r) [.str "shift" t, .int r u] := ⟨t, u, rfl⟩
theorem Mv.is_accept (t : Tok) : Mv.is .accept [.str "accept" t] := ⟨t, rfl⟩
noncomputable def Cfg.popped (c : Cfg) (r : Int) (k : Nat) : Cfg := { c with stack := c.stack.take (k + 1), worths := c.worths.take k, moves := c.moves ++ [.reduce r] }
section
variable {b : Bs} {lv : Nat} {A : Around} {E : Value → Shared → Prop} {s : Shared} {hid : Kw} {L : Addr} {m m' : Str → Option Value} {κ₀ κ : Kw} {ex own own' : List (Addr × AObj)} {frs : List Env} {env : Env} {M : MCx} {vt : Virt} {cf : Cfg} {flts : List Flt}
set_option maxHeartbeats 4000000
theorem act_use {r : Value} {l : Addr} {us : List Value} {Q : Value → Shared → Prop} (AS : ActSpec b vt) (C : Cx b (lv + 2) A L hid frs) (K : MK κ M vt) (S : St b hid L m κ₀ κ ((l, .list us) :: own) s) (H : Mach κ M cf flts own) (hz : us.length ≤ 1000)
    (ok : ∀ s' own', St b hid L m κ₀ κ own' s' → Mach κ M cf flts own' → Q (us.headD .none) s') : wpAny (model b.prog b.w) A (call (.ref vt.act) [.ref M.c, r, .ref l]) Q E s := by
  obtain ⟨own₃, hp, H₃, hY⟩ := Mach.absorb [(l, .list us)] H
  exact AS (ex := []) C K (S.perm hp) H₃ (.inl (hY _ (.head _))) hz fun s₄ S₄ => ok _ _ S₄ H₃
theorem goon_use {r : Int} {t : Tok} {v : Value} {w : Option Str} {ow : List (Addr × AObj)} {Q : Value → Shared → Prop} (GS : GoSpec b vt) (C : Cx b (lv + 10) A L hid frs) (K : MK κ M vt) (S : St b hid L m κ₀ κ ow s) (hp : ow.Perm own) (H : Mach κ M cf flts own)
    (hlen : cf.stack.length = cf.worths.length + 1) (hsz : cf.worths.length ≤ 100) (hst : ∀ a ∈ cf.stack, 0 ≤ a ∧ a < M.T.rows.length) (hr : 0 < r) (hr' : r ≤ M.T.rules.length) (hv : WorthIs v w)
    (ok : ∀ s' own', 0 ≤ M.T.goto cf.top (M.T.rule r).1 → St b hid L m κ₀ κ own' s' → Mach κ M (cf.gone (M.T.goto cf.top (M.T.rule r).1) w) flts own' → Q .none s')
    (exc : ∀ s' own' e, M.T.goto cf.top (M.T.rule r).1 < 0 → Fly b hid L m κ₀ κ own' frs e s' → Mach κ M cf flts own' → E (.ref e) s') :
    wpAny (model b.prog b.w) A (call (.ref vt.goon) [.ref M.c, .int r t, v]) Q E s :=
  GS (ex := []) C K (S.perm hp) H hlen hsz hst hr hr' hv ok exc
theorem reduceF_popped {T : TabD} {most r : Int} {c : Cfg} (h1 : ¬ ((c.worths.length : Int) - (T.rule r).2.1 - (T.rule r).2.2 < 0 ∨ most ≤ c.moves.length)) :
    reduceF T most c r = if T.goto (c.popped r (c.worths.length - (T.rule r).2.1.toNat)).top (T.rule r).1 < 0 then .inr (raisedR c (c.moves ++ [.reduce r])) else
      .inl ((c.popped r (c.worths.length - (T.rule r).2.1.toNat)).gone (T.goto (c.popped r (c.worths.length - (T.rule r).2.1.toNat)).top (T.rule r).1) ((c.worths.drop (c.worths.length - (T.rule r).2.1.toNat - (T.rule r).2.2.toNat)).head?).join) := by
  unfold reduceF
  dsimp only
  rw [if_neg h1]
  rfl
theorem reduce_spec {r : Int} {t : Tok} {Q : Value → Shared → Prop} (G : Gd b) (AS : ActSpec b vt) (GS : GoSpec b vt) (C : Cx b (lv + 12) A L hid frs) (K : MK κ M vt) (S : St b hid L m κ₀ κ (ex ++ own) s) (H : Mach κ M cf flts own) (O : cf.Ok M.T M.most)
    (hr : 0 < r) (hr' : r ≤ M.T.rules.length)
    (ok : ∀ s' own' cf', reduceF M.T M.most cf r = .inl cf' → St b hid L m κ₀ κ (ex ++ own') s' → Mach κ M cf' flts own' → Q .none s')
    (exc : ∀ s' own' e cf', reduceF M.T M.most cf r = .inr (raisedR cf' cf'.moves) → Fly b hid L m κ₀ κ (ex ++ own') frs e s' → Mach κ M cf' flts own' → E (.ref e) s') :
    wpAny (model b.prog b.w) A (call (.ref 515) [.ref M.c, .int r t]) Q E s := by
  have K' := K
  obtain ⟨cN, vf, nm, TK, to, m0, ⟨hdd, hk1, hk2⟩, hC, hX, kd⟩ := K'
  have va := vf.act
  have vg := vf.goon
  have H' := H
  obtain ⟨T, kinds, Cl, c, tb, hd, most, ext, ans, val⟩ := M
  dsimp only at *
  obtain ⟨extra, hx, d, ln, sl, vl, fl, mv, tm, tc, ta, D, sts, vals, mvs, lk, X, ho, hi, hw, hm, hl, hk⟩ := H
  dsimp only at *
  subst ho
  have nmx := nm _ hx
  have TK' := TK
  obtain ⟨td, ls, lns, bfs, dfs, nms, gr, rws, gts, cf', se, t5, tm', lsv, lnv, bfv, dfv, rwv, gtv, k1, k2, -⟩ := TK'
  obtain ⟨f0, f1, f2, f3, g1, g2, g3, g4⟩ := rule_facts to hr hr'
  have hz2 : vals.length ≤ 1000000 := by have e1 := hw.length; have := O.wl; have := O.mvs; omega
  refine call_cx [("rule", .int r t), ("self", .ref c)] G C S (by k_is) (by k_is) (BindsTo.of_eq rfl) (locs rfl) rfl rfl rfl (by decide) fun L' hid' s' A' env' hE hI hA C' S' ret => ?_
  repeat' k_extra "z"
  with_reducible refine length_spec (lv := lv + 10) G C' (by assumption) TK (Int.le_of_lt hr) f0 f2 fun _ _ _ => ?_
  repeat' k_extra "z"
  with_reducible refine before_spec (lv := lv + 10) G C' (by assumption) TK (Int.le_of_lt hr) f0 f3 fun _ _ _ => ?_
  repeat' k_extra "z"
  k_extra "zi"
  · have hlt : (vals.length : Int) - (T.rule r).2.1 - (T.rule r).2.2 < 0 := of_decide_eq_true hq
    have hred : reduceF T most cf r = .inr (raisedR cf cf.moves) := by
      unfold reduceF; dsimp only; rw [if_pos (.inl (by rw [← hw.length]; exact hlt))]
    have hb : r.natAbs ≤ 100 := by omega
    have hrr : ((r.natAbs : Nat) : Int) = r := by omega
    have hs := strlen_small r.natAbs hb
    rw [hrr] at hs
    have l1 : (("rule " : Str) ++ ((toString r : String) : Str)).length ≤ 8 := by
      rw [PySem.Str.length_append]
      have e : ("rule " : Str).length = 5 := by decide
      omega
    have l2 : (("rule " : Str) ++ ((toString r : String) : Str)).length ≠ 0 := by
      rw [PySem.Str.length_append]
      have e : ("rule " : Str).length = 5 := by decide
      omega
    with_reducible refine R_execs (R_raise (κ₀ := κ) G C' ?_)
    repeat' k_extra "z"
    with_reducible refine R_strint (by assumption) (by omega) fun _ _ _ => ?_
    repeat' k_extra "z"
    with_reducible refine' R_addstr (by assumption) ?_ hs.1 ?_ fun _ _ _ => ?_
    · rfl
    · exact Nat.le_trans l1 (by decide)
    repeat' k_extra "z"
    with_reducible refine' R_addstr (by assumption) ?_ ?_ ?_ fun _ _ _ => ?_
    · exact beq_eq_false_iff_ne.mpr l2
    · rfl
    · rw [PySem.Str.length_append]
      have e : (" wants more symbols than lie there" : Str).length = 34 := by decide
      exact Nat.le_trans (Nat.add_le_add l1 (Nat.le_of_eq e)) (by decide)
    repeat' k_extra "z"
    with_reducible refine place_spec (ex := []) G nm C' (St.nil (by assumption)) H' fun _ _ => ?_
    repeat' k_extra "z"
    with_reducible refine perr_spec (ex := []) (lv := lv + 9) G C' (St.nil (by assumption)) fun s₃ e dd S₃ => ?_
    refine R_cutV (by assumption) ?_
    refine ⟨e, dd, _, _, _, rfl, S₃, R_leaveFirst C' (by rw [hE]; rfl) S₃ fun s₄ F => ?_⟩
    exact exc _ _ _ _ hred (ret.fly F) H'
  · have hge : 0 ≤ (vals.length : Int) - (T.rule r).2.1 - (T.rule r).2.2 := by have := of_decide_eq_false hq; omega
    repeat' k_extra "z"
    with_reducible refine note_spec (ex := []) (lv := lv + 6) (mo := .reduce r) G C' cN nm (St.nil (by assumption)) H' O m0 (Mv.is_reduce _ _ _) (fun s₂ own₂ hlt S₂ H₂ => ?_) fun s₂ own₂ e hge' F H₂ => ?_
    · rw [List.nil_append] at S₂
      have H₂' := H₂
      obtain ⟨extra, hx, d, ln, sl, vl, fl, mv, tm, tc, ta, D, sts, vals', mvs, lk, X, rfl, hi, hw', hm, hl, hk⟩ := H₂
      dsimp only at *
      have nmx := nm _ hx
      have e1 := hw.length
      have e2 := hw'.length
      have hz3 : vals'.length ≤ sizeLine := by have := O.wl; exact Nat.le_trans (by omega : _ ≤ 100) (by decide)
      repeat' k_extra "z"
      with_reducible refine act_use (lv := lv + 9) AS C' K (by assumption) H₂' ?_ fun s₄ own₃ S₄ H₃ => ?_
      · rw [List.length_drop]; have := O.wl; omega
      have H₃' := H₃
      obtain ⟨extra, hx, d, ln, sl, vl, fl, mv, tm, tc, ta, D, sts, vals'', mvs, lk, X, rfl, hi, hw'', hm, hl, hk⟩ := H₃
      dsimp only at *
      have nmx := nm _ hx
      have e3 := hw''.length
      have hz4 : vals''.length ≤ 1000000 := by have := O.wl; omega
      have hz5 : vals''.length ≤ sizeLine := by have := O.wl; exact Nat.le_trans (by omega : _ ≤ 100) (by decide)
      have hz6 : sts.length ≤ sizeLine := by have := O.wl; have := O.len; have := hi.length; exact Nat.le_trans (by omega : _ ≤ 101) (by decide)
      have hk0 : 0 ≤ (vals''.length : Int) - (T.rule r).2.1 := by omega
      have hk1' : 0 ≤ (vals''.length : Int) - (T.rule r).2.1 + 1 := by omega
      have hN : ((vals''.length : Int) - (T.rule r).2.1).toNat = cf.worths.length - (T.rule r).2.1.toNat := ar1 g1 e3 hk0
      have hN1 : ((vals''.length : Int) - (T.rule r).2.1 + 1).toNat = cf.worths.length - (T.rule r).2.1.toNat + 1 := ar1p g1 e3 hk0
      have hF : ((vals.length : Int) - (T.rule r).2.1 - (T.rule r).2.2).toNat = cf.worths.length - (T.rule r).2.1.toNat - (T.rule r).2.2.toNat := ar2 g1 g3 e1 hge
      have hcond : ¬ ((cf.worths.length : Int) - (T.rule r).2.1 - (T.rule r).2.2 < 0 ∨ most ≤ cf.moves.length) := by omega
      have hred := reduceF_popped hcond
      repeat' k_extra "z"
      with_reducible refine' R_sliceUpto (by assumption) ?k1 hz5 hk0 fun s₅ l1 S₅ => ?_
      case k1 => k_extra "has"
      repeat' k_extra "z"
      with_reducible refine' R_sliceUpto (by assumption) ?k2 hz6 hk1' fun s₆ l2 S₆ => ?_
      case k2 => k_extra "has"
      repeat' k_extra "z"
      have HM : Mach κ ⟨T, kinds, Cl, c, tb, hd, most, ext, ans, val⟩ (cf.popped r (cf.worths.length - (T.rule r).2.1.toNat)) flts
          ((c, .inst Cl d) :: (d, .attrs Cl (attrL tb hd most tm ln l2 l1 lk cf.cnt tc ans ta val fl mv extra)) :: (ln, .tabI D) :: (l2, .list (sts.take ((vals''.length : Int) - (T.rule r).2.1 + 1).toNat)) :: (l1, .list (vals''.take ((vals''.length : Int) - (T.rule r).2.1).toNat)) :: (fl, .list (flts.map Prod.fst)) :: (mv, .list mvs) :: (sl, .list sts) :: (vl, .list vals'') :: X) :=
        ⟨extra, hx, d, ln, l2, l1, fl, mv, tm, tc, ta, D, _, _, mvs, lk, _, rfl, by rw [hN1]; exact ints_take hi _, by rw [hN]; exact hw''.take _, hm.mono fun _ _ k => k.mono' fun p hp => .tail _ (.tail _ hp), hl, hk.mono' fun p hp => .tail _ (.tail _ hp)⟩
      with_reducible refine goon_use (lv := lv + 1) (w := ((cf.worths.drop (cf.worths.length - (T.rule r).2.1.toNat - (T.rule r).2.2.toNat)).head?).join) GS C' K (by assumption) ?hp HM ?h1 ?h2 ?h3 hr hr' ?h4 (fun s₇ own₇ hg S₇ H₇ => ?_) fun s₇ own₇ e hg F₇ H₇ => ?_
      case hp => k_extra "perm"
      case h1 =>
        show (cf.stack.take _).length = (cf.worths.take _).length + 1
        rw [List.length_take, List.length_take, O.len]; first | exact armin3 | omega
      case h2 => show (cf.worths.take _).length ≤ 100; rw [List.length_take]; have := O.wl; exact Nat.le_trans (Nat.min_le_right _ _) (by omega)
      case h3 => exact fun a ha => O.sts a (List.mem_of_mem_take ha)
      case h4 => rw [hF]; exact All2.headD (hw'.drop _)
      · repeat' k_extra "z"
        refine ok _ _ _ ?_ (ret.st S₇) H₇
        rw [hred, if_neg (Int.not_lt.mpr hg)]
      · refine R_leaveOn C' (by rw [hE]; rfl) F₇ fun s₈ F₈ => exc _ _ _ _ ?_ (ret.fly F₈) H₇
        rw [hred, if_pos hg]
        rfl
    · refine R_leaveOn C' (by rw [hE]; rfl) F fun s₃ F₃ => exc _ _ _ cf ?_ (ret.fly F₃) H₂
      unfold reduceF; dsimp only; rw [if_pos (.inr hge')]
end
theorem namesV_get {n : Int} (h0 : 0 ≤ n) (h1 : n < 8) : ∃ t, namesV[n.toNat]? = some (.str (nameOf n) t) := by
  have : ∀ k : Fin 8, ∃ t, namesV[k.1]? = some (.str (namesT.getD k.1 ("", 0)).1 t) := by
    intro k
    refine ⟨(namesT.getD k.1 ("", 0)).2, ?_⟩
    have : k.1 < namesT.length := k.2
    unfold namesV
    rw [List.getElem?_map, List.getD_eq_getElem?_getD, List.getElem?_eq_getElem this]
    rfl
  exact this ⟨n.toNat, by omega⟩
theorem ints_at {vs : List Value} {ns : List Int} (h : IntsAre vs ns) {i : Nat} {v : Value} (e : vs[i]? = some v) : ∃ n t, ns[i]? = some n ∧ v = .int n t := by
  induction h generalizing i with
  | nil => simp at e
  | cons k t _ ih =>
    cases i with
    | zero => simp at e; subst e; exact ⟨k, t, rfl, rfl⟩
    | succ i => simpa using ih (by simpa using e)
theorem take_snoc {α : Type} {l : List α} {i : Nat} {x : α} (e : l[i]? = some x) : l.take (i + 1) = l.take i ++ [x] := by
  rw [List.take_add_one, e]; rfl
noncomputable def FltOk (flts : List Flt) (f : Option (Str × Int × List Int × Int)) : Prop := flts.map Prod.snd = f.toList
theorem expUpto_bd {row : List Int} {n : Nat} : ∀ k ∈ expUpto row n, 0 ≤ k ∧ k < n := by
  intro k hk
  unfold expUpto at hk
  obtain ⟨i, hi, rfl⟩ := List.mem_map.mp hk
  have := List.mem_range.mp (List.mem_filter.mp hi).1
  omega
theorem expUpto_len {row : List Int} {n : Nat} : (expUpto row n).length ≤ n := by
  unfold expUpto; rw [List.length_map]; exact Nat.le_trans (List.length_filter_le _ _) (by simp)
abbrev ExpSpec (b : Bs) (vt : Virt) : Prop := ∀ {lv : Nat} {A : Around} {E : Value → Shared → Prop} {s : Shared} {hid : Kw} {L : Addr} {m : Str → Option Value} {κ₀ κ : Kw} {ex own : List (Addr × AObj)} {frs : List Env} {M : MCx} {cf : Cfg} {flts : List Flt}
  {Q : Value → Shared → Prop}, Cx b (lv + 6) A L hid frs → MK κ M vt → St b hid L m κ₀ κ (ex ++ own) s → Mach κ M cf flts own → cf.Ok M.T M.most →
  (∀ s' f vs, St b hid L m κ₀ κ (ex ++ (f, .list vs) :: own) s' → IntsAre vs (expUpto (M.T.row cf.top) 5) → Q (.ref f) s') → wpAny (model b.prog b.w) A (call (.ref vt.expected) [.ref M.c]) Q E s
abbrev IsEstSpec (b : Bs) (vt : Virt) : Prop := ∀ {lv : Nat} {A : Around} {E : Value → Shared → Prop} {s : Shared} {hid : Kw} {L : Addr} {m : Str → Option Value} {κ₀ κ : Kw} {ex own : List (Addr × AObj)} {frs : List Env} {M : MCx} {cf : Cfg} {flts : List Flt}
  {k : Value} {Q : Value → Shared → Prop}, Cx b (lv + 1) A L hid frs → MK κ M vt → St b hid L m κ₀ κ (ex ++ own) s → Mach κ M cf flts own →
  (∀ s', St b hid L m κ₀ κ (ex ++ own) s' → Q (.bool true) s') → wpAny (model b.prog b.w) A (call (.ref vt.isest) [.ref M.c, k]) Q E s
noncomputable def Cfg.tokOk (κ : Kw) (own : List (Addr × AObj)) (kinds : List Str) (cf : Cfg) (tok : Addr) : Prop := TokH κ own tok (kindAt kinds cf.spot) (worthAt kinds cf.spot)
section
variable {b : Bs} {lv : Nat} {A : Around} {E : Value → Shared → Prop} {s : Shared} {hid : Kw} {L : Addr} {m m' : Str → Option Value} {κ₀ κ : Kw} {ex own own' : List (Addr × AObj)} {frs : List Env} {env : Env} {M : MCx} {vt : Virt} {cf : Cfg} {flts : List Flt}
set_option maxHeartbeats 2000000
theorem core_isest {k : Value} {Q : Value → Shared → Prop} (G : Gd b) (C : Cx b (lv + 1) A L hid frs) (K : MK κ M vt) (S : St b hid L m κ₀ κ (ex ++ own) s) (H : Mach κ M cf flts own)
    (ok : ∀ s', St b hid L m κ₀ κ (ex ++ own) s' → Q (.bool true) s') : wpAny (model b.prog b.w) A (call (.ref 501) [.ref M.c, k]) Q E s := by
  refine call_cx [("terminal", k), ("self", .ref M.c)] G C S (by k_is) (by k_is) (BindsTo.of_eq rfl) (locs rfl) rfl rfl rfl (by decide) fun L' hid' s' A' env' hE hI hA C' S' ret => ?_
  repeat' k_extra "z"
  exact ok _ (ret.st (by assumption))
theorem core_expected {Q : Value → Shared → Prop} (G : Gd b) (C : Cx b (lv + 3) A L hid frs) (K : MK κ M vt) (S : St b hid L m κ₀ κ (ex ++ own) s) (H : Mach κ M cf flts own) (O : cf.Ok M.T M.most)
    (ok : ∀ s' f vs, St b hid L m κ₀ κ (ex ++ (f, .list vs) :: own) s' → IntsAre vs (expUpto (M.T.row cf.top) 5) → Q (.ref f) s') : CallC b A 536 [.ref M.c] Q E s := by
  obtain ⟨cN, vf, nm, TK, to, m0, ⟨hdd, hk1, hk2⟩, hC, hX, kd⟩ := K
  have H' := H
  obtain ⟨T, kinds, Cl, c, tb, hd, most, ext, ans, val⟩ := M
  dsimp only at *
  obtain ⟨extra, hx, d, ln, sl, vl, fl, mv, tm, tc, ta, D, sts, vals, mvs, lk, X, ho, hi, hw, hm, hl, hk⟩ := H
  dsimp only at *
  subst ho
  have nmx := nm _ hx
  have TK' := TK
  obtain ⟨td, ls, lns, bfs, dfs, nms, gr, rws, gts, cf', se, t5, tm', lsv, lnv, bfv, dfv, rwv, gtv, k1, k2, -⟩ := TK'
  obtain ⟨pre, hpre⟩ : ∃ pre, cf.stack = pre ++ [cf.top] := last_split O.len
  have htop : 0 ≤ cf.top ∧ cf.top < T.rows.length := O.sts _ (by rw [hpre]; exact List.mem_append_right _ (.head _))
  obtain ⟨a1, a2, a3, a4, a5, -⟩ := to.at htop.1 htop.2
  rw [hpre] at hi
  obtain ⟨us, tt, rfl, hi'⟩ := ints_last hi
  refine call_cd [("self", .ref c)] G C S (by k_is) (by k_is) (BindsTo.of_eq rfl) (locs rfl) rfl rfl rfl (by decide) fun L' hid' s' A' env' hE hI hA C' S' ret => ?_
  repeat' k_extra "z"
  with_reducible refine expected_spec G C' (by assumption) TK htop.1 a5 a1 a2 fun _ _ _ _ hv => ?_
  repeat' k_extra "z"
  have r := ret.st (by assumption)
  refine ok _ _ _ (r.drop ?_) hv
  exact List.Sublist.append (List.Sublist.refl _) (List.Sublist.refl _)
end
theorem map_snoc (l : List Flt) (v : Value) (f : Str × Int × List Int × Int) : (l ++ [(v, f)]).map Prod.fst = l.map Prod.fst ++ [v] := by simp
noncomputable def Cfg.fault (cf : Cfg) (M : MCx) : Str × Int × List Int × Int := (kindAt M.kinds cf.spot, cf.top, expUpto (M.T.row cf.top) 5, cf.spot)
section
variable {b : Bs} {lv : Nat} {A : Around} {E : Value → Shared → Prop} {s : Shared} {hid : Kw} {L : Addr} {m m' : Str → Option Value} {κ₀ κ : Kw} {ex own own' : List (Addr × AObj)} {frs : List Env} {env : Env} {M : MCx} {vt : Virt} {cf : Cfg} {flts : List Flt}
set_option maxHeartbeats 2000000
theorem fault_new {v1 v2 v3 v4 : Value} {Q : Value → Shared → Prop} (G : Gd b) (C : Cx b (lv + 2) A L hid frs) (S : St b hid L m κ₀ κ (ex ++ own) s)
    (h1 : handedIn v1 = true) (h2 : handedIn v2 = true) (h3 : handedIn v3 = true) (h4 : handedIn v4 = true)
    (ok : ∀ s' a d, St b hid L m κ₀ κ (ex ++ (a, .inst 328 d) :: (d, .attrs 328 [("token", v1), ("state", v2), ("expected", v3), ("index", v4)]) :: own) s' → Q (.ref a) s') :
    wpAny (model b.prog b.w) A (call (.ref 328) [v1, v2, v3, v4]) Q E s := by
  refine new_cx (fun x => [("index", v4), ("expected", v3), ("state", v2), ("token", v1), ("self", .ref x)]) G C S (by k_is) (by k_is) (by k_is) (by k_is) (by k_is) (fun _ _ X => binds_K X rfl (by k_is) rfl rfl rfl) (fun _ => locs rfl) rfl rfl rfl (by decide)
    fun x d L' hid' s' A' env' hE hI C' S' ret => ?_
  repeat' k_extra "z"
  exact ⟨rfl, ok _ _ _ (ret.st (by assumption))⟩
theorem tell_fault_spec {Q : Value → Shared → Prop} (G : Gd b) (ES : ExpSpec b vt) (C : Cx b (lv + 8) A L hid frs) (K : MK κ M vt) (S : St b hid L m κ₀ κ (ex ++ own) s) (H : Mach κ M cf flts own) (O : cf.Ok M.T M.most) (hs : cf.seen = true) (hfl : flts.length ≤ 100)
    (ok : ∀ s' own' v, St b hid L m κ₀ κ (ex ++ own') s' → Mach κ M cf (flts ++ [(v, cf.fault M)]) own' → Q .none s') :
    wpAny (model b.prog b.w) A (call (.ref 541) [.ref M.c]) Q E s := by
  have K' := K
  obtain ⟨cN, vf, nm, TK, to, m0, ⟨hdd, hk1, hk2⟩, ⟨hC, hnv⟩, hX, kd⟩ := K'
  have H' := H
  have vx := vf.expected
  obtain ⟨T, kinds, Cl, c, tb, hd, most, ext, ans, val⟩ := M
  dsimp only at *
  obtain ⟨extra, hx, d, ln, sl, vl, fl, mv, tm, tc, ta, D, sts, vals, mvs, lk, X, ho, hi, hw, hm, hl, hk⟩ := H
  dsimp only at *
  subst ho
  have nmx := nm _ hx
  have TK' := TK
  obtain ⟨td, ls, lns, bfs, dfs, nms, gr, rws, gts, cf', se, t5, tm', lsv, lnv, bfv, dfv, rwv, gtv, k1, k2, -⟩ := TK'
  obtain ⟨pre, hpre⟩ : ∃ pre, cf.stack = pre ++ [cf.top] := last_split O.len
  rw [hpre] at hi
  obtain ⟨us, tt, rfl, hi'⟩ := ints_last hi
  obtain ⟨hk, hkF⟩ := hk
  rw [if_pos hs] at hk
  obtain ⟨tok, rfl, hk⟩ := hk
  have hcnt : cf.cnt - 1 = cf.spot := by unfold Cfg.cnt; rw [hs]; simp
  refine call_cells [("self", .ref c)] (fun _ => none) (nset "self" (.ref c) (fun _ => none)) G C S (by k_is) (by k_is) rfl (fun x hx => .inr ?_) ?_ ?_ (by decide) rfl rfl rfl fun cs L' hid' s' A' env' hcs hE hI hA C' S' ret => ?_
  · cases List.mem_singleton.mp hx; exact ⟨rfl, rfl⟩
  · rfl
  · rfl
  have hcs' : cs.map (·.1) = [Str.ofString "self"] := hcs
  clear hcs
  obtain ⟨cc, r, rfl, hr⟩ := cells_cons hcs'
  obtain rfl := cells_nil hr
  have S'' : St b hid' L' (fun x => none) κ κ ((cc, .cell (.ref c)) :: (c, .inst Cl d) :: (d, .attrs Cl (attrL tb hd most tm ln sl vl (.ref tok) cf.cnt tc ans ta val fl mv extra)) :: (ln, .tabI D) :: (sl, .list (us ++ [.int cf.top tt])) :: (vl, .list vals) :: (fl, .list (flts.map Prod.fst)) :: (mv, .list mvs) :: X) s' := S'
  clear S'
  have hbd := @expUpto_bd (T.row cf.top) 5
  with_reducible refine R_execs ?_
  refine R_joinK (fun KK => ∀ s₂ m₂ nl nv, m₂ "names" = some (.ref nl) → St b hid' L' m₂ κ κ ((nl, .list nv) :: (cc, .cell (.ref c)) :: (c, .inst Cl d) :: (d, .attrs Cl (attrL tb hd most tm ln sl vl (.ref tok) cf.cnt tc ans ta val fl mv extra)) :: (ln, .tabI D) :: (sl, .list (us ++ [.int cf.top tt])) :: (vl, .list vals) :: (fl, .list (flts.map Prod.fst)) :: (mv, .list mvs) :: X) s₂ → All2 StrIs nv ((expUpto (T.row cf.top) 5).map nameOf) → KK s₂) ?_ ?_
  · intro KK hK
    with_reducible refine' R_compUse (cl' := [(Str.ofString "self", cc)]) (fun _ => none) κ C' hI ?sw ?cl ?fs ?sc ?x ?k ?y ?h
    case sw => rw [hE]; kernel_rfl
    case cl => rw [hE]; kernel_rfl
    case fs => intro _; exact rfl
    case sc => exact rfl
    case x => exact rfl
    case k => exact rfl
    case y => exact rfl
    case h =>
      repeat' k_extra "z"
      refine ES (lv := lv + 1) (ex := [(cc, .cell (.ref c))]) C' K S'' H' O fun s₂ f vs S₂ hv => ?_
      dsimp only at hv
      have hz : vs.length ≤ sizeLine := by have := hv.length; have := @expUpto_len (T.row cf.top) 5; exact Nat.le_trans (by omega : vs.length ≤ 5) (by decide)
      with_reducible refine' R_iterList S₂ ?k fun s₃ it S₃ => ?_
      case k => k_extra "has"
      refine R_rest (iterList b f vs) (fun i ys κ' own' => κ = κ' ∧ own' = [(cc, .cell (.ref c))] ++ (f, .list vs) :: (c, .inst Cl d) :: (d, .attrs Cl (attrL tb hd most tm ln sl vl (.ref tok) cf.cnt tc ans ta val fl mv extra)) :: (ln, .tabI D) :: (sl, .list (us ++ [.int cf.top tt])) :: (vl, .list vals) :: (fl, .list (flts.map Prod.fst)) :: (mv, .list mvs) :: X ∧
        All2 StrIs ys (((expUpto (T.row cf.top) 5).take i).map nameOf)) S₃ ⟨rfl, rfl, .nil⟩ hz ?_ ?_ ?_ ?_
      · rintro i ys _ _ ⟨-, -, h⟩
        have := h.length; rw [List.length_map, List.length_take] at this; omega
      · rintro i ys _ _ ⟨rfl, rfl, -⟩
        k_extra "has"
      · intro i acc v ys m₁ _ _ hid₂ C₂ cenv s₁ E' Nx Nf hi hp hZ16 hN hF hEc Cc S₁
        obtain ⟨rfl, rfl, hh⟩ := hZ16
        obtain ⟨n, tn, hn, rfl⟩ := ints_at hv hp
        have hb := hbd n (List.mem_of_getElem? hn)
        obtain ⟨tx, hx'⟩ := namesV_get hb.1 (by omega)
        have hb1 := hb.1
        with_reducible refine R_tests0 ?_
        with_reducible refine R_itT ?_
        repeat' k_extra "z"
        refine hN _ _ _ _ _ (by assumption) ⟨rfl, rfl, ?_⟩
        rw [take_snoc hn, List.map_append]
        exact hh.snoc ⟨_, rfl⟩
      · intro acc ys _ _ s₁ hZ5 S₁
        obtain ⟨rfl, rfl, hh⟩ := hZ5
        refine ⟨rfl, hK _ _ acc ys ?_ ((S₁.perm ?_).drop (List.sublist_cons_self (f, .list vs) _)) ?_⟩
        · rfl
        · k_extra "perm"
        · rwa [List.take_of_length_le (by rw [← hv.length]; exact Nat.le_refl _)] at hh
  · intro s₂ m₂ nl nv hnm S₂ hnn
    have hz : (flts.map Prod.fst).length ≤ sizeLine := by rw [List.length_map]; exact Nat.le_trans hfl (by decide)
    repeat' k_extra "z"
    rename_i tq _
    refine fault_new (ex := []) G C' (by assumption) rfl rfl rfl rfl fun s₃ a fd S₃ => ?_
    rw [List.nil_append] at S₃
    repeat' k_extra "z"
    rename_i s₉ S₄
    rw [← map_snoc flts (Value.ref a) (cf.fault ⟨T, kinds, Cl, c, tb, hd, most, ext, ans, val⟩)] at S₄
    have S₅ := ret.st (St.drop (St.perm S₄ (own' := (cc, .cell (.ref c)) :: (c, .inst Cl d) :: (d, .attrs Cl (attrL tb hd most tm ln sl vl (.ref tok) cf.cnt tc ans ta val fl mv extra)) :: (ln, .tabI D) :: (sl, .list (us ++ [.int cf.top tt])) :: (vl, .list vals) :: (fl, .list ((flts ++ [(Value.ref a, cf.fault ⟨T, kinds, Cl, c, tb, hd, most, ext, ans, val⟩)]).map Prod.fst)) :: (mv, .list mvs) ::
      (a, .inst 328 fd) :: (fd, .attrs 328 [("token", .ref tok), ("state", .int cf.top tt), ("expected", .ref nl), ("index", .int (cf.cnt - 1) tq)]) :: (nl, .list nv) :: X) (by k_extra "perm")) (List.sublist_cons_self _ _))
    have up : ∀ p ∈ X, p ∈ (a, .inst 328 fd) :: (fd, .attrs 328 [("token", .ref tok), ("state", .int cf.top tt), ("expected", .ref nl), ("index", .int (cf.cnt - 1) tq)]) :: (nl, .list nv) :: X := fun p hp => .tail _ (.tail _ (.tail _ hp))
    refine ok _ _ (.ref a) S₅ ⟨extra, hx, d, ln, sl, vl, fl, mv, tm, tc, ta, D, _, vals, mvs, .ref tok, _, rfl, by rw [hpre]; exact ints_snoc hi' _ _, hw, hm.mono fun _ _ k => k.mono up, hl, ?_, ?_⟩
    · rw [if_pos hs]; exact ⟨tok, rfl, hk.mono up⟩
    · intro p hp
      rcases List.mem_append.mp hp with hp | hp
      · exact (hkF p hp).mono up
      · cases List.mem_singleton.mp hp
        rw [hcnt]
        exact ⟨a, fd, tok, nl, _, _, nv, _, rfl, .head _, .tail _ (.head _), .tail _ (.tail _ (.head _)), hnn, hk.mono fun p hp => .tail _ (.tail _ (.tail _ hp))⟩
end
abbrev FailSpec (b : Bs) (vt : Virt) : Prop := ∀ {lv : Nat} {A : Around} {E : Value → Shared → Prop} {s : Shared} {hid : Kw} {L : Addr} {m : Str → Option Value} {κ₀ κ : Kw} {ex own : List (Addr × AObj)} {frs : List Env} {M : MCx} {cf : Cfg}
  {k : Int} {t : Tok} {Q : Value → Shared → Prop}, Cx b (lv + 12) A L hid frs → MK κ M vt → St b hid L m κ₀ κ (ex ++ own) s → Mach κ M cf [] own → cf.Ok M.T M.most → cf.seen = true →
  (∀ s' own' cf' v, St b hid L m κ₀ κ (ex ++ own') s' → Mach κ { M with ans := "aborted", val := .none, ext := vt.ext2 } cf' [(v, cf.fault M)] own' → cf'.cnt = cf.cnt → (cf'.moves.length : Int) ≤ M.most → (vt.weak = false → cf' = cf) → Q .none s') →
  (∀ s' own' e cf' v, vt.weak = true → (cf'.moves.length : Int) ≤ M.most → Fly b hid L m κ₀ κ (ex ++ own') frs e s' → Mach κ { M with ext := vt.ext2 } cf' [(v, cf.fault M)] own' → E (.ref e) s') →
  wpAny (model b.prog b.w) A (call (.ref vt.fail) [.ref M.c, .int k t]) Q E s
abbrev ShiftSpec (b : Bs) (vt : Virt) : Prop := ∀ {lv : Nat} {A : Around} {E : Value → Shared → Prop} {s : Shared} {hid : Kw} {L : Addr} {m : Str → Option Value} {κ₀ κ : Kw} {ex own : List (Addr × AObj)} {frs : List Env} {M : MCx} {cf : Cfg} {flts : List Flt}
  {g : Int} {t : Tok} {Q : Value → Shared → Prop}, Cx b (lv + 9) A L hid frs → MK κ M vt → St b hid L m κ₀ κ (ex ++ own) s → Mach κ M cf flts own → cf.Ok M.T M.most → cf.seen = true →
  (∀ s' own', (cf.moves.length : Int) < M.most → St b hid L m κ₀ κ (ex ++ own') s' → Mach κ M (cf.shifted M.kinds g) flts own' → Q .none s') →
  (∀ s' own' e, M.most ≤ cf.moves.length → Fly b hid L m κ₀ κ (ex ++ own') frs e s' → Mach κ M cf flts own' → E (.ref e) s') →
  wpAny (model b.prog b.w) A (call (.ref vt.shift) [.ref M.c, .int g t]) Q E s
abbrev LookSpec (b : Bs) (vt : Virt) : Prop := ∀ {lv : Nat} {A : Around} {E : Value → Shared → Prop} {s : Shared} {hid : Kw} {L : Addr} {m : Str → Option Value} {κ₀ κ : Kw} {ex own Y : List (Addr × AObj)} {frs : List Env} {M : MCx} {cf : Cfg} {flts : List Flt}
  {tok : Addr} {Q : Value → Shared → Prop}, Cx b (lv + 3) A L hid frs → MK κ M vt → St b hid L m κ₀ κ (ex ++ (Y ++ own)) s → Mach κ M cf flts own → cf.seen = false → TokH κ Y tok (kindAt M.kinds cf.spot) (worthAt M.kinds cf.spot) →
  (∀ s' own', St b hid L m κ₀ κ (ex ++ own') s' → Mach κ M { cf with seen := true } flts own' → Q .none s') → wpAny (model b.prog b.w) A (call (.ref vt.look) [.ref M.c, .ref tok]) Q E s
structure VirtX (vt : Virt) : Prop where
  le : ∀ x, vt.ext x → vt.ext2 x
  nm : NoM vt.ext2
structure Specs (b : Bs) (vt : Virt) : Prop where
  act : ActSpec b vt
  go : GoSpec b vt
  exp : ExpSpec b vt
  est : IsEstSpec b vt
  fail : FailSpec b vt
  shift : ShiftSpec b vt
  look : LookSpec b vt
  x : VirtX vt
section
variable {b : Bs} {lv : Nat} {A : Around} {E : Value → Shared → Prop} {s : Shared} {hid : Kw} {L : Addr} {m m' : Str → Option Value} {κ₀ κ : Kw} {ex own own' : List (Addr × AObj)} {frs : List Env} {env : Env} {M : MCx} {vt : Virt} {cf : Cfg} {flts : List Flt}
set_option maxHeartbeats 2000000
theorem core_fail {k : Int} {t : Tok} {Q : Value → Shared → Prop} (G : Gd b) (ES : ExpSpec b vt) (C : Cx b (lv + 10) A L hid frs) (K : MK κ M vt) (S : St b hid L m κ₀ κ (ex ++ own) s) (H : Mach κ M cf [] own) (O : cf.Ok M.T M.most) (hs : cf.seen = true)
    (ok : ∀ s' own' v, St b hid L m κ₀ κ (ex ++ own') s' → Mach κ { M with ans := "aborted", val := .none } cf [(v, cf.fault M)] own' → Q .none s') :
    wpAny (model b.prog b.w) A (call (.ref 548) [.ref M.c, .int k t]) Q E s := by
  have K' := K
  obtain ⟨cN, vf, nm, TK, to, m0, ⟨hdd, hk1, hk2⟩, ⟨hC, hnv⟩, hX, kd⟩ := K'
  have H' := H
  obtain ⟨T, kinds, Cl, c, tb, hd, most, ext, ans, val⟩ := M
  dsimp only at *
  obtain ⟨extra, hx, d, ln, sl, vl, fl, mv, tm, tc, ta, D, sts, vals, mvs, lk, X, ho, hi, hw, hm, hl, hk⟩ := H
  dsimp only at *
  subst ho
  have nmx := nm _ hx
  refine call_cx [("terminal", .int k t), ("self", .ref c)] G C S (by k_is) (by k_is) (BindsTo.of_eq rfl) (locs rfl) rfl rfl rfl (by decide) fun L' hid' s' A' env' hE hI hA C' S' ret => ?_
  repeat' k_extra "z"
  with_reducible refine tell_fault_spec (lv := lv + 1) (ex := []) G ES C' K (St.nil (by assumption)) H' O hs (by decide) fun s₂ own₂ v S₂ H₂ => ?_
  rw [List.nil_append] at S₂ H₂
  have H₂' := H₂
  obtain ⟨extra, hx, d, ln, sl, vl, fl, mv, tm, tc, ta, D, sts, vals, mvs, lk, X, rfl, hi, hw, hm, hl, hk⟩ := H₂
  dsimp only at *
  have nmx := nm _ hx
  repeat' k_extra "z"
  with_reducible refine finish_spec (lv := lv + 8) (ex := []) G nm C' (St.nil (by assumption)) H₂' rfl fun s₃ own₃ S₃ H₃ => ?_
  repeat' k_extra "z"
  exact ok _ _ _ (ret.st S₃) H₃
end
theorem numOf_bd (x : Str) : 0 ≤ numOf x ∧ numOf x ≤ 4 := by
  unfold numOf
  have : ∀ D : List (PyData × PyData), (∀ p ∈ D, ∃ g : Int, p.2 = .int g ∧ 0 ≤ g ∧ g ≤ 4) → 0 ≤ (match PySem.Spec.lookup (.str x) D with | some (.int g) => g | _ => 2) ∧ (match PySem.Spec.lookup (.str x) D with | some (.int g) => g | _ => 2) ≤ 4 := by
    intro D hD
    cases h : PySem.Spec.lookup (.str x) D with
    | none => simp
    | some v =>
      have : ∃ p ∈ D, p.2 = v := by
        clear hD
        induction D with
        | nil => cases h
        | cons p r ih =>
          unfold PySem.Spec.lookup at h
          split at h
          · cases h; exact ⟨p, .head _, rfl⟩
          · obtain ⟨q, hq, e⟩ := ih h; exact ⟨q, .tail _ hq, e⟩
      obtain ⟨p, hp, rfl⟩ := this
      obtain ⟨g, e, h0, h1⟩ := hD p hp
      rw [e]; exact ⟨h0, h1⟩
  refine this numD fun p hp => ?_
  simp only [numD, List.mem_cons, List.not_mem_nil, or_false] at hp
  rcases hp with rfl | rfl | rfl | rfl | rfl <;> exact ⟨_, rfl, by decide, by decide⟩
theorem termOf_bd (x : Str) : 0 ≤ termOf x ∧ termOf x < 5 := by
  have := numOf_bd x
  unfold termOf
  split <;> omega
theorem act_facts {T : TabD} (O : T.Ok) {st : Int} (h0 : 0 ≤ st) (h1 : st < T.rows.length) {k : Nat} (hk : k < 5) :
    (actF ((T.row st).getD k 0) (T.df st) ≠ ACCEPTz → 0 < actF ((T.row st).getD k 0) (T.df st) → actF ((T.row st).getD k 0) (T.df st) < T.rows.length) ∧
    (actF ((T.row st).getD k 0) (T.df st) < 0 → 0 < -actF ((T.row st).getD k 0) (T.df st) ∧ -actF ((T.row st).getD k 0) (T.df st) ≤ T.rules.length) := by
  obtain ⟨a1, a2, a3, a4, -⟩ := O.at h0 h1
  have hc : (T.row st).getD k 0 ∈ T.row st := by
    rw [List.getD_eq_getElem?_getD, List.getElem?_eq_getElem (by omega)]
    exact List.getElem_mem _
  have c := O.cell _ (List.mem_of_getElem? a1) _ hc
  have d := O.df _ (List.mem_of_getElem? a3)
  generalize (T.row st).getD k 0 = x at c
  generalize T.df st = y at d
  have := O.rules
  unfold actF
  unfold BARREDz ACCEPTz at *
  constructor
  · intro n1 n2
    split at n2
    · omega
    · split at n2
      · omega
      · rename_i p q; rw [if_neg p, if_neg q] at n1 ⊢; omega
  · intro n
    split at n
    · omega
    · split at n
      · rename_i p q; rw [if_neg p, if_pos q]; omega
      · rename_i p q; rw [if_neg p, if_neg q]; omega
theorem lone_facts {T : TabD} (O : T.Ok) {st : Int} (h0 : 0 ≤ st) (h1 : st < T.rows.length) : 0 ≤ T.lone st ∧ T.lone st ≤ T.rules.length := by
  obtain ⟨a1, a2, a3, a4, -⟩ := O.at h0 h1
  have d := O.df _ (List.mem_of_getElem? a3)
  unfold TabD.lone
  split <;> omega
theorem Cfg.Ok.top {T : TabD} {most : Int} {c : Cfg} (O : c.Ok T most) : ∃ pre, c.stack = pre ++ [c.top] ∧ 0 ≤ c.top ∧ c.top < T.rows.length := by
  obtain ⟨pre, hpre⟩ : ∃ pre, c.stack = pre ++ [c.top] := last_split O.len
  exact ⟨pre, hpre, O.sts _ (by rw [hpre]; exact List.mem_append_right _ (.head _))⟩
theorem Cfg.Ok.seen {T : TabD} {most : Int} {c : Cfg} (O : c.Ok T most) : Cfg.Ok T most { c with seen := true } := ⟨O.len, O.sts, O.mvs, O.wl⟩
theorem reduceF_ok {T : TabD} (TO : T.Ok) {most : Int} {c c' : Cfg} (O : c.Ok T most) {r : Int} (hr : 0 < r) (hr' : r ≤ T.rules.length) (h : reduceF T most c r = .inl c') : c'.Ok T most ∧ c'.moves.length = c.moves.length + 1 := by
  obtain ⟨f0, f1, f2, f3, g1, g2, g3, g4⟩ := rule_facts TO hr hr'
  by_cases hc : ((c.worths.length : Int) - (T.rule r).2.1 - (T.rule r).2.2 < 0 ∨ most ≤ c.moves.length)
  · unfold reduceF at h; dsimp only at h; rw [if_pos hc] at h; cases h
  · rw [reduceF_popped hc] at h
    split at h
    · cases h
    · rename_i hg
      cases h
      have l1 := O.len
      have l2 := O.mvs
      have l3 := O.wl
      have e1 : (c.stack.take (c.worths.length - (T.rule r).2.1.toNat + 1)).length = c.worths.length - (T.rule r).2.1.toNat + 1 := by rw [List.length_take]; exact armin1 O.len
      have hst : ∀ a ∈ c.stack.take (c.worths.length - (T.rule r).2.1.toNat + 1), 0 ≤ a ∧ a < T.rows.length := fun a ha => O.sts a (List.mem_of_mem_take ha)
      obtain ⟨pre, hpre⟩ := last_split e1
      have htop := hst _ (by rw [hpre]; exact List.mem_append_right _ (.head _))
      obtain ⟨a1, a2, a3, a4, a5, DD, a6, a7, a8⟩ := TO.at htop.1 htop.2
      refine ⟨⟨?_, ?_, ?_, ?_⟩, ?_⟩
      · show (c.stack.take _ ++ [_]).length = (c.worths.take _ ++ [_]).length + 1
        simp only [List.length_append, e1, List.length_take, List.length_cons, List.length_nil]; exact armin2
      · intro a ha
        rcases List.mem_append.mp ha with ha | ha
        · exact hst a ha
        · cases List.mem_singleton.mp ha
          exact ⟨by omega, by have := a8 (T.rule r).1; rw [← this.1] at this; exact this.2⟩
      · show ((c.moves ++ [_]).length : Int) ≤ most
        rw [List.length_append]; simp; omega
      · show (c.worths.take _ ++ [_]).length ≤ (c.moves ++ [_]).length
        rw [List.length_append, List.length_append, List.length_take]; simp; omega
      · show (c.moves ++ [_]).length = _
        simp
theorem turnF_ok {T : TabD} (TO : T.Ok) {kinds : List Str} {most : Int} {c c' : Cfg} (O : c.Ok T most) (h : turnF T kinds most c = .inl c') : c'.Ok T most ∧ c'.moves.length = c.moves.length + 1 := by
  obtain ⟨pre, hpre, htop⟩ := O.top
  have hlo := lone_facts TO htop.1 htop.2
  have hb := termOf_bd (kindAt kinds c.spot)
  have hact := act_facts TO htop.1 htop.2 (k := (termOf (kindAt kinds c.spot)).toNat) (by omega)
  unfold turnF at h
  split at h
  · exact reduceF_ok TO O (by assumption) hlo.2 h
  · dsimp only at h
    change (if actF ((T.row c.top).getD (termOf (kindAt kinds c.spot)).toNat 0) (T.df c.top) = ACCEPTz then _ else _) = _ at h
    split at h
    · split at h <;> cases h
    · split at h
      · rename_i n1 n2
        split at h
        · cases h
        · rename_i n3
          cases h
          have h3 := hact.1 n1 n2
          refine ⟨⟨?_, ?_, ?_, ?_⟩, ?_⟩
          · have := O.len; simp [this]
          · intro a ha
            rcases List.mem_append.mp ha with ha | ha
            · exact O.sts a ha
            · cases List.mem_singleton.mp ha
              exact ⟨Int.le_of_lt n2, h3⟩
          · simp; omega
          · have := O.wl; simp; omega
          · simp
      · split at h
        · rename_i n
          have := hact.2 n
          exact reduceF_ok TO (c := { c with seen := true }) O.seen this.1 this.2 h
        · cases h
theorem reduceF_end {T : TabD} (TO : T.Ok) {most : Int} {c : Cfg} {r : Res} (O : c.Ok T most) {k : Int} (h : reduceF T most c k = .inr r) : (r.moves.length : Int) ≤ most := by
  unfold reduceF at h
  dsimp only at h
  have := O.mvs
  split at h
  · cases h; exact this
  · split at h
    · cases h; show ((c.moves ++ [_]).length : Int) ≤ most; rw [List.length_append, List.length_singleton]; omega
    · cases h
theorem turnF_end {T : TabD} (TO : T.Ok) {kinds : List Str} {most : Int} {c : Cfg} {r : Res} (O : c.Ok T most) (h : turnF T kinds most c = .inr r) : (r.moves.length : Int) ≤ most := by
  have := O.mvs
  unfold turnF at h
  split at h
  · exact reduceF_end TO O h
  · dsimp only at h
    split at h
    · split at h
      · cases h; exact this
      · cases h; show ((c.moves ++ [_]).length : Int) ≤ most; rw [List.length_append, List.length_singleton]; omega
    · split at h
      · split at h <;> cases h
        exact this
      · split at h
        · exact reduceF_end TO (c := { c with seen := true }) O.seen h
        · cases h; exact this
/-- the machine ends -/
theorem runs_ex {T : TabD} (TO : T.Ok) {kinds : List Str} {most : Int} : ∀ (n : Nat) (c : Cfg), c.Ok T most → most - c.moves.length ≤ n → ∃ r, Runs T kinds most c r
  | n, c, O, hn => by
    cases h : turnF T kinds most c with
    | inr r => exact ⟨r, .done h⟩
    | inl c' =>
      obtain ⟨O', hl⟩ := turnF_ok TO O h
      cases n with
      | zero => have := O'.mvs; omega
      | succ n =>
        obtain ⟨r, hr⟩ := runs_ex TO n c' O' (by omega)
        exact ⟨r, .more h hr⟩
/-- the ends of a run -/
inductive EndOk (κ : Kw) (M : MCx) (vt : Virt) (r : Res) (own : List (Addr × AObj)) : Prop
  | mk (cf : Cfg) (flts : List Flt) (v : Value) (H : Mach κ { M with ans := r.ans, val := v, ext := vt.ext2 } cf flts own) (h1 : WorthIs v r.val) (h2 : r.ans = "accepted" ∨ r.ans = "aborted") (h3 : FltOk flts r.fault) (h4 : cf.cnt = r.count) (h5 : (cf.moves.length : Int) ≤ M.most) (h6 : vt.weak = false ∨ r.ans ≠ "aborted" → cf.moves = r.moves)
inductive EndEx (κ : Kw) (M : MCx) (vt : Virt) (r : Res) (own : List (Addr × AObj)) : Prop
  | mk (cf : Cfg) (flts : List Flt) (H : Mach κ { M with ext := vt.ext2 } cf flts own) (h1 : FltOk flts r.fault) (h2 : (cf.moves.length : Int) ≤ M.most) (h3 : (r.ans = "raised" ∧ r.val = none ∧ cf.moves = r.moves ∧ cf.cnt = r.count) ∨ (vt.weak = true ∧ r.ans = "aborted" ∧ r.val = none))
theorem Mach.ext2 {κ : Kw} {M : MCx} {cf : Cfg} {flts : List Flt} {own : List (Addr × AObj)} {e : List (Str × Value) → Prop} (le : ∀ x, M.ext x → e x) (H : Mach κ M cf flts own) : Mach κ { M with ext := e } cf flts own := by
  obtain ⟨extra, hx, d, ln, st, vl, fl, mv, tm, tc, ta, D, sts, vals, mvs, lk, X, ho, hi, hw, hm, hl, hk⟩ := H
  exact ⟨extra, le _ hx, d, ln, st, vl, fl, mv, tm, tc, ta, D, sts, vals, mvs, lk, X, ho, hi, hw, hm, hl, hk⟩
noncomputable def Cfg.look (c : Cfg) : Cfg := { c with seen := true }
theorem turnF_seen {T : TabD} {kinds : List Str} {most : Int} {c : Cfg} (h : ¬ 0 < T.lone c.top) (hs : c.seen = true) : turnF T kinds most c =
    (let act := actF ((T.row c.top).getD (termOf (kindAt kinds c.spot)).toNat 0) (T.df c.top)
    if act = ACCEPTz then (if c.worths = [] ∨ most ≤ c.moves.length then .inr (raisedR c c.moves) else
      .inr { ans := "accepted", val := c.worths.getLast?.join, moves := c.moves ++ [.accept], fault := none, count := c.cnt })
    else if 0 < act then (if most ≤ c.moves.length then .inr (raisedR c c.moves) else .inl (c.shifted kinds act))
    else if act < 0 then reduceF T most c (-act)
    else .inr { ans := "aborted", val := none, moves := c.moves, fault := some (kindAt kinds c.spot, c.top, expUpto (T.row c.top) 5, c.spot), count := c.cnt }) := by
  obtain ⟨st, w, mv, sp, se⟩ := c
  dsimp only at hs
  subst hs
  unfold turnF
  rw [if_neg h]
  rfl
theorem turnF_lone {T : TabD} {kinds : List Str} {most : Int} {c : Cfg} (h : 0 < T.lone c.top) : turnF T kinds most c = reduceF T most c (T.lone c.top) := by
  unfold turnF; rw [if_pos h]
theorem All2.last {vs : List Value} {ws : List (Option Str)} (h : All2 WorthIs vs ws) (hn : ws ≠ []) : ∃ vs' v w, vs = vs' ++ [v] ∧ ws.getLast? = some w ∧ WorthIs v w := by
  induction h with
  | nil => exact absurd rfl hn
  | @cons a b l r x h ih =>
    cases h with
    | nil => exact ⟨[], a, b, rfl, rfl, x⟩
    | cons y h =>
      obtain ⟨vs', v, w, e, hl, hv⟩ := ih (by simp)
      exact ⟨a :: vs', v, w, by rw [e]; rfl, by simpa using hl, hv⟩
section
variable {b : Bs} {lv : Nat} {A : Around} {E : Value → Shared → Prop} {s : Shared} {hid : Kw} {L : Addr} {m m' : Str → Option Value} {κ₀ κ : Kw} {ex own own' : List (Addr × AObj)} {frs : List Env} {env : Env} {M : MCx} {vt : Virt} {cf : Cfg} {flts : List Flt}
set_option maxHeartbeats 4000000
theorem step_spec {Q : Value → Shared → Prop} (G : Gd b) (SP : Specs b vt) (C : Cx b (lv + 14) A L hid frs) (K : MK κ M vt) (S : St b hid L m κ₀ κ (ex ++ own) s) (H : Mach κ M cf [] own) (O : cf.Ok M.T M.most)
    (hne : 0 < M.T.lone cf.top ∨ cf.seen = true)
    (more : ∀ s' own' cf', turnF M.T M.kinds M.most cf = .inl cf' → St b hid L m κ₀ κ (ex ++ own') s' → Mach κ M cf' [] own' → Q .none s')
    (ok : ∀ s' own' r, turnF M.T M.kinds M.most cf = .inr r → St b hid L m κ₀ κ (ex ++ own') s' → EndOk κ M vt r own' → Q .none s')
    (exc : ∀ s' own' e r, turnF M.T M.kinds M.most cf = .inr r → Fly b hid L m κ₀ κ (ex ++ own') frs e s' → EndEx κ M vt r own' → E (.ref e) s') :
    wpAny (model b.prog b.w) A (call (.ref 494) [.ref M.c]) Q E s := by
  have K' := K
  obtain ⟨cN, vf, nm, TK, to, m0, ⟨hdd, hk1, hk2⟩, ⟨hC, hnv⟩, hX, kd⟩ := K'
  have shf : ShiftSpec b vt := SP.shift
  have est : IsEstSpec b vt := SP.est
  have fai : FailSpec b vt := SP.fail
  have vs := vf.shift
  have vi := vf.isest
  have vfa := vf.fail
  have H' := H
  obtain ⟨pre, hpre, htop⟩ := O.top
  have hlo := lone_facts to htop.1 htop.2
  obtain ⟨T, kinds, Cl, c, tb, hd, most, ext, ans, val⟩ := M
  dsimp only at *
  obtain ⟨extra, hx, d, ln, sl, vl, fl, mv, tm, tc, ta, D, sts, vals, mvs, lk, X, ho, hi, hw, hm, hl, hk⟩ := H
  dsimp only at *
  subst ho
  have nmx := nm _ hx
  have TK' := TK
  obtain ⟨td, ls, lns, bfs, dfs, nms, gr, rws, gts, cf', se, t5, tm', lsv, lnv, bfv, dfv, rwv, gtv, k1, k2, -⟩ := TK'
  rw [hpre] at hi
  obtain ⟨us, tt, rfl, hi'⟩ := ints_last hi
  refine call_cx [("self", .ref c)] G C S (by k_is) (by k_is) (BindsTo.of_eq rfl) (locs rfl) rfl rfl rfl (by decide) fun L' hid' s' A' env' hE hI hA C' S' ret => ?_
  repeat' k_extra "z"
  with_reducible refine lone_spec (lv := lv + 10) (ex := []) G C' cN nm TK to (St.nil (by assumption)) H' htop.1 htop.2 fun s₂ own₂ t₂ S₂ H₂ => ?_
  rw [List.nil_append] at S₂
  clear S S' H'
  have H₂' := H₂
  obtain ⟨extra, hx, d, ln, sl, vl, fl, mv, tm, tc, ta, D, sts, vals, mvs, lk, X, rfl, hi, hw, hm, hl, hk⟩ := H₂
  dsimp only at *
  have nmx := nm _ hx
  repeat' k_extra "z"
  k_extra "zi"
  · have hpos : 0 < T.lone cf.top := of_decide_eq_true hq
    have e := turnF_lone (kinds := kinds) (most := most) hpos
    repeat' k_extra "z"
    with_reducible refine reduce_spec (lv := lv + 1) (ex := []) G SP.act SP.go C' K (St.nil (by assumption)) H₂' O hpos hlo.2 (fun s₃ own₃ cf' h S₃ H₃ => ?_) fun s₃ own₃ e' cf' h F H₃ => ?_
    · repeat' k_extra "z"
      exact more _ _ _ (e.trans h) (ret.st S₃) H₃
    · refine R_leaveOn C' (by rw [hE]; rfl) F fun s₄ F₄ => exc _ _ _ _ (e.trans h) (ret.fly F₄) ⟨cf', [], H₃.ext2 (hX ▸ SP.x.le), rfl, turnF_end to O (e.trans h), .inl ⟨rfl, rfl, rfl, rfl⟩⟩
  · have hnot : ¬ 0 < T.lone cf.top := of_decide_eq_false hq
    have hs : cf.seen = true := hne.resolve_left hnot
    have e := turnF_seen (kinds := kinds) (most := most) hnot hs
    have hb := termOf_bd (kindAt kinds cf.spot)
    obtain ⟨a1, a2, a3, a4, a5, -⟩ := to.at htop.1 htop.2
    have hact := act_facts to htop.1 htop.2 (k := (termOf (kindAt kinds cf.spot)).toNat) (by omega)
    have hcell : (T.row cf.top)[(termOf (kindAt kinds cf.spot)).toNat]? = some ((T.row cf.top).getD (termOf (kindAt kinds cf.spot)).toNat 0) := by
      rw [List.getD_eq_getElem?_getD, List.getElem?_eq_getElem (by omega)]; rfl
    generalize hA' : actF ((T.row cf.top).getD (termOf (kindAt kinds cf.spot)).toNat 0) (T.df cf.top) = a at e hact
    have hk' := hk
    obtain ⟨hk, hkF⟩ := hk
    rw [if_pos hs] at hk
    obtain ⟨tok, rfl, hk⟩ := hk
    have hkT := hk
    obtain ⟨td, tk, tu, tw, tx, h1, h2⟩ := hk
    repeat' k_extra "z"
    with_reducible refine terminal_of_spec (lv := lv + 11) (ex := []) G C' nm TK (St.nil (by assumption)) H₂' h1.t7 h2.t7 (kd _) fun s₃ t₃ S₃ => ?_
    rw [List.nil_append] at S₃
    repeat' k_extra "z"
    with_reducible refine action_spec (lv := lv + 11) G C' (by assumption) TK htop.1 a5 a1 hb.1 (by omega) hcell a3 fun s₄ t₄ S₄ => ?_
    rw [hA']
    clear hA'
    repeat' k_extra "z"
    k_extra "zi"
    · have hac : a = ACCEPTz := by simpa using hq
      clear hq
      rw [if_pos hac] at e
      repeat' k_extra "z"
      k_extra "zi"
      · have hnil : cf.worths = [] := by have := hw.length; have h0 : vals = [] := by simpa using hq
                                         rw [h0] at this; exact List.length_eq_zero_iff.mp this.symm
        rw [if_pos (.inl hnil)] at e
        with_reducible refine R_execs (R_raise (κ₀ := κ) G C' ?_)
        repeat' k_extra "z"
        refine place_spec (ex := [_]) G nm C' (by assumption) H₂' fun _ _ => ?_
        repeat' k_extra "z"
        refine perr_spec (ex := [_]) (lv := lv + 11) G C' (by assumption) fun s₃ e' dd S₃ => ?_
        have S₃ := St.drop S₃ (List.sublist_cons_self _ _)
        refine R_cutV (by assumption) ?_
        refine ⟨e', dd, _, _, _, rfl, S₃, R_leaveFirst C' (by rw [hE]; rfl) S₃ fun s₄ F => ?_⟩
        exact exc _ _ _ _ e (ret.fly F) ⟨cf, [], H₂'.ext2 (hX ▸ SP.x.le), rfl, turnF_end to O e, .inl ⟨rfl, rfl, rfl, rfl⟩⟩
      · have hnil : cf.worths ≠ [] := by intro h0; have := hw.length; rw [h0] at this; have h0 : vals = [] := List.length_eq_zero_iff.mp this
                                         rw [h0] at hq; cases hq
        have S₅ := St.drop (by assumption) (List.sublist_cons_self _ _)
        repeat' k_extra "z"
        with_reducible refine note_spec (ex := []) (lv := lv + 8) (mo := .accept) G C' cN nm (St.nil (by assumption)) H₂' O m0 (Mv.is_accept _) (fun s₆ own₆ hlt S₆ H₆ => ?_) fun s₆ own₆ e' hge F H₆ => ?_
        · rw [List.nil_append] at S₆
          dsimp only at hlt
          rw [if_neg (by rintro (h | h); exact hnil h; omega)] at e
          have H₆' := H₆
          obtain ⟨extra, hx, d, ln, sl, vl, fl, mv, tm, tc, ta, D, sts, vals, mvs, lk, X, rfl, hi, hw, hm, hl, hk⟩ := H₆
          dsimp only at *
          have nmx := nm _ hx
          obtain ⟨vs', v, w, rfl, hlw, hvw⟩ : ∃ vs' v w, vals = vs' ++ [v] ∧ cf.worths.getLast? = some w ∧ WorthIs v w := All2.last hw hnil
          have hh : handedIn v = true := by cases w with
            | none => cases hvw; rfl
            | some x => obtain ⟨t, rfl⟩ := hvw; rfl
          repeat' k_extra "z"
          with_reducible refine finish_spec (lv := lv + 12) (ex := []) G nm C' (St.nil (by assumption)) H₆' hh fun s₇ own₇ S₇ H₇ => ?_
          repeat' k_extra "z"
          exact ok _ _ _ e (ret.st S₇) ⟨_, [], v, H₇.ext2 (hX ▸ SP.x.le), by rw [hlw]; exact hvw, .inl rfl, rfl, rfl, turnF_end to O e, fun _ => rfl⟩
        · refine R_leaveOn C' (by rw [hE]; rfl) F fun s₄ F₄ => exc _ _ _ _ (e.trans (if_pos (.inr hge))) (ret.fly F₄) ⟨cf, [], H₆.ext2 (hX ▸ SP.x.le), rfl, turnF_end to O (e.trans (if_pos (.inr hge))), .inl ⟨rfl, rfl, rfl, rfl⟩⟩
    · have hac : ¬ a = ACCEPTz := by simpa using hq
      clear hq
      rw [if_neg hac] at e
      repeat' k_extra "z"
      k_extra "zi"
      · have hpos : 0 < a := of_decide_eq_true hq
        clear hq
        rw [if_pos hpos] at e
        repeat' k_extra "z"
        with_reducible refine shf (lv := lv + 4) (ex := []) C' K (St.nil (by assumption)) H₂' O hs (fun s₆ own₆ hlt S₆ H₆ => ?_) fun s₆ own₆ e' hge F H₆ => ?_
        · repeat' k_extra "z"
          dsimp only at hlt
          exact more _ _ _ (e.trans (if_neg (by omega))) (ret.st S₆) H₆
        · refine R_leaveOn C' (by rw [hE]; rfl) F fun s₄ F₄ => exc _ _ _ _ (e.trans (if_pos hge)) (ret.fly F₄) ⟨cf, [], H₆.ext2 (hX ▸ SP.x.le), rfl, turnF_end to O (e.trans (if_pos hge)), .inl ⟨rfl, rfl, rfl, rfl⟩⟩
      · have hneg : ¬ 0 < a := of_decide_eq_false hq
        clear hq
        rw [if_neg hneg] at e
        repeat' k_extra "z"
        k_extra "zi"
        · have hn0 : a < 0 := of_decide_eq_true hq
          clear hq
          rw [if_pos hn0] at e
          have hz : -a = 0 - a := by omega
          obtain ⟨b1, b2⟩ := hact.2 hn0
          rw [hz] at e b1 b2
          repeat' k_extra "z"
          with_reducible refine est (lv := lv + 12) (ex := []) C' K (St.nil (by assumption)) H₂' fun s₆ S₆ => ?_
          rw [List.nil_append] at S₆
          repeat' k_extra "z"
          with_reducible refine reduce_spec (lv := lv + 1) (ex := []) G SP.act SP.go C' K (St.nil (by assumption)) H₂' O b1 b2 (fun s₃ own₃ cf' h S₃ H₃ => ?_) fun s₃ own₃ e' cf' h F H₃ => ?_
          · repeat' k_extra "z"
            exact more _ _ _ (e.trans h) (ret.st S₃) H₃
          · refine R_leaveOn C' (by rw [hE]; rfl) F fun s₄ F₄ => exc _ _ _ _ (e.trans h) (ret.fly F₄) ⟨cf', [], H₃.ext2 (hX ▸ SP.x.le), rfl, turnF_end to O (e.trans h), .inl ⟨rfl, rfl, rfl, rfl⟩⟩
        · have hn0 : ¬ a < 0 := of_decide_eq_false hq
          clear hq
          rw [if_neg hn0] at e
          repeat' k_extra "z"
          with_reducible refine fai (lv := lv + 1) (ex := []) C' K (St.nil (by assumption)) H₂' O hs (fun s₆ own₆ cf' v S₆ H₆ hcn hcl hcf => ?_) fun s₆ own₆ e' cf' v hw' hcl F H₆ => ?_
          · repeat' k_extra "z"
            exact ok _ _ _ e (ret.st S₆) ⟨cf', _, .none, H₆, rfl, .inr rfl, rfl, hcn, hcl, fun h => by rcases h with h | h; rw [hcf h]; exact absurd rfl h⟩
          · refine R_leaveOn C' (by rw [hE]; rfl) F fun s₄ F₄ => exc _ _ _ _ e (ret.fly F₄) ⟨cf', _, H₆, rfl, hcl, .inr ⟨hw', rfl, rfl⟩⟩
end
section
variable {b : Bs} {lv : Nat} {A : Around} {E : Value → Shared → Prop} {s : Shared} {hid : Kw} {L : Addr} {m m' : Str → Option Value} {κ₀ κ : Kw} {own own' : List (Addr × AObj)} {frs : List Env} {env : Env}
theorem R_newDictI {pos : Pos} {Q : Value → Shared → Prop} (S : St b hid L m κ₀ κ own s) (h : ∀ s' d, St b hid L m κ₀ κ ((d, .tabI []) :: own) s' → Q (.ref d) s') : wpAny (model b.prog b.w) A (eval (.Dict [] [] pos) env) Q E s := by
  refine wpAny_Dict_empty (h _ _ (S.alloc (Nat.le_refl _) (fun _ _ e => Heap.get?_push_of_some _ e) ⟨_, Heap.get?_push_size _ rfl, [], ?_, .nil⟩ rfl rfl))
  obtain ⟨o, ho, hd⟩ := Heap.dictOf_iff.mp (Heap.DictOf.new (knd := intKind b.prog b.w) s.heap)
  rw [Heap.get?_push_size _ rfl] at ho
  exact (Option.some.inj ho) ▸ hd
theorem R_listcopy {l : Addr} {vs : List Value} {Q : Value → Shared → Prop} (S : St b hid L m κ₀ κ own s) (k : Has κ own l (.list vs)) (hz : vs.length ≤ sizeLine) (h : ∀ s' a, St b hid L m κ₀ κ ((a, .list vs) :: own) s' → Q (.ref a) s') :
    wpAny (model b.prog b.w) A (call (.type "list") [.ref l]) Q E s := by
  obtain ⟨n, x⟩ := (S.has k).list
  obtain ⟨o, ho, hc, n', hd⟩ := isL_list x
  refine call_list_seq (hsz := by simpa using hz) l (.inl rfl) ho hc hd fun h' c' hk hD => h _ _ (S.alloc (s' := { s with heap := h' }) (Nat.le_refl _) hk ⟨_, hD, c', rfl⟩ rfl rfl)
theorem new0_cx {C : Addr} {Q : Value → Shared → Prop} (G : Gd b) (S : St b hid L m κ₀ κ own s) (hm : makesIn (kk.heap_1 b.w.params) C = true) (hi : findIn (kk.heap_1 b.w.params) (.ref C) "__init__" = some (some (.builtin "object.__init__")))
    (h : ∀ s' x d, St b hid L m κ₀ κ ((x, .inst C d) :: (d, .attrs C []) :: own) s' → Q (.ref x) s') : wpAny (model b.prog b.w) A (call (.ref C) []) Q E s := by
  have X : (kk.heap_1 b.w.params).In s.heap := G.K.keeps S.bs
  have S2 := S.make (C := C) fun _ h => nomatch h
  have z := h _ _ _ S2
  obtain ⟨hh, g, d, t, os⟩ := s
  have Y := makes_of (M := model b.prog b.w) X hm
  refine wpAny_call (make_core Y (looks_findIn X hi) (fun self => Looks.of_pure (oi_bind self)) (.inr ⟨rfl, rfl⟩) ?_)
  obtain ⟨o, e, rfl⟩ := S2.ow _ (.head _)
  have t1 : Looks (model b.prog b.w) ((hh.push emptyDict).push (instObj C hh.objs.size)) (typeOf (.ref (hh.objs.size + 1))) (.ref C) := (Looks.ld e).andThen .now
  have t2 : Looks (model b.prog b.w) ((hh.push emptyDict).push (instObj C hh.objs.size)) (isInstance (.ref (hh.objs.size + 1)) (.type "object")) true := t1.andThen (Y.top.keeps fun b o e => Heap.get?_push_of_some _ (Heap.get?_push_of_some _ e))
  refine codeAny_call_builtin oi_plain entry_oi (@check_slot (model b.prog b.w) _ _ _ "object.__init__" "object" "__init__" (.ref (hh.objs.size + 1)) [] [] _ oi_kind oi_split t2 (oi_args (.ref (hh.objs.size + 1))) ?_)
  rw [oi_run]
  exact wpAny_pure (And.intro rfl z)
end
section
variable {b : Bs} {lv : Nat} {A : Around} {E : Value → Shared → Prop} {s : Shared} {hid : Kw} {L : Addr} {m m' : Str → Option Value} {κ₀ κ : Kw} {ex own own' : List (Addr × AObj)} {frs : List Env} {env : Env} {M : MCx} {vt : Virt} {cf : Cfg} {flts : List Flt}
set_option maxHeartbeats 2000000
theorem outcome_new {v1 v2 v3 v4 : Value} {Q : Value → Shared → Prop} (G : Gd b) (C : Cx b (lv + 2) A L hid frs) (S : St b hid L m κ₀ κ (ex ++ own) s)
    (h1 : handedIn v1 = true) (h2 : handedIn v2 = true) (h3 : handedIn v3 = true) (h4 : handedIn v4 = true)
    (ok : ∀ s' a d, St b hid L m κ₀ κ (ex ++ (a, .inst 356 d) :: (d, .attrs 356 [("accepted", v1), ("value", v2), ("faults", v3), ("moves", v4)]) :: own) s' → Q (.ref a) s') :
    wpAny (model b.prog b.w) A (call (.ref 356) [v1, v2, v3, v4]) Q E s := by
  refine new_cx (fun x => [("moves", v4), ("faults", v3), ("value", v2), ("accepted", v1), ("self", .ref x)]) G C S (by k_is) (by k_is) (by k_is) (by k_is) (by k_is) (fun _ _ _ => BindsTo.of_eq rfl) (fun _ => locs rfl) rfl rfl rfl (by decide)
    fun x d L' hid' s' A' env' hE hI C' S' ret => ?_
  repeat' k_extra "z"
  exact ⟨rfl, ok _ _ _ (ret.st (by assumption))⟩
/-- what an outcome tells -/
noncomputable def OutO (o od f2 m2 : Addr) (acc : Bool) (v : Value) (flts : List Value) (mvs : List Value) : List (Addr × AObj) :=
  [(o, .inst 356 od), (od, .attrs 356 [("accepted", .bool acc), ("value", v), ("faults", .ref f2), ("moves", .ref m2)]), (m2, .list mvs), (f2, .list flts)]
theorem outcome_spec {Q : Value → Shared → Prop} (G : Gd b) (C : Cx b (lv + 3) A L hid frs) (nm : NoM M.ext) (S : St b hid L m κ₀ κ (ex ++ own) s) (H : Mach κ M cf flts own) (hv : handedIn M.val = true) (hl1 : flts.length ≤ 100) (hl2 : cf.moves.length ≤ 1000)
    (ok : ∀ s' o od f2 m2 mvs, All2 (MvIn own) mvs cf.moves → (∀ p ∈ flts, FaultIs κ own p.1 p.2) → St b hid L m κ₀ κ (ex ++ (OutO o od f2 m2 (M.ans == "accepted") M.val (flts.map Prod.fst) mvs ++ own)) s' → Q (.ref o) s') :
    wpAny (model b.prog b.w) A (call (.ref 417) [.ref M.c]) Q E s := by
  obtain ⟨T, kinds, Cl, c, tb, hd, most, ext, ans, val⟩ := M
  dsimp only at *
  obtain ⟨extra, hx, d, ln, sl, vl, fl, mv, tm, tc, ta, D, sts, vals, mvs, lk, X, ho, hi, hw, hm, hl, hk⟩ := H
  dsimp only at *
  subst ho
  have nmx := nm _ hx
  have up : ∀ p ∈ X, p ∈ (c, AObj.inst Cl d) :: (d, AObj.attrs Cl (attrL tb hd most tm ln sl vl lk cf.cnt tc ans ta val fl mv extra)) :: (ln, AObj.tabI D) :: (sl, AObj.list sts) :: (vl, AObj.list vals) :: (fl, AObj.list (flts.map Prod.fst)) :: (mv, AObj.list mvs) :: X :=
    fun p hp => List.mem_append_right [_, _, _, _, _, _, _] hp
  have hz1 : (flts.map Prod.fst).length ≤ sizeLine := by rw [List.length_map]; exact Nat.le_trans hl1 (by decide)
  have hz2 : mvs.length ≤ sizeLine := by rw [hm.length]; exact Nat.le_trans hl2 (by decide)
  refine call_cx [("self", .ref c)] G C S (by k_is) (by k_is) (BindsTo.of_eq rfl) (locs rfl) rfl rfl rfl (by decide) fun L' hid' s' A' env' hE hI hA C' S' ret => ?_
  repeat' k_extra "z"
  refine outcome_new (lv := lv) (ex := []) G C' (by assumption) rfl hv rfl rfl fun s₃ o od S₃ => ?_
  repeat' k_extra "z"
  exact ok _ _ _ _ _ _ (hm.mono fun _ _ k => k.mono up) (fun p hp => (hk.2 p hp).mono up) (ret.st S₃)
/-- a row of tokens -/
noncomputable def RowO (src sd line : Addr) (i : Int) (t : Tok) : List (Addr × AObj) := [(src, .inst 384 sd), (sd, .attrs 384 [("tokens", .ref line), ("at", .int i t)])]
structure LineIs (κ : Kw) (line : Addr) (kinds : List Str) : Prop where
  ex : ∃ tks : List Value, κ line (.list tks) ∧ tks.length = kinds.length ∧ ∀ i, i < kinds.length → ∃ tok, tks[i]? = some (.ref tok) ∧ TokH κ [] tok (kindAt kinds i) (worthAt kinds i)
  ne : ∀ i, i < kinds.length → kindAt kinds i ≠ "$end"
  sz : kinds.length ≤ 100
theorem token_new {k x : Str} {t1 t2 : Tok} {w : Value} {Q : Value → Shared → Prop} (G : Gd b) (C : Cx b (lv + 2) A L hid frs) (S : St b hid L m κ₀ κ (ex ++ own) s) (hw : w = .none ∨ ∃ y t, w = .str y t)
    (ok : ∀ s' a d, St b hid L m κ₀ κ (ex ++ (a, .inst 105 d) :: (d, .attrs 105 [("kind", .str k t1), ("text", .str x t2), ("at", .none), ("worth", if w = .none then .str x t2 else w)]) :: own) s' → Q (.ref a) s') :
    wpAny (model b.prog b.w) A (call (.ref 105) [.str k t1, .str x t2, .none, w]) Q E s := by
  refine new_cx (fun y => [("worth", w), ("at", .none), ("text", .str x t2), ("kind", .str k t1), ("self", .ref y)]) G C S (by k_is) (by k_is) (by k_is) (by k_is) (by k_is) (fun _ _ X => binds_K X rfl (by k_is) rfl rfl rfl) (fun _ => locs rfl) rfl rfl rfl (by decide)
    fun x d L' hid' s' A' env' hE hI C' S' ret => ?_
  rcases hw with rfl | ⟨y, t, rfl⟩
  · repeat' k_extra "z"
    exact ⟨rfl, ok _ _ _ (ret.st (by assumption))⟩
  · repeat' k_extra "z"
    exact ⟨rfl, ok _ _ _ (ret.st (by assumption))⟩
end
theorem Has.nil {κ : Kw} {a : Addr} {X : AObj} (h : Has κ [] a X) : κ a X := h.elim (fun h => nomatch h) id
theorem kindAt_ge {kinds : List Str} {i : Nat} (h : kinds.length ≤ i) : kindAt kinds i = "$end" := by
  unfold kindAt; rw [List.getD_eq_getElem?_getD, List.getElem?_eq_none h]; rfl
section
variable {b : Bs} {lv : Nat} {A : Around} {E : Value → Shared → Prop} {s : Shared} {hid : Kw} {L : Addr} {m m' : Str → Option Value} {κ₀ κ : Kw} {ex own own' : List (Addr × AObj)} {frs : List Env} {env : Env} {M : MCx} {vt : Virt} {cf : Cfg} {flts : List Flt}
set_option maxHeartbeats 2000000
theorem token_new3 {k x : Str} {t1 t2 : Tok} {Q : Value → Shared → Prop} (G : Gd b) (C : Cx b (lv + 2) A L hid frs) (S : St b hid L m κ₀ κ (ex ++ own) s)
    (ok : ∀ s' a d, St b hid L m κ₀ κ (ex ++ (a, .inst 105 d) :: (d, .attrs 105 [("kind", .str k t1), ("text", .str x t2), ("at", .none), ("worth", .str x t2)]) :: own) s' → Q (.ref a) s') :
    wpAny (model b.prog b.w) A (call (.ref 105) [.str k t1, .str x t2, .none]) Q E s := by
  refine new_cx (fun y => [("worth", .none), ("at", .none), ("text", .str x t2), ("kind", .str k t1), ("self", .ref y)]) G C S (by k_is) (by k_is) (by k_is) (by k_is) (by k_is) (fun _ _ X => binds_K X rfl (by k_is) rfl rfl rfl) (fun _ => locs rfl) rfl rfl rfl (by decide)
    fun x d L' hid' s' A' env' hE hI C' S' ret => ?_
  repeat' k_extra "z"
  exact ⟨rfl, ok _ _ _ (ret.st (by assumption))⟩
theorem next_token_spec {src sd line : Addr} {kinds : List Str} {i : Nat} {t : Tok} {Q : Value → Shared → Prop} (G : Gd b) (C : Cx b (lv + 3) A L hid frs) (LI : LineIs κ line kinds)
    (S : St b hid L m κ₀ κ (ex ++ RowO src sd line ((min i kinds.length : Nat) : Int) t) s)
    (ok : ∀ s' tok Y t', TokH κ Y tok (kindAt kinds i) (worthAt kinds i) → St b hid L m κ₀ κ (ex ++ (Y ++ RowO src sd line ((min (i + 1) kinds.length : Nat) : Int) t')) s' → Q (.ref tok) s') :
    wpAny (model b.prog b.w) A (call (.ref 381) [.ref src]) Q E s := by
  obtain ⟨⟨tks, hk, hkl, hkt⟩, hne, hsz⟩ := LI
  have hz : tks.length ≤ 1000000 := by omega
  refine call_cx [("self", .ref src)] G C S (by k_is) (by k_is) (BindsTo.of_eq rfl) (locs rfl) rfl rfl rfl (by decide) fun L' hid' s' A' env' hE hI hA C' S' ret => ?_
  unfold RowO at S'
  rcases Nat.lt_or_ge i kinds.length with hi | hi
  · have e1 : min i kinds.length = i := by omega
    have e2 : min (i + 1) kinds.length = i + 1 := by omega
    rw [e1] at S'
    rw [e2] at ok
    obtain ⟨tok, ht, d, tk, tt, tw, x, h1, h2⟩ := hkt i hi
    have hT : TokH κ [] tok (kindAt kinds i) (worthAt kinds i) := ⟨d, tk, tt, tw, x, h1, h2⟩
    have h1 := h1.nil
    have h2 := h2.nil
    have hz2 : (i : Int) < 2 ^ 63 := by omega
    have hlt : decide ((tks.length : Int) ≤ (i : Int)) = false := decide_eq_false (by omega)
    have hn : (kindAt kinds i != "$end") = true := by simpa using hne i hi
    repeat' k_extra "z"
    rw [hlt]
    repeat' k_extra "z"
    rw [hn]
    repeat' k_extra "z"
    have e : ((i + 1 : Nat) : Int) = (i : Int) + 1 := by omega
    rw [e] at ok
    exact ok _ tok [] _ hT (ret.st (by assumption))
  · have e1 : min i kinds.length = kinds.length := by omega
    have e2 : min (i + 1) kinds.length = kinds.length := by omega
    rw [e1] at S'
    rw [e2] at ok
    have hlt : decide ((tks.length : Int) ≤ (kinds.length : Int)) = true := decide_eq_true (by omega)
    repeat' k_extra "z"
    rw [hlt]
    repeat' k_extra "z"
    refine token_new3 (ex := []) G C' (by assumption) fun s₃ a d S₃ => ?_
    repeat' k_extra "z"
    refine ok _ a [_, _] _ ?_ (ret.st S₃)
    rw [kindAt_ge hi]
    have e : worthAt kinds i = "" := by unfold worthAt; rw [if_neg (by omega)]
    rw [e]
    exact ⟨d, _, _, _, _, .inl (.head _), .inl (.tail _ (.head _))⟩
end
noncomputable def cfg0 : Cfg := { stack := [0], worths := [], moves := [], spot := 0, seen := false }
structure OkB (C : Addr) : Prop where
  a1 : okAt C "states"
  a2 : okAt C "values"
  a3 : okAt C "looked"
  a4 : okAt C "count"
  a5 : okAt C "answer"
  a6 : okAt C "value"
  a7 : okAt C "faults"
  a8 : okAt C "moves"
abbrev BeginSpec (b : Bs) (vt : Virt) : Prop := ∀ {lv : Nat} {A : Around} {E : Value → Shared → Prop} {s : Shared} {hid : Kw} {L : Addr} {m : Str → Option Value} {κ₀ κ : Kw} {ex own : List (Addr × AObj)} {frs : List Env} {M : MCx} {cf : Cfg} {flts : List Flt}
  {Q : Value → Shared → Prop}, Cx b (lv + 3) A L hid frs → NoM M.ext → M.C = vt.cls → M.ext = vt.ext → St b hid L m κ₀ κ (ex ++ own) s → Mach κ M cf flts own →
  (∀ s' own', St b hid L m κ₀ κ (ex ++ own') s' → Mach κ { M with ans := "more", val := .none } cfg0 [] own' → Q .none s') → wpAny (model b.prog b.w) A (call (.ref vt.begin) [.ref M.c]) Q E s
section
variable {b : Bs} {lv : Nat} {A : Around} {E : Value → Shared → Prop} {s : Shared} {hid : Kw} {L : Addr} {m m' : Str → Option Value} {κ₀ κ : Kw} {ex own own' : List (Addr × AObj)} {frs : List Env} {env : Env} {M : MCx} {vt : Virt} {cf : Cfg} {flts : List Flt}
set_option maxHeartbeats 2000000
theorem core_begin {Q : Value → Shared → Prop} (G : Gd b) (C : Cx b (lv + 1) A L hid frs) (nm : NoM M.ext) (S : St b hid L m κ₀ κ (ex ++ own) s) (H : Mach κ M cf flts own)
    (ok : ∀ s' own', St b hid L m κ₀ κ (ex ++ own') s' → Mach κ { M with ans := "more", val := .none } cfg0 [] own' → Q .none s') : CallC b A 410 [.ref M.c] Q E s := by
  obtain ⟨T, kinds, Cl, c, tb, hd, most, ext, ans, val⟩ := M
  dsimp only at *
  obtain ⟨extra, hx, d, ln, sl, vl, fl, mv, tm, tc, ta, D, sts, vals, mvs, lk, X, ho, hi, hw, hm, hl, hk⟩ := H
  dsimp only at *
  subst ho
  have nmx := nm _ hx
  refine call_cd [("self", .ref c)] G C S (by k_is) (by k_is) (BindsTo.of_eq rfl) (locs rfl) rfl rfl rfl (by decide) fun L' hid' s' A' env' hE hI hA C' S' ret => ?_
  repeat' k_extra "z"
  rename_i s₉ S₉
  have T₉ : ∃ sl' vl' fl' mv' t' tc' ta', St b hid' L' _ κ κ ((c, .inst Cl d) :: (d, .attrs Cl (attrL tb hd most tm ln sl' vl' .none 0 tc' "more" ta' .none fl' mv' extra)) :: (ln, .tabI D) :: (sl', .list [.int 0 t']) :: (vl', .list []) :: (fl', .list []) :: (mv', .list []) :: (sl, .list sts) :: (vl, .list vals) :: (fl, .list (flts.map Prod.fst)) :: (mv, .list mvs) :: X) s₉ :=
    ⟨_, _, _, _, _, _, _, S₉.perm (by k_extra "perm")⟩
  obtain ⟨sl', vl', fl', mv', t', tc', ta', T₉⟩ := T₉
  exact ok _ _ (ret.st T₉) ⟨extra, hx, d, ln, sl', vl', fl', mv', tm, tc', ta', D, _, _, _, .none, _, rfl, .cons _ _ .nil, .nil, .nil, hl, ⟨rfl, fun _ h => nomatch h⟩⟩
theorem core_begin_init {c d Cl tb hd ln : Addr} {most : Int} {tm : Tok} {Q : Value → Shared → Prop} (G : Gd b) (C : Cx b (lv + 1) A L hid frs) (OB : OkB Cl)
    (S : St b hid L m κ₀ κ (ex ++ (c, .inst Cl d) :: (d, .attrs Cl [("tables", .ref tb), ("handler", .ref hd), ("most", .int most tm), ("lone", .ref ln)]) :: (ln, .tabI []) :: own) s)
    (ok : ∀ s' sl vl fl mv t tc ta, St b hid L m κ₀ κ (ex ++ (c, .inst Cl d) :: (d, .attrs Cl (attrL tb hd most tm ln sl vl .none 0 tc "more" ta .none fl mv [])) :: (ln, .tabI []) :: (sl, .list [.int 0 t]) :: (vl, .list []) :: (fl, .list []) :: (mv, .list []) :: own) s' → Q .none s') :
    CallC b A 410 [.ref c] Q E s := by
  obtain ⟨a1, a2, a3, a4, a5, a6, a7, a8⟩ := OB
  refine call_cd [("self", .ref c)] G C S (by k_is) (by k_is) (BindsTo.of_eq rfl) (locs rfl) rfl rfl rfl (by decide) fun L' hid' s' A' env' hE hI hA C' S' ret => ?_
  repeat' k_extra "z"
  rename_i s₉ S₉
  have T₉ : ∃ sl' vl' fl' mv' t' tc' ta', St b hid' L' _ κ κ ((c, .inst Cl d) :: (d, .attrs Cl (attrL tb hd most tm ln sl' vl' .none 0 tc' "more" ta' .none fl' mv' [])) :: (ln, .tabI []) :: (sl', .list [.int 0 t']) :: (vl', .list []) :: (fl', .list []) :: (mv', .list []) :: own) s₉ :=
    ⟨_, _, _, _, _, _, _, S₉.perm (by k_extra "perm")⟩
  obtain ⟨sl', vl', fl', mv', t', tc', ta', T₉⟩ := T₉
  exact ok _ _ _ _ _ _ _ _ (ret.st T₉)
end
noncomputable def Cfg.pulled (c : Cfg) : Nat := c.spot + (if c.seen then 1 else 0)
theorem cfg0_ok {T : TabD} (O : T.Ok) {most : Int} (h : 0 ≤ most) : cfg0.Ok T most := by
  obtain ⟨n, n0, n5, e1, e2, e3⟩ := O.n
  refine ⟨rfl, fun a ha => ?_, h, Nat.le_refl _⟩
  cases List.mem_singleton.mp ha
  omega
theorem turnF_look {T : TabD} {kinds : List Str} {most : Int} {c : Cfg} (h : ¬ 0 < T.lone c.top) : turnF T kinds most c.look = turnF T kinds most c := by
  unfold turnF
  have e : c.look.top = c.top := rfl
  rw [e, if_neg h, if_neg h]
  rfl
theorem reduceF_pulled {T : TabD} {most r : Int} {c c' : Cfg} (h : reduceF T most c r = .inl c') : c'.pulled = c.pulled := by
  unfold reduceF at h
  dsimp only at h
  split at h
  · cases h
  · split at h
    · cases h
    · cases h; rfl
theorem turnF_pulled {T : TabD} {kinds : List Str} {most : Int} {c c' : Cfg} (hne : 0 < T.lone c.top ∨ c.seen = true) (h : turnF T kinds most c = .inl c') : c'.pulled = c.pulled := by
  by_cases hl : 0 < T.lone c.top
  · rw [turnF_lone hl] at h; exact reduceF_pulled h
  · have hs := hne.resolve_left hl
    rw [turnF_seen hl hs] at h
    dsimp only at h
    split at h
    · split at h <;> cases h
    · split at h
      · split at h
        · cases h
        · cases h; unfold Cfg.pulled Cfg.shifted; simp [hs]
      · split at h
        · exact reduceF_pulled h
        · cases h
theorem MK.with {κ : Kw} {M : MCx} {vt : Virt} (K : MK κ M vt) (a : Str) (v : Value) : MK κ { M with ans := a, val := v } vt := ⟨K.cN, K.vf, K.nm, K.tk, K.to, K.m0, K.hd, K.hC, K.hX, K.kd⟩
theorem Fly.drop {b : Bs} {hid : Kw} {L : Addr} {m : Str → Option Value} {κ₀ κ : Kw} {own own' : List (Addr × AObj)} {frs : List Env} {e : Addr} {s : Shared} (F : Fly b hid L m κ₀ κ own frs e s) (h : own'.Sublist own) : Fly b hid L m κ₀ κ own' frs e s := by
  obtain ⟨S, B, a0, fl, I⟩ := F
  exact ⟨S.drop h, B, a0, fl, I.bs, fun a A k => I.kb a A (k.imp (fun k => h.subset k) id)⟩
theorem Runs.next {T : TabD} {kinds : List Str} {most : Int} {c c' : Cfg} {r : Res} (R : Runs T kinds most c r) (h : turnF T kinds most c = .inl c') : Runs T kinds most c' r := by
  cases R with
  | done e => rw [h] at e; cases e
  | more e R => rw [h] at e; cases e; exact R
theorem Runs.last {T : TabD} {kinds : List Str} {most : Int} {c : Cfg} {r r' : Res} (R : Runs T kinds most c r) (h : turnF T kinds most c = .inr r') : r' = r := by
  cases R with
  | done e => rw [h] at e; cases e; rfl
  | more e R => rw [h] at e; cases e
section
variable {b : Bs} {lv : Nat} {A : Around} {E : Value → Shared → Prop} {s : Shared} {hid : Kw} {L : Addr} {m m' : Str → Option Value} {κ₀ κ : Kw} {ex own own' : List (Addr × AObj)} {frs : List Env} {env : Env} {M : MCx} {vt : Virt} {cf : Cfg} {flts : List Flt}
set_option maxHeartbeats 4000000
theorem pull_spec {src sd line : Addr} {t : Tok} {r : Res} {Q : Value → Shared → Prop} (G : Gd b) (SP : Specs b vt) (BG : BeginSpec b vt) (C : Cx b (lv + 16) A L hid frs) (K : MK κ M vt) (LI : LineIs κ line M.kinds)
    (S : St b hid L m κ₀ κ (ex ++ (RowO src sd line 0 t ++ own)) s) (H : Mach κ M cf flts own) (hR : Runs M.T M.kinds M.most cfg0 r)
    (ok : ∀ s' own' v, St b hid L m κ₀ κ (ex ++ own') s' → EndOk κ { M with ans := "more", val := .none } vt r own' → Q v s')
    (exc : ∀ s' own' e, Fly b hid L m κ₀ κ (ex ++ own') frs e s' → EndEx κ { M with ans := "more", val := .none } vt r own' → E (.ref e) s') :
    wpAny (model b.prog b.w) A (call (.ref 431) [.ref M.c, .ref src]) Q E s := by
  have K' := K
  obtain ⟨cN, vf, nm, TK, to, m0, ⟨hdd, hk1, hk2⟩, ⟨hC, hnv⟩, hX, kd⟩ := K'
  have vb := vf.begin
  have vl := vf.look
  have lks : LookSpec b vt := SP.look
  have H' := H
  obtain ⟨T, kinds, Cl, c, tb, hd, most, ext, ans, val⟩ := M
  dsimp only at *
  obtain ⟨extra, hx, d, ln, sl, vl, fl, mv, tm, tc, ta, D, sts, vals, mvs, lk, X, ho, hi, hw, hm, hl, hk⟩ := H
  dsimp only at *
  subst ho
  have nmx := nm _ hx
  have K₀ := K.with "more" .none
  refine call_cx [("source", .ref src), ("self", .ref c)] G C S (by k_is) (by k_is) (BindsTo.of_eq rfl) (locs rfl) rfl rfl rfl (by decide) fun L' hid' s' A' env' hE hI hA C' S' ret => ?_
  repeat' k_extra "z"
  refine BG (lv := lv + 12) (ex := RowO src sd line 0 t) C' nm hC hX (by assumption) H' fun s₂ own₂ S₂ H₂ => ?_
  repeat' k_extra "z"
  refine R_While (fun n s => ∃ m₂ own₂ i t, St b hid' L' m₂ κ κ (RowO src sd line i t ++ own₂) s ∧ m₂ "self" = some (.ref c) ∧ m₂ "source" = some (.ref src) ∧
    ((∃ cf : Cfg, n = (most - cf.moves.length).toNat + 1 ∧ i = ((min cf.pulled kinds.length : Nat) : Int) ∧ Mach κ ⟨T, kinds, Cl, c, tb, hd, most, ext, "more", .none⟩ cf [] own₂ ∧ cf.Ok T most ∧ Runs T kinds most cf r) ∨
     (n = 0 ∧ EndOk κ ⟨T, kinds, Cl, c, tb, hd, most, ext, "more", .none⟩ vt r own₂))) PassesOwn.leaving _ ⟨_, _, _, _, S₂, rfl, rfl, .inl ⟨cfg0, rfl, by show (0 : Int) = _; simp [Cfg.pulled, cfg0], H₂, cfg0_ok to m0.1, hR⟩⟩ ?_
  intro n s₃ Nx hZ3 hN
  obtain ⟨m₃, own₃, i, t₃, S₃, n1, n2, ⟨cf₃, rfl, rfl, H₃, O₃, R₃⟩ | ⟨rfl, hEnd⟩⟩ := hZ3
  · have H₃' := H₃
    obtain ⟨extra, hx, d, ln, sl, vl, fl, mv, tm, tc, ta, D, sts, vals, mvs, lk', X, rfl, hi, hw, hm, hl, hk⟩ := H₃
    dsimp only at *
    have nmx := nm _ hx
    k_extra "zI"
    refine R_execs (R_joinK (fun KK => ∀ s₄ m₄ own₄ cf₄ t₄, St b hid' L' m₄ κ κ (RowO src sd line ((min cf₄.pulled kinds.length : Nat) : Int) t₄ ++ own₄) s₄ → m₄ "self" = some (.ref c) → m₄ "source" = some (.ref src) →
      Mach κ ⟨T, kinds, Cl, c, tb, hd, most, ext, "more", .none⟩ cf₄ [] own₄ → cf₄.Ok T most → (0 < T.lone cf₄.top ∨ cf₄.seen = true) → turnF T kinds most cf₄ = turnF T kinds most cf₃ → cf₄.moves = cf₃.moves → KK s₄) ?_ ?_)
    · intro KK hK
      repeat' k_extra "z"
      with_reducible refine needs_spec (lv := lv + 11) (ex := RowO src sd line ((min cf₃.pulled kinds.length : Nat) : Int) t₃) G C' cN nm TK to (by assumption) H₃' O₃ fun s₄ own₄ S₄ H₄ => ?_
      have H₄' := H₄
      obtain ⟨extra, hx, d, ln, sl, vl, fl, mv, tm, tc, ta, D, sts, vals, mvs, lk', X, rfl, hi, hw, hm, hl, hk⟩ := H₄
      dsimp only at *
      have nmx := nm _ hx
      obtain ⟨pre, hpre, htop⟩ := O₃.top
      have hlo := lone_facts to htop.1 htop.2
      cases hb : (!cf₃.seen && T.lone cf₃.top == 0) with
      | true =>
        simp only [Bool.and_eq_true, Bool.not_eq_true', beq_iff_eq] at hb
        obtain ⟨hb1, hb2⟩ := hb
        have hp : cf₃.pulled = cf₃.spot := by unfold Cfg.pulled; rw [hb1]; rfl
        have hp' : cf₃.look.pulled = cf₃.spot + 1 := rfl
        repeat' k_extra "z"
        with_reducible refine next_token_spec (lv := lv + 12) (i := cf₃.pulled) G C' LI (S₄.perm List.perm_append_comm) fun s₆ tok Y t₆ hT S₆ => ?_
        repeat' k_extra "z"
        rw [hp] at hT S₆
        with_reducible refine lks (lv := lv + 12) (Y := Y) (ex := RowO src sd line ((min (cf₃.spot + 1) kinds.length : Nat) : Int) t₆) C' K₀ (S₆.perm ?_) H₄' hb1 hT fun s₇ own₇ S₇ H₇ => ?_
        · exact (List.perm_append_comm_assoc _ _ _).trans ((List.Perm.append_left _ List.perm_append_comm).trans (List.perm_append_comm_assoc _ _ _))
        repeat' k_extra "z"
        exact ⟨rfl, hK _ _ own₇ cf₃.look t₆ S₇ n1 n2 H₇ O₃.seen (.inr rfl) (turnF_look (by rw [hb2]; decide)) rfl⟩
      | false =>
        repeat' k_extra "z"
        refine ⟨rfl, hK _ _ _ cf₃ t₃ (by assumption) n1 n2 H₄' O₃ ?_ rfl rfl⟩
        cases hs : cf₃.seen with
        | true => exact .inr rfl
        | false =>
          rw [hs] at hb
          have : T.lone cf₃.top ≠ 0 := by simpa using hb
          exact .inl (by omega)
    · intro s₄ m₄ own₄ cf₄ t₄ S₄ n3 n4 H₄ O₄ hne hturn hmv
      have H₄' := H₄
      obtain ⟨extra, hx, d, ln, sl, vl, fl, mv, tm, tc, ta, D, sts, vals, mvs, lk', X, rfl, hi, hw, hm, hl, hk⟩ := H₄
      dsimp only at *
      have nmx := nm _ hx
      repeat' k_extra "z"
      with_reducible refine step_spec (lv := lv + 1) (ex := RowO src sd line ((min cf₄.pulled kinds.length : Nat) : Int) t₄) G SP C' K₀ (by assumption) H₄' O₄ hne (fun s₅ own₅ cf₅ e S₅ H₅ => ?_) (fun s₅ own₅ r' e S₅ hEnd => ?_) fun s₅ own₅ e' r' e F hEnd => ?_
      · repeat' k_extra "z"
        obtain ⟨O₅, hlen⟩ := turnF_ok to O₄ e
        refine hN _ _ ?_ ⟨_, own₅, _, t₄, S₅, n3, n4, .inl ⟨cf₅, rfl, ?_, H₅, O₅, R₃.next (hturn ▸ e)⟩⟩
        · have := O₅.mvs; rw [hmv] at hlen; omega
        · rw [turnF_pulled hne e]
      · repeat' k_extra "z"
        obtain rfl := R₃.last (hturn ▸ e)
        exact hN _ 0 (by omega) ⟨_, own₅, _, t₄, S₅, n3, n4, .inr ⟨rfl, hEnd⟩⟩
      · obtain rfl := R₃.last (hturn ▸ e)
        exact R_leaveOn C' (by rw [hE]; rfl) F fun s₆ F₆ => exc _ _ _ (Fly.drop (ret.fly F₆) (List.Sublist.append (List.Sublist.refl _) (List.sublist_append_right _ _))) hEnd
  · obtain ⟨cf', flts', v', H₃, hv, ha, hf, hc, hml, hmv⟩ := hEnd
    have H₃' := H₃
    obtain ⟨extra, hx, d, ln, sl, vl, fl, mv, tm, tc, ta, D, sts, vals, mvs, lk', X, rfl, hi, hw, hm, hl, hk⟩ := H₃
    dsimp only at *
    have nmx := SP.x.nm _ hx
    have hne : (r.ans == ("more" : Str)) = false := by rcases ha with ha | ha <;> rw [ha] <;> rfl
    repeat' k_extra "z"
    rw [hne]
    repeat' k_extra "z"
    with_reducible refine outcome_spec (lv := lv + 12) (ex := RowO src sd line i t₃) G C' SP.x.nm (by assumption) H₃' ?hv ?l1 ?l2 fun s₄ o od f2 m2 mvs' hmm hff S₄ => ?_
    case hv =>
      show handedIn v' = true
      generalize r.val = w at hv
      cases w with
      | none => cases hv; rfl
      | some x => obtain ⟨t, rfl⟩ := hv; rfl
    case l1 => have := congrArg List.length hf; rw [List.length_map] at this; have h1 : r.fault.toList.length ≤ 1 := by cases r.fault <;> simp
               omega
    case l2 => have := m0.2; omega
    repeat' k_extra "z"
    refine ok _ _ _ (St.drop (ret.st S₄) (List.Sublist.append (List.Sublist.refl _) ((List.sublist_append_right _ _).trans (List.sublist_append_right _ _)))) ⟨cf', flts', v', H₃', hv, ha, hf, hc, hml, hmv⟩
end
section
variable {b : Bs} {lv : Nat} {A : Around} {E : Value → Shared → Prop} {s : Shared} {hid : Kw} {L : Addr} {m m' : Str → Option Value} {κ₀ κ : Kw} {ex own own' : List (Addr × AObj)} {frs : List Env} {env : Env} {M : MCx} {vt : Virt} {cf : Cfg} {flts : List Flt}
set_option maxHeartbeats 4000000
theorem row_new {line : Addr} {Q : Value → Shared → Prop} (G : Gd b) (C : Cx b (lv + 2) A L hid frs) (S : St b hid L m κ₀ κ (ex ++ own) s)
    (ok : ∀ s' src sd t, St b hid L m κ₀ κ (ex ++ (RowO src sd line 0 t ++ own)) s' → Q (.ref src) s') :
    wpAny (model b.prog b.w) A (call (.ref 384) [.ref line]) Q E s := by
  refine new_cx (fun x => [("tokens", .ref line), ("self", .ref x)]) G C S (by k_is) (by k_is) (by k_is) (by k_is) (by k_is) (fun _ _ _ => BindsTo.of_eq rfl) (fun _ => locs rfl) rfl rfl rfl (by decide)
    fun x d L' hid' s' A' env' hE hI C' S' ret => ?_
  repeat' k_extra "z"
  exact ⟨rfl, ok _ _ _ _ (ret.st (by assumption))⟩
theorem parse_spec {line : Addr} {r : Res} {Q : Value → Shared → Prop} (G : Gd b) (SP : Specs b vt) (BG : BeginSpec b vt) (C : Cx b (lv + 17) A L hid frs) (K : MK κ M vt) (LI : LineIs κ line M.kinds)
    (S : St b hid L m κ₀ κ (ex ++ own) s) (H : Mach κ M cf flts own) (hR : Runs M.T M.kinds M.most cfg0 r)
    (ok : ∀ s' own' v, St b hid L m κ₀ κ (ex ++ own') s' → EndOk κ { M with ans := "more", val := .none } vt r own' → Q v s')
    (exc : ∀ s' own' e, Fly b hid L m κ₀ κ (ex ++ own') frs e s' → EndEx κ { M with ans := "more", val := .none } vt r own' → E (.ref e) s') :
    wpAny (model b.prog b.w) A (call (.ref 424) [.ref M.c, .ref line]) Q E s := by
  have K' := K
  obtain ⟨cN, vf, nm, TK, to, m0, ⟨hdd, hk1, hk2⟩, ⟨hC, hnv⟩, hX, kd⟩ := K'
  have H' := H
  obtain ⟨T, kinds, Cl, c, tb, hd, most, ext, ans, val⟩ := M
  dsimp only at *
  obtain ⟨extra, hx, d, ln, sl, vl, fl, mv, tm, tc, ta, D, sts, vals, mvs, lk, X, ho, hi, hw, hm, hl, hk⟩ := H
  dsimp only at *
  subst ho
  have nmx := nm _ hx
  refine call_cx [("tokens", .ref line), ("self", .ref c)] G C S (by k_is) (by k_is) (BindsTo.of_eq rfl) (locs rfl) rfl rfl rfl (by decide) fun L' hid' s' A' env' hE hI hA C' S' ret => ?_
  repeat' k_extra "z"
  with_reducible refine row_new (lv := lv + 14) (ex := []) G C' (St.nil (by assumption)) fun s₂ src sd t S₂ => ?_
  rw [List.nil_append] at S₂
  repeat' k_extra "z"
  with_reducible refine pull_spec (lv := lv) (ex := []) G SP BG C' K LI (St.nil S₂) H' hR (fun s₃ own₃ v S₃ hEnd => ?_) fun s₃ own₃ e F hEnd => ?_
  · repeat' k_extra "z"
    exact ok _ _ _ (ret.st S₃) hEnd
  · exact R_leaveOn C' (by rw [hE]; rfl) F fun s₆ F₆ => exc _ _ _ (ret.fly F₆) hEnd
end
theorem coreC_of {C : Addr} {v : Virt} (h : ∀ p ∈ coreTbl v, ∀ P, plainGet (kk.heap_1 P) C p.1 = true ∧ findIn (kk.heap_1 P) (.ref C) p.1 = some (some (.ref p.2))) : CoreC C v := ⟨fun {n f} e P => by
  have : ∀ l : List (Str × Addr), l.lookup n = some f → (n, f) ∈ l := by
    intro l
    induction l with
    | nil => intro e; cases e
    | cons p r ih =>
      obtain ⟨k, u⟩ := p
      intro e
      rw [List.lookup_cons] at e
      by_cases q : n = k
      · subst q; simp at e; subst e; exact .head _
      · have : (n == k) = false := by simpa using q
        simp only [this] at e
        exact .tail _ (ih e)
  exact h _ (this _ e) P⟩
noncomputable def coreV : Virt := { cls := 551, ext := fun x => x = [], ext2 := fun x => x = [], weak := false, begin := 410, look := 452, isest := 501, shift := 508, act := 522, goon := 529, expected := 536, fail := 548 }
theorem coreV_c : CoreC 551 coreV := coreC_of fun p hp P => by
  simp only [coreTbl, coreV, List.mem_cons, List.not_mem_nil, or_false] at hp
  rcases hp with rfl | rfl | rfl | rfl | rfl | rfl | rfl | rfl | rfl | rfl | rfl | rfl | rfl | rfl | rfl | rfl | rfl | rfl | rfl | rfl <;> exact ⟨by kernel_rfl, by kernel_rfl⟩
theorem coreV_f : VirtFn coreV := ⟨fun P => ⟨by kernel_rfl, by kernel_rfl⟩, fun P => ⟨by kernel_rfl, by kernel_rfl⟩, fun P => ⟨by kernel_rfl, by kernel_rfl⟩, fun P => ⟨by kernel_rfl, by kernel_rfl⟩, fun P => ⟨by kernel_rfl, by kernel_rfl⟩, fun P => ⟨by kernel_rfl, by kernel_rfl⟩, fun P => ⟨by kernel_rfl, by kernel_rfl⟩, fun P => ⟨by kernel_rfl, by kernel_rfl⟩⟩
theorem noMeth_nil : NoMeth [] := ⟨fun _ _ => rfl, by decide⟩
theorem coreV_s {b : Bs} (G : Gd b) : Specs b coreV where
  act := fun C K S H k hz ok => core_act G C K S H k hz ok
  go := fun C K S H a1 a2 a3 a4 a5 a6 ok exc => (core_goon G C K S H a1 a2 a3 a4 a5 a6 ok exc).go
  exp := fun C K S H O ok => (core_expected G C K S H O ok).go
  est := fun C K S H ok => core_isest G C K S H ok
  fail := fun C K S H O hs ok exc => core_fail G (fun C K S H O ok => (core_expected G C K S H O ok).go) C K S H O hs fun s' own' v S' H' => ok _ _ _ v S' (by
    have e : coreV.ext2 = _ := K.hX.symm
    rw [e]; exact H') rfl O.mvs (fun _ => rfl)
  shift := fun C K S H O hs ok exc => (core_shift G C K S H O hs ok exc).go
  look := fun C K S H hs hT ok => (look_spec G K.nm C S H hs hT ok).go
  x := ⟨fun _ h => h, fun x h => h ▸ noMeth_nil⟩
theorem coreV_b {b : Bs} (G : Gd b) : BeginSpec b coreV := fun C nm _ _ S H ok => (core_begin G C nm S H ok).go
section
variable {b : Bs} {lv : Nat} {A : Around} {E : Value → Shared → Prop} {s : Shared} {hid : Kw} {L : Addr} {m m' : Str → Option Value} {κ₀ κ : Kw} {ex own own' : List (Addr × AObj)} {frs : List Env} {env : Env} {M : MCx} {vt : Virt} {cf : Cfg} {flts : List Flt}
theorem St.grownN {h' : Heap} {t : Nat} {so : Addr} {o : Obj} (S : St b hid L m κ₀ κ own s) (F : Fr b.base L h' m) (N : News b.base L h' ((so, o) :: others b.base s.heap L L)) (lt : ∀ p ∈ others b.base s.heap L L, p.1 < so) {p₀ : Addr × AObj} (hp₀ : p₀ ∈ own) :
    St b hid L m κ₀ κ ((so, .obj o) :: own) { s with heap := h', toks := t } := by
  obtain ⟨n1, n2, n3⟩ := N _ (.head _)
  have ne : ∀ c, c ≠ L → ∀ o, s.heap.get? c = some o → h'.get? c = some o := fun c hL o e => by
    cases q : b.base.get? c with
    | none => exact (N (c, o) (.tail _ (mem_others.mpr ⟨hL, hL, q, e⟩))).1
    | some o₂ =>
      have := S.bs c o₂ q
      rw [e] at this; cases this
      exact F.keep c o q
  have ap : ∀ c X, c ≠ L → Knows b s.heap c X → c ≠ so := fun c X hL ⟨o₁, e, _⟩ q => by
    subst q
    exact Nat.lt_irrefl _ (lt (c, o₁) (mem_others.mpr ⟨hL, hL, n3, e⟩))
  exact {
    ns := F.ns
    bs := F.keep
    ab := S.ab
    nd := List.nodup_cons.mpr ⟨fun h => by
      obtain ⟨p, hp, e⟩ := List.mem_map.mp h
      exact ap p.1 p.2 (fun e => S.oL (e ▸ List.mem_map_of_mem hp)) (S.ow p hp) e, S.nd⟩
    ow := fun p hp => by
      rcases List.mem_cons.mp hp with rfl | hp
      · exact ⟨_, n1, rfl⟩
      · exact (S.ow p hp).keep (ne _ fun e => S.oL (e ▸ List.mem_map_of_mem hp))
    kn := fun c C h => (S.kn c C h).keep (ne _ fun e => S.kL C (e ▸ h))
    hi := fun c C h => (S.hi c C h).keep (ne _ fun e => S.hL C (e ▸ h))
    oL := fun h => by
      rcases List.mem_cons.mp h with e | h
      · exact n2 e.symm
      · exact S.oL h
    kL := S.kL
    hL := S.hL
    ok := fun c C h hm => by
      rcases List.mem_cons.mp hm with e | hm
      · exact ap c C (fun e => S.kL C (e ▸ h)) (S.kn c C h) e
      · exact S.ok c C h hm
    oh := fun c C h hm => by
      rcases List.mem_cons.mp hm with e | hm
      · exact ap c C (fun e => S.hL C (e ▸ h)) (S.hi c C h) e
      · exact S.oh c C h hm
    kh := S.kh
    hf := S.hf
    og := fun p hp => by
      rcases List.mem_cons.mp hp with rfl | hp
      · obtain ⟨o₁, e, _⟩ := S.ow p₀ hp₀
        exact Nat.le_trans (S.og p₀ hp₀) (Nat.le_of_lt (lt (p₀.1, o₁) (mem_others.mpr ⟨fun e => S.oL (e ▸ List.mem_map_of_mem hp₀), fun e => S.oL (e ▸ List.mem_map_of_mem hp₀), S.ob hp₀, e⟩)))
      · exact S.og p hp
    ka := S.ka, lo := S.lo
    le := S.le, gens := S.gens, os := S.os }
theorem St.newsL (S : St b hid L m κ₀ κ own s) : News b.base L s.heap (others b.base s.heap L L) := fun p hp => by
  obtain ⟨h1, h2, h3, h4⟩ := mem_others.mp (show (p.1, p.2) ∈ _ from hp)
  exact ⟨h4, h1, h3⟩

theorem call_sup (rb : List (Str × Value)) {name qual : Str} {params : Arguments} {body : List Stmt} {scope : Scope} {dV kV doc pm cdv ct oc : Value} {an od : Option Addr} {osl : Array (Option Value)} {f cc : Addr} {args : List Value} {Q : Value → Shared → Prop}
    (G : Gd b) (C : Cx b (lv + 1) A L hid frs) (S : St b hid L m κ₀ κ (ex ++ own) s)
    (ho : (kk.heap_1 b.w.params).lookup f = some ⟨oc, od, .func (ksFn name qual params body scope dV kV doc pm an cdv ct cc), osl⟩) (hcd : codeIn (kk.heap_1 b.w.params) cdv qual = true)
    (hbind : BindsTo s (ksFn name qual params body scope dV kV doc pm an cdv ct cc) ⟨args, []⟩ rb.reverse) (hloc : ∀ y ∈ rb.reverse, scope.names.lookup y.1 = some .local)
    (hco : scope.isCoroutine = false) (hgen : scope.isGenerator = false) (hk : scope.kind = .function) (hcell : ∀ x ∈ scope.names, x.2 ≠ .cell)
    (h : ∀ L' hid' s' A' env', env' = ksEnv qual scope L' f cdv cc → EnvIs env' scope L' [("__class__", cc)] → A' = A.deeper env' → Cx b lv A' L' hid' (env' :: frs) → St b hid' L' (fun y => rb.lookup y) κ κ own s' →
      Ret b hid' L' hid L m κ₀ κ ex frs →
      PySem.wpAt (model b.prog b.w) A' (.func body env') (execs body env') (RetK Q) (ExcK (model b.prog b.w) A' env' E) s') :
    CallC b A f args Q E s := by
  have X : (kk.heap_1 b.w.params).In s.heap := G.K.keeps S.bs
  obtain ⟨_, _, _, _, _, T⟩ := G.T.top
  refine ks_codeAny_call_defAt (fd := ksFn name qual params body scope dV kV doc pm an cdv ct cc) (body := body) (binds := rb.reverse) (by have := C.dp; show A.depth < 1000; omega) (X _ _ ho) rfl (T.nolimit.keeps S.bs) (codeRec_of X hcd) rfl hbind hcell hloc (fun h₁ hns hk₁ => ?_) hco hgen hk
  exact h _ _ _ _ _ rfl ⟨rfl, rfl, rfl, rfl, rfl⟩ rfl (C.enterE S rfl hk) (S.enter (by rwa [List.reverse_reverse] at hns) hk₁) ⟨fun S' => S.leave S', fun F => F.leave S⟩

/-- super().name(args) -/
theorem R_sup {body : List Stmt} {q : Str} {scope : Scope} {p0 p1 apos pos : Pos} {name : Str} {args : List Expr} {fd : FuncData} {ar : Arg} {vs : Array Value} {tf : Tok} {oc ccl cl : Value} {od cdd cld : Option Addr} {osl ccs csl : Array (Option Value)} {cdD : ClassData}
    {f cda cc x C d D f2 : Addr} {l : List (Str × Value)} {pl : Sem Bool} {Q : Value → Shared → Prop}
    (G : Gd b) (S : St b hid L m κ₀ κ own s) (hE : env = ksEnv q scope L f (.ref cda) cc) (kx : (x, .inst C d) ∈ own) (kd : Has κ own d (.attrs C l))
    (hf : (kk.heap_1 b.w.params).lookup f = some ⟨oc, od, .func fd, osl⟩) (hp : (fd.params.posonlyargs ++ fd.params.args).head? = some ar) (hv : m ar.arg = some (.ref x))
    (hcode : (kk.heap_1 b.w.params).lookup cda = some ⟨ccl, cdd, .fields vs, ccs⟩) (hvs : vs[2]? = some (.str "/claim/cut.py" tf))
    (hcell : (kk.heap_1 b.w.params).lookup cc = some ⟨cl, cld, .cell (some (.ref D)), csl⟩) (hD : clsIn (kk.heap_1 b.w.params) D = some cdD) (hsub : mroIn (kk.heap_1 b.w.params) C (.ref D) = some true) (hsuper : nsIn (kk.heap_1 b.w.params) mainGlobals "super" = some none)
    (hat : (name == ("__class__" : Str)) = false) (hks : scope.names.lookup ("super" : Str) = some .globalImplicit) (hkc : scope.names.lookup ("__class__" : Str) = some .free) (hka : scope.names.lookup ar.arg = some .local) (hk : scope.kind = .function)
    (hboot : bootBuiltins "super" = some (.type "super"))
    (hno : nsIn (kk.heap_1 b.w.params) cStatics "thirdparty.any" = some none) (hm : ks_superIn (kk.heap_1 b.w.params) C D name = some (some (.ref f2))) (ht : typeIn (kk.heap_1 b.w.params) (.ref f2) = some (.type "function")) (hfn : fnIn (kk.heap_1 b.w.params) f2 = true)
    (hcall : eval (.Call (.Attribute (.Call (.Name "super" p0) [] [] p1) name apos) args [] pos) env = (do
      let ov ← attributeBase (.Call (.Name "super" p0) [] [] p1) name env (eval (.Call (.Name "super" p0) [] [] p1) env)
      standAt apos.atName
      let (f, first) ← holding [ov] (getMethod ov name pl)
      callWith pos f first (backTo pos (starEach args env)) []))
    (h : (args = [] ∧ ∀ s', St b hid L m κ₀ κ own s' → CallC b A f2 [.ref x] Q E s') ∨
      (∃ e rest, args = e :: rest ∧ starEach (e :: rest) env = (false, eval e env) :: starEach rest env ∧ (backTo pos (starEach rest env)).any (·.1) = false ∧
        ∀ s' q', St b hid L m κ₀ κ ((q', .obj (methodObj (.ref f2) (.ref x))) :: own) s' → wpAny (model b.prog b.w) A (spliced (backTo pos (starEach args env))) (fun vs s₁ => ∃ m' κ' own', St b hid L m' κ₀ κ' ((q', .obj (methodObj (.ref f2) (.ref x))) :: own') s₁ ∧
          (St b hid L m' κ₀ κ' own' s₁ → CallC b A f2 (.ref x :: vs) Q E s₁)) E s')) :
    PySem.wpAt (model b.prog b.w) A (.func body env) (eval (.Call (.Attribute (.Call (.Name "super" p0) [] [] p1) name apos) args [] pos) env) Q E s := by
  obtain ⟨_, _, _, _, _, T⟩ := G.T.top
  obtain ⟨es, n, X, ed, I⟩ := S.inst (.inl kx) kd
  refine ks_wpAt_MethodCall (pl := pl) ?_ hcall
  subst hE
  refine ks_node S.fr G.K S.newsL T hf hp hv I hcode hvs G.file hcell hD hsub hsuper hat hks hkc hka hk G.sup hboot fun so h' F' N' lt => ?_
  have S1 := S.grownN (t := s.toks) F' N' lt kx
  obtain ⟨es', n', X', ed', I'⟩ := S1.inst (.inl (.tail _ kx)) kd.tail
  have hN := S1.newsL
  have hso : (so, ks_superObj D x C) ∈ others b.base h' L L := mem_others.mpr ⟨fun e => S1.oL (e ▸ List.mem_cons_self), fun e => S1.oL (e ▸ List.mem_cons_self), S1.ob (p := (so, .obj (ks_superObj D x C))) (.head _), by
    obtain ⟨o, e, rfl⟩ := S1.ow _ (.head _); exact e⟩
  refine ks_method S1.fr G.K hN hso I' hno hm ht hat fun q' h'' F'' N'' lt' => ?_
  have S2 := (S1.grownN (t := s.toks + 1) F'' N'' lt' (.head _)).drop (own' := (q', .obj (methodObj (.ref f2) (.ref x))) :: own) (.cons_cons _ (.cons _ (.refl _)))
  have fin : ∀ {vs s₁}, (∃ m' κ' own', St b hid L m' κ₀ κ' ((q', .obj (methodObj (.ref f2) (.ref x))) :: own') s₁ ∧ (St b hid L m' κ₀ κ' own' s₁ → CallC b A f2 (.ref x :: vs) Q E s₁)) →
      MethP (kk.heap_1 b.w.params) q' f2 (.ref x) s₁.heap ∧ wpAny (model b.prog b.w) A (call (.ref q') vs) Q E s₁ := by
    rintro vs s₁ ⟨m', κ', own', S₃, hc⟩
    obtain ⟨o, e, rfl⟩ := S₃.ow _ (.head _)
    exact ⟨⟨e, G.K.keeps S₃.bs⟩, wpAny_call (method_call e (hc (S₃.drop (List.sublist_cons_self _ _))))⟩
  rcases h with ⟨rfl, h⟩ | ⟨e, rest, rfl, he, hpl, h⟩
  · obtain ⟨o, e, rfl⟩ := S2.ow _ (.head _)
    exact callWith_M0 ⟨e, G.K.keeps S2.bs⟩ hfn (wpAny_call (method_call e (h _ (S2.drop (List.sublist_cons_self _ _)))))
  · exact callWith_M G.K N'' (.head _) hfn (wpAny_mono (h _ _ S2) (fun vs s₁ h₁ => fin h₁) fun _ _ e => e) he hpl
end
abbrev pAttrs (n : Int) (t1 t2 : Tok) (ctl : Addr) (r : List (Str × Value)) : List (Str × Value) := ("status", .int n t1) :: ("wish", .str "" t2) :: ("has_lac", .bool false) :: ("control", .ref ctl) :: r
noncomputable def PExtN (n : Int) (x : List (Str × Value)) : Prop := ∃ (t1 t2 : Tok) (ctl : Addr), x = pAttrs n t1 t2 ctl [] ∨ x = pAttrs n t1 t2 ctl [("is_tried", .bool false)]
noncomputable def parserV : Virt := { cls := 734, ext := PExtN 0, ext2 := fun x => ∃ n, PExtN n x, weak := true, begin := 657, look := 665, isest := 679, shift := 687, act := 694, goon := 702, expected := 710, fail := 717 }
theorem parserV_c : CoreC 734 parserV := coreC_of fun p hp P => by
  simp only [coreTbl, parserV, List.mem_cons, List.not_mem_nil, or_false] at hp
  rcases hp with rfl | rfl | rfl | rfl | rfl | rfl | rfl | rfl | rfl | rfl | rfl | rfl | rfl | rfl | rfl | rfl | rfl | rfl | rfl | rfl <;> exact ⟨by kernel_rfl, by kernel_rfl⟩
theorem parserV_f : VirtFn parserV := ⟨fun P => ⟨by kernel_rfl, by kernel_rfl⟩, fun P => ⟨by kernel_rfl, by kernel_rfl⟩, fun P => ⟨by kernel_rfl, by kernel_rfl⟩, fun P => ⟨by kernel_rfl, by kernel_rfl⟩, fun P => ⟨by kernel_rfl, by kernel_rfl⟩, fun P => ⟨by kernel_rfl, by kernel_rfl⟩, fun P => ⟨by kernel_rfl, by kernel_rfl⟩, fun P => ⟨by kernel_rfl, by kernel_rfl⟩⟩
theorem noMeth_of {l : List (Str × Value)} (h : meths.all (fun n => (l.lookup n).isNone) = true) (hl : l.length ≤ 20) : NoMeth l := ⟨fun n hn => by
  have := List.all_eq_true.mp h n (by simpa using hn)
  simpa using this, hl⟩
theorem PExtN.noMeth {n : Int} {x : List (Str × Value)} (h : PExtN n x) : NoMeth x := by
  obtain ⟨t1, t2, ctl, h | h⟩ := h
  · subst h; exact noMeth_of rfl (by simp)
  · subst h; exact noMeth_of rfl (by simp)
theorem parserV_x : VirtX parserV := ⟨fun x h => ⟨0, h⟩, fun x ⟨n, h⟩ => h.noMeth⟩
theorem parserV_nm : NoM parserV.ext := fun x h => PExtN.noMeth h
section
variable {b : Bs} {lv : Nat} {A : Around} {E : Value → Shared → Prop} {s : Shared} {hid : Kw} {L : Addr} {m m' : Str → Option Value} {κ₀ κ : Kw} {ex own own' : List (Addr × AObj)} {frs : List Env} {env : Env} {M : MCx} {vt : Virt} {cf : Cfg} {flts : List Flt}
set_option maxHeartbeats 2000000
theorem par_begin {Q : Value → Shared → Prop} (G : Gd b) (C : Cx b (lv + 3) A L hid frs) (nm : NoM M.ext) (hC : M.C = 734) (hX : M.ext = PExtN 0) (S : St b hid L m κ₀ κ (ex ++ own) s) (H : Mach κ M cf flts own)
    (ok : ∀ s' own', St b hid L m κ₀ κ (ex ++ own') s' → Mach κ { M with ans := "more", val := .none } cfg0 [] own' → Q .none s') : wpAny (model b.prog b.w) A (call (.ref 657) [.ref M.c]) Q E s := by
  have H' := H
  obtain ⟨T, kinds, Cl, c, tb, hd, most, ext, ans, val⟩ := M
  dsimp only at *
  obtain ⟨extra, hx, d, ln, sl, vl, fl, mv, tm, tc, ta, D, sts, vals, mvs, lk, X, ho, hi, hw, hm, hl, hk⟩ := H
  dsimp only at *
  subst ho
  have nmx := nm _ hx
  subst hC hX
  refine (call_sup [("self", .ref c)] G C S (by k_is) (by k_is) (BindsTo.of_eq rfl) (locs rfl) rfl rfl rfl (by decide) fun L' hid' s' A' env' hE hI hA C' S' ret => ?_).go
  subst hE
  refine ks_wpAt_execs_cons (ks_wpAt_Expr_any ?_)
  k_extra "sup"
  refine .inl ⟨rfl, fun s₂ S₂ => ?_⟩
  refine core_begin (ex := []) G C' nm (St.nil S₂) H' fun s₃ own₃ S₃ H₃ => ?_
  refine PySem.wpAt_of_wpAny ?_
  obtain ⟨extra, ⟨t1, t2, ctl, hx | hx⟩, d, ln, sl, vl, fl, mv, tm, tc, ta, D, sts, vals, mvs, lk, X, rfl, hi, hw, hm, hl, hk⟩ := H₃
  · subst hx
    dsimp only at *
    repeat' k_extra "z"
    exact ok _ _ (ret.st (by assumption)) ⟨_, ⟨_, _, ctl, .inl rfl⟩, d, ln, sl, vl, fl, mv, tm, tc, ta, D, sts, vals, mvs, lk, X, rfl, hi, hw, hm, hl, hk⟩
  · subst hx
    dsimp only at *
    repeat' k_extra "z"
    exact ok _ _ (ret.st (by assumption)) ⟨_, ⟨_, _, ctl, .inr rfl⟩, d, ln, sl, vl, fl, mv, tm, tc, ta, D, sts, vals, mvs, lk, X, rfl, hi, hw, hm, hl, hk⟩
end
section
variable {b : Bs} {lv : Nat} {A : Around} {E : Value → Shared → Prop} {s : Shared} {hid : Kw} {L : Addr} {m m' : Str → Option Value} {κ₀ κ : Kw} {ex own own' : List (Addr × AObj)} {frs : List Env} {env : Env} {M : MCx} {vt : Virt} {cf : Cfg} {flts : List Flt}
set_option maxHeartbeats 2000000
theorem par_begin_init {c d tb hd ln : Addr} {most : Int} {tm : Tok} {Q : Value → Shared → Prop} (G : Gd b) (C : Cx b (lv + 3) A L hid frs)
    (S : St b hid L m κ₀ κ (ex ++ (c, .inst 734 d) :: (d, .attrs 734 [("tables", .ref tb), ("handler", .ref hd), ("most", .int most tm), ("lone", .ref ln)]) :: (ln, .tabI []) :: own) s)
    (ok : ∀ s' sl vl fl mv t tc ta t1 t2, St b hid L m κ₀ κ (ex ++ (c, .inst 734 d) :: (d, .attrs 734 (attrL tb hd most tm ln sl vl .none 0 tc "more" ta .none fl mv [("status", .int 0 t1), ("wish", .str "" t2)])) :: (ln, .tabI []) :: (sl, .list [.int 0 t]) :: (vl, .list []) :: (fl, .list []) :: (mv, .list []) :: own) s' → Q .none s') :
    wpAny (model b.prog b.w) A (call (.ref 657) [.ref c]) Q E s := by
  refine (call_sup [("self", .ref c)] G C S (by k_is) (by k_is) (BindsTo.of_eq rfl) (locs rfl) rfl rfl rfl (by decide) fun L' hid' s' A' env' hE hI hA C' S' ret => ?_).go
  subst hE
  refine ks_wpAt_execs_cons (ks_wpAt_Expr_any ?_)
  k_extra "sup"
  refine .inl ⟨rfl, fun s₂ S₂ => ?_⟩
  refine core_begin_init (ex := []) G C' ⟨fun P => by kernel_rfl, fun P => by kernel_rfl, fun P => by kernel_rfl, fun P => by kernel_rfl, fun P => by kernel_rfl, fun P => by kernel_rfl, fun P => by kernel_rfl, fun P => by kernel_rfl⟩ (St.nil S₂) fun s₃ sl vl fl mv t tc ta S₃ => ?_
  rw [List.nil_append] at S₃
  refine PySem.wpAt_of_wpAny ?_
  repeat' k_extra "z"
  exact ok _ _ _ _ _ _ _ _ _ _ (ret.st (by assumption))
theorem par_look {Y : List (Addr × AObj)} {tok : Addr} {Q : Value → Shared → Prop} (G : Gd b) (C : Cx b (lv + 3) A L hid frs) (nm : NoM M.ext) (hC : M.C = 734) (hX : M.ext = PExtN 0) (S : St b hid L m κ₀ κ (ex ++ (Y ++ own)) s) (H : Mach κ M cf flts own)
    (hs : cf.seen = false) (tk : TokH κ Y tok (kindAt M.kinds cf.spot) (worthAt M.kinds cf.spot))
    (ok : ∀ s' own', St b hid L m κ₀ κ (ex ++ own') s' → Mach κ M { cf with seen := true } flts own' → Q .none s') : wpAny (model b.prog b.w) A (call (.ref 665) [.ref M.c, .ref tok]) Q E s := by
  obtain ⟨own₁, hp, H₁, -⟩ := H.absorb Y
  obtain ⟨T, kinds, Cl, c, tb, hd, most, ext, ans, val⟩ := M
  dsimp only at *
  subst hC hX
  have H' := H
  obtain ⟨extra, hx, d, ln, sl, vl, fl, mv, tm, tc, ta, D, sts, vals, mvs, lk, X, rfl, hi, hw, hm, hl, hk⟩ := H
  dsimp only at *
  refine (call_sup [("token", .ref tok), ("self", .ref c)] G C S (by k_is) (by k_is) (BindsTo.of_eq rfl) (locs rfl) rfl rfl rfl (by decide) fun L' hid' s' A' env' hE hI hA C' S' ret => ?_).go
  subst hE
  refine ks_wpAt_execs_cons (ks_wpAt_Expr_any ?_)
  have hc : ((c, .inst 734 d) : Addr × AObj) ∈ Y ++ (c, .inst 734 d) :: (d, .attrs 734 (attrL tb hd most tm ln sl vl lk cf.cnt tc ans ta val fl mv extra)) :: (ln, .tabI D) :: (sl, .list sts) :: (vl, .list vals) :: (fl, .list (flts.map Prod.fst)) :: (mv, .list mvs) :: X := List.mem_append_right _ (.head _)
  have hd' : Has κ (Y ++ (c, .inst 734 d) :: (d, .attrs 734 (attrL tb hd most tm ln sl vl lk cf.cnt tc ans ta val fl mv extra)) :: (ln, .tabI D) :: (sl, .list sts) :: (vl, .list vals) :: (fl, .list (flts.map Prod.fst)) :: (mv, .list mvs) :: X) d (.attrs 734 (attrL tb hd most tm ln sl vl lk cf.cnt tc ans ta val fl mv extra)) := .inl (List.mem_append_right _ (.tail _ (.head _)))
  k_extra "sup"
  refine .inr ⟨_, _, rfl, rfl, rfl, fun s₂ q' S₂ => ?_⟩
  repeat' k_extra "z"
  refine ⟨_, _, _, by assumption, fun S₃ => ?_⟩
  refine look_spec (ex := []) (Y := Y) G nm C' S₃ H' hs tk fun s₃ own₃ S₃ H₃ => ?_
  refine PySem.wpAt_of_wpAny ?_
  obtain ⟨extra, ⟨t1, t2, ctl, hx | hx⟩, d, ln, sl, vl, fl, mv, tm, tc, ta, D, sts, vals, mvs, lk, X, rfl, hi, hw, hm, hl, hk⟩ := H₃
  · subst hx
    dsimp only at *
    repeat' k_extra "z"
    exact ok _ _ (ret.st (by assumption)) ⟨_, ⟨_, _, ctl, .inr rfl⟩, d, ln, sl, vl, fl, mv, tm, tc, ta, D, sts, vals, mvs, lk, X, rfl, hi, hw, hm, hl, hk⟩
  · subst hx
    dsimp only at *
    repeat' k_extra "z"
    exact ok _ _ (ret.st (by assumption)) ⟨_, ⟨_, _, ctl, .inr rfl⟩, d, ln, sl, vl, fl, mv, tm, tc, ta, D, sts, vals, mvs, lk, X, rfl, hi, hw, hm, hl, hk⟩
theorem par_isest {k : Value} {Q : Value → Shared → Prop} (G : Gd b) (C : Cx b (lv + 1) A L hid frs) (hX : M.ext = PExtN 0) (S : St b hid L m κ₀ κ (ex ++ own) s) (H : Mach κ M cf flts own)
    (ok : ∀ s', St b hid L m κ₀ κ (ex ++ own) s' → Q (.bool true) s') : wpAny (model b.prog b.w) A (call (.ref 679) [.ref M.c, k]) Q E s := by
  obtain ⟨T, kinds, Cl, c, tb, hd, most, ext, ans, val⟩ := M
  dsimp only at *
  subst hX
  obtain ⟨extra, ⟨t1, t2, ctl, hx | hx⟩, d, ln, sl, vl, fl, mv, tm, tc, ta, D, sts, vals, mvs, lk, X, rfl, hi, hw, hm, hl, hk⟩ := H
  all_goals
    subst hx
    refine call_cx [("terminal", k), ("self", .ref c)] G C S (by k_is) (by k_is) (BindsTo.of_eq rfl) (locs rfl) rfl rfl rfl (by decide) fun L' hid' s' A' env' hE hI hA C' S' ret => ?_
    repeat' k_extra "z"
    exact ok _ (ret.st (by assumption))
theorem par_shift {g : Int} {t : Tok} {Q : Value → Shared → Prop} (G : Gd b) (C : Cx b (lv + 9) A L hid frs) (K : MK κ M vt) (hC : M.C = 734) (hX : M.ext = PExtN 0) (S : St b hid L m κ₀ κ (ex ++ own) s) (H : Mach κ M cf flts own) (O : cf.Ok M.T M.most) (hs : cf.seen = true)
    (ok : ∀ s' own', (cf.moves.length : Int) < M.most → St b hid L m κ₀ κ (ex ++ own') s' → Mach κ M (cf.shifted M.kinds g) flts own' → Q .none s')
    (exc : ∀ s' own' e, M.most ≤ cf.moves.length → Fly b hid L m κ₀ κ (ex ++ own') frs e s' → Mach κ M cf flts own' → E (.ref e) s') :
    wpAny (model b.prog b.w) A (call (.ref 687) [.ref M.c, .int g t]) Q E s := by
  have H' := H
  obtain ⟨T, kinds, Cl, c, tb, hd, most, ext, ans, val⟩ := M
  dsimp only at *
  subst hC hX
  obtain ⟨extra, hx, d, ln, sl, vl, fl, mv, tm, tc, ta, D, sts, vals, mvs, lk, X, rfl, hi, hw, hm, hl, hk⟩ := H
  dsimp only at *
  refine (call_sup [("goal", .int g t), ("self", .ref c)] G C S (by k_is) (by k_is) (BindsTo.of_eq rfl) (locs rfl) rfl rfl rfl (by decide) fun L' hid' s' A' env' hE hI hA C' S' ret => ?_).go
  subst hE
  refine ks_wpAt_execs_cons (ks_wpAt_Expr_any ?_)
  k_extra "sup"
  refine .inr ⟨_, _, rfl, rfl, rfl, fun s₂ q' S₂ => ?_⟩
  repeat' k_extra "z"
  refine ⟨_, _, _, by assumption, fun S₃ => ?_⟩
  refine core_shift (ex := []) G C' K (St.nil S₃) H' O hs (fun s₄ own₄ hlt S₄ H₄ => ?_) fun s₄ own₄ e hge F H₄ => ?_
  · refine PySem.wpAt_of_wpAny ?_
    have H₄' := H₄
    obtain ⟨extra, ⟨t1, t2, ctl, hx | hx⟩, d, ln, sl, vl, fl, mv, tm, tc, ta, D, sts, vals, mvs, lk, X, rfl, hi, hw, hm, hl, hk⟩ := H₄
    all_goals
      subst hx
      dsimp only at *
      repeat' k_extra "z"
      exact ok _ _ hlt (ret.st (by assumption)) H₄'
  · exact R_leaveOn C' rfl F fun s₅ F₅ => exc _ _ _ hge (ret.fly F₅) H₄
end
section
variable {b : Bs} {lv : Nat} {A : Around} {E : Value → Shared → Prop} {s : Shared} {hid : Kw} {L : Addr} {m m' : Str → Option Value} {κ₀ κ : Kw} {ex own own' : List (Addr × AObj)} {frs : List Env} {env : Env} {M : MCx} {vt : Virt} {cf : Cfg} {flts : List Flt}
set_option maxHeartbeats 2000000
theorem par_act {r : Value} {l : Addr} {us : List Value} {Q : Value → Shared → Prop} (G : Gd b) (C : Cx b (lv + 2) A L hid frs) (K : MK κ M vt) (hX' : M.ext = PExtN 0) (S : St b hid L m κ₀ κ (ex ++ own) s) (H : Mach κ M cf flts own)
    (k : Has κ own l (.list us)) (hz : us.length ≤ 1000) (ok : ∀ s', St b hid L m κ₀ κ (ex ++ own) s' → Q (us.headD .none) s') : wpAny (model b.prog b.w) A (call (.ref 694) [.ref M.c, r, .ref l]) Q E s := by
  obtain ⟨cN, vf, nm, tk, to, m0, ⟨hdd, hk1, hk2⟩, hC, hX, kd⟩ := K
  obtain ⟨T, kinds, Cl, c, tb, hd, most, ext, ans, val⟩ := M
  dsimp only at *
  clear hX
  subst hX'
  obtain ⟨extra, ⟨t1, t2, ctl, hx | hx⟩, d, ln, sl, vl, fl, mv, tm, tc, ta, D, sts, vals, mvs, lk, X, rfl, hi, hw, hm, hl, hk⟩ := H
  all_goals
    subst hx
    refine call_cx [("values", .ref l), ("rule", r), ("self", .ref c)] G C S (by k_is) (by k_is) (BindsTo.of_eq rfl) (locs rfl) rfl rfl rfl (by decide) fun L' hid' s' A' env' hE hI hA C' S' ret => ?_
    repeat' k_extra "z"
    refine hreduce_spec G C' (by assumption) k hz fun _ _ => ?_
    repeat' k_extra "z"
    exact ok _ (ret.st (by assumption))
theorem par_expected {Q : Value → Shared → Prop} (G : Gd b) (C : Cx b (lv + 6) A L hid frs) (K : MK κ M vt) (hC : M.C = 734) (hX : M.ext = PExtN 0) (S : St b hid L m κ₀ κ (ex ++ own) s) (H : Mach κ M cf flts own) (O : cf.Ok M.T M.most)
    (ok : ∀ s' f vs, St b hid L m κ₀ κ (ex ++ (f, .list vs) :: own) s' → IntsAre vs (expUpto (M.T.row cf.top) 5) → Q (.ref f) s') : wpAny (model b.prog b.w) A (call (.ref 710) [.ref M.c]) Q E s := by
  have H' := H
  obtain ⟨T, kinds, Cl, c, tb, hd, most, ext, ans, val⟩ := M
  dsimp only at *
  subst hC hX
  obtain ⟨extra, ⟨t1, t2, ctl, hx | hx⟩, d, ln, sl, vl, fl, mv, tm, tc, ta, D, sts, vals, mvs, lk, X, rfl, hi, hw, hm, hl, hk⟩ := H
  all_goals
    subst hx
    dsimp only at *
    refine (call_sup [("self", .ref c)] G C S (by k_is) (by k_is) (BindsTo.of_eq rfl) (locs rfl) rfl rfl rfl (by decide) fun L' hid' s' A' env' hE hI hA C' S' ret => ?_).go
    subst hE
    refine ks_wpAt_execs_cons (PySem.wpAt_of_wpAny ?_)
    repeat' k_extra "z"
    refine ks_wpAt_execs_cons (ks_wpAt_Return_some ?_)
    k_extra "sup"
    refine .inl ⟨rfl, fun s₂ S₂ => ?_⟩
    refine core_expected (ex := []) G C' K (St.nil S₂) H' O fun s₃ f vs S₃ hv => ?_
    repeat k_extra "za"
    exact ok _ _ _ (ret.st S₃) hv
theorem par_goon {r : Int} {t : Tok} {v : Value} {w : Option Str} {Q : Value → Shared → Prop} (G : Gd b) (C : Cx b (lv + 10) A L hid frs) (K : MK κ M vt) (hC : M.C = 734) (hX : M.ext = PExtN 0) (S : St b hid L m κ₀ κ (ex ++ own) s) (H : Mach κ M cf flts own)
    (hlen : cf.stack.length = cf.worths.length + 1) (hsz : cf.worths.length ≤ 100) (hst : ∀ a ∈ cf.stack, 0 ≤ a ∧ a < M.T.rows.length) (hr : 0 < r) (hr' : r ≤ M.T.rules.length) (hv : WorthIs v w)
    (ok : ∀ s' own', 0 ≤ M.T.goto cf.top (M.T.rule r).1 → St b hid L m κ₀ κ (ex ++ own') s' → Mach κ M (cf.gone (M.T.goto cf.top (M.T.rule r).1) w) flts own' → Q .none s')
    (exc : ∀ s' own' e, M.T.goto cf.top (M.T.rule r).1 < 0 → Fly b hid L m κ₀ κ (ex ++ own') frs e s' → Mach κ M cf flts own' → E (.ref e) s') :
    wpAny (model b.prog b.w) A (call (.ref 702) [.ref M.c, .int r t, v]) Q E s := by
  obtain ⟨T, kinds, Cl, c, tb, hd, most, ext, ans, val⟩ := M
  dsimp only at *
  subst hC hX
  obtain ⟨extra, ⟨t1, t2, ctl, hx | hx⟩, d, ln, sl, vl, fl, mv, tm, tc, ta, D, sts, vals, mvs, lk, X, rfl, hi, hw, hm, hl, hk⟩ := H
  all_goals
    subst hx
    dsimp only at *
    refine (call_sup [("value", v), ("rule", .int r t), ("self", .ref c)] G C S (by k_is) (by k_is) (BindsTo.of_eq rfl) (locs rfl) rfl rfl rfl (by decide) fun L' hid' s' A' env' hE hI hA C' S' ret => ?_).go
    subst hE
    refine ks_wpAt_execs_cons (PySem.wpAt_of_wpAny ?_)
    repeat' k_extra "z"
    refine ks_wpAt_execs_cons (PySem.wpAt_of_wpAny ?_)
    repeat' k_extra "z"
    refine ks_wpAt_execs_cons (ks_wpAt_If (PySem.wpAt_of_wpAny ?_))
    repeat' k_extra "z"
    refine ks_wpAt_execs_cons (ks_wpAt_If (PySem.wpAt_of_wpAny ?_))
    repeat' k_extra "z"
    refine ks_wpAt_execs_cons (ks_wpAt_If (PySem.wpAt_of_wpAny ?_))
    repeat' k_extra "z"
    refine ks_wpAt_execs_cons (ks_wpAt_Expr_any ?_)
    k_extra "sup"
    refine .inr ⟨_, _, rfl, rfl, rfl, fun s₂ q' S₂ => ?_⟩
    repeat' k_extra "z"
    refine ⟨_, _, _, by assumption, fun S₃ => ?_⟩
  · refine core_goon (ex := []) G C' K (St.nil S₃) ⟨_, ⟨_, _, ctl, .inl rfl⟩, d, ln, sl, vl, fl, mv, tm, tc, ta, D, sts, vals, mvs, lk, X, rfl, hi, hw, hm, hl, hk⟩ hlen hsz hst hr hr' hv (fun s₄ own₄ hg S₄ H₄ => ?_) fun s₄ own₄ e hg F H₄ => ?_
    · repeat k_extra "za"
      exact ok _ _ hg (ret.st S₄) H₄
    · exact R_leaveOn C' rfl F fun s₅ F₅ => exc _ _ _ hg (ret.fly F₅) H₄
  · refine core_goon (ex := []) G C' K (St.nil S₃) ⟨_, ⟨_, _, ctl, .inr rfl⟩, d, ln, sl, vl, fl, mv, tm, tc, ta, D, sts, vals, mvs, lk, X, rfl, hi, hw, hm, hl, hk⟩ hlen hsz hst hr hr' hv (fun s₄ own₄ hg S₄ H₄ => ?_) fun s₄ own₄ e hg F H₄ => ?_
    · repeat k_extra "za"
      exact ok _ _ hg (ret.st S₄) H₄
    · exact R_leaveOn C' rfl F fun s₅ F₅ => exc _ _ _ hg (ret.fly F₅) H₄
end
theorem Mv.is_pop (r : Int) (t u : Tok) : Mv.is (.pop r) [.str "pop" t, .int r u] := ⟨t, u, rfl⟩
theorem ints_init {vs : List Value} {ns : List Int} (h : IntsAre vs ns) : IntsAre vs.dropLast ns.dropLast := by
  rw [List.dropLast_eq_take, List.dropLast_eq_take, h.length]; exact ints_take h _
theorem All2.init {α β : Type} {F : α → β → Prop} {l : List α} {r : List β} (h : All2 F l r) : All2 F l.dropLast r.dropLast := by
  rw [List.dropLast_eq_take, List.dropLast_eq_take, h.length]; exact h.take _
noncomputable def Cfg.pop (c : Cfg) : Cfg := { c with stack := c.stack.dropLast, worths := c.worths.dropLast, moves := c.moves ++ [.pop c.top] }
theorem Cfg.Ok.pop {T : TabD} {most : Int} {c : Cfg} (O : c.Ok T most) (h : (c.moves.length : Int) < most) (h1 : c.stack.length ≠ 1) : c.pop.Ok T most := by
  have l1 := O.len
  have l2 := O.wl
  refine ⟨?_, fun a ha => O.sts a (List.dropLast_subset _ ha), ?_, ?_⟩
  · show c.stack.dropLast.length = c.worths.dropLast.length + 1
    rw [List.length_dropLast, List.length_dropLast]; omega
  · show ((c.moves ++ [_]).length : Int) ≤ most
    rw [List.length_append, List.length_singleton]; omega
  · show c.worths.dropLast.length ≤ (c.moves ++ [_]).length
    rw [List.length_dropLast, List.length_append]; omega
abbrev isTried : List (Str × Value) := [(Str.ofString "is_tried", .bool false)]
section
variable {b : Bs} {lv : Nat} {A : Around} {E : Value → Shared → Prop} {s : Shared} {hid : Kw} {L : Addr} {m m' : Str → Option Value} {κ₀ κ : Kw} {ex own own' : List (Addr × AObj)} {frs : List Env} {env : Env} {M : MCx} {vt : Virt} {cf : Cfg} {flts : List Flt}
set_option maxHeartbeats 4000000
theorem error_goal_spec {Q : Value → Shared → Prop} (G : Gd b) (C : Cx b (lv + 2) A L hid frs) (nm : NoM M.ext) (TK : TabK κ M.tb M.T) (to : M.T.Ok) (S : St b hid L m κ₀ κ (ex ++ own) s) (H : Mach κ M cf flts own) (O : cf.Ok M.T M.most)
    (ok : ∀ s' t, St b hid L m κ₀ κ (ex ++ own) s' → Q (.int 0 t) s') : wpAny (model b.prog b.w) A (call (.ref 731) [.ref M.c]) Q E s := by
  obtain ⟨pre, hpre, htop⟩ := O.top
  obtain ⟨T, kinds, Cl, c, tb, hd, most, ext, ans, val⟩ := M
  dsimp only at *
  obtain ⟨extra, hx, d, ln, sl, vl, fl, mv, tm, tc, ta, D, sts, vals, mvs, lk, X, ho, hi, hw, hm, hl, hk⟩ := H
  dsimp only at *
  subst ho
  have nmx := nm _ hx
  have TK' := TK
  obtain ⟨td, ls, lns, bfs, dfs, nms, gr, rws, gts, cf', se, t5, tm', lsv, lnv, bfv, dfv, rwv, gtv, k1, k2, -⟩ := TK'
  rw [hpre] at hi
  obtain ⟨us, tt, rfl, hi'⟩ := ints_last hi
  obtain ⟨a1, a2, a3, a4, a5, -⟩ := to.at htop.1 htop.2
  have herr : (T.row cf.top)[(1 : Int).toNat]? = some 0 := to.err _ (List.mem_of_getElem? a1)
  refine call_cx [("self", .ref c)] G C S (by k_is) (by k_is) (BindsTo.of_eq rfl) (locs rfl) rfl rfl rfl (by decide) fun L' hid' s' A' env' hE hI hA C' S' ret => ?_
  repeat' k_extra "z"
  with_reducible refine explicit_spec G C' (by assumption) TK htop.1 a5 a1 (by decide) (by decide) herr fun _ _ _ => ?_
  repeat' k_extra "z"
  refine isTrue_chain ?_
  repeat' k_extra "z"
  refine test_link ?_
  repeat' k_extra "z"
  exact ok _ _ (ret.st (by assumption))
theorem par_recover {Q : Value → Shared → Prop} (G : Gd b) (C : Cx b (lv + 8) A L hid frs) (cN : CoreC M.C parserV) (hC : M.C = 734) (hX : M.ext = PExtN 0) (TK : TabK κ M.tb M.T) (to : M.T.Ok) (m0 : 0 ≤ M.most ∧ M.most ≤ 100)
    (S : St b hid L m κ₀ κ (ex ++ own) s) (H : Mach κ M cf flts own) (O : cf.Ok M.T M.most)
    (ok : ∀ s' own' cf', St b hid L m κ₀ κ (ex ++ own') s' → Mach κ { M with ans := "aborted", val := .none, ext := parserV.ext2 } cf' flts own' → cf'.cnt = cf.cnt → (cf'.moves.length : Int) ≤ M.most → Q .none s')
    (exc : ∀ s' own' e cf', (cf'.moves.length : Int) ≤ M.most → Fly b hid L m κ₀ κ (ex ++ own') frs e s' → Mach κ { M with ext := parserV.ext2 } cf' flts own' → E (.ref e) s') :
    wpAny (model b.prog b.w) A (call (.ref 724) [.ref M.c]) Q E s := by
  obtain ⟨T, kinds, Cl, c, tb, hd, most, ext, ans, val⟩ := M
  dsimp only at *
  subst hC hX
  have nm2 : NoM parserV.ext2 := parserV_x.nm
  obtain ⟨extra, hx, d, ln, sl, vl, fl, mv, tm, tc, ta, D, sts, vals, mvs, lk, X, rfl, hi, hw, hm, hl, hk⟩ := H
  have nmx : NoMeth extra := hx.noMeth
  obtain ⟨t1, t2, ctl, r, rfl, hr⟩ : ∃ t1 t2 ctl r, extra = pAttrs 0 t1 t2 ctl r ∧ (r = [] ∨ r = isTried) := by
    obtain ⟨t1, t2, ctl, h | h⟩ := hx
    · exact ⟨t1, t2, ctl, _, h, .inl rfl⟩
    · exact ⟨t1, t2, ctl, _, h, .inr rfl⟩
  refine call_cx [("self", .ref c)] G C S (by k_is) (by k_is) (BindsTo.of_eq rfl) (locs rfl) rfl rfl rfl (by decide) fun L' hid' s' A' env' hE hI hA C' S' ret => ?_
  refine R_execs (R_joinK (fun KK => ∀ s₂ t1', St b hid' L' (fun y => List.lookup y [(Str.ofString "self", Value.ref c)]) κ κ ((c, .inst 734 d) :: (d, .attrs 734 (attrL tb hd most tm ln sl vl lk cf.cnt tc ans ta val fl mv (pAttrs 3 t1' t2 ctl r))) :: (ln, .tabI D) :: (sl, .list sts) :: (vl, .list vals) :: (fl, .list (flts.map Prod.fst)) :: (mv, .list mvs) :: X) s₂ → KK s₂) ?_ ?_)
  · intro KK hK
    repeat' k_extra "z"
    exact ⟨rfl, hK _ _ (by assumption)⟩
  intro s₂ t1' S₂
  clear S' S
  with_reducible refine R_next ?_
  refine R_execs (R_joinK (fun KK => ∀ s₂, St b hid' L' (fun y => List.lookup y [(Str.ofString "self", Value.ref c)]) κ κ ((c, .inst 734 d) :: (d, .attrs 734 (attrL tb hd most tm ln sl vl lk cf.cnt tc ans ta val fl mv (pAttrs 3 t1' t2 ctl isTried))) :: (ln, .tabI D) :: (sl, .list sts) :: (vl, .list vals) :: (fl, .list (flts.map Prod.fst)) :: (mv, .list mvs) :: X) s₂ → KK s₂) ?_ ?_)
  · intro KK hK
    rcases hr with rfl | rfl
    · repeat' k_extra "z"
      exact ⟨rfl, hK _ (by assumption)⟩
    · repeat' k_extra "z"
      exact ⟨rfl, hK _ (by assumption)⟩
  intro s₃ S₃
  clear S₂
  have H₃ : Mach κ ⟨T, kinds, 734, c, tb, hd, most, parserV.ext2, ans, val⟩ cf flts ((c, .inst 734 d) :: (d, .attrs 734 (attrL tb hd most tm ln sl vl lk cf.cnt tc ans ta val fl mv (pAttrs 3 t1' t2 ctl isTried))) :: (ln, .tabI D) :: (sl, .list sts) :: (vl, .list vals) :: (fl, .list (flts.map Prod.fst)) :: (mv, .list mvs) :: X) :=
    ⟨_, ⟨3, t1', t2, ctl, .inr rfl⟩, d, ln, sl, vl, fl, mv, tm, tc, ta, D, sts, vals, mvs, lk, X, rfl, hi, hw, hm, hl, hk⟩
  with_reducible refine R_next ?_
  with_reducible refine R_execs ?_
  refine R_While (fun n s => ∃ m₂ own₂ cf₂, n = cf₂.stack.length ∧ St b hid' L' m₂ κ κ own₂ s ∧ m₂ "self" = some (.ref c) ∧ Mach κ ⟨T, kinds, 734, c, tb, hd, most, parserV.ext2, ans, val⟩ cf₂ flts own₂ ∧ cf₂.Ok T most ∧ cf₂.cnt = cf.cnt) PassesOwn.leaving _ ⟨_, _, cf, rfl, S₃, rfl, H₃, O, rfl⟩ ?_
  clear S₃ H₃ hi hw hm hl hk
  intro n s₄ Nx hZ3 hN
  obtain ⟨m₄, own₄, cf₄, rfl, S₄, n1, H₄, O₄, hcnt⟩ := hZ3
  have H₄' := H₄
  obtain ⟨extra, hx, d, ln, sl, vl, fl, mv, tm, tc, ta, D, sts, vals, mvs, lk, X, rfl, hi, hw, hm, hl, hk⟩ := H₄
  dsimp only at *
  have nmx := nm2 _ hx
  repeat' k_extra "z"
  with_reducible refine error_goal_spec (lv := lv + 5) (ex := []) G C' nm2 TK to (St.nil (by assumption)) H₄' O₄ fun s₅ t₅ S₅ => ?_
  rw [List.nil_append] at S₅
  have hlen : sts.length = cf₄.stack.length := hi.length
  have l1 := O₄.len
  have l2 := O₄.wl
  have l3 := O₄.mvs
  have hz : sts.length ≤ 1000000 := by omega
  repeat' k_extra "z"
  k_extra "zi"
  · repeat' k_extra "z"
    with_reducible refine finish_spec (lv := lv + 6) (ex := []) G nm2 C' (St.nil (by assumption)) H₄' rfl fun s₆ own₆ S₆ H₆ => ?_
    repeat' k_extra "z"
    exact ok _ _ cf₄ (ret.st S₆) H₆ hcnt l3
  · have hne : cf₄.stack.length ≠ 1 := by have := of_decide_eq_false hq; omega
    clear hq
    obtain ⟨pre, hpre, htop⟩ := O₄.top
    have hi₀ := hi
    rw [hpre] at hi
    obtain ⟨us, tt, rfl, hi'⟩ := ints_last hi
    clear hi
    repeat' k_extra "z"
    with_reducible refine note_spec (ex := []) (lv := lv + 2) (mo := .pop cf₄.top) G C' cN nm2 (St.nil (by assumption)) H₄' O₄ m0 (Mv.is_pop _ _ _) (fun s₆ own₆ hlt S₆ H₆ => ?_) fun s₆ own₆ e hge F H₆ => ?_
    · rw [List.nil_append] at S₆
      obtain ⟨extra, hx, d, ln, sl, vl, fl, mv, tm, tc, ta, D, sts, vals, mvs, lk, X, rfl, hi, hw, hm, hl, hk⟩ := H₆
      dsimp only at *
      have nmx := nm2 _ hx
      have e1 := hi.length
      have e2 := hw.length
      have hz1 : sts.length ≤ sizeLine := Nat.le_trans (by omega : sts.length ≤ 101) (by decide)
      have hz2 : vals.length ≤ sizeLine := Nat.le_trans (by omega : vals.length ≤ 101) (by decide)
      repeat' k_extra "z"
      with_reducible refine' R_sliceInit (by assumption) ?k1 hz1 fun s₇ l1 S₇ => ?_
      case k1 => k_extra "has"
      repeat' k_extra "z"
      with_reducible refine' R_sliceInit (by assumption) ?k2 hz2 fun s₈ l2 S₈ => ?_
      case k2 => k_extra "has"
      repeat' k_extra "z"
      rename_i s₉ S₉
      have T₉ := S₉.perm (own' := (c, .inst 734 d) :: (d, .attrs 734 (attrL tb hd most tm ln l1 l2 lk cf₄.cnt tc ans ta val fl mv extra)) :: (ln, .tabI D) :: (l1, .list sts.dropLast) :: (l2, .list vals.dropLast) :: (fl, .list (flts.map Prod.fst)) :: (mv, .list mvs) :: (sl, .list sts) :: (vl, .list vals) :: X) (by k_extra "perm")
      refine hN _ cf₄.pop.stack.length ?_ ⟨_, _, cf₄.pop, rfl, T₉, n1, ⟨extra, hx, d, ln, l1, l2, fl, mv, tm, tc, ta, D, _, _, mvs, lk, _, rfl, ints_init hi, hw.init, hm.mono fun _ _ k => k.mono fun p hp => .tail _ (.tail _ hp), hl, hk.mono fun p hp => .tail _ (.tail _ hp)⟩, O₄.pop hlt hne, hcnt⟩
      show cf₄.stack.dropLast.length < _
      rw [List.length_dropLast]; omega
    · exact R_leaveOn C' (by rw [hE]; rfl) F fun s₇ F₇ => exc _ _ _ cf₄ l3 (ret.fly F₇) H₆
theorem par_fail {k : Int} {t : Tok} {Q : Value → Shared → Prop} (G : Gd b) (ES : ExpSpec b parserV) (C : Cx b (lv + 12) A L hid frs) (K : MK κ M parserV) (S : St b hid L m κ₀ κ (ex ++ own) s) (H : Mach κ M cf [] own) (O : cf.Ok M.T M.most) (hs : cf.seen = true)
    (ok : ∀ s' own' cf' v, St b hid L m κ₀ κ (ex ++ own') s' → Mach κ { M with ans := "aborted", val := .none, ext := parserV.ext2 } cf' [(v, cf.fault M)] own' → cf'.cnt = cf.cnt → (cf'.moves.length : Int) ≤ M.most → Q .none s')
    (exc : ∀ s' own' e cf' v, (cf'.moves.length : Int) ≤ M.most → Fly b hid L m κ₀ κ (ex ++ own') frs e s' → Mach κ { M with ext := parserV.ext2 } cf' [(v, cf.fault M)] own' → E (.ref e) s') :
    wpAny (model b.prog b.w) A (call (.ref 717) [.ref M.c, .int k t]) Q E s := by
  have K' := K
  obtain ⟨cN, vf, nm, TK, to, m0, ⟨hdd, hk1, hk2⟩, ⟨hC, hnv⟩, hX, kd⟩ := K'
  have H' := H
  obtain ⟨T, kinds, Cl, c, tb, hd, most, ext, ans, val⟩ := M
  dsimp only at *
  obtain rfl : Cl = 734 := hC
  obtain rfl : ext = PExtN 0 := hX
  obtain ⟨extra, hx, d, ln, sl, vl, fl, mv, tm, tc, ta, D, sts, vals, mvs, lk, X, rfl, hi, hw, hm, hl, hk⟩ := H
  have nmx : NoMeth extra := hx.noMeth
  obtain ⟨t1, t2, ctl, r, rfl, hr⟩ : ∃ t1 t2 ctl r, extra = pAttrs 0 t1 t2 ctl r ∧ (r = [] ∨ r = isTried) := by
    obtain ⟨t1, t2, ctl, h | h⟩ := hx
    · exact ⟨t1, t2, ctl, _, h, .inl rfl⟩
    · exact ⟨t1, t2, ctl, _, h, .inr rfl⟩
  refine call_cx [("terminal", .int k t), ("self", .ref c)] G C S (by k_is) (by k_is) (BindsTo.of_eq rfl) (locs rfl) rfl rfl rfl (by decide) fun L' hid' s' A' env' hE hI hA C' S' ret => ?_
  repeat' k_extra "z"
  with_reducible refine tell_fault_spec (lv := lv + 3) (ex := []) G ES C' K (St.nil (by assumption)) H' O hs (by decide) fun s₂ own₂ v S₂ H₂ => ?_
  rw [List.nil_append] at S₂ H₂
  have H₂' := H₂
  obtain ⟨extra, hx, d, ln, sl, vl, fl, mv, tm, tc, ta, D, sts, vals, mvs, lk, X, rfl, hi, hw, hm, hl, hk⟩ := H₂
  dsimp only at *
  have nmx : NoMeth extra := hx.noMeth
  obtain ⟨t1, t2, ctl, r, rfl, hr⟩ : ∃ t1 t2 ctl r, extra = pAttrs 0 t1 t2 ctl r ∧ (r = [] ∨ r = isTried) := by
    obtain ⟨t1, t2, ctl, h | h⟩ := hx
    · exact ⟨t1, t2, ctl, _, h, .inl rfl⟩
    · exact ⟨t1, t2, ctl, _, h, .inr rfl⟩
  repeat' k_extra "z"
  with_reducible refine par_recover (lv := lv + 3) (ex := []) G C' cN rfl rfl TK to m0 (St.nil (by assumption)) H₂' O (fun s₃ own₃ cf' S₃ H₃ h1 h2 => ?_) fun s₃ own₃ e cf' h2 F H₃ => ?_
  · repeat' k_extra "z"
    exact ok _ _ _ _ (ret.st S₃) H₃ h1 h2
  · exact R_leaveOn C' (by rw [hE]; rfl) F fun s₇ F₇ => exc _ _ _ _ _ h2 (ret.fly F₇) H₃
end
theorem parserV_s {b : Bs} (G : Gd b) : Specs b parserV where
  act := fun C K S H k hz ok => par_act G C K K.hX S H k hz ok
  go := fun C K S H a1 a2 a3 a4 a5 a6 ok exc => par_goon G C K K.hC.1 K.hX S H a1 a2 a3 a4 a5 a6 ok exc
  exp := fun C K S H O ok => par_expected G C K K.hC.1 K.hX S H O ok
  est := fun C K S H ok => par_isest G C K.hX S H ok
  fail := fun C K S H O hs ok exc => par_fail G (fun C K S H O ok => par_expected G C K K.hC.1 K.hX S H O ok) C K S H O hs (fun s' own' cf' v S' H' h1 h2 => ok _ _ cf' v S' H' h1 h2 (fun h => nomatch h)) fun s' own' e cf' v h F H' => exc _ _ e cf' v rfl h F H'
  shift := fun C K S H O hs ok exc => par_shift G C K K.hC.1 K.hX S H O hs ok exc
  look := fun C K S H hs hT ok => par_look G C K.nm K.hC.1 K.hX S H hs hT ok
  x := parserV_x
theorem parserV_b {b : Bs} (G : Gd b) : BeginSpec b parserV := fun C nm hC hX S H ok => par_begin G C nm hC hX S H ok
section
variable {b : Bs} {lv : Nat} {A : Around} {E : Value → Shared → Prop} {s : Shared} {hid : Kw} {L : Addr} {m m' : Str → Option Value} {κ₀ κ : Kw} {ex own own' : List (Addr × AObj)} {frs : List Env} {env : Env} {M : MCx} {vt : Virt} {cf : Cfg} {flts : List Flt}
set_option maxHeartbeats 2000000
theorem new_call {C f : Addr} {args : List Value} {Q : Value → Shared → Prop} (G : Gd b) (K : Cx b (lv + 1) A L hid frs) (S : St b hid L m κ₀ κ (ex ++ own) s)
    (hm : makesIn (kk.heap_1 b.w.params) C = true) (hi : findIn (kk.heap_1 b.w.params) (.ref C) "__init__" = some (some (.ref f))) (hf : isFn (kk.heap_1 b.w.params) (.ref f) = true)
    (h : ∀ x d s' A', Cx b lv A' L hid frs → St b hid L m κ₀ κ (ex ++ (x, .inst C d) :: (d, .attrs C []) :: own) s' → CallC b A' f (.ref x :: args) (fun v s'' => v = .none ∧ Q (.ref x) s'') E s') :
    wpAny (model b.prog b.w) A (call (.ref C) args) Q E s := by
  have X : (kk.heap_1 b.w.params).In s.heap := G.K.keeps S.bs
  have S2 := S.make (C := C) fun _ h => nomatch h
  have S3 := S2.perm (own' := ex ++ (s.heap.objs.size + 1, .inst C s.heap.objs.size) :: (s.heap.objs.size, .attrs C []) :: own) (List.perm_append_comm_assoc [_, _] ex own)
  refine wpAny_call ?_
  have K' : Cx b lv (A.under (.builtin "type.__call__" ⟨.ref C :: args, []⟩)) L hid frs := {
    fr := by
      have e : (A.under (.builtin "type.__call__" ⟨.ref C :: args, []⟩)).frames = A.frames := rfl
      rw [e, K.fr]
    hd := K.hd
    dp := by have := K.dp; show A.depth + 1 + 2 * lv ≤ 900; omega
    un := by
      have := K.un
      have e : (A.under (.builtin "type.__call__" ⟨.ref C :: args, []⟩)).units = A.units + 1 := rfl
      rw [e]; omega
    ok := K.ok }
  have z := h _ _ _ _ K' S3
  obtain ⟨hp, g, dr, tk, os⟩ := s
  refine make_core (makes_of X hm) (looks_findIn X hi) (fun self => bind_fn X self (beq_iff_eq.mp hf)) (.inl rfl) ?_
  refine codeAny_mono z (fun r s' hr => ?_)
  cases r with
  | error e => exact hr
  | ok fl => cases fl with
    | ret v => exact hr
    | _ => exact hr.elim
abbrev BeginInit (b : Bs) (vt : Virt) (Cl : Addr) (mk : List (Str × Value) → Prop) : Prop := ∀ {lv : Nat} {A : Around} {E : Value → Shared → Prop} {s : Shared} {hid : Kw} {L : Addr} {m : Str → Option Value} {κ₀ κ : Kw} {ex own : List (Addr × AObj)} {frs : List Env}
  {c d tb hd ln : Addr} {most : Int} {tm : Tok} {Q : Value → Shared → Prop}, Cx b (lv + 3) A L hid frs →
  St b hid L m κ₀ κ (ex ++ (c, .inst Cl d) :: (d, .attrs Cl [("tables", .ref tb), ("handler", .ref hd), ("most", .int most tm), ("lone", .ref ln)]) :: (ln, .tabI []) :: own) s →
  (∀ s' sl vl fl mv t tc ta x, mk x → St b hid L m κ₀ κ (ex ++ (c, .inst Cl d) :: (d, .attrs Cl (attrL tb hd most tm ln sl vl .none 0 tc "more" ta .none fl mv x)) :: (ln, .tabI []) :: (sl, .list [.int 0 t]) :: (vl, .list []) :: (fl, .list []) :: (mv, .list []) :: own) s' → Q .none s') →
  wpAny (model b.prog b.w) A (call (.ref vt.begin) [.ref c]) Q E s
theorem core_init {mk : List (Str × Value) → Prop} {Cl c d tb : Addr} {most : Int} {tm : Tok} {Q : Value → Shared → Prop} (G : Gd b) (cN : CoreC Cl vt) (vb : IsFn vt.begin) (BI : BeginInit b vt Cl mk) (o1 : okAt Cl "tables") (o2 : okAt Cl "handler") (o3 : okAt Cl "most") (o4 : okAt Cl "lone")
    (C : Cx b (lv + 4) A L hid frs) (S : St b hid L m κ₀ κ (ex ++ (c, .inst Cl d) :: (d, .attrs Cl []) :: own) s)
    (ok : ∀ s' hd hdd ln sl vl fl mv t tc ta x, mk x → St b hid L m κ₀ κ (ex ++ (c, .inst Cl d) :: (d, .attrs Cl (attrL tb hd most tm ln sl vl .none 0 tc "more" ta .none fl mv x)) :: (ln, .tabI []) :: (sl, .list [.int 0 t]) :: (vl, .list []) :: (fl, .list []) :: (mv, .list []) :: (hd, .inst 292 hdd) :: (hdd, .attrs 292 []) :: own) s' → Q .none s') :
    CallC b A 403 [.ref c, .ref tb, .none, .int most tm] Q E s := by
  refine call_cd [("most", .int most tm), ("handler", .none), ("tables", .ref tb), ("self", .ref c)] G C S (by k_is) (by k_is) (binds_K (G.K.keeps S.bs) rfl (by k_is) rfl rfl rfl) (locs rfl) rfl rfl rfl (by decide) fun L' hid' s' A' env' hE hI hA C' S' ret => ?_
  repeat' k_extra "z"
  with_reducible refine new0_cx G (by assumption) ?a ?b fun s₂ hd hdd S₂ => ?_
  case a => k_is
  case b => k_is
  repeat' k_extra "z"
  rename_i s₃ S₃
  have S₄ := S₃.perm (own' := (c, .inst Cl d) :: (d, .attrs Cl [("tables", .ref tb), ("handler", .ref hd), ("most", .int most tm), ("lone", .ref _)]) :: (_, .tabI []) :: (hd, .inst 292 hdd) :: (hdd, .attrs 292 []) :: own) (by k_extra "perm")
  refine BI (lv := lv) (ex := []) C' S₄ fun s₅ sl vl fl mv t tc ta x hx S₅ => ?_
  repeat' k_extra "z"
  exact ok _ _ _ _ _ _ _ _ _ _ _ _ hx (ret.st S₅)
end
theorem mach0 {κ : Kw} {T : TabD} {kinds : List Str} {Cl c d tb hd ln sl vl fl mv : Addr} {most : Int} {tm tc ta t : Tok} {ext : List (Str × Value) → Prop} {x : List (Str × Value)} (hx : ext x) (X : List (Addr × AObj)) :
    Mach κ ⟨T, kinds, Cl, c, tb, hd, most, ext, "more", .none⟩ cfg0 [] ((c, .inst Cl d) :: (d, .attrs Cl (attrL tb hd most tm ln sl vl .none 0 tc "more" ta .none fl mv x)) :: (ln, .tabI []) :: (sl, .list [.int 0 t]) :: (vl, .list []) :: (fl, .list []) :: (mv, .list []) :: X) :=
  ⟨x, hx, d, ln, sl, vl, fl, mv, tm, tc, ta, [], _, _, _, .none, X, rfl, .cons _ _ .nil, .nil, .nil, LoneOk.nil T, ⟨rfl, fun _ h => nomatch h⟩⟩
section
variable {b : Bs} {lv : Nat} {A : Around} {E : Value → Shared → Prop} {s : Shared} {hid : Kw} {L : Addr} {m m' : Str → Option Value} {κ₀ κ : Kw} {ex own own' : List (Addr × AObj)} {frs : List Env} {env : Env} {M : MCx} {vt : Virt} {cf : Cfg} {flts : List Flt}
set_option maxHeartbeats 2000000
theorem core_new {tb : Addr} {most : Int} {tm : Tok} {Q : Value → Shared → Prop} (G : Gd b) (C : Cx b (lv + 5) A L hid frs) (S : St b hid L m κ₀ κ (ex ++ own) s) (T : TabD) (kinds : List Str)
    (ok : ∀ s' c own' hd hdd, St b hid L m κ₀ κ (ex ++ (own' ++ (hd, .inst 292 hdd) :: (hdd, .attrs 292 []) :: own)) s' → Mach κ ⟨T, kinds, 551, c, tb, hd, most, coreV.ext, "more", .none⟩ cfg0 [] own' → Q (.ref c) s') :
    wpAny (model b.prog b.w) A (call (.ref 551) [.ref tb, .none, .int most tm]) Q E s := by
  refine new_call G C S (by k_is) (by k_is) (by k_is) fun x d s' A' C' S' => ?_
  refine core_init (vt := coreV) (mk := fun x => x = []) G coreV_c coreV_f.begin ?_ (fun P => by kernel_rfl) (fun P => by kernel_rfl) (fun P => by kernel_rfl) (fun P => by kernel_rfl) C' S' fun s₂ hd hdd ln sl vl fl mv t tc ta x hx S₂ => ?_
  · exact fun C S ok => (core_begin_init G C ⟨fun P => by kernel_rfl, fun P => by kernel_rfl, fun P => by kernel_rfl, fun P => by kernel_rfl, fun P => by kernel_rfl, fun P => by kernel_rfl, fun P => by kernel_rfl, fun P => by kernel_rfl⟩ S fun s' sl vl fl mv t tc ta S' => ok s' sl vl fl mv t tc ta [] rfl S').go
  · subst hx
    exact ⟨rfl, ok _ _ [_, _, _, _, _, _, _] hd hdd S₂ (mach0 (ext := coreV.ext) (x := []) rfl [])⟩
theorem control_new {x : Addr} {Q : Value → Shared → Prop} (G : Gd b) (C : Cx b (lv + 2) A L hid frs) (S : St b hid L m κ₀ κ (ex ++ own) s)
    (ok : ∀ s' a d, St b hid L m κ₀ κ (ex ++ (a, .inst 628 d) :: (d, .attrs 628 [("parser", .ref x)]) :: own) s' → Q (.ref a) s') :
    wpAny (model b.prog b.w) A (call (.ref 628) [.ref x]) Q E s := by
  refine new_cx (fun y => [("parser", .ref x), ("self", .ref y)]) G C S (by k_is) (by k_is) (by k_is) (by k_is) (by k_is) (fun _ _ _ => BindsTo.of_eq rfl) (fun _ => locs rfl) rfl rfl rfl (by decide)
    fun x d L' hid' s' A' env' hE hI C' S' ret => ?_
  repeat' k_extra "z"
  exact ⟨rfl, ok _ _ _ (ret.st (by assumption))⟩
theorem parser_new {tb : Addr} {most : Int} {tm : Tok} {Q : Value → Shared → Prop} (G : Gd b) (C : Cx b (lv + 6) A L hid frs) (S : St b hid L m κ₀ κ (ex ++ own) s) (T : TabD) (kinds : List Str)
    (ok : ∀ s' c own' hd hdd, St b hid L m κ₀ κ (ex ++ (own' ++ (hd, .inst 292 hdd) :: (hdd, .attrs 292 []) :: own)) s' → Mach κ ⟨T, kinds, 734, c, tb, hd, most, parserV.ext, "more", .none⟩ cfg0 [] own' → Q (.ref c) s') :
    wpAny (model b.prog b.w) A (call (.ref 734) [.ref tb, .none, .int most tm]) Q E s := by
  refine new_call G C S (by k_is) (by k_is) (by k_is) fun c d s' A' C' S' => ?_
  refine call_sup [("has_lac", .bool false), ("most", .int most tm), ("handler", .none), ("tables", .ref tb), ("self", .ref c)] G C' S' (by k_is) (by k_is) (binds_K (G.K.keeps S'.bs) rfl (by k_is) rfl rfl rfl) (locs rfl) rfl rfl rfl (by decide) fun L' hid' s' A' env' hE hI hA C' S' ret => ?_
  subst hE
  refine ks_wpAt_execs_cons (ks_wpAt_Expr_any ?_)
  k_extra "sup"
  refine .inr ⟨_, _, rfl, rfl, rfl, fun s₂ q' S₂ => ?_⟩
  repeat' k_extra "z"
  refine ⟨_, _, _, by assumption, fun S₃ => ?_⟩
  refine core_init (lv := lv) (vt := parserV) (ex := []) (mk := fun x => ∃ t1 t2, x = [(Str.ofString "status", .int 0 t1), (Str.ofString "wish", .str "" t2)]) G parserV_c parserV_f.begin ?_ (fun P => by kernel_rfl) (fun P => by kernel_rfl) (fun P => by kernel_rfl) (fun P => by kernel_rfl) C' S₃ fun s₂ hd hdd ln sl vl fl mv t tc ta x hx S₂ => ?_
  · exact fun C S ok => par_begin_init G C S fun s' sl vl fl mv t tc ta t1 t2 S' => ok s' sl vl fl mv t tc ta _ ⟨t1, t2, rfl⟩ S'
  · obtain ⟨t1, t2, rfl⟩ := hx
    rw [List.nil_append] at S₂
    refine PySem.wpAt_of_wpAny ?_
    repeat' k_extra "z"
    with_reducible refine control_new (lv := lv + 2) (ex := []) G C' (St.nil (by assumption)) fun s₄ ctl cd S₄ => ?_
    rw [List.nil_append] at S₄
    repeat' k_extra "z"
    rename_i s₅ S₅
    refine ⟨rfl, ok _ _ [_, _, _, _, _, _, _] hd hdd (St.drop (ret.st S₅) (List.Sublist.append (List.Sublist.refl _) ((List.sublist_cons_self _ _).trans (List.sublist_cons_self _ _)))) (mach0 ⟨t1, t2, ctl, .inl rfl⟩ [])⟩
end
section
variable {b : Bs} {lv : Nat} {A : Around} {E : Value → Shared → Prop} {s : Shared} {hid : Kw} {L : Addr} {m m' : Str → Option Value} {κ₀ κ : Kw} {own own' : List (Addr × AObj)} {frs : List Env} {env : Env}
theorem R_lenTup {l : Addr} {vs : List Value} {Q : Value → Shared → Prop} (S : St b hid L m κ₀ κ own s) (k : Has κ own l (.tup vs)) (hz : vs.length ≤ 1000000) (h : ∀ s' t, St b hid L m κ₀ κ own s' → Q (.int vs.length t) s') :
    wpAny (model b.prog b.w) A (call (.builtin "len") [.ref l]) Q E s := by
  obtain ⟨n, x⟩ := (S.has k).tup
  refine PySem.P.len_tuple x (by simp; omega) ?_
  simpa using h _ _ ((S.toks (s.toks + 1)).toks (s.toks + 1 + 1))
theorem fold_rep (v : Value) : ∀ n, List.foldl (fun x1 x2 => x1 ++ x2) (#[] : Array Value) (List.replicate n #[v]) = (List.replicate n v).toArray := by
  have : ∀ n (a : Array Value), List.foldl (fun x1 x2 => x1 ++ x2) a (List.replicate n #[v]) = a ++ (List.replicate n v).toArray := by
    intro n
    induction n with
    | zero => intro a; simp
    | succ n ih => intro a; rw [List.replicate_succ, List.foldl_cons, ih, List.replicate_succ]; apply Array.ext'; simp
  intro n
  rw [this]; simp
theorem R_mulOne {l : Addr} {v : Value} {x : Int} {u : Tok} {Q : Value → Shared → Prop} (S : St b hid L m κ₀ κ own s) (k : Has κ own l (.list [v])) (h0 : 0 ≤ x) (h1 : x ≤ 1000)
    (h : ∀ s' a, St b hid L m κ₀ κ ((a, .list (List.replicate x.toNat v)) :: own) s' → Q (.ref a) s') : wpAny (model b.prog b.w) A (binaryOp .Mult (.ref l) (.int x u)) Q E s := by
  obtain ⟨n, hl⟩ := (S.has k).list
  refine wpAny_binaryOp_repeat_ref (T := "list") (U := "int") (by decide) ⟨_, hl, rfl⟩ (fun s' => typeIs_int s' x u) PySem.noFill_list_mul PySem.F.fills_int_mul PySem.F.slot_int_rmul PySem.repeat_list PySem.F.slot_int_index.lookup
    (call_meets PySem.F.slot_int_rmul (typeIs_int s x u) PySem.F.entry_int_rmul (PySem.F.args_int_rmul_2 _ _) (int___rmul___int_list x u l _ n)
      ⟨hl, rfl, ⟨_, hl, rfl⟩, call_meets PySem.F.slot_list_mul ⟨_, hl, rfl⟩ PySem.F.entry_list_mul (PySem.F.args_list_mul_2 _ _)
        (AutoListH.list___mul___list_int_3 l _ n x u (by simp [Builtin.List.listFitsIndex]; omega) (by simp; omega) (by simp [Builtin.List.listTooLong, sizeLine]; omega))
        ⟨hl, h _ _ (S.alloc (Nat.le_refl _) (fun _ _ e => Heap.get?_push_of_some _ e) ⟨_, Heap.get?_push_size _ rfl, 0, ?_⟩ rfl rfl)⟩⟩)
  have e : ([v].toArray.isEmpty = true) = False := by simp
  simp only [W.listOf, e, if_false]
  rw [show [v].toArray = #[v] from rfl, fold_rep]
theorem R_extend {l c : Addr} {vs us : List Value} {own' : List (Addr × AObj)} {Q : Value → Shared → Prop} (S : St b hid L m κ₀ κ own s) (p : Put l (.list vs) (.list (vs ++ us)) own own') (k : Has κ own c (.list us)) (hz : vs.length + us.length ≤ sizeLine)
    (h : ∀ s', St b hid L m κ₀ κ own' s' → Q .none s') : wpAny (model b.prog b.w) A (call (.builtin "list.extend") [.ref l, .ref c]) Q E s := by
  obtain ⟨n, x⟩ := (S.ow _ p.mem).list
  obtain ⟨n2, x2⟩ := (S.has k).list
  have hz' : vs.toArray.size + us.toArray.size ≤ sizeLine := by simpa using hz
  refine call_meets PySem.F.slot_list_extend ⟨_, x, rfl⟩ PySem.F.entry_list_extend (PySem.F.args_list_extend_2 _ _) (AutoSeq1.list_extend_list_list_0 l vs.toArray n c us.toArray n2 (extend_door hz') (Nat.le_trans (Nat.le_add_right _ _) hz')) ⟨x, x2, h _ (S.upd (t := s.toks) p (Heap.SameBut.update _ _ _) ⟨_, Heap.get?_update_self _ x (by rw [mapSeq_app]; rfl), ?_⟩)⟩
  rw [mapSeq_app]
  exact ⟨_, by simp only [W.listOf]; rw [List.append_toArray]⟩
theorem R_asgT {t : Addr} {vs : List Value} {elts : List Expr} {k : Nat} {pos : Pos} {Q : Unit → Shared → Prop} (S : St b hid L m κ₀ κ own s) (C : Cx b lv A L hid frs) (kt : Has κ own t (.tup vs))
    (hn : (assignEach elts env).length = vs.length) (hstar : (assignEach elts env).findIdx? (·.1) = none)
    (h : ∀ s', St b hid L m κ₀ κ own s' → wpAny (model b.prog b.w) A (assignInOrder ((assignEach elts env).map (·.2)) vs) Q E s') : wpAny (model b.prog b.w) A (assign (.Tuple elts k pos) env (.ref t)) Q E s := by
  obtain ⟨n, x⟩ := (S.has kt).tup
  refine assign_Tuple_tuple C.hd ⟨_, x, rfl, n, rfl⟩ (by simpa using hn) hstar fun h' he => ?_
  exact h _ (S.keeps (s' := { s with heap := h' }) (fun a o e => he a o (Nat.ne_of_lt (Heap.lt_size e)) e) rfl rfl)
theorem R_unpI {t : Addr} {vs : List Value} {n : Nat} {Q : List Value → Shared → Prop} (S : St b hid L m κ₀ κ own s) (C : Cx b lv A L hid frs) (kt : Has κ own t (.tup vs)) (hn : vs.length = n)
    (h : ∀ s', St b hid L m κ₀ κ own s' → Q vs s') : wpAny (model b.prog b.w) A (unpackItems (.ref t) n none) Q E s := by
  obtain ⟨n', x⟩ := (S.has kt).tup
  subst hn
  have := unpackItems_tuple (prog := b.prog) (w := b.w) (E := E) (Q := Q) C.hd (show IsTup s.heap t vs.toArray from ⟨_, x, rfl, n', rfl⟩) fun h' he => h _ (S.keeps (s' := { s with heap := h' }) (fun a o e => he a o (Nat.ne_of_lt (Heap.lt_size e)) e) rfl rfl)
  simpa using this
theorem R_int_bool {c : Bool} {Q : Value → Shared → Prop} (S : St b hid L m κ₀ κ own s) (h : ∀ s' t, St b hid L m κ₀ κ own s' → Q (.int (if c then 1 else 0) t) s') : wpAny (model b.prog b.w) A (call (.type "int") [.bool c]) Q E s := call_int_bool (h _ _ (S.toks _))
theorem R_sum {l : Addr} {vs : List Value} {ns : List Int} {Q : Value → Shared → Prop} (S : St b hid L m κ₀ κ own s) (C : Cx b lv A L hid frs) (k : Has κ own l (.list vs)) (hi : IntsAre vs ns) (h : ∀ s' t, St b hid L m κ₀ κ own s' → Q (.int ns.sum t) s') :
    wpAny (model b.prog b.w) A (call (.builtin "sum") [.ref l]) Q E s := by
  obtain ⟨n, x⟩ := (S.has k).list
  have hl := isL_list x
  obtain ⟨xs, hx⟩ := hi.allInts.items
  have hn : numsOf vs.toArray.toList = ns := by rw [show vs.toArray.toList = vs from rfl, hi.numsOf]
  rw [hx] at hl hn
  rw [nums_intItems] at hn
  refine sum_intListG C.hd hl fun h' tk t' hk => ?_
  have := h _ t' ((S.keeps (s' := { s with heap := h' }) hk rfl rfl).toks tk)
  rw [preSum_eq, List.take_of_length_le (by simp), hn]
  exact this
theorem R_inTup {t : Addr} {vs : List Value} {x : Value} {Q : Value → Shared → Prop} (e : Value → Bool) (S : St b hid L m κ₀ κ own s) (k : Has κ own t (.tup vs)) (he : ∀ y ∈ vs, PySem.SeqAt.EqAt A.in1 s y x (e y)) (h : Q (.bool (vs.any e)) s) :
    wpAny (model b.prog b.w) A (compareOp .In x (.ref t)) Q E s := by
  obtain ⟨n, x⟩ := (S.has k).tup
  exact PySem.SeqAt.in_tupleAt e (isTup_tup x) (fun y hy => he y (by simpa using hy)) (by simpa using h)
theorem R_notinTup {t : Addr} {vs : List Value} {x : Value} {Q : Value → Shared → Prop} (e : Value → Bool) (S : St b hid L m κ₀ κ own s) (k : Has κ own t (.tup vs)) (he : ∀ y ∈ vs, PySem.SeqAt.EqAt A.in1 s y x (e y)) (h : Q (.bool (!vs.any e)) s) :
    wpAny (model b.prog b.w) A (compareOp .NotIn x (.ref t)) Q E s := by
  obtain ⟨n, x⟩ := (S.has k).tup
  exact PySem.SeqAt.notIn_tupleAt e (isTup_tup x) (fun y hy => he y (by simpa using hy)) (by simpa using h)
theorem slicePickT_upto {items : List Value} {n : Nat} : slicePick items.toArray none (some (n : Int)) none = (items.take n).toArray := by rw [slicePick_upto']
theorem R_compS {sc scope : Scope} {cl cl' : List (Str × Addr)} {x : Str} {px pos : Pos} {elt iter : Expr} {ifs : List Expr} {Q : Value → Shared → Prop}
    (S : St b hid L m κ₀ κ own s) (C : Cx b lv A L hid frs) (hE : EnvIs env sc L cl) (hclos : closureFor scope env = pure cl') (hs : ∀ v, foldedSetIterable iter env v = pure v)
    (hsc : compScope scope = true) (hx : (relabelS scope sc).names.lookup x = some .local)
    (h : wpAny (model b.prog b.w) A (eval iter env) (fun xv s₁ => wpAny (model b.prog b.w) A (pyIter xv) (CompRest b lv A L hid frs m κ₀ (relabelS scope sc) cl' x elt ifs (fun _ => m) (fun acc s' => Q (.ref acc) s')) E s₁) E s) :
    wpAny (model b.prog b.w) A (eval (.ListComp elt [⟨.Name x px, iter, ifs, 0⟩] scope pos) env) Q E s := R_comp m κ₀ C hE hclos hs hsc hx h
theorem R_compUseS {sc scope : Scope} {cl cl' : List (Str × Addr)} {x y : Str} {px py pos spos : Pos} {elt iter : Expr} {ifs : List Expr} {Q : Flow → Shared → Prop}
    (S : St b hid L m κ₀ κ own s) (C : Cx b lv A L hid frs) (hE : EnvIs env sc L cl)
    (hsw : swapsWith (.ListComp elt [⟨.Name x px, iter, ifs, 0⟩] scope pos) (some (.Name y py)) spos.line env = pure true)
    (hclos : closureFor scope env = pure cl') (hs : ∀ v, foldedSetIterable iter env v = pure v)
    (hsc : compScope scope = true) (hx : (relabelS scope sc).names.lookup x = some .local) (hk : sc.kind = .function) (hy : sc.names.lookup y = some .local)
    (h : wpAny (model b.prog b.w) A (eval iter env) (fun xv s₁ => wpAny (model b.prog b.w) A (pyIter xv) (CompRest b lv A L hid frs m κ₀ (relabelS scope sc) cl' x elt ifs (fun acc z => if z = y then some (.ref acc) else m z) (fun _ s' => Q .next s')) E s₁) E s) :
    wpAny (model b.prog b.w) A (exec (.Assign [.Name y py] (.ListComp elt [⟨.Name x px, iter, ifs, 0⟩] scope pos) spos) env) Q E s := R_compUse m κ₀ C hE hsw hclos hs hsc hx hk hy h
end
section
variable {b : Bs} {lv : Nat} {A : Around} {E : Value → Shared → Prop} {s : Shared} {hid : Kw} {L : Addr} {m m' : Str → Option Value} {κ₀ κ : Kw} {own own' : List (Addr × AObj)} {frs : List Env} {env : Env} {prog : Program} {w : World}
theorem sliceApplied3 {sl : Addr} {n : Nat} {u : Tok} {Q : Int × Int × Nat → Shared → Prop} (hs : s.heap.IsSliceOf sl .none (.int (n : Int) u) .none) (hn : n ≤ 3) (h : Q (0, 1, n) s) :
    wpAny (model prog w) A (Builtin.Slice.sliceApplied (.ref sl) (pure ((3 : Nat) : Int))) Q E s := by
  obtain ⟨os, hos, hcs, hds⟩ := id hs
  unfold Builtin.Slice.sliceApplied Builtin.Slice.sliceFields
  refine wpAny_bind (wpAny_bind (wpAny_field hos hds (x := .none) rfl (wpAny_bind (wpAny_field hos hds (x := .int (n : Int) u) rfl (wpAny_bind (wpAny_field hos hds (x := .none) rfl (wpAny_pure ?_)))))))
  refine wpAny_bind (slicePart_none ?_)
  show wpAny _ _ (if ((1 : Int) == 0) = true then _ else _) _ _ s
  rw [if_neg (by decide)]
  refine wpAny_bind (slicePart_none (wpAny_bind (slicePart_int (wpAny_bind (wpAny_pure ?_)))))
  have e : ∀ k : Fin 4, Builtin.Slice.sliceAdjust none (some ((k.1 : Nat) : Int)) 1 ((3 : Nat) : Int) = (0, (k.1 : Int)) ∧ Builtin.Slice.slicePlaces 0 (k.1 : Int) 1 = k.1 := by decide
  obtain ⟨e1, e2⟩ := e ⟨n, by omega⟩
  show wpAny _ _ (match Builtin.Slice.sliceAdjust none (some (n : Int)) 1 ((3 : Nat) : Int) with | (lo, hi) => pure (lo, (1 : Int), Builtin.Slice.slicePlaces lo hi 1)) _ _ s
  rw [e1]
  show wpAny _ _ (pure ((0 : Int), (1 : Int), Builtin.Slice.slicePlaces 0 (n : Int) 1)) _ _ s
  rw [e2]
  exact wpAny_pure h
theorem getItem_tup3 {t sl : Addr} {vs : List Value} {n : Nat} {u : Tok} {Q : Value → Shared → Prop} (h3 : vs.length = 3) (ht : IsTup s.heap t vs.toArray) (hs : s.heap.IsSliceOf sl .none (.int (n : Int) u) .none) (hn : n ≤ 3)
    (h1 : n = 3 → Q (.ref t) s) (h2 : n < 3 → Q (.ref s.heap.objs.size) { s with heap := s.heap.push { cls := .type "tuple", data := .seq (vs.take n).toArray } }) : wpAny (model prog w) A (getItem (.ref t) (.ref sl)) Q E s := by
  obtain ⟨os, hos, hcs, hds⟩ := id hs
  have hTs : s.TypeIs (.ref sl) "slice" := ⟨os, hos, hcs⟩
  unfold getItem
  try with_reducible refine wpAny_holding ?_
  first | refine wpAny_bind (wpAny_pure ?_) | skip
  refine wpAny_bind (wpAny_sequenceKey ht.typeIs (by decide) ?_)
  refine wpAny_bind (wpAny_callSpecial?_slot (name := Str.ofString "__getitem__") ht.typeIs slot_tuple_getitem
    (wpAny_call_entry slot_tuple_getitem ht.typeIs entry_tuple_getitem ?_ (args_tuple_getitem _ _)))
  show wpAny _ _ (Builtin.Tuple.tupleItemsOf (.ref t) >>= _) _ _ s
  refine wpAny_bind (tupleItemsOf_ ht ?_)
  refine wpAny_bind (wpAny_typeOf hTs ?_)
  rw [if_pos (by decide)]
  have hsz : vs.toArray.size = 3 := by simpa using h3
  rw [hsz]
  refine wpAny_bind (sliceApplied3 hs hn ?_)
  have hpick : ((List.range n).filterMap fun (k : Nat) => vs.toArray[((0 : Int) + (k : Int) * 1).toNat]?).toArray = (vs.take n).toArray := by
    have e : (fun (k : Nat) => vs.toArray[((0 : Int) + (k : Int) * 1).toNat]?) = fun k => vs.toArray[k]? := by
      funext k
      have : ((0 : Int) + (k : Int) * 1).toNat = k := by omega
      rw [this]
    rw [e]
    have := pick_run vs.toArray 0 n
    rw [List.filterMap_map] at this
    have e2 : ((fun x => vs.toArray[x]?) ∘ fun x => 0 + x) = fun k => vs.toArray[k]? := by funext k; simp
    rw [e2] at this
    rw [this]; simp
  rcases Nat.lt_or_ge n 3 with hlt | hge
  · have hno : ¬ (((0 : Int) == 0 && (1 : Int) == 1 && n == 3) = true) := by
      have : (n == 3) = false := by rw [beq_eq_false_iff_ne]; omega
      rw [this]; simp
    show wpAny _ _ (if ((0 : Int) == 0 && (1 : Int) == 1 && n == 3) = true then _ else _) _ _ s
    rw [if_neg hno, hpick]
    have hdrop : sizeOk (.seq (vs.take n).toArray) := by
      show (vs.take n).toArray.size ≤ sizeLine
      rw [List.size_toArray, List.length_take]; exact Nat.le_trans (by omega : _ ≤ 3) (by decide)
    first
      | exact wpAny_bind (m := Builtin.Tuple.tupleExact _) (wpAny_newObj_type (wpAny_pure ⟨_, rfl, wpAny_pure (h2 hlt)⟩) hdrop)
      | exact wpAny_bind (m := Builtin.Tuple.tupleExact _) (wpAny_newObj_type (wpAny_bind (wpAny_pure (wpAny_pure ⟨_, rfl, wpAny_pure (h2 hlt)⟩))) hdrop)
      | exact wpAny_bind (wpAny_bind (m := Builtin.Tuple.tupleExact _) (wpAny_newObj_type (wpAny_pure (wpAny_pure ⟨_, rfl, wpAny_pure (h2 hlt)⟩)) hdrop))
      | exact wpAny_bind (wpAny_bind (m := Builtin.Tuple.tupleExact _) (wpAny_newObj_type (wpAny_pure ⟨_, rfl, wpAny_pure (h2 hlt)⟩) hdrop))
  · obtain rfl : n = 3 := by omega
    show wpAny _ _ (if ((0 : Int) == 0 && (1 : Int) == 1 && (3 : Nat) == 3) = true then _ else _) _ _ s
    rw [if_pos (by decide)]
    unfold Builtin.Tuple.tupleIsExact
    have q := h1 rfl
    refine wpAny_bind (wpAny_bind (wpAny_typeOf ht.typeIs (wpAny_pure ?_)))
    show wpAny _ _ (if (Value.type "tuple" == Value.type "tuple") = true then _ else _) _ _ s
    rw [if_pos (by simp)]
    exact wpAny_bind (wpAny_rule (wpAny_pure ⟨_, rfl, wpAny_pure q⟩))
/-- a slice of a tuple of three, which is let go -/
theorem R_tupUpto {value : Expr} {upper : Expr} {p pos : Pos} {Q : Value → Shared → Prop}
    (h : wpAny (model b.prog b.w) A (eval value env) (fun o s₁ => wpAny (model b.prog b.w) A (evalPart (some upper) env) (fun vu s₂ => ∃ (l : Addr) (vs : List Value) (n : Nat) (u : Tok) (m : Str → Option Value) (own : List (Addr × AObj)), vs.length = 3 ∧ o = .ref l ∧ vu = .int (n : Int) u ∧ n ≤ 3 ∧ St b hid L m κ₀ κ ((l, .tup vs) :: own) s₂ ∧
      ∀ s' κ' t', κ.Le κ' → κ' t' (.tup (vs.take n)) → St b hid L m κ₀ κ' own s' → Q (.ref t') s') E s₁) E s) :
    wpAny (model b.prog b.w) A (eval (.Subscript value (.Slice none (some upper) none p) pos) env) Q E s := by
  have h' : wpAny (model b.prog b.w) A (eval value env) (fun o s₁ => wpAny (model b.prog b.w) A (eval (.Slice none (some upper) none p) env) (fun i s₂ => s₂.TypeIs o "tuple" ∧ wpAny (model b.prog b.w) A (getItem o i) Q E s₂) E s₁) E s := by
    refine wpAny_mono h (fun o s₁ h₁ => wpAny_Slice (wpAny_evalPart_none (wpAny_mono h₁ (fun vu s₂ h₂ => ?_) fun _ _ e => e))) fun _ _ e => e
    obtain ⟨l, vs, n, u, m, own, h3, rfl, rfl, hn, S, hQ⟩ := h₂
    rw [evalPart_none]
    have S1 := S.keeps (s' := { s₂ with heap := s₂.heap.push { cls := .type "slice", data := .fields #[.none, .int (n : Int) u, .none] } }) (fun _ _ e => Heap.get?_push_of_some _ e) rfl rfl
    obtain ⟨k, x⟩ := (S1.has (.inl (.head _))).tup
    have ht : IsTup (s₂.heap.push { cls := .type "slice", data := .fields #[.none, .int (n : Int) u, .none] }) l vs.toArray := ⟨_, x, rfl, k, rfl⟩
    refine wpAny_pure ⟨ht.typeIs, getItem_tup3 h3 ht (Heap.IsSliceOf.new ..) hn (fun e => ?_) fun e => ?_⟩
    · subst e
      have e3 : vs.take 3 = vs := List.take_of_length_le (by omega)
      rw [e3] at hQ
      exact hQ _ _ _ (Kw.le_ext _ _) (.inr (.head _)) (S1.freeze (fz := [(l, .tup vs)]) (List.Sublist.refl _))
    · have S2 := S1.alloc (s' := { s₂ with heap := (s₂.heap.push { cls := .type "slice", data := .fields #[.none, .int (n : Int) u, .none] }).push { cls := .type "tuple", data := .seq (vs.take n).toArray } }) (a := (s₂.heap.push { cls := .type "slice", data := .fields #[.none, .int (n : Int) u, .none] }).objs.size) (A := .tup (vs.take n)) (Nat.le_refl _) (fun _ _ e => Heap.get?_push_of_some _ e) ⟨_, Heap.get?_push_size _ rfl, 0, rfl⟩ rfl rfl
      exact hQ _ _ _ (Kw.le_ext _ _) (.inr (.head _)) (S2.freeze (fz := [(_, .tup (vs.take n))]) (.cons_cons _ (List.sublist_cons_self _ _)))
  rw [eval_Subscript]
  refine wpAny_bind (wpAny_mono h' (fun o s₁ h₁ => wpAny_bind (wpAny_holding (wpAny_mono h₁ (fun i s₂ h₂ => wpAny_bind (wpAny_standAt ?_)) fun _ _ x => x))) fun _ _ x => x)
  have fin : wpAny (model b.prog b.w) A (operate [i, o] (getItem o i)) (fun r s₃ => wpAny (model b.prog b.w) A (letTemporaryGo value o r >>= fun _ => pure r) Q E s₃) E s₂ :=
    wpAny_operating (wpAny_mono h₂.2 (fun r s₃ h₃ => wpAny_bind (wpAny_letTemporaryGo (wpAny_pure h₃))) fun _ _ x => x)
  first
    | (refine wpAny_bind ?_
       rw [getitemInPython_of_ne h₂.1.not_modules]
       refine wpAny_bind (wpAny_specialOf h₂.1 slot_tuple_getitem.lookup ?_)
       first
         | exact wpAny_pure (wpAny_bind fin)
         | exact wpAny_bind (wpAny_pure (wpAny_bind fin))
         | exact wpAny_bind fin)
    | (refine wpAny_bind (wpAny_specialOf h₂.1 slot_tuple_getitem.lookup ?_)
       first
         | exact wpAny_bind (wpAny_pure (wpAny_bind fin))
         | exact wpAny_bind fin)
end
theorem lk_list_keys : typeLookup (.type "list") "keys" = pure none := by rw [typeLookup_type, builtinLookup_eq_fast]; kernel_rfl
theorem entry_dul : entryFor table "dict.update.loop" = some Builtin.«dict.update.loop» := entryFor_of_tree (by kernel_rfl)
theorem plain_dul : plainId "dict.update.loop" = true := by decide +kernel
section
variable {prog : Program} {w : World} {A : Around} {E : Value → Shared → Prop} {s : Shared}
theorem getAttr_miss_listF {a : Addr} {o : Obj} {xs : Array Value} {k : Nat} {name : Str} {u : Tok} {Q : Value → Shared → Prop}
    (hx : s.heap.get? a = some o) (hc : o.cls = .type "list") (hdat : o.data = .seq xs k) (hd : o.dict = none) (hmiss : typeLookup (.type "list") name = pure none) (hname : (["__module__", "__name__", "__qualname__", "__doc__", "__annotations__"] : List Str).contains name = false) (hA : A.handled = none)
    (h : ∀ h' tk e, Heap.NewExcOf s.heap h' e "AttributeError" → E (.ref e) { s with heap := h', toks := tk }) (hsz : name.length + 100 ≤ sizeLine := by size_fits) :
    wpAny (model prog w) A (getAttrBy (.ref a) (.str name u) false) Q E s := by
  obtain ⟨c, dct, dat, sl⟩ := o
  simp only at hc hdat hd
  subst hc hdat hd
  obtain ⟨hp, g, d, tk, os⟩ := s
  have hT : ∀ tk', (⟨hp, g, d, tk', os⟩ : Shared).TypeIs (.ref a) "list" := fun _ => ⟨_, hx, rfl⟩
  have f1 := sub_AttributeError
  have f3 := F.slot_list_getattribute.lookup
  have f4 := F.slot_list_getattribute.bind (.ref a)
  have f5 := am_list_getattr_none
  unfold getAttrBy
  repeat (any_goals (first | assumption | exact hT _ | ((with_reducible show wpAny _ _ (call (Value.builtin "list.__getattribute__") _ _) _ _ _); refine call_meets F.slot_list_getattribute (hT _) am_entry_list_getattribute (F.args_list_getattribute_2 _ _) (meets_getattribute_miss_list a xs k sl name _ hmiss hname hsz) ⟨hx, hA, fun h' tk' e hx' => ?_⟩) | wp_step))
  obtain ⟨t', u', he⟩ := hx'.there
  show wpAny _ _ (getattributeRaised _ _ _ _ _ _ _) _ _ _
  unfold getattributeRaised
  repeat (any_goals (first | assumption | wp_step))
  all_goals exact h _ _ _ hx'.of
end
/-- pairs to a dict -/
noncomputable def PairIs (κ : Kw) (own : List (Addr × AObj)) (v : Value) (p : Int × Int) : Prop := ∃ a t u, v = .ref a ∧ Has κ own a (.tup [.int p.1 t, .int p.2 u])
noncomputable def putAll (D : List (PyData × PyData)) : List (Int × Int) → List (PyData × PyData)
  | [] => D
  | p :: r => putAll (PyProof.V.putD (.int p.1) (.int p.2) D) r
theorem putD_len (k v : PyData) (D : List (PyData × PyData)) : (PyProof.V.putD k v D).length ≤ D.length + 1 := by
  unfold PyProof.V.putD
  split <;> simp
section
variable {b : Bs} {lv : Nat} {A : Around} {E : Value → Shared → Prop} {s : Shared} {hid : Kw} {L : Addr} {m m' : Str → Option Value} {κ₀ κ : Kw} {own own' : List (Addr × AObj)} {frs : List Env} {env : Env}
theorem R_dset {d : Addr} {D D' : List (PyData × PyData)} {i : Int} {t : Tok} {v : Value} {dv : PyData} {Q : Unit → Shared → Prop} (S : St b hid L m κ₀ κ own s) (p : Put d (.tabI D) (.tabI D') own own') (hv : PyProof.V.Flat v dv) (hz : D.length ≤ sizeLine)
    (e : PyProof.V.putD (.int i) dv D = D') (h : ∀ s', St b hid L m κ₀ κ own' s' → Q () s') : wpAny (model b.prog b.w) A (dictSet d (.int i t) v) Q E s := by
  subst e
  obtain ⟨o, ho, kvs, hd, hf⟩ := S.ow _ p.mem
  refine wpAny_dictSet_pairs (hsz := by rw [← hf.length]; exact hz) (intKind_is b.prog b.w i t) (Heap.dictOf_iff.mpr ⟨o, ho, hd⟩) fun h' hmm hs => ?_
  obtain ⟨o', ho', hd'⟩ := Heap.dictOf_iff.mp hmm
  exact h _ (S.upd (t := s.toks + 1) p hs ⟨o', ho', _, hd', hf.stored PyProof.V.same_int i hv⟩)
theorem dul_loop {l it d : Addr} {vs : List Value} {ps : List (Int × Int)} {R : Result → Shared → Prop} (hA : A.handled = none) (hps : All2 (PairIs κ own) vs ps) (kl : Has κ own l (.list vs)) (hz : vs.length ≤ 1000) :
    ∀ (n i : Nat) (D : List (PyData × PyData)) (s : Shared), vs.length = i + n → D.length ≤ i → St b hid L m κ₀ κ ((it, .lit l i) :: (d, .tabI D) :: own) s →
      (∀ s', St b hid L m κ₀ κ ((d, .tabI (putAll D (ps.drop i))) :: own) s' → R (.ok (.ret .none)) s') →
      codeAny (model b.prog b.w) A (.builtin "dict.update.loop" ⟨[.ref d, .ref it, rawInt i, .none], []⟩) R s
  | 0, i, D, s, hn, hD, S, h => by
    refine codeAny_builtin entry_dul ?_
    rw [Around.under_plainId plain_dul _]
    show wpAny _ A.in1 (pyNext (.ref it) >>= _) _ _ s
    have e : i = vs.length := by omega
    rw [e] at S
    refine wpAny_bind ((iterList b l vs).done hA S kl.tail fun s' S' => ?_)
    have e2 : ps.drop i = [] := List.drop_eq_nil_of_le (by rw [← hps.length]; omega)
    rw [e2] at h
    exact wpAny_pure (h _ S')
  | n + 1, i, D, s, hn, hD, S, h => by
    refine codeAny_builtin entry_dul ?_
    rw [Around.under_plainId plain_dul _]
    show wpAny _ A.in1 (pyNext (.ref it) >>= _) _ _ s
    refine wpAny_bind ((iterList b l vs).item (by omega) S kl.tail fun s' v hv S' => ?_)
    obtain ⟨x, hx, a, t, u, rfl, ha⟩ : ∃ x, ps[i]? = some x ∧ PairIs κ own v x := by
      obtain ⟨y, hy⟩ : ∃ y, ps[i]? = some y := ⟨_, List.getElem?_eq_getElem (show i < ps.length by rw [← hps.length]; omega)⟩
      obtain ⟨x, hx, hp⟩ := hps.get hy
      rw [hv] at hx; cases hx
      exact ⟨y, hy, hp⟩
    obtain ⟨k, hk⟩ := (S'.has ha.tail.tail).tup
    have hT : s'.TypeIs (.ref a) "tuple" := ⟨_, hk, rfl⟩
    have hdrop : ps.drop i = x :: ps.drop (i + 1) := by
      have hlt : i < ps.length := by rw [← hps.length]; omega
      rw [List.drop_eq_getElem_cons hlt]
      rw [List.getElem?_eq_getElem hlt] at hx; cases hx; rfl
    rw [hdrop] at h
    refine wpAny_bind (wpAny_holding (wpAny_bind (wpAny_tryCatch ?_)))
    unfold Builtin.Dict.pairItems
    refine wpAny_bind (wpAny_typeOf hT ?_)
    show wpAny _ _ (if (Value.type "tuple" == Value.type "list" || Value.type "tuple" == Value.type "tuple") = true then _ else _) _ _ _
    rw [if_pos (by simp)]
    refine wpAny_bind (wpAny_seqItems hk rfl (wpAny_pure ?_))
    show wpAny _ _ (holding [.int x.1 t, .int x.2 u] (dictSet d (.int x.1 t) (.int x.2 u))) _ _ _
    refine wpAny_holding (R_dset S' (.tail .head) (.int _ _) (Nat.le_trans (by omega : D.length ≤ 1000) (by decide)) rfl fun s'' S'' => ?_)
    refine wpAny_pure ⟨plainId_quiet plain_dul _, ?_⟩
    exact dul_loop hA hps kl hz n (i + 1) _ s'' (by omega) (Nat.le_trans (putD_len _ _ _) (by omega)) S'' h
theorem R_dictPairs {l : Addr} {vs : List Value} {ps : List (Int × Int)} {Q : Value → Shared → Prop} (S : St b hid L m κ₀ κ own s) (C : Cx b lv A L hid frs) (kl : Has κ own l (.list vs)) (hps : All2 (PairIs κ own) vs ps) (hz : vs.length ≤ 1000)
    (h : ∀ s' d, St b hid L m κ₀ κ ((d, .tabI (putAll [] ps)) :: own) s' → Q (.ref d) s') : wpAny (model b.prog b.w) A (call (.type "dict") [.ref l]) Q E s := by
  obtain ⟨n, x⟩ := (S.has kl).list
  refine PySem.ks_callType_codesW (Q₁ := fun obj s₁ => obj = .ref s.heap.objs.size ∧ s₁ = { s with heap := s.heap.push { cls := .type "dict", data := .dict #[] } }) F.kt_called_dict (fun hq => wpAny_of_eq (F.kt_typeCall_dict_1 _) hq) F.entry_dict_init (kt_code_dict_new _ ⟨rfl, rfl⟩) ?_
  rintro obj s₁ ⟨rfl, rfl⟩
  have hnew : (s.heap.push { cls := .type "dict", data := .dict #[] }).DictOf (intKind b.prog b.w) s.heap.objs.size [] := Heap.DictOf.new s.heap
  have S1 := S.alloc (s' := { s with heap := s.heap.push { cls := .type "dict", data := .dict #[] } }) (a := s.heap.objs.size) (A := .tabI []) (Nat.le_refl _) (fun _ _ e => Heap.get?_push_of_some _ e) (by
    obtain ⟨o, ho, hd⟩ := Heap.dictOf_iff.mp hnew
    exact ⟨o, ho, [], hd, .nil⟩) rfl rfl
  obtain ⟨n1, x1⟩ := (S1.has kl.tail).list
  have hT : (Shared.mk (s.heap.push { cls := .type "dict", data := .dict #[] }) s.gens s.drawn s.toks s.os).TypeIs (.ref l) "list" := ⟨_, x1, rfl⟩
  refine ⟨hnew.typeIs, F.args_dict_init_2 _ _, ?_⟩
  unfold Builtin.«dict.__init__»
  refine wpAny_bind ?_
  unfold Builtin.Dict.selfAndRest
  refine wpAny_bind (wpAny_notOrdered_dict hnew.typeIs ?_)
  show wpAny _ _ (pure (s.heap.objs.size, [Value.ref l])) _ _ _
  refine wpAny_pure ?_
  show wpAny _ _ (Builtin.Dict.updateFrom "dict.__init__" s.heap.objs.size (.ref l) [] .none) _ _ _
  unfold Builtin.Dict.updateFrom
  refine wpAny_bind (wpAny_typeOf hT ?_)
  rw [if_pos (by decide)]
  refine wpAny_bind ?_
  unfold getAttr? getAttrBy?
  refine wpAny_bind (wpAny_mkText (wpAny_bind (wpAny_attempt ?_)))
  refine getAttr_miss_listF x1 rfl rfl rfl lk_list_keys (by decide) C.hd (fun h' tk e hx => ?_) (by decide +kernel)
  have S2 := (S1.keeps (s' := { s with heap := h' }) hx.keeps rfl rfl).toks tk
  obtain ⟨ob, vs', he, hc, -⟩ := hx.there
  refine wpAny_bind (wpAny_isInstance (T := "AttributeError") ⟨ob, he, hc⟩ sub_AttributeError ?_)
  refine wpAny_pure ?_
  refine wpAny_bind (wpAny_rule (wpAny_bind (R_iterList S2 kl.tail fun s₃ it S₃ => wpAny_pure ⟨plainId_quiet plain_dul _, ?_⟩)))
  refine dul_loop (A := A.in1) (κ := κ) (own := own) C.hd hps kl hz vs.length 0 [] s₃ (by omega) (Nat.le_refl _) S₃ fun s₄ S₄ => ?_
  exact ⟨rfl, h _ _ S₄⟩
end
section
variable {b : Bs} {lv : Nat} {A : Around} {E : Value → Shared → Prop} {s : Shared} {hid : Kw} {L : Addr} {m m' : Str → Option Value} {κ₀ κ : Kw} {own own' : List (Addr × AObj)} {frs : List Env} {env : Env}
theorem R_dictCopy {l : Addr} {D : List (PyData × PyData)} {Q : Value → Shared → Prop} (S : St b hid L m κ₀ κ own s) (k : Has κ own l (.tabI D)) (hz : D.length ≤ sizeLine)
    (h : ∀ s' d, St b hid L m κ₀ κ ((d, .tabI D) :: own) s' → Q (.ref d) s') : wpAny (model b.prog b.w) A (call (.type "dict") [.ref l]) Q E s := by
  obtain ⟨lo, kvs, hd, hf⟩ := S.tabI k
  refine kt_call_dict lo hd (by rw [← hf.length]; exact hz) fun h' hm hs => ?_
  obtain ⟨o', ho', hd'⟩ := Heap.dictOf_iff.mp hm
  refine h _ _ (S.alloc (s' := { s with heap := h' }) (Nat.le_refl _) (fun a o e => ?_) ⟨o', ho', kvs, hd', hf⟩ rfl rfl)
  exact (hs.2 a (Nat.ne_of_lt (Heap.lt_size e))).trans (Heap.get?_push_of_some _ e)
end
inductive RuleK (κ : Kw) (v : Value) (r : Int × Int × Int) : Prop
  | mk (a d rt : Addr) (num : Int) (tn tl tb : Tok) (rv : List Value) (v1 v2 v3 : Value) (e : v = .ref a) (k1 : κ a (.inst 754 d)) (k2 : κ d (.attrs 754 [("number", .int num tn), ("left", .int r.1 tl), ("right", .ref rt), ("level_of", v1), ("action", v2), ("line", v3), ("before", .int r.2.2 tb)])) (k3 : κ rt (.tup rv)) (hl : (rv.length : Int) = r.2.1)
section
variable {b : Bs} {lv : Nat} {A : Around} {E : Value → Shared → Prop} {s : Shared} {hid : Kw} {L : Addr} {m m' : Str → Option Value} {κ₀ κ : Kw} {ex own own' : List (Addr × AObj)} {frs : List Env} {env : Env} {M : MCx} {vt : Virt} {cf : Cfg} {flts : List Flt}
set_option maxHeartbeats 2000000
theorem rule_new {v1 v2 v3 v4 v5 v6 v7 : Value} {Q : Value → Shared → Prop} (G : Gd b) (C : Cx b (lv + 2) A L hid frs) (S : St b hid L m κ₀ κ (ex ++ own) s)
    (h1 : handedIn v1 = true) (h2 : handedIn v2 = true) (h3 : handedIn v3 = true) (h4 : handedIn v4 = true) (h5 : handedIn v5 = true) (h6 : handedIn v6 = true) (h7 : handedIn v7 = true)
    (ok : ∀ s' a d, St b hid L m κ₀ κ (ex ++ (a, .inst 754 d) :: (d, .attrs 754 [("number", v1), ("left", v2), ("right", v3), ("level_of", v4), ("action", v5), ("line", v6), ("before", v7)]) :: own) s' → Q (.ref a) s') :
    wpAny (model b.prog b.w) A (call (.ref 754) [v1, v2, v3, v4, v5, v6, v7]) Q E s := by
  refine new_cx (fun y => [("before", v7), ("line", v6), ("action", v5), ("level_of", v4), ("right", v3), ("left", v2), ("number", v1), ("self", .ref y)]) G C S (by k_is) (by k_is) (by k_is) (by k_is) (by k_is) (fun _ _ X => binds_K X rfl (by k_is) rfl rfl rfl) (fun _ => locs rfl) rfl rfl rfl (by decide)
    fun x d L' hid' s' A' env' hE hI C' S' ret => ?_
  repeat' k_extra "z"
  exact ⟨rfl, ok _ _ _ (ret.st (by assumption))⟩
theorem All2.getL {α β : Type} {F : α → β → Prop} {l : List α} {r : List β} {i : Nat} {x} (h : All2 F l r) (e : l[i]? = some x) : ∃ y, r[i]? = some y ∧ F x y := by
  induction h generalizing i with
  | nil => cases i <;> cases e
  | cons a _ ih => cases i with
    | zero => cases e; exact ⟨_, rfl, a⟩
    | succ i => exact ih e
theorem cons_ex {α : Type} {P : List α → Prop} {l : List α} {n : Nat} (h : l.length = n + 1) (k : ∀ a r, r.length = n → P (a :: r)) : P l := by
  cases l with
  | nil => cases h
  | cons a r => exact k a r (Nat.succ.inj h)
theorem eightP {α : Type} {P : List α → Prop} {l : List α} (h : l.length = 8) (k : ∀ a0 a1 a2 a3 a4 a5 a6 a7, P [a0, a1, a2, a3, a4, a5, a6, a7]) : P l :=
  cons_ex h fun a0 _ h => cons_ex (P := fun l => P (a0 :: l)) h fun a1 _ h => cons_ex (P := fun l => P (a0 :: a1 :: l)) h fun a2 _ h => cons_ex (P := fun l => P (a0 :: a1 :: a2 :: l)) h fun a3 _ h =>
    cons_ex (P := fun l => P (a0 :: a1 :: a2 :: a3 :: l)) h fun a4 _ h => cons_ex (P := fun l => P (a0 :: a1 :: a2 :: a3 :: a4 :: l)) h fun a5 _ h => cons_ex (P := fun l => P (a0 :: a1 :: a2 :: a3 :: a4 :: a5 :: l)) h fun a6 _ h =>
      cons_ex (P := fun l => P (a0 :: a1 :: a2 :: a3 :: a4 :: a5 :: a6 :: l)) h fun a7 r h => (List.eq_nil_of_length_eq_zero h) ▸ k a0 a1 a2 a3 a4 a5 a6 a7
theorem eight {α : Type} {l : List α} (h : l.length = 8) : ∃ a0 a1 a2 a3 a4 a5 a6 a7, l = [a0, a1, a2, a3, a4, a5, a6, a7] := by
  refine eightP (P := fun l => ∃ a0 a1 a2 a3 a4 a5 a6 a7, l = [a0, a1, a2, a3, a4, a5, a6, a7]) h fun a0 a1 a2 a3 a4 a5 a6 a7 => ⟨a0, a1, a2, a3, a4, a5, a6, a7, rfl⟩
theorem grammar_new {md lvl : Addr} {mdv : List Value} {rs : List (Int × Int × Int)} {t1 t2 : Tok} {Q : Value → Shared → Prop} (G : Gd b) (C : Cx b (lv + 2) A L hid frs) (S : St b hid L m κ₀ κ (ex ++ own) s)
    (hnv : κ 841 (.list namesV)) (hm : κ md (.list mdv)) (hr : All2 (RuleK κ) mdv rs) (hl : rs.length ≤ 4) (hb : ∀ r ∈ rs, (r.1 = 5 ∨ r.1 = 6 ∨ r.1 = 7) ∧ 0 ≤ r.2.1 ∧ r.2.1 ≤ 3)
    (ok : ∀ s' a d rest, St b hid L m κ₀ κ (ex ++ (a, .inst 836 d) :: (d, .attrs 836 (("names", .ref 841) :: ("terminal_count", .int 5 t1) :: ("rules", .ref md) :: rest)) :: own) s' → Q (.ref a) s') :
    wpAny (model b.prog b.w) A (call (.ref 836) [.ref 841, .int 5 t1, .ref md, .ref lvl, .none, .int 6 t2]) Q E s := by
  refine new_cx (fun y => [("start", .int 6 t2), ("expect", .none), ("levels", .ref lvl), ("rules", .ref md), ("terminal_count", .int 5 t1), ("names", .ref 841), ("self", .ref y)]) G C S (by k_is) (by k_is) (by k_is) (by k_is) (by k_is) (fun _ _ X => BindsTo.of_eq rfl) (fun _ => locs rfl) rfl rfl rfl (by decide)
    fun x d L' hid' s' A' env' hE hI C' S' ret => ?_
  repeat' k_extra "z"
  rename_i s₉ S₉
  with_reducible refine' R_compS (cl' := []) S₉ C' hI ?cl ?fs ?sc ?x ?h
  case cl => rw [hE]; kernel_rfl
  case fs => intro _; exact rfl
  case sc => exact rfl
  case x => exact rfl
  case h =>
    repeat' k_extra "z"
    rename_i s₁ S₁
    with_reducible refine' R_iterList S₁ ?k fun s₃ it S₃ => ?_
    case k => exact .inr hnv
    refine R_rest (iterList b 841 namesV) (fun i ys κ' own' => κ = κ' ∧ ∃ as : List Addr, ys = as.map Value.ref ∧ as.length = i ∧ own' = (as.reverse.map fun a => (a, AObj.list [])) ++ (x, .inst 836 d) :: (d, .attrs 836 [("names", .ref 841), ("terminal_count", .int 5 t1), ("rules", .ref md), ("levels", .ref lvl), ("expect", .none), ("start", .int 6 t2)]) :: own) S₃ ⟨rfl, [], rfl, rfl, rfl⟩ (by decide) ?_ ?_ ?_ ?_
    · rintro i ys _ _ ⟨-, as, rfl, rfl, -⟩
      simp
    · rintro i ys _ _ ⟨rfl, -⟩
      exact .inr hnv
    · intro i acc v ys m₁ _ _ hid₂ C₂ cenv s₁ E' Nx Nf hi hp hZ16 hN hF hEc Cc S₁
      obtain ⟨rfl, as, rfl, rfl, rfl⟩ := hZ16
      with_reducible refine R_tests0 ?_
      with_reducible refine R_itT ?_
      repeat' k_extra "z"
      rename_i s₄ l S₄
      refine hN _ _ _ _ _ (S₄.perm (List.perm_append_comm_assoc [_] [_, _] _)) ⟨rfl, as ++ [l], ?_, ?_, ?_⟩ <;> simp
    · intro acc ys _ _ s₁ hZ5 S₁
      obtain ⟨rfl, as, rfl, hlen, rfl⟩ := hZ5
      obtain ⟨a0, a1, a2, a3, a4, a5, a6, a7, rfl⟩ := eight (show as.length = 8 from hlen)
      have S₂ := S₁.drop (own' := (acc, .list [.ref a0, .ref a1, .ref a2, .ref a3, .ref a4, .ref a5, .ref a6, .ref a7]) :: (a7, .list []) :: (a6, .list []) :: (a5, .list []) :: (x, .inst 836 d) :: (d, .attrs 836 [("names", .ref 841), ("terminal_count", .int 5 t1), ("rules", .ref md), ("levels", .ref lvl), ("expect", .none), ("start", .int 6 t2)]) :: own)
        (.cons_cons _ (.cons_cons _ (.cons_cons _ (.cons_cons _ (.cons _ (.cons _ (.cons _ (.cons _ (.cons _ (.refl _))))))))))
      clear S₁ S₃ S₉
      repeat' k_extra "z"
      rename_i s₅ S₅
      obtain ⟨of, ow, S₆⟩ : ∃ of ow, St b hid' L' _ κ κ ((x, .inst 836 d) :: (d, .attrs 836 [("names", .ref 841), ("terminal_count", .int 5 t1), ("rules", .ref md), ("levels", .ref lvl), ("expect", .none), ("start", .int 6 t2), ("by_left", .ref acc), ("offsets", .ref of), ("owners", .ref ow)]) ::
        (acc, .list [.ref a0, .ref a1, .ref a2, .ref a3, .ref a4, .ref a5, .ref a6, .ref a7]) :: (a7, .list []) :: (a6, .list []) :: (a5, .list []) :: (of, .list []) :: (ow, .list []) :: own) s₅ := ⟨_, _, S₅.perm (by k_extra "perm")⟩
      clear S₅
      have hml := hr.length
      with_reducible refine' R_For (iterList b md mdv) (fun i m' κ₂ own₂ => κ = κ₂ ∧ ∃ l7 l6 l5 lo lw, own₂ = ((x, .inst 836 d) :: (d, .attrs 836 [("names", .ref 841), ("terminal_count", .int 5 t1), ("rules", .ref md), ("levels", .ref lvl), ("expect", .none), ("start", .int 6 t2), ("by_left", .ref acc), ("offsets", .ref of), ("owners", .ref ow)]) ::
        (acc, .list [.ref a0, .ref a1, .ref a2, .ref a3, .ref a4, .ref a5, .ref a6, .ref a7]) :: (a7, .list l7) :: (a6, .list l6) :: (a5, .list l5) :: (of, .list lo) :: (ow, .list lw) :: own) ∧ l7.length ≤ i ∧ l6.length ≤ i ∧ l5.length ≤ i ∧ lo.length ≤ i ∧ lw.length ≤ 4 * i ∧ m' "self" = some (.ref x)) C' hI ?k ?l ?fs ?h ?src ?body ?done
      case k => exact rfl
      case l => exact rfl
      case fs => intro _; exact rfl
      case h =>
        repeat' k_extra "z"
        rename_i s₇ S₇
        with_reducible refine' R_iterList S₇ ?k fun s₈ it S₈ => ?_
        case k => exact .inr hm
        exact ⟨it, _, _, _, rfl, S₈, rfl, [], [], [], [], [], rfl, Nat.le_refl _, Nat.le_refl _, Nat.le_refl _, Nat.le_refl _, Nat.le_refl _, rfl⟩
      case src => rintro i m₁ _ _ ⟨rfl, -⟩; exact .inr hm
      case body =>
        intro i it v m₁ _ _ s₇ E' Nx hi hp hZ11 hN S₇
        obtain ⟨rfl, l7, l6, l5, lo, lw, rfl, b7, b6, b5, bo, bw, n1⟩ := hZ11
        obtain ⟨r, hrr, ra, rd, rt, num, tn, tl, tb, rv, v1, v2, v3, rfl, k1, k2, k3, hrl⟩ := hr.getL hp
        obtain ⟨hleft, h0, h3⟩ := hb r (List.mem_of_getElem? hrr)
        have z7 : l7.length ≤ sizeLine := Nat.le_trans (by omega : l7.length ≤ 10) (by decide)
        have z6 : l6.length ≤ sizeLine := Nat.le_trans (by omega : l6.length ≤ 10) (by decide)
        have z5 : l5.length ≤ sizeLine := Nat.le_trans (by omega : l5.length ≤ 10) (by decide)
        have zo : lo.length ≤ sizeLine := Nat.le_trans (by omega : lo.length ≤ 10) (by decide)
        have zw : lw.length ≤ 1000000 := by omega
        refine R_execs (R_joinK (fun KK => ∀ s₂ l7' l6' l5', St b hid' L' (nset (Str.ofString "rule") (.ref ra) m₁) κ κ ((it, .lit md (i + 1)) :: ((x, .inst 836 d) :: (d, .attrs 836 [("names", .ref 841), ("terminal_count", .int 5 t1), ("rules", .ref md), ("levels", .ref lvl), ("expect", .none), ("start", .int 6 t2), ("by_left", .ref acc), ("offsets", .ref of), ("owners", .ref ow)]) ::
          (acc, .list [.ref a0, .ref a1, .ref a2, .ref a3, .ref a4, .ref a5, .ref a6, .ref a7]) :: (a7, .list l7') :: (a6, .list l6') :: (a5, .list l5') :: (of, .list lo) :: (ow, .list lw) :: own)) s₂ → l7'.length ≤ i + 1 → l6'.length ≤ i + 1 → l5'.length ≤ i + 1 → KK s₂) ?_ ?_)
        · intro KK hK
          rcases hleft with e | e | e
          all_goals
            rw [e] at k2
            repeat' k_extra "z"
            rename_i s₈ S₈
            refine ⟨rfl, hK _ _ _ _ S₈ ?_ ?_ ?_⟩ <;> (try rw [List.length_append, List.length_singleton]) <;> omega
        · rintro s₈ l7' l6' l5' S₈ c7 c6 c5
          have hz2 : 0 ≤ (rv.length : Int) + 1 := by omega
          have hz3 : (rv.length : Int) + 1 ≤ 1000 := by omega
          have hz4 : rv.length ≤ 1000000 := by omega
          have hz5 : lw.length + (List.replicate ((rv.length : Int) + 1).toNat (Value.int num tn)).length ≤ sizeLine := by rw [List.length_replicate]; exact Nat.le_trans (by omega : _ ≤ 100) (by decide)
          repeat' k_extra "z"
          rename_i s₉ S₉
          refine hN _ _ _ _ (S₉.drop (.cons _ (.cons _ (.refl _)))) ⟨rfl, l7', l6', l5', _, _, rfl, c7, c6, c5, ?_, ?_, n1⟩
          · rw [List.length_append, List.length_singleton]; omega
          · rw [List.length_append, List.length_replicate]; omega
      case done =>
        intro m₁ _ _ s₇ hZ4 S₇
        obtain ⟨rfl, l7, l6, l5, lo, lw, rfl, b7, b6, b5, bo, bw, n1⟩ := hZ4
        have hz : lw.length ≤ 1000000 := by omega
        repeat' k_extra "z"
        rename_i s₈ S₈
        exact ⟨rfl, ok _ _ _ _ (ret.st (S₈.drop (.cons_cons _ (.cons_cons _ (.cons _ (.cons _ (.cons _ (.cons _ (.cons _ (.cons _ (.refl _)))))))))))⟩
end
section
variable {b : Bs} {lv : Nat} {A : Around} {E : Value → Shared → Prop} {s : Shared} {hid : Kw} {L : Addr} {m m' : Str → Option Value} {κ₀ κ : Kw} {ex own own' : List (Addr × AObj)} {frs : List Env} {env : Env} {M : MCx} {vt : Virt} {cf : Cfg} {flts : List Flt}
set_option maxHeartbeats 2000000
theorem R_setS {d : Addr} {D D' : List (PyData × PyData)} {x : Str} {t : Tok} {v : Value} {dv : PyData} {Q : Unit → Shared → Prop} (S : St b hid L m κ₀ κ own s) (p : Put d (.tabS D) (.tabS D') own own') (hv : PyProof.V.Flat v dv) (hz : D.length ≤ sizeLine)
    (e : PyProof.V.putD (.str x) dv D = D') (h : ∀ s', St b hid L m κ₀ κ own' s' → Q () s') : wpAny (model b.prog b.w) A (setItem (.ref d) (.str x t) v) Q E s := by
  subst e
  obtain ⟨o, ho, kvs, hd, hf⟩ := S.ow _ p.mem
  have hdL : d ≠ L := fun q => S.oL (q ▸ List.mem_map_of_mem p.mem)
  have N := S.newsN hdL (S.ob p.mem) ho
  exact setItem_madeIn (rest := []) (hsz := hz) PyProof.V.same_str (strKind_is _ _ _ _) hv S.fr N (fun q hq => (mem_others.mp (show (q.1, q.2) ∈ _ from hq)).2.1) (fun _ hq => nomatch hq) hd hf
    fun h' o' F' N' hd' hf' => h _ (S.updN (t := s.toks + 1) p F' N' ⟨_, hd', hf'⟩)
theorem St.dictS {d : Addr} (S : St b hid L m κ₀ κ own s) (p : Put d (.tabI []) (.tabS []) own own') : St b hid L m κ₀ κ own' s := by
  obtain ⟨o, ho, kvs, hd, hf⟩ := S.ow _ p.mem
  have e : kvs = [] := by cases hf; rfl
  subst e
  refine S.upd (t := s.toks) p (Heap.SameBut.refl _ _) ⟨o, ho, [], ?_, .nil⟩
  obtain ⟨es, ep, h1, h2, h3, h4, h5⟩ := hd
  have hes : es.toList = [] := by
    cases hl : es.toList with
    | nil => rfl
    | cons e r => have := h4.length; rw [hl] at this; simp at this
  have hes' : es = #[] := by simpa using hes
  subst hes'
  exact ⟨#[], ep, h1, h2, by first | exact h3 | (intro e he; exact absurd he (by simp)) | simp [KeysOf], by first | exact .nil | (rw [hes] at h4; exact h4) | simp, List.nodup_nil⟩
theorem num_put (i : Nat) (h : i < 5) : PyProof.V.putD (.str (nameOf i)) (.int i) (numD.take i) = numD.take (i + 1) := by
  match i, h with
  | 0, _ => rfl
  | 1, _ => rfl
  | 2, _ => rfl
  | 3, _ => rfl
  | 4, _ => rfl
theorem tables_init {x d ls lns bfs : Addr} {t5 : Tok} {Q : Value → Shared → Prop} (G : Gd b) (C : Cx b (lv + 1) A L hid frs) (hnv : κ 841 (.list namesV)) (S : St b hid L m κ₀ κ (ex ++ (x, .inst 245 d) :: (d, .attrs 245 []) :: own) s)
    (ok : ∀ s' nms df, St b hid L m κ₀ κ (ex ++ (x, .inst 245 d) :: (d, .attrs 245 [("names", .ref 841), ("terminal_count", .int 5 t5), ("lefts", .ref ls), ("lengths", .ref lns), ("befores", .ref bfs), ("defaults", .ref df), ("numbers", .ref nms)]) :: (nms, .tabS numD) :: own) s' → Q .none s') :
    CallC b A 123 [.ref x, .ref 841, .int 5 t5, .ref ls, .ref lns, .ref bfs] Q E s := by
  refine call_cd [("befores", .ref bfs), ("lengths", .ref lns), ("lefts", .ref ls), ("terminal_count", .int 5 t5), ("names", .ref 841), ("self", .ref x)] G C S (by k_is) (by k_is) (BindsTo.of_eq rfl) (locs rfl) rfl rfl rfl (by decide) fun L' hid' s' A' env' hE hI hA C' S' ret => ?_
  repeat' k_extra "z"
  rename_i s₂ S₂
  obtain ⟨nms, df, S₃⟩ : ∃ nms df, St b hid' L' _ κ κ ((x, .inst 245 d) :: (d, .attrs 245 [("names", .ref 841), ("terminal_count", .int 5 t5), ("lefts", .ref ls), ("lengths", .ref lns), ("befores", .ref bfs), ("defaults", .ref df), ("numbers", .ref nms)]) :: (nms, .tabS []) :: (df, .list []) :: own) s₂ :=
    ⟨_, _, St.dictS (S₂.perm (by k_extra "perm")) (.tail (.tail .head))⟩
  clear S₂
  with_reducible refine' R_For (iterRange b 5) (fun i m' κ₂ own₂ => κ = κ₂ ∧ own₂ = ((x, .inst 245 d) :: (d, .attrs 245 [("names", .ref 841), ("terminal_count", .int 5 t5), ("lefts", .ref ls), ("lengths", .ref lns), ("befores", .ref bfs), ("defaults", .ref df), ("numbers", .ref nms)]) :: (nms, .tabS (numD.take i)) :: (df, .list []) :: own) ∧
    m' "self" = some (.ref x) ∧ m' "names" = some (.ref 841)) C' hI ?k ?l ?fs ?h ?src ?body ?done
  case k => exact rfl
  case l => exact rfl
  case fs => intro _; exact rfl
  case src => exact fun _ _ _ _ _ => trivial
  case h =>
    repeat' k_extra "z"
    with_reducible refine' R_iterRange 5 (by assumption) ?a ?b fun s'' it S'' => ?_
    case a => k_extra "has"
    case b => decide
    exact ⟨it, _, _, _, rfl, S''.drop (.cons_cons _ (.cons _ (.refl _))), rfl, rfl, rfl, rfl⟩
  case body =>
    intro i it v m₁ _ _ s₁ E' Nx hi hZ10 hZ11 hN S₁
    obtain ⟨t, rfl⟩ := hZ10
    obtain ⟨rfl, rfl, n2, n3⟩ := hZ11
    obtain ⟨tx, hx⟩ := namesV_get (n := (i : Int)) (by omega) (by omega)
    repeat' k_extra "z"
    with_reducible refine' R_setS (by assumption) ?pp (.int _ _) ?zz (num_put i hi) fun s₂ S₂ => ?_
    case pp => k_extra "put"
    case zz => rw [List.length_take]; exact Nat.le_trans (Nat.min_le_right _ _) (by decide)
    repeat' k_extra "z"
    exact hN _ _ _ _ S₂ ⟨rfl, rfl, n2, n3⟩
  case done =>
    intro m₁ _ _ s₁ hZ4 S₁
    obtain ⟨rfl, rfl, n2, n3⟩ := hZ4
    repeat' k_extra "z"
    exact ok _ _ _ ((ret.st S₁).drop (List.Sublist.append (List.Sublist.refl _) (.cons_cons _ (.cons_cons _ (.cons_cons _ (.cons _ (.refl _)))))))
end
section
variable {b : Bs} {lv : Nat} {A : Around} {E : Value → Shared → Prop} {s : Shared} {hid : Kw} {L : Addr} {m m' : Str → Option Value} {κ₀ κ : Kw} {ex own own' : List (Addr × AObj)} {frs : List Env} {env : Env} {M : MCx} {vt : Virt} {cf : Cfg} {flts : List Flt}
set_option maxHeartbeats 4000000
theorem rest_rules {md : Addr} {mdv : List Value} {rs : List (Int × Int × Int)} {sc' : Scope} {cl' : List (Str × Addr)} {x : Str} {elt : Expr} {mm : Addr → Str → Option Value} {F : Addr → Shared → Prop} (f : Int × Int × Int → Int) (C : Cx b lv A L hid frs) (S : St b hid L m κ₀ κ own s)
    (hm : κ md (.list mdv)) (hr : All2 (RuleK κ) mdv rs) (hz : mdv.length ≤ sizeLine)
    (helt : ∀ v r it i acc ys (m₁ : Str → Option Value) hid' C' cenv s₁ E', r ∈ rs → RuleK κ v r → EnvIs cenv sc' C' cl' → Cx b lv A C' hid' frs → St b hid' C' (nset x v m₁) κ κ ((it, .lit md (i + 1)) :: (acc, .list ys) :: own) s₁ →
      wpAny (model b.prog b.w) A (eval elt cenv) (fun y s₄ => ∃ t m', y = .int (f r) t ∧ St b hid' C' m' κ κ ((it, .lit md (i + 1)) :: (acc, .list ys) :: own) s₄) E' s₁)
    (done : ∀ acc ys s', IntsAre ys (rs.map f) → St b hid L (mm acc) κ₀ κ ((acc, .list ys) :: own) s' → F acc s') :
    wpAny (model b.prog b.w) A (pyIter (.ref md)) (CompRest b lv A L hid frs m κ₀ sc' cl' x elt [] mm F) E s := by
  with_reducible refine' R_iterList S ?k fun s₃ it S₃ => ?_
  case k => exact .inr hm
  refine R_rest (iterList b md mdv) (fun i ys κ' own' => κ = κ' ∧ own = own' ∧ IntsAre ys ((rs.take i).map f)) S₃ ⟨rfl, rfl, .nil⟩ hz ?_ ?_ ?_ ?_
  · rintro i ys _ _ ⟨-, -, h⟩
    have := h.length; rw [List.length_map, List.length_take] at this; omega
  · rintro i ys _ _ ⟨rfl, rfl, -⟩
    exact .inr hm
  · intro i acc v ys m₁ _ _ hid₂ C₂ cenv s₁ E' Nx Nf hi hp hZ16 hN hF hEc Cc S₁
    obtain ⟨rfl, rfl, hh⟩ := hZ16
    obtain ⟨r, hrr, hk⟩ := hr.getL hp
    with_reducible refine R_tests0 ?_
    with_reducible refine R_itT ?_
    refine wpAny_mono (helt v r it i acc ys m₁ hid₂ C₂ cenv s₁ E' (List.mem_of_getElem? hrr) hk hEc Cc S₁) (fun y s₄ h₄ => ?_) fun _ _ e => e
    obtain ⟨t, m', rfl, S₄⟩ := h₄
    refine hN _ _ _ _ _ S₄ ⟨rfl, rfl, ?_⟩
    rw [take_snoc hrr, List.map_append]
    exact ints_snoc hh _ _
  · intro acc ys _ _ s₁ hZ5 S₁
    obtain ⟨rfl, rfl, hh⟩ := hZ5
    rw [List.take_of_length_le (by rw [hr.length]; exact Nat.le_refl _)] at hh
    exact done acc ys s₁ hh S₁
theorem ptab_init {x d gr gd md rws gts dfs cf se : Addr} {rest : List (Str × Value)} {mdv : List Value} {rs : List (Int × Int × Int)} {t5 tm : Tok} {Q : Value → Shared → Prop} (G : Gd b) (C : Cx b (lv + 3) A L hid frs) (hnv : κ 841 (.list namesV))
    (hm : κ md (.list mdv)) (hr : All2 (RuleK κ) mdv rs) (hl : rs.length ≤ 4) (hb : ∀ r ∈ rs, r.2.1 ≤ 3)
    (kg : Has κ own gr (.inst 836 gd)) (kd : Has κ own gd (.attrs 836 (("names", .ref 841) :: ("terminal_count", .int 5 t5) :: ("rules", .ref md) :: rest)))
    (S : St b hid L m κ₀ κ (ex ++ (x, .inst 245 d) :: (d, .attrs 245 []) :: own) s)
    (ok : ∀ s' ls lns bfs nms lsv lnv bfv, IntsAre lsv (rs.map (·.1)) → IntsAre lnv (rs.map (·.2.1)) → IntsAre bfv (rs.map (·.2.2)) →
      St b hid L m κ₀ κ (ex ++ (x, .inst 245 d) :: (d, .attrs 245 [("names", .ref 841), ("terminal_count", .int 5 t5), ("lefts", .ref ls), ("lengths", .ref lns), ("befores", .ref bfs), ("defaults", .ref dfs), ("numbers", .ref nms), ("grammar", .ref gr), ("rows", .ref rws), ("gotos", .ref gts), ("conflicts", .ref cf), ("settled", .ref se), ("mode", .str "drawn" tm)]) ::
        (nms, .tabS numD) :: (ls, .list lsv) :: (lns, .list lnv) :: (bfs, .list bfv) :: own) s' → Q .none s') :
    CallC b A 221 [.ref x, .ref gr, .ref rws, .ref gts, .ref dfs, .ref cf, .ref se, .str "drawn" tm] Q E s := by
  have hml := hr.length
  have hz : mdv.length ≤ sizeLine := Nat.le_trans (by omega : mdv.length ≤ 4) (by decide)
  refine call_sup [("mode", .str "drawn" tm), ("settled", .ref se), ("conflicts", .ref cf), ("defaults", .ref dfs), ("gotos", .ref gts), ("rows", .ref rws), ("grammar", .ref gr), ("self", .ref x)] G C S (by k_is) (by k_is) (BindsTo.of_eq rfl) (locs rfl) rfl rfl rfl (by decide) fun L' hid' s' A' env' hE hI hA C' S' ret => ?_
  refine ks_wpAt_execs_cons (PySem.wpAt_of_wpAny ?_)
  with_reducible refine' R_compUseS (cl' := []) S' C' hI ?sw ?cl ?fs ?sc ?x ?k ?y ?h
  case sw => rw [hE]; kernel_rfl
  case cl => rw [hE]; kernel_rfl
  case fs => intro _; exact rfl
  case sc => exact rfl
  case x => exact rfl
  case k => exact rfl
  case y => exact rfl
  case h =>
  repeat' k_extra "z"
  rename_i s₁ S₁
  refine rest_rules (fun r => r.1) C' S₁ hm hr hz ?_ fun ls lsv s₂ hls S₂ => ?_
  · intro v r it i acc ys m₁ hid₂ C₂ cenv s₁ E' hmem hZ13 hEc Cc S₁
    obtain ⟨ra, rd, rt, num, tn, tl, tb, rv, v1, v2, v3, rfl, k1, k2, k3, hrl⟩ := hZ13
    have hzz : rv.length ≤ 1000000 := by have := hb r hmem; omega
    repeat' k_extra "z"
    exact ⟨_, _, rfl, by assumption⟩
  clear S₁
  refine ks_wpAt_execs_cons (PySem.wpAt_of_wpAny ?_)
  with_reducible refine' R_compUseS (cl' := []) S₂ C' hI ?sw ?cl ?fs ?sc ?x ?k ?y ?h
  case sw => rw [hE]; kernel_rfl
  case cl => rw [hE]; kernel_rfl
  case fs => intro _; exact rfl
  case sc => exact rfl
  case x => exact rfl
  case k => exact rfl
  case y => exact rfl
  case h =>
  repeat' k_extra "z"
  rename_i s₁ S₁
  refine rest_rules (fun r => r.2.1) C' S₁ hm hr hz ?_ fun lns lnv s₃ hlns S₃ => ?_
  · intro v r it i acc ys m₁ hid₂ C₂ cenv s₁ E' hmem hZ13 hEc Cc S₁
    obtain ⟨ra, rd, rt, num, tn, tl, tb, rv, v1, v2, v3, rfl, k1, k2, k3, hrl⟩ := hZ13
    have hzz : rv.length ≤ 1000000 := by have := hb r hmem; omega
    repeat' k_extra "z"
    exact ⟨_, _, by rw [← hrl], by assumption⟩
  clear S₁
  refine ks_wpAt_execs_cons (PySem.wpAt_of_wpAny ?_)
  with_reducible refine' R_compUseS (cl' := []) S₃ C' hI ?sw ?cl ?fs ?sc ?x ?k ?y ?h
  case sw => rw [hE]; kernel_rfl
  case cl => rw [hE]; kernel_rfl
  case fs => intro _; exact rfl
  case sc => exact rfl
  case x => exact rfl
  case k => exact rfl
  case y => exact rfl
  case h =>
  repeat' k_extra "z"
  rename_i s₁ S₁
  refine rest_rules (fun r => r.2.2) C' S₁ hm hr hz ?_ fun bfs bfv s₄ hbfs S₄ => ?_
  · intro v r it i acc ys m₁ hid₂ C₂ cenv s₁ E' hmem hZ13 hEc Cc S₁
    obtain ⟨ra, rd, rt, num, tn, tl, tb, rv, v1, v2, v3, rfl, k1, k2, k3, hrl⟩ := hZ13
    have hzz : rv.length ≤ 1000000 := by have := hb r hmem; omega
    repeat' k_extra "z"
    exact ⟨_, _, rfl, by assumption⟩
  clear S₁
  subst hE
  refine ks_wpAt_execs_cons (ks_wpAt_Expr_any ?_)
  k_extra "sup"
  refine .inr ⟨_, _, rfl, rfl, rfl, fun s₅ q' S₅ => ?_⟩
  repeat' k_extra "z"
  rename_i s₆ S₆
  refine ⟨_, _, _, S₆, fun S₇ => ?_⟩
  refine tables_init (ex := []) G C' hnv (S₇.perm (own' := (x, .inst 245 d) :: (d, .attrs 245 []) :: (bfs, .list bfv) :: (lns, .list lnv) :: (ls, .list lsv) :: own) (by k_extra "perm")) fun s₈ nms df S₈ => ?_
  rw [List.nil_append] at S₈
  refine PySem.wpAt_of_wpAny ?_
  repeat' k_extra "z"
  rename_i s₉ S₉
  refine ok _ ls lns bfs nms lsv lnv bfv hls hlns hbfs (ret.st (S₉.perm ?_))
  k_extra "perm"
theorem ptab_new {gr gd md rws gts dfs cf se : Addr} {rest : List (Str × Value)} {mdv : List Value} {rs : List (Int × Int × Int)} {t5 tm : Tok} {Q : Value → Shared → Prop} (G : Gd b) (C : Cx b (lv + 4) A L hid frs) (hnv : κ 841 (.list namesV))
    (hm : κ md (.list mdv)) (hr : All2 (RuleK κ) mdv rs) (hl : rs.length ≤ 4) (hb : ∀ r ∈ rs, r.2.1 ≤ 3)
    (kg : Has κ own gr (.inst 836 gd)) (kd : Has κ own gd (.attrs 836 (("names", .ref 841) :: ("terminal_count", .int 5 t5) :: ("rules", .ref md) :: rest)))
    (S : St b hid L m κ₀ κ (ex ++ own) s)
    (ok : ∀ s' x d ls lns bfs nms lsv lnv bfv, IntsAre lsv (rs.map (·.1)) → IntsAre lnv (rs.map (·.2.1)) → IntsAre bfv (rs.map (·.2.2)) →
      St b hid L m κ₀ κ (ex ++ (x, .inst 245 d) :: (d, .attrs 245 [("names", .ref 841), ("terminal_count", .int 5 t5), ("lefts", .ref ls), ("lengths", .ref lns), ("befores", .ref bfs), ("defaults", .ref dfs), ("numbers", .ref nms), ("grammar", .ref gr), ("rows", .ref rws), ("gotos", .ref gts), ("conflicts", .ref cf), ("settled", .ref se), ("mode", .str "drawn" tm)]) ::
        (nms, .tabS numD) :: (ls, .list lsv) :: (lns, .list lnv) :: (bfs, .list bfv) :: own) s' → Q (.ref x) s') :
    wpAny (model b.prog b.w) A (call (.ref 245) [.ref gr, .ref rws, .ref gts, .ref dfs, .ref cf, .ref se, .str "drawn" tm]) Q E s := by
  refine new_call G C S (by k_is) (by k_is) (by k_is) fun x d s' A' C' S' => ?_
  exact ptab_init G C' hnv hm hr hl hb kg kd S' fun s' ls lns bfs nms lsv lnv bfv h1 h2 h3 S'' => ⟨rfl, ok _ _ _ _ _ _ _ _ _ _ h1 h2 h3 S''⟩
end
noncomputable def CellLike : AObj → Prop
  | .cell _ => True
  | .emptyCell => True
  | _ => False
section
variable {b : Bs} {lv : Nat} {A : Around} {E : Value → Shared → Prop} {s : Shared} {hid : Kw} {L : Addr} {m m' : Str → Option Value} {κ₀ κ : Kw} {own own' : List (Addr × AObj)} {frs : List Env} {env : Env} {sc : Scope} {cl cl' : List (Str × Addr)} {x y : Str} {v : Value}
theorem Knows.cellLike {h : Heap} {c : Addr} {X : AObj} (k : Knows b h c X) (hX : CellLike X) : ∃ v₀, h.IsCell c v₀ := by
  obtain ⟨o, e, hi⟩ := k
  cases X with
  | cell w => exact ⟨some w, o, e, hi⟩
  | emptyCell => exact ⟨none, o, e, hi⟩
  | _ => exact hX.elim
theorem R_storeC {c : Addr} {X : AObj} {Q : Unit → Shared → Prop} (hE : EnvIs env sc L cl) (S : St b hid L m κ₀ κ own s) (hc : cl.lookup x = some c) (p : Put c X (.cell v) own own') (hX : CellLike X) (hk : sc.kind = .function) (hl : sc.names.lookup x = some .cell)
    (h : ∀ s', St b hid L m κ₀ κ own' s' → Q () s') : wpAny (model b.prog b.w) A (storeName env x v) Q E s := by
  obtain ⟨v₀, hv⟩ := (S.ow _ p.mem).cellLike hX
  refine wpAny_storeName_cell (by rw [hE.sc]; exact hk) (hE.kind hl) (by rw [hE.ce]; exact hc) hv fun h' hi hs => ?_
  obtain ⟨o, ho, hd⟩ := hi
  exact h _ (S.upd (t := s.toks) p hs ⟨o, ho, hd⟩)
end
noncomputable def CellOk (st ru : Int) (c : Int) : Prop := c = ACCEPTz ∨ c = BARREDz ∨ (0 ≤ c ∧ c < st) ∨ (c < 0 ∧ -c ≤ ru)
theorem Tub.mono {t : Addr} {N N' : Nat} {own : List (Addr × AObj)} (T : Tub t N own) (h : N ≤ N') : Tub t N' own := by
  obtain ⟨c, x, n, sm, tx, tn, ts, vs, cells, e, h1, h2, h3, h4, h5, h6, h7⟩ := T
  exact ⟨c, x, n, sm, tx, tn, ts, vs, cells, e, h1, h2, h3, by omega, h5, h6, h7⟩
section
variable {b : Bs} {lv : Nat} {A : Around} {E : Value → Shared → Prop} {s : Shared} {hid : Kw} {L : Addr} {m m' : Str → Option Value} {κ₀ κ : Kw} {ex own own' : List (Addr × AObj)} {frs : List Env} {env : Env} {M : MCx} {vt : Virt} {cf : Cfg} {flts : List Flt}
set_option maxHeartbeats 2000000
theorem cell_spec {t : Addr} {N : Nat} {st ru : Int} {t1 t2 : Tok} {Q : Value → Shared → Prop} (G : Gd b) (C : Cx b (lv + 2) A L hid frs) (S : St b hid L m κ₀ κ (ex ++ own) s) (T : Tub t N own) (hN : N ≤ 90000) (hst : 2 ≤ st ∧ st ≤ 5) (hru : 1 ≤ ru ∧ ru ≤ 3)
    (ok : ∀ s' own' c tc, St b hid L m κ₀ κ (ex ++ own') s' → Tub t (N + 2) own' → CellOk st ru c → Q (.int c tc) s') :
    wpAny (model b.prog b.w) A (call (.ref 860) [.ref t, .int st t1, .int ru t2]) Q E s := by
  refine call_cx [("rules", .int ru t2), ("states", .int st t1), ("tub", .ref t)] G C S (by k_is) (by k_is) (BindsTo.of_eq rfl) (locs rfl) rfl rfl rfl (by decide) fun L' hid' s' A' env' hE hI hA C' S' ret => ?_
  repeat' k_extra "z"
  refine cup_spec (ex := []) (lv := lv) G C' (St.nil (by assumption)) T (by omega) (by decide) (by decide) fun s₂ own₂ d td S₂ T₂ h0 h7 => ?_
  rw [List.nil_append] at S₂
  repeat' k_extra "z"
  k_extra "zi"
  · repeat' k_extra "z"
    refine cup_spec (ex := []) (lv := lv) G C' (St.nil (by assumption)) T₂ (by omega) (by omega) (by omega) fun s₃ own₃ d₃ td₃ S₃ T₃ g0 g1 => ?_
    rw [List.nil_append] at S₃
    repeat' k_extra "z"
    exact ok _ _ _ _ (ret.st (by assumption)) T₃ (.inr (.inr (.inl ⟨by omega, by omega⟩)))
  · clear hq
    repeat' k_extra "z"
    k_extra "zi"
    · repeat' k_extra "z"
      refine cup_spec (ex := []) (lv := lv) G C' (St.nil (by assumption)) T₂ (by omega) (by omega) (by omega) fun s₃ own₃ d₃ td₃ S₃ T₃ g0 g1 => ?_
      rw [List.nil_append] at S₃
      repeat' k_extra "z"
      exact ok _ _ _ _ (ret.st (by assumption)) T₃ (.inr (.inr (.inr ⟨by omega, by omega⟩)))
    · clear hq
      repeat' k_extra "z"
      k_extra "zi"
      · repeat' k_extra "z"
        rename_i s₃ l S₃
        refine cup_spec (ex := [_]) (lv := lv) G C' S₃ T₂ (by omega) (by omega) (by omega) fun s₄ own₄ d₄ td₄ S₄ T₄ g0 g1 => ?_
        have fin : ∀ c tc, CellOk st ru c → SeqK (model b.prog b.w) A' [] env' (RetK Q) (ExcK (model b.prog b.w) A' env' E) (Flow.ret (.int c tc)) s₄ := fun c tc hc =>
          ok _ _ _ _ (ret.st (S₄.drop (List.sublist_cons_self _ _))) T₄ hc
        obtain rfl | rfl | rfl | rfl : d₄ = 0 ∨ d₄ = 1 ∨ d₄ = 2 ∨ d₄ = 3 := by omega
        · repeat' k_extra "z"
          exact fin _ _ (.inr (.inr (.inl ⟨by omega, by omega⟩)))
        · repeat' k_extra "z"
          exact fin _ _ (.inl rfl)
        · repeat' k_extra "z"
          exact fin _ _ (.inr (.inl rfl))
        · repeat' k_extra "z"
          exact fin _ _ (.inr (.inr (.inl ⟨by omega, by omega⟩)))
      · repeat' k_extra "z"
        exact ok _ _ _ _ (ret.st (by assumption)) (T₂.mono (by omega)) (.inr (.inr (.inl ⟨by omega, by omega⟩)))
end
inductive TupK (κ : Kw) (v : Value) (r : Int × Int × Int) : Prop
  | mk (a : Addr) (t1 t2 t3 : Tok) (e : v = .ref a) (k : κ a (.tup [.int r.1 t1, .int r.2.1 t2, .int r.2.2 t3]))
inductive RowK (κ : Kw) (v : Value) (row : List Int) : Prop
  | mk (a : Addr) (vs : List Value) (e : v = .ref a) (k : κ a (.list vs)) (i : IntsAre vs row)
noncomputable def GotK (κ : Kw) (v : Value) (D : List (PyData × PyData)) : Prop := ∃ a, v = .ref a ∧ κ a (.tabI D)
noncomputable def RB (r : Int × Int × Int) : Prop := (r.1 = 6 ∨ r.1 = 7) ∧ (0 ≤ r.2.1 ∧ r.2.1 ≤ 3) ∧ 0 ≤ r.2.2 ∧ r.2.2 ≤ 2
noncomputable def GotB (n : Int) (D : List (PyData × PyData)) : Prop := ∀ l, PySem.Spec.lookup (.int l) D = none ∨ ∃ g, PySem.Spec.lookup (.int l) D = some (.int g) ∧ 0 ≤ g ∧ g < n
noncomputable def RowB (n ru : Int) (row : List Int) : Prop := row.length = 5 ∧ (∀ c ∈ row, CellOk n ru c) ∧ row[1]? = some 0
theorem cells_1 {cs : List (Str × Addr)} {x1 : Str} (h : cs.map (·.1) = [x1]) : ∃ a1, cs = [(x1, a1)] := by
  obtain ⟨a, r, e, h⟩ := cells_cons h
  rw [cells_nil h] at e
  exact ⟨a, e⟩
theorem cells_2 {cs : List (Str × Addr)} {x1 x2 : Str} (h : cs.map (·.1) = [x1, x2]) : ∃ a1 a2, cs = [(x1, a1), (x2, a2)] := by
  obtain ⟨a, r, e, h⟩ := cells_cons h
  obtain ⟨a2, e2⟩ := cells_1 h
  rw [e2] at e
  exact ⟨a, a2, e⟩
theorem cells_4 {cs : List (Str × Addr)} {x1 x2 x3 x4 : Str} (h : cs.map (·.1) = [x1, x2, x3, x4]) : ∃ a1 a2 a3 a4, cs = [(x1, a1), (x2, a2), (x3, a3), (x4, a4)] := by
  obtain ⟨a, r, e, h⟩ := cells_cons h
  obtain ⟨b, r2, e2, h⟩ := cells_cons h
  obtain ⟨c, d, e3⟩ := cells_2 h
  rw [e3] at e2
  rw [e2] at e
  exact ⟨a, b, c, d, e⟩
section
variable {κ κ' : Kw}
theorem TupK.mono (h : κ.Le κ') {v r} (k : TupK κ v r) : TupK κ' v r := by obtain ⟨a, t1, t2, t3, e, k⟩ := k; exact ⟨a, t1, t2, t3, e, h _ _ k⟩
theorem RowK.mono (h : κ.Le κ') {v r} (k : RowK κ v r) : RowK κ' v r := by obtain ⟨a, vs, e, k, i⟩ := k; exact ⟨a, vs, e, h _ _ k, i⟩
theorem GotK.mono (h : κ.Le κ') {v r} (k : GotK κ v r) : GotK κ' v r := by obtain ⟨a, e, k⟩ := k; exact ⟨a, e, h _ _ k⟩
theorem PairIs.mono (h : κ.Le κ') {v p} (k : PairIs κ [] v p) : PairIs κ' [] v p := by obtain ⟨a, t, u, e, k⟩ := k; exact ⟨a, t, u, e, .inr (h _ _ k.nil)⟩
theorem PairIs.has {own : List (Addr × AObj)} {v p} (k : PairIs κ [] v p) : PairIs κ own v p := by obtain ⟨a, t, u, e, k⟩ := k; exact ⟨a, t, u, e, .inr k.nil⟩
end
theorem putAll_lookup {n : Int} : ∀ (ps : List (Int × Int)) (D : List (PyData × PyData)), (∀ p ∈ ps, 0 ≤ p.2 ∧ p.2 < n) → GotB n D → GotB n (putAll D ps)
  | [], _, _, h => h
  | p :: r, D, hp, h => by
    refine putAll_lookup r _ (fun q hq => hp q (.tail _ hq)) fun l => ?_
    rw [PyProof.Rows.lookup_putD_int]
    split
    · have := hp p (.head _); exact .inr ⟨_, rfl, this⟩
    · exact h l
noncomputable def GotC (n : Int) (D : List (PyData × PyData)) : Prop := GotB n D ∧ D.length ≤ 1000
theorem putAll_len : ∀ (ps : List (Int × Int)) (D : List (PyData × PyData)), (putAll D ps).length ≤ D.length + ps.length
  | [], D => Nat.le_refl _
  | p :: r, D => Nat.le_trans (putAll_len r _) (by have := putD_len (.int p.1) (.int p.2) D; rw [List.length_cons]; omega)
theorem snoc1 {cs : List Int} {c : Int} {i : Nat} (hl : cs.length = i) (h : 1 < i → cs[1]? = some 0) (hc : i = 1 → c = 0) : 1 < i + 1 → (cs ++ [c])[1]? = some 0 := by
  intro h1
  rcases Nat.lt_or_ge 1 i with q | q
  · rw [List.getElem?_append_left (by omega)]; exact h q
  · obtain rfl : i = 1 := by omega
    rw [List.getElem?_append_right (by omega), hl, hc rfl]; rfl
theorem bd3 {N i k : Nat} (hN : N ≤ 1000) (hi : i < 1 + k) (hk : k < 3) : N + 1 + 3 * i ≤ 2000 := by omega
theorem bd3e {N k : Nat} (hk : k < 3) : N + 1 + 3 * (1 + k) ≤ N + 10 := by omega
theorem six_or {d : Int} (h0 : 0 ≤ d) (h1 : d < 2) : 6 + d = 6 ∨ 6 + d = 7 := by omega
theorem bdB {N j mn B : Nat} (e : B = N + 11 + 30 * j) (hN : N ≤ 1000) (hj : j < mn) (hm : mn ≤ 5) : B ≤ 1200 := by omega
theorem bd2 {B i : Nat} (hB : B ≤ 1200) (hi : i < 5) : B + 1 + 2 * i ≤ 2000 := by omega
theorem bd2b {B i : Nat} (hB : B ≤ 1200) (hi : i < 2) : B + 13 + 2 * i ≤ 2000 := by omega
theorem bdN {N j B : Nat} (e : B = N + 11 + 30 * j) : B + 13 + 2 * 2 ≤ N + 11 + 30 * (j + 1) := by omega
theorem bdE {N mn : Nat} (h : mn ≤ 5) : N + 11 + 30 * mn ≤ N + 1000 := by omega
theorem bdr {B : Nat} : B + 1 + 2 * 5 ≤ B + 12 := by omega
theorem up2 {a i : Nat} : a + 2 * i ≤ a + 2 * (i + 1) := Nat.add_le_add_left (Nat.mul_le_mul_left 2 (Nat.le_succ _)) _
theorem lt62k {n : Nat} (h : n ≤ 1000000) : (n : Int) < 2 ^ 62 := Int.lt_of_le_of_lt (Int.ofNat_le.mpr h) (by decide)
theorem big {a k : Nat} (h : a ≤ 2000) (hk : 2000 ≤ k) : a ≤ k := Nat.le_trans h hk
structure DrawnK (κ : Kw) (rl rw gt df : Addr) (T : TabD) : Prop where
  rl : ∃ vs, κ rl (.list vs) ∧ All2 (TupK κ) vs T.rules
  rw : ∃ vs, κ rw (.list vs) ∧ All2 (RowK κ) vs T.rows
  gt : ∃ vs, κ gt (.list vs) ∧ All2 (GotK κ) vs T.gotos
  df : ∃ vs, κ df (.list vs) ∧ IntsAre vs T.defaults
structure DrawnB (T : TabD) : Prop where
  n : 2 ≤ T.rows.length ∧ T.rows.length ≤ 5 ∧ T.gotos.length = T.rows.length ∧ T.defaults.length = T.rows.length
  ru : 1 ≤ T.rules.length ∧ T.rules.length ≤ 3
  rules : ∀ r ∈ T.rules, RB r
  rows : ∀ r ∈ T.rows, RowB T.rows.length T.rules.length r
  gotos : ∀ D ∈ T.gotos, GotC T.rows.length D
  dfs : ∀ d ∈ T.defaults, 0 ≤ d ∧ d ≤ T.rules.length
theorem two_at {t6 t7 : Tok} {v : Value} : ∀ {i : Nat}, [Value.int 6 t6, .int 7 t7][i]? = some v → ∃ n t, v = .int n t
  | 0, h => by cases h; exact ⟨_, _, rfl⟩
  | 1, h => by cases h; exact ⟨_, _, rfl⟩
  | n + 2, h => nomatch h
inductive DrawI (κ₁ : Kw) (df gt rw c1 c2 c3 c4 rl t : Addr) (mn N : Nat) (tm : Tok) (rs : List (Int × Int × Int)) (j : Nat) (m' : Str → Option Value) (κ₂ : Kw) (own₂ : List (Addr × AObj)) : Prop
  | mk (hle : κ₁.Le κ₂) (X1 : AObj) (rwv gtv dfv : List Value) (Rs : List (List Int)) (Gs : List (List (PyData × PyData))) (Ds : List Int) (T' : List (Addr × AObj)) (e : own₂ = (df, .list dfv) :: (gt, .list gtv) :: (rw, .list rwv) :: ([(c1, X1), (c2, .cell (.int (mn : Int) tm)), (c3, .cell (.ref rl)), (c4, .cell (.ref t))] ++ T'))
    (hX : CellLike X1) (hT : Tub t (N + 11 + 30 * j) T') (hR : All2 (RowK κ₂) rwv Rs) (hG : All2 (GotK κ₂) gtv Gs) (hD : IntsAre dfv Ds) (hl : Rs.length = j ∧ Gs.length = j ∧ Ds.length = j) (bR : ∀ r ∈ Rs, RowB mn rs.length r) (bG : ∀ D ∈ Gs, GotC mn D) (bD : ∀ d ∈ Ds, 0 ≤ d ∧ d ≤ rs.length)
    (n1 : m' "rows" = some (.ref rw)) (n2 : m' "gotos" = some (.ref gt)) (n3 : m' "defaults" = some (.ref df))
section
variable {b : Bs} {lv : Nat} {A : Around} {E : Value → Shared → Prop} {s : Shared} {hid : Kw} {L : Addr} {m m' : Str → Option Value} {κ₀ κ : Kw} {ex own own' : List (Addr × AObj)} {frs : List Env} {env : Env} {M : MCx} {vt : Virt} {cf : Cfg} {flts : List Flt}
set_option maxHeartbeats 4000000
theorem drawn_spec {t : Addr} {N : Nat} {Q : Value → Shared → Prop} (G : Gd b) (C : Cx b (lv + 3) A L hid frs) (S : St b hid L m κ₀ κ (ex ++ own) s) (T : Tub t N own) (hNN : N ≤ 1000)
    (ok : ∀ s' κ' own' rt rl rw gt df TD, κ.Le κ' → St b hid L m κ₀ κ' (ex ++ own') s' → Tub t (N + 1000) own' → κ' rt (.tup [.ref rl, .ref rw, .ref gt, .ref df]) → DrawnK κ' rl rw gt df TD → DrawnB TD → Q (.ref rt) s') :
    wpAny (model b.prog b.w) A (call (.ref 865) [.ref t]) Q E s := by
  refine call_cells [("tub", .ref t)] (fun _ => none) (nset "tub" (.ref t) (fun _ => none)) G C S (by k_is) (by k_is) rfl (fun x hx => .inr ?_) rfl rfl (by decide) rfl rfl rfl fun cs L' hid' s' A' env' hcs hE hI hA C' S' ret => ?_
  · cases List.mem_singleton.mp hx; exact ⟨rfl, rfl⟩
  have hcs' : cs.map (·.1) = [Str.ofString "is_bare", Str.ofString "many", Str.ofString "rules", Str.ofString "tub"] := hcs
  clear hcs
  obtain ⟨c1, c2, c3, c4, rfl⟩ := cells_4 hcs'
  clear hcs'
  have S₁ : St b hid' L' (fun _ => none) κ κ ([(c1, .emptyCell), (c2, .emptyCell), (c3, .emptyCell), (c4, .cell (.ref t))] ++ own) s' := S'
  clear S' S
  refine R_execs (R_joinK (fun KK => ∀ s₂ κ₁ rl rlv rs T', κ.Le κ₁ → κ₁ rl (.list rlv) → All2 (TupK κ₁) rlv rs → (∀ r ∈ rs, RB r) → 1 ≤ rs.length → rs.length ≤ 3 → Tub t (N + 10) T' → St b hid' L' (fun _ => none) κ κ₁ ([(c1, .emptyCell), (c2, .emptyCell), (c3, .cell (.ref rl)), (c4, .cell (.ref t))] ++ T') s₂ → KK s₂) ?_ ?_)
  · intro KK hK
    refine wpAny_Assign_Name ?_ (by rw [hE]; kernel_rfl)
    with_reducible refine' R_compS (cl' := [(Str.ofString "tub", c4)]) S₁ C' hI ?cl ?fs ?sc ?x ?h
    case cl => rw [hE]; kernel_rfl
    case fs => intro _; exact rfl
    case sc => exact rfl
    case x => exact rfl
    case h =>
      repeat' k_extra "z"
      refine cup_spec (ex := [_, _, _, _]) (lv := lv + 1) G C' (by assumption) T (Nat.le_trans hNN (by decide)) (by decide) (by decide) fun s₂ own₂ d td S₂ T₂ h0 h3 => ?_
      obtain ⟨k, rfl⟩ := Int.eq_ofNat_of_zero_le h0
      have hk : k < 3 := Int.ofNat_lt.mp h3
      have hk4 : 1 + k ≤ 4 := Nat.add_le_add_left (Nat.le_of_lt hk) 1
      have hk62 : (1 : Int) + (k : Int) < 2 ^ 62 := lt62k (n := 1 + k) (Nat.le_trans hk4 (by decide))
      repeat' k_extra "z"
      rename_i s₃ r t1 t2 t3 S₃
      have ek : (1 : Int) + (k : Int) = ((1 + k : Nat) : Int) := rfl
      rw [ek] at S₃
      with_reducible refine' R_iterRange (1 + k) S₃ ?a ?b fun s₄ it S₄ => ?_
      case a => k_extra "has"
      case b => exact Nat.lt_of_le_of_lt hk4 (by decide)
      refine R_rest (iterRange b (1 + k)) (fun i ys κ₁ own₁ => κ.Le κ₁ ∧ ∃ rs T', own₁ = [(c1, .emptyCell), (c2, .emptyCell), (c3, .emptyCell), (c4, .cell (.ref t))] ++ T' ∧ Tub t (N + 1 + 3 * i) T' ∧ All2 (TupK κ₁) ys rs ∧ rs.length = i ∧ ∀ r ∈ rs, RB r)
        (S₄.drop (.cons_cons _ (.cons _ (.refl _)))) ⟨Kw.Le.refl _, [], _, rfl, T₂, .nil, rfl, fun _ h => nomatch h⟩ (Nat.le_trans hk4 (by decide)) ?_ ?_ ?_ ?_
      · rintro i ys _ _ ⟨-, rs, T', -, -, h, rfl, -⟩
        rw [h.length]; exact Nat.le_refl _
      · exact fun _ _ _ _ _ => trivial
      · intro i acc v ys m₁ κ₁ _ hid₂ C₂ cenv s₅ E' Nx Nf hi hp hZ16 hN hF hEc Cc S₅
        obtain ⟨hle, rs, T', rfl, hT, ha, rfl, hb⟩ := hZ16
        have hBi := bd3 hNN hi hk
        with_reducible refine R_tests0 ?_
        with_reducible refine R_itT ?_
        repeat' k_extra "z"
        refine cup_spec (ex := [_, _, _, _, _, _]) (lv := lv + 1) G Cc (by assumption) hT (big hBi (by decide)) (by decide) (by decide) fun s₆ T₆ d₆ td₆ S₆ hT₆ g0 g1 => ?_
        repeat' k_extra "z"
        refine cup_spec (ex := [_, _, _, _, _, _]) (lv := lv + 1) G Cc (by assumption) hT₆ (Nat.le_trans (Nat.succ_le_succ hBi) (by decide)) (by decide) (by decide) fun s₇ T₇ d₇ td₇ S₇ hT₇ e0 e1 => ?_
        repeat' k_extra "z"
        refine cup_spec (ex := [_, _, _, _, _, _]) (lv := lv + 1) G Cc (by assumption) hT₇ (Nat.le_trans (Nat.succ_le_succ (Nat.succ_le_succ hBi)) (by decide)) (by decide) (by decide) fun s₈ T₈ d₈ td₈ S₈ hT₈ f0 f1 => ?_
        repeat' k_extra "z"
        rename_i s₉ a S₉
        have F := S₉.freeze (fz := [_]) (List.Sublist.refl _)
        refine hN _ _ _ _ _ F ⟨hle.trans (Kw.le_ext _ _), rs ++ [(6 + d₆, d₇, d₈)], T₈, rfl, hT₈.mono (Nat.le_refl _), (ha.mono fun _ _ k => k.mono (Kw.le_ext _ _)).snoc ⟨a, _, _, _, rfl, .inr (.head _)⟩, by simp, fun r hr => ?_⟩
        rcases List.mem_append.mp hr with hr | hr
        · exact hb r hr
        · cases List.mem_singleton.mp hr
          exact ⟨six_or g0 g1, ⟨e0, Int.le_of_lt_add_one (b := 3) e1⟩, f0, Int.le_of_lt_add_one (b := 2) f1⟩
      · intro acc ys κ₁ _ s₅ hZ5 S₅
        obtain ⟨hle, rs, T', rfl, hT, ha, hlen, hb⟩ := hZ5
        have F := S₅.freeze (fz := [_]) (List.Sublist.refl _)
        repeat' k_extra "z"
        rename_i s₆ S₆
        exact ⟨rfl, hK _ _ acc ys rs T' (hle.trans (Kw.le_ext _ _)) (.inr (.head _)) (ha.mono fun _ _ k => k.mono (Kw.le_ext _ _)) hb (hlen ▸ Nat.le_add_right 1 k) (hlen ▸ Nat.add_le_add_left (Nat.le_of_lt_succ hk) 1) (hT.mono (bd3e hk)) S₆⟩
  rintro s₂ κ₁ rl rlv rs T₂ hle₁ hrl hrs hrb hr1 hr3 hT₂ S₂
  clear S₁
  refine R_next (R_execs (R_joinK (fun KK => ∀ s₂ many tm T', 2 ≤ many → many ≤ 5 → Tub t (N + 11) T' → St b hid' L' (fun _ => none) κ κ₁ ([(c1, .emptyCell), (c2, .cell (.int many tm)), (c3, .cell (.ref rl)), (c4, .cell (.ref t))] ++ T') s₂ → KK s₂) ?_ ?_))
  · intro KK hK
    repeat' k_extra "z"
    refine cup_spec (ex := [_, _, _, _]) (lv := lv + 1) G C' (by assumption) hT₂ (Nat.le_trans (Nat.add_le_add_right hNN 10) (by decide)) (by decide) (by decide) fun s₃ own₃ d td S₃ T₃ h0 h3 => ?_
    repeat' k_extra "z"
    rename_i s₄ S₄
    exact ⟨rfl, hK _ _ _ _ (Int.le_add_of_nonneg_right h0) (Int.add_le_add_left (Int.le_of_lt_add_one (b := 3) h3) 2) T₃ S₄⟩
  rintro s₃ many tm T₃ hm2 hm5 hT₃ S₃
  clear S₂
  obtain ⟨mn, rfl⟩ := Int.eq_ofNat_of_zero_le (Int.le_trans (by decide) hm2)
  have hrlv := hrs.length
  have hmn5 : mn ≤ 5 := Int.ofNat_le.mp hm5
  have hm0 : 0 < (mn : Int) := Int.lt_of_lt_of_le (by decide) hm2
  have hrl1 : (1 : Int) ≤ rlv.length := by rw [hrlv]; exact Int.ofNat_le.mpr hr1
  have hrl3 : (rlv.length : Int) ≤ 3 := by rw [hrlv]; exact Int.ofNat_le.mpr hr3
  have hz5 : rlv.length ≤ 1000000 := le_eq hrlv hr3 (by decide)
  first | with_reducible refine R_next ?_ | with_reducible refine R_kseq (by assumption) (R_next ?_)
  with_reducible refine R_execs ?_
  refine Assign_Tuple_swapped (names := [Str.ofString "rows", Str.ofString "gotos", Str.ofString "defaults"]) ?_ (by rw [hE]; kernel_rfl) (by rw [hE]; kernel_rfl)
  repeat' k_extra "z"
  rename_i s₄ S₄
  obtain ⟨m₄, df, gt, rw, n1, n2, n3, S₅⟩ : ∃ (m₄ : Str → Option Value) (df gt rw : Addr), m₄ "rows" = some (.ref rw) ∧ m₄ "gotos" = some (.ref gt) ∧ m₄ "defaults" = some (.ref df) ∧ St b hid' L' m₄ κ κ₁ ((df, .list []) :: (gt, .list []) :: (rw, .list []) :: ([(c1, .emptyCell), (c2, .cell (.int (mn : Int) tm)), (c3, .cell (.ref rl)), (c4, .cell (.ref t))] ++ T₃)) s₄ :=
    ⟨_, _, _, _, rfl, rfl, rfl, S₄.drop (List.sublist_cons_self _ _)⟩
  clear S₄ S₃
  with_reducible refine' R_For (iterRange b mn) (DrawI κ₁ df gt rw c1 c2 c3 c4 rl t mn N tm rs) C' hI ?k ?l ?fs ?h ?src ?body ?done
  case k => exact rfl
  case l => exact rfl
  case fs => intro _; exact rfl
  case src => exact fun _ _ _ _ _ => trivial
  case h =>
    repeat' k_extra "z"
    rename_i s₆ r t1 t2 t3 S₆
    with_reducible refine' R_iterRange mn S₆ ?a ?b fun s₇ it S₇ => ?_
    case a => k_extra "has"
    case b => exact Nat.lt_of_le_of_lt hmn5 (by decide)
    exact ⟨it, _, _, _, rfl, S₇.drop (.cons_cons _ (.cons _ (.refl _))), Kw.Le.refl _, _, [], [], [], [], [], [], _, rfl, trivial, hT₃, .nil, .nil, .nil, ⟨rfl, rfl, rfl⟩, (fun _ h => nomatch h), (fun _ h => nomatch h), (fun _ h => nomatch h), n1, n2, n3⟩
  case body =>
    intro j it v m₁ κ₂ _ s₆ E' Nx hj hZ10 hZ11 hN S₆
    obtain ⟨tj, rfl⟩ := hZ10
    obtain ⟨hle₂, X1, rwv, gtv, dfv, Rs, Gs, Ds, T', rfl, hX1, hT', hRs, hGs, hDs, ⟨rfl, hg, hd⟩, bR, bG, bD, n1, n2, n3⟩ := hZ11
    obtain ⟨B, hBB⟩ : ∃ B, B = N + 11 + 30 * Rs.length := ⟨_, rfl⟩
    rw [← hBB] at hT'
    have hB : B ≤ 1200 := bdB hBB hNN hj hmn5
    have hRs5 : Rs.length ≤ 5 := Nat.le_trans (Nat.le_of_lt hj) hmn5
    refine R_execs (R_joinK (fun KK => ∀ s₂ cb T₂, Tub t (B + 1) T₂ → St b hid' L' (nset (Str.ofString "state") (.int (Rs.length : Int) tj) m₁) κ κ₂ ((it, .rit ((Rs.length + 1 : Nat) : Int) ((mn : Int) - ((Rs.length + 1 : Nat) : Int))) :: (df, .list dfv) :: (gt, .list gtv) :: (rw, .list rwv) :: ([(c1, .cell (.bool cb)), (c2, .cell (.int (mn : Int) tm)), (c3, .cell (.ref rl)), (c4, .cell (.ref t))] ++ T₂)) s₂ → KK s₂) ?_ ?_)
    · intro KK hK
      repeat' k_extra "z"
      k_extra "zi"
      · repeat' k_extra "z"
        refine cup_spec (ex := [_, _, _, _, _, _, _, _]) (lv := lv + 1) G C' (by assumption) hT' (Nat.le_trans hB (by decide)) (by decide) (by decide) fun s₃ own₃ d td S₃ T₃ h0 h3 => ?_
        repeat' k_extra "z"
        exact ⟨rfl, hK _ _ _ T₃ (by assumption)⟩
      · repeat' k_extra "z"
        exact ⟨rfl, hK _ _ _ (hT'.mono (Nat.le_succ _)) (by assumption)⟩
    rintro s₇ cb T₂ hT₂ S₇
    clear S₆
    first | with_reducible refine R_next ?_ | with_reducible refine R_kseq (by assumption) (R_next ?_)
    have hRl := hRs.length
    refine R_execs (R_joinK (fun KK => ∀ s₂ κ₃ rwv' Rs' T₃, κ₂.Le κ₃ → All2 (RowK κ₃) rwv' Rs' → Rs'.length = Rs.length + 1 → (∀ r ∈ Rs', RowB mn rs.length r) → Tub t (B + 12) T₃ → St b hid' L' (nset (Str.ofString "state") (.int (Rs.length : Int) tj) m₁) κ κ₃ ((it, .rit ((Rs.length + 1 : Nat) : Int) ((mn : Int) - ((Rs.length + 1 : Nat) : Int))) :: (df, .list dfv) :: (gt, .list gtv) :: (rw, .list rwv') :: ([(c1, .cell (.bool cb)), (c2, .cell (.int (mn : Int) tm)), (c3, .cell (.ref rl)), (c4, .cell (.ref t))] ++ T₃)) s₂ → KK s₂) ?_ ?_)
    · intro KK hK
      repeat' k_extra "z"
      with_reducible refine' R_compS (cl' := [(Str.ofString "tub", c4), (Str.ofString "rules", c3), (Str.ofString "many", c2), (Str.ofString "is_bare", c1)]) S₇ C' hI ?cl ?fs ?sc ?x ?h
      case cl => rw [hE]; kernel_rfl
      case fs => intro _; exact rfl
      case sc => exact rfl
      case x => exact rfl
      case h =>
        repeat' k_extra "z"
        with_reducible refine' R_iterRange 5 (by assumption) ?a ?b fun s₈ it₂ S₈ => ?_
        case a => k_extra "has"
        case b => decide
        refine R_rest (iterRange b 5) (fun i ys κ' own' => κ₂ = κ' ∧ ∃ cs T', own' = (it, AObj.rit ((Rs.length + 1 : Nat) : Int) ((mn : Int) - ((Rs.length + 1 : Nat) : Int))) :: (df, .list dfv) :: (gt, .list gtv) :: (rw, .list rwv) :: ([(c1, .cell (.bool cb)), (c2, .cell (.int (mn : Int) tm)), (c3, .cell (.ref rl)), (c4, .cell (.ref t))] ++ T') ∧
            Tub t (B + 1 + 2 * i) T' ∧ IntsAre ys cs ∧ cs.length = i ∧ (∀ c ∈ cs, CellOk mn rs.length c) ∧ (1 < i → cs[1]? = some 0))
          (S₈.drop (.cons_cons _ (.cons _ (.refl _)))) ⟨rfl, [], _, rfl, hT₂, .nil, rfl, (fun _ h => nomatch h), fun h => absurd h (by decide)⟩ (by decide) ?_ ?_ ?_ ?_
        · rintro i ys _ _ ⟨-, cs, T', -, -, h, rfl, -⟩
          rw [h.length]; exact Nat.le_refl _
        · exact fun _ _ _ _ _ => trivial
        · intro i acc v ys m₂ _ _ hid₂ C₂ cenv s₉ E' Nx Nf hi hZ15 hZ16 hN hF hEc Cc S₉
          obtain ⟨ti, rfl⟩ := hZ15
          obtain ⟨rfl, cs, T', rfl, hT, ha, rfl, hb, h1⟩ := hZ16
          have zero : CellOk mn rs.length 0 := .inr (.inr (.inl ⟨Int.le_refl _, hm0⟩))
          with_reducible refine R_tests0 ?_
          with_reducible refine R_itT ?_
          have fin : ∀ {s₅ : Shared} {c : Int} {tc : Tok} {T₅ : List (Addr × AObj)} {m₅ : Str → Option Value}, CellOk mn rs.length c → (cs.length = 1 → c = 0) → Tub t (B + 1 + 2 * (cs.length + 1)) T₅ →
              St b hid₂ C₂ m₅ κ₂ κ₂ ((it₂, .rit ((cs.length + 1 : Nat) : Int) ((5 : Nat) - ((cs.length + 1 : Nat) : Int))) :: (acc, .list ys) :: (it, AObj.rit ((Rs.length + 1 : Nat) : Int) ((mn : Int) - ((Rs.length + 1 : Nat) : Int))) :: (df, .list dfv) :: (gt, .list gtv) :: (rw, .list rwv) :: ([(c1, .cell (.bool cb)), (c2, .cell (.int (mn : Int) tm)), (c3, .cell (.ref rl)), (c4, .cell (.ref t))] ++ T₅)) s₅ →
              Nx (.int c tc) s₅ := fun hc hz hT S =>
            hN _ _ _ _ _ S ⟨rfl, cs ++ [_], _, rfl, hT, ints_snoc ha _ _, by simp, (fun c hm => by
              rcases List.mem_append.mp hm with hm | hm
              · exact hb c hm
              · cases List.mem_singleton.mp hm; exact hc), snoc1 rfl h1 hz⟩
          repeat' k_extra "z"
          k_extra "zi"
          · repeat' k_extra "z"
            rename_i sx Sx
            exact fin zero (fun _ => rfl) (hT.mono up2) Sx
          · clear hq
            repeat' k_extra "z"
            k_extra "zi"
            · repeat' k_extra "z"
              exact fin zero (fun _ => rfl) (hT.mono up2) (by assumption)
            · have hne : cs.length ≠ 1 := by intro e; rw [e] at hq; exact absurd hq (by decide)
              have hrl₂ := hle₂ _ _ hrl
              repeat' k_extra "z"
              refine cell_spec (ex := [_, _, _, _, _, _, _, _, _, _]) (lv := lv) G Cc (by assumption) hT (big (bd2 hB hi) (by decide)) ⟨hm2, hm5⟩ ⟨hrl1, hrl3⟩ fun s₁₀ T₁₀ c tc S₁₀ hT₁₀ hc => ?_
              rw [hrlv] at hc
              refine R_cutV (by assumption) ?_
              exact fin hc (fun h => absurd h hne) (hT₁₀.mono (Nat.le_refl _)) S₁₀
        · intro acc ys _ _ s₉ hZ5 S₉
          obtain ⟨rfl, cs, T', rfl, hT, ha, hl, hb, h1⟩ := hZ5
          have F := S₉.freeze (fz := [_]) (List.Sublist.refl _)
          have hzr : rwv.length ≤ sizeLine := le_eq hRl hRs5 (by decide)
          repeat' k_extra "z"
          rename_i s₁₀ S₁₀
          refine ⟨rfl, hK _ _ _ (Rs ++ [cs]) T' (Kw.le_ext _ _) ((hRs.mono fun _ _ k => k.mono (Kw.le_ext _ _)).snoc ⟨acc, ys, rfl, .inr (.head _), ha⟩) (by simp) (fun r hr => ?_) (hT.mono bdr) S₁₀⟩
          rcases List.mem_append.mp hr with hr | hr
          · exact bR r hr
          · cases List.mem_singleton.mp hr
            exact ⟨hl, hb, h1 (by decide)⟩
    rintro s₈ κ₃ rwv' Rs' T₃ hle₃ hRs' hRl' bR' hT₃ S₈
    clear S₇
    first | with_reducible refine R_next ?_ | with_reducible refine R_kseq (by assumption) (R_next ?_)
    have hzd : dfv.length ≤ sizeLine := le_eq (hDs.length.trans hd) hRs5 (by decide)
    have hrl₃ := hle₃ _ _ (hle₂ _ _ hrl)
    refine R_execs (R_joinK (fun KK => ∀ s₂ dfv' Ds' T₄, IntsAre dfv' Ds' → Ds'.length = Ds.length + 1 → (∀ d ∈ Ds', 0 ≤ d ∧ d ≤ rs.length) → Tub t (B + 13) T₄ → St b hid' L' (nset (Str.ofString "state") (.int (Rs.length : Int) tj) m₁) κ κ₃ ((it, .rit ((Rs.length + 1 : Nat) : Int) ((mn : Int) - ((Rs.length + 1 : Nat) : Int))) :: (df, .list dfv') :: (gt, .list gtv) :: (rw, .list rwv') :: ([(c1, .cell (.bool cb)), (c2, .cell (.int (mn : Int) tm)), (c3, .cell (.ref rl)), (c4, .cell (.ref t))] ++ T₄)) s₂ → KK s₂) ?_ ?_)
    · intro KK hK
      repeat' k_extra "z"
      refine cup_spec (ex := [_, _, _, _, _, _, _, _]) (lv := lv + 1) G C' (by assumption) hT₃ (Nat.le_trans (Nat.add_le_add_right hB 12) (by decide)) (Int.lt_add_one_of_le (Int.le_trans (by decide) hrl1)) (Int.le_trans (Int.add_le_add_right hrl3 1) (by decide)) fun s₉ T₉ d td S₉ hT₉ g0 g1 => ?_
      repeat' k_extra "z"
      rename_i s₁₀ S₁₀
      refine ⟨rfl, hK _ _ (Ds ++ [d]) T₉ (ints_snoc hDs _ _) (by simp) (fun x hx => ?_) hT₉ S₁₀⟩
      rcases List.mem_append.mp hx with hx | hx
      · exact bD x hx
      · cases List.mem_singleton.mp hx
        rw [hrlv] at g1
        exact ⟨g0, Int.le_of_lt_add_one g1⟩
    rintro s₉ dfv' Ds' T₄ hDs' hDl' bD' hT₄ S₉
    clear S₈
    first | with_reducible refine R_next ?_ | with_reducible refine R_kseq (by assumption) (R_next ?_)
    with_reducible refine R_execs ?_
    repeat' k_extra "z"
    with_reducible refine' R_compS (cl' := [(Str.ofString "tub", c4), (Str.ofString "many", c2)]) S₉ C' hI ?cl ?fs ?sc ?x ?h
    case cl => rw [hE]; kernel_rfl
    case fs => intro _; exact rfl
    case sc => exact rfl
    case x => exact rfl
    case h =>
      repeat' k_extra "z"
      rename_i sA t6 SA sB t7 SB s₁₀ tp S₁₀
      obtain ⟨κ₄, hle₄, ktp, S₁₁⟩ : ∃ κ₄, κ₃.Le κ₄ ∧ κ₄ tp (.tup [.int 6 t6, .int 7 t7]) ∧ St b hid' L' (nset (Str.ofString "state") (.int (Rs.length : Int) tj) m₁) κ κ₄ ((it, .rit ((Rs.length + 1 : Nat) : Int) ((mn : Int) - ((Rs.length + 1 : Nat) : Int))) :: (df, .list dfv') :: (gt, .list gtv) :: (rw, .list rwv') :: ([(c1, .cell (.bool cb)), (c2, .cell (.int (mn : Int) tm)), (c3, .cell (.ref rl)), (c4, .cell (.ref t))] ++ T₄)) s₁₀ :=
        ⟨_, Kw.le_ext _ _, .inr (.head _), S₁₀.freeze (fz := [_]) (List.Sublist.refl _)⟩
      clear S₁₀ S₉
      with_reducible refine' R_iterTup S₁₁ ?k fun s₁₂ it₂ S₁₂ => ?_
      case k => exact .inr ktp
      refine R_rest (iterTup b tp [.int 6 t6, .int 7 t7]) (fun i ys κ' own' => κ₄.Le κ' ∧ ∃ ps T', own' = (it, AObj.rit ((Rs.length + 1 : Nat) : Int) ((mn : Int) - ((Rs.length + 1 : Nat) : Int))) :: (df, .list dfv') :: (gt, .list gtv) :: (rw, .list rwv') :: ([(c1, .cell (.bool cb)), (c2, .cell (.int (mn : Int) tm)), (c3, .cell (.ref rl)), (c4, .cell (.ref t))] ++ T') ∧ Tub t (B + 13 + 2 * i) T' ∧ All2 (PairIs κ' []) ys ps ∧ ys.length ≤ i ∧ ∀ p ∈ ps, 0 ≤ p.2 ∧ p.2 < mn)
        S₁₂ ⟨Kw.Le.refl _, [], _, rfl, hT₄, .nil, Nat.le_refl _, (fun _ h => nomatch h)⟩ (Nat.le_of_ble_eq_true rfl) ?_ ?_ ?_ ?_
      · rintro i ys _ _ ⟨-, ps, T', -, -, -, h, -⟩
        exact h
      · rintro i ys κ' _ ⟨h, -⟩
        exact .inr (h _ _ ktp)
      · intro i acc v ys m₂ κ₅ _ hid₂ C₂ cenv s₁₃ E' Nx Nf hi hv hZ16 hN hF hEc Cc S₁₃
        obtain ⟨hle₅, ps, T', rfl, hT, ha, hl, hb⟩ := hZ16
        have hi2 : i < 2 := hi
        have hBi := bd2b hB hi2
        obtain ⟨lf, tlf, rfl⟩ : ∃ n t, v = .int n t := two_at hv
        with_reducible refine R_tests1 ?_
        repeat' k_extra "z"
        refine cup_spec (ex := [_, _, _, _, _, _, _, _, _, _]) (lv := lv + 1) G Cc (by assumption) hT (big hBi (by decide)) (by decide) (by decide) fun s₁₄ T₁₄ d td S₁₄ hT₁₄ g0 g1 => ?_
        repeat' k_extra "z"
        k_extra "zi"
        · repeat' k_extra "z"
          refine cup_spec (ex := [_, _, _, _, _, _, _, _, _, _]) (lv := lv + 1) G Cc (by assumption) hT₁₄ (Nat.le_trans (Nat.succ_le_succ hBi) (by decide)) (Int.sub_pos_of_lt (Int.lt_of_lt_of_le (by decide) hm2)) (Int.le_trans (Int.sub_le_self _ (by decide)) (Int.le_trans hm5 (by decide))) fun s₁₅ T₁₅ d₂ td₂ S₁₅ hT₁₅ f0 f1 => ?_
          repeat' k_extra "z"
          rename_i s₁₆ tq S₁₆
          have F := S₁₆.freeze (fz := [_]) (List.Sublist.refl _)
          refine hN _ _ _ _ _ F ⟨hle₅.trans (Kw.le_ext _ _), ps ++ [(lf, 1 + d₂)], _, rfl, hT₁₅.mono (Nat.le_refl _), (ha.mono fun _ _ k => k.mono (Kw.le_ext _ _)).snoc ⟨tq, _, _, rfl, .inr (.inr (.head _))⟩, by rw [List.length_append]; exact Nat.succ_le_succ hl, fun p hp => ?_⟩
          rcases List.mem_append.mp hp with hp | hp
          · exact hb p hp
          · cases List.mem_singleton.mp hp
            exact ⟨Int.add_nonneg (by decide) f0, Int.add_lt_of_lt_sub_left f1⟩
        · exact hF _ _ _ _ (by assumption) ⟨hle₅, ps, _, rfl, hT₁₄.mono (Nat.le_succ _), ha, Nat.le_succ_of_le hl, hb⟩
      · intro acc ys κ₅ _ s₁₃ hZ5 S₁₃
        obtain ⟨hle₅, ps, T', rfl, hT, ha, hl, hb⟩ := hZ5
        have hzg : gtv.length ≤ sizeLine := le_eq (hGs.length.trans hg) hRs5 (by decide)
        repeat' k_extra "z"
        have hl2 : ys.length ≤ 1000 := Nat.le_trans (show ys.length ≤ 2 from hl) (by decide)
        with_reducible refine' R_dictPairs S₁₃ C' ?k9 (ha.mono fun _ _ k => k.has) hl2 fun s₁₄ dd S₁₄ => ?_
        case k9 => k_extra "has"
        have F := S₁₄.freeze (fz := [_]) (own' := (it, AObj.rit ((Rs.length + 1 : Nat) : Int) ((mn : Int) - ((Rs.length + 1 : Nat) : Int))) :: (df, .list dfv') :: (gt, .list gtv) :: (rw, .list rwv') :: ([(c1, .cell (.bool cb)), (c2, .cell (.int (mn : Int) tm)), (c3, .cell (.ref rl)), (c4, .cell (.ref t))] ++ T')) (.cons_cons _ (List.sublist_cons_self _ _))
        repeat' k_extra "z"
        rename_i s₁₅ S₁₅
        have le : κ₅.Le (κ₅.ext [(dd, AObj.tabI (putAll [] ps))]) := Kw.le_ext _ _
        refine hN _ _ _ _ S₁₅ ⟨hle₂.trans (hle₃.trans (hle₄.trans (hle₅.trans le))), _, _, _, _, Rs', Gs ++ [putAll [] ps], Ds', T', rfl, trivial, hT.mono (bdN hBB), hRs'.mono fun _ _ k => k.mono (hle₄.trans (hle₅.trans le)), (hGs.mono fun _ _ k => k.mono (hle₃.trans (hle₄.trans (hle₅.trans le)))).snoc ⟨dd, rfl, .inr (.head _)⟩, hDs', ⟨hRl', by simp [hg], hDl'.trans (congrArg (· + 1) hd)⟩, bR', fun D hD => ?_, bD', n1, n2, n3⟩
        rcases List.mem_append.mp hD with hD | hD
        · exact bG D hD
        · cases List.mem_singleton.mp hD
          exact ⟨putAll_lookup ps [] hb fun l => .inl rfl, Nat.le_trans (putAll_len ps []) (by rw [List.length_nil, Nat.zero_add, ← ha.length]; exact hl2)⟩
  case done =>
    intro m₁ κ₂ _ s₆ hZ4 S₆
    obtain ⟨hle₂, X1, rwv, gtv, dfv, Rs, Gs, Ds, T', rfl, hX1, hT', hRs, hGs, hDs, ⟨hR, hg, hd⟩, bR, bG, bD, n1, n2, n3⟩ := hZ4
    repeat' k_extra "z"
    rename_i s₇ rt S₇
    have F := S₇.freeze (fz := [(rt, .tup [.ref rl, .ref rw, .ref gt, .ref df]), (df, .list dfv), (gt, .list gtv), (rw, .list rwv)]) (own' := T') (.cons_cons _ (.cons_cons _ (.cons_cons _ (.cons_cons _ (.cons _ (.cons _ (.cons _ (.cons _ (.refl _)))))))))
    have le : κ₂.Le (κ₂.ext [(rt, .tup [.ref rl, .ref rw, .ref gt, .ref df]), (df, .list dfv), (gt, .list gtv), (rw, .list rwv)]) := Kw.le_ext _ _
    refine ok _ _ T' rt rl rw gt df ⟨rs, Rs, Gs, Ds⟩ (hle₁.trans (hle₂.trans le)) (ret.st F) (hT'.mono (bdE hmn5)) (.inr (.head _)) ⟨⟨rlv, le _ _ (hle₂ _ _ hrl), hrs.mono fun _ _ k => k.mono (hle₂.trans le)⟩, ⟨rwv, .inr (.tail _ (.tail _ (.tail _ (.head _)))), hRs.mono fun _ _ k => k.mono le⟩, ⟨gtv, .inr (.tail _ (.tail _ (.head _))), hGs.mono fun _ _ k => k.mono le⟩, ⟨dfv, .inr (.tail _ (.head _)), hDs⟩⟩ ?_
    exact ⟨⟨by dsimp only; rw [hR]; exact Int.ofNat_le.mp hm2, by dsimp only; rw [hR]; exact hmn5, hg.trans hR.symm, hd.trans hR.symm⟩, ⟨hr1, hr3⟩, hrb, fun r hr => by dsimp only; rw [hR]; exact bR r hr, fun D hD => by dsimp only; rw [hR]; exact bG D hD, bD⟩
end
/- data, frozen -/
inductive Dt where
  | none
  | str (x : Str)
  | int (i : Int)
  | list (ds : List Dt)
  | tup (ds : List Dt)
mutual
inductive DtK (κ : Kw) : Value → Dt → Prop
  | none : DtK κ .none .none
  | str (x t) : DtK κ (.str x t) (.str x)
  | int (i t) : DtK κ (.int i t) (.int i)
  | list {a vs ds} : κ a (.list vs) → DtsK κ vs ds → DtK κ (.ref a) (.list ds)
  | tup {a vs ds} : κ a (.tup vs) → DtsK κ vs ds → DtK κ (.ref a) (.tup ds)
inductive DtsK (κ : Kw) : List Value → List Dt → Prop
  | nil : DtsK κ [] []
  | cons {v d vs ds} : DtK κ v d → DtsK κ vs ds → DtsK κ (v :: vs) (d :: ds)
end
theorem DtsK.of {κ : Kw} {α : Type} {F : Value → α → Prop} {f : α → Dt} (h : ∀ v a, F v a → DtK κ v (f a)) {vs : List Value} {as : List α} (k : All2 F vs as) : DtsK κ vs (as.map f) := by
  induction k with
  | nil => exact .nil
  | cons a _ ih => exact .cons (h _ _ a) ih
theorem DtsK.length {κ : Kw} {vs : List Value} {ds : List Dt} (h : DtsK κ vs ds) : vs.length = ds.length := by
  induction h using DtsK.rec (motive_1 := fun _ _ _ => True) with
  | none => trivial
  | str => trivial
  | int => trivial
  | list => trivial
  | tup => trivial
  | nil => rfl
  | cons _ _ _ ih => exact congrArg Nat.succ ih
mutual
theorem DtK.mono {κ κ' : Kw} (h : κ.Le κ') {v : Value} {d : Dt} (k : DtK κ v d) : DtK κ' v d := by
  cases k with
  | none => exact .none
  | str x t => exact .str x t
  | int i t => exact .int i t
  | list a b => exact .list (h _ _ a) (DtsK.mono h b)
  | tup a b => exact .tup (h _ _ a) (DtsK.mono h b)
theorem DtsK.mono {κ κ' : Kw} (h : κ.Le κ') {vs : List Value} {ds : List Dt} (k : DtsK κ vs ds) : DtsK κ' vs ds := by
  cases k with
  | nil => exact .nil
  | cons a b => exact .cons (DtK.mono h a) (DtsK.mono h b)
end
noncomputable def optDt : Option Str → Dt
  | none => .none
  | some x => .str x
noncomputable def mvDt : Mv → Dt
  | .shift g => .tup [.str "shift", .int g]
  | .reduce r => .tup [.str "reduce", .int r]
  | .accept => .tup [.str "accept"]
  | .pop s => .tup [.str "pop", .int s]
noncomputable def faultDt : Option (Str × Int × List Int × Int) → Dt
  | none => .none
  | some f => .tup [.str f.1, .int f.2.1, .list (f.2.2.1.map fun n => .str (nameOf n)), .int f.2.2.2]
noncomputable def resDt (r : Res) : Dt := .list [.str r.ans, optDt r.val, .list (r.moves.map mvDt), faultDt r.fault, .int r.count]
inductive MvK (κ : Kw) (v : Value) (mv : Mv) : Prop
  | mk (a : Addr) (vs : List Value) (e : v = .ref a) (k : κ a (.tup vs)) (i : mv.is vs)
theorem MvK.mono {κ κ' : Kw} (h : κ.Le κ') {v : Value} {mv : Mv} (k : MvK κ v mv) : MvK κ' v mv := by obtain ⟨a, vs, e, k, i⟩ := k; exact ⟨a, vs, e, h _ _ k, i⟩
theorem MvK.dt {κ : Kw} {v : Value} {mv : Mv} (k : MvK κ v mv) : DtK κ v (mvDt mv) := by
  obtain ⟨a, vs, rfl, k, i⟩ := k
  cases mv with
  | shift g => obtain ⟨t, u, rfl⟩ := i; exact .tup k (.cons (.str _ _) (.cons (.int _ _) .nil))
  | reduce g => obtain ⟨t, u, rfl⟩ := i; exact .tup k (.cons (.str _ _) (.cons (.int _ _) .nil))
  | accept => obtain ⟨t, rfl⟩ := i; exact .tup k (.cons (.str _ _) .nil)
  | pop g => obtain ⟨t, u, rfl⟩ := i; exact .tup k (.cons (.str _ _) (.cons (.int _ _) .nil))
theorem WorthIs.dt {κ : Kw} {v : Value} {w : Option Str} (k : WorthIs v w) : DtK κ v (optDt w) := by
  cases w with
  | none => cases k; exact .none
  | some x => obtain ⟨t, rfl⟩ := k; exact .str _ _
theorem StrIs.dt {κ : Kw} {v : Value} {x : Str} (k : StrIs v x) : DtK κ v (.str x) := by obtain ⟨t, rfl⟩ := k; exact .str _ _
mutual
noncomputable def Dt.dep : Dt → Nat
  | .list ds => Dt.deps ds + 1
  | .tup ds => Dt.deps ds + 1
  | _ => 0
noncomputable def Dt.deps : List Dt → Nat
  | [] => 0
  | d :: ds => max d.dep (Dt.deps ds)
end
theorem deps_map {α : Type} {f : α → Dt} {k : Nat} (h : ∀ a, (f a).dep ≤ k) : ∀ l : List α, Dt.deps (l.map f) ≤ k
  | [] => by simp [Dt.deps]
  | a :: r => by have := h a; have := deps_map h r; simp only [List.map_cons, Dt.deps]; omega
theorem resDt_dep (r : Res) : (resDt r).dep ≤ 3 := by
  have h1 : ∀ o, (optDt o).dep ≤ 0 := fun o => by cases o <;> simp [optDt, Dt.dep]
  have h2 : ∀ m, (mvDt m).dep ≤ 1 := fun m => by cases m <;> simp [mvDt, Dt.dep, Dt.deps]
  have h3 : ∀ f, (faultDt f).dep ≤ 2 := fun f => by
    cases f with
    | none => simp [faultDt, Dt.dep]
    | some f =>
      have : Dt.deps (f.2.2.1.map fun n => Dt.str (nameOf n)) ≤ 0 := deps_map (fun n => by simp [Dt.dep]) _
      simp only [faultDt, Dt.dep, Dt.deps]
      exact Nat.succ_le_succ (Nat.max_le.mpr ⟨Nat.zero_le _, Nat.max_le.mpr ⟨Nat.zero_le _, Nat.max_le.mpr ⟨Nat.succ_le_succ this, by decide⟩⟩⟩)
  have hm := deps_map h2 r.moves
  have hv := h1 r.val
  have hf := h3 r.fault
  simp only [resDt, Dt.dep, Dt.deps]
  exact Nat.succ_le_succ (Nat.max_le.mpr ⟨Nat.zero_le _, Nat.max_le.mpr ⟨Nat.le_trans hv (by decide), Nat.max_le.mpr ⟨Nat.succ_le_succ hm, Nat.max_le.mpr ⟨hf, by decide⟩⟩⟩⟩)
open PySem.SeqAt in
theorem eq_lists {b : Bs} {s : Shared} {A : Around} {a c : Addr} {vs ws : List Value} (ka : Knows b s.heap a (.list vs)) (kc : Knows b s.heap c (.list ws)) (hl : vs.length = ws.length) (hu : A.units < 9900)
    (h : ∀ j (h1 : j < vs.length) (h2 : j < ws.length), EqAt { A with units := A.units + 1 } s vs[j] ws[j] true) : EqAt A s (.ref a) (.ref c) true := by
  by_cases e : a = c
  · subst e; exact EqAt.same _
  · obtain ⟨n, x⟩ := ka.list
    obtain ⟨n', x'⟩ := kc.list
    refine EqAt.of_refs e ?_
    have := RcAt.lists (A := A) (s := s) (e := fun _ => true) (isL_list x) (isL_list x') (by simpa using hl) hu (fun j h1 h2 => h j (by simpa using h1) (by simpa using h2))
    have e1 : ((List.range vs.toArray.size).all fun _ => true) = true := List.all_eq_true.mpr fun _ _ => rfl
    rwa [e1] at this
open PySem.SeqAt in
theorem eq_tups {b : Bs} {s : Shared} {A : Around} {a c : Addr} {vs ws : List Value} (ka : Knows b s.heap a (.tup vs)) (kc : Knows b s.heap c (.tup ws)) (hl : vs.length = ws.length) (hu : A.units < 9900)
    (h : ∀ j (h1 : j < vs.length) (h2 : j < ws.length), EqAt { A with units := A.units + 1 } s vs[j] ws[j] true) : EqAt A s (.ref a) (.ref c) true := by
  by_cases e : a = c
  · subst e; exact EqAt.same _
  · obtain ⟨n, x⟩ := ka.tup
    obtain ⟨n', x'⟩ := kc.tup
    refine EqAt.of_refs e ?_
    have := RcAt.tuples (A := A) (s := s) (e := fun _ => true) (isTup_tup x) (isTup_tup x') hu (fun j h1 h2 => h j (by simpa using h1) (by simpa using h2))
    have e1 : ((List.range (min vs.toArray.size ws.toArray.size)).all (fun _ => true) && vs.toArray.size == ws.toArray.size) = true := by
      rw [Bool.and_eq_true]; exact ⟨List.all_eq_true.mpr fun _ _ => rfl, by simp [hl]⟩
    rwa [e1] at this
theorem dep_in {u k : Nat} (h : u + (k + 1) < 9000) : u + 1 + k < 9000 := by omega
open PySem.SeqAt in
theorem DtK.eqD {b : Bs} {s : Shared} {κ : Kw} (kn : ∀ a A, κ a A → Knows b s.heap a A) {d : Dt} {v : Value} (h1 : DtK κ v d) : ∀ {A : Around} {w : Value}, A.units + d.dep < 9000 → DtK κ w d → EqAt A s v w true := by
  induction h1 using DtK.rec (motive_2 := fun vs ds _ => ∀ (A : Around) (ws : List Value), A.units + Dt.deps ds < 9000 → DtsK κ ws ds → ∀ j (h1 : j < vs.length) (h2 : j < ws.length), EqAt A s vs[j] ws[j] true) with
  | none => intro A w _ h2; cases h2; exact EqAt.same _
  | str x t => intro A w _ h2; cases h2; have := EqAt.str_str (A := A) (s := s) x t x; rw [beq_self_eq_true] at this; exact this _
  | int x t => intro A w _ h2; cases h2; have := EqAt.int_int (A := A) (s := s) x t x; rw [beq_self_eq_true] at this; exact this _
  | list ka kv ih => intro A w hu h2; cases h2 with | list kc kw =>
    rw [Dt.dep] at hu
    exact eq_lists (kn _ _ ka) (kn _ _ kc) (kv.length.trans kw.length.symm) (Nat.lt_of_le_of_lt (Nat.le_add_right _ _) (Nat.lt_trans hu (by decide))) (ih _ _ (dep_in hu) kw)
  | tup ka kv ih => intro A w hu h2; cases h2 with | tup kc kw =>
    rw [Dt.dep] at hu
    exact eq_tups (kn _ _ ka) (kn _ _ kc) (kv.length.trans kw.length.symm) (Nat.lt_of_le_of_lt (Nat.le_add_right _ _) (Nat.lt_trans hu (by decide))) (ih _ _ (dep_in hu) kw)
  | nil _ _ _ _ j q => exact absurd q (Nat.not_lt_zero _)
  | cons _ _ i1 i2 A ws hu h2 j q1 q2 => cases h2 with | cons a' r' =>
    rw [Dt.deps] at hu
    cases j with
    | zero => exact i1 (Nat.lt_of_le_of_lt (Nat.add_le_add_left (Nat.le_max_left _ _) _) hu) a'
    | succ j => exact i2 _ _ (Nat.lt_of_le_of_lt (Nat.add_le_add_left (Nat.le_max_right _ _) _) hu) r' j (Nat.lt_of_succ_lt_succ q1) (Nat.lt_of_succ_lt_succ q2)
theorem DtK.eq {b : Bs} {s : Shared} {κ : Kw} (kn : ∀ a A, κ a A → Knows b s.heap a A) {d : Dt} {A : Around} {v w : Value} (hu : A.units + d.dep < 9000) (h1 : DtK κ v d) (h2 : DtK κ w d) : PySem.SeqAt.EqAt A s v w true := h1.eqD kn hu h2
theorem DtsK.eq {b : Bs} {s : Shared} {κ : Kw} (kn : ∀ a A, κ a A → Knows b s.heap a A) {ds : List Dt} {A : Around} {vs ws : List Value} (hu : A.units + Dt.deps ds < 9000) (h1 : DtsK κ vs ds) (h2 : DtsK κ ws ds) : ∀ j (h1 : j < vs.length) (h2 : j < ws.length), PySem.SeqAt.EqAt A s vs[j] ws[j] true := by
  induction ds generalizing vs ws with
  | nil => cases h1; exact fun j q => absurd q (Nat.not_lt_zero _)
  | cons d ds ih =>
    rw [Dt.deps] at hu
    cases h1 with | cons a r => cases h2 with | cons a' r' =>
    intro j q1 q2
    cases j with
    | zero => exact a.eq kn (Nat.lt_of_le_of_lt (Nat.add_le_add_left (Nat.le_max_left _ _) _) hu) a'
    | succ j => exact ih (Nat.lt_of_le_of_lt (Nat.add_le_add_left (Nat.le_max_right _ _) _) hu) r r' j (Nat.lt_of_succ_lt_succ q1) (Nat.lt_of_succ_lt_succ q2)
noncomputable def strE (x : Str) : Value → Bool
  | .str y _ => y == x
  | _ => false
noncomputable def intE (x : Int) : Value → Bool
  | .int y _ => y == x
  | _ => false
open PySem.SeqAt in
theorem strE_eq {A : Around} {s : Shared} {x : Str} {u : Tok} {vs : List Value} (h : ∀ y ∈ vs, ∃ z t, y = .str z t) : ∀ y ∈ vs, EqAt A s y (.str x u) (strE x y) := by
  intro y hy
  obtain ⟨z, t, rfl⟩ := h y hy
  exact EqAt.str_str _ _ _ _
open PySem.SeqAt in
theorem intE_eq {A : Around} {s : Shared} {x : Int} {u : Tok} {vs : List Value} (h : ∀ y ∈ vs, ∃ z t, y = .int z t) : ∀ y ∈ vs, EqAt A s y (.int x u) (intE x y) := by
  intro y hy
  obtain ⟨z, t, rfl⟩ := h y hy
  exact EqAt.int_int _ _ _ _
section
variable {b : Bs} {lv : Nat} {A : Around} {E : Value → Shared → Prop} {s : Shared} {hid : Kw} {L : Addr} {m m' : Str → Option Value} {κ₀ κ : Kw} {own own' : List (Addr × AObj)}
theorem R_index {l : Addr} {vs : List Value} {x : Value} {Q : Value → Shared → Prop} (e : Value → Bool) (j : Nat) (S : St b hid L m κ₀ κ own s) (k : Has κ own l (.list vs)) (hj : j < vs.length) (hsm : (j : Int) < 2 ^ 63 - 1)
    (he : ∀ y ∈ vs, PySem.SeqAt.EqAt A.in1 s y x (e y)) (hit : e vs[j] = true) (hno : ∀ i (hi : i < vs.length), i < j → e vs[i] = false) (h : ∀ s' t, St b hid L m κ₀ κ own s' → Q (.int j t) s') :
    wpAny (model b.prog b.w) A (call (.builtin "list.index") [.ref l, x]) Q E s := by
  obtain ⟨n, o⟩ := (S.has k).list
  exact call_meets PySem.F.slot_list_index ⟨_, o, rfl⟩ PySem.F.entry_list_index (PySem.F.args_list_index_2 _ _)
    (PySem.SeqAt.list_indexAt l vs.toArray n _ _ x e j (by simpa using hj) hsm (by simpa using hit) (fun i hi => by simpa using hno i (by simpa using hi))) ⟨o, fun y hy => he y (by simpa using hy), h _ _ (S.toks _)⟩
theorem R_nameIdx {x : Str} {u : Tok} {Q : Value → Shared → Prop} (hx : x = "$end" ∨ x = "a" ∨ x = "b") (S : St b hid L m κ₀ κ own s) (k : κ 841 (.list namesV)) (h : ∀ s' t, St b hid L m κ₀ κ own s' → Q (.int (termOf x) t) s') :
    wpAny (model b.prog b.w) A (call (.builtin "list.index") [.ref 841, .str x u]) Q E s := by
  have hm : ∀ y ∈ namesV, ∃ z t, y = .str z t := fun y hy => by
    obtain ⟨p, -, rfl⟩ := List.mem_map.mp hy
    exact ⟨_, _, rfl⟩
  rcases hx with rfl | rfl | rfl
  · refine R_index (strE "$end") 0 S (.inr k) (by decide) (by decide) (strE_eq hm) (by decide) (fun i _ h => absurd h (Nat.not_lt_zero _)) fun s' t S' => ?_
    have e : termOf "$end" = ((0 : Nat) : Int) := by decide +kernel
    rw [← e]; exact h _ _ S'
  · refine R_index (strE "a") 3 S (.inr k) (by decide) (by decide) (strE_eq hm) (by decide) (fun i _ h => ?_) fun s' t S' => ?_
    · match i, h with
      | 0, _ => decide +revert
      | 1, _ => decide +revert
      | 2, _ => decide +revert
    have e : termOf "a" = ((3 : Nat) : Int) := by decide +kernel
    rw [← e]; exact h _ _ S'
  · refine R_index (strE "b") 4 S (.inr k) (by decide) (by decide) (strE_eq hm) (by decide) (fun i _ h => ?_) fun s' t S' => ?_
    · match i, h with
      | 0, _ => decide +revert
      | 1, _ => decide +revert
      | 2, _ => decide +revert
      | 3, _ => decide +revert
    have e : termOf "b" = ((4 : Nat) : Int) := by decide +kernel
    rw [← e]; exact h _ _ S'
end
theorem termOf_out {x : Str} (h0 : x ≠ "$end") (h3 : x ≠ "a") (h4 : x ≠ "b") : termOf x = 2 := by
  by_cases h1 : x = "error"
  · subst h1; decide +kernel
  by_cases h2 : x = "$undefined"
  · subst h2; decide +kernel
  have e : PySem.Spec.lookup (.str x) numD = none := by
    have q : ∀ y : Str, y ≠ x → PySem.Spec.same (.str y) (.str x) = false := fun y hy => by
      unfold PySem.Spec.same
      simp [hy]
    unfold numD
    simp only [PySem.Spec.lookup, q _ (Ne.symm h0), q _ (Ne.symm h1), q _ (Ne.symm h2), q _ (Ne.symm h3), q _ (Ne.symm h4)]
    rfl
  unfold termOf numOf
  rw [e]
  rfl
/-- the machine's act and the law's -/
noncomputable def actL (x df : Int) : Int := if x ≠ 0 then x else 0 - df
theorem act_zero {x df : Int} (h0 : 0 ≤ df) (h1 : df ≤ 3) (h : actL x df = 0 ∨ actL x df = BARREDz) : actF x df = 0 := by
  unfold actL at h
  unfold actF
  split at h <;> rename_i q
  · rcases h with h | h
    · exact absurd h q
    · rw [if_pos h]
  · have e : x = 0 := by simpa using q
    subst e
    rcases h with h | h
    · rw [if_neg (by decide), if_pos rfl]; omega
    · unfold BARREDz at h; omega
theorem act_else {x df : Int} (h0 : 0 ≤ df) (h1 : df ≤ 3) (h : ¬ (actL x df = 0 ∨ actL x df = BARREDz)) : actF x df = actL x df ∧ actL x df ≠ 0 := by
  refine ⟨?_, fun e => h (.inl e)⟩
  have hb : actL x df ≠ BARREDz := fun e => h (.inr e)
  unfold actL at hb ⊢
  unfold actF
  split at hb <;> rename_i q
  · rw [if_neg hb, if_neg q, if_pos q]
  · have e : x = 0 := by simpa using q
    subst e
    rw [if_neg (by decide), if_pos rfl, if_neg q]; omega
section
variable {b : Bs} {lv : Nat} {A : Around} {E : Value → Shared → Prop} {s : Shared}
noncomputable def JoinK (P : Shared → Prop) (Q : Flow → Shared → Prop) (f : Flow) (s : Shared) : Prop := match f with | .next => P s | f => Q f s
theorem R_joinF {M : Model} {t : Sem Flow} {Q : Flow → Shared → Prop} (P : Shared → Prop) (h : wpAny M A t (JoinK P Q) E s) (k : ∀ s', P s' → Q .next s') : wpAny M A t Q E s :=
  wpAny_mono h (fun f s' x => by cases f <;> first | exact x | exact k s' x) fun _ _ x => x
theorem R_joinFK {M : Model} {t : Sem Flow} {Q : Flow → Shared → Prop} (Ψ : (Shared → Prop) → Prop) (h : ∀ K, Ψ K → wpAny M A t (JoinK K Q) E s) (k : Ψ (Q .next)) : wpAny M A t Q E s :=
  wpAny_mono (h _ k) (fun f s' x => by cases f <;> exact x) fun _ _ x => x
theorem R_joinR {P : Shared → Prop} {Q : Flow → Shared → Prop} {v : Value} (h : Q (.ret v) s) : JoinK P Q (.ret v) s := h
theorem R_joinC {P : Shared → Prop} {Q : Flow → Shared → Prop} (h : Q .cont s) : JoinK P Q .cont s := h
theorem R_joinN {P : Shared → Prop} {Q : Flow → Shared → Prop} (h : P s) : JoinK P Q .next s := h
theorem R_forC {Nx : Shared → Prop} {Q : Flow → Shared → Prop} (h : Nx s) : ForK Nx Q .cont s := h
end
theorem stack_len {T : TabD} {most : Int} {c : Cfg} (O : c.Ok T most) : c.stack.length = c.worths.length + 1 := O.len
/-- the law's tables and the machine's -/
theorem DrawnB.ok {T : TabD} (B : DrawnB T) : T.Ok where
  n := ⟨T.rows.length, by have := B.n; omega, by have := B.n; omega, rfl, B.n.2.2.1, B.n.2.2.2⟩
  row := fun r hr => (B.rows r hr).1
  cell := fun r hr a ha => (B.rows r hr).2.1 a ha
  df := B.dfs
  rule := fun r hr => ⟨(B.rules r hr).2.1.1, (B.rules r hr).2.1.2, (B.rules r hr).2.2.1, (B.rules r hr).2.2.2⟩
  rules := B.ru.2
  goto := fun D hD => ⟨fun l => by
      rcases (B.gotos D hD).1 l with h | ⟨g, h, _⟩
      · exact .inl h
      · exact .inr ⟨g, h⟩, fun l => by
      have := B.n
      rcases (B.gotos D hD).1 l with h | ⟨g, h, h0, h1⟩
      · unfold gotoOf; rw [h]; show (-1 : Int) < _; omega
      · unfold gotoOf; rw [h]; exact h1⟩
  err := fun r hr => (B.rows r hr).2.2
theorem ints_rep (i : Int) (t : Tok) : ∀ n, IntsAre (List.replicate n (.int i t)) (List.replicate n i)
  | 0 => .nil
  | n + 1 => .cons _ _ (ints_rep i t n)
theorem lone_zero {T : TabD} {st : Int} (h : T.row st = [0, 0, 0, 0, 0]) : T.lone st = T.df st := by
  unfold TabD.lone consF
  rw [h]
  by_cases q : T.df st = 0
  · simp [q]
  · simp [q]
theorem lone_nz {T : TabD} {st : Int} (h : T.row st ≠ [0, 0, 0, 0, 0]) : T.lone st = 0 := by
  unfold TabD.lone consF
  rw [if_neg (by simp [h])]
theorem kind_of {kvs : List Value} {kinds : List Str} (h : All2 StrIs kvs kinds) {i : Nat} (hi : i < kinds.length) : ∃ t, kvs[i]? = some (.str (kindAt kinds i) t) := by
  obtain ⟨v, hv, t, rfl⟩ := h.get (List.getElem?_eq_getElem hi)
  refine ⟨t, ?_⟩
  rw [hv]; unfold kindAt; rw [List.getD_eq_getElem?_getD, List.getElem?_eq_getElem hi]; rfl
structure RunM (κ : Kw) (m : Str → Option Value) (rl kl rw gt df : Addr) (most : Int) (tm : Tok) (cf : Cfg) (sl wl ml : Addr) (sts vals mvs : List Value) (tsp : Tok) : Prop where
  n1 : m "rules" = some (.ref rl)
  n2 : m "kinds" = some (.ref kl)
  n3 : m "most" = some (.int most tm)
  n4 : m "rows" = some (.ref rw)
  n5 : m "gotos" = some (.ref gt)
  n6 : m "defaults" = some (.ref df)
  n7 : m "stack" = some (.ref sl)
  n8 : m "worths" = some (.ref wl)
  n9 : m "moves" = some (.ref ml)
  n10 : m "spot" = some (.int cf.spot tsp)
  n11 : m "is_seen" = some (.bool cf.seen)
  k1 : κ sl (.list sts)
  k2 : κ wl (.list vals)
  k3 : κ ml (.list mvs)
  i1 : IntsAre sts cf.stack
  i2 : All2 WorthIs vals cf.worths
  i3 : All2 (MvK κ) mvs cf.moves
inductive RunI (b : Bs) (hid' : Kw) (L' : Addr) (κ : Kw) (c1 rl kl rw gt df : Addr) (most : Int) (tm : Tok) (T : TabD) (kinds : List Str) (r : Res) (n : Nat) (s : Shared) : Prop
  | mk (κ₂ : Kw) (m₂ : Str → Option Value) (cf : Cfg) (sl wl ml : Addr) (sts vals mvs : List Value) (tsp : Tok) (X1 : AObj) (hle : κ.Le κ₂) (S : St b hid' L' m₂ κ κ₂ [(c1, X1)] s) (R : RunM κ₂ m₂ rl kl rw gt df most tm cf sl wl ml sts vals mvs tsp) (O : cf.Ok T most) (hR : Runs T kinds most cf r) (hX : CellLike X1) (e : n = (most - cf.moves.length).toNat)
theorem any_names {k : Str} {t1 t2 t3 : Tok} : ([Value.str (Str.ofString "$end") t1, .str (Str.ofString "a") t2, .str (Str.ofString "b") t3].any (strE k)) = true ↔ (k = "$end" ∨ k = "a" ∨ k = "b") := by
  simp only [List.any_cons, List.any_nil, strE, Bool.or_false, Bool.or_eq_true, beq_iff_eq]
  exact ⟨fun h => h.imp Eq.symm fun h => h.imp Eq.symm Eq.symm, fun h => h.imp Eq.symm fun h => h.imp Eq.symm Eq.symm⟩
theorem any_ints {k i j : Int} {t1 t2 : Tok} : ([Value.int i t1, .int j t2].any (intE k)) = true ↔ (k = i ∨ k = j) := by
  simp only [List.any_cons, List.any_nil, intE, Bool.or_false, Bool.or_eq_true, beq_iff_eq]
  exact ⟨fun h => h.imp Eq.symm Eq.symm, fun h => h.imp Eq.symm Eq.symm⟩
theorem raised_dt {κ : Kw} {o ml : Addr} {t u : Tok} {n : Int} {mvs : List Value} {mo : List Mv} {c : Cfg} (k : κ o (.list [.str (Str.ofString "raised") t, .none, .ref ml, .none, .int n u])) (hn : n = c.cnt) (k3 : κ ml (.list mvs)) (j : All2 (MvK κ) mvs mo) : DtK κ (.ref o) (resDt (raisedR c mo)) := by
  subst hn
  exact .list k (.cons (.str _ _) (.cons .none (.cons (.list k3 (DtsK.of (f := mvDt) (fun _ _ k => MvK.dt k) j)) (.cons .none (.cons (.int _ _) .nil)))))
noncomputable def okC (row : List Int) (k : Nat) : Bool := row.getD k 0 != 0 && row.getD k 0 != BARREDz
theorem names_dt {κ : Kw} {ys : List Value} {l : List Int} (h : All2 StrIs ys (l.map nameOf)) : DtsK κ ys (l.map fun n => Dt.str (nameOf n)) := by
  have := DtsK.of (κ := κ) (f := fun x => Dt.str x) (fun _ _ k => StrIs.dt k) h
  rw [List.map_map] at this
  exact this
theorem okC_true {row : List Int} {k : Nat} (h : ¬ (row.getD k 0 = 0 ∨ row.getD k 0 = BARREDz)) : okC row k = true := by
  rw [not_or] at h
  unfold okC
  rw [Bool.and_eq_true]
  exact ⟨bne_iff_ne.mpr h.1, bne_iff_ne.mpr h.2⟩
theorem okC_false {row : List Int} {k : Nat} (h : row.getD k 0 = 0 ∨ row.getD k 0 = BARREDz) : okC row k = false := by
  unfold okC
  rcases h with h | h <;> rw [h] <;> rfl
theorem exp_three (row : List Int) : (expUpto row 5).map nameOf = ([0, 3, 4].filter (okC row)).map fun k => nameOf (k : Nat) := by
  have e : (List.range 5).filter (isExp row) = [0, 3, 4].filter (okC row) := by
    show [0, 1, 2, 3, 4].filter (isExp row) = _
    have h0 : isExp row 0 = okC row 0 := by simp [isExp, okC]
    have h1 : isExp row 1 = false := by simp [isExp]
    have h2 : isExp row 2 = false := by simp [isExp]
    have h3 : isExp row 3 = okC row 3 := by simp [isExp, okC]
    have h4 : isExp row 4 = okC row 4 := by simp [isExp, okC]
    simp only [List.filter_cons, List.filter_nil, h0, h1, h2, h3, h4, Bool.false_eq_true, if_false]
  unfold expUpto
  rw [e, List.map_map]; rfl
theorem three_step (row : List Int) {i k : Nat} (hk : [0, 3, 4][i]? = some k) : (([0, 3, 4].take (i + 1)).filter (okC row)).map (fun k => nameOf (k : Nat)) = (([0, 3, 4].take i).filter (okC row)).map (fun k => nameOf (k : Nat)) ++ (if okC row k then [nameOf (k : Nat)] else []) := by
  have e : [0, 3, 4].take (i + 1) = [0, 3, 4].take i ++ [k] := by
    match i, hk with
    | 0, hk => cases hk; rfl
    | 1, hk => cases hk; rfl
    | 2, hk => cases hk; rfl
  rw [e, List.filter_append, List.map_append]
  congr 1
  cases h : okC row k <;> simp [List.filter, h]
theorem name_at {k : Nat} (hk : k < 8) : ∃ t, namesV[k]? = some (.str (nameOf (k : Nat)) t) := namesV_get (n := (k : Int)) (Int.natCast_nonneg k) (Int.ofNat_lt.mpr hk)
theorem three_at {t0 t3 t4 : Tok} {v : Value} : ∀ {i : Nat}, [Value.int 0 t0, .int 3 t3, .int 4 t4][i]? = some v → ∃ (k : Nat) (t : Tok), [0, 3, 4][i]? = some k ∧ v = .int (k : Int) t
  | 0, h => by cases h; exact ⟨0, _, rfl, rfl⟩
  | 1, h => by cases h; exact ⟨3, _, rfl, rfl⟩
  | 2, h => by cases h; exact ⟨4, _, rfl, rfl⟩
  | n + 3, h => nomatch h
section
variable {b : Bs} {lv : Nat} {A : Around} {E : Value → Shared → Prop} {s : Shared} {hid : Kw} {L : Addr} {m m' : Str → Option Value} {κ₀ κ : Kw} {ex own own' : List (Addr × AObj)} {frs : List Env} {env : Env} {M : MCx} {vt : Virt} {cf : Cfg} {flts : List Flt}
set_option maxHeartbeats 4000000
theorem run_spec {rl rw gt df ft kl : Addr} {T : TabD} {kinds : List Str} {kvs : List Value} {most : Int} {tm : Tok} {r : Res} {Q : Value → Shared → Prop} (G : Gd b) (C : Cx b (lv + 2) A L hid frs) (S : St b hid L m κ₀ κ (ex ++ own) s)
    (hnv : κ 841 (.list namesV)) (DK : DrawnK κ rl rw gt df T) (DB : DrawnB T) (hft : κ ft (.tup [.ref rw, .ref gt, .ref df])) (hkl : κ kl (.list kvs)) (hks : All2 StrIs kvs kinds) (hkn : kinds.length ≤ 10) (hm0 : 0 ≤ most ∧ most ≤ 100)
    (hR : Runs T kinds most cfg0 r)
    (ok : ∀ s' κ' o, κ.Le κ' → St b hid L m κ₀ κ' (ex ++ own) s' → DtK κ' (.ref o) (resDt r) → Q (.ref o) s') :
    wpAny (model b.prog b.w) A (call (.ref 870) [.ref rl, .ref ft, .ref kl, .int most tm]) Q E s := by
  obtain ⟨⟨rlv, k1, i1⟩, ⟨rwv, k2, i2⟩, ⟨gtv, k3, i3⟩, ⟨dfv, k4, i4⟩⟩ := DK
  have to := DB.ok
  refine call_cells (ex := ex ++ own) (own := []) [("rules", .ref rl), ("filled", .ref ft), ("kinds", .ref kl), ("most", .int most tm)] (nset "most" (.int most tm) (nset "kinds" (.ref kl) (nset "filled" (.ref ft) (nset "rules" (.ref rl) (fun _ => none))))) (fun _ => none) G C (by rw [List.append_nil]; exact S) (by k_is) (by k_is) rfl (fun x hx => .inl ?_) rfl rfl (by decide) rfl rfl rfl fun cs L' hid' s' A' env' hcs hE hI hA C' S' ret => ?_
  · simp only [List.mem_cons, List.not_mem_nil, or_false] at hx
    rcases hx with rfl | rfl | rfl | rfl <;> rfl
  have hcs' : cs.map (·.1) = [Str.ofString "row"] := hcs
  clear hcs
  obtain ⟨c1, rfl⟩ := cells_1 hcs'
  clear hcs'
  have S₁ : St b hid' L' _ κ κ [(c1, .emptyCell)] s' := S'
  clear S' S
  with_reducible refine R_execs ?_
  refine Assign_Tuple ?_ (by rw [hE]; kernel_rfl) (by rw [hE]; kernel_rfl)
  repeat' k_extra "z"
  rename_i s₂ S₂
  obtain ⟨κ₂, m₂, sl, wl, ml, sts, vals, mvs, tsp, hle₂, HM, S₃⟩ : ∃ κ₂ m₂ sl wl ml sts vals mvs tsp, κ.Le κ₂ ∧ RunM κ₂ m₂ rl kl rw gt df most tm cfg0 sl wl ml sts vals mvs tsp ∧ St b hid' L' m₂ κ κ₂ [(c1, .emptyCell)] s₂ := by
    refine' ⟨_, _, _, _, _, [.int 0 _], [], [], _, ?w0, ⟨rfl, rfl, rfl, rfl, rfl, rfl, rfl, rfl, rfl, rfl, rfl, ?w1, ?w2, ?w3, .cons _ _ .nil, .nil, .nil⟩, S₂.freeze (fz := [_, _, _, _]) (own' := [(c1, .emptyCell)]) (List.Sublist.refl _)⟩
    case w0 => exact Kw.le_ext _ _
    case w1 => exact .inr (by k_extra "mem")
    case w2 => exact .inr (by k_extra "mem")
    case w3 => exact .inr (by k_extra "mem")
  clear S₂ S₁
  have hI' := hI
  have fin : ∀ {m' : Str → Option Value} {κ' : Kw} {o : Addr} {own₁ : List (Addr × AObj)} {s' : Shared}, κ.Le κ' → St b hid' L' m' κ κ' own₁ s' → DtK κ' (.ref o) (resDt r) → Q (.ref o) s' :=
    fun le S d => ok _ _ _ le ((ret.st S).drop (List.sublist_append_left _ _)) d
  have raisedG : ∀ {m' : Str → Option Value} {κ' : Kw} {o ml' : Addr} {t u : Tok} {n : Int} {mvs' : List Value} {mo : List Mv} {c : Cfg} {own₁ : List (Addr × AObj)} {s' : Shared}, κ.Le κ' →
      St b hid' L' m' κ κ' ((o, .list [.str (Str.ofString "raised") t, .none, .ref ml', .none, .int n u]) :: own₁) s' → n = c.cnt → κ' ml' (.list mvs') → All2 (MvK κ') mvs' mo → r = raisedR c mo → Q (.ref o) s' := fun le S hn k j e => by
    have F := S.freeze (fz := [_]) (List.Sublist.refl _)
    refine fin (le.trans (Kw.le_ext _ _)) F ?_
    rw [e]
    exact raised_dt (.inr (.head _)) hn (.inl k) (j.mono fun _ _ k => k.mono (Kw.le_ext _ _))
  refine R_While (RunI b hid' L' κ c1 rl kl rw gt df most tm T kinds r) PassesOwn.leaving _ ⟨κ₂, m₂, cfg0, sl, wl, ml, sts, vals, mvs, tsp, _, hle₂, S₃, HM, cfg0_ok to hm0.1, hR, (show CellLike .emptyCell from trivial), rfl⟩ ?_
  clear S₃ HM hle₂ hR
  intro n s₄ Nx hZ3 hN
  obtain ⟨κ₂, m₂, cf, sl, wl, ml, sts, vals, mvs, tsp, X1, hle₂, S₄, ⟨n1, n2, n3, n4, n5, n6, n7, n8, n9, n10, n11, q1, q2, q3, j1, j2, j3⟩, O, hR, hX1, rfl⟩ := hZ3
  have l1 := O.len
  have l2 := O.wl
  have l3 := O.mvs
  have hb1 := nat_bd l3 hm0.2
  have hb2 := Nat.le_trans l2 hb1
  obtain ⟨pre, hpre, htop⟩ := O.top
  obtain ⟨a1, a2, a3, a4, a5, DD, a6, a7, a8⟩ := to.at htop.1 htop.2
  have htop0 := htop.1
  have htop63 := lt63 a4
  have j1' := j1
  rw [hpre] at j1'
  obtain ⟨us, tt, hsts, -⟩ := ints_last j1'
  clear j1'
  have r1 := hle₂ _ _ k1
  have r2 := hle₂ _ _ k2
  have r3 := hle₂ _ _ k3
  have r4 := hle₂ _ _ k4
  have r5 := hle₂ _ _ hkl
  have r6 := hle₂ _ _ hnv
  have r6' : ∀ o, Has κ₂ o 841 (.list namesV) := fun _ => .inr r6
  obtain ⟨rowv, hrowv, ra, rv, rfl, kra, ira⟩ : ∃ v, rwv[cf.top.toNat]? = some v ∧ RowK κ v (T.row cf.top) := i2.get a1
  have kra := hle₂ _ _ kra
  obtain ⟨dft, hdft⟩ := ints_get i4 a3
  have q1s := q1
  rw [hsts] at q1s
  have j1s := j1
  rw [hsts] at j1s
  have hsl' := j1s.length
  repeat' k_extra "z"
  refine (R_joinK (fun KK => ∀ s₅ ts, St b hid' L' (nset (Str.ofString "state") (.int cf.top ts) m₂) κ κ₂ [(c1, .cell (.ref ra))] s₅ → KK s₅) ?_ ?_)
  · intro KK hK
    refine Assign_Tuple ?_ (by rw [hE]; kernel_rfl) (by rw [hE]; kernel_rfl)
    repeat' k_extra "z"
    exact ⟨rfl, hK _ _ (St.drop (by assumption) (List.sublist_cons_self _ _))⟩
  have hkvl := hks.length
  have hz1 : kvs.length ≤ 1000000 := le_eq hkvl hkn (by decide)
  rintro s₅ ts S₅
  clear S₄
  first | with_reducible refine R_next ?_ | with_reducible refine R_kseq (by assumption) (R_next ?_)
  refine R_execs (R_joinK (fun KK => ∀ s₆ tk, St b hid' L' (nset (Str.ofString "kind") (.str (kindAt kinds cf.spot) tk) (nset (Str.ofString "state") (.int cf.top ts) m₂)) κ κ₂ [(c1, .cell (.ref ra))] s₆ → KK s₆) ?_ ?_)
  · intro KK hK
    have hsp : (cf.spot : Int) < 2 ^ 63 ∨ ¬ cf.spot < kinds.length := spot_or hkn
    repeat' k_extra "z"
    k_extra "zi"
    · have hlt : cf.spot < kinds.length := lt_cast hkvl (of_decide_eq_true hq)
      have hsp := hsp.resolve_right (fun h => h hlt)
      obtain ⟨tkk, hkk⟩ := kind_of hks hlt
      repeat' k_extra "z"
      exact ⟨rfl, hK _ _ (by assumption)⟩
    · have hge : kinds.length ≤ cf.spot := ge_cast hkvl (of_decide_eq_false hq)
      repeat' k_extra "z"
      rw [kindAt_ge hge] at hK
      exact ⟨rfl, hK _ _ (by assumption)⟩
  rintro s₆ tk S₆
  clear S₅
  first | with_reducible refine R_next ?_ | with_reducible refine R_kseq (by assumption) (R_next ?_)
  refine R_execs (R_joinK (fun KK => ∀ s₇ tr, St b hid' L' (nset (Str.ofString "rule") (.int (T.lone cf.top) tr) (nset (Str.ofString "kind") (.str (kindAt kinds cf.spot) tk) (nset (Str.ofString "state") (.int cf.top ts) m₂))) κ κ₂ [(c1, .cell (.ref ra))] s₇ → KK s₇) ?_ ?_)
  · intro KK hK
    repeat' k_extra "z"
    with_reducible refine' R_eq_ints (by assumption) C' ?e1 ?e2 ira (ints_rep 0 _ _) ?_
    case e1 => k_extra "has"
    case e2 => k_extra "has"
    repeat' k_extra "z"
    k_extra "zi"
    · have hz : T.row cf.top = [0, 0, 0, 0, 0] := of_decide_eq_true hq
      repeat' k_extra "z"
      rw [lone_zero hz] at hK
      exact ⟨rfl, hK _ _ (St.drop (by assumption) (.cons _ (.cons _ (.refl _))))⟩
    · have hz : T.row cf.top ≠ [0, 0, 0, 0, 0] := of_decide_eq_false hq
      repeat' k_extra "z"
      rw [lone_nz hz] at hK
      exact ⟨rfl, hK _ _ (St.drop (by assumption) (.cons _ (.cons _ (.refl _))))⟩
  rintro s₇ tr S₇
  clear S₆
  first | with_reducible refine R_next ?_ | with_reducible refine R_kseq (by assumption) (R_next ?_)
  have hlo := lone_facts to htop.1 htop.2
  have hb := termOf_bd (kindAt kinds cf.spot)
  have hxx : (T.row cf.top)[(termOf (kindAt kinds cf.spot)).toNat]? = some ((T.row cf.top).getD (termOf (kindAt kinds cf.spot)).toNat 0) := by
    rw [List.getD_eq_getElem?_getD, List.getElem?_eq_getElem (tn_lt hb a2)]; rfl
  obtain ⟨tx, hrx⟩ := ints_get ira hxx
  have hact := act_facts to htop.1 htop.2 (k := (termOf (kindAt kinds cf.spot)).toNat) (tn_lt hb rfl)
  refine R_execs (R_joinFK (fun KK => ∀ s₈ m₃ cf' rr trr, St b hid' L' m₃ κ κ₂ [(c1, .cell (.ref ra))] s₈ → RunM κ₂ m₃ rl kl rw gt df most tm cf' sl wl ml sts vals mvs tsp → m₃ "rule" = some (.int rr trr) → 0 < rr → rr ≤ T.rules.length → cf'.stack = cf.stack → cf'.worths = cf.worths → cf'.moves = cf.moves → cf'.Ok T most → turnF T kinds most cf = reduceF T most cf' rr → KK s₈) ?_ ?_)
  · intro KF hKF
    repeat' k_extra "z"
    k_extra "zi"
    · have hz : T.lone cf.top = 0 := by simpa using hq
      k_extra "zE"
      refine R_execs (R_joinK (fun KK => ∀ s₈ tn, St b hid' L' (nset (Str.ofString "number") (.int (termOf (kindAt kinds cf.spot)) tn) (nset (Str.ofString "is_seen") (.bool true) (nset (Str.ofString "rule") (.int (T.lone cf.top) tr) (nset (Str.ofString "kind") (.str (kindAt kinds cf.spot) tk) (nset (Str.ofString "state") (.int cf.top ts) m₂))))) κ κ₂ [(c1, .cell (.ref ra))] s₈ → KK s₈) ?_ ?_)
      · intro KK hK
        repeat' k_extra "z"
        with_reducible refine' R_inTup (strE (kindAt kinds cf.spot)) (by assumption) ?e3 (strE_eq ?e4) ?_
        case e3 => k_extra "has"
        case e4 =>
          intro y hy
          simp only [List.mem_cons, List.not_mem_nil, or_false] at hy
          rcases hy with rfl | rfl | rfl <;> exact ⟨_, _, rfl⟩
        repeat' k_extra "z"
        k_extra "zi"
        · have hin := any_names.mp hq
          repeat' k_extra "z"
          with_reducible refine R_getMethod_list (by assumption) (r6' _) PySem.F.slot_list_index PySem.F.type_list_index ?_
          repeat' k_extra "z"
          with_reducible refine R_nameIdx hin (by assumption) r6 fun _ _ _ => ?_
          repeat' k_extra "z"
          exact ⟨rfl, hK _ _ (St.drop (by assumption) (.cons _ (.refl _)))⟩
        · have hin : ¬ (kindAt kinds cf.spot = "$end" ∨ kindAt kinds cf.spot = "a" ∨ kindAt kinds cf.spot = "b") := fun h => by rw [any_names.mpr h] at hq; cases hq
          rw [not_or, not_or] at hin
          repeat' k_extra "z"
          rw [termOf_out hin.1 hin.2.1 hin.2.2] at hK
          exact ⟨rfl, hK _ _ (St.drop (by assumption) (.cons _ (.refl _)))⟩
      rintro s₈ tn S₈
      clear S₇
      first | with_reducible refine R_next ?_ | with_reducible refine R_kseq (by assumption) (R_next ?_)
      generalize hx0 : (T.row cf.top).getD (termOf (kindAt kinds cf.spot)).toNat 0 = x at hrx hact
      generalize htn : termOf (kindAt kinds cf.spot) = nb at hb hrx S₈
      have hnb := hb.1
      have hnb' := hb.2
      refine R_execs (R_joinK (fun KK => ∀ s₉ ta, St b hid' L' (nset (Str.ofString "act") (.int (actL x (T.df cf.top)) ta) (nset (Str.ofString "number") (.int nb tn) (nset (Str.ofString "is_seen") (.bool true) (nset (Str.ofString "rule") (.int (T.lone cf.top) tr) (nset (Str.ofString "kind") (.str (kindAt kinds cf.spot) tk) (nset (Str.ofString "state") (.int cf.top ts) m₂)))))) κ κ₂ [(c1, .cell (.ref ra))] s₉ → KK s₉) ?_ ?_)
      · intro KK hK
        repeat' k_extra "z"
        k_extra "zi"
        · have hx1 : x ≠ 0 := by simpa using hq
          repeat' k_extra "z"
          rw [show actL x (T.df cf.top) = x from if_pos hx1] at hK
          exact ⟨rfl, hK _ _ (by assumption)⟩
        · have hx1 : x = 0 := by simpa using hq
          repeat' k_extra "z"
          rw [show actL x (T.df cf.top) = 0 - T.df cf.top from if_neg (fun h => h hx1)] at hK
          exact ⟨rfl, hK _ _ (by assumption)⟩
      rintro s₉ ta S₉
      clear S₈
      first | with_reducible refine R_next ?_ | with_reducible refine R_kseq (by assumption) (R_next ?_)
      have hnl : ¬ 0 < T.lone cf.top := by rw [hz]; decide
      have ht : turnF T kinds most cf = (if actF x (T.df cf.top) = ACCEPTz then (if cf.worths = [] ∨ most ≤ cf.moves.length then .inr (raisedR cf.look cf.moves) else .inr { ans := "accepted", val := cf.worths.getLast?.join, moves := cf.moves ++ [.accept], fault := none, count := cf.look.cnt }) else if 0 < actF x (T.df cf.top) then (if most ≤ cf.moves.length then .inr (raisedR cf.look cf.moves) else .inl (cf.look.shifted kinds (actF x (T.df cf.top)))) else if actF x (T.df cf.top) < 0 then reduceF T most cf.look (-actF x (T.df cf.top)) else .inr { ans := "aborted", val := none, moves := cf.moves, fault := some (kindAt kinds cf.spot, cf.top, expUpto (T.row cf.top) 5, cf.spot), count := cf.look.cnt }) := by
        rw [← turnF_look hnl, turnF_seen (c := cf.look) hnl rfl]
        rw [← hx0]; rfl
      have hcnt : (cf.spot : Int) + 1 = cf.look.cnt := rfl
      obtain ⟨d0, d3⟩ := to.df _ (List.mem_of_getElem? a3)
      have d3 : T.df cf.top ≤ 3 := Int.le_trans d3 (Int.ofNat_le.mpr to.rules)
      repeat' k_extra "z"
      with_reducible refine' R_inTup (intE (actL x (T.df cf.top))) (by assumption) ?e5 (intE_eq ?e6) ?_
      case e5 => k_extra "has"
      case e6 =>
        intro y hy
        simp only [List.mem_cons, List.not_mem_nil, or_false] at hy
        rcases hy with rfl | rfl <;> exact ⟨_, _, rfl⟩
      repeat' k_extra "z"
      k_extra "zi"
      · have hz0 : actF x (T.df cf.top) = 0 := act_zero d0 d3 ((any_ints.mp hq).imp id fun h => h.trans (by decide))
        rw [hz0, if_neg (by decide), if_neg (by decide), if_neg (by decide)] at ht
        obtain rfl := hR.det (.done ht)
        clear S₉
        repeat' k_extra "z"
        with_reducible refine' R_compS (cl' := [(Str.ofString "row", c1)]) (by assumption) C' hI ?cl ?fs ?sc ?x ?h
        case cl => rw [hE]; kernel_rfl
        case fs => intro _; exact rfl
        case sc => exact rfl
        case x => exact rfl
        case h =>
          repeat' k_extra "z"
          rename_i sA t0 SA sB t1 SB sC t4 SC s₁₀ tp S₁₀
          with_reducible refine' R_iterTup S₁₀ ?k0 fun s₁₁ it S₁₁ => ?_
          case k0 => k_extra "has"
          refine R_rest (iterTup b tp [.int 0 t0, .int 3 t1, .int 4 t4]) (fun i ys κ' own' => κ₂ = κ' ∧ own' = [(tp, .tup [.int 0 t0, .int 3 t1, .int 4 t4]), (c1, .cell (.ref ra))] ∧ ys.length ≤ i ∧ All2 StrIs ys ((([0, 3, 4].take i).filter (okC (T.row cf.top))).map fun k => nameOf (k : Nat)))
            (S₁₁.drop (.cons_cons _ (.cons_cons _ (.cons _ (.refl _))))) ⟨rfl, rfl, Nat.le_refl _, .nil⟩ (Nat.le_of_ble_eq_true rfl) ?_ ?_ ?_ ?_
          · rintro i ys _ _ ⟨-, -, h, -⟩
            exact h
          · rintro i ys κ' _ ⟨-, rfl, -⟩
            exact .inl (.head _)
          · intro i acc v ys m₁ κ₃ _ hid₂ C₂ cenv s₁₂ E' Ny Nf hi hv hZ16 hY hF hEc Cc S₁₂
            obtain ⟨rfl, rfl, hl, ha⟩ := hZ16
            obtain ⟨k, tv, hk, rfl⟩ : ∃ (k : Nat) (t : Tok), [0, 3, 4][i]? = some k ∧ v = .int (k : Int) t := three_at hv
            have hk5 : k < 5 := by
              have := List.mem_of_getElem? hk
              simp only [List.mem_cons, List.not_mem_nil, or_false] at this
              rcases this with rfl | rfl | rfl <;> decide
            have hstep := three_step (T.row cf.top) hk
            obtain ⟨tn', hkn'⟩ := name_at (k := k) (Nat.lt_trans hk5 (by decide))
            have hxk : (T.row cf.top)[(k : Int).toNat]? = some ((T.row cf.top).getD k 0) := by
              rw [Int.toNat_natCast, List.getD_eq_getElem?_getD, List.getElem?_eq_getElem (a2 ▸ hk5)]; rfl
            obtain ⟨tk', hrk⟩ := ints_get ira hxk
            with_reducible refine R_tests1 ?_
            repeat' k_extra "z"
            with_reducible refine' R_notinTup (intE ((T.row cf.top).getD k 0)) (by assumption) ?e7 (intE_eq ?e8) ?_
            case e7 => k_extra "has"
            case e8 =>
              intro y hy
              simp only [List.mem_cons, List.not_mem_nil, or_false] at hy
              rcases hy with rfl | rfl <;> exact ⟨_, _, rfl⟩
            repeat' k_extra "z"
            k_extra "zi"
            · have hok : okC (T.row cf.top) k = true := by
                have h := hq
                rw [Bool.not_eq_true'] at h
                have h0 : ¬ ((T.row cf.top).getD k 0 = 0 ∨ (T.row cf.top).getD k 0 = BARREDz) := fun q => by
                  rw [any_ints.mpr (q.imp id fun h => h.trans (by decide))] at h; cases h
                exact okC_true h0
              rw [hok, if_pos rfl] at hstep
              repeat' k_extra "z"
              refine' hY _ _ _ _ _ (St.drop (by assumption) ?dr) ⟨rfl, rfl, ?hl, ?ha⟩
              case dr => exact .cons _ (.refl _)
              case hl => rw [List.length_append]; exact Nat.succ_le_succ hl
              case ha => rw [hstep]; exact ha.snoc ⟨_, rfl⟩
            · have hok : okC (T.row cf.top) k = false := by
                have h := hq
                rw [Bool.not_eq_false'] at h
                have h0 := any_ints.mp h
                exact okC_false (h0.imp id fun h => h.trans (by decide))
              rw [hok, if_neg (by decide), List.append_nil] at hstep
              refine' hF _ _ _ _ (St.drop (by assumption) ?dr) ⟨rfl, rfl, ?hl, ?ha⟩
              case dr => exact .cons _ (.refl _)
              case hl => exact Nat.le_succ_of_le hl
              case ha => rw [hstep]; exact ha
          · intro acc ys κ₃ _ s₁₂ hZ5 S₁₂
            obtain ⟨rfl, rfl, hl, ha⟩ := hZ5
            have ha' : All2 StrIs ys ((expUpto (T.row cf.top) 5).map nameOf) := by rw [exp_three]; exact ha
            repeat' k_extra "z"
            rename_i u1 s₁₃ fa S₁₃ u2 s₁₄ u3 s₁₅ u4 s₁₆ o S₁₆
            have F := S₁₆.freeze (fz := [_, _, _]) (own' := [_, _]) (List.Sublist.refl _)
            refine fin (hle₂.trans (Kw.le_ext _ _)) F (.list (.inr (.head _)) (.cons (.str _ _) (.cons .none (.cons (.list (.inl q3) (DtsK.of (f := mvDt) (fun _ _ k => MvK.dt k) (j3.mono fun _ _ k => k.mono (Kw.le_ext _ _)))) (.cons (.tup (.inr (.tail _ (.head _))) (.cons (.str _ _) (.cons (.int _ _) (.cons (.list (.inr (.tail _ (.tail _ (.head _)))) ?_) (.cons (.int _ _) .nil))))) (.cons (.int _ _) .nil))))))
            exact names_dt ha'
      · have hn0 : ¬ (actL x (T.df cf.top) = 0 ∨ actL x (T.df cf.top) = BARREDz) := fun h => by
          rw [any_ints.mpr (h.imp id fun h => h.trans (by decide))] at hq; cases hq
        obtain ⟨hae, han⟩ := act_else d0 d3 hn0
        rw [hae] at ht hact
        clear hn0
        generalize actL x (T.df cf.top) = a at *
        have hzv : vals.length ≤ 1000000 := le_eq j2.length hb2 (by decide)
        have hzm : mvs.length ≤ 1000000 := le_eq j3.length hb1 (by decide)
        have hml := j3.length
        have hvl := j2.length
        have hsl := j1.length
        repeat' k_extra "z"
        k_extra "zi"
        · have e : a = ACCEPTz := by simpa using hq
          rw [if_pos e] at ht
          repeat' k_extra "z"
          k_extra "zi"
          · have hw : cf.worths = [] := by
              have := List.isEmpty_iff.mp hq
              rw [this] at hvl
              exact List.length_eq_zero_iff.mp hvl.symm
            rw [if_pos (.inl hw)] at ht
            repeat' k_extra "z"
            exact raisedG hle₂ (by assumption) hcnt q3 j3 (hR.det (.done ht))
          have hw : cf.worths ≠ [] := fun e => by
            rw [e] at hvl
            rw [List.length_eq_zero_iff.mp hvl] at hq
            cases hq
          repeat' k_extra "z"
          k_extra "zi"
          · have hm : most ≤ cf.moves.length := most_ge hml (eq_of_beq hq)
            rw [if_pos (.inr hm)] at ht
            repeat' k_extra "z"
            exact raisedG hle₂ (by assumption) hcnt q3 j3 (hR.det (.done ht))
          have hm : ¬ most ≤ cf.moves.length := fun h => by
            have e : (mvs.length : Int) = most := most_eq hml l3 h
            rw [e, beq_self_eq_true] at hq; cases hq
          rw [if_neg (by rw [not_or]; exact ⟨hw, hm⟩)] at ht
          obtain rfl := hR.det (.done ht)
          obtain ⟨vs', v, w, rfl, hgl, hv⟩ := j2.last hw
          repeat' k_extra "z"
          with_reducible refine' R_addlist (by assumption) ?k1 ?k2 ?z2 fun s₁₂ l2 S₁₂ => ?_
          case k1 => k_extra "has"
          case k2 => k_extra "has"
          case z2 => exact Nat.le_trans (Nat.succ_le_succ (le_eq hml hb1 (by decide : 100 ≤ 199))) (by decide)
          repeat' k_extra "z"
          rename_i s₁₃ o S₁₃
          have F := S₁₃.freeze (fz := [_, _, _, _]) (List.Sublist.refl _)
          exact fin (hle₂.trans (Kw.le_ext _ _)) F (.list (.inr (.head _)) (.cons (.str _ _) (.cons (WorthIs.dt (by rw [hgl]; exact hv)) (.cons (.list (.inr (.tail _ (.head _))) (DtsK.of (f := mvDt) (fun _ _ k => MvK.dt k) ((j3.mono fun _ _ k => k.mono (Kw.le_ext _ _)).snoc ⟨_, _, rfl, .inr (.tail _ (.tail _ (.tail _ (.head _)))), _, rfl⟩))) (.cons .none (.cons (.int _ _) .nil))))))
        have hna : a ≠ ACCEPTz := by simpa using hq
        rw [if_neg hna] at ht
        repeat' k_extra "z"
        k_extra "zi"
        · have hp : 0 < a := by simpa using hq
          rw [if_pos hp] at ht
          have hga := hact.1 hna hp
          repeat' k_extra "z"
          k_extra "zi"
          · have hm : most ≤ cf.moves.length := most_ge hml (eq_of_beq hq)
            rw [if_pos hm] at ht
            repeat' k_extra "z"
            exact raisedG hle₂ (by assumption) hcnt q3 j3 (hR.det (.done ht))
          have hm : ¬ most ≤ cf.moves.length := fun h => by
            have e : (mvs.length : Int) = most := most_eq hml l3 h
            rw [e, beq_self_eq_true] at hq; cases hq
          rw [if_neg hm] at ht
          have hR' := hR.next ht
          k_extra "zT"
          with_reducible refine R_execs ?_
          refine Assign_Tuple_swapped (names := [Str.ofString "moves", Str.ofString "stack", Str.ofString "worths"]) ?_ (by rw [hE]; kernel_rfl) (by rw [hE]; kernel_rfl)
          repeat' k_extra "z"
          with_reducible refine' R_addlist (by assumption) ?k1 ?k2 ?z2 fun s₁₂ l2 S₁₂ => ?_
          case k1 => k_extra "has"
          case k2 => k_extra "has"
          case z2 => exact Nat.le_trans (Nat.succ_le_succ (le_eq hml hb1 (by decide : 100 ≤ 199))) (by decide)
          repeat' k_extra "z"
          with_reducible refine' R_addlist (by assumption) ?k1 ?k2 ?z2 fun s₁₃ l3 S₁₃ => ?_
          case k1 => k_extra "has"
          case k2 => k_extra "has"
          case z2 => exact Nat.le_trans (Nat.succ_le_succ (le_eq (hsl'.trans l1) (Nat.succ_le_succ hb2) (by decide : 101 ≤ 199))) (by decide)
          k_extra "zF"
          refine' wpAny_mono (Q := fun v s => ∃ tw, v = .str (worthAt kinds cf.spot) tw ∧ St b hid' L' ?mm κ κ₂ ?oo s) ?br (fun v s h => ?ct) (fun _ _ x => x)
          case br =>
            have hsp : (cf.spot : Int) < 2 ^ 63 ∨ ¬ cf.spot < kinds.length := spot_or hkn
            repeat' k_extra "z"
            k_extra "zi"
            · have hlt : cf.spot < kinds.length := lt_cast hkvl (of_decide_eq_true hq)
              have hs := strlen_small cf.spot (Nat.le_of_lt (Nat.lt_of_lt_of_le hlt (Nat.le_trans hkn (by decide))))
              repeat' k_extra "z"
              with_reducible refine R_strint (by assumption) (abs64 (Nat.le_of_lt (Nat.lt_of_lt_of_le hlt (Nat.le_trans hkn (by decide))))) fun _ _ _ => ?_
              repeat' k_extra "z"
              with_reducible refine' R_addstr (by assumption) ?_ hs.1 ?_ fun _ _ _ => ?_
              · rfl
              · rw [PySem.Str.length_append]
                have e : ("w" : Str).length = 1 := by decide
                exact Nat.le_trans (Nat.add_le_add (Nat.le_of_eq e) hs.2) (by decide)
              have hwa : worthAt kinds cf.spot = ("w" : Str) ++ (toString cf.spot : String) := by unfold worthAt; rw [if_pos hlt]
              rw [hwa]
              exact ⟨_, rfl, by assumption⟩
            · have hge : ¬ cf.spot < kinds.length := Nat.not_lt_of_ge (ge_cast hkvl (of_decide_eq_false hq))
              repeat' k_extra "z"
              have hwa : worthAt kinds cf.spot = "" := by unfold worthAt; rw [if_neg hge]
              rw [hwa]
              exact ⟨_, rfl, by assumption⟩
          case ct =>
          obtain ⟨tw, rfl, S₁₄⟩ := h
          repeat' k_extra "z"
          with_reducible refine' R_addlist (by assumption) ?k1 ?k2 ?z2 fun s₁₅ l4 S₁₅ => ?_
          case k1 => k_extra "has"
          case k2 => k_extra "has"
          case z2 => exact Nat.le_trans (Nat.succ_le_succ (le_eq hvl hb2 (by decide : 100 ≤ 199))) (by decide)
          repeat' k_extra "z"
          refine Assign_Tuple_swapped (names := [Str.ofString "spot", Str.ofString "is_seen"]) ?_ (by rw [hE]; kernel_rfl) (by rw [hE]; kernel_rfl)
          repeat' k_extra "z"
          rename_i s₁₆ S₁₆
          have F := S₁₆.freeze (fz := [_, _, _, _, _, _, _, _, _, _]) (own' := [(c1, .cell (.ref ra))]) (List.Sublist.refl _)
          have hlen : (cf.look.shifted kinds a).moves.length = cf.moves.length + 1 := by show (cf.moves ++ [_]).length = _; rw [List.length_append]; rfl
          refine hN _ _ ?_ ⟨_, _, cf.look.shifted kinds a, l3, l4, l2, _, _, _, _, .cell (.ref ra), hle₂.trans (Kw.le_ext _ _), F, ⟨n1, n2, n3, n4, n5, n6, rfl, rfl, rfl, rfl, rfl, .inr (.tail _ (.tail _ (.tail _ (.tail _ (.head _))))), .inr (.tail _ (.tail _ (.head _))), .inr (.tail _ (.tail _ (.tail _ (.tail _ (.tail _ (.tail _ (.head _))))))), ints_snoc j1s _ _, j2.snoc ⟨tw, rfl⟩, (j3.mono fun _ _ k => k.mono (Kw.le_ext _ _)).snoc ⟨_, _, rfl, .inr (.tail _ (.tail _ (.tail _ (.tail _ (.tail _ (.tail _ (.tail _ (.tail _ (.head _))))))))), _, _, rfl⟩⟩, (turnF_ok to O ht).1, hR', trivial, rfl⟩
          exact most_dec hm hlen
        · have hp : a < 0 := by have : ¬ 0 < a := by simpa using hq
                                exact Int.lt_iff_le_and_ne.mpr ⟨Int.not_lt.mp this, han⟩
          rw [if_neg (Int.not_lt.mpr (Int.le_of_lt hp)), if_pos hp] at ht
          have hga := hact.2 hp
          repeat' k_extra "z"
          rename_i s₁₂ S₁₂
          refine hKF _ _ cf.look (0 - a) _ (S₁₂.drop (.cons _ (.refl _))) ⟨n1, n2, n3, n4, n5, n6, n7, n8, n9, n10, rfl, q1, q2, q3, j1, j2, j3⟩ rfl (sub_pos' hp) (by rw [Int.zero_sub]; exact hga.2) rfl rfl rfl O.seen ?_
          rw [Int.zero_sub]; exact ht
    · have hz : 0 < T.lone cf.top := by have h : T.lone cf.top ≠ 0 := by simpa using hq
                                        exact Int.lt_iff_le_and_ne.mpr ⟨hlo.1, Ne.symm h⟩
      repeat' k_extra "z"
      rename_i s₈ S₈
      exact hKF _ _ cf (T.lone cf.top) _ S₈ ⟨n1, n2, n3, n4, n5, n6, n7, n8, n9, n10, n11, q1, q2, q3, j1, j2, j3⟩ rfl hz hlo.2 rfl rfl rfl O (turnF_lone hz)
  intro s₈ m₃ cf' rr trr S₈ hZ6 hru hr0 hr1 est ews emv O' ht
  obtain ⟨n1, n2, n3, n4, n5, n6, n7, n8, n9, n10, n11, -, -, -, -, -, -⟩ := hZ6
  clear S₇
  first | with_reducible refine R_next ?_ | with_reducible refine R_kseq (by assumption) (R_next ?_)
  obtain ⟨f0, f1, f2, f3, g1, g2, g3, g4⟩ := rule_facts to hr0 hr1
  have hrule : T.rules[(rr - 1).toNat]? = some (T.rule rr) := by
    have e : (rr - 1).toNat = rr.toNat - 1 := arp hr0
    rw [e]; unfold TabD.rule
    rw [List.getD_eq_getElem?_getD, List.getElem?_eq_getElem (rr_idx hr0 hr1)]; rfl
  obtain ⟨rulev, hrulev, rt, t1, t2, t3, rfl, krt⟩ : ∃ v, rlv[(rr - 1).toNat]? = some v ∧ TupK κ v (T.rule rr) := i1.get hrule
  have krt := hle₂ _ _ krt
  rw [← est] at j1
  rw [← ews] at j2
  rw [← emv] at j3
  clear q1s j1s
  have m1 := O'.len
  have m2 := O'.wl
  have m3 := O'.mvs
  have hb1' := nat_bd m3 hm0.2
  have hb2' := Nat.le_trans m2 hb1'
  have hzv : vals.length ≤ 1000000 := le_eq j2.length hb2' (by decide)
  have hzm : mvs.length ≤ 1000000 := le_eq j3.length hb1' (by decide)
  have hzs : sts.length ≤ 1000000 := le_eq (j1.length.trans m1) (Nat.succ_le_succ hb2') (by decide)
  have hml := j3.length
  have hvl := j2.length
  have hsl := j1.length
  have hcnt : (cf'.spot : Int) + (if cf'.seen then 1 else 0) = cf'.cnt := rfl
  with_reducible refine R_execs ?_
  refine Assign_Tuple ?_ (by rw [hE]; kernel_rfl) (by rw [hE]; kernel_rfl)
  repeat' k_extra "z"
  have hF1 : ((cf'.worths.length : Int) - (T.rule rr).2.1 - (T.rule rr).2.2 < 0 ∨ most ≤ cf'.moves.length) → turnF T kinds most cf = .inr (raisedR cf' cf'.moves) := fun h => by
    rw [ht]; unfold reduceF; dsimp only; rw [if_pos h]
  k_extra "zi"
  · have hlt := of_decide_eq_true hq
    repeat' k_extra "z"
    exact raisedG hle₂ (by assumption) hcnt q3 j3 (hR.det (.done (hF1 (.inl (cnd_lt hvl hlt)))))
  have hge := of_decide_eq_false hq
  repeat' k_extra "z"
  k_extra "zi"
  · have hm : most ≤ cf'.moves.length := most_ge hml (eq_of_beq hq)
    repeat' k_extra "z"
    exact raisedG hle₂ (by assumption) hcnt q3 j3 (hR.det (.done (hF1 (.inr hm))))
  have hm : ¬ most ≤ cf'.moves.length := fun h => by
    have e : (mvs.length : Int) = most := most_eq hml m3 h
    rw [e, beq_self_eq_true] at hq; cases hq
  have hcond : ¬ ((cf'.worths.length : Int) - (T.rule rr).2.1 - (T.rule rr).2.2 < 0 ∨ most ≤ cf'.moves.length) := fun h => h.elim (cnd_not hvl hge) hm
  rw [reduceF_popped hcond] at ht
  k_extra "zE"
  refine R_execs (R_joinK (fun KK => ∀ s₉ v tl, WorthIs v ((cf'.worths.drop (cf'.worths.length - (T.rule rr).2.1.toNat - (T.rule rr).2.2.toNat)).head?).join → St b hid' L' (nset (Str.ofString "worth") v (nset (Str.ofString "looked") (.int ((cf'.spot : Int) + if cf'.seen = true then 1 else 0) tl) (nset (Str.ofString "ahead") (.int (T.rule rr).2.2 t3) (nset (Str.ofString "length") (.int (T.rule rr).2.1 t2) (nset (Str.ofString "left") (.int (T.rule rr).1 t1) m₃))))) κ κ₂ [(c1, .cell (.ref ra))] s₉ → KK s₉) ?_ ?_)
  · intro KK hK
    repeat' k_extra "z"
    k_extra "zi"
    · have hpos := of_decide_eq_true hq
      have hi : cf'.worths.length - (T.rule rr).2.1.toNat - (T.rule rr).2.2.toNat < cf'.worths.length := arlt g1 g3 hvl hge hpos
      obtain ⟨v, hvv, hvw⟩ := j2.get (List.getElem?_eq_getElem hi)
      have hix : ((vals.length : Int) - (T.rule rr).2.1 - (T.rule rr).2.2).toNat = cf'.worths.length - (T.rule rr).2.1.toNat - (T.rule rr).2.2.toNat := ar2 g1 g3 hvl (cnd_ge hge)
      rw [← hix] at hvv
      have hx0 := cnd_ge hge
      have hx63 := idx63 g1 g3 hzv
      repeat' k_extra "z"
      refine ⟨rfl, hK _ _ _ ?_ (by assumption)⟩
      rw [List.head?_drop, List.getElem?_eq_getElem hi]; exact hvw
    · have hpos := of_decide_eq_false hq
      repeat' k_extra "z"
      refine ⟨rfl, hK _ _ _ ?_ (by assumption)⟩
      rw [List.head?_drop, List.getElem?_eq_none (arle g1 g3 hpos)]; rfl
  rintro s₉ v tl hv S₉
  clear S₈
  generalize ((cf'.worths.drop (cf'.worths.length - (T.rule rr).2.1.toNat - (T.rule rr).2.2.toNat)).head?).join = w at hv ht
  have hz5 : sts.length ≤ sizeLine := Nat.le_trans hzs (by decide)
  have hz6 : vals.length ≤ sizeLine := Nat.le_trans hzv (by decide)
  have hk1' : 0 ≤ (vals.length : Int) - (T.rule rr).2.1 := cnd_one g3 hge
  have hk0 : 0 ≤ (sts.length : Int) - (T.rule rr).2.1 := ge_more (hsl.trans (m1.trans (congrArg (· + 1) hvl.symm))) hk1'
  have hN1 : ((sts.length : Int) - (T.rule rr).2.1).toNat = cf'.worths.length - (T.rule rr).2.1.toNat + 1 := ar1s g1 hsl m1 hvl hk1'
  have hN2 : ((vals.length : Int) - (T.rule rr).2.1).toNat = cf'.worths.length - (T.rule rr).2.1.toNat := ar1 g1 hvl hk1'
  first | with_reducible refine R_next ?_ | with_reducible refine R_kseq (by assumption) (R_next ?_)
  with_reducible refine R_execs ?_
  refine Assign_Tuple_swapped (names := [Str.ofString "moves", Str.ofString "stack", Str.ofString "worths"]) ?_ (by rw [hE]; kernel_rfl) (by rw [hE]; kernel_rfl)
  repeat' k_extra "z"
  with_reducible refine' R_addlist (by assumption) ?k1 ?k2 ?z2 fun s₁₂ lm S₁₂ => ?_
  case k1 => k_extra "has"
  case k2 => k_extra "has"
  case z2 => exact Nat.le_trans (Nat.succ_le_succ (le_eq hml hb1' (by decide : 100 ≤ 199))) (by decide)
  repeat' k_extra "z"
  with_reducible refine' R_sliceUpto (by assumption) ?k1 hz5 hk0 fun s₁₃ l1 S₁₃ => ?_
  case k1 => k_extra "has"
  repeat' k_extra "z"
  with_reducible refine' R_sliceUpto (by assumption) ?k2 hz6 hk1' fun s₁₄ l2 S₁₄ => ?_
  case k2 => k_extra "has"
  k_extra "zI"
  rename_i s₁₅ S₁₅
  have hNl : (cf'.popped rr (cf'.worths.length - (T.rule rr).2.1.toNat)).stack.length = (cf'.worths.length - (T.rule rr).2.1.toNat) + 1 := by
    show (cf'.stack.take _).length = _
    rw [List.length_take]; exact armin1 m1
  have hpst : (cf'.popped rr (cf'.worths.length - (T.rule rr).2.1.toNat)).stack = cf'.stack.take (cf'.worths.length - (T.rule rr).2.1.toNat + 1) := rfl
  have hpws : (cf'.popped rr (cf'.worths.length - (T.rule rr).2.1.toNat)).worths = cf'.worths.take (cf'.worths.length - (T.rule rr).2.1.toNat) := rfl
  have hpmv : (cf'.popped rr (cf'.worths.length - (T.rule rr).2.1.toNat)).moves = cf'.moves ++ [.reduce rr] := rfl
  have hpsp : (cf'.popped rr (cf'.worths.length - (T.rule rr).2.1.toNat)).spot = cf'.spot := rfl
  have hpse : (cf'.popped rr (cf'.worths.length - (T.rule rr).2.1.toNat)).seen = cf'.seen := rfl
  have hj1 : IntsAre (sts.take ((sts.length : Int) - (T.rule rr).2.1).toNat) (cf'.popped rr (cf'.worths.length - (T.rule rr).2.1.toNat)).stack := by rw [hN1]; exact ints_take j1 _
  have hj2 : All2 WorthIs (vals.take ((vals.length : Int) - (T.rule rr).2.1).toNat) (cf'.popped rr (cf'.worths.length - (T.rule rr).2.1.toNat)).worths := by rw [hN2]; exact j2.take _
  obtain ⟨κ₃, tq, tp, hle₃, ks, kw, km, kt, S₁₆⟩ : ∃ κ₃ tq tp, κ₂.Le κ₃ ∧ κ₃ l1 (.list (sts.take ((sts.length : Int) - (T.rule rr).2.1).toNat)) ∧ κ₃ l2 (.list (vals.take ((vals.length : Int) - (T.rule rr).2.1).toNat)) ∧ κ₃ lm (.list (mvs ++ [.ref tp])) ∧ κ₃ tp (.tup [.str (Str.ofString "reduce") tq, .int rr trr]) ∧ St b hid' L' _ κ κ₃ [(c1, .cell (.ref ra))] s₁₅ :=
    ⟨_, _, _, Kw.le_ext _ _, .inr (.tail _ (.tail _ (.head _))), .inr (.tail _ (.head _)), .inr (.tail _ (.tail _ (.tail _ (.head _)))), .inr (.tail _ (.tail _ (.tail _ (.tail _ (.tail _ (.head _)))))), S₁₅.freeze (fz := [_, _, _, _, _, _]) (List.Sublist.refl _)⟩
  clear S₁₅ S₁₄ S₁₃ S₁₂ S₉
  generalize hP : cf'.popped rr (cf'.worths.length - (T.rule rr).2.1.toNat) = P at hNl hpst hpws hpmv hpsp hpse hj1 hj2 ht
  generalize sts.take ((sts.length : Int) - (T.rule rr).2.1).toNat = sts' at hj1 ks
  generalize vals.take ((vals.length : Int) - (T.rule rr).2.1).toNat = vals' at hj2 kw
  have hj3 : All2 (MvK κ₃) (mvs ++ [.ref tp]) P.moves := by rw [hpmv]; exact (j3.mono fun _ _ k => k.mono hle₃).snoc ⟨_, _, rfl, kt, _, _, rfl⟩
  obtain ⟨pre', hpre'⟩ : ∃ pre, P.stack = pre ++ [P.top] := last_split hNl
  have htop' : 0 ≤ P.top ∧ P.top < T.rows.length := O'.sts _ (List.mem_of_mem_take (by rw [← hpst, hpre']; exact List.mem_append_right _ (.head _)))
  obtain ⟨b1, b2, b3, b4, b5, DD', b6, b7, b8⟩ := to.at htop'.1 htop'.2
  have htop0' := htop'.1
  have htop63' := lt63 b4
  have hj1' := hj1
  rw [hpre'] at hj1'
  obtain ⟨us', tt', rfl, -⟩ := ints_last hj1'
  clear hj1'
  obtain ⟨gv, hgv, gd, rfl, kgd⟩ : ∃ v, gtv[P.top.toNat]? = some v ∧ GotK κ v DD' := i3.get b6
  have kgd := hle₃ _ _ (hle₂ _ _ kgd)
  have r3 := hle₃ _ _ r3
  have hgB := (DB.gotos DD' (List.mem_of_getElem? b6)).1 (T.rule rr).1
  have hg8 := b8 (T.rule rr).1
  with_reducible refine R_execs ?_
  repeat' k_extra "z"
  k_extra "zi"
  · have hno : PySem.Spec.lookup (.int (T.rule rr).1) DD' = none := by
      rcases hgB with h | ⟨g, h, -⟩
      · exact h
      · rw [h] at hq; cases hq
    have hneg : T.goto P.top (T.rule rr).1 = -1 := by rw [hg8.1]; unfold gotoOf; rw [hno]
    rw [if_pos (by rw [hneg]; decide)] at ht
    rw [← hpmv] at ht
    repeat' k_extra "z"
    exact raisedG (hle₂.trans hle₃) (by assumption) hcnt km hj3 (hR.det (.done ht))
  obtain ⟨g, hg, g0', g1'⟩ : ∃ g, PySem.Spec.lookup (.int (T.rule rr).1) DD' = some (.int g) ∧ 0 ≤ g ∧ g < T.rows.length := by
    rcases hgB with h | h
    · rw [h] at hq; cases hq
    · exact h
  have hgg : T.goto P.top (T.rule rr).1 = g := by rw [hg8.1]; unfold gotoOf; rw [hg]
  rw [hgg, if_neg (Int.not_lt.mpr g0')] at ht
  have hR' := hR.next ht
  k_extra "zT"
  with_reducible refine R_execs ?_
  refine Assign_Tuple_swapped (names := [Str.ofString "stack", Str.ofString "worths"]) ?_ (by rw [hE]; kernel_rfl) (by rw [hE]; kernel_rfl)
  repeat' k_extra "z"
  with_reducible refine' R_itemI (by assumption) ?k1 hg ?s1 fun s₁₇ gv S₁₇ hgv' => ?_
  case k1 => k_extra "has"
  case s1 => with_unfolding_all rfl
  obtain ⟨tg, rfl⟩ := flat_int hgv'
  repeat' k_extra "z"
  have hjl1 := hj1.length
  have hjl2 := hj2.length
  have hjw : P.worths.length ≤ 100 := by rw [hpws, List.length_take]; exact Nat.le_trans (Nat.min_le_right _ _) hb2'
  with_reducible refine' R_addlist (by assumption) ?k1 ?k2 ?z2 fun s₁₈ l3 S₁₈ => ?_
  case k1 => k_extra "has"
  case k2 => k_extra "has"
  case z2 => exact Nat.le_trans (Nat.succ_le_succ (le_eq (hjl1.trans hNl) (Nat.succ_le_succ (Nat.le_trans (Nat.sub_le _ _) hb2')) (by decide : 101 ≤ 199))) (by decide)
  repeat' k_extra "z"
  with_reducible refine' R_addlist (by assumption) ?k1 ?k2 ?z2 fun s₁₉ l4 S₁₉ => ?_
  case k1 => k_extra "has"
  case k2 => k_extra "has"
  case z2 => exact Nat.le_trans (Nat.succ_le_succ (le_eq hjl2 hjw (by decide : 100 ≤ 199))) (by decide)
  repeat' k_extra "z"
  rename_i s₂₀ S₂₀
  have F := S₂₀.freeze (fz := [_, _, _, _, _]) (own' := [(c1, .cell (.ref ra))]) (List.Sublist.refl _)
  have hl : P.moves.length = cf.moves.length + 1 := by rw [hpmv, emv, List.length_append]; rfl
  have n10 : m₃ "spot" = some (.int P.spot tsp) := by rw [hpsp]; exact n10
  have n11 : m₃ "is_seen" = some (.bool P.seen) := by rw [hpse]; exact n11
  refine hN _ _ ?_ ⟨_, _, P.gone g w, l3, l4, lm, _, _, _, tsp, .cell (.ref ra), hle₂.trans (hle₃.trans (Kw.le_ext _ _)), F, ⟨n1, n2, n3, n4, n5, n6, rfl, rfl, rfl, n10, n11, .inr (.tail _ (.tail _ (.tail _ (.head _)))), .inr (.tail _ (.head _)), .inl km, ints_snoc hj1 _ _, hj2.snoc hv, hj3.mono fun _ _ k => k.mono (Kw.le_ext _ _)⟩, (turnF_ok to O ht).1, hR', trivial, rfl⟩
  show (most - (P.moves.length : Int)).toNat < _
  have hee : cf'.moves.length = cf.moves.length := by rw [emv]
  rw [hee] at hm
  exact most_dec hm hl
end
section
variable {b : Bs} {lv : Nat} {A : Around} {E : Value → Shared → Prop} {s : Shared} {hid : Kw} {L : Addr} {m m' : Str → Option Value} {κ₀ κ : Kw} {own own' : List (Addr × AObj)} {frs : List Env} {env : Env} {sc : Scope} {cl : List (Str × Addr)}
/-- a ParseError in flight is caught -/
theorem R_caught {e : Addr} {x : Str} {np pos : Pos} {b₀ : Stmt} {suite : List Stmt} {rest : List ExceptHandler} {Q : Flow → Shared → Prop} (G : Gd b) (C : Cx b lv A L hid (env :: frs)) (hE : EnvIs env sc L cl) (hf : env.frame = some L) (F : Fly b hid L m κ₀ κ own (env :: frs) e s)
    (hp : PassesOwnAt (model b.prog b.w) (A.mark (some (.ref e))) A env E)
    (hv : nsIn (kk.heap_1 b.w.params) mainGlobals x = some (some (.ref 71))) (hk : sc.kind = .function) (hl : sc.names.lookup x = some .globalImplicit) (hd : (x == ("__debug__" : Str)) = false)
    (k : ∀ s', St b hid L m κ₀ κ own s' → wpAny (model b.prog b.w) (A.mark (some (.ref e))) (execs (b₀ :: suite) env) Q E s') :
    wpAny (model b.prog b.w) A (noteFrame (.ref e) env) (fun _ s₂ => wpAny (model b.prog b.w) A (setFlight (.ref e) none) (fun _ s₃ =>
      wpAny (model b.prog b.w) A (handleBy (.ref e) env (.ExceptHandler (some (.Name x np)) none (b₀ :: suite) pos :: rest)) Q E s₃) E s₂) E s := by
  obtain ⟨S, B, a0, fl, I⟩ := F
  refine wpAny_looks_onW C.fr hf fl fun h₄ hheld₄ up₄ => ?_
  refine wpAny_landsW hheld₄ fun h₅ fl₅ up₅ => ?_
  have S₅ := S.flew (t := s.toks) I fl₅.1 (up₄.trans up₅)
  obtain ⟨ob, hob, hobc⟩ := fl₅.there
  obtain ⟨nm, q, bs, sub, ab, col, dd, k0, k1, k2, k3, k5, h71⟩ := cls71 b.w.params
  refine wpAny_handleBy_cons (codeAny_handlers_test (R_glob hE G S₅ hv hk hl hd ?_)) (by intro q; cases q)
  refine wpAny_excMatches_sub_self (G.K.keeps S₅.bs _ _ h71) hob hobc ?_ (codeAny_handlers_suite ?_)
  · decide +kernel
  refine lands_againW fl₅ fun h₆ fl₆ up₆ => ?_
  exact wpAny_passesOwnAt hp (k _ (S.flew (t := s.toks) I fl₆.1 ((up₄.trans up₅).trans up₆)))
end
section
variable {b : Bs} {lv : Nat} {A : Around} {E : Value → Shared → Prop} {s : Shared} {hid : Kw} {L : Addr} {m m' : Str → Option Value} {κ₀ κ : Kw} {own own' : List (Addr × AObj)} {frs : List Env} {env : Env}
theorem R_nebool {x y : Bool} {Q : Value → Shared → Prop} (h : Q (.bool (x != y)) s) : wpAny (model b.prog b.w) A (compareOp .NotEq (.bool x) (.bool y)) Q E s :=
  PySem.SeqAt.RcNeAt.bool_bool x y _ _ _ _ h
theorem R_addtup {t c : Addr} {vs us : List Value} {Q : Value → Shared → Prop} (S : St b hid L m κ₀ κ own s) (k : Has κ own t (.tup vs)) (k' : Has κ own c (.tup us)) (h1 : vs ≠ []) (h2 : us ≠ []) (hz : vs.length + us.length ≤ sizeLine)
    (h : ∀ s' a, St b hid L m κ₀ κ ((a, .tup (vs ++ us)) :: own) s' → Q (.ref a) s') : wpAny (model b.prog b.w) A (binaryOp .Add (.ref t) (.ref c)) Q E s := by
  obtain ⟨n, ho⟩ := (S.has k).tup
  obtain ⟨n2, ho2⟩ := (S.has k').tup
  have e : vs.toArray ++ us.toArray = (vs ++ us).toArray := by simp
  refine concat_meets ⟨_, ho, rfl⟩ ⟨_, ho2, rfl⟩ noFill_tuple_add seq_tuple_add PySem.F.slot_tuple_add PySem.F.entry_tuple_add (PySem.F.args_tuple_add_2 _ _)
    (tuple_addW2 t c vs.toArray us.toArray n n2 _ _ _ _ (by simpa using h1) (by simpa using h2) (by rw [List.size_toArray, List.size_toArray]; exact hz)) ⟨ho, ho2, ?_⟩
  rw [e]
  exact h _ _ (S.alloc (Nat.le_refl _) (fun _ _ e => Heap.get?_push_of_some _ e) ⟨_, Heap.get?_push_size _ rfl, 0, rfl⟩ rfl rfl)
end
section
variable {b : Bs} {lv : Nat} {A : Around} {E : Value → Shared → Prop} {s : Shared} {hid : Kw} {L : Addr} {m m' : Str → Option Value} {κ₀ κ : Kw} {ex own own' : List (Addr × AObj)} {frs : List Env} {env : Env} {M : MCx} {vt : Virt} {cf : Cfg} {flts : List Flt}
set_option maxHeartbeats 2000000
theorem told_spec {v : Value} {f : Str × Int × List Int × Int} {Q : Value → Shared → Prop} (G : Gd b) (C : Cx b (lv + 1) A L hid frs) (S : St b hid L m κ₀ κ (ex ++ own) s) (H : FaultIs κ own v f) (hn : f.2.2.1.length ≤ 100)
    (ok : ∀ s' t nl nv tk tst, All2 StrIs nv (f.2.2.1.map nameOf) → St b hid L m κ₀ κ (ex ++ (t, .tup [.str f.1 tk, .int f.2.1 tst, .ref nl]) :: (nl, .list nv) :: own) s' → Q (.ref t) s') :
    wpAny (model b.prog b.w) A (call (.ref 318) [v]) Q E s := by
  obtain ⟨a, d, tok, nl, t1, t2, nv, wo, rfl, h1, h2, h3, h4, td, tk, tt, tw, x, h5, h6⟩ := H
  have hz0 := h4.length
  rw [List.length_map] at hz0
  have hz : nv.length ≤ sizeLine := Nat.le_trans (by omega : nv.length ≤ 100) (by decide)
  refine call_cx [("self", .ref a)] G C S (by k_is) (by k_is) (BindsTo.of_eq rfl) (locs rfl) rfl rfl rfl (by decide) fun L' hid' s' A' env' hE hI hA C' S' ret => ?_
  repeat' k_extra "z"
  exact ok _ _ _ _ _ _ h4 (ret.st (by assumption))
end
theorem reduceF_fault {T : TabD} {most r : Int} {c : Cfg} {x : Res} (h : reduceF T most c r = .inr x) : x.fault = none := by
  unfold reduceF at h
  dsimp only at h
  split at h
  · cases h; rfl
  · split at h
    · cases h; rfl
    · cases h
theorem turnF_fault {T : TabD} {kinds : List Str} {most : Int} {c : Cfg} {x : Res} (h : turnF T kinds most c = .inr x) : ∀ f, x.fault = some f → f.2.2.1.length ≤ 100 := by
  intro f hf
  unfold turnF at h
  split at h
  · rw [reduceF_fault h] at hf; cases hf
  · dsimp only at h
    split at h
    · split at h <;> cases h <;> cases hf
    · split at h
      · split at h <;> cases h
        cases hf
      · split at h
        · rw [reduceF_fault h] at hf; cases hf
        · cases h
          cases hf
          exact Nat.le_trans expUpto_len (by decide)
theorem Runs.fault {T : TabD} {kinds : List Str} {most : Int} {c : Cfg} {x : Res} (h : Runs T kinds most c x) : ∀ f, x.fault = some f → f.2.2.1.length ≤ 100 := by
  induction h with
  | done e => exact turnF_fault e
  | more _ _ ih => exact ih
theorem WorthIs.handed {v : Value} {w : Option Str} (h : WorthIs v w) : handedIn v = true := by
  cases w with
  | none => cases h; rfl
  | some x => obtain ⟨t, rfl⟩ := h; rfl
theorem St.pull {b : Bs} {hid : Kw} {L : Addr} {m : Str → Option Value} {κ₀ κ : Kw} {X : Addr × AObj} {A B : List (Addr × AObj)} {s : Shared} (S : St b hid L m κ₀ κ (A ++ X :: B) s) : St b hid L m κ₀ κ (X :: (A ++ B)) s := S.perm List.perm_middle
theorem FaultIs.le {κ κ' : Kw} {X : List (Addr × AObj)} {v : Value} {f : Str × Int × List Int × Int} (h : κ.Le κ') (k : FaultIs κ X v f) : FaultIs κ' X v f := by
  obtain ⟨a, d, tok, nl, t1, t2, nv, wo, e, h1, h2, h3, h4, td, tk, tt, tw, x, h5, h6⟩ := k
  exact ⟨a, d, tok, nl, t1, t2, nv, wo, e, h1, h2, h3, h4, td, tk, tt, tw, x, h5.imp id (h _ _), h6.imp id (h _ _)⟩
theorem DtsK.snoc {κ : Kw} {v : Value} {d : Dt} (k : DtK κ v d) : ∀ {vs : List Value} {ds : List Dt}, DtsK κ vs ds → DtsK κ (vs ++ [v]) (ds ++ [d])
  | _, _, .nil => .cons k .nil
  | _, _, .cons a r => .cons a (DtsK.snoc k r)
theorem one_of : ∀ {l : List Flt} {f : Str × Int × List Int × Int}, l.map Prod.snd = (some f).toList → ∃ p, l = [p] ∧ p.2 = f
  | [p], f, h => ⟨p, rfl, by simpa using h⟩
  | [], f, h => by simp at h
  | _ :: _ :: _, f, h => by simp at h
theorem get_fst {l : List Flt} {i : Nat} {v : Value} (h : (l.map Prod.fst)[i]? = some v) : ∃ p, l[i]? = some p ∧ v = p.1 := by
  rw [List.getElem?_map] at h
  cases hq : l[i]? with
  | none => rw [hq] at h; cases h
  | some p => rw [hq] at h; cases h; exact ⟨p, rfl, rfl⟩
theorem flt_mem {l : List Flt} {f : Option (Str × Int × List Int × Int)} {p : Flt} (h : FltOk l f) (hp : p ∈ l) : f = some p.2 := by
  have hm : p.2 ∈ l.map Prod.snd := List.mem_map_of_mem hp
  unfold FltOk at h
  rw [h] at hm
  cases f with
  | none => cases hm
  | some x => cases List.mem_singleton.mp hm; rfl
theorem flt_one {l : List Flt} {f : Option (Str × Int × List Int × Int)} (h : FltOk l f) : l.length ≤ 1 := by
  have e := congrArg List.length h
  rw [List.length_map] at e
  rw [e]
  cases f with
  | none => exact Nat.zero_le _
  | some _ => exact Nat.le_refl _
theorem flt_dts {κ : Kw} {l : List Flt} {f : Option (Str × Int × List Int × Int)} {ys : List Value} (h : FltOk l f) (ha : DtsK κ ys (l.map fun p => faultDt (some p.2))) : (ys = [] ∧ f = none) ∨ ∃ v, ys = [v] ∧ DtK κ v (faultDt f) := by
  cases f with
  | none =>
    have e : l = [] := by unfold FltOk at h; simpa using h
    subst e
    cases ha
    exact .inl ⟨rfl, rfl⟩
  | some f =>
    obtain ⟨p, rfl, rfl⟩ := one_of h
    cases ha with
    | cons a r => cases r with
      | nil => exact .inr ⟨_, rfl, a⟩
/-- how the pulling has ended, as the law's own code sees it -/
inductive HeardC (vt : Virt) (r : Res) (ans' an : Str) (va : Value) (cf : Cfg) : Prop
  | ok (h0 : ans' = "") (h1 : an = r.ans) (h2 : WorthIs va r.val) (h3 : r.ans = "accepted" ∨ r.ans = "aborted") (h4 : cf.cnt = r.count) (h5 : vt.weak = false ∨ r.ans ≠ "aborted" → cf.moves = r.moves)
  | ex (h0 : ans' = "raised") (h1 : an = "more") (h2 : va = .none) (h3 : (r.ans = "raised" ∧ r.val = none ∧ cf.moves = r.moves ∧ cf.cnt = r.count) ∨ (vt.weak = true ∧ r.ans = "aborted" ∧ r.val = none))
theorem HeardC.two {vt : Virt} {r : Res} {ans' an : Str} {va : Value} {cf : Cfg} (h : HeardC vt r ans' an va cf) : ans' = "" ∨ ans' = "raised" := by
  cases h with
  | ok h0 => exact .inl h0
  | ex h0 => exact .inr h0
theorem HeardC.strong {vt : Virt} {r : Res} {ans' an x : Str} {va : Value} {cf : Cfg} (h : HeardC vt r ans' an va cf) (hw : vt.weak = false) (hx : x = if ans' = "" then an else ans') : x = r.ans ∧ WorthIs va r.val ∧ cf.moves = r.moves ∧ cf.cnt = r.count := by
  cases h with
  | ok h0 h1 h2 h3 h4 h5 => subst h0; exact ⟨hx.trans h1, h2, h5 (.inl hw), h4⟩
  | ex h0 h1 h2 h3 =>
    subst h0
    rcases h3 with ⟨h1, h3, h4, h5⟩ | ⟨h1, -⟩
    · subst h2; exact ⟨by rw [hx, h1]; rfl, by rw [h3]; rfl, h4, h5⟩
    · rw [hw] at h1; cases h1
theorem HeardC.val {κ : Kw} {vt : Virt} {r : Res} {ans' an : Str} {va : Value} {cf : Cfg} (h : HeardC vt r ans' an va cf) : DtK κ va (optDt r.val) := by
  cases h with
  | ok _ _ h2 => exact h2.dt
  | ex _ _ h2 h3 =>
    have : r.val = none := by
      rcases h3 with ⟨_, h, _⟩ | ⟨_, _, h⟩
      · exact h
      · exact h
    rw [this, h2]; exact .none
theorem HeardC.ans {vt : Virt} {r : Res} {ans' an x : Str} {va : Value} {cf : Cfg} (h : HeardC vt r ans' an va cf) (hna : r.ans ≠ "aborted") (hx : x = if ans' = "" then an else ans') : x = r.ans := by
  cases h with
  | ok h0 h1 => subst h0; exact hx.trans h1
  | ex h0 _ _ h3 =>
    subst h0
    rcases h3 with ⟨h1, -⟩ | ⟨-, h2, -⟩
    · rw [hx, h1]; rfl
    · exact absurd h2 hna
/-- the machine behind the pulling -/
inductive HeardM (κ : Kw) (T : TabD) (kinds : List Str) (Cl c tb hd : Addr) (most : Int) (vt : Virt) (r : Res) (ans' : Str) (own : List (Addr × AObj)) : Prop
  | mk (cf : Cfg) (flts : List Flt) (an : Str) (va : Value) (H : Mach κ ⟨T, kinds, Cl, c, tb, hd, most, vt.ext2, an, va⟩ cf flts own) (hva : handedIn va = true) (hfo : FltOk flts r.fault) (hml : (cf.moves.length : Int) ≤ most) (hc : HeardC vt r ans' an va cf)
theorem HeardM.ok {κ : Kw} {T : TabD} {kinds : List Str} {Cl c tb hd : Addr} {most : Int} {ext : List (Str × Value) → Prop} {vt : Virt} {r : Res} {own : List (Addr × AObj)} {v0 : Value} (h : EndOk κ ⟨T, kinds, Cl, c, tb, hd, most, ext, "more", v0⟩ vt r own) : HeardM κ T kinds Cl c tb hd most vt r "" own := by
  obtain ⟨cf₂, flts₂, v, H₂, h1, h2, h3, h4, h5, h6⟩ := h
  exact ⟨cf₂, flts₂, _, v, H₂, h1.handed, h3, h5, .ok rfl rfl h1 h2 h4 h6⟩
theorem HeardM.ex {κ : Kw} {T : TabD} {kinds : List Str} {Cl c tb hd : Addr} {most : Int} {ext : List (Str × Value) → Prop} {vt : Virt} {r : Res} {own : List (Addr × AObj)} (h : EndEx κ ⟨T, kinds, Cl, c, tb, hd, most, ext, "more", .none⟩ vt r own) : HeardM κ T kinds Cl c tb hd most vt r "raised" own := by
  obtain ⟨cf₂, flts₂, H₂, h1, h2, h3⟩ := h
  exact ⟨cf₂, flts₂, _, _, H₂, rfl, h1, h2, .ex rfl rfl rfl h3⟩
/-- what a loop over the faults keeps -/
inductive FltI (κ₀ : Kw) (o od f2 m2 : Addr) (an : Str) (va : Value) (mvs : List Value) (flts : List Flt) (MA : List (Addr × AObj)) (i : Nat) (ys : List Value) (κ' : Kw) (own' : List (Addr × AObj)) : Prop
  | mk (hle : κ₀.Le κ') (ho : own' = (o, .inst 356 od) :: (od, .attrs 356 [("accepted", .bool (an == Str.ofString "accepted")), ("value", va), ("faults", .ref f2), ("moves", .ref m2)]) :: (m2, .list mvs) :: (f2, .list (flts.map Prod.fst)) :: MA) (hl : ys.length = i) (ha : DtsK κ' ys ((flts.take i).map fun p => faultDt (some p.2)))
theorem R_val {M : Model} {A : Around} {t : Sem Value} {Q : Value → Shared → Prop} {E : Value → Shared → Prop} {s : Shared} (P : Value → Shared → Prop) (h : wpAny M A t P E s) (k : ∀ v s', P v s' → Q v s') : wpAny M A t Q E s :=
  wpAny_mono h k fun _ _ x => x
section
variable {b : Bs} {lv : Nat} {A : Around} {E : Value → Shared → Prop} {s : Shared} {hid : Kw} {L : Addr} {m m' : Str → Option Value} {κ₀ κ : Kw} {ex own own' : List (Addr × AObj)} {frs : List Env} {env : Env} {M : MCx} {vt : Virt} {cf : Cfg} {flts : List Flt}
set_option maxHeartbeats 4000000
theorem heard_spec {line : Addr} {r : Res} {Q : Value → Shared → Prop} (G : Gd b) (SP : Specs b vt) (BG : BeginSpec b vt) (C : Cx b (lv + 18) A L hid frs) (K : MK κ M vt) (LI : LineIs κ line M.kinds)
    (S : St b hid L m κ₀ κ (ex ++ own) s) (H : Mach κ M cf flts own) (hR : Runs M.T M.kinds M.most cfg0 r)
    (ok : ∀ s' κ' own' o vs, κ.Le κ' → St b hid L m κ₀ κ' (ex ++ own') s' → κ' o (.list vs) → (vt.weak = false → DtK κ' (.ref o) (resDt r)) → (∃ x v1 v2 vr, vs = v1 :: v2 :: vr ∧ vr.length ≤ 3 ∧ DtK κ' v1 (.str x) ∧ DtK κ' v2 (optDt r.val) ∧ (r.ans ≠ "aborted" → x = r.ans)) → Q (.ref o) s') :
    wpAny (model b.prog b.w) A (call (.ref 875) [.ref M.c, .ref line]) Q E s := by
  have K' := K
  obtain ⟨cN, vf, nm, TK, to, m0, ⟨hdd, hk1, hk2⟩, ⟨hC, hnv⟩, hX, kd⟩ := K'
  have H' := H
  obtain ⟨T, kinds, Cl, c, tb, hd, most, ext, ans, val⟩ := M
  dsimp only at *
  obtain ⟨extra, hx, d, ln, sl, vl, fl, mv, tm, tc, ta, D, sts, vals, mvs, lk, X, ho, hi, hw, hm, hl, hk⟩ := H
  dsimp only at *
  subst ho
  have nmx := nm _ hx
  refine call_cx [("line", .ref line), ("core", .ref c)] G C S (by k_is) (by k_is) (BindsTo.of_eq rfl) (locs rfl) rfl rfl rfl (by decide) fun L' hid' s' A' env' hE hI hA C' S' ret => ?_
  repeat' k_extra "z"
  rename_i s₁ S₁
  refine (R_joinK (fun KK => ∀ s₂ m₂ own₂ ans' ta, St b hid' L' m₂ κ κ own₂ s₂ → m₂ "core" = some (.ref c) → m₂ "answer" = some (.str ans' ta) →
    HeardM κ T kinds Cl c tb hd most vt r ans' own₂ → KK s₂) ?_ ?_)
  · intro KK hK
    refine wpAny_Try_except ?_
    repeat' k_extra "z"
    with_reducible refine parse_spec (lv := lv) (ex := []) G SP BG C' K LI (St.nil (by assumption)) H' hR (fun s₃ own₃ v S₃ hEnd => ?_) fun s₃ own₃ e F hEnd => ?_
    · repeat' k_extra "z"
      exact ⟨rfl, hK _ _ _ _ _ S₃ rfl rfl (HeardM.ok hEnd)⟩
    · refine R_caught G C' hI (by rw [hE]; rfl) F ?_ (by k_is) rfl rfl rfl fun s₄ S₄ => ?_
      · passes_own
      · repeat' k_extra "z"
        exact ⟨rfl, hK _ _ _ _ _ (by assumption) rfl rfl (HeardM.ex hEnd)⟩
  rintro s₂ m₂ own₂ ans' ta S₂ n1 n2 hEnd
  clear S₁
  obtain ⟨cf₂, flts₂, an, va, H₂, hva, hfo, hml, hcase⟩ := hEnd
  have nmx : NoM vt.ext2 := SP.x.nm
  have hfl := flt_one hfo
  have H₂' := H₂
  obtain ⟨extra₂, hx₂, d₂, ln₂, sl₂, vl₂, fl₂, mv₂, tm₂, tc₂, ta₂, D₂, sts₂, vals₂, mvs₂, lk₂, X₂, rfl, hi₂, hw₂, hm₂, hl₂, hkk₂⟩ := H₂'
  dsimp only at *
  have nmx₂ := nmx _ hx₂
  first | with_reducible refine R_next ?_ | with_reducible refine R_kseq (by assumption) (R_next ?_)
  with_reducible refine R_execs ?_
  repeat' k_extra "z"
  with_reducible refine outcome_spec (lv := lv + 14) (ex := []) G C' nmx (St.nil (by assumption)) H₂ hva (by omega) (by omega) fun s₃ o od f2 m2 mvs hmv hfs S₃ => ?_
  rw [List.nil_append] at S₃
  unfold OutO at S₃
  dsimp only [List.cons_append, List.nil_append] at S₃
  k_extra "zC"
  rename_i s₄ S₄
  have hfl1 : (flts₂.map Prod.fst).length ≤ sizeLine := by rw [List.length_map]; exact Nat.le_trans (by omega : flts₂.length ≤ 1) (by decide)
  with_reducible refine R_execs ?_
  with_reducible refine' R_compUseS (cl' := []) S₄ C' hI ?sw ?cl ?fs ?sc ?x ?k ?y ?h
  case sw => rw [hE]; kernel_rfl
  case cl => rw [hE]; kernel_rfl
  case fs => intro _; exact rfl
  case sc => exact rfl
  case x => exact rfl
  case k => exact rfl
  case y => exact rfl
  case h =>
    repeat' k_extra "z"
    with_reducible refine' R_iterList (by assumption) ?k fun s₅ it S₅ => ?_
    case k => k_extra "has"
    have hMA := hfs
    refine' R_rest (iterList b f2 (flts₂.map Prod.fst)) (FltI κ o od f2 m2 an va mvs flts₂ ?MA)
      S₅ ⟨Kw.Le.refl _, rfl, rfl, .nil⟩ (by simpa using hfl1) ?ha ?hb ?hc ?hd
    case ha => intro i ys _ _ h; exact Nat.le_of_eq h.3
    case hb => intro i ys κ' _ h; rw [h.2]; exact .inl (.tail _ (.tail _ (.tail _ (.head _))))
    case hc =>
      intro i acc v ys m₁ κ₃ _ hid₂ C₂ cenv s₆ E' Nx Nf hi hv hZ16 hN hF hEc Cc S₆
      obtain ⟨hle, rfl, hl, ha⟩ := hZ16
      obtain ⟨p, hp, rfl⟩ := get_fst hv
      have hF := (hfs p (List.mem_of_getElem? hp)).le hle
      have hF' := hF
      obtain ⟨a, d, tok, nl, t1, t2, nv, wo, he, g1, g2, g3, g4, g5⟩ := hF
      with_reducible refine R_tests0 ?_
      with_reducible refine R_itT ?_
      have hnf : p.2.2.2.1.length ≤ 100 := hR.fault _ (flt_mem hfo (List.mem_of_getElem? hp))
      rw [he] at S₆ hF'
      repeat' k_extra "z"
      refine told_spec (lv := lv + 16) (ex := [_, _, _, _, _, _]) G Cc (by assumption) hF' hnf fun s₇ tt nl' nv' tk tst hnv' S₇ => ?_
      repeat' k_extra "z"
      with_reducible refine' R_addtup (by assumption) ?k1 ?k2 ?n1 ?n2 ?z1 fun s₈ su S₈ => ?_
      case k1 => k_extra "has"
      case k2 => k_extra "has"
      case n1 => exact List.cons_ne_nil _ _
      case n2 => exact List.cons_ne_nil _ _
      case z1 => exact Nat.le_of_ble_eq_true rfl
      repeat' k_extra "z"
      have S₉ := St.pull (A := [_, _, _, _, _, _, _, _, _]) S₈
      have F := S₉.freeze (fz := [_, _]) (.cons_cons _ (.cons_cons _ (.cons _ (.cons_cons _ (.cons_cons _ (.cons_cons _ (.cons_cons _ (.cons_cons _ (.cons_cons _ (.cons _ (.refl _)))))))))))
      refine hN _ _ _ _ _ F ⟨hle.trans (Kw.le_ext _ _), rfl, by rw [List.length_append, hl]; rfl, ?_⟩
      have e : flts₂.take (i + 1) = flts₂.take i ++ [p] := by rw [List.take_add_one, hp]; rfl
      rw [e, List.map_append]
      exact DtsK.snoc (.tup (.inr (.tail _ (.head _))) (.cons (.str _ _) (.cons (.int _ _) (.cons (.list (.inr (.head _)) (names_dt hnv')) (.cons (.int _ _) .nil))))) (ha.mono (Kw.le_ext _ _))
    case hd =>
      intro acc ys κ₃ _ s₆ hZ5 S₆
      obtain ⟨hle, rfl, hl, ha⟩ := hZ5
      have hzy : ys.length ≤ 1000000 := by rw [hl, List.length_map]; omega
      rw [List.take_of_length_le (by rw [List.length_map]; exact Nat.le_refl _)] at ha
      repeat' k_extra "z"
      k_extra "zi"
      · have h1 := of_decide_eq_true hq
        rw [List.length_map] at hl
        omega
      repeat' k_extra "z"
      with_reducible refine R_nebool ?_
      repeat' k_extra "z"
      k_extra "zi"
      · exact absurd hq (by simp)
      rename_i s₇ t₇ S₇
      obtain ⟨κ₄, m₈, hle₄, S₈, n8, n9, n10, n11, hall, ko, kod, km2, kc, kd₂, kacc⟩ : ∃ κ₄ m₈, κ₃.Le κ₄ ∧ St b hid' L' m₈ κ κ₄ [] s₇ ∧ m₈ "answer" = some (.str ans' ta) ∧ m₈ "core" = some (.ref c) ∧ m₈ "some" = some (.ref o) ∧ m₈ "faults" = some (.ref acc) ∧ (∀ a X, (a, X) ∈ ((c, AObj.inst Cl d₂) :: (d₂, AObj.attrs Cl (attrL tb hd most tm₂ ln₂ sl₂ vl₂ lk₂ cf₂.cnt tc₂ an ta₂ va fl₂ mv₂ extra₂)) :: (ln₂, AObj.tabI D₂) :: (sl₂, AObj.list sts₂) :: (vl₂, AObj.list vals₂) :: (fl₂, AObj.list (List.map Prod.fst flts₂)) :: (mv₂, AObj.list mvs₂) :: X₂) → κ₄ a X) ∧
          κ₄ o (.inst 356 od) ∧ κ₄ od (.attrs 356 [("accepted", .bool (an == Str.ofString "accepted")), ("value", va), ("faults", .ref f2), ("moves", .ref m2)]) ∧ κ₄ m2 (.list mvs) ∧ κ₄ c (.inst Cl d₂) ∧ κ₄ d₂ (.attrs Cl (attrL tb hd most tm₂ ln₂ sl₂ vl₂ lk₂ cf₂.cnt tc₂ an ta₂ va fl₂ mv₂ extra₂)) ∧ κ₄ acc (.list ys) :=
        ⟨_, _, Kw.le_ext _ _, S₇.freeze (own' := []) (by rw [List.append_nil]; exact List.Sublist.refl _), n2, n1, rfl, rfl, fun a X h => .inr (by refine List.mem_of_mem_drop (i := 5) ?_; exact h), .inr (by k_extra "mem"), .inr (by k_extra "mem"), .inr (by k_extra "mem"), .inr (by k_extra "mem"), .inr (by k_extra "mem"), .inr (by k_extra "mem")⟩
      clear S₇
      have hmk : All2 (MvK κ₄) mvs cf₂.moves := hmv.mono fun _ _ k => by
        obtain ⟨a, us, e, hm, hi⟩ := k
        exact ⟨a, us, e, hall _ _ hm, hi⟩
      have hfv := flt_dts hfo (ha.mono hle₄)
      have fin : ∀ {s₉ : Shared} {o' : Addr} {x : Str} {t tc : Tok} {fv : Value}, St b hid' L' m₈ κ κ₄ [(o', .list [.str x t, va, .ref m2, fv, .int cf₂.cnt tc])] s₉ → (x = if ans' = "" then an else ans') → DtK κ₄ fv (faultDt r.fault) → Q (.ref o') s₉ := by
        intro s₉ o' x t tc fv S₉ hx hf
        have F := S₉.freeze (fz := [_]) (own' := []) (List.Sublist.refl _)
        refine ok _ _ [] o' _ (hle.trans (hle₄.trans (Kw.le_ext _ _))) (ret.st F) (.inr (.head _)) (fun hw => ?_) ⟨x, _, _, _, rfl, Nat.le_refl 3, .str _ _, ?_, fun hna => ?_⟩
        · obtain ⟨rfl, h1, h2, h3⟩ := hcase.strong hw hx
          rw [h2] at hmk
          unfold resDt
          rw [h3]
          exact .list (.inr (.head _)) (.cons (.str _ _) (.cons h1.dt (.cons (.list (.inl km2) (DtsK.of (fun _ _ k => MvK.dt (k.mono (Kw.le_ext _ _))) hmk)) (.cons (hf.mono (Kw.le_ext _ _)) (.cons (.int _ _) .nil)))))
        · exact hcase.val
        · exact hcase.ans hna hx
      k_extra "zF"
      refine R_val (fun v s' => ∃ t, v = .str (if ans' = "" then an else ans') t ∧ St b hid' L' m₈ κ κ₄ [] s') ?_ ?_
      · have hc2 := hcase.two
        clear hcase fin
        rcases hc2 with rfl | rfl
        · repeat' k_extra "z"
          exact ⟨_, rfl, by assumption⟩
        · repeat' k_extra "z"
          exact ⟨_, rfl, by assumption⟩
      rintro _ s₉ ⟨t9, rfl, S₉⟩
      clear S₈
      k_extra "zF"
      rcases hfv with ⟨rfl, hf⟩ | ⟨fv, rfl, hf⟩
      · repeat' k_extra "z"
        rename_i s₁₀ l₁₀ S₁₀
        exact fin (S₁₀.drop (.cons_cons _ (.cons _ (.refl _)))) rfl (by rw [hf]; exact .none)
      · repeat' k_extra "z"
        rename_i s₁₀ l₁₀ S₁₀
        exact fin (S₁₀.drop (.cons_cons _ (.cons _ (.refl _)))) rfl hf
end
/- the law's own call, from the head's state -/
noncomputable def noHid : Kw := fun _ _ => False
theorem St.first {b : Bs} {κ : Kw} {s s' : Shared} {m' cm : Str → Option Value} {cs : List (Str × Addr)} (hb : s.heap = b.base) (hg : s.gens = #[]) (hos : s.os = b.os) (lo : sysModules < b.base.objs.size)
    (kn : ∀ a A, κ a A → Knows b s.heap a A) (ka : ∀ a A, κ a A → a ≠ sysModules) (x : InCallC s s.heap.objs.size m' cs cm s') (nd : (cs.map (·.1)).Nodup) :
    St b noHid s.heap.objs.size m' κ κ (cs.map (cellOf cm)) s' := by
  obtain ⟨⟨⟨h₁, tk, rfl⟩, hn, hk, hf⟩, xc, xa, xb⟩ := x
  have cl : (cs.map (cellOf cm)).map (·.1) = cs.map (·.2) := by rw [List.map_map]; rfl
  have mem : ∀ {a}, a ∈ (cs.map (cellOf cm)).map (·.1) → s.heap.objs.size < a := fun h => by
    rw [cl] at h
    obtain ⟨p, hp, rfl⟩ := List.mem_map.mp h
    exact xb p.1 p.2 hp
  have lt : ∀ {a X}, Knows b s.heap a X → ¬ s.heap.objs.size < a := fun k h => Nat.lt_asymm k.lt h
  exact {
    ns := hn
    bs := fun a o e => hk a o (by rw [hb]; exact e)
    ab := by rw [hb]; exact Nat.le_refl _
    nd := by
      rw [cl, List.Nodup, List.pairwise_map]; exact xa
    ow := fun p hp => by
      obtain ⟨q, hq, rfl⟩ := List.mem_map.mp hp
      obtain ⟨o, ho, hd⟩ := xc q.1 q.2 (lookup_of_nodup nd q hq)
      refine ⟨o, ho, ?_⟩
      unfold cellOf
      dsimp only
      cases e : cm q.1 with
      | none => rw [e] at hd; exact hd
      | some v => rw [e] at hd; exact hd
    kn := fun a A h => (kn a A h).keep fun o => hk _ o
    hi := fun a A h => h.elim
    oL := fun h => Nat.lt_irrefl _ (mem h)
    kL := fun A h => Nat.lt_irrefl _ (kn _ A h).lt
    hL := fun A h => h
    ok := fun a X h hm => lt (kn a X h) (mem hm)
    oh := fun a X h hm => h
    kh := fun a A B h hh => hh
    hf := fun a A B h hh => h.elim
    og := fun p hp => by
      have := mem (List.mem_map_of_mem (f := (·.1)) hp)
      rw [hb] at this
      exact Nat.le_of_lt this
    ka := ka
    lo := lo
    le := Kw.Le.refl _
    gens := hg
    os := hos }
theorem call_first {b : Bs} {κ : Kw} {E : Value → Shared → Prop} {s : Shared} (binds : List (Str × Value)) (mL mC : Str → Option Value) {name qual : Str} {params : Arguments} {body : List Stmt} {scope : Scope} {dV kV doc pm cdv ct oc : Value} {an od : Option Addr} {osl : Array (Option Value)} {f : Addr} {args : List Value} {Q : Value → Shared → Prop}
    (G : Gd b) (hb : s.heap = b.base) (hg : s.gens = #[]) (hos : s.os = b.os) (lo : sysModules < b.base.objs.size) (kn : ∀ a A, κ a A → Knows b s.heap a A) (ka : ∀ a A, κ a A → a ≠ sysModules)
    (ho : (kk.heap_1 b.w.params).lookup f = some ⟨oc, od, .func (fnOf name qual params body scope dV kV doc pm an cdv ct), osl⟩) (hcd : codeIn (kk.heap_1 b.w.params) cdv qual = true)
    (hbind : bindArgs (fnOf name qual params body scope dV kV doc pm an cdv ct) ⟨args, []⟩ = pure binds)
    (hkind : ∀ x ∈ binds, scope.names.lookup x.1 = some .local ∨ (scope.names.lookup x.1 = some .cell ∧ (cellNames scope).contains x.1 = true))
    (hL : bindL (fun x => scope.names.lookup x) binds (fun _ => none) = mL) (hC : bindC (fun x => scope.names.lookup x) binds (fun _ => none) = mC) (hnd : (cellNames scope).Nodup)
    (hco : scope.isCoroutine = false) (hgen : scope.isGenerator = false) (hk : scope.kind = .function)
    (h : ∀ cs L' hid' s' A' env', cs.map (·.1) = cellNames scope → env' = newEnv scope L' mainGlobals cs (qual ++ ".<locals>.") (some f) cdv none builtinsNs → EnvIs env' scope L' cs → A' = callerA.deeper env' → Cx b 100 A' L' hid' [env'] →
      St b hid' L' mL κ κ (cs.map (cellOf mC)) s' →
      wpAny (model b.prog b.w) A' (execs body env') (RetK Q) (ExcK (model b.prog b.w) A' env' E) s') :
    wpAny (model b.prog b.w) callerA (call (.ref f) args) Q E s := by
  subst hL hC
  have X : (kk.heap_1 b.w.params).In s.heap := hb ▸ G.K
  obtain ⟨_, _, _, _, _, T⟩ := G.T.top
  have hnm : (cellsFrom (s.heap.objs.size + 1) scope.names []).map (·.1) = cellNames scope := by rw [cellsFrom_names]; simp [cellNames]
  refine wpAny_call (codeAny_call_cells (fd := fnOf name qual params body scope dV kV doc pm an cdv ct) (body := body) (binds := binds) (by decide) (X _ _ ho) rfl (hb ▸ T.nolimit) (codeRec_of X hcd) rfl hbind rfl (fun x hx => (hkind x hx).imp id fun ⟨h1, h2⟩ => ⟨h1, ?_⟩) (fun s₁ x => ?_) hco hgen hk)
  · exact h _ _ _ _ _ _ hnm rfl ⟨rfl, rfl, rfl, rfl, rfl⟩ rfl {
      fr := rfl
      hd := rfl
      dp := by show callerA.depth + 1 + 2 * 100 ≤ 900; decide
      un := by show callerA.units + 3 + 20 * 100 ≤ 5000; decide
      ok := fun e he => by
        cases List.mem_singleton.mp he
        refine ⟨by show scope.kind ≠ _; rw [hk]; decide, _, rfl, base_none (by rw [hb]; exact Nat.le_refl _), .inl rfl⟩ } (St.first hb hg hos lo kn ka x (by rw [hnm]; exact hnd))
  · have : x.1 ∈ (cellsFrom (s.heap.objs.size + 1) scope.names []).map (·.1) := by rw [hnm]; simpa using h2
    obtain ⟨p, hp, e⟩ := List.mem_map.mp this
    have := lookup_of_nodup (by rw [hnm]; exact hnd) p hp
    show ((cellsFrom (s.heap.objs.size + 1) scope.names []).lookup x.1).isSome = true
    rw [← e, this]; rfl
section
variable {κ κ' : Kw}
theorem RuleK.mono (h : κ.Le κ') {v : Value} {r : Int × Int × Int} (k : RuleK κ v r) : RuleK κ' v r := by
  obtain ⟨a, d, rt, num, tn, tl, tb, rv, v1, v2, v3, e, k1, k2, k3, hl⟩ := k
  exact ⟨a, d, rt, num, tn, tl, tb, rv, v1, v2, v3, e, h _ _ k1, h _ _ k2, h _ _ k3, hl⟩
theorem TokH.le (h : κ.Le κ') {X : List (Addr × AObj)} {tok : Addr} {x y : Str} (k : TokH κ X tok x y) : TokH κ' X tok x y := by
  obtain ⟨d, tk, tt, tw, z, h1, h2⟩ := k
  exact ⟨d, tk, tt, tw, z, h1.imp id (h _ _), h2.imp id (h _ _)⟩
theorem LineIs.le (h : κ.Le κ') {l : Addr} {kinds : List Str} (k : LineIs κ l kinds) : LineIs κ' l kinds := by
  obtain ⟨⟨tks, k1, k2, k3⟩, k4, k5⟩ := k
  exact ⟨⟨tks, h _ _ k1, k2, fun i hi => let ⟨t, e, q⟩ := k3 i hi; ⟨t, e, q.le h⟩⟩, k4, k5⟩
theorem LookOk.le (h : κ.Le κ') {X : List (Addr × AObj)} {kinds : List Str} {c : Cfg} {lk : Value} {flts : List Flt} (k : LookOk κ X kinds c lk flts) : LookOk κ' X kinds c lk flts := by
  refine ⟨?_, fun p hp => (k.2 p hp).le h⟩
  have k := k.1
  split
  · rename_i q; rw [if_pos q] at k; obtain ⟨t, e, k⟩ := k; exact ⟨t, e, k.le h⟩
  · rename_i q; rw [if_neg q] at k; exact k
theorem Mach.le (h : κ.Le κ') {M : MCx} {cf : Cfg} {flts : List Flt} {own : List (Addr × AObj)} (H : Mach κ M cf flts own) : Mach κ' M cf flts own := by
  obtain ⟨extra, hx, d, ln, sl, vl, fl, mv, tm, tc, ta, D, sts, vals, mvs, lk, X, e, hi, hw, hm, hl, hk⟩ := H
  exact ⟨extra, hx, d, ln, sl, vl, fl, mv, tm, tc, ta, D, sts, vals, mvs, lk, X, e, hi, hw, hm, hl, hk.le h⟩
theorem DrawnK.mono (h : κ.Le κ') {rl rw gt df : Addr} {T : TabD} (k : DrawnK κ rl rw gt df T) : DrawnK κ' rl rw gt df T := by
  obtain ⟨⟨a, a1, a2⟩, ⟨c, c1, c2⟩, ⟨d, d1, d2⟩, ⟨e, e1, e2⟩⟩ := k
  exact ⟨⟨a, h _ _ a1, a2.mono fun _ _ k => k.mono h⟩, ⟨c, h _ _ c1, c2.mono fun _ _ k => k.mono h⟩, ⟨d, h _ _ d1, d2.mono fun _ _ k => k.mono h⟩, ⟨e, h _ _ e1, e2⟩⟩
theorem numD_look (x : Str) : PySem.Spec.lookup (.str x) numD = none ∨ ∃ g, PySem.Spec.lookup (.str x) numD = some (.int g) := by
  unfold numD
  simp only [PySem.Spec.lookup]
  repeat' split
  all_goals first | exact .inr ⟨_, rfl⟩ | exact .inl rfl
theorem TabK.le (h : κ.Le κ') {tb : Addr} {T : TabD} (k : TabK κ tb T) : TabK κ' tb T := by
  obtain ⟨d, ls, lns, bfs, dfs, nms, gr, rws, gts, cf, se, t5, tm, lsv, lnv, bfv, dfv, rwv, gtv, k1, k2, k3, k4, k5, k6, k7, k8, k9, i1, i2, i3, i4, i5, i6⟩ := k
  refine ⟨d, ls, lns, bfs, dfs, nms, gr, rws, gts, cf, se, t5, tm, lsv, lnv, bfv, dfv, rwv, gtv, h _ _ k1, h _ _ k2, h _ _ k3, h _ _ k4, h _ _ k5, h _ _ k6, h _ _ k7, h _ _ k8, h _ _ k9, i1, i2, i3, i4, fun i row e => ?_, fun i D e => ?_⟩
  · obtain ⟨a, vs, q, k, j⟩ := i5 i row e; exact ⟨a, vs, q, h _ _ k, j⟩
  · obtain ⟨a, q, k⟩ := i6 i D e; exact ⟨a, q, h _ _ k⟩
end
section
variable {b : Bs} {lv : Nat} {A : Around} {E : Value → Shared → Prop} {s : Shared} {hid : Kw} {L : Addr} {m m' : Str → Option Value} {κ₀ κ : Kw} {own own' : List (Addr × AObj)} {frs : List Env} {env : Env}
theorem R_neDt {o d : Addr} {ds : List Dt} {Q : Value → Shared → Prop} (S : St b hid L m κ₀ κ own s) (C : Cx b lv A L hid frs) (h1 : DtK κ (.ref o) (.list ds)) (h2 : DtK κ (.ref d) (.list ds)) (hd : Dt.deps ds ≤ 100) (h : Q (.bool false) s) :
    wpAny (model b.prog b.w) A (compareOp .NotEq (.ref o) (.ref d)) Q E s := by
  have hun := C.un
  have hu : A.units < cLine := by show A.units < 9900; omega
  cases h1 with | list ka kv => cases h2 with | list kc kw =>
  obtain ⟨n, x⟩ := (S.kn _ _ ka).list
  obtain ⟨n', x'⟩ := (S.kn _ _ kc).list
  have hl := kv.length.trans kw.length.symm
  have e1 : ∀ n, (!((List.range n).all fun _ => true)) = false := fun n => by
    rw [List.all_eq_true.mpr fun _ _ => rfl]; rfl
  have hh : ∀ n, Q (.bool (!((List.range n).all fun _ => true))) s := fun n => by rw [e1]; exact h
  exact (PySem.SeqAt.RcNeAt.lists (e := fun _ => true) (isL_list x) (isL_list x') (by simpa using hl) hu (fun j h1 h2 => DtsK.eq S.kn (by show A.units + 1 + _ < _; omega) kv kw j (by simpa using h1) (by simpa using h2))) _ _ _ _ (hh _)
theorem R_eqTwo {o d : Addr} {v1 v2 w1 w2 : Value} {x y : Str} {z : Dt} {Q : Value → Shared → Prop} (S : St b hid L m κ₀ κ own s) (C : Cx b lv A L hid frs) (k1 : Has κ own o (.list [v1, v2])) (k2 : Has κ own d (.list [w1, w2]))
    (a1 : DtK κ v1 (.str x)) (b1 : DtK κ w1 (.str y)) (a2 : DtK κ v2 z) (b2 : DtK κ w2 z) (hz : z.dep ≤ 100) (h : Q (.bool (x == y)) s) : wpAny (model b.prog b.w) A (compareOp .Eq (.ref o) (.ref d)) Q E s := by
  have hun := C.un
  have hu : A.units < cLine := by show A.units < 9900; omega
  obtain ⟨n, u⟩ := (S.has k1).list
  obtain ⟨n', u'⟩ := (S.has k2).list
  have hh : Q (.bool ((List.range 2).all fun j => if j = 0 then x == y else true)) s := by
    have : ((List.range 2).all fun j => if j = 0 then x == y else true) = (x == y) := by
      show ((x == y) && (true && true)) = _
      simp
    rw [this]; exact h
  refine (PySem.SeqAt.RcAt.lists (e := fun j => if j = 0 then x == y else true) (isL_list u) (isL_list u') rfl hu (fun j h1 h2 => ?_)) _ _ _ _ hh
  match j, h1, h2 with
  | 0, _, _ =>
    cases a1 with | str _ t => cases b1 with | str _ t' => exact PySem.SeqAt.EqAt.str_str _ _ _ _
  | 1, _, _ => exact DtK.eq S.kn (by show A.units + 1 + _ < _; omega) a2 b2
end
section
variable {b : Bs} {lv : Nat} {A : Around} {E : Value → Shared → Prop} {s : Shared} {hid : Kw} {L : Addr} {m m' : Str → Option Value} {κ₀ κ : Kw} {ex own own' : List (Addr × AObj)} {frs : List Env} {env : Env} {M : MCx} {vt : Virt} {cf : Cfg} {flts : List Flt}
theorem R_sliceUptoO {l : Addr} {o : Obj} {vs : List Value} {n : Nat} {i : Int} {t : Tok} {Q : Value → Shared → Prop} (S : St b hid L m κ₀ κ own s) (k : κ l (.obj o)) (hc : o.cls = .type "list") (hd : o.data = .seq vs.toArray n) (hz : vs.length ≤ sizeLine) (h0 : 0 ≤ i)
    (h : ∀ s' a, St b hid L m κ₀ κ ((a, .list (vs.take i.toNat)) :: own) s' → Q (.ref a) s') : SliceK b Q (.ref l) .none (.int i t) s := by
  obtain ⟨o', x, e⟩ := S.kn _ _ k
  have e : o' = o := e
  subst e
  obtain ⟨j, rfl⟩ := Int.eq_ofNat_of_zero_le h0
  exact ⟨l, _, none, some (j : Int), rfl, ⟨_, x, hc, n, hd⟩, by simpa using hz, .none, .int _ _, h _ _ (S.sliced (by rw [slicePick_upto']; simp))⟩
set_option maxHeartbeats 2000000
theorem tub_spec2 {sl : Addr} {oL : Obj} {nL : Nat} {vs : List Value} {ns : List Int} {Q : Value → Shared → Prop} (G : Gd b) (C : Cx b (lv + 1) A L hid frs) (S : St b hid L m κ₀ κ (ex ++ own) s) (k : κ sl (.obj oL)) (hcL : oL.cls = .type "list") (hdL : oL.data = .seq vs.toArray nL) (hv : IntsAre vs ns) (hl : ns.length ≤ 63)
    (ok : ∀ s' t T, St b hid L m κ₀ κ (ex ++ (T ++ own)) s' → Tub t 0 T → Q (.ref t) s') :
    wpAny (model b.prog b.w) A (call (.ref 846) [.ref sl]) Q E s := by
  have hlen := hv.length
  have hz : vs.length ≤ sizeLine := Nat.le_trans (by omega : vs.length ≤ 63) (by decide)
  refine call_cx [("script", .ref sl)] G C S (by k_is) (by k_is) (BindsTo.of_eq rfl) (locs rfl) rfl rfl rfl (by decide) fun L' hid' s' A' env' hE hI hA C' S' ret => ?_
  with_reducible refine R_execs ?_
  with_reducible refine' R_compUseS (cl' := []) S' C' hI ?sw ?cl ?fs ?sc ?x ?k ?y ?h
  case sw => rw [hE]; kernel_rfl
  case cl => rw [hE]; kernel_rfl
  case fs => intro _; exact rfl
  case sc => exact rfl
  case x => exact rfl
  case k => exact rfl
  case y => exact rfl
  case h =>
  repeat' k_extra "z"
  with_reducible refine' R_sliceUptoO (by assumption) k hcL hdL hz ?k2 fun s₁ l S₁ => ?_
  case k2 => decide
  with_reducible refine' R_iterList S₁ ?k fun s₃ it S₃ => ?_
  case k => k_extra "has"
  refine R_rest (iterList b l (vs.take 60)) (fun i ys κ' own' => κ = κ' ∧ (l, .list (vs.take 60)) :: own = own' ∧ IntsAre ys ((ns.take 60).take i)) S₃ ⟨rfl, rfl, .nil⟩ (by rw [List.length_take]; omega) ?_ ?_ ?_ ?_
  · rintro i ys _ _ ⟨-, -, h⟩
    have := h.length; rw [List.length_take] at this; omega
  · rintro i ys _ _ ⟨rfl, rfl, -⟩
    k_extra "has"
  · intro i acc v ys m₁ _ _ hid₂ C₂ cenv s₁ E' Nx Nf hi hp hZ16 hN hF hEc Cc S₁
    obtain ⟨rfl, rfl, hh⟩ := hZ16
    obtain ⟨n, t, hn, rfl⟩ := ints_at (ints_take hv 60) hp
    with_reducible refine R_tests0 ?_
    with_reducible refine R_itT ?_
    repeat' k_extra "z"
    refine hN _ _ _ _ _ (by assumption) ⟨rfl, rfl, ?_⟩
    rw [take_snoc hn]
    exact ints_snoc hh _ _
  · intro acc ys _ _ s₁ hZ5 S₁
    obtain ⟨rfl, rfl, hh⟩ := hZ5
    have hm : 0 ≤ ((List.take (vs.take 60).length (ns.take 60)).sum).fmod 1009 := fmod_lo (by decide)
    have hm' : ((List.take (vs.take 60).length (ns.take 60)).sum).fmod 1009 < 1009 := fmod_hi (by decide)
    repeat' k_extra "z"
    with_reducible refine' R_sum (by assumption) C' ?k3 hh fun s₂ t S₂ => ?_
    case k3 => k_extra "has"
    repeat' k_extra "z"
    rename_i s₉ S₉
    refine ok _ _ [_, _] ((ret.st S₉).drop (List.Sublist.append (List.Sublist.refl _) (.cons_cons _ (.cons_cons _ (.cons _ (.refl _)))))) ⟨_, _, _, _, _, _, _, _, _, rfl, hh, Int.le_refl _, Int.le_refl _, Int.le_refl _, hm, hm', ?_⟩
    rw [List.length_take, List.length_take]; omega
end
/-- the names of the law's frame that the loops leave -/
structure LawM (m : Str → Option Value) (most : Int) (tm : Tok) (many : Nat) (tn : Tok) (rl rw gt df : Addr) : Prop where
  n1 : m "most" = some (.int most tm)
  n2 : m "many" = some (.int (many : Int) tn)
  n3 : m "rules" = some (.ref rl)
  n4 : m "rows" = some (.ref rw)
  n5 : m "gotos" = some (.ref gt)
  n6 : m "defaults" = some (.ref df)
theorem nset_ne {m : Str → Option Value} {x y : Str} {v : Value} (h : (y == x) = false) : nset x v m y = m y := if_neg (beq_eq_false_iff_ne.mp h)
theorem LawM.set {m : Str → Option Value} {most : Int} {tm : Tok} {many : Nat} {tn : Tok} {rl rw gt df : Addr} (h : LawM m most tm many tn rl rw gt df) {x : Str} {v : Value} (hx : (([Str.ofString "most", Str.ofString "many", Str.ofString "rules", Str.ofString "rows", Str.ofString "gotos", Str.ofString "defaults"] : List Str).all fun y : Str => !(y == x)) = true) : LawM (nset x v m) most tm many tn rl rw gt df := by
  have q := fun y hy => (Bool.not_eq_true' _).mp (List.all_eq_true.mp hx y hy)
  exact ⟨(nset_ne (q _ (.head _))).trans h.n1, (nset_ne (q _ (.tail _ (.head _)))).trans h.n2, (nset_ne (q _ (.tail _ (.tail _ (.head _))))).trans h.n3, (nset_ne (q _ (.tail _ (.tail _ (.tail _ (.head _)))))).trans h.n4, (nset_ne (q _ (.tail _ (.tail _ (.tail _ (.tail _ (.head _))))))).trans h.n5, (nset_ne (q _ (.tail _ (.tail _ (.tail _ (.tail _ (.tail _ (.head _)))))))).trans h.n6⟩
inductive KindI (κ₄ : Kw) (t c1 c2 : Addr) (i : Nat) (ys : List Value) (κ' : Kw) (own' : List (Addr × AObj)) : Prop
  | mk (hk : κ₄ = κ') (kinds : List Str) (T' : List (Addr × AObj)) (e : own' = [(c1, .emptyCell), (c2, .cell (.ref t))] ++ T') (hT : Tub t (1002 + i) T') (h : All2 StrIs ys kinds) (hl : kinds.length = i) (hb : ∀ x ∈ kinds, x = "a" ∨ x = "b" ∨ x = "q" ∨ x = "error")
inductive MadeI (κ₆ : Kw) (md c1 kl : Addr) (rules : List (Int × Int × Int)) (most : Int) (tm : Tok) (many : Nat) (tn : Tok) (rl rw gt df : Addr) (j : Nat) (m' : Str → Option Value) (κ₂ : Kw) (own₂ : List (Addr × AObj)) : Prop
  | mk (hle : κ₆.Le κ₂) (mdv : List Value) (e : own₂ = [(md, .list mdv), (c1, .cell (.ref kl))]) (h : All2 (RuleK κ₂) mdv ((5, 2, 0) :: rules.take j)) (NL : LawM m' most tm many tn rl rw gt df) (n7 : m' "made" = some (.ref md))
inductive CopyI {α : Type} (F : Kw → Value → α → Prop) (κ₀ : Kw) (own₀ : List (Addr × AObj)) (as : List α) (i : Nat) (ys : List Value) (κ' : Kw) (own' : List (Addr × AObj)) : Prop
  | mk (hle : κ₀.Le κ') (e : own' = own₀) (h : All2 (F κ') ys (as.take i))
inductive LineI (κ₀ : Kw) (own₀ : List (Addr × AObj)) (kinds : List Str) (i : Nat) (ys : List Value) (κ' : Kw) (own' : List (Addr × AObj)) : Prop
  | mk (hle : κ₀.Le κ') (e : own' = own₀) (hl : ys.length = i) (h : ∀ j, j < i → ∃ tok, ys[j]? = some (.ref tok) ∧ TokH κ' [] tok (kindAt kinds j) (worthAt kinds j))
section
set_option maxHeartbeats 8000000
theorem law_spec {b : Bs} {κ : Kw} {E : Value → Shared → Prop} {s : Shared} {sl : Addr} {oL : Obj} {nL : Nat} {vs : List Value} {ns : List Int} {Q : Value → Shared → Prop} (G : Gd b) (hbs : s.heap = b.base) (hgs : s.gens = #[]) (hos : s.os = b.os) (lo : sysModules < b.base.objs.size)
    (kn : ∀ a A, κ a A → Knows b s.heap a A) (ka : ∀ a A, κ a A → a ≠ sysModules) (hnv : κ 841 (.list namesV)) (k : κ sl (.obj oL)) (hcL : oL.cls = .type "list") (hdL : oL.data = .seq vs.toArray nL) (hv : IntsAre vs ns) (hl : ns.length ≤ 63)
    (ok : ∀ s', b.base.StaysIn s'.heap → s'.gens = #[] → s'.os = b.os → Q (.bool true) s') :
    wpAny (model b.prog b.w) callerA (call (.ref 880) [.ref sl]) Q E s := by
  refine call_first [("script", .ref sl)] (nset "script" (.ref sl) (fun _ => none)) (fun _ => none) G hbs hgs hos lo kn ka (by k_is) (by k_is) rfl (fun x hx => .inl ?_) rfl rfl (by decide) rfl rfl rfl fun cs L' hid' s' A' env' hcs hE hI hA C' S' => ?_
  · cases List.mem_singleton.mp hx; rfl
  have hcs' : cs.map (·.1) = [Str.ofString "kinds", Str.ofString "tub"] := hcs
  clear hcs
  obtain ⟨c1, c2, rfl⟩ := cells_2 hcs'
  clear hcs'
  have S₁ : St b hid' L' _ κ κ ([(c1, .emptyCell), (c2, .emptyCell)] ++ []) s' := S'
  clear S'
  refine R_execs (R_joinK (fun KK => ∀ s₂ t T, Tub t 0 T → St b hid' L' (nset "script" (.ref sl) (fun _ => none)) κ κ ([(c1, .emptyCell), (c2, .cell (.ref t))] ++ T) s₂ → KK s₂) ?_ ?_)
  · intro KK hK
    repeat' k_extra "z"
    refine tub_spec2 (ex := [_, _]) (lv := 99) (own := []) G C' (by assumption) k hcL hdL hv hl fun s₂ t T S₂ hT => ?_
    rw [List.append_nil] at S₂
    repeat' k_extra "z"
    exact ⟨rfl, hK _ t T hT (by assumption)⟩
  rintro s₂ t T₂ hT₂ S₂
  clear S₁
  first | with_reducible refine R_next ?_ | with_reducible refine R_kseq (by assumption) (R_next ?_)
  refine R_execs (R_joinK (fun KK => ∀ s₃ m₃ most many tm tn T', 5 ≤ most → most ≤ 30 → many ≤ 6 → Tub t 2 T' → m₃ "most" = some (.int most tm) → m₃ "many" = some (.int ((many : Nat) : Int) tn) → St b hid' L' m₃ κ κ ([(c1, .emptyCell), (c2, .cell (.ref t))] ++ T') s₃ → KK s₃) ?_ ?_)
  · intro KK hK
    refine Assign_Tuple_swapped (names := [Str.ofString "most", Str.ofString "many"]) ?_ (by rw [hE]; kernel_rfl) (by rw [hE]; kernel_rfl)
    repeat' k_extra "z"
    refine cup_spec (ex := [_, _]) (lv := 99) G C' (by assumption) hT₂ (by decide) (by decide) (by decide) fun s₃ T₃ d td S₃ hT₃ h0 h1 => ?_
    repeat' k_extra "z"
    refine cup_spec (ex := [_, _]) (lv := 99) G C' (by assumption) hT₃ (by decide) (by decide) (by decide) fun s₄ T₄ d₄ td₄ S₄ hT₄ g0 g1 => ?_
    obtain ⟨many, rfl⟩ := Int.eq_ofNat_of_zero_le g0
    repeat' k_extra "z"
    rename_i s₅ S₅
    exact ⟨rfl, hK _ _ (5 + d) many _ _ T₄ (Int.le_add_of_nonneg_right h0) (Int.add_le_add_left (Int.le_of_lt_add_one (b := 25) h1) 5) (Nat.le_of_lt_succ (Int.ofNat_lt.mp g1)) hT₄ (by rfl) (by rfl) (St.drop S₅ (List.sublist_cons_self _ _))⟩
  rintro s₃ m₃ most many tm tn T₃ hm5 hm30 hmn hT₃ n1 n2 S₃
  clear S₂
  first | with_reducible refine R_next ?_ | with_reducible refine R_kseq (by assumption) (R_next ?_)
  refine R_execs (R_joinK (fun KK => ∀ s₄ κ₄ m₄ rl rw gt df TD T', κ.Le κ₄ → DrawnK κ₄ rl rw gt df TD → DrawnB TD → Tub t 1002 T' → LawM m₄ most tm many tn rl rw gt df →
      St b hid' L' m₄ κ κ₄ ([(c1, .emptyCell), (c2, .cell (.ref t))] ++ T') s₄ → KK s₄) ?_ ?_)
  · intro KK hK
    refine Assign_Tuple ?_ (by rw [hE]; kernel_rfl) (by rw [hE]; kernel_rfl)
    repeat' k_extra "z"
    refine drawn_spec (ex := [_, _]) (lv := 97) G C' (by assumption) hT₃ (by decide) fun s₄ κ₄ T₄ rt rl rw gt df TD hle₄ S₄ hT₄ krt DK DB => ?_
    repeat' k_extra "z"
    rename_i s₅ S₅
    exact ⟨rfl, hK _ κ₄ _ rl rw gt df TD T₄ hle₄ DK DB hT₄ ⟨by exact n1, by exact n2, by rfl, by rfl, by rfl, by rfl⟩ S₅⟩
  clear S₃ n1 n2
  rintro s₄ κ₄ m₄ rl rw gt df TD T₄ hle₄ DK DB hT₄ NL S₄
  first | with_reducible refine R_next ?_ | with_reducible refine R_kseq (by assumption) (R_next ?_)
  refine R_execs (R_joinK (fun KK => ∀ s₅ κ₅ kl kvs kinds, κ₄.Le κ₅ → κ₅ kl (.list kvs) → All2 StrIs kvs kinds → kinds.length = many → (∀ x ∈ kinds, x = "a" ∨ x = "b" ∨ x = "q" ∨ x = "error") → St b hid' L' m₄ κ κ₅ [(c1, .cell (.ref kl))] s₅ → KK s₅) ?_ ?_)
  · intro KK hK
    have n2 := NL.n2
    refine wpAny_Assign_Name ?_ (by rw [hE]; kernel_rfl)
    with_reducible refine' R_compS (cl' := [(Str.ofString "tub", c2)]) S₄ C' hI ?cl ?fs ?sc ?x ?h
    case cl => rw [hE]; kernel_rfl
    case fs => intro _; exact rfl
    case sc => exact rfl
    case x => exact rfl
    case h =>
      repeat' k_extra "z"
      rename_i s₅ r t1 t2 t3 S₅
      with_reducible refine' R_iterRange many S₅ ?a ?b fun s₆ it S₆ => ?_
      case a => k_extra "has"
      case b => exact Nat.lt_of_le_of_lt hmn (by decide)
      refine R_rest (iterRange b many) (KindI κ₄ t c1 c2)
        (S₆.drop (.cons_cons _ (.cons _ (.refl _)))) ⟨rfl, [], _, rfl, hT₄, .nil, rfl, fun _ h => nomatch h⟩ (Nat.le_trans hmn (by decide)) ?_ ?_ ?_ ?_
      · rintro i ys _ _ ⟨-, ks, T', -, -, h, rfl, -⟩
        rw [h.length]; exact Nat.le_refl _
      · exact fun _ _ _ _ _ => trivial
      · intro i acc v ys m₁ _ _ hid₂ C₂ cenv s₇ E' Nx Nf hi hp hZ16 hN hF hEc Cc S₇
        obtain ⟨rfl, ks, T', rfl, hT, ha, rfl, hb⟩ := hZ16
        with_reducible refine R_tests0 ?_
        with_reducible refine R_itT ?_
        repeat' k_extra "z"
        rename_i s₈ tp S₈
        refine cup_spec (ex := [_, _, _, _, _]) (lv := 99) G Cc S₈ hT (Nat.le_trans (Nat.add_le_add_left (Nat.le_of_lt (Nat.lt_of_lt_of_le hi hmn)) 1002) (by decide)) (by decide) (by decide) fun s₉ T₉ d td S₉ hT₉ g0 g1 => ?_
        have fin : ∀ (x : Str) (tx : Tok), (x = "a" ∨ x = "b" ∨ x = "q" ∨ x = "error") → Nx (.str x tx) s₉ := fun x tx hx =>
          hN _ _ _ _ _ (S₉.drop (List.sublist_cons_self _ _)) ⟨rfl, ks ++ [x], T₉, rfl, hT₉, ha.snoc ⟨tx, rfl⟩, by simp, fun y hy => by
            rcases List.mem_append.mp hy with hy | hy
            · exact hb y hy
            · cases List.mem_singleton.mp hy; exact hx⟩
        obtain rfl | rfl | rfl | rfl | rfl : d = 0 ∨ d = 1 ∨ d = 2 ∨ d = 3 ∨ d = 4 := five_or g0 g1
        · repeat' k_extra "z"
          exact fin _ _ (.inl rfl)
        · repeat' k_extra "z"
          exact fin _ _ (.inr (.inl rfl))
        · repeat' k_extra "z"
          exact fin _ _ (.inl rfl)
        · repeat' k_extra "z"
          exact fin _ _ (.inr (.inr (.inl rfl)))
        · repeat' k_extra "z"
          exact fin _ _ (.inr (.inr (.inr rfl)))
      · intro acc ys _ _ s₇ hZ5 S₇
        obtain ⟨rfl, ks, T', rfl, hT, ha, hlen, hb⟩ := hZ5
        have F := S₇.freeze (fz := [_]) (List.Sublist.refl _)
        repeat' k_extra "z"
        rename_i s₈ S₈
        exact ⟨rfl, hK _ _ acc ys ks (Kw.le_ext _ _) (.inr (.head _)) ha hlen hb (S₈.drop (.cons_cons _ (.cons _ (List.nil_sublist _))))⟩
  rintro s₅ κ₅ kl kvs kinds hle₅ kkl hks hkn hkb S₅
  clear S₄ hT₄
  first | with_reducible refine R_next ?_ | with_reducible refine R_kseq (by assumption) (R_next ?_)
  refine R_execs (R_joinK (fun KK => ∀ s₆ κ₆ m₆ md mdv, κ₅.Le κ₆ → All2 (RuleK κ₆) mdv [(5, 2, 0)] → LawM m₆ most tm many tn rl rw gt df → m₆ "made" = some (.ref md) →
      St b hid' L' m₆ κ κ₆ [(md, .list mdv), (c1, .cell (.ref kl))] s₆ → KK s₆) ?_ ?_)
  · intro KK hK
    repeat' k_extra "z"
    refine rule_new (lv := 98) (ex := []) G C' (St.nil (by assumption)) rfl rfl rfl rfl rfl rfl rfl fun s₆ a d S₆ => ?_
    rw [List.nil_append] at S₆
    repeat' k_extra "z"
    rename_i s₇ S₇
    obtain ⟨κ₆, F, hle₆, kk⟩ : ∃ κ₆, St b hid' L' _ κ κ₆ [(_, .list [.ref a]), (c1, .cell (.ref kl))] s₇ ∧ κ₅.Le κ₆ ∧ RuleK κ₆ (.ref a) (5, 2, 0) :=
      ⟨_, (S₇.perm (own' := [(a, _), (d, _), (_, .tup [_, _]), (_, .list [.ref a]), (c1, .cell (.ref kl))]) (by k_extra "perm")).freeze (fz := [_, _, _]) (List.Sublist.refl _), Kw.le_ext _ _,
        ⟨a, d, _, _, _, _, _, _, _, _, _, rfl, .inr (.head _), .inr (.tail _ (.head _)), .inr (.tail _ (.tail _ (.head _))), rfl⟩⟩
    exact ⟨rfl, hK _ κ₆ _ _ _ hle₆ (.cons kk .nil) (NL.set (by decide)) (by rfl) F⟩
  clear NL
  rintro s₆ κ₆ m₆ md mdv hle₆ hmd NL n7 S₆
  clear S₅
  first | with_reducible refine R_next ?_ | with_reducible refine R_kseq (by assumption) (R_next ?_)
  have DK' := DK
  obtain ⟨⟨rlv, krl, irl⟩, ⟨rwv, krw, irw⟩, ⟨gtv, kgt, igt⟩, ⟨dfv, kdf, idf⟩⟩ := DK'
  have hrln := irl.length
  have hru := DB.ru
  have hzr : rlv.length ≤ 1000000 := le_eq hrln hru.2 (by decide)
  have hle46 := hle₅.trans hle₆
  have krl₆ := hle46 _ _ krl
  refine R_execs (R_joinK (fun KK => ∀ s₇ κ₇ m₇ mdv, κ₆.Le κ₇ → All2 (RuleK κ₇) mdv ((5, 2, 0) :: TD.rules) → LawM m₇ most tm many tn rl rw gt df → m₇ "made" = some (.ref md) →
      St b hid' L' m₇ κ κ₇ [(md, .list mdv), (c1, .cell (.ref kl))] s₇ → KK s₇) ?_ ?_)
  · intro KK hK
    with_reducible refine' R_For (iterRange b rlv.length) (MadeI κ₆ md c1 kl TD.rules most tm many tn rl rw gt df) C' hI ?k ?l ?fs ?h ?src ?body ?done
    case k => exact rfl
    case l => exact rfl
    case fs => intro _; exact rfl
    case src => exact fun _ _ _ _ _ => trivial
    case h =>
      have n3 := NL.n3
      repeat' k_extra "z"
      rename_i s₇ r t1 t2 t3 S₇
      with_reducible refine' R_iterRange rlv.length S₇ ?a ?b fun s₈ it S₈ => ?_
      case a => k_extra "has"
      case b => exact Nat.lt_of_le_of_lt hzr (by decide)
      exact ⟨it, _, _, _, rfl, S₈.drop (.cons_cons _ (.cons _ (.refl _))), Kw.Le.refl _, _, rfl, hmd, NL, n7⟩
    case body =>
      intro j it v m₁ κ₇ _ s₇ E' Nx hj hZ10 hZ11 hN S₇
      obtain ⟨tj, rfl⟩ := hZ10
      obtain ⟨hle₇, mdv, rfl, hmd, NL, n7⟩ := hZ11
      have n3 := NL.n3
      clear S₆
      have hmdl := hmd.length
      rw [List.length_cons, List.length_take] at hmdl
      have hzm : mdv.length ≤ sizeLine := le_eq hmdl (Nat.succ_le_succ (Nat.le_trans (Nat.min_le_right _ _) hru.2)) (by decide)
      obtain ⟨r, hr⟩ : ∃ r, TD.rules[j]? = some r := ⟨_, List.getElem?_eq_getElem (by rw [← hrln]; exact hj)⟩
      obtain ⟨rv, hrv, ra, t1, t2, t3, rfl, kra⟩ := irl.get hr
      obtain ⟨⟨b1, ⟨b2, b3⟩, b4, b5⟩⟩ : RB r ∧ True := ⟨DB.rules r (List.mem_of_getElem? hr), trivial⟩
      have krl₇ := hle₇ _ _ krl₆
      have kra₇ := hle₇ _ _ (hle46 _ _ kra)
      obtain ⟨r1, r2, r3⟩ := r
      dsimp only at b1 b2 b3 b4 b5 kra₇
      obtain ⟨r2, rfl⟩ := Int.eq_ofNat_of_zero_le b2
      have hjn : ((j : Nat) : Int).toNat = j := rfl
      rw [← hjn] at hrv
      with_reducible refine R_execs ?_
      refine Assign_Tuple ?_ (by rw [hE]; kernel_rfl) (by rw [hE]; kernel_rfl)
      k_extra "zS"
      with_reducible refine R_tupUpto (hid := hid') (L := L') (κ₀ := κ) (κ := κ₇) ?_
      repeat' k_extra "z"
      rename_i s₈ l₈ S₈
      refine ⟨_, _, r2, _, _, _, rfl, rfl, rfl, Int.ofNat_le.mp b3, S₈, fun s₉ κ₉ rt hle₉ krt S₉ => ?_⟩
      repeat' k_extra "z"
      refine rule_new (lv := 98) (ex := []) G C' (St.nil (by assumption)) rfl rfl rfl rfl rfl rfl rfl fun s₁₀ a d S₁₀ => ?_
      rw [List.nil_append] at S₁₀
      repeat' k_extra "z"
      rename_i s₁₁ S₁₁
      obtain ⟨κ₁₁, F, hle₁₁, kk⟩ : ∃ κ₁₁, St b hid' L' _ κ κ₁₁ [(it, _), (md, .list (mdv ++ [.ref a])), (c1, .cell (.ref kl))] s₁₁ ∧ κ₉.Le κ₁₁ ∧ RuleK κ₁₁ (.ref a) (r1, (r2 : Int), r3) :=
        ⟨_, S₁₁.freeze (fz := [_, _]) (List.Sublist.refl _), Kw.le_ext _ _, ⟨a, d, rt, _, _, _, _, _, _, _, _, rfl, .inr (.head _), .inr (.tail _ (.head _)), .inl krt, by rw [List.length_take]; show ((min r2 3 : Nat) : Int) = (r2 : Int); rw [Nat.min_eq_left (Int.ofNat_le.mp b3)]⟩⟩
      refine hN _ _ _ _ F ⟨hle₇.trans (hle₉.trans hle₁₁), _, rfl, ?_, ((((NL.set (by decide)).set (by decide)).set (by decide)).set (by decide)), (by exact n7)⟩
      have e : ((5, 2, 0) :: TD.rules.take (j + 1)) = ((5, 2, 0) :: TD.rules.take j) ++ [(r1, (r2 : Int), r3)] := by rw [List.take_add_one, hr]; rfl
      rw [e]
      exact (hmd.mono fun _ _ k => k.mono (hle₉.trans hle₁₁)).snoc kk
    case done =>
      intro m₁ κ₇ _ s₇ hZ4 S₇
      obtain ⟨hle₇, mdv, rfl, hmd, NL, n7⟩ := hZ4
      rw [List.take_of_length_le (Nat.le_of_eq hrln.symm)] at hmd
      exact ⟨rfl, hK _ κ₇ m₁ mdv hle₇ hmd NL n7 S₇⟩
  clear NL n7 hmd
  rintro s₇ κ₇ m₇ mdv hle₇ hmd NL n7 S₇
  clear S₆
  first | with_reducible refine R_next ?_ | with_reducible refine R_kseq (by assumption) (R_next ?_)
  have hmdl := hmd.length
  rw [List.length_cons] at hmdl
  obtain ⟨κ₈, hle₈, kmd, S₈⟩ : ∃ κ₈, κ₇.Le κ₈ ∧ κ₈ md (.list mdv) ∧ St b hid' L' m₇ κ κ₈ [(c1, .cell (.ref kl))] s₇ := ⟨_, Kw.le_ext _ _, .inr (.head _), S₇.freeze (fz := [_]) (List.Sublist.refl _)⟩
  have hmd₈ := hmd.mono fun _ _ k => RuleK.mono hle₈ k
  clear S₇ hmd
  have hle48 := hle46.trans (hle₇.trans hle₈)
  have hnv₈ := hle48 _ _ (hle₄ _ _ hnv)
  refine R_execs (R_joinK (fun KK => ∀ s₉ κ₉ m₉ gr gd rest t5, κ₈.Le κ₉ → κ₉ gr (.inst 836 gd) → κ₉ gd (.attrs 836 (("names", .ref 841) :: ("terminal_count", .int 5 t5) :: ("rules", .ref md) :: rest)) → LawM m₉ most tm many tn rl rw gt df → m₉ "grammar" = some (.ref gr) → St b hid' L' m₉ κ κ₉ [(c1, .cell (.ref kl))] s₉ → KK s₉) ?_ ?_)
  · intro KK hK
    repeat' k_extra "z"
    refine grammar_new (lv := 98) (ex := []) G C' (St.nil (by assumption)) hnv₈ kmd hmd₈ (by rw [List.length_cons]; exact Nat.succ_le_succ hru.2) (fun r hr => ?_) fun s₉ gr gd rest S₉ => ?_
    · rcases List.mem_cons.mp hr with rfl | hr
      · exact ⟨.inl rfl, by decide, by decide⟩
      · have := DB.rules r hr
        exact ⟨.inr this.1, this.2.1⟩
    rw [List.nil_append] at S₉
    repeat' k_extra "z"
    rename_i s₁₀ S₁₀
    exact ⟨rfl, hK _ _ _ gr gd rest _ (Kw.le_ext _ _) (.inr (.head _)) (.inr (.tail _ (.head _))) (NL.set (by decide)) (by rfl) (S₁₀.freeze (fz := [_, _]) (.cons_cons _ (.cons_cons _ (.cons _ (.refl _)))))⟩
  clear NL n7
  rintro s₉ κ₉ m₉ gr gd rest t5 hle₉ kgr kgd NL n7 S₉
  clear S₈
  first | with_reducible refine R_next ?_ | with_reducible refine R_kseq (by assumption) (R_next ?_)
  have hle49 := hle48.trans hle₉
  refine R_execs (R_joinK (fun KK => ∀ s₁₀ κ₁₀ m₁₀ tb, κ₉.Le κ₁₀ → TabK κ₁₀ tb TD → LawM m₁₀ most tm many tn rl rw gt df → m₁₀ "tables_so" = some (.ref tb) → St b hid' L' m₁₀ κ κ₁₀ [(c1, .cell (.ref kl))] s₁₀ → KK s₁₀) ?_ ?_)
  · intro KK hK
    repeat' k_extra "z"
    with_reducible refine' R_compS (cl' := []) S₉ C' hI ?cl ?fs ?sc ?x ?h
    case cl => rw [hE]; kernel_rfl
    case fs => intro _; exact rfl
    case sc => exact rfl
    case x => exact rfl
    case h =>
    have hrwn := irw.length
    have hgtn := igt.length
    obtain ⟨hn2, hn5, hng, hnd⟩ := DB.n
    have n4 := NL.n4
    have n5 := NL.n5
    have n6 := NL.n6
    repeat' k_extra "z"
    with_reducible refine' R_iterList S₉ ?k fun s₁ it S₁ => ?_
    case k => exact .inr (hle49 _ _ krw)
    refine R_rest (iterList b rw rwv) (CopyI RowK κ₉ [(c1, .cell (.ref kl))] TD.rows) S₁ ⟨Kw.Le.refl _, rfl, .nil⟩ (le_eq hrwn hn5 (by decide)) ?_ ?_ ?_ ?_
    · rintro i ys _ _ ⟨-, -, h⟩
      rw [h.length, List.length_take]; exact Nat.min_le_left _ _
    · rintro i ys κ' _ ⟨h, -⟩
      exact .inr (h _ _ (hle49 _ _ krw))
    · intro i acc v ys m₁ κ₁ _ hid₂ C₂ cenv s₂ E' Nx Nf hi hp hZ16 hN hF hEc Cc S₂
      obtain ⟨hle, rfl, ha⟩ := hZ16
      obtain ⟨row, hrow, ra, rv, rfl, kra, ira⟩ := irw.getL hp
      have kra := hle _ _ (hle49 _ _ kra)
      have hzr5 : rv.length ≤ sizeLine := Nat.le_trans (by rw [ira.length, (DB.rows row (List.mem_of_getElem? hrow)).1]; exact Nat.le_refl 5) (by decide)
      with_reducible refine R_tests0 ?_
      with_reducible refine R_itT ?_
      repeat' k_extra "z"
      rename_i s₃ l S₃
      refine hN _ _ _ _ _ (S₃.freeze (fz := [_]) (List.Sublist.refl _)) ⟨hle.trans (Kw.le_ext _ _), rfl, ?_⟩
      rw [List.take_add_one, hrow]
      exact (ha.mono fun _ _ k => k.mono (Kw.le_ext _ _)).snoc ⟨l, rv, rfl, .inr (.head _), ira⟩
    intro rws rwv' κ₁ _ s₂ hZ5 S₂
    obtain ⟨hle₁, rfl, hrows⟩ := hZ5
    rw [List.take_of_length_le (Nat.le_of_eq hrwn.symm)] at hrows
    obtain ⟨κ₂, hle₂, krws, S₃⟩ : ∃ κ₂, κ₁.Le κ₂ ∧ κ₂ rws (.list rwv') ∧ St b hid' L' m₉ κ κ₂ [(c1, .cell (.ref kl))] s₂ := ⟨_, Kw.le_ext _ _, .inr (.head _), S₂.freeze (fz := [_]) (List.Sublist.refl _)⟩
    clear S₂ S₁
    have hle42 := hle49.trans (hle₁.trans hle₂)
    repeat' k_extra "z"
    with_reducible refine' R_compS (cl' := []) S₃ C' hI ?cl ?fs ?sc ?x ?h
    case cl => rw [hE]; kernel_rfl
    case fs => intro _; exact rfl
    case sc => exact rfl
    case x => exact rfl
    case h =>
    repeat' k_extra "z"
    with_reducible refine' R_iterList S₃ ?k fun s₁ it S₁ => ?_
    case k => exact .inr (hle42 _ _ kgt)
    refine R_rest (iterList b gt gtv) (CopyI GotK κ₂ [(c1, .cell (.ref kl))] TD.gotos) S₁ ⟨Kw.Le.refl _, rfl, .nil⟩ (le_eq (hgtn.trans hng) hn5 (by decide)) ?_ ?_ ?_ ?_
    · rintro i ys _ _ ⟨-, -, h⟩
      rw [h.length, List.length_take]; exact Nat.min_le_left _ _
    · rintro i ys κ' _ ⟨h, -⟩
      exact .inr (h _ _ (hle42 _ _ kgt))
    · intro i acc v ys m₁ κ₃ _ hid₂ C₂ cenv s₂ E' Nx Nf hi hp hZ16 hN hF hEc Cc S₂
      obtain ⟨hle, rfl, ha⟩ := hZ16
      obtain ⟨D, hD, ra, rfl, kra⟩ := igt.getL hp
      have kra := hle _ _ (hle42 _ _ kra)
      with_reducible refine R_tests0 ?_
      with_reducible refine R_itT ?_
      repeat' k_extra "z"
      with_reducible refine' R_dictCopy (by assumption) ?k ?z fun s₃ l S₃ => ?_
      case k => exact .inr kra
      case z => exact Nat.le_trans (DB.gotos D (List.mem_of_getElem? hD)).2 (by decide)
      refine R_cutV (by assumption) ?_
      refine hN _ _ _ _ _ (S₃.freeze (fz := [_]) (List.Sublist.refl _)) ⟨hle.trans (Kw.le_ext _ _), rfl, ?_⟩
      rw [List.take_add_one, hD]
      exact (ha.mono fun _ _ k => k.mono (Kw.le_ext _ _)).snoc ⟨l, rfl, .inr (.head _)⟩
    intro gts gtv' κ₃ _ s₂ hZ5 S₂
    obtain ⟨hle₃, rfl, hgots⟩ := hZ5
    rw [List.take_of_length_le (Nat.le_of_eq hgtn.symm)] at hgots
    obtain ⟨κ₄', hle₄', kgts, S₄⟩ : ∃ κ₄, κ₃.Le κ₄ ∧ κ₄ gts (.list gtv') ∧ St b hid' L' m₉ κ κ₄ [(c1, .cell (.ref kl))] s₂ := ⟨_, Kw.le_ext _ _, .inr (.head _), S₂.freeze (fz := [_]) (List.Sublist.refl _)⟩
    clear S₂ S₁ S₃
    have hle94 := hle₁.trans (hle₂.trans (hle₃.trans hle₄'))
    have kdf' := hle94 _ _ (hle49 _ _ kdf)
    have hzd : dfv.length ≤ sizeLine := Nat.le_trans (by rw [idf.length, hnd]; exact hn5) (by decide)
    repeat' k_extra "z"
    rename_i s₅ l5 S₅ s₆ l6 S₆ s₇ l7 S₇ s₈ t8 S₈
    refine ptab_new (lv := 96) (ex := []) G C' (hle94 _ _ (hle₉ _ _ hnv₈)) (hle94 _ _ (hle₉ _ _ kmd)) (hmd₈.mono fun _ _ k => k.mono (hle₉.trans hle94)) (by rw [List.length_cons]; exact Nat.succ_le_succ hru.2) (fun r hr => ?_) (.inr (hle94 _ _ kgr)) (.inr (hle94 _ _ kgd)) (St.nil (by assumption)) fun s₁₀ tb d ls lns bfs nms lsv lnv bfv i1 i2 i3 S₁₀ => ?_
    · rcases List.mem_cons.mp hr with rfl | hr
      · decide
      · exact (DB.rules r hr).2.1.2
    rw [List.nil_append] at S₁₀
    repeat' k_extra "z"
    rename_i s₁₁ S₁₁
    have F := S₁₁.freeze (fz := [_, _, _, _, _, _, _, _, _]) (own' := [(c1, .cell (.ref kl))]) (List.Sublist.refl _)
    refine ⟨rfl, hK _ _ _ tb (hle94.trans (Kw.le_ext _ _)) ⟨d, ls, lns, bfs, _, nms, gr, rws, gts, _, _, _, _, lsv, lnv, bfv, dfv, rwv', gtv', .inr (by k_extra "mem"), .inr (by k_extra "mem"), .inr (by k_extra "mem"), .inr (by k_extra "mem"), .inr (by k_extra "mem"), .inr (by k_extra "mem"), .inr (by k_extra "mem"), .inl (hle₃.trans hle₄' _ _ krws), .inl kgts, i1, i2, i3, idf, fun i row e => ?_, fun i D e => ?_⟩ (NL.set (by decide)) (by rfl) F⟩
    · obtain ⟨v, hvv, a, us, rfl, ka', ia⟩ := hrows.get e
      exact ⟨a, us, hvv, .inl ((hle₂.trans (hle₃.trans hle₄')) _ _ ka'), ia⟩
    · obtain ⟨v, hvv, a, rfl, ka'⟩ := hgots.get e
      exact ⟨a, hvv, .inl (hle₄' _ _ ka')⟩
  clear NL n7
  rintro s₁₀ κ₁₀ m₁₀ tb hle₁₀ TK NL n7 S₁₀
  clear S₉
  first | with_reducible refine R_next ?_ | with_reducible refine R_kseq (by assumption) (R_next ?_)
  have hle410 := hle49.trans hle₁₀
  have hkvn := hks.length
  have kkl₁₀ := hle₁₀ _ _ (hle₉ _ _ (hle₈ _ _ (hle₇ _ _ (hle₆ _ _ kkl))))
  refine R_execs (R_joinK (fun KK => ∀ s₁₁ κ₁₁ m₁₁ ln, κ₁₀.Le κ₁₁ → LineIs κ₁₁ ln kinds → LawM m₁₁ most tm many tn rl rw gt df → m₁₁ "tables_so" = some (.ref tb) → m₁₁ "line" = some (.ref ln) → St b hid' L' m₁₁ κ κ₁₁ [(c1, .cell (.ref kl))] s₁₁ → KK s₁₁) ?_ ?_)
  · intro KK hK
    with_reducible refine' R_compUseS (cl' := [(Str.ofString "kinds", c1)]) S₁₀ C' hI ?sw ?cl ?fs ?sc ?x ?k ?y ?h
    case sw => rw [hE]; kernel_rfl
    case cl => rw [hE]; kernel_rfl
    case fs => intro _; exact rfl
    case sc => exact rfl
    case x => exact rfl
    case k => exact rfl
    case y => exact rfl
    case h =>
    have n2 := NL.n2
    repeat' k_extra "z"
    rename_i s₁ r t1 t2 t3 S₁
    with_reducible refine' R_iterRange many S₁ ?a ?b fun s₂ it S₂ => ?_
    case a => k_extra "has"
    case b => exact Nat.lt_of_le_of_lt hmn (by decide)
    refine R_rest (iterRange b many) (LineI κ₁₀ [(c1, .cell (.ref kl))] kinds) (S₂.drop (.cons_cons _ (.cons _ (.refl _)))) ⟨Kw.Le.refl _, rfl, rfl, fun _ h => absurd h (Nat.not_lt_zero _)⟩ (Nat.le_trans hmn (by decide)) ?_ ?_ ?_ ?_
    · rintro i ys _ _ ⟨-, -, h, -⟩
      exact Nat.le_of_eq h
    · exact fun _ _ _ _ _ => trivial
    · intro i acc v ys m₁ κ₁ _ hid₂ C₂ cenv s₃ E' Nx Nf hi hZ15 hZ16 hN hF hEc Cc S₃
      obtain ⟨ti, rfl⟩ := hZ15
      obtain ⟨hle, rfl, rfl, ha⟩ := hZ16
      have hyk : ys.length < kinds.length := by rw [hkn]; exact hi
      have hy100 : ys.length ≤ 100 := Nat.le_trans (Nat.le_of_lt hi) (Nat.le_trans hmn (by decide))
      obtain ⟨tk, hkv⟩ := kind_of hks (i := ys.length) hyk
      have kkl' := hle _ _ kkl₁₀
      have hs := strlen_small ys.length hy100
      have hin : ((ys.length : Nat) : Int).toNat = ys.length := rfl
      rw [← hin] at hkv
      have hlt63 : ((ys.length : Nat) : Int) < 2 ^ 63 := Int.lt_of_le_of_lt (Int.ofNat_le.mpr hy100) (by decide)
      with_reducible refine R_tests0 ?_
      with_reducible refine R_itT ?_
      repeat' k_extra "z"
      with_reducible refine R_strint (by assumption) (abs64 hy100) fun _ _ _ => ?_
      repeat' k_extra "z"
      with_reducible refine' R_addstr (by assumption) ?_ hs.1 ?_ fun _ _ _ => ?_
      · rfl
      · rw [PySem.Str.length_append]
        have e : ("w" : Str).length = 1 := by decide
        exact Nat.le_trans (Nat.add_le_add (Nat.le_of_eq e) hs.2) (by decide)
      repeat' k_extra "z"
      refine token_new (lv := 98) (ex := []) G Cc (St.nil (by assumption)) (.inr ⟨_, _, rfl⟩) fun s₄ a d S₄ => ?_
      rw [List.nil_append, if_neg (fun h => nomatch h)] at S₄
      have hwa : worthAt kinds ys.length = ("w" : Str) ++ (toString ys.length : String) := by unfold worthAt; rw [if_pos hyk]
      refine R_cutV (by assumption) ?_
      refine hN _ _ _ _ _ (S₄.freeze (fz := [_, _]) (List.Sublist.refl _)) ⟨hle.trans (Kw.le_ext _ _), rfl, by rw [List.length_append]; rfl, fun j hj => ?_⟩
      rcases Nat.lt_or_ge j ys.length with q | q
      · obtain ⟨t, e, kt⟩ := ha j q
        exact ⟨t, by rw [List.getElem?_append_left q]; exact e, kt.le (Kw.le_ext _ _)⟩
      · obtain rfl : j = ys.length := Nat.le_antisymm (Nat.le_of_lt_succ hj) q
        rw [hwa]
        exact ⟨a, by rw [List.getElem?_append_right (Nat.le_refl _), Nat.sub_self]; rfl, d, _, _, _, _, .inr (.inr (.head _)), .inr (.inr (.tail _ (.head _)))⟩
    intro acc ys κ₁ _ s₃ hZ5 S₃
    obtain ⟨hle, rfl, hlen, ha⟩ := hZ5
    refine ⟨rfl, hK _ _ _ acc (hle.trans (Kw.le_ext _ _)) ⟨⟨ys, .inr (.head _), hlen.trans hkn.symm, fun i hi => let ⟨t, e, q⟩ := ha i (by rw [← hkn]; exact hi); ⟨t, e, q.le (Kw.le_ext _ _)⟩⟩, fun i hi => ?_, by rw [hkn]; exact Nat.le_trans hmn (by decide)⟩ (NL.set (by decide)) (by exact n7) (by rfl) (S₃.freeze (fz := [_]) (List.Sublist.refl _))⟩
    have hm : kindAt kinds i ∈ kinds := by
      unfold kindAt
      rw [List.getD_eq_getElem?_getD, List.getElem?_eq_getElem hi]
      exact List.getElem_mem _
    rcases hkb _ hm with e | e | e | e <;> rw [e] <;> decide
  clear NL n7
  rintro s₁₁ κ₁₁ m₁₁ ln hle₁₁ LI NL n7 n8 S₁₁
  clear S₁₀
  first | with_reducible refine R_next ?_ | with_reducible refine R_kseq (by assumption) (R_next ?_)
  have to := DB.ok
  obtain ⟨r, hR⟩ := runs_ex to (kinds := kinds) (most := most) most.toNat cfg0 (cfg0_ok to (Int.le_trans (by decide) hm5)) (by show most - 0 ≤ _; rw [Int.sub_zero]; exact Int.self_le_toNat _)
  have hle411 := hle410.trans hle₁₁
  have kkl₁₁ := hle₁₁ _ _ kkl₁₀
  have n1 := NL.n1
  have n3 := NL.n3
  have n4 := NL.n4
  have n5 := NL.n5
  have n6 := NL.n6
  refine R_execs (R_joinK (fun KK => ∀ s₁₂ κ₁₂ m₁₂ due, κ₁₁.Le κ₁₂ → DtK κ₁₂ (.ref due) (resDt r) → m₁₂ "most" = some (.int most tm) → m₁₂ "tables_so" = some (.ref tb) → m₁₂ "line" = some (.ref ln) → m₁₂ "due" = some (.ref due) → St b hid' L' m₁₂ κ κ₁₂ [(c1, .cell (.ref kl))] s₁₂ → KK s₁₂) ?_ ?_)
  · intro KK hK
    repeat' k_extra "z"
    rename_i s₁ ft S₁
    obtain ⟨κ₂, hle₂, kft, S₂⟩ : ∃ κ₂, κ₁₁.Le κ₂ ∧ κ₂ ft (.tup [.ref rw, .ref gt, .ref df]) ∧ St b hid' L' m₁₁ κ κ₂ [(c1, .cell (.ref kl))] s₁ := ⟨_, Kw.le_ext _ _, .inr (.head _), S₁.freeze (fz := [_]) (List.Sublist.refl _)⟩
    refine run_spec (lv := 98) (ex := []) (T := TD) (kinds := kinds) G C' (St.nil S₂) (hle₂ _ _ (hle411 _ _ (hle₄ _ _ hnv))) (DK.mono (hle411.trans hle₂)) DB kft (hle₂ _ _ kkl₁₁) hks (by rw [hkn]; exact Nat.le_trans hmn (by decide)) ⟨Int.le_trans (by decide) hm5, Int.le_trans hm30 (by decide)⟩ hR fun s₃ κ₃ o hle₃ S₃ hdt => ?_
    rw [List.nil_append] at S₃
    clear S₁ S₂
    repeat' k_extra "z"
    rename_i s₄ S₄
    exact ⟨rfl, hK _ κ₃ _ o (hle₂.trans hle₃) hdt (by exact n1) (by exact n7) (by exact n8) (by rfl) S₄⟩
  clear n1 n3 n4 n5 n6 n7 n8 NL
  rintro s₁₂ κ₁₂ m₁₂ due hle₁₂ hdue n1 n7 n8 n9 S₁₂
  clear S₁₁
  first | with_reducible refine R_next ?_ | with_reducible refine R_kseq (by assumption) (R_next ?_)
  have hle412 := hle411.trans hle₁₂
  have MKc : ∀ {κ' : Kw} {vt : Virt} {c hd hdd : Addr}, κ₁₂.Le κ' → κ' hd (.inst 292 hdd) → κ' hdd (.attrs 292 []) → CoreC vt.cls vt → VirtFn vt → NoM vt.ext → MK κ' ⟨TD, kinds, vt.cls, c, tb, hd, most, vt.ext, "more", .none⟩ vt := fun le h1 h2 cN vf nm =>
    ⟨cN, vf, nm, TK.le ((hle₁₁.trans hle₁₂).trans le), to, ⟨Int.le_trans (by decide) hm5, Int.le_trans hm30 (by decide)⟩, ⟨_, h1, h2⟩, ⟨rfl, le _ _ (hle412 _ _ (hle₄ _ _ hnv))⟩, rfl, fun i => numD_look _⟩
  obtain ⟨ds, hds, hdep⟩ : ∃ ds, resDt r = .list ds ∧ Dt.deps ds ≤ 100 := ⟨_, rfl, by
    have := resDt_dep r
    unfold resDt at this
    rw [Dt.dep] at this
    exact Nat.le_trans (Nat.le_of_succ_le this) (by decide)⟩
  have LI₁₂ := LI.le hle₁₂
  refine R_execs (R_joinK (fun KK => ∀ s₁₃ κ₁₃, κ₁₂.Le κ₁₃ → St b hid' L' m₁₂ κ κ₁₃ [(c1, .cell (.ref kl))] s₁₃ → KK s₁₃) ?_ ?_)
  · intro KK hK
    repeat' k_extra "z"
    refine core_new (lv := 95) (ex := []) G C' (St.nil (by assumption)) TD kinds fun s₁ c own₁ hd hdd S₁ H => ?_
    rw [List.nil_append] at S₁
    obtain ⟨κ₂, hle₂, kh1, kh2, S₂⟩ : ∃ κ₂, κ₁₂.Le κ₂ ∧ κ₂ hd (.inst 292 hdd) ∧ κ₂ hdd (.attrs 292 []) ∧ St b hid' L' m₁₂ κ κ₂ ([(c1, .cell (.ref kl))] ++ own₁) s₁ :=
      ⟨_, Kw.le_ext _ _, .inr (.head _), .inr (.tail _ (.head _)), (S₁.perm (own' := [(hd, .inst 292 hdd), (hdd, .attrs 292 [])] ++ ([(c1, .cell (.ref kl))] ++ own₁)) List.perm_append_comm).freeze (List.Sublist.refl _)⟩
    clear S₁
    repeat' k_extra "z"
    refine heard_spec (lv := 82) (ex := [_]) (own := own₁) G (coreV_s G) (coreV_b G) C' (MKc (vt := coreV) hle₂ kh1 kh2 coreV_c coreV_f (coreV_s G).x.nm) (LI₁₂.le hle₂) S₂ (H.le hle₂) hR fun s₃ κ₃ own₃ o vs hle₃ S₃ ko d1 d2 => ?_
    have d1 := d1 rfl
    have d0 := hdue.mono (hle₂.trans hle₃)
    rw [hds] at d1 d0
    clear S₂
    repeat' k_extra "z"
    with_reducible refine R_neDt S₃ C' d1 d0 hdep ?_
    repeat' k_extra "z"
    exact ⟨rfl, hK _ κ₃ (hle₂.trans hle₃) (S₃.drop (List.sublist_append_left _ _))⟩
  rintro s₁₃ κ₁₃ hle₁₃ S₁₃
  clear S₁₂
  first | with_reducible refine R_next ?_ | with_reducible refine R_kseq (by assumption) (R_next ?_)
  with_reducible refine R_execs ?_
  repeat' k_extra "z"
  refine parser_new (lv := 94) (ex := []) G C' (St.nil (by assumption)) TD kinds fun s₁ c own₁ hd hdd S₁ H => ?_
  rw [List.nil_append] at S₁
  obtain ⟨κ₂, hle₂, kh1, kh2, S₂⟩ : ∃ κ₂, κ₁₃.Le κ₂ ∧ κ₂ hd (.inst 292 hdd) ∧ κ₂ hdd (.attrs 292 []) ∧ St b hid' L' m₁₂ κ κ₂ ([(c1, .cell (.ref kl))] ++ own₁) s₁ :=
    ⟨_, Kw.le_ext _ _, .inr (.head _), .inr (.tail _ (.head _)), (S₁.perm (own' := [(hd, .inst 292 hdd), (hdd, .attrs 292 [])] ++ ([(c1, .cell (.ref kl))] ++ own₁)) List.perm_append_comm).freeze (List.Sublist.refl _)⟩
  clear S₁ S₁₃
  repeat' k_extra "z"
  refine heard_spec (lv := 82) (ex := [_]) (own := own₁) G (parserV_s G) (parserV_b G) C' (MKc (vt := parserV) (hle₁₃.trans hle₂) kh1 kh2 parserV_c parserV_f parserV_nm) (LI₁₂.le (hle₁₃.trans hle₂)) S₂ (H.le hle₂) hR fun s₃ κ₃ own₃ o vs hle₃ S₃ ko d1 d2 => ?_
  obtain ⟨x, v1, v2, vr, rfl, hvr, e1, e2, e3⟩ := d2
  have d0 := hdue.mono (hle₁₃.trans (hle₂.trans hle₃))
  unfold resDt at d0
  clear S₂ d1
  cases d0 with
  | list kd kv => cases kv with
  | cons g1 kv => cases kv with
  | cons g2 kv =>
    rename_i w1 w2 ws2
    have hwl := kv.length
    simp only [List.length_cons, List.length_nil] at hwl
    have S₄ : St b hid' L' m₁₂ κ κ₃ [(c1, .cell (.ref kl))] s₃ := S₃.drop (List.sublist_append_left _ _)
    clear S₃
    repeat' k_extra "z"
    with_reducible refine' R_sliceUpto (by assumption) ?h1 ?z1 ?k1 fun s₅ l₅ S₅ => ?_
    case h1 => exact .inr ko
    case z1 => exact Nat.le_trans (Nat.succ_le_succ (Nat.succ_le_succ hvr)) (by decide)
    case k1 => decide
    repeat' k_extra "z"
    with_reducible refine' R_sliceUpto (by assumption) ?h2 ?z2 ?k2 fun s₆ l₆ S₆ => ?_
    case h2 => exact .inr kd
    case z2 => exact Nat.le_trans (Nat.le_of_eq (congrArg (· + 2) hwl)) (by decide)
    case k2 => decide
    have S₇ : St b hid' L' m₁₂ κ κ₃ [(l₆, .list [w1, w2]), (l₅, .list [v1, v2]), (c1, .cell (.ref kl))] s₆ := S₆
    with_reducible refine' R_eqTwo S₇ C' ?h3 ?h4 e1 g1 e2 g2 ?zd ?_
    case h3 => exact .inl (.tail _ (.head _))
    case h4 => exact .inl (.head _)
    case zd => cases r.val <;> exact Nat.zero_le _
    have S₈ := S₇.drop (own' := [(c1, .cell (.ref kl))]) (.cons _ (.cons _ (.refl _)))
    clear S₇ S₆ S₅ S₄
    repeat' k_extra "z"
    k_extra "zi"
    · rw [hq]
      repeat' k_extra "z"
      exact ok _ S₈.bs S₈.gens S₈.os
    · obtain ⟨tw, rfl⟩ : ∃ t, w1 = .str r.ans t := by
        cases g1 with
        | str _ t => exact ⟨t, rfl⟩
      have hne : x ≠ r.ans := by simpa using hq
      have hab : r.ans = "aborted" := Decidable.by_contra fun h => hne (e3 h)
      repeat' k_extra "z"
      rw [show (r.ans == Str.ofString "aborted") = true from by rw [hab]; exact beq_self_eq_true _]
      rename_i s₉ S₉
      exact ok _ S₉.bs S₉.gens S₉.os
end
theorem hd.tw10012880186880212623 : True := trivial
theorem hd.tw10024716035694756283 : True := trivial
theorem hd.tw10030107230732127627 : True := trivial
theorem hd.tw100483095206116625 : True := trivial
theorem hd.tw1005483496087919985 : True := trivial
theorem hd.tw10098268173465320503 : True := trivial
theorem hd.tw10111801491309104144 : True := trivial
theorem hd.tw1011335219593555734 : True := trivial
theorem hd.tw10117440562283002822 : True := trivial
theorem hd.tw1013155817946168525 : True := trivial
theorem hd.tw10170382586518783626 : True := trivial
theorem hd.tw102014493982917126 : True := trivial
theorem hd.tw10210669037155785340 : True := trivial
theorem hd.tw10216474801634566288 : True := trivial
theorem hd.tw10246146449241189800 : True := trivial
theorem hd.tw10258999931320997221 : True := trivial
theorem hd.tw10259988299927297344 : True := trivial
theorem hd.tw10264135568141901301 : True := trivial
theorem hd.tw10283529075043463162 : True := trivial
theorem hd.tw10286656452748174568 : True := trivial
theorem hd.tw10292235466723388172 : True := trivial
theorem hd.tw1031416216768412557 : True := trivial
theorem hd.tw1033889070964956483 : True := trivial
theorem hd.tw10403243965636340961 : True := trivial
theorem hd.tw10404513684093684653 : True := trivial
theorem hd.tw10424393626065333798 : True := trivial
theorem hd.tw1043307727769730188 : True := trivial
theorem hd.tw10458740792067480800 : True := trivial
theorem hd.tw10465514089279642386 : True := trivial
theorem hd.tw10491609206876299696 : True := trivial
theorem hd.tw10507497572311344420 : True := trivial
theorem hd.tw1051681510052472703 : True := trivial
theorem hd.tw10525666975642140466 : True := trivial
theorem hd.tw10531373872144210542 : True := trivial
theorem hd.tw10583446816852156582 : True := trivial
theorem hd.tw10601615944963115059 : True := trivial
theorem hd.tw10603584201595350602 : True := trivial
theorem hd.tw10643592516055977328 : True := trivial
theorem hd.tw10737712728331077403 : True := trivial
theorem hd.tw10738003575532504788 : True := trivial
theorem hd.tw10743916045514856203 : True := trivial
theorem hd.tw10752148897807903841 : True := trivial
theorem hd.tw10758123238140785630 : True := trivial
theorem hd.tw10763509664835889504 : True := trivial
theorem hd.tw10778013660560245624 : True := trivial
theorem hd.tw10781468475247234061 : True := trivial
theorem hd.tw10784824025267889561 : True := trivial
theorem hd.tw10788059911547816233 : True := trivial
theorem hd.tw10792051664901133789 : True := trivial
theorem hd.tw10806950440038215891 : True := trivial
theorem hd.tw10834780440838970164 : True := trivial
theorem hd.tw10844753989422098599 : True := trivial
theorem hd.tw10845626234925267891 : True := trivial
theorem hd.tw10847404155465417027 : True := trivial
theorem hd.tw10860895700388868024 : True := trivial
theorem hd.tw10879034167726328663 : True := trivial
theorem hd.tw10905682514733158466 : True := trivial
theorem hd.tw10919297434634762262 : True := trivial
theorem hd.tw10933677585905718993 : True := trivial
theorem hd.tw10944956837784636368 : True := trivial
theorem hd.tw10949625832625181284 : True := trivial
theorem hd.tw10955317050725887447 : True := trivial
theorem hd.tw1097998534492414930 : True := trivial
theorem hd.tw11011131195910976488 : True := trivial
theorem hd.tw11032806212648032379 : True := trivial
theorem hd.tw11054480109507316185 : True := trivial
theorem hd.tw11079593142295127227 : True := trivial
theorem hd.tw11090319565365981192 : True := trivial
theorem hd.tw11115866451450875312 : True := trivial
theorem hd.tw11117797201346649052 : True := trivial
theorem hd.tw11119798521548139033 : True := trivial
theorem hd.tw11128854368766332075 : True := trivial
theorem hd.tw11136197038861592535 : True := trivial
theorem hd.tw11151547217846952531 : True := trivial
theorem hd.tw11162318198679636149 : True := trivial
theorem hd.tw1118553966540926140 : True := trivial
theorem hd.tw11210553801493137410 : True := trivial
theorem hd.tw11213053971927718326 : True := trivial
theorem hd.tw11232374478483605306 : True := trivial
theorem hd.tw11249132867342737325 : True := trivial
theorem hd.tw11251137523995926341 : True := trivial
theorem hd.tw11256106856564762260 : True := trivial
theorem hd.tw11283319371284918911 : True := trivial
theorem hd.tw1129884963351977449 : True := trivial
theorem hd.tw11319097763535126812 : True := trivial
theorem hd.tw11319892378374348655 : True := trivial
theorem hd.tw11364443708160879001 : True := trivial
theorem hd.tw11375277706881905925 : True := trivial
theorem hd.tw11389486352061984695 : True := trivial
theorem hd.tw11399449904127653305 : True := trivial
theorem hd.tw11434409384045074295 : True := trivial
theorem hd.tw11465210709893060100 : True := trivial
theorem hd.tw11472165163037031739 : True := trivial
theorem hd.tw1147470481896660410 : True := trivial
theorem hd.tw11507959949525687343 : True := trivial
theorem hd.tw11513968764499736323 : True := trivial
theorem hd.tw11551083187376567056 : True := trivial
theorem hd.tw11631947586910100387 : True := trivial
theorem hd.tw11652457597714270106 : True := trivial
theorem hd.tw11709330566771433103 : True := trivial
theorem hd.tw11729958736954745289 : True := trivial
theorem hd.tw11749099774412794130 : True := trivial
theorem hd.tw11754176132448286083 : True := trivial
theorem hd.tw11778180911958503814 : True := trivial
theorem hd.tw11814627755841444246 : True := trivial
theorem hd.tw11852641145169952659 : True := trivial
theorem hd.tw11893437276241958245 : True := trivial
theorem hd.tw11912922877643110818 : True := trivial
theorem hd.tw11915594877312485397 : True := trivial
theorem hd.tw11917015161858427179 : True := trivial
theorem hd.tw11943477663328021970 : True := trivial
theorem hd.tw1194904439430580092 : True := trivial
theorem hd.tw11953376511379268794 : True := trivial
theorem hd.tw11968265576560266318 : True := trivial
theorem hd.tw1197925565968671727 : True := trivial
theorem hd.tw12023040214023829324 : True := trivial
theorem hd.tw12058812876911547015 : True := trivial
theorem hd.tw12070051907170230399 : True := trivial
theorem hd.tw12070654863422294720 : True := trivial
theorem hd.tw1208734638264122097 : True := trivial
theorem hd.tw12092154237167983948 : True := trivial
theorem hd.tw12112201142124510154 : True := trivial
theorem hd.tw12113243949977362033 : True := trivial
theorem hd.tw12127338746724423809 : True := trivial
theorem hd.tw12131494931117144662 : True := trivial
theorem hd.tw12211380539166087753 : True := trivial
theorem hd.tw12232750017996463310 : True := trivial
theorem hd.tw12239354291974867115 : True := trivial
theorem hd.tw12254263087357419629 : True := trivial
theorem hd.tw12268275109542032366 : True := trivial
theorem hd.tw12271959270614036898 : True := trivial
theorem hd.tw12319353311459017080 : True := trivial
theorem hd.tw12337632362937886050 : True := trivial
theorem hd.tw12350410155528471161 : True := trivial
theorem hd.tw12364972598781006883 : True := trivial
theorem hd.tw12393119488966705847 : True := trivial
theorem hd.tw12394076208661396346 : True := trivial
theorem hd.tw12399718760709695909 : True := trivial
theorem hd.tw1241404454085649124 : True := trivial
theorem hd.tw12414669353804360901 : True := trivial
theorem hd.tw12480425521718506038 : True := trivial
theorem hd.tw12487502673411948298 : True := trivial
theorem hd.tw12509009523430927325 : True := trivial
theorem hd.tw12521463284412890351 : True := trivial
theorem hd.tw12575139184659369484 : True := trivial
theorem hd.tw12588582704262371052 : True := trivial
theorem hd.tw12591134339009171964 : True := trivial
theorem hd.tw12602439190401603521 : True := trivial
theorem hd.tw12611767792052310623 : True := trivial
theorem hd.tw12614811148066621264 : True := trivial
theorem hd.tw12629568148972539762 : True := trivial
theorem hd.tw12631932088317031055 : True := trivial
theorem hd.tw12647368939536790636 : True := trivial
theorem hd.tw12659318050587179527 : True := trivial
theorem hd.tw12685813987229840507 : True := trivial
theorem hd.tw12727495553239364174 : True := trivial
theorem hd.tw12744807935193187038 : True := trivial
theorem hd.tw12769127236821124696 : True := trivial
theorem hd.tw12832683148521936107 : True := trivial
theorem hd.tw12861998865439983172 : True := trivial
theorem hd.tw12870888531099404533 : True := trivial
theorem hd.tw12900700647772717614 : True := trivial
theorem hd.tw12936449754285732098 : True := trivial
theorem hd.tw12940713784782232206 : True := trivial
theorem hd.tw12949589719889679912 : True := trivial
theorem hd.tw12994019391074448376 : True := trivial
theorem hd.tw12995909851351757392 : True := trivial
theorem hd.tw13038990169509382042 : True := trivial
theorem hd.tw13047593935725612058 : True := trivial
theorem hd.tw13051953538815563581 : True := trivial
theorem hd.tw13064122474441708322 : True := trivial
theorem hd.tw13066319289922817542 : True := trivial
theorem hd.tw13092906067662860646 : True := trivial
theorem hd.tw13132618709999183898 : True := trivial
theorem hd.tw13181700845877081190 : True := trivial
theorem hd.tw13217225542625558698 : True := trivial
theorem hd.tw13217827037086042188 : True := trivial
theorem hd.tw13218659294841961345 : True := trivial
theorem hd.tw13220430256171166289 : True := trivial
theorem hd.tw13225837485096350037 : True := trivial
theorem hd.tw13262116225945230012 : True := trivial
theorem hd.tw13263762954130075895 : True := trivial
theorem hd.tw13267510147771200024 : True := trivial
theorem hd.tw13277076834127875243 : True := trivial
theorem hd.tw13280443560766958183 : True := trivial
theorem hd.tw13285133528070534704 : True := trivial
theorem hd.tw13289513938125300765 : True := trivial
theorem hd.tw13293453174229064190 : True := trivial
theorem hd.tw1331086792558400476 : True := trivial
theorem hd.tw13321331477185743149 : True := trivial
theorem hd.tw13322179722446271537 : True := trivial
theorem hd.tw13342606739435360313 : True := trivial
theorem hd.tw1335065189686863947 : True := trivial
theorem hd.tw13363553139645760527 : True := trivial
theorem hd.tw13365295217650922812 : True := trivial
theorem hd.tw13368278939475635651 : True := trivial
theorem hd.tw13372043803930879067 : True := trivial
theorem hd.tw13372903325873741775 : True := trivial
theorem hd.tw13409441903868389331 : True := trivial
theorem hd.tw13431754692932380062 : True := trivial
theorem hd.tw13468300074154594103 : True := trivial
theorem hd.tw13474097485772985973 : True := trivial
theorem hd.tw13475242022060392486 : True := trivial
theorem hd.tw13478424178397462001 : True := trivial
theorem hd.tw13483081372092288885 : True := trivial
theorem hd.tw13518370688599389936 : True := trivial
theorem hd.tw13531707123254989501 : True := trivial
theorem hd.tw13534587687697041467 : True := trivial
theorem hd.tw13562760996464443880 : True := trivial
theorem hd.tw13566260322249332789 : True := trivial
theorem hd.tw1359830224848277088 : True := trivial
theorem hd.tw13609717118414637909 : True := trivial
theorem hd.tw13628142620392400109 : True := trivial
theorem hd.tw13638418597567726942 : True := trivial
theorem hd.tw13642289790063256904 : True := trivial
theorem hd.tw13671756088133313087 : True := trivial
theorem hd.tw13749296373982701957 : True := trivial
theorem hd.tw13770079208771991547 : True := trivial
theorem hd.tw137786328141462057 : True := trivial
theorem hd.tw13783031573616600631 : True := trivial
theorem hd.tw1379335367625716243 : True := trivial
theorem hd.tw13828106393651249627 : True := trivial
theorem hd.tw1382963296337349011 : True := trivial
theorem hd.tw13855881374063213867 : True := trivial
theorem hd.tw13855946660403688772 : True := trivial
theorem hd.tw1386823515303788150 : True := trivial
theorem hd.tw13903934854276604550 : True := trivial
theorem hd.tw13919464512627920130 : True := trivial
theorem hd.tw13931416462566266981 : True := trivial
theorem hd.tw13933652083044930433 : True := trivial
theorem hd.tw13994979335412520660 : True := trivial
theorem hd.tw14006173549557618073 : True := trivial
theorem hd.tw14029546391885035639 : True := trivial
theorem hd.tw14040608126747316905 : True := trivial
theorem hd.tw14060154772996877548 : True := trivial
theorem hd.tw14060237666301923597 : True := trivial
theorem hd.tw14090284624843534012 : True := trivial
theorem hd.tw1409312971732116557 : True := trivial
theorem hd.tw14120982254508448379 : True := trivial
theorem hd.tw1413172679324656950 : True := trivial
theorem hd.tw14137390275340422267 : True := trivial
theorem hd.tw14168552714766633299 : True := trivial
theorem hd.tw14205177575709318024 : True := trivial
theorem hd.tw14246236162039180721 : True := trivial
theorem hd.tw14294001040229213422 : True := trivial
theorem hd.tw14333710738500927179 : True := trivial
theorem hd.tw1439246655266547700 : True := trivial
theorem hd.tw14400467628812073631 : True := trivial
theorem hd.tw14438451200097066615 : True := trivial
theorem hd.tw14446474709323646786 : True := trivial
theorem hd.tw1445366717492459972 : True := trivial
theorem hd.tw14457593812595234344 : True := trivial
theorem hd.tw14462709497994964445 : True := trivial
theorem hd.tw1448358952932078338 : True := trivial
theorem hd.tw14492701947808656938 : True := trivial
theorem hd.tw1452849714261714991 : True := trivial
theorem hd.tw14560493823538711346 : True := trivial
theorem hd.tw14567429538950270057 : True := trivial
theorem hd.tw14586822029978311858 : True := trivial
theorem hd.tw14612060388864693735 : True := trivial
theorem hd.tw14667805832236412624 : True := trivial
theorem hd.tw14685462170515437407 : True := trivial
theorem hd.tw14705683404202351889 : True := trivial
theorem hd.tw14706022693812145444 : True := trivial
theorem hd.tw14727110085682223627 : True := trivial
theorem hd.tw14743440263598761229 : True := trivial
theorem hd.tw14745743045033390146 : True := trivial
theorem hd.tw14768889098011018680 : True := trivial
theorem hd.tw14772383043592177042 : True := trivial
theorem hd.tw14859038896228082724 : True := trivial
theorem hd.tw14892549342360969540 : True := trivial
theorem hd.tw14896477498954680388 : True := trivial
theorem hd.tw14906377314874228009 : True := trivial
theorem hd.tw14955159897011116063 : True := trivial
theorem hd.tw14960593345356199642 : True := trivial
theorem hd.tw14980023328507725902 : True := trivial
theorem hd.tw14984183105004643987 : True := trivial
theorem hd.tw15042006015671813226 : True := trivial
theorem hd.tw15043168886218598503 : True := trivial
theorem hd.tw15048261121198461528 : True := trivial
theorem hd.tw1506431575118746342 : True := trivial
theorem hd.tw15064902949301533346 : True := trivial
theorem hd.tw15074197538484233485 : True := trivial
theorem hd.tw15089522573102190283 : True := trivial
theorem hd.tw15152743547302097792 : True := trivial
theorem hd.tw15166520500009309586 : True := trivial
theorem hd.tw15199589371867527261 : True := trivial
theorem hd.tw15207398651663016943 : True := trivial
theorem hd.tw15213948185873263833 : True := trivial
theorem hd.tw15220180469806662145 : True := trivial
theorem hd.tw15238134620097496406 : True := trivial
theorem hd.tw15277330632498426303 : True := trivial
theorem hd.tw15278966056882409248 : True := trivial
theorem hd.tw15279998641719260112 : True := trivial
theorem hd.tw15344866539931968096 : True := trivial
theorem hd.tw1535757262459896012 : True := trivial
theorem hd.tw15367242080415987702 : True := trivial
theorem hd.tw15368132723985388332 : True := trivial
theorem hd.tw15411387601460861337 : True := trivial
theorem hd.tw15416985209724490359 : True := trivial
theorem hd.tw15422856539912107476 : True := trivial
theorem hd.tw15427206886491885616 : True := trivial
theorem hd.tw15463257786427224491 : True := trivial
theorem hd.tw1546886555590435225 : True := trivial
theorem hd.tw15508949281206285077 : True := trivial
theorem hd.tw15527848837575444561 : True := trivial
theorem hd.tw15529170255622000948 : True := trivial
theorem hd.tw15578025631644234493 : True := trivial
theorem hd.tw15591429051563716170 : True := trivial
theorem hd.tw15595854959937240912 : True := trivial
theorem hd.tw15610959940260225430 : True := trivial
theorem hd.tw15615420239508185596 : True := trivial
theorem hd.tw15615537253650120727 : True := trivial
theorem hd.tw15625209780758371316 : True := trivial
theorem hd.tw15634565183472343292 : True := trivial
theorem hd.tw1563692795949630186 : True := trivial
theorem hd.tw15637593595834871717 : True := trivial
theorem hd.tw15642763164714097627 : True := trivial
theorem hd.tw15643275761693703936 : True := trivial
theorem hd.tw15673258824015622330 : True := trivial
theorem hd.tw15675198926951892251 : True := trivial
theorem hd.tw15683763237869141255 : True := trivial
theorem hd.tw15687388767607454252 : True := trivial
theorem hd.tw15759970867653108152 : True := trivial
theorem hd.tw15790720579355451973 : True := trivial
theorem hd.tw1580110805410547442 : True := trivial
theorem hd.tw1582976572388173787 : True := trivial
theorem hd.tw15833661619300960221 : True := trivial
theorem hd.tw15837987909243819085 : True := trivial
theorem hd.tw1584506945513601688 : True := trivial
theorem hd.tw1588505670450824345 : True := trivial
theorem hd.tw15889433306838628275 : True := trivial
theorem hd.tw1589133516308662214 : True := trivial
theorem hd.tw15910714762333108613 : True := trivial
theorem hd.tw15923250282426842828 : True := trivial
theorem hd.tw15924899543223041283 : True := trivial
theorem hd.tw15946356160694317329 : True := trivial
theorem hd.tw15946388913382835224 : True := trivial
theorem hd.tw15948780112781908787 : True := trivial
theorem hd.tw15963624873386084050 : True := trivial
theorem hd.tw15967140613478806237 : True := trivial
theorem hd.tw15987713032478767096 : True := trivial
theorem hd.tw15992342658441690333 : True := trivial
theorem hd.tw1600037746751723098 : True := trivial
theorem hd.tw16006246977917349235 : True := trivial
theorem hd.tw16007149819294483003 : True := trivial
theorem hd.tw16009884308244765898 : True := trivial
theorem hd.tw16029623286316568529 : True := trivial
theorem hd.tw1603739661141634737 : True := trivial
theorem hd.tw16037735763661986305 : True := trivial
theorem hd.tw16052320808349706082 : True := trivial
theorem hd.tw16053994301053490033 : True := trivial
theorem hd.tw16056359734778111409 : True := trivial
theorem hd.tw16064382804478563927 : True := trivial
theorem hd.tw16091413853298234908 : True := trivial
theorem hd.tw1610171440888473627 : True := trivial
theorem hd.tw16138627921320673191 : True := trivial
theorem hd.tw16151710598963121264 : True := trivial
theorem hd.tw16155205043701107222 : True := trivial
theorem hd.tw16156708551869547534 : True := trivial
theorem hd.tw16157073509204512506 : True := trivial
theorem hd.tw16169374299450900766 : True := trivial
theorem hd.tw16171809288044610508 : True := trivial
theorem hd.tw16178712458983371728 : True := trivial
theorem hd.tw16194383521188589630 : True := trivial
theorem hd.tw16227762859984022837 : True := trivial
theorem hd.tw16243533830983971328 : True := trivial
theorem hd.tw16246848685605474055 : True := trivial
theorem hd.tw16257038226119295666 : True := trivial
theorem hd.tw16259696140248634718 : True := trivial
theorem hd.tw16299908979028503884 : True := trivial
theorem hd.tw16301592386811335294 : True := trivial
theorem hd.tw16302227732802510677 : True := trivial
theorem hd.tw16332348944364537037 : True := trivial
theorem hd.tw16345102440705955213 : True := trivial
theorem hd.tw16357263729072622229 : True := trivial
theorem hd.tw16376525773666504680 : True := trivial
theorem hd.tw16414904818172857274 : True := trivial
theorem hd.tw16432713993328977331 : True := trivial
theorem hd.tw16443024508289211202 : True := trivial
theorem hd.tw16456969618363192440 : True := trivial
theorem hd.tw16473244170626142550 : True := trivial
theorem hd.tw16477043939570097188 : True := trivial
theorem hd.tw16487816990975572028 : True := trivial
theorem hd.tw16518625400603885517 : True := trivial
theorem hd.tw16587392273704687506 : True := trivial
theorem hd.tw16634568088961857937 : True := trivial
theorem hd.tw16635604280276938560 : True := trivial
theorem hd.tw16640546478005224243 : True := trivial
theorem hd.tw16661405048812198066 : True := trivial
theorem hd.tw1666387254794493845 : True := trivial
theorem hd.tw16684818696116721337 : True := trivial
theorem hd.tw16698745307106531279 : True := trivial
theorem hd.tw16713699803418581334 : True := trivial
theorem hd.tw16722109127936396110 : True := trivial
theorem hd.tw16744898341101239380 : True := trivial
theorem hd.tw16759147789766475008 : True := trivial
theorem hd.tw16772102934027710169 : True := trivial
theorem hd.tw16794629799341752650 : True := trivial
theorem hd.tw16823583209533085739 : True := trivial
theorem hd.tw16828841361933241965 : True := trivial
theorem hd.tw16858285156579221889 : True := trivial
theorem hd.tw16868993833207775613 : True := trivial
theorem hd.tw16896567674234606475 : True := trivial
theorem hd.tw16904818350239718627 : True := trivial
theorem hd.tw16919406825032445293 : True := trivial
theorem hd.tw16945582573551092051 : True := trivial
theorem hd.tw16970440968685349367 : True := trivial
theorem hd.tw1699103778626983548 : True := trivial
theorem hd.tw17001982702790524580 : True := trivial
theorem hd.tw17047115858639842297 : True := trivial
theorem hd.tw17054507655720011243 : True := trivial
theorem hd.tw17062030032774818151 : True := trivial
theorem hd.tw17066044127408595049 : True := trivial
theorem hd.tw17076082267592564974 : True := trivial
theorem hd.tw17087091549796120035 : True := trivial
theorem hd.tw17088047866570459193 : True := trivial
theorem hd.tw1712922718373300912 : True := trivial
theorem hd.tw17130151131035750659 : True := trivial
theorem hd.tw17172931820748874959 : True := trivial
theorem hd.tw17177331786930743035 : True := trivial
theorem hd.tw17183224562656869120 : True := trivial
theorem hd.tw17234923516513369237 : True := trivial
theorem hd.tw17252143746492648416 : True := trivial
theorem hd.tw17312999752573914782 : True := trivial
theorem hd.tw17325209927041812611 : True := trivial
theorem hd.tw17330132731328240911 : True := trivial
theorem hd.tw17330945745186091897 : True := trivial
theorem hd.tw17335414052712997756 : True := trivial
theorem hd.tw17336936450418997793 : True := trivial
theorem hd.tw17347436560843906493 : True := trivial
theorem hd.tw1736311965527578767 : True := trivial
theorem hd.tw17377529257436501650 : True := trivial
theorem hd.tw17386561741084979693 : True := trivial
theorem hd.tw17387473266821786944 : True := trivial
theorem hd.tw17413551345404909392 : True := trivial
theorem hd.tw17429513623812275283 : True := trivial
theorem hd.tw17447410573909459338 : True := trivial
theorem hd.tw17454471701868102899 : True := trivial
theorem hd.tw17470177872615007328 : True := trivial
theorem hd.tw17471934795394947791 : True := trivial
theorem hd.tw17491280204586788870 : True := trivial
theorem hd.tw17491317419825422843 : True := trivial
theorem hd.tw17495340751864218003 : True := trivial
theorem hd.tw17562767543260142214 : True := trivial
theorem hd.tw17574625026820762457 : True := trivial
theorem hd.tw17583924267553061668 : True := trivial
theorem hd.tw17588044629489971554 : True := trivial
theorem hd.tw17599816209265215132 : True := trivial
theorem hd.tw17606422857730326317 : True := trivial
theorem hd.tw17628472586750557451 : True := trivial
theorem hd.tw17673860158736603733 : True := trivial
theorem hd.tw17696971302532935780 : True := trivial
theorem hd.tw17711083657039698284 : True := trivial
theorem hd.tw17714235663813219645 : True := trivial
theorem hd.tw17737187407176874954 : True := trivial
theorem hd.tw17739348878880393726 : True := trivial
theorem hd.tw17772917993097084435 : True := trivial
theorem hd.tw1781861727890032366 : True := trivial
theorem hd.tw17843490464661113860 : True := trivial
theorem hd.tw17893044597097874663 : True := trivial
theorem hd.tw17895171251205151618 : True := trivial
theorem hd.tw17901334829092211166 : True := trivial
theorem hd.tw17903497710992402801 : True := trivial
theorem hd.tw17925215291927510665 : True := trivial
theorem hd.tw1792636949448641307 : True := trivial
theorem hd.tw17948085552500728524 : True := trivial
theorem hd.tw17950676927832955104 : True := trivial
theorem hd.tw17989097746536338734 : True := trivial
theorem hd.tw1800889605409440832 : True := trivial
theorem hd.tw18093812233618175256 : True := trivial
theorem hd.tw18095200977026478895 : True := trivial
theorem hd.tw18103342009636024947 : True := trivial
theorem hd.tw18103420901670897651 : True := trivial
theorem hd.tw18160293313031310949 : True := trivial
theorem hd.tw18163647496604598072 : True := trivial
theorem hd.tw18166333605607142505 : True := trivial
theorem hd.tw18176940659606848779 : True := trivial
theorem hd.tw18183988605222147192 : True := trivial
theorem hd.tw18185175575083235020 : True := trivial
theorem hd.tw18219297243305740317 : True := trivial
theorem hd.tw18233516762306594366 : True := trivial
theorem hd.tw18241275227582772068 : True := trivial
theorem hd.tw18245042118932799458 : True := trivial
theorem hd.tw18264374347568628810 : True := trivial
theorem hd.tw18291419657060728153 : True := trivial
theorem hd.tw18293851220164018083 : True := trivial
theorem hd.tw18300207936620678264 : True := trivial
theorem hd.tw18321552122766947510 : True := trivial
theorem hd.tw18351126306069267617 : True := trivial
theorem hd.tw18358800413957953924 : True := trivial
theorem hd.tw1836080755315867724 : True := trivial
theorem hd.tw18421049791903953903 : True := trivial
theorem hd.tw18439511094173506614 : True := trivial
theorem hd.tw1847840615245081061 : True := trivial
theorem hd.tw1848646778235469078 : True := trivial
theorem hd.tw185848376630758926 : True := trivial
theorem hd.tw1865391376527767206 : True := trivial
theorem hd.tw1870067075039425230 : True := trivial
theorem hd.tw1882180444382439491 : True := trivial
theorem hd.tw189712035060473897 : True := trivial
theorem hd.tw190519026028168232 : True := trivial
theorem hd.tw1936894748134917147 : True := trivial
theorem hd.tw1997569388931296116 : True := trivial
theorem hd.tw2000490053193787569 : True := trivial
theorem hd.tw2001351230973187099 : True := trivial
theorem hd.tw2040990291671593033 : True := trivial
theorem hd.tw2042292140826266357 : True := trivial
theorem hd.tw2051048951616859547 : True := trivial
theorem hd.tw2068664650715991707 : True := trivial
theorem hd.tw2114630138375439770 : True := trivial
theorem hd.tw212345690472687942 : True := trivial
theorem hd.tw2167537188350426706 : True := trivial
theorem hd.tw2195365466389143174 : True := trivial
theorem hd.tw2216850387143573719 : True := trivial
theorem hd.tw22551697357593593 : True := trivial
theorem hd.tw2263123870574935043 : True := trivial
theorem hd.tw226724450230711188 : True := trivial
theorem hd.tw2274498078352570744 : True := trivial
theorem hd.tw2284436838669742495 : True := trivial
theorem hd.tw2295870552580634182 : True := trivial
theorem hd.tw2315301623876862497 : True := trivial
theorem hd.tw2323474266016966308 : True := trivial
theorem hd.tw2327210489368252092 : True := trivial
theorem hd.tw2329189449893159454 : True := trivial
theorem hd.tw2386827423013361158 : True := trivial
theorem hd.tw2391449824757734642 : True := trivial
theorem hd.tw243823211424636713 : True := trivial
theorem hd.tw2442259710966052079 : True := trivial
theorem hd.tw2448417245163862455 : True := trivial
theorem hd.tw2457190517430149469 : True := trivial
theorem hd.tw2468469042602058204 : True := trivial
theorem hd.tw2480057099694739299 : True := trivial
theorem hd.tw2489000522355961661 : True := trivial
theorem hd.tw2502866573005156581 : True := trivial
theorem hd.tw2534900931950305806 : True := trivial
theorem hd.tw257007361410690125 : True := trivial
theorem hd.tw2595994805191909183 : True := trivial
theorem hd.tw2603259988358896889 : True := trivial
theorem hd.tw2608437505485318709 : True := trivial
theorem hd.tw2616952524820836436 : True := trivial
theorem hd.tw262745018181394680 : True := trivial
theorem hd.tw2658526732547218105 : True := trivial
theorem hd.tw2739504486584576224 : True := trivial
theorem hd.tw2781682124601125471 : True := trivial
theorem hd.tw2783992281797965187 : True := trivial
theorem hd.tw2788664435532181463 : True := trivial
theorem hd.tw2799067240506288376 : True := trivial
theorem hd.tw2799716289819351777 : True := trivial
theorem hd.tw2808349399557158395 : True := trivial
theorem hd.tw2845207389951388047 : True := trivial
theorem hd.tw2845679848157327705 : True := trivial
theorem hd.tw2855845756224970109 : True := trivial
theorem hd.tw2871226400543044806 : True := trivial
theorem hd.tw2887051446865420828 : True := trivial
theorem hd.tw2922222751358710265 : True := trivial
theorem hd.tw2951005344575393816 : True := trivial
theorem hd.tw2960447077969926378 : True := trivial
theorem hd.tw2999033326186475339 : True := trivial
theorem hd.tw3008623586974134963 : True := trivial
theorem hd.tw3039998526598829958 : True := trivial
theorem hd.tw3044193314922437478 : True := trivial
theorem hd.tw307737655149646647 : True := trivial
theorem hd.tw3085183777334472315 : True := trivial
theorem hd.tw3109861748172591687 : True := trivial
theorem hd.tw313027258313007627 : True := trivial
theorem hd.tw3182187488490625086 : True := trivial
theorem hd.tw3196399650302076718 : True := trivial
theorem hd.tw3219085151875037572 : True := trivial
theorem hd.tw3229955645248102723 : True := trivial
theorem hd.tw3259873300814134281 : True := trivial
theorem hd.tw3333446698644548216 : True := trivial
theorem hd.tw3350930974749635488 : True := trivial
theorem hd.tw3381375190539634487 : True := trivial
theorem hd.tw3404104791013757517 : True := trivial
theorem hd.tw3419581819265744254 : True := trivial
theorem hd.tw3429492842335990350 : True := trivial
theorem hd.tw3442329435671937591 : True := trivial
theorem hd.tw3452082135128663414 : True := trivial
theorem hd.tw3484992998616243462 : True := trivial
theorem hd.tw3493717111155160527 : True := trivial
theorem hd.tw3496965988886986938 : True := trivial
theorem hd.tw3513125359445811510 : True := trivial
theorem hd.tw3571134770919094901 : True := trivial
theorem hd.tw3608708970678896270 : True := trivial
theorem hd.tw3625682410889870493 : True := trivial
theorem hd.tw3649758429140192277 : True := trivial
theorem hd.tw3673020696563887462 : True := trivial
theorem hd.tw3673089383077640791 : True := trivial
theorem hd.tw368366308016060594 : True := trivial
theorem hd.tw3694398316872202419 : True := trivial
theorem hd.tw3704167492566942397 : True := trivial
theorem hd.tw3759623122121258479 : True := trivial
theorem hd.tw3763122126050802206 : True := trivial
theorem hd.tw3789350110615891812 : True := trivial
theorem hd.tw3816877163431070358 : True := trivial
theorem hd.tw3828038474966422129 : True := trivial
theorem hd.tw3878383114103592795 : True := trivial
theorem hd.tw3913528116038191188 : True := trivial
theorem hd.tw3915529967508079626 : True := trivial
theorem hd.tw3919010098100093602 : True := trivial
theorem hd.tw3920623390966001496 : True := trivial
theorem hd.tw3922637787740509324 : True := trivial
theorem hd.tw3941438180925939637 : True := trivial
theorem hd.tw3953601041324332601 : True := trivial
theorem hd.tw3969467460574380271 : True := trivial
theorem hd.tw4014540891139286612 : True := trivial
theorem hd.tw4015398097383911347 : True := trivial
theorem hd.tw4021928978595405253 : True := trivial
theorem hd.tw4040972080148754881 : True := trivial
theorem hd.tw4068527845204499245 : True := trivial
theorem hd.tw4091639524402994376 : True := trivial
theorem hd.tw4111692666942324129 : True := trivial
theorem hd.tw4115565904173853331 : True := trivial
theorem hd.tw4126306136578151734 : True := trivial
theorem hd.tw4136554803537287180 : True := trivial
theorem hd.tw4138081844389336918 : True := trivial
theorem hd.tw4172343393113369950 : True := trivial
theorem hd.tw4182648748547736412 : True := trivial
theorem hd.tw4266741192598854041 : True := trivial
theorem hd.tw4272726840584523970 : True := trivial
theorem hd.tw4282304852377368616 : True := trivial
theorem hd.tw4282359134580295075 : True := trivial
theorem hd.tw4297731678662094536 : True := trivial
theorem hd.tw4299596416071116603 : True := trivial
theorem hd.tw4315991029959535628 : True := trivial
theorem hd.tw432457690288141553 : True := trivial
theorem hd.tw4363365295628954845 : True := trivial
theorem hd.tw4367231431732253908 : True := trivial
theorem hd.tw4367455430839740993 : True := trivial
theorem hd.tw4377701919642642989 : True := trivial
theorem hd.tw4383666589626881386 : True := trivial
theorem hd.tw4402725079659364252 : True := trivial
theorem hd.tw4424954536736003961 : True := trivial
theorem hd.tw442638132926106271 : True := trivial
theorem hd.tw4449123307109862055 : True := trivial
theorem hd.tw4478166936697009375 : True := trivial
theorem hd.tw4478177076189095293 : True := trivial
theorem hd.tw4478964076566166474 : True := trivial
theorem hd.tw4494801613693538912 : True := trivial
theorem hd.tw4521580383011477154 : True := trivial
theorem hd.tw4523669819894539328 : True := trivial
theorem hd.tw4525403578752992165 : True := trivial
theorem hd.tw4642405928176397000 : True := trivial
theorem hd.tw4643362625855044894 : True := trivial
theorem hd.tw4654797750381630734 : True := trivial
theorem hd.tw469108185253701220 : True := trivial
theorem hd.tw4702841417184801058 : True := trivial
theorem hd.tw4706079058837389440 : True := trivial
theorem hd.tw4724112764586752083 : True := trivial
theorem hd.tw4725425184044842548 : True := trivial
theorem hd.tw4734902545126651661 : True := trivial
theorem hd.tw4768578896829404305 : True := trivial
theorem hd.tw4788038989552484473 : True := trivial
theorem hd.tw4819202231147424091 : True := trivial
theorem hd.tw4833718069199227053 : True := trivial
theorem hd.tw4851647983119433812 : True := trivial
theorem hd.tw4856431653887292112 : True := trivial
theorem hd.tw4867443594122359892 : True := trivial
theorem hd.tw4870687313549177768 : True := trivial
theorem hd.tw49274679934790565 : True := trivial
theorem hd.tw4963670371499459168 : True := trivial
theorem hd.tw4971549296188076032 : True := trivial
theorem hd.tw4993660671451451078 : True := trivial
theorem hd.tw500953250457666378 : True := trivial
theorem hd.tw5009564483982726761 : True := trivial
theorem hd.tw5010264101278932077 : True := trivial
theorem hd.tw5036846961687405229 : True := trivial
theorem hd.tw5130813555471234732 : True := trivial
theorem hd.tw5138769234217329475 : True := trivial
theorem hd.tw5148922909946612681 : True := trivial
theorem hd.tw5167245352685981253 : True := trivial
theorem hd.tw5174551420813472067 : True := trivial
theorem hd.tw518976864732996251 : True := trivial
theorem hd.tw5189956158058943387 : True := trivial
theorem hd.tw5220083430330967483 : True := trivial
theorem hd.tw5238241317806426387 : True := trivial
theorem hd.tw5245234834050458271 : True := trivial
theorem hd.tw5247051413645994129 : True := trivial
theorem hd.tw526207354791536317 : True := trivial
theorem hd.tw5278057926702712004 : True := trivial
theorem hd.tw5282504435634884242 : True := trivial
theorem hd.tw5283464899586487735 : True := trivial
theorem hd.tw5289708365253275695 : True := trivial
theorem hd.tw5292301768408028288 : True := trivial
theorem hd.tw5318216170032084099 : True := trivial
theorem hd.tw5322579261384874668 : True := trivial
theorem hd.tw5343241284826551009 : True := trivial
theorem hd.tw5362516397382645915 : True := trivial
theorem hd.tw5363564295841288755 : True := trivial
theorem hd.tw5366084841770067474 : True := trivial
theorem hd.tw5367187694478559379 : True := trivial
theorem hd.tw5388632664720090651 : True := trivial
theorem hd.tw541196102884509978 : True := trivial
theorem hd.tw5416991563250132298 : True := trivial
theorem hd.tw5433107678231618845 : True := trivial
theorem hd.tw5464967688985200232 : True := trivial
theorem hd.tw5480042469492414594 : True := trivial
theorem hd.tw5486487638281291605 : True := trivial
theorem hd.tw5505005885091257285 : True := trivial
theorem hd.tw5505332120971382143 : True := trivial
theorem hd.tw5511420028821071320 : True := trivial
theorem hd.tw5549315172176941698 : True := trivial
theorem hd.tw5562173858411828344 : True := trivial
theorem hd.tw5567388512258382067 : True := trivial
theorem hd.tw5592360268479517082 : True := trivial
theorem hd.tw561391293025646643 : True := trivial
theorem hd.tw5635641802508607975 : True := trivial
theorem hd.tw5715356086224469760 : True := trivial
theorem hd.tw5715734110848049390 : True := trivial
theorem hd.tw5716766192118558609 : True := trivial
theorem hd.tw5732804406350252772 : True := trivial
theorem hd.tw5781342201191254626 : True := trivial
theorem hd.tw5814283452226095208 : True := trivial
theorem hd.tw5859118754885311737 : True := trivial
theorem hd.tw5873113503399164460 : True := trivial
theorem hd.tw5899666649113621702 : True := trivial
theorem hd.tw5976792059365374437 : True := trivial
theorem hd.tw5983496337302601536 : True := trivial
theorem hd.tw5987830557187376847 : True := trivial
theorem hd.tw6014424301940151174 : True := trivial
theorem hd.tw6019021122589006684 : True := trivial
theorem hd.tw6038821095411175016 : True := trivial
theorem hd.tw6046454685291232161 : True := trivial
theorem hd.tw6060742912462422084 : True := trivial
theorem hd.tw6079173187612997037 : True := trivial
theorem hd.tw6082411064634330575 : True := trivial
theorem hd.tw6123773746684550334 : True := trivial
theorem hd.tw6136932545381038964 : True := trivial
theorem hd.tw617508947420966582 : True := trivial
theorem hd.tw6184208073178115725 : True := trivial
theorem hd.tw6184460063843016694 : True := trivial
theorem hd.tw6186238094035137676 : True := trivial
theorem hd.tw6196171512934965099 : True := trivial
theorem hd.tw6264232113106981867 : True := trivial
theorem hd.tw6276725880618359904 : True := trivial
theorem hd.tw6291416237084387574 : True := trivial
theorem hd.tw6293948785866598258 : True := trivial
theorem hd.tw6308581086252854402 : True := trivial
theorem hd.tw6320253292602491972 : True := trivial
theorem hd.tw6349282757913024034 : True := trivial
theorem hd.tw6352655612330318208 : True := trivial
theorem hd.tw6394381022753523788 : True := trivial
theorem hd.tw6407587892757256292 : True := trivial
theorem hd.tw6411954120941647267 : True := trivial
theorem hd.tw6412100933407834118 : True := trivial
theorem hd.tw6423634429210846174 : True := trivial
theorem hd.tw6438293893037913957 : True := trivial
theorem hd.tw6442067068224118133 : True := trivial
theorem hd.tw6449127861642672459 : True := trivial
theorem hd.tw6469175993241445255 : True := trivial
theorem hd.tw6528754448969337418 : True := trivial
theorem hd.tw6545403380812914513 : True := trivial
theorem hd.tw6547078798241139092 : True := trivial
theorem hd.tw6555240042291301478 : True := trivial
theorem hd.tw6578402527460240241 : True := trivial
theorem hd.tw6598312636042714100 : True := trivial
theorem hd.tw6615107907471364465 : True := trivial
theorem hd.tw6627881031435992008 : True := trivial
theorem hd.tw663384727985864361 : True := trivial
theorem hd.tw6636792957720756321 : True := trivial
theorem hd.tw6669269137521125552 : True := trivial
theorem hd.tw6679266806504041263 : True := trivial
theorem hd.tw6683769817339685419 : True := trivial
theorem hd.tw6709418730364537143 : True := trivial
theorem hd.tw6755925336976613232 : True := trivial
theorem hd.tw6759412095888398321 : True := trivial
theorem hd.tw6761669909254768831 : True := trivial
theorem hd.tw6767318904944593275 : True := trivial
theorem hd.tw6780557218761844654 : True := trivial
theorem hd.tw678209747344391502 : True := trivial
theorem hd.tw6785817131721698500 : True := trivial
theorem hd.tw6804821044290156842 : True := trivial
theorem hd.tw6818987989461384207 : True := trivial
theorem hd.tw6819123309680001836 : True := trivial
theorem hd.tw6820862383352777685 : True := trivial
theorem hd.tw6838551448383532254 : True := trivial
theorem hd.tw6848782300941138395 : True := trivial
theorem hd.tw6868836192036940282 : True := trivial
theorem hd.tw6877226645827823821 : True := trivial
theorem hd.tw6879831473291441079 : True := trivial
theorem hd.tw6882427118574961969 : True := trivial
theorem hd.tw6898005170327248138 : True := trivial
theorem hd.tw689954013368505116 : True := trivial
theorem hd.tw6902198413751149823 : True := trivial
theorem hd.tw6906073325868019850 : True := trivial
theorem hd.tw6924109203229866365 : True := trivial
theorem hd.tw6931407450589930559 : True := trivial
theorem hd.tw6957150274394394060 : True := trivial
theorem hd.tw6965799899956892507 : True := trivial
theorem hd.tw697623264460660564 : True := trivial
theorem hd.tw6998783941825042932 : True := trivial
theorem hd.tw7006195865600381663 : True := trivial
theorem hd.tw701333769924781912 : True := trivial
theorem hd.tw7023726343779634624 : True := trivial
theorem hd.tw7028611270464810887 : True := trivial
theorem hd.tw7031273417212677730 : True := trivial
theorem hd.tw7076163891533521732 : True := trivial
theorem hd.tw7080932558258925280 : True := trivial
theorem hd.tw7082855905992002993 : True := trivial
theorem hd.tw7085514621470718492 : True := trivial
theorem hd.tw714852897916480489 : True := trivial
theorem hd.tw7152984921513172624 : True := trivial
theorem hd.tw7153062008950511462 : True := trivial
theorem hd.tw7174315439194531881 : True := trivial
theorem hd.tw7182994202766372144 : True := trivial
theorem hd.tw7191455744419660376 : True := trivial
theorem hd.tw7240586211207864342 : True := trivial
theorem hd.tw7261450039545342454 : True := trivial
theorem hd.tw7270182246851987180 : True := trivial
theorem hd.tw728884934406724761 : True := trivial
theorem hd.tw7289601568589263668 : True := trivial
theorem hd.tw7289634563603522867 : True := trivial
theorem hd.tw7292484366425897655 : True := trivial
theorem hd.tw7303270361268845054 : True := trivial
theorem hd.tw7317836474542784337 : True := trivial
theorem hd.tw7339039647409124788 : True := trivial
theorem hd.tw7354087734392854552 : True := trivial
theorem hd.tw7355570028127101125 : True := trivial
theorem hd.tw7366208706002141716 : True := trivial
theorem hd.tw7369741819223213686 : True := trivial
theorem hd.tw7372000682148998216 : True := trivial
theorem hd.tw7382370116671421104 : True := trivial
theorem hd.tw7492773218913965947 : True := trivial
theorem hd.tw7494724483528729301 : True := trivial
theorem hd.tw7510230149288206974 : True := trivial
theorem hd.tw7512474625130614241 : True := trivial
theorem hd.tw7519716089354478335 : True := trivial
theorem hd.tw7523672394736509286 : True := trivial
theorem hd.tw7525542149764818722 : True := trivial
theorem hd.tw7526368328331116154 : True := trivial
theorem hd.tw7534799579077118603 : True := trivial
theorem hd.tw7540655947842036084 : True := trivial
theorem hd.tw7540741092611519060 : True := trivial
theorem hd.tw7541792107247259296 : True := trivial
theorem hd.tw7578210074245671484 : True := trivial
theorem hd.tw758273949599710562 : True := trivial
theorem hd.tw7598622570094877466 : True := trivial
theorem hd.tw7610815399733428385 : True := trivial
theorem hd.tw7626941382939369770 : True := trivial
theorem hd.tw7628703163842673926 : True := trivial
theorem hd.tw7640094616464845771 : True := trivial
theorem hd.tw7676003278276379012 : True := trivial
theorem hd.tw7691918140598264929 : True := trivial
theorem hd.tw7712595579559962911 : True := trivial
theorem hd.tw7746578258024575070 : True := trivial
theorem hd.tw7752569895197466512 : True := trivial
theorem hd.tw7752767780024739350 : True := trivial
theorem hd.tw7763873220885509757 : True := trivial
theorem hd.tw7854228177987924090 : True := trivial
theorem hd.tw7878038873032413027 : True := trivial
theorem hd.tw7880807054014371918 : True := trivial
theorem hd.tw7891253978561527248 : True := trivial
theorem hd.tw7914949630228597729 : True := trivial
theorem hd.tw7941745277869089046 : True := trivial
theorem hd.tw8015326511298524721 : True := trivial
theorem hd.tw8025032847418708242 : True := trivial
theorem hd.tw8044012406986999415 : True := trivial
theorem hd.tw8047900516022102942 : True := trivial
theorem hd.tw8053944837975664402 : True := trivial
theorem hd.tw8068729725432388964 : True := trivial
theorem hd.tw8081886968326746073 : True := trivial
theorem hd.tw8100839570337242658 : True := trivial
theorem hd.tw8112040973832200146 : True := trivial
theorem hd.tw8117029840178788049 : True := trivial
theorem hd.tw8134915037123179040 : True := trivial
theorem hd.tw8184699220007379433 : True := trivial
theorem hd.tw8191903926673212241 : True := trivial
theorem hd.tw8244733829118024811 : True := trivial
theorem hd.tw825126770350376351 : True := trivial
theorem hd.tw8268277133935991078 : True := trivial
theorem hd.tw8269573656231971908 : True := trivial
theorem hd.tw8312999807965096350 : True := trivial
theorem hd.tw8317466277049474617 : True := trivial
theorem hd.tw833173182276230429 : True := trivial
theorem hd.tw8343274005884668182 : True := trivial
theorem hd.tw8356816923877370021 : True := trivial
theorem hd.tw8377043916266704855 : True := trivial
theorem hd.tw8381844023166312768 : True := trivial
theorem hd.tw845060206244984605 : True := trivial
theorem hd.tw8457440626546761165 : True := trivial
theorem hd.tw8458067239894703972 : True := trivial
theorem hd.tw8472141830624432390 : True := trivial
theorem hd.tw8479784124755550697 : True := trivial
theorem hd.tw8493152586797012548 : True := trivial
theorem hd.tw8538877666451538035 : True := trivial
theorem hd.tw8587404781116728655 : True := trivial
theorem hd.tw8589211134812392127 : True := trivial
theorem hd.tw8609351116199087170 : True := trivial
theorem hd.tw8652628183442184457 : True := trivial
theorem hd.tw8664936974563722654 : True := trivial
theorem hd.tw8671608845466749128 : True := trivial
theorem hd.tw8683856772340465682 : True := trivial
theorem hd.tw8684328023851190084 : True := trivial
theorem hd.tw8716120427605611371 : True := trivial
theorem hd.tw8727321023445011275 : True := trivial
theorem hd.tw8735263284916673568 : True := trivial
theorem hd.tw876933089483189297 : True := trivial
theorem hd.tw8770205317985620760 : True := trivial
theorem hd.tw8770659054964912022 : True := trivial
theorem hd.tw8811097733284410319 : True := trivial
theorem hd.tw881544763273948857 : True := trivial
theorem hd.tw8879563391730754479 : True := trivial
theorem hd.tw8912348807662434688 : True := trivial
theorem hd.tw8934143017859847078 : True := trivial
theorem hd.tw8959176491354863721 : True := trivial
theorem hd.tw8960069828448710407 : True := trivial
theorem hd.tw8965841893048198262 : True := trivial
theorem hd.tw8977307856219701671 : True := trivial
theorem hd.tw8977460988437922124 : True := trivial
theorem hd.tw9013056391748086436 : True := trivial
theorem hd.tw9073681462420916055 : True := trivial
theorem hd.tw9077708301081682751 : True := trivial
theorem hd.tw9153386212771759811 : True := trivial
theorem hd.tw9170477692918782315 : True := trivial
theorem hd.tw9184186324627900627 : True := trivial
theorem hd.tw920214292312260371 : True := trivial
theorem hd.tw922143313871775805 : True := trivial
theorem hd.tw9244321171653502345 : True := trivial
theorem hd.tw9251471199085437103 : True := trivial
theorem hd.tw9258712216579463092 : True := trivial
theorem hd.tw9271970288684553227 : True := trivial
theorem hd.tw9277588360372424766 : True := trivial
theorem hd.tw9298403506768410418 : True := trivial
theorem hd.tw9325612240067072397 : True := trivial
theorem hd.tw9330943631129107780 : True := trivial
theorem hd.tw9341642984632610673 : True := trivial
theorem hd.tw9345676750909349944 : True := trivial
theorem hd.tw9345929723534960622 : True := trivial
theorem hd.tw9386895884608548742 : True := trivial
theorem hd.tw9390866547671247325 : True := trivial
theorem hd.tw9398405308114057262 : True := trivial
theorem hd.tw940617070666608080 : True := trivial
theorem hd.tw9406673726873002282 : True := trivial
theorem hd.tw9420132969298855359 : True := trivial
theorem hd.tw9421340871869096474 : True := trivial
theorem hd.tw9430268157657104642 : True := trivial
theorem hd.tw9449672872311958731 : True := trivial
theorem hd.tw9459050058782445324 : True := trivial
theorem hd.tw9465213581472480440 : True := trivial
theorem hd.tw9476321141362543215 : True := trivial
theorem hd.tw9496365245306024149 : True := trivial
theorem hd.tw9499510787657705874 : True := trivial
theorem hd.tw9513423893830186035 : True := trivial
theorem hd.tw9533747618267967006 : True := trivial
theorem hd.tw9557236495431379559 : True := trivial
theorem hd.tw9566141503761928105 : True := trivial
theorem hd.tw9577689765879766989 : True := trivial
theorem hd.tw960944832710211464 : True := trivial
theorem hd.tw9627899436633539337 : True := trivial
theorem hd.tw9631708518359487223 : True := trivial
theorem hd.tw9641152695372364146 : True := trivial
theorem hd.tw9657781627882305391 : True := trivial
theorem hd.tw9673543361469618366 : True := trivial
theorem hd.tw9702936160620672325 : True := trivial
theorem hd.tw9719896912496429819 : True := trivial
theorem hd.tw9731375825926819010 : True := trivial
theorem hd.tw9741134391959003819 : True := trivial
theorem hd.tw9748044761591592747 : True := trivial
theorem hd.tw9753359207989701909 : True := trivial
theorem hd.tw9763420282994701918 : True := trivial
theorem hd.tw9783614193127449063 : True := trivial
theorem hd.tw978945382295711627 : True := trivial
theorem hd.tw9842699097658496709 : True := trivial
theorem hd.tw9864973744126774698 : True := trivial
theorem hd.tw9908193460736022307 : True := trivial
theorem hd.tw991583007596301734 : True := trivial
theorem hd.tw9983995961361265002 : True := trivial
theorem hd.tw9990345226319884068 : True := trivial
theorem hd.tw9995953887348947515 : True := trivial
theorem file_ok : ((PySem.Challenge.rw_qd0069_01.row.prog.main.file : Str) == ("/claim/cut.py" : Str)) = true := by decide +kernel
theorem sup_ok : (PySem.Challenge.rw_qd0069_01.row.prog.main.scope.names.lookup ("super" : Str)).isSome = false := by decide +kernel
set_option Elab.async true
set_option maxHeartbeats 8000000 in
theorem hd : PySem.Challenge.rw_qd0069_01.Holds := by
  w_on
  o_law
  o_head (kHook kk.heap_1 [2, 3, 15, 17, 18, 20, 21, 22, 29, 30, 32, 33, 35, 36, 37, 39, 40, 42, 43, 44, 45, 46, 47, 50, 57, 58, 59, 62, 69, 70, 71, 81, 82, 84, 85, 87, 88, 89, 91, 92, 94, 95, 96, 98, 99, 101, 102, 103, 104, 105, 106, 107, 117, 119, 120, 122, 123, 124, 126, 127, 129, 130, 131, 133, 134, 136, 137, 138, 140, 141, 143, 144, 145, 147, 148, 150, 151, 152, 154, 155, 157, 158, 159, 161, 162, 164, 165, 166, 168, 169, 171, 172, 173, 175, 176, 178, 179, 180, 182, 183, 185, 186, 187, 189, 190, 192, 193, 194, 196, 197, 199, 200, 201, 202, 203, 204, 205, 208, 211, 216, 217, 220, 221, 222, 224, 225, 227, 228, 229, 231, 232, 234, 235, 236, 238, 239, 241, 242, 243, 244, 245, 248, 250, 251, 253, 254, 255, 257, 258, 260, 261, 269, 271, 272, 274, 275, 276, 278, 279, 281, 282, 283, 285, 286, 288, 289, 290, 291, 292, 293, 294, 304, 305, 307, 308, 310, 311, 312, 314, 315, 317, 318, 319, 321, 322, 324, 325, 326, 327, 328, 329, 330, 340, 342, 343, 345, 346, 347, 349, 350, 352, 353, 354, 355, 356, 357, 358, 368, 370, 371, 373, 374, 375, 377, 378, 380, 381, 382, 383, 384, 385, 386, 396, 397, 399, 400, 402, 403, 404, 406, 407, 409, 410, 411, 413, 414, 416, 417, 418, 420, 421, 423, 424, 425, 427, 428, 430, 431, 432, 434, 435, 437, 438, 439, 441, 442, 444, 445, 446, 448, 449, 451, 452, 453, 455, 456, 458, 459, 460, 462, 463, 465, 466, 467, 469, 470, 472, 473, 474, 476, 477, 479, 480, 481, 483, 484, 486, 487, 488, 490, 491, 493, 494, 495, 497, 498, 500, 501, 502, 504, 505, 507, 508, 509, 511, 512, 514, 515, 516, 518, 519, 521, 522, 523, 525, 526, 528, 529, 530, 532, 533, 535, 536, 537, 540, 541, 542, 544, 545, 547, 548, 549, 550, 551, 552, 553, 563, 565, 566, 568, 569, 570, 572, 573, 575, 576, 577, 579, 580, 582, 583, 584, 586, 587, 589, 590, 591, 593, 594, 596, 597, 598, 600, 601, 603, 604, 605, 607, 608, 610, 611, 612, 614, 615, 617, 618, 619, 621, 622, 624, 625, 626, 627, 628, 629, 630, 633, 636, 641, 642, 643, 645, 646, 648, 649, 650, 651, 653, 654, 656, 657, 658, 659, 661, 662, 664, 665, 666, 668, 669, 671, 672, 673, 675, 676, 678, 679, 680, 681, 683, 684, 686, 687, 688, 690, 691, 693, 694, 695, 696, 698, 699, 701, 702, 703, 704, 706, 707, 709, 710, 711, 713, 714, 716, 717, 718, 720, 721, 723, 724, 725, 727, 728, 730, 731, 732, 733, 734, 744, 745, 747, 748, 750, 751, 752, 753, 754, 755, 756, 766, 769, 770, 771, 773, 774, 776, 777, 778, 780, 781, 783, 784, 785, 787, 788, 790, 791, 792, 794, 795, 797, 798, 799, 801, 802, 804, 805, 806, 808, 809, 811, 812, 813, 815, 816, 818, 819, 820, 822, 823, 825, 826, 827, 829, 830, 832, 833, 834, 835, 836, 837, 838, 841, 842, 845, 846, 847, 849, 850, 852, 853, 854, 856, 857, 859, 860, 861, 864, 865, 866, 869, 870, 871, 874, 875, 876, 879, 880] (fun _ => by kernel_rfl))
  case hw => w_witness2
  intro w s₀ s₁ mg mb G Y fa o pm cd doc dV kV ho hd hcd hD hmg hg args vals as hpre hlay hrd hwl hlo
  have KX := kIn_of Y
  refine Ground.open G ?_
  intro T B D TE TW
  have KX' : (kk.heap_1 w.params).In s₁.heap := KX
  have e := mg_of KX' T.g (n := "law") (v := .ref 880) (by k_is)
  have hfa : fa = 880 := by
    have h : mg "law" = some (.ref fa) := hmg
    rw [e] at h
    cases h; rfl
  subst hfa
  have hlo2 := hlo
  clear hD hd ho hmg hcd B D TE TW Y KX G
  wrow_args hpre hlay hrd hwl hlo
  rename_i ns _ _ _ _ _ as1 as2 sl vs as3 hL hra hw1 hr0 hI hr hc hc2
  have hsl : sl ≠ sysModules := by
    cases hr0 with
    | list _ _ _ _ =>
      have := hlo2 sl (by simp)
      simpa using this
  have hl : ns.length ≤ 63 := by omega
  obtain ⟨oL, hoL, hcL, nL, hdL⟩ := hL
  have h880 : 841 < s₁.heap.objs.size := Heap.lt_size (KX' 841 _ (by k_is))
  refine law_spec (b := ⟨PySem.Challenge.rw_qd0069_01.row.prog, w, s₁.heap, s₁.os⟩) (κ := fun a A => (a = 841 ∧ A = .list namesV) ∨ (a = sl ∧ A = .obj oL)) (ns := ns) ⟨KX', ⟨⟨_, _, _, _, _, T⟩⟩, file_ok, sup_ok⟩ rfl hg rfl (Nat.lt_trans (by decide) h880) ?_ ?_ (.inl ⟨rfl, rfl⟩) (.inr ⟨rfl, rfl⟩) hcL hdL hI hl fun s' bs gs os => ?_
  · rintro a A (⟨rfl, rfl⟩ | ⟨rfl, rfl⟩)
    · refine ⟨_, KX' 841 _ (by k_is), ?_⟩
      exact ⟨_, rfl⟩
    · exact ⟨_, hoL, rfl⟩
  · rintro a A (⟨rfl, rfl⟩ | ⟨rfl, rfl⟩)
    · decide
    · exact hsl
  · refine GoodW.toG ⟨.inl ⟨.bool true, .bool true, [], rfl, raisesW_false (by wrow_none_raised), .bool _, ?_, unshared_nil⟩, bs, os, gs⟩
    wrow_post
end Mine
theorem PySem.Challenge.cw_qd0069_01_holds : PySem.Challenge.rw_qd0069_01.Holds := by
  exact Mine.hd
