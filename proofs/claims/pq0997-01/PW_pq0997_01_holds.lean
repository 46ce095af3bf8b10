import PyProof.Rows.All
import Wide.All
import OpenK.AllK
import Wide.FinOn
import PySem.Challenge.RW_pq0997_01
set_option Elab.async false
set_option maxRecDepth 100000
set_option linter.unusedVariables false
namespace Rg
section
open PySem PySem.W PySem.Calls PyProof.Rows
theorem no_ns {α : Type} {a : α} {P : Prop} (e : none = some a) : P := by cases e
theorem no_sn {α : Type} {a : α} {P : Prop} (e : some a = none) : P := by cases e
theorem no_ft {P : Prop} (e : false = true) : P := by cases e
theorem no_tf {P : Prop} (e : true = false) : P := by cases e
theorem abs1 {G : Prop} (h : ∀ G0 : Prop, (G → G0) → G0) : G := h G id
inductive D where
 | none | bool (b : Bool) | int (i : Int) | str (s : Str) | bytes (l : List Int)
 | list (xs : List D) | tup (xs : List D) | ord (c d s o i m : Int) | raw (v : Value)
 deriving Inhabited
inductive Tr (α : Type) where
 | ok (a : α) | exc (w : Str) (at_ : D) | bad | br (b : Bool) (x y : Tr α)
noncomputable def Tr.bind {α β : Type} (f : α → Tr β) : Tr α → Tr β
 | .ok a => f a
 | .exc w a => .exc w a
 | .bad => .bad
 | .br b x y => .br b (Tr.bind f x) (Tr.bind f y)
noncomputable def Tr.sat {α : Type} (Q : α → Prop) (E : Str → D → Prop) : Tr α → Prop
 | .ok a => Q a
 | .exc w d => E w d
 | .bad => False
 | .br b x y => (b = true → Tr.sat Q E x) ∧ (b = false → Tr.sat Q E y)
theorem Tr.sat_bind {α β : Type} {Q : β → Prop} {E : Str → D → Prop} (f : α → Tr β) : ∀ t : Tr α, (t.bind f).sat Q E ↔ t.sat (fun a => (f a).sat Q E) E
 | .ok a => Iff.rfl
 | .exc w a => Iff.rfl
 | .bad => Iff.rfl
 | .br b x y => and_congr (imp_congr Iff.rfl (Tr.sat_bind f x)) (imp_congr Iff.rfl (Tr.sat_bind f y))
theorem Tr.sat_mono {α : Type} {Q Q' : α → Prop} {E E' : Str → D → Prop} (hq : ∀ a, Q a → Q' a) (he : ∀ w d, E w d → E' w d) : ∀ t : Tr α, t.sat Q E → t.sat Q' E'
 | .ok a, h => hq a h
 | .exc w a, h => he w a h
 | .bad, h => h
 | .br b x y, h => ⟨fun q => Tr.sat_mono hq he x (h.1 q), fun q => Tr.sat_mono hq he y (h.2 q)⟩
noncomputable abbrev Kn := Addr → Option Obj
structure Sta where
 B : Heap
 K : Frag
 cO : Addr
 cE : Addr
 tabs : List (Addr × Addr × Str)
 mg : Str → Option Value
 mb : Str → Option Value
 os : OsState
noncomputable def frs (stk : List Env) : List Addr := stk.filterMap (·.frame)
noncomputable def Sta.tabAt (S : Sta) : List Addr := S.tabs.map (·.2.1)
noncomputable def Fix (S : Sta) (stk : List Env) (b : Addr) : Prop := b ∉ frs stk ∧ b ∉ S.tabAt
noncomputable def ExtP (S : Sta) (stk : List Env) (P : Addr → Prop) (h h' : Heap) : Prop :=
 ∀ b o, h.get? b = some o → ∃ o', h'.get? b = some o' ∧ (¬ P b → (Fix S stk b → o' = o) ∧ (b ∈ frs stk → o'.data = o.data))
noncomputable abbrev Ext (S : Sta) (stk : List Env) : Heap → Heap → Prop := ExtP S stk fun J => False
noncomputable def KExt (h : Heap) (K K' : Kn) : Prop := (∀ a o, K a = some o → K' a = some o) ∧ ∀ a o, K' a = some o → K a = some o ∨ h.get? a = none
theorem KExt.refl (h : Heap) (K : Kn) : KExt h K K := ⟨fun J J e => e, fun J J e => .inl e⟩
theorem KExt.trans {S : Sta} {stk : List Env} {P : Addr → Prop} {h h₁ : Heap} {K K₁ K₂ : Kn} (x : KExt h K K₁) (e : ExtP S stk P h h₁) (y : KExt h₁ K₁ K₂) : KExt h K K₂ :=
 ⟨fun a o q => y.1 a o (x.1 a o q), fun a o q => by
  rcases y.2 a o q with q | q
  ·exact x.2 a o q
  ·refine .inr ?_
   cases hq : h.get? a with
   | none => rfl
   | some o₁ => obtain ⟨o', q', _⟩ := e a o₁ hq; rw [q] at q'; cases q'⟩
section
variable {S : Sta} {stk : List Env} {P P' : Addr → Prop} {h h₁ h₂ : Heap}
theorem ExtP.refl (h : Heap) : ExtP S stk P h h := fun J o e => ⟨o, e, fun J => ⟨fun J => rfl, fun J => rfl⟩⟩
theorem ExtP.trans (x : ExtP S stk P h h₁) (y : ExtP S stk P h₁ h₂) : ExtP S stk P h h₂ := fun b o e => by
 obtain ⟨o₁, e₁, q₁⟩ := x b o e
 obtain ⟨o₂, e₂, q₂⟩ := y b o₁ e₁
 exact ⟨o₂, e₂, fun np => ⟨fun f => ((q₂ np).1 f).trans ((q₁ np).1 f), fun f => ((q₂ np).2 f).trans ((q₁ np).2 f)⟩⟩
theorem ExtP.weaken (x : ExtP S stk P h h₁) (hp : ∀ b, P b → P' b) : ExtP S stk P' h h₁ := fun b o e => by
 obtain ⟨o₁, e₁, q₁⟩ := x b o e
 exact ⟨o₁, e₁, fun np => q₁ fun p => np (hp b p)⟩
theorem ExtP.keeps (k : ∀ b o, h.get? b = some o → h₁.get? b = some o) : ExtP S stk P h h₁ := fun b o e => ⟨o, k b o e, fun J => ⟨fun J => rfl, fun J => rfl⟩⟩
theorem ExtP.sameBut {a : Addr} (x : Heap.SameBut a h h₁) (pa : P a) (ha : ∃ o, h₁.get? a = some o) : ExtP S stk P h h₁ := fun b o e => by
 by_cases q : b = a
 ·subst q
  obtain ⟨o', e'⟩ := ha
  exact ⟨o', e', fun np => absurd pa np⟩
 ·exact ⟨o, (x.2 b q).trans e, fun J => ⟨fun J => rfl, fun J => rfl⟩⟩
theorem ExtP.get (x : ExtP S stk P h h₁) {b : Addr} {o : Obj} (e : h.get? b = some o) (f : Fix S stk b) (np : ¬ P b) : h₁.get? b = some o := by
 obtain ⟨o', e', q⟩ := x b o e
 rw [e', (q np).1 f]
theorem ExtP.some (x : ExtP S stk P h h₁) {b : Addr} {o : Obj} (e : h.get? b = some o) : ∃ o', h₁.get? b = some o' := let ⟨o', e', _⟩ := x b o e; ⟨o', e'⟩
theorem ExtP.none (x : ExtP S stk P h h₁) {b : Addr} (e : h₁.get? b = none) : h.get? b = none := by
 cases q : h.get? b with
 | none => rfl
 | some o => obtain ⟨o', e'⟩ := x.some q; rw [e] at e'; cases e'
theorem ExtP.ns (x : ExtP S stk P h h₁) {L : Addr} {m : Str → Option Value} (n : h.Ns L m) (np : ¬ P L) (nt : L ∉ S.tabAt) : h₁.Ns L m := by
 obtain ⟨o, es, ep, ho, hd, r⟩ := n
 obtain ⟨o', e', q⟩ := x L o ho
 refine ⟨o', es, ep, e', ?_, r⟩
 by_cases f : L ∈ frs stk
 ·rw [(q np).2 f, hd]
 ·rw [(q np).1 ⟨f, nt⟩, hd]
theorem ExtP.cell (x : ExtP S stk P h h₁) {c : Addr} {v : Option Value} (n : h.IsCell c v) (np : ¬ P c) (f : Fix S stk c) : h₁.IsCell c v := by
 obtain ⟨o, ho, hd⟩ := n
 exact ⟨o, x.get ho f np, hd⟩
theorem ExtP.pop {env : Env} {L : Addr} (x : ExtP S (env :: stk) P h₁ h₂) (hf : env.frame = Option.some L) (k : ∀ b o, h.get? b = Option.some o → h₁.get? b = Option.some o) (hL : h.get? L = Option.none) (hp : ∀ b o, h.get? b = Option.some o → ¬ P b) : Ext S stk h h₂ := fun b o e => by
 obtain ⟨o', e', q⟩ := x b o (k b o e)
 have hb : b ≠ L := fun z => by rw [z, hL] at e; cases e
 have hm : b ∈ frs (env :: stk) ↔ b ∈ frs stk := by
  unfold frs
  rw [List.filterMap_cons, hf]
  simp [hb]
 refine ⟨o', e', fun J => ⟨fun f => (q (hp b o e)).1 ⟨fun z => f.1 (hm.mp z), f.2⟩, fun f => (q (hp b o e)).2 (hm.mpr f)⟩⟩
end
open KBw in
structure OrdEs (es : List DictEntry) (c d s o i m : Int) : Prop where
 code : ∃ t, getL "code" es = some (some (.int c t))
 dst : ∃ t, getL "dst" es = some (some (.int d t))
 src : ∃ t, getL "src" es = some (some (.int s t))
 off : ∃ t, getL "off" es = some (some (.int o t))
 imm : ∃ t, getL "imm" es = some (some (.int i t))
 more : ∃ t, getL "more" es = some (some (.int m t))
 told : getL "told" es = some none
mutual
inductive Rep (S : Sta) (K : Kn) : Value → D → Prop
 | none : Rep S K .none .none
 | bool (b : Bool) : Rep S K (.bool b) (.bool b)
 | int (i : Int) (t : Tok) : Rep S K (.int i t) (.int i)
 | str (x : Str) (t : Tok) : Rep S K (.str x t) (.str x)
 | bytes (b : Array UInt8) (t : Tok) : Rep S K (.bytes b t) (.bytes (KBw.bInts b))
 | list {a : Addr} {vs : List Value} {n : Nat} {ds : List D} : K a = some { cls := .type "list", data := .seq vs.toArray n } → Reps S K vs ds → Rep S K (.ref a) (.list ds)
 | tup {a : Addr} {vs : List Value} {n : Nat} {ds : List D} : K a = some { cls := .type "tuple", data := .seq vs.toArray n } → Reps S K vs ds → Rep S K (.ref a) (.tup ds)
 | ord {x dx : Addr} {es : List DictEntry} {n : Nat} {c d s o i m : Int} : K x = some ⟨.ref S.cO, some dx, .plain, #[]⟩ → K dx = some (dictOf es n) → OrdEs es c d s o i m → Rep S K (.ref x) (.ord c d s o i m)
 | raw (v : Value) : Rep S K v (.raw v)
inductive Reps (S : Sta) (K : Kn) : List Value → List D → Prop
 | nil : Reps S K [] []
 | cons {v : Value} {vs : List Value} {d : D} {ds : List D} : Rep S K v d → Reps S K vs ds → Reps S K (v :: vs) (d :: ds)
end
mutual
theorem Rep.mono {S : Sta} {K K' : Kn} (k : ∀ a o, K a = some o → K' a = some o) {v : Value} {d : D} (q : Rep S K v d) : Rep S K' v d := by
 cases q with
 | none => exact .none
 | bool b => exact .bool b
 | int i t => exact .int i t
 | str x t => exact .str x t
 | bytes b t => exact .bytes b t
 | list h r => exact .list (k _ _ h) (Reps.mono k r)
 | tup h r => exact .tup (k _ _ h) (Reps.mono k r)
 | ord h1 h2 e => exact .ord (k _ _ h1) (k _ _ h2) e
 | raw v => exact .raw v
theorem Reps.mono {S : Sta} {K K' : Kn} (k : ∀ a o, K a = some o → K' a = some o) {vs : List Value} {ds : List D} (q : Reps S K vs ds) : Reps S K' vs ds := by
 cases q with
 | nil => exact .nil
 | cons h r => exact .cons (Rep.mono k h) (Reps.mono k r)
end
section
variable {S : Sta} {K : Kn} {vs ws : List Value} {ds es : List D} {v : Value} {d : D}
theorem Reps.length (h : Reps S K vs ds) : vs.length = ds.length := by
 induction vs generalizing ds with
 | nil => cases h; rfl
 | cons v vs ih => cases h with | cons _ r => simp [ih r]
theorem Reps.append (h : Reps S K vs ds) (k : Reps S K ws es) : Reps S K (vs ++ ws) (ds ++ es) := by
 induction vs generalizing ds with
 | nil => cases h; exact k
 | cons v vs ih => cases h with | cons h r => exact .cons h (ih r)
theorem Reps.get (h : Reps S K vs ds) {k : Nat} (hk : ds[k]? = some d) : ∃ v, vs[k]? = some v ∧ Rep S K v d := by
 induction vs generalizing ds k with
 | nil => cases h; simp at hk
 | cons v vs ih =>
  cases h with
  | cons h r =>
   induction k using Nat.casesOn with
   | zero => simp at hk; subst hk; exact ⟨v, rfl, h⟩
   | succ k => simp at hk; obtain ⟨u, a, b⟩ := ih r hk; exact ⟨u, by simpa using a, b⟩
theorem Reps.take (h : Reps S K vs ds) (k : Nat) : Reps S K (vs.take k) (ds.take k) := by
 induction vs generalizing ds k with
 | nil => cases h; simpa using Reps.nil
 | cons v vs ih =>
  cases h with
  | cons h r =>
   induction k using Nat.casesOn with
   | zero => exact .nil
   | succ k => exact .cons h (ih r k)
theorem Reps.drop (h : Reps S K vs ds) (k : Nat) : Reps S K (vs.drop k) (ds.drop k) := by
 induction vs generalizing ds k with
 | nil => cases h; simpa using Reps.nil
 | cons v vs ih =>
  cases h with
  | cons h r =>
   induction k using Nat.casesOn with
   | zero => exact .cons h r
   | succ k => simpa using ih r k
end
noncomputable def TabInv (S : Sta) (h : Heap) : Prop :=
 ∀ t ∈ S.tabs, ∃ ps, h.get? t.2.1 = some (tabObj ps) ∧ TriplesOk ps.toList ∧ ∀ pos cv, codeAmong pos ps.toList = some cv → ∃ c' o vs tk, cv = .ref c' ∧ h.get? c' = some o ∧ o.cls = .type "code" ∧ o.data = .fields vs ∧ vs[1]? = some (.str t.2.2 tk) ∧ c' ∉ S.tabAt
structure St (S : Sta) (stk : List Env) (K : Kn) (s : Shared) : Prop where
 ff : ∀ env ∈ stk, env.scope.kind = .function ∧ ∃ L o, env.frame = some L ∧ S.B.get? L = none ∧ L ∉ S.tabAt ∧ s.heap.get? L = some o ∧ ∀ vs, o.data ≠ .fields vs
 stays : S.B.StaysIn s.heap
 kin : ∀ a o, K a = some o → s.heap.get? a = some o ∧ Fix S stk a
 tab : TabInv S s.heap
 gens : s.gens = #[]
 os : s.os = S.os
structure Ar (A : Around) (stk : List Env) (n : Nat) : Prop where
 frames : A.frames = some stk
 hand : A.handled = none
 depth : A.depth + 2 * n < 1000
 units : A.units + 8 * n + 100 < 9900
structure StaOk (S : Sta) : Prop where
 tabB : ∀ t ∈ S.tabs, S.B.get? t.2.1 = none
 nolim : S.B.NoLimit
 g : S.B.Ns mainGlobals S.mg
 b : S.B.Ns builtinsNs S.mb
 kin : S.K.In S.B
theorem St.baseFix {S : Sta} {stk : List Env} {K : Kn} {s : Shared} (H : StaOk S) (T : St S stk K s) {a : Addr} {o : Obj} (e : S.B.get? a = some o) : Fix S stk a := by
 refine ⟨fun m => ?_, fun m => ?_⟩
 ·obtain ⟨env, he, hf⟩ := List.mem_filterMap.mp m
  obtain ⟨_, L, _, hL, hB, _⟩ := T.ff env he
  rw [hL] at hf
  cases hf
  rw [hB] at e
  cases e
 ·obtain ⟨t, ht, q⟩ := List.mem_map.mp m
  rw [← q, H.tabB t ht] at e
  cases e
section
variable {S : Sta} {stk : List Env} {K K' : Kn} {s : Shared} {h h' : Heap}
theorem Fix.new (T : St S stk K s) {a : Addr} (e : s.heap.get? a = none) : Fix S stk a := by
 refine ⟨fun m => ?_, fun m => ?_⟩
 ·obtain ⟨env, he, hf⟩ := List.mem_filterMap.mp m
  obtain ⟨_, L, _, hL, _, _, ho, _⟩ := T.ff env he
  rw [hL] at hf
  obtain rfl := Option.some.inj hf
  rw [ho] at e
  exact no_sn e
 ·obtain ⟨t, ht, q⟩ := List.mem_map.mp m
  obtain ⟨ps, e', _⟩ := T.tab t ht
  rw [q, e] at e'
  cases e'
theorem codeFix (T : St S stk K s) {c : Addr} {o : Obj} {vs : Array Value} (e : s.heap.get? c = some o) (d : o.data = .fields vs) (n : c ∉ S.tabAt) : Fix S stk c := by
 refine ⟨fun m => ?_, n⟩
 obtain ⟨env, he, hf⟩ := List.mem_filterMap.mp m
 obtain ⟨_, L, oL, hL, _, _, ho, hd⟩ := T.ff env he
 rw [hL] at hf
 obtain rfl := Option.some.inj hf
 rw [ho] at e
 obtain rfl := Option.some.inj e
 exact hd _ d
theorem TabInv.keeps (T : TabInv S h) (k : ∀ b o, h.get? b = some o → h'.get? b = some o) : TabInv S h' := fun t ht => by
 obtain ⟨ps, a, b, c⟩ := T t ht
 refine ⟨ps, k _ _ a, b, fun pos cv q => ?_⟩
 refine abs1 fun G0 hG0 => ?_
 obtain ⟨c', o, vs, tk, x1, x2, x⟩ := c pos cv q
 refine hG0 ?_
 clear hG0 G0
 exact ⟨c', o, vs, tk, x1, k _ _ x2, x⟩
theorem St.step (H : StaOk S) (T : St S stk K s) (x : Ext S stk s.heap h') (tb : TabInv S h') (tk : Tok) : St S stk K { s with heap := h', toks := tk } where
 ff := fun env he => by
  refine abs1 fun G0 hG0 => ?_
  obtain ⟨a, L, o, hL, hB, hT, ho, hd⟩ := T.ff env he
  obtain ⟨o', e', q⟩ := x L o ho
  refine hG0 ?_
  clear hG0 G0
  refine ⟨a, L, o', hL, hB, hT, e', fun vs z => hd vs ?_⟩
  rw [← (q id).2 (List.mem_filterMap.mpr ⟨env, he, hL⟩), z]
 stays := fun b o e => x.get (T.stays b o e) (T.baseFix H e) id
 kin := fun a o e => ⟨x.get (T.kin a o e).1 (T.kin a o e).2 id, (T.kin a o e).2⟩
 tab := tb
 gens := T.gens
 os := T.os
theorem St.grow (H : StaOk S) (T : St S stk K s) (k : ∀ b o, s.heap.get? b = some o → h'.get? b = some o) (tk : Tok) : St S stk K { s with heap := h', toks := tk } :=
 T.step H (ExtP.keeps k) (T.tab.keeps k) tk
theorem St.tok (T : St S stk K s) (tk : Tok) : St S stk K { s with toks := tk } := ⟨T.ff, T.stays, T.kin, T.tab, T.gens, T.os⟩
theorem St.more (T : St S stk K s) (k : ∀ a o, K' a = some o → K a = some o ∨ (s.heap.get? a = some o ∧ Fix S stk a)) : St S stk K' s :=
 ⟨T.ff, T.stays, fun a o e => (k a o e).elim (T.kin a o) id, T.tab, T.gens, T.os⟩
noncomputable def Kn.put (K : Kn) (a : Addr) (o : Obj) : Kn := fun b => if b = a then some o else K b
theorem Kn.put_self (K : Kn) (a : Addr) (o : Obj) : K.put a o a = some o := by simp [Kn.put]
theorem Kn.put_old {K : Kn} {a : Addr} {o : Obj} (n : K a = none) : ∀ b o', K b = some o' → K.put a o b = some o' := fun b o' e => by
 unfold Kn.put
 rw [if_neg (fun q => by rw [q, n] at e; exact no_ns e)]
 exact e
theorem Kn.put_inv {K : Kn} {a b : Addr} {o o' : Obj} (e : K.put a o b = some o') : K b = some o' ∨ (b = a ∧ o' = o) := by
 unfold Kn.put at e
 split at e
 ·rename_i q; exact .inr ⟨q, (Option.some.inj e).symm⟩
 ·exact .inl e
theorem KExt.put {a : Addr} {o : Obj} (n : h.get? a = none) (nk : K a = none) : KExt h K (K.put a o) :=
 ⟨Kn.put_old nk, fun b o' e => by rcases Kn.put_inv e with q | ⟨q, _⟩; exact .inl q; exact .inr (q ▸ n)⟩
theorem St.kNone (T : St S stk K s) {a : Addr} (e : s.heap.get? a = none) : K a = none := by
 cases q : K a with
 | none => rfl
 | some o => have := (T.kin a o q).1; rw [e] at this; exact no_ns this
theorem new_none (h : Heap) : h.get? h.objs.size = none := Heap.get?_none_of_le (Nat.le_refl _)
theorem St.put (H : StaOk S) (T : St S stk K s) {a : Addr} {o : Obj} (k : ∀ b o, s.heap.get? b = some o → h'.get? b = some o) (e : s.heap.get? a = none) (e' : h'.get? a = some o) (tk : Tok) : St S stk (K.put a o) { s with heap := h', toks := tk } :=
 (T.grow H k tk).more fun b o' q => by
  rcases Kn.put_inv q with q | ⟨rfl, rfl⟩
  ·exact .inl q
  ·exact .inr ⟨e', Fix.new T e⟩
theorem St.push (H : StaOk S) (T : St S stk K s) {o : Obj} (ho : o.isFreed = false) (tk : Tok) : St S stk (K.put s.heap.objs.size o) { s with heap := s.heap.push o, toks := tk } :=
 T.put H (fun J J e => Heap.get?_push_of_some _ e) (new_none _) (Heap.get?_push_size _ ho) tk
theorem Frs.fun (T : St S stk K s) : s.heap.FunFrames S.B stk := by
 have ff := T.ff
 clear T
 induction stk with
 | nil => trivial
 | cons env r ih =>
  obtain ⟨a, L, o, hL, hB, _, ho, hd⟩ := ff env (.head _)
  exact ⟨by rw [a]; decide, ⟨L, o, hL, hB, ho, hd⟩, ih fun e he => ff e (.tail _ he)⟩
noncomputable abbrev Loc := List (Str × D)
structure Lc (S : Sta) (stk : List Env) (env : Env) (m : Loc) (K : Kn) (h : Heap) : Prop where
 kind : env.scope.kind = .function
 glob : env.globals = mainGlobals
 blt : env.builtins = builtinsNs
 ns : ∃ mv, h.Ns env.locals mv ∧ ∀ x d, m.lookup x = some d → env.kindOf x = some .local → ∃ v, mv x = some v ∧ Rep S K v d
 cel : ∀ x d, m.lookup x = some d → (env.kindOf x = some .cell ∨ env.kindOf x = some .free) → ∃ c v, env.cells.lookup x = some c ∧ h.IsCell c (some v) ∧ Rep S K v d
 hav : ∀ x, env.kindOf x = some .cell → ∃ c vo, env.cells.lookup x = some c ∧ h.IsCell c vo
 lK : K env.locals = none
 lB : S.B.get? env.locals = none
 lT : env.locals ∉ S.tabAt
 cOk : ∀ p ∈ env.cells, K p.2 = none ∧ S.B.get? p.2 = none ∧ Fix S stk p.2 ∧ p.2 ≠ env.locals ∧ ∃ o, h.get? p.2 = some o
 inj : ∀ p ∈ env.cells, ∀ q ∈ env.cells, p.2 = q.2 → p.1 = q.1
theorem lookup_mem {α : Type} {l : List (Str × α)} {x : Str} {c : α} (e : l.lookup x = some c) : (x, c) ∈ l := by
 induction l with
 | nil => exact no_ns e
 | cons p r ih =>
  obtain ⟨y, d⟩ := p
  rw [List.lookup_cons] at e
  split at e
  ·rename_i q; rw [beq_iff_eq.mp q]; obtain rfl := Option.some.inj e; exact .head _
  ·exact .tail _ (ih e)
theorem Lc.ext {env : Env} {m : Loc} (X : Lc S stk env m K h) (x : Ext S stk h h') (k : KExt h K K') : Lc S stk env m K' h' where
 kind := X.kind
 glob := X.glob
 blt := X.blt
 ns := by
  obtain ⟨mv, n, r⟩ := X.ns
  exact ⟨mv, x.ns n id X.lT, fun y d a b => let ⟨v, p, q⟩ := r y d a b; ⟨v, p, q.mono k.1⟩⟩
 cel := fun y d a b => by
  obtain ⟨c, v, p, q, r⟩ := X.cel y d a b
  exact ⟨c, v, p, x.cell q id (X.cOk _ (lookup_mem p)).2.2.1, r.mono k.1⟩
 hav := fun y a => by
  obtain ⟨c, v, p, q⟩ := X.hav y a
  exact ⟨c, v, p, x.cell q id (X.cOk _ (lookup_mem p)).2.2.1⟩
 lK := by
  cases q : K' env.locals with
  | none => rfl
  | some o =>
   rcases k.2 _ _ q with z | z
   ·rw [X.lK] at z; exact no_ns z
   ·obtain ⟨mv, ⟨o, _, _, ho, _⟩, _⟩ := X.ns; rw [ho] at z; exact no_sn z
 lB := X.lB
 lT := X.lT
 cOk := fun p hp => by
  obtain ⟨a, b, c, d, o, e⟩ := X.cOk p hp
  refine ⟨?_, b, c, d, x.some e⟩
  cases q : K' p.2 with
  | none => rfl
  | some o =>
   rcases k.2 _ _ q with z | z
   ·rw [a] at z; exact no_ns z
   ·rw [e] at z; exact no_sn z
 inj := X.inj
structure FlyX (S : Sta) (stk : List Env) (h : Heap) (e : Addr) (w : Str) (at_ : D) (h' : Heap) (oe : Obj) (vs : Array Value) (dx : Addr) : Prop where
 new : h.get? e = none
 ob : h'.get? e = some oe
 cls : oe.cls = .ref S.cE
 dict : oe.dict = some dx
 data : oe.data = .fields vs
 size : 2 < vs.size
 dob : ∃ es n av t, h'.get? dx = some (dictOf es n) ∧ getL "what" es = some (some (.str w t)) ∧ getL "at" es = some (some av) ∧ Rep S (fun J => none) av at_ ∧ W.handedIn av = true
 fix : Fix S stk dx
 ctx : at_ = .none → vs[2]? = some .none
inductive Trc (h h' : Heap) (e : Addr) (fl head : Value) : Prop
 | mk : ∀ T oT ts, head = .ref T → h.get? T = none → T ≠ e → h'.get? T = some oT → oT.cls = .type "traceback" → oT.data = .fields ts → ts[3]? = some fl → Trc h h' e fl head
inductive Fly (S : Sta) (stk : List Env) (h : Heap) (e : Addr) (w : Str) (at_ : D) (h' : Heap) : Prop
 | mk : ∀ oe vs dx, FlyX S stk h e w at_ h' oe vs dx → ((vs[1]? = some .none ∨ ∃ fl head, vs[1]? = some head ∧ Trc h h' e fl head ∧ (fl = .none ∨ ∃ env L, stk.head? = some env ∧ env.frame = some L ∧ fl = rawInt L))) → Fly S stk h e w at_ h'
inductive FlyT (S : Sta) (stk : List Env) (h : Heap) (e : Addr) (w : Str) (at_ : D) (fl : Value) (h' : Heap) : Prop
 | mk : ∀ oe vs dx head, FlyX S stk h e w at_ h' oe vs dx → vs[1]? = some head → Trc h h' e fl head → FlyT S stk h e w at_ fl h'
noncomputable def Good (S : Sta) (stk : List Env) (s : Shared) (K : Kn) (d : D) (Q : Value → Shared → Prop) : Prop :=
 ∀ v K' s', St S stk K' s' → Ext S stk s.heap s'.heap → KExt s.heap K K' → Rep S K' v d → Q v s'
noncomputable def Fall (S : Sta) (stk : List Env) (s : Shared) (K : Kn) (w : Str) (at_ : D) (E : Value → Shared → Prop) : Prop :=
 ∀ e s', St S stk K s' → Ext S stk s.heap s'.heap → Fly S stk s.heap e w at_ s'.heap → E (.ref e) s'
noncomputable def Rx (S : Sta) (stk : List Env) (s : Shared) (K : Kn) (r : Tr D) (Q E : Value → Shared → Prop) : Prop := r.sat (fun d => Good S stk s K d Q) (fun w a => Fall S stk s K w a E)
end
section
variable {S : Sta} {K : Kn} {v : Value} {vs : List Value} {d : D} {ds : List D} {P : Prop}
theorem Rep.int_v {i : Int} (h : Rep S K v (.int i)) : ∃ t, v = .int i t := by cases h; exact ⟨_, rfl⟩
theorem Rep.str_v {x : Str} (h : Rep S K v (.str x)) : ∃ t, v = .str x t := by cases h; exact ⟨_, rfl⟩
theorem Rep.bool_v {b : Bool} (h : Rep S K v (.bool b)) : v = .bool b := by cases h; rfl
theorem Rep.none_v (h : Rep S K v .none) : v = .none := by cases h; rfl
theorem Rep.raw_v {u : Value} (h : Rep S K v (.raw u)) : v = u := by cases h; rfl
theorem Rep.bytes_v {l : List Int} (h : Rep S K v (.bytes l)) : ∃ b t, v = .bytes b t ∧ KBw.bInts b = l := by cases h; exact ⟨_, _, rfl, rfl⟩
theorem Rep.list_v {xs : List D} (h : Rep S K v (.list xs)) : ∃ a us n, v = .ref a ∧ K a = some { cls := .type "list", data := .seq us.toArray n } ∧ Reps S K us xs := by cases h with | list a b => exact ⟨_, _, _, rfl, a, b⟩
theorem Rep.tup_v {xs : List D} (h : Rep S K v (.tup xs)) : ∃ a us n, v = .ref a ∧ K a = some { cls := .type "tuple", data := .seq us.toArray n } ∧ Reps S K us xs := by cases h with | tup a b => exact ⟨_, _, _, rfl, a, b⟩
theorem Rep.ord_v {c d s o i m : Int} (h : Rep S K v (.ord c d s o i m)) : ∃ x dx es n, v = .ref x ∧ K x = some ⟨.ref S.cO, some dx, .plain, #[]⟩ ∧ K dx = some (dictOf es n) ∧ OrdEs es c d s o i m := by cases h with | ord a b e => exact ⟨_, _, _, _, rfl, a, b, e⟩
theorem Reps.nil_v (h : Reps S K vs []) : vs = [] := by cases h; rfl
theorem Reps.cons_v (h : Reps S K vs (d :: ds)) : ∃ u us, vs = u :: us ∧ Rep S K u d ∧ Reps S K us ds := by cases h with | cons a b => exact ⟨_, _, rfl, a, b⟩
theorem Reps.one_v (h : Reps S K vs [d]) : ∃ u, vs = [u] ∧ Rep S K u d := by
 obtain ⟨u, us, rfl, a, b⟩ := h.cons_v
 rw [b.nil_v]
 exact ⟨u, rfl, a⟩
theorem Reps.two_v {e : D} (h : Reps S K vs [d, e]) : ∃ u u', vs = [u, u'] ∧ Rep S K u d ∧ Rep S K u' e := by
 obtain ⟨u, us, rfl, a, b⟩ := h.cons_v
 obtain ⟨u', rfl, c⟩ := b.one_v
 exact ⟨u, u', rfl, a, c⟩
end
structure Tab where
 fn : Str → Option (List D → Tr D)
 con : Str → Option D
 heard : Bool
noncomputable def Tab.low (T : Tab) : Tab := ⟨T.fn, T.con, false⟩
noncomputable def tru : D → Tr Bool
 | .bool b => .ok b
 | .int i => .ok (i != 0)
 | .none => .ok false
 | _ => .bad
noncomputable def isLit : PySem.Expr → Bool
 | .Constant .. => true
 | _ => false
noncomputable def smallI (a : Int) : Bool := decide (a.natAbs < 2 ^ 63)
noncomputable def cap : Nat := 1048576
noncomputable def when (b : Bool) (d : D) : Tr D := .br b (.ok d) .bad
noncomputable def bop (r : PySem.Expr) : Operator → D → D → Tr D
 | .Add, .int a, .int b => .ok (.int (a + b))
 | .Sub, .int a, .int b => .ok (.int (a - b))
 | .Mult, .int a, .int b => when (match isLit r with | true => smallI b | false => smallI a) (.int (a * b))
 | .FloorDiv, .int a, .int b => when (b != 0 && smallI b) (.int (a.fdiv b))
 | .Mod, .int a, .int b => when (b != 0) (.int (a.fmod b))
 | .Pow, .int a, .int b => when (decide (0 ≤ b) && decide (b ≤ 1000) && smallI a) (.int (a ^ b.toNat))
 | .LShift, .int a, .int b => when (decide (0 ≤ b) && decide (b ≤ 1000) && smallI a) (.int (a * 2 ^ b.toNat))
 | .RShift, .int a, .int b => when (decide (0 ≤ b)) (.int (a.fdiv (2 ^ b.toNat)))
 | .BitAnd, .int a, .int b => .ok (.int (Builtin.bitAnd a b))
 | .Add, .list xs, .list ys => when (decide (xs.length + ys.length ≤ cap)) (.list (xs ++ ys))
 | .Add, .bytes xs, .bytes ys => when (decide (xs.length + ys.length ≤ cap)) (.bytes (xs ++ ys))
 | .Add, .str x, .str y => when (decide (x.length + y.length ≤ cap)) (.str (x ++ y))
 | _, _, _ => .bad
noncomputable def uop : UnaryOp → D → Tr D
 | .Not, d => (tru d).bind fun b => .ok (.bool (!b))
 | .USub, .int a => .ok (.int (-a))
 | .Invert, .int a => .ok (.int (Builtin.bitNot a))
 | _, _ => .bad
mutual
noncomputable def toPy : D → Option PyData
 | .none => some .none
 | .bool b => some (.bool b)
 | .int i => some (.int i)
 | .str x => some (.str x)
 | .list ds => match toPys ds with | some ps => some (.list ps) | none => none
 | .tup ds => match toPys ds with | some ps => some (.tuple ps) | none => none
 | _ => none
noncomputable def toPys : List D → Option (List PyData)
 | [] => some []
 | d :: ds => match toPy d, toPys ds with
  | some p, some ps => some (p :: ps)
  | _, _ => none
end
noncomputable def deq (a b : D) : Tr Bool := match a, b with
 | .int i, .int j => .ok (i == j)
 | .str x, .str y => .ok (x == y)
 | .list _, .str _ => .ok false
 | .tup _, .str _ => .ok false
 | .ord .., .str _ => .ok false
 | .list _, .int _ => .ok false
 | a, b => match toPy a, toPy b with
  | some p, some q => .br (SeqAt.shaped p && SeqAt.shaped q) (.ok (PyData.eqv p q)) .bad
  | _, _ => .bad
noncomputable def din (x c : D) : Tr Bool := match c with
 | .list ds => match toPy x, toPys ds with
  | some p, some ps => .br (SeqAt.shaped p && SeqAt.shaped (.list ps)) (.ok (ps.any fun y => PyData.eqv y p)) .bad
  | _, _ => .bad
 | .tup ds => match toPy x, toPys ds with
  | some p, some ps => .br (SeqAt.shaped p && SeqAt.shaped (.tuple ps)) (.ok (ps.any fun y => PyData.eqv y p)) .bad
  | _, _ => .bad
 | _ => .bad
noncomputable def cop : CmpOp → D → D → Tr Bool
 | .Eq, a, b => deq a b
 | .NotEq, .ord .., _ => .bad
 | .NotEq, a, b => (deq a b).bind fun c => .ok (!c)
 | .Lt, .int a, .int b => .ok (decide (a < b))
 | .LtE, .int a, .int b => .ok (decide (a ≤ b))
 | .Gt, .int a, .int b => .ok (decide (b < a))
 | .GtE, .int a, .int b => .ok (decide (b ≤ a))
 | .In, a, b => din a b
 | .NotIn, a, b => (din a b).bind fun c => .ok (!c)
 | _, _, _ => .bad
noncomputable def pickB (b : Bool) (x y : Tr D) : Tr D := match b with
 | true => x
 | false => y
noncomputable def dattr (d : D) (a : Str) : Tr D := match d with
 | .ord c d s o i m => pickB (a == "code") (.ok (.int c)) (pickB (a == "dst") (.ok (.int d)) (pickB (a == "src") (.ok (.int s)) (pickB (a == "off") (.ok (.int o)) (pickB (a == "imm") (.ok (.int i)) (pickB (a == "more") (.ok (.int m)) .bad)))))
 | _ => .bad
noncomputable def intOf : D → Int
 | .int i => i
 | _ => 0
noncomputable def allI : List D → Bool
 | [] => true
 | .int _ :: r => allI r
 | _ :: _ => false
noncomputable def isMenu : PySem.Expr → Bool
 | .List .. => true
 | _ => false
noncomputable def dind (o s : PySem.Expr) (d i : D) : Tr D := match d, i with
 | .list xs, .int i => match isLit s with
  | true => match decide (0 ≤ i) && decide (i < 1000), xs[i.toNat]? with
   | true, some x => .ok x
   | _, _ => .bad
  | false => match isMenu o with
   | true => .br (decide (0 ≤ i) && decide (i < xs.length) && decide (xs.length ≤ cap) && allI xs) (.ok (.int ((xs.map intOf).getD i.toNat 0))) .bad
   | false => when (decide (0 ≤ i) && decide (i < xs.length) && decide (xs.length ≤ cap)) (xs.getD i.toNat .none)
 | .tup xs, .int i => match isLit s with
  | true => match decide (0 ≤ i) && decide (i < 1000), xs[i.toNat]? with
   | true, some x => .ok x
   | _, _ => .bad
  | false => .bad
 | .bytes xs, .int i => when (decide (0 ≤ i) && decide (i < xs.length) && decide (xs.length ≤ cap)) (.int (xs.getD i.toNat 0))
 | _, _ => .bad
noncomputable def cut {α : Type} (xs : List α) (lo hi : Option Int) : List α := (xs.drop (kms_lo lo xs.length)).take (kms_hi hi xs.length - kms_lo lo xs.length)
noncomputable def dsl (d : D) (lo hi : Option Int) : Tr D := match d with
 | .list xs => when (decide (xs.length ≤ cap)) (.list (cut xs lo hi))
 | .bytes xs => when (decide (xs.length ≤ cap)) (.bytes (cut xs lo hi))
 | .str x => when (decide (x.length ≤ cap)) (.str (Txt.slice x lo hi))
 | _ => .bad
noncomputable def intsOf (xs : List D) : List Int := xs.map intOf
noncomputable def methOk (d : D) (name : Str) (as : List PySem.Expr) : Bool := match d, as with
 | .str _, [] => name == "strip"
 | .ord .., [] => name == "told"
 | .list _, [_] => name == "index"
 | _, _ => false
noncomputable def dmeth (d : D) (name : Str) (as : List D) : Tr D := match d, as with
 | .str x, [] => when (name == "strip" && decide (x.length ≤ cap)) (.str (Txt.strip x))
 | .ord c d s o i m, [] => pickB (name == "told") (.ok (.tup [.int c, .int d, .int s, .int o, .int i, .int m])) .bad
 | .list xs, [.int i] => when (name == "index" && allI xs && PyData.layable0 (.list ((intsOf xs).map .int)) && decide (i ∈ intsOf xs)) (.int ((intsOf xs).idxOf i : Nat))
 | _, _ => .bad
noncomputable def methT (d : D) (name : Str) (as : List PySem.Expr) (x : Tr D) : Tr D := pickB (methOk d name as) x .bad
noncomputable def Loc.set : Loc → Str → D → Loc
 | [], x, d => [(x, d)]
 | (y, e) :: r, x, d => match y == x with
  | true => (x, d) :: r
  | false => (y, e) :: Loc.set r x d
noncomputable def setAll : List PySem.Expr → List D → Loc → Option Loc
 | [], [], m => some m
 | .Name x _ :: ts, d :: ds, m => setAll ts ds (m.set x d)
 | _, _, _ => none
noncomputable def bindT (t : PySem.Expr) (d : D) (m : Loc) : Option Loc := match t with
 | .Name x _ => some (m.set x d)
 | .Tuple ts _ _ => match d with
  | .tup ds => setAll ts ds m
  | _ => none
 | _ => none
noncomputable def evL (f : PySem.Expr → Tr D) : List PySem.Expr → Tr (List D)
 | [] => .ok []
 | e :: r => (f e).bind fun d => (evL f r).bind fun ds => .ok (d :: ds)
noncomputable def starE : PySem.Expr → Bool
 | .Starred .. => true
 | _ => false
noncomputable def noStars : List PySem.Expr → Bool
 | [] => true
 | e :: r => match starE e with
  | true => false
  | false => noStars r
noncomputable def evLs (f : PySem.Expr → Tr D) (es : List PySem.Expr) : Tr (List D) := match noStars es, decide (es.length < 30) with
 | true, true => evL f es
 | _, _ => .bad
noncomputable def baseOk : PySem.Expr → Bool
 | .Name .. => true
 | .Subscript .. => true
 | _ => false
noncomputable def boolB (op : BoolOp) (b : Bool) (v : D) (rest : Tr D) : Tr D := match op, rest with
 | .And, .ok (.bool c) => .ok (.bool (b && c))
 | .Or, .ok (.bool c) => .ok (.bool (b || c))
 | .And, rest => .br b rest (.ok v)
 | .Or, rest => .br b (.ok v) rest
noncomputable def evB (f : PySem.Expr → Tr D) (op : BoolOp) : List PySem.Expr → Tr D
 | [] => .bad
 | [x] => f x
 | x :: r => (f x).bind fun v => match v with
  | .bool b => boolB op b (.bool b) (evB f op r)
  | v => (tru v).bind fun t => match op with
   | .And => .br t (evB f op r) (.ok v)
   | .Or => .br t (.ok v) (evB f op r)
noncomputable def notSet : PySem.Expr → Bool
 | .Set .. => false
 | _ => true
noncomputable def andC (c : Bool) (r : Tr D) : Tr D := match r with
 | .ok (.bool d) => .ok (.bool (c && d))
 | rest => .br c rest (.ok (.bool false))
noncomputable def evC (f : PySem.Expr → Tr D) : D → List CmpOp → List PySem.Expr → Tr D
 | a, [op], [r] => cond (notSet r) ((f r).bind fun b => (cop op a b).bind fun c => .ok (.bool c)) .bad
 | a, op :: ops, r :: rs => (f r).bind fun b => (cop op a b).bind fun c => andC c (evC f b ops rs)
 | _, _, _ => .bad
noncomputable def enumD : Nat → List D → List D
 | _, [] => []
 | k, d :: r => .tup [.int k, d] :: enumD (k + 1) r
noncomputable def zipD : List D → List D → List D
 | a :: r, b :: q => .tup [a, b] :: zipD r q
 | _, _ => []
noncomputable def rangeD (n : Int) : List D := (List.range n.toNat).map fun (k : Nat) => .int k
noncomputable def whenL (b : Bool) (d : List D) : Tr (List D) := .br b (.ok d) .bad
noncomputable def pickL (b : Bool) (x y : Tr (List D)) : Tr (List D) := match b with
 | true => x
 | false => y
noncomputable def evRange (f : PySem.Expr → Tr D) : List PySem.Expr → Tr (List D)
 | [a] => (f a).bind fun d => match d with | .int n => whenL (decide (-1048576 ≤ n) && decide (n ≤ 1048576)) (rangeD n) | _ => .bad
 | _ => .bad
noncomputable def evEnum (f : PySem.Expr → Tr D) : List PySem.Expr → Tr (List D)
 | [a] => (f a).bind fun d => match d with | .list xs => whenL (decide (xs.length ≤ cap)) (enumD 0 xs) | _ => .bad
 | _ => .bad
noncomputable def evZip (f : PySem.Expr → Tr D) : List PySem.Expr → Tr (List D)
 | [a, b] => pickL (starE b) .bad ((f a).bind fun d => (f b).bind fun d' => match d, d' with | .list xs, .list ys => whenL (decide (xs.length ≤ cap) && decide (ys.length ≤ cap)) (zipD xs ys) | _, _ => .bad)
 | _ => .bad
noncomputable def evI (f : PySem.Expr → Tr D) (sc : Scope) (e : PySem.Expr) : Tr (List D) := match e with
 | .Call (.Name x _) as [] _ => pickL (sc.names.lookup x == some .globalImplicit) (pickL (x == "range") (evRange f as) (pickL (x == "enumerate") (evEnum f as) (pickL (x == "zip") (evZip f as) .bad))) .bad
 | .Name x p => (f (.Name x p)).bind fun d => match d with | .list xs => whenL (decide (xs.length ≤ cap)) xs | _ => .bad
 | .Subscript a b p => (f (.Subscript a b p)).bind fun d => match d with | .list xs => whenL (decide (xs.length ≤ cap)) xs | _ => .bad
 | _ => .bad
noncomputable def testsL (f : PySem.Expr → Tr D) : List PySem.Expr → Tr Bool
 | [] => .ok true
 | c :: r => (f c).bind fun d => (tru d).bind fun b => .br b (testsL f r) (.ok false)
noncomputable def compL (f : PySem.Expr → Loc → Tr D) (elt t : PySem.Expr) (ifs : List PySem.Expr) (base : Loc) : List D → Tr (List D)
 | [] => .ok []
 | d :: r => match bindT t d base with
  | none => .bad
  | some m' => match ifs with
   | [] => (f elt m').bind fun v => (compL f elt t ifs base r).bind fun vs => .ok (v :: vs)
   | c :: cs => (testsL (fun e => f e m') (c :: cs)).bind fun b => .br b ((f elt m').bind fun v => (compL f elt t ifs base r).bind fun vs => .ok (v :: vs)) (compL f elt t ifs base r)
noncomputable def storable (sc : Scope) (x : Str) : Bool := match sc.names.lookup x with
 | some .local => true
 | some .cell => true
 | _ => false
noncomputable def pairsI : PySem.Expr → Bool
 | .Call (.Name x _) _ _ _ => x == "enumerate" || x == "zip"
 | _ => false
noncomputable def tgtOk (sc : Scope) (it t : PySem.Expr) : Bool := match pairsI it, t with
 | false, .Name x _ => storable sc x
 | true, .Tuple [.Name x _, .Name y _] _ _ => storable sc x && storable sc y && x != y
 | _, _ => false
noncomputable def allStor (sc : Scope) : List PySem.Expr → Bool
 | [] => true
 | .Name x _ :: r => storable sc x && allStor sc r
 | _ :: _ => false
noncomputable def noCell : List (Str × NameKind) → Bool
 | [] => true
 | (_, .cell) :: _ => false
 | _ :: r => noCell r
noncomputable def freesOk (sc : Scope) : List (Str × NameKind) → Bool
 | [] => true
 | (x, .free) :: r => sc.names.lookup x == some .cell && freesOk sc r
 | _ :: r => freesOk sc r
noncomputable def localsOk (l : List (Str × NameKind)) : Bool := l.all fun p => p.2 != .local || l.lookup p.1 == some .local
noncomputable def compOk (sc sc' : Scope) (t it : PySem.Expr) (ifs : List PySem.Expr) : Bool :=
 tgtOk sc' it t && noCell sc'.names && freesOk sc sc'.names && localsOk sc'.names && (!pairsI it || ifs.isEmpty)
noncomputable def lamOk (sc sc' : Scope) : Bool := decide (sc'.kind = .function) && noCell sc'.names && freesOk sc sc'.names && !sc'.isCoroutine && !sc'.isGenerator
noncomputable def noExc {α : Type} : Tr α → Tr α
 | .ok a => .ok a
 | .br b x y => .br b (noExc x) (noExc y)
 | _ => .bad
noncomputable def freeOf (sc : Scope) (m : Loc) : Loc := m.filter fun p => sc.names.lookup p.1 == some .free
noncomputable def heardOf : Tr D → Tr D
 | .ok d => .ok (.list [d])
 | .exc _ a => .ok (.tup [.str "refused", a])
 | .bad => .bad
 | .br b x y => .br b (heardOf x) (heardOf y)
noncomputable def evPart (f : PySem.Expr → Tr D) : Option PySem.Expr → Tr (Option Int)
 | none => .ok none
 | some e => (f e).bind fun d => match d with | .int i => .ok (some i) | _ => .bad
noncomputable def ev (T : Tab) : Nat → Scope → PySem.Expr → Loc → Tr D
 | 0, _, _, _ => .bad
 | n + 1, sc, e, m => match e with
  | .Constant c _ _ => match c with
   | .none => .ok .none
   | .bool b => .ok (.bool b)
   | .int i => .ok (.int i)
   | .str x => .ok (.str x)
   | _ => .bad
  | .Name x _ => match x == "__debug__" || x == "__classdict__", sc.names.lookup x with
   | true, _ => .bad
   | _, some .globalImplicit => match T.con x with | some d => .ok d | none => .bad
   | _, some .globalExplicit => .bad
   | _, some _ => match m.lookup x with | some d => .ok d | none => .bad
   | _, none => .bad
  | .BoolOp op vs _ => evB (fun e => ev T n sc e m) op vs
  | .BinOp l op r _ => (ev T n sc l m).bind fun a => (ev T n sc r m).bind fun b => bop r op a b
  | .UnaryOp op x _ => (ev T n sc x m).bind fun a => uop op a
  | .IfExp t b o _ => (ev T n sc t m).bind fun d => (tru d).bind fun c => .br c (ev T n sc b m) (ev T n sc o m)
  | .List es _ => (evLs (fun e => ev T n sc e m) es).bind fun ds => when (decide (ds.length ≤ cap)) (.list ds)
  | .Tuple es _ _ => (evLs (fun e => ev T n sc e m) es).bind fun ds => when (decide (ds.length ≤ cap)) (.tup ds)
  | .Compare l ops cs _ => (ev T n sc l m).bind fun a => evC (fun e => ev T n sc e m) a ops cs
  | .Attribute o a _ => match o with
   | .Name x p => (ev T n sc (.Name x p) m).bind fun d => dattr d a
   | _ => .bad
  | .Subscript o s _ => match s with
   | .Slice lo hi st _ => match st with
    | none => (ev T n sc o m).bind fun d => (evPart (fun e => ev T n sc e m) lo).bind fun l => (evPart (fun e => ev T n sc e m) hi).bind fun h => dsl d l h
    | some _ => .bad
   | s => (ev T n sc o m).bind fun d => (ev T n sc s m).bind fun i => dind o s d i
  | .Call f as ks pos => match f, ks with
   | .Name x _, [] => match sc.names.lookup x == some .globalImplicit with
    | false => .bad
    | true => match as with
     | [.Lambda ⟨[], [], none, [], [], none, []⟩ body sc' _] => match x == "_law_heard", T.heard && lamOk sc sc' with
      | true, true => heardOf (ev T.low n sc' body (freeOf sc' m))
      | _, _ => .bad
     | as => match T.fn x with
      | some F => (evLs (fun e => ev T n sc e m) as).bind F
      | none => .bad
   | .Attribute o name ap, [] => match baseOk o && noStars as && decide (as.length < 30), ap.endLine == pos.line with
    | true, true => (ev T n sc o m).bind fun d => methT d name as ((evLs (fun e => ev T n sc e m) as).bind fun ds => dmeth d name ds)
    | _, _ => .bad
   | _, _ => .bad
  | .ListComp elt gens sc' _ => match gens with
   | [⟨t, it, ifs, a⟩] => match a == 0 && decide (sc'.kind = .function) && compOk sc sc' t it ifs with
    | true => (evI (fun e => ev T n sc e m) sc it).bind fun ds => (noExc (compL (fun e m' => ev T n sc' e m') elt t ifs (freeOf sc' m) ds)).bind fun xs => when (decide (xs.length ≤ cap)) (.list xs)
    | false => .bad
   | _ => .bad
  | _ => .bad
inductive Fl where
 | next (m : Loc) | cont (m : Loc) | ret (d : D)
noncomputable def forL (f : Loc → Tr Fl) (t : PySem.Expr) : List D → Loc → Tr Fl
 | [], m => .ok (.next m)
 | d :: r, m => match bindT t d m with
  | none => .bad
  | some m' => (f m').bind fun fl => match fl with
   | .next m₂ => forL f t r m₂
   | .cont m₂ => forL f t r m₂
   | .ret d => .ok (.ret d)
noncomputable def exsL (f : Stmt → Loc → Tr Fl) : List Stmt → Loc → Tr Fl
 | [], m => .ok (.next m)
 | st :: r, m => (f st m).bind fun fl => match fl with
  | .next m' => exsL f r m'
  | fl => .ok fl
noncomputable def plainE : PySem.Expr → Bool
 | .ListComp .. | .SetComp .. | .DictComp .. => false
 | _ => true
noncomputable def namesN : List PySem.Expr → List Str
 | .Name x _ :: r => x :: namesN r
 | _ => []
noncomputable def distinctN (ts : List PySem.Expr) : Bool := decide (namesN ts).Nodup
noncomputable def swapOk : PySem.Expr → Bool
 | .Tuple vs _ _ => vs.all (foldedForSure 8) || !vs.all (constantsAlone 8)
 | _ => true
noncomputable def setO (o : Option Loc) : Tr Fl := match o with
 | some m' => .ok (.next m')
 | none => .bad
noncomputable def ex (T : Tab) (k : Nat) (sc : Scope) : Nat → Stmt → Loc → Tr Fl
 | 0, _, _ => .bad
 | n + 1, st, m => match st with
  | .Expr e _ => match plainE e with
   | true => (ev T k sc e m).bind fun J => .ok (.next m)
   | false => .bad
  | .Assign ts v _ => match ts with
   | [.Name x _] => match storable sc x with
    | true => (ev T k sc v m).bind fun d => .ok (.next (m.set x d))
    | false => .bad
   | [.Tuple ts _ _] => match plainE v && allStor sc ts && distinctN ts && swapOk v with
    | true => (ev T k sc v m).bind fun d => match d with
     | .tup ds => setO (setAll ts ds m)
     | .list ds => setO (setAll ts ds m)
     | _ => .bad
    | false => .bad
   | _ => .bad
  | .If t b o _ => (ev T k sc t m).bind fun d => (tru d).bind fun c => .br c (exsL (ex T k sc n) b m) (exsL (ex T k sc n) o m)
  | .For t it body orelse _ => match orelse with
   | [] => match tgtOk sc it t with
    | true => (evI (fun e => ev T k sc e m) sc it).bind fun ds => forL (exsL (ex T k sc n) body) t ds m
    | false => .bad
   | _ => .bad
  | .Return v _ => match v with
   | none => .ok (.ret .none)
   | some e => (ev T k sc e m).bind fun d => .ok (.ret d)
  | .Raise e c _ => match e, c with
   | some (.Call (.Name x _) as [] _), none => match x == "CodeError", sc.names.lookup x == some .globalImplicit with
    | true, true => (evLs (fun e => ev T k sc e m) as).bind fun ds => match ds with
     | [.str w] => .exc w .none
     | [.str w, .int i] => .exc w (.int i)
     | _ => .bad
    | _, _ => .bad
   | _, _ => .bad
  | .Continue _ => .ok (.cont m)
  | _ => .bad
noncomputable def exs (T : Tab) (k : Nat) (sc : Scope) (n : Nat) : List Stmt → Loc → Tr Fl := exsL (ex T k sc n)
noncomputable def bindD : List Arg → List D → List D → Option Loc
 | [], [], _ => some []
 | ⟨x, _, _⟩ :: ps, d :: ds, df => match bindD ps ds df with
  | some m => some ((x, d) :: m)
  | none => none
 | p :: ps, [], df => match decide ((p :: ps).length ≤ df.length) with
  | true => some (((p :: ps).map (·.arg)).zip (df.drop (df.length - (p :: ps).length)))
  | false => none
 | [], _ :: _, _ => none
noncomputable def runF (T : Tab) (ps : List Arg) (df : List D) (sc : Scope) (body : List Stmt) (ds : List D) : Tr D := match bindD ps ds df with
 | none => .bad
 | some m => (exs T 40 sc 40 body m).bind fun fl => match fl with
  | .ret d => .ok d
  | .next _ => .ok .none
  | .cont _ => .bad
section
variable {prog : Program} {w : World} {S : Sta} {T : Tab} {k : Nat}
noncomputable def FnSpec (prog : Program) (w : World) (S : Sta) (k : Nat) (f : Value) (F : List D → Tr D) : Prop :=
 ∀ (A : Around) (stk : List Env) (K : Kn) (s : Shared) (vs : List Value) (ds : List D) (Q E : Value → Shared → Prop), Ar A stk k → St S stk K s → Reps S K vs ds →
  Rx S stk s K (F ds) Q E → wpAny (model prog w) A (call f vs []) Q E s
noncomputable def KeepOk (prog : Program) (w : World) (S : Sta) (f : Value) : Prop :=
 ∀ h, S.B.StaysIn h → ∃ k, (k = Keeper.frame ∨ k = Keeper.machine ∨ k = Keeper.boundFrame) ∧ Looks (model prog w) h (keeperOf f) k
noncomputable def GlobIs (S : Sta) (x : Str) (v : Value) : Prop := S.mg x = some v ∨ (S.mg x = none ∧ S.mb x = some v)
noncomputable def toldF : List D → Tr D
 | [.ord c d s o i m] => .ok (.tup [.int c, .int d, .int s, .int o, .int i, .int m])
 | _ => .bad
noncomputable def LamOk (S : Sta) (env : Env) : Prop := ∃ c P, env.code = .ref c ∧ (c, P, env.qual ++ "<lambda>") ∈ S.tabs ∧ CodeHd S.B c P
structure KindOk (S : Sta) (T : Tab) (sc : Scope) (env : Env) : Prop where
 kind : ∀ x, match sc.names.lookup x with
  | some .local => env.kindOf x = some .local
  | some .cell => env.kindOf x = some .cell
  | some .free => env.kindOf x = some .cell ∨ env.kindOf x = some .free
  | some .globalImplicit => env.kindOf x = some .globalImplicit
  | _ => True
 lam : T.heard = true → LamOk S env
noncomputable def SoundE (prog : Program) (w : World) (S : Sta) (T : Tab) (k n : Nat) : Prop :=
 ∀ (sc : Scope) (e : PySem.Expr) (m : Loc) (env : Env) (A : Around) (stk : List Env) (K : Kn) (s : Shared) (Q : Value → Shared → Prop) (E : Value → Shared → Prop),
  Ar A stk k → St S stk K s → Lc S stk env m K s.heap → KindOk S T sc env → Rx S stk s K (ev T n sc e m) Q E → wpAny (model prog w) A (eval e env) Q E s
structure TabOk (prog : Program) (w : World) (S : Sta) (T : Tab) (k : Nat) : Prop where
 con : ∀ x d, T.con x = some d → ∃ v, GlobIs S x v ∧ ∀ K, Rep S K v d
 fn : ∀ x F, T.fn x = some F → ∃ f, GlobIs S x f ∧ KeepOk prog w S f ∧ FnSpec prog w S k f F ∧ (x == ("__debug__" : Str)) = false
 told : ∃ f, findIn S.K (.ref S.cO) "told" = some (some (.ref f)) ∧ isFn S.K (.ref f) = true ∧ KeepOk prog w S (.ref f) ∧ FnSpec prog w S k (.ref f) toldF
structure ClsOk (S : Sta) : Prop where
 get : ∀ x, plainGet S.K S.cO x = true
 dict : hasDictIn S.K S.cO = true
 code : findIn S.K (.ref S.cO) "code" = some none
 dst : findIn S.K (.ref S.cO) "dst" = some none
 src : findIn S.K (.ref S.cO) "src" = some none
 off : findIn S.K (.ref S.cO) "off" = some none
 imm : findIn S.K (.ref S.cO) "imm" = some none
 more : findIn S.K (.ref S.cO) "more" = some none
 range : GlobIs S "range" (.type "range")
 enumerate : GlobIs S "enumerate" (.type "enumerate")
 zip : GlobIs S "zip" (.type "zip")
variable {A : Around} {stk : List Env} {K K' : Kn} {s : Shared} {env : Env} {m : Loc} {Q : Value → Shared → Prop} {E : Value → Shared → Prop} {sc : Scope} {n : Nat}
theorem Good.here {v : Value} {d : D} {tk : Tok} (T : St S stk K s) (g : Good S stk s K d Q) (r : Rep S K v d) : Q v { s with toks := tk } :=
 g v K { s with toks := tk } (T.tok tk) (ExtP.refl _) (KExt.refl _ _) r
theorem Good.here0 {v : Value} {d : D} (T : St S stk K s) (g : Good S stk s K d Q) (r : Rep S K v d) : Q v s :=
 g v K s T (ExtP.refl _) (KExt.refl _ _) r
theorem Good.push {d : D} {o : Obj} (H : StaOk S) (T : St S stk K s) (g : Good S stk s K d Q) (ho : o.isFreed = false) (tk : Tok) (r : Rep S (K.put s.heap.objs.size o) (.ref s.heap.objs.size) d) : Q (.ref s.heap.objs.size) { s with heap := s.heap.push o, toks := tk } :=
 g _ _ _ (T.push H ho tk) (ExtP.keeps fun J J e => Heap.get?_push_of_some _ e) (KExt.put (new_none _) (T.kNone (new_none _))) r
theorem Good.after {d : D} {s₁ : Shared} {K₁ : Kn} (x : Ext S stk s.heap s₁.heap) (kx : KExt s.heap K K₁) (g : Good S stk s K d Q) : Good S stk s₁ K₁ d Q :=
 fun v K' s' T x' kx' r => g v K' s' T (x.trans x') (kx.trans x kx') r
theorem FlyX.after {h h₁ h₂ : Heap} {e dx : Addr} {wt : Str} {a : D} {P : Addr → Prop} {oe : Obj} {vs : Array Value} (x : ExtP S stk P h h₁) (f : FlyX S stk h₁ e wt a h₂ oe vs dx) : FlyX S stk h e wt a h₂ oe vs dx :=
 ⟨x.none f.new, f.ob, f.cls, f.dict, f.data, f.size, f.dob, f.fix, f.ctx⟩
theorem Trc.after {h h₁ h₂ : Heap} {e : Addr} {P : Addr → Prop} {fl head : Value} (x : ExtP S stk P h h₁) (f : Trc h₁ h₂ e fl head) : Trc h h₂ e fl head := by
 obtain ⟨T, oT, ts, a, b, c1, c2, c3, c4, c5⟩ := f
 exact ⟨T, oT, ts, a, x.none b, c1, c2, c3, c4, c5⟩
theorem Fly.after {h h₁ h₂ : Heap} {e : Addr} {wt : Str} {a : D} {P : Addr → Prop} (x : ExtP S stk P h h₁) (f : Fly S stk h₁ e wt a h₂) : Fly S stk h e wt a h₂ := by
 obtain ⟨oe, vs, dx, f, r⟩ := f
 refine ⟨oe, vs, dx, f.after x, r.imp id ?_⟩
 intro hI0
 refine abs1 fun G0 hG0 => ?_
 obtain ⟨fl, head, b1, b2, b⟩ := hI0
 refine hG0 ?_
 clear hG0 G0
 exact ⟨fl, head, b1, b2.after x, b⟩
theorem Fall.after {wt : Str} {a : D} {s₁ : Shared} {K₁ : Kn} (x : Ext S stk s.heap s₁.heap) (kx : KExt s.heap K K₁) (g : Fall S stk s K wt a E) : Fall S stk s₁ K₁ wt a E :=
 fun e s' T x' f => g e s' (T.more fun a o q => by
  refine .inl ?_
  exact kx.1 a o q) (x.trans x') (f.after x)
theorem Rx.after {r : Tr D} {s₁ : Shared} {K₁ : Kn} (x : Ext S stk s.heap s₁.heap) (kx : KExt s.heap K K₁) (g : Rx S stk s K r Q E) : Rx S stk s₁ K₁ r Q E :=
 Tr.sat_mono (fun J h => h.after x kx) (fun J J h => h.after x kx) r g
theorem step1 {r : Tr D} {f : D → Tr D} {Q₁ : Value → Shared → Prop} (h : Rx S stk s K (r.bind f) Q E)
  (hq : ∀ v d K' s', Rx S stk s' K' (f d) Q E → St S stk K' s' → Ext S stk s.heap s'.heap → KExt s.heap K K' → Rep S K' v d → Q₁ v s') : Rx S stk s K r Q₁ E := by
 unfold Rx at h ⊢
 rw [Tr.sat_bind] at h
 refine Tr.sat_mono (fun d hd => ?_) (fun J J q => q) r h
 intro v K' s' T' x kx rp
 exact hq v d K' s' (Rx.after x kx hd) T' x kx rp
theorem kind_any (o : Option NameKind) : match o with
  | some .local => o = some .local
  | some .cell => o = some .cell
  | some .free => o = some .cell ∨ o = some .free
  | some .globalImplicit => o = some .globalImplicit
  | _ => True := by
 induction o using Option.casesOn with
 | none => trivial
 | some k =>
  induction k using NameKind.casesOn with
  | free => exact .inr rfl
  | globalExplicit => trivial
  | _ => rfl
theorem KindOk.self {env : Env} (h : T.heard = true → LamOk S env) : KindOk S T env.scope env := ⟨fun x => kind_any (env.scope.names.lookup x), h⟩
theorem ev_name {x : Str} {p : Pos} : ev T (n + 1) sc (.Name x p) m = (match x == ("__debug__" : Str) || x == ("__classdict__" : Str), sc.names.lookup x with
   | true, _ => .bad
   | _, some .globalImplicit => match T.con x with | some d => .ok d | none => .bad
   | _, some .globalExplicit => .bad
   | _, some _ => match m.lookup x with | some d => .ok d | none => .bad
   | _, none => .bad) := rfl
theorem name_sound (H : StaOk S) (TO : TabOk prog w S T k) (TS : St S stk K s) (X : Lc S stk env m K s.heap) (ko : KindOk S T sc env) {x : Str} {p : Pos}
  (h : Rx S stk s K (ev T (n + 1) sc (.Name x p) m) Q E) : wpAny (model prog w) A (eval (.Name x p) env) Q E s := by
 rw [ev_name] at h
 have kx := ko.kind x
 cases hd : (x == ("__debug__" : Str) || x == ("__classdict__" : Str)) with
 | true => rw [hd] at h; exact h.elim
 | false =>
 rw [hd] at h
 rw [Bool.or_eq_false_iff] at hd
 cases hk : sc.names.lookup x with
 | none => rw [hk] at h; exact h.elim
 | some q =>
  rw [hk] at kx
  induction q using PySem.NameKind.casesOn with
  | globalExplicit => rw [hk] at h; exact h.elim
  | globalImplicit =>
   rw [hk] at h
   cases hc : T.con x with
   | none => rw [hc] at h; exact h.elim
   | some d =>
    rw [hc] at h
    obtain ⟨v, hv, rv⟩ := TO.con x d hc
    have g : Good S stk s K d Q := h
    refine Name_function_global X.kind kx ?_ hd.1
    rcases hv with hv | ⟨h1, h2⟩
    ·exact loadGlobal_global (X.glob ▸ H.g.keeps TS.stays) hv (g.here0 TS (rv K))
    ·exact loadGlobal_builtin (X.glob ▸ H.g.keeps TS.stays) h1 (X.blt ▸ H.b.keeps TS.stays) h2 (g.here0 TS (rv K))
  | «local» =>
   rw [hk] at h
   cases hc : m.lookup x with
   | none => rw [hc] at h; exact h.elim
   | some d =>
    rw [hc] at h
    have g : Good S stk s K d Q := h
    obtain ⟨mv, hn, hm⟩ := X.ns
    obtain ⟨v, hv, rv⟩ := hm x d hc kx
    exact wpAny_Name (wpAny_loadName_local X.kind kx hn hv (g.here0 TS rv)) hd.1
  | cell =>
   rw [hk] at h
   cases hc : m.lookup x with
   | none => rw [hc] at h; exact h.elim
   | some d =>
    rw [hc] at h
    have g : Good S stk s K d Q := h
    obtain ⟨c, v, q1, q2, rv⟩ := X.cel x d hc (.inl kx)
    exact wpAny_Name (wpAny_loadName_cell X.kind kx q1 q2 (g.here0 TS rv)) hd.1
  | free =>
   rw [hk] at h
   cases hc : m.lookup x with
   | none => rw [hc] at h; exact h.elim
   | some d =>
    rw [hc] at h
    have g : Good S stk s K d Q := h
    obtain ⟨c, v, q1, q2, rv⟩ := X.cel x d hc kx
    refine wpAny_Name ?_ hd.1
    rcases kx with kx | kx
    ·exact wpAny_loadName_cell X.kind kx q1 q2 (g.here0 TS rv)
    ·exact wpAny_loadName_free X.kind kx q1 q2 (g.here0 TS rv) hd.2
theorem const_sound (TS : St S stk K s) {c : Const} {j : Nat} {p : Pos} (h : Rx S stk s K (ev T (n + 1) sc (.Constant c j p) m) Q E) : wpAny (model prog w) A (eval (.Constant c j p) env) Q E s := by
 cases c with
 | none => exact wpAny_Constant_none (Good.here0 TS h .none)
 | bool b => exact wpAny_Constant_bool (Good.here0 TS h (.bool b))
 | int i => exact wpAny_Constant_int (Good.here TS h (.int i _))
 | str x => exact wpAny_Constant_str (Good.here TS h (.str x _))
 | _ => exact h.elim
theorem tru_sound {v : Value} {d : D} {Qb : Bool → Shared → Prop} (r : Rep S K v d) (h : (tru d).sat (fun b => Qb b s) (fun J J => False)) : wpAny (model prog w) A (truthy v) Qb E s := by
 induction d using D.casesOn with
 | bool b => obtain rfl := r.bool_v; exact wpAny_truthy_bool h
 | int i => obtain ⟨t, rfl⟩ := r.int_v; exact PyProof.Rows.truthy_int h
 | none => obtain rfl := r.none_v; exact fun J J J => h
 | _ => exact h.elim
theorem tru_sat {d : D} {P : Bool → Prop} {Eb : Str → D → Prop} (h : (tru d).sat P Eb) : (tru d).sat P (fun J J => False) := by
 cases d <;> first | exact h | exact h.elim
theorem when_sat {b : Bool} {d : D} {P : D → Prop} {Eb : Str → D → Prop} (h : (when b d).sat P Eb) : b = true ∧ P d := by
 induction b using Bool.casesOn with
 | true => exact ⟨rfl, h.1 rfl⟩
 | false => exact (h.2 rfl).elim
theorem bits_of_small {a : Int} (h : smallI a = true) : Builtin.Int.intBits a ≤ 64 := by
 have h' : a.natAbs < 2 ^ 63 := of_decide_eq_true h
 unfold Builtin.Int.intBits
 split
 ·lia
 ·rename_i hz
  have : a.natAbs.log2 < 63 := (Nat.log2_lt (by intro q; simp at hz; lia)).mpr h'
  lia
theorem pylong_small {a b : Int} (h : smallI b = true) : Builtin.divisionGoesByPylong a b = false := by
 have h' := bits_of_small h
 unfold Builtin.Int.intBits at h'
 unfold Builtin.divisionGoesByPylong
 have : ¬ ((if (b == 0) = true then 0 else b.natAbs.log2 / 30 + 1) > 300) := by
  split
  ·lia
  ·rename_i hz
   rw [if_neg hz] at h'
   lia
 simp only [decide_eq_false this, Bool.false_and]
theorem fr0 (H : StaOk S) (TS : St S stk K s) : Fr (⟨#[], {}⟩ : Heap) mainGlobals s.heap S.mg :=
 ⟨H.g.keeps TS.stays, fun b o e => by simp [Heap.get?] at e, Nat.zero_le _⟩
theorem bop_inv {P : D → Prop} {E : Str → D → Prop} {r : PySem.Expr} {op : Operator} {a b : D} (h : (bop r op a b).sat P E) : (∃ i j, a = .int i ∧ b = .int j) ∨ (op = .Add ∧ ((∃ x y, a = .str x ∧ b = .str y) ∨ (∃ x y, a = .bytes x ∧ b = .bytes y) ∨ ∃ x y, a = .list x ∧ b = .list y)) := by
 cases op <;> first | exact h.elim | (cases a <;> first | exact h.elim | (cases b <;> first | exact h.elim | exact .inl ⟨_, _, rfl, rfl⟩ | exact .inr ⟨rfl, .inl ⟨_, _, rfl, rfl⟩⟩ | exact .inr ⟨rfl, .inr (.inl ⟨_, _, rfl, rfl⟩)⟩ | exact .inr ⟨rfl, .inr (.inr ⟨_, _, rfl, rfl⟩)⟩))
theorem bop_sound (H : StaOk S) (TS : St S stk K s) {r : PySem.Expr} {op : Operator} {v u : Value} {a b : D} (ra : Rep S K v a) (rb : Rep S K u b) (h : Rx S stk s K (bop r op a b) Q E) :
  wpAny (model prog w) A (binaryOp op v u) Q E s := by
 unfold Rx at h
 rcases bop_inv h with ⟨i, j, rfl, rfl⟩ | ⟨rfl, ⟨x, y, rfl, rfl⟩ | ⟨x, y, rfl, rfl⟩ | ⟨ds, ds', rfl, rfl⟩⟩
 ·obtain ⟨t, rfl⟩ := ra.int_v
  obtain ⟨t', rfl⟩ := rb.int_v
  induction op using PySem.Operator.casesOn with
  | Add => exact PyProof.Rows.add_int (Good.here TS h (.int _ _))
  | Sub => exact PyProof.Rows.sub_int (Good.here TS h (.int _ _))
  | Mult =>
   obtain ⟨hc, g⟩ := when_sat h
   refine PyProof.Rows.mul_int (Good.here TS g (.int _ _)) ?_
   cases hl : isLit r with
   | true => rw [hl] at hc; exact .of_right (bits_of_small hc)
   | false => rw [hl] at hc; exact .of_left (bits_of_small hc)
  | FloorDiv =>
   obtain ⟨hc, g⟩ := when_sat h
   rw [Bool.and_eq_true] at hc
   exact floordiv_int (by simpa using hc.1) (Good.here TS g (.int _ _)) (.inl (pylong_small hc.2))
  | Mod =>
   obtain ⟨hc, g⟩ := when_sat h
   exact mod_int' (by simpa using hc) (Good.here TS g (.int _ _))
  | Pow =>
   obtain ⟨hc, g⟩ := when_sat h
   simp only [Bool.and_eq_true, decide_eq_true_eq] at hc
   refine pow_int_small hc.1.1 (by lia) ?_ (Good.here TS g (.int _ _))
   have := of_decide_eq_true (show decide (i.natAbs < 2 ^ 63) = true from hc.2)
   lia
  | LShift =>
   obtain ⟨hc, g⟩ := when_sat h
   simp only [Bool.and_eq_true, decide_eq_true_eq] at hc
   refine lshift_int_small hc.1.1 (by lia) ?_ (Good.here TS g (.int _ _))
   have := of_decide_eq_true (show decide (i.natAbs < 2 ^ 63) = true from hc.2)
   lia
  | RShift =>
   obtain ⟨hc, g⟩ := when_sat h
   exact rshift_int (of_decide_eq_true hc) (Good.here TS g (.int _ _))
  | BitAnd => exact and_int (Good.here TS h (.int _ _))
  | _ => exact h.elim
 ·obtain ⟨t, rfl⟩ := ra.str_v
  obtain ⟨t', rfl⟩ := rb.str_v
  obtain ⟨hc, g⟩ := when_sat h
  have hc' := of_decide_eq_true hc
  exact PyProof.Rows.add_str (fun t'' tk => Good.here TS g (.str _ _)) (by rw [sizeLine_eq]; unfold cap at hc'; lia)
 ·obtain ⟨x, t, rfl, rfl⟩ := ra.bytes_v
  obtain ⟨y, t', rfl, rfl⟩ := rb.bytes_v
  obtain ⟨hc, g⟩ := when_sat h
  have hc' := of_decide_eq_true hc
  rw [KBw.ints_length, KBw.ints_length] at hc'
  refine KBy.add_bytes (by unfold cap at hc'; lia) fun t'' tk => ?_
  have e : KBw.bInts (x ++ y) = KBw.bInts x ++ KBw.bInts y := KBw.ints_app rfl rfl
  exact Good.here TS g (e ▸ .bytes _ _)
 ·obtain ⟨l, vs, n, rfl, ha, rs⟩ := ra.list_v
  obtain ⟨l', vs', n', rfl, hb, rs'⟩ := rb.list_v
  obtain ⟨hc, g⟩ := when_sat h
  have hc' := of_decide_eq_true hc
  rw [← rs.length, ← rs'.length] at hc'
  obtain ⟨ea, fa⟩ := TS.kin _ _ ha
  obtain ⟨eb, fb⟩ := TS.kin _ _ hb
  refine concat_meets ⟨_, ea, rfl⟩ ⟨_, eb, rfl⟩ noFill_list_add seq_list_add PySem.F.slot_list_add PySem.F.entry_list_add (PySem.F.args_list_add_2 _ _)
   (list_addW l l' vs.toArray vs'.toArray n n' none none #[] #[] (by rw [sizeLine_eq]; simp; unfold cap at hc'; lia)) ⟨ea, eb, ?_⟩
  rw [show vs.toArray ++ vs'.toArray = (vs ++ vs').toArray by simp]
  refine Good.push H TS g rfl _ (.list (n := 0) (Kn.put_self _ _ _) ((rs.append rs').mono (Kn.put_old (TS.kNone (new_none _)))))
end
section
variable {prog : Program} {w : World} {S : Sta} {T : Tab} {k : Nat}
variable {A : Around} {stk : List Env} {K K' : Kn} {s : Shared} {env : Env} {m : Loc} {Q : Value → Shared → Prop} {E : Value → Shared → Prop} {sc : Scope} {n : Nat}
theorem uop_sound (TS : St S stk K s) {op : UnaryOp} {v : Value} {a : D} (ra : Rep S K v a) (h : Rx S stk s K (uop op a) Q E) :
  wpAny (model prog w) A (unaryOp op v) Q E s := by
 unfold Rx at h
 cases op with
 | Not =>
  have h' : (tru a).sat (fun b => Good S stk s K (.bool (!b)) Q) (fun wt d => Fall S stk s K wt d E) := (Tr.sat_bind _ _).mp h
  refine not_value (tru_sound ra (tru_sat (Tr.sat_mono (fun b g => ?_) (fun J J q => q) _ h')))
  exact Good.here0 TS g (.bool _)
 | USub => induction a using D.casesOn with
  | int i => obtain ⟨t, rfl⟩ := ra.int_v; exact PyProof.Rows.neg_int (Good.here TS h (.int _ _))
  | _ => exact h.elim
 | Invert => induction a using D.casesOn with
  | int i => obtain ⟨t, rfl⟩ := ra.int_v; exact invert_int (Good.here TS h (.int _ _))
  | _ => exact h.elim
 | UAdd => cases ra <;> exact h.elim
theorem toPy_list {ds : List D} {ps : List PyData} (q : toPys ds = some ps) : toPy (.list ds) = some (.list ps) := by
 show (match toPys ds with | some ps => some (PyData.list ps) | none => none) = _
 rw [q]
theorem toPy_tup {ds : List D} {ps : List PyData} (q : toPys ds = some ps) : toPy (.tup ds) = some (.tuple ps) := by
 show (match toPys ds with | some ps => some (PyData.tuple ps) | none => none) = _
 rw [q]
mutual
theorem rep_reads {h : Heap} (kin : ∀ a o, K a = some o → h.get? a = some o) {v : Value} {d : D} {p : PyData} (q0 : Rep S K v d) (e : toPy d = some p) : ∃ as, Reads h v p as := by
 induction q0 using Rg.Rep.casesOn with
 | none => exact (Option.some.inj (show some PyData.none = some p from e)) ▸ ⟨_, .none⟩
 | bool b => exact (Option.some.inj (show some (PyData.bool b) = some p from e)) ▸ ⟨_, .bool b⟩
 | int i t => exact (Option.some.inj (show some (PyData.int i) = some p from e)) ▸ ⟨_, .int i t⟩
 | str x t => exact (Option.some.inj (show some (PyData.str x) = some p from e)) ▸ ⟨_, .str x t⟩
 | list ha r =>
  rename_i ds
  have e : (match toPys ds with | some ps => some (PyData.list ps) | none => none) = some p := e
  cases q : toPys ds with
  | none => rw [q] at e; exact absurd e.symm (Option.some_ne_none _)
  | some ps =>
   rw [q] at e
   obtain ⟨as, z⟩ := reps_reads kin r q
   exact (Option.some.inj e) ▸ ⟨_, reads_list_at (kin _ _ ha) rfl rfl (by simpa using z)⟩
 | tup ha r =>
  rename_i ds
  have e : (match toPys ds with | some ps => some (PyData.tuple ps) | none => none) = some p := e
  cases q : toPys ds with
  | none => rw [q] at e; exact absurd e.symm (Option.some_ne_none _)
  | some ps =>
   rw [q] at e
   obtain ⟨as, z⟩ := reps_reads kin r q
   exact (Option.some.inj e) ▸ ⟨_, reads_tuple_at (kin _ _ ha) rfl rfl (by simpa using z)⟩
 | _ => exact absurd (show (Option.none : Option PyData) = some p from e).symm (Option.some_ne_none _)
theorem reps_reads {h : Heap} (kin : ∀ a o, K a = some o → h.get? a = some o) {vs : List Value} {ds : List D} {ps : List PyData} (q0 : Reps S K vs ds) (e : toPys ds = some ps) : ∃ as, ReadsAll h vs ps as := by
 induction q0 using Rg.Reps.casesOn with
 | nil => exact (Option.some.inj (show some ([] : List PyData) = some ps from e)) ▸ ⟨_, .nil⟩
 | cons ha r =>
  rename_i d ds
  have e : (match toPy d, toPys ds with | some p, some ps => some (p :: ps) | _, _ => none) = some ps := e
  cases q : toPy d with
  | none => rw [q] at e; exact absurd e.symm (Option.some_ne_none _)
  | some p =>
   cases q' : toPys ds with
   | none => rw [q, q'] at e; exact absurd e.symm (Option.some_ne_none _)
   | some ps =>
    rw [q, q'] at e
    obtain ⟨as, z⟩ := rep_reads kin ha q
    obtain ⟨bs, z'⟩ := reps_reads kin r q'
    exact (Option.some.inj e) ▸ ⟨_, .cons z z'⟩
end
theorem St.reads (TS : St S stk K s) {v : Value} {d : D} {p : PyData} (r : Rep S K v d) (e : toPy d = some p) : ∃ as, Reads s.heap v p as := rep_reads (fun a o q => (TS.kin a o q).1) r e
theorem lst_is (TS : St S stk K s) {a : Addr} {vs : List Value} {j : Nat} (e : K a = some { cls := .type "list", data := .seq vs.toArray j }) : s.heap.IsList a vs.toArray := ⟨_, (TS.kin _ _ e).1, rfl, _, rfl⟩
theorem tup_is (TS : St S stk K s) {a : Addr} {vs : List Value} {j : Nat} (e : K a = some { cls := .type "tuple", data := .seq vs.toArray j }) : IsTup s.heap a vs.toArray := ⟨_, (TS.kin _ _ e).1, rfl, _, rfl⟩
noncomputable def EqOrd (prog : Program) (w : World) (S : Sta) : Prop :=
 ∀ (A : Around) (stk : List Env) (K : Kn) (s : Shared) (x : Addr) (c d s' o i m : Int) (y : Str) (t : Tok) (Q E : Value → Shared → Prop), A.units + 80 < cLine → St S stk K s → Rep S K (.ref x) (.ord c d s' o i m) → Q (.bool false) s →
  wpAny (model prog w) A (richCompare .Eq (.ref x) (.str y t)) Q E s
inductive DeqS (P : Bool → Prop) : D → D → Prop
 | int : ∀ i j, P (i == j) → DeqS P (.int i) (.int j)
 | str : ∀ x y, P (x == y) → DeqS P (.str x) (.str y)
 | ls : ∀ l y, P false → DeqS P (.list l) (.str y)
 | ts : ∀ l y, P false → DeqS P (.tup l) (.str y)
 | os : ∀ c d s o i m y, P false → DeqS P (.ord c d s o i m) (.str y)
 | li : ∀ l j, P false → DeqS P (.list l) (.int j)
 | gen : ∀ a b p q, toPy a = some p → toPy b = some q → SeqAt.shaped p = true → SeqAt.shaped q = true → P (PyData.eqv p q) → DeqS P a b
theorem deq_shape {a b : D} {P : Bool → Prop} {Eb : Str → D → Prop} (h : (deq a b).sat P Eb) : DeqS P a b := by
 have gen : ∀ a b : D, (match toPy a, toPy b with | some p, some q => (Tr.br (SeqAt.shaped p && SeqAt.shaped q) (.ok (PyData.eqv p q)) .bad) | _, _ => Tr.bad).sat P Eb → DeqS P a b := fun a b h => by
  cases qa : toPy a with
  | none => rw [qa] at h; exact h.elim
  | some p =>
   cases qb : toPy b with
   | none => rw [qa, qb] at h; exact h.elim
   | some q =>
    rw [qa, qb] at h
    cases hs : (SeqAt.shaped p && SeqAt.shaped q) with
    | false => exact (h.2 hs).elim
    | true =>
     obtain ⟨h1, h2⟩ := Bool.and_eq_true_iff.mp hs
     exact .gen _ _ p q qa qb h1 h2 (h.1 hs)
 induction a using D.casesOn with
 | int i =>
  induction b using D.casesOn with
  | int => exact .int _ _ h
  | _ => exact gen _ _ h
 | str x =>
  induction b using D.casesOn with
  | str => exact .str _ _ h
  | _ => exact gen _ _ h
 | list l =>
  induction b using D.casesOn with
  | str => exact .ls _ _ h
  | int => exact .li _ _ h
  | _ => exact gen _ _ h
 | tup l =>
  induction b using D.casesOn with
  | str => exact .ts _ _ h
  | _ => exact gen _ _ h
 | ord =>
  induction b using D.casesOn with
  | str => exact .os _ _ _ _ _ _ _ h
  | _ => exact gen _ _ h
 | _ => exact gen _ _ h
theorem eq_sound (EO : EqOrd prog w S) (TS : St S stk K s) (hu : A.units + 80 < cLine) {v u : Value} {a b : D} (ra : Rep S K v a) (rb : Rep S K u b) (h : (deq a b).sat (fun c => Q (.bool c) s) (fun J J => False)) :
  wpAny (model prog w) A (compareOp .Eq v u) Q E s := by
 have hu' : A.units < cLine := by lia
 have z := deq_shape h
 clear h
 induction z using DeqS.casesOn with
 | int i j h => obtain ⟨_, rfl⟩ := ra.int_v; obtain ⟨_, rfl⟩ := rb.int_v; exact PyProof.Rows.eq_int h
 | str x y h => obtain ⟨_, rfl⟩ := ra.str_v; obtain ⟨_, rfl⟩ := rb.str_v; exact PyProof.Rows.eq_str h
 | ls l y h => obtain ⟨_, _, _, rfl, ha, r⟩ := ra.list_v; obtain ⟨_, rfl⟩ := rb.str_v; exact SeqAt.RcAt.list_str _ _ (lst_is TS ha) hu' prog w E Q h
 | ts l y h => obtain ⟨_, _, _, rfl, ha, r⟩ := ra.tup_v; obtain ⟨_, rfl⟩ := rb.str_v; exact SeqAt.RcAt.tuple_str _ _ (tup_is TS ha) hu' prog w E Q h
 | os c d s' o i m y h => have ra' := ra; obtain ⟨_, _, _, _, rfl, h1, h2, he⟩ := ra.ord_v; obtain ⟨_, rfl⟩ := rb.str_v; exact EO A stk K s _ c d s' o i m y _ Q E hu TS ra' h
 | li l j h => obtain ⟨_, _, _, rfl, ha, r⟩ := ra.list_v; obtain ⟨_, rfl⟩ := rb.int_v; exact SeqAt.RcAt.list_int _ _ (lst_is TS ha) hu' prog w E Q h
 | gen a b p q ea eb sa sb h =>
  obtain ⟨as, za⟩ := TS.reads ra ea
  obtain ⟨bs, zb⟩ := TS.reads rb eb
  exact eq_dataH za zb sa sb (by lia) h
theorem ne_sound (TS : St S stk K s) (hu : A.units + 80 < cLine) {v u : Value} {a b : D} (ra : Rep S K v a) (rb : Rep S K u b) (hn : ∀ c d s o i m, a ≠ .ord c d s o i m) (h : (deq a b).sat (fun c => Q (.bool (!c)) s) (fun J J => False)) :
  wpAny (model prog w) A (compareOp .NotEq v u) Q E s := by
 have hu' : A.units < cLine := by lia
 have z := deq_shape h
 clear h
 induction z using DeqS.casesOn with
 | int i j h => obtain ⟨_, rfl⟩ := ra.int_v; obtain ⟨_, rfl⟩ := rb.int_v; exact PyProof.Rows.ne_int h
 | str x y h => obtain ⟨_, rfl⟩ := ra.str_v; obtain ⟨_, rfl⟩ := rb.str_v; exact PyProof.Rows.ne_str h
 | ls l y h => obtain ⟨_, _, _, rfl, ha, r⟩ := ra.list_v; obtain ⟨_, rfl⟩ := rb.str_v; exact SeqAt.RcNeAt.list_str _ _ (lst_is TS ha) hu' prog w E Q h
 | ts l y h => obtain ⟨_, _, _, rfl, ha, r⟩ := ra.tup_v; obtain ⟨_, rfl⟩ := rb.str_v; exact SeqAt.RcNeAt.tuple_str _ _ (tup_is TS ha) hu' prog w E Q h
 | os => exact absurd rfl (hn _ _ _ _ _ _)
 | li l j h => obtain ⟨_, _, _, rfl, ha, r⟩ := ra.list_v; obtain ⟨_, rfl⟩ := rb.int_v; exact SeqAt.RcNeAt.list_int _ _ (lst_is TS ha) hu' prog w E Q h
 | gen a b p q ea eb sa sb h =>
  obtain ⟨as, za⟩ := TS.reads ra ea
  obtain ⟨bs, zb⟩ := TS.reads rb eb
  exact ne_dataH za zb sa sb (by lia) h
theorem din_inv {a : D} {l : List D} {F : List PyData → PyData} {P : Bool → Prop} {Eb : Str → D → Prop} (h : (match toPy a, toPys l with | some p, some ps => Tr.br (SeqAt.shaped p && SeqAt.shaped (F ps)) (.ok (ps.any fun y => PyData.eqv y p)) .bad | _, _ => .bad).sat P Eb) :
  ∃ p ps, toPy a = some p ∧ toPys l = some ps ∧ SeqAt.shaped p = true ∧ SeqAt.shaped (F ps) = true ∧ P (ps.any fun y => PyData.eqv y p) := by
 cases qa : toPy a with
 | none => rw [qa] at h; exact h.elim
 | some p =>
  cases qb : toPys l with
  | none => rw [qa, qb] at h; exact h.elim
  | some ps =>
   rw [qa, qb] at h
   cases hs : (SeqAt.shaped p && SeqAt.shaped (F ps)) with
   | false => exact (h.2 hs).elim
   | true =>
    obtain ⟨h1, h2⟩ := Bool.and_eq_true_iff.mp hs
    exact ⟨p, ps, rfl, rfl, h1, h2, h.1 hs⟩
theorem din_sound (TS : St S stk K s) (hu : A.units + 80 < cLine) {v u : Value} {a b : D} (ra : Rep S K v a) (rb : Rep S K u b) (h : (din a b).sat (fun c => Q (.bool c) s) (fun J J => False)) :
  wpAny (model prog w) A (compareOp .In v u) Q E s := by
 induction b using D.casesOn with
 | list ds =>
  obtain ⟨l, vs, j, rfl, ha, r⟩ := rb.list_v
  obtain ⟨p, ps, qa, qb, hs1, hs2, h⟩ := din_inv (F := .list) h
  obtain ⟨as, za⟩ := TS.reads ra qa
  obtain ⟨bs, zb⟩ := TS.reads (Rep.list ha r) (toPy_list qb)
  have h1 := SeqAt.canLay_of_shaped hs2
  have h2 := SeqAt.depth_of_shaped hs1
  refine SeqAt.in_list_reads zb za (by simpa [PyData.canLay0] using h1) (SeqAt.canLay_of_shaped hs1) ?_ h
  have := Nat.min_le_right (PyData.depthAll ps) p.depth
  lia
 | tup ds =>
  obtain ⟨l, vs, j, rfl, ha, r⟩ := rb.tup_v
  obtain ⟨p, ps, qa, qb, hs1, hs2, h⟩ := din_inv (F := .tuple) h
  obtain ⟨as, za⟩ := TS.reads ra qa
  obtain ⟨bs, zb⟩ := TS.reads (Rep.tup ha r) (toPy_tup qb)
  have h1 := SeqAt.canLay_of_shaped hs2
  have h2 := SeqAt.depth_of_shaped hs1
  refine SeqAt.in_tuple_reads zb za (by simpa [PyData.canLay0] using h1) (SeqAt.canLay_of_shaped hs1) ?_ h
  have := Nat.min_le_right (PyData.depthAll ps) p.depth
  lia
 | _ => exact h.elim
theorem dnotin_sound (TS : St S stk K s) (hu : A.units + 80 < cLine) {v u : Value} {a b : D} (ra : Rep S K v a) (rb : Rep S K u b) (h : (din a b).sat (fun c => Q (.bool (!c)) s) (fun J J => False)) :
  wpAny (model prog w) A (compareOp .NotIn v u) Q E s := by
 induction b using D.casesOn with
 | list ds =>
  obtain ⟨l, vs, j, rfl, ha, r⟩ := rb.list_v
  obtain ⟨p, ps, qa, qb, hs1, hs2, h⟩ := din_inv (F := .list) h
  obtain ⟨as, za⟩ := TS.reads ra qa
  obtain ⟨bs, zb⟩ := TS.reads (Rep.list ha r) (toPy_list qb)
  have h1 := SeqAt.canLay_of_shaped hs2
  have h2 := SeqAt.depth_of_shaped hs1
  refine SeqAt.notIn_list_reads zb za (by simpa [PyData.canLay0] using h1) (SeqAt.canLay_of_shaped hs1) ?_ h
  have := Nat.min_le_right (PyData.depthAll ps) p.depth
  lia
 | tup ds =>
  obtain ⟨l, vs, j, rfl, ha, r⟩ := rb.tup_v
  obtain ⟨p, ps, qa, qb, hs1, hs2, h⟩ := din_inv (F := .tuple) h
  obtain ⟨as, za⟩ := TS.reads ra qa
  obtain ⟨bs, zb⟩ := TS.reads (Rep.tup ha r) (toPy_tup qb)
  have h1 := SeqAt.canLay_of_shaped hs2
  have h2 := SeqAt.depth_of_shaped hs1
  refine SeqAt.notIn_tuple_reads zb za (by simpa [PyData.canLay0] using h1) (SeqAt.canLay_of_shaped hs1) ?_ h
  have := Nat.min_le_right (PyData.depthAll ps) p.depth
  lia
 | _ => exact h.elim
theorem deq_sat {a b : D} {P : Bool → Prop} {Eb : Str → D → Prop} (h : (deq a b).sat P Eb) : (deq a b).sat P (fun J J => False) := by
 have gen : ∀ a b : D, (match toPy a, toPy b with | some p, some q => (Tr.br (SeqAt.shaped p && SeqAt.shaped q) (.ok (PyData.eqv p q)) .bad) | _, _ => Tr.bad).sat P Eb → (match toPy a, toPy b with | some p, some q => (Tr.br (SeqAt.shaped p && SeqAt.shaped q) (.ok (PyData.eqv p q)) .bad) | _, _ => Tr.bad).sat P (fun J J => False) := fun a b h => by
  cases qa : toPy a with
  | none => rw [qa] at h; exact h.elim
  | some p =>
   cases qb : toPy b with
   | none => rw [qa, qb] at h; exact h.elim
   | some q => rw [qa, qb] at h; exact h
 induction a using D.casesOn with
 | _ =>
  induction b using D.casesOn with
  | _ => first | exact gen _ _ h | exact h
theorem din_sat {a b : D} {P : Bool → Prop} {Eb : Str → D → Prop} (h : (din a b).sat P Eb) : (din a b).sat P (fun J J => False) := by
 have gen : ∀ (l : List D) (F : List PyData → PyData), (match toPy a, toPys l with | some p, some ps => Tr.br (SeqAt.shaped p && SeqAt.shaped (F ps)) (.ok (ps.any fun y => PyData.eqv y p)) .bad | _, _ => .bad).sat P Eb → (match toPy a, toPys l with | some p, some ps => Tr.br (SeqAt.shaped p && SeqAt.shaped (F ps)) (.ok (ps.any fun y => PyData.eqv y p)) .bad | _, _ => .bad).sat P (fun J J => False) := fun l F h => by
  obtain ⟨p, ps, qa, qb, h1, h2, h⟩ := din_inv h
  rw [qa, qb]
  exact ⟨fun J => h, fun z => by rw [h1, h2] at z; exact no_tf z⟩
 induction b using D.casesOn with
 | list l => exact gen l .list h
 | tup l => exact gen l .tuple h
 | _ => exact h.elim
theorem cop_sound (EO : EqOrd prog w S) (TS : St S stk K s) (hu : A.units + 80 < cLine) {op : CmpOp} {v u : Value} {a b : D} {Eb : Str → D → Prop} (ra : Rep S K v a) (rb : Rep S K u b) (h : (cop op a b).sat (fun c => Q (.bool c) s) Eb) :
  wpAny (model prog w) A (compareOp op v u) Q E s := by
 induction op using PySem.CmpOp.casesOn with
 | Eq => exact eq_sound EO TS hu ra rb (deq_sat h)
 | NotEq =>
  have key : (∀ c d s o i m, a ≠ .ord c d s o i m) → (deq a b).sat (fun c => Q (.bool (!c)) s) Eb → wpAny (model prog w) A (compareOp .NotEq v u) Q E s := fun hn h' =>
   ne_sound TS hu ra rb hn (deq_sat h')
  induction a using D.casesOn with
  | ord => exact h.elim
  | _ => exact key (fun J J J J J J q => by cases q) ((Tr.sat_bind _ _).mp h)
 | Lt => cases ra <;> first | exact h.elim | (cases rb <;> first | exact h.elim | exact PyProof.Rows.lt_int h)
 | LtE => cases ra <;> first | exact h.elim | (cases rb <;> first | exact h.elim | exact PyProof.Rows.le_int h)
 | Gt => cases ra <;> first | exact h.elim | (cases rb <;> first | exact h.elim | exact PyProof.Rows.gt_int h)
 | GtE => cases ra <;> first | exact h.elim | (cases rb <;> first | exact h.elim | exact PyProof.Rows.ge_int h)
 | In => exact din_sound TS hu ra rb (din_sat h)
 | NotIn => exact dnotin_sound TS hu ra rb (din_sat ((Tr.sat_bind _ _).mp h))
 | Is => exact h.elim
 | IsNot => exact h.elim
end
noncomputable def GP (S : Sta) (Q : Value → Shared → Prop) (d : D) (K' : Kn) (s' : Shared) : Prop := ∀ v, Rep S K' v d → Q v s'
noncomputable def RxG {α : Type} (S : Sta) (stk : List Env) (s : Shared) (K : Kn) (r : Tr α) (G : α → Kn → Shared → Prop) (E : Value → Shared → Prop) : Prop :=
 r.sat (fun a => ∀ K' s', St S stk K' s' → Ext S stk s.heap s'.heap → KExt s.heap K K' → G a K' s') (fun w a => Fall S stk s K w a E)
section
variable {prog : Program} {w : World} {S : Sta} {T : Tab} {k : Nat}
variable {A : Around} {stk : List Env} {K K' : Kn} {s : Shared} {env : Env} {m : Loc} {Q : Value → Shared → Prop} {E : Value → Shared → Prop} {sc : Scope} {n : Nat}
variable {α β : Type}
theorem RxG.after {r : Tr α} {G : α → Kn → Shared → Prop} {s₁ : Shared} {K₁ : Kn} (x : Ext S stk s.heap s₁.heap) (kx : KExt s.heap K K₁) (g : RxG S stk s K r G E) : RxG S stk s₁ K₁ r G E :=
 Tr.sat_mono (fun J h K' s' T x' kx' => h K' s' T (x.trans x') (kx.trans x kx')) (fun J J h => h.after x kx) r g
theorem rx_g {r : Tr D} : Rx S stk s K r Q E ↔ RxG S stk s K r (GP S Q) E :=
 ⟨fun h => Tr.sat_mono (fun J h K' s' T x kx v rp => h v K' s' T x kx rp) (fun J J q => q) r h, fun h => Tr.sat_mono (fun J h v K' s' T x kx rp => h K' s' T x kx v rp) (fun J J q => q) r h⟩
theorem RxG.step {r : Tr α} {f : α → Tr β} {G : β → Kn → Shared → Prop} {G₁ : α → Kn → Shared → Prop} (h : RxG S stk s K (r.bind f) G E)
  (hq : ∀ a K' s', RxG S stk s' K' (f a) G E → St S stk K' s' → Ext S stk s.heap s'.heap → KExt s.heap K K' → G₁ a K' s') : RxG S stk s K r G₁ E := by
 unfold RxG at h ⊢
 rw [Tr.sat_bind] at h
 exact Tr.sat_mono (fun a ha K' s' T' x kx => hq a K' s' (RxG.after x kx ha) T' x kx) (fun J J q => q) r h
theorem RxG.stepV {r : Tr D} {f : D → Tr β} {G : β → Kn → Shared → Prop} {Q₁ : Value → Shared → Prop} (h : RxG S stk s K (r.bind f) G E)
  (hq : ∀ v d K' s', RxG S stk s' K' (f d) G E → St S stk K' s' → Ext S stk s.heap s'.heap → KExt s.heap K K' → Rep S K' v d → Q₁ v s') : Rx S stk s K r Q₁ E :=
 rx_g.mpr (h.step fun d K' s' g T x kx v rp => hq v d K' s' g T x kx rp)
theorem RxG.mono {r : Tr α} {G G' : α → Kn → Shared → Prop} {E' : Value → Shared → Prop} (h : RxG S stk s K r G E) (hg : ∀ a K' s', G a K' s' → G' a K' s') (he : ∀ v s', E v s' → E' v s') : RxG S stk s K r G' E' :=
 Tr.sat_mono (fun a q K' s' T x kx => hg a K' s' (q K' s' T x kx)) (fun J J q e s' T x f => he _ _ (q e s' T x f)) r h
theorem RxG.ok {a : α} {G : α → Kn → Shared → Prop} (T : St S stk K s) (h : RxG S stk s K (.ok a) G E) : G a K s := h K s T (ExtP.refl _) (KExt.refl _ _)
theorem RxG.br {b : Bool} {x y : Tr α} {G : α → Kn → Shared → Prop} (h : RxG S stk s K (.br b x y) G E) : (b = true ∧ RxG S stk s K x G E) ∨ (b = false ∧ RxG S stk s K y G E) := by
 induction b using Bool.casesOn with
 | true => exact .inl ⟨rfl, h.1 rfl⟩
 | false => exact .inr ⟨rfl, h.2 rfl⟩
theorem RxG.when {b : Bool} {d : D} {G : D → Kn → Shared → Prop} (h : RxG S stk s K (when b d) G E) : b = true ∧ RxG S stk s K (.ok d) G E := by
 rcases RxG.br h with ⟨a, q⟩ | ⟨a, q⟩
 ·exact ⟨a, q⟩
 ·exact q.elim
theorem St.KIn (H : StaOk S) (TS : St S stk K s) : S.K.In s.heap := fun a o e => TS.stays a o (H.kin a o e)
theorem attr_sound (H : StaOk S) (CO : ClsOk S) (TS : St S stk K s) {v : Value} {d : D} {a : Str} {ex : Bool} (rv : Rep S K v d) (h : Rx S stk s K (dattr d a) Q E) : wpAny (model prog w) A (getAttr v a ex) Q E s := by
 induction d using D.casesOn with
 | ord c d' s' o i m' =>
  obtain ⟨x, dx, es, n, rfl, h1, h2, he⟩ := rv.ord_v
  have I : W.InstAt s.heap x ⟨.ref S.cO, some dx, .plain, #[]⟩ S.cO (some (dictOf es n)) := ⟨(TS.kin _ _ h1).1, rfl, rfl, (TS.kin _ _ h2).1⟩
  have go : ∀ {z : Int} {nm : Str}, findIn S.K (.ref S.cO) nm = some none → (∃ t, W.getL nm es = some (some (.int z t))) → Good S stk s K (.int z) Q → wpAny (model prog w) A (getAttr (.ref x) nm ex) Q E s := by
   intro z nm hf ⟨t, ht⟩ g
   exact get_value (St.KIn H TS) I (plainGet_of (CO.get nm)).1 (findObj_own CO.dict hf rfl ht) rfl (Good.here TS g (.int z t))
  have pk : ∀ {b : Bool} {x y : Tr D}, Rx S stk s K (pickB b x y) Q E → (b = true ∧ Rx S stk s K x Q E) ∨ (b = false ∧ Rx S stk s K y Q E) := by
   intro b x y h
   induction b using Bool.casesOn with
   | true => exact .inl ⟨rfl, h⟩
   | false => exact .inr ⟨rfl, h⟩
  rcases pk h with ⟨q, h⟩ | ⟨_, h⟩
  ·rw [beq_iff_eq] at q; subst q; exact go CO.code he.code h
  rcases pk h with ⟨q, h⟩ | ⟨_, h⟩
  ·rw [beq_iff_eq] at q; subst q; exact go CO.dst he.dst h
  rcases pk h with ⟨q, h⟩ | ⟨_, h⟩
  ·rw [beq_iff_eq] at q; subst q; exact go CO.src he.src h
  rcases pk h with ⟨q, h⟩ | ⟨_, h⟩
  ·rw [beq_iff_eq] at q; subst q; exact go CO.off he.off h
  rcases pk h with ⟨q, h⟩ | ⟨_, h⟩
  ·rw [beq_iff_eq] at q; subst q; exact go CO.imm he.imm h
  rcases pk h with ⟨q, h⟩ | ⟨_, h⟩
  ·rw [beq_iff_eq] at q; subst q; exact go CO.more he.more h
  exact h.elim
 | _ => exact h.elim
theorem nonslice {slice : PySem.Expr} {o i : Value} (h : ∀ l u st p, slice ≠ .Slice l u st p) : subscripted slice false o i = operate [o, i] (getItem o i) := by
 cases slice <;> first | rfl | exact absurd rfl (h _ _ _ _)
theorem allI_get {xs : List D} (h : allI xs = true) {j : Nat} {x : D} (e : xs[j]? = some x) : ∃ i, x = .int i := by
 induction xs generalizing j with
 | nil => simp at e
 | cons y r ih =>
  induction y using D.casesOn with
  | int i =>
   induction j using Nat.casesOn with
   | zero => simp at e; exact ⟨i, e.symm⟩
   | succ j => simp at e; exact ih h e
  | _ => exact no_ft h
theorem dind_sound (TS : St S stk K s) {value slice : PySem.Expr} {v u : Value} {d i : D} (ns : ∀ l u st p, slice ≠ .Slice l u st p) (rv : Rep S K v d) (ru : Rep S K u i) (h : Rx S stk s K (dind value slice d i) Q E) :
  wpAny (model prog w) A (subscriptTail value slice v u) Q E s := by
 induction rv using Rg.Rep.casesOn with
 | list ha rs =>
  induction ru using Rg.Rep.casesOn with
  | int i t =>
   rename_i l vs n' xs
   have L := lst_is TS ha
   have go : ∀ {x : D}, 0 ≤ i → i < 2 ^ 63 → xs[i.toNat]? = some x → Good S stk s K x Q → wpAny (model prog w) A (subscriptTail value slice (.ref l) (.int i t)) Q E s := by
    intro x h0 h1 hx g
    obtain ⟨v, hv, rp⟩ := rs.get hx
    exact tail_any L.typeIs slot_list_getitem.lookup (wpAny_getItem_list L h0 h1 (by simpa using hv) (Good.here0 TS g rp)) (nonslice ns)
   unfold dind at h
   dsimp only at h
   cases q : isLit slice with
   | true =>
    rw [q] at h
    dsimp only at h
    cases q1 : (decide (0 ≤ i) && decide (i < 1000)) with
    | false => rw [q1] at h; exact h.elim
    | true =>
     cases q2 : xs[i.toNat]? with
     | none => rw [q1, q2] at h; exact h.elim
     | some x =>
      rw [q1, q2] at h
      simp only [Bool.and_eq_true, decide_eq_true_eq] at q1
      exact go q1.1 (by lia) q2 h
   | false =>
    rw [q] at h
    dsimp only at h
    cases q1 : isMenu value with
    | true =>
     rw [q1] at h
     rcases RxG.br (rx_g.mp h) with ⟨c, h⟩ | ⟨c, h⟩
     ·simp only [Bool.and_eq_true, decide_eq_true_eq] at c
      obtain ⟨⟨⟨c1, c2⟩, c3⟩, c4⟩ := c
      have hlt : i.toNat < xs.length := by lia
      obtain ⟨z, hz⟩ := allI_get c4 (List.getElem?_eq_getElem hlt)
      unfold cap at c3
      have e : xs[i.toNat]? = some (.int z) := by rw [List.getElem?_eq_getElem hlt, hz]
      refine go c1 (by lia) e ?_
      have e2 : (xs.map intOf).getD i.toNat 0 = z := by rw [List.getD_eq_getElem?_getD, List.getElem?_map, e]; rfl
      rw [e2] at h
      exact rx_g.mpr h
     ·exact h.elim
    | false =>
     rw [q1] at h
     obtain ⟨c, g⟩ := when_sat h
     simp only [Bool.and_eq_true, decide_eq_true_eq] at c
     obtain ⟨⟨c1, c2⟩, c3⟩ := c
     have hlt : i.toNat < xs.length := by lia
     unfold cap at c3
     refine go c1 (by lia) (List.getElem?_eq_getElem hlt) ?_
     have e2 : xs.getD i.toNat .none = xs[i.toNat] := by simp [List.getD, hlt]
     rw [e2] at g
     exact g
  | _ => exact h.elim
 | tup ha rs =>
  induction ru using Rg.Rep.casesOn with
  | int i t =>
   rename_i l vs n' xs
   have L := tup_is TS ha
   unfold dind at h
   dsimp only at h
   cases q : isLit slice with
   | true =>
    rw [q] at h
    dsimp only at h
    cases q1 : (decide (0 ≤ i) && decide (i < 1000)) with
    | false => rw [q1] at h; exact h.elim
    | true =>
     cases q2 : xs[i.toNat]? with
     | none => rw [q1, q2] at h; exact h.elim
     | some x =>
      rw [q1, q2] at h
      simp only [Bool.and_eq_true, decide_eq_true_eq] at q1
      obtain ⟨v, hv, rp⟩ := rs.get q2
      have hlt : i.toNat < xs.length := (List.getElem?_eq_some_iff.mp q2).1
      have hlen := rs.length
      exact tail_any L.typeIs slot_tuple_getitem.lookup (getItem_tuple L (by lia) (by lia) (j := i.toNat) (seqIndex_of q1.1 (by simp; lia)) (by simpa using hv) (Good.here0 TS h rp)) (nonslice ns)
   | false => rw [q] at h; exact h.elim
  | _ => exact h.elim
 | bytes b t =>
  induction i using D.casesOn with
  | int i =>
   obtain ⟨t', rfl⟩ := ru.int_v
   obtain ⟨c, g⟩ := when_sat (show (Rg.when _ _).sat _ _ from h)
   simp only [Bool.and_eq_true, decide_eq_true_eq] at c
   obtain ⟨⟨c1, c2⟩, c3⟩ := c
   rw [KBw.ints_length] at c2 c3
   unfold cap at c3
   refine tail_any (typeIs_bytes _ _ _) W.FB.slot_bytes_getitem.lookup ?_ (nonslice ns)
   have e : b = b.toList.toArray := by simp
   have e3 : wpAny (model prog w) A (getItem (.bytes b.toList.toArray t) (.int i t')) Q E s := by
    refine getItem_bytes (by simp; lia) c1 (by simpa using c2) ?_
    have e2 := KBw.getD_ints b.toList i.toNat
    rw [e2]
    exact Good.here TS g (.int _ _)
   simpa using e3
  | _ => exact h.elim
 | _ => cases ru <;> exact h.elim
theorem cut_elim {α : Type} (xs : List α) (lo hi : Option Int) : cut xs lo hi = (xs.drop (lo.elim 0 (clipAt xs.length))).take (hi.elim xs.length (clipAt xs.length) - lo.elim 0 (clipAt xs.length)) := by
 have h := (kms_bounds lo hi xs.length).symm.trans (sliceBounds_plain lo hi xs.length)
 have h1 := (Prod.mk.inj h).1
 have h2 := (Prod.mk.inj (Prod.mk.inj h).2).1
 unfold cut
 rw [Int.ofNat_inj.mp h1, Int.ofNat_inj.mp h2]
theorem cut_pick (vs : List Value) (lo hi : Option Int) : slicePick vs.toArray lo hi none = (cut vs lo hi).toArray := by
 unfold slicePick cut
 rw [show vs.toArray.size = vs.length by simp, kms_bounds]
 simp only [sliceRange_one, pick_run]
theorem Reps.cut {vs : List Value} {ds : List D} (r : Reps S K vs ds) (lo hi : Option Int) : Reps S K (cut vs lo hi) (cut ds lo hi) := by
 unfold Rg.cut
 rw [r.length]
 exact (r.drop _).take _
theorem dsl_sound (H : StaOk S) (TS : St S stk K s) {value : PySem.Expr} {p : Pos} {l h' : Option PySem.Expr} {v vl vh : Value} {d : D} {lo hi : Option Int} (pl : IsPart vl lo) (ph : IsPart vh hi) (rv : Rep S K v d) (h : Rx S stk s K (dsl d lo hi) Q E) :
  wpAny (model prog w) A (subscriptTail value (.Slice l h' none p) v (.ref s.heap.objs.size)) Q E { s with heap := s.heap.push { cls := .type "slice", data := .fields #[vl, vh, .none] } } := by
 have T2 := TS.grow H (h' := s.heap.push { cls := .type "slice", data := .fields #[vl, vh, .none] }) (fun J J e => Heap.get?_push_of_some _ e) s.toks
 have x2 : Ext S stk s.heap (s.heap.push { cls := .type "slice", data := .fields #[vl, vh, .none] }) := ExtP.keeps (fun J J e => Heap.get?_push_of_some _ e)
 have I2 := Heap.IsSliceOf.new s.heap vl vh .none
 induction d using D.casesOn with
 | list xs =>
  obtain ⟨a, vs, n', rfl, ha, rs⟩ := rv.list_v
  obtain ⟨c, g⟩ := when_sat (show (Rg.when _ _).sat _ _ from h)
  have c' := of_decide_eq_true c
  rw [← rs.length] at c'
  unfold cap at c'
  have L := lst_is T2 ha
  refine tail_any (o := .ref a) L.typeIs slot_list_getitem.lookup ?_ rfl
  refine wpAny_getItem_list_slice (s := { s with heap := s.heap.push { cls := .type "slice", data := .fields #[vl, vh, .none] } }) L I2 pl ph .none (fun e => nomatch e) ?_ (by rw [sizeLine_eq]; simp; lia)
  rw [cut_pick]
  exact Good.push (s := { s with heap := s.heap.push { cls := .type "slice", data := .fields #[vl, vh, .none] } }) H T2 (g.after x2 (KExt.refl _ _)) rfl _ (.list (n := 0) (Kn.put_self _ _ _) ((rs.cut lo hi).mono (Kn.put_old (T2.kNone (new_none _)))))
 | bytes b0 =>
  obtain ⟨b, t, rfl, rfl⟩ := rv.bytes_v
  obtain ⟨c, g⟩ := when_sat (show (Rg.when _ _).sat _ _ from h)
  have c' := of_decide_eq_true c
  rw [KBw.ints_length] at c'
  unfold cap at c'
  refine tail_any (o := .bytes b t) (typeIs_bytes _ _ _) W.FB.slot_bytes_getitem.lookup ?_ rfl
  refine getItem_meets (typeIs_bytes _ _ _) (by decide) W.FB.slot_bytes_getitem W.FB.entry_bytes_getitem (W.FB.args_bytes_getitem_2 _ _) (KBc.meets_slice2 b t _ pl ph)
   ⟨I2, Nat.le_trans (KBc.size_picked_le b lo hi) (by rw [sizeLine_eq]; lia), fun t' k => ?_⟩
  refine Good.here (s := { s with heap := s.heap.push { cls := .type "slice", data := .fields #[vl, vh, .none] } }) T2 (g.after x2 (KExt.refl _ _)) ?_
  have e := KBc.ints_picked (b := b) rfl lo hi
  rw [← cut_elim] at e
  exact e ▸ .bytes _ _
 | str x =>
  obtain ⟨t, rfl⟩ := rv.str_v
  obtain ⟨c, g⟩ := when_sat (show (Rg.when _ _).sat _ _ from h)
  have c' := of_decide_eq_true c
  unfold cap at c'
  have kh : KeptH (fun h'' => ∀ b o, s.heap.get? b = some o → h''.get? b = some o) := fun J J q b o e => Heap.get?_push_of_some _ (q b o e)
  have fin : ∀ h'' t' k, (∀ b o, s.heap.get? b = some o → h''.get? b = some o) → Q (.str (Txt.slice x lo hi) t') { s with heap := h'', toks := k } := fun h'' t' k q =>
   g _ _ _ (TS.grow H q k) (ExtP.keeps q) (KExt.refl _ _) (.str _ _)
  have hz : x.length ≤ sizeLine := by rw [sizeLine_eq]; lia
  have it : ItemOn (model prog w) A E (.str x t) (.ref s.heap.objs.size) Q { s with heap := s.heap.push { cls := .type "slice", data := .fields #[vl, vh, .none] } } := by
   cases pl <;> cases ph
   ·exact SBH.sliceItem_nn kh (fun J J e => e) fin hz
   ·exact SBH.sliceItem_ns kh (fun J J e => e) fin hz
   ·exact SBH.sliceItem_sn kh (fun J J e => e) fin hz
   ·exact SBH.sliceItem_ss kh (fun J J e => e) fin hz
  obtain ⟨T, id, hl, hT, hg⟩ := it
  exact tail_any hT hl hg rfl
 | _ => exact h.elim
end
section
variable {prog : Program} {w : World} {S : Sta} {T : Tab} {k : Nat}
variable {A : Around} {stk : List Env} {K K' : Kn} {s : Shared} {env : Env} {m : Loc} {Q : Value → Shared → Prop} {E : Value → Shared → Prop} {sc : Scope} {n : Nat}
variable {α β : Type}
theorem starEach_cons {e : PySem.Expr} {r : List PySem.Expr} (h : starE e = false) : starEach (e :: r) env = (false, eval e env) :: starEach r env := by
 cases e <;> first | rfl | exact no_tf h
theorem noStars_cons {e : PySem.Expr} {r : List PySem.Expr} (h : noStars (e :: r) = true) : starE e = false ∧ noStars r = true := by
 have h : (match starE e with | true => false | false => noStars r) = true := h
 cases q : starE e with
 | true => rw [q] at h; exact no_ft h
 | false => rw [q] at h; exact ⟨rfl, h⟩
theorem noStars_any {pos : Pos} : ∀ {es : List PySem.Expr}, noStars es = true → (backTo pos (starEach es env)).any (·.1) = false
 | [], _ => rfl
 | e :: r, h => by
  obtain ⟨a, b⟩ := noStars_cons h
  rw [starEach_cons a]
  show (false || (backTo pos (starEach r env)).any (·.1)) = false
  rw [noStars_any b]
  rfl
theorem evL_sound (IE : SoundE prog w S T k n) (ar : Ar A stk k) (ko : KindOk S T sc env) {pos : Pos} : ∀ {es : List PySem.Expr} {K : Kn} {s : Shared} {Q : List Value → Shared → Prop}, noStars es = true → St S stk K s → Lc S stk env m K s.heap →
  RxG S stk s K (evL (fun e => ev T n sc e m) es) (fun ds K' s' => ∀ vs, Reps S K' vs ds → Q vs s') E → wpAny (model prog w) A (spliced (backTo pos (starEach es env))) Q E s
 | [], K, s, Q, _, TS, X, h => wpAny_items_nil (RxG.ok TS h _ .nil)
 | e :: r, K, s, Q, hn, TS, X, h => by
  obtain ⟨h1, h2⟩ := noStars_cons hn
  refine wpAny_items_cons ?_ (starEach_cons h1)
  refine IE sc e m env A stk K s _ E ar TS X ko (RxG.stepV h fun v d K₁ s₁ h₁ T₁ x₁ k₁ r₁ => ?_)
  refine evL_sound IE ar ko h2 T₁ (X.ext x₁ k₁) (RxG.step h₁ fun ds K₂ s₂ h₂ T₂ x₂ k₂ vs rs => ?_)
  exact RxG.ok T₂ h₂ _ (.cons (r₁.mono k₂.1) rs)
theorem evLs_sat {f : PySem.Expr → Tr D} {es : List PySem.Expr} {G : List D → Kn → Shared → Prop} (h : RxG S stk s K (evLs f es) G E) : noStars es = true ∧ es.length < 30 ∧ RxG S stk s K (evL f es) G E := by
 unfold evLs at h
 cases q : noStars es with
 | false => rw [q] at h; exact h.elim
 | true =>
  cases q' : decide (es.length < 30) with
  | false => rw [q, q'] at h; exact h.elim
  | true => rw [q, q'] at h; exact ⟨rfl, of_decide_eq_true q', h⟩
theorem evLs_bind {f : PySem.Expr → Tr D} {g : List D → Tr β} {es : List PySem.Expr} {G : β → Kn → Shared → Prop} (h : RxG S stk s K ((evLs f es).bind g) G E) : noStars es = true ∧ es.length < 30 ∧ RxG S stk s K ((evL f es).bind g) G E := by
 unfold evLs at h
 cases q : noStars es with
 | false => rw [q] at h; exact h.elim
 | true =>
  cases q' : decide (es.length < 30) with
  | false => rw [q, q'] at h; exact h.elim
  | true => rw [q, q'] at h; exact ⟨rfl, of_decide_eq_true q', h⟩
theorem args_sound (IE : SoundE prog w S T k n) (ar : Ar A stk k) (ko : KindOk S T sc env) {pos : Pos} {f : Value} {es : List PySem.Expr} {Q : Args → Shared → Prop} (hn : noStars es = true) (TS : St S stk K s) (X : Lc S stk env m K s.heap)
  (h : RxG S stk s K (evL (fun e => ev T n sc e m) es) (fun ds K' s' => ∀ vs, Reps S K' vs ds → Q ⟨vs, []⟩ s') E) : wpAny (model prog w) A (evalArgs f true (backTo pos (starEach es env)) []) Q E s := by
 induction es using List.casesOn with
 | nil => exact evalArgs_nil3 (RxG.ok TS h _ .nil)
 | cons e r =>
  have q := evL_sound (pos := pos) IE ar ko hn TS X h
  rw [starEach_cons (noStars_cons hn).1] at q ⊢
  exact evalArgs_plain q
theorem list_sound (H : StaOk S) (IE : SoundE prog w S T k n) (ar : Ar A stk k) (ko : KindOk S T sc env) (TS : St S stk K s) (X : Lc S stk env m K s.heap) {es : List PySem.Expr} {p : Pos}
  (h : Rx S stk s K (ev T (n + 1) sc (.List es p) m) Q E) : wpAny (model prog w) A (eval (.List es p) env) Q E s := by
 have h : Rx S stk s K ((evLs (fun e => ev T n sc e m) es).bind fun ds => when (decide (ds.length ≤ cap)) (.list ds)) Q E := h
 obtain ⟨h1, h2, h⟩ := evLs_bind (rx_g.mp h)
 refine wpAny_List (evL_sound IE ar ko h1 TS X (RxG.step h fun ds K₂ s₂ h₂ T₂ x₂ k₂ vs rs => ?_))
 obtain ⟨c, g⟩ := RxG.when h₂
 have c' := of_decide_eq_true c
 unfold cap at c'
 refine ⟨by rw [sizeLine_eq, rs.length]; lia, ?_⟩
 exact Good.push H T₂ (rx_g.mpr g) rfl _ (.list (n := 0) (Kn.put_self _ _ _) (rs.mono (Kn.put_old (T₂.kNone (new_none _)))))
theorem tuple_sound (H : StaOk S) (IE : SoundE prog w S T k n) (ar : Ar A stk k) (ko : KindOk S T sc env) (TS : St S stk K s) (X : Lc S stk env m K s.heap) {es : List PySem.Expr} {j : Nat} {p : Pos}
  (h : Rx S stk s K (ev T (n + 1) sc (.Tuple es j p) m) Q E) : wpAny (model prog w) A (eval (.Tuple es j p) env) Q E s := by
 have h : Rx S stk s K ((evLs (fun e => ev T n sc e m) es).bind fun ds => when (decide (ds.length ≤ cap)) (.tup ds)) Q E := h
 obtain ⟨h1, h2, h⟩ := evLs_bind (rx_g.mp h)
 refine wpAny_Tuple (evL_sound IE ar ko h1 TS X (RxG.step h fun ds K₂ s₂ h₂ T₂ x₂ k₂ vs rs => ?_))
 obtain ⟨c, g⟩ := RxG.when h₂
 have c' := of_decide_eq_true c
 unfold cap at c'
 refine ⟨by rw [sizeLine_eq, rs.length]; lia, ?_⟩
 exact Good.push H T₂ (rx_g.mpr g) rfl _ (.tup (n := 0) (Kn.put_self _ _ _) (rs.mono (Kn.put_old (T₂.kNone (new_none _)))))
theorem spec_call {f : Value} {F : List D → Tr D} {vs : List Value} {ds : List D} (FS : FnSpec prog w S k f F) (ar : Ar A stk k) (TS : St S stk K s) (rs : Reps S K vs ds) (h : Rx S stk s K (F ds) Q E) : wpAny (model prog w) A (call f vs []) Q E s :=
 FS A stk K s vs ds Q E ar TS rs h
theorem global_sound (H : StaOk S) (TS : St S stk K s) (X : Lc S stk env m K s.heap) {x : Str} {p : Pos} {v : Value} (kx : env.kindOf x = some .globalImplicit) (hd : (x == ("__debug__" : Str)) = false) (hv : GlobIs S x v) (h : Q v s) :
  wpAny (model prog w) A (eval (.Name x p) env) Q E s := by
 refine Name_function_global X.kind kx ?_ hd
 rcases hv with hv | ⟨h1, h2⟩
 ·exact loadGlobal_global (X.glob ▸ H.g.keeps TS.stays) hv h
 ·exact loadGlobal_builtin (X.glob ▸ H.g.keeps TS.stays) h1 (X.blt ▸ H.b.keeps TS.stays) h2 h
theorem call_sound (H : StaOk S) (TO : TabOk prog w S T k) (IE : SoundE prog w S T k n) (ar : Ar A stk k) (ko : KindOk S T sc env) (TS : St S stk K s) (X : Lc S stk env m K s.heap) {x : Str} {p pos : Pos} {as : List PySem.Expr} {F : List D → Tr D}
  (hk : sc.names.lookup x = some .globalImplicit) (hF : T.fn x = some F)
  (h : Rx S stk s K ((evLs (fun e => ev T n sc e m) as).bind F) Q E) : wpAny (model prog w) A (eval (.Call (.Name x p) as [] pos) env) Q E s := by
 obtain ⟨h1, h2, h⟩ := evLs_bind (rx_g.mp h)
 obtain ⟨f, hf, hkeep, FS, hd⟩ := TO.fn x F hF
 have kx := ko.kind x
 rw [hk] at kx
 show wpAny _ _ (eval (.Name x p) env >>= fun f => callWith pos f [] (backTo pos (starEach as env)) (backToKw pos (keywordEach [] env))) _ _ s
 refine wpAny_bind (global_sound H TS X kx hd hf ?_)
 refine callWith_of (P := fun h => S.B.StaysIn h) (by rw [noStars_any h1]; rfl) hkeep ?_
 refine args_sound IE ar ko h1 TS X (RxG.step h fun ds K₂ s₂ h₂ T₂ x₂ k₂ vs rs => ⟨T₂.stays, ?_⟩)
 exact spec_call FS ar T₂ rs (rx_g.mpr h₂)
theorem rx_pick {b : Bool} {x y : Tr D} (h : Rx S stk s K (pickB b x y) Q E) : (b = true ∧ Rx S stk s K x Q E) ∨ (b = false ∧ Rx S stk s K y Q E) := by
 induction b using Bool.casesOn with
 | true => exact .inl ⟨rfl, h⟩
 | false => exact .inr ⟨rfl, h⟩
theorem ints_of {vs : List Value} {xs : List D} (r : Reps S K vs xs) (h : allI xs = true) : IntsAre vs (intsOf xs) := by
 induction vs generalizing xs with
 | nil => cases r; exact .nil
 | cons v vs ih =>
  cases r with
  | cons a r =>
   induction a using Rg.Rep.casesOn with
   | int i t => exact .cons i t (ih r h)
   | _ => exact no_ft h
theorem base_eq {o : PySem.Expr} {name : Str} (h : baseOk o = true) : attributeBase o name env (eval o env) = eval o env := by
 cases o <;> first | rfl | exact no_ft h
theorem plain_form {args : List PySem.Expr} {pos : Pos} {env : Env} (hn : noStars args = true) (hz : args.length < 30) : methodCallForm (args.length + ([] : List Keyword).length) (backTo pos (starEach args env)) (backToKw pos (keywordEach [] env)) = true := by
 have hall : ∀ (l : List PySem.Expr), noStars l = true → (backTo pos (starEach l env)).all (fun x => !x.1) = true := by
  intro l hl
  induction l with
  | nil => rfl
  | cons e r ih =>
   obtain ⟨a, b⟩ := noStars_cons hl
   rw [starEach_cons a]
   exact ih b
 show ((backTo pos (starEach args env)).all (fun x => !x.1) && true && decide (args.length + 0 < 30)) = true
 rw [hall _ hn]
 exact decide_eq_true hz
theorem plain_pos {o : PySem.Expr} {env : Env} {apos pos : Pos} (hl : (apos.endLine == pos.line) = true) : methodCallPos true o env apos pos = pure pos := by unfold methodCallPos; simp [hl]
theorem method_step {o : PySem.Expr} {name : Str} {apos pos : Pos} {args : List PySem.Expr} (hb : baseOk o = true) (hl : (apos.endLine == pos.line) = true) (hn : noStars args = true) (hz : args.length < 30)
  (h : wpAny (model prog w) A (eval o env) (fun ov s₁ => ∀ pl, wpAny (model prog w) A (getMethod ov name pl) (fun fx s₂ => wpAny (model prog w) A (callWith pos fx.1 fx.2 (backTo pos (starEach args env)) []) Q E s₂) E s₁) E s) :
  wpAny (model prog w) A (eval (.Call (.Attribute o name apos) args [] pos) env) Q E s := by
 rw [arm_eval_Call, base_eq hb]
 refine wpAny_bind (wpAny_mono h (fun ov s₁ h₁ => ?_) fun J J e => e)
 refine wpAny_bind (wpAny_standAt ?_)
 unfold methodCall
 rw [plain_form hn hz]
 refine wpAny_bind (wpAny_holding ?_)
 unfold calleeOf
 rw [if_pos rfl]
 refine wpAny_mono (h₁ _) (fun fx s₂ h₂ => ?_) fun J J e => e
 exact wpAny_bind (wpAny_of_eq (plain_pos hl) h₂)
theorem keeps_builtin {M : Model} (id : String) (h : Heap) (_ : True) : ∃ k, (k = Keeper.frame ∨ k = Keeper.machine ∨ k = Keeper.boundFrame) ∧ Looks M h (keeperOf (.builtin id)) k :=
 ⟨.machine, .inr (.inl rfl), Looks.now⟩
theorem dmeth_sound (H : StaOk S) (CO : ClsOk S) (TO : TabOk prog w S T k) (IE : SoundE prog w S T k n) (ar : Ar A stk k) (ko : KindOk S T sc env) (TS : St S stk K s) (X : Lc S stk env m K s.heap) {name : Str} {pos : Pos} {args : List PySem.Expr} {pl : Sem Bool} {v : Value} {d : D} (rv : Rep S K v d)
  (h : Rx S stk s K (methT d name args ((evLs (fun e => ev T n sc e m) args).bind fun ds => dmeth d name ds)) Q E) :
  wpAny (model prog w) A (getMethod v name pl) (fun fx s₂ => wpAny (model prog w) A (callWith pos fx.1 fx.2 (backTo pos (starEach args env)) []) Q E s₂) E s := by
 rcases rx_pick h with ⟨ok, h⟩ | ⟨_, h⟩
 rotate_left
 ·exact h.elim
 obtain ⟨h1, h2, h⟩ := evLs_bind (rx_g.mp h)
 induction args using List.casesOn with
 | nil =>
  have h' : Rx S stk s K (dmeth d name []) Q E := rx_g.mpr h
  induction d using D.casesOn with
  | str x =>
   obtain ⟨t, rfl⟩ := rv.str_v
   obtain ⟨c, g⟩ := when_sat (show (Rg.when _ _).sat _ _ from h')
   rw [Bool.and_eq_true, beq_iff_eq] at c
   obtain ⟨rfl, c⟩ := c
   have c' := of_decide_eq_true c
   unfold cap at c'
   refine abs1 fun G0 hG0 => ?_
   obtain ⟨T', id, pa, slot, hty, hT, hd, hc⟩ := SB.strip (prog := prog) (w := w) (A := A) (E := E) (s := s) (x := x) (t := t) (pos := pos) (Q := Q) (fun t' k => Good.here TS g (.str _ _)) (by rw [sizeLine_eq]; lia)
   refine hG0 ?_
   clear hG0 G0
   exact getMethod_builtin hT pa slot hty hd hc
  | ord c d' s' o i m' =>
   obtain ⟨x, dx, es, n', rfl, k1, k2, he⟩ := rv.ord_v
   rcases rx_pick h' with ⟨q, g⟩ | ⟨_, g⟩
   ·rw [beq_iff_eq] at q
    rw [q]
    obtain ⟨f, f1, f2, f3, f4⟩ := TO.told
    have I : W.InstAt s.heap x ⟨.ref S.cO, some dx, .plain, #[]⟩ S.cO (some (dictOf es n')) := ⟨(TS.kin _ _ k1).1, rfl, rfl, (TS.kin _ _ k2).1⟩
    refine method_fn (St.KIn H TS) I (plainGet_of (CO.get "told")).1 (plainGet_of (CO.get "told")).2 f1 (beq_iff_eq.mp f2) (by show (W.getL "told" es).map (·.isSome) = some false; rw [he.told]; rfl) ?_
    refine callWith_of (P := fun h => S.B.StaysIn h) rfl f3 (evalArgs_nil3 ⟨TS.stays, ?_⟩)
    exact spec_call f4 ar TS (.cons (.ord k1 k2 he) .nil) g
   ·exact g.elim
  | _ => exact h'.elim
 | cons e r =>
  induction r using List.casesOn with
  | cons e' r => cases d <;> exact no_ft ok
  | nil =>
  induction d using D.casesOn with
  | list xs =>
   obtain ⟨l, vs, n', rfl, ha, rs⟩ := rv.list_v
   have q : name = "index" := beq_iff_eq.mp ok
   subst q
   refine getMethod_list_of PySem.F.slot_list_index PySem.F.type_list_index (lst_is TS ha) ⟨_, (TS.kin _ _ ha).1, rfl⟩ ?_
   refine callWith_of (P := fun J => True) (by rw [noStars_any h1]; rfl) (keeps_builtin _) ?_
   refine args_sound IE ar ko h1 TS X (RxG.step h fun ds K₂ s₂ h₂ T₂ x₂ k₂ us ru => ⟨trivial, ?_⟩)
   have h₃ := rx_g.mpr h₂
   induction ru using Rg.Reps.casesOn with
   | nil => exact h₃.elim
   | cons a ru =>
    induction a using Rg.Rep.casesOn with
    | int i t =>
     induction ru using Rg.Reps.casesOn with
     | nil =>
      obtain ⟨c, g⟩ := when_sat (show (Rg.when _ _).sat _ _ from h₃)
      simp only [Bool.and_eq_true, beq_iff_eq, decide_eq_true_eq] at c
      obtain ⟨⟨⟨_, c2⟩, c3⟩, c4⟩ := c
      exact index_list_ints (lst_is T₂ (k₂.1 _ _ ha)) (ints_of rs c2) c3 c4 (Good.here T₂ g (.int _ _))
     | cons => exact h₃.elim
    | _ => cases ru <;> exact h₃.elim
  | _ => exact no_ft ok
end
theorem Tr.bind_bind {α β γ : Type} (f : α → Tr β) (g : β → Tr γ) : ∀ t : Tr α, (t.bind f).bind g = t.bind fun a => (f a).bind g
 | .ok a => rfl
 | .exc w a => rfl
 | .bad => rfl
 | .br b x y => by simp only [Tr.bind, Tr.bind_bind f g x, Tr.bind_bind f g y]
noncomputable def SoundT (prog : Program) (w : World) (S : Sta) (T : Tab) (k n : Nat) : Prop :=
 ∀ (sc : Scope) (e : PySem.Expr) (m : Loc) (env : Env) (A : Around) (stk : List Env) (K : Kn) (s : Shared) (Q : Bool → Shared → Prop) (E : Value → Shared → Prop),
  Ar A stk k → St S stk K s → Lc S stk env m K s.heap → KindOk S T sc env → RxG S stk s K ((ev T n sc e m).bind tru) (fun b J s' => Q b s') E → wpAny (model prog w) A (isTrue e env (eval e env)) Q E s
section
variable {prog : Program} {w : World} {S : Sta} {T : Tab} {k : Nat}
variable {A : Around} {stk : List Env} {K K' : Kn} {s : Shared} {env : Env} {m : Loc} {Q : Value → Shared → Prop} {E : Value → Shared → Prop} {sc : Scope} {n : Nat}
variable {α β γ : Type}
theorem RxG.bindMono {r : Tr α} {f : α → Tr β} {f' : α → Tr γ} {G : β → Kn → Shared → Prop} {G' : γ → Kn → Shared → Prop} (h : RxG S stk s K (r.bind f) G E) (hf : ∀ a, RxG S stk s K (f a) G E → RxG S stk s K (f' a) G' E) : RxG S stk s K (r.bind f') G' E := by
 unfold RxG at h ⊢
 rw [Tr.sat_bind] at h ⊢
 exact Tr.sat_mono (fun a q => hf a q) (fun J J q => q) _ h
theorem RxG.sat {r : Tr α} {f : α → Tr β} {G : β → Kn → Shared → Prop} (h : RxG S stk s K (r.bind f) G E) : r.sat (fun a => RxG S stk s K (f a) G E) (fun wt d => Fall S stk s K wt d E) := by
 unfold RxG at h
 rw [Tr.sat_bind] at h
 exact h
theorem bA {b : Bool} {v : D} {r : Tr D} {P : D → Prop} {Eb : Str → D → Prop} (h : (boolB .And b v r).sat P Eb) : (Tr.br b r (.ok v)).sat P Eb ∨ ∃ c, r = .ok (.bool c) ∧ P (.bool (b && c)) := by
 induction r using Tr.casesOn with
 | ok x =>
  induction x using D.casesOn with
  | bool c => exact .inr ⟨c, rfl, h⟩
  | _ => exact .inl h
 | _ => exact .inl h
theorem bO {b : Bool} {v : D} {r : Tr D} {P : D → Prop} {Eb : Str → D → Prop} (h : (boolB .Or b v r).sat P Eb) : (Tr.br b (.ok v) r).sat P Eb ∨ ∃ c, r = .ok (.bool c) ∧ P (.bool (b || c)) := by
 induction r using Tr.casesOn with
 | ok x =>
  induction x using D.casesOn with
  | bool c => exact .inr ⟨c, rfl, h⟩
  | _ => exact .inl h
 | _ => exact .inl h
theorem and_tS {v : D} {r : Tr D} {P : D → Prop} {Eb : Str → D → Prop} (h : (boolB .And true v r).sat P Eb) : r.sat P Eb := by
 obtain h | ⟨c, rfl, h⟩ := bA h
 ·exact h.1 rfl
 ·exact h
theorem or_fS {v : D} {r : Tr D} {P : D → Prop} {Eb : Str → D → Prop} (h : (boolB .Or false v r).sat P Eb) : r.sat P Eb := by
 obtain h | ⟨c, rfl, h⟩ := bO h
 ·exact h.2 rfl
 ·exact h
theorem and_fS {r : Tr D} {P : D → Prop} {Eb : Str → D → Prop} (h : (boolB .And false (.bool false) r).sat P Eb) : P (.bool false) := by
 obtain h | ⟨c, rfl, h⟩ := bA h
 ·exact h.2 rfl
 ·exact h
theorem or_tS {r : Tr D} {P : D → Prop} {Eb : Str → D → Prop} (h : (boolB .Or true (.bool true) r).sat P Eb) : P (.bool true) := by
 obtain h | ⟨c, rfl, h⟩ := bO h
 ·exact h.1 rfl
 ·exact h
theorem and_true {v : D} {r : Tr D} {G : D → Kn → Shared → Prop} (h : RxG S stk s K (boolB .And true v r) G E) : RxG S stk s K r G E := and_tS h
theorem and_false {r : Tr D} {G : D → Kn → Shared → Prop} (h : RxG S stk s K (boolB .And false (.bool false) r) G E) : RxG S stk s K (.ok (.bool false)) G E := and_fS h
theorem or_false {v : D} {r : Tr D} {G : D → Kn → Shared → Prop} (h : RxG S stk s K (boolB .Or false v r) G E) : RxG S stk s K r G E := or_fS h
theorem or_true {r : Tr D} {G : D → Kn → Shared → Prop} (h : RxG S stk s K (boolB .Or true (.bool true) r) G E) : RxG S stk s K (.ok (.bool true)) G E := or_tS h
noncomputable def evB1 (op : BoolOp) (v : D) (rest : Tr D) : Tr D := match v with
 | .bool b => boolB op b (.bool b) rest
 | v => (tru v).bind fun t => match op with
  | .And => .br t rest (.ok v)
  | .Or => .br t (.ok v) rest
theorem evB_cons {f : PySem.Expr → Tr D} {op : BoolOp} {x y : PySem.Expr} {r : List PySem.Expr} : evB f op (x :: y :: r) = (f x).bind fun v => evB1 op v (evB f op (y :: r)) := rfl
theorem evB1_and {v : D} {r : Tr D} {G : D → Kn → Shared → Prop} (h : RxG S stk s K (evB1 .And v r) G E) : (tru v).sat (fun t => if t then RxG S stk s K r G E else RxG S stk s K (.ok v) G E) (fun J J => False) := by
 induction v using D.casesOn with
 | bool b => induction b using Bool.casesOn with
  | true => exact and_true h
  | false => exact and_false h
 | int i =>
  show if (i != 0) = true then _ else _
  rcases RxG.br (h : RxG S stk s K (.br (i != 0) r (.ok (.int i))) G E) with ⟨q, g⟩ | ⟨q, g⟩ <;> rw [q] <;> exact g
 | none => rcases RxG.br (h : RxG S stk s K (.br false r (.ok .none)) G E) with ⟨q, g⟩ | ⟨q, g⟩; exact no_ft q; exact g
 | _ => exact h.elim
theorem evB1_or {v : D} {r : Tr D} {G : D → Kn → Shared → Prop} (h : RxG S stk s K (evB1 .Or v r) G E) : (tru v).sat (fun t => if t then RxG S stk s K (.ok v) G E else RxG S stk s K r G E) (fun J J => False) := by
 induction v using D.casesOn with
 | bool b => induction b using Bool.casesOn with
  | true => exact or_true h
  | false => exact or_false h
 | int i =>
  show if (i != 0) = true then _ else _
  rcases RxG.br (h : RxG S stk s K (.br (i != 0) (.ok (.int i)) r) G E) with ⟨q, g⟩ | ⟨q, g⟩ <;> rw [q] <;> exact g
 | none => rcases RxG.br (h : RxG S stk s K (.br false (.ok .none) r) G E) with ⟨q, g⟩ | ⟨q, g⟩; exact no_ft q; exact g
 | _ => exact h.elim
theorem evB_sound (IE : SoundE prog w S T k n) (ar : Ar A stk k) (ko : KindOk S T sc env) {op : BoolOp} {pos : Pos} : ∀ {vs : List PySem.Expr} {K : Kn} {s : Shared} {Q : Value → Shared → Prop}, St S stk K s → Lc S stk env m K s.heap →
  Rx S stk s K (evB (fun e => ev T n sc e m) op vs) Q E → wpAny (model prog w) A (eval (.BoolOp op vs pos) env) Q E s
 | [], K, s, Q, TS, X, h => h.elim
 | [x], K, s, Q, TS, X, h => BoolOp_one (IE sc x m env A stk K s Q E ar TS X ko h)
 | x :: y :: r, K, s, Q, TS, X, h => by
  rw [evB_cons] at h
  have h' := rx_g.mp h
  induction op using PySem.BoolOp.casesOn with
  | And =>
   refine BoolOp_and (IE sc x m env A stk K s _ E ar TS X ko (h'.stepV fun v d K₁ s₁ h₁ T₁ x₁ k₁ r₁ => ?_))
   refine tru_sound r₁ (Tr.sat_mono (fun t ht => ?_) (fun J J q => q) _ (evB1_and h₁))
   induction t using Bool.casesOn with
   | true => exact evB_sound IE ar ko T₁ (X.ext x₁ k₁) (rx_g.mpr ht)
   | false => exact RxG.ok T₁ ht _ r₁
  | Or =>
   refine BoolOp_or (IE sc x m env A stk K s _ E ar TS X ko (h'.stepV fun v d K₁ s₁ h₁ T₁ x₁ k₁ r₁ => ?_))
   refine tru_sound r₁ (Tr.sat_mono (fun t ht => ?_) (fun J J q => q) _ (evB1_or h₁))
   induction t using Bool.casesOn with
   | true => exact RxG.ok T₁ ht _ r₁
   | false => exact evB_sound IE ar ko T₁ (X.ext x₁ k₁) (rx_g.mpr ht)
theorem allTrue_sound (IT : SoundT prog w S T k n) (ar : Ar A stk k) (ko : KindOk S T sc env) {op : BoolOp} : ∀ {vs : List PySem.Expr} {K : Kn} {s : Shared} {Q : Bool → Shared → Prop}, St S stk K s → Lc S stk env m K s.heap →
  RxG S stk s K ((evB (fun e => ev T n sc e m) op vs).bind tru) (fun b J s' => Q b s') E → wpAny (model prog w) A (allTrue op vs env) Q E s
 | [], K, s, Q, TS, X, h => h.elim
 | [x], K, s, Q, TS, X, h => by
  induction op using PySem.BoolOp.casesOn with
  | And =>
   refine wpAny_allTrue_And_cons (IT sc x m env A stk K s _ E ar TS X ko (h.mono (fun b K' s' q => ?_) fun J J q => q))
   induction b using Bool.casesOn with
   | true => exact wpAny_allTrue_And_nil q
   | false => exact q
  | Or =>
   refine wpAny_allTrue_Or_cons (IT sc x m env A stk K s _ E ar TS X ko (h.mono (fun b K' s' q => ?_) fun J J q => q))
   induction b using Bool.casesOn with
   | true => exact q
   | false => exact wpAny_allTrue_Or_nil q
 | x :: y :: r, K, s, Q, TS, X, h => by
  rw [evB_cons, Tr.bind_bind] at h
  induction op using PySem.BoolOp.casesOn with
  | And =>
   refine wpAny_allTrue_And_cons (IT sc x m env A stk K s _ E ar TS X ko ?_)
   have h2 : RxG S stk s K ((ev T n sc x m).bind tru) (fun t K' s' => St S stk K' s' ∧ Lc S stk env m K' s'.heap ∧ if t then RxG S stk s' K' ((evB (fun e => ev T n sc e m) .And (y :: r)).bind tru) (fun b J s' => Q b s') E else Q false s') E := by
    refine h.bindMono fun v hv => ?_
    have key : (tru v).sat (fun t => if t then RxG S stk s K ((evB (fun e => ev T n sc e m) .And (y :: r)).bind tru) (fun b J s' => Q b s') E else RxG S stk s K (.ok false) (fun b J s' => Q b s') E) (fun J J => False) := by
     induction v using D.casesOn with
     | bool b =>
      induction b using Bool.casesOn with
      | true =>
       have h3 : (boolB .And true (.bool true) (evB (fun e => ev T n sc e m) .And (y :: r))).sat (fun d => RxG S stk s K (tru d) (fun b J s' => Q b s') E) (fun wt d => Fall S stk s K wt d E) := RxG.sat hv
       show RxG S stk s K ((evB (fun e => ev T n sc e m) .And (y :: r)).bind tru) (fun b J s' => Q b s') E
       unfold RxG
       rw [Tr.sat_bind]
       exact and_tS h3
      | false =>
       have h3 : (boolB .And false (.bool false) (evB (fun e => ev T n sc e m) .And (y :: r))).sat (fun d => RxG S stk s K (tru d) (fun b J s' => Q b s') E) (fun wt d => Fall S stk s K wt d E) := RxG.sat hv
       show RxG S stk s K (.ok false) (fun b J s' => Q b s') E
       exact and_fS h3
     | int i =>
      show if (i != 0) = true then _ else _
      rcases RxG.br (hv : RxG S stk s K (.br (i != 0) ((evB (fun e => ev T n sc e m) .And (y :: r)).bind tru) (.ok (i != 0))) (fun b J s' => Q b s') E) with ⟨q, g⟩ | ⟨q, g⟩
      ·rw [q]; exact g
      ·rw [q]
       have g' : RxG S stk s K (.ok (i != 0)) (fun b J s' => Q b s') E := g
       rw [q] at g'
       exact g'
     | none => exact hv.2 rfl
     | _ => exact hv.elim
    refine Tr.sat_mono (fun t ht K' s' T' x' k' => ⟨T', X.ext x' k', ?_⟩) (fun J J q => q.elim) _ key
    induction t using Bool.casesOn with
    | true => exact RxG.after x' k' ht
    | false => exact RxG.ok T' (RxG.after x' k' ht)
   refine h2.mono (fun t K' s' ⟨T', X', q⟩ => ?_) fun J J q => q
   induction t using Bool.casesOn with
   | true => exact allTrue_sound IT ar ko T' X' q
   | false => exact q
  | Or =>
   refine wpAny_allTrue_Or_cons (IT sc x m env A stk K s _ E ar TS X ko ?_)
   have h2 : RxG S stk s K ((ev T n sc x m).bind tru) (fun t K' s' => St S stk K' s' ∧ Lc S stk env m K' s'.heap ∧ if t then Q true s' else RxG S stk s' K' ((evB (fun e => ev T n sc e m) .Or (y :: r)).bind tru) (fun b J s' => Q b s') E) E := by
    refine h.bindMono fun v hv => ?_
    have key : (tru v).sat (fun t => if t then RxG S stk s K (.ok true) (fun b J s' => Q b s') E else RxG S stk s K ((evB (fun e => ev T n sc e m) .Or (y :: r)).bind tru) (fun b J s' => Q b s') E) (fun J J => False) := by
     induction v using D.casesOn with
     | bool b =>
      induction b using Bool.casesOn with
      | false =>
       have h3 : (boolB .Or false (.bool false) (evB (fun e => ev T n sc e m) .Or (y :: r))).sat (fun d => RxG S stk s K (tru d) (fun b J s' => Q b s') E) (fun wt d => Fall S stk s K wt d E) := RxG.sat hv
       show RxG S stk s K ((evB (fun e => ev T n sc e m) .Or (y :: r)).bind tru) (fun b J s' => Q b s') E
       unfold RxG
       rw [Tr.sat_bind]
       exact or_fS h3
      | true =>
       have h3 : (boolB .Or true (.bool true) (evB (fun e => ev T n sc e m) .Or (y :: r))).sat (fun d => RxG S stk s K (tru d) (fun b J s' => Q b s') E) (fun wt d => Fall S stk s K wt d E) := RxG.sat hv
       show RxG S stk s K (.ok true) (fun b J s' => Q b s') E
       exact or_tS h3
     | int i =>
      show if (i != 0) = true then _ else _
      rcases RxG.br (hv : RxG S stk s K (.br (i != 0) (.ok (i != 0)) ((evB (fun e => ev T n sc e m) .Or (y :: r)).bind tru)) (fun b J s' => Q b s') E) with ⟨q, g⟩ | ⟨q, g⟩
      ·rw [q]
       have g' : RxG S stk s K (.ok (i != 0)) (fun b J s' => Q b s') E := g
       rw [q] at g'
       exact g'
      ·rw [q]; exact g
     | none => exact hv.2 rfl
     | _ => exact hv.elim
    refine Tr.sat_mono (fun t ht K' s' T' x' k' => ⟨T', X.ext x' k', ?_⟩) (fun J J q => q.elim) _ key
    induction t using Bool.casesOn with
    | true => exact RxG.ok T' (RxG.after x' k' ht)
    | false => exact RxG.after x' k' ht
   refine h2.mono (fun t K' s' ⟨T', X', q⟩ => ?_) fun J J q => q
   induction t using Bool.casesOn with
   | true => exact q
   | false => exact allTrue_sound IT ar ko T' X' q
end
section
variable {prog : Program} {w : World} {S : Sta} {T : Tab} {k : Nat}
variable {A : Around} {stk : List Env} {K K' : Kn} {s : Shared} {env : Env} {m : Loc} {Q : Value → Shared → Prop} {E : Value → Shared → Prop} {sc : Scope} {n : Nat}
variable {α β γ : Type}
theorem Ar.cmp (ar : Ar A stk k) : A.units + 80 < cLine := by have := ar.units; show A.units + 80 < 9900; lia
theorem bool_tr {r : Tr D} {c : Bool} {P : D → Prop} {E : Str → D → Prop} (h : (andC c r).sat P E) : if c then r.sat P E else P (.bool false) := by
 have hb : (Tr.br c r (.ok (.bool false))).sat P E → if c then r.sat P E else P (.bool false) := fun g => by
  induction c using Bool.casesOn with
  | true => exact g.1 rfl
  | false => exact g.2 rfl
 induction r using Tr.casesOn with
 | ok v =>
  induction v using D.casesOn with
  | bool d =>
   induction c using Bool.casesOn with
   | true => exact h
   | false => exact h
  | _ => exact hb h
 | _ => exact hb h
theorem bool_sat {r : Tr D} {c : Bool} {G : D → Kn → Shared → Prop} (h : RxG S stk s K (andC c r) G E) : if c then RxG S stk s K r G E else RxG S stk s K (.ok (.bool false)) G E := bool_tr h
theorem evC_more {f : PySem.Expr → Tr D} {a : D} {op op2 : CmpOp} {ops : List CmpOp} {r : PySem.Expr} {rs : List PySem.Expr} :
  evC f a (op :: op2 :: ops) (r :: rs) = (f r).bind fun b => (cop op a b).bind fun c => andC c (evC f b (op2 :: ops) rs) := by
 cases rs <;> rfl
theorem markedEach_more {op op2 : CmpOp} {ops : List CmpOp} {r : PySem.Expr} {rs : List PySem.Expr} {t : Sem Value} {ts : List (Sem Value)} : markedEach (op :: op2 :: ops) (r :: rs) (t :: ts) = t :: markedEach (op2 :: ops) rs ts := by
 cases rs <;> cases ts <;> rfl
theorem behind_no {op : CmpOp} {r : PySem.Expr} (h : notSet r = true) : behindInMarks op r = false := by
 cases r <;> first | rfl | exact no_ft h
theorem evC_sound (EO : EqOrd prog w S) (IE : SoundE prog w S T k n) (ar : Ar A stk k) (ko : KindOk S T sc env) {pos : Pos} : ∀ {ops : List CmpOp} {rs : List PySem.Expr} {v : Value} {a : D} {K : Kn} {s : Shared} {Q : Value → Shared → Prop},
  St S stk K s → Lc S stk env m K s.heap → Rep S K v a → Rx S stk s K (evC (fun e => ev T n sc e m) a ops rs) Q E → wpAny (model prog w) A (compareChain pos v ops (markedEach ops rs (evalEach rs env))) Q E s
 | [], rs, v, a, K, s, Q, TS, X, rv, h => by cases rs <;> exact h.elim
 | op :: ops, [], v, a, K, s, Q, TS, X, rv, h => by cases ops <;> exact h.elim
 | [op], r :: r2 :: rs, v, a, K, s, Q, TS, X, rv, h => by
  have h' : RxG S stk s K ((ev T n sc r m).bind fun b => (cop op a b).bind fun c => .br c .bad (.ok (.bool false))) (GP S Q) E := rx_g.mp h
  show wpAny _ _ (holding [v] (eval r env) >>= fun rv => standAt pos >>= fun J => holding [v, rv] (compareOp op v rv) >>= fun c => release [v, rv] [c] >>= fun J => holding [c, rv] (truthy c) >>= fun t => if t then compareChain pos rv [] (evalEach (r2 :: rs) env) else pure c) _ _ s
  refine wpAny_bind (wpAny_holding (IE sc r m env A stk K s _ E ar TS X ko (h'.stepV fun u b K₁ s₁ h₁ T₁ x₁ k₁ ru => ?_)))
  refine wpAny_bind (wpAny_standAt (wpAny_bind (wpAny_holding (cop_sound EO T₁ ar.cmp (rv.mono k₁.1) ru (Tr.sat_mono (fun c hc => ?_) (fun J J q => q) _ h₁.sat)))))
  refine wpAny_bind (wpAny_release (wpAny_bind (wpAny_holding (wpAny_truthy_bool ?_))))
  rcases hc.br with ⟨q, g⟩ | ⟨q, g⟩
  ·exact g.elim
  ·subst q
   exact wpAny_pure (RxG.ok T₁ g _ (.bool false))
 | [op], [r], v, a, K, s, Q, TS, X, rv, h => by
  have h : Rx S stk s K (cond (notSet r) ((ev T n sc r m).bind fun b => (cop op a b).bind fun c => .ok (.bool c)) .bad) Q E := h
  cases hs : notSet r with
  | false => rw [hs] at h; exact h.elim
  | true =>
   rw [hs] at h
   have h' := rx_g.mp h
   have e : markedBehindIn op r (eval r env) = eval r env := by unfold markedBehindIn; rw [behind_no hs]
   show wpAny _ _ (compareChain pos v [op] [markedBehindIn op r (eval r env)]) _ _ s
   rw [e]
   show wpAny _ _ (holding [v] (eval r env) >>= fun rv => standAt pos >>= fun J => operate [v, rv] (compareOp op v rv)) _ _ s
   refine wpAny_bind (wpAny_holding (IE sc r m env A stk K s _ E ar TS X ko (h'.stepV fun u b K₁ s₁ h₁ T₁ x₁ k₁ ru => ?_)))
   refine wpAny_bind (wpAny_standAt (wpAny_operating (cop_sound EO T₁ ar.cmp (rv.mono k₁.1) ru (Tr.sat_mono (fun c hc => ?_) (fun J J q => q) _ h₁.sat))))
   exact RxG.ok T₁ hc _ (.bool c)
 | op :: op2 :: ops, r :: rs, v, a, K, s, Q, TS, X, rv, h => by
  rw [evC_more] at h
  have h' := rx_g.mp h
  show wpAny _ _ (compareChain pos v (op :: op2 :: ops) (markedEach (op :: op2 :: ops) (r :: rs) (eval r env :: evalEach rs env))) _ _ s
  rw [markedEach_more]
  show wpAny _ _ (holding [v] (eval r env) >>= fun rv => standAt pos >>= fun J => holding [v, rv] (compareOp op v rv) >>= fun c => release [v, rv] [c] >>= fun J => holding [c, rv] (truthy c) >>= fun t => if t then compareChain pos rv (op2 :: ops) (markedEach (op2 :: ops) rs (evalEach rs env)) else pure c) _ _ s
  refine wpAny_bind (wpAny_holding (IE sc r m env A stk K s _ E ar TS X ko (h'.stepV fun u b K₁ s₁ h₁ T₁ x₁ k₁ ru => ?_)))
  refine wpAny_bind (wpAny_standAt (wpAny_bind (wpAny_holding (cop_sound EO T₁ ar.cmp (rv.mono k₁.1) ru (Tr.sat_mono (fun c hc => ?_) (fun J J q => q) _ h₁.sat)))))
  refine wpAny_bind (wpAny_release (wpAny_bind (wpAny_holding (wpAny_truthy_bool ?_))))
  have hc' := bool_sat hc
  induction c using Bool.casesOn with
  | true => exact evC_sound EO IE ar ko T₁ (X.ext x₁ k₁) ru (rx_g.mpr hc')
  | false => exact wpAny_pure (RxG.ok T₁ hc' _ (.bool false))
theorem testC_sound (EO : EqOrd prog w S) (IE : SoundE prog w S T k n) (ar : Ar A stk k) (ko : KindOk S T sc env) {pos : Pos} : ∀ {ops : List CmpOp} {rs : List PySem.Expr} {v : Value} {a : D} {K : Kn} {s : Shared} {Q : Bool → Shared → Prop},
  St S stk K s → Lc S stk env m K s.heap → Rep S K v a → RxG S stk s K ((evC (fun e => ev T n sc e m) a ops rs).bind tru) (fun b J s' => Q b s') E → wpAny (model prog w) A (testChain pos v ops (markedEach ops rs (evalEach rs env))) Q E s
 | [], rs, v, a, K, s, Q, TS, X, rv, h => by cases rs <;> exact h.elim
 | op :: ops, [], v, a, K, s, Q, TS, X, rv, h => by cases ops <;> exact h.elim
 | [op], r :: r2 :: rs, v, a, K, s, Q, TS, X, rv, h => by
  have h' : RxG S stk s K (((ev T n sc r m).bind fun b => (cop op a b).bind fun c => .br c .bad (.ok (.bool false))).bind tru) (fun b J s' => Q b s') E := h
  rw [Tr.bind_bind] at h'
  show wpAny _ _ (holding [v] (eval r env) >>= fun rv => standAt pos >>= fun J => holding [v, rv] (compareOp op v rv) >>= fun c => release [v, rv] [c] >>= fun J => holding [c, rv] (truthy c) >>= fun t => if t then testChain pos rv [] (evalEach (r2 :: rs) env) else pure false) _ _ s
  refine wpAny_bind (wpAny_holding (IE sc r m env A stk K s _ E ar TS X ko (h'.stepV fun u b K₁ s₁ h₁ T₁ x₁ k₁ ru => ?_)))
  rw [Tr.bind_bind] at h₁
  refine wpAny_bind (wpAny_standAt (wpAny_bind (wpAny_holding (cop_sound EO T₁ ar.cmp (rv.mono k₁.1) ru (Tr.sat_mono (fun c hc => ?_) (fun J J q => q) _ h₁.sat)))))
  refine wpAny_bind (wpAny_release (wpAny_bind (wpAny_holding (wpAny_truthy_bool ?_))))
  rcases RxG.br (hc : RxG S stk s₁ K₁ (.br c .bad (.ok false)) _ _) with ⟨q, g⟩ | ⟨q, g⟩
  ·exact g.elim
  ·subst q
   exact wpAny_pure (RxG.ok T₁ g)
 | [op], [r], v, a, K, s, Q, TS, X, rv, h => by
  have h : RxG S stk s K ((cond (notSet r) ((ev T n sc r m).bind fun b => (cop op a b).bind fun c => .ok (.bool c)) .bad).bind tru) (fun b J s' => Q b s') E := h
  cases hs : notSet r with
  | false => rw [hs] at h; exact h.elim
  | true =>
   rw [hs] at h
   have h' : RxG S stk s K (((ev T n sc r m).bind fun b => (cop op a b).bind fun c => .ok (.bool c)).bind tru) (fun b J s' => Q b s') E := h
   rw [Tr.bind_bind] at h'
   have e : markedBehindIn op r (eval r env) = eval r env := by unfold markedBehindIn; rw [behind_no hs]
   show wpAny _ _ (testChain pos v [op] [markedBehindIn op r (eval r env)]) _ _ s
   rw [e]
   show wpAny _ _ (holding [v] (eval r env) >>= fun rv => standAt pos >>= fun J => operate [v, rv] (compareOp op v rv) >>= fun c => holding [c] (truthy c)) _ _ s
   refine wpAny_bind (wpAny_holding (IE sc r m env A stk K s _ E ar TS X ko (h'.stepV fun u b K₁ s₁ h₁ T₁ x₁ k₁ ru => ?_)))
   rw [Tr.bind_bind] at h₁
   refine wpAny_bind (wpAny_standAt (wpAny_bind (wpAny_operating (cop_sound EO T₁ ar.cmp (rv.mono k₁.1) ru (Tr.sat_mono (fun c hc => ?_) (fun J J q => q) _ h₁.sat)))))
   exact wpAny_holding (wpAny_truthy_bool (RxG.ok T₁ (hc : RxG S stk s₁ K₁ (.ok c) _ _)))
 | op :: op2 :: ops, r :: rs, v, a, K, s, Q, TS, X, rv, h => by
  rw [evC_more, Tr.bind_bind] at h
  show wpAny _ _ (testChain pos v (op :: op2 :: ops) (markedEach (op :: op2 :: ops) (r :: rs) (eval r env :: evalEach rs env))) _ _ s
  rw [markedEach_more]
  show wpAny _ _ (holding [v] (eval r env) >>= fun rv => standAt pos >>= fun J => holding [v, rv] (compareOp op v rv) >>= fun c => release [v, rv] [c] >>= fun J => holding [c, rv] (truthy c) >>= fun t => if t then testChain pos rv (op2 :: ops) (markedEach (op2 :: ops) rs (evalEach rs env)) else pure false) _ _ s
  refine wpAny_bind (wpAny_holding (IE sc r m env A stk K s _ E ar TS X ko (h.stepV fun u b K₁ s₁ h₁ T₁ x₁ k₁ ru => ?_)))
  rw [Tr.bind_bind] at h₁
  refine wpAny_bind (wpAny_standAt (wpAny_bind (wpAny_holding (cop_sound EO T₁ ar.cmp (rv.mono k₁.1) ru (Tr.sat_mono (fun c hc => ?_) (fun J J q => q) _ h₁.sat)))))
  refine wpAny_bind (wpAny_release (wpAny_bind (wpAny_holding (wpAny_truthy_bool ?_))))
  have hc' : if c then RxG S stk s₁ K₁ ((evC (fun e => ev T n sc e m) b (op2 :: ops) rs).bind tru) (fun b J s' => Q b s') E else RxG S stk s₁ K₁ (.ok false) (fun b J s' => Q b s') E := by
   generalize evC (fun e => ev T n sc e m) b (op2 :: ops) rs = z at hc ⊢
   have hs := bool_tr hc.sat
   induction c using Bool.casesOn with
   | true => exact (Tr.sat_bind _ _).mpr hs
   | false => exact hs
  induction c using Bool.casesOn with
  | true => exact testC_sound EO IE ar ko T₁ (X.ext x₁ k₁) ru hc'
  | false => exact wpAny_pure (RxG.ok T₁ hc')
end
theorem Loc.lookup_set (m : Loc) (x : Str) (d : D) (y : Str) : (m.set x d).lookup y = if y = x then some d else m.lookup y := by
 induction m with
 | nil =>
  show List.lookup y [(x, d)] = _
  rw [List.lookup_cons]
  cases h : y == x with
  | true => rw [if_pos (beq_iff_eq.mp h)]
  | false => rw [if_neg (by simpa using h)]
 | cons p r ih =>
  obtain ⟨z, e⟩ := p
  show List.lookup y (match z == x with | true => (x, d) :: r | false => (z, e) :: Loc.set r x d) = _
  cases hz : z == x with
  | true =>
   have hz' := beq_iff_eq.mp hz
   subst hz'
   show List.lookup y ((z, d) :: r) = _
   rw [List.lookup_cons, List.lookup_cons]
   cases h : y == z with
   | true => rw [if_pos (beq_iff_eq.mp h)]
   | false => rw [if_neg (by simpa using h)]
  | false =>
   show List.lookup y ((z, e) :: Loc.set r x d) = _
   rw [List.lookup_cons, List.lookup_cons]
   cases h : y == z with
   | true =>
    have h' := beq_iff_eq.mp h
    subst h'
    rw [if_neg (by simpa using hz)]
   | false => exact ih
noncomputable def Own (env : Env) (b : Addr) : Prop := b = env.locals ∨ ∃ p ∈ env.cells, p.2 = b
noncomputable def OwnAt (env : Env) (x : Str) (b : Addr) : Prop := (env.kindOf x = some .local ∧ b = env.locals) ∨ (env.kindOf x = some .cell ∧ env.cells.lookup x = some b)
theorem OwnAt.own {env : Env} {x : Str} {b : Addr} (h : OwnAt env x b) : Own env b := h.elim (fun q => .inl q.2) fun q => .inr ⟨_, lookup_mem q.2, rfl⟩
section
variable {prog : Program} {w : World} {S : Sta} {T : Tab} {k : Nat}
variable {A : Around} {stk : List Env} {K K' : Kn} {s : Shared} {env : Env} {m : Loc} {Q : Value → Shared → Prop} {E : Value → Shared → Prop} {sc : Scope} {n : Nat} {h' : Heap}
structure Loose (S : Sta) (stk : List Env) (K : Kn) (h h' : Heap) (a : Addr) : Prop where
 base : S.B.get? a = none
 known : K a = none
 tab : a ∉ S.tabAt
 old : ∀ o, h.get? a = some o → ¬ (o.cls = .type "code" ∧ ∃ vs, o.data = .fields vs)
 frame : a ∈ frs stk → ∃ o', h'.get? a = some o' ∧ ∀ vs, o'.data ≠ .fields vs
theorem St.alter {P : Addr → Prop} (T : St S stk K s) (hP : ∀ a, P a → Loose S stk K s.heap h' a) (k : ∀ b o, ¬ P b → s.heap.get? b = some o → h'.get? b = some o) (tk : Tok) : St S stk K { s with heap := h', toks := tk } where
 ff := fun env' he => by
  refine abs1 fun G0 hG0 => ?_
  obtain ⟨a, L, o, hL, hB, hT, ho, hd⟩ := T.ff env' he
  refine hG0 ?_
  clear hG0 G0
  by_cases p : P L
  ·obtain ⟨o', e', q⟩ := (hP L p).frame (List.mem_filterMap.mpr ⟨env', he, hL⟩)
   exact ⟨a, L, o', hL, hB, hT, e', q⟩
  ·exact ⟨a, L, o, hL, hB, hT, k _ _ p ho, hd⟩
 stays := fun b o e => k _ _ (fun p => by rw [(hP b p).base] at e; exact no_ns e) (T.stays b o e)
 kin := fun a o e => ⟨k _ _ (fun p => by rw [(hP a p).known] at e; exact no_ns e) (T.kin a o e).1, (T.kin a o e).2⟩
 tab := fun t ht => by
  obtain ⟨ps, a, b, c⟩ := T.tab t ht
  refine ⟨ps, k _ _ (fun p => (hP _ p).tab (List.mem_map.mpr ⟨t, ht, rfl⟩)) a, b, fun pos cv q => ?_⟩
  refine abs1 fun G0 hG0 => ?_
  obtain ⟨c', o, vs, tk, x1, x2, x3, x4, x⟩ := c pos cv q
  refine hG0 ?_
  clear hG0 G0
  exact ⟨c', o, vs, tk, x1, k _ _ (fun p => (hP _ p).old o x2 ⟨x3, vs, x4⟩) x2, x3, x4, x⟩
 gens := T.gens
 os := T.os
theorem storable_kind (ko : KindOk S T sc env) {x : Str} (h : storable sc x = true) : env.kindOf x = some .local ∨ env.kindOf x = some .cell := by
 have := ko.kind x
 unfold storable at h
 cases q : sc.names.lookup x with
 | none => rw [q] at h; exact no_ft h
 | some z =>
  rw [q] at this h
  induction z using PySem.NameKind.casesOn with
  | «local» => exact .inl this
  | cell => exact .inr this
  | _ => exact no_ft h
theorem Ns.data {h : Heap} {a : Addr} {mv : Str → Option Value} (n : h.Ns a mv) : ∃ o, h.get? a = some o ∧ ∀ vs, o.data ≠ .fields vs := by
 obtain ⟨o, es, ep, e, hd, _⟩ := n
 exact ⟨o, e, fun vs z => by rw [hd] at z; cases z⟩
theorem store_sound (TS : St S stk K s) (X : Lc S stk env m K s.heap) {v : Value} {d : D} (rv : Rep S K v d) {x : Str} (hk : env.kindOf x = some .local ∨ env.kindOf x = some .cell) {Q : Unit → Shared → Prop}
  (h : ∀ h' tk, St S stk K { s with heap := h', toks := tk } → Lc S stk env (m.set x d) K h' → (∀ b, ¬ OwnAt env x b → h'.get? b = s.heap.get? b) → Q () { s with heap := h', toks := tk }) :
  wpAny (model prog w) A (storeName env x v) Q E s := by
 have own : ∀ p ∈ env.cells, ∀ o, s.heap.get? p.2 = some o → True := fun J J J J => trivial
 rcases hk with hk | hk
 ·obtain ⟨mv, hn, hm⟩ := X.ns
  refine wpAny_storeName_local hk hn (fun h' hn' sb => ?_) (by rw [X.kind]; rfl)
  have L : Loose S stk K s.heap h' env.locals := ⟨X.lB, X.lK, X.lT, fun o e q => by
   obtain ⟨_, vs, z⟩ := q
   obtain ⟨o₁, e₁, q₁⟩ := Ns.data hn
   rw [e₁] at e; obtain rfl := Option.some.inj e; exact q₁ vs z, fun J => Ns.data hn'⟩
  refine h h' _ (TS.alter (P := (· = env.locals)) (fun a p => p ▸ L) (fun b o nb e => (sb.2 b nb).trans e) _) ?_ (fun b nb => sb.2 b fun q => nb (.inl ⟨hk, q⟩))
  refine ⟨X.kind, X.glob, X.blt, ⟨_, hn', fun y d' e q => ?_⟩, fun y d' e q => ?_, fun y q => ?_, X.lK, X.lB, X.lT, fun p hp => ?_, X.inj⟩
  ·rw [Loc.lookup_set] at e
   by_cases hy : y = x
   ·rw [if_pos hy] at e
    obtain rfl := Option.some.inj e
    exact ⟨v, if_pos hy, rv⟩
   ·rw [if_neg hy] at e
    obtain ⟨u, a, b⟩ := hm y d' e q
    exact ⟨u, (if_neg hy).trans a, b⟩
  ·rw [Loc.lookup_set] at e
   by_cases hy : y = x
   ·subst hy
    rw [hk] at q
    rcases q with q | q <;> cases q
   ·rw [if_neg hy] at e
    obtain ⟨c, u, a, b, r⟩ := X.cel y d' e q
    have := (X.cOk _ (lookup_mem a)).2.2.2.1
    exact ⟨c, u, a, (by obtain ⟨o, ho, hd⟩ := b; exact ⟨o, (sb.2 c this).trans ho, hd⟩), r⟩
  ·obtain ⟨c, u, a, b⟩ := X.hav y q
   have := (X.cOk _ (lookup_mem a)).2.2.2.1
   exact ⟨c, u, a, (by obtain ⟨o, ho, hd⟩ := b; exact ⟨o, (sb.2 c this).trans ho, hd⟩)⟩
  ·obtain ⟨a, b, c, d, o, e⟩ := X.cOk p hp
   exact ⟨a, b, c, d, o, (sb.2 _ d).trans e⟩
 ·obtain ⟨c, vo, hc, hv⟩ := X.hav x hk
  have mem := lookup_mem hc
  obtain ⟨c1, c2, c3, c4, c5⟩ := X.cOk _ mem
  refine wpAny_storeName_cell X.kind hk hc hv fun h' hv' sb => ?_
  have L : Loose S stk K s.heap h' c := ⟨c2, c1, c3.2, (fun o e q => by
   obtain ⟨_, vs, z⟩ := q
   obtain ⟨o₁, e₁, q₁⟩ := hv
   rw [e₁] at e; cases e; rw [q₁] at z; cases z), fun q => absurd q c3.1⟩
  have keep : ∀ b, b ≠ c → h'.get? b = s.heap.get? b := sb.2
  refine h h' s.toks (TS.alter (P := (· = c)) (fun a p => p ▸ L) (fun b o nb e => (sb.2 b nb).trans e) _) ?_ (fun b nb => sb.2 b fun q => nb (.inr ⟨hk, q ▸ hc⟩))
  refine ⟨X.kind, X.glob, X.blt, ?_, fun y d' e q => ?_, fun y q => ?_, X.lK, X.lB, X.lT, fun p hp => ?_, X.inj⟩
  ·obtain ⟨mv, hn, hm⟩ := X.ns
   obtain ⟨o, es, ep, e, r⟩ := hn
   refine ⟨mv, ⟨o, es, ep, (sb.2 _ (Ne.symm c4)).trans e, r⟩, fun y d' e q => ?_⟩
   rw [Loc.lookup_set] at e
   by_cases hy : y = x
   ·subst hy; rw [hk] at q; cases q
   ·rw [if_neg hy] at e; exact hm y d' e q
  ·rw [Loc.lookup_set] at e
   by_cases hy : y = x
   ·rw [if_pos hy] at e
    obtain rfl := Option.some.inj e
    subst hy
    exact ⟨c, v, hc, hv', rv⟩
   ·rw [if_neg hy] at e
    obtain ⟨c', u, a, b, r⟩ := X.cel y d' e q
    have ne : c' ≠ c := fun z => hy (X.inj _ (lookup_mem a) _ mem z)
    exact ⟨c', u, a, (by obtain ⟨o, ho, hd⟩ := b; exact ⟨o, (sb.2 _ ne).trans ho, hd⟩), r⟩
  ·by_cases hy : y = x
   ·subst hy; exact ⟨c, _, hc, hv'⟩
   ·obtain ⟨c', u, a, b⟩ := X.hav y q
    have ne : c' ≠ c := fun z => hy (X.inj _ (lookup_mem a) _ mem z)
    exact ⟨c', u, a, (by obtain ⟨o, ho, hd⟩ := b; exact ⟨o, (sb.2 _ ne).trans ho, hd⟩)⟩
  ·obtain ⟨a, b, c', d, o, e⟩ := X.cOk p hp
   refine ⟨a, b, c', d, ?_⟩
   by_cases z : p.2 = c
   ·obtain ⟨o', ho', _⟩ := hv'; exact ⟨o', z ▸ ho'⟩
   ·exact ⟨o, (sb.2 _ z).trans e⟩
end
inductive ItAt (prog : Program) (w : World) (S : Sta) (h₀ : Heap) : Bool → Addr → List Addr → List D → Kn → Heap → Prop
 | N {I : Addr} {fp wr : List Addr} {n : Nat} {P : Nat → Value → Prop} {X : Nat → Heap → Prop} {ds : List D} {K : Kn} {h : Heap} {i : Nat} (W : ∀ A' : Around, A'.handled = none → Walks prog w A' I fp wr n P X)
   (st : X i h) (items : ∀ j v, P j v → ∀ d, ds[j]? = some d → Rep S K v d) (len : ds.length = n) (hc : n ≤ 1048576) (hi : i ≤ n)
   (live : ∀ i h, X i h → ∀ b ∈ wr, ∃ o, h.get? b = some o ∧ o.cls ≠ .type "code") (new : ∀ b ∈ wr, h₀.get? b = none ∧ K b = none) (old : ∀ b ∈ fp, b ∉ wr → ∃ o, K b = some o) :
   ItAt prog w S h₀ false I wr (ds.drop i) K h
 | T {I : Addr} {fp wr : List Addr} {n : Nat} {P : Nat → Array Value → Prop} {X : Nat → Heap → Prop} {Mid : Nat → Addr → Heap → Prop} {ds : List D} {K : Kn} {h : Heap} {i : Nat} (W : ∀ A' : Around, A'.handled = none → WalksT prog w A' I fp wr n P X Mid)
   (st : X i h) (items : ∀ j vals, P j vals → ∀ d, ds[j]? = some d → ∃ d₁ d₂ v₁ v₂, d = .tup [d₁, d₂] ∧ vals = #[v₁, v₂] ∧ Rep S K v₁ d₁ ∧ Rep S K v₂ d₂) (len : ds.length = n) (hc : n ≤ 1048576) (hi : i ≤ n)
   (live : ∀ i h, X i h → ∀ b ∈ wr, ∃ o, h.get? b = some o ∧ o.cls ≠ .type "code") (new : ∀ b ∈ wr, h₀.get? b = none ∧ K b = none) (old : ∀ b ∈ fp, b ∉ wr → ∃ o, K b = some o) :
   ItAt prog w S h₀ true I wr (ds.drop i) K h
section
variable {prog : Program} {w : World} {S : Sta} {T : Tab} {k : Nat}
variable {A : Around} {stk : List Env} {K K' K₀ : Kn} {s s₀ : Shared} {env : Env} {m m₀ : Loc} {E : Value → Shared → Prop} {sc : Scope} {n : Nat} {h h' h₀ : Heap} {tup : Bool} {I : Addr} {wr : List Addr} {ds r : List D} {d : D}
structure Since (S : Sta) (stk : List Env) (env : Env) (wr : List Addr) : Prop where
 fix : ∀ b ∈ wr, Fix S stk b ∧ ¬ Own env b ∧ S.B.get? b = none
theorem Since.of (T : St S stk K s) (X : Lc S stk env m K s.heap) (hw : ∀ b ∈ wr, s.heap.get? b = none) : Since S stk env wr := ⟨fun b hb => by
 have e := hw b hb
 exact ⟨Fix.new T e, (fun o => by
 rcases o with rfl | ⟨p, hp, rfl⟩
 ·obtain ⟨mv, ⟨o, _, _, ho, _⟩, _⟩ := X.ns; rw [ho] at e; exact no_sn e
 ·obtain ⟨_, _, _, _, o, ho⟩ := X.cOk p hp; rw [ho] at e; exact no_sn e), by
 cases q : S.B.get? b with
 | none => rfl
 | some o => rw [T.stays b o q] at e; exact no_sn e⟩⟩
theorem own_known (X : Lc S stk env m K h) {b : Addr} {o : Obj} (e : K b = some o) : ¬ Own env b := fun q => by
 rcases q with rfl | ⟨p, hp, rfl⟩
 ·rw [X.lK] at e; exact no_ns e
 ·rw [(X.cOk p hp).1] at e; exact no_ns e
theorem ItAt.live' (x : ItAt prog w S h₀ tup I wr ds K h) : ∀ b ∈ wr, ∃ o, h.get? b = some o ∧ o.cls ≠ .type "code" := by
 cases x with
 | N W st items len hc hi live new old => exact live _ _ st
 | T W st items len hc hi live new old => exact live _ _ st
theorem ItAt.new' (x : ItAt prog w S h₀ tup I wr ds K h) : ∀ b ∈ wr, h₀.get? b = none ∧ K b = none := by
 cases x with
 | N W st items len hc hi live new old => exact new
 | T W st items len hc hi live new old => exact new
theorem ItAt.loose (x : ItAt prog w S h₀ tup I wr ds K h) (C : Since S stk env wr) {b : Addr} (hb : b ∈ wr) : Loose S stk K h h' b := by
 obtain ⟨o, e, c⟩ := x.live' b hb
 obtain ⟨n1, n2⟩ := x.new' b hb
 obtain ⟨f, _, bb⟩ := C.fix b hb
 exact ⟨bb, n2, f.2, fun o' e' q => by rw [e] at e'; obtain rfl := Option.some.inj e'; exact c q.1, fun q => absurd q f.1⟩
theorem ItAt.keep (x : ItAt prog w S h₀ tup I wr ds K h) (ke : ∀ b o, (b ∈ wr ∨ ∃ o', K b = some o') → h.get? b = some o → h'.get? b = some o) (kk : ∀ b o, K b = some o → K' b = some o) (kn : ∀ b ∈ wr, K' b = none) : ItAt prog w S h₀ tup I wr ds K' h' := by
 have q := x.live'
 cases x with
 | N W st items len hc hi live new old =>
  refine .N W ((W {} rfl).frame _ _ _ st fun b hb o e => ?_) (fun j v p d e => (items j v p d e).mono kk) len hc hi live (fun b hb => ⟨(new b hb).1, kn b hb⟩) (fun b hb nb => let ⟨o, e⟩ := old b hb nb; ⟨o, kk _ _ e⟩)
  by_cases z : b ∈ wr
  ·exact ke b o (.inl z) e
  ·exact ke b o (.inr (old b hb z)) e
 | T W st items len hc hi live new old =>
  refine .T W ((W {} rfl).frame _ _ _ st fun b hb o e => ?_) (fun j v p d e => ?_) len hc hi live (fun b hb => ⟨(new b hb).1, kn b hb⟩) (fun b hb nb => let ⟨o, e⟩ := old b hb nb; ⟨o, kk _ _ e⟩)
  ·by_cases z : b ∈ wr
   ·exact ke b o (.inl z) e
   ·exact ke b o (.inr (old b hb z)) e
  ·obtain ⟨d₁, d₂, v₁, v₂, a, b, c, f⟩ := items j v p d e
   exact ⟨d₁, d₂, v₁, v₂, a, b, c.mono kk, f.mono kk⟩
theorem ItAt.after {P : Addr → Prop} (x : ItAt prog w S h₀ tup I wr ds K h) (C : Since S stk env wr) (hK : ∀ b o, K b = some o → Fix S stk b ∧ ¬ P b) (hP : ∀ b, P b → Own env b) (e : ExtP S stk P h h') (kx : KExt h K K') : ItAt prog w S h₀ tup I wr ds K' h' := by
 refine x.keep (fun b o q g => ?_) kx.1 (fun b hb => ?_)
 ·rcases q with q | ⟨o', q⟩
  ·obtain ⟨f, nb, _⟩ := C.fix b q
   exact e.get g f fun p => nb (hP b p)
  ·obtain ⟨f, np⟩ := hK b o' q
   exact e.get g f np
 ·cases q : K' b with
  | none => rfl
  | some o =>
   rcases kx.2 b o q with z | z
   ·rw [(x.new' b hb).2] at z; exact no_ns z
   ·obtain ⟨o', e', _⟩ := x.live' b hb; rw [e'] at z; cases z
theorem drop_cons {l : List D} {i : Nat} (e : l.drop i = d :: r) : l[i]? = some d ∧ l.drop (i + 1) = r ∧ i < l.length := by
 have h1 : i < l.length := by
  by_cases h : i < l.length
  ·exact h
  ·rw [List.drop_of_length_le (by lia)] at e; cases e
 rw [List.drop_eq_getElem_cons h1] at e
 cases e
 exact ⟨List.getElem?_eq_getElem h1, rfl, h1⟩
theorem ItAt.next {R : Shared → Prop} {C : Value → Shared → Prop} (hh : A.handled = none) (x : ItAt prog w S h₀ false I wr (d :: r) K s.heap)
  (h : ∀ v h' tk, Rep S K v d → ItAt prog w S h₀ false I wr r K h' → (∀ b o, b ∉ wr → s.heap.get? b = some o → h'.get? b = some o) → C v { s with heap := h', toks := tk }) :
  wpAny (model prog w) A (pyNext (.ref I)) (fun r s₁ => match r with | none => R s₁ | some v => C v s₁) E s := by
 generalize hd : d :: r = l at x
 cases x with
 | N W st items len hc hi live new old =>
  obtain ⟨a, b, c⟩ := drop_cons hd.symm
  refine (W A hh).item _ s _ E (len ▸ c) st fun v h' tk p st' k => ?_
  exact h v h' tk (items _ _ p _ a) (b ▸ .N W st' items len hc (by lia) live new old) k
theorem ItAt.done {R : Shared → Prop} {C : Value → Shared → Prop} (hh : A.handled = none) (x : ItAt prog w S h₀ tup I wr [] K s.heap) (h : ∀ h' tk, (∀ b o, b ∉ wr → s.heap.get? b = some o → h'.get? b = some o) → R { s with heap := h', toks := tk }) :
  wpAny (model prog w) A (pyNext (.ref I)) (fun r s₁ => match r with | none => R s₁ | some v => C v s₁) E s := by
 generalize hd : ([] : List D) = l at x
 cases x with
 | N W st items len hc hi live new old =>
  rename_i n P X ds i
  have e : i = n := by
   have := congrArg List.length hd
   rw [List.length_drop, List.length_nil] at this
   lia
  subst e
  exact (W A hh).done s _ E st h
 | T W st items len hc hi live new old =>
  rename_i n P X Mid ds i
  have e : i = n := by
   have := congrArg List.length hd
   rw [List.length_drop, List.length_nil] at this
   lia
  subst e
  exact (W A hh).done s _ E st h
theorem ItAt.self {Q : Value → Shared → Prop} (hh : A.handled = none) (x : ItAt prog w S h₀ tup I wr ds K s.heap) (h : Q (.ref I) s) : wpAny (model prog w) A (pyIter (.ref I)) Q E s := by
 cases x with
 | N W st items len hc hi live new old => exact (W A hh).self _ s Q E st h
 | T W st items len hc hi live new old => exact (W A hh).self _ s Q E st h
end
section
variable {prog : Program} {w : World} {S : Sta} {T : Tab} {k : Nat}
variable {A : Around} {stk : List Env} {K K' K₀ : Kn} {s s₀ : Shared} {env : Env} {m m₀ : Loc} {E : Value → Shared → Prop} {sc : Scope} {n : Nat} {h h' h₀ : Heap} {tup : Bool} {I : Addr} {wr : List Addr} {ds r : List D} {d : D}
theorem Lc.keep (X : Lc S stk env m K h) (ke : ∀ b o, Own env b → h.get? b = some o → h'.get? b = some o) (k : KExt h K K') : Lc S stk env m K' h' where
 kind := X.kind
 glob := X.glob
 blt := X.blt
 ns := by
  refine abs1 fun G0 hG0 => ?_
  obtain ⟨mv, ⟨o, es, ep, e, n⟩, r⟩ := X.ns
  refine hG0 ?_
  clear hG0 G0
  exact ⟨mv, ⟨o, es, ep, ke _ _ (.inl rfl) e, n⟩, fun y d a b => let ⟨v, p, q⟩ := r y d a b; ⟨v, p, q.mono k.1⟩⟩
 cel := fun y d a b => by
  obtain ⟨c, v, p, ⟨o, e, q⟩, r⟩ := X.cel y d a b
  exact ⟨c, v, p, ⟨o, ke _ _ (.inr ⟨_, lookup_mem p, rfl⟩) e, q⟩, r.mono k.1⟩
 hav := fun y a => by
  obtain ⟨c, v, p, ⟨o, e, q⟩⟩ := X.hav y a
  exact ⟨c, v, p, ⟨o, ke _ _ (.inr ⟨_, lookup_mem p, rfl⟩) e, q⟩⟩
 lK := by
  cases q : K' env.locals with
  | none => rfl
  | some o =>
   rcases k.2 _ _ q with z | z
   ·rw [X.lK] at z; exact no_ns z
   ·obtain ⟨mv, ⟨o, _, _, ho, _⟩, _⟩ := X.ns; rw [ho] at z; exact no_sn z
 lB := X.lB
 lT := X.lT
 cOk := fun p hp => by
  obtain ⟨a, b, c, d, o, e⟩ := X.cOk p hp
  refine ⟨?_, b, c, d, o, ke _ _ (.inr ⟨p, hp, rfl⟩) e⟩
  cases q : K' p.2 with
  | none => rfl
  | some o =>
   rcases k.2 _ _ q with z | z
   ·rw [a] at z; exact no_ns z
   ·rw [e] at z; exact no_sn z
 inj := X.inj
theorem own_wr (_x : ItAt prog w S h₀ tup I wr ds K h) (C : Since S stk env wr) {b : Addr} (o : Own env b) : b ∉ wr := fun q => (C.fix b q).2.1 o
theorem ItAt.stored (x : ItAt prog w S h₀ tup I wr ds K h) (C : Since S stk env wr) (X : Lc S stk env m K h) (e : ∀ b, ¬ Own env b → h'.get? b = h.get? b) : ItAt prog w S h₀ tup I wr ds K h' :=
 x.keep (fun b o q g => (e b (fun ow => by
  rcases q with q | ⟨o', q⟩
  ·exact own_wr x C ow q
  ·exact own_known X q ow)).trans g) (fun J J q => q) fun b hb => (x.new' b hb).2
theorem turnN {R C : Shared → Prop} (hh : A.handled = none) (x : ItAt prog w S h₀ false I wr (d :: r) K s.heap) (TS : St S stk K s) (X : Lc S stk env m K s.heap) (Sc : Since S stk env wr) {y : Str} {p : Pos}
  (hk : env.kindOf y = some .local ∨ env.kindOf y = some .cell)
  (h : ∀ h' tk, St S stk K { s with heap := h', toks := tk } → Lc S stk env (m.set y d) K h' → ItAt prog w S h₀ false I wr r K h' → (∀ b o, b ∉ wr → ¬ OwnAt env y b → s.heap.get? b = some o → h'.get? b = some o) → C { s with heap := h', toks := tk }) :
  wpAny (model prog w) A (pyNext (.ref I)) (fun r s₁ => match r with | none => R s₁ | some v => wpAny (model prog w) A (assign (.Name y p) env v) (fun J s₂ => C s₂) E s₁) E s := by
 refine x.next hh fun v h₁ tk rv x₁ k₁ => ?_
 have T₁ : St S stk K { s with heap := h₁, toks := tk } := TS.alter (P := (· ∈ wr)) (fun a ha => x.loose Sc ha) k₁ tk
 have X₁ : Lc S stk env m K h₁ := X.keep (fun b o q e => k₁ b o (own_wr x Sc q) e) ⟨fun J J q => q, fun J J q => .inl q⟩
 refine wpAny_assign_Name (store_sound (s := { s with heap := h₁, toks := tk }) T₁ X₁ rv hk fun h₂ tk₂ T₂ X₂ k₂ => ?_)
 exact h h₂ tk₂ T₂ X₂ (x₁.stored Sc X₁ fun b q => k₂ b fun z => q z.own) fun b o q q' e => (k₂ b q').trans (k₁ b o q e)
theorem store2 (TS : St S stk K s) (X : Lc S stk env m K s.heap) {v₁ v₂ : Value} {d₁ d₂ : D} (r₁ : Rep S K v₁ d₁) (r₂ : Rep S K v₂ d₂) {y z : Str} {py pz : Pos} (hy : env.kindOf y = some .local ∨ env.kindOf y = some .cell) (hz : env.kindOf z = some .local ∨ env.kindOf z = some .cell) {C : Shared → Prop}
  (h : ∀ h' tk, St S stk K { s with heap := h', toks := tk } → Lc S stk env ((m.set y d₁).set z d₂) K h' → (∀ b, ¬ OwnAt env y b → ¬ OwnAt env z b → h'.get? b = s.heap.get? b) → C { s with heap := h', toks := tk }) :
  wpAny (model prog w) A (assignInOrder [assign (.Name y py) env, assign (.Name z pz) env] [v₁, v₂]) (fun J s₃ => C s₃) E s := by
 refine wpAny_assignInOrder_more (wpAny_assign_Name (store_sound TS X r₁ hy fun h₁ t₁ T₁ X₁ k₁ => ?_))
 refine wpAny_assignInOrder_more (wpAny_assign_Name (store_sound (s := { s with heap := h₁, toks := t₁ }) T₁ X₁ r₂ hz fun h₂ t₂ T₂ X₂ k₂ => ?_))
 exact wpAny_assignInOrder_none (h h₂ t₂ T₂ X₂ fun b q q' => (k₂ b q').trans (k₁ b q))
theorem turnT {R C : Shared → Prop} (hh : A.handled = none) (x : ItAt prog w S h₀ true I wr (d :: r) K s.heap) (TS : St S stk K s) (X : Lc S stk env m K s.heap) (Sc : Since S stk env wr) {y z : Str} {py pz p : Pos} {j : Nat}
  (hy : env.kindOf y = some .local ∨ env.kindOf y = some .cell) (hz : env.kindOf z = some .local ∨ env.kindOf z = some .cell)
  (h : ∀ d₁ d₂ h' tk, d = .tup [d₁, d₂] → St S stk K { s with heap := h', toks := tk } → Lc S stk env ((m.set y d₁).set z d₂) K h' → ItAt prog w S h₀ true I wr r K h' → (∀ b o, b ∉ wr → ¬ OwnAt env y b → ¬ OwnAt env z b → s.heap.get? b = some o → h'.get? b = some o) → C { s with heap := h', toks := tk }) :
  wpAny (model prog w) A (pyNext (.ref I)) (fun r s₁ => match r with | none => R s₁ | some v => wpAny (model prog w) A (letOwnedTupleGo (.Tuple [.Name y py, .Name z pz] j p) (.ref I) v) (fun J s₁' => wpAny (model prog w) A (assign (.Tuple [.Name y py, .Name z pz] j p) env v) (fun J s₂ => C s₂) E s₁') E s₁) E s := by
 generalize hd : d :: r = l at x
 cases x with
 | T W st items len hc hi live new old =>
  rename_i fp n P X' Mid ds i
  obtain ⟨a, b, c⟩ := drop_cons hd.symm
  have x : ItAt prog w S h₀ true I wr (ds.drop i) K s.heap := .T W st items len hc hi live new old
  refine (W A hh).item _ s _ E (len ▸ c) st fun Tp vals h₁ t₁ pv J hT mid k₁ => ?_
  refine abs1 fun G0 hG0 => ?_
  obtain ⟨d₁, d₂, v₁, v₂, ed, rfl, r₁, r₂⟩ := items _ _ pv _ a
  refine hG0 ?_
  clear hG0 G0
  refine (W A hh).go _ _ _ i Tp { s with heap := h₁, toks := t₁ } _ E mid fun h₂ st₂ k₂ => ?_
  have hT₂ : h₂.IsTuple Tp #[v₁, v₂] := by
   obtain ⟨o, e, q⟩ := hT
   exact ⟨o, k₂ _ _ ((W A hh).apart _ _ _ mid) e, q⟩
  refine wpAny_assign_Tuple (s := { s with heap := h₂, toks := t₁ }) hh hT₂ rfl rfl fun h₃ k₃ => ?_
  have k₃' : ∀ b o, h₂.get? b = some o → h₃.get? b = some o := fun b o e => k₃ b o (Nat.ne_of_lt (Heap.lt_size e)) e
  have k : ∀ b o, b ∉ wr → s.heap.get? b = some o → h₃.get? b = some o := fun b o q e => k₃' b o (k₂ b o q (k₁ b o q e))
  have T₃ : St S stk K { s with heap := h₃, toks := t₁ } := TS.alter (P := (· ∈ wr)) (fun a ha => x.loose Sc ha) k t₁
  have X₃ : Lc S stk env m K h₃ := X.keep (fun b o q e => k b o (own_wr x Sc q) e) ⟨fun J J q => q, fun J J q => .inl q⟩
  have x₂ : ItAt prog w S h₀ true I wr r K h₂ := b ▸ .T W st₂ items len hc (by lia) live new old
  have x₃ : ItAt prog w S h₀ true I wr r K h₃ := x₂.keep (fun b o J e => k₃' b o e) (fun J J q => q) fun b hb => (new b hb).2
  exact store2 (s := { s with heap := h₃, toks := t₁ }) T₃ X₃ r₁ r₂ hy hz fun h₄ t₄ T₄ X₄ k₄ => h d₁ d₂ h₄ t₄ ed T₄ X₄ (x₃.stored Sc X₃ fun b q => k₄ b (fun z => q z.own) fun z => q z.own) fun b o q q' q'' e => (k₄ b q' q'').trans (k b o q e)
end
section
variable {prog : Program} {w : World} {S : Sta} {T : Tab} {k : Nat}
variable {A : Around} {stk : List Env} {K K' K₀ : Kn} {s s₀ : Shared} {env : Env} {m m₀ : Loc} {E : Value → Shared → Prop} {sc : Scope} {n : Nat} {h h' h₀ : Heap} {tup : Bool} {I : Addr} {wr : List Addr} {ds r : List D} {d : D}
variable {α β : Type}
theorem ev_star {a : PySem.Expr} (h : starE a = true) : ev T n sc a m = .bad := by
 cases a <;> first | (cases n <;> rfl) | exact no_ft h
theorem noStar_of {a : PySem.Expr} {g : D → Tr β} {G : β → Kn → Shared → Prop} (h : RxG S stk s K ((ev T n sc a m).bind g) G E) : starE a = false := by
 cases q : starE a with
 | false => rfl
 | true => rw [ev_star q] at h; exact h.elim
theorem arg1_sound (IE : SoundE prog w S T k n) (ar : Ar A stk k) (ko : KindOk S T sc env) {pos : Pos} {f : Value} {a : PySem.Expr} {g : D → Tr β} {G : β → Kn → Shared → Prop} (TS : St S stk K s) (X : Lc S stk env m K s.heap) {Q : Args → Shared → Prop}
  (h : RxG S stk s K ((ev T n sc a m).bind g) G E)
  (hq : ∀ v d K₁ s₁, RxG S stk s₁ K₁ (g d) G E → St S stk K₁ s₁ → Ext S stk s.heap s₁.heap → KExt s.heap K K₁ → Rep S K₁ v d → Q ⟨[v], []⟩ s₁) :
  wpAny (model prog w) A (evalArgs f true (backTo pos (starEach [a] env)) []) Q E s := by
 have ns := noStar_of h
 refine args_sound (sc := sc) (m := m) IE ar ko (by unfold noStars; rw [ns]; rfl) TS X ?_
 have h2 : RxG S stk s K ((evL (fun e => ev T n sc e m) [a]).bind fun ds => match ds with | [d] => g d | _ => .bad) G E := by
  show RxG S stk s K (((ev T n sc a m).bind fun d => .ok [d]).bind _) G E
  rw [Tr.bind_bind]
  exact h
 refine RxG.step h2 fun ds K₁ s₁ h₁ T₁ x₁ k₁ vs rs => ?_
 induction rs using Rg.Reps.casesOn with
 | nil => exact h₁.elim
 | cons r rs =>
  induction rs using Rg.Reps.casesOn with
  | nil => exact hq _ _ _ _ h₁ T₁ x₁ k₁ r
  | cons => exact h₁.elim
theorem arg2_sound (IE : SoundE prog w S T k n) (ar : Ar A stk k) (ko : KindOk S T sc env) {pos : Pos} {f : Value} {a b : PySem.Expr} {g : D → D → Tr β} {G : β → Kn → Shared → Prop} (TS : St S stk K s) (X : Lc S stk env m K s.heap) {Q : Args → Shared → Prop}
  (hb : starE b = false) (h : RxG S stk s K ((ev T n sc a m).bind fun d => (ev T n sc b m).bind fun d' => g d d') G E)
  (hq : ∀ v u d e K₁ s₁, RxG S stk s₁ K₁ (g d e) G E → St S stk K₁ s₁ → Ext S stk s.heap s₁.heap → KExt s.heap K K₁ → Rep S K₁ v d → Rep S K₁ u e → Q ⟨[v, u], []⟩ s₁) :
  wpAny (model prog w) A (evalArgs f true (backTo pos (starEach [a, b] env)) []) Q E s := by
 have ns := noStar_of h
 refine args_sound (sc := sc) (m := m) IE ar ko (by unfold noStars; rw [ns]; dsimp only; unfold noStars; rw [hb]; rfl) TS X ?_
 have h2 : RxG S stk s K ((evL (fun e => ev T n sc e m) [a, b]).bind fun ds => match ds with | [d, e] => g d e | _ => .bad) G E := by
  show RxG S stk s K (((ev T n sc a m).bind fun d => ((ev T n sc b m).bind fun e => .ok [e]).bind fun ds => .ok (d :: ds)).bind _) G E
  rw [Tr.bind_bind]
  refine h.bindMono fun a q => ?_
  rw [Tr.bind_bind, Tr.bind_bind]
  exact q
 refine RxG.step h2 fun ds K₁ s₁ h₁ T₁ x₁ k₁ vs rs => ?_
 induction rs using Rg.Reps.casesOn with
 | nil => exact h₁.elim
 | cons r rs =>
  induction rs using Rg.Reps.casesOn with
  | nil => exact h₁.elim
  | cons r' rs =>
   induction rs using Rg.Reps.casesOn with
   | nil => exact hq _ _ _ _ _ _ h₁ T₁ x₁ k₁ r r'
   | cons => exact h₁.elim
theorem RxG.whenL {b : Bool} {d : List D} {G : List D → Kn → Shared → Prop} (h : RxG S stk s K (whenL b d) G E) : b = true ∧ RxG S stk s K (.ok d) G E := by
 rcases RxG.br h with ⟨a, q⟩ | ⟨a, q⟩
 ·exact ⟨a, q⟩
 ·exact q.elim
noncomputable abbrev ItG (prog : Program) (w : World) (S : Sta) (h₀ : Heap) (tup : Bool) (Q : Value → Shared → Prop) : List D → Kn → Shared → Prop := fun ds K' s' => ∀ I wr, ItAt prog w S h₀ tup I wr ds K' s'.heap → Q (.ref I) s'
theorem iter_list (H : StaOk S) (TS : St S stk K s) {h₀ : Heap} (x₀ : Ext S stk h₀ s.heap) {v : Value} {xs : List D} (rv : Rep S K v (.list xs)) {Q : Value → Shared → Prop} (h : RxG S stk s K (whenL (decide (xs.length ≤ cap)) xs) (ItG prog w S h₀ false Q) E) : wpAny (model prog w) A (pyIter v) Q E s := by
 cases rv with
 | list ha rs =>
  rename_i l vs j
  obtain ⟨c, g⟩ := RxG.whenL h
  have c' := of_decide_eq_true c
  unfold cap at c'
  have hl := lst_is TS ha
  refine wpAny_pyIter_list hl ?_
  have T₁ := TS.grow H (h' := s.heap.push { cls := .type "list_iterator", data := .fields #[.ref l, .int 0 0] }) (fun J J e => Heap.get?_push_of_some _ e) s.toks
  have ne : l ≠ s.heap.objs.size := Nat.ne_of_lt (Heap.lt_size (TS.kin _ _ ha).1)
  refine g K _ T₁ (ExtP.keeps fun J J e => Heap.get?_push_of_some _ e) (KExt.refl _ _) s.heap.objs.size [s.heap.objs.size] ?_
  refine .N (ds := xs) (i := 0) (fun A' hh => Walks.list hh s.heap.objs.size l ne vs.toArray) ⟨⟨_, Heap.get?_push_size _ rfl, rfl, rfl⟩, (let ⟨o, e, q⟩ := hl; ⟨o, Heap.get?_push_of_some _ e, q⟩)⟩ (fun i v p d e => ?_) (by simp [rs.length]) (by simp [rs.length]; exact c') (Nat.zero_le _) (fun i h q b hb => ?_) (fun b hb => ?_) (fun b hb nb => ?_)
  ·obtain ⟨u, hu, ru⟩ := rs.get e
   have p' : vs[i]? = some v := by simpa using p
   rw [hu] at p'
   obtain rfl := Option.some.inj p'
   exact ru
  ·obtain ⟨⟨o, e, c, _⟩, _⟩ := q
   rw [List.mem_singleton.mp hb]
   exact ⟨o, e, by rw [c]; decide⟩
  ·rw [List.mem_singleton.mp hb]
   exact ⟨x₀.none (new_none _), TS.kNone (new_none _)⟩
  ·rcases List.mem_cons.mp hb with q | q
   ·exact absurd (List.mem_singleton.mpr q) nb
   ·rw [List.mem_singleton.mp q]
    exact ⟨_, ha⟩
theorem iter_range (H : StaOk S) (TS : St S stk K s) {h₀ : Heap} (x₀ : Ext S stk h₀ s.heap) {v : Int} {t : Tok} {Q : Value → Shared → Prop} (h : RxG S stk s K (whenL (decide (-1048576 ≤ v) && decide (v ≤ 1048576)) (rangeD v)) (ItG prog w S h₀ false Q) E) :
  wpAny (model prog w) A (call (.type "range") [.int v t] []) (fun u s₁ => wpAny (model prog w) A (pyIter u) Q E s₁) E s := by
 obtain ⟨c, g⟩ := RxG.whenL h
 simp only [Bool.and_eq_true, decide_eq_true_eq] at c
 have hsz : Builtin.Range.rangeSize 0 v 1 = (v.toNat : Int) := by
  unfold Builtin.Range.rangeSize
  rw [if_pos (by decide)]
  split <;> simp <;> lia
 have hsm : Builtin.Range.small 0 v 1 = true := by
  unfold Builtin.Range.small
  rw [hsz]
  simp only [Builtin.Range.rangeFitsLong, Bool.and_eq_true, Bool.or_eq_true, decide_eq_true_eq]
  refine ⟨⟨⟨⟨by lia, by lia⟩, by lia⟩, by lia⟩, .inr ?_⟩
  rw [if_pos (by decide)]
  simp only [Bool.and_eq_true, decide_eq_true_eq]
  lia
 refine call_range_1 ?_
 let o₁ : Obj := { cls := .type "range", data := .fields #[.int 0 s.toks, .int v t, .int 1 (s.toks + 1)] }
 let s₁ : Shared := { s with heap := s.heap.push o₁, toks := s.toks + 1 + 1 }
 have T₁ : St S stk K s₁ := TS.grow H (fun J J e => Heap.get?_push_of_some _ e) _
 refine wpAny_pyIter_range (s := s₁) (IsRange.new s.heap 0 v 1 s.toks t (s.toks + 1)) hsm ?_
 have T₂ := T₁.grow H (h' := s₁.heap.push { cls := .type "range_iterator", data := .fields #[rawInt 0, rawInt (Builtin.Range.rangeSize 0 v 1), rawInt 1] }) (fun J J e => Heap.get?_push_of_some _ e) s₁.toks
 refine g K _ T₂ (ExtP.keeps fun J J e => Heap.get?_push_of_some _ (Heap.get?_push_of_some _ e)) (KExt.refl _ _) s₁.heap.objs.size [s₁.heap.objs.size] ?_
 refine .N (ds := rangeD v) (i := 0) (fun A' hh => Walks.range hh s₁.heap.objs.size 0 1 v.toNat) ?_ (fun i u p d e => ?_) (by simp [rangeD]) (by lia) (Nat.zero_le _) (fun i h q b hb => ?_) (fun b hb => ?_) (fun b hb nb => absurd hb nb)
 ·show IsRangeIter _ _ _ _ _
  have e := Heap.get?_push_size s₁.heap (o := { cls := .type "range_iterator", data := .fields #[rawInt 0, rawInt (Builtin.Range.rangeSize 0 v 1), rawInt 1] }) rfl
  rw [hsz] at e
  rw [hsz]
  simpa using e
 ·obtain ⟨tk, rfl⟩ := p
  unfold rangeD at e
  rw [List.getElem?_map] at e
  obtain ⟨j, hj, rfl⟩ := Option.map_eq_some_iff.mp e
  have hj' := (List.getElem?_eq_some_iff.mp hj)
  obtain ⟨hlt, hj'⟩ := hj'
  rw [List.getElem_range] at hj'
  subst hj'
  have : (0 : Int) + (i : Nat) * 1 = (i : Nat) := by lia
  rw [this]
  exact .int _ _
 ·rw [List.mem_singleton.mp hb]
  exact ⟨_, q, (by show Value.type "range_iterator" ≠ Value.type "code"; decide)⟩
 ·rw [List.mem_singleton.mp hb]
  refine ⟨(x₀.trans (ExtP.keeps fun J J e => Heap.get?_push_of_some _ e)).none (new_none s₁.heap), T₁.kNone (new_none _)⟩
theorem rep_list {v : Value} {xs : List D} (rv : Rep S K v (.list xs)) : ∃ l vs j, v = .ref l ∧ K l = some { cls := .type "list", data := .seq vs.toArray j } ∧ Reps S K vs xs := by
 cases rv with
 | list ha rs => exact ⟨_, _, _, rfl, ha, rs⟩
theorem enumD_get (xs : List D) : ∀ (k j : Nat), (enumD k xs)[j]? = (xs[j]?).map fun d => .tup [.int (k + j : Nat), d] := by
 induction xs with
 | nil => intro k j; rfl
 | cons x r ih =>
  intro k j
  induction j using Nat.casesOn with
  | zero => rfl
  | succ j =>
   show (enumD (k + 1) r)[j]? = (r[j]?).map _
   rw [ih (k + 1) j, show k + 1 + j = k + (j + 1) by lia]
theorem enumD_len (xs : List D) : ∀ k, (enumD k xs).length = xs.length := by
 induction xs with
 | nil => intro k; rfl
 | cons x r ih => intro k; show (enumD (k + 1) r).length + 1 = r.length + 1; rw [ih]
theorem zipD_get : ∀ (xs ys : List D) (j : Nat) (d : D), (zipD xs ys)[j]? = some d → ∃ a b, xs[j]? = some a ∧ ys[j]? = some b ∧ d = .tup [a, b]
 | [], _, _, _, h => no_ns h
 | _ :: _, [], _, _, h => no_ns h
 | a :: r, b :: q, 0, d, h => ⟨a, b, rfl, rfl, (Option.some.inj h).symm⟩
 | a :: r, b :: q, j + 1, d, h => zipD_get r q j d h
theorem zipD_len : ∀ (xs ys : List D), (zipD xs ys).length = min xs.length ys.length
 | [], ys => (Nat.zero_min ys.length).symm
 | _ :: r, [] => (Nat.min_zero (r.length + 1)).symm
 | a :: r, b :: q => by
  show (zipD r q).length + 1 = min (r.length + 1) (q.length + 1)
  rw [zipD_len r q, Nat.add_min_add_right]
theorem iter_enum (H : StaOk S) (TS : St S stk K s) {h₀ : Heap} (x₀ : Ext S stk h₀ s.heap) {v : Value} {xs : List D} (rv : Rep S K v (.list xs)) {Q : Value → Shared → Prop} (h : RxG S stk s K (whenL (decide (xs.length ≤ cap)) (enumD 0 xs)) (ItG prog w S h₀ true Q) E) :
  wpAny (model prog w) A (call (.type "enumerate") [v] []) (fun u s₁ => wpAny (model prog w) A (pyIter u) Q E s₁) E s := by
 obtain ⟨l, vs, j, rfl, ha, rs⟩ := rep_list rv
 obtain ⟨c, g⟩ := RxG.whenL h
 have hl := lst_is TS ha
 refine call_enumerate_list hl fun h' he hit hz hk => ?_
 refine wpAny_pyIter_enum (s := { s with heap := h' }) he ?_
 have T₁ := TS.grow H hk s.toks
 have ll : l < s.heap.objs.size := Heap.lt_size (TS.kin _ _ ha).1
 refine g K _ T₁ (ExtP.keeps hk) (KExt.refl _ _) (s.heap.objs.size + 1) [s.heap.objs.size + 1, s.heap.objs.size] ?_
 have nn : ∀ b, s.heap.objs.size ≤ b → h₀.get? b = none ∧ K b = none := fun b hb => ⟨x₀.none (Heap.get?_none_of_le hb), TS.kNone (Heap.get?_none_of_le hb)⟩
 refine .T (ds := enumD 0 xs) (i := 0) (fun A' hh => WalksT.enumerate hh (s.heap.objs.size + 1) s.heap.objs.size l (Nat.succ_ne_self _) (Nat.ne_of_lt (Nat.lt_succ_of_lt ll)) (Nat.ne_of_lt ll) vs.toArray)
  ⟨⟨.none, he⟩, hit, (let ⟨o, e, q⟩ := hl; ⟨o, hk _ _ e, q⟩)⟩ (fun i vals p d e => ?_) (by rw [enumD_len]; simp [rs.length]) (by have c' := of_decide_eq_true c; unfold cap at c'; simp [rs.length]; exact c') (Nat.zero_le _) (fun i h q b hb => ?_) (fun b hb => ?_) (fun b hb nb => ?_)
 ·obtain ⟨t, x, hx, rfl⟩ := p
  rw [enumD_get] at e
  obtain ⟨d', hd, rfl⟩ := Option.map_eq_some_iff.mp e
  obtain ⟨u, hu, ru⟩ := rs.get hd
  have hx' : vs[i]? = some x := by simpa using hx
  rw [hu] at hx'
  obtain rfl := Option.some.inj hx'
  exact ⟨_, _, _, _, rfl, rfl, by rw [Nat.zero_add]; exact .int _ _, ru⟩
 ·obtain ⟨⟨old, q1⟩, ⟨o, e, c, _⟩, _⟩ := q
  rcases List.mem_cons.mp hb with rfl | hb
  ·exact ⟨_, q1, (by show Value.type "enumerate" ≠ Value.type "code"; decide)⟩
  ·rw [List.mem_singleton.mp hb]; exact ⟨o, e, by rw [c]; decide⟩
 ·rcases List.mem_cons.mp hb with rfl | hb
  ·exact nn _ (by lia)
  ·rw [List.mem_singleton.mp hb]; exact nn _ (by lia)
 ·rcases List.mem_cons.mp hb with rfl | hb
  ·exact absurd (.head _) nb
  ·rcases List.mem_cons.mp hb with rfl | hb
   ·exact absurd (.tail _ (.head _)) nb
   ·rw [List.mem_singleton.mp hb]; exact ⟨_, ha⟩
end
section
variable {prog : Program} {w : World} {S : Sta} {T : Tab} {k : Nat}
variable {A : Around} {stk : List Env} {K K' K₀ : Kn} {s s₀ : Shared} {env : Env} {m m₀ : Loc} {E : Value → Shared → Prop} {sc : Scope} {n : Nat} {h h' h₀ : Heap} {tup : Bool} {I : Addr} {wr : List Addr} {ds r : List D} {d : D}
theorem iter_zip (H : StaOk S) (TS : St S stk K s) {h₀ : Heap} (x₀ : Ext S stk h₀ s.heap) {v u : Value} {xs ys : List D} (rv : Rep S K v (.list xs)) (ru : Rep S K u (.list ys)) {Q : Value → Shared → Prop}
  (h : RxG S stk s K (whenL (decide (xs.length ≤ cap) && decide (ys.length ≤ cap)) (zipD xs ys)) (ItG prog w S h₀ true Q) E) :
  wpAny (model prog w) A (call (.type "zip") [v, u] []) (fun u s₁ => wpAny (model prog w) A (pyIter u) Q E s₁) E s := by
 obtain ⟨l, vs, j, rfl, ha, rs⟩ := rep_list rv
 obtain ⟨l₂, us, j₂, rfl, hb', rs₂⟩ := rep_list ru
 obtain ⟨c, g⟩ := RxG.whenL h
 have hl := lst_is TS ha
 have hl₂ := lst_is TS hb'
 refine call_zip_2 hl hl₂ fun h' hz hTI hTO i1 i2 hsz hk => ?_
 refine wpAny_pyIter_zip (s := { s with heap := h' }) hz ?_
 have ll : l < s.heap.objs.size := Heap.lt_size (TS.kin _ _ ha).1
 have ll₂ : l₂ < s.heap.objs.size := Heap.lt_size (TS.kin _ _ hb').1
 have T₁ := TS.put H hk (Heap.get?_none_of_le (Nat.le_add_right _ 2)) hTI s.toks
 have nn : ∀ b, s.heap.objs.size ≤ b → h₀.get? b = none ∧ K b = none := fun b hb => ⟨x₀.none (Heap.get?_none_of_le hb), TS.kNone (Heap.get?_none_of_le hb)⟩
 have n2 := nn (s.heap.objs.size + 2) (Nat.le_add_right _ 2)
 refine g _ _ T₁ (ExtP.keeps hk) (KExt.put (Heap.get?_none_of_le (Nat.le_add_right _ 2)) n2.2) (s.heap.objs.size + 4) [s.heap.objs.size + 4, s.heap.objs.size + 3, s.heap.objs.size, s.heap.objs.size + 1] ?_
 have lt : ∀ {a : Nat} (j : Nat), a < s.heap.objs.size → a ≠ s.heap.objs.size + j := fun j h => by lia
 have ne : ∀ (i j : Nat), i ≠ j → s.heap.objs.size + i ≠ s.heap.objs.size + j := fun i j h => by lia
 have D : ZipApart (s.heap.objs.size + 4) (s.heap.objs.size + 2) (s.heap.objs.size + 3) s.heap.objs.size (s.heap.objs.size + 1) l l₂ :=
  ⟨ne 2 4 (by decide), ne 3 4 (by decide), ne 0 4 (by decide), ne 1 4 (by decide), ne 2 3 (by decide), ne 2 0 (by decide), ne 2 1 (by decide), ne 3 0 (by decide), ne 3 1 (by decide), ne 0 1 (by decide),
   lt 4 ll, lt 3 ll, lt 0 ll, lt 1 ll, lt 4 ll₂, lt 3 ll₂, lt 0 ll₂, lt 1 ll₂⟩
 refine .T (ds := zipD xs ys) (i := 0) (fun A' hh => WalksT.zip2 hh _ _ _ _ _ l l₂ D vs.toArray us.toArray)
  ⟨hz, hTI, ⟨_, _, hTO⟩, i1, i2, (let ⟨o, e, q⟩ := hl; ⟨o, hk _ _ e, q⟩), (let ⟨o, e, q⟩ := hl₂; ⟨o, hk _ _ e, q⟩)⟩ (fun i vals p d e => ?_) (by rw [zipD_len]; simp [rs.length, rs₂.length]) (by simp only [Bool.and_eq_true, decide_eq_true_eq] at c; unfold cap at c; have := rs.length; simp only [List.size_toArray]; lia) (Nat.zero_le _) (fun i h q b hb => ?_) (fun b hb => ?_) (fun b hb nb => ?_)
 ·obtain ⟨x, y, hx, hy, rfl⟩ := p
  refine abs1 fun G0 hG0 => ?_
  obtain ⟨a, b, ea, eb, rfl⟩ := zipD_get _ _ _ _ e
  obtain ⟨u, hu, ru⟩ := rs.get ea
  obtain ⟨u₂, hu₂, ru₂⟩ := rs₂.get eb
  refine hG0 ?_
  clear hG0 G0
  have hx' : vs[i]? = some x := by simpa using hx
  have hy' : us[i]? = some y := by simpa using hy
  rw [hu] at hx'
  rw [hu₂] at hy'
  obtain rfl := Option.some.inj hx'
  obtain rfl := Option.some.inj hy'
  exact ⟨_, _, _, _, rfl, rfl, ru.mono (Kn.put_old n2.2), ru₂.mono (Kn.put_old n2.2)⟩
 ·obtain ⟨q1, _, ⟨_, _, q3⟩, ⟨o, e, c, _⟩, ⟨o', e', c', _⟩, _⟩ := q
  rcases List.mem_cons.mp hb with rfl | hb
  ·exact ⟨_, q1, (by show Value.type "zip" ≠ Value.type "code"; decide)⟩
  rcases List.mem_cons.mp hb with rfl | hb
  ·exact ⟨_, q3, (by show Value.type "tuple" ≠ Value.type "code"; decide)⟩
  rcases List.mem_cons.mp hb with rfl | hb
  ·exact ⟨o, e, by rw [c]; decide⟩
  ·rw [List.mem_singleton.mp hb]; exact ⟨o', e', by rw [c']; decide⟩
 ·have key : ∀ i, i ≠ 2 → h₀.get? (s.heap.objs.size + i) = none ∧ K.put (s.heap.objs.size + 2) { cls := .type "tuple", data := .seq #[.ref s.heap.objs.size, .ref (s.heap.objs.size + 1)] } (s.heap.objs.size + i) = none := fun i hi => by
   obtain ⟨a, b⟩ := nn (s.heap.objs.size + i) (Nat.le_add_right _ i)
   refine ⟨a, ?_⟩
   unfold Kn.put
   rw [if_neg (ne i 2 hi)]
   exact b
  rcases List.mem_cons.mp hb with rfl | hb
  ·exact key 4 (by decide)
  rcases List.mem_cons.mp hb with rfl | hb
  ·exact key 3 (by decide)
  rcases List.mem_cons.mp hb with rfl | hb
  ·exact key 0 (by decide)
  ·rw [List.mem_singleton.mp hb]; exact key 1 (by decide)
 ·rcases List.mem_cons.mp hb with rfl | hb
  ·exact absurd (.head _) nb
  rcases List.mem_cons.mp hb with rfl | hb
  ·exact ⟨_, Kn.put_self _ _ _⟩
  rcases List.mem_cons.mp hb with rfl | hb
  ·exact absurd (.tail _ (.head _)) nb
  rcases List.mem_cons.mp hb with rfl | hb
  ·exact absurd (.tail _ (.tail _ (.head _))) nb
  rcases List.mem_cons.mp hb with rfl | hb
  ·exact absurd (.tail _ (.tail _ (.tail _ (.head _)))) nb
  rcases List.mem_cons.mp hb with rfl | hb
  ·exact ⟨_, Kn.put_old n2.2 _ _ ha⟩
  ·rw [List.mem_singleton.mp hb]; exact ⟨_, Kn.put_old n2.2 _ _ hb'⟩
theorem rx_pickL {b : Bool} {x y : Tr (List D)} {G : List D → Kn → Shared → Prop} (h : RxG S stk s K (pickL b x y) G E) : (b = true ∧ RxG S stk s K x G E) ∨ (b = false ∧ RxG S stk s K y G E) := by
 induction b using Bool.casesOn with
 | true => exact .inl ⟨rfl, h⟩
 | false => exact .inr ⟨rfl, h⟩
theorem keeps_type {M : Model} (id : String) (h : Heap) (_ : True) : ∃ k, (k = Keeper.frame ∨ k = Keeper.machine ∨ k = Keeper.boundFrame) ∧ Looks M h (keeperOf (.type id)) k :=
 ⟨.machine, .inr (.inl rfl), Looks.now⟩
theorem debug_ne {x y : Str} (h : x = y) (hy : (y == ("__debug__" : Str)) = false) : (x == ("__debug__" : Str)) = false := h ▸ hy
theorem evI_sound (H : StaOk S) (CO : ClsOk S) (IE : SoundE prog w S T k n) (ar : Ar A stk k) (ko : KindOk S T sc env) (TS : St S stk K s) (X : Lc S stk env m K s.heap) {it : PySem.Expr} {Q : Value → Shared → Prop}
  (h : RxG S stk s K (evI (fun e => ev T n sc e m) sc it) (ItG prog w S s.heap (pairsI it) Q) E) : wpAny (model prog w) A (eval it env) (fun v s₁ => wpAny (model prog w) A (pyIter v) Q E s₁) E s := by
 have plain : ∀ {e : PySem.Expr}, RxG S stk s K ((ev T n sc e m).bind fun d => match d with | .list xs => whenL (decide (xs.length ≤ cap)) xs | _ => .bad) (ItG prog w S s.heap false Q) E →
   wpAny (model prog w) A (eval e env) (fun v s₁ => wpAny (model prog w) A (pyIter v) Q E s₁) E s := fun {e} h => by
  refine IE sc e m env A stk K s _ E ar TS X ko (h.stepV fun v d K₁ s₁ h₁ T₁ x₁ k₁ r₁ => ?_)
  induction d using D.casesOn with
  | list xs => exact iter_list H T₁ x₁ r₁ h₁
  | _ => exact h₁.elim
 induction it using PySem.Expr.casesOn with
 | Name x p => exact plain h
 | Subscript a b p => exact plain h
 | Call f as ks pos =>
  induction f using PySem.Expr.casesOn with
  | Name x p =>
   induction ks using List.casesOn with
   | cons _ _ => exact h.elim
   | nil =>
    have step : ∀ {v : Value}, sc.names.lookup x = some .globalImplicit → (x == ("__debug__" : Str)) = false → GlobIs S x v → (∀ h, True → ∃ k, (k = Keeper.frame ∨ k = Keeper.machine ∨ k = Keeper.boundFrame) ∧ Looks (model prog w) h (keeperOf v) k) → noStars as = true →
      wpAny (model prog w) A (evalArgs v true (backTo pos (starEach as env)) []) (fun a s₁ => wpAny (model prog w) A (call v a.pos a.kw) (fun u s₂ => wpAny (model prog w) A (pyIter u) Q E s₂) E s₁) E s →
      wpAny (model prog w) A (eval (.Call (.Name x p) as [] pos) env) (fun v s₁ => wpAny (model prog w) A (pyIter v) Q E s₁) E s := fun {v} hs hd hv hk hn go => by
     have kx := ko.kind x
     rw [hs] at kx
     show wpAny _ _ (eval (.Name x p) env >>= fun f => callWith pos f [] (backTo pos (starEach as env)) (backToKw pos (keywordEach [] env))) _ _ s
     refine wpAny_bind (global_sound H TS X kx hd hv ?_)
     exact callWith_of (P := fun J => True) (by rw [noStars_any hn]; rfl) hk (wpAny_mono go (fun a s₁ q => ⟨trivial, q⟩) fun J J q => q)
    rcases rx_pickL h with ⟨hs, h⟩ | ⟨_, h⟩
    rotate_left
    ·exact h.elim
    have hs' := beq_iff_eq.mp hs
    rcases rx_pickL h with ⟨h1, h⟩ | ⟨_, h⟩
    ·have hx := beq_iff_eq.mp h1
     have pr : pairsI (.Call (.Name x p) as [] pos) = false := by subst hx; rfl
     rw [pr] at h
     induction as using List.casesOn with
     | nil => exact h.elim
     | cons a as =>
      induction as using List.casesOn with
      | cons _ _ => exact h.elim
      | nil =>
       have h : RxG S stk s K ((ev T n sc a m).bind fun d => match d with | .int n => whenL (decide (-1048576 ≤ n) && decide (n ≤ 1048576)) (rangeD n) | _ => .bad) (ItG prog w S s.heap false Q) E := h
       refine step hs' (debug_ne hx (by decide)) (hx ▸ CO.range) (keeps_type _) (by unfold noStars; rw [noStar_of h]; rfl) ?_
       refine arg1_sound IE ar ko TS X h fun v d K₁ s₁ h₁ T₁ x₁ k₁ r₁ => ?_
       induction r₁ using Rg.Rep.casesOn with
       | int i t => exact iter_range H T₁ x₁ h₁
       | _ => exact h₁.elim
    rcases rx_pickL h with ⟨h1, h⟩ | ⟨_, h⟩
    ·have hx := beq_iff_eq.mp h1
     have pr : pairsI (.Call (.Name x p) as [] pos) = true := by subst hx; rfl
     rw [pr] at h
     induction as using List.casesOn with
     | nil => exact h.elim
     | cons a as =>
      induction as using List.casesOn with
      | cons _ _ => exact h.elim
      | nil =>
       have h : RxG S stk s K ((ev T n sc a m).bind fun d => match d with | .list xs => whenL (decide (xs.length ≤ cap)) (enumD 0 xs) | _ => .bad) (ItG prog w S s.heap true Q) E := h
       refine step hs' (debug_ne hx (by decide)) (hx ▸ CO.enumerate) (keeps_type _) (by unfold noStars; rw [noStar_of h]; rfl) ?_
       refine arg1_sound IE ar ko TS X h fun v d K₁ s₁ h₁ T₁ x₁ k₁ r₁ => ?_
       induction d using D.casesOn with
       | list xs => exact iter_enum H T₁ x₁ r₁ h₁
       | _ => exact h₁.elim
    rcases rx_pickL h with ⟨h1, h⟩ | ⟨_, h⟩
    ·have hx := beq_iff_eq.mp h1
     have pr : pairsI (.Call (.Name x p) as [] pos) = true := by subst hx; rfl
     rw [pr] at h
     induction as using List.casesOn with
     | nil => exact h.elim
     | cons a as =>
      induction as using List.casesOn with
      | nil => exact h.elim
      | cons b as =>
       induction as using List.casesOn with
       | cons _ _ => exact h.elim
       | nil =>
        rcases rx_pickL h with ⟨_, h⟩ | ⟨hb, h⟩
        ·exact h.elim
        have h : RxG S stk s K ((ev T n sc a m).bind fun d => (ev T n sc b m).bind fun d' => match d, d' with | .list xs, .list ys => whenL (decide (xs.length ≤ cap) && decide (ys.length ≤ cap)) (zipD xs ys) | _, _ => .bad) (ItG prog w S s.heap true Q) E := h
        refine step hs' (debug_ne hx (by decide)) (hx ▸ CO.zip) (keeps_type _) (by unfold noStars; rw [noStar_of h]; dsimp only; unfold noStars; rw [hb]; rfl) ?_
        refine arg2_sound (g := fun d d' => match d, d' with | .list xs, .list ys => whenL (decide (xs.length ≤ cap) && decide (ys.length ≤ cap)) (zipD xs ys) | _, _ => .bad) IE ar ko TS X hb h fun v u d d' K₁ s₁ h₁ T₁ x₁ k₁ r₁ r₂ => ?_
        induction d using D.casesOn with
        | list xs =>
         induction d' using D.casesOn with
         | list ys => exact iter_zip H T₁ x₁ r₁ r₂ h₁
         | _ => exact h₁.elim
        | _ => exact h₁.elim
    exact h.elim
  | _ => induction ks using List.casesOn <;> exact h.elim
 | _ => exact h.elim
end
noncomputable def cloOf (env : Env) : List (Str × NameKind) → List (Str × Addr) → List (Str × Addr)
 | [], acc => acc
 | (x, .free) :: r, acc => cloOf env r ((x, (env.cells.lookup x).getD 0) :: acc)
 | _ :: r, acc => cloOf env r acc
theorem clo_mem {env : Env} : ∀ {names : List (Str × NameKind)} {acc : List (Str × Addr)} {p : Str × Addr}, p ∈ cloOf env names acc → p ∈ acc ∨ ((p.1, NameKind.free) ∈ names ∧ p.2 = (env.cells.lookup p.1).getD 0)
 | [], acc, p, h => .inl h
 | (x, k) :: r, acc, p, h => by
  induction k using PySem.NameKind.casesOn with
  | free =>
   rcases clo_mem (names := r) h with h | ⟨a, b⟩
   ·rcases List.mem_cons.mp h with rfl | h
    ·exact .inr ⟨.head _, rfl⟩
    ·exact .inl h
   ·exact .inr ⟨.tail _ a, b⟩
  | _ =>
   rcases clo_mem (names := r) h with h | ⟨a, b⟩
   ·exact .inl h
   ·exact .inr ⟨.tail _ a, b⟩
theorem clo_acc {env : Env} {x : Str} : ∀ {names : List (Str × NameKind)} {acc : List (Str × Addr)}, acc.lookup x = some ((env.cells.lookup x).getD 0) → (cloOf env names acc).lookup x = some ((env.cells.lookup x).getD 0)
 | [], acc, h => h
 | (y, k) :: r, acc, h => by
  induction k using PySem.NameKind.casesOn with
  | free =>
   refine clo_acc (names := r) ?_
   rw [List.lookup_cons]
   cases q : x == y with
   | true => rw [beq_iff_eq.mp q]
   | false => exact h
  | _ => exact clo_acc (names := r) h
theorem clo_some {env : Env} {x : Str} : ∀ {names : List (Str × NameKind)} {acc : List (Str × Addr)}, (x, NameKind.free) ∈ names → (cloOf env names acc).lookup x = some ((env.cells.lookup x).getD 0)
 | (y, k) :: r, acc, h => by
  rcases List.mem_cons.mp h with h' | h'
  ·cases h'
   refine clo_acc (names := r) ?_
   rw [List.lookup_cons]
   simp
  ·cases k <;> exact clo_some (names := r) (acc := _) (by assumption)
theorem closureFor_clo {scope : Scope} {env : Env} (h : ∀ x, (x, NameKind.free) ∈ scope.names → ∃ c, env.cells.lookup x = some c) : closureFor scope env = pure (cloOf env scope.names []) := by
 unfold closureFor
 have key : ∀ (names : List (Str × NameKind)) (acc : List (Str × Addr)), (∀ x, (x, NameKind.free) ∈ names → ∃ c, env.cells.lookup x = some c) →
   (forIn names acc fun p cs => match p with
    | (name, kind) => if kind == .free then (do let a ← cellOf env name; pure (ForInStep.yield ((name, a) :: cs))) else pure (ForInStep.yield cs) : Sem (List (Str × Addr))) = pure (cloOf env names acc) := by
  intro names
  induction names with
  | nil => intro acc _; rfl
  | cons p r ih =>
   intro acc h
   obtain ⟨x, k⟩ := p
   rw [List.forIn_cons]
   cases hk : (k == NameKind.free) with
   | true =>
    have hk' : k = .free := by simpa using hk
    subst hk'
    obtain ⟨c, hc⟩ := h x (.head _)
    have e : cellOf env x = pure c := by unfold cellOf; rw [hc]
    simp only [beq_self_eq_true, if_true, e, pure_bind]
    rw [ih _ fun y hy => h y (.tail _ hy)]
    show _ = pure (cloOf env r ((x, (env.cells.lookup x).getD 0) :: acc))
    rw [hc]
    rfl
   | false =>
    simp only [hk, Bool.false_eq_true, if_false, pure_bind]
    rw [ih _ fun y hy => h y (.tail _ hy)]
    cases k <;> first | rfl | exact no_tf hk
 have := key scope.names [] h
 simp only [bind_pure]
 exact this
theorem lookup_relabel {b : Str → Bool} : ∀ {names : List (Str × NameKind)} {x : Str}, (names.map fun (n, k) => if (k == NameKind.free && b n) = true then (n, NameKind.cell) else (n, k)).lookup x = (names.lookup x).map fun k => if (k == NameKind.free && b x) = true then NameKind.cell else k
 | [], _ => rfl
 | (n, k) :: r, x => by
  show List.lookup x ((if (k == NameKind.free && b n) = true then (n, NameKind.cell) else (n, k)) :: _) = _
  have ih := @lookup_relabel b r x
  rw [List.lookup_cons]
  cases q : x == n with
  | true =>
   have q' := beq_iff_eq.mp q
   subst q'
   by_cases c : (k == NameKind.free && b x) = true
   ·rw [if_pos c]; simp only [List.lookup_cons, beq_self_eq_true, Option.map_some]; rw [if_pos c]
   ·rw [if_neg c]; simp only [List.lookup_cons, beq_self_eq_true, Option.map_some]; rw [if_neg c]
  | false =>
   by_cases c : (k == NameKind.free && b n) = true
   ·rw [if_pos c]; simp only [List.lookup_cons, q]; exact ih
   ·rw [if_neg c]; simp only [List.lookup_cons, q]; exact ih
section
variable {prog : Program} {w : World} {S : Sta} {T : Tab} {k : Nat}
variable {A : Around} {stk : List Env} {K K' K₀ : Kn} {s s₀ : Shared} {env : Env} {m m₀ : Loc} {E : Value → Shared → Prop} {sc sc' : Scope} {n : Nat} {h h' h₀ : Heap} {tup : Bool} {I : Addr} {wr : List Addr} {ds r : List D} {d : D}
theorem freesOk_mem : ∀ {l : List (Str × NameKind)} {x : Str}, freesOk sc l = true → (x, NameKind.free) ∈ l → sc.names.lookup x = some .cell
 | (y, k) :: r, x, h, hm => by
  induction k using PySem.NameKind.casesOn with
  | free =>
   have h' : (sc.names.lookup y == some .cell && freesOk sc r) = true := h
   rw [Bool.and_eq_true] at h'
   rcases List.mem_cons.mp hm with q | q
   ·cases q; exact beq_iff_eq.mp h'.1
   ·exact freesOk_mem h'.2 q
  | _ =>
   rcases List.mem_cons.mp hm with q | q
   ·cases q
   ·exact freesOk_mem (l := r) h q
theorem noCell_mem : ∀ {l : List (Str × NameKind)}, noCell l = true → ∀ y ∈ l, y.2 ≠ .cell
 | (y, k) :: r, h, p, hm => by
  induction k using PySem.NameKind.casesOn with
  | cell => exact no_ft h
  | _ =>
   rcases List.mem_cons.mp hm with q | q
   ·subst q; intro z; cases z
   ·exact noCell_mem (l := r) h p q
theorem lookup_kind_mem {l : List (Str × NameKind)} {x : Str} {k : NameKind} (h : l.lookup x = some k) : (x, k) ∈ l := lookup_mem h
theorem freeOf_lookup (sc : Scope) (x : Str) : ∀ m : Loc, (freeOf sc m).lookup x = if (sc.names.lookup x == some NameKind.free) = true then m.lookup x else none
 | [] => by unfold freeOf; simp
 | (y, d) :: r => by
  have ih := freeOf_lookup sc x r
  unfold freeOf at ih ⊢
  rw [List.filter_cons]
  cases q : x == y with
  | true =>
   have q' := beq_iff_eq.mp q
   subst q'
   by_cases c : (sc.names.lookup x == some NameKind.free) = true
   ·rw [if_pos c, if_pos c, List.lookup_cons, List.lookup_cons]; simp
   ·rw [if_neg c, ih, if_neg c, if_neg c]
  | false =>
   by_cases c : (sc.names.lookup y == some NameKind.free) = true
   ·rw [if_pos c, List.lookup_cons, q, ih, List.lookup_cons, q]
   ·rw [if_neg c, ih, List.lookup_cons, q]
theorem freeOf_some {sc : Scope} {m : Loc} {x : Str} {d : D} (h : (freeOf sc m).lookup x = some d) : sc.names.lookup x = some .free ∧ m.lookup x = some d := by
 rw [freeOf_lookup] at h
 by_cases c : (sc.names.lookup x == some NameKind.free) = true
 ·rw [if_pos c] at h; exact ⟨beq_iff_eq.mp c, h⟩
 ·rw [if_neg c] at h; exact no_ns h
theorem comp_kindOf {C : Addr} {cl : List (Str × Addr)} (kind : env.scope.kind = .function) (x : Str) : (compEnvC sc' cl C env).kindOf x = (sc'.names.lookup x).map fun k => if (k == NameKind.free && env.kindOf x == some .cell) = true then NameKind.cell else k := by
 show List.lookup x (relabel sc' env).names = _
 unfold relabel
 have e : (env.scope.kind == ScopeKind.function) = true := by rw [kind]; rfl
 have := lookup_relabel (b := fun n => env.kindOf n == some .cell) (names := sc'.names) (x := x)
 rw [← this]
 congr 1
 apply List.map_congr_left
 intro p _
 obtain ⟨n, k⟩ := p
 simp only [e, Bool.and_true]
theorem compKind (kind : env.scope.kind = .function) (ko : KindOk S T sc env) (hn : noCell sc'.names = true) {C : Addr} {cl : List (Str × Addr)} : KindOk S T sc' (compEnvC sc' cl C env) where
 kind := fun x => by
  have e := comp_kindOf (sc' := sc') (C := C) (cl := cl) kind x
  cases q : sc'.names.lookup x with
  | none => trivial
  | some z =>
   rw [q] at e
   induction z using PySem.NameKind.casesOn with
   | «local» => exact e
   | cell => exact absurd rfl (noCell_mem hn _ (lookup_kind_mem q))
   | free =>
    by_cases c : (env.kindOf x == some .cell) = true
    ·exact .inl (e.trans (by simp [c]))
    ·exact .inr (e.trans (by simp [c]))
   | globalImplicit => exact e
   | globalExplicit => trivial
 lam := ko.lam
theorem compLc (X : Lc S stk env m K h) (ko : KindOk S T sc env) (hf : freesOk sc sc'.names = true) (hn : noCell sc'.names = true) (hk : sc'.kind = .function) {C : Addr} {mv : Str → Option Value} (old : ∀ b o, h.get? b = some o → h'.get? b = some o) (hC : h.get? C = none) (kC : K C = none) (bC : S.B.get? C = none) (tC : C ∉ S.tabAt)
  (hns : h'.Ns C mv) : Lc S stk (compEnvC sc' (cloOf env sc'.names []) C env) (freeOf sc' m) K h' := by
 have cells : ∀ p ∈ cloOf env sc'.names [], (p.1, NameKind.free) ∈ sc'.names ∧ env.cells.lookup p.1 = some p.2 := fun p hp => by
  rcases clo_mem hp with q | ⟨a, b⟩
  ·cases q
  ·have := ko.kind p.1
   rw [freesOk_mem hf a] at this
   obtain ⟨c, _, hc, _⟩ := X.hav _ this
   rw [hc] at b
   exact ⟨a, by rw [hc, b]; rfl⟩
 have look : ∀ x, (x, NameKind.free) ∈ sc'.names → ∃ c, env.kindOf x = some .cell ∧ env.cells.lookup x = some c ∧ (cloOf env sc'.names []).lookup x = some c := fun x hx => by
  have := ko.kind x
  rw [freesOk_mem hf hx] at this
  obtain ⟨c, _, hc, _⟩ := X.hav _ this
  exact ⟨c, this, hc, by rw [clo_some hx, hc]; rfl⟩
 refine ⟨hk, X.glob, X.blt, ⟨mv, hns, fun x d e q => ?_⟩, fun x d e J => ?_, fun x q => ?_, kC, bC, tC, fun p hp => ?_, fun p hp q hq e => ?_⟩
 ·obtain ⟨a, _⟩ := freeOf_some e
  rw [comp_kindOf X.kind, a] at q
  by_cases c : (env.kindOf x == some .cell) = true
  ·simp [c] at q
  ·simp [c] at q
 ·obtain ⟨a, b⟩ := freeOf_some e
  refine abs1 fun G0 hG0 => ?_
  obtain ⟨c, k1, k2, k3⟩ := look x (lookup_kind_mem a)
  obtain ⟨c', v, e1, ⟨o, e2, e3⟩, r⟩ := X.cel x d b (.inl k1)
  refine hG0 ?_
  clear hG0 G0
  rw [k2] at e1
  obtain rfl := Option.some.inj e1
  exact ⟨c, v, k3, ⟨o, old _ _ e2, e3⟩, r⟩
 ·rw [comp_kindOf X.kind] at q
  cases a : sc'.names.lookup x with
  | none => rw [a] at q; exact no_ns q
  | some z =>
   rw [a] at q
   have hz : z = .free ∨ z = .cell := by
    cases z <;> first | exact .inl rfl | exact .inr rfl | (simp at q)
   rcases hz with rfl | rfl
   ·obtain ⟨c, k1, k2, k3⟩ := look x (lookup_kind_mem a)
    obtain ⟨c', v, e1, ⟨o, e2, e3⟩⟩ := X.hav x k1
    rw [k2] at e1
    obtain rfl := Option.some.inj e1
    exact ⟨c, v, k3, ⟨o, old _ _ e2, e3⟩⟩
   ·exact absurd rfl (noCell_mem hn _ (lookup_kind_mem a))
 ·obtain ⟨_, e⟩ := cells p hp
  refine abs1 fun G0 hG0 => ?_
  obtain ⟨a, b, c, d, o, ho⟩ := X.cOk _ (lookup_mem e)
  refine hG0 ?_
  clear hG0 G0
  refine ⟨a, b, c, fun z => ?_, o, old _ _ ho⟩
  have ho' : h.get? p.2 = some o := ho
  have z' : p.2 = C := z
  rw [z', hC] at ho'
  exact no_ns ho'
 ·obtain ⟨_, e1⟩ := cells p hp
  obtain ⟨_, e2⟩ := cells q hq
  exact X.inj _ (lookup_mem e1) _ (lookup_mem e2) e
theorem tests_false {ifs : List PySem.Expr} {Q : Bool → Shared → Prop} (h : Q false s) : wpAny (model prog w) A (forIn ifs false fun c r => if r = true then do let ok ← isTrue c env (eval c env); pure (ForInStep.yield ok) else pure (ForInStep.yield r)) Q E s := by
 induction ifs with
 | nil => exact wpAny_pure h
 | cons c r ih =>
  rw [List.forIn_cons]
  rw [if_neg Bool.false_ne_true]
  exact wpAny_bind (wpAny_pure ih)
theorem tests_sound (IT : SoundT prog w S T k n) (ar : Ar A stk k) (ko : KindOk S T sc env) : ∀ {ifs : List PySem.Expr} {K : Kn} {s : Shared} {Q : Bool → Shared → Prop}, St S stk K s → Lc S stk env m K s.heap →
  RxG S stk s K (testsL (fun e => ev T n sc e m) ifs) (fun b J s' => Q b s') E →
  wpAny (model prog w) A (forIn ifs true fun c r => if r = true then do let ok ← isTrue c env (eval c env); pure (ForInStep.yield ok) else pure (ForInStep.yield r)) Q E s
 | [], K, s, Q, TS, X, h => wpAny_pure (RxG.ok TS h)
 | c :: r, K, s, Q, TS, X, h => by
  rw [List.forIn_cons]
  rw [if_pos rfl]
  have h' : RxG S stk s K (((ev T n sc c m).bind tru).bind fun b => .br b (testsL (fun e => ev T n sc e m) r) (.ok false)) (fun b J s' => Q b s') E := by
   rw [Tr.bind_bind]
   exact h
  refine wpAny_bind (wpAny_bind (IT sc c m env A stk K s _ E ar TS X ko ?_))
  have h2 : RxG S stk s K ((ev T n sc c m).bind tru) (fun b K' s' => St S stk K' s' ∧ Lc S stk env m K' s'.heap ∧ RxG S stk s' K' (.br b (testsL (fun e => ev T n sc e m) r) (.ok false)) (fun b J s' => Q b s') E) E :=
   RxG.step h' fun b K₁ s₁ h₁ T₁ x₁ k₁ => ⟨T₁, X.ext x₁ k₁, h₁⟩
  refine h2.mono (fun b K₁ s₁ ⟨T₁, X₁, h₁⟩ => wpAny_pure ?_) fun J J q => q
  rcases h₁.br with ⟨q, g⟩ | ⟨q, g⟩
  ·subst q
   exact tests_sound IT ar ko T₁ X₁ g
  ·subst q
   exact tests_false (RxG.ok T₁ g)
theorem Lc.weaken {m' : Loc} (X : Lc S stk env m K h) (hl : ∀ y d, m'.lookup y = some d → m.lookup y = some d) : Lc S stk env m' K h :=
 ⟨X.kind, X.glob, X.blt, (let ⟨mv, n, r⟩ := X.ns; ⟨mv, n, fun x d e q => r x d (hl x d e) q⟩), fun x d e q => X.cel x d (hl x d e) q, X.hav, X.lK, X.lB, X.lT, X.cOk, X.inj⟩
structure CompInv (prog : Program) (w : World) (S : Sta) (stk : List Env) (cenv : Env) (s₀ : Shared) (K₀ : Kn) (base : Loc) (D : Addr) (tup : Bool) (I : Addr) (wr : List Addr) (rest : List Rg.D) (tree : Tr (List Rg.D)) (PF : List Rg.D → Prop) (s : Shared) (K : Kn) (vs : List Value) (dn : List Rg.D) (j : Nat) : Prop where
 st : St S stk K s
 ext : Ext S stk s₀.heap s.heap
 kx : KExt s₀.heap K₀ K
 lc : Lc S stk cenv base K s.heap
 it : ItAt prog w S s₀.heap tup I wr rest K s.heap
 acc : s.heap.get? D = some { cls := .type "list", data := .seq vs.toArray j }
 rep : Reps S K vs dn
 dK : K D = none
 dW : D ∉ wr
 dO : ¬ Own cenv D
 dB : S.B.get? D = none
 dF : Fix S stk D
 dN : s₀.heap.get? D = none
 cN : s₀.heap.get? cenv.locals = none
 room : dn.length + rest.length ≤ 1048576
 sin : Since S stk cenv wr
 tree : tree.sat (fun ys => PF (dn ++ ys)) (fun J J => False)
variable {cenv : Env} {base : Loc} {Da : Addr} {rest : List D} {tree : Tr (List D)} {PF : List D → Prop} {vs : List Value} {dn : List D} {j : Nat} {α : Type}
theorem CompInv.move {s' : Shared} {tree' : Tr (List D)} (x : CompInv prog w S stk cenv s₀ K₀ base Da tup I wr rest tree PF s K vs dn j) (T' : St S stk K' s') (x' : Ext S stk s.heap s'.heap) (k' : KExt s.heap K K')
  (ht : tree'.sat (fun ys => PF (dn ++ ys)) (fun J J => False)) : CompInv prog w S stk cenv s₀ K₀ base Da tup I wr rest tree' PF s' K' vs dn j where
 st := T'
 ext := x.ext.trans x'
 kx := x.kx.trans x.ext k'
 lc := x.lc.ext x' k'
 it := x.it.after (P := fun J => False) x.sin (fun b o e => ⟨(x.st.kin b o e).2, id⟩) (fun J q => q.elim) x' k'
 acc := x'.get x.acc x.dF id
 rep := x.rep.mono k'.1
 dK := by
  cases q : K' Da with
  | none => rfl
  | some o =>
   rcases k'.2 _ _ q with z | z
   ·rw [x.dK] at z; exact no_ns z
   ·rw [x.acc] at z; exact no_sn z
 dW := x.dW
 dO := x.dO
 dB := x.dB
 dF := x.dF
 dN := x.dN
 cN := x.cN
 room := x.room
 sin := x.sin
 tree := ht
theorem CompInv.append {tree' : Tr (List D)} {v : Value} {C : Shared → Prop} (x : CompInv prog w S stk cenv s₀ K₀ base Da tup I wr rest tree PF s K vs dn j) (rv : Rep S K v d) (hr : dn.length + 1 + rest.length ≤ 1048576)
  (ht : tree'.sat (fun ys => PF (dn ++ d :: ys)) (fun J J => False)) (h : ∀ s' j', CompInv prog w S stk cenv s₀ K₀ base Da tup I wr rest tree' PF s' K (vs ++ [v]) (dn ++ [d]) j' → C s') :
  wpAny (model prog w) A (call (.builtin "list.append") [.ref Da, v]) (fun J s' => C s') E s := by
 refine wpAny_list_append_plain ⟨j, x.acc⟩ (fun h' ⟨j', ha⟩ sb => ?_) (by rw [sizeLine_eq, List.size_toArray, x.rep.length]; lia)
 refine h _ j' ⟨?_, ?_, x.kx, ?_, ?_, ?_, x.rep.append (.cons rv .nil), x.dK, x.dW, x.dO, x.dB, x.dF, x.dN, x.cN, by simp; lia, x.sin, ?_⟩
 ·exact x.st.alter (P := (· = Da)) (fun a p => p ▸ ⟨x.dB, x.dK, x.dF.2, (fun o e q => by rw [x.acc] at e; obtain rfl := Option.some.inj e; exact absurd q.1 (by show ¬ (Value.type "list" = Value.type "code"); decide)), fun q => absurd q x.dF.1⟩) (fun b o nb e => (sb.2 b nb).trans e) s.toks
 ·intro b o e
  obtain ⟨o', e', q⟩ := x.ext b o e
  refine ⟨o', (sb.2 b fun z => ?_).trans e', q⟩
  rw [z, x.dN] at e
  exact no_ns e
 ·exact x.lc.keep (fun b o q e => (sb.2 b fun z => x.dO (z ▸ q)).trans e) (KExt.refl _ _)
 ·refine x.it.keep (fun b o q e => (sb.2 b fun z => ?_).trans e) (fun J J q => q) fun b hb => (x.it.new' b hb).2
  rcases q with q | ⟨o', q⟩
  ·exact x.dW (z ▸ q)
  ·rw [z, x.dK] at q; exact no_ns q
 ·rw [ha]; simp
 ·exact Tr.sat_mono (fun ys q => by rw [List.append_assoc]; exact q) (fun J J q => q) _ ht
inductive NextC (prog : Program) (w : World) (S : Sta) (stk : List Env) (cenv : Env) (s₀ : Shared) (K₀ : Kn) (base : Loc) (D : Addr) (tup : Bool) (I : Addr) (wr : List Addr) (PF : List Rg.D → Prop) (tr : List Rg.D → Tr (List Rg.D)) (n : Nat) (s : Shared) : Prop
 | mk : ∀ rest K vs dn j, rest.length = n → CompInv prog w S stk cenv s₀ K₀ base D tup I wr rest (tr rest) PF s K vs dn j → NextC prog w S stk cenv s₀ K₀ base D tup I wr PF tr n s
theorem elt_sound (IE : SoundE prog w S T k n) (ar : Ar A stk k) (ko : KindOk S T sc cenv) {m' : Loc} {elt : PySem.Expr} {tr : List D → Tr (List D)} {nn : Nat} (hn : rest.length < nn)
  (x : CompInv prog w S stk cenv s₀ K₀ base Da tup I wr rest tree PF s K vs dn j) (X : Lc S stk cenv m' K s.heap) (hr : dn.length + 1 + rest.length ≤ 1048576)
  (ht : ((ev T n sc elt m').bind fun v => (tr rest).bind fun ys => .ok (v :: ys)).sat (fun ys => PF (dn ++ ys)) (fun J J => False)) :
  wpAny (model prog w) A (eval elt cenv) (fun u s₄ => wpAny (model prog w) A (call (.builtin "list.append") [.ref Da, u]) (fun J s₅ => ∃ m, m < nn ∧ NextC prog w S stk cenv s₀ K₀ base Da tup I wr PF tr m s₅) E s₄) E s := by
 rw [Tr.sat_bind] at ht
 refine IE sc elt m' cenv A stk K s _ E ar x.st X ko (Tr.sat_mono (fun v hv => ?_) (fun J J q => q.elim) _ ht)
 intro u K₁ s₁ T₁ x₁ k₁ ru
 rw [Tr.sat_bind] at hv
 have y : CompInv prog w S stk cenv s₀ K₀ base Da tup I wr rest (tr rest) (fun ys => PF ys ∨ True) s₁ K₁ vs dn j := by
  refine (⟨x.st, x.ext, x.kx, x.lc, x.it, x.acc, x.rep, x.dK, x.dW, x.dO, x.dB, x.dF, x.dN, x.cN, x.room, x.sin, ?_⟩ : CompInv prog w S stk cenv s₀ K₀ base Da tup I wr rest (tr rest) (fun ys => PF ys ∨ True) s K vs dn j).move T₁ x₁ k₁ ?_
  all_goals exact Tr.sat_mono (fun J J => .inr trivial) (fun J J q => q) _ hv
 refine y.append (PF := fun ys => PF ys ∨ True) ru hr (tree' := tr rest) (Tr.sat_mono (fun J J => .inr trivial) (fun J J q => q) _ hv) fun s' j' z => ?_
 refine ⟨rest.length, hn, rest, K₁, _, _, j', rfl, ⟨z.st, z.ext, z.kx, z.lc, z.it, z.acc, z.rep, z.dK, z.dW, z.dO, z.dB, z.dF, z.dN, z.cN, z.room, z.sin, ?_⟩⟩
 refine Tr.sat_mono (fun ys q => ?_) (fun J J q => q) _ hv
 rw [List.append_assoc]
 exact q
end
section
variable {prog : Program} {w : World} {S : Sta} {T : Tab} {k : Nat}
variable {A : Around} {stk : List Env} {K K' K₀ : Kn} {s s₀ : Shared} {env : Env} {m m₀ : Loc} {E : Value → Shared → Prop} {sc sc' : Scope} {n : Nat} {h h' h₀ : Heap} {tup : Bool} {I : Addr} {wr : List Addr} {ds r : List D} {d : D}
variable {cenv : Env} {base : Loc} {Da : Addr} {rest : List D} {tree : Tr (List D)} {PF : List D → Prop} {vs : List Value} {dn : List D} {j : Nat} {α : Type}
inductive EndC (S : Sta) (stk : List Env) (cenv : Env) (s₀ : Shared) (K₀ : Kn) (base : Loc) (D : Addr) (PF : List Rg.D → Prop) (s' : Shared) : Prop
 | mk : ∀ K vs dn j, St S stk K s' → Ext S stk s₀.heap s'.heap → KExt s₀.heap K₀ K → Lc S stk cenv base K s'.heap → s'.heap.get? D = some { cls := .type "list", data := .seq vs.toArray j } → Reps S K vs dn → K D = none → Fix S stk D → s₀.heap.get? D = none → ¬ Own cenv D → dn.length ≤ 1048576 → PF dn → EndC S stk cenv s₀ K₀ base D PF s'
theorem CompInv.over (x : CompInv prog w S stk cenv s₀ K₀ base Da tup I wr [] (.ok []) PF s K vs dn j) (k : ∀ b o, b ∉ wr → s.heap.get? b = some o → h'.get? b = some o) (tk : Tok) : EndC S stk cenv s₀ K₀ base Da PF { s with heap := h', toks := tk } := by
 refine ⟨K, vs, dn, j, x.st.alter (P := (· ∈ wr)) (fun a ha => x.it.loose x.sin ha) k tk, fun b o e => ?_, x.kx, x.lc.keep (fun b o q e => k b o (own_wr x.it x.sin q) e) (KExt.refl _ _), k _ _ x.dW x.acc, x.rep, x.dK, x.dF, x.dN, x.dO, ?_, ?_⟩
 ·obtain ⟨o', e', q⟩ := x.ext b o e
  exact ⟨o', k _ _ (fun z => by rw [(x.it.new' b z).1] at e; exact no_ns e) e', q⟩
 ·have := x.room; simp at this; lia
 ·have := x.tree; simpa [Tr.sat] using this
theorem CompInv.turned {tree' : Tr (List D)} (x : CompInv prog w S stk cenv s₀ K₀ base Da tup I wr (d :: r) tree PF s K vs dn j) (T₁ : St S stk K { s with heap := h', toks := n }) (X₁ : Lc S stk cenv base K h') (it₁ : ItAt prog w S s₀.heap tup I wr r K h')
  (k₁ : ∀ b o, b ∉ wr → b ≠ cenv.locals → s.heap.get? b = some o → h'.get? b = some o) (ht : tree'.sat (fun ys => PF (dn ++ ys)) (fun J J => False)) :
  CompInv prog w S stk cenv s₀ K₀ base Da tup I wr r tree' PF { s with heap := h', toks := n } K vs dn j := by
 refine ⟨T₁, fun b o e => ?_, x.kx, X₁, it₁, k₁ _ _ x.dW (fun z => x.dO (.inl z)) x.acc, x.rep, x.dK, x.dW, x.dO, x.dB, x.dF, x.dN, x.cN, ?_, x.sin, ht⟩
 ·obtain ⟨o', e', q⟩ := x.ext b o e
  refine ⟨o', k₁ _ _ (fun z => ?_) (fun z => ?_) e', q⟩
  ·rw [(x.it.new' b z).1] at e; exact no_ns e
  ·rw [z, x.cN] at e; exact no_ns e
 ·have := x.room; simp at this; lia
theorem ownAt_local {y : Str} (hy : cenv.kindOf y = some .local) {b : Addr} (h : OwnAt cenv y b) : b = cenv.locals := by
 rcases h with ⟨_, q⟩ | ⟨q, _⟩
 ·exact q
 ·rw [hy] at q; cases q
theorem comp_loopN (IE : SoundE prog w S T k n) (IT : SoundT prog w S T k n) (ar : Ar A stk k) (ko : KindOk S T sc cenv) {y : Str} {py pos : Pos} {elt iter : PySem.Expr} {ifs : List PySem.Expr} {scope : Scope} {R : Result → Shared → Prop}
  (hy : cenv.kindOf y = some .local) (hb : base.lookup y = none) (hR : ∀ s', EndC S stk cenv s₀ K₀ base Da PF s' → R (.ok .next) s') {nn : Nat}
  (h : NextC prog w S stk cenv s₀ K₀ base Da false I wr PF (fun ds => compL (fun e m' => ev T n sc e m') elt (.Name y py) ifs base ds) nn s) :
  codeAny (model prog w) A (.compLoop (.ListComp elt [⟨.Name y py, iter, ifs, 0⟩] scope pos) 0 (.ref I) (.ref Da) cenv) R s := by
 refine codeAny_compLoop_tests (fun n' s => NextC prog w S stk cenv s₀ K₀ base Da false I wr PF (fun ds => compL (fun e m' => ev T n sc e m') elt (.Name y py) ifs base ds) n' s) (fun n' s hI => ?_) nn h
 refine abs1 fun G0 hG0 => ?_
 obtain ⟨rest, K, vs, dn, j, rfl, x⟩ := hI
 refine hG0 ?_
 clear hG0 G0
 induction rest using List.casesOn with
 | nil => exact x.it.done ar.hand fun h' tk k => hR _ (x.over k tk)
 | cons d r =>
  refine turnN ar.hand x.it x.st x.lc x.sin (.inl hy) fun h₁ tk T₁ X₁ it₁ k₁ => ?_
  have k₁' : ∀ b o, b ∉ wr → b ≠ cenv.locals → s.heap.get? b = some o → h₁.get? b = some o := fun b o q q' e => k₁ b o q (fun z => q' (ownAt_local hy z)) e
  have X₁' : Lc S stk cenv base K h₁ := X₁.weaken fun z e q => by
   rw [Loc.lookup_set]
   rw [if_neg (fun c => by rw [c, hb] at q; exact no_ns q)]
   exact q
  have ht := x.tree
  have hroom : dn.length + 1 + r.length ≤ 1048576 := by have := x.room; simp at this; lia
  induction ifs using List.casesOn with
  | nil =>
   refine wpAny_pure ?_
   rw [if_pos rfl]
   exact elt_sound (tree := (compL (fun e m' => ev T n sc e m') elt (.Name y py) [] base (d :: r))) IE ar ko (Nat.lt_succ_self _) (x.turned T₁ X₁' it₁ k₁' ht) X₁ hroom ht
  | cons c cs =>
   have ht' : ((testsL (fun e => ev T n sc e (base.set y d)) (c :: cs)).bind fun b => .br b ((ev T n sc elt (base.set y d)).bind fun v => (compL (fun e m' => ev T n sc e m') elt (.Name y py) (c :: cs) base r).bind fun vs => .ok (v :: vs)) (compL (fun e m' => ev T n sc e m') elt (.Name y py) (c :: cs) base r)).sat (fun ys => PF (dn ++ ys)) (fun J J => False) := ht
   rw [Tr.sat_bind] at ht'
   refine tests_sound (s := { s with heap := h₁, toks := tk }) IT ar ko T₁ X₁ (Tr.sat_mono (fun b hb' K₂ s₂ T₂ x₂ k₂ => ?_) (fun J J q => q.elim) _ ht')
   induction b using Bool.casesOn with
   | true =>
    rw [if_pos rfl]
    exact elt_sound (tree := (compL (fun e m' => ev T n sc e m') elt (.Name y py) (c :: cs) base (d :: r))) IE ar ko (Nat.lt_succ_self _) ((x.turned T₁ X₁' it₁ k₁' ht).move T₂ x₂ k₂ ht) (X₁.ext x₂ k₂) hroom (hb'.1 rfl)
   | false =>
    rw [if_neg Bool.false_ne_true]
    exact ⟨r.length, Nat.lt_succ_self _, r, K₂, vs, dn, j, rfl, (x.turned T₁ X₁' it₁ k₁' ht).move T₂ x₂ k₂ (hb'.2 rfl)⟩
theorem comp_loopT (IE : SoundE prog w S T k n) (ar : Ar A stk k) (ko : KindOk S T sc cenv) {y z : Str} {py pz pos tp : Pos} {x1 : Nat} {elt iter : PySem.Expr} {scope : Scope} {R : Result → Shared → Prop}
  (hy : cenv.kindOf y = some .local) (hz : cenv.kindOf z = some .local) (hb : base.lookup y = none) (hb' : base.lookup z = none) (hR : ∀ s', EndC S stk cenv s₀ K₀ base Da PF s' → R (.ok .next) s') {nn : Nat}
  (h : NextC prog w S stk cenv s₀ K₀ base Da true I wr PF (fun ds => compL (fun e m' => ev T n sc e m') elt (.Tuple [.Name y py, .Name z pz] x1 tp) [] base ds) nn s) :
  codeAny (model prog w) A (.compLoop (.ListComp elt [⟨.Tuple [.Name y py, .Name z pz] x1 tp, iter, [], 0⟩] scope pos) 0 (.ref I) (.ref Da) cenv) R s := by
 refine LCp.codeAny_compLoop_pair (fun n' s => NextC prog w S stk cenv s₀ K₀ base Da true I wr PF (fun ds => compL (fun e m' => ev T n sc e m') elt (.Tuple [.Name y py, .Name z pz] x1 tp) [] base ds) n' s) (fun n' s hI => ?_) nn h
 refine abs1 fun G0 hG0 => ?_
 obtain ⟨rest, K, vs, dn, j, rfl, x⟩ := hI
 refine hG0 ?_
 clear hG0 G0
 induction rest using List.casesOn with
 | nil => exact x.it.done ar.hand fun h' tk k => hR _ (x.over k tk)
 | cons d r =>
  refine turnT ar.hand x.it x.st x.lc x.sin (.inl hy) (.inl hz) fun d₁ d₂ h₁ tk ed T₁ X₁ it₁ k₁ => ?_
  subst ed
  have k₁' : ∀ b o, b ∉ wr → b ≠ cenv.locals → s.heap.get? b = some o → h₁.get? b = some o := fun b o q q' e => k₁ b o q (fun z => q' (ownAt_local hy z)) (fun z => q' (ownAt_local hz z)) e
  have X₁' : Lc S stk cenv base K h₁ := X₁.weaken fun u e q => by
   rw [Loc.lookup_set, Loc.lookup_set]
   rw [if_neg (fun c => by rw [c, hb'] at q; exact no_ns q), if_neg (fun c => by rw [c, hb] at q; exact no_ns q)]
   exact q
  have ht := x.tree
  have hroom : dn.length + 1 + r.length ≤ 1048576 := by have := x.room; simp at this; lia
  exact elt_sound (tree := (compL (fun e m' => ev T n sc e m') elt (.Tuple [.Name y py, .Name z pz] x1 tp) [] base (.tup [d₁, d₂] :: r))) IE ar ko (Nat.lt_succ_self _) (x.turned T₁ X₁' it₁ k₁' ht) X₁ hroom ht
end
theorem tgt_eq (sc : Scope) (it t : PySem.Expr) : tgtOk sc it t = (match pairsI it, t with | false, .Name x _ => storable sc x | true, .Tuple [.Name x _, .Name y _] _ _ => storable sc x && storable sc y && x != y | _, _ => false) := rfl
theorem tgt_one {sc : Scope} {t : PySem.Expr} {P : Prop} (ok : (match false, t with | false, .Name x _ => storable sc x | true, .Tuple [.Name x _, .Name y _] _ _ => storable sc x && storable sc y && x != y | _, _ => false) = true) (h : ∀ y py, t = .Name y py → storable sc y = true → P) : P := by
 induction t using PySem.Expr.casesOn with
 | Name x p => exact h _ _ rfl ok
 | _ => exact absurd ok Bool.false_ne_true
theorem tgt_two {sc : Scope} {t : PySem.Expr} {P : Prop} (ok : (match true, t with | false, .Name x _ => storable sc x | true, .Tuple [.Name x _, .Name y _] _ _ => storable sc x && storable sc y && x != y | _, _ => false) = true) (h : ∀ y py z pz j tp, t = .Tuple [.Name y py, .Name z pz] j tp → storable sc y = true → storable sc z = true → P) : P := by
 induction t using PySem.Expr.casesOn with
 | Tuple es j tp =>
  induction es using List.casesOn with
  | nil => exact absurd ok Bool.false_ne_true
  | cons a es =>
  induction a using PySem.Expr.casesOn with
  | Name x p =>
   induction es using List.casesOn with
   | nil => exact absurd ok Bool.false_ne_true
   | cons b es =>
   induction b using PySem.Expr.casesOn with
   | Name y q =>
    induction es using List.casesOn with
    | nil =>
     have ok : (storable sc x && storable sc y && x != y) = true := ok
     have ok := (Bool.and_eq_true_iff.mp (Bool.and_eq_true_iff.mp ok).1)
     exact h _ _ _ _ _ _ rfl ok.1 ok.2
    | cons _ _ => exact absurd ok Bool.false_ne_true
   | _ => exact absurd ok Bool.false_ne_true
  | _ => exact absurd ok Bool.false_ne_true
 | _ => exact absurd ok Bool.false_ne_true
theorem tgt_cases {sc : Scope} {it t : PySem.Expr} (ok : tgtOk sc it t = true) : (pairsI it = false ∧ ∃ y py, t = .Name y py ∧ storable sc y = true) ∨ (pairsI it = true ∧ ∃ y py z pz j tp, t = .Tuple [.Name y py, .Name z pz] j tp ∧ storable sc y = true ∧ storable sc z = true) := by
 rw [tgt_eq] at ok
 cases hb : pairsI it with
 | false =>
  rw [hb] at ok
  exact tgt_one ok fun y py e s => .inl ⟨rfl, y, py, e, s⟩
 | true =>
  rw [hb] at ok
  exact tgt_two ok fun y py z pz j tp e s s' => .inr ⟨rfl, y, py, z, pz, j, tp, e, s, s'⟩
section
variable {prog : Program} {w : World} {S : Sta} {T : Tab} {k : Nat}
variable {A : Around} {stk : List Env} {K K' K₀ : Kn} {s s₀ : Shared} {env : Env} {m m₀ : Loc} {E : Value → Shared → Prop} {sc sc' : Scope} {n : Nat} {h h' h₀ : Heap} {tup : Bool} {I : Addr} {wr : List Addr} {ds r : List D} {d : D}
variable {cenv : Env} {base : Loc} {Da : Addr} {rest : List D} {tree : Tr (List D)} {PF : List D → Prop} {vs : List Value} {dn : List D} {j : Nat} {α β : Type}
theorem noExc_sat {P : α → Prop} {Eb Eb' : Str → D → Prop} : ∀ {t : Tr α}, (noExc t).sat P Eb → t.sat P Eb'
 | .ok a, h => h
 | .exc _ _, h => h.elim
 | .bad, h => h.elim
 | .br b x y, h => ⟨fun q => noExc_sat (h.1 q), fun q => noExc_sat (h.2 q)⟩
theorem ItAt.len (x : ItAt prog w S h₀ tup I wr ds K h) : ds.length ≤ 1048576 := by
 cases x with
 | N W st items len hc hi live new old => rw [List.length_drop]; lia
 | T W st items len hc hi live new old => rw [List.length_drop]; lia
theorem folded_pure {it : PySem.Expr} (h : ∀ a b c, it ≠ .Set a b c) (x : Value) : foldedSetIterable it env x = pure x := by
 cases it <;> first | rfl | exact absurd rfl (h _ _ _)
theorem localsOk_mem {l : List (Str × NameKind)} (h : localsOk l = true) : ∀ x ∈ l, x.2 = .local → l.lookup x.1 = some .local := fun x hx e => by
 have := List.all_eq_true.mp h x hx
 rw [e] at this
 simpa using this
theorem comp_start (H : StaOk S) (IE : SoundE prog w S T k n) (IT : SoundT prog w S T k n) (ar : Ar A stk k) (ko : KindOk S T sc env) (TS₀ : St S stk K s) (X : Lc S stk env m K s.heap) {t it elt : PySem.Expr} {ifs : List PySem.Expr} {pos : Pos}
  (hk : sc'.kind = .function) (ok : compOk sc sc' t it ifs = true) {K₁ : Kn} {s₁ : Shared} (T₁ : St S stk K₁ s₁) (x₁ : Ext S stk s.heap s₁.heap) (k₁ : KExt s.heap K K₁) (itx : ItAt prog w S s.heap (pairsI it) I wr ds K₁ s₁.heap)
  (ht : (compL (fun e m' => ev T n sc' e m') elt t ifs (freeOf sc' m) ds).sat PF (fun J J => False)) {RR : Value → Addr → Result → Shared → Prop}
  (hR : ∀ C Da s', EndC S stk (compEnvC sc' (cloOf env sc'.names []) C env) s K (freeOf sc' m) Da PF s' → s.heap.get? C = none → RR (.ref Da) C (.ok .next) s') :
  wpAny (model prog w) A (newList []) (fun acc s₃ => wpAny (model prog w) A (newFunctionEnv sc' env.globals (cloOf env sc'.names []) [] env.qual none .none (some env)) (fun cenv s₄ =>
   codeAny (model prog w) A (.compStart (.ListComp elt [⟨t, it, ifs, 0⟩] sc' pos) 0 (.ref I) acc { cenv with scope := relabel sc' env }) (RR acc cenv.locals) s₄) E s₃) E s₁ := by
 unfold compOk at ok
 simp only [Bool.and_eq_true] at ok
 refine abs1 fun G0 hG0 => ?_
 obtain ⟨⟨⟨⟨ok1, ok2⟩, ok3⟩, ok4⟩, ok5⟩ := ok
 refine hG0 ?_
 clear hG0 G0
 refine wpAny_newObj_type (wpAny_newFunctionEnv (noCell_mem ok2) (by intro y hy; simp at hy) (fun h₁ hns hsb => ?_) hk)
 dsimp only at hns hsb ⊢
 generalize hH2 : s₁.heap.push { cls := .type "list", dict := none, data := .seq ([] : List Value).toArray } = H2 at hns hsb ⊢
 have z2 : H2.objs.size = s₁.heap.objs.size + 1 := by rw [← hH2, Heap.size_push]
 have hDC : s₁.heap.objs.size ≠ H2.objs.size := by rw [z2]; exact Nat.ne_of_lt (Nat.lt_succ_self _)
 have old : ∀ b o, s₁.heap.get? b = some o → h₁.get? b = some o := fun b o e =>
  hsb.extBut b o (by rw [z2]; exact Nat.ne_of_lt (Nat.lt_succ_of_lt (Heap.lt_size e))) (Heap.get?_push_of_some _ (hH2 ▸ Heap.get?_push_of_some _ e))
 have newC : s₁.heap.get? H2.objs.size = none := Heap.get?_none_of_le (by rw [z2]; exact Nat.le_succ _)
 have newD : s₁.heap.get? s₁.heap.objs.size = none := new_none _
 have T₂ : St S stk K₁ { s₁ with heap := h₁, toks := s₁.toks + 0 } := T₁.grow H old _
 have fC := Fix.new T₁ newC
 have fD := Fix.new T₁ newD
 have noB : ∀ {b : Addr}, s₁.heap.get? b = none → S.B.get? b = none := fun {b} e => by
  cases q : S.B.get? b with
  | none => rfl
  | some o => rw [T₁.stays b o q] at e; exact no_sn e
 have X₁ := X.ext x₁ k₁
 have lc := compLc (h' := h₁) X₁ ko ok3 ok2 hk old newC (T₁.kNone newC) (noB newC) fC.2 hns
 let ce := compEnvC sc' (cloOf env sc'.names []) H2.objs.size env
 have ownC : ∀ b, Own ce b → b = H2.objs.size ∨ ∃ p ∈ env.cells, p.2 = b := fun b q => by
  rcases q with q | ⟨p, hp, q⟩
  ·exact .inl q
  ·rcases clo_mem hp with z | ⟨a, b'⟩
   ·cases z
   ·have kc := ko.kind p.1
    rw [freesOk_mem ok3 a] at kc
    obtain ⟨c, _, hc, _⟩ := X.hav _ kc
    rw [hc] at b'
    exact .inr ⟨_, lookup_mem hc, by rw [← q, b']; rfl⟩
 have sin : Since S stk ce wr := ⟨fun b hb => by
  obtain ⟨n1, n2⟩ := itx.new' b hb
  obtain ⟨f1, f2, f3⟩ := (Since.of (wr := wr) TS₀ X fun b hb => (itx.new' b hb).1).fix b hb
  refine ⟨f1, fun q => ?_, f3⟩
  rcases ownC b q with q | q
  ·obtain ⟨o, e, _⟩ := itx.live' b hb
   rw [q, newC] at e
   exact no_ns e
  ·exact f2 (.inr q)⟩
 have ko' : KindOk S T sc' ce := compKind X.kind ko ok2
 have x₂ : Ext S stk s.heap h₁ := x₁.trans (ExtP.keeps old)
 have inv : CompInv prog w S stk ce s K (freeOf sc' m) s₁.heap.objs.size (pairsI it) I wr ds (compL (fun e m' => ev T n sc' e m') elt t ifs (freeOf sc' m) ds) PF { s₁ with heap := h₁, toks := s₁.toks + 0 } K₁ [] [] 0 := by
  refine ⟨T₂, x₂, k₁, lc, itx.keep (fun b o J e => old b o e) (fun J J q => q) (fun b hb => (itx.new' b hb).2), ?_, .nil, T₁.kNone newD, fun q => ?_, fun q => ?_, noB newD, fD, x₁.none newD, x₁.none newC, ?_, sin, ?_⟩
  ·exact hsb.extBut _ _ hDC (Heap.get?_push_of_some _ (hH2 ▸ Heap.get?_push_size _ rfl))
  ·obtain ⟨o, e, _⟩ := itx.live' _ q
   rw [newD] at e
   exact no_ns e
  ·rcases ownC _ q with q | ⟨p, hp, q⟩
   ·exact hDC q
   ·obtain ⟨_, _, _, _, o, e⟩ := X₁.cOk p hp
    rw [q, newD] at e
    exact no_ns e
  ·have := itx.len; simp; exact this
  ·exact Tr.sat_mono (fun J q => q) (fun J J q => q) _ ht
 have loc : ∀ {y : Str}, storable sc' y = true → ce.kindOf y = some .local ∧ (freeOf sc' m).lookup y = none := fun {y} hy => by
  have q : sc'.names.lookup y = some .local := by
   unfold storable at hy
   cases q : sc'.names.lookup y with
   | none => rw [q] at hy; exact no_ft hy
   | some z =>
    rw [q] at hy
    induction z using PySem.NameKind.casesOn with
    | «local» => rfl
    | cell => exact absurd rfl (noCell_mem ok2 _ (lookup_kind_mem q))
    | _ => exact no_ft hy
  have kk := ko'.kind y
  rw [q] at kk
  refine ⟨kk, ?_⟩
  rw [freeOf_lookup, q]
  rfl
 have end' : ∀ s', EndC S stk ce s K (freeOf sc' m) s₁.heap.objs.size PF s' → RR (.ref s₁.heap.objs.size) H2.objs.size (.ok .next) s' := fun s' q => hR _ _ s' q (x₁.none newC)
 rcases tgt_cases ok1 with ⟨hp, y, py, rfl, oky⟩ | ⟨hp, y, py, z, pz, x1, tp, rfl, oky, okz⟩
 ·rw [hp] at inv
  obtain ⟨l1, l2⟩ := loc oky
  have loop : codeAny (model prog w) A (.compLoop (.ListComp elt [⟨.Name y py, it, ifs, 0⟩] sc' pos) 0 (.ref I) (.ref s₁.heap.objs.size) ce) (RR (.ref s₁.heap.objs.size) H2.objs.size) { s₁ with heap := h₁, toks := s₁.toks + 0 } :=
   comp_loopN IE IT ar ko' l1 l2 end' ⟨ds, K₁, [], [], 0, rfl, inv⟩
  exact codeAny_compStart_list loop (inv.it.self ar.hand loop)
 ·rw [hp] at inv ok5
  have ei : ifs = [] := by simpa using ok5
  subst ei
  obtain ⟨l1, l2⟩ := loc oky
  obtain ⟨l3, l4⟩ := loc okz
  have loop : codeAny (model prog w) A (.compLoop (.ListComp elt [⟨.Tuple [.Name y py, .Name z pz] x1 tp, it, [], 0⟩] sc' pos) 0 (.ref I) (.ref s₁.heap.objs.size) ce) (RR (.ref s₁.heap.objs.size) H2.objs.size) { s₁ with heap := h₁, toks := s₁.toks + 0 } :=
   comp_loopT IE ar ko' l1 l3 l2 l4 end' ⟨ds, K₁, [], [], 0, rfl, inv⟩
  exact codeAny_compStart_list loop (inv.it.self ar.hand loop)
theorem comp_sound (H : StaOk S) (CO : ClsOk S) (IE : SoundE prog w S T k n) (IT : SoundT prog w S T k n) (ar : Ar A stk k) (ko : KindOk S T sc env) (TS : St S stk K s) (X : Lc S stk env m K s.heap) {t it elt : PySem.Expr} {ifs : List PySem.Expr} {pos p' : Pos} {use : Option (Value → Sem Unit)} {Q : Value → Shared → Prop}
  (hk : sc'.kind = .function) (ok : compOk sc sc' t it ifs = true) {g : List D → Tr β} {G : β → Kn → Shared → Prop}
  (h : RxG S stk s K ((evI (fun e => ev T n sc e m) sc it).bind fun ds => (noExc (compL (fun e m' => ev T n sc' e m') elt t ifs (freeOf sc' m) ds)).bind g) G E)
  (hR : ∀ C Da s', EndC S stk (compEnvC sc' (cloOf env sc'.names []) C env) s K (freeOf sc' m) Da (fun ys => RxG S stk s K (g ys) G E) s' → s.heap.get? C = none → compPost (model prog w) A E use Q (.ref Da) C (.ok .next) s') :
  wpAny (model prog w) A (comprehension (.ListComp elt [⟨t, it, ifs, 0⟩] sc' pos) sc' env p' (newList []) false (firstIter [⟨t, it, ifs, 0⟩] env) use) Q E s := by
 have ok' := ok
 unfold compOk at ok'
 simp only [Bool.and_eq_true] at ok'
 obtain ⟨⟨⟨⟨ok1, ok2⟩, ok3⟩, ok4⟩, ok5⟩ := ok'
 have ns : ∀ a b c, it ≠ .Set a b c := fun a b c e => by rw [e] at h; exact h.elim
 refine wpAny_comprehension_free (cl := cloOf env sc'.names []) rfl (folded_pure ns) (closureFor_clo fun x hx => ?_) hk (localsOk_mem ok4) ?_
 ·have kc := ko.kind x
  rw [freesOk_mem ok3 hx] at kc
  obtain ⟨c, _, hc, _⟩ := X.hav _ kc
  exact ⟨c, hc⟩
 ·refine evI_sound H CO IE ar ko TS X (Tr.sat_mono (fun ds hd => ?_) (fun J J q => q) _ h.sat)
  intro K₁ s₁ T₁ x₁ k₁ I wr itx
  exact comp_start H IE IT ar ko TS X hk ok T₁ x₁ k₁ itx (noExc_sat hd.sat) hR
end
noncomputable def HeardOk (prog : Program) (w : World) (S : Sta) (T : Tab) (k n : Nat) : Prop :=
 ∀ (sc : Scope) (p lp pos : Pos) (sc' : Scope) (body : PySem.Expr) (m : Loc) (env : Env) (A : Around) (stk : List Env) (K : Kn) (s : Shared) (Q E : Value → Shared → Prop), T.heard = true → Ar A stk k → St S stk K s → Lc S stk env m K s.heap → KindOk S T sc env →
  sc.names.lookup ("_law_heard" : Str) = some .globalImplicit → lamOk sc sc' = true → Rx S stk s K (heardOf (ev T.low n sc' body (freeOf sc' m))) Q E → wpAny (model prog w) A (eval (.Call (.Name "_law_heard" p) [.Lambda ⟨[], [], none, [], [], none, []⟩ body sc' lp] [] pos) env) Q E s
section
variable {prog : Program} {w : World} {S : Sta} {T : Tab} {k : Nat}
variable {A : Around} {stk : List Env} {K K' K₀ : Kn} {s s₀ : Shared} {env : Env} {m m₀ : Loc} {E : Value → Shared → Prop} {sc sc' : Scope} {n : Nat} {h h' h₀ : Heap} {tup : Bool} {I : Addr} {wr : List Addr} {ds r : List D} {d : D}
variable {cenv : Env} {base : Loc} {Da : Addr} {rest : List D} {tree : Tr (List D)} {PF : List D → Prop} {vs : List Value} {dn : List D} {j : Nat} {α β : Type} {Q : Value → Shared → Prop}
theorem EndC.fin {s' : Shared} (TS : St S stk K s) (X : EndC S stk cenv s K base Da PF s') (hC : s.heap.get? cenv.locals = none) :
  ∃ dn, PF dn ∧ ∃ mv, s'.heap.Ns cenv.locals mv ∧ ∀ h', Heap.SameBut cenv.locals s'.heap h' → ∃ K₂, St S stk K₂ { s' with heap := h' } ∧ Ext S stk s.heap h' ∧ KExt s.heap K K₂ ∧ Rep S K₂ (.ref Da) (.list dn) ∧ K₂ cenv.locals = none := by
 refine abs1 fun G0 hG0 => ?_
 obtain ⟨K₁, vs, dn, j, T₁, x₁, k₁, lc, acc, rep, dK, dF, dN, dO, _, pf⟩ := X
 obtain ⟨mv, hns, _⟩ := lc.ns
 refine hG0 ?_
 clear hG0 G0
 refine ⟨dn, pf, mv, hns, fun h' sb => ?_⟩
 have hDC : Da ≠ cenv.locals := fun z => dO (.inl z)
 have T₂ : St S stk K₁ { s' with heap := h', toks := s'.toks } := T₁.alter (P := (· = cenv.locals)) (fun a p => p ▸ ⟨lc.lB, lc.lK, lc.lT, (fun o e q => by
   obtain ⟨_, vs, z⟩ := q
   obtain ⟨o₁, e₁, q₁⟩ := Ns.data hns
   rw [e₁] at e; obtain rfl := Option.some.inj e; exact q₁ vs z), (fun q => by
   obtain ⟨env', he, hf⟩ := List.mem_filterMap.mp q
   obtain ⟨_, L, o, hL, _, _, ho, _⟩ := TS.ff env' he
   rw [hL] at hf
   obtain rfl := Option.some.inj hf
   rw [hC] at ho
   exact no_ns ho)⟩) (fun b o nb e => (sb.2 b nb).trans e) s'.toks
 refine ⟨K₁.put Da { cls := .type "list", data := .seq vs.toArray j }, T₂.more fun b o q => ?_, fun b o e => ?_, ⟨fun a o e => Kn.put_old dK _ _ (k₁.1 _ _ e), fun a o q => ?_⟩, .list (Kn.put_self _ _ _) (rep.mono (Kn.put_old dK)), ?_⟩
 ·rcases Kn.put_inv q with q | ⟨rfl, rfl⟩
  ·exact .inl q
  ·exact .inr ⟨(sb.2 _ hDC).trans acc, dF⟩
 ·obtain ⟨o', e', q⟩ := x₁ b o e
  exact ⟨o', (sb.2 b fun z => by rw [z, hC] at e; exact no_ns e).trans e', q⟩
 ·rcases Kn.put_inv q with q | ⟨rfl, _⟩
  ·exact k₁.2 _ _ q
  ·exact .inr dN
 ·unfold Kn.put
  rw [if_neg (Ne.symm hDC)]
  exact lc.lK
theorem listcomp_sound (H : StaOk S) (CO : ClsOk S) (IE : SoundE prog w S T k n) (IT : SoundT prog w S T k n) (ar : Ar A stk k) (ko : KindOk S T sc env) (TS : St S stk K s) (X : Lc S stk env m K s.heap) {elt : PySem.Expr} {gens : List Comprehension} {pos : Pos}
  (h : Rx S stk s K (ev T (n + 1) sc (.ListComp elt gens sc' pos) m) Q E) : wpAny (model prog w) A (eval (.ListComp elt gens sc' pos) env) Q E s := by
 induction gens using List.casesOn with
 | nil => exact h.elim
 | cons g gs =>
  obtain ⟨t, it, ifs, a⟩ := g
  induction gs using List.casesOn with
  | cons _ _ => exact h.elim
  | nil =>
   have h1 : RxG S stk s K (match a == 0 && decide (sc'.kind = .function) && compOk sc sc' t it ifs with
    | true => (evI (fun e => ev T n sc e m) sc it).bind fun ds => (noExc (compL (fun e m' => ev T n sc' e m') elt t ifs (freeOf sc' m) ds)).bind fun xs => when (decide (xs.length ≤ cap)) (.list xs)
    | false => .bad) (GP S Q) E := rx_g.mp h
   cases c : (a == 0 && decide (sc'.kind = .function) && compOk sc sc' t it ifs) with
   | false => rw [c] at h1; exact h1.elim
   | true =>
    rw [c] at h1
    simp only [Bool.and_eq_true, beq_iff_eq, decide_eq_true_eq] at c
    obtain ⟨⟨rfl, hk⟩, ok⟩ := c
    show wpAny _ _ (comprehension (.ListComp elt [⟨t, it, ifs, 0⟩] sc' pos) sc' env (firstIterPos [⟨t, it, ifs, 0⟩] pos) (newList []) false (firstIter [⟨t, it, ifs, 0⟩] env) none) Q E s
    refine comp_sound H CO IE IT ar ko TS X hk ok h1 fun C Da s' q hC => ?_
    obtain ⟨dn, pf, mv, hns, q⟩ := q.fin TS hC
    refine ⟨mv, hns, fun h' sb => ?_⟩
    obtain ⟨K₂, T₂, x₂, k₂, r₂, _⟩ := q h' sb
    obtain ⟨_, g⟩ := RxG.when pf
    exact g K₂ _ T₂ x₂ k₂ _ r₂
theorem part_sound (IE : SoundE prog w S T k n) (ar : Ar A stk k) (ko : KindOk S T sc env) (TS : St S stk K s) (X : Lc S stk env m K s.heap) {o : Option PySem.Expr} {g : Option Int → Tr β} {G : β → Kn → Shared → Prop} {Q : Value → Shared → Prop}
  (h : RxG S stk s K ((evPart (fun e => ev T n sc e m) o).bind g) G E)
  (hq : ∀ v i K' s', IsPart v i → RxG S stk s' K' (g i) G E → St S stk K' s' → Ext S stk s.heap s'.heap → KExt s.heap K K' → Q v s') : wpAny (model prog w) A (evalPart o env) Q E s := by
 induction o using Option.casesOn with
 | none => exact evalPart_none_step (hq _ _ _ _ .none h TS (ExtP.refl _) (KExt.refl _ _))
 | some e =>
  have h' : RxG S stk s K ((ev T n sc e m).bind fun d => (match d with | .int i => Tr.ok (some i) | _ => .bad).bind g) G E := by
   have : RxG S stk s K (((ev T n sc e m).bind fun d => match d with | .int i => Tr.ok (some i) | _ => .bad).bind g) G E := h
   rw [Tr.bind_bind] at this
   exact this
  refine evalPart_some_step (IE sc e m env A stk K s _ E ar TS X ko (h'.stepV fun v d K₁ s₁ h₁ T₁ x₁ k₁ r₁ => ?_))
  induction r₁ using Rg.Rep.casesOn with
  | int i t => exact hq _ _ _ _ (.int i t) h₁ T₁ x₁ k₁
  | _ => exact h₁.elim
theorem slice_sound (H : StaOk S) (IE : SoundE prog w S T k n) (ar : Ar A stk k) (ko : KindOk S T sc env) (TS : St S stk K s) (X : Lc S stk env m K s.heap) {o : PySem.Expr} {lo hi st : Option PySem.Expr} {sp pos : Pos}
  (h : Rx S stk s K (ev T (n + 1) sc (.Subscript o (.Slice lo hi st sp) pos) m) Q E) : wpAny (model prog w) A (eval (.Subscript o (.Slice lo hi st sp) pos) env) Q E s := by
 induction st using Option.casesOn with
 | some _ => exact h.elim
 | none =>
  have h' : RxG S stk s K ((ev T n sc o m).bind fun d => (evPart (fun e => ev T n sc e m) lo).bind fun l => (evPart (fun e => ev T n sc e m) hi).bind fun h => dsl d l h) (GP S Q) E := rx_g.mp h
  refine Subscript_ (IE sc o m env A stk K s _ E ar TS X ko (h'.stepV fun v d K₁ s₁ h₁ T₁ x₁ k₁ r₁ => ?_))
  refine wpAny_Slice (part_sound IE ar ko T₁ (X.ext x₁ k₁) h₁ fun vl l K₂ s₂ pl h₂ T₂ x₂ k₂ => ?_)
  refine part_sound IE ar ko T₂ ((X.ext x₁ k₁).ext x₂ k₂) h₂ fun vh l' K₃ s₃ ph h₃ T₃ x₃ k₃ => ?_
  exact evalPart_none_step (dsl_sound H T₃ pl ph ((r₁.mono k₂.1).mono k₃.1) (rx_g.mpr h₃))
theorem isTrue_value' {e : PySem.Expr} {Q : Bool → Shared → Prop} (IE1 : SoundE prog w S T k n) (ar : Ar A stk k) (ko : KindOk S T sc env) (TS : St S stk K s) (X : Lc S stk env m K s.heap)
  (h : RxG S stk s K ((ev T n sc e m).bind tru) (fun b J s' => Q b s') E) (he : isTrue e env (eval e env) = (do let v ← eval e env; standAt e.pos; holding [v] (truthy v))) : wpAny (model prog w) A (isTrue e env (eval e env)) Q E s := by
 refine wpAny_isTrue_value (IE1 sc e m env A stk K s _ E ar TS X ko (h.stepV fun v d K₁ s₁ h₁ T₁ x₁ k₁ r₁ => ?_)) he
 refine tru_sound r₁ (tru_sat (Eb := fun wt d => Fall S stk s₁ K₁ wt d E) (Tr.sat_mono (fun b q => q K₁ s₁ T₁ (ExtP.refl _) (KExt.refl _ _)) (fun J J q => q) _ h₁))
theorem ifexp_tree {t b o : PySem.Expr} {p : Pos} : ev T (n + 1) sc (.IfExp t b o p) m = ((ev T n sc t m).bind tru).bind fun c => .br c (ev T n sc b m) (ev T n sc o m) := by
 rw [Tr.bind_bind]
 rfl
theorem soundT_step (EO : EqOrd prog w S) (IE1 : SoundE prog w S T k (n + 1)) (IE : SoundE prog w S T k n) (IT : SoundT prog w S T k n) : SoundT prog w S T k (n + 1) := by
 intro sc e m env A stk K s Q E ar TS X ko h
 induction e using PySem.Expr.casesOn with
 | UnaryOp op x p =>
  cases op with
  | Not =>
   have h1 : RxG S stk s K (((ev T n sc x m).bind fun a => (tru a).bind fun b => .ok (.bool (!b))).bind tru) (fun b J s' => Q b s') E := h
   rw [Tr.bind_bind] at h1
   refine wpAny_isTrue_Not (IT sc x m env A stk K s _ E ar TS X ko (h1.bindMono fun a q => ?_))
   rw [Tr.bind_bind] at q
   have q' := q.sat
   exact Tr.sat_mono (fun b z => z) (fun J J z => z) _ q'
  | _ => exact isTrue_value' IE1 ar ko TS X h rfl
 | BoolOp op vs p => exact wpAny_isTrue_BoolOp (allTrue_sound IT ar ko TS X h)
 | IfExp t b o p =>
  rw [ifexp_tree, Tr.bind_bind] at h
  refine isTrue_IfExp (IT sc t m env A stk K s _ E ar TS X ko ?_)
  have h2 : RxG S stk s K ((ev T n sc t m).bind tru) (fun c K' s' => St S stk K' s' ∧ Lc S stk env m K' s'.heap ∧ RxG S stk s' K' ((Tr.br c (ev T n sc b m) (ev T n sc o m)).bind tru) (fun b J s' => Q b s') E) E :=
   RxG.step h fun c K₁ s₁ h₁ T₁ x₁ k₁ => ⟨T₁, X.ext x₁ k₁, h₁⟩
  refine h2.mono (fun c K₁ s₁ ⟨T₁, X₁, h₁⟩ => ?_) fun J J q => q
  rcases RxG.br (x := (ev T n sc b m).bind tru) (y := (ev T n sc o m).bind tru) h₁ with ⟨q, g⟩ | ⟨q, g⟩
  ·rw [if_pos q]; exact IT sc b m env A stk K₁ s₁ Q E ar T₁ X₁ ko g
  ·rw [if_neg (by rw [q]; exact Bool.false_ne_true)]; exact IT sc o m env A stk K₁ s₁ Q E ar T₁ X₁ ko g
 | Compare l ops cs p =>
  have h1 : RxG S stk s K (((ev T n sc l m).bind fun a => evC (fun e => ev T n sc e m) a ops cs).bind tru) (fun b J s' => Q b s') E := h
  rw [Tr.bind_bind] at h1
  show wpAny _ _ (eval l env >>= fun a => testChain p a ops (markedEach ops cs (evalEach cs env))) _ _ s
  refine wpAny_bind (IE sc l m env A stk K s _ E ar TS X ko (h1.stepV fun v d K₁ s₁ h₁ T₁ x₁ k₁ r₁ => ?_))
  exact testC_sound EO IE ar ko T₁ (X.ext x₁ k₁) r₁ h₁
 | _ => exact isTrue_value' IE1 ar ko TS X h rfl
noncomputable def lamM (f : PySem.Expr → Scope → Tr D) (X : List PySem.Expr → Tr D) : List PySem.Expr → Tr D
 | [.Lambda ⟨[], [], none, [], [], none, []⟩ b sc _] => f b sc
 | as => X as
theorem lam_shape (as : List PySem.Expr) : (∃ b sc lp, as = [.Lambda ⟨[], [], none, [], [], none, []⟩ b sc lp]) ∨ ∀ f X, lamM f X as = X as := by
 induction as using List.casesOn with
 | nil => exact .inr fun J J => rfl
 | cons a as =>
 induction a using PySem.Expr.casesOn with
 | Lambda ag b sc lp =>
  refine abs1 fun G0 hG0 => ?_
  obtain ⟨a1, a2, a3, a4, a5, a6, a7⟩ := ag
  refine hG0 ?_
  clear hG0 G0
  induction a1 using List.casesOn with
  | cons _ _ => exact .inr fun J J => rfl
  | nil =>
  induction a2 using List.casesOn with
  | cons _ _ => exact .inr fun J J => rfl
  | nil =>
  induction a3 using Option.casesOn with
  | some _ => exact .inr fun J J => rfl
  | none =>
  induction a4 using List.casesOn with
  | cons _ _ => exact .inr fun J J => rfl
  | nil =>
  induction a5 using List.casesOn with
  | cons _ _ => exact .inr fun J J => rfl
  | nil =>
  induction a6 using Option.casesOn with
  | some _ => exact .inr fun J J => rfl
  | none =>
  induction a7 using List.casesOn with
  | cons _ _ => exact .inr fun J J => rfl
  | nil =>
  induction as using List.casesOn with
  | cons _ _ => exact .inr fun J J => rfl
  | nil => exact .inl ⟨_, _, _, rfl⟩
 | _ => exact .inr fun J J => rfl
theorem lam_split {T : Tab} {n : Nat} {sc : Scope} {x : Str} {p pos : Pos} {as : List PySem.Expr} {m : Loc} {P : D → Prop} {E : Str → D → Prop} (h : (ev T (n + 1) sc (.Call (.Name x p) as [] pos) m).sat P E) : sc.names.lookup x = some NameKind.globalImplicit ∧
  ((∃ body sc' lp, as = [.Lambda ⟨[], [], none, [], [], none, []⟩ body sc' lp] ∧ (match x == ("_law_heard" : Str), T.heard && lamOk sc sc' with | true, true => heardOf (ev T.low n sc' body (freeOf sc' m)) | _, _ => Tr.bad).sat P E) ∨
   (match T.fn x with | some F => (evLs (fun e => ev T n sc e m) as).bind F | none => .bad).sat P E) := by
 have h : (match sc.names.lookup x == some NameKind.globalImplicit with
  | false => Tr.bad
  | true => lamM (fun body sc' => match x == ("_law_heard" : Str), T.heard && lamOk sc sc' with | true, true => heardOf (ev T.low n sc' body (freeOf sc' m)) | _, _ => Tr.bad) (fun as => match T.fn x with | some F => (evLs (fun e => ev T n sc e m) as).bind F | none => .bad) as).sat P E := h
 cases c : (sc.names.lookup x == some NameKind.globalImplicit) with
 | false => rw [c] at h; exact h.elim
 | true =>
  rw [c] at h
  refine ⟨beq_iff_eq.mp c, ?_⟩
  rcases lam_shape as with ⟨b, sc', lp, rfl⟩ | e
  ·exact .inl ⟨_, _, _, rfl, h⟩
  ·have h : (lamM (fun body sc' => match x == ("_law_heard" : Str), T.heard && lamOk sc sc' with | true, true => heardOf (ev T.low n sc' body (freeOf sc' m)) | _, _ => Tr.bad) (fun as => match T.fn x with | some F => (evLs (fun e => ev T n sc e m) as).bind F | none => .bad) as).sat P E := h
   rw [e] at h
   exact .inr h
theorem soundE_step (H : StaOk S) (CO : ClsOk S) (TO : TabOk prog w S T k) (EO : EqOrd prog w S) (HS : HeardOk prog w S T k n) (IE : SoundE prog w S T k n) (IT : SoundT prog w S T k n) : SoundE prog w S T k (n + 1) := by
 intro sc e m env A stk K s Q E ar TS X ko h
 induction e using PySem.Expr.casesOn with
 | Constant c j p => exact const_sound TS h
 | Name x p => exact name_sound H TO TS X ko h
 | BoolOp op vs p => exact evB_sound IE ar ko TS X h
 | BinOp l op r p =>
  have h' : RxG S stk s K ((ev T n sc l m).bind fun a => (ev T n sc r m).bind fun b => bop r op a b) (GP S Q) E := rx_g.mp h
  refine wpAny_BinOp (IE sc l m env A stk K s _ E ar TS X ko (h'.stepV fun v d K₁ s₁ h₁ T₁ x₁ k₁ r₁ => ?_))
  refine IE sc r m env A stk K₁ s₁ _ E ar T₁ (X.ext x₁ k₁) ko (h₁.stepV fun u d' K₂ s₂ h₂ T₂ x₂ k₂ r₂ => ?_)
  exact bop_sound H T₂ (r₁.mono k₂.1) r₂ (rx_g.mpr h₂)
 | UnaryOp op x p =>
  have h' : RxG S stk s K ((ev T n sc x m).bind fun a => uop op a) (GP S Q) E := rx_g.mp h
  refine wpAny_UnaryOp (IE sc x m env A stk K s _ E ar TS X ko (h'.stepV fun v d K₁ s₁ h₁ T₁ x₁ k₁ r₁ => ?_))
  exact uop_sound T₁ r₁ (rx_g.mpr h₁)
 | IfExp t b o p =>
  rw [ifexp_tree] at h
  have h' := rx_g.mp h
  refine wpAny_IfExp (IT sc t m env A stk K s _ E ar TS X ko ?_)
  have h2 : RxG S stk s K ((ev T n sc t m).bind tru) (fun c K' s' => St S stk K' s' ∧ Lc S stk env m K' s'.heap ∧ RxG S stk s' K' (Tr.br c (ev T n sc b m) (ev T n sc o m)) (GP S Q) E) E :=
   RxG.step h' fun c K₁ s₁ h₁ T₁ x₁ k₁ => ⟨T₁, X.ext x₁ k₁, h₁⟩
  refine h2.mono (fun c K₁ s₁ ⟨T₁, X₁, h₁⟩ => ?_) fun J J q => q
  rcases h₁.br with ⟨q, g⟩ | ⟨q, g⟩
  ·rw [if_pos q]; exact IE sc b m env A stk K₁ s₁ Q E ar T₁ X₁ ko (rx_g.mpr g)
  ·rw [if_neg (by rw [q]; exact Bool.false_ne_true)]; exact IE sc o m env A stk K₁ s₁ Q E ar T₁ X₁ ko (rx_g.mpr g)
 | List es p => exact list_sound H IE ar ko TS X h
 | Tuple es j p => exact tuple_sound H IE ar ko TS X h
 | Compare l ops cs p =>
  have h1 : RxG S stk s K ((ev T n sc l m).bind fun a => evC (fun e => ev T n sc e m) a ops cs) (GP S Q) E := rx_g.mp h
  show wpAny _ _ (eval l env >>= fun a => compareChain p a ops (markedEach ops cs (evalEach cs env))) _ _ s
  refine wpAny_bind (IE sc l m env A stk K s _ E ar TS X ko (h1.stepV fun v d K₁ s₁ h₁ T₁ x₁ k₁ r₁ => ?_))
  exact evC_sound EO IE ar ko T₁ (X.ext x₁ k₁) r₁ (rx_g.mpr h₁)
 | Attribute o a p =>
  induction o using PySem.Expr.casesOn with
  | Name x px =>
   have h' : RxG S stk s K ((ev T n sc (.Name x px) m).bind fun d => dattr d a) (GP S Q) E := rx_g.mp h
   refine Attribute_name (IE sc (.Name x px) m env A stk K s _ E ar TS X ko (h'.stepV fun v d K₁ s₁ h₁ T₁ x₁ k₁ r₁ => ?_))
   exact attr_sound H CO T₁ r₁ (rx_g.mpr h₁)
  | _ => exact h.elim
 | Subscript o i p =>
  have gen : (∀ l u st p, i ≠ .Slice l u st p) → Rx S stk s K ((ev T n sc o m).bind fun d => (ev T n sc i m).bind fun j => dind o i d j) Q E → wpAny (model prog w) A (eval (.Subscript o i p) env) Q E s := fun ns h => by
   have h' := rx_g.mp h
   refine Subscript_ (IE sc o m env A stk K s _ E ar TS X ko (h'.stepV fun v d K₁ s₁ h₁ T₁ x₁ k₁ r₁ => ?_))
   refine IE sc i m env A stk K₁ s₁ _ E ar T₁ (X.ext x₁ k₁) ko (h₁.stepV fun u d' K₂ s₂ h₂ T₂ x₂ k₂ r₂ => ?_)
   exact dind_sound T₂ ns (r₁.mono k₂.1) r₂ (rx_g.mpr h₂)
  induction i using PySem.Expr.casesOn with
  | Slice lo hi st sp => exact slice_sound H IE ar ko TS X h
  | _ => exact gen (fun J J J J q => by cases q) h
 | ListComp elt gens sc' p => exact listcomp_sound H CO IE IT ar ko TS X h
 | Call f as ks pos =>
  induction f using PySem.Expr.casesOn with
  | Name x p =>
   induction ks using List.casesOn with
   | cons _ _ => exact h.elim
   | nil =>
    rcases lam_split h with ⟨c', hh⟩
    rcases hh with ⟨body, sc', lp, rfl, h1⟩ | h1
    ·cases c1 : (x == ("_law_heard" : Str)) with
     | false => rw [c1] at h1; exact h1.elim
     | true =>
      have c1' := beq_iff_eq.mp c1
      subst c1'
      cases c2 : (T.heard && lamOk sc sc') with
      | false => rw [c1, c2] at h1; exact h1.elim
      | true =>
       rw [c1, c2] at h1
       rw [Bool.and_eq_true] at c2
       exact HS sc p lp pos sc' body m env A stk K s Q E c2.1 ar TS X ko c' c2.2 h1
    ·cases hF : T.fn x with
     | none => rw [hF] at h1; exact h1.elim
     | some F => rw [hF] at h1; exact call_sound H TO IE ar ko TS X c' hF h1
  | Attribute o name ap =>
   induction ks using List.casesOn with
   | cons _ _ => exact h.elim
   | nil =>
    have h1 : Rx S stk s K (match baseOk o && noStars as && decide (as.length < 30), ap.endLine == pos.line with
     | true, true => (ev T n sc o m).bind fun d => methT d name as ((evLs (fun e => ev T n sc e m) as).bind fun ds => dmeth d name ds)
     | _, _ => .bad) Q E := h
    cases c1 : (baseOk o && noStars as && decide (as.length < 30)) with
    | false => rw [c1] at h1; exact h1.elim
    | true =>
     cases c2 : (ap.endLine == pos.line) with
     | false => rw [c1, c2] at h1; exact h1.elim
     | true =>
      rw [c1, c2] at h1
      have h2 := rx_g.mp h1
      simp only [Bool.and_eq_true, decide_eq_true_eq] at c1
      refine method_step c1.1.1 c2 c1.1.2 c1.2 (IE sc o m env A stk K s _ E ar TS X ko (h2.stepV fun v d K₁ s₁ h₁ T₁ x₁ k₁ r₁ pl => ?_))
      exact dmeth_sound H CO TO IE ar ko T₁ (X.ext x₁ k₁) r₁ (rx_g.mpr h₁)
  | _ => cases ks <;> exact h.elim
 | _ => exact h.elim
end
section
variable {prog : Program} {w : World} {S : Sta} {T : Tab} {k : Nat} {M : Model}
variable {A : Around} {stk outer : List Env} {K K' K₀ : Kn} {s s₀ : Shared} {env : Env} {E : Value → Shared → Prop} {h h' h₀ h₁ h₂ : Heap} {e dx : Addr} {wt : Str} {at_ : D} {oe : Obj} {vs : Array Value} {fl head : Value} {L : Addr} {P P₀ : Addr → Prop}
noncomputable def Touch (stk : List Env) (P : Addr → Prop) (h h' : Heap) : Prop := ∀ b o, h.get? b = some o → ¬ P b → ∃ o', h'.get? b = some o' ∧ (b ∉ frs stk → o' = o) ∧ o'.data = o.data
structure Free (S : Sta) (stk : List Env) (K : Kn) (h : Heap) (a : Addr) : Prop where
 base : S.B.get? a = none
 known : K a = none
 tab : a ∉ S.tabAt
 frame : a ∉ frs stk
 code : ∀ o, h.get? a = some o → o.cls ≠ .type "code"
theorem St.touch (H : StaOk S) (T : St S stk K s) (hP : ∀ a, P a → Free S stk K s.heap a) (t : Touch stk P s.heap h') (tk : Tok) : St S stk K { s with heap := h', toks := tk } where
 ff := fun env' he => by
  refine abs1 fun G0 hG0 => ?_
  obtain ⟨a, L, o, hL, hB, hT, ho, hd⟩ := T.ff env' he
  have hm : L ∈ frs stk := List.mem_filterMap.mpr ⟨env', he, hL⟩
  obtain ⟨o', e', _, q⟩ := t L o ho fun p => (hP L p).frame hm
  refine hG0 ?_
  clear hG0 G0
  exact ⟨a, L, o', hL, hB, hT, e', fun vs z => hd vs (by rw [← q, z])⟩
 stays := fun b o e => by
  have np : ¬ P b := fun p => by rw [(hP b p).base] at e; exact no_ns e
  obtain ⟨o', e', q, _⟩ := t b o (T.stays b o e) np
  rw [e', q (T.baseFix H e).1]
 kin := fun a o e => by
  have np : ¬ P a := fun p => by rw [(hP a p).known] at e; cases e
  obtain ⟨e1, f⟩ := T.kin a o e
  obtain ⟨o', e', q, _⟩ := t a o e1 np
  exact ⟨by rw [e', q f.1], f⟩
 tab := fun t' ht => by
  obtain ⟨ps, a, b, c⟩ := T.tab t' ht
  have hm : t'.2.1 ∈ S.tabAt := List.mem_map.mpr ⟨t', ht, rfl⟩
  have nf : t'.2.1 ∉ frs stk := fun q => by
   obtain ⟨env', he, hf⟩ := List.mem_filterMap.mp q
   obtain ⟨_, L, _, hL, _, hT, _, _⟩ := T.ff env' he
   rw [hL] at hf; obtain rfl := Option.some.inj hf; exact hT hm
  obtain ⟨o', e', q, _⟩ := t _ _ a fun p => (hP _ p).tab hm
  refine ⟨ps, by rw [e', q nf], b, fun pos cv q => ?_⟩
  refine abs1 fun G0 hG0 => ?_
  obtain ⟨c', o, vs, tk, x1, x2, x3, x4, x5, x6⟩ := c pos cv q
  have nf' : c' ∉ frs stk := (codeFix T x2 x4 x6).1
  obtain ⟨o'', e'', q', _⟩ := t _ _ x2 fun p => (hP _ p).code _ x2 x3
  refine hG0 ?_
  clear hG0 G0
  exact ⟨c', o, vs, tk, x1, by rw [e'', q' nf'], x3, x4, x5, x6⟩
 gens := T.gens
 os := T.os
theorem Touch.ext {P₀ : Addr → Prop} (t : Touch stk P h₁ h₂) (x : ExtP S stk P₀ h h₁) (hP : ∀ a, P a → h.get? a = none) : ExtP S stk P₀ h h₂ := fun b o e => by
 obtain ⟨o₁, e₁, q₁⟩ := x b o e
 obtain ⟨o₂, e₂, q₂, q₃⟩ := t b o₁ e₁ fun p => by rw [hP b p] at e; exact no_ns e
 exact ⟨o₂, e₂, fun np => ⟨fun f => (q₂ f.1).trans ((q₁ np).1 f), fun f => q₃.trans ((q₁ np).2 f)⟩⟩
theorem Touch.trans (t : Touch stk P h h₁) (u : Touch stk P h₁ h₂) : Touch stk P h h₂ := fun b o e np => by
 obtain ⟨o₁, e₁, q₁, r₁⟩ := t b o e np
 obtain ⟨o₂, e₂, q₂, r₂⟩ := u b o₁ e₁ np
 exact ⟨o₂, e₂, fun f => (q₂ f).trans (q₁ f), r₂.trans r₁⟩
theorem Touch.slots (x : Heap.SlotsOnly (frs stk) h h') : Touch stk P h h' := fun b o e J => by
 obtain ⟨sl, e'⟩ := x.2.2 b o e
 exact ⟨_, e', fun nf => by
  have := x.2.1 b nf
  rw [e', e] at this
  exact Option.some.inj this, rfl⟩
theorem Touch.keeps (k : ∀ b o, ¬ P b → h.get? b = some o → h'.get? b = some o) : Touch stk P h h' := fun b o e np => ⟨o, k b o np e, fun J => rfl, rfl⟩
theorem Touch.mono {P' : Addr → Prop} (t : Touch stk P h h') (hp : ∀ b, P b → P' b) : Touch stk P' h h' := fun b o e np => t b o e fun p => np (hp b p)
theorem mapFields_eq {o : Obj} {vs : Array Value} (hd : o.data = .fields vs) (f : Array Value → Array Value) : o.mapFields f = { o with data := .fields (f vs) } := by
 obtain ⟨c, d, dt, sl⟩ := o
 subst hd
 rfl
theorem upd_self {a : Addr} {o : Obj} {vs : Array Value} (e : h.get? a = some o) (hd : o.data = .fields vs) (f : Array Value → Array Value) : (h.update a (Obj.mapFields f)).get? a = some { o with data := .fields (f vs) } := by
 rw [Heap.get?_update_self _ e (by rw [mapFields_eq hd]; rfl), mapFields_eq hd]
theorem upd_other {a b : Addr} (f : Obj → Obj) (h : Heap) (n : b ≠ a) : (h.update a f).get? b = h.get? b := Heap.get?_update_other _ _ (Ne.symm n)
theorem FlyX.free (T₀ : St S stk K s₀) (f : FlyX S stk s₀.heap e wt at_ h' oe vs dx) : Free S stk K h' e := by
 have hn := f.new
 refine ⟨?_, T₀.kNone hn, (Fix.new T₀ hn).2, (Fix.new T₀ hn).1, fun o e' => ?_⟩
 ·cases q : S.B.get? e with
  | none => rfl
  | some o => rw [T₀.stays _ _ q] at hn; exact no_sn hn
 ·rw [f.ob] at e'; cases e'; rw [f.cls]; intro z; cases z
theorem Trc.free (T₀ : St S stk K s₀) (f : Trc s₀.heap h' e fl head) : ∃ T oT ts, head = .ref T ∧ T ≠ e ∧ h'.get? T = some oT ∧ oT.cls = .type "traceback" ∧ oT.data = .fields ts ∧ ts[3]? = some fl ∧ s₀.heap.get? T = none ∧ Free S stk K h' T := by
 refine abs1 fun G0 hG0 => ?_
 obtain ⟨T, oT, ts, a, hn, c, d, e', f1, g⟩ := f
 refine hG0 ?_
 clear hG0 G0
 refine ⟨T, oT, ts, a, c, d, e', f1, g, hn, ?_, T₀.kNone hn, (Fix.new T₀ hn).2, (Fix.new T₀ hn).1, fun o e'' => ?_⟩
 ·cases q : S.B.get? T with
  | none => rfl
  | some o => rw [T₀.stays _ _ q] at hn; exact no_sn hn
 ·rw [d] at e''; obtain rfl := Option.some.inj e''; rw [e']; decide
theorem dict_ne (f : FlyX S stk h e wt at_ h' oe vs dx) {a : Addr} {o : Obj} {ws : Array Value} (ea : h'.get? a = some o) (hd : o.data = .fields ws) : dx ≠ a := fun q => by
 obtain ⟨es, n, _, _, ed, _⟩ := f.dob
 rw [q, ea] at ed
 obtain rfl := Option.some.inj ed
 cases hd
theorem entry_fly (H : StaOk S) (T₀ : St S stk K s₀) (TS : St S stk K s) (x : ExtP S stk P₀ s₀.heap s.heap) (hfr : A.frames = some stk) (hst : stk = env :: outer) (hf : env.frame = some L) (f : FlyX S stk s₀.heap e wt at_ s.heap oe vs dx) {hadNext : Bool} {Q : Unit → Shared → Prop}
  (h : ∀ h', St S stk K { s with heap := h' } → ExtP S stk P₀ s₀.heap h' → FlyT S stk s₀.heap e wt at_ (rawInt L) h' → Q () { s with heap := h' }) :
  wpAny M A (do let a ← frameOf env; let pl ← entryPlaceOf L hadNext; let b ← EntryCells.newEntry head a .none (rawInt L) .none pl; setField (.ref e) 1 b) Q E s := by
 subst hst
 refine wpAny_bind (wpAny_frameOf_fun hfr (Frs.fun TS) hf fun h₁ hs₁ => ?_)
 have t₁ : Touch (env :: outer) (fun b => b = e) s.heap h₁ := Touch.slots hs₁
 have Fe := f.free T₀
 have T₁ : St S (env :: outer) K { s with heap := h₁, toks := s.toks } := TS.touch H (P := fun J => False) (fun J q => q.elim) (Touch.slots hs₁) s.toks
 refine wpAny_bind (wpAny_entryPlaceOf fun pl hpl => ?_)
 unfold EntryCells.newEntry newFields
 refine wpAny_bind (wpAny_newObj_type ?_ (hpl.sizeOk5 _ _ _ _ _))
 have eqe : ∀ b, b ∉ frs (env :: outer) → h₁.get? b = s.heap.get? b := hs₁.2.1
 have he₁ : h₁.get? e = some oe := (eqe e Fe.frame).trans f.ob
 let oT : Obj := { cls := .type "traceback", dict := none, data := .fields ([head, .ref L, .none, rawInt L, .none] ++ (if pl.isEmpty then List.replicate 6 Value.none else pl)).toArray }
 have he₂ : (h₁.push oT).get? e = some oe := Heap.get?_push_of_some _ he₁
 have hTe : h₁.objs.size ≠ e := Nat.ne_of_gt (Heap.lt_size he₁)
 refine wpAny_setField he₂ f.data (by have := f.size; lia) ?_
 have T₂ := T₁.grow H (h' := h₁.push oT) (fun J J e => Heap.get?_push_of_some _ e) s.toks
 have k₃ : ∀ b o, ¬ b = e → (h₁.push oT).get? b = some o → ((h₁.push oT).update e (Obj.mapFields (·.setIfInBounds 1 (Value.ref h₁.objs.size)))).get? b = some o := fun b o n q => (upd_other _ _ n).trans q
 have Fe₂ : Free S (env :: outer) K (h₁.push oT) e := ⟨Fe.base, Fe.known, Fe.tab, Fe.frame, fun o q => by rw [he₂] at q; cases q; rw [f.cls]; intro z; cases z⟩
 refine h _ (T₂.touch H (P := fun b => b = e) (fun a p => p ▸ Fe₂) (Touch.keeps k₃) s.toks) ?_ ?_
 ·refine Touch.ext (P := fun b => b = e) (Touch.keeps k₃) ?_ (fun a p => p ▸ f.new)
  exact (Touch.ext (P := fun J => False) (Touch.slots hs₁) x fun J q => q.elim).trans (ExtP.keeps fun J J e => Heap.get?_push_of_some _ e)
 ·obtain ⟨es, n, av, t, ed, dd⟩ := f.dob
  have hde : dx ≠ e := dict_ne f f.ob f.data
  refine ⟨_, _, dx, .ref h₁.objs.size, ⟨f.new, upd_self he₂ f.data _, f.cls, f.dict, rfl, by simp; exact f.size, ⟨es, n, av, t, ?_, dd⟩, f.fix, fun q => by have := f.ctx q; simpa using this⟩, ?_, h₁.objs.size, oT, _, rfl, ?_, hTe, (upd_other _ _ hTe).trans (Heap.get?_push_size _ rfl), rfl, rfl, ?_⟩
  ·exact (upd_other _ _ hde).trans (Heap.get?_push_of_some _ ((eqe dx f.fix.1).trans ed))
  ·have hsz : 1 < vs.size := by have := f.size; lia
   simp [hsz]
  ·exact (Touch.ext (P := fun J => False) (Touch.slots hs₁) x fun J q => q.elim).none (new_none _)
  ·first | (simp; done) | (rcases hpl with rfl | ⟨_, _, _, _, _, _, _, rfl⟩ <;> simp)
theorem noteFrame_fly (H : StaOk S) (T₀ : St S stk K s₀) (TS : St S stk K s) (x : ExtP S stk P₀ s₀.heap s.heap) (hfr : A.frames = some stk) (hst : stk = env :: outer) (hf : env.frame = some L) (f : Fly S stk s₀.heap e wt at_ s.heap) {Q : Unit → Shared → Prop}
  (h : ∀ h', St S stk K { s with heap := h' } → ExtP S stk P₀ s₀.heap h' → FlyT S stk s₀.heap e wt at_ (rawInt L) h' → Q () { s with heap := h' }) : wpAny M A (noteFrame (.ref e) env) Q E s := by
 obtain ⟨oe, vs, dx, f, r⟩ := f
 unfold noteFrame
 simp only [hf]
 rcases r with h1 | ⟨fl, head, h1, tr, q⟩
 ·refine wpAny_bind (wpAny_field f.ob f.data h1 ?_)
  rw [if_neg (by decide)]
  exact entry_fly H T₀ TS x hfr hst hf f h
 ·obtain ⟨Ta, oT, ts, rfl, hTe, hT, hc, hd, h3, hn, Ft⟩ := tr.free T₀
  refine wpAny_bind (wpAny_field f.ob f.data h1 ?_)
  rw [if_pos (show (Value.ref Ta != Value.none) = true from by simp)]
  refine wpAny_bind (wpAny_field hT hd h3 ?_)
  by_cases hfl : (fl == rawInt L) = true
  ·rw [if_pos hfl]
   have hfl' : fl = rawInt L := eq_of_beq hfl
   subst hfl'
   exact wpAny_pure (h s.heap TS x ⟨oe, vs, dx, _, f, h1, tr⟩)
  ·rw [if_neg hfl]
   refine wpAny_bind (wpAny_setField hT hd (Array.getElem?_eq_some_iff.mp h3).1 ?_)
   have k₁ : ∀ b o, ¬ b = Ta → s.heap.get? b = some o → (s.heap.update Ta (Obj.mapFields (·.setIfInBounds 3 Value.none))).get? b = some o := fun b o n q => (upd_other _ _ n).trans q
   have T₁ := TS.touch H (P := fun b => b = Ta) (fun a p => p ▸ Ft) (Touch.keeps k₁) s.toks
   have x₁ := Touch.ext (P := fun b => b = Ta) (Touch.keeps k₁) x (fun a p => p ▸ hn)
   have hdT : dx ≠ Ta := dict_ne f hT hd
   refine abs1 fun G0 hG0 => ?_
   obtain ⟨es, n, av, t, ed, dd⟩ := f.dob
   refine hG0 ?_
   clear hG0 G0
   exact entry_fly (s := { s with heap := s.heap.update Ta (Obj.mapFields (·.setIfInBounds 3 Value.none)) }) H T₀ T₁ x₁ hfr hst hf ⟨f.new, k₁ _ _ (Ne.symm hTe) f.ob, f.cls, f.dict, f.data, f.size, ⟨es, n, av, t, k₁ _ _ hdT ed, dd⟩, f.fix, f.ctx⟩ h
theorem setFlight_fly (H : StaOk S) (T₀ : St S stk K s₀) (TS : St S stk K s) (x : ExtP S stk P₀ s₀.heap s.heap) (f : FlyT S stk s₀.heap e wt at_ fl s.heap) (fr : Option Addr) {Q : Unit → Shared → Prop}
  (h : ∀ h', St S stk K { s with heap := h' } → ExtP S stk P₀ s₀.heap h' → FlyT S stk s₀.heap e wt at_ (fr.elim .none fun f => rawInt f) h' → Q () { s with heap := h' }) : wpAny M A (setFlight (.ref e) fr) Q E s := by
 obtain ⟨oe, vs, dx, head, f, h1, tr⟩ := f
 obtain ⟨Ta, oT, ts, rfl, hTe, hT, hc, hd, h3, hn, Ft⟩ := tr.free T₀
 unfold setFlight
 refine wpAny_bind (wpAny_field f.ob f.data h1 ?_)
 rw [if_pos (show (Value.ref Ta != Value.none) = true from by simp)]
 have hz := (Array.getElem?_eq_some_iff.mp h3).1
 refine wpAny_setField hT hd hz ?_
 have k₁ : ∀ b o, ¬ b = Ta → s.heap.get? b = some o → (s.heap.update Ta (Obj.mapFields (·.setIfInBounds 3 (fr.elim Value.none fun f => rawInt f)))).get? b = some o := fun b o n q => (upd_other _ _ n).trans q
 have hdT : dx ≠ Ta := dict_ne f hT hd
 obtain ⟨es, n, av, t, ed, dd⟩ := f.dob
 refine h _ (TS.touch H (P := fun b => b = Ta) (fun a p => p ▸ Ft) (Touch.keeps k₁) s.toks) (Touch.ext (P := fun b => b = Ta) (Touch.keeps k₁) x (fun a p => p ▸ hn)) ?_
 refine ⟨oe, vs, dx, .ref Ta, ⟨f.new, k₁ _ _ (Ne.symm hTe) f.ob, f.cls, f.dict, f.data, f.size, ⟨es, n, av, t, k₁ _ _ hdT ed, dd⟩, f.fix, f.ctx⟩, h1, Ta, _, _, rfl, hn, hTe, upd_self hT hd _, hc, rfl, ?_⟩
 simp [hz]
theorem FlyT.fly (f : FlyT S stk h e wt at_ fl h') (q : fl = .none ∨ ∃ env L, stk.head? = some env ∧ env.frame = some L ∧ fl = rawInt L) : Fly S stk h e wt at_ h' := by
 obtain ⟨oe, vs, dx, head, f, h1, tr⟩ := f
 exact ⟨oe, vs, dx, f, .inr ⟨fl, head, h1, tr, q⟩⟩
theorem leaving_fly (H : StaOk S) (T₀ : St S stk K s₀) (TS : St S stk K s) (x : ExtP S stk P₀ s₀.heap s.heap) (hfr : A.frames = some stk) (hst : stk = env :: outer) (hf : env.frame = some L) (f : Fly S stk s₀.heap e wt at_ s.heap) {Q : Unit → Shared → Prop}
  (h : ∀ h', St S stk K { s with heap := h' } → ExtP S stk P₀ s₀.heap h' → FlyT S stk s₀.heap e wt at_ .none h' → Q () { s with heap := h' }) : wpAny M A (leaving env (.ref e)) Q E s := by
 unfold leaving
 refine wpAny_bind (noteFrame_fly H T₀ TS x hfr hst hf f fun h₁ T₁ x₁ f₁ => ?_)
 exact setFlight_fly (s := { s with heap := h₁ }) H T₀ T₁ x₁ f₁ none h
end
noncomputable def RxS {α : Type} (S : Sta) (stk : List Env) (env : Env) (s : Shared) (K : Kn) (r : Tr α) (G : α → Kn → Shared → Prop) (E : Value → Shared → Prop) : Prop :=
 r.sat (fun a => ∀ K' s', St S stk K' s' → ExtP S stk (Own env) s.heap s'.heap → KExt s.heap K K' → G a K' s') (fun w a => ∀ e s', St S stk K s' → ExtP S stk (Own env) s.heap s'.heap → Fly S stk s.heap e w a s'.heap → E (.ref e) s')
theorem allStor_inv {sc : Scope} {t : PySem.Expr} {ts : List PySem.Expr} (h : allStor sc (t :: ts) = true) : ∃ x p, t = .Name x p ∧ storable sc x = true ∧ allStor sc ts = true := by
 induction t using PySem.Expr.casesOn with
 | Name x p => exact ⟨x, p, rfl, Bool.and_eq_true_iff.mp h⟩
 | _ => exact absurd h Bool.false_ne_true
theorem setAll_inv {t : PySem.Expr} {ts : List PySem.Expr} {ds : List D} {m m' : Loc} (h : setAll (t :: ts) ds m = some m') : ∃ x p d r, t = .Name x p ∧ ds = d :: r ∧ setAll ts r (m.set x d) = some m' := by
 induction t using PySem.Expr.casesOn with
 | Name x p =>
  induction ds using List.casesOn with
  | nil => exact absurd h.symm (Option.some_ne_none _)
  | cons d r => exact ⟨x, p, d, r, rfl, rfl, h⟩
 | _ => exact absurd h.symm (Option.some_ne_none _)
theorem setAll_nil {ds : List D} {m m' : Loc} (h : setAll [] ds m = some m') : ds = [] ∧ m' = m := by
 induction ds using List.casesOn with
 | nil => exact ⟨rfl, (Option.some.inj h).symm⟩
 | cons => exact absurd h.symm (Option.some_ne_none _)
section
variable {prog : Program} {w : World} {S : Sta} {T : Tab} {k : Nat} {M : Model}
variable {A : Around} {stk outer : List Env} {K K' K₀ : Kn} {s s₀ : Shared} {env : Env} {E : Value → Shared → Prop} {h h' h₀ h₁ h₂ : Heap} {m m' : Loc} {sc : Scope} {n : Nat}
variable {α β : Type}
theorem Ext.p {P : Addr → Prop} (x : Ext S stk h h') : ExtP S stk P h h' := x.weaken fun J q => q.elim
theorem RxS.after {r : Tr α} {G : α → Kn → Shared → Prop} {s₁ : Shared} {K₁ : Kn} (x : ExtP S stk (Own env) s.heap s₁.heap) (kx : KExt s.heap K K₁) (g : RxS S stk env s K r G E) : RxS S stk env s₁ K₁ r G E :=
 Tr.sat_mono (fun J h K' s' T x' kx' => h K' s' T (x.trans x') (kx.trans x kx')) (fun J J h e s' T x' f => h e s' (T.more fun a o q => .inl (kx.1 a o q)) (x.trans x') (f.after x)) r g
theorem RxS.g {r : Tr α} {G : α → Kn → Shared → Prop} (h : RxS S stk env s K r G E) : RxG S stk s K r G E :=
 Tr.sat_mono (fun J h K' s' T x kx => h K' s' T (Ext.p x) kx) (fun J J h e s' T x f => h e s' T (Ext.p x) f) r h
theorem RxS.step {r : Tr α} {f : α → Tr β} {G : β → Kn → Shared → Prop} {G₁ : α → Kn → Shared → Prop} (h : RxS S stk env s K (r.bind f) G E)
  (hq : ∀ a K' s', RxS S stk env s' K' (f a) G E → St S stk K' s' → ExtP S stk (Own env) s.heap s'.heap → KExt s.heap K K' → G₁ a K' s') : RxS S stk env s K r G₁ E := by
 unfold RxS at h ⊢
 rw [Tr.sat_bind] at h
 exact Tr.sat_mono (fun a ha K' s' T' x kx => hq a K' s' (RxS.after x kx ha) T' x kx) (fun J J q => q) r h
theorem RxS.stepV {r : Tr D} {f : D → Tr β} {G : β → Kn → Shared → Prop} {Q₁ : Value → Shared → Prop} (h : RxS S stk env s K (r.bind f) G E)
  (hq : ∀ v d K' s', RxS S stk env s' K' (f d) G E → St S stk K' s' → Ext S stk s.heap s'.heap → KExt s.heap K K' → Rep S K' v d → Q₁ v s') : Rx S stk s K r Q₁ E := by
 have h' : r.sat (fun d => RxS S stk env s K (f d) G E) (fun w a => ∀ e s', St S stk K s' → ExtP S stk (Own env) s.heap s'.heap → Fly S stk s.heap e w a s'.heap → E (.ref e) s') := by
  unfold RxS at h ⊢
  rw [Tr.sat_bind] at h
  exact h
 exact Tr.sat_mono (fun d hd v K' s' T x kx rp => hq v d K' s' (RxS.after (Ext.p x) kx hd) T x kx rp) (fun J J q e s' T x f => q e s' T (Ext.p x) f) _ h'
theorem RxS.ok {a : α} {G : α → Kn → Shared → Prop} (T : St S stk K s) (h : RxS S stk env s K (.ok a) G E) : G a K s := h K s T (ExtP.refl _) (KExt.refl _ _)
theorem RxS.br {b : Bool} {x y : Tr α} {G : α → Kn → Shared → Prop} (h : RxS S stk env s K (.br b x y) G E) : (b = true ∧ RxS S stk env s K x G E) ∨ (b = false ∧ RxS S stk env s K y G E) := by
 induction b using Bool.casesOn with
 | true => exact .inl ⟨rfl, h.1 rfl⟩
 | false => exact .inr ⟨rfl, h.2 rfl⟩
theorem RxS.mono {r : Tr α} {G G' : α → Kn → Shared → Prop} (h : RxS S stk env s K r G E) (hg : ∀ a K' s', G a K' s' → G' a K' s') : RxS S stk env s K r G' E :=
 Tr.sat_mono (fun a q K' s' T x kx => hg a K' s' (q K' s' T x kx)) (fun J J q => q) r h
noncomputable def FlowIs (S : Sta) (stk : List Env) (env : Env) (fl : Fl) (f : Flow) (K : Kn) (s : Shared) : Prop := match fl with
 | .next m => f = .next ∧ Lc S stk env m K s.heap
 | .cont m => f = .cont ∧ Lc S stk env m K s.heap
 | .ret d => ∃ v, f = .ret v ∧ Rep S K v d
structure Top1 (stk : List Env) (env : Env) : Prop where
 head : ∃ outer, stk = env :: outer
 frame : env.frame = some env.locals
noncomputable def SoundX (prog : Program) (w : World) (S : Sta) (T : Tab) (k kk n : Nat) : Prop :=
 ∀ (sc : Scope) (st : Stmt) (m : Loc) (env : Env) (A : Around) (stk : List Env) (K : Kn) (s : Shared) (Q : Flow → Shared → Prop) (E : Value → Shared → Prop),
  Ar A stk k → St S stk K s → Lc S stk env m K s.heap → KindOk S T sc env → Top1 stk env → RxS S stk env s K (ex T kk sc n st m) (fun fl K' s' => ∀ f, FlowIs S stk env fl f K' s' → Q f s') E → wpAny (model prog w) A (exec st env) Q E s
theorem extOwn (k : ∀ b, ¬ Own env b → h'.get? b = h.get? b) (ex : ∀ b o, Own env b → h.get? b = some o → ∃ o', h'.get? b = some o') : ExtP S stk (Own env) h h' := fun b o e => by
 by_cases q : Own env b
 ·obtain ⟨o', e'⟩ := ex b o q e
  exact ⟨o', e', fun np => absurd q np⟩
 ·exact ⟨o, (k b q).trans e, fun J => ⟨fun J => rfl, fun J => rfl⟩⟩
theorem own_live (X : Lc S stk env m K h) {b : Addr} (q : Own env b) : ∃ o, h.get? b = some o := by
 rcases q with rfl | ⟨p, hp, rfl⟩
 ·obtain ⟨mv, ⟨o, _, _, ho, _⟩, _⟩ := X.ns; exact ⟨o, ho⟩
 ·obtain ⟨_, _, _, _, o, ho⟩ := X.cOk p hp; exact ⟨o, ho⟩
theorem store_ext (X : Lc S stk env m' K h') (k : ∀ b, ¬ Own env b → h'.get? b = h.get? b) : ExtP S stk (Own env) h h' := extOwn k fun b o q J => own_live X q
theorem plain_swaps {v : PySem.Expr} {t : PySem.Expr} {line : Nat} (h : plainE v = true) : swapsWith v (some t) line env = pure false := by
 cases v <;> first | rfl | exact no_ft h
theorem plain_swaps0 {v : PySem.Expr} {line : Nat} (h : plainE v = true) : swapsWith v none line env = pure false := by
 cases v <;> first | rfl | exact no_ft h
theorem assign_all (ko : KindOk S T sc env) : ∀ {ts : List PySem.Expr} {ds : List D} {vs : List Value} {m m' : Loc} {s : Shared} {C : Shared → Prop}, allStor sc ts = true → setAll ts ds m = some m' → Reps S K vs ds → St S stk K s → Lc S stk env m K s.heap →
  (∀ h' tk, St S stk K { s with heap := h', toks := tk } → Lc S stk env m' K h' → (∀ b, ¬ Own env b → h'.get? b = s.heap.get? b) → C { s with heap := h', toks := tk }) →
  wpAny (model prog w) A (assignInOrder ((assignEach ts env).map (·.2)) vs) (fun J s' => C s') E s
 | [], ds, vs, m, m', s, C, _, e, rs, TS, X, h => by
  obtain ⟨rfl, rfl⟩ := setAll_nil e
  obtain rfl := rs.nil_v
  exact wpAny_assignInOrder_none (h s.heap s.toks TS X fun J J => rfl)
 | t :: ts, ds, vs, m, m', s, C, hs, e, rs, TS, X, h => by
  obtain ⟨x, p, d, ds, rfl, rfl, e⟩ := setAll_inv e
  obtain ⟨_, _, rfl, r, rs⟩ := rs.cons_v
  have hs' : (storable sc x && allStor sc ts) = true := hs
  rw [Bool.and_eq_true] at hs'
  refine wpAny_assignInOrder_more (wpAny_assign_Name (store_sound TS X r (storable_kind ko hs'.1) fun h₁ t₁ T₁ X₁ k₁ => ?_))
  exact assign_all (s := { s with heap := h₁, toks := t₁ }) ko hs'.2 e rs T₁ X₁ fun h₂ t₂ T₂ X₂ k₂ => h h₂ t₂ T₂ X₂ fun b q => (k₂ b q).trans (k₁ b fun z => q z.own)
noncomputable def setL (l : List (Str × Value × D)) (m : Loc) : Loc := l.foldl (fun m t => m.set t.1 t.2.2) m
theorem setL_lookup : ∀ (l : List (Str × Value × D)) (m : Loc), (l.map (·.1)).Nodup → ∀ y, (∀ t ∈ l, t.1 = y → (setL l m).lookup y = some t.2.2) ∧ ((∀ t ∈ l, t.1 ≠ y) → (setL l m).lookup y = m.lookup y)
 | [], m, _, y => ⟨(fun t ht => by cases ht), fun J => rfl⟩
 | t :: r, m, hn, y => by
  rw [List.map_cons, List.nodup_cons] at hn
  obtain ⟨ih1, ih2⟩ := setL_lookup r (m.set t.1 t.2.2) hn.2 y
  refine ⟨fun u hu e => ?_, fun hne => ?_⟩
  ·rcases List.mem_cons.mp hu with rfl | hu
   ·show (setL r (m.set u.1 u.2.2)).lookup y = _
    rw [ih2 fun v hv q => hn.1 (List.mem_map.mpr ⟨v, hv, q.trans e.symm⟩), Loc.lookup_set, if_pos e.symm]
   ·exact ih1 u hu e
  ·show (setL r (m.set t.1 t.2.2)).lookup y = _
   rw [ih2 fun v hv => hne v (.tail _ hv), Loc.lookup_set, if_neg fun q => hne t (.head _) q.symm]
theorem store_list : ∀ {l : List (Str × Value × D)} {m : Loc} {s : Shared} {C : Shared → Prop}, (∀ t ∈ l, (env.kindOf t.1 = some .local ∨ env.kindOf t.1 = some .cell) ∧ Rep S K t.2.1 t.2.2) → St S stk K s → Lc S stk env m K s.heap →
  (∀ h' tk, St S stk K { s with heap := h', toks := tk } → Lc S stk env (setL l m) K h' → (∀ b, ¬ Own env b → h'.get? b = s.heap.get? b) → C { s with heap := h', toks := tk }) →
  wpAny (model prog w) A (assignInOrder (l.map fun t => bindName env t.1) (l.map (·.2.1))) (fun J s' => C s') E s
 | [], m, s, C, _, TS, X, h => wpAny_assignInOrder_none (h s.heap s.toks TS X fun J J => rfl)
 | t :: r, m, s, C, hl, TS, X, h => by
  obtain ⟨hk, rp⟩ := hl t (.head _)
  refine wpAny_assignInOrder_more (wpAny_bindName (store_sound TS X rp hk fun h₁ t₁ T₁ X₁ k₁ => ?_))
  exact store_list (s := { s with heap := h₁, toks := t₁ }) (fun u hu => hl u (.tail _ hu)) T₁ X₁ fun h₂ t₂ T₂ X₂ k₂ => h h₂ t₂ T₂ X₂ fun b q => (k₂ b q).trans (k₁ b fun z => q z.own)
noncomputable def zip3 : List PySem.Expr → List Value → List D → List (Str × Value × D)
 | .Name x _ :: ts, v :: vs, d :: ds => (x, v, d) :: zip3 ts vs ds
 | _, _, _ => []
theorem zip3_of : ∀ {ts : List PySem.Expr} {vs : List Value} {ds : List D} {m m' : Loc}, setAll ts ds m = some m' → Reps S K vs ds → (zip3 ts vs ds).map (·.1) = namesN ts ∧ (zip3 ts vs ds).map (·.2.1) = vs ∧ m' = setL (zip3 ts vs ds) m ∧ (∀ t ∈ zip3 ts vs ds, Rep S K t.2.1 t.2.2) ∧ ts.length = vs.length ∧ (namesN ts).length = ts.length
 | [], vs, ds, m, m', e, rs => by
  obtain ⟨rfl, rfl⟩ := setAll_nil e
  obtain rfl := rs.nil_v
  exact ⟨rfl, rfl, rfl, (fun t ht => nomatch ht), rfl, rfl⟩
 | t :: ts, vs, ds, m, m', e, rs => by
  refine abs1 fun G0 hG0 => ?_
  obtain ⟨x, p, d, ds, rfl, rfl, e⟩ := setAll_inv e
  obtain ⟨v, vs, rfl, r, rs⟩ := rs.cons_v
  obtain ⟨a, b, c, d', e', f⟩ := zip3_of (m := m.set x d) e rs
  refine hG0 ?_
  clear hG0 G0
  refine ⟨?_, ?_, c, fun t ht => ?_, ?_, ?_⟩
  ·show x :: (zip3 ts _ ds).map (·.1) = x :: namesN ts; rw [a]
  ·show _ :: (zip3 ts _ ds).map (·.2.1) = _ :: _; rw [b]
  ·rcases List.mem_cons.mp ht with rfl | ht
   ·exact r
   ·exact d' t ht
  ·simp [e']
  ·show (namesN ts).length + 1 = ts.length + 1; rw [f]
end
section
variable {prog : Program} {w : World} {S : Sta} {T : Tab} {k kk : Nat} {M : Model}
variable {A : Around} {stk outer : List Env} {K K' K₀ : Kn} {s s₀ : Shared} {env : Env} {E : Value → Shared → Prop} {h h' h₀ h₁ h₂ : Heap} {m m' : Loc} {sc : Scope} {n : Nat}
variable {α β : Type} {Q : Flow → Shared → Prop}
noncomputable def nmF (env : Env) (line : Nat) : PySem.Expr → Option Str
 | .Name id pos => if (env.kindOf id == some .local && pos.line == line) = true then some id else none
 | _ => none
theorem names_all (line : Nat) : ∀ {ts : List PySem.Expr}, allStor sc ts = true → (ts.filterMap (nmF env line)).length = ts.length → ts.filterMap (nmF env line) = namesN ts ∧ ∀ x ∈ namesN ts, env.kindOf x = some .local
 | [], _, _ => ⟨rfl, fun x hx => nomatch hx⟩
 | t :: ts, hs, hl => by
  refine abs1 fun G0 hG0 => ?_
  obtain ⟨id, p, rfl, hs1, hs2⟩ := allStor_inv hs
  refine hG0 ?_
  clear hG0 G0
  by_cases c : (env.kindOf id == some .local && p.line == line) = true
  ·have e : nmF env line (.Name id p) = some id := if_pos c
   rw [List.filterMap_cons_some e] at hl ⊢
   obtain ⟨a, b⟩ := names_all line hs2 (Nat.succ.inj hl)
   refine ⟨?_, fun x hx => ?_⟩
   ·show id :: _ = id :: namesN ts
    rw [a]
   ·rcases List.mem_cons.mp hx with rfl | hx
    ·simp only [Bool.and_eq_true, beq_iff_eq] at c; exact c.1
    ·exact b x hx
  ·have e : nmF env line (.Name id p) = none := if_neg c
   rw [List.filterMap_cons_none e] at hl
   have := List.length_filterMap_le (nmF env line) ts
   rw [hl] at this
   exact absurd this (Nat.not_succ_le_self _)
theorem swapped_cases {ts : List PySem.Expr} {tk : Nat} {tp : Pos} {v : PySem.Expr} (hs : allStor sc ts = true) (hw : swapOk v = true) :
  swappedStores [.Tuple ts tk tp] v env = pure none ∨ (swappedStores [.Tuple ts tk tp] v env = pure (some (namesN ts)) ∧ ∀ x ∈ namesN ts, env.kindOf x = some .local) := by
 induction v using PySem.Expr.casesOn with
 | Tuple vs a b =>
  have e : swappedStores [.Tuple ts tk tp] (.Tuple vs a b) env = (if (!(ts.length == 2 || ts.length == 3) || vs.length != ts.length || env.blockKind != .function) = true then pure none else
    if (vs.any fun | .Starred .. => true | _ => false) = true then pure none else
    if ((ts.filterMap (nmF env ((ts.head?.map (·.pos.line)).getD 0))).length != ts.length || (ts.filterMap (nmF env ((ts.head?.map (·.pos.line)).getD 0))).eraseDups.length != (ts.filterMap (nmF env ((ts.head?.map (·.pos.line)).getD 0))).length) = true then pure none else
    if vs.all (foldedForSure 8) = true then pure none else
    if vs.all (constantsAlone 8) = true then unsupported "assign.tuple-of-constant-expressions:order-of-the-stores" else pure (some (ts.filterMap (nmF env ((ts.head?.map (·.pos.line)).getD 0))))) := rfl
  rw [e]
  split
  ·exact .inl rfl
  ·split
   ·exact .inl rfl
   ·split
    ·exact .inl rfl
    ·rename_i c
     split
     ·exact .inl rfl
     ·rename_i c2
      have hw' : (vs.all (foldedForSure 8) || !vs.all (constantsAlone 8)) = true := hw
      split
      ·rename_i c3
       rw [c3] at hw'
       simp only [Bool.not_true, Bool.or_false] at hw'
       exact absurd hw' c2
      ·simp only [Bool.or_eq_true, bne_iff_ne, ne_eq, not_or, Decidable.not_not] at c
       obtain ⟨a, b⟩ := names_all _ hs c.1
       exact .inr ⟨by rw [a], b⟩
 | _ => exact .inl rfl
theorem tuple_assign (H : StaOk S) (ko : KindOk S T sc env) (ar : Ar A stk k) (TS : St S stk K s) (X : Lc S stk env m K s.heap) {ts : List PySem.Expr} {tk : Nat} {tp : Pos} (hs : allStor sc ts = true) (hd : distinctN ts = true) {u : Value} {us : List Value} {ds : List D} (rs : Reps S K us ds)
  (hu : (∃ a, u = .ref a ∧ s.heap.IsTuple a us.toArray) ∨ (∃ a, u = .ref a ∧ s.heap.IsList a us.toArray)) (hm : setAll ts ds m = some m') {names : Option (List Str)} (hn : names = none ∨ (names = some (namesN ts) ∧ ∀ x ∈ namesN ts, env.kindOf x = some .local))
  (h : ∀ s', St S stk K s' → ExtP S stk (Own env) s.heap s'.heap → Lc S stk env m' K s'.heap → Q .next s') :
  wpAny (model prog w) A (assignStores env u names ((assignEach [.Tuple ts tk tp] env).map (·.2))) Q E s := by
 obtain ⟨z1, z2, z3, z4, z5, z6⟩ := zip3_of hm rs
 have items : ∀ {N : Nat}, N = us.length → ∀ {C : List Value → Shared → Prop}, (∀ h', (∀ b o, s.heap.get? b = some o → h'.get? b = some o) → C us { s with heap := h' }) → wpAny (model prog w) A (unpackItems u N none) C E s := by
  intro N hN C hC
  have key : ∀ h', Heap.ExtBut s.heap.objs.size s.heap h' → C us { s with heap := h' } := fun h' he => hC h' fun b o e => he b o (Nat.ne_of_lt (Heap.lt_size e)) e
  subst hN
  rcases hu with ⟨a, rfl, hu⟩ | ⟨a, rfl, hu⟩
  ·have := wpAny_unpackItems_tuple (prog := prog) (w := w) (E := E) (Q := C) ar.hand hu (fun h' he => by simpa using key h' he)
   simpa using this
  ·have := kun_itemsOf (prog := prog) (w := w) (E := E) (Q := C) ar.hand hu (fun h' he => by simpa using key h' he)
   simpa using this
 rcases hn with rfl | ⟨rfl, hk⟩
 ·show wpAny _ _ (assignAll u [assign (.Tuple ts tk tp) env] >>= fun J => pure Flow.next) _ _ s
  have e : assignAll u [assign (.Tuple ts tk tp) env] = assign (.Tuple ts tk tp) env u := rfl
  rw [e, arm_assign_Tuple]
  clear e
  have hlen : (assignEach ts env).length = ts.length ∧ (assignEach ts env).findIdx? (·.1) = none := by
   clear hm z1 z2 z3 z4 z5 z6 items hd
   induction ts with
   | nil => exact ⟨rfl, rfl⟩
   | cons t ts ih =>
    induction t using PySem.Expr.casesOn with
    | Name x p =>
     have hs' : (storable sc x && allStor sc ts) = true := hs
     rw [Bool.and_eq_true] at hs'
     obtain ⟨a, b⟩ := ih hs'.2
     refine ⟨?_, ?_⟩
     ·show (assignEach ts env).length + 1 = ts.length + 1; rw [a]
     ·show List.findIdx? (·.1) ((false, assign (.Name x p) env) :: assignEach ts env) = none
      rw [List.findIdx?_cons]
      simp [b]
    | _ => exact no_ft hs
  refine wpAny_bind (wpAny_bind (wpAny_standAt ?_))
  unfold unpack
  rw [hlen.1, hlen.2]
  refine wpAny_bind (wpAny_holding (items z5 fun h₁ k₁ => ?_))
  have T₁ := TS.grow H k₁ s.toks
  have X₁ : Lc S stk env m K h₁ := X.keep (fun b o J e => k₁ b o e) (KExt.refl _ _)
  refine assign_all (s := { s with heap := h₁ }) ko hs hm rs T₁ X₁ fun h₂ t₂ T₂ X₂ k₂ => wpAny_pure ?_
  exact h _ T₂ ((ExtP.keeps k₁).trans (store_ext X₂ k₂)) X₂
 ·show wpAny _ _ (rule "assign.swapped-stores" >>= fun J => unpackItems u (namesN ts).length none >>= fun items => assignInOrder ((namesN ts).reverse.map fun n => bindName env n) items.reverse >>= fun J => pure Flow.next) _ _ s
  refine wpAny_bind (wpAny_rule (wpAny_bind (items (z6.trans z5) fun h₁ k₁ => wpAny_bind ?_)))
  have T₁ := TS.grow H k₁ s.toks
  have X₁ : Lc S stk env m K h₁ := X.keep (fun b o J e => k₁ b o e) (KExt.refl _ _)
  have e1 : (namesN ts).reverse.map (fun n => bindName env n) = ((zip3 ts us ds).reverse).map fun t => bindName env t.1 := by
   rw [← z1, List.map_reverse, List.map_reverse, List.map_map]
   rfl
  have e2 : us.reverse = ((zip3 ts us ds).reverse).map (·.2.1) := by
   rw [List.map_reverse, z2]
  rw [e1, e2]
  have nd : (namesN ts).Nodup := of_decide_eq_true hd
  refine store_list (s := { s with heap := h₁ }) (fun t ht => ?_) T₁ X₁ fun h₂ t₂ T₂ X₂ k₂ => wpAny_pure ?_
  ·have ht' := List.mem_reverse.mp ht
   exact ⟨.inl (hk _ (by rw [← z1]; exact List.mem_map.mpr ⟨t, ht', rfl⟩)), z4 t ht'⟩
  ·refine h _ T₂ ((ExtP.keeps k₁).trans (store_ext X₂ k₂)) (X₂.weaken fun y d e => ?_)
   rw [z3] at e
   have L1 := setL_lookup (zip3 ts us ds) m (by rw [z1]; exact nd) y
   have L2 := setL_lookup (zip3 ts us ds).reverse m (by rw [List.map_reverse, z1]; exact (List.reverse_perm _).nodup_iff.mpr nd) y
   by_cases c : ∃ t ∈ zip3 ts us ds, t.1 = y
   ·obtain ⟨t, ht, hy⟩ := c
    rw [L1.1 t ht hy] at e
    rw [L2.1 t (List.mem_reverse.mpr ht) hy]
    exact e
   ·have c' : ∀ t ∈ zip3 ts us ds, t.1 ≠ y := fun t ht q => c ⟨t, ht, q⟩
    rw [L1.2 c'] at e
    rw [L2.2 fun t ht => c' t (List.mem_reverse.mp ht)]
    exact e
end
section
variable {prog : Program} {w : World} {S : Sta} {T : Tab} {k kk : Nat} {M : Model}
variable {A : Around} {stk outer : List Env} {K K' K₀ : Kn} {s s₀ : Shared} {env : Env} {E : Value → Shared → Prop} {h h' h₀ h₁ h₂ : Heap} {m m' : Loc} {sc : Scope} {n : Nat}
variable {α β : Type} {Q : Flow → Shared → Prop}
noncomputable abbrev FlG (S : Sta) (stk : List Env) (env : Env) (Q : Flow → Shared → Prop) : Fl → Kn → Shared → Prop := fun fl K' s' => ∀ f, FlowIs S stk env fl f K' s' → Q f s'
theorem execs_sound (SX : SoundX prog w S T k kk n) (ar : Ar A stk k) (ko : KindOk S T sc env) (tp : Top1 stk env) : ∀ {sts : List Stmt} {m : Loc} {K : Kn} {s : Shared} {Q : Flow → Shared → Prop}, St S stk K s → Lc S stk env m K s.heap →
  RxS S stk env s K (exsL (ex T kk sc n) sts m) (FlG S stk env Q) E → wpAny (model prog w) A (execs sts env) Q E s
 | [], m, K, s, Q, TS, X, h => wpAny_execs_nil (RxS.ok TS h _ ⟨rfl, X⟩)
 | st :: r, m, K, s, Q, TS, X, h => by
  have h' : RxS S stk env s K ((ex T kk sc n st m).bind fun fl => match fl with | .next m' => exsL (ex T kk sc n) r m' | fl => .ok fl) (FlG S stk env Q) E := h
  refine wpAny_execs_cons (SX sc st m env A stk K s _ E ar TS X ko tp (h'.step fun fl K₁ s₁ h₁ T₁ x₁ k₁ f hf => ?_))
  induction fl using Fl.casesOn with
  | next m' =>
   obtain ⟨rfl, X₁⟩ := hf
   exact execs_sound SX ar ko tp T₁ X₁ h₁
  | cont m' =>
   obtain ⟨rfl, X₁⟩ := hf
   exact RxS.ok T₁ h₁ _ ⟨rfl, X₁⟩
  | ret d =>
   obtain ⟨v, rfl, rv⟩ := hf
   exact RxS.ok T₁ h₁ _ ⟨v, rfl, rv⟩
theorem expr_stmt (IE : SoundE prog w S T k kk) (ar : Ar A stk k) (ko : KindOk S T sc env) (TS : St S stk K s) (X : Lc S stk env m K s.heap) {e : PySem.Expr} {p : Pos}
  (h : RxS S stk env s K (ex T kk sc (n + 1) (.Expr e p) m) (FlG S stk env Q) E) : wpAny (model prog w) A (exec (.Expr e p) env) Q E s := by
 have h1 : RxS S stk env s K (match plainE e with | true => (ev T kk sc e m).bind fun J => .ok (.next m) | false => .bad) (FlG S stk env Q) E := h
 cases c : plainE e with
 | false => rw [c] at h1; exact h1.elim
 | true =>
  rw [c] at h1
  refine wpAny_Expr_any (IE sc e m env A stk K s _ E ar TS X ko (h1.stepV fun v d K₁ s₁ h₁ T₁ x₁ k₁ r₁ => ?_)) (by unfold interactive; rw [X.kind]; rfl) (plain_swaps0 c)
  exact RxS.ok T₁ h₁ _ ⟨rfl, X.ext x₁ k₁⟩
theorem if_stmt (IT : SoundT prog w S T k kk) (SX : SoundX prog w S T k kk n) (ar : Ar A stk k) (ko : KindOk S T sc env) (tp : Top1 stk env) (TS : St S stk K s) (X : Lc S stk env m K s.heap) {t : PySem.Expr} {b o : List Stmt} {p : Pos}
  (h : RxS S stk env s K (ex T kk sc (n + 1) (.If t b o p) m) (FlG S stk env Q) E) : wpAny (model prog w) A (exec (.If t b o p) env) Q E s := by
 have h1 : RxS S stk env s K (((ev T kk sc t m).bind tru).bind fun c => .br c (exsL (ex T kk sc n) b m) (exsL (ex T kk sc n) o m)) (FlG S stk env Q) E := by
  rw [Tr.bind_bind]
  exact h
 have h2 : RxS S stk env s K ((ev T kk sc t m).bind tru) (fun c K' s' => RxS S stk env s' K' (.br c (exsL (ex T kk sc n) b m) (exsL (ex T kk sc n) o m)) (FlG S stk env Q) E) E :=
  h1.step fun c K₁ s₁ h₁ T₁ x₁ k₁ => h₁
 have h3 : RxG S stk s K ((ev T kk sc t m).bind tru) (fun c K' s' => St S stk K' s' ∧ Lc S stk env m K' s'.heap ∧ RxS S stk env s' K' (.br c (exsL (ex T kk sc n) b m) (exsL (ex T kk sc n) o m)) (FlG S stk env Q) E) E :=
  Tr.sat_mono (fun c q K' s' T' x kx => ⟨T', X.ext x kx, q K' s' T' x kx⟩) (fun J J q => q) _ h2.g
 refine wpAny_If (IT sc t m env A stk K s _ E ar TS X ko (h3.mono (fun c K₁ s₁ ⟨T₁, X₁, h₁⟩ => ?_) fun J J q => q))
 rcases h₁.br with ⟨q, g⟩ | ⟨q, g⟩
 ·rw [if_pos q]; exact execs_sound SX ar ko tp T₁ X₁ g
 ·rw [if_neg (by rw [q]; exact Bool.false_ne_true)]; exact execs_sound SX ar ko tp T₁ X₁ g
theorem return_stmt (IE : SoundE prog w S T k kk) (ar : Ar A stk k) (ko : KindOk S T sc env) (TS : St S stk K s) (X : Lc S stk env m K s.heap) {v : Option PySem.Expr} {p : Pos}
  (h : RxS S stk env s K (ex T kk sc (n + 1) (.Return v p) m) (FlG S stk env Q) E) : wpAny (model prog w) A (exec (.Return v p) env) Q E s := by
 induction v using Option.casesOn with
 | none => exact wpAny_Return_none (RxS.ok TS h _ ⟨.none, rfl, .none⟩)
 | some e =>
  have h1 : RxS S stk env s K ((ev T kk sc e m).bind fun d => .ok (.ret d)) (FlG S stk env Q) E := h
  refine wpAny_Return_some (IE sc e m env A stk K s _ E ar TS X ko (h1.stepV fun v d K₁ s₁ h₁ T₁ x₁ k₁ r₁ => ?_))
  exact RxS.ok T₁ h₁ _ ⟨v, rfl, r₁⟩
theorem tuple_stmt (H : StaOk S) (IE : SoundE prog w S T k kk) (ar : Ar A stk k) (ko : KindOk S T sc env) (TS : St S stk K s) (X : Lc S stk env m K s.heap) {ts : List PySem.Expr} {j : Nat} {tp : Pos} {v : PySem.Expr} {p : Pos}
  (h : RxS S stk env s K (ex T kk sc (n + 1) (.Assign [.Tuple ts j tp] v p) m) (FlG S stk env Q) E) : wpAny (model prog w) A (exec (.Assign [.Tuple ts j tp] v p) env) Q E s := by
 have h1 : RxS S stk env s K (match plainE v && allStor sc ts && distinctN ts && swapOk v with
    | true => (ev T kk sc v m).bind fun d => match d with
     | .tup ds => setO (setAll ts ds m)
     | .list ds => setO (setAll ts ds m)
     | _ => .bad
    | false => .bad) (FlG S stk env Q) E := h
 cases c : (plainE v && allStor sc ts && distinctN ts && swapOk v) with
 | false => rw [c] at h1; exact h1.elim
 | true =>
  rw [c] at h1
  simp only [Bool.and_eq_true] at c
  obtain ⟨⟨⟨c1, c2⟩, c3⟩, c4⟩ := c
  have sw : swapsWithSole [.Tuple ts j tp] v p.line env = pure false := by
   have e : swapsWithSole [.Tuple ts j tp] v p.line env = swapsWith v (some (.Tuple ts j tp)) p.line env := by cases v <;> rfl
   rw [e]
   exact plain_swaps c1
  show wpAny _ _ (standAt p >>= fun J => swapsWithSole [.Tuple ts j tp] v p.line env >>= fun b => if b = true then (do
   evalThenUse v env fun v => assignAll v ((assignEach [.Tuple ts j tp] env).map (·.2))
   pure .next) else eval v env >>= fun u => swappedStores [.Tuple ts j tp] v env >>= fun nm => assignStores env u nm ((assignEach [.Tuple ts j tp] env).map (·.2))) _ _ s
  rw [sw]
  refine wpAny_bind (wpAny_standAt (wpAny_bind (wpAny_pure ?_)))
  rw [if_neg Bool.false_ne_true]
  refine wpAny_bind (IE sc v m env A stk K s _ E ar TS X ko (h1.stepV fun u d K₁ s₁ h₁ T₁ x₁ k₁ r₁ => ?_))
  have X₁ := X.ext x₁ k₁
  have go : ∀ {us : List Value} {ds : List D}, Reps S K₁ us ds → ((∃ a, u = .ref a ∧ s₁.heap.IsTuple a us.toArray) ∨ (∃ a, u = .ref a ∧ s₁.heap.IsList a us.toArray)) → RxS S stk env s₁ K₁ (setO (setAll ts ds m)) (FlG S stk env Q) E →
    wpAny (model prog w) A (swappedStores [.Tuple ts j tp] v env >>= fun nm => assignStores env u nm ((assignEach [.Tuple ts j tp] env).map (·.2))) Q E s₁ := by
   intro us ds rs hu h₂
   cases q : setAll ts ds m with
   | none => rw [q] at h₂; exact h₂.elim
   | some m' =>
    rw [q] at h₂
    have fin : ∀ s', St S stk K₁ s' → ExtP S stk (Own env) s₁.heap s'.heap → Lc S stk env m' K₁ s'.heap → Q .next s' := fun s' T' x' X' => h₂ K₁ s' T' x' (KExt.refl _ _) _ ⟨rfl, X'⟩
    rcases swapped_cases (env := env) (tk := j) (tp := tp) c2 c4 with e | ⟨e, hk⟩
    ·rw [e]
     exact wpAny_bind (wpAny_pure (tuple_assign H ko ar T₁ X₁ c2 c3 rs hu q (.inl rfl) fin))
    ·rw [e]
     exact wpAny_bind (wpAny_pure (tuple_assign H ko ar T₁ X₁ c2 c3 rs hu q (.inr ⟨rfl, hk⟩) fin))
  induction r₁ using Rg.Rep.casesOn with
  | list ha rs => exact go rs (.inr ⟨_, rfl, lst_is T₁ ha⟩) h₁
  | tup ha rs => exact go rs (.inl ⟨_, rfl, tup_is T₁ ha⟩) h₁
  | _ => exact h₁.elim
theorem used_stmt (H : StaOk S) (CO : ClsOk S) (IE : SoundE prog w S T k kk) (IT : SoundT prog w S T k kk) (ar : Ar A stk k) (ko : KindOk S T sc env) (TS : St S stk K s) (X : Lc S stk env m K s.heap) {x : Str} {p' : Pos} {elt : PySem.Expr} {gens : List Comprehension} {sc' : Scope} {p : Pos} (hx : env.kindOf x = some .local)
  (h : RxS S stk env s K ((ev T (kk + 1) sc (.ListComp elt gens sc' p) m).bind fun d => .ok (.next (m.set x d))) (FlG S stk env Q) E) :
  wpAny (model prog w) A (evalThenUse (.ListComp elt gens sc' p) env (assign (.Name x p') env) >>= fun J => pure Flow.next) Q E s := by
 induction gens using List.casesOn with
 | nil => exact h.elim
 | cons g gs =>
  obtain ⟨t, it, ifs, a⟩ := g
  induction gs using List.casesOn with
  | cons _ _ => exact h.elim
  | nil =>
   let full : Tr D := (evI (fun e => ev T kk sc e m) sc it).bind fun ds => (noExc (compL (fun e m' => ev T kk sc' e m') elt t ifs (freeOf sc' m) ds)).bind fun xs => when (decide (xs.length ≤ cap)) (.list xs)
   let tr : Tr D := match a == 0 && decide (sc'.kind = ScopeKind.function) && compOk sc sc' t it ifs with
    | true => full
    | false => .bad
   have h1 : RxS S stk env s K (tr.bind fun d => .ok (.next (m.set x d))) (FlG S stk env Q) E := h
   cases c : (a == 0 && decide (sc'.kind = ScopeKind.function) && compOk sc sc' t it ifs) with
   | false =>
    have e : tr = .bad := by show (match a == 0 && decide (sc'.kind = ScopeKind.function) && compOk sc sc' t it ifs with | true => full | false => .bad) = .bad; rw [c]
    rw [e] at h1
    exact h1.elim
   | true =>
    have e : tr = full := by show (match a == 0 && decide (sc'.kind = ScopeKind.function) && compOk sc sc' t it ifs with | true => full | false => .bad) = full; rw [c]
    rw [e] at h1
    simp only [Bool.and_eq_true, beq_iff_eq, decide_eq_true_eq] at c
    obtain ⟨⟨rfl, hk⟩, ok⟩ := c
    have h1 : RxS S stk env s K (((evI (fun e => ev T kk sc e m) sc it).bind fun ds => (noExc (compL (fun e m' => ev T kk sc' e m') elt t ifs (freeOf sc' m) ds)).bind fun xs => when (decide (xs.length ≤ cap)) (.list xs)).bind fun d => .ok (.next (m.set x d))) (FlG S stk env Q) E := h1
    rw [Tr.bind_bind] at h1
    have h2 : RxS S stk env s K ((evI (fun e => ev T kk sc e m) sc it).bind fun ds => (noExc (compL (fun e m' => ev T kk sc' e m') elt t ifs (freeOf sc' m) ds)).bind fun xs => (when (decide (xs.length ≤ cap)) (.list xs)).bind fun d => .ok (.next (m.set x d))) (FlG S stk env Q) E := by
     have e : ((fun ds => ((noExc (compL (fun e m' => ev T kk sc' e m') elt t ifs (freeOf sc' m) ds)).bind fun xs => when (decide (xs.length ≤ cap)) (.list xs)).bind fun d => Tr.ok (Fl.next (m.set x d))) : List D → Tr Fl) =
       fun ds => (noExc (compL (fun e m' => ev T kk sc' e m') elt t ifs (freeOf sc' m) ds)).bind fun xs => (when (decide (xs.length ≤ cap)) (.list xs)).bind fun d => .ok (.next (m.set x d)) := by
      funext ds
      rw [Tr.bind_bind]
     rw [← e]
     exact h1
    have h3 : RxG S stk s K ((evI (fun e => ev T kk sc e m) sc it).bind fun ds => (noExc (compL (fun e m' => ev T kk sc' e m') elt t ifs (freeOf sc' m) ds)).bind fun xs => (when (decide (xs.length ≤ cap)) (.list xs)).bind fun d => .ok (.next (m.set x d)))
      (fun fl J J => ∀ K' s', St S stk K' s' → ExtP S stk (Own env) s.heap s'.heap → KExt s.heap K K' → FlG S stk env Q fl K' s') E :=
     Tr.sat_mono (fun fl q K' s' J J J => q) (fun J J q e s' T x f => q e s' T (Ext.p x) f) _ h2
    show wpAny _ _ ((comprehension (.ListComp elt [⟨t, it, ifs, 0⟩] sc' p) sc' env (firstIterPos [⟨t, it, ifs, 0⟩] p) (newList []) false (firstIter [⟨t, it, ifs, 0⟩] env) (some (assign (.Name x p') env)) >>= fun J => pure ()) >>= fun J => pure Flow.next) Q E s
    refine wpAny_bind (wpAny_bind (wpAny_mono (comp_sound (Q := fun J s' => Q .next s') H CO IE IT ar ko TS X hk ok h3 fun C Da s' q hC => ?_) (fun J J q => wpAny_pure (wpAny_pure q)) fun J J q => q))
    obtain ⟨dn, pf, mv, hns, q⟩ := q.fin TS hC
    obtain ⟨K₂, T₂, x₂, k₂, r₂, kC⟩ := q s'.heap (Heap.SameBut.refl _ _)
    have hC' : s.heap.get? C = none := hC
    have X₂ := X.ext x₂ k₂
    have hCl : ∀ b, Own env b → b ≠ C := fun b ow z => by
     obtain ⟨o, e⟩ := own_live X ow
     rw [z, hC'] at e
     exact no_ns e
    refine wpAny_assign_Name (store_sound (s := s') T₂ X₂ r₂ (.inl hx) fun h₁ t₁ T₁ X₁ k₁ => ?_)
    have hns₁ : h₁.Ns C mv := by
     obtain ⟨o, es, ep, e, r⟩ := hns
     exact ⟨o, es, ep, (k₁ C fun z => hCl C z.own rfl).trans e, r⟩
    refine ⟨mv, hns₁, fun h' sb => ?_⟩
    have bC : S.B.get? C = none := by
     cases q : S.B.get? C with
     | none => rfl
     | some o => have := TS.stays C o q; rw [hC'] at this; cases this
    have T₃ : St S stk K₂ { s' with heap := h', toks := t₁ } := St.alter (s := { s' with heap := h₁, toks := t₁ }) T₁ (P := (· = C)) (fun a p => p ▸ ⟨bC, kC, (Fix.new TS hC').2, (fun o e q => by
      obtain ⟨_, vs, z⟩ := q
      obtain ⟨o₁, e₁, q₁⟩ := Ns.data hns₁
      rw [e₁] at e; obtain rfl := Option.some.inj e; exact q₁ vs z), fun q => absurd q (Fix.new TS hC').1⟩) (fun b o nb e => (sb.2 b nb).trans e) t₁
    have X₃ : Lc S stk env (m.set x (.list dn)) K₂ h' := X₁.keep (fun b o q e => (sb.2 b (hCl b q)).trans e) (KExt.refl _ _)
    have pf' : RxG S stk s K (Tr.br (decide (dn.length ≤ cap)) (Tr.ok (Fl.next (m.set x (D.list dn)))) Tr.bad) (fun fl J J => ∀ K' s', St S stk K' s' → ExtP S stk (Own env) s.heap s'.heap → KExt s.heap K K' → FlG S stk env Q fl K' s') E := pf
    rcases pf'.br with ⟨_, g⟩ | ⟨_, g⟩
    ·refine RxG.ok TS g K₂ _ T₃ (fun b o e => ?_) k₂ _ ⟨rfl, X₃⟩
     have nC : b ≠ C := fun z => by rw [z, hC'] at e; exact no_ns e
     obtain ⟨o', e', q⟩ := x₂ b o e
     by_cases ow : Own env b
     ·obtain ⟨o'', e''⟩ := own_live X₁ ow
      exact ⟨o'', (sb.2 b nC).trans e'', fun np => absurd ow np⟩
     ·exact ⟨o', (sb.2 b nC).trans ((k₁ b fun z => ow z.own).trans e'), fun J => q id⟩
    ·exact g.elim
theorem name_stmt (H : StaOk S) (CO : ClsOk S) (IE1 : SoundE prog w S T k (kk + 1)) (IE : SoundE prog w S T k kk) (IT : SoundT prog w S T k kk) (ar : Ar A stk k) (ko : KindOk S T sc env) (TS : St S stk K s) (X : Lc S stk env m K s.heap) {x : Str} {xp : Pos} {v : PySem.Expr} {p : Pos}
  (h : RxS S stk env s K (ex T (kk + 1) sc (n + 1) (.Assign [.Name x xp] v p) m) (FlG S stk env Q) E) : wpAny (model prog w) A (exec (.Assign [.Name x xp] v p) env) Q E s := by
 have h1 : RxS S stk env s K (match storable sc x with
    | true => (ev T (kk + 1) sc v m).bind fun d => .ok (.next (m.set x d))
    | false => .bad) (FlG S stk env Q) E := h
 cases c : storable sc x with
 | false => rw [c] at h1; exact h1.elim
 | true =>
  rw [c] at h1
  have h1 : RxS S stk env s K ((ev T (kk + 1) sc v m).bind fun d => .ok (.next (m.set x d))) (FlG S stk env Q) E := h1
  have hk := storable_kind ko c
  have plain : swapsWith v (some (.Name x xp)) p.line env = pure false → wpAny (model prog w) A (exec (.Assign [.Name x xp] v p) env) Q E s := fun hs => by
   refine wpAny_Assign_Name (IE1 sc v m env A stk K s _ E ar TS X ko (h1.stepV fun u d K₁ s₁ h₁ T₁ x₁ k₁ r₁ => ?_)) hs
   refine store_sound T₁ (X.ext x₁ k₁) r₁ hk fun h' tk T' X' k' => ?_
   exact h₁ K₁ _ T' (store_ext X' fun b q => k' b fun z => q z.own) (KExt.refl _ _) _ ⟨rfl, X'⟩
  cases v with
  | ListComp elt gens sc' q =>
   have e : swapsWith (.ListComp elt gens sc' q) (some (.Name x xp)) p.line env = pure (env.blockKind == .function && env.kindOf x == some .local && xp.line == q.line && !(sc'.names.any fun (n, k) => n == x && (k == .local || k == .cell))) := rfl
   cases cb : (env.blockKind == .function && env.kindOf x == some .local && xp.line == q.line && !(sc'.names.any fun (n, k) => n == x && (k == .local || k == .cell))) with
   | false => exact plain (by rw [e, cb])
   | true =>
    rw [exec_Assign_Name_used x xp _ p (by rw [e, cb])]
    simp only [Bool.and_eq_true, beq_iff_eq] at cb
    exact wpAny_bind (wpAny_standAt (used_stmt H CO IE IT ar ko TS X cb.1.1.2 h1))
  | SetComp => exact h1.elim
  | DictComp => exact h1.elim
  | _ => exact plain rfl
end
section
variable {prog : Program} {w : World} {S : Sta} {T : Tab} {k kk : Nat} {M : Model}
variable {A : Around} {stk outer : List Env} {K K' K₀ : Kn} {s s₀ : Shared} {env : Env} {E E' : Value → Shared → Prop} {h h' h₀ h₁ h₂ : Heap} {m m' : Loc} {sc : Scope} {n : Nat} {tup : Bool} {I : Addr} {wr : List Addr} {ds r rest : List D} {d : D}
variable {α β : Type} {Q : Flow → Shared → Prop}
noncomputable abbrev loopErr (prog : Program) (w : World) (A : Around) (env : Env) (E : Value → Shared → Prop) : Value → Shared → Prop := notedBy (model prog w) A env fun e s' => cameBackBy (model prog w) A env E e s'
theorem loop_err (H : StaOk S) (T₀ : St S stk K₀ s₀) (tp : Top1 stk env) (hfr : A.frames = some stk) {P₀ : Addr → Prop} {e : Addr} {wt : Str} {a : D} (TS : St S stk K₀ s) (x : ExtP S stk P₀ s₀.heap s.heap) (f : Fly S stk s₀.heap e wt a s.heap)
  (h : ∀ s', St S stk K₀ s' → ExtP S stk P₀ s₀.heap s'.heap → Fly S stk s₀.heap e wt a s'.heap → E (.ref e) s') : loopErr prog w A env E (.ref e) s := by
 obtain ⟨outer, hst⟩ := tp.head
 show wpAny _ _ (noteFrame (.ref e) env) _ _ s
 refine noteFrame_fly H T₀ TS x hfr hst tp.frame f fun h₁ T₁ x₁ f₁ => ?_
 obtain ⟨oe, vs, dx, head, fx, h1, tr⟩ := id f₁
 obtain ⟨Ta, oT, ts, rfl, _⟩ := id tr
 show wpAny _ _ (field (.ref e) 1 >>= fun v => if (v == Value.none) = true then unsupported "frame.own-activation:exception-without-traceback" else setFlight (.ref e) env.frame) _ _ _
 refine wpAny_bind (wpAny_field fx.ob fx.data h1 ?_)
 rw [if_neg (show ¬ ((Value.ref Ta == Value.none) = true) from Bool.false_ne_true)]
 refine setFlight_fly (s := { s with heap := h₁ }) H T₀ T₁ x₁ f₁ env.frame fun h₂ T₂ x₂ f₂ => ?_
 refine h _ T₂ x₂ (f₂.fly (.inr ⟨env, env.locals, by rw [hst]; rfl, tp.frame, ?_⟩))
 rw [tp.frame]
 rfl
structure ForInv (prog : Program) (w : World) (S : Sta) (stk : List Env) (env : Env) (s₀ : Shared) (K₀ : Kn) (tup : Bool) (I : Addr) (wr : List Addr) (rest : List D) (tree : Tr Fl) (Q : Flow → Shared → Prop) (E : Value → Shared → Prop) (s : Shared) (K : Kn) (m : Loc) : Prop where
 st : St S stk K s
 ext : ExtP S stk (Own env) s₀.heap s.heap
 kx : KExt s₀.heap K₀ K
 lc : Lc S stk env m K s.heap
 it : ItAt prog w S s₀.heap tup I wr rest K s.heap
 sin : Since S stk env wr
 tree : RxS S stk env s₀ K₀ tree (FlG S stk env Q) E
theorem RxS.split {t : Tr α} {f : α → Tr β} {G : β → Kn → Shared → Prop} (h : RxS S stk env s₀ K₀ (t.bind f) G E) (x : ExtP S stk (Own env) s₀.heap s.heap) (kx : KExt s₀.heap K₀ K) :
  RxS S stk env s K t (fun a K' s' => RxS S stk env s₀ K₀ (f a) G E ∧ St S stk K' s' ∧ ExtP S stk (Own env) s.heap s'.heap ∧ KExt s.heap K K') E := by
 unfold RxS at h
 rw [Tr.sat_bind] at h
 exact Tr.sat_mono (fun a ha K' s' T' x' k' => ⟨ha, T', x', k'⟩) (fun J J q e s' T' x' f => q e s' (T'.more fun a o q => .inl (kx.1 a o q)) (x.trans x') (f.after x)) _ h
inductive ForNext (prog : Program) (w : World) (S : Sta) (stk : List Env) (env : Env) (s₀ : Shared) (K₀ : Kn) (tup : Bool) (I : Addr) (wr : List Addr) (tr : List D → Loc → Tr Fl) (Q : Flow → Shared → Prop) (E : Value → Shared → Prop) (n : Nat) (s : Shared) : Prop
 | mk : ∀ rest K m, rest.length = n → ForInv prog w S stk env s₀ K₀ tup I wr rest (tr rest m) Q E s K m → ForNext prog w S stk env s₀ K₀ tup I wr tr Q E n s
theorem ForInv.move {tree tree' : Tr Fl} {m₂ : Loc} {s' : Shared} (x : ForInv prog w S stk env s₀ K₀ tup I wr rest tree Q E s K m) (T' : St S stk K' s') (x' : ExtP S stk (Own env) s.heap s'.heap) (k' : KExt s.heap K K') (X' : Lc S stk env m₂ K' s'.heap)
  (ht : RxS S stk env s₀ K₀ tree' (FlG S stk env Q) E) : ForInv prog w S stk env s₀ K₀ tup I wr rest tree' Q E s' K' m₂ where
 st := T'
 ext := x.ext.trans x'
 kx := x.kx.trans x.ext k'
 lc := X'
 it := x.it.after (P := Own env) x.sin (fun b o e => ⟨(x.st.kin b o e).2, own_known x.lc e⟩) (fun J q => q) x' k'
 sin := x.sin
 tree := ht
theorem ForInv.body {fu nn : Nat} {t : PySem.Expr} (SX : SoundX prog w S T k kk fu) (ar : Ar A stk k) (ko : KindOk S T sc env) (tp : Top1 stk env) {body : List Stmt} (hn : r.length < nn) {tree : Tr Fl} {m₁ : Loc}
  (x : ForInv prog w S stk env s₀ K₀ tup I wr r tree Q E s K m₁)
  (ht : RxS S stk env s₀ K₀ ((exsL (ex T kk sc fu) body m₁).bind fun fl => match fl with | .next m₂ => forL (exsL (ex T kk sc fu) body) t r m₂ | .cont m₂ => forL (exsL (ex T kk sc fu) body) t r m₂ | .ret d => .ok (.ret d)) (FlG S stk env Q) E) :
  wpAny (model prog w) A (execs body env) (fun f s₃ => match f with
   | .next => ∃ m, m < nn ∧ ForNext prog w S stk env s₀ K₀ tup I wr (fun rest m' => forL (exsL (ex T kk sc fu) body) t rest m') Q E m s₃
   | .cont => ∃ m, m < nn ∧ ForNext prog w S stk env s₀ K₀ tup I wr (fun rest m' => forL (exsL (ex T kk sc fu) body) t rest m') Q E m s₃
   | .brk => Q .next s₃
   | .ret v => Q (.ret v) s₃) E s := by
 refine execs_sound SX ar ko tp x.st x.lc ((RxS.split ht x.ext x.kx).mono fun fl K' s' ⟨hf, T', x', k'⟩ f hfl => ?_)
 induction fl using Fl.casesOn with
 | next m₂ =>
  obtain ⟨rfl, X'⟩ := hfl
  exact ⟨r.length, hn, r, K', m₂, rfl, x.move T' x' k' X' hf⟩
 | cont m₂ =>
  obtain ⟨rfl, X'⟩ := hfl
  exact ⟨r.length, hn, r, K', m₂, rfl, x.move T' x' k' X' hf⟩
 | ret d =>
  obtain ⟨v, rfl, rv⟩ := hfl
  exact hf K' s' T' (x.ext.trans x') (x.kx.trans x.ext k') _ ⟨v, rfl, rv⟩
theorem ForInv.turned {tree tree' : Tr Fl} {m₁ : Loc} {tk : Tok} (x : ForInv prog w S stk env s₀ K₀ tup I wr (d :: r) tree Q E s K m) (T₁ : St S stk K { s with heap := h', toks := tk }) (X₁ : Lc S stk env m₁ K h') (it₁ : ItAt prog w S s₀.heap tup I wr r K h')
  (k₁ : ∀ b o, b ∉ wr → ¬ Own env b → s.heap.get? b = some o → h'.get? b = some o) (ht : RxS S stk env s₀ K₀ tree' (FlG S stk env Q) E) : ForInv prog w S stk env s₀ K₀ tup I wr r tree' Q E { s with heap := h', toks := tk } K m₁ := by
 refine ⟨T₁, fun b o e => ?_, x.kx, X₁, it₁, x.sin, ht⟩
 obtain ⟨o', e', q⟩ := x.ext b o e
 by_cases ow : Own env b
 ·obtain ⟨o'', e''⟩ := own_live X₁ ow
  exact ⟨o'', e'', fun np => absurd ow np⟩
 ·exact ⟨o', k₁ b o' (fun z => by rw [(x.it.new' b z).1] at e; exact no_ns e) ow e', q⟩
theorem ForInv.over {tree : Tr Fl} (x : ForInv prog w S stk env s₀ K₀ tup I wr [] (.ok (.next m)) Q E s K m) (k : ∀ b o, b ∉ wr → s.heap.get? b = some o → h'.get? b = some o) (tk : Tok) : Q .next { s with heap := h', toks := tk } := by
 refine x.tree K _ (x.st.alter (P := (· ∈ wr)) (fun a ha => x.it.loose x.sin ha) k tk) (fun b o e => ?_) x.kx _ ⟨rfl, x.lc.keep (fun b o q e => k b o (own_wr x.it x.sin q) e) (KExt.refl _ _)⟩
 obtain ⟨o', e', q⟩ := x.ext b o e
 exact ⟨o', k b o' (fun z => by rw [(x.it.new' b z).1] at e; exact no_ns e) e', q⟩
theorem for_loop {fu : Nat} {it t : PySem.Expr} (SX : SoundX prog w S T k kk fu) (ar : Ar A stk k) (ko : KindOk S T sc env) (tp : Top1 stk env) {body : List Stmt} (ok : tgtOk sc it t = true) (hE : ∀ v s', E v s' → loopErr prog w A env E' v s')
  {nn : Nat} (h : ForNext prog w S stk env s₀ K₀ (pairsI it) I wr (fun rest m' => forL (exsL (ex T kk sc fu) body) t rest m') Q E nn s) :
  codeAny (model prog w) A (.forLoop t (.ref I) body [] env) (fun r s' => match r with | .ok f => Q f s' | .error e => cameBackBy (model prog w) A env E' e s') s := by
 refine codeAny_forLoop_any (fun n' s => ForNext prog w S stk env s₀ K₀ (pairsI it) I wr (fun rest m' => forL (exsL (ex T kk sc fu) body) t rest m') Q E n' s) (fun n' s hI => ?_) nn h
 refine abs1 fun G0 hG0 => ?_
 obtain ⟨rest, K, m, rfl, x⟩ := hI
 refine hG0 ?_
 clear hG0 G0
 refine wpAny_mono (E := E) (Q := fun r s₁ => match r with
  | none => Q .next s₁
  | some v => wpAny (model prog w) A (letOwnedTupleGo t (.ref I) v) (fun J s₁' => wpAny (model prog w) A (assign t env v) (fun J s₂ => wpAny (model prog w) A (execs body env) (fun f s₃ => match f with
   | .next => ∃ m, m < rest.length ∧ ForNext prog w S stk env s₀ K₀ (pairsI it) I wr (fun rest m' => forL (exsL (ex T kk sc fu) body) t rest m') Q E m s₃
   | .cont => ∃ m, m < rest.length ∧ ForNext prog w S stk env s₀ K₀ (pairsI it) I wr (fun rest m' => forL (exsL (ex T kk sc fu) body) t rest m') Q E m s₃
   | .brk => Q .next s₃
   | .ret v => Q (.ret v) s₃) E s₂) E s₁') E s₁) ?_ (fun r s₁ q => ?_) hE
 ·induction rest using List.casesOn with
  | nil => exact x.it.done ar.hand fun h' tk k => x.over (tree := .bad) k tk
  | cons d r =>
   rcases tgt_cases ok with ⟨hb, y, py, rfl, oky⟩ | ⟨hb, y, py, z, pz, x1, tp', rfl, oky, okz⟩
   ·generalize pairsI it = b at x hb ⊢
    subst hb
    refine wpAny_mono (turnN (R := fun s₁ => Q .next s₁) (C := fun s₂ => wpAny (model prog w) A (execs body env) (fun f s₃ => match f with
      | .next => ∃ m', m' < (d :: r).length ∧ ForNext prog w S stk env s₀ K₀ false I wr (fun rest m' => forL (exsL (ex T kk sc fu) body) (.Name y py) rest m') Q E m' s₃
      | .cont => ∃ m', m' < (d :: r).length ∧ ForNext prog w S stk env s₀ K₀ false I wr (fun rest m' => forL (exsL (ex T kk sc fu) body) (.Name y py) rest m') Q E m' s₃
      | .brk => Q .next s₃
      | .ret v => Q (.ret v) s₃) E s₂) (p := py) (E := E) ar.hand x.it x.st x.lc x.sin (storable_kind ko oky) fun h₁ tk T₁ X₁ it₁ k₁ => ?_) (fun r s₁ q => ?_) fun J J q => q
    rotate_left
    ·induction r using Option.casesOn with
     | none => exact q
     | some v => exact wpAny_pure q
    ·have ht : RxS S stk env s₀ K₀ ((exsL (ex T kk sc fu) body (m.set y d)).bind fun fl => match fl with | .next m₂ => forL (exsL (ex T kk sc fu) body) (.Name y py) r m₂ | .cont m₂ => forL (exsL (ex T kk sc fu) body) (.Name y py) r m₂ | .ret d => .ok (.ret d)) (FlG S stk env Q) E := x.tree
     exact (x.turned T₁ X₁ it₁ (fun b o q q' e => k₁ b o q (fun z => q' z.own) e) ht).body SX ar ko tp (Nat.lt_succ_self _) ht
   ·generalize pairsI it = b at x hb ⊢
    subst hb
    refine turnT (R := fun s₁ => Q .next s₁) ar.hand x.it x.st x.lc x.sin (storable_kind ko oky) (storable_kind ko okz) fun d₁ d₂ h₁ tk ed T₁ X₁ it₁ k₁ => ?_
    subst ed
    have ht : RxS S stk env s₀ K₀ ((exsL (ex T kk sc fu) body ((m.set y d₁).set z d₂)).bind fun fl => match fl with | .next m₂ => forL (exsL (ex T kk sc fu) body) (.Tuple [.Name y py, .Name z pz] x1 tp') r m₂ | .cont m₂ => forL (exsL (ex T kk sc fu) body) (.Tuple [.Name y py, .Name z pz] x1 tp') r m₂ | .ret d => .ok (.ret d)) (FlG S stk env Q) E := x.tree
    exact (x.turned T₁ X₁ it₁ (fun b o q q' e => k₁ b o q (fun z => q' z.own) (fun z => q' z.own) e) ht).body SX ar ko tp (Nat.lt_succ_self _) ht
 ·induction r using Option.casesOn with
  | none => exact wpAny_execs_nil q
  | some v =>
   refine wpAny_mono q (fun J s₂ q => wpAny_mono q (fun J s₃ q => wpAny_mono q (fun f s₄ q => ?_) hE) hE) hE
   cases f <;> exact q
end
noncomputable def RaiseS (prog : Program) (w : World) (S : Sta) (T : Tab) (k kk : Nat) : Prop :=
 ∀ (sc : Scope) (x : Str) (xp cp p : Pos) (as : List PySem.Expr) (m : Loc) (env : Env) (A : Around) (stk : List Env) (K : Kn) (s : Shared) (Q : Flow → Shared → Prop) (E : Value → Shared → Prop),
  Ar A stk k → St S stk K s → Lc S stk env m K s.heap → KindOk S T sc env → Top1 stk env → x = "CodeError" → sc.names.lookup x = some .globalImplicit →
  RxS S stk env s K ((evLs (fun e => ev T kk sc e m) as).bind fun ds => match ds with | [.str w] => (Tr.exc w .none : Tr Fl) | [.str w, .int i] => .exc w (.int i) | _ => .bad) (FlG S stk env Q) E →
  wpAny (model prog w) A (exec (.Raise (some (.Call (.Name x xp) as [] cp)) none p) env) Q E s
section
variable {prog : Program} {w : World} {S : Sta} {T : Tab} {k kk : Nat} {M : Model}
variable {A : Around} {stk outer : List Env} {K K' K₀ : Kn} {s s₀ : Shared} {env : Env} {E E' : Value → Shared → Prop} {h h' h₀ h₁ h₂ : Heap} {m m' : Loc} {sc : Scope} {n : Nat} {tup : Bool} {I : Addr} {wr : List Addr} {ds r rest : List D} {d : D}
variable {α β : Type} {Q : Flow → Shared → Prop}
theorem for_stmt (H : StaOk S) (CO : ClsOk S) (IE : SoundE prog w S T k kk) (SX : SoundX prog w S T k kk n) (ar : Ar A stk k) (ko : KindOk S T sc env) (tp : Top1 stk env) (TS : St S stk K s) (X : Lc S stk env m K s.heap) {t it : PySem.Expr} {body orelse : List Stmt} {p : Pos}
  (h : RxS S stk env s K (ex T kk sc (n + 1) (.For t it body orelse p) m) (FlG S stk env Q) E) : wpAny (model prog w) A (exec (.For t it body orelse p) env) Q E s := by
 induction orelse using List.casesOn with
 | cons _ _ => exact h.elim
 | nil =>
  have h1 : RxS S stk env s K (match tgtOk sc it t with
    | true => (evI (fun e => ev T kk sc e m) sc it).bind fun ds => forL (exsL (ex T kk sc n) body) t ds m
    | false => .bad) (FlG S stk env Q) E := h
  cases ok : tgtOk sc it t with
  | false => rw [ok] at h1; exact h1.elim
  | true =>
   rw [ok] at h1
   dsimp only at h1
   have ns : ∀ a b c, it ≠ .Set a b c := fun a b c e => by rw [e] at h1; exact h1.elim
   refine wpAny_For (evI_sound (Q := fun v s₂ => codeAny (model prog w) A (.forLoop t v body [] env) (fun r s' => match r with | .ok f => Q f s' | .error e => cameBackBy (model prog w) A env E e s') s₂) H CO IE ar ko TS X ?_) (folded_pure ns)
   unfold RxS at h1
   rw [Tr.sat_bind] at h1
   refine Tr.sat_mono (fun ds hd => ?_) (fun J J q e s' T x f => q e s' T (Ext.p x) f) _ h1
   intro K₁ s₁ T₁ x₁ k₁ I wr itx
   have hd' : RxS S stk env s K (forL (exsL (ex T kk sc n) body) t ds m) (FlG S stk env Q) (loopErr prog w A env E) :=
    Tr.sat_mono (fun J q => q) (fun wt a q e s' T' x' f => loop_err H TS tp ar.frames T' x' f fun s'' T'' x'' f'' => q e s'' T'' x'' f'') _ hd
   exact for_loop (E := loopErr prog w A env E) (E' := E) (s₀ := s) (K₀ := K) SX ar ko tp ok (fun J J q => q) ⟨ds, K₁, m, rfl, ⟨T₁, Ext.p x₁, k₁, X.ext x₁ k₁, itx, Since.of TS X fun b hb => (itx.new' b hb).1, hd'⟩⟩
theorem soundX_step (H : StaOk S) (CO : ClsOk S) (RS : RaiseS prog w S T k (kk + 1)) (IE1 : SoundE prog w S T k (kk + 1)) (IT1 : SoundT prog w S T k (kk + 1)) (IE : SoundE prog w S T k kk) (IT : SoundT prog w S T k kk) (SX : SoundX prog w S T k (kk + 1) n) :
  SoundX prog w S T k (kk + 1) (n + 1) := by
 intro sc st m env A stk K s Q E ar TS X ko tp h
 induction st using PySem.Stmt.casesOn with
 | Expr e p => exact expr_stmt IE1 ar ko TS X h
 | Assign ts v p =>
  induction ts using List.casesOn with
  | nil => exact h.elim
  | cons t ts =>
   induction ts using List.casesOn with
   | cons _ _ => cases t <;> exact h.elim
   | nil =>
    induction t using PySem.Expr.casesOn with
    | Name x xp => exact name_stmt H CO IE1 IE IT ar ko TS X h
    | Tuple es j tp' => exact tuple_stmt H IE1 ar ko TS X h
    | _ => exact h.elim
 | If t b o p => exact if_stmt IT1 SX ar ko tp TS X h
 | For t it body orelse p => exact for_stmt H CO IE1 SX ar ko tp TS X h
 | Return v p => exact return_stmt IE1 ar ko TS X h
 | Continue p => exact wpAny_Continue (RxS.ok TS h _ ⟨rfl, X⟩)
 | Raise e c p =>
  induction e using Option.casesOn with
  | none => exact h.elim
  | some e =>
   induction e using PySem.Expr.casesOn with
   | Call f as ks cp =>
    induction f using PySem.Expr.casesOn with
    | Name x xp =>
     induction ks using List.casesOn with
     | cons _ _ => exact h.elim
     | nil =>
      induction c using Option.casesOn with
      | some _ => exact h.elim
      | none =>
       have h1 : RxS S stk env s K (match x == "CodeError", sc.names.lookup x == some .globalImplicit with
        | true, true => (evLs (fun e => ev T (kk + 1) sc e m) as).bind fun ds => match ds with
         | [.str w] => (Tr.exc w .none : Tr Fl)
         | [.str w, .int i] => .exc w (.int i)
         | _ => .bad
        | _, _ => .bad) (FlG S stk env Q) E := h
       cases c1 : (x == ("CodeError" : Str)) with
       | false => rw [c1] at h1; exact h1.elim
       | true =>
        cases c2 : (sc.names.lookup x == some NameKind.globalImplicit) with
        | false => rw [c1, c2] at h1; exact h1.elim
        | true =>
         rw [c1, c2] at h1
         exact RS sc x xp cp p as m env A stk K s Q E ar TS X ko tp (beq_iff_eq.mp c1) (beq_iff_eq.mp c2) h1
    | _ => cases ks <;> exact h.elim
   | _ => exact h.elim
 | _ => exact h.elim
end
theorem sound_all {prog : Program} {w : World} {S : Sta} {T : Tab} {k : Nat} (H : StaOk S) (CO : ClsOk S) (TO : TabOk prog w S T k) (EO : EqOrd prog w S) (HS : ∀ n, SoundE prog w S T k n → HeardOk prog w S T k n) : ∀ n, SoundE prog w S T k n ∧ SoundT prog w S T k n
 | 0 => ⟨fun sc e m env A stk K s Q E ar TS X ko h => h.elim, fun sc e m env A stk K s Q E ar TS X ko h => h.elim⟩
 | n + 1 => by
  obtain ⟨a, b⟩ := sound_all H CO TO EO HS n
  have c := soundE_step H CO TO EO (HS n a) a b
  exact ⟨c, soundT_step EO c a b⟩
theorem soundX_all {prog : Program} {w : World} {S : Sta} {T : Tab} {k kk : Nat} (H : StaOk S) (CO : ClsOk S) (RS : RaiseS prog w S T k (kk + 1)) (IA : ∀ n, SoundE prog w S T k n ∧ SoundT prog w S T k n) : ∀ n, SoundX prog w S T k (kk + 1) n
 | 0 => fun sc st m env A stk K s Q E ar TS X ko tp h => h.elim
 | n + 1 => soundX_step H CO RS (IA _).1 (IA _).2 (IA _).1 (IA _).2 (soundX_all H CO RS IA n)
inductive BindR (S : Sta) (K : Kn) : List (Str × Value) → Loc → Prop
 | nil : BindR S K [] []
 | cons {x : Str} {v : Value} {d : D} {bs : List (Str × Value)} {m : Loc} : Rep S K v d → BindR S K bs m → BindR S K ((x, v) :: bs) ((x, d) :: m)
noncomputable def BindOk (S : Sta) (fd : FuncData) (ps : List Arg) (df : List D) : Prop :=
 ∀ (K : Kn) (s : Shared) (vs : List Value) (ds : List D) (m : Loc), S.B.StaysIn s.heap → Reps S K vs ds → bindD ps ds df = some m → ∃ binds, BindsTo s fd ⟨vs, []⟩ binds ∧ BindR S K binds m ∧ binds.map (·.1) = ps.map (·.arg)
structure DefAt (S : Sta) (T : Tab) (f : Addr) (fd : FuncData) (ps : List Arg) (df : List D) (sc : Scope) (body : List Stmt) : Prop where
 obj : ∃ o, S.B.get? f = some o ∧ o.data = .func fd
 body : fd.body = .stmts body
 scope : fd.scope = sc
 glob : fd.globals = mainGlobals
 blt : fd.builtins = builtinsNs
 clo : fd.closure = []
 co : sc.isCoroutine = false
 gen : sc.isGenerator = false
 kind : sc.kind = .function
 code : S.B.CodeRec fd.code fd.qualname
 bind : BindOk S fd ps df
 par : ∀ x ∈ ps.map (·.arg), storable sc x = true
 once : (ps.map (·.arg)).Nodup
 names : (sc.names.map (·.1)).Nodup
 lam : T.heard = true → ∃ c P, fd.code = .ref c ∧ (c, P, fd.qualname ++ ".<locals>." ++ "<lambda>") ∈ S.tabs ∧ CodeHd S.B c P
theorem lookup_of_mem {α : Type} : ∀ {l : List (Str × α)} {x : Str} {c : α}, (l.map (·.1)).Nodup → (x, c) ∈ l → l.lookup x = some c
 | (y, d) :: r, x, c, nd, h => by
  rw [List.map_cons, List.nodup_cons] at nd
  rw [List.lookup_cons]
  rcases List.mem_cons.mp h with h | h
  ·cases h; simp
  ·have : x ≠ y := fun q => nd.1 (q ▸ List.mem_map.mpr ⟨(x, c), h, rfl⟩)
   rw [show (x == y) = false by simpa using this]
   exact lookup_of_mem nd.2 h
theorem cellsFrom_mem : ∀ (names : List (Str × NameKind)) (n : Nat) (acc : List (Str × Addr)) (p : Str × Addr), p ∈ cellsFrom n names acc → p ∈ acc ∨ p.1 ∈ names.map (·.1)
 | [], n, acc, p, h => .inl h
 | (x, k) :: r, n, acc, p, h => by
  unfold cellsFrom at h
  split at h
  ·rcases cellsFrom_mem r _ _ p h with h | h
   ·rcases List.mem_cons.mp h with rfl | h
    ·exact .inr (.head _)
    ·exact .inl h
   ·exact .inr (.tail _ h)
  ·rcases cellsFrom_mem r _ _ p h with h | h
   ·exact .inl h
   ·exact .inr (.tail _ h)
theorem cellsFrom_nodup : ∀ (names : List (Str × NameKind)) (n : Nat) (acc : List (Str × Addr)), (names.map (·.1)).Nodup → (acc.map (·.1)).Nodup → (∀ p ∈ acc, p.1 ∉ names.map (·.1)) → ((cellsFrom n names acc).map (·.1)).Nodup
 | [], n, acc, _, h, _ => h
 | (x, k) :: r, n, acc, hn, ha, hd => by
  rw [List.map_cons, List.nodup_cons] at hn
  unfold cellsFrom
  split
  ·refine cellsFrom_nodup r _ _ hn.2 ?_ fun p hp => ?_
   ·rw [List.map_cons, List.nodup_cons]
    refine ⟨fun q => ?_, ha⟩
    obtain ⟨p, hp, e⟩ := List.mem_map.mp q
    exact hd p hp (by rw [List.map_cons]; exact e ▸ .head _)
   ·rcases List.mem_cons.mp hp with rfl | hp
    ·exact hn.1
    ·exact fun q => hd p hp (.tail _ q)
  ·exact cellsFrom_nodup r _ _ hn.2 ha fun p hp q => hd p hp (.tail _ q)
theorem cellsFrom_acc {x : Str} : ∀ (names : List (Str × NameKind)) (n : Nat) (acc : List (Str × Addr)), (acc.lookup x).isSome = true → ((cellsFrom n names acc).lookup x).isSome = true
 | [], n, acc, h => h
 | (y, k) :: r, n, acc, h => by
  unfold cellsFrom
  split
  ·refine cellsFrom_acc r _ _ ?_
   rw [List.lookup_cons]
   split
   ·rfl
   ·exact h
  ·exact cellsFrom_acc r _ _ h
theorem cellsFrom_some {x : Str} : ∀ (names : List (Str × NameKind)) (n : Nat) (acc : List (Str × Addr)), (x, NameKind.cell) ∈ names → ((cellsFrom n names acc).lookup x).isSome = true
 | (y, k) :: r, n, acc, h => by
  unfold cellsFrom
  rcases List.mem_cons.mp h with h | h
  ·cases h
   rw [if_pos (show (NameKind.cell == NameKind.cell) = true from rfl)]
   exact cellsFrom_acc r _ _ (by rw [List.lookup_cons]; simp)
  ·split
   ·exact cellsFrom_some r _ _ h
   ·exact cellsFrom_some r _ _ h
theorem bindL_out {kf : Str → Option NameKind} {x : Str} : ∀ {bs : List (Str × Value)} {m : Str → Option Value}, x ∉ bs.map (·.1) → bindL kf bs m x = m x
 | [], m, _ => rfl
 | (y, v) :: r, m, h => by
  rw [List.map_cons] at h
  unfold bindL
  rw [bindL_out fun q => h (.tail _ q)]
  split
  ·exact if_neg fun (q : x = y) => h (q ▸ .head _)
  ·rfl
theorem bindL_in {kf : Str → Option NameKind} {x : Str} {v : Value} (hk : kf x = some .local) : ∀ {bs : List (Str × Value)} {m : Str → Option Value}, (bs.map (·.1)).Nodup → (x, v) ∈ bs → bindL kf bs m x = some v
 | (y, u) :: r, m, nd, h => by
  rw [List.map_cons, List.nodup_cons] at nd
  unfold bindL
  rcases List.mem_cons.mp h with h | h
  ·cases h
   rw [bindL_out nd.1, if_pos hk]
   exact if_pos rfl
  ·exact bindL_in hk nd.2 h
theorem bindC_out {kf : Str → Option NameKind} {x : Str} : ∀ {bs : List (Str × Value)} {m : Str → Option Value}, x ∉ bs.map (·.1) → bindC kf bs m x = m x
 | [], m, _ => rfl
 | (y, v) :: r, m, h => by
  rw [List.map_cons] at h
  unfold bindC
  rw [bindC_out fun q => h (.tail _ q)]
  split
  ·rfl
  ·exact if_neg fun (q : x = y) => h (q ▸ .head _)
theorem bindC_in {kf : Str → Option NameKind} {x : Str} {v : Value} (hk : kf x ≠ some .local) : ∀ {bs : List (Str × Value)} {m : Str → Option Value}, (bs.map (·.1)).Nodup → (x, v) ∈ bs → bindC kf bs m x = some v
 | (y, u) :: r, m, nd, h => by
  rw [List.map_cons, List.nodup_cons] at nd
  unfold bindC
  rcases List.mem_cons.mp h with h | h
  ·cases h
   rw [bindC_out nd.1, if_neg hk]
   exact if_pos rfl
  ·exact bindC_in hk nd.2 h
theorem BindR.get {S : Sta} {K : Kn} {bs : List (Str × Value)} {m : Loc} (q : BindR S K bs m) {x : Str} {d : D} (h : m.lookup x = some d) : ∃ v, (x, v) ∈ bs ∧ Rep S K v d := by
 induction q with
 | nil => exact absurd h.symm (Option.some_ne_none _)
 | cons r rs ih =>
  rw [List.lookup_cons] at h
  split at h
  ·rename_i q
   obtain rfl := Option.some.inj h
   exact ⟨_, beq_iff_eq.mp q ▸ .head _, r⟩
  ·obtain ⟨v, a, b⟩ := ih h
   exact ⟨v, .tail _ a, b⟩
section
variable {prog : Program} {w : World} {S : Sta} {T : Tab} {k kk : Nat} {M : Model}
variable {A : Around} {stk outer : List Env} {K K' K₀ : Kn} {s s₀ s₂ : Shared} {env : Env} {E E' : Value → Shared → Prop} {h h' h₀ h₁ h₂ : Heap} {m m' : Loc} {sc : Scope} {n : Nat}
variable {fd : FuncData} {ps : List Arg} {df : List D} {body : List Stmt} {f : Addr}
theorem Ar.deeper {A : Around} (ar : Ar A stk (k + 1)) (env : Env) : Ar (A.deeper env) (env :: stk) k := by
 refine ⟨by show A.frames.map _ = _; rw [ar.frames]; rfl, ar.hand, ?_, ?_⟩
 ·have := ar.depth; show A.depth + 1 + 2 * k < 1000; lia
 ·have := ar.units; show A.units + 3 + 8 * k + 100 < 9900; lia
theorem frs_cons (hf : env.frame = some L) : frs (env :: stk) = L :: frs stk := by
 unfold frs
 rw [List.filterMap_cons, hf]
theorem Fix.up {L b : Addr} (hf : env.frame = some L) (h : Fix S stk b) (n : b ≠ L) : Fix S (env :: stk) b := ⟨fun q => by
 rw [frs_cons hf] at q
 rcases List.mem_cons.mp q with q | q
 ·exact n q
 ·exact h.1 q, h.2⟩
theorem Fix.down {L b : Addr} (hf : env.frame = some L) (h : Fix S (env :: stk) b) : Fix S stk b := ⟨fun q => h.1 (by rw [frs_cons hf]; exact .tail _ q), h.2⟩
theorem St.pop (hf : env.frame = some L) (T : St S (env :: stk) K s) : St S stk K s := ⟨fun e he => T.ff e (.tail _ he), T.stays, fun a o e => ⟨(T.kin a o e).1, (T.kin a o e).2.down hf⟩, T.tab, T.gens, T.os⟩
theorem enter (H : StaOk S) (TS : St S stk K s) (D : DefAt S T f fd ps df sc body) {binds : List (Str × Value)} (hb : BindR S K binds m) (hn : binds.map (·.1) = ps.map (·.arg))
  (he : env = newEnv sc s.heap.objs.size mainGlobals (cellsFrom (s.heap.objs.size + 1) sc.names []) (fd.qualname ++ ".<locals>.") (some f) fd.code none builtinsNs)
  (x : InCallC s env.locals (bindL env.kindOf binds fun J => none) env.cells (bindC env.kindOf binds fun J => none) s₂) :
  St S (env :: stk) K s₂ ∧ Lc S (env :: stk) env m K s₂.heap ∧ KindOk S T sc env ∧ Top1 (env :: stk) env ∧ (∀ b o, s.heap.get? b = some o → ¬ Own env b) ∧ env.frame = some s.heap.objs.size := by
 have hL : env.locals = s.heap.objs.size := by rw [he]; rfl
 have hF : env.frame = some s.heap.objs.size := by rw [he]; rfl
 have hC : env.cells = cellsFrom (s.heap.objs.size + 1) sc.names [] := by rw [he]; rfl
 have hS : env.scope = sc := by rw [he]; rfl
 have hKf : ∀ y, env.kindOf y = sc.names.lookup y := fun y => by unfold Env.kindOf; rw [hS]
 have newL : s.heap.get? s.heap.objs.size = none := new_none _
 have above : ∀ p ∈ env.cells, s.heap.objs.size < p.2 := fun p hp => hL ▸ x.above p.1 p.2 hp
 have newc : ∀ p ∈ env.cells, s.heap.get? p.2 = none := fun p hp => Heap.get?_none_of_le (Nat.le_of_lt (above p hp))
 have noB : ∀ {b : Addr}, s.heap.get? b = none → S.B.get? b = none := fun {b} e => by
  cases q : S.B.get? b with
  | none => rfl
  | some o => rw [TS.stays b o q] at e; exact no_sn e
 obtain ⟨h₂, tk, rfl⟩ := x.toInCall.same
 have keep := x.toInCall.keep
 have T₁ := TS.grow H keep tk
 have nsL := x.toInCall.ns
 have T₂ : St S (env :: stk) K { s with heap := h₂, toks := tk } := by
  refine ⟨fun e he' => ?_, T₁.stays, fun a o e => ⟨(T₁.kin a o e).1, (T₁.kin a o e).2.up hF fun q => ?_⟩, T₁.tab, T₁.gens, T₁.os⟩
  ·rcases List.mem_cons.mp he' with rfl | he'
   ·obtain ⟨o, e1, e2⟩ := Ns.data nsL
    rw [hL] at e1
    exact ⟨by rw [hS]; exact D.kind, _, o, hF, noB newL, (Fix.new TS newL).2, e1, e2⟩
   ·exact T₁.ff e he'
  ·have := (TS.kin a o e).1
   rw [q, newL] at this
   exact no_ns this
 have ownNew : ∀ b, Own env b → s.heap.get? b = none := fun b q => by
  rcases q with rfl | ⟨p, hp, rfl⟩
  ·rw [hL]; exact newL
  ·exact newc p hp
 have ndB : (binds.map (·.1)).Nodup := hn ▸ D.once
 have nd : (env.cells.map (·.1)).Nodup := by rw [hC]; exact cellsFrom_nodup _ _ _ D.names List.nodup_nil fun p hp => nomatch hp
 have cellAt : ∀ y, env.kindOf y = some .cell → ∃ c, env.cells.lookup y = some c := fun y hy => by
  rw [hKf] at hy
  rw [hC]
  exact Option.isSome_iff_exists.mp (cellsFrom_some _ _ _ (lookup_mem hy))
 refine ⟨T₂, ⟨by rw [hS]; exact D.kind, by rw [he]; rfl, by rw [he]; rfl, ⟨_, nsL, fun y d e q => ?_⟩, fun y d e q => ?_, fun y q => ?_, ?_, ?_, ?_, fun p hp => ?_, fun p hp q hq e => ?_⟩, ?_, ⟨⟨stk, rfl⟩, by rw [hF, hL]⟩, fun b o e q => ?_, hF⟩
 ·obtain ⟨v, hv, rv⟩ := hb.get e
  exact ⟨v, bindL_in q ndB hv, rv⟩
 ·have hk : env.kindOf y = some .cell := by
   rcases q with q | q
   ·exact q
   ·obtain ⟨v, hv, _⟩ := hb.get e
    have hp := D.par y (by rw [← hn]; exact List.mem_map.mpr ⟨(y, v), hv, rfl⟩)
    unfold storable at hp
    rw [hKf] at q
    rw [q] at hp
    exact no_ft hp
  obtain ⟨v, hv, rv⟩ := hb.get e
  obtain ⟨c, hc⟩ := cellAt y hk
  have := x.cell y c hc
  rw [bindC_in (by rw [hk]; intro z; cases z) ndB hv] at this
  exact ⟨c, v, hc, this, rv⟩
 ·obtain ⟨c, hc⟩ := cellAt y q
  exact ⟨c, _, hc, x.cell y c hc⟩
 ·rw [hL]; exact TS.kNone newL
 ·rw [hL]; exact noB newL
 ·rw [hL]; exact (Fix.new TS newL).2
 ·have hl : env.cells.lookup p.1 = some p.2 := lookup_of_mem nd hp
  obtain ⟨o, ho, _⟩ := x.cell p.1 p.2 hl
  have gt := above p hp
  refine ⟨TS.kNone (newc p hp), noB (newc p hp), (Fix.new TS (newc p hp)).up hF fun q => ?_, fun q => ?_, o, ho⟩
  ·rw [q] at gt; exact Nat.lt_irrefl _ gt
  ·rw [q, hL] at gt; exact Nat.lt_irrefl _ gt
 ·exact name_of_addr x.apart hp (by rw [e]; exact hq)
 ·have := KindOk.self (S := S) (T := T) (env := env) fun hh => by
   obtain ⟨c, P, a, b, c'⟩ := D.lam hh
   exact ⟨c, P, by rw [he]; exact a, by rw [he]; exact b, c'⟩
  rw [hS] at this
  exact this
 ·rw [ownNew b q] at e; exact no_ns e
theorem Fly.pop (hf : env.frame = some L) (x : ∀ b o, h.get? b = some o → h₁.get? b = some o) {e : Addr} {wt : Str} {a : D} (f : FlyT S (env :: stk) h₁ e wt a .none h₂) : Fly S stk h e wt a h₂ := by
 obtain ⟨oe, vs, dx, head, fx, h1, tr⟩ := f
 have up : ∀ {b}, h₁.get? b = none → h.get? b = none := fun {b} q => by
  cases z : h.get? b with
  | none => rfl
  | some o => rw [x b o z] at q; exact no_sn q
 obtain ⟨Ta, oT, ts, a1, a2, a3, a4, a5, a6, a7⟩ := tr
 exact ⟨oe, vs, dx, ⟨up fx.new, fx.ob, fx.cls, fx.dict, fx.data, fx.size, fx.dob, fx.fix.down hf, fx.ctx⟩, .inr ⟨.none, head, h1, ⟨Ta, oT, ts, a1, up a2, a3, a4, a5, a6, a7⟩, .inl rfl⟩⟩
theorem fn_spec (H : StaOk S) (D : DefAt S T f fd ps df sc body) (SX : SoundX prog w S T k 40 40) : FnSpec prog w S (k + 1) (.ref f) (runF T ps df sc body) := by
 intro A stk K s vs ds Q E ar TS rs h
 refine wpAny_call ?_
 unfold runF at h
 cases hm : bindD ps ds df with
 | none => rw [hm] at h; exact h.elim
 | some m =>
  rw [hm] at h
  obtain ⟨binds, bt, hb, hn⟩ := D.bind K s vs ds m TS.stays rs hm
  obtain ⟨o, ho, hd⟩ := D.obj
  have hs : fd.scope = sc := D.scope
  refine codeAny_call_function (by have := ar.depth; show A.depth < 1000; omega) (TS.stays _ _ ho) hd (by rw [hs]; exact D.co) (by rw [hs]; exact D.gen) D.body (D.code.keeps TS.stays) ?_
  refine bt _ _ _ _ ?_
  rw [hs, D.glob, D.clo, D.blt]
  refine wpAny_newFunctionEnv_cells D.kind (fun p hp => ?_) fun env he s₂ x => ?_
  ·have hq := D.par p.1 (by rw [← hn]; exact List.mem_map.mpr ⟨p, hp, rfl⟩)
   unfold storable at hq
   cases q : sc.names.lookup p.1 with
   | none => rw [q] at hq; exact no_ft hq
   | some z =>
    rw [q] at hq
    induction z using PySem.NameKind.casesOn with
    | «local» => exact .inl rfl
    | cell => exact .inr ⟨rfl, cellsFrom_some _ _ _ (lookup_mem q)⟩
    | _ => exact no_ft hq
  ·obtain ⟨T₂, X₂, ko, tp, own, hF⟩ := enter H TS D hb hn he x
   have keep := x.toInCall.keep
   have newL : s.heap.get? s.heap.objs.size = none := new_none _
   refine ⟨H.nolim.keeps T₂.stays, codeAny_func ?_⟩
   have ar' := ar.deeper env
   have pop : ∀ {h'}, ExtP S (env :: stk) (Own env) s₂.heap h' → Ext S stk s.heap h' := fun {h'} x' => x'.pop hF keep newL own
   have kpop : ∀ {K'}, KExt s₂.heap K K' → KExt s.heap K K' := fun {K'} k' => ⟨k'.1, fun a o e => (k'.2 a o e).imp id fun q => by
    cases z : s.heap.get? a with
    | none => rfl
    | some o => rw [keep a o z] at q; exact no_sn q⟩
   refine execs_sound SX ar' ko tp T₂ X₂ ?_
   have h' : ((exs T 40 sc 40 body m).bind fun fl => match fl with | .ret d => Tr.ok d | .next _ => .ok .none | .cont _ => .bad).sat (fun d => Good S stk s K d Q) (fun w a => Fall S stk s K w a E) := h
   rw [Tr.sat_bind] at h'
   refine Tr.sat_mono (fun fl q K' s' T' x' k' f hf => ?_) (fun wt a q e s' T' x' fly => ?_) _ h'
   ·induction fl using Fl.casesOn with
    | next m' =>
     obtain ⟨rfl, _⟩ := hf
     exact q .none K' s' (T'.pop hF) (pop x') (kpop k') .none
    | cont m' => exact q.elim
    | ret d =>
     obtain ⟨v, rfl, rv⟩ := hf
     exact q v K' s' (T'.pop hF) (pop x') (kpop k') rv
   ·refine leaving_fly (s₀ := s₂) H T₂ T' x' ar'.frames rfl tp.frame fly fun h₃ T₃ x₃ f₃ => ?_
    exact q e _ (T₃.pop hF) (pop x₃) (Fly.pop hF keep f₃)
theorem FnSpec.refine {F F' : List D → Tr D} {f : Value} (g : FnSpec prog w S k f F) (h : ∀ ds (P : D → Prop) (Eb : Str → D → Prop), (F' ds).sat P Eb → (F ds).sat P Eb) : FnSpec prog w S k f F' :=
 fun A stk K s vs ds Q E ar TS rs q => g A stk K s vs ds Q E ar TS rs (h ds _ _ q)
theorem Ar.down {k' : Nat} (ar : Ar A stk k) (h : k' ≤ k) : Ar A stk k' := ⟨ar.frames, ar.hand, by have := ar.depth; lia, by have := ar.units; lia⟩
theorem FnSpec.up {F : List D → Tr D} {f : Value} {k' : Nat} (g : FnSpec prog w S k f F) (h : k ≤ k') : FnSpec prog w S k' f F :=
 fun A stk K s vs ds Q E ar TS rs q => g A stk K s vs ds Q E (ar.down h) TS rs q
theorem keep_def {o : Obj} (e : S.B.get? f = some o) (hd : o.data = .func fd) : KeepOk prog w S (.ref f) := fun h st =>
 ⟨.frame, .inl rfl, fun A Q E s k q => by
  show wpAny _ A (load f >>= fun o => _) Q E s
  refine wpAny_bind (wpAny_load (k _ _ (st _ _ e)) ?_)
  rw [hd]
  exact wpAny_pure q⟩
theorem keep_builtin (id : String) : KeepOk prog w S (.builtin id) := fun h J => ⟨.machine, .inr (.inl rfl), Looks.now⟩
theorem keep_type (id : String) : KeepOk prog w S (.type id) := fun h J => ⟨.machine, .inr (.inl rfl), Looks.now⟩
end
noncomputable def lenF : List D → Tr D
 | [.list xs] => when (decide (xs.length ≤ cap)) (.int xs.length)
 | [.tup xs] => when (decide (xs.length ≤ cap)) (.int xs.length)
 | [.bytes l] => when (decide (l.length ≤ cap)) (.int l.length)
 | _ => .bad
noncomputable def byteI (n : Int) : Bool := decide (0 ≤ n) && decide (n < 256)
noncomputable def bytesF : List D → Tr D
 | [.list xs] => when (allI xs && (intsOf xs).all byteI && decide (xs.length ≤ cap)) (.bytes (intsOf xs))
 | _ => .bad
noncomputable def tupleF : List D → Tr D
 | [.list xs] => when (decide (xs.length ≤ cap)) (.tup xs)
 | _ => .bad
section
variable {prog : Program} {w : World} {S : Sta} {T : Tab} {k kk : Nat} {M : Model}
theorem len_spec : FnSpec prog w S k (.builtin "len") lenF := by
 intro A stk K s vs ds Q E ar TS rs h
 induction ds using List.casesOn with
 | nil => exact h.elim
 | cons d ds =>
  induction ds using List.casesOn with
  | cons => cases d <;> exact h.elim
  | nil =>
   obtain ⟨v, rfl, r⟩ := rs.one_v
   induction d using D.casesOn with
   | list xs =>
    obtain ⟨_, _, _, rfl, ha, rs⟩ := r.list_v
    obtain ⟨c, g⟩ := when_sat (show (Rg.when _ _).sat _ _ from h)
    have c' := of_decide_eq_true c
    unfold cap at c'
    have hl := rs.length
    refine Calls.call_len_list (lst_is TS ha) (by simp; lia) ?_
    rw [show ((_ : List Value).toArray.size : Int) = _ from by rw [List.size_toArray, hl]]
    exact Good.here TS g (.int _ _)
   | tup xs =>
    obtain ⟨_, _, _, rfl, ha, rs⟩ := r.tup_v
    obtain ⟨c, g⟩ := when_sat (show (Rg.when _ _).sat _ _ from h)
    have c' := of_decide_eq_true c
    unfold cap at c'
    have hl := rs.length
    refine PyProof.Rows.len_tuple (tup_is TS ha) (by simp; lia) ?_
    rw [show ((_ : List Value).toArray.size : Int) = _ from by rw [List.size_toArray, hl]]
    exact Good.here TS g (.int _ _)
   | bytes l =>
    obtain ⟨b, t, rfl, rfl⟩ := r.bytes_v
    obtain ⟨c, g⟩ := when_sat (show (Rg.when _ _).sat _ _ from h)
    have c' := of_decide_eq_true c
    rw [KBw.ints_length] at c' g
    unfold cap at c'
    exact PySem.W.len_bytes (by lia) (Good.here TS g (.int _ _))
   | _ => exact h.elim
theorem bytes_spec (H : StaOk S) : FnSpec prog w S k (.type "bytes") bytesF := by
 intro A stk K s vs ds Q E ar TS rs h
 induction ds using List.casesOn with
 | nil => exact h.elim
 | cons d ds =>
  induction ds using List.casesOn with
  | cons => cases d <;> exact h.elim
  | nil =>
   obtain ⟨v, rfl, r⟩ := rs.one_v
   induction d using D.casesOn with
   | list xs =>
    obtain ⟨_, _, _, rfl, ha, rs⟩ := r.list_v
    obtain ⟨c, g⟩ := when_sat (show (Rg.when _ _).sat _ _ from h)
    simp only [Bool.and_eq_true, decide_eq_true_eq, List.all_eq_true] at c
    obtain ⟨⟨c1, c2⟩, c3⟩ := c
    unfold cap at c3
    have hl := rs.length
    have hr : ∀ n ∈ intsOf _, 0 ≤ n ∧ n < 256 := fun n hn => by
     have := c2 n hn
     unfold byteI at this
     simpa using this
    refine call_bytes_ints (lst_is TS ha) (ints_of rs c1) hr (by rw [sizeLine_eq, hl]; lia) ar.hand fun h' t tk hk => ?_
    refine g _ K _ (TS.grow H hk tk) (ExtP.keeps hk) (KExt.refl _ _) ?_
    have mk : ∀ ns : List Int, KBw.bInts (byteArr ns) = ns → Rep S K (.bytes (byteArr ns) t) (.bytes ns) := fun ns e => by
     have q := Rep.bytes (S := S) (K := K) (byteArr ns) t
     rw [e] at q
     exact q
    exact mk _ (KBa.ints_make hr)
   | _ => exact h.elim
theorem tuple_spec (H : StaOk S) : FnSpec prog w S k (.type "tuple") tupleF := by
 intro A stk K s vs ds Q E ar TS rs h
 induction ds using List.casesOn with
 | nil => exact h.elim
 | cons d ds =>
  induction ds using List.casesOn with
  | cons => cases d <;> exact h.elim
  | nil =>
   obtain ⟨v, rfl, r⟩ := rs.one_v
   induction d using D.casesOn with
   | list xs =>
    obtain ⟨_, _, _, rfl, ha, rs⟩ := r.list_v
    obtain ⟨c, g⟩ := when_sat (show (Rg.when _ _).sat _ _ from h)
    have c' := of_decide_eq_true c
    unfold cap at c'
    have hl := rs.length
    refine call_tuple_list (lst_is TS ha) (fun h' hk => ?_) (by rw [sizeLine_eq]; simp; lia)
    have T₁ := TS.grow H hk s.toks
    exact Good.push (s := { s with heap := h', toks := s.toks }) H T₁ (g.after (ExtP.keeps hk) (KExt.refl _ _)) rfl _ (.tup (n := 0) (Kn.put_self _ _ _) (rs.mono (Kn.put_old (T₁.kNone (new_none _)))))
   | _ => exact h.elim
noncomputable def isListF : List D → Tr D
 | [.list _, .raw v] => pickB (v == .type "list") (.ok (.bool true)) .bad
 | [.int _, .raw v] => pickB (v == .type "list") (.ok (.bool false)) .bad
 | _ => .bad
theorem isinstance_spec : FnSpec prog w S k (.builtin "isinstance") isListF := by
 intro A stk K s vs ds Q E ar TS rs h
 induction ds using List.casesOn with
 | nil => exact h.elim
 | cons d ds =>
  induction ds using List.casesOn with
  | nil => cases d <;> exact h.elim
  | cons d2 ds =>
   induction d using D.casesOn with
    | list xs =>
     induction ds using List.casesOn with
     | cons => cases d2 <;> exact h.elim
     | nil =>
      obtain ⟨_, _, rfl, r, r2⟩ := rs.two_v
      obtain ⟨_, _, _, rfl, ha, rs⟩ := r.list_v
      induction d2 using D.casesOn with
      | raw v =>
       obtain rfl := r2.raw_v
       rcases rx_pick (show Rx S stk s K (pickB _ _ _) Q E from h) with ⟨c, g⟩ | ⟨_, g⟩
       ·rw [eq_of_beq c]
        exact IsiPair.list_list (TS.kin _ _ ha).1 rfl (Good.here0 TS g (.bool _))
       ·exact g.elim
      | _ => exact h.elim
    | int i =>
     induction ds using List.casesOn with
     | cons => cases d2 <;> exact h.elim
     | nil =>
      obtain ⟨_, _, rfl, r, r2⟩ := rs.two_v
      obtain ⟨_, rfl⟩ := r.int_v
      induction d2 using D.casesOn with
      | raw v =>
       obtain rfl := r2.raw_v
       rcases rx_pick (show Rx S stk s K (pickB _ _ _) Q E from h) with ⟨c, g⟩ | ⟨_, g⟩
       ·rw [eq_of_beq c]
        exact IsiPair.int_list (Good.here TS g (.bool _))
       ·exact g.elim
      | _ => exact h.elim
    | _ => exact h.elim
end
noncomputable def sumF : List D → Tr D
 | [.list xs] => when (allI xs && decide (xs.length ≤ cap)) (.int (intsOf xs).sum)
 | _ => .bad
theorem preSum_take (ns : List Int) : ∀ k, k ≤ ns.length → preSum (fun i => ns.getD i 0) k = (ns.take k).sum
 | 0, _ => by simp [preSum]
 | k + 1, h => by
  have ih := preSum_take ns k (by lia)
  show preSum (fun i => ns.getD i 0) k + ns.getD k 0 = _
  rw [ih, List.take_succ_eq_append_getElem (by lia), List.sum_append]
  have : ns.getD k 0 = ns[k] := by simp [List.getD, show k < ns.length by lia]
  rw [this]
  simp
section
variable {prog : Program} {w : World} {S : Sta} {T : Tab} {k kk : Nat} {M : Model}
theorem intsAre_get {vs : List Value} {ns : List Int} (h : IntsAre vs ns) {i : Nat} {v : Value} (e : vs[i]? = some v) : ∃ t, v = .int (ns.getD i 0) t := by
 induction h generalizing i with
 | nil => simp at e
 | cons n t r ih =>
  induction i using Nat.casesOn with
  | zero => simp at e; exact ⟨t, by rw [← e]; simp⟩
  | succ i => simp at e; obtain ⟨u, hu⟩ := ih e; exact ⟨u, by rw [hu]; simp⟩
theorem sum_spec (H : StaOk S) : FnSpec prog w S k (.builtin "sum") sumF := by
 intro A stk K s vs ds Q E ar TS rs h
 induction ds using List.casesOn with
 | nil => exact h.elim
 | cons d ds =>
  induction ds using List.casesOn with
  | cons => cases d <;> exact h.elim
  | nil =>
   obtain ⟨v, rfl, r⟩ := rs.one_v
   induction d using D.casesOn with
   | list xs =>
    obtain ⟨l, vs, j, rfl, ha, rs⟩ := r.list_v
    obtain ⟨c, g⟩ := when_sat (show (Rg.when _ _).sat _ _ from h)
    simp only [Bool.and_eq_true, decide_eq_true_eq] at c
    obtain ⟨c1, c2⟩ := c
    have ia := ints_of rs c1
    have hl := rs.length
    have hli : (intsOf xs).length = xs.length := by simp [intsOf]
    have L := lst_is TS ha
    have ll : l < s.heap.objs.size := Heap.lt_size (TS.kin _ _ ha).1
    refine call_sum_walkG (wpAny_pyIter_list L ?_)
    have keep : ∀ b o, s.heap.get? b = some o → (s.heap.push { cls := .type "list_iterator", data := .fields #[.ref l, .int 0 0] }).get? b = some o := fun J J e => Heap.get?_push_of_some _ e
    refine ⟨s.heap.objs.size, [s.heap.objs.size, l], [s.heap.objs.size], vs.toArray.size, fun i v => vs.toArray[i]? = some v, _, fun i => (intsOf xs).getD i 0, rfl, Walks.list (A := A.in1) ar.hand s.heap.objs.size l (Nat.ne_of_lt ll) vs.toArray,
     ⟨⟨_, Heap.get?_push_size _ rfl, rfl, rfl⟩, (let ⟨o, e, q⟩ := L; ⟨o, keep _ _ e, q⟩)⟩, fun b hb => ?_, fun i v e => intsAre_get ia (by simpa using e), fun h' tk t' hk => ?_⟩
    ·show b < (s.heap.push _).objs.size
     rw [Heap.size_push]
     rcases List.mem_cons.mp hb with rfl | hb
     ·exact Nat.lt_succ_self _
     ·rw [List.mem_singleton.mp hb]; exact Nat.lt_succ_of_lt ll
    ·have k' : ∀ b o, s.heap.get? b = some o → h'.get? b = some o := fun b o e => hk b o (fun q => by rw [List.mem_singleton.mp q] at e; exact absurd (Heap.lt_size e) (Nat.lt_irrefl _)) (keep b o e)
     have e : preSum (fun i => (intsOf xs).getD i 0) vs.toArray.size = (intsOf xs).sum := by
      rw [preSum_take _ _ (by simp [hl, hli]), List.take_of_length_le (by simp [hl, hli])]
     rw [e]
     exact g _ K _ (TS.grow H k' tk) (ExtP.keeps k') (KExt.refl _ _) (.int _ _)
   | _ => exact h.elim
end
structure LamSt (S : Sta) : Prop where
 bm : ∃ bm o, S.mg "__builtins__" = some (.ref bm) ∧ bm ≠ builtinsNs ∧ S.B.get? bm = some o ∧ o.cls = .type "module" ∧ o.dict = some builtinsNs ∧ o.data = .plain
 one : ∀ t ∈ S.tabs, ∀ t' ∈ S.tabs, t.2.1 = t'.2.1 → t.2.2 = t'.2.2
theorem among_snoc {pos : Pos} {a b : Int} {c cv : Value} (l : List Value) (h : TriplesOk l) (e : codeAmong pos (l ++ [rawInt a, rawInt b, c]) = some cv) : codeAmong pos l = some cv ∨ cv = c := by
 fun_induction TriplesOk l with
 | case1 =>
  simp only [List.nil_append, codeAmong, rawInt] at e
  split at e
  ·obtain rfl := Option.some.inj e; exact .inr rfl
  ·cases e
 | case2 x t y u z rest ih =>
  simp only [List.cons_append, codeAmong] at e ⊢
  split at e
  ·rename_i q; rw [if_pos q]; exact .inl e
  ·rename_i q; rw [if_neg q]; exact ih h e
 | case3 => exact h.elim
section
variable {prog : Program} {w : World} {S : Sta} {T : Tab} {k : Nat} {M : Model}
variable {A : Around} {stk outer : List Env} {K K' K₀ : Kn} {s s₀ : Shared} {env : Env} {E : Value → Shared → Prop} {h h' h₀ h₁ h₂ : Heap} {m m' : Loc} {sc sc' : Scope} {n : Nat}
theorem St.table (H : StaOk S) (LS : LamSt S) (TS : St S stk K s) {t : Addr × Addr × Str} (ht : t ∈ S.tabs) {ps : Array Value} (hP : s.heap.get? t.2.1 = some (tabObj ps)) (x : Heap.ExtBut t.2.1 s.heap h') {a b : Int} {c' : Addr}
  (hT : h'.get? t.2.1 = some (tabObj (ps ++ #[rawInt a, rawInt b, .ref c']))) (hc : ∃ o vs tk, h'.get? c' = some o ∧ o.cls = .type "code" ∧ o.data = .fields vs ∧ vs[1]? = some (.str t.2.2 tk)) (hn : c' ∉ S.tabAt) (tk : Tok) :
  St S stk K { s with heap := h', toks := tk } ∧ Ext S stk s.heap h' := by
 have hm : t.2.1 ∈ S.tabAt := List.mem_map.mpr ⟨t, ht, rfl⟩
 have nf : t.2.1 ∉ frs stk := fun q => by
  obtain ⟨env', he, hf⟩ := List.mem_filterMap.mp q
  obtain ⟨_, L, _, hL, _, hT', _, _⟩ := TS.ff env' he
  rw [hL] at hf; obtain rfl := Option.some.inj hf; exact hT' hm
 have ex : Ext S stk s.heap h' := fun b' o e => by
  by_cases q : b' = t.2.1
  ·subst q
   exact ⟨_, hT, fun J => ⟨fun f => absurd hm f.2, fun f => absurd f nf⟩⟩
  ·exact ⟨o, x b' o q e, fun J => ⟨fun J => rfl, fun J => rfl⟩⟩
 refine ⟨TS.step H ex (fun t' ht' => ?_) tk, ex⟩
 obtain ⟨ps', p1, p2, p3⟩ := TS.tab t' ht'
 have old : ∀ pos cv, codeAmong pos ps'.toList = some cv → ∃ c' o vs tk, cv = .ref c' ∧ h'.get? c' = some o ∧ o.cls = .type "code" ∧ o.data = .fields vs ∧ vs[1]? = some (.str t'.2.2 tk) ∧ c' ∉ S.tabAt := fun pos cv q => by
  refine abs1 fun G0 hG0 => ?_
  obtain ⟨c₁, o, vs, tk, x1, x2, x3, x4, x5, x6⟩ := p3 pos cv q
  refine hG0 ?_
  clear hG0 G0
  exact ⟨c₁, o, vs, tk, x1, x _ _ (fun z => x6 (z ▸ hm)) x2, x3, x4, x5, x6⟩
 by_cases q : t'.2.1 = t.2.1
 ·rw [q] at p1
  rw [hP] at p1
  have e : ps = ps' := by
   have := congrArg Obj.data (Option.some.inj p1)
   exact Data.fields.inj this
  subst e
  refine ⟨_, q ▸ hT, ?_, fun pos cv z => ?_⟩
  ·rw [Array.toList_append]
   exact TriplesOk_snoc a b (.ref c') ps.toList p2
  ·rw [Array.toList_append] at z
   rcases among_snoc _ p2 z with z | z
   ·exact old pos cv z
   ·obtain ⟨o, vs, tk, y1, y2, y3, y4⟩ := hc
    exact ⟨c', o, vs, tk, z, y1, y2, y3, by rw [LS.one t' ht' t ht q]; exact y4, hn⟩
 ·exact ⟨ps', x _ _ q p1, p2, old⟩
noncomputable abbrev lamData (qual : Str) (body : PySem.Expr) (sc' : Scope) (clos : List (Str × Addr)) (pm : Value) (c' : Addr) (ctv : Value) : FuncData := kla_fn "<lambda>" qual ⟨[], [], none, [], [], none, []⟩ body sc' clos pm (.ref c') ctv
theorem mkfun (H : StaOk S) (LS : LamSt S) (TS : St S stk K s) (X : Lc S stk env m K s.heap) (lam : LamOk S env) {clos : List (Str × Addr)} (hcl : closureFor sc' env = pure clos) {body : PySem.Expr} {pos : Pos} {fl : Nat} {Q : Value → Shared → Prop}
  (h : ∀ f K' s' c' pm ctv, St S stk K' s' → Ext S stk s.heap s'.heap → KExt s.heap K K' → s.heap.get? f = none → K' f = some { cls := .type "function", data := .func (lamData (env.qual ++ "<lambda>") body sc' clos pm c' ctv) } →
   s'.heap.CodeRec (.ref c') (env.qual ++ "<lambda>") → Fix S stk c' → Q (.ref f) s') :
  wpAny M A (makeTail "<lambda>" (env.qual ++ "<lambda>") ⟨[], [], none, [], [], none, []⟩ (.expr body) sc' env .none .none none pos fl) Q E s := by
 refine abs1 fun G0 hG0 => ?_
 obtain ⟨c, P, hcode, hmem, CH⟩ := lam
 obtain ⟨bm, ob, b1, b2, b3, b4, b5, b6⟩ := LS.bm
 refine hG0 ?_
 clear hG0 G0
 have hm : P ∈ S.tabAt := List.mem_map.mpr ⟨_, hmem, rfl⟩
 unfold makeTail
 rw [hcl, X.glob]
 refine wpAny_bind (wpAny_pure ?_)
 have fin : ∀ {h₂ : Heap} {tk : Tok} {c' : Addr} {ctv : Value}, St S stk K { s with heap := h₂, toks := tk } → Ext S stk s.heap h₂ → (∃ o vs t, h₂.get? c' = some o ∧ o.data = .fields vs ∧ vs[1]? = some (.str (env.qual ++ "<lambda>") t)) → c' ∉ S.tabAt →
   wpAny M A (builtinsFor mainGlobals env.builtins >>= fun bi => nsGet mainGlobals "__name__" >>= fun nm => pure Value.none >>= fun dc => newObj (.type "function") (.func { name := "<lambda>", qualname := env.qual ++ "<lambda>", params := ⟨[], [], none, [], [], none, []⟩, body := .expr body, scope := sc', globals := mainGlobals, closure := clos, closureTuple := ctv, code := .ref c', builtins := bi, defaults := .none, kwdefaults := .none, annotations := none, pyModule := nm.getD .none, doc := dc }) none) Q E { s with heap := h₂, toks := tk } := by
  intro h₂ tk c' ctv T₂ x₂ hrec nt
  have hg₂ := H.g.keeps T₂.stays
  refine wpAny_bind (wpAny_builtinsFor hg₂ b1 b2 (T₂.stays _ _ b3) b4 b5 b6 ?_)
  refine wpAny_bind (wpAny_nsGet hg₂ ?_)
  refine wpAny_bind (wpAny_pure ?_)
  refine wpAny_newObj_type ?_ (by size_fits)
  refine abs1 fun G0 hG0 => ?_
  obtain ⟨o, vs, t, e1, e2, e3⟩ := hrec
  refine hG0 ?_
  clear hG0 G0
  let oF : Obj := { cls := .type "function", data := .func (lamData (env.qual ++ "<lambda>") body sc' clos ((S.mg "__name__").getD .none) c' ctv) }
  have T₃ : St S stk (K.put h₂.objs.size oF) { s with heap := h₂.push oF, toks := tk } := T₂.push H (o := oF) rfl tk
  have nF : h₂.get? h₂.objs.size = none := new_none _
  have ne : c' ≠ h₂.objs.size := Nat.ne_of_lt (Heap.lt_size e1)
  have fC : Fix S stk c' := codeFix T₂ e1 e2 nt
  have e1' : (h₂.push oF).get? c' = some o := Heap.get?_push_of_some _ e1
  have e1' : (h₂.push oF).get? c' = some o := Heap.get?_push_of_some _ e1
  exact h h₂.objs.size _ _ c' ((S.mg "__name__").getD .none) ctv T₃ (x₂.trans (ExtP.keeps fun J J e => Heap.get?_push_of_some _ e)) ⟨Kn.put_old (T₂.kNone nF), fun b ob q => (Kn.put_inv q).imp id fun z => by rw [z.1]; exact x₂.none nF⟩ (x₂.none nF) (Kn.put_self _ _ _) ⟨c', o, vs, t, rfl, e1', e2, e3⟩ fC
 have rest : ∀ (ctv : Value) (h₁ : Heap), (∀ b o, s.heap.get? b = some o → h₁.get? b = some o) → wpAny M A (functionCode env pos fl "<lambda>" (env.qual ++ "<lambda>") ⟨[], [], none, [], [], none, []⟩ sc' (.expr body) >>= fun cd => builtinsFor mainGlobals env.builtins >>= fun bi => nsGet mainGlobals "__name__" >>= fun nm => pure Value.none >>= fun dc => newObj (.type "function") (.func { name := "<lambda>", qualname := env.qual ++ "<lambda>", params := ⟨[], [], none, [], [], none, []⟩, body := .expr body, scope := sc', globals := mainGlobals, closure := clos, closureTuple := ctv, code := cd, builtins := bi, defaults := .none, kwdefaults := .none, annotations := none, pyModule := nm.getD .none, doc := dc }) none) Q E { s with heap := h₁ } := by
  intro ctv h₁ k₁
  have T₁ := TS.grow H k₁ s.toks
  refine abs1 fun G0 hG0 => ?_
  obtain ⟨ps, hP, tri, amg⟩ := T₁.tab _ hmem
  refine hG0 ?_
  clear hG0 G0
  dsimp only at hP
  have C₁ : CodeHd h₁ c P := CH.keeps T₁.stays
  cases hf : codeAmong pos ps.toList with
  | some cv =>
   refine abs1 fun G0 hG0 => ?_
   obtain ⟨c', o, vs, tk, rfl, e1, e2, e3, e4, e5⟩ := amg pos cv hf
   refine hG0 ?_
   clear hG0 G0
   refine wpAny_bind (wpAny_functionCode_hit (s := { s with heap := h₁ }) hcode (C₁.code hP tri) hf ?_)
   exact fin T₁ (ExtP.keeps k₁) ⟨o, vs, tk, e1, e3, e4⟩ e5
  | none =>
   refine wpAny_bind (wpAny_functionCodeX (s := { s with heap := h₁ }) hcode (C₁.code hP tri) (C₁.tab hP) hf fun c' h' tk hx hge hlt hcd hrec htb hnew => ?_)
   refine abs1 fun G0 hG0 => ?_
   obtain ⟨P', _, hcode', htab'⟩ := hnew
   obtain ⟨o, vs', file, tf, flags, tg, inF, text, tt, q1, q2, q3, _⟩ := CodeHd.of hcode' htab'
   obtain ⟨c₂, o₂, vs, t, e0, e1, e2, e3⟩ := hrec
   refine hG0 ?_
   clear hG0 G0
   cases e0
   rw [q1] at e1
   obtain rfl := Option.some.inj e1
   rw [q3] at e2
   cases e2
   have nt : c' ∉ S.tabAt := fun q => by
    obtain ⟨t', ht', z⟩ := List.mem_map.mp q
    obtain ⟨ps', w1, _⟩ := T₁.tab t' ht'
    rw [z] at w1
    exact Nat.lt_irrefl _ (Nat.lt_of_lt_of_le (Heap.lt_size w1) hge)
   obtain ⟨T₂, x₂⟩ := St.table (s := { s with heap := h₁ }) H LS T₁ hmem hP hx htb.2 ⟨o, _, t, q1, q2, q3, e3⟩ nt tk
   exact fin T₂ ((ExtP.keeps k₁).trans x₂) ⟨o, _, t, q1, q3, e3⟩ nt
 induction clos using List.casesOn with
 | nil =>
  simp only [List.isEmpty_nil, if_true]
  exact wpAny_bind (wpAny_pure (rest .none s.heap fun J J e => e))
 | cons q r =>
  simp only [List.isEmpty_cons, Bool.false_eq_true, if_false]
  exact wpAny_bind (wpAny_newTextTuple (rest _ _ fun J J e => Heap.get?_push_of_some _ e))
end
structure ErrCls (M : Model) (S : Sta) : Prop where
 exc : ∀ h, S.K.In h → Looks M h (isExcClass (.ref S.cE)) true
 ntup : ∀ h, S.K.In h → Looks M h (isInstance (.ref S.cE) (.type "tuple")) false
 sub : ∀ h, S.K.In h → Looks M h (isSubtype (.ref S.cE) (.ref S.cE)) true
 base : ∀ h, S.K.In h → Looks M h (isSubtype (.ref S.cE) (.type "BaseException")) true
 own : ∀ h, S.K.In h → Looks M h (typeOf (.ref S.cE)) (.type "type")
section
variable {M : Model} {S : Sta} {A : Around} {E : Value → Shared → Prop} {s : Shared} {e : Addr} {oe : Obj}
theorem excMatches_err (EC : ErrCls M S) (KI : S.K.In s.heap) (he : s.heap.get? e = some oe) (hc : oe.cls = .ref S.cE) {Q : Bool → Shared → Prop} (h : Q true s) : wpAny M A (excMatches (.ref e) (.ref S.cE)) Q E s := by
 have k : ∀ b o, s.heap.get? b = some o → s.heap.get? b = some o := fun J J q => q
 unfold excMatches
 refine wpAny_bind (EC.ntup _ KI A _ E s k ?_)
 rw [if_neg Bool.false_ne_true]
 refine wpAny_bind (wpAny_pure ?_)
 dsimp only
 rw [List.forIn_cons]
 refine wpAny_bind (wpAny_bind (wpAny_bind (EC.exc _ KI A _ E s k ?_)))
 rw [if_neg (by decide)]
 refine wpAny_pure ?_
 dsimp only
 rw [List.forIn_nil]
 refine wpAny_pure ?_
 have ty : Looks M s.heap (typeOf (.ref e)) (.ref S.cE) := hc ▸ (Looks.ld he).andThen .now
 refine wpAny_bind (ty A _ E s k ?_)
 rw [List.forIn_cons]
 refine wpAny_bind (wpAny_bind (wpAny_bind (EC.sub _ KI A _ E s k ?_)))
 rw [if_pos rfl]
 exact wpAny_pure (wpAny_pure (wpAny_pure h))
theorem raise_err (EC : ErrCls M S) {env : Env} {x : Sem Value} {Q : Flow → Shared → Prop} (hh : A.handled = none)
  (h : wpAny M A x (fun v s₁ => ∃ e oe vs, v = .ref e ∧ S.K.In s₁.heap ∧ s₁.heap.get? e = some oe ∧ oe.cls = .ref S.cE ∧ oe.data = .fields vs ∧ vs[1]? = some .none ∧ E (.ref e) s₁) E s) : wpAny M A (raiseStmt env (some x) none) Q E s := by
 unfold raiseStmt
 refine wpAny_bind (wpAny_mono h (fun v s₁ h₁ => ?_) fun J J x => x)
 refine abs1 fun G0 hG0 => ?_
 obtain ⟨e, oe, vs, rfl, KI, he, hc, hd, h1, hE⟩ := h₁
 refine hG0 ?_
 clear hG0 G0
 have k : ∀ b o, s₁.heap.get? b = some o → s₁.heap.get? b = some o := fun J J q => q
 have ty : Looks M s₁.heap (typeOf (.ref e)) (.ref S.cE) := hc ▸ (Looks.ld he).andThen .now
 have nt : Looks M s₁.heap (isType (.ref e)) false := by
  unfold isType
  refine (Looks.ld he).andThen ?_
  rw [hd]
  exact .now
 refine wpAny_bind (wpAny_pure (wpAny_bind (wpAny_holding ?_)))
 unfold excFromValue isExcClass isInstance
 refine wpAny_bind (wpAny_bind (nt A _ E s₁ k ?_))
 rw [if_neg Bool.false_ne_true]
 refine wpAny_pure ?_
 rw [if_neg Bool.false_ne_true]
 refine wpAny_bind (wpAny_bind (ty A _ E s₁ k (EC.base _ KI A _ E s₁ k ?_)))
 rw [if_pos rfl]
 refine wpAny_pure ?_
 dsimp only
 refine wpAny_bind (nt A _ E s₁ k ?_)
 rw [if_neg Bool.false_ne_true]
 unfold raisedInstance
 refine wpAny_bind (wpAny_bind (ty A _ E s₁ k (wpAny_bind (EC.own _ KI A _ E s₁ k ?_))))
 rw [if_pos (by simp)]
 refine wpAny_pure ?_
 unfold setFlight
 refine wpAny_bind (wpAny_bind (wpAny_field he hd h1 ?_))
 rw [if_neg (by decide)]
 exact wpAny_pure (wpAny_raiseNew_none hh hE)
end
noncomputable def MakeErr (prog : Program) (w : World) (S : Sta) (k : Nat) : Prop :=
 ∀ (A : Around) (stk : List Env) (K : Kn) (s : Shared) (vs : List Value) (ds : List D) (wt : Str) (a : D) (Q E : Value → Shared → Prop), Ar A stk k → St S stk K s → Reps S K vs ds → ((ds = [.str wt] ∧ a = .none) ∨ ∃ i, ds = [.str wt, .int i] ∧ a = .int i) →
  (∀ e s', St S stk K s' → Ext S stk s.heap s'.heap → (∃ oe vs dx, FlyX S stk s.heap e wt a s'.heap oe vs dx ∧ vs[1]? = some .none) → Q (.ref e) s') → wpAny (model prog w) A (call (.ref S.cE) vs []) Q E s
theorem raise_pick {P : Tr Fl → Prop} {ds : List D} (hb : P .bad → False) (h : P (match ds with | [.str w] => (Tr.exc w .none : Tr Fl) | [.str w, .int i] => .exc w (.int i) | _ => .bad)) :
  ∃ wt a, ((ds = [.str wt] ∧ a = .none) ∨ ∃ i, ds = [.str wt, .int i] ∧ a = .int i) ∧ P (.exc wt a) := by
 induction ds using List.casesOn with
 | nil => exact (hb h).elim
 | cons d ds =>
  induction d using D.casesOn with
  | str w =>
   induction ds using List.casesOn with
   | nil => exact ⟨w, .none, .inl ⟨rfl, rfl⟩, h⟩
   | cons d ds =>
    induction d using D.casesOn with
    | int i =>
     induction ds using List.casesOn with
     | nil => exact ⟨w, .int i, .inr ⟨i, rfl, rfl⟩, h⟩
     | cons _ _ => exact (hb h).elim
    | _ => exact (hb h).elim
  | _ => exact (hb h).elim
theorem raise_sound {prog : Program} {w : World} {S : Sta} {T : Tab} {k kk : Nat} (H : StaOk S) (EC : ErrCls (model prog w) S) (ME : MakeErr prog w S k) (GE : GlobIs S "CodeError" (.ref S.cE)) (KE : KeepOk prog w S (.ref S.cE)) (IE : SoundE prog w S T k kk) :
  RaiseS prog w S T k kk := by
 intro sc x xp cp p as m env A stk K s Q E ar TS X ko tp hx hs h
 subst hx
 unfold evLs at h
 cases q : noStars as with
 | false => rw [q] at h; exact h.elim
 | true =>
  cases q' : decide (as.length < 30) with
  | false => rw [q, q'] at h; exact h.elim
  | true =>
   rw [q, q'] at h
   have kx := ko.kind ("CodeError" : Str)
   rw [hs] at kx
   show wpAny _ _ (standAt p >>= fun J => raiseStmt env (some (eval (.Call (.Name "CodeError" xp) as [] cp) env >>= fun v => standAt p >>= fun J => pure v)) none) Q E s
   refine wpAny_bind (wpAny_standAt (raise_err EC ar.hand (wpAny_bind ?_)))
   show wpAny _ _ (eval (.Name "CodeError" xp) env >>= fun f => callWith cp f [] (backTo cp (starEach as env)) (backToKw cp (keywordEach [] env))) _ _ s
   refine wpAny_bind (global_sound H TS X kx (by decide) GE ?_)
   refine callWith_of (P := fun h => S.B.StaysIn h) (by rw [noStars_any q]; rfl) KE ?_
   have h2 : RxS S stk env s K (evL (fun e => ev T kk sc e m) as) (fun ds K' s' => RxS S stk env s' K' (match ds with | [.str w] => (Tr.exc w .none : Tr Fl) | [.str w, .int i] => .exc w (.int i) | _ => .bad) (FlG S stk env Q) E ∧ St S stk K' s') E :=
    RxS.step h fun ds K₁ s₁ h₁ T₁ x₁ k₁ => ⟨h₁, T₁⟩
   refine args_sound IE ar ko q TS X (h2.g.mono (fun ds K₁ s₁ ⟨h₁, T₁⟩ vs rs => ⟨T₁.stays, ?_⟩) fun J J q => q)
   have go : ∀ {wt : Str} {a : D}, ((ds = [.str wt] ∧ a = .none) ∨ ∃ i, ds = [.str wt, .int i] ∧ a = .int i) → (∀ e s', St S stk K₁ s' → ExtP S stk (Own env) s₁.heap s'.heap → Fly S stk s₁.heap e wt a s'.heap → E (.ref e) s') →
     wpAny (model prog w) A (call (.ref S.cE) vs []) (fun v s₁ => wpAny (model prog w) A (standAt p >>= fun J => pure v) (fun v s₁ => ∃ e oe vs, v = .ref e ∧ S.K.In s₁.heap ∧ s₁.heap.get? e = some oe ∧ oe.cls = .ref S.cE ∧ oe.data = .fields vs ∧ vs[1]? = some .none ∧ E (.ref e) s₁) E s₁) E s₁ := by
    intro wt a hd hE
    refine ME A stk K₁ s₁ vs ds wt a _ E ar T₁ rs hd fun e s₂ T₂ x₂ ⟨oe, vs', dx, fx, h1⟩ => ?_
    exact wpAny_bind (wpAny_standAt (wpAny_pure ⟨e, oe, vs', rfl, St.KIn H T₂, fx.ob, fx.cls, fx.data, h1, hE e s₂ T₂ (Ext.p x₂) ⟨oe, vs', dx, fx, .inl h1⟩⟩))
   obtain ⟨_, _, hd, h₁⟩ := raise_pick (P := fun r => RxS S stk env s₁ K₁ r (FlG S stk env Q) E) (fun h => h.elim) h₁
   exact go hd h₁
section
variable {prog : Program} {w : World} {S : Sta} {M : Model} {A : Around} {E : Value → Shared → Prop} {s : Shared} {env : Env} {h₀ : Heap} {L x dx C : Addr} {mv : Str → Option Value}
theorem attr_stmt {o v : PySem.Expr} {attr : Str} {ap p : Pos} {Q : Flow → Shared → Prop} (hv : plainE v = true)
  (h : wpAny M A (eval v env) (fun u s₁ => wpAny M A (eval o env) (fun ov s₂ => wpAny M A (setAttr ov attr u) (fun J s₃ => Q .next s₃) E s₂) E s₁) E s) : wpAny M A (exec (.Assign [.Attribute o attr ap] v p) env) Q E s := by
 have sw : swapsWithSole [.Attribute o attr ap] v p.line env = pure false := by
  have e : swapsWithSole [.Attribute o attr ap] v p.line env = swapsWith v (some (.Attribute o attr ap)) p.line env := by cases v <;> rfl
  rw [e]
  exact plain_swaps hv
 have ss : swappedStores [.Attribute o attr ap] v env = pure none := by cases v <;> rfl
 show wpAny _ _ (standAt p >>= fun J => swapsWithSole [.Attribute o attr ap] v p.line env >>= fun b => if b = true then (do
   evalThenUse v env fun v => assignAll v ((assignEach [.Attribute o attr ap] env).map (·.2))
   pure .next) else eval v env >>= fun u => swappedStores [.Attribute o attr ap] v env >>= fun nm => assignStores env u nm ((assignEach [.Attribute o attr ap] env).map (·.2))) _ _ s
 rw [sw]
 refine wpAny_bind (wpAny_standAt (wpAny_bind (wpAny_pure ?_)))
 rw [if_neg Bool.false_ne_true]
 refine wpAny_bind (wpAny_mono h (fun u s₁ h₁ => ?_) fun J J q => q)
 rw [ss]
 refine wpAny_bind (wpAny_pure ?_)
 show wpAny _ _ (assign (.Attribute o attr ap) env u >>= fun J => pure Flow.next) Q E s₁
 show wpAny _ _ ((holding [u] (eval o env) >>= fun ov => standAt ap.atName >>= fun J => holding [u, ov] (setAttr ov attr u) >>= fun J => release [u, ov] []) >>= fun J => pure Flow.next) Q E s₁
 refine wpAny_bind (wpAny_bind (wpAny_holding (wpAny_mono h₁ (fun ov s₂ h₂ => ?_) fun J J q => q)))
 refine wpAny_bind (wpAny_standAt (wpAny_bind (wpAny_holding (wpAny_mono h₂ (fun J s₃ h₃ => ?_) fun J J q => q))))
 exact wpAny_release (wpAny_pure h₃)
end
structure OrdCls (S : Sta) : Prop where
 set : findIn S.K (.ref S.cO) "__setattr__" = some (some (.builtin "object.__setattr__"))
 over : plainOver S.K S.cO = true
 dict : hasDictIn S.K S.cO = true
 code : takerIn S.K S.cO "code" = some none
 dst : takerIn S.K S.cO "dst" = some none
 src : takerIn S.K S.cO "src" = some none
 off : takerIn S.K S.cO "off" = some none
 imm : takerIn S.K S.cO "imm" = some none
 more : takerIn S.K S.cO "more" = some none
section
variable {prog : Program} {w : World} {S : Sta} {A : Around} {E : Value → Shared → Prop} {s : Shared} {env : Env} {h₀ : Heap} {L x dx : Addr} {mv : Str → Option Value}
theorem field_stmt (OC : OrdCls S) (F : Fr h₀ L s.heap mv) (X₀ : S.K.In h₀) (N : News h₀ L s.heap [(x, instObj S.cO dx), (dx, dictOf es n)]) (hxd : x ≠ dx) {nm : Str} {sp vp ap p : Pos} {v : Value} (ht : takerIn S.K S.cO nm = some none)
  (hk : env.scope.kind = .function) (hL : env.locals = L) (h1 : env.kindOf "self" = some .local) (h2 : env.kindOf nm = some .local) (m1 : mv "self" = some (.ref x)) (m2 : mv nm = some v) (hd : (nm == ("__debug__" : Str)) = false) (hl : (W.getL nm es).isSome = true) (hz : es.length < 900) {Q : Flow → Shared → Prop}
  (h : ∀ h' hsh tk, Fr h₀ L h' mv → News h₀ L h' [(x, instObj S.cO dx), (dx, dictOf (putL nm hsh (.str nm tk) v es) (putN nm es n))] → Q .next { s with heap := h', toks := s.toks + 2 }) :
  wpAny (model prog w) A (exec (.Assign [.Attribute (.Name "self" sp) nm ap] (.Name nm vp) p) env) Q E s := by
 subst hL
 refine attr_stmt rfl (wpAny_Name (wpAny_loadName_local hk h2 F.ns m2 (wpAny_Name (wpAny_loadName_local hk h1 F.ns m1 ?_) (by decide))) hd)
 have I : W.InstAt s.heap x (instObj S.cO dx) S.cO (some (dictOf es n)) := ⟨(N _ (.head _)).1, rfl, rfl, (N _ (.tail _ (.head _))).1⟩
 refine set_dict (es' := putL nm (PyData.keyHash w.params nm) (.str nm (s.toks + 1)) v es) (n' := putN nm es n) F X₀ N I rfl OC.set OC.over ht OC.dict hl rfl (.tail hxd (.head (fun p hp => nomatch hp))) ?_ fun h' F' N' => h h' _ _ F' N'
 have : ∀ l : List DictEntry, (putL nm (PyData.keyHash w.params nm) (.str nm (s.toks + 1)) v l).length ≤ l.length + 1 := by
  intro l
  induction l with
  | nil => exact Nat.le_refl _
  | cons e r ih =>
   unfold putL
   split
   ·simp
   ·simp; omega
 have := this es
 lia
end
noncomputable def initStmt (nm : Str) (q : Pos × Pos × Pos × Pos) : Stmt := .Assign [.Attribute (.Name "self" q.1) nm q.2.1] (.Name nm q.2.2.1) q.2.2.2
noncomputable def ordEs (hs : List Int) (tks : List Tok) (vs : List Value) : List DictEntry :=
 [⟨hs.getD 0 0, .str "code" (tks.getD 0 0), vs.getD 0 .none⟩, ⟨hs.getD 1 0, .str "dst" (tks.getD 1 0), vs.getD 1 .none⟩, ⟨hs.getD 2 0, .str "src" (tks.getD 2 0), vs.getD 2 .none⟩,
 ⟨hs.getD 3 0, .str "off" (tks.getD 3 0), vs.getD 3 .none⟩, ⟨hs.getD 4 0, .str "imm" (tks.getD 4 0), vs.getD 4 .none⟩, ⟨hs.getD 5 0, .str "more" (tks.getD 5 0), vs.getD 5 .none⟩]
structure InitAt (S : Sta) (f : Addr) (fd : FuncData) : Prop where
 obj : ∃ o, S.B.get? f = some o ∧ o.data = .func fd
 body : ∃ q1 q2 q3 q4 q5 q6, fd.body = .stmts [initStmt "code" q1, initStmt "dst" q2, initStmt "src" q3, initStmt "off" q4, initStmt "imm" q5, initStmt "more" q6]
 clo : fd.closure = []
 co : fd.scope.isCoroutine = false
 gen : fd.scope.isGenerator = false
 kind : fd.scope.kind = .function
 cells : noCell fd.scope.names = true
 code : S.B.CodeRec fd.code fd.qualname
 loc : ∀ x ∈ [("self" : Str), "code", "dst", "src", "off", "imm", "more"], fd.scope.names.lookup x = some .local
section
variable {prog : Program} {w : World} {S : Sta} {A : Around} {E : Value → Shared → Prop} {s : Shared} {env : Env} {L x dx f : Addr} {fd : FuncData} {stk : List Env} {K : Kn}
theorem order_init (H : StaOk S) (OC : OrdCls S) (IA : InitAt S f fd) (st : S.B.StaysIn s.heap) (hx : s.heap.get? x = some (instObj S.cO dx)) (hdx : s.heap.get? dx = some (dictOf [] 0)) (hne : x ≠ dx) (bx : S.B.get? x = none) (bd : S.B.get? dx = none) (hroom : A.depth < recursionLimit)
  {v1 v2 v3 v4 v5 v6 : Value} {vs : List Value} (bt : BindsTo s fd ⟨.ref x :: vs, []⟩ [("self", .ref x), ("code", v1), ("dst", v2), ("src", v3), ("off", v4), ("imm", v5), ("more", v6)]) {R : Result → Shared → Prop}
  (h : ∀ h' tk hs tks n, (∀ b o, b ≠ x → b ≠ dx → s.heap.get? b = some o → h'.get? b = some o) → h'.get? x = some (instObj S.cO dx) → h'.get? dx = some (dictOf (ordEs hs tks [v1, v2, v3, v4, v5, v6]) n) → R (.ok (.ret .none)) { s with heap := h', toks := tk }) :
  codeAny (model prog w) A (.call (.ref f) ⟨.ref x :: vs, []⟩) R s := by
 obtain ⟨o, ho, hd⟩ := IA.obj
 obtain ⟨q1, q2, q3, q4, q5, q6, hb⟩ := IA.body
 refine codeAny_call_function hroom (st _ _ ho) hd IA.co IA.gen hb (IA.code.keeps st) (bt _ _ _ _ ?_)
 rw [IA.clo]
 refine wpAny_newFunctionEnv (noCell_mem IA.cells) (fun y hy => ?_) (fun h1 hns hsb => ?_) IA.kind
 ·have hm : y.1 ∈ ([("self", .ref x), ("code", v1), ("dst", v2), ("src", v3), ("off", v4), ("imm", v5), ("more", v6)] : List (Str × Value)).map (·.1) := List.mem_map.mpr ⟨y, hy, rfl⟩
  exact IA.loc y.1 hm
 ·have keep : ∀ b o, s.heap.get? b = some o → h1.get? b = some o := fun b o e => hsb.extBut b o (Nat.ne_of_lt (Heap.lt_size e)) (Heap.get?_push_of_some _ e)
  have F : Fr (hideAll s.heap [x, dx]) s.heap.objs.size h1 (fun y => ([("self", .ref x), ("code", v1), ("dst", v2), ("src", v3), ("off", v4), ("imm", v5), ("more", v6)] : List (Str × Value)).reverse.lookup y) :=
   ⟨hns, fun b o e => keep b o (of_hideAll _ e), Nat.le_of_eq (hideAll_size _ _)⟩
  have N : News (hideAll s.heap [x, dx]) s.heap.objs.size h1 [(x, instObj S.cO dx), (dx, dictOf [] 0)] := fun p hp => by
   rcases List.mem_cons.mp hp with rfl | hp
   ·exact ⟨keep _ _ hx, Nat.ne_of_lt (Heap.lt_size hx), hideAll_none _ (.head _)⟩
   ·rw [List.mem_singleton.mp hp]
    exact ⟨keep _ _ hdx, Nat.ne_of_lt (Heap.lt_size hdx), hideAll_none _ (.tail _ (.head _))⟩
  have X₀ : S.K.In (hideAll s.heap [x, dx]) := fun a o e => hideAll_get _ (st _ _ (H.kin a o e)) fun q => by
   have hb := H.kin a o e
   rcases List.mem_cons.mp q with rfl | q
   ·rw [bx] at hb; exact no_ns hb
   ·rw [List.mem_singleton.mp q, bd] at hb; exact no_ns hb
  refine ⟨H.nolim.keeps fun b o e => keep b o (st b o e), codeAny_func ?_⟩
  have kd : ∀ y ∈ [("self" : Str), "code", "dst", "src", "off", "imm", "more"], (newEnv fd.scope s.heap.objs.size fd.globals [] (fd.qualname ++ ".<locals>.") (some f) fd.code none fd.builtins).kindOf y = some .local := fun y hy => IA.loc y hy
  refine wpAny_execs_cons (field_stmt (s := ⟨h1, _, _, _, _⟩) (nm := "code") (v := v1) OC F X₀ N hne OC.code IA.kind rfl (kd _ (by simp)) (kd _ (by simp)) (by rfl) (by rfl) (by decide) (by rfl) (by exact (by decide : (0 : Nat) < 900)) fun h2 i1 t1 F N => ?_)
  refine wpAny_execs_cons (field_stmt (s := ⟨h2, _, _, _, _⟩) (nm := "dst") (v := v2) OC F X₀ N hne OC.dst IA.kind rfl (kd _ (by simp)) (kd _ (by simp)) (by rfl) (by rfl) (by decide) (by rfl) (by exact (by decide : (1 : Nat) < 900)) fun h3 i2 t2 F N => ?_)
  refine wpAny_execs_cons (field_stmt (s := ⟨h3, _, _, _, _⟩) (nm := "src") (v := v3) OC F X₀ N hne OC.src IA.kind rfl (kd _ (by simp)) (kd _ (by simp)) (by rfl) (by rfl) (by decide) (by rfl) (by exact (by decide : (2 : Nat) < 900)) fun h4 i3 t3 F N => ?_)
  refine wpAny_execs_cons (field_stmt (s := ⟨h4, _, _, _, _⟩) (nm := "off") (v := v4) OC F X₀ N hne OC.off IA.kind rfl (kd _ (by simp)) (kd _ (by simp)) (by rfl) (by rfl) (by decide) (by rfl) (by exact (by decide : (3 : Nat) < 900)) fun h5 i4 t4 F N => ?_)
  refine wpAny_execs_cons (field_stmt (s := ⟨h5, _, _, _, _⟩) (nm := "imm") (v := v5) OC F X₀ N hne OC.imm IA.kind rfl (kd _ (by simp)) (kd _ (by simp)) (by rfl) (by rfl) (by decide) (by rfl) (by exact (by decide : (4 : Nat) < 900)) fun h6 i5 t5 F N => ?_)
  refine wpAny_execs_cons (field_stmt (s := ⟨h6, _, _, _, _⟩) (nm := "more") (v := v6) OC F X₀ N hne OC.more IA.kind rfl (kd _ (by simp)) (kd _ (by simp)) (by rfl) (by rfl) (by decide) (by rfl) (by exact (by decide : (5 : Nat) < 900)) fun h7 i6 t6 F N => ?_)
  refine wpAny_execs_nil ?_
  refine h h7 _ [i1, i2, i3, i4, i5, i6] [t1, t2, t3, t4, t5, t6] 6 (fun b o n1 n2 e => F.keep b o (hideAll_get _ e fun q => ?_)) (N _ (.head _)).1 (N _ (.tail _ (.head _))).1
  rcases List.mem_cons.mp q with q | q
  ·exact n1 q
  ·exact n2 (List.mem_singleton.mp q)
end
structure OrdMake (prog : Program) (w : World) (S : Sta) (fI : Addr) : Prop where
 makes : makesIn S.K S.cO = true
 init : findIn S.K (.ref S.cO) "__init__" = some (some (.ref fI))
 fn : typeIn S.K (.ref fI) = some (.type "function")
noncomputable def ordF : List D → Tr D
 | [.int c, .int d, .int s, .int o, .int i] => .ok (.ord c d s o i 0)
 | [.int c, .int d, .int s, .int o, .int i, .int m] => .ok (.ord c d s o i m)
 | _ => .bad
structure InitBind (S : Sta) (fd : FuncData) : Prop where
 six : ∀ (s : Shared) (x : Value) (v1 v2 v3 v4 v5 v6 : Value), S.B.StaysIn s.heap → BindsTo s fd ⟨[x, v1, v2, v3, v4, v5, v6], []⟩ [("self", x), ("code", v1), ("dst", v2), ("src", v3), ("off", v4), ("imm", v5), ("more", v6)]
 five : ∃ t, ∀ (s : Shared) (x : Value) (v1 v2 v3 v4 v5 : Value), S.B.StaysIn s.heap → BindsTo s fd ⟨[x, v1, v2, v3, v4, v5], []⟩ [("self", x), ("code", v1), ("dst", v2), ("src", v3), ("off", v4), ("imm", v5), ("more", .int 0 t)]
section
variable {prog : Program} {w : World} {S : Sta} {A : Around} {E : Value → Shared → Prop} {s : Shared} {env : Env} {fI : Addr} {fd : FuncData} {stk : List Env} {K : Kn} {k : Nat}
theorem ordEs_is (hs : List Int) (tks : List Tok) {c d s o i m : Int} {t1 t2 t3 t4 t5 t6 : Tok} : OrdEs (ordEs hs tks [.int c t1, .int d t2, .int s t3, .int o t4, .int i t5, .int m t6]) c d s o i m :=
 ⟨⟨t1, by rfl⟩, ⟨t2, by rfl⟩, ⟨t3, by rfl⟩, ⟨t4, by rfl⟩, ⟨t5, by rfl⟩, ⟨t6, by rfl⟩, by rfl⟩
theorem order_make (H : StaOk S) (OC : OrdCls S) (OM : OrdMake prog w S fI) (IA : InitAt S fI fd) (ar : Ar A stk (k + 1)) (TS : St S stk K s) {vs : List Value} {c d s' o i m : Int} {t1 t2 t3 t4 t5 t6 : Tok}
  (bt : ∀ (s₁ : Shared) (x : Value), S.B.StaysIn s₁.heap → BindsTo s₁ fd ⟨x :: vs, []⟩ [("self", x), ("code", .int c t1), ("dst", .int d t2), ("src", .int s' t3), ("off", .int o t4), ("imm", .int i t5), ("more", .int m t6)]) {Q : Value → Shared → Prop}
  (g : Good S stk s K (.ord c d s' o i m) Q) : wpAny (model prog w) A (call (.ref S.cO) vs []) Q E s := by
 refine wpAny_call ?_
 obtain ⟨hh, gg, dd, tt, oo⟩ := s
 have X : S.K.In hh := St.KIn H TS
 refine make_core (makes_of X OM.makes) (looks_findIn X OM.init) (fun self => bind_fn X self OM.fn) (.inl rfl) ?_
 have k2 : ∀ b o, hh.get? b = some o → ((hh.push emptyDict).push (instObj S.cO hh.objs.size)).get? b = some o := fun b o e => Heap.get?_push_of_some _ (Heap.get?_push_of_some _ e)
 have z1 : (hh.push emptyDict).objs.size = hh.objs.size + 1 := Heap.size_push ..
 have gx : ((hh.push emptyDict).push (instObj S.cO hh.objs.size)).get? (hh.objs.size + 1) = some (instObj S.cO hh.objs.size) := by rw [← z1]; exact Heap.get?_push_size _ rfl
 have gd : ((hh.push emptyDict).push (instObj S.cO hh.objs.size)).get? hh.objs.size = some (dictOf [] 0) := Heap.get?_push_of_some _ (Heap.get?_push_size _ rfl)
 have nx : hh.get? (hh.objs.size + 1) = none := Heap.get?_none_of_le (Nat.le_succ _)
 have nd : hh.get? hh.objs.size = none := new_none _
 have noB : ∀ {b : Addr}, hh.get? b = none → S.B.get? b = none := fun {b} e => by
  cases q : S.B.get? b with
  | none => rfl
  | some o => have := TS.stays b o q; rw [e] at this; exact no_ns this
 have st2 : S.B.StaysIn ((hh.push emptyDict).push (instObj S.cO hh.objs.size)) := fun b o e => k2 b o (TS.stays b o e)
 refine order_init (s := ⟨(hh.push emptyDict).push (instObj S.cO hh.objs.size), gg, dd, tt, oo⟩) H OC IA st2 gx gd (Nat.succ_ne_self _) (noB nx) (noB nd) ?_ (bt _ _ st2) fun h' tk hs tks n keep hx hdx => ?_
 ·have := ar.depth
  show A.depth + Code.weight _ < 1000
  have hw : Code.weight (.builtin "type.__call__" ⟨.ref S.cO :: vs, []⟩) ≤ 1 := by
   first
    | exact Nat.le_refl 1
    | exact Nat.zero_le 1
    | (unfold Code.weight; with_unfolding_all exact Nat.le_refl 1)
  lia
 ·have k3 : ∀ b o, hh.get? b = some o → h'.get? b = some o := fun b o e => keep b o (fun q => by rw [q, nx] at e; exact no_ns e) (fun q => by rw [q, nd] at e; exact no_ns e) (k2 b o e)
  show Value.none = Value.none ∧ Q (.ref (hh.objs.size + 1)) _
  refine ⟨rfl, ?_⟩
  have T₁ := TS.put H k3 nd hdx tk
  have T₂ : St S stk ((K.put hh.objs.size (dictOf (ordEs hs tks [.int c t1, .int d t2, .int s' t3, .int o t4, .int i t5, .int m t6]) n)).put (hh.objs.size + 1) (instObj S.cO hh.objs.size)) ⟨h', gg, dd, tk, oo⟩ := T₁.more fun b ob q => by
   rcases Kn.put_inv q with q | ⟨rfl, rfl⟩
   ·exact .inl q
   ·exact .inr ⟨hx, Fix.new TS nx⟩
  have kn1 : K hh.objs.size = none := TS.kNone nd
  have kn2 : (K.put hh.objs.size (dictOf (ordEs hs tks [.int c t1, .int d t2, .int s' t3, .int o t4, .int i t5, .int m t6]) n)) (hh.objs.size + 1) = none := by
   unfold Kn.put
   rw [if_neg (Nat.succ_ne_self _)]
   exact TS.kNone nx
  refine g _ _ _ T₂ (ExtP.keeps k3) ⟨fun b ob e => Kn.put_old kn2 _ _ (Kn.put_old kn1 _ _ e), fun b ob e => ?_⟩ (.ord (Kn.put_self _ _ _) (Kn.put_old kn2 _ _ (Kn.put_self _ _ _)) (ordEs_is hs tks))
  rcases Kn.put_inv e with e | ⟨rfl, _⟩
  ·rcases Kn.put_inv e with e | ⟨rfl, _⟩
   ·exact .inl e
   ·exact .inr nd
  ·exact .inr nx
theorem rep_int {v : Value} {i : Int} (r : Rep S K v (.int i)) : ∃ t, v = .int i t := by cases r; exact ⟨_, rfl⟩
theorem ordF_inv {P : D → Prop} {E : Str → D → Prop} {ds : List D} (h : (ordF ds).sat P E) : (∃ c d s o i, ds = [.int c, .int d, .int s, .int o, .int i]) ∨ ∃ c d s o i m, ds = [.int c, .int d, .int s, .int o, .int i, .int m] := by
 induction ds using List.casesOn with
 | nil => exact h.elim
 | cons a ds =>
 induction a using D.casesOn with
 | int c =>
  induction ds using List.casesOn with
  | nil => exact h.elim
  | cons a ds =>
  induction a using D.casesOn with
  | int d =>
   induction ds using List.casesOn with
   | nil => exact h.elim
   | cons a ds =>
   induction a using D.casesOn with
   | int s =>
    induction ds using List.casesOn with
    | nil => exact h.elim
    | cons a ds =>
    induction a using D.casesOn with
    | int o =>
     induction ds using List.casesOn with
     | nil => exact h.elim
     | cons a ds =>
     induction a using D.casesOn with
     | int i =>
      induction ds using List.casesOn with
      | nil => exact .inl ⟨c, d, s, o, i, rfl⟩
      | cons a ds =>
      induction a using D.casesOn with
      | int m =>
       induction ds using List.casesOn with
       | nil => exact .inr ⟨c, d, s, o, i, m, rfl⟩
       | cons a ds => exact h.elim
      | _ => exact h.elim
     | _ => exact h.elim
    | _ => exact h.elim
   | _ => exact h.elim
  | _ => exact h.elim
 | _ => exact h.elim
theorem ord_spec (H : StaOk S) (OC : OrdCls S) (OM : OrdMake prog w S fI) (IA : InitAt S fI fd) (IB : InitBind S fd) : FnSpec prog w S (k + 1) (.ref S.cO) ordF := by
 intro A stk K s vs ds Q E ar TS rs h
 rcases ordF_inv h with ⟨c, d, s', o, i, rfl⟩ | ⟨c, d, s', o, i, m, rfl⟩
 ·obtain ⟨_, _, rfl, r1, rs⟩ := rs.cons_v
  obtain ⟨_, _, rfl, r2, rs⟩ := rs.cons_v
  obtain ⟨_, _, rfl, r3, rs⟩ := rs.cons_v
  obtain ⟨_, _, rfl, r4, r5⟩ := rs.two_v
  obtain ⟨t1, rfl⟩ := rep_int r1
  obtain ⟨t2, rfl⟩ := rep_int r2
  obtain ⟨t3, rfl⟩ := rep_int r3
  obtain ⟨t4, rfl⟩ := rep_int r4
  obtain ⟨t5, rfl⟩ := rep_int r5
  obtain ⟨t6, h6⟩ := IB.five
  exact order_make (t6 := t6) H OC OM IA ar TS (fun s₁ x st => h6 s₁ x _ _ _ _ _ st) h
 ·obtain ⟨_, _, rfl, r1, rs⟩ := rs.cons_v
  obtain ⟨_, _, rfl, r2, rs⟩ := rs.cons_v
  obtain ⟨_, _, rfl, r3, rs⟩ := rs.cons_v
  obtain ⟨_, _, rfl, r4, rs⟩ := rs.cons_v
  obtain ⟨_, _, rfl, r5, r6⟩ := rs.two_v
  obtain ⟨t1, rfl⟩ := rep_int r1
  obtain ⟨t2, rfl⟩ := rep_int r2
  obtain ⟨t3, rfl⟩ := rep_int r3
  obtain ⟨t4, rfl⟩ := rep_int r4
  obtain ⟨t5, rfl⟩ := rep_int r5
  obtain ⟨t6, rfl⟩ := rep_int r6
  exact order_make H OC OM IA ar TS (fun s₁ x st => IB.six s₁ x _ _ _ _ _ _ st) h
end
end
section
open PySem PySem.W PySem.Calls
open Sem (wp)
section
variable {prog : Program} {w : World} {A : Around} {R : Result → Shared → Prop} {h : Heap} {g : Array GenState} {d : Drawn} {t : Nat} {os : OsState}
variable {nm q : Str} {C N : Addr} {bs bm : List Value} {hdct : Bool} {sn : List Str} {sub : List Value} {ab : Bool} {col : Option Bool} {dd : Option Addr} {k0 k1 k2 k3 k5 : Option Value} {B newId initId : String} {bmB : List Value}
theorem exc_new (F : ExcBaseFacts B newId initId bmB) (hcB : (Value.ref C :: bm).contains (.type B) = true) (hcA : (Value.ref C :: bm).contains (.type "AttributeError") = false) (hcN : (Value.ref C :: bm).contains (.type "NameError") = false)
  {rest : List Value} (hC : h.get? C = some (excClassObj nm q C N bs bm hdct sn sub ab col dd k0 k1 k2 k3 k5 newId))
  (hq : R (.ok (.ret (.ref (h.objs.size + 1)))) ⟨(h.push { cls := .type "tuple", data := .seq rest.toArray }).push
   { cls := .ref C, data := .fields #[.ref h.objs.size, .none, .none, .none, .bool false, .none] }, g, d, t, os⟩) (hrest : rest.length ≤ sizeLine) :
  codeAny (model prog w) A (.builtin newId ⟨.ref C :: rest, []⟩) R ⟨h, g, d, t, os⟩ := by
 have hends := F.ends
 refine codeAny_builtinAt F.entry ?_
 unfold Builtin.«BaseException.__new__»
 refine wpAt_bind ?_
 show wpAt _ _ _ (stack >>= _) _ _ _
 refine wpAt_bind (wpAt_stack fun p below => wpAt_of_wpAny ?_)
 wp_walk
 refine wpAt_of_wpAny ?_
 rw [F.owner]
 repeat (first | with_reducible refine wpAny_madeHere_exc F.canon hC ?_ | with_reducible refine wpAny_loadPart_at hC ?_ | (with_reducible refine wpAny_isSubtype_exc hC ?_; first | rw [hcB] | rw [hcA] | rw [hcN]) | wp_step)
 show R _ _
 rw [Heap.size_push]
 exact hq
theorem exc_check {M : Model} {E : Value → Shared → Prop} (F : ExcBaseFacts B newId initId bmB) (hcB : (Value.ref C :: bm).contains (.type B) = true) {rest : List Value} {Q : Unit → Shared → Prop} (hC : h.get? C = some (excClassObj nm q C N bs bm hdct sn sub ab col dd k0 k1 k2 k3 k5 newId))
  (hq : Q () ⟨h, g, d, t, os⟩) : wpAny M A (checkBuiltinCall newId ⟨.ref C :: rest, []⟩) Q E ⟨h, g, d, t, os⟩ := by
 have hstar := F.noStar
 unfold checkBuiltinCall
 rw [F.newKind, F.newSplit]
 dsimp only
 repeat (first | refine wpAny_loadPart_at hC ?_ | (refine wpAny_isSubtype_exc hC ?_; rw [hcB]) | refine wpAny_staticBase_exc hC ?_ | refine wpAny_madeBy_exc hC ?_ | simp only [bne_self_eq_false, Bool.false_eq_true, if_false] | wp_step)
 rw [F.newRow]
 dsimp only
 unfold Bind.checkArgs Bind.printed
 dsimp only
 rw [if_pos hstar]
 repeat (first | wp_step)
 exact hq
end
end
section
open PySem PySem.W PySem.Calls PyProof.Rows
section
variable {prog : Program} {w : World} {A : Around} {R : Result → Shared → Prop} {h : Heap} {g : Array GenState} {d : Drawn} {t : Nat} {os : OsState}
variable {nm q : Str} {C N : Addr} {bs bm : List Value} {hdct : Bool} {sn : List Str} {sub : List Value} {ab : Bool} {col : Option Bool} {dd : Option Addr} {k0 k1 k2 k3 k5 : Option Value} {B newId initId : String} {bmB : List Value}
noncomputable abbrev excObj (C a : Addr) : Obj := { cls := .ref C, data := .fields #[.ref a, .none, .none, .none, .bool false, .none] }
noncomputable abbrev tupObj (rest : List Value) : Obj := { cls := .type "tuple", data := .seq rest.toArray }
theorem exc_make (F : ExcBaseFacts B newId initId bmB) (hcB : (Value.ref C :: bm).contains (.type B) = true) (hcA : (Value.ref C :: bm).contains (.type "AttributeError") = false) (hcN : (Value.ref C :: bm).contains (.type "NameError") = false)
  {rest : List Value} {init : Value} (hC : h.get? C = some (excClassObj nm q C N bs bm hdct sn sub ab col dd k0 k1 k2 k3 k5 newId)) (hrest : rest.length ≤ sizeLine)
  (call : Looks (model prog w) h (specialOf (.ref C) "__call__") (some (.builtin "type.__call__"))) (typ : Looks (model prog w) h (isInstance (.ref C) (.type "type")) true) (self : Looks (model prog w) h (isSubtype (.ref C) (.ref C)) true)
  (hi : Looks (model prog w) h (typeLookup (.ref C) "__init__") (some init)) (hb : ∀ x, Looks (model prog w) h (bindSpecial init x) (init, [x]))
  (hq : codeAny (model prog w) (A.under (.builtin "type.__call__" ⟨.ref C :: rest, []⟩)) (.call init ⟨.ref (h.objs.size + 1) :: rest, []⟩) (InitBack (h.objs.size + 1) R) ⟨(h.push (tupObj rest)).push (excObj C h.objs.size), g, d, t, os⟩) :
  codeAny (model prog w) A (.call (.ref C) ⟨rest, []⟩) R ⟨h, g, d, t, os⟩ := by
 refine codeAny_of_tree ?_
 show wpAny _ _ (callAny (.ref C) _) _ _ _
 refine nd_load hC ?_
 show wpAny _ _ (callAny.viaDunder (.ref C) _) _ _ _
 unfold callAny.viaDunder
 refine wpAny_bind (call.at ?_)
 dsimp only
 rw [tc_bind]
 refine wpAny_bind (wpAny_pure (wpAny_bind (wpAny_pure ?_)))
 refine wpAny_pure (a := Fin.again (.call (.builtin "type.__call__") ⟨.ref C :: rest, []⟩)) (And.intro rfl ?_)
 refine codeAny_call_builtin_at (Code.quiet_builtin _ (by decide +kernel)) entry_typeCall (check_slot tc_kind tc_split typ (tc_args _ _ _) ?_)
 unfold Builtin.«type.__call__»
 repeat (first | with_reducible refine wpAny_loadPart_at hC ?_ | with_reducible refine wpAny_madeBy_exc hC ?_ | wp_step)
 refine codeAny_call_builtin_code (Code.quiet_builtin _ F.quiet) (exc_check F hcB hC ?_)
 refine exc_new F hcB hcA hcN hC ?_ hrest
 have k : ∀ b o, h.get? b = some o → ((h.push (tupObj rest)).push (excObj C h.objs.size)).get? b = some o := fun b o e => Heap.get?_push_of_some _ (Heap.get?_push_of_some _ e)
 have hx : ((h.push (tupObj rest)).push (excObj C h.objs.size)).get? (h.objs.size + 1) = some (excObj C h.objs.size) := by heap_get
 have t1 : Looks (model prog w) ((h.push (tupObj rest)).push (excObj C h.objs.size)) (typeOf (.ref (h.objs.size + 1))) (.ref C) := (Looks.ld hx).andThen .now
 have s1 := self.keeps k
 have i1 := hi.keeps k
 have b1 := (hb (.ref (h.objs.size + 1))).keeps k
 show wpAny _ _ _ _ _ _
 unfold isInstance callSpecial? specialOf
 repeat (first | with_reducible refine wpAny_call ?_ | lk)
 refine codeAny_mono hq fun r s' z => ?_
 rcases r with e | (v | _ | _ | _) <;> first | exact z | exact z.elim | skip
 obtain ⟨rfl, z⟩ := z
 exact wpAny_pure (wpAny_pure z)
end
section
variable {prog : Program} {w : World} {A : Around} {E : Value → Shared → Prop} {s : Shared} {K : Frag}
theorem exc_getm {pl : Sem Bool} {Q : Value × List Value → Shared → Prop} (X : K.In s.heap) (e : findCls K (.type "Exception") (.type "type") "__init__" = some (.val (.builtin "Exception.__init__")))
  (h : Q (.builtin "Exception.__init__", []) { s with toks := s.toks + 1 }) : wpAny (model prog w) A (getMethod (.type "Exception") "__init__" pl) Q E s := by
 have hstub : opaqueClassAbove (.type "Exception") = pure none := by unfold opaqueClassAbove; dsimp only; rw [show Manifest.isStub "Exception" = false by decide +kernel]; rfl
 have ht : typeOf (.type "Exception") = pure (.type "type") := by first | rfl | kernel_rfl
 have L0 : Looks (model prog w) s.heap (typeOf (.type "Exception")) (.type "type") := Looks.of_pure ht
 have hg : findIn K (.type "type") "__getattribute__" = some (some (.builtin "type.__getattribute__")) := type_tga
 unfold getMethod specialOf
 refine wpAny_bind (wpAny_bind (L0.here ((looks_findIn X hg).here ?_)))
 dsimp only
 rw [if_pos canon_tga]
 refine wpAny_bind (wpAny_mono (Q := fun v => Q (v, [])) (E := E) ?_ (fun J J z => wpAny_pure z) fun J J z => z)
 have LO : Looks (model prog w) s.heap (opaqueClassAbove (.type "Exception")) none := Looks.of_pure hstub
 refine cls_open X LO L0 hg (looks_hook X (r := none) (by rfl)) (by show subIn K _ _ = _; rfl) e ?_
 exact wpAny_pure (by show wpAny _ _ (handedOut _) _ _ _; rw [handedOut_of (by decide +kernel)]; exact wpAny_pure h)
end
section
variable {prog : Program} {w : World} {A : Around} {E : Value → Shared → Prop} {s : Shared} {K : Frag}
variable {nm q : Str} {C N : Addr} {bs bm : List Value} {hdct : Bool} {sn : List Str} {sub : List Value} {ab : Bool} {col : Option Bool} {dd : Option Addr} {k0 k1 k2 k3 k5 : Option Value} {B newId initId : String} {bmB : List Value}
theorem exc_init_check (F : ExcBaseFacts B newId initId bmB) {newId' : String} (hcB : (Value.ref C :: bm).contains (.type B) = true) {M : Model} {e : Addr} {oe : Obj} {rest : List Value} {Q : Unit → Shared → Prop}
  (hC : s.heap.get? C = some (excClassObj nm q C N bs bm hdct sn sub ab col dd k0 k1 k2 k3 k5 newId')) (he : s.heap.get? e = some oe) (hcls : oe.cls = .ref C) (hq : Q () s) :
  wpAny M A (checkBuiltinCall initId ⟨.ref e :: rest, []⟩) Q E s := by
 obtain ⟨h, g, d, t, os⟩ := s
 have hshort := F.noStar
 simp only [checkBuiltinCall, F.initKind, F.initSplit, F.initRow]
 repeat (first | (with_reducible refine wpAny_loadPart_at he ?_; rw [hcls]) | with_reducible refine wpAny_loadPart_at hC ?_ | (with_reducible refine wpAny_isSubtype_exc hC ?_; rw [hcB]) | wp_step)
 refine wpAny_onRaise ?_
 rw [show ∀ (a b : String) (n : Nat), Bind.check ⟨.positional, "*", B, .self, [⟨"args", .varPos, false⟩]⟩ a b n (List.map (fun x => x.fst) ({ pos := Value.ref e :: rest } : Args).kw) = pure () from
  fun a b n => check_star_args _ _ _ _ _ _]
 exact wpAny_pure hq
theorem exc_init (F : ExcBaseFacts B newId initId bmB) {newId' : String} (hcB : (Value.ref C :: bm).contains (.type B) = true) {e t0 : Addr} {ob : Obj} {vs : Array Value} {rest : List Value} {Q : Value → Shared → Prop}
  (hC : s.heap.get? C = some (excClassObj nm q C N bs bm hdct sn sub ab col dd k0 k1 k2 k3 k5 newId')) (he : s.heap.get? e = some ob) (hcls : ob.cls = .ref C) (hd : ob.data = .fields vs) (h0 : vs[0]? = some (.ref t0)) (hrest : rest.length ≤ sizeLine)
  (h : Q .none { s with heap := (s.heap.push (tupObj rest)).update e (Obj.mapFields (·.setIfInBounds 0 (.ref s.heap.objs.size))) }) :
  wpAny (model prog w) A (call (.builtin initId) (.ref e :: rest)) Q E s := by
 refine wpAny_call (codeAny_call_builtin F.init.plain F.initEntry (exc_init_check F hcB hC he hcls ?_))
 unfold Builtin.«BaseException.__init__»
 dsimp only
 rw [if_neg (by simp)]
 unfold newTuple Builtin.BaseException.bexcPut
 have hsz : 0 < vs.size := (Array.getElem?_eq_some_iff.mp h0).1
 have he₁ := Heap.get?_push_of_some (h := s.heap) (tupObj rest) he
 refine wpAny_bind (wpAny_newObj_type (wpAny_bind (wpAny_bind (wpAny_field he₁ hd h0 (wpAny_bind (wpAny_setField he₁ hd hsz ?_))))) (by show rest.toArray.size ≤ sizeLine; rw [List.size_toArray]; exact hrest))
 exact wpAny_letGo (wpAny_pure h)
noncomputable def onlyExc : List Value → Bool
 | .ref _ :: r => onlyExc r
 | l => l == [.type "Exception", .type "BaseException", .type "object"]
noncomputable def excOver (K : Frag) (C : Addr) : Bool := (clsIn K C).any fun cd => onlyExc cd.mro
theorem onlyExc_cases {l : List Value} (h : onlyExc l = true) : (∃ c r, l = .ref c :: r ∧ onlyExc r = true) ∨ l = [.type "Exception", .type "BaseException", .type "object"] := by
 induction l using List.casesOn with
 | nil => exact .inr (beq_iff_eq.mp h)
 | cons v r =>
  induction v using Value.casesOn with
  | ref c => exact .inl ⟨c, r, rfl, h⟩
  | _ => exact .inr (beq_iff_eq.mp h)
theorem refuse_exc (self : Value) : ∀ {l : List Value}, onlyExc l = true → refuseLoop self "__setattr__" l = pure ()
 | l, e => by
  rcases onlyExc_cases e with ⟨c, r, rfl, e'⟩ | rfl
  ·rw [refuseLoop_ref]; exact refuse_exc self e'
  ·exact PySem.F.store_Exception.passes self
theorem exc_has : ∀ {l : List Value}, onlyExc l = true → l.contains (.type "object") = true ∧ l.isEmpty = false
 | l, e => by
  rcases onlyExc_cases e with ⟨c, r, rfl, e'⟩ | rfl
  ·exact ⟨by rw [List.contains_cons, (exc_has e').1, Bool.or_true], rfl⟩
  ·exact ⟨by simp, rfl⟩
theorem store_open {x C : Addr} {ox : Obj} {od : Option Obj} {name : Str} {tk : Tok} {v : Value} {R : Result → Shared → Prop} (X : K.In s.heap) (I : W.InstAt s.heap x ox C od) (hp : excOver K C = true) (ht : takerIn K C name = some none)
  (h : ∀ b, wpAny (model prog w) A.in1 (Builtin.ObjectAttr.storeInOwnDict (.ref x) (.ref C) (.str name tk) name v b)
   (fun fin s' => match fin with | .done f => R (.ok f) s' | .again c' => c'.quiet = true ∧ codeAny (model prog w) A c' R s') (fun e s' => R (.error e) s') s) :
  codeAny (model prog w) A (.call (.builtin "object.__setattr__") ⟨[.ref x, .str name tk, v], []⟩) R s := by
 have SF := PySem.F.store_object
 obtain ⟨cd, hc, ho⟩ := any_some hp
 obtain ⟨h1, ne⟩ := exc_has ho
 have sub : Looks (model prog w) s.heap (isInstance (.ref x) (.type "object")) true := I.type.andThen (looks_mroIn X (by unfold mroIn; rw [hc, Option.bind_some, if_neg (by rw [ne]; decide), h1]))
 refine codeAny_call_builtin SF.slot.plain SF.entry (@check_slot (model prog w) _ _ s "object.__setattr__" "object" "__setattr__" (.ref x) [.str name tk, v] [] _ SF.kind SF.split sub (SF.args (.ref x) (.str name tk) v) ?_)
 obtain ⟨attr, ha, hr⟩ := Option.bind_eq_some_iff.mp ht
 have hm : Looks (model prog w) s.heap (mroOf (.ref C)) cd.mro := (looks_clsIn X hc).andThen .now
 have L3 : Looks (model prog w) s.heap (Builtin.ObjectAttr.storeTaker? attr) none := by
  induction attr using Option.casesOn with
  | none => exact .now
  | some a =>
   obtain ⟨b, hb, e⟩ := Option.map_eq_some_iff.mp hr
   induction b using Bool.casesOn with
   | true => exact no_sn e
   | false => exact (looks_takesIn X hb).andThen .now
 rw [osa_eq, refuse_eq]
 refine wpAny_bind (wpAny_bind (I.type.here (wpAny_bind (hm.here ?_))))
 rw [refuse_exc _ ho]
 exact wpAny_pure (wpAny_bind (I.type.here (wpAny_bind ((looks_findIn X ha).here (wpAny_bind (L3.here (h _)))))))
theorem first_store {x C L : Addr} {ox : Obj} {vs : Array Value} {h₀ : Heap} {m : Str → Option Value} {name : Str} {v : Value} {Q : Unit → Shared → Prop} (F : Fr h₀ L s.heap m) (X₀ : K.In h₀) (Nw : News h₀ L s.heap [(x, ox)]) (hc : ox.cls = .ref C) (hd : ox.dict = none) (hv : ox.data = .fields vs)
  (hs : findIn K (.ref C) "__setattr__" = some (some (.builtin "object.__setattr__"))) (hp : excOver K C = true) (ht : takerIn K C name = some none) (hh : hasDictIn K C = true)
  (h : ∀ h' hsh tk d, x ≠ d → s.heap.get? d = none → Fr h₀ L h' m → News h₀ L h' [(x, { ox with dict := some d }), (d, dictOf [⟨hsh, .str name tk, v⟩] 1)] → Q () { s with heap := h', toks := s.toks + 2 }) :
  wpAny (model prog w) A (setAttr (.ref x) name v) Q E s := by
 have X : K.In s.heap := X₀.keeps F.keep
 have hx := (Nw (x, ox) (.head _)).1
 obtain ⟨oc, odi, oda, osl⟩ := ox
 dsimp only at hc hd hv
 subst hc hd hv
 have I : InstAt s.heap x ⟨.ref C, none, .fields vs, osl⟩ C none := ⟨hx, rfl, rfl, trivial⟩
 refine set_plain X I hs (store_open (s := { s with toks := s.toks + 1 }) X I hp ht fun b => ?_)
 obtain ⟨cd, hcd, hd'⟩ := any_some hh
 refine wpAny_bind (wpAny_pure (wpAny_bind (wpAny_bind (wpAny_loadPart hx (wpAny_bind (looks_clsIn X hcd _ _ _ _ (fun J J e => e) ?_))))))
 rw [hd', if_neg (by decide)]
 refine wpAny_bind (wpAny_alloc (wpAny_bind ?_))
 have hx1 := Heap.get?_push_of_some (h := s.heap) emptyDict hx
 have ne : x ≠ s.heap.objs.size := Nat.ne_of_lt (Heap.lt_size hx)
 have gd : (s.heap.push emptyDict).get? s.heap.objs.size = some (dictOf [] 0) := Heap.get?_push_size _ rfl
 have neL : s.heap.objs.size ≠ L := fun q => by
  obtain ⟨oL, _, _, hL, _⟩ := F.ns
  rw [← q, new_none] at hL; exact no_ns hL
 have n0 : h₀.get? s.heap.objs.size = none := by
  cases q : h₀.get? s.heap.objs.size with
  | none => rfl
  | some o => have := F.keep _ _ q; rw [new_none] at this; exact no_ns this
 have F1 : Fr h₀ L (s.heap.push emptyDict) m := F.push _
 have N1 : News h₀ L (s.heap.push emptyDict) ([] ++ (x, (⟨.ref C, none, .fields vs, osl⟩ : Obj)) :: [(s.heap.objs.size, dictOf [] 0)]) := fun p hp => by
  rcases List.mem_cons.mp hp with rfl | hp
  ·exact ⟨hx1, (Nw _ (.head _)).2⟩
  ·rw [List.mem_singleton.mp hp]; exact ⟨gd, neL, n0⟩
 obtain ⟨F2, N2⟩ := news_upd (f := fun o => { o with dict := some s.heap.objs.size }) F1 N1 (fun p hp => nomatch hp) (fun p hp => by rw [List.mem_singleton.mp hp]; exact Ne.symm ne) rfl rfl
 refine wpAny_update hx1 (wpAny_pure (wpAny_bind ?_))
 dsimp only [List.nil_append] at N2
 have N2' : News h₀ L ((s.heap.push emptyDict).update x fun o => { o with dict := some s.heap.objs.size }) ([(x, (⟨.ref C, some s.heap.objs.size, .fields vs, osl⟩ : Obj))] ++ (s.heap.objs.size, dictOf [] 0) :: []) := N2
 obtain ⟨F3, N3⟩ := news_upd (f := Obj.putName name (PyData.keyHash w.params name) (.str name (s.toks + 1)) v) F2 N2' (fun p hp => by rw [List.mem_singleton.mp hp]; exact ne) (fun p hp => nomatch hp) (putName_dict ..) rfl
 have D := (N2' (s.heap.objs.size, dictOf [] 0) (by simp)).1
 have D' := (N3 (s.heap.objs.size, _) (.tail _ (.head _))).1
 refine wpAny_pure (wpAny_bind ?_)
 unfold nsSet
 refine wpAny_bind (wpAny_bind (wpAny_askSetting (wpAny_pure (wpAny_bind (wpAny_mkText (wpAny_bind (wpAny_loadPart D ?_)))))))
 dsimp only
 rw [aRefKeyMayBeTheName_at, show (!([] : List DictEntry).toArray.any (·.key.isStr name) && ([] : List DictEntry).toArray.any (·.refKey)) = false by simp]
 refine wpAny_updatePart D ?_
 refine wpAny_bind (wpAny_lookBehind D' (pastItsLine_dict (by rw [sizeLine_eq]; exact (by decide : (1 : Nat) ≤ 16777216 + 1))) ?_)
 exact wpAny_pure (h _ _ _ _ ne (new_none _) F3 N3)
theorem next_store {x C L d : Addr} {ox : Obj} {h₀ : Heap} {m : Str → Option Value} {name : Str} {v : Value} {es es' : List DictEntry} {n n' : Nat} {Q : Unit → Shared → Prop} (F : Fr h₀ L s.heap m) (X₀ : K.In h₀) (Nw : News h₀ L s.heap [(x, ox), (d, dictOf es n)]) (I : W.InstAt s.heap x ox C (some (dictOf es n))) (hne : x ≠ d) (hd : ox.dict = some d)
  (hs : findIn K (.ref C) "__setattr__" = some (some (.builtin "object.__setattr__"))) (hp : excOver K C = true) (ht : takerIn K C name = some none) (hh : hasDictIn K C = true) (hk : (es.toArray.any (·.refKey)) = false)
  (e : (putL name (PyData.keyHash w.params name) (.str name (s.toks + 1)) v es, putN name es n) = (es', n')) (hz : es'.length ≤ 1000)
  (h : ∀ h', Fr h₀ L h' m → News h₀ L h' [(x, ox), (d, dictOf es' n')] → Q () { s with heap := h', toks := s.toks + 2 }) :
  wpAny (model prog w) A (setAttr (.ref x) name v) Q E s := by
 have X : K.In s.heap := X₀.keeps F.keep
 obtain ⟨e1, e2⟩ := Prod.mk.inj e
 refine set_plain X I hs (store_open (s := { s with toks := s.toks + 1 }) X I hp ht fun b => ?_)
 refine abs1 fun G0 hG0 => ?_
 obtain ⟨cd, hc, hd'⟩ := any_some hh
 have Nw' : News h₀ L s.heap ([(x, ox)] ++ (d, dictOf es n) :: []) := Nw
 obtain ⟨U1, U2⟩ := news_upd (f := Obj.putName name (PyData.keyHash w.params name) (.str name (s.toks + 1)) v) (o' := dictOf es' n') F Nw' (fun p hp => by rw [List.mem_singleton.mp hp]; exact hne) (fun p hp => nomatch hp) (by rw [putName_dict, e1, e2]) rfl
 have D := (Nw (d, dictOf es n) (.tail _ (.head _))).1
 have D' := (U2 (d, dictOf es' n') (.tail _ (.head _))).1
 obtain ⟨hx, hcl, hn, -⟩ := I
 obtain ⟨oc, odi, oda, osl⟩ := ox
 refine hG0 ?_
 clear hG0 G0
 dsimp only at hcl hd
 subst hcl hd
 refine wpAny_bind (wpAny_pure (wpAny_bind (wpAny_bind (wpAny_loadPart hx (wpAny_bind (looks_clsIn X hc _ _ _ _ (fun J J e => e) ?_))))))
 rw [hd', if_neg (by decide)]
 refine wpAny_pure (a := some d) (wpAny_bind (wpAny_pure (wpAny_bind ?_)))
 unfold nsSet
 refine wpAny_bind (wpAny_bind (wpAny_askSetting (wpAny_pure (wpAny_bind (wpAny_mkText (wpAny_bind (wpAny_loadPart D ?_)))))))
 dsimp only
 rw [aRefKeyMayBeTheName_at, hk, Bool.and_false]
 refine wpAny_updatePart D ?_
 refine wpAny_bind (wpAny_lookBehind D' (pastItsLine_dict (by rw [List.size_toArray, sizeLine_eq]; lia)) ?_)
 exact wpAny_pure (h _ U1 U2)
end
structure ErrMake (S : Sta) (fI : Addr) : Prop where
 obj : ∃ nm q N bs bm hdct sn sub ab col dd k0 k1 k2 k3 k5, S.K.lookup S.cE = some (excClassObj nm q S.cE N bs bm hdct sn sub ab col dd k0 k1 k2 k3 k5 "Exception.__new__") ∧ (Value.ref S.cE :: bm).contains (.type "Exception") = true ∧ (Value.ref S.cE :: bm).contains (.type "AttributeError") = false ∧ (Value.ref S.cE :: bm).contains (.type "NameError") = false
 call : specialIn S.K (.ref S.cE) "__call__" = some (some (.builtin "type.__call__"))
 typ : instIn S.K (.ref S.cE) (.type "type") = some true
 self : mroIn S.K S.cE (.ref S.cE) = some true
 init : findIn S.K (.ref S.cE) "__init__" = some (some (.ref fI))
 fn : typeIn S.K (.ref fI) = some (.type "function")
 set : findIn S.K (.ref S.cE) "__setattr__" = some (some (.builtin "object.__setattr__"))
 over : excOver S.K S.cE = true
 dict : hasDictIn S.K S.cE = true
 what : takerIn S.K S.cE "what" = some none
 «at» : takerIn S.K S.cE "at" = some none
 exc : findCls S.K (.type "Exception") (.type "type") "__init__" = some (.val (.builtin "Exception.__init__"))
 glob : GlobIs S "Exception" (.type "Exception")
noncomputable def excStmt (p1 ap p2 p3 cp p4 : Pos) : Stmt := .Expr (.Call (.Attribute (.Name "Exception" p1) "__init__" ap) [.Name "self" p2, .Name "what" p3] [] cp) p4
structure ErrInitAt (S : Sta) (f : Addr) (fd : FuncData) : Prop where
 obj : ∃ o, S.B.get? f = some o ∧ o.data = .func fd
 body : ∃ p1 ap p2 p3 cp p4 q1 q2, fd.body = .stmts [excStmt p1 ap p2 p3 cp p4, initStmt "what" q1, initStmt "at" q2] ∧ (ap.endLine == cp.line) = true
 clo : fd.closure = []
 glob : fd.globals = mainGlobals
 blt : fd.builtins = builtinsNs
 co : fd.scope.isCoroutine = false
 gen : fd.scope.isGenerator = false
 kind : fd.scope.kind = .function
 cells : noCell fd.scope.names = true
 code : S.B.CodeRec fd.code fd.qualname
 loc : ∀ x ∈ [("self" : Str), "what", "at"], fd.scope.names.lookup x = some .local
 exc : fd.scope.names.lookup ("Exception" : Str) = some .globalImplicit
section
variable {prog : Program} {w : World} {S : Sta} {A : Around} {E : Value → Shared → Prop} {s : Shared} {env : Env} {L x e f t0 : Addr} {fd : FuncData} {stk : List Env} {K : Kn}
theorem err_init (H : StaOk S) (EM : ErrMake S f) (IA : ErrInitAt S f fd) (st : S.B.StaysIn s.heap) (he : s.heap.get? e = some (excObj S.cE t0)) (be : S.B.get? e = none) (hroom : A.depth < recursionLimit)
  {v1 v2 : Value} {vs : List Value} (bt : BindsTo s fd ⟨.ref e :: vs, []⟩ [("self", .ref e), ("what", v1), ("at", v2)]) {R : Result → Shared → Prop}
  (h : ∀ h' tk t1 d es n, (∀ b o, b ≠ e → s.heap.get? b = some o → h'.get? b = some o) → h'.get? e = some { excObj S.cE t1 with dict := some d } → e ≠ d → s.heap.get? d = none → h'.get? d = some (dictOf es n) → getL "what" es = some (some v1) → getL "at" es = some (some v2) →
   R (.ok (.ret .none)) { s with heap := h', toks := tk }) :
  codeAny (model prog w) A (.call (.ref f) ⟨.ref e :: vs, []⟩) R s := by
 obtain ⟨o, ho, hd⟩ := IA.obj
 obtain ⟨p1, ap, p2, p3, cp, p4, q1, q2, hb, hline⟩ := IA.body
 obtain ⟨nm, q, N₀, bs, bm, hdct, sn, sub, ab, col, dd, k0, k1, k2, k3, k5, hC, c1, c2, c3⟩ := EM.obj
 refine codeAny_call_function hroom (st _ _ ho) hd IA.co IA.gen hb (IA.code.keeps st) (bt _ _ _ _ ?_)
 rw [IA.clo, IA.glob, IA.blt]
 refine wpAny_newFunctionEnv (noCell_mem IA.cells) (fun y hy => ?_) (fun h1 hns hsb => ?_) IA.kind
 ·have hm : y.1 ∈ ([("self", .ref e), ("what", v1), ("at", v2)] : List (Str × Value)).map (·.1) := List.mem_map.mpr ⟨y, hy, rfl⟩
  exact IA.loc y.1 hm
 ·have keep : ∀ b o, s.heap.get? b = some o → h1.get? b = some o := fun b o e => hsb.extBut b o (Nat.ne_of_lt (Heap.lt_size e)) (Heap.get?_push_of_some _ e)
  have F : Fr (hideAll s.heap [e]) s.heap.objs.size h1 (fun y => ([("self", .ref e), ("what", v1), ("at", v2)] : List (Str × Value)).reverse.lookup y) :=
   ⟨hns, fun b o e => keep b o (of_hideAll _ e), Nat.le_of_eq (hideAll_size _ _)⟩
  have N : News (hideAll s.heap [e]) s.heap.objs.size h1 [(e, excObj S.cE t0)] := fun p hp => by
   rw [List.mem_singleton.mp hp]
   exact ⟨keep _ _ he, Nat.ne_of_lt (Heap.lt_size he), hideAll_none _ (.head _)⟩
  have B₀ : S.B.StaysIn (hideAll s.heap [e]) := fun a o hb => hideAll_get _ (st _ _ hb) fun q => by
   rw [List.mem_singleton.mp q, be] at hb; exact no_ns hb
  have X₀ : S.K.In (hideAll s.heap [e]) := fun a o hk => B₀ _ _ (H.kin a o hk)
  have st1 : S.B.StaysIn h1 := fun b o e => keep b o (st b o e)
  have X1 : S.K.In h1 := X₀.keeps F.keep
  refine ⟨H.nolim.keeps st1, codeAny_func ?_⟩
  have kd : ∀ y ∈ [("self" : Str), "what", "at"], (newEnv fd.scope s.heap.objs.size mainGlobals [] (fd.qualname ++ ".<locals>.") (some f) fd.code none builtinsNs).kindOf y = some .local := fun y hy => IA.loc y hy
  have kx : (newEnv fd.scope s.heap.objs.size mainGlobals [] (fd.qualname ++ ".<locals>.") (some f) fd.code none builtinsNs).kindOf "Exception" = some .globalImplicit := IA.exc
  refine wpAny_execs_cons (wpAny_Expr_any ?_ (by unfold interactive; rw [show (newEnv fd.scope s.heap.objs.size mainGlobals [] (fd.qualname ++ ".<locals>.") (some f) fd.code none builtinsNs).scope.kind = .function from IA.kind]; rfl) rfl)
  refine method_step rfl hline rfl (by exact (by decide : (2 : Nat) < 30)) ?_
  refine Name_function_global IA.kind kx ?_ (by decide)
  have go : ∀ {A' : Around} {Q E' : Value → Shared → Prop} {s' : Shared}, s'.heap = h1 → Q (.type "Exception") s' → wpAny (model prog w) A' (loadGlobal (newEnv fd.scope s.heap.objs.size mainGlobals [] (fd.qualname ++ ".<locals>.") (some f) fd.code none builtinsNs) "Exception") Q E' s' := by
   intro A' Q E' s' e1 hq
   rcases EM.glob with hv | ⟨w1, w2⟩
   ·exact loadGlobal_global (by rw [e1]; exact H.g.keeps st1) hv hq
   ·exact loadGlobal_builtin (by rw [e1]; exact H.g.keeps st1) w1 (by rw [e1]; exact H.b.keeps st1) w2 hq
  refine go rfl ?_
  intro pl
  refine exc_getm X1 EM.exc ?_
  refine callWith_of (P := fun J => True) rfl (keeps_builtin _) ?_
  refine evalArgs_plain (wpAny_items_cons (pos := cp) (wpAny_Name (wpAny_loadName_local IA.kind (kd _ (by simp)) F.ns (by rfl) (wpAny_items_cons (wpAny_Name (wpAny_loadName_local IA.kind (kd _ (by simp)) F.ns (by rfl) (wpAny_items_nil ?_)) (by decide)))) (by decide)))
  refine ⟨trivial, ?_⟩
  refine exc_init PySem.F.excBase_Exception c1 (X1 _ _ hC) (N _ (.head _)).1 rfl rfl rfl (by rw [sizeLine_eq]; exact (by decide : (1 : Nat) ≤ 16777216)) ?_
  have F2 : Fr (hideAll s.heap [e]) s.heap.objs.size (h1.push (tupObj [v1])) _ := F.push _
  have N2 : News (hideAll s.heap [e]) s.heap.objs.size (h1.push (tupObj [v1])) ([] ++ (e, excObj S.cE t0) :: []) := fun p hp => by
   obtain ⟨a, b⟩ := N p hp
   exact ⟨Heap.get?_push_of_some _ a, b⟩
  obtain ⟨F3, N3⟩ := news_upd (o' := excObj S.cE h1.objs.size) (f := Obj.mapFields (·.setIfInBounds 0 (.ref h1.objs.size))) F2 N2 (fun p hp => nomatch hp) (fun p hp => nomatch hp) rfl rfl
  refine wpAny_execs_cons (attr_stmt rfl (wpAny_Name (wpAny_loadName_local IA.kind (kd _ (by simp)) F3.ns (by rfl) (wpAny_Name (wpAny_loadName_local IA.kind (kd _ (by simp)) F3.ns (by rfl) ?_) (by decide))) (by decide)))
  refine first_store F3 X₀ N3 rfl rfl rfl EM.set EM.over EM.what EM.dict fun h4 hsh tk d ned dnew F4 N4 => ?_
  have I4 : W.InstAt h4 e { excObj S.cE h1.objs.size with dict := some d } S.cE (some (dictOf [⟨hsh, .str "what" tk, v1⟩] 1)) := ⟨(N4 _ (.head _)).1, rfl, rfl, (N4 _ (.tail _ (.head _))).1⟩
  refine wpAny_execs_cons (attr_stmt rfl (wpAny_Name (wpAny_loadName_local IA.kind (kd _ (by simp)) F4.ns (by rfl) (wpAny_Name (wpAny_loadName_local IA.kind (kd _ (by simp)) F4.ns (by rfl) ?_) (by decide))) (by decide)))
  refine next_store F4 X₀ N4 I4 ned rfl EM.set EM.over EM.at EM.dict (by rw [← Array.any_toList]; rfl) rfl (by exact (by decide : (2 : Nat) ≤ 1000)) fun h5 F5 N5 => ?_
  refine wpAny_execs_nil ?_
  have sd : s.heap.get? d = none := by
   cases q : s.heap.get? d with
   | none => rfl
   | some o' =>
    have := Heap.get?_push_of_some (tupObj [v1]) (keep _ _ q)
    by_cases z : d = e
    ·exact absurd z.symm ned
    ·rw [upd_other _ _ z, this] at dnew; exact no_sn dnew
  refine h h5 _ h1.objs.size d _ _ (fun b o n1 q => F5.keep b o (hideAll_get _ q fun z => n1 (List.mem_singleton.mp z))) (N5 _ (.head _)).1 ned sd (N5 _ (.tail _ (.head _))).1 (by rfl) (by rfl)
end
structure ErrBind (S : Sta) (fd : FuncData) : Prop where
 two : ∀ (s : Shared) (x v1 v2 : Value), S.B.StaysIn s.heap → BindsTo s fd ⟨[x, v1, v2], []⟩ [("self", x), ("what", v1), ("at", v2)]
 one : ∀ (s : Shared) (x v1 : Value), S.B.StaysIn s.heap → BindsTo s fd ⟨[x, v1], []⟩ [("self", x), ("what", v1), ("at", .none)]
section
variable {prog : Program} {w : World} {S : Sta} {f : Addr} {fd : FuncData} {k : Nat}
theorem make_err1 (H : StaOk S) (EM : ErrMake S f) (IA : ErrInitAt S f fd) {A : Around} {stk : List Env} {K : Kn} {s : Shared} {vs : List Value} {wt : Str} {a : D} {v1 v2 : Value} {t : Tok} (hz : vs.length ≤ sizeLine) (h1 : v1 = .str wt t) (h2 : Rep S (fun J => none) v2 a) (h3 : W.handedIn v2 = true)
  (bt : ∀ (s₁ : Shared) (x : Value), S.B.StaysIn s₁.heap → BindsTo s₁ fd ⟨x :: vs, []⟩ [("self", x), ("what", v1), ("at", v2)]) (Q E : Value → Shared → Prop) (hroom : A.depth + 1 < 1000) (TS : St S stk K s)
  (h : ∀ e s', St S stk K s' → Ext S stk s.heap s'.heap → (∃ oe vs dx, FlyX S stk s.heap e wt a s'.heap oe vs dx ∧ vs[1]? = some .none) → Q (.ref e) s') : wpAny (model prog w) A (call (.ref S.cE) vs []) Q E s := by
 refine wpAny_call ?_
 obtain ⟨hh, gg, dd, tt, oo⟩ := s
 have X : S.K.In hh := St.KIn H TS
 obtain ⟨nm, q, N₀, bs, bm, hdct, sn, sub, ab, col, dd', k0, k1, k2, k3, k5, hC, c1, c2, c3⟩ := EM.obj
 refine exc_make PySem.F.excBase_Exception c1 c2 c3 (X _ _ hC) hz (looks_specialIn X EM.call) (looks_instIn X EM.typ) (looks_mroIn X EM.self) (looks_findIn X EM.init) (fun x => bind_fn X x EM.fn) ?_
 have z1 : (hh.push (tupObj vs)).objs.size = hh.objs.size + 1 := Heap.size_push ..
 have gx : ((hh.push (tupObj vs)).push (excObj S.cE hh.objs.size)).get? (hh.objs.size + 1) = some (excObj S.cE hh.objs.size) := by rw [← z1]; exact Heap.get?_push_size _ rfl
 have k2' : ∀ b o, hh.get? b = some o → ((hh.push (tupObj vs)).push (excObj S.cE hh.objs.size)).get? b = some o := fun b o e => Heap.get?_push_of_some _ (Heap.get?_push_of_some _ e)
 have nx : hh.get? (hh.objs.size + 1) = none := Heap.get?_none_of_le (Nat.le_succ _)
 have noB : ∀ {b : Addr}, hh.get? b = none → S.B.get? b = none := fun {b} e => by
  cases q : S.B.get? b with
  | none => rfl
  | some o => have := TS.stays b o q; rw [e] at this; exact no_ns this
 have st2 : S.B.StaysIn ((hh.push (tupObj vs)).push (excObj S.cE hh.objs.size)) := fun b o e => k2' b o (TS.stays b o e)
 refine err_init (s := ⟨(hh.push (tupObj vs)).push (excObj S.cE hh.objs.size), gg, dd, tt, oo⟩) H EM IA st2 gx (noB nx) ?_ (bt _ _ st2) fun h' tk t1 d es n keep hx hne hdn hdx g1 g2 => ?_
 ·show A.depth + Code.weight _ < 1000
  have hw : Code.weight (.builtin "type.__call__" ⟨.ref S.cE :: vs, []⟩) ≤ 1 := by
   first
    | exact Nat.le_refl 1
    | exact Nat.zero_le 1
    | (unfold Code.weight; with_unfolding_all exact Nat.le_refl 1)
  lia
 ·have k3 : ∀ b o, hh.get? b = some o → h'.get? b = some o := fun b o e => keep b o (fun q => by rw [q, nx] at e; exact no_ns e) (k2' b o e)
  show Value.none = Value.none ∧ Q (.ref (hh.objs.size + 1)) _
  refine ⟨rfl, ?_⟩
  have dn : hh.get? d = none := by
   cases q : hh.get? d with
   | none => rfl
   | some o => have := k2' _ _ q; dsimp only at hdn; rw [hdn] at this; exact no_ns this
  exact h _ _ (TS.grow H k3 tk) (ExtP.keeps k3) ⟨_, _, d, ⟨nx, hx, rfl, rfl, rfl, (by decide : (2 : Nat) < 6), ⟨es, n, v2, t, hdx, h1 ▸ g1, g2, h2, h3⟩, Fix.new TS dn, fun J => rfl⟩, rfl⟩
theorem make_err (H : StaOk S) (EM : ErrMake S f) (IA : ErrInitAt S f fd) (EB : ErrBind S fd) : MakeErr prog w S (k + 1) := by
 intro A stk K s vs ds wt a Q E ar TS rs hd h
 rcases hd with ⟨rfl, rfl⟩ | ⟨i, rfl, rfl⟩
 ·obtain ⟨_, rfl, r⟩ := rs.one_v
  obtain ⟨t, rfl⟩ := r.str_v
  exact make_err1 H EM IA (by rw [sizeLine_eq]; exact (by decide : (1 : Nat) ≤ 16777216)) rfl .none rfl (fun s₁ x st => EB.one s₁ x _ st) Q E (by have := ar.depth; lia) TS h
 ·obtain ⟨_, _, rfl, r, r'⟩ := rs.two_v
  obtain ⟨t, rfl⟩ := r.str_v
  obtain ⟨t', rfl⟩ := r'.int_v
  exact make_err1 H EM IA (by rw [sizeLine_eq]; exact (by decide : (2 : Nat) ≤ 16777216)) rfl (.int i t') rfl (fun s₁ x st => EB.two s₁ x _ _ st) Q E (by have := ar.depth; lia) TS h
end
structure ErrGet (S : Sta) : Prop where
 get : findIn S.K (.ref S.cE) "__getattribute__" = some (some (.builtin "BaseException.__getattribute__"))
 hook : findIn S.K (.ref S.cE) "__getattr__" = some none
 base : mroIn S.K S.cE (.type "BaseException") = some true
 dict : hasDictIn S.K S.cE = true
 what : findIn S.K (.ref S.cE) "what" = some none
 «at» : findIn S.K (.ref S.cE) "at" = some none
 glob : GlobIs S "CodeError" (.ref S.cE)
section
variable {prog : Program} {w : World} {S : Sta} {T : Tab} {k : Nat}
variable {A : Around} {stk outer : List Env} {K K' K₀ : Kn} {s s₀ : Shared} {env : Env} {m : Loc} {E : Value → Shared → Prop} {sc sc' : Scope} {n : Nat} {h h' h₁ h₂ : Heap} {e dx : Addr} {wt : Str} {a : D} {oe : Obj} {vs : Array Value}
theorem cellsFrom_none : ∀ (l : List (Str × NameKind)) (n : Nat), noCell l = true → cellsFrom n l [] = []
 | [], n, _ => rfl
 | (x, k) :: r, n, h => by
  induction k using PySem.NameKind.casesOn with
  | cell => exact no_ft h
  | _ => exact cellsFrom_none r n h
theorem FlyX.own (X₀ : Lc S stk env m K h) (tp : Top1 stk env) (hc : env.cells = []) (f : FlyX S stk h e wt a h₁ oe vs dx) (kp : ∀ b, ¬ Own env b → h₂.get? b = h₁.get? b) : FlyX S stk h e wt a h₂ oe vs dx := by
 have ne : ¬ Own env e := fun q => by
  obtain ⟨o, ho⟩ := own_live X₀ q
  rw [f.new] at ho; exact no_ns ho
 have nd : ¬ Own env dx := fun q => by
  rcases q with q | ⟨p, hp, _⟩
  ·obtain ⟨outer, ho⟩ := tp.head
   exact f.fix.1 (List.mem_filterMap.mpr ⟨env, by rw [ho]; exact .head _, by rw [tp.frame, q]⟩)
  ·rw [hc] at hp; cases hp
 obtain ⟨es, n, av, t, ed, dd⟩ := f.dob
 exact ⟨f.new, (kp e ne).trans f.ob, f.cls, f.dict, f.data, f.size, ⟨es, n, av, t, (kp dx nd).trans ed, dd⟩, f.fix, f.ctx⟩
theorem caught (H : StaOk S) (EC : ErrCls (model prog w) S) (EG : ErrGet S) (hfr : A.frames = some stk) (tp : Top1 stk env) (hc : env.cells = []) (T₀ : St S stk K s₀) (X₀ : Lc S stk env m K s₀.heap) (TS : St S stk K s) (x : Ext S stk s₀.heap s.heap) (f : Fly S stk s₀.heap e wt a s.heap)
  {tpos hpos : Pos} {nm : Str} {b₀ : Stmt} {suite : List Stmt} {Q : Flow → Shared → Prop} (k1 : env.kindOf ("CodeError" : Str) = some .globalImplicit) (k2 : env.kindOf nm = some .local)
  (h : ∀ s₂, St S stk K s₂ → Lc S stk env (m.set nm (.raw (.ref e))) K s₂.heap → ExtP S stk (Own env) s₀.heap s₂.heap → (∃ oe vs dx, FlyX S stk s₀.heap e wt a s₂.heap oe vs dx) →
   wpAny (model prog w) (A.mark (some (.ref e))) (execs (b₀ :: suite) env) (fun f s₃ => wpAny (model prog w) A (do bindName env nm .none; unbindBehindTheSuite env nm hpos) (fun J s₄ => Q f s₄) E s₃)
    (fun x s₃ => wpAny (model prog w) (A.mark (some (.ref e))) (noteFrame x env) (fun J s₃' =>
      wpAny (model prog w) (A.mark (some (.ref e))) (do bindName env nm .none; unbindBehindTheSuite env nm hpos)
       (fun J s₄ => wpAny (model prog w) (A.mark (some (.ref e))) (passOn "try.except-as" x env : Sem Flow) (fun J J => False) (notedBy (model prog w) (A.mark (some (.ref e))) env (cameBackBy (model prog w) A env E)) s₄)
       (fun y s₄ => wpAny (model prog w) (A.mark (some (.ref e))) (setFlight x none) (fun J s₅ => (notedBy (model prog w) (A.mark (some (.ref e))) env (cameBackBy (model prog w) A env E)) y s₅) (notedBy (model prog w) (A.mark (some (.ref e))) env (cameBackBy (model prog w) A env E)) s₄) s₃') (notedBy (model prog w) (A.mark (some (.ref e))) env (cameBackBy (model prog w) A env E)) s₃) s₂) :
  wpAny (model prog w) A (noteFrame (.ref e) env) (fun J s₂ => wpAny (model prog w) A (setFlight (.ref e) none) (fun J s₃ => wpAny (model prog w) A (handleBy (.ref e) env [.ExceptHandler (some (.Name "CodeError" tpos)) (some nm) (b₀ :: suite) hpos]) Q E s₃) E s₂) E s := by
 obtain ⟨outer, hst⟩ := tp.head
 refine noteFrame_fly H T₀ TS x hfr hst tp.frame f fun h₁ T₁ x₁ f₁ => ?_
 refine setFlight_fly (s := { s with heap := h₁ }) H T₀ T₁ x₁ f₁ none fun h₂ T₂ x₂ f₂ => ?_
 refine wpAny_handleBy_cons (codeAny_handlers_test ?_) (by intro q; cases q)
 have X₂ : Lc S stk env m K h₂ := X₀.ext x₂ (KExt.refl _ _)
 refine global_sound (s := { s with heap := h₂ }) H T₂ X₂ k1 (by decide) EG.glob ?_
 refine abs1 fun G0 hG0 => ?_
 obtain ⟨oe, vs, dx, head, fx, _⟩ := id f₂
 refine hG0 ?_
 clear hG0 G0
 refine excMatches_err EC (St.KIn H T₂) fx.ob fx.cls ?_
 rw [if_pos rfl]
 refine codeAny_handlers_suite_as (setFlight_fly (s := { s with heap := h₂ }) H T₀ T₂ x₂ f₂ none fun h₃ T₃ x₃ f₃ => ?_)
 have X₃ : Lc S stk env m K h₃ := X₀.ext x₃ (KExt.refl _ _)
 refine store_sound (s := { s with heap := h₃ }) T₃ X₃ (.raw (.ref e)) (.inl k2) fun h₄ tk T₄ X₄ kp => ?_
 refine abs1 fun G0 hG0 => ?_
 obtain ⟨oe, vs, dx, head, fx, _⟩ := id f₃
 refine hG0 ?_
 clear hG0 G0
 exact h _ T₄ X₄ ((Ext.p x₃).trans (store_ext X₄ fun b q => kp b fun z => q z.own)) ⟨oe, vs, dx, fx.own X₀ tp hc fun b q => kp b fun z => q z.own⟩
theorem exc_value {K : Frag} {x C : Addr} {ox : Obj} {od : Option Obj} {name : Str} {ex : Bool} {Q : Value → Shared → Prop} {v : Value} (X : K.In s.heap) (I : W.InstAt s.heap x ox C od) (hga : findIn K (.ref C) "__getattribute__" = some (some (.builtin "BaseException.__getattribute__"))) (hno : findIn K (.ref C) "__getattr__" = some none) (hb : mroIn K C (.type "BaseException") = some true)
  (hf : findObj K C od name = some (.value v)) (hh : W.handedIn v = true) (h : Q v { s with toks := s.toks + 1 }) : wpAny (model prog w) A (getAttr (.ref x) name ex) Q E s := by
 obtain ⟨hp, g, d, t, os⟩ := s
 have L0 := I.type (M := model prog w)
 have L1 := looks_findIn (M := model prog w) X hga
 have L2 := looks_findIn (M := model prog w) X hno
 have L3 := looks_find (M := model prog w) X I hf
 have L4 := looks_mroIn (M := model prog w) X hb
 unfold getAttr getAttrBy
 refine wpAny_bind (wpAny_mkText (wpAny_holding (wpAny_bind (L0.at (wpAny_bind (L1.at ?_))))))
 show wpAny _ _ (getAttrByItsOwn (.ref x) (.str name t) (.ref C) (.builtin "BaseException.__getattribute__") true ex) _ _ _
 unfold getAttrByItsOwn
 refine wpAny_bind (L2.at (wpAny_bind (wpAny_attempt (wpAny_holding ?_))))
 have ec : callGetattribute (.ref x) (.str name t) (.builtin "BaseException.__getattribute__") ex = boundAndCalled (.builtin "BaseException.__getattribute__") (.ref x) (.str name t) := by cases ex <;> rfl
 rw [ec]
 unfold boundAndCalled
 refine wpAny_bind (wpAny_of_eq (PySem.F.attr_ValueError.ga.bind (.ref x)) ?_)
 refine wpAny_call (codeAny_call_builtin PySem.F.attr_ValueError.ga.plain PySem.F.entry_bexc_ga (check_slot (i := "BaseException.__getattribute__") (owner := "BaseException") (n := "__getattribute__") (by decide +kernel) (by decide +kernel) (L0.andThen L4) (PySem.F.args_bexc_ga _ _) ?_))
 unfold Builtin.«object.__getattribute__»
 refine wpAny_bind (wpAny_of_eq (a := (.ref x, [.str name t])) rfl ?_)
 dsimp only
 refine wpAny_bind (wpAny_pure (wpAny_bind (L0.at (wpAny_bind (L3.at ?_)))))
 refine wpAny_pure ?_
 show wpAny _ _ (handedOut v) _ _ _
 rw [handedOut_of hh]
 exact wpAny_pure h
theorem fly_attr (H : StaOk S) (EG : ErrGet S) (TS : St S stk K s) (fx : FlyX S stk h e wt a s.heap oe vs dx) (hd : notCls oe = true) {ex : Bool} {Q : Value → Shared → Prop} (hq : ∀ av, Rep S (fun J => none) av a → Q av { s with toks := s.toks + 1 }) :
  wpAny (model prog w) A (getAttr (.ref e) "at" ex) Q E s := by
 obtain ⟨es, n, av, t, ed, g1, g2, r, hh⟩ := fx.dob
 have I : W.InstAt s.heap e oe S.cE (some (dictOf es n)) := ⟨fx.ob, fx.cls, hd, by rw [fx.dict]; exact ed⟩
 exact exc_value (St.KIn H TS) I EG.get EG.hook EG.base (findObj_own EG.dict EG.at rfl g2) hh (hq av r)
theorem fly_what (H : StaOk S) (EG : ErrGet S) (TS : St S stk K s) (fx : FlyX S stk h e wt a s.heap oe vs dx) (hd : notCls oe = true) {ex : Bool} {Q : Value → Shared → Prop} (hq : ∀ t, Q (.str wt t) { s with toks := s.toks + 1 }) :
  wpAny (model prog w) A (getAttr (.ref e) "what" ex) Q E s := by
 obtain ⟨es, n, av, t, ed, g1, g2, r, hh⟩ := fx.dob
 have I : W.InstAt s.heap e oe S.cE (some (dictOf es n)) := ⟨fx.ob, fx.cls, hd, by rw [fx.dict]; exact ed⟩
 exact exc_value (St.KIn H TS) I EG.get EG.hook EG.base (findObj_own EG.dict EG.what rfl g1) rfl (hq t)
theorem fly_notCls (fx : FlyX S stk h e wt a h₁ oe vs dx) : notCls oe = true := by
 unfold notCls
 rw [fx.data]
end
theorem heardOf_sat {P : D → Prop} {Eb : Str → D → Prop} : ∀ t : Tr D, (heardOf t).sat P Eb → t.sat (fun d => P (.list [d])) (fun J a => P (.tup [.str "refused", a]))
 | .ok d, h => h
 | .exc w a, h => h
 | .bad, h => h
 | .br b x y, h => ⟨fun q => heardOf_sat x (h.1 q), fun q => heardOf_sat y (h.2 q)⟩
section
variable {prog : Program} {w : World} {S : Sta} {T : Tab} {k : Nat}
variable {A : Around} {stk stk' outer : List Env} {K K' K₀ : Kn} {s s₀ : Shared} {env env' : Env} {m : Loc} {E : Value → Shared → Prop} {sc sc' : Scope} {n : Nat} {h h' h₁ h₂ : Heap} {L : Addr} {mv : Str → Option Value}
theorem St.frame (H : StaOk S) (TS : St S stk K s) (keep : ∀ b o, s.heap.get? b = some o → h₂.get? b = some o) (nsL : h₂.Ns L mv) (hL : s.heap.get? L = none) (hF : env.frame = some L) (hk : env.scope.kind = .function) (tk : Tok) :
  St S (env :: stk) K { s with heap := h₂, toks := tk } := by
 have noB : ∀ {b : Addr}, s.heap.get? b = none → S.B.get? b = none := fun {b} e => by
  cases q : S.B.get? b with
  | none => rfl
  | some o => rw [TS.stays b o q] at e; exact no_sn e
 have T₁ := TS.grow H keep tk
 refine ⟨fun e he' => ?_, T₁.stays, fun a o e => ⟨(T₁.kin a o e).1, (T₁.kin a o e).2.up hF fun q => ?_⟩, T₁.tab, T₁.gens, T₁.os⟩
 ·rcases List.mem_cons.mp he' with rfl | he'
  ·obtain ⟨o, e1, e2⟩ := Ns.data nsL
   exact ⟨hk, _, o, hF, noB hL, (Fix.new TS hL).2, e1, e2⟩
  ·exact T₁.ff e he'
 ·have := (TS.kin a o e).1
  rw [q, hL] at this
  exact no_ns this
theorem lamLc (X : Lc S stk env m K h) (ko : KindOk S T sc env) (hf : freesOk sc sc'.names = true) (hn : noCell sc'.names = true) (hk : sc'.kind = .function) (eS : env'.scope = sc') (eG : env'.globals = mainGlobals) (eB : env'.builtins = builtinsNs) (eL : env'.locals = L) (eC : env'.cells = cloOf env sc'.names [])
  (old : ∀ b o, h.get? b = some o → h'.get? b = some o) (hC : h.get? L = none) (kC : K L = none) (bC : S.B.get? L = none) (tC : L ∉ S.tabAt) (hns : h'.Ns L mv) (fx : ∀ b o, h.get? b = some o → Fix S stk b → Fix S stk' b) : Lc S stk' env' (freeOf sc' m) K h' := by
 have kd : ∀ x, env'.kindOf x = sc'.names.lookup x := fun x => by unfold Env.kindOf; rw [eS]
 have cells : ∀ p ∈ cloOf env sc'.names [], (p.1, NameKind.free) ∈ sc'.names ∧ env.cells.lookup p.1 = some p.2 := fun p hp => by
  rcases clo_mem hp with q | ⟨a, b⟩
  ·cases q
  ·have := ko.kind p.1
   rw [freesOk_mem hf a] at this
   obtain ⟨c, _, hc, _⟩ := X.hav _ this
   rw [hc] at b
   exact ⟨a, by rw [hc, b]; rfl⟩
 have look : ∀ x, (x, NameKind.free) ∈ sc'.names → ∃ c, env.kindOf x = some .cell ∧ env.cells.lookup x = some c ∧ (cloOf env sc'.names []).lookup x = some c := fun x hx => by
  have := ko.kind x
  rw [freesOk_mem hf hx] at this
  obtain ⟨c, _, hc, _⟩ := X.hav _ this
  exact ⟨c, this, hc, by rw [clo_some hx, hc]; rfl⟩
 refine ⟨by rw [eS]; exact hk, eG, eB, ⟨mv, by rw [eL]; exact hns, fun x d e q => ?_⟩, fun x d e J => ?_, fun x q => ?_, by rw [eL]; exact kC, by rw [eL]; exact bC, by rw [eL]; exact tC, fun p hp => ?_, fun p hp q hq e => ?_⟩
 ·obtain ⟨a, _⟩ := freeOf_some e
  rw [kd, a] at q
  cases q
 ·obtain ⟨a, b⟩ := freeOf_some e
  obtain ⟨c, k1, k2, k3⟩ := look x (lookup_kind_mem a)
  obtain ⟨c', v, e1, ⟨o, e2, e3⟩, r⟩ := X.cel x d b (.inl k1)
  rw [k2] at e1
  obtain rfl := Option.some.inj e1
  exact ⟨c, v, by rw [eC]; exact k3, ⟨o, old _ _ e2, e3⟩, r⟩
 ·rw [kd] at q
  exact absurd rfl (noCell_mem hn _ (lookup_kind_mem q))
 ·rw [eC] at hp
  obtain ⟨_, e⟩ := cells p hp
  obtain ⟨a, b, c, d, o, ho⟩ := X.cOk _ (lookup_mem e)
  have ho' : h.get? p.2 = some o := ho
  refine ⟨a, b, fx _ _ ho' c, fun z => ?_, o, old _ _ ho'⟩
  have z' : p.2 = L := z.trans eL
  rw [z', hC] at ho'
  cases ho'
 ·rw [eC] at hp hq
  obtain ⟨_, e1⟩ := cells p hp
  obtain ⟨_, e2⟩ := cells q hq
  exact X.inj _ (lookup_mem e1) _ (lookup_mem e2) e
theorem goes_sound (TS : St S stk K s) (X : Lc S stk env m K s.heap) {nm : Str} {pos : Pos} (hk : env.kindOf nm = some .local) {Q : Unit → Shared → Prop}
  (h : ∀ h' tk, St S stk K { s with heap := h', toks := tk } → (∀ b, b ≠ env.locals → h'.get? b = s.heap.get? b) → (∃ o, h'.get? env.locals = some o) → Q () { s with heap := h', toks := tk }) :
  wpAny (model prog w) A (do bindName env nm .none; unbindBehindTheSuite env nm pos) Q E s := by
 obtain ⟨mv, hn, _⟩ := X.ns
 refine wpAny_nameGoes hk hn (by rw [X.kind]; rfl) fun h' m' hn' sb => ?_
 have Lo : Loose S stk K s.heap h' env.locals := ⟨X.lB, X.lK, X.lT, fun o e q => by
  obtain ⟨_, vs, z⟩ := q
  obtain ⟨o₁, e₁, q₁⟩ := Ns.data hn
  rw [e₁] at e; obtain rfl := Option.some.inj e; exact q₁ vs z, fun J => Ns.data hn'⟩
 obtain ⟨o', e', _⟩ := Ns.data hn'
 exact h h' _ (TS.alter (P := (· = env.locals)) (fun a p => p ▸ Lo) (fun b o nb e => (sb.2 b nb).trans e) _) (fun b nb => sb.2 b nb) ⟨o', e'⟩
end
structure HeardAt (S : Sta) (T : Tab) (f : Addr) (fd : FuncData) (ps : List Arg) (sc : Scope) (body : List Stmt) : Prop where
 df : DefAt S T f fd ps [] sc body
 ps : ∃ a b, ps = [⟨"ask", a, b⟩]
 body : ∃ p1 cp lp rp tp p2 j p3 ap j2 p4 rp2 hp tryp, body = [.Try [.Return (some (.List [.Call (.Name "ask" p1) [] [] cp] lp)) rp] [.ExceptHandler (some (.Name "CodeError" tp)) (some "error") [.Return (some (.Tuple [.Constant (.str "refused") j p2, .Attribute (.Name "error" p3) "at" ap] j2 p4)) rp2] hp] [] [] tryp]
 cells : noCell sc.names = true
 ask : sc.names.lookup ("ask" : Str) = some .local
 err : sc.names.lookup ("error" : Str) = some .local
 cls : sc.names.lookup ("CodeError" : Str) = some .globalImplicit
section
variable {prog : Program} {w : World} {S : Sta} {T : Tab} {k n : Nat} {f : Addr} {fd : FuncData} {ps : List Arg} {scH : Scope} {bodyH : List Stmt}
theorem heard_sound (H : StaOk S) (LS : LamSt S) (EC : ErrCls (model prog w) S) (EG : ErrGet S) (HA : HeardAt S T.low f fd ps scH bodyH) (HG : GlobIs S "_law_heard" (.ref f)) (IE : SoundE prog w S T.low k n) : HeardOk prog w S T (k + 2) n := by
 intro sc p lp pos sc' body m env A stk K s Q E hT ar TS X ko hk hl h
 have kx := ko.kind ("_law_heard" : Str)
 rw [hk] at kx
 simp only [lamOk, Bool.and_eq_true, Bool.not_eq_true', decide_eq_true_eq] at hl
 obtain ⟨⟨⟨⟨l1, l2⟩, l3⟩, l4⟩, l5⟩ := hl
 show wpAny _ _ (eval (.Name "_law_heard" p) env >>= fun f => callWith pos f [] (backTo pos (starEach [.Lambda ⟨[], [], none, [], [], none, []⟩ body sc' lp] env)) (backToKw pos (keywordEach [] env))) _ _ s
 refine wpAny_bind (global_sound H TS X kx (by decide) HG ?_)
 obtain ⟨oH, hoH, hdH⟩ := HA.df.obj
 refine callWith_of (P := fun h => S.B.StaysIn h) rfl (keep_def hoH hdH) ?_
 refine evalArgs_plain (wpAny_items_cons (pos := pos) (kla_eval rfl ?_))
 rw [makeFunction_eq]
 simp only [List.zip_nil_right, List.filterMap_nil, List.isEmpty_nil, if_true, pure_bind]
 have hcl : closureFor sc' env = pure (cloOf env sc'.names []) := closureFor_clo fun x hx => by
  have := ko.kind x
  rw [freesOk_mem l3 hx] at this
  obtain ⟨c, _, hc, _⟩ := X.hav _ this
  exact ⟨c, hc⟩
 refine mkfun H LS TS X (ko.lam hT) hcl fun fl K₁ s₁ c' pm ctv T₁ x₁ k₁ nf hKf hrec fixc => ?_
 refine wpAny_items_nil ⟨T₁.stays, ?_⟩
 refine wpAny_call ?_
 refine abs1 fun G0 hG0 => ?_
 obtain ⟨binds, bt, hb, hn⟩ := HA.df.bind K₁ s₁ [.ref fl] [.raw (.ref fl)] [("ask", .raw (.ref fl))] T₁.stays (.cons (.raw _) .nil) (by obtain ⟨a, b, e⟩ := HA.ps; subst e; rfl)
 refine hG0 ?_
 clear hG0 G0
 have hs : fd.scope = scH := HA.df.scope
 refine codeAny_call_function (by have := ar.depth; show A.depth < 1000; lia) (T₁.stays _ _ hoH) hdH (by rw [hs]; exact HA.df.co) (by rw [hs]; exact HA.df.gen) HA.df.body (HA.df.code.keeps T₁.stays) ?_
 refine bt _ _ _ _ ?_
 rw [hs, HA.df.glob, HA.df.clo, HA.df.blt]
 refine wpAny_newFunctionEnv_cells HA.df.kind (fun p hp => ?_) fun env1 he s₂ x => ?_
 ·have hq := HA.df.par p.1 (by rw [← hn]; exact List.mem_map.mpr ⟨p, hp, rfl⟩)
  unfold storable at hq
  cases q : scH.names.lookup p.1 with
  | none => rw [q] at hq; exact no_ft hq
  | some z =>
   rw [q] at hq
   induction z using PySem.NameKind.casesOn with
   | «local» => exact .inl rfl
   | cell => exact .inr ⟨rfl, cellsFrom_some _ _ _ (lookup_mem q)⟩
   | _ => exact no_ft hq
 obtain ⟨T₂, X₂, ko₂, tp, own, hF⟩ := enter H T₁ HA.df hb hn he x
 have keep := x.toInCall.keep
 have newL : s₁.heap.get? s₁.heap.objs.size = none := new_none _
 have hcells : env1.cells = [] := by rw [he]; exact cellsFrom_none _ _ HA.cells
 have kd : ∀ y, env1.kindOf y = scH.names.lookup y := fun y => by unfold Env.kindOf; rw [he]; rfl
 have kAsk : env1.kindOf "ask" = some .local := (kd _).trans HA.ask
 have kErr : env1.kindOf "error" = some .local := (kd _).trans HA.err
 have kCls : env1.kindOf "CodeError" = some .globalImplicit := (kd _).trans HA.cls
 have ar1 : Ar (A.deeper env1) (env1 :: stk) (k + 1) := ar.deeper env1
 refine ⟨H.nolim.keeps T₂.stays, codeAny_func ?_⟩
 refine abs1 fun G0 hG0 => ?_
 obtain ⟨p1, cp, lp', rp, tp', p2, j, p3, ap, j2, p4, rp2, hp, tryp, hbody⟩ := HA.body
 refine hG0 ?_
 clear hG0 G0
 rw [hbody]
 refine wpAny_execs_cons (wpAny_Try_except (wpAny_execs_cons (wpAny_Return_some (wpAny_List (wpAny_items_cons (pos := lp') ?_)))))
 show wpAny _ _ (eval (.Name "ask" p1) env1 >>= fun f => callWith cp f [] (backTo cp (starEach [] env1)) (backToKw cp (keywordEach [] env1))) _ _ _
 refine abs1 fun G0 hG0 => ?_
 obtain ⟨mv, hnv, hmv⟩ := X₂.ns
 obtain ⟨v, hv, rv⟩ := hmv "ask" _ rfl kAsk
 refine hG0 ?_
 clear hG0 G0
 obtain rfl := rv.raw_v
 refine wpAny_bind (wpAny_Name (wpAny_loadName_local X₂.kind kAsk hnv hv ?_) (by decide))
 refine callWith_of (P := fun h => h.get? fl = some { cls := .type "function", data := .func (lamData (env.qual ++ "<lambda>") body sc' (cloOf env sc'.names []) pm c' ctv) }) rfl (fun h e => ⟨.frame, .inl rfl, fun A Q E s k q => by
  show wpAny _ A (load fl >>= fun o => _) Q E s
  exact wpAny_bind (wpAny_load (k _ _ e) (wpAny_pure q))⟩) (evalArgs_nil3 ⟨(T₂.kin _ _ hKf).1, ?_⟩)
 refine wpAny_call (kla_callFunE (by have := ar1.depth; show (A.deeper env1).depth < 1000; lia) (T₂.kin _ _ hKf).1 rfl l4 l5 rfl (hrec.keeps keep) ?_)
 rw [show bindArgs (lamData (env.qual ++ "<lambda>") body sc' (cloOf env sc'.names []) pm c' ctv) ⟨[] ++ (⟨[], []⟩ : Args).pos, (⟨[], []⟩ : Args).kw⟩ = pure [] from rfl]
 refine wpAny_pure (wpAny_newFunctionEnv (noCell_mem l2) (fun y hy => nomatch hy) (fun h₃ hns hsb => ⟨?_, kla_codeExpr ?_⟩) l1)
 ·exact H.nolim.keeps fun b o e => hsb.extBut b o (Nat.ne_of_lt (Heap.lt_size (T₂.stays b o e))) (Heap.get?_push_of_some _ (T₂.stays b o e))
 have keep₃ : ∀ b o, s₂.heap.get? b = some o → h₃.get? b = some o := fun b o e => hsb.extBut b o (Nat.ne_of_lt (Heap.lt_size e)) (Heap.get?_push_of_some _ e)
 have noB : ∀ {b : Addr}, s₂.heap.get? b = none → S.B.get? b = none := fun {b} e => by
  cases q : S.B.get? b with
  | none => rfl
  | some o => rw [T₂.stays b o q] at e; exact no_sn e
 have up₂ : ∀ {b}, s₂.heap.get? b = none → s₁.heap.get? b = none := fun {b} q => by
  cases z : s₁.heap.get? b with
  | none => rfl
  | some o => rw [keep b o z] at q; exact no_sn q
 have up₃ : ∀ {b}, h₃.get? b = none → s₂.heap.get? b = none := fun {b} q => by
  cases z : s₂.heap.get? b with
  | none => rfl
  | some o => rw [keep₃ b o z] at q; exact no_sn q
 have new₂ : s₂.heap.get? s₂.heap.objs.size = none := new_none _
 have T₃ := T₂.frame (env := newEnv sc' s₂.heap.objs.size mainGlobals (cloOf env sc'.names []) (env.qual ++ "<lambda>" ++ ".<locals>.") (some fl) (.ref c') none builtinsNs) H keep₃ hns new₂ rfl l1 s₂.toks
 have X₁ : Lc S stk env m K₁ s₁.heap := X.ext x₁ k₁
 have X₃ : Lc S (newEnv sc' s₂.heap.objs.size mainGlobals (cloOf env sc'.names []) (env.qual ++ "<lambda>" ++ ".<locals>.") (some fl) (.ref c') none builtinsNs :: env1 :: stk) (newEnv sc' s₂.heap.objs.size mainGlobals (cloOf env sc'.names []) (env.qual ++ "<lambda>" ++ ".<locals>.") (some fl) (.ref c') none builtinsNs) (freeOf sc' m) K₁ h₃ := by
  refine lamLc X₁ ko l3 l2 l1 rfl rfl rfl rfl rfl (fun b o e => keep₃ b o (keep b o e)) (up₂ new₂) (T₂.kNone new₂) (noB new₂) (Fix.new T₂ new₂).2 hns fun b o e fx => ?_
  exact (fx.up hF (fun q => by rw [q, newL] at e; exact no_ns e)).up (L := s₂.heap.objs.size) rfl fun q => by rw [q, up₂ new₂] at e; exact no_ns e
 have ko₃ : KindOk S T.low sc' (newEnv sc' s₂.heap.objs.size mainGlobals (cloOf env sc'.names []) (env.qual ++ "<lambda>" ++ ".<locals>.") (some fl) (.ref c') none builtinsNs) := KindOk.self (S := S) (T := T.low) (env := newEnv sc' s₂.heap.objs.size mainGlobals (cloOf env sc'.names []) (env.qual ++ "<lambda>" ++ ".<locals>.") (some fl) (.ref c') none builtinsNs) fun q => nomatch q
 have h' := heardOf_sat _ h
 refine IE sc' body (freeOf sc' m) _ _ _ K₁ _ _ _ (ar1.deeper _) T₃ X₃ ko₃ (Tr.sat_mono (fun d g v K₄ s₄ T₄ x₄ k₄ rv => ?_) (fun wt a g e s₄ T₄ x₄ f₄ => ?_) _ h')
 ·refine wpAny_items_nil ⟨by rw [sizeLine_eq]; exact (by decide : (1 : Nat) ≤ 16777216), ?_⟩
  have T₄' : St S (env1 :: stk) K₄ s₄ := T₄.pop (L := s₂.heap.objs.size) rfl
  have x₄' : Ext S (env1 :: stk) s₂.heap s₄.heap := x₄.pop (L := s₂.heap.objs.size) rfl keep₃ new₂ fun J J J q => q
  have T₅ := T₄'.push H (o := { cls := .type "list", data := .seq [v].toArray }) rfl s₄.toks
  have x₅ : Ext S (env1 :: stk) s₂.heap (s₄.heap.push { cls := .type "list", data := .seq [v].toArray }) := x₄'.trans (ExtP.keeps fun J J e => Heap.get?_push_of_some _ e)
  have kn : K₄ s₄.heap.objs.size = none := T₄'.kNone (new_none _)
  have x₆ : Ext S stk s₁.heap (s₄.heap.push { cls := .type "list", data := .seq [v].toArray }) := x₅.pop hF keep newL fun J J J q => q
  refine g _ _ _ (T₅.pop hF) (x₁.trans x₆) (k₁.trans x₁ ⟨fun b o e => Kn.put_old kn _ _ (k₄.1 _ _ e), fun b o q => ?_⟩) (.list (n := 0) (Kn.put_self _ _ _) (.cons (rv.mono (Kn.put_old kn)) .nil))
  rcases Kn.put_inv q with q | ⟨q, _⟩
  ·exact (k₄.2 b o q).imp id fun z => up₂ (up₃ z)
  ·rw [q]; exact .inr (up₂ (x₄'.none (new_none _)))
 ·refine leaving_fly (s₀ := { s₂ with heap := h₃, toks := s₂.toks }) H T₃ T₄ x₄ (ar1.deeper _).frames rfl (L := s₂.heap.objs.size) rfl f₄ fun h₅ T₅ x₅ f₅ => ?_
  refine caught (s₀ := s₂) H EC EG ar1.frames tp hcells T₂ X₂ (T₅.pop (L := s₂.heap.objs.size) rfl) (x₅.pop (L := s₂.heap.objs.size) rfl keep₃ new₂ fun J J J q => q) (Fly.pop (L := s₂.heap.objs.size) rfl keep₃ f₅) kCls kErr fun s₆ T₆ X₆ x₆ hfx => ?_
  refine abs1 fun G0 hG0 => ?_
  obtain ⟨oe, vs, dx, fx⟩ := hfx
  refine hG0 ?_
  clear hG0 G0
  refine wpAny_execs_cons (wpAny_Return_some (wpAny_Tuple (wpAny_items_cons (pos := p4) (wpAny_Constant_str (wpAny_items_cons (pos := p4) (Attribute_name ?_))))))
  refine abs1 fun G0 hG0 => ?_
  obtain ⟨mv, hnv, hmv⟩ := X₆.ns
  obtain ⟨v, hv, rv⟩ := hmv "error" _ (by rw [Loc.lookup_set, if_pos rfl]) kErr
  refine hG0 ?_
  clear hG0 G0
  obtain rfl := rv.raw_v
  refine wpAny_Name (wpAny_loadName_local X₆.kind kErr hnv hv ?_) (by decide)
  refine fly_attr (s := { s₆ with toks := s₆.toks + 1 }) H EG (T₆.tok _) fx (fly_notCls fx) fun av ra => ?_
  refine wpAny_items_nil ⟨by rw [sizeLine_eq]; exact (by decide : (2 : Nat) ≤ 16777216), ?_⟩
  have kn : K₁ s₆.heap.objs.size = none := T₆.kNone (new_none _)
  have T₇ := T₆.push H (o := { cls := .type "tuple", data := .seq [.str "refused" s₆.toks, av].toArray }) rfl (s₆.toks + 1 + 1)
  have X₇ := X₆.ext (ExtP.keeps fun J J e => Heap.get?_push_of_some { cls := .type "tuple", data := .seq [.str "refused" s₆.toks, av].toArray } e) (KExt.put (o := { cls := .type "tuple", data := .seq [.str "refused" s₆.toks, av].toArray }) (new_none _) kn)
  refine goes_sound (s := { s₆ with heap := s₆.heap.push { cls := .type "tuple", data := .seq [.str "refused" s₆.toks, av].toArray }, toks := s₆.toks + 1 + 1 }) T₇ X₇ kErr fun h₈ tk T₈ kp hl => ?_
  obtain ⟨oL, eL⟩ := hl
  have x₈ : ExtP S (env1 :: stk) (Own env1) s₂.heap h₈ := (x₆.trans (ExtP.keeps fun J J e => Heap.get?_push_of_some _ e)).trans (extOwn (fun b nb => kp b fun z => nb (.inl z)) fun b o q e => by
   rcases q with rfl | ⟨p, hp, _⟩
   ·exact ⟨oL, eL⟩
   ·rw [hcells] at hp; cases hp)
  have x₉ : Ext S stk s₁.heap h₈ := x₈.pop hF keep newL own
  refine g _ _ _ (T₈.pop hF) (x₁.trans x₉) (k₁.trans x₁ ⟨fun b o e => Kn.put_old kn _ _ e, fun b o q => ?_⟩) (.tup (n := 0) (Kn.put_self _ _ _) (.cons (.str _ _) (.cons (ra.mono fun J J q => by exact no_ns q) .nil)))
  rcases Kn.put_inv q with q | ⟨q, _⟩
  ·exact .inl q
  ·rw [q]; exact .inr (up₂ (x₆.none (new_none _)))
end
structure OrdEq (S : Sta) : Prop where
 eq : findIn S.K (.ref S.cO) "__eq__" = some (some (.builtin "object.__eq__"))
 obj : mroIn S.K S.cO (.type "object") = some true
theorem str_eq_declines_inst (b : Str) (u : Tok) (l : Addr) (c : Addr) (cd : Addr) :
  Meets (Builtin.«str.__eq__» ⟨[.str b u, .ref l], []⟩) (fun J R s => s.heap.get? l = some ⟨.ref c, some cd, .plain, #[]⟩ ∧ R (.ok (.ret .notImplemented)) s) :=
 .of_wp fun prog w A R s h => by obtain ⟨hp, g, d, tk, os⟩ := s; obtain ⟨hl, h⟩ := h; wp_walk using wpAny_loadPart' hl, wpAny_load hl; exact ⟨_, rfl, h⟩
section
variable {prog : Program} {w : World} {S : Sta}
theorem eq_ord (H : StaOk S) (OE : OrdEq S) : EqOrd prog w S := by
 intro A stk K s x c d s' o i m y t Q E hu TS r hq
 cases r with
 | ord h1 h2 he =>
  rename_i dx es n
  have hx := (TS.kin _ _ h1).1
  have X := St.KIn H TS
  have I : W.InstAt s.heap x ⟨.ref S.cO, some dx, .plain, #[]⟩ S.cO (some (dictOf es n)) := ⟨hx, rfl, rfl, (TS.kin _ _ h2).1⟩
  have L0 := I.type (M := model prog w)
  have L1 := looks_findIn (M := model prog w) X OE.eq
  have L2 : Looks (model prog w) s.heap (isInstance (.ref x) (.type "object")) true := L0.andThen (looks_mroIn X OE.obj)
  have hu' : A.units < cLine := by lia
  have hsub : isSubtype (.type "str") (.ref S.cO) = pure false := by rw [isSubtype_type]; rfl
  have one : wpAny (model prog w) A (call (.builtin "object.__eq__") [.ref x, .str y t]) (fun v s₁ => v = .notImplemented ∧ s₁ = s) E s := by
   refine wpAny_call (codeAny_call_builtin PySem.F.cmp_object.eq.plain PySem.F.cmpEntry_eq (@check_slot (model prog w) _ _ s "object.__eq__" "object" "__eq__" (.ref x) [.str y t] [] _ PySem.F.cmpKind_eq PySem.F.cmpSplit_eq L2 (PySem.F.cmpArgs_eq _ _) ?_))
   unfold Builtin.«object.__eq__»
   refine wpAny_bind (wpAny_pure (wpAny_bind (wpAny_of_eq (rfl : isSame (.ref x) (.str y t) = pure false) ?_)))
   exact wpAny_pure ⟨rfl, rfl⟩
  have tc : ∀ {Q' : Option Value → Shared → Prop}, Q' none s → wpAny (model prog w) A (tryCompare (.ref x) "__eq__" (.str y t)) Q' E s := by
   intro Q' hq'
   unfold tryCompare
   refine wpAny_bind ?_
   unfold callSpecialIfBound? bindSpecialIfBound? specialOf
   refine wpAny_holding (wpAny_bind (wpAny_bind (wpAny_bind (L0.here (L1.here ?_)))))
   dsimp only
   rw [PySem.F.cmp_object.eq.bind]
   have fin : wpAny (model prog w) A (call (.builtin "object.__eq__") ([.ref x] ++ [.str y t]) >>= fun v => pure (some v)) (fun a s' => wpAny (model prog w) A (match a with | some .notImplemented | none => pure none | some v => pure (some v)) Q' E s') E s :=
    wpAny_bind (wpAny_mono one (fun v s' h' => by obtain ⟨rfl, rfl⟩ := h'; exact wpAny_pure (wpAny_pure hq')) fun J J h' => h')
   refine wpAny_bind (wpAny_askSetting (wpAny_ite ?_))
   split
   ·exact wpAny_bind (wpAny_pure (wpAny_pure fin))
   ·exact wpAny_tryCatch (wpAny_bind (wpAny_pure (wpAny_pure fin)))
  unfold richCompare
  rw [cmpInfo_Eq, oneThing_ref]
  refine wpAny_holding (wpAny_bind (wpAny_cRoomFor hu' ?_))
  refine wpAny_bind (L0.here (wpAny_bind (wpAny_pure ?_)))
  rw [if_pos (by simp), hsub]
  refine wpAny_bind (wpAny_pure ?_)
  dsimp only
  rw [if_neg Bool.false_ne_true]
  refine wpAny_bind (m := tryCompare (.ref x) _ (.str y t)) (tc ?_)
  refine wpAny_bind (m := tryCompare (.str y t) _ (.ref x)) (wpAny_tryCompare_declines (typeIs_str s y t) PySem.F.slot_str_eq_refl (call_meets PySem.F.slot_str_eq_refl (typeIs_str s y t) PySem.F.entry_str_eq (PySem.F.args_str_eq_2 _ _) (str_eq_declines_inst y t x S.cO dx) ⟨hx, rfl, ?_⟩))
  exact wpAny_bind (wpAny_rule (wpAny_bind (wpAny_of_eq (rfl : isSame (.ref x) (.str y t) = pure false) (wpAny_pure hq))))
end
noncomputable def listF : List D → Tr D
 | [.bytes l] => when (decide (l.length ≤ cap)) (.list (l.map .int))
 | _ => .bad
section
variable {prog : Program} {w : World} {A : Around} {E : Value → Shared → Prop} {s : Shared}
theorem init_list_bytes {R : Result → Shared → Prop} (hh : A.handled = none) (b : Array UInt8) (t : Tok) (S : Addr) (hS : s.heap.get? S = some { cls := .type "list", data := .seq #[] })
  (hR : ∀ h' tk acc' c', (∀ b o, b ≠ S → s.heap.get? b = some o → h'.get? b = some o) → h'.get? S = some { cls := .type "list", dict := none, data := .seq acc' c', slots := #[] } →
   ItemsOf (fun i v => ∃ c u, b[i]? = some c ∧ v = .int (c.toNat : Int) u) acc' b.size → R (.ok (.ret .none)) { s with heap := h', toks := tk }) (hn : b.size ≤ sizeLine) :
  wpAny (model prog w) A.in1 (Builtin.«list.__init__» ⟨[.ref S, .bytes b t], []⟩)
   (fun fin s' => match fin with | .done f => R (.ok f) s' | .again c' => c'.quiet = true ∧ codeAny (model prog w) A c' R s') (fun e s' => R (.error e) s') s := by
 show wpAny _ _ (do let old ← Builtin.List.listItems (.ref S); Builtin.List.listUpdate (.ref S) (fun J => #[]); letGo old.toList.reverse; Builtin.List.listExtendWith (.ref S) (.bytes b t) .none) _ _ s
 refine wpAny_bind ?_
 unfold Builtin.List.listItems
 refine wpAny_bind (wpAny_seqItems hS rfl (wpAny_pure ?_))
 show wpAny _ _ (updateSeq S (fun J => #[]) >>= fun J => letGo (#[] : Array Value).toList.reverse >>= fun J => Builtin.List.listExtendWith (.ref S) (.bytes b t) .none) _ _ s
 refine wpAny_bind (wpAny_updateSeq hS rfl ?_)
 have hS₂ := Heap.get?_update_self (Obj.mapSeq (fun J => (#[] : Array Value))) hS rfl
 have oth : ∀ b o, b ≠ S → s.heap.get? b = some o → (s.heap.update S (Obj.mapSeq (fun J => (#[] : Array Value)))).get? b = some o :=
  fun b o hb e => (Heap.get?_update_other _ _ (Ne.symm hb)).trans e
 refine wpAny_bind (wpAny_letGo ?_)
 have z : (s.heap.update S (Obj.mapSeq (fun J => (#[] : Array Value)))).objs.size = s.heap.objs.size := Heap.size_update ..
 have hSI : S ≠ (s.heap.update S (Obj.mapSeq (fun J => (#[] : Array Value)))).objs.size := by rw [z]; exact Nat.ne_of_lt (Heap.lt_size hS)
 have hSf : S ∉ [(s.heap.update S (Obj.mapSeq (fun J => (#[] : Array Value)))).objs.size] := fun hm => hSI (List.mem_singleton.mp hm)
 unfold Builtin.List.listExtendWith
 refine wpAny_bind (wpAny_typeOf (T := "bytes") (v := .bytes b t) rfl ?_)
 have h1 : Builtin.List.listSameRef (.ref S) (.bytes b t) = false := rfl
 have h2 : (Value.type "bytes" == Value.type "list") = false := by decide
 have h3 : (Value.type "bytes" == Value.type "tuple") = false := by decide
 simp only [h1, h2, h3, Bool.or_false, Bool.false_eq_true, if_false]
 refine wpAny_bind (KBw.pyIter_bytes ?_)
 refine wpAny_bind (wpAny_holding ?_)
 unfold Builtin.List.listLengthHint
 refine wpAny_bind (wpAny_specialOf (T := "bytes") (v := .bytes b t) rfl FB.slot_bytes_len.lookup ?_)
 wp_delta
 refine wpAny_bind (wpAny_isInstance (T := "bytes") (v := .bytes b t) (b := true) rfl (by rw [isSubtype_type]; kernel_rfl) ?_)
 show wpAny _ _ (typeOf (Value.bytes b t) >>= _) _ _ _
 refine wpAny_bind (wpAny_typeOf (T := "bytes") (v := .bytes b t) rfl ?_)
 refine wpAny_pure ?_
 rw [if_neg (by decide)]
 refine wpAny_pure ⟨plainId_quiet F.plain_extend_loop _, codeAny_extend_loopS (KBw.walks (A := A.in1) hh _ b t).toS hn _ hSf _ b.size 0 _ _ _ rfl (Nat.zero_le _) ⟨_, Heap.get?_push_size _ rfl, rfl, rfl⟩ (Heap.get?_push_of_some _ hS₂) (ItemsOf.nil _) fun s' acc' c' hm hS' hacc => ?_⟩
 rw [Moved.eq_with hm]
 refine hR s'.heap s'.toks acc' c' (fun b ob hb e => hm.heap b ob (fun hmem => ?_) (Heap.get?_push_of_some _ (oth b ob hb e))) hS' hacc
 rcases List.mem_cons.mp hmem with e' | hmem
 ·exact hb e'
 ·exact absurd (Heap.lt_size (oth b ob hb e)) (by rw [List.mem_singleton.mp hmem]; exact Nat.lt_irrefl _)
theorem call_list_bytes {Q : Value → Shared → Prop} (hh : A.handled = none) (b : Array UInt8) (t : Tok)
  (hQ : ∀ h' tk acc' c', (∀ b o, s.heap.get? b = some o → h'.get? b = some o) →
   h'.get? s.heap.objs.size = some { cls := .type "list", dict := none, data := .seq acc' c', slots := #[] } → ItemsOf (fun i v => ∃ c u, b[i]? = some c ∧ v = .int (c.toNat : Int) u) acc' b.size → Q (.ref s.heap.objs.size) { s with heap := h', toks := tk }) (hn : b.size ≤ sizeLine) :
  wpAny (model prog w) A (call (.type "list") [.bytes b t]) Q E s := by
 refine callType_codes (Q₁ := fun obj s₁ => obj = .ref s.heap.objs.size ∧ s₁ = { s with heap := s.heap.push { cls := .type "list", data := .seq #[] } }) F.called_list (F.typeCall_list_1 _) F.entry_list_init
  (code_list_new _ ⟨rfl, rfl⟩) fun obj s₁ h₁ => ?_
 obtain ⟨rfl, rfl⟩ := h₁
 have hS : (s.heap.push { cls := .type "list", data := .seq #[] }).get? s.heap.objs.size = some { cls := .type "list", data := .seq #[] } := Heap.get?_push_size _ rfl
 refine ⟨⟨_, hS, rfl⟩, F.args_list_init_2 _ _, init_list_bytes (A := A.in1) (hn := hn) hh b t _ hS fun h' tk acc' c' hk hS' hacc => ?_⟩
 exact ⟨rfl, hQ h' tk acc' c' (fun b o e => hk b o (Nat.ne_of_lt (Heap.lt_size e)) (Heap.get?_push_of_some _ e)) hS' hacc⟩
variable {S : Sta} {K : Kn} {k : Nat}
theorem reps_bytes : ∀ (l : List UInt8) (vs : List Value), vs.length = l.length → (∀ (i : Nat) (v : Value), vs[i]? = some v → ∃ (c : UInt8) (u : Tok), l[i]? = some c ∧ v = Value.int (c.toNat : Int) u) → Reps S K vs ((l.map fun c => (c.toNat : Int)).map D.int) := by
 intro l
 induction l with
 | nil => intro vs e _; rw [List.eq_nil_of_length_eq_zero e]; exact .nil
 | cons c l ih =>
  intro vs e h
  induction vs using List.casesOn with
  | nil => cases e
  | cons v vs =>
   obtain ⟨c', u, e1, rfl⟩ := h 0 v rfl
   obtain rfl := Option.some.inj (show some c = some c' from e1)
   exact .cons (.int _ _) (ih vs (Nat.succ.inj e) fun i v hv => h (i + 1) v hv)
theorem list_spec (H : StaOk S) : FnSpec prog w S k (.type "list") listF := by
 intro A stk K s vs ds Q E ar TS rs h
 induction ds using List.casesOn with
 | nil => exact h.elim
 | cons d ds =>
  induction ds using List.casesOn with
  | cons => cases d <;> exact h.elim
  | nil =>
   obtain ⟨v, rfl, r⟩ := rs.one_v
   induction d using D.casesOn with
   | bytes l =>
    obtain ⟨b, t, rfl, rfl⟩ := r.bytes_v
    obtain ⟨c, g⟩ := when_sat (show (Rg.when _ _).sat _ _ from h)
    have c' := of_decide_eq_true c
    rw [KBw.ints_length] at c'
    unfold cap at c'
    refine call_list_bytes ar.hand b t (fun h' tk acc' c₁ hk hS hacc => ?_) (by rw [sizeLine_eq]; lia)
    have hS' : h'.get? s.heap.objs.size = some { cls := .type "list", data := .seq acc'.toList.toArray c₁ } := by simpa using hS
    have kn : K s.heap.objs.size = none := TS.kNone (new_none _)
    refine g _ _ _ (TS.put H hk (new_none _) hS' tk) (ExtP.keeps hk) (KExt.put (new_none _) kn) (.list (Kn.put_self _ _ _) ?_)
    exact reps_bytes _ _ (by simpa using hacc.1) fun i v hv => by simpa using hacc.2 i v (by simpa using hv)
   | _ => exact h.elim
end
noncomputable def isL : D → Bool
 | .list _ => true
 | _ => false
noncomputable def itemsD : D → List D
 | .list xs => xs
 | _ => []
noncomputable def sumLF : List D → Tr D
 | [.list xs, .list ys] => when (xs.all isL && decide (ys.length + (xs.flatMap itemsD).length ≤ cap) && decide (xs.length ≤ cap)) (.list (ys ++ xs.flatMap itemsD))
 | [.list xs] => when (allI xs && decide (xs.length ≤ cap)) (.int (intsOf xs).sum)
 | _ => .bad
section
variable {prog : Program} {w : World} {A : Around} {E : Value → Shared → Prop} {S : Sta} {K : Kn} {R : Result → Shared → Prop} {h₀ : Heap} {I ax St : Addr} {items : Array Value}
theorem list_items : ∀ {xs : List D} {vs : List Value}, Reps S K vs xs → xs.all isL = true → ∀ {i : Nat} {v : Value}, vs[i]? = some v → ∃ l us n ds, v = .ref l ∧ K l = some { cls := .type "list", data := .seq us.toArray n } ∧ Reps S K us ds ∧ xs[i]? = some (.list ds) := by
 intro xs
 induction xs with
 | nil => intro vs rs _ i v e; rw [rs.nil_v] at e; exact absurd e.symm (Option.some_ne_none _)
 | cons x xs ih =>
  intro vs rs h i v e
  obtain ⟨u, us, rfl, r, rs⟩ := rs.cons_v
  rw [List.all_cons, Bool.and_eq_true] at h
  induction i using Nat.casesOn with
  | zero =>
   obtain rfl := Option.some.inj (show some u = some v from e)
   induction x using D.casesOn with
   | list ds =>
    obtain ⟨a, us, n, rfl, k, q⟩ := r.list_v
    exact ⟨_, _, _, _, rfl, k, q, rfl⟩
   | _ => exact absurd h.1 Bool.false_ne_true
  | succ i => exact ih rs h.2 (i := i) e
theorem sum_loopL (hh : A.handled = none) (hne : ax ≠ I) (hK : ∀ a o, K a = some o → h₀.get? a = some o) (hI : h₀.get? I = none) (hS : h₀.get? St = none) (hIS : St ≠ I) {vs : List Value} {xs : List D} (rs : Reps S K vs xs) (hl : xs.all isL = true) (hax : h₀.get? ax = some { cls := .type "list", data := .seq vs.toArray n₀ }) :
  ∀ (k i : Nat) (s : Shared) (tot : Addr) (c cc : Nat) (us : List Value) (ds : List D), vs.length - i = k → i ≤ vs.length → (s.heap.IsListIter I ax i) → (∀ b o, h₀.get? b = some o → s.heap.get? b = some o) → s.heap.get? St = some { cls := .type "list", dict := none, data := .seq #[.ref tot] c, slots := #[] } →
   s.heap.get? tot = some { cls := .type "list", data := .seq us.toArray cc } → tot ≠ St → tot ≠ I → Reps S K us ds → ds.length + ((xs.drop i).flatMap itemsD).length ≤ cap →
   (∀ h' tk tot' us' cc', (∀ b o, h₀.get? b = some o → h'.get? b = some o) → h'.get? tot' = some { cls := .type "list", data := .seq us'.toArray cc' } → Reps S K us' (ds ++ (xs.drop i).flatMap itemsD) → (tot' = tot ∨ h₀.get? tot' = none) → R (.ok (.ret (.ref tot'))) { s with heap := h', toks := tk }) →
   codeAny (model prog w) A (.builtin "sum.loop" ⟨[.ref I, .ref St, rawInt 2, rawInt 0], []⟩) R s := by
 intro k
 have W := Walks.list (prog := prog) (w := w) (A := A.in1) hh I ax hne vs.toArray
 induction k with
 | zero =>
  intro i s tot c cc us ds hk hi hit h0 hSt ht n1 n2 ru hz hR
  have hin : i = vs.length := by lia
  refine codeAny_builtin F.entry_sum_loop ?_
  rw [Around.under_plainId F.plain_sum_loop _]
  show wpAny _ A.in1 (seqItems? (.ref St) >>= _) _ _ s
  refine wpAny_bind (wpAny_seqItems hSt rfl ?_)
  show wpAny _ A.in1 (tryCatch (pyNext (.ref I)) _ >>= _) _ _ s
  refine wpAny_bind (wpAny_tryCatch (W.done s _ _ ⟨by rw [List.size_toArray, ← hin]; exact hit, ⟨_, h0 _ _ hax, rfl, n₀, rfl⟩⟩ fun h' tk hk' => ?_))
  have hd : xs.drop i = [] := List.drop_eq_nil_of_le (by rw [hin, rs.length]; exact Nat.le_refl _)
  refine wpAny_pure (hR h' tk tot us cc (fun b o e => hk' b o (fun q => by rw [List.mem_singleton.mp q, hI] at e; exact no_ns e) (h0 b o e)) (hk' _ _ (fun q => n2 (List.mem_singleton.mp q)) ht) (by rw [hd]; simpa using ru) (.inl rfl))
 | succ k ih =>
  intro i s tot c cc us ds hk hi hit h0 hSt ht n1 n2 ru hz hR
  have hlt : i < vs.length := by lia
  refine codeAny_builtin F.entry_sum_loop ?_
  rw [Around.under_plainId F.plain_sum_loop _]
  show wpAny _ A.in1 (seqItems? (.ref St) >>= _) _ _ s
  refine wpAny_bind (wpAny_seqItems hSt rfl ?_)
  show wpAny _ A.in1 (tryCatch (pyNext (.ref I)) _ >>= _) _ _ s
  refine wpAny_bind (wpAny_tryCatch (W.item i s _ _ (by simpa using hlt) ⟨hit, ⟨_, h0 _ _ hax, rfl, n₀, rfl⟩⟩ fun v h' tk hP hst' hk' => ?_))
  refine abs1 fun G0 hG0 => ?_
  obtain ⟨l, ws, n, es, rfl, hl', rw', hx⟩ := list_items rs hl (i := i) (v := v) (by simpa using hP)
  refine hG0 ?_
  clear hG0 G0
  have k0 : ∀ b o, h₀.get? b = some o → h'.get? b = some o := fun b o e => hk' b o (fun q => by rw [List.mem_singleton.mp q, hI] at e; exact no_ns e) (h0 b o e)
  have hS' := hk' St _ (fun q => hIS (List.mem_singleton.mp q)) hSt
  have ht' := hk' tot _ (fun q => n2 (List.mem_singleton.mp q)) ht
  have hll := k0 _ _ (hK _ _ hl')
  have hdrop : xs.drop i = .list es :: xs.drop (i + 1) := by
   obtain ⟨hj, e⟩ := List.getElem?_eq_some_iff.mp hx
   rw [List.drop_eq_getElem_cons hj, e]
  have hz' : us.length + ws.length ≤ cap := by
   rw [hdrop, List.flatMap_cons, List.length_append] at hz
   have := ru.length
   have := rw'.length
   have e : (itemsD (.list es)).length = es.length := rfl
   lia
  unfold cap at hz'
  show wpAny _ A.in1 ((holding [Value.ref l] (binaryOp .Add (.ref tot) (.ref l))).attempt >>= _) _ _ _
  refine wpAny_bind (wpAny_attempt (wpAny_holding ?_))
  refine concat_meets ⟨_, ht', rfl⟩ ⟨_, hll, rfl⟩ noFill_list_add seq_list_add PySem.F.slot_list_add PySem.F.entry_list_add (PySem.F.args_list_add_2 _ _)
   (list_addW tot l us.toArray ws.toArray cc n none none #[] #[] (by rw [sizeLine_eq]; simp; lia)) ⟨ht', hll, ?_⟩
  rw [show us.toArray ++ ws.toArray = (us ++ ws).toArray by simp]
  have hS2 := Heap.get?_push_of_some { cls := .type "list", data := .seq (us ++ ws).toArray } hS'
  refine wpAny_bind (wpAny_updateSeq hS2 rfl (wpAny_bind (wpAny_letGo ?_)))
  have hS3 := Heap.get?_update_self (Obj.mapSeq fun J => #[Value.ref h'.objs.size]) hS2 rfl
  refine wpAny_bind (wpAny_updateSeq hS3 rfl (wpAny_pure ⟨plainId_quiet F.plain_sum_loop _, ?_⟩))
  have hS4 := Heap.get?_update_self (Obj.mapSeq fun J => #[Value.ref h'.objs.size]) hS3 rfl
  have k1 : ∀ b o, b ≠ St → h'.get? b = some o → (((h'.push { cls := .type "list", data := .seq (us ++ ws).toArray }).update St (Obj.mapSeq fun J => #[Value.ref h'.objs.size])).update St (Obj.mapSeq fun J => #[Value.ref h'.objs.size])).get? b = some o := fun b o nb e =>
   (upd_other _ _ nb).trans ((upd_other _ _ nb).trans (Heap.get?_push_of_some _ e))
  have nT : h'.objs.size ≠ St := Ne.symm (Nat.ne_of_lt (Heap.lt_size hS'))
  have nI : h'.objs.size ≠ I := by
   obtain ⟨o, e, _⟩ := hst'.1
   exact Ne.symm (Nat.ne_of_lt (Heap.lt_size e))
  have new0 : h₀.get? h'.objs.size = none := by
   cases q : h₀.get? h'.objs.size with
   | none => rfl
   | some o => have := k0 _ _ q; rw [new_none] at this; exact no_ns this
  refine ih (i + 1) _ h'.objs.size _ _ (us ++ ws) (ds ++ es) (by lia) hlt (hst'.1.at fun o e => k1 I o (Ne.symm hIS) e) (fun b o e => k1 b o (fun q => by rw [q, hS] at e; exact no_ns e) (k0 b o e)) hS4 ((upd_other _ _ nT).trans ((upd_other _ _ nT).trans (Heap.get?_push_size _ rfl))) nT nI (ru.append rw') ?_ fun h2 tk2 tot2 us2 cc2 q1 q2 q3 q4 => ?_
  ·rw [hdrop, List.flatMap_cons, List.length_append] at hz
   rw [List.length_append]
   have e : (itemsD (.list es)).length = es.length := rfl
   lia
  ·refine hR h2 tk2 tot2 us2 cc2 q1 q2 ?_ (.inr ?_)
   ·rw [hdrop, List.flatMap_cons, ← List.append_assoc]; exact q3
   ·rcases q4 with rfl | q4
    ·exact new0
    ·exact q4
end
theorem subL_str : isSubtype (.type "list") (.type "str") = pure false := by rw [isSubtype_type]; kernel_rfl
theorem subL_bytes : isSubtype (.type "list") (.type "bytes") = pure false := by rw [isSubtype_type]; kernel_rfl
theorem subL_bytearray : isSubtype (.type "list") (.type "bytearray") = pure false := by rw [isSubtype_type]; kernel_rfl
theorem args_sum2 (a b : Value) : argsOk "sum" ⟨[a, b], []⟩ := by unfold argsOk; kernel_rfl
section
variable {prog : Program} {w : World} {S : Sta} {k : Nat}
theorem sumL_spec (H : StaOk S) : FnSpec prog w S k (.builtin "sum") sumLF := by
 intro A stk K s vs ds Q E ar TS rs h
 have rs0 := rs
 clear rs0
 induction ds using List.casesOn with
 | nil => exact h.elim
 | cons d ds =>
  induction ds using List.casesOn with
  | nil =>
   refine sum_spec H A stk K s _ _ Q E ar TS rs ?_
   clear rs
   cases d <;> exact h
  | cons d2 ds =>
    induction d using D.casesOn with
    | list xs =>
     induction ds using List.casesOn with
     | cons => cases d2 <;> exact h.elim
     | nil =>
      induction d2 using D.casesOn with
      | list ys =>
       obtain ⟨_, _, rfl, r, r2⟩ := rs.two_v
       obtain ⟨l, vs, j, rfl, ha, rx⟩ := r.list_v
       obtain ⟨l', vs', j', rfl, hb, ry⟩ := r2.list_v
       clear rs r r2
       obtain ⟨c, g⟩ := when_sat (show (Rg.when _ _).sat _ _ from h)
       simp only [Bool.and_eq_true, decide_eq_true_eq] at c
       obtain ⟨⟨c1, c2⟩, c3⟩ := c
       obtain ⟨ea, fa⟩ := TS.kin _ _ ha
       obtain ⟨eb, fb⟩ := TS.kin _ _ hb
       refine call_function_tree F.kind_sum F.plain_sum F.entry_sum (args_sum2 _ _) ?_
       unfold Builtin.«sum»
       rw [if_neg (by exact Nat.lt_irrefl 2)]
       refine wpAny_bind (wpAny_of_eq (show Builtin.Builtins.bindParams "sum" ["start"] 0 ⟨[.ref l'], []⟩ = pure [some (.ref l')] from rfl) ?_)
       refine wpAny_bind (wpAny_pyIter_list (lst_is TS ha) ?_)
       refine wpAny_bind (wpAny_pure ?_)
       have keep : ∀ b o, s.heap.get? b = some o → (s.heap.push { cls := .type "list_iterator", data := .fields #[.ref l, .int 0 0] }).get? b = some o := fun J J e => Heap.get?_push_of_some _ e
       dsimp only
       rw [List.forIn_cons]
       refine wpAny_bind (wpAny_bind (wpAny_bind (wpAny_isInstance (T := "list") (b := false) ⟨_, keep _ _ eb, rfl⟩ subL_str ?_)))
       rw [if_neg Bool.false_ne_true]
       refine wpAny_pure ?_
       refine wpAny_bind (wpAny_bind (wpAny_isInstance (T := "list") (b := false) ⟨_, keep _ _ eb, rfl⟩ subL_bytes ?_))
       rw [if_neg Bool.false_ne_true]
       refine wpAny_pure ?_
       refine wpAny_bind (wpAny_bind (wpAny_isInstance (T := "list") (b := false) ⟨_, keep _ _ eb, rfl⟩ subL_bytearray ?_))
       rw [if_neg Bool.false_ne_true]
       refine wpAny_pure (wpAny_pure ?_)
       refine wpAny_bind (wpAny_newObj_type ?_ (by show (1 : Nat) ≤ sizeLine; rw [sizeLine_eq]; decide))
       have z : (s.heap.push { cls := .type "list_iterator", data := .fields #[.ref l, .int 0 0] }).objs.size = s.heap.objs.size + 1 := Heap.size_push ..
       have keep2 : ∀ b o, s.heap.get? b = some o → ((s.heap.push { cls := .type "list_iterator", data := .fields #[.ref l, .int 0 0] }).push { cls := .type "list", data := .seq #[.ref l'] }).get? b = some o := fun b o e => Heap.get?_push_of_some _ (keep _ _ e)
       have lb := Heap.lt_size eb
       have la := Heap.lt_size ea
       refine wpAny_pure ⟨plainId_quiet F.plain_sum_loop _, sum_loopL (h₀ := s.heap) (n₀ := j) ar.hand (Nat.ne_of_lt la) (fun a o e => (TS.kin a o e).1) (new_none _) (Heap.get?_none_of_le (by rw [z]; exact Nat.le_succ _)) (by rw [z]; exact Nat.succ_ne_self _) rx c1 ea
        vs.length 0 _ l' 0 j' vs' ys rfl (Nat.zero_le _) ⟨_, Heap.get?_push_of_some _ (Heap.get?_push_size _ rfl), rfl, rfl⟩ keep2 (Heap.get?_push_size _ rfl) (keep2 _ _ eb) (by rw [z]; exact Nat.ne_of_lt (Nat.lt_succ_of_lt lb)) (Nat.ne_of_lt lb) ry (by simpa using c2)
        fun h' tk tot us cc q1 q2 q3 q4 => ?_⟩
       have q3' : Reps S K us (ys ++ xs.flatMap itemsD) := by simpa using q3
       rcases q4 with rfl | q4
       ·have := q1 _ _ eb
        rw [this] at q2
        have q5 := congrArg Obj.data (Option.some.inj q2)
        obtain ⟨e1, e2⟩ := Data.seq.inj q5
        have e3 : vs' = us := by simpa using congrArg Array.toList e1
        subst e3
        exact g _ K _ (TS.grow H q1 tk) (ExtP.keeps q1) (KExt.refl _ _) (.list hb q3')
       ·have kn : K tot = none := TS.kNone q4
        exact g _ _ _ (TS.put H q1 q4 q2 tk) (ExtP.keeps q1) (KExt.put q4 kn) (.list (Kn.put_self _ _ _) (q3'.mono (Kn.put_old kn)))
      | _ => exact h.elim
    | _ => exact h.elim
end
section
variable {prog : Program} {w : World} {S : Sta} {T : Tab} {k kk : Nat} {M : Model}
variable {A : Around} {stk outer : List Env} {K K' K₀ : Kn} {s s₀ : Shared} {env : Env} {E : Value → Shared → Prop} {h h' h₀ h₁ h₂ : Heap} {m m' : Loc} {sc : Scope} {n : Nat}
variable {Q : Flow → Shared → Prop} {a : Addr} {vs : List Value}
structure Mut (S : Sta) (stk : List Env) (env : Env) (K : Kn) (h : Heap) (a : Addr) (vs : List Value) : Prop where
 obj : ∃ n, h.get? a = some { cls := .type "list", data := .seq vs.toArray n }
 kn : K a = none
 base : S.B.get? a = none
 fix : Fix S stk a
 own : ¬ Own env a
theorem Mut.ext (x : Mut S stk env K h a vs) (e : Ext S stk h h') (kx : KExt h K K') : Mut S stk env K' h' a vs := by
 obtain ⟨n, ho⟩ := x.obj
 refine ⟨⟨n, e.get ho x.fix id⟩, ?_, x.base, x.fix, x.own⟩
 cases q : K' a with
 | none => rfl
 | some o =>
  rcases kx.2 a o q with z | z
  ·rw [x.kn] at z; exact no_ns z
  ·rw [ho] at z; exact no_sn z
theorem Mut.own' (x : Mut S stk env K h a vs) (kp : ∀ b, ¬ Own env b → h'.get? b = h.get? b) : Mut S stk env K h' a vs := by
 obtain ⟨n, ho⟩ := x.obj
 exact ⟨⟨n, (kp a x.own).trans ho⟩, x.kn, x.base, x.fix, x.own⟩
theorem Mut.extP (x : Mut S stk env K h a vs) (e : ExtP S stk (Own env) h h') (kx : KExt h K K') : Mut S stk env K' h' a vs := by
 obtain ⟨n, ho⟩ := x.obj
 refine ⟨⟨n, e.get ho x.fix x.own⟩, ?_, x.base, x.fix, x.own⟩
 cases q : K' a with
 | none => rfl
 | some o =>
  rcases kx.2 a o q with z | z
  ·rw [x.kn] at z; exact no_ns z
  ·rw [ho] at z; exact no_sn z
theorem Mut.loose (x : Mut S stk env K h a vs) : Loose S stk K h h' a := by
 obtain ⟨n, ho⟩ := x.obj
 exact ⟨x.base, x.kn, x.fix.2, fun o e q => by rw [ho] at e; obtain rfl := Option.some.inj e; exact absurd q.1 (by intro z; injection z with z; exact absurd z (by decide)), fun q => absurd q x.fix.1⟩
theorem Mut.freeze (x : Mut S stk env K s.heap a vs) (TS : St S stk K s) : ∃ n, St S stk (K.put a { cls := .type "list", data := .seq vs.toArray n }) s := by
 obtain ⟨n, ho⟩ := x.obj
 refine ⟨n, TS.more fun b o q => ?_⟩
 rcases Kn.put_inv q with q | ⟨rfl, rfl⟩
 ·exact .inl q
 ·exact .inr ⟨ho, x.fix⟩
theorem Lc.sub (X : Lc S stk env m K h) (hm : ∀ x d, m'.lookup x = some d → m.lookup x = some d) : Lc S stk env m' K h :=
 ⟨X.kind, X.glob, X.blt, let ⟨mv, a, b⟩ := X.ns; ⟨mv, a, fun x d e q => b x d (hm x d e) q⟩, fun x d e q => X.cel x d (hm x d e) q, X.hav, X.lK, X.lB, X.lT, X.cOk, X.inj⟩
theorem tuple_raw (H : StaOk S) (IE : SoundE prog w S T k kk) (ar : Ar A stk k) (ko : KindOk S T sc env) (TS : St S stk K s) (X : Lc S stk env m K s.heap) {ts : List PySem.Expr} {j : Nat} {tp : Pos} {v : PySem.Expr} {p : Pos}
  (c : (plainE v && allStor sc ts && distinctN ts && swapOk v) = true)
  (h : (ev T kk sc v m).sat (fun d => ∃ ds m', (d = .tup ds ∨ d = .list ds) ∧ setAll ts ds m = some m' ∧ ∀ K' s', St S stk K' s' → ExtP S stk (Own env) s.heap s'.heap → KExt s.heap K K' → Lc S stk env m' K' s'.heap → Q .next s') (fun w a => Fall S stk s K w a E)) :
  wpAny (model prog w) A (exec (.Assign [.Tuple ts j tp] v p) env) Q E s := by
 simp only [Bool.and_eq_true] at c
 obtain ⟨⟨⟨c1, c2⟩, c3⟩, c4⟩ := c
 have sw : swapsWithSole [.Tuple ts j tp] v p.line env = pure false := by
  have e : swapsWithSole [.Tuple ts j tp] v p.line env = swapsWith v (some (.Tuple ts j tp)) p.line env := by cases v <;> rfl
  rw [e]
  exact plain_swaps c1
 show wpAny _ _ (standAt p >>= fun J => swapsWithSole [.Tuple ts j tp] v p.line env >>= fun b => if b = true then (do
  evalThenUse v env fun v => assignAll v ((assignEach [.Tuple ts j tp] env).map (·.2))
  pure .next) else eval v env >>= fun u => swappedStores [.Tuple ts j tp] v env >>= fun nm => assignStores env u nm ((assignEach [.Tuple ts j tp] env).map (·.2))) _ _ s
 rw [sw]
 refine wpAny_bind (wpAny_standAt (wpAny_bind (wpAny_pure ?_)))
 rw [if_neg Bool.false_ne_true]
 refine wpAny_bind (IE sc v m env A stk K s _ E ar TS X ko (Tr.sat_mono (fun d hd => ?_) (fun J J q => q) _ h))
 intro u K₁ s₁ T₁ x₁ k₁ r₁
 refine abs1 fun G0 hG0 => ?_
 obtain ⟨ds, m', hd, hm, hq⟩ := hd
 refine hG0 ?_
 clear hG0 G0
 have X₁ := X.ext x₁ k₁
 have go : ∀ {us : List Value}, Reps S K₁ us ds → ((∃ a, u = .ref a ∧ s₁.heap.IsTuple a us.toArray) ∨ (∃ a, u = .ref a ∧ s₁.heap.IsList a us.toArray)) →
   wpAny (model prog w) A (swappedStores [.Tuple ts j tp] v env >>= fun nm => assignStores env u nm ((assignEach [.Tuple ts j tp] env).map (·.2))) Q E s₁ := by
  intro us rs hu
  have fin : ∀ s', St S stk K₁ s' → ExtP S stk (Own env) s₁.heap s'.heap → Lc S stk env m' K₁ s'.heap → Q .next s' := fun s' T' x' X' => hq K₁ s' T' ((Ext.p x₁).trans x') k₁ X'
  rcases swapped_cases (env := env) (tk := j) (tp := tp) c2 c4 with e | ⟨e, hk⟩
  ·rw [e]
   exact wpAny_bind (wpAny_pure (tuple_assign H ko ar T₁ X₁ c2 c3 rs hu hm (.inl rfl) fin))
  ·rw [e]
   exact wpAny_bind (wpAny_pure (tuple_assign H ko ar T₁ X₁ c2 c3 rs hu hm (.inr ⟨rfl, hk⟩) fin))
 rcases hd with rfl | rfl
 ·obtain ⟨_, _, _, rfl, ha, rs⟩ := r₁.tup_v
  exact go rs (.inl ⟨_, rfl, tup_is T₁ ha⟩)
 ·obtain ⟨_, _, _, rfl, ha, rs⟩ := r₁.list_v
  exact go rs (.inr ⟨_, rfl, lst_is T₁ ha⟩)
theorem append_raw (H : StaOk S) (IE : SoundE prog w S T k kk) (ar : Ar A stk k) (ko : KindOk S T sc env) (TS : St S stk K s) (X : Lc S stk env m K s.heap) (U : Mut S stk env K s.heap a vs) {x : Str} {xp ap cp p : Pos} {e : PySem.Expr} (hx : m.lookup x = some (.raw (.ref a))) (hk : env.kindOf x = some .local) (hd : (x == ("__debug__" : Str)) = false)
  (hl : (ap.endLine == cp.line) = true) (he : starE e = false) (hz : vs.length ≤ 1048576)
  (h : (ev T kk sc e m).sat (fun d => ∀ (v : Value) (K₁ : Kn) (s₁ : Shared) (h' : Heap), Rep S K₁ v d → St S stk K₁ { s₁ with heap := h' } → Ext S stk s.heap s₁.heap → KExt s.heap K K₁ → Lc S stk env m K₁ h' → Mut S stk env K₁ h' a (vs ++ [v]) → (∀ b, b ≠ a → h'.get? b = s₁.heap.get? b) → Q .next { s₁ with heap := h' }) (fun w a => Fall S stk s K w a E)) :
  wpAny (model prog w) A (exec (.Expr (.Call (.Attribute (.Name x xp) "append" ap) [e] [] cp) p) env) Q E s := by
 refine wpAny_Expr_any ?_ (by unfold interactive; rw [X.kind]; rfl) rfl
 refine method_step rfl hl (by show (match starE e with | true => false | false => noStars []) = true; rw [he]; rfl) (by exact (by decide : (1 : Nat) < 30)) ?_
 refine abs1 fun G0 hG0 => ?_
 obtain ⟨mv, hn, hm⟩ := X.ns
 obtain ⟨v₀, hv, rv⟩ := hm x _ hx hk
 refine hG0 ?_
 clear hG0 G0
 obtain rfl := rv.raw_v
 refine wpAny_Name (wpAny_loadName_local X.kind hk hn hv ?_) hd
 intro pl
 obtain ⟨n, ho⟩ := U.obj
 refine Calls.getMethod_list_append ho rfl rfl ?_
 refine callWith_of (P := fun J => True) (by rw [starEach_cons he]; rfl) (keeps_builtin _) ?_
 suffices q : wpAny (model prog w) A (spliced (backTo cp (starEach [e] env))) (fun us s' => True ∧ wpAny (model prog w) A (call (.builtin "list.append") ([.ref a] ++ us) []) (fun J => Q .next) E s') E s by
  rw [starEach_cons he] at q ⊢
  exact evalArgs_plain q
 refine wpAny_items_cons ?_ (starEach_cons he)
 refine IE sc e m env A stk K s _ E ar TS X ko (Tr.sat_mono (fun d hd => ?_) (fun J J q => q) _ h)
 intro v K₁ s₁ T₁ x₁ k₁ r₁
 refine wpAny_items_nil ⟨trivial, ?_⟩
 have U₁ := U.ext x₁ k₁
 obtain ⟨n₁, ho₁⟩ := U₁.obj
 refine append_at ho₁ (fun h' sb ho' => ?_) (by rw [sizeLine_eq, List.size_toArray]; lia)
 have T₂ : St S stk K₁ { s₁ with heap := h' } := T₁.alter (P := (· = a)) (fun b q => q ▸ U₁.loose) (fun b o nb q => (sb.2 b nb).trans q) s₁.toks
 have X₂ : Lc S stk env m K₁ h' := (X.ext x₁ k₁).keep (fun b o ow q => (sb.2 b fun z => U₁.own (z ▸ ow)).trans q) (KExt.refl _ _)
 exact hd v K₁ s₁ h' r₁ T₂ x₁ k₁ X₂ ⟨⟨n₁ + 1, by rw [ho']; simp⟩, U₁.kn, U₁.base, U₁.fix, U₁.own⟩ sb.2
end
theorem entry_unchain : entryFor table "proto.unchain" = some Builtin.«proto.unchain» := entryFor_of_tree (by kernel_rfl)
theorem plain_unchain : plainId "proto.unchain" = true := by decide +kernel
section
variable {prog : Program} {w : World} {S : Sta} {A A' : Around} {E : Value → Shared → Prop} {s s₀ : Shared} {c e dx : Addr} {env : Env} {stk outer : List Env} {K : Kn} {m : Loc} {h h₁ h₂ : Heap} {wt : Str} {a : D} {fl : Value} {L : Addr}
theorem raise_in (EC : ErrCls (model prog w) S) {env : Env} {x : Sem Value} {Q : Flow → Shared → Prop} (hh : A.handled = some (.ref c))
  (h : wpAny (model prog w) A x (fun v s₁ => ∃ e oe vs oc ws, v = .ref e ∧ S.K.In s₁.heap ∧ s₁.heap.get? e = some oe ∧ oe.cls = .ref S.cE ∧ oe.data = .fields vs ∧ vs[1]? = some .none ∧ 2 < vs.size ∧ c ≠ e ∧ s₁.heap.get? c = some oc ∧ oc.data = .fields ws ∧ ws[2]? = some .none ∧
   E (.ref e) { s₁ with heap := s₁.heap.update e (Obj.mapFields (·.setIfInBounds 2 (.ref c))) }) E s) : wpAny (model prog w) A (raiseStmt env (some x) none) Q E s := by
 unfold raiseStmt
 refine wpAny_bind (wpAny_mono h (fun v s₁ h₁ => ?_) fun J J x => x)
 refine abs1 fun G0 hG0 => ?_
 obtain ⟨e, oe, vs, oc, ws, rfl, KI, he, hc, hd, h1, h2, hne, hoc, hod, hctx, hE⟩ := h₁
 refine hG0 ?_
 clear hG0 G0
 have k : ∀ b o, s₁.heap.get? b = some o → s₁.heap.get? b = some o := fun J J q => q
 have ty : Looks (model prog w) s₁.heap (typeOf (.ref e)) (.ref S.cE) := hc ▸ (Looks.ld he).andThen .now
 have nt : Looks (model prog w) s₁.heap (isType (.ref e)) false := by
  unfold isType
  refine (Looks.ld he).andThen ?_
  rw [hd]
  exact .now
 refine wpAny_bind (wpAny_pure (wpAny_bind (wpAny_holding ?_)))
 unfold excFromValue isExcClass isInstance
 refine wpAny_bind (wpAny_bind (nt A _ E s₁ k ?_))
 rw [if_neg Bool.false_ne_true]
 refine wpAny_pure ?_
 rw [if_neg Bool.false_ne_true]
 refine wpAny_bind (wpAny_bind (ty A _ E s₁ k (EC.base _ KI A _ E s₁ k ?_)))
 rw [if_pos rfl]
 refine wpAny_pure ?_
 dsimp only
 refine wpAny_bind (nt A _ E s₁ k ?_)
 rw [if_neg Bool.false_ne_true]
 unfold raisedInstance
 refine wpAny_bind (wpAny_bind (ty A _ E s₁ k (wpAny_bind (EC.own _ KI A _ E s₁ k ?_))))
 rw [if_pos (by simp)]
 refine wpAny_pure ?_
 unfold setFlight
 refine wpAny_bind (wpAny_bind (wpAny_field he hd h1 ?_))
 rw [if_neg (by decide)]
 refine wpAny_pure ?_
 unfold raiseNew
 refine wpAny_bind (wpAny_handled ?_)
 rw [hh]
 dsimp only
 rw [if_pos (by simpa using hne)]
 refine wpAny_bind (wpAny_holding (wpAny_runValue (codeAny_builtin entry_unchain ?_)))
 rw [Around.under_plainId plain_unchain _]
 show wpAny _ _ (field (.ref c) 2 >>= _) _ _ s₁
 refine wpAny_bind (wpAny_field hoc hod hctx ?_)
 rw [if_pos (by decide)]
 refine wpAny_pure ?_
 show wpAny _ _ (setField (.ref e) 2 (.ref c) >>= fun J => throw (.ref e)) _ _ s₁
 exact wpAny_bind (wpAny_setField he hd h2 (wpAny_throw hE))
theorem FlyT.own (X₀ : Lc S stk env m K h) (tp : Top1 stk env) (hc : env.cells = []) (f : FlyT S stk h e wt a fl h₁) (kp : ∀ b, ¬ Own env b → h₂.get? b = h₁.get? b) : FlyT S stk h e wt a fl h₂ := by
 obtain ⟨oe, vs, dx, head, fx, h1, T, oT, ts, a1, a2, a3, a4, a5, a6, a7⟩ := f
 refine ⟨oe, vs, dx, head, fx.own X₀ tp hc kp, h1, T, oT, ts, a1, a2, a3, (kp T fun q => ?_).trans a4, a5, a6, a7⟩
 obtain ⟨o, ho⟩ := own_live X₀ q
 rw [a2] at ho; exact no_ns ho
theorem out_err (H : StaOk S) (T₀ : St S stk K s₀) (tp : Top1 stk env) (hfr : A'.frames = some stk) {P₀ : Addr → Prop} (TS : St S stk K s) (x : ExtP S stk P₀ s₀.heap s.heap) (f : Fly S stk s₀.heap e wt a s.heap)
  (h : ∀ s', St S stk K s' → ExtP S stk P₀ s₀.heap s'.heap → Fly S stk s₀.heap e wt a s'.heap → E (.ref e) s') : notedBy (model prog w) A' env (cameBackBy (model prog w) A env E) (.ref e) s := by
 obtain ⟨outer, hst⟩ := tp.head
 show wpAny _ _ (noteFrame (.ref e) env) _ _ s
 refine noteFrame_fly H T₀ TS x hfr hst tp.frame f fun h₁ T₁ x₁ f₁ => ?_
 obtain ⟨oe, vs, dx, head, fx, h1, tr⟩ := id f₁
 obtain ⟨Ta, oT, ts, rfl, _⟩ := id tr
 show wpAny _ _ (field (.ref e) 1 >>= fun v => if (v == Value.none) = true then unsupported "frame.own-activation:exception-without-traceback" else setFlight (.ref e) env.frame) _ _ _
 refine wpAny_bind (wpAny_field fx.ob fx.data h1 ?_)
 rw [if_neg (show ¬ ((Value.ref Ta == Value.none) = true) from Bool.false_ne_true)]
 refine setFlight_fly (s := { s with heap := h₁ }) H T₀ T₁ x₁ f₁ env.frame fun h₂ T₂ x₂ f₂ => ?_
 refine h _ T₂ x₂ (f₂.fly (.inr ⟨env, env.locals, by rw [hst]; rfl, tp.frame, ?_⟩))
 rw [tp.frame]
 rfl
theorem as_raised (H : StaOk S) (T₀ : St S stk K s₀) (X₀ : Lc S stk env m K s₀.heap) (tp : Top1 stk env) (hc : env.cells = []) (hfr : A'.frames = some stk) (TS : St S stk K s) (x : Ext S stk s₀.heap s.heap) (f : Fly S stk s₀.heap e wt a s.heap) {nm : Str} {hpos : Pos} (hk : env.kindOf nm = some .local)
  (h : ∀ s', St S stk K s' → ExtP S stk (Own env) s₀.heap s'.heap → Fly S stk s₀.heap e wt a s'.heap → E (.ref e) s') :
  wpAny (model prog w) A' (noteFrame (.ref e) env) (fun J s₃' =>
      wpAny (model prog w) A' (do bindName env nm .none; unbindBehindTheSuite env nm hpos)
       (fun J s₄ => wpAny (model prog w) A' (passOn "try.except-as" (.ref e) env : Sem Flow) (fun J J => False) (notedBy (model prog w) A' env (cameBackBy (model prog w) A env E)) s₄)
       (fun y s₄ => wpAny (model prog w) A' (setFlight (.ref e) none) (fun J s₅ => (notedBy (model prog w) A' env (cameBackBy (model prog w) A env E)) y s₅) (notedBy (model prog w) A' env (cameBackBy (model prog w) A env E)) s₄) s₃') (notedBy (model prog w) A' env (cameBackBy (model prog w) A env E)) s := by
 obtain ⟨outer, hst⟩ := tp.head
 refine noteFrame_fly H T₀ TS x hfr hst tp.frame f fun h₁ T₁ x₁ f₁ => ?_
 have X₁ : Lc S stk env m K h₁ := X₀.ext x₁ (KExt.refl _ _)
 refine goes_sound (s := { s with heap := h₁ }) T₁ X₁ hk fun h₂ tk T₂ kp hl => ?_
 obtain ⟨oL, eL⟩ := hl
 have kp' : ∀ b, ¬ Own env b → h₂.get? b = h₁.get? b := fun b q => kp b fun z => q (.inl z)
 have x₂ : ExtP S stk (Own env) s₀.heap h₂ := (Ext.p x₁).trans (extOwn kp' fun b o q e => by
  rcases q with rfl | ⟨p, hp, _⟩
  ·exact ⟨oL, eL⟩
  ·rw [hc] at hp; cases hp)
 have f₂ : FlyT S stk s₀.heap e wt a (rawInt env.locals) h₂ := f₁.own X₀ tp hc kp'
 refine abs1 fun G0 hG0 => ?_
 obtain ⟨oe, vs, dx, head, fx, h1, tr⟩ := id f₂
 obtain ⟨Ta, oT, ts, rfl, _⟩ := id tr
 refine hG0 ?_
 clear hG0 G0
 unfold PySem.passOn
 refine wpAny_bind (wpAny_field fx.ob fx.data h1 ?_)
 rw [if_neg (show ¬ ((Value.ref Ta == Value.none) = true) from Bool.false_ne_true)]
 refine wpAny_bind (setFlight_fly (s := { s with heap := h₂, toks := tk }) H T₀ T₂ x₂ f₂ env.frame fun h₃ T₃ x₃ f₃ => wpAny_throw ?_)
 refine out_err (s := { s with heap := h₃, toks := tk }) H T₀ tp hfr T₃ x₃ (f₃.fly (.inr ⟨env, env.locals, by rw [hst]; rfl, tp.frame, ?_⟩)) h
 rw [tp.frame]
 rfl
end
section
variable {prog : Program} {w : World} {S : Sta} {T : Tab} {k kk : Nat} {M : Model}
variable {A : Around} {stk outer : List Env} {K K' K₀ : Kn} {s s₀ s₂ : Shared} {env : Env} {E E' : Value → Shared → Prop} {h h' h₀ h₁ h₂ : Heap} {m m' : Loc} {sc : Scope} {n : Nat}
variable {fd : FuncData} {ps : List Arg} {df : List D} {body : List Stmt} {f : Addr}
noncomputable def BodyHand (prog : Program) (w : World) (S : Sta) (T : Tab) (k : Nat) (ps : List Arg) (df : List D) (sc : Scope) (body : List Stmt) (F : List D → Tr D) : Prop :=
 ∀ (ds : List D) (m : Loc) (env : Env) (A : Around) (stk : List Env) (K : Kn) (s : Shared) (Qf Ef : Value → Shared → Prop), bindD ps ds df = some m → Ar A stk k → St S stk K s → Lc S stk env m K s.heap → KindOk S T sc env → Top1 stk env → env.scope = sc → (noCell sc.names = true → env.cells = []) →
  RxS S stk env s K (F ds) (GP S Qf) Ef → wpAny (model prog w) A (execs body env) (fun f s' => Qf (match f with | .ret v => v | _ => .none) s') Ef s
theorem fn_hand {F : List D → Tr D} (H : StaOk S) (D : DefAt S T f fd ps df sc body) (BH : BodyHand prog w S T k ps df sc body F) (hF : ∀ ds, bindD ps ds df = none → F ds = .bad) : FnSpec prog w S (k + 1) (.ref f) F := by
 intro A stk K s vs ds Q E ar TS rs h
 refine wpAny_call ?_
 cases hm : bindD ps ds df with
 | none => rw [hF ds hm] at h; exact h.elim
 | some m =>
  obtain ⟨binds, bt, hb, hn⟩ := D.bind K s vs ds m TS.stays rs hm
  obtain ⟨o, ho, hd⟩ := D.obj
  have hs : fd.scope = sc := D.scope
  refine codeAny_call_function (by have := ar.depth; show A.depth < 1000; lia) (TS.stays _ _ ho) hd (by rw [hs]; exact D.co) (by rw [hs]; exact D.gen) D.body (D.code.keeps TS.stays) ?_
  refine bt _ _ _ _ ?_
  rw [hs, D.glob, D.clo, D.blt]
  refine wpAny_newFunctionEnv_cells D.kind (fun p hp => ?_) fun env he s₂ x => ?_
  ·have hq := D.par p.1 (by rw [← hn]; exact List.mem_map.mpr ⟨p, hp, rfl⟩)
   unfold storable at hq
   cases q : sc.names.lookup p.1 with
   | none => rw [q] at hq; exact no_ft hq
   | some z =>
    rw [q] at hq
    induction z using PySem.NameKind.casesOn with
    | «local» => exact .inl rfl
    | cell => exact .inr ⟨rfl, cellsFrom_some _ _ _ (lookup_mem q)⟩
    | _ => exact no_ft hq
  ·obtain ⟨T₂, X₂, ko, tp, own, hF⟩ := enter H TS D hb hn he x
   have keep := x.toInCall.keep
   have newL : s.heap.get? s.heap.objs.size = none := new_none _
   refine ⟨H.nolim.keeps T₂.stays, codeAny_func ?_⟩
   have ar' := ar.deeper env
   have pop : ∀ {h'}, ExtP S (env :: stk) (Own env) s₂.heap h' → Ext S stk s.heap h' := fun {h'} x' => x'.pop hF keep newL own
   have kpop : ∀ {K'}, KExt s₂.heap K K' → KExt s.heap K K' := fun {K'} k' => ⟨k'.1, fun a o e => (k'.2 a o e).imp id fun q => by
    cases z : s.heap.get? a with
    | none => rfl
    | some o => rw [keep a o z] at q; exact no_sn q⟩
   refine BH ds m env _ _ K _ _ _ hm ar' T₂ X₂ ko tp (by rw [he]; rfl) (fun q => by rw [he]; exact cellsFrom_none _ _ q) ?_
   refine Tr.sat_mono (fun d q K' s' T' x' k' v rv => ?_) (fun wt a q e s' T' x' fly => ?_) _ h
   ·exact q v K' s' (T'.pop hF) (pop x') (kpop k') rv
   ·refine leaving_fly (s₀ := s₂) H T₂ T' x' ar'.frames rfl tp.frame fly fun h₃ T₃ x₃ f₃ => ?_
    exact q e _ (T₃.pop hF) (pop x₃) (Fly.pop hF keep f₃)
theorem tuple_by (H : StaOk S) (ar : Ar A stk k) (ko : KindOk S T sc env) {ts : List PySem.Expr} {j : Nat} {tp : Pos} {v : PySem.Expr} {p : Pos} {Q : Flow → Shared → Prop} (c : (plainE v && allStor sc ts && distinctN ts && swapOk v) = true)
  (h : wpAny (model prog w) A (eval v env) (fun u s₁ => ∃ K₁ us ds m m', St S stk K₁ s₁ ∧ Lc S stk env m K₁ s₁.heap ∧ Reps S K₁ us ds ∧ ((∃ a, u = .ref a ∧ s₁.heap.IsTuple a us.toArray) ∨ (∃ a, u = .ref a ∧ s₁.heap.IsList a us.toArray)) ∧ setAll ts ds m = some m' ∧
   ∀ s', St S stk K₁ s' → ExtP S stk (Own env) s₁.heap s'.heap → Lc S stk env m' K₁ s'.heap → Q .next s') E s) :
  wpAny (model prog w) A (exec (.Assign [.Tuple ts j tp] v p) env) Q E s := by
 simp only [Bool.and_eq_true] at c
 obtain ⟨⟨⟨c1, c2⟩, c3⟩, c4⟩ := c
 have sw : swapsWithSole [.Tuple ts j tp] v p.line env = pure false := by
  have e : swapsWithSole [.Tuple ts j tp] v p.line env = swapsWith v (some (.Tuple ts j tp)) p.line env := by cases v <;> rfl
  rw [e]
  exact plain_swaps c1
 show wpAny _ _ (standAt p >>= fun J => swapsWithSole [.Tuple ts j tp] v p.line env >>= fun b => if b = true then (do
  evalThenUse v env fun v => assignAll v ((assignEach [.Tuple ts j tp] env).map (·.2))
  pure .next) else eval v env >>= fun u => swappedStores [.Tuple ts j tp] v env >>= fun nm => assignStores env u nm ((assignEach [.Tuple ts j tp] env).map (·.2))) _ _ s
 rw [sw]
 refine wpAny_bind (wpAny_standAt (wpAny_bind (wpAny_pure ?_)))
 rw [if_neg Bool.false_ne_true]
 refine wpAny_bind (wpAny_mono h (fun u s₁ hu => ?_) fun J J q => q)
 refine abs1 fun G0 hG0 => ?_
 obtain ⟨K₁, us, ds, m, m', T₁, X₁, rs, hu, hm, hq⟩ := hu
 refine hG0 ?_
 clear hG0 G0
 rcases swapped_cases (env := env) (tk := j) (tp := tp) c2 c4 with e | ⟨e, hk⟩
 ·rw [e]
  exact wpAny_bind (wpAny_pure (tuple_assign H ko ar T₁ X₁ c2 c3 rs hu hm (.inl rfl) hq))
 ·rw [e]
  exact wpAny_bind (wpAny_pure (tuple_assign H ko ar T₁ X₁ c2 c3 rs hu hm (.inr ⟨rfl, hk⟩) hq))
noncomputable def Tr.bindX {α β : Type} (f : α → Tr β) (g : Str → D → Tr β) : Tr α → Tr β
 | .ok a => f a
 | .exc w a => g w a
 | .bad => .bad
 | .br b x y => .br b (Tr.bindX f g x) (Tr.bindX f g y)
theorem Tr.sat_bindX {α β : Type} {Q : β → Prop} {E : Str → D → Prop} (f : α → Tr β) (g : Str → D → Tr β) : ∀ t : Tr α, (t.bindX f g).sat Q E ↔ t.sat (fun a => (f a).sat Q E) (fun w a => (g w a).sat Q E)
 | .ok a => Iff.rfl
 | .exc w a => Iff.rfl
 | .bad => Iff.rfl
 | .br b x y => and_congr (imp_congr Iff.rfl (Tr.sat_bindX f g x)) (imp_congr Iff.rfl (Tr.sat_bindX f g y))
noncomputable def uaLoop (U : List D → Tr D) (l : List Int) : Nat → Int → List D → Tr D
 | 0, _, _ => .bad
 | n + 1, at_, acc => .br (decide (at_ < l.length)) ((U [.bytes l, .int at_]).bindX (fun d => match d with | .tup [o, .int at'] => uaLoop U l n at' (acc ++ [o]) | _ => .bad) (fun w a => match a with | .none => .exc w (.int acc.length) | _ => .bad)) (.ok (.list acc))
noncomputable def unpackAllF (U : List D → Tr D) : List D → Tr D
 | [.bytes l] => .br (decide (l.length ≤ cap)) (uaLoop U l (l.length + 1) 0 []) .bad
 | _ => .bad
end
structure UaB (T : Tab) (U : List D → Tr D) (sc : Scope) (body : List Stmt) (pp : Nat → Pos) (jj : Nat → Nat) (tst : PySem.Expr) (cal : PySem.Expr) : Prop where
 hbody : body = [.Assign [.Tuple [.Name "found" (pp 0), .Name "at" (pp 1)] (jj 0) (pp 2)] (.Tuple [.List [] (pp 3), .Constant (.int 0) (jj 1) (pp 4)] (jj 2) (pp 5)) (pp 6),
   .While tst [.Try [.Assign [.Tuple [.Name "order" (pp 7), .Name "at" (pp 8)] (jj 3) (pp 9)] cal (pp 10)]
     [.ExceptHandler (some (.Name "CodeError" (pp 11))) (some "error") [.Raise (some (.Call (.Name "CodeError" (pp 12)) [.Attribute (.Name "error" (pp 13)) "what" (pp 14), .Call (.Name "len" (pp 15)) [.Name "found" (pp 16)] [] (pp 17)] [] (pp 18))) none (pp 19)] (pp 20)] [] [] (pp 21),
    .Expr (.Call (.Attribute (.Name "found" (pp 22)) "append" (pp 23)) [.Name "order" (pp 24)] [] (pp 25)) (pp 26)] [] (pp 27),
   .Return (some (.Name "found" (pp 28))) (pp 29)]
 hline : ((pp 23).endLine == (pp 25).line) = true
 etst : (∀ (l : List Int) (a : Int) (v : Value), ev T 40 sc tst [("octets", .bytes l), ("found", .raw v), ("at", .int a)] = .br (decide (l.length ≤ cap)) (.ok (.bool (decide (a < l.length)))) .bad)
 ecal : (∀ (l : List Int) (a : Int) (v : Value), ev T 40 sc cal [("octets", .bytes l), ("found", .raw v), ("at", .int a)] = U [.bytes l, .int a])
 eord : (∀ (l : List Int) (a : Int) (v : Value) (o : D), ev T 40 sc (.Name "order" (pp 24)) [("octets", .bytes l), ("found", .raw v), ("at", .int a), ("order", o)] = .ok o)
 pcal : plainE cal = true
 scal : swapOk cal = true
structure UaAt (T : Tab) (U : List D → Tr D) (ps : List Arg) (sc : Scope) (body : List Stmt) : Prop where
 ps : ∃ a b, ps = [⟨"octets", a, b⟩]
 cells : noCell sc.names = true
 loc : ∀ x ∈ [("octets" : Str), "found", "at", "order", "error"], sc.names.lookup x = some .local
 glob : ∀ x ∈ [("len" : Str), "unpack", "CodeError"], sc.names.lookup x = some .globalImplicit
 body : ∃ (pp : Nat → Pos) (jj : Nat → Nat) (tst : PySem.Expr) (cal : PySem.Expr), UaB T U sc body pp jj tst cal
section
variable {prog : Program} {w : World} {S : Sta} {T : Tab} {k : Nat} {U : List D → Tr D} {ps : List Arg} {sc : Scope} {body : List Stmt}
theorem lookup_app {α : Type} {l r : List (Str × α)} {x : Str} {d : α} (h : l.lookup x = some d) : (l ++ r).lookup x = some d := by
 induction l with
 | nil => exact no_ns h
 | cons p l ih =>
  obtain ⟨y, e⟩ := p
  rw [List.cons_append, List.lookup_cons]
  rw [List.lookup_cons] at h
  cases q : x == y with
  | true => rw [q] at h; exact h
  | false => rw [q] at h; exact ih h
theorem ua_pick {P : Tr D → Prop} {f : D → Int → Tr D} {d : D} (hb : P .bad → False) (h : P (match d with | .tup [o, .int at'] => f o at' | _ => .bad)) : ∃ o at', d = .tup [o, .int at'] ∧ P (f o at') := by
 induction d using D.casesOn with
 | tup ds =>
  induction ds using List.casesOn with
  | nil => exact (hb h).elim
  | cons o ds =>
   induction ds using List.casesOn with
   | nil => exact (hb h).elim
   | cons d ds =>
    induction d using D.casesOn with
    | int i =>
     induction ds using List.casesOn with
     | nil => exact ⟨o, i, rfl, h⟩
     | cons _ _ => exact (hb h).elim
    | _ => exact (hb h).elim
 | _ => exact (hb h).elim
theorem wpAny_abs {α : Type} {M : Model} {A : Around} {c : Sem α} {Q : α → Shared → Prop} {E : Value → Shared → Prop} {s : Shared} (h : ∀ (Q' : α → Shared → Prop) (E' : Value → Shared → Prop), (∀ v s, Q v s → Q' v s) → (∀ v s, E v s → E' v s) → wpAny M A c Q' E' s) : wpAny M A c Q E s := h Q E (fun J J h => h) fun J J h => h
inductive UaI (S : Sta) (U : List D → Tr D) (stk : List Env) (env : Env) (l : List Int) (s₀ : Shared) (K₀ : Kn) (Qf Ef : Value → Shared → Prop) (n : Nat) (s : Shared) : Prop
 | mk : ∀ K a_ acc vs, St S stk K s → Lc S stk env [("octets", .bytes l), ("found", .raw (.ref s₀.heap.objs.size)), ("at", .int a_)] K s.heap → Mut S stk env K s.heap s₀.heap.objs.size vs → Reps S K vs acc → ExtP S stk (Own env) s₀.heap s.heap → KExt s₀.heap K₀ K → acc.length + n = l.length + 1 → RxS S stk env s₀ K₀ (uaLoop U l n a_ acc) (GP S Qf) Ef → UaI S U stk env l s₀ K₀ Qf Ef n s
theorem ua_body0 (H : StaOk S) (EC : ErrCls (model prog w) S) (EG : ErrGet S) (KE : KeepOk prog w S (.ref S.cE)) (GL : GlobIs S "len" (.builtin "len"))
  (ME : ∀ (A : Around) (stk : List Env) (K : Kn) (s : Shared) (wt : Str) (i : Int) (t t' : Tok) (Q E : Value → Shared → Prop), A.depth + 1 < 1000 → St S stk K s →
   (∀ e s', St S stk K s' → Ext S stk s.heap s'.heap → (∃ oe vs dx, FlyX S stk s.heap e wt (.int i) s'.heap oe vs dx ∧ vs[1]? = some .none) → Q (.ref e) s') → wpAny (model prog w) A (call (.ref S.cE) [.str wt t, .int i t'] []) Q E s)
  (IE : SoundE prog w S T k 40) (IT : SoundT prog w S T k 40) {pp : Nat → Pos} {jj : Nat → Nat} {tst : PySem.Expr} {cal : PySem.Expr} (UA : UaAt T U ps sc body) (UB : UaB T U sc body pp jj tst cal) (hk1 : 1 ≤ k) : BodyHand prog w S T k ps [] sc body (unpackAllF U) := by
 intro ds m₀ env A stk K₀ s₀ Qf Ef hb ar T₀ X₀ ko tp hsc hcl h
 obtain ⟨pa, pb, rfl⟩ := UA.ps
 have hcells : env.cells = [] := hcl UA.cells
 have kd : ∀ y, env.kindOf y = sc.names.lookup y := fun y => by unfold Env.kindOf; rw [hsc]
 have kl : ∀ y ∈ [("octets" : Str), "found", "at", "order", "error"], env.kindOf y = some .local := fun y hy => (kd y).trans (UA.loc y hy)
 have kg : ∀ y ∈ [("len" : Str), "unpack", "CodeError"], env.kindOf y = some .globalImplicit := fun y hy => (kd y).trans (UA.glob y hy)
 have sl : ∀ y ∈ [("octets" : Str), "found", "at", "order", "error"], storable sc y = true := fun y hy => by unfold storable; rw [UA.loc y hy]
 have al : allStor sc [.Name "found" (pp 0), .Name "at" (pp 1)] = true := by show (storable sc "found" && (storable sc "at" && true)) = true; rw [sl "found" (by simp), sl "at" (by simp)]; rfl
 have al2 : allStor sc [.Name "order" (pp 7), .Name "at" (pp 8)] = true := by show (storable sc "order" && (storable sc "at" && true)) = true; rw [sl "order" (by simp), sl "at" (by simp)]; rfl
 induction ds using List.casesOn with
 | nil => exact h.elim
 | cons d ds =>
 induction ds using List.casesOn with
 | cons _ _ => cases d <;> exact h.elim
 | nil =>
 induction d using D.casesOn with
 | bytes l =>
  have e₀ : m₀ = ([(("octets" : Str), D.bytes l)] : Loc) := (Option.some.inj hb).symm
  subst e₀
  have h' : RxS S stk env s₀ K₀ (.br (decide (l.length ≤ cap)) (uaLoop U l (l.length + 1) 0 []) .bad) (GP S Qf) Ef := h
  rcases h'.br with ⟨hcap, h'⟩ | ⟨_, h'⟩
  rotate_left
  ·exact h'.elim
  have hcap := of_decide_eq_true hcap
  unfold cap at hcap
  rw [UB.hbody]
  refine wpAny_execs_cons (tuple_by H ar ko (by show (true && allStor sc [.Name "found" (pp 0), .Name "at" (pp 1)] && true && true) = true; rw [al]; rfl) ?_)
  refine wpAny_Tuple (wpAny_items_cons (pos := (pp 5)) (wpAny_List (wpAny_items_nil (pos := (pp 3)) ⟨Nat.zero_le _, wpAny_items_cons (pos := (pp 5)) (wpAny_Constant_int (wpAny_items_nil ⟨by rw [sizeLine_eq]; exact (by decide : (2 : Nat) ≤ 16777216), ?_⟩))⟩)))
  have new₀ : s₀.heap.get? s₀.heap.objs.size = none := new_none _
  have k₁ : ∀ b o, s₀.heap.get? b = some o → ((s₀.heap.push { cls := .type "list", data := .seq #[] }).push { cls := .type "tuple", data := .seq #[.ref s₀.heap.objs.size, .int 0 s₀.toks] }).get? b = some o := fun b o e => Heap.get?_push_of_some _ (Heap.get?_push_of_some _ e)
  have T₁ := T₀.grow H k₁ (s₀.toks + 1)
  have X₁ : Lc S stk env [("octets", .bytes l)] K₀ ((s₀.heap.push { cls := .type "list", data := .seq #[] }).push { cls := .type "tuple", data := .seq #[.ref s₀.heap.objs.size, .int 0 s₀.toks] }) := X₀.ext (ExtP.keeps k₁) (KExt.refl _ _)
  have U₁ : Mut S stk env K₀ ((s₀.heap.push { cls := .type "list", data := .seq #[] }).push { cls := .type "tuple", data := .seq #[.ref s₀.heap.objs.size, .int 0 s₀.toks] }) s₀.heap.objs.size [] := by
   refine ⟨⟨0, Heap.get?_push_of_some _ (Heap.get?_push_size _ rfl)⟩, T₀.kNone new₀, ?_, Fix.new T₀ new₀, fun q => ?_⟩
   ·cases q : S.B.get? s₀.heap.objs.size with
    | none => rfl
    | some o => have := T₀.stays _ _ q; rw [new₀] at this; exact no_ns this
   ·obtain ⟨o, ho⟩ := own_live X₀ q
    rw [new₀] at ho; exact no_ns ho
  refine ⟨K₀, [.ref s₀.heap.objs.size, .int 0 s₀.toks], [.raw (.ref s₀.heap.objs.size), .int 0], [("octets", .bytes l)], [("octets", .bytes l), ("found", .raw (.ref s₀.heap.objs.size)), ("at", .int 0)], T₁, X₁, .cons (.raw _) (.cons (.int _ _) .nil),
   .inl ⟨_, rfl, ⟨_, Heap.get?_push_size _ rfl, rfl, 0, rfl⟩⟩, rfl, fun s₂ T₂ x₂ X₂ => ?_⟩
  have U₂ := U₁.extP x₂ (KExt.refl _ _)
  refine wpAny_execs_cons (wpAny_While (codeAny_whileLoop (UaI S U stk env l s₀ K₀ Qf Ef) ?_ (l.length + 1)
   ⟨K₀, 0, [], [], T₂, X₂, U₂, .nil, (ExtP.keeps k₁).trans x₂, KExt.refl _ _, by simp, h'⟩))
  intro n s hI0
  refine abs1 fun G0 hG0 => ?_
  obtain ⟨K, a_, acc, vs, TS, X, MU, rs, xs, ks, hn, hl⟩ := hI0
  refine hG0 ?_
  clear hG0 G0
  induction n using Nat.casesOn with
  | zero => exact hl.elim
  | succ n =>
  refine IT sc tst _ env A stk K s _ _ ar TS X ko ?_
  rw [UB.etst]
  refine ⟨fun J => ?_, fun q => by rw [decide_eq_true (by unfold cap; omega)] at q; exact no_tf q⟩
  intro K₁ s₁ T₁' x₁ kx₁
  have T₁ : St S stk K s₁ := T₁'.more fun b o q => .inl (kx₁.1 b o q)
  have X₁ := X.ext x₁ (KExt.refl _ _)
  have M₁ := MU.ext x₁ (KExt.refl _ _)
  have xs₁ : ExtP S stk (Own env) s₀.heap s₁.heap := xs.trans (Ext.p x₁)
  rcases hl.br with ⟨c, hl⟩ | ⟨c, hl⟩
  rotate_left
  ·rw [c]
   rw [if_neg Bool.false_ne_true]
   refine wpAny_execs_nil ?_
   show wpAny _ _ (execs [.Return (some (.Name "found" (pp 28))) (pp 29)] env) _ _ _
   refine wpAny_execs_cons (wpAny_Return_some ?_)
   obtain ⟨mv, hn', hm'⟩ := X₁.ns
   obtain ⟨v, hv, rv⟩ := hm' "found" _ rfl (kl "found" (by simp))
   obtain rfl := rv.raw_v
   refine wpAny_Name (wpAny_loadName_local X₁.kind (kl "found" (by simp)) hn' hv ?_) (by decide)
   obtain ⟨n', T₃⟩ := M₁.freeze T₁
   exact hl _ _ T₃ xs₁ ⟨fun b o e => Kn.put_old M₁.kn _ _ (ks.1 b o e), fun b o q => (Kn.put_inv q).elim (ks.2 b o) fun z => .inr (z.1 ▸ new₀)⟩ _ (.list (Kn.put_self _ _ _) (rs.mono (Kn.put_old M₁.kn)))
  ·rw [c]
   rw [if_pos rfl]
   have hl' := (Tr.sat_bindX _ _ _).mp hl
   refine wpAny_execs_cons (wpAny_Try_except (wpAny_execs_cons (tuple_raw H IE ar ko T₁ X₁ (by rw [UB.pcal, UB.scal, al2]; rfl) ?_)))
   rw [UB.ecal]
   refine Tr.sat_mono (fun d hd => ?_) (fun wt a hd => ?_) _ hl'
   ·obtain ⟨o, at', rfl, hd⟩ := ua_pick (P := fun r => RxS S stk env s₀ K₀ r (GP S Qf) Ef) (f := fun o at' => uaLoop U l n at' (acc ++ [o])) (fun h => h.elim) hd
    refine ⟨[o, .int at'], [("octets", .bytes l), ("found", .raw (.ref s₀.heap.objs.size)), ("at", .int at'), ("order", o)], .inl rfl, rfl, fun K₃ s₃ T₃ x₃ k₃ X₃ => ?_⟩
    refine wpAny_execs_nil ?_
    refine wpAny_execs_nil ?_
    refine wpAny_execs_cons ?_
    refine append_raw H IE ar ko T₃ X₃ (M₁.extP x₃ k₃) rfl (kl "found" (by simp)) (by decide) UB.hline rfl (by have := rs.length; omega) ?_
    rw [UB.eord]
    intro v K₄ s₄ h' rv T₄ x₄ k₄ X₄ M₄ kp
    refine wpAny_execs_nil ⟨n, Nat.lt_succ_self _, K₄, at', acc ++ [o], vs ++ [v], T₄, X₄.sub (fun x d e => lookup_app (r := [("order", o)]) e), M₄, ((rs.mono k₃.1).mono k₄.1).append (.cons rv .nil), fun b ob e => ?_, (ks.trans xs₁ k₃).trans (xs₁.trans x₃) k₄, by simp; omega, hd⟩
    obtain ⟨o', e', q⟩ := ((xs₁.trans x₃).trans (Ext.p x₄)) b ob e
    exact ⟨o', (kp b fun z => by rw [z, new₀] at e; exact no_ns e).trans e', q⟩
   ·have ea : a = .none := by cases a <;> first | rfl | exact hd.elim
    subst ea
    have hd' : ∀ e s', St S stk K₀ s' → ExtP S stk (Own env) s₀.heap s'.heap → Fly S stk s₀.heap e wt (.int acc.length) s'.heap → Ef (.ref e) s' := hd
    intro e s₃ T₃ x₃ f₃
    refine caught (s₀ := s₁) H EC EG ar.frames tp hcells T₁ X₁ T₃ x₃ f₃ (kg "CodeError" (by simp)) (kl "error" (by simp)) fun s₄ T₄ X₄ x₄ hfx => ?_
    refine wpAny_abs fun Q' E' J hE => ?_
    obtain ⟨oe, ve, dx, fx⟩ := hfx
    refine wpAny_execs_cons ?_
    show wpAny _ _ (standAt (pp 19) >>= fun J => raiseStmt env (some (eval (.Call (.Name "CodeError" (pp 12)) [.Attribute (.Name "error" (pp 13)) "what" (pp 14), .Call (.Name "len" (pp 15)) [.Name "found" (pp 16)] [] (pp 17)] [] (pp 18)) env >>= fun v => standAt (pp 19) >>= fun J => pure v)) none) _ _ s₄
    refine wpAny_bind (wpAny_standAt (raise_in (c := e) EC rfl (wpAny_bind ?_)))
    show wpAny _ _ (eval (.Name "CodeError" (pp 12)) env >>= fun f => callWith (pp 18) f [] (backTo (pp 18) (starEach [.Attribute (.Name "error" (pp 13)) "what" (pp 14), .Call (.Name "len" (pp 15)) [.Name "found" (pp 16)] [] (pp 17)] env)) (backToKw (pp 18) (keywordEach [] env))) _ _ s₄
    refine wpAny_bind (global_sound H T₄ X₄ (kg "CodeError" (by simp)) (by decide) EG.glob ?_)
    refine callWith_of (P := fun h => S.B.StaysIn h) rfl KE ?_
    refine evalArgs_plain (wpAny_items_cons (pos := (pp 18)) (Attribute_name ?_))
    refine abs1 fun G0 hG0 => ?_
    obtain ⟨mv, hnv, hmv⟩ := X₄.ns
    obtain ⟨v, hv, rv⟩ := hmv "error" _ (by rw [Loc.lookup_set, if_pos rfl]) (kl "error" (by simp))
    refine hG0 ?_
    clear hG0 G0
    obtain rfl := rv.raw_v
    refine wpAny_Name (wpAny_loadName_local X₄.kind (kl "error" (by simp)) hnv hv ?_) (by decide)
    refine fly_what H EG T₄ fx (fly_notCls fx) fun tw => ?_
    refine wpAny_items_cons (pos := (pp 18)) ?_
    show wpAny _ _ (eval (.Name "len" (pp 15)) env >>= fun f => callWith (pp 17) f [] (backTo (pp 17) (starEach [.Name "found" (pp 16)] env)) (backToKw (pp 17) (keywordEach [] env))) _ _ _
    refine wpAny_bind (global_sound (s := { s₄ with toks := s₄.toks + 1 }) H (T₄.tok _) X₄ (kg "len" (by simp)) (by decide) GL ?_)
    refine callWith_of (P := fun J => True) rfl (keeps_builtin _) ?_
    obtain ⟨v', hv', rv'⟩ := hmv "found" (.raw (.ref s₀.heap.objs.size)) (by rw [Loc.lookup_set, if_neg (by decide)]; rfl) (kl "found" (by simp))
    obtain rfl := rv'.raw_v
    refine evalArgs_plain (wpAny_items_cons (pos := (pp 17)) (wpAny_Name (wpAny_loadName_local (s := { s₄ with toks := s₄.toks + 1 }) X₄.kind (kl "found" (by simp)) hnv hv' ?_) (by decide)))
    refine wpAny_items_nil (pos := (pp 17)) ⟨trivial, ?_⟩
    obtain ⟨nv, hov⟩ := (M₁.extP x₄ (KExt.refl _ _)).obj
    refine Calls.call_len_list (items := vs.toArray) ⟨_, hov, rfl, nv, rfl⟩ (by have := rs.length; simp; omega) ?_
    rw [show (vs.toArray.size : Int) = acc.length by rw [List.size_toArray, rs.length]]
    refine wpAny_items_nil ⟨T₄.stays, ?_⟩
    refine ME _ stk K _ wt acc.length _ _ _ _ (by have := ar.depth; show A.depth + 1 < 1000; omega) (T₄.tok _) fun e' s₅ T₅ x₅ hf5 => ?_
    refine abs1 fun G0 hG0 => ?_
    obtain ⟨oe', ve', dx', fx', h1'⟩ := hf5
    refine hG0 ?_
    clear hG0 G0
    have x₅' : Ext S stk s₄.heap s₅.heap := x₅
    have new' : s₄.heap.get? e' = none := fx'.new
    have hne : e ≠ e' := fun q => by rw [← q, fx.ob] at new'; exact no_sn new'
    refine wpAny_bind (wpAny_standAt (wpAny_pure ⟨e', oe', ve', oe, ve, rfl, St.KIn H T₅, fx'.ob, fx'.cls, fx'.data, h1', fx'.size, hne, x₅'.get fx.ob (Fix.new T₁ fx.new) id, fx.data, fx.ctx rfl, ?_⟩))
    have Fe := FlyX.free (s₀ := s₄) T₄ fx'
    have kpu : ∀ b o, ¬ b = e' → s₅.heap.get? b = some o → (s₅.heap.update e' (Obj.mapFields (·.setIfInBounds 2 (.ref e)))).get? b = some o := fun b o n q => (upd_other _ _ n).trans q
    have T₆ := T₅.touch H (P := fun b => b = e') (fun a p => p ▸ Fe) (Touch.keeps kpu) s₅.toks
    have x₆ : Ext S stk s₄.heap (s₅.heap.update e' (Obj.mapFields (·.setIfInBounds 2 (.ref e)))) := fun b ob q => by
     obtain ⟨o', e1, e2⟩ := x₅' b ob q
     exact ⟨o', kpu b o' (fun z => by rw [z, new'] at q; exact no_ns q) e1, e2⟩
    obtain ⟨es, nn, av, tt, ed, dd⟩ := fx'.dob
    have f₆ : Fly S stk s₄.heap e' wt (.int acc.length) (s₅.heap.update e' (Obj.mapFields (·.setIfInBounds 2 (.ref e)))) :=
     ⟨_, _, dx', ⟨new', upd_self fx'.ob fx'.data _, fx'.cls, fx'.dict, rfl, by simp; exact fx'.size, ⟨es, nn, av, tt, kpu _ _ (dict_ne fx' fx'.ob fx'.data) ed, dd⟩, fx'.fix, fun q => by cases q⟩, .inl (by simp [h1'])⟩
    refine hE _ _ ?_
    refine as_raised (A' := A.mark (some (.ref e))) (s₀ := s₄) (s := { s₅ with heap := s₅.heap.update e' (Obj.mapFields (·.setIfInBounds 2 (.ref e))) }) H T₄ X₄ tp hcells ar.frames T₆ x₆ f₆ (kl "error" (by simp)) fun s₇ T₇ x₇ f₇ => ?_
    exact out_err (s₀ := s₀) H T₀ tp ar.frames (T₇.more fun b o q => .inl (ks.1 b o q)) (xs₁.trans (x₄.trans x₇)) (f₇.after (xs₁.trans x₄)) fun s₈ T₈ x₈ f₈ => hd' e' s₈ T₈ x₈ f₈
 | _ => exact h.elim
theorem ua_body (H : StaOk S) (EC : ErrCls (model prog w) S) (EG : ErrGet S) (KE : KeepOk prog w S (.ref S.cE)) (GL : GlobIs S "len" (.builtin "len"))
  (ME : ∀ (A : Around) (stk : List Env) (K : Kn) (s : Shared) (wt : Str) (i : Int) (t t' : Tok) (Q E : Value → Shared → Prop), A.depth + 1 < 1000 → St S stk K s →
   (∀ e s', St S stk K s' → Ext S stk s.heap s'.heap → (∃ oe vs dx, FlyX S stk s.heap e wt (.int i) s'.heap oe vs dx ∧ vs[1]? = some .none) → Q (.ref e) s') → wpAny (model prog w) A (call (.ref S.cE) [.str wt t, .int i t'] []) Q E s)
  (IE : SoundE prog w S T k 40) (IT : SoundT prog w S T k 40) (UA : UaAt T U ps sc body) (hk1 : 1 ≤ k) : BodyHand prog w S T k ps [] sc body (unpackAllF U) := by
 obtain ⟨pp, jj, tst, cal, UB⟩ := UA.body
 exact ua_body0 H EC EG KE GL ME IE IT UA UB hk1
end
section
variable {prog : Program} {w : World} {S : Sta} {T : Tab} {k kk : Nat} {M : Model}
variable {A : Around} {stk outer : List Env} {K K' K₀ : Kn} {s s₀ : Shared} {env : Env} {E : Value → Shared → Prop} {h h' h₀ h₁ h₂ : Heap} {m m' : Loc} {sc : Scope} {n : Nat}
variable {Q : Flow → Shared → Prop} {a : Addr} {vs : List Value} {x : Str} {v : Value} {d : D}
theorem Lc.as (X : Lc S stk env m K h) (hx : m.lookup x = some (.raw v)) (r : Rep S K' v d) (kk : ∀ b o, K b = some o → K' b = some o) (kn : ∀ b, Own env b → K' b = none) : Lc S stk env (m.set x d) K' h := by
 refine ⟨X.kind, X.glob, X.blt, ?_, fun y e q1 q2 => ?_, X.hav, kn _ (.inl rfl), X.lB, X.lT, fun p hp => ?_, X.inj⟩
 ·obtain ⟨mv, n, hm⟩ := X.ns
  refine ⟨mv, n, fun y e q1 q2 => ?_⟩
  rw [Loc.lookup_set] at q1
  by_cases hy : y = x
  ·rw [if_pos hy] at q1
   obtain rfl := Option.some.inj q1
   obtain ⟨u, hu, ru⟩ := hm y _ (hy ▸ hx) q2
   obtain rfl := ru.raw_v
   exact ⟨_, hu, r⟩
  ·rw [if_neg hy] at q1
   obtain ⟨u, hu, ru⟩ := hm y _ q1 q2
   exact ⟨u, hu, ru.mono kk⟩
 ·rw [Loc.lookup_set] at q1
  by_cases hy : y = x
  ·rw [if_pos hy] at q1
   obtain rfl := Option.some.inj q1
   obtain ⟨c, u, h1, h2, ru⟩ := X.cel y _ (hy ▸ hx) q2
   obtain rfl := ru.raw_v
   exact ⟨c, _, h1, h2, r⟩
  ·rw [if_neg hy] at q1
   obtain ⟨c, u, h1, h2, ru⟩ := X.cel y _ q1 q2
   exact ⟨c, u, h1, h2, ru.mono kk⟩
 ·obtain ⟨q1, q2, q3, q4, q5⟩ := X.cOk p hp
  exact ⟨kn _ (.inr ⟨p, hp, rfl⟩), q2, q3, q4, q5⟩
theorem Mut.frozen (U : Mut S stk env K s.heap a vs) (TS : St S stk K s) (X : Lc S stk env m K s.heap) (hx : m.lookup x = some (.raw (.ref a))) {ds : List D} (rs : Reps S K vs ds) :
  ∃ o, St S stk (K.put a o) s ∧ Lc S stk env (m.set x (.list ds)) (K.put a o) s.heap ∧ Rep S (K.put a o) (.ref a) (.list ds) := by
 obtain ⟨n, T₁⟩ := U.freeze TS
 have r : Rep S (K.put a { cls := .type "list", data := .seq vs.toArray n }) (.ref a) (.list ds) := .list (Kn.put_self _ _ _) (rs.mono (Kn.put_old U.kn))
 refine ⟨_, T₁, X.as hx r (Kn.put_old U.kn) (fun b ow => ?_), r⟩
 unfold Kn.put
 rw [if_neg (fun q : b = a => U.own (q ▸ ow))]
 rcases ow with rfl | ⟨p, hp, rfl⟩
 ·exact X.lK
 ·exact (X.cOk p hp).1
theorem name_val (X : Lc S stk env m K s.heap) (hx : m.lookup x = some d) (kx : env.kindOf x = some .local ∨ env.kindOf x = some .cell) (dx : (x == ("__debug__" : Str)) = false) {p : Pos} {Q : Value → Shared → Prop} (h : ∀ v, Rep S K v d → Q v s) :
  wpAny (model prog w) A (eval (.Name x p) env) Q E s := by
 rcases kx with kx | kx
 ·obtain ⟨mv, hn, hm⟩ := X.ns
  obtain ⟨v, hv, rv⟩ := hm x d hx kx
  exact wpAny_Name (wpAny_loadName_local X.kind kx hn hv (h v rv)) dx
 ·obtain ⟨c, v, q1, q2, rv⟩ := X.cel x d hx (.inl kx)
  exact wpAny_Name (wpAny_loadName_cell X.kind kx q1 q2 (h v rv)) dx
theorem item_raw (TS : St S stk K s) (X : Lc S stk env m K s.heap) (U : Mut S stk env K s.heap a vs) {xi xm : Str} {p1 p2 p3 p4 p5 : Pos} {i j : Int} (hx : m.lookup x = some (.raw (.ref a))) (hi : m.lookup xi = some (.int i)) (hm : m.lookup xm = some (.int j))
  (kx : env.kindOf x = some .local ∨ env.kindOf x = some .cell) (ki : env.kindOf xi = some .local ∨ env.kindOf xi = some .cell) (km : env.kindOf xm = some .local ∨ env.kindOf xm = some .cell) (dx : (x == ("__debug__" : Str)) = false) (di : (xi == ("__debug__" : Str)) = false) (dm : (xm == ("__debug__" : Str)) = false)
  (h0 : 0 ≤ i) (h1 : i < vs.length) (hf : i < 2 ^ 63)
  (h : ∀ h' t, St S stk K { s with heap := h' } → Lc S stk env m K h' → Mut S stk env K h' a (vs.set i.toNat (.int j t)) → (∀ b, b ≠ a → h'.get? b = s.heap.get? b) → Q .next { s with heap := h' }) :
  wpAny (model prog w) A (exec (.Assign [.Subscript (.Name x p1) (.Name xi p2) p3] (.Name xm p4) p5) env) Q E s := by
 refine wpAny_Assign_Subscript (name_val X hm km dm fun v rv => name_val X hx kx dx fun u ru => name_val X hi ki di fun y ry => ?_)
 obtain ⟨t, rfl⟩ := rep_int rv
 obtain ⟨t', rfl⟩ := rep_int ry
 obtain rfl := ru.raw_v
 obtain ⟨n, ho⟩ := U.obj
 refine ki_setAt ho h0 hf (by simpa using h1) ?_
 have ho' : (s.heap.update a (Obj.mapSeq (·.setIfInBounds i.toNat (.int j t)))).get? a = some { cls := .type "list", data := .seq (vs.set i.toNat (.int j t)).toArray n } := by
  rw [Heap.get?_update_self _ ho rfl]
  simp [Obj.mapSeq]
 have kp : ∀ b, b ≠ a → (s.heap.update a (Obj.mapSeq (·.setIfInBounds i.toNat (.int j t)))).get? b = s.heap.get? b := fun b n => upd_other _ _ n
 exact h _ t (TS.alter (P := (· = a)) (fun b q => by have q' : b = a := q; rw [q']; exact U.loose) (fun b o nb q => (kp b nb).trans q) s.toks) (X.keep (fun b o ow q => (kp b fun z => U.own (z ▸ ow)).trans q) (KExt.refl _ _)) ⟨⟨n, ho'⟩, U.kn, U.base, U.fix, U.own⟩ kp
theorem reps_ints {ns : List Int} : ∀ {vs : List Value}, Reps S K vs (ns.map D.int) → Reps S K' vs (ns.map D.int) := by
 induction ns with
 | nil => intro vs rs; rw [rs.nil_v]; exact .nil
 | cons n ns ih =>
  intro vs rs
  obtain ⟨_, _, rfl, r, rs2⟩ := rs.cons_v
  obtain ⟨t, rfl⟩ := r.int_v
  exact .cons (.int _ _) (ih rs2)
theorem fresh_list {f : Value} {O : List D → Tr D} {u : Addr} {us : List Value} {n₀ : Nat} {es : List Int} {Q : Value → Shared → Prop} (FS : FnSpec prog w S k f O) (ar : Ar A stk k) (TS : St S stk K s) (hu : K u = some { cls := .type "list", data := .seq us.toArray n₀ }) (rs : Reps S K us (es.map D.int))
  (h : (O [.list (es.map D.int)]).sat (fun d => ∃ ns : List Int, d = .list (ns.map D.int) ∧ ns.length ≠ es.length ∧ ∀ a s' vs, St S stk K s' → Ext S stk s.heap s'.heap → s.heap.get? a = none → (∃ n, s'.heap.get? a = some { cls := .type "list", data := .seq vs.toArray n }) → Reps S K vs (ns.map D.int) → Q (.ref a) s') (fun J J => False)) :
  wpAny (model prog w) A (call f [.ref u] []) Q E s := by
 let Kr : Kn := fun b => if b = u then K b else none
 have Tr' : St S stk Kr s := TS.more fun b o q => by
  by_cases z : b = u
  ·exact .inl (by simpa [Kr, z] using q)
  ·simp [Kr, z] at q
 refine FS A stk Kr s [.ref u] [.list (es.map D.int)] Q E ar Tr' (.cons (.list (n := n₀) (by simp [Kr, hu]) (reps_ints rs)) .nil) (Tr.sat_mono (fun d hd => ?_) (fun J J q => q.elim) _ h)
 obtain ⟨ns, rfl, hne, hq⟩ := hd
 intro v K' s' T' x' k' r
 cases r with
 | list ha ra =>
  rename_i a vs n
  have new : s.heap.get? a = none := by
   rcases k'.2 _ _ ha with q | q
   ·exfalso
    by_cases z : a = u
    ·have q' : K u = some { cls := .type "list", data := .seq vs.toArray n } := by simpa [Kr, z] using q
     rw [hu] at q'
     have q5 := congrArg Obj.data (Option.some.inj q')
     obtain ⟨e1, e2⟩ := Data.seq.inj q5
     have e3 : us = vs := by simpa using congrArg Array.toList e1
     have l1 := rs.length
     have l2 := ra.length
     rw [e3] at l1
     simp at l1 l2
     lia
    ·simp [Kr, z] at q
   ·exact q
  exact hq a s' vs (T'.more fun b o q => .inr ⟨(x'.get (TS.kin b o q).1 (TS.kin b o q).2 id), (TS.kin b o q).2⟩) x' new ⟨n, (T'.kin _ _ ha).1⟩ (reps_ints ra)
end
noncomputable def row6 : D → Bool
 | .list xs => allI xs && decide (xs.length = 6)
 | _ => false
noncomputable def moreOf (left : Int) : Int := ([0, 255, 128, 1, 24, (left.fdiv 6).fmod 256] : List Int).getD (left.fmod 6).toNat 0
noncomputable def retD : Fl → Tr D
 | .ret d => .ok d
 | .next _ => .ok .none
 | .cont _ => .bad
noncomputable def chRest (T : Tab) (sc : Scope) (rest : List Stmt) (rows : List D) (left at_ : Int) (os : List Int) (spot more : Int) : Tr D :=
 (exsL (ex T 40 sc 40) rest [("rows", .list rows), ("left", .int left), ("at", .int at_), ("octs", .list (os.map .int)), ("spot", .int spot), ("more", .int more)]).bind retD
noncomputable def changedF (O : List D → Tr D) (R : List D → Int → Int → List Int → Int → Int → Tr D) : List D → Tr D
 | [.list rows, .int left] => .br (decide (rows.length ≤ cap) && !rows.isEmpty && rows.all row6)
   ((noExc (O [rows.getD (left.fmod rows.length).toNat .none])).bind fun d => match d with
    | .list os => .br (allI os && (decide (os.length = 8) || decide (os.length = 16)))
      (R rows (((left.fdiv rows.length).fdiv os.length).fdiv 6) (left.fmod rows.length) ((intsOf os).set ((left.fdiv rows.length).fmod os.length).toNat (moreOf ((left.fdiv rows.length).fdiv os.length))) ((left.fdiv rows.length).fmod os.length) (moreOf ((left.fdiv rows.length).fdiv os.length))) .bad
    | _ => .bad) .bad
 | _ => .bad
structure ChB (T : Tab) (sc : Scope) (body rest : List Stmt) (pp : Nat → Pos) (jj : Nat → Nat) (v1 : PySem.Expr) (v3 : PySem.Expr) (v4 : PySem.Expr) : Prop where
 hbody : body = .Assign [.Tuple [.Name "at" (pp 0), .Name "left" (pp 1)] (jj 0) (pp 2)] v1 (pp 3) :: .Assign [.Name "octs" (pp 4)] (.Call (.Name "_law_octets" (pp 5)) [.Subscript (.Name "rows" (pp 6)) (.Name "at" (pp 7)) (pp 8)] [] (pp 9)) (pp 10) ::
   .Assign [.Tuple [.Name "spot" (pp 11), .Name "left" (pp 12)] (jj 1) (pp 13)] v3 (pp 14) :: .Assign [.Tuple [.Name "more" (pp 15), .Name "left" (pp 16)] (jj 2) (pp 17)] v4 (pp 18) :: .Assign [.Subscript (.Name "octs" (pp 19)) (.Name "spot" (pp 20)) (pp 21)] (.Name "more" (pp 22)) (pp 23) :: rest
 p1 : plainE v1 = true
 w1 : swapOk v1 = true
 p3 : plainE v3 = true
 w3 : swapOk v3 = true
 p4 : plainE v4 = true
 w4 : swapOk v4 = true
 f1 : (∀ (rows : List D) (left : Int) (P : D → Prop) (E : Str → D → Prop), rows.length ≤ cap → rows.length ≠ 0 → P (.tup [.int (left.fmod rows.length), .int (left.fdiv rows.length)]) → (ev T 40 sc v1 [("rows", .list rows), ("left", .int left)]).sat P E)
 f2 : (∀ (rows : List D) (left at_ : Int) (P : D → Prop) (E : Str → D → Prop), rows.length ≤ cap → 0 ≤ at_ → at_ < rows.length → P (rows.getD at_.toNat .none) → (ev T 40 sc (.Subscript (.Name "rows" (pp 6)) (.Name "at" (pp 7)) (pp 8)) [("rows", .list rows), ("left", .int left), ("at", .int at_)]).sat P E)
 f3 : (∀ (rows os : List D) (left at_ : Int) (P : D → Prop) (E : Str → D → Prop), os.length ≤ cap → os.length ≠ 0 → P (.tup [.int (left.fmod os.length), .int (left.fdiv os.length)]) → (ev T 40 sc v3 [("rows", .list rows), ("left", .int left), ("at", .int at_), ("octs", .list os)]).sat P E)
 f4 : (∀ (rows : List D) (left at_ spot : Int) (v : Value) (P : D → Prop) (E : Str → D → Prop), P (.tup [.int (moreOf left), .int (left.fdiv 6)]) → (ev T 40 sc v4 [("rows", .list rows), ("left", .int left), ("at", .int at_), ("octs", .raw v), ("spot", .int spot)]).sat P E)
structure ChAt (T : Tab) (ps : List Arg) (sc : Scope) (body rest : List Stmt) : Prop where
 ps : ∃ a b c d, ps = [⟨"rows", a, b⟩, ⟨"left", c, d⟩]
 loc : ∀ x ∈ [("rows" : Str), "left", "at", "spot", "more"], sc.names.lookup x = some .local
 cel : sc.names.lookup ("octs" : Str) = some .cell
 glob : sc.names.lookup ("_law_octets" : Str) = some .globalImplicit
 body : ∃ (pp : Nat → Pos) (jj : Nat → Nat) (v1 : PySem.Expr) (v3 : PySem.Expr) (v4 : PySem.Expr), ChB T sc body rest pp jj v1 v3 v4
theorem ints_back : ∀ {xs : List D}, allI xs = true → xs = (intsOf xs).map D.int
 | [], _ => rfl
 | d :: r, h => by
  induction d using D.casesOn with
  | int i =>
   have h' : allI r = true := h
   show D.int i :: r = D.int i :: (intsOf r).map D.int
   rw [← ints_back h']
  | _ => exact no_ft h
theorem reps_set {S : Sta} {K : Kn} {v : Value} {i : Int} (r : Rep S K v (.int i)) {ns : List Int} : ∀ {vs : List Value}, Reps S K vs (ns.map D.int) → ∀ j : Nat, Reps S K (vs.set j v) ((ns.set j i).map D.int) := by
 induction ns with
 | nil => intro vs rs j; rw [rs.nil_v]; exact .nil
 | cons n ns ih =>
  intro vs rs j
  obtain ⟨_, _, rfl, a, rs2⟩ := rs.cons_v
  induction j using Nat.casesOn with
  | zero => exact .cons r rs2
  | succ j => exact .cons a (ih rs2 j)
section
variable {prog : Program} {w : World} {S : Sta} {T : Tab} {k : Nat} {O : List D → Tr D} {ps : List Arg} {sc : Scope} {body rest : List Stmt}
theorem ch_body0 (H : StaOk S) (TO : TabOk prog w S T k) (hO : T.fn "_law_octets" = some O) (IE : SoundE prog w S T k 40) (SX : SoundX prog w S T k 40 40) {pp : Nat → Pos} {jj : Nat → Nat} {v1 : PySem.Expr} {v3 : PySem.Expr} {v4 : PySem.Expr} (CA : ChAt T ps sc body rest) (UB : ChB T sc body rest pp jj v1 v3 v4) : BodyHand prog w S T k ps [] sc body (changedF O (chRest T sc rest)) := by
 intro ds m₀ env A stk K₀ s₀ Qf Ef hb ar T₀ X₀ ko tp hsc hcl h
 obtain ⟨pa, pb, pc, pd, rfl⟩ := CA.ps
 have kd : ∀ y, env.kindOf y = sc.names.lookup y := fun y => by unfold Env.kindOf; rw [hsc]
 have kl : ∀ y ∈ [("rows" : Str), "left", "at", "spot", "more"], env.kindOf y = some .local := fun y hy => (kd y).trans (CA.loc y hy)
 have kc : env.kindOf "octs" = some .cell := (kd _).trans CA.cel
 have kg : env.kindOf "_law_octets" = some .globalImplicit := (kd _).trans CA.glob
 have sl : ∀ y ∈ [("rows" : Str), "left", "at", "spot", "more"], storable sc y = true := fun y hy => by unfold storable; rw [CA.loc y hy]
 have al : ∀ x y p q, x ∈ [("rows" : Str), "left", "at", "spot", "more"] → y ∈ [("rows" : Str), "left", "at", "spot", "more"] → allStor sc [.Name x p, .Name y q] = true := fun x y p q hx hy => by
  show (storable sc x && (storable sc y && true)) = true
  rw [sl x hx, sl y hy]; rfl
 induction ds using List.casesOn with
 | nil => exact h.elim
 | cons d ds =>
 induction ds using List.casesOn with
 | nil => cases d <;> exact h.elim
 | cons d' ds =>
 induction ds using List.casesOn with
 | cons _ _ => cases d <;> cases d' <;> exact h.elim
 | nil =>
 induction d using D.casesOn with
 | list rows =>
  induction d' using D.casesOn with
  | int left =>
   have e₀ : m₀ = ([(("rows" : Str), D.list rows), (("left" : Str), D.int left)] : Loc) := (Option.some.inj hb).symm
   subst e₀
   have h' : RxS S stk env s₀ K₀ (.br (decide (rows.length ≤ cap) && !rows.isEmpty && rows.all row6) _ .bad) (GP S Qf) Ef := h
   rcases h'.br with ⟨c, h'⟩ | ⟨_, h'⟩
   rotate_left
   ·exact h'.elim
   simp only [Bool.and_eq_true, decide_eq_true_eq, Bool.not_eq_true', List.isEmpty_eq_false_iff, List.all_eq_true] at c
   obtain ⟨⟨hcap, hne⟩, h6⟩ := c
   have hpos : 0 < rows.length := List.length_pos_iff.mpr hne
   have hat0 : 0 ≤ left.fmod rows.length := Int.fmod_nonneg_of_pos _ (by omega)
   have hat1 : left.fmod rows.length < rows.length := Int.fmod_lt_of_pos _ (by omega)
   rw [UB.hbody]
   refine wpAny_execs_cons (tuple_raw H IE ar ko T₀ X₀ (by rw [UB.p1, UB.w1, al "at" "left" _ _ (by simp) (by simp)]; rfl) (UB.f1 rows left _ _ hcap (by omega) ⟨_, [("rows", .list rows), ("left", .int (left.fdiv rows.length)), ("at", .int (left.fmod rows.length))], .inl rfl, rfl, fun K₁ s₁ T₁ x₁ k₁ X₁ => ?_⟩))
   refine wpAny_execs_cons (wpAny_Assign_Name ?_ rfl)
   refine abs1 fun G0 hG0 => ?_
   obtain ⟨fO, gO, kO, FO, dO⟩ := TO.fn _ _ hO
   refine hG0 ?_
   clear hG0 G0
   show wpAny _ _ (eval (.Name "_law_octets" (pp 5)) env >>= fun f => callWith (pp 9) f [] (backTo (pp 9) (starEach [.Subscript (.Name "rows" (pp 6)) (.Name "at" (pp 7)) (pp 8)] env)) (backToKw (pp 9) (keywordEach [] env))) _ _ s₁
   refine wpAny_bind (global_sound H T₁ X₁ kg (by decide) gO ?_)
   refine callWith_of (P := fun h => S.B.StaysIn h) rfl kO ?_
   refine evalArgs_plain (wpAny_items_cons (pos := (pp 9)) (e := .Subscript (.Name "rows" (pp 6)) (.Name "at" (pp 7)) (pp 8)) (rest := []) ?_)
   refine IE sc _ _ env A stk K₁ s₁ _ _ ar T₁ X₁ ko (UB.f2 rows _ _ _ _ hcap hat0 hat1 ?_)
   intro u K₂ s₂ T₂ x₂ k₂ ru
   refine wpAny_items_nil ⟨T₂.stays, ?_⟩
   have hrow : row6 (rows.getD (left.fmod rows.length).toNat .none) = true := by
    have hlt : (left.fmod rows.length).toNat < rows.length := by omega
    rw [List.getD_eq_getElem?_getD, List.getElem?_eq_getElem hlt]
    exact h6 _ (List.getElem_mem hlt)
   obtain ⟨es, hes, hl6⟩ : ∃ es : List Int, rows.getD (left.fmod rows.length).toNat .none = .list (es.map D.int) ∧ es.length = 6 := by
    generalize rows.getD (left.fmod rows.length).toNat .none = r at hrow
    induction r using D.casesOn with
    | list xs =>
     have hrow' : (allI xs && decide (xs.length = 6)) = true := hrow
     rw [Bool.and_eq_true, decide_eq_true_eq] at hrow'
     exact ⟨intsOf xs, by rw [← ints_back hrow'.1], by simp [intsOf, hrow'.2]⟩
    | _ => exact no_ft hrow
   rw [hes] at ru h'
   obtain ⟨ua, us, un, rfl, hu, rus⟩ := ru.list_v
   have h'' := RxS.after (s₁ := s₂) (K₁ := K₂) (x₁.trans (Ext.p x₂)) (k₁.trans x₁ k₂) h'
   unfold RxS at h''
   rw [Tr.sat_bind] at h''
   refine fresh_list FO ar T₂ hu rus (Tr.sat_mono (fun d hd => ?_) (fun J J q => q) _ (noExc_sat h''))
   induction d using D.casesOn with
   | list os =>
    rcases RxS.br (s := s₂) (K := K₂) hd with ⟨co, hR⟩ | ⟨_, hR⟩
    rotate_left
    ·exact hR.elim
    simp only [Bool.and_eq_true, Bool.or_eq_true, decide_eq_true_eq] at co
    obtain ⟨co1, co2⟩ := co
    refine ⟨intsOf os, by rw [← ints_back co1], by simp only [intsOf, List.length_map]; omega, fun a s₃ vs T₃ x₃ newa hobj rvs => ?_⟩
    obtain ⟨na, hobj⟩ := hobj
    have X₃ := (X₁.ext x₂ k₂).ext x₃ (KExt.refl _ _)
    have U₃ : Mut S stk env K₂ s₃.heap a vs := ⟨⟨na, hobj⟩, T₂.kNone newa, (by
     cases q : S.B.get? a with
     | none => rfl
     | some o => have := T₂.stays _ _ q; rw [newa] at this; exact no_ns this), Fix.new T₂ newa, fun q => by
     obtain ⟨o, ho⟩ := own_live (X₁.ext x₂ k₂) q
     rw [newa] at ho; exact no_ns ho⟩
    rw [← ints_back co1] at rvs
    refine store_sound T₃ X₃ (.raw (.ref a)) (.inr kc) fun h₄ tk T₄ X₄ kp₄ => ?_
    have U₄ := U₃.own' (h' := h₄) fun b q => kp₄ b fun z => q z.own
    have xs₄ : ExtP S stk (Own env) s₂.heap h₄ := (Ext.p x₃).trans (store_ext X₄ fun b q => kp₄ b fun z => q z.own)
    refine wpAny_execs_cons (tuple_by H ar ko (by rw [UB.p3, UB.w3, al "spot" "left" _ _ (by simp) (by simp)]; rfl) ?_)
    refine abs1 fun G0 hG0 => ?_
    obtain ⟨of, TF, XF, rF⟩ := U₄.frozen (x := "octs") (s := { s₃ with heap := h₄, toks := tk }) T₄ X₄ (by rfl) rvs
    refine hG0 ?_
    clear hG0 G0
    have XF : Lc S stk env [("rows", .list rows), ("left", .int (left.fdiv rows.length)), ("at", .int (left.fmod rows.length)), ("octs", .list os)] (K₂.put a of) h₄ := XF
    have X₄ : Lc S stk env [("rows", .list rows), ("left", .int (left.fdiv rows.length)), ("at", .int (left.fmod rows.length)), ("octs", .raw (.ref a))] K₂ h₄ := X₄
    refine IE sc v3 _ env A stk _ { s₃ with heap := h₄, toks := tk } _ _ ar TF XF ko (UB.f3 rows os (left.fdiv rows.length) (left.fmod rows.length) _ _ (by unfold cap; omega) (by omega) ?_)
    intro u₅ K₅ s₅ T₅ x₅ k₅ r₅
    obtain ⟨ta, us₅, nt, rfl, ht, rt⟩ := r₅.tup_v
    obtain ⟨y1, y2, rfl, ry1, ry2⟩ := rt.two_v
    obtain ⟨t1, rfl⟩ := rep_int ry1
    obtain ⟨t2, rfl⟩ := rep_int ry2
    have T₅' : St S stk K₂ s₅ := T₅.more fun b o q => .inl (k₅.1 _ _ (Kn.put_old U₄.kn _ _ q))
    have X₅ := X₄.ext x₅ (KExt.refl _ _)
    have U₅ := U₄.ext x₅ (KExt.refl _ _)
    have hol : vs.length = os.length := by have := rvs.length; simpa [intsOf] using this
    have sp0 : 0 ≤ (left.fdiv rows.length).fmod os.length := Int.fmod_nonneg_of_pos _ (by omega)
    have sp1 : (left.fdiv rows.length).fmod os.length < os.length := Int.fmod_lt_of_pos _ (by omega)
    refine ⟨K₂, [.int _ t1, .int _ t2], [.int _, .int _], _, [("rows", .list rows), ("left", .int ((left.fdiv rows.length).fdiv os.length)), ("at", .int (left.fmod rows.length)), ("octs", .raw (.ref a)), ("spot", .int ((left.fdiv rows.length).fmod os.length))], T₅', X₅, .cons (.int _ _) (.cons (.int _ _) .nil), .inl ⟨ta, rfl, ⟨_, (T₅.kin _ _ ht).1, rfl, nt, rfl⟩⟩, rfl, fun s₆ T₆ x₆ X₆ => ?_⟩
    have U₆ := U₅.extP x₆ (KExt.refl _ _)
    refine wpAny_execs_cons (tuple_raw H IE ar ko T₆ X₆ (by rw [UB.p4, UB.w4, al "more" "left" _ _ (by simp) (by simp)]; rfl) (UB.f4 rows _ _ _ _ _ _ ⟨[.int _, .int _], [("rows", .list rows), ("left", .int (((left.fdiv rows.length).fdiv os.length).fdiv 6)), ("at", .int (left.fmod rows.length)), ("octs", .raw (.ref a)), ("spot", .int ((left.fdiv rows.length).fmod os.length)), ("more", .int (moreOf ((left.fdiv rows.length).fdiv os.length)))], .inl rfl, rfl, fun K₇ s₇ T₇ x₇ k₇ X₇ => ?_⟩))
    have U₇ := U₆.extP x₇ k₇
    refine wpAny_execs_cons (item_raw (x := "octs") (xi := "spot") (xm := "more") T₇ X₇ U₇ (by rfl) (by rfl) (by rfl) (.inr kc) (.inl (kl "spot" (by simp))) (.inl (kl "more" (by simp))) (by decide) (by decide) (by decide) sp0 (by omega) (by omega) fun h₈ t T₈ X₈ U₈ kp₈ => ?_)
    have k27 : ∀ b o, K₂ b = some o → K₇ b = some o := k₇.1
    have rvs₈ : Reps S K₇ (vs.set ((left.fdiv rows.length).fmod os.length).toNat (.int (moreOf ((left.fdiv rows.length).fdiv os.length)) t)) (((intsOf os).set ((left.fdiv rows.length).fmod os.length).toNat (moreOf ((left.fdiv rows.length).fdiv os.length))).map D.int) :=
     reps_set (.int _ _) (by rw [← ints_back co1]; exact rvs.mono k27) _
    obtain ⟨of', TF', XF', rF'⟩ := U₈.frozen (x := "octs") (s := { s₇ with heap := h₈ }) T₈ X₈ (by rfl) rvs₈
    have xs₇ : ExtP S stk (Own env) s₂.heap s₇.heap := ((xs₄.trans (Ext.p x₅)).trans x₆).trans x₇
    have xs₈ : ExtP S stk (Own env) s₂.heap h₈ := fun b ob q => by
     obtain ⟨o', q1, q2⟩ := xs₇ b ob q
     exact ⟨o', (kp₈ b fun z => by rw [z, newa] at q; exact no_ns q).trans q1, q2⟩
    have hR' := RxS.after (s₁ := { s₇ with heap := h₈ }) (K₁ := K₇.put a of') xs₈ ⟨fun b o q => Kn.put_old U₈.kn _ _ (k27 _ _ q), fun b o q => by
     rcases Kn.put_inv q with q | ⟨rfl, _⟩
     ·exact (k₇.2 b o q).imp id fun z => ((xs₄.trans (Ext.p x₅)).trans x₆).none z
     ·exact .inr newa⟩ hR
    refine execs_sound SX ar ko tp TF' XF' (RxS.step hR' fun fl K₉ s₉ h₉ T₉ x₉ k₉ f hf => ?_)
    induction fl using Fl.casesOn with
    | next m' =>
     obtain ⟨rfl, _⟩ := hf
     exact RxS.ok T₉ h₉ _ .none
    | cont m' => exact h₉.elim
    | ret d =>
     obtain ⟨v, rfl, rv⟩ := hf
     exact RxS.ok T₉ h₉ _ rv
   | _ => exact hd.elim
  | _ => exact h.elim
 | _ => cases d' <;> exact h.elim
theorem ch_body (H : StaOk S) (TO : TabOk prog w S T k) (hO : T.fn "_law_octets" = some O) (IE : SoundE prog w S T k 40) (SX : SoundX prog w S T k 40 40) (CA : ChAt T ps sc body rest) : BodyHand prog w S T k ps [] sc body (changedF O (chRest T sc rest)) := by
 obtain ⟨pp, jj, v1, v3, v4, UB⟩ := CA.body
 exact ch_body0 H TO hO IE SX CA UB
end
end
section
open PySem PySem.W PySem.Calls PyProof.Rows
open Sem (wp)
noncomputable def decC : Code → Bool
 | .builtin id _ => Builtin.Bytes.decodersThatHold.contains id
 | _ => false
noncomputable def noDec (l : List (Code × Pos)) : Prop := ∀ q ∈ l, decC q.1 = false
noncomputable def wpN {α : Type} (M : Model) (A : Around) (t : Sem α) (Q : α → Shared → Prop) (E : Value → Shared → Prop) (s : Shared) : Prop :=
 ∀ Γ p, Γ.In A → noDec Γ.below → decC Γ.code = false → wp M Γ t (fun a J s' => Q a s') (fun e J s' => E e s') p s
noncomputable def codeN (M : Model) (A : Around) (c : Code) (R : Result → Shared → Prop) (s : Shared) : Prop :=
 ∀ Γ p, Γ.code = c → Γ.Below A → noDec Γ.below → wpCode M Γ R p s
section
variable {α β : Type} {M : Model} {A : Around} {E : Value → Shared → Prop} {s : Shared} {env : Env}
theorem wpN.of {t : Sem α} {Q : α → Shared → Prop} (h : wpAny M A t Q E s) : wpN M A t Q E s := fun Γ p hΓ J J => h Γ p hΓ
theorem codeN.of {c : Code} {R : Result → Shared → Prop} (h : codeAny M A c R s) : codeN M A c R s := fun Γ p hc hΓ J => h Γ p hc hΓ
theorem wpN_pure {a : α} {Q : α → Shared → Prop} (h : Q a s) : wpN M A (pure a) Q E s := fun J J J J J => h
theorem wpN_mono {t : Sem α} {Q Q' : α → Shared → Prop} {E' : Value → Shared → Prop} (h : wpN M A t Q E s) (hQ : ∀ a s, Q a s → Q' a s) (hE : ∀ e s, E e s → E' e s) : wpN M A t Q' E' s :=
 fun Γ p hΓ hn hc => Sem.wp_mono M Γ t (fun a J s => hQ a s) (fun e J s => hE e s) p s (h Γ p hΓ hn hc)
theorem wpN_bind {m : Sem α} {f : α → Sem β} {Q : β → Shared → Prop} (h : wpN M A m (fun a s' => wpN M A (f a) Q E s') E s) : wpN M A (m >>= f) Q E s := fun Γ p hΓ hn hc => by
 rw [Sem.wp_bind']
 exact Sem.wp_mono M Γ m (fun a p' s' h' => h' Γ p' hΓ hn hc) (fun J J J h' => h') p s (h Γ p hΓ hn hc)
theorem wpN_then {m : Sem α} {f : α → Sem β} {Q : β → Shared → Prop} (h : wpAny M A m (fun a s' => wpN M A (f a) Q E s') E s) : wpN M A (m >>= f) Q E s := wpN_bind (wpN.of h)
theorem wpN_last {m : Sem α} {f : α → Sem β} {Q : β → Shared → Prop} (h : wpN M A m (fun a s' => wpAny M A (f a) Q E s') E s) : wpN M A (m >>= f) Q E s := wpN_bind (wpN_mono h (fun J J q => wpN.of q) fun J J q => q)
theorem wpN_onRaise {m : Sem α} {k : Value → Sem Unit} {Q : α → Shared → Prop} (h : wpN M A m Q (fun e s' => wpAny M A (k e) (fun J s'' => E e s'') E s') s) : wpN M A (m.onRaise k) Q E s := fun Γ p hΓ hn hc => by
 rw [Sem.wp_onRaise]
 exact Sem.wp_mono M Γ m (fun J J J h' => h') (fun e p' s' h' => h' Γ p' hΓ) p s (h Γ p hΓ hn hc)
theorem wpN_holding {vs : List Value} {m : Sem α} {Q : α → Shared → Prop} (h : wpN M A m Q E s) : wpN M A (holding vs m) Q E s := fun Γ p hΓ hn hc => by rw [Sem.wp_holding]; exact h Γ p hΓ hn hc
theorem wpN_attempt {m : Sem α} {Q : Except Value α → Shared → Prop} (h : wpN M A m (fun a => Q (.ok a)) (fun e => Q (.error e)) s) : wpN M A m.attempt Q E s := fun Γ p hΓ hn hc => by rw [Sem.wp_attempt]; exact h Γ p hΓ hn hc
theorem wpN_keep {vs : List Value} {m : Sem α} {Q : α → Shared → Prop} (h : wpN M A m Q E s) : wpN M A (m.keep vs) Q E s := fun Γ p hΓ hn hc => by rw [Sem.wp_keep]; exact h Γ p hΓ hn hc
theorem enter_noDec {Γ : Ctx} (c : Code) (h : Option Value) (p : Pos) (hn : noDec Γ.below) (hc : decC Γ.code = false) : noDec (Γ.enter c h p).below := fun q hq => by
 rcases List.mem_cons.mp hq with rfl | hq
 ·exact hc
 ·exact hn q hq
theorem wpN_run {c : Code} {h : Option Value} {Q : Flow → Shared → Prop} (hc : codeN M (A.mark h) c (fun r s' => match r with | .ok f => Q f s' | .error e => E e s') s) (hnb : h ≠ some byPass := by intro x; exact no_ns x) : wpN M A (run c h) Q E s :=
 fun Γ p hΓ hn hd => by rw [Sem.wp_run]; exact hc _ p rfl (hΓ.enter c h p hnb) (enter_noDec c h p hn hd)
theorem wpN_runValue {c : Code} {Q : Value → Shared → Prop} (hc : codeN M A c (fun r s' => match r with | .ok (.ret v) => Q v s' | .ok _ => False | .error e => E e s') s) : wpN M A (runValue c) Q E s :=
 fun Γ p hΓ hn hd => by rw [Sem.wp_runValue]; exact hc _ p rfl (hΓ.enter c none p (by intro x; exact no_ns x)) (enter_noDec c none p hn hd)
theorem wpN_call {f : Value} {pos : List Value} {kw : List (Str × Value)} {Q : Value → Shared → Prop} (hc : codeN M A (.call f ⟨pos, kw⟩) (fun r s' => match r with | .ok (.ret v) => Q v s' | .ok _ => False | .error e => E e s') s) : wpN M A (call f pos kw) Q E s := wpN_runValue hc
theorem codeN_of_tree {c : Code} {R : Result → Shared → Prop} (hd : decC c = false) (h : wpN M (A.under c) (M.den c) (fun fin s' => match fin with | .done f => R (.ok f) s' | .again c' => c'.quiet = true ∧ codeN M A c' R s') (fun e s' => R (.error e) s') s) : codeN M A c R s := fun Γ p hc hΓ hn => by
 rw [wpCode_iff_wp, hc]
 refine Sem.wp_mono M Γ _ (fun fin p' s' h' => ?_) (fun J J J h' => h') p s (h Γ p (hc ▸ hΓ.in) hn (by rw [hc]; exact hd))
 cases fin with
 | done f => exact h'
 | again c' => exact ⟨h'.1, h'.2 (Γ.goto c') p' rfl (hΓ.goto c') hn⟩
theorem codeN_mono {c : Code} {R R' : Result → Shared → Prop} (h : codeN M A c R s) (hR : ∀ r s, R r s → R' r s) : codeN M A c R' s := fun Γ p hc hΓ hn => wpCode_mono hR (h Γ p hc hΓ hn)
theorem codeN_loop {c : Code} {R : Result → Shared → Prop} (hd : decC c = false) (hq : c.quiet = true) (I : Nat → Shared → Prop)
  (turn : ∀ n s, I n s → wpN M (A.under c) (M.den c) (fun fin s' => match fin with | .done f => R (.ok f) s' | .again c' => (c' = c ∧ ∃ m, m < n ∧ I m s') ∨ (c'.quiet = true ∧ codeN M A c' R s')) (fun e s' => R (.error e) s') s)
  (n : Nat) (h : I n s) : codeN M A c R s := by
 induction n using Nat.strongRecOn generalizing s with
 | ind n ih =>
  refine codeN_of_tree hd (wpN_mono (turn n s h) (fun fin s' hf => ?_) fun J J h' => h')
  cases fin with
  | done f => exact hf
  | again c' =>
   rcases hf with ⟨rfl, m, hm, hI⟩ | hf
   ·exact ⟨hq, ih m hm hI⟩
   ·exact hf
theorem guards_nil {l : List (Code × Pos)} (h : guardsOf l = []) : ∀ q ∈ l, q.1.isGuard = false := fun q hq => by
 cases e : q.1.isGuard with
 | false => rfl
 | true =>
  have : q.1 ∈ guardsOf l := List.mem_filter.mpr ⟨List.mem_map.mpr ⟨q, hq, rfl⟩, e⟩
  rw [h] at this
  cases this
theorem exp_no (v : Value) (p : Pos) {c : Code} (h1 : c.isGuard = false) (h2 : decC c = false) : Builtin.Bytes.exported.match_1 (fun J => Bool) (c, p) (fun v' J J J => Builtin.Bytes.sameRef v' v) (fun v' J J J => Builtin.Bytes.sameRef v' v) (fun J v' J J J => Builtin.Bytes.sameRef v' v) (fun v' J J J => Builtin.Bytes.sameRef v' v)
  (fun J J held J J => held.any (Builtin.Bytes.sameRef v)) (fun id v' J J J => Builtin.Bytes.sameRef v' v && Builtin.Bytes.decodersThatHold.contains id) (fun J => false) = false := by
 unfold Builtin.Bytes.exported.match_1
 induction c using Code.casesOn with
 | builtin id args =>
  have g : guardIds.contains id = false := h1
  have n : ∀ x, guardIds.contains x = true → id ≠ x := fun x hx e => by rw [e, hx] at g; exact no_tf g
  show dite (id = "bytearray.__contains__") _ _ = false
  rw [dif_neg (n _ (by decide +kernel)), dif_neg (n _ (by decide +kernel)), dif_neg (n _ (by decide +kernel)), dif_neg (n _ (by decide +kernel)), dif_neg (n _ (by decide +kernel))]
  obtain ⟨pos, kw⟩ := args
  cases pos with
  | nil => rfl
  | cons a r =>
   have h3 : Builtin.Bytes.decodersThatHold.contains id = false := h2
   show (_ && Builtin.Bytes.decodersThatHold.contains id) = false
   rw [h3, Bool.and_false]
 | _ => rfl
theorem wpN_exported {v : Value} {Q : Bool → Shared → Prop} (hg : A.guards = some []) (h : Q false s) : wpN M A (Builtin.Bytes.exported v) Q E s := by
 intro Γ p hΓ hn hc
 have g0 : guardsOf ((Γ.code, p) :: Γ.below) = [] := by rw [guardsOf_cons]; exact hΓ.2.2.2.1 [] hg
 unfold Builtin.Bytes.exported
 refine (show ∀ b, b = false → Q b s from fun b e => e ▸ h) _ (List.any_eq_false.mpr fun q hq => ?_)
 have h1 := guards_nil g0 q hq
 have h2 : decC q.1 = false := by
  rcases List.mem_cons.mp hq with rfl | hq
  ·exact hc
  ·exact hn q hq
 obtain ⟨c, p'⟩ := q
 dsimp only at h1 h2 ⊢
 rw [Bool.not_eq_true]
 exact exp_no v p' h1 h2
end
section
variable {α β : Type} {M : Model} {A : Around} {E : Value → Shared → Prop} {s : Shared} {env : Env} {Q : Value → Shared → Prop} {QF : Flow → Shared → Prop}
theorem wpN_execs_cons {st : Stmt} {rest : List Stmt} (h : wpN M A (exec st env) (fun f s' => match f with | .next => wpN M A (execs rest env) QF E s' | f => QF f s') E s) : wpN M A (execs (st :: rest) env) QF E s := by
 rw [execs_cons]
 refine wpN_bind (wpN_mono h (fun f s' h' => ?_) fun J J q => q)
 cases f <;> first | exact h' | exact wpN_pure h'
theorem wpN_If {test : PySem.Expr} {b o : List Stmt} {p : Pos} (h : wpN M A (isTrue test env (eval test env)) (fun c s₂ => if c then wpN M A (execs b env) QF E s₂ else wpN M A (execs o env) QF E s₂) E s) : wpN M A (exec (.If test b o p) env) QF E s := by
 rw [exec_If]
 refine wpN_then (wpAny_standAt (wpN_bind (wpN_mono h (fun c s₂ h₂ => ?_) fun J J q => q)))
 cases c <;> exact h₂
theorem wpN_or {x y : PySem.Expr} {p : Pos} {whole : Sem Value} {Qb : Bool → Shared → Prop} (h : wpAny M A (isTrue x env (eval x env)) (fun c s₁ => if c then Qb true s₁ else wpN M A (isTrue y env (eval y env)) Qb E s₁) E s) : wpN M A (isTrue (.BoolOp .Or [x, y] p) env whole) Qb E s := by
 rw [arm_isTrue_BoolOp, arm_allTrue_cons]
 refine wpN_then (wpAny_mono h (fun c s₁ h₁ => ?_) fun J J q => q)
 induction c using Bool.casesOn with
 | true => exact wpN_pure h₁
 | false =>
  show wpN M A (allTrue .Or [y] env) Qb E s₁
  rw [arm_allTrue_cons]
  refine wpN_bind (wpN_mono h₁ (fun c s₂ h₂ => ?_) fun J J q => q)
  induction c using Bool.casesOn with
  | true => exact wpN_pure h₂
  | false => exact wpN_pure h₂
theorem wpN_compare {l r : PySem.Expr} {op : CmpOp} {p : Pos} {whole : Sem Value} {Qb : Bool → Shared → Prop} (h : wpN M A (eval l env) (fun a s₁ => wpAny M A (do let b ← holding [a] (markedBehindIn op r (eval r env)); standAt p; let c ← operate [a, b] (compareOp op a b); holding [c] (truthy c)) Qb E s₁) E s) :
  wpN M A (isTrue (.Compare l [op] [r] p) env whole) Qb E s := by
 rw [isTrue_Compare1]
 exact wpN_last h
theorem wpN_items_cons {pos : Pos} {e : PySem.Expr} {rest : List PySem.Expr} {Ql : List Value → Shared → Prop} (h : wpN M A (eval e env) (fun v s₁ => wpN M A (spliced (backTo pos (starEach rest env))) (fun vs s₂ => Ql (v :: vs) s₂) E s₁) E s)
  (he : starEach (e :: rest) env = (false, eval e env) :: starEach rest env := by rfl) : wpN M A (spliced (backTo pos (starEach (e :: rest) env))) Ql E s := by
 rw [he]
 show wpN M A (do
  let v ← eval e env
  let here ← (pure [v] : Sem (List Value))
  return here ++ (← holding here (spliced (backTo pos (starEach rest env))))) Ql E s
 exact wpN_bind (wpN_mono h (fun v s₁ h₁ => wpN_bind (wpN_pure (wpN_bind (wpN_holding (wpN_mono h₁ (fun vs s₂ h₂ => wpN_pure h₂) fun J J x => x))))) fun J J x => x)
theorem evalArgs_plainN {f : Value} {x : Sem Value} {rest : List (Bool × Sem Value)} {Qa : Args → Shared → Prop} (h : wpN M A (spliced ((false, x) :: rest)) (fun vs s' => Qa ⟨vs, []⟩ s') E s) : wpN M A (evalArgs f true ((false, x) :: rest) []) Qa E s := by
 unfold evalArgs
 show wpN M A (spliced ((false, x) :: rest) >>= _) Qa E s
 refine wpN_bind (wpN_mono h (fun vs s' h' => ?_) fun J J x => x)
 refine wpN_holding ?_
 exact wpN_bind (wpN_pure (wpN_bind (wpN_pure (wpN_pure h'))))
theorem callWith_N {P : Heap → Prop} {pos : Pos} {f : Value} {first : List Value} {args : List (Bool × Sem Value)} {keywords : List (Option Str × Sem Value)} (hplain : (args.any (·.1) || keywords.any (·.1.isNone)) = false)
  (hk : ∀ h, P h → ∃ k, (k = Keeper.frame ∨ k = Keeper.machine ∨ k = Keeper.boundFrame) ∧ Looks M h (keeperOf f) k)
  (h : wpN M A (evalArgs f true args keywords) (fun a s₁ => P s₁.heap ∧ wpN M A (call f (first ++ a.pos) a.kw) Q E s₁) E s) : wpN M A (callWith pos f first args keywords) Q E s := by
 unfold callWith
 refine wpN_bind (wpN_holding (wpN_mono h (fun a s₁ h₁ => wpN_then (wpAny_standAt ?_)) fun J J x => x))
 obtain ⟨k, hk', L⟩ := hk _ h₁.1
 refine wpN_then (L.here ?_)
 rw [hplain]
 have tail : ∀ {t : Sem Value}, wpN M A t Q E s₁ → wpN M A (t >>= fun r => holding [r] point >>= fun J => pure r) Q E s₁ :=
  fun ht => wpN_bind (wpN_mono ht (fun r s₂ hr => wpN_then (wpAny_holding (wpAny_point (wpN_pure hr)))) fun J J x => x)
 have marked (mk : Value) : wpN M A (callMarked mk f (first ++ a.pos) a.kw) Q E s₁ := by unfold callMarked; exact wpN_keep h₁.2
 rcases hk' with rfl | rfl | rfl <;> dsimp only <;> first | exact tail h₁.2 | (split <;> first | exact tail h₁.2 | exact tail (marked _))
theorem wpN_Expr {prog : Program} {w : World} {e : PySem.Expr} {p : Pos} (h : wpN (model prog w) A (eval e env) (fun J => QF .next) E s) (hi : interactive env = false) (hs : swapsWith e none p.line env = pure false) : wpN (model prog w) A (exec (.Expr e p) env) QF E s := by
 rw [exec_Expr env e p hi hs]
 exact wpN_then (wpAny_standAt (wpN_bind (wpN_mono h (fun v s' h' => wpN.of (wpAny_dropValue h')) fun J J x => x)))
theorem wpN_Assign_Name {x : Str} {xp p : Pos} {v : PySem.Expr} (h : wpN M A (eval v env) (fun u s₁ => wpAny M A (storeName env x u) (fun J => QF .next) E s₁) E s) (hs : swapsWith v (some (.Name x xp)) p.line env = pure false) : wpN M A (exec (.Assign [.Name x xp] v p) env) QF E s := by
 rw [exec_Assign_Name env x xp v p hs]
 exact wpN_then (wpAny_standAt (wpN_bind (wpN_mono h (fun u s₁ h₁ => wpN.of (wpAny_bind (wpAny_standAt (wpAny_bind (wpAny_bindName (wpAny_mono h₁ (fun J J q => wpAny_pure q) fun J J q => q)))))) fun J J q => q)))
theorem method_N {o : PySem.Expr} {name : Str} {apos pos : Pos} {args : List PySem.Expr} {prog : Program} {w : World} (hb : baseOk o = true) (hl : (apos.endLine == pos.line) = true) (hn : noStars args = true) (hz : args.length < 30)
  (h : wpAny (model prog w) A (eval o env) (fun ov s₁ => ∀ pl, wpAny (model prog w) A (getMethod ov name pl) (fun fx s₂ => wpN (model prog w) A (callWith pos fx.1 fx.2 (backTo pos (starEach args env)) []) Q E s₂) E s₁) E s) :
  wpN (model prog w) A (eval (.Call (.Attribute o name apos) args [] pos) env) Q E s := by
 rw [arm_eval_Call, base_eq hb]
 refine wpN_then (wpAny_mono h (fun ov s₁ h₁ => ?_) fun J J e => e)
 refine wpN_then (wpAny_standAt ?_)
 unfold methodCall
 rw [plain_form hn hz]
 refine wpN_bind (wpN_holding ?_)
 unfold calleeOf
 rw [if_pos rfl]
 refine wpN.of (wpAny_mono (h₁ _) (fun fx s₂ h₂ => ?_) fun J J e => e)
 exact wpN_then (wpAny_of_eq (plain_pos hl) h₂)
end
section
variable {prog : Program} {w : World} {A : Around} {E : Value → Shared → Prop} {R : Result → Shared → Prop} {s : Shared} {env : Env}
theorem codeN_func {body : List Stmt} (h : wpN (model prog w) (A.deeper env) (execs body env) (fun f s' => R (.ok (.ret (match f with | .ret v => v | _ => .none))) s') (fun J J => False) s) : codeN (model prog w) A (.func body env) R s := by
 refine codeN_of_tree rfl ?_
 show wpN _ (A.deeper env) (do point; match ← (execs body env).onRaise (leaving env) with | .ret v => ret v | _ => ret .none) _ _ s
 refine wpN_then (wpAny_point (wpN_bind (wpN_onRaise (wpN_mono h (fun f s' h' => ?_) fun J J h' => h'.elim))))
 cases f <;> exact wpN_pure h'
theorem codeN_call_function {a : Addr} {args : Args} {o : Obj} {fd : FuncData} {body : List Stmt} (hroom : A.depth < recursionLimit) (ho : s.heap.get? a = some o)
  (hd' : o.data = .func fd) (hco : fd.scope.isCoroutine = false) (hgen : fd.scope.isGenerator = false) (hbody : fd.body = .stmts body) (hcd : s.heap.CodeRec fd.code fd.qualname)
  (h : wpAny (model prog w) A.in1 (bindArgs fd args) (fun binds s₁ =>
   wpAny (model prog w) A.in1 (newFunctionEnv fd.scope fd.globals fd.closure binds (fd.qualname ++ ".<locals>.") (some a) fd.code none fd.builtins)
    (fun env s₂ => s₂.heap.NoLimit ∧ codeN (model prog w) A (.func body env) R s₂) (fun e s' => R (.error e) s') s₁) (fun e s' => R (.error e) s') s) :
  codeN (model prog w) A (.call (.ref a) args) R s := by
 refine codeN_of_tree rfl (wpN.of ?_)
 show wpAny _ A.in1 (callAny (.ref a) args) _ _ s
 obtain ⟨c, oc, vs, tq, hc, hoc, hdc, hq⟩ := hcd
 obtain ⟨ocls, od, odata, osl⟩ := o
 obtain rfl : odata = .func fd := hd'
 refine wpAny_bind (wpAny_load ho ?_)
 show wpAny _ A.in1 (callFunction a fd args) _ _ s
 unfold callFunction
 rw [hc, hco, hgen, hbody]
 rw [hc] at h
 refine wpAny_bind (m := field (.ref c) 1) (wpAny_field hoc hdc hq (wpAny_bind (wpAny_pure ?_)))
 exact wpAny_bind (wpAny_mono h (fun binds s₁ h₁ => wpAny_bind (wpAny_mono h₁ (fun env s₂ h₂ => wpAny_bind (wpAny_enterFrame h₂.1 hroom
  (wpAny_pure (And.intro rfl h₂.2)))) fun J J h' => h')) fun J J h' => h')
theorem codeN_forLoop {target : PySem.Expr} {it : Value} {body : List Stmt} (I : Nat → Shared → Prop)
  (turn : ∀ n s, I n s → wpAny (model prog w) A (pyNext it) (fun r s₁ => match r with
   | none => R (.ok .next) s₁
   | some v => wpAny (model prog w) A (letOwnedTupleGo target it v) (fun J s₁' => wpAny (model prog w) A (assign target env v) (fun J s₂ => wpN (model prog w) A (execs body env) (fun f s₃ => match f with
      | .next | .cont => ∃ m, m < n ∧ I m s₃
      | .brk => R (.ok .next) s₃
      | .ret v => R (.ok (.ret v)) s₃) (fun J J => False) s₂) (fun J J => False) s₁') (fun J J => False) s₁) (fun J J => False) s)
  (n : Nat) (h : I n s) : codeN (model prog w) A (.forLoop target it body [] env) R s := by
 refine codeN_loop rfl rfl I (fun n s hI => ?_) n h
 show wpN _ A ((forTurn target it body [] env).onRaise (fun x => do noteFrame x env; theTreesLotGoes x)) _ _ s
 refine wpN_onRaise ?_
 simp only [forTurn]
 refine wpN_then (wpAny_standAt (wpN_then (wpAny_onRaise (wpAny_mono (turn n s hI) (fun r s₁ h₁ => ?_) fun J J h' => h'.elim))))
 induction r using Option.casesOn with
 | none => exact wpN_pure (.inr ⟨rfl, codeN.of (codeAny_block (wpAny_execs_nil h₁))⟩)
 | some v =>
  refine wpN_then (wpAny_mono h₁ (fun J s₁' h₁' => ?_) fun J J h' => h'.elim)
  refine wpN_then (wpAny_mono h₁' (fun J s₂ h₂ => wpN_bind (wpN_mono h₂ (fun f s₃ h₃ => ?_) fun J J h' => h'.elim)) fun J J h' => h'.elim)
  cases f with
  | next => exact wpN_pure (.inl ⟨rfl, h₃⟩)
  | cont => exact wpN_pure (.inl ⟨rfl, h₃⟩)
  | brk => exact wpN_pure h₃
  | ret v => exact wpN_pure h₃
theorem wpN_For {target iter : PySem.Expr} {body : List Stmt} {pos : Pos} {Q : Flow → Shared → Prop}
  (h : wpAny (model prog w) A (eval iter env) (fun x s₁ => wpAny (model prog w) A (pyIter x) (fun it s₂ =>
   codeN (model prog w) A (.forLoop target it body [] env) (fun r s' => match r with | .ok f => Q f s' | .error e => False) s₂) E s₁) E s)
  (hs : ∀ x, foldedSetIterable iter env x = pure x) : wpN (model prog w) A (exec (.For target iter body [] pos) env) Q E s := by
 rw [exec_For]
 refine wpN_then (wpAny_standAt (wpN_then (wpAny_mono h (fun x s₁ h₁ => ?_) fun J J h' => h')))
 refine wpN_then (wpAny_of_eq (hs x) (wpN_then (wpAny_standAt (wpN_then (wpAny_holding (wpAny_mono h₁ (fun it s₂ h₂ => ?_) fun J J h' => h'))))))
 unfold runOwn
 refine wpN_onRaise (wpN_run (codeN_mono h₂ fun r s' q => ?_))
 cases r with
 | ok f => exact q
 | error e => exact q.elim
end
theorem ba_mro : mroOf (.type "bytearray") = pure [.type "bytearray", .type "object"] := by rw [mroOf_type]; kernel_rfl
theorem ba_lookup_new : typeLookup (.type "bytearray") "__new__" = pure (some (.builtin "bytearray.__new__")) := by rw [typeLookup_type, builtinLookup_eq_fast]; kernel_rfl
theorem ba_slot_init : Slot "bytearray" "__init__" "bytearray.__init__" :=
 .of (owner := "bytearray") (n := "__init__") (by rw [typeLookup_type, builtinLookup_eq_fast]; kernel_rfl) (by decide +kernel) (by decide +kernel) (by decide +kernel)
  (by first | exact .inl (by decide +kernel) | exact .inr (by decide +kernel)) (by rw [isSubtype_type]; kernel_rfl)
theorem ba_called : TypeCalled "bytearray" "bytearray.__new__" "bytearray.__init__" :=
 ⟨by decide +kernel, by decide +kernel, ⟨_, _, ba_mro⟩, madeBy_type ba_mro ba_lookup_new (by decide +kernel), by decide +kernel, by rw [isSubtype_type]; kernel_rfl, ba_slot_init⟩
theorem ba_typeCall : checkTypeCall "bytearray" ⟨[], []⟩ = pure () := by kernel_rfl
theorem ba_newCall : checkBuiltinCall "bytearray.__new__" ⟨[.type "bytearray"], []⟩ = pure () := by kernel_rfl
theorem ba_plain_new : plainId "bytearray.__new__" = true := by decide +kernel
theorem ba_entry_init : entryFor table "bytearray.__init__" = some Builtin.«bytearray.__init__» := entryFor_of_tree (by kernel_rfl)
theorem ba_args_init (a : Value) : argsOk "bytearray.__init__" ⟨[a], []⟩ := by unfold argsOk; kernel_rfl
theorem ba_bind : Builtin.Bytes.bindOptional "bytearray.__init__" "bytearray" ["source", "encoding", "errors"] [] [] = pure [none, none, none] := by kernel_rfl
theorem ba_release : typeLookup (.type "bytearray") "__release_buffer__" = pure (some (.builtin "bytearray.__release_buffer__")) := by rw [typeLookup_type, builtinLookup_eq_fast]; kernel_rfl
theorem ba_buffer : typeLookup (.type "bytearray") "__buffer__" = pure (some (.builtin "bytearray.__buffer__")) := by rw [typeLookup_type, builtinLookup_eq_fast]; kernel_rfl
theorem ba_no_bytes : typeLookup (.type "bytearray") "__bytes__" = pure none := by rw [typeLookup_type, builtinLookup_eq_fast]; kernel_rfl
theorem ba_no_index : typeLookup (.type "bytearray") "__index__" = pure none := by rw [typeLookup_type, builtinLookup_eq_fast]; kernel_rfl
theorem ba_sub_self : isSubtype (.type "bytearray") (.type "bytearray") = pure true := by rw [isSubtype_type]; kernel_rfl
theorem ba_entry_new : entryFor table "bytearray.__new__" = some Builtin.«list.__new__» := entryFor_alias (id' := "list.__new__") (by kernel_rfl) rfl (by decide +kernel) (by kernel_rfl)
set_option maxHeartbeats 4000000 in
theorem ba_owner : ("bytearray.__new__".splitOn ".__new__").headD "" = "bytearray" := by simp +decide [String.splitOn, String.splitOnAux]
noncomputable def baO (b : Array UInt8) : Obj := { cls := .type "bytearray", data := .bytearray b }
section
variable {prog : Program} {w : World} {A : Around} {E : Value → Shared → Prop} {R : Result → Shared → Prop} {s : Shared}
theorem codeN_builtin {id : String} {args : Args} {b : Builtin} (hd : decC (.builtin id args) = false) (hb : entryFor table id = some b)
  (h : wpN (model prog w) (A.under (.builtin id args)) (b args) (fun fin s' => match fin with | .done f => R (.ok f) s' | .again c' => c'.quiet = true ∧ codeN (model prog w) A c' R s') (fun e s' => R (.error e) s') s) :
  codeN (model prog w) A (.builtin id args) R s := by
 refine codeN_of_tree hd ?_
 show wpN _ _ (match entryFor table id with | some b => b args | none => unsupported ((withoutEnding? id "#data").getD id)) _ _ s
 rw [hb]; exact h
theorem codeN_call_builtin {id : String} {args : Args} {b : Builtin} (hq : plainId id = true) (hd : decC (.builtin id args) = false) (hb : entryFor table id = some b)
  (h : wpAny (model prog w) A.in1 (checkBuiltinCall id args) (fun J s₁ => wpN (model prog w) A.in1 (b args)
   (fun fin s' => match fin with | .done f => R (.ok f) s' | .again c' => c'.quiet = true ∧ codeN (model prog w) A c' R s') (fun e s' => R (.error e) s') s₁)
   (fun e s' => R (.error e) s') s) : codeN (model prog w) A (.call (.builtin id) args) R s := by
 refine codeN_of_tree rfl ?_
 show wpN _ A.in1 (do checkBuiltinCall id args; again (.builtin id args)) _ _ s
 refine wpN_then (wpAny_mono h (fun J s₁ h₁ => ?_) fun J J q => q)
 refine wpN_pure ⟨plainId_quiet hq args, codeN_builtin hd hb ?_⟩
 rw [Around.under_plainId hq args]
 exact h₁
theorem code_ba_new {Q₁ : Value → Shared → Prop} (h : Q₁ (.ref s.heap.objs.size) { s with heap := s.heap.push { cls := .type "bytearray", data := .bytearray #[] } }) :
  codeAny (model prog w) A (.call (.builtin "bytearray.__new__") ⟨[.type "bytearray"], []⟩) (wants Q₁ E) s := by
 refine codeAny_of_tree ?_
 show wpAny _ A.in1 (do checkBuiltinCall "bytearray.__new__" ⟨[.type "bytearray"], []⟩; again (.builtin "bytearray.__new__" ⟨[.type "bytearray"], []⟩)) _ _ s
 refine wpAny_bind (wpAny_of_eq ba_newCall (wpAny_pure ⟨plainId_quiet ba_plain_new _, codeAny_builtin_stack ba_entry_new rfl fun p st => ?_⟩))
 rw [Around.under_plainId ba_plain_new _]
 have hsub := ba_sub_self
 have hown := ba_owner
 obtain ⟨hp, g, d, tk, os⟩ := s
 dsimp only
 rw [hown]
 wp_walk
 exact h
theorem ba_own {a : Addr} (hT : s.TypeIs (.ref a) "bytearray") {n id : String} (hl : typeLookup (.type "bytearray") n = pure (some (.builtin id))) (h1 : (!id.endsWith ("." ++ n)) = false) (h2 : id.dropRight (n.length + 1) = "bytearray") {Q : Bool → Shared → Prop} (h : Q true s) : wpAny (model prog w) A (Builtin.Bytes.slotIsOwn (.ref a) n) Q E s := by
 unfold Builtin.Bytes.slotIsOwn
 refine wpAny_bind (wpAny_specialOf hT hl ?_)
 dsimp only
 refine bm_if_false h1 ?_
 rw [h2]
 exact wpAny_isInstance hT ba_sub_self h
theorem ba_ownRelease {a : Addr} (hT : s.TypeIs (.ref a) "bytearray") {Q : Bool → Shared → Prop} (h : Q false s) : wpAny (model prog w) A (Builtin.Bytes.ownRelease (.ref a)) Q E s := by
 unfold Builtin.Bytes.ownRelease
 exact wpAny_bind (ba_own hT ba_release (by decide +kernel) (by decide +kernel) (wpAny_pure h))
theorem bmN_if_false {α : Type} {M : Model} {c : Bool} {a b : Sem α} {Q : α → Shared → Prop} (hc : c = false) (h : wpN M A b Q E s) : wpN M A (if c = true then a else b) Q E s := by
 subst hc
 exact h
theorem bmN_if_true {α : Type} {M : Model} {c : Bool} {a b : Sem α} {Q : α → Shared → Prop} (hc : c = true) (h : wpN M A a Q E s) : wpN M A (if c = true then a else b) Q E s := by
 subst hc
 exact h
theorem ba_free {a : Addr} {b : Array UInt8} {Q : Bool → Shared → Prop} (hg : A.guards = some []) (ho : s.heap.get? a = some (baO b)) (h : Q false s) :
  wpN (model prog w) A (Builtin.Bytes.exported (.ref a) <||> (do return (← Builtin.Bytes.exportsOf (.ref a)) > 0)) Q E s := by
 unfold orM
 refine wpN_bind (wpN_exported hg (wpN.of (wpAny_bind ?_)))
 show wpAny _ _ (load a >>= _) _ _ _
 exact wpAny_bind (wpAny_load ho (wpAny_pure (wpAny_pure h)))
theorem ba_write {a : Addr} {b : Array UInt8} {f : Array UInt8 → Array UInt8} {Q : Unit → Shared → Prop} (ho : s.heap.get? a = some (baO b)) (hp : (Data.bytearray (f b) 0).pastItsLine = none)
  (h : Q () { s with heap := s.heap.update a (Obj.mapBytearray f) }) : wpAny (model prog w) A (Builtin.Bytes.write (.ref a) f) Q E s := by
 show wpAny _ _ (updateBytearray a f) _ _ _
 exact wpAny_bind (wpAny_load ho (wpAny_bind (wpAny_update ho (wpAny_lookBehind (s := { s with heap := s.heap.update a (Obj.mapBytearray f) }) (Heap.get?_update_self _ ho rfl) hp h))))
theorem ba_is {a : Addr} {b : Array UInt8} (ho : s.heap.get? a = some (baO b)) : s.TypeIs (.ref a) "bytearray" := ⟨_, ho, rfl⟩
theorem ba_init {a : Addr} {b : Array UInt8} {Q : Fin → Shared → Prop} (hg : A.guards = some []) (ho : s.heap.get? a = some (baO b))
  (h : Q (.done (.ret .none)) { s with heap := s.heap.update a (Obj.mapBytearray fun J => #[]) }) : wpN (model prog w) A (Builtin.«bytearray.__init__» ⟨[.ref a], []⟩) Q E s := by
 unfold Builtin.«bytearray.__init__»
 refine wpN_then (ba_ownRelease (ba_is ho) ?_)
 refine bmN_if_false rfl ?_
 refine wpN_then (wpAny_of_eq ba_bind ?_)
 refine wpN_then (wpAny_of_eq (a := ()) rfl ?_)
 refine wpN_then (wpAny_of_eq (a := ()) rfl ?_)
 refine wpN_bind (ba_free hg ho ?_)
 refine bmN_if_false rfl ?_
 refine wpN_then (ba_write ho rfl ?_)
 exact wpN_pure h
theorem call_bytearray {Q : Value → Shared → Prop} (hg : A.guards = some []) (h : ∀ h', h'.get? s.heap.objs.size = some (baO #[]) → (∀ b o, s.heap.get? b = some o → h'.get? b = some o) → Q (.ref s.heap.objs.size) { s with heap := h' }) : wpN (model prog w) A (call (.type "bytearray") []) Q E s := by
 obtain ⟨c, tl, hmro⟩ := ba_called.mro
 have hmade := ba_called.made
 have hsub := ba_called.sub
 have h1 := ba_called.notType
 have h2 := ba_called.canCreate
 refine wpN_call (codeN_of_tree rfl ?_)
 show wpN _ _ (callAny (.type "bytearray") _) _ _ _
 refine wpN_pure ⟨Code.quiet_builtin _ (by decide +kernel), codeN_builtin rfl F.entry_type_call ?_⟩
 rw [Around.under_plain (weight_type_call_type "bytearray" [] []) rfl]
 unfold Builtin.«type.__call__»
 dsimp only
 rw [if_neg (by rw [h1]; exact Bool.false_ne_true), if_neg (by rw [h2]; exact Bool.false_ne_true)]
 refine wpN_then (wpAny_of_eq ba_typeCall (wpN_then (wpAny_of_eq hmro ?_)))
 rw [if_neg (show ¬ ((c :: tl).isEmpty = true) from Bool.false_ne_true)]
 refine wpN_then (wpAny_of_eq hmade ?_)
 dsimp only
 refine wpN_then (wpAny_pure (wpN_then (wpAny_holding (wpAny_call (codeAny_mono (code_ba_new (E := E) (Q₁ := fun v s' => v = .ref s.heap.objs.size ∧ s' = { s with heap := s.heap.push (baO #[]) }) ⟨rfl, rfl⟩) fun r s' hr => ?_)))))
 rcases r with e | (v | _ | _ | _) <;> first | exact hr | exact hr.elim | skip
 obtain ⟨rfl, rfl⟩ := hr
 have hb : (s.heap.push (baO #[])).get? s.heap.objs.size = some (baO #[]) := Heap.get?_push_size _ rfl
 have hT : ({ s with heap := s.heap.push (baO #[]) } : Shared).TypeIs (.ref s.heap.objs.size) "bytearray" := ⟨_, hb, rfl⟩
 refine wpN_then (wpAny_isInstance (T := "bytearray") (b := true) hT ba_sub_self ?_)
 rw [if_neg (by decide)]
 refine wpN_bind (wpN_holding ?_)
 unfold callSpecial?
 refine wpN_then (wpAny_specialOf hT ba_slot_init.lookup ?_)
 dsimp only
 rw [ba_slot_init.bind]
 refine wpN_holding (wpN_then (wpAny_pure (wpN_bind (wpN_call (codeN_call_builtin ba_slot_init.plain rfl ba_entry_init (ba_slot_init.check _ _ _ _ _ _ _ _ hT (ba_args_init _) ?_))))))
 refine ba_init (s := { s with heap := s.heap.push (baO #[]) }) hg hb ?_
 refine wpN_pure (bmN_if_false rfl (wpN_pure ?_))
 exact h _ (Heap.get?_update_self (Obj.mapBytearray fun J => #[]) hb rfl) fun b o e => Heap.get?_update_of_ne _ (Nat.ne_of_gt (Heap.lt_size e)) (Heap.get?_push_of_some _ e)
theorem ba_payload {a : Addr} {b : Array UInt8} {Q : Array UInt8 → Shared → Prop} (ho : s.heap.get? a = some (baO b)) (h : Q b s) : wpAny (model prog w) A (Builtin.Bytes.payload (.ref a)) Q E s := by
 unfold Builtin.Bytes.payload
 refine wpAny_bind ?_
 show wpAny _ _ (load a >>= _) _ _ _
 exact wpAny_bind (wpAny_load ho (wpAny_pure (wpAny_pure h)))
theorem take_eq {id : String} {b : Array UInt8} {t : Tok} : Builtin.Bytes.takeBufferQuiet? id (.bytes b t) 0 = pure (some (b, none)) := by
 have e : ((0 : Int) == Builtin.Bytes.fullReadOnly) = false := by decide +kernel
 unfold Builtin.Bytes.takeBufferQuiet? Builtin.Bytes.takeBuffer?
 rw [KBy.special_eq KBy.look_buffer, KBy.own_buffer, e, KBy.buffer_eq]
 kernel_rfl
theorem ba_extend {a : Addr} {b more : Array UInt8} {t : Tok} {Q : Fin → Shared → Prop} (hg : A.guards = some []) (ho : s.heap.get? a = some (baO b)) (hz : (b ++ more).size ≤ sizeLine)
  (h : Q (.done (.ret .none)) { s with heap := s.heap.update a (Obj.mapBytearray (· ++ more)) }) : wpN (model prog w) A (Builtin.«bytearray.extend» ⟨[.ref a, .bytes more t], []⟩) Q E s := by
 unfold Builtin.«bytearray.extend»
 refine wpN_then (wpAny_of_eq (a := (.ref a, .bytes more t)) rfl ?_)
 dsimp only
 refine wpN_then (wpAny_of_eq (KBy.special_eq KBy.look_buffer) ?_)
 refine bmN_if_true rfl ?_
 refine wpN_then (wpAny_rule ?_)
 refine wpN_then (ba_payload ho ?_)
 refine wpN_then (wpAny_of_eq take_eq ?_)
 refine bmN_if_true rfl ?_
 have fin : wpN (model prog w) A (do Builtin.Bytes.write (.ref a) (· ++ more); ret .none) Q E s := by
  refine wpN_then (ba_write ho ?_ (wpN_pure h))
  unfold Data.pastItsLine
  exact if_neg (Nat.not_lt.mpr hz)
 have end_ : wpN (model prog w) A (do
   if !more.isEmpty then Builtin.Bytes.checkResize (.ref a)
   Builtin.Bytes.write (.ref a) (· ++ more)
   ret .none) Q E s := by
  cases he : !more.isEmpty with
  | false => exact fin
  | true =>
   refine wpN_bind ?_
   unfold Builtin.Bytes.checkResize
   refine wpN_bind (ba_free hg ho ?_)
   exact wpN_pure fin
 exact end_
theorem ba_entry_extend : entryFor table "bytearray.extend" = some Builtin.«bytearray.extend» := entryFor_of_tree (by kernel_rfl)
theorem ba_bytes {a : Addr} {b : Array UInt8} {Q : Value → Shared → Prop} (ho : s.heap.get? a = some (baO b)) (hz : b.size ≤ sizeLine) (hQ : ∀ t k, Q (.bytes b t) { s with toks := k }) :
  codeAny (model prog w) A (.call (.builtin "bytes.__new__") ⟨[.type "bytes", .ref a], []⟩) (wants Q E) s := by
 refine codeAny_of_tree ?_
 show wpAny _ A.in1 (do checkBuiltinCall "bytes.__new__" ⟨[.type "bytes", .ref a], []⟩; again (.builtin "bytes.__new__" ⟨[.type "bytes", .ref a], []⟩)) _ _ s
 refine wpAny_bind (wpAny_of_eq (F.bm_newCall _) (wpAny_pure ⟨plainId_quiet F.bm_plain _, codeAny_builtin F.bm_entry ?_⟩))
 rw [Around.under_plainId F.bm_plain _]
 have hT := ba_is ho
 unfold Builtin.«bytes.__new__»
 refine wpAny_bind (wpAny_of_eq (a := true) rfl ?_)
 refine bm_if_false rfl ?_
 refine wpAny_bind (wpAny_of_eq F.bm_sub ?_)
 refine bm_if_false rfl ?_
 refine wpAny_bind (wpAny_of_eq (F.bm_bind _) ?_)
 refine wpAny_bind (wpAny_of_eq (a := ()) rfl ?_)
 refine wpAny_bind (wpAny_of_eq (a := ()) rfl ?_)
 refine bm_if_false rfl ?_
 refine wpAny_bind (wpAny_specialOf hT ba_no_bytes ?_)
 refine wpAny_bind (wpAny_bind ?_)
 show wpAny _ _ (load a >>= _) _ _ _
 refine wpAny_bind (wpAny_load ho ?_)
 refine wpAny_pure (wpAny_pure ?_)
 refine bm_if_false rfl ?_
 refine wpAny_bind (wpAny_specialOf hT ba_no_index ?_)
 refine bm_if_true rfl ?_
 first
  | show wpAny _ _ (Builtin.Bytes.buffer? "bytes.__new__" (.ref a) true >>= _) _ _ _
  | (refine wpAny_bind ?_; show wpAny _ _ (Builtin.Bytes.buffer? "bytes.__new__" (.ref a) true >>= _) _ _ _)
 refine wpAny_bind ?_
 unfold Builtin.Bytes.buffer?
 refine wpAny_bind (wpAny_specialOf hT ba_buffer ?_)
 refine wpAny_bind (ba_own hT ba_buffer (by decide +kernel) (by decide +kernel) ?_)
 refine bm_if_false rfl ?_
 refine wpAny_bind (wpAny_specialOf hT ba_buffer ?_)
 refine wpAny_bind (ba_ownRelease hT ?_)
 refine bm_if_false rfl ?_
 refine wpAny_bind (ba_payload ho ?_)
 refine wpAny_pure ?_
 refine wpAny_bind (wpAny_rule ?_)
 refine wpAny_bind (wpAny_mkBytes ?_ hz)
 exact wpAny_pure (hQ _ _)
theorem call_bytes_ba {a : Addr} {b : Array UInt8} {Q : Value → Shared → Prop} (ho : s.heap.get? a = some (baO b)) (hz : b.size ≤ sizeLine) (hQ : ∀ t k, Q (.bytes b t) { s with toks := k }) : wpAny (model prog w) A (call (.type "bytes") [.ref a]) Q E s := by
 refine callType_codes (Q₁ := fun obj s₁ => s₁.TypeIs obj "bytes" ∧ Q obj s₁) F.bm_called (F.bm_typeCall _) F.entry_object_init
  (ba_bytes ho hz fun t k => ⟨PySem.W.typeIs_bytes _ _ _, hQ t k⟩) fun obj s₁ h₁ => ?_
 exact ⟨h₁.1, F.args_object_init_2 obj _, object_init_meets F.bm_called.init.lookup F.bm_called.made (by decide) prog w A.in1 _ s₁ ⟨h₁.1, rfl, h₁.2⟩⟩
theorem ba_slot_extend : Slot "bytearray" "extend" "bytearray.extend" :=
 .of (owner := "bytearray") (n := "extend") (by rw [typeLookup_type, builtinLookup_eq_fast]; kernel_rfl) (by decide +kernel) (by decide +kernel) (by decide +kernel)
  (by first | exact .inl (by decide +kernel) | exact .inr (by decide +kernel)) (by rw [isSubtype_type]; kernel_rfl)
theorem ba_args_extend (a b : Value) : argsOk "bytearray.extend" ⟨[a, b], []⟩ := by unfold argsOk; kernel_rfl
theorem ba_getattribute : typeLookup (.type "bytearray") "__getattribute__" = pure (some (.builtin "bytearray.__getattribute__")) := by rw [typeLookup_type, builtinLookup_eq_fast]; kernel_rfl
theorem ba_canon : (Manifest.canonical "bytearray.__getattribute__" != "object.__getattribute__") = false := by decide +kernel
theorem ba_getattr_none : typeLookup (.type "bytearray") "__getattr__" = pure none := by rw [typeLookup_type, builtinLookup_eq_fast]; kernel_rfl
theorem ba_type_extend : typeOf (.builtin "bytearray.extend") = pure (.type "method_descriptor") := by show builtinType _ = _; rw [builtinType_eq_fast]; kernel_rfl
theorem getMethod_extend {M : Model} {a : Addr} {b : Array UInt8} {pl : Sem Bool} {Q : Value × List Value → Shared → Prop} (ho : s.heap.get? a = some (baO b)) (h : Q (.builtin "bytearray.extend", [.ref a]) s) : wpAny M A (getMethod (.ref a) "extend" pl) Q E s := by
 have hT := ba_is ho
 unfold getMethod
 refine wpAny_bind (wpAny_specialOf hT ba_getattribute ?_)
 show wpAny M A (if (Manifest.canonical "bytearray.__getattribute__" != "object.__getattribute__") = true then _ else _) Q E s
 rw [ba_canon, if_neg Bool.false_ne_true]
 refine wpAny_bind (wpAny_specialOf hT ba_getattr_none ?_)
 refine wpAny_bind (wpAny_specialOf hT ba_slot_extend.lookup ?_)
 refine wpAny_bind (wpAny_of_eq ba_type_extend ?_)
 refine wpAny_bind (wpAny_load ho ?_)
 exact wpAny_bind (wpAny_rule (wpAny_pure h))
theorem call_extend {a : Addr} {b more : Array UInt8} {t : Tok} {Q : Value → Shared → Prop} (hg : A.guards = some []) (ho : s.heap.get? a = some (baO b)) (hz : (b ++ more).size ≤ sizeLine)
  (h : Q .none { s with heap := s.heap.update a (Obj.mapBytearray (· ++ more)) }) : wpN (model prog w) A (call (.builtin "bytearray.extend") [.ref a, .bytes more t]) Q E s := by
 refine wpN_call (codeN_call_builtin ba_slot_extend.plain rfl ba_entry_extend (ba_slot_extend.check _ _ _ _ _ _ _ _ (ba_is ho) (ba_args_extend _ _) ?_))
 exact ba_extend hg ho hz h
end
end
section
open PySem PySem.W PySem.Calls PyProof.Rows
section
variable {prog : Program} {w : World} {S : Sta} {T : Tab} {k kk : Nat} {M : Model}
variable {A : Around} {stk outer : List Env} {K K' K₀ : Kn} {s s₀ s₂ : Shared} {env : Env} {E E' : Value → Shared → Prop} {h h' h₀ h₁ h₂ : Heap} {m m' : Loc} {sc : Scope} {n : Nat}
variable {fd : FuncData} {ps : List Arg} {df : List D} {body : List Stmt} {f a : Addr} {b : Array UInt8}
noncomputable def FnSpecN (prog : Program) (w : World) (S : Sta) (k : Nat) (f : Value) (F : List D → Tr D) : Prop :=
 ∀ (A : Around) (stk : List Env) (K : Kn) (s : Shared) (vs : List Value) (ds : List D) (Q : Value → Shared → Prop), Ar A stk k → A.guards = some [] → St S stk K s → Reps S K vs ds → (F ds).sat (fun d => Good S stk s K d Q) (fun J J => False) → wpN (model prog w) A (call f vs []) Q (fun J J => False) s
noncomputable def BodyHandN (prog : Program) (w : World) (S : Sta) (T : Tab) (k : Nat) (ps : List Arg) (df : List D) (sc : Scope) (body : List Stmt) (F : List D → Tr D) : Prop :=
 ∀ (ds : List D) (m : Loc) (env : Env) (A : Around) (stk : List Env) (K : Kn) (s : Shared) (Qf : Value → Shared → Prop), bindD ps ds df = some m → Ar A stk k → A.guards = some [] → St S stk K s → Lc S stk env m K s.heap → KindOk S T sc env → Top1 stk env → env.scope = sc → (noCell sc.names = true → env.cells = []) →
  (F ds).sat (fun d => ∀ K' s', St S stk K' s' → ExtP S stk (Own env) s.heap s'.heap → KExt s.heap K K' → ∀ v, Rep S K' v d → Qf v s') (fun J J => False) → wpN (model prog w) A (execs body env) (fun f s' => Qf (match f with | .ret v => v | _ => .none) s') (fun J J => False) s
theorem fnN_hand {F : List D → Tr D} (H : StaOk S) (D : DefAt S T f fd ps df sc body) (BH : BodyHandN prog w S T k ps df sc body F) (hF : ∀ ds, bindD ps ds df = none → F ds = .bad) : FnSpecN prog w S (k + 1) (.ref f) F := by
 intro A stk K s vs ds Q ar hg TS rs h
 refine wpN_call ?_
 cases hm : bindD ps ds df with
 | none => rw [hF ds hm] at h; exact h.elim
 | some m =>
  obtain ⟨binds, bt, hb, hn⟩ := D.bind K s vs ds m TS.stays rs hm
  obtain ⟨o, ho, hd⟩ := D.obj
  have hs : fd.scope = sc := D.scope
  refine codeN_call_function (by have := ar.depth; show A.depth < 1000; lia) (TS.stays _ _ ho) hd (by rw [hs]; exact D.co) (by rw [hs]; exact D.gen) D.body (D.code.keeps TS.stays) ?_
  refine bt _ _ _ _ ?_
  rw [hs, D.glob, D.clo, D.blt]
  refine wpAny_newFunctionEnv_cells D.kind (fun p hp => ?_) fun env he s₂ x => ?_
  ·have hq := D.par p.1 (by rw [← hn]; exact List.mem_map.mpr ⟨p, hp, rfl⟩)
   unfold storable at hq
   cases q : sc.names.lookup p.1 with
   | none => rw [q] at hq; exact no_ft hq
   | some z =>
    rw [q] at hq
    induction z using PySem.NameKind.casesOn with
    | «local» => exact .inl rfl
    | cell => exact .inr ⟨rfl, cellsFrom_some _ _ _ (lookup_mem q)⟩
    | _ => exact no_ft hq
  ·obtain ⟨T₂, X₂, ko, tp, own, hF⟩ := enter H TS D hb hn he x
   have keep := x.toInCall.keep
   refine ⟨H.nolim.keeps T₂.stays, codeN_func ?_⟩
   refine BH ds m env _ _ K _ _ hm (ar.deeper env) hg T₂ X₂ ko tp (by rw [he]; rfl) (fun q => by rw [he]; exact cellsFrom_none _ _ q) ?_
   refine Tr.sat_mono (fun d q K' s' T' x' k' v rv => ?_) (fun J J q => q) _ h
   exact q v K' s' (T'.pop hF) (x'.pop hF keep (new_none _) own) ⟨k'.1, fun a o e => (k'.2 a o e).imp id fun q => by
    cases z : s.heap.get? a with
    | none => rfl
    | some o => rw [keep a o z] at q; exact no_sn q⟩ rv
structure MutB (S : Sta) (stk : List Env) (env : Env) (K : Kn) (h : Heap) (a : Addr) (b : Array UInt8) : Prop where
 obj : h.get? a = some (baO b)
 kn : K a = none
 base : S.B.get? a = none
 fix : Fix S stk a
 own : ¬ Own env a
theorem MutB.ext (x : MutB S stk env K h a b) (e : ExtP S stk (Own env) h h') (kx : KExt h K K') : MutB S stk env K' h' a b := by
 refine ⟨e.get x.obj x.fix x.own, ?_, x.base, x.fix, x.own⟩
 cases q : K' a with
 | none => rfl
 | some o =>
  rcases kx.2 a o q with z | z
  ·rw [x.kn] at z; exact no_ns z
  ·rw [x.obj] at z; exact no_sn z
theorem MutB.loose (x : MutB S stk env K h a b) : Loose S stk K h h' a :=
 ⟨x.base, x.kn, x.fix.2, fun o e q => by rw [x.obj] at e; obtain rfl := Option.some.inj e; exact absurd q.1 (by intro z; injection z with z; exact absurd z (by decide)), fun q => absurd q x.fix.1⟩
theorem new_apart (TS : St S stk K s) (X : Lc S stk env m K s.heap) (n : s.heap.get? a = none) : K a = none ∧ S.B.get? a = none ∧ Fix S stk a ∧ ¬ Own env a := by
 refine ⟨TS.kNone n, ?_, Fix.new TS n, fun q => ?_⟩
 ·cases q : S.B.get? a with
  | none => rfl
  | some o => rw [TS.stays _ _ q] at n; exact no_sn n
 ·obtain ⟨o, ho⟩ := own_live X q
  rw [n] at ho; exact no_ns ho
theorem extend_raw (H : StaOk S) (IE : SoundE prog w S T k kk) (ar : Ar A stk k) (hg : A.guards = some []) (ko : KindOk S T sc env) (TS : St S stk K s) (X : Lc S stk env m K s.heap) (U : MutB S stk env K s.heap a b) {x : Str} {xp ap cp p : Pos} {e : PySem.Expr} (hx : m.lookup x = some (.raw (.ref a))) (hk : env.kindOf x = some .local) (hd : (x == ("__debug__" : Str)) = false)
  (hl : (ap.endLine == cp.line) = true) (he : starE e = false) {Q : Flow → Shared → Prop}
  (h : (ev T kk sc e m).sat (fun d => ∃ l, d = .bytes l ∧ (KBw.bInts b ++ l).length ≤ cap ∧ ∀ (K₁ : Kn) (s₁ : Shared) (h' : Heap) (b' : Array UInt8), KBw.bInts b' = KBw.bInts b ++ l → St S stk K₁ { s₁ with heap := h' } → Ext S stk s.heap s₁.heap → KExt s.heap K K₁ → Lc S stk env m K₁ h' → MutB S stk env K₁ h' a b' → (∀ b, b ≠ a → h'.get? b = s₁.heap.get? b) → Q .next { s₁ with heap := h' }) (fun w a => Fall S stk s K w a E)) :
  wpN (model prog w) A (exec (.Expr (.Call (.Attribute (.Name x xp) "extend" ap) [e] [] cp) p) env) Q E s := by
 refine wpN_Expr ?_ (by unfold interactive; rw [X.kind]; rfl) rfl
 refine method_N rfl hl (by show (match starE e with | true => false | false => noStars []) = true; rw [he]; rfl) (by exact (by decide : (1 : Nat) < 30)) ?_
 refine name_val X hx (.inl hk) hd fun v rv => ?_
 obtain rfl := rv.raw_v
 intro pl
 refine getMethod_extend U.obj ?_
 refine callWith_N (P := fun J => True) (by rw [starEach_cons he]; rfl) (keeps_builtin _) ?_
 suffices q : wpN (model prog w) A (spliced (backTo cp (starEach [e] env))) (fun us s' => True ∧ wpN (model prog w) A (call (.builtin "bytearray.extend") ([.ref a] ++ us) []) (fun J => Q .next) E s') E s by
  rw [starEach_cons he] at q ⊢
  exact evalArgs_plainN q
 refine wpN.of (wpAny_items_cons ?_ (starEach_cons he))
 refine IE sc e m env A stk K s _ E ar TS X ko (Tr.sat_mono (fun d hd => ?_) (fun J J q => q) _ h)
 intro v K₁ s₁ T₁ x₁ k₁ r₁
 obtain ⟨l, rfl, hz, hq⟩ := hd
 obtain ⟨more, t, rfl, rfl⟩ := r₁.bytes_v
 refine wpAny_items_nil ⟨trivial, ?_⟩
 have U₁ := U.ext (Ext.p x₁) k₁
 have hz' : (b ++ more).size ≤ sizeLine := by
  rw [List.length_append, KBw.ints_length, KBw.ints_length] at hz
  rw [sizeLine_eq, Array.size_append]
  unfold cap at hz
  lia
 refine call_extend hg U₁.obj hz' ?_
 have kp : ∀ c, c ≠ a → (s₁.heap.update a (Obj.mapBytearray (· ++ more))).get? c = s₁.heap.get? c := fun c n => upd_other _ _ n
 exact hq K₁ s₁ _ (b ++ more) (KBw.ints_app rfl rfl) (T₁.alter (P := (· = a)) (fun c q => by have q' : c = a := q; rw [q']; exact U₁.loose) (fun c o nb q => (kp c nb).trans q) s₁.toks) x₁ k₁
  ((X.ext x₁ k₁).keep (fun c o ow q => (kp c fun z => U₁.own (z ▸ ow)).trans q) (KExt.refl _ _)) ⟨Heap.get?_update_self _ U₁.obj rfl, U₁.kn, U₁.base, U₁.fix, U₁.own⟩ kp
end
noncomputable def packL (P : List D → Tr D) : List D → List Int → Tr D
 | [], acc => .ok (.bytes acc)
 | d :: r, acc => (noExc (P [d])).bind fun b => match b with | .bytes l => .br (decide ((acc ++ l).length ≤ cap)) (packL P r (acc ++ l)) .bad | _ => .bad
noncomputable def packAllF (P : List D → Tr D) : List D → Tr D
 | [.list ds] => .br (decide (ds.length ≤ cap)) (packL P ds []) .bad
 | _ => .bad
structure PaB (T : Tab) (P : List D → Tr D) (sc : Scope) (body : List Stmt) (pp : Nat → Pos) (cal : PySem.Expr) : Prop where
 hbody : body = [.Assign [.Name "found" (pp 0)] (.Call (.Name "bytearray" (pp 1)) [] [] (pp 2)) (pp 3),
   .For (.Name "order" (pp 4)) (.Name "orders" (pp 5)) [.Expr (.Call (.Attribute (.Name "found" (pp 7)) "extend" (pp 8)) [cal] [] (pp 9)) (pp 10)] [] (pp 6),
   .Return (some (.Call (.Name "bytes" (pp 11)) [.Name "found" (pp 12)] [] (pp 13))) (pp 14)]
 hline : ((pp 8).endLine == (pp 9).line) = true
 hstar : starE cal = false
 ecal : (∀ (l : List D) (v : Value) (o : D), ev T 40 sc cal [("orders", .list l), ("found", .raw v), ("order", o)] = P [o])
structure PaAt (T : Tab) (P : List D → Tr D) (ps : List Arg) (sc : Scope) (body : List Stmt) : Prop where
 ps : ∃ a b, ps = [⟨"orders", a, b⟩]
 cells : noCell sc.names = true
 loc : ∀ x ∈ [("orders" : Str), "found", "order"], sc.names.lookup x = some .local
 glob : ∀ x ∈ [("bytearray" : Str), "bytes"], sc.names.lookup x = some .globalImplicit
 body : ∃ (pp : Nat → Pos) (cal : PySem.Expr), PaB T P sc body pp cal
section
variable {prog : Program} {w : World} {S : Sta} {T : Tab} {k : Nat} {P : List D → Tr D} {ps : List Arg} {sc : Scope} {body : List Stmt}
inductive PaI (prog : Program) (w : World) (S : Sta) (P : List D → Tr D) (stk : List Env) (env : Env) (l : List D) (a : Addr) (s₀ : Shared) (K₀ : Kn) (h₂ : Heap) (I : Addr) (wr : List Addr) (Qf : Value → Shared → Prop) (n : Nat) (s : Shared) : Prop
 | mk : ∀ rest K bb, rest.length = n → St S stk K s → Lc S stk env [("orders", .list l), ("found", .raw (.ref a))] K s.heap → MutB S stk env K s.heap a bb → (KBw.bInts bb).length ≤ cap → ItAt prog w S h₂ false I wr rest K s.heap → ExtP S stk (Own env) s₀.heap s.heap → KExt s₀.heap K₀ K → (packL P rest (KBw.bInts bb)).sat (fun d => ∀ K' s', St S stk K' s' → ExtP S stk (Own env) s₀.heap s'.heap → KExt s₀.heap K₀ K' → ∀ v, Rep S K' v d → Qf v s') (fun J J => False) → PaI prog w S P stk env l a s₀ K₀ h₂ I wr Qf n s
theorem pa_body0 (H : StaOk S) (GA : GlobIs S "bytearray" (.type "bytearray")) (GB : GlobIs S "bytes" (.type "bytes")) (IE : SoundE prog w S T k 40) {pp : Nat → Pos} {cal : PySem.Expr} (PA : PaAt T P ps sc body) (UB : PaB T P sc body pp cal) : BodyHandN prog w S T k ps [] sc body (packAllF P) := by
 intro ds m₀ env A stk K₀ s₀ Qf hb ar hg T₀ X₀ ko tp hsc hcl h
 obtain ⟨pa, pb, rfl⟩ := PA.ps
 have kl : ∀ y ∈ [("orders" : Str), "found", "order"], env.kindOf y = some .local := fun y hy => by unfold Env.kindOf; rw [hsc]; exact PA.loc y hy
 have kg : ∀ y ∈ [("bytearray" : Str), "bytes"], env.kindOf y = some .globalImplicit := fun y hy => by unfold Env.kindOf; rw [hsc]; exact PA.glob y hy
 obtain ⟨l, rfl⟩ : ∃ l, ds = [.list l] := by
  induction ds using List.casesOn with
  | nil => exact h.elim
  | cons d r =>
   induction r using List.casesOn with
   | nil => induction d using D.casesOn with
    | list l => exact ⟨l, rfl⟩
    | _ => exact h.elim
   | cons _ _ => cases d <;> exact h.elim
 have e₀ : m₀ = ([(("orders" : Str), D.list l)] : Loc) := (Option.some.inj hb).symm
 subst e₀
 have h' : l.length ≤ cap ∧ (packL P l []).sat (fun d => ∀ K' s', St S stk K' s' → ExtP S stk (Own env) s₀.heap s'.heap → KExt s₀.heap K₀ K' → ∀ v, Rep S K' v d → Qf v s') (fun J J => False) := by
  cases q : decide (l.length ≤ cap) with
  | true => exact ⟨of_decide_eq_true q, h.1 q⟩
  | false => exact (h.2 q).elim
 obtain ⟨hcap, h'⟩ := h'
 rw [UB.hbody]
 refine wpN_execs_cons (wpN_Assign_Name ?_ rfl)
 show wpN _ _ (eval (.Name "bytearray" (pp 1)) env >>= fun f => callWith (pp 2) f [] (backTo (pp 2) (starEach [] env)) (backToKw (pp 2) (keywordEach [] env))) _ _ s₀
 refine wpN_then (global_sound H T₀ X₀ (kg "bytearray" (by simp)) (by decide) GA ?_)
 refine callWith_N (P := fun J => True) rfl (fun J J => ⟨.machine, .inr (.inl rfl), Looks.now⟩) ?_
 show wpN _ _ (pure _) _ _ s₀
 refine wpN_pure ⟨trivial, call_bytearray hg fun h₁ ob k₁ => ?_⟩
 have new₀ : s₀.heap.get? s₀.heap.objs.size = none := new_none _
 refine abs1 fun G0 hG0 => ?_
 obtain ⟨n1, n2, n3, n4⟩ := new_apart T₀ X₀ new₀
 refine hG0 ?_
 clear hG0 G0
 have T₁ : St S stk K₀ { s₀ with heap := h₁ } := T₀.grow H k₁ s₀.toks
 have X₁ : Lc S stk env [("orders", .list l)] K₀ h₁ := X₀.ext (ExtP.keeps k₁) (KExt.refl _ _)
 refine store_sound (s := { s₀ with heap := h₁ }) T₁ X₁ (.raw (.ref s₀.heap.objs.size)) (.inl (kl "found" (by simp))) fun h₂ tk T₂ X₂ kp₂ => ?_
 have U₂ : MutB S stk env K₀ h₂ s₀.heap.objs.size #[] := ⟨(kp₂ _ fun z => n4 z.own).trans ob, n1, n2, n3, n4⟩
 have xs₂ : ExtP S stk (Own env) s₀.heap h₂ := (ExtP.keeps k₁).trans (store_ext X₂ fun b q => kp₂ b fun z => q z.own)
 have X₂ : Lc S stk env [("orders", .list l), ("found", .raw (.ref s₀.heap.objs.size))] K₀ h₂ := X₂
 refine wpN_execs_cons (wpN_For (name_val (s := { s₀ with heap := h₂, toks := tk }) X₂ (by rfl) (.inl (kl "orders" (by simp))) (by decide) fun v rv => ?_) (fun J => rfl))
 refine iter_list H T₂ (ExtP.refl _) rv ⟨fun J => ?_, fun q => by rw [decide_eq_true hcap] at q; exact no_tf q⟩
 intro K₃ s₃ T₃' x₃ k₃ I wr it₃
 have Sc : Since S stk env wr := Since.of T₂ X₂ fun b hb => (it₃.new' b hb).1
 have nwr : s₀.heap.objs.size ∉ wr := fun q => by have := (it₃.new' _ q).1; rw [U₂.obj] at this; cases this
 refine codeN_forLoop (PaI prog w S P stk env l s₀.heap.objs.size s₀ K₀ h₂ I wr Qf) ?_ l.length
  ⟨l, K₃, #[], rfl, T₃', X₂.ext x₃ k₃, U₂.ext (Ext.p x₃) k₃, Nat.zero_le _, it₃, xs₂.trans (Ext.p x₃), (KExt.refl _ _).trans xs₂ k₃, h'⟩
 intro n s hI0
 refine abs1 fun G0 hG0 => ?_
 obtain ⟨rest, K, bb, rfl, TS, X, U, hz, it, xs, ks, hl⟩ := hI0
 refine hG0 ?_
 clear hG0 G0
 induction rest using List.casesOn with
 | nil =>
  refine it.done ar.hand fun h' tk kp => ?_
  have T₄ : St S stk K { s with heap := h', toks := tk } := TS.alter (P := (· ∈ wr)) (fun b hb => it.loose Sc hb) kp tk
  have X₄ : Lc S stk env [("orders", .list l), ("found", .raw (.ref s₀.heap.objs.size))] K h' := X.keep (fun b o q e => kp b o (own_wr it Sc q) e) (KExt.refl _ _)
  have ob₄ : h'.get? s₀.heap.objs.size = some (baO bb) := kp _ _ nwr U.obj
  have xs₄ : ExtP S stk (Own env) s₀.heap h' := fun b o e => by
   obtain ⟨o', e', q⟩ := xs b o e
   exact ⟨o', kp b o' (fun z => by
    have := (it.new' b z).1
    obtain ⟨o'', e''⟩ := xs₂.some e
    rw [e''] at this; cases this) e', q⟩
  show wpN _ _ (execs [.Return (some (.Call (.Name "bytes" (pp 11)) [.Name "found" (pp 12)] [] (pp 13))) (pp 14)] env) _ _ { s with heap := h', toks := tk }
  refine wpN.of (wpAny_execs_cons (wpAny_Return_some ?_))
  show wpAny _ _ (eval (.Name "bytes" (pp 11)) env >>= fun f => callWith (pp 13) f [] (backTo (pp 13) (starEach [.Name "found" (pp 12)] env)) (backToKw (pp 13) (keywordEach [] env))) _ _ _
  refine wpAny_bind (global_sound H T₄ X₄ (kg "bytes" (by simp)) (by decide) GB ?_)
  refine callWith_of (P := fun J => True) rfl (fun J J => ⟨.machine, .inr (.inl rfl), Looks.now⟩) ?_
  refine evalArgs_plain (wpAny_items_cons (pos := (pp 13)) (name_val X₄ (by rfl) (.inl (kl "found" (by simp))) (by decide) fun v rv => ?_))
  obtain rfl := rv.raw_v
  refine wpAny_items_nil (pos := (pp 13)) ⟨trivial, ?_⟩
  refine call_bytes_ba (s := { s with heap := h', toks := tk }) ob₄ (by rw [KBw.ints_length] at hz; unfold cap at hz; rw [sizeLine_eq]; lia) fun t k => ?_
  exact hl K _ (T₄.tok _) xs₄ ks _ (.bytes bb t)
 | cons d r =>
  refine wpAny_mono (turnN (R := fun J => False) (C := fun s₂ => wpN (model prog w) A (execs [.Expr (.Call (.Attribute (.Name "found" (pp 7)) "extend" (pp 8)) [cal] [] (pp 9)) (pp 10)] env) (fun f s₃ => f = .next ∧ ∃ m, m < (d :: r).length ∧ PaI prog w S P stk env l s₀.heap.objs.size s₀ K₀ h₂ I wr Qf m s₃) (fun J J => False) s₂)
   (y := "order") (p := (pp 4)) ar.hand it TS X Sc (.inl (kl "order" (by simp))) fun h₁ tk T₁ X₁ it₁ kp => ?_) (fun r s₁ q => ?_) fun J J q => q
  rotate_left
  ·induction r using Option.casesOn with
   | none => exact q.elim
   | some v => exact wpAny_pure (wpAny_mono q (fun J s₂ q => wpN_mono q (fun f s₃ ⟨e, q⟩ => by subst e; exact q) fun J J q => q) fun J J q => q)
  have X₁ : Lc S stk env [("orders", .list l), ("found", .raw (.ref s₀.heap.objs.size)), ("order", d)] K h₁ := X₁
  have U₁ : MutB S stk env K h₁ s₀.heap.objs.size bb := ⟨kp _ _ nwr (fun z => U.own z.own) U.obj, U.kn, U.base, U.fix, U.own⟩
  have xs₁ : ExtP S stk (Own env) s₀.heap h₁ := fun b o e => by
   obtain ⟨o', e', q⟩ := xs b o e
   by_cases ow : Own env b
   ·obtain ⟨o'', e''⟩ := own_live X₁ ow
    exact ⟨o'', e'', fun np => absurd ow np⟩
   ·exact ⟨o', kp b o' (fun z => by
     have := (it.new' b z).1
     obtain ⟨o'', e''⟩ := xs₂.some e
     rw [e''] at this; exact no_sn this) (fun z => ow z.own) e', q⟩
  refine wpN_execs_cons (extend_raw (s := { s with heap := h₁, toks := tk }) H IE ar hg ko T₁ X₁ U₁ (by rfl) (kl "found" (by simp)) (by decide) UB.hline UB.hstar ?_)
  rw [UB.ecal]
  have hl₁ := noExc_sat (Eb' := fun w a => Fall S stk { s with heap := h₁, toks := tk } K w a fun J J => False) ((Tr.sat_bind _ _).mp hl)
  refine Tr.sat_mono (fun d hd => ?_) (fun J J q => q) _ hl₁
  induction d using D.casesOn with
  | bytes lb =>
   cases c : decide ((KBw.bInts bb ++ lb).length ≤ cap) with
   | false => exact (hd.2 c).elim
   | true =>
   have hd' := hd.1 c
   refine ⟨lb, rfl, of_decide_eq_true c, fun K₅ s₅ h₅ b₅ eb T₅ x₅ k₅ X₅ U₅ kp₅ => ?_⟩
   refine wpN.of (wpAny_execs_nil ⟨rfl, r.length, Nat.lt_succ_self _, r, K₅, b₅, rfl, T₅, X₅.sub (fun x d e => lookup_app (r := [("order", _)]) e), U₅, by rw [eb]; exact of_decide_eq_true c, ?_, ?_, ?_, by rw [eb]; exact hd'⟩)
   ·have i₅ := it₁.after (P := Own env) Sc (fun b o e => ⟨(T₁.kin b o e).2, own_known X₁ e⟩) (fun J q => q) (Ext.p x₅) k₅
    refine i₅.keep (fun b o q g => (kp₅ b fun z => ?_).trans g) (fun J J q => q) fun b hb => (i₅.new' b hb).2
    rcases q with q | ⟨o', q⟩
    ·exact nwr (z ▸ q)
    ·rw [z, U₅.kn] at q; exact no_ns q
   ·exact fun b o e => by
     obtain ⟨o', e', q⟩ := (xs₁.trans (Ext.p x₅)) b o e
     exact ⟨o', (kp₅ b fun z => by rw [z, new₀] at e; exact no_ns e).trans e', q⟩
   ·exact ks.trans xs₁ k₅
  | _ => exact hd.elim
theorem pa_body (H : StaOk S) (GA : GlobIs S "bytearray" (.type "bytearray")) (GB : GlobIs S "bytes" (.type "bytes")) (IE : SoundE prog w S T k 40) (PA : PaAt T P ps sc body) : BodyHandN prog w S T k ps [] sc body (packAllF P) := by
 obtain ⟨pp, cal, UB⟩ := PA.body
 exact pa_body0 H GA GB IE PA UB
end
noncomputable def lawM (l rows octs : List D) (begins : D) : Loc := [("script", .list l), ("rows", .list rows), ("octs", .list octs), ("begins", begins)]
noncomputable def lawMf (l rows octs : List D) (begins f : D) : Loc := [("script", .list l), ("rows", .list rows), ("octs", .list octs), ("begins", begins), ("fields", f)]
noncomputable def lawLoop (O : List D → Tr D) (k : List D → List Int → Tr D) : List D → List D → List Int → Tr D
 | [], octs, begins => k octs begins
 | d :: r, octs, begins => (noExc (O [d])).bind fun x => match x with | .list os => .br (decide (octs.length + os.length ≤ cap)) (lawLoop O k r (octs ++ os) (begins ++ [(octs.length : Int).fdiv 8])) .bad | _ => .bad
noncomputable def lawEnd (T : Tab) (sc : Scope) (t1 lc : PySem.Expr) (rest : List Stmt) (P : List D → Tr D) (l rows octs : List D) (begins : List Int) : Tr D :=
 (noExc ((ev T 40 sc t1 (lawM l rows octs (.list (begins.map .int)))).bind tru)).bind fun b => match b with
  | true => .ok (.bool false)
  | false => (noExc (ev T 40 sc lc (lawM l rows octs (.list (begins.map .int))))).bind fun d => (noExc (packAllF P [d])).bind fun x => match x with
   | .bytes bs => .br (decide (bs.length ≤ cap)) ((noExc (cop .NotEq (.list (bs.map .int)) (.list octs))).bind fun c => match c with
    | true => .ok (.bool false)
    | false => noExc ((exsL (ex T 40 sc 40) rest (lawM l rows octs (.list (begins.map .int)))).bind retD)) .bad
   | _ => .bad
noncomputable def lawF (T : Tab) (sc : Scope) (comp t1 lc : PySem.Expr) (rest : List Stmt) (O P : List D → Tr D) : List D → Tr D
 | [.list l] => (noExc (ev T 40 sc comp [("script", .list l)])).bind fun d => match d with
  | .list rows => .br (decide (rows.length ≤ cap)) (lawLoop O (lawEnd T sc t1 lc rest P l rows) rows [] []) .bad
  | _ => .bad
 | _ => .bad
structure LawB (T : Tab) (O : List D → Tr D) (sc : Scope) (body : List Stmt) (comp t1 lc : PySem.Expr) (rest : List Stmt) (pp : Nat → Pos) (jj : Nat → Nat) (e1 : PySem.Expr) (st2 : Stmt) : Prop where
 hbody : body = .Assign [.Name "rows" (pp 0)] comp (pp 1) :: .Assign [.Tuple [.Name "octs" (pp 2), .Name "begins" (pp 3)] (jj 0) (pp 4)] (.Tuple [.List [] (pp 5), .List [] (pp 6)] (jj 1) (pp 7)) (pp 8) ::
   .For (.Name "fields" (pp 9)) (.Name "rows" (pp 10)) [.Expr (.Call (.Attribute (.Name "begins" (pp 11)) "append" (pp 12)) [e1] [] (pp 13)) (pp 14), st2] [] (pp 15) ::
   .If (.BoolOp .Or [t1, .Compare (.Call (.Name "list" (pp 16)) [.Call (.Name "pack_all" (pp 17)) [lc] [] (pp 18)] [] (pp 19)) [.NotEq] [.Name "octs" (pp 20)] (pp 21)] (pp 22)) [.Return (some (.Constant (.bool false) (jj 2) (pp 23))) (pp 24)] [] (pp 25) :: rest
 hline : ((pp 12).endLine == (pp 13).line) = true
 hline2 : ((pp 12).endLine == (pp 13).line) = true
 hs1 : starE e1 = false
 hs2 : starE lc = false
 f1 : (∀ (l rows octs : List D) (v : Value) (f : D) (P : D → Prop) (E : Str → D → Prop), octs.length ≤ cap → P (.int ((octs.length : Int).fdiv 8)) → (ev T 40 sc e1 (lawMf l rows octs (.raw v) f)).sat P E)
 f2 : (∀ (l rows octs : List D) (v : Value) (f : D) (P : Fl → Prop) (E : Str → D → Prop), (O [f]).sat (fun x => ∃ os, x = .list os ∧ octs.length + os.length ≤ cap ∧ P (.next (lawMf l rows (octs ++ os) (.raw v) f))) E → (ex T 40 sc 40 st2 (lawMf l rows octs (.raw v) f)).sat P E)
structure LawAt (T : Tab) (O : List D → Tr D) (ps : List Arg) (sc : Scope) (body : List Stmt) (comp t1 lc : PySem.Expr) (rest : List Stmt) : Prop where
 ps : ∃ a b, ps = [⟨"script", a, b⟩]
 loc : ∀ x ∈ [("script" : Str), "rows", "octs", "begins", "fields"], sc.names.lookup x = some .local
 glob : ∀ x ∈ [("list" : Str), "pack_all"], sc.names.lookup x = some .globalImplicit
 body : ∃ (pp : Nat → Pos) (jj : Nat → Nat) (e1 : PySem.Expr) (st2 : Stmt), LawB T O sc body comp t1 lc rest pp jj e1 st2
section
variable {prog : Program} {w : World} {S : Sta} {T : Tab} {k : Nat} {O P : List D → Tr D} {ps : List Arg} {sc : Scope} {body rest : List Stmt} {comp t1 lc : PySem.Expr}
inductive LawI (prog : Program) (w : World) (S : Sta) (O : List D → Tr D) (kf : List D → List Int → Tr D) (stk : List Env) (env : Env) (l rows : List D) (a : Addr) (s₀ : Shared) (K₀ : Kn) (h₂ : Heap) (I : Addr) (wr : List Addr) (Qf : Value → Shared → Prop) (n : Nat) (s : Shared) : Prop
 | mk : ∀ rest K octs begins vs, rest.length = n → St S stk K s → Lc S stk env (lawM l rows octs (.raw (.ref a))) K s.heap → Mut S stk env K s.heap a vs → Reps S K vs (begins.map .int) → octs.length ≤ cap → begins.length + n ≤ cap → ItAt prog w S h₂ false I wr rest K s.heap → ExtP S stk (Own env) s₀.heap s.heap → KExt s₀.heap K₀ K → (lawLoop O kf rest octs begins).sat (fun d => ∀ K' s', St S stk K' s' → ExtP S stk (Own env) s₀.heap s'.heap → KExt s₀.heap K₀ K' → ∀ v, Rep S K' v d → Qf v s') (fun J J => False) → LawI prog w S O kf stk env l rows a s₀ K₀ h₂ I wr Qf n s
theorem two_lists {A : Around} {stk : List Env} {K : Kn} {s : Shared} {env : Env} {m : Loc} {m' : D → Loc} {E : Value → Shared → Prop} {Q : Flow → Shared → Prop} (H : StaOk S) (ar : Ar A stk k) (ko : KindOk S T sc env) (TS : St S stk K s) (X : Lc S stk env m K s.heap) {y z : Str} {q1 q2 q3 q4 q5 q6 q7 : Pos} {i j : Nat}
  (al : allStor sc [.Name y q1, .Name z q2] = true) (hd : distinctN [.Name y q1, .Name z q2] = true) (hm : ∀ v, setAll [.Name y q1, .Name z q2] [.list [], .raw v] m = some (m' (.raw v)))
  (h : ∀ K' s' a, St S stk K' s' → Lc S stk env (m' (.raw (.ref a))) K' s'.heap → Mut S stk env K' s'.heap a [] → s.heap.get? a = none → ExtP S stk (Own env) s.heap s'.heap → KExt s.heap K K' → Q .next s') :
  wpAny (model prog w) A (exec (.Assign [.Tuple [.Name y q1, .Name z q2] i q3] (.Tuple [.List [] q4, .List [] q5] j q6) q7) env) Q E s := by
 refine tuple_by H ar ko (by show (true && allStor sc [.Name y q1, .Name z q2] && distinctN [.Name y q1, .Name z q2] && true) = true; rw [al, hd]; rfl) ?_
 refine wpAny_Tuple (wpAny_items_cons (pos := q6) (wpAny_List (wpAny_items_nil (pos := q4) ⟨Nat.zero_le _, wpAny_items_cons (pos := q6) (wpAny_List (wpAny_items_nil (pos := q5) ⟨Nat.zero_le _, wpAny_items_nil (pos := q6) ⟨by rw [sizeLine_eq]; exact (by decide : (2 : Nat) ≤ 16777216), ?_⟩⟩))⟩)))
 have ne : s.heap.objs.size ≠ (s.heap.push { cls := .type "list", data := .seq #[] }).objs.size := by rw [Heap.size_push]; exact Nat.ne_of_lt (Nat.lt_succ_self _)
 have new1 : s.heap.get? s.heap.objs.size = none := new_none _
 have new2 : s.heap.get? (s.heap.push { cls := .type "list", data := .seq #[] }).objs.size = none := Heap.get?_none_of_le (by rw [Heap.size_push]; exact Nat.le_succ _)
 refine abs1 fun G0 hG0 => ?_
 obtain ⟨n1, n2, n3, n4⟩ := new_apart TS X new2
 have hp : ∃ h3, h3 = ((s.heap.push { cls := .type "list", data := .seq #[] }).push { cls := .type "list", data := .seq #[] }).push { cls := .type "tuple", data := .seq #[.ref s.heap.objs.size, .ref (s.heap.push { cls := .type "list", data := .seq #[] }).objs.size] } := ⟨_, rfl⟩
 obtain ⟨h3, e3⟩ := hp
 refine hG0 ?_
 clear hG0 G0
 have k2 : ∀ b o, s.heap.get? b = some o → h3.get? b = some o := fun b o e => e3 ▸ Heap.get?_push_of_some _ (Heap.get?_push_of_some _ (Heap.get?_push_of_some _ e))
 have T₂ : St S stk (K.put s.heap.objs.size { cls := .type "list", data := .seq #[] }) { s with heap := h3, toks := s.toks } := TS.put H k2 new1 (e3 ▸ Heap.get?_push_of_some _ (Heap.get?_push_of_some _ (Heap.get?_push_size _ rfl))) s.toks
 have kx₂ : KExt s.heap K (K.put s.heap.objs.size { cls := .type "list", data := .seq #[] }) := KExt.put new1 (TS.kNone new1)
 have X₂ : Lc S stk env m (K.put s.heap.objs.size { cls := .type "list", data := .seq #[] }) h3 := X.ext (ExtP.keeps k2) kx₂
 have U₂ : Mut S stk env (K.put s.heap.objs.size { cls := .type "list", data := .seq #[] }) h3 (s.heap.push { cls := .type "list", data := .seq #[] }).objs.size [] :=
  ⟨⟨0, e3 ▸ Heap.get?_push_of_some _ (Heap.get?_push_size _ rfl)⟩, by unfold Kn.put; rw [if_neg (Ne.symm ne)]; exact n1, n2, n3, n4⟩
 rw [← e3]
 refine ⟨_, [.ref s.heap.objs.size, .ref _], [.list [], .raw (.ref _)], _, m' (.raw (.ref (s.heap.push { cls := .type "list", data := .seq #[] }).objs.size)), T₂, X₂, .cons (.list (vs := []) (Kn.put_self _ _ _) .nil) (.cons (.raw _) .nil),
  .inl ⟨_, rfl, ⟨_, e3 ▸ Heap.get?_push_size _ rfl, rfl, 0, rfl⟩⟩, hm _, fun s₃ T₃ x₃ X₃ => ?_⟩
 exact h _ s₃ _ T₃ X₃ (U₂.extP x₃ (KExt.refl _ _)) new2 ((ExtP.keeps k2).trans x₃) kx₂
noncomputable abbrev LawG (S : Sta) (Qf : Value → Shared → Prop) : D → Kn → Shared → Prop := fun d K' s' => ∀ v, Rep S K' v d → Qf v s'
noncomputable abbrev LawQ (Qf : Value → Shared → Prop) : Flow → Shared → Prop := fun f s' => Qf (match f with | .ret v => v | _ => .none) s'
section
variable {A : Around} {stk : List Env} {K K₀ : Kn} {s s₀ : Shared} {env : Env} {Qf : Value → Shared → Prop} {l rows octs : List D} {begins : List Int}
theorem law_packed (H : StaOk S) (GL : GlobIs S "list" (.type "list")) (PF : ∃ f, GlobIs S "pack_all" f ∧ KeepOk prog w S f ∧ FnSpecN prog w S k f (packAllF P)) (IE : SoundE prog w S T k 40)
  (ar : Ar A stk k) (hg : A.guards = some []) (ko : KindOk S T sc env) (TS : St S stk K s) {m : Loc} (X : Lc S stk env m K s.heap) {d1 d2 d3 d4 : Pos} (kg : ∀ y ∈ [("list" : Str), "pack_all"], env.kindOf y = some .globalImplicit) (hs : starE lc = false) {Q : Value → Shared → Prop}
  (h : (noExc (ev T 40 sc lc m)).sat (fun d => ∀ K₁ s₁, St S stk K₁ s₁ → Ext S stk s.heap s₁.heap → KExt s.heap K K₁ → (noExc (packAllF P [d])).sat (fun x => ∃ bs, x = .bytes bs ∧ bs.length ≤ cap ∧ ∀ v K₂ s₂, St S stk K₂ s₂ → Ext S stk s₁.heap s₂.heap → KExt s₁.heap K₁ K₂ → Rep S K₂ v (.list (bs.map .int)) → Q v s₂) (fun J J => False)) (fun J J => False)) :
  wpN (model prog w) A (eval (.Call (.Name "list" d1) [.Call (.Name "pack_all" d2) [lc] [] d3] [] d4) env) Q (fun J J => False) s := by
 obtain ⟨f, gf, kf, FS⟩ := PF
 show wpN _ _ (eval (.Name "list" d1) env >>= fun f => callWith d4 f [] (backTo d4 (starEach [.Call (.Name "pack_all" d2) [lc] [] d3] env)) (backToKw d4 (keywordEach [] env))) _ _ s
 refine wpN_then (global_sound H TS X (kg "list" (by simp)) (by decide) GL ?_)
 refine callWith_N (P := fun J => True) rfl (fun J J => ⟨.machine, .inr (.inl rfl), Looks.now⟩) ?_
 refine evalArgs_plainN (wpN_items_cons (pos := d4) (e := .Call (.Name "pack_all" d2) [lc] [] d3) (rest := []) ?_)
 show wpN _ _ (eval (.Name "pack_all" d2) env >>= fun f => callWith d3 f [] (backTo d3 (starEach [lc] env)) (backToKw d3 (keywordEach [] env))) _ _ s
 refine wpN_then (global_sound H TS X (kg "pack_all" (by simp)) (by decide) gf ?_)
 refine callWith_N (P := fun h => S.B.StaysIn h) (by rw [starEach_cons hs]; rfl) kf ?_
 suffices q : wpN (model prog w) A (spliced (backTo d3 (starEach [lc] env))) (fun us s' => S.B.StaysIn s'.heap ∧ wpN (model prog w) A (call f ([] ++ us) []) (fun v s₁ => wpN (model prog w) A (spliced (backTo d4 (starEach [] env))) (fun vs s₂ => True ∧ wpN (model prog w) A (call (.type "list") ([] ++ (v :: vs)) []) Q (fun J J => False) s₂) (fun J J => False) s₁) (fun J J => False) s') (fun J J => False) s by
  rw [starEach_cons hs] at q ⊢
  exact evalArgs_plainN q
 refine wpN.of (wpAny_items_cons ?_ (starEach_cons hs))
 refine IE sc lc m env A stk K s _ _ ar TS X ko (Tr.sat_mono (fun d hd => ?_) (fun J J q => q) _ (noExc_sat (Eb' := fun w a => Fall S stk s K w a fun J J => False) h))
 intro v K₁ s₁ T₁ x₁ k₁ r₁
 refine wpAny_items_nil ⟨T₁.stays, ?_⟩
 refine FS A stk K₁ s₁ [v] [d] _ ar hg T₁ (.cons r₁ .nil) (Tr.sat_mono (fun x hx => ?_) (fun J J q => q) _ (noExc_sat (hd K₁ s₁ T₁ x₁ k₁)))
 obtain ⟨bs, rfl, hz, hq⟩ := hx
 intro u K₂ s₂ T₂ x₂ k₂ r₂
 refine wpN.of (wpAny_items_nil (pos := d4) ⟨trivial, ?_⟩)
 refine wpN.of (list_spec (w := w) (k := k) H A stk K₂ s₂ [u] [.bytes bs] Q _ ar T₂ (.cons r₂ .nil) ⟨fun J => ?_, fun q => by rw [decide_eq_true hz] at q; exact no_tf q⟩)
 intro v K₃ s₃ T₃ x₃ k₃ r₃
 exact hq v K₃ s₃ T₃ (x₂.trans x₃) (k₂.trans x₂ k₃) r₃
theorem sat_none {α : Type} {P : α → Prop} {E E' : Str → D → Prop} {t : Tr α} (h : (noExc t).sat P E) : (noExc t).sat P E' := by
 induction t with
 | ok a => exact h
 | exc _ _ => exact h.elim
 | bad => exact h.elim
 | br b x y ix iy => exact ⟨fun q => ix (h.1 q), fun q => iy (h.2 q)⟩
theorem rxs_of {α : Type} {r : Tr α} {G : α → Kn → Shared → Prop} (h : r.sat (fun a => ∀ K' s', St S stk K' s' → ExtP S stk (Own env) s.heap s'.heap → KExt s.heap K K' → G a K' s') (fun w a => ∀ e s', St S stk K s' → ExtP S stk (Own env) s.heap s'.heap → Fly S stk s.heap e w a s'.heap → (fun J J => False : Value → Shared → Prop) (.ref e) s')) : RxS S stk env s K r G (fun J J => False) := h
theorem ev_local {n : Nat} {x : Str} {p : Pos} {m : Loc} {d : D} (ho : sc.names.lookup x = some .local) (hd : (x == ("__debug__" : Str) || x == ("__classdict__" : Str)) = false) (hm : m.lookup x = some d) : ev T (n + 1) sc (.Name x p) m = .ok d := by
 have e : ev T (n + 1) sc (.Name x p) m = (match x == ("__debug__" : Str) || x == ("__classdict__" : Str), sc.names.lookup x with
   | true, _ => .bad
   | _, some .globalImplicit => (match T.con x with | some d => .ok d | none => .bad)
   | _, some .globalExplicit => .bad
   | _, some _ => (match m.lookup x with | some d => .ok d | none => .bad)
   | _, none => (.bad : Tr D)) := rfl
 rw [e, hd, ho]
 dsimp only
 rw [hm]
theorem law_end (H : StaOk S) (EO : EqOrd prog w S) (GL : GlobIs S "list" (.type "list")) (PF : ∃ f, GlobIs S "pack_all" f ∧ KeepOk prog w S f ∧ FnSpecN prog w S k f (packAllF P)) (IE : SoundE prog w S T k 40) (IT : SoundT prog w S T k 40) (SX : SoundX prog w S T k 40 40)
  (ar : Ar A stk k) (hg : A.guards = some []) (ko : KindOk S T sc env) (tp : Top1 stk env) (TS : St S stk K s) (X : Lc S stk env (lawM l rows octs (.list (begins.map .int))) K s.heap) {d1 d2 d3 d4 d5 d6 d7 d9 d10 d11 : Pos} {d8 : Nat} (kg : ∀ y ∈ [("list" : Str), "pack_all"], env.kindOf y = some .globalImplicit) (ho : sc.names.lookup ("octs" : Str) = some .local) (hs : starE lc = false)
  (h : RxS S stk env s K (lawEnd T sc t1 lc rest P l rows octs begins) (LawG S Qf) (fun J J => False)) :
  wpN (model prog w) A (execs (.If (.BoolOp .Or [t1, .Compare (.Call (.Name "list" d1) [.Call (.Name "pack_all" d2) [lc] [] d3] [] d4) [.NotEq] [.Name "octs" d5] d6] d7) [.Return (some (.Constant (.bool false) d8 d9)) d10] [] d11 :: rest) env) (LawQ Qf) (fun J J => False) s := by
 have no : ∀ {K' : Kn} {s' : Shared}, St S stk K' s' → (RxS S stk env s' K' (.ok (.bool false)) (LawG S Qf) (fun J J => False)) → wpN (model prog w) A (execs [.Return (some (.Constant (.bool false) d8 d9)) d10] env) (fun f s' => match f with | .next => wpN (model prog w) A (execs rest env) (LawQ Qf) (fun J J => False) s' | f => LawQ Qf f s') (fun J J => False) s' :=
  fun T' q => wpN.of (wpAny_execs_cons (wpAny_Return_some (wpAny_Constant_bool (RxS.ok T' q _ (.bool false)))))
 refine wpN_execs_cons (wpN_If (wpN_or ?_))
 unfold RxS lawEnd at h
 have h₁ := noExc_sat (Eb' := fun w a => Fall S stk s K w a fun J J => False) ((Tr.sat_bind _ _).mp h)
 refine IT sc t1 _ env A stk K s _ _ ar TS X ko (Tr.sat_mono (fun b hb => ?_) (fun J J q => q) _ h₁)
 intro K₁ s₁ T₁ x₁ k₁
 induction b using Bool.casesOn with
 | true => exact no T₁ ((rxs_of hb).after (Ext.p x₁) k₁)
 | false =>
 have X₁ := X.ext x₁ k₁
 have hb := (rxs_of hb).after (s₁ := s₁) (K₁ := K₁) (Ext.p x₁) k₁
 unfold RxS at hb
 refine wpN_compare (law_packed H GL PF IE ar hg ko T₁ X₁ kg hs (Tr.sat_mono (fun d hd => ?_) (fun J J q => q) _ (sat_none ((Tr.sat_bind _ _).mp hb))))
 intro K₂ s₂ T₂ x₂ k₂
 have hd := (rxs_of hd).after (s₁ := s₂) (K₁ := K₂) (Ext.p x₂) k₂
 unfold RxS at hd
 refine Tr.sat_mono (fun x hx => ?_) (fun J J q => q) _ (sat_none ((Tr.sat_bind _ _).mp hd))
 induction x using D.casesOn with
 | bytes bs =>
  rcases (rxs_of hx).br with ⟨c, hx⟩ | ⟨_, hx⟩
  rotate_left
  ·exact hx.elim
  refine ⟨bs, rfl, of_decide_eq_true c, fun v K₃ s₃ T₃ x₃ k₃ r₃ => ?_⟩
  have X₃ := (X₁.ext x₂ k₂).ext x₃ k₃
  have hx := hx.after (s₁ := s₃) (K₁ := K₃) (Ext.p x₃) k₃
  unfold RxS at hx
  show wpAny _ _ (testChain d6 v [.NotEq] (markedEach [.NotEq] [.Name "octs" d5] (evalEach [.Name "octs" d5] env))) _ _ _
  refine testC_sound (T := T) (n := 40) EO IE ar ko T₃ X₃ r₃ ?_
  have eo : ev T 40 sc (.Name "octs" d5) (lawM l rows octs (.list (begins.map .int))) = .ok (.list octs) := ev_local ho rfl rfl
  have ee : (evC (fun e => ev T 40 sc e (lawM l rows octs (.list (begins.map .int)))) (.list (bs.map .int)) [.NotEq] [.Name "octs" d5]).bind tru = (cop .NotEq (.list (bs.map .int)) (.list octs)).bind fun c => .ok c := by
   show ((Tr.bind _ (ev T 40 sc (.Name "octs" d5) _)).bind tru) = _
   rw [eo]
   show Tr.bind tru (Tr.bind _ (cop .NotEq (.list (bs.map .int)) (.list octs))) = _
   rw [Tr.bind_bind]
   rfl
  rw [ee]
  have h₄ := noExc_sat (Eb' := fun w a => Fall S stk s₃ K₃ w a fun J J => False) ((Tr.sat_bind _ _).mp hx)
  refine (Tr.sat_bind _ _).mpr (Tr.sat_mono (fun c hc => ?_) (fun J J q => q) _ h₄)
  intro K₄ s₄ T₄ x₄ k₄
  have hc := (rxs_of hc).after (s₁ := s₄) (K₁ := K₄) (Ext.p x₄) k₄
  induction c using Bool.casesOn with
  | true => exact no T₄ hc
  | false =>
   refine wpN.of (wpAny_execs_nil ?_)
   refine wpN.of (execs_sound SX ar ko tp T₄ (X₃.ext x₄ k₄) (RxS.step (noExc_sat hc) fun fl K₅ s₅ h₅ T₅ x₅ k₅ f hf => ?_))
   induction fl using Fl.casesOn with
   | next m' =>
    obtain ⟨rfl, _⟩ := hf
    exact RxS.ok T₅ h₅ _ .none
   | cont m' => exact h₅.elim
   | ret d =>
    obtain ⟨v, rfl, rv⟩ := hf
    exact RxS.ok T₅ h₅ _ rv
 | _ => exact hx.elim
end
theorem law_turn {A : Around} {stk : List Env} {K K₀ : Kn} {s s₀ : Shared} {env : Env} {Qf : Value → Shared → Prop} {l rows octs r : List D} {d : D} {begins : List Int} {a I : Addr} {wr : List Addr} {h₃ : Heap} {vs : List Value} {kf : List D → List Int → Tr D} {e1 : PySem.Expr} {st2 : Stmt} {c3 c4 c5 c6 : Pos}
  (H : StaOk S) (IE : SoundE prog w S T k 40) (SX : SoundX prog w S T k 40 40) (hline : (c4.endLine == c5.line) = true) (hs1 : starE e1 = false) (kb : env.kindOf "begins" = some .local)
  (f1 : ∀ (l rows octs : List D) (v : Value) (f : D) (P : D → Prop) (E : Str → D → Prop), octs.length ≤ cap → P (.int ((octs.length : Int).fdiv 8)) → (ev T 40 sc e1 (lawMf l rows octs (.raw v) f)).sat P E)
  (f2 : ∀ (l rows octs : List D) (v : Value) (f : D) (P : Fl → Prop) (E : Str → D → Prop), (O [f]).sat (fun x => ∃ os, x = .list os ∧ octs.length + os.length ≤ cap ∧ P (.next (lawMf l rows (octs ++ os) (.raw v) f))) E → (ex T 40 sc 40 st2 (lawMf l rows octs (.raw v) f)).sat P E)
  (ar : Ar A stk k) (ko : KindOk S T sc env) (tp : Top1 stk env) (TS : St S stk K s) (X : Lc S stk env (lawMf l rows octs (.raw (.ref a)) d) K s.heap) (U : Mut S stk env K s.heap a vs) (Sc : Since S stk env wr) (nwr : a ∉ wr) (it : ItAt prog w S h₃ false I wr r K s.heap) (rs : Reps S K vs (begins.map .int))
  (hz : octs.length ≤ cap) (hn : begins.length + (r.length + 1) ≤ cap) (new₀ : s₀.heap.get? a = none) (xs : ExtP S stk (Own env) s₀.heap s.heap) (ks : KExt s₀.heap K₀ K)
  (hl : (lawLoop O kf (d :: r) octs begins).sat (fun d => ∀ K' s', St S stk K' s' → ExtP S stk (Own env) s₀.heap s'.heap → KExt s₀.heap K₀ K' → ∀ v, Rep S K' v d → Qf v s') (fun J J => False)) :
  wpN (model prog w) A (execs [.Expr (.Call (.Attribute (.Name "begins" c3) "append" c4) [e1] [] c5) c6, st2] env) (fun f s₃' => f = .next ∧ ∃ m, m < (d :: r).length ∧ LawI prog w S O kf stk env l rows a s₀ K₀ h₃ I wr Qf m s₃') (fun J J => False) s := by
 refine wpN_execs_cons (wpN.of (append_raw H IE ar ko TS X U (by rfl) kb (by decide) hline hs1 (by have := rs.length; rw [List.length_map] at this; unfold cap at hn; lia) ?_))
 refine f1 l rows octs _ d _ _ hz ?_
 intro v K₁ s₁ h₁ rv T₁ x₁ k₁ X₁ U₁ kp₁
 have hl := noExc_sat (Eb' := fun w a => ∀ e s', St S stk K₁ s' → ExtP S stk (Own env) h₁ s'.heap → Fly S stk h₁ e w a s'.heap → False) ((Tr.sat_bind _ _).mp hl)
 refine wpN_execs_cons (wpN.of (SX sc st2 _ env A stk K₁ { s₁ with heap := h₁ } _ _ ar T₁ X₁ ko tp ?_))
 refine f2 l rows octs _ d _ _ (Tr.sat_mono (fun x hx => ?_) (fun J J q => q) _ hl)
 induction x using D.casesOn with
 | list os =>
  cases c : decide (octs.length + os.length ≤ cap) with
  | false => exact (hx.2 c).elim
  | true =>
  have hx := hx.1 c
  refine ⟨os, rfl, of_decide_eq_true c, fun K₂ s₂ T₂ x₂ k₂ f hf => ?_⟩
  obtain ⟨rfl, X₂⟩ := hf
  have i₁ := it.after (P := Own env) Sc (fun b o e => ⟨(TS.kin b o e).2, own_known X e⟩) (fun J q => q) (Ext.p x₁) k₁
  have ne : ∀ b, (b ∈ wr ∨ ∃ o', K₁ b = some o') → b ≠ a := fun b q z => by
   rcases q with q | ⟨o', q⟩
   ·exact nwr (z ▸ q)
   ·rw [z, U₁.kn] at q; exact no_ns q
  have i₂ : ItAt prog w S h₃ false I wr r K₁ h₁ := i₁.keep (fun b o q g => (kp₁ b (ne b q)).trans g) (fun J J q => q) fun b hb => (i₁.new' b hb).2
  have i₃ := i₂.after (P := Own env) Sc (fun b o e => ⟨(T₁.kin b o e).2, own_known X₁ e⟩) (fun J q => q) x₂ k₂
  have xs₁ : ExtP S stk (Own env) s₀.heap h₁ := fun b o e => by
   obtain ⟨o', e', q⟩ := (xs.trans (Ext.p x₁)) b o e
   exact ⟨o', (kp₁ b fun z => by rw [z, new₀] at e; exact no_ns e).trans e', q⟩
  refine wpN.of (wpAny_execs_nil ⟨rfl, r.length, Nat.lt_succ_self _, r, K₂, octs ++ os, begins ++ [(octs.length : Int).fdiv 8], vs ++ [v], rfl, T₂, X₂.sub (fun x d e => lookup_app (r := [("fields", _)]) e), U₁.extP x₂ k₂, ?_, by rw [List.length_append]; exact of_decide_eq_true c, by simp; omega, i₃, xs₁.trans x₂, (ks.trans xs k₁).trans xs₁ k₂, hx⟩)
  rw [List.map_append]
  exact ((rs.mono k₁.1).mono k₂.1).append (.cons (rv.mono k₂.1) .nil)
 | _ => exact hx.elim
theorem law_body0 (H : StaOk S) (EO : EqOrd prog w S) (GL : GlobIs S "list" (.type "list")) (PF : ∃ f, GlobIs S "pack_all" f ∧ KeepOk prog w S f ∧ FnSpecN prog w S k f (packAllF P)) (IE : SoundE prog w S T k 40) (IT : SoundT prog w S T k 40) (SX : SoundX prog w S T k 40 40)
  {pp : Nat → Pos} {jj : Nat → Nat} {e1 : PySem.Expr} {st2 : Stmt} (LA : LawAt T O ps sc body comp t1 lc rest) (UB : LawB T O sc body comp t1 lc rest pp jj e1 st2) : BodyHandN prog w S T k ps [] sc body (lawF T sc comp t1 lc rest O P) := by
 intro ds m₀ env A stk K₀ s₀ Qf hb ar hg T₀ X₀ ko tp hsc hcl h
 obtain ⟨pa, pb, rfl⟩ := LA.ps
 have kl : ∀ y ∈ [("script" : Str), "rows", "octs", "begins", "fields"], env.kindOf y = some .local := fun y hy => by unfold Env.kindOf; rw [hsc]; exact LA.loc y hy
 have kg : ∀ y ∈ [("list" : Str), "pack_all"], env.kindOf y = some .globalImplicit := fun y hy => by unfold Env.kindOf; rw [hsc]; exact LA.glob y hy
 have sl : ∀ y ∈ [("script" : Str), "rows", "octs", "begins", "fields"], storable sc y = true := fun y hy => by unfold storable; rw [LA.loc y hy]
 obtain ⟨l, rfl⟩ : ∃ l, ds = [.list l] := by
  induction ds using List.casesOn with
  | nil => exact h.elim
  | cons d r =>
   induction r using List.casesOn with
   | nil => induction d using D.casesOn with
    | list l => exact ⟨l, rfl⟩
    | _ => exact h.elim
   | cons _ _ => cases d <;> exact h.elim
 have e₀ : m₀ = ([(("script" : Str), D.list l)] : Loc) := (Option.some.inj hb).symm
 subst e₀
 rw [UB.hbody]
 have h₁ := noExc_sat (Eb' := fun w a => ∀ e s', St S stk K₀ s' → ExtP S stk (Own env) s₀.heap s'.heap → Fly S stk s₀.heap e w a s'.heap → False) ((Tr.sat_bind _ _).mp h)
 refine wpN_execs_cons (wpN.of (SX sc _ [("script", .list l)] env A stk K₀ s₀ _ _ ar T₀ X₀ ko tp ?_))
 have ee : ex T 40 sc 40 (.Assign [.Name "rows" (pp 0)] comp (pp 1)) [("script", .list l)] = (ev T 40 sc comp [("script", .list l)]).bind fun d => .ok (.next [("script", .list l), ("rows", d)]) := by
  show (match storable sc "rows" with | true => _ | false => _) = _
  rw [sl "rows" (by simp)]
  rfl
 rw [ee]
 refine (Tr.sat_bind _ _).mpr (Tr.sat_mono (fun d hd => ?_) (fun J J q => q) _ h₁)
 induction d using D.casesOn with
 | list rows =>
  intro K₁ s₁ T₁ x₁ k₁ f ⟨hf, X₁⟩
  subst hf
  have hd' : rows.length ≤ cap ∧ (lawLoop O (lawEnd T sc t1 lc rest P l rows) rows [] []).sat (fun d => ∀ K' s', St S stk K' s' → ExtP S stk (Own env) s₀.heap s'.heap → KExt s₀.heap K₀ K' → ∀ v, Rep S K' v d → Qf v s') (fun J J => False) := by
   cases q : decide (rows.length ≤ cap) with
   | true => exact ⟨of_decide_eq_true q, hd.1 q⟩
   | false => exact (hd.2 q).elim
  obtain ⟨hcap, hd'⟩ := hd'
  refine wpN_execs_cons (wpN.of (two_lists (m' := fun d => lawM l rows [] d) H ar ko T₁ X₁ (by show (storable sc "octs" && (storable sc "begins" && true)) = true; rw [sl "octs" (by simp), sl "begins" (by simp)]; rfl) rfl (fun v => rfl) fun K₃ s₃ a T₃ X₃ U₃ new₁ x₃ k₃ => ?_))
  have xs₃ := x₁.trans x₃
  have ks₃ := k₁.trans x₁ k₃
  have new₀ : s₀.heap.get? a = none := x₁.none new₁
  refine wpN_execs_cons (wpN_For (name_val X₃ (by rfl) (.inl (kl "rows" (by simp))) (by decide) fun v rv => ?_) (fun J => rfl))
  refine iter_list H T₃ (ExtP.refl _) rv ⟨fun J => ?_, fun q => by rw [decide_eq_true hcap] at q; exact no_tf q⟩
  intro K₄ s₄ T₄ x₄ k₄ I wr it₄
  have Sc : Since S stk env wr := Since.of T₃ X₃ fun b hb => (it₄.new' b hb).1
  have nwr : a ∉ wr := fun q => by obtain ⟨_, e⟩ := U₃.obj; have := (it₄.new' _ q).1; rw [e] at this; cases this
  have old : ∀ b o, s₀.heap.get? b = some o → b ∉ wr := fun b o e z => by
   have := (it₄.new' b z).1
   obtain ⟨o'', e''⟩ := xs₃.some e
   rw [e''] at this; exact no_sn this
  refine codeN_forLoop (LawI prog w S O (lawEnd T sc t1 lc rest P l rows) stk env l rows a s₀ K₀ s₃.heap I wr Qf) (fun n s hI => ?_) rows.length
   ⟨rows, K₄, [], [], [], rfl, T₄, X₃.ext x₄ k₄, U₃.ext x₄ k₄, .nil, Nat.zero_le _, by simpa using hcap, it₄, xs₃.trans (Ext.p x₄), ks₃.trans xs₃ k₄, hd'⟩
  refine abs1 fun G0 hG0 => ?_
  obtain ⟨rest', K, octs, begins, vs, rfl, TS, X, U, rs, hz, hn, it, xs, ks, hl⟩ := hI
  refine hG0 ?_
  clear hG0 G0
  induction rest' using List.casesOn with
  | nil =>
   refine it.done ar.hand fun h' tk kp => ?_
   have T₅ : St S stk K { s with heap := h', toks := tk } := TS.alter (P := (· ∈ wr)) (fun b hb => it.loose Sc hb) kp tk
   have X₅ : Lc S stk env (lawM l rows octs (.raw (.ref a))) K h' := X.keep (fun b o q e => kp b o (own_wr it Sc q) e) (KExt.refl _ _)
   have U₅ : Mut S stk env K h' a vs := ⟨let ⟨n, e⟩ := U.obj; ⟨n, kp _ _ nwr e⟩, U.kn, U.base, U.fix, U.own⟩
   have xs₅ : ExtP S stk (Own env) s₀.heap h' := fun b o e => by
    obtain ⟨o', e', q⟩ := xs b o e
    exact ⟨o', kp b o' (old b o e) e', q⟩
   refine abs1 fun G0 hG0 => ?_
   obtain ⟨of, T₆, X₆, _⟩ := U₅.frozen (x := "begins") (s := { s with heap := h', toks := tk }) T₅ X₅ (by rfl) rs
   refine hG0 ?_
   clear hG0 G0
   refine law_end (l := l) (rows := rows) (octs := octs) (begins := begins) H EO GL PF IE IT SX ar hg ko tp T₆ X₆ kg (LA.loc _ (by simp)) UB.hs2 ?_
   refine RxS.after (s := s₀) (K := K₀) xs₅ ⟨fun b o q => Kn.put_old U.kn _ _ (ks.1 b o q), fun b o q => by
    rcases Kn.put_inv q with q | ⟨rfl, _⟩
    ·exact ks.2 b o q
    ·exact .inr new₀⟩ ?_
   exact Tr.sat_mono (fun J q => q) (fun J J q => q.elim) _ hl
  | cons d r =>
   refine wpAny_mono (turnN (R := fun J => False) (C := fun s₂ => wpN (model prog w) A (execs [.Expr (.Call (.Attribute (.Name "begins" (pp 11)) "append" (pp 12)) [e1] [] (pp 13)) (pp 14), st2] env) (fun f s₃' => f = .next ∧ ∃ m, m < (d :: r).length ∧ LawI prog w S O (lawEnd T sc t1 lc rest P l rows) stk env l rows a s₀ K₀ s₃.heap I wr Qf m s₃') (fun J J => False) s₂)
    (y := "fields") (p := (pp 9)) ar.hand it TS X Sc (.inl (kl "fields" (by simp))) fun h₁ tk T₁ X₁ it₁ kp => ?_) (fun r s₁ q => ?_) fun J J q => q
   rotate_left
   ·induction r using Option.casesOn with
    | none => exact q.elim
    | some v => exact wpAny_pure (wpAny_mono q (fun J s₂ q => wpN_mono q (fun f s₃ ⟨e, q⟩ => by subst e; exact q) fun J J q => q) fun J J q => q)
   have X₁ : Lc S stk env (lawMf l rows octs (.raw (.ref a)) d) K h₁ := X₁
   have U₁ : Mut S stk env K h₁ a vs := ⟨let ⟨n, e⟩ := U.obj; ⟨n, kp _ _ nwr (fun z => U.own z.own) e⟩, U.kn, U.base, U.fix, U.own⟩
   have xs₁ : ExtP S stk (Own env) s₀.heap h₁ := fun b o e => by
    obtain ⟨o', e', q⟩ := xs b o e
    by_cases ow : Own env b
    ·obtain ⟨o'', e''⟩ := own_live X₁ ow
     exact ⟨o'', e'', fun np => absurd ow np⟩
    ·exact ⟨o', kp b o' (old b o e) (fun z => ow z.own) e', q⟩
   exact law_turn (s := { s with heap := h₁, toks := tk }) H IE SX UB.hline UB.hs1 (kl "begins" (by simp)) UB.f1 UB.f2 ar ko tp T₁ X₁ U₁ Sc nwr it₁ rs hz hn new₀ xs₁ ks hl
 | _ => exact hd.elim
theorem law_body (H : StaOk S) (EO : EqOrd prog w S) (GL : GlobIs S "list" (.type "list")) (PF : ∃ f, GlobIs S "pack_all" f ∧ KeepOk prog w S f ∧ FnSpecN prog w S k f (packAllF P)) (IE : SoundE prog w S T k 40) (IT : SoundT prog w S T k 40) (SX : SoundX prog w S T k 40 40)
  (LA : LawAt T O ps sc body comp t1 lc rest) : BodyHandN prog w S T k ps [] sc body (lawF T sc comp t1 lc rest O P) := by
 obtain ⟨pp, jj, e1, st2, UB⟩ := LA.body
 exact law_body0 H EO GL PF IE IT SX LA UB
end
noncomputable abbrev pg : Program := PySem.Challenge.pw_pq0997_01
noncomputable def fnd (nm : Str) : List Stmt → Option (Arguments × List Stmt × Scope)
 | [] => none
 | .FunctionDef n a b _ _ _ sc _ _ _ :: r => match n == nm with
  | true => some (a, b, sc)
  | false => fnd nm r
 | _ :: r => fnd nm r
noncomputable def clsB (nm : Str) : List Stmt → List Stmt
 | [] => []
 | .ClassDef n _ _ b _ _ _ _ _ _ _ :: r => match n == nm with
  | true => b
  | false => clsB nm r
 | _ :: r => clsB nm r
noncomputable def fn (nm : String) : Arguments × List Stmt × Scope := match fnd nm pg.main.body with
 | some x => x
 | none => match fnd (if nm = "Order.told" || nm = "GateError.told" then "told" else "__init__") (clsB (if nm = "Order.told" || nm = "Order.__init__" then "Order" else "GateError") pg.main.body) with
  | some x => x
  | none => default
noncomputable def zS (x : String) (t : Nat) : Value := .str (Str.ofString x) t
noncomputable def zR : Nat → Value
 | 0 => .none
 | n + 1 => .ref (n + 1)
noncomputable def zE (P : Params) (x : String) (t : Nat) (v : Value) : DictEntry := { hash := PyData.keyHash P (Str.ofString x), key := .str (Str.ofString x) t, val := v }
noncomputable def zC (n q : String) (t1 t2 t3 : Nat) (l a f : Int) (r8 : Nat) (b : Bool) (w : Int) (r11 r13 r14 r15 : Nat) (i16 l17 : Int) (t18 : Nat) : Obj :=
 { cls := .type "code", data := .fields #[zS n t1, zS q t2, zS "/claim/cut.py" t3, .int l 0, .int a 0, .int 0 0, .int 0 0, .int f 0, .ref r8, .bool b, .int w 0, .ref r11, .none, zR r13, zR r14, .ref r15, .int i16 0, .int l17 0, zS "/claim/cut.py" t18] }
noncomputable def zD (n q : String) (dV pm : Value) (c : Nat) : FuncData :=
 { name := n, qualname := q, params := (fn q).1, body := .stmts (fn q).2.1, scope := (fn q).2.2, globals := 3, closure := [], defaults := dV, kwdefaults := .none, pyModule := pm, code := .ref c }
noncomputable def zF (n q : String) (dV pm : Value) (c : Nat) : Obj := { cls := .type "function", data := .func (zD n q dV pm c) }
noncomputable def KF (P : Params) : Frag :=
 [(3, { cls := .type "dict", data := .dict #[zE P "__name__" 165 (zS "law_pq0997_01" 636), zE P "__doc__" 166 (.none), zE P "__package__" 167 (.none), zE P "__loader__" 168 (.builtin "__main__.__loader__#opaque"), zE P "__spec__" 169 (.none), zE P "__annotations__" 170 (.ref 6), zE P "__builtins__" 171 (.ref 4), zE P "__file__" 173 (zS "/claim/cut.py" 172), zE P "__cached__" 174 (.none), zE P "GateError" 226 (.ref 39), zE P "CodeError" 242 (.ref 52), zE P "signed" 252 (.ref 62), zE P "fits_signed" 260 (.ref 69), zE P "little" 266 (.ref 74), zE P "from_little" 275 (.ref 81), zE P "LD" 279 (.int 0 278), zE P "LDX" 281 (.int 1 280), zE P "ST" 283 (.int 2 282), zE P "STX" 285 (.int 3 284), zE P "ALU" 287 (.int 4 286), zE P "JMP" 289 (.int 5 288), zE P "JMP32" 291 (.int 6 290), zE P "ALU64" 293 (.int 7 292), zE P "BY_REGISTER" 295 (.int 8 294), zE P "WIDE" 297 (.int 24 296), zE P "CALL" 299 (.int 133 298), zE P "EXIT" 301 (.int 149 300), zE P "MODE_IMM" 303 (.int 0 302), zE P "MODE_ABS" 305 (.int 32 304), zE P "MODE_IND" 307 (.int 64 306), zE P "MODE_MEM" 309 (.int 96 308), zE P "MODE_MEMSX" 311 (.int 128 310), zE P "MODE_ATOMIC" 313 (.int 192 312), zE P "FETCH" 315 (.int 1 314), zE P "XCHG" 317 (.int 225 316), zE P "CMPXCHG" 319 (.int 241 318), zE P "DEEDS" 321 (zS "add sub mul div or  and lsh rsh neg mod xor mov arshend " 320), zE P "JUMPS" 323 (zS "ja  eq  gt  ge  set ne  sgt sge callexitlt  le  slt sle " 322), zE P "KNOWN" 325 (.int 14 324), zE P "Order" 372 (.ref 106), zE P "is_alu" 380 (.ref 117), zE P "is_jumping" 388 (.ref 124), zE P "operation" 396 (.ref 131), zE P "is_register" 403 (.ref 138), zE P "width_of" 411 (.ref 145), zE P "mode_of" 419 (.ref 152), zE P "alu_size" 427 (.ref 159), zE P "is_wide" 434 (.ref 166), zE P "is_jump" 441 (.ref 173), zE P "is_call" 448 (.ref 180), zE P "is_local_call" 455 (.ref 187), zE P "is_exit" 462 (.ref 194), zE P "is_branch" 469 (.ref 201), zE P "slots_of" 476 (.ref 208), zE P "distance" 483 (.ref 215), zE P "atomic_name" 492 (.ref 222), zE P "SLOT" 496 (.int 8 495), zE P "MOST_REGISTER" 498 (.int 10 497), zE P "need" 506 (.ref 229), zE P "check_fields" 513 (.ref 236), zE P "check_end" 520 (.ref 243), zE P "check_extension" 528 (.ref 250), zE P "check_number" 536 (.ref 257), zE P "check_alu" 544 (.ref 264), zE P "check_jump" 551 (.ref 271), zE P "check_jumping" 559 (.ref 278), zE P "check_load" 567 (.ref 285), zE P "check_stx" 575 (.ref 292), zE P "check_order" 583 (.ref 299), zE P "pack" 591 (.ref 306), zE P "second_half" 600 (.ref 313), zE P "unpack" 615 (.ref 321), zE P "pack_all" 624 (.ref 328), zE P "unpack_all" 635 (.ref 335), zE P "_law_low" 643 (.ref 340), zE P "_law_whole" 649 (.ref 345), zE P "_law_fields" 668 (.ref 352), zE P "_law_octets" 682 (.ref 359), zE P "_law_order" 689 (.ref 366), zE P "_law_heard" 697 (.ref 373), zE P "_law_read" 703 (.ref 378), zE P "_law_slots_right" 716 (.ref 385), zE P "_law_cuts_right" 722 (.ref 390), zE P "_law_goals_right" 736 (.ref 397), zE P "_law_changed_right" 752 (.ref 404), zE P "law" 758 (.ref 409)] 86 }),
 (22, { cls := .type "tuple", data := .seq #[.none] }),
 (28, zC "__init__" "GateError.__init__" 201 202 203 4 3 3 23 true 181 24 25 26 27 207 4 208),
 (29, zF "__init__" "GateError.__init__" (.ref 22) (zS "ringgate.basics" 187) 28),
 (35, zC "told" "GateError.told" 210 211 212 9 1 3 30 true 181 31 32 33 34 214 9 215),
 (36, zF "told" "GateError.told" .none (zS "ringgate.basics" 187) 35),
 (38, { cls := .type "dict", data := .dict #[zE P "__module__" 196 (zS "ringgate.basics" 187), zE P "__firstlineno__" 200 (.int 2 199), zE P "__init__" 209 (.ref 29), zE P "told" 216 (.ref 36), zE P "__static_attributes__" 219 (.ref 37), zE P "__weakref__" 221 (.ref 40), zE P "__doc__" 222 (.none)] 3 }),
 (39, { cls := .type "type", data := .cls { name := "GateError", bases := [.type "Exception"], mro := [.ref 39, .type "Exception", .type "BaseException", .type "object"], ns := 38, qualname := "GateError", subclasses := [.ref 52] }, slots := #[some (.ref 15), none, some (zS "GateError" 189), some (zS "GateError" 197), some (.builtin "Exception.__new__"), some (.bool true)] }),
 (51, { cls := .type "dict", data := .dict #[zE P "__module__" 234 (zS "ringgate.basics" 187), zE P "__firstlineno__" 238 (.int 11 237), zE P "__static_attributes__" 239 (.ref 50), zE P "__doc__" 240 (.none)] 2 }),
 (52, { cls := .type "type", data := .cls { name := "CodeError", bases := [.ref 39], mro := [.ref 52, .ref 39, .type "Exception", .type "BaseException", .type "object"], ns := 51, qualname := "CodeError" }, slots := #[some (.ref 43), none, some (zS "CodeError" 227), some (zS "CodeError" 235), some (.builtin "Exception.__new__"), some (.bool true)] }),
 (55, { cls := .type "tuple", data := .seq #[.int 64 243] }),
 (61, zC "signed" "signed" 244 245 246 13 2 3 56 true 181 57 58 59 60 250 13 251),
 (62, zF "signed" "signed" (.ref 55) (zS "ringgate.basics" 187) 61),
 (68, zC "fits_signed" "fits_signed" 253 254 255 16 2 3 63 true 181 64 65 66 67 258 16 259),
 (69, zF "fits_signed" "fits_signed" .none (zS "ringgate.basics" 187) 68),
 (73, zC "little" "little" 261 262 263 18 2 3 70 true 181 71 0 0 72 264 18 265),
 (74, zF "little" "little" .none (zS "ringgate.basics" 187) 73),
 (80, zC "from_little" "from_little" 267 268 269 20 1 3 75 true 181 76 77 78 79 273 20 274),
 (81, zF "from_little" "from_little" .none (zS "ringgate.basics" 187) 80),
 (89, { cls := .type "tuple", data := .seq #[.int 0 338] }),
 (95, zC "__init__" "Order.__init__" 339 340 341 52 7 3 90 true 181 91 92 93 94 349 52 350),
 (96, zF "__init__" "Order.__init__" (.ref 89) (zS "ringgate.orders" 276) 95),
 (102, zC "told" "Order.told" 352 353 354 60 1 3 97 true 181 98 99 100 101 356 60 357),
 (103, zF "told" "Order.told" .none (zS "ringgate.orders" 276) 102),
 (105, { cls := .type "dict", data := .dict #[zE P "__module__" 333 (zS "ringgate.orders" 276), zE P "__firstlineno__" 337 (.int 50 336), zE P "__init__" 351 (.ref 96), zE P "told" 358 (.ref 103), zE P "__static_attributes__" 365 (.ref 104), zE P "__dict__" 367 (.ref 107), zE P "__weakref__" 369 (.ref 108), zE P "__doc__" 370 (.none)] 4 }),
 (106, { cls := .type "type", data := .cls { name := "Order", bases := [.type "object"], mro := [.ref 106, .type "object"], ns := 105, qualname := "Order" }, slots := #[none, none, some (zS "Order" 326), some (zS "Order" 334), some (.builtin "object.__new__"), some (.bool true)] }),
 (116, zC "is_alu" "is_alu" 373 374 375 62 1 3 111 true 181 112 113 114 115 378 62 379),
 (117, zF "is_alu" "is_alu" .none (zS "ringgate.orders" 276) 116),
 (123, zC "is_jumping" "is_jumping" 381 382 383 65 1 3 118 true 181 119 120 121 122 386 65 387),
 (124, zF "is_jumping" "is_jumping" .none (zS "ringgate.orders" 276) 123),
 (130, zC "operation" "operation" 389 390 391 68 1 3 125 true 181 126 127 128 129 394 68 395),
 (131, zF "operation" "operation" .none (zS "ringgate.orders" 276) 130),
 (137, zC "is_register" "is_register" 397 398 399 77 1 3 132 true 181 133 134 135 136 401 77 402),
 (138, zF "is_register" "is_register" .none (zS "ringgate.orders" 276) 137),
 (144, zC "width_of" "width_of" 404 405 406 79 1 3 139 true 181 140 141 142 143 409 79 410),
 (145, zF "width_of" "width_of" .none (zS "ringgate.orders" 276) 144),
 (151, zC "mode_of" "mode_of" 412 413 414 86 1 3 146 true 181 147 148 149 150 417 86 418),
 (152, zF "mode_of" "mode_of" .none (zS "ringgate.orders" 276) 151),
 (158, zC "alu_size" "alu_size" 420 421 422 99 1 3 153 true 181 154 155 156 157 425 99 426),
 (159, zF "alu_size" "alu_size" .none (zS "ringgate.orders" 276) 158),
 (165, zC "is_wide" "is_wide" 428 429 430 102 1 3 160 true 181 161 162 163 164 432 102 433),
 (166, zF "is_wide" "is_wide" .none (zS "ringgate.orders" 276) 165),
 (172, zC "is_jump" "is_jump" 435 436 437 104 1 3 167 true 181 168 169 170 171 439 104 440),
 (173, zF "is_jump" "is_jump" .none (zS "ringgate.orders" 276) 172),
 (179, zC "is_call" "is_call" 442 443 444 106 1 3 174 true 181 175 176 177 178 446 106 447),
 (180, zF "is_call" "is_call" .none (zS "ringgate.orders" 276) 179),
 (186, zC "is_local_call" "is_local_call" 449 450 451 108 1 3 181 true 181 182 183 184 185 453 108 454),
 (187, zF "is_local_call" "is_local_call" .none (zS "ringgate.orders" 276) 186),
 (193, zC "is_exit" "is_exit" 456 457 458 110 1 3 188 true 181 189 190 191 192 460 110 461),
 (194, zF "is_exit" "is_exit" .none (zS "ringgate.orders" 276) 193),
 (200, zC "is_branch" "is_branch" 463 464 465 112 1 3 195 true 181 196 197 198 199 467 112 468),
 (201, zF "is_branch" "is_branch" .none (zS "ringgate.orders" 276) 200),
 (207, zC "slots_of" "slots_of" 470 471 472 114 1 3 202 true 181 203 204 205 206 474 114 475),
 (208, zF "slots_of" "slots_of" .none (zS "ringgate.orders" 276) 207),
 (214, zC "distance" "distance" 477 478 479 116 1 3 209 true 181 210 211 212 213 481 116 482),
 (215, zF "distance" "distance" .none (zS "ringgate.orders" 276) 214),
 (221, zC "atomic_name" "atomic_name" 484 485 486 120 1 3 216 true 181 217 218 219 220 490 120 491),
 (222, zF "atomic_name" "atomic_name" .none (zS "ringgate.orders" 276) 221),
 (228, zC "need" "need" 499 500 501 141 2 3 223 true 181 224 225 226 227 504 141 505),
 (229, zF "need" "need" .none (zS "ringgate.codec" 493) 228),
 (235, zC "check_fields" "check_fields" 507 508 509 144 1 3 230 true 181 231 232 233 234 511 144 512),
 (236, zF "check_fields" "check_fields" .none (zS "ringgate.codec" 493) 235),
 (242, zC "check_end" "check_end" 514 515 516 150 1 3 237 true 181 238 239 240 241 518 150 519),
 (243, zF "check_end" "check_end" .none (zS "ringgate.codec" 493) 242),
 (249, zC "check_extension" "check_extension" 521 522 523 154 1 3 244 true 181 245 246 247 248 526 154 527),
 (250, zF "check_extension" "check_extension" .none (zS "ringgate.codec" 493) 249),
 (256, zC "check_number" "check_number" 529 530 531 157 2 3 251 true 181 252 253 254 255 534 157 535),
 (257, zF "check_number" "check_number" .none (zS "ringgate.codec" 493) 256),
 (263, zC "check_alu" "check_alu" 537 538 539 162 1 3 258 true 181 259 260 261 262 542 162 543),
 (264, zF "check_alu" "check_alu" .none (zS "ringgate.codec" 493) 263),
 (270, zC "check_jump" "check_jump" 545 546 547 183 1 3 265 true 181 266 267 268 269 549 183 550),
 (271, zF "check_jump" "check_jump" .none (zS "ringgate.codec" 493) 270),
 (277, zC "check_jumping" "check_jumping" 552 553 554 190 1 3 272 true 181 273 274 275 276 557 190 558),
 (278, zF "check_jumping" "check_jumping" .none (zS "ringgate.codec" 493) 277),
 (284, zC "check_load" "check_load" 560 561 562 206 1 3 279 true 181 280 281 282 283 565 206 566),
 (285, zF "check_load" "check_load" .none (zS "ringgate.codec" 493) 284),
 (291, zC "check_stx" "check_stx" 568 569 570 211 1 3 286 true 181 287 288 289 290 573 211 574),
 (292, zF "check_stx" "check_stx" .none (zS "ringgate.codec" 493) 291),
 (298, zC "check_order" "check_order" 576 577 578 219 1 3 293 true 181 294 295 296 297 581 219 582),
 (299, zF "check_order" "check_order" .none (zS "ringgate.codec" 493) 298),
 (305, zC "pack" "pack" 584 585 586 239 1 3 300 true 181 301 302 303 304 589 239 590),
 (306, zF "pack" "pack" .none (zS "ringgate.codec" 493) 305),
 (312, zC "second_half" "second_half" 592 593 594 245 2 3 307 true 181 308 309 310 311 598 245 599),
 (313, zF "second_half" "second_half" .none (zS "ringgate.codec" 493) 312),
 (314, { cls := .type "tuple", data := .seq #[.int 0 601] }),
 (320, zC "unpack" "unpack" 602 603 604 250 2 3 315 true 181 316 317 318 319 613 250 614),
 (321, zF "unpack" "unpack" (.ref 314) (zS "ringgate.codec" 493) 320),
 (327, zC "pack_all" "pack_all" 616 617 618 260 1 3 322 true 181 323 324 325 326 622 260 623),
 (328, zF "pack_all" "pack_all" .none (zS "ringgate.codec" 493) 327),
 (334, zC "unpack_all" "unpack_all" 625 626 627 265 1 3 329 true 181 330 331 332 333 633 265 634),
 (335, zF "unpack_all" "unpack_all" .none (zS "ringgate.codec" 493) 334),
 (339, zC "_law_low" "_law_low" 638 639 640 275 2 3 336 true 181 337 0 0 338 641 275 642),
 (340, zF "_law_low" "_law_low" .none (zS "law_pq0997_01" 636) 339),
 (344, zC "_law_whole" "_law_whole" 644 645 646 277 1 3 341 true 181 342 0 0 343 647 277 648),
 (345, zF "_law_whole" "_law_whole" .none (zS "law_pq0997_01" 636) 344),
 (351, zC "_law_fields" "_law_fields" 650 651 652 280 1 3 346 true 181 347 348 349 350 666 280 667),
 (352, zF "_law_fields" "_law_fields" .none (zS "law_pq0997_01" 636) 351),
 (358, zC "_law_octets" "_law_octets" 669 670 671 315 1 3 353 true 181 354 355 356 357 680 315 681),
 (359, zF "_law_octets" "_law_octets" .none (zS "law_pq0997_01" 636) 358),
 (365, zC "_law_order" "_law_order" 683 684 685 319 1 3 360 true 181 361 362 363 364 687 319 688),
 (366, zF "_law_order" "_law_order" .none (zS "law_pq0997_01" 636) 365),
 (372, zC "_law_heard" "_law_heard" 690 691 692 321 1 3 367 true 181 368 369 370 371 695 321 696),
 (373, zF "_law_heard" "_law_heard" .none (zS "law_pq0997_01" 636) 372),
 (377, zC "_law_read" "_law_read" 698 699 700 326 1 3 374 true 181 375 0 0 376 701 326 702),
 (378, zF "_law_read" "_law_read" .none (zS "law_pq0997_01" 636) 377),
 (384, zC "_law_slots_right" "_law_slots_right" 704 705 706 329 3 3 379 true 181 380 381 382 383 714 329 715),
 (385, zF "_law_slots_right" "_law_slots_right" .none (zS "law_pq0997_01" 636) 384),
 (389, zC "_law_cuts_right" "_law_cuts_right" 717 718 719 340 3 3 386 true 181 387 0 0 388 720 340 721),
 (390, zF "_law_cuts_right" "_law_cuts_right" .none (zS "law_pq0997_01" 636) 389),
 (396, zC "_law_goals_right" "_law_goals_right" 723 724 725 350 2 3 391 true 181 392 393 394 395 734 350 735),
 (397, zF "_law_goals_right" "_law_goals_right" .none (zS "law_pq0997_01" 636) 396),
 (403, zC "_law_changed_right" "_law_changed_right" 737 738 739 361 2 3 398 true 181 399 400 401 402 750 361 751),
 (404, zF "_law_changed_right" "_law_changed_right" .none (zS "law_pq0997_01" 636) 403),
 (408, zC "law" "law" 753 754 755 381 1 3 405 true 181 406 0 0 407 756 381 757),
 (409, zF "law" "law" .none (zS "law_pq0997_01" 636) 408)]
noncomputable def kAs : List Addr := [3, 22, 28, 29, 35, 36, 38, 39, 51, 52, 55, 61, 62, 68, 69, 73, 74, 80, 81, 89, 95, 96, 102, 103, 105, 106, 116, 117, 123, 124, 130, 131, 137, 138, 144, 145, 151, 152, 158, 159, 165, 166, 172, 173, 179, 180, 186, 187, 193, 194, 200, 201, 207, 208, 214, 215, 221, 222, 228, 229, 235, 236, 242, 243, 249, 250, 256, 257, 263, 264, 270, 271, 277, 278, 284, 285, 291, 292, 298, 299, 305, 306, 312, 313, 314, 320, 321, 327, 328, 334, 335, 339, 340, 344, 345, 351, 352, 358, 359, 365, 366, 372, 373, 377, 378, 384, 385, 389, 390, 396, 397, 403, 404, 408, 409]
noncomputable def qv : Program := view pg [pg.main.body.length - 1]
noncomputable def looseL : List Str := (["GateError", "CodeError", "signed", "fits_signed", "little", "from_little", "LD", "LDX", "ST", "STX", "ALU", "JMP", "JMP32", "ALU64", "BY_REGISTER", "WIDE", "CALL", "EXIT", "MODE_IMM", "MODE_ABS", "MODE_IND", "MODE_MEM", "MODE_MEMSX", "MODE_ATOMIC", "FETCH", "XCHG", "CMPXCHG", "DEEDS", "JUMPS", "KNOWN", "Order", "is_alu", "is_jumping", "operation", "is_register", "width_of", "mode_of", "alu_size", "is_wide", "is_jump", "is_call", "is_local_call", "is_exit", "is_branch", "slots_of", "distance", "atomic_name", "SLOT", "MOST_REGISTER", "need", "check_fields", "check_end", "check_extension", "check_number", "check_alu", "check_jump", "check_jumping", "check_load", "check_stx", "check_order", "pack", "second_half", "unpack", "pack_all", "unpack_all", "_law_low", "_law_whole", "_law_fields", "_law_octets", "_law_order", "_law_heard", "_law_read", "_law_slots_right", "_law_cuts_right", "_law_goals_right", "_law_changed_right"] : List String).map Str.ofString
theorem kAs_ok : ∀ P, kAs = (KF P).map (·.1) := fun P => by kernel_rfl
noncomputable def hk : Hook := kmHook KF kAs kAs_ok [399, 380, 375]
end
section
open PySem PySem.W PySem.Calls PyProof.Rows
open Sem (wp)
noncomputable def badS (st : List (Code × Pos)) : Bool := st.any fun q => decC q.1
noncomputable def runN (f : Value) (vs : List Value) : Sem Value := .stack fun st => if badS st then pure (.bool true) else call f vs
noncomputable def treeO (name : Str) (vs : List Value) : Sem Fin := do match ← nsGet mainNs name with
 | some f => do ret (← PySem.call f vs)
 | none => unsupported "claim.caller:no-such-global"
noncomputable def treeN (name : Str) (vs : List Value) : Sem Fin := .stack fun st => if badS st then ret (.bool true) else treeO name vs
theorem step_over {prog : Program} {w : World} {name : Str} {vs : List Value} {s s' : Shared} {o : Outcome} {n : Nat} (z : s.asleep) (h : schedN (denote table) prog w n (.single s ⟨treeN name vs, .builtin "claim.caller" {}, default, []⟩) = .halted o s') :
  ∃ m, schedN (denote table) prog w m (.single s ⟨treeO name vs, .builtin "claim.caller" {}, default, []⟩) = .halted o s' := by
 induction n using Nat.casesOn with
 | zero => cases h
 | succ m =>
  refine ⟨m, ?_⟩
  have e : step (denote table) prog w s ⟨treeN name vs, .builtin "claim.caller" {}, default, []⟩ = .go s ⟨treeO name vs, .builtin "claim.caller" {}, default, []⟩ := by
   obtain ⟨hp, g, d, tk, os⟩ := s
   rfl
  have q : sstep (denote table) prog w (.single s ⟨treeN name vs, .builtin "claim.caller" {}, default, []⟩) = .go (.single s ⟨treeO name vs, .builtin "claim.caller" {}, default, []⟩) := by
   rcases sstep_single (den := denote table) (prog := prog) (w := w) s ⟨treeN name vs, .builtin "claim.caller" {}, default, []⟩ rfl z with e' | e'
   ·rw [e', e]; rfl
   ·rw [e] at e'; cases e'
  unfold schedN at h
  rw [q] at h
  exact h
theorem over {c : ClaimW} {name : Str} {defs keeps : List Str} {writes : Bool} (h : c.HoldsOpenBy (fun vs => ⟨treeN name vs, .builtin "claim.caller" {}, default, []⟩) defs keeps writes) :
  c.HoldsOpenBy (fun vs => ⟨treeO name vs, .builtin "claim.caller" {}, default, []⟩) defs keeps writes := by
 obtain ⟨h1, h2, h3⟩ := h
 refine ⟨h1, h2, fun w => ⟨(h3 w).1, fun s hs => ?_⟩⟩
 have hs' : AfterImport (opening c.prog) w s := hs
 refine abs1 fun G0 hG0 => ?_
 obtain ⟨s₀, hf, hg, s₁, hT, a, b, c', hcall⟩ := (h3 w).2 s hs
 refine hG0 ?_
 clear hG0 G0
 have z : s₁.asleep := Shared.asleep_of_life hT.2.1 (Shared.asleep_of_life (fence_lifeW hf) hs'.life)
 refine ⟨s₀, hf, hg, s₁, hT, a, b, c', fun args hp hl ord ho => ?_⟩
 refine abs1 fun G0 hG0 => ?_
 obtain ⟨vs, s₂, hlaid, n, o, s', hs, rest⟩ := hcall args hp hl ord ho
 obtain ⟨m, hm⟩ := step_over (Shared.asleep_of_life (layAllW_rest _ _ _ hlaid).2.2.2 z) hs
 refine hG0 ?_
 clear hG0 G0
 exact ⟨vs, s₂, hlaid, m, o, s', hm, rest⟩
theorem wpAny_look {α : Type} {M : Model} {A : Around} {s : Shared} {x : α} {t : Sem α} {Q : α → Shared → Prop} {E : Value → Shared → Prop} (h0 : Q x s) (h : wpN M A t Q E s) : wpAny M A (.stack fun st => if badS st then pure x else t) Q E s := by
 intro Γ p hΓ
 show wp M Γ (if badS ((Γ.code, p) :: Γ.below) then pure x else t) _ _ p s
 cases c : badS ((Γ.code, p) :: Γ.below) with
 | true => exact h0
 | false =>
  have c' : ∀ q ∈ (Γ.code, p) :: Γ.below, decC q.1 = false := fun q hq => by
   cases z : decC q.1 with
   | false => rfl
   | true => rw [show badS ((Γ.code, p) :: Γ.below) = true from List.any_eq_true.mpr ⟨q, hq, z⟩] at c; exact no_tf c
  exact h Γ p hΓ (fun q hq => c' q (.tail _ hq)) (c' _ (.head _))
theorem look_tree {M : Model} {name : Str} {vs : List Value} {s : Shared} {mg : Str → Option Value} {f : Value} {Q : Fin → Shared → Prop} {E : Value → Shared → Prop} (hg : s.heap.Ns mainGlobals mg) (hf : mg name = some f)
  (h : wpAny M callerA (runN f vs) (fun v s' => Q (.done (.ret v)) s') E s) : wpAny M callerA (treeN name vs) Q E s := by
 intro Γ p hΓ
 have h1 : ∀ p', wp M Γ (if badS ((Γ.code, p') :: Γ.below) then pure (.bool true) else call f vs) (fun v J s' => Q (.done (.ret v)) s') (fun e J s' => E e s') p' s := fun p' => h Γ p' hΓ
 show wp M Γ (if badS ((Γ.code, p) :: Γ.below) then ret (.bool true) else treeO name vs) _ _ p s
 have same : ∀ p', badS ((Γ.code, p') :: Γ.below) = badS ((Γ.code, p) :: Γ.below) := fun J => rfl
 cases c : badS ((Γ.code, p) :: Γ.below) with
 | true =>
  have h2 := h1 p
  rw [c] at h2
  exact h2
 | false =>
  show wp M Γ (nsGet mainNs name >>= fun r => _) _ _ p s
  rw [Sem.wp_bind']
  refine wpAny_nsGet (M := M) (A := callerA) (E := E) (Q := fun r s' => ∀ p', wp M Γ (match r with | some f => do ret (← PySem.call f vs) | none => unsupported "claim.caller:no-such-global") (fun a J s' => Q a s') (fun e J s' => E e s') p' s') hg ?_ Γ p hΓ |> Sem.wp_mono M Γ _ (fun a p' s' h' => h' p') (fun J J J h' => h') p s
  rw [hf]
  intro p'
  have h2 := h1 p'
  rw [same p', c] at h2
  show wp M Γ (call f vs >>= fun v => ret v) _ _ p' s
  rw [Sem.wp_bind']
  exact Sem.wp_mono M Γ _ (fun v p'' s' h' => h') (fun J J J h' => h') p' s h2
end
section
open PySem PySem.W PySem.Calls PyProof.Rows
noncomputable abbrev lawRow : RowW := PySem.Challenge.rw_pq0997_01.row.toRowW
theorem items_ints {R : WRecords} : ∀ {xs : List WData}, WShape.hasItems R xs .int = true → ∃ is : List Int, xs = is.map .int
 | [], _ => ⟨[], rfl⟩
 | d :: r, h => by
  obtain ⟨a, b⟩ := Bool.and_eq_true_iff.mp (show (WShape.has R d .int && WShape.hasItems R r .int) = true from by simpa [WShape.hasItems] using h)
  obtain ⟨i, rfl⟩ := hasW_int a
  obtain ⟨is, rfl⟩ := items_ints b
  exact ⟨i :: is, rfl⟩
theorem pre_law {args : List WData} (h : lawRow.claim.pre args = true) : ∃ xs : List Int, args = [.list (xs.map .int)] ∧ xs.length ≤ 63 := by
 obtain ⟨h1, h2⟩ := pre_splitW h
 obtain ⟨d, r, rfl, h3, h4⟩ := hasAllW_cons h1
 obtain rfl := hasAllW_nil h4
 obtain ⟨xs, rfl, h5⟩ := hasW_list h3
 obtain ⟨is, rfl⟩ := items_ints h5
 refine ⟨is, rfl, ?_⟩
 have h7 : (PySem.Challenge.rw_pq0997_01.pre).holds [] { args := [.list (is.map .int)] } = true := h2
 cases hc : decide ((63 : Int) < ((is.map WData.int).length : Int)) with
 | false =>
  have := of_decide_eq_false hc
  rw [List.length_map] at this
  omega
 | true =>
  exfalso
  have e : WTm.value [] (.not (.lt (.lit (.int 63)) (.len (.arg 0)))) { args := [.list (is.map .int)] } = some (.bool (!decide ((63 : Int) < ((is.map WData.int).length : Int)))) := rfl
  rw [hc] at e
  have e2 : WTm.value [] (PySem.Challenge.rw_pq0997_01.pre) { args := [.list (is.map .int)] } = some (.bool false) := by
   show WTm.value [] (.and (.not (.lt (.lit (.int 63)) (.len (.arg 0)))) (.lit (.bool true))) { args := [.list (is.map .int)] } = _
   unfold WTm.value
   rw [e]
   rfl
  unfold WTm.holds at h7
  rw [e2] at h7
  cases h7
noncomputable def tabsL : List (Addr × Addr) := [(403, 399), (384, 380), (377, 375)]
theorem lawRow_well : PySem.Challenge.rw_pq0997_01.wellSaid = true := by decide +kernel
theorem law_ok : (chainsOk qv && opensWell lawRow.prog && (frees lawRow && lawRow.within.isEmpty)) = true := by decide +kernel
theorem law_bare : lawRow.prog.bare := ⟨rfl, rfl, rfl, rfl, rfl, by decide +kernel⟩
theorem law_promised : lawRow.promised := ⟨[.list []], by decide +kernel, by decide +kernel⟩
theorem tabs_ok {w : World} {h : Heap} (Y : hk.says w h) : TabsAt tabsL h := by
 have X : (KF w.params).In h := km_in_of Y
 have Z := km_tabs_of Y
 refine List.forall_mem_cons.mpr ⟨⟨codeHd_of_K X (by kernel_rfl), Z _ (by simp)⟩, List.forall_mem_cons.mpr ⟨⟨codeHd_of_K X (by kernel_rfl), Z _ (by simp)⟩, List.forall_mem_cons.mpr ⟨⟨codeHd_of_K X (by kernel_rfl), Z _ (by simp)⟩, fun J h => nomatch h⟩⟩⟩
noncomputable def LawCall : Prop := ∀ (w : World) (s : Shared) (mg mb : Str → Option Value) (l : Addr) (vs : List Value) (xs : List Int), (KF w.params).In s.heap → TabsAt tabsL s.heap → s.heap.Ns mainGlobals mg → s.heap.Ns builtinsNs mb → (∀ x : Str, x ≠ "__name__" → mb x = bootBuiltins x) → s.heap.NoLimit →
 (∃ bm ob, mg "__builtins__" = some (.ref bm) ∧ bm ≠ builtinsNs ∧ s.heap.get? bm = some ob ∧ ob.cls = .type "module" ∧ ob.dict = some builtinsNs ∧ ob.data = .plain) →
 s.gens = #[] → s.heap.get? l = some { cls := .type "list", data := .seq vs.toArray } → (∀ S K, Reps S K vs (xs.map .int)) → xs.length ≤ 63 → wpN (model pg w) callerA (call (.ref 409) [.ref l]) (fun v s' => v = .bool true ∧ OldK s.heap s'.heap ∧ s'.os = s.os ∧ s'.gens = #[]) (fun J J => False) s
theorem well_int {P : Params} {h : Heap} {v : Value} {x : Int} (a : Well P h v (.int x)) : ∃ t, v = .int x t := by cases a; exact ⟨_, rfl⟩
theorem ints_well {P : Params} {h : Heap} : ∀ {xs : List Int} {vs : List Value}, WellAll P h vs (xs.map .int) → ∀ S K, Reps S K vs (xs.map .int)
 | [], _, q => fun S K => by cases q; exact .nil
 | x :: xs, _, q => fun S K => by
  cases q with
  | cons a r =>
   obtain ⟨t, rfl⟩ := well_int a
   exact .cons (.int _ _) (ints_well r S K)
noncomputable def gEs (P : Params) : Array DictEntry := match (KF P).lookup 3 with
 | some ⟨_, _, .dict es _, _⟩ => es
 | _ => #[]
theorem glob_of {P : Params} {h : Heap} {mg : Str → Option Value} (X : (KF P).In h) (hg : h.Ns mainGlobals mg) (x : Str) : mg x = nsFind (gEs P) x := by
 obtain ⟨o, es, ep, ho, hd, _, hn⟩ := hg
 have e : (KF P).lookup 3 = some { cls := .type "dict", data := .dict (gEs P) 86 } := by kernel_rfl
 have e2 := X 3 _ e
 have e3 : h.get? 3 = some o := ho
 rw [e2] at e3
 cases e3
 cases hd
 exact (hn x).symm
theorem holds_of (left : LeftO lawRow.prog qv looseL (fun J => true) hk.obs hk.val 5060) (call : LawCall) : PySem.Challenge.rw_pq0997_01.Holds := by
 refine holds_law lawRow_well fun k1 => ⟨k1, law_promised, over (open_anyG (r := lawRow) (run := runN) (tree := treeN "law") left hk.of hk.keeps (XP := fun J J => True) (fun J J => trivial) (fun J J J J J => trivial) (fun s J => recFacts_nil rfl) rfl law_ok law_bare law_promised
  (fun vs w s mg f Q E hg hf h => look_tree hg hf h) (fun w s hg G n hn => ?_) fun w s₀ s₁ mg mb G Y args vs as hpre hlay L low => ?_)⟩
 ·obtain rfl : n = lawRow.name := by split at hn <;> simp_all
  exact pinned_of_view hg G (d := _) (kwd := _) (by rfl) (by rfl) (by rfl)
 ·obtain ⟨xs, rfl, hx⟩ := pre_law hpre
  have W := L.well
  cases W with
  | cons a b =>
   cases b
   cases a with
   | list hl hw =>
    have X : (KF w.params).In s₁.heap := km_in_of Y
    have hm : mg lawRow.name = some (.ref 409) := (glob_of X G.T.g _).trans (by kernel_rfl)
    refine ⟨.ref 409, hm, ?_⟩
    have bad : ∀ {s' : Shared}, OldK s₁.heap s'.heap → s'.os = s₁.os → s'.gens = #[] → GoodWG lawRow.claim (classAt s₀.heap) (ExcName.means s₀.heap) [.list (xs.map .int)] s₁ (.ok (.ret (.bool true))) s' := fun k o g =>
     ⟨.inl ⟨.bool true, .bool true, [], rfl, fun cls => rfl, .bool true, by kernel_rfl, fun J => ⟨.nil, fun J h => nomatch h⟩⟩, k, o, .of_eq g⟩
    refine wpAny_look (bad (.refl _) rfl L.gens) (wpN_mono (call w s₁ mg mb _ _ xs X (tabs_ok Y) G.T.g G.T.b G.T.builtins G.T.nolimit G.T.bmain L.gens hl (ints_well hw) hx) (fun v s' q => ?_) fun J J q => q.elim)
    obtain ⟨rfl, k, o, g⟩ := q
    exact bad k o g
noncomputable def lamQ (x : String) : Str := Str.ofString x ++ ".<locals>." ++ "<lambda>"
noncomputable def tabs3 : List (Addr × Addr × Str) := [(403, 399, lamQ "_law_changed_right"), (384, 380, lamQ "_law_slots_right"), (377, 375, lamQ "_law_read")]
noncomputable def SL (w : World) (s : Shared) (mb : Str → Option Value) : Sta :=
 { B := ghostOf s.heap tabsL, K := KF w.params, cO := 106, cE := 52, tabs := tabs3, mg := fun x => nsFind (gEs w.params) x, mb, os := s.os }
structure Here (w : World) (s : Shared) (mb : Str → Option Value) : Prop where
 K : (KF w.params).In s.heap
 tabs : TabsAt tabsL s.heap
 g : s.heap.Ns mainGlobals (SL w s mb).mg
 b : s.heap.Ns builtinsNs mb
 boot : ∀ x : Str, x ≠ "__name__" → mb x = bootBuiltins x
 lim : s.heap.NoLimit
 bm : ∃ bm ob, (SL w s mb).mg "__builtins__" = some (.ref bm) ∧ bm ≠ builtinsNs ∧ s.heap.get? bm = some ob ∧ ob.cls = .type "module" ∧ ob.dict = some builtinsNs ∧ ob.data = .plain
section
variable {w : World} {s : Shared} {mb : Str → Option Value}
theorem noTabs_ok (P : Params) : noTabs (KF P) = true := by kernel_rfl
theorem Here.inB (H : Here w s mb) : (KF w.params).In (SL w s mb).B := ghost_K H.tabs H.K (noTabs_ok _)
theorem Here.ok (H : Here w s mb) : StaOk (SL w s mb) where
 tabB := fun t ht => hideAll_none _ (by
  have : t.2.1 ∈ tabs3.map (·.2.1) := List.mem_map_of_mem ht
  exact this)
 nolim := by
  obtain ⟨mc, h1, h2⟩ := H.lim
  exact ⟨mc, ghost_ns H.tabs h1, h2⟩
 g := ghost_ns H.tabs H.g
 b := ghost_ns H.tabs H.b
 kin := H.inB
theorem Here.lam (H : Here w s mb) : LamSt (SL w s mb) where
 bm := by
  refine abs1 fun G0 hG0 => ?_
  obtain ⟨bm, ob, h1, h2, h3, h4, h5, h6⟩ := H.bm
  refine hG0 ?_
  clear hG0 G0
  exact ⟨bm, ob, h1, h2, ghost_get H.tabs h3 (fun q => by rw [q] at h4; cases h4), h4, h5, h6⟩
 one := by
  intro t ht t' ht' e
  have key : ∀ t ∈ tabs3, ∀ t' ∈ tabs3, t.2.1 = t'.2.1 → t.2.2 = t'.2.2 := by decide +kernel
  exact key t ht t' ht' e
theorem glob_own {x : Str} {v : Value} (h : nsFind (gEs w.params) x = some v) : GlobIs (SL w s mb) x v := .inl h
theorem Here.blt (H : Here w s mb) {x : Str} {v : Value} (h : nsFind (gEs w.params) x = none) (hn : x ≠ "__name__") (hb : bootBuiltins x = some v) : GlobIs (SL w s mb) x v := .inr ⟨h, (H.boot x hn).trans hb⟩
theorem Here.cls (H : Here w s mb) : ClsOk (SL w s mb) where
 get := fun x => by kernel_rfl
 dict := by kernel_rfl
 code := by kernel_rfl
 dst := by kernel_rfl
 src := by kernel_rfl
 off := by kernel_rfl
 imm := by kernel_rfl
 more := by kernel_rfl
 range := H.blt (by kernel_rfl) (by decide) (by decide +kernel)
 enumerate := H.blt (by kernel_rfl) (by decide) (by decide +kernel)
 zip := H.blt (by kernel_rfl) (by decide) (by decide +kernel)
end
noncomputable abbrev mB : Value := zS "ringgate.basics" 187
noncomputable abbrev mO : Value := zS "ringgate.orders" 276
noncomputable abbrev mC : Value := zS "ringgate.codec" 493
noncomputable abbrev fdOI : FuncData := zD "__init__" "Order.__init__" (.ref 89) mO 95
noncomputable abbrev fdEI : FuncData := zD "__init__" "GateError.__init__" (.ref 22) mB 28
noncomputable def bodyI (i : Nat) : List Stmt := match pg.main.body[i]? with
 | some (.FunctionDef _ _ b _ _ _ _ _ _ _) => b
 | _ => []
noncomputable def bodyM (i j : Nat) : List Stmt := match pg.main.body[i]? with
 | some (.ClassDef _ _ _ b _ _ _ _ _ _ _) => (match b[j]? with
  | some (.FunctionDef _ _ b _ _ _ _ _ _ _) => b
  | _ => [])
 | _ => []
noncomputable def argsI (i : Nat) : List Arg := match pg.main.body[i]? with
 | some (.FunctionDef _ a _ _ _ _ _ _ _ _) => a.args
 | _ => []
noncomputable def argsM (i j : Nat) : List Arg := match pg.main.body[i]? with
 | some (.ClassDef _ _ _ b _ _ _ _ _ _ _) => (match b[j]? with
  | some (.FunctionDef _ a _ _ _ _ _ _ _ _) => a.args
  | _ => [])
 | _ => []
theorem bodyOI : fdOI.body = .stmts (bodyM 32 0) := by kernel_rfl
theorem bodyEI : fdEI.body = .stmts (bodyM 1 0) := by kernel_rfl
section
variable {w : World} {s : Shared} {mb : Str → Option Value}
theorem Here.ocls (H : Here w s mb) : OrdCls (SL w s mb) where
 set := by kernel_rfl
 over := by kernel_rfl
 dict := by kernel_rfl
 code := by kernel_rfl
 dst := by kernel_rfl
 src := by kernel_rfl
 off := by kernel_rfl
 imm := by kernel_rfl
 more := by kernel_rfl
theorem Here.omake (H : Here w s mb) : OrdMake pg w (SL w s mb) 96 where
 makes := by kernel_rfl
 init := by kernel_rfl
 fn := by kernel_rfl
theorem Here.oeq (H : Here w s mb) : OrdEq (SL w s mb) where
 eq := by kernel_rfl
 obj := by kernel_rfl
theorem Here.obj (H : Here w s mb) {a : Addr} {o : Obj} (h : (KF w.params).lookup a = some o) : (SL w s mb).B.get? a = some o := H.inB a o h
theorem Here.ecls (H : Here w s mb) (M : Model) : ErrCls M (SL w s mb) where
 exc := fun h X => (exm_cls X (c := .ref 52) (cls := .ref 52) (v := true) (by kernel_rfl)).1
 ntup := fun h X => exm_ty X (c := .ref 52) (cls := .ref 52) (v := true) (by kernel_rfl)
 sub := fun h X => (exm_cls X (c := .ref 52) (cls := .ref 52) (v := true) (by kernel_rfl)).2
 base := fun h X => looks_mroIn X (by kernel_rfl)
 own := fun h X => looks_typeIn X (by kernel_rfl)
theorem Here.eget (H : Here w s mb) : ErrGet (SL w s mb) where
 get := by kernel_rfl
 hook := by kernel_rfl
 base := by kernel_rfl
 dict := by kernel_rfl
 what := by kernel_rfl
 «at» := by kernel_rfl
 glob := glob_own (by kernel_rfl)
theorem Here.emake (H : Here w s mb) : ErrMake (SL w s mb) 29 where
 obj := ⟨"CodeError", "CodeError", 51, [.ref 39], [.ref 39, .type "Exception", .type "BaseException", .type "object"], true, [], [], false, none, none, some (.ref 43), none, some (zS "CodeError" 227), some (zS "CodeError" 235), some (.bool true), by kernel_rfl, by kernel_rfl, by kernel_rfl, by kernel_rfl⟩
 call := by kernel_rfl
 typ := by kernel_rfl
 self := by kernel_rfl
 init := by kernel_rfl
 fn := by kernel_rfl
 set := by kernel_rfl
 over := by kernel_rfl
 dict := by kernel_rfl
 what := by kernel_rfl
 «at» := by kernel_rfl
 exc := by kernel_rfl
 glob := H.blt (by kernel_rfl) (by decide) (by decide +kernel)
theorem Here.oinit (H : Here w s mb) : InitAt (SL w s mb) 96 fdOI where
 obj := ⟨zF "__init__" "Order.__init__" (.ref 89) mO 95, H.obj (by kernel_rfl), rfl⟩
 body := by rw [bodyOI]; exact ⟨(_, _, _, _), (_, _, _, _), (_, _, _, _), (_, _, _, _), (_, _, _, _), (_, _, _, _), rfl⟩
 clo := rfl
 co := by kernel_rfl
 gen := by kernel_rfl
 kind := by kernel_rfl
 cells := by kernel_rfl
 code := codeRec_of H.inB (by kernel_rfl)
 loc := by decide +kernel
theorem Here.obind (H : Here w s mb) : InitBind (SL w s mb) fdOI where
 six := fun s' x v1 v2 v3 v4 v5 v6 st => .of_defaults (T := 89) (o := { cls := .type "tuple", data := .seq #[.int 0 338] }) (items := #[.int 0 338]) (n := 0) rfl (st _ _ (H.obj (by kernel_rfl))) rfl rfl (by kernel_rfl)
 five := ⟨338, fun s' x v1 v2 v3 v4 v5 st => .of_defaults (T := 89) (o := { cls := .type "tuple", data := .seq #[.int 0 338] }) (items := #[.int 0 338]) (n := 0) rfl (st _ _ (H.obj (by kernel_rfl))) rfl rfl (by kernel_rfl)⟩
theorem Here.ebind (H : Here w s mb) : ErrBind (SL w s mb) fdEI where
 two := fun s' x v1 v2 st => .of_defaults (T := 22) (o := { cls := .type "tuple", data := .seq #[.none] }) (items := #[.none]) (n := 0) rfl (st _ _ (H.obj (by kernel_rfl))) rfl rfl (by kernel_rfl)
 one := fun s' x v1 st => .of_defaults (T := 22) (o := { cls := .type "tuple", data := .seq #[.none] }) (items := #[.none]) (n := 0) rfl (st _ _ (H.obj (by kernel_rfl))) rfl rfl (by kernel_rfl)
theorem Here.einit (H : Here w s mb) : ErrInitAt (SL w s mb) 29 fdEI where
 obj := ⟨zF "__init__" "GateError.__init__" (.ref 22) mB 28, H.obj (by kernel_rfl), rfl⟩
 body := by rw [bodyEI]; refine ⟨_, _, _, _, _, _, (_, _, _, _), (_, _, _, _), rfl, ?_⟩; rfl
 clo := rfl
 glob := rfl
 blt := rfl
 co := by kernel_rfl
 gen := by kernel_rfl
 kind := by kernel_rfl
 cells := by kernel_rfl
 code := codeRec_of H.inB (by kernel_rfl)
 loc := by decide +kernel
 exc := by kernel_rfl
end
section
variable {prog : Program} {w : World} {S : Sta} {T : Tab} {k : Nat}
variable {A : Around} {stk : List Env} {K : Kn} {s : Shared} {env : Env} {E : Value → Shared → Prop} {m : Loc} {c d r o i u z : Int}
theorem told_item (H : StaOk S) (CO : ClsOk S) (TS : St S stk K s) (X : Lc S stk env m K s.heap) (hm : m.lookup ("self" : Str) = some (.ord c d r o i u)) (kx : env.kindOf "self" = some .local) {a : Str} {p ap : Pos} (ha : dattr (.ord c d r o i u) a = .ok (.int z)) {Q : Value → Shared → Prop}
  (h : ∀ t K' s', St S stk K' s' → Lc S stk env m K' s'.heap → Ext S stk s.heap s'.heap → KExt s.heap K K' → Q (.int z t) s') : wpAny (model prog w) A (eval (.Attribute (.Name "self" p) a ap) env) Q E s :=
 Attribute_name (name_val X hm (.inl kx) (by decide) fun v rv => attr_sound H CO TS rv (by
  rw [ha]
  intro v K' s' T x k r
  obtain ⟨t, rfl⟩ := rep_int r
  exact h t K' s' T (X.ext x k) x k))
theorem told_body (H : StaOk S) (CO : ClsOk S) {ps : List Arg} {sc : Scope} {body : List Stmt} (hp : ∃ a b, ps = [⟨"self", a, b⟩]) (hl : sc.names.lookup ("self" : Str) = some .local)
  (hb : ∃ p1 q1 p2 q2 p3 q3 p4 q4 p5 q5 p6 q6 j tp rp, body = [.Return (some (.Tuple [.Attribute (.Name "self" p1) "code" q1, .Attribute (.Name "self" p2) "dst" q2, .Attribute (.Name "self" p3) "src" q3, .Attribute (.Name "self" p4) "off" q4, .Attribute (.Name "self" p5) "imm" q5, .Attribute (.Name "self" p6) "more" q6] j tp)) rp]) :
  BodyHand prog w S T k ps [] sc body toldF := by
 intro ds m₀ env A stk K s Qf Ef hbd ar TS X ko tp hsc hcl h
 obtain ⟨pa, pb, rfl⟩ := hp
 obtain ⟨p1, q1, p2, q2, p3, q3, p4, q4, p5, q5, p6, q6, j, tp', rp, rfl⟩ := hb
 have kx : env.kindOf "self" = some .local := by unfold Env.kindOf; rw [hsc]; exact hl
 induction ds using List.casesOn with
 | nil => exact h.elim
 | cons d ds =>
 induction ds using List.casesOn with
 | cons _ _ => cases d <;> exact h.elim
 | nil =>
 induction d using D.casesOn with
 | ord c d r o i u =>
  have e₀ : m₀ = ([(("self" : Str), D.ord c d r o i u)] : Loc) := (Option.some.inj hbd).symm
  subst e₀
  refine wpAny_execs_cons (wpAny_Return_some (wpAny_Tuple (wpAny_items_cons (pos := tp') (told_item H CO TS X rfl kx rfl fun t1 K1 s1 T1 X1 x1 k1 => ?_))))
  refine wpAny_items_cons (pos := tp') (told_item H CO T1 X1 rfl kx rfl fun t2 K2 s2 T2 X2 x2 k2 => ?_)
  refine wpAny_items_cons (pos := tp') (told_item H CO T2 X2 rfl kx rfl fun t3 K3 s3 T3 X3 x3 k3 => ?_)
  refine wpAny_items_cons (pos := tp') (told_item H CO T3 X3 rfl kx rfl fun t4 K4 s4 T4 X4 x4 k4 => ?_)
  refine wpAny_items_cons (pos := tp') (told_item H CO T4 X4 rfl kx rfl fun t5 K5 s5 T5 X5 x5 k5 => ?_)
  refine wpAny_items_cons (pos := tp') (told_item H CO T5 X5 rfl kx rfl fun t6 K6 s6 T6 X6 x6 k6 => ?_)
  refine wpAny_items_nil (pos := tp') ⟨by rw [sizeLine_eq]; exact (by decide : (6 : Nat) ≤ 16777216), ?_⟩
  have x := ((((x1.trans x2).trans x3).trans x4).trans x5).trans x6
  have k := ((((k1.trans x1 k2).trans (x1.trans x2) k3).trans ((x1.trans x2).trans x3) k4).trans (((x1.trans x2).trans x3).trans x4) k5).trans ((((x1.trans x2).trans x3).trans x4).trans x5) k6
  have new : s6.heap.get? s6.heap.objs.size = none := new_none _
  refine h _ _ (St.push H T6 (o := { cls := .type "tuple", data := .seq #[.int c t1, .int d t2, .int r t3, .int o t4, .int i t5, .int u t6] }) rfl s6.toks) (Ext.p (x.trans (ExtP.keeps fun J J e => Heap.get?_push_of_some _ e))) (k.trans x (KExt.put new (T6.kNone new))) _
   (.tup (vs := [.int c t1, .int d t2, .int r t3, .int o t4, .int i t5, .int u t6]) (n := 0) (Kn.put_self _ _ _) (.cons (.int _ _) (.cons (.int _ _) (.cons (.int _ _) (.cons (.int _ _) (.cons (.int _ _) (.cons (.int _ _) .nil)))))))
 | _ => exact h.elim
end
section
variable {w : World} {s : Shared} {mb : Str → Option Value} {k : Nat}
noncomputable abbrev fdT : FuncData := zD "told" "Order.told" .none mO 102
theorem fn_told : (fn "Order.told").2.1 = bodyM 32 1 := by kernel_rfl
theorem Here.told (H : Here w s mb) : FnSpec pg w (SL w s mb) (k + 1) (.ref 103) toldF := by
 have hl : (fn "Order.told").1.args.length = 1 := by kernel_rfl
 refine fn_hand (fd := fdT) (T := ⟨fun J => none, fun J => none, false⟩) (ps := (fn "Order.told").1.args) (df := []) (sc := (fn "Order.told").2.2) (body := (fn "Order.told").2.1) H.ok
  ⟨⟨zF "told" "Order.told" .none mO 102, H.obj (by kernel_rfl), rfl⟩, rfl, rfl, rfl, rfl, rfl, by kernel_rfl, by kernel_rfl, by kernel_rfl, codeRec_of H.inB (by kernel_rfl), ?_, by decide +kernel, by decide +kernel, by decide +kernel, fun h => nomatch h⟩
  (told_body H.ok H.cls ?_ (by kernel_rfl) ?_) fun ds hd => ?_
 ·intro K s' vs ds m st rs hm
  induction ds using List.casesOn with
  | nil => exact absurd ((show bindD (fn "Order.told").1.args [] [] = none by kernel_rfl).symm.trans hm) (by intro q; exact no_ns q)
  | cons d ds =>
  induction ds using List.casesOn with
  | nil =>
   obtain ⟨v, rfl, r⟩ := rs.one_v
   have e : bindD (fn "Order.told").1.args [d] [] = some ([("self", d)] : Loc) := by kernel_rfl
   obtain rfl := Option.some.inj (e.symm.trans hm)
   exact ⟨[("self", v)], .of_eq (by kernel_rfl), .cons r .nil, by kernel_rfl⟩
  | cons d' r => exact absurd ((show bindD (fn "Order.told").1.args (d :: d' :: r) [] = none by kernel_rfl).symm.trans hm) (by intro q; exact no_ns q)
 ·have e : (fn "Order.told").1.args = argsM 32 1 := by kernel_rfl
  rw [e]
  exact ⟨_, _, rfl⟩
 ·rw [fn_told]
  exact ⟨_, _, _, _, _, _, _, _, _, _, _, _, _, _, _, rfl⟩
 ·match ds with
  | [] => rfl
  | [d] =>
   have e : bindD (fn "Order.told").1.args [d] [] = some ([("self", d)] : Loc) := by kernel_rfl
   rw [e] at hd
   exact no_sn hd
  | d :: d' :: r => cases d <;> rfl
end
noncomputable def conL : List (Str × D) := [("LD", .int 0), ("LDX", .int 1), ("ST", .int 2), ("STX", .int 3), ("ALU", .int 4), ("JMP", .int 5), ("JMP32", .int 6), ("ALU64", .int 7), ("BY_REGISTER", .int 8), ("WIDE", .int 24), ("CALL", .int 133), ("EXIT", .int 149),
 ("MODE_IMM", .int 0), ("MODE_ABS", .int 32), ("MODE_IND", .int 64), ("MODE_MEM", .int 96), ("MODE_MEMSX", .int 128), ("MODE_ATOMIC", .int 192), ("FETCH", .int 1), ("XCHG", .int 225), ("CMPXCHG", .int 241),
 ("DEEDS", .str "add sub mul div or  and lsh rsh neg mod xor mov arshend "), ("JUMPS", .str "ja  eq  gt  ge  set ne  sgt sge callexitlt  le  slt sle "), ("KNOWN", .int 14), ("SLOT", .int 8), ("MOST_REGISTER", .int 10), ("list", .raw (.type "list"))]
noncomputable def conC (x : Str) (o : Option Value) (d : D) : Bool := match o, d with
 | some (.int i _), .int j => i == j
 | some (.str s _), .str s' => s == s'
 | none, .raw v => x != "__name__" && bootBuiltins x == some v
 | _, _ => false
noncomputable def conB (P : Params) (p : Str × D) : Bool := conC p.1 (nsFind (gEs P) p.1) p.2
theorem con_all (P : Params) : conL.all (conB P) = true := by kernel_rfl
noncomputable def Tab.add (T : Tab) (n : Str) (F : List D → Tr D) : Tab := ⟨fun x => match x == n with | true => some F | false => T.fn x, T.con, T.heard⟩
noncomputable def T₀ : Tab := ⟨fun J => none, fun x => conL.lookup x, false⟩
noncomputable def T₁ : Tab := ((((((T₀.add "len" lenF).add "bytes" bytesF).add "list" listF).add "tuple" tupleF).add "isinstance" isListF).add "sum" sumLF).add "Order" ordF
section
variable {prog : Program} {w : World} {s : Shared} {mb : Str → Option Value} {S : Sta} {T : Tab} {k : Nat}
theorem TabOk.add {n : Str} {F : List D → Tr D} {f : Value} (TO : TabOk prog w S T k) (g : GlobIs S n f) (kp : KeepOk prog w S f) (fs : FnSpec prog w S k f F) (hn : (n == ("__debug__" : Str)) = false) : TabOk prog w S (T.add n F) k :=
 ⟨TO.con, fun x F' e => by
  have e' : (match x == n with | true => some F | false => T.fn x) = some F' := e
  cases q : x == n with
  | true =>
   rw [q] at e'
   obtain rfl := Option.some.inj e'
   rw [beq_iff_eq.mp q]
   exact ⟨f, g, kp, fs, hn⟩
  | false =>
   rw [q] at e'
   exact TO.fn x F' e', TO.told⟩
theorem TabOk.up {k' : Nat} (TO : TabOk prog w S T k) (h : k ≤ k') : TabOk prog w S T k' :=
 ⟨TO.con, fun x F e => let ⟨f, a, b, c, d⟩ := TO.fn x F e; ⟨f, a, b, c.up h, d⟩, let ⟨f, a, b, c, d⟩ := TO.told; ⟨f, a, b, c, d.up h⟩⟩
theorem Here.con (H : Here w s mb) (x : Str) (d : D) (h : conL.lookup x = some d) : ∃ v, GlobIs (SL w s mb) x v ∧ ∀ K, Rep (SL w s mb) K v d := by
 have h1 := List.all_eq_true.mp (con_all w.params) (x, d) (lookup_mem h)
 have h1 : conC x (nsFind (gEs w.params) x) d = true := h1
 cases e1 : nsFind (gEs w.params) x with
 | none =>
  rw [e1] at h1
  induction d using D.casesOn with
  | raw v =>
   obtain ⟨h2, h3⟩ := Bool.and_eq_true_iff.mp h1
   exact ⟨v, H.blt e1 (by simpa using h2) (beq_iff_eq.mp h3), fun K => .raw v⟩
  | _ => exact no_ft h1
 | some v =>
  rw [e1] at h1
  induction v using Value.casesOn with
  | int i t =>
   induction d using D.casesOn with
   | int j =>
    rw [beq_iff_eq.mp h1] at e1
    exact ⟨_, glob_own e1, fun K => .int _ _⟩
   | _ => exact no_ft h1
  | str a t =>
   induction d using D.casesOn with
   | str b =>
    rw [beq_iff_eq.mp h1] at e1
    exact ⟨_, glob_own e1, fun K => .str _ _⟩
   | _ => exact no_ft h1
  | _ => exact no_ft h1
theorem Here.hd (H : Here w s mb) : ∀ q ∈ tabsL, CodeHd (SL w s mb).B q.1 q.2 := by
 obtain ⟨a, b, c, _⟩ := ghost_code (tabs := tabsL) H.tabs
 exact List.forall_mem_cons.mpr ⟨a, List.forall_mem_cons.mpr ⟨b, List.forall_mem_cons.mpr ⟨c, fun J h => nomatch h⟩⟩⟩
theorem Here.keepE (H : Here w s mb) : KeepOk prog w (SL w s mb) (.ref 52) := fun h st => keeps_K (K := KF w.params) (by kernel_rfl) h (H.inB.keeps st)
theorem Here.keepO (H : Here w s mb) : KeepOk prog w (SL w s mb) (.ref 106) := fun h st => keeps_K (K := KF w.params) (by kernel_rfl) h (H.inB.keeps st)
structure DefK (P : Params) (T : Tab) (n : String) (a : Addr) (dV pm : Value) (c : Nat) (df : List D) : Prop where
 look : (KF P).lookup a = some (zF n n dV pm c)
 glob : nsFind (gEs P) n = some (.ref a)
 code : codeIn (KF P) (.ref c) n = true
 flags : ((fn n).2.2.isCoroutine || (fn n).2.2.isGenerator) = false
 kind : (fn n).2.2.kind = .function
 par : ((fn n).1.args.map (·.arg)).all (storable (fn n).2.2) = true
 once : ((fn n).1.args.map (·.arg)).Nodup
 names : ((fn n).2.2.names.map (·.1)).Nodup
 lam : T.heard = true → ∃ P', ((c, P', lamQ n) ∈ tabs3 ∧ (c, P') ∈ tabsL)
theorem DefK.at_ {n : String} {a : Addr} {dV pm : Value} {c : Nat} {df : List D} (H : Here w s mb) (D : DefK w.params T n a dV pm c df) (B : BindOk (SL w s mb) (zD n n dV pm c) (fn n).1.args df) :
  DefAt (SL w s mb) T a (zD n n dV pm c) (fn n).1.args df (fn n).2.2 (fn n).2.1 where
 obj := ⟨_, H.obj D.look, rfl⟩
 body := rfl
 scope := rfl
 glob := rfl
 blt := rfl
 clo := rfl
 co := (Bool.or_eq_false_iff.mp D.flags).1
 gen := (Bool.or_eq_false_iff.mp D.flags).2
 kind := D.kind
 code := codeRec_of H.inB D.code
 bind := B
 par := fun x hx => List.all_eq_true.mp D.par x hx
 once := D.once
 names := D.names
 lam := fun h => let ⟨P', h1, h2⟩ := D.lam h; ⟨c, P', rfl, h1, H.hd _ h2⟩
theorem bindR_zip {K : Kn} : ∀ {ps : List Arg} {vs : List Value} {ds : List D}, Reps S K vs ds → ds.length = ps.length → ∃ m, bindD ps ds [] = some m ∧ BindR S K ((ps.map (·.arg)).zip vs) m ∧ ((ps.map (·.arg)).zip vs).map (·.1) = ps.map (·.arg)
 | [], _, _, .nil, _ => ⟨[], rfl, .nil, rfl⟩
 | [], _, _, .cons _ _, h => by cases h
 | _ :: _, _, _, .nil, h => by cases h
 | ⟨x, a, b⟩ :: ps, _, _, .cons (v := v) (d := d) r rs, h => by
  obtain ⟨m, h1, h2, h3⟩ := bindR_zip (ps := ps) rs (by simpa using h)
  refine ⟨(x, d) :: m, ?_, .cons r h2, ?_⟩
  ·show (match bindD ps _ [] with | some m => some ((x, d) :: m) | none => none) = _
   rw [h1]
  ·rw [List.map_cons, List.zip_cons_cons, List.map_cons, h3]
theorem bindD_len : ∀ {ps : List Arg} {ds : List D} {m : Loc}, bindD ps ds [] = some m → ds.length = ps.length
 | [], [], _, _ => rfl
 | [], _ :: _, _, h => by exact no_ns h
 | ⟨x, a, b⟩ :: ps, [], _, h => by
  have h' : (match decide ((Arg.mk x a b :: ps).length ≤ ([] : List D).length) with | true => some (((Arg.mk x a b :: ps).map (·.arg)).zip (([] : List D).drop (([] : List D).length - (Arg.mk x a b :: ps).length))) | false => none) = some _ := h
  rw [decide_eq_false (by simp)] at h'
  exact no_ns h'
 | ⟨x, a, b⟩ :: ps, d :: ds, m, h => by
  have h' : (match bindD ps ds [] with | some m => some ((x, d) :: m) | none => none) = some m := h
  cases q : bindD ps ds [] with
  | none => rw [q] at h'; cases h'
  | some m' => rw [List.length_cons, List.length_cons, bindD_len q]
theorem bindOk_of {fd : FuncData} {ps : List Arg} (h : ∀ (s : Shared) (vs : List Value), vs.length = ps.length → S.B.StaysIn s.heap → BindsTo s fd ⟨vs, []⟩ ((ps.map (·.arg)).zip vs)) : BindOk S fd ps [] := by
 intro K s vs ds m st rs hm
 have hl := bindD_len hm
 obtain ⟨m', h1, h2, h3⟩ := bindR_zip (ps := ps) rs hl
 rw [h1] at hm
 obtain rfl := Option.some.inj hm
 exact ⟨_, h s vs (rs.length.trans hl) st, h2, h3⟩
theorem len1_v {α : Type} {l : List α} (h : l.length = 1) : ∃ a, l = [a] := by
 induction l using List.casesOn with
 | nil => cases h
 | cons a r => exact ⟨a, by rw [List.eq_nil_of_length_eq_zero (Nat.succ.inj h)]⟩
theorem len2_v {α : Type} {l : List α} (h : l.length = 2) : ∃ a b, l = [a, b] := by
 induction l using List.casesOn with
 | nil => cases h
 | cons a r => obtain ⟨b, rfl⟩ := len1_v (Nat.succ.inj h); exact ⟨a, b, rfl⟩
theorem len3_v {α : Type} {l : List α} (h : l.length = 3) : ∃ a b c, l = [a, b, c] := by
 induction l using List.casesOn with
 | nil => cases h
 | cons a r => obtain ⟨b, c, rfl⟩ := len2_v (Nat.succ.inj h); exact ⟨a, b, c, rfl⟩
theorem bind1 {n : String} {pm : Value} {c : Nat} (hl : (fn n).1.args.length = 1) (h : ∀ v, bindArgs (zD n n .none pm c) ⟨[v], []⟩ = pure (((fn n).1.args.map (·.arg)).zip [v])) : BindOk S (zD n n .none pm c) (fn n).1.args [] :=
 bindOk_of fun s vs hv J => by
  rw [hl] at hv
  obtain ⟨v, rfl⟩ := len1_v hv
  exact .of_eq (h v)
theorem bind2 {n : String} {pm : Value} {c : Nat} (hl : (fn n).1.args.length = 2) (h : ∀ v u, bindArgs (zD n n .none pm c) ⟨[v, u], []⟩ = pure (((fn n).1.args.map (·.arg)).zip [v, u])) : BindOk S (zD n n .none pm c) (fn n).1.args [] :=
 bindOk_of fun s vs hv J => by
  rw [hl] at hv
  obtain ⟨v, u, rfl⟩ := len2_v hv
  exact .of_eq (h v u)
theorem bind3 {n : String} {pm : Value} {c : Nat} (hl : (fn n).1.args.length = 3) (h : ∀ v u t, bindArgs (zD n n .none pm c) ⟨[v, u, t], []⟩ = pure (((fn n).1.args.map (·.arg)).zip [v, u, t])) : BindOk S (zD n n .none pm c) (fn n).1.args [] :=
 bindOk_of fun s vs hv J => by
  rw [hl] at hv
  obtain ⟨v, u, t, rfl⟩ := len3_v hv
  exact .of_eq (h v u t)
end
noncomputable abbrev mL : Value := zS "law_pq0997_01" 636
noncomputable def Tc : Tab := ⟨fun J => none, fun x => conL.lookup x, false⟩
structure Has (w : World) (S : Sta) (k : Nat) (n : Str) (F : List D → Tr D) : Prop where
 ex : ∃ f, GlobIs S n f ∧ KeepOk pg w S f ∧ FnSpec pg w S k f F
 dbg : (n == ("__debug__" : Str)) = false
section
variable {w : World} {s : Shared} {mb : Str → Option Value} {S : Sta} {T : Tab} {k : Nat}
theorem lu {k a b : Nat} (h : Nat.ble a b = true) : k + a ≤ k + b := Nat.add_le_add_left (Nat.le_of_ble_eq_true h) k
theorem lu1 {k a c : Nat} (h : Nat.ble a (c + 1) = true) : k + a ≤ k + c + 1 := lu (b := c + 1) h
theorem Has.up {n : Str} {F : List D → Tr D} {k' : Nat} (h : Has w S k n F) (hk : k ≤ k') : Has w S k' n F := ⟨let ⟨f, a, b, c⟩ := h.ex; ⟨f, a, b, c.up hk⟩, h.dbg⟩
theorem TabOk.addH {n : Str} {F : List D → Tr D} (TO : TabOk pg w S T k) (h : Has w S k n F) : TabOk pg w S (T.add n F) k := let ⟨_, a, b, c⟩ := h.ex; TO.add a b c h.dbg
theorem Here.base (H : Here w s mb) (k : Nat) : TabOk pg w (SL w s mb) Tc (k + 1) where
 con := fun x d h => H.con x d h
 fn := fun x F h => nomatch h
 told := ⟨103, by kernel_rfl, by kernel_rfl, keep_def (H.obj (o := zF "told" "Order.told" .none mO 102) (by kernel_rfl)) rfl, H.told⟩
theorem def_has {n : String} {a : Addr} {dV pm : Value} {c : Nat} {df : List D} (H : Here w s mb) (TO : TabOk pg w (SL w s mb) T (k + 1)) (hT : T.heard = false) (D : DefK w.params T n a dV pm c df) (B : BindOk (SL w s mb) (zD n n dV pm c) (fn n).1.args df) (hn : ((n : Str) == ("__debug__" : Str)) = false) :
  Has w (SL w s mb) (k + 2) n (runF T (fn n).1.args df (fn n).2.2 (fn n).2.1) := by
 have IA := sound_all H.ok H.cls TO (eq_ord H.ok H.oeq) fun n J sc p lp pos sc' body m env A stk K s Q E hh => by rw [hT] at hh; exact no_ft hh
 have SX := soundX_all (kk := 39) H.ok H.cls (raise_sound H.ok (H.ecls _) (make_err H.ok H.emake H.einit H.ebind) (glob_own (by kernel_rfl)) H.keepE (IA _).1) IA 40
 exact ⟨⟨_, glob_own D.glob, keep_def (H.obj D.look) rfl, fn_spec H.ok (D.at_ H B) SX⟩, hn⟩
theorem blt_has {n : Str} {v : Value} {F : List D → Tr D} (H : Here w s mb) (h : nsFind (gEs w.params) n = none) (hn : n ≠ "__name__") (hb : bootBuiltins n = some v) (hk : KeepOk pg w (SL w s mb) v) (f : FnSpec pg w (SL w s mb) k v F) (hd : (n == ("__debug__" : Str)) = false) : Has w (SL w s mb) k n F := ⟨⟨v, H.blt h hn hb, hk, f⟩, hd⟩
theorem h_len (H : Here w s mb) : Has w (SL w s mb) (k + 1) "len" lenF := blt_has H (by kernel_rfl) (by decide) (by decide +kernel) (keep_builtin _) len_spec rfl
theorem h_bytes (H : Here w s mb) : Has w (SL w s mb) (k + 1) "bytes" bytesF := blt_has H (by kernel_rfl) (by decide) (by decide +kernel) (keep_type _) (bytes_spec H.ok) rfl
theorem h_list (H : Here w s mb) : Has w (SL w s mb) (k + 1) "list" listF := blt_has H (by kernel_rfl) (by decide) (by decide +kernel) (keep_type _) (list_spec H.ok) rfl
theorem h_tuple (H : Here w s mb) : Has w (SL w s mb) (k + 1) "tuple" tupleF := blt_has H (by kernel_rfl) (by decide) (by decide +kernel) (keep_type _) (tuple_spec H.ok) rfl
theorem h_sum (H : Here w s mb) : Has w (SL w s mb) (k + 1) "sum" sumLF := blt_has H (by kernel_rfl) (by decide) (by decide +kernel) (keep_builtin _) (sumL_spec H.ok) rfl
theorem h_isinstance (H : Here w s mb) : Has w (SL w s mb) (k + 1) "isinstance" isListF := blt_has H (by kernel_rfl) (by decide) (by decide +kernel) (keep_builtin _) isinstance_spec rfl
theorem h_Order (H : Here w s mb) : Has w (SL w s mb) (k + 1) "Order" ordF := ⟨⟨.ref 106, glob_own (by kernel_rfl), H.keepO, ord_spec H.ok H.ocls H.omake H.oinit H.obind⟩, rfl⟩
theorem bind_signed (H : Here w s mb) : BindOk (SL w s mb) (zD "signed" "signed" (.ref 55) mB 61) (fn "signed").1.args [] :=
 bindOk_of fun s' vs hv st => by
  rw [show (fn "signed").1.args.length = 2 by kernel_rfl] at hv
  obtain ⟨v, u, rfl⟩ := len2_v hv
  exact .of_defaults (T := 55) (o := { cls := .type "tuple", data := .seq #[.int 64 243] }) (items := #[.int 64 243]) (n := 0) rfl (st _ _ (H.obj (by kernel_rfl))) rfl rfl (by kernel_rfl)
theorem bind_unpack (H : Here w s mb) : BindOk (SL w s mb) (zD "unpack" "unpack" (.ref 314) mC 320) (fn "unpack").1.args [.int 0] := by
 have e2 : ∀ {s' : Shared} {vs : List Value} {bs : List (Str × Value)} {k : Option (Array Value) → Sem (List (Str × Value))}, (SL w s mb).B.StaysIn s'.heap → bindArgs (zD "unpack" "unpack" (.ref 314) mC 320) ⟨vs, []⟩ = seqItems? (.ref 314) >>= k → k (some #[.int 0 601]) = pure bs → BindsTo s' (zD "unpack" "unpack" (.ref 314) mC 320) ⟨vs, []⟩ bs := fun st h1 h2 =>
  .of_defaults (T := 314) (o := { cls := .type "tuple", data := .seq #[.int 0 601] }) (items := #[.int 0 601]) (n := 0) rfl (st _ _ (H.obj (by kernel_rfl))) rfl h1 h2
 intro K s' vs ds m st rs hm
 induction ds using List.casesOn with
 | nil => exact absurd (show none = some m from (show bindD (fn "unpack").1.args [] [.int 0] = none by kernel_rfl) ▸ hm) (by intro q; exact no_ns q)
 | cons d ds =>
 induction ds using List.casesOn with
 | nil =>
  obtain ⟨v, rfl, r⟩ := rs.one_v
  have e : bindD (fn "unpack").1.args [d] [.int 0] = some ([("octets", d), ("at", .int 0)] : Loc) := by kernel_rfl
  obtain rfl := Option.some.inj (e.symm.trans hm)
  exact ⟨[("octets", v), ("at", .int 0 601)], e2 st rfl (by kernel_rfl), .cons r (.cons (.int _ _) .nil), by kernel_rfl⟩
 | cons d' ds =>
 induction ds using List.casesOn with
 | nil =>
  obtain ⟨v, v', rfl, r, r'⟩ := rs.two_v
  have e : bindD (fn "unpack").1.args [d, d'] [.int 0] = some ([("octets", d), ("at", d')] : Loc) := by kernel_rfl
  obtain rfl := Option.some.inj (e.symm.trans hm)
  exact ⟨[("octets", v), ("at", v')], e2 st rfl (by kernel_rfl), .cons r (.cons r' .nil), by kernel_rfl⟩
 | cons d'' r => exact absurd (show none = some m from (show bindD (fn "unpack").1.args (d :: d' :: d'' :: r) [.int 0] = none by kernel_rfl) ▸ hm) (by intro q; exact no_ns q)
noncomputable def T_signed : Tab := Tc
@[irreducible] noncomputable def F_signed : List D → Tr D := runF T_signed (fn "signed").1.args [] (fn "signed").2.2 (fn "signed").2.1
theorem k_signed (P : Params) : DefK P T_signed "signed" 62 (.ref 55) mB 61 [] := ⟨by kernel_rfl, by kernel_rfl, by kernel_rfl, by kernel_rfl, by kernel_rfl, by kernel_rfl, by decide +kernel, by decide +kernel, fun h => nomatch h⟩
theorem h_signed (H : Here w s mb) : Has w (SL w s mb) (k + 2) "signed" F_signed := by unfold F_signed; exact def_has H (H.base (k + 0)) rfl (k_signed _) (bind_signed H) rfl
noncomputable def T_fits_signed : Tab := Tc
@[irreducible] noncomputable def F_fits_signed : List D → Tr D := runF T_fits_signed (fn "fits_signed").1.args [] (fn "fits_signed").2.2 (fn "fits_signed").2.1
theorem k_fits_signed (P : Params) : DefK P T_fits_signed "fits_signed" 69 .none mB 68 [] := ⟨by kernel_rfl, by kernel_rfl, by kernel_rfl, by kernel_rfl, by kernel_rfl, by kernel_rfl, by decide +kernel, by decide +kernel, fun h => nomatch h⟩
theorem h_fits_signed (H : Here w s mb) : Has w (SL w s mb) (k + 2) "fits_signed" F_fits_signed := by unfold F_fits_signed; exact def_has H (H.base (k + 0)) rfl (k_fits_signed _) (bind2 (by kernel_rfl) (by intros; kernel_rfl)) rfl
noncomputable def T_little : Tab := (Tc.add "bytes" bytesF)
@[irreducible] noncomputable def F_little : List D → Tr D := runF T_little (fn "little").1.args [] (fn "little").2.2 (fn "little").2.1
theorem k_little (P : Params) : DefK P T_little "little" 74 .none mB 73 [] := ⟨by kernel_rfl, by kernel_rfl, by kernel_rfl, by kernel_rfl, by kernel_rfl, by kernel_rfl, by decide +kernel, by decide +kernel, fun h => nomatch h⟩
theorem h_little (H : Here w s mb) : Has w (SL w s mb) (k + 2) "little" F_little := by unfold F_little; exact def_has H ((H.base (k + 0)).addH ((h_bytes H (k := k)).up (by first | exact lu rfl | exact lu1 rfl))) rfl (k_little _) (bind2 (by kernel_rfl) (by intros; kernel_rfl)) rfl
noncomputable def T_from_little : Tab := (Tc.add "len" lenF)
@[irreducible] noncomputable def F_from_little : List D → Tr D := runF T_from_little (fn "from_little").1.args [] (fn "from_little").2.2 (fn "from_little").2.1
theorem k_from_little (P : Params) : DefK P T_from_little "from_little" 81 .none mB 80 [] := ⟨by kernel_rfl, by kernel_rfl, by kernel_rfl, by kernel_rfl, by kernel_rfl, by kernel_rfl, by decide +kernel, by decide +kernel, fun h => nomatch h⟩
theorem h_from_little (H : Here w s mb) : Has w (SL w s mb) (k + 2) "from_little" F_from_little := by unfold F_from_little; exact def_has H ((H.base (k + 0)).addH ((h_len H (k := k)).up (by first | exact lu rfl | exact lu1 rfl))) rfl (k_from_little _) (bind1 (by kernel_rfl) (by intros; kernel_rfl)) rfl
noncomputable def T_is_alu : Tab := Tc
@[irreducible] noncomputable def F_is_alu : List D → Tr D := runF T_is_alu (fn "is_alu").1.args [] (fn "is_alu").2.2 (fn "is_alu").2.1
theorem k_is_alu (P : Params) : DefK P T_is_alu "is_alu" 117 .none mO 116 [] := ⟨by kernel_rfl, by kernel_rfl, by kernel_rfl, by kernel_rfl, by kernel_rfl, by kernel_rfl, by decide +kernel, by decide +kernel, fun h => nomatch h⟩
theorem h_is_alu (H : Here w s mb) : Has w (SL w s mb) (k + 2) "is_alu" F_is_alu := by unfold F_is_alu; exact def_has H (H.base (k + 0)) rfl (k_is_alu _) (bind1 (by kernel_rfl) (by intros; kernel_rfl)) rfl
noncomputable def T_is_jumping : Tab := Tc
@[irreducible] noncomputable def F_is_jumping : List D → Tr D := runF T_is_jumping (fn "is_jumping").1.args [] (fn "is_jumping").2.2 (fn "is_jumping").2.1
theorem k_is_jumping (P : Params) : DefK P T_is_jumping "is_jumping" 124 .none mO 123 [] := ⟨by kernel_rfl, by kernel_rfl, by kernel_rfl, by kernel_rfl, by kernel_rfl, by kernel_rfl, by decide +kernel, by decide +kernel, fun h => nomatch h⟩
theorem h_is_jumping (H : Here w s mb) : Has w (SL w s mb) (k + 2) "is_jumping" F_is_jumping := by unfold F_is_jumping; exact def_has H (H.base (k + 0)) rfl (k_is_jumping _) (bind1 (by kernel_rfl) (by intros; kernel_rfl)) rfl
noncomputable def T_operation : Tab := ((Tc.add "is_alu" F_is_alu).add "is_jumping" F_is_jumping)
@[irreducible] noncomputable def F_operation : List D → Tr D := runF T_operation (fn "operation").1.args [] (fn "operation").2.2 (fn "operation").2.1
theorem k_operation (P : Params) : DefK P T_operation "operation" 131 .none mO 130 [] := ⟨by kernel_rfl, by kernel_rfl, by kernel_rfl, by kernel_rfl, by kernel_rfl, by kernel_rfl, by decide +kernel, by decide +kernel, fun h => nomatch h⟩
theorem h_operation (H : Here w s mb) : Has w (SL w s mb) (k + 3) "operation" F_operation := by unfold F_operation; exact def_has H (((H.base (k + 1)).addH ((h_is_alu H (k := k)).up (by first | exact lu rfl | exact lu1 rfl))).addH ((h_is_jumping H (k := k)).up (by first | exact lu rfl | exact lu1 rfl))) rfl (k_operation _) (bind1 (by kernel_rfl) (by intros; kernel_rfl)) rfl
noncomputable def T_is_register : Tab := Tc
@[irreducible] noncomputable def F_is_register : List D → Tr D := runF T_is_register (fn "is_register").1.args [] (fn "is_register").2.2 (fn "is_register").2.1
theorem k_is_register (P : Params) : DefK P T_is_register "is_register" 138 .none mO 137 [] := ⟨by kernel_rfl, by kernel_rfl, by kernel_rfl, by kernel_rfl, by kernel_rfl, by kernel_rfl, by decide +kernel, by decide +kernel, fun h => nomatch h⟩
theorem h_is_register (H : Here w s mb) : Has w (SL w s mb) (k + 2) "is_register" F_is_register := by unfold F_is_register; exact def_has H (H.base (k + 0)) rfl (k_is_register _) (bind1 (by kernel_rfl) (by intros; kernel_rfl)) rfl
noncomputable def T_width_of : Tab := Tc
@[irreducible] noncomputable def F_width_of : List D → Tr D := runF T_width_of (fn "width_of").1.args [] (fn "width_of").2.2 (fn "width_of").2.1
theorem k_width_of (P : Params) : DefK P T_width_of "width_of" 145 .none mO 144 [] := ⟨by kernel_rfl, by kernel_rfl, by kernel_rfl, by kernel_rfl, by kernel_rfl, by kernel_rfl, by decide +kernel, by decide +kernel, fun h => nomatch h⟩
theorem h_width_of (H : Here w s mb) : Has w (SL w s mb) (k + 2) "width_of" F_width_of := by unfold F_width_of; exact def_has H (H.base (k + 0)) rfl (k_width_of _) (bind1 (by kernel_rfl) (by intros; kernel_rfl)) rfl
noncomputable def T_mode_of : Tab := Tc
@[irreducible] noncomputable def F_mode_of : List D → Tr D := runF T_mode_of (fn "mode_of").1.args [] (fn "mode_of").2.2 (fn "mode_of").2.1
theorem k_mode_of (P : Params) : DefK P T_mode_of "mode_of" 152 .none mO 151 [] := ⟨by kernel_rfl, by kernel_rfl, by kernel_rfl, by kernel_rfl, by kernel_rfl, by kernel_rfl, by decide +kernel, by decide +kernel, fun h => nomatch h⟩
theorem h_mode_of (H : Here w s mb) : Has w (SL w s mb) (k + 2) "mode_of" F_mode_of := by unfold F_mode_of; exact def_has H (H.base (k + 0)) rfl (k_mode_of _) (bind1 (by kernel_rfl) (by intros; kernel_rfl)) rfl
noncomputable def T_alu_size : Tab := Tc
@[irreducible] noncomputable def F_alu_size : List D → Tr D := runF T_alu_size (fn "alu_size").1.args [] (fn "alu_size").2.2 (fn "alu_size").2.1
theorem k_alu_size (P : Params) : DefK P T_alu_size "alu_size" 159 .none mO 158 [] := ⟨by kernel_rfl, by kernel_rfl, by kernel_rfl, by kernel_rfl, by kernel_rfl, by kernel_rfl, by decide +kernel, by decide +kernel, fun h => nomatch h⟩
theorem h_alu_size (H : Here w s mb) : Has w (SL w s mb) (k + 2) "alu_size" F_alu_size := by unfold F_alu_size; exact def_has H (H.base (k + 0)) rfl (k_alu_size _) (bind1 (by kernel_rfl) (by intros; kernel_rfl)) rfl
noncomputable def T_is_wide : Tab := Tc
@[irreducible] noncomputable def F_is_wide : List D → Tr D := runF T_is_wide (fn "is_wide").1.args [] (fn "is_wide").2.2 (fn "is_wide").2.1
theorem k_is_wide (P : Params) : DefK P T_is_wide "is_wide" 166 .none mO 165 [] := ⟨by kernel_rfl, by kernel_rfl, by kernel_rfl, by kernel_rfl, by kernel_rfl, by kernel_rfl, by decide +kernel, by decide +kernel, fun h => nomatch h⟩
theorem h_is_wide (H : Here w s mb) : Has w (SL w s mb) (k + 2) "is_wide" F_is_wide := by unfold F_is_wide; exact def_has H (H.base (k + 0)) rfl (k_is_wide _) (bind1 (by kernel_rfl) (by intros; kernel_rfl)) rfl
noncomputable def T_is_jump : Tab := (Tc.add "is_jumping" F_is_jumping)
@[irreducible] noncomputable def F_is_jump : List D → Tr D := runF T_is_jump (fn "is_jump").1.args [] (fn "is_jump").2.2 (fn "is_jump").2.1
theorem k_is_jump (P : Params) : DefK P T_is_jump "is_jump" 173 .none mO 172 [] := ⟨by kernel_rfl, by kernel_rfl, by kernel_rfl, by kernel_rfl, by kernel_rfl, by kernel_rfl, by decide +kernel, by decide +kernel, fun h => nomatch h⟩
theorem h_is_jump (H : Here w s mb) : Has w (SL w s mb) (k + 3) "is_jump" F_is_jump := by unfold F_is_jump; exact def_has H ((H.base (k + 1)).addH ((h_is_jumping H (k := k)).up (by first | exact lu rfl | exact lu1 rfl))) rfl (k_is_jump _) (bind1 (by kernel_rfl) (by intros; kernel_rfl)) rfl
noncomputable def T_is_call : Tab := Tc
@[irreducible] noncomputable def F_is_call : List D → Tr D := runF T_is_call (fn "is_call").1.args [] (fn "is_call").2.2 (fn "is_call").2.1
theorem k_is_call (P : Params) : DefK P T_is_call "is_call" 180 .none mO 179 [] := ⟨by kernel_rfl, by kernel_rfl, by kernel_rfl, by kernel_rfl, by kernel_rfl, by kernel_rfl, by decide +kernel, by decide +kernel, fun h => nomatch h⟩
theorem h_is_call (H : Here w s mb) : Has w (SL w s mb) (k + 2) "is_call" F_is_call := by unfold F_is_call; exact def_has H (H.base (k + 0)) rfl (k_is_call _) (bind1 (by kernel_rfl) (by intros; kernel_rfl)) rfl
noncomputable def T_is_local_call : Tab := Tc
@[irreducible] noncomputable def F_is_local_call : List D → Tr D := runF T_is_local_call (fn "is_local_call").1.args [] (fn "is_local_call").2.2 (fn "is_local_call").2.1
theorem k_is_local_call (P : Params) : DefK P T_is_local_call "is_local_call" 187 .none mO 186 [] := ⟨by kernel_rfl, by kernel_rfl, by kernel_rfl, by kernel_rfl, by kernel_rfl, by kernel_rfl, by decide +kernel, by decide +kernel, fun h => nomatch h⟩
theorem h_is_local_call (H : Here w s mb) : Has w (SL w s mb) (k + 2) "is_local_call" F_is_local_call := by unfold F_is_local_call; exact def_has H (H.base (k + 0)) rfl (k_is_local_call _) (bind1 (by kernel_rfl) (by intros; kernel_rfl)) rfl
noncomputable def T_is_exit : Tab := Tc
@[irreducible] noncomputable def F_is_exit : List D → Tr D := runF T_is_exit (fn "is_exit").1.args [] (fn "is_exit").2.2 (fn "is_exit").2.1
theorem k_is_exit (P : Params) : DefK P T_is_exit "is_exit" 194 .none mO 193 [] := ⟨by kernel_rfl, by kernel_rfl, by kernel_rfl, by kernel_rfl, by kernel_rfl, by kernel_rfl, by decide +kernel, by decide +kernel, fun h => nomatch h⟩
theorem h_is_exit (H : Here w s mb) : Has w (SL w s mb) (k + 2) "is_exit" F_is_exit := by unfold F_is_exit; exact def_has H (H.base (k + 0)) rfl (k_is_exit _) (bind1 (by kernel_rfl) (by intros; kernel_rfl)) rfl
noncomputable def T_is_branch : Tab := ((((Tc.add "is_jumping" F_is_jumping).add "is_jump" F_is_jump).add "is_call" F_is_call).add "is_exit" F_is_exit)
@[irreducible] noncomputable def F_is_branch : List D → Tr D := runF T_is_branch (fn "is_branch").1.args [] (fn "is_branch").2.2 (fn "is_branch").2.1
theorem k_is_branch (P : Params) : DefK P T_is_branch "is_branch" 201 .none mO 200 [] := ⟨by kernel_rfl, by kernel_rfl, by kernel_rfl, by kernel_rfl, by kernel_rfl, by kernel_rfl, by decide +kernel, by decide +kernel, fun h => nomatch h⟩
theorem h_is_branch (H : Here w s mb) : Has w (SL w s mb) (k + 4) "is_branch" F_is_branch := by unfold F_is_branch; exact def_has H (((((H.base (k + 2)).addH ((h_is_jumping H (k := k)).up (by first | exact lu rfl | exact lu1 rfl))).addH ((h_is_jump H (k := k)).up (by first | exact lu rfl | exact lu1 rfl))).addH ((h_is_call H (k := k)).up (by first | exact lu rfl | exact lu1 rfl))).addH ((h_is_exit H (k := k)).up (by first | exact lu rfl | exact lu1 rfl))) rfl (k_is_branch _) (bind1 (by kernel_rfl) (by intros; kernel_rfl)) rfl
noncomputable def T_slots_of : Tab := Tc
@[irreducible] noncomputable def F_slots_of : List D → Tr D := runF T_slots_of (fn "slots_of").1.args [] (fn "slots_of").2.2 (fn "slots_of").2.1
theorem k_slots_of (P : Params) : DefK P T_slots_of "slots_of" 208 .none mO 207 [] := ⟨by kernel_rfl, by kernel_rfl, by kernel_rfl, by kernel_rfl, by kernel_rfl, by kernel_rfl, by decide +kernel, by decide +kernel, fun h => nomatch h⟩
theorem h_slots_of (H : Here w s mb) : Has w (SL w s mb) (k + 2) "slots_of" F_slots_of := by unfold F_slots_of; exact def_has H (H.base (k + 0)) rfl (k_slots_of _) (bind1 (by kernel_rfl) (by intros; kernel_rfl)) rfl
noncomputable def T_distance : Tab := (Tc.add "is_local_call" F_is_local_call)
@[irreducible] noncomputable def F_distance : List D → Tr D := runF T_distance (fn "distance").1.args [] (fn "distance").2.2 (fn "distance").2.1
theorem k_distance (P : Params) : DefK P T_distance "distance" 215 .none mO 214 [] := ⟨by kernel_rfl, by kernel_rfl, by kernel_rfl, by kernel_rfl, by kernel_rfl, by kernel_rfl, by decide +kernel, by decide +kernel, fun h => nomatch h⟩
theorem h_distance (H : Here w s mb) : Has w (SL w s mb) (k + 3) "distance" F_distance := by unfold F_distance; exact def_has H ((H.base (k + 1)).addH ((h_is_local_call H (k := k)).up (by first | exact lu rfl | exact lu1 rfl))) rfl (k_distance _) (bind1 (by kernel_rfl) (by intros; kernel_rfl)) rfl
noncomputable def T_atomic_name : Tab := Tc
@[irreducible] noncomputable def F_atomic_name : List D → Tr D := runF T_atomic_name (fn "atomic_name").1.args [] (fn "atomic_name").2.2 (fn "atomic_name").2.1
theorem k_atomic_name (P : Params) : DefK P T_atomic_name "atomic_name" 222 .none mO 221 [] := ⟨by kernel_rfl, by kernel_rfl, by kernel_rfl, by kernel_rfl, by kernel_rfl, by kernel_rfl, by decide +kernel, by decide +kernel, fun h => nomatch h⟩
theorem h_atomic_name (H : Here w s mb) : Has w (SL w s mb) (k + 2) "atomic_name" F_atomic_name := by unfold F_atomic_name; exact def_has H (H.base (k + 0)) rfl (k_atomic_name _) (bind1 (by kernel_rfl) (by intros; kernel_rfl)) rfl
noncomputable def T_need : Tab := Tc
@[irreducible] noncomputable def F_need : List D → Tr D := runF T_need (fn "need").1.args [] (fn "need").2.2 (fn "need").2.1
theorem k_need (P : Params) : DefK P T_need "need" 229 .none mC 228 [] := ⟨by kernel_rfl, by kernel_rfl, by kernel_rfl, by kernel_rfl, by kernel_rfl, by kernel_rfl, by decide +kernel, by decide +kernel, fun h => nomatch h⟩
theorem h_need (H : Here w s mb) : Has w (SL w s mb) (k + 2) "need" F_need := by unfold F_need; exact def_has H (H.base (k + 0)) rfl (k_need _) (bind2 (by kernel_rfl) (by intros; kernel_rfl)) rfl
noncomputable def T_check_fields : Tab := (((Tc.add "need" F_need).add "fits_signed" F_fits_signed).add "is_wide" F_is_wide)
@[irreducible] noncomputable def F_check_fields : List D → Tr D := runF T_check_fields (fn "check_fields").1.args [] (fn "check_fields").2.2 (fn "check_fields").2.1
theorem k_check_fields (P : Params) : DefK P T_check_fields "check_fields" 236 .none mC 235 [] := ⟨by kernel_rfl, by kernel_rfl, by kernel_rfl, by kernel_rfl, by kernel_rfl, by kernel_rfl, by decide +kernel, by decide +kernel, fun h => nomatch h⟩
theorem h_check_fields (H : Here w s mb) : Has w (SL w s mb) (k + 3) "check_fields" F_check_fields := by unfold F_check_fields; exact def_has H ((((H.base (k + 1)).addH ((h_need H (k := k)).up (by first | exact lu rfl | exact lu1 rfl))).addH ((h_fits_signed H (k := k)).up (by first | exact lu rfl | exact lu1 rfl))).addH ((h_is_wide H (k := k)).up (by first | exact lu rfl | exact lu1 rfl))) rfl (k_check_fields _) (bind1 (by kernel_rfl) (by intros; kernel_rfl)) rfl
noncomputable def T_check_end : Tab := ((Tc.add "need" F_need).add "is_register" F_is_register)
@[irreducible] noncomputable def F_check_end : List D → Tr D := runF T_check_end (fn "check_end").1.args [] (fn "check_end").2.2 (fn "check_end").2.1
theorem k_check_end (P : Params) : DefK P T_check_end "check_end" 243 .none mC 242 [] := ⟨by kernel_rfl, by kernel_rfl, by kernel_rfl, by kernel_rfl, by kernel_rfl, by kernel_rfl, by decide +kernel, by decide +kernel, fun h => nomatch h⟩
theorem h_check_end (H : Here w s mb) : Has w (SL w s mb) (k + 3) "check_end" F_check_end := by unfold F_check_end; exact def_has H (((H.base (k + 1)).addH ((h_need H (k := k)).up (by first | exact lu rfl | exact lu1 rfl))).addH ((h_is_register H (k := k)).up (by first | exact lu rfl | exact lu1 rfl))) rfl (k_check_end _) (bind1 (by kernel_rfl) (by intros; kernel_rfl)) rfl
noncomputable def T_check_extension : Tab := ((Tc.add "need" F_need).add "alu_size" F_alu_size)
@[irreducible] noncomputable def F_check_extension : List D → Tr D := runF T_check_extension (fn "check_extension").1.args [] (fn "check_extension").2.2 (fn "check_extension").2.1
theorem k_check_extension (P : Params) : DefK P T_check_extension "check_extension" 250 .none mC 249 [] := ⟨by kernel_rfl, by kernel_rfl, by kernel_rfl, by kernel_rfl, by kernel_rfl, by kernel_rfl, by decide +kernel, by decide +kernel, fun h => nomatch h⟩
theorem h_check_extension (H : Here w s mb) : Has w (SL w s mb) (k + 3) "check_extension" F_check_extension := by unfold F_check_extension; exact def_has H (((H.base (k + 1)).addH ((h_need H (k := k)).up (by first | exact lu rfl | exact lu1 rfl))).addH ((h_alu_size H (k := k)).up (by first | exact lu rfl | exact lu1 rfl))) rfl (k_check_extension _) (bind1 (by kernel_rfl) (by intros; kernel_rfl)) rfl
noncomputable def T_check_number : Tab := ((Tc.add "need" F_need).add "alu_size" F_alu_size)
@[irreducible] noncomputable def F_check_number : List D → Tr D := runF T_check_number (fn "check_number").1.args [] (fn "check_number").2.2 (fn "check_number").2.1
theorem k_check_number (P : Params) : DefK P T_check_number "check_number" 257 .none mC 256 [] := ⟨by kernel_rfl, by kernel_rfl, by kernel_rfl, by kernel_rfl, by kernel_rfl, by kernel_rfl, by decide +kernel, by decide +kernel, fun h => nomatch h⟩
theorem h_check_number (H : Here w s mb) : Has w (SL w s mb) (k + 3) "check_number" F_check_number := by unfold F_check_number; exact def_has H (((H.base (k + 1)).addH ((h_need H (k := k)).up (by first | exact lu rfl | exact lu1 rfl))).addH ((h_alu_size H (k := k)).up (by first | exact lu rfl | exact lu1 rfl))) rfl (k_check_number _) (bind2 (by kernel_rfl) (by intros; kernel_rfl)) rfl
noncomputable def T_check_alu : Tab := ((((((Tc.add "operation" F_operation).add "need" F_need).add "check_end" F_check_end).add "is_register" F_is_register).add "check_number" F_check_number).add "check_extension" F_check_extension)
@[irreducible] noncomputable def F_check_alu : List D → Tr D := runF T_check_alu (fn "check_alu").1.args [] (fn "check_alu").2.2 (fn "check_alu").2.1
theorem k_check_alu (P : Params) : DefK P T_check_alu "check_alu" 264 .none mC 263 [] := ⟨by kernel_rfl, by kernel_rfl, by kernel_rfl, by kernel_rfl, by kernel_rfl, by kernel_rfl, by decide +kernel, by decide +kernel, fun h => nomatch h⟩
theorem h_check_alu (H : Here w s mb) : Has w (SL w s mb) (k + 4) "check_alu" F_check_alu := by unfold F_check_alu; exact def_has H (((((((H.base (k + 2)).addH ((h_operation H (k := k)).up (by first | exact lu rfl | exact lu1 rfl))).addH ((h_need H (k := k)).up (by first | exact lu rfl | exact lu1 rfl))).addH ((h_check_end H (k := k)).up (by first | exact lu rfl | exact lu1 rfl))).addH ((h_is_register H (k := k)).up (by first | exact lu rfl | exact lu1 rfl))).addH ((h_check_number H (k := k)).up (by first | exact lu rfl | exact lu1 rfl))).addH ((h_check_extension H (k := k)).up (by first | exact lu rfl | exact lu1 rfl))) rfl (k_check_alu _) (bind1 (by kernel_rfl) (by intros; kernel_rfl)) rfl
noncomputable def T_check_jump : Tab := ((Tc.add "need" F_need).add "is_register" F_is_register)
@[irreducible] noncomputable def F_check_jump : List D → Tr D := runF T_check_jump (fn "check_jump").1.args [] (fn "check_jump").2.2 (fn "check_jump").2.1
theorem k_check_jump (P : Params) : DefK P T_check_jump "check_jump" 271 .none mC 270 [] := ⟨by kernel_rfl, by kernel_rfl, by kernel_rfl, by kernel_rfl, by kernel_rfl, by kernel_rfl, by decide +kernel, by decide +kernel, fun h => nomatch h⟩
theorem h_check_jump (H : Here w s mb) : Has w (SL w s mb) (k + 3) "check_jump" F_check_jump := by unfold F_check_jump; exact def_has H (((H.base (k + 1)).addH ((h_need H (k := k)).up (by first | exact lu rfl | exact lu1 rfl))).addH ((h_is_register H (k := k)).up (by first | exact lu rfl | exact lu1 rfl))) rfl (k_check_jump _) (bind1 (by kernel_rfl) (by intros; kernel_rfl)) rfl
noncomputable def T_check_jumping : Tab := ((((((((Tc.add "operation" F_operation).add "need" F_need).add "is_jump" F_is_jump).add "check_jump" F_check_jump).add "is_call" F_is_call).add "is_exit" F_is_exit).add "is_register" F_is_register).add "is_branch" F_is_branch)
@[irreducible] noncomputable def F_check_jumping : List D → Tr D := runF T_check_jumping (fn "check_jumping").1.args [] (fn "check_jumping").2.2 (fn "check_jumping").2.1
theorem k_check_jumping (P : Params) : DefK P T_check_jumping "check_jumping" 278 .none mC 277 [] := ⟨by kernel_rfl, by kernel_rfl, by kernel_rfl, by kernel_rfl, by kernel_rfl, by kernel_rfl, by decide +kernel, by decide +kernel, fun h => nomatch h⟩
theorem h_check_jumping (H : Here w s mb) : Has w (SL w s mb) (k + 5) "check_jumping" F_check_jumping := by unfold F_check_jumping; exact def_has H (((((((((H.base (k + 3)).addH ((h_operation H (k := k)).up (by first | exact lu rfl | exact lu1 rfl))).addH ((h_need H (k := k)).up (by first | exact lu rfl | exact lu1 rfl))).addH ((h_is_jump H (k := k)).up (by first | exact lu rfl | exact lu1 rfl))).addH ((h_check_jump H (k := k)).up (by first | exact lu rfl | exact lu1 rfl))).addH ((h_is_call H (k := k)).up (by first | exact lu rfl | exact lu1 rfl))).addH ((h_is_exit H (k := k)).up (by first | exact lu rfl | exact lu1 rfl))).addH ((h_is_register H (k := k)).up (by first | exact lu rfl | exact lu1 rfl))).addH ((h_is_branch H (k := k)).up (by first | exact lu rfl | exact lu1 rfl))) rfl (k_check_jumping _) (bind1 (by kernel_rfl) (by intros; kernel_rfl)) rfl
noncomputable def T_check_load : Tab := (((Tc.add "mode_of" F_mode_of).add "need" F_need).add "width_of" F_width_of)
@[irreducible] noncomputable def F_check_load : List D → Tr D := runF T_check_load (fn "check_load").1.args [] (fn "check_load").2.2 (fn "check_load").2.1
theorem k_check_load (P : Params) : DefK P T_check_load "check_load" 285 .none mC 284 [] := ⟨by kernel_rfl, by kernel_rfl, by kernel_rfl, by kernel_rfl, by kernel_rfl, by kernel_rfl, by decide +kernel, by decide +kernel, fun h => nomatch h⟩
theorem h_check_load (H : Here w s mb) : Has w (SL w s mb) (k + 3) "check_load" F_check_load := by unfold F_check_load; exact def_has H ((((H.base (k + 1)).addH ((h_mode_of H (k := k)).up (by first | exact lu rfl | exact lu1 rfl))).addH ((h_need H (k := k)).up (by first | exact lu rfl | exact lu1 rfl))).addH ((h_width_of H (k := k)).up (by first | exact lu rfl | exact lu1 rfl))) rfl (k_check_load _) (bind1 (by kernel_rfl) (by intros; kernel_rfl)) rfl
noncomputable def T_check_stx : Tab := ((((Tc.add "mode_of" F_mode_of).add "need" F_need).add "width_of" F_width_of).add "atomic_name" F_atomic_name)
@[irreducible] noncomputable def F_check_stx : List D → Tr D := runF T_check_stx (fn "check_stx").1.args [] (fn "check_stx").2.2 (fn "check_stx").2.1
theorem k_check_stx (P : Params) : DefK P T_check_stx "check_stx" 292 .none mC 291 [] := ⟨by kernel_rfl, by kernel_rfl, by kernel_rfl, by kernel_rfl, by kernel_rfl, by kernel_rfl, by decide +kernel, by decide +kernel, fun h => nomatch h⟩
theorem h_check_stx (H : Here w s mb) : Has w (SL w s mb) (k + 3) "check_stx" F_check_stx := by unfold F_check_stx; exact def_has H (((((H.base (k + 1)).addH ((h_mode_of H (k := k)).up (by first | exact lu rfl | exact lu1 rfl))).addH ((h_need H (k := k)).up (by first | exact lu rfl | exact lu1 rfl))).addH ((h_width_of H (k := k)).up (by first | exact lu rfl | exact lu1 rfl))).addH ((h_atomic_name H (k := k)).up (by first | exact lu rfl | exact lu1 rfl))) rfl (k_check_stx _) (bind1 (by kernel_rfl) (by intros; kernel_rfl)) rfl
noncomputable def T_check_order : Tab := ((((((((((Tc.add "check_fields" F_check_fields).add "is_alu" F_is_alu).add "check_alu" F_check_alu).add "is_jumping" F_is_jumping).add "check_jumping" F_check_jumping).add "need" F_need).add "is_wide" F_is_wide).add "check_load" F_check_load).add "mode_of" F_mode_of).add "check_stx" F_check_stx)
@[irreducible] noncomputable def F_check_order : List D → Tr D := runF T_check_order (fn "check_order").1.args [] (fn "check_order").2.2 (fn "check_order").2.1
theorem k_check_order (P : Params) : DefK P T_check_order "check_order" 299 .none mC 298 [] := ⟨by kernel_rfl, by kernel_rfl, by kernel_rfl, by kernel_rfl, by kernel_rfl, by kernel_rfl, by decide +kernel, by decide +kernel, fun h => nomatch h⟩
theorem h_check_order (H : Here w s mb) : Has w (SL w s mb) (k + 6) "check_order" F_check_order := by unfold F_check_order; exact def_has H (((((((((((H.base (k + 4)).addH ((h_check_fields H (k := k)).up (by first | exact lu rfl | exact lu1 rfl))).addH ((h_is_alu H (k := k)).up (by first | exact lu rfl | exact lu1 rfl))).addH ((h_check_alu H (k := k)).up (by first | exact lu rfl | exact lu1 rfl))).addH ((h_is_jumping H (k := k)).up (by first | exact lu rfl | exact lu1 rfl))).addH ((h_check_jumping H (k := k)).up (by first | exact lu rfl | exact lu1 rfl))).addH ((h_need H (k := k)).up (by first | exact lu rfl | exact lu1 rfl))).addH ((h_is_wide H (k := k)).up (by first | exact lu rfl | exact lu1 rfl))).addH ((h_check_load H (k := k)).up (by first | exact lu rfl | exact lu1 rfl))).addH ((h_mode_of H (k := k)).up (by first | exact lu rfl | exact lu1 rfl))).addH ((h_check_stx H (k := k)).up (by first | exact lu rfl | exact lu1 rfl))) rfl (k_check_order _) (bind1 (by kernel_rfl) (by intros; kernel_rfl)) rfl
noncomputable def T_pack : Tab := ((((Tc.add "check_order" F_check_order).add "bytes" bytesF).add "little" F_little).add "is_wide" F_is_wide)
@[irreducible] noncomputable def F_pack : List D → Tr D := runF T_pack (fn "pack").1.args [] (fn "pack").2.2 (fn "pack").2.1
theorem k_pack (P : Params) : DefK P T_pack "pack" 306 .none mC 305 [] := ⟨by kernel_rfl, by kernel_rfl, by kernel_rfl, by kernel_rfl, by kernel_rfl, by kernel_rfl, by decide +kernel, by decide +kernel, fun h => nomatch h⟩
theorem h_pack (H : Here w s mb) : Has w (SL w s mb) (k + 7) "pack" F_pack := by unfold F_pack; exact def_has H (((((H.base (k + 5)).addH ((h_check_order H (k := k)).up (by first | exact lu rfl | exact lu1 rfl))).addH ((h_bytes H (k := k)).up (by first | exact lu rfl | exact lu1 rfl))).addH ((h_little H (k := k)).up (by first | exact lu rfl | exact lu1 rfl))).addH ((h_is_wide H (k := k)).up (by first | exact lu rfl | exact lu1 rfl))) rfl (k_pack _) (bind1 (by kernel_rfl) (by intros; kernel_rfl)) rfl
noncomputable def T_second_half : Tab := ((((Tc.add "need" F_need).add "len" lenF).add "signed" F_signed).add "from_little" F_from_little)
@[irreducible] noncomputable def F_second_half : List D → Tr D := runF T_second_half (fn "second_half").1.args [] (fn "second_half").2.2 (fn "second_half").2.1
theorem k_second_half (P : Params) : DefK P T_second_half "second_half" 313 .none mC 312 [] := ⟨by kernel_rfl, by kernel_rfl, by kernel_rfl, by kernel_rfl, by kernel_rfl, by kernel_rfl, by decide +kernel, by decide +kernel, fun h => nomatch h⟩
theorem h_second_half (H : Here w s mb) : Has w (SL w s mb) (k + 3) "second_half" F_second_half := by unfold F_second_half; exact def_has H (((((H.base (k + 1)).addH ((h_need H (k := k)).up (by first | exact lu rfl | exact lu1 rfl))).addH ((h_len H (k := k)).up (by first | exact lu rfl | exact lu1 rfl))).addH ((h_signed H (k := k)).up (by first | exact lu rfl | exact lu1 rfl))).addH ((h_from_little H (k := k)).up (by first | exact lu rfl | exact lu1 rfl))) rfl (k_second_half _) (bind2 (by kernel_rfl) (by intros; kernel_rfl)) rfl
noncomputable def T_unpack : Tab := ((((((((Tc.add "need" F_need).add "len" lenF).add "signed" F_signed).add "from_little" F_from_little).add "Order" ordF).add "is_wide" F_is_wide).add "second_half" F_second_half).add "check_order" F_check_order)
@[irreducible] noncomputable def F_unpack : List D → Tr D := runF T_unpack (fn "unpack").1.args [.int 0] (fn "unpack").2.2 (fn "unpack").2.1
theorem k_unpack (P : Params) : DefK P T_unpack "unpack" 321 (.ref 314) mC 320 [.int 0] := ⟨by kernel_rfl, by kernel_rfl, by kernel_rfl, by kernel_rfl, by kernel_rfl, by kernel_rfl, by decide +kernel, by decide +kernel, fun h => nomatch h⟩
theorem h_unpack (H : Here w s mb) : Has w (SL w s mb) (k + 7) "unpack" F_unpack := by unfold F_unpack; exact def_has H (((((((((H.base (k + 5)).addH ((h_need H (k := k)).up (by first | exact lu rfl | exact lu1 rfl))).addH ((h_len H (k := k)).up (by first | exact lu rfl | exact lu1 rfl))).addH ((h_signed H (k := k)).up (by first | exact lu rfl | exact lu1 rfl))).addH ((h_from_little H (k := k)).up (by first | exact lu rfl | exact lu1 rfl))).addH ((h_Order H (k := k)).up (by first | exact lu rfl | exact lu1 rfl))).addH ((h_is_wide H (k := k)).up (by first | exact lu rfl | exact lu1 rfl))).addH ((h_second_half H (k := k)).up (by first | exact lu rfl | exact lu1 rfl))).addH ((h_check_order H (k := k)).up (by first | exact lu rfl | exact lu1 rfl))) rfl (k_unpack _) (bind_unpack H) rfl
noncomputable def T_law_low : Tab := Tc
@[irreducible] noncomputable def F_law_low : List D → Tr D := runF T_law_low (fn "_law_low").1.args [] (fn "_law_low").2.2 (fn "_law_low").2.1
theorem k_law_low (P : Params) : DefK P T_law_low "_law_low" 340 .none mL 339 [] := ⟨by kernel_rfl, by kernel_rfl, by kernel_rfl, by kernel_rfl, by kernel_rfl, by kernel_rfl, by decide +kernel, by decide +kernel, fun h => nomatch h⟩
theorem h_law_low (H : Here w s mb) : Has w (SL w s mb) (k + 2) "_law_low" F_law_low := by unfold F_law_low; exact def_has H (H.base (k + 0)) rfl (k_law_low _) (bind2 (by kernel_rfl) (by intros; kernel_rfl)) rfl
noncomputable def T_law_whole : Tab := ((Tc.add "sum" sumLF).add "len" lenF)
@[irreducible] noncomputable def F_law_whole : List D → Tr D := runF T_law_whole (fn "_law_whole").1.args [] (fn "_law_whole").2.2 (fn "_law_whole").2.1
theorem k_law_whole (P : Params) : DefK P T_law_whole "_law_whole" 345 .none mL 344 [] := ⟨by kernel_rfl, by kernel_rfl, by kernel_rfl, by kernel_rfl, by kernel_rfl, by kernel_rfl, by decide +kernel, by decide +kernel, fun h => nomatch h⟩
theorem h_law_whole (H : Here w s mb) : Has w (SL w s mb) (k + 2) "_law_whole" F_law_whole := by unfold F_law_whole; exact def_has H (((H.base (k + 0)).addH ((h_sum H (k := k)).up (by first | exact lu rfl | exact lu1 rfl))).addH ((h_len H (k := k)).up (by first | exact lu rfl | exact lu1 rfl))) rfl (k_law_whole _) (bind1 (by kernel_rfl) (by intros; kernel_rfl)) rfl
noncomputable def T_law_fields : Tab := Tc
@[irreducible] noncomputable def F_law_fields : List D → Tr D := runF T_law_fields (fn "_law_fields").1.args [] (fn "_law_fields").2.2 (fn "_law_fields").2.1
theorem k_law_fields (P : Params) : DefK P T_law_fields "_law_fields" 352 .none mL 351 [] := ⟨by kernel_rfl, by kernel_rfl, by kernel_rfl, by kernel_rfl, by kernel_rfl, by kernel_rfl, by decide +kernel, by decide +kernel, fun h => nomatch h⟩
theorem h_law_fields (H : Here w s mb) : Has w (SL w s mb) (k + 2) "_law_fields" F_law_fields := by unfold F_law_fields; exact def_has H (H.base (k + 0)) rfl (k_law_fields _) (bind1 (by kernel_rfl) (by intros; kernel_rfl)) rfl
noncomputable def T_law_octets : Tab := (Tc.add "_law_low" F_law_low)
@[irreducible] noncomputable def F_law_octets : List D → Tr D := runF T_law_octets (fn "_law_octets").1.args [] (fn "_law_octets").2.2 (fn "_law_octets").2.1
theorem k_law_octets (P : Params) : DefK P T_law_octets "_law_octets" 359 .none mL 358 [] := ⟨by kernel_rfl, by kernel_rfl, by kernel_rfl, by kernel_rfl, by kernel_rfl, by kernel_rfl, by decide +kernel, by decide +kernel, fun h => nomatch h⟩
theorem h_law_octets (H : Here w s mb) : Has w (SL w s mb) (k + 3) "_law_octets" F_law_octets := by unfold F_law_octets; exact def_has H ((H.base (k + 1)).addH ((h_law_low H (k := k)).up (by first | exact lu rfl | exact lu1 rfl))) rfl (k_law_octets _) (bind1 (by kernel_rfl) (by intros; kernel_rfl)) rfl
noncomputable def T_law_order : Tab := (Tc.add "Order" ordF)
@[irreducible] noncomputable def F_law_order : List D → Tr D := runF T_law_order (fn "_law_order").1.args [] (fn "_law_order").2.2 (fn "_law_order").2.1
theorem k_law_order (P : Params) : DefK P T_law_order "_law_order" 366 .none mL 365 [] := ⟨by kernel_rfl, by kernel_rfl, by kernel_rfl, by kernel_rfl, by kernel_rfl, by kernel_rfl, by decide +kernel, by decide +kernel, fun h => nomatch h⟩
theorem h_law_order (H : Here w s mb) : Has w (SL w s mb) (k + 2) "_law_order" F_law_order := by unfold F_law_order; exact def_has H ((H.base (k + 0)).addH ((h_Order H (k := k)).up (by first | exact lu rfl | exact lu1 rfl))) rfl (k_law_order _) (bind1 (by kernel_rfl) (by intros; kernel_rfl)) rfl
end
noncomputable def T_ua : Tab := (Tc.add "len" lenF).add "unpack" F_unpack
@[irreducible] noncomputable def F_ua : List D → Tr D := unpackAllF F_unpack
theorem k_ua (P : Params) : DefK P T_ua "unpack_all" 335 .none mC 334 [] := ⟨by kernel_rfl, by kernel_rfl, by kernel_rfl, by kernel_rfl, by kernel_rfl, by kernel_rfl, by decide +kernel, by decide +kernel, fun h => nomatch h⟩
theorem ua_at : UaAt T_ua F_unpack (fn "unpack_all").1.args (fn "unpack_all").2.2 (fn "unpack_all").2.1 where
 ps := by
  rw [show (fn "unpack_all").1.args = argsI 67 by kernel_rfl]
  exact ⟨_, _, rfl⟩
 cells := by kernel_rfl
 loc := by decide +kernel
 glob := by decide +kernel
 body := by
  rw [show (fn "unpack_all").2.1 = bodyI 67 by kernel_rfl]
  refine ⟨fun i => ([_, _, _, _, _, _, _, _, _, _, _, _, _, _, _, _, _, _, _, _, _, _, _, _, _, _, _, _, _, _] : List Pos).getD i ⟨0, 0, 0, 0⟩, fun i => ([_, _, _, _] : List Nat).getD i 0, _, _, rfl, rfl, fun l a v => by kernel_rfl, fun l a v => by kernel_rfl, fun l a v o => by kernel_rfl, rfl, rfl⟩
theorem one_arg {n : String} {x : Str} {ds : List D} {F : List D → Tr D} (e : ∀ d, bindD (fn n).1.args [d] [] = some ([(x, d)] : Loc)) (h0 : F [] = .bad) (h2 : ∀ d d' r, F (d :: d' :: r) = .bad) (h : bindD (fn n).1.args ds [] = none) : F ds = .bad := by
 match ds with
 | [] => exact h0
 | [d] => rw [e] at h; exact no_sn h
 | d :: d' :: r => exact h2 d d' r
section
variable {w : World} {s : Shared} {mb : Str → Option Value} {S : Sta} {T : Tab} {k : Nat}
theorem Here.make2 (H : Here w s mb) : ∀ (A : Around) (stk : List Env) (K : Kn) (s' : Shared) (wt : Str) (i : Int) (t t' : Tok) (Q E : Value → Shared → Prop), A.depth + 1 < 1000 → St (SL w s mb) stk K s' →
  (∀ e s'', St (SL w s mb) stk K s'' → Ext (SL w s mb) stk s'.heap s''.heap → (∃ oe vs dx, FlyX (SL w s mb) stk s'.heap e wt (.int i) s''.heap oe vs dx ∧ vs[1]? = some .none) → Q (.ref e) s'') → wpAny (model pg w) A (PySem.call (.ref (SL w s mb).cE) [.str wt t, .int i t'] []) Q E s' :=
 fun A stk K s' wt i t t' Q E hr TS h => make_err1 H.ok H.emake H.einit (v1 := .str wt t) (v2 := .int i t') (by rw [sizeLine_eq]; exact (by decide : (2 : Nat) ≤ 16777216)) rfl (.int _ _) rfl (fun s₁ x st => H.ebind.two s₁ x _ _ st) Q E hr TS h
theorem h_ua (H : Here w s mb) : Has w (SL w s mb) (k + 9) "unpack_all" F_ua := by
 unfold F_ua
 have TO : TabOk pg w (SL w s mb) T_ua (k + 8) := ((H.base (k + 7)).addH ((h_len H (k := k)).up (by first | exact lu rfl | exact lu1 rfl))).addH ((h_unpack H (k := k)).up (by first | exact lu rfl | exact lu1 rfl))
 have IA := sound_all H.ok H.cls TO (eq_ord H.ok H.oeq) fun n J sc p lp pos sc' body m env A stk K s Q E hh => by exact no_ft hh
 refine ⟨⟨_, glob_own (k_ua w.params).glob, keep_def (H.obj (k_ua w.params).look) rfl, fn_hand H.ok ((k_ua w.params).at_ H (bind1 (by kernel_rfl) (by intros; kernel_rfl)))
  (ua_body H.ok (H.ecls _) H.eget H.keepE (H.blt (by kernel_rfl) (by decide) (by decide +kernel)) H.make2 (IA 40).1 (IA 40).2 ua_at (by lia)) fun ds hd => one_arg (n := "unpack_all") (x := "octets") (fun d => by kernel_rfl) rfl (fun d d' r => by cases d <;> rfl) hd⟩, rfl⟩
end
noncomputable def Tab.hear (T : Tab) : Tab := ⟨T.fn, T.con, true⟩
noncomputable def F2 (T : Tab) (n : String) : List D → Tr D := runF T (fn n).1.args [] (fn n).2.2 (fn n).2.1
noncomputable def T_read : Tab := (Tc.add "bytes" bytesF).add "unpack_all" F_ua
@[irreducible] noncomputable def F_read : List D → Tr D := F2 T_read.hear "_law_read"
noncomputable def T_slots : Tab := ((((Tc.add "bytes" bytesF).add "unpack" F_unpack).add "len" lenF).add "tuple" tupleF).add "_law_octets" F_law_octets
@[irreducible] noncomputable def F_slots : List D → Tr D := F2 T_slots.hear "_law_slots_right"
noncomputable def T_cuts : Tab := (((Tc.add "tuple" tupleF).add "_law_read" F_read).add "len" lenF).add "isinstance" isListF
@[irreducible] noncomputable def F_cuts : List D → Tr D := F2 T_cuts "_law_cuts_right"
noncomputable def T_goals : Tab := ((((((Tc.add "_law_order" F_law_order).add "_law_octets" F_law_octets).add "is_wide" F_is_wide).add "len" lenF).add "slots_of" F_slots_of).add "distance" F_distance).add "_law_whole" F_law_whole
@[irreducible] noncomputable def F_goals : List D → Tr D := F2 T_goals "_law_goals_right"
noncomputable def T_ch : Tab := ((((((((((Tc.add "len" lenF).add "_law_octets" F_law_octets).add "_law_low" F_law_low).add "_law_whole" F_law_whole).add "bytes" bytesF).add "unpack" F_unpack).add "check_order" F_check_order).add "_law_order" F_law_order).add "tuple" tupleF).add "list" listF).add "pack" F_pack
noncomputable def chBody : List Stmt := (bodyI 79).drop 5
@[irreducible] noncomputable def F_ch : List D → Tr D := changedF F_law_octets (chRest T_ch.hear (fn "_law_changed_right").2.2 chBody)
section
variable {P : Params}
theorem k_heard {T : Tab} (hT : T.heard = false) : DefK P T "_law_heard" 373 .none mL 372 [] := ⟨by kernel_rfl, by kernel_rfl, by kernel_rfl, by kernel_rfl, by kernel_rfl, by kernel_rfl, by decide +kernel, by decide +kernel, fun h => by rw [hT] at h; exact no_ft h⟩
theorem k_read : DefK P T_read.hear "_law_read" 378 .none mL 377 [] := ⟨by kernel_rfl, by kernel_rfl, by kernel_rfl, by kernel_rfl, by kernel_rfl, by kernel_rfl, by decide +kernel, by decide +kernel, fun h => ⟨375, by decide +kernel, by decide +kernel⟩⟩
theorem k_slots : DefK P T_slots.hear "_law_slots_right" 385 .none mL 384 [] := ⟨by kernel_rfl, by kernel_rfl, by kernel_rfl, by kernel_rfl, by kernel_rfl, by kernel_rfl, by decide +kernel, by decide +kernel, fun h => ⟨380, by decide +kernel, by decide +kernel⟩⟩
theorem k_cuts : DefK P T_cuts "_law_cuts_right" 390 .none mL 389 [] := ⟨by kernel_rfl, by kernel_rfl, by kernel_rfl, by kernel_rfl, by kernel_rfl, by kernel_rfl, by decide +kernel, by decide +kernel, fun h => nomatch h⟩
theorem k_goals : DefK P T_goals "_law_goals_right" 397 .none mL 396 [] := ⟨by kernel_rfl, by kernel_rfl, by kernel_rfl, by kernel_rfl, by kernel_rfl, by kernel_rfl, by decide +kernel, by decide +kernel, fun h => nomatch h⟩
theorem k_ch : DefK P T_ch.hear "_law_changed_right" 404 .none mL 403 [] := ⟨by kernel_rfl, by kernel_rfl, by kernel_rfl, by kernel_rfl, by kernel_rfl, by kernel_rfl, by decide +kernel, by decide +kernel, fun h => ⟨399, by decide +kernel, by decide +kernel⟩⟩
end
section
variable {w : World} {s : Shared} {mb : Str → Option Value} {S : Sta} {T : Tab} {k : Nat}
theorem Here.heard (H : Here w s mb) (T : Tab) : HeardAt (SL w s mb) T.low 373 (zD "_law_heard" "_law_heard" .none mL 372) (fn "_law_heard").1.args (fn "_law_heard").2.2 (fn "_law_heard").2.1 where
 df := (k_heard rfl).at_ H (bind1 (by kernel_rfl) (by intros; kernel_rfl))
 ps := by
  rw [show (fn "_law_heard").1.args = argsI 74 by kernel_rfl]
  exact ⟨_, _, rfl⟩
 body := by
  rw [show (fn "_law_heard").2.1 = bodyI 74 by kernel_rfl]
  exact ⟨_, _, _, _, _, _, _, _, _, _, _, _, _, _, rfl⟩
 cells := by kernel_rfl
 ask := by kernel_rfl
 err := by kernel_rfl
 cls := by kernel_rfl
theorem hear_sound (H : Here w s mb) (TO : TabOk pg w (SL w s mb) T (k + 1)) (hT : T.heard = false) : TabOk pg w (SL w s mb) T.hear (k + 3) ∧ ∀ n, SoundE pg w (SL w s mb) T.hear (k + 3) n ∧ SoundT pg w (SL w s mb) T.hear (k + 3) n := by
 have IA0 := sound_all H.ok H.cls TO (eq_ord H.ok H.oeq) fun n J sc p lp pos sc' body m env A stk K s Q E hh => by rw [hT] at hh; exact no_ft hh
 have e : T.hear.low = T := by
  obtain ⟨f, c, h⟩ := T
  cases hT
  rfl
 have TO' : TabOk pg w (SL w s mb) T.hear (k + 3) := let q := TO.up (k' := k + 3) (by lia); ⟨q.con, q.fn, q.told⟩
 exact ⟨TO', sound_all H.ok H.cls TO' (eq_ord H.ok H.oeq) fun n J => heard_sound H.ok H.lam (H.ecls _) H.eget (H.heard T.hear) (glob_own (by kernel_rfl)) (e.symm ▸ (IA0 n).1)⟩
theorem hear_stmts (H : Here w s mb) (IA : ∀ n, SoundE pg w (SL w s mb) T (k + 1) n ∧ SoundT pg w (SL w s mb) T (k + 1) n) : SoundX pg w (SL w s mb) T (k + 1) 40 40 :=
 soundX_all (kk := 39) H.ok H.cls (raise_sound H.ok (H.ecls _) (make_err H.ok H.emake H.einit H.ebind) (glob_own (by kernel_rfl)) H.keepE (IA _).1) IA 40
theorem lam_has {n : String} {a : Addr} {dV pm : Value} {c : Nat} (H : Here w s mb) (TO : TabOk pg w (SL w s mb) T (k + 1)) (hT : T.heard = false) (D : DefK w.params T.hear n a dV pm c []) (B : BindOk (SL w s mb) (zD n n dV pm c) (fn n).1.args []) (hn : ((n : Str) == ("__debug__" : Str)) = false) :
  Has w (SL w s mb) (k + 4) n (F2 T.hear n) :=
 ⟨⟨_, glob_own D.glob, keep_def (H.obj D.look) rfl, fn_spec H.ok (D.at_ H B) (hear_stmts H (hear_sound H TO hT).2)⟩, hn⟩
theorem h_read (H : Here w s mb) : Has w (SL w s mb) (k + 13) "_law_read" F_read := by
 unfold F_read
 exact lam_has (k := k + 9) H (((H.base (k + 9)).addH ((h_bytes H (k := k)).up (by first | exact lu rfl | exact lu1 rfl))).addH ((h_ua H (k := k)).up (by first | exact lu rfl | exact lu1 rfl))) rfl k_read (bind1 (by kernel_rfl) (by intros; kernel_rfl)) rfl
theorem h_slots (H : Here w s mb) : Has w (SL w s mb) (k + 13) "_law_slots_right" F_slots := by
 unfold F_slots
 exact lam_has (k := k + 9) H ((((((H.base (k + 9)).addH ((h_bytes H (k := k)).up (by first | exact lu rfl | exact lu1 rfl))).addH ((h_unpack H (k := k)).up (by first | exact lu rfl | exact lu1 rfl))).addH ((h_len H (k := k)).up (by first | exact lu rfl | exact lu1 rfl))).addH ((h_tuple H (k := k)).up (by first | exact lu rfl | exact lu1 rfl))).addH ((h_law_octets H (k := k)).up (by first | exact lu rfl | exact lu1 rfl))) rfl k_slots (bind3 (by kernel_rfl) (by intros; kernel_rfl)) rfl
theorem h_cuts (H : Here w s mb) : Has w (SL w s mb) (k + 15) "_law_cuts_right" F_cuts := by
 unfold F_cuts
 exact def_has (k := k + 13) H (((((H.base (k + 13)).addH ((h_tuple H (k := k)).up (by first | exact lu rfl | exact lu1 rfl))).addH ((h_read H (k := k)).up (by first | exact lu rfl | exact lu1 rfl))).addH ((h_len H (k := k)).up (by first | exact lu rfl | exact lu1 rfl))).addH ((h_isinstance H (k := k)).up (by first | exact lu rfl | exact lu1 rfl))) rfl k_cuts (bind3 (by kernel_rfl) (by intros; kernel_rfl)) rfl
theorem h_goals (H : Here w s mb) : Has w (SL w s mb) (k + 15) "_law_goals_right" F_goals := by
 unfold F_goals
 exact def_has (k := k + 13) H ((((((((H.base (k + 13)).addH ((h_law_order H (k := k)).up (by first | exact lu rfl | exact lu1 rfl))).addH ((h_law_octets H (k := k)).up (by first | exact lu rfl | exact lu1 rfl))).addH ((h_is_wide H (k := k)).up (by first | exact lu rfl | exact lu1 rfl))).addH ((h_len H (k := k)).up (by first | exact lu rfl | exact lu1 rfl))).addH ((h_slots_of H (k := k)).up (by first | exact lu rfl | exact lu1 rfl))).addH ((h_distance H (k := k)).up (by first | exact lu rfl | exact lu1 rfl))).addH ((h_law_whole H (k := k)).up (by first | exact lu rfl | exact lu1 rfl))) rfl k_goals (bind2 (by kernel_rfl) (by intros; kernel_rfl)) rfl
end
theorem sat_if {α : Type} {P : α → Prop} {E : Str → D → Prop} {b : Bool} {x y : Tr α} (hb : b = true) (h : x.sat P E) : (Tr.br b x y).sat P E := And.intro (fun J => h) fun q => Bool.noConfusion (hb.symm.trans q)
theorem sat_no {α : Type} {P : α → Prop} {E : Str → D → Prop} {b : Bool} {x y : Tr α} (hb : b = false) (h : y.sat P E) : (Tr.br b x y).sat P E := And.intro (fun q => Bool.noConfusion (hb.symm.trans q)) fun J => h
theorem ch_at : ChAt T_ch.hear (fn "_law_changed_right").1.args (fn "_law_changed_right").2.2 (fn "_law_changed_right").2.1 chBody where
 ps := by
  rw [show (fn "_law_changed_right").1.args = argsI 79 by kernel_rfl]
  exact ⟨_, _, _, _, rfl⟩
 loc := by decide +kernel
 cel := by kernel_rfl
 glob := by kernel_rfl
 body := by
  rw [show (fn "_law_changed_right").2.1 = bodyI 79 by kernel_rfl]
  refine ⟨fun i => ([_, _, _, _, _, _, _, _, _, _, _, _, _, _, _, _, _, _, _, _, _, _, _, _] : List Pos).getD i ⟨0, 0, 0, 0⟩, fun i => ([_, _, _] : List Nat).getD i 0, _, _, _, rfl, rfl, rfl, rfl, rfl, rfl, rfl, fun rows left P E hc hn h => ?_, fun rows left at_ P E hc h0 h1 h => ?_, fun rows os left at_ P E hc hn h => ?_, fun rows left at_ spot v P E h => ?_⟩
  ·refine Eq.mp (congrArg (fun t => Tr.sat P E t) (Eq.symm (?_ : _ = Tr.br (decide (rows.length ≤ cap)) (.br ((rows.length : Int) != 0) (.br (decide (rows.length ≤ cap)) (.br ((rows.length : Int) != 0 && smallI rows.length) (.br (decide (2 ≤ cap)) (.ok (.tup [.int (left.fmod rows.length), .int (left.fdiv rows.length)])) .bad) .bad) .bad) .bad) .bad))) ?_
   ·kernel_rfl
   ·refine sat_if (decide_eq_true hc) (sat_if (by simpa using hn) (sat_if (decide_eq_true hc) (sat_if ?_ (sat_if (by decide) h))))
    unfold smallI
    unfold cap at hc
    rw [Bool.and_eq_true]
    exact ⟨by simpa using hn, decide_eq_true (by rw [Int.natAbs_natCast]; lia)⟩
  ·refine Eq.mp (congrArg (fun t => Tr.sat P E t) (Eq.symm (?_ : _ = Tr.br (decide (0 ≤ at_) && decide (at_ < rows.length) && decide (rows.length ≤ cap)) (.ok (rows.getD at_.toNat .none)) .bad))) ?_
   ·kernel_rfl
   ·exact sat_if (by rw [decide_eq_true h0, decide_eq_true h1, decide_eq_true hc]; rfl) h
  ·refine Eq.mp (congrArg (fun t => Tr.sat P E t) (Eq.symm (?_ : _ = Tr.br (decide (os.length ≤ cap)) (.br ((os.length : Int) != 0) (.br (decide (os.length ≤ cap)) (.br ((os.length : Int) != 0 && smallI os.length) (.br (decide (2 ≤ cap)) (.ok (.tup [.int (left.fmod os.length), .int (left.fdiv os.length)])) .bad) .bad) .bad) .bad) .bad))) ?_
   ·kernel_rfl
   ·refine sat_if (decide_eq_true hc) (sat_if (by simpa using hn) (sat_if (decide_eq_true hc) (sat_if ?_ (sat_if (by decide) h))))
    unfold smallI
    unfold cap at hc
    rw [Bool.and_eq_true]
    exact ⟨by simpa using hn, decide_eq_true (by rw [Int.natAbs_natCast]; lia)⟩
  ·refine Eq.mp (congrArg (fun t => Tr.sat P E t) (Eq.symm (?_ : _ = Tr.br ((6 : Int) != 0 && smallI 6) (.br ((256 : Int) != 0) (.br (decide (6 ≤ cap)) (.br ((6 : Int) != 0) (.br (decide (0 ≤ left.fmod 6) && decide (left.fmod 6 < (6 : Nat)) && decide (6 ≤ cap) && true) (.br ((6 : Int) != 0 && smallI 6) (.br (decide (2 ≤ cap)) (.ok (.tup [.int (moreOf left), .int (left.fdiv 6)])) .bad) .bad) .bad) .bad) .bad) .bad) .bad))) ?_
   ·kernel_rfl
   ·have h0 := Int.fmod_nonneg_of_pos left (show (0 : Int) < 6 by decide)
    have h1 := Int.fmod_lt_of_pos left (show (0 : Int) < 6 by decide)
    exact sat_if (by decide) (sat_if (by decide) (sat_if (by decide) (sat_if (by decide) (sat_if (by rw [decide_eq_true h0, decide_eq_true (show left.fmod 6 < ((6 : Nat) : Int) from h1)]; rfl) (sat_if (by decide) (sat_if (by decide) h))))))
theorem h_ch_bind {ds : List D} (h : bindD (fn "_law_changed_right").1.args ds [] = none) : F_ch ds = .bad := by
 unfold F_ch
 match ds with
 | [] => rfl
 | [d] => cases d <;> rfl
 | [d, d'] =>
  have e : bindD (fn "_law_changed_right").1.args [d, d'] [] = some ([("rows", d), ("left", d')] : Loc) := by kernel_rfl
  rw [e] at h; exact no_sn h
 | d :: d' :: d'' :: r => cases d <;> cases d' <;> rfl
noncomputable def T_pa : Tab := Tc.add "pack" F_pack
theorem k_pa {P : Params} : DefK P T_pa "pack_all" 328 .none mC 327 [] := ⟨by kernel_rfl, by kernel_rfl, by kernel_rfl, by kernel_rfl, by kernel_rfl, by kernel_rfl, by decide +kernel, by decide +kernel, fun h => nomatch h⟩
theorem pa_at : PaAt T_pa F_pack (fn "pack_all").1.args (fn "pack_all").2.2 (fn "pack_all").2.1 where
 ps := by
  rw [show (fn "pack_all").1.args = argsI 66 by kernel_rfl]
  exact ⟨_, _, rfl⟩
 cells := by kernel_rfl
 loc := by decide +kernel
 glob := by decide +kernel
 body := by
  rw [show (fn "pack_all").2.1 = bodyI 66 by kernel_rfl]
  refine ⟨fun i => ([_, _, _, _, _, _, _, _, _, _, _, _, _, _, _] : List Pos).getD i ⟨0, 0, 0, 0⟩, _, rfl, rfl, rfl, fun l v o => by kernel_rfl⟩
section
variable {w : World} {s : Shared} {mb : Str → Option Value} {S : Sta} {T : Tab} {k : Nat}
theorem tab_ch (H : Here w s mb) : TabOk pg w (SL w s mb) T_ch (k + 9) :=
 (((((((((((H.base (k + 8)).addH ((h_len H (k := k)).up (by first | exact lu rfl | exact lu1 rfl))).addH ((h_law_octets H (k := k)).up (by first | exact lu rfl | exact lu1 rfl))).addH ((h_law_low H (k := k)).up (by first | exact lu rfl | exact lu1 rfl))).addH ((h_law_whole H (k := k)).up (by first | exact lu rfl | exact lu1 rfl))).addH ((h_bytes H (k := k)).up (by first | exact lu rfl | exact lu1 rfl))).addH ((h_unpack H (k := k)).up (by first | exact lu rfl | exact lu1 rfl))).addH ((h_check_order H (k := k)).up (by first | exact lu rfl | exact lu1 rfl))).addH ((h_law_order H (k := k)).up (by first | exact lu rfl | exact lu1 rfl))).addH ((h_tuple H (k := k)).up (by first | exact lu rfl | exact lu1 rfl))).addH ((h_list H (k := k)).up (by first | exact lu rfl | exact lu1 rfl))).addH ((h_pack H (k := k)).up (by first | exact lu rfl | exact lu1 rfl))
theorem h_ch (H : Here w s mb) : Has w (SL w s mb) (k + 12) "_law_changed_right" F_ch := by
 obtain ⟨TO, IA⟩ := hear_sound H (tab_ch H (k := k)) rfl
 have hb := fun (ds : List D) hd => h_ch_bind (ds := ds) hd
 unfold F_ch at hb ⊢
 exact ⟨⟨_, glob_own (k_ch (P := w.params)).glob, keep_def (H.obj (k_ch (P := w.params)).look) rfl, fn_hand H.ok ((k_ch (P := w.params)).at_ H (bind2 (by kernel_rfl) (by intros; kernel_rfl))) (ch_body H.ok TO rfl (IA 40).1 (hear_stmts H IA) ch_at) hb⟩, rfl⟩
theorem pa_spec (H : Here w s mb) : FnSpecN pg w (SL w s mb) (k + 9) (.ref 328) (packAllF F_pack) := by
 have TO : TabOk pg w (SL w s mb) T_pa (k + 8) := (H.base (k + 7)).addH ((h_pack H (k := k)).up (by first | exact lu rfl | exact lu1 rfl))
 have IA := sound_all H.ok H.cls TO (eq_ord H.ok H.oeq) fun n J sc p lp pos sc' body m env A stk K s Q E hh => by exact no_ft hh
 exact fnN_hand H.ok (k_pa.at_ H (bind1 (by kernel_rfl) (by intros; kernel_rfl))) (pa_body H.ok (H.blt (by kernel_rfl) (by decide) (by decide +kernel)) (H.blt (by kernel_rfl) (by decide) (by decide +kernel)) (IA 40).1 pa_at)
  fun ds hd => one_arg (n := "pack_all") (x := "orders") (fun d => by kernel_rfl) rfl (fun d d' r => by cases d <;> rfl) hd
end
noncomputable def e0 : PySem.Expr := .Name ("" : Str) ⟨0, 0, 0, 0⟩
noncomputable def lawComp : PySem.Expr := match bodyI 80 with
 | .Assign _ v _ :: _ => v
 | _ => e0
noncomputable def lawT1 : PySem.Expr := match (bodyI 80).drop 3 with
 | .If (.BoolOp _ (t :: _) _) _ _ _ :: _ => t
 | _ => e0
noncomputable def lawLc : PySem.Expr := match (bodyI 80).drop 3 with
 | .If (.BoolOp _ [_, .Compare (.Call _ [.Call _ [lc] _ _] _ _) _ _ _] _) _ _ _ :: _ => lc
 | _ => e0
noncomputable def lawRest : List Stmt := (bodyI 80).drop 4
noncomputable def T_law : Tab := ((((((((((Tc.add "len" lenF).add "_law_octets" F_law_octets).add "_law_read" F_read).add "tuple" tupleF).add "_law_order" F_law_order).add "_law_slots_right" F_slots).add "_law_cuts_right" F_cuts).add "_law_goals_right" F_goals).add "sum" sumLF).add "_law_changed_right" F_ch).add "_law_fields" F_law_fields
noncomputable def F_law : List D → Tr D := lawF T_law (fn "law").2.2 lawComp lawT1 lawLc lawRest F_law_octets F_pack
theorem k_law {P : Params} : DefK P T_law "law" 409 .none mL 408 [] := ⟨by kernel_rfl, by kernel_rfl, by kernel_rfl, by kernel_rfl, by kernel_rfl, by kernel_rfl, by decide +kernel, by decide +kernel, fun h => nomatch h⟩
theorem law_at : LawAt T_law F_law_octets (fn "law").1.args (fn "law").2.2 (fn "law").2.1 lawComp lawT1 lawLc lawRest where
 ps := by
  rw [show (fn "law").1.args = argsI 80 by kernel_rfl]
  exact ⟨_, _, rfl⟩
 loc := by decide +kernel
 glob := by decide +kernel
 body := by
  rw [show (fn "law").2.1 = bodyI 80 by kernel_rfl]
  refine ⟨fun i => ([_, _, _, _, _, _, _, _, _, _, _, _, _, _, _, _, _, _, _, _, _, _, _, _, _, _] : List Pos).getD i ⟨0, 0, 0, 0⟩, fun i => ([_, _, _] : List Nat).getD i 0, _, _, rfl, rfl, rfl, rfl, rfl, fun l rows octs v f P E hc h => ?_, fun l rows octs v f P E h => ?_⟩
  ·refine Eq.mp (congrArg (fun t => Tr.sat P E t) (Eq.symm (?_ : _ = Tr.br (decide (octs.length ≤ cap)) (.br ((8 : Int) != 0 && smallI 8) (.ok (.int ((octs.length : Int).fdiv 8))) .bad) .bad))) ?_
   ·kernel_rfl
   ·exact sat_if (decide_eq_true hc) (sat_if (by decide) h)
  ·refine Eq.mp (congrArg (fun t => Tr.sat P E t) (Eq.symm (?_ : _ = ((F_law_octets [f]).bind fun b => bop e0 .Add (.list octs) b).bind fun d => .ok (.next [("script", .list l), ("rows", .list rows), ("octs", d), ("begins", .raw v), ("fields", f)])))) ?_
   ·kernel_rfl
   ·refine (Tr.sat_bind _ _).mpr ((Tr.sat_bind _ _).mpr (Tr.sat_mono (fun x hx => ?_) (fun J J q => q) _ h))
    obtain ⟨os, rfl, hz, hp⟩ := hx
    exact sat_if (decide_eq_true hz) hp
section
variable {w : World} {s : Shared} {mb : Str → Option Value} {S : Sta} {T : Tab} {k : Nat}
theorem law_spec (H : Here w s mb) : FnSpecN pg w (SL w s mb) (k + 17) (.ref 409) F_law := by
 have TO : TabOk pg w (SL w s mb) T_law (k + 16) :=
  (((((((((((H.base (k + 15)).addH ((h_len H (k := k)).up (by first | exact lu rfl | exact lu1 rfl))).addH ((h_law_octets H (k := k)).up (by first | exact lu rfl | exact lu1 rfl))).addH ((h_read H (k := k)).up (by first | exact lu rfl | exact lu1 rfl))).addH ((h_tuple H (k := k)).up (by first | exact lu rfl | exact lu1 rfl))).addH ((h_law_order H (k := k)).up (by first | exact lu rfl | exact lu1 rfl))).addH ((h_slots H (k := k)).up (by first | exact lu rfl | exact lu1 rfl))).addH ((h_cuts H (k := k)).up (by first | exact lu rfl | exact lu1 rfl))).addH ((h_goals H (k := k)).up (by first | exact lu rfl | exact lu1 rfl))).addH ((h_sum H (k := k)).up (by first | exact lu rfl | exact lu1 rfl))).addH ((h_ch H (k := k)).up (by first | exact lu rfl | exact lu1 rfl))).addH ((h_law_fields H (k := k)).up (by first | exact lu rfl | exact lu1 rfl))
 have IA := sound_all H.ok H.cls TO (eq_ord H.ok H.oeq) fun n J sc p lp pos sc' body m env A stk K s Q E hh => by exact no_ft hh
 refine fnN_hand H.ok (k_law.at_ H (bind1 (by kernel_rfl) (by intros; kernel_rfl))) (law_body H.ok (eq_ord H.ok H.oeq) (H.blt (by kernel_rfl) (by decide) (by decide +kernel)) ⟨.ref 328, glob_own (by kernel_rfl), keep_def (H.obj (k_pa (P := w.params)).look) rfl, fun A stk K s' vs ds Q ar => pa_spec H (k := k) A stk K s' vs ds Q (ar.down (by lia))⟩ (IA 40).1 (IA 40).2 (hear_stmts H IA) law_at)
  fun ds hd => one_arg (n := "law") (x := "script") (fun d => by kernel_rfl) rfl (fun d d' r => by cases d <;> rfl) hd
end
noncomputable def PlainLaw : Prop := ∀ xs : List Int, xs.length ≤ 63 → (F_law [.list (xs.map .int)]).sat (fun d => d = .bool true) (fun J J => False)
theorem law_call (law : PlainLaw) : LawCall := by
 intro w s mg mb l vs xs hK hT hg hb hboot hlim hbm hgens hl hvs hx
 have hmg : mg = (SL w s mb).mg := funext (glob_of hK hg)
 subst hmg
 have H : Here w s mb := ⟨hK, hT, hg, hb, hboot, hlim, hbm⟩
 have st : (SL w s mb).B.StaysIn s.heap := fun b o e => of_hideAll _ e
 have tabs : ∀ t ∈ tabs3, (t.1, t.2.1) ∈ tabsL := by decide +kernel
 have tabs' : ∀ b ∈ (SL w s mb).tabAt, ∃ c, (c, b) ∈ tabsL := fun b hb => by
  obtain ⟨t, ht, rfl⟩ := List.mem_map.mp hb
  exact ⟨_, tabs t ht⟩
 have nl : l ∉ (SL w s mb).tabAt := fun q => by
  obtain ⟨c, hc⟩ := tabs' l q
  have e := (hT _ hc).2
  rw [hl] at e
  cases e
 have TS : St (SL w s mb) [] (fun a => if a = l then some { cls := .type "list", data := .seq vs.toArray } else none) s := by
  refine ⟨(fun J h => nomatch h), st, fun a o e => ?_, fun t ht => ⟨#[], (hT _ (tabs t ht)).2, trivial, (fun pos cv q => nomatch q)⟩, hgens, rfl⟩
  by_cases q : a = l
  ·rw [if_pos q] at e
   obtain rfl := Option.some.inj e
   rw [q]
   exact ⟨hl, (fun h => nomatch h), nl⟩
  ·rw [if_neg q] at e
   exact no_ns e
 refine law_spec (k := 0) H callerA [] _ s [.ref l] [.list (xs.map .int)] _ ⟨rfl, rfl, by decide, by decide⟩ rfl TS (.cons (.list (n := 0) (if_pos rfl) (hvs _ _)) .nil) (Tr.sat_mono (fun d hd => ?_) (fun J J q => q) _ (law xs hx))
 intro v K' s' T' x' k' r
 subst hd
 cases r
 refine ⟨rfl, ⟨fun b o e => ?_, fun b o e => let ⟨o', e', _⟩ := x' b o e; ⟨o', e'⟩⟩, T'.os, T'.gens⟩
 by_cases q : b ∈ (SL w s mb).tabAt
 ·obtain ⟨t, ht, rfl⟩ := List.mem_map.mp q
  obtain ⟨ps, e1, _⟩ := T'.tab t ht
  have e2 := (hT _ (tabs t ht)).2
  rw [e] at e2
  obtain rfl := Option.some.inj e2
  exact .inr (.inl ⟨((hT _ (tabs t ht)).1.tab (hT _ (tabs t ht)).2).isCodeTable, rfl, #[], ps, rfl, by rw [Array.empty_append]; exact e1⟩)
 ·exact .inl (x'.get e ⟨(fun h => nomatch h), q⟩ id)
theorem law_holds (left : LeftO lawRow.prog qv looseL (fun J => true) hk.obs hk.val 5060) (law : PlainLaw) : PySem.Challenge.rw_pq0997_01.Holds := holds_of left (law_call law)
noncomputable def nd (b : Bool) (w : String) (x : Tr D) : Tr D := .br (!b) (.exc w .none) x
noncomputable def kind (c : Int) : Int := Builtin.bitAnd c 7
noncomputable def reg (c : Int) : Bool := !(Builtin.bitAnd c 8 == 0)
noncomputable def alu (c : Int) : Bool := kind c == 4 || kind c == 7
noncomputable def jmp (c : Int) : Bool := kind c == 5 || kind c == 6
noncomputable def k46 (c : Int) : Bool := kind c == 4 || kind c == 6
noncomputable def isj (c : Int) : Bool := jmp c && (Builtin.bitAnd c 240 == 0)
noncomputable def isb (c : Int) : Bool := jmp c && (!isj c && (!(c == 133) && !(c == 149)))
noncomputable def fm0 : String := "field must be 0"
noncomputable def nso : String := "no such operation"
noncomputable def onStr (k : Str → Tr D) : D → Tr D
 | .str s => k s
 | _ => .bad
noncomputable def onBool (k : Bool → Tr D) : D → Tr D
 | .bool b => k b
 | _ => .bad
section
variable (c d s o i m : Int)
theorem m_need (b : Bool) (w : Str) : F_need [.bool b, .str w] = .br (!b) (.exc w .none) (.ok .none) := by kernel_rfl
theorem m_fields : F_check_fields [.ord c d s o i m] = nd (decide (0 ≤ c) && decide (c ≤ 255)) "code out of range" (nd ((decide (0 ≤ d) && decide (d ≤ 10)) && (decide (0 ≤ s) && decide (s ≤ 10))) "no such register"
  ((F_fits_signed [.int o, .int 16]).bind (onBool fun b => nd b "off out of range" ((F_fits_signed [.int i, .int 32]).bind (onBool fun b => let R := fun b => nd b "number out of range" (nd (m == 0 || c == 24) "a second half without a wide load" (.ok .none))
   .br b ((F_fits_signed [.int m, .int 32]).bind (onBool R)) (R b)))))) := by kernel_rfl
theorem m_end : F_check_end [.ord c d s o i m] = nd (s == 0 && o == 0) fm0 (nd (i == 16 || (i == 32 || i == 64)) "no such size to swap" (nd (!(kind c == 7) || !reg c) "no such way to swap" (.ok .none))) := by kernel_rfl
theorem m_ext : F_check_extension [.ord c d s o i m] = (let R := fun b => nd b "no such size to extend" (.ok .none)
  let small := o == 0 || (o == 8 || o == 16)
  .br small (R small) (.br (o == 32) (.br (k46 c) (R false) (R true)) (R (o == 32)))) := by kernel_rfl
theorem m_num (name : Str) : F_check_number [.ord c d s o i m, .str name] = (let R : Tr D := .br (name == "div" || name == "mod") (nd (!(i == 0)) "division by zero" (.ok .none)) (.ok .none)
  let N := fun b => nd b "shift out of range" R
  .br (name == "lsh" || (name == "rsh" || name == "arsh")) (.br (decide (0 ≤ i)) (.br (k46 c) (N (decide (i < 32))) (N (decide (i < 64)))) (N false)) R) := by kernel_rfl
theorem m_jump : F_check_jump [.ord c d s o i m] = nd (!reg c) nso (nd (d == 0 && s == 0) fm0 (.br (c == 6) (nd (o == 0) fm0 (.ok .none)) (nd (i == 0) fm0 (.ok .none)))) := by kernel_rfl
end
noncomputable def ok0 : Tr D := .ok .none
noncomputable def W24 (c : Int) (k : Int → Tr D) : Tr D := .br (Builtin.bitAnd c 24 == 0) (k 4) (.br (Builtin.bitAnd c 24 == 8) (k 2) (.br (Builtin.bitAnd c 24 == 16) (k 1) (k 8)))
noncomputable def nsm : String := "no such mode"
noncomputable def nsw : String := "no such width"
section
variable (c d s o i m : Int)
theorem m_alu : F_check_alu [.ord c d s o i m] = (F_operation [.ord c d s o i m]).bind (onStr fun name =>
  let R2 : Tr D := .br (name == "div" || name == "mod") (nd (o == 0 || o == 1) "no such division" ok0) (.br (name == "mov" && reg c) ((F_check_extension [.ord c d s o i m]).bind fun J => ok0) (nd (o == 0) fm0 ok0))
  nd (!(name == "")) nso (.br (name == "end") ((F_check_end [.ord c d s o i m]).bind fun J => ok0) (.br (name == "neg") (nd (!reg c) nso (nd (s == 0 && (o == 0 && i == 0)) fm0 ok0))
   (.br (reg c) (nd (i == 0) fm0 R2) (nd (s == 0) fm0 ((F_check_number [.ord c d s o i m, .str name]).bind fun J => R2)))))) := by kernel_rfl
theorem m_jumping : F_check_jumping [.ord c d s o i m] = (F_operation [.ord c d s o i m]).bind (onStr fun name =>
  nd (!(name == "")) nso (.br (isj c) ((F_check_jump [.ord c d s o i m]).bind fun J => ok0) (.br (name == "call") (nd (c == 133) nso (nd (d == 0 && o == 0) fm0 (nd (s == 0 || s == 1) "no such call" ok0)))
   (.br (name == "exit") (nd (c == 149) nso (nd (d == 0 && (s == 0 && (o == 0 && i == 0))) fm0 ok0)) (.br (reg c) (nd (isb c && i == 0) fm0 ok0) (nd (isb c && s == 0) fm0 ok0)))))) := by kernel_rfl
theorem m_load : F_check_load [.ord c d s o i m] = (F_mode_of [.ord c d s o i m]).bind (onStr fun mode =>
  let R : Tr D := nd (i == 0) fm0 ok0
  nd (mode == "mem" || mode == "memsx") nsm (.br (mode == "mem") (nd (mode == "mem") nsw R) (W24 c fun z => nd (!(z == 8)) nsw R))) := by kernel_rfl
theorem m_stx : F_check_stx [.ord c d s o i m] = (F_mode_of [.ord c d s o i m]).bind (onStr fun mode =>
  let R : Tr D := (F_atomic_name [.ord c d s o i m]).bind (onStr fun n => nd (!(n == "")) "no such deed" ok0)
  nd (mode == "mem" || mode == "atomic") nsm (.br (mode == "mem") (nd (i == 0) fm0 ok0) (W24 c fun z => .br (z == 4) (nd (z == 4) nsw R) (W24 c fun z => nd (z == 8) nsw R)))) := by kernel_rfl
theorem m_order : F_check_order [.ord c d s o i m] = (F_check_fields [.ord c d s o i m]).bind fun J =>
  let R : Tr D := .ok (.ord c d s o i m)
  .br (alu c) ((F_check_alu [.ord c d s o i m]).bind fun J => R) (.br (jmp c) ((F_check_jumping [.ord c d s o i m]).bind fun J => R) (.br (kind c == 0) (nd (c == 24) nsm (nd (s == 0 || s == 1) "no such wide load" (nd (s == 0 || m == 0) fm0 (nd (o == 0) fm0 R))))
   (.br (kind c == 1) ((F_check_load [.ord c d s o i m]).bind fun J => R) (.br (kind c == 2) ((F_mode_of [.ord c d s o i m]).bind (onStr fun mode => nd (mode == "mem") nsm (nd (s == 0) fm0 R)))
    (.br (kind c == 3) ((F_check_stx [.ord c d s o i m]).bind fun J => R) R))))) := by kernel_rfl
noncomputable def A1 (i : Int) (n : String) : Tr D := .br ((n : Str) == "") (.ok (.str "")) (.br (!(Builtin.bitAnd i 1 == 0)) (.br (decide (("fetch_" : Str).length + (n : Str).length ≤ cap)) (.ok (.str (("fetch_" : Str) ++ n))) .bad) (.ok (.str n)))
theorem m_atomic : F_atomic_name [.ord c d s o i m] = (let pl := Builtin.bitAnd i (Builtin.bitNot 1)
  .br (i == 225) (.ok (.str "xchg")) (.br (i == 241) (.ok (.str "cmpxchg")) (.br (pl == 0) (A1 i "add") (.br (pl == 64) (A1 i "or") (.br (pl == 80) (A1 i "and") (.br (pl == 160) (A1 i "xor") (A1 i ""))))))) := by kernel_rfl
theorem m_mode : F_mode_of [.ord c d s o i m] = (let b := Builtin.bitAnd c 224
  .br (b == 96) (.ok (.str "mem")) (.br (b == 192) (.ok (.str "atomic")) (.br (b == 128) (.ok (.str "memsx")) (.br (b == 0) (.ok (.str "imm")) (.br (b == 32) (.ok (.str "abs")) (.br (b == 64) (.ok (.str "ind")) (.ok (.str "")))))))) := by kernel_rfl
theorem m_fits16 : F_fits_signed [.int o, .int 16] = .br true (.br (decide (-32768 ≤ o)) (.br true (.ok (.bool (decide (o < 32768)))) .bad) (.ok (.bool false))) .bad := by kernel_rfl
theorem m_fits32 : F_fits_signed [.int o, .int 32] = .br true (.br (decide (-2147483648 ≤ o)) (.br true (.ok (.bool (decide (o < 2147483648)))) .bad) (.ok (.bool false))) .bad := by kernel_rfl
noncomputable def cutT (x : Str) (at_ : Int) : Tr D := .br true (.br true (.br true (.br (decide ((Txt.slice x (some (4 * at_)) (some (4 * at_ + 4))).length ≤ cap)) (.ok (.str (Txt.strip (Txt.slice x (some (4 * at_)) (some (4 * at_ + 4)))))) .bad) .bad) .bad) .bad
noncomputable def opT (c : Int) : Tr D := let at_ := c.fdiv 16
 .br true (.br (decide (14 ≤ at_)) (.ok (.str "")) (.br (alu c) (cutT "add sub mul div or  and lsh rsh neg mod xor mov arshend " at_) (.br (jmp c) (cutT "ja  eq  gt  ge  set ne  sgt sge callexitlt  le  slt sle " at_) (.ok (.str ""))))) .bad
theorem m_op : F_operation [.ord c d s o i m] = opT c := by kernel_rfl
end
noncomputable def Tr.run {α : Type} : Tr α → Option α
 | .ok a => some a
 | .exc _ _ => none
 | .bad => none
 | .br b x y => match b with
  | true => x.run
  | false => y.run
section
variable {α β : Type} {P : α → Prop} {E : Str → D → Prop}
theorem run_sat {a : α} : ∀ {t : Tr α}, t.run = some a → P a → t.sat P E
 | .ok b, h, p => by obtain rfl := Option.some.inj h; exact p
 | .exc _ _, h, _ => by exact no_ns h
 | .bad, h, _ => by exact no_ns h
 | .br true x y, h, p => ⟨fun J => run_sat (t := x) h p, fun q => by exact no_tf q⟩
 | .br false x y, h, p => ⟨(fun q => by exact no_ft q), fun J => run_sat (t := y) h p⟩
theorem sat_tt {x y : Tr α} (h : x.sat P E) : (Tr.br true x y).sat P E := ⟨fun J => h, fun q => by exact no_tf q⟩
theorem sat_ff {x y : Tr α} (h : y.sat P E) : (Tr.br false x y).sat P E := ⟨(fun q => by exact no_ft q), fun J => h⟩
theorem sat_bd {t : Tr β} {f : β → Tr α} (h : t.sat (fun a => (f a).sat P E) E) : (t.bind f).sat P E := (Tr.sat_bind f t).mpr h
theorem sat_br {b : Bool} {x y : Tr α} (h : b = true → x.sat P E) (h' : b = false → y.sat P E) : (Tr.br b x y).sat P E := ⟨h, h'⟩
theorem sat_on {b : Bool} {x y : Tr α} (hb : b = true) (h : x.sat P E) : (Tr.br b x y).sat P E := by subst hb; exact sat_tt h
theorem sat_off {b : Bool} {x y : Tr α} (hb : b = false) (h : y.sat P E) : (Tr.br b x y).sat P E := by subst hb; exact sat_ff h
end
section
variable {P : D → Prop} {E : Str → D → Prop} {c d s o i m : Int}
theorem sat_nd {b : Bool} {w : String} {x : Tr D} (h : b = true → x.sat P E) (h' : b = false → E w .none) : (nd b w x).sat P E := by
 induction b using Bool.casesOn with
 | true => exact sat_ff (h rfl)
 | false => exact sat_tt (h' rfl)
theorem sat_y {b : Bool} {w : String} {x : Tr D} (hb : b = true) (h : x.sat P E) : (nd b w x).sat P E := sat_nd (fun J => h) fun q => by rw [hb] at q; exact no_tf q
theorem sat_str {k : Str → Tr D} {x : Str} (h : (k x).sat P E) : (onStr k (.str x)).sat P E := h
theorem sat_bool {k : Bool → Tr D} {x : Bool} (h : (k x).sat P E) : (onBool k (.bool x)).sat P E := h
theorem sat_k {t : Tr D} {x : Tr D} (h : t.sat (fun J => x.sat P E) E) : (t.bind fun J => x).sat P E := sat_bd h
noncomputable def opn (c : Int) : Str := match (opT c).run with
 | some (.str s) => s
 | _ => ""
noncomputable def strB : Option D → Bool
 | some (.str _) => true
 | _ => false
theorem op_all : (List.range 256).all (fun n => strB (opT (n : Nat)).run) = true := by decide +kernel
theorem op_rule (h0 : 0 ≤ c) (h1 : c ≤ 255) (h : P (.str (opn c))) : (F_operation [.ord c d s o i m]).sat P E := by
 rw [m_op]
 have e := List.all_eq_true.mp op_all c.toNat (List.mem_range.mpr (by lia))
 rw [show ((c.toNat : Nat) : Int) = c by lia] at e
 unfold opn at h
 cases q : (opT c).run with
 | none => rw [q] at e; exact no_ft e
 | some x =>
  rw [q] at e h
  induction x using D.casesOn with
  | str s => exact run_sat q h
  | _ => exact no_ft e
noncomputable def fits (b w : Int) : Bool := decide (-b ≤ w) && decide (w < b)
theorem fits16 (h : P (.bool (fits 32768 o))) : (F_fits_signed [.int o, .int 16]).sat P E := by
 rw [m_fits16]
 refine sat_tt (sat_br (fun q => sat_tt ?_) fun q => ?_)
 ·unfold fits at h; rw [q, Bool.true_and] at h; exact h
 ·unfold fits at h; rw [q, Bool.false_and] at h; exact h
theorem fits32 (h : P (.bool (fits 2147483648 o))) : (F_fits_signed [.int o, .int 32]).sat P E := by
 rw [m_fits32]
 refine sat_tt (sat_br (fun q => sat_tt ?_) fun q => ?_)
 ·unfold fits at h; rw [q, Bool.true_and] at h; exact h
 ·unfold fits at h; rw [q, Bool.false_and] at h; exact h
noncomputable abbrev En : Str → D → Prop := fun J a => a = .none
theorem c_fields (h : 0 ≤ c → c ≤ 255 → P .none) : (F_check_fields [.ord c d s o i m]).sat P En := by
 rw [m_fields]
 refine sat_nd (fun q => sat_nd (fun J => sat_bd (fits16 (sat_nd (fun J => sat_bd (fits32 ?_)) fun J => rfl))) fun J => rfl) fun J => rfl
 simp only [Bool.and_eq_true, decide_eq_true_eq] at q
 have hp : P .none := h q.1 q.2
 have R : ∀ b, (nd b "number out of range" (nd (m == 0 || c == 24) "a second half without a wide load" (.ok .none))).sat P En := fun b => sat_nd (fun J => sat_nd (fun J => hp) fun J => rfl) fun J => rfl
 exact sat_br (fun J => sat_bd (fits32 (R _))) fun J => R _
theorem c_end (h : P .none) : (F_check_end [.ord c d s o i m]).sat P En := by
 rw [m_end]
 exact sat_nd (fun J => sat_nd (fun J => sat_nd (fun J => h) fun J => rfl) fun J => rfl) fun J => rfl
theorem c_ext (h : P .none) : (F_check_extension [.ord c d s o i m]).sat P En := by
 rw [m_ext]
 have R : ∀ b, (nd b "no such size to extend" (.ok .none)).sat P En := fun b => sat_nd (fun J => h) fun J => rfl
 exact sat_br (fun J => R _) fun J => sat_br (fun J => sat_br (fun J => R _) fun J => R _) fun J => R _
theorem c_num {name : Str} (h : P .none) : (F_check_number [.ord c d s o i m, .str name]).sat P En := by
 rw [m_num]
 have R : (Tr.br (name == "div" || name == "mod") (nd (!(i == 0)) "division by zero" (.ok .none)) (.ok .none)).sat P En := sat_br (fun J => sat_nd (fun J => h) fun J => rfl) fun J => h
 have N : ∀ b, (nd b "shift out of range" (.br (name == "div" || name == "mod") (nd (!(i == 0)) "division by zero" (.ok .none)) (.ok .none))).sat P En := fun b => sat_nd (fun J => R) fun J => rfl
 exact sat_br (fun J => sat_br (fun J => sat_br (fun J => N _) fun J => N _) fun J => N _) fun J => R
theorem c_alu (h0 : 0 ≤ c) (h1 : c ≤ 255) (h : P .none) : (F_check_alu [.ord c d s o i m]).sat P En := by
 rw [m_alu]
 refine sat_bd (op_rule h0 h1 (sat_str ?_))
 generalize opn c = name
 have h2 : ok0.sat P En := h
 have e1 : ((F_check_end [.ord c d s o i m]).bind fun J => ok0).sat P En := sat_k (c_end h2)
 have e2 : ((F_check_extension [.ord c d s o i m]).bind fun J => ok0).sat P En := sat_k (c_ext h2)
 have R2 : (Tr.br (name == "div" || name == "mod") (nd (o == 0 || o == 1) "no such division" ok0) (.br (name == "mov" && reg c) ((F_check_extension [.ord c d s o i m]).bind fun J => ok0) (nd (o == 0) fm0 ok0))).sat P En :=
  sat_br (fun J => sat_nd (fun J => h2) fun J => rfl) fun J => sat_br (fun J => e2) fun J => sat_nd (fun J => h2) fun J => rfl
 have e3 := sat_k (c_num (P := fun J => _) (name := name) (c := c) (d := d) (s := s) (o := o) (i := i) (m := m) R2)
 exact sat_nd (fun J => sat_br (fun J => e1) fun J => sat_br (fun J => sat_nd (fun J => sat_nd (fun J => h2) fun J => rfl) fun J => rfl) fun J => sat_br (fun J => sat_nd (fun J => R2) fun J => rfl) fun J => sat_nd (fun J => e3) fun J => rfl) fun J => rfl
theorem c_jump (h : P .none) : (F_check_jump [.ord c d s o i m]).sat P En := by
 rw [m_jump]
 exact sat_nd (fun J => sat_nd (fun J => sat_br (fun J => sat_nd (fun J => h) fun J => rfl) fun J => sat_nd (fun J => h) fun J => rfl) fun J => rfl) fun J => rfl
theorem c_jumping (h0 : 0 ≤ c) (h1 : c ≤ 255) (h : P .none) : (F_check_jumping [.ord c d s o i m]).sat P En := by
 rw [m_jumping]
 refine sat_bd (op_rule h0 h1 (sat_str ?_))
 generalize opn c = name
 have h2 : ok0.sat P En := h
 have e1 : ((F_check_jump [.ord c d s o i m]).bind fun J => ok0).sat P En := sat_k (c_jump h2)
 exact sat_nd (fun J => sat_br (fun J => e1) fun J => sat_br (fun J => sat_nd (fun J => sat_nd (fun J => sat_nd (fun J => h2) fun J => rfl) fun J => rfl) fun J => rfl) fun J => sat_br (fun J => sat_nd (fun J => sat_nd (fun J => h2) fun J => rfl) fun J => rfl) fun J => sat_br (fun J => sat_nd (fun J => h2) fun J => rfl) fun J => sat_nd (fun J => h2) fun J => rfl) fun J => rfl
noncomputable def mdn (c : Int) : String := let b := Builtin.bitAnd c 224
 if b == 96 then "mem" else if b == 192 then "atomic" else if b == 128 then "memsx" else if b == 0 then "imm" else if b == 32 then "abs" else if b == 64 then "ind" else ""
theorem mode_rule (h : P (.str (mdn c))) : (F_mode_of [.ord c d s o i m]).sat P E := by
 rw [m_mode]
 unfold mdn at h
 dsimp only at h ⊢
 refine sat_br (fun q => ?_) fun q => sat_br (fun q' => ?_) fun q' => sat_br (fun q'' => ?_) fun q'' => sat_br (fun q3 => ?_) fun q3 => sat_br (fun q4 => ?_) fun q4 => sat_br (fun q5 => ?_) fun q5 => ?_
 all_goals (show P _; simpa [*] using h)
theorem W24_rule {k : Int → Tr D} (h : ∀ z, (k z).sat P E) : (W24 c k).sat P E := sat_br (fun J => h _) fun J => sat_br (fun J => h _) fun J => sat_br (fun J => h _) fun J => h _
theorem c_load (h : P .none) : (F_check_load [.ord c d s o i m]).sat P En := by
 rw [m_load]
 refine sat_bd (mode_rule ?_)
 have R : (nd (i == 0) fm0 ok0).sat P En := sat_nd (fun J => h) fun J => rfl
 exact sat_nd (fun J => sat_br (fun J => sat_nd (fun J => R) fun J => rfl) fun J => W24_rule fun z => sat_nd (fun J => R) fun J => rfl) fun J => rfl
theorem A1_rule {n : String} (hn : (n : Str).length ≤ 10) (h : ∀ x, P (.str x)) : (A1 i n).sat P E :=
 sat_br (fun J => h _) fun J => sat_br (fun J => sat_on (decide_eq_true (by
  have : ("fetch_" : Str).length = 6 := by decide +kernel
  unfold cap; lia)) (h _)) fun J => h _
theorem atomic_any (h : ∀ x, P (.str x)) : (F_atomic_name [.ord c d s o i m]).sat P E := by
 rw [m_atomic]
 exact sat_br (fun J => h _) fun J => sat_br (fun J => h _) fun J => sat_br (fun J => A1_rule (by decide +kernel) h) fun J => sat_br (fun J => A1_rule (by decide +kernel) h) fun J => sat_br (fun J => A1_rule (by decide +kernel) h) fun J => sat_br (fun J => A1_rule (by decide +kernel) h) fun J => A1_rule (by decide +kernel) h
theorem c_stx (h : P .none) : (F_check_stx [.ord c d s o i m]).sat P En := by
 rw [m_stx]
 refine sat_bd (mode_rule ?_)
 have R : ((F_atomic_name [.ord c d s o i m]).bind (onStr fun n => nd (!(n == "")) "no such deed" ok0)).sat P En := sat_bd (atomic_any fun x => sat_nd (fun J => h) fun J => rfl)
 exact sat_nd (fun J => sat_br (fun J => sat_nd (fun J => h) fun J => rfl) fun J => W24_rule fun z => sat_br (fun J => sat_nd (fun J => R) fun J => rfl) fun J => W24_rule fun z => sat_nd (fun J => R) fun J => rfl) fun J => rfl
theorem c_order (h : P (.ord c d s o i m)) : (F_check_order [.ord c d s o i m]).sat P En := by
 rw [m_order]
 refine sat_k (c_fields fun h0 h1 => ?_)
 have h2 : (Tr.ok (.ord c d s o i m) : Tr D).sat P En := h
 generalize hR : (Tr.ok (.ord c d s o i m) : Tr D) = R at h2 ⊢
 have e1 : ((F_check_alu [.ord c d s o i m]).bind fun J => R).sat P En := sat_k (c_alu h0 h1 h2)
 have e2 : ((F_check_jumping [.ord c d s o i m]).bind fun J => R).sat P En := sat_k (c_jumping h0 h1 h2)
 have e3 : ((F_check_load [.ord c d s o i m]).bind fun J => R).sat P En := sat_k (c_load h2)
 have e4 : ((F_check_stx [.ord c d s o i m]).bind fun J => R).sat P En := sat_k (c_stx h2)
 have e5 : ((F_mode_of [.ord c d s o i m]).bind (onStr fun mode => nd (mode == "mem") nsm (nd (s == 0) fm0 R))).sat P En := sat_bd (mode_rule (sat_str (sat_nd (fun J => sat_nd (fun J => h2) fun J => rfl) fun J => rfl)))
 exact sat_br (fun J => e1) fun J => sat_br (fun J => e2) fun J => sat_br (fun J => sat_nd (fun J => sat_nd (fun J => sat_nd (fun J => sat_nd (fun J => h2) fun J => rfl) fun J => rfl) fun J => rfl) fun J => rfl) fun J => sat_br (fun J => e3) fun J => sat_br (fun J => e5) fun J => sat_br (fun J => e4) fun J => h2
end
noncomputable def rg (d : Int) : Bool := decide (0 ≤ d) && decide (d ≤ 10)
noncomputable abbrev f16 (o : Int) : Bool := fits 32768 o
noncomputable abbrev f32 (i : Int) : Bool := fits 2147483648 i
noncomputable def oct (c : Int) : Bool := decide (0 ≤ c) && decide (c ≤ 255)
noncomputable def named (c : Int) : Bool := !(opn c == "") && (!(opn c == "end") && !(opn c == "neg"))
noncomputable def aluRB (c : Int) : Bool := oct c && (alu c && (reg c && named c))
noncomputable def shB (c : Int) : Bool := opn c == "lsh" || (opn c == "rsh" || opn c == "arsh")
noncomputable def aluIB (c : Int) : Bool := oct c && (alu c && (!reg c && (named c && !(opn c == "div" || opn c == "mod"))))
noncomputable def negB (c : Int) : Bool := oct c && (alu c && (!reg c && (!(opn c == "") && (!(opn c == "end") && (opn c == "neg")))))
noncomputable def memB (k c : Int) : Bool := oct c && (!alu c && (!jmp c && (kind c == k && mdn c == "mem")))
noncomputable def atB (c : Int) : Bool := oct c && (!alu c && (!jmp c && (kind c == 3 && (mdn c == "atomic" && (Builtin.bitAnd c 24 == 0 || (!(Builtin.bitAnd c 24 == 8) && !(Builtin.bitAnd c 24 == 16)))))))
noncomputable def brB (c : Int) : Bool := oct c && (!alu c && (jmp c && (!(opn c == "") && (!isj c && (!(opn c == "call") && (!(opn c == "exit") && isb c))))))
inductive Lg : Int → Int → Int → Int → Int → Int → Prop
 | aluR {c d s} : aluRB c = true → rg d = true → rg s = true → Lg c d s 0 0 0
 | aluI {c d i} : aluIB c = true → rg d = true → f32 i = true → (shB c = true → 0 ≤ i ∧ i < 32) → Lg c d 0 0 i 0
 | neg {c d} : negB c = true → rg d = true → Lg c d 0 0 0 0
 | wide {d i m} : rg d = true → f32 i = true → f32 m = true → Lg 24 d 0 0 i m
 | map {d i} : rg d = true → f32 i = true → Lg 24 d 1 0 i 0
 | ldx {c d s o} : memB 1 c = true → rg d = true → rg s = true → f16 o = true → Lg c d s o 0 0
 | stx {c d s o} : memB 3 c = true → rg d = true → rg s = true → f16 o = true → Lg c d s o 0 0
 | st {c d o i} : memB 2 c = true → rg d = true → f16 o = true → f32 i = true → Lg c d 0 o i 0
 | atom {c d s o i} : atB c = true → rg d = true → rg s = true → f16 o = true → i ∈ ([0, 65, 80, 161, 225, 241] : List Int) → Lg c d s o i 0
 | ja {o} : f16 o = true → Lg 5 0 0 o 0 0
 | jal {i} : f32 i = true → Lg 6 0 0 0 i 0
 | brR {c d s o} : (brB c && reg c) = true → rg d = true → rg s = true → f16 o = true → Lg c d s o 0 0
 | brI {c d o i} : (brB c && !reg c) = true → rg d = true → f16 o = true → f32 i = true → Lg c d 0 o i 0
 | call {s i} : (s == 0 || s == 1) = true → f32 i = true → Lg 133 0 s 0 i 0
 | exit : Lg 149 0 0 0 0 0
theorem atom_f32 {i : Int} (hi : i ∈ ([0, 65, 80, 161, 225, 241] : List Int)) : f32 i = true := List.all_eq_true.mp (show ([0, 65, 80, 161, 225, 241] : List Int).all f32 = true by decide +kernel) i hi
theorem call_rg {s : Int} (hs : (s == 0 || s == 1) = true) : rg s = true := by
 rcases Bool.or_eq_true_iff.mp hs with q | q
 ·rw [beq_iff_eq.mp q]; rfl
 ·rw [beq_iff_eq.mp q]; rfl
section
variable {P : D → Prop} {E : Str → D → Prop} {c d s o i m : Int}
theorem p_fields (hc : oct c = true) (hd : rg d = true) (hs : rg s = true) (ho : f16 o = true) (hi : f32 i = true) (hm : f32 m = true) (hw : (m == 0 || c == 24) = true) (h : P .none) : (F_check_fields [.ord c d s o i m]).sat P E := by
 rw [m_fields]
 refine sat_y hc (sat_y (by unfold rg at hd hs; rw [hd, hs]; rfl) (sat_bd (fits16 (sat_bool (sat_y ho (sat_bd (fits32 (sat_bool (sat_on hi (sat_bd (fits32 (sat_bool (sat_y hm (sat_y hw h))))))))))))))
theorem p_order (hc : oct c = true) (hd : rg d = true) (hs : rg s = true) (ho : f16 o = true) (hi : f32 i = true) (hm : f32 m = true) (hw : (m == 0 || c == 24) = true) {R : Tr D} (hR : R = .ok (.ord c d s o i m))
  (h : (Tr.br (alu c) ((F_check_alu [.ord c d s o i m]).bind fun J => R) (.br (jmp c) ((F_check_jumping [.ord c d s o i m]).bind fun J => R) (.br (kind c == 0) (nd (c == 24) nsm (nd (s == 0 || s == 1) "no such wide load" (nd (s == 0 || m == 0) fm0 (nd (o == 0) fm0 R))))
   (.br (kind c == 1) ((F_check_load [.ord c d s o i m]).bind fun J => R) (.br (kind c == 2) ((F_mode_of [.ord c d s o i m]).bind (onStr fun mode => nd (mode == "mem") nsm (nd (s == 0) fm0 R)))
    (.br (kind c == 3) ((F_check_stx [.ord c d s o i m]).bind fun J => R) R)))))).sat P E) : (F_check_order [.ord c d s o i m]).sat P E := by
 subst hR
 rw [m_order]
 exact sat_k (p_fields hc hd hs ho hi hm hw h)
theorem oct_le (h : oct c = true) : 0 ≤ c ∧ c ≤ 255 := by unfold oct at h; simpa using h
theorem p_alu0 (hc : oct c = true) {Q : Str → Tr D} (h : F_check_alu [.ord c d s o i m] = (F_operation [.ord c d s o i m]).bind (onStr Q)) (hq : (Q (opn c)).sat P E) : (F_check_alu [.ord c d s o i m]).sat P E := by
 rw [h]
 exact sat_bd (op_rule (oct_le hc).1 (oct_le hc).2 (sat_str hq))
theorem p_ext0 (h : P .none) : (F_check_extension [.ord c d s 0 i m]).sat P E := by
 rw [m_ext]
 exact sat_on rfl (sat_y rfl h)
theorem p_R2 {name : Str} (h : ok0.sat P E) : (Tr.br (name == "div" || name == "mod") (nd ((0 : Int) == 0 || (0 : Int) == 1) "no such division" ok0) (.br (name == "mov" && reg c) ((F_check_extension [.ord c d s 0 i m]).bind fun J => ok0) (nd ((0 : Int) == 0) fm0 ok0))).sat P E :=
 sat_br (fun J => sat_y rfl h) fun J => sat_br (fun J => sat_k (p_ext0 h)) fun J => sat_y rfl h
theorem p_aluR (hc : oct c = true) (hr : reg c = true) (hn : named c = true) (h : P .none) : (F_check_alu [.ord c d s 0 0 0]).sat P E := by
 unfold named at hn
 simp only [Bool.and_eq_true, Bool.not_eq_true'] at hn
 obtain ⟨n1, n2, n3⟩ := hn
 refine p_alu0 hc (m_alu c d s 0 0 0) ?_
 generalize opn c = name at *
 have h2 : ok0.sat P E := h
 exact sat_y (by rw [n1]; rfl) (sat_off n2 (sat_off n3 (sat_on hr (sat_y rfl (p_R2 h2)))))
theorem p_num (hdm : (opn c == "div" || opn c == "mod") = false) (hs : shB c = true → 0 ≤ i ∧ i < 32) (h : P .none) : (F_check_number [.ord c d s o i m, .str (opn c)]).sat P E := by
 rw [m_num]
 unfold shB at hs
 generalize opn c = name at *
 have R : (Tr.br (name == "div" || name == "mod") (nd (!(i == 0)) "division by zero" (.ok .none)) (.ok .none)).sat P E := sat_off hdm h
 refine sat_br (fun q => ?_) fun J => R
 obtain ⟨a, b⟩ := hs q
 exact sat_on (decide_eq_true a) (sat_br (fun J => sat_y (decide_eq_true b) R) fun J => sat_y (decide_eq_true (by omega)) R)
theorem p_aluI (hc : oct c = true) (hr : reg c = false) (hn : named c = true) (hdm : (opn c == "div" || opn c == "mod") = false) (hs : shB c = true → 0 ≤ i ∧ i < 32) (h : P .none) : (F_check_alu [.ord c d 0 0 i 0]).sat P E := by
 unfold named at hn
 simp only [Bool.and_eq_true, Bool.not_eq_true'] at hn
 obtain ⟨n1, n2, n3⟩ := hn
 refine p_alu0 hc (m_alu c d 0 0 i 0) ?_
 have h2 : ok0.sat P E := h
 have hN := sat_k (t := F_check_number [.ord c d 0 0 i 0, .str (opn c)]) (p_num (P := fun J => _) hdm hs (p_R2 (c := c) (d := d) (s := 0) (i := i) (m := 0) (name := opn c) h2))
 generalize opn c = name at *
 exact sat_y (by rw [n1]; rfl) (sat_off n2 (sat_off n3 (sat_off hr (sat_y rfl hN))))
theorem p_neg (hc : oct c = true) (hr : reg c = false) (n1 : (opn c == "") = false) (n2 : (opn c == "end") = false) (n3 : (opn c == "neg") = true) (h : P .none) : (F_check_alu [.ord c d 0 0 0 0]).sat P E := by
 refine p_alu0 hc (m_alu c d 0 0 0 0) ?_
 have h2 : ok0.sat P E := h
 generalize opn c = name at *
 exact sat_y (by rw [n1]; rfl) (sat_off n2 (sat_on n3 (sat_y (by rw [hr]; rfl) (sat_y rfl h2))))
theorem p_load (hm : (mdn c == "mem") = true) (h : P .none) : (F_check_load [.ord c d s o 0 m]).sat P E := by
 rw [m_load]
 refine sat_bd (mode_rule (sat_str ?_))
 rw [beq_iff_eq.mp hm]
 exact sat_y rfl (sat_on rfl (sat_y rfl (sat_y rfl h)))
theorem p_stx (hm : (mdn c == "mem") = true) (h : P .none) : (F_check_stx [.ord c d s o 0 m]).sat P E := by
 rw [m_stx]
 refine sat_bd (mode_rule (sat_str ?_))
 rw [beq_iff_eq.mp hm]
 exact sat_y rfl (sat_on rfl (sat_y rfl h))
theorem p_atomic (hi : i ∈ ([0, 65, 80, 161, 225, 241] : List Int)) (h : ∀ x : Str, (x == "") = false → P (.str x)) : (F_atomic_name [.ord c d s o i m]).sat P E := by
 rw [m_atomic]
 simp only [List.mem_cons, List.not_mem_nil] at hi
 rcases hi with rfl | rfl | rfl | rfl | rfl | rfl | hf
 ·exact run_sat (a := .str "add") (by kernel_rfl) (h _ (by decide +kernel))
 ·exact run_sat (a := .str "fetch_or") (by kernel_rfl) (h _ (by decide +kernel))
 ·exact run_sat (a := .str "and") (by kernel_rfl) (h _ (by decide +kernel))
 ·exact run_sat (a := .str "fetch_xor") (by kernel_rfl) (h _ (by decide +kernel))
 ·exact run_sat (a := .str "xchg") (by kernel_rfl) (h _ (by decide +kernel))
 ·exact run_sat (a := .str "cmpxchg") (by kernel_rfl) (h _ (by decide +kernel))
 ·exact hf.elim
theorem p_atom (hm : (mdn c == "atomic") = true) (hw : (Builtin.bitAnd c 24 == 0 || (!(Builtin.bitAnd c 24 == 8) && !(Builtin.bitAnd c 24 == 16))) = true) (hi : i ∈ ([0, 65, 80, 161, 225, 241] : List Int)) (h : P .none) : (F_check_stx [.ord c d s o i m]).sat P E := by
 rw [m_stx]
 refine sat_bd (mode_rule (sat_str ?_))
 rw [beq_iff_eq.mp hm]
 have R : ((F_atomic_name [.ord c d s o i m]).bind (onStr fun n => nd (!(n == "")) "no such deed" ok0)).sat P E := sat_bd (p_atomic hi fun x hx => sat_str (sat_y (by rw [hx]; rfl) h))
 refine sat_y rfl (sat_off rfl ?_)
 cases q : Builtin.bitAnd c 24 == 0 with
 | true => exact sat_on q (sat_on rfl (sat_y rfl R))
 | false =>
  rw [q, Bool.false_or] at hw
  simp only [Bool.and_eq_true, Bool.not_eq_true'] at hw
  exact sat_off q (sat_off hw.1 (sat_off hw.2 (sat_off rfl (sat_off q (sat_off hw.1 (sat_off hw.2 (sat_y rfl R)))))))
theorem p_jump0 (hc : oct c = true) {Q : Str → Tr D} (h : F_check_jumping [.ord c d s o i m] = (F_operation [.ord c d s o i m]).bind (onStr Q)) (hq : (Q (opn c)).sat P E) : (F_check_jumping [.ord c d s o i m]).sat P E := by
 rw [h]
 exact sat_bd (op_rule (oct_le hc).1 (oct_le hc).2 (sat_str hq))
theorem p_br (hc : oct c = true) (n1 : (opn c == "") = false) (hj : isj c = false) (n2 : (opn c == "call") = false) (n3 : (opn c == "exit") = false) (hb : isb c = true) (hr : (reg c && i == 0 || !reg c && s == 0) = true) (h : P .none) : (F_check_jumping [.ord c d s o i m]).sat P E := by
 refine p_jump0 hc (m_jumping c d s o i m) ?_
 have h2 : ok0.sat P E := h
 generalize opn c = name at *
 refine sat_y (by rw [n1]; rfl) (sat_off hj (sat_off n2 (sat_off n3 (sat_br (fun q => sat_y ?_ h2) fun q => sat_y ?_ h2))))
 ·rw [q] at hr; rw [hb]; simpa using hr
 ·rw [q] at hr; rw [hb]; simpa using hr
end
section
variable {P : D → Prop} {E : Str → D → Prop} {c d s o i m : Int}
theorem fits0 {b : Int} (h : 0 < b) : fits b 0 = true := by unfold fits; simp; lia
theorem pass (L : Lg c d s o i m) (h : P (.ord c d s o i m)) : (F_check_order [.ord c d s o i m]).sat P E := by
 have f0 : f16 0 = true := rfl
 have g0 : f32 0 = true := rfl
 induction L with
 | aluR hB hd hs =>
  simp only [aluRB, Bool.and_eq_true] at hB
  obtain ⟨hc, ha, hr, hn⟩ := hB
  exact p_order hc hd hs rfl rfl rfl rfl rfl (sat_on ha (sat_k (p_aluR hc hr hn h)))
 | aluI hB hd hi hsh =>
  simp only [aluIB, Bool.and_eq_true, Bool.not_eq_true'] at hB
  obtain ⟨hc, ha, hr, hn, hdm⟩ := hB
  exact p_order hc hd rfl rfl hi rfl rfl rfl (sat_on ha (sat_k (p_aluI hc hr hn hdm hsh h)))
 | neg hB hd =>
  simp only [negB, Bool.and_eq_true, Bool.not_eq_true'] at hB
  obtain ⟨hc, ha, hr, n1, n2, n3⟩ := hB
  exact p_order hc hd rfl rfl rfl rfl rfl rfl (sat_on ha (sat_k (p_neg hc hr n1 n2 n3 h)))
 | wide hd hi hm => exact p_order rfl hd rfl rfl hi hm (by rw [Bool.or_eq_true]; exact .inr rfl) rfl (sat_off rfl (sat_off rfl (sat_on rfl (sat_y rfl (sat_y rfl (sat_y rfl (sat_y rfl h)))))))
 | map hd hi => exact p_order rfl hd rfl rfl hi rfl rfl rfl (sat_off rfl (sat_off rfl (sat_on rfl (sat_y rfl (sat_y rfl (sat_y rfl (sat_y rfl h)))))))
 | ldx hB hd hs ho =>
  simp only [memB, Bool.and_eq_true, Bool.not_eq_true'] at hB
  obtain ⟨hc, a1, a2, hk, hm⟩ := hB
  exact p_order hc hd hs ho rfl rfl rfl rfl (sat_off a1 (sat_off a2 (sat_off (by rw [beq_iff_eq.mp hk]; rfl) (sat_on hk (sat_k (p_load hm h))))))
 | stx hB hd hs ho =>
  simp only [memB, Bool.and_eq_true, Bool.not_eq_true'] at hB
  obtain ⟨hc, a1, a2, hk, hm⟩ := hB
  exact p_order hc hd hs ho rfl rfl rfl rfl (sat_off a1 (sat_off a2 (sat_off (by rw [beq_iff_eq.mp hk]; rfl) (sat_off (by rw [beq_iff_eq.mp hk]; rfl) (sat_off (by rw [beq_iff_eq.mp hk]; rfl) (sat_on hk (sat_k (p_stx hm h))))))))
 | st hB hd ho hi =>
  simp only [memB, Bool.and_eq_true, Bool.not_eq_true'] at hB
  obtain ⟨hc, a1, a2, hk, hm⟩ := hB
  exact p_order hc hd rfl ho hi rfl rfl rfl (sat_off a1 (sat_off a2 (sat_off (by rw [beq_iff_eq.mp hk]; rfl) (sat_off (by rw [beq_iff_eq.mp hk]; rfl) (sat_on hk (sat_bd (mode_rule (sat_str (by rw [beq_iff_eq.mp hm]; exact sat_y rfl (sat_y rfl h))))))))))
 | atom hB hd hs ho hi =>
  simp only [atB, Bool.and_eq_true, Bool.not_eq_true'] at hB
  obtain ⟨hc, a1, a2, hk, hm, hw⟩ := hB
  exact p_order hc hd hs ho (atom_f32 hi) rfl rfl rfl (sat_off a1 (sat_off a2 (sat_off (by rw [beq_iff_eq.mp hk]; rfl) (sat_off (by rw [beq_iff_eq.mp hk]; rfl) (sat_off (by rw [beq_iff_eq.mp hk]; rfl) (sat_on hk (sat_k (p_atom hm (by simpa using hw) hi h))))))))
 | ja ho =>
  refine p_order rfl rfl rfl ho rfl rfl rfl rfl (sat_off rfl (sat_on rfl (sat_k (p_jump0 rfl (m_jumping 5 0 0 _ 0 0) (sat_y (by decide +kernel) (sat_on rfl (sat_k ?_)))))))
  rw [m_jump]
  exact sat_y rfl (sat_y rfl (sat_off rfl (sat_y rfl h)))
 | jal hi =>
  refine p_order rfl rfl rfl rfl hi rfl rfl rfl (sat_off rfl (sat_on rfl (sat_k (p_jump0 rfl (m_jumping 6 0 0 0 _ 0) (sat_y (by decide +kernel) (sat_on rfl (sat_k ?_)))))))
  rw [m_jump]
  exact sat_y rfl (sat_y rfl (sat_on rfl (sat_y rfl h)))
 | brR hB hd hs ho =>
  simp only [brB, Bool.and_eq_true, Bool.not_eq_true'] at hB
  obtain ⟨⟨hc, a1, a2, n1, hj, n2, n3, hb⟩, hr⟩ := hB
  exact p_order hc hd hs ho rfl rfl rfl rfl (sat_off a1 (sat_on a2 (sat_k (p_br hc n1 hj n2 n3 hb (by rw [hr]; rfl) h))))
 | brI hB hd ho hi =>
  simp only [brB, Bool.and_eq_true, Bool.not_eq_true'] at hB
  obtain ⟨⟨hc, a1, a2, n1, hj, n2, n3, hb⟩, hr⟩ := hB
  exact p_order hc hd rfl ho hi rfl rfl rfl (sat_off a1 (sat_on a2 (sat_k (p_br hc n1 hj n2 n3 hb (by rw [hr]; rfl) h))))
 | call hs hi =>
  exact p_order rfl rfl (call_rg hs) rfl hi rfl rfl rfl (sat_off rfl (sat_on rfl (sat_k (p_jump0 rfl (m_jumping 133 0 _ 0 _ 0) (sat_y (by decide +kernel) (sat_off rfl (sat_on (by decide +kernel) (sat_y rfl (sat_y rfl (sat_y hs h))))))))))
 | exit =>
  exact p_order rfl rfl rfl rfl rfl rfl rfl rfl (sat_off rfl (sat_on rfl (sat_k (p_jump0 rfl (m_jumping 149 0 0 0 0 0) (sat_y (by decide +kernel) (sat_off rfl (sat_off (by decide +kernel) (sat_on (by decide +kernel) (sat_y rfl (sat_y rfl h))))))))))
theorem refused (hE : ∀ w : String, E w .none) : (F_check_order [.ord 0 0 0 0 i 0]).sat P E := by
 have R : ∀ b, (nd b "number out of range" (nd ((0 : Int) == 0 || (0 : Int) == 24) "a second half without a wide load" (.ok .none))).sat (fun J => (nd ((0 : Int) == 24) nsm (nd ((0 : Int) == 0 || (0 : Int) == 1) "no such wide load" (nd ((0 : Int) == 0 || (0 : Int) == 0) fm0 (nd ((0 : Int) == 0) fm0 (.ok (.ord 0 0 0 0 i 0)))))).sat P E) E :=
  fun b => sat_nd (fun J => sat_y rfl (sat_nd (fun q => by exact no_ft q) fun J => hE _)) fun J => hE _
 have key : (F_check_fields [.ord 0 0 0 0 i 0]).sat (fun J => (nd ((0 : Int) == 24) nsm (nd ((0 : Int) == 0 || (0 : Int) == 1) "no such wide load" (nd ((0 : Int) == 0 || (0 : Int) == 0) fm0 (nd ((0 : Int) == 0) fm0 (.ok (.ord 0 0 0 0 i 0)))))).sat P E) E := by
  rw [m_fields]
  exact sat_y rfl (sat_y rfl (sat_bd (fits16 (sat_bool (sat_y rfl (sat_bd (fits32 (sat_bool (sat_br (fun J => sat_bd (fits32 (sat_bool (R _)))) fun J => R _)))))))))
 rw [m_order]
 exact sat_k (Tr.sat_mono (fun a ha => sat_off rfl (sat_off rfl (sat_on rfl ha))) (fun J J q => q) _ key)
end
noncomputable def B1 {α : Type} : Nat → Tr α → Tr α
 | 0, t => t
 | n + 1, t => .br true (B1 n t) .bad
theorem sat_ok {α : Type} {P : α → Prop} {E : Str → D → Prop} {a : α} (h : P a) : (Tr.ok a).sat P E := h
theorem sat_B1 {α : Type} {P : α → Prop} {E : Str → D → Prop} {t : Tr α} (h : t.sat P E) : ∀ n, (B1 n t).sat P E
 | 0 => h
 | n + 1 => sat_tt (sat_B1 h n)
noncomputable def lo2 (w : Int) : List Int := [w % 256, w / 256 % 256]
noncomputable def lo4 (w : Int) : List Int := [w % 256, w / 256 % 256, w / 65536 % 256, w / 16777216 % 256]
noncomputable def sg16 (u : Int) : Int := if u < 32768 then u else u - 65536
noncomputable def sg32 (u : Int) : Int := if u < 2147483648 then u else u - 4294967296
noncomputable def fl2 (a b : Int) : Int := a + b * 256
noncomputable def fl4 (a b c d : Int) : Int := a + b * 256 + c * 65536 + d * 16777216
section
variable (w a b c d : Int)
theorem m_little2 : F_little [.int w, .int 2] = B1 6 (.br ((true && ([Builtin.bitAnd (w.fdiv 1) 255, Builtin.bitAnd (w.fdiv 256) 255] : List Int).all byteI) && true) (.ok (.bytes [Builtin.bitAnd (w.fdiv 1) 255, Builtin.bitAnd (w.fdiv 256) 255])) .bad) := by kernel_rfl
theorem m_little4 : F_little [.int w, .int 4] = B1 10 (.br ((true && ([Builtin.bitAnd (w.fdiv 1) 255, Builtin.bitAnd (w.fdiv 256) 255, Builtin.bitAnd (w.fdiv 65536) 255, Builtin.bitAnd (w.fdiv 16777216) 255] : List Int).all byteI) && true) (.ok (.bytes [Builtin.bitAnd (w.fdiv 1) 255, Builtin.bitAnd (w.fdiv 256) 255, Builtin.bitAnd (w.fdiv 65536) 255, Builtin.bitAnd (w.fdiv 16777216) 255])) .bad) := by kernel_rfl
theorem m_from2 : F_from_little [.bytes [a, b]] = B1 4 (.br (smallI a) (B1 2 (.br (smallI b) (.ok (.int (0 + a * 1 + b * 256))) .bad)) .bad) := by kernel_rfl
theorem m_from4 : F_from_little [.bytes [a, b, c, d]] = B1 4 (.br (smallI a) (B1 2 (.br (smallI b) (B1 2 (.br (smallI c) (B1 2 (.br (smallI d) (.ok (.int (0 + a * 1 + b * 256 + c * 65536 + d * 16777216))) .bad)) .bad)) .bad)) .bad) := by kernel_rfl
theorem m_sg16 : F_signed [.int w, .int 16] = B1 2 (.br ((Builtin.bitAnd w 65535).fdiv 32768 != 0) (B1 1 (.ok (.int (Builtin.bitAnd w 65535 - 65536)))) (.ok (.int (Builtin.bitAnd w 65535)))) := by kernel_rfl
theorem m_sg32 : F_signed [.int w, .int 32] = B1 2 (.br ((Builtin.bitAnd w 4294967295).fdiv 2147483648 != 0) (B1 1 (.ok (.int (Builtin.bitAnd w 4294967295 - 4294967296)))) (.ok (.int (Builtin.bitAnd w 4294967295)))) := by kernel_rfl
theorem m_low2 : F_law_low [.int w, .int 2] = B1 8 (.ok (.list [.int ((w.fdiv 1).fmod 256), .int ((w.fdiv 256).fmod 256)])) := by kernel_rfl
theorem m_low4 : F_law_low [.int w, .int 4] = B1 14 (.ok (.list [.int ((w.fdiv 1).fmod 256), .int ((w.fdiv 256).fmod 256), .int ((w.fdiv 65536).fmod 256), .int ((w.fdiv 16777216).fmod 256)])) := by kernel_rfl
theorem m_whole2 : F_law_whole [.list [.int a, .int b]] = B1 10 (.br (decide (65536 ≤ (1 * a + (256 * b + 0)) * 2)) (B1 2 (.ok (.int ((1 * a + (256 * b + 0)) - 65536)))) (.ok (.int (1 * a + (256 * b + 0))))) := by kernel_rfl
theorem m_whole4 : F_law_whole [.list [.int a, .int b, .int c, .int d]] = B1 14 (.br (decide (4294967296 ≤ (1 * a + (256 * b + (65536 * c + (16777216 * d + 0)))) * 2)) (B1 2 (.ok (.int ((1 * a + (256 * b + (65536 * c + (16777216 * d + 0)))) - 4294967296)))) (.ok (.int (1 * a + (256 * b + (65536 * c + (16777216 * d + 0))))))) := by kernel_rfl
end
section
variable {P : D → Prop} {E : Str → D → Prop} {w a b c d : Int}
theorem mod_byte (x : Int) : byteI (x % 256) = true := by unfold byteI; simp; lia
theorem fd (w : Int) {n : Int} (h : 0 ≤ n) : w.fdiv n = w / n := Int.fdiv_eq_ediv_of_nonneg w h
theorem fm (w : Int) {n : Int} (h : 0 ≤ n) : w.fmod n = w % n := Int.fmod_eq_emod_of_nonneg w h
theorem r_little2 (h : P (.bytes (lo2 w))) : (F_little [.int w, .int 2]).sat P E := by
 rw [m_little2, fd _ (by decide), fd _ (by decide), bitAnd_m8, bitAnd_m8, Int.ediv_one]
 exact sat_B1 (sat_on (by simp [mod_byte]) (sat_ok h)) 6
theorem r_little4 (h : P (.bytes (lo4 w))) : (F_little [.int w, .int 4]).sat P E := by
 rw [m_little4, fd _ (by decide), fd _ (by decide), fd _ (by decide), fd _ (by decide), bitAnd_m8, bitAnd_m8, bitAnd_m8, bitAnd_m8, Int.ediv_one]
 exact sat_B1 (sat_on (by simp [mod_byte]) (sat_ok h)) 10
theorem byte_small (h : byteI a = true) : smallI a = true := by unfold byteI at h; unfold smallI; simp at h ⊢; lia
theorem r_from2 (ha : byteI a = true) (hb : byteI b = true) (h : P (.int (fl2 a b))) : (F_from_little [.bytes [a, b]]).sat P E := by
 rw [m_from2, show 0 + a * 1 + b * 256 = fl2 a b by unfold fl2; lia]
 exact sat_B1 (sat_on (byte_small ha) (sat_B1 (sat_on (byte_small hb) (sat_ok h)) 2)) 4
theorem r_from4 (ha : byteI a = true) (hb : byteI b = true) (hc : byteI c = true) (hd : byteI d = true) (h : P (.int (fl4 a b c d))) : (F_from_little [.bytes [a, b, c, d]]).sat P E := by
 rw [m_from4, show 0 + a * 1 + b * 256 + c * 65536 + d * 16777216 = fl4 a b c d by unfold fl4; lia]
 exact sat_B1 (sat_on (byte_small ha) (sat_B1 (sat_on (byte_small hb) (sat_B1 (sat_on (byte_small hc) (sat_B1 (sat_on (byte_small hd) (sat_ok h)) 2)) 2)) 2)) 4
theorem r_sg16 (h0 : 0 ≤ w) (h1 : w < 65536) (h : P (.int (sg16 w))) : (F_signed [.int w, .int 16]).sat P E := by
 rw [m_sg16, bitAnd_m16, Int.emod_eq_of_lt h0 h1, fd _ (by decide)]
 unfold sg16 at h
 refine sat_B1 (sat_br (fun q => sat_B1 ?_ 1) fun q => ?_) 2
 ·rw [if_neg (by simp at q; lia)] at h; exact h
 ·rw [if_pos (by simp at q; lia)] at h; exact h
theorem r_sg32 (h0 : 0 ≤ w) (h1 : w < 4294967296) (h : P (.int (sg32 w))) : (F_signed [.int w, .int 32]).sat P E := by
 rw [m_sg32, bitAnd_m32, Int.emod_eq_of_lt h0 h1, fd _ (by decide)]
 unfold sg32 at h
 refine sat_B1 (sat_br (fun q => sat_B1 ?_ 1) fun q => ?_) 2
 ·rw [if_neg (by simp at q; lia)] at h; exact h
 ·rw [if_pos (by simp at q; lia)] at h; exact h
theorem r_low2 (h : P (.list ((lo2 w).map .int))) : (F_law_low [.int w, .int 2]).sat P E := by
 rw [m_low2, fd _ (by decide), fd _ (by decide), fm _ (by decide), fm _ (by decide), Int.ediv_one]
 exact sat_B1 (sat_ok h) 8
theorem r_low4 (h : P (.list ((lo4 w).map .int))) : (F_law_low [.int w, .int 4]).sat P E := by
 rw [m_low4, fd _ (by decide), fd _ (by decide), fd _ (by decide), fd _ (by decide), fm _ (by decide), fm _ (by decide), fm _ (by decide), fm _ (by decide), Int.ediv_one]
 exact sat_B1 (sat_ok h) 14
theorem r_whole2 (h : P (.int (sg16 (fl2 a b)))) : (F_law_whole [.list [.int a, .int b]]).sat P E := by
 rw [m_whole2, show 1 * a + (256 * b + 0) = fl2 a b by unfold fl2; lia]
 unfold sg16 at h
 refine sat_B1 (sat_br (fun q => sat_B1 ?_ 2) fun q => ?_) 10
 ·rw [if_neg (by simp at q; lia)] at h; exact h
 ·rw [if_pos (by simp at q; lia)] at h; exact h
theorem r_whole4 (h : P (.int (sg32 (fl4 a b c d)))) : (F_law_whole [.list [.int a, .int b, .int c, .int d]]).sat P E := by
 rw [m_whole4, show 1 * a + (256 * b + (65536 * c + (16777216 * d + 0))) = fl4 a b c d by unfold fl4; lia]
 unfold sg32 at h
 refine sat_B1 (sat_br (fun q => sat_B1 ?_ 2) fun q => ?_) 14
 ·rw [if_neg (by simp at q; lia)] at h; exact h
 ·rw [if_pos (by simp at q; lia)] at h; exact h
end
end
section
open PySem PySem.W PySem.Calls PyProof.Rows
structure Row where
 c : Int
 d : Int
 s : Int
 o : Int
 i : Int
 m : Int
namespace Row
variable (r : Row)
noncomputable def ds : List D := [.int r.c, .int r.d, .int r.s, .int r.o, .int r.i, .int r.m]
noncomputable def L : D := .list r.ds
noncomputable def T : D := .tup r.ds
noncomputable def O : D := .ord r.c r.d r.s r.o r.i r.m
noncomputable def hd : List Int := r.c :: (r.d + 16 * r.s) :: (lo2 r.o ++ lo4 r.i)
noncomputable def tl : List Int := if r.c = 24 then 0 :: 0 :: 0 :: 0 :: lo4 r.m else []
noncomputable def oct : List Int := r.hd ++ r.tl
noncomputable def sl : Nat := if r.c = 24 then 2 else 1
noncomputable def Ok : Prop := Lg r.c r.d r.s r.o r.i r.m
end Row
section
variable {c d s o i m : Int}
theorem fits_le {b w : Int} (h : fits b w = true) : -b ≤ w ∧ w < b := by unfold fits at h; simpa using h
theorem rg_le (h : rg d = true) : 0 ≤ d ∧ d ≤ 10 := by unfold rg at h; simpa using h
structure Fx (c d s o i m : Int) : Prop where
 c0 : 0 ≤ c
 c1 : c ≤ 255
 d0 : 0 ≤ d
 d1 : d ≤ 10
 s0 : 0 ≤ s
 s1 : s ≤ 10
 o0 : -32768 ≤ o
 o1 : o < 32768
 i0 : -2147483648 ≤ i
 i1 : i < 2147483648
 m0 : -2147483648 ≤ m
 m1 : m < 2147483648
 mc : c ≠ 24 → m = 0
 far : c = 133 → d = 0
theorem fx_mk (hc : oct c = true) (hd : rg d = true) (hs : rg s = true) (ho : f16 o = true) (hi : f32 i = true) (hm : f32 m = true) (mc : c ≠ 24 → m = 0) (far : c = 133 → d = 0) : Fx c d s o i m :=
 ⟨(oct_le hc).1, (oct_le hc).2, (rg_le hd).1, (rg_le hd).2, (rg_le hs).1, (rg_le hs).2, (fits_le ho).1, (fits_le ho).2, (fits_le hi).1, (fits_le hi).2, (fits_le hm).1, (fits_le hm).2, mc, far⟩
theorem no133 {f : Int → Bool} (h : f c = true) (n : f 133 = false) : c = 133 → d = 0 := fun q => by rw [q, n] at h; exact no_ft h
theorem lg_fx (L : Lg c d s o i m) : Fx c d s o i m := by
 have z : (c ≠ 24 → (0 : Int) = 0) := fun J => rfl
 induction L with
 | aluR hB hd hs => exact fx_mk (Bool.and_eq_true_iff.mp hB).1 hd hs rfl rfl rfl z (no133 hB (by decide +kernel))
 | aluI hB hd hi _ => exact fx_mk (Bool.and_eq_true_iff.mp hB).1 hd rfl rfl hi rfl z (no133 hB (by decide +kernel))
 | neg hB hd => exact fx_mk (Bool.and_eq_true_iff.mp hB).1 hd rfl rfl rfl rfl z (no133 hB (by decide +kernel))
 | wide hd hi hm => exact fx_mk rfl hd rfl rfl hi hm (fun n => absurd rfl n) (fun q => by cases q)
 | map hd hi => exact fx_mk rfl hd rfl rfl hi rfl z (fun q => by cases q)
 | ldx hB hd hs ho => exact fx_mk (Bool.and_eq_true_iff.mp hB).1 hd hs ho rfl rfl z (no133 hB (by decide +kernel))
 | stx hB hd hs ho => exact fx_mk (Bool.and_eq_true_iff.mp hB).1 hd hs ho rfl rfl z (no133 hB (by decide +kernel))
 | st hB hd ho hi => exact fx_mk (Bool.and_eq_true_iff.mp hB).1 hd rfl ho hi rfl z (no133 hB (by decide +kernel))
 | atom hB hd hs ho hi =>
  exact fx_mk (Bool.and_eq_true_iff.mp hB).1 hd hs ho (atom_f32 hi) rfl z (no133 hB (by decide +kernel))
 | ja ho => exact fx_mk rfl rfl rfl ho rfl rfl z (fun q => rfl)
 | jal hi => exact fx_mk rfl rfl rfl rfl hi rfl z (fun q => rfl)
 | brR hB hd hs ho => exact fx_mk (Bool.and_eq_true_iff.mp (Bool.and_eq_true_iff.mp hB).1).1 hd hs ho rfl rfl z (no133 (f := fun c => brB c && reg c) hB (by decide +kernel))
 | brI hB hd ho hi => exact fx_mk (Bool.and_eq_true_iff.mp (Bool.and_eq_true_iff.mp hB).1).1 hd rfl ho hi rfl z (no133 (f := fun c => brB c && !reg c) hB (by decide +kernel))
 | call hs hi =>
  exact fx_mk rfl rfl (call_rg hs) rfl hi rfl z (fun q => rfl)
 | exit => exact fx_mk rfl rfl rfl rfl rfl rfl z (fun q => rfl)
theorem byte_le {a : Int} (h : byteI a = true) : 0 ≤ a ∧ a < 256 := by
 have := Bool.and_eq_true_iff.mp h
 exact ⟨of_decide_eq_true this.1, of_decide_eq_true this.2⟩
theorem md2 (w : Int) : w % 65536 = w % 256 + w / 256 % 256 * 256 := by lia
theorem md4 (w : Int) : w % 4294967296 = w % 65536 + w / 65536 % 65536 * 65536 := by lia
theorem dv2 (w : Int) : w / 65536 = w / 256 / 256 := by lia
theorem dv3 (w : Int) : w / 16777216 = w / 65536 / 256 := by lia
theorem dm {a : Int} (y : Int) (h : byteI a = true) : (a + 256 * y) % 256 = a := by have := byte_le h; lia
theorem dd {a : Int} (y : Int) (h : byteI a = true) : (a + 256 * y) / 256 = y := by have := byte_le h; lia
theorem bm {a : Int} (h : byteI a = true) : a % 256 = a := Int.emod_eq_of_lt (byte_le h).1 (byte_le h).2
theorem fl2_lo (w : Int) : fl2 (w % 256) (w / 256 % 256) = w % 65536 := (md2 w).symm
theorem fl4_lo (w : Int) : fl4 (w % 256) (w / 256 % 256) (w / 65536 % 256) (w / 16777216 % 256) = w % 4294967296 := by
 unfold fl4
 rw [md4, md2 w, md2 (w / 65536), ← dv3, Int.add_mul, Int.mul_assoc, ← Int.add_assoc]
 rfl
theorem sg16_mod (h0 : -32768 ≤ o) (h1 : o < 32768) : sg16 (o % 65536) = o := by unfold sg16; split <;> lia
theorem sg16_lo (h0 : -32768 ≤ o) (h1 : o < 32768) : sg16 (fl2 (o % 256) (o / 256 % 256)) = o := by rw [fl2_lo]; exact sg16_mod h0 h1
theorem sg32_mod (h0 : -2147483648 ≤ i) (h1 : i < 2147483648) : sg32 (i % 4294967296) = i := by unfold sg32; split <;> lia
theorem sg32_lo (h0 : -2147483648 ≤ i) (h1 : i < 2147483648) : sg32 (fl4 (i % 256) (i / 256 % 256) (i / 65536 % 256) (i / 16777216 % 256)) = i := by rw [fl4_lo]; exact sg32_mod h0 h1
theorem lo2_fl {a b : Int} (ha : byteI a = true) (hb : byteI b = true) : lo2 (fl2 a b) = [a, b] := by
 unfold lo2 fl2
 rw [Int.mul_comm b, dm _ ha, dd _ ha, bm hb]
theorem lo4_fl {a b c d : Int} (ha : byteI a = true) (hb : byteI b = true) (hc : byteI c = true) (hd : byteI d = true) : lo4 (fl4 a b c d) = [a, b, c, d] := by
 have e : fl4 a b c d = a + 256 * (b + 256 * (c + 256 * d)) := by unfold fl4; lia
 unfold lo4
 rw [e, dv3, dv2, dm _ ha, dd _ ha, dm _ hb, dd _ hb, dm _ hc, dd _ hc, bm hd]
theorem lo2_emod (w : Int) : lo2 w = lo2 (w % 65536) := by rw [← fl2_lo w, lo2_fl (mod_byte _) (mod_byte _)]; rfl
theorem lo4_emod (w : Int) : lo4 w = lo4 (w % 4294967296) := by rw [← fl4_lo w, lo4_fl (mod_byte _) (mod_byte _) (mod_byte _) (mod_byte _)]; rfl
theorem sg16_emod (w : Int) : sg16 w % 65536 = w % 65536 := by unfold sg16; split; rfl; exact Int.sub_emod_right w 65536
theorem sg32_emod (w : Int) : sg32 w % 4294967296 = w % 4294967296 := by unfold sg32; split; rfl; exact Int.sub_emod_right w 4294967296
theorem lo2_sg {a b : Int} (ha : byteI a = true) (hb : byteI b = true) : lo2 (sg16 (fl2 a b)) = [a, b] := by
 rw [lo2_emod, sg16_emod, ← lo2_emod, lo2_fl ha hb]
theorem lo4_sg {a b c d : Int} (ha : byteI a = true) (hb : byteI b = true) (hc : byteI c = true) (hd : byteI d = true) : lo4 (sg32 (fl4 a b c d)) = [a, b, c, d] := by
 rw [lo4_emod, sg32_emod, ← lo4_emod, lo4_fl ha hb hc hd]
theorem lo2_len (w : Int) : (lo2 w).length = 2 := rfl
theorem lo4_len (w : Int) : (lo4 w).length = 4 := rfl
theorem lo2_byte (w : Int) : (lo2 w).all byteI = true := by unfold lo2; simp [mod_byte]
theorem lo4_byte (w : Int) : (lo4 w).all byteI = true := by unfold lo4; simp [mod_byte]
end
theorem le_cap {n k : Nat} (h : n ≤ k) (hk : Nat.ble k 1000 = true) : n ≤ cap := Nat.le_trans h (Nat.le_trans (Nat.le_of_ble_eq_true hk) (Nat.le_of_ble_eq_true rfl))
noncomputable def octs (rows : List Row) : List Int := rows.flatMap Row.oct
noncomputable def slots (rows : List Row) : Nat := (rows.map Row.sl).sum
noncomputable def begs : Nat → List Row → List Int
 | _, [] => []
 | k, r :: rs => (k : Int) :: begs (k + r.sl) rs
section
variable {r : Row} {a b : List Row} {k x : Nat}
theorem hd_len : r.hd.length = 8 := rfl
theorem oct_len : r.oct.length = 8 * r.sl := by
 unfold Row.oct Row.tl Row.sl
 split <;> rfl
theorem octs_cons (r : Row) (a : List Row) : octs (r :: a) = r.oct ++ octs a := rfl
theorem octs_append : octs (a ++ b) = octs a ++ octs b := List.flatMap_append
theorem slots_cons (r : Row) (a : List Row) : slots (r :: a) = r.sl + slots a := by unfold slots; simp
theorem slots_append : slots (a ++ b) = slots a + slots b := by unfold slots; simp
theorem octs_len : (octs a).length = 8 * slots a := by
 induction a with
 | nil => rfl
 | cons r a ih => rw [octs_cons, slots_cons, List.length_append, ih, oct_len]; lia
theorem sl_le : 1 ≤ r.sl ∧ r.sl ≤ 2 := by unfold Row.sl; split <;> lia
theorem slots_le : a.length ≤ slots a ∧ slots a ≤ 2 * a.length := by
 induction a with
 | nil => exact ⟨Nat.le_refl _, Nat.le_refl _⟩
 | cons r a ih => have := sl_le (r := r); rw [slots_cons, List.length_cons]; lia
theorem len_octs (hn : a.length ≤ 7) : (octs a).length ≤ 112 := by
 rw [octs_len]
 exact Nat.mul_le_mul_left 8 (Nat.le_trans slots_le.2 (Nat.mul_le_mul_left 2 hn))
theorem cap_octs (hn : a.length ≤ 7) : (octs a).length ≤ cap := le_cap (len_octs hn) rfl
theorem cap_rows (hn : a.length ≤ 7) : a.length ≤ cap := le_cap hn rfl
theorem app7 (hn : (a ++ b).length ≤ 7) : a.length ≤ 7 ∧ b.length ≤ 7 := by
 rw [List.length_append] at hn
 exact ⟨Nat.le_trans (Nat.le_add_right _ _) hn, Nat.le_trans (Nat.le_add_left _ _) hn⟩
theorem slots14 (hn : a.length ≤ 7) : slots a ≤ 14 := Nat.le_trans slots_le.2 (Nat.mul_le_mul_left 2 hn)
theorem oct16 : r.oct.length ≤ 16 := by rw [oct_len]; exact Nat.mul_le_mul_left 8 sl_le.2
theorem begs_append : ∀ {k : Nat} {a b : List Row}, begs k (a ++ b) = begs k a ++ begs (k + slots a) b
 | k, [], b => rfl
 | k, r :: a, b => by
  show (k : Int) :: begs (k + r.sl) (a ++ b) = (k : Int) :: (begs (k + r.sl) a ++ begs (k + slots (r :: a)) b)
  rw [begs_append, slots_cons, Nat.add_assoc]
theorem begs_len : ∀ {k : Nat} {a : List Row}, (begs k a).length = a.length
 | k, [] => rfl
 | k, r :: a => by show (begs (k + r.sl) a).length + 1 = a.length + 1; rw [begs_len]
theorem begs_in : ∀ {k : Nat} {a : List Row} {y : Int}, y ∈ begs k a → (k : Int) ≤ y ∧ y < k + slots a
 | k, [], y, h => nomatch h
 | k, r :: a, y, h => by
  have := sl_le (r := r)
  rw [slots_cons]
  rcases List.mem_cons.mp h with rfl | h
  ·lia
  ·have := begs_in h; lia
theorem split : ∀ {rows : List Row} {s : Nat}, s < slots rows → (∃ pre r post, rows = pre ++ r :: post ∧ s = slots pre) ∨ ∃ pre r post, rows = pre ++ r :: post ∧ r.c = 24 ∧ s = slots pre + 1
 | [], s, h => absurd h (Nat.not_lt_zero _)
 | r :: rows, s, h => by
  rw [slots_cons] at h
  by_cases h0 : s = 0
  ·exact .inl ⟨[], r, rows, rfl, h0⟩
  by_cases h1 : s < r.sl
  ·have e : r.c = 24 := by
    unfold Row.sl at h1
    split at h1
    ·assumption
    ·lia
   exact .inr ⟨[], r, rows, rfl, e, by have := sl_le (r := r); show s = 0 + 1; lia⟩
  ·rcases split (rows := rows) (s := s - r.sl) (by lia) with ⟨p, q, t, e, e'⟩ | ⟨p, q, t, e, e1, e'⟩
   ·exact .inl ⟨r :: p, q, t, by rw [e]; rfl, by rw [slots_cons]; lia⟩
   ·exact .inr ⟨r :: p, q, t, by rw [e]; rfl, e1, by rw [slots_cons]; lia⟩
theorem begs_split (a b : List Row) : begs 0 (a ++ r :: b) = begs 0 a ++ ((slots a : Nat) : Int) :: begs (slots a + r.sl) b := by rw [begs_append, Nat.zero_add]; rfl
theorem idx_beg (a b : List Row) : (begs 0 (a ++ r :: b)).idxOf ((slots a : Nat) : Int) = a.length := by
 rw [begs_split, List.idxOf_append, if_neg (fun h => by have := begs_in h; lia), List.idxOf_cons_self, begs_len]; lia
theorem mem_beg (a b : List Row) : ((slots a : Nat) : Int) ∈ begs 0 (a ++ r :: b) := by rw [begs_split]; simp
theorem not_mid (a b : List Row) (h : r.c = 24) : (((slots a + 1 : Nat)) : Int) ∉ begs 0 (a ++ r :: b) := by
 rw [begs_split]
 have e : r.sl = 2 := by unfold Row.sl; rw [if_pos h]
 intro q
 rcases List.mem_append.mp q with q | q
 ·have := begs_in q; lia
 ·rcases List.mem_cons.mp q with q | q
  ·lia
  ·have := begs_in q; lia
theorem below (a b : List Row) (h : r.c = 24) : ((begs 0 (a ++ r :: b)).filter fun y => decide (y < ((slots a + 1 : Nat) : Int))).length = a.length + 1 := by
 rw [begs_split]
 have e : r.sl = 2 := by unfold Row.sl; rw [if_pos h]
 rw [List.filter_append, List.filter_eq_self.mpr (fun y q => decide_eq_true (by have := begs_in q; lia)), List.filter_cons, if_pos (decide_eq_true (by lia)),
  List.filter_eq_nil_iff.mpr (fun y q => by have := begs_in q; simp; lia), List.length_append, begs_len]
 rfl
end
end
section
open PySem PySem.W PySem.Calls PyProof.Rows
noncomputable def stm (b : List Stmt) (j : Nat) : Stmt := (b.drop j).headD (.Pass ⟨0, 0, 0, 0⟩)
noncomputable def ifB (st : Stmt) : List Stmt := match st with
 | .If _ b _ _ => b
 | _ => []
noncomputable def elB (st : Stmt) : List Stmt := match st with
 | .If _ _ b _ => b
 | _ => []
noncomputable def foB (st : Stmt) : List Stmt := match st with
 | .For _ _ b _ _ => b
 | _ => []
@[irreducible] noncomputable def bd (n : String) : List Stmt := (fn n).2.1
@[irreducible] noncomputable def xs (T : Tab) (n : String) (k : Nat) (b : List Stmt) (j : Nat) (m : Loc) : Tr Fl := exsL (ex T 40 (fn n).2.2 k) (b.drop j) m
@[irreducible] noncomputable def x1 (T : Tab) (n : String) (k : Nat) (b : List Stmt) (j : Nat) (m : Loc) : Tr Fl := ex T 40 (fn n).2.2 k (stm b j) m
section
variable {T : Tab} {n : String} {j k : Nat} {m : Loc} {P : D → Prop} {E : Str → D → Prop} {t : Tr Fl} {ds df : List D} {b : List Stmt} {F : List D → Tr D}
noncomputable def RetP (P : D → Prop) : Fl → Prop
 | .ret d => P d
 | .next _ => P .none
 | .cont _ => False
noncomputable def NxP (P : Fl → Prop) (N : Loc → Prop) : Fl → Prop
 | .next m => N m
 | fl => P fl
theorem sat_retD (h : t.sat (RetP P) E) : (t.bind retD).sat P E := by
 refine sat_bd (Tr.sat_mono (fun fl q => ?_) (fun J J q => q) _ h)
 induction fl using Fl.casesOn with
 | ret d => exact q
 | next m => exact q
 | cont m => exact q.elim
theorem run_go (n : String) (df : List D) (m : Loc) (hF : F = runF T (fn n).1.args df (fn n).2.2 (fn n).2.1) (hb : bindD (fn n).1.args ds df = some m) (h : (xs T n 40 (bd n) 0 m).sat (RetP P) E) : (F ds).sat P E := by
 rw [hF]
 unfold runF
 rw [hb]
 unfold xs bd at h
 exact sat_retD h
theorem step {P : Fl → Prop} (t : Tr Fl) (he : x1 T n k b j m = t) (h : t.sat (NxP P fun m' => (xs T n k b (j + 1) m').sat P E) E) (hb : b.drop j = stm b j :: b.drop (j + 1) := by kernel_rfl) : (xs T n k b j m).sat P E := by
 unfold xs at h ⊢
 unfold x1 at he
 rw [hb]
 refine sat_bd (Tr.sat_mono (fun fl q => ?_) (fun J J q => q) _ ?_ (Q := NxP P fun m' => (exsL (ex T 40 (fn n).2.2 k) (b.drop (j + 1)) m').sat P E))
 ·induction fl using Fl.casesOn with
  | next m => exact q
  | _ => exact q
 ·rw [he]
  exact h
theorem fin {P : Fl → Prop} (h : P (.next m)) (hb : b.drop j = [] := by kernel_rfl) : (xs T n k b j m).sat P E := by
 unfold xs
 rw [hb]
 exact h
end
noncomputable def nda {α : Type} (b : Bool) (w : String) (x : Tr α) : Tr α := .br (!b) (.exc w .none) x
theorem sat_nda {α : Type} {P : α → Prop} {E : Str → D → Prop} {b : Bool} {w : String} {x : Tr α} (h : b = true → x.sat P E) (h' : b = false → E w .none) : (nda b w x).sat P E := by
 induction b using Bool.casesOn with
 | true => exact sat_ff (h rfl)
 | false => exact sat_tt (h' rfl)
section
variable {l xs : List Int} {k : Nat}
theorem at_len {y : Int} {ys : List Int} (h : l.drop k = y :: ys) : l.length = k + ys.length + 1 := by
 have := congrArg List.length h
 rw [List.length_drop, List.length_cons] at this
 lia
theorem at_get (h : l.drop k = xs) (j : Nat) : l.getD (((k : Nat) : Int) + ((j : Nat) : Int)).toNat 0 = xs.getD j 0 := by
 rw [← h, show (((k : Nat) : Int) + ((j : Nat) : Int)).toNat = k + j by lia]
 simp [List.getD]
theorem at_get0 (h : l.drop k = xs) : l.getD (((k : Nat) : Int)).toNat 0 = xs.getD 0 0 := by
 have := at_get h 0
 simpa using this
theorem kms_lo_n (n m : Nat) : kms_lo (some ((n : Nat) : Int)) m = min n m := by
 unfold kms_lo
 dsimp only
 rw [if_neg (Int.not_lt.mpr (Int.natCast_nonneg n)), Int.toNat_natCast]
theorem kms_hi_n (n m : Nat) : kms_hi (some ((n : Nat) : Int)) m = min n m := by
 unfold kms_hi
 dsimp only
 rw [if_neg (Int.not_lt.mpr (Int.natCast_nonneg n)), Int.toNat_natCast]
theorem at_cut (h : l.drop k = xs) {i j : Nat} (hx : 0 < xs.length) (hij : i ≤ j) (hj : j ≤ xs.length) : cut l (some ((k : Int) + (i : Int))) (some ((k : Int) + (j : Int))) = (xs.drop i).take (j - i) := by
 have e := congrArg List.length h
 rw [List.length_drop] at e
 have hk : k + j ≤ l.length := by clear h; lia
 rw [← Int.natCast_add, ← Int.natCast_add]
 unfold cut
 rw [kms_lo_n, kms_hi_n, Nat.min_eq_left hk, Nat.min_eq_left (Nat.le_trans (Nat.add_le_add_left hij k) hk), ← h, List.drop_drop, Nat.add_sub_add_left]
theorem capd (h : l.length ≤ cap) : decide (l.length ≤ cap) = true := decide_eq_true h
end
section
variable {P : D → Prop} {E : Str → D → Prop} {l : List Int} {k : Nat} {z0 z1 z2 z3 b0 b1 b2 b3 b4 b5 b6 b7 : Int} {r : List Int}
noncomputable def Zt (l : List Int) (a j : Int) (x : Tr Fl) : Tr Fl := .br (decide (0 ≤ a + j) && decide (a + j < l.length) && decide (l.length ≤ cap)) (nda (l.getD (a + j).toNat 0 == 0) "field must be 0" x) .bad
theorem z_rule {j : Nat} {P : Fl → Prop} {xs : List Int} {x : Tr Fl} (hl : l.length ≤ cap) (h : l.drop k = xs) (hj : j < xs.length) (h1 : xs.getD j 0 = 0 → x.sat P E) (h2 : xs.getD j 0 ≠ 0 → E "field must be 0" .none) : (Zt l k ((j : Nat) : Int) x).sat P E := by
 have e := congrArg List.length h
 rw [List.length_drop] at e
 refine sat_on (by rw [capd hl, decide_eq_true (by lia), decide_eq_true (by lia)]; rfl) (sat_nda (fun q => h1 ?_) fun q => h2 ?_)
 ·rw [at_get h] at q; exact beq_iff_eq.mp q
 ·rw [at_get h] at q; exact fun z => by rw [z] at q; exact no_tf q
theorem u_half0 {a : Int} : x1 T_second_half "second_half" 40 (bd "second_half") 0 [("octets", .bytes l), ("at", .int a)] = .br (decide (l.length ≤ cap)) (nda (decide (8 ≤ (l.length : Int) - a)) "half of a wide load" (.ok (.next [("octets", .bytes l), ("at", .int a)]))) .bad := by kernel_rfl
theorem u_half1 {a : Int} : x1 T_second_half "second_half" 40 (bd "second_half") 1 [("octets", .bytes l), ("at", .int a)] = .br true (Zt l a 0 (Zt l a 1 (Zt l a 2 (Zt l a 3 (.ok (.next [("octets", .bytes l), ("at", .int a), ("spot", .int 3)])))))) .bad := by kernel_rfl
theorem u_half2 {a : Int} : x1 T_second_half "second_half" 40 (bd "second_half") 2 [("octets", .bytes l), ("at", .int a), ("spot", .int 3)] = .br (decide (l.length ≤ cap)) ((((F_from_little [.bytes (cut l (some (a + 4)) (some (a + 8)))]).bind fun d => .ok [d, .int 32]).bind F_signed).bind fun d => .ok (.ret d)) .bad := by kernel_rfl
end
@[irreducible] noncomputable def unIf : List Stmt := ifB (stm (bd "unpack") 5)
noncomputable abbrev upM (l : List Int) (a c b o i : Int) : Loc := [("octets", .bytes l), ("at", .int a), ("code", .int c), ("both", .int b), ("off", .int o), ("imm", .int i)]
noncomputable abbrev upM2 (l : List Int) (a c b o i : Int) (x : D) (e : Int) : Loc := [("octets", .bytes l), ("at", .int a), ("code", .int c), ("both", .int b), ("off", .int o), ("imm", .int i), ("order", x), ("end", .int e)]
section
variable {P : D → Prop} {E : Str → D → Prop} {l : List Int} {k : Nat} {a c b o i e z0 z1 z2 z3 b0 b1 b2 b3 b4 b5 b6 b7 : Int} {r : List Int} {x : D}
theorem fl2_le (ha : byteI b0 = true) (hb : byteI b1 = true) : 0 ≤ fl2 b0 b1 ∧ fl2 b0 b1 < 65536 := by
 have := byte_le ha; have := byte_le hb
 unfold fl2; lia
theorem fl4_le (ha : byteI b0 = true) (hb : byteI b1 = true) (hc : byteI b2 = true) (hd : byteI b3 = true) : 0 ≤ fl4 b0 b1 b2 b3 ∧ fl4 b0 b1 b2 b3 < 4294967296 := by
 have := byte_le ha; have := byte_le hb; have := byte_le hc; have := byte_le hd
 unfold fl4; lia
theorem r_half (hl : l.length ≤ cap) (h : l.drop k = z0 :: z1 :: z2 :: z3 :: b0 :: b1 :: b2 :: b3 :: r) (y0 : byteI b0 = true) (y1 : byteI b1 = true) (y2 : byteI b2 = true) (y3 : byteI b3 = true)
  (hz : z0 = 0 → z1 = 0 → z2 = 0 → z3 = 0 → P (.int (sg32 (fl4 b0 b1 b2 b3)))) (hn : ¬(z0 = 0 ∧ z1 = 0 ∧ z2 = 0 ∧ z3 = 0) → E "field must be 0" .none) : (F_second_half [.bytes l, .int k]).sat P E := by
 have e := at_len h
 simp only [List.length_cons] at e
 refine run_go "second_half" [] [("octets", .bytes l), ("at", .int k)] (by kernel_rfl) (by kernel_rfl) (step _ u_half0 (sat_on (capd hl) (sat_nda (fun J => ?_) fun q => ?_)))
 ·refine step _ u_half1 (sat_tt (z_rule (j := 0) hl h (by simp) (fun e0 => z_rule (j := 1) hl h (by simp) (fun e1 => z_rule (j := 2) hl h (by simp) (fun e2 => z_rule (j := 3) hl h (by simp) (fun e3 => ?_) fun q => ?_) fun q => ?_) fun q => ?_) fun q => ?_))
  ·refine step _ u_half2 (sat_on (capd hl) (sat_bd (sat_bd (sat_bd ?_))))
   have ec : cut l (some ((k : Int) + 4)) (some ((k : Int) + 8)) = [b0, b1, b2, b3] := at_cut (i := 4) (j := 8) h (by simp) (by decide) (by simp)
   rw [ec]
   have q := fl4_le y0 y1 y2 y3
   exact r_from4 y0 y1 y2 y3 (r_sg32 q.1 q.2 (hz e0 e1 e2 e3))
  ·exact hn fun z => q z.2.2.2
  ·exact hn fun z => q z.2.2.1
  ·exact hn fun z => q z.2.1
  ·exact hn fun z => q z.1
 ·have := of_decide_eq_false q
  lia
theorem half_short (hl : l.length ≤ cap) (h : l.length < k + 8) (hn : E "half of a wide load" .none) : (F_second_half [.bytes l, .int k]).sat P E := by
 refine run_go "second_half" [] [("octets", .bytes l), ("at", .int k)] (by kernel_rfl) (by kernel_rfl) (step _ u_half0 (sat_on (capd hl) (sat_nda (fun q => ?_) fun q => hn)))
 have := of_decide_eq_true q
 lia
theorem u_un0 : x1 T_unpack "unpack" 40 (bd "unpack") 0 [("octets", .bytes l), ("at", .int a)] = .br (decide (l.length ≤ cap)) (nda (decide (8 ≤ (l.length : Int) - a)) "half of an order" (.ok (.next [("octets", .bytes l), ("at", .int a)]))) .bad := by kernel_rfl
theorem u_un1 : x1 T_unpack "unpack" 40 (bd "unpack") 1 [("octets", .bytes l), ("at", .int a)] = .br (decide (0 ≤ a) && decide (a < l.length) && decide (l.length ≤ cap)) (.br (decide (0 ≤ a + 1) && decide (a + 1 < l.length) && decide (l.length ≤ cap)) (.br true (.ok (.next [("octets", .bytes l), ("at", .int a), ("code", .int (l.getD a.toNat 0)), ("both", .int (l.getD (a + 1).toNat 0))])) .bad) .bad) .bad := by kernel_rfl
theorem u_un2 : x1 T_unpack "unpack" 40 (bd "unpack") 2 [("octets", .bytes l), ("at", .int a), ("code", .int c), ("both", .int b)] = .br (decide (l.length ≤ cap)) ((((F_from_little [.bytes (cut l (some (a + 2)) (some (a + 4)))]).bind fun d => .ok [d, .int 16]).bind F_signed).bind fun d => .ok (.next [("octets", .bytes l), ("at", .int a), ("code", .int c), ("both", .int b), ("off", d)])) .bad := by kernel_rfl
theorem u_un3 : x1 T_unpack "unpack" 40 (bd "unpack") 3 [("octets", .bytes l), ("at", .int a), ("code", .int c), ("both", .int b), ("off", .int o)] = .br (decide (l.length ≤ cap)) ((((F_from_little [.bytes (cut l (some (a + 4)) (some (a + 8)))]).bind fun d => .ok [d, .int 32]).bind F_signed).bind fun d => .ok (.next [("octets", .bytes l), ("at", .int a), ("code", .int c), ("both", .int b), ("off", .int o), ("imm", d)])) .bad := by kernel_rfl
theorem u_un4 : x1 T_unpack "unpack" 40 (bd "unpack") 4 (upM l a c b o i) = .br true (.br true (.ok (.next (upM2 l a c b o i (.ord c (Builtin.bitAnd b 15) (b.fdiv 16) o i 0) (a + 8)))) .bad) .bad := by kernel_rfl
theorem u_un5 {d s m : Int} : x1 T_unpack "unpack" 40 (bd "unpack") 5 (upM2 l a c b o i (.ord c d s o i m) e) = .br (c == 24) (xs T_unpack "unpack" 39 unIf 0 (upM2 l a c b o i (.ord c d s o i m) e)) (.ok (.next (upM2 l a c b o i (.ord c d s o i m) e))) := by kernel_rfl
theorem u_un5a : x1 T_unpack "unpack" 39 unIf 0 (upM2 l a c b o i x e) = .br true ((((((((((F_second_half [.bytes l, .int e]).bind fun d => .ok [d]).bind fun ds => .ok (.int i :: ds)).bind fun ds => .ok (.int o :: ds)).bind fun ds => .ok (.int (b.fdiv 16) :: ds)).bind fun ds => .ok (.int (Builtin.bitAnd b 15) :: ds)).bind fun ds => .ok (.int c :: ds)).bind ordF).bind fun d => .ok (.next (upM2 l a c b o i d e)))) .bad := by kernel_rfl
theorem u_un5b : x1 T_unpack "unpack" 39 unIf 1 (upM2 l a c b o i x e) = .ok (.next (upM2 l a c b o i x (e + 8))) := by kernel_rfl
theorem u_un6 : x1 T_unpack "unpack" 40 (bd "unpack") 6 (upM2 l a c b o i x e) = (((F_check_order [x]).bind fun d => .ok [d, .int e]).bind fun ds => when (decide (ds.length ≤ cap)) (.tup ds)).bind fun d => .ok (.ret d) := by kernel_rfl
theorem un_end (h : (F_check_order [x]).sat (fun d => P (.tup [d, .int e])) E) : (xs T_unpack "unpack" 40 (bd "unpack") 6 (upM2 l a c b o i x e)).sat (RetP P) E :=
 step _ u_un6 (sat_bd (sat_bd (sat_bd (Tr.sat_mono (fun d q => sat_on (decide_eq_true (by unfold cap; simp)) q) (fun J J q => q) _ h))))
theorem r_unpack (hl : l.length ≤ cap) (h : l.drop k = c :: b :: b0 :: b1 :: b2 :: b3 :: b4 :: b5 :: r) (y0 : byteI b0 = true) (y1 : byteI b1 = true) (y2 : byteI b2 = true) (y3 : byteI b3 = true) (y4 : byteI b4 = true) (y5 : byteI b5 = true)
  (hs : c ≠ 24 → (F_check_order [.ord c (b % 16) (b / 16) (sg16 (fl2 b0 b1)) (sg32 (fl4 b2 b3 b4 b5)) 0]).sat (fun d => P (.tup [d, .int ((k : Int) + 8)])) E)
  (hw : c = 24 → (F_second_half [.bytes l, .int ((k + 8 : Nat) : Int)]).sat (fun m => ∃ m', m = .int m' ∧ (F_check_order [.ord 24 (b % 16) (b / 16) (sg16 (fl2 b0 b1)) (sg32 (fl4 b2 b3 b4 b5)) m']).sat (fun d => P (.tup [d, .int ((k : Int) + 16)])) E) E) : (F_unpack [.bytes l, .int k]).sat P E := by
 have e := at_len h
 simp only [List.length_cons] at e
 refine run_go "unpack" [.int 0] [("octets", .bytes l), ("at", .int k)] (by kernel_rfl) (by kernel_rfl) (step _ u_un0 (sat_on (capd hl) (sat_nda (fun J => ?_) fun q => ?_)))
 ·refine step _ u_un1 (sat_on (by rw [capd hl, decide_eq_true (by lia), decide_eq_true (by lia)]; rfl) (sat_on (by rw [capd hl, decide_eq_true (by lia), decide_eq_true (by lia)]; rfl) (sat_tt ?_)))
  have g0 : l.getD ((k : Int)).toNat 0 = c := at_get0 h
  have g1 : l.getD ((k : Int) + 1).toNat 0 = b := at_get h 1
  rw [g0, g1]
  refine step _ u_un2 (sat_on (capd hl) (sat_bd (sat_bd (sat_bd ?_))))
  have ec : cut l (some ((k : Int) + 2)) (some ((k : Int) + 4)) = [b0, b1] := at_cut (i := 2) (j := 4) h (by simp) (by decide) (by simp)
  rw [ec]
  have q2 := fl2_le y0 y1
  refine r_from2 y0 y1 (r_sg16 q2.1 q2.2 ?_)
  refine step _ u_un3 (sat_on (capd hl) (sat_bd (sat_bd (sat_bd ?_))))
  have ec4 : cut l (some ((k : Int) + 4)) (some ((k : Int) + 8)) = [b2, b3, b4, b5] := at_cut (i := 4) (j := 8) h (by simp) (by decide) (by simp)
  rw [ec4]
  have q4 := fl4_le y2 y3 y4 y5
  refine r_from4 y2 y3 y4 y5 (r_sg32 q4.1 q4.2 ?_)
  refine step _ u_un4 (sat_tt (sat_tt ?_))
  rw [bitAnd_m4, fd _ (by decide)]
  refine step _ u_un5 (sat_br (fun q => ?_) fun q => ?_)
  ·have qc : c = 24 := beq_iff_eq.mp q
   subst qc
   refine step _ u_un5a (sat_tt (sat_bd (sat_bd (sat_bd (sat_bd (sat_bd (sat_bd (sat_bd (sat_bd ?_)))))))))
   refine Tr.sat_mono (fun m' q => ?_) (fun J J q => q) _ (hw rfl)
   obtain ⟨m', rfl, q⟩ := q
   rw [bitAnd_m4, fd _ (by decide)]
   refine step _ u_un5b (fin (un_end ?_))
   rw [show (k : Int) + 8 + 8 = (k : Int) + 16 by lia]
   exact q
  ·exact un_end (hs fun z => by rw [z] at q; exact no_tf q)
 ·have := of_decide_eq_false q
  lia
theorem un_short (hl : l.length ≤ cap) (h : l.length < k + 8) (hn : E "half of an order" .none) : (F_unpack [.bytes l, .int k]).sat P E := by
 refine run_go "unpack" [.int 0] [("octets", .bytes l), ("at", .int k)] (by kernel_rfl) (by kernel_rfl) (step _ u_un0 (sat_on (capd hl) (sat_nda (fun q => ?_) fun q => hn)))
 have := of_decide_eq_true q
 lia
end
section
variable {P : D → Prop} {E : Str → D → Prop} {c d s o i m : Int} {f : List Int} {fd : List D} {r : Row}
noncomputable abbrev oM (c d s o i m : Int) : D := .ord c d s o i m
theorem u_pk0 : x1 T_pack "pack" 40 (bd "pack") 0 [("order", oM c d s o i m)] = (F_check_order [oM c d s o i m]).bind fun J => .ok (.next [("order", oM c d s o i m)]) := by kernel_rfl
theorem u_pk1 : x1 T_pack "pack" 40 (bd "pack") 1 [("order", oM c d s o i m)] = .br true (.br true (.br ((true && ([c, s * 16 + d] : List Int).all byteI) && true) ((F_little [.int o, .int 2]).bind fun x => (bop e0 .Add (.bytes [c, s * 16 + d]) x).bind fun y => (F_little [.int i, .int 4]).bind fun z => (bop e0 .Add y z).bind fun w => .ok (.next [("order", oM c d s o i m), ("first", w)])) .bad) .bad) .bad := by kernel_rfl
theorem u_pk2 {x : D} : x1 T_pack "pack" 40 (bd "pack") 2 [("order", oM c d s o i m), ("first", x)] = .br (!(c == 24)) (.ok (.ret x)) (.ok (.next [("order", oM c d s o i m), ("first", x)])) := by kernel_rfl
theorem u_pk3 : x1 T_pack "pack" 40 (bd "pack") 3 [("order", oM c d s o i m), ("first", .bytes f)] = .br true (.br true ((bop e0 .Add (.bytes f) (.bytes [0, 0, 0, 0])).bind fun y => (F_little [.int m, .int 4]).bind fun z => (bop e0 .Add y z).bind fun w => .ok (.ret w)) .bad) .bad := by kernel_rfl
theorem capn {n : Nat} (h : Nat.ble n 1000 = true) : decide (n ≤ cap) = true := decide_eq_true (by have := Nat.le_of_ble_eq_true h; unfold cap; lia)
theorem r_pack (hc : (F_check_order [.ord c d s o i m]).sat (fun J => byteI c = true ∧ byteI (s * 16 + d) = true ∧ P (.bytes (Row.mk c d s o i m).oct)) E) : (F_pack [.ord c d s o i m]).sat P E := by
 refine run_go "pack" [] [("order", oM c d s o i m)] (by kernel_rfl) (by kernel_rfl) (step _ u_pk0 (sat_bd (Tr.sat_mono (fun J q => ?_) (fun J J q => q) _ hc)))
 obtain ⟨h1, h2, h3⟩ := q
 refine step _ u_pk1 (sat_tt (sat_tt (sat_on (by simp [h1, h2]) (sat_bd (r_little2 (sat_bd (sat_on (capn rfl) (sat_ok (sat_bd (r_little4 (sat_bd (sat_on (capn rfl) (sat_ok ?_)))))))))))))
 refine step _ u_pk2 (sat_br (fun q => ?_) fun q => ?_)
 ·have hn : c ≠ 24 := by simpa using q
  unfold Row.oct Row.tl Row.hd at h3
  rw [if_neg hn] at h3
  rw [show s * 16 + d = d + 16 * s by lia]
  exact h3
 ·have hn : c = 24 := by simpa using q
  unfold Row.oct Row.tl Row.hd at h3
  rw [if_pos hn] at h3
  refine step _ u_pk3 (sat_tt (sat_tt (sat_bd (sat_on (capn rfl) (sat_ok (sat_bd (r_little4 (sat_bd (sat_on (capn rfl) (sat_ok ?_))))))))))
  rw [show s * 16 + d = d + 16 * s by lia]
  exact h3
theorem u_lo0 {f : List D} (hf : f = [.int c, .int d, .int s, .int o, .int i, .int m]) : x1 T_law_octets "_law_octets" 40 (bd "_law_octets") 0 [("fields", .list f)] = .ok (.next [("fields", .list f), ("kind", .int c), ("goal", .int d), ("back", .int s), ("away", .int o), ("number", .int i), ("upper", .int m)]) := by subst hf; kernel_rfl
noncomputable abbrev loM (x : D) (c d s o i m : Int) : Loc := [("fields", x), ("kind", .int c), ("goal", .int d), ("back", .int s), ("away", .int o), ("number", .int i), ("upper", .int m)]
noncomputable abbrev loM2 (x : D) (c d s o i m : Int) (y : D) : Loc := [("fields", x), ("kind", .int c), ("goal", .int d), ("back", .int s), ("away", .int o), ("number", .int i), ("upper", .int m), ("found", y)]
theorem u_lo1 {x : D} : x1 T_law_octets "_law_octets" 40 (bd "_law_octets") 1 (loM x c d s o i m) = .br true (.br true ((F_law_low [.int o, .int 2]).bind fun u => (bop e0 .Add (.list [.int c, .int (d + 16 * s)]) u).bind fun y => (F_law_low [.int i, .int 4]).bind fun z => (bop e0 .Add y z).bind fun w => .ok (.next (loM2 x c d s o i m w))) .bad) .bad := by kernel_rfl
theorem u_lo2 {x : D} : x1 T_law_octets "_law_octets" 40 (bd "_law_octets") 2 (loM2 x c d s o i m (.list fd)) = .br (c == 24) (.br true ((bop e0 .Add (.list fd) (.list [.int 0, .int 0, .int 0, .int 0])).bind fun y => (F_law_low [.int m, .int 4]).bind fun z => (bop e0 .Add y z).bind fun w => .ok (.ret w)) .bad) (.ok (.ret (.list fd))) := by kernel_rfl
theorem r_octets (h : P (.list (r.oct.map .int))) : (F_law_octets [r.L]).sat P E := by
 obtain ⟨c, d, s, o, i, m⟩ := r
 unfold Row.oct Row.tl Row.hd at h
 dsimp only at h
 refine run_go "_law_octets" [] [("fields", .list [.int c, .int d, .int s, .int o, .int i, .int m])] (by kernel_rfl) (by kernel_rfl) (step _ (u_lo0 rfl) ?_)
 refine step _ u_lo1 (sat_tt (sat_tt (sat_bd (r_low2 (sat_bd (sat_on (capn rfl) (sat_ok (sat_bd (r_low4 (sat_bd (sat_on (capn rfl) (sat_ok ?_))))))))))))
 refine step _ u_lo2 (sat_br (fun q => ?_) fun q => ?_)
 ·rw [if_pos (beq_iff_eq.mp q)] at h
  exact sat_tt (sat_bd (sat_on (capn rfl) (sat_ok (sat_bd (r_low4 (sat_bd (sat_on (capn rfl) (sat_ok h))))))))
 ·rw [if_neg (by simpa using q)] at h
  exact h
theorem m_order6 : F_law_order [r.L] = .ok r.O := by kernel_rfl
theorem m_wide : F_is_wide [r.O] = .ok (.bool (r.c == 24)) := by kernel_rfl
theorem m_slots : F_slots_of [r.O] = .br (r.c == 24) (.ok (.int 2)) (.ok (.int 1)) := by kernel_rfl
theorem m_dist : F_distance [r.O] = .br ((r.c == 133 && r.s == 1) || r.c == 6) (.ok (.int r.i)) (.ok (.int r.o)) := by kernel_rfl
theorem r_slots (h : P (.int r.sl)) : (F_slots_of [r.O]).sat P E := by
 rw [m_slots]
 unfold Row.sl at h
 refine sat_br (fun q => ?_) fun q => ?_
 ·rw [if_pos (beq_iff_eq.mp q)] at h; exact h
 ·rw [if_neg (by simpa using q)] at h; exact h
theorem bytes_oct (h : r.Ok) : r.oct.all byteI = true := by
 have f := lg_fx h
 have b1 : byteI r.c = true := by have := f.c0; have := f.c1; unfold byteI; simp; lia
 have b2 : byteI (r.d + 16 * r.s) = true := by have := f.d0; have := f.d1; have := f.s0; have := f.s1; unfold byteI; simp; lia
 unfold Row.oct Row.tl Row.hd
 have e0 : ∀ w, ((0 : Int) :: 0 :: 0 :: 0 :: lo4 w).all byteI = true := fun w => by
  show (true && (true && (true && (true && (lo4 w).all byteI)))) = true
  rw [lo4_byte]; rfl
 have e1 : (r.c :: (r.d + 16 * r.s) :: (lo2 r.o ++ lo4 r.i)).all byteI = true := by
  rw [List.all_cons, List.all_cons, List.all_append, b1, b2, lo2_byte, lo4_byte]; rfl
 rw [List.all_append, e1]
 split
 ·rw [e0]; rfl
 ·rfl
theorem bytes_octs : ∀ {rows : List Row}, (∀ r ∈ rows, r.Ok) → (octs rows).all byteI = true
 | [], _ => rfl
 | r :: rs, h => by rw [octs_cons, List.all_append, bytes_oct (h r (.head _)), bytes_octs fun q hq => h q (.tail _ hq)]; rfl
theorem unpack_row {l t : List Int} {k : Nat} (hl : l.length ≤ cap) (ok : r.Ok) (h : l.drop k = r.oct ++ t) (hp : P (.tup [r.O, .int ((k : Int) + 8 * (r.sl : Nat))])) : (F_unpack [.bytes l, .int k]).sat P E := by
 have f := lg_fx ok
 have m8 : ∀ x : Int, byteI (x % 256) = true := mod_byte
 have e1 : (r.d + 16 * r.s) % 16 = r.d := by have := f.d0; have := f.d1; lia
 have e2 : (r.d + 16 * r.s) / 16 = r.s := by have := f.d0; have := f.d1; lia
 have e3 := sg16_lo f.o0 f.o1
 have e4 := sg32_lo f.i0 f.i1
 have e5 := sg32_lo f.m0 f.m1
 have hk : l.drop k = r.c :: (r.d + 16 * r.s) :: (r.o % 256) :: (r.o / 256 % 256) :: (r.i % 256) :: (r.i / 256 % 256) :: (r.i / 65536 % 256) :: (r.i / 16777216 % 256) :: (r.tl ++ t) := by
  rw [h]; unfold Row.oct Row.hd; rfl
 refine r_unpack hl hk (m8 _) (m8 _) (m8 _) (m8 _) (m8 _) (m8 _) (fun hc => ?_) fun hc => ?_
 ·rw [e1, e2, e3, e4]
  have hm := f.mc hc
  unfold Row.sl at hp
  rw [if_neg hc] at hp
  have ok' : Lg r.c r.d r.s r.o r.i 0 := hm ▸ ok
  refine pass ok' ?_
  unfold Row.O at hp
  rw [hm] at hp
  exact hp
 ·rw [e1, e2, e3, e4]
  have ht : r.tl = 0 :: 0 :: 0 :: 0 :: lo4 r.m := by unfold Row.tl; rw [if_pos hc]
  have h8 : l.drop (k + 8) = 0 :: 0 :: 0 :: 0 :: (r.m % 256) :: (r.m / 256 % 256) :: (r.m / 65536 % 256) :: (r.m / 16777216 % 256) :: t := by
   rw [← List.drop_drop, hk, ht]; rfl
  refine r_half hl h8 (m8 _) (m8 _) (m8 _) (m8 _) (fun J J J J => ⟨_, rfl, ?_⟩) fun n => absurd ⟨rfl, rfl, rfl, rfl⟩ n
  rw [e5]
  have ok' : Lg 24 r.d r.s r.o r.i r.m := hc ▸ ok
  refine pass ok' ?_
  unfold Row.sl Row.O at hp
  rw [if_pos hc, hc] at hp
  exact hp
theorem unpack_first {l : List Int} {k : Nat} (hl : l.length ≤ cap) (hc : r.c = 24) (h : l.drop k = r.hd) (hE : ∀ w : String, E w .none) : (F_unpack [.bytes l, .int k]).sat P E := by
 have m8 : ∀ x : Int, byteI (x % 256) = true := mod_byte
 have hk : l.drop k = r.c :: (r.d + 16 * r.s) :: (r.o % 256) :: (r.o / 256 % 256) :: (r.i % 256) :: (r.i / 256 % 256) :: (r.i / 65536 % 256) :: (r.i / 16777216 % 256) :: [] := by
  rw [h]; rfl
 refine r_unpack hl hk (m8 _) (m8 _) (m8 _) (m8 _) (m8 _) (m8 _) (fun q => absurd hc q) fun J => half_short hl ?_ (hE _)
 have := at_len hk
 simp at this
 lia
theorem unpack_second {l t : List Int} {k : Nat} {w : Int} (hl : l.length ≤ cap) (h : l.drop k = 0 :: 0 :: 0 :: 0 :: (lo4 w ++ t)) (hE : ∀ w : String, E w .none) : (F_unpack [.bytes l, .int k]).sat P E := by
 have m8 : ∀ x : Int, byteI (x % 256) = true := mod_byte
 refine r_unpack (r := t) hl (show _ = 0 :: 0 :: 0 :: 0 :: (w % 256) :: (w / 256 % 256) :: (w / 65536 % 256) :: (w / 16777216 % 256) :: t from h) rfl rfl (m8 _) (m8 _) (m8 _) (m8 _) (fun J => refused hE) fun q => by cases q
end
noncomputable def menu (xs : List Int) (k : Int) : Int := xs.getD k.toNat 0
noncomputable def mnu {α : Type} (xs : List Int) (k : Int) (x : Tr α) : Tr α := .br (decide (0 ≤ k) && decide (k < xs.length) && true && true) x .bad
theorem sat_mnu {α : Type} {P : α → Prop} {E : Str → D → Prop} {xs : List Int} {k : Int} {x : Tr α} {n : Int} (h0 : 0 ≤ k) (h1 : k < n) (hx : ((xs.length : Nat) : Int) = n) (h : menu xs k ∈ xs → x.sat P E) : (mnu xs k x).sat P E := by
 subst hx
 refine sat_on (by rw [decide_eq_true h0, decide_eq_true h1]; rfl) (h ?_)
 unfold menu
 have h2 : k.toNat < xs.length := by lia
 rw [List.getD, List.getElem?_eq_getElem h2]
 exact List.getElem_mem h2
theorem sat_ret {P : D → Prop} {N : Loc → Prop} {E : Str → D → Prop} {d : D} (h : P d) : (Tr.ok (Fl.ret d)).sat (NxP (RetP P) N) E := h
noncomputable abbrev lfM (c l w a b u o i p d : Int) : Loc := [("cell", .int c), ("left", .int l), ("way", .int w), ("goal", .int a), ("back", .int b), ("low", .int u), ("away", .int o), ("number", .int i), ("part", .int p), ("deep", .int d)]
noncomputable def mAway (x : Int) : List Int := [0, 1, -1, 32767, -32768, 5, -3, x]
noncomputable def mNum (x : Int) : List Int := [0, 1, -1, 2147483647, -2147483648, 77, x]
noncomputable def mMore (x : Int) : List Int := [0, -1, 24, 5, x, -2147483648]
noncomputable def mDeed : List Int := [0, 1, 2, 4, 5, 10, 11, 6, 7, 12]
noncomputable def mTest : List Int := [1, 2, 3, 4, 5, 6, 7, 10, 11, 12, 13]
noncomputable def mAtom : List Int := [0, 65, 80, 161, 225, 241]
noncomputable abbrev rw6 (c d s o i m : Int) : Tr Fl := .ok (.ret (Row.mk c d s o i m).L)
section
variable {P : Fl → Prop} {E : Str → D → Prop} {c l w a b u o i p d : Int}
noncomputable abbrev lf (j : Nat) (m : Loc) : Tr Fl := x1 T_law_fields "_law_fields" 40 (bd "_law_fields") j m
theorem lf0 : lf 0 [("cell", .int c)] = B1 2 (.ok (.next [("cell", .int c), ("left", .int (c.fmod 6277101735386680763835789423207666416102355444464034512896))])) := by kernel_rfl
theorem lf1 : lf 1 [("cell", .int c), ("left", .int l)] = B1 3 (.ok (.next [("cell", .int c), ("left", .int (l.fdiv 17)), ("way", .int (l.fmod 17))])) := by kernel_rfl
theorem lf2 : lf 2 [("cell", .int c), ("left", .int l), ("way", .int w)] = B1 5 (.ok (.next [("cell", .int c), ("left", .int (l.fdiv 121)), ("way", .int w), ("goal", .int (l.fmod 11)), ("back", .int ((l.fdiv 11).fmod 11))])) := by kernel_rfl
theorem lf3 : lf 3 [("cell", .int c), ("left", .int l), ("way", .int w), ("goal", .int a), ("back", .int b)] = B1 2 (mnu [7, 4] (l.fmod 2) (B1 2 (.ok (.next [("cell", .int c), ("left", .int (l.fdiv 2)), ("way", .int w), ("goal", .int a), ("back", .int b), ("low", .int (menu [7, 4] (l.fmod 2)))])))) := by kernel_rfl
theorem lf4 : lf 4 [("cell", .int c), ("left", .int l), ("way", .int w), ("goal", .int a), ("back", .int b), ("low", .int u)] = B1 5 (mnu (mAway ((l.fdiv 8).fmod 32768)) (l.fmod 8) (B1 2 (.ok (.next [("cell", .int c), ("left", .int (l.fdiv 8)), ("way", .int w), ("goal", .int a), ("back", .int b), ("low", .int u), ("away", .int (menu (mAway ((l.fdiv 8).fmod 32768)) (l.fmod 8)))])))) := by kernel_rfl
theorem lf5 : lf 5 [("cell", .int c), ("left", .int l), ("way", .int w), ("goal", .int a), ("back", .int b), ("low", .int u), ("away", .int o)] = B1 7 (mnu (mNum ((l.fdiv 7).fmod 2147483648)) (l.fmod 7) (B1 2 (.ok (.next [("cell", .int c), ("left", .int (l.fdiv 7)), ("way", .int w), ("goal", .int a), ("back", .int b), ("low", .int u), ("away", .int o), ("number", .int (menu (mNum ((l.fdiv 7).fmod 2147483648)) (l.fmod 7)))])))) := by kernel_rfl
theorem lf6 : lf 6 [("cell", .int c), ("left", .int l), ("way", .int w), ("goal", .int a), ("back", .int b), ("low", .int u), ("away", .int o), ("number", .int i)] = B1 3 (.ok (.next (lfM c l w a b u o i (l.fmod 16) (l.fdiv 16)))) := by kernel_rfl
noncomputable abbrev nxt (c l w a b u o i p d : Int) : Tr Fl := .ok (.next (lfM c l w a b u o i p d))
theorem lf7 : lf 7 (lfM c l w a b u o i p d) = .br (decide (w < 2)) (B1 2 (mnu mDeed (p.fmod 10) (.br (w == 0) (B1 2 (rw6 (16 * menu mDeed (p.fmod 10) + 8 + u) a b 0 0 0))
  (B1 3 (.br (!([PyData.int 6, .int 7, .int 12].any fun y => y.eqv (.int (menu mDeed (p.fmod 10))))) (B1 1 (rw6 (16 * menu mDeed (p.fmod 10) + u) a 0 0 i 0)) (B1 2 (rw6 (16 * menu mDeed (p.fmod 10) + u) a 0 0 (d.fmod 32) 0))))))) (nxt c l w a b u o i p d) := by kernel_rfl
theorem lf8 : lf 8 (lfM c l w a b u o i p d) = .br (decide (w < 5)) (.br (decide (w < 4)) (B1 5 (mnu (mMore (d.fmod 2147483648)) (p.fmod 6) (B1 1 (rw6 24 a 0 0 i (menu (mMore (d.fmod 2147483648)) (p.fmod 6)))))) (B1 1 (rw6 24 a 1 0 p 0))) (nxt c l w a b u o i p d) := by kernel_rfl
theorem lf9 : lf 9 (lfM c l w a b u o i p d) = .br (w == 5) (B1 3 (rw6 (97 + 8 * p.fmod 4) a b o 0 0)) (nxt c l w a b u o i p d) := by kernel_rfl
theorem lf10 : lf 10 (lfM c l w a b u o i p d) = .br (w == 6) (B1 3 (rw6 (99 + 8 * p.fmod 4) a b o 0 0)) (nxt c l w a b u o i p d) := by kernel_rfl
theorem lf11 : lf 11 (lfM c l w a b u o i p d) = .br (w == 7) (B1 3 (rw6 (98 + 8 * p.fmod 4) a 0 o i 0)) (nxt c l w a b u o i p d) := by kernel_rfl
theorem lf12 : lf 12 (lfM c l w a b u o i p d) = .br (w == 8) (B1 5 (mnu mAtom ((p.fdiv 2).fmod 6) (B1 1 (rw6 (195 + 24 * p.fmod 2) a b o (menu mAtom ((p.fdiv 2).fmod 6)) 0)))) (nxt c l w a b u o i p d) := by kernel_rfl
theorem lf13 : lf 13 (lfM c l w a b u o i p d) = .br (w == 9) (B1 1 (rw6 5 0 0 o 0 0)) (nxt c l w a b u o i p d) := by kernel_rfl
theorem lf14 : lf 14 (lfM c l w a b u o i p d) = .br (w == 10) (B1 1 (rw6 6 0 0 0 i 0)) (nxt c l w a b u o i p d) := by kernel_rfl
theorem lf15 : lf 15 (lfM c l w a b u o i p d) = .br (decide (w < 13)) (B1 2 (mnu mTest (p.fmod 11) (B1 2 (.br (w == 11) (B1 2 (rw6 (16 * menu mTest (p.fmod 11) + 13 + d.fmod 2) a b o 0 0)) (B1 2 (rw6 (16 * menu mTest (p.fmod 11) + 5 + d.fmod 2) a 0 o i 0)))))) (nxt c l w a b u o i p d) := by kernel_rfl
theorem lf16 : lf 16 (lfM c l w a b u o i p d) = .br (w == 13) (B1 1 (rw6 133 0 0 0 i 0)) (nxt c l w a b u o i p d) := by kernel_rfl
theorem lf17 : lf 17 (lfM c l w a b u o i p d) = .br (w == 14) (B1 1 (rw6 133 0 1 0 i 0)) (nxt c l w a b u o i p d) := by kernel_rfl
theorem lf18 : lf 18 (lfM c l w a b u o i p d) = .br (w == 15) (B1 1 (rw6 149 0 0 0 0 0)) (B1 1 (rw6 (128 + u) a 0 0 0 0)) := by kernel_rfl
end
theorem all_mem {p : Int → Bool} {xs : List Int} (h : xs.all p = true) {v : Int} (m : v ∈ xs) : p v = true := List.all_eq_true.mp h v m
noncomputable def aluC (n u : Int) : Bool := aluRB (16 * n + 8 + u) && (aluIB (16 * n + u) && (shB (16 * n + u) == (n == 6 || (n == 7 || n == 12))))
theorem alu_all : ([7, 4] : List Int).all (fun u => mDeed.all fun n => aluC n u) = true := by decide +kernel
noncomputable def brC (n t : Int) : Bool := (brB (16 * n + 13 + t) && reg (16 * n + 13 + t)) && (brB (16 * n + 5 + t) && !reg (16 * n + 5 + t))
theorem br_all : ([0, 1] : List Int).all (fun t => mTest.all fun n => brC n t) = true := by decide +kernel
noncomputable def memC (p : Int) : Bool := memB 1 (97 + 8 * p) && (memB 3 (99 + 8 * p) && memB 2 (98 + 8 * p))
theorem mem_all : ([0, 1, 2, 3] : List Int).all memC = true := by decide +kernel
theorem at_all : ([0, 1] : List Int).all (fun t => atB (195 + 24 * t)) = true := by decide +kernel
theorem neg_all : ([7, 4] : List Int).all (fun u => negB (128 + u)) = true := by decide +kernel
theorem fm_lt (x : Int) {n : Int} (h : 0 < n) : 0 ≤ x.fmod n ∧ x.fmod n < n := ⟨Int.fmod_nonneg_of_pos x h, Int.fmod_lt_of_pos x h⟩
theorem mem2 (x : Int) : x.fmod 2 ∈ ([0, 1] : List Int) := by
 have := fm_lt x (n := 2) (by decide)
 rcases (by lia : x.fmod 2 = 0 ∨ x.fmod 2 = 1) with q | q <;> rw [q] <;> decide
theorem mem4 (x : Int) : x.fmod 4 ∈ ([0, 1, 2, 3] : List Int) := by
 have := fm_lt x (n := 4) (by decide)
 rcases (by lia : x.fmod 4 = 0 ∨ x.fmod 4 = 1 ∨ x.fmod 4 = 2 ∨ x.fmod 4 = 3) with q | q | q | q <;> rw [q] <;> decide
theorem fit_of {b x : Int} (h0 : -b ≤ x) (h1 : x < b) : fits b x = true := by unfold fits; simp; lia
theorem rg_of {x : Int} (h0 : 0 ≤ x) (h1 : x < 11) : rg x = true := by unfold rg; simp; lia
section
variable {P : D → Prop} {E : Str → D → Prop} {c l w a b u o i p d : Int}
theorem lf_tail (hu : u ∈ ([7, 4] : List Int)) (w0 : 0 ≤ w) (w1 : w < 17) (ha : rg a = true) (hb : rg b = true) (ho : f16 o = true) (hi : f32 i = true) (p0 : 0 ≤ p) (p1 : p < 16) (h : ∀ r : Row, r.Ok → P r.L) :
  (xs T_law_fields "_law_fields" 40 (bd "_law_fields") 7 (lfM c l w a b u o i p d)).sat (RetP P) E := by
 have m10 := fm_lt p (n := 10) (by decide)
 have m6 := fm_lt p (n := 6) (by decide)
 have m11 := fm_lt p (n := 11) (by decide)
 have m62 := fm_lt (p.fdiv 2) (n := 6) (by decide)
 refine step _ lf7 (sat_br (fun q => sat_B1 (sat_mnu m10.1 m10.2 rfl fun hm => ?_) 2) fun J => ?_)
 ·have hc := all_mem (all_mem alu_all hu) hm
  generalize menu mDeed (p.fmod 10) = n at *
  unfold aluC at hc
  simp only [Bool.and_eq_true] at hc
  obtain ⟨c1, c2, c3⟩ := hc
  refine sat_br (fun J => sat_B1 (sat_ret (h ⟨_, a, b, 0, 0, 0⟩ (.aluR c1 ha hb))) 2) fun J => sat_B1 (sat_br (fun q => sat_B1 (sat_ret (h ⟨_, a, 0, 0, i, 0⟩ (.aluI c2 ha hi fun z => ?_))) 1) fun q => sat_B1 (sat_ret (h ⟨_, a, 0, 0, d.fmod 32, 0⟩ (.aluI c2 ha ?_ fun J => fm_lt d (by decide)))) 2) 3
  ·rw [z] at c3
   exfalso
   have e : ([PyData.int 6, .int 7, .int 12].any fun y => y.eqv (.int n)) = ((6 : Int) == n || ((7 : Int) == n || ((12 : Int) == n || false))) := by
    simp only [List.any_cons, List.any_nil, PyData.eqv]
   rw [e] at q
   simp at q c3
   lia
  ·have := fm_lt d (n := 32) (by decide)
   show f32 (d.fmod 32) = true
   exact fit_of (by lia) (by lia)
 refine step _ lf8 (sat_br (fun J => sat_br (fun J => sat_B1 (sat_mnu m6.1 m6.2 rfl fun hm => sat_B1 (sat_ret (h ⟨24, a, 0, 0, i, _⟩ (.wide ha hi ?_))) 1) 5) fun J => sat_B1 (sat_ret (h ⟨24, a, 1, 0, p, 0⟩ (.map ha (show f32 p = true from fit_of (by lia) (by lia))))) 1) fun J => ?_)
 ·have e : (mMore (d.fmod 2147483648)).all f32 = true := by
   have := fm_lt d (n := 2147483648) (by decide)
   have e2 : f32 (d.fmod 2147483648) = true := fit_of (by lia) (by lia)
   show (f32 0 && (f32 (-1) && (f32 24 && (f32 5 && (f32 (d.fmod 2147483648) && (f32 (-2147483648) && true)))))) = true
   rw [e2]; rfl
  exact all_mem e hm
 have c4 := all_mem mem_all (mem4 p)
 unfold memC at c4
 simp only [Bool.and_eq_true] at c4
 obtain ⟨d1, d2, d3⟩ := c4
 refine step _ lf9 (sat_br (fun J => sat_B1 (sat_ret (h ⟨_, a, b, o, 0, 0⟩ (.ldx d1 ha hb ho))) 3) fun J => ?_)
 refine step _ lf10 (sat_br (fun J => sat_B1 (sat_ret (h ⟨_, a, b, o, 0, 0⟩ (.stx d2 ha hb ho))) 3) fun J => ?_)
 refine step _ lf11 (sat_br (fun J => sat_B1 (sat_ret (h ⟨_, a, 0, o, i, 0⟩ (.st d3 ha ho hi))) 3) fun J => ?_)
 refine step _ lf12 (sat_br (fun J => sat_B1 (sat_mnu m62.1 m62.2 rfl fun hm => sat_B1 (sat_ret (h ⟨_, a, b, o, _, 0⟩ (.atom (all_mem at_all (mem2 p)) ha hb ho hm))) 1) 5) fun J => ?_)
 refine step _ lf13 (sat_br (fun J => sat_B1 (sat_ret (h ⟨5, 0, 0, o, 0, 0⟩ (.ja ho))) 1) fun J => ?_)
 refine step _ lf14 (sat_br (fun J => sat_B1 (sat_ret (h ⟨6, 0, 0, 0, i, 0⟩ (.jal hi))) 1) fun J => ?_)
 refine step _ lf15 (sat_br (fun J => sat_B1 (sat_mnu m11.1 m11.2 rfl fun hm => sat_B1 ?_ 2) 2) fun J => ?_)
 ·have hc := all_mem (all_mem br_all (mem2 d)) hm
  unfold brC at hc
  obtain ⟨c1, c2⟩ := Bool.and_eq_true_iff.mp hc
  exact sat_br (fun J => sat_B1 (sat_ret (h ⟨_, a, b, o, 0, 0⟩ (.brR c1 ha hb ho))) 2) fun J => sat_B1 (sat_ret (h ⟨_, a, 0, o, i, 0⟩ (.brI c2 ha ho hi))) 2
 refine step _ lf16 (sat_br (fun J => sat_B1 (sat_ret (h ⟨133, 0, 0, 0, i, 0⟩ (.call rfl hi))) 1) fun J => ?_)
 refine step _ lf17 (sat_br (fun J => sat_B1 (sat_ret (h ⟨133, 0, 1, 0, i, 0⟩ (.call rfl hi))) 1) fun J => ?_)
 exact step _ lf18 (sat_br (fun J => sat_B1 (sat_ret (h ⟨149, 0, 0, 0, 0, 0⟩ .exit)) 1) fun J => sat_B1 (sat_ret (h ⟨_, a, 0, 0, 0, 0⟩ (.neg (all_mem neg_all hu) ha))) 1)
theorem r_fields (h : ∀ r : Row, r.Ok → P r.L) : (F_law_fields [.int c]).sat P E := by
 refine run_go "_law_fields" [] [("cell", .int c)] (by kernel_rfl) (by kernel_rfl) (step _ lf0 (sat_B1 (step _ lf1 (sat_B1 (step _ lf2 (sat_B1 ?_ 5)) 3)) 2))
 generalize c.fmod 6277101735386680763835789423207666416102355444464034512896 = x
 have h17 := fm_lt x (n := 17) (by decide)
 generalize x.fmod 17 = w at *
 generalize x.fdiv 17 = x at *
 have hd := fm_lt x (n := 11) (by decide)
 have hs := fm_lt (x.fdiv 11) (n := 11) (by decide)
 generalize x.fmod 11 = d at *
 generalize (x.fdiv 11).fmod 11 = s at *
 generalize x.fdiv 121 = x at *
 have h2 := fm_lt x (n := 2) (by decide)
 refine step _ lf3 (sat_B1 (sat_mnu h2.1 h2.2 rfl fun hu => sat_B1 ?_ 2) 2)
 generalize menu [7, 4] (x.fmod 2) = u at *
 generalize x.fdiv 2 = x at *
 have h8 := fm_lt x (n := 8) (by decide)
 refine step _ lf4 (sat_B1 (sat_mnu h8.1 h8.2 rfl fun ho => sat_B1 ?_ 2) 5)
 have ho' : f16 (menu (mAway ((x.fdiv 8).fmod 32768)) (x.fmod 8)) = true := by
  have e : (mAway ((x.fdiv 8).fmod 32768)).all f16 = true := by
   have := fm_lt (x.fdiv 8) (n := 32768) (by decide)
   have e2 : f16 ((x.fdiv 8).fmod 32768) = true := fit_of (by lia) (by lia)
   show (f16 0 && (f16 1 && (f16 (-1) && (f16 32767 && (f16 (-32768) && (f16 5 && (f16 (-3) && (f16 ((x.fdiv 8).fmod 32768) && true)))))))) = true
   rw [e2]; rfl
  exact all_mem e ho
 clear ho
 generalize menu (mAway ((x.fdiv 8).fmod 32768)) (x.fmod 8) = o at *
 generalize x.fdiv 8 = x at *
 have h7 := fm_lt x (n := 7) (by decide)
 refine step _ lf5 (sat_B1 (sat_mnu h7.1 h7.2 rfl fun hi => sat_B1 ?_ 2) 7)
 have hi' : f32 (menu (mNum ((x.fdiv 7).fmod 2147483648)) (x.fmod 7)) = true := by
  have e : (mNum ((x.fdiv 7).fmod 2147483648)).all f32 = true := by
   have := fm_lt (x.fdiv 7) (n := 2147483648) (by decide)
   have e2 : f32 ((x.fdiv 7).fmod 2147483648) = true := fit_of (by lia) (by lia)
   show (f32 0 && (f32 1 && (f32 (-1) && (f32 2147483647 && (f32 (-2147483648) && (f32 77 && (f32 ((x.fdiv 7).fmod 2147483648) && true))))))) = true
   rw [e2]; rfl
  exact all_mem e hi
 clear hi
 generalize menu (mNum ((x.fdiv 7).fmod 2147483648)) (x.fmod 7) = i at *
 generalize x.fdiv 7 = x at *
 have h16 := fm_lt x (n := 16) (by decide)
 exact step _ lf6 (sat_B1 (lf_tail hu h17.1 h17.2 (rg_of hd.1 hd.2) (rg_of hs.1 hs.2) ho' hi' h16.1 h16.2 h) 3)
end
section
variable {α β : Type} {P : α → Prop} {E E' : Str → D → Prop}
theorem sat_noexc : ∀ {t : Tr α}, t.sat P (fun J J => False) → (noExc t).sat P E
 | .ok a, h => h
 | .exc _ _, h => h.elim
 | .bad, h => h
 | .br b x y, h => ⟨fun q => sat_noexc (h.1 q), fun q => sat_noexc (h.2 q)⟩
theorem sat_heard {P : D → Prop} {E : Str → D → Prop} : ∀ {t : Tr D}, t.sat (fun d => P (.list [d])) (fun J a => P (.tup [.str "refused", a])) → (heardOf t).sat P E
 | .ok d, h => h
 | .exc w a, h => h
 | .bad, h => h
 | .br b x y, h => ⟨fun q => sat_heard (h.1 q), fun q => sat_heard (h.2 q)⟩
end
theorem allI_map : ∀ os : List Int, allI (os.map D.int) = true
 | [] => rfl
 | _ :: os => allI_map os
theorem intsOf_map : ∀ os : List Int, intsOf (os.map D.int) = os
 | [] => rfl
 | o :: os => by show o :: intsOf (os.map D.int) = _; rw [intsOf_map os]
structure Cp where
 elt : PySem.Expr
 t : PySem.Expr
 ifs : List PySem.Expr
 sc : Scope
noncomputable def lcs : Nat → PySem.Expr → List Cp
 | 0, _ => []
 | _ + 1, .ListComp elt [⟨t, _, ifs, _⟩] sc _ => [⟨elt, t, ifs, sc⟩]
 | n + 1, .BoolOp _ vs _ => vs.flatMap (lcs n)
 | n + 1, .UnaryOp _ x _ => lcs n x
 | n + 1, .IfExp t b o _ => lcs n t ++ (lcs n b ++ lcs n o)
 | n + 1, .Call _ vs _ _ => vs.flatMap (lcs n)
 | n + 1, .Compare l _ vs _ => lcs n l ++ vs.flatMap (lcs n)
 | n + 1, .BinOp l _ r _ => lcs n l ++ lcs n r
 | _ + 1, _ => []
noncomputable def exprOf : Stmt → PySem.Expr
 | .Return (some e) _ => e
 | .Assign _ e _ => e
 | .If e _ _ _ => e
 | _ => e0
noncomputable def cpAt (e : PySem.Expr) (i : Nat) : Cp := (lcs 12 e).getD i ⟨e0, e0, [], default⟩
@[irreducible] noncomputable def cl (T : Tab) (k : Nat) (c : Cp) (m : Loc) (ds : List D) : Tr (List D) := compL (fun e m' => ev T k c.sc e m') c.elt c.t c.ifs (freeOf c.sc m) ds
@[irreducible] noncomputable def ce (T : Tab) (k : Nat) (c : Cp) (m : Loc) (d : D) : Tr D := match bindT c.t d (freeOf c.sc m) with
 | none => .bad
 | some m' => ev T k c.sc c.elt m'
@[irreducible] noncomputable def ct (T : Tab) (k : Nat) (c : Cp) (m : Loc) (d : D) : Tr Bool := match bindT c.t d (freeOf c.sc m) with
 | none => .bad
 | some m' => testsL (fun e => ev T k c.sc e m') c.ifs
inductive All2 (R : D → D → Prop) : List D → List D → Prop
 | nil : All2 R [] []
 | cons {a b as bs} : R a b → All2 R as bs → All2 R (a :: as) (b :: bs)
theorem All2.map {R : D → D → Prop} {β : Type} {f : β → D} {g : β → D} (h : ∀ {a : β} {y : D}, R (f a) y → y = g a) : ∀ {xs : List β} {ys : List D}, All2 R (xs.map f) ys → ys = xs.map g
 | [], _, .nil => rfl
 | x :: xs, _, .cons r rs => by rw [h r, All2.map (f := f) (g := g) h rs]; rfl
section
variable {T : Tab} {k : Nat} {c : Cp} {m : Loc} {P : List D → Prop} {E : Str → D → Prop} {R : D → D → Prop}
theorem compL0 {f : PySem.Expr → Loc → Tr D} {elt t : PySem.Expr} {base m' : Loc} {d : D} {r : List D} (e : bindT t d base = some m') : compL f elt t [] base (d :: r) = (f elt m').bind fun v => (compL f elt t [] base r).bind fun vs => .ok (v :: vs) := by
 show (match bindT t d base with | none => Tr.bad | some m' => (f elt m').bind fun v => (compL f elt t [] base r).bind fun vs => .ok (v :: vs)) = _
 rw [e]
theorem compL1 {f : PySem.Expr → Loc → Tr D} {elt t x : PySem.Expr} {xs : List PySem.Expr} {base m' : Loc} {d : D} {r : List D} (e : bindT t d base = some m') : compL f elt t (x :: xs) base (d :: r) = (testsL (fun e => f e m') (x :: xs)).bind fun b => .br b ((f elt m').bind fun v => (compL f elt t (x :: xs) base r).bind fun vs => .ok (v :: vs)) (compL f elt t (x :: xs) base r) := by
 show (match bindT t d base with | none => Tr.bad | some m' => (testsL (fun e => f e m') (x :: xs)).bind fun b => .br b ((f elt m').bind fun v => (compL f elt t (x :: xs) base r).bind fun vs => .ok (v :: vs)) (compL f elt t (x :: xs) base r)) = _
 rw [e]
theorem r_cl (hi : c.ifs = []) : ∀ {ds : List D} {P : List D → Prop}, (∀ d ∈ ds, (ce T k c m d).sat (R d) (fun J J => False)) → (∀ vs, All2 R ds vs → P vs) → (cl T k c m ds).sat P (fun J J => False)
 | [], P, _, h => by unfold cl; exact h [] .nil
 | d :: ds, P, he, h => by
  have h1 := he d (.head _)
  have ih := r_cl hi (ds := ds) (P := fun vs => ∀ v, R d v → P (v :: vs)) (fun d' q => he d' (.tail _ q)) fun vs r v q => h _ (.cons q r)
  unfold cl at ih ⊢
  unfold ce at h1
  cases e : bindT c.t d (freeOf c.sc m) with
  | none => rw [e] at h1; exact h1.elim
  | some m' =>
   rw [e] at h1
   rw [hi] at ih ⊢
   rw [compL0 e]
   refine sat_bd (Tr.sat_mono (fun v q => sat_bd (Tr.sat_mono (fun vs q' => q' v q) (fun J J q => q) _ ih)) (fun J J q => q) _ h1)
theorem r_clf {p : D → Bool} {t : PySem.Expr} {ts : List PySem.Expr} (hi : c.ifs = t :: ts) : ∀ {ds : List D} {P : List D → Prop}, (∀ d ∈ ds, (ce T k c m d).sat (fun v => v = d) (fun J J => False)) → (∀ d ∈ ds, (ct T k c m d).sat (fun b => b = p d) (fun J J => False)) → P (ds.filter p) → (cl T k c m ds).sat P (fun J J => False)
 | [], P, _, _, h => by unfold cl; exact h
 | d :: ds, P, he, hc, h => by
  have h1 := he d (.head _)
  have h2 := hc d (.head _)
  have ih := r_clf hi (ds := ds) (P := fun vs => P (if p d then d :: vs else vs)) (fun d' q => he d' (.tail _ q)) (fun d' q => hc d' (.tail _ q)) (by rw [List.filter_cons] at h; exact h)
  unfold cl at ih ⊢
  unfold ce at h1
  unfold ct at h2
  cases e : bindT c.t d (freeOf c.sc m) with
  | none => rw [e] at h1; exact h1.elim
  | some m' =>
   rw [e] at h1 h2
   rw [hi] at ih h2 ⊢
   rw [compL1 e]
   refine sat_bd (Tr.sat_mono (fun b q => ?_) (fun J J q => q) _ h2)
   subst q
   refine sat_br (fun q => ?_) fun q => ?_
   ·refine sat_bd (Tr.sat_mono (fun v q2 => sat_bd (Tr.sat_mono (fun vs q' => ?_) (fun J J q => q) _ ih)) (fun J J q => q) _ h1)
    rw [q, if_pos rfl] at q'
    rw [q2]
    exact q'
   ·refine Tr.sat_mono (fun vs q' => ?_) (fun J J q => q) _ ih
    rw [q] at q'
    exact q'
end
section
variable {P : D → Prop} {E : Str → D → Prop} {l t : List Int} {r : Row}
noncomputable abbrev uaL (l : List Int) (n : Nat) (k : Nat) (acc : List D) : Tr D := uaLoop F_unpack l n (k : Int) acc
theorem ua_rows (hl : l.length ≤ cap) : ∀ {rows : List Row} {k n : Nat} {acc : List D}, (∀ r ∈ rows, r.Ok) → l.drop k = octs rows ++ t → rows.length ≤ n → (uaL l (n - rows.length) (k + 8 * slots rows) (acc ++ rows.map Row.O)).sat P E → (uaL l n k acc).sat P E
 | [], k, n, acc, ok, hd, hn, h => by
  rw [List.map_nil, List.append_nil] at h
  exact h
 | r :: rs, k, 0, acc, ok, hd, hn, h => absurd hn (Nat.not_succ_le_zero _)
 | r :: rs, k, n + 1, acc, ok, hd, hn, h => by
  rw [octs_cons, List.append_assoc] at hd
  have e := at_len (show l.drop k = r.c :: _ from hd)
  have hd2 : l.drop (k + 8 * r.sl) = octs rs ++ t := by
   rw [← List.drop_drop, hd, ← oct_len, List.drop_append_of_le_length (Nat.le_refl _), List.drop_length]; rfl
  have ih := ua_rows hl (rows := rs) (k := k + 8 * r.sl) (n := n) (acc := acc ++ [r.O]) (fun q hq => ok q (.tail _ hq)) hd2 (by simp at hn; omega) (by
   rw [slots_cons] at h
   rw [show n + 1 - (r :: rs).length = n - rs.length by simp] at h
   rw [show k + 8 * r.sl + 8 * slots rs = k + 8 * (r.sl + slots rs) by lia, List.append_assoc]
   exact h)
  refine sat_on (decide_eq_true (by lia)) ((Tr.sat_bindX _ _ _).mpr (unpack_row hl (ok r (.head _)) hd ?_))
  show (uaLoop F_unpack l n ((k : Int) + 8 * (r.sl : Nat)) (acc ++ [r.O])).sat P E
  rw [show (k : Int) + 8 * (r.sl : Nat) = ((k + 8 * r.sl : Nat) : Int) by lia]
  exact ih
theorem ua_end {n : Nat} {acc : List D} (h : P (.list acc)) : (uaL l (n + 1) l.length acc).sat P E := by
 exact sat_off (decide_eq_false (by lia)) h
theorem ua_start (hl : l.length ≤ cap) (h : (uaL l (l.length + 1) 0 []).sat P E) : (F_ua [.bytes l]).sat P E := by
 unfold F_ua
 exact sat_on (capd hl) h
theorem rows_le {rows : List Row} : rows.length ≤ (octs rows).length := by
 rw [octs_len]
 exact Nat.le_trans slots_le.1 (Nat.le_mul_of_pos_left _ (by decide))
theorem r_ua {rows : List Row} (ok : ∀ r ∈ rows, r.Ok) (hl : (octs rows).length ≤ cap) (h : P (.list (rows.map Row.O))) : (F_ua [.bytes (octs rows)]).sat P E := by
 have le := rows_le (rows := rows)
 refine ua_start hl (ua_rows (t := []) hl ok (by simp) (Nat.le_succ_of_le le) ?_)
 rw [Nat.zero_add, ← octs_len, Nat.succ_sub le]
 exact ua_end h
theorem r_ua_cut {rows : List Row} (ok : ∀ r ∈ rows, r.Ok) (hc : r.c = 24) (hl : (octs rows ++ r.hd).length ≤ cap) (h : ∀ w, E w (.int rows.length)) : (F_ua [.bytes (octs rows ++ r.hd)]).sat P E := by
 have e := octs_len (a := rows)
 have le : rows.length ≤ (octs rows ++ r.hd).length := by rw [List.length_append]; exact Nat.le_trans rows_le (Nat.le_add_right _ _)
 have lt : ((8 * slots rows : Nat) : Int) < (octs rows ++ r.hd).length := by rw [List.length_append, e, hd_len]; exact Int.ofNat_lt.mpr (Nat.lt_add_of_pos_right (by decide))
 refine ua_start hl (ua_rows (t := r.hd) hl ok (by simp) (Nat.le_succ_of_le le) ?_)
 rw [Nat.succ_sub le, Nat.zero_add]
 refine sat_on (decide_eq_true lt) ((Tr.sat_bindX _ _ _).mpr (unpack_first hl hc (by rw [← e]; simp) fun w => ?_))
 show E w (.int ([] ++ rows.map Row.O).length)
 rw [List.nil_append, List.length_map]
 exact h w
theorem r_ua_mid {w : Int} (hl : l.length ≤ cap) (hd : l = 0 :: 0 :: 0 :: 0 :: (lo4 w ++ t)) (h : ∀ w, E w (.int 0)) : (F_ua [.bytes l]).sat P E := by
 refine ua_start hl ?_
 refine sat_on (decide_eq_true (by rw [hd]; simp only [List.length_cons]; lia)) ((Tr.sat_bindX _ _ _).mpr (unpack_second (k := 0) (t := t) (w := w) hl hd fun w => ?_))
 exact h w
end
@[irreducible] noncomputable def cRead : Cp := cpAt (exprOf (stm (bd "_law_read") 1)) 0
section
variable {P : D → Prop} {E : Str → D → Prop} {xs os : List D} {n : Int} {rows : List Row}
theorem rd0 : x1 T_read.hear "_law_read" 40 (bd "_law_read") 0 [("octs", .list xs)] = .br (allI xs && (intsOf xs).all byteI && decide (xs.length ≤ cap)) ((heardOf (F_ua [.bytes (intsOf xs)])).bind fun d => .ok (.next [("octs", .list xs), ("heard", d)])) .bad := by kernel_rfl
theorem rd1a {x : D} : x1 T_read.hear "_law_read" 40 (bd "_law_read") 1 [("octs", x), ("heard", .tup [.str "refused", .int n])] = .br true (.ok (.ret (.int n))) .bad := by kernel_rfl
theorem rd1b {x : D} : x1 T_read.hear "_law_read" 40 (bd "_law_read") 1 [("octs", x), ("heard", .list [.list os])] = .br false .bad (.br (decide (os.length ≤ cap)) (((noExc (cl T_read.hear 38 cRead [("octs", x), ("heard", .list [.list os])] os)).bind fun ys => when (decide (ys.length ≤ cap)) (.list ys)).bind fun d => .ok (.ret d)) .bad) := by kernel_rfl
theorem rde {m : Loc} {r : Row} (hm : freeOf cRead.sc m = []) : ce T_read.hear 38 cRead m r.O = .ok r.T := by
 unfold ce
 rw [hm]
 kernel_rfl
end
section
variable {P : Bool → Prop} {E : Str → D → Prop}
theorem toPys_ints : ∀ os : List Int, toPys (os.map D.int) = some (os.map PyData.int)
 | [] => rfl
 | o :: os => by
  show (match toPy (D.int o), toPys (os.map D.int) with | some p, some ps => some (p :: ps) | _, _ => none) = _
  rw [toPys_ints os]; rfl
noncomputable def pd (r : Row) : PyData := .tuple [.int r.c, .int r.d, .int r.s, .int r.o, .int r.i, .int r.m]
theorem toPys_rows : ∀ rows : List Row, toPys (rows.map Row.T) = some (rows.map pd)
 | [] => rfl
 | r :: rows => by
  show (match toPy (Row.T r), toPys (rows.map Row.T) with | some p, some ps => some (p :: ps) | _, _ => none) = _
  rw [toPys_rows rows]; rfl
theorem lay_all {β : Type} {f : β → PyData} (h : ∀ x, (f x).canLay0 = true) : ∀ xs : List β, PyData.canLayAll0 (xs.map f) = true
 | [] => rfl
 | x :: xs => by
  show ((f x).canLay0 && PyData.canLayAll0 (xs.map f)) = true
  rw [h, lay_all h xs]; rfl
theorem dep_all {β : Type} {f : β → PyData} {n : Nat} (h : ∀ x, (f x).depth ≤ n) : ∀ xs : List β, PyData.depthAll (xs.map f) ≤ n
 | [] => Nat.zero_le _
 | x :: xs => Nat.max_le.mpr ⟨h x, dep_all h xs⟩
theorem shaped_list {β : Type} {f : β → PyData} (h : ∀ x, (f x).canLay0 = true) (h2 : ∀ x, (f x).depth ≤ 1) (xs : List β) : SeqAt.shaped (.list (xs.map f)) = true := by
 unfold SeqAt.shaped
 rw [show (PyData.list (xs.map f)).canLay0 = PyData.canLayAll0 (xs.map f) from rfl, lay_all h, show (PyData.list (xs.map f)).depth = PyData.depthAll (xs.map f) + 1 from rfl, decide_eq_true (by have := dep_all h2 xs; lia)]
 rfl
theorem shaped_ints (os : List Int) : SeqAt.shaped (.list (os.map PyData.int)) = true := shaped_list (fun J => rfl) (fun J => Nat.zero_le _) os
theorem shaped_rows (rows : List Row) : SeqAt.shaped (.list (rows.map pd)) = true := shaped_list (fun J => rfl) (fun J => Nat.le_refl _) rows
theorem eqv_self (xs : List PyData) (h : PyData.canLayAll0 xs = true) : PyData.eqv (.list xs) (.list xs) = true := SeqAt.eqvAll_refl xs h
theorem deq_rows (rows : List Row) (h : P true) : (deq (.list (rows.map Row.T)) (.list (rows.map Row.T))).sat P E := by
 show (match toPy (.list (rows.map Row.T)), toPy (.list (rows.map Row.T)) with | some p, some q => Tr.br (SeqAt.shaped p && SeqAt.shaped q) (.ok (PyData.eqv p q)) .bad | _, _ => .bad).sat P E
 rw [show toPy (.list (rows.map Row.T)) = some (.list (rows.map pd)) by show (match toPys (rows.map Row.T) with | some ps => some (PyData.list ps) | none => none) = _; rw [toPys_rows]]
 refine sat_on (by rw [shaped_rows]; rfl) ?_
 rw [eqv_self _ (lay_all (fun J => rfl) _)]
 exact h
theorem deq_ints (os : List Int) (h : P true) : (deq (.list (os.map .int)) (.list (os.map .int))).sat P E := by
 show (match toPy (.list (os.map D.int)), toPy (.list (os.map D.int)) with | some p, some q => Tr.br (SeqAt.shaped p && SeqAt.shaped q) (.ok (PyData.eqv p q)) .bad | _, _ => .bad).sat P E
 rw [show toPy (.list (os.map D.int)) = some (.list (os.map PyData.int)) by show (match toPys (os.map D.int) with | some ps => some (PyData.list ps) | none => none) = _; rw [toPys_ints]]
 refine sat_on (by rw [shaped_ints]; rfl) ?_
 rw [eqv_self _ (lay_all (fun J => rfl) _)]
 exact h
theorem deq_row (r : Row) (h : P true) : (deq r.T r.T).sat P E := by
 refine sat_on (x := Tr.ok (PyData.eqv (pd r) (pd r))) rfl ?_
 rw [show PyData.eqv (pd r) (pd r) = true from SeqAt.eqvAll_refl [.int r.c, .int r.d, .int r.s, .int r.o, .int r.i, .int r.m] rfl]
 exact h
theorem any_mem (bs : List Int) (s : Int) : ((bs.map PyData.int).any fun y => PyData.eqv y (.int s)) = decide (s ∈ bs) := by
 induction bs with
 | nil => rfl
 | cons b bs ih =>
  rw [List.map_cons, List.any_cons, ih, show PyData.eqv (.int b) (.int s) = (b == s) from rfl]
  by_cases q : b = s
  ·subst q; simp
  ·have : (b == s) = false := by simpa using q
   rw [this, Bool.false_or]
   simp [List.mem_cons, Ne.symm q]
theorem din_ints (bs : List Int) (s : Int) (h : P (decide (s ∈ bs))) : (din (.int s) (.list (bs.map .int))).sat P E := by
 show (match toPy (.int s), toPys (bs.map D.int) with | some p, some ps => Tr.br (SeqAt.shaped p && SeqAt.shaped (.list ps)) (.ok (ps.any fun y => PyData.eqv y p)) .bad | _, _ => .bad).sat P E
 rw [toPys_ints]
 refine sat_on (by rw [shaped_ints]; rfl) ?_
 rw [any_mem]
 exact h
theorem weight_small {x : Int} (h : x.natAbs < 1024) : (PyData.int x).weight ≤ 10 := by
 show (if x == 0 then 0 else x.natAbs.log2 + 1) ≤ 10
 split
 ·lia
 ·rename_i q
  have hn : x.natAbs ≠ 0 := fun z => q (beq_iff_eq.mpr (by lia))
  have := (Nat.log2_lt hn (k := 10)).mpr h
  lia
theorem weights : ∀ {bs : List Int}, (∀ b ∈ bs, b.natAbs < 1024) → PyData.weightAll (bs.map .int) ≤ 11 * bs.length
 | [], _ => Nat.zero_le _
 | b :: bs, h => by
  have h1 := weight_small (h b (.head _))
  have h2 := weights fun b q => h b (.tail _ q)
  show (PyData.int b).weight + 1 + PyData.weightAll (bs.map .int) ≤ 11 * (bs.length + 1)
  lia
theorem layable_ints {bs : List Int} (h : ∀ b ∈ bs, b.natAbs < 1024) (hn : bs.length ≤ 1000) : PyData.layable0 (.list (bs.map .int)) = true := by
 have h1 := shaped_ints bs
 have h2 := weights h
 unfold SeqAt.shaped at h1
 unfold PyData.layable0
 rw [h1, Bool.true_and, show (PyData.list (bs.map .int)).weight = PyData.weightAll (bs.map .int) from rfl]
 exact decide_eq_true (by lia)
end
@[irreducible] noncomputable def fo (T : Tab) (n : String) (k : Nat) (b : List Stmt) (t : PySem.Expr) (ds : List D) (m : Loc) : Tr Fl := forL (exsL (ex T 40 (fn n).2.2 k) b) t ds m
noncomputable def foT : Stmt → PySem.Expr
 | .For t _ _ _ _ => t
 | _ => e0
section
variable {T : Tab} {n : String} {k : Nat} {b : List Stmt} {t : PySem.Expr} {P : Fl → Prop} {E : Str → D → Prop}
noncomputable def LpP (P : Fl → Prop) (N : Loc → Prop) : Fl → Prop
 | .next m => N m
 | .cont m => N m
 | .ret d => P (.ret d)
theorem forL_some {f : Loc → Tr Fl} {t : PySem.Expr} {d : D} {r : List D} {m m' : Loc} (e : bindT t d m = some m') : forL f t (d :: r) m = (f m').bind fun (fl : Fl) => match fl with | .next m₂ => forL f t r m₂ | .cont m₂ => forL f t r m₂ | .ret d => .ok (.ret d) := by
 show (match bindT t d m with | none => Tr.bad | some m' => (f m').bind fun (fl : Fl) => match fl with | .next m₂ => forL f t r m₂ | .cont m₂ => forL f t r m₂ | .ret d => .ok (.ret d)) = _
 rw [e]
theorem r_fo (Inv : List D → Loc → Prop) (hs : ∀ d r m, Inv (d :: r) m → ∃ m', bindT t d m = some m' ∧ (xs T n k b 0 m').sat (LpP P (Inv r)) E) (he : ∀ m, Inv [] m → P (.next m)) : ∀ ds m, Inv ds m → (fo T n k b t ds m).sat P E
 | [], m, h => by unfold fo; exact he m h
 | d :: r, m, h => by
  obtain ⟨m', e, q⟩ := hs d r m h
  have ih := r_fo Inv hs he r
  unfold fo at ih ⊢
  rw [forL_some e]
  unfold xs at q
  refine sat_bd (Tr.sat_mono (fun fl q => ?_) (fun J J q => q) _ q)
  induction fl using Fl.casesOn with
  | next m => exact ih _ q
  | cont m => exact ih _ q
  | ret d => exact q
theorem nx_lp {Q : Fl → Prop} {N : Loc → Prop} {m : Loc} (h : N m) : NxP Q N (.next m) := h
end
section
variable {P : D → Prop} {E : Str → D → Prop} {os : List Int} {rows : List Row}
theorem r_read (hb : os.all byteI = true) (hc : os.length ≤ cap)
  (h : (F_ua [.bytes os]).sat (fun d => ∃ rows : List Row, d = .list (rows.map Row.O) ∧ rows.length ≤ cap ∧ P (.list (rows.map Row.T))) (fun J a => ∃ n, a = .int n ∧ P (.int n))) : (F_read [.list (os.map .int)]).sat P E := by
 refine run_go "_law_read" [] [("octs", .list (os.map .int))] (by kernel_rfl) (by kernel_rfl) (step _ rd0 (sat_on (by rw [allI_map, intsOf_map, hb, List.length_map, decide_eq_true hc]; rfl) (sat_bd (sat_heard ?_))))
 rw [intsOf_map]
 refine Tr.sat_mono (fun d q => ?_) (fun w a q => ?_) _ h
 ·obtain ⟨rows, rfl, hr, hp⟩ := q
  refine step _ rd1b (sat_off rfl (sat_on (by rw [List.length_map]; exact decide_eq_true hr) (sat_bd (sat_bd (sat_noexc (r_cl (R := fun d v => ∀ r : Row, d = r.O → v = r.T) (by kernel_rfl) (fun d hd => ?_) fun vs hv => ?_))))))
  ·obtain ⟨r, _, rfl⟩ := List.mem_map.mp hd
   rw [rde (by kernel_rfl)]
   intro r' e
   obtain ⟨a1, a2, a3, a4, a5, a6⟩ := r
   obtain ⟨b1, b2, b3, b4, b5, b6⟩ := r'
   cases e
   rfl
  ·have e := All2.map (f := Row.O) (g := Row.T) (fun {r y} q => q r rfl) hv
   subst e
   exact sat_on (by rw [List.length_map]; exact decide_eq_true hr) hp
 ·obtain ⟨n, rfl, hp⟩ := q
  exact step _ rd1a (sat_tt hp)
theorem read_rows (ok : ∀ r ∈ rows, r.Ok) (hl : (octs rows).length ≤ cap) (h : P (.list (rows.map Row.T))) : (F_read [.list ((octs rows).map .int)]).sat P E := by
 exact r_read (bytes_octs ok) hl (r_ua ok hl ⟨rows, rfl, Nat.le_trans rows_le hl, h⟩)
end
noncomputable abbrev nSl : String := "_law_slots_right"
noncomputable abbrev tSl : Tab := T_slots.hear
@[irreducible] noncomputable def slB : List Stmt := foB (stm (bd nSl) 0)
@[irreducible] noncomputable def slT : PySem.Expr := foT (stm (bd nSl) 0)
@[irreducible] noncomputable def slI : List Stmt := ifB (stm slB 1)
noncomputable abbrev slM0 (rl ol bl : List D) : Loc := [("rows", .list rl), ("octs", .list ol), ("begins", .list bl)]
noncomputable abbrev slM (rl ol bl : List D) (s : Int) (tl : Loc) : Loc := ("rows", .list rl) :: ("octs", .list ol) :: ("begins", .list bl) :: ("slot", .int s) :: tl
noncomputable abbrev RF : Tr Fl := .ok (.ret (.bool false))
section
variable {P : D → Prop} {E : Str → D → Prop} {rl ol bl : List D} {s e : Int} {tl m : Loc} {h f a : D} {r : Row}
theorem sl_0 : x1 tSl nSl 40 (bd nSl) 0 (slM0 rl ol bl) = .br (decide (ol.length ≤ cap)) (.br true (.br (decide (-1048576 ≤ (ol.length : Int).fdiv 8) && decide ((ol.length : Int).fdiv 8 ≤ 1048576)) (fo tSl nSl 39 slB slT (rangeD ((ol.length : Int).fdiv 8)) (slM0 rl ol bl)) .bad) .bad) .bad := by kernel_rfl
theorem sl_1 : x1 tSl nSl 40 (bd nSl) 1 m = .ok (.ret (.bool true)) := by kernel_rfl
theorem slT_e {d : D} : bindT slT d m = some (m.set "slot" d) := by kernel_rfl
noncomputable abbrev slU (ol : List D) (s : Int) (k : D → Tr Fl) : Tr Fl := .br (allI ol && (intsOf ol).all byteI && decide (ol.length ≤ cap)) (.br true ((heardOf (F_unpack [.bytes (intsOf ol), .int (8 * s)])).bind k) .bad) .bad
theorem sl0a : x1 tSl nSl 39 slB 0 (slM rl ol bl s []) = slU ol s fun d => .ok (.next (slM rl ol bl s [("heard", d)])) := by kernel_rfl
theorem sl0b : x1 tSl nSl 39 slB 0 (slM rl ol bl s [("heard", h)]) = slU ol s fun d => .ok (.next (slM rl ol bl s [("heard", d)])) := by kernel_rfl
theorem sl0c : x1 tSl nSl 39 slB 0 (slM rl ol bl s [("heard", h), ("fields", f)]) = slU ol s fun d => .ok (.next (slM rl ol bl s [("heard", d), ("fields", f)])) := by kernel_rfl
theorem sl1 : x1 tSl nSl 39 slB 1 (slM rl ol bl s tl) = ((((din (.int s) (.list bl)).bind fun c => .ok (!c)).bind fun c => .ok (.bool c)).bind fun d => (tru d).bind fun c => .br c (xs tSl nSl 38 slI 0 (slM rl ol bl s tl)) (.ok (.next (slM rl ol bl s tl)))) := by kernel_rfl
theorem slI0 : x1 tSl nSl 38 slI 0 (slM rl ol bl s (("heard", .tup [.str "refused", a]) :: tl)) = .br false RF (.ok (.next (slM rl ol bl s (("heard", .tup [.str "refused", a]) :: tl)))) := by kernel_rfl
theorem slI1 : x1 tSl nSl 38 slI 1 m = .ok (.cont m) := by kernel_rfl
noncomputable abbrev slX (rl bl : List D) (s : Int) (k : D → Tr Fl) : Tr Fl := .br (true && allI bl && PyData.layable0 (.list ((intsOf bl).map .int)) && decide (s ∈ intsOf bl)) (.br (decide (0 ≤ (((intsOf bl).idxOf s : Nat) : Int)) && decide ((((intsOf bl).idxOf s : Nat) : Int) < rl.length) && decide (rl.length ≤ cap)) (k (rl.getD (((intsOf bl).idxOf s : Nat) : Int).toNat .none)) .bad) .bad
theorem sl2a : x1 tSl nSl 39 slB 2 (slM rl ol bl s [("heard", h)]) = slX rl bl s fun d => .ok (.next (slM rl ol bl s [("heard", h), ("fields", d)])) := by kernel_rfl
theorem sl2b : x1 tSl nSl 39 slB 2 (slM rl ol bl s [("heard", h), ("fields", f)]) = slX rl bl s fun d => .ok (.next (slM rl ol bl s [("heard", h), ("fields", d)])) := by kernel_rfl
noncomputable abbrev sl3M (rl ol bl : List D) (s e : Int) (r : Row) : Loc := slM rl ol bl s [("heard", .list [.tup [r.O, .int e]]), ("fields", r.L)]
noncomputable abbrev ifK (x y : Tr Fl) (d : D) : Tr Fl := (tru d).bind fun c => .br c x y
theorem sl3 : x1 tSl nSl 39 slB 3 (sl3M rl ol bl s e r) = .br false (.br false RF (.ok (.next (sl3M rl ol bl s e r)))) (.br true (.br true (.br (!PyData.eqv (pd r) (pd r)) (.br (!PyData.eqv (pd r) (pd r)) RF (.ok (.next (sl3M rl ol bl s e r))))
  (.br true ((((((F_law_octets [r.L]).bind fun d => .ok [d]).bind lenF).bind fun b => bop e0 .Add (.int (8 * s)) b).bind fun b => (cop .NotEq (.int e) b).bind fun c => .ok (.bool c)).bind (ifK RF (.ok (.next (sl3M rl ol bl s e r))))) .bad)) .bad) .bad) := by kernel_rfl
end
noncomputable def nums (s c : Nat) : List D := (List.range' s c).map fun (k : Nat) => .int k
theorem rangeD_nums (n : Nat) : rangeD (n : Int) = nums 0 n := by
 unfold rangeD nums
 rw [Int.toNat_natCast, List.range_eq_range']
theorem fdiv_len {os : List Int} {n : Nat} (h : os.length = 8 * n) : (((os.map D.int).length : Nat) : Int).fdiv 8 = (n : Int) := by
 rw [List.length_map, h, fd _ (by decide)]; lia
theorem sat_drop_len {l : List Int} {a b : List Int} (h : l = a ++ b) {n : Nat} (hn : a.length = n) : l.drop n = b := by rw [h, ← hn]; simp
theorem drop_row {pre post : List Row} {r : Row} : (octs (pre ++ r :: post)).drop (8 * slots pre) = r.oct ++ octs post :=
 sat_drop_len (by rw [octs_append, octs_cons]) octs_len
theorem drop_mid {pre post : List Row} {r : Row} (hc : r.c = 24) : (octs (pre ++ r :: post)).drop (8 * (slots pre + 1)) = 0 :: 0 :: 0 :: 0 :: (lo4 r.m ++ octs post) := by
 have e : r.tl = 0 :: 0 :: 0 :: 0 :: lo4 r.m := by unfold Row.tl; rw [if_pos hc]
 have e2 : r.oct ++ octs post = r.hd ++ (0 :: 0 :: 0 :: 0 :: (lo4 r.m ++ octs post)) := by unfold Row.oct; rw [e, List.append_assoc]; rfl
 rw [show 8 * (slots pre + 1) = 8 * slots pre + 8 by lia, ← List.drop_drop, drop_row, e2]
 rfl
theorem getD_map {β : Type} {f : β → D} {a b : List β} {x : β} {y : D} : ((a ++ x :: b).map f).getD a.length y = f x := by
 rw [List.getD, List.map_append, List.getElem?_append_right (by simp)]
 simp
section
variable {P : D → Prop} {E : Str → D → Prop} {rows : List Row}
theorem small_begs (hn : rows.length ≤ 7) : ∀ b ∈ begs 0 rows, b.natAbs < 1024 := fun b hb => by
 have h1 := begs_in hb
 have h2 := slots_le (a := rows)
 lia
noncomputable def SlTl (tl : Loc) : Prop := tl = [] ∨ (∃ h : D, tl = ([("heard", h)] : Loc)) ∨ ∃ h f : D, tl = ([("heard", h), ("fields", f)] : Loc)
noncomputable def SlInv (rl ol bl : List D) (N : Nat) (ds : List D) (m : Loc) : Prop := (∃ s c, s + c = N ∧ ds = nums s c) ∧ (m = slM0 rl ol bl ∨ ∃ s tl, m = slM rl ol bl s tl ∧ SlTl tl)
theorem sl_go {rl bl : List D} {os : List Int} {s : Nat} {tl : Loc} {Q : Fl → Prop} {d : D} (ht : SlTl tl) (hb : os.all byteI = true) (hc : os.length ≤ cap)
  (hu : (F_unpack [.bytes os, .int ((8 * s : Nat) : Int)]).sat (fun x => .list [x] = d) (fun J a => .tup [.str "refused", a] = d))
  (h : ∀ tl' : Loc, (tl' = ([("heard", d)] : Loc) ∨ ∃ f : D, tl' = ([("heard", d), ("fields", f)] : Loc)) → (xs tSl nSl 39 slB 1 (slM rl (os.map .int) bl s tl')).sat Q E) : (xs tSl nSl 39 slB 0 (slM rl (os.map .int) bl s tl)).sat Q E := by
 have key : ∀ {k : D → Tr Fl} {Q' : Fl → Prop}, (k d).sat Q' E → (slU (os.map .int) (s : Int) k).sat Q' E := fun {k Q'} hk => by
  refine sat_on (by rw [allI_map, intsOf_map, hb, List.length_map, decide_eq_true hc]; rfl) (sat_tt (sat_bd (sat_heard ?_)))
  rw [intsOf_map, show 8 * (s : Int) = ((8 * s : Nat) : Int) by lia]
  exact Tr.sat_mono (fun x q => by rw [q]; exact hk) (fun w a q => by rw [q]; exact hk) _ hu
 rcases ht with rfl | ⟨h', rfl⟩ | ⟨h', f, rfl⟩
 ·exact step _ sl0a (key (h _ (.inl rfl)))
 ·exact step _ sl0b (key (h _ (.inl rfl)))
 ·exact step _ sl0c (key (h _ (.inr ⟨f, rfl⟩)))
theorem sl_turn (ok : ∀ r ∈ rows, r.Ok) (hn : rows.length ≤ 7) {s : Nat} (hs : s < slots rows) {tl : Loc} (ht : SlTl tl) {Q : Fl → Prop}
  (h : ∀ tl', SlTl tl' → Q (.next (slM (rows.map Row.L) ((octs rows).map .int) ((begs 0 rows).map .int) s tl')) ∧ Q (.cont (slM (rows.map Row.L) ((octs rows).map .int) ((begs 0 rows).map .int) s tl'))) :
  (xs tSl nSl 39 slB 0 (slM (rows.map Row.L) ((octs rows).map .int) ((begs 0 rows).map .int) s tl)).sat Q E := by
 have ol := octs_len (a := rows)
 have sl := slots_le (a := rows)
 have hb := bytes_octs ok
 have hc := cap_octs hn
 rcases split hs with ⟨pre, r, post, er, es⟩ | ⟨pre, r, post, er, rc, es⟩
 ·have okr : r.Ok := ok r (by rw [er]; simp)
  have hm : ((s : Nat) : Int) ∈ begs 0 rows := by rw [er, es]; exact mem_beg pre post
  refine sl_go (d := .list [.tup [r.O, .int (((8 * s : Nat) : Int) + 8 * (r.sl : Nat))]]) ht hb hc (unpack_row (t := octs post) hc okr (by rw [er, es]; exact drop_row) rfl) fun tl' ht' => ?_
  refine step _ sl1 (sat_bd (sat_bd (sat_bd (din_ints _ _ ?_))))
  rw [decide_eq_true hm]
  refine sat_ff ?_
  have hx : (begs 0 rows).idxOf ((s : Nat) : Int) = pre.length := by rw [er, es]; exact idx_beg pre post
  have key : ∀ {k : D → Tr Fl} {Q' : Fl → Prop}, (k r.L).sat Q' E → (slX (rows.map Row.L) ((begs 0 rows).map .int) (s : Int) k).sat Q' E := fun {k Q'} hk => by
   unfold slX
   rw [allI_map, intsOf_map, layable_ints (small_begs hn) (by rw [begs_len]; lia), decide_eq_true hm, hx, List.length_map]
   have hl : pre.length < rows.length := by rw [er]; simp
   refine sat_on rfl (sat_on (by rw [decide_eq_true (by lia), decide_eq_true (by lia), decide_eq_true (cap_rows hn)]; rfl) ?_)
   rw [Int.toNat_natCast, show (rows.map Row.L).getD pre.length .none = r.L by rw [er]; exact getD_map]
   exact hk
  have fine : ∀ Q' : Fl → Prop, (∀ m : Loc, m = sl3M (rows.map Row.L) ((octs rows).map .int) ((begs 0 rows).map .int) s (((8 * s : Nat) : Int) + 8 * (r.sl : Nat)) r → Q' (.next m)) → (xs tSl nSl 39 slB 3 (sl3M (rows.map Row.L) ((octs rows).map .int) ((begs 0 rows).map .int) s (((8 * s : Nat) : Int) + 8 * (r.sl : Nat)) r)).sat Q' E := fun Q' hq => by
   refine step _ sl3 (sat_ff (sat_tt (sat_tt ?_)))
   rw [show PyData.eqv (pd r) (pd r) = true from SeqAt.eqvAll_refl [.int r.c, .int r.d, .int r.s, .int r.o, .int r.i, .int r.m] rfl]
   refine sat_ff (sat_tt (sat_bd (sat_bd (sat_bd (sat_bd (sat_bd (r_octets ?_)))))))
   have e1 : (r.oct.map D.int).length = 8 * r.sl := by rw [List.length_map]; exact oct_len
   have e2 := sl_le (r := r)
   refine sat_on (decide_eq_true (by rw [List.length_map]; exact le_cap oct16 rfl)) ?_
   show (Tr.br _ _ _).sat _ _
   rw [show ((((8 * s : Nat) : Int) + 8 * (r.sl : Nat)) == 8 * (s : Int) + (((r.oct.map D.int).length : Nat) : Int)) = true from beq_iff_eq.mpr (by rw [e1]; lia)]
   exact sat_ff (fin (hq _ rfl))
  rcases ht' with rfl | ⟨f, rfl⟩
  ·refine step _ sl2a (key ?_)
   exact fine Q fun m e => by rw [e]; exact (h _ (.inr (.inr ⟨_, _, rfl⟩))).1
  ·refine step _ sl2b (key ?_)
   exact fine Q fun m e => by rw [e]; exact (h _ (.inr (.inr ⟨_, _, rfl⟩))).1
 ·have hm : ((s : Nat) : Int) ∉ begs 0 rows := by rw [er, es]; exact not_mid pre post rc
  refine sl_go (d := .tup [.str "refused", .none]) ht hb hc (unpack_second (t := octs post) (w := r.m) hc (by rw [er, es]; exact drop_mid rc) fun w => rfl) fun tl' ht' => ?_
  refine step _ sl1 (sat_bd (sat_bd (sat_bd (din_ints _ _ ?_))))
  rw [decide_eq_false hm]
  refine sat_tt ?_
  rcases ht' with rfl | ⟨f, rfl⟩
  ·exact step _ slI0 (sat_ff (step _ slI1 (h _ (.inr (.inl ⟨_, rfl⟩))).2))
  ·exact step _ slI0 (sat_ff (step _ slI1 (h _ (.inr (.inr ⟨_, _, rfl⟩))).2))
theorem r_slots_right (ok : ∀ r ∈ rows, r.Ok) (hn : rows.length ≤ 7) (h : P (.bool true)) : (F_slots [.list (rows.map Row.L), .list ((octs rows).map .int), .list ((begs 0 rows).map .int)]).sat P E := by
 have ol := octs_len (a := rows)
 have sl := slots_le (a := rows)
 refine run_go nSl [] (slM0 (rows.map Row.L) ((octs rows).map .int) ((begs 0 rows).map .int)) (by kernel_rfl) (by kernel_rfl) (step _ sl_0 (sat_on (by rw [List.length_map]; exact decide_eq_true (cap_octs hn)) (sat_tt ?_)))
 rw [fdiv_len ol, rangeD_nums]
 refine sat_on (by rw [decide_eq_true (by lia), decide_eq_true (by lia)]; rfl) ?_
 refine r_fo (SlInv (rows.map Row.L) ((octs rows).map .int) ((begs 0 rows).map .int) (slots rows)) (fun d r m hi => ?_) (fun m J => step _ sl_1 (sat_ret h)) _ _ ⟨⟨0, slots rows, Nat.zero_add _, rfl⟩, .inl rfl⟩
 refine abs1 fun G0 hG0 => ?_
 obtain ⟨⟨s, c, hs, hds⟩, hm⟩ := hi
 refine hG0 ?_
 clear hG0 G0
 induction c using Nat.casesOn with
 | zero => cases hds
 | succ c =>
  obtain ⟨rfl, rfl⟩ := List.cons.inj (show d :: r = .int s :: nums (s + 1) c from hds)
  refine ⟨_, slT_e, ?_⟩
  have go : ∀ tl, SlTl tl → (xs tSl nSl 39 slB 0 (slM (rows.map Row.L) ((octs rows).map .int) ((begs 0 rows).map .int) s tl)).sat (LpP (NxP (RetP P) fun m' => (xs tSl nSl 40 (bd nSl) (0 + 1) m').sat (RetP P) E) (SlInv (rows.map Row.L) ((octs rows).map .int) ((begs 0 rows).map .int) (slots rows) (nums (s + 1) c))) E := fun tl ht =>
   sl_turn ok hn (by lia) ht fun tl' ht' => ⟨⟨⟨s + 1, c, by lia, rfl⟩, .inr ⟨s, tl', rfl, ht'⟩⟩, ⟨⟨s + 1, c, by lia, rfl⟩, .inr ⟨s, tl', rfl, ht'⟩⟩⟩
  rcases hm with rfl | ⟨s', tl, rfl, ht⟩
  ·exact go [] (.inl rfl)
  ·exact go tl ht
end
noncomputable abbrev nCu : String := "_law_cuts_right"
noncomputable abbrev tCu : Tab := T_cuts
@[irreducible] noncomputable def cDue : Cp := cpAt (exprOf (stm (bd nCu) 0)) 0
@[irreducible] noncomputable def cuB : List Stmt := foB (stm (bd nCu) 1)
@[irreducible] noncomputable def cuT : PySem.Expr := foT (stm (bd nCu) 1)
@[irreducible] noncomputable def cuA : List Stmt := ifB (stm cuB 1)
@[irreducible] noncomputable def cuE : List Stmt := elB (stm cuB 1)
@[irreducible] noncomputable def cCnt : Cp := cpAt (exprOf (stm cuE 0)) 0
noncomputable def tgL : Stmt → List PySem.Expr
 | .Assign [.Tuple ts _ _] _ _ => ts
 | _ => []
@[irreducible] noncomputable def cuTs : List PySem.Expr := tgL (stm cuB 0)
noncomputable abbrev cuM00 (rl ol bl : List D) : Loc := [("rows", .list rl), ("octs", .list ol), ("begins", .list bl)]
noncomputable abbrev cuM0 (rl ol bl : List D) (u : D) : Loc := [("rows", .list rl), ("octs", .list ol), ("begins", .list bl), ("due", u)]
noncomputable abbrev cuM (rl ol bl : List D) (u : D) (s : Int) (tl : Loc) : Loc := ("rows", .list rl) :: ("octs", .list ol) :: ("begins", .list bl) :: ("due", u) :: ("slot", .int s) :: tl
noncomputable def tupK (g : List D → Tr Fl) : D → Tr Fl
 | .tup ds => g ds
 | .list ds => g ds
 | _ => .bad
noncomputable def orK (rest : Tr D) (v : D) : Tr D := match v with
 | .bool b => boolB .Or b (.bool b) rest
 | v => (tru v).bind fun t => .br t (.ok v) rest
noncomputable abbrev lsK (xs : List D) : Tr D := when (decide (xs.length ≤ cap)) (.list xs)
section
variable {P : D → Prop} {E : Str → D → Prop} {rl ol bl a b c : List D} {s p q : Int} {tl m : Loc} {u x y : D} {r : Row}
theorem cu_0 : x1 tCu nCu 40 (bd nCu) 0 (cuM00 rl ol bl) = .br (decide (rl.length ≤ cap)) (((noExc (cl tCu 39 cDue (cuM00 rl ol bl) rl)).bind lsK).bind fun d => .ok (.next (cuM0 rl ol bl d))) .bad := by kernel_rfl
theorem cu_0e (hm : freeOf cDue.sc m = []) : ce tCu 39 cDue m r.L = .br true (.ok r.T) .bad := by
 unfold ce
 rw [hm]
 kernel_rfl
theorem cu_1 : x1 tCu nCu 40 (bd nCu) 1 (cuM0 rl ol bl u) = .br (decide (ol.length ≤ cap)) (.br true (.br (decide (-1048576 ≤ (ol.length : Int).fdiv 8 + 1) && decide ((ol.length : Int).fdiv 8 + 1 ≤ 1048576)) (fo tCu nCu 39 cuB cuT (rangeD ((ol.length : Int).fdiv 8 + 1)) (cuM0 rl ol bl u)) .bad) .bad) .bad := by kernel_rfl
theorem cu_2 : x1 tCu nCu 40 (bd nCu) 2 m = .ok (.ret (.bool true)) := by kernel_rfl
theorem cuT_e {d : D} : bindT cuT d m = some (m.set "slot" d) := by kernel_rfl
theorem cu0 : x1 tCu nCu 39 cuB 0 (cuM rl ol bl u s tl) = .br true (.br (decide (ol.length ≤ cap)) ((((F_read [.list (cut ol none (some (8 * s)))]).bind fun d => .br true (.br (decide (ol.length ≤ cap)) (((F_read [.list (cut ol (some (8 * s)) none)]).bind fun d' => .ok [d']).bind fun ds => .ok (d :: ds)) .bad) .bad).bind fun ds => when (decide (ds.length ≤ cap)) (.tup ds)).bind (tupK fun ds => setO (setAll cuTs ds (cuM rl ol bl u s tl)))) .bad) .bad := by kernel_rfl
theorem cu0a : setO (setAll cuTs [x, y] (cuM rl ol bl u s [])) = .ok (.next (cuM rl ol bl u s [("one", x), ("other", y)])) := by kernel_rfl
theorem cu0b {x' y' : D} : setO (setAll cuTs [x, y] (cuM rl ol bl u s [("one", x'), ("other", y')])) = .ok (.next (cuM rl ol bl u s [("one", x), ("other", y)])) := by kernel_rfl
theorem cu1 : x1 tCu nCu 39 cuB 1 (cuM rl ol bl u s tl) = .br (decide (ol.length ≤ cap)) (B1 2 (.br (decide (bl.length + 1 ≤ cap)) (((din (.int s) (.list (bl ++ [.int ((ol.length : Int).fdiv 8)]))).bind fun c => .ok (.bool c)).bind (ifK (xs tCu nCu 38 cuA 0 (cuM rl ol bl u s tl)) (xs tCu nCu 38 cuE 0 (cuM rl ol bl u s tl)))) .bad)) .bad := by kernel_rfl
noncomputable abbrev cuMl (rl ol bl c : List D) (s : Int) (x y : D) : Loc := cuM rl ol bl (.list c) s [("one", x), ("other", y)]
theorem cuA0 : x1 tCu nCu 38 cuA 0 (cuMl rl ol bl c s (.list a) (.list b)) = .br false (.br false RF (.ok (.next (cuMl rl ol bl c s (.list a) (.list b))))) (.br false (.br false RF (.ok (.next (cuMl rl ol bl c s (.list a) (.list b)))))
  (.br (decide (a.length + b.length ≤ cap)) ((((deq (.list (a ++ b)) (.list c)).bind fun c => .ok (!c)).bind fun c => .ok (.bool c)).bind (ifK RF (.ok (.next (cuMl rl ol bl c s (.list a) (.list b)))))) .bad)) := by kernel_rfl
theorem cuE0 : x1 tCu nCu 38 cuE 0 (cuMl rl ol bl c s (.int p) (.int q)) = .br (decide (bl.length ≤ cap)) ((((((((noExc (cl tCu 35 cCnt (cuMl rl ol bl c s (.int p) (.int q)) bl)).bind lsK).bind fun d => .ok [d]).bind lenF).bind fun a => bop e0 .Sub a (.int 1)).bind fun b => (cop .NotEq (.int p) b).bind fun c => .ok (.bool c)).bind (orK (.ok (.bool (!(q == 0) || false))))).bind (ifK RF (.ok (.next (cuMl rl ol bl c s (.int p) (.int q)))))) .bad := by kernel_rfl
theorem cuCe {z : Int} : ce tCu 35 cCnt (cuMl rl ol bl c s (.int p) (.int q)) (.int z) = .ok (.int z) := by kernel_rfl
theorem cuCt {z : Int} : ct tCu 35 cCnt (cuMl rl ol bl c s (.int p) (.int q)) (.int z) = .br (decide (z < s)) (.ok true) (.ok false) := by kernel_rfl
end
theorem sat_next {P : Fl → Prop} {N : Loc → Prop} {E : Str → D → Prop} {m : Loc} (h : N m) : (Tr.ok (Fl.next m)).sat (NxP P N) E := h
theorem nx_of {P : Fl → Prop} {N : Loc → Prop} {m : Loc} (h : N m) : NxP P N (.next m) := h
theorem cut_take {α : Type} (xs : List α) (n : Nat) : cut xs none (some ((n : Nat) : Int)) = xs.take n := by
 unfold cut kms_lo kms_hi
 dsimp only
 rw [if_neg (by lia), Int.toNat_natCast, List.drop_zero, Nat.sub_zero, ← List.take_eq_take_min]
theorem cut_drop {α : Type} (xs : List α) (n : Nat) : cut xs (some ((n : Nat) : Int)) none = xs.drop n := by
 unfold cut kms_lo kms_hi
 dsimp only
 rw [if_neg (by lia), Int.toNat_natCast]
 rcases Nat.le_total n xs.length with h | h
 ·rw [Nat.min_eq_left h, ← List.length_drop, List.take_length]
 ·rw [Nat.min_eq_right h, List.drop_eq_nil_of_le h]; simp
theorem sat_take {l : List Int} {a b : List Int} (h : l = a ++ b) {n : Nat} (hn : a.length = n) : l.take n = a := by rw [h, ← hn]; simp
section
variable {P : D → Prop} {E : Str → D → Prop} {rows : List Row}
noncomputable def CuTl (tl : Loc) : Prop := tl = [] ∨ ∃ x y : D, tl = ([("one", x), ("other", y)] : Loc)
noncomputable def CuInv (rl ol bl : List D) (u : D) (N : Nat) (ds : List D) (m : Loc) : Prop := (∃ s c, s + c = N ∧ ds = nums s c) ∧ (m = cuM0 rl ol bl u ∨ ∃ s tl, m = cuM rl ol bl u s tl ∧ CuTl tl)
theorem cu_go {rl bl c : List D} {os : List Int} {s : Nat} {tl : Loc} {Q : Fl → Prop} {x y : D} (ht : CuTl tl) (hc : os.length ≤ cap)
  (h1 : (F_read [.list ((os.take (8 * s)).map .int)]).sat (fun d => d = x) E) (h2 : (F_read [.list ((os.drop (8 * s)).map .int)]).sat (fun d => d = y) E)
  (h : (xs tCu nCu 39 cuB 1 (cuMl rl (os.map .int) bl c s x y)).sat Q E) : (xs tCu nCu 39 cuB 0 (cuM rl (os.map .int) bl (.list c) s tl)).sat Q E := by
 have hl : decide ((os.map D.int).length ≤ cap) = true := by rw [List.length_map]; exact decide_eq_true hc
 refine step _ cu0 (sat_tt (sat_on hl (sat_bd (sat_bd (sat_bd ?_)))))
 rw [show 8 * (s : Int) = ((8 * s : Nat) : Int) by lia, cut_take, cut_drop, ← List.map_take, ← List.map_drop]
 refine Tr.sat_mono (fun d q => ?_) (fun J J q => q) _ h1
 subst q
 refine sat_tt (sat_on hl (sat_bd (sat_bd (Tr.sat_mono (fun d' q => ?_) (fun J J q => q) _ h2))))
 subst q
 refine sat_on (capn rfl) ?_
 show (setO (setAll cuTs [d, d'] (cuM rl (os.map .int) bl (.list c) s tl))).sat _ _
 rcases ht with rfl | ⟨x', y', rfl⟩
 ·rw [cu0a]; exact h
 ·rw [cu0b]; exact h
theorem octs_nil : octs [] = [] := rfl
theorem cu_whole {pre post : List Row} (ok : ∀ r ∈ pre ++ post, r.Ok) (hn : (pre ++ post).length ≤ 7) {tl : Loc} (ht : CuTl tl) {Q : Fl → Prop} (hs : ((slots pre : Nat) : Int) ∈ begs 0 (pre ++ post) ++ [((slots (pre ++ post) : Nat) : Int)])
  (h : ∀ x y, Q (.next (cuMl ((pre ++ post).map Row.L) ((octs (pre ++ post)).map .int) ((begs 0 (pre ++ post)).map .int) ((pre ++ post).map Row.T) (slots pre) x y))) :
  (xs tCu nCu 39 cuB 0 (cuM ((pre ++ post).map Row.L) ((octs (pre ++ post)).map .int) ((begs 0 (pre ++ post)).map .int) (.list ((pre ++ post).map Row.T)) (slots pre) tl)).sat Q E := by
 have ol := octs_len (a := pre ++ post)
 have hc := cap_octs hn
 have e1 : (octs (pre ++ post)).take (8 * slots pre) = octs pre := sat_take octs_append octs_len
 have e2 : (octs (pre ++ post)).drop (8 * slots pre) = octs post := sat_drop_len octs_append octs_len
 have k1 := cap_octs (app7 hn).1
 have k2 := cap_octs (app7 hn).2
 refine cu_go (x := .list (pre.map Row.T)) (y := .list (post.map Row.T)) ht hc (by rw [e1]; exact read_rows (fun r q => ok r (List.mem_append_left _ q)) k1 rfl) (by rw [e2]; exact read_rows (fun r q => ok r (List.mem_append_right _ q)) k2 rfl) ?_
 refine step _ cu1 (sat_on (by rw [List.length_map]; exact decide_eq_true hc) (sat_B1 (sat_on (decide_eq_true (by rw [List.length_map, begs_len]; exact le_cap (Nat.succ_le_succ hn) rfl)) (sat_bd (sat_bd ?_))) 2))
 rw [fdiv_len ol, show (begs 0 (pre ++ post)).map D.int ++ [D.int ((slots (pre ++ post) : Nat) : Int)] = (begs 0 (pre ++ post) ++ [((slots (pre ++ post) : Nat) : Int)]).map D.int by rw [List.map_append]; rfl]
 refine din_ints _ _ ?_
 rw [decide_eq_true hs]
 refine sat_tt (step _ cuA0 (sat_ff (sat_ff (sat_on (decide_eq_true (by rw [List.length_map, List.length_map, ← List.length_append]; exact cap_rows hn)) (sat_bd (sat_bd (sat_bd ?_)))))))
 rw [← List.map_append]
 exact deq_rows _ (sat_ff (sat_next (fin (nx_of (fin (h _ _))))))
theorem cu_mid {pre post : List Row} {r : Row} (rc : r.c = 24) (ok : ∀ q ∈ pre ++ r :: post, q.Ok) (hn : (pre ++ r :: post).length ≤ 7) {tl : Loc} (ht : CuTl tl) {Q : Fl → Prop} {rl c : List D}
  (h : ∀ x y, Q (.next (cuMl rl ((octs (pre ++ r :: post)).map .int) ((begs 0 (pre ++ r :: post)).map .int) c ((slots pre + 1 : Nat) : Int) x y))) :
  (xs tCu nCu 39 cuB 0 (cuM rl ((octs (pre ++ r :: post)).map .int) ((begs 0 (pre ++ r :: post)).map .int) (.list c) ((slots pre + 1 : Nat) : Int) tl)).sat Q E := by
 have ol := octs_len (a := pre ++ r :: post)
 have sl := slots_le (a := pre ++ r :: post)
 have bl := begs_len (k := 0) (a := pre ++ r :: post)
 have sa := slots_append (a := pre) (b := r :: post)
 have sc := slots_cons r post
 have o1 := octs_len (a := pre)
 have e24 : r.sl = 2 := by unfold Row.sl; rw [if_pos rc]
 have hc := cap_octs hn
 have et : r.tl = 0 :: 0 :: 0 :: 0 :: lo4 r.m := by unfold Row.tl; rw [if_pos rc]
 have e1 : (octs (pre ++ r :: post)).take (8 * (slots pre + 1)) = octs pre ++ r.hd := sat_take (b := r.tl ++ octs post) (by rw [octs_append, octs_cons]; unfold Row.oct; simp only [List.append_assoc]) (by rw [List.length_append, o1, hd_len]; lia)
 have e2 := drop_mid (pre := pre) (post := post) rc
 have hb := bytes_octs ok
 have hb1 : (octs pre ++ r.hd).all byteI = true := by rw [← e1]; exact List.all_eq_true.mpr fun x q => List.all_eq_true.mp hb x (List.mem_of_mem_take q)
 have hb2 : ((octs (pre ++ r :: post)).drop (8 * (slots pre + 1))).all byteI = true := List.all_eq_true.mpr fun x q => List.all_eq_true.mp hb x (List.mem_of_mem_drop q)
 have k1 : (octs pre ++ r.hd).length ≤ cap := by rw [List.length_append, hd_len]; exact le_cap (Nat.add_le_add_right (len_octs (app7 hn).1) 8) rfl
 have k2 : ((octs (pre ++ r :: post)).drop (8 * (slots pre + 1))).length ≤ cap := by rw [List.length_drop]; exact Nat.le_trans (Nat.sub_le _ _) hc
 have okp : ∀ q ∈ pre, q.Ok := fun q hq => ok q (List.mem_append_left _ hq)
 refine cu_go (x := .int pre.length) (y := .int 0) ht hc (by rw [e1]; exact r_read hb1 k1 (r_ua_cut okp rc k1 fun w => ⟨_, rfl, rfl⟩)) (r_read hb2 k2 (r_ua_mid k2 e2 fun w => ⟨_, rfl, rfl⟩)) ?_
 refine step _ cu1 (sat_on (by rw [List.length_map]; exact decide_eq_true hc) (sat_B1 (sat_on (decide_eq_true (by rw [List.length_map, begs_len]; exact le_cap (Nat.succ_le_succ hn) rfl)) (sat_bd (sat_bd ?_))) 2))
 rw [fdiv_len ol, show (begs 0 (pre ++ r :: post)).map D.int ++ [D.int ((slots (pre ++ r :: post) : Nat) : Int)] = (begs 0 (pre ++ r :: post) ++ [((slots (pre ++ r :: post) : Nat) : Int)]).map D.int by rw [List.map_append]; rfl]
 refine din_ints _ _ ?_
 rw [decide_eq_false (fun q => (List.mem_append.mp q).elim (not_mid pre post rc) fun q => by have := List.mem_singleton.mp q; lia)]
 refine sat_ff (step _ cuE0 (sat_on (decide_eq_true (by rw [List.length_map, begs_len]; exact cap_rows hn)) (sat_bd (sat_bd (sat_bd (sat_bd (sat_bd (sat_bd (sat_bd (sat_noexc ?_))))))))))
 obtain ⟨tt, ts, ei⟩ : ∃ t ts, cCnt.ifs = t :: ts := by
  cases q : cCnt.ifs with
  | nil => exact absurd (show cCnt.ifs.isEmpty = false by kernel_rfl) (by rw [q]; decide)
  | cons t ts => exact ⟨t, ts, rfl⟩
 refine r_clf (p := fun d => match d with | .int z => decide (z < ((slots pre + 1 : Nat) : Int)) | _ => false) ei (fun d hd => ?_) (fun d hd => ?_) ?_
 ·obtain ⟨z, _, rfl⟩ := List.mem_map.mp hd
  rw [cuCe]
  rfl
 ·obtain ⟨z, _, rfl⟩ := List.mem_map.mp hd
  rw [cuCt]
  refine sat_br (fun q => ?_) fun q => ?_
  ·exact q.symm
  ·exact q.symm
 ·have ef : ∀ l : List Int, (l.map D.int).filter (fun d => match d with | .int z => decide (z < ((slots pre + 1 : Nat) : Int)) | _ => false) = (l.filter fun z => decide (z < ((slots pre + 1 : Nat) : Int))).map D.int := fun l => by rw [List.filter_map]; rfl
  rw [ef]
  have hb := below pre post rc
  have hle : pre.length + 1 ≤ cap := le_cap (Nat.succ_le_succ (app7 hn).1) rfl
  refine sat_on (decide_eq_true (by rw [List.length_map, hb]; exact hle)) ?_
  refine sat_on (decide_eq_true (by rw [List.length_map, hb]; exact hle)) ?_
  show Tr.sat _ _ (Tr.bind _ (Tr.ok _))
  rw [List.length_map, hb]
  show (Tr.br ((!((pre.length : Int) == ((pre.length + 1 : Nat) : Int) - 1)) || (!((0 : Int) == 0) || false)) RF _).sat _ _
  rw [show ((pre.length : Int) == ((pre.length + 1 : Nat) : Int) - 1) = true from beq_iff_eq.mpr (by omega)]
  exact sat_ff (sat_next (fin (nx_of (fin (h _ _)))))
theorem r_cuts_right (ok : ∀ r ∈ rows, r.Ok) (hn : rows.length ≤ 7) (h : P (.bool true)) : (F_cuts [.list (rows.map Row.L), .list ((octs rows).map .int), .list ((begs 0 rows).map .int)]).sat P E := by
 have ol := octs_len (a := rows)
 have sl := slots_le (a := rows)
 have hr := cap_rows hn
 refine run_go nCu [] (cuM00 (rows.map Row.L) ((octs rows).map .int) ((begs 0 rows).map .int)) (by kernel_rfl) (by kernel_rfl) (step _ cu_0 (sat_on (by rw [List.length_map]; exact decide_eq_true hr) (sat_bd (sat_bd (sat_noexc (r_cl (R := fun d v => ∀ r : Row, d = r.L → v = r.T) (by kernel_rfl) (fun d hd => ?_) fun vs hv => ?_))))))
 ·obtain ⟨r, _, rfl⟩ := List.mem_map.mp hd
  rw [cu_0e (by kernel_rfl)]
  refine sat_tt fun r' e => ?_
  obtain ⟨a1, a2, a3, a4, a5, a6⟩ := r
  obtain ⟨b1, b2, b3, b4, b5, b6⟩ := r'
  cases e
  rfl
 ·have e := All2.map (f := Row.L) (g := Row.T) (fun {r y} q => q r rfl) hv
  subst e
  refine sat_on (by rw [List.length_map]; exact decide_eq_true hr) ?_
  refine step _ cu_1 (sat_on (by rw [List.length_map]; exact decide_eq_true (cap_octs hn)) (sat_tt ?_))
  rw [fdiv_len ol, show ((slots rows : Nat) : Int) + 1 = ((slots rows + 1 : Nat) : Int) by lia, rangeD_nums]
  refine sat_on (by rw [decide_eq_true (by lia), decide_eq_true (by lia)]; rfl) ?_
  refine r_fo (CuInv (rows.map Row.L) ((octs rows).map .int) ((begs 0 rows).map .int) (.list (rows.map Row.T)) (slots rows + 1)) (fun d r m hi => ?_) (fun m J => step _ cu_2 (sat_ret h)) _ _ ⟨⟨0, slots rows + 1, Nat.zero_add _, rfl⟩, .inl rfl⟩
  refine abs1 fun G0 hG0 => ?_
  obtain ⟨⟨s, c, hs, hds⟩, hm⟩ := hi
  refine hG0 ?_
  clear hG0 G0
  induction c using Nat.casesOn with
  | zero => cases hds
  | succ c =>
   obtain ⟨rfl, rfl⟩ := List.cons.inj (show d :: r = .int s :: nums (s + 1) c from hds)
   refine ⟨_, cuT_e, ?_⟩
   have go : ∀ tl, CuTl tl → (xs tCu nCu 39 cuB 0 (cuM (rows.map Row.L) ((octs rows).map .int) ((begs 0 rows).map .int) (.list (rows.map Row.T)) s tl)).sat (LpP (NxP (RetP P) fun m' => (xs tCu nCu 40 (bd nCu) (1 + 1) m').sat (RetP P) E) (CuInv (rows.map Row.L) ((octs rows).map .int) ((begs 0 rows).map .int) (.list (rows.map Row.T)) (slots rows + 1) (nums (s + 1) c))) E := fun tl ht => by
    rcases Nat.lt_or_ge s (slots rows) with hs' | hs'
    ·rcases split hs' with ⟨pre, r, post, rfl, rfl⟩ | ⟨pre, r, post, rfl, rc, rfl⟩
     ·exact cu_whole ok hn ht (List.mem_append_left _ (mem_beg pre post)) fun x y => ⟨⟨_, c, by lia, rfl⟩, .inr ⟨_, _, rfl, .inr ⟨x, y, rfl⟩⟩⟩
     ·exact cu_mid rc ok hn ht fun x y => ⟨⟨_, c, by lia, rfl⟩, .inr ⟨_, _, rfl, .inr ⟨x, y, rfl⟩⟩⟩
    ·have es : s = slots rows := by lia
     subst es
     have := cu_whole (pre := rows) (post := []) (E := E) (by rw [List.append_nil]; exact ok) (by rw [List.append_nil]; exact hn) ht (by simp) (Q := LpP (NxP (RetP P) fun m' => (xs tCu nCu 40 (bd nCu) (1 + 1) m').sat (RetP P) E) (CuInv (rows.map Row.L) ((octs rows).map .int) ((begs 0 rows).map .int) (.list (rows.map Row.T)) (slots rows + 1) (nums (slots rows + 1) c))) fun x y => by
      rw [List.append_nil]
      exact ⟨⟨_, c, by lia, rfl⟩, .inr ⟨_, _, rfl, .inr ⟨x, y, rfl⟩⟩⟩
     rw [List.append_nil] at this
     exact this
   rcases hm with rfl | ⟨s', tl, rfl, ht⟩
   ·exact go [] (.inl rfl)
   ·exact go tl ht
end
noncomputable abbrev nGl : String := "_law_goals_right"
noncomputable abbrev tGl : Tab := T_goals
@[irreducible] noncomputable def glB : List Stmt := foB (stm (bd nGl) 1)
@[irreducible] noncomputable def glT : PySem.Expr := foT (stm (bd nGl) 1)
@[irreducible] noncomputable def glTs : List PySem.Expr := tgL (stm glB 0)
noncomputable abbrev glM0 (rl bl : List D) (s : Int) : Loc := [("rows", .list rl), ("begins", .list bl), ("slot", .int s)]
noncomputable abbrev glM (rl bl : List D) (s : Int) (f b : D) (tl : Loc) : Loc := ("rows", .list rl) :: ("begins", .list bl) :: ("slot", .int s) :: ("fields", f) :: ("begin", b) :: tl
section
variable {P : D → Prop} {E : Str → D → Prop} {rl bl ol : List D} {s b o0 o1 : Int} {tl m : Loc} {f f' x y z b' : D} {r : Row} {hf : Bool}
theorem gl_0 : x1 tGl nGl 40 (bd nGl) 0 [("rows", .list rl), ("begins", .list bl)] = .ok (.next (glM0 rl bl 0)) := by kernel_rfl
theorem gl_1 : x1 tGl nGl 40 (bd nGl) 1 (glM0 rl bl s) = .br (decide (rl.length ≤ cap) && decide (bl.length ≤ cap)) (fo tGl nGl 39 glB glT (zipD rl bl) (glM0 rl bl s)) .bad := by kernel_rfl
theorem gl_2 : x1 tGl nGl 40 (bd nGl) 2 m = .ok (.ret (.bool true)) := by kernel_rfl
theorem glT_a : bindT glT (.tup [f, x]) (glM0 rl bl s) = some (glM rl bl s f x []) := by kernel_rfl
theorem glT_b : bindT glT (.tup [f, x]) (glM rl bl s f' b' tl) = some (glM rl bl s f x tl) := by kernel_rfl
theorem gl0 : x1 tGl nGl 39 glB 0 (glM rl bl s r.L x tl) = (((((F_law_octets [r.L]).bind fun d' => .ok [d']).bind fun ds => .ok (r.O :: ds)).bind fun ds => when (decide (ds.length ≤ cap)) (.tup ds)).bind (tupK fun ds => setO (setAll glTs ds (glM rl bl s r.L x tl)))) := by kernel_rfl
theorem gl0a : setO (setAll glTs [x, y] (glM rl bl s f b' [])) = .ok (.next (glM rl bl s f b' [("order", x), ("octs", y)])) := by kernel_rfl
theorem gl0b {x' y' : D} : setO (setAll glTs [x, y] (glM rl bl s f b' [("order", x'), ("octs", y'), ("has_far", z)])) = .ok (.next (glM rl bl s f b' [("order", x), ("octs", y), ("has_far", z)])) := by kernel_rfl
noncomputable abbrev glN (rl bl : List D) (s : Int) (f : D) (b : Int) (r : Row) (ol : List D) (tl : Loc) : Loc := glM rl bl s f (.int b) (("order", r.O) :: ("octs", .list ol) :: tl)
theorem gl1 : x1 tGl nGl 39 glB 1 (glN rl bl s f b r ol tl) = .br (!(s == b)) (.br (!(s == b)) RF (.ok (.next (glN rl bl s f b r ol tl)))) (.br (decide (ol.length ≤ cap)) (.br true (.br (!PyData.eqv (.bool (r.c == 24)) (.bool ((ol.length : Int) == 16))) (.br (!PyData.eqv (.bool (r.c == 24)) (.bool ((ol.length : Int) == 16))) RF (.ok (.next (glN rl bl s f b r ol tl))))
  ((((F_slots_of [r.O]).bind fun b => bop e0 .Mult (.int 8) b).bind fun a => (lenF [.list ol]).bind fun b => (cop .NotEq a b).bind fun c => .ok (.bool c)).bind (ifK RF (.ok (.next (glN rl bl s f b r ol tl)))))) .bad) .bad) := by kernel_rfl
theorem gl2a : x1 tGl nGl 39 glB 2 (glN rl bl s f b r (.int o0 :: .int o1 :: ol) []) = .ok (.next (glN rl bl s f b r (.int o0 :: .int o1 :: ol) [("has_far", .bool (o0 == 6 || (o0 == 133 && o1 == 16)))])) := by kernel_rfl
theorem gl2b : x1 tGl nGl 39 glB 2 (glN rl bl s f b r (.int o0 :: .int o1 :: ol) [("has_far", x)]) = .ok (.next (glN rl bl s f b r (.int o0 :: .int o1 :: ol) [("has_far", .bool (o0 == 6 || (o0 == 133 && o1 == 16)))])) := by kernel_rfl
noncomputable abbrev glL (rl bl : List D) (s : Int) (f : D) (b : Int) (r : Row) (ol : List D) (hf : Bool) : Loc := glN rl bl s f b r ol [("has_far", .bool hf)]
theorem gl3 : x1 tGl nGl 39 glB 3 (glL rl bl s f b r ol hf) = ((F_distance [r.O]).bind fun a => (Tr.br hf (.br (decide (ol.length ≤ cap)) (F_law_whole [.list (cut ol (some 4) (some 8))]) .bad) (.br (decide (ol.length ≤ cap)) (F_law_whole [.list (cut ol (some 2) (some 4))]) .bad)).bind fun b => (cop .NotEq a b).bind fun c => .ok (.bool c)).bind (ifK RF (.ok (.next (glL rl bl s f b r ol hf)))) := by kernel_rfl
theorem gl4 : x1 tGl nGl 39 glB 4 (glL rl bl s f b r ol hf) = (F_slots_of [r.O]).bind fun d => (bop e0 .Add (.int s) d).bind fun d => .ok (.next (("rows", .list rl) :: ("begins", .list bl) :: ("slot", d) :: (glL rl bl s f b r ol hf).drop 3)) := by kernel_rfl
end
theorem cut_mid {α : Type} (a b c : List α) : cut (a ++ (b ++ c)) (some (a.length : Int)) (some ((a.length + b.length : Nat) : Int)) = b := by
 unfold cut kms_lo kms_hi
 dsimp only
 rw [if_neg (by lia), if_neg (by lia), Int.toNat_natCast, Int.toNat_natCast]
 have e : (a ++ (b ++ c)).length = a.length + (b.length + c.length) := by rw [List.length_append, List.length_append]
 rw [Nat.min_eq_left (by lia), Nat.min_eq_left (by lia), List.drop_left, show a.length + b.length - a.length = b.length by lia, List.take_left]
section
variable {P : D → Prop} {E : Str → D → Prop} {rows : List Row} {r : Row}
theorem cut_off (r : Row) : cut (r.oct.map D.int) (some 2) (some 4) = (lo2 r.o).map D.int := cut_mid [D.int r.c, D.int (r.d + 16 * r.s)] ((lo2 r.o).map D.int) ((lo4 r.i ++ r.tl).map D.int)
theorem cut_imm (r : Row) : cut (r.oct.map D.int) (some 4) (some 8) = (lo4 r.i).map D.int := cut_mid [D.int r.c, D.int (r.d + 16 * r.s), D.int (r.o % 256), D.int (r.o / 256 % 256)] ((lo4 r.i).map D.int) (r.tl.map D.int)
noncomputable def GlTl (tl : Loc) : Prop := tl = [] ∨ ∃ x y z : D, tl = ([("order", x), ("octs", y), ("has_far", z)] : Loc)
noncomputable def GlInv (rl bl : List D) (ds : List D) (m : Loc) : Prop := ∃ (s : Nat) (rest : List Row), ds = zipD (rest.map Row.L) ((begs s rest).map .int) ∧ (∀ r ∈ rest, r.Ok) ∧ (m = glM0 rl bl s ∨ ∃ f b tl, m = glM rl bl s f b tl ∧ GlTl tl)
theorem far_eq (f : Fx r.c r.d r.s r.o r.i r.m) : (r.c == 6 || (r.c == 133 && r.d + 16 * r.s == 16)) = ((r.c == 133 && r.s == 1) || r.c == 6) := by
 by_cases h : r.c = 133
 ·have := f.far h
  rw [h, this]
  by_cases h1 : r.s = 1
  ·rw [h1]; rfl
  ·have e1 : (r.s == 1) = false := by simpa using h1
   have e2 : ((0 : Int) + 16 * r.s == 16) = false := by simp; lia
   rw [e1, e2]; rfl
 ·have e1 : (r.c == 133) = false := by simpa using h
  rw [e1, Bool.false_and, Bool.false_and, Bool.or_false, Bool.false_or]
theorem gl_turn {rl bl : List D} {s : Nat} {tl : Loc} {Q : Fl → Prop} (ok : r.Ok) (ht : GlTl tl) (h : ∀ f b tl', GlTl tl' → Q (.next (glM rl bl ((s + r.sl : Nat) : Int) f b tl'))) : (xs tGl nGl 39 glB 0 (glM rl bl s r.L (.int s) tl)).sat Q E := by
 have fx := lg_fx ok
 have e1 : (r.oct.map D.int).length = 8 * r.sl := by rw [List.length_map]; exact oct_len
 have e2 := sl_le (r := r)
 have hc : decide ((r.oct.map D.int).length ≤ cap) = true := decide_eq_true (by rw [List.length_map]; exact le_cap oct16 rfl)
 have e3 : PyData.eqv (.bool (r.c == 24)) (.bool (((r.oct.map D.int).length : Int) == 16)) = true := by
  rw [e1]
  show ((r.c == 24) == (((8 * r.sl : Nat) : Int) == 16)) = true
  unfold Row.sl
  by_cases q : r.c = 24
  ·rw [if_pos q, q]; rfl
  ·rw [if_neg q, show (r.c == 24) = false by simpa using q]; rfl
 have last : (xs tGl nGl 39 glB 3 (glL rl bl s r.L s r (r.oct.map .int) (r.c == 6 || (r.c == 133 && r.d + 16 * r.s == 16)))).sat Q E := by
  refine step _ gl3 (sat_bd (sat_bd ?_))
  rw [m_dist, far_eq fx, cut_off, cut_imm]
  refine sat_br (fun q => ?_) fun q => ?_
  ·rw [q]
   refine sat_bd (sat_tt (sat_on hc (r_whole4 ?_)))
   rw [sg32_lo fx.i0 fx.i1]
   show (Tr.br (!(r.i == r.i)) RF _).sat _ _
   rw [show (r.i == r.i) = true from beq_self_eq_true _]
   refine sat_ff (sat_next (step _ gl4 (sat_bd (r_slots ?_))))
   exact sat_next (fin (h _ _ _ (.inr ⟨_, _, _, rfl⟩)))
  ·rw [q]
   refine sat_bd (sat_ff (sat_on hc (r_whole2 ?_)))
   rw [sg16_lo fx.o0 fx.o1]
   show (Tr.br (!(r.o == r.o)) RF _).sat _ _
   rw [show (r.o == r.o) = true from beq_self_eq_true _]
   refine sat_ff (sat_next (step _ gl4 (sat_bd (r_slots ?_))))
   exact sat_next (fin (h _ _ _ (.inr ⟨_, _, _, rfl⟩)))
 have mid : ∀ tl', (tl' = [] ∨ ∃ x : D, tl' = ([("has_far", x)] : Loc)) → (xs tGl nGl 39 glB 1 (glN rl bl s r.L s r (r.oct.map .int) tl')).sat Q E := fun tl' ht' => by
  refine step _ gl1 ?_
  rw [show ((s : Int) == (s : Int)) = true from beq_self_eq_true _, e3]
  refine sat_ff (sat_on hc (sat_tt (sat_ff (sat_bd (sat_bd (sat_bd (r_slots ?_)))))))
  refine sat_tt (sat_bd (sat_on hc ?_))
  show (Tr.br (!((8 : Int) * (r.sl : Nat) == (((r.oct.map D.int).length : Nat) : Int))) RF _).sat _ _
  rw [show ((8 : Int) * (r.sl : Nat) == (((r.oct.map D.int).length : Nat) : Int)) = true from beq_iff_eq.mpr (by rw [e1]; lia)]
  refine sat_ff (sat_next ?_)
  rcases ht' with rfl | ⟨x, rfl⟩
  ·exact step _ gl2a (sat_next last)
  ·exact step _ gl2b (sat_next last)
 refine step _ gl0 (sat_bd (sat_bd (sat_bd (sat_bd (r_octets (sat_on (capn rfl) ?_))))))
 show (setO (setAll glTs [r.O, .list (r.oct.map .int)] _)).sat _ _
 rcases ht with rfl | ⟨x, y, z, rfl⟩
 ·rw [gl0a]; exact sat_next (mid [] (.inl rfl))
 ·rw [gl0b]; exact sat_next (mid _ (.inr ⟨z, rfl⟩))
theorem r_goals_right (ok : ∀ r ∈ rows, r.Ok) (hn : rows.length ≤ 7) (h : P (.bool true)) : (F_goals [.list (rows.map Row.L), .list ((begs 0 rows).map .int)]).sat P E := by
 refine run_go nGl [] [("rows", .list (rows.map Row.L)), ("begins", .list ((begs 0 rows).map .int))] (by kernel_rfl) (by kernel_rfl) (step _ gl_0 (sat_next (step _ gl_1 (sat_on (by rw [List.length_map, List.length_map, begs_len, decide_eq_true (cap_rows hn)]; rfl) ?_))))
 refine r_fo (GlInv (rows.map Row.L) ((begs 0 rows).map .int)) (fun d ds m hi => ?_) (fun m J => step _ gl_2 (sat_ret h)) _ _ ⟨0, rows, rfl, ok, .inl rfl⟩
 refine abs1 fun G0 hG0 => ?_
 obtain ⟨s, rest, hds, hok, hm⟩ := hi
 refine hG0 ?_
 clear hG0 G0
 induction rest using List.casesOn with
 | nil => cases hds
 | cons r rest =>
  obtain ⟨rfl, rfl⟩ := List.cons.inj (show d :: ds = .tup [r.L, .int s] :: zipD (rest.map Row.L) ((begs (s + r.sl) rest).map .int) from hds)
  have go : ∀ tl, GlTl tl → (xs tGl nGl 39 glB 0 (glM (rows.map Row.L) ((begs 0 rows).map .int) s r.L (.int s) tl)).sat (LpP (NxP (RetP P) fun m' => (xs tGl nGl 40 (bd nGl) (1 + 1) m').sat (RetP P) E) (GlInv (rows.map Row.L) ((begs 0 rows).map .int) (zipD (rest.map Row.L) ((begs (s + r.sl) rest).map .int)))) E := fun tl ht =>
   gl_turn (hok r (.head _)) ht fun f b tl' ht' => ⟨s + r.sl, rest, rfl, fun q hq => hok q (.tail _ hq), .inr ⟨f, b, tl', rfl, ht'⟩⟩
  rcases hm with rfl | ⟨f, b, tl, rfl, ht⟩
  ·exact ⟨_, glT_a, go [] (.inl rfl)⟩
  ·exact ⟨_, glT_b, go tl ht⟩
end
noncomputable abbrev nCh : String := "_law_changed_right"
noncomputable abbrev tCh : Tab := T_ch.hear
@[irreducible] noncomputable def chB : List Stmt := chBody
@[irreducible] noncomputable def chI4 : List Stmt := ifB (stm chB 4)
@[irreducible] noncomputable def chTs : List PySem.Expr := tgL (stm chB 3)
noncomputable abbrev chM (rl : List D) (left at_ : Int) (os : List D) (sp mo : Int) (tl : Loc) : Loc := ("rows", .list rl) :: ("left", .int left) :: ("at", .int at_) :: ("octs", .list os) :: ("spot", .int sp) :: ("more", .int mo) :: tl
noncomputable def lowF (l : Int) : List D := [.int ((l.fdiv 1).fmod 256), .int ((l.fdiv 256).fmod 256), .int ((l.fdiv 65536).fmod 256), .int ((l.fdiv 16777216).fmod 256)]
section
variable {P : D → Prop} {E : Str → D → Prop} {rl os ol : List D} {l a s o b0 b1 b2 b3 b4 b5 b6 b7 c0 c1 c2 c3 c4 c5 c6 c7 u : Int} {tl m : Loc} {x y z : D} {r : Row}
noncomputable abbrev chThen (rl : List D) (l a s o : Int) (os : List D) : Tr Fl := B1 17 (.ok (.next (chM rl l a (os ++ [.int 0, .int 0, .int 0, .int 0] ++ lowF l) s o [])))
theorem ch0a : x1 tCh nCh 40 chB 0 (chM rl l a [.int b0, .int b1, .int b2, .int b3, .int b4, .int b5, .int b6, .int b7] s o []) =
  (let t := chThen rl l a s o [.int b0, .int b1, .int b2, .int b3, .int b4, .int b5, .int b6, .int b7]
  let e : Tr Fl := .br (!(b0 == 24)) (.br true (.ok (.next (chM rl l a [.int b0, .int b1, .int b2, .int b3, .int b4, .int b5, .int b6, .int b7] s o []))) .bad) (.ok (.next (chM rl l a [.int b0, .int b1, .int b2, .int b3, .int b4, .int b5, .int b6, .int b7] s o [])))
  .br (b0 == 24) (.br true (.br true t e) .bad) (.br (b0 == 24) t e)) := by kernel_rfl
theorem ch0b : x1 tCh nCh 40 chB 0 (chM rl l a [.int b0, .int b1, .int b2, .int b3, .int b4, .int b5, .int b6, .int b7, .int c0, .int c1, .int c2, .int c3, .int c4, .int c5, .int c6, .int c7] s o []) =
  (let t := chThen rl l a s o [.int b0, .int b1, .int b2, .int b3, .int b4, .int b5, .int b6, .int b7, .int c0, .int c1, .int c2, .int c3, .int c4, .int c5, .int c6, .int c7]
  let e : Tr Fl := .br (!(b0 == 24)) (.br true (.ok (.next (chM rl l a [.int b0, .int b1, .int b2, .int b3, .int b4, .int b5, .int b6, .int b7] s o []))) .bad) (.ok (.next (chM rl l a [.int b0, .int b1, .int b2, .int b3, .int b4, .int b5, .int b6, .int b7, .int c0, .int c1, .int c2, .int c3, .int c4, .int c5, .int c6, .int c7] s o [])))
  .br (b0 == 24) (.br true (.br false t e) .bad) (.br (b0 == 24) t e)) := by kernel_rfl
theorem ch1a : x1 tCh nCh 40 chB 1 (chM rl l a [.int b0, .int b1, .int b2, .int b3, .int b4, .int b5, .int b6, .int b7] s o []) = .br true (.br false (.br true ((F_law_whole [.list []]).bind fun d => .ok (.next (chM rl l a [.int b0, .int b1, .int b2, .int b3, .int b4, .int b5, .int b6, .int b7] s o [("upper", d)]))) .bad) (.ok (.next (chM rl l a [.int b0, .int b1, .int b2, .int b3, .int b4, .int b5, .int b6, .int b7] s o [("upper", .int 0)])))) .bad := by kernel_rfl
theorem ch1b : x1 tCh nCh 40 chB 1 (chM rl l a [.int b0, .int b1, .int b2, .int b3, .int b4, .int b5, .int b6, .int b7, .int c0, .int c1, .int c2, .int c3, .int c4, .int c5, .int c6, .int c7] s o []) = .br true (.br true (.br true ((F_law_whole [.list [.int c4, .int c5, .int c6, .int c7]]).bind fun d => .ok (.next (chM rl l a [.int b0, .int b1, .int b2, .int b3, .int b4, .int b5, .int b6, .int b7, .int c0, .int c1, .int c2, .int c3, .int c4, .int c5, .int c6, .int c7] s o [("upper", d)]))) .bad) (.ok (.next (chM rl l a [.int b0, .int b1, .int b2, .int b3, .int b4, .int b5, .int b6, .int b7, .int c0, .int c1, .int c2, .int c3, .int c4, .int c5, .int c6, .int c7] s o [("upper", .int 0)])))) .bad := by kernel_rfl
theorem ch2 : x1 tCh nCh 40 chB 2 (chM rl l a (.int b0 :: .int b1 :: ol) s o [("upper", .int u)]) = (let w := fun i j => Tr.br (decide ((D.int b0 :: .int b1 :: ol).length ≤ cap)) (F_law_whole [.list (cut (.int b0 :: .int b1 :: ol) (some i) (some j))]) .bad
  .br true (.br true ((((((w 2 4).bind fun d => ((w 4 8).bind fun d' => .ok [d', .int u]).bind fun ds => .ok (d :: ds)).bind fun ds => .ok (.int (b1.fdiv 16) :: ds)).bind fun ds => .ok (.int (b1.fmod 16) :: ds)).bind fun ds => .ok (.int b0 :: ds)).bind lsK |>.bind fun d => .ok (.next (chM rl l a (.int b0 :: .int b1 :: ol) s o [("upper", .int u), ("made_so", d)]))) .bad) .bad) := by kernel_rfl
theorem ch3 : x1 tCh nCh 40 chB 3 (chM rl l a os s o [("upper", x), ("made_so", r.L)]) = .br (allI os && (intsOf os).all byteI && decide (os.length ≤ cap)) ((((heardOf (F_unpack [.bytes (intsOf os)])).bind fun d => ((heardOf (F_check_order [r.O])).bind fun d' => .ok [d']).bind fun ds => .ok (d :: ds)).bind fun ds => when (decide (ds.length ≤ cap)) (.tup ds)).bind (tupK fun ds => setO (setAll chTs ds (chM rl l a os s o [("upper", x), ("made_so", r.L)])))) .bad := by kernel_rfl
noncomputable abbrev chL (rl : List D) (l a : Int) (os : List D) (s o : Int) (x : D) (r : Row) (y z : D) : Loc := chM rl l a os s o [("upper", x), ("made_so", r.L), ("heard", y), ("told", z)]
theorem ch3s : setO (setAll chTs [y, z] (chM rl l a os s o [("upper", x), ("made_so", r.L)])) = .ok (.next (chL rl l a os s o x r y z)) := by kernel_rfl
noncomputable def rfd : D := .tup [.str "refused", .none]
theorem ch4 : x1 tCh nCh 40 chB 4 (chL rl l a os s o x r y z) = .br (decide (os.length ≤ cap)) (B1 3 ((((din (.list (cut os (some 8) (some 12))) (.tup [.list [], .list [.int 0, .int 0, .int 0, .int 0]])).bind fun c => .ok (!c)).bind fun c => .ok (.bool c)).bind (ifK (xs tCh nCh 39 chI4 0 (chL rl l a os s o x r y z)) (.ok (.next (chL rl l a os s o x r y z)))))) .bad := by kernel_rfl
theorem ch4i : x1 tCh nCh 39 chI4 0 (chL rl l a os s o x r rfd z) = .ok (.ret (.bool true)) := by kernel_rfl
theorem ch5a : x1 tCh nCh 40 chB 5 (chL rl l a os s o x r rfd rfd) = .br true (.ok (.ret (.bool true))) (.ok (.next (chL rl l a os s o x r rfd rfd))) := by kernel_rfl
theorem ch5b : x1 tCh nCh 40 chB 5 (chL rl l a os s o x r (.list [.tup [r.O, .int u]]) (.list [r.O])) = .br false .bad (.ok (.next (chL rl l a os s o x r (.list [.tup [r.O, .int u]]) (.list [r.O])))) := by kernel_rfl
theorem ch6 : x1 tCh nCh 40 chB 6 (chL rl l a os s o x r (.list [.tup [r.O, .int u]]) (.list [r.O])) = .br true (.br true (.br (PyData.eqv (pd r) (pd r)) (((((F_pack [r.O]).bind fun d => .ok [d]).bind listF).bind fun a => (cop .Eq a (.list os)).bind fun c => .ok (.bool c)).bind fun d => .ok (.ret d)) (.ok (.ret (.bool (PyData.eqv (pd r) (pd r)))))) .bad) .bad := by kernel_rfl
theorem un_at0 {l : List Int} : F_unpack [.bytes l] = F_unpack [.bytes l, .int 0] := by kernel_rfl
end
theorem Tr.out {α : Type} {P : α → Prop} {E : Str → D → Prop} : ∀ {t : Tr α}, t.sat P E → (∃ d, P d ∧ ∀ (P' : α → Prop) (E' : Str → D → Prop), P' d → t.sat P' E') ∨ ∃ w a, E w a ∧ ∀ (P' : α → Prop) (E' : Str → D → Prop), E' w a → t.sat P' E'
 | .ok d, h => .inl ⟨d, h, fun J J q => q⟩
 | .exc w a, h => .inr ⟨w, a, h, fun J J q => q⟩
 | .bad, h => h.elim
 | .br true x y, h => by
  rcases Tr.out (h.1 rfl) with ⟨d, q, r⟩ | ⟨w, a, q, r⟩
  ·exact .inl ⟨d, q, fun P' E' z => sat_tt (r P' E' z)⟩
  ·exact .inr ⟨w, a, q, fun P' E' z => sat_tt (r P' E' z)⟩
 | .br false x y, h => by
  rcases Tr.out (h.2 rfl) with ⟨d, q, r⟩ | ⟨w, a, q, r⟩
  ·exact .inl ⟨d, q, fun P' E' z => sat_ff (r P' E' z)⟩
  ·exact .inr ⟨w, a, q, fun P' E' z => sat_ff (r P' E' z)⟩
section
variable {P : D → Prop} {E : Str → D → Prop} {rl : List D} {os : List Int} {l a s o e : Int} {x y z : D} {r : Row}
theorem cop_eq (a b : D) : cop .Eq a b = deq a b := by kernel_rfl
theorem sat_ret2 {N N' : Loc → Prop} {d : D} (h : P d) : (Tr.ok (Fl.ret d)).sat (NxP (NxP (RetP P) N) N') E := h
theorem order_out (r : Row) : (∀ (P' : D → Prop) (E' : Str → D → Prop), P' r.O → (F_check_order [r.O]).sat P' E') ∨ ∃ w, ∀ (P' : D → Prop) (E' : Str → D → Prop), E' w .none → (F_check_order [r.O]).sat P' E' := by
 rcases Tr.out (c_order (P := fun d => d = r.O) (c := r.c) (d := r.d) (s := r.s) (o := r.o) (i := r.i) (m := r.m) rfl) with ⟨d, rfl, q⟩ | ⟨w, a, rfl, q⟩
 ·exact .inl q
 ·exact .inr ⟨w, q⟩
noncomputable abbrev zin (os : List Int) : Tr Bool := din (.list (cut (os.map .int) (some 8) (some 12))) (.tup [.list [], .list [.int 0, .int 0, .int 0, .int 0]])
theorem ch_pair (hb : os.all byteI = true) (hc : os.length ≤ cap) (hu : (F_unpack [.bytes os]).sat (fun d => .list [d] = y) (fun J a => .tup [.str "refused", a] = y)) (ht : (F_check_order [r.O]).sat (fun d => .list [d] = z) (fun J a => .tup [.str "refused", a] = z))
  (h : (xs tCh nCh 40 chB 4 (chL rl l a (os.map .int) s o x r y z)).sat (RetP P) E) : (xs tCh nCh 40 chB 3 (chM rl l a (os.map .int) s o [("upper", x), ("made_so", r.L)])).sat (RetP P) E := by
 refine step _ ch3 (sat_on (by rw [allI_map, intsOf_map, hb, List.length_map, decide_eq_true hc]; rfl) (sat_bd (sat_bd (sat_bd (sat_heard ?_)))))
 rw [intsOf_map]
 refine Tr.sat_mono (fun d q => ?_) (fun w a q => ?_) _ hu
 all_goals
  rw [q]
  refine sat_bd (sat_bd (sat_heard (Tr.sat_mono (fun d q => ?_) (fun w a q => ?_) _ ht)))
  all_goals
   rw [q]
   refine sat_on (capn rfl) ?_
   show (setO (setAll chTs [y, z] _)).sat _ _
   rw [ch3s]
   exact sat_next h
theorem ch_in (hc : os.length ≤ cap) (hz : (zin os).sat (fun b => b = true) E) (h : (xs tCh nCh 40 chB 5 (chL rl l a (os.map .int) s o x r y z)).sat (RetP P) E) : (xs tCh nCh 40 chB 4 (chL rl l a (os.map .int) s o x r y z)).sat (RetP P) E := by
 refine step _ ch4 (sat_on (by rw [List.length_map]; exact decide_eq_true hc) (sat_B1 (sat_bd (sat_bd (sat_bd (Tr.sat_mono (fun b q => ?_) (fun J J q => q) _ hz)))) 3))
 subst q
 exact sat_ff (sat_next h)
theorem ch_same (hb : os.all byteI = true) (hc : os.length ≤ cap) (h1 : byteI r.c = true) (h2 : byteI (r.s * 16 + r.d) = true) (ho : r.oct = os) (hz : ∀ E, (zin os).sat (fun b => b = true) E)
  (hu : ∀ (P' : D → Prop) (E' : Str → D → Prop), (F_check_order [r.O]).sat (fun d => P' (.tup [d, .int e])) E' → (F_unpack [.bytes os]).sat P' E') (h : P (.bool true)) :
  (xs tCh nCh 40 chB 3 (chM rl l a (os.map .int) s o [("upper", x), ("made_so", r.L)])).sat (RetP P) E := by
 rcases order_out r with q | ⟨w, q⟩
 ·refine ch_pair (y := .list [.tup [r.O, .int e]]) (z := .list [r.O]) hb hc (hu _ _ (q _ _ rfl)) (q _ _ rfl) (ch_in hc (hz _) (step _ ch5b (sat_ff (sat_next (step _ ch6 (sat_tt (sat_tt ?_)))))))
  rw [show PyData.eqv (pd r) (pd r) = true from SeqAt.eqvAll_refl [.int r.c, .int r.d, .int r.s, .int r.o, .int r.i, .int r.m] rfl]
  refine sat_tt (sat_bd (sat_bd (sat_bd (sat_bd (r_pack (q _ _ ⟨h1, h2, ?_⟩))))))
  rw [show (Row.mk r.c r.d r.s r.o r.i r.m).oct = os from ho]
  refine sat_on (decide_eq_true hc) ?_
  refine sat_ok (sat_bd ?_)
  rw [cop_eq]
  exact deq_ints _ (sat_ret (E := E) h)
 ·refine ch_pair (y := rfd) (z := rfd) hb hc (hu _ _ (q _ _ rfl)) (q _ _ rfl) (ch_in hc (hz _) (step _ ch5a (sat_tt (sat_ret h))))
theorem ch_off (hb : os.all byteI = true) (hc : os.length ≤ cap) (hz : (zin os).sat (fun b => b = false) E)
  (hu : ∀ (P' : D → Prop) (E' : Str → D → Prop), (∀ w : String, E' w .none) → (F_unpack [.bytes os]).sat P' E') (h : P (.bool true)) :
  (xs tCh nCh 40 chB 3 (chM rl l a (os.map .int) s o [("upper", x), ("made_so", r.L)])).sat (RetP P) E := by
 have go : ∀ z, (xs tCh nCh 40 chB 4 (chL rl l a (os.map .int) s o x r rfd z)).sat (RetP P) E := fun z => by
  refine step _ ch4 (sat_on (by rw [List.length_map]; exact decide_eq_true hc) (sat_B1 (sat_bd (sat_bd (sat_bd (Tr.sat_mono (fun b q => ?_) (fun J J q => q) _ hz)))) 3))
  subst q
  exact sat_tt (step _ ch4i (sat_ret2 h))
 rcases order_out r with q | ⟨w, q⟩
 ·exact ch_pair (y := rfd) (z := .list [r.O]) hb hc (hu _ _ fun w => rfl) (q _ _ rfl) (go _)
 ·exact ch_pair (y := rfd) (z := rfd) hb hc (hu _ _ fun w => rfl) (q _ _ rfl) (go _)
end
theorem len_succ {α : Type} {xs : List α} {n : Nat} (h : xs.length = n + 1) : ∃ y ys, xs = y :: ys ∧ ys.length = n := by
 induction xs using List.casesOn with
 | nil => cases h
 | cons y ys => exact ⟨y, ys, rfl, Nat.succ.inj h⟩
theorem len8 {os : List Int} {n : Nat} (h : os.length = n + 8) : ∃ b0 b1 b2 b3 b4 b5 b6 b7 t, os = b0 :: b1 :: b2 :: b3 :: b4 :: b5 :: b6 :: b7 :: t ∧ t.length = n := by
 obtain ⟨b0, _, rfl, h1⟩ := len_succ (n := n + 7) h
 obtain ⟨b1, _, rfl, h2⟩ := len_succ (n := n + 6) h1
 obtain ⟨b2, _, rfl, h3⟩ := len_succ (n := n + 5) h2
 obtain ⟨b3, _, rfl, h4⟩ := len_succ (n := n + 4) h3
 obtain ⟨b4, _, rfl, h5⟩ := len_succ (n := n + 3) h4
 obtain ⟨b5, _, rfl, h6⟩ := len_succ (n := n + 2) h5
 obtain ⟨b6, _, rfl, h7⟩ := len_succ (n := n + 1) h6
 obtain ⟨b7, t, rfl, h8⟩ := len_succ (n := n) h7
 exact ⟨_, _, _, _, _, _, _, _, t, rfl, h8⟩
theorem all_cons {b : Int} {t : List Int} (h : (b :: t).all byteI = true) : byteI b = true ∧ t.all byteI = true := Bool.and_eq_true_iff.mp h
section
variable {P : D → Prop} {E : Str → D → Prop} {rl : List D} {l a s o b0 b1 b2 b3 b4 b5 b6 b7 c0 c1 c2 c3 c4 c5 c6 c7 : Int}
theorem both_byte (h : byteI b1 = true) : byteI (b1 / 16 * 16 + b1 % 16) = true := by rw [show b1 / 16 * 16 + b1 % 16 = b1 by lia]; exact h
theorem ch_eight (hb : ([b0, b1, b2, b3, b4, b5, b6, b7] : List Int).all byteI = true) (hn : b0 ≠ 24) (h : P (.bool true)) : (xs tCh nCh 40 chB 1 (chM rl l a [.int b0, .int b1, .int b2, .int b3, .int b4, .int b5, .int b6, .int b7] s o [])).sat (RetP P) E := by
 have hb' := hb
 simp only [List.all_cons, Bool.and_eq_true] at hb'
 refine abs1 fun G0 hG0 => ?_
 obtain ⟨y0, y1, y2, y3, y4, y5, y6, y7, _⟩ := hb'
 refine hG0 ?_
 clear hG0 G0
 refine step _ ch1a (sat_tt (sat_ff (sat_next (step _ ch2 (sat_tt (sat_tt (sat_bd (sat_bd (sat_bd (sat_bd (sat_bd (sat_bd (sat_on (capn rfl) ?_)))))))))))))
 rw [show cut ([.int b0, .int b1, .int b2, .int b3, .int b4, .int b5, .int b6, .int b7] : List D) (some 2) (some 4) = [.int b2, .int b3] from rfl]
 refine r_whole2 (sat_bd (sat_bd (sat_on (capn rfl) ?_)))
 rw [show cut ([.int b0, .int b1, .int b2, .int b3, .int b4, .int b5, .int b6, .int b7] : List D) (some 4) (some 8) = [.int b4, .int b5, .int b6, .int b7] from rfl]
 refine r_whole4 ?_
 refine sat_on (capn rfl) ?_
 rw [fm _ (by decide), fd _ (by decide)]
 refine sat_next (E := E) ?_
 have ho : (Row.mk b0 (b1 % 16) (b1 / 16) (sg16 (fl2 b2 b3)) (sg32 (fl4 b4 b5 b6 b7)) 0).oct = [b0, b1, b2, b3, b4, b5, b6, b7] := by
  unfold Row.oct Row.hd Row.tl
  dsimp only
  rw [if_neg hn, lo2_sg y2 y3, lo4_sg y4 y5 y6 y7, show b1 % 16 + 16 * (b1 / 16) = b1 by lia]
  rfl
 refine ch_same (r := Row.mk b0 (b1 % 16) (b1 / 16) (sg16 (fl2 b2 b3)) (sg32 (fl4 b4 b5 b6 b7)) 0) (os := [b0, b1, b2, b3, b4, b5, b6, b7]) (e := ((0 : Nat) : Int) + 8) hb (Nat.le_of_ble_eq_true rfl) y0 (both_byte y1) ho (fun E => sat_on rfl rfl) (fun P' E' hq => ?_) h
 rw [un_at0]
 exact r_unpack (k := 0) (r := []) (Nat.le_of_ble_eq_true rfl) rfl y2 y3 y4 y5 y6 y7 (fun J => hq) fun q => absurd q hn
theorem ch_sixteen (hb : ([24, b1, b2, b3, b4, b5, b6, b7, c0, c1, c2, c3, c4, c5, c6, c7] : List Int).all byteI = true) (h : P (.bool true)) :
  (xs tCh nCh 40 chB 1 (chM rl l a [.int 24, .int b1, .int b2, .int b3, .int b4, .int b5, .int b6, .int b7, .int c0, .int c1, .int c2, .int c3, .int c4, .int c5, .int c6, .int c7] s o [])).sat (RetP P) E := by
 have hb' := hb
 simp only [List.all_cons, Bool.and_eq_true] at hb'
 refine abs1 fun G0 hG0 => ?_
 obtain ⟨y0, y1, y2, y3, y4, y5, y6, y7, z0, z1, z2, z3, z4, z5, z6, z7, _⟩ := hb'
 refine hG0 ?_
 clear hG0 G0
 refine step _ ch1b (sat_tt (sat_tt (sat_tt (sat_bd (r_whole4 (sat_next (step _ ch2 (sat_tt (sat_tt (sat_bd (sat_bd (sat_bd (sat_bd (sat_bd (sat_bd (sat_on (capn rfl) ?_))))))))))))))))
 rw [show cut ([.int 24, .int b1, .int b2, .int b3, .int b4, .int b5, .int b6, .int b7, .int c0, .int c1, .int c2, .int c3, .int c4, .int c5, .int c6, .int c7] : List D) (some 2) (some 4) = [.int b2, .int b3] from rfl]
 refine r_whole2 (sat_bd (sat_bd (sat_on (capn rfl) ?_)))
 rw [show cut ([.int 24, .int b1, .int b2, .int b3, .int b4, .int b5, .int b6, .int b7, .int c0, .int c1, .int c2, .int c3, .int c4, .int c5, .int c6, .int c7] : List D) (some 4) (some 8) = [.int b4, .int b5, .int b6, .int b7] from rfl]
 refine r_whole4 ?_
 refine sat_on (capn rfl) ?_
 rw [fm _ (by decide), fd _ (by decide)]
 refine sat_next (E := E) ?_
 have hl : ([24, b1, b2, b3, b4, b5, b6, b7, c0, c1, c2, c3, c4, c5, c6, c7] : List Int).length ≤ cap := Nat.le_of_ble_eq_true rfl
 have ez : ∀ E, (zin [24, b1, b2, b3, b4, b5, b6, b7, c0, c1, c2, c3, c4, c5, c6, c7]).sat (fun b => b = ((0 : Int) == c0 && ((0 : Int) == c1 && ((0 : Int) == c2 && ((0 : Int) == c3))))) E := fun E => by
  refine sat_on (x := Tr.ok (false || ((((0 : Int) == c0) && (((0 : Int) == c1) && (((0 : Int) == c2) && (((0 : Int) == c3) && true)))) || false))) rfl ?_
  show (false || ((((0 : Int) == c0) && (((0 : Int) == c1) && (((0 : Int) == c2) && (((0 : Int) == c3) && true)))) || false)) = _
  rw [Bool.false_or, Bool.or_false, Bool.and_true]
 by_cases hz : c0 = 0 ∧ c1 = 0 ∧ c2 = 0 ∧ c3 = 0
 ·obtain ⟨rfl, rfl, rfl, rfl⟩ := hz
  have ho : (Row.mk 24 (b1 % 16) (b1 / 16) (sg16 (fl2 b2 b3)) (sg32 (fl4 b4 b5 b6 b7)) (sg32 (fl4 c4 c5 c6 c7))).oct = [24, b1, b2, b3, b4, b5, b6, b7, 0, 0, 0, 0, c4, c5, c6, c7] := by
   unfold Row.oct Row.hd Row.tl
   dsimp only
   rw [if_pos rfl, lo2_sg y2 y3, lo4_sg y4 y5 y6 y7, lo4_sg z4 z5 z6 z7, show b1 % 16 + 16 * (b1 / 16) = b1 by lia]
   rfl
  refine ch_same (r := Row.mk 24 (b1 % 16) (b1 / 16) (sg16 (fl2 b2 b3)) (sg32 (fl4 b4 b5 b6 b7)) (sg32 (fl4 c4 c5 c6 c7))) (os := [24, b1, b2, b3, b4, b5, b6, b7, 0, 0, 0, 0, c4, c5, c6, c7]) (e := ((0 : Nat) : Int) + 16) hb hl y0 (both_byte y1) ho (fun E => ez E) (fun P' E' hq => ?_) h
  rw [un_at0]
  refine r_unpack (k := 0) (r := [0, 0, 0, 0, c4, c5, c6, c7]) hl rfl y2 y3 y4 y5 y6 y7 (fun q => absurd rfl q) fun J => ?_
  exact r_half (r := []) hl rfl z4 z5 z6 z7 (fun J J J J => ⟨_, rfl, hq⟩) fun q => absurd ⟨rfl, rfl, rfl, rfl⟩ q
 ·refine ch_off (r := Row.mk 24 (b1 % 16) (b1 / 16) (sg16 (fl2 b2 b3)) (sg32 (fl4 b4 b5 b6 b7)) (sg32 (fl4 c4 c5 c6 c7))) (os := [24, b1, b2, b3, b4, b5, b6, b7, c0, c1, c2, c3, c4, c5, c6, c7]) hb hl (Tr.sat_mono (fun b q => ?_) (fun J J q => q) _ (ez E)) (fun P' E' hq => ?_) h
  ·rw [q]
   cases qq : ((0 : Int) == c0 && ((0 : Int) == c1 && ((0 : Int) == c2 && ((0 : Int) == c3)))) with
   | false => rfl
   | true =>
    simp only [Bool.and_eq_true, beq_iff_eq] at qq
    exact absurd ⟨qq.1.symm, qq.2.1.symm, qq.2.2.1.symm, qq.2.2.2.symm⟩ hz
  ·rw [un_at0]
   refine r_unpack (k := 0) (r := [c0, c1, c2, c3, c4, c5, c6, c7]) hl rfl y2 y3 y4 y5 y6 y7 (fun q => absurd rfl q) fun J => ?_
   exact r_half (r := []) hl rfl z4 z5 z6 z7 (fun q0 q1 q2 q3 => absurd ⟨q0, q1, q2, q3⟩ hz) fun J => hq _
end
section
variable {P : D → Prop} {E : Str → D → Prop} {rl : List D} {os : List Int} {l a s o : Int} {rows : List Row}
theorem fm_byte (x : Int) : byteI (x.fmod 256) = true := by
 have := fm_lt x (n := 256) (by decide)
 unfold byteI; simp; omega
theorem ch_rest (hb : os.all byteI = true) (hl : os.length = 8 ∨ os.length = 16) (h : P (.bool true)) : (xs tCh nCh 40 chB 0 (chM rl l a (os.map .int) s o [])).sat (RetP P) E := by
 have low : ∀ t : List Int, t.all byteI = true → (t ++ [0, 0, 0, 0, (l.fdiv 1).fmod 256, (l.fdiv 256).fmod 256, (l.fdiv 65536).fmod 256, (l.fdiv 16777216).fmod 256]).all byteI = true := fun t ht => by
  have e : ([0, 0, 0, 0, (l.fdiv 1).fmod 256, (l.fdiv 256).fmod 256, (l.fdiv 65536).fmod 256, (l.fdiv 16777216).fmod 256] : List Int).all byteI = true := by
   show (true && (true && (true && (true && (byteI _ && (byteI _ && (byteI _ && (byteI _ && true)))))))) = true
   rw [fm_byte, fm_byte, fm_byte, fm_byte]; rfl
  rw [List.all_append, ht, e]; rfl
 rcases hl with hl | hl
 ·obtain ⟨b0, b1, b2, b3, b4, b5, b6, b7, t, rfl, ht⟩ := len8 (n := 0) hl
  obtain rfl := List.eq_nil_of_length_eq_zero ht
  by_cases q : b0 = 24
  ·subst q
   refine step _ ch0a (sat_on rfl (sat_tt (sat_tt (sat_B1 (sat_next (E := E) ?_) 17))))
   exact ch_sixteen (low _ hb) h
  ·have q' : (b0 == 24) = false := by simpa using q
   refine step _ ch0a (sat_off q' (sat_off q' (sat_on (by rw [q']; rfl) (sat_tt (sat_next (E := E) ?_)))))
   exact ch_eight hb q h
 ·obtain ⟨b0, b1, b2, b3, b4, b5, b6, b7, t, rfl, ht⟩ := len8 (n := 8) hl
  refine abs1 fun G0 hG0 => ?_
  obtain ⟨c0, c1, c2, c3, c4, c5, c6, c7, t, rfl, ht2⟩ := len8 (n := 0) ht
  refine hG0 ?_
  clear hG0 G0
  obtain rfl := List.eq_nil_of_length_eq_zero ht2
  by_cases q : b0 = 24
  ·subst q
   refine step _ ch0b (sat_on rfl (sat_tt (sat_ff (sat_off rfl (sat_next (E := E) ?_)))))
   exact ch_sixteen hb h
  ·have q' : (b0 == 24) = false := by simpa using q
   refine step _ ch0b (sat_off q' (sat_off q' (sat_on (by rw [q']; rfl) (sat_tt (sat_next (E := E) ?_)))))
   refine ch_eight ?_ q h
   have e := List.all_eq_true.mp hb
   exact List.all_eq_true.mpr fun x hx => e x (List.mem_append_left [c0, c1, c2, c3, c4, c5, c6, c7] hx)
theorem more_byte (x : Int) : byteI (moreOf x) = true := by
 have m := fm_lt x (n := 6) (by decide)
 have e : ([0, 255, 128, 1, 24, (x.fdiv 6).fmod 256] : List Int).all byteI = true := by
  show (true && (true && (true && (true && (true && (byteI _ && true)))))) = true
  rw [fm_byte]; rfl
 unfold moreOf
 have h2 : (x.fmod 6).toNat < ([0, 255, 128, 1, 24, (x.fdiv 6).fmod 256] : List Int).length := by
  show (x.fmod 6).toNat < 6
  omega
 rw [List.getD, List.getElem?_eq_getElem h2]
 exact List.all_eq_true.mp e _ (List.getElem_mem h2)
theorem all_set {y : Int} (hy : byteI y = true) : ∀ {os : List Int} {j : Nat}, os.all byteI = true → (os.set j y).all byteI = true
 | [], _, h => h
 | _ :: _, 0, h => by
  obtain ⟨_, b⟩ := all_cons h
  show (byteI y && _) = true
  rw [hy, b]; rfl
 | x :: os, j + 1, h => by
  obtain ⟨a, b⟩ := all_cons h
  show (byteI x && (os.set j y).all byteI) = true
  rw [a, all_set hy b]; rfl
theorem row6_all : ∀ rows : List Row, (rows.map Row.L).all row6 = true
 | [] => rfl
 | r :: rows => by
  show (row6 r.L && (rows.map Row.L).all row6) = true
  rw [row6_all rows]; rfl
theorem r_changed (ok : ∀ r ∈ rows, r.Ok) (hne : rows ≠ []) (hn : rows.length ≤ 7) (h : P (.bool true)) : (F_ch [.list (rows.map Row.L), .int l]).sat P E := by
 have hp : 0 < rows.length := List.length_pos_iff.mpr hne
 have hm := fm_lt l (n := rows.length) (by omega)
 have hk : (l.fmod (rows.length : Int)).toNat < rows.length := by omega
 unfold F_ch changedF
 dsimp only
 rw [List.length_map]
 refine sat_on (by rw [decide_eq_true (cap_rows hn), row6_all]; cases rows with | nil => exact absurd rfl hne | cons _ _ => rfl) (sat_bd (sat_noexc ?_))
 have eg : (rows.map Row.L).getD (l.fmod (rows.length : Int)).toNat .none = (rows[(l.fmod (rows.length : Int)).toNat]).L := by
  rw [List.getD, List.getElem?_map, List.getElem?_eq_getElem hk]; rfl
 rw [eg]
 have okr := ok _ (List.getElem_mem hk)
 generalize rows[(l.fmod (rows.length : Int)).toNat] = r at okr
 refine r_octets ?_
 have hl8 : r.oct.length = 8 ∨ r.oct.length = 16 := by rw [oct_len]; unfold Row.sl; split <;> omega
 refine sat_on (by
  rw [allI_map, List.length_map]
  rcases hl8 with q | q <;> rw [q] <;> rfl) ?_
 rw [intsOf_map, List.length_map]
 have e8 := bytes_oct okr
 have key := ch_rest (rl := rows.map Row.L) (l := ((l.fdiv rows.length).fdiv r.oct.length).fdiv 6) (a := l.fmod rows.length) (s := (l.fdiv rows.length).fmod r.oct.length) (o := moreOf ((l.fdiv rows.length).fdiv r.oct.length))
  (os := r.oct.set ((l.fdiv rows.length).fmod r.oct.length).toNat (moreOf ((l.fdiv rows.length).fdiv r.oct.length))) (E := E) (P := P) (all_set (more_byte _) e8) (by rw [List.length_set]; exact hl8) h
 unfold chRest
 refine sat_retD ?_
 unfold xs chB at key
 exact key
end
noncomputable abbrev scL : Scope := (fn "law").2.2
@[irreducible] noncomputable def lwB : List Stmt := lawRest
@[irreducible] noncomputable def evw (k : Nat) (e : PySem.Expr) (m : Loc) : Tr D := ev T_law k scL e m
@[irreducible] noncomputable def cF : Cp := cpAt lawComp 0
@[irreducible] noncomputable def cT1 : Cp := cpAt lawT1 0
@[irreducible] noncomputable def cLc : Cp := cpAt lawLc 0
@[irreducible] noncomputable def cS0 : Cp := cpAt (exprOf (stm lwB 2)) 0
@[irreducible] noncomputable def cS1 : Cp := cpAt (exprOf (stm lwB 2)) 1
noncomputable def notK (d : D) : Tr D := (tru d).bind fun b => .ok (.bool (!b))
noncomputable def andK (rest : Tr D) (v : D) : Tr D := match v with
 | .bool b => boolB .And b (.bool b) rest
 | v => (tru v).bind fun t => .br t rest (.ok v)
noncomputable abbrev cmpT (k : Nat) (c : Cp) (m : Loc) (ds : List D) : Tr D := .br (decide (ds.length ≤ cap)) ((noExc (cl T_law k c m ds)).bind lsK) .bad
noncomputable abbrev neK (r : Tr D) (a : D) : Tr D := r.bind fun b => (cop .NotEq a b).bind fun c => .ok (.bool c)
noncomputable abbrev N96 : Int := 79228162514264337593543950336
section
variable {P : D → Prop} {E : Str → D → Prop} {l l' rl ol bl fl : List D} {x : Int} {m : Loc} {r : Row}
theorem lw_c : evw 40 lawComp [("script", .list l)] = .br (decide (l.length ≤ cap)) (cmpT 39 cF [("script", .list l)] (cut l none (some 7))) .bad := by kernel_rfl
theorem lw_ce (hm : freeOf cF.sc m = []) : ce T_law 39 cF m (.int x) = F_law_fields [.int x] := by
 unfold ce
 rw [hm]
 kernel_rfl
noncomputable abbrev lM (l rl ol bl : List D) : Loc := lawM l rl ol (.list bl)
theorem lw_t1 : evw 40 lawT1 (lM l rl ol bl) = (F_read [.list ol]).bind (neK (cmpT 38 cT1 (lM l rl ol bl) rl)) := by kernel_rfl
theorem lw_te (hm : freeOf cT1.sc m = []) : ce T_law 38 cT1 m r.L = .br true (.ok r.T) .bad := by
 unfold ce
 rw [hm]
 kernel_rfl
theorem lw_lc : evw 40 lawLc (lM l rl ol bl) = cmpT 39 cLc (lM l rl ol bl) rl := by kernel_rfl
theorem lw_le (hm : freeOf cLc.sc m = []) : ce T_law 39 cLc m r.L = .ok r.O := by
 unfold ce
 rw [hm]
 kernel_rfl
theorem lr0 : x1 T_law "law" 40 lwB 0 (lM l rl ol bl) = (((F_slots [.list rl, .list ol, .list bl]).bind notK).bind (orK (((F_cuts [.list rl, .list ol, .list bl]).bind notK).bind (orK ((F_goals [.list rl, .list bl]).bind notK))))).bind (ifK RF (.ok (.next (lM l rl ol bl)))) := by kernel_rfl
noncomputable abbrev lN (l rl ol bl fl : List D) : Loc := lM l rl ol bl ++ [(("facing" : Str), D.list fl)]
theorem lr1 : x1 T_law "law" 40 lwB 1 (lM l rl ol bl) = .br (decide (rl.length ≤ cap)) (.br (decide (rl.length ≤ cap)) (.br (decide ((cut rl (some 1) none).length + (cut rl none (some 1)).length ≤ cap)) (.ok (.next (lN l rl ol bl (cut rl (some 1) none ++ cut rl none (some 1))))) .bad) .bad) .bad := by kernel_rfl
theorem lr2 : x1 T_law "law" 40 lwB 2 (lN l rl ol bl fl) = (((((((cmpT 36 cS0 (lN l rl ol bl fl) fl).bind fun d => (Tr.br true (.ok [.list []]) .bad).bind fun ds => .ok (d :: ds)).bind sumLF).bind fun d => .ok [d]).bind F_read).bind (neK (cmpT 38 cS1 (lN l rl ol bl fl) fl)))).bind (ifK RF (.ok (.next (lN l rl ol bl fl)))) := by kernel_rfl
theorem lr2e (hm : freeOf cS0.sc m = []) : ce T_law 36 cS0 m r.L = F_law_octets [r.L] := by
 unfold ce
 rw [hm]
 kernel_rfl
theorem lr2f (hm : freeOf cS1.sc m = []) : ce T_law 38 cS1 m r.L = .br true (.ok r.T) .bad := by
 unfold ce
 rw [hm]
 kernel_rfl
theorem lr3 : x1 T_law "law" 40 lwB 3 (lN (.int x :: l') rl ol bl fl) = ((Tr.br true ((deq (.list rl) (.list [])).bind fun c => .ok (.bool c)) .bad).bind (orK ((Tr.br (allI (.int x :: l') && decide ((D.int x :: l').length ≤ cap)) (.br true (.br true (F_ch [.list rl, .int ((intsOf (.int x :: l')).sum.fmod N96)]) .bad) .bad) .bad).bind (andK (B1 3 (F_ch [.list rl, .int ((x.fdiv 17).fmod N96)])))))).bind fun d => .ok (.ret d) := by kernel_rfl
theorem lr3n : x1 T_law "law" 40 lwB 3 (lN [] [] ol bl fl) = ((Tr.br true ((deq (.list []) (.list [])).bind fun c => .ok (.bool c)) .bad).bind (orK ((Tr.br true (.br true (.br true (F_ch [.list [], .int ((intsOf []).sum.fmod N96)]) .bad) .bad) .bad).bind (andK .bad)))).bind fun d => .ok (.ret d) := by kernel_rfl
end
section
variable {P : D → Prop} {E : Str → D → Prop} {rows : List Row}
theorem sat_or {rest : Tr D} {b : Bool} (h1 : b = true → P (.bool true)) (h2 : b = false → rest.sat P E) : (orK rest (.bool b)).sat P E := by
 show (boolB .Or b (.bool b) rest).sat P E
 induction b using Bool.casesOn with
 | true =>
  have := h1 rfl
  induction rest using Tr.casesOn with
  | ok x =>
   induction x using D.casesOn with
   | bool => exact this
   | _ => exact sat_tt this
  | _ => exact sat_tt this
 | false =>
  have := h2 rfl
  induction rest using Tr.casesOn with
  | ok x =>
   induction x using D.casesOn with
   | bool => exact this
   | _ => exact sat_ff this
  | _ => exact sat_ff this
theorem sat_and {rest : Tr D} (h2 : rest.sat P E) : (andK rest (.bool true)).sat P E := by
 show (boolB .And true (.bool true) rest).sat P E
 induction rest using Tr.casesOn with
 | ok x =>
  induction x using D.casesOn with
  | bool => exact h2
  | _ => exact sat_tt h2
 | _ => exact sat_tt h2
theorem toPys_L : ∀ rows : List Row, toPys (rows.map Row.L) = some (rows.map fun r => .list [.int r.c, .int r.d, .int r.s, .int r.o, .int r.i, .int r.m])
 | [] => rfl
 | r :: rows => by
  show (match toPy (Row.L r), toPys (rows.map Row.L) with | some p, some ps => some (p :: ps) | _, _ => none) = _
  rw [toPys_L rows]; rfl
theorem deq_nil {P : Bool → Prop} (rows : List Row) (h : P rows.isEmpty) : (deq (.list (rows.map Row.L)) (.list [])).sat P E := by
 show (match toPy (.list (rows.map Row.L)), toPy (.list []) with | some p, some q => Tr.br (SeqAt.shaped p && SeqAt.shaped q) (.ok (PyData.eqv p q)) .bad | _, _ => .bad).sat P E
 rw [show toPy (.list (rows.map Row.L)) = some (.list (rows.map fun r => .list [.int r.c, .int r.d, .int r.s, .int r.o, .int r.i, .int r.m])) by show (match toPys (rows.map Row.L) with | some ps => some (PyData.list ps) | none => none) = _; rw [toPys_L]]
 refine sat_on (by rw [shaped_list (fun J => rfl) (fun J => Nat.le_refl _)]; rfl) ?_
 induction rows using List.casesOn with
 | nil => exact h
 | cons r rows => exact h
theorem all2_rows {R : D → D → Prop} (hR : ∀ d v, R d v → ∃ r : Row, r.Ok ∧ v = r.L) : ∀ {ds vs : List D}, All2 R ds vs → ∃ rows : List Row, vs = rows.map Row.L ∧ (∀ r ∈ rows, r.Ok) ∧ rows.length = ds.length
 | [], _, .nil => ⟨[], rfl, (fun J h => nomatch h), rfl⟩
 | d :: ds, _, .cons h t => by
  obtain ⟨r, ok, rfl⟩ := hR _ _ h
  obtain ⟨rows, rfl, oks, e⟩ := all2_rows hR t
  exact ⟨r :: rows, rfl, fun q hq => (List.mem_cons.mp hq).elim (fun e => e ▸ ok) (oks q), by simp [e]⟩
theorem r_loop {k : List D → List Int → Tr D} : ∀ {rest pre : List Row}, (∀ r ∈ rest, r.Ok) → (pre ++ rest).length ≤ 7 → (k ((octs (pre ++ rest)).map .int) (begs 0 (pre ++ rest))).sat P E → (lawLoop F_law_octets k (rest.map Row.L) ((octs pre).map .int) (begs 0 pre)).sat P E
 | [], pre, _, _, h => by rw [List.append_nil] at h; exact h
 | r :: rest, pre, ok, hn, h => by
  have e : pre ++ r :: rest = (pre ++ [r]) ++ rest := by simp
  have ol := octs_len (a := pre)
  have hp := (app7 hn).1
  refine sat_bd (sat_noexc (r_octets (sat_on (decide_eq_true (by rw [List.length_map, List.length_map]; exact le_cap (Nat.add_le_add (len_octs hp) oct16) rfl)) ?_)))
  rw [e] at hn h
  have ih := r_loop (rest := rest) (pre := pre ++ [r]) (fun q hq => ok q (.tail _ hq)) hn h
  rw [octs_append, show octs [r] = r.oct from List.append_nil _, List.map_append, begs_append, Nat.zero_add, show begs (slots pre) [r] = [((slots pre : Nat) : Int)] from rfl] at ih
  rw [fdiv_len ol]
  exact ih
theorem r_packL : ∀ {rows : List Row} {acc : List Int}, (∀ r ∈ rows, r.Ok) → acc.length + (octs rows).length ≤ cap → P (.bytes (acc ++ octs rows)) → (packL F_pack (rows.map Row.O) acc).sat P E
 | [], acc, _, _, h => by rw [octs_nil, List.append_nil] at h; exact h
 | r :: rows, acc, ok, hn, h => by
  have okr := ok r (.head _)
  have f := lg_fx okr
  have b1 : byteI r.c = true := by have := f.c0; have := f.c1; unfold byteI; simp; lia
  have b2 : byteI (r.s * 16 + r.d) = true := by have := f.d0; have := f.d1; have := f.s0; have := f.s1; unfold byteI; simp; lia
  rw [octs_cons, List.length_append] at hn
  rw [octs_cons, ← List.append_assoc] at h
  refine sat_bd (sat_noexc (r_pack (pass okr ⟨b1, b2, ?_⟩)))
  exact sat_on (decide_eq_true (by rw [List.length_append]; show acc.length + r.oct.length ≤ cap; lia)) (r_packL (fun q hq => ok q (.tail _ hq)) (by rw [List.length_append]; show acc.length + r.oct.length + _ ≤ cap; lia) h)
theorem r_cmp {k : Nat} {c : Cp} {m : Loc} {g : Row → D} {P : D → Prop} (hi : c.ifs = []) (hn : rows.length ≤ 7) (he : ∀ r ∈ rows, (ce T_law k c m r.L).sat (fun v => v = g r) (fun J J => False)) (h : P (.list (rows.map g))) : (cmpT k c m (rows.map Row.L)).sat P E := by
 have hc := cap_rows hn
 refine sat_on (by rw [List.length_map]; exact decide_eq_true hc) (sat_bd (sat_noexc (r_cl (R := fun d v => ∀ r : Row, d = r.L → v = g r) hi (fun d hd => ?_) fun vs hv => ?_)))
 ·obtain ⟨r, hr, rfl⟩ := List.mem_map.mp hd
  refine Tr.sat_mono (fun v q r' e => ?_) (fun J J q => q) _ (he r hr)
  obtain ⟨a1, a2, a3, a4, a5, a6⟩ := r
  obtain ⟨b1, b2, b3, b4, b5, b6⟩ := r'
  cases e
  exact q
 ·have e := All2.map (f := Row.L) (g := g) (fun {r y} q => q r rfl) hv
  subst e
  exact sat_on (by rw [List.length_map]; exact decide_eq_true hc) h
theorem sum_octs (rows : List Row) : ((rows.map fun r => D.list (r.oct.map .int)).flatMap itemsD) = (octs rows).map .int := by
 induction rows with
 | nil => rfl
 | cons r rows ih => rw [List.map_cons, List.flatMap_cons, ih, octs_cons, List.map_append]; rfl
theorem isL_all (rows : List Row) : (rows.map fun r => D.list (r.oct.map .int)).all isL = true := by
 induction rows with
 | nil => rfl
 | cons r rows ih => rw [List.map_cons, List.all_cons, ih]; rfl
theorem cut_map {α β : Type} (f : α → β) (xs : List α) (lo hi : Option Int) : cut (xs.map f) lo hi = (cut xs lo hi).map f := by
 unfold cut
 rw [List.length_map, List.map_take, List.map_drop]
theorem r_ne {rows : List Row} {k : Nat} {c : Cp} {m : Loc} {P : D → Prop} (hi : c.ifs = []) (hn : rows.length ≤ 7) (he : ∀ r ∈ rows, (ce T_law k c m r.L).sat (fun v => v = r.T) (fun J J => False)) (h : P (.bool false)) : (neK (cmpT k c m (rows.map Row.L)) (.list (rows.map Row.T))).sat P E := by
 refine sat_bd (r_cmp hi hn he (sat_bd ?_))
 show (Tr.bind (fun c => .ok (!c)) (deq (.list (rows.map Row.T)) (.list (rows.map Row.T)))).sat _ _
 exact sat_bd (deq_rows _ h)
theorem law_rest {l : List D} (ok : ∀ r ∈ rows, r.Ok) (hn : rows.length ≤ 7) (hl : (∃ xs : List Int, l = xs.map .int ∧ xs.length ≤ 63) ) (he : rows = [] ↔ l = []) :
  (xs T_law "law" 40 lwB 0 (lM l (rows.map Row.L) ((octs rows).map .int) ((begs 0 rows).map .int))).sat (RetP fun d => d = .bool true) (fun J J => False) := by
 have hc : decide ((rows.map Row.L).length ≤ cap) = true := by rw [List.length_map]; exact decide_eq_true (cap_rows hn)
 refine step _ lr0 (sat_bd (sat_bd (sat_bd (r_slots_right ok hn (sat_or (fun q => nomatch q) fun J => sat_bd (sat_bd (r_cuts_right ok hn (sat_or (fun q => nomatch q) fun J => sat_bd (r_goals_right ok hn (sat_ff ?_))))))))))
 refine sat_next (step _ lr1 (sat_on hc (sat_on hc ?_)))
 rw [cut_map, cut_map, show (some (1 : Int)) = some ((1 : Nat) : Int) from rfl, cut_drop, cut_take, ← List.map_append]
 have lf : (rows.drop 1 ++ rows.take 1).length ≤ 7 := by simp; omega
 refine sat_on (decide_eq_true (by rw [List.length_map, List.length_map, ← List.length_append]; exact cap_rows lf)) (sat_next ?_)
 have okf : ∀ r ∈ rows.drop 1 ++ rows.take 1, r.Ok := fun r q => (List.mem_append.mp q).elim (fun q => ok r (List.mem_of_mem_drop q)) fun q => ok r (List.mem_of_mem_take q)
 generalize rows.drop 1 ++ rows.take 1 = facing at lf okf
 refine step _ lr2 (sat_bd (sat_bd (sat_bd (sat_bd (sat_bd (sat_bd (r_cmp (g := fun r => .list (r.oct.map .int)) (by kernel_rfl) lf (fun r hr => ?_) (sat_bd (sat_tt (sat_ok ?_))))))))))
 ·rw [lr2e (by kernel_rfl)]
  exact r_octets rfl
 refine sat_on (by rw [isL_all, sum_octs, List.length_map, List.length_map]; rw [decide_eq_true (show ([] : List D).length + (octs facing).length ≤ cap from (Nat.zero_add _).symm ▸ cap_octs lf), decide_eq_true (cap_rows lf)]; rfl) ?_
 rw [sum_octs, List.nil_append]
 refine read_rows okf (cap_octs lf) (r_ne (by kernel_rfl) lf (fun r J => ?_) (sat_ff (sat_next ?_)))
 ·rw [lr2f (by kernel_rfl)]
  exact sat_tt rfl
 obtain ⟨is, rfl, hi⟩ := hl
 induction is using List.casesOn with
 | nil =>
  obtain rfl := he.mpr rfl
  refine step _ lr3n (sat_bd (sat_bd (sat_tt (sat_bd (deq_nil [] ?_)))))
  exact sat_or (fun J => rfl) fun q => nomatch q
 | cons x is =>
  have hne : rows ≠ [] := fun q => nomatch he.mp q
  refine step _ lr3 (sat_bd (sat_bd (sat_tt (sat_bd (deq_nil rows ?_)))))
  refine sat_or (fun J => rfl) fun J => sat_bd (sat_on ?_ (sat_tt (sat_tt (r_changed ok hne hn (sat_and (sat_B1 (r_changed ok hne hn ?_) 3))))))
  rotate_left
  ·exact sat_ret (E := fun J J => False) rfl
  rw [show allI (D.int x :: is.map D.int) = true from allI_map (x :: is), decide_eq_true (show (D.int x :: is.map D.int).length ≤ cap by rw [List.length_cons, List.length_map]; exact le_cap hi rfl)]
  rfl
theorem plain_law : PlainLaw := by
 intro is hn
 have hl : is.length ≤ cap := le_cap hn rfl
 have e7 : cut (is.map D.int) none (some 7) = (is.take 7).map D.int := by rw [show (some (7 : Int)) = some ((7 : Nat) : Int) from rfl, cut_take, List.map_take]
 have l7 : (is.take 7).length ≤ 7 := List.length_take_le 7 is
 have comp : (evw 40 lawComp [("script", .list (is.map .int))]).sat (fun d => ∃ rows : List Row, d = .list (rows.map Row.L) ∧ (∀ r ∈ rows, r.Ok) ∧ rows.length = (is.take 7).length) (fun J J => False) := by
  rw [lw_c]
  refine sat_on (by rw [List.length_map]; exact decide_eq_true hl) ?_
  rw [e7]
  refine sat_on (by rw [List.length_map]; exact decide_eq_true (le_cap l7 rfl)) (sat_bd (sat_noexc (r_cl (R := fun J v => ∃ r : Row, r.Ok ∧ v = r.L) (by kernel_rfl) (fun d hd => ?_) fun vs hv => ?_)))
  ·obtain ⟨x, _, rfl⟩ := List.mem_map.mp hd
   rw [lw_ce (by kernel_rfl)]
   exact r_fields fun r ok => ⟨r, ok, rfl⟩
  ·obtain ⟨rows, rfl, oks, e⟩ := all2_rows (fun d v q => q) hv
   rw [List.length_map] at e
   exact sat_on (by rw [List.length_map, e]; exact decide_eq_true (le_cap l7 rfl)) ⟨rows, rfl, oks, e⟩
 unfold F_law lawF
 unfold evw at comp
 refine sat_bd (sat_noexc (Tr.sat_mono (fun d q => ?_) (fun J J q => q) _ comp))
 obtain ⟨rows, rfl, ok, e⟩ := q
 have h7 : rows.length ≤ 7 := e ▸ l7
 have hc := cap_rows h7
 have lo := cap_octs h7
 refine sat_on (by rw [List.length_map]; exact decide_eq_true hc) (r_loop (pre := []) ok h7 ?_)
 rw [List.nil_append]
 unfold lawEnd
 refine sat_bd (sat_noexc (sat_bd ?_))
 have t1 := lw_t1 (l := is.map D.int) (rl := rows.map Row.L) (ol := (octs rows).map .int) (bl := (begs 0 rows).map .int)
 unfold evw at t1
 rw [t1]
 refine sat_bd (read_rows ok lo (r_ne (by kernel_rfl) h7 (fun r J => by rw [lw_te (by kernel_rfl)]; exact sat_tt rfl) ?_))
 have lc := lw_lc (l := is.map D.int) (rl := rows.map Row.L) (ol := (octs rows).map .int) (bl := (begs 0 rows).map .int)
 unfold evw at lc
 show (Tr.bind _ (noExc (ev T_law 40 scL lawLc (lM (is.map D.int) (rows.map Row.L) ((octs rows).map .int) ((begs 0 rows).map .int))))).sat _ _
 rw [lc]
 refine sat_bd (sat_noexc (r_cmp (g := Row.O) (by kernel_rfl) h7 (fun r J => by rw [lw_le (by kernel_rfl)]; exact sat_ok rfl) ?_))
 refine sat_bd (sat_noexc (sat_on (by rw [List.length_map]; exact decide_eq_true hc) (r_packL ok ((Nat.zero_add _).symm ▸ lo) ?_)))
 rw [List.nil_append]
 refine sat_on (decide_eq_true lo) (sat_bd (sat_noexc ?_))
 show (Tr.bind (fun c => .ok (!c)) (deq (.list ((octs rows).map .int)) (.list ((octs rows).map .int)))).sat _ _
 refine sat_bd (deq_ints _ ?_)
 refine sat_noexc (sat_retD ?_)
 have key := law_rest (rows := rows) (l := is.map D.int) ok h7 ⟨is, rfl, hn⟩ ⟨fun q => ?_, fun q => ?_⟩
 ·unfold xs lwB at key
  exact key
 ·subst q
  induction is using List.casesOn with
  | nil => rfl
  | cons _ _ => simp at e
 ·induction is using List.casesOn with
  | nil => exact List.eq_nil_of_length_eq_zero e
  | cons _ _ => cases q
end
end
end Rg
open PySem PySem.W PyProof.Rows
theorem Rg.left0 : LeftO Rg.lawRow.prog Rg.qv Rg.looseL (fun J => true) Rg.hk.obs Rg.hk.val 5060 := by
 intro w
 kernel_rfl
theorem PySem.Challenge.cw_pq0997_01_holds : PySem.Challenge.rw_pq0997_01.Holds := by
 exact Rg.law_holds Rg.left0 Rg.plain_law
