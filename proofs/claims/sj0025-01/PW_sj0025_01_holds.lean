import PyProof.Rows.All
import Wide.All
import OpenK.AllK
import Wide.FinOn
import Lean
import PySem.Challenge.RW_sj0025_01
set_option Elab.async false
set_option maxRecDepth 100000
set_option linter.all false

namespace Mine
open PySem PySem.W PySem.Calls PySem.Spec PyProof.Rows

/-! Abstract values, tables of known objects, and the relation of the two. -/

noncomputable abbrev Tab := Addr → Option Obj
noncomputable def Tab.Le (T T' : Tab) : Prop := ∀ b o, T b = some o → T' b = some o
theorem Tab.Le.refl (T : Tab) : T.Le T := fun _ _ e => e
theorem Tab.Le.trans {T T' T'' : Tab} (x : T.Le T') (y : T'.Le T'') : T.Le T'' := fun b o e => y b o (x b o e)
noncomputable def Tab.put (T : Tab) (a : Addr) (o : Obj) : Tab := fun b => if b = a then some o else T b
theorem Tab.put_self (T : Tab) (a : Addr) (o : Obj) : T.put a o a = some o := by simp [Tab.put]
theorem Tab.put_ne (T : Tab) {a b : Addr} (o : Obj) (h : b ≠ a) : T.put a o b = T b := by simp [Tab.put, h]
theorem Tab.le_put {T : Tab} {a : Addr} (o : Obj) (h : T a = none) : T.Le (T.put a o) := fun b o' e => by
  by_cases hb : b = a
  · subst hb; rw [h] at e; cases e
  · rw [Tab.put_ne _ _ hb]; exact e

inductive AV where
  | none
  | bool (b : Bool)
  | int (i : Int)
  | str (s : Str)
  | tup (l : List AV)
  | lst (l : List AV)
  | ref (a : Addr)
  | rng (lo hi : Int)
  | exc (C : Addr) (kind : Str) (at_ : Int) (det : Str)

/-- what an object of the own exception class looks like -/
noncomputable def dictHas (es : Array DictEntry) (x : Str) (v : Value) : Prop := StrKeys es ∧ nsFind es x = some v

mutual
inductive VR (T : Tab) : Value → AV → Prop
  | none : VR T .none .none
  | bool (b : Bool) : VR T (.bool b) (.bool b)
  | int (i : Int) (t : Tok) : VR T (.int i t) (.int i)
  | str (x : Str) (t : Tok) : VR T (.str x t) (.str x)
  | tup {a : Addr} {vs : List Value} {n : Nat} {l : List AV} : T a = some ({ cls := .type "tuple", data := .seq vs.toArray n } : Obj) → VRs T vs l → VR T (.ref a) (.tup l)
  | lst {a : Addr} {vs : List Value} {n : Nat} {l : List AV} : T a = some (listOf vs.toArray n) → VRs T vs l → VR T (.ref a) (.lst l)
  | ref (a : Addr) : VR T (.ref a) (.ref a)
  | rng {a : Addr} {lo hi : Int} {t u v : Tok} : T a = some ({ cls := .type "range", dict := none, data := .fields #[.int lo t, .int hi u, .int 1 v], slots := #[] } : Obj) → VR T (.ref a) (.rng lo hi)
  | exc {e dx : Addr} {oe od : Obj} {C : Addr} {fs : Array Value} {es : Array DictEntry} {n : Nat} {t1 t2 t3 : Tok} {k d : Str} {i : Int} :
      T e = some oe → oe.cls = .ref C → oe.dict = some dx → oe.data = .fields fs → T dx = some od → od.data = .dict es n →
      dictHas es "kind" (.str k t1) → dictHas es "at" (.int i t2) → dictHas es "detail" (.str d t3) → VR T (.ref e) (.exc C k i d)
inductive VRs (T : Tab) : List Value → List AV → Prop
  | nil : VRs T [] []
  | cons {v : Value} {vs : List Value} {d : AV} {l : List AV} : VR T v d → VRs T vs l → VRs T (v :: vs) (d :: l)
end
/-- what a value of a kind is -/
noncomputable def VR.Inv (T : Tab) (v : Value) : AV → Prop
  | .none => v = .none
  | .bool b => v = .bool b
  | .int i => ∃ t, v = .int i t
  | .str x => ∃ t, v = .str x t
  | .ref a => v = .ref a
  | .tup l => ∃ a vs n, v = .ref a ∧ T a = some ({ cls := .type "tuple", data := .seq (List.toArray vs) n } : Obj) ∧ VRs T vs l
  | .lst l => ∃ a vs n, v = .ref a ∧ T a = some (listOf (List.toArray vs) n) ∧ VRs T vs l
  | _ => True
theorem VR.inv {T : Tab} {v : Value} {d : AV} (h : VR T v d) : VR.Inv T v d := by
  cases h with
  | none => rfl
  | bool => rfl
  | int i t => exact ⟨t, rfl⟩
  | str x t => exact ⟨t, rfl⟩
  | tup h r => exact ⟨_, _, _, rfl, h, r⟩
  | lst h r => exact ⟨_, _, _, rfl, h, r⟩
  | ref => rfl
  | rng => trivial
  | exc => trivial
theorem VRs.icons {T : Tab} {vs : List Value} {d : AV} {l : List AV} (h : VRs T vs (d :: l)) : ∃ v r, vs = v :: r ∧ VR T v d ∧ VRs T r l := by
  cases h with | cons a b => exact ⟨_, _, rfl, a, b⟩
mutual
theorem VR.mono {T T' : Tab} (h : T.Le T') : ∀ {v : Value} {d : AV}, VR T v d → VR T' v d
  | _, _, .none => .none
  | _, _, .bool b => .bool b
  | _, _, .int i t => .int i t
  | _, _, .str x t => .str x t
  | _, _, .tup e r => .tup (h _ _ e) (VRs.mono h r)
  | _, _, .lst e r => .lst (h _ _ e) (VRs.mono h r)
  | _, _, .ref a => .ref a
  | _, _, .rng e => .rng (h _ _ e)
  | _, _, .exc e c d f e' f' k1 k2 k3 => .exc (h _ _ e) c d f (h _ _ e') f' k1 k2 k3
theorem VRs.mono {T T' : Tab} (h : T.Le T') : ∀ {vs : List Value} {l : List AV}, VRs T vs l → VRs T' vs l
  | _, _, .nil => .nil
  | _, _, .cons e r => .cons (VR.mono h e) (VRs.mono h r)
end
section
variable {T : Tab} {v : Value} {d : AV} {vs ws : List Value} {l k : List AV}
theorem VRs.length (h : VRs T vs l) : vs.length = l.length := by
  induction vs generalizing l with
  | nil => cases h; rfl
  | cons v vs ih => cases h with | cons _ r => rw [List.length_cons, List.length_cons, ih r]
theorem VRs.append (h : VRs T vs l) (g : VRs T ws k) : VRs T (vs ++ ws) (l ++ k) := by
  induction vs generalizing l with
  | nil => cases h; exact g
  | cons v vs ih => cases h with | cons h r => exact .cons h (ih r)
theorem VRs.one (h : VR T v d) : VRs T [v] [d] := .cons h .nil
theorem VRs.get (h : VRs T vs l) {i : Nat} (hi : l[i]? = some d) : ∃ v, vs[i]? = some v ∧ VR T v d := by
  induction vs generalizing l i with
  | nil => cases h; simp at hi
  | cons v vs ih =>
    cases h with
    | cons h r =>
      cases i with
      | zero => simp at hi; subst hi; exact ⟨v, by simp, h⟩
      | succ i => simp at hi; obtain ⟨w, hw, hr⟩ := ih r hi; exact ⟨w, by simpa using hw, hr⟩
theorem VRs.take (h : VRs T vs l) (i : Nat) : VRs T (vs.take i) (l.take i) := by
  induction vs generalizing l i with
  | nil => cases h; simp; exact .nil
  | cons v vs ih =>
    cases h with
    | cons h r =>
      cases i with
      | zero => exact .nil
      | succ i => exact .cons h (ih r i)
theorem VRs.drop (h : VRs T vs l) (i : Nat) : VRs T (vs.drop i) (l.drop i) := by
  induction vs generalizing l i with
  | nil => cases h; simp; exact .nil
  | cons v vs ih =>
    cases h with
    | cons h r =>
      cases i with
      | zero => exact .cons h r
      | succ i => exact ih r i
theorem VRs.set (h : VRs T vs l) (i : Nat) (hv : VR T v d) : VRs T (vs.set i v) (l.set i d) := by
  induction vs generalizing l i with
  | nil => cases h; exact .nil
  | cons v' vs ih =>
    cases h with
    | cons h r =>
      cases i with
      | zero => exact .cons hv r
      | succ i => exact .cons h (ih r i)
theorem VRs.snoc (h : VRs T vs (l ++ [d])) : ∃ ws v, vs = ws ++ [v] ∧ VRs T ws l ∧ VR T v d := by
  induction l generalizing vs with
  | nil => cases h with | cons h r => cases r; exact ⟨[], _, rfl, .nil, h⟩
  | cons e l ih =>
    cases h with
    | cons h r => obtain ⟨ws, v, rfl, h1, h2⟩ := ih r; exact ⟨_ :: ws, v, rfl, .cons h h1, h2⟩
end

/-! Contexts and abstract states -/

structure Cx where
  A : Around
  env : Env
  fr : List Env
  od : Tab

structure AS where
  loc : List (Str × AV)
  sto : List (Addr × List AV)

structure Bs where
  prog : Program
  w : World
  h : Heap
  os : OsState
  FE : Addr

structure Rep (B : Bs) (c : Cx) (T : Tab) (a : AS) (s : Shared) : Prop where
  old : ∀ b o, B.h.get? b = some o → T b = some o
  tab : ∀ b o, T b = some o → s.heap.get? b = some o
  frames : s.heap.FunFrames B.h c.fr
  frs : ∀ b ∈ c.fr.filterMap (·.frame), T b = none
  loc : ∃ m, s.heap.Ns c.env.locals m ∧ ∀ p ∈ a.loc, ∃ v, m p.1 = some v ∧ VR T v p.2
  loT : T c.env.locals = none
  sto : ∀ p ∈ a.sto, ∃ vs n, s.heap.get? p.1 = some (listOf (List.toArray vs) n) ∧ VRs T vs p.2 ∧ T p.1 = none
  nd : (a.sto.map (·.1)).Nodup
  od : ∀ b o, c.od b = some o → T b = none ∧ ∃ sl, s.heap.get? b = some { o with slots := sl }
  gens : s.gens = #[]
  os : s.os = B.os

structure Cx.Ok (c : Cx) : Prop where
  frames : c.A.frames = some c.fr
  guards : c.A.guards = some []
  depth : c.A.depth < 600
  units : c.A.units < 6000
  cov : ∀ b ∈ c.fr.filterMap (·.frame), b = c.env.locals ∨ ∃ o, c.od b = some o
  odL : c.od c.env.locals = none
  odD : ∀ b o, c.od b = some o → ∃ es n, o.data = .dict es n
  kind : c.env.scope.kind = .function
  glob : c.env.globals = mainGlobals
  blt : c.env.builtins = builtinsNs

noncomputable def Cx.Kinds (c : Cx) (ks : List (Str × NameKind)) : Prop := ∀ p ∈ ks, c.env.kindOf p.1 = some p.2

section
variable {B : Bs} {c : Cx} {T : Tab} {a : AS} {s : Shared}

theorem Rep.grow (R : Rep B c T a s) {h' : Heap} (k : ∀ b o, s.heap.get? b = some o → h'.get? b = some o) (tk : Nat) : Rep B c T a { s with heap := h', toks := tk } where
  old := R.old
  tab := fun b o e => k b o (R.tab b o e)
  frames := R.frames.of_keeps fun b o e _ => ⟨o, k b o e, rfl⟩
  frs := R.frs
  loc := let ⟨m, h1, h2⟩ := R.loc; ⟨m, h1.keeps k, h2⟩
  loT := R.loT
  sto := fun p hp => let ⟨vs, n, h1, h2⟩ := R.sto p hp; ⟨vs, n, k _ _ h1, h2⟩
  nd := R.nd
  od := fun b o e => let ⟨h1, sl, h2⟩ := R.od b o e; ⟨h1, sl, k _ _ h2⟩
  gens := R.gens
  os := R.os
theorem Rep.toks (R : Rep B c T a s) (tk : Nat) : Rep B c T a { s with toks := tk } := R.grow (fun _ _ e => e) tk
theorem Rep.push (R : Rep B c T a s) (o : Obj) : Rep B c T a { s with heap := s.heap.push o } := R.grow (fun _ _ e => Heap.get?_push_of_some _ e) s.toks

theorem none_at_size {h : Heap} : h.get? h.objs.size = none := Heap.get?_none_of_le (Nat.le_refl _)
theorem Rep.tab_size (R : Rep B c T a s) : T s.heap.objs.size = none := by
  cases e : T s.heap.objs.size with
  | none => rfl
  | some o => have := R.tab _ _ e; rw [none_at_size] at this; cases this

/-- a new object that is never changed again -/
theorem Rep.pushT (R : Rep B c T a s) {o : Obj} (hf : o.isFreed = false) : T.Le (T.put s.heap.objs.size o) ∧ Rep B c (T.put s.heap.objs.size o) a { s with heap := s.heap.push o } := by
  have hle := Tab.le_put o R.tab_size
  have R' := R.push o
  have ne : ∀ {b : Addr} {o' : Obj}, s.heap.get? b = some o' → b ≠ s.heap.objs.size := fun e => Nat.ne_of_lt (Heap.lt_size e)
  refine ⟨hle, ?_⟩
  constructor
  · exact fun b o' e => hle _ _ (R.old b o' e)
  · intro b o' e
    by_cases hb : b = s.heap.objs.size
    · subst hb; rw [Tab.put_self] at e; cases e; exact Heap.get?_push_size _ hf
    · rw [Tab.put_ne _ _ hb] at e; exact R'.tab b o' e
  · exact R'.frames
  · intro b hb
    obtain ⟨_, o', ho, _⟩ := R.frames.mem hb
    rw [Tab.put_ne _ _ (ne ho)]; exact R.frs b hb
  · obtain ⟨m, h1, h2⟩ := R'.loc
    exact ⟨m, h1, fun p hp => let ⟨v, e, r⟩ := h2 p hp; ⟨v, e, r.mono hle⟩⟩
  · obtain ⟨m, h1, h2⟩ := R.loc
    rw [Tab.put_ne _ _ (Nat.ne_of_lt h1.lt)]; exact R.loT
  · intro p hp
    obtain ⟨vs, n, h1, h2, h3⟩ := R.sto p hp
    exact ⟨vs, n, Heap.get?_push_of_some _ h1, h2.mono hle, by rw [Tab.put_ne _ _ (ne h1)]; exact h3⟩
  · exact R.nd
  · intro b o' e
    obtain ⟨h1, sl, h2⟩ := R.od b o' e
    exact ⟨by rw [Tab.put_ne _ _ (ne h2)]; exact h1, sl, Heap.get?_push_of_some _ h2⟩
  · exact R.gens
  · exact R.os

/-- a new list -/
theorem Rep.pushL (R : Rep B c T a s) {vs : List Value} {l : List AV} {n : Nat} (h : VRs T vs l) :
    Rep B c T ⟨a.loc, (s.heap.objs.size, l) :: a.sto⟩ { s with heap := s.heap.push (listOf vs.toArray n) } := by
  have R' := R.push (listOf vs.toArray n)
  constructor
  · exact R'.old
  · exact R'.tab
  · exact R'.frames
  · exact R'.frs
  · exact R'.loc
  · exact R'.loT
  · intro p hp
    rcases List.mem_cons.mp hp with rfl | hp
    · exact ⟨vs, n, Heap.get?_push_size _ rfl, h, R.tab_size⟩
    · exact R'.sto p hp
  · refine List.nodup_cons.mpr ⟨fun hm => ?_, R.nd⟩
    obtain ⟨p, hp, e⟩ := List.mem_map.mp hm
    obtain ⟨vs, n, h1, _⟩ := R.sto p hp
    exact absurd (e ▸ Heap.lt_size h1) (Nat.lt_irrefl _)
  · exact R'.od
  · exact R'.gens
  · exact R'.os

theorem Rep.apart (R : Rep B c T a s) (ok : c.Ok) {x : Addr} {vs : Array Value} {n : Nat} (hx : s.heap.get? x = some (listOf vs n)) :
    x ≠ c.env.locals ∧ c.od x = none ∧ x ∉ c.fr.filterMap (·.frame) := by
  have h1 : x ≠ c.env.locals := fun e => by
    obtain ⟨m, ⟨o, es, ep, ho, hd, _⟩, _⟩ := R.loc
    rw [← e, hx] at ho; cases ho; cases hd
  have h2 : c.od x = none := by
    cases e : c.od x with
    | none => rfl
    | some o =>
      obtain ⟨_, sl, h⟩ := R.od _ _ e
      obtain ⟨es, n', hd⟩ := ok.odD _ _ e
      rw [hx] at h
      have h := congrArg Obj.data (Option.some.inj h)
      simp only [hd] at h; cases h
  refine ⟨h1, h2, fun hm => ?_⟩
  rcases ok.cov x hm with e | ⟨o, e⟩
  · exact h1 e
  · rw [h2] at e; cases e

/-- which list of the store is replaced -/
inductive SUpd (x : Addr) (l l' : List AV) : List (Addr × List AV) → List (Addr × List AV) → Prop
  | head {r} : SUpd x l l' ((x, l) :: r) ((x, l') :: r)
  | tail {p r r'} : SUpd x l l' r r' → SUpd x l l' (p :: r) (p :: r')
theorem SUpd.mem {x : Addr} {l l' : List AV} {st st' : List (Addr × List AV)} (u : SUpd x l l' st st') : (x, l) ∈ st := by
  induction u with
  | head => exact .head _
  | tail _ ih => exact .tail _ ih
theorem SUpd.keys {x : Addr} {l l' : List AV} {st st' : List (Addr × List AV)} (u : SUpd x l l' st st') : st'.map (·.1) = st.map (·.1) := by
  induction u with
  | head => rfl
  | tail _ ih => simp [ih]
theorem SUpd.cases {x : Addr} {l l' : List AV} {st st' : List (Addr × List AV)} (u : SUpd x l l' st st') (nd : (st.map (·.1)).Nodup) : ∀ p ∈ st', p = (x, l') ∨ (p ∈ st ∧ p.1 ≠ x) := by
  induction u with
  | head =>
    intro p hp
    rcases List.mem_cons.mp hp with rfl | hp
    · exact .inl rfl
    · refine .inr ⟨.tail _ hp, fun e => (List.nodup_cons.mp nd).1 ?_⟩
      show x ∈ _
      rw [← e]; exact List.mem_map_of_mem hp
  | @tail q r r' u ih =>
    intro p hp
    rcases List.mem_cons.mp hp with rfl | hp
    · refine .inr ⟨.head _, fun e => (List.nodup_cons.mp nd).1 ?_⟩
      show p.1 ∈ _
      rw [e]; exact List.mem_map_of_mem u.mem
    · rcases ih (List.nodup_cons.mp nd).2 p hp with h | ⟨h, h'⟩
      · exact .inl h
      · exact .inr ⟨.tail _ h, h'⟩

theorem Rep.upd (R : Rep B c T a s) (ok : c.Ok) {x : Addr} {l l' : List AV} {st' : List (Addr × List AV)} (u : SUpd x l l' a.sto st') {h' : Heap} {vs' : List Value} {n' : Nat}
    (hs : Heap.SameBut x s.heap h') (hx : h'.get? x = some (listOf vs'.toArray n')) (hv : VRs T vs' l') (tk : Nat) : Rep B c T ⟨a.loc, st'⟩ { s with heap := h', toks := tk } := by
  obtain ⟨vs, n, hx0, _, hxT⟩ := R.sto _ u.mem
  obtain ⟨n1, n2, n3⟩ := R.apart ok hx0
  have k : ∀ b o, b ≠ x → s.heap.get? b = some o → h'.get? b = some o := fun b o hb e => (hs.2 b hb).trans e
  constructor
  · exact R.old
  · exact fun b o e => k b o (fun z => by rw [z, hxT] at e; cases e) (R.tab b o e)
  · have : ∀ {l : List Env}, (∀ b ∈ l.filterMap (·.frame), b ∈ c.fr.filterMap (·.frame)) → s.heap.FunFrames B.h l → h'.FunFrames B.h l := by
      intro l
      induction l with
      | nil => intro _ _; trivial
      | cons env r ih =>
        rintro hl ⟨hk, ⟨L, o, hf, hn, ho, hd⟩, hr⟩
        refine ⟨hk, ⟨L, o, hf, hn, k L o (fun e => n3 ?_) ho, hd⟩, ih (fun b hb => hl b ?_) hr⟩
        · rw [← e]; exact hl L (by simp [hf])
        · rw [List.filterMap_cons, hf]; exact .tail _ hb
    exact this (fun _ h => h) R.frames
  · exact R.frs
  · obtain ⟨m, h1, h2⟩ := R.loc
    exact ⟨m, h1.sameBut hs (Ne.symm n1), h2⟩
  · exact R.loT
  · intro p hp
    rcases u.cases R.nd p hp with rfl | ⟨h, hne⟩
    · exact ⟨vs', n', hx, hv, hxT⟩
    · obtain ⟨ws, m, h1, h2, h3⟩ := R.sto p h
      exact ⟨ws, m, k _ _ hne h1, h2, h3⟩
  · show (st'.map (·.1)).Nodup
    rw [u.keys]; exact R.nd
  · intro b o e
    obtain ⟨h1, sl, h2⟩ := R.od b o e
    exact ⟨h1, sl, k _ _ (fun z => by rw [z, n2] at e; cases e) h2⟩
  · exact R.gens
  · exact R.os

/-- which name is stored -/
inductive LSet (x : Str) (v : AV) : List (Str × AV) → List (Str × AV) → Prop
  | nil : LSet x v [] [(x, v)]
  | hit {w r} : (∀ p ∈ r, p.1 ≠ x) → LSet x v ((x, w) :: r) ((x, v) :: r)
  | skip {p r r'} : p.1 ≠ x → LSet x v r r' → LSet x v (p :: r) (p :: r')
theorem LSet.cases {x : Str} {v : AV} {l l' : List (Str × AV)} (u : LSet x v l l') : ∀ p ∈ l', p = (x, v) ∨ (p ∈ l ∧ p.1 ≠ x) := by
  induction u with
  | nil => intro p hp; rcases List.mem_cons.mp hp with rfl | hp; exact .inl rfl; cases hp
  | hit h =>
    intro p hp
    rcases List.mem_cons.mp hp with rfl | hp
    · exact .inl rfl
    · exact .inr ⟨.tail _ hp, h p hp⟩
  | skip h _ ih =>
    intro p hp
    rcases List.mem_cons.mp hp with rfl | hp
    · exact .inr ⟨.head _, h⟩
    · rcases ih p hp with h | ⟨h, h'⟩
      · exact .inl h
      · exact .inr ⟨.tail _ h, h'⟩

theorem Rep.setLoc (R : Rep B c T a s) (ok : c.Ok) {x : Str} {v : Value} {d : AV} {l' : List (Str × AV)} (u : LSet x d a.loc l') (hv : VR T v d) {h' : Heap} {m : Str → Option Value}
    (hm : s.heap.Ns c.env.locals m ∧ ∀ p ∈ a.loc, ∃ v, m p.1 = some v ∧ VR T v p.2)
    (hn : h'.Ns c.env.locals fun y => if y = x then some v else m y) (hs : Heap.SameBut c.env.locals s.heap h') (tk : Nat) : Rep B c T ⟨l', a.sto⟩ { s with heap := h', toks := tk } := by
  have k : ∀ b o, b ≠ c.env.locals → s.heap.get? b = some o → h'.get? b = some o := fun b o hb e => (hs.2 b hb).trans e
  constructor
  · exact R.old
  · exact fun b o e => k b o (fun z => by rw [z, R.loT] at e; cases e) (R.tab b o e)
  · have : ∀ {l : List Env}, s.heap.FunFrames B.h l → h'.FunFrames B.h l := by
      intro l
      induction l with
      | nil => intro _; trivial
      | cons env r ih =>
        rintro ⟨hk, ⟨L, o, hf, hn', ho, hd⟩, hr⟩
        by_cases hL : L = c.env.locals
        · obtain ⟨o', es, ep, ho', hd', _⟩ := hn
          exact ⟨hk, ⟨L, o', hf, hn', hL ▸ ho', fun vs e => by rw [hd'] at e; cases e⟩, ih hr⟩
        · exact ⟨hk, ⟨L, o, hf, hn', k L o hL ho, hd⟩, ih hr⟩
    exact this R.frames
  · exact R.frs
  · refine ⟨_, hn, fun p hp => ?_⟩
    rcases u.cases p hp with rfl | ⟨h, hne⟩
    · exact ⟨v, by simp, hv⟩
    · obtain ⟨w, e, r⟩ := hm.2 p h
      exact ⟨w, by simp [hne, e], r⟩
  · exact R.loT
  · intro p hp
    obtain ⟨ws, n, h1, h2, h3⟩ := R.sto p hp
    exact ⟨ws, n, k _ _ (R.apart ok h1).1 h1, h2, h3⟩
  · exact R.nd
  · intro b o e
    obtain ⟨h1, sl, h2⟩ := R.od b o e
    exact ⟨h1, sl, k _ _ (fun z => by rw [z, ok.odL] at e; cases e) h2⟩
  · exact R.gens
  · exact R.os

/-- less is known -/
theorem Rep.weaken (R : Rep B c T a s) {a' : AS} (h1 : ∀ p ∈ a'.loc, p ∈ a.loc) (h2 : a'.sto.Sublist a.sto) : Rep B c T a' s where
  old := R.old
  tab := R.tab
  frames := R.frames
  frs := R.frs
  loc := let ⟨m, x, y⟩ := R.loc; ⟨m, x, fun p hp => y p (h1 p hp)⟩
  loT := R.loT
  sto := fun p hp => R.sto p (h2.subset hp)
  nd := R.nd.sublist (h2.map _)
  od := R.od
  gens := R.gens
  os := R.os

/-- a list of the store is never changed again -/
inductive Frz (x : Addr) (l : List AV) : AV → AV → Prop
  | same (d : AV) : Frz x l d d
  | hit : Frz x l (.ref x) (.lst l)
noncomputable def FrzLoc (x : Addr) (l : List AV) (k k' : List (Str × AV)) : Prop := ∀ p ∈ k', ∃ q ∈ k, q.1 = p.1 ∧ Frz x l q.2 p.2
noncomputable def FrzAll (x : Addr) (l : List AV) : List AV → List AV → Prop
  | [], [] => True
  | d :: r, d' :: r' => Frz x l d d' ∧ FrzAll x l r r'
  | _, _ => False
theorem VR.frz {T : Tab} {x : Addr} {l : List AV} (hx : VR T (.ref x) (.lst l)) {v : Value} {d d' : AV} (h : VR T v d) (f : Frz x l d d') : VR T v d' := by
  cases f with
  | same => exact h
  | hit => cases h; exact hx
theorem VRs.frz {T : Tab} {x : Addr} {l : List AV} (hx : VR T (.ref x) (.lst l)) : ∀ {vs : List Value} {k k' : List AV}, VRs T vs k → FrzAll x l k k' → VRs T vs k'
  | _, [], [], h, _ => h
  | _, _ :: _, _ :: _, .cons h r, ⟨f, g⟩ => .cons (VR.frz hx h f) (VRs.frz hx r g)
inductive SFrz (x : Addr) (l : List AV) : List (Addr × List AV) → List (Addr × List AV) → Prop
  | out {r} : SFrz x l ((x, l) :: r) r
  | skip {y k k' r r'} : FrzAll x l k k' → SFrz x l r r' → SFrz x l ((y, k) :: r) ((y, k') :: r')
theorem FrzAll.same {x : Addr} {l : List AV} : ∀ k : List AV, FrzAll x l k k
  | [] => trivial
  | d :: r => ⟨.same d, FrzAll.same r⟩
theorem SFrz.mem {x : Addr} {l : List AV} {st st' : List (Addr × List AV)} (u : SFrz x l st st') : (x, l) ∈ st := by
  induction u with
  | out => exact .head _
  | skip _ _ ih => exact .tail _ ih
theorem SFrz.keys {x : Addr} {l : List AV} {st st' : List (Addr × List AV)} (u : SFrz x l st st') : (st'.map (·.1)).Sublist (st.map (·.1)) := by
  induction u with
  | out => exact List.sublist_cons_self _ _
  | skip _ _ ih => exact ih.cons_cons _
theorem SFrz.cases {x : Addr} {l : List AV} {st st' : List (Addr × List AV)} (u : SFrz x l st st') (nd : (st.map (·.1)).Nodup) : ∀ p ∈ st', p.1 ≠ x ∧ ∃ k, (p.1, k) ∈ st ∧ FrzAll x l k p.2 := by
  induction u with
  | @out r => exact fun p hp => ⟨fun e => (List.nodup_cons.mp nd).1 (by show x ∈ _; rw [← e]; exact List.mem_map_of_mem hp), p.2, .tail _ hp, FrzAll.same _⟩
  | @skip y k k' r r' f u ih =>
    intro p hp
    rcases List.mem_cons.mp hp with rfl | hp
    · refine ⟨fun e => (List.nodup_cons.mp nd).1 ?_, k, .head _, f⟩
      have e : y = x := e
      show y ∈ _
      rw [e]; exact List.mem_map_of_mem u.mem
    · obtain ⟨h1, k, h2, h3⟩ := ih (List.nodup_cons.mp nd).2 p hp
      exact ⟨h1, k, .tail _ h2, h3⟩
theorem Rep.freeze (R : Rep B c T a s) (ok : c.Ok) {x : Addr} {l : List AV} {k' : List (Str × AV)} {st' : List (Addr × List AV)} (u : SFrz x l a.sto st') (f : FrzLoc x l a.loc k') :
    ∃ T', T.Le T' ∧ Rep B c T' ⟨k', st'⟩ s ∧ VR T' (.ref x) (.lst l) := by
  obtain ⟨vs, n, hx0, hv, hxT⟩ := R.sto _ u.mem
  obtain ⟨n1, n2, n3⟩ := R.apart ok hx0
  have hle : T.Le (T.put x (listOf vs.toArray n)) := Tab.le_put _ hxT
  have hl : VR (T.put x (listOf vs.toArray n)) (.ref x) (.lst l) := .lst (Tab.put_self ..) (hv.mono hle)
  refine ⟨_, hle, ?_, hl⟩
  constructor
  · exact fun b o e => hle _ _ (R.old b o e)
  · intro b o e
    by_cases hb : b = x
    · subst hb; rw [Tab.put_self] at e; cases e; exact hx0
    · rw [Tab.put_ne _ _ hb] at e; exact R.tab b o e
  · exact R.frames
  · intro b hb
    rw [Tab.put_ne _ _ (fun e => n3 (by rw [← e]; exact hb))]; exact R.frs b hb
  · obtain ⟨m, h1, h2⟩ := R.loc
    refine ⟨m, h1, fun p hp => ?_⟩
    obtain ⟨q, hq, e, fz⟩ := f p hp
    obtain ⟨v, hv', r⟩ := h2 q hq
    exact ⟨v, e ▸ hv', VR.frz hl (r.mono hle) fz⟩
  · rw [Tab.put_ne _ _ (Ne.symm n1)]; exact R.loT
  · intro p hp
    obtain ⟨hne, k, hk, fz⟩ := u.cases R.nd p hp
    obtain ⟨ws, m, h1, h2, h3⟩ := R.sto _ hk
    exact ⟨ws, m, h1, VRs.frz hl (h2.mono hle) fz, by rw [Tab.put_ne _ _ hne]; exact h3⟩
  · exact R.nd.sublist u.keys
  · intro b o e
    obtain ⟨h1, sl, h2⟩ := R.od b o e
    exact ⟨by rw [Tab.put_ne _ _ (fun z => by rw [z, n2] at e; cases e)]; exact h1, sl, h2⟩
  · exact R.gens
  · exact R.os
end
end Mine

namespace Mine
open PySem PySem.W PySem.Calls PySem.Spec PyProof.Rows

structure XV where
  kind : Str
  at_ : Int
  det : Str

structure FlyB (B : Bs) (T : Tab) (e : Addr) (x : XV) (h : Heap) (fs : Array Value) : Prop where
  out : T e = none
  there : ∃ oe dx od es n t1 t2 t3, h.get? e = some oe ∧ oe.cls = .ref B.FE ∧ oe.dict = some dx ∧ oe.data = .fields fs ∧ fs.size = 6 ∧ T dx = some od ∧ od.data = .dict es n ∧
    dictHas es "kind" (.str x.kind t1) ∧ dictHas es "at" (.int x.at_ t2) ∧ dictHas es "detail" (.str x.det t3)
noncomputable def TBat (T : Tab) (h : Heap) (e : Addr) (fs : Array Value) (fl : Value) : Prop := ∃ t ot ts, fs[1]? = some (.ref t) ∧ T t = none ∧ t ≠ e ∧ h.get? t = some ot ∧ ot.data = .fields ts ∧ ts[3]? = some fl
/-- an exception in flight; its traceback: none yet | not of this frame | of this frame -/
noncomputable def Fly (B : Bs) (c : Cx) (T : Tab) (e : Addr) (x : XV) (h : Heap) : Prop :=
  ∃ fs, FlyB B T e x h fs ∧ (fs[1]? = some .none ∨ TBat T h e fs .none ∨ ∃ L, c.env.frame = some L ∧ TBat T h e fs (rawInt L))

noncomputable abbrev PX := XV → AS → Prop
noncomputable def PE (B : Bs) (c : Cx) (T : Tab) (X : PX) : Value → Shared → Prop := fun ev s' =>
  ∃ T' x a' e, T.Le T' ∧ Rep B c T' a' s' ∧ ev = .ref e ∧ Fly B c T' e x s'.heap ∧ X x a'
theorem PE.le {B : Bs} {c : Cx} {T T1 : Tab} {X : PX} (h : T.Le T1) {v : Value} {s : Shared} (p : PE B c T1 X v s) : PE B c T X v s := by
  obtain ⟨T', x, a', e, h1, r⟩ := p
  exact ⟨T', x, a', e, h.trans h1, r⟩
theorem PE.imp {B : Bs} {c : Cx} {T : Tab} {X X' : PX} (h : ∀ x a, X x a → X' x a) {v : Value} {s : Shared} (p : PE B c T X v s) : PE B c T X' v s := by
  obtain ⟨T', x, a', e, h1, h2, h3, h4, h5⟩ := p
  exact ⟨T', x, a', e, h1, h2, h3, h4, h _ _ h5⟩

noncomputable abbrev PQ := AV → AS → Prop
noncomputable def PV (B : Bs) (c : Cx) (T : Tab) (Q : PQ) : Value → Shared → Prop := fun v s' => ∃ T' d a', T.Le T' ∧ Rep B c T' a' s' ∧ VR T' v d ∧ Q d a'
theorem PV.le {B : Bs} {c : Cx} {T T1 : Tab} {Q : PQ} (h : T.Le T1) {v : Value} {s : Shared} (p : PV B c T1 Q v s) : PV B c T Q v s := by
  obtain ⟨T', d, a', h1, r⟩ := p
  exact ⟨T', d, a', h.trans h1, r⟩
noncomputable def PVs (B : Bs) (c : Cx) (T : Tab) (Q : List AV → AS → Prop) : List Value → Shared → Prop := fun vs s' => ∃ T' ds a', T.Le T' ∧ Rep B c T' a' s' ∧ VRs T' vs ds ∧ Q ds a'
theorem PVs.le {B : Bs} {c : Cx} {T T1 : Tab} {Q : List AV → AS → Prop} (h : T.Le T1) {v : List Value} {s : Shared} (p : PVs B c T1 Q v s) : PVs B c T Q v s := by
  obtain ⟨T', d, a', h1, r⟩ := p
  exact ⟨T', d, a', h.trans h1, r⟩
noncomputable def PB {α : Type} (B : Bs) (c : Cx) (T : Tab) (Q : α → AS → Prop) : α → Shared → Prop := fun b s' => ∃ T' a', T.Le T' ∧ Rep B c T' a' s' ∧ Q b a'
theorem PB.le {α : Type} {B : Bs} {c : Cx} {T T1 : Tab} {Q : α → AS → Prop} (h : T.Le T1) {v : α} {s : Shared} (p : PB B c T1 Q v s) : PB B c T Q v s := by
  obtain ⟨T', a', h1, r⟩ := p
  exact ⟨T', a', h.trans h1, r⟩
inductive AF where
  | next | brk | cont
  | ret (d : AV)
inductive FR (T : Tab) : Flow → AF → Prop
  | next : FR T .next .next
  | brk : FR T .brk .brk
  | cont : FR T .cont .cont
  | ret {v : Value} {d : AV} : VR T v d → FR T (.ret v) (.ret d)
noncomputable abbrev PFq := AF → AS → Prop
noncomputable def PF (B : Bs) (c : Cx) (T : Tab) (Q : PFq) : Flow → Shared → Prop := fun f s' => ∃ T' d a', T.Le T' ∧ Rep B c T' a' s' ∧ FR T' f d ∧ Q d a'
theorem PF.le {B : Bs} {c : Cx} {T T1 : Tab} {Q : PFq} (h : T.Le T1) {v : Flow} {s : Shared} (p : PF B c T1 Q v s) : PF B c T Q v s := by
  obtain ⟨T', d, a', h1, r⟩ := p
  exact ⟨T', d, a', h.trans h1, r⟩

/-! judgements -/
noncomputable def EV (B : Bs) (c : Cx) (e : Expr) (a : AS) (Q : PQ) (X : PX) : Prop := ∀ T s, Rep B c T a s → wpAny (model B.prog B.w) c.A (eval e c.env) (PV B c T Q) (PE B c T X) s
noncomputable def EVs (B : Bs) (c : Cx) (es : List Expr) (a : AS) (Q : List AV → AS → Prop) (X : PX) : Prop := ∀ T s pos, Rep B c T a s → wpAny (model B.prog B.w) c.A (spliced (backTo pos (starEach es c.env))) (PVs B c T Q) (PE B c T X) s
noncomputable def EB (B : Bs) (c : Cx) (e : Expr) (a : AS) (Q : Bool → AS → Prop) (X : PX) : Prop := ∀ T s, Rep B c T a s → wpAny (model B.prog B.w) c.A (isTrue e c.env (eval e c.env)) (PB B c T Q) (PE B c T X) s
noncomputable def EX (B : Bs) (c : Cx) (st : Stmt) (a : AS) (Q : PFq) (X : PX) : Prop := ∀ T s, Rep B c T a s → wpAny (model B.prog B.w) c.A (exec st c.env) (PF B c T Q) (PE B c T X) s
noncomputable def EXs (B : Bs) (c : Cx) (st : List Stmt) (a : AS) (Q : PFq) (X : PX) : Prop := ∀ T s, Rep B c T a s → wpAny (model B.prog B.w) c.A (execs st c.env) (PF B c T Q) (PE B c T X) s
/-- a tree over one, two values; a call -/
noncomputable def T1 (B : Bs) (c : Cx) (t : Value → Sem Value) (d : AV) (a : AS) (Q : PQ) (X : PX) : Prop := ∀ T s v, Rep B c T a s → VR T v d → wpAny (model B.prog B.w) c.A (t v) (PV B c T Q) (PE B c T X) s
noncomputable def T2 (B : Bs) (c : Cx) (t : Value → Value → Sem Value) (d1 d2 : AV) (a : AS) (Q : PQ) (X : PX) : Prop := ∀ T s v1 v2, Rep B c T a s → VR T v1 d1 → VR T v2 d2 → wpAny (model B.prog B.w) c.A (t v1 v2) (PV B c T Q) (PE B c T X) s
noncomputable def TB (B : Bs) (c : Cx) (t : Value → Sem Bool) (d : AV) (a : AS) (Q : Bool → AS → Prop) (X : PX) : Prop := ∀ T s v, Rep B c T a s → VR T v d → wpAny (model B.prog B.w) c.A (t v) (PB B c T Q) (PE B c T X) s
noncomputable def TCall (B : Bs) (c : Cx) (f : Value) (ds : List AV) (a : AS) (Q : PQ) (X : PX) : Prop := ∀ T s vs, Rep B c T a s → VRs T vs ds → wpAny (model B.prog B.w) c.A (call f vs []) (PV B c T Q) (PE B c T X) s

section
variable {B : Bs} {c : Cx} {a a' : AS} {Q Q' : PQ} {X X' : PX} {T : Tab} {s : Shared}

theorem EV.use {e : Expr} (h : EV B c e a Q X) (R : Rep B c T a s) {P : Value → Shared → Prop}
    (k : ∀ T1 d a1 v s1, T.Le T1 → Rep B c T1 a1 s1 → VR T1 v d → Q d a1 → P v s1) : wpAny (model B.prog B.w) c.A (eval e c.env) P (PE B c T X) s :=
  wpAny_mono (h T s R) (fun v s1 ⟨T1, d, a1, h1, h2, h3, h4⟩ => k T1 d a1 v s1 h1 h2 h3 h4) fun _ _ x => x
theorem EB.use {e : Expr} {Q : Bool → AS → Prop} (h : EB B c e a Q X) (R : Rep B c T a s) {P : Bool → Shared → Prop}
    (k : ∀ T1 b a1 s1, T.Le T1 → Rep B c T1 a1 s1 → Q b a1 → P b s1) : wpAny (model B.prog B.w) c.A (isTrue e c.env (eval e c.env)) P (PE B c T X) s :=
  wpAny_mono (h T s R) (fun b s1 ⟨T1, a1, h1, h2, h3⟩ => k T1 b a1 s1 h1 h2 h3) fun _ _ x => x
theorem EXs.use {st : List Stmt} {Q : PFq} (h : EXs B c st a Q X) (R : Rep B c T a s) {P : Flow → Shared → Prop}
    (k : ∀ T1 d a1 v s1, T.Le T1 → Rep B c T1 a1 s1 → FR T1 v d → Q d a1 → P v s1) : wpAny (model B.prog B.w) c.A (execs st c.env) P (PE B c T X) s :=
  wpAny_mono (h T s R) (fun v s1 ⟨T1, d, a1, h1, h2, h3, h4⟩ => k T1 d a1 v s1 h1 h2 h3 h4) fun _ _ x => x
theorem EX.use {st : Stmt} {Q : PFq} (h : EX B c st a Q X) (R : Rep B c T a s) {P : Flow → Shared → Prop}
    (k : ∀ T1 d a1 v s1, T.Le T1 → Rep B c T1 a1 s1 → FR T1 v d → Q d a1 → P v s1) : wpAny (model B.prog B.w) c.A (exec st c.env) P (PE B c T X) s :=
  wpAny_mono (h T s R) (fun v s1 ⟨T1, d, a1, h1, h2, h3, h4⟩ => k T1 d a1 v s1 h1 h2 h3 h4) fun _ _ x => x
theorem EVs.use {es : List Expr} {Q : List AV → AS → Prop} (h : EVs B c es a Q X) (R : Rep B c T a s) {pos : Pos} {P : List Value → Shared → Prop}
    (k : ∀ T1 ds a1 vs s1, T.Le T1 → Rep B c T1 a1 s1 → VRs T1 vs ds → Q ds a1 → P vs s1) : wpAny (model B.prog B.w) c.A (spliced (backTo pos (starEach es c.env))) P (PE B c T X) s :=
  wpAny_mono (h T s pos R) (fun v s1 ⟨T1, d, a1, h1, h2, h3, h4⟩ => k T1 d a1 v s1 h1 h2 h3 h4) fun _ _ x => x
/-- go on from a later table -/
theorem leV {α : Type} {t : Sem α} {P P' : α → Shared → Prop} {T1 : Tab} (hle : T.Le T1) (hP : ∀ v s, P' v s → P v s) {A : Around} (h : wpAny (model B.prog B.w) A t P' (PE B c T1 X) s) : wpAny (model B.prog B.w) A t P (PE B c T X) s :=
  wpAny_mono h hP fun _ _ x => PE.le hle x

theorem pv {v : Value} {d : AV} {T1 : Tab} {a : AS} (h : T.Le T1) (R : Rep B c T1 a s) (hv : VR T1 v d) (q : Q d a) : PV B c T Q v s := ⟨T1, d, a, h, R, hv, q⟩
theorem pv0 {v : Value} {d : AV} {a : AS} (R : Rep B c T a s) (hv : VR T v d) (q : Q d a) : PV B c T Q v s := ⟨T, d, a, .refl T, R, hv, q⟩

/-! consequence -/
theorem EV.imp {e : Expr} (h : EV B c e a Q X) (hQ : ∀ d a, Q d a → Q' d a) : EV B c e a Q' X := fun T s R =>
  h.use R fun T1 d a1 v s1 h1 h2 h3 h4 => ⟨T1, d, a1, h1, h2, h3, hQ _ _ h4⟩
theorem EV.weaken {e : Expr} (h : EV B c e a' Q X) (h1 : ∀ p ∈ a'.loc, p ∈ a.loc) (h2 : a'.sto.Sublist a.sto) : EV B c e a Q X := fun T s R => h T s (R.weaken h1 h2)
theorem EXs.weaken {st : List Stmt} {Q : PFq} (h : EXs B c st a' Q X) (h1 : ∀ p ∈ a'.loc, p ∈ a.loc) (h2 : a'.sto.Sublist a.sto) : EXs B c st a Q X := fun T s R => h T s (R.weaken h1 h2)
theorem EXs.imp {st : List Stmt} {Q Q' : PFq} (h : EXs B c st a Q X) (hQ : ∀ d a, Q d a → Q' d a) (hX : ∀ x a, X x a → X' x a) : EXs B c st a Q' X' := fun T s R =>
  wpAny_mono (h T s R) (fun v s1 ⟨T1, d, a1, h1, h2, h3, h4⟩ => ⟨T1, d, a1, h1, h2, h3, hQ _ _ h4⟩) fun _ _ x => PE.imp hX x
/-- freeze what was just evaluated -/
theorem EV.frz {e : Expr} (ok : c.Ok) (h : EV B c e a (fun d a1 => ∃ x l k' st', d = .ref x ∧ SFrz x l a1.sto st' ∧ FrzLoc x l a1.loc k' ∧ Q (.lst l) ⟨k', st'⟩) X) : EV B c e a Q X := fun T s R =>
  h.use R fun T1 d a1 v s1 h1 h2 h3 hq_ => by
    obtain ⟨x, l, k', st', hd, u, f, q⟩ := hq_
    subst hd
    obtain ⟨T2, hle, R2, hv⟩ := h2.freeze ok u f
    cases h3
    exact ⟨T2, _, _, h1.trans hle, R2, hv, q⟩
theorem EXs.frz {st : List Stmt} {Q : PFq} (ok : c.Ok) {x : Addr} {l : List AV} {k' : List (Str × AV)} {st' : List (Addr × List AV)} (u : SFrz x l a.sto st') (f : FrzLoc x l a.loc k')
    (h : EXs B c st ⟨k', st'⟩ Q X) : EXs B c st a Q X := fun T s R => by
  obtain ⟨T2, hle, R2, hv⟩ := R.freeze ok u f
  exact leV hle (fun _ _ p => PF.le hle p) (h T2 s R2)

/-! expressions -/
theorem ev_int {i : Int} {k : Nat} {pos : Pos} (q : Q (.int i) a) : EV B c (.Constant (.int i) k pos) a Q X := fun T s R =>
  wpAny_Constant_int (pv0 (R.toks _) (.int i _) q)
theorem ev_str {x : Str} {k : Nat} {pos : Pos} (q : Q (.str x) a) : EV B c (.Constant (.str x) k pos) a Q X := fun T s R =>
  Constant_str (pv0 (R.toks _) (.str x _) q)
theorem ev_none {k : Nat} {pos : Pos} (q : Q .none a) : EV B c (.Constant .none k pos) a Q X := fun T s R => by
  rw [eval_Constant]; exact wpAny_pure (pv0 R .none q)
theorem ev_bool {b : Bool} {k : Nat} {pos : Pos} (q : Q (.bool b) a) : EV B c (.Constant (.bool b) k pos) a Q X := fun T s R => by
  rw [eval_Constant]; exact wpAny_pure (pv0 R (.bool b) q)
theorem ev_name {x : Str} {pos : Pos} {d : AV} {ks : List (Str × NameKind)} (ok : c.Ok) (hk : c.Kinds ks) (hx : (x, NameKind.local) ∈ ks) (hm : (x, d) ∈ a.loc) (hd : (x == ("__debug__" : Str)) = false)
    (q : Q d a) : EV B c (.Name x pos) a Q X := fun T s R => by
  obtain ⟨m, hn, hl⟩ := R.loc
  obtain ⟨v, hv, hr⟩ := hl _ hm
  exact wpAny_Name (wpAny_loadName_local ok.kind (hk _ hx) hn hv (pv0 R hr q)) hd

noncomputable def GName (B : Bs) (x : Str) (v : Value) : Prop := ∃ mg mb, B.h.Ns mainGlobals mg ∧ B.h.Ns builtinsNs mb ∧ (mg x = some v ∨ (mg x = none ∧ mb x = some v))
theorem Rep.base (R : Rep B c T a s) : ∀ b o, B.h.get? b = some o → s.heap.get? b = some o := fun b o e => R.tab b o (R.old b o e)
theorem name_glob {x : Str} {pos : Pos} {v : Value} {ks : List (Str × NameKind)} {E : Value → Shared → Prop} {P : Value → Shared → Prop} (ok : c.Ok) (hk : c.Kinds ks) (hx : (x, NameKind.globalImplicit) ∈ ks) (g : GName B x v) (hd : (x == ("__debug__" : Str)) = false)
    (R : Rep B c T a s) (q : P v s) : wpAny (model B.prog B.w) c.A (eval (.Name x pos) c.env) P E s := by
  obtain ⟨mg, mb, h1, h2, h3⟩ := g
  have h1 := h1.keeps R.base
  have h2 := h2.keeps R.base
  rw [← ok.glob] at h1
  rw [← ok.blt] at h2
  refine Name_function_global ok.kind (hk _ hx) ?_ hd
  rcases h3 with h3 | ⟨h3, h4⟩
  · exact loadGlobal_global h1 h3 q
  · exact loadGlobal_builtin h1 h3 h2 h4 q

theorem ev_compare {l r : Expr} {op : CmpOp} {pos : Pos} (h : EV B c l a (fun d1 a1 => EV B c r a1 (fun d2 a2 => T2 B c (compareOp op) d1 d2 a2 Q X) X) X) (hm : behindInMarks op r = false := by with_unfolding_all rfl) :
    EV B c (.Compare l [op] [r] pos) a Q X := fun T s R =>
  wpAny_Compare1 (h.use R fun T1 d1 a1 v1 s1 l1 R1 r1 k1 => leV l1 (fun _ _ x => x) (k1.use R1 fun T2 d2 a2 v2 s2 l2 R2 r2 k2 =>
    leV (l1.trans l2) (fun _ _ p => PV.le (l1.trans l2) p) (k2 T2 s2 v1 v2 R2 (r1.mono l2) r2))) hm
theorem ev_binop {l r : Expr} {op : Operator} {pos : Pos} (h : EV B c l a (fun d1 a1 => EV B c r a1 (fun d2 a2 => T2 B c (binaryOp op) d1 d2 a2 Q X) X) X) :
    EV B c (.BinOp l op r pos) a Q X := fun T s R =>
  wpAny_BinOp (h.use R fun T1 d1 a1 v1 s1 l1 R1 r1 k1 => leV l1 (fun _ _ x => x) (k1.use R1 fun T2 d2 a2 v2 s2 l2 R2 r2 k2 =>
    leV (l1.trans l2) (fun _ _ p => PV.le (l1.trans l2) p) (k2 T2 s2 v1 v2 R2 (r1.mono l2) r2)))
theorem eb_compare {l r : Expr} {op : CmpOp} {pos : Pos} {Q : Bool → AS → Prop} (h : EV B c l a (fun d1 a1 => EV B c r a1 (fun d2 a2 => T2 B c (compareOp op) d1 d2 a2 (fun d a3 => ∃ b, d = .bool b ∧ Q b a3) X) X) X) (hm : behindInMarks op r = false := by with_unfolding_all rfl) :
    EB B c (.Compare l [op] [r] pos) a Q X := fun T s R =>
  wpAny_isTrue_Compare1 (h.use R fun T1 d1 a1 v1 s1 l1 R1 r1 k1 => leV l1 (fun _ _ x => x) (k1.use R1 fun T2 d2 a2 v2 s2 l2 R2 r2 k2 =>
    leV (l1.trans l2) (fun _ _ p => p) (wpAny_mono (k2 T2 s2 v1 v2 R2 (r1.mono l2) r2) (fun v s3 hq_ => by
      obtain ⟨T3, d, a3, l3, R3, r3, b, hb, q⟩ := hq_
      subst hb; cases r3
      exact wpAny_truthy_bool ⟨T3, a3, (l1.trans l2).trans l3, R3, q⟩) fun _ _ x => x))) hm
end
end Mine

namespace Mine
open PySem PySem.W PySem.Calls PySem.Spec PyProof.Rows
section
variable {B : Bs} {c : Cx} {a a' : AS} {Q Q' : PQ} {X X' : PX} {T : Tab} {s : Shared}

/-! tests -/
theorem eb_not {e : Expr} {pos : Pos} {Q : Bool → AS → Prop} (h : EB B c e a (fun b a1 => Q (!b) a1) X) : EB B c (.UnaryOp .Not e pos) a Q X := fun T s R =>
  isTrue_not (h.use R fun T1 b a1 s1 l R1 q => ⟨T1, a1, l, R1, q⟩)
theorem eb_and_nil {pos : Pos} {Q : Bool → AS → Prop} (q : Q true a) : EB B c (.BoolOp .And [] pos) a Q X := fun T s R => isTrue_and_nil ⟨T, a, .refl T, R, q⟩
theorem eb_or_nil {pos : Pos} {Q : Bool → AS → Prop} (q : Q false a) : EB B c (.BoolOp .Or [] pos) a Q X := fun T s R => isTrue_or_nil ⟨T, a, .refl T, R, q⟩
theorem eb_and {e : Expr} {r : List Expr} {pos : Pos} {Q : Bool → AS → Prop} (h : EB B c e a (fun b a1 => (b = true → EB B c (.BoolOp .And r pos) a1 Q X) ∧ (b = false → Q false a1)) X) : EB B c (.BoolOp .And (e :: r) pos) a Q X := fun T s R =>
  isTrue_and (h.use R fun T1 b a1 s1 l R1 q => by
    cases b with
    | false => exact ⟨T1, a1, l, R1, q.2 rfl⟩
    | true => exact leV l (fun _ _ p => PB.le l p) ((q.1 rfl) T1 s1 R1))
theorem eb_or {e : Expr} {r : List Expr} {pos : Pos} {Q : Bool → AS → Prop} (h : EB B c e a (fun b a1 => (b = false → EB B c (.BoolOp .Or r pos) a1 Q X) ∧ (b = true → Q true a1)) X) : EB B c (.BoolOp .Or (e :: r) pos) a Q X := fun T s R =>
  isTrue_or (h.use R fun T1 b a1 s1 l R1 q => by
    cases b with
    | true => exact ⟨T1, a1, l, R1, q.2 rfl⟩
    | false => exact leV l (fun _ _ p => PB.le l p) ((q.1 rfl) T1 s1 R1))
theorem eb_plain {e : Expr} {Q : Bool → AS → Prop} (h : EV B c e a (fun d a1 => TB B c truthy d a1 Q X) X)
    (he : ∀ whole, isTrue e c.env whole = (do let v ← whole; standAt e.pos; holding [v] (truthy v)) := by intro _; rfl) : EB B c e a Q X := fun T s R =>
  PyProof.Rows.isTrue_plain (h.use R fun T1 d a1 v s1 l R1 r q => leV l (fun _ _ p => PB.le l p) (q T1 s1 v R1 r)) (he _)
theorem EB.imp {e : Expr} {Q Q' : Bool → AS → Prop} (h : EB B c e a Q X) (hQ : ∀ b a, Q b a → Q' b a) : EB B c e a Q' X := fun T s R =>
  h.use R fun T1 b a1 s1 l R1 q => ⟨T1, a1, l, R1, hQ _ _ q⟩
theorem emp_eq {vs : List Value} {l : List AV} (h : vs.length = l.length) : (!vs.toArray.isEmpty) = !l.isEmpty := by
  cases vs with
  | nil => cases l with
    | nil => rfl
    | cons _ _ => cases h
  | cons _ _ => cases l with
    | nil => cases h
    | cons _ _ => rfl
theorem tb_bool {b : Bool} {Q : Bool → AS → Prop} (q : Q b a) : TB B c truthy (.bool b) a Q X := fun T s v R r => by
  obtain rfl : _ = Value.bool _ := r.inv; exact wpAny_truthy_bool ⟨T, a, .refl T, R, q⟩
theorem tb_lst {l : List AV} {Q : Bool → AS → Prop} (hl : l.length < 2 ^ 24) (q : Q (!l.isEmpty) a) : TB B c truthy (.lst l) a Q X := fun T s v R r => by
  obtain ⟨x, vs, n, rfl, e, rs⟩ := r.inv
  refine wpAny_truthy_list ⟨_, R.tab _ _ e, rfl, _, rfl⟩ (by rw [List.size_toArray, rs.length]; omega) ⟨T, a, .refl T, R.toks _, ?_⟩
  rw [emp_eq rs.length]; exact q
theorem tb_ref {x : Addr} {l : List AV} {Q : Bool → AS → Prop} (hm : (x, l) ∈ a.sto) (hl : l.length < 2 ^ 24) (q : Q (!l.isEmpty) a) : TB B c truthy (.ref x) a Q X := fun T s v R r => by
  obtain rfl : _ = Value.ref _ := r.inv
  obtain ⟨vs, n, e, rs, _⟩ := R.sto _ hm
  have rs : VRs T vs l := rs
  refine wpAny_truthy_list ⟨_, e, rfl, _, rfl⟩ (by rw [List.size_toArray, rs.length]; omega) ⟨T, a, .refl T, R.toks _, ?_⟩
  rw [emp_eq rs.length]; exact q
theorem ev_ifexp {t b o : Expr} {pos : Pos} (h : EB B c t a (fun b' a1 => (b' = true → EV B c b a1 Q X) ∧ (b' = false → EV B c o a1 Q X)) X) : EV B c (.IfExp t b o pos) a Q X := fun T s R =>
  wpAny_IfExp (h.use R fun T1 b' a1 s1 l R1 q => by
    cases b' with
    | true => exact leV l (fun _ _ p => PV.le l p) ((q.1 rfl) T1 s1 R1)
    | false => exact leV l (fun _ _ p => PV.le l p) ((q.2 rfl) T1 s1 R1))

/-! statements -/
theorem exs_nil {Q : PFq} (q : Q .next a) : EXs B c [] a Q X := fun T s R => wpAny_execs_nil ⟨T, .next, a, .refl T, R, .next, q⟩
theorem exs_cons {st : Stmt} {r : List Stmt} {Q : PFq} (h : EX B c st a (fun f a1 => (f = .next → EXs B c r a1 Q X) ∧ (f ≠ .next → Q f a1)) X) : EXs B c (st :: r) a Q X := fun T s R =>
  wpAny_execs_cons (h.use R fun T1 d a1 v s1 l R1 r1 q => by
    cases r1 with
    | next => exact leV l (fun _ _ p => PF.le l p) ((q.1 rfl) T1 s1 R1)
    | brk => exact ⟨T1, _, a1, l, R1, .brk, q.2 (by intro e; cases e)⟩
    | cont => exact ⟨T1, _, a1, l, R1, .cont, q.2 (by intro e; cases e)⟩
    | ret h => exact ⟨T1, _, a1, l, R1, .ret h, q.2 (by intro e; cases e)⟩)
/-- a statement that only goes on -/
theorem exs_next {st : Stmt} {r : List Stmt} {Q : PFq} (h : EX B c st a (fun f a1 => f = .next ∧ EXs B c r a1 Q X) X) : EXs B c (st :: r) a Q X :=
  exs_cons fun T s R => h.use R fun T1 d a1 v s1 l R1 r1 q => ⟨T1, d, a1, l, R1, r1, fun _ => q.2, fun n => absurd q.1 n⟩
theorem EX.imp {st : Stmt} {Q Q' : PFq} (h : EX B c st a Q X) (hQ : ∀ d a, Q d a → Q' d a) : EX B c st a Q' X := fun T s R =>
  h.use R fun T1 d a1 v s1 h1 h2 h3 h4 => ⟨T1, d, a1, h1, h2, h3, hQ _ _ h4⟩
theorem ex_if {t : Expr} {b o : List Stmt} {pos : Pos} {Q : PFq} (h : EB B c t a (fun b' a1 => (b' = true → EXs B c b a1 Q X) ∧ (b' = false → EXs B c o a1 Q X)) X) : EX B c (.If t b o pos) a Q X := fun T s R =>
  wpAny_If (h.use R fun T1 b' a1 s1 l R1 q => by
    cases b' with
    | true => exact leV l (fun _ _ p => PF.le l p) ((q.1 rfl) T1 s1 R1)
    | false => exact leV l (fun _ _ p => PF.le l p) ((q.2 rfl) T1 s1 R1))
theorem store_local {x : Str} {v : Value} {d : AV} {l' : List (Str × AV)} {ks : List (Str × NameKind)} {E : Value → Shared → Prop} {P : Unit → Shared → Prop} (ok : c.Ok) (hk : c.Kinds ks) (hx : (x, NameKind.local) ∈ ks) (R : Rep B c T a s) (hv : VR T v d) (u : LSet x d a.loc l')
    (q : ∀ s', Rep B c T ⟨l', a.sto⟩ s' → P () s') : wpAny (model B.prog B.w) c.A (storeName c.env x v) P E s := by
  obtain ⟨m, hn, hl⟩ := R.loc
  exact wpAny_storeName_local (hk _ hx) hn (fun h' hn' hs => q _ (R.setLoc ok u hv ⟨hn, hl⟩ hn' hs _)) (by rw [ok.kind]; rfl)
theorem ex_assign {x : Str} {p pos : Pos} {e : Expr} {ks : List (Str × NameKind)} {Q : PFq} (ok : c.Ok) (hk : c.Kinds ks) (hx : (x, NameKind.local) ∈ ks)
    (h : EV B c e a (fun d a1 => ∃ l', LSet x d a1.loc l' ∧ Q .next ⟨l', a1.sto⟩) X) (hs : swapsWith e (some (.Name x p)) pos.line c.env = pure false := by rfl) : EX B c (.Assign [.Name x p] e pos) a Q X := fun T s R =>
  wpAny_Assign_Name (h.use R fun T1 d a1 v s1 l R1 r1 ⟨l', u, q⟩ => store_local ok hk hx R1 r1 u fun s' R' => ⟨T1, .next, _, l, R', .next, q⟩) hs
theorem ex_return {e : Expr} {pos : Pos} {Q : PFq} (h : EV B c e a (fun d a1 => Q (.ret d) a1) X) : EX B c (.Return (some e) pos) a Q X := fun T s R =>
  wpAny_Return_some (h.use R fun T1 d a1 v s1 l R1 r1 q => ⟨T1, .ret d, a1, l, R1, .ret r1, q⟩)
theorem ex_continue {pos : Pos} {Q : PFq} (q : Q .cont a) : EX B c (.Continue pos) a Q X := fun T s R => wpAny_Continue ⟨T, .cont, a, .refl T, R, .cont, q⟩
theorem ex_aug {x : Str} {p pos : Pos} {op : Operator} {e : Expr} {ks : List (Str × NameKind)} {d0 : AV} {Q : PFq} (ok : c.Ok) (hk : c.Kinds ks) (hx : (x, NameKind.local) ∈ ks) (hm : (x, d0) ∈ a.loc)
    (h : EV B c e a (fun d a1 => T2 B c (inplaceOp op) d0 d a1 (fun d2 a2 => ∃ l', LSet x d2 a2.loc l' ∧ Q .next ⟨l', a2.sto⟩) X) X) : EX B c (.AugAssign (.Name x p) op e pos) a Q X := fun T s R => by
  obtain ⟨m, hn, hl⟩ := R.loc
  obtain ⟨v0, hv, hr⟩ := hl _ hm
  refine wpAny_AugAssign_Name (wpAny_loadName_local ok.kind (hk _ hx) hn hv (h.use R fun T1 d a1 v s1 l R1 r1 q => ?_))
  refine leV l (fun _ _ p => p) (wpAny_mono (q T1 s1 v0 v R1 (hr.mono l) r1) (fun v2 s2 hq_ => ?_) fun _ _ x => x)
  obtain ⟨T2, d2, a2, l2, R2, r2, l', u, q⟩ := hq_
  exact store_local ok hk hx R2 r2 u fun s' R' => ⟨T2, .next, _, l.trans l2, R', .next, q⟩
theorem ex_expr_none {e : Expr} {pos : Pos} {Q : PFq} (ok : c.Ok) (h : EV B c e a (fun d a1 => d = .none ∧ Q .next a1) X)
    (hs : swapsWith e none pos.line c.env = pure false := by rfl) : EX B c (.Expr e pos) a Q X := fun T s R => by
  have hi : interactive c.env = false := by unfold interactive; rw [ok.kind]; rfl
  refine wpAny_Expr (h.use R fun T1 d a1 v s1 l R1 r1 hq_ => ?_) hi hs
  obtain ⟨hd, q⟩ := hq_
  subst hd; obtain rfl : _ = Value.none := r1.inv
  exact ⟨T1, .next, a1, l, R1, .next, q⟩

/-! displays -/
theorem evs_nil {Q : List AV → AS → Prop} (q : Q [] a) : EVs B c [] a Q X := fun T s pos R => spliced_none ⟨T, [], a, .refl T, R, .nil, q⟩
theorem evs_cons {e : Expr} {r : List Expr} {Q : List AV → AS → Prop} (h : EV B c e a (fun d a1 => EVs B c r a1 (fun ds a2 => Q (d :: ds) a2) X) X)
    (he : starEach (e :: r) c.env = (false, eval e c.env) :: starEach r c.env := by rfl) : EVs B c (e :: r) a Q X := fun T s pos R =>
  spliced_more (h.use R fun T1 d a1 v s1 l R1 r1 q => leV l (fun _ _ p => p) (q.use R1 fun T2 ds a2 vs s2 l2 R2 r2 q2 => ⟨T2, d :: ds, a2, l.trans l2, R2, .cons (r1.mono l2) r2, q2⟩)) he
theorem ev_tuple {es : List Expr} {k : Nat} {pos : Pos} (h : EVs B c es a (fun ds a1 => ds.length ≤ 1000 ∧ Q (.tup ds) a1) X) : EV B c (.Tuple es k pos) a Q X := fun T s R => by
  show wpAny _ _ (do standAt pos; newTuple (← spliced (backTo pos (starEach es c.env)))) _ _ _
  refine wpAny_bind (wpAny_standAt (wpAny_bind (h.use R fun T1 ds a1 vs s1 l R1 r1 hq_ => ?_)))
  obtain ⟨hl, q⟩ := hq_
  obtain ⟨l2, R2⟩ := R1.pushT (o := { cls := .type "tuple", data := .seq vs.toArray }) rfl
  refine wpAny_newTuple ⟨_, _, _, l.trans l2, R2, .tup (Tab.put_self ..) (r1.mono l2), q⟩ (by rw [r1.length]; show _ ≤ 2 ^ 24; omega)
theorem ev_list {es : List Expr} {pos : Pos} (h : EVs B c es a (fun ds a1 => ds.length ≤ 1000 ∧ ∀ x, Q (.ref x) ⟨a1.loc, (x, ds) :: a1.sto⟩) X) : EV B c (.List es pos) a Q X := fun T s R => by
  show wpAny _ _ (do standAt pos; newList (← spliced (backTo pos (starEach es c.env)))) _ _ _
  refine wpAny_bind (wpAny_standAt (wpAny_bind (h.use R fun T1 ds a1 vs s1 l R1 r1 hq_ => ?_)))
  obtain ⟨hl, q⟩ := hq_
  refine wpAny_newList ⟨_, _, _, l, R1.pushL r1, .ref _, q _⟩ (by rw [r1.length]; show _ ≤ 2 ^ 24; omega)

/-! operations of ints and texts -/
theorem t2_eq_int {i j : Int} (q : Q (.bool (i == j)) a) : T2 B c (compareOp .Eq) (.int i) (.int j) a Q X := fun T s v1 v2 R r1 r2 => by obtain ⟨_, rfl⟩ := r1.inv; obtain ⟨_, rfl⟩ := r2.inv; exact PyProof.Rows.eq_int (pv0 R (.bool _) q)
theorem t2_ne_int {i j : Int} (q : Q (.bool (i != j)) a) : T2 B c (compareOp .NotEq) (.int i) (.int j) a Q X := fun T s v1 v2 R r1 r2 => by obtain ⟨_, rfl⟩ := r1.inv; obtain ⟨_, rfl⟩ := r2.inv; exact PyProof.Rows.ne_int (pv0 R (.bool _) q)
theorem t2_lt_int {i j : Int} (q : Q (.bool (decide (i < j))) a) : T2 B c (compareOp .Lt) (.int i) (.int j) a Q X := fun T s v1 v2 R r1 r2 => by obtain ⟨_, rfl⟩ := r1.inv; obtain ⟨_, rfl⟩ := r2.inv; exact PyProof.Rows.lt_int (pv0 R (.bool _) q)
theorem t2_gt_int {i j : Int} (q : Q (.bool (decide (j < i))) a) : T2 B c (compareOp .Gt) (.int i) (.int j) a Q X := fun T s v1 v2 R r1 r2 => by obtain ⟨_, rfl⟩ := r1.inv; obtain ⟨_, rfl⟩ := r2.inv; exact PyProof.Rows.gt_int (pv0 R (.bool _) q)
theorem t2_ge_int {i j : Int} (q : Q (.bool (decide (j ≤ i))) a) : T2 B c (compareOp .GtE) (.int i) (.int j) a Q X := fun T s v1 v2 R r1 r2 => by obtain ⟨_, rfl⟩ := r1.inv; obtain ⟨_, rfl⟩ := r2.inv; exact PyProof.Rows.ge_int (pv0 R (.bool _) q)
theorem t2_add_int {i j : Int} (q : Q (.int (i + j)) a) : T2 B c (binaryOp .Add) (.int i) (.int j) a Q X := fun T s v1 v2 R r1 r2 => by obtain ⟨_, rfl⟩ := r1.inv; obtain ⟨_, rfl⟩ := r2.inv; exact PyProof.Rows.add_int (pv0 (R.toks _) (.int _ _) q)
theorem t2_sub_int {i j : Int} (q : Q (.int (i - j)) a) : T2 B c (binaryOp .Sub) (.int i) (.int j) a Q X := fun T s v1 v2 R r1 r2 => by obtain ⟨_, rfl⟩ := r1.inv; obtain ⟨_, rfl⟩ := r2.inv; exact PyProof.Rows.sub_int (pv0 (R.toks _) (.int _ _) q)
theorem t2_mul_int {i j : Int} (hm : IntMulOk i j) (q : Q (.int (i * j)) a) : T2 B c (binaryOp .Mult) (.int i) (.int j) a Q X := fun T s v1 v2 R r1 r2 => by obtain ⟨_, rfl⟩ := r1.inv; obtain ⟨_, rfl⟩ := r2.inv; exact PyProof.Rows.mul_int (pv0 (R.toks _) (.int _ _) q) hm
theorem t2_mod_int {i j : Int} (hj : j ≠ 0) (q : Q (.int (i.fmod j)) a) : T2 B c (binaryOp .Mod) (.int i) (.int j) a Q X := fun T s v1 v2 R r1 r2 => by obtain ⟨_, rfl⟩ := r1.inv; obtain ⟨_, rfl⟩ := r2.inv; exact PyProof.Rows.mod_int hj (pv0 (R.toks _) (.int _ _) q)
theorem t2_div_int {i j : Int} (hj : j ≠ 0) (hp : Builtin.divisionGoesByPylong i j = false) (q : Q (.int (i.fdiv j)) a) : T2 B c (binaryOp .FloorDiv) (.int i) (.int j) a Q X := fun T s v1 v2 R r1 r2 => by obtain ⟨_, rfl⟩ := r1.inv; obtain ⟨_, rfl⟩ := r2.inv; exact PyProof.Rows.floordiv_int hj (pv0 (R.toks _) (.int _ _) q) (.inl hp)
theorem t2_pow_int {i j : Int} (hn : 0 ≤ j) (hsz : (Builtin.Int.intBits i : Int) * j ≤ 2 ^ 27) (q : Q (.int (i ^ j.toNat)) a) : T2 B c (binaryOp .Pow) (.int i) (.int j) a Q X := fun T s v1 v2 R r1 r2 => by obtain ⟨_, rfl⟩ := r1.inv; obtain ⟨_, rfl⟩ := r2.inv; exact PyProof.Rows.pow_int hn hsz (pv0 (R.toks _) (.int _ _) q)
theorem t2_eq_str {x y : Str} (q : Q (.bool (x == y)) a) : T2 B c (compareOp .Eq) (.str x) (.str y) a Q X := fun T s v1 v2 R r1 r2 => by obtain ⟨_, rfl⟩ := r1.inv; obtain ⟨_, rfl⟩ := r2.inv; exact PyProof.Rows.eq_str (pv0 R (.bool _) q)
theorem t2_ne_str {x y : Str} (q : Q (.bool (x != y)) a) : T2 B c (compareOp .NotEq) (.str x) (.str y) a Q X := fun T s v1 v2 R r1 r2 => by obtain ⟨_, rfl⟩ := r1.inv; obtain ⟨_, rfl⟩ := r2.inv; exact PyProof.Rows.ne_str (pv0 R (.bool _) q)
theorem t2_lt_str {x y : Str} (q : Q (.bool (x.cps.toList < y.cps.toList)) a) : T2 B c (compareOp .Lt) (.str x) (.str y) a Q X := fun T s v1 v2 R r1 r2 => by obtain ⟨_, rfl⟩ := r1.inv; obtain ⟨_, rfl⟩ := r2.inv; exact PyProof.Rows.lt_str (pv0 R (.bool _) q)
theorem t2_gt_str {x y : Str} (q : Q (.bool (y.cps.toList < x.cps.toList)) a) : T2 B c (compareOp .Gt) (.str x) (.str y) a Q X := fun T s v1 v2 R r1 r2 => by obtain ⟨_, rfl⟩ := r1.inv; obtain ⟨_, rfl⟩ := r2.inv; exact PySem.P.gt_str (pv0 R (.bool _) q)
theorem t2_add_str {x y : Str} (hsz : x.length + y.length ≤ sizeLine) (q : Q (.str (x ++ y)) a) : T2 B c (binaryOp .Add) (.str x) (.str y) a Q X := fun T s v1 v2 R r1 r2 => by obtain ⟨_, rfl⟩ := r1.inv; obtain ⟨_, rfl⟩ := r2.inv; exact PyProof.Rows.add_str (fun t' tk => pv0 (R.toks _) (.str _ _) q) hsz
end
end Mine

namespace Mine
open PySem PySem.W PySem.Calls PySem.Spec PyProof.Rows
section
variable {B : Bs} {c : Cx} {a a' : AS} {Q Q' : PQ} {X X' : PX} {T : Tab} {s : Shared}

/-! exceptions in flight -/
theorem Rep.slots (R : Rep B c T a s) (ok : c.Ok) {h' : Heap} (x : Heap.SlotsOnly (c.fr.filterMap (·.frame)) s.heap h') : Rep B c T a { s with heap := h' } where
  old := R.old
  tab := fun b o e => (x.2.1 b fun hm => by rw [R.frs b hm] at e; cases e).trans (R.tab b o e)
  frames := R.frames.of_slotsOnly x
  frs := R.frs
  loc := by
    obtain ⟨m, ⟨o, es, ep, ho, hd, r⟩, h2⟩ := R.loc
    obtain ⟨sl, hs⟩ := x.2.2 _ _ ho
    exact ⟨m, ⟨_, es, ep, hs, hd, r⟩, h2⟩
  loT := R.loT
  sto := fun p hp => by
    obtain ⟨vs, n, h1, h2, h3⟩ := R.sto p hp
    exact ⟨vs, n, (x.2.1 _ (R.apart ok h1).2.2).trans h1, h2, h3⟩
  nd := R.nd
  od := fun b o e => by
    obtain ⟨h1, sl, h2⟩ := R.od b o e
    obtain ⟨sl', hs⟩ := x.2.2 _ _ h2
    exact ⟨h1, sl', hs⟩
  gens := R.gens
  os := R.os

theorem Rep.apartF (R : Rep B c T a s) (ok : c.Ok) {x : Addr} {o : Obj} {fs : Array Value} (hx : s.heap.get? x = some o) (hd : o.data = .fields fs) :
    x ≠ c.env.locals ∧ c.od x = none ∧ x ∉ c.fr.filterMap (·.frame) := by
  have h1 : x ≠ c.env.locals := fun e => by
    obtain ⟨m, ⟨o', es, ep, ho, hd', _⟩, _⟩ := R.loc
    rw [← e, hx] at ho; cases ho; rw [hd] at hd'; cases hd'
  have h2 : c.od x = none := by
    cases e : c.od x with
    | none => rfl
    | some o' =>
      obtain ⟨_, sl, h⟩ := R.od _ _ e
      obtain ⟨es, n', hd'⟩ := ok.odD _ _ e
      rw [hx] at h
      have h := congrArg Obj.data (Option.some.inj h)
      simp only [hd, hd'] at h; cases h
  refine ⟨h1, h2, fun hm => ?_⟩
  rcases ok.cov x hm with e | ⟨o', e⟩
  · exact h1 e
  · rw [h2] at e; cases e

/-- an object of fields that is in no table -/
theorem Rep.updF (R : Rep B c T a s) (ok : c.Ok) {x : Addr} {o : Obj} {fs : Array Value} (hx : s.heap.get? x = some o) (hd : o.data = .fields fs) (hT : T x = none) {h' : Heap} (hs : Heap.SameBut x s.heap h') :
    Rep B c T a { s with heap := h' } := by
  obtain ⟨n1, n2, n3⟩ := R.apartF ok hx hd
  have k : ∀ b o, b ≠ x → s.heap.get? b = some o → h'.get? b = some o := fun b o hb e => (hs.2 b hb).trans e
  constructor
  · exact R.old
  · exact fun b o e => k b o (fun z => by rw [z, hT] at e; cases e) (R.tab b o e)
  · have : ∀ {l : List Env}, (∀ b ∈ l.filterMap (·.frame), b ∈ c.fr.filterMap (·.frame)) → s.heap.FunFrames B.h l → h'.FunFrames B.h l := by
      intro l
      induction l with
      | nil => intro _ _; trivial
      | cons env r ih =>
        rintro hl ⟨hk, ⟨L, o, hf, hn, ho, hd⟩, hr⟩
        refine ⟨hk, ⟨L, o, hf, hn, k L o (fun e => n3 ?_) ho, hd⟩, ih (fun b hb => hl b ?_) hr⟩
        · rw [← e]; exact hl L (by simp [hf])
        · rw [List.filterMap_cons, hf]; exact .tail _ hb
    exact this (fun _ h => h) R.frames
  · exact R.frs
  · obtain ⟨m, h1, h2⟩ := R.loc
    exact ⟨m, h1.sameBut hs (Ne.symm n1), h2⟩
  · exact R.loT
  · intro p hp
    obtain ⟨ws, m, h1, h2, h3⟩ := R.sto p hp
    exact ⟨ws, m, k _ _ (fun e => by rw [e, hx] at h1; cases h1; cases hd) h1, h2, h3⟩
  · exact R.nd
  · intro b o e
    obtain ⟨h1, sl, h2⟩ := R.od b o e
    exact ⟨h1, sl, k _ _ (fun z => by rw [z, n2] at e; cases e) h2⟩
  · exact R.gens
  · exact R.os

theorem FlyB.to {e : Addr} {x : XV} {h h' : Heap} {fs : Array Value} (F : FlyB B T e x h fs) (k : ∀ o, h.get? e = some o → h'.get? e = some o) : FlyB B T e x h' fs := by
  obtain ⟨F1, oe, dx, od, es, n, t1, t2, t3, h1, r⟩ := F
  exact ⟨F1, oe, dx, od, es, n, t1, t2, t3, k _ h1, r⟩
theorem FlyB.put {e : Addr} {x : XV} {h : Heap} {fs : Array Value} (F : FlyB B T e x h fs) (v : Value) : FlyB B T e x (h.update e (Obj.mapFields (·.setIfInBounds 1 v))) (fs.setIfInBounds 1 v) := by
  obtain ⟨F1, oe, dx, od, es, n, t1, t2, t3, h1, h2, h3, h4, h5, r⟩ := F
  have hd := Obj.data_mapFields h4 (·.setIfInBounds 1 v)
  refine ⟨F1, _, dx, od, es, n, t1, t2, t3, Heap.get?_update_self _ h1 (Obj.isFreed_of_fields hd), (Obj.cls_mapFields _ _).trans h2, ?_, hd, by simp [h5], r⟩
  obtain ⟨cl, d, dt, sl⟩ := oe
  cases dt <;> first | exact h3 | cases h4

/-- the frame's entry is made -/
theorem entry_fly {e L : Addr} {x : XV} {fs : Array Value} {head : Value} {hn : Bool} {P : Unit → Shared → Prop} {E : Value → Shared → Prop} (ok : c.Ok) (R : Rep B c T a s) (F : FlyB B T e x s.heap fs) (hL : c.env.frame = some L) (hfr : ∃ r, c.fr = c.env :: r)
    (k : ∀ s' fs', Rep B c T a s' → FlyB B T e x s'.heap fs' → TBat T s'.heap e fs' (rawInt L) → P () s') :
    wpAny (model B.prog B.w) c.A (do let f ← frameOf c.env; let pl ← entryPlaceOf L hn; let b ← EntryCells.newEntry head f .none (rawInt L) .none pl; setField (.ref e) 1 b) P E s := by
  obtain ⟨rest, hfr⟩ := hfr
  have hl := R.frames
  have hA := ok.frames
  rw [hfr] at hl hA
  refine wpAny_bind (wpAny_frameOf_fun hA hl hL fun h₁ hs₁ => ?_)
  rw [← hfr] at hs₁
  have R₁ := R.slots ok hs₁
  refine wpAny_bind (wpAny_entryPlaceOf fun pl hpl => ?_)
  unfold EntryCells.newEntry newFields
  refine wpAny_bind (wpAny_newObj_type ?_ (hpl.sizeOk5 _ _ _ _ _))
  obtain ⟨oe, dx, od, es, n, t1, t2, t3, he, hc, hd, hf, hsz, r⟩ := id F.there
  have hne := (R.apartF ok he hf).2.2
  have F₁ : FlyB B T e x h₁ fs := F.to fun o q => (hs₁.2.1 e hne).trans q
  have he₁ : h₁.get? e = some oe := (hs₁.2.1 e hne).trans he
  have hTe : h₁.objs.size ≠ e := Nat.ne_of_gt (Heap.lt_size he₁)
  let ot : Obj := { cls := .type "traceback", dict := none, data := .fields ([head, .ref L, .none, rawInt L, .none] ++ (if pl.isEmpty then List.replicate 6 Value.none else pl)).toArray }
  have R₂ : Rep B c T a { s with heap := h₁.push ot } := R₁.push ot
  have F₂ : FlyB B T e x (h₁.push ot) fs := F₁.to fun o q => Heap.get?_push_of_some _ q
  have he₂ := Heap.get?_push_of_some ot he₁
  refine wpAny_setField he₂ hf (by omega) (k _ _ ?_ (F₂.put _) ?_)
  · exact R₂.updF ok he₂ hf F.out (Heap.SameBut.update ..)
  · refine ⟨h₁.objs.size, ot, _, by simp [hsz], R₁.tab_size, hTe, ?_, rfl, ?_⟩
    · show ((h₁.push ot).update e _).get? h₁.objs.size = _
      rw [Heap.get?_update_other _ _ (Ne.symm hTe)]; exact Heap.get?_push_size _ rfl
    · simp

theorem note_fly {e L : Addr} {x : XV} {P : Unit → Shared → Prop} {E : Value → Shared → Prop} (ok : c.Ok) (R : Rep B c T a s) (F : Fly B c T e x s.heap) (hL : c.env.frame = some L) (hfr : ∃ r, c.fr = c.env :: r)
    (k : ∀ s' fs', Rep B c T a s' → FlyB B T e x s'.heap fs' → TBat T s'.heap e fs' (rawInt L) → P () s') :
    wpAny (model B.prog B.w) c.A (noteFrame (.ref e) c.env) P E s := by
  obtain ⟨fs, F, tb⟩ := F
  obtain ⟨oe, dx, od, es, n, t1, t2, t3, he, hc, hd, hf, hsz, r⟩ := id F.there
  unfold noteFrame
  simp only [hL]
  rcases tb with h1 | ⟨t, ot, ts, h1, hT, hte, ht, htd, h3⟩ | ⟨L', hL', t, ot, ts, h1, hT, hte, ht, htd, h3⟩
  · refine wpAny_bind (wpAny_field he hf h1 ?_)
    rw [if_neg (by decide)]
    exact entry_fly ok R F hL hfr k
  · refine wpAny_bind (wpAny_field he hf h1 ?_)
    rw [if_pos (show (Value.ref t != Value.none) = true from by simp)]
    refine wpAny_bind (wpAny_field ht htd h3 ?_)
    rw [if_neg (show ¬ ((Value.none == rawInt L) = true) from by simp [rawInt])]
    refine wpAny_bind (wpAny_setField ht htd (Array.getElem?_eq_some_iff.mp h3).1 ?_)
    exact entry_fly ok (R.updF ok ht htd hT (Heap.SameBut.update ..)) (F.to fun o q => (Heap.get?_update_other _ _ hte).trans q) hL hfr k
  · rw [hL] at hL'; cases hL'
    refine wpAny_bind (wpAny_field he hf h1 ?_)
    rw [if_pos (show (Value.ref t != Value.none) = true from by simp)]
    refine wpAny_bind (wpAny_field ht htd h3 ?_)
    rw [if_pos (show (rawInt L == rawInt L) = true from by simp)]
    exact wpAny_pure (k _ _ R F ⟨t, ot, ts, h1, hT, hte, ht, htd, h3⟩)

theorem flight_fly {e : Addr} {x : XV} {fs : Array Value} {fl : Value} {f : Option Addr} {P : Unit → Shared → Prop} {E : Value → Shared → Prop} (ok : c.Ok) (R : Rep B c T a s) (F : FlyB B T e x s.heap fs) (tb : TBat T s.heap e fs fl)
    (k : ∀ s', Rep B c T a s' → FlyB B T e x s'.heap fs → TBat T s'.heap e fs (f.elim .none fun f => rawInt f) → P () s') :
    wpAny (model B.prog B.w) c.A (setFlight (.ref e) f) P E s := by
  obtain ⟨oe, dx, od, es, n, t1, t2, t3, he, hc, hd, hf, hsz, r⟩ := id F.there
  obtain ⟨t, ot, ts, h1, hT, hte, ht, htd, h3⟩ := tb
  have h3' := (Array.getElem?_eq_some_iff.mp h3).1
  unfold setFlight
  refine wpAny_bind (wpAny_field he hf h1 ?_)
  rw [if_pos (show (Value.ref t != Value.none) = true from by simp)]
  have hd' := Obj.data_mapFields htd (·.setIfInBounds 3 (f.elim Value.none fun f => rawInt f))
  refine wpAny_setField ht htd h3' (k _ (R.updF ok ht htd hT (Heap.SameBut.update ..)) (F.to fun o q => (Heap.get?_update_other _ _ hte).trans q) ⟨t, _, _, h1, hT, hte, Heap.get?_update_self _ ht (Obj.isFreed_of_fields hd'), hd', ?_⟩)
  simp [h3']

theorem leave_fly {e L : Addr} {x : XV} {P : Unit → Shared → Prop} {E : Value → Shared → Prop} (ok : c.Ok) (R : Rep B c T a s) (F : Fly B c T e x s.heap) (hL : c.env.frame = some L) (hfr : ∃ r, c.fr = c.env :: r)
    (k : ∀ s' fs', Rep B c T a s' → FlyB B T e x s'.heap fs' → TBat T s'.heap e fs' .none → P () s') :
    wpAny (model B.prog B.w) c.A (leaving c.env (.ref e)) P E s := by
  unfold leaving
  exact wpAny_bind (note_fly ok R F hL hfr fun s' fs' R' F' tb => flight_fly ok R' F' tb fun s'' R'' F'' tb' => k s'' fs' R'' F'' tb')
end
end Mine

namespace Mine
open PySem PySem.W PySem.Calls PySem.Spec PyProof.Rows

/-- a def of the text, as the run of the top left it -/
structure Fn (B : Bs) (f : Addr) (fd : FuncData) (body : List Stmt) : Prop where
  there : ∃ o, B.h.get? f = some o ∧ o.data = .func fd
  body : fd.body = .stmts body
  code : B.h.CodeRec fd.code fd.qualname
  glob : fd.globals = mainGlobals
  blt : fd.builtins = builtinsNs
  kind : fd.scope.kind = .function
  gen : fd.scope.isGenerator = false
  co : fd.scope.isCoroutine = false
  cell : ∀ x ∈ fd.scope.names, x.2 ≠ .cell

structure Callee (c c' : Cx) (f : Addr) (fd : FuncData) : Prop where
  ok : c'.Ok
  scope : c'.env.scope = fd.scope
  frame : ∃ L, c'.env.frame = some L
  fr : ∃ r, c'.fr = c'.env :: r
  handled : c'.A.handled = c.A.handled
  depth : c'.A.depth = c.A.depth + 1
  units : c'.A.units = c.A.units + 3

section
variable {B : Bs} {c : Cx} {a a' : AS} {Q Q' : PQ} {X X' : PX} {T : Tab} {s : Shared}

theorem lookup_rev_of {binds : List (Str × Value)} (hn : (binds.map (·.1)).Nodup) {p : Str × Value} (h : p ∈ binds) : binds.reverse.lookup p.1 = some p.2 := by
  induction binds with
  | nil => cases h
  | cons b r ih =>
    rw [List.reverse_cons, List.lookup_append]
    rw [List.map_cons, List.nodup_cons] at hn
    rcases List.mem_cons.mp h with rfl | h
    · have : r.reverse.lookup p.1 = none := by
        rw [List.lookup_eq_none_iff]
        intro q hq
        rw [bne_iff_ne]
        intro e
        exact hn.1 (by rw [e]; exact List.mem_map_of_mem (List.mem_reverse.mp hq))
      rw [this]; simp [List.lookup]
    · rw [ih hn.2 h]; rfl

theorem zip_rel {T : Tab} : ∀ {names : List Str} {vs : List Value} {ds : List AV}, VRs T vs ds → ∀ p ∈ names.zip ds, ∃ v, (p.1, v) ∈ names.zip vs ∧ VR T v p.2
  | [], _, _, _, p, hp => by simp at hp
  | n :: ns, _, _, .nil, p, hp => by simp at hp
  | n :: ns, _, _, .cons h r, p, hp => by
    rw [List.zip_cons_cons] at hp
    rcases List.mem_cons.mp hp with rfl | hp
    · exact ⟨_, by rw [List.zip_cons_cons]; exact .head _, h⟩
    · obtain ⟨v, hv, q⟩ := zip_rel r p hp
      exact ⟨v, by rw [List.zip_cons_cons]; exact .tail _ hv, q⟩

theorem zip_sub : ∀ (names : List Str) (vs : List Value), ((names.zip vs).map (·.1)).Sublist names
  | [], _ => by simp
  | _ :: _, [] => by simp
  | n :: ns, v :: vs => by rw [List.zip_cons_cons, List.map_cons]; exact (zip_sub ns vs).cons_cons _
theorem Rep.enter (R : Rep B c T a s) (ok : c.Ok) {h₀ : Heap} {names : List Str} {vs : List Value} {ds : List AV} {fd : FuncData} {f : Addr} {tk : Nat} (hk : fd.scope.kind = .function) (hv : VRs T vs ds) (hnd : names.Nodup)
    (hn : h₀.Ns s.heap.objs.size (fun x => (names.zip vs).reverse.lookup x)) (k : ∀ b o, s.heap.get? b = some o → h₀.get? b = some o) {oL : Obj} (hL : s.heap.get? c.env.locals = some oL) :
    Rep B ⟨c.A.deeper (callEnv fd s.heap.objs.size f), callEnv fd s.heap.objs.size f, callEnv fd s.heap.objs.size f :: c.fr, c.od.put c.env.locals oL⟩ T ⟨names.zip ds, a.sto⟩ { s with heap := h₀, toks := tk } := by
  have R' := R.grow k tk
  constructor
  · exact R'.old
  · exact R'.tab
  · obtain ⟨o, es, ep, ho, hd, _⟩ := hn
    refine ⟨by show fd.scope.kind ≠ .module; rw [hk]; decide, ⟨s.heap.objs.size, o, rfl, ?_, ho, fun ws e => by rw [hd] at e; cases e⟩, R'.frames⟩
    cases e : B.h.get? s.heap.objs.size with
    | none => rfl
    | some o' => have := R.base _ _ e; rw [none_at_size] at this; cases this
  · intro b hb
    rcases List.mem_cons.mp (show b ∈ s.heap.objs.size :: c.fr.filterMap (·.frame) from hb) with rfl | hb
    · exact R.tab_size
    · exact R.frs b hb
  · refine ⟨_, hn, fun p hp => ?_⟩
    obtain ⟨v, hm, r⟩ := zip_rel hv p hp
    have nd : ((names.zip vs).map (·.1)).Nodup := by
      exact hnd.sublist (zip_sub names vs)
    exact ⟨v, lookup_rev_of nd hm, r⟩
  · exact R.tab_size
  · exact R'.sto
  · exact R.nd
  · intro b o e
    have e : (c.od.put c.env.locals oL) b = some o := e
    by_cases hb : b = c.env.locals
    · subst hb; rw [Tab.put_self] at e; cases e
      exact ⟨R.loT, oL.slots, k _ _ hL⟩
    · rw [Tab.put_ne _ _ hb] at e; exact R'.od b o e
  · exact R.gens
  · exact R.os

theorem Rep.back {c' : Cx} {T' : Tab} {s' : Shared} (R : Rep B c T a s) (R' : Rep B c' T' a' s') (ok : c.Ok) (hT : T.Le T') {oL : Obj} (hL : s.heap.get? c.env.locals = some oL) (e1 : c'.od = c.od.put c.env.locals oL) {env : Env} (e2 : c'.fr = env :: c.fr) (hf : ∃ L, env.frame = some L) :
    Rep B c T' ⟨a.loc, a'.sto⟩ s' := by
  have hLo : c'.od c.env.locals = some oL := by rw [e1, Tab.put_self]
  obtain ⟨hTL, sl, hL'⟩ := R'.od _ _ hLo
  constructor
  · exact R'.old
  · exact R'.tab
  · have := R'.frames; rw [e2] at this; exact this.2.2
  · intro b hb
    refine R'.frs b ?_
    obtain ⟨L, hL⟩ := hf
    rw [e2, List.filterMap_cons, hL]; exact .tail _ hb
  · obtain ⟨m, ⟨o, es, ep, ho, hd, r⟩, h2⟩ := R.loc
    rw [hL] at ho; cases ho
    exact ⟨m, ⟨_, es, ep, hL', hd, r⟩, fun p hp => let ⟨v, e, q⟩ := h2 p hp; ⟨v, e, q.mono hT⟩⟩
  · exact hTL
  · exact R'.sto
  · exact R'.nd
  · intro b o e
    refine R'.od b o ?_
    rw [e1, Tab.put_ne _ _ (fun z => by rw [z, ok.odL] at e; cases e)]; exact e
  · exact R'.gens
  · exact R'.os

noncomputable def retOf : AF → AV
  | .ret d => d
  | _ => .none

theorem tcall_fn {f : Addr} {fd : FuncData} {body : List Stmt} {names : List Str} {ds : List AV} (ok : c.Ok) (hd : c.A.depth + 1 < 600) (hu : c.A.units + 3 < 6000) (F : Fn B f fd body)
    (nol : B.h.NoLimit) (hb : ∀ s vs, (∀ b o, B.h.get? b = some o → s.heap.get? b = some o) → vs.length = ds.length → BindsTo s fd ⟨vs, []⟩ (names.zip vs)) (hnd : names.Nodup) (hloc : ∀ x ∈ names, fd.scope.names.lookup x = some .local)
    (h : ∀ c', Callee c c' f fd → EXs B c' body ⟨names.zip ds, a.sto⟩ (fun fl a1 => Q (retOf fl) ⟨a.loc, a1.sto⟩) (fun x a1 => X x ⟨a.loc, a1.sto⟩)) : TCall B c (.ref f) ds a Q X := by
  intro T s vs R hv
  obtain ⟨o, ho, hdat⟩ := F.there
  obtain ⟨m, ⟨oL, es, ep, hL, hLd, hLr⟩, hm⟩ := id R.loc
  refine wpAny_call (codeAny_call_def (fd := fd) (body := body) (binds := names.zip vs) (by show _ < 1000; omega) (R.base _ _ ho) hdat (nol.keeps R.base) (F.code.keeps R.base) F.body (hb s vs R.base hv.length) F.cell
    (fun x hx => hloc x.1 (List.of_mem_zip hx).1) (fun h₀ hns hk₀ => ?_) F.co F.gen F.kind)
  have R₁ := R.enter ok (f := f) (tk := s.toks + (names.zip vs).length) F.kind hv hnd hns hk₀ hL
  let c' : Cx := ⟨c.A.deeper (callEnv fd s.heap.objs.size f), callEnv fd s.heap.objs.size f, callEnv fd s.heap.objs.size f :: c.fr, c.od.put c.env.locals oL⟩
  have nL : s.heap.objs.size ≠ c.env.locals := fun e => absurd (Heap.lt_size (e ▸ hL)) (Nat.lt_irrefl _)
  have ok' : c'.Ok := by
    refine ⟨?_, ok.guards, hd, hu, ?_, ?_, ?_, F.kind, F.glob, F.blt⟩
    · show c.A.frames.map _ = _
      rw [ok.frames]; rfl
    · intro b hb
      rcases List.mem_cons.mp (show b ∈ s.heap.objs.size :: c.fr.filterMap (·.frame) from hb) with rfl | hb
      · exact .inl rfl
      · rcases ok.cov b hb with rfl | ⟨o', e⟩
        · exact .inr ⟨oL, Tab.put_self ..⟩
        · refine .inr ⟨o', ?_⟩
          show (c.od.put c.env.locals oL) b = _
          rw [Tab.put_ne _ _ (fun z => by rw [z, ok.odL] at e; cases e)]; exact e
    · show (c.od.put c.env.locals oL) s.heap.objs.size = none
      rw [Tab.put_ne _ _ nL]
      cases e : c.od s.heap.objs.size with
      | none => rfl
      | some o' => obtain ⟨_, sl, q⟩ := R.od _ _ e; rw [none_at_size] at q; cases q
    · intro b o' e
      by_cases hb : b = c.env.locals
      · subst hb
        have e : (c.od.put c.env.locals oL) c.env.locals = some o' := e
        rw [Tab.put_self] at e; cases e; exact ⟨es, ep, hLd⟩
      · have e : (c.od.put c.env.locals oL) b = some o' := e
        rw [Tab.put_ne _ _ hb] at e; exact ok.odD b o' e
  have C : Callee c c' f fd := ⟨ok', rfl, ⟨_, rfl⟩, ⟨_, rfl⟩, rfl, rfl, rfl⟩
  refine wpAny_mono (h c' C T _ R₁) (fun fl s' ⟨T', d, a1, l, R', r, q⟩ => ?_) (fun e s' ⟨T', x, a1, ea, l, R', he, Fl, q⟩ => ?_)
  · refine ⟨T', retOf d, _, l, R.back R' ok l hL rfl rfl ⟨_, rfl⟩, ?_, q⟩
    cases r with
    | next => exact .none
    | brk => exact .none
    | cont => exact .none
    | ret h => exact h
  · subst he
    refine leave_fly ok' R' Fl (L := s.heap.objs.size) rfl ⟨_, rfl⟩ fun s'' fs R'' F'' tb => ?_
    exact ⟨T', x, _, ea, l, R.back R'' ok l hL rfl rfl ⟨_, rfl⟩, rfl, ⟨fs, F'', .inr (.inl tb)⟩, q⟩

theorem evalArgs_nilS {M : Model} {A : Around} {E : Value → Shared → Prop} {s : Shared} {f : Value} {Q : Args → Shared → Prop}
    (h : wpAny M A (spliced []) (fun vs s' => Q ⟨vs, []⟩ s') E s) : wpAny M A (evalArgs f true [] []) Q E s := by
  unfold evalArgs
  show wpAny M A (spliced [] >>= _) Q E s
  refine wpAny_bind (wpAny_mono h (fun vs s' h' => ?_) fun _ _ x => x)
  refine wpAny_holding ?_
  exact wpAny_bind (wpAny_pure (wpAny_bind (wpAny_pure (wpAny_pure h'))))
/-! a call by a name of the top -/
theorem ev_call_fn {x : Str} {np pos : Pos} {es : List Expr} {f : Addr} {ks : List (Str × NameKind)} (ok : c.Ok) (hk : c.Kinds ks) (hx : (x, NameKind.globalImplicit) ∈ ks) (g : GName B x (.ref f)) (hfn : ∃ o fd, B.h.get? f = some o ∧ o.data = .func fd)
    (h : EVs B c es a (fun ds a1 => TCall B c (.ref f) ds a1 Q X) X) (hd : (x == ("__debug__" : Str)) = false := by decide) (he : backTo pos (starEach es c.env) = [] ∨ ∃ t r, backTo pos (starEach es c.env) = (false, t) :: r) :
    EV B c (.Call (.Name x np) es [] pos) a Q X := fun T s R => by
  obtain ⟨o, fd, ho, hdat⟩ := hfn
  refine wpAny_Call_NameR (name_glob ok hk hx g hd R ?_)
  have fin : wpAny (model B.prog B.w) c.A (spliced (backTo pos (starEach es c.env))) (fun vs s₁ => (s₁.heap.get? f = some o ∧ o.data = .func fd) ∧ wpAny (model B.prog B.w) c.A (call (.ref f) ([] ++ vs) []) (PV B c T Q) (PE B c T X) s₁) (PE B c T X) s :=
    h.use R fun T1 ds a1 vs s1 l R1 r1 q => ⟨⟨R1.base _ _ ho, hdat⟩, leV l (fun _ _ p => PV.le l p) (q T1 s1 vs R1 r1)⟩
  refine callWith_function (o := o) (fd := fd) ?_
  rcases he with he | ⟨t, r, he⟩
  · rw [he] at fin ⊢
    exact evalArgs_nilS fin
  · rw [he] at fin ⊢
    exact evalArgs_plain fin
end
end Mine

namespace Mine
open PySem PySem.W PySem.Calls PySem.Spec PyProof.Rows
section
variable {B : Bs} {c : Cx} {a a' : AS} {Q Q' : PQ} {X X' : PX} {T : Tab} {s : Shared}

/-! for -/
structure Cx.Fun (c : Cx) : Prop where
  frame : ∃ L, c.env.frame = some L
  fr : ∃ r, c.fr = c.env :: r
  handled : c.A.handled = none

noncomputable def Tab.del (T : Tab) (a : Addr) : Tab := fun b => if b = a then none else T b
theorem Tab.del_self (T : Tab) (a : Addr) : T.del a a = none := by simp [Tab.del]
theorem Tab.del_ne (T : Tab) {a b : Addr} (h : b ≠ a) : T.del a b = T b := by simp [Tab.del, h]
theorem Tab.le_del {T T' : Tab} {a : Addr} (h : T.Le T') (ha : T a = none) : T.Le (T'.del a) := fun b o e => by
  rw [Tab.del_ne _ (fun z => by rw [z, ha] at e; cases e)]; exact h b o e

noncomputable def ownsPair (nm : String) : Bool := ["enumerate", "zip", "dict_itemiterator", "dict_reverseitemiterator", "odict_iterator", "itertools.zip_longest", "itertools.pairwise"].contains nm
noncomputable def IterObj (o : Obj) : Prop := (∃ nm, o.cls = .type nm ∧ nm ≠ "tuple" ∧ nm ≠ "list" ∧ nm ≠ "range" ∧ ownsPair nm = false) ∧ ∃ fs, o.data = .fields fs
mutual
theorem VR.del {T : Tab} {x : Addr} {o : Obj} (ho : T x = some o) (hi : IterObj o) : ∀ {v : Value} {d : AV}, VR T v d → VR (T.del x) v d
  | _, _, .none => .none
  | _, _, .bool b => .bool b
  | _, _, .int i t => .int i t
  | _, _, .str y t => .str y t
  | _, _, .tup (a := a) e r => .tup (by rw [Tab.del_ne _ (fun z => by
      obtain ⟨⟨nm, h1, h2, _⟩, _⟩ := hi
      rw [z, ho] at e; cases e; cases h1; exact h2 rfl)]; exact e) (VRs.del ho hi r)
  | _, _, .lst (a := a) e r => .lst (by rw [Tab.del_ne _ (fun z => by
      obtain ⟨⟨nm, h1, _, h2, _⟩, _⟩ := hi
      rw [z, ho] at e; cases e; cases h1; exact h2 rfl)]; exact e) (VRs.del ho hi r)
  | _, _, .ref a => .ref a
  | _, _, .rng (a := a) e => .rng (by rw [Tab.del_ne _ (fun z => by
      obtain ⟨⟨nm, h1, _, _, h2, _⟩, _⟩ := hi
      rw [z, ho] at e; cases e; cases h1; exact h2 rfl)]; exact e)
  | _, _, .exc e c d f g q k1 k2 k3 => .exc (by
      rw [Tab.del_ne _ (fun z => by
        obtain ⟨⟨nm, h1, _⟩, _⟩ := hi
        rw [z, ho] at e; cases e; rw [c] at h1; cases h1)]
      exact e) c d f (by
      rw [Tab.del_ne _ (fun z => by
        obtain ⟨_, fs, h1⟩ := hi
        rw [z, ho] at g; cases g; rw [q] at h1; cases h1)]
      exact g) q k1 k2 k3
theorem VRs.del {T : Tab} {x : Addr} {o : Obj} (ho : T x = some o) (hi : IterObj o) : ∀ {vs : List Value} {l : List AV}, VRs T vs l → VRs (T.del x) vs l
  | _, _, .nil => .nil
  | _, _, .cons h r => .cons (VR.del ho hi h) (VRs.del ho hi r)
end

theorem Rep.tabF (R : Rep B c T a s) (ok : c.Ok) {x : Addr} {o : Obj} {fs : Array Value} (hx : s.heap.get? x = some o) (hd : o.data = .fields fs) (hT : T x = none) :
    Rep B c (T.put x o) a s := by
  obtain ⟨n1, n2, n3⟩ := R.apartF ok hx hd
  have hle := Tab.le_put o hT
  constructor
  · exact fun b o e => hle _ _ (R.old b o e)
  · intro b o' e
    by_cases hb : b = x
    · subst hb; rw [Tab.put_self] at e; cases e; exact hx
    · rw [Tab.put_ne _ _ hb] at e; exact R.tab b o' e
  · exact R.frames
  · intro b hb
    rw [Tab.put_ne _ _ (fun e => n3 (by rw [← e]; exact hb))]; exact R.frs b hb
  · obtain ⟨m, h1, h2⟩ := R.loc
    exact ⟨m, h1, fun p hp => let ⟨v, e, r⟩ := h2 p hp; ⟨v, e, r.mono hle⟩⟩
  · rw [Tab.put_ne _ _ (Ne.symm n1)]; exact R.loT
  · intro p hp
    obtain ⟨ws, m, h1, h2, h3⟩ := R.sto p hp
    exact ⟨ws, m, h1, h2.mono hle, by rw [Tab.put_ne _ _ (fun e => by rw [e, hx] at h1; cases h1; cases hd)]; exact h3⟩
  · exact R.nd
  · intro b o' e
    obtain ⟨h1, sl, h2⟩ := R.od b o' e
    exact ⟨by rw [Tab.put_ne _ _ (fun z => by rw [z, n2] at e; cases e)]; exact h1, sl, h2⟩
  · exact R.gens
  · exact R.os
theorem Rep.del (R : Rep B c T a s) {x : Addr} {o : Obj} (ho : T x = some o) (hi : IterObj o) (hb : B.h.get? x = none) : Rep B c (T.del x) a s := by
  have sub : ∀ b o', T.del x b = some o' → T b = some o' := fun b o' e => by
    by_cases h : b = x
    · subst h; rw [Tab.del_self] at e; cases e
    · rw [Tab.del_ne _ h] at e; exact e
  have non : ∀ b, T b = none → T.del x b = none := fun b e => by
    cases q : T.del x b with
    | none => rfl
    | some o' => rw [sub _ _ q] at e; cases e
  constructor
  · exact fun b o' e => by rw [Tab.del_ne _ (fun z => by rw [z, hb] at e; cases e)]; exact R.old b o' e
  · exact fun b o' e => R.tab b o' (sub b o' e)
  · exact R.frames
  · exact fun b hb => non b (R.frs b hb)
  · obtain ⟨m, h1, h2⟩ := R.loc
    exact ⟨m, h1, fun p hp => let ⟨v, e, r⟩ := h2 p hp; ⟨v, e, VR.del ho hi r⟩⟩
  · exact non _ R.loT
  · intro p hp
    obtain ⟨ws, m, h1, h2, h3⟩ := R.sto p hp
    exact ⟨ws, m, h1, VRs.del ho hi h2, non _ h3⟩
  · exact R.nd
  · intro b o' e
    obtain ⟨h1, r⟩ := R.od b o' e
    exact ⟨non _ h1, r⟩
  · exact R.gens
  · exact R.os

theorem Rep.ext (R : Rep B c T a s) (ok : c.Ok) {x : Addr} {o : Obj} {fs : Array Value} (hx : s.heap.get? x = some o) (hd : o.data = .fields fs) (hT : T x = none) {h' : Heap}
    (k : ∀ b o, b ∉ [x] → s.heap.get? b = some o → h'.get? b = some o) (tk : Nat) : Rep B c T a { s with heap := h', toks := tk } := by
  obtain ⟨n1, n2, n3⟩ := R.apartF ok hx hd
  have k : ∀ b o, b ≠ x → s.heap.get? b = some o → h'.get? b = some o := fun b o hb e => k b o (by simpa using hb) e
  constructor
  · exact R.old
  · exact fun b o e => k b o (fun z => by rw [z, hT] at e; cases e) (R.tab b o e)
  · have : ∀ {l : List Env}, (∀ b ∈ l.filterMap (·.frame), b ∈ c.fr.filterMap (·.frame)) → s.heap.FunFrames B.h l → h'.FunFrames B.h l := by
      intro l
      induction l with
      | nil => intro _ _; trivial
      | cons env r ih =>
        rintro hl ⟨hk, ⟨L, o, hf, hn, ho, hd⟩, hr⟩
        refine ⟨hk, ⟨L, o, hf, hn, k L o (fun e => n3 ?_) ho, hd⟩, ih (fun b hb => hl b ?_) hr⟩
        · rw [← e]; exact hl L (by simp [hf])
        · rw [List.filterMap_cons, hf]; exact .tail _ hb
    exact this (fun _ h => h) R.frames
  · exact R.frs
  · obtain ⟨m, ⟨o', es, ep, ho', r⟩, h2⟩ := R.loc
    exact ⟨m, ⟨o', es, ep, k _ _ (Ne.symm n1) ho', r⟩, h2⟩
  · exact R.loT
  · intro p hp
    obtain ⟨ws, m, h1, h2, h3⟩ := R.sto p hp
    exact ⟨ws, m, k _ _ (fun e => by rw [e, hx] at h1; cases h1; cases hd) h1, h2, h3⟩
  · exact R.nd
  · intro b o e
    obtain ⟨h1, sl, h2⟩ := R.od b o e
    exact ⟨h1, sl, k _ _ (fun z => by rw [z, n2] at e; cases e) h2⟩
  · exact R.gens
  · exact R.os

/-- what a for draws -/
inductive Items : AV → List AV → Prop
  | lst (l : List AV) : Items (.lst l) l
  | tup (l : List AV) : Items (.tup l) l
  | rng {lo hi : Int} {n : Nat} : hi = lo + n → -(2 ^ 60) ≤ lo → lo ≤ 2 ^ 60 → n ≤ 2 ^ 60 → Items (.rng lo hi) ((List.range n).map fun (i : Nat) => .int (lo + i))
  | str (x : Str) : Items (.str x) (x.cps.toList.map fun k => .str ⟨#[k]⟩)

structure IterAt (B : Bs) (T : Tab) (I : Addr) (fp : List Addr) (P : Nat → Value → Prop) (St : Nat → Heap → Prop) (ds : List AV) : Prop where
  walks : ∀ A : Around, A.handled = none → Walks B.prog B.w A I fp [I] ds.length P St
  fp : ∀ b ∈ fp, b = I ∨ ∃ o, T b = some o
  item : ∀ i v d, P i v → ds[i]? = some d → VR T v d
  obj : ∀ i h, St i h → ∃ o, h.get? I = some o ∧ IterObj o

theorem iter_of {d : AV} {ds : List AV} (h : Items d ds) {v : Value} (hv : VR T v d) (R : Rep B c T a s) {E : Value → Shared → Prop} {P₀ : Value → Shared → Prop} {A : Around}
    (k : ∀ o fp P St, IterAt B T s.heap.objs.size fp P St ds → St 0 (s.heap.push o) → o.isFreed = false → P₀ (.ref s.heap.objs.size) { s with heap := s.heap.push o }) :
    wpAny (model B.prog B.w) A (pyIter v) P₀ E s := by
  have ne : ∀ {b : Addr} {o' : Obj}, s.heap.get? b = some o' → b ≠ s.heap.objs.size := fun e => Nat.ne_of_lt (Heap.lt_size e)
  cases h with
  | lst =>
    obtain ⟨x, vs, n, rfl, e, rs⟩ := hv.inv
    have hx := R.tab _ _ e
    have hl : s.heap.IsList x vs.toArray := ⟨_, hx, rfl, _, rfl⟩
    have hlen : vs.toArray.size = ds.length := by simp [rs.length]
    refine wpAny_pyIter_list hl (k _ [s.heap.objs.size, x] (fun i v => vs.toArray[i]? = some v) (fun i h => h.IsListIter s.heap.objs.size x i ∧ h.IsList x vs.toArray) ⟨fun A hA => hlen ▸ Walks.list hA _ x (ne hx) vs.toArray, ?_, ?_, ?_⟩ ⟨⟨_, Heap.get?_push_size _ rfl, rfl, rfl⟩, hl.push _⟩ rfl)
    · intro b hb
      rcases List.mem_cons.mp hb with rfl | hb
      · exact .inl rfl
      · rw [List.mem_singleton.mp hb]; exact .inr ⟨_, e⟩
    · intro i v d hi hd
      obtain ⟨w, hw, hr⟩ := rs.get hd
      have : vs[i]? = some v := by simpa using hi
      rw [hw] at this; cases this; exact hr
    · rintro i h ⟨⟨o, ho, hc, hd⟩, _⟩
      exact ⟨o, ho, ⟨_, hc, by decide, by decide, by decide, by decide⟩, _, hd⟩
  | tup =>
    obtain ⟨x, vs, n, rfl, e, rs⟩ := hv.inv
    have hx := R.tab _ _ e
    have hl : s.heap.IsTuple x vs.toArray := ⟨_, hx, rfl, _, rfl⟩
    have hlen : vs.toArray.size = ds.length := by simp [rs.length]
    refine wpAny_pyIter_tuple hl (k _ [s.heap.objs.size, x] (fun i v => vs.toArray[i]? = some v) (fun i h => h.IsTupleIter s.heap.objs.size x i ∧ h.IsTuple x vs.toArray) ⟨fun A hA => hlen ▸ Walks.tuple hA _ x (ne hx) vs.toArray, ?_, ?_, ?_⟩ ⟨⟨_, Heap.get?_push_size _ rfl, rfl, rfl⟩, ⟨_, Heap.get?_push_of_some _ hx, rfl, _, rfl⟩⟩ rfl)
    · intro b hb
      rcases List.mem_cons.mp hb with rfl | hb
      · exact .inl rfl
      · rw [List.mem_singleton.mp hb]; exact .inr ⟨_, e⟩
    · intro i v d hi hd
      obtain ⟨w, hw, hr⟩ := rs.get hd
      have : vs[i]? = some v := by simpa using hi
      rw [hw] at this; cases this; exact hr
    · rintro i h ⟨⟨o, ho, hc, hd⟩, _⟩
      exact ⟨o, ho, ⟨_, hc, by decide, by decide, by decide, by decide⟩, _, hd⟩
  | @rng lo hi n e1 e2 e3 e4 =>
    cases hv with
    | @rng x lo' hi' t u w e =>
      have hx := R.tab _ _ e
      have hs : Builtin.Range.small lo hi 1 = true := small_one (by omega) (by omega) (by omega) (by omega)
      have hz : Builtin.Range.rangeSize lo hi 1 = (n : Int) := by
        unfold Builtin.Range.rangeSize
        rw [if_pos (by decide)]
        split <;> omega
      refine wpAny_pyIter_range hx hs (k _ [s.heap.objs.size] (fun i v => ∃ t, v = .int (lo + i * 1) t) (fun i h => IsRangeIter h s.heap.objs.size (lo + (i : Nat) * 1) ((n : Int) - (i : Nat)) 1) ⟨fun A hA => ?_, ?_, ?_, ?_⟩ ?_ rfl)
      · have := Walks.range (prog := B.prog) (w := B.w) hA s.heap.objs.size lo 1 n
        simpa using this
      · intro b hb; exact .inl (List.mem_singleton.mp hb)
      · rintro i v d ⟨t, rfl⟩ hd
        rw [List.getElem?_map] at hd
        obtain ⟨j, hj, rfl⟩ := Option.map_eq_some_iff.mp hd
        have : j = i := by
          obtain ⟨_, h⟩ := List.getElem?_eq_some_iff.mp hj
          simpa using h.symm
        subst this
        have : lo + (j : Int) * 1 = lo + j := by omega
        rw [this]; exact .int _ _
      · intro i h hi
        exact ⟨_, hi, ⟨_, rfl, by decide, by decide, by decide, by decide⟩, _, rfl⟩
      · show IsRangeIter _ _ _ _ _
        rw [hz]; simpa using Heap.get?_push_size _ rfl
  | str x =>
    obtain ⟨_, rfl⟩ := hv.inv
    cases ha : x.cps.all (· < 128)
    · refine wpAny_pyIter_wide ha (k _ [s.heap.objs.size] (SignAt x) (fun i h => h.IsStrIter s.heap.objs.size "str_iterator" x _ i) ⟨fun A hA => by have := Walks.strWide (prog := B.prog) (w := B.w) hA s.heap.objs.size x; simpa using this _, ?_, ?_, ?_⟩ ⟨_, Heap.get?_push_size _ rfl, rfl, rfl⟩ rfl)
      · intro b hb; exact .inl (List.mem_singleton.mp hb)
      · rintro i v d ⟨k, u, hk, rfl⟩ hd
        simp [hk] at hd
        subst hd
        exact .str _ _
      · rintro i h ⟨o, ho, hc, hd⟩
        exact ⟨o, ho, ⟨_, hc, by decide, by decide, by decide, by decide⟩, _, hd⟩
    · refine wpAny_pyIter_ascii ha (k _ [s.heap.objs.size] (SignAt x) (fun i h => h.IsStrIter s.heap.objs.size "str_ascii_iterator" x _ i) ⟨fun A hA => by have := Walks.strAscii (prog := B.prog) (w := B.w) hA s.heap.objs.size x; simpa using this _, ?_, ?_, ?_⟩ ⟨_, Heap.get?_push_size _ rfl, rfl, rfl⟩ rfl)
      · intro b hb; exact .inl (List.mem_singleton.mp hb)
      · rintro i v d ⟨k, u, hk, rfl⟩ hd
        simp [hk] at hd
        subst hd
        exact .str _ _
      · rintro i h ⟨o, ho, hc, hd⟩
        exact ⟨o, ho, ⟨_, hc, by decide, by decide, by decide, by decide⟩, _, hd⟩

/-- the turns of a for over what it draws -/
noncomputable def LoopP (B : Bs) (c : Cx) (x : Str) (body : List Stmt) : List AV → AS → PFq → PX → Prop
  | [], a, Q, _ => Q .next a
  | d :: r, a, Q, X => ∃ l', LSet x d a.loc l' ∧ EXs B c body ⟨l', a.sto⟩ (fun f a' => match f with
      | .next => LoopP B c x body r a' Q X
      | .cont => LoopP B c x body r a' Q X
      | .brk => Q .next a'
      | .ret v => Q (.ret v) a') X

theorem fly_keeps {e : Addr} {x : XV} {h : Heap} (F : Fly B c T e x h) {T' : Tab} (k : T'.Le T) : True := trivial

/-- an exception that comes out of a loop's own activation -/
theorem noted_back {e : Value} {P : Value → Shared → Prop} (ok : c.Ok) (fn : c.Fun) (p : PE B c T X e s) :
    notedBy (model B.prog B.w) c.A c.env (cameBackBy (model B.prog B.w) c.A c.env (PE B c T X)) e s := by
  obtain ⟨T', x, a', ea, l, R, rfl, F, q⟩ := p
  obtain ⟨L, hL⟩ := fn.frame
  refine note_fly ok R F hL fn.fr fun s' fs' R' F' tb => ?_
  unfold cameBackBy
  obtain ⟨oe, dx, od, es, n, t1, t2, t3, he, hc, hd, hf, hsz, r⟩ := id F'.there
  obtain ⟨t, ot, ts, h1, hT, hte, ht, htd, h3⟩ := id tb
  refine wpAny_bind (wpAny_field he hf h1 ?_)
  rw [if_neg (show ¬ ((Value.ref t == Value.none) = true) from by simp)]
  rw [hL]
  exact flight_fly ok R' F' tb fun s'' R'' F'' tb' => ⟨T', x, a', ea, l, R'', rfl, ⟨fs', F'', .inr (.inr ⟨L, hL, tb'⟩)⟩, q⟩

theorem ex_for {x : Str} {p pos : Pos} {iter : Expr} {body : List Stmt} {ks : List (Str × NameKind)} {Q : PFq} (ok : c.Ok) (fn : c.Fun) (hk : c.Kinds ks) (hx : (x, NameKind.local) ∈ ks)
    (h : EV B c iter a (fun d a1 => ∃ ds, Items d ds ∧ LoopP B c x body ds a1 Q X) X) (hs : ∀ x, foldedSetIterable iter c.env x = pure x := by intro _; rfl) : EX B c (.For (.Name x p) iter body [] pos) a Q X := by
  intro T s R
  refine wpAny_For (h.use R fun T1 d a1 v s1 l1 R1 r1 hq_ => ?_) hs
  obtain ⟨ds, hi, hl⟩ := hq_
  refine iter_of hi r1 R1 fun o fp P St W st of => ?_
  generalize hI : s1.heap.objs.size = I at W st ⊢
  have hIT : T1 I = none := hI ▸ R1.tab_size
  have hIB : B.h.get? I = none := by
    cases e : B.h.get? I with
    | none => rfl
    | some o => rw [R1.old _ _ e] at hIT; cases hIT
  have R2 := R1.push o
  refine codeAny_forLoop (fun m s' => ∃ i T' a', i + m = ds.length ∧ T1.Le T' ∧ T' I = none ∧ Rep B c T' a' s' ∧ St i s'.heap ∧ LoopP B c x body (ds.drop i) a' Q X) ?_ ds.length
    ⟨0, T1, a1, by omega, .refl _, hIT, R2, st, by simpa using hl⟩
  rintro m s' ⟨i, T', a', him, hle, hI', R', st', hl'⟩
  obtain ⟨oI, hoI, hiter⟩ := W.obj _ _ st'
  obtain ⟨_, fsI, hdI⟩ := id hiter
  have WA := W.walks c.A fn.handled
  by_cases hlt : i < ds.length
  · refine WA.item i s' _ _ hlt st' fun v h' tk hP st'' hk' => ?_
    have R3 := R'.ext ok hoI hdI hI' hk' tk
    obtain ⟨oJ, hoJ, hiterJ⟩ := W.obj _ _ st''
    obtain ⟨_, fsJ, hdJ⟩ := id hiterJ
    have R4 := R3.tabF ok hoJ hdJ hI'
    have hle4 : T'.Le (T'.put I oJ) := Tab.le_put _ hI'
    have hd : ds[i]? = some ds[i] := by simp [hlt]
    have hv : VR (T'.put I oJ) v ds[i] := ((W.item i v _ hP hd).mono hle).mono hle4
    rw [List.drop_eq_getElem_cons hlt] at hl'
    obtain ⟨l', u, hb⟩ := hl'
    refine wpAny_assign_Name (store_local ok hk hx R4 hv u fun s5 R5 => ?_)
    refine wpAny_mono (hb _ s5 R5) (fun f s6 hq_ => ?_) fun e s6 p => ?_
    obtain ⟨T6, d6, a6, l6, R6, r6, q6⟩ := hq_
    · have hJ6 : T6 I = some oJ := l6 _ _ (Tab.put_self ..)
      have R7 := R6.del hJ6 hiterJ hIB
      have l7 : T1.Le (T6.del I) := Tab.le_del ((hle.trans hle4).trans l6) hIT
      have st7 : St (i + 1) s6.heap := by
        refine WA.frame (i + 1) h' s6.heap st'' fun b hb o ho => ?_
        rcases W.fp b hb with rfl | ⟨ob, hob⟩
        · rw [hoJ] at ho; cases ho; exact R6.tab _ _ hJ6
        · have e1 : T6 b = some ob := l6 _ _ (hle4 _ _ (hle _ _ hob))
          have e2 := R6.tab _ _ e1
          have e3 := R4.tab _ _ (hle4 _ _ (hle _ _ hob))
          rw [show h'.get? b = some o from ho] at e3
          cases e3; exact e2
      cases r6 with
      | next => exact ⟨m - 1, by omega, i + 1, _, a6, by omega, l7, Tab.del_self .., R7, st7, q6⟩
      | cont => exact ⟨m - 1, by omega, i + 1, _, a6, by omega, l7, Tab.del_self .., R7, st7, q6⟩
      | brk => exact ⟨T6, _, a6, l1.trans ((hle.trans hle4).trans l6), R6, .next, q6⟩
      | ret hr => exact ⟨T6, _, a6, l1.trans ((hle.trans hle4).trans l6), R6, .ret hr, q6⟩
    · exact noted_back (P := fun _ _ => True) ok fn (PE.le (l1.trans (hle.trans hle4)) p)
  · have hend : i = ds.length := by omega
    subst hend
    refine WA.done s' _ _ st' fun h' tk hk => ?_
    have R3 := R'.ext ok hoI hdI hI' hk tk
    rw [List.drop_length] at hl'
    exact wpAny_execs_nil ⟨T', .next, a', l1.trans hle, R3, .next, hl'⟩
end
end Mine

namespace Mine
open PySem PySem.W PySem.Calls PySem.Spec PyProof.Rows
section
variable {B : Bs} {c : Cx} {a a' : AS} {Q Q' : PQ} {X X' : PX} {T : Tab} {s : Shared}

theorem Rep.newL (R : Rep B c T a s) {h' : Heap} {vs : List Value} {l : List AV} {n : Nat} (k : ∀ b o, s.heap.get? b = some o → h'.get? b = some o) (hx : h'.get? s.heap.objs.size = some (listOf vs.toArray n)) (h : VRs T vs l) (tk : Nat) :
    Rep B c T ⟨a.loc, (s.heap.objs.size, l) :: a.sto⟩ { s with heap := h', toks := tk } := by
  have R' := R.grow k tk
  constructor
  · exact R'.old
  · exact R'.tab
  · exact R'.frames
  · exact R'.frs
  · exact R'.loc
  · exact R'.loT
  · intro p hp
    rcases List.mem_cons.mp hp with rfl | hp
    · exact ⟨vs, n, hx, h, R.tab_size⟩
    · exact R'.sto p hp
  · refine List.nodup_cons.mpr ⟨fun hm => ?_, R.nd⟩
    obtain ⟨p, hp, e⟩ := List.mem_map.mp hm
    obtain ⟨vs, n, h1, _⟩ := R.sto p hp
    exact absurd (e ▸ Heap.lt_size h1) (Nat.lt_irrefl _)
  · exact R'.od
  · exact R'.gens
  · exact R'.os

/-! calls of built-ins -/
theorem ev_call_val {x : Str} {np pos : Pos} {es : List Expr} {f : Value} {ks : List (Str × NameKind)} (ok : c.Ok) (hk : c.Kinds ks) (hx : (x, NameKind.globalImplicit) ∈ ks) (g : GName B x f)
    (hf : (∃ id, f = .builtin id) ∨ ∃ n, f = .type n)
    (h : EVs B c es a (fun ds a1 => TCall B c f ds a1 Q X) X) (hd : (x == ("__debug__" : Str)) = false := by decide) (he : backTo pos (starEach es c.env) = [] ∨ ∃ t r, backTo pos (starEach es c.env) = (false, t) :: r)
    (hs : (backTo pos (starEach es c.env)).any (·.1) = false) :
    EV B c (.Call (.Name x np) es [] pos) a Q X := fun T s R => by
  refine wpAny_Call_NameR (name_glob ok hk hx g hd R ?_)
  have fin : wpAny (model B.prog B.w) c.A (spliced (backTo pos (starEach es c.env))) (fun vs s₁ => wpAny (model B.prog B.w) c.A (call f ([] ++ vs) []) (PV B c T Q) (PE B c T X) s₁) (PE B c T X) s :=
    h.use R fun T1 ds a1 vs s1 l R1 r1 q => leV l (fun _ _ p => PV.le l p) (q T1 s1 vs R1 r1)
  have fin2 : wpAny (model B.prog B.w) c.A (evalArgs f true (backTo pos (starEach es c.env)) []) (fun a s₁ => wpAny (model B.prog B.w) c.A (call f ([] ++ a.pos) a.kw) (PV B c T Q) (PE B c T X) s₁) (PE B c T X) s := by
    rcases he with he | ⟨t, r, he⟩
    · rw [he] at fin ⊢
      exact evalArgs_nilS fin
    · rw [he] at fin ⊢
      exact evalArgs_plain fin
  rcases hf with ⟨id, rfl⟩ | ⟨n, rfl⟩
  · exact callWith_builtin hs fin2
  · exact PyProof.Rows.callWith_type hs fin2

theorem vrs1 {T : Tab} {vs : List Value} {d : AV} (h : VRs T vs [d]) : ∃ v, vs = [v] ∧ VR T v d := by
  cases h with | cons h r => cases r; exact ⟨_, rfl, h⟩

theorem tc_len_lst {l : List AV} (hl : l.length < 2 ^ 24) (q : Q (.int l.length) a) : TCall B c (.builtin "len") [.lst l] a Q X := fun T s vs R hv => by
  obtain ⟨v, rfl, r⟩ := vrs1 hv
  obtain ⟨x, ws, n, rfl, e, rs⟩ := r.inv
  have e2 : ws.toArray.size = l.length := by simp [rs.length]
  refine Calls.call_len_list ⟨_, R.tab _ _ e, rfl, _, rfl⟩ (by rw [e2]; omega) (pv0 (R.toks _) ?_ q)
  rw [e2]; exact .int _ _
theorem tc_len_ref {x : Addr} {l : List AV} (hm : (x, l) ∈ a.sto) (hl : l.length < 2 ^ 24) (q : Q (.int l.length) a) : TCall B c (.builtin "len") [.ref x] a Q X := fun T s vs R hv => by
  obtain ⟨v, rfl, r⟩ := vrs1 hv
  obtain rfl : _ = Value.ref _ := r.inv
  obtain ⟨ws, n, e, rs, _⟩ := R.sto _ hm
  have rs : VRs T ws l := rs
  have e2 : ws.toArray.size = l.length := by simp [rs.length]
  refine Calls.call_len_list ⟨_, e, rfl, _, rfl⟩ (by rw [e2]; omega) (pv0 (R.toks _) ?_ q)
  rw [e2]; exact .int _ _
theorem tc_len_str {x : Str} (hl : x.length < 2 ^ 24) (q : Q (.int x.length) a) : TCall B c (.builtin "len") [.str x] a Q X := fun T s vs R hv => by
  obtain ⟨v, rfl, r⟩ := vrs1 hv
  obtain ⟨_, rfl⟩ := r.inv
  exact PyProof.Rows.len_str (by omega) (pv0 (R.toks _) (.int _ _) q)
theorem tc_int_int {i : Int} (q : Q (.int i) a) : TCall B c (.type "int") [.int i] a Q X := fun T s vs R hv => by
  obtain ⟨v, rfl, r⟩ := vrs1 hv
  obtain ⟨_, rfl⟩ := r.inv
  exact call_int_int (pv0 R (.int _ _) q)
theorem tc_int_str {x : Str} {n : Int} (hn : PySem.intText? x = some n) (hl : x.length ≤ 640) (q : Q (.int n) a) : TCall B c (.type "int") [.str x] a Q X := fun T s vs R hv => by
  obtain ⟨v, rfl, r⟩ := vrs1 hv
  obtain ⟨_, rfl⟩ := r.inv
  exact KIN.call_text hn hl (pv0 (R.toks _) (.int _ _) q)
theorem tc_str_int {i : Int} (hi : i.natAbs.log2 < 1920) (q : Q (.str (Str.ofString (toString i))) a) : TCall B c (.type "str") [.int i] a Q X := fun T s vs R hv => by
  obtain ⟨v, rfl, r⟩ := vrs1 hv
  obtain ⟨_, rfl⟩ := r.inv
  exact PySem.P.str_of_int hi (pv0 (R.toks _) (.str _ _) q)
theorem tc_abs {i : Int} (q : Q (.int (if i < 0 then -i else i)) a) : TCall B c (.builtin "abs") [.int i] a Q X := fun T s vs R hv => by
  obtain ⟨v, rfl, r⟩ := vrs1 hv
  obtain ⟨_, rfl⟩ := r.inv
  exact PyProof.Rows.call_abs_int fun u tk => pv0 (R.toks _) (.int _ _) q
theorem tc_tuple_ref {x : Addr} {l : List AV} (hm : (x, l) ∈ a.sto) (hl : l.length < 2 ^ 24) (q : Q (.tup l) a) : TCall B c (.type "tuple") [.ref x] a Q X := fun T s vs R hv => by
  obtain ⟨v, rfl, r⟩ := vrs1 hv
  obtain rfl : _ = Value.ref _ := r.inv
  obtain ⟨ws, n, e, rs, _⟩ := R.sto _ hm
  have rs : VRs T ws l := rs
  refine call_tuple_list ⟨_, e, rfl, _, rfl⟩ (fun h' k => ?_) (by simp only [List.size_toArray]; rw [rs.length]; show _ ≤ 2 ^ 24; omega)
  have R' := R.grow k s.toks
  obtain ⟨l2, R2⟩ := R'.pushT (o := { cls := .type "tuple", data := .seq ws.toArray }) rfl
  exact ⟨_, _, _, l2, R2, .tup (Tab.put_self ..) (rs.mono l2), q⟩
theorem tc_tuple_lst {l : List AV} (hl : l.length < 2 ^ 24) (q : Q (.tup l) a) : TCall B c (.type "tuple") [.lst l] a Q X := fun T s vs R hv => by
  obtain ⟨v, rfl, r⟩ := vrs1 hv
  obtain ⟨x, ws, n, rfl, e, rs⟩ := r.inv
  refine call_tuple_list ⟨_, R.tab _ _ e, rfl, _, rfl⟩ (fun h' k => ?_) (by simp only [List.size_toArray]; rw [rs.length]; show _ ≤ 2 ^ 24; omega)
  have R' := R.grow k s.toks
  obtain ⟨l2, R2⟩ := R'.pushT (o := { cls := .type "tuple", data := .seq ws.toArray }) rfl
  exact ⟨_, _, _, l2, R2, .tup (Tab.put_self ..) (rs.mono l2), q⟩
theorem tc_list_lst {l : List AV} (hl : l.length < 2 ^ 24) (q : ∀ x, Q (.ref x) ⟨a.loc, (x, l) :: a.sto⟩) : TCall B c (.type "list") [.lst l] a Q X := fun T s vs R hv => by
  obtain ⟨v, rfl, r⟩ := vrs1 hv
  obtain ⟨x, ws, n, rfl, e, rs⟩ := r.inv
  refine call_list_seq x (.inl rfl) (R.tab _ _ e) rfl rfl (fun h' c' k hx => ?_) (by simp only [List.size_toArray]; rw [rs.length]; show _ ≤ 2 ^ 24; omega)
  exact pv0 (R.newL k hx rs s.toks) (.ref _) (q _)
theorem tc_list_ref {y : Addr} {l : List AV} (hm : (y, l) ∈ a.sto) (hl : l.length < 2 ^ 24) (q : ∀ x, Q (.ref x) ⟨a.loc, (x, l) :: a.sto⟩) : TCall B c (.type "list") [.ref y] a Q X := fun T s vs R hv => by
  obtain ⟨v, rfl, r⟩ := vrs1 hv
  obtain rfl : _ = Value.ref _ := r.inv
  obtain ⟨ws, n, e, rs, _⟩ := R.sto _ hm
  have rs : VRs T ws l := rs
  refine call_list_seq y (.inl rfl) e rfl rfl (fun h' c' k hx => ?_) (by simp only [List.size_toArray]; rw [rs.length]; show _ ≤ 2 ^ 24; omega)
  exact pv0 (R.newL k hx rs s.toks) (.ref _) (q _)
theorem tc_range {n : Int} (q : Q (.rng 0 n) a) : TCall B c (.type "range") [.int n] a Q X := fun T s vs R hv => by
  obtain ⟨v, rfl, r⟩ := vrs1 hv
  obtain ⟨t, rfl⟩ := r.inv
  have l2 := Tab.le_put (T := T) ({ cls := .type "range", dict := none, data := .fields #[.int 0 s.toks, .int n t, .int 1 (s.toks + 1)], slots := #[] } : Obj) R.tab_size
  obtain ⟨_, R2⟩ := R.pushT (o := { cls := .type "range", dict := none, data := .fields #[.int 0 s.toks, .int n t, .int 1 (s.toks + 1)], slots := #[] }) rfl
  exact call_range_1 ⟨_, _, _, l2, R2.toks _, .rng (Tab.put_self ..), q⟩
end
end Mine

namespace Mine
open PySem PySem.W PySem.Calls PySem.Spec PyProof.Rows
open Builtin.Str
section
variable {B : Bs} {c : Cx} {a a' : AS} {Q Q' : PQ} {X X' : PX} {T : Tab} {s : Shared}

/-! methods -/
noncomputable def TM (B : Bs) (c : Cx) (id : String) (d : AV) (ds : List AV) (a : AS) (Q : PQ) (X : PX) : Prop := ∀ T s v vs, Rep B c T a s → VR T v d → VRs T vs ds → wpAny (model B.prog B.w) c.A (call (.builtin id) (v :: vs) []) (PV B c T Q) (PE B c T X) s

inductive MethOf : AS → AV → String → Prop
  | str (a : AS) (x : Str) : MethOf a (.str x) "str"
  | ref {a : AS} {x : Addr} {l : List AV} : (x, l) ∈ a.sto → MethOf a (.ref x) "list"

theorem ev_meth {o : Expr} {name : Str} {apos pos : Pos} {es : List Expr} {Ty id : String} (pa : PlainAttrs Ty) (slot : Slot Ty name id) (hty : typeOf (.builtin id) = pure (.type "method_descriptor"))
    (h : EV B c o a (fun d a1 => MethOf a1 d Ty ∧ EVs B c es a1 (fun ds a2 => TM B c id d ds a2 Q X) X) X)
    (hbase : attributeBase o name c.env (eval o c.env) = eval o c.env)
    (hfew : ((backTo pos (starEach es c.env)).all (fun x => !x.1) && (backToKw pos (keywordEach [] c.env)).all (fun x => x.1.isSome)
      && decide (es.length + ([] : List Keyword).length + (if ([] : List Keyword).isEmpty then 0 else 1) < 30)) = true)
    (hline : (apos.endLine == pos.line) = true)
    (he : backTo pos (starEach es c.env) = [] ∨ ∃ t r, backTo pos (starEach es c.env) = (false, t) :: r)
    (hs : (backTo pos (starEach es c.env)).any (·.1) = false) :
    EV B c (.Call (.Attribute o name apos) es [] pos) a Q X := fun T s R => by
  refine wpAny_Call_method hbase hfew hline pa slot hty (h.use R fun T1 d a1 v s1 l1 R1 r1 ⟨hm, q⟩ => ?_)
  have fin : wpAny (model B.prog B.w) c.A (spliced (backTo pos (starEach es c.env))) (fun vs s₁ => wpAny (model B.prog B.w) c.A (call (.builtin id) ([v] ++ vs) []) (PV B c T Q) (PE B c T X) s₁) (PE B c T X) s1 :=
    leV l1 (fun _ _ p => p) (q.use R1 fun T2 ds a2 vs s2 l2 R2 r2 q2 => leV (l1.trans l2) (fun _ _ p => PV.le (l1.trans l2) p) (q2 T2 s2 v vs R2 (r1.mono l2) r2))
  have fin2 : wpAny (model B.prog B.w) c.A (evalArgs (.builtin id) true (backTo pos (starEach es c.env)) []) (fun a s₁ => wpAny (model B.prog B.w) c.A (call (.builtin id) ([v] ++ a.pos) a.kw) (PV B c T Q) (PE B c T X) s₁) (PE B c T X) s1 := by
    rcases he with he | ⟨t, r, he⟩
    · rw [he] at fin ⊢
      exact evalArgs_nilS fin
    · rw [he] at fin ⊢
      exact evalArgs_plain fin
  refine ⟨?_, ?_, callWith_builtin hs fin2⟩
  · cases hm with
    | str => obtain ⟨_, rfl⟩ := r1.inv; exact typeIs_str _ _ _
    | ref hm =>
      have h : _ = Value.ref _ := r1.inv
      cases h
      obtain ⟨vs, n, e, _⟩ := R1.sto _ hm
      exact ⟨_, e, rfl⟩
  · intro x hx
    subst hx
    cases hm with
    | str => obtain ⟨_, h⟩ := r1.inv; cases h
    | ref hm =>
      have h : _ = Value.ref _ := r1.inv
      cases h
      obtain ⟨vs, n, e, _⟩ := R1.sto _ hm
      exact ⟨_, e, rfl⟩

theorem vrs0 {T : Tab} {vs : List Value} (h : VRs T vs []) : vs = [] := by cases h; rfl
theorem vrs2 {T : Tab} {vs : List Value} {d e : AV} (h : VRs T vs [d, e]) : ∃ v u, vs = [v, u] ∧ VR T v d ∧ VR T u e := by
  cases h with | cons h r => obtain ⟨u, rfl, r'⟩ := vrs1 r; exact ⟨_, _, rfl, h, r'⟩

theorem tm_append {x : Addr} {l : List AV} {d : AV} {st' : List (Addr × List AV)} (ok : c.Ok) (u : SUpd x l (l ++ [d]) a.sto st') (hl : l.length < 2 ^ 24) (q : Q .none ⟨a.loc, st'⟩) : TM B c "list.append" (.ref x) [d] a Q X := fun T s v vs R hv hvs => by
  obtain ⟨w, rfl, r⟩ := vrs1 hvs
  obtain rfl : _ = Value.ref _ := hv.inv
  obtain ⟨ws, n, e, rs, _⟩ := R.sto _ u.mem
  have rs : VRs T ws l := rs
  refine call_meets F.slot_list_append ⟨_, e, rfl⟩ F.entry_list_append (F.args_list_append_2 _ _) (list_append x ws.toArray n w (by simp only [List.size_toArray]; rw [rs.length]; show _ ≤ 2 ^ 24; omega)) ⟨e, ?_⟩
  have hx := Heap.get?_update_self (h := s.heap) (Obj.mapSeq fun xs => xs.push w) e (by rfl)
  exact pv0 (R.upd ok u (vs' := ws ++ [w]) (n' := n + 1) (Heap.SameBut.update ..) (by rw [hx]; simp [Obj.mapSeq]) (rs.append (.one r)) s.toks) .none q
theorem tm_pop_last {x : Addr} {l : List AV} {d : AV} {st' : List (Addr × List AV)} (ok : c.Ok) (u : SUpd x (l ++ [d]) l a.sto st') (hl : l.length < 2 ^ 20) (q : Q d ⟨a.loc, st'⟩) : TM B c "list.pop" (.ref x) [] a Q X := fun T s v vs R hv hvs => by
  cases vrs0 hvs
  obtain rfl : _ = Value.ref _ := hv.inv
  obtain ⟨ws', n, e, rs, _⟩ := R.sto _ u.mem
  have rs : VRs T ws' (l ++ [d]) := rs
  obtain ⟨ws, w, rfl, rs, r⟩ := rs.snoc
  have hz : (ws ++ [w]).toArray.size = ws.length + 1 := by simp
  refine call_meets F.slot_list_pop ⟨_, e, rfl⟩ F.entry_list_pop (F.args_list_pop_1 _) (MeetsSeq.list_pop_last x (ws ++ [w]).toArray n w (by rw [hz]; simp) (by rw [hz, rs.length]; show _ ≤ 2 ^ 24; omega)) ⟨e, ?_⟩
  have hx := Heap.get?_update_self (h := s.heap) (Obj.mapSeq fun xs => xs.eraseIdxIfInBounds ((ws ++ [w]).toArray.size - 1)) e (by rfl)
  refine pv0 (R.upd ok u (vs' := ws) (n' := n + 1) (Heap.SameBut.update ..) ?_ rs s.toks) r q
  rw [hx]
  have e1 : ((ws ++ [w]).toArray.eraseIdxIfInBounds ((ws ++ [w]).toArray.size - 1)) = ws.toArray := by
    rw [hz]
    simp [Array.eraseIdxIfInBounds]
    rw [List.eraseIdx_append_of_length_le (Nat.le_refl _)]; simp
  show some (Obj.mapSeq _ (listOf (ws ++ [w]).toArray n)) = _
  simp only [Obj.mapSeq, e1]
  rw [if_neg (by rw [hz]; simp)]
theorem tm_pop_first {x : Addr} {l : List AV} {d : AV} {st' : List (Addr × List AV)} (ok : c.Ok) (u : SUpd x (d :: l) l a.sto st') (hl : l.length < 2 ^ 20) (q : Q d ⟨a.loc, st'⟩) : TM B c "list.pop" (.ref x) [.int 0] a Q X := fun T s v vs R hv hvs => by
  obtain ⟨w0, rfl, r0⟩ := vrs1 hvs
  obtain ⟨_, rfl⟩ := r0.inv
  obtain rfl : _ = Value.ref _ := hv.inv
  obtain ⟨ws', n, e, rs, _⟩ := R.sto _ u.mem
  have rs : VRs T ws' (d :: l) := rs
  cases rs with
  | @cons w ws _ _ r rs =>
  have hz : (w :: ws).toArray.size = ws.length + 1 := by simp
  refine call_meets F.slot_list_pop ⟨_, e, rfl⟩ F.entry_list_pop (F.args_list_pop_2 _ _) (MeetsSeq.list_pop_at x (w :: ws).toArray n 0 _ 0 w (by decide) (by rw [hz]; simp [seqIndex?]) (by simp) (by rw [hz, rs.length]; show _ ≤ 2 ^ 24; omega)) ⟨e, ?_⟩
  have hx := Heap.get?_update_self (h := s.heap) (Obj.mapSeq fun xs => xs.eraseIdxIfInBounds 0) e (by rfl)
  refine pv0 (R.upd ok u (vs' := ws) (n' := n + 1) (Heap.SameBut.update ..) ?_ rs s.toks) r q
  rw [hx]
  have e1 : ((w :: ws).toArray.eraseIdxIfInBounds 0) = ws.toArray := by
    simp [Array.eraseIdxIfInBounds]
  show some (Obj.mapSeq _ (listOf (w :: ws).toArray n)) = _
  simp only [Obj.mapSeq, e1]
  rw [if_neg (by rw [hz]; simp)]
theorem tm_insert {x : Addr} {l : List AV} {d : AV} {i : Int} {st' : List (Addr × List AV)} (ok : c.Ok) (u : SUpd x l (l.take i.toNat ++ d :: l.drop i.toNat) a.sto st') (hl : l.length < 2 ^ 20) (h0 : 0 ≤ i) (h1 : i ≤ l.length) (q : Q .none ⟨a.loc, st'⟩) : TM B c "list.insert" (.ref x) [.int i, d] a Q X := fun T s v vs R hv hvs => by
  obtain ⟨w0, w, rfl, r0, r⟩ := vrs2 hvs
  obtain ⟨_, rfl⟩ := r0.inv
  obtain rfl : _ = Value.ref _ := hv.inv
  obtain ⟨ws, n, e, rs, _⟩ := R.sto _ u.mem
  have rs : VRs T ws l := rs
  refine call_meets F.slot_list_insert ⟨_, e, rfl⟩ F.entry_list_insert (F.args_list_insert_3 _ _ _) (AutoSeq1.list_insert_list_int_val_1 x ws.toArray n i _ w ?_ (by simp only [List.size_toArray]; rw [rs.length]; show _ ≤ 2 ^ 24; omega)) ⟨e, ?_⟩
  · unfold Builtin.List.listFitsIndex
    have := rs.length
    simp; omega
  have hx := Heap.get?_update_self (h := s.heap) (Obj.mapSeq fun xs => have k := if i < 0 then (i + (xs.size : Int)).toNat else min i.toNat xs.size; (xs.extract 0 k).push w ++ xs.extract k) e (by rfl)
  refine pv0 (R.upd ok u (vs' := ws.take i.toNat ++ w :: ws.drop i.toNat) (n' := n + 1) (Heap.SameBut.update ..) ?_ ((rs.take _).append (.cons r (rs.drop _))) s.toks) .none q
  rw [hx]
  have hlen := rs.length
  have hk : min i.toNat ws.length = i.toNat := by omega
  show some (Obj.mapSeq _ (listOf ws.toArray n)) = _
  simp only [Obj.mapSeq, if_neg (show ¬ i < 0 by omega), List.size_toArray, hk]
  have e1 : (ws.toArray.extract 0 i.toNat).push w ++ ws.toArray.extract i.toNat ws.length = (ws.take i.toNat ++ w :: ws.drop i.toNat).toArray := by
    apply Array.ext'
    simp
    rw [List.take_of_length_le (by simp)]
  rw [e1]
  rw [if_neg (by simp; omega)]

theorem tm_startswith {x y : Str} (q : Q (.bool (Txt.startswith x y)) a) : TM B c "str.startswith" (.str x) [.str y] a Q X := fun T s v vs R hv hvs => by
  obtain ⟨w, rfl, r⟩ := vrs1 hvs
  obtain ⟨_, rfl⟩ := hv.inv; obtain ⟨_, rfl⟩ := r.inv
  exact SC.startswith (pv0 R (.bool _) q)

noncomputable def strAVs (xs : List Str) : List AV := xs.map .str
theorem vrs_strs {T : Tab} : ∀ (l : List (Str × Tok)), VRs T (strValues l) (strAVs (l.map (·.1)))
  | [] => .nil
  | (x, t) :: r => .cons (.str x t) (vrs_strs r)
theorem tm_split0 {x : Str} (hl : x.length ≤ 2 ^ 20) (hn : (spaceWords x (x.length + 1)).length ≤ 2 ^ 20) (q : ∀ y, Q (.ref y) ⟨a.loc, (y, strAVs (Txt.words x)) :: a.sto⟩) : TM B c "str.split" (.str x) [] a Q X := fun T s v vs R hv hvs => by
  cases vrs0 hvs
  obtain ⟨t, rfl⟩ := hv.inv
  refine call_meets F.slot_str_split (typeIs_str _ _ _) F.entry_str_split (F.args_str_split_1 _) (meets_str_split_space x t (by show _ ≤ 2 ^ 24; omega) (by show _ ≤ 2 ^ 24; omega)) ?_
  cases hw : spaceWords x (x.length + 1) == [(0, x.length)]
  · simp only [Bool.false_eq_true, if_false]
    rw [strsFrom_eq]
    have e : (numbered s.toks (PySem.wordsOf x)).map (·.1) = Txt.words x := (numbered_texts _ _).trans (if_neg (ne_true_of_eq_false hw)).symm
    exact pv0 ((R.pushL (vrs_strs _)).toks _) (.ref _) (by rw [e]; exact q _)
  · simp only [if_true]
    have e : [x] = Txt.words x := (if_pos hw).symm
    exact pv0 (R.pushL (vs := [.str x t]) (.cons (.str x t) .nil)) (.ref _) (by have := q s.heap.objs.size; rw [← e] at this; exact this)
theorem tm_split1 {x y : Str} (hl : x.length ≤ 2 ^ 20) (hy : (y.length == 0) = false) (hn : (partsBetween x (occurrences x y 0 x.length (x.length + 1)) y.length).length ≤ 2 ^ 20) (q : ∀ z, Q (.ref z) ⟨a.loc, (z, strAVs (Txt.split x y)) :: a.sto⟩) : TM B c "str.split" (.str x) [.str y] a Q X := fun T s v vs R hv hvs => by
  obtain ⟨w, rfl, r⟩ := vrs1 hvs
  obtain ⟨t, rfl⟩ := hv.inv; obtain ⟨u, rfl⟩ := r.inv
  cases h1 : (decide (x.length < y.length) || decide (strKind x < strKind y))
  · cases hf : (occurrences x y 0 x.length (x.length + 1)).isEmpty
    · refine call_meets F.slot_str_split (typeIs_str _ _ _) F.entry_str_split (F.args_str_split_2 _ _) (meets_str_split_sep x y t u h1 hy hf (by show _ ≤ 2 ^ 24; omega) (by show _ ≤ 2 ^ 24; omega)) ?_
      show PV B c T Q _ { s with toks := _, heap := s.heap.push { cls := .type "list", data := .seq (strsFrom s.toks (partsBetween x (occurrences x y 0 x.length (x.length + 1)) y.length)).toArray } }
      rw [strsFrom_eq]
      have e : (numbered s.toks (partsBetween x (occurrences x y 0 x.length (x.length + 1)) y.length)).map (·.1) = Txt.split x y := (numbered_texts _ _).trans ((if_neg (ne_true_of_eq_false h1)).trans (if_neg (ne_true_of_eq_false hf))).symm
      exact pv0 ((R.pushL (vrs_strs _)).toks _) (.ref _) (by rw [e]; exact q _)
    · have e : [x] = Txt.split x y := ((if_neg (ne_true_of_eq_false h1)).trans (if_pos hf)).symm
      refine call_meets F.slot_str_split (typeIs_str _ _ _) F.entry_str_split (F.args_str_split_2 _ _) (meets_str_split_not_found x y t u h1 hy hf) ?_
      exact pv0 (R.pushL (vs := [.str x t]) (.cons (.str x t) .nil)) (.ref _) (by have := q s.heap.objs.size; rw [← e] at this; exact this)
  · have e : [x] = Txt.split x y := (if_pos h1).symm
    refine call_meets F.slot_str_split (typeIs_str _ _ _) F.entry_str_split (F.args_str_split_2 _ _) (meets_str_split_cannot_occur x y t u h1) ?_
    exact pv0 (R.pushL (vs := [.str x t]) (.cons (.str x t) .nil)) (.ref _) (by have := q s.heap.objs.size; rw [← e] at this; exact this)
theorem vrs_strs_inv {T : Tab} : ∀ {xs : List Str} {vs : List Value}, VRs T vs (strAVs xs) → ∃ l : List (Str × Tok), vs = strValues l ∧ l.map (·.1) = xs
  | [], vs, h => by cases h; exact ⟨[], rfl, rfl⟩
  | x :: xs, vs, h => by
    cases h with
    | cons h r =>
      cases h with
      | str x t =>
        obtain ⟨l, rfl, rfl⟩ := vrs_strs_inv r
        exact ⟨(x, t) :: l, rfl, rfl⟩
theorem tm_join_ref {x : Str} {y : Addr} {xs : List Str} (hm : (y, strAVs xs) ∈ a.sto) (hok : JoinOk x xs = true) (q : Q (.str (Txt.join x xs)) a) : TM B c "str.join" (.str x) [.ref y] a Q X := fun T s v vs R hv hvs => by
  obtain ⟨w, rfl, r⟩ := vrs1 hvs
  obtain ⟨_, rfl⟩ := hv.inv; obtain rfl : _ = Value.ref _ := r.inv
  obtain ⟨ws, n, e, rs, _⟩ := R.sto _ hm
  obtain ⟨l, rfl, hl⟩ := vrs_strs_inv rs
  exact SC.join ⟨_, e, rfl, _, rfl⟩ hl hok fun t' k => pv0 (R.toks _) (.str _ _) q
end
end Mine

namespace Mine
open PySem PySem.W PySem.Calls PySem.Spec PyProof.Rows
open Builtin.Str
section
variable {B : Bs} {c : Cx} {a a' : AS} {Q Q' : PQ} {X X' : PX} {T : Tab} {s : Shared}

/-! items read -/
inductive SeqOf (a : AS) : AV → List AV → Prop
  | tup (l : List AV) : SeqOf a (.tup l) l
  | lst (l : List AV) : SeqOf a (.lst l) l
  | ref {x : Addr} {l : List AV} : (x, l) ∈ a.sto → SeqOf a (.ref x) l

theorem getitem_seq {v : Value} {d e : AV} {l : List AV} {i : Int} {t : Tok} {value slice : Expr} (h : SeqOf a d l) (R : Rep B c T a s) (hv : VR T v d) (h0 : 0 ≤ i) (h1 : i < 2 ^ 62) (hi : l[i.toNat]? = some e) (q : Q e a) {E : Value → Shared → Prop}
    (hs : ∀ o iv, subscripted slice false o iv = operate [o, iv] (getItem o iv)) :
    wpAny (model B.prog B.w) c.A (subscriptTail value slice v (.int i t)) (PV B c T Q) E s := by
  have hlt : i.toNat < l.length := (List.getElem?_eq_some_iff.mp hi).1
  cases h with
  | tup =>
    obtain ⟨x, vs, n, rfl, ho, rs⟩ := hv.inv
    obtain ⟨u, hu, r⟩ := rs.get hi
    have ht : IsTup s.heap x vs.toArray := ⟨_, R.tab _ _ ho, rfl, _, rfl⟩
    have hj : seqIndex? i vs.toArray.size = some i.toNat := by
      have := rs.length
      unfold seqIndex?
      simp only [List.size_toArray]
      have e1 : ¬ i < 0 := by omega
      have e2 : (decide (0 ≤ i) && decide (i < (vs.length : Int))) = true := by
        rw [Bool.and_eq_true, decide_eq_true_eq, decide_eq_true_eq]; omega
      simp only [e1, if_false, e2, if_true]
    exact tail_any ht.typeIs F.slot_tuple_getitem.lookup (PyProof.Rows.getItem_tuple ht (by omega) (by omega) hj (by simpa using hu) (pv0 R r q)) (hs _ _)
  | lst =>
    obtain ⟨x, vs, n, rfl, ho, rs⟩ := hv.inv
    obtain ⟨u, hu, r⟩ := rs.get hi
    have hl : s.heap.IsList x vs.toArray := ⟨_, R.tab _ _ ho, rfl, _, rfl⟩
    exact tail_any hl.typeIs slot_list_getitem.lookup (wpAny_getItem_list hl h0 (by omega) (by simpa using hu) (pv0 R r q)) (hs _ _)
  | ref hm =>
    obtain rfl : _ = Value.ref _ := hv.inv
    obtain ⟨vs, n, ho, rs, _⟩ := R.sto _ hm
    obtain ⟨u, hu, r⟩ := VRs.get rs hi
    have hl : s.heap.IsList _ vs.toArray := ⟨_, ho, rfl, _, rfl⟩
    exact tail_any hl.typeIs slot_list_getitem.lookup (wpAny_getItem_list hl h0 (by omega) (by simpa using hu) (pv0 R r q)) (hs _ _)

theorem ev_item {value slice : Expr} {pos : Pos} (h : EV B c value a (fun d a1 => EV B c slice a1 (fun di a2 => ∃ i l e, di = .int i ∧ SeqOf a2 d l ∧ 0 ≤ i ∧ i < 2 ^ 62 ∧ l[i.toNat]? = some e ∧ Q e a2) X) X)
    (hs : ∀ o iv, subscripted slice false o iv = operate [o, iv] (getItem o iv) := by intro _ _; with_unfolding_all rfl) : EV B c (.Subscript value slice pos) a Q X := fun T s R =>
  Subscript_ (h.use R fun T1 d a1 v s1 l1 R1 r1 k1 => leV l1 (fun _ _ x => x) (k1.use R1 fun T2 di a2 iv s2 l2 R2 r2 hq_ => by
    obtain ⟨i, l, e, hdi, hseq, h0, h1, hi, q⟩ := hq_
    subst hdi; obtain ⟨_, rfl⟩ := r2.inv
    exact wpAny_mono (getitem_seq hseq R2 (r1.mono l2) h0 h1 hi q hs (E := PE B c T X)) (fun _ _ p => PV.le (l1.trans l2) p) fun _ _ x => x))

/-! slices -/
theorem range_pick (l : Array Nat) (a : Nat) : ∀ k : Nat, ((List.range k).map fun (j : Nat) => ((a : Int) + 1 * (j : Int)).toNat).filterMap (l[·]?) = (l.toList.drop a).take k := by
  intro k
  have e : ((List.range k).map fun (j : Nat) => ((a : Int) + 1 * (j : Int)).toNat) = (List.range k).map (a + ·) := List.map_congr_left fun j _ => by omega
  rw [e, pick_run]
theorem slice_from {x : Str} {k : Nat} : Txt.slice x (some (k : Int)) none = ⟨(x.cps.toList.drop k).toArray⟩ := by
  unfold Txt.slice
  have e : strSliceIndices (some (k : Int)) none 1 x.length = (List.range (x.length - min k x.length)).map fun (j : Nat) => (((min k x.length : Nat) : Int) + 1 * (j : Int)).toNat := by
    unfold strSliceIndices sliceRange
    simp only [show (1 : Int) > 0 by decide, if_true]
    have e1 : max 0 (min (if (k : Int) < 0 then (k : Int) + (x.length : Int) else (k : Int)) (x.length : Int)) = ((min k x.length : Nat) : Int) := by
      rw [if_neg (by omega)]; omega
    rw [e1]
    have e2 : (if ((min k x.length : Nat) : Int) < (x.length : Int) then ((x.length : Int) - ((min k x.length : Nat) : Int) + 1 - 1) / 1 else 0).toNat = x.length - min k x.length := by
      split <;> omega
    rw [e2]
  have hlen : x.cps.toList.length = x.length := by simp [Str.length]
  have e3 : (strSliceIndices (some (k : Int)) none 1 x.length).filterMap (x.cps[·]?) = x.cps.toList.drop k := by
    rw [e, range_pick]
    by_cases hk : k ≤ x.length
    · rw [Nat.min_eq_left hk, List.take_of_length_le (by simp [hlen])]
    · rw [Nat.min_eq_right (by omega)]
      rw [List.drop_of_length_le (by omega), List.drop_of_length_le (by omega)]; simp
  split
  · rename_i hc
    have : (strSliceIndices (some (k : Int)) none 1 x.length).length = x.length := by simpa using hc
    rw [e] at this
    simp at this
    have hk : k = 0 ∨ x.length = 0 := by omega
    rcases hk with rfl | hk
    · simp
    · have : x.cps.toList = [] := List.eq_nil_of_length_eq_zero (by omega)
      cases x with | mk cps => simp only at this ⊢; rw [this]; simp; apply Array.ext'; simpa using this
  · rw [e3]
theorem ev_str_from {value : Expr} {k : Nat} {kd : Nat} {p1 p pos : Pos} (h : EV B c value a (fun d a1 => ∃ x, d = .str x ∧ x.length ≤ 2 ^ 20 ∧ Q (.str ⟨(x.cps.toList.drop k).toArray⟩) a1) X) :
    EV B c (.Subscript value (.Slice (some (.Constant (.int (k : Int)) kd p1)) none none p) pos) a Q X := fun T s R =>
  Subscript_ (h.use R fun T1 d a1 v s1 l1 R1 r1 ⟨x, hd, hx, q⟩ => by
    subst hd; obtain ⟨t, rfl⟩ := r1.inv
    refine wpAny_Slice (evalPart_some_step (wpAny_Constant_int (evalPart_none_step (evalPart_none_step ?_))))
    refine tail_any (typeIs_str _ _ _) F.slot_str_getitem.lookup (wpAny_getItem_str_slice (l := some ((k : Int), _)) (u := none) (st := none) ⟨_, Heap.get?_push_size _ rfl, rfl, rfl⟩ rfl
      (post_val_or_str ⟨Nat.le_trans (Txt.slice_le x (some (k : Int)) none) (by show _ ≤ 2 ^ 24; omega), fun t' tk => ?_⟩)) rfl
    have R2 : Rep B c T1 a1 { s1 with heap := s1.heap.push { cls := .type "slice", data := .fields #[.int (k : Int) s1.toks, .none, .none] }, toks := tk } := (R1.push _).toks tk
    show PV B c T Q (.str (Txt.slice x (some (k : Int)) none) t') _
    rw [slice_from]
    exact ⟨T1, _, a1, l1, R2, .str _ _, q⟩)
theorem ev_list_upto {value upper : Expr} {p pos : Pos} (h : EV B c value a (fun d a1 => EV B c upper a1 (fun du a2 => ∃ k l, du = .int (Nat.cast k) ∧ SeqOf a2 d l ∧ (∀ l, d ≠ .tup l) ∧ l.length ≤ 2 ^ 20 ∧ ∀ y, Q (.ref y) ⟨a2.loc, (y, l.take k) :: a2.sto⟩) X) X) :
    EV B c (.Subscript value (.Slice none (some upper) none p) pos) a Q X := fun T s R =>
  Subscript_ (h.use R fun T1 d a1 v s1 l1 R1 r1 k1 => by
    refine wpAny_Slice (evalPart_none_step (evalPart_some_step (leV l1 (fun _ _ x => x) (k1.use R1 fun T2 du a2 uv s2 l2 R2 r2 ⟨k, l, hdu, hseq, hnt, hlen, q⟩ => evalPart_none_step ?_))))
    subst hdu
    obtain ⟨t, rfl⟩ := r2.inv
    have R3 := R2.push { cls := .type "slice", data := .fields #[.none, .int (k : Int) t, .none] }
    have fin : ∀ {x : Addr} {vs : List Value} {o : Obj} {n : Nat}, s2.heap.get? x = some (listOf vs.toArray n) → VRs T2 vs l → v = .ref x →
        wpAny (model B.prog B.w) c.A (subscriptTail value (.Slice none (some upper) none p) v (.ref s2.heap.objs.size)) (PV B c T Q) (PE B c T X) { s2 with heap := s2.heap.push { cls := .type "slice", data := .fields #[.none, .int (k : Int) t, .none] } } := by
      intro x vs o n hx rs hv
      subst hv
      have hl : (s2.heap.push { cls := .type "slice", data := .fields #[.none, .int (k : Int) t, .none] }).IsList x vs.toArray := ⟨_, Heap.get?_push_of_some _ hx, rfl, _, rfl⟩
      refine tail_any (s := { s2 with heap := s2.heap.push { cls := .type "slice", data := .fields #[.none, .int (k : Int) t, .none] } }) (Heap.IsList.typeIs hl) slot_list_getitem.lookup
        (wpAny_getItem_list_slice (lo := none) (hi := some (k : Int)) (st := none) hl (Heap.IsSliceOf.new ..) .none (.int _ _) .none (by decide) ?_ (by simp only [List.size_toArray]; rw [rs.length]; show _ ≤ 2 ^ 24; omega)) rfl
      rw [slicePick_upto']
      have e : (vs.toArray.toList.take k) = vs.take k := rfl
      rw [e]
      exact ⟨T2, _, _, l1.trans l2, R3.pushL (n := 0) (rs.take k), .ref _, q _⟩
    cases hseq with
    | tup l => exact absurd rfl (hnt l)
    | lst =>
      have r1 := r1.mono l2
      obtain ⟨x, vs, n, rfl, ho, rs⟩ := r1.inv
      exact fin (o := default) (R2.tab _ _ ho) rs rfl
    | ref hm =>
      obtain rfl : _ = Value.ref _ := r1.inv
      obtain ⟨vs, n, ho, rs, _⟩ := R2.sto _ hm
      exact fin (o := default) ho rs rfl)

/-! items stored -/
theorem setItem_exact {prog : Program} {w : World} {A : Around} {E : Value → Shared → Prop} {s : Shared} {x : Addr} {vs : List Value} {n : Nat} {k : Int} {t : Tok} {v : Value} {Q : Unit → Shared → Prop} (ho : s.heap.get? x = some (listOf vs.toArray n))
    (h0 : 0 ≤ k) (hfit : k < 2 ^ 63) (hn : k < vs.length)
    (hQ : ∀ h' n', h'.get? x = some (listOf (vs.set k.toNat v).toArray n') → Heap.SameBut x s.heap h' → Q () { s with heap := h' }) :
    wpAny (model prog w) A (setItem (.ref x) (.int k t) v) Q E s := by
  have hl : s.heap.IsList x vs.toArray := ⟨_, ho, rfl, _, rfl⟩
  have hd : (listOf vs.toArray n).data = .seq vs.toArray n := rfl
  unfold setItem
  with_reducible refine wpAny_holding ?_
  refine wpAny_bind (wpAny_sequenceKey hl.typeIs (by decide) ?_)
  refine wpAny_bind (wpAny_callSpecial?_slot (name := Str.ofString "__setitem__") hl.typeIs slot_list_setitem
    (wpAny_call_entry slot_list_setitem hl.typeIs entry_list_setitem ?_ (args_list_setitem _ _ _)))
  show wpAny _ _ (Builtin.List.listSubscript? (.int k t) >>= _) _ _ s
  refine wpAny_bind (wpAny_listSubscript_int (fitsIndex_of h0 hfit) ?_)
  obtain ⟨j, rfl⟩ := Int.eq_ofNat_of_zero_le h0
  have hj : j < vs.toArray.size := by simp; omega
  show wpAny _ _ ((seqItemAt x j >>= fun r => pure (r.map (j, ·))) >>= _) _ _ s
  refine wpAny_bind (wpAny_bind (wpAny_seqItemAt ho hd (wpAny_pure ?_)))
  rw [Array.getElem?_eq_getElem hj]
  show wpAny _ _ (setSeqItemAt x j v >>= _) _ _ s
  have hx := Heap.get?_update_self (h := s.heap) (Obj.mapSeq (·.setIfInBounds j v)) ho (by rfl)
  have hfin : (s.heap.update x (Obj.mapSeq (·.setIfInBounds j v))).get? x = some (listOf (vs.set j v).toArray n) := by
    rw [hx]; simp [Obj.mapSeq]
  refine wpAny_bind (wpAny_setSeqItemAt ho hd ?_)
  exact wpAny_pure ⟨.none, rfl, wpAny_pure (hQ _ n hfin (Heap.SameBut.update ..))⟩

theorem ex_setitem {o i e : Expr} {p pos : Pos} {Q : PFq} (ok : c.Ok) (h : EV B c e a (fun d a1 => EV B c o a1 (fun dd a2 => EV B c i a2 (fun di a3 => ∃ x l k st', dd = .ref x ∧ di = .int k ∧ 0 ≤ k ∧ k < l.length ∧ l.length < 2 ^ 24 ∧ SUpd x l (l.set k.toNat d) a3.sto st' ∧ Q .next ⟨a3.loc, st'⟩) X) X) X)
    (hs : swapsWith e (some (.Subscript o i p)) pos.line c.env = pure false := by rfl) : EX B c (.Assign [.Subscript o i p] e pos) a Q X := fun T s R =>
  wpAny_Assign_Subscript (h.use R fun T1 d a1 v s1 l1 R1 r1 k1 => leV l1 (fun _ _ x => x) (k1.use R1 fun T2 dd a2 ov s2 l2 R2 r2 k2 => leV (l1.trans l2) (fun _ _ x => x) (k2.use R2 fun T3 di a3 iv s3 l3 R3 r3 hq_ => by
    obtain ⟨x, l, k, st', hdd, hdi, h0, h1, hlen, u, q⟩ := hq_
    subst hdd hdi
    obtain rfl : _ = Value.ref _ := r2.inv; obtain ⟨_, rfl⟩ := r3.inv
    obtain ⟨vs, n, ho, rs, _⟩ := R3.sto _ u.mem
    have rs : VRs T3 vs l := rs
    refine setItem_exact ho h0 (by omega) (by rw [rs.length]; exact h1) fun h' n' hx hsb => ?_
    exact ⟨T3, .next, _, (l1.trans l2).trans l3, R3.upd ok u hsb hx (rs.set _ ((r1.mono l2).mono l3)) s3.toks, .next, q⟩))) hs
end
end Mine

namespace Mine
open PySem PySem.W PySem.Calls PySem.Spec PyProof.Rows
open Builtin.Str
section
variable {B : Bs} {c : Cx} {a a' : AS} {Q Q' : PQ} {X X' : PX} {T : Tab} {s : Shared}

/-! f-strings -/
inductive FPart
  | lit
theorem ev_field_int {e : Expr} {pos : Pos} (h : EV B c e a (fun d a1 => ∃ i, d = .int i ∧ i.natAbs.log2 < 1920 ∧ Q (.str (Str.ofString (toString i))) a1) X) : EV B c (.FormattedValue e (-1) none pos) a Q X := fun T s R =>
  wpAny_FormattedValue_plain (h.use R fun T1 d a1 v s1 l1 R1 r1 hq_ => by
    obtain ⟨i, hd, hi, q⟩ := hq_
    subst hd; obtain ⟨_, rfl⟩ := r1.inv
    exact wpAny_formatField_int hi ⟨T1, _, a1, l1, R1.toks _, .str _ _, q⟩)
/-- the parts of an f-string, one by one -/
noncomputable def EJ (B : Bs) (c : Cx) (out : Str) (es : List Expr) (a : AS) (Q : PQ) (X : PX) : Prop := ∀ T s, Rep B c T a s → wpAny (model B.prog B.w) c.A (joinParts out (evalEach es c.env)) (PV B c T Q) (PE B c T X) s
theorem ej_nil {out : Str} (hsz : out.length ≤ sizeLine) (q : Q (.str out) a) : EJ B c out [] a Q X := fun T s R => joinParts_nil (pv0 (R.toks _) (.str _ _) q) hsz
theorem ej_cons {out : Str} {e : Expr} {es : List Expr} (h : EV B c e a (fun d a1 => ∃ y, d = .str y ∧ (out ++ y).length ≤ sizeLine ∧ EJ B c (out ++ y) es a1 Q X) X) : EJ B c out (e :: es) a Q X := fun T s R =>
  joinParts_cons (h.use R fun T1 d a1 v s1 l1 R1 r1 hq_ => by
    obtain ⟨y, hd, hsz, q⟩ := hq_
    subst hd; obtain ⟨_, rfl⟩ := r1.inv
    exact ⟨hsz, leV l1 (fun _ _ p => PV.le l1 p) (q T1 s1 R1)⟩)
theorem ev_joined {v1 v2 : Expr} {es : List Expr} {pos : Pos} (h : EJ B c Str.empty (v1 :: v2 :: es) a Q X) : EV B c (.JoinedStr (v1 :: v2 :: es) pos) a Q X := fun T s R => JoinedStr_many (h T s R)

/-! names unpacked -/
theorem ex_unpack2 {x y : Str} {px py tp pos : Pos} {k : Nat} {e : Expr} {ks : List (Str × NameKind)} {Q : PFq} (ok : c.Ok) (hh : c.A.handled = none) (hk : c.Kinds ks) (hx : (x, NameKind.local) ∈ ks) (hy : (y, NameKind.local) ∈ ks)
    (h : EV B c e a (fun d a1 => ∃ d1 d2 l1 l2, d = .tup [d1, d2] ∧ LSet x d1 a1.loc l1 ∧ LSet y d2 l1 l2 ∧ Q .next ⟨l2, a1.sto⟩) X)
    (hs : swapsWithSole [.Tuple [.Name x px, .Name y py] k tp] e pos.line c.env = pure false := by rfl)
    (hw : swappedStores [.Tuple [.Name x px, .Name y py] k tp] e c.env = pure none := by rfl) : EX B c (.Assign [.Tuple [.Name x px, .Name y py] k tp] e pos) a Q X := fun T s R => by
  refine Assign_Tuple (h.use R fun T1 d a1 v s1 l1 R1 r1 hq_ => ?_) hs hw
  obtain ⟨d1, d2, m1, m2, hd, u1, u2, q⟩ := hq_
  subst hd
  obtain ⟨z, vs, n, rfl, ho, rs⟩ := r1.inv
  obtain ⟨v1, v2, rfl, r1, r2⟩ := vrs2 rs
  show wpAny _ _ (do standAt tp; unpack (.ref z) [(false, assign (.Name x px) c.env), (false, assign (.Name y py) c.env)]) _ _ _
  refine wpAny_bind (wpAny_standAt (wpAny_unpack_tuple (items := [v1, v2].toArray) hh ⟨_, R1.tab _ _ ho, rfl, _, rfl⟩ rfl rfl fun h' hx' => ?_))
  have R2 : Rep B c T1 a1 { s1 with heap := h' } := R1.grow (fun b o e => hx' b o (Nat.ne_of_lt (Heap.lt_size e)) e) s1.toks
  refine PyProof.Rows.assignInOrder_cons (wpAny_assign_Name (store_local ok hk hx R2 r1 u1 fun s3 R3 => ?_))
  refine PyProof.Rows.assignInOrder_cons (wpAny_assign_Name (store_local (a := ⟨m1, a1.sto⟩) ok hk hy R3 r2 u2 fun s4 R4 => ?_))
  exact PyProof.Rows.assignInOrder_nil ⟨T1, .next, _, l1, R4, .next, q⟩

/-! statements that change in place -/
theorem t2_iadd_int {i j : Int} (q : Q (.int (i + j)) a) : T2 B c (inplaceOp .Add) (.int i) (.int j) a Q X := fun T s v1 v2 R r1 r2 => by obtain ⟨_, rfl⟩ := r1.inv; obtain ⟨_, rfl⟩ := r2.inv; exact wpAny_iadd_int (pv0 (R.toks _) (.int _ _) q)
theorem fillsI_list : fillsInplaceSlot (.type "list") "add" true = pure false := by
  unfold fillsInplaceSlot
  show (typeLookup (.type "list") (dunderI "add") >>= fun fi => pure (fi.isSome && !isSeqSlot fi)) = pure false
  rw [typeLookup_type, builtinLookup_eq_fast]; kernel_rfl
theorem seqI_list : seqSlot? (.type "list") (dunderI "add") = pure (some (.builtin "list.__iadd__")) := PySem.seqSlot_of (by rw [typeLookup_type, builtinLookup_eq_fast]; kernel_rfl) (by decide +kernel)
theorem fillsN_list : fillsNumberSlot (.type "list") "add" = pure false := by
  unfold fillsNumberSlot
  simp only [typeLookup_type, builtinLookup_eq_fast]
  kernel_rfl
theorem slot_iadd_list : Slot "list" (dunderI "add") "list.__iadd__" :=
  .of (owner := "list") (n := "__iadd__") (by rw [typeLookup_type, builtinLookup_eq_fast]; kernel_rfl) (by decide +kernel) (by decide +kernel) (by decide +kernel)
    (by first | exact .inl (by decide +kernel) | exact .inr (by decide +kernel)) (by rw [isSubtype_type]; kernel_rfl)
theorem args_iadd_list (a b : Value) : argsOk "list.__iadd__" ⟨[a, b], []⟩ := by unfold argsOk; kernel_rfl
theorem t2_iadd_list {x y : Addr} {l m : List AV} {st' : List (Addr × List AV)} (ok : c.Ok) (u : SUpd x l (l ++ m) a.sto st') (hm : (y, m) ∈ a.sto) (hl : l.length + m.length ≤ 1000) (q : Q (.ref x) ⟨a.loc, st'⟩) :
    T2 B c (inplaceOp .Add) (.ref x) (.ref y) a Q X := fun T s v1 v2 R r1 r2 => by
  obtain rfl : _ = Value.ref _ := r1.inv; obtain rfl : _ = Value.ref _ := r2.inv
  obtain ⟨vs, n, ho, rs, _⟩ := R.sto _ u.mem
  have rs : VRs T vs l := rs
  obtain ⟨ws, n2, ho2, rs2, _⟩ := R.sto _ hm
  have rs2 : VRs T ws m := rs2
  have hT1 : s.TypeIs (.ref x) "list" := ⟨_, ho, rfl⟩
  have hT2 : s.TypeIs (.ref y) "list" := ⟨_, ho2, rfl⟩
  unfold inplaceOp
  refine wpAny_holding ?_
  refine wpAny_bind (wpAny_typeOf hT1 (wpAny_bind (wpAny_of_eq fillsI_list ?_)))
  show wpAny _ _ (if false = true then _ else _) _ _ s
  rw [if_neg Bool.false_ne_true]
  refine wpAny_bind (wpAny_binaryOp1_none (nm := "add") hT1 hT2 fillsN_list ?_)
  refine wpAny_bind (wpAny_of_eq seqI_list ?_)
  refine wpAny_bind (wpAny_rule ?_)
  have e1 := rs.length
  have e2 := rs2.length
  refine call_meets slot_iadd_list hT1 PySem.F.entry_list_iadd (args_iadd_list _ _) (AutoSeq1.list___iadd___list_list_0 x vs.toArray n y ws.toArray n2 ?_ (by simp only [List.size_toArray]; show _ ≤ 2 ^ 24; omega) (by simp only [List.size_toArray]; show _ ≤ 2 ^ 24 + 1; omega)) ⟨ho, ho2, ?_⟩
  · unfold Builtin.List.listTooLong
    simp; intro _; show _ ≤ 2 ^ 24; omega
  have hx := Heap.get?_update_self (h := s.heap) (Obj.mapSeq fun x => x ++ ws.toArray) ho (by rfl)
  refine pv0 (R.upd ok u (vs' := vs ++ ws) (n' := if (vs ++ ws).length == vs.length then n else n + 1) (Heap.SameBut.update ..) ?_ (rs.append rs2) s.toks) (.ref _) q
  rw [hx]; simp [Obj.mapSeq]
theorem ex_augitem {o i e : Expr} {p pos : Pos} {op : Operator} {Q : PFq} (ok : c.Ok)
    (h : EV B c o a (fun dd a1 => EV B c i a1 (fun di a2 => ∃ x l k d0, dd = .ref x ∧ di = .int k ∧ 0 ≤ k ∧ k < 2 ^ 62 ∧ (x, l) ∈ a2.sto ∧ l[k.toNat]? = some d0 ∧
      EV B c e a2 (fun d a3 => T2 B c (inplaceOp op) d0 d a3 (fun d2 a4 => ∃ l st', l.length < 2 ^ 24 ∧ k < l.length ∧ SUpd x l (l.set k.toNat d2) a4.sto st' ∧ Q .next ⟨a4.loc, st'⟩) X) X) X) X)
    (hi : ∀ ov iv new, augStore i ov iv new = (do holding [new, ov, iv] (setItem ov iv new); release [new, ov, iv] []; pure .next) := by intro _ _ _; rfl) :
    EX B c (.AugAssign (.Subscript o i p) op e pos) a Q X := fun T s R => by
  refine wpAny_AugAssign_SubscriptAny (h.use R fun T1 dd a1 ov s1 l1 R1 r1 k1 => leV l1 (fun _ _ x => x) (k1.use R1 fun T2 di a2 iv s2 l2 R2 r2 hq_ => ?_)) hi
  obtain ⟨x, l, k, d0, hdd, hdi, h0, h1, hm, hd0, k2⟩ := hq_
  subst hdd hdi
  obtain rfl : _ = Value.ref _ := r1.inv; obtain ⟨_, rfl⟩ := r2.inv
  obtain ⟨vs, n, ho, rs, _⟩ := R2.sto _ hm
  obtain ⟨v0, hv0, r0⟩ := VRs.get rs hd0
  refine wpAny_getItem_list ⟨_, ho, rfl, _, rfl⟩ h0 (by omega) (by simpa using hv0) ?_
  refine leV (l1.trans l2) (fun _ _ x => x) (k2.use R2 fun T3 d a3 v s3 l3 R3 r3 k3 => ?_)
  refine leV ((l1.trans l2).trans l3) (fun _ _ x => x) (wpAny_mono (k3 T3 s3 v0 v R3 (r0.mono l3) r3) (fun v2 s4 hq_ => ?_) fun _ _ x => x)
  obtain ⟨T4, d2, a4, l4, R4, r4, l', st', hlen, hkl, u, q⟩ := hq_
  obtain ⟨ws, n', ho', rs', _⟩ := R4.sto _ u.mem
  have rs' : VRs T4 ws l' := rs'
  refine setItem_exact ho' h0 (by omega) (by rw [rs'.length]; exact hkl) fun h' n'' hx hsb => ?_
  exact ⟨T4, .next, _, ((l1.trans l2).trans l3).trans l4, R4.upd ok u hsb hx (rs'.set _ r4) s4.toks, .next, q⟩
theorem ex_expr_any {e : Expr} {pos : Pos} {Q : PFq} (ok : c.Ok) (h : EV B c e a (fun d a1 => Q .next a1) X)
    (hs : swapsWith e none pos.line c.env = pure false := by rfl) : EX B c (.Expr e pos) a Q X := fun T s R => by
  have hi : interactive c.env = false := by unfold interactive; rw [ok.kind]; rfl
  exact wpAny_Expr_any (h.use R fun T1 d a1 v s1 l R1 r1 q => ⟨T1, .next, a1, l, R1, .next, q⟩) hi hs

/-! small ones -/
theorem ev_neg {e : Expr} {pos : Pos} (h : EV B c e a (fun d a1 => ∃ i, d = .int i ∧ Q (.int (-i)) a1) X) : EV B c (.UnaryOp .USub e pos) a Q X := fun T s R =>
  UnaryOp_ (h.use R fun T1 d a1 v s1 l R1 r1 hq_ => by
    obtain ⟨i, hd, q⟩ := hq_
    subst hd; obtain ⟨_, rfl⟩ := r1.inv
    exact PyProof.Rows.neg_int ⟨T1, _, a1, l, R1.toks _, .int _ _, q⟩)
noncomputable def AV.isNone : AV → Bool
  | .none => true
  | _ => false
theorem t2_is_none {d : AV} (q : Q (.bool d.isNone) a) : T2 B c (compareOp .Is) d .none a Q X := fun T s v1 v2 R r1 r2 => by
  cases r2
  cases r1 with
  | none => exact PyProof.Rows.is_none_none (pv0 R (.bool _) q)
  | bool b => exact PyProof.Rows.is_bool_none (pv0 R (.bool _) q)
  | int i t => exact PyProof.Rows.is_int_none (pv0 R (.bool _) q)
  | str x t => exact PyProof.Rows.is_str_none (pv0 R (.bool _) q)
  | tup => exact PyProof.Rows.is_ref_none (pv0 R (.bool _) q)
  | lst => exact PyProof.Rows.is_ref_none (pv0 R (.bool _) q)
  | ref => exact PyProof.Rows.is_ref_none (pv0 R (.bool _) q)
  | rng => exact PyProof.Rows.is_ref_none (pv0 R (.bool _) q)
  | exc => exact PyProof.Rows.is_ref_none (pv0 R (.bool _) q)
end
end Mine

namespace Mine
open PySem PySem.W PySem.Calls PySem.Spec PyProof.Rows Builtin Builtin.ObjectAttr
open Sem (wp)

noncomputable abbrev bmE : List Value := [.type "Exception", .type "BaseException", .type "object"]
/-- the class object of an own exception, one own class above it -/
noncomputable abbrev subObj (nm q : Str) (C G N : Addr) (bs sub : List Value) (k0 k1 k2 k3 k5 : Option Value) : Obj :=
  excClassObj nm q C N bs (.ref G :: bmE) true [] sub false none none k0 k1 k2 k3 k5 "Exception.__new__"

section
variable {prog : Program} {w : World} {A : Around} {E : Value → Shared → Prop} {R : Result → Shared → Prop} {h : Heap} {g : Array GenState} {d : Drawn} {t : Nat} {os : OsState}
variable {nm q : Str} {C G N : Addr} {bs sub : List Value} {k0 k1 k2 k3 k5 : Option Value}

theorem sub_new_check {M : Model} {rest : List Value} {Q : Unit → Shared → Prop} (hC : h.get? C = some (subObj nm q C G N bs sub k0 k1 k2 k3 k5))
    (hq : Q () ⟨h, g, d, t, os⟩) : wpAny M A (checkBuiltinCall "Exception.__new__" ⟨.ref C :: rest, []⟩) Q E ⟨h, g, d, t, os⟩ := by
  have F := PySem.F.excBase_Exception
  have hcont : (Value.ref C :: .ref G :: bmE).contains (.type "Exception") = true := by simp [List.contains_cons]
  have hstar := F.noStar
  simp only [checkBuiltinCall, F.newKind, F.newSplit, F.newRow]
  repeat (first | with_reducible refine wpAny_loadPart_at hC ?_ | (with_reducible refine wpAny_isSubtype_exc hC ?_; rw [hcont]) | with_reducible refine wpAny_staticBase_exc hC ?_ | with_reducible refine wpAny_madeBy_exc hC ?_ | simp only [bne_self_eq_false, Bool.false_eq_true, if_false] | wp_step)
  exact hq

theorem sub_new {rest : List Value} (hC : h.get? C = some (subObj nm q C G N bs sub k0 k1 k2 k3 k5))
    (hq : R (.ok (.ret (.ref (h.objs.size + 1)))) ⟨(h.push { cls := .type "tuple", data := .seq rest.toArray }).push
      { cls := .ref C, data := .fields #[.ref h.objs.size, .none, .none, .none, .bool false, .none] }, g, d, t, os⟩) (hrest : rest.length ≤ sizeLine) :
    codeAny (model prog w) A (.builtin "Exception.__new__" ⟨.ref C :: rest, []⟩) R ⟨h, g, d, t, os⟩ := by
  have F := PySem.F.excBase_Exception
  have hends := F.ends
  have hcB : (Value.ref C :: .ref G :: bmE).contains (.type "Exception") = true := by simp [List.contains_cons]
  have hcA : (Value.ref C :: .ref G :: bmE).contains (.type "AttributeError") = false := by simp [List.contains_cons]
  have hcN : (Value.ref C :: .ref G :: bmE).contains (.type "NameError") = false := by simp [List.contains_cons]
  refine codeAny_builtinAt F.entry ?_
  unfold Builtin.«BaseException.__new__»
  refine PySem.wpAt_bind ?_
  show PySem.wpAt _ _ _ (stack >>= _) _ _ _
  refine PySem.wpAt_bind (PySem.wpAt_stack fun p below => PySem.wpAt_of_wpAny ?_)
  wp_walk
  refine PySem.wpAt_of_wpAny ?_
  rw [F.owner]
  repeat (first | with_reducible refine wpAny_madeHere_exc F.canon hC ?_ | with_reducible refine wpAny_loadPart_at hC ?_ | (with_reducible refine wpAny_isSubtype_exc hC ?_; first | rw [hcB] | rw [hcA] | rw [hcN]) | wp_step)
  show R _ _
  rw [Heap.size_push]
  exact hq

theorem sub_call {rest : List Value} {fI : Addr} {oI : Obj} {Q : Value → Shared → Prop} (hC : h.get? C = some (subObj nm q C G N bs sub k0 k1 k2 k3 k5))
    (hi : Looks (model prog w) h (typeLookup (.ref C) "__init__") (some (.ref fI))) (hfI : h.get? fI = some oI) (hfc : oI.cls = .type "function") (hrest : rest.length ≤ sizeLine)
    (hq : wpAny (model prog w) (A.under (.builtin "type.__call__" ⟨.ref C :: rest, []⟩)) (call (.ref fI) (.ref (h.objs.size + 1) :: rest)) (fun r s' => r = .none ∧ Q (.ref (h.objs.size + 1)) s') E
      ⟨(h.push { cls := .type "tuple", data := .seq rest.toArray }).push { cls := .ref C, data := .fields #[.ref h.objs.size, .none, .none, .none, .bool false, .none] }, g, d, t, os⟩) :
    wpAny (model prog w) A (call (.ref C) rest) Q E ⟨h, g, d, t, os⟩ := by
  have F := PySem.F.excBase_Exception
  have f1 := tc_lookup
  have f2 := tc_bind (.ref C)
  have hT : (⟨h, g, d, t, os⟩ : Shared).TypeIs (.ref C) "type" := ⟨_, hC, rfl⟩
  refine wpAny_call (codeAny_of_tree ?_)
  show wpAny _ _ (callAny (.ref C) _) _ _ _
  repeat (any_goals (first | assumption | with_reducible refine wpAny_loadPart_at hC ?_ | wp_step))
  refine ⟨rfl, ?_⟩
  refine codeAny_call_builtin_at (Code.quiet_builtin _ (by decide +kernel)) entry_typeCall (wpAny_check_type_call_sub hC ?_)
  repeat (first | with_reducible refine wpAny_loadPart_at hC ?_ | with_reducible refine wpAny_madeBy_exc hC ?_ | wp_step)
  refine codeAny_call_builtin_code (Code.quiet_builtin _ F.quiet) (sub_new_check hC ?_)
  refine sub_new hC ?_ hrest
  show wpAny _ _ _ _ _ _
  have hC₁ := Heap.get?_push_of_some { cls := .ref C, data := .fields #[.ref h.objs.size, .none, .none, .none, .bool false, .none] }
    (Heap.get?_push_of_some { cls := .type "tuple", data := .seq rest.toArray } hC)
  have hfI₁ := Heap.get?_push_of_some { cls := .ref C, data := .fields #[.ref h.objs.size, .none, .none, .none, .bool false, .none] }
    (Heap.get?_push_of_some { cls := .type "tuple", data := .seq rest.toArray } hfI)
  have hget : ((h.push { cls := .type "tuple", data := .seq rest.toArray }).push
      { cls := .ref C, data := .fields #[.ref h.objs.size, .none, .none, .none, .bool false, .none] }).get? (h.objs.size + 1) = some
      { cls := .ref C, data := .fields #[.ref h.objs.size, .none, .none, .none, .bool false, .none] } := by heap_get
  have hcC : (Value.ref C :: .ref G :: bmE).contains (.ref C) = true := by simp
  unfold isInstance
  repeat (first | with_reducible refine wpAny_loadPart_at hget ?_ | (with_reducible refine wpAny_isSubtype_exc hC₁ ?_; rw [hcC]) | wp_step)
  dsimp only
  refine wpAny_isSubtype_exc hC₁ ?_
  rw [hcC]
  repeat wp_step
  show wpAny _ _ (typeLookup (.ref C) _) _ _ _
  refine hi _ _ _ _ (fun b o e => Heap.get?_push_of_some _ (Heap.get?_push_of_some _ e)) ?_
  refine wpAny_holding (wpAny_bind ?_)
  unfold bindSpecial
  refine wpAny_bind (wpAny_typeOf (T := "function") ⟨_, hfI₁, hfc⟩ ?_)
  rw [if_pos (by decide)]
  refine wpAny_pure (wpAny_bind (wpAny_mono hq (fun r s' hr => ?_) fun _ _ x => x))
  obtain ⟨rfl, hQ⟩ := hr
  wp_walk
  exact hQ
end
end Mine

namespace Mine
open PySem PySem.W PySem.Calls PySem.Spec PyProof.Rows Builtin Builtin.ObjectAttr

/-- the facts of the own exception class C, below the own class G, read from the known objects K -/
structure OwnX (K : Frag) (C G fI : Addr) : Prop where
  cls : ∃ nm q N bs sub k0 k1 k2 k3 k5, K.lookup C = some (subObj nm q C G N bs sub k0 k1 k2 k3 k5)
  init : findIn K (.ref C) "__init__" = some (some (.ref fI))
  set : findIn K (.ref C) "__setattr__" = some (some (.builtin "object.__setattr__"))
  get : findIn K (.ref C) "__getattribute__" = some (some (.builtin "BaseException.__getattribute__"))
  hook : findIn K (.ref C) "__getattr__" = some none
noncomputable def Free (K : Frag) (C : Addr) (name : Str) : Prop := findIn K (.ref C) name = some none

section
variable {prog : Program} {w : World} {A : Around} {E : Value → Shared → Prop} {s : Shared} {K : Frag} {C G fI : Addr}

theorem refuse_bmE (self : Value) (C G : Addr) : refuseLoop self "__setattr__" (.ref C :: .ref G :: bmE) = pure () := by
  rw [refuseLoop_ref, refuseLoop_ref]
  kernel_rfl

theorem OwnX.clsIn (O : OwnX K C G fI) : ∃ cd, clsIn K C = some cd ∧ cd.mro = .ref C :: .ref G :: bmE ∧ cd.hasDict = true := by
  obtain ⟨nm, q, N, bs, sub, k0, k1, k2, k3, k5, h⟩ := O.cls
  refine ⟨_, by unfold PySem.W.clsIn; rw [h], rfl, rfl⟩

theorem store_tail {dx : Addr} {es : List DictEntry} {n : Nat} {name : Str} {tk : Tok} {v : Value} {Q : PySem.Fin → Shared → Prop} (D : s.heap.get? dx = some (dictOf es n)) (hes : ∀ x ∈ es, x.refKey = false) (hz : es.length ≤ 50)
    (h : ∀ h', Heap.SameBut dx s.heap h' → h'.get? dx = some (dictOf (putL name (PyData.keyHash w.params name) (.str name s.toks) v es) (putN name es n)) → Q (.done (.ret .none)) { s with heap := h', toks := s.toks + 1 }) :
    wpAny (model prog w) A (storeInDict dx (.str name tk) name v) Q E s := by
  have D' : (s.heap.update dx (Obj.putName name (PyData.keyHash w.params name) (.str name s.toks) v)).get? dx = some (dictOf (putL name (PyData.keyHash w.params name) (.str name s.toks) v es) (putN name es n)) := by
    rw [Heap.get?_update_self _ D (by rw [putName_dict]; rfl), putName_dict]
  refine wpAny_bind (wpAny_pure (wpAny_bind ?_))
  unfold nsSet
  refine wpAny_bind (wpAny_bind (wpAny_askSetting (wpAny_pure (wpAny_bind (wpAny_mkText (wpAny_bind (wpAny_loadPart D ?_)))))))
  dsimp only
  have c : (!es.toArray.any (·.key.isStr name) && es.toArray.any (·.refKey)) = false := by
    have : es.toArray.any (·.refKey) = false := by
      rw [← Array.any_toList, List.any_eq_false]
      intro x hx
      rw [hes x (by simpa using hx)]; decide
    rw [this, Bool.and_false]
  rw [aRefKeyMayBeTheName_at, c]
  refine wpAny_updatePart D ?_
  refine wpAny_bind (wpAny_lookBehind D' (pastItsLine_dict (by
    rw [List.size_toArray, sizeLine_eq]
    have : ∀ es : List DictEntry, (putL name (PyData.keyHash w.params name) (.str name s.toks) v es).length ≤ es.length + 1 := by
      intro es
      induction es with
      | nil => exact Nat.le_refl _
      | cons x r ih =>
        unfold putL
        split
        · simp
        · simp only [List.length_cons]; omega
    have := this es
    omega)) ?_)
  exact wpAny_pure (h _ (Heap.SameBut.update ..) D')

theorem set_open {e : Addr} {oe : Obj} {od : Option Obj} {name : Str} {v : Value} {Q : Unit → Shared → Prop} (X : K.In s.heap) (O : OwnX K C G fI) (hf : Free K C name) (I : InstAt s.heap e oe C od)
    (h : ∀ b A', wpAny (model prog w) A' (storeInOwnDict (.ref e) (.ref C) (.str name s.toks) name v b) (fun fin s' => fin = .done (.ret .none) ∧ Q () s') (fun _ _ => False) { s with toks := s.toks + 1 }) :
    wpAny (model prog w) A (setAttr (.ref e) name v) Q E s := by
  refine set_plain X I O.set ?_
  have SF := PySem.F.store_object
  obtain ⟨cd, hc, hm, hd⟩ := O.clsIn
  have X : K.In ({ s with toks := s.toks + 1 } : Shared).heap := X
  have I : InstAt ({ s with toks := s.toks + 1 } : Shared).heap e oe C od := I
  have ne : cd.mro.isEmpty = false := by rw [hm]; rfl
  have ho : cd.mro.contains (.type "object") = true := by rw [hm]; simp [List.contains_cons]
  have sub : Looks (model prog w) ({ s with toks := s.toks + 1 } : Shared).heap (isInstance (.ref e) (.type "object")) true := I.type.andThen (looks_mroIn X (by unfold mroIn; rw [hc, Option.bind_some, if_neg (by rw [ne]; decide), ho]))
  refine codeAny_call_builtin SF.slot.plain SF.entry (@check_slot (model prog w) _ _ _ "object.__setattr__" "object" "__setattr__" (.ref e) [.str name s.toks, v] [] _ SF.kind SF.split sub (SF.args (.ref e) (.str name s.toks) v) ?_)
  have hmr : Looks (model prog w) ({ s with toks := s.toks + 1 } : Shared).heap (mroOf (.ref C)) cd.mro := (looks_clsIn X hc).andThen .now
  rw [osa_eq, refuse_eq]
  refine wpAny_bind (wpAny_bind (I.type.here (wpAny_bind (hmr.here ?_))))
  rw [hm, refuse_bmE]
  refine wpAny_pure (wpAny_bind (I.type.here (wpAny_bind ((looks_findIn X hf).here (wpAny_bind (wpAny_pure ?_))))))
  refine wpAny_mono (h _ _) (fun fin s' ⟨e1, q⟩ => ?_) fun _ _ x => x.elim
  subst e1
  exact q

theorem set_first {e : Addr} {fs : Array Value} {name : Str} {v : Value} {Q : Unit → Shared → Prop} (X : K.In s.heap) (O : OwnX K C G fI) (hf : Free K C name) (he : s.heap.get? e = some { cls := .ref C, data := .fields fs })
    (h : ∀ h' tk, (∀ b o, b ≠ e → s.heap.get? b = some o → h'.get? b = some o) → h'.get? e = some { cls := .ref C, dict := some s.heap.objs.size, data := .fields fs } →
      h'.get? s.heap.objs.size = some (dictOf [⟨PyData.keyHash w.params name, .str name (s.toks + 1), v⟩] 1) → Q () { s with heap := h', toks := tk }) :
    wpAny (model prog w) A (setAttr (.ref e) name v) Q E s := by
  obtain ⟨cd, hc, hm, hd⟩ := O.clsIn
  refine set_open X O hf (oe := { cls := .ref C, data := .fields fs }) (od := none) ⟨he, rfl, rfl, trivial⟩ fun b A' => ?_
  refine wpAny_bind (wpAny_pure (wpAny_bind (wpAny_bind (wpAny_loadPart he (wpAny_bind (looks_clsIn X hc _ _ _ _ (fun _ _ e => e) ?_))))))
  rw [hd]
  have hne : e ≠ s.heap.objs.size := Nat.ne_of_lt (Heap.lt_size he)
  have he₁ := Heap.get?_push_of_some ({ cls := .type "dict", data := .dict #[] } : Obj) he
  refine wpAny_bind (wpAny_alloc (wpAny_bind (wpAny_update he₁ ?_)))
  refine wpAny_pure (a := some s.heap.objs.size) (wpAny_bind (wpAny_pure ?_))
  have hd₁ : ((s.heap.push ({ cls := .type "dict", data := .dict #[] } : Obj)).update e (fun o => { o with dict := some s.heap.objs.size })).get? s.heap.objs.size = some (dictOf [] 0) := by
    rw [Heap.get?_update_other _ _ hne]; exact Heap.get?_push_size _ rfl
  refine store_tail (s := ⟨_, _, _, _, _⟩) (tk := s.toks) hd₁ (fun x hx => nomatch hx) (Nat.zero_le _) fun h' hs hx => ⟨rfl, h h' _ ?_ ?_ hx⟩
  · intro b o hb ho
    have hb2 : b ≠ s.heap.objs.size := Nat.ne_of_lt (Heap.lt_size ho)
    rw [hs.2 b hb2]
    show (Heap.update _ _ _).get? b = _
    rw [Heap.get?_update_other _ _ (Ne.symm hb)]
    exact Heap.get?_push_of_some _ ho
  · rw [hs.2 e hne]
    show (Heap.update _ _ _).get? e = _
    rw [Heap.get?_update_self _ he₁ rfl]

theorem set_more {e dx : Addr} {fs : Array Value} {es : List DictEntry} {n : Nat} {name : Str} {v : Value} {Q : Unit → Shared → Prop} (X : K.In s.heap) (O : OwnX K C G fI) (hf : Free K C name)
    (he : s.heap.get? e = some { cls := .ref C, dict := some dx, data := .fields fs }) (D : s.heap.get? dx = some (dictOf es n)) (hes : ∀ x ∈ es, x.refKey = false) (hz : es.length ≤ 50)
    (h : ∀ h' tk, Heap.SameBut dx s.heap h' → h'.get? dx = some (dictOf (putL name (PyData.keyHash w.params name) (.str name (s.toks + 1)) v es) (putN name es n)) → Q () { s with heap := h', toks := tk }) :
    wpAny (model prog w) A (setAttr (.ref e) name v) Q E s := by
  obtain ⟨cd, hc, hm, hd⟩ := O.clsIn
  refine set_open X O hf (oe := { cls := .ref C, dict := some dx, data := .fields fs }) (od := some (dictOf es n)) ⟨he, rfl, rfl, D⟩ fun b A' => ?_
  refine wpAny_bind (wpAny_pure (wpAny_bind (wpAny_bind (wpAny_loadPart he (wpAny_bind (looks_clsIn X hc _ _ _ _ (fun _ _ e => e) ?_))))))
  rw [hd]
  refine wpAny_pure (a := some dx) (wpAny_bind (wpAny_pure ?_))
  exact store_tail (s := ⟨_, _, _, _, _⟩) (tk := s.toks) D hes hz fun h' hs hx => ⟨rfl, h h' _ hs hx⟩

theorem get_exc {e : Addr} {oe : Obj} {od : Option Obj} {name : Str} {v : Value} {expr : Bool} {Q : Value → Shared → Prop} (X : K.In s.heap) (O : OwnX K C G fI) (I : InstAt s.heap e oe C od)
    (hf : findObj K C od name = some (.value v)) (hh : handedIn v = true) (h : Q v { s with toks := s.toks + 1 }) :
    wpAny (model prog w) A (getAttr (.ref e) name expr) Q E s := by
  have hg := fun (self : Value) => (PySem.F.excAttr_ValueError.ga).bind self
  obtain ⟨cd, hc, hm, hd⟩ := O.clsIn
  have L0 := I.type (M := model prog w)
  have L1 := looks_findIn (M := model prog w) X O.get
  have L2 := looks_findIn (M := model prog w) X O.hook
  have hx2 : (Value.builtin "BaseException.__getattribute__" == Value.builtin "object.__getattribute__") = false := by decide +kernel
  unfold getAttr getAttrBy
  refine wpAny_bind (wpAny_mkText (wpAny_holding (wpAny_bind (L0 _ _ _ _ (fun _ _ e => e) (wpAny_bind (L1 _ _ _ _ (fun _ _ e => e) ?_))))))
  show wpAny _ _ (if (onTheHeap (Value.ref C) && Value.builtin "BaseException.__getattribute__" == Value.builtin "object.__getattribute__") = true then _ else _) _ _ _
  rw [hx2, Bool.and_false, if_neg (by decide)]
  have f3 := hg (.ref e)
  obtain ⟨hp, g, d, t, os⟩ := s
  refine wpAny_bind ?_
  show wpAny _ _ (typeLookup (.ref C) "__getattr__") _ _ _
  refine L2 _ _ _ _ (fun _ _ e => e) ?_
  have hx0 : (expr && onTheHeap (Value.builtin "BaseException.__getattribute__")) = false := by cases expr <;> rfl
  repeat (any_goals (first | assumption | wp_step))
  have SG := PySem.F.excAttr_ValueError.ga
  have X₁ : K.In ({ heap := hp, gens := g, drawn := d, toks := t + 1, os := os } : Shared).heap := X
  have ne : cd.mro.isEmpty = false := by rw [hm]; rfl
  have ho : cd.mro.contains (.type "BaseException") = true := by rw [hm]; simp [List.contains_cons]
  have sub : Looks (model prog w) ({ heap := hp, gens := g, drawn := d, toks := t + 1, os := os } : Shared).heap (isInstance (.ref e) (.type "BaseException")) true := I.type.andThen (looks_mroIn X₁ (by unfold mroIn; rw [hc, Option.bind_some, if_neg (by rw [ne]; decide), ho]))
  have hk : builtinKind "BaseException.__getattribute__" = some .slot := by decide +kernel
  have hsplit : splitId "BaseException.__getattribute__" = some ("BaseException", "__getattribute__") := by decide +kernel
  refine codeAny_call_builtin SG.plain PySem.F.entry_bexc_ga (@check_slot (model prog w) _ _ _ "BaseException.__getattribute__" "BaseException" "__getattribute__" (.ref e) [.str name t] [] _ hk hsplit sub (PySem.F.args_bexc_ga _ _) ?_)
  have L3 := looks_find (M := model prog w) X I hf
  refine wpAny_bind (wpAny_pure (wpAny_bind (wpAny_pure (wpAny_bind (L0 _ _ _ _ (fun _ _ e => e) (wpAny_bind (L3 _ _ _ _ (fun _ _ e => e) ?_)))))))
  refine wpAny_pure ?_
  show wpAny _ _ (handedOut v) _ _ _
  rw [handedOut_of hh]; exact wpAny_pure h
end
end Mine

namespace Mine
open PySem PySem.W PySem.Calls PySem.Spec PyProof.Rows Builtin Builtin.ObjectAttr

/-- three stores of parameters into fields of the same names -/
noncomputable def storeStmt (x : Str) (p1 p2 p3 p4 : Pos) : Stmt := .Assign [.Attribute (.Name "self" p1) x p2] (.Name x p3) p4

theorem execs_one {M : Model} {A : Around} {E : Value → Shared → Prop} {s : Shared} {st : Stmt} {r : List Stmt} {env : Env} {Q : Flow → Shared → Prop}
    (h : wpAny M A (exec st env) (fun f s' => f = .next ∧ wpAny M A (execs r env) Q E s') E s) : wpAny M A (execs (st :: r) env) Q E s :=
  wpAny_execs_cons (wpAny_mono h (fun f s' ⟨e, q⟩ => by subst e; exact q) fun _ _ x => x)

section
variable {B : Bs} {A : Around} {E : Value → Shared → Prop} {s : Shared} {K : Frag} {C G fI : Addr}

theorem store_one {env : Env} {x : Str} {p1 p2 p3 p4 : Pos} {m : Str → Option Value} {e v : Value} {Q : Flow → Shared → Prop} (hk : env.scope.kind = .function) (k1 : env.kindOf "self" = some .local) (k2 : env.kindOf x = some .local)
    (hn : s.heap.Ns env.locals m) (m1 : m "self" = some e) (m2 : m x = some v) (hd : (x == ("__debug__" : Str)) = false)
    (h : wpAny (model B.prog B.w) A (setAttr e x v) (fun _ s' => Q .next s') E s) : wpAny (model B.prog B.w) A (exec (storeStmt x p1 p2 p3 p4) env) Q E s :=
  plainObj_wpAny_Assign_Attribute (wpAny_Name (wpAny_loadName_local hk k2 hn m2 (wpAny_Name (wpAny_loadName_local hk k1 hn m1 h) (by decide))) hd) (by rfl)

theorem Ns_k {h h' : Heap} {L e : Addr} {m : Str → Option Value} (hn : h.Ns L m) (hne : L ≠ e) (k : ∀ b o, b ≠ e → h.get? b = some o → h'.get? b = some o) : h'.Ns L m :=
  let ⟨o, es, ep, ho, r⟩ := hn; ⟨o, es, ep, k _ _ hne ho, r⟩

theorem init_call {fd : FuncData} {e : Addr} {fs : Array Value} {args : List Value} {binds : List (Str × Value)} {kv av dv : Value} {q1 q2 q3 q4 r1 r2 r3 r4 t1 t2 t3 t4 : Pos} {Q : Value → Shared → Prop}
    (base : ∀ b o, B.h.get? b = some o → s.heap.get? b = some o) (kin : K.In B.h) (O : OwnX K C G fI) (heK : B.h.get? e = none)
    (F : Fn B fI fd [storeStmt "kind" q1 q2 q3 q4, storeStmt "at" r1 r2 r3 r4, storeStmt "detail" t1 t2 t3 t4]) (nol : B.h.NoLimit)
    (f1 : Free K C "kind") (f2 : Free K C "at") (f3 : Free K C "detail")
    (he : s.heap.get? e = some { cls := .ref C, data := .fields fs }) (hb : BindsTo s fd ⟨args, []⟩ binds) (hroom : A.depth < 1000)
    (hl : ∀ x ∈ binds, fd.scope.names.lookup x.1 = some .local)
    (n0 : fd.scope.names.lookup (("self" : Str)) = some .local) (n1 : fd.scope.names.lookup (("kind" : Str)) = some .local) (n2 : fd.scope.names.lookup (("at" : Str)) = some .local) (n3 : fd.scope.names.lookup (("detail" : Str)) = some .local)
    (l0 : binds.reverse.lookup (("self" : Str)) = some (.ref e)) (l1 : binds.reverse.lookup (("kind" : Str)) = some kv) (l2 : binds.reverse.lookup (("at" : Str)) = some av) (l3 : binds.reverse.lookup (("detail" : Str)) = some dv)
    (h : ∀ h' dx n tk u1 u2 u3 x1 x2 x3, (∀ b o, b ≠ e → s.heap.get? b = some o → h'.get? b = some o) → s.heap.get? dx = none → h'.get? e = some { cls := .ref C, dict := some dx, data := .fields fs } →
      h'.get? dx = some (dictOf [⟨x1, .str "kind" u1, kv⟩, ⟨x2, .str "at" u2, av⟩, ⟨x3, .str "detail" u3, dv⟩] n) → Q .none { s with heap := h', toks := tk }) :
    wpAny (model B.prog B.w) A (call (.ref fI) args []) Q E s := by
  obtain ⟨o, ho, hdat⟩ := F.there
  refine wpAny_call (codeAny_call_def (fd := fd) (binds := binds) hroom (base _ _ ho) hdat (nol.keeps base) (F.code.keeps base) F.body hb F.cell hl (fun h₀ hns hk₀ => ?_) F.co F.gen F.kind)
  have hne : s.heap.objs.size ≠ e := fun z => by rw [← z, none_at_size] at he; cases he
  have kE : ∀ {h : Heap}, (∀ b o, b ≠ e → s.heap.get? b = some o → h.get? b = some o) → K.In h := fun k => kin.keeps fun b o q => k b o (fun z => by rw [z, heK] at q; cases q) (base b o q)
  have he₀ := hk₀ _ _ he
  refine execs_one (store_one F.kind n0 n1 hns l0 l1 (by decide) ?_)
  refine set_first (s := ⟨_, _, _, _, _⟩) (kE fun b o _ q => hk₀ b o q) O f1 he₀ fun h1 tk1 k1 e1 d1 => ⟨rfl, ?_⟩
  have hns1 : h1.Ns s.heap.objs.size (fun x => binds.reverse.lookup x) := Ns_k hns hne k1
  refine execs_one (store_one F.kind n0 n2 hns1 l0 l2 (by decide) ?_)
  have dne : s.heap.get? h₀.objs.size = none := by
    cases q : s.heap.get? h₀.objs.size with
    | none => rfl
    | some o' => have := hk₀ _ _ q; rw [none_at_size] at this; cases this
  have dne' : e ≠ h₀.objs.size := fun z => by rw [z, none_at_size] at he₀; cases he₀
  have lne : s.heap.objs.size ≠ h₀.objs.size := fun z => by
    obtain ⟨o', _, _, q, _⟩ := hns
    rw [z, none_at_size] at q; cases q
  refine set_more (s := ⟨_, _, _, _, _⟩) (kE fun b o hb q => k1 b o hb (hk₀ b o q)) O f2 e1 d1 (fun x hx => by simp at hx; subst hx; rfl) (by simp) fun h2 tk2 s2 d2 => ⟨rfl, ?_⟩
  have e2 := (s2.2 e dne').trans e1
  have hns2 : h2.Ns s.heap.objs.size (fun x => binds.reverse.lookup x) := Ns_k hns1 lne fun b o hb q => (s2.2 b hb).trans q
  have k2 : ∀ b o, b ≠ e → s.heap.get? b = some o → h2.get? b = some o := fun b o hb q => (s2.2 b fun z => by rw [z, dne] at q; cases q).trans (k1 b o hb (hk₀ b o q))
  have i1 : ∀ t : Tok, (Value.str ("kind" : Str) t).isStr ("at" : Str) = false := fun t => by kernel_rfl
  have i2 : ∀ t : Tok, (Value.str ("kind" : Str) t).isStr ("detail" : Str) = false := fun t => by kernel_rfl
  have i3 : ∀ t : Tok, (Value.str ("at" : Str) t).isStr ("detail" : Str) = false := fun t => by kernel_rfl
  refine execs_one (store_one F.kind n0 n3 hns2 l0 l3 (by decide) ?_)
  simp only [putL, i1, Bool.false_eq_true, if_false] at d2
  refine set_more (s := ⟨_, _, _, _, _⟩) (kE k2) O f3 e2 d2 (fun x hx => by simp at hx; rcases hx with rfl | rfl <;> rfl) (by simp) fun h3 tk3 s3 d3 => ⟨rfl, ?_⟩
  simp only [putL, i2, i3, Bool.false_eq_true, if_false] at d3
  refine wpAny_execs_nil ?_
  exact h h3 _ _ _ _ _ _ _ _ _ (fun b o hb q => (s3.2 b fun z => by rw [z, dne] at q; cases q).trans (k2 b o hb q)) dne ((s3.2 e dne').trans e2) d3
end
end Mine

namespace Mine
open PySem PySem.W PySem.Calls PySem.Spec PyProof.Rows Builtin Builtin.ObjectAttr

section
variable {M : Model} {A : Around} {E : Value → Shared → Prop} {env : Env}
theorem raise_made {s : Shared} {x : Sem Value} {Q : Flow → Shared → Prop} (hh : A.handled = none)
    (h : wpAny M A x (fun v s₁ => ∃ e t dd nm q C G N bs sub k0 k1 k2 k3 k5, v = .ref e ∧ s₁.heap.get? C = some (subObj nm q C G N bs sub k0 k1 k2 k3 k5) ∧
      s₁.heap.get? e = some { cls := .ref C, dict := dd, data := .fields #[.ref t, .none, .none, .none, .bool false, .none] } ∧ E (.ref e) s₁) E s) :
    wpAny M A (raiseStmt env (some x) none) Q E s := by
  unfold raiseStmt
  refine wpAny_bind (wpAny_mono h (fun v s₁ h₁ => ?_) fun _ _ x => x)
  obtain ⟨e, t, dd, nm, q, C, G, N, bs, sub, k0, k1, k2, k3, k5, rfl, hC, he, hE⟩ := h₁
  have hcB : (Value.ref C :: .ref G :: bmE).contains (.type "BaseException") = true := by simp [List.contains_cons]
  obtain ⟨hp, g, d, tk, os⟩ := s₁
  repeat (first | with_reducible refine wpAny_loadPart_at he ?_ | with_reducible refine wpAny_loadPart_at hC ?_ | (with_reducible refine wpAny_isSubtype_exc hC ?_; rw [hcB]) | wp_step)
  exact wpAny_raiseNew_none hh hE
end

structure InitOk (B : Bs) (K : Frag) (G fI : Addr) : Prop where
  own : OwnX K B.FE G fI
  kin : K.In B.h
  lim : B.h.NoLimit
  f1 : Free K B.FE "kind"
  f2 : Free K B.FE "at"
  f3 : Free K B.FE "detail"
  isfn : ∃ o, B.h.get? fI = some o ∧ o.cls = .type "function"
  fn : ∃ fd q1 q2 q3 q4 r1 r2 r3 r4 t1 t2 t3 t4, Fn B fI fd [storeStmt "kind" q1 q2 q3 q4, storeStmt "at" r1 r2 r3 r4, storeStmt "detail" t1 t2 t3 t4] ∧
    fd.scope.names.lookup ("self" : Str) = some .local ∧ fd.scope.names.lookup ("kind" : Str) = some .local ∧ fd.scope.names.lookup ("at" : Str) = some .local ∧ fd.scope.names.lookup ("detail" : Str) = some .local ∧
    (∀ s e kv av dv, (∀ b o, B.h.get? b = some o → s.heap.get? b = some o) → BindsTo s fd ⟨[e, kv, av, dv], []⟩ [("self", e), ("kind", kv), ("at", av), ("detail", dv)]) ∧
    ∃ t : Tok, ∀ s e kv av, (∀ b o, B.h.get? b = some o → s.heap.get? b = some o) → BindsTo s fd ⟨[e, kv, av], []⟩ [("self", e), ("kind", kv), ("at", av), ("detail", .str "" t)]

section
variable {B : Bs} {c : Cx} {a a' : AS} {Q Q' : PQ} {X X' : PX} {T : Tab} {s : Shared} {K : Frag} {G fI : Addr}

theorem Rep.made (R : Rep B c T a s) {h' : Heap} (k : ∀ b o, s.heap.get? b = some o → h'.get? b = some o) {dx : Addr} {od : Obj} (hn : s.heap.get? dx = none) (hd : h'.get? dx = some od) (tk : Nat) :
    T.Le (T.put dx od) ∧ Rep B c (T.put dx od) a { s with heap := h', toks := tk } := by
  have hT : T dx = none := by
    cases e : T dx with
    | none => rfl
    | some o => have := R.tab _ _ e; rw [hn] at this; cases this
  have hle := Tab.le_put od hT
  have R' := R.grow k tk
  have ne : ∀ {b : Addr} {o' : Obj}, s.heap.get? b = some o' → b ≠ dx := fun e z => by rw [z, hn] at e; cases e
  refine ⟨hle, ?_⟩
  constructor
  · exact fun b o' e => hle _ _ (R.old b o' e)
  · intro b o' e
    by_cases hb : b = dx
    · subst hb; rw [Tab.put_self] at e; cases e; exact hd
    · rw [Tab.put_ne _ _ hb] at e; exact R'.tab b o' e
  · exact R'.frames
  · intro b hb
    obtain ⟨_, o', ho, _⟩ := R.frames.mem hb
    rw [Tab.put_ne _ _ (ne ho)]; exact R.frs b hb
  · obtain ⟨m, h1, h2⟩ := R'.loc
    exact ⟨m, h1, fun p hp => let ⟨v, e, r⟩ := h2 p hp; ⟨v, e, r.mono hle⟩⟩
  · obtain ⟨m, ⟨o', _, _, ho, _⟩, h2⟩ := R.loc
    rw [Tab.put_ne _ _ (ne ho)]; exact R.loT
  · intro p hp
    obtain ⟨vs, n, h1, h2, h3⟩ := R.sto p hp
    exact ⟨vs, n, k _ _ h1, h2.mono hle, by rw [Tab.put_ne _ _ (ne h1)]; exact h3⟩
  · exact R.nd
  · intro b o' e
    obtain ⟨h1, sl, h2⟩ := R.od b o' e
    exact ⟨by rw [Tab.put_ne _ _ (ne h2)]; exact h1, sl, k _ _ h2⟩
  · exact R.gens
  · exact R.os

theorem dict3 {kv av dv : Value} {x1 x2 x3 : Int} {u1 u2 u3 : Tok} :
    let es : Array DictEntry := (List.toArray [⟨x1, .str "kind" u1, kv⟩, ⟨x2, .str "at" u2, av⟩, ⟨x3, .str "detail" u3, dv⟩])
    dictHas es "kind" kv ∧ dictHas es "at" av ∧ dictHas es "detail" dv := by
  have i1 : ∀ t : Tok, (Value.str ("kind" : Str) t).isStr ("at" : Str) = false := fun t => by kernel_rfl
  have i2 : ∀ t : Tok, (Value.str ("kind" : Str) t).isStr ("detail" : Str) = false := fun t => by kernel_rfl
  have i3 : ∀ t : Tok, (Value.str ("at" : Str) t).isStr ("detail" : Str) = false := fun t => by kernel_rfl
  have j1 : ∀ t : Tok, (Value.str ("kind" : Str) t).isStr ("kind" : Str) = true := fun t => by kernel_rfl
  have j2 : ∀ t : Tok, (Value.str ("at" : Str) t).isStr ("at" : Str) = true := fun t => by kernel_rfl
  have j3 : ∀ t : Tok, (Value.str ("detail" : Str) t).isStr ("detail" : Str) = true := fun t => by kernel_rfl
  have hk : StrKeys (List.toArray [⟨x1, .str "kind" u1, kv⟩, ⟨x2, .str "at" u2, av⟩, ⟨x3, .str "detail" u3, dv⟩] : Array DictEntry) :=
    ((StrKeys.push (es := #[]) (by intro x hx; simp at hx) x1 "kind" u1 kv).push x2 "at" u2 av).push x3 "detail" u3 dv
  refine ⟨⟨hk, ?_⟩, ⟨hk, ?_⟩, hk, ?_⟩ <;> (unfold nsFind findBy; rw [← Array.find?_toList]; simp [List.find?, i1, i2, i3, j1, j2, j3])

/-- making the exception: the call -/
theorem call_exc (ok : c.Ok) (hd : c.A.depth + 4 < 600) (I : InitOk B K G fI) (R : Rep B c T a s) {vs : List Value} {k d : Str} {i : Int} (hv : (∃ t1 t2 t3, vs = [.str k t1, .int i t2, .str d t3]) ∨ (d = "" ∧ ∃ t1 t2, vs = [.str k t1, .int i t2]))
    {P : Value → Shared → Prop} {E : Value → Shared → Prop}
    (h : ∀ T' e s' t dd, T.Le T' → Rep B c T' a s' → Fly B c T' e ⟨k, i, d⟩ s'.heap → s'.heap.get? e = some { cls := .ref B.FE, dict := dd, data := .fields #[.ref t, .none, .none, .none, .bool false, .none] } → P (.ref e) s') : wpAny (model B.prog B.w) c.A (call (.ref B.FE) vs []) P E s := by
  obtain ⟨nm, q, N, bs, sub, k0, k1, k2, k3, k5, hC⟩ := I.own.cls
  obtain ⟨fd, q1, q2, q3, q4, r1, r2, r3, r4, t1, t2, t3, t4, F, n0, n1, n2, n3, b3, tt, b2⟩ := I.fn
  obtain ⟨oI, hoI, hdI⟩ := I.isfn
  have hK : K.In s.heap := I.kin.keeps R.base
  have eN : s.heap.get? (s.heap.objs.size + 1) = none := Heap.get?_none_of_le (Nat.le_succ _)
  have eB : B.h.get? (s.heap.objs.size + 1) = none := by
    cases z : B.h.get? (s.heap.objs.size + 1) with
    | none => rfl
    | some o => have := R.base _ _ z; rw [eN] at this; cases this
  have eT : T (s.heap.objs.size + 1) = none := by
    cases z : T (s.heap.objs.size + 1) with
    | none => rfl
    | some o => have := R.tab _ _ z; rw [eN] at this; cases this
  let h1 := (s.heap.push { cls := .type "tuple", data := .seq vs.toArray }).push { cls := .ref B.FE, data := .fields #[.ref s.heap.objs.size, .none, .none, .none, .bool false, .none] }
  have kh : ∀ b o, s.heap.get? b = some o → h1.get? b = some o := fun b o e => Heap.get?_push_of_some _ (Heap.get?_push_of_some _ e)
  have he : h1.get? (s.heap.objs.size + 1) = some { cls := .ref B.FE, data := .fields #[.ref s.heap.objs.size, .none, .none, .none, .bool false, .none] } :=
    Heap.get?_push_at (by simp [Heap.size_push]) rfl
  obtain ⟨hp, g, dr, tk, os⟩ := s
  have fin : ∀ (binds : List (Str × Value)) (t1 t2 t3 : Tok), binds = [(("self" : Str), (.ref (hp.objs.size + 1) : Value)), ("kind", .str k t1), ("at", .int i t2), ("detail", .str d t3)] → BindsTo ⟨h1, g, dr, tk, os⟩ fd ⟨.ref (hp.objs.size + 1) :: vs, []⟩ binds →
      wpAny (model B.prog B.w) (c.A.under (.builtin "type.__call__" ⟨.ref B.FE :: vs, []⟩)) (call (.ref fI) (.ref (hp.objs.size + 1) :: vs)) (fun r s' => r = .none ∧ P (.ref (hp.objs.size + 1)) s') E ⟨h1, g, dr, tk, os⟩ := by
    intro binds t1 t2 t3 hb bt
    subst hb
    refine init_call (B := B) (s := ⟨h1, g, dr, tk, os⟩) (e := hp.objs.size + 1) (kv := .str k t1) (av := .int i t2) (dv := .str d t3) (fun b o e => kh b o (R.base b o e)) I.kin I.own eB F I.lim I.f1 I.f2 I.f3 he bt ?_ ?_ n0 n1 n2 n3 ?_ ?_ ?_ ?_ ?_
    · show c.A.depth + _ < 1000
      first | (show c.A.depth + 1 < 1000; omega) | (show c.A.depth + 2 < 1000; omega) | (show c.A.depth + 3 < 1000; omega)
    · intro x hx
      simp at hx
      rcases hx with rfl | rfl | rfl | rfl <;> assumption
    · kernel_rfl
    · kernel_rfl
    · kernel_rfl
    · kernel_rfl
    · intro h' dx n tk' u1 u2 u3 x1 x2 x3 kk hdx hee hdd
      refine ⟨rfl, ?_⟩
      have hdx0 : hp.get? dx = none := by
        cases z : hp.get? dx with
        | none => rfl
        | some o => have := kh _ _ z; rw [show h1.get? dx = none from hdx] at this; cases this
      have kk' : ∀ b o, hp.get? b = some o → h'.get? b = some o := fun b o z => kk b o (fun y => by rw [y] at z; rw [show hp.get? (hp.objs.size + 1) = none from eN] at z; cases z) (kh b o z)
      obtain ⟨hle, R'⟩ := R.made kk' hdx0 hdd tk'
      have dne : hp.objs.size + 1 ≠ dx := fun z => by rw [← z] at hdx; rw [he] at hdx; cases hdx
      obtain ⟨D1, D2, D3⟩ := dict3 (kv := .str k t1) (av := .int i t2) (dv := .str d t3) (x1 := x1) (x2 := x2) (x3 := x3) (u1 := u1) (u2 := u2) (u3 := u3)
      refine h _ _ _ _ _ hle R' ⟨_, ⟨by rw [Tab.put_ne _ _ dne]; exact eT, _, dx, _, _, n, t1, t2, t3, hee, rfl, rfl, rfl, rfl, Tab.put_self .., rfl, D1, D2, D3⟩, .inl rfl⟩ hee
  refine sub_call (h := hp) (hK _ _ hC) (looks_findIn (M := model B.prog B.w) hK I.own.init) (R.base _ _ hoI) ?_ ?_ ?_
  · exact hdI
  · rcases hv with ⟨t1, t2, t3, rfl⟩ | ⟨_, t1, t2, rfl⟩ <;> (rw [sizeLine_eq]; simp)
  · rcases hv with ⟨t1, t2, t3, rfl⟩ | ⟨rfl, t1, t2, rfl⟩
    · exact fin _ t1 t2 t3 rfl (b3 _ _ _ _ _ fun b o e => kh b o (R.base b o e))
    · exact fin _ t1 t2 tt rfl (b2 _ _ _ _ fun b o e => kh b o (R.base b o e))

theorem ex_raise {x : Str} {np cpos pos : Pos} {args : List Expr} {ks : List (Str × NameKind)} {Q : PFq} (ok : c.Ok) (hd : c.A.depth + 4 < 600) (hh : c.A.handled = none) (I : InitOk B K G fI)
    (hk : c.Kinds ks) (hx : (x, NameKind.globalImplicit) ∈ ks) (g : GName B x (.ref B.FE)) (hdb : (x == ("__debug__" : Str)) = false) (hplain : (backTo cpos (starEach args c.env)).any (·.1) = false)
    (h : EVs B c args a (fun ds a1 => ∃ k i d, (ds = [.str k, .int i, .str d] ∨ (d = "" ∧ ds = [.str k, .int i])) ∧ X ⟨k, i, d⟩ a1) X)
    (he : ∃ t r, backTo cpos (starEach args c.env) = (false, t) :: r) :
    EX B c (.Raise (some (.Call (.Name x np) args [] cpos)) none pos) a Q X := fun T s R => by
  obtain ⟨nm, q, N, bs, sub, k0, k1, k2, k3, k5, hC⟩ := I.own.cls
  have hCB := I.kin _ _ hC
  have key : wpAny (model B.prog B.w) c.A (eval (.Call (.Name x np) args [] cpos) c.env) (fun v s₁ => ∃ e t dd nm q C G N bs sub k0 k1 k2 k3 k5, v = .ref e ∧ s₁.heap.get? C = some (subObj nm q C G N bs sub k0 k1 k2 k3 k5) ∧
      s₁.heap.get? e = some { cls := .ref C, dict := dd, data := .fields #[.ref t, .none, .none, .none, .bool false, .none] } ∧ PE B c T X (.ref e) s₁) (PE B c T X) s := by
    refine wpAny_Call_ofName (name_glob ok hk hx g hdb R ?_)
    unfold callWith
    have fin : wpAny (model B.prog B.w) c.A (spliced (backTo cpos (starEach args c.env))) (fun vs s₁ => ∃ T1 ds a1, T.Le T1 ∧ Rep B c T1 a1 s₁ ∧ VRs T1 vs ds ∧ ∃ k i d, (ds = [.str k, .int i, .str d] ∨ (d = "" ∧ ds = [.str k, .int i])) ∧ X ⟨k, i, d⟩ a1) (PE B c T X) s :=
      h.use R fun T1 ds a1 vs s1 l R1 r1 q => ⟨T1, ds, a1, l, R1, r1, q⟩
    refine wpAny_bind (wpAny_holding (wpAny_mono (Q := fun a s₂ => a.kw = [] ∧ ∃ T1 ds a1, T.Le T1 ∧ Rep B c T1 a1 s₂ ∧ VRs T1 a.pos ds ∧ ∃ k i d, (ds = [.str k, .int i, .str d] ∨ (d = "" ∧ ds = [.str k, .int i])) ∧ X ⟨k, i, d⟩ a1) ?_ (fun a s₂ h₂ => wpAny_bind (wpAny_standAt ?_)) fun _ _ x => x))
    · obtain ⟨t, r, he⟩ := he
      rw [he] at fin ⊢
      exact evalArgs_plain (wpAny_mono fin (fun vs s' z => ⟨rfl, z⟩) fun _ _ x => x)
    obtain ⟨apos, akw⟩ := a
    obtain ⟨hkw, T1, ds, a1, l1, R1, r1, k, i, d, hds, q⟩ := h₂
    obtain rfl : akw = [] := hkw
    simp only [hplain]
    have hv : (∃ t1 t2 t3, apos = [.str k t1, .int i t2, .str d t3]) ∨ (d = "" ∧ ∃ t1 t2, apos = [.str k t1, .int i t2]) := by
      rcases hds with rfl | ⟨rfl, rfl⟩
      · refine .inl ?_
        obtain ⟨v1, r, rfl, a1', b⟩ := r1.icons; obtain ⟨v2, v3, rfl, a2', a3'⟩ := vrs2 b
        obtain ⟨t1, rfl⟩ := a1'.inv; obtain ⟨t2, rfl⟩ := a2'.inv; obtain ⟨t3, rfl⟩ := a3'.inv
        exact ⟨_, _, _, rfl⟩
      · refine .inr ⟨rfl, ?_⟩
        obtain ⟨v1, v2, rfl, a1', a2'⟩ := vrs2 r1
        obtain ⟨t1, rfl⟩ := a1'.inv; obtain ⟨t2, rfl⟩ := a2'.inv
        exact ⟨_, _, rfl⟩
    obtain ⟨hp, gg, dd, tk, os⟩ := s₂
    refine wpAny_bind (wpAny_keeperOf_exc (R1.base _ _ hCB) ?_)
    refine wpAny_bind (call_exc ok hd I R1 hv fun T' e s' t dd l2 R2 F2 e2 => wpAny_bind (wpAny_holding (wpAny_point (wpAny_pure ?_))))
    exact ⟨e, t, dd, _, _, B.FE, _, _, _, _, _, _, _, _, _, rfl, R2.base _ _ hCB, e2, T', _, a1, e, l1.trans l2, R2, rfl, F2, q⟩
  rw [arm_exec_Raise]
  first
    | exact wpAny_bind (wpAny_standAt (raise_made hh (wpAny_bind (wpAny_mono key (fun v s₃ h₃ => wpAny_bind (wpAny_standAt (wpAny_pure h₃))) fun _ _ x => x))))
    | (simp only [evalOpt, Option.map]; exact wpAny_bind (wpAny_standAt (raise_made hh (wpAny_bind (wpAny_mono key (fun v s₃ h₃ => wpAny_bind (wpAny_standAt (wpAny_pure h₃))) fun _ _ x => x)))))
    | skip
end
end Mine

namespace Mine
open PySem PySem.W PySem.Calls PySem.Spec PyProof.Rows Builtin Builtin.ObjectAttr

section
variable {B : Bs} {c : Cx} {a a' : AS} {Q Q' : PQ} {X X' : PX} {T : Tab} {s : Shared} {K : Frag} {G fI : Addr}

theorem Rep.putF (R : Rep B c T a s) (ok : c.Ok) {x : Addr} {o : Obj} {fs : Array Value} (hx : s.heap.get? x = some o) (hd : o.data = .fields fs) (hT : T x = none) : T.Le (T.put x o) ∧ Rep B c (T.put x o) a s := by
  obtain ⟨n1, n2, n3⟩ := R.apartF ok hx hd
  have hle := Tab.le_put o hT
  refine ⟨hle, ?_⟩
  constructor
  · exact fun b o' e => hle _ _ (R.old b o' e)
  · intro b o' e
    by_cases hb : b = x
    · subst hb; rw [Tab.put_self] at e; cases e; exact hx
    · rw [Tab.put_ne _ _ hb] at e; exact R.tab b o' e
  · exact R.frames
  · intro b hb
    rw [Tab.put_ne _ _ (fun e => n3 (by rw [← e]; exact hb))]; exact R.frs b hb
  · obtain ⟨m, h1, h2⟩ := R.loc
    exact ⟨m, h1, fun p hp => let ⟨v, e, r⟩ := h2 p hp; ⟨v, e, r.mono hle⟩⟩
  · rw [Tab.put_ne _ _ (Ne.symm n1)]; exact R.loT
  · intro p hp
    obtain ⟨vs, n, h1, h2, h3⟩ := R.sto p hp
    exact ⟨vs, n, h1, h2.mono hle, by rw [Tab.put_ne _ _ (fun e => by rw [e, hx] at h1; cases h1; cases hd)]; exact h3⟩
  · exact R.nd
  · intro b o' e
    obtain ⟨h1, sl, h2⟩ := R.od b o' e
    exact ⟨by rw [Tab.put_ne _ _ (fun z => by rw [z, n2] at e; cases e)]; exact h1, sl, h2⟩
  · exact R.gens
  · exact R.os

/-- the locals change, and nothing is known of them -/
theorem Rep.anyLoc (R : Rep B c T a s) (ok : c.Ok) {h' : Heap} {m' : Str → Option Value} (hn : h'.Ns c.env.locals m') (hs : Heap.SameBut c.env.locals s.heap h') (tk : Nat) : Rep B c T ⟨[], a.sto⟩ { s with heap := h', toks := tk } := by
  have k : ∀ b o, b ≠ c.env.locals → s.heap.get? b = some o → h'.get? b = some o := fun b o hb e => (hs.2 b hb).trans e
  obtain ⟨m, ⟨o', es, ep, ho', hd', _⟩, _⟩ := R.loc
  constructor
  · exact R.old
  · exact fun b o e => k b o (fun z => by rw [z, R.loT] at e; cases e) (R.tab b o e)
  · have : ∀ {l : List Env}, s.heap.FunFrames B.h l → h'.FunFrames B.h l := by
      intro l
      induction l with
      | nil => intro _; trivial
      | cons env r ih =>
        rintro ⟨hk, ⟨L, o, hf, hn', ho, hd⟩, hr⟩
        by_cases hL : L = c.env.locals
        · obtain ⟨o2, es2, ep2, ho2, hd2, _⟩ := hn
          exact ⟨hk, ⟨L, o2, hf, hn', hL ▸ ho2, fun vs e => by rw [hd2] at e; cases e⟩, ih hr⟩
        · exact ⟨hk, ⟨L, o, hf, hn', k L o hL ho, hd⟩, ih hr⟩
    exact this R.frames
  · exact R.frs
  · exact ⟨m', hn, fun p hp => nomatch hp⟩
  · exact R.loT
  · intro p hp
    obtain ⟨ws, n, h1, h2, h3⟩ := R.sto p hp
    exact ⟨ws, n, k _ _ (R.apart ok h1).1 h1, h2, h3⟩
  · exact R.nd
  · intro b o e
    obtain ⟨h1, sl, h2⟩ := R.od b o e
    exact ⟨h1, sl, k _ _ (fun z => by rw [z, ok.odL] at e; cases e) h2⟩
  · exact R.gens
  · exact R.os

theorem Rep.at (R : Rep B c T a s) {c' : Cx} (h1 : c'.env = c.env) (h2 : c'.fr = c.fr) (h3 : c'.od = c.od) : Rep B c' T a s := by
  obtain ⟨A, env, fr, od⟩ := c
  obtain ⟨A', env', fr', od'⟩ := c'
  cases h1; cases h2; cases h3
  exact ⟨R.old, R.tab, R.frames, R.frs, R.loc, R.loT, R.sto, R.nd, R.od, R.gens, R.os⟩

/-- the same place, with another handled exception -/
structure Marked (c c2 : Cx) : Prop where
  ok : c2.Ok
  env : c2.env = c.env
  fr : c2.fr = c.fr
  od : c2.od = c.od
  depth : c2.A.depth = c.A.depth
  units : c2.A.units = c.A.units

theorem marked (ok : c.Ok) (v : Option Value) : Marked c ⟨c.A.mark v, c.env, c.fr, c.od⟩ :=
  ⟨⟨ok.frames, ok.guards, ok.depth, ok.units, ok.cov, ok.odL, ok.odD, ok.kind, ok.glob, ok.blt⟩, rfl, rfl, rfl, rfl, rfl⟩

theorem ex_try {body suite : List Stmt} {b₀ : Stmt} {x n : Str} {np pos pos' : Pos} {L : Addr} {ks : List (Str × NameKind)} {Q : PFq} (ok : c.Ok) (hL : c.env.frame = some L) (hfr : ∃ r, c.fr = c.env :: r) (I : InitOk B K G fI)
    (hk : c.Kinds ks) (hx : (x, NameKind.globalImplicit) ∈ ks) (hn : (n, NameKind.local) ∈ ks) (g : GName B x (.ref B.FE)) (hdb : (x == ("__debug__" : Str)) = false)
    (h : EXs B c body a Q fun xv a1 => ∀ c2, Marked c c2 → ∃ l', LSet n (.exc B.FE xv.kind xv.at_ xv.det) a1.loc l' ∧ EXs B c2 (b₀ :: suite) ⟨l', a1.sto⟩ (fun f a2 => Q f ⟨[], a2.sto⟩) (fun _ _ => False)) :
    EX B c (.Try body [.ExceptHandler (some (.Name x np)) (some n) (b₀ :: suite) pos] [] [] pos') a Q X := fun T s R => by
  have hnc : (c.env.scope.kind == .class || (c.env.scope.kind == .module && c.env.locals != c.env.globals)) = false := by rw [ok.kind]; rfl
  refine wpAny_Try_except (wpAny_mono (h T s R) (fun f s1 hq_ => ?_) (fun ev s1 ⟨T1, xv, a1, e, l1, R1, he, F1, q1⟩ => ?_))
  obtain ⟨T1, d, a1, l1, R1, r1, q1⟩ := hq_
  · cases r1 with
    | next => exact wpAny_execs_nil ⟨T1, _, a1, l1, R1, .next, q1⟩
    | brk => exact ⟨T1, _, a1, l1, R1, .brk, q1⟩
    | cont => exact ⟨T1, _, a1, l1, R1, .cont, q1⟩
    | ret r => exact ⟨T1, _, a1, l1, R1, .ret r, q1⟩
  subst he
  refine note_fly ok R1 F1 hL hfr fun s2 fs R2 F2 tb2 => ?_
  refine flight_fly (f := none) ok R2 F2 tb2 fun s3 R3 F3 tb3 => ?_
  obtain ⟨nm, q, N, bs, sub, k0, k1, k2, k3, k5, hC⟩ := I.own.cls
  have M := marked ok (some (.ref e))
  obtain ⟨l', u, hs⟩ := q1 _ M
  refine wpAny_handleBy_cons (codeAny_handlers_test ?_) (by intro q; cases q)
  have nameIt : ∀ {P E : Value → Shared → Prop}, P (.ref B.FE) s3 → wpAny (model B.prog B.w) (c.A.mark (some (.ref e))) (eval (.Name x np) c.env) P E s3 := fun {P E} hp =>
    name_glob (c := ⟨c.A.mark (some (.ref e)), c.env, c.fr, c.od⟩) (T := T1) (a := a1) M.ok hk hx g hdb (R3.at rfl rfl rfl) hp
  refine nameIt ?_
  obtain ⟨hp3, g3, d3, tk3, os3⟩ := s3
  obtain ⟨oe, dx, od, es, nn, t1, t2, t3, e1, e2, e3, e4, e5, e6, e7, D1, D2, D3⟩ := id F3.there
  refine wpAny_excMatches_sub_self (bm := .ref G :: bmE) (R3.base _ _ (I.kin _ _ hC)) e1 e2 (by simp [List.contains_cons]) ?_
  show codeAny _ _ _ _ _
  refine codeAny_handlers_suite_as ?_
  refine flight_fly (c := ⟨c.A.mark (some (.ref e)), c.env, c.fr, c.od⟩) (f := none) M.ok (R3.at rfl rfl rfl) F3 tb3 fun s4 R4 F4 tb4 => ?_
  obtain ⟨oe, dx, od, es, nn, t1, t2, t3, e1, e2, e3, e4, e5, e6, e7, D1, D2, D3⟩ := id F4.there
  obtain ⟨l5, R5⟩ := R4.putF M.ok e1 e4 F4.out
  have dne : dx ≠ e := fun z => by have := F4.out; rw [← z, e6] at this; cases this
  have hv : VR (T1.put e oe) (.ref e) (.exc B.FE xv.kind xv.at_ xv.det) := .exc (Tab.put_self ..) e2 e3 e4 (by rw [Tab.put_ne _ _ dne]; exact e6) e7 D1 D2 D3
  have hm := R5.loc
  obtain ⟨m, hm⟩ := hm
  refine wpAny_storeName_local (hk _ hn) hm.1 (fun h6 n6 s6 => ?_) hnc
  have R6 := R5.setLoc M.ok u hv hm n6 s6 (s4.toks + 1)
  refine wpAny_mono (hs _ _ R6) (fun f s7 hq_ => ?_) (fun _ _ ⟨_, _, _, _, _, _, _, _, z⟩ => z.elim)
  obtain ⟨T7, d7, a7, l7, R7, r7, q7⟩ := hq_
  obtain ⟨m7, hm7, _⟩ := R7.loc
  refine wpAny_nameGoes (hk _ hn) hm7 hnc fun h8 m8 n8 s8 => ?_
  exact ⟨T7, d7, _, (l1.trans l5).trans l7, (R7.anyLoc M.ok n8 s8 _).at rfl rfl rfl, r7, q7⟩
end
end Mine

namespace Mine
open PySem PySem.W PySem.Calls PySem.Spec PyProof.Rows Builtin Builtin.ObjectAttr
section
variable {B : Bs} {c : Cx} {a a' : AS} {Q Q' : PQ} {X X' : PX} {T : Tab} {s : Shared} {K : Frag} {G fI : Addr}

theorem lookIn_of {od : Obj} {es : Array DictEntry} {n : Nat} {x : Str} {v : Value} (h : od.data = .dict es n) (hd : dictHas es x v) : lookIn x od = some (some v) := by
  unfold lookIn
  rw [h]
  have := hd.2
  unfold nsFind findBy at this
  rw [← Array.find?_toList] at this
  dsimp only
  cases q : es.toList.find? (fun e => e.key.isStr x) with
  | none => rw [q] at this; cases this
  | some e => rw [q] at this; cases this; rfl

theorem ev_attr {x n : Str} {np pos : Pos} {k d : Str} {i : Int} {dv : AV} {ks : List (Str × NameKind)} (ok : c.Ok) (I : InitOk B K G fI) (hk : c.Kinds ks) (hn : (n, NameKind.local) ∈ ks) (hm : (n, .exc B.FE k i d) ∈ a.loc) (hdb : (n == ("__debug__" : Str)) = false)
    (hx : (x = "kind" ∧ dv = .str k) ∨ (x = "at" ∧ dv = .int i) ∨ (x = "detail" ∧ dv = .str d)) (q : Q dv a) : EV B c (.Attribute (.Name n np) x pos) a Q X := fun T s R => by
  obtain ⟨m, hns, hl⟩ := R.loc
  obtain ⟨v, hv, hr⟩ := hl _ hm
  refine Attribute_name (wpAny_Name (wpAny_loadName_local ok.kind (hk _ hn) hns hv ?_) hdb)
  cases hr with
  | exc e1 e2 e3 e4 e6 e7 D1 D2 D3 =>
    rename_i e dx oe od fs es nn t1 t2 t3
    have X : K.In s.heap := I.kin.keeps R.base
    obtain ⟨cd, hc, _, hcd⟩ := I.own.clsIn
    have hh : hasDictIn K B.FE = true := by unfold hasDictIn; rw [hc]; exact hcd
    have J : InstAt s.heap e oe B.FE (some od) := ⟨R.tab _ _ e1, e2, by unfold notCls; rw [e4], by rw [e3]; exact R.tab _ _ e6⟩
    rcases hx with ⟨rfl, rfl⟩ | ⟨rfl, rfl⟩ | ⟨rfl, rfl⟩
    · exact get_exc X I.own J (findObj_own hh I.f1 rfl (lookIn_of e7 D1)) rfl (pv0 (R.toks _) (.str _ _) q)
    · exact get_exc X I.own J (findObj_own hh I.f2 rfl (lookIn_of e7 D2)) rfl (pv0 (R.toks _) (.int _ _) q)
    · exact get_exc X I.own J (findObj_own hh I.f3 rfl (lookIn_of e7 D3)) rfl (pv0 (R.toks _) (.str _ _) q)
end
end Mine

namespace Mine
open PySem PySem.W PySem.Calls PySem.Spec PyProof.Rows Builtin Builtin.ObjectAttr
section
variable {B : Bs} {c cc : Cx} {a a' : AS} {Q Q' : PQ} {X X' : PX} {T T' : Tab} {s : Shared}

/-- an object that the abstract state does not speak of -/
noncomputable def Apart (c : Cx) (T : Tab) (a : AS) (C : Addr) : Prop := T C = none ∧ C ∉ a.sto.map (·.1) ∧ c.od C = none ∧ C ∉ c.fr.filterMap (·.frame) ∧ C ≠ c.env.locals

theorem Rep.other (R : Rep B c T a s) {C : Addr} (ap : Apart c T a C) {h' : Heap} (hs : Heap.SameBut C s.heap h') : Rep B c T a { s with heap := h' } := by
  obtain ⟨a1, a2, a3, a4, a5⟩ := ap
  have k : ∀ b o, b ≠ C → s.heap.get? b = some o → h'.get? b = some o := fun b o hb e => (hs.2 b hb).trans e
  constructor
  · exact R.old
  · exact fun b o e => k b o (fun z => by rw [z, a1] at e; cases e) (R.tab b o e)
  · have : ∀ {l : List Env}, (∀ b ∈ l.filterMap (·.frame), b ∈ c.fr.filterMap (·.frame)) → s.heap.FunFrames B.h l → h'.FunFrames B.h l := by
      intro l
      induction l with
      | nil => intro _ _; trivial
      | cons env r ih =>
        rintro hl ⟨hk, ⟨L, o, hf, hn, ho, hd⟩, hr⟩
        refine ⟨hk, ⟨L, o, hf, hn, k L o (fun e => a4 ?_) ho, hd⟩, ih (fun b hb => hl b ?_) hr⟩
        · rw [← e]; exact hl L (by simp [hf])
        · rw [List.filterMap_cons]; cases env.frame with
          | none => exact hb
          | some _ => exact .tail _ hb
    exact this (fun _ h => h) R.frames
  · exact R.frs
  · obtain ⟨m, h1, h2⟩ := R.loc
    exact ⟨m, h1.sameBut hs (Ne.symm a5), h2⟩
  · exact R.loT
  · intro p hp
    obtain ⟨ws, n, h1, h2, h3⟩ := R.sto p hp
    exact ⟨ws, n, k _ _ (fun z => a2 (by rw [← z]; exact List.mem_map_of_mem hp)) h1, h2, h3⟩
  · exact R.nd
  · intro b o e
    obtain ⟨h1, sl, h2⟩ := R.od b o e
    exact ⟨h1, sl, k _ _ (fun z => by rw [z, a3] at e; cases e) h2⟩
  · exact R.gens
  · exact R.os

/-- the context of a comprehension -/
structure CompCx (c cc : Cx) (scope : Scope) : Prop where
  ok : cc.Ok
  A : cc.A = c.A
  scope : cc.env.scope = scope

theorem Rep.comp (R : Rep B c T a s) (ok : c.Ok) {h₀ : Heap} {scope : Scope} {C : Addr} {m : Str → Option Value} (hkind : scope.kind = .function) (hC : s.heap.get? C = none) (hn : h₀.Ns C m) (k : ∀ b o, s.heap.get? b = some o → h₀.get? b = some o) {oL : Obj} (hL : s.heap.get? c.env.locals = some oL) (tk : Nat) :
    Rep B ⟨c.A, compEnv scope C c.env, c.fr, c.od.put c.env.locals oL⟩ T ⟨[], a.sto⟩ { s with heap := h₀, toks := tk } ∧ CompCx c ⟨c.A, compEnv scope C c.env, c.fr, c.od.put c.env.locals oL⟩ scope := by
  have R' := R.grow k tk
  have cL : C ≠ c.env.locals := fun z => by rw [← z, hC] at hL; cases hL
  have hTC : T C = none := by
    cases e : T C with
    | none => rfl
    | some o => have := R.tab _ _ e; rw [hC] at this; cases this
  obtain ⟨m0, ⟨oL', es, ep, hL', hLd, _⟩, _⟩ := id R.loc
  rw [hL] at hL'; cases hL'
  constructor
  · constructor
    · exact R'.old
    · exact R'.tab
    · exact R'.frames
    · exact R'.frs
    · exact ⟨m, hn, fun p hp => nomatch hp⟩
    · exact hTC
    · exact R'.sto
    · exact R.nd
    · intro b o e
      have e : (c.od.put c.env.locals oL) b = some o := e
      by_cases hb : b = c.env.locals
      · subst hb; rw [Tab.put_self] at e; cases e
        exact ⟨R.loT, oL.slots, k _ _ hL⟩
      · rw [Tab.put_ne _ _ hb] at e; exact R'.od b o e
    · exact R.gens
    · exact R.os
  · refine ⟨⟨ok.frames, ok.guards, ok.depth, ok.units, ?_, ?_, ?_, hkind, ok.glob, ok.blt⟩, rfl, rfl⟩
    · intro b hb
      rcases ok.cov b hb with rfl | ⟨o', e⟩
      · exact .inr ⟨oL, Tab.put_self ..⟩
      · refine .inr ⟨o', ?_⟩
        show (c.od.put c.env.locals oL) b = _
        rw [Tab.put_ne _ _ (fun z => by rw [z, ok.odL] at e; cases e)]; exact e
    · show (c.od.put c.env.locals oL) C = none
      rw [Tab.put_ne _ _ cL]
      cases e : c.od C with
      | none => rfl
      | some o' => obtain ⟨_, sl, q⟩ := R.od _ _ e; rw [hC] at q; cases q
    · intro b o' e
      have e : (c.od.put c.env.locals oL) b = some o' := e
      by_cases hb : b = c.env.locals
      · subst hb; rw [Tab.put_self] at e; cases e; exact ⟨es, ep, hLd⟩
      · rw [Tab.put_ne _ _ hb] at e; exact ok.odD b o' e

theorem Rep.uncomp {oL : Obj} {A' : Around} {env : Env} {s' : Shared} (R : Rep B c T a s) (ok : c.Ok) (R' : Rep B ⟨A', env, c.fr, c.od.put c.env.locals oL⟩ T' a' s') (cOk : (⟨A', env, c.fr, c.od.put c.env.locals oL⟩ : Cx).Ok) (hT : T.Le T') (hL : s.heap.get? c.env.locals = some oL) :
    Rep B c T' ⟨a.loc, a'.sto⟩ s' ∧ Apart c T' ⟨a.loc, a'.sto⟩ env.locals := by
  have hLo : (c.od.put c.env.locals oL) c.env.locals = some oL := Tab.put_self ..
  obtain ⟨hTL, sl, hL'⟩ := R'.od _ _ hLo
  have ne : env.locals ≠ c.env.locals := fun z => by have := cOk.odL; change (c.od.put c.env.locals oL) env.locals = none at this; rw [z, hLo] at this; cases this
  have odN : c.od env.locals = none := by
    have := cOk.odL; change (c.od.put c.env.locals oL) env.locals = none at this; rw [Tab.put_ne _ _ ne] at this; exact this
  constructor
  · constructor
    · exact R'.old
    · exact R'.tab
    · exact R'.frames
    · exact R'.frs
    · obtain ⟨m, ⟨o, es, ep, ho, hd, r⟩, h2⟩ := R.loc
      rw [hL] at ho; cases ho
      exact ⟨m, ⟨_, es, ep, hL', hd, r⟩, fun p hp => let ⟨v, e, q⟩ := h2 p hp; ⟨v, e, q.mono hT⟩⟩
    · exact hTL
    · exact R'.sto
    · exact R'.nd
    · intro b o e
      refine R'.od b o ?_
      show (c.od.put c.env.locals oL) b = _
      rw [Tab.put_ne _ _ (fun z => by rw [z, ok.odL] at e; cases e)]; exact e
    · exact R'.gens
    · exact R'.os
  · refine ⟨R'.loT, fun hm => ?_, odN, fun hm => ?_, ne⟩
    · obtain ⟨p, hp, e⟩ := List.mem_map.mp hm
      obtain ⟨ws, n, h1, _⟩ := R'.sto p hp
      obtain ⟨m, ⟨o, es, ep, ho, hd, _⟩, _⟩ := R'.loc
      rw [e] at h1
      rw [show s'.heap.get? env.locals = some o from ho] at h1
      cases h1; cases hd
    · rcases ok.cov _ hm with z | ⟨o, z⟩
      · exact ne z
      · rw [odN] at z; cases z

/-- an assignment to a target -/
noncomputable def TA (B : Bs) (c : Cx) (tgt : Expr) (d : AV) (a a' : AS) : Prop := ∀ T s v (P : Unit → Shared → Prop) E, Rep B c T a s → VR T v d → (∀ s', Rep B c T a' s' → P () s') → wpAny (model B.prog B.w) c.A (assign tgt c.env v) P E s
theorem ta_name {x : Str} {px : Pos} {d : AV} {l' : List (Str × AV)} {ks : List (Str × NameKind)} (ok : c.Ok) (hk : c.Kinds ks) (hx : (x, NameKind.local) ∈ ks) (u : LSet x d a.loc l') : TA B c (.Name x px) d a ⟨l', a.sto⟩ :=
  fun T s v P E R hv k => wpAny_assign_Name (store_local ok hk hx R hv u fun s' R' => k s' R')
theorem ta_pair {x y : Str} {px py tp : Pos} {k : Nat} {d1 d2 : AV} {l1 l2 : List (Str × AV)} {ks : List (Str × NameKind)} (ok : c.Ok) (hh : c.A.handled = none) (hk : c.Kinds ks) (hx : (x, NameKind.local) ∈ ks) (hy : (y, NameKind.local) ∈ ks)
    (u1 : LSet x d1 a.loc l1) (u2 : LSet y d2 l1 l2) : TA B c (.Tuple [.Name x px, .Name y py] k tp) (.tup [d1, d2]) a ⟨l2, a.sto⟩ := fun T s v P E R hv kk => by
  cases hv with
  | @tup z vs n _ ho rs =>
  obtain ⟨v1, v2, rfl, r1, r2⟩ := vrs2 rs
  show wpAny _ _ (do standAt tp; unpack (.ref z) [(false, assign (.Name x px) c.env), (false, assign (.Name y py) c.env)]) _ _ _
  refine wpAny_bind (wpAny_standAt (wpAny_unpack_tuple (items := [v1, v2].toArray) hh ⟨_, R.tab _ _ ho, rfl, _, rfl⟩ rfl rfl fun h' hx' => ?_))
  have R2 : Rep B c T a { s with heap := h' } := R.grow (fun b o e => hx' b o (Nat.ne_of_lt (Heap.lt_size e)) e) s.toks
  refine PyProof.Rows.assignInOrder_cons (wpAny_assign_Name (store_local ok hk hx R2 r1 u1 fun s3 R3 => ?_))
  refine PyProof.Rows.assignInOrder_cons (wpAny_assign_Name (store_local (a := ⟨l1, a.sto⟩) ok hk hy R3 r2 u2 fun s4 R4 => ?_))
  exact PyProof.Rows.assignInOrder_nil (kk s4 R4)

theorem letPair {elt : Expr} {I : Addr} {o : Obj} {v : Value} {A : Around} {P : Unit → Shared → Prop} {E : Value → Shared → Prop} (ho : s.heap.get? I = some o) (hi : IterObj o) (h : P () s) : wpAny (model B.prog B.w) A (letOwnedTupleGo elt (.ref I) v) P E s := by
  obtain ⟨⟨nm, hc, _, _, _, hp⟩, fs, hd⟩ := hi
  unfold ownsPair at hp
  unfold letOwnedTupleGo
  split
  · split
    · rename_i hq
      cases hq
      refine wpAny_bind (wpAny_load ho ?_)
      rw [hc, hd]
      simp only [hp, Bool.false_and]
      exact wpAny_pure h
    · exact wpAny_pure h
  · split
    · rename_i hq
      cases hq
      refine wpAny_bind (wpAny_load ho ?_)
      rw [hc, hd]
      simp only [hp, Bool.false_and]
      exact wpAny_pure h
    · exact wpAny_pure h
  · exact wpAny_pure h

/-- one element of a comprehension -/
noncomputable def EltP (B : Bs) (c : Cx) (scope : Scope) (tgt elt : Expr) (f : AV → AV) (ds : List AV) : Prop := ∀ cc, CompCx c cc scope → ∀ sto, ∀ d ∈ ds, ∃ l', TA B cc tgt d ⟨[], sto⟩ ⟨l', sto⟩ ∧ EV B cc elt ⟨l', sto⟩ (fun dv a1 => dv = f d ∧ a1.sto = sto) (fun _ _ => False)

end
end Mine

namespace Mine
open PySem PySem.W PySem.Calls PySem.Spec PyProof.Rows Builtin Builtin.ObjectAttr
section
variable {B : Bs} {c cc : Cx} {a a' : AS} {Q Q' : PQ} {X X' : PX} {T T' : Tab} {s : Shared}

theorem comp_loop {tgt elt iter : Expr} {scope : Scope} {pos : Pos} {f : AV → AV} {ds : List AV} {I D : Addr} {fp : List Addr} {P : Nat → Value → Prop} {St : Nat → Heap → Prop} {sto : List (Addr × List AV)} {RR : Result → Shared → Prop} {T0 : Tab}
    (ok : cc.Ok) (hh : cc.A.handled = none) (W : IterAt B T0 I fp P St ds) (hT0 : T0.Le T) (hIT : T I = none) (hIB : B.h.get? I = none) (hlen : ds.length < 2 ^ 20)
    (he : ∀ sto, ∀ d ∈ ds, ∃ l', TA B cc tgt d ⟨[], sto⟩ ⟨l', sto⟩ ∧ EV B cc elt ⟨l', sto⟩ (fun dv a1 => dv = f d ∧ a1.sto = sto) (fun _ _ => False))
    (R : Rep B cc T ⟨[], (D, []) :: sto⟩ s) (st : St 0 s.heap)
    (hRR : ∀ T' s', T.Le T' → Rep B cc T' ⟨[], (D, ds.map f) :: sto⟩ s' → RR (.ok .next) s') :
    codeAny (model B.prog B.w) cc.A (.compLoop (.ListComp elt [⟨tgt, iter, [], 0⟩] scope pos) 0 (.ref I) (.ref D) cc.env) RR s := by
  refine codeAny_loop rfl (fun m s' => ∃ i T', i + m = ds.length ∧ T.Le T' ∧ T' I = none ∧ Rep B cc T' ⟨[], (D, (ds.take i).map f) :: sto⟩ s' ∧ St i s'.heap) (fun m s' hI => ?_) ds.length ⟨0, T, by omega, .refl _, hIT, by simpa using R, st⟩
  obtain ⟨i, T', him, hle, hI', R', st'⟩ := hI
  show wpAny _ _ ((compTurn (.ListComp elt [⟨tgt, iter, [], 0⟩] scope pos) 0 (.ref I) (.ref D) cc.env).onRaise (fun x => do noteFrame x cc.env; theTreesLotGoes x)) _ _ _
  refine wpAny_noted ?_
  rw [compTurn_list1]
  refine wpAny_bind (wpAny_standAt (wpAny_bind ?_))
  obtain ⟨oI, hoI, hiter⟩ := W.obj _ _ st'
  obtain ⟨_, fsI, hdI⟩ := id hiter
  have WA := W.walks cc.A hh
  by_cases hlt : i < ds.length
  · refine WA.item i s' _ _ hlt st' fun v h' tk hP st'' hk' => ?_
    have R3 := R'.ext ok hoI hdI hI' hk' tk
    obtain ⟨oJ, hoJ, hiterJ⟩ := W.obj _ _ st''
    obtain ⟨_, fsJ, hdJ⟩ := id hiterJ
    have R4 := R3.tabF ok hoJ hdJ hI'
    have hle4 : T'.Le (T'.put I oJ) := Tab.le_put _ hI'
    have hd : ds[i]? = some ds[i] := by simp [hlt]
    have hv : VR (T'.put I oJ) v ds[i] := ((W.item i v _ hP hd).mono (hT0.trans hle)).mono hle4
    obtain ⟨l', ta, ev⟩ := he ((D, (ds.take i).map f) :: sto) ds[i] (List.getElem_mem hlt)
    refine wpAny_bind (letPair (s := ⟨_, _, _, _, _⟩) hoJ hiterJ ?_)
    refine wpAny_bind (ta _ _ _ _ _ R4 hv fun s5 R5 => ?_)
    refine wpAny_bind (wpAny_bind (wpAny_mono (ev _ _ R5) (fun w s6 ⟨T6, d6, a6, l6, R6, r6, q6, q7⟩ => ?_) fun _ _ ⟨_, _, _, _, _, _, _, _, z⟩ => z.elim))
    subst q6
    have u : SUpd D ((ds.take i).map f) ((ds.take i).map f ++ [f ds[i]]) a6.sto ((D, (ds.take i).map f ++ [f ds[i]]) :: sto) := by rw [q7]; exact .head
    have tm := tm_append (B := B) (X := fun _ _ => False) (Q := fun d a7 => a7 = ⟨a6.loc, (D, (ds.take i).map f ++ [f ds[i]]) :: sto⟩) ok u (by simp; omega) rfl
    refine wpAny_bind (wpAny_mono (tm T6 s6 (.ref D) [w] R6 (.ref D) (.one r6)) (fun _ s7 ⟨T7, d7, a7, l7, R7, r7, q8⟩ => ?_) fun _ _ ⟨_, _, _, _, _, _, _, _, z⟩ => z.elim)
    subst q8
    have hJ7 : T7 I = some oJ := l7 _ _ (l6 _ _ (Tab.put_self ..))
    have R8 := R7.del hJ7 hiterJ hIB
    have l8 : T.Le (T7.del I) := Tab.le_del (((hle.trans hle4).trans l6).trans l7) hIT
    have st8 : St (i + 1) s7.heap := by
      refine WA.frame (i + 1) h' s7.heap st'' fun b hb o ho => ?_
      rcases W.fp b hb with rfl | ⟨ob, hob⟩
      · rw [hoJ] at ho; cases ho; exact R7.tab _ _ hJ7
      · have e1 : T7 b = some ob := l7 _ _ (l6 _ _ (hle4 _ _ (hle _ _ (hT0 _ _ hob))))
        have e2 := R7.tab _ _ e1
        have e3 := R4.tab _ _ (hle4 _ _ (hle _ _ (hT0 _ _ hob)))
        rw [show h'.get? b = some o from ho] at e3
        cases e3; exact e2
    have R9 := R8.weaken (a' := ⟨[], (D, (ds.take (i + 1)).map f) :: sto⟩) (fun p hp => nomatch hp) (by
      rw [show (ds.take (i + 1)).map f = (ds.take i).map f ++ [f ds[i]] from by rw [List.take_succ_eq_append_getElem hlt, List.map_append]; rfl]
      exact List.Sublist.refl _)
    exact wpAny_pure (wpAny_pure ⟨rfl, m - 1, by omega, i + 1, _, by omega, l8, Tab.del_self .., R9, st8⟩)
  · have hend : i = ds.length := by omega
    subst hend
    refine WA.done s' _ _ st' fun h' tk hk => ?_
    have R3 := R'.ext ok hoI hdI hI' hk tk
    rw [List.take_length] at R3
    exact wpAny_pure (hRR T' _ hle R3)

theorem comp_block {tgt elt iter : Expr} {scope : Scope} {pos : Pos} {f : AV → AV} {ds : List AV} {I : Addr} {fp : List Addr} {P : Nat → Value → Prop} {St : Nat → Heap → Prop} {RR : Value → Env → Result → Shared → Prop} {E : Value → Shared → Prop}
    (ok : c.Ok) (hh : c.A.handled = none) (hcell : ∀ y ∈ scope.names, y.2 ≠ .cell) (hkind : scope.kind = .function) (W : IterAt B T I fp P St ds) (hIT : T I = none) (hlen : ds.length < 2 ^ 20)
    (he : EltP B c scope tgt elt f ds) (R : Rep B c T a s) (st : St 0 s.heap)
    (hRR : ∀ D C T' s', T.Le T' → Rep B c T' ⟨a.loc, (D, ds.map f) :: a.sto⟩ s' → Apart c T' ⟨a.loc, (D, ds.map f) :: a.sto⟩ C → (∃ m, s'.heap.Ns C m) → RR (.ref D) (compEnv scope C c.env) (.ok .next) s') :
    wpAny (model B.prog B.w) c.A (newList []) (fun acc s₃ => wpAny (model B.prog B.w) c.A (newFunctionEnv scope c.env.globals [] [] c.env.qual none .none (some c.env)) (fun cenv s₄ =>
      codeAny (model B.prog B.w) c.A (.compStart (.ListComp elt [⟨tgt, iter, [], 0⟩] scope pos) 0 (.ref I) acc { cenv with scope := scope }) (RR acc { cenv with scope := scope }) s₄) E s₃) E s := by
  have hIB : B.h.get? I = none := by
    cases e : B.h.get? I with
    | none => rfl
    | some o => rw [R.old _ _ e] at hIT; cases hIT
  refine wpAny_newObj_type (wpAny_newFunctionEnv hcell (by intro y hy; simp at hy) (fun h₁ hns₁ hsb₁ => ?_) hkind)
  have R1 := R.pushL (vs := []) (l := []) (n := 0) .nil
  obtain ⟨m0, ⟨oL, es, ep, hL, hLd, _⟩, _⟩ := id R1.loc
  have hC : (s.heap.push (listOf ([] : List Value).toArray 0)).get? (s.heap.push (listOf ([] : List Value).toArray 0)).objs.size = none := none_at_size
  have kk : ∀ b o, (s.heap.push (listOf ([] : List Value).toArray 0)).get? b = some o → h₁.get? b = some o := fun b o e => hsb₁.extBut b o (Nat.ne_of_lt (Heap.lt_size e)) (Heap.get?_push_of_some _ e)
  obtain ⟨R2, cx⟩ := R1.comp ok hkind hC hns₁ kk hL (s.toks + ([] : List (Str × Value)).length)
  have st2 : St 0 h₁ := by
    refine (W.walks c.A hh).frame 0 s.heap h₁ st fun b hb o ho => kk b o (Heap.get?_push_of_some _ ho)
  have loop : ∀ s₃ : Shared, s₃ = { s with heap := h₁, toks := s.toks + ([] : List (Str × Value)).length } →
      codeAny (model B.prog B.w) c.A (.compLoop (.ListComp elt [⟨tgt, iter, [], 0⟩] scope pos) 0 (.ref I) (.ref s.heap.objs.size) (compEnv scope (s.heap.push (listOf ([] : List Value).toArray 0)).objs.size c.env))
        (RR (.ref s.heap.objs.size) (compEnv scope (s.heap.push (listOf ([] : List Value).toArray 0)).objs.size c.env)) s₃ := by
    rintro s₃ rfl
    refine comp_loop (cc := ⟨c.A, compEnv scope (s.heap.push (listOf ([] : List Value).toArray 0)).objs.size c.env, c.fr, c.od.put c.env.locals oL⟩) (f := f) (sto := a.sto) cx.ok hh W (.refl _) hIT hIB hlen (fun sto d hd => he _ cx sto d hd) R2 st2 fun T' s' hle R' => ?_
    obtain ⟨R3, ap⟩ := R1.uncomp ok R' cx.ok hle hL
    obtain ⟨m, hm, _⟩ := R'.loc
    exact hRR _ _ _ _ hle R3 ap ⟨m, hm⟩
  exact codeAny_compStart_list (loop _ rfl) ((W.walks c.A hh).self 0 _ _ _ st2 (loop _ rfl))

theorem ev_listcomp {tgt elt iter : Expr} {scope : Scope} {pos : Pos} (ok : c.Ok) (hh : c.A.handled = none) (hcell : ∀ y ∈ scope.names, y.2 ≠ .cell) (hfree : ∀ y ∈ scope.names, y.2 ≠ .free) (hkind : scope.kind = .function)
    (hnames : ∀ y ∈ scope.names, y.2 = .local → scope.names.lookup y.1 = some .local)
    (h : EV B c iter a (fun d a1 => ∃ ds f, Items d ds ∧ ds.length < 2 ^ 20 ∧ EltP B c scope tgt elt f ds ∧ ∀ D, Q (.ref D) ⟨a1.loc, (D, ds.map f) :: a1.sto⟩) X)
    (hs : ∀ x, foldedSetIterable iter c.env x = pure x := by intro _; rfl) : EV B c (.ListComp elt [⟨tgt, iter, [], 0⟩] scope pos) a Q X := fun T s R => by
  refine wpAny_ListComp hfree hkind hnames (h.use R fun T1 d a1 v s1 l1 R1 r1 ⟨ds, f, hi, hlen, he, q⟩ => ?_) hs
  refine iter_of hi r1 R1 fun o fp P St W st of => ?_
  refine comp_block (RR := fun acc cenv r s' => ∃ m, s'.heap.Ns cenv.locals m ∧ ∀ h', Heap.SameBut cenv.locals s'.heap h' →
    match r with | .ok _ => PV B c T Q acc { s' with heap := h' } | .error x => wpAny (model B.prog B.w) c.A (passOn "comprehension.variables-let-go" x cenv) (PV B c T Q) (PE B c T X) { s' with heap := h' })
    ok hh hcell hkind W R1.tab_size hlen he (R1.push o) st fun D C T' s' hle R' ap ⟨m, hm⟩ => ?_
  exact ⟨m, hm, fun h' hs' => ⟨T', _, _, l1.trans hle, R'.other ap hs', .ref D, q D⟩⟩

/-- the value goes to a local name before the comprehension's own names go -/
theorem ex_assign_listcomp {tgt elt iter : Expr} {scope : Scope} {pos py spos : Pos} {y : Str} {ks : List (Str × NameKind)} {Q : PFq} (ok : c.Ok) (hh : c.A.handled = none) (hcell : ∀ y ∈ scope.names, y.2 ≠ .cell) (hfree : ∀ y ∈ scope.names, y.2 ≠ .free) (hkind : scope.kind = .function)
    (hnames : ∀ y ∈ scope.names, y.2 = .local → scope.names.lookup y.1 = some .local) (hk : c.Kinds ks) (hy : (y, NameKind.local) ∈ ks)
    (hsw : swapsWith (.ListComp elt [⟨tgt, iter, [], 0⟩] scope pos) (some (.Name y py)) spos.line c.env = pure true)
    (h : EV B c iter a (fun d a1 => ∃ ds f, Items d ds ∧ ds.length < 2 ^ 20 ∧ EltP B c scope tgt elt f ds ∧ ∀ D, ∃ l', LSet y (.ref D) a1.loc l' ∧ Q .next ⟨l', (D, ds.map f) :: a1.sto⟩) X)
    (hs : ∀ x, foldedSetIterable iter c.env x = pure x := by intro _; rfl) : EX B c (.Assign [.Name y py] (.ListComp elt [⟨tgt, iter, [], 0⟩] scope pos) spos) a Q X := fun T s R => by
  have hnc : (c.env.scope.kind == .class || (c.env.scope.kind == .module && c.env.locals != c.env.globals)) = false := by rw [ok.kind]; rfl
  rw [exec_Assign_Name_used _ _ _ _ hsw]
  refine wpAny_bind (wpAny_standAt (wpAny_bind ?_))
  show wpAny _ _ (do let _ ← comprehension (.ListComp elt [⟨tgt, iter, [], 0⟩] scope pos) scope c.env _ (newList []) false (eval iter c.env) (some (assign (.Name y py) c.env))) _ _ s
  refine wpAny_bind (wpAny_mono (wpAny_comprehension_use (Q := fun _ s' => PF B c T Q .next s') rfl hs hfree hkind hnames (h.use R fun T1 d a1 v s1 l1 R1 r1 ⟨ds, f, hi, hlen, he, q⟩ => ?_))
    (fun _ s' hq => wpAny_pure (wpAny_pure hq)) fun _ _ e => e)
  refine iter_of hi r1 R1 fun o fp P St W st of => ?_
  refine comp_block (RR := fun acc cenv r s' => match r with
      | .ok _ => wpAny (model B.prog B.w) c.A (assign (.Name y py) c.env acc) (fun _ s'' => ∃ m, s''.heap.Ns cenv.locals m ∧ ∀ h', Heap.SameBut cenv.locals s''.heap h' → PF B c T Q .next { s'' with heap := h' }) (PE B c T X) s'
      | .error x => ∃ m, s'.heap.Ns cenv.locals m ∧ ∀ h', Heap.SameBut cenv.locals s'.heap h' → wpAny (model B.prog B.w) c.A (passOn "comprehension.variables-let-go" x cenv) (fun _ s' => PF B c T Q .next s') (PE B c T X) { s' with heap := h' })
    ok hh hcell hkind W R1.tab_size hlen he (R1.push o) st fun D C T' s' hle R' ap ⟨m, hm⟩ => ?_
  obtain ⟨l', u, q⟩ := q D
  obtain ⟨m', hm'⟩ := R'.loc
  refine wpAny_assign_Name (wpAny_storeName_local (hk _ hy) hm'.1 (fun h₂ hn₂ hs₂ => ?_) hnc)
  have R2 := R'.setLoc ok u (.ref D) hm' hn₂ hs₂ (s'.toks + 1)
  refine ⟨m, hm.sameBut hs₂ ap.2.2.2.2, fun h₃ hs₃ => ?_⟩
  exact ⟨T', _, _, l1.trans hle, R2.other (by exact ap) hs₃, .next, q⟩
end
end Mine

namespace Mine
open PySem PySem.W PySem.Calls PySem.Spec PyProof.Rows Builtin Builtin.ObjectAttr
mutual
noncomputable def pd : AV → PyData
  | .none => .none
  | .bool b => .bool b
  | .int i => .int i
  | .str x => .str x
  | .tup l => .tuple (pds l)
  | .lst l => .list (pds l)
  | .ref _ => .none
  | .rng _ _ => .none
  | .exc _ _ _ _ => .none
noncomputable def pds : List AV → List PyData
  | [] => []
  | d :: r => pd d :: pds r
end
mutual
noncomputable def AV.dat : AV → Bool
  | .none => true
  | .bool _ => true
  | .int _ => true
  | .str x => x.cps.all (· < 0x110000)
  | .tup l => dats l
  | .lst l => dats l
  | .ref _ => false
  | .rng _ _ => false
  | .exc _ _ _ _ => false
noncomputable def dats : List AV → Bool
  | [] => true
  | d :: r => d.dat && dats r
end
mutual
theorem VR.reads {T : Tab} {h : Heap} (hT : ∀ b o, T b = some o → h.get? b = some o) : ∀ {v : Value} {d : AV}, VR T v d → d.dat = true → ∃ as, Reads h v (pd d) as
  | _, _, .none, _ => ⟨_, .none⟩
  | _, _, .bool b, _ => ⟨_, .bool b⟩
  | _, _, .int i t, _ => ⟨_, .int i t⟩
  | _, _, .str x t, _ => ⟨_, .str x t⟩
  | _, _, .tup e r, hd => let ⟨as, q⟩ := VRs.reads hT r (by simpa [AV.dat] using hd); ⟨_, by rw [pd]; exact .tuple (hT _ _ e) rfl rfl (by simpa using q)⟩
  | _, _, .lst e r, hd => let ⟨as, q⟩ := VRs.reads hT r (by simpa [AV.dat] using hd); ⟨_, by rw [pd]; exact .list (hT _ _ e) rfl rfl (by simpa using q)⟩
  | _, _, .ref a, hd => by simp [AV.dat] at hd
  | _, _, .rng e, hd => by simp [AV.dat] at hd
  | _, _, .exc _ _ _ _ _ _ _ _ _, hd => by simp [AV.dat] at hd
theorem VRs.reads {T : Tab} {h : Heap} (hT : ∀ b o, T b = some o → h.get? b = some o) : ∀ {vs : List Value} {l : List AV}, VRs T vs l → dats l = true → ∃ as, ReadsAll h vs (pds l) as
  | _, _, .nil, _ => ⟨_, .nil⟩
  | _, _, .cons e r, hd => by
    rw [dats, Bool.and_eq_true] at hd
    obtain ⟨as, q⟩ := VR.reads hT e hd.1
    obtain ⟨bs, q'⟩ := VRs.reads hT r hd.2
    exact ⟨_, by rw [pds]; exact .cons q q'⟩
end
mutual
theorem pd_lay : ∀ d : AV, d.dat = true → (pd d).canLay0 = true
  | .none, _ => rfl
  | .bool _, _ => rfl
  | .int _, _ => rfl
  | .str x, h => by simpa [AV.dat, pd, PyData.canLay0, PyData.strOk] using h
  | .tup l, h => by rw [pd, PyData.canLay0]; exact pds_lay l (by simpa [AV.dat] using h)
  | .lst l, h => by rw [pd, PyData.canLay0]; exact pds_lay l (by simpa [AV.dat] using h)
  | .ref _, h => by simp [AV.dat] at h
  | .rng _ _, h => by simp [AV.dat] at h
  | .exc _ _ _ _, h => by simp [AV.dat] at h
theorem pds_lay : ∀ l : List AV, dats l = true → PyData.canLayAll0 (pds l) = true
  | [], _ => rfl
  | d :: r, h => by
    rw [dats, Bool.and_eq_true] at h
    rw [pds, PyData.canLayAll0, pd_lay d h.1, pds_lay r h.2]; rfl
end
section
variable {B : Bs} {c : Cx} {a : AS} {Q : PQ} {X : PX}
theorem t2_eq_data {d1 d2 : AV} (ok : c.Ok) (h1 : d1.dat = true) (h2 : d2.dat = true) (hu : (pd d2).depth ≤ 1000) (q : Q (.bool (PyData.eqv (pd d1) (pd d2))) a) : T2 B c (compareOp .Eq) d1 d2 a Q X := fun T s v1 v2 R r1 r2 => by
  obtain ⟨as, e1⟩ := r1.reads R.tab h1
  obtain ⟨bs, e2⟩ := r2.reads R.tab h2
  have hu' := ok.units
  exact PySem.SeqAt.compareEq_reads e1 e2 (pd_lay _ h1) (pd_lay _ h2) (by show _ < 9900; omega) (pv0 R (.bool _) q)
theorem t2_ne_data {d1 d2 : AV} (ok : c.Ok) (h1 : d1.dat = true) (h2 : d2.dat = true) (hu : (pd d2).depth ≤ 1000) (q : Q (.bool (!PyData.eqv (pd d1) (pd d2))) a) : T2 B c (compareOp .NotEq) d1 d2 a Q X := fun T s v1 v2 R r1 r2 => by
  obtain ⟨as, e1⟩ := r1.reads R.tab h1
  obtain ⟨bs, e2⟩ := r2.reads R.tab h2
  have hu' := ok.units
  exact PySem.SeqAt.compareNe_reads e1 e2 (pd_lay _ h1) (pd_lay _ h2) (by show _ < 9900; omega) (pv0 R (.bool _) q)
theorem t2_eq_same {d : AV} (ok : c.Ok) (h : d.dat = true) (hu : (pd d).depth ≤ 1000) (q : Q (.bool true) a) : T2 B c (compareOp .Eq) d d a Q X :=
  t2_eq_data ok h h hu (by rw [PySem.SeqAt.eqv_refl _ (pd_lay _ h)]; exact q)
theorem t2_ne_same {d : AV} (ok : c.Ok) (h : d.dat = true) (hu : (pd d).depth ≤ 1000) (q : Q (.bool false) a) : T2 B c (compareOp .NotEq) d d a Q X :=
  t2_ne_data ok h h hu (by rw [PySem.SeqAt.eqv_refl _ (pd_lay _ h)]; exact q)
end
end Mine

namespace Mine
open PySem PySem.W PySem.Calls PySem.Spec PyProof.Rows Builtin Builtin.ObjectAttr
section
variable {prog : Program} {w : World} {A : Around} {E : Value → Shared → Prop} {s : Shared}

theorem rc_lt {a b : Int} {t u : Tok} {Q : Value → Shared → Prop} (h : Q (.bool (decide (a < b))) s) : wpAny (model prog w) A (richCompare .Lt (.int a t) (.int b u)) Q E s := PyProof.Rows.lt_int h
set_option maxHeartbeats 2000000 in
theorem tup_lt {x y : Addr} {n m : Nat} {a1 k1 a2 k2 : Int} {t1 u1 t2 u2 : Tok} {r1 r2 : List Value} {Q : Value → Shared → Prop} (hu : A.units < cLine)
    (hx : s.heap.get? x = some ({ cls := .type "tuple", data := .seq (List.toArray (.int a1 t1 :: .int k1 u1 :: r1)) n } : Obj)) (hy : s.heap.get? y = some ({ cls := .type "tuple", data := .seq (List.toArray (.int a2 t2 :: .int k2 u2 :: r2)) m } : Obj))
    (hne : ¬ (a1 = a2 ∧ k1 = k2)) (q : Q (.bool (decide (a1 < a2 ∨ (a1 = a2 ∧ k1 < k2)))) s) : wpAny (model prog w) A (richCompare .Lt (.ref x) (.ref y)) Q E s := by
  refine wpAny_richCompare_same_room ⟨_, hx, rfl⟩ ⟨_, hy, rfl⟩ F.slot_tuple_lt (wpAny_call_entry F.slot_tuple_lt ⟨_, hx, rfl⟩ F.entry_tuple_lt ?_ (F.args_tuple_lt_2 _ _)) hu
  have f2 := AutoSeq1.sub_tuple_tuple
  obtain ⟨hp, g, d, tk, os⟩ := s
  wp_walk using wpAny_loadPart' hx, wpAny_loadPart' hy
  refine PySem.SeqAt.EqAt.int_int a1 t1 a2 t2 prog w _ _ ?_
  by_cases h1 : a1 = a2
  · subst h1
    rw [beq_self_eq_true]
    wp_walk using rc_lt
    refine PySem.SeqAt.EqAt.int_int k1 u1 k2 u2 prog w _ _ ?_
    have h2 : ¬ k1 = k2 := fun e => hne ⟨rfl, e⟩
    rw [beq_eq_false_iff_ne.mpr h2]
    wp_walk using rc_lt
    refine ⟨_, rfl, (by intro z; cases z), ?_⟩
    simpa using q
  · rw [beq_eq_false_iff_ne.mpr h1]
    wp_walk using rc_lt
    refine ⟨_, rfl, (by intro z; cases z), ?_⟩
    simpa [h1] using q
end
end Mine

namespace Mine
open PySem PySem.W PySem.Calls PySem.Spec PyProof.Rows Builtin Builtin.ObjectAttr

/-- the table's objects are in the heap -/
noncomputable def InH (T : Tab) (h : Heap) : Prop := ∀ b o, T b = some o → h.get? b = some o
noncomputable def CmpT (prog : Program) (w : World) (A : Around) (T : Tab) (n : Nat) (P : Nat → Value → Prop) (bt : Nat → Nat → Bool) : Prop :=
  ∀ i j vi vj (s : Shared) (Q : Value → Shared → Prop) (E : Value → Shared → Prop), i < n → j < i → InH T s.heap → P i vi → P j vj → Q (.bool (bt i j)) s → wpAny (model prog w) A (richCompare .Lt vi vj) Q E s

theorem argBest_le (bt : Nat → Nat → Bool) : ∀ k, argBest bt k ≤ k
  | 0 => Nat.le_refl _
  | k + 1 => by
    unfold argBest
    split
    · exact Nat.le_refl _
    · exact Nat.le_succ_of_le (argBest_le bt k)

section
variable {prog : Program} {w : World} {A : Around} {R : Result → Shared → Prop} {I : Addr} {fp : List Addr} {n : Nat} {P : Nat → Value → Prop} {St : Nat → Heap → Prop} {T : Tab}

theorem min_loop (W : Walks prog w A.in1 I fp [I] n P St) (bt : Nat → Nat → Bool) (hcmp : CmpT prog w A.in1 T n P bt) (S : Addr) (hSf : S ∉ fp) (hSI : S ≠ I) (hTI : T I = none) (hTS : T S = none) :
    ∀ (k j : Nat) (s : Shared) (vb : Value) (c : Nat), n - (j + 1) = k → j + 1 ≤ n → InH T s.heap → St (j + 1) s.heap → P (argBest bt j) vb →
    s.heap.get? S = some { cls := .type "list", dict := none, data := .seq #[vb, vb] c, slots := #[] } →
    (∀ v h' tk, P (argBest bt (n - 1)) v → (∀ b o, b ≠ I → b ≠ S → s.heap.get? b = some o → h'.get? b = some o) → R (.ok (.ret v)) { s with heap := h', toks := tk }) →
    codeAny (model prog w) A (.builtin "min.loop" ⟨[.ref I, .none, .ref S], []⟩) R s := by
  have hSw : S ∉ [I] := by simpa using hSI
  have hname : (toString "min" ++ toString ".loop" : String) = "min.loop" := by decide
  have nI : ∀ {b : Addr} {o : Obj}, T b = some o → b ∉ [I] := fun e z => by rw [List.mem_singleton.mp z, hTI] at e; cases e
  have nS : ∀ {b : Addr} {o : Obj}, T b = some o → b ≠ S := fun e z => by rw [z, hTS] at e; cases e
  intro k
  induction k with
  | zero =>
    intro j s vb c hk hj hin0 hst hPb hS hR
    have hin : j + 1 = n := by omega
    refine codeAny_builtin F.entry_min_loop ?_
    rw [Around.under_plainId F.plain_min_loop _]
    show wpAny _ A.in1 (seqItems? (.ref S) >>= _) _ _ s
    refine wpAny_bind (wpAny_seqItems hS rfl ?_)
    show wpAny _ A.in1 (tryCatch (pyNext (.ref I)) _ >>= _) _ _ s
    refine wpAny_bind (wpAny_tryCatch (W.done s _ _ (hin ▸ hst) fun h' tk hk' => ?_))
    have hS' := hk' S _ hSw hS
    show wpAny _ A.in1 (updateSeq S (fun _ => #[]) >>= _) _ _ _
    refine wpAny_bind ?_
    refine wpAny_updateSeq hS' rfl (wpAny_bind (wpAny_letGo (wpAny_pure ?_)))
    refine hR vb _ tk (by rw [← hin]; exact hPb) fun b o hbw hbS e => (Heap.get?_update_other _ _ (Ne.symm hbS)).trans (hk' b o (by simpa using hbw) e)
  | succ k ih =>
    intro j s vb c hk hj hin0 hst hPb hS hR
    have hlt : j + 1 < n := by omega
    refine codeAny_builtin F.entry_min_loop ?_
    rw [Around.under_plainId F.plain_min_loop _]
    show wpAny _ A.in1 (seqItems? (.ref S) >>= _) _ _ s
    refine wpAny_bind (wpAny_seqItems hS rfl ?_)
    show wpAny _ A.in1 (tryCatch (pyNext (.ref I)) _ >>= _) _ _ s
    refine wpAny_bind (wpAny_tryCatch (W.item (j + 1) s _ _ hlt hst fun v h' tk hP hst' hk' => ?_))
    have hS' := hk' S _ hSw hS
    have hin1 : InH T h' := fun b o e => hk' b o (nI e) (hin0 b o e)
    show wpAny _ A.in1 (tryCatch (holding [v, v] (richCompare .Lt v vb >>= _)) _ >>= _) _ _ _
    refine wpAny_bind (wpAny_tryCatch (wpAny_holding (wpAny_bind (hcmp (j + 1) (argBest bt j) v vb _ _ _ hlt (Nat.lt_succ_of_le (argBest_le bt j)) hin1 hP hPb ?_))))
    refine wpAny_bind (wpAny_holding (wpAny_truthy_bool ?_))
    refine wpAny_bind (wpAny_letGo (wpAny_pure ?_))
    cases hb : bt (j + 1) (argBest bt j) with
    | true =>
      simp only [if_true]
      refine wpAny_bind ?_
      refine wpAny_updateSeq hS' rfl (wpAny_bind (wpAny_letGo ?_))
      rw [hname]
      refine wpAny_pure ⟨plainId_quiet F.plain_min_loop _, ih (j + 1) _ v _ (by omega) hlt (fun b o e => (Heap.get?_update_other _ _ (Ne.symm (nS e))).trans (hin1 b o e)) (W.frame _ _ _ hst' fun b hbf o e => ?_) (by simp only [argBest, hb, if_true]; exact hP) (Heap.get?_update_self _ hS' rfl)
        fun v' h'' tk'' hP' hk'' => ?_⟩
      · exact (Heap.get?_update_other _ _ (fun h : S = b => hSf (by rw [h]; exact hbf))).trans e
      · exact hR v' h'' tk'' hP' fun b o hbw hbS e => hk'' b o hbw hbS ((Heap.get?_update_other _ _ (Ne.symm hbS)).trans (hk' b o (by simpa using hbw) e))
    | false =>
      simp only [Bool.false_eq_true, if_false]
      refine wpAny_bind (wpAny_letGo ?_)
      rw [hname]
      refine wpAny_pure ⟨plainId_quiet F.plain_min_loop _, ih (j + 1) _ vb c (by omega) hlt hin1 hst' (by simp only [argBest, hb, Bool.false_eq_true, if_false]; exact hPb) hS' fun v' h'' tk'' hP' hk'' => ?_⟩
      exact hR v' h'' tk'' hP' fun b o hbw hbS e => hk'' b o hbw hbS (hk' b o (by simpa using hbw) e)

theorem min_first (W : Walks prog w A.in1 I fp [I] n P St) (bt : Nat → Nat → Bool) (hcmp : CmpT prog w A.in1 T n P bt) (S : Addr) (hSf : S ∉ fp) (hSI : S ≠ I) (hTI : T I = none) (hTS : T S = none) (hn : 0 < n) {s : Shared} {c : Nat} (hin0 : InH T s.heap) (hst : St 0 s.heap)
    (hS : s.heap.get? S = some { cls := .type "list", dict := none, data := .seq #[] c, slots := #[] })
    (hR : ∀ v h' tk, P (argBest bt (n - 1)) v → (∀ b o, b ≠ I → b ≠ S → s.heap.get? b = some o → h'.get? b = some o) → R (.ok (.ret v)) { s with heap := h', toks := tk }) :
    codeAny (model prog w) A (.builtin "min.loop" ⟨[.ref I, .none, .ref S], []⟩) R s := by
  have hSw : S ∉ [I] := by simpa using hSI
  have hname : (toString "min" ++ toString ".loop" : String) = "min.loop" := by decide
  have nI : ∀ {b : Addr} {o : Obj}, T b = some o → b ∉ [I] := fun e z => by rw [List.mem_singleton.mp z, hTI] at e; cases e
  have nS : ∀ {b : Addr} {o : Obj}, T b = some o → b ≠ S := fun e z => by rw [z, hTS] at e; cases e
  refine codeAny_builtin F.entry_min_loop ?_
  rw [Around.under_plainId F.plain_min_loop _]
  show wpAny _ A.in1 (seqItems? (.ref S) >>= _) _ _ s
  refine wpAny_bind (wpAny_seqItems hS rfl ?_)
  show wpAny _ A.in1 (tryCatch (pyNext (.ref I)) _ >>= _) _ _ s
  refine wpAny_bind (wpAny_tryCatch (W.item 0 s _ _ hn hst fun v h' tk hP hst' hk' => ?_))
  have hS' := hk' S _ hSw hS
  have hin1 : InH T h' := fun b o e => hk' b o (nI e) (hin0 b o e)
  show wpAny _ A.in1 (updateSeq S (fun _ => #[v, v]) >>= _) _ _ _
  refine wpAny_bind ?_
  refine wpAny_updateSeq hS' rfl ?_
  rw [hname]
  refine wpAny_pure ⟨plainId_quiet F.plain_min_loop _, min_loop W bt hcmp S hSf hSI hTI hTS _ 0 _ v _ rfl hn (fun b o e => (Heap.get?_update_other _ _ (Ne.symm (nS e))).trans (hin1 b o e)) (W.frame _ _ _ hst' fun b hbf o e => ?_) hP (Heap.get?_update_self _ hS' rfl) fun v' h'' tk'' hP' hk'' => ?_⟩
  · exact (Heap.get?_update_other _ _ (fun h : S = b => hSf (by rw [h]; exact hbf))).trans e
  · exact hR v' h'' tk'' hP' fun b o hbw hbS e => hk'' b o hbw hbS ((Heap.get?_update_other _ _ (Ne.symm hbS)).trans (hk' b o (by simpa using hbw) e))
end

section
variable {B : Bs} {c : Cx} {a : AS} {Q : PQ} {X : PX}
theorem tc_min {l : List AV} {bt : Nat → Nat → Bool} (ok : c.Ok) (hh : c.A.handled = none) (hl : 0 < l.length)
    (hcmp : ∀ (i j : Nat) (d e : AV) (T : Tab) (s : Shared) (v1 v2 : Value) (A : Around) (P : Value → Shared → Prop) (E : Value → Shared → Prop), j < i → l[i]? = some d → l[j]? = some e → A.units < cLine → InH T s.heap → VR T v1 d → VR T v2 e → P (.bool (bt i j)) s → wpAny (model B.prog B.w) A (richCompare .Lt v1 v2) P E s)
    (q : ∀ d, l[argBest bt (l.length - 1)]? = some d → Q d a) : TCall B c (.builtin "min") [.lst l] a Q X := fun T s vs R hv => by
  obtain ⟨v, rfl, r⟩ := vrs1 hv
  have hname : (toString "min" ++ toString ".loop" : String) = "min.loop" := by decide
  refine call_function_tree F.kind_min F.plain_min F.entry_min (F.args_min1 _) ?_
  show wpAny _ c.A.in1 (Builtin.Builtins.bindParams "min" ["key", "default"] 0 ⟨[], []⟩ >>= _) _ _ s
  refine wpAny_bind (wpAny_of_eq (show Builtin.Builtins.bindParams "min" ["key", "default"] 0 ⟨[], []⟩ = pure [none, none] from rfl) ?_)
  refine wpAny_bind (wpAny_pure ?_)
  refine wpAny_bind (iter_of (.lst l) r R fun o fp P St W st of => ?_)
  refine wpAny_bind (wpAny_newObj_type ?_)
  rw [hname]
  have hIT := R.tab_size
  have hS : (s.heap.push o).objs.size = s.heap.objs.size + 1 := Heap.size_push ..
  have fpl : ∀ b ∈ fp, b < s.heap.objs.size + 1 := fun b hb => by
    rcases W.fp b hb with rfl | ⟨o', ho'⟩
    · exact Nat.lt_succ_self _
    · exact Nat.lt_succ_of_lt (Heap.lt_size (R.tab _ _ ho'))
  refine wpAny_pure ⟨plainId_quiet F.plain_min_loop _, min_first (A := c.A) (T := T) (n := l.length) (P := P) (St := St) (fp := fp) (W.walks c.A.in1 hh) bt ?_ (s.heap.push o).objs.size ?_ ?_ hIT ?_ hl ?_ ?_ (Heap.get?_push_size _ rfl) fun v h' tk hP hk => ?_⟩
  · intro i j vi vj s' P' E' hlt hji hin hPi hPj hq
    have hi : ∀ i v, P i v → i < l.length → ∃ d, l[i]? = some d ∧ VR T v d := fun i v hP hlt => ⟨l[i], by simp [hlt], W.item i v _ hP (by simp [hlt])⟩
    obtain ⟨d, h1, h2⟩ := hi i vi hPi hlt
    obtain ⟨e, h3, h4⟩ := hi j vj hPj (Nat.lt_trans hji hlt)
    exact hcmp i j d e T s' vi vj c.A.in1 P' E' hji h1 h3 (by have := ok.units; show c.A.units + 1 < 9900; omega) hin h2 h4 hq
  · intro hm; have := fpl _ hm; rw [hS] at this; exact Nat.lt_irrefl _ this
  · rw [hS]; exact Nat.succ_ne_self _
  · cases e : T (s.heap.push o).objs.size with
    | none => rfl
    | some o' => have := Heap.lt_size (R.tab _ _ e); rw [hS] at this; exact absurd (Nat.lt_trans (Nat.lt_succ_self _) this) (Nat.lt_irrefl _)
  · exact fun b o' e => Heap.get?_push_of_some _ (Heap.get?_push_of_some _ (R.tab b o' e))
  · exact (W.walks c.A.in1 hh).frame 0 _ _ st fun b _ o' e => Heap.get?_push_of_some _ e
  · have hb : argBest bt (l.length - 1) < l.length := by have := argBest_le bt (l.length - 1); omega
    have hd : l[argBest bt (l.length - 1)]? = some l[argBest bt (l.length - 1)] := by simp [hb]
    refine pv0 (R.grow (fun b o' e => hk b o' (Nat.ne_of_lt (Heap.lt_size e)) (by rw [hS]; exact Nat.ne_of_lt (Nat.lt_succ_of_lt (Heap.lt_size e))) (Heap.get?_push_of_some _ (Heap.get?_push_of_some _ e))) tk) (W.item _ _ _ hP hd) (q _ hd)
end
end Mine

namespace Mine
open PySem PySem.W PySem.Calls PySem.Spec PyProof.Rows

/-! the text's defs -/
noncomputable def nthS : List Stmt → Nat → Option Stmt
  | [], _ => none
  | s :: _, 0 => some s
  | _ :: r, n + 1 => nthS r n
noncomputable def bodyOf (i : Nat) : List Stmt := match nthS PySem.Challenge.pw_sj0025_01.main.body i with
  | some (.FunctionDef (body := b) ..) => b
  | _ => []
noncomputable def scopeOf (i : Nat) : Scope := match nthS PySem.Challenge.pw_sj0025_01.main.body i with
  | some (.FunctionDef (scope := b) ..) => b
  | _ => { kind := .module, names := [], isGenerator := false, isCoroutine := false }
noncomputable abbrev namesOf (i : Nat) : List (Str × NameKind) := (scopeOf i).names

structure Good (c : Cx) (n : Nat) : Prop where
  ok : c.Ok
  fn : c.Fun
  depth : c.A.depth ≤ 310 + n
  units : c.A.units ≤ 100 + 3 * n

structure At (c : Cx) (n i : Nat) : Prop extends Good c n where
  scope : c.env.scope = scopeOf i
  kinds : c.Kinds (namesOf i)

structure FnOk (B : Bs) (x : Str) (i : Nat) (names : List Str) (f : Addr) (fd : FuncData) : Prop where
  g : GName B x (.ref f)
  there : ∃ o, B.h.get? f = some o ∧ o.data = .func fd
  fn : Fn B f fd (bodyOf i)
  scope : fd.scope = scopeOf i
  binds : ∀ s vs, (∀ b o, B.h.get? b = some o → s.heap.get? b = some o) → vs.length = names.length → BindsTo s fd ⟨vs, []⟩ (names.zip vs)
  nodup : names.Nodup
  loc : ∀ x ∈ names, (scopeOf i).names.lookup x = some .local
  all : ∀ p ∈ (scopeOf i).names, (scopeOf i).names.lookup p.1 = some p.2

section
variable {B : Bs} {c : Cx} {a a' : AS} {Q Q' : PQ} {X X' : PX}

theorem tcall_top {x : Str} {i n : Nat} {names : List Str} {f : Addr} {fd : FuncData} {ds : List AV} (F : FnOk B x i names f fd) (G : Good c n) (hn : n ≤ 20) (nol : B.h.NoLimit) (hl : ds.length = names.length)
    (h : ∀ c', At c' (n + 1) i → EXs B c' (bodyOf i) ⟨names.zip ds, a.sto⟩ (fun fl a2 => Q (retOf fl) ⟨a.loc, a2.sto⟩) (fun x a2 => X x ⟨a.loc, a2.sto⟩)) : TCall B c (.ref f) ds a Q X :=
  tcall_fn G.ok (by have := G.depth; omega) (by have := G.units; omega) F.fn nol (fun s vs hb hvs => F.binds s vs hb (hvs.trans hl)) F.nodup (fun x hx => by rw [F.scope]; exact F.loc x hx) fun c' C => h c'
    { ok := C.ok, fn := ⟨C.frame, C.fr, C.handled.trans G.fn.handled⟩, depth := by rw [C.depth]; have := G.depth; omega, units := by rw [C.units]; have := G.units; omega,
      scope := C.scope.trans F.scope, kinds := fun p hp => by unfold Env.kindOf; rw [C.scope, F.scope]; exact F.all p hp }

theorem ev_call_top {x : Str} {np pos : Pos} {es : List Expr} {i j n : Nat} {names : List Str} {f : Addr} {fd : FuncData} (F : FnOk B x i names f fd) (G : At c n j) (hx : (x, NameKind.globalImplicit) ∈ namesOf j)
    (h : EVs B c es a (fun ds a1 => TCall B c (.ref f) ds a1 Q X) X) (hd : (x == ("__debug__" : Str)) = false) (he : backTo pos (starEach es c.env) = [] ∨ ∃ t r, backTo pos (starEach es c.env) = (false, t) :: r) :
    EV B c (.Call (.Name x np) es [] pos) a Q X :=
  ev_call_fn G.ok G.kinds hx F.g (let ⟨o, h1, h2⟩ := F.there; ⟨o, _, h1, h2⟩) h hd he

/-! names stored, lists changed -/
theorem LSet.hitK {x : Str} {v w : AV} {r : List (Str × AV)} (h : (r.map (·.1)).all (· != x) = true) : LSet x v ((x, w) :: r) ((x, v) :: r) :=
  .hit fun p hp e => by
    have := List.all_eq_true.mp h p.1 (List.mem_map_of_mem hp)
    rw [e] at this; simp at this
theorem LSet.skipK {x y : Str} {v w : AV} {r r' : List (Str × AV)} (h : (y != x) = true) (u : LSet x v r r') : LSet x v ((y, w) :: r) ((y, w) :: r') :=
  .skip (fun e => by change y = x at e; rw [e] at h; simp at h) u
theorem FrzLoc.nil {x : Addr} {l : List AV} {k : List (Str × AV)} : FrzLoc x l k [] := fun p hp => nomatch hp
theorem FrzLoc.keep {x : Addr} {l : List AV} {k k' : List (Str × AV)} {p : Str × AV} (h : FrzLoc x l k k') : FrzLoc x l (p :: k) (p :: k') := fun q hq => by
  rcases List.mem_cons.mp hq with rfl | hq
  · exact ⟨q, .head _, rfl, .same _⟩
  · obtain ⟨q', h1, h2⟩ := h q hq
    exact ⟨q', .tail _ h1, h2⟩
theorem FrzLoc.hit {x : Addr} {l : List AV} {k k' : List (Str × AV)} {n : Str} (h : FrzLoc x l k k') : FrzLoc x l ((n, .ref x) :: k) ((n, .lst l) :: k') := fun q hq => by
  rcases List.mem_cons.mp hq with rfl | hq
  · exact ⟨(n, .ref x), .head _, rfl, .hit⟩
  · obtain ⟨q', h1, h2⟩ := h q hq
    exact ⟨q', .tail _ h1, h2⟩
theorem SFrz.keep {x : Addr} {l : List AV} {y : Addr} {k : List AV} {r r' : List (Addr × List AV)} (h : SFrz x l r r') : SFrz x l ((y, k) :: r) ((y, k) :: r') := .skip (FrzAll.same _) h

/-- a loop by an invariant over what is still to come -/
theorem loop_inv {x : Str} {body : List Stmt} {Q : PFq} {X : PX} (Inv : List AV → AS → Prop) {ds : List AV} {a : AS} (h0 : Inv ds a) (hend : ∀ a, Inv [] a → Q .next a)
    (hstep : ∀ d r a, Inv (d :: r) a → ∃ l', LSet x d a.loc l' ∧ EXs B c body ⟨l', a.sto⟩ (fun f a' => match f with
      | .next => Inv r a'
      | .cont => Inv r a'
      | .brk => Q .next a'
      | .ret v => Q (.ret v) a') X) : LoopP B c x body ds a Q X := by
  induction ds generalizing a with
  | nil => exact hend _ h0
  | cons d r ih =>
    obtain ⟨l', u, e⟩ := hstep d r a h0
    refine ⟨l', u, e.imp (fun f a' q => ?_) fun _ _ z => z⟩
    cases f with
    | next => exact ih q
    | cont => exact ih q
    | brk => exact q
    | ret v => exact q

theorem mH {α : Type} {x : α} {r : List α} : x ∈ x :: r := .head _
theorem mT {α : Type} {x y : α} {r : List α} (h : x ∈ r) : x ∈ y :: r := .tail _ h
theorem mL {α : Type} {x : α} {fr : List α} : x ∈ fr ++ [x] := List.mem_append_right _ (.head _)
theorem n_name {x : Str} {pos : Pos} {d : AV} {ks : List (Str × NameKind)} {lo : List (Str × AV)} {st : List (Addr × List AV)} (ok : c.Ok) (hk : c.Kinds ks) (hx : (x, NameKind.local) ∈ ks) (hm : (x, d) ∈ lo) (hd : (x == ("__debug__" : Str)) = false)
    (q : Q d ⟨lo, st⟩) : EV B c (.Name x pos) ⟨lo, st⟩ Q X := ev_name ok hk hx hm hd q

/-! statements in a row -/
noncomputable def Seq (B : Bs) (c : Cx) (r : List Stmt) (Q : PFq) (X : PX) : PFq := fun f a => match f with
  | .next => EXs B c r a Q X
  | .brk => Q .brk a
  | .cont => Q .cont a
  | .ret d => Q (.ret d) a
theorem exs_seq {st : Stmt} {r : List Stmt} {Q : PFq} (h : EX B c st a (Seq B c r Q X) X) : EXs B c (st :: r) a Q X :=
  exs_cons (h.imp fun f a q => by
    cases f with
    | next => exact ⟨fun _ => q, fun z => absurd rfl z⟩
    | brk => exact ⟨(fun z => by cases z), fun _ => q⟩
    | cont => exact ⟨(fun z => by cases z), fun _ => q⟩
    | ret d => exact ⟨(fun z => by cases z), fun _ => q⟩)
theorem seq_next {r : List Stmt} {Q : PFq} (h : EXs B c r a Q X) : Seq B c r Q X .next a := h
theorem seq_ret {r : List Stmt} {Q : PFq} {d : AV} (h : Q (.ret d) a) : Seq B c r Q X (.ret d) a := h
theorem seq_cont {r : List Stmt} {Q : PFq} (h : Q .cont a) : Seq B c r Q X .cont a := h
theorem seq_brk {r : List Stmt} {Q : PFq} (h : Q .brk a) : Seq B c r Q X .brk a := h
theorem s_if {t : Expr} {b o : List Stmt} {pos : Pos} {r : List Stmt} {Q : PFq} (h : EB B c t a (fun b' a1 => (b' = true → EXs B c b a1 (Seq B c r Q X) X) ∧ (b' = false → EXs B c o a1 (Seq B c r Q X) X)) X) : EXs B c (.If t b o pos :: r) a Q X := exs_seq (ex_if h)
theorem s_assign {x : Str} {p pos : Pos} {e : Expr} {ks : List (Str × NameKind)} {r : List Stmt} {Q : PFq} (ok : c.Ok) (hk : c.Kinds ks) (hx : (x, NameKind.local) ∈ ks)
    (h : EV B c e a (fun d a1 => ∃ l', LSet x d a1.loc l' ∧ EXs B c r ⟨l', a1.sto⟩ Q X) X) (hs : swapsWith e (some (.Name x p)) pos.line c.env = pure false := by rfl) : EXs B c (.Assign [.Name x p] e pos :: r) a Q X :=
  exs_seq (ex_assign ok hk hx h hs)
theorem s_return {e : Expr} {pos : Pos} {r : List Stmt} {Q : PFq} (h : EV B c e a (fun d a1 => Q (.ret d) a1) X) : EXs B c (.Return (some e) pos :: r) a Q X := exs_seq (ex_return h)
theorem s_continue {pos : Pos} {r : List Stmt} {Q : PFq} (q : Q .cont a) : EXs B c (.Continue pos :: r) a Q X := exs_seq (ex_continue q)
theorem s_expr {e : Expr} {pos : Pos} {r : List Stmt} {Q : PFq} (ok : c.Ok) (h : EV B c e a (fun d a1 => EXs B c r a1 Q X) X) (hs : swapsWith e none pos.line c.env = pure false := by rfl) : EXs B c (.Expr e pos :: r) a Q X :=
  exs_seq (ex_expr_any ok h hs)
theorem s_aug {x : Str} {p pos : Pos} {op : Operator} {e : Expr} {ks : List (Str × NameKind)} {d0 : AV} {r : List Stmt} {Q : PFq} {lo : List (Str × AV)} {st : List (Addr × List AV)} (ok : c.Ok) (hk : c.Kinds ks) (hx : (x, NameKind.local) ∈ ks) (hm : (x, d0) ∈ lo)
    (h : EV B c e ⟨lo, st⟩ (fun d a1 => T2 B c (inplaceOp op) d0 d a1 (fun d2 a2 => ∃ l', LSet x d2 a2.loc l' ∧ EXs B c r ⟨l', a2.sto⟩ Q X) X) X) : EXs B c (.AugAssign (.Name x p) op e pos :: r) ⟨lo, st⟩ Q X :=
  exs_seq (ex_aug ok hk hx hm h)
theorem s_setitem {o i e : Expr} {p pos : Pos} {r : List Stmt} {Q : PFq} (ok : c.Ok) (h : EV B c e a (fun d a1 => EV B c o a1 (fun dd a2 => EV B c i a2 (fun di a3 => ∃ x l k st', dd = .ref x ∧ di = .int k ∧ 0 ≤ k ∧ k < l.length ∧ l.length < 2 ^ 24 ∧ SUpd x l (l.set k.toNat d) a3.sto st' ∧ EXs B c r ⟨a3.loc, st'⟩ Q X) X) X) X)
    (hs : swapsWith e (some (.Subscript o i p)) pos.line c.env = pure false := by rfl) : EXs B c (.Assign [.Subscript o i p] e pos :: r) a Q X := exs_seq (ex_setitem ok h hs)

theorem item_q {P : AV → Prop} {d : AV} {i : Int} {l : List AV} {e : AV} (hs : SeqOf a d l) (h0 : 0 ≤ i) (h1 : i < 2 ^ 62) (hi : l[i.toNat]? = some e) (q : P e) :
    ∃ i' l e, AV.int i = .int i' ∧ SeqOf a d l ∧ 0 ≤ i' ∧ i' < 2 ^ 62 ∧ l[i'.toNat]? = some e ∧ P e := ⟨i, l, e, rfl, hs, h0, h1, hi, q⟩
theorem set_q {P : List (Addr × List AV) → Prop} {x : Addr} {l : List AV} {k : Int} {d : AV} {st st' : List (Addr × List AV)} (u : SUpd x l (l.set k.toNat d) st st') (h0 : 0 ≤ k) (h1 : k < l.length) (h2 : l.length < 2 ^ 24) (q : P st') :
    ∃ y l' k' st'', AV.ref x = .ref y ∧ AV.int k = .int k' ∧ 0 ≤ k' ∧ k' < l'.length ∧ l'.length < 2 ^ 24 ∧ SUpd y l' (l'.set k'.toNat d) st st'' ∧ P st'' := ⟨x, l, k, st', rfl, rfl, h0, h1, h2, u, q⟩

theorem lset_q {P : List (Str × AV) → Prop} {x : Str} {v : AV} {lo l' : List (Str × AV)} (u : LSet x v lo l') (q : P l') : ∃ l'', LSet x v lo l'' ∧ P l'' := ⟨l', u, q⟩
theorem bool_q {P : Bool → Prop} {b : Bool} (q : P b) : ∃ b', AV.bool b = .bool b' ∧ P b' := ⟨b, rfl, q⟩
theorem int_q {P : Int → Prop} {b : Int} (q : P b) : ∃ b', AV.int b = .int b' ∧ P b' := ⟨b, rfl, q⟩
theorem str_q {P : Str → Prop} {b : Str} (q : P b) : ∃ b', AV.str b = .str b' ∧ P b' := ⟨b, rfl, q⟩

theorem s_augitem {o i e : Expr} {p pos : Pos} {op : Operator} {r : List Stmt} {Q : PFq} (ok : c.Ok)
    (h : EV B c o a (fun dd a1 => EV B c i a1 (fun di a2 => ∃ x l k d0, dd = .ref x ∧ di = .int k ∧ 0 ≤ k ∧ k < 2 ^ 62 ∧ (x, l) ∈ a2.sto ∧ l[k.toNat]? = some d0 ∧
      EV B c e a2 (fun d a3 => T2 B c (inplaceOp op) d0 d a3 (fun d2 a4 => ∃ l st', l.length < 2 ^ 24 ∧ k < l.length ∧ SUpd x l (l.set k.toNat d2) a4.sto st' ∧ EXs B c r ⟨a4.loc, st'⟩ Q X) X) X) X) X)
    (hi : ∀ ov iv new, augStore i ov iv new = (do holding [new, ov, iv] (setItem ov iv new); release [new, ov, iv] []; pure .next) := by intro _ _ _; rfl) :
    EXs B c (.AugAssign (.Subscript o i p) op e pos :: r) a Q X := exs_seq (ex_augitem ok h hi)
theorem aug_q {e : Expr} {op : Operator} {r : List Stmt} {Q' : PFq} {x : Addr} {l : List AV} {k : Int} {d0 : AV} {st : List (Addr × List AV)} (hm : (x, l) ∈ st) (h0 : 0 ≤ k) (h1 : k < 2 ^ 62) (hd : l[k.toNat]? = some d0) (q : EV B c e a (fun d a3 => T2 B c (inplaceOp op) d0 d a3 (fun d2 a4 => ∃ l st', l.length < 2 ^ 24 ∧ k < l.length ∧ SUpd x l (l.set k.toNat d2) a4.sto st' ∧ EXs B c r ⟨a4.loc, st'⟩ Q' X) X) X) :
    ∃ x' l k' d0, AV.ref x = .ref x' ∧ AV.int k = .int k' ∧ 0 ≤ k' ∧ k' < 2 ^ 62 ∧ (x', l) ∈ st ∧ l[k'.toNat]? = some d0 ∧ EV B c e a (fun d a3 => T2 B c (inplaceOp op) d0 d a3 (fun d2 a4 => ∃ l st', l.length < 2 ^ 24 ∧ k' < l.length ∧ SUpd x' l (l.set k'.toNat d2) a4.sto st' ∧ EXs B c r ⟨a4.loc, st'⟩ Q' X) X) X := ⟨x, l, k, d0, rfl, rfl, h0, h1, hm, hd, q⟩
theorem aug_q2 {P : List (Addr × List AV) → Prop} {x : Addr} {l : List AV} {k : Int} {d : AV} {st st' : List (Addr × List AV)} (u : SUpd x l (l.set k.toNat d) st st') (h1 : k < l.length) (h2 : l.length < 2 ^ 24) (q : P st') :
    ∃ l' st'', l'.length < 2 ^ 24 ∧ k < l'.length ∧ SUpd x l' (l'.set k.toNat d) st st'' ∧ P st'' := ⟨l, st', h2, h1, u, q⟩

/-- what is forgotten -/
theorem nil_w {lo lo' : List (Str × AV)} {st : List (Addr × List AV)} {Q : PFq} (h : ∀ p ∈ lo', p ∈ lo) (q : Q .next ⟨lo', st⟩) : EXs B c [] ⟨lo, st⟩ Q X := (exs_nil q).weaken (a' := ⟨lo', st⟩) h (List.Sublist.refl _)
theorem cont_w {lo lo' : List (Str × AV)} {st : List (Addr × List AV)} {r : List Stmt} {pos : Pos} {Q : PFq} (h : ∀ p ∈ lo', p ∈ lo) (q : Q .cont ⟨lo', st⟩) : EXs B c (.Continue pos :: r) ⟨lo, st⟩ Q X := (s_continue (a := ⟨lo', st⟩) q).weaken (a' := ⟨lo', st⟩) h (List.Sublist.refl _)
theorem sub_nil {lo : List (Str × AV)} : ∀ p ∈ ([] : List (Str × AV)), p ∈ lo := fun _ h => nomatch h
theorem sub_keep {p : Str × AV} {lo lo' : List (Str × AV)} (h : ∀ p ∈ lo', p ∈ lo) : ∀ q ∈ p :: lo', q ∈ p :: lo := fun q hq => by
  rcases List.mem_cons.mp hq with rfl | hq
  · exact .head _
  · exact .tail _ (h q hq)
theorem sub_drop {p : Str × AV} {lo lo' : List (Str × AV)} (h : ∀ p ∈ lo', p ∈ lo) : ∀ q ∈ lo', q ∈ p :: lo := fun q hq => .tail _ (h q hq)
theorem s_raise {K : Frag} {G fI : Addr} {x : Str} {np cpos pos : Pos} {args : List Expr} {ks : List (Str × NameKind)} {r : List Stmt} {Q : PFq} (ok : c.Ok) (hd : c.A.depth + 4 < 600) (hh : c.A.handled = none) (I : InitOk B K G fI)
    (hk : c.Kinds ks) (hx : (x, NameKind.globalImplicit) ∈ ks) (g : GName B x (.ref B.FE)) (hdb : (x == ("__debug__" : Str)) = false) (hplain : (backTo cpos (starEach args c.env)).any (·.1) = false)
    (h : EVs B c args a (fun ds a1 => ∃ k i d, (ds = [.str k, .int i, .str d] ∨ (d = "" ∧ ds = [.str k, .int i])) ∧ X ⟨k, i, d⟩ a1) X)
    (he : ∃ t r, backTo cpos (starEach args c.env) = (false, t) :: r) : EXs B c (.Raise (some (.Call (.Name x np) args [] cpos)) none pos :: r) a Q X :=
  exs_seq (ex_raise ok hd hh I hk hx g hdb hplain h he)
theorem raise_q3 {P : Str → Int → Str → Prop} {k d : Str} {i : Int} (q : P k i d) : ∃ k' i' d', (([.str k, .int i, .str d] : List AV) = [.str k', .int i', .str d'] ∨ (d' = "" ∧ ([.str k, .int i, .str d] : List AV) = [.str k', .int i'])) ∧ P k' i' d' := ⟨k, i, d, .inl rfl, q⟩
theorem raise_q2 {P : Str → Int → Str → Prop} {k : Str} {i : Int} (q : P k i "") : ∃ k' i' d', (([.str k, .int i] : List AV) = [.str k', .int i', .str d'] ∨ (d' = "" ∧ ([.str k, .int i] : List AV) = [.str k', .int i'])) ∧ P k' i' d' := ⟨k, i, "", .inr ⟨rfl, rfl⟩, q⟩
theorem s_for {x : Str} {p pos : Pos} {iter : Expr} {body : List Stmt} {ks : List (Str × NameKind)} {r : List Stmt} {Q : PFq} (ok : c.Ok) (fn : c.Fun) (hk : c.Kinds ks) (hx : (x, NameKind.local) ∈ ks)
    (h : EV B c iter a (fun d a1 => ∃ ds, Items d ds ∧ LoopP B c x body ds a1 (Seq B c r Q X) X) X) (hs : ∀ x, foldedSetIterable iter c.env x = pure x := by intro _; rfl) : EXs B c (.For (.Name x p) iter body [] pos :: r) a Q X :=
  exs_seq (ex_for ok fn hk hx h hs)

/-! conditions that change nothing -/
noncomputable def PureB (B : Bs) (c : Cx) (e : Expr) (a : AS) (p : Bool) (X : PX) : Prop := EB B c e a (fun b a1 => b = p ∧ a1 = a) X
theorem pb_or_nil {pos : Pos} : PureB B c (.BoolOp .Or [] pos) a false X := eb_or_nil ⟨rfl, rfl⟩
theorem pb_and_nil {pos : Pos} : PureB B c (.BoolOp .And [] pos) a true X := eb_and_nil ⟨rfl, rfl⟩
theorem pb_or {e : Expr} {r : List Expr} {pos : Pos} {p q : Bool} (h : PureB B c e a p X) (h2 : p = false → PureB B c (.BoolOp .Or r pos) a q X) : PureB B c (.BoolOp .Or (e :: r) pos) a (p || q) X :=
  eb_or (h.imp fun b a1 hq_ => by
    obtain ⟨e1, e2⟩ := hq_
    subst e1 e2
    refine ⟨fun z => ?_, fun z => ⟨by rw [z]; rfl, rfl⟩⟩
    subst z
    exact h2 rfl)
theorem pb_and {e : Expr} {r : List Expr} {pos : Pos} {p q : Bool} (h : PureB B c e a p X) (h2 : p = true → PureB B c (.BoolOp .And r pos) a q X) : PureB B c (.BoolOp .And (e :: r) pos) a (p && q) X :=
  eb_and (h.imp fun b a1 hq_ => by
    obtain ⟨e1, e2⟩ := hq_
    subst e1 e2
    refine ⟨fun z => ?_, fun z => ⟨by rw [z]; rfl, rfl⟩⟩
    subst z
    exact h2 rfl)
theorem pb_not {e : Expr} {pos : Pos} {p : Bool} (h : PureB B c e a p X) : PureB B c (.UnaryOp .Not e pos) a (!p) X := eb_not (h.imp fun b a1 ⟨e1, e2⟩ => ⟨by rw [e1], e2⟩)
theorem pb_compare {l r : Expr} {op : CmpOp} {pos : Pos} {p : Bool} (h : EV B c l a (fun d1 a1 => EV B c r a1 (fun d2 a2 => T2 B c (compareOp op) d1 d2 a2 (fun d a3 => ∃ b, d = .bool b ∧ (b = p ∧ a3 = a)) X) X) X) (hm : behindInMarks op r = false := by with_unfolding_all rfl) :
    PureB B c (.Compare l [op] [r] pos) a p X := eb_compare h hm
theorem pb_plain {e : Expr} {p : Bool} (h : EV B c e a (fun d a1 => TB B c truthy d a1 (fun b a2 => b = p ∧ a2 = a) X) X)
    (he : ∀ whole, isTrue e c.env whole = (do let v ← whole; standAt e.pos; holding [v] (truthy v)) := by intro _; rfl) : PureB B c e a p X := eb_plain h he
theorem s_ifp {t : Expr} {b o : List Stmt} {pos : Pos} {r : List Stmt} {Q : PFq} {p : Bool} (h : PureB B c t a p X) (h1 : p = true → EXs B c b a (Seq B c r Q X) X) (h2 : p = false → EXs B c o a (Seq B c r Q X) X) : EXs B c (.If t b o pos :: r) a Q X :=
  s_if (EB.imp h fun b' a1 ⟨e1, e2⟩ => by subst e1 e2; exact ⟨h1, h2⟩)

theorem nil_ws {lo lo' : List (Str × AV)} {st st' : List (Addr × List AV)} {Q : PFq} (h : ∀ p ∈ lo', p ∈ lo) (h2 : st'.Sublist st) (q : Q .next ⟨lo', st'⟩) : EXs B c [] ⟨lo, st⟩ Q X := (exs_nil q).weaken (a' := ⟨lo', st'⟩) h h2
theorem cont_ws {lo lo' : List (Str × AV)} {st st' : List (Addr × List AV)} {r : List Stmt} {pos : Pos} {Q : PFq} (h : ∀ p ∈ lo', p ∈ lo) (h2 : st'.Sublist st) (q : Q .cont ⟨lo', st'⟩) : EXs B c (.Continue pos :: r) ⟨lo, st⟩ Q X := (s_continue (a := ⟨lo', st'⟩) q).weaken (a' := ⟨lo', st'⟩) h h2
theorem pb_or_short {e : Expr} {r : List Expr} {pos : Pos} {p : Bool} (h : PureB B c e a p X) (h2 : p = true) : PureB B c (.BoolOp .Or (e :: r) pos) a true X :=
  eb_or (h.imp fun b a1 hq_ => by
    obtain ⟨e1, e2⟩ := hq_
    subst e1 e2
    exact ⟨fun z => absurd (h2.symm.trans z) (by decide), fun z => ⟨rfl, rfl⟩⟩)
theorem FrzLoc.refl {x : Addr} {l : List AV} {k : List (Str × AV)} : FrzLoc x l k k := fun p hp => ⟨p, hp, rfl, .same _⟩
theorem frz_q {P : AV → AS → Prop} {x : Addr} {l : List AV} {lo : List (Str × AV)} {st : List (Addr × List AV)} (q : P (.lst l) ⟨lo, st⟩) :
    ∃ x' l' k' st', AV.ref x = .ref x' ∧ SFrz x' l' ((x, l) :: st) st' ∧ FrzLoc x' l' lo k' ∧ P (.lst l') ⟨k', st'⟩ := ⟨x, l, lo, st, rfl, .out, .refl, q⟩
theorem EX.weaken {st : Stmt} {a' : AS} {Q : PFq} (h : EX B c st a' Q X) (h1 : ∀ p ∈ a'.loc, p ∈ a.loc) (h2 : a'.sto.Sublist a.sto) : EX B c st a Q X := fun T s R => h T s (R.weaken h1 h2)

theorem lset_c {x : Str} {v : AV} {lo l' : List (Str × AV)} {st : List (Addr × List AV)} {r : List Stmt} {Q : PFq} (u : LSet x v lo l') (q : EXs B c r ⟨l', st⟩ Q X) : ∃ l'', LSet x v (AS.mk lo st).loc l'' ∧ EXs B c r ⟨l'', (AS.mk lo st).sto⟩ Q X := ⟨l', u, q⟩
theorem lset_s {x : Str} {v : AV} {lo l' : List (Str × AV)} {st : List (Addr × List AV)} {r : List Stmt} {Q : PFq} (u : LSet x v lo l') (q : EXs B c r ⟨l', st⟩ Q X) : ∃ l'', LSet x v (AS.mk lo st).loc l'' ∧ Seq B c r Q X .next ⟨l'', (AS.mk lo st).sto⟩ := ⟨l', u, q⟩
end
theorem list0 {α : Type} {l : List α} (h : l.length = 0) : l = [] := List.eq_nil_of_length_eq_zero h
theorem listS {α : Type} {l : List α} {n : Nat} (h : l.length = n + 1) : ∃ a r, l = a :: r ∧ r.length = n := by
  cases l with
  | nil => cases h
  | cons a r => exact ⟨a, r, rfl, Nat.succ.inj h⟩
theorem list3 {α : Type} {l : List α} (h : l.length = 3) : ∃ x y z, l = [x, y, z] := by
  obtain ⟨x, r1, e1, h1⟩ := listS h
  obtain ⟨y, r2, e2, h2⟩ := listS h1
  obtain ⟨z, r3, e3, h3⟩ := listS h2
  exact ⟨x, y, z, by rw [e1, e2, e3, list0 h3]⟩
theorem list4 {α : Type} {l : List α} (h : l.length = 4) : ∃ x y z t, l = [x, y, z, t] := by
  obtain ⟨x, r1, e1, h1⟩ := listS h
  obtain ⟨y, z, t, e2⟩ := list3 h1
  exact ⟨x, y, z, t, by rw [e1, e2]⟩
end Mine

namespace Mine
section
open PySem PySem.W PySem.Calls PySem.Spec PyProof.Rows
open Builtin.Str
section
variable {B : Bs} {c : Cx} {n : Nat} {X : PX} {Q : PQ} {a : AS}
theorem SUpd.last {x : Addr} {l l' : List AV} : ∀ fr : List (Addr × List AV), SUpd x l l' (fr ++ [(x, l)]) (fr ++ [(x, l')])
  | [] => .head
  | _ :: r => .tail (SUpd.last r)
noncomputable abbrev MethPost (B : Bs) (c : Cx) (Ty id : String) (es : List Expr) (Q : PQ) (X : PX) : PQ := fun d a1 => MethOf a1 d Ty ∧ EVs B c es a1 (fun ds a2 => TM B c id d ds a2 Q X) X
noncomputable abbrev MethSide (c : Cx) (o : Expr) (name : Str) (apos pos : Pos) (es : List Expr) : Prop :=
  attributeBase o name c.env (eval o c.env) = eval o c.env ∧ ((backTo pos (starEach es c.env)).all (fun x => !x.1) && (backToKw pos (keywordEach [] c.env)).all (fun x => x.1.isSome)
      && decide (es.length + ([] : List Keyword).length + (if ([] : List Keyword).isEmpty then 0 else 1) < 30)) = true ∧ (apos.endLine == pos.line) = true ∧
    (backTo pos (starEach es c.env) = [] ∨ ∃ t r, backTo pos (starEach es c.env) = (false, t) :: r) ∧ (backTo pos (starEach es c.env)).any (·.1) = false
theorem m_append {o : Expr} {apos pos : Pos} {es : List Expr} (h : EV B c o a (MethPost B c "list" "list.append" es Q X) X) (h1 : MethSide c o "append" apos pos es) : EV B c (.Call (.Attribute o "append" apos) es [] pos) a Q X :=
  ev_meth F.plainAttrs_list F.slot_list_append F.type_list_append h h1.1 h1.2.1 h1.2.2.1 h1.2.2.2.1 h1.2.2.2.2
theorem m_pop {o : Expr} {apos pos : Pos} {es : List Expr} (h : EV B c o a (MethPost B c "list" "list.pop" es Q X) X) (h1 : MethSide c o "pop" apos pos es) : EV B c (.Call (.Attribute o "pop" apos) es [] pos) a Q X :=
  ev_meth F.plainAttrs_list F.slot_list_pop F.type_list_pop h h1.1 h1.2.1 h1.2.2.1 h1.2.2.2.1 h1.2.2.2.2
theorem m_insert {o : Expr} {apos pos : Pos} {es : List Expr} (h : EV B c o a (MethPost B c "list" "list.insert" es Q X) X) (h1 : MethSide c o "insert" apos pos es) : EV B c (.Call (.Attribute o "insert" apos) es [] pos) a Q X :=
  ev_meth F.plainAttrs_list F.slot_list_insert F.type_list_insert h h1.1 h1.2.1 h1.2.2.1 h1.2.2.2.1 h1.2.2.2.2
theorem m_starts {o : Expr} {apos pos : Pos} {es : List Expr} (h : EV B c o a (MethPost B c "str" "str.startswith" es Q X) X) (h1 : MethSide c o "startswith" apos pos es) : EV B c (.Call (.Attribute o "startswith" apos) es [] pos) a Q X :=
  ev_meth F.plainAttrs_str F.slot_str_startswith F.type_str_startswith h h1.1 h1.2.1 h1.2.2.1 h1.2.2.2.1 h1.2.2.2.2
theorem m_split {o : Expr} {apos pos : Pos} {es : List Expr} (h : EV B c o a (MethPost B c "str" "str.split" es Q X) X) (h1 : MethSide c o "split" apos pos es) : EV B c (.Call (.Attribute o "split" apos) es [] pos) a Q X :=
  ev_meth F.plainAttrs_str F.slot_str_split F.type_str_split h h1.1 h1.2.1 h1.2.2.1 h1.2.2.2.1 h1.2.2.2.2
theorem m_join {o : Expr} {apos pos : Pos} {es : List Expr} (h : EV B c o a (MethPost B c "str" "str.join" es Q X) X) (h1 : MethSide c o "join" apos pos es) : EV B c (.Call (.Attribute o "join" apos) es [] pos) a Q X :=
  ev_meth F.plainAttrs_str F.slot_str_join F.type_str_join h h1.1 h1.2.1 h1.2.2.1 h1.2.2.2.1 h1.2.2.2.2
theorem tc_len_tup {l : List AV} (hl : l.length < 2 ^ 24) (q : Q (.int l.length) a) : TCall B c (.builtin "len") [.tup l] a Q X := fun T s vs R hv => by
  obtain ⟨v, rfl, r⟩ := vrs1 hv
  cases r with
  | @tup x ws m _ e rs =>
  have hx := R.tab _ _ e
  have e2 : ws.toArray.size = l.length := by simp [rs.length]
  refine PySem.P.len_tuple hx (by rw [e2]; omega) (pv0 (R.toks _) ?_ q)
  rw [e2]; exact .int _ _
theorem n_attr {K : Frag} {G fI : Addr} {x n : Str} {np pos : Pos} {k d : Str} {i : Int} {dv : AV} {ks : List (Str × NameKind)} {lo : List (Str × AV)} {st : List (Addr × List AV)} (ok : c.Ok) (I : InitOk B K G fI) (hk : c.Kinds ks) (hn : (n, NameKind.local) ∈ ks) (hm : (n, .exc B.FE k i d) ∈ lo) (hdb : (n == ("__debug__" : Str)) = false)
    (hx : (x = "kind" ∧ dv = .str k) ∨ (x = "at" ∧ dv = .int i) ∨ (x = "detail" ∧ dv = .str d)) (q : Q dv ⟨lo, st⟩) : EV B c (.Attribute (.Name n np) x pos) ⟨lo, st⟩ Q X := ev_attr ok I hk hn hm hdb hx q
theorem app_len (x y : Str) : (x ++ y).length = x.length + y.length := by
  show (x.cps ++ y.cps).size = _
  exact Array.size_append ..
theorem lenL1 : (("p cnf " : Str)).length = 6 := by decide +kernel
theorem lenL2 : ((" " : Str)).length = 1 := by decide +kernel
theorem lenL3 : (("\n" : Str)).length = 1 := by decide +kernel
theorem lenE : Str.empty.length = 0 := by decide +kernel
theorem lenZ : (("0\n" : Str)).length = 2 := by decide +kernel
theorem item_n {P : AV → Prop} {d : AV} {i : Nat} {l : List AV} {e : AV} (hs : SeqOf a d l) (h1 : i < 2 ^ 24) (hi : l[i]? = some e) (q : P e) :
    ∃ i' l' e', AV.int (i : Int) = .int i' ∧ SeqOf a d l' ∧ 0 ≤ i' ∧ i' < 2 ^ 62 ∧ l'[i'.toNat]? = some e' ∧ P e' :=
  ⟨_, l, e, rfl, hs, by omega, by omega, by simpa using hi, q⟩
end

/-! what is not swapped -/
section
variable {t : Option Expr} {ln : Nat} {env : Env}
theorem swaps_list {es : List Expr} {p : Pos} : swapsWith (.List es p) t ln env = pure false := rfl
theorem swaps_tuple {es : List Expr} {k : Nat} {p : Pos} : swapsWith (.Tuple es k p) t ln env = pure false := rfl
theorem swaps_name {x : Str} {p : Pos} : swapsWith (.Name x p) t ln env = pure false := rfl
theorem swaps_const {x : Const} {k : Nat} {p : Pos} : swapsWith (.Constant x k p) t ln env = pure false := rfl
theorem swaps_call {f : Expr} {es : List Expr} {ks : List Keyword} {p : Pos} : swapsWith (.Call f es ks p) t ln env = pure false := rfl
theorem swaps_sub {f g : Expr} {p : Pos} : swapsWith (.Subscript f g p) t ln env = pure false := rfl
theorem swaps_ifexp {f g h : Expr} {p : Pos} : swapsWith (.IfExp f g h p) t ln env = pure false := rfl
theorem swaps_binop {f g : Expr} {o : Operator} {p : Pos} : swapsWith (.BinOp f o g p) t ln env = pure false := rfl
theorem swaps2_call {t : Expr} {f : Expr} {es : List Expr} {ks : List Keyword} {p : Pos} : swapsWithSole [t] (.Call f es ks p) ln env = pure false := rfl
theorem swaps2_sub {t : Expr} {f g : Expr} {p : Pos} : swapsWithSole [t] (.Subscript f g p) ln env = pure false := rfl
theorem swaps2_name {t : Expr} {x : Str} {p : Pos} : swapsWithSole [t] (.Name x p) ln env = pure false := rfl
theorem swaps3_call {x y : Expr} {k : Nat} {tp : Pos} {f : Expr} {es : List Expr} {ks : List Keyword} {p : Pos} : swappedStores [.Tuple [x, y] k tp] (.Call f es ks p) env = pure none := rfl
theorem swaps3_sub {x y : Expr} {k : Nat} {tp : Pos} {f g : Expr} {p : Pos} : swappedStores [.Tuple [x, y] k tp] (.Subscript f g p) env = pure none := rfl
theorem swaps3_name {x y : Expr} {k : Nat} {tp : Pos} {z : Str} {p : Pos} : swappedStores [.Tuple [x, y] k tp] (.Name z p) env = pure none := rfl
end
section
variable {B : Bs} {c : Cx} {a : AS} {X : PX} {Q : PQ}
theorem s_unpack2 {x y : Str} {px py tp pos : Pos} {k : Nat} {e : Expr} {ks : List (Str × NameKind)} {r : List Stmt} {Q : PFq} (ok : c.Ok) (hh : c.A.handled = none) (hk : c.Kinds ks) (hx : (x, NameKind.local) ∈ ks) (hy : (y, NameKind.local) ∈ ks)
    (h : EV B c e a (fun d a1 => ∃ d1 d2 l1 l2, d = .tup [d1, d2] ∧ LSet x d1 a1.loc l1 ∧ LSet y d2 l1 l2 ∧ EXs B c r ⟨l2, a1.sto⟩ Q X) X)
    (hs : swapsWithSole [.Tuple [.Name x px, .Name y py] k tp] e pos.line c.env = pure false)
    (hw : swappedStores [.Tuple [.Name x px, .Name y py] k tp] e c.env = pure none) : EXs B c (.Assign [.Tuple [.Name x px, .Name y py] k tp] e pos :: r) a Q X :=
  exs_seq (ex_unpack2 ok hh hk hx hy h hs hw)
theorem tc_of {x : Str} {i n : Nat} {names : List Str} {f : Addr} {fd : FuncData} {ds : List AV} {d : AV} {loc : List (Str × AV)} (F : FnOk B x i names f fd) (G : Good c n) (hn : n ≤ 20) (nol : B.h.NoLimit) (hl : ds.length = names.length) (hz : names.zip ds = loc)
    (h : ∀ c', At c' (n + 1) i → EXs B c' (bodyOf i) ⟨loc, a.sto⟩ (fun f a1 => f = .ret d ∧ a1.sto = a.sto) (fun _ _ => False)) (q : Q d a) : TCall B c (.ref f) ds a Q X :=
  tcall_top F G hn nol hl fun c' A => by
    rw [hz]
    exact (h c' A).imp (fun f a1 ⟨e1, e2⟩ => by subst e1; rw [e2]; exact q) (fun _ _ x => x.elim)
end
end
open PySem PySem.W PySem.Calls PySem.Spec PyProof.Rows
open Builtin.Str
set_option compiler.extract_closed false
local macro_rules | `(tactic| walk_at "mem") => `(tactic| (first | (with_reducible exact mH) | (with_reducible exact mL) | (with_reducible refine mT ?_; walk_at "mem")))
local macro_rules | `(tactic| walk_at "lset") => `(tactic| (first | exact LSet.nil | (with_reducible refine LSet.hitK ?_; kernel_rfl) | (refine' LSet.skipK ?k1 ?k2; (case k1 => decide +kernel); (case k2 => walk_at "lset"))))
local macro_rules | `(tactic| walk_at "supd") => `(tactic| (first | with_reducible exact SUpd.head | exact SUpd.last _ | (refine' SUpd.tail ?k1; (case k1 => walk_at "supd"))))
local macro_rules | `(tactic| walk_at "seqof") => `(tactic| (first | exact SeqOf.tup _ | exact SeqOf.lst _ | exact SeqOf.ref (by walk_at "mem")))
local macro_rules | `(tactic| walk_at "methof") => `(tactic| (first | exact MethOf.str _ _ | exact MethOf.ref (by walk_at "mem")))
local macro_rules | `(tactic| walk_at "he") => `(tactic| (first | exact Or.inl rfl | exact Or.inr ⟨_, _, rfl⟩))
local macro_rules | `(tactic| walk_at "ms") => `(tactic| (exact ⟨rfl, rfl, rfl, by walk_at "he", rfl⟩))
local macro_rules | `(tactic| walk_at "sub") => `(tactic| (first | exact sub_nil | (with_reducible refine sub_keep ?_; walk_at "sub") | (refine sub_drop ?_; walk_at "sub")))
local macro_rules | `(tactic| walk_at "sz") => `(tactic| (simp only [app_len, lenL1, lenL2, lenL3, lenE, lenZ, sizeLine_eq]; omega))
local macro_rules | `(tactic| walk_at "subl") => `(tactic| (first | with_reducible exact List.Sublist.refl _ | (refine List.Sublist.cons _ ?_; walk_at "subl")))
local macro_rules | `(tactic| walk_at "len") => `(tactic| (first | decide | (simp only [List.length_map, List.length_cons, List.length_nil]; omega) | (simp; done) | (simp; omega) | (simp [strAVs]; omega) | omega))
local macro_rules | `(tactic| walk_at "sw") => `(tactic| (first | exact swaps_list | exact swaps_tuple | exact swaps_name | exact swaps_const | exact swaps_call | exact swaps_sub | exact swaps_ifexp | exact swaps_binop | rfl))
local macro_rules | `(tactic| walk_at "sw2") => `(tactic| (first | exact swaps2_call | exact swaps2_sub | exact swaps2_name | rfl))
local macro_rules | `(tactic| walk_at "sw3") => `(tactic| (first | exact swaps3_call | exact swaps3_sub | exact swaps3_name | rfl))
local macro_rules | `(tactic| walk_at "ev") => `(tactic| (first | ((with_reducible show EV _ _ (Expr.Name _ _) _ _ _); refine n_name (by assumption) (by assumption) (by decide +kernel) (by walk_at "mem") (by decide +kernel) ?_) | (with_reducible refine ev_int ?_) | (with_reducible refine ev_str ?_) | (with_reducible refine ev_none ?_) | (with_reducible refine ev_bool ?_) | (with_reducible refine ev_binop ?_) | ((with_reducible show EV _ _ (Expr.Compare _ [_] [_] _) _ _ _); refine ev_compare ?_) | ((with_reducible show EV _ _ (Expr.IfExp _ _ _ _) _ _ _); refine ev_ifexp ?_) | ((with_reducible show EV _ _ (Expr.Tuple _ _ _) _ _ _); refine ev_tuple ?_) | ((with_reducible show EV _ _ (Expr.List _ _) _ _ _); refine ev_list ?_) | ((with_reducible show EV _ _ (Expr.UnaryOp UnaryOp.USub _ _) _ _ _); refine ev_neg ?_) | ((with_reducible show EV _ _ (Expr.Call (Expr.Name _ _) _ [] _) _ _ _); refine ev_call_val (by assumption) (by assumption) (by decide +kernel) (by with_reducible assumption) (by first | exact Or.inl ⟨_, rfl⟩ | exact Or.inr ⟨_, rfl⟩) ?_ (by decide +kernel) (by walk_at "he") (by rfl)) | ((with_reducible show EV _ _ (Expr.Call (Expr.Name _ _) _ [] _) _ _ _); refine ev_call_top (by with_reducible assumption) (by assumption) (by decide +kernel) ?_ (by decide +kernel) (by walk_at "he")) | ((with_reducible show EV _ _ (Expr.Attribute (Expr.Name _ _) _ _) _ _ _); refine n_attr (by assumption) (by assumption) (by assumption) (by decide +kernel) (by walk_at "mem") (by decide +kernel) (by first | exact Or.inl ⟨rfl, rfl⟩ | exact Or.inr (Or.inl ⟨rfl, rfl⟩) | exact Or.inr (Or.inr ⟨rfl, rfl⟩)) ?_) | ((with_reducible show EV _ _ (Expr.JoinedStr (_ :: _ :: _) _) _ _ _); refine ev_joined ?_) | ((with_reducible show EV _ _ (Expr.FormattedValue _ _ _ _) _ _ _); refine ev_field_int ?_) | ((with_reducible show EV _ _ (Expr.Subscript _ (Expr.Slice (some _) none none _) _) _ _ _); refine ev_str_from (k := 1) ?_) | ((with_reducible show EV _ _ (Expr.Subscript _ (Expr.Slice none (some _) none _) _) _ _ _); refine ev_list_upto ?_) | ((with_reducible show EV _ _ (Expr.Subscript _ _ _) _ _ _); refine ev_item ?_) | ((with_reducible show EV _ _ (Expr.Call (Expr.Attribute _ "append" _) _ [] _) _ _ _); refine m_append ?_ (by walk_at "ms")) | ((with_reducible show EV _ _ (Expr.Call (Expr.Attribute _ "pop" _) _ [] _) _ _ _); refine m_pop ?_ (by walk_at "ms")) | ((with_reducible show EV _ _ (Expr.Call (Expr.Attribute _ "insert" _) _ [] _) _ _ _); refine m_insert ?_ (by walk_at "ms")) | ((with_reducible show EV _ _ (Expr.Call (Expr.Attribute _ "startswith" _) _ [] _) _ _ _); refine m_starts ?_ (by walk_at "ms")) | ((with_reducible show EV _ _ (Expr.Call (Expr.Attribute _ "split" _) _ [] _) _ _ _); refine m_split ?_ (by walk_at "ms")) | ((with_reducible show EV _ _ (Expr.Call (Expr.Attribute _ "join" _) _ [] _) _ _ _); refine m_join ?_ (by walk_at "ms"))))
local macro_rules | `(tactic| walk_at "evs") => `(tactic| (first | ((with_reducible show EJ _ _ _ [] _ _ _); refine ej_nil (by walk_at "sz") ?_) | ((with_reducible show EJ _ _ _ (_ :: _) _ _ _); refine ej_cons ?_) | ((with_reducible show EVs _ _ [] _ _ _); refine evs_nil ?_) | ((with_reducible show EVs _ _ (_ :: _) _ _ _); refine evs_cons ?_)))
local macro_rules | `(tactic| walk_at "eb") => `(tactic| (first | ((with_reducible show EB _ _ (Expr.Compare _ [_] [_] _) _ _ _); refine eb_compare ?_) | ((with_reducible show EB _ _ (Expr.UnaryOp UnaryOp.Not _ _) _ _ _); refine eb_not ?_) | ((with_reducible show EB _ _ (Expr.BoolOp BoolOp.And [] _) _ _ _); refine eb_and_nil ?_) | ((with_reducible show EB _ _ (Expr.BoolOp BoolOp.And (_ :: _) _) _ _ _); refine eb_and ?_) | ((with_reducible show EB _ _ (Expr.BoolOp BoolOp.Or [] _) _ _ _); refine eb_or_nil ?_) | ((with_reducible show EB _ _ (Expr.BoolOp BoolOp.Or (_ :: _) _) _ _ _); refine eb_or ?_) | ((with_reducible show EB _ _ (_) _ _ _); refine eb_plain ?_)))
local macro_rules | `(tactic| walk_at "pb") => `(tactic| (first | ((with_reducible show PureB _ _ (Expr.BoolOp BoolOp.Or [] _) _ _ _); exact pb_or_nil) | ((with_reducible show PureB _ _ (Expr.BoolOp BoolOp.Or (_ :: _) _) _ _ _); refine' pb_or ?k1 ?k2; (case k1 => walk_at "pb"); (case k2 => (intro _; walk_at "pb"))) | ((with_reducible show PureB _ _ (Expr.BoolOp BoolOp.And [] _) _ _ _); exact pb_and_nil) | ((with_reducible show PureB _ _ (Expr.BoolOp BoolOp.And (_ :: _) _) _ _ _); refine' pb_and ?k1 ?k2; (case k1 => walk_at "pb"); (case k2 => (intro _; walk_at "pb"))) | ((with_reducible show PureB _ _ (Expr.UnaryOp UnaryOp.Not _ _) _ _ _); refine' pb_not ?k1; (case k1 => walk_at "pb")) | ((with_reducible show PureB _ _ (Expr.Compare _ [_] [_] _) _ _ _); refine' pb_compare ?k1; (case k1 => ((repeat walk_at "w1"); exact ⟨rfl, rfl⟩))) | ((with_reducible show PureB _ _ (_) _ _ _); refine' pb_plain ?k1; (case k1 => ((repeat walk_at "w1"); exact ⟨rfl, rfl⟩)))))
local macro_rules | `(tactic| walk_at "t2") => `(tactic| (first | (with_reducible refine t2_eq_int ?_) | (with_reducible refine t2_ne_int ?_) | (with_reducible refine t2_lt_int ?_) | (with_reducible refine t2_gt_int ?_) | (with_reducible refine t2_ge_int ?_) | (with_reducible refine t2_add_int ?_) | (with_reducible refine t2_sub_int ?_) | (with_reducible refine t2_iadd_int ?_) | (with_reducible refine t2_eq_str ?_) | (with_reducible refine t2_ne_str ?_) | (with_reducible refine t2_lt_str ?_) | (with_reducible refine t2_gt_str ?_) | ((with_reducible show T2 _ _ (binaryOp Operator.Mult) (AV.int _) (AV.int _) _ _ _); refine t2_mul_int (by first | exact IntMulOk.of_right (by decide +kernel) | exact IntMulOk.of_left (by decide +kernel)) ?_) | ((with_reducible show T2 _ _ (binaryOp Operator.Pow) (AV.int _) (AV.int _) _ _ _); refine t2_pow_int (by decide) (by decide +kernel) ?_) | (with_reducible refine t2_is_none ?_)))
local macro_rules | `(tactic| walk_at "st") => `(tactic| (first | ((with_reducible show EXs _ _ (Stmt.If _ _ _ _ :: _) _ _ _); refine' s_ifp ?k1 ?k2 ?k3; (case k1 => walk_at "pb")) | ((with_reducible show EXs _ _ (Stmt.Assign [Expr.Name _ _] _ _ :: _) _ _ _); refine s_assign (by assumption) (by assumption) (by decide +kernel) ?_ (by walk_at "sw")) | ((with_reducible show EXs _ _ (Stmt.Assign [Expr.Tuple [Expr.Name _ _, Expr.Name _ _] _ _] _ _ :: _) _ _ _); refine s_unpack2 (by assumption) (by assumption) (by assumption) (by decide +kernel) (by decide +kernel) ?_ (by walk_at "sw2") (by walk_at "sw3")) | (with_reducible refine s_return ?_) | ((with_reducible show EXs _ _ (Stmt.Assign [Expr.Subscript _ _ _] _ _ :: _) _ _ _); refine s_setitem (by assumption) ?_ (by walk_at "sw")) | ((with_reducible show EXs _ _ (Stmt.AugAssign (Expr.Name _ _) _ _ _ :: _) _ _ _); refine s_aug (by assumption) (by assumption) (by decide +kernel) (by walk_at "mem") ?_) | ((with_reducible show EXs _ _ (Stmt.Expr _ _ :: _) _ _ _); refine s_expr (by assumption) ?_ (by walk_at "sw")) | ((with_reducible show EXs _ _ (Stmt.AugAssign (Expr.Subscript _ _ _) _ _ _ :: _) _ _ _); refine s_augitem (by assumption) ?_) | ((with_reducible show EXs _ _ (Stmt.Raise _ none _ :: _) _ _ _); refine s_raise (by assumption) (by assumption) (by assumption) (by assumption) (by assumption) (by decide +kernel) (by with_reducible assumption) (by decide +kernel) (by rfl) ?_ ⟨_, _, rfl⟩) | ((with_reducible show EXs _ _ (Stmt.For (Expr.Name _ _) _ _ [] _ :: _) _ _ _); refine s_for (by assumption) (by assumption) (by assumption) (by decide +kernel) ?_) | ((with_reducible show EXs _ _ [] _ (Seq _ _ _ _ _) _); refine exs_nil ?_)))
local macro_rules | `(tactic| walk_at "q") => `(tactic| (first | ((with_reducible show Str.length _ ≤ sizeLine ∧ _); refine And.intro (by walk_at "sz") ?_) | ((with_reducible show (true = true → _) ∧ (true = false → _)); refine And.intro (fun _ => ?_) (fun e => nomatch e)) | ((with_reducible show (false = true → _) ∧ (false = false → _)); refine And.intro (fun e => nomatch e) (fun _ => ?_)) | ((with_reducible show (false = false → _) ∧ (false = true → _)); refine And.intro (fun _ => ?_) (fun e => nomatch e)) | ((with_reducible show (true = false → _) ∧ (true = true → _)); refine And.intro (fun e => nomatch e) (fun _ => ?_)) | ((with_reducible show ∃ _ _ _, (_ ∨ _) ∧ _); first | refine raise_q3 ?_ | refine raise_q2 ?_) | ((with_reducible show MethOf _ _ _ ∧ _); refine And.intro (by walk_at "methof") ?_) | ((with_reducible show TM _ _ _ (AV.str _) [AV.str _] _ _ _); refine tm_startswith ?_) | ((with_reducible show TM _ _ _ (AV.ref _) [_] _ _ _); refine tm_append (by assumption) (by walk_at "supd") (by walk_at "len") ?_) | ((with_reducible show ∃ _, LSet _ _ _ _ ∧ EXs _ _ _ _ _ _); refine lset_c (by walk_at "lset") ?_) | ((with_reducible show ∃ _, LSet _ _ _ _ ∧ Seq _ _ _ _ _ AF.next _); refine lset_s (by walk_at "lset") ?_) | ((with_reducible show ∃ _, LSet _ _ _ _ ∧ _); refine lset_q (by walk_at "lset") ?_) | (with_reducible refine bool_q ?_) | (with_reducible refine int_q ?_) | (with_reducible refine str_q ?_) | ((with_reducible show _ ≤ 1000 ∧ _); refine And.intro (by simp) ?_) | ((with_reducible show TCall _ _ (Value.type "tuple") [AV.ref _] _ _ _); refine tc_tuple_ref (by walk_at "mem") (by walk_at "len") ?_) | ((with_reducible show ∀ _ : Addr, _); intro _) | (with_reducible refine seq_next ?_) | (with_reducible refine seq_ret ?_) | (with_reducible refine seq_cont ?_) | (with_reducible refine tb_bool ?_) | ((with_reducible show TB _ _ truthy (AV.lst _) _ _ _); refine tb_lst (by walk_at "len") ?_) | ((with_reducible show TB _ _ truthy (AV.ref _) _ _ _); refine tb_ref (by walk_at "mem") (by walk_at "len") ?_) | (with_reducible refine tc_int_int ?_) | (with_reducible refine tc_abs ?_) | (with_reducible refine tc_range ?_) | ((with_reducible show TCall _ _ (Value.builtin "len") [AV.tup _] _ _ _); refine tc_len_tup (by walk_at "len") ?_) | ((with_reducible show TCall _ _ (Value.builtin "len") [AV.lst _] _ _ _); refine tc_len_lst (by walk_at "len") ?_) | ((with_reducible show TCall _ _ (Value.builtin "len") [AV.ref _] _ _ _); refine tc_len_ref (by walk_at "mem") (by walk_at "len") ?_) | ((with_reducible show TCall _ _ (Value.builtin "len") [AV.str _] _ _ _); refine tc_len_str (by walk_at "len") ?_) | ((with_reducible show ∃ _ _ _ _, AV.ref _ = AV.ref _ ∧ AV.int _ = AV.int _ ∧ 0 ≤ _ ∧ _ < 2 ^ 62 ∧ _); refine aug_q (by walk_at "mem") (by decide) (by decide) (by rfl) ?_) | ((with_reducible show ∃ _ _ _, AV.int _ = AV.int _ ∧ _ ∧ _); first | refine item_n (by walk_at "seqof") (by assumption) (by assumption) ?_ | refine item_q (by walk_at "seqof") (by decide) (by decide) (by rfl) ?_)))
local macro_rules | `(tactic| walk_at "q0") => `(tactic| (first | ((with_reducible show Str.length _ ≤ sizeLine ∧ _); refine And.intro (by walk_at "sz") ?_) | ((with_reducible show (true = true → _) ∧ (true = false → _)); refine And.intro (fun _ => ?_) (fun e => nomatch e)) | ((with_reducible show (false = true → _) ∧ (false = false → _)); refine And.intro (fun e => nomatch e) (fun _ => ?_)) | ((with_reducible show (false = false → _) ∧ (false = true → _)); refine And.intro (fun _ => ?_) (fun e => nomatch e)) | ((with_reducible show (true = false → _) ∧ (true = true → _)); refine And.intro (fun e => nomatch e) (fun _ => ?_)) | ((with_reducible show ∃ _ _ _, (_ ∨ _) ∧ _); first | refine raise_q3 ?_ | refine raise_q2 ?_) | ((with_reducible show MethOf _ _ _ ∧ _); refine And.intro (by walk_at "methof") ?_) | ((with_reducible show TM _ _ _ (AV.str _) [AV.str _] _ _ _); refine tm_startswith ?_) | ((with_reducible show TM _ _ _ (AV.ref _) [_] _ _ _); refine tm_append (by assumption) (by walk_at "supd") (by walk_at "len") ?_) | ((with_reducible show ∃ _, LSet _ _ _ _ ∧ EXs _ _ _ _ _ _); refine lset_c (by walk_at "lset") ?_) | ((with_reducible show ∃ _, LSet _ _ _ _ ∧ Seq _ _ _ _ _ AF.next _); refine lset_s (by walk_at "lset") ?_) | ((with_reducible show ∃ _, LSet _ _ _ _ ∧ _); refine lset_q (by walk_at "lset") ?_) | (with_reducible refine bool_q ?_) | (with_reducible refine int_q ?_) | (with_reducible refine str_q ?_) | ((with_reducible show _ ≤ 1000 ∧ _); refine And.intro (by simp) ?_) | ((with_reducible show TCall _ _ (Value.type "tuple") [AV.ref _] _ _ _); refine tc_tuple_ref (by walk_at "mem") (by walk_at "len") ?_) | ((with_reducible show ∀ _ : Addr, _); intro _) | (with_reducible refine seq_next ?_) | (with_reducible refine seq_ret ?_) | (with_reducible refine seq_cont ?_) | (with_reducible refine tb_bool ?_) | ((with_reducible show TB _ _ truthy (AV.lst _) _ _ _); refine tb_lst (by walk_at "len") ?_) | ((with_reducible show TB _ _ truthy (AV.ref _) _ _ _); refine tb_ref (by walk_at "mem") (by walk_at "len") ?_) | (with_reducible refine tc_int_int ?_) | (with_reducible refine tc_abs ?_) | (with_reducible refine tc_range ?_) | ((with_reducible show TCall _ _ (Value.builtin "len") [AV.tup _] _ _ _); refine tc_len_tup (by walk_at "len") ?_) | ((with_reducible show TCall _ _ (Value.builtin "len") [AV.lst _] _ _ _); refine tc_len_lst (by walk_at "len") ?_) | ((with_reducible show TCall _ _ (Value.builtin "len") [AV.ref _] _ _ _); refine tc_len_ref (by walk_at "mem") (by walk_at "len") ?_) | ((with_reducible show TCall _ _ (Value.builtin "len") [AV.str _] _ _ _); refine tc_len_str (by walk_at "len") ?_) | ((with_reducible show ∃ _ _ _ _, AV.ref _ = AV.ref _ ∧ AV.int _ = AV.int _ ∧ 0 ≤ _ ∧ _ < 2 ^ 62 ∧ _); refine aug_q (by walk_at "mem") (by decide) (by decide) (by rfl) ?_) | ((with_reducible show ∃ _ _ _, AV.int _ = AV.int _ ∧ _ ∧ _); first | refine item_n (by walk_at "seqof") (by assumption) (by assumption) ?_ | refine item_q (by walk_at "seqof") (by decide) (by decide) (by rfl) ?_)))
local macro_rules | `(tactic| walk_at "w0") => `(tactic| (first | ((with_reducible show EV _ _ _ _ _ _); walk_at "ev") | walk_at "evs" | ((with_reducible show T2 _ _ _ _ _ _ _ _); walk_at "t2") | ((with_reducible show EB _ _ _ _ _ _); walk_at "eb") | walk_at "q0"))
local macro_rules | `(tactic| walk_at "w1") => `(tactic| (first | ((with_reducible show EV _ _ _ _ _ _); walk_at "ev") | ((with_reducible show EXs _ _ _ _ _ _); walk_at "st") | walk_at "evs" | ((with_reducible show T2 _ _ _ _ _ _ _ _); walk_at "t2") | ((with_reducible show EB _ _ _ _ _ _); walk_at "eb") | walk_at "q"))
section
open PySem PySem.W PySem.Calls PySem.Spec PyProof.Rows
structure Pot (n : Nat) where
  p0 : Nat
  p1 : Int
  p2 : Int
  b0 : p0 ≤ n
  a1 : 0 ≤ p1
  b1 : p1 < 10 ^ 60
  a2 : 0 ≤ p2
  b2 : p2 < 1009
noncomputable def Pot.av {n : Nat} (p : Pot n) : List AV := [.int p.p0, .int p.p1, .int p.p2]

theorem pick_fd {p lim : Int} (h1 : 1 ≤ lim) (h0 : 0 ≤ p) (h2 : p < 10 ^ 60) : 0 ≤ p.fmod lim ∧ p.fmod lim < lim ∧ 0 ≤ p.fdiv lim ∧ p.fdiv lim < 10 ^ 60 := by
  have e1 : p.fmod lim = p % lim := Int.fmod_eq_emod_of_nonneg p (by omega)
  have e2 : p.fdiv lim = p / lim := Int.fdiv_eq_ediv_of_nonneg p (by omega)
  rw [e1, e2]
  refine ⟨Int.emod_nonneg _ (by omega), Int.emod_lt_of_pos _ (by omega), Int.ediv_nonneg h0 (by omega), ?_⟩
  exact Int.lt_of_le_of_lt (Int.ediv_le_self lim h0) h2

section
variable {B : Bs} {c : Cx} {n : Nat} {X : PX}
set_option maxHeartbeats 4000000 in
theorem pick_body (g_int : GName B "int" (.type "int")) (g_len : GName B "len" (.builtin "len")) (G : At c n 8) {cells : List Int} (hc : ∀ z ∈ cells, 0 ≤ z ∧ z < 10 ^ 60) (hl : cells.length ≤ 40) {pot : Addr} {p : Pot cells.length} {lim : Int} (h1 : 1 ≤ lim) (h2 : lim ≤ 1000) {fr : List (Addr × List AV)} :
    EXs B c (bodyOf 8) ⟨[("cells", .lst (cells.map .int)), ("pot", .ref pot), ("limit", .int lim)], fr ++ [(pot, p.av)]⟩
      (fun f a => ∃ d p', f = .ret (.int d) ∧ 0 ≤ d ∧ d < lim ∧ a.sto = fr ++ [(pot, Pot.av (n := cells.length) p')]) X := by
  have ok := G.ok
  have hk := G.kinds
  have hh := G.fn.handled
  refine exs_seq (ex_if ?_)
  repeat walk_at "w1"
  have hne : lim ≠ 0 := by omega
  refine ⟨fun e => ?_, fun e => ?_⟩
  · have e : 0 < p.p1 := by simpa using e
    repeat walk_at "w1"
    refine t2_mod_int hne ?_
    repeat walk_at "w1"
    refine t2_div_int hne (PyProof.noPylong_small (by omega)) ?_
    repeat walk_at "w1"
    refine set_q (by walk_at "supd") (by decide) (by simp [Pot.av]) (by simp [Pot.av]) ?_
    repeat walk_at "w1"
    obtain ⟨f1, f2, f3, f4⟩ := pick_fd (p := p.p1) h1 p.a1 p.b1
    exact ⟨_, ⟨p.p0, p.p1.fdiv lim, p.p2, p.b0, f3, f4, p.a2, p.b2⟩, rfl, f1, f2, rfl⟩
  · repeat walk_at "w1"
    all_goals intro e
    · have hlt : p.p0 < cells.length := by simpa using e
      have hz := hc cells[p.p0] (List.getElem_mem hlt)
      repeat walk_at "w1"
      refine item_q (e := .int cells[p.p0]) (by walk_at "seqof") (by omega) (by omega) (by simp [hlt]) ?_
      repeat walk_at "w1"
      refine aug_q2 (by walk_at "supd") (by simp [Pot.av]) (by simp [Pot.av]) ?_
      repeat walk_at "w1"
      all_goals intro e
      · repeat walk_at "w1"
        refine t2_div_int hne (PyProof.noPylong_small (by omega)) ?_
        repeat walk_at "w1"
        refine set_q (by walk_at "supd") (by decide) (by simp [Pot.av]) (by simp [Pot.av]) ?_
        repeat walk_at "w1"
        refine t2_mod_int hne ?_
        repeat walk_at "w1"
        obtain ⟨f1, f2, f3, f4⟩ := pick_fd (p := cells[p.p0]) h1 hz.1 hz.2
        exact ⟨_, ⟨p.p0 + 1, cells[p.p0].fdiv lim, p.p2, by omega, f3, f4, p.a2, p.b2⟩, rfl, f1, f2, rfl⟩
      · repeat walk_at "w1"
        refine t2_mod_int (by decide) ?_
        repeat walk_at "w1"
        refine set_q (by walk_at "supd") (by decide) (by simp [Pot.av]) (by simp [Pot.av]) ?_
        repeat walk_at "w1"
        refine t2_mod_int hne ?_
        repeat walk_at "w1"
        obtain ⟨f1, f2, -, -⟩ := pick_fd (p := cells[p.p0]) h1 hz.1 hz.2
        exact ⟨_, ⟨p.p0 + 1, p.p1, (p.p2 * 37 + cells[p.p0]).fmod 1009, by omega, p.a1, p.b1, Int.fmod_nonneg_of_pos _ (by decide), Int.fmod_lt_of_pos _ (by decide)⟩, rfl, f1, f2, rfl⟩
    · repeat walk_at "w1"
      refine t2_mod_int (by decide) ?_
      repeat walk_at "w1"
      refine set_q (by walk_at "supd") (by decide) (by simp [Pot.av]) (by simp [Pot.av]) ?_
      repeat walk_at "w1"
      refine t2_mod_int hne ?_
      repeat walk_at "w1"
      have g1 : 0 ≤ (p.p2 * 13 + 7).fmod 1009 := Int.fmod_nonneg_of_pos _ (by decide)
      have g2 : (p.p2 * 13 + 7).fmod 1009 < 1009 := Int.fmod_lt_of_pos _ (by decide)
      obtain ⟨f1, f2, -, -⟩ := pick_fd (p := (p.p2 * 13 + 7).fmod 1009) h1 g1 (by omega)
      exact ⟨_, ⟨p.p0, p.p1, (p.p2 * 13 + 7).fmod 1009, p.b0, p.a1, p.b1, g1, g2⟩, rfl, f1, f2, rfl⟩
end
end

section
open PySem PySem.W PySem.Calls PySem.Spec PyProof.Rows
section
variable {B : Bs} {c : Cx} {a : AS} {Q : PQ} {X : PX}
end

set_option genSizeOf false in
set_option genInjectivity false in
/-- what the run of the top left -/
structure Wd (B : Bs) where
  K : Frag
  G : Addr
  fI : Addr
  init : InitOk B K G fI
  lim : B.h.NoLimit
  g_fe : GName B "FormatError" (.ref B.FE)
  g_int : GName B "int" (.type "int")
  g_str : GName B "str" (.type "str")
  g_tuple : GName B "tuple" (.type "tuple")
  g_list : GName B "list" (.type "list")
  g_range : GName B "range" (.type "range")
  g_len : GName B "len" (.builtin "len")
  g_abs : GName B "abs" (.builtin "abs")
  g_min : GName B "min" (.builtin "min")
  f4 : Addr
  d4 : FuncData
  F4 : FnOk B "dimacs_text" 4 ["count", "clauses"] f4 d4
  f5 : Addr
  d5 : FuncData
  F5 : FnOk B "whole_word" 5 ["word", "row"] f5 d5
  f6 : Addr
  d6 : FuncData
  F6 : FnOk B "read_dimacs" 6 ["text"] f6 d6
  f8 : Addr
  d8 : FuncData
  F8 : FnOk B "_law_pick" 8 ["cells", "pot", "limit"] f8 d8
  f9 : Addr
  d9 : FuncData
  F9 : FnOk B "_law_odd_words" 9 [] f9 d9
  f10 : Addr
  d10 : FuncData
  F10 : FnOk B "_law_answer" 10 ["text"] f10 d10
  f11 : Addr
  d11 : FuncData
  F11 : FnOk B "_law_word" 11 ["word", "at"] f11 d11
  f12 : Addr
  d12 : FuncData
  F12 : FnOk B "_law_due" 12 ["rows", "lines"] f12 d12
  f13 : Addr
  d13 : FuncData
  F13 : FnOk B "_law_fixed_hold" 13 [] f13 d13

section
variable {B : Bs} {c : Cx} {n : Nat} {X : PX} {Q : PQ}
theorem tc_pick (W : Wd B) (G : Good c n) (hn : n ≤ 20) {cells : List Int} (hc : ∀ z ∈ cells, 0 ≤ z ∧ z < 10 ^ 60) (hl : cells.length ≤ 40) {pot : Addr} {p : Pot cells.length} {lim : Int} (h1 : 1 ≤ lim) (h2 : lim ≤ 1000) {fr : List (Addr × List AV)} {lo : List (Str × AV)}
    (q : ∀ (d : Int) (p' : Pot cells.length), 0 ≤ d → d < lim → Q (.int d) ⟨lo, fr ++ [(pot, p'.av)]⟩) : TCall B c (.ref W.f8) [.lst (cells.map .int), .ref pot, .int lim] ⟨lo, fr ++ [(pot, p.av)]⟩ Q X :=
  tcall_top W.F8 G hn W.lim rfl fun c' A => (pick_body W.g_int W.g_len A hc hl h1 h2).imp (fun f a ⟨d, p', e1, e2, e3, e4⟩ => by
    subst e1
    show Q (.int d) ⟨lo, a.sto⟩
    rw [e4]; exact q d p' e2 e3) (fun _ _ x => x)
end

/-! words -/
noncomputable def digitsOf (w : Str) : Str := if Txt.startswith w "-" = true then ⟨(w.cps.toList.drop 1).toArray⟩ else w
noncomputable def badDigit (k : Nat) : Bool := decide (k < 48) || decide (57 < k)
noncomputable def badWord (w : Str) : Bool := digitsOf w == "" || decide ((18 : Int) < ((digitsOf w).length : Nat)) || (digitsOf w).cps.toList.any badDigit
theorem cps0 : (("0" : Str)).cps.toList = [48] := by decide +kernel
theorem cps9 : (("9" : Str)).cps.toList = [57] := by decide +kernel
theorem lt1 {a b : Nat} : (([a] : List Nat) < [b]) ↔ a < b := by
  constructor
  · intro h
    cases h with
    | rel h => exact h
    | cons h => cases h
  · exact fun h => .rel h
noncomputable def wordVal (w : Str) : Int := (PySem.intText? w).getD 0


section
variable {B : Bs} {c : Cx} {n : Nat} {X : PX} {Q : PQ}
set_option maxHeartbeats 4000000 in
theorem ww_body (W : Wd B) (G : At c n 5) (hn : n ≤ 20) {w : Str} {row : Int} {sto : List (Addr × List AV)} (hw : w.length ≤ 600) (hok : badWord w = false → (PySem.intText? w).isSome = true) :
    EXs B c (bodyOf 5) ⟨[("word", .str w), ("row", .int row)], sto⟩ (fun f a => badWord w = false ∧ f = .ret (.int (wordVal w)) ∧ a.sto = sto) (fun x a => badWord w = true ∧ x = ⟨"bad_number", row, w⟩ ∧ a.sto = sto) := by
  have ok := G.ok
  have hk := G.kinds
  have hh := G.fn.handled
  have g_int := W.g_int
  have g_len := W.g_len
  have g_fe := W.g_fe
  have I := W.init
  have fn := G.fn
  have hd : c.A.depth + 4 < 600 := by have := G.depth; omega
  refine s_assign ok hk (by decide +kernel) (EV.imp (Q := fun d a1 => d = .str (digitsOf w) ∧ a1 = ⟨[("word", .str w), ("row", .int row)], sto⟩) ?_ ?_)
  · repeat walk_at "w1"
    refine ⟨fun e => ?_, fun e => ?_⟩
    · repeat walk_at "w1"
      refine ⟨by show w.length ≤ 1048576; omega, ?_, rfl⟩
      rw [digitsOf, if_pos e]
    · repeat walk_at "w1"
      refine ⟨?_, rfl⟩
      rw [digitsOf, if_neg (by rw [e]; decide)]
  rintro d a1 ⟨rfl, rfl⟩
  refine lset_q (by walk_at "lset") ?_
  have hdl : (digitsOf w).length ≤ 600 := by
    unfold digitsOf
    split
    · show (List.toArray (w.cps.toList.drop 1)).size ≤ 600
      have : w.cps.size ≤ 600 := hw
      simp; omega
    · exact hw
  walk_at "st"
  case k2 =>
    intro e
    repeat walk_at "w1"
    refine ⟨?_, rfl, rfl⟩
    unfold badWord; rw [Bool.or_false] at e; rw [e]; rfl
  case k3 =>
  intro e
  rw [Bool.or_false] at e
  repeat walk_at "w1"
  refine ⟨_, Items.str _, ?_⟩
  refine loop_inv (fun ds a => ∃ ks : List Nat, ds = ks.map (fun k => AV.str ⟨#[k]⟩) ∧ (digitsOf w).cps.toList.any badDigit = ks.any badDigit ∧ a = ⟨[("word", .str w), ("row", .int row), ("digits", .str (digitsOf w))], sto⟩)
    ⟨_, rfl, rfl, rfl⟩ ?_ ?_
  · rintro a ⟨ks, h1, h2, rfl⟩
    cases ks with
    | cons k r => simp at h1
    | nil =>
    have hb : badWord w = false := by unfold badWord; rw [e, h2]; rfl
    obtain ⟨v, hv⟩ := Option.isSome_iff_exists.mp (hok hb)
    repeat walk_at "w1"
    refine tc_int_str hv (by omega) ⟨hb, ?_, rfl⟩
    unfold wordVal; rw [hv]; rfl
  · rintro d r a ⟨ks, h1, h2, rfl⟩
    cases ks with
    | nil => simp at h1
    | cons k ks =>
    simp only [List.map_cons, List.cons.injEq] at h1
    obtain ⟨rfl, rfl⟩ := h1
    refine lset_q (by walk_at "lset") ?_
    walk_at "st"
    case k2 =>
      intro e3
      repeat walk_at "w1"
      refine ⟨?_, rfl, rfl⟩
      have e3 : (decide (([k] : List Nat) < [48]) || (decide (([57] : List Nat) < [k]) || false)) = true := by rw [← cps0, ← cps9]; exact e3
      have : badDigit k = true := by simpa only [badDigit, lt1, Bool.or_false] using e3
      unfold badWord; rw [h2, List.any_cons, this]; simp
    case k3 =>
      intro e3
      repeat walk_at "w1"
      have e3 : (decide (([k] : List Nat) < [48]) || (decide (([57] : List Nat) < [k]) || false)) = false := by rw [← cps0, ← cps9]; exact e3
      have : badDigit k = false := by simpa only [badDigit, lt1, Bool.or_false] using e3
      refine nil_w (by walk_at "sub") ⟨ks, rfl, by rw [h2, List.any_cons, this]; rfl, rfl⟩
end
end

section
open PySem PySem.W PySem.Calls PySem.Spec PyProof.Rows
open Builtin.Str
section
variable {B : Bs} {c : Cx} {a : AS} {Q : PQ} {X : PX}
noncomputable abbrev FrzPost (Q : PQ) : PQ := fun d a1 => ∃ x l k' st', d = .ref x ∧ SFrz x l a1.sto st' ∧ FrzLoc x l a1.loc k' ∧ Q (.lst l) ⟨k', st'⟩
theorem frz_p {x : Addr} {l : List AV} {lo : List (Str × AV)} {st : List (Addr × List AV)} (q : Q (.lst l) ⟨lo, st⟩) : FrzPost Q (.ref x) ⟨lo, (x, l) :: st⟩ := ⟨x, l, lo, st, rfl, .out, .refl, q⟩
theorem PV.frz {T : Tab} (ok : c.Ok) {v : Value} {s : Shared} (h : PV B c T (FrzPost Q) v s) : PV B c T Q v s := by
  obtain ⟨T1, d, a1, h1, h2, h3, x, l, k', st', hd, u, f, q⟩ := h
  subst hd
  obtain ⟨T2, hle, R2, hv⟩ := h2.freeze ok u f
  cases h3
  exact ⟨T2, _, _, h1.trans hle, R2, hv, q⟩
theorem TM.frz {id : String} {d : AV} {ds : List AV} (ok : c.Ok) (h : TM B c id d ds a (FrzPost Q) X) : TM B c id d ds a Q X := fun T s v vs R hv hvs =>
  wpAny_mono (h T s v vs R hv hvs) (fun _ _ p => PV.frz ok p) fun _ _ x => x
theorem TCall.frz {f : Value} {ds : List AV} (ok : c.Ok) (h : TCall B c f ds a (FrzPost Q) X) : TCall B c f ds a Q X := fun T s vs R hvs =>
  wpAny_mono (h T s vs R hvs) (fun _ _ p => PV.frz ok p) fun _ _ x => x
end

theorem EXs.drop {B : Bs} {c : Cx} {a : AS} {st : List Stmt} {sto : List (Addr × List AV)} {Q : AF → Prop} {X : XV → Prop} (h : EXs B c st a (fun f a1 => Q f ∧ sto.Sublist a1.sto) (fun x a1 => X x ∧ sto.Sublist a1.sto)) :
    EXs B c st a (fun f a1 => Q f ∧ a1.sto = sto) (fun x a1 => X x ∧ a1.sto = sto) := fun T s R =>
  wpAny_mono (h T s R) (fun v s1 ⟨T1, d, a1, h1, h2, h3, h4, h5⟩ => ⟨T1, d, ⟨a1.loc, sto⟩, h1, h2.weaken (fun _ h => h) h5, h3, h4, rfl⟩)
    fun v s1 ⟨T1, x, a1, e, h1, h2, h3, h4, h5, h6⟩ => ⟨T1, x, ⟨a1.loc, sto⟩, e, h1, h2.weaken (fun _ h => h) h6, h3, h4, h5, rfl⟩

/-! what read_dimacs computes -/
structure RS where
  count : Int
  expected : Int
  clauses : List (List Int)
  current : List Int
  row : Int
noncomputable def iabs (n : Int) : Int := if n < 0 then -n else n
noncomputable def wordStep (s : RS) (w : Str) : Except XV RS :=
  if badWord w = true then .error ⟨"bad_number", s.row, w⟩
  else if (decide (s.count < 0) || (decide (s.count < iabs (wordVal w)) || false)) = true then .error ⟨"bad_variable", s.row, w⟩
  else if (wordVal w == 0) = true then .ok { s with clauses := s.clauses ++ [s.current], current := [] }
  else .ok { s with current := s.current ++ [wordVal w] }
noncomputable def foldW : RS → List Str → Except XV RS
  | s, [] => .ok s
  | s, w :: r => match wordStep s w with
    | .ok s' => foldW s' r
    | .error e => .error e
noncomputable def headStep (s : RS) (line : Str) (ws : List Str) : Except XV RS := match ws with
  | [_, x, y, z] => if (decide (0 ≤ s.count) || x != "cnf") = true then .error ⟨"bad_header", s.row, line⟩
    else if badWord y = true then .error ⟨"bad_number", s.row, y⟩
    else if badWord z = true then .error ⟨"bad_number", s.row, z⟩
    else if (decide (wordVal y < 0) || (decide (wordVal z < 0) || false)) = true then .error ⟨"bad_header", s.row, line⟩
    else .ok { s with count := wordVal y, expected := wordVal z }
  | _ => .error ⟨"bad_header", s.row, line⟩
noncomputable def lineStep (s0 : RS) (line : Str) : Except XV RS :=
  let s := { s0 with row := s0.row + 1 }
  match Txt.words line with
  | [] => .ok s
  | w :: ws => if (w == "c") = true then .ok s else if (w == "p") = true then headStep s line (w :: ws) else foldW s (w :: ws)
noncomputable def foldL : RS → List Str → Except XV RS
  | s, [] => .ok s
  | s, l :: r => match lineStep s l with
    | .ok s' => foldL s' r
    | .error e => .error e
noncomputable def finD (s : RS) : Except XV (Int × List (List Int)) :=
  if (decide (s.count < 0) || (!s.current.isEmpty || (((s.clauses.length : Nat) : Int) != s.expected || false))) = true then .error ⟨"unfinished_text", s.row, ""⟩ else .ok (s.count, s.clauses)
noncomputable def RS.init : RS := ⟨-1, 0, [], [], 0⟩
noncomputable def readD (lines : List Str) : Except XV (Int × List (List Int)) := match foldL RS.init lines with
  | .error e => .error e
  | .ok s => finD s

noncomputable def OkW (w : Str) : Prop := w.length ≤ 600 ∧ (badWord w = false → (PySem.intText? w).isSome = true)
noncomputable def clAV (l : List Int) : AV := .tup (l.map .int)
noncomputable def RS.loc (s : RS) (text : Str) (U C : Addr) : List (Str × AV) :=
  [("text", .str text), ("count", .int s.count), ("expected", .int s.expected), ("clauses", .ref C), ("current", .ref U), ("row", .int s.row)]
noncomputable def RS.sto (s : RS) (U C : Addr) (sto : List (Addr × List AV)) : List (Addr × List AV) := (U, s.current.map .int) :: (C, s.clauses.map clAV) :: sto
noncomputable def RS.loc2 (s : RS) (text line : Str) (U C : Addr) (ws : List Str) : List (Str × AV) :=
  [("text", .str text), ("count", .int s.count), ("expected", .int s.expected), ("clauses", .ref C), ("current", .ref U), ("row", .int s.row), ("line", .str line), ("words", .lst (strAVs ws))]
noncomputable def RS.size (s : RS) : Nat := s.clauses.length + s.current.length

section
variable {B : Bs} {c : Cx} {n : Nat} {X : PX} {Q : PQ} {a : AS}
theorem tc_ww (W : Wd B) (G : Good c n) (hn : n ≤ 19) {w : Str} {row : Int} (hw : OkW w) (q : badWord w = false → Q (.int (wordVal w)) a) (q2 : badWord w = true → X ⟨"bad_number", row, w⟩ a) :
    TCall B c (.ref W.f5) [.str w, .int row] a Q X :=
  tcall_top W.F5 G (by omega) W.lim rfl fun c' A => (ww_body W A (by omega) hw.1 hw.2).imp (fun f a1 ⟨e1, e2, e3⟩ => by
    subst e2
    show Q (.int _) ⟨a.loc, a1.sto⟩
    rw [e3]; exact q e1) (fun x a1 ⟨e1, e2, e3⟩ => by
    subst e2
    show X _ ⟨a.loc, a1.sto⟩
    rw [e3]; exact q2 e1)
end


section
variable {B : Bs} {c : Cx} {n : Nat} {X : PX} {Q : PQ}

set_option maxHeartbeats 4000000 in
theorem rd_body (W : Wd B) (G : At c n 6) (hn : n ≤ 15) {text : Str} {sto : List (Addr × List AV)} (ht : text.length ≤ 2 ^ 20) (hp : (partsBetween text (occurrences text "\n" 0 text.length (text.length + 1)) 1).length ≤ 2 ^ 20)
    (hw : ∀ l ∈ Txt.split text "\n", l.length ≤ 2 ^ 20 ∧ (spaceWords l (l.length + 1)).length ≤ 2 ^ 20 ∧ ∀ w ∈ Txt.words l, OkW w) (hz : ((Txt.split text "\n").map fun l => (Txt.words l).length).sum ≤ 10000) :
    EXs B c (bodyOf 6) ⟨[("text", .str text)], sto⟩ (fun f a => (∃ n cl, readD (Txt.split text "\n") = .ok (n, cl) ∧ f = .ret (.tup [.int n, .lst (cl.map clAV)])) ∧ a.sto = sto)
      (fun x a => readD (Txt.split text "\n") = .error x ∧ a.sto = sto) := by
  have ok := G.ok
  have hk := G.kinds
  have hh := G.fn.handled
  have fn := G.fn
  have g_len := W.g_len
  have g_abs := W.g_abs
  have g_tuple := W.g_tuple
  have g_fe := W.g_fe
  have I := W.init
  have hd : c.A.depth + 4 < 600 := by have := G.depth; omega
  have F5 := W.F5
  refine EXs.drop ?_
  refine exs_seq (ex_assign ok hk (by decide +kernel) ?_)
  repeat walk_at "w1"
  rename_i C U
  refine TM.frz ok ?_
  refine tm_split1 ht (by decide) hp fun z => ?_
  refine frz_p ?_
  refine ⟨_, Items.lst _, ?_⟩
  refine loop_inv (fun ds a => ∃ (rest : List Str) (s : RS) (U C : Addr), ds = strAVs rest ∧ (∀ l ∈ rest, l ∈ Txt.split text "\n") ∧ foldL s rest = foldL RS.init (Txt.split text "\n") ∧ s.size + (rest.map fun l => (Txt.words l).length).sum ≤ 10000 ∧ a = ⟨s.loc text U C, s.sto U C sto⟩)
    ⟨_, RS.init, U, C, rfl, fun _ h => h, rfl, by simpa [RS.init, RS.size] using hz, rfl⟩ ?_ ?_
  · rintro a ⟨rest, s, U, C, h1, h2, h3, h4, rfl⟩
    cases rest with
    | cons k r => simp [strAVs] at h1
    | nil =>
    dsimp only [RS.loc, RS.sto]
    have h5 : readD (Txt.split text "\n") = finD s := by unfold readD; rw [← h3]; rfl
    have h6 : s.clauses.length + s.current.length ≤ 10000 := by unfold RS.size at h4; simpa using h4
    rw [h5]
    repeat walk_at "w1"
    case k2 =>
      intro e
      repeat walk_at "w1"
      refine ⟨?_, by walk_at "subl"⟩
      have e : (decide (s.count < 0) || (!s.current.isEmpty || (((s.clauses.length : Nat) : Int) != s.expected || false))) = true := by simpa using e
      unfold finD
      rw [if_pos e]
    case k3 =>
      intro e
      refine exs_nil (seq_next ?_)
      have e : ¬ (decide (s.count < 0) || (!s.current.isEmpty || (((s.clauses.length : Nat) : Int) != s.expected || false))) = true := by rw [Bool.not_eq_true]; simpa using e
      refine EXs.weaken (a' := ⟨[("count", .int s.count), ("clauses", .ref C)], (C, s.clauses.map clAV) :: sto⟩) ?_ (by walk_at "sub") (by walk_at "subl")
      refine EXs.frz ok .out (.keep (.hit .nil)) ?_
      repeat walk_at "w1"
      refine ⟨⟨_, _, ?_, rfl⟩, by walk_at "subl"⟩
      unfold finD
      rw [if_neg e]
  · rintro d r a ⟨rest, s, U, C, h1, h2, h3, h4, rfl⟩
    cases rest with
    | nil => simp [strAVs] at h1
    | cons line rest =>
    simp only [strAVs, List.map_cons, List.cons.injEq] at h1
    obtain ⟨rfl, rfl⟩ := h1
    obtain ⟨hw1, hw2, hw3⟩ := hw line (h2 _ (.head _))
    have h2' : ∀ l ∈ rest, l ∈ Txt.split text "\n" := fun l hl => h2 l (.tail _ hl)
    dsimp only [RS.loc, RS.sto]
    refine lset_c (by walk_at "lset") ?_
    repeat walk_at "w1"
    refine TM.frz ok ?_
    refine tm_split0 hw1 hw2 fun z => ?_
    refine frz_p ?_
    refine lset_c (by walk_at "lset") ?_
    have go : ∀ s', lineStep s line = .ok s' → foldL s' rest = foldL RS.init (Txt.split text "\n") := fun s' e => by rw [← h3]; show _ = (match lineStep s line with | .ok s' => foldL s' rest | .error e => .error e); rw [e]
    have bad : ∀ x, lineStep s line = .error x → readD (Txt.split text "\n") = .error x := fun x e => by
      unfold readD; rw [← h3]; show (match (match lineStep s line with | .ok s' => foldL s' rest | .error e => .error e) with | .error e => _ | .ok s => _) = _; rw [e]
    have h4' : s.size + (Txt.words line).length + (rest.map fun l => (Txt.words l).length).sum ≤ 10000 := by rw [List.map_cons, List.sum_cons] at h4; omega
    cases hW : Txt.words line with
    | nil =>
      refine s_ifp (pb_or_short (p := !(!(strAVs []).isEmpty)) (by walk_at "pb") rfl) (fun _ => ?_) (fun e => nomatch e)
      refine cont_ws (lo' := RS.loc ⟨s.count, s.expected, s.clauses, s.current, s.row + 1⟩ text U C) ?_ (List.Sublist.refl _) (seq_cont ?_)
      · dsimp only [RS.loc]; walk_at "sub"
      · exact ⟨rest, ⟨s.count, s.expected, s.clauses, s.current, s.row + 1⟩, U, C, rfl, h2', go _ (by unfold lineStep; rw [hW]), by rw [hW] at h4'; simpa [RS.size] using h4', rfl⟩
    | cons w0 ws =>
      have hlen : (strAVs (w0 :: ws)).length < 2 ^ 24 := by rw [hW] at h4'; simp [strAVs] at h4' ⊢; omega
      walk_at "st"
      case k2 =>
        intro e
        have e : (w0 == "c") = true := by simpa [strAVs] using e
        refine cont_ws (lo' := RS.loc ⟨s.count, s.expected, s.clauses, s.current, s.row + 1⟩ text U C) ?_ (List.Sublist.refl _) (seq_cont ?_)
        · dsimp only [RS.loc]; walk_at "sub"
        · refine ⟨rest, ⟨s.count, s.expected, s.clauses, s.current, s.row + 1⟩, U, C, rfl, h2', go _ (by unfold lineStep; rw [hW]; show (if _ then _ else _) = _; rw [if_pos e]), by rw [hW] at h4'; simp [RS.size] at h4' ⊢; omega, rfl⟩
      case k3 =>
      intro e
      have e : ¬ (w0 == "c") = true := by simpa [strAVs] using e
      refine exs_nil (seq_next ?_)
      walk_at "st"
      case k2 =>
        intro e2
        have lineEq : lineStep s line = headStep ⟨s.count, s.expected, s.clauses, s.current, s.row + 1⟩ line (w0 :: ws) := by
          unfold lineStep; rw [hW]; show (if _ then _ else _) = _; rw [if_neg e, if_pos e2]
        by_cases h3w : ∃ x y z, ws = [x, y, z]
        · obtain ⟨x, y, z, rfl⟩ := h3w
          have hx := hw3 x (by rw [hW]; simp)
          have hy := hw3 y (by rw [hW]; simp)
          have hz := hw3 z (by rw [hW]; simp)
          walk_at "st"
          case k2 =>
            intro e3
            have e3 : (decide (0 ≤ s.count) || x != "cnf") = true := by simpa [strAVs] using e3
            repeat walk_at "w1"
            refine ⟨bad _ ?_, by walk_at "subl"⟩
            rw [lineEq]; unfold headStep; dsimp only; rw [if_pos e3]
          case k3 =>
          intro e3
          have e3 : ¬ (decide (0 ≤ s.count) || x != "cnf") = true := by rw [Bool.not_eq_true]; simpa [strAVs] using e3
          repeat walk_at "w1"
          refine tc_ww W G.toGood (by omega) hy (fun b1 => ?_) (fun b1 => ⟨bad _ (by rw [lineEq]; unfold headStep; dsimp only; rw [if_neg e3, if_pos b1]), by walk_at "subl"⟩)
          repeat walk_at "w1"
          refine tc_ww W G.toGood (by omega) hz (fun b2 => ?_) (fun b2 => ⟨bad _ (by rw [lineEq]; unfold headStep; dsimp only; rw [if_neg e3, if_neg (by rw [b1]; decide), if_pos b2]), by walk_at "subl"⟩)
          repeat walk_at "w1"
          case k2 =>
            intro e4
            repeat walk_at "w1"
            refine ⟨bad _ ?_, by walk_at "subl"⟩
            rw [lineEq]; unfold headStep; dsimp only; rw [if_neg e3, if_neg (by rw [b1]; decide), if_neg (by rw [b2]; decide), if_pos e4]
          case k3 =>
          intro e4
          refine exs_nil (seq_next ?_)
          refine cont_ws (lo' := RS.loc ⟨wordVal y, wordVal z, s.clauses, s.current, s.row + 1⟩ text U C) ?_ (List.Sublist.refl _) (seq_cont ?_)
          · dsimp only [RS.loc]; walk_at "sub"
          · refine ⟨rest, ⟨wordVal y, wordVal z, s.clauses, s.current, s.row + 1⟩, U, C, rfl, h2', go _ ?_, by rw [hW] at h4'; simp [RS.size] at h4' ⊢; omega, rfl⟩
            rw [lineEq]; unfold headStep; dsimp only; rw [if_neg e3, if_neg (by rw [b1]; decide), if_neg (by rw [b2]; decide), if_neg (by rw [e4]; decide)]
        · have hl4 : (w0 :: ws).length ≠ 4 := fun q => h3w (list3 (Nat.succ.inj q))
          refine s_ifp (p := (decide (0 ≤ s.count) || true)) (pb_or (by walk_at "pb") fun _ => pb_or_short (p := ((((strAVs (w0 :: ws)).length : Nat) : Int) != 4)) (by walk_at "pb") ?_) (fun e3 => ?_) (fun e3 => ?_)
          · simp [strAVs] at hl4 ⊢; omega
          · repeat walk_at "w1"
            refine ⟨bad _ ?_, by walk_at "subl"⟩
            rw [lineEq]; unfold headStep
            split
            · rename_i q; exact absurd (by rw [q]; rfl) hl4
            · rfl
          · simp at e3
      case k3 =>
        intro e2
        refine exs_nil (seq_next ?_)
        have lineEq : lineStep s line = foldW ⟨s.count, s.expected, s.clauses, s.current, s.row + 1⟩ (w0 :: ws) := by
          unfold lineStep; rw [hW]; show (if _ then _ else _) = _; rw [if_neg e, if_neg (by rw [e2]; decide)]
        walk_at "st"
        walk_at "w1"
        refine ⟨_, Items.lst _, ?_⟩
        refine loop_inv (fun ds a => ∃ (wr : List Str) (s2 : RS) (U C : Addr), ds = strAVs wr ∧ (∀ w ∈ wr, OkW w) ∧ foldW s2 wr = foldW ⟨s.count, s.expected, s.clauses, s.current, s.row + 1⟩ (w0 :: ws) ∧ s2.size + wr.length ≤ s.size + (w0 :: ws).length ∧ a = ⟨s2.loc2 text line U C (w0 :: ws), s2.sto U C sto⟩)
          ⟨_, ⟨s.count, s.expected, s.clauses, s.current, s.row + 1⟩, U, C, rfl, fun w h => hw3 w (by rw [hW]; exact h), rfl, Nat.le_refl _, rfl⟩ ?_ ?_
        · rintro a ⟨wr, s2, U, C, g1, g2, g3, g4, rfl⟩
          cases wr with
          | cons k r => simp [strAVs] at g1
          | nil =>
          dsimp only [RS.loc2, RS.sto]
          refine seq_next (nil_ws (lo' := RS.loc s2 text U C) ?_ (List.Sublist.refl _) ?_)
          · dsimp only [RS.loc]; walk_at "sub"
          · exact ⟨rest, s2, U, C, rfl, h2', go _ (by rw [lineEq, ← g3]; rfl), by rw [hW] at h4'; simp only [List.length_nil] at g4; omega, rfl⟩
        · rintro d r a ⟨wr, s2, U, C, g1, g2, g3, g4, rfl⟩
          cases wr with
          | nil => simp [strAVs] at g1
          | cons w wr =>
          simp only [strAVs, List.map_cons, List.cons.injEq] at g1
          obtain ⟨rfl, rfl⟩ := g1
          have hOk := g2 w (.head _)
          have g2' : ∀ w ∈ wr, OkW w := fun x hx => g2 x (.tail _ hx)
          have hsz : s2.clauses.length + s2.current.length ≤ 10000 := by rw [hW] at h4'; simp only [RS.size, List.length_cons] at g4 h4'; omega
          have bad2 : ∀ x, wordStep s2 w = .error x → readD (Txt.split text "\n") = .error x := fun x q => bad x (by rw [lineEq, ← g3]; show (match wordStep s2 w with | .ok s' => foldW s' wr | .error e => .error e) = _; rw [q])
          have go2 : ∀ s', wordStep s2 w = .ok s' → foldW s' wr = foldW ⟨s.count, s.expected, s.clauses, s.current, s.row + 1⟩ (w0 :: ws) := fun s' q => by
            rw [← g3]; show _ = (match wordStep s2 w with | .ok s' => foldW s' wr | .error e => .error e); rw [q]
          dsimp only [RS.loc2, RS.sto]
          refine lset_c (by walk_at "lset") ?_
          repeat walk_at "w1"
          refine tc_ww W G.toGood (by omega) hOk (fun b1 => ?_) (fun b1 => ⟨bad2 _ (by unfold wordStep; rw [if_pos b1]), by walk_at "subl"⟩)
          repeat walk_at "w1"
          case k2 =>
            intro e4
            repeat walk_at "w1"
            refine ⟨bad2 _ ?_, by walk_at "subl"⟩
            unfold wordStep; rw [if_neg (by rw [b1]; decide)]; unfold iabs; rw [if_pos e4]
          case k3 =>
          intro e4
          refine exs_nil (seq_next ?_)
          walk_at "st"
          case k2 =>
            intro e5
            repeat walk_at "w1"
            rename_i U'
            refine nil_ws (lo' := RS.loc2 ⟨s2.count, s2.expected, s2.clauses ++ [s2.current], [], s2.row⟩ text line U' C (w0 :: ws)) (st' := RS.sto ⟨s2.count, s2.expected, s2.clauses ++ [s2.current], [], s2.row⟩ U' C sto) ?_ ?_ ?_
            · dsimp only [RS.loc2]; walk_at "sub"
            · dsimp only [RS.sto]; rw [List.map_append]; exact .cons_cons _ (.cons _ (.refl _))
            · refine ⟨wr, ⟨s2.count, s2.expected, s2.clauses ++ [s2.current], [], s2.row⟩, U', C, rfl, g2', go2 _ ?_, ?_, rfl⟩
              · unfold wordStep; rw [if_neg (by rw [b1]; decide)]; unfold iabs; rw [if_neg (by rw [e4]; decide), if_pos e5]
              · simp only [RS.size, List.length_cons, List.length_append, List.length_nil] at g4 ⊢; omega
          case k3 =>
            intro e5
            repeat walk_at "w1"
            refine nil_ws (lo' := RS.loc2 ⟨s2.count, s2.expected, s2.clauses, s2.current ++ [wordVal w], s2.row⟩ text line U C (w0 :: ws)) (st' := RS.sto ⟨s2.count, s2.expected, s2.clauses, s2.current ++ [wordVal w], s2.row⟩ U C sto) ?_ ?_ ?_
            · dsimp only [RS.loc2]; walk_at "sub"
            · dsimp only [RS.sto]; rw [List.map_append]; exact .refl _
            · refine ⟨wr, ⟨s2.count, s2.expected, s2.clauses, s2.current ++ [wordVal w], s2.row⟩, U, C, rfl, g2', go2 _ ?_, ?_, rfl⟩
              · unfold wordStep; rw [if_neg (by rw [b1]; decide)]; unfold iabs; rw [if_neg (by rw [e4]; decide), if_neg (by rw [e5]; decide)]
              · simp only [RS.size, List.length_cons, List.length_append, List.length_nil] at g4 ⊢; omega
end
end

section
open PySem PySem.W PySem.Calls PySem.Spec PyProof.Rows
open Builtin.Str
noncomputable def RdOk (text : Str) : Prop := text.length ≤ 2 ^ 20 ∧ (partsBetween text (occurrences text "\n" 0 text.length (text.length + 1)) 1).length ≤ 2 ^ 20 ∧
    (∀ l ∈ Txt.split text "\n", l.length ≤ 2 ^ 20 ∧ (spaceWords l (l.length + 1)).length ≤ 2 ^ 20 ∧ ∀ w ∈ Txt.words l, OkW w) ∧ ((Txt.split text "\n").map fun l => (Txt.words l).length).sum ≤ 10000
noncomputable def ansAV (lines : List Str) : AV := match readD lines with
  | .ok (n, cl) => .tup [.str "read", .int n, .lst (cl.map clAV), .int 2]
  | .error x => .tup [.str "fault", .str x.kind, .int x.at_, .str x.det]
noncomputable def wordAV (w : Str) (at_ : Int) : AV := if badWord w = true then .tup [.str "bad_number", .int at_, .str w] else .int (wordVal w)

section
variable {B : Bs} {c : Cx} {n : Nat} {X : PX} {Q : PQ} {a : AS}
theorem tc_rd (W : Wd B) (G : Good c n) (hn : n ≤ 14) {text : Str} (hr : RdOk text) (q : ∀ n cl, readD (Txt.split text "\n") = .ok (n, cl) → Q (.tup [.int n, .lst (cl.map clAV)]) a) (q2 : ∀ x, readD (Txt.split text "\n") = .error x → X x a) :
    TCall B c (.ref W.f6) [.str text] a Q X :=
  tcall_top W.F6 G (by omega) W.lim rfl fun c' A => (rd_body W A (by omega) hr.1 hr.2.1 hr.2.2.1 hr.2.2.2).imp (fun f a1 ⟨⟨n, cl, e1, e2⟩, e3⟩ => by
    subst e2
    show Q (.tup _) ⟨a.loc, a1.sto⟩
    rw [e3]; exact q n cl e1) (fun x a1 ⟨e1, e3⟩ => by
    show X _ ⟨a.loc, a1.sto⟩
    rw [e3]; exact q2 x e1)
end


section
variable {B : Bs} {c : Cx} {n : Nat} {X : PX} {Q : PQ}

set_option maxHeartbeats 4000000 in
theorem ans_body (W : Wd B) (G : At c n 10) (hn : n ≤ 13) {text : Str} {sto : List (Addr × List AV)} (hr : RdOk text) :
    EXs B c (bodyOf 10) ⟨[("text", .str text)], sto⟩ (fun f a => f = .ret (ansAV (Txt.split text "\n")) ∧ a.sto = sto) (fun _ _ => False) := by
  have ok := G.ok
  have hk := G.kinds
  have hh := G.fn.handled
  have fn := G.fn
  have g_len := W.g_len
  have I := W.init
  have F6 := W.F6
  obtain ⟨L, hL⟩ := fn.frame
  refine exs_seq (ex_try ok hL fn.fr I hk (by decide +kernel) (by decide +kernel) W.g_fe (by decide +kernel) ?_)
  repeat walk_at "w1"
  refine tc_rd W G.toGood (by omega) hr (fun n cl e => ?_) (fun x e c2 M => ?_)
  · repeat walk_at "w1"
    refine ⟨?_, rfl⟩
    unfold ansAV; rw [e]; rfl
  · have ok := M.ok
    have hk : c2.Kinds (namesOf 10) := fun p hp => by rw [M.env]; exact hk p hp
    refine lset_q (by walk_at "lset") ?_
    repeat walk_at "w1"
    refine ⟨?_, rfl⟩
    unfold ansAV; rw [e]

set_option maxHeartbeats 4000000 in
theorem word_body (W : Wd B) (G : At c n 11) (hn : n ≤ 13) {w : Str} {at_ : Int} {sto : List (Addr × List AV)} (hr : OkW w) :
    EXs B c (bodyOf 11) ⟨[("word", .str w), ("at", .int at_)], sto⟩ (fun f a => f = .ret (wordAV w at_) ∧ a.sto = sto) (fun _ _ => False) := by
  have ok := G.ok
  have hk := G.kinds
  have hh := G.fn.handled
  have fn := G.fn
  have I := W.init
  have F5 := W.F5
  obtain ⟨L, hL⟩ := fn.frame
  refine exs_seq (ex_try ok hL fn.fr I hk (by decide +kernel) (by decide +kernel) W.g_fe (by decide +kernel) ?_)
  repeat walk_at "w1"
  refine tc_ww W G.toGood (by omega) hr (fun e => ?_) (fun e c2 M => ?_)
  · repeat walk_at "w1"
    refine ⟨?_, rfl⟩
    unfold wordAV; rw [if_neg (by rw [e]; decide)]
  · have ok := M.ok
    have hk : c2.Kinds (namesOf 11) := fun p hp => by rw [M.env]; exact hk p hp
    refine lset_q (by walk_at "lset") ?_
    repeat walk_at "w1"
    refine ⟨?_, rfl⟩
    unfold wordAV; rw [if_pos e]

theorem tc_ans (W : Wd B) {a : AS} (G : Good c n) (hn : n ≤ 12) {text : Str} (hr : RdOk text) (q : Q (ansAV (Txt.split text "\n")) a) : TCall B c (.ref W.f10) [.str text] a Q X :=
  tcall_top W.F10 G (by omega) W.lim rfl fun c' A => (ans_body W A (by omega) hr).imp (fun f a1 ⟨e1, e2⟩ => by
    subst e1
    show Q _ ⟨a.loc, a1.sto⟩
    rw [e2]; exact q) (fun _ _ x => x.elim)
theorem tc_word (W : Wd B) {a : AS} (G : Good c n) (hn : n ≤ 12) {w : Str} {at_ : Int} (hr : OkW w) (q : Q (wordAV w at_) a) : TCall B c (.ref W.f11) [.str w, .int at_] a Q X :=
  tcall_top W.F11 G (by omega) W.lim rfl fun c' A => (word_body W A (by omega) hr).imp (fun f a1 ⟨e1, e2⟩ => by
    subst e1
    show Q _ ⟨a.loc, a1.sto⟩
    rw [e2]; exact q) (fun _ _ x => x.elim)
end
end

section
open PySem PySem.W PySem.Calls PySem.Spec PyProof.Rows
open Builtin.Str
theorem EXs.dropF {B : Bs} {c : Cx} {a : AS} {st : List Stmt} {sto : List (Addr × List AV)} {Q : AF → Prop} (h : EXs B c st a (fun f a1 => Q f ∧ sto.Sublist a1.sto) (fun _ _ => False)) :
    EXs B c st a (fun f a1 => Q f ∧ a1.sto = sto) (fun _ _ => False) := fun T s R =>
  wpAny_mono (h T s R) (fun v s1 ⟨T1, d, a1, h1, h2, h3, h4, h5⟩ => ⟨T1, d, ⟨a1.loc, sto⟩, h1, h2.weaken (fun _ h => h) h5, h3, h4, rfl⟩)
    fun v s1 ⟨T1, x, a1, e, h1, h2, h3, h4, h5⟩ => h5.elim

noncomputable def showI (i : Int) : Str := Str.ofString (toString i)
noncomputable def litText (i : Int) : Str := (Str.empty ++ showI i) ++ " "
noncomputable def rowText (l : List Int) : Str := Txt.join "" (l.map litText) ++ "0\n"
noncomputable def headText (n : Int) (k : Nat) : Str := ((((Str.empty ++ "p cnf ") ++ showI n) ++ " ") ++ showI k) ++ "\n"
noncomputable def dimText (n : Int) (cl : List (List Int)) : Str := Txt.join "" (headText n cl.length :: cl.map rowText)
noncomputable def smallI (i : Int) : Prop := i.natAbs.log2 < 64
theorem small_pow {m : Nat} (h : m.log2 < 64) : m < 10 ^ 20 := by
  by_cases h0 : m = 0
  · subst h0; decide
  · have := (Nat.log2_lt h0).mp h
    exact Nat.lt_trans this (by decide)
theorem small_len {i : Int} (h : smallI i) : (Str.ofString (toString i)).length ≤ 100 := by
  have h := small_pow h
  by_cases hi : 0 ≤ i
  · have := toString_length_le (v := i) (k := 20) hi (by decide) (by omega)
    omega
  · have h1 := len_text_negI (n := i) (by omega)
    have := toString_length_le (v := 0 - i) (k := 20) (by omega) (by decide) (by omega)
    omega
theorem sum_le {α : Type} (f : α → Nat) (b : Nat) : ∀ l : List α, (∀ x ∈ l, f x ≤ b) → (l.map f).sum ≤ l.length * b
  | [], _ => by simp
  | x :: r, h => by
    have h1 := h x (.head _)
    have h2 := sum_le f b r fun y hy => h y (.tail _ hy)
    simp only [List.map_cons, List.sum_cons, List.length_cons, Nat.add_mul, Nat.one_mul]
    omega
theorem litText_len {i : Int} (h : smallI i) : (litText i).length ≤ 101 := by
  have := small_len h
  unfold litText showI
  simp only [app_len, lenE, lenL2]
  omega
theorem join_len {l : List Int} (h : l.length ≤ 1000) (h2 : ∀ i ∈ l, smallI i) : (Txt.join "" (l.map litText)).length ≤ 101000 := by
  show (glued _ _).length ≤ _
  rw [StrLaws.glued_eq_join]
  have e := StrLaws.join_length_le "" (l.map litText)
  have e2 : (("" : Str)).length = 0 := by decide +kernel
  rw [e2, Nat.mul_zero, Nat.add_zero, List.map_map] at e
  have e3 := sum_le ((fun x : Str => x.length) ∘ litText) 101 l fun i hi => litText_len (h2 i hi)
  have e4 : l.length * 101 ≤ 101000 := by omega
  exact Nat.le_trans e (Nat.le_trans e3 e4)
noncomputable def litF : AV → AV
  | .int i => .str (litText i)
  | _ => .none
theorem litF_map (l : List Int) : (l.map AV.int).map litF = strAVs (l.map litText) := by simp [strAVs, litF]


section
variable {B : Bs} {c : Cx} {n : Nat} {X : PX} {Q : PQ}

set_option maxHeartbeats 4000000 in
theorem dim_body (W : Wd B) (G : At c n 4) (hn : n ≤ 13) {k : Int} {cl : List (List Int)} {sto : List (Addr × List AV)} (hk0 : smallI k) (hcl : cl.length ≤ 1000) (hcl2 : ∀ l ∈ cl, l.length ≤ 1000 ∧ ∀ i ∈ l, smallI i)
    (hj : JoinOk "" (headText k cl.length :: cl.map rowText) = true) (hj2 : ∀ l ∈ cl, JoinOk "" (l.map litText) = true) :
    EXs B c (bodyOf 4) ⟨[("count", .int k), ("clauses", .lst (cl.map clAV))], sto⟩ (fun f a => f = .ret (.str (dimText k cl)) ∧ a.sto = sto) (fun _ _ => False) := by
  have ok := G.ok
  have hk := G.kinds
  have hh := G.fn.handled
  have fn := G.fn
  have g_len := W.g_len
  have s1 := small_len hk0
  have hc64 : smallI ((cl.length : Nat) : Int) := by
    show (Int.natAbs _).log2 < 64
    rw [Int.natAbs_natCast]
    by_cases h0 : cl.length = 0
    · rw [h0]; decide +kernel
    · exact (Nat.log2_lt h0).mpr (by omega)
  have s2 := small_len hc64
  have hkc : k.natAbs.log2 < 1920 := Nat.lt_trans hk0 (by decide)
  have hcc : (((cl.map clAV).length : Nat) : Int).natAbs.log2 < 1920 := by rw [List.length_map]; exact Nat.lt_trans hc64 (by decide)
  have s3 : (Str.ofString (toString (((cl.map clAV).length : Nat) : Int))).length ≤ 100 := by rw [List.length_map]; exact s2
  refine EXs.dropF ?_
  refine exs_seq (ex_assign ok hk (by decide +kernel) ?_)
  repeat walk_at "w1"
  refine ⟨hkc, ?_⟩
  repeat walk_at "w1"
  refine ⟨hcc, ?_⟩
  repeat walk_at "w1"
  rename_i R
  refine ⟨_, Items.lst _, ?_⟩
  refine loop_inv (fun ds a => ∃ (pre rest : List (List Int)), ds = rest.map clAV ∧ cl = pre ++ rest ∧ a = ⟨[("count", .int k), ("clauses", .lst (cl.map clAV)), ("rows", .ref R)], (R, strAVs (headText k cl.length :: pre.map rowText)) :: sto⟩)
    ⟨[], cl, rfl, rfl, ?_⟩ ?_ ?_
  · simp [strAVs, headText, showI]
  · rintro a ⟨pre, rest, h1, h2, rfl⟩
    cases rest with
    | cons k r => simp at h1
    | nil =>
    rw [List.append_nil] at h2
    subst h2
    repeat walk_at "w1"
    refine tm_join_ref (by walk_at "mem") hj ?_
    exact ⟨rfl, by walk_at "subl"⟩
  · rintro d r a ⟨pre, rest, h1, h2, rfl⟩
    cases rest with
    | nil => simp at h1
    | cons l rest =>
    simp only [List.map_cons, List.cons.injEq] at h1
    obtain ⟨rfl, rfl⟩ := h1
    have hl := hcl2 l (by rw [h2]; simp)
    refine lset_c (by walk_at "lset") ?_
    have hlm : l ∈ cl := by rw [h2]; simp
    repeat walk_at "w1"
    refine ev_listcomp ok hh (by decide +kernel) (by decide +kernel) rfl (by decide +kernel) ?_
    repeat walk_at "w1"
    refine ⟨l.map .int, litF, Items.tup _, by simp; omega, ?_, fun D => ?_⟩
    · intro cc cx sto' d hd
      obtain ⟨i, hi, rfl⟩ := List.mem_map.mp hd
      have hi' := small_len (hl.2 i hi)
      have hil : i.natAbs.log2 < 1920 := Nat.lt_trans (hl.2 i hi) (by decide)
      have hkk : cc.Kinds [(".0", .local), ("literal", .local)] := fun p hp => by
        unfold Env.kindOf
        rw [cx.scope]
        simp only [List.mem_cons, List.not_mem_nil, or_false] at hp
        rcases hp with rfl | rfl <;> decide +kernel
      refine ⟨_, ta_name cx.ok hkk (by decide +kernel) (by walk_at "lset"), ?_⟩
      have ok := cx.ok
      clear hk
      repeat walk_at "w1"
      refine ⟨hil, ?_⟩
      repeat walk_at "w1"
      exact ⟨rfl, rfl⟩
    · rw [litF_map]
      repeat walk_at "w1"
      refine tm_join_ref (by walk_at "mem") (hj2 l hlm) ?_
      repeat walk_at "w1"
      refine t2_add_str ?_ ?_
      · have := join_len hl.1 hl.2
        rw [lenZ, sizeLine_eq]; omega
      have hpl : pre.length ≤ 1000 := by rw [h2] at hcl; simp at hcl; omega
      repeat walk_at "w1"
      dsimp only
      repeat walk_at "w1"
      refine nil_ws (lo' := [("count", .int k), ("clauses", .lst (cl.map clAV)), ("rows", .ref R)]) (st' := (R, strAVs (headText k cl.length :: (pre ++ [l]).map rowText)) :: sto) (by walk_at "sub") ?_ ?_
      · simp only [strAVs, List.map_append, List.map_cons, List.map_nil, List.cons_append, rowText]
        exact .cons _ (.refl _)
      · exact ⟨pre ++ [l], rest, rfl, by rw [h2]; simp, rfl⟩
end
end

section
open PySem PySem.W PySem.Calls PySem.Spec PyProof.Rows
open Builtin.Str
noncomputable abbrev Cell := Str × Option Int
noncomputable def optAV : Option Int → AV
  | some i => .int i
  | none => .none
noncomputable def cellAV (x : Cell) : AV := .tup [.str x.1, optAV x.2]
noncomputable def odds : List Cell := [("x", none), ("+1", none), ("-", none), ("--1", none), ("1-", none), ("1_0", none), ("c", none), ("p", none), ("cnf", none), ("1111111111111111111", none),
  ("-0", some 0), ("007", some 7), ("-000000000000000001", some (-1)), ("999999999999999999", some (10 ^ 18 - 1))]

section
variable {B : Bs} {c : Cx} {n : Nat} {X : PX} {Q : PQ}
theorem tc_dim (W : Wd B) {a : AS} (G : Good c n) (hn : n ≤ 12) {k : Int} {cl : List (List Int)} (hk0 : smallI k) (hcl : cl.length ≤ 1000) (hcl2 : ∀ l ∈ cl, l.length ≤ 1000 ∧ ∀ i ∈ l, smallI i)
    (hj : JoinOk "" (headText k cl.length :: cl.map rowText) = true) (hj2 : ∀ l ∈ cl, JoinOk "" (l.map litText) = true) (q : Q (.str (dimText k cl)) a) : TCall B c (.ref W.f4) [.int k, .lst (cl.map clAV)] a Q X :=
  tcall_top W.F4 G (by omega) W.lim rfl fun c' A => (dim_body W A (by omega) hk0 hcl hcl2 hj hj2).imp (fun f a1 ⟨e1, e2⟩ => by
    subst e1
    show Q _ ⟨a.loc, a1.sto⟩
    rw [e2]; exact q) (fun _ _ x => x.elim)
end


section
variable {B : Bs} {c : Cx} {n : Nat} {X : PX} {Q : PQ}
set_option maxHeartbeats 4000000 in
theorem odd_body (W : Wd B) (G : At c n 9) {sto : List (Addr × List AV)} : EXs B c (bodyOf 9) ⟨[], sto⟩ (fun f a => f = .ret (.lst (odds.map cellAV)) ∧ a.sto = sto) (fun _ _ => False) := by
  have ok := G.ok
  have hk := G.kinds
  have hh := G.fn.handled
  refine EXs.dropF ?_
  refine exs_seq ?_
  with_reducible refine ex_assign ok hk ?h ?_ swaps_list
  case h => decide +kernel
  repeat walk_at "w1"
  refine t2_iadd_list ok (by walk_at "supd") (by walk_at "mem") (by simp) ?_
  repeat walk_at "w1"
  refine t2_iadd_list ok (by walk_at "supd") (by walk_at "mem") (by simp) ?_
  refine lset_c (by walk_at "lset") ?_
  rename_i x y z
  refine EXs.weaken (a' := ⟨[("words", .ref x)], (x, odds.map cellAV) :: sto⟩) ?_ (by walk_at "sub") ?_
  · refine EXs.frz ok .out (.hit .nil) ?_
    repeat walk_at "w1"
    exact ⟨rfl, by walk_at "subl"⟩
  · exact .cons _ (.cons _ (.refl _))

theorem tc_odd (W : Wd B) {a : AS} (G : Good c n) (hn : n ≤ 12) (q : Q (.lst (odds.map cellAV)) a) : TCall B c (.ref W.f9) [] a Q X := by
  refine tc_of W.F9 G (by omega) W.lim rfl (loc := []) rfl (fun c' A => ?_) q
  exact @odd_body _ _ _ W A a.sto
end
end

section
open PySem PySem.W PySem.Calls PySem.Spec PyProof.Rows
open Builtin.Str
/-! what _law_due computes: the clauses -/
noncomputable def lstI (l : List Int) : AV := .lst (l.map .int)
noncomputable def clStep (s : List (List Int) × List Int) (v : Int) : List (List Int) × List Int := if (v == 0) = true then (s.1 ++ [s.2], []) else (s.1, s.2 ++ [v])
noncomputable def clOf (vs : List Int) : List (List Int) × List Int := vs.foldl clStep ([], [])
noncomputable def resAV (r : Except XV (Int × List (List Int))) : AV := match r with
  | .ok (n, cl) => .tup [.str "read", .int n, .lst (cl.map clAV), .int 2]
  | .error x => .tup [.str "fault", .str x.kind, .int x.at_, .str x.det]
theorem ansAV_res (lines : List Str) : ansAV lines = resAV (readD lines) := rfl
noncomputable def dueFin (count told : Int) (flat : List Int) (n : Nat) : Except XV (Int × List (List Int)) := finD ⟨count, told, (clOf flat).1, (clOf flat).2, n⟩
theorem clStep_size (s : List (List Int) × List Int) (v : Int) : (clStep s v).1.length + (clStep s v).2.length ≤ s.1.length + s.2.length + 1 := by
  unfold clStep; split <;> simp <;> omega
theorem clStep_mem (s : List (List Int) × List Int) (v : Int) : ∀ l ∈ (clStep s v).1, l ∈ s.1 ∨ l = s.2 := by
  unfold clStep; split <;> intro l hl
  · simpa using hl
  · exact .inl hl
theorem emp_len (l : List Int) : (!l.isEmpty) = decide (0 < ((l.length : Nat) : Int)) := by
  cases l with
  | nil => rfl
  | cons _ _ => simp
noncomputable def tupF : AV → AV
  | .lst l => .tup l
  | d => d
theorem tupF_map (l : List (List Int)) : (l.map lstI).map tupF = l.map clAV := by simp [lstI, tupF, clAV]

section
variable {B : Bs} {c : Cx} {n : Nat} {X : PX} {Q : PQ} {a : AS}
theorem Rep.perm {T : Tab} {s : Shared} {lo : List (Str × AV)} {st st' : List (Addr × List AV)} (h : st'.Perm st) (R : Rep B c T ⟨lo, st⟩ s) : Rep B c T ⟨lo, st'⟩ s :=
  { old := R.old, tab := R.tab, frames := R.frames, frs := R.frs, loc := R.loc, loT := R.loT, sto := fun p hp => R.sto p (h.mem_iff.mp hp), nd := (h.map (·.1)).nodup_iff.mpr R.nd, od := R.od, gens := R.gens, os := R.os }
theorem EXs.perm {ss : List Stmt} {lo : List (Str × AV)} {st st' : List (Addr × List AV)} {Q : PFq} (h : EXs B c ss ⟨lo, st'⟩ Q X) (p : st'.Perm st) : EXs B c ss ⟨lo, st⟩ Q X := fun T s R => h T s (R.perm p)
theorem FrzAll.snoc {x : Addr} {l : List AV} : ∀ k : List AV, FrzAll x l (k ++ [.ref x]) (k ++ [.lst l])
  | [] => ⟨.hit, trivial⟩
  | d :: r => ⟨.same d, FrzAll.snoc r⟩
theorem pb_and_short {e : Expr} {r : List Expr} {pos : Pos} {p : Bool} (h : PureB B c e a p X) (h2 : p = false) : PureB B c (.BoolOp .And (e :: r) pos) a false X :=
  eb_and (h.imp fun b a1 ⟨e1, e2⟩ => by
    subst e1 e2
    exact ⟨fun z => absurd (h2.symm.trans z) (by decide), fun z => ⟨rfl, rfl⟩⟩)
/-- an item at a place that is told by a count -/
theorem pred_int {k : Nat} {l : List AV} (h : l.length = k + 1) : (((l.length : Nat) : Int) - 1) = (k : Int) := by rw [h]; omega
end


section
variable {B : Bs} {c : Cx} {n : Nat} {X : PX} {Q : PQ}

set_option maxHeartbeats 4000000 in
theorem due9 (W : Wd B) (G : At c n 12) (hn : n ≤ 13) {rows : List AV} {count told : Int} {flat : List Int} {sto : List (Addr × List AV)} (hr : rows.length ≤ 100) (hf : flat.length ≤ 10000) :
    EXs B c ((bodyOf 12).drop 9) ⟨[("rows", .lst rows), ("count", .int count), ("told", .int told), ("flat", .lst (flat.map .int))], sto⟩ (fun f a => f = .ret (resAV (dueFin count told flat rows.length)) ∧ sto.Sublist a.sto) (fun _ _ => False) := by
  have ok := G.ok
  have hk := G.kinds
  have hh := G.fn.handled
  have fn := G.fn
  have g_len := W.g_len
  have g_tuple := W.g_tuple
  refine exs_seq ?_
  with_reducible refine ex_assign ok hk ?h ?_ swaps_list
  case h => decide +kernel
  repeat walk_at "w1"
  rename_i Y C
  refine ⟨_, Items.lst _, ?_⟩
  refine loop_inv (fun ds a => ∃ (rest : List Int) (s : List (List Int) × List Int) (Y C : Addr), ds = rest.map .int ∧ rest.foldl clStep s = clOf flat ∧ s.1.length + s.2.length + rest.length ≤ 10000 ∧ (∀ l ∈ s.1, l.length ≤ 10000) ∧
      a = ⟨[("rows", .lst rows), ("count", .int count), ("told", .int told), ("flat", .lst (flat.map .int)), ("clauses", .ref C)], (C, s.1.map lstI ++ [.ref Y]) :: (Y, s.2.map .int) :: sto⟩)
    ⟨flat, ([], []), Y, C, rfl, rfl, by simpa using hf, (fun l hl => nomatch hl), rfl⟩ ?_ ?_
  · rintro a ⟨rest, s, Y, C, h1, h2, h3, h4, rfl⟩
    cases rest with
    | cons k r => simp at h1
    | nil =>
    simp only [List.length_nil, Nat.add_zero] at h3
    have h2 : s = clOf flat := h2
    have hl : (s.1.map lstI ++ [AV.ref Y]).length = s.1.length + 1 := by simp
    have hat : (s.1.map lstI ++ [AV.ref Y])[s.1.length]? = some (AV.ref Y) := by simp
    have hfin : dueFin count told flat rows.length = finD ⟨count, told, s.1, s.2, rows.length⟩ := by unfold dueFin; rw [h2]
    rw [hfin]
    refine seq_next ?_
    refine s_ifp (p := (decide (count < 0) || (decide (0 < ((s.2.length : Nat) : Int)) || (((s.1.length : Nat) : Int) != told || false)))) ?_ (fun e => ?_) (fun e => ?_)
    · refine pb_or (by walk_at "pb") fun _ => pb_or (pb_compare ?_) fun _ => pb_or (pb_compare ?_) fun _ => pb_or_nil
      · repeat walk_at "w1"
        rw [pred_int hl]
        refine item_n (by walk_at "seqof") (by omega) hat ?_
        repeat walk_at "w1"
        exact ⟨by simp, rfl⟩
      · repeat walk_at "w1"
        rw [pred_int hl]
        exact ⟨rfl, rfl⟩
    · repeat walk_at "w1"
      refine ⟨?_, by walk_at "subl"⟩
      have e2 : (decide (count < 0) || (!s.2.isEmpty || (((s.1.length : Nat) : Int) != told || false))) = true := by
        rw [emp_len]; exact e
      show _ = AF.ret (resAV (finD _))
      unfold finD; rw [if_pos e2]; rfl
    · refine exs_nil (seq_next ?_)
      have e2 : ¬ (decide (count < 0) || (!s.2.isEmpty || (((s.1.length : Nat) : Int) != told || false))) = true := by
        rw [Bool.not_eq_true, emp_len]; exact e
      repeat walk_at "w1"
      refine EV.frz ok ?_
      refine ev_listcomp ok hh (by decide +kernel) (by decide +kernel) rfl (by decide +kernel) ?_
      refine EV.frz ok ?_
      repeat walk_at "w1"
      refine ⟨s.1.length, _, by rw [pred_int hl], .ref (by walk_at "mem"), (by intro l z; cases z), by rw [hl]; omega, fun y => ?_⟩
      refine ⟨_, _, _, _, rfl, .out, .refl, ?_⟩
      rw [List.take_append_of_le_length (by simp), List.take_of_length_le (by simp)]
      refine ⟨_, tupF, Items.lst _, by simp; omega, ?_, fun D => ?_⟩
      · intro cc cx sto' d hd
        obtain ⟨l, hl, rfl⟩ := List.mem_map.mp hd
        have hkk : cc.Kinds [(".0", .local), ("clause", .local), ("tuple", .globalImplicit)] := fun p hp => by
          unfold Env.kindOf
          rw [cx.scope]
          simp only [List.mem_cons, List.not_mem_nil, or_false] at hp
          rcases hp with rfl | rfl | rfl <;> decide +kernel
        have ok := cx.ok
        have hln : l.length ≤ 10000 := h4 l hl
        refine ⟨[("clause", lstI l)], ta_name cx.ok hkk (by decide) .nil, ?_⟩
        repeat walk_at "w1"
        refine tc_tuple_lst (by simp; omega) ?_
        exact ⟨rfl, rfl⟩
      · rw [tupF_map]
        refine ⟨_, _, _, _, rfl, .out, .refl, ?_⟩
        repeat walk_at "w1"
        refine ⟨?_, by walk_at "subl"⟩
        show _ = AF.ret (resAV (finD _))
        unfold finD; rw [if_neg e2]; rfl
  · rintro d r a ⟨rest, s, Y, C, h1, h2, h3, h4, rfl⟩
    cases rest with
    | nil => simp at h1
    | cons v rest =>
    simp only [List.map_cons, List.cons.injEq] at h1
    obtain ⟨rfl, rfl⟩ := h1
    simp only [List.length_cons] at h3
    refine lset_c (by walk_at "lset") ?_
    walk_at "st"
    case k2 =>
      intro e
      refine EXs.frz ok (.skip (FrzAll.snoc _) .out) .refl ?_
      repeat walk_at "w1"
      rename_i Y'
      refine EXs.perm (st' := (C, (clStep s v).1.map lstI ++ [.ref Y']) :: (Y', (clStep s v).2.map .int) :: sto) ?_ ?_
      · refine nil_ws (lo' := [("rows", .lst rows), ("count", .int count), ("told", .int told), ("flat", .lst (flat.map .int)), ("clauses", .ref C)]) (by walk_at "sub") (.refl _) ?_
        exact ⟨rest, clStep s v, Y', C, rfl, h2, by have := clStep_size s v; omega, fun l hl => by
          rcases clStep_mem s v l hl with q | q
          · exact h4 l q
          · rw [q]; omega, rfl⟩
      · have e1 : clStep s v = (s.1 ++ [s.2], []) := by unfold clStep; rw [if_pos e]
        rw [e1]
        simp only [List.map_append, List.map_cons, List.map_nil]
        exact List.Perm.swap _ _ _
    case k3 =>
      intro e
      repeat walk_at "w1"
      rw [pred_int (k := s.1.length) (by simp)]
      refine item_n (by walk_at "seqof") (by omega) (e := .ref Y) (by simp) ?_
      repeat walk_at "w1"
      have e1 : clStep s v = (s.1, s.2 ++ [v]) := by unfold clStep; rw [if_neg (by rw [e]; decide)]
      refine nil_ws (lo' := [("rows", .lst rows), ("count", .int count), ("told", .int told), ("flat", .lst (flat.map .int)), ("clauses", .ref C)]) (by walk_at "sub") (.refl _) ?_
      exact ⟨rest, clStep s v, Y, C, rfl, h2, by have := clStep_size s v; omega, fun l hl => by
          rcases clStep_mem s v l hl with q | q
          · exact h4 l q
          · rw [q]; omega, by rw [e1]; simp⟩
end
end

section
open PySem PySem.W PySem.Calls PySem.Spec PyProof.Rows
open Builtin.Str
/-! what _law_due computes: the faults -/
structure Flt where
  at_ : Nat
  k : Nat
  kind : Str
  det : Str
noncomputable def Flt.av (f : Flt) : AV := .tup [.int f.at_, .int f.k, .str f.kind, .str f.det]
noncomputable def Flt.key (f : Flt) : Int := f.at_ * 1000 + f.k
noncomputable def rowAV (row : List Cell) : AV := .lst (row.map cellAV)
noncomputable def firstP (row : List Cell) : Bool := match row with | [] => false | x :: _ => x.1 == "p"
noncomputable def isN (row : List Cell) : Bool := match row with | [] => false | x :: _ => x.1 != "c" && x.1 != "p"
noncomputable def cellF (count : Int) (h0 at_ k : Nat) (x : Cell) : Option Flt := match x.2 with
  | none => some ⟨at_, k, "bad_number", x.1⟩
  | some v => if (decide (count < 0) || (decide (at_ < h0) || decide (count < iabs v))) = true then some ⟨at_, k, "bad_variable", x.1⟩ else none
noncomputable def cellV (count : Int) (h0 at_ : Nat) (x : Cell) : Option Int := match x.2 with
  | none => none
  | some v => if (decide (count < 0) || (decide (at_ < h0) || decide (count < iabs v))) = true then none else some v
noncomputable def rowF (count : Int) (h0 at_ : Nat) (row : List Cell) (m : Nat) : List Flt := (List.range m).filterMap fun k => cellF count h0 at_ k (row.getD k ("", none))
noncomputable def rowV (count : Int) (h0 at_ : Nat) (row : List Cell) (m : Nat) : List Int := (List.range m).filterMap fun k => cellV count h0 at_ (row.getD k ("", none))
noncomputable def F3 (count : Int) (h0 : Nat) (rows : List (List Cell)) (m : Nat) : List Flt := (List.range m).flatMap fun i => if isN (rows.getD i []) = true then rowF count h0 i (rows.getD i []) (rows.getD i []).length else []
noncomputable def V3 (count : Int) (h0 : Nat) (rows : List (List Cell)) (m : Nat) : List Int := (List.range m).flatMap fun i => if isN (rows.getD i []) = true then rowV count h0 i (rows.getD i []) (rows.getD i []).length else []

theorem rowF_succ {count : Int} {h0 at_ : Nat} {row : List Cell} {m : Nat} : rowF count h0 at_ row (m + 1) = rowF count h0 at_ row m ++ (cellF count h0 at_ m (row.getD m ("", none))).toList := by
  unfold rowF; rw [List.range_succ, List.filterMap_append]; congr 1
theorem rowV_succ {count : Int} {h0 at_ : Nat} {row : List Cell} {m : Nat} : rowV count h0 at_ row (m + 1) = rowV count h0 at_ row m ++ (cellV count h0 at_ (row.getD m ("", none))).toList := by
  unfold rowV; rw [List.range_succ, List.filterMap_append]; congr 1
theorem F3_succ {count : Int} {h0 : Nat} {rows : List (List Cell)} {m : Nat} : F3 count h0 rows (m + 1) = F3 count h0 rows m ++ (if isN (rows.getD m []) = true then rowF count h0 m (rows.getD m []) (rows.getD m []).length else []) := by
  unfold F3; rw [List.range_succ, List.flatMap_append]; simp
theorem V3_succ {count : Int} {h0 : Nat} {rows : List (List Cell)} {m : Nat} : V3 count h0 rows (m + 1) = V3 count h0 rows m ++ (if isN (rows.getD m []) = true then rowV count h0 m (rows.getD m []) (rows.getD m []).length else []) := by
  unfold V3; rw [List.range_succ, List.flatMap_append]; simp
theorem rowF_len (count : Int) (h0 at_ : Nat) (row : List Cell) (m : Nat) : (rowF count h0 at_ row m).length ≤ m := by
  unfold rowF; exact Nat.le_trans (List.length_filterMap_le _ _) (by simp)
theorem rowV_len (count : Int) (h0 at_ : Nat) (row : List Cell) (m : Nat) : (rowV count h0 at_ row m).length ≤ m := by
  unfold rowV; exact Nat.le_trans (List.length_filterMap_le _ _) (by simp)
theorem getD_len {rows : List (List Cell)} (hr : ∀ r ∈ rows, r.length ≤ 100) (i : Nat) : (rows.getD i []).length ≤ 100 := by
  rw [List.getD_eq_getElem?_getD]
  cases h : rows[i]? with
  | none => simp
  | some r => exact hr r (List.mem_of_getElem? h)
theorem F3_len {count : Int} {h0 : Nat} {rows : List (List Cell)} (hr : ∀ r ∈ rows, r.length ≤ 100) : ∀ m : Nat, (F3 count h0 rows m).length ≤ m * 100
  | 0 => by simp [F3]
  | m + 1 => by
    rw [F3_succ, List.length_append]
    have h1 := F3_len (count := count) (h0 := h0) hr m
    have h2 := getD_len hr m
    split
    · have := rowF_len count h0 m (rows.getD m []) (rows.getD m []).length; omega
    · simp; omega
theorem V3_len {count : Int} {h0 : Nat} {rows : List (List Cell)} (hr : ∀ r ∈ rows, r.length ≤ 100) : ∀ m : Nat, (V3 count h0 rows m).length ≤ m * 100
  | 0 => by simp [V3]
  | m + 1 => by
    rw [V3_succ, List.length_append]
    have h1 := V3_len (count := count) (h0 := h0) hr m
    have h2 := getD_len hr m
    split
    · have := rowV_len count h0 m (rows.getD m []) (rows.getD m []).length; omega
    · simp; omega
theorem getD_some {α : Type} {l : List α} {i : Nat} {d x : α} (h : l[i]? = some x) : l.getD i d = x := by rw [List.getD_eq_getElem?_getD, h]; rfl

/-! a loop over a range -/
section
variable {B : Bs} {c : Cx} {a : AS} {X : PX}
theorem exs_open {st : Stmt} {r : List Stmt} {Q : PFq} (h : EXs B c (st :: r) a Q X) : EXs B c (st :: r) a Q X := h
theorem loop_rng {x : Str} {body : List Stmt} {Q : PFq} {n : Nat} (Inv : Nat → AS → Prop) (h0 : Inv 0 a) (hend : ∀ a, Inv n a → Q .next a)
    (hstep : ∀ (i : Nat) a, i < n → Inv i a → ∃ l', LSet x (.int (i : Int)) a.loc l' ∧ EXs B c body ⟨l', a.sto⟩ (fun f a' => match f with
      | .next => Inv (i + 1) a'
      | .cont => Inv (i + 1) a'
      | .brk => Q .next a'
      | .ret v => Q (.ret v) a') X) : LoopP B c x body ((List.range n).map fun (i : Nat) => AV.int (0 + i)) a Q X := by
  refine loop_inv (fun ds a => ∃ i, i ≤ n ∧ ds = ((List.range n).drop i).map (fun (i : Nat) => AV.int (0 + i)) ∧ Inv i a) ⟨0, by omega, by simp, h0⟩ ?_ ?_
  · rintro a ⟨i, h1, h2, h3⟩
    have : i = n := by
      have h2 := congrArg List.length h2; simp at h2; omega
    subst this; exact hend a h3
  · rintro d r a ⟨i, h1, h2, h3⟩
    have hlt : i < n := by
      have h2 := congrArg List.length h2; simp at h2; omega
    rw [List.drop_eq_getElem_cons (by simpa using hlt), List.map_cons, List.cons.injEq] at h2
    obtain ⟨rfl, rfl⟩ := h2
    rw [List.getElem_range]
    rw [show (0 + (i : Int)) = (i : Int) from by omega]
    obtain ⟨l', u, e⟩ := hstep i a hlt h3
    refine ⟨l', u, e.imp (fun f a' q => ?_) fun _ _ z => z⟩
    cases f with
    | next => exact ⟨i + 1, hlt, rfl, q⟩
    | cont => exact ⟨i + 1, hlt, rfl, q⟩
    | brk => exact q
    | ret v => exact q
end

/-! the least fault -/
noncomputable def keyAt (F : List Flt) (i : Nat) : Int := ((F[i]?).map Flt.key).getD 0
section
variable {B : Bs} {c : Cx} {n : Nat} {X : PX} {Q : PQ} {a : AS}
theorem tc_min_flt {F : List Flt} (ok : c.Ok) (hh : c.A.handled = none) (hl : 0 < F.length) (hnd : (F.map Flt.key).Nodup) (hk : ∀ f ∈ F, f.k < 1000)
    (q : ∀ f ∈ F, (∀ g ∈ F, f.key ≤ g.key) → Q f.av a) : TCall B c (.builtin "min") [.lst (F.map Flt.av)] a Q X := by
  refine tc_min (bt := fun i j => decide (keyAt F i < keyAt F j)) ok hh (by simpa using hl) ?_ ?_
  · intro i j d e T s v1 v2 A P E hji hd he hu hin r1 r2 hp
    rw [List.getElem?_map] at hd he
    cases hf : F[i]? with
    | none => rw [hf] at hd; cases hd
    | some f =>
    cases hg : F[j]? with
    | none => rw [hg] at he; cases he
    | some g =>
    rw [hf] at hd; rw [hg] at he
    cases hd; cases he
    have hkf := hk f (List.mem_of_getElem? hf)
    have hkg := hk g (List.mem_of_getElem? hg)
    have hne : f.key ≠ g.key := fun e => by
      have e1 : (F.map Flt.key)[i]? = some f.key := by rw [List.getElem?_map, hf]; rfl
      have e2 : (F.map Flt.key)[j]? = some f.key := by rw [List.getElem?_map, hg, e]; rfl
      have hi : i < (F.map Flt.key).length := by
        rcases Nat.lt_or_ge i (F.map Flt.key).length with h | h
        · exact h
        · rw [List.getElem?_eq_none h] at e1; cases e1
      have := (List.getElem?_inj hi hnd).mp (e1.trans e2.symm)
      omega
    unfold Flt.av at r1 r2
    cases r1 with
    | @tup x vs m l hx rs =>
    cases r2 with
    | @tup y us m2 l2 hy ru =>
    cases rs with
    | cons ra rs =>
    cases rs with
    | cons rb rs =>
    cases ra; cases rb
    cases ru with
    | cons ra ru =>
    cases ru with
    | cons rb ru =>
    cases ra; cases rb
    refine tup_lt hu (hin _ _ hx) (hin _ _ hy) ?_ ?_
    · rintro ⟨h1, h2⟩; exact hne (by unfold Flt.key; omega)
    · have e : (decide (keyAt F i < keyAt F j)) = decide ((f.at_ : Int) < (g.at_ : Int) ∨ ((f.at_ : Int) = (g.at_ : Int) ∧ (f.k : Int) < (g.k : Int))) := by
        rw [decide_eq_decide]
        unfold keyAt; rw [hf, hg]
        show f.key < g.key ↔ _
        unfold Flt.key
        omega
      rw [← e]; exact hp
  · intro d hd
    have hb := argBest_lt (keyAt F) ((F.map Flt.av).length - 1)
    rw [List.getElem?_map] at hd
    generalize hJ : argBest (fun i j => decide (keyAt F i < keyAt F j)) ((F.map Flt.av).length - 1) = J at hd hb
    cases hf : F[J]? with
    | none => rw [hf] at hd; cases hd
    | some f =>
    rw [hf] at hd; cases hd
    refine q f (List.mem_of_getElem? hf) fun g hg => ?_
    obtain ⟨j, hj⟩ := List.getElem?_of_mem hg
    have hjl : j < F.length := by
      rcases Nat.lt_or_ge j F.length with h | h
      · exact h
      · rw [List.getElem?_eq_none h] at hj; cases hj
    have := hb.2 j (by simp; omega)
    unfold keyAt at this
    rw [hf, hj] at this
    exact this
end
end

section
open PySem PySem.W PySem.Calls PySem.Spec PyProof.Rows
open Builtin.Str
section
variable {B : Bs} {c : Cx} {n : Nat} {X : PX} {Q : PQ}

noncomputable def dueRes (F : List Flt) (fin : Except XV (Int × List (List Int))) (r : Except XV (Int × List (List Int))) : Prop :=
  (F = [] → r = fin) ∧ (F ≠ [] → ∃ x ∈ F, (∀ f ∈ F, x.key ≤ f.key) ∧ r = .error ⟨x.kind, (x.at_ : Int) + 1, x.det⟩)

set_option maxHeartbeats 4000000 in
theorem due8 (W : Wd B) (G : At c n 12) (hn : n ≤ 13) {rows : List AV} {count told : Int} {flat : List Int} {F : List Flt} {sto : List (Addr × List AV)} (hr : rows.length ≤ 100) (hf : flat.length ≤ 10000)
    (hF : F.length ≤ 20000) (hnd : (F.map Flt.key).Nodup) (hk1 : ∀ f ∈ F, f.k < 1000) :
    EXs B c ((bodyOf 12).drop 8) ⟨[("rows", .lst rows), ("count", .int count), ("told", .int told), ("flat", .lst (flat.map .int)), ("faults", .lst (F.map Flt.av))], sto⟩
      (fun f a => (∃ r, dueRes F (dueFin count told flat rows.length) r ∧ f = .ret (resAV r)) ∧ sto.Sublist a.sto) (fun _ _ => False) := by
  have ok := G.ok
  have hk := G.kinds
  have hh := G.fn.handled
  have fn := G.fn
  have g_len := W.g_len
  have g_min := W.g_min
  have hFl : (F.map Flt.av).length < 2 ^ 24 := by simp; omega
  refine exs_open ?_
  walk_at "st"
  case k2 =>
    intro e
    have hpos : 0 < F.length := by simpa using e
    repeat walk_at "w1"
    refine tc_min_flt ok hh hpos hnd hk1 fun x hx hmin => ?_
    unfold Flt.av
    repeat walk_at "w1"
    refine ⟨⟨.error ⟨x.kind, (x.at_ : Int) + 1, x.det⟩, ⟨fun z => absurd (z ▸ hpos) (by decide), fun _ => ⟨x, hx, hmin, rfl⟩⟩, rfl⟩, by walk_at "subl"⟩
  case k3 =>
    intro e
    have h0 : F = [] := by
      cases F with
      | nil => rfl
      | cons _ _ => simp at e
    refine exs_nil (seq_next ?_)
    refine EXs.weaken (a' := ⟨[("rows", .lst rows), ("count", .int count), ("told", .int told), ("flat", .lst (flat.map .int))], sto⟩) ?_ (by walk_at "sub") (.refl _)
    have h9 := @due9 _ _ _ W G hn rows count told flat sto hr hf
    refine EXs.imp (Q := (fun f a => f = .ret (resAV (dueFin count told flat rows.length)) ∧ sto.Sublist a.sto)) (X := fun _ _ => False) ?_ ?_ ?_
    · exact h9
    · rintro f a ⟨h1, h2⟩
      exact ⟨⟨_, ⟨fun _ => rfl, fun z => absurd h0 z⟩, h1⟩, h2⟩
    · exact fun _ _ z => z
end
end

section
open PySem PySem.W PySem.Calls PySem.Spec PyProof.Rows
open Builtin.Str
section
variable {B : Bs} {c : Cx} {n : Nat} {X : PX} {Q : PQ}
noncomputable abbrev natsAV (l : List Nat) : List AV := l.map fun (i : Nat) => AV.int (i : Int)

set_option maxHeartbeats 4000000 in
theorem due6 (W : Wd B) (G : At c n 12) (hn : n ≤ 13) {rows : List (List Cell)} {count told : Int} {hs : List Nat} {Fl : List Flt} {H F : Addr} {sto : List (Addr × List AV)} (hr : rows.length ≤ 100) (hr2 : ∀ r ∈ rows, r.length ≤ 100)
    (hF : Fl.length ≤ 1000) (hnd : ((Fl ++ F3 count (hs.headD 0) rows rows.length).map Flt.key).Nodup) (hk1 : ∀ f ∈ Fl ++ F3 count (hs.headD 0) rows rows.length, f.k < 1000) (hc : 0 ≤ count → hs ≠ []) :
    EXs B c ((bodyOf 12).drop 6) ⟨[("rows", .lst (rows.map rowAV)), ("count", .int count), ("told", .int told), ("faults", .ref F), ("heads", .ref H)], (H, natsAV hs) :: (F, Fl.map Flt.av) :: sto⟩
      (fun f a => (∃ r, dueRes (Fl ++ F3 count (hs.headD 0) rows rows.length) (dueFin count told (V3 count (hs.headD 0) rows rows.length) rows.length) r ∧ f = .ret (resAV r)) ∧ sto.Sublist a.sto) (fun _ _ => False) := by
  have ok := G.ok
  have hk := G.kinds
  have hh := G.fn.handled
  have fn := G.fn
  have g_len := W.g_len
  have g_abs := W.g_abs
  have g_range := W.g_range
  generalize hh0 : hs.headD 0 = h0 at hnd hk1 ⊢
  have hlen : (rows.map rowAV).length = rows.length := by simp
  refine exs_open ?_
  repeat walk_at "w1"
  rename_i V
  rw [hlen]
  refine ⟨_, Items.rng (n := rows.length) (by omega) (by decide) (by decide) (by omega), ?_⟩
  refine loop_rng (fun i a => a = ⟨[("rows", .lst (rows.map rowAV)), ("count", .int count), ("told", .int told), ("faults", .ref F), ("heads", .ref H), ("flat", .ref V)],
      (V, (V3 count h0 rows i).map .int) :: (H, natsAV hs) :: (F, (Fl ++ F3 count h0 rows i).map Flt.av) :: sto⟩) (by simp [V3, F3]) ?_ ?_
  · rintro a rfl
    refine EXs.frz ok (st' := (H, natsAV hs) :: (F, (Fl ++ F3 count h0 rows rows.length).map Flt.av) :: sto) .out (k' := [("rows", .lst (rows.map rowAV)), ("count", .int count), ("told", .int told), ("faults", .ref F), ("heads", .ref H), ("flat", .lst ((V3 count h0 rows rows.length).map .int))]) (.keep (.keep (.keep (.keep (.keep (.hit .nil)))))) ?_
    refine EXs.frz ok (x := F) (st' := (H, natsAV hs) :: sto) (.skip (FrzAll.same _) .out) (k' := [("rows", .lst (rows.map rowAV)), ("count", .int count), ("told", .int told), ("faults", .lst ((Fl ++ F3 count h0 rows rows.length).map Flt.av)), ("heads", .ref H), ("flat", .lst ((V3 count h0 rows rows.length).map .int))]) (.keep (.keep (.keep (.hit (.keep (.keep .nil)))))) ?_
    have h8 := @due8 _ _ _ W G hn (rows.map rowAV) count told (V3 count h0 rows rows.length) (Fl ++ F3 count h0 rows rows.length) sto (by simpa using hr) (by have := V3_len (count := count) (h0 := h0) hr2 rows.length; omega)
      (by have := F3_len (count := count) (h0 := h0) hr2 rows.length; simp; omega) hnd hk1
    rw [hlen] at h8
    refine EXs.weaken (a' := ⟨[("rows", .lst (rows.map rowAV)), ("count", .int count), ("told", .int told), ("flat", .lst ((V3 count h0 rows rows.length).map .int)), ("faults", .lst ((Fl ++ F3 count h0 rows rows.length).map Flt.av))], sto⟩) ?_ ?_ (.cons _ (.refl _))
    · exact h8
    · intro p hp; simp only [List.mem_cons, List.not_mem_nil, or_false] at hp ⊢; rcases hp with rfl | rfl | rfl | rfl | rfl <;> simp
  · rintro i a hi rfl
    have hi24 : i < 2 ^ 24 := by omega
    refine lset_c (by walk_at "lset") ?_
    obtain ⟨row, hrow0⟩ : ∃ row, rows[i]? = some row := ⟨_, List.getElem?_eq_getElem hi⟩
    have hrow : (rows.map rowAV)[i]? = some (.lst (row.map cellAV)) := by rw [List.getElem?_map, hrow0]; rfl
    have hrd : rows.getD i [] = row := getD_some hrow0
    have hrl : row.length ≤ 100 := hr2 row (List.mem_of_getElem? hrow0)
    have eF : F3 count h0 rows (i + 1) = F3 count h0 rows i ++ (if isN row = true then rowF count h0 i row row.length else []) := by rw [F3_succ, hrd]
    have eV : V3 count h0 rows (i + 1) = V3 count h0 rows i ++ (if isN row = true then rowV count h0 i row row.length else []) := by rw [V3_succ, hrd]
    have hFi := F3_len (count := count) (h0 := h0) hr2 i
    have hVi := V3_len (count := count) (h0 := h0) hr2 i
    have hskip : isN row = false → F3 count h0 rows (i + 1) = F3 count h0 rows i ∧ V3 count h0 rows (i + 1) = V3 count h0 rows i := fun e => by
      rw [eF, eV, if_neg (by rw [e]; decide), if_neg (by rw [e]; decide), List.append_nil, List.append_nil]; exact ⟨rfl, rfl⟩
    cases row with
    | nil =>
      refine s_ifp (pb_and_short (p := decide (0 < (((([] : List Cell).map cellAV).length : Nat) : Int))) (pb_compare ?_) (by decide)) (fun e => nomatch e) (fun _ => ?_)
      · repeat walk_at "w1"
        exact ⟨rfl, rfl⟩
      · refine exs_nil (seq_next ?_)
        refine nil_ws (lo' := [("rows", .lst (rows.map rowAV)), ("count", .int count), ("told", .int told), ("faults", .ref F), ("heads", .ref H), ("flat", .ref V)]) (by walk_at "sub") (.refl _) ?_
        dsimp only
        rw [(hskip rfl).1, (hskip rfl).2]
    | cons x0 rx =>
      have hrx : rx.length ≤ 99 := by simpa using hrl
      refine s_ifp (p := true && ((x0.1 != "c") && ((x0.1 != "p") && true))) (pb_and (p := true) (pb_compare ?c1) fun _ => pb_and (p := x0.1 != "c") (pb_compare ?c2) fun _ => pb_and (p := x0.1 != "p") (pb_compare ?c3) fun _ => pb_and_nil) ?t ?f
      case c1 =>
        repeat walk_at "w1"
        exact ⟨by simp, rfl⟩
      case c2 =>
        repeat walk_at "w1"
        exact ⟨rfl, rfl⟩
      case c3 =>
        repeat walk_at "w1"
        exact ⟨rfl, rfl⟩
      case f =>
        intro e
        refine exs_nil (seq_next ?_)
        have hN : isN (x0 :: rx) = false := by unfold isN; simpa using e
        refine nil_ws (lo' := [("rows", .lst (rows.map rowAV)), ("count", .int count), ("told", .int told), ("faults", .ref F), ("heads", .ref H), ("flat", .ref V)]) (by walk_at "sub") (.refl _) ?_
        dsimp only
        rw [(hskip hN).1, (hskip hN).2]
      case t =>
        intro e
        have hN : isN (x0 :: rx) = true := by unfold isN; simpa using e
        rw [if_pos hN] at eF eV
        clear e hskip
        generalize x0 :: rx = row at hrow0 hrow hrd hrl eF eV
        repeat walk_at "w1"
        rw [List.length_map]
        refine ⟨_, Items.rng (n := row.length) (by omega) (by decide) (by decide) (by omega), ?_⟩
        refine loop_rng (fun j a => a = ⟨[("rows", .lst (rows.map rowAV)), ("count", .int count), ("told", .int told), ("faults", .ref F), ("heads", .ref H), ("flat", .ref V), ("at", .int i)],
          (V, (V3 count h0 rows i ++ rowV count h0 i row j).map .int) :: (H, natsAV hs) :: (F, (Fl ++ F3 count h0 rows i ++ rowF count h0 i row j).map Flt.av) :: sto⟩) (by simp [rowV, rowF]) ?_ ?_
        · rintro a rfl
          refine seq_next (nil_ws (lo' := [("rows", .lst (rows.map rowAV)), ("count", .int count), ("told", .int told), ("faults", .ref F), ("heads", .ref H), ("flat", .ref V)]) (by walk_at "sub") (.refl _) ?_)
          rw [eF, eV, List.append_assoc]
          exact seq_next (exs_nil rfl)
        · rintro j a hj rfl
          have hj24 : j < 2 ^ 24 := by omega
          refine lset_c (by walk_at "lset") ?_
          obtain ⟨⟨w, v⟩, hcell0⟩ : ∃ x, row[j]? = some x := ⟨_, List.getElem?_eq_getElem hj⟩
          have hcell : (row.map cellAV)[j]? = some (.tup [.str w, optAV v]) := by rw [List.getElem?_map, hcell0]; rfl
          have hcd : row.getD j ("", none) = (w, v) := getD_some hcell0
          have lF := rowF_len count h0 i row j
          have lV := rowV_len count h0 i row j
          have eF2 : rowF count h0 i row (j + 1) = rowF count h0 i row j ++ (cellF count h0 i j (w, v)).toList := by rw [rowF_succ, hcd]
          have eV2 : rowV count h0 i row (j + 1) = rowV count h0 i row j ++ (cellV count h0 i (w, v)).toList := by rw [rowV_succ, hcd]
          have hz1 : ((Fl ++ F3 count h0 rows i ++ rowF count h0 i row j).map Flt.av).length < 2 ^ 24 := by simp; omega
          have hz2 : ((V3 count h0 rows i ++ rowV count h0 i row j).map AV.int).length < 2 ^ 24 := by simp; omega
          clear eF eV
          walk_at "st"
          repeat walk_at "w1"
          refine ⟨.str w, optAV v, _, _, rfl, by walk_at "lset", by walk_at "lset", ?_⟩
          cases v with
          | none =>
            walk_at "st"
            case k3 => intro e; cases e
            case k2 =>
              intro _
              repeat walk_at "w1"
              refine nil_ws (lo' := [("rows", .lst (rows.map rowAV)), ("count", .int count), ("told", .int told), ("faults", .ref F), ("heads", .ref H), ("flat", .ref V), ("at", .int i)]) (by walk_at "sub") (.refl _) ?_
              dsimp only
              rw [eF2, eV2]
              simp [cellF, cellV, Flt.av]
          | some v =>
            dsimp only [optAV]
            walk_at "st"
            case k2 => intro e; cases e
            case k3 =>
              intro _
              have bad : (decide (count < 0) || (decide (i < h0) || decide (count < iabs v))) = true → ∀ X' : PX, EXs B c [] ⟨[("rows", .lst (rows.map rowAV)), ("count", .int count), ("told", .int told), ("faults", .ref F), ("heads", .ref H), ("flat", .ref V), ("at", .int i), ("k", .int j), ("word", .str w), ("value", .int v)],
                (V, (V3 count h0 rows i ++ rowV count h0 i row j).map .int) :: (H, natsAV hs) :: (F, (Fl ++ F3 count h0 rows i ++ rowF count h0 i row j).map Flt.av ++ [.tup [.int i, .int j, .str "bad_variable", .str w]]) :: sto⟩
                (fun f a => f = .next ∧ a = ⟨[("rows", .lst (rows.map rowAV)), ("count", .int count), ("told", .int told), ("faults", .ref F), ("heads", .ref H), ("flat", .ref V), ("at", .int i)],
                  (V, (V3 count h0 rows i ++ rowV count h0 i row (j + 1)).map .int) :: (H, natsAV hs) :: (F, (Fl ++ F3 count h0 rows i ++ rowF count h0 i row (j + 1)).map Flt.av) :: sto⟩) X' := fun e X' => by
                refine nil_ws (lo' := [("rows", .lst (rows.map rowAV)), ("count", .int count), ("told", .int told), ("faults", .ref F), ("heads", .ref H), ("flat", .ref V), ("at", .int i)]) (by walk_at "sub") (.refl _) ⟨rfl, ?_⟩
                rw [eF2, eV2]
                simp only [cellF, cellV]
                rw [if_pos e, if_pos e]
                simp [Flt.av]
              by_cases hc0 : count < 0
              · refine s_ifp (p := true) (pb_or_short (p := decide (count < 0)) (by walk_at "pb") (by simpa using hc0)) (fun _ => ?_) (fun e => nomatch e)
                repeat walk_at "w1"
                dsimp only
                refine (bad (by simp [hc0]) _).imp ?_ (fun _ _ z => z)
                rintro f a ⟨rfl, rfl⟩
                rfl
              · cases hs with
                | nil => exact absurd rfl (hc (by omega))
                | cons h tl =>
                obtain rfl : h = h0 := hh0
                refine s_ifp (p := decide (count < 0) || (decide (i < h) || (decide (count < iabs v) || false))) (pb_or (p := decide (count < 0)) (pb_compare ?c1) fun _ => pb_or (p := decide (i < h)) (pb_compare ?c2) fun _ => pb_or (p := decide (count < iabs v)) (pb_compare ?c3) fun _ => pb_or_nil) ?t ?f
                case c1 =>
                  repeat walk_at "w1"
                  exact ⟨rfl, rfl⟩
                case c2 =>
                  repeat walk_at "w1"
                  exact ⟨by simp, rfl⟩
                case c3 =>
                  repeat walk_at "w1"
                  exact ⟨rfl, rfl⟩
                case t =>
                  intro e
                  repeat walk_at "w1"
                  dsimp only
                  refine (bad (by rw [Bool.or_false] at e; exact e) _).imp ?_ (fun _ _ z => z)
                  rintro f a ⟨rfl, rfl⟩
                  rfl
                case f =>
                  intro e
                  repeat walk_at "w1"
                  refine nil_ws (lo' := [("rows", .lst (rows.map rowAV)), ("count", .int count), ("told", .int told), ("faults", .ref F), ("heads", .ref H), ("flat", .ref V), ("at", .int i)]) (by walk_at "sub") (.refl _) ?_
                  dsimp only
                  rw [eF2, eV2]
                  rw [Bool.or_false] at e
                  simp only [cellF, cellV]
                  rw [if_neg (by rw [e]; decide), if_neg (by rw [e]; decide)]
                  simp
end
end

section
open PySem PySem.W PySem.Calls PySem.Spec PyProof.Rows
open Builtin.Str
/-! the first header -/
noncomputable def minI (a b : Int) : Int := if b < a then b else a
noncomputable def headNums (h0 : Nat) (line w2 w3 : Str) (v2 v3 : Option Int) : List Flt × Int × Int := match v2, v3 with
  | some a, some b => if (decide (minI a b < 0)) = true then ([⟨h0, 4, "bad_header", line⟩], -1, 0) else ([], a, b)
  | none, some _ => ([⟨h0, 2, "bad_number", w2⟩], -1, 0)
  | some _, none => ([⟨h0, 3, "bad_number", w3⟩], -1, 0)
  | none, none => ([⟨h0, 2, "bad_number", w2⟩, ⟨h0, 3, "bad_number", w3⟩], -1, 0)
noncomputable def numF (h0 k : Nat) (w : Str) (v : Option Int) : List Flt := match v with
  | none => [⟨h0, k, "bad_number", w⟩]
  | some _ => []
noncomputable def numV (v : Option Int) : List AV := match v with
  | none => []
  | some i => [.int i]
theorem headNums_few {h0 : Nat} {line w2 w3 : Str} {v2 v3 : Option Int} (h : v2 = none ∨ v3 = none) : headNums h0 line w2 w3 v2 v3 = (numF h0 2 w2 v2 ++ numF h0 3 w3 v3, -1, 0) := by
  cases v2 with
  | none => cases v3 <;> rfl
  | some a => cases v3 with
    | none => rfl
    | some b => rcases h with h | h <;> cases h
theorem numV_few {v2 v3 : Option Int} (h : v2 = none ∨ v3 = none) : ((((numV v2 ++ numV v3).length : Nat) : Int) == 2) = false := by
  cases v2 with
  | none => cases v3 <;> rfl
  | some a => cases v3 with
    | none => rfl
    | some b => rcases h with h | h <;> cases h
theorem numV_len (v2 v3 : Option Int) : (numV v2 ++ numV v3).length < 2 ^ 24 := by
  cases v2 <;> cases v3 <;> simp [numV]
noncomputable def headInfo (top : List Cell) (h0 : Nat) (line : Str) : List Flt × Int × Int := match top with
  | [_, x1, x2, x3] => if (x1.1 != "cnf") = true then ([⟨h0, 0, "bad_header", line⟩], -1, 0) else headNums h0 line x2.1 x3.1 x2.2 x3.2
  | _ => ([⟨h0, 0, "bad_header", line⟩], -1, 0)
noncomputable def hdOf (rows : List (List Cell)) (lines : List Str) (hs : List Nat) : List Flt × Int × Int := match hs with
  | [] => ([], -1, 0)
  | h0 :: _ => headInfo (rows.getD h0 []) h0 (lines.getD h0 "")
/-- what the reading of the first header leaves -/
noncomputable def Leaf (rows : List AV) (hs : List AV) (H F : Addr) (Fl : List AV) (sto : List (Addr × List AV)) (r : List Flt × Int × Int) (a : AS) : Prop :=
  (∀ p ∈ [(("rows" : Str), AV.lst rows), ("faults", .ref F), ("heads", .ref H), ("count", .int r.2.1), ("told", .int r.2.2)], p ∈ a.loc) ∧ ((H, hs) :: (F, Fl ++ r.1.map Flt.av) :: sto).Sublist a.sto
theorem headInfo_len (top : List Cell) (h0 : Nat) (line : Str) : (headInfo top h0 line).1.length ≤ 2 := by
  unfold headInfo; split
  · split
    · simp
    · unfold headNums; split
      · split <;> simp
      · simp
      · simp
      · simp
  · simp

section
variable {B : Bs} {c : Cx} {n : Nat} {X : PX} {Q : PQ} {a : AS}
theorem tc_min2 {p q : Int} (ok : c.Ok) (hh : c.A.handled = none) (h : Q (.int (minI p q)) a) : TCall B c (.builtin "min") [.lst [.int p, .int q]] a Q X := by
  refine tc_min (bt := fun i j => decide ((if i = 0 then p else q) < (if j = 0 then p else q))) ok hh (by simp) ?_ ?_
  · intro i j d e T s v1 v2 A P E hji hd he hu hin r1 r2 hp
    have hi : i = 1 := by
      rcases i with _ | _ | i
      · omega
      · rfl
      · simp at hd
    subst hi
    have hj : j = 0 := by omega
    subst hj
    cases hd; cases he; cases r1; cases r2
    exact rc_lt hp
  · intro d hd
    have e : argBest (fun i j => decide ((if i = 0 then p else q) < (if j = 0 then p else q))) 1 = if q < p then 1 else 0 := by
      simp [argBest]
    change ([AV.int p, AV.int q])[argBest _ 1]? = some d at hd
    rw [e] at hd
    unfold minI at h
    by_cases hq : q < p
    · rw [if_pos hq] at hd h; cases hd; exact h
    · rw [if_neg hq] at hd h; cases hd; exact h
theorem loop_cons {x : Str} {body : List Stmt} {Q : PFq} {d : AV} {r : List AV} {lo : List (Str × AV)} {st : List (Addr × List AV)} {l' : List (Str × AV)} (u : LSet x d lo l') (h : EXs B c body ⟨l', st⟩ (fun f a' => match f with
      | .next => LoopP B c x body r a' Q X
      | .cont => LoopP B c x body r a' Q X
      | .brk => Q .next a'
      | .ret v => Q (.ret v) a') X) : LoopP B c x body (d :: r) ⟨lo, st⟩ Q X := ⟨l', u, h⟩
theorem ex_ifp {t : Expr} {b o : List Stmt} {pos : Pos} {Q : PFq} {p : Bool} (h : PureB B c t a p X) (h1 : p = true → EXs B c b a Q X) (h2 : p = false → EXs B c o a Q X) : EX B c (.If t b o pos) a Q X :=
  ex_if (EB.imp h fun b' a1 ⟨e1, e2⟩ => by subst e1 e2; exact ⟨h1, h2⟩)
theorem loop_nil {x : Str} {body : List Stmt} {Q : PFq} (h : Q .next a) : LoopP B c x body [] a Q X := h
end


section
variable {B : Bs} {c : Cx} {n : Nat} {X : PX} {Q : PQ}

set_option maxHeartbeats 4000000 in
theorem due5 (W : Wd B) (G : At c n 12) (hn : n ≤ 13) {rows : List (List Cell)} {lines : List Str} {hs : List Nat} {Fl : List Flt} {H F : Addr} {sto : List (Addr × List AV)} (hr : rows.length ≤ 100) (hr2 : ∀ r ∈ rows, r.length ≤ 100)
    (hll : lines.length = rows.length) (hhs : ∀ h ∈ hs, h < rows.length) (hhl : hs.length ≤ 100)
    (hF : Fl.length ≤ 900) (hnd : ((Fl ++ (hdOf rows lines hs).1 ++ F3 (hdOf rows lines hs).2.1 (hs.headD 0) rows rows.length).map Flt.key).Nodup) (hk1 : ∀ f ∈ Fl ++ (hdOf rows lines hs).1 ++ F3 (hdOf rows lines hs).2.1 (hs.headD 0) rows rows.length, f.k < 1000) :
    EXs B c ((bodyOf 12).drop 5) ⟨[("rows", .lst (rows.map rowAV)), ("lines", .lst (strAVs lines)), ("faults", .ref F), ("heads", .ref H), ("count", .int (-1)), ("told", .int 0)], (H, natsAV hs) :: (F, Fl.map Flt.av) :: sto⟩
      (fun f a => (∃ r, dueRes (Fl ++ (hdOf rows lines hs).1 ++ F3 (hdOf rows lines hs).2.1 (hs.headD 0) rows rows.length) (dueFin (hdOf rows lines hs).2.1 (hdOf rows lines hs).2.2 (V3 (hdOf rows lines hs).2.1 (hs.headD 0) rows rows.length) rows.length) r ∧ f = .ret (resAV r)) ∧ sto.Sublist a.sto) (fun _ _ => False) := by
  have ok := G.ok
  have hk := G.kinds
  have hh := G.fn.handled
  have fn := G.fn
  have g_len := W.g_len
  have g_min := W.g_min
  cases hs with
  | nil =>
    refine exs_open ?_
    refine s_ifp (p := false) (pb_compare ?c1) (fun e => nomatch e) (fun _ => ?f)
    case c1 =>
      repeat walk_at "w1"
      exact ⟨rfl, rfl⟩
    case f =>
      refine exs_nil (seq_next ?_)
      have h6 := @due6 _ _ _ W G hn rows (-1) 0 [] Fl H F sto hr hr2 (by omega) (by simpa [hdOf] using hnd) (by simpa [hdOf] using hk1) (fun z => absurd z (by decide))
      have e : Fl ++ (hdOf rows lines []).1 = Fl := by simp [hdOf]
      rw [e]
      refine EXs.weaken (a' := ⟨[("rows", .lst (rows.map rowAV)), ("count", .int (-1)), ("told", .int 0), ("faults", .ref F), ("heads", .ref H)], (H, natsAV []) :: (F, Fl.map Flt.av) :: sto⟩) ?_ ?_ (.refl _)
      · exact h6
      · intro p hp; simp only [List.mem_cons, List.not_mem_nil, or_false] at hp ⊢; rcases hp with rfl | rfl | rfl | rfl | rfl <;> simp
  | cons h0 tl =>
    refine exs_seq (EX.imp (Q := fun f a => f = .next ∧ Leaf (rows.map rowAV) (natsAV (h0 :: tl)) H F (Fl.map Flt.av) sto (headInfo (rows.getD h0 []) h0 (lines.getD h0 "")) a) ?_ ?goOn)
    case goOn =>
      rintro f ⟨lo, st⟩ ⟨rfl, h1, h2⟩
      refine seq_next ?_
      have go : ∀ (FH : List Flt) (cn td : Int), headInfo (rows.getD h0 []) h0 (lines.getD h0 "") = (FH, cn, td) → EXs B c ((bodyOf 12).drop 6) ⟨[("rows", .lst (rows.map rowAV)), ("count", .int cn), ("told", .int td), ("faults", .ref F), ("heads", .ref H)], (H, natsAV (h0 :: tl)) :: (F, (Fl ++ FH).map Flt.av) :: sto⟩
        (fun f a => (∃ r, dueRes (Fl ++ (hdOf rows lines (h0 :: tl)).1 ++ F3 (hdOf rows lines (h0 :: tl)).2.1 ((h0 :: tl).headD 0) rows rows.length) (dueFin (hdOf rows lines (h0 :: tl)).2.1 (hdOf rows lines (h0 :: tl)).2.2 (V3 (hdOf rows lines (h0 :: tl)).2.1 ((h0 :: tl).headD 0) rows rows.length) rows.length) r ∧ f = .ret (resAV r)) ∧ sto.Sublist a.sto) (fun _ _ => False) := by
        intro FH cn td e
        have e2 : hdOf rows lines (h0 :: tl) = (FH, cn, td) := e
        have l2 : FH.length ≤ 2 := by have := headInfo_len (rows.getD h0 []) h0 (lines.getD h0 ""); rw [e] at this; exact this
        rw [e2] at hnd hk1 ⊢
        exact @due6 _ _ _ W G hn rows cn td (h0 :: tl) (Fl ++ FH) H F sto hr hr2 (by simp; omega) hnd hk1 (fun _ z => by cases z)
      have e3 := go _ _ _ rfl
      rw [List.map_append] at e3
      refine EXs.weaken (a' := ⟨[("rows", .lst (rows.map rowAV)), ("count", .int (headInfo (rows.getD h0 []) h0 (lines.getD h0 "")).2.1), ("told", .int (headInfo (rows.getD h0 []) h0 (lines.getD h0 "")).2.2), ("faults", .ref F), ("heads", .ref H)],
        (H, natsAV (h0 :: tl)) :: (F, Fl.map Flt.av ++ (headInfo (rows.getD h0 []) h0 (lines.getD h0 "")).1.map Flt.av) :: sto⟩) ?_ (fun p hp => h1 p ?_) h2
      · exact e3
      · simp only [List.mem_cons, List.not_mem_nil, or_false] at hp ⊢; rcases hp with rfl | rfl | rfl | rfl | rfl <;> simp
    clear hnd hk1
    have hh0 := hhs h0 (.head _)
    have h24 : h0 < 2 ^ 24 := by omega
    obtain ⟨top, htop0⟩ : ∃ row, rows[h0]? = some row := ⟨_, List.getElem?_eq_getElem hh0⟩
    have htop : (rows.map rowAV)[h0]? = some (.lst (top.map cellAV)) := by rw [List.getElem?_map, htop0]; rfl
    have htd : rows.getD h0 [] = top := getD_some htop0
    obtain ⟨line, hline0⟩ : ∃ line, lines[h0]? = some line := ⟨_, List.getElem?_eq_getElem (by omega)⟩
    have hline : (strAVs lines)[h0]? = some (.str line) := by unfold strAVs; rw [List.getElem?_map, hline0]; rfl
    have hld : lines.getD h0 "" = line := getD_some hline0
    have htll : tl.length ≤ 99 := by simpa using hhl
    have htl : top.length ≤ 100 := hr2 top (List.mem_of_getElem? htop0)
    rw [htd, hld]
    generalize hI : headInfo top h0 line = res
    refine ex_ifp (p := true) (pb_compare ?c0) (fun _ => ?t0) (fun e => nomatch e)
    case c0 =>
      repeat walk_at "w1"
      exact ⟨by simp, rfl⟩
    case t0 =>
      repeat walk_at "w1"
      dsimp only
      by_cases h4 : ∃ x0 x1 x2 x3, top = [x0, x1, x2, x3]
      · obtain ⟨x0, ⟨w1, v1⟩, ⟨w2, v2⟩, ⟨w3, v3⟩, rfl⟩ := h4
        refine s_ifp (p := false || ((w1 != "cnf") || false)) (pb_or (p := false) (pb_compare ?c1) fun _ => pb_or (p := w1 != "cnf") (pb_compare ?c2) fun _ => pb_or_nil) ?t ?f
        case c1 =>
          repeat walk_at "w1"
          exact ⟨rfl, rfl⟩
        case c2 =>
          repeat walk_at "w1"
          exact ⟨rfl, rfl⟩
        case t =>
          intro e
          have e : (w1 != "cnf") = true := by simpa using e
          repeat walk_at "w1"
          refine exs_nil ⟨rfl, ?_, ?_⟩
          all_goals (have hI2 : res = ([⟨h0, 0, "bad_header", line⟩], -1, 0) := by
                      rw [← hI]; unfold headInfo; dsimp only; rw [if_pos e]
                     subst hI2; dsimp only)
          · walk_at "sub"
          · exact .refl _
        case f =>
          intro e
          have e : ¬ (w1 != "cnf") = true := by simpa using e
          have hi : headNums h0 line w2 w3 v2 v3 = res := by
            rw [← hI]; unfold headInfo; dsimp only
            rw [if_neg e]
          clear hI
          repeat walk_at "w1"
          rename_i N
          refine ⟨_, Items.tup _, ?_⟩
          have hn24 : (numV v2).length < 2 ^ 24 := by cases v2 <;> simp [numV]
          have hf24 : (Fl.map Flt.av ++ (numF h0 2 w2 v2).map Flt.av).length < 2 ^ 24 := by cases v2 <;> simp [numF] <;> omega
          refine loop_cons (by walk_at "lset") (EXs.imp (Q := fun f a => f = .next ∧ a = ⟨[("rows", .lst (rows.map rowAV)), ("lines", .lst (strAVs lines)), ("faults", .ref F), ("heads", .ref H), ("count", .int (-1)), ("told", .int 0), ("at", .int h0), ("top", .lst ([x0, (w1, v1), (w2, v2), (w3, v3)].map cellAV)), ("numbers", .ref N), ("k", .int 2)], (N, numV v2) :: (H, natsAV (h0 :: tl)) :: (F, Fl.map Flt.av ++ (numF h0 2 w2 v2).map Flt.av) :: sto⟩) (X := fun _ _ => False) ?ia ?ra (fun _ _ z => z))
          case ia =>
            cases v2 with
            | none =>
              refine s_ifp (p := true) (pb_compare ?d1a) (fun _ => ?d2a) (fun e => nomatch e)
              case d1a =>
                repeat walk_at "w1"
                exact ⟨rfl, rfl⟩
              case d2a =>
                walk_at "st"
                repeat walk_at "w0"
                refine exs_nil (seq_next (exs_nil ⟨rfl, ?_⟩))
                simp [numV, numF, Flt.av, cellAV, optAV]
            | some p =>
              refine s_ifp (p := false) (pb_compare ?d1a) (fun e => nomatch e) (fun _ => ?d2a)
              case d1a =>
                repeat walk_at "w1"
                exact ⟨rfl, rfl⟩
              case d2a =>
                walk_at "st"
                repeat walk_at "w0"
                refine exs_nil (seq_next (exs_nil ⟨rfl, ?_⟩))
                simp [numV, numF, cellAV, optAV]
          rintro f a ⟨rfl, rfl⟩
          dsimp only
          refine loop_cons (by walk_at "lset") (EXs.imp (Q := fun f a => f = .next ∧ a = ⟨[("rows", .lst (rows.map rowAV)), ("lines", .lst (strAVs lines)), ("faults", .ref F), ("heads", .ref H), ("count", .int (-1)), ("told", .int 0), ("at", .int h0), ("top", .lst ([x0, (w1, v1), (w2, v2), (w3, v3)].map cellAV)), ("numbers", .ref N), ("k", .int 3)], (N, numV v2 ++ numV v3) :: (H, natsAV (h0 :: tl)) :: (F, Fl.map Flt.av ++ (numF h0 2 w2 v2).map Flt.av ++ (numF h0 3 w3 v3).map Flt.av) :: sto⟩) (X := fun _ _ => False) ?ib ?rb (fun _ _ z => z))
          case ib =>
            cases v3 with
            | none =>
              refine s_ifp (p := true) (pb_compare ?d1b) (fun _ => ?d2b) (fun e => nomatch e)
              case d1b =>
                repeat walk_at "w1"
                exact ⟨rfl, rfl⟩
              case d2b =>
                walk_at "st"
                repeat walk_at "w0"
                refine exs_nil (seq_next (exs_nil ⟨rfl, ?_⟩))
                simp [numV, numF, Flt.av, cellAV, optAV]
            | some p =>
              refine s_ifp (p := false) (pb_compare ?d1b) (fun e => nomatch e) (fun _ => ?d2b)
              case d1b =>
                repeat walk_at "w1"
                exact ⟨rfl, rfl⟩
              case d2b =>
                walk_at "st"
                repeat walk_at "w0"
                refine exs_nil (seq_next (exs_nil ⟨rfl, ?_⟩))
                simp [numV, numF, cellAV, optAV]
          rintro f a ⟨rfl, rfl⟩
          dsimp only
          refine loop_nil (seq_next ?_)
          have hv24 := numV_len v2 v3
          refine EXs.frz ok .out (.keep (.keep (.keep (.keep (.keep (.keep (.keep (.keep (.hit (.keep .nil)))))))))) ?_
          by_cases hfew : v2 = none ∨ v3 = none
          · have hnf := numV_few hfew
            rw [headNums_few hfew] at hi
            subst hi
            refine s_ifp (p := false) (pb_and_short (p := false) (pb_compare ?e1) rfl) (fun e => nomatch e) (fun _ => ?e2)
            case e1 =>
              repeat walk_at "w1"
              exact ⟨hnf, rfl⟩
            case e2 =>
              refine s_ifp (p := false) (pb_compare ?e3) (fun e => nomatch e) (fun _ => ?e4)
              case e3 =>
                repeat walk_at "w1"
                exact ⟨hnf, rfl⟩
              case e4 =>
                (repeat (first | with_reducible refine exs_nil ?_ | with_reducible refine seq_next ?_)); refine ⟨rfl, ?_, ?_⟩
                · dsimp only; walk_at "sub"
                · dsimp only; rw [List.map_append, ← List.append_assoc]; exact .refl _
          · obtain ⟨p, rfl⟩ : ∃ p, v2 = some p := by
              cases v2 with
              | none => exact absurd (.inl rfl) hfew
              | some p => exact ⟨p, rfl⟩
            obtain ⟨q, rfl⟩ : ∃ q, v3 = some q := by
              cases v3 with
              | none => exact absurd (.inr rfl) hfew
              | some q => exact ⟨q, rfl⟩
            subst hi
            dsimp only [numV, numF, List.map_nil, List.cons_append, List.nil_append]
            simp only [List.map_nil, List.append_nil]
            refine s_ifp (p := true && (decide (minI p q < 0) && true)) (pb_and (p := true) (pb_compare ?e1) fun _ => pb_and (p := decide (minI p q < 0)) (pb_compare ?e2) fun _ => pb_and_nil) (fun e => ?e3) (fun e => ?e4)
            case e1 =>
              repeat walk_at "w1"
              exact ⟨rfl, rfl⟩
            case e2 =>
              repeat walk_at "w1"
              refine tc_min2 ok hh ?_
              repeat walk_at "w1"
              exact ⟨rfl, rfl⟩
            case e3 =>
              have e : decide (minI p q < 0) = true := by simpa using e
              repeat walk_at "w1"
              (repeat (first | with_reducible refine exs_nil ?_ | with_reducible refine seq_next ?_)); refine ⟨rfl, ?_, ?_⟩
              all_goals (dsimp only [headNums]; rw [if_pos e])
              · walk_at "sub"
              · simp [Flt.av]
            case e4 =>
              have e : ¬ decide (minI p q < 0) = true := by simpa using e
              refine s_ifp (p := true) (pb_compare ?e5) (fun _ => ?e6) (fun e => nomatch e)
              case e5 =>
                repeat walk_at "w1"
                exact ⟨rfl, rfl⟩
              case e6 =>
                repeat walk_at "w1"
                (repeat (first | with_reducible refine exs_nil ?_ | with_reducible refine seq_next ?_)); refine ⟨rfl, ?_, ?_⟩
                all_goals (dsimp only [headNums, optAV]; rw [if_neg e])
                · walk_at "sub"
                · simp
      · have hl4 : top.length ≠ 4 := fun q => h4 (list4 q)
        have hI2 : res = ([⟨h0, 0, "bad_header", line⟩], -1, 0) := by
          rw [← hI]; unfold headInfo
          split
          · exact absurd rfl hl4
          · rfl
        subst hI2
        refine s_ifp (p := true) (pb_or_short (p := (((top.map cellAV).length : Nat) : Int) != 4) (pb_compare ?c1) ?c2) (fun _ => ?t) (fun e => nomatch e)
        case c1 =>
          repeat walk_at "w1"
          exact ⟨rfl, rfl⟩
        case c2 =>
          simp; omega
        case t =>
          repeat walk_at "w1"
          refine exs_nil ⟨rfl, ?_, ?_⟩
          · dsimp only; walk_at "sub"
          · exact .refl _
end
end

section
open PySem PySem.W PySem.Calls PySem.Spec PyProof.Rows
open Builtin.Str
/-! the headers -/
noncomputable def headsOf (rows : List (List Cell)) (m : Nat) : List Nat := (List.range m).filter fun i => firstP (rows.getD i [])
noncomputable def badHead (lines : List Str) (i : Nat) : Flt := ⟨i, 0, "bad_header", lines.getD i ""⟩
noncomputable def F1 (lines : List Str) (hs : List Nat) : List Flt := (hs.drop 1).map (badHead lines)
theorem headsOf_succ {rows : List (List Cell)} {m : Nat} : headsOf rows (m + 1) = headsOf rows m ++ (if firstP (rows.getD m []) = true then [m] else []) := by
  unfold headsOf; rw [List.range_succ, List.filter_append]; congr 1
  by_cases h : firstP (rows.getD m []) = true
  · rw [if_pos h]; simp only [List.filter, h]
  · rw [if_neg h]; simp only [List.filter, h]
theorem headsOf_lt {rows : List (List Cell)} {m : Nat} : ∀ h ∈ headsOf rows m, h < m := fun h hh => by
  unfold headsOf at hh; simp at hh; exact hh.1
theorem headsOf_len {rows : List (List Cell)} {m : Nat} : (headsOf rows m).length ≤ m := by
  unfold headsOf; exact Nat.le_trans (List.length_filter_le _ _) (by simp)
/-- all that is wrong with the rows -/
noncomputable def dueF (rows : List (List Cell)) (lines : List Str) : List Flt :=
  F1 lines (headsOf rows rows.length) ++ (hdOf rows lines (headsOf rows rows.length)).1 ++ F3 (hdOf rows lines (headsOf rows rows.length)).2.1 ((headsOf rows rows.length).headD 0) rows rows.length
noncomputable def dueOk (rows : List (List Cell)) (lines : List Str) : Except XV (Int × List (List Int)) :=
  dueFin (hdOf rows lines (headsOf rows rows.length)).2.1 (hdOf rows lines (headsOf rows rows.length)).2.2 (V3 (hdOf rows lines (headsOf rows rows.length)).2.1 ((headsOf rows rows.length).headD 0) rows rows.length) rows.length


section
variable {B : Bs} {c : Cx} {n : Nat} {X : PX} {Q : PQ}

set_option maxHeartbeats 4000000 in
theorem due0 (W : Wd B) (G : At c n 12) (hn : n ≤ 13) {rows : List (List Cell)} {lines : List Str} {sto : List (Addr × List AV)} (hr : rows.length ≤ 100) (hr2 : ∀ r ∈ rows, r.length ≤ 100)
    (hll : lines.length = rows.length) (hnd : ((dueF rows lines).map Flt.key).Nodup) (hk1 : ∀ f ∈ dueF rows lines, f.k < 1000) :
    EXs B c (bodyOf 12) ⟨[("rows", .lst (rows.map rowAV)), ("lines", .lst (strAVs lines))], sto⟩
      (fun f a => (∃ r, dueRes (dueF rows lines) (dueOk rows lines) r ∧ f = .ret (resAV r)) ∧ sto.Sublist a.sto) (fun _ _ => False) := by
  have ok := G.ok
  have hk := G.kinds
  have hh := G.fn.handled
  have fn := G.fn
  have g_len := W.g_len
  have g_range := W.g_range
  refine exs_open ?_
  walk_at "st"
  repeat walk_at "w1"
  rename_i F H
  rw [List.length_map]
  refine ⟨_, Items.rng (n := rows.length) (by omega) (by decide) (by decide) (by omega), ?_⟩
  refine loop_rng (fun i a => a = ⟨[("rows", .lst (rows.map rowAV)), ("lines", .lst (strAVs lines)), ("faults", .ref F), ("heads", .ref H), ("count", .int (-1)), ("told", .int 0)], (H, natsAV (headsOf rows i)) :: (F, (F1 lines (headsOf rows i)).map Flt.av) :: sto⟩) rfl ?_ ?_
  · rintro a rfl
    have hl := headsOf_len (rows := rows) (m := rows.length)
    refine seq_next ?_
    exact @due5 _ _ _ W G hn rows lines (headsOf rows rows.length) (F1 lines (headsOf rows rows.length)) H F sto hr hr2 hll headsOf_lt (by omega) (by unfold F1; simp; omega) hnd hk1
  · rintro i a hi rfl
    have hi24 : i < 2 ^ 24 := by omega
    have hil := headsOf_len (rows := rows) (m := i)
    have hF24 : (F1 lines (headsOf rows i)).length ≤ 200 := by unfold F1; simp; omega
    obtain ⟨row, hrow0⟩ : ∃ row, rows[i]? = some row := ⟨_, List.getElem?_eq_getElem hi⟩
    have hrow : (rows.map rowAV)[i]? = some (.lst (row.map cellAV)) := by rw [List.getElem?_map, hrow0]; rfl
    have hrd : rows.getD i [] = row := getD_some hrow0
    have hrl : row.length ≤ 100 := hr2 row (List.mem_of_getElem? hrow0)
    obtain ⟨line, hline0⟩ : ∃ line, lines[i]? = some line := ⟨_, List.getElem?_eq_getElem (by omega)⟩
    have hline : (strAVs lines)[i]? = some (.str line) := by unfold strAVs; rw [List.getElem?_map, hline0]; rfl
    have hld : lines.getD i "" = line := getD_some hline0
    have eH : headsOf rows (i + 1) = headsOf rows i ++ (if firstP row = true then [i] else []) := by rw [headsOf_succ, hrd]
    refine lset_c (by walk_at "lset") ?_
    have hskip : firstP row = false → headsOf rows (i + 1) = headsOf rows i := fun e => by rw [eH, if_neg (by rw [e]; decide), List.append_nil]
    cases row with
    | nil =>
      refine s_ifp (pb_and_short (p := decide (0 < (((([] : List Cell).map cellAV).length : Nat) : Int))) (pb_compare ?_) (by decide)) (fun e => nomatch e) (fun _ => ?_)
      · repeat walk_at "w1"
        exact ⟨rfl, rfl⟩
      · refine exs_nil (seq_next ?_)
        refine nil_ws (lo' := [("rows", .lst (rows.map rowAV)), ("lines", .lst (strAVs lines)), ("faults", .ref F), ("heads", .ref H), ("count", .int (-1)), ("told", .int 0)]) (by walk_at "sub") (.refl _) ?_
        dsimp only
        rw [hskip rfl]
    | cons x0 rx =>
      have hrx : rx.length ≤ 99 := by simpa using hrl
      refine s_ifp (p := true && ((x0.1 == "p") && true)) (pb_and (p := true) (pb_compare ?c1) fun _ => pb_and (p := x0.1 == "p") (pb_compare ?c2) fun _ => pb_and_nil) ?t ?f
      case c1 =>
        repeat walk_at "w1"
        exact ⟨by simp, rfl⟩
      case c2 =>
        repeat walk_at "w1"
        exact ⟨rfl, rfl⟩
      case f =>
        intro e
        refine exs_nil (seq_next ?_)
        have hN : firstP (x0 :: rx) = false := by unfold firstP; simpa using e
        refine nil_ws (lo' := [("rows", .lst (rows.map rowAV)), ("lines", .lst (strAVs lines)), ("faults", .ref F), ("heads", .ref H), ("count", .int (-1)), ("told", .int 0)]) (by walk_at "sub") (.refl _) ?_
        dsimp only
        rw [hskip hN]
      case t =>
        intro e
        have hN : firstP (x0 :: rx) = true := by unfold firstP; simpa using e
        rw [if_pos hN] at eH
        clear e hskip
        walk_at "st"
        repeat walk_at "ev"
        refine And.intro (by walk_at "methof") ?_
        repeat walk_at "evs"
        walk_at "ev"
        repeat walk_at "evs"
        refine tm_append ok (by walk_at "supd") (by simp; omega) ?_
        dsimp only
        cases hH : headsOf rows i with
        | nil =>
          rw [hH] at eH
          refine s_ifp (p := false) (pb_compare ?d1) (fun e => nomatch e) (fun _ => ?d2)
          case d1 =>
            repeat walk_at "w1"
            exact ⟨rfl, rfl⟩
          case d2 =>
            refine exs_nil (seq_next (exs_nil (seq_next ?_)))
            refine nil_ws (lo' := [("rows", .lst (rows.map rowAV)), ("lines", .lst (strAVs lines)), ("faults", .ref F), ("heads", .ref H), ("count", .int (-1)), ("told", .int 0)]) (by walk_at "sub") (.refl _) ?_
            dsimp only
            rw [eH]
            rfl
        | cons h0 tl =>
          rw [hH] at eH
          have htl : tl.length ≤ 200 := by rw [hH] at hil; simp at hil; omega
          have hF2 : ((F1 lines (h0 :: tl)).map Flt.av).length < 2 ^ 24 := by unfold F1; simp; omega
          have htl2 : (natsAV (h0 :: tl) ++ [AV.int (i : Int)]).length < 2 ^ 24 := by simp; omega
          refine s_ifp (p := true) (pb_compare ?d1) (fun _ => ?d2) (fun e => nomatch e)
          case d1 =>
            repeat walk_at "w1"
            refine ⟨by simp; omega, rfl⟩
          case d2 =>
            repeat walk_at "w1"
            refine nil_ws (lo' := [("rows", .lst (rows.map rowAV)), ("lines", .lst (strAVs lines)), ("faults", .ref F), ("heads", .ref H), ("count", .int (-1)), ("told", .int 0)]) (by walk_at "sub") (.refl _) ?_
            dsimp only
            rw [eH]
            simp [F1, natsAV, badHead, hline0, Flt.av]
theorem tc_due (W : Wd B) {a : AS} (G : Good c n) (hn : n ≤ 12) {rows : List (List Cell)} {lines : List Str} (hr : rows.length ≤ 100) (hr2 : ∀ r ∈ rows, r.length ≤ 100)
    (hll : lines.length = rows.length) (hnd : ((dueF rows lines).map Flt.key).Nodup) (hk1 : ∀ f ∈ dueF rows lines, f.k < 1000) (q : ∀ r, dueRes (dueF rows lines) (dueOk rows lines) r → Q (resAV r) a) : TCall B c (.ref W.f12) [.lst (rows.map rowAV), .lst (strAVs lines)] a Q X := by
  refine tcall_top W.F12 G (by omega) W.lim rfl fun c' A => ?_
  refine EXs.imp (Q := fun f a1 => (∃ r, dueRes (dueF rows lines) (dueOk rows lines) r ∧ f = .ret (resAV r)) ∧ a1.sto = a.sto) (X := fun _ _ => False) ?_ ?_ (fun _ _ z => z.elim)
  · exact EXs.dropF (@due0 _ _ _ W A (by omega) rows lines a.sto hr hr2 hll hnd hk1)
  · rintro f a1 ⟨⟨r, h1, rfl⟩, h2⟩
    show Q (resAV r) ⟨a.loc, a1.sto⟩
    rw [h2]; exact q r h1
end
end

section
open PySem PySem.W PySem.Calls PySem.Spec PyProof.Rows
open Builtin.Str
noncomputable def text1 : Str := "c p\np cnf 2 2\n1 -2 0 2\n\n0"
noncomputable def text2 : Str := "p cnf 2 1\n+1 0"
noncomputable def text3 : Str := "1 0\np cnf 2 1"
noncomputable def text4 : Str := "p cnf 2 1\n1 2"
theorem rdok1 : RdOk text1 := by unfold RdOk OkW; decide +kernel
theorem rdok2 : RdOk text2 := by unfold RdOk OkW; decide +kernel
theorem rdok3 : RdOk text3 := by unfold RdOk OkW; decide +kernel
theorem rdok4 : RdOk text4 := by unfold RdOk OkW; decide +kernel
theorem ans1 : ansAV (Txt.split text1 "\n") = .tup [.str "read", .int 2, .lst [.tup [.int 1, .int (-2)], .tup [.int 2]], .int 2] := by kernel_rfl
theorem ans2 : ansAV (Txt.split text2 "\n") = .tup [.str "fault", .str "bad_number", .int 2, .str "+1"] := by kernel_rfl
theorem ans3 : ansAV (Txt.split text3 "\n") = .tup [.str "fault", .str "bad_variable", .int 1, .str "1"] := by kernel_rfl
theorem ans4 : ansAV (Txt.split text4 "\n") = .tup [.str "fault", .str "unfinished_text", .int 2, .str ""] := by kernel_rfl


section
variable {B : Bs} {c : Cx} {n : Nat} {X : PX} {Q : PQ}

set_option maxHeartbeats 4000000 in
theorem fix_body (W : Wd B) (G : At c n 13) (hn : n ≤ 12) {sto : List (Addr × List AV)} : EXs B c (bodyOf 13) ⟨[], sto⟩ (fun f a => f = .ret (.bool true) ∧ sto.Sublist a.sto) (fun _ _ => False) := by
  have ok := G.ok
  have hk := G.kinds
  have hh := G.fn.handled
  have fn := G.fn
  have F10 := W.F10
  have a1 := ans1; unfold text1 at a1
  have a2 := ans2; unfold text2 at a2
  have a3 := ans3; unfold text3 at a3
  have a4 := ans4; unfold text4 at a4
  refine exs_open ?_
  refine s_if (eb_compare ?_)
  repeat walk_at "w1"
  refine tc_ans W G.toGood (by omega) rdok1 ?_
  rw [a1]
  walk_at "ev"
  walk_at "evs"
  walk_at "ev"
  walk_at "evs"
  walk_at "ev"
  walk_at "evs"
  refine EV.frz ok ?_
  repeat walk_at "w1"
  refine ⟨_, _, _, _, rfl, .out, .refl, ?_⟩
  repeat walk_at "w1"
  refine t2_ne_same ok (by decide +kernel) (by decide +kernel) ?_
  refine bool_q ⟨(fun e => by cases e), fun _ => exs_nil (seq_next ?_)⟩
  refine s_if (eb_compare ?_)
  repeat walk_at "w1"
  refine tc_ans W G.toGood (by omega) rdok2 ?_
  rw [a2]
  repeat walk_at "w1"
  refine t2_ne_same ok (by decide +kernel) (by decide +kernel) ?_
  refine bool_q ⟨(fun e => by cases e), fun _ => exs_nil (seq_next ?_)⟩
  refine s_if (eb_compare ?_)
  repeat walk_at "w1"
  refine tc_ans W G.toGood (by omega) rdok3 ?_
  rw [a3]
  repeat walk_at "w1"
  refine t2_ne_same ok (by decide +kernel) (by decide +kernel) ?_
  refine bool_q ⟨(fun e => by cases e), fun _ => exs_nil (seq_next ?_)⟩
  repeat walk_at "w1"
  refine tc_ans W G.toGood (by omega) rdok4 ?_
  rw [a4]
  repeat walk_at "w1"
  refine t2_eq_same ok (by decide +kernel) (by decide +kernel) ?_
  exact ⟨rfl, by walk_at "subl"⟩
theorem tc_fix (W : Wd B) {a : AS} (G : Good c n) (hn : n ≤ 11) (q : Q (.bool true) a) : TCall B c (.ref W.f13) [] a Q X := by
  refine tc_of W.F13 G (by omega) W.lim rfl (loc := []) rfl (fun c' A => ?_) q
  exact EXs.dropF (@fix_body _ _ _ W A (by omega) a.sto)
end
end

section
open PySem PySem.W PySem.Calls PySem.Spec PyProof.Rows
open Builtin.Str
/-! the words that the law draws -/
noncomputable def valsAll : List Int := [0, 1, 2, 3, 4, 5, 6, 7, 8, 9, 10, 11, 12, 13, -1, -2, -3, 10 ^ 18 - 1]
noncomputable def intCells : List Cell := [0, 1, 2, 3, 4, 5, 6, 7, 8, 9, 10, 11, 12, 13, -1, -2, -3].map fun (i : Int) => (showI i, some i)
noncomputable def allCells : List Cell := odds ++ ([("c", none), ("p", none), ("cnf", none), ("1", some 1)] : List Cell) ++ intCells
theorem odd_in {x : Cell} (h : x ∈ odds) : x ∈ allCells := by unfold allCells; simp [h]
theorem int_in_all : ∀ k ∈ List.range 17, ((showI ((k : Nat) - 3), some (((k : Nat) : Int) - 3)) : Cell) ∈ allCells := by decide +kernel
theorem int_in {i : Int} (h1 : -3 ≤ i) (h2 : i ≤ 13) : ((showI i, some i) : Cell) ∈ allCells := by
  have h := int_in_all (i + 3).toNat (List.mem_range.mpr (by omega))
  rwa [Int.toNat_of_nonneg (by omega), Int.add_sub_cancel] at h
theorem cell_facts : ∀ x ∈ allCells, OkW x.1 ∧ x.2 = (if badWord x.1 = true then none else some (wordVal x.1)) := by
  unfold OkW; decide +kernel
theorem c_in : (("c", none) : Cell) ∈ allCells := by decide +kernel
theorem p_in : (("p", none) : Cell) ∈ allCells := by decide +kernel
theorem cnf_in : (("cnf", none) : Cell) ∈ allCells := by decide +kernel
theorem one_in : (("1", some 1) : Cell) ∈ allCells := by decide +kernel
/-- lines made of rows -/
noncomputable def leads : List Str := ["", " "]
noncomputable def gaps : List Str := [" ", "  ", "\t", " \t"]
noncomputable def LineOf (row : List Cell) (line : Str) : Prop := ∃ lead ∈ leads, ∃ gap ∈ gaps, line = lead ++ Txt.join gap (row.map (·.1))
noncomputable def GoodRow (row : List Cell) : Prop := row.length ≤ 5 ∧ ∀ x ∈ row, x ∈ allCells
inductive Zip2 {α β : Type} (R : α → β → Prop) : List α → List β → Prop
  | nil : Zip2 R [] []
  | cons {x : α} {y : β} {l : List α} {m : List β} : R x y → Zip2 R l m → Zip2 R (x :: l) (y :: m)
theorem Zip2.len {α β : Type} {R : α → β → Prop} {l : List α} {m : List β} (h : Zip2 R l m) : m.length = l.length := by
  induction h with
  | nil => rfl
  | cons _ _ ih => simp [ih]
theorem Zip2.snoc {α β : Type} {R : α → β → Prop} {l : List α} {m : List β} {x : α} {y : β} (h : Zip2 R l m) (e : R x y) : Zip2 R (l ++ [x]) (m ++ [y]) := by
  induction h with
  | nil => exact .cons e .nil
  | cons r _ ih => exact .cons r ih
noncomputable def Made (rows : List (List Cell)) (lines : List Str) : Prop := 0 < rows.length ∧ rows.length ≤ 6 ∧ (∀ r ∈ rows, GoodRow r) ∧ Zip2 LineOf rows lines
structure PlainAt (rows : List (List Cell)) (lines : List Str) : Prop where
  nd : ((dueF rows lines).map Flt.key).Nodup
  k : ∀ f ∈ dueF rows lines, f.k < 1000
  join : JoinOk "\n" lines = true
  rd : RdOk (Txt.join "\n" lines)
  same : ∀ r, dueRes (dueF rows lines) (dueOk rows lines) r → resAV r = ansAV (Txt.split (Txt.join "\n" lines) "\n") ∧ (resAV r).dat = true ∧ (pd (resAV r)).depth ≤ 1000 ∧
    ∀ n cl, r = .ok (n, cl) → smallI n ∧ cl.length ≤ 1000 ∧ (∀ l ∈ cl, l.length ≤ 1000 ∧ ∀ i ∈ l, smallI i) ∧ JoinOk "" (headText n cl.length :: cl.map rowText) = true ∧ (∀ l ∈ cl, JoinOk "" (l.map litText) = true) ∧
      RdOk (dimText n cl) ∧ ansAV (Txt.split (dimText n cl) "\n") = resAV (.ok (n, cl))
noncomputable def PlainLaw : Prop := ∀ rows lines, Made rows lines → PlainAt rows lines

section
variable {B : Bs} {c : Cx} {n : Nat} {X : PX} {Q : PQ} {a : AS}
theorem tm_join_lst {x : Str} {xs : List Str} (hok : JoinOk x xs = true) (q : Q (.str (Txt.join x xs)) a) : TM B c "str.join" (.str x) [.lst (strAVs xs)] a Q X := fun T s v vs R hv hvs => by
  obtain ⟨w, rfl, r⟩ := vrs1 hvs
  cases hv
  cases r with
  | @lst z ws n l e rs =>
  obtain ⟨l, rfl, hl⟩ := vrs_strs_inv rs
  exact SC.join ⟨_, R.tab _ _ e, rfl, _, rfl⟩ hl hok fun t' k => pv0 (R.toks _) (.str _ _) q
section
variable (W : Wd B) (G : Good c n) (hn : n ≤ 20) {cells : List Int} (hc : ∀ z ∈ cells, 0 ≤ z ∧ z < 10 ^ 60) (hl : cells.length ≤ 40) {pot : Addr} (p : Pot cells.length) {lim : Int} (h1 : 1 ≤ lim) (h2 : lim ≤ 1000) {x y z : Addr × List AV} {lo : List (Str × AV)}
include G hn hc hl h1 h2
theorem tc_pk {fr : List (Addr × List AV)} {st : List (Addr × List AV)} (e : fr ++ [(pot, p.av)] = st) (q : ∀ (d : Nat) (p' : Pot cells.length), (d : Int) < lim → Q (.int d) ⟨lo, fr ++ [(pot, p'.av)]⟩) : TCall B c (.ref W.f8) [.lst (cells.map .int), .ref pot, .int lim] ⟨lo, st⟩ Q X := by
  subst e
  refine tc_pick W G hn hc hl h1 h2 fun d p' h3 h4 => ?_
  obtain ⟨k, rfl⟩ : ∃ k : Nat, d = k := ⟨d.toNat, by omega⟩
  exact q k p' h4
theorem tc_p0 (q : ∀ (d : Nat) (p' : Pot cells.length), (d : Int) < lim → Q (.int d) ⟨lo, [(pot, p'.av)]⟩) : TCall B c (.ref W.f8) [.lst (cells.map .int), .ref pot, .int lim] ⟨lo, [(pot, p.av)]⟩ Q X :=
  tc_pk W G hn hc hl p h1 h2 (fr := []) rfl q
theorem tc_p1 (q : ∀ (d : Nat) (p' : Pot cells.length), (d : Int) < lim → Q (.int d) ⟨lo, [x, (pot, p'.av)]⟩) : TCall B c (.ref W.f8) [.lst (cells.map .int), .ref pot, .int lim] ⟨lo, [x, (pot, p.av)]⟩ Q X :=
  tc_pk W G hn hc hl p h1 h2 (fr := [x]) rfl q
theorem tc_p2 (q : ∀ (d : Nat) (p' : Pot cells.length), (d : Int) < lim → Q (.int d) ⟨lo, [x, y, (pot, p'.av)]⟩) : TCall B c (.ref W.f8) [.lst (cells.map .int), .ref pot, .int lim] ⟨lo, [x, y, (pot, p.av)]⟩ Q X :=
  tc_pk W G hn hc hl p h1 h2 (fr := [x, y]) rfl q
end
end


section
variable {B : Bs} {c : Cx} {n : Nat} {X : PX} {Q : PQ}
theorem odd_facts : ∀ x ∈ odds, (x.2 = none → badWord x.1 = true) ∧ (∀ v, x.2 = some v → badWord x.1 = false ∧ wordVal x.1 = v) ∧ (AV.str x.1).dat = true := by
  intro x hx
  have h := (cell_facts x (odd_in hx)).2
  refine ⟨fun e => ?_, fun v e => ?_, ?_⟩
  · rw [e] at h
    by_cases hb : badWord x.1 = true
    · exact hb
    · rw [if_neg hb] at h; cases h
  · rw [e] at h
    by_cases hb : badWord x.1 = true
    · rw [if_pos hb] at h; cases h
    · rw [if_neg hb] at h; cases h; exact ⟨by simpa using hb, rfl⟩
  · revert x; decide +kernel

theorem dat3 {k w : Str} {i : Int} (h : (AV.str w).dat = true) (hk : (AV.str k).dat = true := by decide +kernel) : (AV.tup [.str k, .int i, .str w]).dat = true := by
  simp only [AV.dat, dats, Bool.and_true, Bool.true_and] at h hk ⊢
  rw [h, hk]; rfl
theorem depth3 (k w : Str) (i : Int) : (pd (AV.tup [.str k, .int i, .str w])).depth ≤ 1000 := by
  simp only [pd, pds, PyData.depth, PyData.depthAll]
  omega
set_option maxHeartbeats 4000000 in
theorem law22 (W : Wd B) (G : At c n 14) (hn : n ≤ 10) {cells : List Int} (hc : ∀ z ∈ cells, 0 ≤ z ∧ z < 10 ^ 60) (hl : cells.length ≤ 40) {P : Addr} (p : Pot cells.length) :
    EXs B c ((bodyOf 14).drop 22) ⟨[("cells", .lst (cells.map .int)), ("pot", .ref P), ("odd", .lst (odds.map cellAV))], [(P, p.av)]⟩ (fun f _ => f = .ret (.bool true)) (fun _ _ => False) := by
  have ok := G.ok
  have hk := G.kinds
  have hh := G.fn.handled
  have fn := G.fn
  have g_len := W.g_len
  have F8 := W.F8
  have F11 := W.F11
  refine exs_open ?_
  walk_at "st"
  repeat walk_at "w1"
  refine tc_p0 W G.toGood (by omega) hc hl p (by decide) (by decide) fun d p' hd => ?_
  have hd14 : d < odds.length := by simpa using hd
  obtain ⟨⟨w, v⟩, hx0⟩ : ∃ x, odds[d]? = some x := ⟨_, List.getElem?_eq_getElem hd14⟩
  have hx : (odds.map cellAV)[d]? = some (.tup [.str w, optAV v]) := by rw [List.getElem?_map, hx0]; rfl
  have hd24 : d < 2 ^ 24 := Nat.lt_trans hd14 (by decide)
  obtain ⟨o1, o2, o3⟩ := odd_facts _ (List.mem_of_getElem? hx0)
  have o4 := (cell_facts _ (odd_in (List.mem_of_getElem? hx0))).1
  repeat walk_at "w1"
  refine ⟨.str w, optAV v, _, _, rfl, by walk_at "lset", by walk_at "lset", ?_⟩
  repeat walk_at "w1"
  refine tc_p0 W G.toGood (by omega) hc hl p' (by decide) (by decide) fun at_ p'' hat => ?_
  repeat walk_at "w1"
  refine tc_word W G.toGood (by omega) o4 ?_
  cases v with
  | none =>
    have e1 : wordAV w at_ = .tup [.str "bad_number", .int at_, .str w] := by unfold wordAV; rw [if_pos (o1 rfl)]
    rw [e1]
    repeat walk_at "w1"
    refine ⟨fun _ => ?_, (fun e => by cases e)⟩
    repeat walk_at "w1"
    refine t2_eq_same ok (dat3 (w := w) o3) (depth3 _ _ _) rfl
  | some v =>
    have e1 : wordAV w at_ = .int v := by unfold wordAV; rw [if_neg (by rw [(o2 v rfl).1]; decide), (o2 v rfl).2]
    rw [e1]
    repeat walk_at "w1"
    refine ⟨(fun e => by cases e), fun _ => ?_⟩
    repeat walk_at "w1"
    dsimp only [optAV]
    refine t2_eq_same ok rfl ?_ rfl
    simp [pd, PyData.depth]
end
end

section
open PySem PySem.W PySem.Calls PySem.Spec PyProof.Rows
open Builtin.Str
section
variable {B : Bs} {c : Cx} {n : Nat} {X : PX} {Q : PQ}
set_option maxHeartbeats 4000000 in
theorem law19 (PL : PlainLaw) (W : Wd B) (G : At c n 14) (hn : n ≤ 10) {cells : List Int} (hc : ∀ z ∈ cells, 0 ≤ z ∧ z < 10 ^ 60) (hl : cells.length ≤ 40) {P : Addr} (p : Pot cells.length)
    {rows : List (List Cell)} {lines : List Str} (M : Made rows lines) :
    EXs B c ((bodyOf 14).drop 19) ⟨[("cells", .lst (cells.map .int)), ("pot", .ref P), ("odd", .lst (odds.map cellAV)), ("rows", .lst (rows.map rowAV)), ("lines", .lst (strAVs lines))], [(P, p.av)]⟩ (fun f _ => f = .ret (.bool true)) (fun _ _ => False) := by
  have ok := G.ok
  have hk := G.kinds
  have hh := G.fn.handled
  have fn := G.fn
  have F12 := W.F12
  have F10 := W.F10
  have F4 := W.F4
  have PA := PL rows lines M
  obtain ⟨m1, m2, m3, m4⟩ := M
  refine exs_open ?_
  walk_at "st"
  repeat walk_at "w1"
  refine tc_due W G.toGood (by omega) (by omega) (fun r hr => by have := (m3 r hr).1; omega) m4.len PA.nd PA.k fun r hr => ?_
  obtain ⟨s1, s2, s3, s4⟩ := PA.same r hr
  repeat walk_at "w1"
  refine s_if (eb_compare ?_)
  repeat walk_at "w1"
  refine tm_join_lst PA.join ?_

  repeat walk_at "w1"
  refine tc_ans W G.toGood (by omega) PA.rd ?_
  rw [← s1]
  repeat walk_at "w1"
  refine t2_ne_same ok s2 s3 ?_
  refine bool_q ⟨(fun e => by cases e), fun _ => exs_nil (seq_next ?_)⟩

  clear s1
  have fin : ∀ lo, (∀ p ∈ [(("cells" : Str), AV.lst (cells.map .int)), ("pot", .ref P), ("odd", .lst (odds.map cellAV))], p ∈ lo) → EXs B c ((bodyOf 14).drop 22) ⟨lo, [(P, p.av)]⟩ (fun f _ => f = .ret (.bool true)) (fun _ _ => False) := fun lo h =>
    EXs.weaken (@law22 _ _ _ W G hn cells hc hl P p) h (.refl _)
  cases r with
  | error x =>
    refine s_ifp (p := false) (pb_and_short (p := false) (pb_compare ?c1) rfl) (fun e => nomatch e) (fun _ => exs_nil (seq_next ?_))
    case c1 =>
      dsimp only [resAV]
      repeat walk_at "w1"
      exact ⟨rfl, rfl⟩
    exact fin _ (by walk_at "sub")
  | ok nc =>
    obtain ⟨k, cl⟩ := nc
    obtain ⟨q1, q2, q3, q4, q5, q6, q7⟩ := s4 k cl rfl
  
    refine s_ifp (p := true && (false && true)) (pb_and (p := true) (pb_compare ?c1) fun _ => pb_and (p := false) (pb_compare ?c2) fun _ => pb_and_nil) (fun e => nomatch e) (fun _ => exs_nil (seq_next ?_))
    case c1 =>
      dsimp only [resAV]
      repeat walk_at "w1"
      exact ⟨rfl, rfl⟩
    case c2 =>
      dsimp only [resAV]
      repeat walk_at "w1"
      refine tc_dim W G.toGood (by omega) q1 q2 q3 q4 q5 ?_
      repeat walk_at "w1"
      refine tc_ans W G.toGood (by omega) q6 ?_
      rw [q7]
      repeat walk_at "w1"
      refine t2_ne_same ok s2 s3 ?_
      exact bool_q ⟨rfl, rfl⟩
    exact fin _ (by walk_at "sub")
end
end

section
open PySem PySem.W PySem.Calls PySem.Spec PyProof.Rows
open Builtin.Str
noncomputable def wordF : AV → AV
  | .tup (d :: _) => d
  | _ => .none
theorem wordF_map (row : List Cell) : (row.map cellAV).map wordF = strAVs (row.map (·.1)) := by simp [strAVs, wordF, cellAV]
theorem cell_len : ∀ x ∈ allCells, x.1.length ≤ 19 := by decide +kernel
theorem gap_len : ∀ g ∈ gaps, g.length ≤ 2 := by decide +kernel
theorem lead_len : ∀ g ∈ leads, g.length ≤ 1 := by decide +kernel
theorem row_sum {row : List Cell} (h : GoodRow row) : ((row.map (·.1)).map (·.length)).sum ≤ 95 := by
  rw [List.map_map]
  have := sum_le ((fun x : Str => x.length) ∘ (fun x : Cell => x.1)) 19 row fun x hx => cell_len x (h.2 x hx)
  have := h.1
  omega
theorem row_join {row : List Cell} {g : Str} (h : GoodRow row) (hg : g ∈ gaps) : JoinOk g (row.map (·.1)) = true := by
  refine joinOk_of ?_
  have h1 := row_sum h
  have h2 := gap_len g hg
  have h3 := h.1
  have h4 : (row.map (·.1)).length * g.length ≤ 5 * 2 := Nat.mul_le_mul (by simpa using h3) h2
  omega
theorem row_len {row : List Cell} {g : Str} (h : GoodRow row) (hg : g ∈ gaps) : (Txt.join g (row.map (·.1))).length ≤ 200 := by
  show (glued _ _).length ≤ _
  rw [StrLaws.glued_eq_join]
  have e := StrLaws.join_length_le g (row.map (·.1))
  have h1 := row_sum h
  have h2 := gap_len g hg
  have h3 := h.1
  have h4 : (row.map (·.1)).length * g.length ≤ 5 * 2 := Nat.mul_le_mul (by simpa using h3) h2
  omega
theorem made_step {pre rest : List (List Cell)} {ls : List Str} {row : List Cell} {line : Str} (z : Zip2 LineOf pre ls) (e : LineOf row line) : Zip2 LineOf (pre ++ [row]) (ls ++ [line]) := z.snoc e
noncomputable def leads3 : List Str := ["", "", " "]


section
variable {B : Bs} {c : Cx} {n : Nat} {X : PX} {Q : PQ}
set_option maxHeartbeats 4000000 in
theorem law17 (PL : PlainLaw) (W : Wd B) (G : At c n 14) (hn : n ≤ 10) {cells : List Int} (hc : ∀ z ∈ cells, 0 ≤ z ∧ z < 10 ^ 60) (hl : cells.length ≤ 40) {P R : Addr} (p : Pot cells.length)
    {rows : List (List Cell)} (m1 : 0 < rows.length) (m2 : rows.length ≤ 6) (m3 : ∀ r ∈ rows, GoodRow r) :
    EXs B c ((bodyOf 14).drop 17) ⟨[("cells", .lst (cells.map .int)), ("pot", .ref P), ("odd", .lst (odds.map cellAV)), ("rows", .ref R)], [(R, rows.map rowAV), (P, p.av)]⟩ (fun f _ => f = .ret (.bool true)) (fun _ _ => False) := by
  have ok := G.ok
  have hk := G.kinds
  have hh := G.fn.handled
  have fn := G.fn
  have F8 := W.F8
  refine EXs.frz ok .out (.keep (.keep (.keep (.hit .nil)))) ?_
  refine exs_open ?_
  repeat walk_at "w1"
  rename_i L
  refine ⟨_, Items.lst _, ?_⟩
  refine loop_inv (fun ds a => ∃ (rest pre : List (List Cell)) (ls : List Str) (p : Pot cells.length), ds = rest.map rowAV ∧ rows = pre ++ rest ∧ Zip2 LineOf pre ls ∧
      a = ⟨[("cells", .lst (cells.map .int)), ("pot", .ref P), ("odd", .lst (odds.map cellAV)), ("rows", .lst (rows.map rowAV)), ("lines", .ref L)], [(L, strAVs ls), (P, p.av)]⟩)
    ⟨rows, [], [], p, rfl, rfl, .nil, rfl⟩ ?_ ?_
  · rintro a ⟨rest, pre, ls, p, h1, h2, h3, rfl⟩
    cases rest with
    | cons k r => simp at h1
    | nil =>
    rw [List.append_nil] at h2
    subst h2
    refine seq_next ?_
    refine EXs.frz ok .out (.keep (.keep (.keep (.keep (.hit .nil))))) ?_
    exact @law19 _ _ _ PL W G hn cells hc hl P p rows ls ⟨m1, m2, m3, h3⟩
  · rintro d r a ⟨rest, pre, ls, p, h1, h2, h3, rfl⟩
    cases rest with
    | nil => simp at h1
    | cons row rest =>
    simp only [List.map_cons, List.cons.injEq] at h1
    obtain ⟨rfl, rfl⟩ := h1
    have hlen := h3.len
    have hg : GoodRow row := m3 row (by rw [h2]; simp)
    have hrl : row.length ≤ 5 := hg.1
    have hpl : pre.length ≤ 6 := by rw [h2] at m2; simp at m2; omega
    refine lset_c (by walk_at "lset") ?_
    repeat walk_at "w1"
    refine tc_p1 W G.toGood (by omega) hc hl p (by decide) (by decide) fun d1 p1 hd1 => ?_
    have hd1' : d1 < gaps.length := by show d1 < 4; omega
    obtain ⟨g, hg0⟩ : ∃ g, gaps[d1]? = some g := ⟨_, List.getElem?_eq_getElem hd1'⟩
    have hgm := List.mem_of_getElem? hg0
    refine item_n (.tup _) (by omega) (e := .str g) (by show (gaps.map AV.str)[d1]? = _; rw [List.getElem?_map, hg0]; rfl) ?_
    repeat walk_at "w1"
    refine tc_p1 W G.toGood (by omega) hc hl p1 (by decide) (by decide) fun d2 p2 hd2 => ?_
    have hd2' : d2 < leads3.length := by show d2 < 3; omega
    obtain ⟨ld, hd0⟩ : ∃ g, leads3[d2]? = some g := ⟨_, List.getElem?_eq_getElem hd2'⟩
    have hlm : ld ∈ leads := by have := List.mem_of_getElem? hd0; revert this; unfold leads3 leads; simp
    refine item_n (.tup _) (by omega) (e := .str ld) (by show (leads3.map AV.str)[d2]? = _; rw [List.getElem?_map, hd0]; rfl) ?_
    repeat walk_at "w1"
    refine EV.frz ok ?_
    refine ev_listcomp ok hh (by decide +kernel) (by decide +kernel) rfl (by decide +kernel) ?_
    repeat walk_at "w1"
    refine ⟨_, wordF, Items.lst _, by simp; omega, ?_, fun D => ?_⟩
    · intro cc cx sto' d hd
      obtain ⟨⟨w, v⟩, hx, rfl⟩ := List.mem_map.mp hd
      have hkk : cc.Kinds [(".0", .local), ("word", .local), ("value", .local)] := fun p hp => by
        unfold Env.kindOf
        rw [cx.scope]
        simp only [List.mem_cons, List.not_mem_nil, or_false] at hp
        rcases hp with rfl | rfl | rfl <;> decide +kernel
      have ok := cx.ok
      refine ⟨[("word", .str w), ("value", optAV v)], ta_pair cx.ok (by rw [cx.A]; exact hh) hkk (by decide) (by decide) .nil (by walk_at "lset"), ?_⟩
      repeat walk_at "w1"
      exact ⟨rfl, rfl⟩
    · rw [wordF_map]
      refine ⟨_, _, _, _, rfl, .out, .refl, ?_⟩
      repeat walk_at "w1"
      refine tm_join_lst (row_join hg hgm) ?_
      have hjl := row_len hg hgm
      have hll := lead_len ld hlm
      refine t2_add_str (by rw [sizeLine_eq]; omega) ?_
      have hls : (strAVs ls).length < 2 ^ 24 := by simp [strAVs]; omega
      repeat walk_at "w1"
      refine nil_ws (lo' := [("cells", .lst (cells.map .int)), ("pot", .ref P), ("odd", .lst (odds.map cellAV)), ("rows", .lst (rows.map rowAV)), ("lines", .ref L)]) (by walk_at "sub") (.refl _) ?_
      refine ⟨rest, pre ++ [row], ls ++ [ld ++ Txt.join g (row.map (·.1))], p2, rfl, by rw [h2]; simp, h3.snoc ⟨ld, hlm, g, hgm, rfl⟩, ?_⟩
      simp [strAVs]
end
end

section
open PySem PySem.W PySem.Calls PySem.Spec PyProof.Rows
open Builtin.Str
open PySem.StrLaws

/-! lines -/
noncomputable def joinL (c : Nat) : List (List Nat) → List Nat
  | [] => []
  | [x] => x
  | x :: y :: r => x ++ c :: joinL c (y :: r)
theorem cut_inj {c : Nat} : ∀ {x x' t t' : List Nat}, c ∉ x → c ∉ x' → x ++ c :: t = x' ++ c :: t' → x = x' ∧ t = t'
  | [], [], t, t', _, _, h => by simp at h; exact ⟨rfl, h⟩
  | [], b :: x', t, t', _, h2, h => by simp at h; exact absurd (List.mem_cons.mpr (.inl h.1)) h2
  | a :: x, [], t, t', h1, _, h => by simp at h; exact absurd (List.mem_cons.mpr (.inl h.1.symm)) h1
  | a :: x, b :: x', t, t', h1, h2, h => by
    simp only [List.cons_append, List.cons.injEq] at h
    obtain ⟨e1, e2⟩ := cut_inj (fun m => h1 (.tail _ m)) (fun m => h2 (.tail _ m)) h.2
    exact ⟨by rw [h.1, e1], e2⟩
theorem joinL_inj {c : Nat} : ∀ {L M : List (List Nat)}, L ≠ [] → M ≠ [] → (∀ p ∈ L, c ∉ p) → (∀ p ∈ M, c ∉ p) → joinL c L = joinL c M → L = M
  | [], _, h, _, _, _, _ => absurd rfl h
  | _, [], _, h, _, _, _ => absurd rfl h
  | [x], [y], _, _, _, _, h => by simp only [joinL] at h; rw [h]
  | [x], y :: z :: r, _, _, h1, _, h => by
    simp only [joinL] at h
    exact absurd (by rw [h]; simp) (h1 x (.head _))
  | x :: z :: r, [y], _, _, _, h2, h => by
    simp only [joinL] at h
    exact absurd (by rw [← h]; simp) (h2 y (.head _))
  | x :: y :: r, x' :: y' :: r', _, _, h1, h2, h => by
    simp only [joinL] at h
    obtain ⟨e1, e2⟩ := cut_inj (h1 x (.head _)) (h2 x' (.head _)) h
    rw [e1, joinL_inj (by simp) (by simp) (fun p hp => h1 p (.tail _ hp)) (fun p hp => h2 p (.tail _ hp)) e2]
theorem str_ext {x y : Str} (h : x.cps.toList = y.cps.toList) : x = y := Str.ext' (Array.toList_inj.mp h)
theorem cps_list (x : Str) : (⟨x.cps.toList.toArray⟩ : Str) = x := str_ext (by simp)
theorem join_cps (c : Nat) : ∀ L : List Str, (Str.join ⟨#[c]⟩ L).cps.toList = joinL c (L.map fun x => x.cps.toList)
  | [] => rfl
  | [x] => rfl
  | x :: y :: r => by
    show (x ++ ⟨#[c]⟩ ++ Str.join ⟨#[c]⟩ (y :: r)).cps.toList = x.cps.toList ++ c :: joinL c ((y :: r).map fun x => x.cps.toList)
    rw [← join_cps c (y :: r)]
    simp only [Str.cps_append, Array.toList_append, List.append_assoc]
    rfl
theorem nl_eq : (("\n" : Str)) = ⟨#[10]⟩ := by decide +kernel
theorem map_cps_inj : ∀ {L M : List Str}, (L.map fun x => x.cps.toList) = (M.map fun x => x.cps.toList) → L = M
  | [], [], _ => rfl
  | [], _ :: _, h => by simp at h
  | _ :: _, [], h => by simp at h
  | x :: L, y :: M, h => by
    simp only [List.map_cons, List.cons.injEq] at h
    rw [str_ext h.1, map_cps_inj h.2]
/-- what is cut at the ends of its lines is those lines -/
theorem split_of {text : Str} {L : List Str} (h0 : L ≠ []) (hn : ∀ x ∈ L, 10 ∉ x.cps.toList) (h : text.cps.toList = joinL 10 (L.map fun x => x.cps.toList)) : Txt.split text "\n" = L := by
  rw [nl_eq]
  have h1 := join_split text ⟨#[10]⟩
  have h2 := split_free text 10
  have h3 : Txt.split text ⟨#[10]⟩ ≠ [] := fun e => by have := split_pos text ⟨#[10]⟩; rw [e] at this; simp at this
  refine map_cps_inj (joinL_inj (c := 10) (by simpa using h3) (by simpa using h0) ?_ ?_ ?_)
  · intro p hp
    obtain ⟨x, hx, rfl⟩ := List.mem_map.mp hp
    exact h2 x hx
  · intro p hp
    obtain ⟨x, hx, rfl⟩ := List.mem_map.mp hp
    exact hn x hx
  · rw [← join_cps, h1, h]
theorem txt_join (sep : Str) (L : List Str) : Txt.join sep L = Str.join sep L := glued_eq_join sep L
theorem split_join {L : List Str} (h0 : L ≠ []) (hn : ∀ x ∈ L, 10 ∉ x.cps.toList) : Txt.split (Txt.join "\n" L) "\n" = L := by
  refine split_of h0 hn ?_
  rw [txt_join, nl_eq, join_cps]

/-! words -/
noncomputable def wl : Option (List Nat) → List Nat → List (List Nat)
  | cur, [] => cur.toList
  | cur, c :: r => if Unicode.isSpace c = true then cur.toList ++ wl none r else wl (some (cur.getD [] ++ [c])) r
noncomputable def subL (s : Str) (p : Nat × Nat) : List Nat := (strSub s p.1 p.2).cps.toList
theorem sub_self (s : Str) (i : Nat) : subL s (i, i) = [] := by unfold subL; rw [strSub_toList]; simp
theorem sub_snoc (s : Str) {b cur : Nat} (h : b ≤ cur) (h2 : cur < s.length) : subL s (b, cur + 1) = subL s (b, cur) ++ [s.cps.getD cur 0] := by
  unfold subL
  rw [strSub_toList, strSub_toList]
  have h3 : cur < s.cps.toList.length := by simpa [Str.length] using h2
  rw [show cur + 1 - b = (cur - b) + 1 by omega, List.take_add_one]
  congr 1
  rw [List.getElem?_drop, show b + (cur - b) = cur by omega, List.getElem?_eq_getElem h3]
  have h4 : cur < s.cps.size := h2
  simp [Array.getD, h4]
theorem drop_cons (s : Str) {cur : Nat} (h2 : cur < s.length) : s.cps.toList.drop cur = s.cps.getD cur 0 :: s.cps.toList.drop (cur + 1) := by
  have h3 : cur < s.cps.toList.length := by simpa [Str.length] using h2
  rw [List.drop_eq_getElem_cons h3]
  congr 1
  have h4 : cur < s.cps.size := h2
  simp [Array.getD, h4]
theorem sw_sim (s : Str) : ∀ (m cur : Nat) (words : Array (Nat × Nat)) (start : Option Nat), cur + m = s.length → words.size ≤ cur → (∀ b, start = some b → b ≤ cur) →
    (swEnd s (forIn (List.range' cur m) ((none, words, start) : SwSt) (swBody s (s.length + 1))).run).map (subL s) = words.toList.map (subL s) ++ wl (start.map fun b => subL s (b, cur)) (s.cps.toList.drop cur)
  | 0, cur, words, start, hm, h1, h2 => by
    have e : s.cps.toList.drop cur = [] := List.drop_eq_nil_of_le (by simp [Str.length] at hm ⊢; omega)
    rw [e]
    have hc : cur = s.length := by omega
    cases start with
    | none => simp [swEnd, wl]
    | some b => simp [swEnd, wl, hc]
  | m + 1, cur, words, start, hm, h1, h2 => by
    rw [List.range'_succ, List.forIn_cons]
    have hlt : cur < s.length := by omega
    have hsz : ¬ ((words.size == s.length + 1) = true) := by rw [beq_iff_eq]; omega
    rw [drop_cons s hlt]
    unfold swBody
    simp only [hsz, if_false]
    cases start with
    | none =>
      cases hsp : Unicode.isSpace (s.cps.getD cur 0)
      · refine (sw_sim s m (cur + 1) words (some cur) (by omega) (by omega) (fun b hb => by cases hb; omega)).trans ?_
        simp only [wl, Option.map_some, Option.map_none, Option.getD_none, hsp, Bool.false_eq_true, if_false]
        rw [sub_snoc s (Nat.le_refl _) hlt, sub_self]
      · refine (sw_sim s m (cur + 1) words none (by omega) (by omega) (fun b hb => by cases hb)).trans ?_
        simp only [wl, Option.map_none, hsp, if_true, Option.toList_none, List.nil_append]
    | some b =>
      have hb := h2 b rfl
      cases hsp : Unicode.isSpace (s.cps.getD cur 0)
      · refine (sw_sim s m (cur + 1) words (some b) (by omega) (by omega) (fun b' hb' => by cases hb'; omega)).trans ?_
        simp only [wl, Option.map_some, Option.getD_some, hsp, Bool.false_eq_true, if_false]
        rw [sub_snoc s hb hlt]
      · refine (sw_sim s m (cur + 1) (words.push (b, cur)) none (by omega) (by simp; omega) (fun b hb => by cases hb)).trans ?_
        simp only [wl, Option.map_some, Option.map_none, hsp, if_true, Option.toList_some, Array.toList_push, List.map_append, List.map_cons, List.map_nil, List.append_assoc]
theorem words_wl (x : Str) : (Txt.words x).map (fun w => w.cps.toList) = wl none x.cps.toList := by
  have h := sw_sim x x.length 0 #[] none (by omega) (by simp) (fun b hb => by cases hb)
  rw [← sw_eq] at h
  simp only [List.map_nil, List.nil_append, Option.map_none, List.drop_zero] at h
  rw [← h]
  unfold Txt.words
  split
  · rename_i e
    rw [eq_of_beq e]
    simp only [List.map_cons, List.map_nil, subL]
    rw [sub_whole]
  · unfold PySem.wordsOf
    rw [List.map_map]
    rfl

noncomputable def noSp (l : List Nat) : Bool := l.all fun c => !Unicode.isSpace c
noncomputable def allSp (l : List Nat) : Bool := l.all Unicode.isSpace
theorem wl_sp : ∀ {l : List Nat} (r : List Nat), allSp l = true → wl none (l ++ r) = wl none r
  | [], r, _ => rfl
  | c :: l, r, h => by
    simp only [allSp, List.all_cons, Bool.and_eq_true] at h
    simp only [List.cons_append, wl, h.1, if_true, Option.toList_none, List.nil_append]
    exact wl_sp r h.2
theorem wl_no : ∀ {l : List Nat} (w r : List Nat), noSp l = true → wl (some w) (l ++ r) = wl (some (w ++ l)) r
  | [], w, r, _ => by simp
  | c :: l, w, r, h => by
    simp only [noSp, List.all_cons, Bool.and_eq_true, Bool.not_eq_true'] at h
    simp only [List.cons_append, wl, h.1, Bool.false_eq_true, if_false, Option.getD_some]
    rw [wl_no (w ++ [c]) r h.2]
    simp
theorem wl_word {l : List Nat} (r : List Nat) (h : noSp l = true) (h0 : l ≠ []) : wl none (l ++ r) = wl (some l) r := by
  cases l with
  | nil => exact absurd rfl h0
  | cons c l =>
    simp only [noSp, List.all_cons, Bool.and_eq_true, Bool.not_eq_true'] at h
    simp only [List.cons_append, wl, h.1, Bool.false_eq_true, if_false, Option.getD_none, List.nil_append]
    rw [wl_no [c] r h.2]
    rfl
theorem wl_gap {l : List Nat} (w r : List Nat) (h : allSp l = true) (h0 : l ≠ []) : wl (some w) (l ++ r) = w :: wl none r := by
  cases l with
  | nil => exact absurd rfl h0
  | cons c l =>
    simp only [allSp, List.all_cons, Bool.and_eq_true] at h
    simp only [List.cons_append, wl, h.1, if_true, Option.toList_some]
    rw [wl_sp r h.2]
    rfl
theorem wl_join {g : Str} (hg : allSp g.cps.toList = true) (hg0 : g.cps.toList ≠ []) : ∀ {ws : List Str}, (∀ w ∈ ws, noSp w.cps.toList = true ∧ w.cps.toList ≠ []) → wl none (Str.join g ws).cps.toList = ws.map fun w => w.cps.toList
  | [], _ => rfl
  | [x], h => by
    obtain ⟨h1, h2⟩ := h x (.head _)
    show wl none x.cps.toList = [x.cps.toList]
    have := wl_word [] h1 h2
    rw [List.append_nil] at this
    rw [this]; rfl
  | x :: y :: r, h => by
    obtain ⟨h1, h2⟩ := h x (.head _)
    have e : (Str.join g (x :: y :: r)).cps.toList = x.cps.toList ++ (g.cps.toList ++ (Str.join g (y :: r)).cps.toList) := by
      show (x ++ g ++ Str.join g (y :: r)).cps.toList = _
      simp only [Str.cps_append, Array.toList_append, List.append_assoc]
    rw [e, wl_word _ h1 h2, wl_gap _ _ hg hg0, wl_join hg hg0 fun w hw => h w (.tail _ hw)]
    rfl
theorem words_made {lead g : Str} {ws : List Str} (hl : allSp lead.cps.toList = true) (hg : allSp g.cps.toList = true) (hg0 : g.cps.toList ≠ []) (h : ∀ w ∈ ws, noSp w.cps.toList = true ∧ w.cps.toList ≠ []) : Txt.words (lead ++ Txt.join g ws) = ws := by
  refine map_cps_inj ?_
  rw [words_wl, txt_join]
  simp only [Str.cps_append, Array.toList_append]
  rw [wl_sp _ hl, wl_join hg hg0 h]
end

section
open PySem PySem.W PySem.Calls PySem.Spec PyProof.Rows
open Builtin.Str
open PySem.StrLaws

theorem cell_word : ∀ x ∈ allCells, noSp x.1.cps.toList = true ∧ x.1.cps.toList ≠ [] ∧ 10 ∉ x.1.cps.toList ∧ x.1.cps.toList.all (fun k => decide (k < 0x110000)) = true := by decide +kernel
theorem lead_facts : ∀ x ∈ leads, allSp x.cps.toList = true ∧ 10 ∉ x.cps.toList ∧ x.cps.toList.all (fun k => decide (k < 0x110000)) = true ∧ x.length ≤ 1 := by decide +kernel
theorem gap_facts : ∀ x ∈ gaps, allSp x.cps.toList = true ∧ x.cps.toList ≠ [] ∧ 10 ∉ x.cps.toList ∧ x.cps.toList.all (fun k => decide (k < 0x110000)) = true ∧ x.length ≤ 2 := by decide +kernel
theorem join_all {g : Str} {P : Nat → Prop} (hg : ∀ k ∈ g.cps.toList, P k) : ∀ {ws : List Str}, (∀ w ∈ ws, ∀ k ∈ w.cps.toList, P k) → ∀ k ∈ (Str.join g ws).cps.toList, P k
  | [], _, k, hk => by
    have : (Str.join g []).cps.toList = [] := rfl
    rw [this] at hk; cases hk
  | [x], h, k, hk => h x (.head _) k hk
  | x :: y :: r, h, k, hk => by
    have e : (Str.join g (x :: y :: r)).cps.toList = x.cps.toList ++ (g.cps.toList ++ (Str.join g (y :: r)).cps.toList) := by
      show (x ++ g ++ Str.join g (y :: r)).cps.toList = _
      simp only [Str.cps_append, Array.toList_append, List.append_assoc]
    rw [e] at hk
    rcases List.mem_append.mp hk with hk | hk
    · exact h x (.head _) k hk
    · rcases List.mem_append.mp hk with hk | hk
      · exact hg k hk
      · exact join_all hg (fun w hw => h w (.tail _ hw)) k hk
theorem dat_of {x : Str} (h : ∀ k ∈ x.cps.toList, k < 0x110000) : (AV.str x).dat = true := by
  simp only [AV.dat]
  rw [← Array.all_toList, List.all_eq_true]
  intro k hk
  exact decide_eq_true (h k hk)
theorem cell_lt {x : Cell} (hx : x ∈ allCells) : ∀ k ∈ x.1.cps.toList, k < 0x110000 := fun k hk => by
  have := List.all_eq_true.mp (cell_word x hx).2.2.2 k hk
  exact of_decide_eq_true this
section
variable {row : List Cell} {line : Str}
theorem line_words (h : GoodRow row) (e : LineOf row line) : Txt.words line = row.map (·.1) := by
  obtain ⟨ld, hl, g, hg, rfl⟩ := e
  refine words_made (lead_facts ld hl).1 (gap_facts g hg).1 (gap_facts g hg).2.1 fun w hw => ?_
  obtain ⟨x, hx, rfl⟩ := List.mem_map.mp hw
  exact ⟨(cell_word x (h.2 x hx)).1, (cell_word x (h.2 x hx)).2.1⟩
theorem line_all (h : GoodRow row) (e : LineOf row line) {P : Nat → Prop} (h1 : ∀ x ∈ leads, ∀ k ∈ x.cps.toList, P k) (h2 : ∀ x ∈ gaps, ∀ k ∈ x.cps.toList, P k) (h3 : ∀ x ∈ allCells, ∀ k ∈ x.1.cps.toList, P k) : ∀ k ∈ line.cps.toList, P k := by
  obtain ⟨ld, hl, g, hg, rfl⟩ := e
  intro k hk
  rw [Str.cps_append, Array.toList_append, txt_join] at hk
  rcases List.mem_append.mp hk with hk | hk
  · exact h1 ld hl k hk
  · refine join_all (h2 g hg) (fun w hw => ?_) k hk
    obtain ⟨x, hx, rfl⟩ := List.mem_map.mp hw
    exact h3 x (h.2 x hx)
theorem line_nl (h : GoodRow row) (e : LineOf row line) : 10 ∉ line.cps.toList := fun hm =>
  line_all h e (P := fun k => k ≠ 10) (fun x hx k hk => fun z => (lead_facts x hx).2.1 (z ▸ hk)) (fun x hx k hk => fun z => (gap_facts x hx).2.2.1 (z ▸ hk)) (fun x hx k hk => fun z => (cell_word x hx).2.2.1 (z ▸ hk)) 10 hm rfl
theorem line_dat (h : GoodRow row) (e : LineOf row line) : (AV.str line).dat = true :=
  dat_of (line_all h e (fun x hx k hk => of_decide_eq_true (List.all_eq_true.mp (lead_facts x hx).2.2.1 k hk)) (fun x hx k hk => of_decide_eq_true (List.all_eq_true.mp (gap_facts x hx).2.2.2.1 k hk)) fun x hx => cell_lt hx)
theorem line_len (h : GoodRow row) (e : LineOf row line) : line.length ≤ 300 := by
  obtain ⟨ld, hl, g, hg, rfl⟩ := e
  have h1 := row_len h hg
  have h2 := (lead_facts ld hl).2.2.2
  rw [app_len]; omega
end
theorem Zip2.mem_right {α β : Type} {R : α → β → Prop} {l : List α} {m : List β} (z : Zip2 R l m) : ∀ y ∈ m, ∃ x ∈ l, R x y := by
  induction z with
  | nil => intro y hy; cases hy
  | cons r _ ih =>
    intro y hy
    rcases List.mem_cons.mp hy with rfl | hy
    · exact ⟨_, .head _, r⟩
    · obtain ⟨x, hx, e⟩ := ih y hy
      exact ⟨x, .tail _ hx, e⟩
theorem rdok_of {text : Str} {lines : List Str} (hs : Txt.split text "\n" = lines) (ht : text.length ≤ 1000000) (hl : ∀ l ∈ lines, l.length ≤ 1000000) (hw : ∀ l ∈ lines, ∀ w ∈ Txt.words l, OkW w) (hz : (lines.map fun l => (Txt.words l).length).sum ≤ 10000) : RdOk text := by
  refine ⟨by omega, ?_, ?_, ?_⟩
  · have h1 := len_partsBetween text (occurrences text "\n" 0 text.length (text.length + 1)) 1
    have h2 := StrLaws.occ_length_le text "\n" 0 text.length (text.length + 1)
    omega
  · rw [hs]
    intro l hl'
    have h1 := hl l hl'
    refine ⟨by omega, ?_, hw l hl'⟩
    have h2 := (sw_weight l).1
    have h3 := len_le_wsum (spaceWords l (l.length + 1))
    omega
  · rw [hs]; exact hz
section
variable {rows : List (List Cell)} {lines : List Str}
theorem made_split (M : Made rows lines) : Txt.split (Txt.join "\n" lines) "\n" = lines := by
  obtain ⟨m1, m2, m3, m4⟩ := M
  refine split_join (fun e => ?_) fun l hl => ?_
  · have := m4.len; rw [e] at this; simp at this; omega
  · obtain ⟨row, hr, e⟩ := m4.mem_right l hl
    exact line_nl (m3 row hr) e
theorem made_len (M : Made rows lines) : ∀ l ∈ lines, l.length ≤ 300 := fun l hl => by
  obtain ⟨row, hr, e⟩ := M.2.2.2.mem_right l hl
  exact line_len (M.2.2.1 row hr) e
theorem made_sum (M : Made rows lines) : (lines.map (·.length)).sum ≤ 1800 := by
  have := sum_le (fun x : Str => x.length) 300 lines (made_len M)
  have := M.2.2.2.len
  have := M.2.1
  omega
theorem made_joinOk (M : Made rows lines) : JoinOk "\n" lines = true := by
  refine joinOk_of ?_
  have h1 := made_sum M
  have h2 := M.2.2.2.len
  have h3 := M.2.1
  rw [lenL3]; omega
theorem made_rdok (M : Made rows lines) : RdOk (Txt.join "\n" lines) := by
  refine rdok_of (made_split M) ?_ (fun l hl => by have := made_len M l hl; omega) ?_ ?_
  · rw [txt_join]
    have h := join_length_le "\n" lines
    have h1 := made_sum M
    have h2 := M.2.2.2.len
    have h3 := M.2.1
    rw [lenL3] at h; omega
  · intro l hl w hw
    obtain ⟨row, hr, e⟩ := M.2.2.2.mem_right l hl
    rw [line_words (M.2.2.1 row hr) e] at hw
    obtain ⟨x, hx, rfl⟩ := List.mem_map.mp hw
    exact (cell_facts x ((M.2.2.1 row hr).2 x hx)).1
  · have h1 := sum_le (fun l : Str => (Txt.words l).length) 5 lines fun l hl => by
      obtain ⟨row, hr, e⟩ := M.2.2.2.mem_right l hl
      show (Txt.words l).length ≤ 5
      rw [line_words (M.2.2.1 row hr) e, List.length_map]; exact (M.2.2.1 row hr).1
    have h2 := M.2.2.2.len
    have h3 := M.2.1
    omega
end
end

section
open PySem PySem.W PySem.Calls PySem.Spec PyProof.Rows
open Builtin.Str
open PySem.StrLaws

/-! the faults, one by one -/
section
variable {rows : List (List Cell)} {lines : List Str}
theorem mem_rowF {count : Int} {h0 i m : Nat} {row : List Cell} {f : Flt} : f ∈ rowF count h0 i row m ↔ ∃ k, k < m ∧ cellF count h0 i k (row.getD k ("", none)) = some f := by
  unfold rowF; simp only [List.mem_filterMap, List.mem_range]
theorem mem_F3 {count : Int} {h0 m : Nat} {f : Flt} : f ∈ F3 count h0 rows m ↔ ∃ i, i < m ∧ isN (rows.getD i []) = true ∧ f ∈ rowF count h0 i (rows.getD i []) (rows.getD i []).length := by
  unfold F3; simp only [List.mem_flatMap, List.mem_range]
  constructor
  · rintro ⟨i, hi, h⟩
    by_cases hN : isN (rows.getD i []) = true
    · rw [if_pos hN] at h; exact ⟨i, hi, hN, h⟩
    · rw [if_neg hN] at h; cases h
  · rintro ⟨i, hi, hN, h⟩
    exact ⟨i, hi, by rw [if_pos hN]; exact h⟩
theorem cellF_at {count : Int} {h0 i k : Nat} {x : Cell} {f : Flt} (h : cellF count h0 i k x = some f) : f.at_ = i ∧ f.k = k := by
  unfold cellF at h
  split at h
  · cases h; exact ⟨rfl, rfl⟩
  · split at h
    · cases h; exact ⟨rfl, rfl⟩
    · cases h
theorem headInfo_at {top : List Cell} {h0 : Nat} {line : Str} {f : Flt} (h : f ∈ (headInfo top h0 line).1) : f.at_ = h0 ∧ f.k < 5 := by
  unfold headInfo at h
  split at h
  · split at h
    · simp at h; subst h; exact ⟨rfl, by dsimp only; decide⟩
    · unfold headNums at h
      split at h
      · split at h
        · simp at h; subst h; exact ⟨rfl, by dsimp only; decide⟩
        · simp at h
      · simp at h; subst h; exact ⟨rfl, by dsimp only; decide⟩
      · simp at h; subst h; exact ⟨rfl, by dsimp only; decide⟩
      · simp at h
        rcases h with rfl | rfl
        · exact ⟨rfl, by dsimp only; decide⟩
        · exact ⟨rfl, by dsimp only; decide⟩
  · simp at h; subst h; exact ⟨rfl, by dsimp only; decide⟩
theorem headInfo_nodup (top : List Cell) (h0 : Nat) (line : Str) : ((headInfo top h0 line).1.map Flt.key).Nodup := by
  unfold headInfo
  split
  · split
    · simp
    · unfold headNums
      split
      · split <;> simp
      · simp
      · simp
      · simp [Flt.key]
  · simp
theorem mem_heads {m h : Nat} : h ∈ headsOf rows m ↔ h < m ∧ firstP (rows.getD h []) = true := by
  unfold headsOf; simp only [List.mem_filter, List.mem_range]
theorem heads_sorted (m : Nat) : (headsOf rows m).Pairwise (· < ·) := by
  unfold headsOf; exact List.Pairwise.filter _ List.pairwise_lt_range
theorem not_both {row : List Cell} (h1 : firstP row = true) (h2 : isN row = true) : False := by
  cases row with
  | nil => cases h1
  | cons x r =>
    unfold firstP at h1; unfold isN at h2
    simp only [Bool.and_eq_true, bne_iff_ne, beq_iff_eq] at h1 h2
    exact h2.2 h1

/-- where a fault stands -/
inductive InF (rows : List (List Cell)) (lines : List Str) (hs : List Nat) (f : Flt) : Prop
  | more (i : Nat) : i ∈ hs.drop 1 → f = badHead lines i → InF rows lines hs f
  | head (h0 : Nat) (tl : List Nat) : hs = h0 :: tl → f ∈ (headInfo (rows.getD h0 []) h0 (lines.getD h0 "")).1 → InF rows lines hs f
  | cell (i k : Nat) : i < rows.length → isN (rows.getD i []) = true → k < (rows.getD i []).length → cellF (hdOf rows lines hs).2.1 (hs.headD 0) i k ((rows.getD i []).getD k ("", none)) = some f → InF rows lines hs f
noncomputable def dueG (rows : List (List Cell)) (lines : List Str) (hs : List Nat) : List Flt := F1 lines hs ++ (hdOf rows lines hs).1 ++ F3 (hdOf rows lines hs).2.1 (hs.headD 0) rows rows.length
theorem in_F {hs : List Nat} {f : Flt} : f ∈ dueG rows lines hs ↔ InF rows lines hs f := by
  unfold dueG
  simp only [List.mem_append]
  constructor
  · rintro ((h | h) | h)
    · unfold F1 at h
      obtain ⟨i, hi, rfl⟩ := List.mem_map.mp h
      exact .more i hi rfl
    · cases hs with
      | nil => simp [hdOf] at h
      | cons h0 tl => exact .head h0 tl rfl h
    · obtain ⟨i, hi, hN, h⟩ := mem_F3.mp h
      obtain ⟨k, hk, e⟩ := mem_rowF.mp h
      exact .cell i k hi hN hk e
  · rintro (⟨i, hi, rfl⟩ | ⟨h0, tl, rfl, h⟩ | ⟨i, k, hi, hN, hk, e⟩)
    · exact .inl (.inl (List.mem_map_of_mem hi))
    · exact .inl (.inr h)
    · exact .inr (mem_F3.mpr ⟨i, hi, hN, mem_rowF.mpr ⟨k, hk, e⟩⟩)
theorem InF.at {hs : List Nat} (hh : hs = headsOf rows rows.length) {f : Flt} (h : InF rows lines hs f) : f.at_ < rows.length ∧ (firstP (rows.getD f.at_ []) = true ∨ isN (rows.getD f.at_ []) = true) := by
  cases h with
  | more i hi e =>
    have := mem_heads.mp (hh ▸ List.mem_of_mem_drop hi)
    rw [e]; exact ⟨this.1, .inl this.2⟩
  | head h0 tl e h =>
    have h1 := (headInfo_at h).1
    have := mem_heads.mp (show h0 ∈ headsOf rows rows.length by rw [← hh, e]; exact .head _)
    rw [h1]; exact ⟨this.1, .inl this.2⟩
  | cell i k hi hN hk e =>
    have := (cellF_at e).1
    rw [this]; exact ⟨hi, .inr hN⟩
theorem InF.k {hs : List Nat} (hr2 : ∀ r ∈ rows, r.length ≤ 100) {f : Flt} (h : InF rows lines hs f) : f.k < 1000 := by
  cases h with
  | more i hi e => rw [e]; show 0 < 1000; omega
  | head h0 tl e h => have := (headInfo_at h).2; omega
  | cell i k hi hN hk e =>
    have := (cellF_at e).2
    have := getD_len hr2 i
    omega
theorem key_inj {f g : Flt} (hf : f.k < 1000) (hg : g.k < 1000) (h : f.key = g.key) : f.at_ = g.at_ ∧ f.k = g.k := by
  unfold Flt.key at h; omega
theorem rowF_nodup {count : Int} {h0 i : Nat} {row : List Cell} : ∀ m : Nat, ((rowF count h0 i row m).map Flt.key).Nodup
  | 0 => by simp [rowF]
  | m + 1 => by
    rw [rowF_succ, List.map_append, List.nodup_append]
    refine ⟨rowF_nodup m, ?_, ?_⟩
    · cases cellF count h0 i m (row.getD m ("", none)) <;> simp
    · intro a ha b hb e
      subst e
      obtain ⟨f, hf, rfl⟩ := List.mem_map.mp ha
      obtain ⟨g, hg, e⟩ := List.mem_map.mp hb
      obtain ⟨k, hk, e1⟩ := mem_rowF.mp hf
      have e2 : cellF count h0 i m (row.getD m ("", none)) = some g := by simpa using hg
      have c1 := cellF_at e1
      have c2 := cellF_at e2
      unfold Flt.key at e
      rw [c1.1, c1.2, c2.1, c2.2] at e
      omega
theorem F3_nodup {count : Int} {h0 : Nat} (hr2 : ∀ r ∈ rows, r.length ≤ 100) : ∀ m : Nat, ((F3 count h0 rows m).map Flt.key).Nodup
  | 0 => by simp [F3]
  | m + 1 => by
    rw [F3_succ, List.map_append, List.nodup_append]
    refine ⟨F3_nodup hr2 m, ?_, ?_⟩
    · split
      · exact rowF_nodup _
      · simp
    · intro a ha b hb e
      subst e
      obtain ⟨f, hf, rfl⟩ := List.mem_map.mp ha
      obtain ⟨g, hg, e⟩ := List.mem_map.mp hb
      obtain ⟨i, hi, _, hf⟩ := mem_F3.mp hf
      obtain ⟨k, hk, e1⟩ := mem_rowF.mp hf
      have hg : g ∈ rowF count h0 m (rows.getD m []) (rows.getD m []).length := by
        split at hg
        · exact hg
        · cases hg
      obtain ⟨k2, hk2, e2⟩ := mem_rowF.mp hg
      have c1 := cellF_at e1
      have c2 := cellF_at e2
      have l1 := getD_len hr2 i
      have l2 := getD_len hr2 m
      have := key_inj (by omega) (by omega) e
      omega
theorem due_nodup (hr2 : ∀ r ∈ rows, r.length ≤ 100) : ((dueF rows lines).map Flt.key).Nodup := by
  show ((dueG rows lines (headsOf rows rows.length)).map Flt.key).Nodup
  have hsort := heads_sorted (rows := rows) rows.length
  unfold dueG
  rw [List.map_append, List.map_append, List.nodup_append, List.nodup_append]
  have headAt : ∀ f ∈ (hdOf rows lines (headsOf rows rows.length)).1, ∃ h0 tl, headsOf rows rows.length = h0 :: tl ∧ f.at_ = h0 ∧ f.k < 5 := fun f hf => by
    cases hh : headsOf rows rows.length with
    | nil => rw [hh] at hf; simp [hdOf] at hf
    | cons h0 tl => rw [hh] at hf; exact ⟨h0, tl, rfl, headInfo_at hf⟩
  refine ⟨⟨?_, ?_, ?_⟩, F3_nodup hr2 _, ?_⟩
  · unfold F1
    rw [List.map_map]
    have h1 : ((headsOf rows rows.length).drop 1).Pairwise (· < ·) := hsort.sublist (List.drop_sublist _ _)
    rw [List.Nodup, List.pairwise_map]
    exact h1.imp fun {a b} hab e => by
      have : ((a : Nat) : Int) * 1000 + ((0 : Nat) : Int) = ((b : Nat) : Int) * 1000 + ((0 : Nat) : Int) := e
      omega
  · cases headsOf rows rows.length with
    | nil => simp [hdOf]
    | cons h0 tl => exact headInfo_nodup _ _ _
  · intro a ha b hb e
    subst e
    obtain ⟨f, hf, rfl⟩ := List.mem_map.mp ha
    obtain ⟨g, hg, e⟩ := List.mem_map.mp hb
    unfold F1 at hf
    obtain ⟨i, hi, rfl⟩ := List.mem_map.mp hf
    obtain ⟨h0, tl, hh, h1, h2⟩ := headAt g hg
    rw [hh] at hi hsort
    have hlt := (List.pairwise_cons.mp hsort).1 i hi
    have := key_inj (f := g) (g := badHead lines i) (by omega) (show 0 < 1000 by omega) e
    have h3 : (badHead lines i).at_ = i := rfl
    omega
  · intro a ha b hb e
    subst e
    rw [← List.map_append] at ha
    obtain ⟨f, hf, rfl⟩ := List.mem_map.mp ha
    obtain ⟨g, hg, e⟩ := List.mem_map.mp hb
    obtain ⟨i, hi, hN, hg⟩ := mem_F3.mp hg
    obtain ⟨k, hk, e2⟩ := mem_rowF.mp hg
    have c2 := cellF_at e2
    have l2 := getD_len hr2 i
    have hfk : f.k < 1000 ∧ firstP (rows.getD f.at_ []) = true := by
      rcases List.mem_append.mp hf with hf | hf
      · unfold F1 at hf
        obtain ⟨j, hj, rfl⟩ := List.mem_map.mp hf
        exact ⟨show 0 < 1000 by omega, (mem_heads.mp (List.mem_of_mem_drop hj)).2⟩
      · obtain ⟨h0, tl, hh, h1, h2⟩ := headAt f hf
        refine ⟨by omega, ?_⟩
        rw [h1]
        exact (mem_heads.mp (show h0 ∈ headsOf rows rows.length by rw [hh]; exact .head _)).2
    have := key_inj (by omega) hfk.1 e
    rw [c2.1] at this
    rw [← this.1] at hfk
    exact not_both hfk.2 hN
end
end

section
open PySem PySem.W PySem.Calls PySem.Spec PyProof.Rows
open Builtin.Str
open PySem.StrLaws

/-! the reader, row by row -/
noncomputable def GoodCell (x : Cell) : Prop := x.2 = (if badWord x.1 = true then none else some (wordVal x.1))
theorem foldW_sim {row : List Cell} (hg : ∀ x ∈ row, GoodCell x) {count cnt e : Int} {h0 i : Nat} {c0 : List (List Int) × List Int}
    (hc : ∀ v, (decide (count < 0) || (decide (i < h0) || decide (count < iabs v))) = (decide (cnt < 0) || (decide (cnt < iabs v) || false))) :
    ∀ (m j : Nat) (s : RS), j + m = row.length → (∀ k, k < j → cellF count h0 i k (row.getD k ("", none)) = none) → s.count = cnt → s.row = (i : Int) + 1 → s.expected = e → (s.clauses, s.current) = (rowV count h0 i row j).foldl clStep c0 →
      (∃ s', foldW s ((row.drop j).map (·.1)) = .ok s' ∧ s'.count = cnt ∧ s'.row = (i : Int) + 1 ∧ s'.expected = e ∧ (s'.clauses, s'.current) = (rowV count h0 i row row.length).foldl clStep c0 ∧ ∀ k, k < row.length → cellF count h0 i k (row.getD k ("", none)) = none) ∨
      (∃ k f, k < row.length ∧ cellF count h0 i k (row.getD k ("", none)) = some f ∧ (∀ k', k' < k → cellF count h0 i k' (row.getD k' ("", none)) = none) ∧ foldW s ((row.drop j).map (·.1)) = .error ⟨f.kind, (i : Int) + 1, f.det⟩)
  | 0, j, s, hm, h1, h2, h3, h4, h5 => by
    have hj : j = row.length := by omega
    subst hj
    rw [List.drop_length]
    exact .inl ⟨s, rfl, h2, h3, h4, h5, h1⟩
  | m + 1, j, s, hm, h1, h2, h3, h4, h5 => by
    have hlt : j < row.length := by omega
    rw [List.drop_eq_getElem_cons hlt, List.map_cons]
    generalize hx : row[j] = x
    have hxm : x ∈ row := by rw [← hx]; exact List.getElem_mem hlt
    have hgd : row.getD j ("", none) = x := getD_some (by rw [List.getElem?_eq_getElem hlt, hx])
    have hx2 := hg x hxm
    obtain ⟨w, v⟩ := x
    have hx2 : v = (if badWord w = true then none else some (wordVal w)) := hx2
    show (∃ s', (match wordStep s w with | .ok s' => foldW s' ((row.drop (j + 1)).map fun p : Cell => p.1) | .error e => .error e) = .ok s' ∧ _) ∨ (∃ k f, _ ∧ _ ∧ _ ∧ (match wordStep s w with | .ok s' => foldW s' ((row.drop (j + 1)).map fun p : Cell => p.1) | .error e => .error e) = _)
    by_cases hb : badWord w = true
    · rw [if_pos hb] at hx2
      subst hx2
      refine .inr ⟨j, ⟨i, j, "bad_number", w⟩, hlt, by rw [hgd]; rfl, h1, ?_⟩
      have : wordStep s w = .error ⟨"bad_number", s.row, w⟩ := by unfold wordStep; rw [if_pos hb]
      rw [this, h3]
    · rw [if_neg hb] at hx2
      subst hx2
      have hcv := hc (wordVal w)
      by_cases hq : (decide (count < 0) || (decide (i < h0) || decide (count < iabs (wordVal w)))) = true
      · refine .inr ⟨j, ⟨i, j, "bad_variable", w⟩, hlt, ?_, h1, ?_⟩
        · rw [hgd]; unfold cellF; dsimp only; rw [if_pos hq]
        · have : wordStep s w = .error ⟨"bad_variable", s.row, w⟩ := by
            unfold wordStep; rw [if_neg hb, h2, if_pos (by rw [← hcv]; exact hq)]
          rw [this, h3]
      · have hcell : cellF count h0 i j (row.getD j ("", none)) = none := by rw [hgd]; unfold cellF; dsimp only; rw [if_neg hq]
        have hval : cellV count h0 i (row.getD j ("", none)) = some (wordVal w) := by rw [hgd]; unfold cellV; dsimp only; rw [if_neg hq]
        have h1' : ∀ k, k < j + 1 → cellF count h0 i k (row.getD k ("", none)) = none := fun k hk => by
          by_cases hkj : k = j
          · rw [hkj]; exact hcell
          · exact h1 k (by omega)
        have h5' : (rowV count h0 i row (j + 1)).foldl clStep c0 = clStep (s.clauses, s.current) (wordVal w) := by
          rw [rowV_succ, hval, List.foldl_append, ← h5]; rfl
        by_cases hz : (wordVal w == 0) = true
        · have : wordStep s w = .ok { s with clauses := s.clauses ++ [s.current], current := [] } := by
            unfold wordStep; rw [if_neg hb, if_neg (by rw [h2, ← hcv]; exact hq), if_pos hz]
          rw [this]
          refine foldW_sim hg hc m (j + 1) { s with clauses := s.clauses ++ [s.current], current := [] } (by omega) h1' h2 h3 h4 ?_
          rw [h5']; unfold clStep; rw [if_pos hz]
        · have : wordStep s w = .ok { s with current := s.current ++ [wordVal w] } := by
            unfold wordStep; rw [if_neg hb, if_neg (by rw [h2, ← hcv]; exact hq), if_neg hz]
          rw [this]
          refine foldW_sim hg hc m (j + 1) { s with current := s.current ++ [wordVal w] } (by omega) h1' h2 h3 h4 ?_
          rw [h5']; unfold clStep; rw [if_neg hz]

noncomputable def cntAt (hs : List Nat) (c d : Int) (i : Nat) : Int := match hs with
  | [] => d
  | h0 :: _ => if h0 < i then c else d
structure St (rows : List (List Cell)) (lines : List Str) (hs : List Nat) (i : Nat) (s : RS) : Prop where
  row : s.row = (i : Int)
  count : s.count = cntAt hs (hdOf rows lines hs).2.1 (-1) i
  exp : s.expected = cntAt hs (hdOf rows lines hs).2.2 0 i
  cl : (s.clauses, s.current) = clOf (V3 (hdOf rows lines hs).2.1 (hs.headD 0) rows i)
theorem headStep_late {s : RS} {line : Str} {ws : List Str} (h : 0 ≤ s.count) : headStep s line ws = .error ⟨"bad_header", s.row, line⟩ := by
  unfold headStep
  split
  · rw [if_pos (by simp [h])]
  · rfl
theorem minI_neg (a b : Int) : decide (minI a b < 0) = (decide (a < 0) || (decide (b < 0) || false)) := by
  unfold minI
  by_cases h : b < a
  · rw [if_pos h]
    by_cases hb : b < 0
    · simp [hb]
    · have : ¬ a < 0 := by omega
      simp [hb, this]
  · rw [if_neg h]
    by_cases ha : a < 0
    · simp [ha]
    · have : ¬ b < 0 := by omega
      simp [ha, this]
theorem headInfo_ok {top : List Cell} {h0 : Nat} {line : Str} (h : (headInfo top h0 line).1 = []) : 0 ≤ (headInfo top h0 line).2.1 := by
  unfold headInfo at h ⊢
  split at h
  · split at h
    · simp at h
    · rename_i hq
      rw [if_neg hq]
      unfold headNums at h ⊢
      split at h
      · split at h
        · simp at h
        · rename_i a b hm
          rw [if_neg hm]
          rw [minI_neg] at hm
          simp at hm
          exact hm.1
      · simp at h
      · simp at h
      · simp at h
  · simp at h
end

section
open PySem PySem.W PySem.Calls PySem.Spec PyProof.Rows
open Builtin.Str
open PySem.StrLaws

theorem bad_of {x : Cell} (h : GoodCell x) : (x.2 = none → badWord x.1 = true) ∧ (∀ v, x.2 = some v → badWord x.1 = false ∧ wordVal x.1 = v) := by
  unfold GoodCell at h
  by_cases hb : badWord x.1 = true
  · rw [if_pos hb] at h
    exact ⟨fun _ => hb, (fun v e => by rw [h] at e; cases e)⟩
  · rw [if_neg hb] at h
    exact ⟨(fun e => by rw [h] at e; cases e), (fun v e => by rw [h] at e; cases e; exact ⟨by simpa using hb, rfl⟩)⟩
theorem headStep_first {s : RS} {top : List Cell} {line : Str} (hg : ∀ x ∈ top, GoodCell x) (hs : s.count = -1) (i : Nat) :
    ((headInfo top i line).1 = [] ∧ headStep s line (top.map fun p : Cell => p.1) = .ok { s with count := (headInfo top i line).2.1, expected := (headInfo top i line).2.2 }) ∨
    (∃ f ∈ (headInfo top i line).1, (∀ g ∈ (headInfo top i line).1, f.k ≤ g.k) ∧ headStep s line (top.map fun p : Cell => p.1) = .error ⟨f.kind, s.row, f.det⟩) := by
  by_cases h4 : ∃ x0 x1 x2 x3, top = [x0, x1, x2, x3]
  · obtain ⟨x0, x1, ⟨w2, v2⟩, ⟨w3, v3⟩, rfl⟩ := h4
    have b2 := bad_of (hg (w2, v2) (by simp))
    have b3 := bad_of (hg (w3, v3) (by simp))
    have c0 : (decide (0 ≤ s.count)) = false := by rw [hs]; rfl
    by_cases hq : (x1.1 != "cnf") = true
    · have e1 : headInfo [x0, x1, (w2, v2), (w3, v3)] i line = ([⟨i, 0, "bad_header", line⟩], -1, 0) := by unfold headInfo; dsimp only; rw [if_pos hq]
      rw [e1]
      refine .inr ⟨_, .head _, (fun g hg => Nat.zero_le _), ?_⟩
      show headStep s line [x0.1, x1.1, w2, w3] = _
      unfold headStep; dsimp only; rw [c0, Bool.false_or, if_pos hq]
    · have e1 : headInfo [x0, x1, (w2, v2), (w3, v3)] i line = headNums i line w2 w3 v2 v3 := by unfold headInfo; dsimp only; rw [if_neg hq]
      rw [e1]
      have e2 : headStep s line ([x0, x1, (w2, v2), (w3, v3)].map fun p : Cell => p.1) = (if badWord w2 = true then .error ⟨"bad_number", s.row, w2⟩
        else if badWord w3 = true then .error ⟨"bad_number", s.row, w3⟩
        else if (decide (wordVal w2 < 0) || (decide (wordVal w3 < 0) || false)) = true then .error ⟨"bad_header", s.row, line⟩
        else .ok { s with count := wordVal w2, expected := wordVal w3 }) := by
        show headStep s line [x0.1, x1.1, w2, w3] = _
        conv => lhs; unfold headStep
        dsimp only
        rw [c0, Bool.false_or, if_neg hq]
      rw [e2]
      cases v2 with
      | none =>
        rw [if_pos (b2.1 rfl)]
        cases v3 with
        | none => exact .inr ⟨⟨i, 2, "bad_number", w2⟩, by simp [headNums], by intro g hg; simp [headNums] at hg; rcases hg with rfl | rfl <;> simp, rfl⟩
        | some b => exact .inr ⟨⟨i, 2, "bad_number", w2⟩, by simp [headNums], by intro g hg; simp [headNums] at hg; subst hg; simp, rfl⟩
      | some a =>
        obtain ⟨p1, p2⟩ := b2.2 a rfl
        have p2 : wordVal w2 = a := p2
        rw [if_neg (by rw [show badWord w2 = false from p1]; decide)]
        cases v3 with
        | none =>
          rw [if_pos (b3.1 rfl)]
          exact .inr ⟨⟨i, 3, "bad_number", w3⟩, by simp [headNums], by intro g hg; simp [headNums] at hg; subst hg; simp, rfl⟩
        | some b =>
          obtain ⟨q1, q2⟩ := b3.2 b rfl
          have q2 : wordVal w3 = b := q2
          rw [if_neg (by rw [show badWord w3 = false from q1]; decide), p2, q2]
          by_cases hm : decide (minI a b < 0) = true
          · have e3 : headNums i line w2 w3 (some a) (some b) = ([⟨i, 4, "bad_header", line⟩], -1, 0) := by unfold headNums; dsimp only; rw [if_pos hm]
            rw [e3]
            rw [if_pos (by rw [← minI_neg]; exact hm)]
            exact .inr ⟨_, .head _, (fun g hg => by rw [List.mem_singleton.mp hg]; exact Nat.le_refl _), rfl⟩
          · have e3 : headNums i line w2 w3 (some a) (some b) = ([], a, b) := by unfold headNums; dsimp only; rw [if_neg hm]
            rw [e3]
            rw [if_neg (by rw [← minI_neg]; exact hm)]
            exact .inl ⟨rfl, rfl⟩
  · have hl4 : top.length ≠ 4 := fun q => h4 (list4 q)
    have e1 : headInfo top i line = ([⟨i, 0, "bad_header", line⟩], -1, 0) := by
      unfold headInfo
      split
      · exact absurd rfl hl4
      · rfl
    rw [e1]
    refine .inr ⟨_, .head _, (fun g hg => Nat.zero_le _), ?_⟩
    unfold headStep
    split
    · rename_i q
      have := congrArg List.length q
      simp at this
      exact absurd this hl4
    · rfl

theorem Zip2.get {α β : Type} {R : α → β → Prop} {l : List α} {m : List β} (z : Zip2 R l m) : ∀ {i : Nat} {x : α}, l[i]? = some x → ∃ y, m[i]? = some y ∧ R x y := by
  induction z with
  | nil => intro i x h; simp at h
  | cons r _ ih =>
    intro i x h
    cases i with
    | zero => simp at h; subst h; exact ⟨_, rfl, r⟩
    | succ i => exact ih (by simpa using h)
theorem good_cells {row : List Cell} (h : GoodRow row) : ∀ x ∈ row, GoodCell x := fun x hx => (cell_facts x (h.2 x hx)).2

section
variable {rows : List (List Cell)} {lines : List Str} {hs : List Nat}
theorem cnt_skip {c d : Int} {i : Nat} (h : ∀ h0 tl, hs = h0 :: tl → h0 ≠ i) : cntAt hs c d (i + 1) = cntAt hs c d i := by
  cases hs with
  | nil => rfl
  | cons h0 tl =>
    have := h h0 tl rfl
    unfold cntAt
    dsimp only
    by_cases hl : h0 < i
    · rw [if_pos hl, if_pos (by omega)]
    · rw [if_neg hl, if_neg (by omega)]
theorem cond_eq {c : Int} {i : Nat} (h1 : hs = [] → c = -1) (h2 : ∀ h0 tl, hs = h0 :: tl → h0 ≠ i) (v : Int) : (decide (c < 0) || (decide (i < hs.headD 0) || decide (c < iabs v))) = (decide (cntAt hs c (-1) i < 0) || (decide (cntAt hs c (-1) i < iabs v) || false)) := by
  rw [Bool.or_false]
  cases hs with
  | nil => rw [h1 rfl]; rfl
  | cons h0 tl =>
    have hne := h2 h0 tl rfl
    show (decide (c < 0) || (decide (i < h0) || decide (c < iabs v))) = _
    by_cases hlt : h0 < i
    · have e1 : cntAt (h0 :: tl) c (-1) i = c := if_pos hlt
      have e2 : decide (i < h0) = false := decide_eq_false (by omega)
      rw [e1, e2, Bool.false_or]
    · have e1 : cntAt (h0 :: tl) c (-1) i = -1 := if_neg hlt
      have e2 : decide (i < h0) = true := decide_eq_true (by omega)
      rw [e1, e2]
      simp
theorem St.quiet {i : Nat} {s : RS} (S : St rows lines hs i s) (h : ∀ h0 tl, hs = h0 :: tl → h0 ≠ i) (hN : isN (rows.getD i []) = false) : St rows lines hs (i + 1) { s with row := s.row + 1 } where
  row := by show s.row + 1 = _; rw [S.row]; omega
  count := by rw [cnt_skip h]; exact S.count
  exp := by rw [cnt_skip h]; exact S.exp
  cl := by rw [V3_succ, if_neg (by rw [hN]; decide), List.append_nil]; exact S.cl
theorem row_step (hh : hs = headsOf rows rows.length) (M : Made rows lines) {i : Nat} {s : RS} (hi : i < rows.length) (hno : ∀ f, InF rows lines hs f → i ≤ f.at_) (S : St rows lines hs i s) {line : Str} (hline : lines[i]? = some line) :
    (∃ s', lineStep s line = .ok s' ∧ St rows lines hs (i + 1) s' ∧ ∀ f, InF rows lines hs f → f.at_ ≠ i) ∨
    (∃ f, InF rows lines hs f ∧ f.at_ = i ∧ (∀ g, InF rows lines hs g → g.at_ = i → f.k ≤ g.k) ∧ lineStep s line = .error ⟨f.kind, (i : Int) + 1, f.det⟩) := by
  obtain ⟨row, hrow0⟩ : ∃ row, rows[i]? = some row := ⟨_, List.getElem?_eq_getElem hi⟩
  have hrd : rows.getD i [] = row := getD_some hrow0
  have hg : GoodRow row := M.2.2.1 row (List.mem_of_getElem? hrow0)
  obtain ⟨line', hl', eL⟩ := M.2.2.2.get hrow0
  rw [hline] at hl'; cases hl'
  have hw := line_words hg eL
  have hld : lines.getD i "" = line := getD_some hline
  have hsort := heads_sorted (rows := rows) rows.length
  rw [← hh] at hsort
  have inHead : ∀ j, j ∈ hs → firstP (rows.getD j []) = true := fun j hj => (mem_heads.mp (hh ▸ hj)).2
  have noHead : firstP row = false → ∀ h0 tl, hs = h0 :: tl → h0 ≠ i := fun e h0 tl e2 e3 => by
    have := inHead h0 (by rw [e2]; exact .head _)
    rw [e3, hrd, e] at this; cases this
  have noF : firstP row = false → isN row = false → ∀ f, InF rows lines hs f → f.at_ ≠ i := fun e1 e2 f hf e3 => by
    have := (hf.at hh).2
    rw [e3, hrd, e1, e2] at this
    rcases this with h | h <;> cases h
  have hR : s.row + 1 = (i : Int) + 1 := by rw [S.row]
  cases row with
  | nil =>
    refine .inl ⟨{ s with row := s.row + 1 }, ?_, S.quiet (noHead rfl) (by rw [hrd]; rfl), noF rfl rfl⟩
    unfold lineStep; rw [hw]; rfl
  | cons x r =>
    have hw : Txt.words line = x.1 :: (r.map fun p : Cell => p.1) := hw
    by_cases hcc : (x.1 == "c") = true
    · have hP : firstP (x :: r) = false := by unfold firstP; dsimp only; rw [eq_of_beq hcc]; decide
      have hN : isN (x :: r) = false := by unfold isN; dsimp only; rw [eq_of_beq hcc]; decide
      refine .inl ⟨{ s with row := s.row + 1 }, ?_, S.quiet (noHead hP) (by rw [hrd]; exact hN), noF hP hN⟩
      unfold lineStep; rw [hw]; dsimp only; rw [if_pos hcc]
    · by_cases hpp : (x.1 == "p") = true
      · have hP : firstP (x :: r) = true := hpp
        have hN : isN (x :: r) = false := by unfold isN; dsimp only; rw [eq_of_beq hpp]; decide
        have hmem : i ∈ hs := by rw [hh]; exact mem_heads.mpr ⟨hi, by rw [hrd]; exact hP⟩
        have lineEq : lineStep s line = headStep { s with row := s.row + 1 } line (x.1 :: r.map fun p : Cell => p.1) := by
          unfold lineStep; rw [hw]; dsimp only; rw [if_neg hcc, if_pos hpp]
        cases hs with
        | nil => cases hmem
        | cons h0 tl =>
        by_cases hi0 : h0 = i
        · subst hi0
          have hcount : s.count = -1 := by rw [S.count]; unfold cntAt; dsimp only; rw [if_neg (by omega)]
          have hexp : s.expected = 0 := by rw [S.exp]; unfold cntAt; dsimp only; rw [if_neg (by omega)]
          have hd : hdOf rows lines (h0 :: tl) = headInfo (x :: r) h0 line := by unfold hdOf; dsimp only; rw [hrd, hld]
          have here : ∀ g, InF rows lines (h0 :: tl) g → g.at_ = h0 → g ∈ (headInfo (x :: r) h0 line).1 := fun g hg e => by
            cases hg with
            | more j hj e2 =>
              have := (List.pairwise_cons.mp hsort).1 j hj
              rw [e2] at e
              have e : j = h0 := e
              omega
            | head h1 tl1 e2 h =>
              cases e2
              rw [hrd, hld] at h; exact h
            | cell j k hj hNj hk e2 =>
              have := (cellF_at e2).1
              rw [this] at e
              rw [e, hrd, hN] at hNj; cases hNj
          rcases headStep_first (s := { s with row := s.row + 1 }) (good_cells hg) hcount h0 with ⟨q1, q2⟩ | ⟨f, q1, q2, q3⟩
          · refine .inl ⟨_, lineEq.trans q2, ⟨by show s.row + 1 = _; rw [S.row]; omega, ?_, ?_, ?_⟩, fun f hf e => by have := here f hf e; rw [q1] at this; cases this⟩
            · show _ = cntAt (h0 :: tl) _ _ _
              unfold cntAt; dsimp only; rw [if_pos (by omega), hd]
            · show _ = cntAt (h0 :: tl) _ _ _
              unfold cntAt; dsimp only; rw [if_pos (by omega), hd]
            · rw [V3_succ, hrd, if_neg (by rw [hN]; decide), List.append_nil]; exact S.cl
          · refine .inr ⟨f, .head h0 tl rfl (by rw [hrd, hld]; exact q1), (headInfo_at q1).1, fun g hg e => q2 g (here g hg e), ?_⟩
            rw [lineEq]
            refine q3.trans ?_
            show Except.error (XV.mk f.kind (s.row + 1) f.det) = _
            rw [hR]
        · have htl : i ∈ tl := by
            rcases List.mem_cons.mp hmem with h | h
            · exact absurd h.symm hi0
            · exact h
          have hlt := (List.pairwise_cons.mp hsort).1 i htl
          have hh0 : (headInfo (rows.getD h0 []) h0 (lines.getD h0 "")).1 = [] := by
            cases hq : (headInfo (rows.getD h0 []) h0 (lines.getD h0 "")).1 with
            | nil => rfl
            | cons f FH =>
              have hf : f ∈ (headInfo (rows.getD h0 []) h0 (lines.getD h0 "")).1 := by rw [hq]; exact .head _
              have h1 := hno f (.head h0 tl rfl hf)
              have h2 := (headInfo_at hf).1
              omega
          have hpos := headInfo_ok hh0
          have hcount : 0 ≤ s.count := by
            rw [S.count]; unfold cntAt; dsimp only; rw [if_pos hlt]
            exact hpos
          refine .inr ⟨badHead lines i, .more i htl rfl, rfl, fun g _ _ => Nat.zero_le _, ?_⟩
          rw [lineEq, headStep_late (s := { s with row := s.row + 1 }) hcount]
          unfold badHead
          rw [hld]
          show Except.error (XV.mk "bad_header" (s.row + 1) line) = _
          rw [hR]
      · have hP : firstP (x :: r) = false := by unfold firstP; dsimp only; simpa using hpp
        have hN : isN (x :: r) = true := by
          unfold isN; dsimp only
          simp only [Bool.and_eq_true, bne_iff_ne]
          exact ⟨fun e => hcc (by rw [e]; rfl), fun e => hpp (by rw [e]; rfl)⟩
        have lineEq : lineStep s line = foldW { s with row := s.row + 1 } ((x :: r).map fun p : Cell => p.1) := by
          unfold lineStep; rw [hw]; dsimp only; rw [if_neg hcc, if_neg hpp]; rfl
        have hcond : ∀ v, (decide ((hdOf rows lines hs).2.1 < 0) || (decide (i < hs.headD 0) || decide ((hdOf rows lines hs).2.1 < iabs v))) = (decide (cntAt hs (hdOf rows lines hs).2.1 (-1) i < 0) || (decide (cntAt hs (hdOf rows lines hs).2.1 (-1) i < iabs v) || false)) := fun v =>
          cond_eq (fun e => by rw [e]; rfl) (noHead hP) v
        have hk := foldW_sim (good_cells hg) hcond (x :: r).length 0 { s with row := s.row + 1 } (c0 := (s.clauses, s.current)) (e := s.expected) (by omega) (fun k hk => by omega) S.count hR rfl (by simp [rowV])
        rw [List.drop_zero] at hk
        have here : ∀ g, InF rows lines hs g → g.at_ = i → ∃ k, k < (x :: r).length ∧ g.k = k ∧ cellF (hdOf rows lines hs).2.1 (hs.headD 0) i k ((x :: r).getD k ("", none)) = some g := fun g hg e => by
          cases hg with
          | more j hj e2 =>
            have := inHead j (List.mem_of_mem_drop hj)
            rw [e2] at e
            have e : j = i := e
            rw [e, hrd, hP] at this; cases this
          | head h1 tl1 e2 h =>
            have := inHead h1 (by rw [e2]; exact .head _)
            rw [(headInfo_at h).1] at e
            rw [e, hrd, hP] at this; cases this
          | cell j k hj hNj hkk e2 =>
            have c := cellF_at e2
            rw [c.1] at e
            subst e
            rw [hrd] at hkk e2
            exact ⟨k, hkk, c.2, e2⟩
        rcases hk with ⟨s', q1, q2, q3, q4, q5, q6⟩ | ⟨k, f, q1, q2, q3, q4⟩
        · refine .inl ⟨s', lineEq.trans q1, ⟨by rw [q3]; omega, ?_, ?_, ?_⟩, fun f hf e => ?_⟩
          · rw [q2, cnt_skip (noHead hP)]
          · rw [q4, cnt_skip (noHead hP)]; exact S.exp
          · rw [q5, V3_succ, hrd, if_pos hN]
            unfold clOf
            rw [List.foldl_append]
            have := S.cl
            unfold clOf at this
            rw [← this]
          · obtain ⟨k, hk, _, e2⟩ := here f hf e
            rw [q6 k hk] at e2; cases e2
        · refine .inr ⟨f, .cell i k hi (by rw [hrd]; exact hN) (by rw [hrd]; exact q1) (by rw [hrd]; exact q2), (cellF_at q2).1, fun g hg e => ?_, lineEq.trans q4⟩
          obtain ⟨k2, hk2, e1, e2⟩ := here g hg e
          rw [(cellF_at q2).2, e1]
          rcases Nat.lt_or_ge k2 k with h | h
          · rw [q3 k2 h] at e2; cases e2
          · exact h
end
end

section
open PySem PySem.W PySem.Calls PySem.Spec PyProof.Rows
open Builtin.Str
open PySem.StrLaws

theorem foldL_ok {s s' : RS} {l : Str} {r : List Str} (h : lineStep s l = .ok s') : foldL s (l :: r) = foldL s' r := by
  show (match lineStep s l with | .ok s' => foldL s' r | .error e => .error e) = _
  rw [h]
theorem foldL_err {s : RS} {e : XV} {l : Str} {r : List Str} (h : lineStep s l = .error e) : foldL s (l :: r) = .error e := by
  show (match lineStep s l with | .ok s' => foldL s' r | .error e => .error e) = _
  rw [h]
section
variable {rows : List (List Cell)} {lines : List Str} {hs : List Nat}
theorem read_all (hh : hs = headsOf rows rows.length) (M : Made rows lines) : ∀ (m i : Nat) (s : RS), i + m = rows.length → (∀ f, InF rows lines hs f → i ≤ f.at_) → St rows lines hs i s →
    (∃ s', foldL s (lines.drop i) = .ok s' ∧ St rows lines hs rows.length s' ∧ ∀ f, ¬ InF rows lines hs f) ∨
    (∃ f, InF rows lines hs f ∧ (∀ g, InF rows lines hs g → f.key ≤ g.key) ∧ foldL s (lines.drop i) = .error ⟨f.kind, (f.at_ : Int) + 1, f.det⟩)
  | 0, i, s, hm, hno, S => by
    have hi : i = rows.length := by omega
    subst hi
    have hl := M.2.2.2.len
    rw [← hl, List.drop_length]
    rw [hl]
    exact .inl ⟨s, rfl, S, fun f hf => by have h1 := hno f hf; have h2 := (hf.at hh).1; omega⟩
  | m + 1, i, s, hm, hno, S => by
    have hi : i < rows.length := by omega
    have hl := M.2.2.2.len
    have hi2 : i < lines.length := by omega
    rw [List.drop_eq_getElem_cons hi2]
    have hr2 : ∀ r ∈ rows, r.length ≤ 100 := fun r hr => by have := (M.2.2.1 r hr).1; omega
    rcases row_step hh M hi hno S (line := lines[i]) (List.getElem?_eq_getElem hi2) with ⟨s', h1, h2, h3⟩ | ⟨f, h1, h2, h3, h4⟩
    · rw [foldL_ok h1]
      refine read_all hh M m (i + 1) s' (by omega) (fun f hf => ?_) h2
      have := hno f hf
      have := h3 f hf
      omega
    · rw [foldL_err h4]
      refine .inr ⟨f, h1, fun g hg => ?_, by rw [h2]⟩
      have k1 := h1.k hr2
      have a1 := hno g hg
      unfold Flt.key
      by_cases hgi : g.at_ = i
      · have := h3 g hg hgi
        omega
      · omega
theorem made_100 (M : Made rows lines) : ∀ r ∈ rows, r.length ≤ 100 := fun r hr => by have := (M.2.2.1 r hr).1; omega
theorem due_read (M : Made rows lines) : ∀ r, dueRes (dueF rows lines) (dueOk rows lines) r → r = readD lines := by
  rintro r ⟨h1, h2⟩
  have hr2 := made_100 M
  have S0 : St rows lines (headsOf rows rows.length) 0 RS.init := ⟨rfl, by
      unfold cntAt; split
      · rfl
      · rw [if_neg (by omega)]; rfl, by
      unfold cntAt; split
      · rfl
      · rw [if_neg (by omega)]; rfl, by simp [RS.init, clOf, V3]⟩
  have hR := read_all (hs := headsOf rows rows.length) rfl M rows.length 0 RS.init (by omega) (fun f hf => by omega) S0
  rw [List.drop_zero] at hR
  unfold readD
  rcases hR with ⟨s', q1, q2, q3⟩ | ⟨f, q1, q2, q3⟩
  · rw [q1]
    have hF : dueF rows lines = [] := by
      cases hq : dueF rows lines with
      | nil => rfl
      | cons f F => exact absurd (in_F.mp (show f ∈ dueG rows lines (headsOf rows rows.length) by show f ∈ dueF rows lines; rw [hq]; exact .head _)) (q3 f)
    rw [h1 hF]
    show dueFin _ _ _ _ = finD s'
    unfold dueFin
    congr 1
    obtain ⟨a1, a2, a3, a4⟩ := q2
    obtain ⟨c, e, cl, cu, ro⟩ := s'
    have a1 : ro = _ := a1
    have a2 : c = _ := a2
    have a3 : e = _ := a3
    have a4 : (cl, cu) = _ := a4
    have hc : cntAt (headsOf rows rows.length) (hdOf rows lines (headsOf rows rows.length)).2.1 (-1) rows.length = (hdOf rows lines (headsOf rows rows.length)).2.1 := by
      cases hq : headsOf rows rows.length with
      | nil => rfl
      | cons h0 tl =>
        have := headsOf_lt (rows := rows) (m := rows.length) h0 (by rw [hq]; exact .head _)
        exact if_pos this
    have he : cntAt (headsOf rows rows.length) (hdOf rows lines (headsOf rows rows.length)).2.2 0 rows.length = (hdOf rows lines (headsOf rows rows.length)).2.2 := by
      cases hq : headsOf rows rows.length with
      | nil => rfl
      | cons h0 tl =>
        have := headsOf_lt (rows := rows) (m := rows.length) h0 (by rw [hq]; exact .head _)
        exact if_pos this
    rw [hc] at a2
    rw [he] at a3
    rw [← a4, a1, a2, a3]
  · rw [q3]
    have hmem : f ∈ dueF rows lines := in_F.mpr q1
    obtain ⟨x, x1, x2, x3⟩ := h2 (fun e => by rw [e] at hmem; cases hmem)
    rw [x3]
    have hk : x.key = f.key := Int.le_antisymm (x2 f hmem) (q2 x (in_F.mp x1))
    have hnd := due_nodup (lines := lines) hr2
    have hxf : x = f := by
      obtain ⟨i, hi⟩ := List.getElem?_of_mem x1
      obtain ⟨j, hj⟩ := List.getElem?_of_mem hmem
      have e1 : ((dueF rows lines).map Flt.key)[i]? = some x.key := by rw [List.getElem?_map, hi]; rfl
      have e2 : ((dueF rows lines).map Flt.key)[j]? = some x.key := by rw [List.getElem?_map, hj, hk]; rfl
      have hil : i < ((dueF rows lines).map Flt.key).length := by
        rcases Nat.lt_or_ge i ((dueF rows lines).map Flt.key).length with h | h
        · exact h
        · rw [List.getElem?_eq_none h] at e1; cases e1
      have := (List.getElem?_inj hil hnd).mp (e1.trans e2.symm)
      rw [this, hj] at hi
      cases hi; rfl
    rw [hxf]
end
end

section
open PySem PySem.W PySem.Calls PySem.Spec PyProof.Rows
open Builtin.Str
open PySem.StrLaws

/-! what is written is read as the same -/
theorem val_facts : ∀ v ∈ valsAll, noSp (showI v).cps.toList = true ∧ (showI v).cps.toList ≠ [] ∧ 10 ∉ (showI v).cps.toList ∧ badWord (showI v) = false ∧ wordVal (showI v) = v ∧ (showI v).length ≤ 100 ∧ v.natAbs.log2 < 64 ∧ (showI v == "c") = false ∧ (showI v == "p") = false ∧ (PySem.intText? (showI v)).isSome = true := by decide +kernel
theorem nat_facts : ∀ k ∈ List.range 31, noSp (showI (k : Nat)).cps.toList = true ∧ (showI (k : Nat)).cps.toList ≠ [] ∧ 10 ∉ (showI (k : Nat)).cps.toList ∧ badWord (showI (k : Nat)) = false ∧ wordVal (showI (k : Nat)) = (k : Nat) ∧ (showI (k : Nat)).length ≤ 100 ∧ (PySem.intText? (showI (k : Nat))).isSome = true := by decide +kernel
theorem zero_facts : noSp (("0" : Str)).cps.toList = true ∧ (("0" : Str)).cps.toList ≠ [] ∧ 10 ∉ (("0" : Str)).cps.toList ∧ badWord "0" = false ∧ wordVal "0" = 0 ∧ (("0" : Str)).length ≤ 100 ∧ (("0" : Str) == "c") = false ∧ (("0" : Str) == "p") = false ∧ (PySem.intText? ("0" : Str)).isSome = true := by decide +kernel
theorem p_facts : noSp (("p" : Str)).cps.toList = true ∧ (("p" : Str)).cps.toList ≠ [] ∧ noSp (("cnf" : Str)).cps.toList = true ∧ (("cnf" : Str)).cps.toList ≠ [] ∧ OkW "p" ∧ OkW "cnf" := by unfold OkW; decide +kernel
theorem sp_facts : allSp (("" : Str)).cps.toList = true ∧ allSp ((" " : Str)).cps.toList = true ∧ ((" " : Str)).cps.toList ≠ [] := by decide +kernel
structure Small (n : Int) (cl : List (List Int)) : Prop where
  hn : n ∈ valsAll
  pos : 0 ≤ n
  len : cl.length ≤ 30
  row : ∀ l ∈ cl, l.length ≤ 30 ∧ ∀ v ∈ l, v ∈ valsAll ∧ v ≠ 0 ∧ iabs v ≤ n

noncomputable def headLine (n : Int) (k : Nat) : Str := Txt.join " " [("p" : Str), ("cnf" : Str), showI n, showI k]
noncomputable def rowLine (l : List Int) : Str := Txt.join " " (l.map showI ++ [("0" : Str)])
noncomputable def dimLines (n : Int) (cl : List (List Int)) : List Str := headLine n cl.length :: (cl.map rowLine ++ [("" : Str)])
theorem join_flat : ∀ L : List Str, (Str.join "" L).cps.toList = (L.map fun x => x.cps.toList).flatten
  | [] => rfl
  | [x] => by simp [Str.join]
  | x :: y :: r => by
    show (x ++ "" ++ Str.join "" (y :: r)).cps.toList = _
    rw [Str.cps_append, Str.cps_append, Array.toList_append, Array.toList_append, join_flat (y :: r)]
    have : (("" : Str)).cps.toList = [] := by decide +kernel
    rw [this]; simp
theorem joinL_last (c : Nat) : ∀ L : List (List Nat), joinL c (L ++ [[]]) = (L.map fun x => x ++ [c]).flatten
  | [] => rfl
  | [x] => by simp [joinL]
  | x :: y :: r => by
    have := joinL_last c (y :: r)
    simp only [List.cons_append, joinL] at this ⊢
    rw [this]
    simp
theorem cps_pcnf : (("p cnf " : Str)).cps.toList = [112, 32, 99, 110, 102, 32] := by decide +kernel
theorem cps_sp : ((" " : Str)).cps.toList = [32] := by decide +kernel
theorem cps_nl : (("\n" : Str)).cps.toList = [10] := by decide +kernel
theorem cps_e : Str.empty.cps.toList = [] := by decide +kernel
theorem cps_e2 : (("" : Str)).cps.toList = [] := by decide +kernel
theorem cps_p : (("p" : Str)).cps.toList = [112] := by decide +kernel
theorem cps_cnf : (("cnf" : Str)).cps.toList = [99, 110, 102] := by decide +kernel
theorem cps_0n : (("0\n" : Str)).cps.toList = [48, 10] := by decide +kernel
theorem join_cons2 (g x y : Str) (r : List Str) : (Str.join g (x :: y :: r)).cps.toList = x.cps.toList ++ (g.cps.toList ++ (Str.join g (y :: r)).cps.toList) := by
  show (x ++ g ++ Str.join g (y :: r)).cps.toList = _
  simp only [Str.cps_append, Array.toList_append, List.append_assoc]
theorem headText_cps (n : Int) (k : Nat) : (headText n k).cps.toList = (headLine n k).cps.toList ++ [10] := by
  unfold headText headLine
  rw [txt_join, join_cons2, join_cons2, join_cons2]
  simp only [Str.cps_append, Array.toList_append, cps_pcnf, cps_sp, cps_nl, cps_e, cps_p, cps_cnf, Str.join]
  simp
theorem litText_cps (i : Int) : (litText i).cps.toList = (showI i).cps.toList ++ [32] := by
  unfold litText
  simp only [Str.cps_append, Array.toList_append, cps_sp, cps_e, List.nil_append]
theorem rowLine_cps : ∀ l : List Int, (rowLine l).cps.toList = (l.map fun i => (litText i).cps.toList).flatten ++ [48]
  | [] => by
    show (Txt.join " " [("0" : Str)]).cps.toList = _
    rw [txt_join]
    show (("0" : Str)).cps.toList = _
    rw [cps0]; rfl
  | i :: l => by
    have ih := rowLine_cps l
    unfold rowLine at ih ⊢
    rw [txt_join] at ih ⊢
    have : ∃ y r, l.map showI ++ [("0" : Str)] = y :: r := by
      cases l with
      | nil => exact ⟨_, _, rfl⟩
      | cons a b => exact ⟨_, _, rfl⟩
    obtain ⟨y, r, e⟩ := this
    rw [List.map_cons, List.cons_append, e, join_cons2, ← e, ih, cps_sp, List.map_cons, List.flatten_cons, litText_cps]
    simp
theorem rowText_cps (l : List Int) : (rowText l).cps.toList = (rowLine l).cps.toList ++ [10] := by
  unfold rowText
  rw [Str.cps_append, Array.toList_append, txt_join, join_flat, rowLine_cps, cps_0n, List.map_map]
  simp [Function.comp_def]
theorem dimText_cps (n : Int) (cl : List (List Int)) : (dimText n cl).cps.toList = joinL 10 ((dimLines n cl).map fun x => x.cps.toList) := by
  unfold dimText dimLines
  rw [txt_join, join_flat]
  have : (headLine n cl.length :: (cl.map rowLine ++ [("" : Str)])).map (fun x => x.cps.toList) = ((headLine n cl.length :: cl.map rowLine).map fun x => x.cps.toList) ++ [[]] := by
    rw [← List.cons_append, List.map_append]
    simp only [List.map_cons, List.map_nil, cps_e2]
  rw [this, joinL_last]
  congr 1
  simp only [List.map_cons, List.map_map, headText_cps]
  congr 1
  apply List.map_congr_left
  intro l _
  exact rowText_cps l

section
variable {n : Int} {cl : List (List Int)} (S : Small n cl)
include S
theorem k_facts : noSp (showI cl.length).cps.toList = true ∧ (showI cl.length).cps.toList ≠ [] ∧ 10 ∉ (showI cl.length).cps.toList ∧ badWord (showI cl.length) = false ∧ wordVal (showI cl.length) = cl.length ∧ (showI cl.length).length ≤ 100 ∧ (PySem.intText? (showI cl.length)).isSome = true :=
  nat_facts cl.length (by have := S.len; simp; omega)
theorem head_words : Txt.words (headLine n cl.length) = [("p" : Str), ("cnf" : Str), showI n, showI cl.length] := by
  have h := words_made (lead := "") (g := " ") (ws := [("p" : Str), ("cnf" : Str), showI n, showI cl.length]) sp_facts.1 sp_facts.2.1 sp_facts.2.2 (fun w hw => by
    simp only [List.mem_cons, List.not_mem_nil, or_false] at hw
    rcases hw with rfl | rfl | rfl | rfl
    · exact ⟨p_facts.1, p_facts.2.1⟩
    · exact ⟨p_facts.2.2.1, p_facts.2.2.2.1⟩
    · exact ⟨(val_facts n S.hn).1, (val_facts n S.hn).2.1⟩
    · exact ⟨(k_facts S).1, (k_facts S).2.1⟩)
  have e : ("" : Str) ++ Txt.join " " [("p" : Str), ("cnf" : Str), showI n, showI cl.length] = headLine n cl.length := by
    refine str_ext ?_
    rw [Str.cps_append, Array.toList_append, cps_e2]; rfl
  rw [e] at h; exact h
theorem row_words {l : List Int} (hl : l ∈ cl) : Txt.words (rowLine l) = l.map showI ++ [("0" : Str)] := by
  have h := words_made (lead := "") (g := " ") (ws := l.map showI ++ [("0" : Str)]) sp_facts.1 sp_facts.2.1 sp_facts.2.2 (fun w hw => by
    rcases List.mem_append.mp hw with hw | hw
    · obtain ⟨v, hv, rfl⟩ := List.mem_map.mp hw
      have := val_facts v ((S.row l hl).2 v hv).1
      exact ⟨this.1, this.2.1⟩
    · rw [List.mem_singleton.mp hw]; exact ⟨zero_facts.1, zero_facts.2.1⟩)
  have e : ("" : Str) ++ Txt.join " " (l.map showI ++ [("0" : Str)]) = rowLine l := by
    refine str_ext ?_
    rw [Str.cps_append, Array.toList_append, cps_e2]; rfl
  rw [e] at h; exact h
theorem dim_split : Txt.split (dimText n cl) "\n" = dimLines n cl := by
  refine split_of (by simp [dimLines]) ?_ (dimText_cps n cl)
  have hsp : 10 ∉ ((" " : Str)).cps.toList := by decide +kernel
  intro x hx
  unfold dimLines at hx
  rcases List.mem_cons.mp hx with rfl | hx
  · unfold headLine
    rw [txt_join]
    refine fun hm => join_all (P := fun k => k ≠ 10) (fun k hk z => hsp (z ▸ hk)) (fun w hw k hk z => ?_) 10 hm rfl
    subst z
    simp only [List.mem_cons, List.not_mem_nil, or_false] at hw
    rcases hw with rfl | rfl | rfl | rfl
    · revert hk; decide +kernel
    · revert hk; decide +kernel
    · exact (val_facts n S.hn).2.2.1 hk
    · exact (k_facts S).2.2.1 hk
  · rcases List.mem_append.mp hx with hx | hx
    · obtain ⟨l, hl, rfl⟩ := List.mem_map.mp hx
      unfold rowLine
      rw [txt_join]
      refine fun hm => join_all (P := fun k => k ≠ 10) (fun k hk z => hsp (z ▸ hk)) (fun w hw k hk z => ?_) 10 hm rfl
      subst z
      rcases List.mem_append.mp hw with hw | hw
      · obtain ⟨v, hv, rfl⟩ := List.mem_map.mp hw
        exact (val_facts v ((S.row l hl).2 v hv).1).2.2.1 hk
      · rw [List.mem_singleton.mp hw] at hk; exact zero_facts.2.2.1 hk
    · rw [List.mem_singleton.mp hx, cps_e2]; simp
theorem lits_read {l0 : List Int} (hl : l0 ∈ cl) : ∀ (l : List Int) (s : RS), (∀ v ∈ l, v ∈ l0) → s.count = n → foldW s (l.map showI ++ [("0" : Str)]) = .ok { s with clauses := s.clauses ++ [s.current ++ l], current := [] }
  | [], s, _, hc => by
    have : wordStep s "0" = .ok { s with clauses := s.clauses ++ [s.current], current := [] } := by
      unfold wordStep
      rw [if_neg (by rw [zero_facts.2.2.2.1]; decide), zero_facts.2.2.2.2.1, hc]
      have hp := S.pos
      have h1 : decide (n < 0) = false := decide_eq_false (by omega)
      have h2 : decide (n < iabs 0) = false := decide_eq_false (by show ¬ n < 0; omega)
      rw [h1, h2]
      rfl
    show (match wordStep s "0" with | .ok s' => foldW s' [] | .error e => .error e) = _
    rw [this, List.append_nil]; rfl
  | v :: l, s, hv, hc => by
    have h := (S.row l0 hl).2 v (hv v (.head _))
    have f := val_facts v h.1
    have : wordStep s (showI v) = .ok { s with current := s.current ++ [v] } := by
      unfold wordStep
      rw [if_neg (by rw [f.2.2.2.1]; decide), f.2.2.2.2.1, hc]
      have hp := S.pos
      have h1 : decide (n < 0) = false := decide_eq_false (by omega)
      have h2 : decide (n < iabs v) = false := decide_eq_false (by omega)
      have h3 : (v == 0) = false := by simpa using h.2.1
      rw [h1, h2, h3]
      rfl
    show (match wordStep s (showI v) with | .ok s' => foldW s' (l.map showI ++ [("0" : Str)]) | .error e => .error e) = _
    rw [this]
    refine (lits_read hl l { s with current := s.current ++ [v] } (fun w hw => hv w (.tail _ hw)) hc).trans ?_
    simp
theorem row_read {l : List Int} (hl : l ∈ cl) (s : RS) (hc : s.count = n) (hcur : s.current = []) : lineStep s (rowLine l) = .ok { s with clauses := s.clauses ++ [l], row := s.row + 1 } := by
  have hw := row_words S hl
  have hf := lits_read S hl l { s with row := s.row + 1 } (fun v hv => hv) hc
  have e : lineStep s (rowLine l) = foldW { s with row := s.row + 1 } (l.map showI ++ [("0" : Str)]) := by
    unfold lineStep
    rw [hw]
    cases l with
    | nil =>
      show (if _ then _ else if _ then _ else foldW _ _) = _
      rw [if_neg (by rw [zero_facts.2.2.2.2.2.2.1]; decide), if_neg (by rw [zero_facts.2.2.2.2.2.2.2.1]; decide)]
      rfl
    | cons v r =>
      have f := val_facts v ((S.row _ hl).2 v (.head _)).1
      show (if _ then _ else if _ then _ else foldW _ _) = _
      rw [if_neg (by rw [f.2.2.2.2.2.2.2.1]; decide), if_neg (by rw [f.2.2.2.2.2.2.2.2.1]; decide)]
      rfl
  rw [e, hf]
  show Except.ok (RS.mk s.count s.expected (s.clauses ++ [s.current ++ l]) [] (s.row + 1)) = _
  rw [hcur]; rfl
theorem rows_read : ∀ (rest : List (List Int)) (s : RS) (tl : List Str), (∀ l ∈ rest, l ∈ cl) → s.count = n → s.current = [] → foldL s (rest.map rowLine ++ tl) = foldL { s with clauses := s.clauses ++ rest, row := s.row + rest.length } tl
  | [], s, tl, _, _, _ => by simp
  | l :: rest, s, tl, h, hc, hcur => by
    rw [List.map_cons, List.cons_append, foldL_ok (row_read S (h l (.head _)) s hc hcur)]
    refine (rows_read rest { s with clauses := s.clauses ++ [l], row := s.row + 1 } tl (fun x hx => h x (.tail _ hx)) hc hcur).trans ?_
    congr 1
    show RS.mk _ _ _ _ _ = RS.mk _ _ _ _ _
    congr 1
    · simp
    · simp; omega
theorem dim_read : readD (dimLines n cl) = .ok (n, cl) := by
  have f := val_facts n S.hn
  have k := k_facts S
  have hp := S.pos
  have h1 : lineStep RS.init (headLine n cl.length) = .ok ⟨n, cl.length, [], [], 1⟩ := by
    unfold lineStep
    rw [head_words S]
    show headStep ⟨-1, 0, [], [], 1⟩ _ [("p" : Str), ("cnf" : Str), showI n, showI cl.length] = _
    unfold headStep
    dsimp only
    rw [if_neg (by decide), if_neg (by rw [f.2.2.2.1]; decide), if_neg (by rw [k.2.2.2.1]; decide), f.2.2.2.2.1, k.2.2.2.2.1]
    have e1 : decide (n < 0) = false := decide_eq_false (by omega)
    have e2 : decide (((cl.length : Nat) : Int) < 0) = false := decide_eq_false (by omega)
    rw [e1, e2]
    rfl
  unfold readD dimLines
  rw [foldL_ok h1, rows_read S cl _ [("" : Str)] (fun l hl => hl) rfl rfl]
  have h2 : ∀ s : RS, foldL s [("" : Str)] = .ok { s with row := s.row + 1 } := fun s => by
    have : lineStep s "" = .ok { s with row := s.row + 1 } := by
      unfold lineStep
      have : Txt.words "" = [] := by decide +kernel
      rw [this]
    rw [foldL_ok this]; rfl
  rw [h2]
  show finD ⟨n, cl.length, [] ++ cl, [], _⟩ = _
  unfold finD
  rw [if_neg]
  · rfl
  · have e1 : decide (n < 0) = false := decide_eq_false (by omega)
    simp [e1]
end
end

section
open PySem PySem.W PySem.Calls PySem.Spec PyProof.Rows
open Builtin.Str
open PySem.StrLaws

section
variable {n : Int} {cl : List (List Int)} (S : Small n cl)
include S
theorem dim_small : smallI n ∧ cl.length ≤ 1000 ∧ (∀ l ∈ cl, l.length ≤ 1000 ∧ ∀ i ∈ l, smallI i) :=
  ⟨(val_facts n S.hn).2.2.2.2.2.2.1, by have := S.len; omega, fun l hl => ⟨by have := (S.row l hl).1; omega, fun i hi => (val_facts i ((S.row l hl).2 i hi).1).2.2.2.2.2.2.1⟩⟩
theorem lit_sum {l : List Int} (hl : l ∈ cl) : ((l.map litText).map (·.length)).sum ≤ 3030 := by
  rw [List.map_map]
  have h1 := sum_le ((fun x : Str => x.length) ∘ litText) 101 l fun i hi => litText_len (val_facts i ((S.row l hl).2 i hi).1).2.2.2.2.2.2.1
  have h2 := (S.row l hl).1
  omega
theorem row_textlen {l : List Int} (hl : l ∈ cl) : (rowText l).length ≤ 3032 := by
  unfold rowText
  rw [app_len, lenZ, txt_join]
  have h := join_length_le "" (l.map litText)
  have h1 := lit_sum S hl
  have e2 : (("" : Str)).length = 0 := by decide +kernel
  rw [e2] at h; omega
theorem head_textlen : (headText n cl.length).length ≤ 300 := by
  unfold headText
  simp only [app_len, lenL1, lenL2, lenL3, lenE]
  have := (val_facts n S.hn).2.2.2.2.2.1
  have := (k_facts S).2.2.2.2.2.1
  omega
theorem dim_sum : ((headText n cl.length :: cl.map rowText).map (·.length)).sum ≤ 100000 := by
  rw [List.map_cons, List.sum_cons, List.map_map]
  have h1 := sum_le ((fun x : Str => x.length) ∘ rowText) 3032 cl fun l hl => row_textlen S hl
  have h2 := head_textlen S
  have h3 := S.len
  omega
theorem dim_join : JoinOk "" (headText n cl.length :: cl.map rowText) = true ∧ (∀ l ∈ cl, JoinOk "" (l.map litText) = true) := by
  have e2 : (("" : Str)).length = 0 := by decide +kernel
  refine ⟨joinOk_of ?_, fun l hl => joinOk_of ?_⟩
  · rw [e2]; have := dim_sum S; omega
  · rw [e2]; have := lit_sum S hl; omega
theorem dim_rdok : RdOk (dimText n cl) := by
  have e2 : (("" : Str)).length = 0 := by decide +kernel
  have hpart : ∀ l ∈ dimLines n cl, l.length ≤ 100000 := fun l hl => by
    unfold dimLines at hl
    rcases List.mem_cons.mp hl with rfl | hl
    · have h := headText_cps n cl.length
      have h := congrArg List.length h
      have h2 := head_textlen S
      rw [List.length_append] at h
      simp [Str.length] at h h2 ⊢
      omega
    · rcases List.mem_append.mp hl with hl | hl
      · obtain ⟨x, hx, rfl⟩ := List.mem_map.mp hl
        have h := congrArg List.length (rowText_cps x)
        have h2 := row_textlen S hx
        rw [List.length_append] at h
        simp [Str.length] at h h2 ⊢
        omega
      · rw [List.mem_singleton.mp hl, e2]; omega
  have hw : ∀ l ∈ dimLines n cl, (Txt.words l).length ≤ 40 ∧ ∀ w ∈ Txt.words l, OkW w := fun l hl => by
    unfold dimLines at hl
    rcases List.mem_cons.mp hl with rfl | hl
    · rw [head_words S]
      refine ⟨by simp, fun w hw => ?_⟩
      simp only [List.mem_cons, List.not_mem_nil, or_false] at hw
      rcases hw with rfl | rfl | rfl | rfl
      · exact p_facts.2.2.2.2.1
      · exact p_facts.2.2.2.2.2
      · have f := val_facts n S.hn
        exact ⟨by have := f.2.2.2.2.2.1; omega, fun _ => f.2.2.2.2.2.2.2.2.2⟩
      · have f := k_facts S
        exact ⟨by have := f.2.2.2.2.2.1; omega, fun _ => f.2.2.2.2.2.2⟩
    · rcases List.mem_append.mp hl with hl | hl
      · obtain ⟨x, hx, rfl⟩ := List.mem_map.mp hl
        rw [row_words S hx]
        refine ⟨by have := (S.row x hx).1; simp; omega, fun w hw => ?_⟩
        rcases List.mem_append.mp hw with hw | hw
        · obtain ⟨v, hv, rfl⟩ := List.mem_map.mp hw
          have f := val_facts v ((S.row x hx).2 v hv).1
          exact ⟨by have := f.2.2.2.2.2.1; omega, fun _ => f.2.2.2.2.2.2.2.2.2⟩
        · rw [List.mem_singleton.mp hw]
          have f := zero_facts
          exact ⟨by have := f.2.2.2.2.2.1; omega, fun _ => f.2.2.2.2.2.2.2.2⟩
      · rw [List.mem_singleton.mp hl]
        have : Txt.words "" = [] := by decide +kernel
        rw [this]; exact ⟨by simp, fun w hw => nomatch hw⟩
  refine rdok_of (dim_split S) ?_ (fun l hl => by have := hpart l hl; omega) (fun l hl => (hw l hl).2) ?_
  · unfold dimText
    rw [txt_join]
    have h := join_length_le "" (headText n cl.length :: cl.map rowText)
    have h1 := dim_sum S
    rw [e2] at h; omega
  · have h1 := sum_le (fun l : Str => (Txt.words l).length) 40 (dimLines n cl) fun l hl => (hw l hl).1
    have h2 : (dimLines n cl).length ≤ 32 := by unfold dimLines; have := S.len; simp; omega
    omega
theorem dim_ans : ansAV (Txt.split (dimText n cl) "\n") = resAV (.ok (n, cl)) := by
  rw [dim_split S, ansAV_res, dim_read S]
end

/-! the data of an answer -/
theorem dats_ints : ∀ l : List Int, dats (l.map AV.int) = true
  | [] => rfl
  | i :: l => by rw [List.map_cons, dats, dats_ints l]; rfl
theorem dats_cl : ∀ cl : List (List Int), dats (cl.map clAV) = true
  | [] => rfl
  | l :: cl => by
    rw [List.map_cons, dats, dats_cl cl]
    unfold clAV; rw [AV.dat, dats_ints]; rfl
theorem depth_ints : ∀ l : List Int, PyData.depthAll (pds (l.map AV.int)) ≤ 1
  | [] => by simp [pds, PyData.depthAll]
  | i :: l => by
    have := depth_ints l
    simp only [List.map_cons, pds, pd, PyData.depthAll, PyData.depth]; omega
theorem depth_cl : ∀ cl : List (List Int), PyData.depthAll (pds (cl.map clAV)) ≤ 2
  | [] => by simp [pds, PyData.depthAll]
  | l :: cl => by
    have := depth_cl cl
    have := depth_ints l
    simp only [List.map_cons, clAV, pds, pd, PyData.depthAll, PyData.depth] at this ⊢; omega
theorem res_ok_dat (n : Int) (cl : List (List Int)) : (resAV (.ok (n, cl))).dat = true ∧ (pd (resAV (.ok (n, cl)))).depth ≤ 1000 := by
  have h := depth_cl cl
  refine ⟨?_, ?_⟩
  · show dats [_, _, _, _] = true
    simp only [dats, AV.dat, dats_cl]
    decide +kernel
  · simp only [resAV, pd, pds, PyData.depth, PyData.depthAll]; omega
theorem res_err_dat {x : XV} (h1 : (AV.str x.kind).dat = true) (h2 : (AV.str x.det).dat = true) : (resAV (.error x)).dat = true ∧ (pd (resAV (.error x))).depth ≤ 1000 := by
  refine ⟨?_, ?_⟩
  · have h0 : (AV.str ("fault" : Str)).dat = true := by decide +kernel
    have h3 : (AV.int x.at_).dat = true := by rfl
    show dats [.str "fault", .str x.kind, .int x.at_, .str x.det] = true
    rw [dats, dats, dats, dats, dats, h0, h1, h2, h3]; rfl
  · simp only [resAV, pd, pds, PyData.depth, PyData.depthAll]; omega
end

section
open PySem PySem.W PySem.Calls PySem.Spec PyProof.Rows
open Builtin.Str
open PySem.StrLaws

theorem cell_vals : ∀ x ∈ allCells, ∀ v, x.2 = some v → v ∈ valsAll := by
  have h : ∀ x ∈ allCells, (x.2.all fun v => valsAll.contains v) = true := by decide +kernel
  intro x hx v e
  have := h x hx
  rw [e] at this
  simpa using this
theorem headInfo_val {top : List Cell} {h0 : Nat} {line : Str} (h : 0 ≤ (headInfo top h0 line).2.1) : ∃ x ∈ top, x.2 = some (headInfo top h0 line).2.1 := by
  unfold headInfo at h ⊢
  split at h
  · split at h
    · exact absurd h (show ¬ (0 : Int) ≤ -1 by decide)
    · rename_i x0 x1 x2 x3 hq
      rw [if_neg hq]
      unfold headNums at h ⊢
      split at h
      · split at h
        · exact absurd h (show ¬ (0 : Int) ≤ -1 by decide)
        · rename_i a b e2 e3 hm
          rw [if_neg hm]
          exact ⟨x2, by simp, e2⟩
      · exact absurd h (show ¬ (0 : Int) ≤ -1 by decide)
      · exact absurd h (show ¬ (0 : Int) ≤ -1 by decide)
      · exact absurd h (show ¬ (0 : Int) ≤ -1 by decide)
  · exact absurd h (show ¬ (0 : Int) ≤ -1 by decide)
theorem cl_inv (vs : List Int) : ∀ (l : List Int) (s : List (List Int) × List Int) (m : Nat), (∀ v ∈ l, v ∈ vs) → (∀ x ∈ s.1, x.length ≤ m ∧ ∀ v ∈ x, v ∈ vs ∧ v ≠ 0) → (s.2.length ≤ m ∧ ∀ v ∈ s.2, v ∈ vs ∧ v ≠ 0) → s.1.length ≤ m →
    (∀ x ∈ (l.foldl clStep s).1, x.length ≤ m + l.length ∧ ∀ v ∈ x, v ∈ vs ∧ v ≠ 0) ∧ (l.foldl clStep s).1.length ≤ m + l.length
  | [], s, m, _, h1, _, h3 => ⟨h1, h3⟩
  | v :: l, s, m, hv, h1, h2, h3 => by
    rw [List.foldl_cons]
    have ih := cl_inv vs l (clStep s v) (m + 1) (fun w hw => hv w (.tail _ hw)) (fun x hx => ?_) ?_ ?_
    · rw [List.length_cons, show m + (l.length + 1) = m + 1 + l.length by omega]
      exact ih
    · rcases clStep_mem s v x hx with q | q
      · have := h1 x q; exact ⟨by omega, this.2⟩
      · rw [q]; exact ⟨by omega, h2.2⟩
    · unfold clStep
      split
      · exact ⟨by simp, fun w hw => nomatch hw⟩
      · rename_i hz
        refine ⟨by simp; omega, fun w hw => ?_⟩
        rcases List.mem_append.mp hw with hw | hw
        · exact h2.2 w hw
        · rw [List.mem_singleton.mp hw]; exact ⟨hv v (.head _), by simpa using hz⟩
    · unfold clStep; split <;> simp <;> omega

section
variable {rows : List (List Cell)} {lines : List Str} {hs : List Nat}
theorem good_getD (M : Made rows lines) (i : Nat) : ∀ x ∈ rows.getD i [], x ∈ allCells := by
  rw [List.getD_eq_getElem?_getD]
  cases h : rows[i]? with
  | none => intro x hx; cases hx
  | some r => exact (M.2.2.1 r (List.mem_of_getElem? h)).2
theorem getD_5 (M : Made rows lines) (i : Nat) : (rows.getD i []).length ≤ 5 := by
  rw [List.getD_eq_getElem?_getD]
  cases h : rows[i]? with
  | none => simp
  | some r => exact (M.2.2.1 r (List.mem_of_getElem? h)).1
theorem mem_V3 {count : Int} {h0 m : Nat} {v : Int} (h : v ∈ V3 count h0 rows m) : ∃ i k, k < (rows.getD i []).length ∧ cellV count h0 i ((rows.getD i []).getD k ("", none)) = some v := by
  unfold V3 at h
  simp only [List.mem_flatMap, List.mem_range] at h
  obtain ⟨i, hi, h⟩ := h
  split at h
  · unfold rowV at h
    simp only [List.mem_filterMap, List.mem_range] at h
    obtain ⟨k, hk, e⟩ := h
    exact ⟨i, k, hk, e⟩
  · cases h
theorem V3_5 (M : Made rows lines) {count : Int} {h0 : Nat} : ∀ m : Nat, (V3 count h0 rows m).length ≤ m * 5
  | 0 => by simp [V3]
  | m + 1 => by
    rw [V3_succ, List.length_append]
    have h1 := V3_5 M (count := count) (h0 := h0) m
    have h2 := getD_5 M m
    split
    · have := rowV_len count h0 m (rows.getD m []) (rows.getD m []).length; omega
    · simp; omega
theorem getD_mem {row : List Cell} {k : Nat} (h : k < row.length) : row.getD k ("", none) ∈ row := by
  rw [getD_some (List.getElem?_eq_getElem h)]; exact List.getElem_mem h
theorem line_getD (M : Made rows lines) (i : Nat) : (AV.str (lines.getD i "")).dat = true := by
  rw [List.getD_eq_getElem?_getD]
  cases h : lines[i]? with
  | none => decide +kernel
  | some l =>
    obtain ⟨row, hr, e⟩ := M.2.2.2.mem_right l (List.mem_of_getElem? h)
    exact line_dat (M.2.2.1 row hr) e
theorem cell_dat {x : Cell} (hx : x ∈ allCells) : (AV.str x.1).dat = true := dat_of (cell_lt hx)
theorem kind_dat : (AV.str ("bad_header" : Str)).dat = true ∧ (AV.str ("bad_number" : Str)).dat = true ∧ (AV.str ("bad_variable" : Str)).dat = true ∧ (AV.str ("unfinished_text" : Str)).dat = true ∧ (AV.str ("" : Str)).dat = true := by decide +kernel
theorem InF.dat (M : Made rows lines) {f : Flt} (h : InF rows lines hs f) : (AV.str f.kind).dat = true ∧ (AV.str f.det).dat = true := by
  cases h with
  | more i hi e => rw [e]; exact ⟨kind_dat.1, line_getD M i⟩
  | head h0 tl e h =>
    have hl := line_getD M h0
    have hg := good_getD M h0
    generalize rows.getD h0 [] = top at h hg
    generalize lines.getD h0 "" = line at h hl
    unfold headInfo at h
    split at h
    · rename_i x0 x1 x2 x3
      have g2 := cell_dat (hg x2 (by simp))
      have g3 := cell_dat (hg x3 (by simp))
      split at h
      · simp at h; subst h; exact ⟨kind_dat.1, hl⟩
      · unfold headNums at h
        split at h
        · split at h
          · simp at h; subst h; exact ⟨kind_dat.1, hl⟩
          · simp at h
        · simp at h; subst h; exact ⟨kind_dat.2.1, g2⟩
        · simp at h; subst h; exact ⟨kind_dat.2.1, g3⟩
        · simp at h
          rcases h with rfl | rfl
          · exact ⟨kind_dat.2.1, g2⟩
          · exact ⟨kind_dat.2.1, g3⟩
    · simp at h; subst h; exact ⟨kind_dat.1, hl⟩
  | cell i k hi hN hk e =>
    have hx := cell_dat (good_getD M i _ (getD_mem hk))
    unfold cellF at e
    split at e
    · cases e; exact ⟨kind_dat.2.1, hx⟩
    · split at e
      · cases e; exact ⟨kind_dat.2.2.1, hx⟩
      · cases e
theorem fin_ok {count told : Int} {flat : List Int} {n : Nat} {k : Int} {cl : List (List Int)} (h : dueFin count told flat n = .ok (k, cl)) : k = count ∧ 0 ≤ count ∧ cl = (clOf flat).1 := by
  unfold dueFin finD at h
  split at h
  · cases h
  · rename_i hq
    cases h
    refine ⟨rfl, ?_, rfl⟩
    simp at hq
    exact hq.1
theorem fin_err {count told : Int} {flat : List Int} {n : Nat} {x : XV} (h : dueFin count told flat n = .error x) : x.kind = "unfinished_text" ∧ x.det = "" := by
  unfold dueFin finD at h
  split at h
  · cases h; exact ⟨rfl, rfl⟩
  · cases h
theorem due_small (M : Made rows lines) {k : Int} {cl : List (List Int)} (h : dueOk rows lines = .ok (k, cl)) : Small k cl := by
  obtain ⟨h1, h2, h3⟩ := fin_ok h
  have hk : k ∈ valsAll := by
    cases hq : headsOf rows rows.length with
    | nil =>
      rw [hq] at h2
      exact absurd h2 (by show ¬ (0 : Int) ≤ -1; decide)
    | cons h0 tl =>
      rw [hq] at h1 h2
      have h2 : 0 ≤ (headInfo (rows.getD h0 []) h0 (lines.getD h0 "")).2.1 := h2
      obtain ⟨x, hx, e⟩ := headInfo_val h2
      have := cell_vals x (good_getD M h0 x hx) _ e
      rw [h1]; exact this
  have hlen := V3_5 M (count := (hdOf rows lines (headsOf rows rows.length)).2.1) (h0 := (headsOf rows rows.length).headD 0) rows.length
  have hN := M.2.1
  have hv : ∀ v ∈ V3 (hdOf rows lines (headsOf rows rows.length)).2.1 ((headsOf rows rows.length).headD 0) rows rows.length, v ∈ valsAll ∧ iabs v ≤ k := fun v hv => by
    obtain ⟨i, j, hj, e⟩ := mem_V3 hv
    have hx := good_getD M i _ (getD_mem hj)
    generalize (rows.getD i []).getD j ("", none) = x at e hx
    unfold cellV at e
    split at e
    · cases e
    · rename_i w hw
      split at e
      · cases e
      · rename_i hq
        cases e
        refine ⟨cell_vals x hx v hw, ?_⟩
        simp at hq
        rw [h1]; omega
  have inv := cl_inv (V3 (hdOf rows lines (headsOf rows rows.length)).2.1 ((headsOf rows rows.length).headD 0) rows rows.length) _ ([], []) 0 (fun v hv => hv) (fun x hx => nomatch hx) ⟨Nat.le_refl _, fun v hv => nomatch hv⟩ (Nat.le_refl _)
  have e : cl = (clOf (V3 (hdOf rows lines (headsOf rows rows.length)).2.1 ((headsOf rows rows.length).headD 0) rows rows.length)).1 := h3
  unfold clOf at e
  rw [← e] at inv
  refine ⟨hk, by rw [h1]; exact h2, by have := inv.2; omega, fun l hl => ?_⟩
  have hx := inv.1 l hl
  exact ⟨by omega, fun v hv' => ⟨(hv v (hx.2 v hv').1).1, (hx.2 v hv').2, (hv v (hx.2 v hv').1).2⟩⟩
theorem res_dat (M : Made rows lines) {r : Except XV (Int × List (List Int))} (h : dueRes (dueF rows lines) (dueOk rows lines) r) : (resAV r).dat = true ∧ (pd (resAV r)).depth ≤ 1000 := by
  by_cases hF : dueF rows lines = []
  · have e := h.1 hF
    cases r with
    | ok nc => exact res_ok_dat nc.1 nc.2
    | error x =>
      obtain ⟨e1, e2⟩ := fin_err (show dueFin _ _ _ _ = .error x from e.symm)
      exact res_err_dat (by rw [e1]; exact kind_dat.2.2.2.1) (by rw [e2]; exact kind_dat.2.2.2.2)
  · obtain ⟨x, x1, _, x3⟩ := h.2 hF
    have := InF.dat M (in_F.mp (show x ∈ dueG rows lines (headsOf rows rows.length) from x1))
    rw [x3]
    exact res_err_dat this.1 this.2
end
theorem plain_law : PlainLaw := fun rows lines M => by
  have hr2 := made_100 M
  refine ⟨due_nodup hr2, fun f hf => (in_F.mp (show f ∈ dueG rows lines (headsOf rows rows.length) from hf)).k hr2, made_joinOk M, made_rdok M, fun r hr => ?_⟩
  have hd := res_dat M hr
  refine ⟨by rw [made_split M, ansAV_res, due_read M r hr], hd.1, hd.2, fun n cl e => ?_⟩
  have hS : Small n cl := by
    by_cases hF : dueF rows lines = []
    · exact due_small M ((hr.1 hF).symm.trans e)
    · obtain ⟨x, _, _, x3⟩ := hr.2 hF
      rw [x3] at e; cases e
  have h1 := dim_small hS
  have h2 := dim_join hS
  exact ⟨h1.1, h1.2.1, h1.2.2, h2.1, h2.2, dim_rdok hS, dim_ans hS⟩
end

section
open PySem PySem.W PySem.Calls PySem.Spec PyProof.Rows
open Builtin.Str
section
variable {B : Bs} {c : Cx} {n : Nat} {X : PX} {Q : PQ}
theorem seqof_lst {a : AS} {l m : List AV} (h : m = l) : SeqOf a (.lst l) m := by subst h; exact .lst _
set_option maxHeartbeats 4000000 in
theorem law16 (PL : PlainLaw) (W : Wd B) (G : At c n 14) (hn : n ≤ 10) {cells : List Int} (hc : ∀ z ∈ cells, 0 ≤ z ∧ z < 10 ^ 60) (hl : cells.length ≤ 40) {P R : Addr} (p : Pot cells.length) {s : Nat}
    {rows : List (List Cell)} (m1 : 0 < rows.length) (m2 : rows.length ≤ 6) (m3 : ∀ r ∈ rows, GoodRow r) :
    EXs B c ((bodyOf 14).drop 16) ⟨[("cells", .lst (cells.map .int)), ("pot", .ref P), ("odd", .lst (odds.map cellAV)), ("rows", .ref R), ("spoil", .int s)], [(R, rows.map rowAV), (P, p.av)]⟩ (fun f _ => f = .ret (.bool true)) (fun _ _ => False) := by
  have ok := G.ok
  have hk := G.kinds
  have hh := G.fn.handled
  have fn := G.fn
  refine exs_open ?_
  walk_at "st"
  case k3 =>
    intro _
    refine exs_nil (seq_next ?_)
    exact EXs.weaken (@law17 _ _ _ PL W G hn cells hc hl P R p rows m1 m2 m3) (by walk_at "sub") (.refl _)
  case k2 =>
    intro _
    cases rows with
    | nil => simp at m1
    | cons row rest =>
    have hrl : rest.length ≤ 5 := by simpa using m2
    walk_at "st"
    repeat walk_at "w0"
    refine tm_pop_first ok .head (by simp; omega) ?_
    have h24 : (rest.map rowAV).length < 2 ^ 24 := by simp; omega
    repeat walk_at "w0"
    refine exs_nil (seq_next ?_)
    have e : rest.map rowAV ++ [rowAV row] = (rest ++ [row]).map rowAV := by simp
    dsimp only
    rw [e]
    exact EXs.weaken (@law17 _ _ _ PL W G hn cells hc hl P R p (rest ++ [row]) (by simp) (by simp; omega) (fun r hr => m3 r (by simp at hr ⊢; exact hr.symm))) (by walk_at "sub") (.refl _)

set_option maxHeartbeats 4000000 in
theorem law15 (PL : PlainLaw) (W : Wd B) (G : At c n 14) (hn : n ≤ 10) {cells : List Int} (hc : ∀ z ∈ cells, 0 ≤ z ∧ z < 10 ^ 60) (hl : cells.length ≤ 40) {P R : Addr} (p : Pot cells.length) {s : Nat}
    {rows : List (List Cell)} {hd : List Cell} (m1 : 0 < rows.length) (m2 : rows.length ≤ 5) (m3 : ∀ r ∈ rows, GoodRow r) (hg : GoodRow hd) :
    EXs B c ((bodyOf 14).drop 15) ⟨[("cells", .lst (cells.map .int)), ("pot", .ref P), ("odd", .lst (odds.map cellAV)), ("rows", .ref R), ("head", .lst (hd.map cellAV)), ("spoil", .int s)], [(R, rows.map rowAV), (P, p.av)]⟩ (fun f _ => f = .ret (.bool true)) (fun _ _ => False) := by
  have ok := G.ok
  have hk := G.kinds
  have hh := G.fn.handled
  have fn := G.fn
  have g_len := W.g_len
  have g_list := W.g_list
  have F8 := W.F8
  refine exs_open ?_
  walk_at "st"
  case k3 =>
    intro _
    refine exs_nil (seq_next ?_)
    exact EXs.weaken (@law16 _ _ _ PL W G hn cells hc hl P R p s rows m1 (by omega) m3) (by walk_at "sub") (.refl _)
  case k2 =>
    intro _
    repeat walk_at "w1"
    rw [List.length_map]
    refine tc_p1 W G.toGood (by omega) hc hl p (by omega) (by omega) fun d p2 hd2 => ?_
    walk_at "evs"
    refine EV.frz ok ?_
    repeat walk_at "w0"
    refine tc_list_lst (by have := hg.1; simp; omega) fun y => ?_
    refine ⟨_, _, _, _, rfl, .out, .refl, ?_⟩
    repeat walk_at "w1"
    refine tm_insert (st' := [(R, (rows.map rowAV).take d ++ .lst (hd.map cellAV) :: (rows.map rowAV).drop d), (P, p2.av)]) ok .head (by simp; omega) (by omega) (by simp; omega) ?_
    repeat walk_at "w0"
    refine exs_nil (seq_next ?_)
    have e : (rows.map rowAV).take d ++ .lst (hd.map cellAV) :: (rows.map rowAV).drop d = (rows.take d ++ hd :: rows.drop d).map rowAV := by simp [rowAV]
    dsimp only
    rw [e]
    refine EXs.weaken (@law16 _ _ _ PL W G hn cells hc hl P R p2 s (rows.take d ++ hd :: rows.drop d) (by simp; omega) (by simp; omega) (fun r hr => ?_)) (by walk_at "sub") (.refl _)
    rcases List.mem_append.mp hr with hr | hr
    · exact m3 r (List.mem_of_mem_take hr)
    · rcases List.mem_cons.mp hr with rfl | hr
      · exact hg
      · exact m3 r (List.mem_of_mem_drop hr)

set_option maxHeartbeats 4000000 in
theorem law14 (PL : PlainLaw) (W : Wd B) (G : At c n 14) (hn : n ≤ 10) {cells : List Int} (hc : ∀ z ∈ cells, 0 ≤ z ∧ z < 10 ^ 60) (hl : cells.length ≤ 40) {P R : Addr} (p : Pot cells.length) {s : Nat}
    {rows : List (List Cell)} {hd : List Cell} (m1 : 0 < rows.length) (m2 : rows.length ≤ 4) (m3 : ∀ r ∈ rows, GoodRow r) (hg : GoodRow hd) :
    EXs B c ((bodyOf 14).drop 14) ⟨[("cells", .lst (cells.map .int)), ("pot", .ref P), ("odd", .lst (odds.map cellAV)), ("rows", .ref R), ("head", .lst (hd.map cellAV)), ("spoil", .int s)], [(R, rows.map rowAV), (P, p.av)]⟩ (fun f _ => f = .ret (.bool true)) (fun _ _ => False) := by
  have ok := G.ok
  have hk := G.kinds
  have hh := G.fn.handled
  have fn := G.fn
  refine exs_open ?_
  walk_at "st"
  case k3 =>
    intro _
    refine exs_nil (seq_next ?_)
    exact @law15 _ _ _ PL W G hn cells hc hl P R p s rows hd m1 (by omega) m3 hg
  case k2 =>
    intro _
    walk_at "st"
    repeat walk_at "w0"
    refine tm_insert (st' := [(R, .lst (hd.map cellAV) :: rows.map rowAV), (P, p.av)]) ok .head (by simp; omega) (by omega) (by omega) ?_
    repeat walk_at "w0"
    refine exs_nil (seq_next ?_)
    have e : .lst (hd.map cellAV) :: rows.map rowAV = (hd :: rows).map rowAV := by simp [rowAV]
    dsimp only
    rw [e]
    refine @law15 _ _ _ PL W G hn cells hc hl P R p s (hd :: rows) hd (by simp) (by simp; omega) (fun r hr => ?_) hg
    rcases List.mem_cons.mp hr with rfl | hr
    · exact hg
    · exact m3 r hr
end
end

section
open PySem PySem.W PySem.Calls PySem.Spec PyProof.Rows
open Builtin.Str
noncomputable def headCells (top ends : Int) : List Cell := [("p", none), ("cnf", none), (showI top, some top), (showI ends, some ends)]
theorem small1920 {i : Int} (h1 : -100 ≤ i) (h2 : i ≤ 100) : i.natAbs.log2 < 1920 := by
  by_cases h0 : i.natAbs = 0
  · rw [h0]; decide +kernel
  · exact Nat.lt_trans ((Nat.log2_lt h0).mpr (show i.natAbs < 2 ^ 8 by omega)) (by decide)
theorem ends_all : ∀ d ∈ List.range 6, ([0, 0, 0, 0, 1, -1] : List Int)[d]? = some (([0, 0, 0, 0, 1, -1] : List Int).getD d 0) ∧ -1 ≤ ([0, 0, 0, 0, 1, -1] : List Int).getD d 0 ∧ ([0, 0, 0, 0, 1, -1] : List Int).getD d 0 ≤ 1 := by decide +kernel
theorem ends_at (d : Nat) (hd : d < 6) : ∃ v : Int, ([0, 0, 0, 0, 1, -1] : List Int)[d]? = some v ∧ -1 ≤ v ∧ v ≤ 1 := ⟨_, ends_all d (List.mem_range.mpr hd)⟩


section
variable {B : Bs} {c : Cx} {n : Nat} {X : PX} {Q : PQ}
set_option maxHeartbeats 4000000 in
theorem law13 (PL : PlainLaw) (W : Wd B) (G : At c n 14) (hn : n ≤ 10) {cells : List Int} (hc : ∀ z ∈ cells, 0 ≤ z ∧ z < 10 ^ 60) (hl : cells.length ≤ 40) {P R Hd : Addr} (p : Pot cells.length) {s : Nat}
    {rows : List (List Cell)} {hd : List Cell} (m1 : 0 < rows.length) (m2 : rows.length ≤ 4) (m3 : ∀ r ∈ rows, GoodRow r) (h1 : hd.length ≤ 4) (h2 : ∀ x ∈ hd, x ∈ allCells) :
    EXs B c ((bodyOf 14).drop 13) ⟨[("cells", .lst (cells.map .int)), ("pot", .ref P), ("odd", .lst (odds.map cellAV)), ("rows", .ref R), ("head", .ref Hd), ("spoil", .int s)], [(Hd, hd.map cellAV), (R, rows.map rowAV), (P, p.av)]⟩ (fun f _ => f = .ret (.bool true)) (fun _ _ => False) := by
  have ok := G.ok
  have hk := G.kinds
  have hh := G.fn.handled
  have fn := G.fn
  refine exs_open ?_
  walk_at "st"
  case k3 =>
    intro _
    refine exs_nil (seq_next ?_)
    refine EXs.frz ok .out (.keep (.keep (.keep (.keep (.hit (.keep .nil)))))) ?_
    exact @law14 _ _ _ PL W G hn cells hc hl P R p s rows hd m1 m2 m3 ⟨by omega, h2⟩
  case k2 =>
    intro _
    have h24 : (hd.map cellAV).length < 2 ^ 24 := by simp; omega
    walk_at "st"
    repeat walk_at "w0"
    refine exs_nil (seq_next ?_)
    refine EXs.frz ok .out (.keep (.keep (.keep (.keep (.hit (.keep .nil)))))) ?_
    have e : hd.map cellAV ++ [.tup [.str "1", .int 1]] = (hd ++ ([("1", some 1)] : List Cell)).map cellAV := by simp [cellAV, optAV]
    rw [e]
    refine @law14 _ _ _ PL W G hn cells hc hl P R p s rows (hd ++ ([("1", some 1)] : List Cell)) m1 m2 m3 ⟨by simp; omega, fun x hx => ?_⟩
    rcases List.mem_append.mp hx with hx | hx
    · exact h2 x hx
    · rw [List.mem_singleton.mp hx]; exact one_in

set_option maxHeartbeats 4000000 in
theorem law12 (PL : PlainLaw) (W : Wd B) (G : At c n 14) (hn : n ≤ 10) {cells : List Int} (hc : ∀ z ∈ cells, 0 ≤ z ∧ z < 10 ^ 60) (hl : cells.length ≤ 40) {P R Hd : Addr} (p : Pot cells.length) {s : Nat}
    {rows : List (List Cell)} {hd : List Cell} (m1 : 0 < rows.length) (m2 : rows.length ≤ 4) (m3 : ∀ r ∈ rows, GoodRow r) (h1 : hd.length = 4) (h2 : ∀ x ∈ hd, x ∈ allCells) :
    EXs B c ((bodyOf 14).drop 12) ⟨[("cells", .lst (cells.map .int)), ("pot", .ref P), ("odd", .lst (odds.map cellAV)), ("rows", .ref R), ("head", .ref Hd), ("spoil", .int s)], [(Hd, hd.map cellAV), (R, rows.map rowAV), (P, p.av)]⟩ (fun f _ => f = .ret (.bool true)) (fun _ _ => False) := by
  have ok := G.ok
  have hk := G.kinds
  have hh := G.fn.handled
  have fn := G.fn
  refine exs_open ?_
  walk_at "st"
  case k3 =>
    intro _
    refine exs_nil (seq_next ?_)
    exact @law13 _ _ _ PL W G hn cells hc hl P R Hd p s rows hd m1 m2 m3 (by omega) h2
  case k2 =>
    intro _
    obtain ⟨hd', x, rfl⟩ : ∃ l x, hd = l ++ [x] := ⟨hd.dropLast, hd.getLast (by intro z; rw [z] at h1; cases h1), (List.dropLast_concat_getLast _).symm⟩
    have h1' : hd'.length = 3 := by simpa using h1
    walk_at "st"
    repeat walk_at "w0"
    rw [List.map_append]
    refine tm_pop_last ok .head (by simp; omega) ?_
    repeat walk_at "w0"
    refine exs_nil (seq_next ?_)
    exact @law13 _ _ _ PL W G hn cells hc hl P R Hd p s rows hd' m1 m2 m3 (by omega) (fun x hx => h2 x (List.mem_append_left _ hx))

set_option maxHeartbeats 4000000 in
theorem law11 (PL : PlainLaw) (W : Wd B) (G : At c n 14) (hn : n ≤ 10) {cells : List Int} (hc : ∀ z ∈ cells, 0 ≤ z ∧ z < 10 ^ 60) (hl : cells.length ≤ 40) {P R Hd : Addr} (p : Pot cells.length) {s : Nat}
    {rows : List (List Cell)} {hd : List Cell} (m1 : 0 < rows.length) (m2 : rows.length ≤ 4) (m3 : ∀ r ∈ rows, GoodRow r) (h1 : hd.length = 4) (h2 : ∀ x ∈ hd, x ∈ allCells) :
    EXs B c ((bodyOf 14).drop 11) ⟨[("cells", .lst (cells.map .int)), ("pot", .ref P), ("odd", .lst (odds.map cellAV)), ("rows", .ref R), ("head", .ref Hd), ("spoil", .int s)], [(Hd, hd.map cellAV), (R, rows.map rowAV), (P, p.av)]⟩ (fun f _ => f = .ret (.bool true)) (fun _ _ => False) := by
  have ok := G.ok
  have hk := G.kinds
  have hh := G.fn.handled
  have fn := G.fn
  have g_len := W.g_len
  have F8 := W.F8
  refine exs_open ?_
  walk_at "st"
  case k3 =>
    intro _
    refine exs_nil (seq_next ?_)
    exact @law12 _ _ _ PL W G hn cells hc hl P R Hd p s rows hd m1 m2 m3 h1 h2
  case k2 =>
    intro e
    have hs4 : s < 4 := by have := of_decide_eq_true e; omega
    walk_at "st"
    repeat walk_at "w0"
    refine tc_p2 W G.toGood (by omega) hc hl p (by decide) (by decide) fun d p' hdl => ?_
    have hd14 : d < odds.length := by simpa using hdl
    obtain ⟨x, hx0⟩ : ∃ x, odds[d]? = some x := ⟨_, List.getElem?_eq_getElem hd14⟩
    have hx : (odds.map cellAV)[d]? = some (cellAV x) := by rw [List.getElem?_map, hx0]; rfl
    have hd24 : d < 2 ^ 24 := Nat.lt_trans hd14 (by decide)
    repeat walk_at "w0"
    refine ⟨_, _, _, _, rfl, rfl, by omega, by simp; omega, by simp; omega, .head, ?_⟩
    refine exs_nil (seq_next ?_)
    have e2 : (hd.map cellAV).set (Int.toNat (s : Int)) (cellAV x) = (hd.set s x).map cellAV := by simp [List.map_set]
    dsimp only
    rw [e2]
    refine @law12 _ _ _ PL W G hn cells hc hl P R Hd p' s rows (hd.set s x) m1 m2 m3 (by simpa using h1) (fun y hy => ?_)
    rcases List.mem_or_eq_of_mem_set hy with h | h
    · exact h2 y h
    · rw [h]; exact odd_in (List.mem_of_getElem? hx0)

set_option maxHeartbeats 4000000 in
theorem law8 (PL : PlainLaw) (W : Wd B) (G : At c n 14) (hn : n ≤ 10) {cells : List Int} (hc : ∀ z ∈ cells, 0 ≤ z ∧ z < 10 ^ 60) (hl : cells.length ≤ 40) {P R : Addr} (p : Pot cells.length) {top ends : Int} (ht : 0 ≤ top) (ht2 : top ≤ 3) (he : 0 ≤ ends) (he2 : ends ≤ 12)
    {rows : List (List Cell)} (m1 : 0 < rows.length) (m2 : rows.length ≤ 4) (m3 : ∀ r ∈ rows, GoodRow r) :
    EXs B c ((bodyOf 14).drop 8) ⟨[("cells", .lst (cells.map .int)), ("pot", .ref P), ("odd", .lst (odds.map cellAV)), ("top", .int top), ("ends", .int ends), ("rows", .ref R)], [(R, rows.map rowAV), (P, p.av)]⟩ (fun f _ => f = .ret (.bool true)) (fun _ _ => False) := by
  have ok := G.ok
  have hk := G.kinds
  have hh := G.fn.handled
  have fn := G.fn
  have g_str := W.g_str
  have F8 := W.F8
  refine exs_open ?_
  walk_at "st"
  repeat walk_at "w0"
  refine tc_p1 W G.toGood (by omega) hc hl p (by decide) (by decide) fun d p1 hd1 => ?_
  obtain ⟨v, hv, v1, v2⟩ := ends_at d (by omega)
  refine item_n (.tup _) (by omega) (e := .int v) (by show (([0, 0, 0, 0, 1, -1] : List Int).map AV.int)[d]? = _; rw [List.getElem?_map, hv]; rfl) ?_
  repeat walk_at "w0"
  generalize hev : ends + v = ends'
  have q1 : -1 ≤ ends' := by omega
  have q2 : ends' ≤ 13 := by omega
  walk_at "st"
  repeat walk_at "w0"
  refine tc_str_int (small1920 (by omega) (by omega)) ?_
  repeat walk_at "w0"
  refine tc_str_int (small1920 (by omega) (by omega)) ?_
  repeat walk_at "w0"
  rename_i Hd
  walk_at "st"
  repeat walk_at "w0"
  refine tc_p2 W G.toGood (by omega) hc hl p1 (by decide) (by decide) fun s p2 hs => ?_
  repeat walk_at "w0"
  refine EXs.weaken (@law11 _ _ _ PL W G hn cells hc hl P R Hd p2 s rows (headCells top ends') m1 m2 m3 rfl (fun x hx => ?_)) (by dsimp only; walk_at "sub") (.refl _)
  unfold headCells at hx
  simp only [List.mem_cons, List.not_mem_nil, or_false] at hx
  rcases hx with rfl | rfl | rfl | rfl
  · exact p_in
  · exact cnf_in
  · exact int_in (by omega) (by omega)
  · exact int_in (by omega) (by omega)
end
end

section
open PySem PySem.W PySem.Calls PySem.Spec PyProof.Rows
open Builtin.Str
section
variable {B : Bs} {c : Cx} {X : PX} {Q : PQ} {a : AS}
theorem ev_ifp {t b o : Expr} {pos : Pos} {p : Bool} (h : PureB B c t a p X) (h1 : p = true → EV B c b a Q X) (h2 : p = false → EV B c o a Q X) : EV B c (.IfExp t b o pos) a Q X :=
  ev_ifexp (EB.imp h fun b' a1 ⟨e1, e2⟩ => by subst e1 e2; exact ⟨h1, h2⟩)
end
theorem mod_bounds {d t : Int} (ht : 0 ≤ t) : -t ≤ d.fmod (2 * t + 1) - t ∧ d.fmod (2 * t + 1) - t ≤ t := by
  have h1 := Int.fmod_nonneg_of_pos d (show 0 < 2 * t + 1 by omega)
  have h2 := Int.fmod_lt_of_pos d (show 0 < 2 * t + 1 by omega)
  omega


section
variable {B : Bs} {c : Cx} {n : Nat} {X : PX} {Q : PQ}
set_option maxHeartbeats 4000000 in
theorem law7 (PL : PlainLaw) (W : Wd B) (G : At c n 14) (hn : n ≤ 10) {cells : List Int} (hc : ∀ z ∈ cells, 0 ≤ z ∧ z < 10 ^ 60) (hl : cells.length ≤ 40) {P R : Addr} (p : Pot cells.length) {top : Int} (ht : 0 ≤ top) (ht2 : top ≤ 3) :
    EXs B c ((bodyOf 14).drop 7) ⟨[("cells", .lst (cells.map .int)), ("pot", .ref P), ("odd", .lst (odds.map cellAV)), ("top", .int top), ("ends", .int 0), ("rows", .ref R)], [(R, []), (P, p.av)]⟩ (fun f _ => f = .ret (.bool true)) (fun _ _ => False) := by
  have ok := G.ok
  have hk := G.kinds
  have hh := G.fn.handled
  have fn := G.fn
  have g_str := W.g_str
  have g_len := W.g_len
  have g_int := W.g_int
  have g_range := W.g_range
  have F8 := W.F8
  refine exs_open ?_
  walk_at "st"
  repeat walk_at "w0"
  refine tc_p1 W G.toGood (by omega) hc hl p (by decide) (by decide) fun d p0 hd => ?_
  repeat walk_at "w0"
  refine ⟨_, Items.rng (n := 1 + d) (by omega) (by decide) (by decide) (by omega), ?_⟩
  refine loop_rng (fun i a => ∃ (rows : List (List Cell)) (ends : Int) (p : Pot cells.length), rows.length = i ∧ (∀ r ∈ rows, GoodRow r) ∧ 0 ≤ ends ∧ ends ≤ 3 * i ∧
    a = ⟨[("cells", .lst (cells.map .int)), ("pot", .ref P), ("odd", .lst (odds.map cellAV)), ("top", .int top), ("ends", .int ends), ("rows", .ref R)], [(R, rows.map rowAV), (P, p.av)]⟩)
    ⟨[], 0, p0, rfl, (fun r hr => nomatch hr), by decide, by decide, rfl⟩ ?_ ?_
  · rintro a ⟨rows, ends, p, h1, h2, h3, h4, rfl⟩
    refine seq_next ?_
    exact @law8 _ _ _ PL W G hn cells hc hl P R p top ends ht ht2 h3 (by omega) rows (by omega) (by omega) h2
  · rintro i a hi ⟨rows, ends, p, h1, h2, h3, h4, rfl⟩
    refine lset_c (by walk_at "lset") ?_
    walk_at "st"
    repeat walk_at "w0"
    rename_i Rw
    walk_at "st"
    repeat walk_at "w0"
    refine tc_p2 W G.toGood (by omega) hc hl p (by decide) (by decide) fun sort p1 hsort => ?_
    repeat walk_at "w0"
    refine exs_seq (EX.imp (Q := fun f a => f = .next ∧ ∃ row : List Cell, row.length ≤ 1 ∧ (∀ x ∈ row, x ∈ allCells) ∧
      a = ⟨[("cells", .lst (cells.map .int)), ("pot", .ref P), ("odd", .lst (odds.map cellAV)), ("top", .int top), ("ends", .int ends), ("rows", .ref R), ("row", .ref Rw), ("sort", .int sort)], [(Rw, row.map cellAV), (R, rows.map rowAV), (P, p1.av)]⟩) ?_ ?_)
    · refine ex_ifp (p := (sort : Int) == 1) (pb_compare ?c0) (fun _ => ?t0) (fun _ => ?f0)
      case c0 =>
        repeat walk_at "w0"
        exact ⟨rfl, rfl⟩
      case t0 =>
        walk_at "st"
        repeat walk_at "w0"
        refine nil_ws (lo' := [("cells", .lst (cells.map .int)), ("pot", .ref P), ("odd", .lst (odds.map cellAV)), ("top", .int top), ("ends", .int ends), ("rows", .ref R), ("row", .ref Rw), ("sort", .int sort)]) (by dsimp only; walk_at "sub") (.refl _) ⟨rfl, [("c", none)], by simp, ?_, rfl⟩
        intro x hx
        rw [List.mem_singleton.mp hx]; exact c_in
      case f0 =>
        refine nil_ws (lo' := [("cells", .lst (cells.map .int)), ("pot", .ref P), ("odd", .lst (odds.map cellAV)), ("top", .int top), ("ends", .int ends), ("rows", .ref R), ("row", .ref Rw), ("sort", .int sort)]) (by walk_at "sub") (.refl _) ⟨rfl, [], by simp, (fun x hx => nomatch hx), rfl⟩
    · rintro f a ⟨rfl, row, r1, r2, rfl⟩
      refine seq_next ?_
      refine exs_seq (EX.imp (Q := fun f a => f = .next ∧ ∃ (row : List Cell) (ends' : Int) (p : Pot cells.length), row.length ≤ 4 ∧ (∀ x ∈ row, x ∈ allCells) ∧ 0 ≤ ends' ∧ ends' ≤ ends + 3 ∧
        a = ⟨[("cells", .lst (cells.map .int)), ("pot", .ref P), ("odd", .lst (odds.map cellAV)), ("top", .int top), ("ends", .int ends'), ("rows", .ref R), ("row", .ref Rw)], [(Rw, row.map cellAV), (R, rows.map rowAV), (P, p.av)]⟩) ?_ ?_)
      · refine ex_ifp (p := decide (0 < (sort : Int))) (pb_compare ?c1) (fun _ => ?t1) (fun _ => ?f1)
        case c1 =>
          repeat walk_at "w0"
          exact ⟨rfl, rfl⟩
        case f1 =>
          refine nil_ws (lo' := [("cells", .lst (cells.map .int)), ("pot", .ref P), ("odd", .lst (odds.map cellAV)), ("top", .int top), ("ends", .int ends), ("rows", .ref R), ("row", .ref Rw)]) (by walk_at "sub") (.refl _) ⟨rfl, row, ends, p1, by omega, r2, h3, by omega, rfl⟩
        case t1 =>
          walk_at "st"
          repeat walk_at "w0"
          refine tc_p2 W G.toGood (by omega) hc hl p1 (by decide) (by decide) fun d2 p2 hd2 => ?_
          repeat walk_at "w0"
          refine ⟨_, Items.rng (n := 1 + d2) (by omega) (by decide) (by decide) (by omega), ?_⟩
          refine loop_rng (fun j a => ∃ (row : List Cell) (ends' : Int) (p : Pot cells.length), row.length ≤ 1 + j ∧ (∀ x ∈ row, x ∈ allCells) ∧ 0 ≤ ends' ∧ ends' ≤ ends + j ∧
            a = ⟨[("cells", .lst (cells.map .int)), ("pot", .ref P), ("odd", .lst (odds.map cellAV)), ("top", .int top), ("ends", .int ends'), ("rows", .ref R), ("row", .ref Rw), ("sort", .int sort)], [(Rw, row.map cellAV), (R, rows.map rowAV), (P, p.av)]⟩)
            ⟨row, ends, p2, by omega, r2, h3, by omega, rfl⟩ ?_ ?_
          · rintro a ⟨row, ends', p, q1, q2, q3, q4, rfl⟩
            refine seq_next (nil_ws (lo' := [("cells", .lst (cells.map .int)), ("pot", .ref P), ("odd", .lst (odds.map cellAV)), ("top", .int top), ("ends", .int ends'), ("rows", .ref R), ("row", .ref Rw)]) (by walk_at "sub") (.refl _) ⟨rfl, row, ends', p, by omega, q2, q3, by omega, rfl⟩)
          · rintro j a hj ⟨row, ends', p, q1, q2, q3, q4, rfl⟩
            refine lset_c (by walk_at "lset") ?_
            have hr24 : (row.map cellAV).length < 2 ^ 24 := by simp; omega
            walk_at "st"
            repeat walk_at "w0"
            refine tc_p2 W G.toGood (by omega) hc hl p (by decide) (by decide) fun draw p3 hdraw => ?_
            repeat walk_at "w0"
            refine s_ifp (p := (draw : Int) == 11) (pb_compare ?c2) (fun _ => ?t2) (fun _ => ?f2)
            case c2 =>
              repeat walk_at "w0"
              exact ⟨rfl, rfl⟩
            case t2 =>
              walk_at "st"
              repeat walk_at "w0"
              refine tc_p2 W G.toGood (by omega) hc hl p3 (by decide) (by decide) fun d p' hdl => ?_
              have hd14 : d < odds.length := by simpa using hdl
              obtain ⟨x, hx0⟩ : ∃ x, odds[d]? = some x := ⟨_, List.getElem?_eq_getElem hd14⟩
              have hx : (odds.map cellAV)[d]? = some (cellAV x) := by rw [List.getElem?_map, hx0]; rfl
              have hd24 : d < 2 ^ 24 := Nat.lt_trans hd14 (by decide)
              repeat walk_at "w0"
              refine exs_nil (seq_next ?_)
              refine nil_ws (lo' := [("cells", .lst (cells.map .int)), ("pot", .ref P), ("odd", .lst (odds.map cellAV)), ("top", .int top), ("ends", .int ends'), ("rows", .ref R), ("row", .ref Rw), ("sort", .int sort)]) (by dsimp only; walk_at "sub") (.refl _) ⟨row ++ [x], ends', p', by simp; omega, ?_, q3, by omega, by simp⟩
              intro y hy
              rcases List.mem_append.mp hy with hy | hy
              · exact q2 y hy
              · rw [List.mem_singleton.mp hy]; exact odd_in (List.mem_of_getElem? hx0)
            case f2 =>
              refine s_assign ok hk (by decide +kernel) (EV.imp (Q := fun d a => ∃ v : Int, -top ≤ v ∧ v ≤ top ∧ d = .int v ∧ a = ⟨[("cells", .lst (cells.map .int)), ("pot", .ref P), ("odd", .lst (odds.map cellAV)), ("top", .int top), ("ends", .int ends'), ("rows", .ref R), ("row", .ref Rw), ("sort", .int sort), ("place_in_row", .int j), ("draw", .int draw)], [(Rw, row.map cellAV), (R, rows.map rowAV), (P, p3.av)]⟩) ?_ ?_) swaps_ifexp
              · refine ev_ifp (p := decide ((draw : Int) < 4)) (pb_compare ?c3) (fun _ => ?t3) (fun _ => ?f3)
                case c3 =>
                  repeat walk_at "w0"
                  exact ⟨rfl, rfl⟩
                case t3 =>
                  repeat walk_at "w0"
                  exact ⟨0, by omega, by omega, rfl, rfl⟩
                case f3 =>
                  repeat walk_at "w0"
                  refine t2_mod_int (by omega) ?_
                  repeat walk_at "w0"
                  obtain ⟨b1, b2⟩ := mod_bounds (d := (draw : Int)) ht
                  exact ⟨_, b1, b2, rfl, rfl⟩
              · rintro dv a ⟨v, v1, v2, rfl, rfl⟩
                refine lset_c (by walk_at "lset") ?_
                walk_at "st"
                repeat walk_at "w0"
                refine tc_str_int (small1920 (by omega) (by omega)) ?_
                repeat walk_at "w0"
                dsimp only
                have e9 : row.map cellAV ++ [AV.tup [.str (Str.ofString (toString v)), .int v]] = (row ++ [((showI v, some v) : Cell)]).map cellAV := by rw [List.map_append]; rfl
                rw [e9]
                refine s_aug (d0 := .int ends') (lo := [("cells", .lst (cells.map .int)), ("pot", .ref P), ("odd", .lst (odds.map cellAV)), ("top", .int top), ("ends", .int ends'), ("rows", .ref R), ("row", .ref Rw), ("sort", .int sort), ("place_in_row", .int j), ("draw", .int draw), ("value", .int v)]) (st := [(Rw, (row ++ [((showI v, some v) : Cell)]).map cellAV), (R, rows.map rowAV), (P, p3.av)]) ok hk ?hx ?hm (EV.imp (Q := fun d a => ∃ w : Int, 0 ≤ w ∧ w ≤ 1 ∧ d = .int w ∧ a = ⟨[("cells", .lst (cells.map .int)), ("pot", .ref P), ("odd", .lst (odds.map cellAV)), ("top", .int top), ("ends", .int ends'), ("rows", .ref R), ("row", .ref Rw), ("sort", .int sort), ("place_in_row", .int j), ("draw", .int draw), ("value", .int v)], [(Rw, (row ++ [((showI v, some v) : Cell)]).map cellAV), (R, rows.map rowAV), (P, p3.av)]⟩) ?_ ?_)
                case hx => decide +kernel
                case hm => walk_at "mem"
                · refine ev_ifp (p := (v == 0) && (decide (1 < (sort : Int)) && true)) (pb_and (p := v == 0) (pb_compare ?c4) fun _ => pb_and (p := decide (1 < (sort : Int))) (pb_compare ?c5) fun _ => pb_and_nil) (fun _ => ?t4) (fun _ => ?f4)
                  case c4 =>
                    repeat walk_at "w0"
                    exact ⟨rfl, rfl⟩
                  case c5 =>
                    repeat walk_at "w0"
                    exact ⟨rfl, rfl⟩
                  case t4 =>
                    repeat walk_at "w0"
                    exact ⟨1, by decide, by decide, rfl, rfl⟩
                  case f4 =>
                    repeat walk_at "w0"
                    exact ⟨0, by decide, by decide, rfl, rfl⟩
                · rintro dv a ⟨w, w1, w2, rfl, rfl⟩
                  repeat walk_at "w0"
                  refine exs_nil (seq_next ?_)
                  refine nil_ws (lo' := [("cells", .lst (cells.map .int)), ("pot", .ref P), ("odd", .lst (odds.map cellAV)), ("top", .int top), ("ends", .int (ends' + w)), ("rows", .ref R), ("row", .ref Rw), ("sort", .int sort)]) (by walk_at "sub") (.refl _) ⟨row ++ [(showI v, some v)], ends' + w, p3, by simp; omega, ?_, by omega, by omega, rfl⟩
                  intro y hy
                  rcases List.mem_append.mp hy with hy | hy
                  · exact q2 y hy
                  · rw [List.mem_singleton.mp hy]; exact int_in (by omega) (by omega)
      · rintro f a ⟨rfl, row, ends', p, q1, q2, q3, q4, rfl⟩
        refine seq_next ?_
        refine EXs.frz ok .out (.keep (.keep (.keep (.keep (.keep (.keep (.hit .nil))))))) ?_
        have hr24 : (rows.map rowAV).length < 2 ^ 24 := by simp; omega
        walk_at "st"
        repeat walk_at "w0"
        refine nil_ws (lo' := [("cells", .lst (cells.map .int)), ("pot", .ref P), ("odd", .lst (odds.map cellAV)), ("top", .int top), ("ends", .int ends'), ("rows", .ref R)]) (by dsimp only; walk_at "sub") (.refl _) ⟨rows ++ [row], ends', p, by simp; omega, ?_, q3, by omega, by simp [rowAV]⟩
        intro r hr
        rcases List.mem_append.mp hr with hr | hr
        · exact h2 r hr
        · rw [List.mem_singleton.mp hr]; exact ⟨by omega, q2⟩
end
end

section
open PySem PySem.W PySem.Calls PySem.Spec PyProof.Rows
open Builtin.Str
noncomputable def modF : AV → AV
  | .int i => .int (i.fmod (10 ^ 60))
  | d => d
noncomputable def cellsOf (ns : List Int) : List Int := (ns.take 40).map fun i => i.fmod (10 ^ 60)
theorem modF_map (ns : List Int) : ((ns.map AV.int).take 40).map modF = (cellsOf ns).map AV.int := by
  unfold cellsOf; rw [← List.map_take, List.map_map, List.map_map]; rfl
theorem cells_ok (ns : List Int) : ∀ z ∈ cellsOf ns, 0 ≤ z ∧ z < 10 ^ 60 := by
  intro z hz
  obtain ⟨i, _, rfl⟩ := List.mem_map.mp hz
  exact ⟨Int.fmod_nonneg_of_pos i (by decide), Int.fmod_lt_of_pos i (by decide)⟩
theorem cells_len (ns : List Int) : (cellsOf ns).length ≤ 40 := by unfold cellsOf; simp; omega
noncomputable def Pot.init (n : Nat) : Pot n := ⟨0, 0, 1, by omega, by decide, by decide, by decide, by decide⟩


section
variable {B : Bs} {c : Cx} {n : Nat} {X : PX} {Q : PQ}
set_option maxHeartbeats 4000000 in
theorem law0 (PL : PlainLaw) (W : Wd B) (G : At c n 14) (hn : n ≤ 10) {ns : List Int} (hns : ns.length ≤ 63) : EXs B c (bodyOf 14) ⟨[("script", .lst (ns.map .int))], []⟩ (fun f _ => f = .ret (.bool true)) (fun _ _ => False) := by
  have ok := G.ok
  have hk := G.kinds
  have hh := G.fn.handled
  have fn := G.fn
  have g_int := W.g_int
  have g_list := W.g_list
  have F8 := W.F8
  have F9 := W.F9
  have F13 := W.F13
  have hc := cells_ok ns
  have hl := cells_len ns
  refine exs_seq ?_
  refine ex_assign_listcomp ok hh (by decide +kernel) (by decide +kernel) rfl (by decide +kernel) hk (by decide +kernel) ?hsw ?h
  case hsw =>
    have h1 : c.env.kindOf "cells" = some .local := hk ("cells", .local) (by decide +kernel)
    have h2 : c.env.blockKind = .function := by unfold Env.blockKind; rw [ok.kind]; rfl
    unfold swapsWith
    dsimp only
    rw [h1, h2]
    rfl
  case h =>
    refine EV.frz ok ?_
    repeat walk_at "w0"
    refine tc_list_lst (by simp; omega) fun y => ?_
    repeat walk_at "w0"
    refine ⟨40, _, rfl, .ref (by walk_at "mem"), (by intro l z; cases z), by simp; omega, fun y => ?_⟩
    refine ⟨_, _, _, _, rfl, .out, .refl, ?_⟩
    refine ⟨_, modF, Items.lst _, by simp; omega, ?_, fun D => ?_⟩
    · intro cc cx sto' d hd
      obtain ⟨i, _, rfl⟩ := List.mem_map.mp (List.mem_of_mem_take hd)
      have hkk : cc.Kinds [(".0", .local), ("cell", .local), ("int", .globalImplicit)] := fun p hp => by
        unfold Env.kindOf
        rw [cx.scope]
        simp only [List.mem_cons, List.not_mem_nil, or_false] at hp
        rcases hp with rfl | rfl | rfl <;> decide +kernel
      have ok := cx.ok
      refine ⟨[("cell", .int i)], ta_name cx.ok hkk (by decide) .nil, ?_⟩
      repeat walk_at "w0"
      refine t2_mod_int (by decide) ?_
      exact ⟨rfl, rfl⟩
    · rw [modF_map]
      generalize cellsOf ns = cells at hc hl
      dsimp only
      refine lset_s (by walk_at "lset") ?_
      refine seq_next ?_
      refine EXs.weaken (a' := ⟨[("cells", .ref D)], [(D, cells.map .int)]⟩) ?_ (by dsimp only; walk_at "sub") (.cons_cons _ (List.nil_sublist _))
      refine EXs.frz ok .out (.hit .nil) ?_
      walk_at "st"
      repeat walk_at "w0"
      rename_i P
      refine s_ifp (p := !true) (pb_not (pb_plain ?c1)) (fun e => nomatch e) (fun _ => exs_nil (seq_next ?_))
      case c1 =>
        repeat walk_at "w0"
        refine tc_fix W G.toGood (by omega) ?_
        repeat walk_at "w0"
        exact ⟨rfl, rfl⟩
      walk_at "st"
      repeat walk_at "w0"
      refine tc_odd W G.toGood (by omega) ?_
      repeat walk_at "w0"
      walk_at "st"
      repeat walk_at "w0"
      refine tc_p0 W G.toGood (by omega) hc hl (Pot.init _) (by decide) (by decide) fun d p0 hd => ?_
      repeat walk_at "w0"
      walk_at "st"
      repeat walk_at "w0"
      walk_at "st"
      repeat walk_at "w0"
      rename_i R
      exact @law7 _ _ _ PL W G hn cells hc hl P R p0 d (by omega) (by omega)
end
end

end Mine

namespace Mine
open PySem PySem.W PySem.Calls PySem.Spec PyProof.Rows
noncomputable def paramsOf (i : Nat) : Arguments := match nthS PySem.Challenge.pw_sj0025_01.main.body i with
  | some (.FunctionDef (args := b) ..) => b
  | _ => default
noncomputable def initDef : Stmt := match nthS PySem.Challenge.pw_sj0025_01.main.body 1 with
  | some (.ClassDef (body := f :: _) ..) => f
  | _ => .Pass ⟨0, 0, 0, 0⟩
noncomputable def initParams : Arguments := match initDef with
  | .FunctionDef (args := b) .. => b
  | _ => default
noncomputable def initBody : List Stmt := match initDef with
  | .FunctionDef (body := b) .. => b
  | _ => []
noncomputable def initScope : Scope := match initDef with
  | .FunctionDef (scope := b) .. => b
  | _ => { kind := .module, names := [], isGenerator := false, isCoroutine := false }
noncomputable def KH (P : Params) : Frag :=
  [(3, { cls := Value.type "dict", data := Data.dict #[{ hash := PyData.keyHash P (Str.ofString "__name__"), key := Value.str (Str.ofString "__name__") 165, val := Value.str (Str.ofString "law_sj0025_01") 275 }, { hash := PyData.keyHash P (Str.ofString "__doc__"), key := Value.str (Str.ofString "__doc__") 166, val := Value.none }, { hash := PyData.keyHash P (Str.ofString "__package__"), key := Value.str (Str.ofString "__package__") 167, val := Value.none }, { hash := PyData.keyHash P (Str.ofString "__loader__"), key := Value.str (Str.ofString "__loader__") 168, val := Value.builtin "__main__.__loader__#opaque" }, { hash := PyData.keyHash P (Str.ofString "__spec__"), key := Value.str (Str.ofString "__spec__") 169, val := Value.none }, { hash := PyData.keyHash P (Str.ofString "__annotations__"), key := Value.str (Str.ofString "__annotations__") 170, val := Value.ref 6 }, { hash := PyData.keyHash P (Str.ofString "__builtins__"), key := Value.str (Str.ofString "__builtins__") 171, val := Value.ref 4 }, { hash := PyData.keyHash P (Str.ofString "__file__"), key := Value.str (Str.ofString "__file__") 173, val := Value.str (Str.ofString "/claim/cut.py") 172 }, { hash := PyData.keyHash P (Str.ofString "__cached__"), key := Value.str (Str.ofString "__cached__") 174, val := Value.none }, { hash := PyData.keyHash P (Str.ofString "GateloomError"), key := Value.str (Str.ofString "GateloomError") 224, val := Value.ref 32 }, { hash := PyData.keyHash P (Str.ofString "FormatError"), key := Value.str (Str.ofString "FormatError") 240, val := Value.ref 45 }, { hash := PyData.keyHash P (Str.ofString "dimacs_text"), key := Value.str (Str.ofString "dimacs_text") 248, val := Value.ref 52 }, { hash := PyData.keyHash P (Str.ofString "whole_word"), key := Value.str (Str.ofString "whole_word") 258, val := Value.ref 59 }, { hash := PyData.keyHash P (Str.ofString "read_dimacs"), key := Value.str (Str.ofString "read_dimacs") 274, val := Value.ref 66 }, { hash := PyData.keyHash P (Str.ofString "_law_pick"), key := Value.str (Str.ofString "_law_pick") 287, val := Value.ref 73 }, { hash := PyData.keyHash P (Str.ofString "_law_odd_words"), key := Value.str (Str.ofString "_law_odd_words") 294, val := Value.ref 80 }, { hash := PyData.keyHash P (Str.ofString "_law_answer"), key := Value.str (Str.ofString "_law_answer") 303, val := Value.ref 87 }, { hash := PyData.keyHash P (Str.ofString "_law_word"), key := Value.str (Str.ofString "_law_word") 313, val := Value.ref 94 }, { hash := PyData.keyHash P (Str.ofString "_law_due"), key := Value.str (Str.ofString "_law_due") 319, val := Value.ref 99 }, { hash := PyData.keyHash P (Str.ofString "_law_fixed_hold"), key := Value.str (Str.ofString "_law_fixed_hold") 325, val := Value.ref 106 }, { hash := PyData.keyHash P (Str.ofString "law"), key := Value.str (Str.ofString "law") 331, val := Value.ref 111 }] 21 }),
   (22, { cls := Value.type "tuple", data := Data.seq #[Value.int (-1) 202, Value.str (Str.ofString "") 203] }),
   (28, { cls := Value.type "code", data := Data.fields #[Value.str (Str.ofString "__init__") 204, Value.str (Str.ofString "GateloomError.__init__") 205, Value.str (Str.ofString "/claim/cut.py") 206, Value.int 4 0, Value.int 4 0, Value.int 0 0, Value.int 0 0, Value.int 3 0, Value.ref 23, Value.bool true, Value.int 181 0, Value.ref 24, Value.none, Value.ref 25, Value.ref 26, Value.ref 27, Value.int 211 0, Value.int 4 0, Value.str (Str.ofString "/claim/cut.py") 212] }),
   (29, { cls := Value.type "function", data := Data.func { name := Str.ofString "__init__", qualname := Str.ofString "GateloomError.__init__", params := initParams, body := FuncBody.stmts initBody, scope := initScope, globals := 3, closure := [], defaults := Value.ref 22, kwdefaults := Value.none, pyModule := Value.str (Str.ofString "gateloom.errors") 187, code := Value.ref 28 } }),
   (31, { cls := Value.type "dict", data := Data.dict #[{ hash := PyData.keyHash P (Str.ofString "__module__"), key := Value.str (Str.ofString "__module__") 196, val := Value.str (Str.ofString "gateloom.errors") 187 }, { hash := PyData.keyHash P (Str.ofString "__firstlineno__"), key := Value.str (Str.ofString "__firstlineno__") 200, val := Value.int 2 199 }, { hash := PyData.keyHash P (Str.ofString "__init__"), key := Value.str (Str.ofString "__init__") 213, val := Value.ref 29 }, { hash := PyData.keyHash P (Str.ofString "__static_attributes__"), key := Value.str (Str.ofString "__static_attributes__") 217, val := Value.ref 30 }, { hash := PyData.keyHash P (Str.ofString "__weakref__"), key := Value.str (Str.ofString "__weakref__") 219, val := Value.ref 33 }, { hash := PyData.keyHash P (Str.ofString "__doc__"), key := Value.str (Str.ofString "__doc__") 220, val := Value.none }] 3 }),
   (32, { cls := Value.type "type", data := Data.cls { name := Str.ofString "GateloomError", bases := [Value.type "Exception"], mro := [Value.ref 32, Value.type "Exception", Value.type "BaseException", Value.type "object"], ns := 31, qualname := Str.ofString "GateloomError", subclasses := [Value.ref 45] }, slots := #[some (Value.ref 15), none, some (Value.str (Str.ofString "GateloomError") 189), some (Value.str (Str.ofString "GateloomError") 197), some (Value.builtin "Exception.__new__"), some (Value.bool true)] }),
   (44, { cls := Value.type "dict", data := Data.dict #[{ hash := PyData.keyHash P (Str.ofString "__module__"), key := Value.str (Str.ofString "__module__") 232, val := Value.str (Str.ofString "gateloom.errors") 187 }, { hash := PyData.keyHash P (Str.ofString "__firstlineno__"), key := Value.str (Str.ofString "__firstlineno__") 236, val := Value.int 8 235 }, { hash := PyData.keyHash P (Str.ofString "__static_attributes__"), key := Value.str (Str.ofString "__static_attributes__") 237, val := Value.ref 43 }, { hash := PyData.keyHash P (Str.ofString "__doc__"), key := Value.str (Str.ofString "__doc__") 238, val := Value.none }] 2 }),
   (45, { cls := Value.type "type", data := Data.cls { name := Str.ofString "FormatError", bases := [Value.ref 32], mro := [Value.ref 45, Value.ref 32, Value.type "Exception", Value.type "BaseException", Value.type "object"], ns := 44, qualname := Str.ofString "FormatError" }, slots := #[some (Value.ref 36), none, some (Value.str (Str.ofString "FormatError") 225), some (Value.str (Str.ofString "FormatError") 233), some (Value.builtin "Exception.__new__"), some (Value.bool true)] }),
   (51, { cls := Value.type "code", data := Data.fields #[Value.str (Str.ofString "dimacs_text") 243, Value.str (Str.ofString "dimacs_text") 244, Value.str (Str.ofString "/claim/cut.py") 245, Value.int 11 0, Value.int 2 0, Value.int 0 0, Value.int 0 0, Value.int 3 0, Value.ref 48, Value.bool true, Value.int 181 0, Value.ref 49, Value.none, Value.none, Value.none, Value.ref 50, Value.int 246 0, Value.int 11 0, Value.str (Str.ofString "/claim/cut.py") 247] }),
   (52, { cls := Value.type "function", data := Data.func { name := Str.ofString "dimacs_text", qualname := Str.ofString "dimacs_text", params := paramsOf 4, body := .stmts (bodyOf 4), scope := scopeOf 4, globals := 3, closure := [], defaults := Value.none, kwdefaults := Value.none, pyModule := Value.str (Str.ofString "gateloom.cnf") 241, code := Value.ref 51 } }),
   (58, { cls := Value.type "code", data := Data.fields #[Value.str (Str.ofString "whole_word") 249, Value.str (Str.ofString "whole_word") 250, Value.str (Str.ofString "/claim/cut.py") 251, Value.int 16 0, Value.int 2 0, Value.int 0 0, Value.int 0 0, Value.int 3 0, Value.ref 53, Value.bool true, Value.int 181 0, Value.ref 54, Value.none, Value.ref 55, Value.ref 56, Value.ref 57, Value.int 256 0, Value.int 16 0, Value.str (Str.ofString "/claim/cut.py") 257] }),
   (59, { cls := Value.type "function", data := Data.func { name := Str.ofString "whole_word", qualname := Str.ofString "whole_word", params := paramsOf 5, body := .stmts (bodyOf 5), scope := scopeOf 5, globals := 3, closure := [], defaults := Value.none, kwdefaults := Value.none, pyModule := Value.str (Str.ofString "gateloom.cnf") 241, code := Value.ref 58 } }),
   (65, { cls := Value.type "code", data := Data.fields #[Value.str (Str.ofString "read_dimacs") 259, Value.str (Str.ofString "read_dimacs") 260, Value.str (Str.ofString "/claim/cut.py") 261, Value.int 24 0, Value.int 1 0, Value.int 0 0, Value.int 0 0, Value.int 3 0, Value.ref 60, Value.bool true, Value.int 181 0, Value.ref 61, Value.none, Value.ref 62, Value.ref 63, Value.ref 64, Value.int 272 0, Value.int 24 0, Value.str (Str.ofString "/claim/cut.py") 273] }),
   (66, { cls := Value.type "function", data := Data.func { name := Str.ofString "read_dimacs", qualname := Str.ofString "read_dimacs", params := paramsOf 6, body := .stmts (bodyOf 6), scope := scopeOf 6, globals := 3, closure := [], defaults := Value.none, kwdefaults := Value.none, pyModule := Value.str (Str.ofString "gateloom.cnf") 241, code := Value.ref 65 } }),
   (72, { cls := Value.type "code", data := Data.fields #[Value.str (Str.ofString "_law_pick") 277, Value.str (Str.ofString "_law_pick") 278, Value.str (Str.ofString "/claim/cut.py") 279, Value.int 56 0, Value.int 3 0, Value.int 0 0, Value.int 0 0, Value.int 3 0, Value.ref 67, Value.bool true, Value.int 181 0, Value.ref 68, Value.none, Value.ref 69, Value.ref 70, Value.ref 71, Value.int 285 0, Value.int 56 0, Value.str (Str.ofString "/claim/cut.py") 286] }),
   (73, { cls := Value.type "function", data := Data.func { name := Str.ofString "_law_pick", qualname := Str.ofString "_law_pick", params := paramsOf 8, body := .stmts (bodyOf 8), scope := scopeOf 8, globals := 3, closure := [], defaults := Value.none, kwdefaults := Value.none, pyModule := Value.str (Str.ofString "law_sj0025_01") 275, code := Value.ref 72 } }),
   (79, { cls := Value.type "code", data := Data.fields #[Value.str (Str.ofString "_law_odd_words") 288, Value.str (Str.ofString "_law_odd_words") 289, Value.str (Str.ofString "/claim/cut.py") 290, Value.int 71 0, Value.int 0 0, Value.int 0 0, Value.int 0 0, Value.int 3 0, Value.ref 74, Value.bool true, Value.int 181 0, Value.ref 75, Value.none, Value.ref 76, Value.ref 77, Value.ref 78, Value.int 292 0, Value.int 71 0, Value.str (Str.ofString "/claim/cut.py") 293] }),
   (80, { cls := Value.type "function", data := Data.func { name := Str.ofString "_law_odd_words", qualname := Str.ofString "_law_odd_words", params := paramsOf 9, body := .stmts (bodyOf 9), scope := scopeOf 9, globals := 3, closure := [], defaults := Value.none, kwdefaults := Value.none, pyModule := Value.str (Str.ofString "law_sj0025_01") 275, code := Value.ref 79 } }),
   (86, { cls := Value.type "code", data := Data.fields #[Value.str (Str.ofString "_law_answer") 295, Value.str (Str.ofString "_law_answer") 296, Value.str (Str.ofString "/claim/cut.py") 297, Value.int 76 0, Value.int 1 0, Value.int 0 0, Value.int 0 0, Value.int 3 0, Value.ref 81, Value.bool true, Value.int 181 0, Value.ref 82, Value.none, Value.ref 83, Value.ref 84, Value.ref 85, Value.int 301 0, Value.int 76 0, Value.str (Str.ofString "/claim/cut.py") 302] }),
   (87, { cls := Value.type "function", data := Data.func { name := Str.ofString "_law_answer", qualname := Str.ofString "_law_answer", params := paramsOf 10, body := .stmts (bodyOf 10), scope := scopeOf 10, globals := 3, closure := [], defaults := Value.none, kwdefaults := Value.none, pyModule := Value.str (Str.ofString "law_sj0025_01") 275, code := Value.ref 86 } }),
   (93, { cls := Value.type "code", data := Data.fields #[Value.str (Str.ofString "_law_word") 304, Value.str (Str.ofString "_law_word") 305, Value.str (Str.ofString "/claim/cut.py") 306, Value.int 82 0, Value.int 2 0, Value.int 0 0, Value.int 0 0, Value.int 3 0, Value.ref 88, Value.bool true, Value.int 181 0, Value.ref 89, Value.none, Value.ref 90, Value.ref 91, Value.ref 92, Value.int 311 0, Value.int 82 0, Value.str (Str.ofString "/claim/cut.py") 312] }),
   (94, { cls := Value.type "function", data := Data.func { name := Str.ofString "_law_word", qualname := Str.ofString "_law_word", params := paramsOf 11, body := .stmts (bodyOf 11), scope := scopeOf 11, globals := 3, closure := [], defaults := Value.none, kwdefaults := Value.none, pyModule := Value.str (Str.ofString "law_sj0025_01") 275, code := Value.ref 93 } }),
   (98, { cls := Value.type "code", data := Data.fields #[Value.str (Str.ofString "_law_due") 314, Value.str (Str.ofString "_law_due") 315, Value.str (Str.ofString "/claim/cut.py") 316, Value.int 88 0, Value.int 2 0, Value.int 0 0, Value.int 0 0, Value.int 3 0, Value.ref 95, Value.bool true, Value.int 181 0, Value.ref 96, Value.none, Value.none, Value.none, Value.ref 97, Value.int 317 0, Value.int 88 0, Value.str (Str.ofString "/claim/cut.py") 318] }),
   (99, { cls := Value.type "function", data := Data.func { name := Str.ofString "_law_due", qualname := Str.ofString "_law_due", params := paramsOf 12, body := .stmts (bodyOf 12), scope := scopeOf 12, globals := 3, closure := [], defaults := Value.none, kwdefaults := Value.none, pyModule := Value.str (Str.ofString "law_sj0025_01") 275, code := Value.ref 98 } }),
   (105, { cls := Value.type "code", data := Data.fields #[Value.str (Str.ofString "_law_fixed_hold") 320, Value.str (Str.ofString "_law_fixed_hold") 321, Value.str (Str.ofString "/claim/cut.py") 322, Value.int 138 0, Value.int 0 0, Value.int 0 0, Value.int 0 0, Value.int 3 0, Value.ref 100, Value.bool true, Value.int 181 0, Value.ref 101, Value.none, Value.ref 102, Value.ref 103, Value.ref 104, Value.int 323 0, Value.int 138 0, Value.str (Str.ofString "/claim/cut.py") 324] }),
   (106, { cls := Value.type "function", data := Data.func { name := Str.ofString "_law_fixed_hold", qualname := Str.ofString "_law_fixed_hold", params := paramsOf 13, body := .stmts (bodyOf 13), scope := scopeOf 13, globals := 3, closure := [], defaults := Value.none, kwdefaults := Value.none, pyModule := Value.str (Str.ofString "law_sj0025_01") 275, code := Value.ref 105 } })]
noncomputable def KHas : List Addr := [3, 22, 28, 29, 31, 32, 44, 45, 51, 52, 58, 59, 65, 66, 72, 73, 79, 80, 86, 87, 93, 94, 98, 99, 105, 106]
end Mine

namespace Mine
open PySem PySem.W PySem.Calls PySem.Spec PyProof.Rows

/-! what the run of the top left -/
theorem fnok_of {B : Bs} {K : Frag} (KX : K.In B.h) {x : Str} {i : Nat} {names : List Str} {f cA : Addr} {o co : Obj} {fd : FuncData} {vs : Array Value} {t : Tok} (g : GName B x (.ref f)) (ho : K.lookup f = some o) (hd : o.data = .func fd)
    (hbody : fd.body = .stmts (bodyOf i)) (hscope : fd.scope = scopeOf i) (hcode : fd.code = .ref cA) (hco : K.lookup cA = some co) (hcd : co.data = .fields vs) (hq : vs[1]? = some (.str fd.qualname t)) (hglob : fd.globals = mainGlobals) (hblt : fd.builtins = builtinsNs)
    (hs : ((scopeOf i).kind == .function && !(scopeOf i).isGenerator && !(scopeOf i).isCoroutine && (scopeOf i).names.all fun p => p.2 != .cell) = true)
    (binds : ∀ s vs, vs.length = names.length → BindsTo s fd ⟨vs, []⟩ (names.zip vs)) (nodup : names.Nodup) (loc : ∀ x ∈ names, (scopeOf i).names.lookup x = some .local) (all : ∀ p ∈ (scopeOf i).names, (scopeOf i).names.lookup p.1 = some p.2) : FnOk B x i names f fd := by
  simp only [Bool.and_eq_true, beq_iff_eq, Bool.not_eq_true', List.all_eq_true, bne_iff_ne] at hs
  obtain ⟨⟨⟨h1, h2⟩, h3⟩, h4⟩ := hs
  have F : Fn B f fd (bodyOf i) := ⟨⟨o, KX _ _ ho, hd⟩, hbody, ⟨cA, co, vs, t, hcode, KX _ _ hco, hcd, hq⟩, hglob, hblt, by rw [hscope]; exact h1, by rw [hscope]; exact h2, by rw [hscope]; exact h3, fun p hp => h4 p (by rw [← hscope]; exact hp)⟩
  exact ⟨g, ⟨o, KX _ _ ho, hd⟩, F, hscope, fun s vs _ h => binds s vs h, nodup, loc, all⟩

theorem vs0 {vs : List Value} (h : vs.length = 0) : vs = [] := List.eq_nil_of_length_eq_zero h
theorem vs1 {vs : List Value} (h : vs.length = 1) : ∃ a, vs = [a] := by cases vs with | nil => cases h | cons a r => exact ⟨a, by rw [vs0 (Nat.succ.inj h)]⟩
theorem vs2 {vs : List Value} (h : vs.length = 2) : ∃ a b, vs = [a, b] := by cases vs with | nil => cases h | cons a r => obtain ⟨b, rfl⟩ := vs1 (Nat.succ.inj h); exact ⟨a, b, rfl⟩
theorem vs3 {vs : List Value} (h : vs.length = 3) : ∃ a b c, vs = [a, b, c] := by cases vs with | nil => cases h | cons a r => obtain ⟨b, c, rfl⟩ := vs2 (Nat.succ.inj h); exact ⟨a, b, c, rfl⟩
theorem gname_main {B : Bs} {K : Frag} (KX : K.In B.h) {mg mb : Str → Option Value} (hg : B.h.Ns mainGlobals mg) (hb : B.h.Ns builtinsNs mb) {o : Obj} {es : Array DictEntry} {n : Nat} (ho : K.lookup mainGlobals = some o) (hd : o.data = .dict es n) {x : Str} {v : Value} (e : nsFind es x = some v) : GName B x v := by
  obtain ⟨o', es', ep, h1, h2, h3, h4⟩ := hg
  have := KX _ _ ho
  rw [this] at h1; cases h1
  rw [hd] at h2; cases h2
  exact ⟨mg, mb, ⟨o, es, n, this, hd, h3, h4⟩, hb, .inl (by rw [← h4]; exact e)⟩
theorem gname_built {B : Bs} {K : Frag} (KX : K.In B.h) {mg mb : Str → Option Value} (hg : B.h.Ns mainGlobals mg) (hb : B.h.Ns builtinsNs mb) {o : Obj} {es : Array DictEntry} {n : Nat} (ho : K.lookup mainGlobals = some o) (hd : o.data = .dict es n) {x : Str} {v : Value} (e : nsFind es x = none) (e2 : mb x = some v) : GName B x v := by
  obtain ⟨o', es', ep, h1, h2, h3, h4⟩ := hg
  have := KX _ _ ho
  rw [this] at h1; cases h1
  rw [hd] at h2; cases h2
  exact ⟨mg, mb, ⟨o, es, n, this, hd, h3, h4⟩, hb, .inr ⟨by rw [← h4]; exact e, e2⟩⟩

section
variable (p : Params)
theorem own_ok : OwnX (KH p) 45 32 29 where
  cls := ⟨_, _, _, _, _, _, _, _, _, _, by with_unfolding_all rfl⟩
  init := by with_unfolding_all rfl
  set := by with_unfolding_all rfl
  get := by with_unfolding_all rfl
  hook := by with_unfolding_all rfl
theorem free1 : Free (KH p) 45 "kind" := by with_unfolding_all rfl
theorem free2 : Free (KH p) 45 "at" := by with_unfolding_all rfl
theorem free3 : Free (KH p) 45 "detail" := by with_unfolding_all rfl
end
section
variable {B : Bs} {p : Params} (KX : (KH p).In B.h) {mg mb : Str → Option Value} (hg : B.h.Ns mainGlobals mg) (hb : B.h.Ns builtinsNs mb)
include KX hg hb
theorem g_main {x : Str} {v : Value} (e : ∃ o es n, (KH p).lookup mainGlobals = some o ∧ o.data = .dict es n ∧ nsFind es x = some v) : GName B x v := by
  obtain ⟨o, es, n, h1, h2, h3⟩ := e
  exact gname_main KX hg hb h1 h2 h3
theorem g_built {x : Str} {v : Value} (e : ∃ o es n, (KH p).lookup mainGlobals = some o ∧ o.data = .dict es n ∧ nsFind es x = none) (e2 : mb x = some v) : GName B x v := by
  obtain ⟨o, es, n, h1, h2, h3⟩ := e
  exact gname_built KX hg hb h1 h2 h3 e2
theorem fn_4 : ∃ fd, FnOk B "dimacs_text" 4 ["count", "clauses"] 52 fd := ⟨_, fnok_of KX (cA := 51) (g_main KX hg hb ⟨_, _, _, by with_unfolding_all rfl, by with_unfolding_all rfl, by with_unfolding_all rfl⟩) (by with_unfolding_all rfl) (by with_unfolding_all rfl) (by with_unfolding_all rfl) (by with_unfolding_all rfl) (by with_unfolding_all rfl) (by with_unfolding_all rfl) (by with_unfolding_all rfl) (by with_unfolding_all rfl) rfl rfl (by decide +kernel)
    (fun s vs h => by obtain ⟨a, b, rfl⟩ := vs2 h; exact BindsTo.of_eq rfl) (by decide +kernel) (by decide +kernel) (by decide +kernel)⟩
theorem fn_5 : ∃ fd, FnOk B "whole_word" 5 ["word", "row"] 59 fd := ⟨_, fnok_of KX (cA := 58) (g_main KX hg hb ⟨_, _, _, by with_unfolding_all rfl, by with_unfolding_all rfl, by with_unfolding_all rfl⟩) (by with_unfolding_all rfl) (by with_unfolding_all rfl) (by with_unfolding_all rfl) (by with_unfolding_all rfl) (by with_unfolding_all rfl) (by with_unfolding_all rfl) (by with_unfolding_all rfl) (by with_unfolding_all rfl) rfl rfl (by decide +kernel)
    (fun s vs h => by obtain ⟨a, b, rfl⟩ := vs2 h; exact BindsTo.of_eq rfl) (by decide +kernel) (by decide +kernel) (by decide +kernel)⟩
theorem fn_6 : ∃ fd, FnOk B "read_dimacs" 6 ["text"] 66 fd := ⟨_, fnok_of KX (cA := 65) (g_main KX hg hb ⟨_, _, _, by with_unfolding_all rfl, by with_unfolding_all rfl, by with_unfolding_all rfl⟩) (by with_unfolding_all rfl) (by with_unfolding_all rfl) (by with_unfolding_all rfl) (by with_unfolding_all rfl) (by with_unfolding_all rfl) (by with_unfolding_all rfl) (by with_unfolding_all rfl) (by with_unfolding_all rfl) rfl rfl (by decide +kernel)
    (fun s vs h => by obtain ⟨a, rfl⟩ := vs1 h; exact BindsTo.of_eq rfl) (by decide +kernel) (by decide +kernel) (by decide +kernel)⟩
theorem fn_8 : ∃ fd, FnOk B "_law_pick" 8 ["cells", "pot", "limit"] 73 fd := ⟨_, fnok_of KX (cA := 72) (g_main KX hg hb ⟨_, _, _, by with_unfolding_all rfl, by with_unfolding_all rfl, by with_unfolding_all rfl⟩) (by with_unfolding_all rfl) (by with_unfolding_all rfl) (by with_unfolding_all rfl) (by with_unfolding_all rfl) (by with_unfolding_all rfl) (by with_unfolding_all rfl) (by with_unfolding_all rfl) (by with_unfolding_all rfl) rfl rfl (by decide +kernel)
    (fun s vs h => by obtain ⟨a, b, c, rfl⟩ := vs3 h; exact BindsTo.of_eq rfl) (by decide +kernel) (by decide +kernel) (by decide +kernel)⟩
theorem fn_9 : ∃ fd, FnOk B "_law_odd_words" 9 [] 80 fd := ⟨_, fnok_of KX (cA := 79) (g_main KX hg hb ⟨_, _, _, by with_unfolding_all rfl, by with_unfolding_all rfl, by with_unfolding_all rfl⟩) (by with_unfolding_all rfl) (by with_unfolding_all rfl) (by with_unfolding_all rfl) (by with_unfolding_all rfl) (by with_unfolding_all rfl) (by with_unfolding_all rfl) (by with_unfolding_all rfl) (by with_unfolding_all rfl) rfl rfl (by decide +kernel)
    (fun s vs h => by rw [vs0 h]; exact BindsTo.of_eq rfl) (by decide +kernel) (by decide +kernel) (by decide +kernel)⟩
theorem fn_10 : ∃ fd, FnOk B "_law_answer" 10 ["text"] 87 fd := ⟨_, fnok_of KX (cA := 86) (g_main KX hg hb ⟨_, _, _, by with_unfolding_all rfl, by with_unfolding_all rfl, by with_unfolding_all rfl⟩) (by with_unfolding_all rfl) (by with_unfolding_all rfl) (by with_unfolding_all rfl) (by with_unfolding_all rfl) (by with_unfolding_all rfl) (by with_unfolding_all rfl) (by with_unfolding_all rfl) (by with_unfolding_all rfl) rfl rfl (by decide +kernel)
    (fun s vs h => by obtain ⟨a, rfl⟩ := vs1 h; exact BindsTo.of_eq rfl) (by decide +kernel) (by decide +kernel) (by decide +kernel)⟩
theorem fn_11 : ∃ fd, FnOk B "_law_word" 11 ["word", "at"] 94 fd := ⟨_, fnok_of KX (cA := 93) (g_main KX hg hb ⟨_, _, _, by with_unfolding_all rfl, by with_unfolding_all rfl, by with_unfolding_all rfl⟩) (by with_unfolding_all rfl) (by with_unfolding_all rfl) (by with_unfolding_all rfl) (by with_unfolding_all rfl) (by with_unfolding_all rfl) (by with_unfolding_all rfl) (by with_unfolding_all rfl) (by with_unfolding_all rfl) rfl rfl (by decide +kernel)
    (fun s vs h => by obtain ⟨a, b, rfl⟩ := vs2 h; exact BindsTo.of_eq rfl) (by decide +kernel) (by decide +kernel) (by decide +kernel)⟩
theorem fn_12 : ∃ fd, FnOk B "_law_due" 12 ["rows", "lines"] 99 fd := ⟨_, fnok_of KX (cA := 98) (g_main KX hg hb ⟨_, _, _, by with_unfolding_all rfl, by with_unfolding_all rfl, by with_unfolding_all rfl⟩) (by with_unfolding_all rfl) (by with_unfolding_all rfl) (by with_unfolding_all rfl) (by with_unfolding_all rfl) (by with_unfolding_all rfl) (by with_unfolding_all rfl) (by with_unfolding_all rfl) (by with_unfolding_all rfl) rfl rfl (by decide +kernel)
    (fun s vs h => by obtain ⟨a, b, rfl⟩ := vs2 h; exact BindsTo.of_eq rfl) (by decide +kernel) (by decide +kernel) (by decide +kernel)⟩
theorem fn_13 : ∃ fd, FnOk B "_law_fixed_hold" 13 [] 106 fd := ⟨_, fnok_of KX (cA := 105) (g_main KX hg hb ⟨_, _, _, by with_unfolding_all rfl, by with_unfolding_all rfl, by with_unfolding_all rfl⟩) (by with_unfolding_all rfl) (by with_unfolding_all rfl) (by with_unfolding_all rfl) (by with_unfolding_all rfl) (by with_unfolding_all rfl) (by with_unfolding_all rfl) (by with_unfolding_all rfl) (by with_unfolding_all rfl) rfl rfl (by decide +kernel)
    (fun s vs h => by rw [vs0 h]; exact BindsTo.of_eq rfl) (by decide +kernel) (by decide +kernel) (by decide +kernel)⟩
omit hg hb in
theorem init_ok (hF : B.FE = 45) (lim : B.h.NoLimit) : InitOk B (KH p) 32 29 where
  own := by rw [hF]; exact own_ok p
  kin := KX
  lim := lim
  f1 := by rw [hF]; exact free1 p
  f2 := by rw [hF]; exact free2 p
  f3 := by rw [hF]; exact free3 p
  isfn := ⟨_, KX 29 _ (by with_unfolding_all rfl), rfl⟩
  fn := by
    refine ⟨_, _, _, _, _, _, _, _, _, _, _, _, _, ⟨⟨_, KX 29 _ (by with_unfolding_all rfl), by with_unfolding_all rfl⟩, by with_unfolding_all rfl, ⟨28, _, _, _, by with_unfolding_all rfl, KX 28 _ (by with_unfolding_all rfl), by with_unfolding_all rfl, by with_unfolding_all rfl⟩, rfl, rfl, rfl, rfl, rfl, by decide +kernel⟩, by decide +kernel, by decide +kernel, by decide +kernel, by decide +kernel, fun s e kv av dv kk => binds_K (K := KH p) (T := 22) (fun b o h => kk b o (KX b o h)) rfl (by with_unfolding_all rfl) (by with_unfolding_all rfl) rfl (by with_unfolding_all rfl), _, fun s e kv av kk => binds_K (K := KH p) (T := 22) (fun b o h => kk b o (KX b o h)) rfl (by with_unfolding_all rfl) (by with_unfolding_all rfl) rfl (by with_unfolding_all rfl)⟩
end
end Mine

namespace Mine
open PySem PySem.W PySem.Calls PySem.Spec PyProof.Rows
theorem well_ints {P : Params} {h : Heap} {T : Tab} : ∀ {ns : List Int} {vs : List Value}, WellAll P h vs (ofPys (ns.map PyData.int)) → VRs T vs (ns.map AV.int)
  | [], vs, w => by cases w; exact .nil
  | n :: ns, vs, w => by
    cases w with
    | cons w r =>
      cases w with
      | int i t => exact .cons (.int _ _) (well_ints r)
theorem well_list {P : Params} {h : Heap} {a : Addr} {ns : List Int} (w : Well P h (.ref a) (ofPy (.list (ns.map PyData.int)))) : ∃ vs n, h.get? a = some (listOf (List.toArray vs) n) ∧ ∀ T, VRs T vs (ns.map AV.int) := by
  cases w with
  | list h1 h2 => exact ⟨_, _, h1, fun T => well_ints h2⟩

section
variable {w : World} {s₁ : Shared} {h₁ : Heap} {mg mb : Str → Option Value} {ns : List Int} {a : Addr} {m : Str → Option Value}
theorem law_run (PL : PlainLaw) (KX : (KH w.params).In s₁.heap) (hg : s₁.heap.Ns mainGlobals mg) (hb : s₁.heap.Ns builtinsNs mb) (hbi : ∀ x : Str, x ≠ "__name__" → mb x = bootBuiltins x) (lim : s₁.heap.NoLimit) (hgens : s₁.gens = #[])
    (hw : Well w.params s₁.heap (.ref a) (ofPy (.list (ns.map PyData.int)))) (hns : ns.length ≤ 63) (F : Fr s₁.heap s₁.heap.objs.size h₁ m) (hm : m "script" = some (.ref a)) {fa : Addr} {cd : Value} {qn : Str} {tk : Nat} {E : Value → Shared → Prop} {P : Flow → Shared → Prop}
    (hP : ∀ s', (∀ b o, s₁.heap.get? b = some o → s'.heap.get? b = some o) → s'.os = s₁.os → s'.gens = #[] → P (.ret (.bool true)) s') :
    wpAny (model PySem.Challenge.rw_sj0025_01.row.prog w) (callerA.deeper (envOf qn (scopeOf 14) s₁.heap.objs.size fa cd)) (execs (bodyOf 14) (envOf qn (scopeOf 14) s₁.heap.objs.size fa cd)) P E { heap := h₁, gens := s₁.gens, drawn := s₁.drawn, toks := tk, os := s₁.os } := by
  let B : Bs := ⟨PySem.Challenge.rw_sj0025_01.row.prog, w, s₁.heap, s₁.os, 45⟩
  let env := envOf qn (scopeOf 14) s₁.heap.objs.size fa cd
  let c : Cx := ⟨callerA.deeper env, env, [env], fun _ => none⟩
  have KB : (KH w.params).In B.h := KX
  have gm : ∀ {x : Str} {v : Value}, (∃ o es n, (KH w.params).lookup mainGlobals = some o ∧ o.data = .dict es n ∧ nsFind es x = some v) → GName B x v := g_main KB hg hb
  have gb : ∀ {x : Str} {v : Value}, (∃ o es n, (KH w.params).lookup mainGlobals = some o ∧ o.data = .dict es n ∧ nsFind es x = none) → mb x = some v → GName B x v := g_built KB hg hb
  obtain ⟨d4, F4⟩ := fn_4 KB hg hb
  obtain ⟨d5, F5⟩ := fn_5 KB hg hb
  obtain ⟨d6, F6⟩ := fn_6 KB hg hb
  obtain ⟨d8, F8⟩ := fn_8 KB hg hb
  obtain ⟨d9, F9⟩ := fn_9 KB hg hb
  obtain ⟨d10, F10⟩ := fn_10 KB hg hb
  obtain ⟨d11, F11⟩ := fn_11 KB hg hb
  obtain ⟨d12, F12⟩ := fn_12 KB hg hb
  obtain ⟨d13, F13⟩ := fn_13 KB hg hb
  have W : Wd B := ⟨KH w.params, 32, 29, init_ok KB rfl lim, lim,
    gm ⟨_, _, _, by with_unfolding_all rfl, by with_unfolding_all rfl, by with_unfolding_all rfl⟩,
    gb ⟨_, _, _, by with_unfolding_all rfl, by with_unfolding_all rfl, by with_unfolding_all rfl⟩ ((hbi _ (by decide)).trans (by with_unfolding_all rfl)),
    gb ⟨_, _, _, by with_unfolding_all rfl, by with_unfolding_all rfl, by with_unfolding_all rfl⟩ ((hbi _ (by decide)).trans (by with_unfolding_all rfl)),
    gb ⟨_, _, _, by with_unfolding_all rfl, by with_unfolding_all rfl, by with_unfolding_all rfl⟩ ((hbi _ (by decide)).trans (by with_unfolding_all rfl)),
    gb ⟨_, _, _, by with_unfolding_all rfl, by with_unfolding_all rfl, by with_unfolding_all rfl⟩ ((hbi _ (by decide)).trans (by with_unfolding_all rfl)),
    gb ⟨_, _, _, by with_unfolding_all rfl, by with_unfolding_all rfl, by with_unfolding_all rfl⟩ ((hbi _ (by decide)).trans (by with_unfolding_all rfl)),
    gb ⟨_, _, _, by with_unfolding_all rfl, by with_unfolding_all rfl, by with_unfolding_all rfl⟩ ((hbi _ (by decide)).trans (by with_unfolding_all rfl)),
    gb ⟨_, _, _, by with_unfolding_all rfl, by with_unfolding_all rfl, by with_unfolding_all rfl⟩ ((hbi _ (by decide)).trans (by with_unfolding_all rfl)),
    gb ⟨_, _, _, by with_unfolding_all rfl, by with_unfolding_all rfl, by with_unfolding_all rfl⟩ ((hbi _ (by decide)).trans (by with_unfolding_all rfl)),
    52, d4, F4, 59, d5, F5, 66, d6, F6, 73, d8, F8, 80, d9, F9, 87, d10, F10, 94, d11, F11, 99, d12, F12, 106, d13, F13⟩
  have ok : c.Ok := by
    refine ⟨rfl, rfl, show (302 : Nat) < 600 by decide, show (7 : Nat) < 6000 by decide, ?_, rfl, (fun b o e => by cases e), rfl, rfl, rfl⟩
    intro b hb
    exact .inl (List.mem_singleton.mp hb)
  have G : At c 0 14 := ⟨⟨ok, ⟨⟨_, rfl⟩, ⟨[], rfl⟩, rfl⟩, show (302 : Nat) ≤ 310 + 0 by decide, show (7 : Nat) ≤ 100 + 3 * 0 by decide⟩, rfl, fun p hp => by
    have h : ∀ p ∈ (scopeOf 14).names, (scopeOf 14).names.lookup p.1 = some p.2 := by decide +kernel
    exact h p hp⟩
  obtain ⟨vs, k, hv1, hv2⟩ := well_list hw
  have R : Rep B c (fun b => s₁.heap.get? b) ⟨[("script", .lst (ns.map .int))], []⟩ { heap := h₁, gens := s₁.gens, drawn := s₁.drawn, toks := tk, os := s₁.os } := by
    have hL : s₁.heap.get? s₁.heap.objs.size = none := Heap.get?_none_of_le (Nat.le_refl _)
    constructor
    · exact fun b o e => e
    · exact fun b o e => F.keep b o e
    · obtain ⟨o, es, ep, ho, hd, _⟩ := F.ns
      exact ⟨by show (scopeOf 14).kind ≠ .module; decide +kernel, ⟨s₁.heap.objs.size, o, rfl, hL, ho, fun ws e => by rw [hd] at e; cases e⟩, trivial⟩
    · intro b hb
      rw [List.mem_singleton.mp hb]; exact hL
    · refine ⟨m, F.ns, fun p hp => ?_⟩
      rw [List.mem_singleton.mp hp]
      exact ⟨_, hm, .lst hv1 (hv2 _)⟩
    · exact hL
    · intro p hp; cases hp
    · exact List.nodup_nil
    · intro b o e; cases e
    · exact hgens
    · rfl
  refine wpAny_mono (law0 PL W G (by omega) hns _ _ R) ?_ ?_
  · rintro f s' ⟨T', d, a', hle, R', fr, rfl⟩
    cases fr with
    | ret hv =>
      cases hv
      exact hP s' R'.base R'.os R'.gens
  · rintro e s' ⟨T', x, a', ea, l, R', h1, h2, h3⟩
    exact h3.elim
end
end Mine

namespace Mine
open PySem PySem.W PySem.Calls PySem.Spec PyProof.Rows
noncomputable def stOf (i : Nat) : Stmt := match nthS PySem.Challenge.pw_sj0025_01.main.body i with
  | some s => s
  | none => .Pass ⟨0, 0, 0, 0⟩
noncomputable def posOf (i : Nat) : Pos := (stOf i).pos
noncomputable def q2 : Program := { PySem.Challenge.pw_sj0025_01 with main := { PySem.Challenge.pw_sj0025_01.main with body := [.FunctionDef "law" (paramsOf 14) (bodyOf 14) [] none [] (scopeOf 14) none "law" (posOf 14)] } }
noncomputable def loose2 : List Str := ["GateloomError", "FormatError", "dimacs_text", "whole_word", "read_dimacs", "_law_pick", "_law_odd_words", "_law_answer", "_law_word", "_law_due", "_law_fixed_hold"]

theorem left_of_boot {p q : Program} {loose : List Str} {Xt : Shared → Bool} {α : Type} {Yf : Shared → α} {Ya : World → α} {N : Nat} {g0 : Bool}
    (e : opening p = plainProg p.main.scope.names) (hN : Nat.ble 600 N = true) (f : ∀ s, fenceModules? p s = some s)
    (h : ∀ (w : World) (os : OsState), (topFrom treeTable p w N ⟨boot_heap w.params, #[], boot_drawn, boot_toks, os⟩).map (fun s => (openSeen q loose (importedModules p.main.body) Xt g0 s, Yf s)) = some (openGood q loose, Ya w)) : LeftO p q loose Xt Yf Ya N g0 := fun w => by
  obtain ⟨⟨h0, gs, d, k, os⟩, a, b⟩ := Option.map_eq_some_iff.mp (boot_open e hN f w)
  obtain ⟨rfl, rfl, rfl, rfl⟩ : h0 = boot_heap w.params ∧ gs = #[] ∧ d = boot_drawn ∧ k = boot_toks := by simpa using b
  unfold openEnds
  rw [a]
  exact h w os
theorem left (w : World) (os : OsState) : (topFrom treeTable PySem.Challenge.pw_sj0025_01 w 1688 ⟨boot_heap w.params, #[], boot_drawn, boot_toks, os⟩).map (fun s => (openSeen q2 loose2 (importedModules PySem.Challenge.pw_sj0025_01.main.body) (fun s => xlAt q2 [] s && recOk (RowW.records (PySem.Challenge.rw_sj0025_01.row.toRowW)) s) true s, Hook.obs (kHook KH KHas (fun _ => by kernel_rfl)) s)) =
   some (openGood q2 loose2, Hook.val (kHook KH KHas (fun _ => by kernel_rfl)) w) := by
  unfold topFrom
  rw [PySem.W.Fast.te14082659384304107361, PySem.W.Fast.te4187177175401517315, PySem.W.Fast.te14364793385576792824]
  kernel_rfl
theorem said_open : looksOpen PySem.Challenge.rw_sj0025_01.row.prog = true := (congrFun PySem.W.Fast.te12908688711261696721 _).trans (by kernel_rfl)
theorem said_row : PySem.Challenge.rw_sj0025_01.row.wellSaid = true := by
  unfold OpenRow.wellSaid OpenRow.partSaid
  rw [said_open]
  kernel_rfl
theorem said : PySem.Challenge.rw_sj0025_01.wellSaid = true := by
  unfold OpenLaw.wellSaid
  rw [said_row, PySem.W.Fast.te8326940854005059898, PySem.W.Fast.te17119622794617984870, PySem.W.Fast.te16286561074155671207, PySem.W.Fast.te8179353310426384613]
  kernel_rfl
end Mine

open PySem PySem.W PySem.Calls PySem.Spec PyProof.Rows
set_option maxHeartbeats 0 in
theorem PySem.Challenge.cw_sj0025_01_holds : PySem.Challenge.rw_sj0025_01.Holds := by
  refine holds_law Mine.said fun said => ?_
  refine holds_open (q := Mine.q2) (loose := Mine.loose2) (Xt := fun s => xlAt Mine.q2 [] s && recOk (RowW.records (PySem.Challenge.rw_sj0025_01.row.toRowW)) s) (XP := XL Mine.q2 []) (Yf := Hook.obs (kHook Mine.KH Mine.KHas (fun _ => by kernel_rfl))) (Ya := Hook.val (kHook Mine.KH Mine.KHas (fun _ => by kernel_rfl))) (YP := Hook.says (kHook Mine.KH Mine.KHas (fun _ => by kernel_rfl))) (N := 1688) ?hl (Hook.of _) (Hook.keeps _) (fun s e => xl_of s (Bool.and_eq_true_iff.mp e).1) XL.keeps (by rfl) (by rfl) (by rfl) (fun s e => recFacts_of (Bool.and_eq_true_iff.mp e).2) (by rfl) said (by kernel_rfl) ⟨rfl, rfl, rfl, rfl, rfl, by decide +kernel⟩ ?hw ?hc
  case hw => w_witness2
  case hl => exact Mine.left_of_boot (by kernel_rfl) (by kernel_rfl) (fun _ => by kernel_rfl) Mine.left
  intro w s₀ s₁ mg mb G Y fa o pm cd doc dV kV ho hd hcd hD hmg hg args vals as hpre hlay hrd hwl hlo
  have KX := kIn_of Y
  refine Ground.open G ?_
  intro T B D TE TW
  clear D hmg
  wrow_args hpre hlay hrd hwl hlo
  refine enter_call ?_
  w_top on
  refine codeAny_mono ?_ (fun _ _ g => GoodW.toG g)
  w_call any ho hd hcd hD T F
  clear hd
  rename_i ns _ _ _ _ _ _ _ a _ _ _ _ w1 _ _ _ hc1 _ h₁ N0
  have hns : ns.length ≤ 63 := by omega
  refine Mine.law_run (ns := ns) Mine.plain_law KX T.g T.b T.builtins T.nolimit hg w1 hns F rfl ?_
  intro s' k1 k2 k3
  refine ⟨.inl ⟨.bool true, .bool true, [], rfl, raisesW_false ?_, .bool _, ?_, unshared_nil⟩, k1, k2, k3⟩
  · wrow_none_raised
  · wrow_post
