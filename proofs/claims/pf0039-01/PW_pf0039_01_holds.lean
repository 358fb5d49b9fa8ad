import PyProof.Rows.All
import Wide.All
import OpenK.AllK
import Wide.FinOn
import PyProof.AttrMissSeq
import KE.KDictOf
import KE.KDictSum
import KE.KTops
import PyProof.ExcInit
import PyProof.InstStoreFacts
import PyProof.ExcBaseAll.Exception
import PyProof.StationsW
import PyProof.RulesAs
import OpenK.KMore
import PyProof.AssignAttr
import PyProof.ExcArgsOwn
import PyProof.ExcAttrAll.Exception
import Lean
import PySem.Challenge.RW_pf0039_01
set_option Elab.async false

-- MCore
section
set_option maxRecDepth 100000
namespace Mine
open PySem

/-- a pure value -/
inductive PV where
  | none
  | bool (b : Bool)
  | int (i : Int)
  | str (x : Str)
  | list (l : List PV)
  | tup (l : List PV)
  | mut (k : Nat)
  | rng (a b c : Int)
  | obj (a : Addr)

mutual
/-- no mutable list is named in it -/
noncomputable def noMut : PV → Bool
  | .mut _ => false
  | .list l => noMuts l
  | .tup l => noMuts l
  | _ => true
noncomputable def noMuts : List PV → Bool
  | [] => true
  | p :: r => noMut p && noMuts r
end
theorem noMuts_append : ∀ {l l' : List PV}, noMuts l = true → noMuts l' = true → noMuts (l ++ l') = true
  | [], _, _, h => h
  | p :: r, _, h, h' => by
    simp only [noMuts, Bool.and_eq_true, List.cons_append] at h ⊢
    exact ⟨h.1, noMuts_append h.2 h'⟩
theorem noMuts_set : ∀ {l : List PV} {k : Nat} {p : PV}, noMuts l = true → noMut p = true → noMuts (l.set k p) = true
  | [], _, _, h, _ => h
  | q :: r, 0, _, h, h' => by simp only [noMuts, Bool.and_eq_true, List.set_cons_zero] at h ⊢; exact ⟨h', h.2⟩
  | q :: r, k + 1, _, h, h' => by simp only [noMuts, Bool.and_eq_true, List.set_cons_succ] at h ⊢; exact ⟨h.1, noMuts_set h.2 h'⟩
theorem noMuts_all : ∀ {l : List PV}, (∀ p ∈ l, noMut p = true) → noMuts l = true
  | [], _ => rfl
  | p :: r, h => by simp only [noMuts, Bool.and_eq_true]; exact ⟨h p (.head _), noMuts_all fun q hq => h q (.tail _ hq)⟩
theorem noMuts_mem : ∀ {l : List PV}, noMuts l = true → ∀ p ∈ l, noMut p = true
  | q :: r, h, p, hp => by
    simp only [noMuts, Bool.and_eq_true] at h
    rcases List.mem_cons.mp hp with rfl | hp
    · exact h.1
    · exact noMuts_mem h.2 p hp

noncomputable abbrev Sto := List (Option (List PV))
noncomputable abbrev Vars := Str → Option PV

noncomputable def Live (al : List Addr) (st : Sto) (b : Addr) : Prop := ∃ (k : Nat) (l : List PV), st[k]? = some (some l) ∧ al[k]? = some b

/-- the object is no namespace and no cell -/
noncomputable def NotVar (o : Obj) : Prop := (∀ es ep, o.data ≠ .dict es ep) ∧ (∀ v, o.data ≠ .cell v)

/-- what pure values lie in: lists, tuples, ranges -/
noncomputable def RepObj (o : Obj) : Prop := (∃ its n, o.data = .seq its n) ∨ (o.cls = .type "range" ∧ ∃ vs, o.data = .fields vs)
theorem RepObj.notVar {o : Obj} (r : RepObj o) : NotVar o := by
  rcases r with ⟨its, n, e⟩ | ⟨_, vs, e⟩ <;> exact ⟨by rw [e]; nofun, by rw [e]; nofun⟩
theorem RepObj.seq {its : Array Value} {n : Nat} {c : Value} {d : Option Addr} {sl : Array (Option Value)} : RepObj ⟨c, d, .seq its n, sl⟩ := .inl ⟨_, _, rfl⟩

mutual
inductive Rep (al : List Addr) (X : Addr → Prop) (h : Heap) : Value → PV → Prop
  | none : Rep al X h .none .none
  | bool (b : Bool) : Rep al X h (.bool b) (.bool b)
  | int (i : Int) (t : Tok) : Rep al X h (.int i t) (.int i)
  | str (x : Str) (t : Tok) : Rep al X h (.str x t) (.str x)
  | list {a : Addr} {vs : List Value} {n : Nat} {ps : List PV} : IsL h a vs.toArray n → ¬ X a → Reps al X h vs ps → Rep al X h (.ref a) (.list ps)
  | tup {a : Addr} {vs : List Value} {n : Nat} {ps : List PV} : h.get? a = some { cls := .type "tuple", data := .seq vs.toArray n } → ¬ X a → Reps al X h vs ps → Rep al X h (.ref a) (.tup ps)
  | mut {k : Nat} {a : Addr} : al[k]? = some a → Rep al X h (.ref a) (.mut k)
  | rng {r : Addr} {a b c : Int} {t u v : Tok} : IsRange h r a b c t u v → ¬ X r → Rep al X h (.ref r) (.rng a b c)
  | obj (a : Addr) : Rep al X h (.ref a) (.obj a)
inductive Reps (al : List Addr) (X : Addr → Prop) (h : Heap) : List Value → List PV → Prop
  | nil : Reps al X h [] []
  | cons {v : Value} {p : PV} {vs : List Value} {ps : List PV} : Rep al X h v p → Reps al X h vs ps → Reps al X h (v :: vs) (p :: ps)
end

section
variable {al al' : List Addr} {X X' : Addr → Prop} {h h' : Heap}
  (hk : ∀ b o, h.get? b = some o → RepObj o → ¬ X b → h'.get? b = some o ∧ ¬ X' b) (ha : ∀ (k : Nat) (a : Addr), al[k]? = some a → al'[k]? = some a)
include hk ha
mutual
theorem Rep.mono : ∀ {v : Value} {p : PV}, Rep al X h v p → Rep al' X' h' v p
  | _, _, .none => .none
  | _, _, .bool b => .bool b
  | _, _, .int i t => .int i t
  | _, _, .str x t => .str x t
  | _, _, .list h1 h2 h3 => .list (hk _ _ h1 RepObj.seq h2).1 (hk _ _ h1 RepObj.seq h2).2 (Reps.mono h3)
  | _, _, .tup h1 h2 h3 => .tup (hk _ _ h1 RepObj.seq h2).1 (hk _ _ h1 RepObj.seq h2).2 (Reps.mono h3)
  | _, _, .mut h1 => .mut (ha _ _ h1)
  | _, _, .obj a => .obj a
  | _, _, .rng h1 h2 => .rng (hk _ _ h1 (.inr ⟨rfl, _, rfl⟩) h2).1 (hk _ _ h1 (.inr ⟨rfl, _, rfl⟩) h2).2
theorem Reps.mono : ∀ {vs : List Value} {ps : List PV}, Reps al X h vs ps → Reps al' X' h' vs ps
  | _, _, .nil => .nil
  | _, _, .cons h1 h2 => .cons (Rep.mono h1) (Reps.mono h2)
end
end

section
variable {al al' : List Addr} {X : Addr → Prop} {h : Heap}
mutual
theorem Rep.anyAl : ∀ {v : Value} {p : PV}, Rep al X h v p → noMut p = true → Rep al' X h v p
  | _, _, .none, _ => .none
  | _, _, .bool b, _ => .bool b
  | _, _, .int i t, _ => .int i t
  | _, _, .str x t, _ => .str x t
  | _, _, .list h1 h2 h3, n => .list h1 h2 (Reps.anyAl h3 (by simpa [noMut] using n))
  | _, _, .tup h1 h2 h3, n => .tup h1 h2 (Reps.anyAl h3 (by simpa [noMut] using n))
  | _, _, .mut _, n => by simp [noMut] at n
  | _, _, .rng h1 h2, _ => .rng h1 h2
  | _, _, .obj a, _ => .obj a
theorem Reps.anyAl : ∀ {vs : List Value} {ps : List PV}, Reps al X h vs ps → noMuts ps = true → Reps al' X h vs ps
  | _, _, .nil, _ => .nil
  | _, _, .cons h1 h2, n => .cons (Rep.anyAl h1 (by simp only [noMuts, Bool.and_eq_true] at n; exact n.1)) (Reps.anyAl h2 (by simp only [noMuts, Bool.and_eq_true] at n; exact n.2))
end
end

section
variable {al : List Addr} {X : Addr → Prop} {h : Heap}
theorem Reps.length : ∀ {vs : List Value} {ps : List PV}, Reps al X h vs ps → vs.length = ps.length
  | _, _, .nil => rfl
  | _, _, .cons _ r => by simp [Reps.length r]
theorem Reps.get : ∀ {vs : List Value} {ps : List PV}, Reps al X h vs ps → ∀ {i : Nat} {p : PV}, ps[i]? = some p → ∃ v, vs[i]? = some v ∧ Rep al X h v p
  | _, _, .nil, _, _, e => by simp at e
  | _, _, .cons h1 r, i, p, e => by
    cases i with
    | zero => simp at e; subst e; exact ⟨_, rfl, h1⟩
    | succ i => simp at e; obtain ⟨v, hv, hr⟩ := Reps.get r e; exact ⟨v, by simpa using hv, hr⟩
theorem Reps.getV : ∀ {vs : List Value} {ps : List PV}, Reps al X h vs ps → ∀ {i : Nat} {v : Value}, vs[i]? = some v → ∃ p, ps[i]? = some p ∧ Rep al X h v p
  | _, _, .nil, _, _, e => by simp at e
  | _, _, .cons h1 r, i, p, e => by
    cases i with
    | zero => simp at e; subst e; exact ⟨_, rfl, h1⟩
    | succ i => simp at e; obtain ⟨v, hv, hr⟩ := Reps.getV r e; exact ⟨v, by simpa using hv, hr⟩
theorem Reps.append : ∀ {vs : List Value} {ps : List PV} {vs' : List Value} {ps' : List PV}, Reps al X h vs ps → Reps al X h vs' ps' → Reps al X h (vs ++ vs') (ps ++ ps')
  | _, _, _, _, .nil, r => r
  | _, _, _, _, .cons h1 t, r => .cons h1 (Reps.append t r)
theorem Reps.drop : ∀ {vs : List Value} {ps : List PV}, Reps al X h vs ps → ∀ (n : Nat), Reps al X h (vs.drop n) (ps.drop n)
  | _, _, .nil, n => by simp; exact .nil
  | _, _, .cons h1 r, n => by cases n with
    | zero => exact .cons h1 r
    | succ n => exact Reps.drop r n
theorem Reps.take : ∀ {vs : List Value} {ps : List PV}, Reps al X h vs ps → ∀ (n : Nat), Reps al X h (vs.take n) (ps.take n)
  | _, _, .nil, n => by simp; exact .nil
  | _, _, .cons h1 r, n => by cases n with
    | zero => exact .nil
    | succ n => exact .cons h1 (Reps.take r n)
theorem Reps.set : ∀ {vs : List Value} {ps : List PV}, Reps al X h vs ps → ∀ (n : Nat) {v : Value} {p : PV}, Rep al X h v p → Reps al X h (vs.set n v) (ps.set n p)
  | _, _, .nil, n, _, _, _ => by simp; exact .nil
  | _, _, .cons h1 r, n, _, _, q => by cases n with
    | zero => exact .cons q r
    | succ n => exact .cons h1 (Reps.set r n q)
theorem Rep.intOf {i : Int} {v : Value} (r : Rep al X h v (.int i)) : ∃ t, v = .int i t := by cases r; exact ⟨_, rfl⟩
theorem Rep.boolOf {b : Bool} {v : Value} (r : Rep al X h v (.bool b)) : v = .bool b := by cases r; rfl
theorem Rep.strOf {x : Str} {v : Value} (r : Rep al X h v (.str x)) : ∃ t, v = .str x t := by cases r; exact ⟨_, rfl⟩
theorem Rep.listOf {l : List PV} {v : Value} (r : Rep al X h v (.list l)) : ∃ a vs n, v = .ref a ∧ IsL h a (List.toArray vs) n ∧ ¬ X a ∧ Reps al X h vs l := by cases r; exact ⟨_, _, _, rfl, ‹_›, ‹_›, ‹_›⟩
theorem Rep.tupOf {l : List PV} {v : Value} (r : Rep al X h v (.tup l)) : ∃ a vs n, v = .ref a ∧ h.get? a = some { cls := .type "tuple", data := .seq (List.toArray vs) n } ∧ ¬ X a ∧ Reps al X h vs l := by cases r; exact ⟨_, _, _, rfl, ‹_›, ‹_›, ‹_›⟩
theorem Rep.mutOf {k : Nat} {v : Value} (r : Rep al X h v (.mut k)) : ∃ a, v = .ref a ∧ al[k]? = some a := by cases r; exact ⟨_, rfl, ‹_›⟩
theorem Rep.rngOf {a b c : Int} {v : Value} (r : Rep al X h v (.rng a b c)) : ∃ r t u w, v = .ref r ∧ IsRange h r a b c t u w ∧ ¬ X r := by cases r; exact ⟨_, _, _, _, rfl, ‹_›, ‹_›⟩
theorem Rep.objOf {a : Addr} {v : Value} (r : Rep al X h v (.obj a)) : v = .ref a := by cases r; rfl
theorem Reps.nilOf {vs : List Value} (r : Reps al X h vs []) : vs = [] := by cases r; rfl
theorem Reps.consOf {vs : List Value} {p : PV} {ps : List PV} (r : Reps al X h vs (p :: ps)) : ∃ v vs', vs = v :: vs' ∧ Rep al X h v p ∧ Reps al X h vs' ps := by cases r; exact ⟨_, _, rfl, ‹_›, ‹_›⟩
end

/-- the world of the law's call -/
structure Cx where
  prog : Program
  w : World
  calm : Bool
  h0 : Heap
  mg : Str → Option Value
  mb : Str → Option Value
  g : h0.Ns mainGlobals mg
  b : h0.Ns builtinsNs mb
  lim : h0.NoLimit
  builtins : ∀ x : Str, x ≠ "__name__" → mb x = bootBuiltins x

noncomputable abbrev Cx.M (C : Cx) : Model := model C.prog C.w

/-- what is being handled: nothing, or an exception without a context -/
noncomputable def HandOk (calm : Bool) (hd : Option Value) (h : Heap) : Prop := hd = none ∨ calm = false ∧ ∃ e o vs, hd = some (.ref e) ∧ h.get? e = some o ∧ o.data = .fields vs ∧ vs[2]? = some .none ∧ ∃ c, o.cls = .ref c

structure Muts (C : Cx) (al : List Addr) (st : Sto) (h : Heap) : Prop where
  len : al.length = st.length
  nodup : al.Nodup
  fresh : ∀ a ∈ al, C.h0.get? a = none ∧ ∃ o, h.get? a = some o ∧ ∃ its n, o.data = .seq its n
  is : ∀ (k : Nat) (l : List PV), st[k]? = some (some l) → ∃ a vs n, al[k]? = some a ∧ IsL h a (List.toArray vs) n ∧ Reps al (Live al st) h vs l ∧ noMuts l = true

structure Amb (C : Cx) (hd : Option Value) (al : List Addr) (st : Sto) (h : Heap) : Prop where
  base : ∀ b o, C.h0.get? b = some o → h.get? b = some o
  hand : HandOk C.calm hd h
  muts : Muts C al st h

structure EnvSt (C : Cx) (env : Env) (al : List Addr) (st : Sto) (rho : Vars) (h : Heap) : Prop where
  locs : ∃ m, h.Ns env.locals m ∧ ∀ x p, env.kindOf x = some .local → rho x = some p → ∃ v, m x = some v ∧ Rep al (Live al st) h v p
  cells : ∀ x c, env.cells.lookup x = some c → ∃ ov, h.IsCell c ov ∧ ∀ p, rho x = some p → ∃ v, ov = some v ∧ Rep al (Live al st) h v p
  apart : env.cells.Pairwise fun x y => x.2 ≠ y.2
  isCells : ∀ x c, (x, c) ∈ env.cells → ∃ ov, h.IsCell c ov
  newL : C.h0.get? env.locals = none
  newC : ∀ x c, (x, c) ∈ env.cells → C.h0.get? c = none

structure Kept (al : List Addr) (st : Sto) (al' : List Addr) (st' : Sto) (h h' : Heap) : Prop where
  addr : ∀ (k : Nat) (a : Addr), al[k]? = some a → al'[k]? = some a
  keep : ∀ b o, h.get? b = some o → ¬ Live al st b → h'.get? b = some o ∧ ¬ Live al' st' b

theorem Kept.refl {al : List Addr} {st : Sto} {h : Heap} : Kept al st al st h h := ⟨fun _ _ e => e, fun _ _ e n => ⟨e, n⟩⟩
theorem Kept.trans {al al' al'' : List Addr} {st st' st'' : Sto} {h h' h'' : Heap} (x : Kept al st al' st' h h') (y : Kept al' st' al'' st'' h' h'') : Kept al st al'' st'' h h'' :=
  ⟨fun k a e => y.addr k a (x.addr k a e), fun b o e n => y.keep b o (x.keep b o e n).1 (x.keep b o e n).2⟩
theorem Kept.rep {al al' : List Addr} {st st' : Sto} {h h' : Heap} (x : Kept al st al' st' h h') {v : Value} {p : PV} (r : Rep al (Live al st) h v p) : Rep al' (Live al' st') h' v p :=
  Rep.mono (fun b o e _ n => x.keep b o e n) x.addr r
theorem Kept.reps {al al' : List Addr} {st st' : Sto} {h h' : Heap} (x : Kept al st al' st' h h') {v : List Value} {p : List PV} (r : Reps al (Live al st) h v p) : Reps al' (Live al' st') h' v p :=
  Reps.mono (fun b o e _ n => x.keep b o e n) x.addr r
/-- a heap that only grew -/
theorem Kept.grow {al : List Addr} {st : Sto} {h h' : Heap} (k : ∀ b o, h.get? b = some o → h'.get? b = some o) : Kept al st al st h h' := ⟨fun _ _ e => e, fun b o e n => ⟨k b o e, n⟩⟩

theorem Muts.live {C : Cx} {al : List Addr} {st : Sto} {h : Heap} (m : Muts C al st h) {b : Addr} (l : Live al st b) : ∃ its n, IsL h b its n := by
  obtain ⟨k, l, e1, e2⟩ := l
  obtain ⟨a, vs, n, e3, i, _⟩ := m.is k l e1
  rw [e2] at e3; cases e3; exact ⟨_, _, i⟩
theorem HandOk.keep {calm : Bool} {hd : Option Value} {h h' : Heap} (x : HandOk calm hd h) (k : ∀ b o, h.get? b = some o → (∀ its n, o.data ≠ .seq its n) → NotVar o → (∀ T, o.cls ≠ .type T) → h'.get? b = some o) : HandOk calm hd h' := by
  rcases x with x | ⟨hc, e, o, vs, e1, e2, e3, e4, c, e5⟩
  · exact .inl x
  · exact .inr ⟨hc, e, o, vs, e1, k e o e2 (by rw [e3]; nofun) ⟨by rw [e3]; nofun, by rw [e3]; nofun⟩ (by rw [e5]; nofun), e3, e4, c, e5⟩

/-- the ambient holds on where nothing of the mutable lists is changed and the rest is kept -/
theorem Amb.grow {C : Cx} {hd : Option Value} {al : List Addr} {st : Sto} {h h' : Heap} (x : Amb C hd al st h) (k : ∀ b o, h.get? b = some o → h'.get? b = some o) : Amb C hd al st h' where
  base := fun b o e => k b o (x.base b o e)
  hand := x.hand.keep fun b o e _ _ _ => k b o e
  muts := ⟨x.muts.len, x.muts.nodup, fun a ha => ⟨(x.muts.fresh a ha).1, let ⟨o, e, q⟩ := (x.muts.fresh a ha).2; ⟨o, k _ _ e, q⟩⟩, fun i l e =>
    let ⟨a, vs, n, e1, e2, e3, e4⟩ := x.muts.is i l e
    ⟨a, vs, n, e1, k _ _ e2, Reps.mono (fun b o e _ nl => ⟨k b o e, nl⟩) (fun _ _ e => e) e3, e4⟩⟩
theorem EnvSt.kept {C : Cx} {env : Env} {al al' : List Addr} {st st' : Sto} {rho : Vars} {h h' : Heap} (x : EnvSt C env al st rho h) (m : Muts C al st h) (k : Kept al st al' st' h h') : EnvSt C env al' st' rho h' where
  locs := by
    obtain ⟨mp, n, l⟩ := x.locs
    have keep : ∀ b o, h.get? b = some o → (∀ its n, o.data ≠ .seq its n) → h'.get? b = some o := fun b o e ns => (k.keep b o e fun lv => by
      obtain ⟨its, n, i⟩ := m.live lv; unfold IsL at i; rw [e] at i; cases i; exact ns _ _ rfl).1
    obtain ⟨o, es, ep, e1, e2, e3⟩ := n
    exact ⟨mp, ⟨o, es, ep, keep _ _ e1 (by rw [e2]; nofun), e2, e3⟩, fun y p hy e => let ⟨v, hv, r⟩ := l y p hy e; ⟨v, hv, k.rep r⟩⟩
  cells := fun y c e => by
    obtain ⟨ov, ⟨o, e1, e2⟩, l⟩ := x.cells y c e
    refine ⟨ov, ⟨o, (k.keep _ _ e1 fun lv => ?_).1, e2⟩, fun p e => let ⟨v, hv, r⟩ := l p e; ⟨v, hv, k.rep r⟩⟩
    obtain ⟨its, n, i⟩ := m.live lv; unfold IsL at i; rw [e1] at i; cases i; cases e2
  apart := x.apart
  isCells := fun y c e => by
    obtain ⟨ov, ⟨o, e1, e2⟩⟩ := x.isCells y c e
    refine ⟨ov, ⟨o, (k.keep _ _ e1 fun lv => ?_).1, e2⟩⟩
    obtain ⟨its, n, i⟩ := m.live lv; unfold IsL at i; rw [e1] at i; cases i; cases e2
  newL := x.newL
  newC := x.newC

theorem Amb.calm {C : Cx} {hd : Option Value} {al : List Addr} {st : Sto} {h : Heap} (x : Amb C hd al st h) (hc : C.calm = true) : hd = none := by
  rcases x.hand with e | ⟨q, _⟩
  · exact e
  · rw [hc] at q; cases q

theorem get_ne {h : Heap} {b c : Addr} {o : Obj} (hb : h.get? b = none) (hc : h.get? c = some o) : c ≠ b := fun q => by
  rw [q, hb] at hc; cases hc
theorem none_of_grow {h h' : Heap} {b : Addr} (k : ∀ b o, h.get? b = some o → h'.get? b = some o) (hb : h'.get? b = none) : h.get? b = none := by
  cases g : h.get? b with
  | none => rfl
  | some o => exact nomatch hb.symm.trans (k _ _ g)
theorem not_live0 {al : List Addr} {b : Addr} : ¬ Live al [] b := fun ⟨_, _, q, _⟩ => by simp at q
theorem none_push {h : Heap} {b : Addr} (hb : h.objs.size ≤ b) : h.get? b = none := by
  cases g : h.get? b with
  | none => rfl
  | some o => exact absurd (Heap.lt_size g) (Nat.not_lt.mpr hb)
structure Room (n : Nat) (A : Around) : Prop where
  depth : A.depth + n < recursionLimit
  units : A.units + 10 * n < cLine
theorem Room.mono {m n : Nat} {A : Around} (r : Room n A) (h : m ≤ n) : Room m A := ⟨by have := r.depth; lia, by have := r.units; lia⟩
theorem Room.in1 {n : Nat} {A : Around} (r : Room (n + 1) A) : Room n A.in1 := ⟨by have := r.depth; simp only [Around.in1_depth]; lia, by have := r.units; simp only [Around.in1_units]; lia⟩
theorem Room.deeper {n : Nat} {A : Around} {env : Env} (r : Room (n + 1) A) : Room n (A.deeper env) := ⟨by have := r.depth; show A.depth + 1 + n < _; lia, by have := r.units; show A.units + 3 + 10 * n < _; lia⟩

structure EnvOk (sc : Scope) (env : Env) : Prop where
  scope : env.scope = sc
  globals : env.globals = mainGlobals
  builtins : env.builtins = builtinsNs
  fn : sc.kind = .function
  kinds : ∀ x, sc.names.lookup x = some .cell → (env.cells.lookup x).isSome = true
  cellKind : ∀ x c, env.cells.lookup x = some c → sc.names.lookup x = some .cell

/-- where an expression-like tree leaves us -/
inductive JEP {B G : Type} (C : Cx) (hd : Option Value) (env : Env) (al : List Addr) (st : Sto) (rho : Vars) (rel : List Addr → Sto → Heap → B → G → Prop) (Q : G → Sto → Prop) (s : Shared) (b : B) (s' : Shared) : Prop
  | mk (h' : Heap) (tk : Nat) (al' : List Addr) (st' : Sto) (g : G) (e : s' = { s with heap := h', toks := tk }) (k : Kept al st al' st' s.heap h') (a : Amb C hd al' st' h') (x : EnvSt C env al' st' rho h') (r : rel al' st' h' b g) (q : Q g st')
/-- where a call leaves us -/
inductive CJP (C : Cx) (hd : Option Value) (al : List Addr) (st : Sto) (Q : PV → Sto → Prop) (s : Shared) (v : Value) (s' : Shared) : Prop
  | mk (h' : Heap) (tk : Nat) (al' : List Addr) (st' : Sto) (p : PV) (e : s' = { s with heap := h', toks := tk }) (k : Kept al st al' st' s.heap h') (a : Amb C hd al' st' h') (r : Rep al' (Live al' st') h' v p) (q : Q p st')

/-- an expression-like tree: the frame's names stay -/
noncomputable def JE (C : Cx) (n : Nat) (sc : Scope) {B G : Type} (rel : List Addr → Sto → Heap → B → G → Prop) (t : Env → Sem B) (rho : Vars) (st : Sto) (Q : G → Sto → Prop) : Prop :=
  ∀ (A : Around) (env : Env) (s : Shared) (al : List Addr), Room n A → EnvOk sc env → Amb C A.handled al st s.heap → EnvSt C env al st rho s.heap →
    wpAny C.M A (t env) (JEP C A.handled env al st rho rel Q s) (fun _ _ => False) s

theorem JE.mono {C : Cx} {n : Nat} {sc : Scope} {B G : Type} {rel : List Addr → Sto → Heap → B → G → Prop} {t : Env → Sem B} {rho : Vars} {st : Sto} {Q Q' : G → Sto → Prop} (j : JE C n sc rel t rho st Q)
    (h : ∀ g st', Q g st' → Q' g st') : JE C n sc rel t rho st Q' := fun A env s al r o a x =>
  wpAny_mono (j A env s al r o a x) (fun _ _ ⟨h', tk, al', st', g, e, q1, q2, q3, q4, q5⟩ => ⟨h', tk, al', st', g, e, q1, q2, q3, q4, h _ _ q5⟩) fun _ _ f => f
theorem JE.lift {C : Cx} {m n : Nat} {sc : Scope} {B G : Type} {rel : List Addr → Sto → Heap → B → G → Prop} {t : Env → Sem B} {rho : Vars} {st : Sto} {Q : G → Sto → Prop} (j : JE C m sc rel t rho st Q)
    (h : m ≤ n) : JE C n sc rel t rho st Q := fun A env s al r o a x => j A env s al (r.mono h) o a x

theorem JE.use {C : Cx} {n : Nat} {sc : Scope} {B G : Type} {rel : List Addr → Sto → Heap → B → G → Prop} {t : Env → Sem B} {rho : Vars} {st : Sto} {Q : G → Sto → Prop} (j : JE C n sc rel t rho st Q)
    {A : Around} {env : Env} {s : Shared} {al : List Addr} {K : B → Shared → Prop} {E : Value → Shared → Prop} (r : Room n A) (o : EnvOk sc env) (a : Amb C A.handled al st s.heap) (x : EnvSt C env al st rho s.heap)
    (k : ∀ b h' tk al' st' g, Kept al st al' st' s.heap h' → Amb C A.handled al' st' h' → EnvSt C env al' st' rho h' → rel al' st' h' b g → Q g st' → K b { s with heap := h', toks := tk }) : wpAny C.M A (t env) K E s :=
  wpAny_mono (j A env s al r o a x) (fun b _ ⟨h', tk, al', st', g, e, q1, q2, q3, q4, q5⟩ => e ▸ k b h' tk al' st' g q1 q2 q3 q4 q5) fun _ _ f => f.elim

/-- a tree of a known answer where no mutable list is about -/
theorem JE.use1 {C : Cx} {n : Nat} {sc : Scope} {B G : Type} {rel : List Addr → Sto → Heap → B → G → Prop} {t : Env → Sem B} {rho : Vars} {g0 : G} (j : JE C n sc rel t rho [] fun g st' => g = g0 ∧ st' = [])
    {A : Around} {env : Env} {s : Shared} {hd : Option Value} {K : B → Shared → Prop} {E : Value → Shared → Prop} (hA : A.handled = hd) (r : Room n A) (o : EnvOk sc env) (a : Amb C hd [] [] s.heap) (x : EnvSt C env [] [] rho s.heap)
    (k : ∀ b h' tk, (∀ b o, s.heap.get? b = some o → h'.get? b = some o) → Amb C hd [] [] h' → EnvSt C env [] [] rho h' → rel [] [] h' b g0 → K b { s with heap := h', toks := tk }) : wpAny C.M A (t env) K E s := by
  subst hA
  refine j.use r o a x fun b h' tk al' st' g k1 a1 e1 r1 q1 => ?_
  obtain ⟨rfl, rfl⟩ := q1
  obtain rfl : al' = [] := List.length_eq_zero_iff.mp a1.muts.len
  exact k b h' tk (fun b o g => (k1.keep b o g not_live0).1) a1 e1 r1

noncomputable abbrev relV (al : List Addr) (st : Sto) (h : Heap) (v : Value) (p : PV) : Prop := Rep al (Live al st) h v p
noncomputable abbrev relVs (al : List Addr) (st : Sto) (h : Heap) (v : List Value) (p : List PV) : Prop := Reps al (Live al st) h v p
noncomputable abbrev relB (_ : List Addr) (_ : Sto) (_ : Heap) (b : Bool) (p : Bool) : Prop := b = p

noncomputable abbrev EV (C : Cx) (n : Nat) (sc : Scope) (e : Expr) (rho : Vars) (st : Sto) (Q : PV → Sto → Prop) : Prop := JE C n sc relV (eval e) rho st Q
theorem EV.use1o {C : Cx} {n : Nat} {sc : Scope} {t : Expr} {rho : Vars} {p : Addr} (j : EV C n sc t rho [] fun g st' => g = .obj p ∧ st' = []) {A : Around} {env : Env} {s : Shared} {hd : Option Value} {K : Value → Shared → Prop} {E : Value → Shared → Prop}
    (hA : A.handled = hd) (r : Room n A) (o : EnvOk sc env) (a : Amb C hd [] [] s.heap) (x : EnvSt C env [] [] rho s.heap)
    (k : ∀ h' tk, (∀ b o, s.heap.get? b = some o → h'.get? b = some o) → Amb C hd [] [] h' → EnvSt C env [] [] rho h' → K (.ref p) { s with heap := h', toks := tk }) : wpAny C.M A (eval t env) K E s :=
  JE.use1 j hA r o a x fun v h' tk k1 a1 e1 r1 => by cases r1.objOf; exact k h' tk k1 a1 e1
theorem EV.use1s {C : Cx} {n : Nat} {sc : Scope} {t : Expr} {rho : Vars} {p : Str} (j : EV C n sc t rho [] fun g st' => g = .str p ∧ st' = []) {A : Around} {env : Env} {s : Shared} {hd : Option Value} {K : Value → Shared → Prop} {E : Value → Shared → Prop}
    (hA : A.handled = hd) (r : Room n A) (o : EnvOk sc env) (a : Amb C hd [] [] s.heap) (x : EnvSt C env [] [] rho s.heap)
    (k : ∀ u h' tk, (∀ b o, s.heap.get? b = some o → h'.get? b = some o) → Amb C hd [] [] h' → EnvSt C env [] [] rho h' → K (.str p u) { s with heap := h', toks := tk }) : wpAny C.M A (eval t env) K E s :=
  JE.use1 j hA r o a x fun v h' tk k1 a1 e1 r1 => by obtain ⟨u, rfl⟩ := r1.strOf; exact k u h' tk k1 a1 e1
/-- a test -/
noncomputable abbrev TV (C : Cx) (n : Nat) (sc : Scope) (e : Expr) (rho : Vars) (st : Sto) (Q : Bool → Sto → Prop) : Prop := JE C n sc relB (fun env => isTrue e env (eval e env)) rho st Q
noncomputable abbrev EVs (C : Cx) (n : Nat) (sc : Scope) (pos : Option Pos) (es : List Expr) (rho : Vars) (st : Sto) (Q : List PV → Sto → Prop) : Prop :=
  JE C n sc relVs (fun env => spliced (match pos with | some p => backTo p (starEach es env) | none => starEach es env)) rho st Q

/-- a call of a def of the text -/
noncomputable def CJ (C : Cx) (n : Nat) (name : Str) (ps : List PV) (st : Sto) (Q : PV → Sto → Prop) : Prop :=
  ∀ (A : Around) (s : Shared) (al : List Addr) (vs : List Value) (a : Addr), Room n A → C.mg name = some (.ref a) → Amb C A.handled al st s.heap → Reps al (Live al st) s.heap vs ps →
    wpAny C.M A (call (.ref a) vs) (CJP C A.handled al st Q s) (fun _ _ => False) s

theorem CJ.mono {C : Cx} {n : Nat} {name : Str} {ps : List PV} {st : Sto} {Q Q' : PV → Sto → Prop} (j : CJ C n name ps st Q) (h : ∀ g st', Q g st' → Q' g st') : CJ C n name ps st Q' := fun A s al vs a r e x y =>
  wpAny_mono (j A s al vs a r e x y) (fun _ _ ⟨h', tk, al', st', g, e, q1, q2, q4, q5⟩ => ⟨h', tk, al', st', g, e, q1, q2, q4, h _ _ q5⟩) fun _ _ f => f
theorem CJ.lift {C : Cx} {m n : Nat} {name : Str} {ps : List PV} {st : Sto} {Q : PV → Sto → Prop} (j : CJ C m name ps st Q) (h : m ≤ n) : CJ C n name ps st Q := fun A s al vs a r e x y => j A s al vs a (r.mono h) e x y

/-- a call of a built-in thing -/
noncomputable def BJ (C : Cx) (n : Nat) (f : Value) (ps : List PV) (st : Sto) (Q : PV → Sto → Prop) : Prop :=
  ∀ (A : Around) (s : Shared) (al : List Addr) (vs : List Value), Room n A → Amb C A.handled al st s.heap → Reps al (Live al st) s.heap vs ps →
    wpAny C.M A (call f vs) (CJP C A.handled al st Q s) (fun _ _ => False) s

end Mine
end

-- MExpr
section
set_option maxRecDepth 100000
namespace Mine
open PySem PySem.W PyProof.Rows

noncomputable def Fits (x : Int) : Prop := x.natAbs < 2 ^ 8000

theorem Fits.bits {x : Int} (h : Fits x) : Builtin.Int.intBits x ≤ 8000 := PySem.intBits_le_iff.mpr h
theorem Fits.mul {a b : Int} (ha : Fits a) (hb : Fits b) : IntMulOk a b :=
  IntMulOk.of_bits (Nat.le_trans ha.bits (by decide)) (Nat.le_trans hb.bits (by decide))
theorem Fits.noPylong {x y : Int} (h : Fits y) : Builtin.divisionGoesByPylong x y = false := by
  unfold Builtin.divisionGoesByPylong
  have : ¬ ((if (y == 0) = true then 0 else y.natAbs.log2 / 30 + 1) > 300) := by
    by_cases h0 : (y == 0) = true
    · rw [if_pos h0]; lia
    · rw [if_neg h0]
      have hne : y.natAbs ≠ 0 := by simpa using h0
      have : y.natAbs.log2 < 8000 := (Nat.log2_lt hne).mpr h
      lia
  simp only [Bool.and_eq_false_iff, decide_eq_false_iff_not]
  exact .inl this
theorem Fits.pow {a b : Int} (ha : Fits a) (h0 : 0 ≤ b) (h1 : b ≤ 1000) : ¬ Builtin.Int.intTooBig (((Builtin.Int.intBits a : Nat) : Int) * b) = true := by
  have := ha.bits
  unfold Builtin.Int.intTooBig bitsLine
  simp only [decide_eq_true_eq]
  have h2 : ((Builtin.Int.intBits a : Nat) : Int) * b ≤ 8000 * 1000 := Int.mul_le_mul (by lia) h1 h0 (by lia)
  have : (8000 * 1000 : Int) ≤ ((2 ^ 27 : Nat) : Int) := by decide
  lia

section
variable {C : Cx} {n : Nat} {sc : Scope} {rho : Vars} {st : Sto}

theorem EV_local {x : Str} {pos : Pos} {p : PV} {Q : PV → Sto → Prop} (h : Q p st) (hr : rho x = some p) (hl : sc.names.lookup x = some .local) (hd : (x == ("__debug__" : Str)) = false) :
    EV C n sc (.Name x pos) rho st Q := by
  intro A env s al r o a e
  obtain ⟨m, ns, hm⟩ := e.locs
  have hk : env.kindOf x = some .local := by unfold Env.kindOf; rw [o.scope]; exact hl
  obtain ⟨v, hv, rv⟩ := hm x p hk hr
  exact wpAny_Name (wpAny_loadName_local (by rw [o.scope]; exact o.fn) hk ns hv ⟨s.heap, s.toks, al, st, p, rfl, .refl, a, e, rv, h⟩) hd

theorem EV_cell {x : Str} {pos : Pos} {p : PV} {Q : PV → Sto → Prop} (h : Q p st) (hr : rho x = some p) (hl : sc.names.lookup x = some .cell) (hd : (x == ("__debug__" : Str)) = false) :
    EV C n sc (.Name x pos) rho st Q := by
  intro A env s al r o a e
  have hk : env.kindOf x = some .cell := by unfold Env.kindOf; rw [o.scope]; exact hl
  obtain ⟨c, hc⟩ := Option.isSome_iff_exists.mp (o.kinds x hl)
  obtain ⟨ov, hcell, hv⟩ := e.cells x c hc
  obtain ⟨v, rfl, rv⟩ := hv p hr
  exact wpAny_Name (wpAny_loadName_cell (by rw [o.scope]; exact o.fn) hk hc hcell ⟨s.heap, s.toks, al, st, p, rfl, .refl, a, e, rv, h⟩) hd

theorem EV_int {i : Int} {k : Nat} {pos : Pos} {Q : PV → Sto → Prop} (h : Q (.int i) st) : EV C n sc (.Constant (.int i) k pos) rho st Q :=
  fun _ _ s al _ _ a e => wpAny_Constant_int ⟨s.heap, _, al, st, _, rfl, .refl, a, e, .int _ _, h⟩
theorem EV_bool {b : Bool} {k : Nat} {pos : Pos} {Q : PV → Sto → Prop} (h : Q (.bool b) st) : EV C n sc (.Constant (.bool b) k pos) rho st Q :=
  fun _ _ s al _ _ a e => PyProof.Rows.Constant_bool ⟨s.heap, _, al, st, _, rfl, .refl, a, e, .bool _, h⟩
theorem EV_str {x : Str} {k : Nat} {pos : Pos} {Q : PV → Sto → Prop} (h : Q (.str x) st) : EV C n sc (.Constant (.str x) k pos) rho st Q :=
  fun _ _ s al _ _ a e => Calls.Constant_str ⟨s.heap, _, al, st, _, rfl, .refl, a, e, .str _ _, h⟩

/-- what a binary operation gives -/
inductive BinI (R : PV → Prop) : Operator → PV → PV → Prop
  | add {a b : Int} (h : R (.int (a + b))) : BinI R .Add (.int a) (.int b)
  | sub {a b : Int} (h : R (.int (a - b))) : BinI R .Sub (.int a) (.int b)
  | mul {a b : Int} (h1 : Fits a) (h2 : Fits b) (h : R (.int (a * b))) : BinI R .Mult (.int a) (.int b)
  | div {a b : Int} (h1 : b ≠ 0) (h2 : Fits b) (h : R (.int (a.fdiv b))) : BinI R .FloorDiv (.int a) (.int b)
  | mod {a b : Int} (h1 : b ≠ 0) (h : R (.int (a.fmod b))) : BinI R .Mod (.int a) (.int b)
  | pow {a b : Int} (h0 : 0 ≤ b) (h1 : b ≤ 1000) (h2 : Fits a) (h : R (.int (a ^ b.toNat))) : BinI R .Pow (.int a) (.int b)
  | cat {l l' : List PV} (h1 : l.length + l'.length ≤ 1000000) (h : R (.list (l ++ l'))) : BinI R .Add (.list l) (.list l')
  | scat {a b : Str} (h1 : a.length + b.length ≤ 1000000) (h : R (.str (a ++ b))) : BinI R .Add (.str a) (.str b)
  | rep {l : List PV} {k : Int} (h0 : 0 ≤ k) (h1 : l.length * k.toNat ≤ 1000000) (h2 : k ≤ 1000000) (h : R (.list (List.replicate k.toNat l).flatten)) : BinI R .Mult (.list l) (.int k)
noncomputable abbrev BinOk (op : Operator) (p q : PV) (R : PV → Prop) : Prop := BinI R op p q

/-- what a heap that only grew leaves -/
theorem fin_grow {hd : Option Value} {env : Env} {al : List Addr} {h h' : Heap} (a : Amb C hd al st h) (e : EnvSt C env al st rho h) (k : ∀ b o, h.get? b = some o → h'.get? b = some o) :
    Kept al st al st h h' ∧ Amb C hd al st h' ∧ EnvSt C env al st rho h' := ⟨.grow k, a.grow k, e.kept a.muts (.grow k)⟩

theorem live_none {hd : Option Value} {al : List Addr} {h : Heap} {b : Addr} (a : Amb C hd al st h) (hb : h.get? b = none) : ¬ Live al st b := fun l => by
  obtain ⟨its, m, i⟩ := a.muts.live l
  unfold IsL at i; rw [hb] at i; cases i
theorem get_size_none (h : Heap) : h.get? h.objs.size = none := by
  cases e : h.get? h.objs.size with
  | none => rfl
  | some o => exact absurd (Heap.lt_size e) (Nat.lt_irrefl _)

theorem foldl_append_flatten (l : List (Array Value)) : ∀ acc : Array Value, (List.foldl (fun x1 x2 => x1 ++ x2) acc l).toList = acc.toList ++ (l.map Array.toList).flatten := by
  induction l with
  | nil => intro acc; simp
  | cons x r ih => intro acc; rw [List.foldl_cons, ih]; simp
theorem Reps.rep {al : List Addr} {X : Addr → Prop} {h : Heap} {vs : List Value} {ps : List PV} (r : Reps al X h vs ps) : ∀ k : Nat, Reps al X h (List.replicate k vs).flatten (List.replicate k ps).flatten
  | 0 => .nil
  | k + 1 => by simp only [List.replicate_succ, List.flatten_cons]; exact Reps.append r (Reps.rep r k)

theorem binary_ok {op : Operator} {p q : PV} {R : PV → Prop} {hd : Option Value} {A : Around} {s : Shared} {al : List Addr} {va vb : Value}
    (a : Amb C hd al st s.heap) (ra : Rep al (Live al st) s.heap va p) (rb : Rep al (Live al st) s.heap vb q) (h : BinOk op p q R) :
    wpAny C.M A (binaryOp op va vb) (fun v s' => ∃ h' tk g, s' = { s with heap := h', toks := tk } ∧ (∀ b o, s.heap.get? b = some o → h'.get? b = some o) ∧ Rep al (Live al st) h' v g ∧ R g) (fun _ _ => False) s := by
  cases h with
  | add h =>
    obtain ⟨t, rfl⟩ := ra.intOf; obtain ⟨u, rfl⟩ := rb.intOf
    exact AutoIntOps.add_0 ⟨s.heap, _, _, rfl, fun _ _ e => e, .int _ _, h⟩
  | sub h =>
    obtain ⟨t, rfl⟩ := ra.intOf; obtain ⟨u, rfl⟩ := rb.intOf
    exact sub_int ⟨s.heap, _, _, rfl, fun _ _ e => e, .int _ _, h⟩
  | mul h1 h2 h =>
    obtain ⟨t, rfl⟩ := ra.intOf; obtain ⟨u, rfl⟩ := rb.intOf
    exact mul_int ⟨s.heap, _, _, rfl, fun _ _ e => e, .int _ _, h⟩ (h1.mul h2)
  | div h1 h2 h =>
    obtain ⟨t, rfl⟩ := ra.intOf; obtain ⟨u, rfl⟩ := rb.intOf
    exact AutoIntOps.floordiv_1 (by simpa using h1) (by rw [h2.noPylong]; exact Bool.false_ne_true) ⟨s.heap, _, _, rfl, fun _ _ e => e, .int _ _, h⟩
  | mod h1 h =>
    obtain ⟨t, rfl⟩ := ra.intOf; obtain ⟨u, rfl⟩ := rb.intOf
    exact AutoIntOps.mod_1 (by simpa using h1) ⟨s.heap, _, _, rfl, fun _ _ e => e, .int _ _, h⟩
  | @pow x y h0 h1 hf h =>
    obtain ⟨t, rfl⟩ := ra.intOf; obtain ⟨u, rfl⟩ := rb.intOf
    by_cases hb : (y == 0) = true
    · have : y = 0 := by simpa using hb
      subst this
      exact AutoIntOps.pow_0 (by lia) hb ⟨s.heap, _, _, rfl, fun _ _ e => e, .int _ _, by simpa using h⟩
    · by_cases hx : (x == 0 || x == 1) = true
      · have e : x ^ y.toNat = x := by
          have hy : y.toNat ≠ 0 := by have : y ≠ 0 := by simpa using hb
                                      lia
          simp only [Bool.or_eq_true, beq_iff_eq] at hx
          rcases hx with rfl | rfl
          · exact Int.zero_pow hy
          · exact Int.one_pow
        rw [e] at h
        exact AutoIntOps.pow_1 (by lia) hb hx ⟨s.heap, _, _, rfl, fun _ _ e => e, .int _ _, h⟩
      · by_cases hm : (x == -1) = true
        · have e : x ^ y.toNat = if (y % 2 == 0) = true then 1 else -1 := by
            have : x = -1 := by simpa using hm
            subst this
            have key : ∀ k : Nat, (-1 : Int) ^ k = if k % 2 = 0 then 1 else -1 := by
              intro k
              induction k with
              | zero => rfl
              | succ k ih => rw [Int.pow_succ, ih]; split <;> split <;> first | lia | rfl
            rw [key]
            by_cases h2 : y.toNat % 2 = 0
            · rw [if_pos h2, if_pos (by simp only [beq_iff_eq]; lia)]
            · rw [if_neg h2, if_neg (by simp only [beq_iff_eq]; lia)]
          rw [e] at h
          exact AutoIntOps.pow_2 (by lia) hb hx hm ⟨s.heap, _, _, rfl, fun _ _ e => e, .int _ _, h⟩
        · exact AutoIntOps.pow_4 (by lia) hb hx hm (hf.pow h0 h1) ⟨s.heap, _, _, rfl, fun _ _ e => e, .int _ _, h⟩
  | cat h1 h =>
    obtain ⟨l, vs, m, rfl, i, hl, r⟩ := ra.listOf; obtain ⟨l', vs', m', rfl, i', hl', r'⟩ := rb.listOf
    have e1 := r.length; have e2 := r'.length
    refine P.add_list i i' ⟨_, s.toks, _, rfl, fun b o e => Heap.get?_push_of_some _ e, Rep.list (vs := vs ++ vs') (n := 0) (by simpa [IsL] using Heap.get?_push_size s.heap (o := { cls := .type "list", data := .seq (vs.toArray ++ vs'.toArray) }) rfl) (live_none a (get_size_none _)) ?_, h⟩ (by simp only [List.size_toArray, sizeLine_eq]; lia)
    exact Reps.mono (fun b o e _ nl => ⟨Heap.get?_push_of_some _ e, nl⟩) (fun _ _ e => e) (r.append r')
  | scat h1 h =>
    obtain ⟨t, rfl⟩ := ra.strOf; obtain ⟨u, rfl⟩ := rb.strOf
    exact SB.add (fun t' k => ⟨s.heap, k, _, rfl, fun _ _ e => e, .str _ _, h⟩) (by rw [sizeLine_eq]; lia)
  | @rep x k h0 h1 h2 h =>
    obtain ⟨l, vs, m, rfl, i, hl, r⟩ := ra.listOf; obtain ⟨u, rfl⟩ := rb.intOf
    have e1 := r.length
    have e9 : vs.toArray.size = x.length := by simpa using e1
    refine wpAny_binaryOp_repeat_ref (T := "list") (U := "int") (by decide) ⟨_, i, rfl⟩ (fun s' => typeIs_int s' k u) noFill_list_mul F.fills_int_mul F.slot_int_rmul repeat_list F.slot_int_index.lookup
      (call_meets F.slot_int_rmul (typeIs_int s k u) F.entry_int_rmul (F.args_int_rmul_2 _ _) (int___rmul___int_list k u l vs.toArray m)
      ⟨i, rfl, ⟨_, i, rfl⟩, call_meets F.slot_list_mul ⟨_, i, rfl⟩ F.entry_list_mul (F.args_list_mul_2 _ _)
        (AutoListH.list___mul___list_int_3 l vs.toArray m k u (by simp [Builtin.List.listFitsIndex]; lia) (by rw [e9]; lia) (by simp only [Builtin.List.listTooLong, sizeLine_eq, decide_eq_true_eq, e9]; lia))
        ⟨i, ⟨_, s.toks, _, rfl, fun b o e => Heap.get?_push_of_some _ e, Rep.list (vs := (List.replicate k.toNat vs).flatten) (n := 0) ?_ (live_none a (get_size_none _)) ?_, h⟩⟩⟩)
    · have e : (List.replicate k.toNat vs).flatten.toArray = List.foldl (fun x1 x2 => x1 ++ x2) #[] (List.replicate (if vs.toArray.isEmpty = true then 0 else k.toNat) vs.toArray) := by
        rw [← Array.toList_inj, foldl_append_flatten]
        cases vs with
        | nil => simp
        | cons v w => simp
      rw [e]
      exact Heap.get?_push_size s.heap rfl
    · exact Reps.mono (fun b o e _ nl => ⟨Heap.get?_push_of_some _ e, nl⟩) (fun _ _ e => e) (r.rep k.toNat)

theorem EV_bin {l r : Expr} {op : Operator} {pos : Pos} {Q : PV → Sto → Prop} (h : EV C n sc l rho st fun p st1 => EV C n sc r rho st1 fun q st2 => BinOk op p q fun g => Q g st2) :
    EV C n sc (.BinOp l op r pos) rho st Q := by
  intro A env s al rm o a e
  refine wpAny_BinOp (h.use rm o a e fun va h1 tk1 al1 st1 p k1 a1 e1 r1 q1 => q1.use (s := { s with heap := h1, toks := tk1 }) rm o a1 e1 fun vb h2 tk2 al2 st2 q k2 a2 e2 r2 q2 => ?_)
  refine wpAny_mono (binary_ok (s := { s with heap := h2, toks := tk2 }) a2 (k2.rep r1) r2 q2) (fun v s' hh => ?_) fun _ _ f => f.elim
  obtain ⟨h3, tk3, g, rfl, k3, r3, q3⟩ := hh
  obtain ⟨x1, x2, x3⟩ := fin_grow a2 e2 k3
  exact ⟨h3, tk3, al2, st2, g, rfl, (k1.trans k2).trans x1, x2, x3, r3, q3⟩

theorem EV_neg {x : Expr} {pos : Pos} {Q : PV → Sto → Prop} (h : EV C n sc x rho st fun p st1 => ∃ i, p = .int i ∧ Q (.int (-i)) st1) : EV C n sc (.UnaryOp .USub x pos) rho st Q := by
  intro A env s al rm o a e
  refine UnaryOp_ (h.use rm o a e fun va h1 tk1 al1 st1 p k1 a1 e1 r1 q1 => ?_)
  obtain ⟨i, rfl, q⟩ := q1
  obtain ⟨t, rfl⟩ := r1.intOf
  exact neg_int ⟨h1, _, al1, st1, _, rfl, k1, a1, e1, .int _ _, q⟩
end
end Mine
end

-- MExpr2
section
set_option maxRecDepth 100000
namespace Mine
open PySem PySem.W PyProof.Rows

/-- a list of ints as pure values -/
noncomputable abbrev pis (ns : List Int) : List PV := ns.map PV.int

theorem Reps.ints {al : List Addr} {X : Addr → Prop} {h : Heap} : ∀ {vs : List Value} {ns : List Int}, Reps al X h vs (pis ns) → IntsAre vs ns
  | _, [], r => by cases Reps.nilOf r; exact .nil
  | _, n :: ns, r => by
    obtain ⟨v, vs', rfl, r1, r2⟩ := Reps.consOf (p := .int n) (ps := pis ns) r
    obtain ⟨t, rfl⟩ := r1.intOf
    exact .cons n t (Reps.ints r2)

section
variable {C : Cx} {n : Nat} {sc : Scope} {rho : Vars} {st : Sto}

/-- what a comparison gives -/
inductive CmpI (R : Bool → Prop) : CmpOp → PV → PV → Prop
  | eqi {a b : Int} (h : R (decide (a = b))) : CmpI R .Eq (.int a) (.int b)
  | nei {a b : Int} (h : R (!decide (a = b))) : CmpI R .NotEq (.int a) (.int b)
  | lt {a b : Int} (h : R (decide (a < b))) : CmpI R .Lt (.int a) (.int b)
  | le {a b : Int} (h : R (decide (a ≤ b))) : CmpI R .LtE (.int a) (.int b)
  | gt {a b : Int} (h : R (decide (b < a))) : CmpI R .Gt (.int a) (.int b)
  | ge {a b : Int} (h : R (decide (b ≤ a))) : CmpI R .GtE (.int a) (.int b)
  | neb {a b : Bool} (h : R (a != b)) : CmpI R .NotEq (.bool a) (.bool b)
  | eqs {a b : Str} (h : R (decide (a = b))) : CmpI R .Eq (.str a) (.str b)
  | eql {a b : List PV} (ns ms : List Int) (h1 : a = pis ns) (h2 : b = pis ms) (h : R (decide (ns = ms))) : CmpI R .Eq (.list a) (.list b)
  | nel {a b : List PV} (ns ms : List Int) (h1 : a = pis ns) (h2 : b = pis ms) (h : R (!decide (ns = ms))) : CmpI R .NotEq (.list a) (.list b)
  | isin {a : Int} {b : List PV} (ns : List Int) (h1 : b = pis ns) (h : R (decide (a ∈ ns))) : CmpI R .In (.int a) (.list b)
noncomputable abbrev CmpOk (op : CmpOp) (p q : PV) (R : Bool → Prop) : Prop := CmpI R op p q

theorem str_eq_of {x y : Str} : (x.cps.toList == y.cps.toList) = decide (x = y) := by
  obtain ⟨a⟩ := x; obtain ⟨b⟩ := y
  by_cases h : a = b
  · subst h; simp
  · have : a.toList ≠ b.toList := fun e => h (Array.toList_inj.mp e)
    simp [h]

theorem cmp_ok {m : Nat} {op : CmpOp} {p q : PV} {R : Bool → Prop} {A : Around} {s : Shared} {al : List Addr} {va vb : Value} (rm : Room m A) (hm : 8 ≤ m)
    (ra : Rep al (Live al st) s.heap va p) (rb : Rep al (Live al st) s.heap vb q) (h : CmpOk op p q R) :
    wpAny C.M A (compareOp op va vb) (fun v s' => ∃ tk b, v = .bool b ∧ s' = { s with toks := tk } ∧ R b) (fun _ _ => False) s := by
  have hu : A.units + 64 < cLine := by have := rm.units; lia
  cases h with
  | eqi h =>
    obtain ⟨t, rfl⟩ := ra.intOf; obtain ⟨u, rfl⟩ := rb.intOf
    exact eq_int ⟨s.toks, _, rfl, rfl, by rw [show ∀ a b : Int, (a == b) = decide (a = b) from fun a b => rfl]; exact h⟩
  | nei h =>
    obtain ⟨t, rfl⟩ := ra.intOf; obtain ⟨u, rfl⟩ := rb.intOf
    exact ne_int ⟨s.toks, _, rfl, rfl, h⟩
  | lt h =>
    obtain ⟨t, rfl⟩ := ra.intOf; obtain ⟨u, rfl⟩ := rb.intOf
    exact lt_int ⟨s.toks, _, rfl, rfl, h⟩
  | le h =>
    obtain ⟨t, rfl⟩ := ra.intOf; obtain ⟨u, rfl⟩ := rb.intOf
    exact le_int ⟨s.toks, _, rfl, rfl, h⟩
  | gt h =>
    obtain ⟨t, rfl⟩ := ra.intOf; obtain ⟨u, rfl⟩ := rb.intOf
    exact gt_int ⟨s.toks, _, rfl, rfl, h⟩
  | ge h =>
    obtain ⟨t, rfl⟩ := ra.intOf; obtain ⟨u, rfl⟩ := rb.intOf
    exact ge_int ⟨s.toks, _, rfl, rfl, h⟩
  | neb h =>
    obtain rfl := ra.boolOf; obtain rfl := rb.boolOf
    exact ne_bool ⟨s.toks, _, rfl, rfl, h⟩
  | eqs h =>
    obtain ⟨t, rfl⟩ := ra.strOf; obtain ⟨u, rfl⟩ := rb.strOf
    exact P.eq_str ⟨s.toks, _, rfl, rfl, by rw [str_eq_of]; exact h⟩
  | eql ns ms e1 e2 h =>
    subst e1 e2
    obtain ⟨l, vs, k, rfl, i, _, r⟩ := ra.listOf; obtain ⟨l', vs', k', rfl, i', _, r'⟩ := rb.listOf
    exact eq_intsK i.isList r.ints i'.isList r'.ints hu ⟨s.toks, _, rfl, rfl, h⟩
  | nel ns ms e1 e2 h =>
    subst e1 e2
    obtain ⟨l, vs, k, rfl, i, _, r⟩ := ra.listOf; obtain ⟨l', vs', k', rfl, i', _, r'⟩ := rb.listOf
    exact ne_intsK i.isList r.ints i'.isList r'.ints hu ⟨s.toks, _, rfl, rfl, h⟩
  | isin ns e1 h =>
    subst e1
    obtain ⟨t, rfl⟩ := ra.intOf; obtain ⟨l', vs', k', rfl, i', _, r'⟩ := rb.listOf
    refine in_list_ints i'.isList r'.ints ⟨s.toks, _, rfl, rfl, ?_⟩
    have e : ∀ (x : Int) (ns : List Int), ns.any (· == x) = decide (x ∈ ns) := by
      intro x ns
      induction ns with
      | nil => rfl
      | cons y r ih =>
        rw [List.any_cons, ih]
        by_cases hy : y = x
        · subst hy; simp
        · have : ¬ x = y := fun e => hy e.symm
          simp [hy, this]
    rw [e]; exact h

theorem EV_cmp {l r : Expr} {op : CmpOp} {pos : Pos} {Q : PV → Sto → Prop} (h : EV C n sc l rho st fun p st1 => EV C n sc r rho st1 fun q st2 => CmpOk op p q fun b => Q (.bool b) st2)
    (hm : behindInMarks op r = false) (hn : 8 ≤ n) : EV C n sc (.Compare l [op] [r] pos) rho st Q := by
  intro A env s al rm o a e
  refine wpAny_Compare1 (h.use rm o a e fun va h1 tk1 al1 st1 p k1 a1 e1 r1 q1 => q1.use (s := { s with heap := h1, toks := tk1 }) rm o a1 e1 fun vb h2 tk2 al2 st2 q k2 a2 e2 r2 q2 => ?_) hm
  refine wpAny_mono (cmp_ok (s := { s with heap := h2, toks := tk2 }) rm hn (k2.rep r1) r2 q2) (fun v s' hh => ?_) fun _ _ f => f.elim
  obtain ⟨tk3, b, rfl, rfl, q3⟩ := hh
  exact ⟨h2, tk3, al2, st2, _, rfl, k1.trans k2, a2, e2, .bool _, q3⟩

theorem TV_cmp {l r : Expr} {op : CmpOp} {pos : Pos} {Q : Bool → Sto → Prop} (h : EV C n sc l rho st fun p st1 => EV C n sc r rho st1 fun q st2 => CmpOk op p q fun b => Q b st2)
    (hm : behindInMarks op r = false) (hn : 8 ≤ n) : TV C n sc (.Compare l [op] [r] pos) rho st Q := by
  intro A env s al rm o a e
  refine wpAny_isTrue_Compare1 (h.use rm o a e fun va h1 tk1 al1 st1 p k1 a1 e1 r1 q1 => q1.use (s := { s with heap := h1, toks := tk1 }) rm o a1 e1 fun vb h2 tk2 al2 st2 q k2 a2 e2 r2 q2 => ?_) hm
  refine wpAny_mono (cmp_ok (s := { s with heap := h2, toks := tk2 }) rm hn (k2.rep r1) r2 q2) (fun v s' hh => ?_) fun _ _ f => f.elim
  obtain ⟨tk3, b, rfl, rfl, q3⟩ := hh
  exact wpAny_truthy_bool ⟨h2, tk3, al2, st2, _, rfl, k1.trans k2, a2, e2, rfl, q3⟩

theorem JE.ite {B G : Type} {rel : List Addr → Sto → Heap → B → G → Prop} {t u : Env → Sem B} {b : Bool} {Q : G → Sto → Prop} (h1 : b = true → JE C n sc rel t rho st Q) (h2 : b = false → JE C n sc rel u rho st Q) :
    JE C n sc rel (fun env => if b then t env else u env) rho st Q := by
  cases b
  · exact h2 rfl
  · exact h1 rfl

theorem EV_if {test body orelse : Expr} {pos : Pos} {Q : PV → Sto → Prop} (h : TV C n sc test rho st fun b st1 => if b = true then EV C n sc body rho st1 Q else EV C n sc orelse rho st1 Q) :
    EV C n sc (.IfExp test body orelse pos) rho st Q := by
  intro A env s al rm o a e
  refine IfExp_ (h.use rm o a e fun b h1 tk1 al1 st1 p k1 a1 e1 r1 q1 => ?_)
  subst r1
  cases b with
  | true =>
    simp only [if_true] at q1 ⊢
    exact q1.use (s := { s with heap := h1, toks := tk1 }) rm o a1 e1 fun vb h2 tk2 al2 st2 q k2 a2 e2 r2 q2 => ⟨h2, tk2, al2, st2, q, rfl, k1.trans k2, a2, e2, r2, q2⟩
  | false =>
    simp only [Bool.false_eq_true, if_false] at q1 ⊢
    exact q1.use (s := { s with heap := h1, toks := tk1 }) rm o a1 e1 fun vb h2 tk2 al2 st2 q k2 a2 e2 r2 q2 => ⟨h2, tk2, al2, st2, q, rfl, k1.trans k2, a2, e2, r2, q2⟩

theorem TV_and_nil {pos : Pos} {Q : Bool → Sto → Prop} (h : Q true st) : TV C n sc (.BoolOp .And [] pos) rho st Q :=
  fun _ _ s al _ _ a e => isTrue_and_nil ⟨s.heap, s.toks, al, st, _, rfl, .refl, a, e, rfl, h⟩
theorem TV_or_nil {pos : Pos} {Q : Bool → Sto → Prop} (h : Q false st) : TV C n sc (.BoolOp .Or [] pos) rho st Q :=
  fun _ _ s al _ _ a e => isTrue_or_nil ⟨s.heap, s.toks, al, st, _, rfl, .refl, a, e, rfl, h⟩
theorem TV_and {x : Expr} {rest : List Expr} {pos : Pos} {Q : Bool → Sto → Prop} (h : TV C n sc x rho st fun b st1 => if b = true then TV C n sc (.BoolOp .And rest pos) rho st1 Q else Q false st1) :
    TV C n sc (.BoolOp .And (x :: rest) pos) rho st Q := by
  intro A env s al rm o a e
  refine isTrue_and (h.use rm o a e fun b h1 tk1 al1 st1 p k1 a1 e1 r1 q1 => ?_)
  subst r1
  cases b with
  | true =>
    simp only [if_true] at q1 ⊢
    exact q1.use (s := { s with heap := h1, toks := tk1 }) rm o a1 e1 fun vb h2 tk2 al2 st2 q k2 a2 e2 r2 q2 => ⟨h2, tk2, al2, st2, q, rfl, k1.trans k2, a2, e2, r2, q2⟩
  | false =>
    simp only [Bool.false_eq_true, if_false] at q1 ⊢
    exact ⟨h1, tk1, al1, st1, _, rfl, k1, a1, e1, rfl, q1⟩
theorem TV_or {x : Expr} {rest : List Expr} {pos : Pos} {Q : Bool → Sto → Prop} (h : TV C n sc x rho st fun b st1 => if b = true then Q true st1 else TV C n sc (.BoolOp .Or rest pos) rho st1 Q) :
    TV C n sc (.BoolOp .Or (x :: rest) pos) rho st Q := by
  intro A env s al rm o a e
  refine isTrue_or (h.use rm o a e fun b h1 tk1 al1 st1 p k1 a1 e1 r1 q1 => ?_)
  subst r1
  cases b with
  | false =>
    simp only [Bool.false_eq_true, if_false] at q1 ⊢
    exact q1.use (s := { s with heap := h1, toks := tk1 }) rm o a1 e1 fun vb h2 tk2 al2 st2 q k2 a2 e2 r2 q2 => ⟨h2, tk2, al2, st2, q, rfl, k1.trans k2, a2, e2, r2, q2⟩
  | true =>
    simp only [if_true] at q1 ⊢
    exact ⟨h1, tk1, al1, st1, _, rfl, k1, a1, e1, rfl, q1⟩

/-- a and b as a value, of two bools -/
theorem EV_and2 {x y : Expr} {pos : Pos} {Q : PV → Sto → Prop} (h : EV C n sc x rho st fun p st1 => ∃ b, p = .bool b ∧ if b = true then EV C n sc y rho st1 Q else Q (.bool false) st1) :
    EV C n sc (.BoolOp .And [x, y] pos) rho st Q := by
  intro A env s al rm o a e
  refine BoolOp_and (h.use rm o a e fun v h1 tk1 al1 st1 p k1 a1 e1 r1 q1 => ?_)
  obtain ⟨b, rfl, q1⟩ := q1
  obtain rfl := r1.boolOf
  refine wpAny_truthy_bool ?_
  cases b with
  | true =>
    simp only [if_true] at q1 ⊢
    exact BoolOp_one (q1.use (s := { s with heap := h1, toks := tk1 }) rm o a1 e1 fun vb h2 tk2 al2 st2 q k2 a2 e2 r2 q2 => ⟨h2, tk2, al2, st2, q, rfl, k1.trans k2, a2, e2, r2, q2⟩)
  | false =>
    simp only [Bool.false_eq_true, if_false] at q1 ⊢
    exact ⟨h1, tk1, al1, st1, _, rfl, k1, a1, e1, .bool _, q1⟩

theorem EVs_nil {pos : Option Pos} {Q : List PV → Sto → Prop} (h : Q [] st) : EVs C n sc pos [] rho st Q := by
  intro A env s al rm o a e
  cases pos <;> exact wpAny_pure ⟨s.heap, s.toks, al, st, _, rfl, .refl, a, e, .nil, h⟩
theorem EVs_cons {x : Expr} {xs : List Expr} {pos : Option Pos} {Q : List PV → Sto → Prop} (h : EV C n sc x rho st fun p st1 => EVs C n sc pos xs rho st1 fun ps st2 => Q (p :: ps) st2)
    (hx : ∀ env, starEach (x :: xs) env = (false, eval x env) :: starEach xs env) : EVs C n sc pos (x :: xs) rho st Q := by
  intro A env s al rm o a e
  cases pos with
  | some pos =>
    refine wpAny_items_cons (h.use rm o a e fun v h1 tk1 al1 st1 p k1 a1 e1 r1 q1 => q1.use (s := { s with heap := h1, toks := tk1 }) rm o a1 e1 fun vb h2 tk2 al2 st2 q k2 a2 e2 r2 q2 => ?_) (hx env)
    exact ⟨h2, tk2, al2, st2, _, rfl, k1.trans k2, a2, e2, .cons (k2.rep r1) r2, q2⟩
  | none =>
    show wpAny _ _ (spliced (starEach (x :: xs) env)) _ _ _
    rw [hx env]
    refine Calls.spliced_cons (h.use rm o a e fun v h1 tk1 al1 st1 p k1 a1 e1 r1 q1 => q1.use (s := { s with heap := h1, toks := tk1 }) rm o a1 e1 fun vb h2 tk2 al2 st2 q k2 a2 e2 r2 q2 => ?_)
    exact ⟨h2, tk2, al2, st2, _, rfl, k1.trans k2, a2, e2, .cons (k2.rep r1) r2, q2⟩

theorem push_list {hd : Option Value} {env : Env} {al : List Addr} {h : Heap} {vs : List Value} {ps : List PV} (a : Amb C hd al st h) (e : EnvSt C env al st rho h) (r : Reps al (Live al st) h vs ps) :
    let h' := h.push { cls := .type "list", data := .seq vs.toArray }
    Kept al st al st h h' ∧ Amb C hd al st h' ∧ EnvSt C env al st rho h' ∧ Rep al (Live al st) h' (.ref h.objs.size) (.list ps) := by
  obtain ⟨x1, x2, x3⟩ := fin_grow a e fun b o e => Heap.get?_push_of_some { cls := .type "list", data := .seq vs.toArray } e
  exact ⟨x1, x2, x3, .list (Heap.get?_push_size _ rfl) (live_none a (get_size_none _)) (x1.reps r)⟩
theorem push_tup {hd : Option Value} {env : Env} {al : List Addr} {h : Heap} {vs : List Value} {ps : List PV} (a : Amb C hd al st h) (e : EnvSt C env al st rho h) (r : Reps al (Live al st) h vs ps) :
    let h' := h.push { cls := .type "tuple", data := .seq vs.toArray }
    Kept al st al st h h' ∧ Amb C hd al st h' ∧ EnvSt C env al st rho h' ∧ Rep al (Live al st) h' (.ref h.objs.size) (.tup ps) := by
  obtain ⟨x1, x2, x3⟩ := fin_grow a e fun b o e => Heap.get?_push_of_some { cls := .type "tuple", data := .seq vs.toArray } e
  exact ⟨x1, x2, x3, .tup (Heap.get?_push_size _ rfl) (live_none a (get_size_none _)) (x1.reps r)⟩

/-- a display's length is small -/
noncomputable def Short (ps : List PV) (X : Prop) : Prop := ps.length ≤ 1000 ∧ X
theorem short0 {X : Prop} (h : X) : Short [] X := ⟨by decide, h⟩
theorem short1 {a : PV} {X : Prop} (h : X) : Short [a] X := ⟨by simp, h⟩
theorem short2 {a b : PV} {X : Prop} (h : X) : Short [a, b] X := ⟨by simp, h⟩
theorem short3 {a b c : PV} {X : Prop} (h : X) : Short [a, b, c] X := ⟨by simp, h⟩
theorem short4 {a b c d : PV} {X : Prop} (h : X) : Short [a, b, c, d] X := ⟨by simp, h⟩
theorem EV_list {xs : List Expr} {pos : Pos} {Q : PV → Sto → Prop} (h : EVs C n sc (some pos) xs rho st fun ps st1 => Short ps (Q (.list ps) st1)) : EV C n sc (.List xs pos) rho st Q := by
  intro A env s al rm o a e
  refine wpAny_List (h.use rm o a e fun vs h1 tk1 al1 st1 ps k1 a1 e1 r1 q1 => ⟨by have := q1.1; rw [r1.length, sizeLine_eq]; lia, ?_⟩)
  obtain ⟨x1, x2, x3, x4⟩ := push_list a1 e1 r1
  exact ⟨_, tk1, al1, st1, _, rfl, k1.trans x1, x2, x3, x4, q1.2⟩
theorem EV_tup {xs : List Expr} {k : Nat} {pos : Pos} {Q : PV → Sto → Prop} (h : EVs C n sc (some pos) xs rho st fun ps st1 => Short ps (Q (.tup ps) st1)) : EV C n sc (.Tuple xs k pos) rho st Q := by
  intro A env s al rm o a e
  refine wpAny_Tuple (h.use rm o a e fun vs h1 tk1 al1 st1 ps k1 a1 e1 r1 q1 => ⟨by have := q1.1; rw [r1.length, sizeLine_eq]; lia, ?_⟩)
  obtain ⟨x1, x2, x3, x4⟩ := push_tup a1 e1 r1
  exact ⟨_, tk1, al1, st1, _, rfl, k1.trans x1, x2, x3, x4, q1.2⟩

/-- a list that may be changed: a new place of the store -/
theorem live_push {al : List Addr} {st : Sto} {ps : List PV} {x b : Addr} (hlen : al.length = st.length) (hb : b ≠ x) : Live (al ++ [x]) (st ++ [some ps]) b ↔ Live al st b := by
  constructor
  · rintro ⟨k, l, e1, e2⟩
    by_cases hk : k < st.length
    · rw [List.getElem?_append_left hk] at e1; rw [List.getElem?_append_left (by lia)] at e2; exact ⟨k, l, e1, e2⟩
    · rw [List.getElem?_append_right (by lia)] at e2
      cases hj : k - al.length with
      | zero => rw [hj] at e2; simp at e2; exact absurd e2.symm hb
      | succ j => rw [hj] at e2; simp at e2
  · rintro ⟨k, l, e1, e2⟩
    have hk : k < st.length := by
      by_cases hk : k < st.length
      · exact hk
      · rw [List.getElem?_eq_none (by lia)] at e1; cases e1
    exact ⟨k, l, by rw [List.getElem?_append_left hk]; exact e1, by rw [List.getElem?_append_left (by lia)]; exact e2⟩

theorem push_mut {hd : Option Value} {al : List Addr} {h : Heap} {vs : List Value} {ps : List PV} (a : Amb C hd al st h) (r : Reps al (Live al st) h vs ps) (hm : noMuts ps = true) :
    let h' := h.push { cls := .type "list", data := .seq vs.toArray }
    Kept al st (al ++ [h.objs.size]) (st ++ [some ps]) h h' ∧ Amb C hd (al ++ [h.objs.size]) (st ++ [some ps]) h' ∧ (al ++ [h.objs.size])[st.length]? = some h.objs.size := by
  have hlen := a.muts.len
  have hne : ∀ b o, h.get? b = some o → b ≠ h.objs.size := fun b o e q => by rw [q, get_size_none] at e; cases e
  have k : Kept al st (al ++ [h.objs.size]) (st ++ [some ps]) h (h.push { cls := .type "list", data := .seq vs.toArray }) :=
    ⟨fun k x e => by
      have : k < al.length := by
        by_cases hk : k < al.length
        · exact hk
        · rw [List.getElem?_eq_none (by lia)] at e; cases e
      rw [List.getElem?_append_left this]; exact e,
     fun b o e nl => ⟨Heap.get?_push_of_some _ e, fun l => nl ((live_push hlen (hne b o e)).mp l)⟩⟩
  have h0 : C.h0.get? h.objs.size = none := by
    cases e : C.h0.get? h.objs.size with
    | none => rfl
    | some o => exact absurd (a.base _ _ e) (by rw [get_size_none]; simp)
  refine ⟨k, ⟨fun b o e => Heap.get?_push_of_some _ (a.base b o e), a.hand.keep fun b o e _ _ _ => Heap.get?_push_of_some _ e, ⟨by simp [hlen], ?_, ?_, ?_⟩⟩, by rw [List.getElem?_append_right (by lia)]; simp [hlen]⟩
  · rw [List.nodup_append]
    refine ⟨a.muts.nodup, by simp, fun x hx y hy => ?_⟩
    obtain ⟨_, o, e, _⟩ := a.muts.fresh x hx
    rw [List.mem_singleton.mp hy]
    exact hne x o e
  · intro x hx
    rcases List.mem_append.mp hx with hx | hx
    · obtain ⟨q, o, e, q2⟩ := a.muts.fresh x hx
      exact ⟨q, o, Heap.get?_push_of_some _ e, q2⟩
    · rw [List.mem_singleton.mp hx]
      exact ⟨h0, _, Heap.get?_push_size _ rfl, _, _, rfl⟩
  · intro i l e
    by_cases hi : i < st.length
    · rw [List.getElem?_append_left hi] at e
      obtain ⟨x, ws, m, e1, e2, e3, e4⟩ := a.muts.is i l e
      exact ⟨x, ws, m, by rw [List.getElem?_append_left (by lia)]; exact e1, Heap.get?_push_of_some _ e2, k.reps e3, e4⟩
    · rw [List.getElem?_append_right (by lia)] at e
      cases hj : i - st.length with
      | succ j => rw [hj] at e; simp at e
      | zero =>
        rw [hj] at e
        simp only [List.getElem?_cons_zero, Option.some.injEq] at e
        subst e
        have : i = st.length := by lia
        subst this
        exact ⟨h.objs.size, vs, 0, by rw [List.getElem?_append_right (by lia)]; simp [hlen], Heap.get?_push_size _ rfl, k.reps r, hm⟩

theorem EV_listM {xs : List Expr} {pos : Pos} {Q : PV → Sto → Prop} (h : EVs C n sc (some pos) xs rho st fun ps st1 => Short ps (noMuts ps = true ∧ Q (.mut st1.length) (st1 ++ [some ps]))) : EV C n sc (.List xs pos) rho st Q := by
  intro A env s al rm o a e
  refine wpAny_List (h.use rm o a e fun vs h1 tk1 al1 st1 ps k1 a1 e1 r1 q1 => ⟨by have := q1.1; rw [r1.length, sizeLine_eq]; lia, ?_⟩)
  obtain ⟨x1, x2, x3⟩ := push_mut a1 r1 q1.2.1
  exact ⟨_, tk1, _, _, _, rfl, k1.trans x1, x2, e1.kept a1.muts x1, .mut x3, q1.2.2⟩
end
end Mine
end

-- MExpr3
section
set_option maxRecDepth 100000
namespace Mine
open PySem PySem.W PyProof.Rows

section
variable {C : Cx} {n : Nat} {sc : Scope} {rho : Vars} {st : Sto}

theorem glob_here {hd : Option Value} {al : List Addr} {h : Heap} (a : Amb C hd al st h) : h.Ns mainGlobals C.mg := C.g.keeps a.base
theorem blt_here {hd : Option Value} {al : List Addr} {h : Heap} (a : Amb C hd al st h) : h.Ns builtinsNs C.mb := C.b.keeps a.base

theorem eval_Call_Name (f : Str) (fp : Pos) (args : List Expr) (pos : Pos) (env : Env) :
    eval (.Call (.Name f fp) args [] pos) env = (do callWith pos (← eval (.Name f fp) env) [] (backTo pos (starEach args env)) []) := rfl

/-- the name of a global: the text's own, or a built-in one -/
noncomputable def Names (C : Cx) (f : Str) (v : Value) : Prop := C.mg f = some v ∨ (C.mg f = none ∧ f ≠ "__name__" ∧ bootBuiltins f = some v)

theorem name_global {A : Around} {env : Env} {s : Shared} {al : List Addr} {f : Str} {fp : Pos} {v : Value} {Q : Value → Shared → Prop} {E : Value → Shared → Prop} (o : EnvOk sc env) (a : Amb C A.handled al st s.heap)
    (hk : sc.names.lookup f = some .globalImplicit) (hn : Names C f v) (hd : (f == ("__debug__" : Str)) = false) (h : Q v s) : wpAny C.M A (eval (.Name f fp) env) Q E s := by
  refine Calls.Name_function_global (by rw [o.scope]; exact o.fn) (by unfold Env.kindOf; rw [o.scope]; exact hk) ?_ hd
  rcases hn with hn | ⟨hn, h1, h2⟩
  · exact Calls.loadGlobal_global (by rw [o.globals]; exact glob_here a) hn h
  · exact Calls.loadGlobal_builtin (by rw [o.globals]; exact glob_here a) hn (by rw [o.builtins]; exact blt_here a) ((C.builtins f h1).trans h2) h

theorem spliced_args {env : Env} {A : Around} {s : Shared} {f : Value} {x : Expr} {xs : List Expr} {pos : Pos} {Q : Args → Shared → Prop} {E : Value → Shared → Prop}
    (hx : starEach (x :: xs) env = (false, eval x env) :: starEach xs env)
    (h : wpAny C.M A (spliced (backTo pos (starEach (x :: xs) env))) (fun vs s' => Q ⟨vs, []⟩ s') E s) : wpAny C.M A (evalArgs f true (backTo pos (starEach (x :: xs) env)) []) Q E s := by
  rw [hx] at h ⊢
  exact Calls.evalArgs_plain h

theorem EV_call {m : Nat} {f : Str} {fp pos : Pos} {x : Expr} {xs : List Expr} {a : Addr} {o : Obj} {fd : FuncData} {Q : PV → Sto → Prop}
    (h : EVs C n sc (some pos) (x :: xs) rho st fun ps st1 => CJ C m f ps st1 Q) (hmn : m ≤ n)
    (hk : sc.names.lookup f = some .globalImplicit) (hf : C.mg f = some (.ref a)) (ho : C.h0.get? a = some o) (hfd : o.data = .func fd) (hd : (f == ("__debug__" : Str)) = false)
    (hx : ∀ env, starEach (x :: xs) env = (false, eval x env) :: starEach xs env) : EV C n sc (.Call (.Name f fp) (x :: xs) [] pos) rho st Q := by
  intro A env s al rm ok am e
  show wpAny _ _ (eval (.Call (.Name f fp) (x :: xs) [] pos) env) _ _ _
  rw [eval_Call_Name]
  refine wpAny_bind (name_global ok am hk (.inl hf) hd ?_)
  refine Calls.callWith_function (o := o) (fd := fd) (spliced_args (hx env) (h.use rm ok am e fun vs h1 tk1 al1 st1 ps k1 a1 e1 r1 q1 => ⟨⟨a1.base _ _ ho, hfd⟩, ?_⟩))
  refine wpAny_mono (q1 _ _ _ _ _ (rm.mono hmn) hf a1 r1) (fun v s' hh => ?_) fun _ _ f => f.elim
  obtain ⟨h2, tk2, al2, st2, p, rfl, k2, a2, r2, q2⟩ := hh
  exact ⟨h2, tk2, al2, st2, p, rfl, k1.trans k2, a2, e1.kept a1.muts k2, r2, q2⟩

theorem callWith_plain {A : Around} {env : Env} {s : Shared} {f : Value} {pos : Pos} {x : Expr} {xs : List Expr} {Q : Value → Shared → Prop} {E : Value → Shared → Prop}
    (hf : (∃ id, f = .builtin id) ∨ ∃ T, f = .type T) (hx : starEach (x :: xs) env = (false, eval x env) :: starEach xs env) (hp : (backTo pos (starEach (x :: xs) env)).any (·.1) = false)
    (h : wpAny C.M A (spliced (backTo pos (starEach (x :: xs) env))) (fun vs s' => wpAny C.M A (call f vs) Q E s') E s) :
    wpAny C.M A (callWith pos f [] (backTo pos (starEach (x :: xs) env)) []) Q E s := by
  rcases hf with ⟨id, rfl⟩ | ⟨T, rfl⟩
  · exact Calls.callWith_builtin hp (spliced_args hx h)
  · exact PyProof.Rows.callWith_type hp (spliced_args hx h)

theorem EV_built {m : Nat} {f : Str} {v : Value} {fp pos : Pos} {x : Expr} {xs : List Expr} {Q : PV → Sto → Prop}
    (h : EVs C n sc (some pos) (x :: xs) rho st fun ps st1 => BJ C m v ps st1 Q) (hmn : m ≤ n)
    (hk : sc.names.lookup f = some .globalImplicit) (hf : Names C f v) (hv : (∃ id, v = .builtin id) ∨ ∃ T, v = .type T) (hd : (f == ("__debug__" : Str)) = false)
    (hx : ∀ env, starEach (x :: xs) env = (false, eval x env) :: starEach xs env) (hp : ∀ env, (backTo pos (starEach (x :: xs) env)).any (·.1) = false) : EV C n sc (.Call (.Name f fp) (x :: xs) [] pos) rho st Q := by
  intro A env s al rm ok am e
  show wpAny _ _ (eval (.Call (.Name f fp) (x :: xs) [] pos) env) _ _ _
  rw [eval_Call_Name]
  refine wpAny_bind (name_global ok am hk hf hd ?_)
  refine callWith_plain hv (hx env) (hp env) (h.use rm ok am e fun vs h1 tk1 al1 st1 ps k1 a1 e1 r1 q1 => ?_)
  refine wpAny_mono (q1 _ _ _ _ (rm.mono hmn) a1 r1) (fun v s' hh => ?_) fun _ _ f => f.elim
  obtain ⟨h2, tk2, al2, st2, p, rfl, k2, a2, r2, q2⟩ := hh
  exact ⟨h2, tk2, al2, st2, p, rfl, k1.trans k2, a2, e1.kept a1.muts k2, r2, q2⟩

theorem BJ_fin {hd : Option Value} {al : List Addr} {s : Shared} {h' : Heap} {tk : Nat} {v : Value} {p : PV} {Q : PV → Sto → Prop} (a : Amb C hd al st s.heap) (k : ∀ b o, s.heap.get? b = some o → h'.get? b = some o)
    (r : Rep al (Live al st) h' v p) (q : Q p st) :
    CJP C hd al st Q s v { s with heap := h', toks := tk } :=
  ⟨h', tk, al, st, p, rfl, .grow k, a.grow k, r, q⟩

theorem BJ_len {l : List PV} {Q : PV → Sto → Prop} (h : Q (.int l.length) st) (hl : l.length ≤ 1000000) : BJ C n (.builtin "len") [.list l] st Q := by
  intro A s al vs rm a r
  obtain ⟨v, vs', rfl, r1, r2⟩ := r.consOf
  cases r2.nilOf
  obtain ⟨b, ws, m, rfl, i, _, r⟩ := r1.listOf
  have e := r.length
  refine Calls.call_len_list i.isList (by simp only [List.size_toArray]; lia) (BJ_fin a (fun _ _ e => e) (.int _ _) ?_)
  simpa [e] using h
theorem BJ_lenM {k : Nat} {l : List PV} {Q : PV → Sto → Prop} (hk : st[k]? = some (some l)) (h : Q (.int l.length) st) (hl : l.length ≤ 1000000) : BJ C n (.builtin "len") [.mut k] st Q := by
  intro A s al vs rm a r
  obtain ⟨v, vs', rfl, r1, r2⟩ := r.consOf
  cases r2.nilOf
  obtain ⟨b, rfl, hb⟩ := r1.mutOf
  obtain ⟨b', ws, m, hb', i, r, _⟩ := a.muts.is k l hk
  rw [hb] at hb'; cases hb'
  have e := r.length
  refine Calls.call_len_list i.isList (by simp only [List.size_toArray]; lia) (BJ_fin a (fun _ _ e => e) (.int _ _) ?_)
  simpa [e] using h

theorem BJ_abs {i : Int} {Q : PV → Sto → Prop} (h : Q (.int (i.natAbs : Int)) st) : BJ C n (.builtin "abs") [.int i] st Q := by
  intro A s al vs rm a r
  obtain ⟨v, vs', rfl, r1, r2⟩ := r.consOf
  cases r2.nilOf
  obtain ⟨t, rfl⟩ := r1.intOf
  refine PyProof.Rows.call_abs_int fun u tk => BJ_fin a (fun _ _ e => e) (.int _ _) ?_
  have : (if i < 0 then -i else i) = (i.natAbs : Int) := by split <;> lia
  rw [this]; exact h

theorem BJ_max2 {i j : Int} {Q : PV → Sto → Prop} (hc : C.calm = true) (h : Q (.int (max i j)) st) : BJ C n (.builtin "max") [.int i, .int j] st Q := by
  intro A s al vs rm a r
  obtain ⟨v, vs', rfl, r1, r2⟩ := r.consOf
  obtain ⟨v2, vs2, rfl, q2, r3⟩ := r2.consOf
  cases r3.nilOf
  obtain ⟨t, rfl⟩ := r1.intOf
  obtain ⟨u, rfl⟩ := q2.intOf
  refine max_two_ints (a.calm hc) fun h' tk k => ?_
  by_cases hij : j > i
  · rw [if_pos hij]
    refine BJ_fin (tk := tk) (h' := h') a k (.int _ _) ?_
    rw [show max i j = j by lia] at h; exact h
  · rw [if_neg hij]
    refine BJ_fin (tk := tk) (h' := h') a k (.int _ _) ?_
    rw [show max i j = i by lia] at h; exact h

theorem BJ_int {i : Int} {Q : PV → Sto → Prop} (h : Q (.int i) st) : BJ C n (.type "int") [.int i] st Q := by
  intro A s al vs rm a r
  obtain ⟨v, vs', rfl, r1, r2⟩ := r.consOf
  cases r2.nilOf
  obtain ⟨t, rfl⟩ := r1.intOf
  exact PySem.call_int_int (BJ_fin (tk := s.toks) (h' := s.heap) a (fun _ _ e => e) (.int _ _) h)

theorem rep_push_list {hd : Option Value} {al : List Addr} {h h' : Heap} {vs : List Value} {ps : List PV} {x : Addr} {c : Nat} (a : Amb C hd al st h) (hx : h.get? x = none) (k : ∀ b o, h.get? b = some o → h'.get? b = some o)
    (i : IsL h' x vs.toArray c) (r : Reps al (Live al st) h vs ps) : Rep al (Live al st) h' (.ref x) (.list ps) :=
  .list i (live_none a hx) (Reps.mono (fun b o e _ nl => ⟨k _ _ e, nl⟩) (fun _ _ e => e) r)

theorem BJ_list {l : List PV} {Q : PV → Sto → Prop} (h : Q (.list l) st) (hl : l.length ≤ 1000000) : BJ C n (.type "list") [.list l] st Q := by
  intro A s al vs rm a r
  obtain ⟨v, vs', rfl, r1, r2⟩ := r.consOf
  cases r2.nilOf
  obtain ⟨b, ws, m, rfl, i, _, r⟩ := r1.listOf
  have e := r.length
  refine call_list_seq b (T := "list") (.inl rfl) i rfl rfl (fun h' c' k hD => ?_) (by simp only [List.size_toArray, sizeLine_eq]; lia)
  exact BJ_fin (tk := s.toks) (h' := h') a k (rep_push_list a (get_size_none _) k hD r) h

theorem mut_at {hd : Option Value} {al : List Addr} {h h' : Heap} {vs : List Value} {ps : List PV} {x : Addr} {c : Nat} (a : Amb C hd al st h) (hx : h.get? x = none) (k : ∀ b o, h.get? b = some o → h'.get? b = some o)
    (i : IsL h' x vs.toArray c) (r : Reps al (Live al st) h vs ps) (hm : noMuts ps = true) :
    Kept al st (al ++ [x]) (st ++ [some ps]) h h' ∧ Amb C hd (al ++ [x]) (st ++ [some ps]) h' ∧ (al ++ [x])[st.length]? = some x := by
  have hlen := a.muts.len
  have hne : ∀ b o, h.get? b = some o → b ≠ x := fun b o e q => by rw [q, hx] at e; cases e
  have kk : Kept al st (al ++ [x]) (st ++ [some ps]) h h' :=
    ⟨fun k x e => by
      have : k < al.length := by
        by_cases hk : k < al.length
        · exact hk
        · rw [List.getElem?_eq_none (by lia)] at e; cases e
      rw [List.getElem?_append_left this]; exact e,
     fun b o e nl => ⟨k _ _ e, fun l => nl ((live_push hlen (hne b o e)).mp l)⟩⟩
  have h0 : C.h0.get? x = none := by
    cases e : C.h0.get? x with
    | none => rfl
    | some o => exact absurd (a.base _ _ e) (by rw [hx]; simp)
  refine ⟨kk, ⟨fun b o e => k _ _ (a.base b o e), a.hand.keep fun b o e _ _ _ => k _ _ e, ⟨by simp [hlen], ?_, ?_, ?_⟩⟩, by rw [List.getElem?_append_right (by lia)]; simp [hlen]⟩
  · rw [List.nodup_append]
    refine ⟨a.muts.nodup, by simp, fun y hy z hz => ?_⟩
    obtain ⟨_, o, e, _⟩ := a.muts.fresh y hy
    rw [List.mem_singleton.mp hz]
    exact hne y o e
  · intro y hy
    rcases List.mem_append.mp hy with hy | hy
    · obtain ⟨q, o, e, q2⟩ := a.muts.fresh y hy
      exact ⟨q, o, k _ _ e, q2⟩
    · rw [List.mem_singleton.mp hy]
      exact ⟨h0, _, i, _, _, rfl⟩
  · intro j l e
    by_cases hj : j < st.length
    · rw [List.getElem?_append_left hj] at e
      obtain ⟨y, ws, m, e1, e2, e3, e4⟩ := a.muts.is j l e
      exact ⟨y, ws, m, by rw [List.getElem?_append_left (by lia)]; exact e1, k _ _ e2, kk.reps e3, e4⟩
    · rw [List.getElem?_append_right (by lia)] at e
      cases hj' : j - st.length with
      | succ q => rw [hj'] at e; simp at e
      | zero =>
        rw [hj'] at e
        simp only [List.getElem?_cons_zero, Option.some.injEq] at e
        subst e
        have : j = st.length := by lia
        subst this
        exact ⟨x, vs, c, by rw [List.getElem?_append_right (by lia)]; simp [hlen], i, kk.reps r, hm⟩

/-- list(x) as a list that may be changed -/
theorem BJ_listM {l : List PV} {Q : PV → Sto → Prop} (h : Q (.mut st.length) (st ++ [some l])) (hl : l.length ≤ 1000000) (hm : noMuts l = true) : BJ C n (.type "list") [.list l] st Q := by
  intro A s al vs rm a r
  obtain ⟨v, vs', rfl, r1, r2⟩ := r.consOf
  cases r2.nilOf
  obtain ⟨b, ws, m, rfl, i, _, r⟩ := r1.listOf
  have e := r.length
  refine call_list_seq b (T := "list") (.inl rfl) i rfl rfl (fun h' c' k hD => ?_) (by simp only [List.size_toArray, sizeLine_eq]; lia)
  obtain ⟨x1, x2, x3⟩ := mut_at a (get_size_none _) k hD r hm
  exact ⟨h', s.toks, _, _, _, rfl, x1, x2, .mut x3, h⟩

theorem BJ_range1 {b : Int} {Q : PV → Sto → Prop} (h : Q (.rng 0 b 1) st) : BJ C n (.type "range") [.int b] st Q := by
  intro A s al vs rm a r
  obtain ⟨v, vs', rfl, r1, r2⟩ := r.consOf
  cases r2.nilOf
  obtain ⟨t, rfl⟩ := r1.intOf
  exact call_range_1 (BJ_fin a (fun _ _ e => Heap.get?_push_of_some _ e) (.rng (IsRange.new _ _ _ _ _ _ _) (live_none a (get_size_none _))) h)
theorem BJ_range2 {i j : Int} {Q : PV → Sto → Prop} (h : Q (.rng i j 1) st) : BJ C n (.type "range") [.int i, .int j] st Q := by
  intro A s al vs rm a r
  obtain ⟨v, vs', rfl, r1, r2⟩ := r.consOf
  obtain ⟨v2, vs2, rfl, q2, r3⟩ := r2.consOf
  cases r3.nilOf
  obtain ⟨t, rfl⟩ := r1.intOf
  obtain ⟨u, rfl⟩ := q2.intOf
  exact call_range_2 (BJ_fin a (fun _ _ e => Heap.get?_push_of_some _ e) (.rng (IsRange.new _ _ _ _ _ _ _) (live_none a (get_size_none _))) h)
theorem BJ_range3 {i j k : Int} {Q : PV → Sto → Prop} (hk : k ≠ 0) (hf : Fits k) (h : Q (.rng i j k) st) : BJ C n (.type "range") [.int i, .int j, .int k] st Q := by
  intro A s al vs rm a r
  obtain ⟨v, vs', rfl, r1, r2⟩ := r.consOf
  obtain ⟨v2, vs2, rfl, q2, r3⟩ := r2.consOf
  obtain ⟨v3, vs3, rfl, q3, r4⟩ := r3.consOf
  cases r4.nilOf
  obtain ⟨t, rfl⟩ := r1.intOf
  obtain ⟨u, rfl⟩ := q2.intOf
  obtain ⟨w, rfl⟩ := q3.intOf
  exact call_range_3 hk (BJ_fin a (fun _ _ e => Heap.get?_push_of_some _ e) (.rng (IsRange.new _ _ _ _ _ _ _) (live_none a (get_size_none _))) h) (.inl hf.noPylong)

/-- the items of a list or tuple by an int -/
theorem tailW {prog : Program} {w : World} {A : Around} {E : Value → Shared → Prop} {s : Shared} {value slice : Expr} {o i : Value} {T id : String} {Q : Value → Shared → Prop} (hT : s.TypeIs o T)
    (hl : typeLookup (.type T) "__getitem__" = pure (some (.builtin id))) (h : wpAny (model prog w) A (getItem o i) Q E s)
    (hs : ∃ vs, subscripted slice false o i = operate vs (getItem o i)) :
    wpAny (model prog w) A (subscriptTail value slice o i) Q E s := by
  obtain ⟨vs, hs⟩ := hs
  unfold subscriptTail
  refine wpAny_bind ?_
  rw [getitemInPython_of_ne hT.not_modules]
  refine wpAny_bind (wpAny_specialOf hT hl ?_)
  have fin : wpAny (model prog w) A (subscripted slice false o i) (fun r s₃ => wpAny (model prog w) A (letTemporaryGo value o r >>= fun _ => pure r) Q E s₃) E s := by
    rw [hs]
    exact wpAny_operating (wpAny_mono h (fun r s₃ h₃ => wpAny_bind (wpAny_letTemporaryGo (wpAny_pure h₃))) fun _ _ x => x)
  first
    | exact wpAny_pure (wpAny_bind fin)
    | exact wpAny_bind (wpAny_pure (wpAny_bind fin))
    | exact wpAny_bind fin

/-- what an item gives -/
noncomputable def SubOk (st : Sto) (p q : PV) (R : PV → Prop) : Prop := match p, q with
  | .list l, .int k => ∃ x, l.length ≤ 1000000 ∧ (if k < 0 then -(l.length : Int) ≤ k ∧ l[(k + l.length).toNat]? = some x else l[k.toNat]? = some x) ∧ R x
  | .tup l, .int k => ∃ x, l.length ≤ 1000000 ∧ 0 ≤ k ∧ l[k.toNat]? = some x ∧ R x
  | .mut j, .int k => ∃ l x, st[j]? = some (some l) ∧ l.length ≤ 1000000 ∧ 0 ≤ k ∧ l[k.toNat]? = some x ∧ R x
  | _, _ => False

theorem lt_of_get {α : Type} {l : List α} {k : Nat} {x : α} (h : l[k]? = some x) : k < l.length := by
  by_cases hk : k < l.length
  · exact hk
  · rw [List.getElem?_eq_none (by lia)] at h; cases h

theorem sub_ok {p q : PV} {R : PV → Prop} {A : Around} {s : Shared} {al : List Addr} {va vb : Value} {value slice : Expr}
    (a : Amb C A.handled al st s.heap) (ra : Rep al (Live al st) s.heap va p) (rb : Rep al (Live al st) s.heap vb q) (h : SubOk st p q R)
    (hs : ∃ vs, subscripted slice false va vb = operate vs (getItem va vb)) :
    wpAny C.M A (subscriptTail value slice va vb) (fun v s' => s' = s ∧ ∃ g, Rep al (Live al st) s.heap v g ∧ R g) (fun _ _ => False) s := by
  unfold SubOk at h
  split at h
  · rename_i l k
    obtain ⟨x, hz, hx, hR⟩ := h
    obtain ⟨b, ws, m, rfl, i, _, r⟩ := ra.listOf
    obtain ⟨t, rfl⟩ := rb.intOf
    have e := r.length
    refine tailW i.isList.typeIs slot_list_getitem.lookup ?_ hs
    by_cases h0 : k < 0
    · rw [if_pos h0] at hx
      obtain ⟨h1, hx⟩ := hx
      obtain ⟨v, hv, rv⟩ := r.get hx
      exact wpAny_getItem_list_neg i.isList h0 (by simp only [List.size_toArray]; lia) (by lia) (x := v) (by simpa [e] using hv) ⟨rfl, x, rv, hR⟩
    · rw [if_neg h0] at hx
      obtain ⟨v, hv, rv⟩ := r.get hx
      have := lt_of_get hx
      exact wpAny_getItem_list i.isList (by lia) (by lia) (x := v) (by simpa using hv) ⟨rfl, x, rv, hR⟩
  · rename_i l k
    obtain ⟨x, hz, h0, hx, hR⟩ := h
    obtain ⟨b, ws, m, rfl, i, _, r⟩ := ra.tupOf
    obtain ⟨t, rfl⟩ := rb.intOf
    have e := r.length
    have := lt_of_get hx
    obtain ⟨v, hv, rv⟩ := r.get hx
    have ht : IsTup s.heap b ws.toArray := ⟨_, i, rfl, m, rfl⟩
    have hj : seqIndex? k ws.toArray.size = some k.toNat := by
      unfold seqIndex?
      simp only [show ¬ k < 0 by lia, if_false]
      rw [if_pos (by simp only [List.size_toArray, Bool.and_eq_true, decide_eq_true_eq]; lia)]
    exact tailW ht.typeIs slot_tuple_getitem.lookup (getItem_tuple ht (by lia) (by lia) hj (x := v) (by simpa using hv) ⟨rfl, x, rv, hR⟩) hs
  · rename_i j k
    obtain ⟨l, x, hst, hz, h0, hx, hR⟩ := h
    obtain ⟨b, rfl, hb⟩ := ra.mutOf
    obtain ⟨b', ws, m, hb', i, r, _⟩ := a.muts.is j l hst
    rw [hb] at hb'; cases hb'
    obtain ⟨t, rfl⟩ := rb.intOf
    have e := r.length
    have := lt_of_get hx
    obtain ⟨v, hv, rv⟩ := r.get hx
    exact tailW i.isList.typeIs slot_list_getitem.lookup (wpAny_getItem_list i.isList (by lia) (by lia) (x := v) (by simpa using hv) ⟨rfl, x, rv, hR⟩) hs
  · exact h.elim

theorem EV_sub {value slice : Expr} {pos : Pos} {Q : PV → Sto → Prop} (h : EV C n sc value rho st fun p st1 => EV C n sc slice rho st1 fun q st2 => SubOk st2 p q fun g => Q g st2)
    (hs : ∀ va vb, ∃ vs, subscripted slice false va vb = operate vs (getItem va vb)) : EV C n sc (.Subscript value slice pos) rho st Q := by
  intro A env s al rm o a e
  refine Subscript_ (h.use rm o a e fun va h1 tk1 al1 st1 p k1 a1 e1 r1 q1 => q1.use (s := { s with heap := h1, toks := tk1 }) rm o a1 e1 fun vb h2 tk2 al2 st2 q k2 a2 e2 r2 q2 => ?_)
  refine wpAny_mono (sub_ok (s := { s with heap := h2, toks := tk2 }) a2 (k2.rep r1) r2 q2 (hs va vb)) (fun v s' hh => ?_) fun _ _ f => f.elim
  obtain ⟨rfl, g, r3, q3⟩ := hh
  exact ⟨h2, tk2, al2, st2, g, rfl, k1.trans k2, a2, e2, r3, q3⟩

theorem EV_from {value lo : Expr} {p pos : Pos} {Q : PV → Sto → Prop} (h : EV C n sc value rho st fun p st1 => EV C n sc lo rho st1 fun q st2 => ∃ l k, p = .list l ∧ q = .int k ∧ 0 ≤ k ∧ l.length ≤ 1000000 ∧ Q (.list (l.drop k.toNat)) st2) :
    EV C n sc (.Subscript value (.Slice (some lo) none none p) pos) rho st Q := by
  intro A env s al rm o a e
  refine Subscript_ (h.use rm o a e fun va h1 tk1 al1 st1 p k1 a1 e1 r1 q1 => wpAny_Slice (q1.use (s := { s with heap := h1, toks := tk1 }) rm o a1 e1 fun vb h2 tk2 al2 st2 q k2 a2 e2 r2 q2 => wpAny_pure (wpAny_pure ?_)))
  obtain ⟨l, k, rfl, rfl, h0, hz, hq⟩ := q2
  obtain ⟨b, ws, m, rfl, i, _, r⟩ := (k2.rep r1).listOf
  obtain ⟨t, rfl⟩ := r2.intOf
  have ei := r.length
  have i' : IsL (h2.push { cls := .type "slice", data := .fields #[.int k t, .none, .none] }) b ws.toArray m := Heap.get?_push_of_some _ i
  refine tailW i'.isList.typeIs slot_list_getitem.lookup (wpAny_getItem_list_slice (lo := some k) (hi := none) (st := none) i'.isList (Heap.IsSliceOf.new ..) (.int _ _) .none .none (by simp) ?_ (by simp only [List.size_toArray, sizeLine_eq]; lia)) ⟨_, rfl⟩
  obtain ⟨k', rfl⟩ := Int.eq_ofNat_of_zero_le h0
  rw [slicePick_from']
  obtain ⟨x1, x2, x3⟩ := fin_grow a2 e2 fun b o e => Heap.get?_push_of_some ({ cls := .type "slice", data := .fields #[.int (k' : Int) t, .none, .none] } : Obj) e
  obtain ⟨y1, y2, y3, y4⟩ := push_list x2 x3 (x1.reps (r.drop k'))
  exact ⟨_, tk2, al2, st2, _, rfl, ((k1.trans k2).trans x1).trans y1, y2, y3, y4, by simpa using hq⟩

theorem EV_upto {value hi : Expr} {p pos : Pos} {Q : PV → Sto → Prop} (h : EV C n sc value rho st fun p st1 => EV C n sc hi rho st1 fun q st2 => ∃ l k, p = .list l ∧ q = .int k ∧ 0 ≤ k ∧ l.length ≤ 1000000 ∧ Q (.list (l.take k.toNat)) st2) :
    EV C n sc (.Subscript value (.Slice none (some hi) none p) pos) rho st Q := by
  intro A env s al rm o a e
  refine Subscript_ (h.use rm o a e fun va h1 tk1 al1 st1 p k1 a1 e1 r1 q1 => wpAny_Slice (wpAny_pure (q1.use (s := { s with heap := h1, toks := tk1 }) rm o a1 e1 fun vb h2 tk2 al2 st2 q k2 a2 e2 r2 q2 => wpAny_pure ?_)))
  obtain ⟨l, k, rfl, rfl, h0, hz, hq⟩ := q2
  obtain ⟨b, ws, m, rfl, i, _, r⟩ := (k2.rep r1).listOf
  obtain ⟨t, rfl⟩ := r2.intOf
  have ei := r.length
  have i' : IsL (h2.push { cls := .type "slice", data := .fields #[.none, .int k t, .none] }) b ws.toArray m := Heap.get?_push_of_some _ i
  refine tailW i'.isList.typeIs slot_list_getitem.lookup (wpAny_getItem_list_slice (lo := none) (hi := some k) (st := none) i'.isList (Heap.IsSliceOf.new ..) .none (.int _ _) .none (by simp) ?_ (by simp only [List.size_toArray, sizeLine_eq]; lia)) ⟨_, rfl⟩
  obtain ⟨k', rfl⟩ := Int.eq_ofNat_of_zero_le h0
  rw [slicePick_upto']
  obtain ⟨x1, x2, x3⟩ := fin_grow a2 e2 fun b o e => Heap.get?_push_of_some ({ cls := .type "slice", data := .fields #[.none, .int (k' : Int) t, .none] } : Obj) e
  obtain ⟨y1, y2, y3, y4⟩ := push_list x2 x3 (x1.reps (r.take k'))
  exact ⟨_, tk2, al2, st2, _, rfl, ((k1.trans k2).trans x1).trans y1, y2, y3, y4, by simpa using hq⟩
end
end Mine
end

-- MHand
section
set_option maxRecDepth 100000
namespace Mine
open PySem PySem.W PyProof.Rows

theorem entry_unchain : entryFor table "proto.unchain" = some Builtin.«proto.unchain» := entryFor_of_fast (by kernel_rfl)

section
variable {prog : Program} {w : World} {A : Around} {E : Value → Shared → Prop} {s : Shared} {calm : Bool}

/-- raising a new exception, while nothing or one without a context is handled -/
theorem raiseNew_hand {α : Type} {e : Addr} {oe : Obj} {vs : Array Value} {Q : α → Shared → Prop} (hh : HandOk calm A.handled s.heap) (ho : s.heap.get? e = some oe) (hd : oe.data = .fields vs) (h2 : 2 < vs.size)
    (hne : A.handled ≠ some (.ref e))
    (h : ∀ h', Heap.SameBut e s.heap h' → (∃ o', h'.get? e = some o' ∧ o'.cls = oe.cls) → E (.ref e) { s with heap := h' }) : wpAny (model prog w) A (raiseNew (.ref e) : Sem α) Q E s := by
  unfold raiseNew
  refine wpAny_bind (wpAny_handled ?_)
  rcases hh with hn | ⟨_, x, o, ws, hx, hg, hw, h3, _⟩
  · rw [hn]
    exact wpAny_bind (wpAny_pure (wpAny_throw (h _ (Heap.SameBut.refl ..) ⟨_, ho, rfl⟩)))
  · rw [hx]
    have hxe : x ≠ e := fun q => hne (by rw [hx, q])
    have hb : (Value.ref x != Value.ref e) = true := by simp [bne_iff_ne, hxe]
    dsimp only
    rw [if_pos hb]
    refine wpAny_bind (wpAny_holding (wpAny_runValue (codeAny_builtin entry_unchain ?_)))
    show wpAny _ _ (field (.ref x) 2 >>= _) _ _ s
    refine wpAny_bind (wpAny_field hg hw h3 ?_)
    show wpAny _ _ (if (Value.none == Value.none) = true then _ else _) _ _ s
    rw [if_pos (by rfl)]
    refine wpAny_bind (wpAny_pure (wpAny_pure ?_))
    show wpAny _ _ (setField (.ref e) 2 (.ref x) >>= _) _ _ s
    refine wpAny_bind (wpAny_setField ho hd h2 (wpAny_throw (h _ (Heap.SameBut.update ..) ⟨_, Heap.get?_update_self _ ho ?_, ?_⟩)))
    · exact Obj.isFreed_of_fields (Obj.data_mapFields hd _)
    · exact Obj.cls_mapFields ..

theorem HandOk.grow {hd : Option Value} {h h' : Heap} (x : HandOk calm hd h) (k : ∀ b o, h.get? b = some o → h'.get? b = some o) : HandOk calm hd h' := x.keep fun b o e _ _ _ => k b o e
theorem HandOk.notNew {hd : Option Value} {h : Heap} (x : HandOk calm hd h) {e : Addr} (he : h.get? e = none) : hd ≠ some (.ref e) := fun q => by
  rcases x with hn | ⟨_, y, o, ws, hx, hg, _⟩
  · rw [hn] at q; cases q
  · rw [hx] at q; cases q; rw [he] at hg; cases hg

/-- the end of an iterator: StopIteration, caught at once -/
theorem stop_raised {α : Type} {it : Addr} {Q : α → Shared → Prop} (hh : HandOk calm A.handled s.heap)
    (h : ∀ h' e, Heap.ExtBut it s.heap h' → (∃ o, h'.get? e = some o ∧ o.cls = .type "StopIteration") → E (.ref e) { s with heap := h' }) :
    wpAny (model prog w) A (newExc (.type "StopIteration") [] >>= fun e => (raiseNew e : Sem α)) Q E s := by
  refine wpAny_bind ?_
  simp only [newExc, newTuple]
  refine wpAny_bind (wpAny_newObj_type ?_ (by size_fits))
  refine wpAny_bind (m := firstArgMember _ _) (wpAny_of_eq (a := Value.none) (by first | rfl | (simp only [firstArgMember]; rfl)) ?_)
  refine wpAny_newObj_type ?_ (by size_fits)
  refine raiseNew_hand (hh.grow fun b o e => Heap.get?_push_of_some _ (Heap.get?_push_of_some _ e)) (Heap.get?_push_size _ rfl) rfl (by simp; lia) ?_ fun h' hs ⟨o', ho', hc⟩ => ?_
  · refine HandOk.notNew hh ?_
    cases q : s.heap.get? _ with
    | none => rfl
    | some o => exact absurd (Heap.lt_size q) (by rw [Heap.size_push]; exact Nat.not_lt.mpr (Nat.le_succ _))
  · refine h h' _ (fun b o hb e => ?_) ⟨o', ho', hc⟩
    refine (hs.2 b (fun q => ?_)).trans (Heap.get?_push_of_some _ (Heap.get?_push_of_some _ e))
    have := Heap.lt_size e
    rw [q, Heap.size_push] at this; exact absurd this (Nat.not_lt.mpr (Nat.le_succ _))

theorem pyNext_list_end {it l : Addr} {i : Nat} {items} {Q : Option Value → Shared → Prop} (hh : HandOk calm A.handled s.heap)
    (hit : s.heap.IsListIter it l i) (hl : s.heap.IsList l items) (hx : items[i]? = none)
    (hQ : ∀ h', Heap.ExtBut it s.heap h' → Q none { s with heap := h' }) : wpAny (model prog w) A (pyNext (.ref it)) Q E s := by
  obtain ⟨o, ho, hc, hd⟩ := id hit
  obtain ⟨ol, hol, _, nl, hdl⟩ := hl
  unfold pyNext
  refine wpAny_bind (wpAny_attempt (wpAny_callSpecial?_slot (name := Str.ofString "__next__") hit.typeIs slot_listiter_next
    (wpAny_call_entry slot_listiter_next hit.typeIs entry_listiter_next ?_ (args_listiter_next _))))
  show wpAny _ _ (field (.ref it) 0 >>= _) _ _ s
  refine wpAny_bind (wpAny_field ho hd (x := .ref l) rfl ?_)
  show wpAny _ _ (if (Value.ref l == Value.none) = true then _ else _) _ _ s
  rw [if_neg (show ¬ ((Value.ref l == Value.none) = true) from Bool.false_ne_true)]
  show wpAny _ _ (field (.ref it) 1 >>= _) _ _ s
  refine wpAny_bind (wpAny_field ho hd (x := .int i 0) rfl ?_)
  show wpAny _ _ (seqItems? (.ref l) >>= _) _ _ s
  refine wpAny_bind (wpAny_seqItems hol hdl ?_)
  simp only [Int.toNat_natCast, hx]
  refine wpAny_bind (wpAny_rule (wpAny_bind (wpAny_setField ho hd (by simp) ?_)))
  have hold : HandOk calm A.handled (s.heap.update it (Obj.mapFields fun x => x.setIfInBounds 0 .none)) := hh.keep fun b ob e _ _ hT => by
    have hb : b ≠ it := fun q => by subst q; rw [ho] at e; cases e; exact hT _ hc
    exact (Heap.get?_update_other _ _ (Ne.symm hb)).trans e
  show wpAny _ _ (newExc (.type "StopIteration") [] >>= fun e => raiseNew e) _ _ _
  refine stop_raised (s := { s with heap := s.heap.update it (Obj.mapFields fun x => x.setIfInBounds 0 .none) }) (it := it) hold fun h' e hs he => ?_
  refine wpAny_bind (wpAny_isInstance (T := "StopIteration") (b := true) he isSubtype_stop ?_)
  exact wpAny_pure (hQ _ fun b o hb e => hs b o hb ((Heap.SameBut.update ..).extBut b o hb e))

theorem pyNext_tuple_end {it t : Addr} {i : Nat} {items} {Q : Option Value → Shared → Prop} (hh : HandOk calm A.handled s.heap)
    (hit : s.heap.IsTupleIter it t i) (ht : s.heap.IsTuple t items) (hx : items[i]? = none)
    (hQ : ∀ h', Heap.ExtBut it s.heap h' → Q none { s with heap := h' }) : wpAny (model prog w) A (pyNext (.ref it)) Q E s := by
  obtain ⟨o, ho, hc, hd⟩ := id hit
  obtain ⟨ol, hol, _, nl, hdl⟩ := ht
  unfold pyNext
  refine wpAny_bind (wpAny_attempt (wpAny_callSpecial?_slot (name := Str.ofString "__next__") hit.typeIs F.slot_tuple_iterator_next
    (wpAny_call_entry F.slot_tuple_iterator_next hit.typeIs F.entry_tuple_iterator_next ?_ (F.args_tuple_iterator_next_1 _))))
  show wpAny _ _ (field (.ref it) 0 >>= _) _ _ s
  refine wpAny_bind (wpAny_field ho hd (x := .ref t) rfl ?_)
  show wpAny _ _ (if (Value.ref t == Value.none) = true then _ else _) _ _ s
  rw [if_neg (show ¬ ((Value.ref t == Value.none) = true) from Bool.false_ne_true)]
  show wpAny _ _ (field (.ref it) 1 >>= _) _ _ s
  refine wpAny_bind (wpAny_field ho hd (x := .int i 0) rfl ?_)
  show wpAny _ _ (seqItems? (.ref t) >>= _) _ _ s
  refine wpAny_bind (wpAny_seqItems hol hdl ?_)
  simp only [Int.toNat_natCast, hx]
  refine wpAny_bind (wpAny_rule (wpAny_bind (wpAny_setField ho hd (by simp) ?_)))
  have hold : HandOk calm A.handled (s.heap.update it (Obj.mapFields fun x => x.setIfInBounds 0 .none)) := hh.keep fun b ob e _ _ hT => by
    have hb : b ≠ it := fun q => by subst q; rw [ho] at e; cases e; exact hT _ hc
    exact (Heap.get?_update_other _ _ (Ne.symm hb)).trans e
  show wpAny _ _ (newExc (.type "StopIteration") [] >>= fun e => raiseNew e) _ _ _
  refine stop_raised (s := { s with heap := s.heap.update it (Obj.mapFields fun x => x.setIfInBounds 0 .none) }) (it := it) hold fun h' e hs he => ?_
  refine wpAny_bind (wpAny_isInstance (T := "StopIteration") (b := true) he isSubtype_stop ?_)
  exact wpAny_pure (hQ _ fun b o hb e => hs b o hb ((Heap.SameBut.update ..).extBut b o hb e))

theorem unpack_tup {t : Addr} {items : Array Value} {Q : List Value → Shared → Prop} (hh : HandOk calm A.handled s.heap) (ht : s.heap.IsTuple t items)
    (hQ : ∀ h', (∀ b o, s.heap.get? b = some o → h'.get? b = some o) → Q items.toList { s with heap := h' }) : wpAny (model prog w) A (unpackItems (.ref t) items.size none) Q E s := by
  have hlt : t ≠ s.heap.objs.size := by obtain ⟨o, ho, _⟩ := ht; exact Nat.ne_of_lt (Heap.lt_size ho)
  unfold unpackItems
  refine wpAny_bind ?_
  unfold notIterableAtAll
  refine wpAny_bind (wpAny_specialOf ht.typeIs F.slot_tuple_iter.lookup ?_)
  refine wpAny_pure ?_
  simp only [Bool.false_eq_true, if_false]
  refine wpAny_bind (wpAny_holding (wpAny_pyIter_tuple ht ?_))
  refine wpAny_bind (wpAny_holding (wpAny_draw_tuple hlt items.size 0 _ _ ⟨_, Heap.get?_push_size _ rfl, rfl, rfl⟩ (ht.push _) (by lia) fun h₁ hit₁ hs₁ => ?_))
  have hall : List.take items.size (List.drop 0 items.toList) = items.toList := by
    rw [List.drop_zero]; exact List.take_of_length_le (by simp)
  rw [hall]
  rw [if_neg (by simp)]
  have ht₁ : h₁.IsTuple t items := (ht.push _).extBut hs₁.extBut hlt
  have hk : ∀ b o, s.heap.get? b = some o → h₁.get? b = some o := fun b o e => hs₁.extBut b o (Nat.ne_of_lt (Heap.lt_size e)) (Heap.get?_push_of_some _ e)
  refine wpAny_bind (wpAny_holding (pyNext_tuple_end (s := { s with heap := h₁ }) (hh.grow hk) hit₁ ht₁ (by simp) fun h₂ he₂ => ?_))
  simp only [Option.isSome_none, Bool.false_eq_true, if_false]
  exact wpAny_pure (hQ h₂ fun b o e => he₂ b o (Nat.ne_of_lt (Heap.lt_size e)) (hk b o e))
end
end Mine
end

-- MStmt
section
set_option maxRecDepth 100000
namespace Mine
open PySem PySem.W PyProof.Rows

inductive PFlow where
  | next | brk | cont
  | ret (p : PV)

inductive RelF (al : List Addr) (st : Sto) (h : Heap) : Flow → PFlow → Prop
  | next : RelF al st h .next .next
  | brk : RelF al st h .brk .brk
  | cont : RelF al st h .cont .cont
  | ret {v : Value} {p : PV} : Rep al (Live al st) h v p → RelF al st h (.ret v) (.ret p)

structure KeptS (env : Env) (al : List Addr) (st : Sto) (al' : List Addr) (st' : Sto) (h h' : Heap) : Prop where
  addr : ∀ (k : Nat) (a : Addr), al[k]? = some a → al'[k]? = some a
  keep : ∀ b o, h.get? b = some o → ¬ Live al st b → b ≠ env.locals → (∀ x, (x, b) ∉ env.cells) → h'.get? b = some o ∧ ¬ Live al' st' b

theorem Kept.toS {env : Env} {al al' : List Addr} {st st' : Sto} {h h' : Heap} (k : Kept al st al' st' h h') : KeptS env al st al' st' h h' := ⟨k.addr, fun b o e n _ _ => k.keep b o e n⟩
theorem KeptS.refl {env : Env} {al : List Addr} {st : Sto} {h : Heap} : KeptS env al st al st h h := Kept.refl.toS
theorem KeptS.trans {env : Env} {al al' al'' : List Addr} {st st' st'' : Sto} {h h' h'' : Heap} (x : KeptS env al st al' st' h h') (y : KeptS env al' st' al'' st'' h' h'') : KeptS env al st al'' st'' h h'' :=
  ⟨fun k a e => y.addr k a (x.addr k a e), fun b o e n n1 n2 => y.keep b o (x.keep b o e n n1 n2).1 (x.keep b o e n n1 n2).2 n1 n2⟩

theorem EnvSt.notVar {C : Cx} {env : Env} {al : List Addr} {st : Sto} {rho : Vars} {h : Heap} (e : EnvSt C env al st rho h) {b : Addr} {o : Obj} (g : h.get? b = some o) (nv : NotVar o) :
    b ≠ env.locals ∧ ∀ x, (x, b) ∉ env.cells := by
  constructor
  · rintro rfl
    obtain ⟨m, ⟨o', es, ep, e1, e2, _⟩, _⟩ := e.locs
    rw [g] at e1; cases e1; exact nv.1 _ _ e2
  · intro x hx
    obtain ⟨ov, o', e1, e2⟩ := e.isCells x b hx
    rw [g] at e1; cases e1; exact nv.2 _ e2
theorem KeptS.rep {C : Cx} {env : Env} {al al' : List Addr} {st st' : Sto} {rho : Vars} {h h' : Heap} (x : KeptS env al st al' st' h h') (e : EnvSt C env al st rho h) {v : Value} {p : PV} (r : Rep al (Live al st) h v p) : Rep al' (Live al' st') h' v p :=
  Rep.mono (fun b o g nv n => x.keep b o g n (e.notVar g nv.notVar).1 (e.notVar g nv.notVar).2) x.addr r
theorem KeptS.reps {C : Cx} {env : Env} {al al' : List Addr} {st st' : Sto} {rho : Vars} {h h' : Heap} (x : KeptS env al st al' st' h h') (e : EnvSt C env al st rho h) {v : List Value} {p : List PV} (r : Reps al (Live al st) h v p) : Reps al' (Live al' st') h' v p :=
  Reps.mono (fun b o g nv n => x.keep b o g n (e.notVar g nv.notVar).1 (e.notVar g nv.notVar).2) x.addr r

/-- where a statement-like tree leaves us -/
inductive JSP {B G : Type} (C : Cx) (hd : Option Value) (env : Env) (al : List Addr) (st : Sto) (rel : List Addr → Sto → Heap → B → G → Prop) (Q : G → Vars → Sto → Prop) (s : Shared) (b : B) (s' : Shared) : Prop
  | mk (h' : Heap) (tk : Nat) (al' : List Addr) (st' : Sto) (rho' : Vars) (g : G) (e : s' = { s with heap := h', toks := tk }) (k : KeptS env al st al' st' s.heap h') (a : Amb C hd al' st' h') (x : EnvSt C env al' st' rho' h') (r : rel al' st' h' b g) (q : Q g rho' st')
/-- a statement-like tree -/
noncomputable def JS (C : Cx) (n : Nat) (sc : Scope) {B G : Type} (rel : List Addr → Sto → Heap → B → G → Prop) (t : Env → Sem B) (rho : Vars) (st : Sto) (Q : G → Vars → Sto → Prop) : Prop :=
  ∀ (A : Around) (env : Env) (s : Shared) (al : List Addr), Room n A → EnvOk sc env → Amb C A.handled al st s.heap → EnvSt C env al st rho s.heap →
    wpAny C.M A (t env) (JSP C A.handled env al st rel Q s) (fun _ _ => False) s

theorem JS.use {C : Cx} {n : Nat} {sc : Scope} {B G : Type} {rel : List Addr → Sto → Heap → B → G → Prop} {t : Env → Sem B} {rho : Vars} {st : Sto} {Q : G → Vars → Sto → Prop} (j : JS C n sc rel t rho st Q)
    {A : Around} {env : Env} {s : Shared} {al : List Addr} {K : B → Shared → Prop} {E : Value → Shared → Prop} (r : Room n A) (o : EnvOk sc env) (a : Amb C A.handled al st s.heap) (x : EnvSt C env al st rho s.heap)
    (k : ∀ b h' tk al' st' rho' g, KeptS env al st al' st' s.heap h' → Amb C A.handled al' st' h' → EnvSt C env al' st' rho' h' → rel al' st' h' b g → Q g rho' st' → K b { s with heap := h', toks := tk }) : wpAny C.M A (t env) K E s :=
  wpAny_mono (j A env s al r o a x) (fun b _ ⟨h', tk, al', st', rho', g, e, q1, q2, q3, q4, q5⟩ => e ▸ k b h' tk al' st' rho' g q1 q2 q3 q4 q5) fun _ _ f => f.elim
theorem JS.mono {C : Cx} {n : Nat} {sc : Scope} {B G : Type} {rel : List Addr → Sto → Heap → B → G → Prop} {t : Env → Sem B} {rho : Vars} {st : Sto} {Q Q' : G → Vars → Sto → Prop} (j : JS C n sc rel t rho st Q)
    (h : ∀ g rho' st', Q g rho' st' → Q' g rho' st') : JS C n sc rel t rho st Q' := fun A env s al r o a x =>
  wpAny_mono (j A env s al r o a x) (fun _ _ ⟨h', tk, al', st', rho', g, e, q1, q2, q3, q4, q5⟩ => ⟨h', tk, al', st', rho', g, e, q1, q2, q3, q4, h _ _ _ q5⟩) fun _ _ f => f

noncomputable abbrev EX (C : Cx) (n : Nat) (sc : Scope) (t : Stmt) (rho : Vars) (st : Sto) (Q : PFlow → Vars → Sto → Prop) : Prop := JS C n sc RelF (exec t) rho st Q
noncomputable abbrev EXs (C : Cx) (n : Nat) (sc : Scope) (ts : List Stmt) (rho : Vars) (st : Sto) (Q : PFlow → Vars → Sto → Prop) : Prop := JS C n sc RelF (execs ts) rho st Q

noncomputable def upd (rho : Vars) (x : Str) (p : PV) : Vars := fun y => if y = x then some p else rho y

section
variable {C : Cx} {n : Nat} {sc : Scope} {rho : Vars} {st : Sto}

theorem EXs_nil {Q : PFlow → Vars → Sto → Prop} (h : Q .next rho st) : EXs C n sc [] rho st Q :=
  fun _ _ s al _ _ a e => wpAny_execs_nil ⟨s.heap, s.toks, al, st, rho, _, rfl, .refl, a, e, .next, h⟩

/-- what stands behind a statement -/
noncomputable def contK (C : Cx) (n : Nat) (sc : Scope) (ts : List Stmt) (Q : PFlow → Vars → Sto → Prop) (g : PFlow) (rho : Vars) (st : Sto) : Prop := match g with | .next => EXs C n sc ts rho st Q | g => Q g rho st
theorem ck_next {ts : List Stmt} {Q : PFlow → Vars → Sto → Prop} (h : EXs C n sc ts rho st Q) : contK C n sc ts Q .next rho st := h
theorem ck_ret {ts : List Stmt} {p : PV} {Q : PFlow → Vars → Sto → Prop} (h : Q (.ret p) rho st) : contK C n sc ts Q (.ret p) rho st := h
/-- what stands behind a loop's turn -/
noncomputable def turnK (I : Vars → Sto → Prop) (Q : PFlow → Vars → Sto → Prop) (g : PFlow) (rho : Vars) (st : Sto) : Prop := match g with
  | .next => I rho st | .cont => I rho st | .brk => Q .next rho st | .ret p => Q (.ret p) rho st
theorem tk_next {I : Vars → Sto → Prop} {Q : PFlow → Vars → Sto → Prop} (h : I rho st) : turnK I Q .next rho st := h
theorem tk_ret {I : Vars → Sto → Prop} {p : PV} {Q : PFlow → Vars → Sto → Prop} (h : Q (.ret p) rho st) : turnK I Q (.ret p) rho st := h

theorem EXs_cons {t : Stmt} {ts : List Stmt} {Q : PFlow → Vars → Sto → Prop} (h : EX C n sc t rho st (contK C n sc ts Q)) :
    EXs C n sc (t :: ts) rho st Q := by
  intro A env s al rm o a e
  refine wpAny_execs_cons (h.use rm o a e fun f h1 tk1 al1 st1 rho1 g k1 a1 e1 r1 q1 => ?_)
  cases r1 with
  | next => exact JS.use q1 (s := { s with heap := h1, toks := tk1 }) rm o a1 e1 fun f h2 tk2 al2 st2 rho2 g k2 a2 e2 r2 q2 => ⟨h2, tk2, al2, st2, rho2, g, rfl, k1.trans k2, a2, e2, r2, q2⟩
  | brk => exact ⟨h1, tk1, al1, st1, rho1, _, rfl, k1, a1, e1, .brk, q1⟩
  | cont => exact ⟨h1, tk1, al1, st1, rho1, _, rfl, k1, a1, e1, .cont, q1⟩
  | ret r => exact ⟨h1, tk1, al1, st1, rho1, _, rfl, k1, a1, e1, .ret r, q1⟩

theorem EX_return {x : Expr} {pos : Pos} {Q : PFlow → Vars → Sto → Prop} (h : EV C n sc x rho st fun p st1 => Q (.ret p) rho st1) : EX C n sc (.Return (some x) pos) rho st Q := by
  intro A env s al rm o a e
  exact wpAny_Return_some (h.use rm o a e fun v h1 tk1 al1 st1 p k1 a1 e1 r1 q1 => ⟨h1, tk1, al1, st1, rho, _, rfl, k1.toS, a1, e1, .ret r1, q1⟩)

/-- the ambient where only the frame's names are turned -/
theorem amb_var {hd : Option Value} {env : Env} {al : List Addr} {h h' : Heap} (a : Amb C hd al st h) (e : EnvSt C env al st rho h)
    (k : ∀ b o, h.get? b = some o → b ≠ env.locals → (∀ x, (x, b) ∉ env.cells) → h'.get? b = some o) (ks : KeptS env al st al st h h') : Amb C hd al st h' := by
  have base : ∀ b o, C.h0.get? b = some o → h'.get? b = some o := fun b o q => k b o (a.base b o q) (fun q' => by rw [q', e.newL] at q; cases q) fun x hx => by rw [e.newC x b hx] at q; cases q
  refine ⟨base, a.hand.keep fun b o q _ nv _ => k b o q (e.notVar q nv).1 (e.notVar q nv).2, ⟨a.muts.len, a.muts.nodup, fun x hx => ⟨(a.muts.fresh x hx).1, ?_⟩, fun i l q => ?_⟩⟩
  · obtain ⟨_, o, q, its, m, hd⟩ := a.muts.fresh x hx
    have nv : NotVar o := ⟨by rw [hd]; nofun, by rw [hd]; nofun⟩
    exact ⟨o, k _ _ q (e.notVar q nv).1 (e.notVar q nv).2, its, m, hd⟩
  · obtain ⟨x, vs, m, e1, e2, e3, e4⟩ := a.muts.is i l q
    have nv : NotVar ({ cls := .type "list", dict := none, data := .seq vs.toArray m, slots := #[] } : Obj) := ⟨nofun, nofun⟩
    exact ⟨x, vs, m, e1, k _ _ e2 (e.notVar e2 nv).1 (e.notVar e2 nv).2, ks.reps e e3, e4⟩

theorem store_ok {env : Env} {A : Around} {s : Shared} {al : List Addr} {x : Str} {v : Value} {p : PV} {Q : Unit → Shared → Prop} {E : Value → Shared → Prop} (o : EnvOk sc env) (a : Amb C A.handled al st s.heap) (e : EnvSt C env al st rho s.heap)
    (r : Rep al (Live al st) s.heap v p) (hx : sc.names.lookup x = some .local ∨ sc.names.lookup x = some .cell)
    (h : ∀ h' tk, KeptS env al st al st s.heap h' → Amb C A.handled al st h' → EnvSt C env al st (upd rho x p) h' → Q () { s with heap := h', toks := tk }) : wpAny C.M A (storeName env x v) Q E s := by
  have hkind : ∀ k, sc.names.lookup x = some k → env.kindOf x = some k := fun k hk => by unfold Env.kindOf; rw [o.scope]; exact hk
  have hfn : env.scope.kind = .function := by rw [o.scope]; exact o.fn
  rcases hx with hx | hx
  · obtain ⟨m, hm, hl⟩ := e.locs
    refine wpAny_storeName_local (hkind _ hx) hm (fun h' hn hs => ?_) (by rw [hfn]; rfl)
    have k : ∀ b ob, s.heap.get? b = some ob → b ≠ env.locals → (∀ x, (x, b) ∉ env.cells) → h'.get? b = some ob := fun b ob q h1 _ => (hs.2 b h1).trans q
    have ks : KeptS env al st al st s.heap h' := ⟨fun _ _ q => q, fun b ob q nl h1 h2 => ⟨k b ob q h1 h2, nl⟩⟩
    have hcl : ∀ y c, (y, c) ∈ env.cells → c ≠ env.locals := fun y c hy q => by
      obtain ⟨ov, ob, e1, e2⟩ := e.isCells y c hy
      obtain ⟨ob', es, ep, e3, e4, _⟩ := hm
      rw [q, e3] at e1; cases e1; rw [e4] at e2; cases e2
    refine h h' _ ks (amb_var a e k ks) ⟨⟨_, hn, fun y q hy hq => ?_⟩, fun y c hc => ?_, e.apart, fun y c hc => ?_, e.newL, e.newC⟩
    · by_cases hyx : y = x
      · subst hyx
        simp only [upd, if_true, Option.some.injEq] at hq
        subst hq
        exact ⟨v, by simp, ks.rep e r⟩
      · simp only [upd, if_neg hyx] at hq
        obtain ⟨v', hv', r'⟩ := hl y q hy hq
        exact ⟨v', by simp only [if_neg hyx]; exact hv', ks.rep e r'⟩
    · obtain ⟨ov, hcell, hv⟩ := e.cells y c hc
      refine ⟨ov, hcell.sameBut hs (hcl y c (mem_of_lookup hc)), fun q hq => ?_⟩
      have hyx : y ≠ x := fun q => by subst q; rw [o.cellKind y c hc] at hx; cases hx
      simp only [upd, if_neg hyx] at hq
      obtain ⟨v', hv', r'⟩ := hv q hq
      exact ⟨v', hv', ks.rep e r'⟩
    · obtain ⟨ov, hcell⟩ := e.isCells y c hc
      exact ⟨ov, hcell.sameBut hs (hcl y c hc)⟩
  · obtain ⟨c, hc⟩ := Option.isSome_iff_exists.mp (o.kinds x hx)
    obtain ⟨ov, hcell, _⟩ := e.cells x c hc
    have hmem := mem_of_lookup hc
    refine wpAny_storeName_cell hfn (hkind _ hx) hc hcell fun h' hn hs => ?_
    have k : ∀ b ob, s.heap.get? b = some ob → b ≠ env.locals → (∀ x, (x, b) ∉ env.cells) → h'.get? b = some ob := fun b ob q _ h2 => (hs.2 b (fun q' => h2 x (q' ▸ hmem))).trans q
    have ks : KeptS env al st al st s.heap h' := ⟨fun _ _ q => q, fun b ob q nl h1 h2 => ⟨k b ob q h1 h2, nl⟩⟩
    obtain ⟨m, hm, hl⟩ := e.locs
    have hLc : env.locals ≠ c := fun q => by
      obtain ⟨ob, e1, e2⟩ := hcell
      obtain ⟨ob', es, ep, e3, e4, _⟩ := hm
      rw [q, e1] at e3; cases e3; rw [e4] at e2; cases e2
    have isC : ∀ y c', (y, c') ∈ env.cells → ∃ ov, h'.IsCell c' ov := fun y c' hy => by
      by_cases hcc : c' = c
      · subst hcc; exact ⟨_, hn⟩
      · obtain ⟨ov, hov⟩ := e.isCells y c' hy
        exact ⟨ov, hov.sameBut hs hcc⟩
    refine h h' s.toks ks (amb_var a e k ks) ⟨⟨m, hm.sameBut hs hLc, fun y q hy hq => ?_⟩, fun y c' hc' => ?_, e.apart, isC, e.newL, e.newC⟩
    · have hyx : y ≠ x := fun q => by subst q; rw [hkind _ hx] at hy; cases hy
      simp only [upd, if_neg hyx] at hq
      obtain ⟨v', hv', r'⟩ := hl y q hy hq
      exact ⟨v', hv', ks.rep e r'⟩
    · by_cases hyx : y = x
      · subst hyx
        rw [hc] at hc'; cases hc'
        refine ⟨_, hn, fun q hq => ?_⟩
        simp only [upd, if_true, Option.some.injEq] at hq
        subst hq
        exact ⟨v, rfl, ks.rep e r⟩
      · have hcc : c' ≠ c := fun q => hyx (name_of_addr e.apart (mem_of_lookup hc') (q ▸ hmem))
        obtain ⟨ov', hcell', hv'⟩ := e.cells y c' hc'
        refine ⟨ov', hcell'.sameBut hs hcc, fun q hq => ?_⟩
        simp only [upd, if_neg hyx] at hq
        obtain ⟨v', hv'', r'⟩ := hv' q hq
        exact ⟨v', hv'', ks.rep e r'⟩

theorem EX_assign {x : Str} {px pos : Pos} {v : Expr} {Q : PFlow → Vars → Sto → Prop} (h : EV C n sc v rho st fun p st1 => Q .next (upd rho x p) st1)
    (hx : sc.names.lookup x = some .local ∨ sc.names.lookup x = some .cell) (hs : ∀ env, env.scope = sc → swapsWith v (some (.Name x px)) pos.line env = pure false) : EX C n sc (.Assign [.Name x px] v pos) rho st Q := by
  intro A env s al rm o a e
  refine wpAny_Assign_Name (h.use rm o a e fun v h1 tk1 al1 st1 p k1 a1 e1 r1 q1 => ?_) (hs env o.scope)
  exact store_ok (s := { s with heap := h1, toks := tk1 }) o a1 e1 r1 hx fun h2 tk2 k2 a2 e2 => ⟨h2, tk2, al1, st1, _, _, rfl, k1.toS.trans k2, a2, e2, .next, q1⟩

theorem EX_if {test : Expr} {body orelse : List Stmt} {pos : Pos} {Q : PFlow → Vars → Sto → Prop} (h : TV C n sc test rho st fun b st1 => if b = true then EXs C n sc body rho st1 Q else EXs C n sc orelse rho st1 Q) :
    EX C n sc (.If test body orelse pos) rho st Q := by
  intro A env s al rm o a e
  refine wpAny_If (h.use rm o a e fun b h1 tk1 al1 st1 p k1 a1 e1 r1 q1 => ?_)
  subst r1
  cases b with
  | true =>
    simp only [if_true] at q1 ⊢
    exact JS.use q1 (s := { s with heap := h1, toks := tk1 }) rm o a1 e1 fun f h2 tk2 al2 st2 rho2 g k2 a2 e2 r2 q2 => ⟨h2, tk2, al2, st2, rho2, g, rfl, k1.toS.trans k2, a2, e2, r2, q2⟩
  | false =>
    simp only [Bool.false_eq_true, if_false] at q1 ⊢
    exact JS.use q1 (s := { s with heap := h1, toks := tk1 }) rm o a1 e1 fun f h2 tk2 al2 st2 rho2 g k2 a2 e2 r2 q2 => ⟨h2, tk2, al2, st2, rho2, g, rfl, k1.toS.trans k2, a2, e2, r2, q2⟩

/-- what an in-place operation on ints gives -/
noncomputable def AugOk (op : Operator) (p q : PV) (R : PV → Prop) : Prop := match op, p, q with
  | .Add, .int a, .int b => R (.int (a + b))
  | .Sub, .int a, .int b => R (.int (a - b))
  | _, _, _ => False
theorem aug_ok {op : Operator} {p q : PV} {R : PV → Prop} {A : Around} {s : Shared} {al : List Addr} {va vb : Value}
    (ra : Rep al (Live al st) s.heap va p) (rb : Rep al (Live al st) s.heap vb q) (h : AugOk op p q R) :
    wpAny C.M A (inplaceOp op va vb) (fun v s' => ∃ tk g, s' = { s with toks := tk } ∧ Rep al (Live al st) s.heap v g ∧ R g) (fun _ _ => False) s := by
  unfold AugOk at h
  split at h
  · obtain ⟨t, rfl⟩ := ra.intOf; obtain ⟨u, rfl⟩ := rb.intOf
    exact iadd_int ⟨_, _, rfl, .int _ _, h⟩
  · obtain ⟨t, rfl⟩ := ra.intOf; obtain ⟨u, rfl⟩ := rb.intOf
    exact isub_int ⟨_, _, rfl, .int _ _, h⟩
  · exact h.elim

theorem EX_aug {x : Str} {px pos : Pos} {v : Expr} {op : Operator} {p : PV} {Q : PFlow → Vars → Sto → Prop} (hr : rho x = some p) (h : EV C n sc v rho st fun q st1 => AugOk op p q fun g => Q .next (upd rho x g) st1)
    (hx : sc.names.lookup x = some .local) : EX C n sc (.AugAssign (.Name x px) op v pos) rho st Q := by
  intro A env s al rm o a e
  obtain ⟨m, hm, hl⟩ := e.locs
  have hk : env.kindOf x = some .local := by unfold Env.kindOf; rw [o.scope]; exact hx
  obtain ⟨v0, hv0, r0⟩ := hl x p hk hr
  refine wpAny_AugAssign_Name (wpAny_loadName_local (by rw [o.scope]; exact o.fn) hk hm hv0 (h.use rm o a e fun v h1 tk1 al1 st1 q k1 a1 e1 r1 q1 => ?_))
  refine wpAny_mono (aug_ok (s := { s with heap := h1, toks := tk1 }) (k1.rep r0) r1 q1) (fun v2 s' hh => ?_) fun _ _ f => f.elim
  obtain ⟨tk2, g, rfl, r2, q2⟩ := hh
  exact store_ok (s := { s with heap := h1, toks := tk2 }) o a1 e1 r2 (.inl hx) fun h3 tk3 k3 a3 e3 => ⟨h3, tk3, al1, st1, _, _, rfl, k1.toS.trans k3, a3, e3, .next, q2⟩

end
end Mine
end

-- MIter
section
set_option maxRecDepth 100000
namespace Mine
open PySem PySem.W PyProof.Rows

noncomputable def rangeP (x : Int) : Nat → Int → List PV
  | 0, _ => []
  | n + 1, c => .int x :: rangeP (x + c) n c
noncomputable def enumP : Nat → List PV → List PV
  | _, [] => []
  | i, p :: r => .tup [.int i, p] :: enumP (i + 1) r

/-- an iterator that will yield these -/
inductive ItSt (calm tt : Bool) (al : List Addr) (X : Addr → Prop) (h : Heap) : List Addr → Addr → List PV → Prop
  | list {I l : Addr} {i : Nat} {vs : List Value} {n : Nat} {rest : List PV} : h.IsListIter I l i → IsL h l vs.toArray n → ¬ X l → Reps al X h (vs.drop i) rest → ItSt calm tt al X h [I] I rest
  | range {I : Addr} {x left c : Int} : calm = true → IsRangeIter h I x left c → 0 ≤ left → ItSt calm tt al X h [I] I (rangeP x left.toNat c)
  | enum {e it l : Addr} {i : Nat} {old : Value} {vs : List Value} {n : Nat} {rest : List PV} : calm = true → tt = true → IsEnum h e it i old → h.IsListIter it l i → e ≠ it → IsL h l vs.toArray n → ¬ X l →
      Reps al X h (vs.drop i) rest → ItSt calm tt al X h [e, it] e (enumP i rest)

theorem ItSt.mono {calm tt : Bool} {al al' : List Addr} {X X' : Addr → Prop} {h h' : Heap} {ws : List Addr} {I : Addr} {items : List PV} (s : ItSt calm tt al X h ws I items)
    (hk : ∀ b o, h.get? b = some o → RepObj o → ¬ X b → h'.get? b = some o ∧ ¬ X' b) (hk' : ∀ b o, h.get? b = some o → NotVar o → (∀ its n, o.data ≠ .seq its n) → h'.get? b = some o)
    (ha : ∀ (k : Nat) (a : Addr), al[k]? = some a → al'[k]? = some a) : ItSt calm tt al' X' h' ws I items := by
  cases s with
  | list h1 h2 h3 h4 =>
    obtain ⟨o, ho, hc, hd⟩ := h1
    exact .list ⟨o, hk' _ _ ho ⟨by rw [hd]; nofun, by rw [hd]; nofun⟩ (by rw [hd]; nofun), hc, hd⟩ (hk _ _ h2 RepObj.seq h3).1 (hk _ _ h2 RepObj.seq h3).2 (Reps.mono hk ha h4)
  | range hc h1 h2 => exact .range hc (hk' _ _ h1 ⟨nofun, nofun⟩ nofun) h2
  | enum hc ht h1 h2 h3 h4 h5 h6 =>
    obtain ⟨o, ho, hc', hd⟩ := h2
    exact .enum hc ht (hk' _ _ h1 ⟨nofun, nofun⟩ nofun) ⟨o, hk' _ _ ho ⟨by rw [hd]; nofun, by rw [hd]; nofun⟩ (by rw [hd]; nofun), hc', hd⟩ h3 (hk _ _ h4 RepObj.seq h5).1 (hk _ _ h4 RepObj.seq h5).2 (Reps.mono hk ha h6)

section
variable {C : Cx} {st : Sto}

theorem letOwned_noop {prog : Program} {w : World} {A : Around} {E : Value → Shared → Prop} {s : Shared} {target : Expr} {I : Addr} {v : Value} {o : Obj} {T : String} {Q : Unit → Shared → Prop} (ho : s.heap.get? I = some o) (hc : o.cls = .type T)
    (hT : ["enumerate", "zip", "dict_itemiterator", "dict_reverseitemiterator", "odict_iterator", "itertools.zip_longest", "itertools.pairwise"].contains T = false) (h : Q () s) :
    wpAny (model prog w) A (letOwnedTupleGo target (.ref I) v) Q E s := by
  have key : ∀ elts : List Expr, ∀ t : Sem Unit, t = (do
      let (.ref r, .ref a) := (Value.ref I, v) | return
      let o ← load r
      match o.cls, o.data with
      | .type n, .fields vs =>
        if ["enumerate", "zip", "dict_itemiterator", "dict_reverseitemiterator", "odict_iterator", "itertools.zip_longest", "itertools.pairwise"].contains n && vs[0]? == some (rawInt a) then
          rule "for.unpacks-the-owned-tuple"
          updateField r 0 .none
      | _, _ => pure ()) → wpAny (model prog w) A t Q E s := by
    rintro _ t rfl
    cases v with
    | ref a =>
      refine wpAny_bind (wpAny_load ho ?_)
      rw [hc]
      split
      · rename_i n vs e _
        cases e
        rw [if_neg (by rw [hT]; simp)]
        exact wpAny_pure h
      · exact wpAny_pure h
    | _ => exact wpAny_pure h
  unfold letOwnedTupleGo
  split
  · exact key [] _ rfl
  · exact key [] _ rfl
  · exact wpAny_pure h

theorem drop_cons {α : Type} {l : List α} {i : Nat} {x : α} {r : List α} (h : l.drop i = x :: r) : l[i]? = some x ∧ l.drop (i + 1) = r := by
  have h1 : l[i]? = (l.drop i)[0]? := by simp
  refine ⟨by rw [h1, h]; rfl, ?_⟩
  have : l.drop (i + 1) = (l.drop i).drop 1 := by rw [List.drop_drop]
  rw [this, h]; rfl

theorem it_next {tt : Bool} {A : Around} {s : Shared} {al : List Addr} {ws : List Addr} {I : Addr} {x : PV} {rest items : List PV} {target : Expr} {Q : Value → Shared → Prop} {E : Value → Shared → Prop}
    (htt : tt = true → ∃ elts k p, target = .Tuple elts k p) (a : Amb C A.handled al st s.heap) (it : ItSt C.calm tt al (Live al st) s.heap ws I items) (hi : items = x :: rest)
    (k : ∀ v h' tk, (∀ b o, b ∉ ws → s.heap.get? b = some o → h'.get? b = some o) → Rep al (Live al st) h' v x → ItSt C.calm tt al (Live al st) h' ws I rest → Q v { s with heap := h', toks := tk }) :
    wpAny C.M A (pyNext (.ref I)) (fun r s1 => match r with | none => False | some v => wpAny C.M A (letOwnedTupleGo target (.ref I) v) (fun _ s2 => Q v s2) E s1) E s := by
  -- what is kept where only iterators turn
  have core : ∀ {h' : Heap}, (∀ b o, b ∉ ws → s.heap.get? b = some o → h'.get? b = some o) → (∀ b ∈ ws, ∃ o, s.heap.get? b = some o ∧ ¬ RepObj o) →
      (∀ b o, s.heap.get? b = some o → RepObj o → ¬ Live al st b → h'.get? b = some o ∧ ¬ Live al st b) := fun kp hw b o e r nl =>
    ⟨kp b o (fun hm => let ⟨o', e', n⟩ := hw b hm; n (by rw [e] at e'; cases e'; exact r)) e, nl⟩
  cases it with
  | list h1 h2 h3 h4 =>
    rename_i l i vs m
    subst hi
    obtain ⟨v, vs', hv, r1, r2⟩ := h4.consOf
    obtain ⟨e1, e2⟩ := drop_cons hv
    refine wpAny_pyNext_list_item h1 h2.isList (x := v) (by simpa using e1) fun h' hit hs => ?_
    obtain ⟨o, ho, hc, hd⟩ := id hit
    have kp : ∀ b ob, b ∉ [I] → s.heap.get? b = some ob → h'.get? b = some ob := fun b ob hb e => (hs.2 b (fun q => hb (by simp [q]))).trans e
    have hw : ∀ b ∈ [I], ∃ o, s.heap.get? b = some o ∧ ¬ RepObj o := fun b hb => by
      rw [List.mem_singleton.mp hb]
      obtain ⟨o', ho', hc', hd'⟩ := h1
      refine ⟨o', ho', ?_⟩
      rintro (⟨_, _, q⟩ | ⟨q, _⟩)
      · rw [hd'] at q; cases q
      · rw [hc'] at q; simp at q
    have cc := core kp hw
    exact letOwned_noop (s := { s with heap := h' }) ho hc (by decide +kernel) (k v h' s.toks kp (Rep.mono cc (fun _ _ e => e) r1) (.list hit (cc _ _ h2 RepObj.seq h3).1 h3 (by rw [e2]; exact Reps.mono cc (fun _ _ e => e) r2)))
  | range hc h1 h2 =>
    rename_i y left c
    have hpos : 0 < left := by
      rcases Int.lt_or_eq_of_le h2 with q | q
      · exact q
      · rw [← q] at hi; cases hi
    obtain ⟨k', hk'⟩ : ∃ k', left.toNat = k' + 1 := ⟨left.toNat - 1, by lia⟩
    rw [hk'] at hi
    simp only [rangeP, List.cons.injEq] at hi
    obtain ⟨rfl, rfl⟩ := hi
    refine wpAny_pyNext_range_item h1 hpos fun h' hit hs => ?_
    have kp : ∀ b ob, b ∉ [I] → s.heap.get? b = some ob → h'.get? b = some ob := fun b ob hb e => (hs.2 b (fun q => hb (by simp [q]))).trans e
    have e9 : left.toNat - 1 = (left - 1).toNat := by lia
    have e10 : k' = (left - 1).toNat := by lia
    rw [e10] at k
    exact letOwned_noop (s := { s with heap := h', toks := s.toks + 1 }) hit rfl (by decide +kernel) (k _ h' (s.toks + 1) kp (.int _ _) (.range hc hit (by lia)))
  | enum hc ht h1 h2 h3 h4 h5 h6 =>
    rename_i it l i old vs m ps
    obtain ⟨elts, kk, pp, rfl⟩ := htt ht
    cases ps with
    | nil => cases hi
    | cons p ps =>
      simp only [enumP, List.cons.injEq] at hi
      obtain ⟨rfl, rfl⟩ := hi
      obtain ⟨v, vs', hv, r1, r2⟩ := h6.consOf
      obtain ⟨e1, e2⟩ := drop_cons hv
      refine wpAny_pyNext_enum_item h1 h2 h4.isList (x := v) (by simpa using e1) h3 fun h' he hit htup hsz hs => ?_
      refine wpAny_letOwnedTupleGo_enum (s := { s with heap := h', toks := s.toks + 1 }) he fun h'' he' hs' => ?_
      have kp : ∀ b ob, b ∉ [I, it] → s.heap.get? b = some ob → h''.get? b = some ob := fun b ob hb q => by
        have hbe : b ≠ I := fun z => hb (by simp [z])
        exact (hs'.2 b hbe).trans (hs b ob hbe (fun z => hb (by simp [z])) q)
      have hw : ∀ b ∈ [I, it], ∃ o, s.heap.get? b = some o ∧ ¬ RepObj o := fun b hb => by
        rcases List.mem_cons.mp hb with rfl | hb
        · refine ⟨_, h1, ?_⟩
          rintro (⟨_, _, q⟩ | ⟨q, _⟩) <;> simp at q
        · rw [List.mem_singleton.mp hb]
          obtain ⟨o', ho', hc', hd'⟩ := h2
          refine ⟨o', ho', ?_⟩
          rintro (⟨_, _, q⟩ | ⟨q, _⟩)
          · rw [hd'] at q; cases q
          · rw [hc'] at q; simp at q
      have cc := core kp hw
      have hne : s.heap.objs.size ≠ I := fun q => by
        have := Heap.lt_size h1
        rw [← q] at this; exact Nat.lt_irrefl _ this
      have htup' : h''.get? s.heap.objs.size = some { cls := .type "tuple", data := .seq (List.toArray [.int i s.toks, v]) 0 } := (hs'.2 _ hne).trans htup
      refine k _ h'' (s.toks + 1) kp (.tup htup' (live_none a (get_size_none _)) (.cons (.int _ _) (.cons (Rep.mono cc (fun _ _ e => e) r1) .nil))) ?_
      refine .enum hc ht (by simpa using he') ?_ h3 (cc _ _ h4 RepObj.seq h5).1 h5 (by rw [e2]; exact Reps.mono cc (fun _ _ e => e) r2)
      obtain ⟨o, ho, hc2, hd2⟩ := hit
      exact ⟨o, (hs'.2 _ (Ne.symm h3)).trans ho, hc2, hd2⟩

theorem it_end {tt : Bool} {A : Around} {s : Shared} {al : List Addr} {ws : List Addr} {I : Addr} {items : List PV} {E : Value → Shared → Prop} {Q : Option Value → Shared → Prop}
    (a : Amb C A.handled al st s.heap) (it : ItSt C.calm tt al (Live al st) s.heap ws I items) (hi : items = [])
    (k : ∀ h', (∀ b o, b ∉ ws → s.heap.get? b = some o → h'.get? b = some o) → Q none { s with heap := h' }) : wpAny C.M A (pyNext (.ref I)) Q E s := by
  cases it with
  | list h1 h2 h3 h4 =>
    rename_i l i vs m
    subst hi
    have e : vs.drop i = [] := h4.nilOf
    refine pyNext_list_end a.hand h1 h2.isList ?_ fun h' hs => k h' fun b ob hb q => hs b ob (fun z => hb (by simp [z])) q
    have : vs.length ≤ i := by simpa using e
    simp [this]
  | range hc h1 h2 =>
    rename_i y left c
    have hl : left = 0 := by
      rcases Int.lt_or_eq_of_le h2 with q | q
      · obtain ⟨k', hk'⟩ : ∃ k', left.toNat = k' + 1 := ⟨left.toNat - 1, by lia⟩
        rw [hk'] at hi; cases hi
      · exact q.symm
    subst hl
    exact wpAny_pyNext_range_end (a.calm hc) h1 (Int.le_refl _) fun h' hs => k h' fun b ob hb q => hs b ob (fun z => hb (by simp [z])) q
  | enum hc ht h1 h2 h3 h4 h5 h6 =>
    rename_i it l i old vs m ps
    cases ps with
    | cons p ps => cases hi
    | nil =>
      have e : vs.drop i = [] := h6.nilOf
      have : vs.length ≤ i := by simpa using e
      exact wpAny_pyNext_enum_end (a.calm hc) h1 h2 h4.isList (by simp [this]) fun h' hs => k h' fun b ob hb q => hs b ob (fun z => hb (by simp [z])) q
end
end Mine
end

-- MStmt2
section
set_option maxRecDepth 100000
namespace Mine
open PySem PySem.W PyProof.Rows

theorem setItem_IsL {prog : Program} {w : World} {A : Around} {E : Value → Shared → Prop} {s : Shared} {l : Addr} {items : Array Value} {n : Nat} {k : Int} {t : Tok} {v : Value} {Q : Unit → Shared → Prop} (hl : IsL s.heap l items n)
    (h0 : 0 ≤ k) (hfit : k < 2 ^ 63) (hn : k < items.size)
    (hQ : Q () { s with heap := s.heap.update l (Obj.mapSeq (·.setIfInBounds k.toNat v)) }) :
    wpAny (model prog w) A (setItem (.ref l) (.int k t) v) Q E s := by
  unfold setItem
  try with_reducible refine wpAny_holding ?_
  first | refine wpAny_bind (wpAny_pure ?_) | skip
  refine wpAny_bind (wpAny_sequenceKey hl.isList.typeIs (by decide) ?_)
  refine wpAny_bind (wpAny_callSpecial?_slot (name := Str.ofString "__setitem__") hl.isList.typeIs slot_list_setitem
    (wpAny_call_entry slot_list_setitem hl.isList.typeIs entry_list_setitem ?_ (args_list_setitem _ _ _)))
  show wpAny _ _ (Builtin.List.listSubscript? (.int k t) >>= _) _ _ s
  refine wpAny_bind (wpAny_listSubscript_int (fitsIndex_of h0 hfit) ?_)
  clear hfit
  obtain ⟨j, rfl⟩ := Int.eq_ofNat_of_zero_le h0
  have hj : j < items.size := by lia
  have hx' : items[j]? = some items[j] := Array.getElem?_eq_getElem hj
  show wpAny _ _ ((seqItemAt l j >>= fun r => pure (r.map (j, ·))) >>= _) _ _ s
  refine wpAny_bind (wpAny_bind (wpAny_seqItemAt hl rfl (wpAny_pure ?_)))
  rw [hx']
  show wpAny _ _ (setSeqItemAt l j v >>= _) _ _ s
  refine wpAny_bind (wpAny_setSeqItemAt hl rfl ?_)
  first
    | exact wpAny_bind (wpAny_pure (wpAny_pure ⟨.none, rfl, wpAny_pure hQ⟩))
    | exact wpAny_pure ⟨.none, rfl, wpAny_pure hQ⟩

section
variable {C : Cx} {n : Nat} {sc : Scope} {rho : Vars} {st : Sto}

theorem live_set {al : List Addr} {k : Nat} {l l' : List PV} {b : Addr} (hk : st[k]? = some (some l)) : Live al (st.set k (some l')) b ↔ Live al st b := by
  have hlt := lt_of_get hk
  constructor
  · rintro ⟨i, m, e1, e2⟩
    by_cases hi : k = i
    · subst hi; exact ⟨k, l, hk, e2⟩
    · rw [List.getElem?_set_ne hi] at e1; exact ⟨i, m, e1, e2⟩
  · rintro ⟨i, m, e1, e2⟩
    by_cases hi : k = i
    · subst hi; exact ⟨k, l', by simp [hlt], e2⟩
    · exact ⟨i, m, by rw [List.getElem?_set_ne hi]; exact e1, e2⟩

/-- a mutable list is given other items -/
theorem mut_put {hd : Option Value} {al : List Addr} {h h' : Heap} {k : Nat} {l l' : List PV} {x : Addr} {vs : List Value} {c : Nat} (a : Amb C hd al st h) (hk : st[k]? = some (some l)) (ha : al[k]? = some x)
    (hs : ∀ b, b ≠ x → h'.get? b = h.get? b) (i : IsL h' x vs.toArray c) (r : Reps al (Live al st) h vs l') (hm : noMuts l' = true) : Kept al st al (st.set k (some l')) h h' ∧ Amb C hd al (st.set k (some l')) h' := by
  have hlive : Live al st x := ⟨k, l, hk, ha⟩
  have kk : Kept al st al (st.set k (some l')) h h' := ⟨fun _ _ e => e, fun b o e nl => ⟨(hs b (fun q => nl (q ▸ hlive))).trans e, fun q => nl ((live_set hk).mp q)⟩⟩
  have hx0 := (a.muts.fresh x (List.mem_of_getElem? ha)).1
  refine ⟨kk, ⟨fun b o e => (hs b (fun q => by rw [q, hx0] at e; cases e)).trans (a.base b o e), a.hand.keep fun b o e ns _ _ => (hs b (fun q => ?_)).trans e, ⟨by simpa using a.muts.len, a.muts.nodup, fun y hy => ?_, fun j m e => ?_⟩⟩⟩
  · obtain ⟨its, m, i'⟩ := a.muts.live hlive
    unfold IsL at i'; rw [q, i'] at e; cases e; exact ns _ _ rfl
  · refine ⟨(a.muts.fresh y hy).1, ?_⟩
    by_cases hyx : y = x
    · subst hyx; exact ⟨_, i, _, _, rfl⟩
    · obtain ⟨o, e, q⟩ := (a.muts.fresh y hy).2; exact ⟨o, (hs y hyx).trans e, q⟩
  · by_cases hj : k = j
    · subst hj
      rw [List.getElem?_set_self (lt_of_get hk)] at e
      simp only [Option.some.injEq] at e; subst e
      exact ⟨x, vs, c, ha, i, kk.reps r, hm⟩
    · rw [List.getElem?_set_ne hj] at e
      obtain ⟨y, ws, m', e1, e2, e3, e4⟩ := a.muts.is j m e
      have hyx : y ≠ x := fun q => hj (by
        have h1 := lt_of_get ha; have h2 := lt_of_get e1
        rw [List.getElem?_eq_getElem h1] at ha; rw [List.getElem?_eq_getElem h2] at e1
        refine (List.getElem_inj (h₀ := h1) (h₁ := h2) a.muts.nodup).mp ?_
        simp only [Option.some.injEq] at ha e1
        rw [ha, e1, q])
      exact ⟨y, ws, m', e1, (hs y hyx).trans e2, kk.reps e3, e4⟩

/-- where an assignment leaves us -/
inductive JAP (C : Cx) (hd : Option Value) (env : Env) (al : List Addr) (st : Sto) (Q : Vars → Sto → Prop) (s : Shared) (u : Unit) (s' : Shared) : Prop
  | mk (h' : Heap) (tk : Nat) (al' : List Addr) (st' : Sto) (rho' : Vars) (e : s' = { s with heap := h', toks := tk }) (k : KeptS env al st al' st' s.heap h') (a : Amb C hd al' st' h') (x : EnvSt C env al' st' rho' h') (q : Q rho' st')
/-- assigning a value to a target -/
noncomputable def JA (C : Cx) (n : Nat) (sc : Scope) (target : Expr) (p : PV) (rho : Vars) (st : Sto) (Q : Vars → Sto → Prop) : Prop :=
  ∀ (A : Around) (env : Env) (s : Shared) (al : List Addr) (v : Value), Room n A → EnvOk sc env → Amb C A.handled al st s.heap → EnvSt C env al st rho s.heap → Rep al (Live al st) s.heap v p →
    wpAny C.M A (assign target env v) (JAP C A.handled env al st Q s) (fun _ _ => False) s
noncomputable def JAs (C : Cx) (n : Nat) (sc : Scope) (targets : List Expr) (ps : List PV) (rho : Vars) (st : Sto) (Q : Vars → Sto → Prop) : Prop :=
  ∀ (A : Around) (env : Env) (s : Shared) (al : List Addr) (vs : List Value), Room n A → EnvOk sc env → Amb C A.handled al st s.heap → EnvSt C env al st rho s.heap → Reps al (Live al st) s.heap vs ps →
    wpAny C.M A (assignInOrder ((assignEach targets env).map (·.2)) vs) (JAP C A.handled env al st Q s) (fun _ _ => False) s

theorem JA.use {target : Expr} {p : PV} {Q : Vars → Sto → Prop} (j : JA C n sc target p rho st Q)
    {A : Around} {env : Env} {s : Shared} {al : List Addr} {v : Value} {K : Unit → Shared → Prop} {E : Value → Shared → Prop} (r : Room n A) (o : EnvOk sc env) (a : Amb C A.handled al st s.heap) (x : EnvSt C env al st rho s.heap)
    (rv : Rep al (Live al st) s.heap v p) (k : ∀ h' tk al' st' rho', KeptS env al st al' st' s.heap h' → Amb C A.handled al' st' h' → EnvSt C env al' st' rho' h' → Q rho' st' → K () { s with heap := h', toks := tk }) :
    wpAny C.M A (assign target env v) K E s :=
  wpAny_mono (j A env s al v r o a x rv) (fun _ _ ⟨h', tk, al', st', rho', e, q1, q2, q3, q4⟩ => e ▸ k h' tk al' st' rho' q1 q2 q3 q4) fun _ _ f => f.elim
theorem JAs.use {targets : List Expr} {ps : List PV} {Q : Vars → Sto → Prop} (j : JAs C n sc targets ps rho st Q)
    {A : Around} {env : Env} {s : Shared} {al : List Addr} {vs : List Value} {K : Unit → Shared → Prop} {E : Value → Shared → Prop} (r : Room n A) (o : EnvOk sc env) (a : Amb C A.handled al st s.heap) (x : EnvSt C env al st rho s.heap)
    (rv : Reps al (Live al st) s.heap vs ps) (k : ∀ h' tk al' st' rho', KeptS env al st al' st' s.heap h' → Amb C A.handled al' st' h' → EnvSt C env al' st' rho' h' → Q rho' st' → K () { s with heap := h', toks := tk }) :
    wpAny C.M A (assignInOrder ((assignEach targets env).map (·.2)) vs) K E s :=
  wpAny_mono (j A env s al vs r o a x rv) (fun _ _ ⟨h', tk, al', st', rho', e, q1, q2, q3, q4⟩ => e ▸ k h' tk al' st' rho' q1 q2 q3 q4) fun _ _ f => f.elim

theorem JA_name {x : Str} {pos : Pos} {p : PV} {Q : Vars → Sto → Prop} (h : Q (upd rho x p) st) (hx : sc.names.lookup x = some .local ∨ sc.names.lookup x = some .cell) : JA C n sc (.Name x pos) p rho st Q :=
  fun _ _ _ al _ _ o a e r => wpAny_assign_Name (store_ok o a e r hx fun h' tk k2 a2 e2 => ⟨h', tk, al, st, _, rfl, k2, a2, e2, h⟩)

theorem JAs_nil {Q : Vars → Sto → Prop} (h : Q rho st) : JAs C n sc [] [] rho st Q := fun _ _ s al _ _ _ a e r => by
  cases r.nilOf
  exact wpAny_pure ⟨s.heap, s.toks, al, st, rho, rfl, .refl, a, e, h⟩
theorem JAs_cons {t : Expr} {ts : List Expr} {p : PV} {ps : List PV} {Q : Vars → Sto → Prop} (h : JA C n sc t p rho st fun rho1 st1 => JAs C n sc ts ps rho1 st1 Q)
    (ht : ∀ env, assignEach (t :: ts) env = (false, assign t env) :: assignEach ts env) : JAs C n sc (t :: ts) (p :: ps) rho st Q := by
  intro A env s al vs rm o a e r
  obtain ⟨v, vs', rfl, r1, r2⟩ := r.consOf
  rw [ht env]
  show wpAny _ _ (do holding vs' (assign t env v); assignInOrder ((assignEach ts env).map (·.2)) vs') _ _ s
  refine wpAny_bind (wpAny_holding (h.use rm o a e r1 fun h1 tk1 al1 st1 rho1 k1 a1 e1 q1 => ?_))
  exact JAs.use q1 (s := { s with heap := h1, toks := tk1 }) rm o a1 e1 (k1.reps e r2) fun h2 tk2 al2 st2 rho2 k2 a2 e2 q2 => ⟨h2, tk2, al2, st2, rho2, rfl, k1.trans k2, a2, e2, q2⟩

theorem JA_tup {elts : List Expr} {k : Nat} {pos : Pos} {ps : List PV} {Q : Vars → Sto → Prop} (h : JAs C n sc elts ps rho st Q) (hlen : ∀ env, (assignEach elts env).length = ps.length) (hstar : ∀ env, (assignEach elts env).findIdx? (·.1) = none) :
    JA C n sc (.Tuple elts k pos) (.tup ps) rho st Q := by
  intro A env s al v rm o a e r
  obtain ⟨t, vs, m, rfl, i, _, rs⟩ := r.tupOf
  rw [arm_assign_Tuple]
  refine wpAny_bind (wpAny_standAt ?_)
  unfold unpack
  rw [hlen env, hstar env, ← rs.length]
  have ht : s.heap.IsTuple t vs.toArray := ⟨_, i, rfl, m, rfl⟩
  have hsz : vs.length = vs.toArray.size := by simp
  rw [hsz]
  refine wpAny_bind (wpAny_holding (unpack_tup a.hand ht fun h1 k1 => ?_))
  obtain ⟨x1, x2, x3⟩ := fin_grow a e k1
  exact h.use (s := { s with heap := h1 }) rm o x2 x3 (x1.reps rs) fun h2 tk2 al2 st2 rho2 k2 a2 e2 q2 => ⟨h2, tk2, al2, st2, rho2, rfl, x1.toS.trans k2, a2, e2, q2⟩

/-- what a store at an index makes of the store -/
noncomputable def PutOk (st : Sto) (p q : PV) (v : PV) (R : Sto → Prop) : Prop := match p, q with
  | .mut k, .int j => noMut v = true ∧ ∃ l, st[k]? = some (some l) ∧ l.length ≤ 1000000 ∧ 0 ≤ j ∧ j.toNat < l.length ∧ R (st.set k (some (l.set j.toNat v)))
  | _, _ => False

theorem put_ok {A : Around} {s : Shared} {al : List Addr} {p q g : PV} {va vb v : Value} {R : Sto → Prop} {Q : Unit → Shared → Prop} {E : Value → Shared → Prop} (a : Amb C A.handled al st s.heap)
    (ra : Rep al (Live al st) s.heap va p) (rb : Rep al (Live al st) s.heap vb q) (rv : Rep al (Live al st) s.heap v g) (h : PutOk st p q g R)
    (k : ∀ h' st', Kept al st al st' s.heap h' → Amb C A.handled al st' h' → R st' → Q () { s with heap := h' }) : wpAny C.M A (setItem va vb v) Q E s := by
  unfold PutOk at h
  split at h
  · rename_i i j
    obtain ⟨hnm, l, hst, hz, h0, hj, hR⟩ := h
    obtain ⟨b, rfl, hb⟩ := ra.mutOf
    obtain ⟨t, rfl⟩ := rb.intOf
    obtain ⟨b', ws, m, hb', ii, r, hml⟩ := a.muts.is i l hst
    rw [hb] at hb'; cases hb'
    have e := r.length
    refine setItem_IsL ii h0 (by lia) (by simp only [List.size_toArray]; lia) ?_
    have i2 := ii.update (·.setIfInBounds j.toNat v)
    have e2 : ws.toArray.setIfInBounds j.toNat v = (ws.set j.toNat v).toArray := by simp
    rw [e2] at i2
    obtain ⟨x1, x2⟩ := mut_put a hst hb (fun b' hne => Heap.get?_update_other _ _ (Ne.symm hne)) i2 (r.set j.toNat rv) (noMuts_set hml hnm)
    exact k _ _ x1 x2 hR
  · exact h.elim

theorem JA_sub {ob ib : Expr} {pos : Pos} {g : PV} {Q : Vars → Sto → Prop} (h : EV C n sc ob rho st fun p st1 => EV C n sc ib rho st1 fun q st2 => PutOk st2 p q g fun st3 => Q rho st3)
    (hs : ∀ l u p, ib ≠ .Slice l u none p) : JA C n sc (.Subscript ob ib pos) g rho st Q := by
  intro A env s al v rm o a e r
  rw [arm_assign_Subscript]
  refine wpAny_bind (wpAny_holding (h.use rm o a e fun va h1 tk1 al1 st1 p k1 a1 e1 r1 q1 => ?_))
  refine wpAny_bind (wpAny_holding (q1.use (s := { s with heap := h1, toks := tk1 }) rm o a1 e1 fun vb h2 tk2 al2 st2 q k2 a2 e2 r2 q2 => ?_))
  refine wpAny_bind (wpAny_standAt (wpAny_bind (wpAny_holding (put_ok (s := { s with heap := h2, toks := tk2 }) a2 (k2.rep r1) r2 (k2.rep (k1.rep r)) q2 fun h3 st3 k3 a3 q3 => ?_))))
  have fin : ∀ vs, wpAny C.M A (release vs []) (JAP C A.handled env al st Q s) (fun _ _ => False) { s with heap := h3, toks := tk2 } := fun vs Γ p _ => by
    rw [Sem.wp_release]
    exact ⟨h3, tk2, al2, st3, rho, rfl, ((k1.trans k2).trans k3).toS, a3, e2.kept a2.muts k3, q3⟩
  exact fin _

theorem EX_assignT {t v : Expr} {pos : Pos} {Q : PFlow → Vars → Sto → Prop} (h : EV C n sc v rho st fun p st1 => JA C n sc t p rho st1 fun rho2 st2 => Q .next rho2 st2)
    (ht : ∀ env, assignEach [t] env = [(false, assign t env)]) (hs : ∀ env, env.scope = sc → swapsWith v (some t) pos.line env = pure false) (hw : ∀ env, env.scope = sc → swappedStores [t] v env = pure none) :
    EX C n sc (.Assign [t] v pos) rho st Q := by
  intro A env s al rm o a e
  rw [arm_exec_Assign]
  refine wpAny_bind (wpAny_standAt ?_)
  show wpAny _ _ (swapsWith v (some t) pos.line env >>= _) _ _ _
  rw [hs env o.scope]
  refine wpAny_bind (wpAny_pure ?_)
  simp only [Bool.false_eq_true, if_false]
  refine wpAny_bind (h.use rm o a e fun va h1 tk1 al1 st1 p k1 a1 e1 r1 q1 => ?_)
  rw [hw env o.scope]
  refine wpAny_bind (wpAny_pure ?_)
  rw [ht env]
  show wpAny _ _ (do assign t env va; pure Flow.next) _ _ _
  exact wpAny_bind (q1.use (s := { s with heap := h1, toks := tk1 }) rm o a1 e1 r1 fun h2 tk2 al2 st2 rho2 k2 a2 e2 q2 => wpAny_pure ⟨h2, tk2, al2, st2, rho2, _, rfl, k1.toS.trans k2, a2, e2, .next, q2⟩)

/-- names bound in order -/
theorem bind_names {A : Around} {env : Env} {K : Shared → Prop} {E : Value → Shared → Prop} : ∀ {names : List Str} {ps : List PV} {s : Shared} {al : List Addr} {st : Sto} {rho : Vars} {vs : List Value}, EnvOk sc env → Amb C A.handled al st s.heap → EnvSt C env al st rho s.heap →
    Reps al (Live al st) s.heap vs ps → (∀ x ∈ names, sc.names.lookup x = some .local) → names.length = ps.length →
    (∀ h' tk, KeptS env al st al st s.heap h' → Amb C A.handled al st h' → EnvSt C env al st ((names.zip ps).foldl (fun r x => upd r x.1 x.2) rho) h' → K { s with heap := h', toks := tk }) →
    wpAny C.M A (assignInOrder (names.map fun x => bindName env x) vs) (fun _ s' => K s') E s
  | [], ps, s, al, st, rho, vs, o, a, e, r, _, hl, k => by
    cases ps with
    | cons _ _ => cases hl
    | nil =>
      cases r.nilOf
      exact wpAny_pure (k s.heap s.toks .refl a e)
  | x :: names, ps, s, al, st, rho, vs, o, a, e, r, hx, hl, k => by
    cases ps with
    | nil => cases hl
    | cons p ps =>
      obtain ⟨v, vs', rfl, r1, r2⟩ := r.consOf
      show wpAny _ _ (do holding vs' (bindName env x v); assignInOrder (names.map fun x => bindName env x) vs') _ _ s
      refine wpAny_bind (wpAny_holding (wpAny_bindName (store_ok o a e r1 (.inl (hx x (.head _))) fun h1 tk1 k1 a1 e1 => ?_)))
      exact bind_names (s := { s with heap := h1, toks := tk1 }) o a1 e1 (k1.reps e r2) (fun y hy => hx y (.tail _ hy)) (by simpa using hl) fun h2 tk2 k2 a2 e2 => k h2 tk2 (k1.trans k2) a2 e2

theorem Reps.reverse {al : List Addr} {X : Addr → Prop} {h : Heap} : ∀ {vs : List Value} {ps : List PV}, Reps al X h vs ps → Reps al X h vs.reverse ps.reverse
  | _, _, .nil => .nil
  | _, _, .cons h1 r => by simp only [List.reverse_cons]; exact Reps.append (Reps.reverse r) (.cons h1 .nil)

/-- a, b = (x, y): the stores go from behind -/
theorem EX_swap {ts : Expr} {v : Expr} {pos : Pos} {names : List Str} {Q : PFlow → Vars → Sto → Prop} (h : EV C n sc v rho st fun p st1 => ∃ ps, p = .tup ps ∧ ps.length = names.length ∧ Q .next ((names.reverse.zip ps.reverse).foldl (fun r x => upd r x.1 x.2) rho) st1)
    (hn : ∀ x ∈ names, sc.names.lookup x = some .local) (hs : ∀ env, env.scope = sc → swapsWith v (some ts) pos.line env = pure false) (hw : ∀ env, env.scope = sc → swappedStores [ts] v env = pure (some names)) :
    EX C n sc (.Assign [ts] v pos) rho st Q := by
  intro A env s al rm o a e
  rw [arm_exec_Assign]
  refine wpAny_bind (wpAny_standAt ?_)
  show wpAny _ _ (swapsWith v (some ts) pos.line env >>= _) _ _ _
  rw [hs env o.scope]
  refine wpAny_bind (wpAny_pure ?_)
  simp only [Bool.false_eq_true, if_false]
  refine wpAny_bind (h.use rm o a e fun va h1 tk1 al1 st1 p k1 a1 e1 r1 q1 => ?_)
  rw [hw env o.scope]
  refine wpAny_bind (wpAny_pure ?_)
  obtain ⟨ps, rfl, hl, q⟩ := q1
  obtain ⟨t, vs, m, rfl, i, _, rs⟩ := r1.tupOf
  show wpAny _ _ (do rule "assign.swapped-stores"; let items ← unpackItems (.ref t) names.length none; assignInOrder (names.reverse.map fun n => bindName env n) items.reverse; pure Flow.next) _ _ _
  refine wpAny_bind (wpAny_rule ?_)
  have ht : h1.IsTuple t vs.toArray := ⟨_, i, rfl, m, rfl⟩
  have hsz : names.length = vs.toArray.size := by simp [rs.length, hl]
  rw [hsz]
  refine wpAny_bind (unpack_tup (s := { s with heap := h1, toks := tk1 }) a1.hand ht fun h2 k2 => ?_)
  obtain ⟨x1, x2, x3⟩ := fin_grow a1 e1 k2
  refine wpAny_bind (bind_names (s := { s with heap := h2, toks := tk1 }) (al := al1) (vs := vs.reverse) (ps := ps.reverse) o x2 x3 (x1.reps rs).reverse (fun x hx => hn x (List.mem_reverse.mp hx)) (by simp [hl]) fun h3 tk3 k3 a3 e3 => wpAny_pure ?_)
  exact ⟨h3, tk3, al1, st1, _, _, rfl, (k1.toS.trans x1.toS).trans k3, a3, e3, .next, q⟩

/-- what a pair, a triple gives -/
noncomputable def Tup2 (p : PV) (R : PV → PV → Prop) : Prop := ∃ a b, p = .tup [a, b] ∧ R a b
noncomputable def Tup3 (p : PV) (R : PV → PV → PV → Prop) : Prop := ∃ a b c, p = .tup [a, b, c] ∧ R a b c
theorem tup2 {a b : PV} {R : PV → PV → Prop} (h : R a b) : Tup2 (.tup [a, b]) R := ⟨_, _, rfl, h⟩
theorem tup3 {a b c : PV} {R : PV → PV → PV → Prop} (h : R a b c) : Tup3 (.tup [a, b, c]) R := ⟨_, _, _, rfl, h⟩
theorem EX_swap2 {x y : Str} {px py tp : Pos} {k : Nat} {v : Expr} {pos : Pos} {Q : PFlow → Vars → Sto → Prop} (h : EV C n sc v rho st fun p st1 => Tup2 p fun a b => Q .next (upd (upd rho y b) x a) st1)
    (hx : sc.names.lookup x = some .local) (hy : sc.names.lookup y = some .local) (hs : ∀ env, env.scope = sc → swapsWith v (some (.Tuple [.Name x px, .Name y py] k tp)) pos.line env = pure false)
    (hw : ∀ env, env.scope = sc → swappedStores [.Tuple [.Name x px, .Name y py] k tp] v env = pure (some [x, y])) : EX C n sc (.Assign [.Tuple [.Name x px, .Name y py] k tp] v pos) rho st Q :=
  EX_swap (names := [x, y]) (h.mono fun p st1 ⟨a, b, e, q⟩ => ⟨[a, b], e, rfl, q⟩) (fun z hz => by
    rcases List.mem_cons.mp hz with rfl | hz
    · exact hx
    · rw [List.mem_singleton.mp hz]; exact hy) hs hw
theorem EX_swap3 {x y z : Str} {px py pz tp : Pos} {k : Nat} {v : Expr} {pos : Pos} {Q : PFlow → Vars → Sto → Prop} (h : EV C n sc v rho st fun p st1 => Tup3 p fun a b c => Q .next (upd (upd (upd rho z c) y b) x a) st1)
    (hx : sc.names.lookup x = some .local) (hy : sc.names.lookup y = some .local) (hz : sc.names.lookup z = some .local) (hs : ∀ env, env.scope = sc → swapsWith v (some (.Tuple [.Name x px, .Name y py, .Name z pz] k tp)) pos.line env = pure false)
    (hw : ∀ env, env.scope = sc → swappedStores [.Tuple [.Name x px, .Name y py, .Name z pz] k tp] v env = pure (some [x, y, z])) : EX C n sc (.Assign [.Tuple [.Name x px, .Name y py, .Name z pz] k tp] v pos) rho st Q :=
  EX_swap (names := [x, y, z]) (h.mono fun p st1 ⟨a, b, c, e, q⟩ => ⟨[a, b, c], e, rfl, q⟩) (fun w hw => by
    rcases List.mem_cons.mp hw with rfl | hw
    · exact hx
    · rcases List.mem_cons.mp hw with rfl | hw
      · exact hy
      · rw [List.mem_singleton.mp hw]; exact hz) hs hw

theorem EX_augSub {ob ib v : Expr} {op : Operator} {sp pos : Pos} {Q : PFlow → Vars → Sto → Prop}
    (h : EV C n sc ob rho st fun p st1 => EV C n sc ib rho st1 fun q st2 => SubOk st2 p q fun old => EV C n sc v rho st2 fun g st3 => AugOk op old g fun new => PutOk st3 p q new fun st4 => Q .next rho st4)
    (hs : ∀ l u p, ib ≠ .Slice l u none p) : EX C n sc (.AugAssign (.Subscript ob ib sp) op v pos) rho st Q := by
  intro A env s al rm o a e
  rw [arm_exec_AugAssign_3]
  refine wpAny_bind (wpAny_standAt (wpAny_bind (h.use rm o a e fun va h1 tk1 al1 st1 p k1 a1 e1 r1 q1 => ?_)))
  refine wpAny_bind (wpAny_holding (q1.use (s := { s with heap := h1, toks := tk1 }) rm o a1 e1 fun vb h2 tk2 al2 st2 q k2 a2 e2 r2 q2 => ?_))
  refine wpAny_bind (wpAny_holding (wpAny_bind (wpAny_standAt (wpAny_bind ?_))))
  have fin : ∀ (x : Value) (g3 : PV) (h3 : Heap) (tk3 : Nat) (al3 : List Addr) (st3 : Sto), Kept al2 st2 al3 st3 h2 h3 → Amb C A.handled al3 st3 h3 → EnvSt C env al3 st3 rho h3 → Rep al3 (Live al3 st3) h3 x g3 → (PutOk st3 p q g3 fun st4 => Q .next rho st4) →
      wpAny C.M A (do standAt sp; augStore ib va vb x) (JSP C A.handled env al st RelF Q s) (fun _ _ => False) { s with heap := h3, toks := tk3 } := by
    intro x g3 h3 tk3 al3 st3 k3 a3 e3 r3 q3
    refine wpAny_bind (wpAny_standAt ?_)
    have key : augStore ib va vb x = (do holding [x, va, vb] (setItem va vb x); release [x, va, vb] []; pure Flow.next) := by
      unfold augStore
      split
      · rename_i l u p'; exact absurd rfl (hs l u p')
      · rfl
    rw [key]
    refine wpAny_bind (wpAny_holding (put_ok (s := { s with heap := h3, toks := tk3 }) a3 (k3.rep (k2.rep r1)) (k3.rep r2) r3 q3 fun h4 st4 k4 a4 q4 => ?_))
    intro Γ pp _
    rw [Sem.wp_bind', Sem.wp_release]
    exact ⟨h4, tk3, al3, st4, rho, _, rfl, (((k1.trans k2).trans k3).trans k4).toS, a4, e3.kept a3.muts k4, .next, q4⟩
  have mid : ∀ (old : PV) (vo : Value), Rep al2 (Live al2 st2) h2 vo old → (EV C n sc v rho st2 fun g st3 => AugOk op old g fun new => PutOk st3 p q new fun st4 => Q .next rho st4) →
      wpAny C.M A (do let w ← holding [vo] (eval v env); standAt pos; operate [vo, w] (inplaceOp op vo w)) (fun x s' => wpAny C.M A (do standAt sp; augStore ib va vb x) (JSP C A.handled env al st RelF Q s) (fun _ _ => False) s') (fun _ _ => False) { s with heap := h2, toks := tk2 } := by
    intro old vo ro hv
    refine wpAny_bind (wpAny_holding (hv.use (s := { s with heap := h2, toks := tk2 }) rm o a2 e2 fun vg h3 tk3 al3 st3 g k3 a3 e3 r3 q3 => wpAny_bind (wpAny_standAt (wpAny_operating ?_))))
    refine wpAny_mono (aug_ok (s := { s with heap := h3, toks := tk3 }) (k3.rep ro) r3 q3) (fun x s' hh => ?_) fun _ _ f => f.elim
    obtain ⟨tk4, g4, rfl, r4, q4⟩ := hh
    exact fin x g4 h3 tk4 al3 st3 k3 a3 e3 r4 q4
  have r1' := k2.rep r1
  unfold SubOk at q2
  split at q2
  · rename_i l k
    obtain ⟨x, hz, hx, hR⟩ := q2
    obtain ⟨b, ws, m, rfl, i, _, r⟩ := r1'.listOf
    obtain ⟨t, rfl⟩ := r2.intOf
    have el := r.length
    by_cases h0 : k < 0
    · rw [if_pos h0] at hx
      obtain ⟨h1', hx⟩ := hx
      obtain ⟨vo, hv, rv⟩ := r.get hx
      exact wpAny_getItem_list_neg i.isList h0 (by simp only [List.size_toArray]; lia) (by lia) (x := vo) (by simpa [el] using hv) (mid x vo rv hR)
    · rw [if_neg h0] at hx
      obtain ⟨vo, hv, rv⟩ := r.get hx
      have := lt_of_get hx
      exact wpAny_getItem_list i.isList (by lia) (by lia) (x := vo) (by simpa using hv) (mid x vo rv hR)
  · rename_i l k
    obtain ⟨x, hz, h0, hx, hR⟩ := q2
    obtain ⟨b, ws, m, rfl, i, _, r⟩ := r1'.tupOf
    obtain ⟨t, rfl⟩ := r2.intOf
    have el := r.length
    have := lt_of_get hx
    obtain ⟨vo, hv, rv⟩ := r.get hx
    have ht : IsTup h2 b ws.toArray := ⟨_, i, rfl, m, rfl⟩
    have hj : seqIndex? k ws.toArray.size = some k.toNat := by
      unfold seqIndex?
      simp only [show ¬ k < 0 by lia, if_false]
      rw [if_pos (by simp only [List.size_toArray, Bool.and_eq_true, decide_eq_true_eq]; lia)]
    exact getItem_tuple ht (by lia) (by lia) hj (x := vo) (by simpa using hv) (mid x vo rv hR)
  · rename_i j k
    obtain ⟨l, x, hst, hz, h0, hx, hR⟩ := q2
    obtain ⟨b, rfl, hb⟩ := r1'.mutOf
    obtain ⟨b', ws, m, hb', i, r, _⟩ := a2.muts.is j l hst
    rw [hb] at hb'; cases hb'
    obtain ⟨t, rfl⟩ := r2.intOf
    have el := r.length
    have := lt_of_get hx
    obtain ⟨vo, hv, rv⟩ := r.get hx
    exact wpAny_getItem_list i.isList (by lia) (by lia) (x := vo) (by simpa using hv) (mid x vo rv hR)
  · exact q2.elim
end
end Mine
end

-- MLoop
section
set_option maxRecDepth 100000
namespace Mine
open PySem PySem.W PyProof.Rows

/-- an iterator's object -/
noncomputable def ItObj (o : Obj) : Prop := NotVar o ∧ (∀ its n, o.data ≠ .seq its n) ∧ ¬ RepObj o ∧ ∃ T, o.cls = .type T

theorem ItSt.objs {calm tt : Bool} {al : List Addr} {X : Addr → Prop} {h : Heap} {ws : List Addr} {I : Addr} {items : List PV} (s : ItSt calm tt al X h ws I items) : ∀ b ∈ ws, ∃ o, h.get? b = some o ∧ ItObj o := by
  have one : ∀ {b : Addr} {o : Obj} {T : String} {vs : Array Value}, h.get? b = some o → o.cls = .type T → o.data = .fields vs → (T == "range") = false → ∃ o, h.get? b = some o ∧ ItObj o := by
    intro b o T vs e hc hd hT
    refine ⟨o, e, ⟨by rw [hd]; nofun, by rw [hd]; nofun⟩, by rw [hd]; nofun, ?_, T, hc⟩
    rintro (⟨_, _, q⟩ | ⟨q, _⟩)
    · rw [hd] at q; cases q
    · rw [hc] at q; simp only [Value.type.injEq] at q; subst q; simp at hT
  cases s with
  | list h1 h2 h3 h4 =>
    intro b hb
    rw [List.mem_singleton.mp hb]
    obtain ⟨o, ho, hc, hd⟩ := h1
    exact one ho hc hd (by decide)
  | range hc h1 h2 =>
    intro b hb
    rw [List.mem_singleton.mp hb]
    exact one h1 rfl rfl (by decide)
  | enum hc ht h1 h2 h3 h4 h5 h6 =>
    intro b hb
    rcases List.mem_cons.mp hb with rfl | hb
    · exact one h1 rfl rfl (by decide)
    · rw [List.mem_singleton.mp hb]
      obtain ⟨o, ho, hc, hd⟩ := h2
      exact one ho hc hd (by decide)

section
variable {C : Cx} {n : Nat} {sc : Scope} {rho : Vars} {st : Sto}

/-- only an iterator has turned -/
theorem fin_iter {hd : Option Value} {env : Env} {al : List Addr} {h h' : Heap} {ws : List Addr} (a : Amb C hd al st h) (e : EnvSt C env al st rho h) (hw : ∀ b ∈ ws, ∃ o, h.get? b = some o ∧ ItObj o)
    (hb : ∀ b ∈ ws, C.h0.get? b = none) (k : ∀ b o, b ∉ ws → h.get? b = some o → h'.get? b = some o) : Amb C hd al st h' ∧ EnvSt C env al st rho h' := by
  have nw : ∀ {b : Addr} {o : Obj}, h.get? b = some o → ¬ ItObj o → h'.get? b = some o := fun {b o} g hn => k b o (fun hm => by
    obtain ⟨o', e', i⟩ := hw b hm
    rw [g] at e'; cases e'; exact hn i) g
  have rep : ∀ {v : Value} {p : PV}, Rep al (Live al st) h v p → Rep al (Live al st) h' v p := fun r => Rep.mono (fun b o g ro nl => ⟨nw g fun i => i.2.2.1 ro, nl⟩) (fun _ _ e => e) r
  have reps : ∀ {v : List Value} {p : List PV}, Reps al (Live al st) h v p → Reps al (Live al st) h' v p := fun r => Reps.mono (fun b o g ro nl => ⟨nw g fun i => i.2.2.1 ro, nl⟩) (fun _ _ e => e) r
  refine ⟨⟨fun b o g => k b o (fun hm => by rw [hb b hm] at g; cases g) (a.base b o g), a.hand.keep fun b o g _ _ hT => nw g fun i => let ⟨T, hT'⟩ := i.2.2.2; hT T hT', ⟨a.muts.len, a.muts.nodup, fun x hx => ⟨(a.muts.fresh x hx).1, ?_⟩, fun i l q => ?_⟩⟩, ?_⟩
  · obtain ⟨_, o, g, its, m, hd⟩ := a.muts.fresh x hx
    exact ⟨o, nw g fun i => i.2.1 _ _ hd, its, m, hd⟩
  · obtain ⟨x, vs, m, e1, e2, e3, e4⟩ := a.muts.is i l q
    exact ⟨x, vs, m, e1, nw e2 fun i => i.2.1 _ _ rfl, reps e3, e4⟩
  · refine ⟨?_, fun y c hc => ?_, e.apart, fun y c hc => ?_, e.newL, e.newC⟩
    · obtain ⟨m, ⟨o, es, ep, e1, e2, e3⟩, l⟩ := e.locs
      exact ⟨m, ⟨o, es, ep, nw e1 fun i => i.1.1 _ _ e2, e2, e3⟩, fun y p hy hp => let ⟨v, hv, r⟩ := l y p hy hp; ⟨v, hv, rep r⟩⟩
    · obtain ⟨ov, ⟨o, e1, e2⟩, l⟩ := e.cells y c hc
      exact ⟨ov, ⟨o, nw e1 fun i => i.1.2 _ e2, e2⟩, fun p hp => let ⟨v, hv, r⟩ := l p hp; ⟨v, hv, rep r⟩⟩
    · obtain ⟨ov, ⟨o, e1, e2⟩⟩ := e.isCells y c hc
      exact ⟨ov, ⟨o, nw e1 fun i => i.1.2 _ e2, e2⟩⟩

theorem codeAny_forLoopW {prog : Program} {w : World} {A : Around} {s : Shared} {R : Result → Shared → Prop} {target it body env} (I : Nat → Shared → Prop)
    (turn : ∀ n s, I n s → wpAny (model prog w) A (pyNext it) (fun r s₁ => match r with
      | none => R (.ok .next) s₁
      | some v => wpAny (model prog w) A (letOwnedTupleGo target it v) (fun _ s₂ => wpAny (model prog w) A (assign target env v) (fun _ s₃ => wpAny (model prog w) A (execs body env) (fun f s₄ => match f with
          | .next | .cont => ∃ m, m < n ∧ I m s₄
          | .brk => R (.ok .next) s₄
          | .ret v => R (.ok (.ret v)) s₄) (fun _ _ => False) s₃) (fun _ _ => False) s₂) (fun _ _ => False) s₁) (fun _ _ => False) s)
    (n : Nat) (h : I n s) : codeAny (model prog w) A (.forLoop target it body [] env) R s := by
  refine codeAny_loop' rfl I (fun n s hI => ?_) n h
  show wpAny _ _ ((forTurn target it body [] env).onRaise (fun x => do noteFrame x env; theTreesLotGoes x)) _ _ s
  refine wpAny_noted ?_
  simp only [forTurn]
  refine wpAny_bind (wpAny_standAt (wpAny_bind (wpAny_onRaise (wpAny_mono (turn n s hI) (fun r s₁ h₁ => ?_) fun _ _ f => f.elim))))
  cases r with
  | none => exact wpAny_pure (.inr ⟨rfl, codeAny_block (wpAny_execs_nil h₁)⟩)
  | some v =>
    refine wpAny_bind (wpAny_mono h₁ (fun _ s₂ h₂ => wpAny_bind (wpAny_mono h₂ (fun _ s₃ h₃ => wpAny_bind (wpAny_mono h₃ (fun f s₄ h₄ => ?_) fun _ _ f => f.elim)) fun _ _ f => f.elim)) fun _ _ f => f.elim)
    cases f with
    | next => exact wpAny_pure (.inl ⟨rfl, h₄⟩)
    | cont => exact wpAny_pure (.inl ⟨rfl, h₄⟩)
    | brk => exact wpAny_pure h₄
    | ret v => exact wpAny_pure h₄

/-- what the making of an iterator leaves -/
inductive JIP (C : Cx) (hd : Option Value) (env : Env) (al : List Addr) (st : Sto) (rho : Vars) (tt : Bool) (Q : List PV → Sto → Prop) (s : Shared) (it : Value) (s2 : Shared) : Prop
  | mk (h' : Heap) (tk : Nat) (al' : List Addr) (st' : Sto) (I : Addr) (ws : List Addr) (items : List PV) (e1 : it = .ref I) (e2 : s2 = { s with heap := h', toks := tk }) (k : Kept al st al' st' s.heap h') (a : Amb C hd al' st' h')
    (x : EnvSt C env al' st' rho h') (w : ∀ w ∈ ws, s.heap.get? w = none) (i : ItSt C.calm tt al' (Live al' st') h' ws I items) (q : Q items st')
/-- an iterable, and the iterator made of it -/
noncomputable def JI (C : Cx) (n : Nat) (sc : Scope) (tt : Bool) (iter : Expr) (rho : Vars) (st : Sto) (Q : List PV → Sto → Prop) : Prop :=
  ∀ (A : Around) (env : Env) (s : Shared) (al : List Addr), Room n A → EnvOk sc env → Amb C A.handled al st s.heap → EnvSt C env al st rho s.heap →
    wpAny C.M A (eval iter env) (fun v s1 => wpAny C.M A (pyIter v) (JIP C A.handled env al st rho tt Q s) (fun _ _ => False) s1) (fun _ _ => False) s

theorem JI.mono {tt : Bool} {iter : Expr} {Q Q' : List PV → Sto → Prop} (h : JI C n sc tt iter rho st Q) (hq : ∀ l s, Q l s → Q' l s) : JI C n sc tt iter rho st Q' := fun A env s al rm o a e =>
  wpAny_mono (h A env s al rm o a e) (fun _ _ hv => wpAny_mono hv (fun _ _ ⟨h', tk, al', st', I, ws, items, e1, e2, e3, e4, e5, e6, e7, e8⟩ => ⟨h', tk, al', st', I, ws, items, e1, e2, e3, e4, e5, e6, e7, hq _ _ e8⟩) fun _ _ f => f) fun _ _ f => f

theorem fresh_of {hd hd' : Option Value} {al al' : List Addr} {st' : Sto} {h h' : Heap} {b : Addr} (a : Amb C hd al' st' h') (k : Kept al st al' st' h h') (hb : h'.get? b = none) : h.get? b = none := by
  cases g : h.get? b with
  | none => rfl
  | some ob =>
    by_cases lv : Live al st b
    · obtain ⟨i, l, e1, e2⟩ := lv
      obtain ⟨_, o, g', _⟩ := a.muts.fresh _ (List.mem_of_getElem? (k.addr _ _ e2))
      rw [hb] at g'; cases g'
    · rw [(k.keep _ _ g lv).1] at hb; cases hb

inductive LiP (p : PV) (K : List PV → Prop) : Prop
  | mk (l : List PV) (e : p = .list l) (k : K l)
theorem JI_list {tt : Bool} {iter : Expr} {Q : List PV → Sto → Prop} (h : EV C n sc iter rho st fun p st1 => LiP p fun l => Q l st1) : JI C n sc tt iter rho st Q := by
  intro A env s al rm o a e
  refine h.use rm o a e fun v h1 tk1 al1 st1 p k1 a1 e1 r1 q1 => ?_
  obtain ⟨l, rfl, q⟩ := q1
  obtain ⟨b, vs, m, rfl, i, nl, r⟩ := r1.listOf
  refine wpAny_pyIter_list (s := { s with heap := h1, toks := tk1 }) i.isList ?_
  have kp : ∀ c ob, h1.get? c = some ob → (h1.push { cls := .type "list_iterator", data := .fields #[.ref b, .int 0 0] }).get? c = some ob := fun c ob g => Heap.get?_push_of_some _ g
  obtain ⟨x1, x2, x3⟩ := fin_grow a1 e1 kp
  refine ⟨_, tk1, al1, st1, _, [h1.objs.size], l, rfl, rfl, k1.trans x1, x2, x3, fun w hw => ?_, .list (i := 0) ⟨_, Heap.get?_push_size _ rfl, rfl, rfl⟩ (kp _ _ i) nl (by simpa using x1.reps r), q⟩
  rw [List.mem_singleton.mp hw]
  exact fresh_of (hd' := A.handled) a1 k1 (get_size_none _)

theorem JI_rng {tt : Bool} {iter : Expr} {Q : List PV → Sto → Prop} (hc : C.calm = true)
    (h : EV C n sc iter rho st fun p st1 => ∃ x y c, p = .rng x y c ∧ Builtin.Range.small x y c = true ∧ 0 ≤ Builtin.Range.rangeSize x y c ∧ Q (rangeP x (Builtin.Range.rangeSize x y c).toNat c) st1) : JI C n sc tt iter rho st Q := by
  intro A env s al rm o a e
  refine h.use rm o a e fun v h1 tk1 al1 st1 p k1 a1 e1 r1 q1 => ?_
  obtain ⟨x, y, c, rfl, hs, h0, q⟩ := q1
  obtain ⟨b, t, u, w, rfl, i, _⟩ := r1.rngOf
  refine wpAny_pyIter_range (s := { s with heap := h1, toks := tk1 }) i hs ?_
  obtain ⟨x1, x2, x3⟩ := fin_grow a1 e1 fun c' ob g => Heap.get?_push_of_some ({ cls := .type "range_iterator", data := .fields #[rawInt x, rawInt (Builtin.Range.rangeSize x y c), rawInt c] } : Obj) g
  refine ⟨_, tk1, al1, st1, _, [h1.objs.size], _, rfl, rfl, k1.trans x1, x2, x3, fun w hw => ?_, .range hc (Heap.get?_push_size _ rfl) h0, q⟩
  rw [List.mem_singleton.mp hw]
  exact fresh_of (hd' := A.handled) a1 k1 (get_size_none _)

theorem JI_enum {f : Str} {fp pos : Pos} {x : Expr} {Q : List PV → Sto → Prop} (hc : C.calm = true) (h : EV C n sc x rho st fun p st1 => ∃ l, p = .list l ∧ Q (enumP 0 l) st1)
    (hk : sc.names.lookup f = some .globalImplicit) (hf : Names C f (.type "enumerate")) (hd : (f == ("__debug__" : Str)) = false)
    (hx : ∀ env, starEach [x] env = [(false, eval x env)]) : JI C n sc true (.Call (.Name f fp) [x] [] pos) rho st Q := by
  intro A env s al rm o a e
  rw [eval_Call_Name]
  refine wpAny_bind (name_global o a hk hf hd ?_)
  refine callWith_plain (.inr ⟨_, rfl⟩) (hx env) (by rw [hx env]; rfl) ?_
  rw [hx env]
  refine Calls.spliced_cons (h.use rm o a e fun v h1 tk1 al1 st1 p k1 a1 e1 r1 q1 => Calls.spliced_nil ?_)
  obtain ⟨l, rfl, q⟩ := q1
  obtain ⟨b, vs, m, rfl, i, nl, r⟩ := r1.listOf
  refine call_enumerate_list (s := { s with heap := h1, toks := tk1 }) i.isList fun h2 he hit hsz hk2 => ?_
  obtain ⟨x1, x2, x3⟩ := fin_grow a1 e1 hk2
  refine wpAny_pyIter_enum he ?_
  refine ⟨h2, tk1, al1, st1, _, [h1.objs.size + 1, h1.objs.size], _, rfl, rfl, k1.trans x1, x2, x3, fun w hw => ?_, .enum hc rfl he hit (Nat.succ_ne_self _) (hk2 _ _ i) nl (by simpa using x1.reps r), q⟩
  have hge : ∀ c, h1.objs.size ≤ c → h1.get? c = none := fun c hcs => by
    cases g : h1.get? c with
    | none => rfl
    | some ob => exact absurd (Heap.lt_size g) (Nat.not_lt.mpr hcs)
  refine fresh_of (hd' := A.handled) a1 k1 (hge w ?_)
  rcases List.mem_cons.mp hw with rfl | hw
  · exact Nat.le_succ _
  · rw [List.mem_singleton.mp hw]; exact Nat.le_refl _

theorem KeptS.live_back {env : Env} {hd : Option Value} {al al' : List Addr} {st' : Sto} {h h' : Heap} (k : KeptS env al st al' st' h h') (a : Amb C hd al st h) (e : EnvSt C env al st rho h) {ws : List Addr}
    (hw : ∀ b ∈ ws, ∃ o, h.get? b = some o ∧ ItObj o) : ∀ b o, b ∈ ws → h.get? b = some o → h'.get? b = some o := fun b o hb g => by
  obtain ⟨o', g', i⟩ := hw b hb
  rw [g] at g'; cases g'
  refine (k.keep b o g (fun lv => ?_) (e.notVar g i.1).1 (e.notVar g i.1).2).1
  obtain ⟨its, m, ii⟩ := a.muts.live lv
  unfold IsL at ii; rw [g] at ii; cases ii; exact i.2.1 _ _ rfl

theorem ItSt.keptS {env : Env} {hd : Option Value} {tt : Bool} {al al' : List Addr} {st' : Sto} {h h' : Heap} {ws : List Addr} {I : Addr} {items : List PV} (s : ItSt C.calm tt al (Live al st) h ws I items) (k : KeptS env al st al' st' h h') (a : Amb C hd al st h) (e : EnvSt C env al st rho h) :
    ItSt C.calm tt al' (Live al' st') h' ws I items := by
  refine s.mono (fun b o g r nl => k.keep b o g nl (e.notVar g r.notVar).1 (e.notVar g r.notVar).2) (fun b o g nv ns => (k.keep b o g (fun lv => ?_) (e.notVar g nv).1 (e.notVar g nv).2).1) k.addr
  obtain ⟨its, m, ii⟩ := a.muts.live lv
  unfold IsL at ii; rw [g] at ii; cases ii; exact ns _ _ rfl

theorem it_next2 {tt : Bool} {A : Around} {s : Shared} {al : List Addr} {ws : List Addr} {I : Addr} {x : PV} {rest items : List PV} {target : Expr} {P : Option Value → Shared → Prop} {Q : Value → Shared → Prop} {E : Value → Shared → Prop}
    (hP : ∀ v s1, P (some v) s1 = wpAny C.M A (letOwnedTupleGo target (.ref I) v) (fun _ s2 => Q v s2) E s1)
    (htt : tt = true → ∃ elts k p, target = .Tuple elts k p) (a : Amb C A.handled al st s.heap) (it : ItSt C.calm tt al (Live al st) s.heap ws I items) (hi : items = x :: rest)
    (k : ∀ v h' tk, (∀ b o, b ∉ ws → s.heap.get? b = some o → h'.get? b = some o) → Rep al (Live al st) h' v x → ItSt C.calm tt al (Live al st) h' ws I rest → Q v { s with heap := h', toks := tk }) :
    wpAny C.M A (pyNext (.ref I)) P E s :=
  wpAny_mono (it_next htt a it hi k) (fun r s' hr => by
    cases r with
    | none => exact hr.elim
    | some v => rw [hP]; exact hr) fun _ _ f => f

/-- what a for loop asks -/
inductive ForQ (C : Cx) (n : Nat) (sc : Scope) (target : Expr) (body : List Stmt) (rho : Vars) (Q : PFlow → Vars → Sto → Prop) (items : List PV) (st1 : Sto) : Prop
  | mk (I : Nat → Vars → Sto → Prop) (h0 : I 0 rho st1)
    (step : ∀ k x rho' st' (K : PFlow → Vars → Sto → Prop), (∀ f r s, turnK (I (k + 1)) Q f r s → K f r s) → items[k]? = some x → I k rho' st' → JA C n sc target x rho' st' fun rho2 st2 => EXs C n sc body rho2 st2 K)
    (done : ∀ rho' st', I items.length rho' st' → Q .next rho' st')
/-- how a for loop stands ahead of a turn -/
inductive ForP (C : Cx) (hd : Option Value) (env : Env) (al : List Addr) (st : Sto) (tt : Bool) (ws : List Addr) (I : Addr) (items : List PV) (J : Nat → Vars → Sto → Prop) (s : Shared) (m : Nat) (s' : Shared) : Prop
  | mk (i : Nat) (h' : Heap) (tk : Nat) (al' : List Addr) (st' : Sto) (rho' : Vars) (hi : i ≤ items.length) (hm : m = items.length - i) (e : s' = { s with heap := h', toks := tk }) (k : KeptS env al st al' st' s.heap h') (a : Amb C hd al' st' h')
    (x : EnvSt C env al' st' rho' h') (it : ItSt C.calm tt al' (Live al' st') h' ws I (items.drop i)) (j : J i rho' st')
theorem EX_for {tt : Bool} {target iter : Expr} {body : List Stmt} {pos : Pos} {Q : PFlow → Vars → Sto → Prop}
    (h : JI C n sc tt iter rho st (ForQ C n sc target body rho Q))
    (hs : ∀ env x, foldedSetIterable iter env x = pure x) (htt : tt = true → ∃ elts k p, target = .Tuple elts k p) : EX C n sc (.For target iter body [] pos) rho st Q := by
  intro A env s al rm o a e
  refine wpAny_For (wpAny_mono (h A env s al rm o a e) (fun v s1 hv => wpAny_mono hv (fun it s2 hh => ?_) fun _ _ f => f.elim) fun _ _ f => f.elim) (hs env)
  obtain ⟨h1, tk1, al1, st1, I, ws, items, rfl, rfl, k1, a1, e1, hws, its, J, j0, step, done⟩ := hh
  have hb0 : ∀ b ∈ ws, C.h0.get? b = none := fun b hb => by
    cases g : C.h0.get? b with
    | none => rfl
    | some ob => have := a.base _ _ g; rw [hws b hb] at this; cases this
  refine codeAny_forLoopW (ForP C A.handled env al st tt ws I items J s) ?_ items.length ⟨0, h1, tk1, al1, st1, rho, Nat.zero_le _, rfl, rfl, k1.toS, a1, e1, by simpa using its, j0⟩
  rintro m s' ⟨i, h2, tk2, al2, st2, rho2, hi, rfl, rfl, k2, a2, e2, it2, j2⟩
  cases hx : items.drop i with
  | nil =>
    have hlen : i = items.length := by have := List.drop_eq_nil_iff.mp hx; lia
    refine it_end (s := { s with heap := h2, toks := tk2 }) a2 it2 hx fun h3 k3 => ?_
    obtain ⟨a3, e3⟩ := fin_iter a2 e2 it2.objs hb0 k3
    subst hlen
    refine ⟨h3, tk2, al2, st2, rho2, .next, rfl, ⟨k2.addr, fun b ob g nl n1 n2 => ?_⟩, a3, e3, .next, done _ _ j2⟩
    have := k2.keep b ob g nl n1 n2
    exact ⟨k3 b ob (fun hm => by rw [hws b hm] at g; cases g) this.1, this.2⟩
  | cons x rest =>
    have hget : items[i]? = some x := (drop_cons hx).1
    have hrest : items.drop (i + 1) = rest := (drop_cons hx).2
    have hlt := lt_of_get hget
    refine it_next2 (s := { s with heap := h2, toks := tk2 }) (fun _ _ => rfl) htt a2 it2 hx ?_
    intro v h3 tk3 k3 r3 it3
    obtain ⟨a3, e3⟩ := fin_iter a2 e2 it2.objs hb0 k3
    have kk3 : KeptS env al st al2 st2 s.heap h3 := ⟨k2.addr, fun b ob g nl n1 n2 => by
      have := k2.keep b ob g nl n1 n2
      exact ⟨k3 b ob (fun hm => by rw [hws b hm] at g; cases g) this.1, this.2⟩⟩
    refine (step i x rho2 st2 _ (fun _ _ _ q => q) hget j2).use (s := { s with heap := h3, toks := tk3 }) rm o a3 e3 r3 fun h4 tk4 al4 st4 rho4 k4 a4 e4 q4 => ?_
    refine JS.use q4 (s := { s with heap := h4, toks := tk4 }) rm o a4 e4 fun f h5 tk5 al5 st5 rho5 g k5 a5 e5 r5 q5 => ?_
    have kk5 := (kk3.trans k4).trans k5
    have it5 : ItSt C.calm tt al5 (Live al5 st5) h5 ws I (items.drop (i + 1)) := by rw [hrest]; exact it3.keptS (k4.trans k5) a3 e3
    cases r5 with
    | next => exact ⟨items.length - (i + 1), by lia, i + 1, h5, tk5, al5, st5, rho5, hlt, rfl, rfl, kk5, a5, e5, it5, q5⟩
    | cont => exact ⟨items.length - (i + 1), by lia, i + 1, h5, tk5, al5, st5, rho5, hlt, rfl, rfl, kk5, a5, e5, it5, q5⟩
    | brk => exact ⟨h5, tk5, al5, st5, rho5, _, rfl, kk5, a5, e5, .next, q5⟩
    | ret r => exact ⟨h5, tk5, al5, st5, rho5, _, rfl, kk5, a5, e5, .ret r, q5⟩

theorem EX_while {test : Expr} {body : List Stmt} {pos : Pos} {Q : PFlow → Vars → Sto → Prop} (I : Nat → Vars → Sto → Prop) (m : Nat) (h0 : I m rho st)
    (step : ∀ k rho' st' (K : PFlow → Vars → Sto → Prop) (D : Vars → Sto → Prop), (∀ f r s, turnK (fun rho2 st2 => ∃ j, j < k ∧ I j rho2 st2) Q f r s → K f r s) → (∀ r s, Q .next r s → D r s) → I k rho' st' →
      TV C n sc test rho' st' fun b st1 => if b = true then EXs C n sc body rho' st1 K else D rho' st1) :
    EX C n sc (.While test body [] pos) rho st Q := by
  intro A env s al rm o a e
  refine wpAny_While (codeAny_whileLoop (fun k => JAP C A.handled env al st (I k) s ()) ?_ m
    ⟨s.heap, s.toks, al, st, rho, rfl, .refl, a, e, h0⟩)
  rintro k s' ⟨h1, tk1, al1, st1, rho1, rfl, k1, a1, e1, i1⟩
  refine (step k rho1 st1 _ _ (fun _ _ _ q => q) (fun _ _ q => q) i1).use (s := { s with heap := h1, toks := tk1 }) rm o a1 e1 fun b h2 tk2 al2 st2 p k2 a2 e2 r2 q2 => ?_
  subst r2
  cases b with
  | true =>
    simp only [if_true] at q2 ⊢
    refine JS.use q2 (s := { s with heap := h2, toks := tk2 }) rm o a2 e2 fun f h3 tk3 al3 st3 rho3 g k3 a3 e3 r3 q3 => ?_
    have kk := (k1.trans k2.toS).trans k3
    cases r3 with
    | next => obtain ⟨j, hj, q⟩ := q3; exact ⟨j, hj, h3, tk3, al3, st3, rho3, rfl, kk, a3, e3, q⟩
    | cont => obtain ⟨j, hj, q⟩ := q3; exact ⟨j, hj, h3, tk3, al3, st3, rho3, rfl, kk, a3, e3, q⟩
    | brk => exact ⟨h3, tk3, al3, st3, rho3, _, rfl, kk, a3, e3, .next, q3⟩
    | ret r => exact ⟨h3, tk3, al3, st3, rho3, _, rfl, kk, a3, e3, .ret r, q3⟩
  | false =>
    simp only [Bool.false_eq_true, if_false] at q2 ⊢
    exact wpAny_execs_nil ⟨h2, tk2, al2, st2, rho1, _, rfl, k1.trans k2.toS, a2, e2, .next, q2⟩

/-- the names as a call binds them -/
noncomputable def argVars (names : List Str) (ps : List PV) : Vars := fun x => (names.zip ps).lookup x

/-- the variables' names of a call -/
theorem bindL_lookup {kindOf : Str → Option NameKind} {x : Str} (hk : kindOf x = some .local) : ∀ (binds : List (Str × Value)) (m : Str → Option Value), (binds.map (·.1)).Nodup → bindL kindOf binds m x = ((binds.lookup x).or (m x))
  | [], m, _ => by simp [bindL]
  | (y, v) :: r, m, hn => by
    rw [List.map_cons, List.nodup_cons] at hn
    unfold bindL
    rw [bindL_lookup hk r _ hn.2]
    by_cases hy : x = y
    · subst hy
      rw [if_pos hk]
      have : r.lookup x = none := by
        rw [List.lookup_eq_none_iff]
        intro p hp
        simp only [bne_iff_ne, ne_eq]
        intro q
        exact hn.1 (List.mem_map.mpr ⟨p, hp, q.symm⟩)
      simp [this]
    · have hb : (x == y) = false := by simpa using hy
      rw [List.lookup_cons, hb]
      split
      · simp [hy]
      · rfl
theorem bindC_lookup {kindOf : Str → Option NameKind} {x : Str} (hk : kindOf x ≠ some .local) : ∀ (binds : List (Str × Value)) (m : Str → Option Value), (binds.map (·.1)).Nodup → bindC kindOf binds m x = ((binds.lookup x).or (m x))
  | [], m, _ => by simp [bindC]
  | (y, v) :: r, m, hn => by
    rw [List.map_cons, List.nodup_cons] at hn
    unfold bindC
    rw [bindC_lookup hk r _ hn.2]
    by_cases hy : x = y
    · subst hy
      rw [if_neg hk]
      have : r.lookup x = none := by
        rw [List.lookup_eq_none_iff]
        intro p hp
        simp only [bne_iff_ne, ne_eq]
        intro q
        exact hn.1 (List.mem_map.mpr ⟨p, hp, q.symm⟩)
      simp [this]
    · have hb : (x == y) = false := by simpa using hy
      rw [List.lookup_cons, hb]
      split
      · rfl
      · simp [hy]

theorem lookup_zip_rep {al : List Addr} {X : Addr → Prop} {h : Heap} {x : Str} {p : PV} : ∀ {names : List Str} {vs : List Value} {ps : List PV}, Reps al X h vs ps → (names.zip ps).lookup x = some p → ∃ v, (names.zip vs).lookup x = some v ∧ Rep al X h v p
  | [], _, _, _, e => by simp at e
  | y :: names, [], _, r, e => by cases r; simp at e
  | y :: names, v :: vs, _, r, e => by
    cases r with
    | cons r1 r2 =>
      simp only [List.zip_cons_cons, List.lookup_cons] at e ⊢
      split at e
      · cases e; exact ⟨v, rfl, r1⟩
      · exact lookup_zip_rep r2 e

theorem lookup_none_of {α : Type} {l : List (Str × α)} {x : Str} (h : x ∉ l.map (·.1)) : l.lookup x = none := by
  rw [List.lookup_eq_none_iff]
  intro p hp
  simp only [bne_iff_ne, ne_eq]
  intro q
  exact h (List.mem_map.mpr ⟨p, hp, q.symm⟩)
theorem cellsFrom_back {x : Str} {c : Addr} : ∀ (names : List (Str × NameKind)) (n : Nat) (acc : List (Str × Addr)), (names.map (·.1)).Nodup → (cellsFrom n names acc).lookup x = some c → names.lookup x = some .cell ∨ x ∈ acc.map (·.1)
  | [], _, acc, _, h => .inr (by
    by_cases hm : x ∈ acc.map (·.1)
    · exact hm
    · rw [show cellsFrom _ [] acc = acc from rfl, lookup_none_of hm] at h; cases h)
  | (y, k) :: r, n, acc, hn, h => by
    rw [List.map_cons, List.nodup_cons] at hn
    unfold cellsFrom at h
    by_cases hk : (k == .cell) = true
    · rw [if_pos hk] at h
      rcases cellsFrom_back r (n + 1) ((y, n) :: acc) hn.2 h with q | q
      · left
        have hy : x ≠ y := fun e => hn.1 (by rw [← e]; exact List.mem_map.mpr ⟨(x, .cell), mem_of_lookup q, rfl⟩)
        rw [List.lookup_cons, beq_eq_false_iff_ne.mpr hy]; exact q
      · rcases List.mem_cons.mp q with q | q
        · left
          rw [List.lookup_cons]
          have q' : x = y := q
          subst q'
          simp only [beq_self_eq_true]
          rw [beq_iff_eq.mp hk]
        · exact .inr q
    · rw [if_neg hk] at h
      rcases cellsFrom_back r n acc hn.2 h with q | q
      · left
        have hy : x ≠ y := fun e => hn.1 (by rw [← e]; exact List.mem_map.mpr ⟨(x, .cell), mem_of_lookup q, rfl⟩)
        rw [List.lookup_cons, beq_eq_false_iff_ne.mpr hy]; exact q
      · exact .inr q
theorem cellsFrom_nodup : ∀ (names : List (Str × NameKind)) (n : Nat) (acc : List (Str × Addr)), (names.map (·.1)).Nodup → (acc.map (·.1)).Nodup → (∀ x ∈ acc.map (·.1), x ∉ names.map (·.1)) → ((cellsFrom n names acc).map (·.1)).Nodup
  | [], _, _, _, h, _ => h
  | (y, k) :: r, n, acc, hn, ha, hd => by
    rw [List.map_cons, List.nodup_cons] at hn
    unfold cellsFrom
    split
    · refine cellsFrom_nodup r (n + 1) ((y, n) :: acc) hn.2 ?_ ?_
      · rw [List.map_cons, List.nodup_cons]
        exact ⟨fun h => hd y h (by simp), ha⟩
      · intro x hx
        rcases List.mem_cons.mp hx with rfl | hx
        · exact hn.1
        · exact fun h => hd x hx (by rw [List.map_cons]; exact List.mem_cons_of_mem _ h)
    · exact cellsFrom_nodup r n acc hn.2 ha fun x hx h => hd x hx (by rw [List.map_cons]; exact List.mem_cons_of_mem _ h)

/-- what a body that ended hands back -/
noncomputable def retK (Q : PV → Sto → Prop) (g : PFlow) (st : Sto) : Prop := match g with
  | .ret p => Q p st
  | .next => Q .none st
  | _ => False
theorem rk_ret {Q : PV → Sto → Prop} {p : PV} {st : Sto} (h : Q p st) : retK Q (.ret p) st := h
theorem rk_next {Q : PV → Sto → Prop} {st : Sto} (h : Q .none st) : retK Q .next st := h

/-- a call of a def of the text, by its body -/
theorem CJ_def {m : Nat} {name : Str} {params : Arguments} {body : List Stmt} {scope : Scope} {pm code doc : Value} {fa : Addr} {o : Obj} {names : List Str} {ps : List PV} {Q : PV → Sto → Prop}
    (hf : C.mg name = some (.ref fa)) (ho : C.h0.get? fa = some o) (hd : o.data = .func (Calls.docDef name params body scope pm code doc)) (hcd : C.h0.CodeRec code name)
    (hbind : ∀ vs : List Value, vs.length = ps.length → bindArgs (Calls.docDef name params body scope pm code doc) ⟨vs, []⟩ = pure (names.zip vs)) (hlen : names.length = ps.length) (hnd : names.Nodup)
    (hkind0 : (names.all fun x => scope.names.lookup x == some .local || scope.names.lookup x == some .cell) = true) (hnn : (scope.names.map (·.1)).Nodup)
    (h : EXs C m scope body (argVars names ps) st fun g _ st' => retK Q g st')
    (hco : scope.isCoroutine = false) (hgen : scope.isGenerator = false) (hk : scope.kind = .function) : CJ C (m + 1) name ps st Q := by
  intro A s al vs a rm ha am rs
  rw [hf] at ha; cases ha
  have hvl := rs.length
  have hcell : ∀ k x, scope.names.lookup x = some .cell → ((cellsFrom k scope.names []).lookup x).isSome = true := fun k x hx => cellsFrom_some _ _ _ (.inl hx)
  have hcell' : ∀ k x c, (cellsFrom k scope.names []).lookup x = some c → scope.names.lookup x = some .cell := fun k x c hc => (cellsFrom_back _ _ _ hnn hc).resolve_right (by simp)
  have hcn : ∀ k, ((cellsFrom k scope.names []).map (·.1)).Nodup := fun k => cellsFrom_nodup _ _ _ hnn (by simp) (by simp)
  have hkind : ∀ k, ∀ x ∈ names, scope.names.lookup x = some .local ∨ (scope.names.lookup x = some .cell ∧ ((cellsFrom k scope.names []).lookup x).isSome = true) := fun k x hx => by
    have := List.all_eq_true.mp hkind0 x hx
    rcases Bool.or_eq_true_iff.mp this with q | q
    · exact .inl (beq_iff_eq.mp q)
    · exact .inr ⟨beq_iff_eq.mp q, hcell k x (beq_iff_eq.mp q)⟩
  refine wpAny_call (codeAny_call_cells (fd := Calls.docDef name params body scope pm code doc) (vals := vs) (binds := names.zip vs) (by have := rm.depth; lia) (am.base _ _ ho) hd (C.lim.keeps am.base) (hcd.keeps am.base) rfl (hbind vs hvl) rfl
    (fun x hx => hkind _ x.1 (List.of_mem_zip hx).1) (fun s1 X => ?_) hco hgen hk)
  obtain ⟨h1, tk1, rfl, hk1⟩ := X.done
  generalize hE : callEnvC (Calls.docDef name params body scope pm code doc) s.heap.objs.size fa = env at X ⊢
  have hEs : env.scope = scope := by rw [← hE]; rfl
  have hEl : env.locals = s.heap.objs.size := by rw [← hE]; rfl
  have hEc : env.cells = cellsFrom (s.heap.objs.size + 1) scope.names [] := by rw [← hE]; rfl
  have ok : EnvOk scope env := ⟨hEs, by rw [← hE]; rfl, by rw [← hE]; rfl, hk, fun x hx => by rw [hEc]; exact hcell _ x hx, fun x c hc => hcell' _ x c (by rw [← hEc]; exact hc)⟩
  have am1 : Amb C A.handled al st h1 := am.grow hk1
  have kp : Kept al st al st s.heap h1 := .grow hk1
  have nz : (names.zip vs).map (·.1) = names := by rw [List.map_fst_zip]; lia
  have hnew : ∀ b, s.heap.objs.size ≤ b → C.h0.get? b = none := fun b hb => by
    cases g : C.h0.get? b with
    | none => rfl
    | some ob => exact absurd (Heap.lt_size (am.base _ _ g)) (Nat.not_lt.mpr hb)
  have e1 : EnvSt C env al st (argVars names ps) h1 := by
    refine ⟨⟨_, X.toInCall.ns, fun x p hx hp => ?_⟩, fun x c hc => ⟨_, X.cell x c hc, fun p hp => ?_⟩, X.apart, fun x c hc => ?_, hnew _ (by rw [hEl]; exact Nat.le_refl _), fun x c hc => hnew _ (by have := X.above x c hc; rw [hEl] at this; exact Nat.le_of_lt this)⟩
    · obtain ⟨v, hv, r⟩ := lookup_zip_rep rs hp
      exact ⟨v, by rw [bindL_lookup hx _ _ (by rw [nz]; exact hnd), hv]; rfl, kp.rep r⟩
    · obtain ⟨v, hv, r⟩ := lookup_zip_rep rs hp
      have hxk : env.kindOf x ≠ some .local := by
        unfold Env.kindOf; rw [hEs, hcell' _ x c (by rw [← hEc]; exact hc)]; simp
      exact ⟨v, by rw [bindC_lookup hxk _ _ (by rw [nz]; exact hnd), hv]; rfl, kp.rep r⟩
    · exact ⟨_, X.cell x c (lookup_of_mem_nodup (by rw [hEc]; exact hcn _) hc)⟩
  refine h.use (s := { s with heap := h1, toks := tk1 }) (A := A.deeper env) rm.deeper ok am1 e1 fun f h2 tk2 al2 st2 rho2 g k2 a2 e2 r2 q2 => ?_
  have kk : ∀ {p : PV} {v : Value}, Rep al2 (Live al2 st2) h2 v p → Q p st2 → CJP C A.handled al st Q s v { s with heap := h2, toks := tk2 } := fun r q => by
    refine ⟨h2, tk2, al2, st2, _, rfl, ⟨k2.addr, fun b ob gb nl => k2.keep b ob (hk1 _ _ gb) nl (fun q => ?_) fun x hx => ?_⟩, a2, r, q⟩
    · rw [q, hEl] at gb; exact absurd (Heap.lt_size gb) (Nat.lt_irrefl _)
    · have := X.above x b hx
      rw [hEl] at this
      exact absurd (Heap.lt_size gb) (Nat.not_lt.mpr (Nat.le_of_lt this))
  cases r2 with
  | ret r => exact kk r q2
  | next => exact kk .none q2
  | cont => exact q2.elim
  | brk => exact q2.elim
end
end Mine
end

-- MText
section
set_option maxRecDepth 100000
namespace Mine
open PySem PySem.W PyProof.Rows

noncomputable def fnStmt (i : Nat) : Stmt := (PySem.Challenge.pw_pf0039_01.main.body).getD i (.Pass ⟨0, 0, 0, 0⟩)
noncomputable def fnName (i : Nat) : Str := match fnStmt i with | .FunctionDef n .. => n | _ => Str.ofString ""
noncomputable def fnParams (i : Nat) : Arguments := match fnStmt i with | .FunctionDef _ a .. => a | _ => default
noncomputable def fnBody (i : Nat) : List Stmt := match fnStmt i with | .FunctionDef _ _ b .. => b | _ => []
noncomputable def fnScope (i : Nat) : Scope := match fnStmt i with | .FunctionDef _ _ _ _ _ _ s .. => s | _ => default


/-- the text's def number i stands where the top left it -/
inductive HasFn (C : Cx) (i : Nat) : Prop
  | mk (fa : Addr) (o : Obj) (pm code doc : Value) (hf : C.mg (fnName i) = some (.ref fa)) (ho : C.h0.get? fa = some o) (hd : o.data = .func (Calls.docDef (fnName i) (fnParams i) (fnBody i) (fnScope i) pm code doc)) (hcd : C.h0.CodeRec code (fnName i))

theorem upd_same {rho : Vars} {x : Str} {p : PV} : upd rho x p x = some p := by simp [upd]
theorem upd_ne {rho : Vars} {x y : Str} {p q : PV} (h : y ≠ x) (e : rho y = some q) : upd rho x p y = some q := by simp [upd, h, e]

theorem bo_add {a b : Int} {R : PV → Prop} (h : R (.int (a + b))) : BinOk .Add (.int a) (.int b) R := .add h
theorem bo_sub {a b : Int} {R : PV → Prop} (h : R (.int (a - b))) : BinOk .Sub (.int a) (.int b) R := .sub h
theorem bo_mul {a b : Int} {R : PV → Prop} (ha : Fits a) (hb : Fits b) (h : R (.int (a * b))) : BinOk .Mult (.int a) (.int b) R := .mul ha hb h
theorem bo_div {a b : Int} {R : PV → Prop} (h0 : b ≠ 0) (hb : Fits b) (h : R (.int (a.fdiv b))) : BinOk .FloorDiv (.int a) (.int b) R := .div h0 hb h
theorem bo_mod {a b : Int} {R : PV → Prop} (h0 : b ≠ 0) (h : R (.int (a.fmod b))) : BinOk .Mod (.int a) (.int b) R := .mod h0 h
theorem bo_pow {a b : Int} {R : PV → Prop} (h0 : 0 ≤ b) (h1 : b ≤ 1000) (ha : Fits a) (h : R (.int (a ^ b.toNat))) : BinOk .Pow (.int a) (.int b) R := .pow h0 h1 ha h
theorem bo_cat {l l' : List PV} {R : PV → Prop} (h1 : l.length + l'.length ≤ 1000000) (h : R (.list (l ++ l'))) : BinOk .Add (.list l) (.list l') R := .cat h1 h
theorem bo_rep {l : List PV} {k : Int} {R : PV → Prop} (h0 : 0 ≤ k) (h1 : l.length * k.toNat ≤ 1000000) (h2 : k ≤ 1000000) (h : R (.list (List.replicate k.toNat l).flatten)) : BinOk .Mult (.list l) (.int k) R := .rep h0 h1 h2 h

theorem ao_add {a b : Int} {R : PV → Prop} (h : R (.int (a + b))) : AugOk .Add (.int a) (.int b) R := h
theorem ao_sub {a b : Int} {R : PV → Prop} (h : R (.int (a - b))) : AugOk .Sub (.int a) (.int b) R := h
theorem co_eq {a b : Int} {R : Bool → Prop} (h : R (decide (a = b))) : CmpOk .Eq (.int a) (.int b) R := .eqi h
theorem co_ne {a b : Int} {R : Bool → Prop} (h : R (!decide (a = b))) : CmpOk .NotEq (.int a) (.int b) R := .nei h
theorem co_lt {a b : Int} {R : Bool → Prop} (h : R (decide (a < b))) : CmpOk .Lt (.int a) (.int b) R := .lt h
theorem co_le {a b : Int} {R : Bool → Prop} (h : R (decide (a ≤ b))) : CmpOk .LtE (.int a) (.int b) R := .le h
theorem co_gt {a b : Int} {R : Bool → Prop} (h : R (decide (b < a))) : CmpOk .Gt (.int a) (.int b) R := .gt h
theorem co_ge {a b : Int} {R : Bool → Prop} (h : R (decide (b ≤ a))) : CmpOk .GtE (.int a) (.int b) R := .ge h

theorem if_dec {P : Prop} [Decidable P] {X Y : Prop} (h1 : P → X) (h2 : ¬ P → Y) : if decide P = true then X else Y := by
  by_cases h : P
  · simp only [h, decide_true, if_true]; exact h1 h
  · simp only [h, decide_false, Bool.false_eq_true, if_false]; exact h2 h
theorem if_ndec {P : Prop} [Decidable P] {X Y : Prop} (h1 : ¬ P → X) (h2 : P → Y) : if (!decide P) = true then X else Y := by
  by_cases h : P
  · simp only [h, decide_true, Bool.not_true, Bool.false_eq_true, if_false]; exact h2 h
  · simp only [h, decide_false, Bool.not_false, if_true]; exact h1 h
end Mine
end

-- MDrop
section
set_option maxRecDepth 100000
namespace Mine
open PySem PySem.W PyProof.Rows

section
variable {C : Cx} {n : Nat} {sc : Scope} {rho : Vars} {st : Sto}

theorem take_get {α : Type} {l : List α} {m k : Nat} {x : α} (h : (l.take m)[k]? = some x) : l[k]? = some x ∧ k < m := by
  by_cases hk : k < m
  · rw [List.getElem?_take_of_lt hk] at h; exact ⟨h, hk⟩
  · rw [List.getElem?_eq_none (by rw [List.length_take]; lia)] at h; cases h

theorem live_take {al : List Addr} {m : Nat} {b : Addr} (h : Live (al.take m) (st.take m) b) : Live al st b :=
  let ⟨k, l, e1, e2⟩ := h; ⟨k, l, (take_get e1).1, (take_get e2).1⟩

theorem rep_take {al : List Addr} {m : Nat} {h : Heap} {v : Value} {p : PV} (r : Rep al (Live al st) h v p) (hm : noMut p = true) : Rep (al.take m) (Live (al.take m) (st.take m)) h v p :=
  Rep.anyAl (Rep.mono (al' := al) (fun b o e _ nl => ⟨e, fun q => nl (live_take q)⟩) (fun _ _ e => e) r) hm
theorem reps_take {al : List Addr} {m : Nat} {h : Heap} {v : List Value} {p : List PV} (r : Reps al (Live al st) h v p) (hm : noMuts p = true) : Reps (al.take m) (Live (al.take m) (st.take m)) h v p :=
  Reps.anyAl (Reps.mono (al' := al) (fun b o e _ nl => ⟨e, fun q => nl (live_take q)⟩) (fun _ _ e => e) r) hm

/-- the places behind m are let go -/
theorem amb_take {hd : Option Value} {al : List Addr} {h : Heap} (a : Amb C hd al st h) (m : Nat) : Amb C hd (al.take m) (st.take m) h where
  base := a.base
  hand := a.hand
  muts := by
    refine ⟨by rw [List.length_take, List.length_take, a.muts.len], a.muts.nodup.sublist (List.take_sublist _ _), fun x hx => a.muts.fresh x (List.mem_of_mem_take hx), fun k l e => ?_⟩
    obtain ⟨e', hk⟩ := take_get e
    obtain ⟨x, vs, c, e1, e2, e3, e4⟩ := a.muts.is k l e'
    exact ⟨x, vs, c, by rw [List.getElem?_take_of_lt hk]; exact e1, e2, reps_take e3 e4, e4⟩

theorem kept_take {al al' : List Addr} {st' : Sto} {h h' : Heap} (k : Kept al st al' st' h h') {m : Nat} (hm : al.length ≤ m) : Kept al st (al'.take m) (st'.take m) h h' :=
  ⟨fun i x e => by rw [List.getElem?_take_of_lt (Nat.lt_of_lt_of_le (lt_of_get e) hm)]; exact k.addr i x e, fun b o e nl => ⟨(k.keep b o e nl).1, fun q => (k.keep b o e nl).2 (live_take q)⟩⟩

/-- a mutable list is looked at as what it holds, and is no more changed -/
theorem freeze {hd : Option Value} {al : List Addr} {h : Heap} {k : Nat} {l : List PV} (a : Amb C hd al st h) (hk : st[k]? = some (some l)) :
    ∃ x, al[k]? = some x ∧ Kept al st al (st.set k none) h h ∧ Amb C hd al (st.set k none) h ∧ Rep al (Live al (st.set k none)) h (.ref x) (.list l) := by
  obtain ⟨x, vs, c, e1, e2, e3, e4⟩ := a.muts.is k l hk
  have hl : ∀ b, Live al (st.set k none) b → Live al st b ∧ b ≠ x := by
    rintro b ⟨i, m, q1, q2⟩
    have hne : k ≠ i := fun q => by subst q; rw [List.getElem?_set_self (lt_of_get hk)] at q1; cases q1
    rw [List.getElem?_set_ne hne] at q1
    refine ⟨⟨i, m, q1, q2⟩, fun q => hne ?_⟩
    subst q
    have h1 := lt_of_get e1; have h2 := lt_of_get q2
    rw [List.getElem?_eq_getElem h1] at e1; rw [List.getElem?_eq_getElem h2] at q2
    refine (List.getElem_inj (h₀ := h1) (h₁ := h2) a.muts.nodup).mp ?_
    simp only [Option.some.injEq] at e1 q2
    rw [e1, q2]
  have kk : Kept al st al (st.set k none) h h := ⟨fun _ _ e => e, fun b o e nl => ⟨e, fun q => nl (hl b q).1⟩⟩
  refine ⟨x, e1, kk, ⟨a.base, a.hand, ⟨by simpa using a.muts.len, a.muts.nodup, a.muts.fresh, fun i m q => ?_⟩⟩, .list e2 (fun q => (hl x q).2 rfl) (kk.reps e3)⟩
  have hne : k ≠ i := fun q' => by subst q'; rw [List.getElem?_set_self (lt_of_get hk)] at q; cases q
  rw [List.getElem?_set_ne hne] at q
  obtain ⟨y, ws, c', f1, f2, f3, f4⟩ := a.muts.is i m q
  exact ⟨y, ws, c', f1, f2, kk.reps f3, f4⟩

theorem EV_freeze {x : Str} {pos : Pos} {k : Nat} {l : List PV} {Q : PV → Sto → Prop} (h : Q (.list l) (st.set k none)) (hr : rho x = some (.mut k)) (hk : st[k]? = some (some l)) (hl : sc.names.lookup x = some .local) (hd : (x == ("__debug__" : Str)) = false) :
    EV C n sc (.Name x pos) rho st Q := by
  intro A env s al r o a e
  obtain ⟨m, ns, hm⟩ := e.locs
  have hk' : env.kindOf x = some .local := by unfold Env.kindOf; rw [o.scope]; exact hl
  obtain ⟨v, hv, rv⟩ := hm x _ hk' hr
  obtain ⟨b, rfl, hb⟩ := rv.mutOf
  obtain ⟨y, e1, k1, a1, r1⟩ := freeze a hk
  rw [hb] at e1; cases e1
  exact wpAny_Name (wpAny_loadName_local (by rw [o.scope]; exact o.fn) hk' ns hv ⟨s.heap, s.toks, al, _, _, rfl, k1, a1, e.kept a.muts k1, r1, h⟩) hd

/-- a call whose own mutable lists are let go -/
theorem CJ_drop {name : Str} {ps : List PV} {Q : PV → Sto → Prop} (h : CJ C n name ps st fun p st' => noMut p = true ∧ Q p (st'.take st.length)) : CJ C n name ps st Q := by
  intro A s al vs a rm ha am rs
  refine wpAny_mono (h A s al vs a rm ha am rs) (fun v s' hh => ?_) fun _ _ f => f
  obtain ⟨h', tk, al', st', p, rfl, k, a', r, hm, q⟩ := hh
  have hl : al.length ≤ st.length := Nat.le_of_eq am.muts.len
  exact ⟨h', tk, al'.take st.length, st'.take st.length, p, rfl, kept_take k hl, amb_take a' _, rep_take r hm, q⟩
end
end Mine
end

-- MComp
section
set_option maxRecDepth 100000
namespace Mine
open PySem PySem.W PyProof.Rows

/-- the scope of a comprehension as it runs -/
noncomputable def relS (scope sc : Scope) : Scope := { scope with names := scope.names.map fun (n, k) => if (k == .free && sc.names.lookup n == some .cell) then (n, .cell) else (n, k) }
theorem relabel_eq {scope sc : Scope} {env : Env} (o : EnvOk sc env) : relabel scope env = relS scope sc := by
  unfold relabel relS
  have hk : (env.scope.kind == ScopeKind.function) = true := by rw [o.scope, o.fn]; rfl
  have hn : ∀ n, env.kindOf n = sc.names.lookup n := fun n => by unfold Env.kindOf; rw [o.scope]
  simp only [hk, Bool.and_true, hn]

noncomputable def closOf (cells : List (Str × Addr)) : List (Str × NameKind) → List (Str × Addr) → List (Str × Addr)
  | [], acc => acc
  | (x, k) :: r, acc => if k == .free then closOf cells r ((x, (cells.lookup x).getD 0) :: acc) else closOf cells r acc

theorem closureFor_eq {scope : Scope} {env : Env} (h : ∀ y ∈ scope.names, y.2 = .free → (env.cells.lookup y.1).isSome = true) : closureFor scope env = pure (closOf env.cells scope.names []) := by
  unfold closureFor
  have key : ∀ (names : List (Str × NameKind)) (acc : List (Str × Addr)), (∀ y ∈ names, y.2 = .free → (env.cells.lookup y.1).isSome = true) →
      (forIn names acc fun x r => (do
        let (name, kind) := x
        let cs := r
        if kind == .free then do
          let a ← cellOf env name
          pure (ForInStep.yield ((name, a) :: cs))
        else pure (ForInStep.yield cs) : Sem (ForInStep (List (Str × Addr))))) = pure (closOf env.cells names acc) := by
    intro names
    induction names with
    | nil => intro acc _; rfl
    | cons y r ih =>
      intro acc hn
      obtain ⟨x, k⟩ := y
      rw [List.forIn_cons]
      unfold closOf
      by_cases hk : (k == .free) = true
      · obtain ⟨c, hc⟩ := Option.isSome_iff_exists.mp (hn (x, k) (.head _) (beq_iff_eq.mp hk))
        simp only [hk, if_true]
        have : cellOf env x = pure c := by unfold cellOf; rw [hc]
        rw [this]
        simp only [pure_bind, hc, Option.getD_some]
        exact ih _ fun z hz => hn z (.tail _ hz)
      · have hk' : (k == .free) = false := by simpa using hk
        simp only [hk', Bool.false_eq_true, if_false, pure_bind]
        exact ih _ fun z hz => hn z (.tail _ hz)
  have := key scope.names [] h
  simp only [bind_pure_comp] at this ⊢
  first | exact this | (rw [this]; rfl) | simpa using this

theorem closOf_mem {cells : List (Str × Addr)} {x : Str} {c : Addr} : ∀ (names : List (Str × NameKind)) (acc : List (Str × Addr)), (x, c) ∈ closOf cells names acc → (x, c) ∈ acc ∨ ((x, NameKind.free) ∈ names ∧ c = (cells.lookup x).getD 0)
  | [], _, h => .inl h
  | (y, k) :: r, acc, h => by
    unfold closOf at h
    by_cases hk : (k == .free) = true
    · rw [if_pos hk] at h
      rcases closOf_mem r _ h with q | ⟨q1, q2⟩
      · rcases List.mem_cons.mp q with q | q
        · cases q; exact .inr ⟨by rw [beq_iff_eq.mp hk]; exact .head _, rfl⟩
        · exact .inl q
      · exact .inr ⟨.tail _ q1, q2⟩
    · rw [if_neg hk] at h
      rcases closOf_mem r _ h with q | ⟨q1, q2⟩
      · exact .inl q
      · exact .inr ⟨.tail _ q1, q2⟩
theorem closOf_acc {cells : List (Str × Addr)} {x : Str} : ∀ (names : List (Str × NameKind)) (acc : List (Str × Addr)), x ∈ acc.map (·.1) ∨ (x, NameKind.free) ∈ names → x ∈ (closOf cells names acc).map (·.1)
  | [], _, h => h.elim id fun q => nomatch q
  | (y, k) :: r, acc, h => by
    unfold closOf
    by_cases hk : (k == .free) = true
    · rw [if_pos hk]
      refine closOf_acc r _ (h.elim (fun q => .inl (by rw [List.map_cons]; exact .tail _ q)) fun q => ?_)
      rcases List.mem_cons.mp q with q | q
      · cases q; exact .inl (by simp)
      · exact .inr q
    · rw [if_neg hk]
      refine closOf_acc r _ (h.elim .inl fun q => ?_)
      rcases List.mem_cons.mp q with q | q
      · cases q; exact absurd rfl hk
      · exact .inr q
theorem lookup_isSome_of {α : Type} {l : List (Str × α)} {x : Str} (h : x ∈ l.map (·.1)) : (l.lookup x).isSome = true := by
  cases q : l.lookup x with
  | some _ => rfl
  | none =>
    rw [List.lookup_eq_none_iff] at q
    obtain ⟨p, hp, rfl⟩ := List.mem_map.mp h
    exact absurd (q p hp) (by simp)
theorem closOf_pairwise {cells : List (Str × Addr)} : ∀ (names : List (Str × NameKind)) (acc : List (Str × Addr)), (names.map (·.1)).Nodup → acc.Pairwise (fun x y => x.1 ≠ y.1) → (∀ p ∈ acc, p.1 ∉ names.map (·.1)) → (closOf cells names acc).Pairwise fun x y => x.1 ≠ y.1
  | [], _, _, h, _ => h
  | (y, k) :: r, acc, hn, ha, hd => by
    rw [List.map_cons, List.nodup_cons] at hn
    unfold closOf
    have hd' : ∀ p ∈ acc, p.1 ∉ r.map (·.1) := fun p hp h => hd p hp (by rw [List.map_cons]; exact .tail _ h)
    split
    · refine closOf_pairwise r _ hn.2 (List.pairwise_cons.mpr ⟨fun p hp e => hd p hp (by simp [← e]), ha⟩) fun p hp => ?_
      rcases List.mem_cons.mp hp with rfl | hp
      · exact hn.1
      · exact hd' p hp
    · exact closOf_pairwise r _ hn.2 ha hd'

theorem lookup_map_relS {scope sc : Scope} {x : Str} : (relS scope sc).names.lookup x = (scope.names.lookup x).map fun k => if (k == .free && sc.names.lookup x == some .cell) then .cell else k := by
  unfold relS
  generalize scope.names = names
  induction names with
  | nil => rfl
  | cons y r ih =>
    obtain ⟨z, k⟩ := y
    simp only [List.map_cons]
    by_cases hx : x = z
    · subst hx
      by_cases hc : (k == .free && sc.names.lookup x == some .cell) = true
      · simp only [hc, if_true, List.lookup_cons, beq_self_eq_true, Option.map_some]
      · have hc' : (k == .free && sc.names.lookup x == some .cell) = false := by simpa using hc
        simp only [hc', Bool.false_eq_true, if_false, List.lookup_cons, beq_self_eq_true, Option.map_some]
    · have hb : (x == z) = false := by simpa using hx
      by_cases hc : (k == .free && sc.names.lookup z == some .cell) = true
      · simp only [hc, if_true, List.lookup_cons, hb]; exact ih
      · simp only [hc]; simp only [Bool.false_eq_true, if_false, List.lookup_cons, hb]; exact ih

/-- what a comprehension's scope must be -/
structure CompOk (scope sc : Scope) : Prop where
  kind : scope.kind = .function
  noCell : ∀ y ∈ scope.names, y.2 ≠ .cell
  free : ∀ y ∈ scope.names, y.2 = .free → sc.names.lookup y.1 = some .cell
  nodup : (scope.names.map (·.1)).Nodup

theorem mem_lookup_nodup {α : Type} : ∀ {l : List (Str × α)} {x : Str} {c : α}, (l.map (·.1)).Nodup → (x, c) ∈ l → l.lookup x = some c
  | (y, d) :: r, x, c, hn, hm => by
    rw [List.map_cons, List.nodup_cons] at hn
    rcases List.mem_cons.mp hm with e | hm
    · cases e; simp
    · have hne : x ≠ y := fun e => hn.1 (e ▸ List.mem_map.mpr ⟨(x, c), hm, rfl⟩)
      rw [List.lookup_cons, beq_eq_false_iff_ne.mpr hne]
      exact mem_lookup_nodup hn.2 hm

section
variable {C : Cx} {n : Nat} {sc : Scope} {rho : Vars} {st : Sto}

theorem comp_env {scope : Scope} {env : Env} (o : EnvOk sc env) (c : CompOk scope sc) (L : Addr) :
    EnvOk (relS scope sc) (compEnvC scope (closOf env.cells scope.names []) L env) := by
  have hrel : ∀ x, (relS scope sc).names.lookup x = some .cell → (x, NameKind.free) ∈ scope.names := fun x hx => by
    rw [lookup_map_relS] at hx
    cases q : scope.names.lookup x with
    | none => rw [q] at hx; cases hx
    | some k =>
      have hm := mem_of_lookup q
      rw [q] at hx
      simp only [Option.map_some, Option.some.injEq] at hx
      split at hx
      · rename_i hb
        simp only [Bool.and_eq_true, beq_iff_eq] at hb
        rw [hb.1] at hm; exact hm
      · rw [hx] at hm; exact absurd rfl (c.noCell _ hm)
  refine ⟨relabel_eq o, o.globals, o.builtins, c.kind, fun x hx => lookup_isSome_of (closOf_acc _ _ (.inr (hrel x hx))), fun x d hx => ?_⟩
  have hm := mem_of_lookup hx
  rcases closOf_mem _ _ hm with q | ⟨q, _⟩
  · cases q
  · rw [lookup_map_relS, mem_lookup_nodup c.nodup q]
    simp [c.free _ q rfl]

/-- the names that a comprehension sees at its start -/
noncomputable def compVars (scope sc : Scope) (rho : Vars) : Vars := fun x => if (relS scope sc).names.lookup x = some .cell then rho x else none

theorem comp_envSt {scope : Scope} {env : Env} {al : List Addr} {h : Heap} {L : Addr} (o : EnvOk sc env) (c : CompOk scope sc) (e : EnvSt C env al st rho h) (hL : h.Ns L fun _ => none) (h0 : C.h0.get? L = none) :
    EnvSt C (compEnvC scope (closOf env.cells scope.names []) L env) al st (compVars scope sc rho) h := by
  have ok := comp_env o c L
  have hcell : ∀ x d, (x, d) ∈ closOf env.cells scope.names [] → env.cells.lookup x = some d := fun x d hm => by
    rcases closOf_mem _ _ hm with q | ⟨q1, q2⟩
    · cases q
    · obtain ⟨d', hd'⟩ := Option.isSome_iff_exists.mp (o.kinds x (c.free _ q1 rfl))
      rw [hd'] at q2; rw [hd', q2]; rfl
  refine ⟨⟨_, hL, fun x p hx hp => ?_⟩, fun x d hx => ?_, ?_, fun x d hx => ?_, h0, fun x d hx => e.newC x d (mem_of_lookup (hcell x d hx))⟩
  · unfold compVars at hp
    have hk : (relS scope sc).names.lookup x = some .local := by
      have : Env.kindOf (compEnvC scope (closOf env.cells scope.names []) L env) x = some .local := hx
      unfold Env.kindOf at this
      rw [ok.scope] at this; exact this
    rw [if_neg (by rw [hk]; simp)] at hp; cases hp
  · obtain ⟨ov, i, l⟩ := e.cells x d (hcell x d (mem_of_lookup hx))
    refine ⟨ov, i, fun p hp => l p ?_⟩
    unfold compVars at hp
    split at hp
    · exact hp
    · cases hp
  · have hp := closOf_pairwise (cells := env.cells) scope.names [] c.nodup .nil (fun p hp => nomatch hp)
    refine List.Pairwise.imp_of_mem (fun {a b} ha hb hne q => hne ?_) hp
    exact name_of_addr e.apart (mem_of_lookup (hcell a.1 a.2 ha)) (by have := mem_of_lookup (hcell b.1 b.2 hb); rw [← q] at this; exact this)
  · exact e.isCells x d (mem_of_lookup (hcell x d hx))

/-- fewer names known -/
noncomputable def Ext (rho rho' : Vars) : Prop := ∀ x p, rho x = some p → rho' x = some p
theorem Ext.refl : Ext rho rho := fun _ _ e => e
theorem Ext.trans {a b c : Vars} (x : Ext a b) (y : Ext b c) : Ext a c := fun z p e => y z p (x z p e)
theorem Ext.upd {a b : Vars} {x : Str} {p : PV} (h : Ext a b) (hx : a x = none) : Ext a (upd b x p) := fun y q e => by
  unfold Mine.upd
  have : y ≠ x := fun z => by subst z; rw [hx] at e; cases e
  rw [if_neg this]; exact h y q e
theorem EnvSt.weak {env : Env} {al : List Addr} {rho' : Vars} {h : Heap} (e : EnvSt C env al st rho' h) (w : Ext rho rho') : EnvSt C env al st rho h where
  locs := let ⟨m, n, l⟩ := e.locs; ⟨m, n, fun x p hx hp => l x p hx (w x p hp)⟩
  cells := fun x c hc => let ⟨ov, i, l⟩ := e.cells x c hc; ⟨ov, i, fun p hp => l p (w x p hp)⟩
  apart := e.apart
  isCells := e.isCells
  newL := e.newL
  newC := e.newC
end
end Mine
end

-- MComp2
section
set_option maxRecDepth 100000
namespace Mine
open PySem PySem.W PyProof.Rows

section
variable {C : Cx} {n : Nat} {sc : Scope} {rho : Vars} {st : Sto}

theorem it_self {tt : Bool} {A : Around} {E : Value → Shared → Prop} {s : Shared} {al : List Addr} {X : Addr → Prop} {ws : List Addr} {I : Addr} {items : List PV} {Q : Value → Shared → Prop} (it : ItSt C.calm tt al X s.heap ws I items) (h : Q (.ref I) s) :
    wpAny C.M A (pyIter (.ref I)) Q E s := by
  cases it with
  | list h1 h2 h3 h4 => exact wpAny_pyIter_listiter h1 h
  | range hc h1 h2 => exact wpAny_pyIter_rangeiter h1 h
  | enum hc ht h1 h2 h3 h4 h5 h6 => exact wpAny_pyIter_enum h1 h

theorem append_ok {A : Around} {E : Value → Shared → Prop} {s : Shared} {al : List Addr} {k : Nat} {x : Addr} {v : Value} {p : PV} {l : List PV} {Q : Value → Shared → Prop} (a : Amb C A.handled al st s.heap) (hk : st[k]? = some (some l)) (ha : al[k]? = some x)
    (r : Rep al (Live al st) s.heap v p) (hm : noMut p = true) (hl : l.length ≤ 1000000)
    (h : ∀ h', Kept al st al (st.set k (some (l ++ [p]))) s.heap h' → Amb C A.handled al (st.set k (some (l ++ [p]))) h' → Q .none { s with heap := h' }) :
    wpAny C.M A (call (.builtin "list.append") [.ref x, v]) Q E s := by
  obtain ⟨y, vs, c, e1, e2, e3, e4⟩ := a.muts.is k l hk
  rw [ha] at e1; cases e1
  refine wpAny_list_append_plain (items := vs.toArray) (hsz := by have := e3.length; simp only [List.size_toArray, this, sizeLine_eq]; lia) ⟨c, e2⟩ fun h' hp hs => ?_
  obtain ⟨c', hp⟩ := hp
  have hp' : IsL h' x (vs ++ [v]).toArray c' := by unfold IsL; rw [hp]; simp
  obtain ⟨k1, a1⟩ := mut_put a hk ha (fun b hb => hs.2 b hb) hp' (e3.append (.cons r .nil)) (noMuts_append e4 (by simp [noMuts, hm]))
  exact h h' k1 a1

/-- the tests of a clause: none or one -/
noncomputable def Tests (C : Cx) (n : Nat) (sc : Scope) (ifs : List Expr) (rho : Vars) (st : Sto) (K : Bool → Sto → Prop) : Prop := match ifs with
  | [] => K true st
  | [c] => TV C n sc c rho st K
  | _ => False

theorem tests_ok {A : Around} {env : Env} {s : Shared} {al : List Addr} {ifs : List Expr} {K : Bool → Sto → Prop} {Q : Bool → Shared → Prop} {E : Value → Shared → Prop} (h : Tests C n sc ifs rho st K) (rm : Room n A) (o : EnvOk sc env) (a : Amb C A.handled al st s.heap) (e : EnvSt C env al st rho s.heap)
    (k : ∀ b h' tk al' st', Kept al st al' st' s.heap h' → Amb C A.handled al' st' h' → EnvSt C env al' st' rho h' → K b st' → Q b { s with heap := h', toks := tk }) :
    wpAny C.M A (forIn ifs true fun c r => if r = true then do let ok ← isTrue c env (eval c env); pure (ForInStep.yield ok) else pure (ForInStep.yield r)) Q E s := by
  unfold Tests at h
  match ifs, h with
  | [], h => exact wpAny_tests_nil (k true s.heap s.toks al st .refl a e h)
  | [c], h =>
    refine wpAny_tests_one (JE.use h rm o a e fun b h1 tk1 al1 st1 p k1 a1 e1 r1 q1 => ?_)
    cases r1
    exact k b h1 tk1 al1 st1 k1 a1 e1 q1
  | _ :: _ :: _, h => exact h.elim

theorem compTurn_last {gens : List Comprehension} {d : Nat} {target iter : Expr} {ifs : List Expr} {elt : Expr} {scope : Scope} {pos : Pos} {it acc : Value} {env : Env} (hg : gens[d]? = some ⟨target, iter, ifs, 0⟩) (hn : gens[d + 1]? = none) :
    compTurn (.ListComp elt gens scope pos) d it acc env = (do
      standAt iter.pos
      match ← pyNext it with
      | none => pure (.done .next)
      | some v =>
        letOwnedTupleGo target it v
        assign target env v
        let mut ok := true
        for c in ifs do
          if ok then ok ← isTrue c env (eval c env)
        if ok then
          (do let _ ← call (.builtin "list.append") [acc, ← eval elt env])
        again (.compLoop (.ListComp elt gens scope pos) d it acc env)) := by
  unfold compTurn
  simp only [hg, hn]
  rfl

theorem compTurn_more {gens : List Comprehension} {d : Nat} {target iter target2 iter2 : Expr} {ifs ifs2 : List Expr} {elt : Expr} {scope : Scope} {pos : Pos} {it acc : Value} {env : Env} (hg : gens[d]? = some ⟨target, iter, ifs, 0⟩) (hn : gens[d + 1]? = some ⟨target2, iter2, ifs2, 0⟩) :
    compTurn (.ListComp elt gens scope pos) d it acc env = (do
      standAt iter.pos
      match ← pyNext it with
      | none => pure (.done .next)
      | some v =>
        letOwnedTupleGo target it v
        assign target env v
        let mut ok := true
        for c in ifs do
          if ok then ok ← isTrue c env (eval c env)
        if ok then
          let x ← eval iter2 env
          standAt iter2.pos
          let x ← foldedSetIterable iter2 env x
          let _ ← runOwn (.compStart (.ListComp elt gens scope pos) (d + 1) (← holding [x] (pyIter x)) acc env) env
        again (.compLoop (.ListComp elt gens scope pos) d it acc env)) := by
  unfold compTurn
  simp only [hg, hn]
  rfl

noncomputable def coreTurn (iter target : Expr) (ifs : List Expr) (it : Value) (env : Env) (B : Sem Unit) (c : Code) : Sem Fin := do
  standAt iter.pos
  match ← pyNext it with
  | none => pure (.done .next)
  | some v =>
    letOwnedTupleGo target it v
    assign target env v
    let ok ← forIn ifs true fun c r => if r = true then do let ok ← isTrue c env (eval c env); pure (ForInStep.yield ok) else pure (ForInStep.yield r)
    if ok = true then do
      B
      again c
    else again c

noncomputable def emitB (elt : Expr) (acc : Value) (env : Env) : Sem Unit := do
  let x ← eval elt env
  let _ ← call (.builtin "list.append") [acc, x]
noncomputable def nextB (e : Expr) (d : Nat) (iter2 : Expr) (acc : Value) (env : Env) : Sem Unit := do
  let x ← eval iter2 env
  standAt iter2.pos
  let x ← foldedSetIterable iter2 env x
  let y ← holding [x] (pyIter x)
  let _ ← runOwn (.compStart e (d + 1) y acc env) env

theorem turn_last {gens : List Comprehension} {d : Nat} {target iter : Expr} {ifs : List Expr} {elt : Expr} {scope : Scope} {pos : Pos} {it acc : Value} {env : Env} (hg : gens[d]? = some ⟨target, iter, ifs, 0⟩) (hn : gens[d + 1]? = none) :
    compTurn (.ListComp elt gens scope pos) d it acc env = coreTurn iter target ifs it env (emitB elt acc env) (.compLoop (.ListComp elt gens scope pos) d it acc env) := by
  rw [compTurn_last hg hn]; rfl
theorem turn_more {gens : List Comprehension} {d : Nat} {target iter target2 iter2 : Expr} {ifs ifs2 : List Expr} {elt : Expr} {scope : Scope} {pos : Pos} {it acc : Value} {env : Env} (hg : gens[d]? = some ⟨target, iter, ifs, 0⟩) (hn : gens[d + 1]? = some ⟨target2, iter2, ifs2, 0⟩) :
    compTurn (.ListComp elt gens scope pos) d it acc env = coreTurn iter target ifs it env (nextB (.ListComp elt gens scope pos) d iter2 acc env) (.compLoop (.ListComp elt gens scope pos) d it acc env) := by
  rw [compTurn_more hg hn]
  unfold coreTurn nextB
  simp only [bind_assoc, pure_bind]

theorem codeAny_core {elt : Expr} {gens : List Comprehension} {scope : Scope} {pos : Pos} {d : Nat} {it acc : Value} {env : Env} {A : Around} {s : Shared} {R : Result → Shared → Prop} {target iter : Expr} {ifs : List Expr} {B : Sem Unit}
    (heq : compTurn (.ListComp elt gens scope pos) d it acc env = coreTurn iter target ifs it env B (.compLoop (.ListComp elt gens scope pos) d it acc env)) (I : Nat → Shared → Prop)
    (turn : ∀ n s, I n s → wpAny C.M A (pyNext it) (fun r s₁ => match r with
      | none => R (.ok .next) s₁
      | some v => wpAny C.M A (letOwnedTupleGo target it v) (fun _ s₂ => wpAny C.M A (assign target env v) (fun _ s₃ =>
          wpAny C.M A (forIn ifs true fun c r => if r = true then do let ok ← isTrue c env (eval c env); pure (ForInStep.yield ok) else pure (ForInStep.yield r)) (fun ok s₄ =>
            if ok = true then wpAny C.M A B (fun _ s₅ => ∃ m, m < n ∧ I m s₅) (fun _ _ => False) s₄ else ∃ m, m < n ∧ I m s₄) (fun _ _ => False) s₃) (fun _ _ => False) s₂) (fun _ _ => False) s₁) (fun _ _ => False) s)
    (n : Nat) (h : I n s) : codeAny C.M A (.compLoop (.ListComp elt gens scope pos) d it acc env) R s := by
  refine codeAny_loop rfl I (fun n s hI => ?_) n h
  show wpAny _ A ((compTurn (.ListComp elt gens scope pos) d it acc env).onRaise (fun x => do noteFrame x env; theTreesLotGoes x)) _ _ s
  refine wpAny_noted ?_
  rw [heq]
  unfold coreTurn
  refine wpAny_bind (wpAny_standAt (wpAny_bind (wpAny_mono (turn n s hI) (fun r s₁ h₁ => ?_) fun _ _ f => f.elim)))
  cases r with
  | none => exact wpAny_pure h₁
  | some v =>
    refine wpAny_bind (wpAny_mono h₁ (fun _ s₂ h₂ => wpAny_bind (wpAny_mono h₂ (fun _ s₃ h₃ => wpAny_bind (wpAny_mono h₃ (fun ok s₄ h₄ => ?_) fun _ _ f => f.elim)) fun _ _ f => f.elim)) fun _ _ f => f.elim)
    cases ok with
    | false => exact wpAny_pure ⟨rfl, h₄⟩
    | true => exact wpAny_bind (wpAny_mono h₄ (fun _ s₅ h₅ => wpAny_pure ⟨rfl, h₅⟩) fun _ _ f => f.elim)

theorem codeAny_start {elt : Expr} {gens : List Comprehension} {scope : Scope} {pos : Pos} {d : Nat} {it acc : Value} {env : Env} {A : Around} {s : Shared} {R : Result → Shared → Prop} {target iter : Expr} {ifs : List Expr}
    (hg : gens[d]? = some ⟨target, iter, ifs, 0⟩) (h0 : codeAny C.M A (.compLoop (.ListComp elt gens scope pos) d it acc env) R s)
    (h : wpAny C.M A (pyIter it) (fun it' s' => codeAny C.M A (.compLoop (.ListComp elt gens scope pos) d it' acc env) R s') (fun _ _ => False) s) :
    codeAny C.M A (.compStart (.ListComp elt gens scope pos) d it acc env) R s := by
  refine codeAny_of_tree ?_
  show wpAny _ _ ((compStart (.ListComp elt gens scope pos) d it acc env).onRaise (fun x => do noteFrame x env; standAt theWindowsPlace)) _ _ s
  refine wpAny_notedAt ?_
  unfold compStart
  have hc : (clausesOf (.ListComp elt gens scope pos))[d]? = some ⟨target, iter, ifs, 0⟩ := hg
  simp only [hc]
  show wpAny _ _ (ask >>= _) _ _ s
  refine wpAny_bind (wpAny_askSetting (wpAny_ite ?_))
  split
  · first
      | exact wpAny_bind (wpAny_pure (wpAny_pure (And.intro rfl h0)))
      | exact wpAny_pure (And.intro rfl h0)
  · first
      | exact wpAny_bind (wpAny_rule (wpAny_bind (wpAny_standAt (wpAny_bind (wpAny_mono h (fun it' s' h' => wpAny_pure (And.intro rfl h')) fun _ _ x => x.elim)))))
      | (refine wpAny_bind (wpAny_rule ?_); show wpAny _ _ (standAt iter.pos >>= _) _ _ s; exact wpAny_bind (wpAny_standAt (wpAny_bind (wpAny_mono h (fun it' s' h' => wpAny_pure (And.intro rfl h')) fun _ _ x => x.elim))))

/-- only the names of the frame have changed -/
structure KeptL (env : Env) (al : List Addr) (st : Sto) (al' : List Addr) (st' : Sto) (h h' : Heap) : Prop where
  addr : ∀ (k : Nat) (a : Addr), al[k]? = some a → al'[k]? = some a
  keep : ∀ b o, h.get? b = some o → ¬ Live al st b → b ≠ env.locals → h'.get? b = some o ∧ ¬ Live al' st' b
theorem KeptL.toS {env : Env} {al al' : List Addr} {st st' : Sto} {h h' : Heap} (k : KeptL env al st al' st' h h') : KeptS env al st al' st' h h' := ⟨k.addr, fun b o e n n1 _ => k.keep b o e n n1⟩
theorem toL {env : Env} {al al' : List Addr} {st st' : Sto} {h h' : Heap} (k : Kept al st al' st' h h') : KeptL env al st al' st' h h' := ⟨k.addr, fun b o e n _ => k.keep b o e n⟩
theorem KeptL.refl {env : Env} {al : List Addr} {st : Sto} {h : Heap} : KeptL env al st al st h h := toL Kept.refl
theorem KeptL.trans {env : Env} {al al' al'' : List Addr} {st st' st'' : Sto} {h h' h'' : Heap} (x : KeptL env al st al' st' h h') (y : KeptL env al' st' al'' st'' h' h'') : KeptL env al st al'' st'' h h'' :=
  ⟨fun k a e => y.addr k a (x.addr k a e), fun b o e n n1 => y.keep b o (x.keep b o e n n1).1 (x.keep b o e n n1).2 n1⟩

inductive JLP (C : Cx) (hd : Option Value) (env : Env) (al : List Addr) (st : Sto) (Q : Vars → Sto → Prop) (s : Shared) (u : Unit) (s' : Shared) : Prop
  | mk (h' : Heap) (tk : Nat) (al' : List Addr) (st' : Sto) (rho' : Vars) (e : s' = { s with heap := h', toks := tk }) (k : KeptL env al st al' st' s.heap h') (a : Amb C hd al' st' h') (x : EnvSt C env al' st' rho' h') (q : Q rho' st')
noncomputable def JL (C : Cx) (n : Nat) (sc : Scope) (target : Expr) (p : PV) (rho : Vars) (st : Sto) (Q : Vars → Sto → Prop) : Prop :=
  ∀ (A : Around) (env : Env) (s : Shared) (al : List Addr) (v : Value), Room n A → EnvOk sc env → Amb C A.handled al st s.heap → EnvSt C env al st rho s.heap → Rep al (Live al st) s.heap v p →
    wpAny C.M A (assign target env v) (JLP C A.handled env al st Q s) (fun _ _ => False) s
noncomputable def JLs (C : Cx) (n : Nat) (sc : Scope) (targets : List Expr) (ps : List PV) (rho : Vars) (st : Sto) (Q : Vars → Sto → Prop) : Prop :=
  ∀ (A : Around) (env : Env) (s : Shared) (al : List Addr) (vs : List Value), Room n A → EnvOk sc env → Amb C A.handled al st s.heap → EnvSt C env al st rho s.heap → Reps al (Live al st) s.heap vs ps →
    wpAny C.M A (assignInOrder ((assignEach targets env).map (·.2)) vs) (JLP C A.handled env al st Q s) (fun _ _ => False) s

theorem JL.use {target : Expr} {p : PV} {Q : Vars → Sto → Prop} (j : JL C n sc target p rho st Q)
    {A : Around} {env : Env} {s : Shared} {al : List Addr} {v : Value} {K : Unit → Shared → Prop} {E : Value → Shared → Prop} (r : Room n A) (o : EnvOk sc env) (a : Amb C A.handled al st s.heap) (x : EnvSt C env al st rho s.heap)
    (rv : Rep al (Live al st) s.heap v p) (k : ∀ h' tk al' st' rho', KeptL env al st al' st' s.heap h' → Amb C A.handled al' st' h' → EnvSt C env al' st' rho' h' → Q rho' st' → K () { s with heap := h', toks := tk }) :
    wpAny C.M A (assign target env v) K E s :=
  wpAny_mono (j A env s al v r o a x rv) (fun _ _ ⟨h', tk, al', st', rho', e, q1, q2, q3, q4⟩ => e ▸ k h' tk al' st' rho' q1 q2 q3 q4) fun _ _ f => f.elim
theorem JLs.use {targets : List Expr} {ps : List PV} {Q : Vars → Sto → Prop} (j : JLs C n sc targets ps rho st Q)
    {A : Around} {env : Env} {s : Shared} {al : List Addr} {vs : List Value} {K : Unit → Shared → Prop} {E : Value → Shared → Prop} (r : Room n A) (o : EnvOk sc env) (a : Amb C A.handled al st s.heap) (x : EnvSt C env al st rho s.heap)
    (rv : Reps al (Live al st) s.heap vs ps) (k : ∀ h' tk al' st' rho', KeptL env al st al' st' s.heap h' → Amb C A.handled al' st' h' → EnvSt C env al' st' rho' h' → Q rho' st' → K () { s with heap := h', toks := tk }) :
    wpAny C.M A (assignInOrder ((assignEach targets env).map (·.2)) vs) K E s :=
  wpAny_mono (j A env s al vs r o a x rv) (fun _ _ ⟨h', tk, al', st', rho', e, q1, q2, q3, q4⟩ => e ▸ k h' tk al' st' rho' q1 q2 q3 q4) fun _ _ f => f.elim

theorem JL_name {x : Str} {pos : Pos} {p : PV} {Q : Vars → Sto → Prop} (h : Q (upd rho x p) st) (hx : sc.names.lookup x = some .local) : JL C n sc (.Name x pos) p rho st Q := by
  intro A env s al v rm o a e r
  refine wpAny_assign_Name ?_
  have hk : env.kindOf x = some .local := by unfold Env.kindOf; rw [o.scope]; exact hx
  have hfn : env.scope.kind = .function := by rw [o.scope]; exact o.fn
  obtain ⟨m, hm, hl⟩ := e.locs
  refine wpAny_storeName_local hk hm (fun h' hn hs => ?_) (by rw [hfn]; rfl)
  have k : ∀ b ob, s.heap.get? b = some ob → b ≠ env.locals → h'.get? b = some ob := fun b ob q h1 => (hs.2 b h1).trans q
  have kl : KeptL env al st al st s.heap h' := ⟨fun _ _ q => q, fun b ob q nl h1 => ⟨k b ob q h1, nl⟩⟩
  have ks := kl.toS
  have hcl : ∀ y c, (y, c) ∈ env.cells → c ≠ env.locals := fun y c hy q => by
    obtain ⟨ov, ob, e1, e2⟩ := e.isCells y c hy
    obtain ⟨ob', es, ep, e3, e4, _⟩ := hm
    rw [q, e3] at e1; cases e1; rw [e4] at e2; cases e2
  refine ⟨h', _, al, st, upd rho x p, rfl, kl, amb_var a e (fun b ob q h1 _ => k b ob q h1) ks, ⟨⟨_, hn, fun y q hy hq => ?_⟩, fun y c hc => ?_, e.apart, fun y c hc => ?_, e.newL, e.newC⟩, h⟩
  · by_cases hyx : y = x
    · subst hyx
      simp only [upd, if_true, Option.some.injEq] at hq
      subst hq
      exact ⟨v, by simp, ks.rep e r⟩
    · simp only [upd, if_neg hyx] at hq
      obtain ⟨v', hv', r'⟩ := hl y q hy hq
      exact ⟨v', by simp only [if_neg hyx]; exact hv', ks.rep e r'⟩
  · obtain ⟨ov, hcell, hv⟩ := e.cells y c hc
    refine ⟨ov, hcell.sameBut hs (hcl y c (mem_of_lookup hc)), fun q hq => ?_⟩
    have hyx : y ≠ x := fun q => by subst q; rw [o.cellKind y c hc] at hx; cases hx
    simp only [upd, if_neg hyx] at hq
    obtain ⟨v', hv', r'⟩ := hv q hq
    exact ⟨v', hv', ks.rep e r'⟩
  · obtain ⟨ov, hcell⟩ := e.isCells y c hc
    exact ⟨ov, hcell.sameBut hs (hcl y c hc)⟩

theorem JLs_nil {Q : Vars → Sto → Prop} (h : Q rho st) : JLs C n sc [] [] rho st Q := fun _ _ s al _ _ _ a e r => by
  cases r.nilOf
  exact wpAny_pure ⟨s.heap, s.toks, al, st, rho, rfl, .refl, a, e, h⟩
theorem JLs_cons {t : Expr} {ts : List Expr} {p : PV} {ps : List PV} {Q : Vars → Sto → Prop} (h : JL C n sc t p rho st fun rho1 st1 => JLs C n sc ts ps rho1 st1 Q)
    (ht : ∀ env, assignEach (t :: ts) env = (false, assign t env) :: assignEach ts env) : JLs C n sc (t :: ts) (p :: ps) rho st Q := by
  intro A env s al vs rm o a e r
  obtain ⟨v, vs', rfl, r1, r2⟩ := r.consOf
  rw [ht env]
  show wpAny _ _ (do holding vs' (assign t env v); assignInOrder ((assignEach ts env).map (·.2)) vs') _ _ s
  refine wpAny_bind (wpAny_holding (h.use rm o a e r1 fun h1 tk1 al1 st1 rho1 k1 a1 e1 q1 => ?_))
  exact JLs.use q1 (s := { s with heap := h1, toks := tk1 }) rm o a1 e1 (k1.toS.reps e r2) fun h2 tk2 al2 st2 rho2 k2 a2 e2 q2 => ⟨h2, tk2, al2, st2, rho2, rfl, k1.trans k2, a2, e2, q2⟩

theorem JL_tup {elts : List Expr} {k : Nat} {pos : Pos} {ps : List PV} {Q : Vars → Sto → Prop} (h : JLs C n sc elts ps rho st Q) (hlen : ∀ env, (assignEach elts env).length = ps.length) (hstar : ∀ env, (assignEach elts env).findIdx? (·.1) = none) :
    JL C n sc (.Tuple elts k pos) (.tup ps) rho st Q := by
  intro A env s al v rm o a e r
  obtain ⟨t, vs, m, rfl, i, _, rs⟩ := r.tupOf
  rw [arm_assign_Tuple]
  refine wpAny_bind (wpAny_standAt ?_)
  unfold unpack
  rw [hlen env, hstar env, ← rs.length]
  have ht : s.heap.IsTuple t vs.toArray := ⟨_, i, rfl, m, rfl⟩
  have hsz : vs.length = vs.toArray.size := by simp
  rw [hsz]
  refine wpAny_bind (wpAny_holding (unpack_tup a.hand ht fun h1 k1 => ?_))
  obtain ⟨x1, x2, x3⟩ := fin_grow a e k1
  exact h.use (s := { s with heap := h1 }) rm o x2 x3 (x1.reps rs) fun h2 tk2 al2 st2 rho2 k2 a2 e2 q2 => ⟨h2, tk2, al2, st2, rho2, rfl, (toL x1).trans k2, a2, e2, q2⟩

/-- what a turn gives out -/
noncomputable def EM (C : Cx) (n : Nat) (sc : Scope) (D : Addr) (k0 : Nat) (t : Env → Sem Unit) (rho : Vars) (st : Sto) (Q : Vars → Sto → Prop) : Prop :=
  ∀ (A : Around) (env : Env) (s : Shared) (al : List Addr), Room n A → EnvOk sc env → Amb C A.handled al st s.heap → EnvSt C env al st rho s.heap → al[k0]? = some D →
    wpAny C.M A (t env) (JLP C A.handled env al st Q s) (fun _ _ => False) s

theorem EM_last {elt : Expr} {D : Addr} {k0 : Nat} {Q : Vars → Sto → Prop} (h : EV C n sc elt rho st fun p st1 => noMut p = true ∧ ∃ l, st1[k0]? = some (some l) ∧ l.length ≤ 1000000 ∧ Q rho (st1.set k0 (some (l ++ [p])))) :
    EM C n sc D k0 (emitB elt (.ref D)) rho st Q := by
  intro A env s al rm o a e hD
  unfold emitB
  refine wpAny_bind (JE.use h rm o a e fun v h1 tk1 al1 st1 p k1 a1 e1 r1 q1 => ?_)
  obtain ⟨hm, l, hk, hl, q⟩ := q1
  refine wpAny_bind (append_ok (s := { s with heap := h1, toks := tk1 }) a1 hk (k1.addr _ _ hD) r1 hm hl fun h2 k2 a2 => wpAny_pure ?_)
  exact ⟨h2, tk1, al1, _, rho, rfl, toL (k1.trans k2), a2, e1.kept a1.muts k2, q⟩

/-- the comprehension's end -/
inductive CompE (C : Cx) (hd : Option Value) (env : Env) (al : List Addr) (st : Sto) (D : Addr) (k0 : Nat) (ws : List Addr) (Q : Vars → Sto → Prop) (s : Shared) (r : Result) (s' : Shared) : Prop
  | mk (hr : r = .ok .next) (h' : Heap) (tk : Nat) (al' : List Addr) (st' : Sto) (rho' : Vars) (e : s' = { s with heap := h', toks := tk }) (hD : al'[k0]? = some D) (ka : ∀ (k : Nat) (x : Addr), al[k]? = some x → al'[k]? = some x)
    (k : ∀ b o, b ∉ ws → s.heap.get? b = some o → ¬ Live al st b → b ≠ env.locals → h'.get? b = some o ∧ ¬ Live al' st' b) (a : Amb C hd al' st' h') (x : EnvSt C env al' st' rho' h') (q : Q rho' st')
/-- ahead of a turn -/
inductive CompP (C : Cx) (hd : Option Value) (env : Env) (al : List Addr) (st : Sto) (tt : Bool) (ws : List Addr) (I : Addr) (items : List PV) (J : Nat → Vars → Sto → Prop) (s : Shared) (m : Nat) (s' : Shared) : Prop
  | mk (i : Nat) (h' : Heap) (tk : Nat) (al' : List Addr) (st' : Sto) (rho' : Vars) (hi : i ≤ items.length) (hm : m = items.length - i) (e : s' = { s with heap := h', toks := tk }) (ka : ∀ (k : Nat) (x : Addr), al[k]? = some x → al'[k]? = some x)
    (k : ∀ b o, b ∉ ws → s.heap.get? b = some o → ¬ Live al st b → b ≠ env.locals → h'.get? b = some o ∧ ¬ Live al' st' b) (a : Amb C hd al' st' h') (x : EnvSt C env al' st' rho' h')
    (it : ItSt C.calm tt al' (Live al' st') h' ws I (items.drop i)) (j : J i rho' st')
theorem comp_loop {elt : Expr} {gens : List Comprehension} {scope : Scope} {pos : Pos} {d : Nat} {I D : Addr} {env : Env} {A : Around} {s : Shared} {al : List Addr} {target iter : Expr} {ifs : List Expr} {B : Env → Sem Unit} {k0 : Nat} {tt : Bool}
    (heq : compTurn (.ListComp elt gens scope pos) d (.ref I) (.ref D) env = coreTurn iter target ifs (.ref I) env (B env) (.compLoop (.ListComp elt gens scope pos) d (.ref I) (.ref D) env))
    {items : List PV} {ws : List Addr} (htt : tt = true → ∃ elts k p, target = .Tuple elts k p) (rm : Room n A) (o : EnvOk sc env) (a : Amb C A.handled al st s.heap) (e : EnvSt C env al st rho s.heap) (hD : al[k0]? = some D)
    (its : ItSt C.calm tt al (Live al st) s.heap ws I items) (hb0 : ∀ b ∈ ws, C.h0.get? b = none)
    (J : Nat → Vars → Sto → Prop) (j0 : J 0 rho st)
    (step : ∀ k x rho' st', items[k]? = some x → J k rho' st' → JL C n sc target x rho' st' fun rho2 st2 => Tests C n sc ifs rho2 st2 fun b st3 => if b = true then EM C n sc D k0 B rho2 st3 (J (k + 1)) else J (k + 1) rho2 st3) :
    codeAny C.M A (.compLoop (.ListComp elt gens scope pos) d (.ref I) (.ref D) env) (CompE C A.handled env al st D k0 ws (J items.length) s) s := by
  refine codeAny_core (B := B env) heq (CompP C A.handled env al st tt ws I items J s) ?_ items.length ⟨0, s.heap, s.toks, al, st, rho, Nat.zero_le _, rfl, rfl, fun _ _ e => e, fun _ _ _ e nl _ => ⟨e, nl⟩, a, e, by simpa using its, j0⟩
  rintro m s' ⟨i, h2, tk2, al2, st2, rho2, hi, rfl, rfl, ka2, k2, a2, e2, it2, j2⟩
  cases hx : items.drop i with
  | nil =>
    have hlen : i = items.length := by have := List.drop_eq_nil_iff.mp hx; lia
    refine it_end (s := { s with heap := h2, toks := tk2 }) a2 it2 hx fun h3 k3 => ?_
    obtain ⟨a3, e3⟩ := fin_iter a2 e2 it2.objs hb0 k3
    subst hlen
    refine ⟨rfl, h3, tk2, al2, st2, rho2, rfl, ka2 _ _ hD, ka2, fun b ob hb g nl n1 => ?_, a3, e3, j2⟩
    have := k2 b ob hb g nl n1
    exact ⟨k3 b ob hb this.1, this.2⟩
  | cons x rest =>
    have hget : items[i]? = some x := (drop_cons hx).1
    have hrest : items.drop (i + 1) = rest := (drop_cons hx).2
    have hlt := lt_of_get hget
    refine it_next2 (s := { s with heap := h2, toks := tk2 }) (fun _ _ => rfl) htt a2 it2 hx ?_
    intro v h3 tk3 k3 r3 it3
    obtain ⟨a3, e3⟩ := fin_iter a2 e2 it2.objs hb0 k3
    have kk3 : ∀ b o, b ∉ ws → s.heap.get? b = some o → ¬ Live al st b → b ≠ env.locals → h3.get? b = some o ∧ ¬ Live al2 st2 b := fun b ob hb g nl n1 => by
      have := k2 b ob hb g nl n1
      exact ⟨k3 b ob hb this.1, this.2⟩
    have fin : ∀ {h5 : Heap} {tk5 : Nat} {al5 : List Addr} {st5 : Sto} {rho5 : Vars}, KeptL env al2 st2 al5 st5 h3 h5 → Amb C A.handled al5 st5 h5 → EnvSt C env al5 st5 rho5 h5 → J (i + 1) rho5 st5 →
        ∃ m, m < items.length - i ∧ CompP C A.handled env al st tt ws I items J s m { s with heap := h5, toks := tk5 } := fun {h5 tk5 al5 st5 rho5} kk a5 e5 q5 => by
      have it5 : ItSt C.calm tt al5 (Live al5 st5) h5 ws I (items.drop (i + 1)) := by rw [hrest]; exact it3.keptS kk.toS a3 e3
      exact ⟨items.length - (i + 1), by lia, i + 1, h5, tk5, al5, st5, rho5, hlt, rfl, rfl, fun k x q => kk.addr k x (ka2 k x q), fun b ob hb g nl n1 => let q := kk3 b ob hb g nl n1; kk.keep b ob q.1 q.2 n1, a5, e5, it5, q5⟩
    refine (step i x rho2 st2 hget j2).use (s := { s with heap := h3, toks := tk3 }) rm o a3 e3 r3 fun h4 tk4 al4 st4 rho4 k4 a4 e4 q4 => ?_
    refine tests_ok (s := { s with heap := h4, toks := tk4 }) q4 rm o a4 e4 fun b h5 tk5 al5 st5 k5 a5 e5 q5 => ?_
    cases b with
    | false =>
      simp only [Bool.false_eq_true, if_false] at q5 ⊢
      exact fin (k4.trans (toL k5)) a5 e5 q5
    | true =>
      simp only [if_true] at q5 ⊢
      have hD5 : al5[k0]? = some D := k5.addr _ _ (k4.addr _ _ (ka2 _ _ hD))
      refine wpAny_mono (q5 A env { s with heap := h5, toks := tk5 } al5 rm o a5 e5 hD5) (fun _ s6 h6 => ?_) fun _ _ f => f
      obtain ⟨h6, tk6, al6, st6, rho6, rfl, k6, a6, e6, q6⟩ := h6
      exact fin ((k4.trans (toL k5)).trans k6) a6 e6 q6
end
end Mine
end

-- MComp3
section
set_option maxRecDepth 100000
namespace Mine
open PySem PySem.W PyProof.Rows

section
variable {C : Cx} {n : Nat} {sc : Scope} {rho : Vars} {st : Sto}

theorem EM_more {elt : Expr} {gens : List Comprehension} {scope : Scope} {pos : Pos} {d : Nat} {D : Addr} {target2 iter2 : Expr} {ifs2 : List Expr} {k0 : Nat} {tt : Bool} {Q : Vars → Sto → Prop}
    (hg : gens[d + 1]? = some ⟨target2, iter2, ifs2, 0⟩) (hn : gens[d + 2]? = none) (htt : tt = true → ∃ elts k p, target2 = .Tuple elts k p) (hs : ∀ env x, foldedSetIterable iter2 env x = pure x)
    (h : JI C n sc tt iter2 rho st fun items st1 => ∃ J : Nat → Vars → Sto → Prop, J 0 rho st1 ∧
      (∀ k x rho' st', items[k]? = some x → J k rho' st' → JL C n sc target2 x rho' st' fun rho2 st2 => Tests C n sc ifs2 rho2 st2 fun b st3 => if b = true then EM C n sc D k0 (emitB elt (.ref D)) rho2 st3 (J (k + 1)) else J (k + 1) rho2 st3) ∧
      (∀ rho' st', J items.length rho' st' → Q rho' st')) : EM C n sc D k0 (nextB (.ListComp elt gens scope pos) d iter2 (.ref D)) rho st Q := by
  intro A env s al rm o a e hD
  unfold nextB
  refine wpAny_bind (wpAny_mono (h A env s al rm o a e) (fun v s1 hv => ?_) fun _ _ f => f)
  refine wpAny_bind (wpAny_standAt ?_)
  refine wpAny_bind (wpAny_of_eq (hs env v) ?_)
  refine wpAny_bind (wpAny_holding (wpAny_mono hv (fun it s2 hh => ?_) fun _ _ f => f))
  obtain ⟨h1, tk1, al1, st1, I, ws, items, rfl, rfl, k1, a1, e1, hws, its, J, j0, step, done⟩ := hh
  have hb0 : ∀ b ∈ ws, C.h0.get? b = none := fun b hb => by
    cases g : C.h0.get? b with
    | none => rfl
    | some ob => have := a.base _ _ g; rw [hws b hb] at this; cases this
  refine wpAny_bind (wpAny_runOwn ?_)
  have hloop : codeAny C.M (A.mark none) (.compLoop (.ListComp elt gens scope pos) (d + 1) (.ref I) (.ref D) env) (fun r s' => match r with
      | .ok _ => wpAny C.M A (pure PUnit.unit : Sem Unit) (JLP C A.handled env al st Q s) (fun _ _ => False) s'
      | .error e => cameBackBy C.M A env (fun _ _ => False) e s') { s with heap := h1, toks := tk1 } := by
    refine codeAny_mono (comp_loop (B := emitB elt (.ref D)) (A := A) (turn_last hg hn) htt rm o a1 e1 (k1.addr _ _ hD) its hb0 J j0 step) fun r s' hr => ?_
    obtain ⟨rfl, h2, tk2, al2, st2, rho2, rfl, hD2, ka2, k2, a2, e2, q2⟩ := hr
    refine wpAny_pure ⟨h2, tk2, al2, st2, rho2, rfl, ⟨fun k x q => ka2 k x (k1.addr k x q), fun b ob g nl n1 => ?_⟩, a2, e2, done _ _ q2⟩
    have q := k1.keep b ob g nl
    exact k2 b ob (fun hm => by rw [hws b hm] at g; cases g) q.1 q.2 n1
  exact codeAny_start hg hloop (it_self (s := { s with heap := h1, toks := tk1 }) its hloop)

/-- the end of a comprehension, before its variables are let go -/
structure CEnd (C : Cx) (env : Env) (rho : Vars) (hd : Option Value) (ws : List Addr) (al : List Addr) (st : Sto) (h : Heap) (L D : Addr) (al' : List Addr) (st' : Sto) (h' : Heap) : Prop where
  new : h.get? L = none
  newL : C.h0.get? L = none
  ns : ∃ m, h'.Ns L m
  acc : al'[st.length]? = some D
  addr : ∀ (k : Nat) (x : Addr), al[k]? = some x → al'[k]? = some x
  keep : ∀ b o, b ∉ ws → h.get? b = some o → ¬ Live al st b → h'.get? b = some o ∧ ¬ Live al' st' b
  amb : Amb C hd al' st' h'
  env : ∀ al2 st2, (∀ (k : Nat) (x : Addr), al[k]? = some x → al2[k]? = some x) → (∀ b, Live al2 st2 b → Live al' st' b) → EnvSt C env al2 st2 rho h'

theorem comp_block {elt : Expr} {gens : List Comprehension} {scope : Scope} {pos : Pos} {I : Addr} {env : Env} {A : Around} {s : Shared} {al : List Addr} {target iter : Expr} {ifs : List Expr} {B : Value → Env → Sem Unit} {tt : Bool} {E : Value → Shared → Prop}
    {RR : Value → Addr → Result → Shared → Prop} {items : List PV} {ws : List Addr}
    (hg : gens[0]? = some ⟨target, iter, ifs, 0⟩)
    (heq : ∀ it acc env, compTurn (.ListComp elt gens scope pos) 0 it acc env = coreTurn iter target ifs it env (B acc env) (.compLoop (.ListComp elt gens scope pos) 0 it acc env))
    (htt : tt = true → ∃ elts k p, target = .Tuple elts k p) (hc : CompOk scope sc) (rm : Room n A) (o : EnvOk sc env) (a : Amb C A.handled al st s.heap) (e : EnvSt C env al st rho s.heap)
    (its : ItSt C.calm tt al (Live al st) s.heap ws I items) (hb0 : ∀ b ∈ ws, C.h0.get? b = none)
    (J : Nat → Vars → Sto → Prop) (j0 : J 0 (compVars scope sc rho) (st ++ [some []]))
    (step : ∀ D k x rho' st', items[k]? = some x → J k rho' st' → JL C n (relS scope sc) target x rho' st' fun rho2 st2 => Tests C n (relS scope sc) ifs rho2 st2 fun b st3 => if b = true then EM C n (relS scope sc) D st.length (B (.ref D)) rho2 st3 (J (k + 1)) else J (k + 1) rho2 st3)
    (hRR : ∀ D L h' tk al' st' rho', CEnd C env rho A.handled ws al st s.heap L D al' st' h' → J items.length rho' st' → RR (.ref D) L (.ok .next) { s with heap := h', toks := tk }) :
    wpAny C.M A (newList []) (fun acc s₃ => wpAny C.M A (newFunctionEnv scope env.globals (closOf env.cells scope.names []) [] env.qual none .none (some env)) (fun cenv s₄ =>
      codeAny C.M A (.compStart (.ListComp elt gens scope pos) 0 (.ref I) acc { cenv with scope := relabel scope env }) (RR acc cenv.locals) s₄) E s₃) E s := by
  refine wpAny_newObj_type ?_
  have pm := push_mut (vs := []) a .nil rfl
  have e1 := e.kept a.muts pm.1
  have hge : ∀ b, s.heap.objs.size ≤ b → s.heap.get? b = none := fun b hb => by
    cases g : s.heap.get? b with
    | none => rfl
    | some ob => exact absurd (Heap.lt_size g) (Nat.not_lt.mpr hb)
  have its1 : ItSt C.calm tt (al ++ [s.heap.objs.size]) (Live (al ++ [s.heap.objs.size]) (st ++ [some []])) (s.heap.push { cls := .type "list", data := .seq ([] : List Value).toArray }) ws I items :=
    its.mono (fun b o g _ nl => pm.1.keep b o g nl) (fun b o g _ _ => Heap.get?_push_of_some _ g) pm.1.addr
  obtain ⟨k1, a1, hD1⟩ := pm
  generalize hH : s.heap.push { cls := .type "list", data := .seq ([] : List Value).toArray } = H at k1 a1 e1 its1
  have hHs : H.objs.size = s.heap.objs.size + 1 := by rw [← hH, Heap.size_push]
  refine wpAny_newFunctionEnv (fun x hx => hc.noCell x hx) (by intro y hy; simp at hy) (fun h2 hns2 hsb2 => ?_) hc.kind
  dsimp only at hns2 hsb2 ⊢
  have kg : ∀ b ob, H.get? b = some ob → h2.get? b = some ob := fun b ob g => (hsb2.2 b (Nat.ne_of_lt (Heap.lt_size g))).trans (Heap.get?_push_of_some _ g)
  have a2 := a1.grow kg
  have k2 : Kept (al ++ [s.heap.objs.size]) (st ++ [some []]) (al ++ [s.heap.objs.size]) (st ++ [some []]) H h2 := .grow kg
  have e2 := e1.kept a1.muts k2
  have hL0 : C.h0.get? H.objs.size = none := by
    cases g : C.h0.get? H.objs.size with
    | none => rfl
    | some ob => have := a1.base _ _ g; rw [get_size_none] at this; cases this
  have its2 := its1.mono (fun b o g _ nl => k2.keep b o g nl) (fun b o g _ _ => kg b o g) k2.addr
  have eC : EnvSt C (compEnvC scope (closOf env.cells scope.names []) H.objs.size env) (al ++ [s.heap.objs.size]) (st ++ [some []]) (compVars scope sc rho) h2 := by
    refine comp_envSt o hc e2 ?_ hL0
    have q := hns2
    simpa using q
  have okC := comp_env o hc H.objs.size
  have hLs : s.heap.get? H.objs.size = none := hge _ (by rw [hHs]; exact Nat.le_succ _)
  have hloop : codeAny C.M A (.compLoop (.ListComp elt gens scope pos) 0 (.ref I) (.ref s.heap.objs.size) (compEnvC scope (closOf env.cells scope.names []) H.objs.size env)) (RR (.ref s.heap.objs.size) H.objs.size) { s with heap := h2, toks := s.toks } := by
    refine codeAny_mono (comp_loop (B := B (.ref s.heap.objs.size)) (s := { s with heap := h2, toks := s.toks }) (heq _ _ _) htt rm okC a2 eC hD1 its2 hb0 J j0 (step s.heap.objs.size)) fun r s' hr => ?_
    obtain ⟨rfl, h3, tk3, al3, st3, rho3, rfl, hD3, ka3, k3, a3, e3, q3⟩ := hr
    have hcell : ∀ x d, (x, d) ∈ closOf env.cells scope.names [] → env.cells.lookup x = some d := fun x d hm => by
      rcases closOf_mem _ _ hm with q | ⟨q1, q2⟩
      · cases q
      · obtain ⟨d', hd'⟩ := Option.isSome_iff_exists.mp (o.kinds x (hc.free _ q1 rfl))
        rw [hd'] at q2; rw [hd', q2]; rfl
    have kk : ∀ b ob, b ∉ ws → s.heap.get? b = some ob → ¬ Live al st b → h3.get? b = some ob ∧ ¬ Live al3 st3 b := fun b ob hb g nl => by
      have q1 := k1.keep b ob g nl
      have q2 := k2.keep b ob q1.1 q1.2
      refine k3 b ob hb q2.1 q2.2 fun q => ?_
      have := Heap.lt_size g
      rw [show b = H.objs.size from q, hHs] at this
      exact Nat.lt_irrefl _ (Nat.lt_of_succ_lt this)
    refine hRR _ _ h3 tk3 al3 st3 rho3 ⟨hLs, hL0, let ⟨m, n, _⟩ := e3.locs; ⟨m, n⟩, hD3, fun k x q => ka3 k x (k1.addr k x q), kk, a3, fun al2 st2 ha2 hl2 => ?_⟩ q3
    -- the frame's own names
    have nws : ∀ {b : Addr} {ob : Obj}, s.heap.get? b = some ob → ¬ ItObj ob → b ∉ ws := fun g hn hm => by
      obtain ⟨ob', g', i⟩ := its.objs _ hm
      rw [g] at g'; cases g'; exact hn i
    have nlv : ∀ {b : Addr} {ob : Obj}, s.heap.get? b = some ob → (∀ its n, ob.data ≠ .seq its n) → ¬ Live al st b := fun {b ob} g hn lv => by
      obtain ⟨its, m, ii⟩ := a.muts.live lv
      unfold IsL at ii; rw [g] at ii; cases ii; exact hn _ _ rfl
    have kv : ∀ {b : Addr} {ob : Obj}, s.heap.get? b = some ob → ¬ NotVar ob → h3.get? b = some ob := fun {b ob} g hn => (kk b ob (nws g fun i => hn i.1) g (nlv g fun its m q => hn ⟨by rw [q]; nofun, by rw [q]; nofun⟩)).1
    have rp : ∀ {v : Value} {p : PV}, Rep al (Live al st) s.heap v p → Rep al2 (Live al2 st2) h3 v p := fun r => Rep.mono (fun b ob g ro nl => let q := kk b ob (nws g fun i => i.2.2.1 ro) g nl; ⟨q.1, fun l => q.2 (hl2 b l)⟩) ha2 r
    refine ⟨?_, fun x c hx => ?_, e.apart, fun x c hx => ?_, e.newL, e.newC⟩
    · obtain ⟨m, ⟨ob, es, ep, g1, g2, g3⟩, l⟩ := e.locs
      exact ⟨m, ⟨ob, es, ep, kv g1 fun nv => nv.1 _ _ g2, g2, g3⟩, fun x p hx hp => let ⟨v, hv, r⟩ := l x p hx hp; ⟨v, hv, rp r⟩⟩
    · obtain ⟨ov, ⟨ob, g1, g2⟩, l⟩ := e.cells x c hx
      exact ⟨ov, ⟨ob, kv g1 fun nv => nv.2 _ g2, g2⟩, fun p hp => let ⟨v, hv, r⟩ := l p hp; ⟨v, hv, rp r⟩⟩
    · obtain ⟨ov, ob, g1, g2⟩ := e.isCells x c hx
      exact ⟨ov, ob, kv g1 fun nv => nv.2 _ g2, g2⟩
  show codeAny C.M A (.compStart (.ListComp elt gens scope pos) 0 (.ref I) (.ref s.heap.objs.size) (compEnvC scope (closOf env.cells scope.names []) H.objs.size env)) (RR (.ref s.heap.objs.size) H.objs.size) { s with heap := h2, toks := s.toks }
  refine codeAny_start hg hloop (it_self (s := { s with heap := h2, toks := s.toks }) its2 hloop)

theorem but_L {hd : Option Value} {env : Env} {al : List Addr} {h h' : Heap} {L : Addr} (a : Amb C hd al st h) (e : EnvSt C env al st rho h) (hn : ∃ m, h.Ns L m) (hL : L ≠ env.locals) (hc : ∀ x, (x, L) ∉ env.cells) (h0 : C.h0.get? L = none)
    (hs : Heap.SameBut L h h') : Amb C hd al st h' ∧ EnvSt C env al st rho h' ∧ ∀ v p, Rep al (Live al st) h v p → Rep al (Live al st) h' v p := by
  obtain ⟨m, oL, es, ep, gL, dL, _⟩ := hn
  have nb : ∀ {b : Addr} {o : Obj}, h.get? b = some o → NotVar o → h'.get? b = some o := fun {b o} g nv => (hs.2 b (fun q => by subst q; rw [gL] at g; cases g; exact nv.1 _ _ dL)).trans g
  have ne : ∀ {b : Addr} {o : Obj}, b ≠ L → h.get? b = some o → h'.get? b = some o := fun hb g => (hs.2 _ hb).trans g
  have rp : ∀ v p, Rep al (Live al st) h v p → Rep al (Live al st) h' v p := fun v p r => Rep.mono (fun b o g ro nl => ⟨nb g ro.notVar, nl⟩) (fun _ _ q => q) r
  have rps : ∀ v p, Reps al (Live al st) h v p → Reps al (Live al st) h' v p := fun v p r => Reps.mono (fun b o g ro nl => ⟨nb g ro.notVar, nl⟩) (fun _ _ q => q) r
  refine ⟨⟨fun b o g => ne (fun q => by rw [q, h0] at g; cases g) (a.base b o g), a.hand.keep fun b o g _ nv _ => nb g nv, ⟨a.muts.len, a.muts.nodup, fun x hx => ⟨(a.muts.fresh x hx).1, ?_⟩, fun i l q => ?_⟩⟩, ⟨?_, fun x c hx => ?_, e.apart, fun x c hx => ?_, e.newL, e.newC⟩, rp⟩
  · obtain ⟨_, o, g, its, k, hd⟩ := a.muts.fresh x hx
    exact ⟨o, nb g ⟨by rw [hd]; nofun, by rw [hd]; nofun⟩, its, k, hd⟩
  · obtain ⟨x, vs, k, e1, e2, e3, e4⟩ := a.muts.is i l q
    exact ⟨x, vs, k, e1, nb e2 ⟨nofun, nofun⟩, rps _ _ e3, e4⟩
  · obtain ⟨m, ⟨ob, es, ep, g1, g2, g3⟩, l⟩ := e.locs
    exact ⟨m, ⟨ob, es, ep, ne (Ne.symm hL) g1, g2, g3⟩, fun x p hx hp => let ⟨v, hv, r⟩ := l x p hx hp; ⟨v, hv, rp _ _ r⟩⟩
  · obtain ⟨ov, ⟨ob, g1, g2⟩, l⟩ := e.cells x c hx
    exact ⟨ov, ⟨ob, ne (fun q => hc x (q ▸ mem_of_lookup hx)) g1, g2⟩, fun p hp => let ⟨v, hv, r⟩ := l p hp; ⟨v, hv, rp _ _ r⟩⟩
  · obtain ⟨ov, ob, g1, g2⟩ := e.isCells x c hx
    exact ⟨ov, ob, ne (fun q => hc x (q ▸ hx)) g1, g2⟩

/-- a comprehension's list, as it is handed on -/
theorem comp_fin {env : Env} {hd : Option Value} {ws al al' : List Addr} {h h' : Heap} {L D : Addr} {l : List PV} (a : Amb C hd al st h) (ce : CEnd C env rho hd ws al st h L D al' (st ++ [some l]) h') :
    ∃ al2, Amb C hd al2 st h' ∧ EnvSt C env al2 st rho h' ∧ Rep al2 (Live al2 st) h' (.ref D) (.list l) ∧ (∀ (k : Nat) (x : Addr), al[k]? = some x → al2[k]? = some x) ∧
      ∀ b o, b ∉ ws → h.get? b = some o → ¬ Live al st b → h'.get? b = some o ∧ ¬ Live al2 st b := by
  have hk : (st ++ [some l])[st.length]? = some (some l) := by simp
  obtain ⟨x, hx, k1, a1, r1⟩ := freeze ce.amb hk
  rw [ce.acc] at hx; cases hx
  have e1 : (st ++ [some l]).set st.length none = st ++ [none] := by simp
  rw [e1] at k1 a1 r1
  have e2 : (st ++ [none]).take st.length = st := by simp
  obtain ⟨_, vs, m, _, _, _, e4⟩ := ce.amb.muts.is _ _ hk
  have a2 := amb_take a1 st.length
  have r2 := rep_take (m := st.length) r1 (by simpa [noMut] using e4)
  rw [e2] at a2 r2
  have hlive : ∀ b, Live (al'.take st.length) st b → Live al' (st ++ [some l]) b := fun b lv => by
    obtain ⟨i, q, g1, g2⟩ := lv
    exact ⟨i, q, by rw [List.getElem?_append_left (lt_of_get g1)]; exact g1, (take_get g2).1⟩
  have haddr : ∀ (k : Nat) (x : Addr), al[k]? = some x → (al'.take st.length)[k]? = some x := fun k x q => by
    have := lt_of_get q
    rw [List.getElem?_take_of_lt (by rw [← a.muts.len]; exact this)]; exact ce.addr k x q
  exact ⟨al'.take st.length, a2, ce.env _ _ haddr hlive, r2, haddr, fun b o hb g nl => let q := ce.keep b o hb g nl; ⟨q.1, fun lv => q.2 (hlive b lv)⟩⟩

theorem notFrame {env : Env} {al : List Addr} {h : Heap} {L : Addr} (e : EnvSt C env al st rho h) (hL : h.get? L = none) : L ≠ env.locals ∧ ∀ x, (x, L) ∉ env.cells := by
  refine ⟨fun q => ?_, fun x hx => ?_⟩
  · obtain ⟨m, ⟨ob, es, ep, g1, _⟩, _⟩ := e.locs
    rw [← q, hL] at g1; cases g1
  · obtain ⟨ov, ob, g1, _⟩ := e.isCells x L hx
    rw [hL] at g1; cases g1

/-- the second clause's items -/
inductive Turn2 (C : Cx) (n : Nat) (sc : Scope) (target2 : Expr) (ifs2 : List Expr) (elt : Expr) (st1 : Sto) (l : List PV) (K : Vars → List PV → Prop) (rho2 : Vars) (items : List PV) (st4 : Sto) : Prop
  | mk (e : st4 = st1 ++ [some l]) (J : Nat → Vars → List PV → Prop) (j0 : J 0 rho2 l)
    (step : ∀ k y rho' l' (K2 : Vars → List PV → Prop), (∀ r m, J (k + 1) r m → K2 r m) → items[k]? = some y → J k rho' l' → JL C n sc target2 y rho' (st1 ++ [some l']) fun rho3 st5 => Tests C n sc ifs2 rho3 st5 fun b st6 =>
      if b = true then EV C n sc elt rho3 st6 fun p st7 => noMut p = true ∧ l'.length ≤ 1000000 ∧ st7 = st1 ++ [some l'] ∧ K2 rho3 (l' ++ [p]) else st6 = st1 ++ [some l'] ∧ K2 rho3 l')
    (done : ∀ rho' l', J items.length rho' l' → K rho' l')
/-- what a turn over an item does: the item x, the list so far, and then -/
noncomputable def CTurn (C : Cx) (n : Nat) (sc : Scope) (gens : List Comprehension) (elt : Expr) (st1 : Sto) (x : PV) (rho : Vars) (l : List PV) (K : Vars → List PV → Prop) : Prop := match gens with
  | [⟨target, _, ifs, 0⟩] => JL C n sc target x rho (st1 ++ [some l]) fun rho2 st2 => Tests C n sc ifs rho2 st2 fun b st3 =>
      if b = true then EV C n sc elt rho2 st3 fun p st4 => noMut p = true ∧ l.length ≤ 1000000 ∧ st4 = st1 ++ [some l] ∧ K rho2 (l ++ [p]) else st3 = st1 ++ [some l] ∧ K rho2 l
  | [⟨target, _, ifs, 0⟩, ⟨target2, iter2, ifs2, 0⟩] => JL C n sc target x rho (st1 ++ [some l]) fun rho2 st2 => Tests C n sc ifs rho2 st2 fun b st3 =>
      if b = true then JI C n sc false iter2 rho2 st3 fun items st4 => Turn2 C n sc target2 ifs2 elt st1 l K rho2 items st4 else st3 = st1 ++ [some l] ∧ K rho2 l
  | _ => False
end
end Mine
end

-- MComp4
section
set_option maxRecDepth 100000
namespace Mine
open PySem PySem.W PyProof.Rows

section
variable {C : Cx} {n : Nat} {sc : Scope} {rho : Vars} {st : Sto}

theorem JL.mono {target : Expr} {p : PV} {Q Q' : Vars → Sto → Prop} (j : JL C n sc target p rho st Q) (h : ∀ r s, Q r s → Q' r s) : JL C n sc target p rho st Q' := fun A env s al v r o a x rv =>
  wpAny_mono (j A env s al v r o a x rv) (fun _ _ ⟨h', tk, al', st', rho', e, q1, q2, q3, q4⟩ => ⟨h', tk, al', st', rho', e, q1, q2, q3, h _ _ q4⟩) fun _ _ f => f
theorem Tests.mono {ifs : List Expr} {K K' : Bool → Sto → Prop} (t : Tests C n sc ifs rho st K) (h : ∀ b s, K b s → K' b s) : Tests C n sc ifs rho st K' := by
  unfold Tests at t ⊢
  match ifs, t with
  | [], t => exact h _ _ t
  | [c], t => exact JE.mono t h
  | _ :: _ :: _, t => exact t.elim

theorem emit_step {elt : Expr} {D : Addr} {st1 st3 : Sto} {l : List PV} {K : Vars → List PV → Prop} (hs : EV C n sc elt rho st3 fun p st4 => noMut p = true ∧ l.length ≤ 1000000 ∧ st4 = st1 ++ [some l] ∧ K rho (l ++ [p])) :
    EM C n sc D st1.length (emitB elt (.ref D)) rho st3 (fun rho' st' => ∃ l', st' = st1 ++ [some l'] ∧ K rho' l') := by
  refine EM_last (JE.mono hs fun p st4 hh => ?_)
  obtain ⟨h1, h2, rfl, h4⟩ := hh
  exact ⟨h1, l, by simp, h2, l ++ [p], by simp, h4⟩

theorem cturn_step {gens : List Comprehension} {elt : Expr} {scope : Scope} {pos : Pos} {target iter : Expr} {ifs : List Expr}
    (hq : gens = [⟨target, iter, ifs, 0⟩] ∨ ∃ t2 i2 f2, gens = [⟨target, iter, ifs, 0⟩, ⟨t2, i2, f2, 0⟩] ∧ ∀ env x, foldedSetIterable i2 env x = pure x) :
    ∃ B : Value → Env → Sem Unit, (∀ it acc env, compTurn (.ListComp elt gens scope pos) 0 it acc env = coreTurn iter target ifs it env (B acc env) (.compLoop (.ListComp elt gens scope pos) 0 it acc env)) ∧
      ∀ (sc : Scope) D x rho l st1 K, CTurn C n sc gens elt st1 x rho l K → JL C n sc target x rho (st1 ++ [some l]) fun rho2 st2 => Tests C n sc ifs rho2 st2 fun b st3 =>
        if b = true then EM C n sc D st1.length (B (.ref D)) rho2 st3 (fun rho' st' => ∃ l', st' = st1 ++ [some l'] ∧ K rho' l') else ∃ l', st3 = st1 ++ [some l'] ∧ K rho2 l' := by
  rcases hq with rfl | ⟨t2, i2, f2, rfl, hfs⟩
  · refine ⟨emitB elt, fun it acc env => turn_last (by rfl) (by rfl), fun sc D x rho l st1 K h => ?_⟩
    refine JL.mono h fun rho2 st2 h2 => Tests.mono h2 fun b st3 h3 => ?_
    cases b with
    | false => simp only [Bool.false_eq_true, if_false] at h3 ⊢; exact ⟨l, h3⟩
    | true => simp only [if_true] at h3 ⊢; exact emit_step h3
  · refine ⟨nextB (.ListComp elt [⟨target, iter, ifs, 0⟩, ⟨t2, i2, f2, 0⟩] scope pos) 0 i2, fun it acc env => turn_more (by rfl) (by rfl), fun sc D x rho l st1 K h => ?_⟩
    refine JL.mono h fun rho2 st2 h2 => Tests.mono h2 fun b st3 h3 => ?_
    cases b with
    | false => simp only [Bool.false_eq_true, if_false] at h3 ⊢; exact ⟨l, h3⟩
    | true =>
      simp only [if_true] at h3 ⊢
      refine EM_more (target2 := t2) (ifs2 := f2) (tt := false) (by rfl) (by rfl) (by nofun) hfs (JI.mono h3 fun items st4 h4 => ?_)
      obtain ⟨rfl, J, j0, step, done⟩ := h4
      refine ⟨fun k rho' st' => ∃ l', st' = st1 ++ [some l'] ∧ J k rho' l', ⟨l, rfl, j0⟩, ?_, ?_⟩
      · rintro k y rho' st' hy ⟨l', rfl, j⟩
        refine JL.mono (step k y rho' l' _ (fun _ _ q => q) hy j) fun rho3 st5 h5 => Tests.mono h5 fun b st6 h6 => ?_
        cases b with
        | false => simp only [Bool.false_eq_true, if_false] at h6 ⊢; exact ⟨l', h6⟩
        | true => simp only [if_true] at h6 ⊢; exact emit_step h6
      · rintro rho' st' ⟨l', rfl, j⟩
        exact ⟨l', rfl, done _ _ j⟩

/-- what a comprehension asks -/
inductive CAsk (C : Cx) (n : Nat) (sc scope : Scope) (gens : List Comprehension) (elt : Expr) (rho : Vars) (st : Sto) (items : List PV) (Q : PV → Prop) : Prop
  | mk (I : Nat → Vars → List PV → Prop) (h0 : I 0 (compVars scope sc rho) [])
    (step : ∀ k x rho' l (K : Vars → List PV → Prop), (∀ r l', I (k + 1) r l' → K r l') → items[k]? = some x → I k rho' l → CTurn C n (relS scope sc) gens elt st x rho' l K) (done : ∀ rho' l, I items.length rho' l → Q (.list l))

theorem names_local {scope : Scope} (hc : CompOk scope sc) : ∀ x ∈ scope.names, x.2 = .local → scope.names.lookup x.1 = some .local := fun x hx hl => by
  have : (x.1, NameKind.local) ∈ scope.names := by rw [← hl]; exact hx
  exact mem_lookup_nodup hc.nodup this

theorem comp_any {gens : List Comprehension} {elt : Expr} {scope : Scope} {pos p2 : Pos} {target iter : Expr} {ifs : List Expr} {tt : Bool} {A : Around} {env : Env} {s : Shared} {al : List Addr} {E : Value → Shared → Prop} {Q : Value → Shared → Prop}
    {use : Option (Value → Sem Unit)} {P : PV → Sto → Prop}
    (hq : gens = [⟨target, iter, ifs, 0⟩] ∨ ∃ t2 i2 f2, gens = [⟨target, iter, ifs, 0⟩, ⟨t2, i2, f2, 0⟩] ∧ ∀ env x, foldedSetIterable i2 env x = pure x)
    (hs : ∀ env x, foldedSetIterable iter env x = pure x) (htt : tt = true → ∃ elts k p, target = .Tuple elts k p) (hc : CompOk scope sc)
    (rm : Room n A) (o : EnvOk sc env) (a : Amb C A.handled al st s.heap) (e : EnvSt C env al st rho s.heap)
    (h : JI C n sc tt iter rho st fun items st1 => CAsk C n sc scope gens elt rho st1 items fun p => P p st1)
    (post : ∀ D L h2 tk al2 st1 p, (∃ m, h2.Ns L m) → L ≠ env.locals → (∀ x, (x, L) ∉ env.cells) → C.h0.get? L = none → s.heap.get? L = none → Kept al st al2 st1 s.heap h2 → Amb C A.handled al2 st1 h2 → EnvSt C env al2 st1 rho h2 → Rep al2 (Live al2 st1) h2 (.ref D) p → P p st1 →
      compPost C.M A E use Q (.ref D) L (.ok .next) { s with heap := h2, toks := tk }) :
    wpAny C.M A (comprehension (.ListComp elt gens scope pos) scope env p2 (newList []) false (eval iter env) use) Q E s := by
  obtain ⟨B, heq, hB⟩ := cturn_step (C := C) (n := n) (elt := elt) (scope := scope) (pos := pos) hq
  obtain ⟨g0, gr, hg⟩ : ∃ g0 gr, gens = g0 :: gr ∧ g0 = ⟨target, iter, ifs, 0⟩ := by
    rcases hq with rfl | ⟨t2, i2, f2, rfl, _⟩ <;> exact ⟨_, _, rfl, rfl⟩
  have hg0 : gens[0]? = some ⟨target, iter, ifs, 0⟩ := by rw [hg.1, hg.2]; rfl
  refine wpAny_comprehension_free (g := g0) (gs := gr) (cl := closOf env.cells scope.names []) (show clausesOf _ = _ from hg.1) (by rw [hg.2]; exact hs env) (closureFor_eq fun y hy hf => ?_) hc.kind (names_local hc) ?_
  · exact o.kinds _ (hc.free y hy hf)
  refine wpAny_mono (h A env s al rm o a e) (fun v s1 hv => wpAny_mono hv (fun it s2 hh => ?_) fun _ _ f => f.elim) fun _ _ f => f.elim
  obtain ⟨h1, tk1, al1, st1, I, ws, items, rfl, rfl, k1, a1, e1, hws, its, J, j0, step, done⟩ := hh
  have hb0 : ∀ b ∈ ws, C.h0.get? b = none := fun b hb => by
    cases g : C.h0.get? b with
    | none => rfl
    | some ob => have := a.base _ _ g; rw [hws b hb] at this; cases this
  refine comp_block (s := { s with heap := h1, toks := tk1 }) (RR := fun acc L => compPost C.M A E use Q acc L) (B := B) hg0 heq htt hc rm o a1 e1 its hb0 (fun k rho' st' => ∃ l, st' = st1 ++ [some l] ∧ J k rho' l) ⟨[], rfl, j0⟩ ?_ ?_
  · rintro D k x rho' st' hx ⟨l, rfl, j⟩
    exact hB _ D x rho' l st1 _ (step k x rho' l _ (fun _ _ q => q) hx j)
  · rintro D L h2 tk2 al2 st2 rho2 ce ⟨l, rfl, j⟩
    obtain ⟨al3, a3, e3, r3, ha3, k3⟩ := comp_fin a1 ce
    have nf := notFrame e1 ce.new
    have hLs : s.heap.get? L = none := fresh_of (hd' := A.handled) a1 k1 ce.new
    exact post D L h2 tk2 al3 st1 (.list l) ce.ns nf.1 nf.2 ce.newL hLs ⟨fun k x q => ha3 k x (k1.addr k x q), fun b ob g nl => let q := k1.keep b ob g nl; k3 b ob (fun hm => by rw [hws b hm] at g; cases g) q.1 q.2⟩ a3 e3 r3 (done _ _ j)

theorem EV_comp {gens : List Comprehension} {elt : Expr} {scope : Scope} {pos : Pos} {target iter : Expr} {ifs : List Expr} {tt : Bool} {Q : PV → Sto → Prop} 
    (h : JI C n sc tt iter rho st fun items st1 => CAsk C n sc scope gens elt rho st1 items fun p => Q p st1)
    (hq : gens = [⟨target, iter, ifs, 0⟩] ∨ ∃ t2 i2 f2, gens = [⟨target, iter, ifs, 0⟩, ⟨t2, i2, f2, 0⟩] ∧ ∀ env x, foldedSetIterable i2 env x = pure x)
    (hs : ∀ env x, foldedSetIterable iter env x = pure x) (htt : tt = true → ∃ elts k p, target = .Tuple elts k p) (hc : CompOk scope sc) :
    EV C n sc (.ListComp elt gens scope pos) rho st Q := by
  intro A env s al rm o a e
  rw [eval_ListComp]
  have hfa : firstAsync gens = false := by rcases hq with rfl | ⟨t2, i2, f2, rfl, _⟩ <;> rfl
  have hfi : firstIter gens env = eval iter env := by rcases hq with rfl | ⟨t2, i2, f2, rfl, _⟩ <;> rfl
  rw [hfa, hfi]
  refine comp_any (use := none) hq hs htt hc rm o a e h fun D L h2 tk2 al2 st1 p hn hL hcl h0 hLs k2 a2 e2 r2 q2 => ?_
  refine ⟨hn.choose, hn.choose_spec, fun h3 hs3 => ?_⟩
  obtain ⟨a3, e3, rp⟩ := but_L a2 e2 hn hL hcl h0 hs3
  exact ⟨h3, tk2, al2, st1, p, rfl, ⟨k2.addr, fun b ob g nl => let q := k2.keep b ob g nl; ⟨(hs3.2 b fun z => by rw [z, hLs] at g; cases g).trans q.1, q.2⟩⟩, a3, e3, rp _ _ r2, q2⟩

theorem EX_compUse {gens : List Comprehension} {elt : Expr} {scope : Scope} {x : Str} {px pos spos : Pos} {target iter : Expr} {ifs : List Expr} {tt : Bool} {Q : PFlow → Vars → Sto → Prop} 
    (h : JI C n sc tt iter rho st fun items st1 => CAsk C n sc scope gens elt rho st1 items fun p => Q .next (upd rho x p) st1)
    (hq : gens = [⟨target, iter, ifs, 0⟩] ∨ ∃ t2 i2 f2, gens = [⟨target, iter, ifs, 0⟩, ⟨t2, i2, f2, 0⟩] ∧ ∀ env x, foldedSetIterable i2 env x = pure x)
    (hs : ∀ env x, foldedSetIterable iter env x = pure x) (htt : tt = true → ∃ elts k p, target = .Tuple elts k p) (hc : CompOk scope sc) (hx : sc.names.lookup x = some .local)
    (hsw : ∀ env, env.scope = sc → swapsWith (.ListComp elt gens scope pos) (some (.Name x px)) spos.line env = pure true) :
    EX C n sc (.Assign [.Name x px] (.ListComp elt gens scope pos) spos) rho st Q := by
  intro A env s al rm o a e
  rw [exec_Assign_Name_used _ _ _ _ (hsw env o.scope)]
  have hfa : firstAsync gens = false := by rcases hq with rfl | ⟨t2, i2, f2, rfl, _⟩ <;> rfl
  have hfi : firstIter gens env = eval iter env := by rcases hq with rfl | ⟨t2, i2, f2, rfl, _⟩ <;> rfl
  refine wpAny_bind (wpAny_standAt (wpAny_bind ?_))
  show wpAny _ A (do let _ ← comprehension (.ListComp elt gens scope pos) scope env (firstIterPos gens pos) (newList []) (firstAsync gens) (firstIter gens env) (some (assign (.Name x px) env))) _ _ s
  rw [hfa, hfi]
  refine wpAny_bind (wpAny_mono (comp_any (E := fun _ _ => False) (Q := fun _ => JSP C A.handled env al st RelF Q s .next)
    (use := some (assign (.Name x px) env)) hq hs htt hc rm o a e h fun D L h2 tk2 al2 st1 p hn hL hcl h0 hLs k2 a2 e2 r2 q2 => ?_) (fun _ s' hq => wpAny_pure (wpAny_pure hq)) fun _ _ f => f)
  show wpAny _ A (assign (.Name x px) env (.ref D)) _ _ _
  refine wpAny_assign_Name (store_ok (s := { s with heap := h2, toks := tk2 }) o a2 e2 r2 (.inl hx) fun h3 tk3 k3 a3 e3 => ?_)
  have hn3 : ∃ m, h3.Ns L m := by
    obtain ⟨m, ob, es, ep, g1, g2, g3⟩ := hn
    refine ⟨m, ob, es, ep, (k3.keep L ob g1 (fun lv => ?_) hL hcl).1, g2, g3⟩
    obtain ⟨its, k, ii⟩ := a2.muts.live lv
    unfold IsL at ii; rw [g1] at ii; cases ii; cases g2
  refine ⟨hn3.choose, hn3.choose_spec, fun h4 hs4 => ?_⟩
  obtain ⟨a4, e4, rp⟩ := but_L a3 e3 hn3 hL hcl h0 hs4
  have kk := k2.toS.trans k3
  exact ⟨h4, tk3, al2, st1, _, .next, rfl, ⟨kk.addr, fun b ob g nl n1 n2 => let q := kk.keep b ob g nl n1 n2; ⟨(hs4.2 b fun z => by rw [z, hLs] at g; cases g).trans q.1, q.2⟩⟩, a4, e4, .next, q2⟩

theorem ext_look {scope : Scope} {rho' : Vars} {x : Str} {p : PV} (h : Ext (compVars scope sc rho) rho') (hr : rho x = some p) (hk : ((relS scope sc).names.lookup x == some .cell) = true) : rho' x = some p :=
  h x p (by unfold compVars; rw [if_pos (by simpa using hk)]; exact hr)
end
end Mine
end

-- MFn
section
set_option maxRecDepth 100000
namespace Mine
open PySem PySem.W PyProof.Rows

section
variable {C : Cx} {n : Nat} {sc : Scope} {rho : Vars} {st : Sto}

theorem EV_repM {l r : Expr} {pos : Pos} {Q : PV → Sto → Prop} (h : EV C n sc l rho st fun p st1 => EV C n sc r rho st1 fun q st2 => ∃ x k, p = .list x ∧ q = .int k ∧ 0 ≤ k ∧ x.length * k.toNat ≤ 1000000 ∧ k ≤ 1000000 ∧ noMuts x = true ∧
      Q (.mut st2.length) (st2 ++ [some (List.replicate k.toNat x).flatten])) : EV C n sc (.BinOp l .Mult r pos) rho st Q := by
  intro A env s al rm o a e
  refine wpAny_BinOp (h.use rm o a e fun va h1 tk1 al1 st1 p k1 a1 e1 r1 q1 => q1.use (s := { s with heap := h1, toks := tk1 }) rm o a1 e1 fun vb h2 tk2 al2 st2 q k2 a2 e2 r2 q2 => ?_)
  obtain ⟨x, k, rfl, rfl, hk0, hk1, hk2, hm, q2⟩ := q2
  obtain ⟨u, rfl⟩ := r2.intOf
  obtain ⟨b, vs, m, rfl, i, hl, r⟩ := (k2.rep r1).listOf
  have e1' := r.length
  have e9 : vs.toArray.size = x.length := by simpa using e1'
  refine wpAny_binaryOp_repeat_ref (T := "list") (U := "int") (by decide) ⟨_, i, rfl⟩ (fun s' => typeIs_int s' k u) noFill_list_mul F.fills_int_mul F.slot_int_rmul repeat_list F.slot_int_index.lookup
    (call_meets F.slot_int_rmul (typeIs_int _ k u) F.entry_int_rmul (F.args_int_rmul_2 _ _) (int___rmul___int_list k u b vs.toArray m)
    ⟨i, rfl, ⟨_, i, rfl⟩, call_meets F.slot_list_mul ⟨_, i, rfl⟩ F.entry_list_mul (F.args_list_mul_2 _ _)
      (AutoListH.list___mul___list_int_3 b vs.toArray m k u (by simp [Builtin.List.listFitsIndex]; omega) (by rw [e9]; omega) (by simp only [Builtin.List.listTooLong, sizeLine_eq, decide_eq_true_eq, e9]; omega))
      ⟨i, ?_⟩⟩)
  have hp : IsL (h2.push { cls := .type "list", data := .seq (List.foldl (fun x1 x2 => x1 ++ x2) #[] (List.replicate (if vs.toArray.isEmpty = true then 0 else k.toNat) vs.toArray)) }) h2.objs.size (List.replicate k.toNat vs).flatten.toArray 0 := by
    have e : (List.replicate k.toNat vs).flatten.toArray = List.foldl (fun x1 x2 => x1 ++ x2) #[] (List.replicate (if vs.toArray.isEmpty = true then 0 else k.toNat) vs.toArray) := by
      rw [← Array.toList_inj, foldl_append_flatten]
      cases vs with
      | nil => simp
      | cons v w => simp
    rw [e]
    exact Heap.get?_push_size h2 rfl
  have hmm : noMuts (List.replicate k.toNat x).flatten = true := noMuts_all fun p hp => by
    obtain ⟨y, hy, hp⟩ := List.mem_flatten.mp hp
    rw [(List.mem_replicate.mp hy).2] at hp
    exact noMuts_mem hm p hp
  obtain ⟨x1, x2, x3⟩ := mut_at a2 (get_size_none _) (fun b o e => Heap.get?_push_of_some _ e) hp (r.rep k.toNat) hmm
  exact ⟨_, tk2, _, _, _, rfl, (k1.trans k2).trans x1, x2, e2.kept a2.muts x1, .mut x3, q2⟩

theorem cturn2 {target iter target2 iter2 elt : Expr} {ifs ifs2 : List Expr} {st1 : Sto} {x : PV} {l : List PV} {K : Vars → List PV → Prop}
    (h : JL C n sc target x rho (st1 ++ [some l]) fun rho2 st2 => Tests C n sc ifs rho2 st2 fun b st3 =>
      if b = true then JI C n sc false iter2 rho2 st3 fun items st4 => Turn2 C n sc target2 ifs2 elt st1 l K rho2 items st4 else st3 = st1 ++ [some l] ∧ K rho2 l) :
    CTurn C n sc [⟨target, iter, ifs, 0⟩, ⟨target2, iter2, ifs2, 0⟩] elt st1 x rho l K := h

theorem EX_append {ob elt : Expr} {apos pos spos : Pos} {Q : PFlow → Vars → Sto → Prop}
    (h : EV C n sc ob rho st fun p st1 => ∃ k l0, p = .mut k ∧ st1[k]? = some (some l0) ∧ EV C n sc elt rho st1 fun v st2 => noMut v = true ∧ ∃ l, st2[k]? = some (some l) ∧ l.length ≤ 1000000 ∧ Q .next rho (st2.set k (some (l ++ [v]))))
    (hbase : ∀ env, attributeBase ob "append" env (eval ob env) = eval ob env)
    (hfew : ∀ env, ((backTo pos (starEach [elt] env)).all (fun x => !x.1) && (backToKw pos (keywordEach [] env)).all (fun x => x.1.isSome)
      && decide (([elt] : List Expr).length + ([] : List Keyword).length + (if ([] : List Keyword).isEmpty then 0 else 1) < 30)) = true)
    (hline : (apos.endLine == pos.line) = true)
    (htrees : ∀ env, backTo pos (starEach [elt] env) = [(false, eval elt env)]) (hfn : sc.kind = .function)
    (hs : ∀ env, swapsWith (.Call (.Attribute ob "append" apos) [elt] [] pos) none spos.line env = pure false) :
    EX C n sc (.Expr (.Call (.Attribute ob "append" apos) [elt] [] pos) spos) rho st Q := by
  intro A env s al rm o a e
  refine wpAny_Expr_any (wpAny_Call_append (hbase env) (hfew env) hline (htrees env) (JE.use h rm o a e fun v h1 tk1 al1 st1 p k1 a1 e1 r1 q1 => ?_)) ?_ (hs env)
  · obtain ⟨k, l0, rfl, hk0, q⟩ := q1
    obtain ⟨x, rfl, hx⟩ := r1.mutOf
    obtain ⟨y, vs, c, f1, f2, f3, f4⟩ := a1.muts.is k l0 hk0
    rw [hx] at f1; cases f1
    refine ⟨x, vs.toArray, rfl, ⟨_, c, f2, rfl, rfl, rfl⟩, ?_⟩
    refine JE.use q (s := { s with heap := h1, toks := tk1 }) rm o a1 e1 fun v2 h2 tk2 al2 st2 p2 k2 a2 e2 r2 q2 => ?_
    obtain ⟨hm, l, hk, hl, q3⟩ := q2
    refine append_ok (s := { s with heap := h2, toks := tk2 }) a2 hk (k2.addr _ _ hx) r2 hm hl fun h3 k3 a3 => ?_
    exact ⟨h3, tk2, al2, _, rho, .next, rfl, ((k1.trans k2).trans k3).toS, a3, e2.kept a2.muts k3, .next, q3⟩
  · unfold interactive; rw [o.scope, hfn]; rfl

theorem EX_expr {x : Expr} {pos : Pos} {Q : PFlow → Vars → Sto → Prop} (h : EV C n sc x rho st fun _ st1 => Q .next rho st1) (hfn : sc.kind = .function) (hs : ∀ env, swapsWith x none pos.line env = pure false) :
    EX C n sc (.Expr x pos) rho st Q := by
  intro A env s al rm o a e
  refine wpAny_Expr_any (JE.use h rm o a e fun v h1 tk1 al1 st1 p k1 a1 e1 r1 q1 => ?_) ?_ (hs env)
  · exact ⟨h1, tk1, al1, st1, rho, .next, rfl, k1.toS, a1, e1, .next, q1⟩
  · unfold interactive; rw [o.scope, hfn]; rfl

theorem BJ_maxL {ns : List Int} {Q : PV → Sto → Prop} (hc : C.calm = true) (hne : 0 < ns.length) (h : ∀ M, M ∈ ns → (∀ a, a ∈ ns → a ≤ M) → Q (.int M) st) : BJ C n (.builtin "max") [.list (pis ns)] st Q := by
  intro A s al vs rm a r
  obtain ⟨v, vs', rfl, r1, r2⟩ := r.consOf
  cases r2.nilOf
  obtain ⟨l, us, c, rfl, hl, _, ru⟩ := r1.listOf
  have hi : IntsAre us ns := ru.ints
  obtain ⟨xs, e⟩ := hi.allInts.items
  have hns : ns = xs.toList.map (·.1) := by rw [← hi.numsOf, ← nums_intItems, ← e]
  have hsz : 0 < xs.size := by
    have h3 := hne; rw [hns, List.length_map, Array.length_toList] at h3; exact h3
  have hl' := hl.isList
  rw [e] at hl'
  refine max_intList (a.calm hc) hl' hsz fun v h' tk hv hk => ?_
  obtain ⟨t, rfl⟩ := intItems_at hv
  obtain ⟨h1, h2⟩ := argBest_gt (numAt xs) (xs.size - 1)
  refine BJ_fin (tk := tk) (h' := h') a hk (.int _ _) (h _ ?_ fun a ha => ?_)
  · rw [hns, numAt_eq]; exact getD_mem (by rw [List.length_map, Array.length_toList]; omega)
  · rw [hns] at ha
    obtain ⟨j, hj, rfl⟩ := mem_getD ha
    rw [List.length_map, Array.length_toList] at hj
    rw [← numAt_eq]; exact h2 j (by omega)

theorem upd_eq {x : Str} {v : PV} (h : rho x = some v) : upd rho x v = rho := by
  funext y; unfold upd; split
  · rename_i e; rw [e, h]
  · rfl
theorem JS.mono0 {B G : Type} {rel : List Addr → Sto → Heap → B → G → Prop} {t : Env → Sem B} {Q Q' : G → Vars → Sto → Prop} (h : ∀ g r s, Q g r s → Q' g r s) (j : JS C n sc rel t rho st Q) : JS C n sc rel t rho st Q' := JS.mono j h
theorem EX_join {test : Expr} {body orelse : List Stmt} {pos : Pos} {Q : PFlow → Vars → Sto → Prop} (P : Vars → Prop) (h : EX C n sc (.If test body orelse pos) rho st fun f rho2 st2 => f = .next ∧ st2 = st ∧ P rho2) (hQ : ∀ rho2, P rho2 → Q .next rho2 st) :
    EX C n sc (.If test body orelse pos) rho st Q := JS.mono h fun f r s hh => by
  obtain ⟨rfl, rfl, hp⟩ := hh
  exact hQ _ hp
theorem EX_join' {test : Expr} {body orelse : List Stmt} {pos : Pos} {Q : PFlow → Vars → Sto → Prop} (P : Vars → Sto → Prop) (h : EX C n sc (.If test body orelse pos) rho st fun f rho2 st2 => f = .next ∧ P rho2 st2) (hQ : ∀ rho2 st2, P rho2 st2 → Q .next rho2 st2) :
    EX C n sc (.If test body orelse pos) rho st Q := JS.mono h fun f r s hh => by
  obtain ⟨rfl, hp⟩ := hh
  exact hQ _ _ hp
/-- a name that is set anew on one way alone -/
theorem EX_ifset {test e : Expr} {x : Str} {px pos pos2 : Pos} {v0 : PV} {Q : PFlow → Vars → Sto → Prop} (v' : PV) (hx : rho x = some v0)
    (h : TV C n sc test rho st fun b st1 => st1 = st ∧ if b = true then EV C n sc e rho st1 fun p st2 => p = v' ∧ st2 = st else v0 = v') (hQ : Q .next (upd rho x v') st)
    (hk : sc.names.lookup x = some .local ∨ sc.names.lookup x = some .cell) (hs : ∀ env, env.scope = sc → swapsWith e (some (.Name x px)) pos.line env = pure false) :
    EX C n sc (.If test [.Assign [.Name x px] e pos] [] pos2) rho st Q := by
  refine EX_if (JE.mono h fun b st1 hb => ?_)
  obtain ⟨rfl, hb⟩ := hb
  cases b with
  | true =>
    simp only [if_true] at hb ⊢
    refine EXs_cons (EX_assign (JE.mono hb fun p st2 hp => ?_) hk hs)
    obtain ⟨rfl, rfl⟩ := hp
    exact ck_next (EXs_nil hQ)
  | false =>
    simp only [Bool.false_eq_true, if_false] at hb ⊢
    subst hb
    rw [upd_eq hx] at hQ
    exact EXs_nil hQ

theorem EV_fn {m : Nat} {f : Str} {fp pos : Pos} {x : Expr} {xs : List Expr} {i : Nat} {Q : PV → Sto → Prop} (hF : HasFn C i) (hn : f = fnName i) (hmn : m ≤ n) (hk : sc.names.lookup f = some .globalImplicit)
    (hx : ∀ env, starEach (x :: xs) env = (false, eval x env) :: starEach xs env) (h : EVs C n sc (some pos) (x :: xs) rho st fun ps st1 => CJ C m (fnName i) ps st1 Q) (hd : (f == ("__debug__" : Str)) = false) : EV C n sc (.Call (.Name f fp) (x :: xs) [] pos) rho st Q := by
  subst hn
  obtain ⟨fa, o, pm, code, doc, hf, ho, hd', hcd⟩ := hF
  exact EV_call h hmn hk hf ho hd' hd hx

/-- what the text alone says of its def number i -/
structure FnOk (i : Nat) (names : List Str) : Prop where
  bind : ∀ pm code doc (vs : List Value), vs.length = names.length → bindArgs (Calls.docDef (fnName i) (fnParams i) (fnBody i) (fnScope i) pm code doc) ⟨vs, []⟩ = pure (names.zip vs)
  nd : names.Nodup
  kinds : (names.all fun x => (fnScope i).names.lookup x == some .local || (fnScope i).names.lookup x == some .cell) = true
  names : ((fnScope i).names.map (·.1)).Nodup
  co : (fnScope i).isCoroutine = false
  gen : (fnScope i).isGenerator = false
  kind : (fnScope i).kind = .function
theorem len_nil {P : List Value → Prop} (h : P []) (vs : List Value) (e : vs.length = 0) : P vs := List.length_eq_zero_iff.mp e ▸ h
theorem len_cons {n : Nat} {P : List Value → Prop} (h : ∀ a r, r.length = n → P (a :: r)) (vs : List Value) (e : vs.length = n + 1) : P vs := by
  cases vs with
  | nil => cases e
  | cons a r => exact h a r (Nat.succ.inj e)
theorem all_len1 {P : List Value → Prop} (h : ∀ a, P [a]) : ∀ vs : List Value, vs.length = 1 → P vs := len_cons fun a => len_nil (P := fun r => P (a :: r)) (h a)
theorem all_len2 {P : List Value → Prop} (h : ∀ a b, P [a, b]) : ∀ vs : List Value, vs.length = 2 → P vs := len_cons fun a => all_len1 (P := fun r => P (a :: r)) (h a)
theorem all_len3 {P : List Value → Prop} (h : ∀ a b c, P [a, b, c]) : ∀ vs : List Value, vs.length = 3 → P vs := len_cons fun a => all_len2 (P := fun r => P (a :: r)) (h a)
theorem all_len4 {P : List Value → Prop} (h : ∀ a b c d, P [a, b, c, d]) : ∀ vs : List Value, vs.length = 4 → P vs := len_cons fun a => all_len3 (P := fun r => P (a :: r)) (h a)
theorem CJ_fn {i m : Nat} {names : List Str} {ps : List PV} {Q : PV → Sto → Prop} (hF : HasFn C i) (K : FnOk i names) (hlen : names.length = ps.length)
    (h : EXs C m (fnScope i) (fnBody i) (argVars names ps) st fun g _ st' => retK Q g st') : CJ C (m + 1) (fnName i) ps st Q := by
  obtain ⟨_, _, pm, code, doc, hf, ho, hd, hcd⟩ := hF
  exact CJ_def hf ho hd hcd (fun vs hv => K.bind pm code doc vs (hv.trans hlen.symm)) hlen K.nd K.kinds K.names h K.co K.gen K.kind

theorem tests0 {F G : Sto → Prop} (h : F st) : Tests C n sc [] rho st (fun b s => if b = true then F s else G s) := h
theorem tests1 {c : Expr} {K : Bool → Sto → Prop} (h : TV C n sc c rho st K) : Tests C n sc [c] rho st K := h
theorem cturn1 {target iter elt : Expr} {ifs : List Expr} {st1 : Sto} {x : PV} {l : List PV} {K : Vars → List PV → Prop}
    (h : JL C n sc target x rho (st1 ++ [some l]) fun rho2 st2 => Tests C n sc ifs rho2 st2 fun b st3 => if b = true then EV C n sc elt rho2 st3 fun p st4 => noMut p = true ∧ l.length ≤ 1000000 ∧ st4 = st1 ++ [some l] ∧ K rho2 (l ++ [p]) else st3 = st1 ++ [some l] ∧ K rho2 l) :
    CTurn C n sc [⟨target, iter, ifs, 0⟩] elt st1 x rho l K := h
theorem neg1 {i : Int} {R : Int → Prop} (h : R i) : ∃ j, PV.int i = PV.int j ∧ R j := ⟨i, rfl, h⟩
theorem nm3 : fnName 3 = ("gcd" : Str) := rfl
theorem nm4 : fnName 4 = ("gcd_all" : Str) := rfl
theorem nm6 : fnName 6 = ("ztrim" : Str) := rfl
theorem nm7 : fnName 7 = ("zdegree" : Str) := rfl
theorem nm8 : fnName 8 = ("zlead" : Str) := rfl
theorem nm9 : fnName 9 = ("zadd" : Str) := rfl
theorem nm10 : fnName 10 = ("zneg" : Str) := rfl
theorem nm11 : fnName 11 = ("zsub" : Str) := rfl
theorem nm12 : fnName 12 = ("zscale" : Str) := rfl
theorem nm13 : fnName 13 = ("zraise" : Str) := rfl
theorem nm14 : fnName 14 = ("zcontent" : Str) := rfl
theorem nm15 : fnName 15 = ("zderive" : Str) := rfl
theorem nm16 : fnName 16 = ("zshift" : Str) := rfl
theorem nm18 : fnName 18 = ("check_bottom" : Str) := rfl
theorem nm19 : fnName 19 = ("pseudo" : Str) := rfl
theorem nm21 : fnName 21 = ("divided" : Str) := rfl
theorem nm22 : fnName 22 = ("full_rest" : Str) := rfl
theorem nm23 : fnName 23 = ("row_resultant" : Str) := rfl
theorem nm24 : fnName 24 = ("resultant" : Str) := rfl
theorem nm25 : fnName 25 = ("discriminant" : Str) := rfl
theorem nm27 : fnName 27 = ("root_bound" : Str) := rfl
theorem nm29 : fnName 29 = ("first_differences" : Str) := rfl
theorem nm30 : fnName 30 = ("zeros_on" : Str) := rfl
theorem nm31 : fnName 31 = ("dispersions" : Str) := rfl
theorem nm33 : fnName 33 = ("_law_draw" : Str) := rfl
theorem nm34 : fnName 34 = ("_law_drawn" : Str) := rfl
theorem nm35 : fnName 35 = ("_law_times" : Str) := rfl
theorem nm36 : fnName 36 = ("_law_resultant" : Str) := rfl
theorem nm37 : fnName 37 = ("_law_squares" : Str) := rfl

/-- the defs and the built-in names that the text reaches -/
structure Fns (C : Cx) : Prop where
  f3 : HasFn C 3
  f4 : HasFn C 4
  f6 : HasFn C 6
  f7 : HasFn C 7
  f8 : HasFn C 8
  f9 : HasFn C 9
  f10 : HasFn C 10
  f11 : HasFn C 11
  f12 : HasFn C 12
  f13 : HasFn C 13
  f14 : HasFn C 14
  f15 : HasFn C 15
  f16 : HasFn C 16
  f18 : HasFn C 18
  f19 : HasFn C 19
  f21 : HasFn C 21
  f22 : HasFn C 22
  f23 : HasFn C 23
  f24 : HasFn C 24
  f25 : HasFn C 25
  f27 : HasFn C 27
  f29 : HasFn C 29
  f30 : HasFn C 30
  f31 : HasFn C 31
  f33 : HasFn C 33
  f34 : HasFn C 34
  f35 : HasFn C 35
  f36 : HasFn C 36
  f37 : HasFn C 37
  abs : Names C "abs" (.builtin "abs")
  len : Names C "len" (.builtin "len")
  max : Names C "max" (.builtin "max")
  list : Names C "list" (.type "list")
  range : Names C "range" (.type "range")
  enum : Names C "enumerate" (.type "enumerate")
/-- the names by which the defs of the text are called, and how much room a call takes -/
inductive FnAt : Str → Nat → Nat → Prop
  | f3 : FnAt "gcd" 3 20
  | f4 : FnAt "gcd_all" 4 21
  | f6 : FnAt "ztrim" 6 20
  | f7 : FnAt "zdegree" 7 20
  | f8 : FnAt "zlead" 8 20
  | f9 : FnAt "zadd" 9 21
  | f10 : FnAt "zneg" 10 20
  | f11 : FnAt "zsub" 11 22
  | f12 : FnAt "zscale" 12 20
  | f13 : FnAt "zraise" 13 20
  | f14 : FnAt "zcontent" 14 22
  | f15 : FnAt "zderive" 15 20
  | f16 : FnAt "zshift" 16 20
  | f18 : FnAt "check_bottom" 18 20
  | f19 : FnAt "pseudo" 19 23
  | f21 : FnAt "divided" 21 20
  | f22 : FnAt "full_rest" 22 24
  | f23 : FnAt "row_resultant" 23 25
  | f24 : FnAt "resultant" 24 26
  | f25 : FnAt "discriminant" 25 27
  | f27 : FnAt "root_bound" 27 21
  | f29 : FnAt "first_differences" 29 20
  | f30 : FnAt "zeros_on" 30 20
  | f31 : FnAt "dispersions" 31 27
  | f33 : FnAt "_law_draw" 33 20
  | f34 : FnAt "_law_drawn" 34 21
  | f35 : FnAt "_law_times" 35 20
  | f36 : FnAt "_law_resultant" 36 21
  | f37 : FnAt "_law_squares" 37 21
theorem FnAt.ok {f : Str} {i m : Nat} (F : Fns C) (h : FnAt f i m) : HasFn C i ∧ f = fnName i :=
  FnAt.rec (motive := fun f i _ _ => HasFn C i ∧ f = fnName i) ⟨F.f3, nm3.symm⟩ ⟨F.f4, nm4.symm⟩ ⟨F.f6, nm6.symm⟩ ⟨F.f7, nm7.symm⟩ ⟨F.f8, nm8.symm⟩ ⟨F.f9, nm9.symm⟩ ⟨F.f10, nm10.symm⟩ ⟨F.f11, nm11.symm⟩ ⟨F.f12, nm12.symm⟩ ⟨F.f13, nm13.symm⟩ ⟨F.f14, nm14.symm⟩ ⟨F.f15, nm15.symm⟩ ⟨F.f16, nm16.symm⟩ ⟨F.f18, nm18.symm⟩ ⟨F.f19, nm19.symm⟩ ⟨F.f21, nm21.symm⟩ ⟨F.f22, nm22.symm⟩ ⟨F.f23, nm23.symm⟩ ⟨F.f24, nm24.symm⟩ ⟨F.f25, nm25.symm⟩ ⟨F.f27, nm27.symm⟩ ⟨F.f29, nm29.symm⟩ ⟨F.f30, nm30.symm⟩ ⟨F.f31, nm31.symm⟩ ⟨F.f33, nm33.symm⟩ ⟨F.f34, nm34.symm⟩ ⟨F.f35, nm35.symm⟩ ⟨F.f36, nm36.symm⟩ ⟨F.f37, nm37.symm⟩ h
theorem EV_fnN {m : Nat} {f : Str} {fp pos : Pos} {x : Expr} {xs : List Expr} {i : Nat} {Q : PV → Sto → Prop} (F : Fns C) (hF : FnAt f i m) (hmn : m ≤ n) (hk : sc.names.lookup f = some .globalImplicit)
    (hx : ∀ env, starEach (x :: xs) env = (false, eval x env) :: starEach xs env) (h : EVs C n sc (some pos) (x :: xs) rho st fun ps st1 => CJ C m (fnName i) ps st1 Q) (hd : (f == ("__debug__" : Str)) = false) : EV C n sc (.Call (.Name f fp) (x :: xs) [] pos) rho st Q :=
  EV_fn (hF.ok F).1 (hF.ok F).2 hmn hk hx h hd
end
end Mine
end

-- MDict
section
set_option maxRecDepth 100000
namespace Mine
open PySem PySem.W PyProof.Rows

theorem keys_miss : typeLookup (.type "list") "keys" = pure none := by rw [typeLookup_type, builtinLookup_eq_fast]; kernel_rfl
section
variable {prog : Program} {w : World} {A : Around} {E : Value → Shared → Prop} {s : Shared}
theorem keys_none {a : Addr} {xs : Array Value} {k : Nat} {Q : Option Value → Shared → Prop} (hx : s.heap.get? a = some { cls := .type "list", dict := none, data := .seq xs k, slots := #[] }) (hA : A.handled = none)
    (h : ∀ h' tk, (∀ b ob, s.heap.get? b = some ob → h'.get? b = some ob) → Q none { s with heap := h', toks := tk }) : wpAny (model prog w) A (getAttr? (.ref a) "keys") Q E s := by
  obtain ⟨hp, g, d, tk, os⟩ := s
  have hT : ∀ tk', (⟨hp, g, d, tk', os⟩ : Shared).TypeIs (.ref a) "list" := fun _ => ⟨_, hx, rfl⟩
  have f1 := sub_AttributeError
  have f3 := F.slot_list_getattribute.lookup
  have f4 := F.slot_list_getattribute.bind (.ref a)
  have f5 := am_list_getattr_none
  unfold getAttr? getAttrBy? getAttrBy
  repeat (any_goals (first | assumption | exact hT _ | ((with_reducible show wpAny _ _ (call (Value.builtin "list.__getattribute__") _ _) _ _ _); refine call_meets F.slot_list_getattribute (hT _) am_entry_list_getattribute (F.args_list_getattribute_2 _ _) (meets_getattribute_miss_list a xs k _ _ _ keys_miss (by decide +kernel) (by decide +kernel)) ⟨hx, hA, fun h' tk' e hx' => ?_⟩) | wp_step))
  obtain ⟨t', u', he⟩ := hx'.there
  show wpAny _ _ (getattributeRaised _ _ _ _ _ _ _) _ _ _
  unfold getattributeRaised
  repeat (any_goals (first | assumption | wp_step))
  exact h _ _ hx'.keeps

theorem dul_entry : entryFor table "dict.update.loop" = some Builtin.«dict.update.loop» := entryFor_of_tree (by kernel_rfl)
theorem dul_plain : plainId "dict.update.loop" = true := by decide +kernel

noncomputable def storedAll (ks : List Int) (kvs : List (Int × Value)) : List (Int × Value) := ks.foldl (fun acc k => stored acc k (.bool true)) kvs

theorem dict_loop {d I l : Addr} {vs : List Value} {c : Nat} {res : Value} {R : Result → Shared → Prop} (hA : A.handled = none) : ∀ (rest : List Int) (i : Nat) (j : Int) (jt : Tok) (kvs : List (Int × Value)) {s : Shared},
    s.heap.IsListIter I l i → IsL s.heap l vs.toArray c → (∀ m k, rest[m]? = some k → ∃ x t n, vs[i + m]? = some (.ref x) ∧ s.heap.get? x = some { cls := .type "tuple", data := .seq #[.int k t, .bool true] n }) → vs.length = i + rest.length →
    s.heap.DictOf (intKind prog w) d kvs → kvs.length + rest.length ≤ 1000 →
    (∀ h' tk, (∀ b o, b ≠ I → b ≠ d → s.heap.get? b = some o → h'.get? b = some o) → h'.DictOf (intKind prog w) d (storedAll rest kvs) → R (.ok (.ret res)) { s with heap := h', toks := tk }) →
    codeAny (model prog w) A (.builtin "dict.update.loop" ⟨[.ref d, .ref I, .int j jt, res], []⟩) R s := by
  intro rest
  induction rest with
  | nil =>
    intro i j jt kvs s hit hl htup hlen hd hsz hR
    refine codeAny_builtin dul_entry ?_
    rw [Around.under_plainId dul_plain _]
    show wpAny _ A.in1 (pyNext (.ref I) >>= _) _ _ _
    refine wpAny_bind (pyNext_list_end (calm := true) (.inl hA) hit hl.isList (by simp at hlen; simp [hlen]) fun h' hs => ?_)
    show wpAny _ _ (Builtin.Dict.addKeywords d [] >>= _) _ _ _
    refine wpAny_bind (wpAny_pure (wpAny_pure (hR h' s.toks (fun b o hb _ g => hs b o hb g) ?_)))
    have hne : d ≠ I := fun q => by
      subst q
      obtain ⟨o, es, ep, g, gc, gd, _⟩ := hd
      obtain ⟨o', g', _, gd'⟩ := hit
      rw [g] at g'; cases g'; rw [gd] at gd'; cases gd'
    obtain ⟨o, es, ep, g, r⟩ := hd
    exact ⟨o, es, ep, hs _ _ hne g, r⟩
  | cons k rest ih =>
    intro i j jt kvs s hit hl htup hlen hd hsz hR
    obtain ⟨x, t, n, hx, gx⟩ := htup 0 k rfl
    have hdI : d ≠ I := fun q => by
      subst q
      obtain ⟨o, es, ep, g, gc, gd, _⟩ := hd
      obtain ⟨o', g', _, gd'⟩ := hit
      rw [g] at g'; cases g'; rw [gd] at gd'; cases gd'
    have hlI : l ≠ I := fun q => by
      subst q
      obtain ⟨o', g', _, gd'⟩ := hit
      rw [hl] at g'; cases g'; cases gd'
    have hld : l ≠ d := fun q => by
      subst q
      obtain ⟨o, es, ep, g, gc, gd, _⟩ := hd
      rw [hl] at g; cases g; cases gd
    have htI : ∀ {y : Addr} {t : Tok} {k : Int} {n : Nat}, s.heap.get? y = some { cls := .type "tuple", data := .seq #[.int k t, .bool true] n } → y ≠ I ∧ y ≠ d := fun {y t k n} gy => by
      refine ⟨fun q => ?_, fun q => ?_⟩
      · subst q
        obtain ⟨o', g', _, gd'⟩ := hit
        rw [gy] at g'; cases g'; cases gd'
      · subst q
        obtain ⟨o, es, ep, g, gc, gd, _⟩ := hd
        rw [gy] at g; cases g; cases gd
    refine codeAny_builtin dul_entry ?_
    rw [Around.under_plainId dul_plain _]
    show wpAny _ A.in1 (pyNext (.ref I) >>= _) _ _ _
    refine wpAny_bind (wpAny_pyNext_list_item hit hl.isList (x := .ref x) (by simpa using hx) fun h1 hit1 hs1 => ?_)
    have gx1 : h1.get? x = some { cls := .type "tuple", data := .seq #[.int k t, .bool true] n } := (hs1.2 x (htI gx).1).trans gx
    have hd1 : h1.DictOf (intKind prog w) d kvs := by
      obtain ⟨o, es, ep, g, r⟩ := hd
      exact ⟨o, es, ep, (hs1.2 _ hdI).trans g, r⟩
    show wpAny _ A.in1 (holding [Value.ref x] _ >>= _) _ _ _
    refine wpAny_bind (wpAny_holding (wpAny_bind (wpAny_tryCatch ?_)))
    unfold Builtin.Dict.pairItems
    refine wpAny_bind (wpAny_typeOf (T := "tuple") ⟨_, gx1, rfl⟩ ?_)
    show wpAny _ A.in1 (do return ((← seqItems? (.ref x)).getD #[]).toList) _ _ _
    refine wpAny_bind (wpAny_seqItems gx1 rfl (wpAny_pure ?_))
    show wpAny _ A.in1 (holding [Value.int k t, Value.bool true] (dictSet d (.int k t) (.bool true))) _ _ _
    refine wpAny_holding ?_
    unfold dictSet
    refine wpAny_holding (wpAny_bind (wpAny_pyHash_int ?_))
    refine wpAny_dictSetHashed_pairs (knd := intKind prog w) (k := k) (kvs := kvs) (by simp [intKind, Value.isInt]) hd1 (fun h2 hd2 hs2 => ?_) (hsz := by rw [sizeLine_eq]; simp at hsz; lia)
    refine wpAny_pure ⟨plainId_quiet dul_plain _, ?_⟩
    have kp : ∀ b o, b ≠ I → b ≠ d → s.heap.get? b = some o → h2.get? b = some o := fun b o h1' h2' g => (hs2.2 b h2').trans ((hs1.2 b h1').trans g)
    have hsl := stored_length_le kvs k (.bool true)
    refine ih (i + 1) (j + 1) _ (stored kvs k (.bool true)) ?_ (kp l _ hlI hld hl) (fun m k' hm => ?_) (by simp at hlen; lia) hd2 (by simp at hsz; lia) fun h' tk hk hd' => ?_
    · obtain ⟨o', g', gc', gd'⟩ := hit1
      exact ⟨o', (hs2.2 I (Ne.symm hdI)).trans g', gc', gd'⟩
    · obtain ⟨y, u, n', hy, gy⟩ := htup (m + 1) k' (by simpa using hm)
      exact ⟨y, u, n', by rw [show i + 1 + m = i + (m + 1) by lia]; exact hy, kp y _ (htI gy).1 (htI gy).2 gy⟩
    · exact hR h' tk (fun b o h1' h2' g => hk b o h1' h2' (kp b o h1' h2' g)) hd'

theorem dict_pairs {l : Addr} {vs : List Value} {ks : List Int} {c : Nat} {Q : Value → Shared → Prop} (hA : A.handled = none) (hbig : sysModules < s.heap.objs.size) (hl : IsL s.heap l vs.toArray c)
    (htup : ∀ (m : Nat) k, ks[m]? = some k → ∃ x t n, vs[m]? = some (.ref x) ∧ s.heap.get? x = some { cls := .type "tuple", data := .seq #[.int k t, .bool true] n }) (hlen : vs.length = ks.length) (hsz : ks.length ≤ 1000)
    (hQ : ∀ d h' tk, (∀ b o, s.heap.get? b = some o → h'.get? b = some o) → h'.DictOf (intKind prog w) d (storedAll ks []) → (d == sysModules) = false → Q (.ref d) { s with heap := h', toks := tk }) :
    wpAny (model prog w) A (call (.type "dict") [.ref l]) Q E s := by
  refine callType_codes (Q₁ := fun obj s₁ => obj = .ref s.heap.objs.size ∧ s₁ = { s with heap := s.heap.push { cls := .type "dict", data := .dict #[] } }) F.kt_called_dict (F.kt_typeCall_dict_1 _) F.entry_dict_init (kt_code_dict_new _ ⟨rfl, rfl⟩) ?_
  rintro obj s₁ ⟨rfl, rfl⟩
  have hnew : (s.heap.push { cls := .type "dict", data := .dict #[] }).DictOf (intKind prog w) s.heap.objs.size [] := Heap.DictOf.new s.heap
  have hl1 : IsL (s.heap.push { cls := .type "dict", data := .dict #[] }) l vs.toArray c := Heap.get?_push_of_some _ hl
  have hdo : (s.heap.objs.size == sysModules) = false := by simpa using Nat.ne_of_gt hbig
  refine ⟨hnew.typeIs, F.args_dict_init_2 _ _, ?_⟩
  unfold Builtin.«dict.__init__»
  refine wpAny_bind ?_
  unfold Builtin.Dict.selfAndRest
  refine wpAny_bind (wpAny_notOrdered_dict hnew.typeIs ?_)
  show wpAny _ _ (pure (s.heap.objs.size, [Value.ref l])) _ _ _
  refine wpAny_pure ?_
  show wpAny _ _ (Builtin.Dict.updateFrom "dict.__init__" s.heap.objs.size (.ref l) [] .none) _ _ _
  unfold Builtin.Dict.updateFrom
  refine wpAny_bind (wpAny_typeOf (T := "list") ⟨_, hl1, rfl⟩ ?_)
  rw [if_pos (by decide)]
  refine wpAny_bind (keys_none hl1 hA fun h2 tk2 k2 => ?_)
  simp only [Option.isNone_none, if_true]
  refine wpAny_bind (wpAny_rule ?_)
  have hl2 : IsL h2 l vs.toArray c := k2 _ _ hl1
  refine wpAny_bind (wpAny_pyIter_list hl2.isList ?_)
  have kp : ∀ b o, h2.get? b = some o → (h2.push { cls := .type "list_iterator", data := .fields #[.ref l, .int 0 0] }).get? b = some o := fun b o g => Heap.get?_push_of_some _ g
  have hit : (h2.push { cls := .type "list_iterator", data := .fields #[.ref l, .int 0 0] }).IsListIter h2.objs.size l 0 := ⟨_, Heap.get?_push_size _ rfl, rfl, rfl⟩
  refine wpAny_pure ⟨plainId_quiet dul_plain _, ?_⟩
  refine dict_loop (A := A.in1) (vs := vs) (c := c) (s := { s with heap := h2.push { cls := .type "list_iterator", data := .fields #[.ref l, .int 0 0] }, toks := tk2 }) hA ks 0 0 _ [] hit (kp _ _ hl2) (fun m k hm => ?_) (by lia) ?_ (by simpa using hsz) fun h' tk hk hd => ?_
  · obtain ⟨x, t, n, h1, g1⟩ := htup m k hm
    exact ⟨x, t, n, by simpa using h1, kp _ _ (k2 _ _ (Heap.get?_push_of_some _ g1))⟩
  · obtain ⟨o, es, ep, g, r⟩ := hnew
    exact ⟨o, es, ep, kp _ _ (k2 _ _ g), r⟩
  · refine ⟨rfl, hQ _ h' tk (fun b o g => ?_) hd hdo⟩
    have hb := Heap.lt_size g
    refine hk b o (fun q => ?_) (Nat.ne_of_lt hb) (kp _ _ (k2 _ _ (Heap.get?_push_of_some _ g)))
    have := k2 _ _ (Heap.get?_push_of_some { cls := .type "dict", data := .dict #[] } g)
    have := Heap.lt_size this
    rw [q] at this; exact Nat.lt_irrefl _ this

theorem ints_of : ∀ {vs : List Value} {ks : List Int}, vs.length = ks.length → (∀ (j : Nat) v, vs[j]? = some v → ∃ k, ks[j]? = some k ∧ Value.isInt k v = true) → IntsAre vs ks
  | [], [], _, _ => .nil
  | [], _ :: _, h, _ => by simp at h
  | _ :: _, [], h, _ => by simp at h
  | v :: vs, k :: ks, h, hv => by
    obtain ⟨k', h1, h2⟩ := hv 0 v rfl
    simp only [List.getElem?_cons_zero, Option.some.injEq] at h1
    subst h1
    obtain ⟨t, rfl⟩ := Value.isInt_shape h2
    exact .cons _ _ (ints_of (by simpa using h) fun j v e => by simpa using hv (j + 1) v (by simpa using e))

theorem sorted_dict {d : Addr} {kvs : List (Int × Value)} {Q : Value → Shared → Prop} (hA : A.handled = none) (lo : (d == sysModules) = false) (hd : s.heap.DictOf (intKind prog w) d kvs) (hsz : kvs.length < 64)
    (h : ∀ D h' tk (ns : List Int) (out : List Value) c, (∀ b o, s.heap.get? b = some o → h'.get? b = some o) → s.heap.get? D = none → IsL h' D out.toArray c → IntsAre out ns → ns.Perm (kvs.map (·.1)) → ns.Pairwise (· ≤ ·) → Q (.ref D) { s with heap := h', toks := tk }) :
    wpAny (model prog w) A (call (.builtin "sorted") [.ref d]) Q E s := by
  obtain ⟨ep, hat⟩ := hd.dictAt
  refine Calls.call_function_entry kind_sorted plain_sorted entry_sorted (args_sorted1 _) ?_
  unfold Builtin.«sorted»
  refine wpAny_bind (m := checkCount "sorted" 1 1 _) (wpAny_pure ?_)
  have hn : kvs.length ≤ sizeLine := by rw [sizeLine_eq]; lia
  refine wpAny_bind (kdu_collect (A := A.in1) (kdl_dict (knd := intKind prog w) (kvs := kvs) (ep := ep) lo) hA hat hn fun h1 tk1 acc k1 hacc => ?_)
  have hl : acc.toList.length = kvs.length := by rw [Array.length_toList]; exact hacc.1
  refine wpAny_bind (wpAny_newList ?_ (by rw [hl]; exact hn))
  have hI : IntsAre acc.toList (kvs.map (·.1)) := ints_of (by rw [hl, List.length_map]) fun j v e => by
    obtain ⟨k, x, hx, hk⟩ := hacc.2 j v (by rw [← Array.getElem?_toList]; exact e)
    exact ⟨k, by rw [List.getElem?_map, hx]; rfl, hk⟩
  have hoL : (h1.push (seqObj "list" acc.toList.toArray 0)).get? h1.objs.size = some (seqObj "list" acc.toList.toArray 0) := Heap.get?_push_size _ rfl
  refine wpAny_bind (wpAny_holding (wpAny_call_entry slot_list_sort ⟨_, hoL, rfl⟩ entry_list_sort (list_sort_tree (s := { s with heap := h1.push (seqObj "list" acc.toList.toArray 0), toks := tk1 }) hoL hI (by lia) fun out ns' a1 a2 a3 => ⟨_, rfl, ?_⟩) (args_list_sort _)))
  have hg : ∃ n, (sortedHeap (h1.push (seqObj "list" acc.toList.toArray 0)) h1.objs.size acc.toList out).get? h1.objs.size = some (seqObj "list" out n) := by
    unfold sortedHeap
    exact ⟨_, get?_update_seq (Heap.get?_push_of_some _ (Heap.get?_push_of_some _ (get?_update_seq hoL (fun _ => #[])))) (fun _ => out)⟩
  obtain ⟨n', hg⟩ := hg
  refine wpAny_pure ⟨_, rfl, h h1.objs.size _ tk1 ns' out.toList n' (fun b o g => ?_) ?_ (by unfold IsL; rw [hg]) a1 a2 a3⟩
  · have hb := Heap.lt_size (k1 b o g)
    unfold sortedHeap
    rw [Heap.get?_update_other _ _ (Nat.ne_of_gt hb)]
    refine Heap.get?_push_of_some _ (Heap.get?_push_of_some _ ?_)
    rw [Heap.get?_update_other _ _ (Nat.ne_of_gt hb)]
    exact Heap.get?_push_of_some _ (k1 b o g)
  · cases g : s.heap.get? h1.objs.size with
    | none => rfl
    | some o => exact absurd (Heap.lt_size (k1 _ _ g)) (Nat.lt_irrefl _)
end
end Mine
end

-- MDict2
section
set_option maxRecDepth 100000
namespace Mine
open PySem PySem.W PyProof.Rows

section
variable {C : Cx} {n : Nat} {sc : Scope} {rho : Vars} {st : Sto}
theorem EV_sortedDict {fs fd : Str} {ps pd p1 p2 : Pos} {e : Expr} {Q : PV → Sto → Prop} (hc : C.calm = true)
    (h : EV C n sc e rho st fun p st1 => ∃ ks : List Int, p = .list (ks.map fun k => .tup [.int k, .bool true]) ∧ ks.length < 64 ∧ ∀ ns : List Int, ns.Perm ((storedAll ks []).map (·.1)) → ns.Pairwise (· ≤ ·) → Q (.list (pis ns)) st1)
    (hk1 : sc.names.lookup fs = some .globalImplicit) (hf1 : Names C fs (.builtin "sorted")) (hd1 : (fs == ("__debug__" : Str)) = false) (hk2 : sc.names.lookup fd = some .globalImplicit) (hf2 : Names C fd (.type "dict")) (hd2 : (fd == ("__debug__" : Str)) = false)
    (hx1 : ∀ env, starEach [Expr.Call (.Name fd pd) [e] [] p1] env = [(false, eval (.Call (.Name fd pd) [e] [] p1) env)]) (hx2 : ∀ env, starEach [e] env = [(false, eval e env)]) :
    EV C n sc (.Call (.Name fs ps) [.Call (.Name fd pd) [e] [] p1] [] p2) rho st Q := by
  intro A env s al rm o a ee
  have hA := a.calm hc
  rw [eval_Call_Name]
  refine wpAny_bind (name_global o a hk1 hf1 hd1 ?_)
  refine callWith_plain (.inl ⟨_, rfl⟩) (hx1 env) (by rw [hx1 env]; rfl) ?_
  rw [hx1 env]
  refine Calls.spliced_cons ?_
  rw [eval_Call_Name]
  refine wpAny_bind (name_global o a hk2 hf2 hd2 ?_)
  refine callWith_plain (.inr ⟨_, rfl⟩) (hx2 env) (by rw [hx2 env]; rfl) ?_
  rw [hx2 env]
  refine Calls.spliced_cons (h.use rm o a ee fun v h1 tk1 al1 st1 p k1 a1 e1 r1 q1 => Calls.spliced_nil ?_)
  obtain ⟨ks, rfl, hks, q⟩ := q1
  obtain ⟨l, vs, c, rfl, hl, _, rv⟩ := r1.listOf
  have hlen : vs.length = ks.length := by rw [rv.length, List.length_map]
  refine dict_pairs (s := { s with heap := h1, toks := tk1 }) hA (modules_low (C.lim.keeps a1.base)) hl (ks := ks) (fun m k hm => ?_) hlen (by lia) fun d h2 tk2 k2 hd lo => Calls.spliced_nil ?_
  · obtain ⟨w, hw, rw'⟩ := rv.get (i := m) (p := .tup [.int k, .bool true]) (by rw [List.getElem?_map, hm]; rfl)
    obtain ⟨x, us, c', rfl, hx, _, ru⟩ := rw'.tupOf
    obtain ⟨u1, us1, rfl, q1, ru1⟩ := ru.consOf
    obtain ⟨u2, us2, rfl, q2, ru2⟩ := ru1.consOf
    cases ru2.nilOf
    obtain ⟨t, rfl⟩ := q1.intOf
    cases q2.boolOf
    exact ⟨x, t, c', hw, hx⟩
  have hsl : ∀ (l : List Int) (kvs : List (Int × Value)), (storedAll l kvs).length ≤ kvs.length + l.length := fun l => by
    induction l with
    | nil => intro kvs; exact Nat.le_refl _
    | cons x r ih =>
      intro kvs
      have h1 := ih (stored kvs x (.bool true))
      have h2 := stored_length_le kvs x (.bool true)
      simp only [storedAll, List.foldl_cons, List.length_cons] at h1 ⊢
      lia
  refine sorted_dict (s := { s with heap := h2, toks := tk2 }) hA lo hd (by have := hsl ks []; simp only [List.length_nil] at this; lia) fun D h3 tk3 ns out c3 k3 hD hl3 hI hp hs => ?_
  have kk : ∀ b ob, h1.get? b = some ob → h3.get? b = some ob := fun b ob g => k3 b ob (k2 b ob g)
  obtain ⟨x1, x2, x3⟩ := fin_grow a1 e1 kk
  have hDn : h1.get? D = none := by
    cases g : h1.get? D with
    | none => rfl
    | some ob => have := k2 _ _ g; rw [hD] at this; cases this
  refine ⟨h3, tk3, al1, st1, .list (pis ns), rfl, k1.trans x1, x2, x3, ?_, q ns hp hs⟩
  refine .list hl3 (live_none a1 hDn) ?_
  clear hp hs hl3 q
  induction hI with
  | nil => exact .nil
  | cons m t _ ih => exact .cons (.int _ _) ih
end
end Mine
end

-- MZ
section
set_option maxRecDepth 100000
namespace Mine
open PySem

noncomputable def trimZ : List Int → List Int
  | [] => []
  | a :: r => match trimZ r with
    | [] => if a = 0 then [] else [a]
    | b :: t => a :: b :: t
noncomputable def addL : List Int → List Int → List Int
  | [], b => b
  | x :: a, [] => x :: a
  | x :: a, y :: b => (x + y) :: addL a b
noncomputable def addZ (a b : List Int) : List Int := trimZ (addL a b)
noncomputable def negZ (a : List Int) : List Int := a.map fun x => -x
noncomputable def subZ (a b : List Int) : List Int := addZ a (negZ b)
noncomputable def scaleZ (p : List Int) (k : Int) : List Int := if k = 0 then [] else p.map fun x => x * k
noncomputable def raiseZ (p : List Int) (n : Nat) : List Int := if p = [] then [] else List.replicate n 0 ++ p
noncomputable def leadZ (p : List Int) : Int := p.getLast?.getD 0
noncomputable def gcdL : Nat → List Int → Nat
  | g, [] => g
  | g, x :: r => gcdL (Nat.gcd g x.natAbs) r
noncomputable def contZ (p : List Int) : Nat := gcdL 0 p
noncomputable def divZ (p : List Int) (k : Int) : List Int := p.map fun x => x.fdiv k
noncomputable def mulIx : Nat → List Int → List Int
  | _, [] => []
  | i, x :: r => (x * i) :: mulIx (i + 1) r
noncomputable def deriveZ (p : List Int) : List Int := (mulIx 0 p).drop 1

theorem trimZ_snoc0 : ∀ l : List Int, trimZ (l ++ [0]) = trimZ l
  | [] => by simp [trimZ]
  | a :: r => by rw [List.cons_append]; unfold trimZ; rw [trimZ_snoc0 r]
theorem trimZ_snoc {x : Int} (hx : x ≠ 0) : ∀ l : List Int, trimZ (l ++ [x]) = l ++ [x]
  | [] => by simp [trimZ, hx]
  | a :: r => by
    rw [List.cons_append]; unfold trimZ; rw [trimZ_snoc hx r]
    cases h : r ++ [x] with
    | nil => simp at h
    | cons b t => rfl
theorem trimZ_length : ∀ l : List Int, (trimZ l).length ≤ l.length
  | [] => Nat.le_refl _
  | a :: r => by
    have := trimZ_length r
    unfold trimZ
    cases h : trimZ r with
    | nil => simp only []; split <;> simp
    | cons b t => rw [h] at this; simp only [List.length_cons] at this ⊢; lia

/-- the last of it, if there is one, is not 0 -/
noncomputable def Tidy (l : List Int) : Prop := ∀ x, l.getLast? = some x → x ≠ 0
theorem tidy_trimZ : ∀ l : List Int, Tidy (trimZ l)
  | [] => by simp [trimZ, Tidy]
  | a :: r => by
    have := tidy_trimZ r
    unfold trimZ
    cases h : trimZ r with
    | nil =>
      simp only []
      split
      · simp [Tidy]
      · simpa [Tidy]
    | cons b t =>
      rw [h] at this
      intro x hx
      exact this x (by simpa using hx)

theorem addL_length : ∀ a b : List Int, (addL a b).length = max a.length b.length
  | [], b => by simp [addL]
  | x :: a, [] => by simp [addL]
  | x :: a, y :: b => by simp only [addL, List.length_cons, addL_length a b]; lia
theorem addL_get : ∀ (a b : List Int) (i : Nat), i < max a.length b.length → (addL a b)[i]? = some ((if i < a.length then a.getD i 0 else 0) + (if i < b.length then b.getD i 0 else 0))
  | [], b, i, h => by
    simp only [List.length_nil, Nat.not_lt_zero, if_false, Int.zero_add, addL]
    have hb : i < b.length := by simpa using h
    simp [hb]
  | x :: a, [], i, h => by
    have hb : i < (x :: a).length := by simpa using h
    simp only [addL, hb, if_true, List.length_nil, Nat.not_lt_zero, if_false, Int.add_zero]
    rw [List.getD_eq_getElem?_getD, List.getElem?_eq_getElem hb]; rfl
  | x :: a, y :: b, 0, h => by simp [addL]
  | x :: a, y :: b, i + 1, h => by
    simp only [addL, List.getElem?_cons_succ, List.length_cons, Nat.add_lt_add_iff_right, List.getD_cons_succ]
    exact addL_get a b i (by simp only [List.length_cons] at h; lia)

noncomputable def Bd (k : Nat) (l : List Int) : Prop := ∀ x ∈ l, x.natAbs ≤ 2 ^ k
theorem bd_fits {k : Nat} {x : Int} (h : x.natAbs ≤ 2 ^ k) (hk : k < 8000) : Fits x := Nat.lt_of_le_of_lt h (Nat.pow_lt_pow_right (by lia) hk)
theorem Bd.mono {k m : Nat} {l : List Int} (h : Bd k l) (hk : k ≤ m) : Bd m l := fun x hx => Nat.le_trans (h x hx) (Nat.pow_le_pow_right (by lia) hk)
theorem Bd.cons {k : Nat} {x : Int} {l : List Int} (h1 : x.natAbs ≤ 2 ^ k) (h2 : Bd k l) : Bd k (x :: l) := fun y hy => by
  rcases List.mem_cons.mp hy with rfl | hy
  · exact h1
  · exact h2 y hy
theorem Bd.tail {k : Nat} {x : Int} {l : List Int} (h : Bd k (x :: l)) : Bd k l := fun y hy => h y (.tail _ hy)
theorem bd_trimZ {k : Nat} : ∀ {l : List Int}, Bd k l → Bd k (trimZ l)
  | [], h => h
  | a :: r, h => by
    have h1 := bd_trimZ h.tail
    unfold trimZ
    cases e : trimZ r with
    | nil =>
      simp only []
      split
      · exact fun x hx => nomatch hx
      · exact Bd.cons (h a (.head _)) fun x hx => nomatch hx
    | cons b t => rw [e] at h1; exact Bd.cons (h a (.head _)) h1
theorem bd_addL {k : Nat} : ∀ {a b : List Int}, Bd k a → Bd k b → Bd (k + 1) (addL a b)
  | [], b, _, h => by simp only [addL]; exact h.mono (Nat.le_succ k)
  | x :: a, [], h, _ => by simp only [addL]; exact h.mono (Nat.le_succ k)
  | x :: a, y :: b, h, h' => by
    simp only [addL]
    refine Bd.cons ?_ (bd_addL h.tail h'.tail)
    have h1 := h x (.head _); have h2 := h' y (.head _)
    rw [Nat.pow_succ]; lia
theorem bd_addZ {k : Nat} {a b : List Int} (h : Bd k a) (h' : Bd k b) : Bd (k + 1) (addZ a b) := bd_trimZ (bd_addL h h')
theorem bd_negZ {k : Nat} {a : List Int} (h : Bd k a) : Bd k (negZ a) := fun x hx => by
  obtain ⟨y, hy, rfl⟩ := List.mem_map.mp hx
  have := h y hy; rw [Int.natAbs_neg]; exact this
theorem bd_subZ {k : Nat} {a b : List Int} (h : Bd k a) (h' : Bd k b) : Bd (k + 1) (subZ a b) := bd_addZ h (bd_negZ h')
theorem natAbs_mul_le {k m : Nat} {x y : Int} (h : x.natAbs ≤ 2 ^ k) (h' : y.natAbs ≤ 2 ^ m) : (x * y).natAbs ≤ 2 ^ (k + m) := by
  rw [Int.natAbs_mul, Nat.pow_add]; exact Nat.mul_le_mul h h'
theorem bd_scaleZ {k m : Nat} {p : List Int} {x : Int} (h : Bd k p) (hx : x.natAbs ≤ 2 ^ m) : Bd (k + m) (scaleZ p x) := by
  unfold scaleZ
  split
  · exact fun x hx => nomatch hx
  · intro y hy
    obtain ⟨z, hz, rfl⟩ := List.mem_map.mp hy
    exact natAbs_mul_le (h z hz) hx
theorem bd_raiseZ {k n : Nat} {p : List Int} (h : Bd k p) : Bd k (raiseZ p n) := by
  unfold raiseZ
  split
  · exact fun x hx => nomatch hx
  · intro y hy
    rcases List.mem_append.mp hy with q | q
    · rw [(List.mem_replicate.mp q).2]; simp
    · exact h y q
theorem bd_lead {k : Nat} {p : List Int} (h : Bd k p) : (leadZ p).natAbs ≤ 2 ^ k := by
  unfold leadZ
  cases e : p.getLast? with
  | none => simp
  | some x => exact h x (List.mem_of_getLast? e)
theorem bd_divZ {k : Nat} {p : List Int} (h : Bd k p) (x : Int) : Bd k (divZ p x) := fun y hy => by
  obtain ⟨z, hz, rfl⟩ := List.mem_map.mp hy
  exact Nat.le_trans (Int.natAbs_fdiv_le_natAbs _ _) (h z hz)

theorem drop_of_get {α : Type} {l : List α} {k : Nat} {z : α} (h : l[k]? = some z) : l.drop k = z :: l.drop (k + 1) := by
  rw [List.drop_eq_getElem_cons (lt_of_get h)]
  rw [List.getElem?_eq_getElem (lt_of_get h)] at h
  rw [Option.some.inj h]
theorem pis_len (l : List Int) : (pis l).length = l.length := by simp [pis]
theorem pis_get {l : List Int} {i : Nat} {p : PV} (h : (pis l)[i]? = some p) : ∃ x, l[i]? = some x ∧ p = .int x := by
  simp only [pis, List.getElem?_map, Option.map_eq_some_iff] at h
  obtain ⟨x, h1, h2⟩ := h
  exact ⟨x, h1, h2.symm⟩
theorem get_pis {l : List Int} {i : Nat} {x : Int} (h : l[i]? = some x) : (pis l)[i]? = some (.int x) := by simp [pis, h]
theorem noMuts_pis (l : List Int) : noMuts (pis l) = true := noMuts_all fun p hp => by
  obtain ⟨x, _, rfl⟩ := List.mem_map.mp hp; rfl

theorem rangeP_get : ∀ {n : Nat} {x c : Int} {k : Nat} {p : PV}, (rangeP x n c)[k]? = some p → k < n ∧ p = .int (x + k * c)
  | 0, x, c, k, p, h => by simp [rangeP] at h
  | n + 1, x, c, 0, p, h => by
    simp only [rangeP, List.getElem?_cons_zero, Option.some.injEq] at h
    exact ⟨by lia, by rw [← h]; simp⟩
  | n + 1, x, c, k + 1, p, h => by
    simp only [rangeP, List.getElem?_cons_succ] at h
    obtain ⟨h1, rfl⟩ := rangeP_get h
    refine ⟨by lia, ?_⟩
    have : x + c + k * c = x + ((k + 1 : Nat) : Int) * c := by push_cast; rw [Int.add_mul]; lia
    rw [this]
theorem rangeP_len : ∀ {n : Nat} {x c : Int}, (rangeP x n c).length = n
  | 0, _, _ => rfl
  | n + 1, _, _ => by simp [rangeP, rangeP_len]
theorem size_up {x y : Int} : Builtin.Range.rangeSize x y 1 = if x < y then y - x else 0 := by
  unfold Builtin.Range.rangeSize
  rw [if_pos (by decide)]
  split <;> lia
theorem size_dn {x y : Int} : Builtin.Range.rangeSize x y (-1) = if x > y then x - y else 0 := by
  unfold Builtin.Range.rangeSize
  rw [if_neg (by decide), show (- -1 : Int) = 1 from rfl]
  split <;> lia
/-- a range of ints, going up -/
theorem rng_up {x y : Int} {R : List PV → Prop} (hx : x.natAbs ≤ 1000000) (hy : y.natAbs ≤ 1000000) (h : R (rangeP x (y - x).toNat 1)) :
    ∃ a b c, PV.rng x y 1 = .rng a b c ∧ Builtin.Range.small a b c = true ∧ 0 ≤ Builtin.Range.rangeSize a b c ∧ R (rangeP a (Builtin.Range.rangeSize a b c).toNat c) := by
  refine ⟨x, y, 1, rfl, ?_, ?_, ?_⟩
  · unfold Builtin.Range.small Builtin.Range.rangeFitsLong; rw [size_up]; simp; split <;> lia
  · rw [size_up]; split <;> lia
  · rw [size_up, show (if x < y then y - x else 0).toNat = (y - x).toNat by split <;> lia]; exact h
theorem rng_dn {x y : Int} {R : List PV → Prop} (hx : x.natAbs ≤ 1000000) (hy : y.natAbs ≤ 1000000) (h : R (rangeP x (x - y).toNat (-1))) :
    ∃ a b c, PV.rng x y (-1) = .rng a b c ∧ Builtin.Range.small a b c = true ∧ 0 ≤ Builtin.Range.rangeSize a b c ∧ R (rangeP a (Builtin.Range.rangeSize a b c).toNat c) := by
  refine ⟨x, y, -1, rfl, ?_, ?_, ?_⟩
  · unfold Builtin.Range.small Builtin.Range.rangeFitsLong; rw [size_dn]; simp; split <;> lia
  · rw [size_dn]; split <;> lia
  · rw [size_dn, show (if x > y then x - y else 0).toNat = (x - y).toNat by split <;> lia]; exact h
theorem enumP_get : ∀ {l : List PV} {i k : Nat} {p : PV}, (enumP i l)[k]? = some p → ∃ q, l[k]? = some q ∧ p = .tup [.int ((i + k : Nat) : Int), q]
  | [], i, k, p, h => by simp [enumP] at h
  | q :: r, i, 0, p, h => by
    simp only [enumP, List.getElem?_cons_zero, Option.some.injEq] at h
    exact ⟨q, rfl, by rw [← h]; simp⟩
  | q :: r, i, k + 1, p, h => by
    simp only [enumP, List.getElem?_cons_succ] at h
    obtain ⟨q', h1, rfl⟩ := enumP_get h
    exact ⟨q', by simpa using h1, by rw [show i + (k + 1) = i + 1 + k by lia]⟩
theorem enumP_len : ∀ {l : List PV} {i : Nat}, (enumP i l).length = l.length
  | [], _ => rfl
  | q :: r, i => by simp [enumP, enumP_len]

noncomputable def UpTo (p : PV) (R : Int → Int → Prop) : Prop := ∃ x y, p = .rng x y 1 ∧ R x y
noncomputable def DownTo (p : PV) (R : Int → Int → Prop) : Prop := ∃ x y, p = .rng x y (-1) ∧ R x y
theorem upto_mk {x y : Int} {R : Int → Int → Prop} (h : R x y) : UpTo (.rng x y 1) R := ⟨x, y, rfl, h⟩
theorem downto_mk {x y : Int} {R : Int → Int → Prop} (h : R x y) : DownTo (.rng x y (-1)) R := ⟨x, y, rfl, h⟩
section
variable {C : Cx} {n : Nat} {sc : Scope} {rho : Vars} {st : Sto}
theorem JI_up {tt : Bool} {iter : Expr} {Q : List PV → Sto → Prop} (hc : C.calm = true)
    (h : EV C n sc iter rho st fun p st1 => UpTo p fun x y => x.natAbs ≤ 1000000 ∧ y.natAbs ≤ 1000000 ∧ Q (rangeP x (y - x).toNat 1) st1) : JI C n sc tt iter rho st Q :=
  JI_rng hc (JE.mono h fun p st1 ⟨x, y, e, h1, h2, q⟩ => by subst e; exact rng_up (R := fun l => Q l st1) h1 h2 q)
theorem JI_dn {tt : Bool} {iter : Expr} {Q : List PV → Sto → Prop} (hc : C.calm = true)
    (h : EV C n sc iter rho st fun p st1 => DownTo p fun x y => x.natAbs ≤ 1000000 ∧ y.natAbs ≤ 1000000 ∧ Q (rangeP x (x - y).toNat (-1)) st1) : JI C n sc tt iter rho st Q :=
  JI_rng hc (JE.mono h fun p st1 ⟨x, y, e, h1, h2, q⟩ => by subst e; exact rng_dn (R := fun l => Q l st1) h1 h2 q)
end
end Mine
end

-- MZ2
section
set_option maxRecDepth 100000
namespace Mine
open PySem

noncomputable def stepS (n : Int) (l : List Int) (i : Nat) : List Int := l.set i (l.getD i 0 + n * l.getD (i + 1) 0)
/-- the indices m-1, .., m-c -/
noncomputable def downS (n : Int) (m : Nat) : Nat → List Int → List Int
  | 0, l => l
  | c + 1, l => stepS n (downS n m c l) (m - 1 - c)
noncomputable def shiftG (n : Int) (m : Nat) : Nat → List Int → List Int
  | 0, l => l
  | c + 1, l => downS n m (m - c) (shiftG n m c l)
noncomputable def shiftZ (p : List Int) (n : Int) : List Int := shiftG n (p.length - 1) (p.length - 1) p

theorem stepS_len (n : Int) (l : List Int) (i : Nat) : (stepS n l i).length = l.length := by simp [stepS]
theorem downS_len (n : Int) (m c : Nat) (l : List Int) : (downS n m c l).length = l.length := by
  induction c with
  | zero => rfl
  | succ c ih => simp [downS, stepS_len, ih]
theorem shiftG_len (n : Int) (m c : Nat) (l : List Int) : (shiftG n m c l).length = l.length := by
  induction c with
  | zero => rfl
  | succ c ih => simp [shiftG, downS_len, ih]
theorem bd_getD {k : Nat} {l : List Int} (h : Bd k l) (i : Nat) : (l.getD i 0).natAbs ≤ 2 ^ k := by
  rw [List.getD_eq_getElem?_getD]
  cases e : l[i]? with
  | none => simp
  | some x => exact h x (List.mem_of_getElem? e)
theorem bd_stepS {k e : Nat} {n : Int} {l : List Int} {i : Nat} (h : Bd k l) (hn : n.natAbs ≤ 2 ^ e) : Bd (k + (e + 1)) (stepS n l i) := by
  intro x hx
  rcases List.mem_or_eq_of_mem_set hx with q | rfl
  · exact h.mono (by lia) x q
  · have h1 := bd_getD h i
    have h2 := natAbs_mul_le hn (bd_getD h (i + 1))
    have h3 : 2 ^ k ≤ 2 ^ (e + k) := Nat.pow_le_pow_right (by lia) (by lia)
    have h4 : 2 ^ (k + (e + 1)) = 2 ^ (e + k) * 2 := by rw [← Nat.pow_succ]; congr 1; lia
    rw [h4]
    lia
theorem bd_downS {k e : Nat} {n : Int} {l : List Int} {m c : Nat} (h : Bd k l) (hn : n.natAbs ≤ 2 ^ e) : Bd (k + c * (e + 1)) (downS n m c l) := by
  induction c with
  | zero => simpa [downS] using h
  | succ c ih => rw [Nat.add_mul, Nat.one_mul, ← Nat.add_assoc]; exact bd_stepS ih hn

/-- one turn of the pseudo division -/
noncomputable def stepR (b : List Int) (first : Int) (rest : List Int) : List Int := subZ (scaleZ rest first) (raiseZ (scaleZ b (leadZ rest)) (rest.length - b.length))
noncomputable def pseuL (b : List Int) (first : Int) : Nat → List Int → List Int × Nat
  | 0, rest => (rest, 0)
  | left + 1, rest => if b.length ≤ rest.length then pseuL b first left (stepR b first rest) else (rest, left + 1)
noncomputable def premZ (a b : List Int) : List Int := scaleZ (pseuL b (leadZ b) (a.length + 1 - b.length) a).1 (leadZ b ^ (pseuL b (leadZ b) (a.length + 1 - b.length) a).2)

theorem addL_snoc : ∀ {x y : List Int} (u v : Int), x.length = y.length → addL (x ++ [u]) (y ++ [v]) = addL x y ++ [u + v]
  | [], [], u, v, _ => rfl
  | [], _ :: _, _, _, h => by simp at h
  | _ :: _, [], _, _, h => by simp at h
  | a :: x, b :: y, u, v, h => by
    simp only [List.cons_append, addL]
    rw [addL_snoc u v (by simpa using h)]
theorem leadZ_snoc (x : List Int) (u : Int) : leadZ (x ++ [u]) = u := by simp [leadZ]
theorem snoc_of_ne {x : List Int} (h : x ≠ []) : ∃ y u, x = y ++ [u] := ⟨x.dropLast, x.getLast h, (List.dropLast_concat_getLast h).symm⟩
theorem tidy_lead {x : List Int} (h : Tidy x) (hn : x ≠ []) : leadZ x ≠ 0 := by
  obtain ⟨y, u, rfl⟩ := snoc_of_ne hn
  rw [leadZ_snoc]; exact h u (by simp)
theorem addZ_len (a b : List Int) : (addZ a b).length ≤ max a.length b.length := by
  unfold addZ; have := trimZ_length (addL a b); rw [addL_length] at this; exact this
theorem negZ_len (a : List Int) : (negZ a).length = a.length := by simp [negZ]
theorem scaleZ_len (a : List Int) (k : Int) : (scaleZ a k).length ≤ a.length := by unfold scaleZ; split <;> simp
theorem raiseZ_len (a : List Int) (k : Nat) : (raiseZ a k).length ≤ k + a.length := by unfold raiseZ; split <;> simp
theorem subZ_len (a b : List Int) : (subZ a b).length ≤ max a.length b.length := by
  unfold subZ; have := addZ_len a (negZ b); rw [negZ_len] at this; exact this
theorem tidy_subZ (a b : List Int) : Tidy (subZ a b) := tidy_trimZ _

theorem stepR_len {b rest : List Int} (hb : Tidy b) (hbn : b ≠ []) (hr : Tidy rest) (hl : b.length ≤ rest.length) : (stepR b (leadZ b) rest).length < rest.length := by
  have hrn : rest ≠ [] := fun q => by subst q; exact hbn (List.length_eq_zero_iff.mp (by simpa using hl))
  have h1 := tidy_lead hb hbn
  have h2 := tidy_lead hr hrn
  obtain ⟨x, u, rfl⟩ := snoc_of_ne hbn
  obtain ⟨y, v, rfl⟩ := snoc_of_ne hrn
  rw [leadZ_snoc] at h1 h2
  have e1 : scaleZ (y ++ [v]) u = y.map (fun z => z * u) ++ [v * u] := by unfold scaleZ; rw [if_neg h1]; simp
  have e2 : scaleZ (x ++ [u]) v = x.map (fun z => z * v) ++ [u * v] := by unfold scaleZ; rw [if_neg h2]; simp
  unfold stepR subZ addZ
  rw [leadZ_snoc, leadZ_snoc, e1, e2]
  unfold raiseZ negZ
  rw [if_neg (by simp), ← List.append_assoc, List.map_append, List.map_cons, List.map_nil]
  simp only [List.length_append, List.length_cons, List.length_nil] at hl
  rw [addL_snoc _ _ (by simp; lia), show v * u + -(u * v) = 0 by rw [Int.mul_comm]; lia, trimZ_snoc0]
  have := trimZ_length (addL (List.map (fun z => z * u) y) (List.map (fun x => -x) (List.replicate ((y ++ [v]).length - (x ++ [u]).length) 0 ++ List.map (fun z => z * v) x)))
  rw [addL_length] at this
  simp at this ⊢
  lia

/-- what is so after each turn -/
theorem pseuL_ok {b : List Int} (hb : Tidy b) (hbn : b ≠ []) : ∀ {left : Nat} {rest : List Int}, Tidy rest → rest.length + 1 ≤ b.length + left → (pseuL b (leadZ b) left rest).1.length < b.length ∧ Tidy (pseuL b (leadZ b) left rest).1 ∧ (pseuL b (leadZ b) left rest).2 ≤ left
  | 0, rest, hr, h => ⟨by simp only [pseuL]; lia, hr, Nat.le_refl _⟩
  | left + 1, rest, hr, h => by
    unfold pseuL
    by_cases hl : b.length ≤ rest.length
    · rw [if_pos hl]
      have := stepR_len hb hbn hr hl
      obtain ⟨h1, h2, h3⟩ := pseuL_ok hb hbn (left := left) (rest := stepR b (leadZ b) rest) (tidy_subZ _ _) (by lia)
      exact ⟨h1, h2, by lia⟩
    · rw [if_neg hl]
      exact ⟨show rest.length < b.length by lia, hr, Nat.le_refl _⟩
theorem natAbs_pow_le {k : Nat} {x : Int} (h : x.natAbs ≤ 2 ^ k) : ∀ n : Nat, (x ^ n).natAbs ≤ 2 ^ (k * n)
  | 0 => by simp
  | n + 1 => by
    rw [Int.pow_succ, Nat.mul_succ]
    exact natAbs_mul_le (natAbs_pow_le h n) h
theorem bd_stepR {k K : Nat} {b rest : List Int} (hb : Bd k b) (hr : Bd K rest) : Bd (K + (k + 1)) (stepR b (leadZ b) rest) := by
  have h1 := bd_scaleZ hr (bd_lead hb)
  have h2 := bd_raiseZ (n := rest.length - b.length) (bd_scaleZ hb (bd_lead hr))
  rw [Nat.add_comm k K] at h2
  exact bd_subZ h1 h2
theorem bd_pseuL {k : Nat} {b : List Int} (hb : Bd k b) : ∀ {left K : Nat} {rest : List Int}, Bd K rest → Bd (K + (k + 1) * (left - (pseuL b (leadZ b) left rest).2)) (pseuL b (leadZ b) left rest).1
  | 0, K, rest, hr => by simpa [pseuL] using hr
  | left + 1, K, rest, hr => by
    unfold pseuL
    by_cases hl : b.length ≤ rest.length
    · rw [if_pos hl]
      have h1 := bd_pseuL hb (left := left) (bd_stepR hb hr)
      have h2 : (pseuL b (leadZ b) left (stepR b (leadZ b) rest)).2 ≤ left := by
        clear h1
        generalize stepR b (leadZ b) rest = r
        induction left generalizing r with
        | zero => exact Nat.le_refl _
        | succ n ih =>
          unfold pseuL
          split
          · have := ih (stepR b (leadZ b) r); lia
          · exact Nat.le_refl _
      refine h1.mono ?_
      rw [show left + 1 - (pseuL b (leadZ b) left (stepR b (leadZ b) rest)).2 = (left - (pseuL b (leadZ b) left (stepR b (leadZ b) rest)).2) + 1 by lia, Nat.mul_add]
      lia
    · rw [if_neg hl]; simpa using hr
end Mine
end

-- MExc
section
set_option maxRecDepth 100000
namespace Mine
open PySem PySem.W PyProof.Rows

theorem gm_cls : findCls [] (.type "Exception") (.type "type") "__init__" = some (.val (.builtin "Exception.__init__")) := by kernel_rfl
theorem fr_any {h : Heap} {L : Addr} {m : Str → Option Value} (hn : h.Ns L m) : Fr { objs := #[], life := default } L h m := ⟨hn, fun b o e => by simp [Heap.get?] at e, by simp⟩
theorem getMethod_init {prog : Program} {w : World} {A : Around} {E : Value → Shared → Prop} {s : Shared} {pl : Sem Bool} {L : Addr} {m : Str → Option Value} {Q : Value × List Value → Shared → Prop} (hn : s.heap.Ns L m) (h : Q (.builtin "Exception.__init__", []) { s with toks := s.toks + 1 }) :
    wpAny (model prog w) A (getMethod (.type "Exception") "__init__" pl) Q E s :=
  method_type (fr_any hn) (K := []) (by intro a o e; cases e) (by kernel_rfl) (by decide +kernel) gm_cls (by decide +kernel) h

section
variable {prog : Program} {w : World} {A : Around} {E : Value → Shared → Prop} {h : Heap} {g : Array GenState} {d : Drawn} {t : Nat} {os : OsState}
variable {nm q : Str} {C N : Addr} {bs bm : List Value} {hdct : Bool} {sn : List Str} {sub : List Value} {ab : Bool} {col : Option Bool} {dd : Option Addr} {k0 k1 k2 k3 k5 : Option Value} {B newId initId : String}

theorem exc_init (F : ExcBaseFacts B newId initId bm) {e t0 : Addr} {v : Value} {Q : Value → Shared → Prop}
    (hC : h.get? C = some (excClassObj nm q C N bs bm hdct sn sub ab col dd k0 k1 k2 k3 k5 newId)) (he : h.get? e = some { cls := .ref C, data := .fields #[.ref t0, .none, .none, .none, .bool false, .none] })
    (hq : ∀ h' t', (∀ b o, b ≠ e → h.get? b = some o → h'.get? b = some o) → h'.get? e = some { cls := .ref C, data := .fields #[.ref t', .none, .none, .none, .bool false, .none] } → Q .none ⟨h', g, d, t, os⟩) :
    wpAny (model prog w) A (call (.builtin initId) [.ref e, v]) Q E ⟨h, g, d, t, os⟩ := by
  refine wpAny_call (codeAny_call_builtin F.init.plain F.initEntry (wpAny_check_init_sub F hC he rfl ?_))
  wp_walk
  refine hq _ h.objs.size (fun b o hb g => ?_) ?_
  · rw [Heap.get?_update_other _ _ (Ne.symm hb)]
    exact Heap.get?_push_of_some _ g
  · rw [Heap.get?_update_self _ (Heap.get?_push_of_some _ he) rfl]
    rfl
end
end Mine
end

-- MExc1
section
set_option maxRecDepth 100000
namespace Mine
open PySem PySem.W PyProof.Rows
open PySem.Builtin PySem.Builtin.ObjectAttr

section
variable {prog : Program} {w : World} {A : Around} {E : Value → Shared → Prop} {h : Heap} {g : Array GenState} {d : Drawn} {t : Nat} {os : OsState}
variable {nm q : Str} {C N x : Addr} {bs bm : List Value} {sn : List Str} {sub : List Value} {ab : Bool} {col : Option Bool} {dd : Option Addr} {k0 k1 k2 k3 k5 : Option Value} {B newId sa owner : String}
  {mN : Str → Option Value} {name : Str} {v : Value} {vs : Array Value} {o : Obj}

/-- the first field that an exception is given: its dict is new -/
theorem first_attr {Q : Unit → Shared → Prop} (SF : StoreFacts B bm sa owner)
    (hC : h.get? C = some (excClassObj nm q C N bs bm true sn sub ab col dd k0 k1 k2 k3 k5 newId)) (hn : h.Ns N mN) (hns : mN "__setattr__" = none) (hna : mN name = none)
    (hB : typeLookup (.type B) name = pure none) (hx : h.get? x = some o) (hc : o.cls = .ref C) (hdn : o.dict = none) (hdat : o.data = .fields vs)
    (hq : ∀ h' tk' D, h.get? D = none → (∀ b o, b ≠ x → h.get? b = some o → h'.get? b = some o) → h'.get? x = some { o with dict := some D } →
      h'.Ns1 D (fun y => if y = name then some v else none) → Q () ⟨h', g, d, tk', os⟩) :
    wpAny (model prog w) A (setAttr (.ref x) name v) Q E ⟨h, g, d, t, os⟩ := by
  have f3 := SF.slot.bind (.ref x)
  have hpass := SF.passes (.ref x)
  unfold setAttr callSpecial? specialOf
  repeat (any_goals (first | assumption | (with_reducible refine wpAny_loadPart_at hx ?_; rw [hc]) | (with_reducible refine wpAny_typeLookup_exc hC hn SF.mro SF.slot.lookup ?_; rw [hns]) | wp_step))
  refine codeAny_call_builtin SF.slot.plain SF.entry (wpAny_check_sa SF hC hx hc ?_)
  unfold Builtin.«object.__setattr__»
  repeat (first | rw [refuse_eq] | (rw [refuseLoop_ref, hpass]) | (with_reducible refine wpAny_loadPart_at hx ?_; rw [hc]) | with_reducible refine wpAny_mroOf_exc hC ?_ | (with_reducible refine wpAny_typeLookup_exc hC hn SF.mro hB ?_; rw [hna]) | wp_step)
  rw [hdn, hdat]
  dsimp only
  rw [if_neg (by simp [typeHasDict])]
  have hxs : x ≠ h.objs.size := Nat.ne_of_lt (Heap.lt_size hx)
  have hx1 : (h.push { cls := .type "dict", data := .dict #[] }).get? x = some o := Heap.get?_push_of_some _ hx
  have hfree : ({ o with dict := some h.objs.size } : Obj).isFreed = false := Obj.isFreed_of_fields (vs := vs) hdat
  refine wpAny_bind (wpAny_alloc' (wpAny_bind (wpAny_update' hx1 (wpAny_pure ?_))))
  show wpAny _ _ (storeInDict h.objs.size (.str name _) name v) _ _ _
  have hgd : ((h.push { cls := .type "dict", data := .dict #[] }).update x fun o => { cls := o.cls, dict := some h.objs.size, data := o.data, slots := o.slots }).Ns h.objs.size (fun _ => none) :=
    ⟨_, #[], _, (Heap.get?_update_ne _ _ _ _ hxs.symm).trans (Heap.get?_push_at rfl rfl), rfl, fun e he => absurd he (by simp), fun _ => rfl⟩
  unfold storeInDict newKeyGuard
  refine wpAny_bind (wpAny_pure (wpAny_bind (wpAny_nsSet1 (Heap.Ns1.of_empty hgd) fun h' hn' hs => ?_)))
  obtain ⟨oD, esD, epD, hoD, hdD, hcD⟩ := hn'.count (Within.cons name v Within.nil)
  refine wpAny_bind (wpAny_lookBehind hoD (by rw [hdD]; exact pastItsLine_dict (Nat.le_trans hcD (by simp [sizeLine_eq]))) ?_)
  wp_walk
  refine hq h' _ h.objs.size ?_ (fun b ob hb gb => ?_) ?_ hn'
  · cases q : h.get? h.objs.size with
    | none => rfl
    | some ob => exact absurd (Heap.lt_size q) (Nat.lt_irrefl _)
  · exact (hs.2 b (Nat.ne_of_lt (Heap.lt_size gb))).trans ((Heap.get?_update_ne _ _ _ _ hb).trans (Heap.get?_push_of_some _ gb))
  · exact (hs.2 x hxs).trans (Heap.get?_update_self _ hx1 hfree)
end
end Mine
end

-- the steps of a walk
section
set_option maxRecDepth 100000
namespace Mine
open PySem PySem.W PyProof.Rows
local macro_rules | `(tactic| walk_at "m look") => `(tactic| first | assumption | exact upd_same | (refine upd_ne (by decide) ?_; walk_at "m look") | exact rfl)
local macro_rules | `(tactic| walk_at "m star") => `(tactic| (intro _; rfl))
local macro_rules | `(tactic| walk_at "m kind") => `(tactic| first | exact Or.inl rfl | exact Or.inr rfl)
local macro_rules | `(tactic| walk_at "m env") => `(tactic| (intro env he; obtain ⟨sc, _, _, _, _, _, _, _, _⟩ := env; have he : sc = _ := he; subst he; rfl))
local macro_rules | `(tactic| walk_at "m built") => `(tactic| first | exact Or.inl ⟨_, rfl⟩ | exact Or.inr ⟨_, rfl⟩)
local macro_rules | `(tactic| walk_at "m slice") => `(tactic| (intro _ _ _ h; cases h))
local macro_rules | `(tactic| walk_at "m named") => `(tactic| first | assumption | exact Fns.len (by assumption) | exact Fns.abs (by assumption) | exact Fns.range (by assumption) | exact Fns.list (by assumption) | exact Fns.max (by assumption) | exact Fns.enum (by assumption))
local macro_rules | `(tactic| walk_at "m comp") => `(tactic| (exact ⟨rfl, by decide, by decide, by decide⟩))
local macro_rules | `(tactic| walk_at "m gens") => `(tactic| first | exact Or.inl rfl | exact Or.inr ⟨_, _, _, rfl, fun _ _ => rfl⟩)
local macro_rules | `(tactic| walk_at "m fn") => `(tactic| ((with_reducible refine' EV_fnN (by assumption) ?k1 ?k2 ?k3 ?k4 ?k5 ?k6); (case k1 => with_reducible constructor); (case k2 => decide); (case k3 => rfl); (case k4 => walk_at "m star"); (case k6 => decide)))
local macro_rules | `(tactic| walk_at "m ev0") => `(tactic| first
  | ((with_reducible refine' EV_local ?k0 ?k1 ?k2 ?k3); (case k1 => walk_at "m look"); (case k2 => rfl); (case k3 => decide))
  | ((with_reducible refine' EV_cell ?k0 ?k1 ?k2 ?k3); (case k1 => walk_at "m look"); (case k2 => rfl); (case k3 => decide))
  | ((with_reducible refine' EV_cmp ?k0 ?k1 ?k2); (case k1 => with_unfolding_all rfl); (case k2 => decide))
  | ((with_reducible refine' TV_cmp ?k0 ?k1 ?k2); (case k1 => with_unfolding_all rfl); (case k2 => decide))
  | ((with_reducible refine' EVs_cons ?k0 ?k1); (case k1 => walk_at "m star"))
  | ((with_reducible refine' EX_swap2 ?k0 ?k1 ?k2 ?k3 ?k4); (case k1 => rfl); (case k2 => rfl); (case k3 => walk_at "m env"); (case k4 => walk_at "m env"))
  | ((with_reducible refine' EX_swap3 ?k0 ?k1 ?k2 ?k3 ?k4 ?k5); (case k1 => rfl); (case k2 => rfl); (case k3 => rfl); (case k4 => walk_at "m env"); (case k5 => walk_at "m env"))
  | ((with_reducible refine' EX_aug ?k0 ?k1 ?k2); (case k0 => walk_at "m look"); (case k2 => rfl))
  | ((with_reducible refine' EV_built ?k0 ?k1 ?k2 ?k3 ?k4 ?k5 ?k6 ?k7); (case k3 => walk_at "m named"); (case k1 => exact Nat.le_refl _); (case k2 => rfl); (case k4 => walk_at "m built"); (case k5 => decide); (case k6 => walk_at "m star"); (case k7 => walk_at "m star"))
  | ((with_reducible refine' EX_assign ?k0 ?k1 ?k2); (case k1 => walk_at "m kind"); (case k2 => walk_at "m env"))
  | ((with_reducible refine' EX_assignT ?k0 ?k1 ?k2 ?k3); (case k1 => walk_at "m star"); (case k2 => walk_at "m env"); (case k3 => walk_at "m env"))
  | ((with_reducible refine' JA_tup ?k0 ?k1 ?k2); (case k1 => walk_at "m star"); (case k2 => walk_at "m star"))
  | ((with_reducible refine' JAs_cons ?k0 ?k1); (case k1 => walk_at "m star"))
  | ((with_reducible refine' JA_name ?k0 ?k1); (case k1 => walk_at "m kind"))
  | ((with_reducible refine' JL_tup ?k0 ?k1 ?k2); (case k1 => walk_at "m star"); (case k2 => walk_at "m star"))
  | ((with_reducible refine' JLs_cons ?k0 ?k1); (case k1 => walk_at "m star"))
  | ((with_reducible refine' JL_name ?k0 ?k1); (case k1 => rfl))
  | (with_reducible first | refine EV_int ?_ | refine EV_bool ?_ | refine EV_str ?_ | refine EV_bin ?_ | refine EV_neg ?_ | refine neg1 ?_ | refine EV_if ?_ | refine TV_and_nil ?_ | refine TV_or_nil ?_ | refine TV_and ?_ | refine TV_or ?_ | refine EVs_nil ?_ | refine EV_tup ?_ | refine EV_from ?_ | refine EV_upto ?_ | refine EXs_nil ?_ | refine EXs_cons ?_ | refine ck_next ?_ | refine ck_ret ?_ | refine tk_next ?_ | refine tk_ret ?_ | refine EX_return ?_ | refine short0 ?_ | refine short1 ?_ | refine short2 ?_ | refine short3 ?_ | refine short4 ?_ | refine tup2 ?_ | refine tup3 ?_ | refine ao_add ?_ | refine ao_sub ?_ | refine BJ_abs ?_ | refine BJ_int ?_ | refine BJ_range1 ?_ | refine BJ_range2 ?_ | refine bo_add ?_ | refine bo_sub ?_ | refine co_eq ?_ | refine co_ne ?_ | refine co_lt ?_ | refine co_le ?_ | refine co_gt ?_ | refine co_ge ?_ | refine rk_ret ?_ | refine upto_mk ?_ | refine downto_mk ?_ | refine rk_next ?_ | refine JAs_nil ?_ | refine cturn1 ?_ | refine cturn2 ?_ | refine tests0 ?_ | refine JLs_nil ?_)
  | ((with_reducible refine' EV_sub ?k0 ?k1); (case k1 => (intro _ _; exact ⟨_, rfl⟩)))
  | walk_at "m fn")
local macro_rules | `(tactic| walk_at "m ev") => `(tactic| first | walk_at "m ev0" | with_reducible refine EX_if ?_)

-- MF1
section
set_option maxRecDepth 100000
open PySem PySem.W PyProof.Rows

variable {C : Cx} {st : Sto}
theorem gcd_ok (hF : Fns C) (a b : Int) (Q : PV → Sto → Prop) (h : Q (.int (Int.gcd a b)) st) : CJ C 20 (fnName 3) [.int a, .int b] st Q := by
  refine CJ_fn (m := 19) (names := ["a", "b"]) hF.f3 ⟨fun _ _ _ => all_len2 fun _ _  => rfl, by decide, by decide, by decide, rfl, rfl, rfl⟩ rfl ?_
  · refine EXs_cons ?_
    repeat walk_at "m ev"
    refine EX_while (fun k rho st' => ∃ x y : Nat, rho "a" = some (.int x) ∧ rho "b" = some (.int y) ∧ Nat.gcd x y = Int.gcd a b ∧ k = y ∧ st' = st) b.natAbs ⟨a.natAbs, b.natAbs, by walk_at "m look", by walk_at "m look", rfl, rfl, rfl⟩ ?_
    rintro k rho st' K D hK hD ⟨x, y, hx, hy, hg, hk, rfl⟩
    repeat walk_at "m ev"
    refine if_ndec (fun hne => ?_) fun he => ?_
    · repeat walk_at "m ev"
      refine bo_mod hne ?_
      repeat walk_at "m ev"
      have hy0 : y ≠ 0 := by simpa using hne
      refine hK _ _ _ (tk_next ⟨x % y, by rw [hk]; exact Nat.mod_lt _ (by lia), y, x % y, by walk_at "m look", ?_, ?_, rfl, rfl⟩)
      · rw [show ((x % y : Nat) : Int) = (x : Int).fmod y by rw [Int.fmod_eq_emod_of_nonneg _ (by lia)]; rfl]; walk_at "m look"
      · rw [← hg, Nat.gcd_comm, ← Nat.gcd_rec, Nat.gcd_comm]
    · have hy0 : y = 0 := by simpa using he
      subst hy0
      repeat walk_at "m ev"
      refine hD _ _ ?_
      repeat walk_at "m ev"
      rw [Nat.gcd_zero_right] at hg
      rw [hg]; exact h

theorem gcd_all_ok (hF : Fns C) (p : List Int) (Q : PV → Sto → Prop) (h : Q (.int (contZ p)) st) : CJ C 21 (fnName 4) [.list (pis p)] st Q := by
  refine CJ_fn (m := 20) (names := ["numbers"]) hF.f4 ⟨fun _ _ _ => all_len1 fun _  => rfl, by decide, by decide, by decide, rfl, rfl, rfl⟩ rfl ?_
  · refine EXs_cons ?_
    repeat walk_at "m ev"
    refine EX_for (tt := false) (JI_list ?_) (fun _ _ => rfl) (by nofun)
    repeat walk_at "m ev"
    refine ⟨_, rfl, fun k rho st' => ∃ g : Nat, rho "found" = some (.int g) ∧ gcdL g (p.drop k) = contZ p ∧ st' = st, ⟨0, by walk_at "m look", rfl, rfl⟩, ?_, ?_⟩
    · rintro k x rho st' K hK hx ⟨g, hg, he, rfl⟩
      obtain ⟨z, hz, rfl⟩ := pis_get hx
      refine JA_name ?_ (by walk_at "m kind")
      refine EXs_cons ?_
      repeat walk_at "m ev"
      refine gcd_ok hF _ _ _ ?_
      repeat walk_at "m ev"
      refine hK _ _ _ (tk_next ⟨_, by walk_at "m look", ?_, rfl⟩)
      rw [drop_of_get hz] at he
      exact he
    · rintro rho st' ⟨g, hg, he, rfl⟩
      repeat walk_at "m ev"
      rw [show (pis p).length = p.length by simp [pis], List.drop_length] at he
      have he : g = contZ p := he
      rw [he]; exact h

theorem zdegree_ok (hF : Fns C) (p : List Int) (hp : p.length ≤ 1000000) (Q : PV → Sto → Prop) (h : Q (.int (p.length - 1)) st) : CJ C 20 (fnName 7) [.list (pis p)] st Q := by
  refine CJ_fn (m := 19) (names := ["p"]) hF.f7 ⟨fun _ _ _ => all_len1 fun _  => rfl, by decide, by decide, by decide, rfl, rfl, rfl⟩ rfl ?_
  · refine EXs_cons ?_
    repeat walk_at "m ev"
    refine BJ_len ?_ (by rw [pis_len]; exact hp)
    repeat walk_at "m ev"
    rw [pis_len]; exact h

theorem ztrim_ok (hF : Fns C) (p : List Int) (hp : p.length ≤ 1000000) (Q : PV → Sto → Prop) (h : Q (.list (pis (trimZ p))) st) : CJ C 20 (fnName 6) [.list (pis p)] st Q := by
  refine CJ_fn (m := 19) (names := ["row"]) hF.f6 ⟨fun _ _ _ => all_len1 fun _  => rfl, by decide, by decide, by decide, rfl, rfl, rfl⟩ rfl ?_
  · refine EXs_cons ?_
    repeat walk_at "m ev"
    refine BJ_len ?_ (by rw [pis_len]; exact hp)
    repeat walk_at "m ev"
    refine EX_while (fun k rho st' => k ≤ p.length ∧ rho "row" = some (.list (pis p)) ∧ rho "size" = some (.int k) ∧ trimZ (p.take k) = trimZ p ∧ st' = st) p.length ⟨Nat.le_refl _, by walk_at "m look", by rw [pis_len]; walk_at "m look", by rw [List.take_length], rfl⟩ ?_
    rintro k rho st' K D hK hD ⟨hk, hr, hs, ht, rfl⟩
    repeat walk_at "m ev"
    refine if_dec (fun hpos => ?_) fun he => ?_
    · obtain ⟨j, rfl⟩ : ∃ j, k = j + 1 := ⟨k - 1, by lia⟩
      have hj : j < p.length := hk
      have hget : p[j]? = some p[j] := List.getElem?_eq_getElem hj
      have htake : p.take (j + 1) = p.take j ++ [p[j]] := by rw [List.take_add_one, hget]; rfl
      repeat walk_at "m ev"
      refine ⟨.int p[j], by rw [pis_len]; exact hp, ?_, ?_⟩
      · rw [if_neg (by lia), show ((j + 1 : Nat) : Int) - 1 = (j : Int) by lia, Int.toNat_natCast]; exact get_pis hget
      repeat walk_at "m ev"
      refine if_dec (fun hz => ?_) fun hnz => ?_
      · repeat walk_at "m ev"
        simp only [if_true]
        repeat walk_at "m ev"
        refine hK _ _ _ (tk_next ⟨j, by lia, by lia, by walk_at "m look", ?_, ?_, rfl⟩)
        · rw [show ((j + 1 : Nat) : Int) - 1 = (j : Int) by lia]; walk_at "m look"
        · rw [← ht, htake, hz, trimZ_snoc0]
      · simp only [Bool.false_eq_true, if_false]
        repeat walk_at "m ev"
        refine hD _ _ ?_
        repeat walk_at "m ev"
        refine ⟨_, _, rfl, rfl, by lia, by rw [pis_len]; exact hp, ?_⟩
        repeat walk_at "m ev"
        refine BJ_list ?_ (by rw [List.length_take, pis_len]; lia)
        repeat walk_at "m ev"
        rw [Int.toNat_natCast, show (pis p).take (j + 1) = pis (p.take (j + 1)) by simp [pis], ← (by rw [htake, trimZ_snoc hnz] : trimZ (p.take (j + 1)) = p.take (j + 1)), ht]; exact h
    · simp only [Bool.false_eq_true, if_false]
      repeat walk_at "m ev"
      refine hD _ _ ?_
      repeat walk_at "m ev"
      have : k = 0 := by lia
      subst this
      refine ⟨_, _, rfl, rfl, by lia, by rw [pis_len]; exact hp, ?_⟩
      repeat walk_at "m ev"
      refine BJ_list ?_ (by rw [List.length_take, pis_len]; lia)
      repeat walk_at "m ev"
      rw [Int.toNat_natCast, show (pis p).take 0 = pis (p.take 0) by simp [pis], ← (by rw [List.take_zero]; rfl : trimZ (p.take 0) = p.take 0), ht]; exact h

theorem zlead_ok (hF : Fns C) (p : List Int) (hp : p.length ≤ 1000000) (Q : PV → Sto → Prop) (h : Q (.int (leadZ p)) st) : CJ C 20 (fnName 8) [.list (pis p)] st Q := by
  refine CJ_fn (m := 19) (names := ["p"]) hF.f8 ⟨fun _ _ _ => all_len1 fun _  => rfl, by decide, by decide, by decide, rfl, rfl, rfl⟩ rfl ?_
  · refine EXs_cons ?_
    repeat walk_at "m ev"
    refine BJ_len ?_ (by rw [pis_len]; exact hp)
    repeat walk_at "m ev"
    refine if_dec (fun hpos => ?_) fun he => ?_
    · rw [pis_len] at hpos
      repeat walk_at "m ev"
      have hlt : p.length - 1 < p.length := by lia
      have hget : p[p.length - 1]? = some p[p.length - 1] := List.getElem?_eq_getElem hlt
      refine ⟨.int p[p.length - 1], by rw [pis_len]; exact hp, ?_, ?_⟩
      · rw [if_pos (by lia), pis_len, show (-1 + (p.length : Int)).toNat = p.length - 1 by lia]
        exact ⟨by lia, get_pis hget⟩
      repeat walk_at "m ev"
      unfold leadZ at h
      rw [List.getLast?_eq_getElem?, hget] at h; exact h
    · rw [pis_len] at he
      have : p = [] := List.length_eq_zero_iff.mp (by lia)
      subst this
      repeat walk_at "m ev"
      exact h

theorem zneg_ok (hF : Fns C) (p : List Int) (hp : p.length ≤ 1000000) (Q : PV → Sto → Prop) (h : Q (.list (pis (negZ p))) st) : CJ C 20 (fnName 10) [.list (pis p)] st Q := by
  refine CJ_fn (m := 19) (names := ["p"]) hF.f10 ⟨fun _ _ _ => all_len1 fun _  => rfl, by decide, by decide, by decide, rfl, rfl, rfl⟩ rfl ?_
  · refine EXs_cons ?_
    repeat walk_at "m ev"
    refine EV_comp (tt := false) (JI_list ?_) (by walk_at "m gens") (fun _ _ => rfl) (by nofun) (by walk_at "m comp")
    repeat walk_at "m ev"
    refine ⟨_, rfl, fun k rho' l => l = pis (negZ (p.take k)), rfl, ?_, ?_⟩
    · rintro k x rho' l K hK hx rfl
      obtain ⟨z, hz, rfl⟩ := pis_get hx
      refine JL_name ?_ rfl
      show EV _ _ _ _ _ _ _
      repeat walk_at "m ev"
      refine ⟨rfl, ?_, rfl, hK _ _ ?_⟩
      · simp [pis, negZ]; lia
      · rw [List.take_add_one, hz]; simp [pis, negZ]
    · rintro rho' l rfl
      repeat walk_at "m ev"
      rw [pis_len, List.take_length]; exact h
end

-- MF2
section
set_option maxRecDepth 100000
open PySem PySem.W PyProof.Rows

variable {C : Cx} {st : Sto}
theorem zadd_ok (hF : Fns C) (hc : C.calm = true) (a b : List Int) (ha : a.length ≤ 1000) (hb : b.length ≤ 1000) (Q : PV → Sto → Prop) (h : Q (.list (pis (addZ a b))) st) : CJ C 21 (fnName 9) [.list (pis a), .list (pis b)] st Q := by
  refine CJ_fn (m := 20) (names := ["a", "b"]) hF.f9 ⟨fun _ _ _ => all_len2 fun _ _  => rfl, by decide, by decide, by decide, rfl, rfl, rfl⟩ rfl ?_
  · refine EXs_cons ?_
    repeat walk_at "m ev"
    refine BJ_len ?_ (by rw [pis_len]; lia)
    repeat walk_at "m ev"
    refine BJ_len ?_ (by rw [pis_len]; lia)
    repeat walk_at "m ev"
    refine BJ_max2 hc ?_
    repeat walk_at "m ev"
    rw [pis_len, pis_len]
    refine EV_comp (tt := false) (JI_up hc ?_) (by walk_at "m gens") (fun _ _ => rfl) (by nofun) (by walk_at "m comp")
    repeat walk_at "m ev"
    refine ⟨by decide, by lia, fun k rho' l => Ext (compVars _ (fnScope 9) _) rho' ∧ l = pis ((addL a b).take k), ⟨.refl, rfl⟩, ?_, ?_⟩
    · rintro k x rho' l K hK hx ⟨he, rfl⟩
      obtain ⟨hk, rfl⟩ := rangeP_get hx
      have hk : k < max a.length b.length := by lia
      have h1 : rho' "a" = some (.list (pis a)) := ext_look he (by walk_at "m look") rfl
      have h2 : rho' "b" = some (.list (pis b)) := ext_look he (by walk_at "m look") rfl
      have hg := addL_get a b k hk
      have hI : ((0 : Int) + k * 1) = k := by lia
      rw [hI]
      have hstd : ∀ (X : List Int) (nm : Str), rho' nm = some (.list (pis X)) → True := fun _ _ _ => trivial
      refine JL_name ?_ rfl
      show EV _ _ _ _ _ _ _
      refine EV_bin (JE.mono (Q := fun p st1 => p = .int (if k < a.length then a.getD k 0 else 0) ∧ st1 = st ++ [some (pis ((addL a b).take k))]) ?_ ?_)
      · repeat walk_at "m ev"
        refine BJ_len ?_ (by rw [pis_len]; lia)
        rw [pis_len]
        repeat walk_at "m ev"
        refine if_dec (fun hlt => ?_) fun hge => ?_
        · have hlt : k < a.length := by lia
          repeat walk_at "m ev"
          refine ⟨.int (a.getD k 0), by rw [pis_len]; lia, ?_, ?_⟩
          · rw [if_neg (by lia), Int.toNat_natCast]
            exact get_pis (by rw [List.getD_eq_getElem?_getD, List.getElem?_eq_getElem hlt]; rfl)
          · rw [if_pos hlt]; exact ⟨rfl, rfl⟩
        · repeat walk_at "m ev"
          rw [if_neg (by lia)]; exact ⟨rfl, rfl⟩
      rintro p st1 ⟨rfl, rfl⟩
      refine JE.mono (Q := fun p st1 => p = .int (if k < b.length then b.getD k 0 else 0) ∧ st1 = st ++ [some (pis ((addL a b).take k))]) ?_ ?_
      · repeat walk_at "m ev"
        refine BJ_len ?_ (by rw [pis_len]; lia)
        rw [pis_len]
        repeat walk_at "m ev"
        refine if_dec (fun hlt => ?_) fun hge => ?_
        · have hlt : k < b.length := by lia
          repeat walk_at "m ev"
          refine ⟨.int (b.getD k 0), by rw [pis_len]; lia, ?_, ?_⟩
          · rw [if_neg (by lia), Int.toNat_natCast]
            exact get_pis (by rw [List.getD_eq_getElem?_getD, List.getElem?_eq_getElem hlt]; rfl)
          · rw [if_pos hlt]; exact ⟨rfl, rfl⟩
        · repeat walk_at "m ev"
          rw [if_neg (by lia)]; exact ⟨rfl, rfl⟩
      rintro p st1 ⟨rfl, rfl⟩
      repeat walk_at "m ev"
      refine ⟨rfl, by rw [pis_len, List.length_take]; lia, rfl, hK _ _ ⟨he.upd rfl, ?_⟩⟩
      rw [List.take_add_one, hg]; simp [pis]
    · rintro rho' l ⟨he, rfl⟩
      repeat walk_at "m ev"
      have hl : (addL a b).length ≤ 1000 := by rw [addL_length]; lia
      have ht : (addL a b).take (rangeP 0 (max (a.length : Int) b.length - 0).toNat 1).length = addL a b := List.take_of_length_le (by rw [rangeP_len, addL_length]; lia)
      rw [ht]
      refine ztrim_ok hF _ (by lia) _ ?_
      repeat walk_at "m ev"
      exact h

theorem zsub_ok (hF : Fns C) (hc : C.calm = true) (a b : List Int) (ha : a.length ≤ 1000) (hb : b.length ≤ 1000) (Q : PV → Sto → Prop) (h : Q (.list (pis (subZ a b))) st) : CJ C 22 (fnName 11) [.list (pis a), .list (pis b)] st Q := by
  refine CJ_fn (m := 21) (names := ["a", "b"]) hF.f11 ⟨fun _ _ _ => all_len2 fun _ _  => rfl, by decide, by decide, by decide, rfl, rfl, rfl⟩ rfl ?_
  · refine EXs_cons ?_
    repeat walk_at "m ev"
    refine zneg_ok hF _ (by lia) _ ?_
    repeat walk_at "m ev"
    refine zadd_ok hF hc _ _ ha (by simp [negZ]; lia) _ ?_
    repeat walk_at "m ev"
    exact h

theorem zscale_ok (hF : Fns C) (p : List Int) (k : Int) (hp : p.length ≤ 1000) (hb : ∀ x ∈ p, Fits x) (hk : Fits k) (Q : PV → Sto → Prop) (h : Q (.list (pis (scaleZ p k))) st) : CJ C 20 (fnName 12) [.list (pis p), .int k] st Q := by
  refine CJ_fn (m := 19) (names := ["p", "k"]) hF.f12 ⟨fun _ _ _ => all_len2 fun _ _  => rfl, by decide, by decide, by decide, rfl, rfl, rfl⟩ rfl ?_
  · refine EXs_cons ?_
    repeat walk_at "m ev"
    refine if_ndec (fun hk0 => ?_) fun hk0 => ?_
    · refine EV_comp (tt := false) (JI_list ?_) (by walk_at "m gens") (fun _ _ => rfl) (by nofun) (by walk_at "m comp")
      repeat walk_at "m ev"
      refine ⟨_, rfl, fun i rho' l => Ext (compVars _ (fnScope 12) _) rho' ∧ l = pis ((p.take i).map fun x => x * k), ⟨.refl, rfl⟩, ?_, ?_⟩
      · rintro i x rho' l K hK hx ⟨he, rfl⟩
        obtain ⟨z, hz, rfl⟩ := pis_get hx
        have h1 : rho' "k" = some (.int k) := ext_look he (by walk_at "m look") rfl
        refine JL_name ?_ rfl
        show EV _ _ _ _ _ _ _
        repeat walk_at "m ev"
        refine bo_mul (hb z (List.mem_of_getElem? hz)) hk ?_
        refine ⟨rfl, by rw [pis_len]; simp; lia, rfl, hK _ _ ⟨he.upd rfl, ?_⟩⟩
        rw [List.take_add_one, hz]; simp [pis]
      · rintro rho' l ⟨he, rfl⟩
        repeat walk_at "m ev"
        unfold scaleZ at h
        rw [if_neg hk0] at h
        rw [pis_len, List.take_length]; exact h
    · refine EV_list ?_
      repeat walk_at "m ev"
      unfold scaleZ at h
      rw [if_pos hk0] at h; exact h

theorem zraise_ok (hF : Fns C) (p : List Int) (k : Nat) (hp : p.length ≤ 1000) (hk : k ≤ 1000) (Q : PV → Sto → Prop) (h : Q (.list (pis (raiseZ p k))) st) : CJ C 20 (fnName 13) [.list (pis p), .int k] st Q := by
  refine CJ_fn (m := 19) (names := ["p", "many"]) hF.f13 ⟨fun _ _ _ => all_len2 fun _ _  => rfl, by decide, by decide, by decide, rfl, rfl, rfl⟩ rfl ?_
  · refine EXs_cons ?_
    repeat walk_at "m ev"
    refine BJ_len ?_ (by rw [pis_len]; lia)
    rw [pis_len]
    repeat walk_at "m ev"
    unfold raiseZ at h
    refine if_dec (fun hpos => ?_) fun hpos => ?_
    · repeat walk_at "m ev"
      refine EV_list ?_
      repeat walk_at "m ev"
      refine bo_rep (by lia) (by simp; lia) (by lia) ?_
      repeat walk_at "m ev"
      refine BJ_list ?_ (by rw [pis_len]; lia)
      repeat walk_at "m ev"
      refine bo_cat (by simp [pis_len]; lia) ?_
      repeat walk_at "m ev"
      rw [if_neg (fun q => by rw [q] at hpos; simp at hpos)] at h
      rw [show (List.replicate (Int.toNat k) [PV.int 0]).flatten ++ pis p = pis (List.replicate k 0 ++ p) by simp [pis]]
      exact h
    · refine EV_list ?_
      repeat walk_at "m ev"
      have : p = [] := List.length_eq_zero_iff.mp (by lia)
      rw [if_pos this] at h; exact h

theorem zcontent_ok (hF : Fns C) (p : List Int) (Q : PV → Sto → Prop) (h : Q (.int (contZ p)) st) : CJ C 22 (fnName 14) [.list (pis p)] st Q := by
  refine CJ_fn (m := 21) (names := ["p"]) hF.f14 ⟨fun _ _ _ => all_len1 fun _  => rfl, by decide, by decide, by decide, rfl, rfl, rfl⟩ rfl ?_
  · refine EXs_cons ?_
    repeat walk_at "m ev"
    refine gcd_all_ok hF _ _ ?_
    repeat walk_at "m ev"
    exact h

theorem divided_ok (hF : Fns C) (p : List Int) (k : Int) (hp : p.length ≤ 1000) (hk0 : k ≠ 0) (hk : Fits k) (Q : PV → Sto → Prop) (h : Q (.list (pis (divZ p k))) st) : CJ C 20 (fnName 21) [.list (pis p), .int k] st Q := by
  refine CJ_fn (m := 19) (names := ["p", "number"]) hF.f21 ⟨fun _ _ _ => all_len2 fun _ _  => rfl, by decide, by decide, by decide, rfl, rfl, rfl⟩ rfl ?_
  · refine EXs_cons ?_
    repeat walk_at "m ev"
    refine EV_comp (tt := false) (JI_list ?_) (by walk_at "m gens") (fun _ _ => rfl) (by nofun) (by walk_at "m comp")
    repeat walk_at "m ev"
    refine ⟨_, rfl, fun i rho' l => Ext (compVars _ (fnScope 21) _) rho' ∧ l = pis (divZ (p.take i) k), ⟨.refl, rfl⟩, ?_, ?_⟩
    · rintro i x rho' l K hK hx ⟨he, rfl⟩
      obtain ⟨z, hz, rfl⟩ := pis_get hx
      have h1 : rho' "number" = some (.int k) := ext_look he (by walk_at "m look") rfl
      refine JL_name ?_ rfl
      show EV _ _ _ _ _ _ _
      repeat walk_at "m ev"
      refine bo_div hk0 hk ?_
      refine ⟨rfl, by rw [pis_len]; simp [divZ]; lia, rfl, hK _ _ ⟨he.upd rfl, ?_⟩⟩
      rw [List.take_add_one, hz]; simp [pis, divZ]
    · rintro rho' l ⟨he, rfl⟩
      repeat walk_at "m ev"
      rw [pis_len, List.take_length]; exact h

theorem check_ok (hF : Fns C) (p : List Int) (hp : p.length ≤ 1000) (hne : p ≠ []) (Q : PV → Sto → Prop) (h : Q .none st) : CJ C 20 (fnName 18) [.list (pis p)] st Q := by
  refine CJ_fn (m := 19) (names := ["p"]) hF.f18 ⟨fun _ _ _ => all_len1 fun _  => rfl, by decide, by decide, by decide, rfl, rfl, rfl⟩ rfl ?_
  · refine EXs_cons ?_
    repeat walk_at "m ev"
    refine BJ_len ?_ (by rw [pis_len]; lia)
    rw [pis_len]
    repeat walk_at "m ev"
    refine if_dec (fun h0 => absurd (List.length_eq_zero_iff.mp (by lia)) hne) fun _ => ?_
    repeat walk_at "m ev"
    exact h
end

-- MF3
section
set_option maxRecDepth 100000
open PySem PySem.W PyProof.Rows

variable {C : Cx} {st : Sto}
theorem mulIx_get : ∀ {l : List Int} {i k : Nat} {x : Int}, l[k]? = some x → (mulIx i l)[k]? = some (x * ((i + k : Nat) : Int))
  | [], i, k, x, h => by simp at h
  | y :: r, i, 0, x, h => by simp at h; subst h; simp [mulIx]
  | y :: r, i, k + 1, x, h => by
    simp only [List.getElem?_cons_succ] at h
    simp only [mulIx, List.getElem?_cons_succ]
    rw [mulIx_get h, show i + 1 + k = i + (k + 1) by lia]
theorem mulIx_len : ∀ {l : List Int} {i : Nat}, (mulIx i l).length = l.length
  | [], _ => rfl
  | y :: r, i => by simp [mulIx, mulIx_len]

theorem zderive_ok (hF : Fns C) (hc : C.calm = true) (p : List Int) (hp : p.length ≤ 1000) (hb : ∀ x ∈ p, Fits x) (Q : PV → Sto → Prop) (h : Q (.list (pis (deriveZ p))) st) : CJ C 20 (fnName 15) [.list (pis p)] st Q := by
  refine CJ_fn (m := 19) (names := ["p"]) hF.f15 ⟨fun _ _ _ => all_len1 fun _  => rfl, by decide, by decide, by decide, rfl, rfl, rfl⟩ rfl ?_
  · refine EXs_cons ?_
    repeat walk_at "m ev"
    refine EV_comp (tt := true) (JI_enum hc ?_ rfl hF.enum (by decide) (fun _ => rfl)) (by walk_at "m gens") (fun _ _ => rfl) (fun _ => ⟨_, _, _, rfl⟩) (by walk_at "m comp")
    repeat walk_at "m ev"
    refine ⟨_, rfl, fun i rho' l => l = pis ((mulIx 0 p).take i), rfl, ?_, ?_⟩
    · rintro i x rho' l K hK hx rfl
      obtain ⟨q, hq, rfl⟩ := enumP_get hx
      obtain ⟨z, hz, rfl⟩ := pis_get hq
      have hi : i < p.length := lt_of_get hz
      repeat walk_at "m ev"
      refine bo_mul (hb z (List.mem_of_getElem? hz)) ?_ ?_
      · exact bd_fits (k := 20) (by simp; lia) (by decide)
      refine ⟨rfl, by rw [pis_len, List.length_take, mulIx_len]; lia, rfl, hK _ _ ?_⟩
      rw [List.take_add_one, mulIx_get hz]; simp [pis]
    · rintro rho' l rfl
      repeat walk_at "m ev"
      refine ⟨_, _, rfl, rfl, by decide, by rw [pis_len, List.length_take, mulIx_len]; lia, ?_⟩
      repeat walk_at "m ev"
      rw [enumP_len, pis_len, List.take_of_length_le (by rw [mulIx_len]; exact Nat.le_refl _)]
      unfold deriveZ at h
      rw [show List.drop (Int.toNat 1) (pis (mulIx 0 p)) = pis ((mulIx 0 p).drop 1) by simp [pis]]
      exact h

/-- the state of a pseudo-division -/
inductive PsI (a b : List Int) (k many : Nat) (st : Sto) (m : Nat) (rho : Vars) (st' : Sto) : Prop
  | mk (rest found : List Int) (left : Nat) (hm : m = left) (hl : left ≤ many) (ea : rho "a" = some (.list (pis a))) (eb : rho "b" = some (.list (pis b))) (em : rho "many" = some (.int (many : Nat))) (er : rho "rest" = some (.list (pis rest)))
    (ef : rho "found" = some (.list (pis found))) (el : rho "left" = some (.int (left : Nat))) (ei : rho "first" = some (.int (leadZ b))) (tr : Tidy rest) (hrl : rest.length + 1 ≤ b.length + left) (hfn : found.length ≤ 10)
    (br : Bd ((k + 1) * (many - left + 1)) rest) (bf : Bd ((k + 1) * (many - left + 1)) found) (hp : scaleZ (pseuL b (leadZ b) left rest).1 (leadZ b ^ (pseuL b (leadZ b) left rest).2) = premZ a b) (hs : st' = st)
theorem pseudo_ok (hF : Fns C) (hc : C.calm = true) (a b : List Int) (k : Nat) (ha : a.length ≤ 10) (hb : b.length ≤ 10) (hbn : b ≠ []) (ta : Tidy a) (tb : Tidy b) (ba : Bd k a) (bb : Bd k b) (hk : (k + 1) * 12 < 8000) (Q : PV → Sto → Prop)
    (h : ∀ q, Q (.tup [.list (pis q), .list (pis (premZ a b)), .int ((a.length + 1 - b.length : Nat) : Int)]) st) : CJ C 23 (fnName 19) [.list (pis a), .list (pis b)] st Q := by
  refine CJ_fn (m := 22) (names := ["a", "b"]) hF.f19 ⟨fun _ _ _ => all_len2 fun _ _  => rfl, by decide, by decide, by decide, rfl, rfl, rfl⟩ rfl ?_
  · have hb0 : 0 < b.length := List.length_pos_iff.mpr hbn
    refine EXs_cons (EX_expr ?_ rfl (fun _ => rfl))
    repeat walk_at "m ev"
    refine check_ok hF _ (by lia) hbn _ ?_
    repeat walk_at "m ev"
    refine BJ_len ?_ (by rw [pis_len]; lia)
    repeat walk_at "m ev"
    refine BJ_len ?_ (by rw [pis_len]; lia)
    repeat walk_at "m ev"
    refine BJ_max2 hc ?_
    repeat walk_at "m ev"
    rw [pis_len, pis_len, show max 0 ((a.length : Int) - b.length + 1) = ((a.length + 1 - b.length : Nat) : Int) by lia]
    generalize hm : a.length + 1 - b.length = many at h ⊢
    repeat walk_at "m ev"
    refine BJ_list ?_ (by rw [pis_len]; lia)
    repeat walk_at "m ev"
    refine EV_list ?_
    repeat walk_at "m ev"
    refine zlead_ok hF _ (by lia) _ ?_
    repeat walk_at "m ev"
    have hlb := bd_lead bb
    have hfl : Fits (leadZ b) := bd_fits hlb (by lia)
    refine EX_while (PsI a b k many st) many
      ⟨a, [], many, rfl, Nat.le_refl _, by walk_at "m look", by walk_at "m look", by walk_at "m look", by walk_at "m look", by walk_at "m look", by walk_at "m look", by walk_at "m look", ta, by lia, by simp, ba.mono (by rw [Nat.sub_self]; lia), (fun x hx => nomatch hx), by rw [← hm]; rfl, rfl⟩ ?_
    rintro m rho st' KK D hCK hD ⟨rest, found, left, rfl, hlm, ea, eb, em, er, ef, el, ei, tr, hrl, hfn, br, bf, hp, rfl⟩
    have hmany : many ≤ 10 := by lia
    have hK : (k + 1) * (many - m + 1) ≤ (k + 1) * 11 := Nat.mul_le_mul_left _ (by lia)
    repeat walk_at "m ev"
    refine BJ_len ?_ (by rw [pis_len]; lia)
    repeat walk_at "m ev"
    refine BJ_len ?_ (by rw [pis_len]; lia)
    rw [pis_len, pis_len]
    repeat walk_at "m ev"
    refine if_dec (fun hge => ?_) fun hlt => ?_
    · have hge : b.length ≤ rest.length := by lia
      obtain ⟨left, rfl⟩ : ∃ left, m = left + 1 := ⟨m - 1, by lia⟩
      have hrn : rest ≠ [] := fun q => by rw [q] at hge; simp at hge; exact hbn hge
      have hget : rest[rest.length - 1]? = some rest[rest.length - 1] := List.getElem?_eq_getElem (by lia)
      have hlead : leadZ rest = rest[rest.length - 1] := by unfold leadZ; rw [List.getLast?_eq_getElem?, hget]; rfl
      repeat walk_at "m ev"
      refine ⟨.int (leadZ rest), by rw [pis_len]; lia, ?_, ?_⟩
      · rw [if_pos (by lia), pis_len, show (-1 + (rest.length : Int)).toNat = rest.length - 1 by lia]
        exact ⟨by lia, get_pis (by rw [hlead]; exact hget)⟩
      repeat walk_at "m ev"
      refine BJ_len ?_ (by rw [pis_len]; lia)
      repeat walk_at "m ev"
      refine BJ_len ?_ (by rw [pis_len]; lia)
      rw [pis_len, pis_len]
      repeat walk_at "m ev"
      rw [show (rest.length : Int) - b.length = ((rest.length - b.length : Nat) : Int) by lia]
      have hlr := bd_lead br
      refine zscale_ok hF _ _ (by lia) (fun x hx => bd_fits (bf x hx) (by lia)) hfl _ ?_
      repeat walk_at "m ev"
      refine EV_list ?_
      repeat walk_at "m ev"
      refine zraise_ok hF [-(leadZ rest)] _ (by simp) (by lia) _ ?_
      repeat walk_at "m ev"
      have l1 := scaleZ_len found (leadZ b)
      have l2 := raiseZ_len [-(leadZ rest)] (rest.length - b.length)
      simp only [List.length_cons, List.length_nil] at l2
      refine zsub_ok hF hc _ _ (by lia) (by lia) _ ?_
      repeat walk_at "m ev"
      refine zscale_ok hF _ _ (by lia) (fun x hx => bd_fits (br x hx) (by lia)) hfl _ ?_
      repeat walk_at "m ev"
      refine zscale_ok hF _ _ (by lia) (fun x hx => bd_fits (bb x hx) (by lia)) (bd_fits hlr (by lia)) _ ?_
      repeat walk_at "m ev"
      have l3 := scaleZ_len rest (leadZ b)
      have l4 := scaleZ_len b (leadZ rest)
      refine zraise_ok hF _ _ (by lia) (by lia) _ ?_
      repeat walk_at "m ev"
      have l5 := raiseZ_len (scaleZ b (leadZ rest)) (rest.length - b.length)
      refine zsub_ok hF hc _ _ (by lia) (by lia) _ ?_
      repeat walk_at "m ev"
      refine EX_aug (p := .int ((left+1 : Nat) : Int)) (by walk_at "m look") ?_ rfl
      repeat walk_at "m ev"
      have l6 := subZ_len (scaleZ found (leadZ b)) (raiseZ [-(leadZ rest)] (rest.length - b.length))
      have l7 := stepR_len tb hbn tr hge
      have hKK : (k + 1) * (many - (left + 1) + 1) + (k + 1) = (k + 1) * (many - left + 1) := by
        rw [← Nat.mul_succ]; congr 1; lia
      refine hCK _ _ _ (tk_next ⟨left, Nat.lt_succ_self _, stepR b (leadZ b) rest, subZ (scaleZ found (leadZ b)) (raiseZ [-(leadZ rest)] (rest.length - b.length)), left, rfl, by lia, by walk_at "m look", by walk_at "m look", by walk_at "m look", by walk_at "m look", by walk_at "m look", ?_, by walk_at "m look",
        tidy_subZ _ _, by lia, by lia, ?_, ?_, ?_, rfl⟩)
      · rw [show ((left + 1 : Nat) : Int) - 1 = (left : Int) by lia]; walk_at "m look"
      · have := bd_stepR bb br; rw [hKK] at this; exact this
      · have h1 := bd_scaleZ bf hlb
        have h2 : Bd ((k + 1) * (many - (left + 1) + 1)) [-(leadZ rest)] := Bd.cons (by rw [Int.natAbs_neg]; exact hlr) fun x hx => nomatch hx
        have h3 := bd_subZ h1 ((bd_raiseZ (n := rest.length - b.length) h2).mono (Nat.le_add_right _ k))
        rw [show (k + 1) * (many - (left + 1) + 1) + k + 1 = (k + 1) * (many - (left + 1) + 1) + (k + 1) from rfl, hKK] at h3; exact h3
      · rw [← hp]; conv => rhs; unfold pseuL
        rw [if_pos hge]
    · have hlt : ¬ b.length ≤ rest.length := by lia
      repeat walk_at "m ev"
      refine hD _ _ ?_
      repeat walk_at "m ev"
      have hpl : pseuL b (leadZ b) m rest = (rest, m) := by
        cases m with
        | zero => rfl
        | succ m => unfold pseuL; rw [if_neg hlt]
      rw [hpl] at hp
      refine bo_pow (by lia) (by lia) hfl ?_
      rw [Int.toNat_natCast]
      have hmore : Fits (leadZ b ^ m) := bd_fits (natAbs_pow_le hlb m) (by
        have : k * m ≤ (k + 1) * 11 := Nat.mul_le_mul (Nat.le_succ k) (by lia)
        lia)
      repeat walk_at "m ev"
      refine zscale_ok hF _ _ (by lia) (fun x hx => bd_fits (bf x hx) (by lia)) hmore _ ?_
      repeat walk_at "m ev"
      refine zscale_ok hF _ _ (by lia) (fun x hx => bd_fits (br x hx) (by lia)) hmore _ ?_
      repeat walk_at "m ev"
      simp only [] at hp
      rw [hp]
      exact h _
end

-- MF4
section
set_option maxRecDepth 100000
open PySem PySem.W PyProof.Rows

variable {C : Cx} {st : Sto}

theorem premZ_ok {a b : List Int} {k : Nat} (hl : b.length ≤ a.length) (hbn : b ≠ []) (ta : Tidy a) (tb : Tidy b) (ba : Bd k a) (bb : Bd k b) :
    (premZ a b).length < b.length ∧ Bd ((k + 1) * (a.length + 2 - b.length)) (premZ a b) := by
  have hb0 : 0 < b.length := List.length_pos_iff.mpr hbn
  obtain ⟨h1, h2, h3⟩ := pseuL_ok tb hbn (left := a.length + 1 - b.length) (rest := a) ta (by omega)
  have h4 := bd_pseuL bb (left := a.length + 1 - b.length) ba
  unfold premZ
  generalize pseuL b (leadZ b) (a.length + 1 - b.length) a = pq at *
  have h5 := scaleZ_len pq.1 (leadZ b ^ pq.2)
  refine ⟨by omega, (bd_scaleZ h4 (natAbs_pow_le (bd_lead bb) pq.2)).mono ?_⟩
  · obtain ⟨d, hd⟩ : ∃ d, a.length + 1 - b.length = pq.2 + d := ⟨a.length + 1 - b.length - pq.2, by omega⟩
    rw [hd, show pq.2 + d - pq.2 = d by omega, show a.length + 2 - b.length = pq.2 + d + 1 by omega]
    have e1 : (k + 1) * (pq.2 + d + 1) = (k + 1) * pq.2 + (k + 1) * d + (k + 1) := by rw [Nat.mul_add, Nat.mul_add, Nat.mul_one]
    have e2 : k * pq.2 ≤ (k + 1) * pq.2 := Nat.mul_le_mul_right _ (by lia)
    lia

theorem full_rest_ok (hF : Fns C) (hc : C.calm = true) (a b : List Int) (k : Nat) (ha : a.length ≤ 10) (hab : b.length ≤ a.length) (hbn : b ≠ []) (ta : Tidy a) (tb : Tidy b) (ba : Bd k a) (bb : Bd k b) (hk : (k + 1) * 12 < 8000) (Q : PV → Sto → Prop)
    (h : Q (.list (pis (premZ a b))) st) : CJ C 24 (fnName 22) [.list (pis a), .list (pis b)] st Q := by
  refine CJ_fn (m := 23) (names := ["a", "b"]) hF.f22 ⟨fun _ _ _ => all_len2 fun _ _  => rfl, by decide, by decide, by decide, rfl, rfl, rfl⟩ rfl ?_
  · have hb0 : 0 < b.length := List.length_pos_iff.mpr hbn
    refine EXs_cons ?_
    repeat walk_at "m ev"
    refine pseudo_ok hF hc _ _ k ha (by omega) hbn ta tb ba bb hk _ fun q => ?_
    repeat walk_at "m ev"
    refine zdegree_ok hF _ (by omega) _ ?_
    repeat walk_at "m ev"
    refine zdegree_ok hF _ (by omega) _ ?_
    repeat walk_at "m ev"
    rw [show (a.length : Int) - 1 - (b.length - 1) + 1 - ((a.length + 1 - b.length : Nat) : Int) = 0 by omega]
    obtain ⟨hpl, hpb⟩ := premZ_ok hab hbn ta tb ba bb
    generalize premZ a b = r at *
    refine EV_comp (tt := false) (JI_list ?_) (by walk_at "m gens") (fun _ _ => rfl) (by nofun) (by walk_at "m comp")
    repeat walk_at "m ev"
    refine ⟨_, rfl, fun i rho' l => Ext (compVars _ (fnScope 22) _) rho' ∧ l = pis (r.take i), ⟨.refl, rfl⟩, ?_, ?_⟩
    · rintro i x rho' l K0 hK0 hx ⟨he, rfl⟩
      obtain ⟨z, hz, rfl⟩ := pis_get hx
      have h1 : rho' "b" = some (.list (pis b)) := ext_look he (by walk_at "m look") rfl
      have h2 : rho' "lacking" = some (.int 0) := ext_look he (by walk_at "m look") rfl
      repeat walk_at "m ev"
      refine zlead_ok hF _ (by omega) _ ?_
      repeat walk_at "m ev"
      refine bo_pow (by decide) (by decide) (bd_fits (bd_lead bb) (by omega)) ?_
      have hK : (k + 1) * (a.length + 2 - b.length) ≤ (k + 1) * 11 := Nat.mul_le_mul_left _ (by omega)
      refine bo_mul (bd_fits (hpb z (List.mem_of_getElem? hz)) (by omega)) (by rw [show (leadZ b ^ Int.toNat 0) = 1 from Int.pow_zero _]; exact bd_fits (k := 1) (by decide) (by decide)) ?_
      refine ⟨rfl, by rw [pis_len]; simp; omega, rfl, hK0 _ _ ⟨he.upd rfl, ?_⟩⟩
      rw [List.take_add_one, hz, show (leadZ b ^ Int.toNat 0) = 1 from Int.pow_zero _, Int.mul_one]; simp [pis]
    · rintro rho' l ⟨he, rfl⟩
      repeat walk_at "m ev"
      rw [pis_len, List.take_length]; exact h

/-- how the remainder sequence goes on to the resultant: a, b, sign, g, h and what comes out -/
inductive RowR : List Int → List Int → Int → Int → Int → Int → Prop
  | zero {a : List Int} {sign g h : Int} : a ≠ [] → a.length ≤ 10 → RowR a [] sign g h 0
  | one {a : List Int} {b0 sign g h : Int} : a.length = 1 → Fits sign → RowR a [b0] sign g h (sign * 1)
  | many {a : List Int} {b0 sign g h : Int} : 2 ≤ a.length → a.length ≤ 10 → Fits b0 → Fits h → h ^ (a.length - 2) ≠ 0 → Fits (h ^ (a.length - 2)) → Fits sign → Fits ((b0 ^ (a.length - 1)).fdiv (h ^ (a.length - 2))) → RowR a [b0] sign g h (sign * (b0 ^ (a.length - 1)).fdiv (h ^ (a.length - 2)))
  | step {a b : List Int} {sign g h r : Int} (k : Nat) : 2 ≤ b.length → b.length ≤ a.length → a.length ≤ 10 → Tidy a → Tidy b → Bd k a → Bd k b → (k + 1) * 12 < 8000 → Fits g → Fits h → Fits (h ^ (a.length - b.length)) → g * h ^ (a.length - b.length) ≠ 0 →
      Fits (g * h ^ (a.length - b.length)) → h ^ (a.length - b.length - 1) ≠ 0 → Fits (h ^ (a.length - b.length - 1)) →
      RowR b (divZ (premZ a b) (g * h ^ (a.length - b.length))) (if a.length % 2 = 0 ∧ b.length % 2 = 0 then -sign else sign) (leadZ b)
        (if 0 < a.length - b.length then (leadZ b ^ (a.length - b.length)).fdiv (h ^ (a.length - b.length - 1)) else h) r → RowR a b sign g h r

inductive RowI (C : Cx) (r : Int) (st : Sto) (m : Nat) (rho : Vars) (st' : Sto) : Prop
  | mk (a b : List Int) (sign g h : Int) (hr : RowR a b sign g h r) (hc : 2 ≤ b.length → C.calm = true) (hm : b.length = m) (ea : rho "a" = some (.list (pis a))) (eb : rho "b" = some (.list (pis b))) (es : rho "sign" = some (.int sign))
    (eg : rho "g" = some (.int g)) (eh : rho "h" = some (.int h)) (hs : st' = st)
theorem row_ok (hF : Fns C) (a b : List Int) (hc : 2 ≤ b.length → C.calm = true) (sign r : Int) (hr : RowR a b sign 1 1 r) (Q : PV → Sto → Prop)
    (h : Q (.int r) st) : CJ C 25 (fnName 23) [.list (pis a), .list (pis b), .int sign] st Q := by
  refine CJ_fn (m := 24) (names := ["a", "b", "sign"]) hF.f23 ⟨fun _ _ _ => all_len3 fun _ _ _  => rfl, by decide, by decide, by decide, rfl, rfl, rfl⟩ rfl ?_
  · refine EXs_cons ?_
    repeat walk_at "m ev"
    refine EX_while (RowI C r st) b.length
      ⟨a, b, sign, 1, 1, hr, hc, rfl, by walk_at "m look", by walk_at "m look", by walk_at "m look", by walk_at "m look", by walk_at "m look", rfl⟩ ?_
    rintro m rho st' K D hK hD ⟨a, b, sign, g, hh, hr, hc, rfl, ea, eb, es, eg, eh, rfl⟩
    repeat walk_at "m ev"
    cases hr with
    | zero han hal =>
      refine zdegree_ok hF [] (by decide) _ ?_
      repeat walk_at "m ev"
      refine if_dec (fun q => absurd q (by decide)) fun _ => ?_
      repeat walk_at "m ev"
      refine hD _ _ ?_
      repeat walk_at "m ev"
      refine EV_list ?_
      repeat walk_at "m ev"
      refine .eql [] [] rfl rfl ?_
      refine if_dec (fun _ => ?_) fun q => absurd rfl q
      repeat walk_at "m ev"
      exact h
    | one hal hsf =>
      refine zdegree_ok hF [_] (by simp) _ ?_
      repeat walk_at "m ev"
      refine if_dec (fun q => absurd q (by simp)) fun _ => ?_
      repeat walk_at "m ev"
      refine hD _ _ ?_
      repeat walk_at "m ev"
      refine EV_list ?_
      repeat walk_at "m ev"
      refine .eql [_] [] rfl rfl ?_
      refine if_dec (fun q => by cases q) fun _ => ?_
      repeat walk_at "m ev"
      refine zdegree_ok hF _ (by omega) _ ?_
      repeat walk_at "m ev"
      refine if_dec (fun q => absurd q (by omega)) fun _ => ?_
      repeat walk_at "m ev"
      refine bo_mul hsf (bd_fits (k := 1) (by decide) (by decide)) ?_
      repeat walk_at "m ev"
      exact h
    | @many _ b0 _ _ _ hal hal' hbf hhf hne hf2 hsf hrf =>
      refine zdegree_ok hF [_] (by simp) _ ?_
      repeat walk_at "m ev"
      refine if_dec (fun q => absurd q (by simp)) fun _ => ?_
      repeat walk_at "m ev"
      refine hD _ _ ?_
      repeat walk_at "m ev"
      refine EV_list ?_
      repeat walk_at "m ev"
      refine .eql [_] [] rfl rfl ?_
      refine if_dec (fun q => by cases q) fun _ => ?_
      repeat walk_at "m ev"
      refine zdegree_ok hF _ (by omega) _ ?_
      repeat walk_at "m ev"
      refine if_dec (fun _ => ?_) fun q => absurd q (by omega)
      repeat walk_at "m ev"
      refine ⟨.int b0, by simp [pis], by rw [if_neg (by decide)]; rfl, ?_⟩
      repeat walk_at "m ev"
      refine bo_pow (by omega) (by omega) hbf ?_
      repeat walk_at "m ev"
      refine bo_pow (by omega) (by omega) hhf ?_
      repeat walk_at "m ev"
      rw [show ((a.length : Int) - 1).toNat = a.length - 1 by lia, show ((a.length : Int) - 1 - 1).toNat = a.length - 2 by omega]
      refine bo_div hne hf2 ?_
      repeat walk_at "m ev"
      refine bo_mul hsf hrf ?_
      repeat walk_at "m ev"
      exact h
    | step k hb2 hab hal ta tb ba bb hk hgf hhf hhf2 hne hff hne2 hff2 hnext =>
      have hbn : b ≠ [] := fun q => by subst q; simp at hb2
      refine zdegree_ok hF _ (by omega) _ ?_
      repeat walk_at "m ev0"
      refine if_dec (fun _ => ?_) fun q => absurd q (by omega)
      repeat walk_at "m ev0"
      refine zdegree_ok hF _ (by omega) _ ?_
      repeat walk_at "m ev0"
      refine zdegree_ok hF _ (by omega) _ ?_
      repeat walk_at "m ev0"
      rw [show (a.length : Int) - 1 - (b.length - 1) = ((a.length - b.length : Nat) : Int) by omega]
      refine EX_ifset (.int (if a.length % 2 = 0 ∧ b.length % 2 = 0 then -sign else sign)) (by walk_at "m look") ?_ ?_ (by walk_at "m kind") (by walk_at "m env")
      · repeat walk_at "m ev0"
        refine zdegree_ok hF _ (by omega) _ ?_
        repeat walk_at "m ev0"
        refine bo_mod (by decide) ?_
        repeat walk_at "m ev0"
        refine if_dec (fun h1 => ?_) fun h1 => ?_
        · have h1 : a.length % 2 = 0 := by rw [Int.fmod_eq_emod_of_nonneg _ (by decide)] at h1; omega
          repeat walk_at "m ev0"
          refine zdegree_ok hF _ (by omega) _ ?_
          repeat walk_at "m ev0"
          refine bo_mod (by decide) ?_
          repeat walk_at "m ev0"
          refine if_dec (fun h2 => ?_) fun h2 => ?_
          · have h2 : b.length % 2 = 0 := by rw [Int.fmod_eq_emod_of_nonneg _ (by decide)] at h2; omega
            repeat walk_at "m ev0"
            refine ⟨rfl, ?_⟩
            rw [if_pos rfl]
            repeat walk_at "m ev0"
            rw [if_pos ⟨h1, h2⟩]; exact ⟨rfl, rfl⟩
          · have h2 : ¬ b.length % 2 = 0 := by rw [Int.fmod_eq_emod_of_nonneg _ (by decide)] at h2; omega
            refine ⟨rfl, ?_⟩
            rw [if_neg (by decide), if_neg (fun q => h2 q.2)]
        · have h1 : ¬ a.length % 2 = 0 := by rw [Int.fmod_eq_emod_of_nonneg _ (by decide)] at h1; omega
          refine ⟨rfl, ?_⟩
          rw [if_neg (by decide), if_neg (fun q => h1 q.1)]
      repeat walk_at "m ev0"
      refine full_rest_ok hF (hc hb2) _ _ k hal hab hbn ta tb ba bb hk _ ?_
      repeat walk_at "m ev0"
      refine bo_pow (by omega) (by omega) hhf ?_
      rw [Int.toNat_natCast]
      repeat walk_at "m ev0"
      refine bo_mul hgf hhf2 ?_
      repeat walk_at "m ev0"
      obtain ⟨hpl, hpb⟩ := premZ_ok hab hbn ta tb ba bb
      refine divided_ok hF _ _ (by omega) hne hff _ ?_
      repeat walk_at "m ev0"
      refine zlead_ok hF _ (by omega) _ ?_
      repeat walk_at "m ev0"
      refine EX_ifset (.int (if 0 < a.length - b.length then (leadZ b ^ (a.length - b.length)).fdiv (hh ^ (a.length - b.length - 1)) else hh)) (by walk_at "m look") ?_ ?_ (by walk_at "m kind") (by walk_at "m env")
      · repeat walk_at "m ev0"
        refine ⟨rfl, ?_⟩
        refine if_dec (fun h1 => ?_) fun h1 => ?_
        · repeat walk_at "m ev0"
          refine bo_pow (by omega) (by omega) (bd_fits (bd_lead bb) (by omega)) ?_
          repeat walk_at "m ev0"
          refine bo_pow (by omega) (by omega) hhf ?_
          rw [Int.toNat_natCast, show ((a.length - b.length : Nat) : Int) - 1 = ((a.length - b.length - 1 : Nat) : Int) by omega, Int.toNat_natCast]
          refine bo_div hne2 hff2 ?_
          rw [if_pos (by omega)]; exact ⟨rfl, rfl⟩
        · rw [if_neg (by omega)]
      repeat walk_at "m ev0"
      refine hK _ _ _ (tk_next ⟨(divZ (premZ a b) (g * hh ^ (a.length - b.length))).length, ?_, _, _, _, _, _, hnext, fun _ => hc hb2, rfl, by walk_at "m look", by walk_at "m look", by walk_at "m look", by walk_at "m look", by walk_at "m look", rfl⟩)
      simp only [divZ, List.length_map]; exact hpl
end

-- MF5
section
set_option maxRecDepth 100000
open PySem PySem.W PyProof.Rows

variable {C : Cx} {st : Sto}

theorem divZ_len (p : List Int) (k : Int) : (divZ p k).length = p.length := by simp [divZ]

/-- what resultant does with a and b, put into order -/
structure ResR (a b : List Int) (sign : Int) (r : Int) : Prop where
  la : a.length ≤ 10
  lab : b.length ≤ a.length
  lb : 1 ≤ b.length
  ca : contZ a ≠ 0
  cb : contZ b ≠ 0
  fa : Fits (contZ a)
  fb : Fits (contZ b)
  fpa : Fits ((contZ a : Int) ^ (b.length - 1))
  fpb : Fits ((contZ b : Int) ^ (a.length - 1))
  fp : Fits ((contZ a : Int) ^ (b.length - 1) * (contZ b : Int) ^ (a.length - 1))
  row : RowR (divZ a (contZ a)) (divZ b (contZ b)) sign 1 1 r
  fr : Fits r

theorem resultant_ok (hF : Fns C) (a b a' b' : List Int) (hc : 2 ≤ b'.length → C.calm = true) (sign r : Int)
    (ho : (a.length < b.length ∧ a' = b ∧ b' = a ∧ sign = if a.length % 2 = 0 ∧ b.length % 2 = 0 then -1 else 1) ∨ (b.length ≤ a.length ∧ a' = a ∧ b' = b ∧ sign = 1)) (hr : ResR a' b' sign r) (Q : PV → Sto → Prop)
    (h : Q (.int ((contZ a' : Int) ^ (b'.length - 1) * (contZ b' : Int) ^ (a'.length - 1) * r)) st) : CJ C 26 (fnName 24) [.list (pis a), .list (pis b)] st Q := by
  have hla : a.length ≤ 10 ∧ b.length ≤ 10 ∧ 1 ≤ a.length ∧ 1 ≤ b.length := by
    have h1 := hr.la; have h2 := hr.lab; have h3 := hr.lb
    rcases ho with ⟨h0, rfl, rfl, _⟩ | ⟨h0, rfl, rfl, _⟩ <;> lia
  refine CJ_fn (m := 25) (names := ["a", "b"]) hF.f24 ⟨fun _ _ _ => all_len2 fun _ _  => rfl, by decide, by decide, by decide, rfl, rfl, rfl⟩ rfl ?_
  · refine EXs_cons ?_
    refine EX_join (fun rho => rho = argVars ["a", "b"] [.list (pis a), .list (pis b)]) ?_ ?_
    · refine EX_if ?_
      repeat walk_at "m ev0"
      refine EV_list ?_
      repeat walk_at "m ev0"
      refine .eql a [] rfl rfl ?_
      refine if_dec (fun q => by subst q; simp at hla) fun _ => ?_
      repeat walk_at "m ev0"
      refine EV_list ?_
      repeat walk_at "m ev0"
      refine .eql b [] rfl rfl ?_
      refine if_dec (fun q => by subst q; simp at hla) fun _ => ?_
      repeat walk_at "m ev0"
      simp only [Bool.false_eq_true, if_false]
      repeat walk_at "m ev0"
      exact ⟨rfl, rfl, rfl⟩
    rintro rho rfl
    repeat walk_at "m ev0"
    refine EX_join (fun rho => rho "a" = some (.list (pis a')) ∧ rho "b" = some (.list (pis b')) ∧ rho "sign" = some (.int sign)) ?_ ?_
    · refine EX_if ?_
      repeat walk_at "m ev0"
      refine zdegree_ok hF _ (by lia) _ ?_
      repeat walk_at "m ev0"
      refine zdegree_ok hF _ (by lia) _ ?_
      repeat walk_at "m ev0"
      refine if_dec (fun h1 => ?_) fun h1 => ?_
      · rcases ho with ⟨h0, rfl, rfl, hs⟩ | ⟨h0, _⟩
        · repeat walk_at "m ev0"
          refine zdegree_ok hF _ (by lia) _ ?_
          repeat walk_at "m ev0"
          refine bo_mod (by decide) ?_
          repeat walk_at "m ev0"
          refine if_dec (fun h1 => ?_) fun h1 => ?_
          · have h1 : a'.length % 2 = 0 := by rw [Int.fmod_eq_emod_of_nonneg _ (by decide)] at h1; lia
            repeat walk_at "m ev0"
            refine zdegree_ok hF _ (by lia) _ ?_
            repeat walk_at "m ev0"
            refine bo_mod (by decide) ?_
            repeat walk_at "m ev0"
            refine if_dec (fun h2 => ?_) fun h2 => ?_
            · have h2 : b'.length % 2 = 0 := by rw [Int.fmod_eq_emod_of_nonneg _ (by decide)] at h2; lia
              repeat walk_at "m ev0"
              rw [if_pos rfl]
              repeat walk_at "m ev0"
              rw [if_pos ⟨h2, h1⟩] at hs
              subst hs
              exact ⟨rfl, rfl, by walk_at "m look", by walk_at "m look", by walk_at "m look"⟩
            · have h2 : ¬ b'.length % 2 = 0 := by rw [Int.fmod_eq_emod_of_nonneg _ (by decide)] at h2; lia
              rw [if_neg (by decide)]
              repeat walk_at "m ev0"
              rw [if_neg (fun q => h2 q.1)] at hs
              subst hs
              exact ⟨rfl, rfl, by walk_at "m look", by walk_at "m look", by walk_at "m look"⟩
          · have h1 : ¬ a'.length % 2 = 0 := by rw [Int.fmod_eq_emod_of_nonneg _ (by decide)] at h1; lia
            rw [if_neg (by decide)]
            repeat walk_at "m ev0"
            rw [if_neg (fun q => h1 q.2)] at hs
            subst hs
            exact ⟨rfl, rfl, by walk_at "m look", by walk_at "m look", by walk_at "m look"⟩
        · lia
      · rcases ho with ⟨h0, _⟩ | ⟨h0, rfl, rfl, rfl⟩
        · lia
        · repeat walk_at "m ev0"
          exact ⟨rfl, rfl, by walk_at "m look", by walk_at "m look", by walk_at "m look"⟩
    rintro rho ⟨ea, eb, es⟩
    have h1 := hr.la; have h2 := hr.lab; have h3 := hr.lb
    repeat walk_at "m ev0"
    refine zcontent_ok hF _ _ ?_
    repeat walk_at "m ev0"
    refine zcontent_ok hF _ _ ?_
    repeat walk_at "m ev0"
    refine zdegree_ok hF _ (by lia) _ ?_
    repeat walk_at "m ev0"
    refine bo_pow (by lia) (by lia) hr.fa ?_
    rw [show ((b'.length : Int) - 1).toNat = b'.length - 1 by lia]
    repeat walk_at "m ev0"
    refine zdegree_ok hF _ (by lia) _ ?_
    repeat walk_at "m ev0"
    refine bo_pow (by lia) (by lia) hr.fb ?_
    rw [show ((a'.length : Int) - 1).toNat = a'.length - 1 by lia]
    repeat walk_at "m ev0"
    refine bo_mul hr.fpa hr.fpb ?_
    repeat walk_at "m ev0"
    refine divided_ok hF _ _ (by lia) (by have := hr.ca; lia) hr.fa _ ?_
    repeat walk_at "m ev0"
    refine divided_ok hF _ _ (by lia) (by have := hr.cb; lia) hr.fb _ ?_
    repeat walk_at "m ev0"
    refine row_ok hF _ _ (by rw [divZ_len]; exact hc) _ _ hr.row _ ?_
    repeat walk_at "m ev0"
    refine bo_mul hr.fp hr.fr ?_
    repeat walk_at "m ev0"
    exact h
end

-- MF6
section
set_option maxRecDepth 100000
open PySem PySem.W PyProof.Rows

variable {C : Cx} {st : Sto}

/-- what resultant makes of a and b -/
noncomputable def ResIs (a b : List Int) (v : Int) : Prop := ∃ a' b' sign r,
  ((a.length < b.length ∧ a' = b ∧ b' = a ∧ sign = if a.length % 2 = 0 ∧ b.length % 2 = 0 then -1 else 1) ∨ (b.length ≤ a.length ∧ a' = a ∧ b' = b ∧ sign = 1)) ∧ ResR a' b' sign r ∧
    v = (contZ a' : Int) ^ (b'.length - 1) * (contZ b' : Int) ^ (a'.length - 1) * r

theorem resultant_is (hF : Fns C) {a b : List Int} {v : Int} (hr : ResIs a b v) (hc : 2 ≤ a.length → 2 ≤ b.length → C.calm = true) (Q : PV → Sto → Prop) (h : Q (.int v) st) : CJ C 26 (fnName 24) [.list (pis a), .list (pis b)] st Q := by
  obtain ⟨a', b', sign, r, ho, hr, rfl⟩ := hr
  refine resultant_ok hF a b a' b' (fun h2 => ?_) sign r ho hr Q h
  have h3 := hr.lab
  rcases ho with ⟨h0, rfl, rfl, _⟩ | ⟨h0, rfl, rfl, _⟩
  · exact hc h2 (by lia)
  · exact hc (by lia) h2

theorem deriveZ_len (p : List Int) : (deriveZ p).length = p.length - 1 := by simp [deriveZ, mulIx_len]

theorem discriminant_ok (hF : Fns C) (hc : C.calm = true) (f : List Int) (v : Int) (h2 : 2 ≤ f.length) (hl : f.length ≤ 10) (hfit : ∀ x ∈ f, Fits x) (hne : leadZ f ≠ 0) (hlf : Fits (leadZ f)) (hr : ResIs f (deriveZ f) v) (Q : PV → Sto → Prop)
    (h : Q (.int (if ((f.length - 1) * (f.length - 2) / 2) % 2 = 1 then -(v.fdiv (leadZ f)) else v.fdiv (leadZ f))) st) : CJ C 27 (fnName 25) [.list (pis f)] st Q := by
  refine CJ_fn (m := 26) (names := ["f"]) hF.f25 ⟨fun _ _ _ => all_len1 fun _  => rfl, by decide, by decide, by decide, rfl, rfl, rfl⟩ rfl ?_
  · refine EXs_cons ?_
    repeat walk_at "m ev"
    refine zdegree_ok hF _ (by lia) _ ?_
    repeat walk_at "m ev"
    refine if_dec (fun q => absurd q (by lia)) fun _ => ?_
    repeat walk_at "m ev"
    refine zderive_ok hF hc _ (by lia) hfit _ ?_
    repeat walk_at "m ev"
    refine resultant_is hF hr (fun _ _ => hc) _ ?_
    repeat walk_at "m ev"
    refine zlead_ok hF _ (by lia) _ ?_
    repeat walk_at "m ev"
    refine bo_div hne hlf ?_
    repeat walk_at "m ev"
    have hs : ∀ n : Nat, n ≤ 10 → Fits n := fun n hn => bd_fits (k := 10) (by simp; lia) (by decide)
    rw [show (f.length : Int) - 1 = ((f.length - 1 : Nat) : Int) by lia]
    repeat walk_at "m ev"
    rw [show ((f.length - 1 : Nat) : Int) - 1 = ((f.length - 2 : Nat) : Int) by lia]
    refine bo_mul (hs _ (by lia)) (hs _ (by lia)) ?_
    repeat walk_at "m ev"
    refine bo_div (by decide) (hs 2 (by decide)) ?_
    repeat walk_at "m ev"
    refine bo_mod (by decide) ?_
    repeat walk_at "m ev"
    have e1 : (((f.length - 1 : Nat) : Int) * ((f.length - 2 : Nat) : Int)).fdiv 2 = ((((f.length - 1) * (f.length - 2) / 2 : Nat)) : Int) := by
      rw [Int.fdiv_eq_ediv_of_nonneg _ (by decide)]; push_cast; rfl
    rw [e1]
    refine if_dec (fun q => ?_) fun q => ?_
    · rw [Int.fmod_eq_emod_of_nonneg _ (by decide)] at q
      rw [if_pos (by lia)] at h
      repeat walk_at "m ev"
      exact h
    · rw [Int.fmod_eq_emod_of_nonneg _ (by decide)] at q
      rw [if_neg (by lia)] at h
      repeat walk_at "m ev"
      exact h

theorem root_bound_ok (hF : Fns C) (hc : C.calm = true) (f : List Int) (hl : f.length ≤ 10) (hn : f ≠ []) (hne : leadZ f ≠ 0) (hlf : Fits (leadZ f)) (Q : PV → Sto → Prop)
    (h : ∀ M : Nat, (∃ x ∈ f, x.natAbs = M) → (∀ x ∈ f, x.natAbs ≤ M) → Q (.int (2 + (M : Int).fdiv ((leadZ f).natAbs : Int))) st) : CJ C 21 (fnName 27) [.list (pis f)] st Q := by
  refine CJ_fn (m := 20) (names := ["f"]) hF.f27 ⟨fun _ _ _ => all_len1 fun _  => rfl, by decide, by decide, by decide, rfl, rfl, rfl⟩ rfl ?_
  · refine EXs_cons ?_
    repeat walk_at "m ev"
    refine EV_comp (tt := false) (JI_list ?_) (by walk_at "m gens") (fun _ _ => rfl) (by nofun) (by walk_at "m comp")
    repeat walk_at "m ev"
    refine ⟨_, rfl, fun k rho' l => l = pis ((f.take k).map fun x => (x.natAbs : Int)), rfl, ?_, ?_⟩
    · rintro k x rho' l K hK hx rfl
      obtain ⟨z, hz, rfl⟩ := pis_get hx
      repeat walk_at "m ev"
      refine ⟨rfl, ?_, rfl, hK _ _ ?_⟩
      · simp [pis]; lia
      · rw [List.take_add_one, hz]; simp [pis]
    · rintro rho' l rfl
      repeat walk_at "m ev"
      rw [pis_len, List.take_length]
      refine BJ_maxL hc (by simp; exact List.length_pos_iff.mpr hn) fun M hM hMle => ?_
      obtain ⟨x, hx, rfl⟩ := List.mem_map.mp hM
      repeat walk_at "m ev"
      refine zlead_ok hF _ (by lia) _ ?_
      repeat walk_at "m ev"
      refine bo_div (by lia) (by unfold Fits at *; lia) ?_
      repeat walk_at "m ev"
      refine h x.natAbs ⟨x, hx, rfl⟩ fun y hy => ?_
      have := hMle _ (List.mem_map.mpr ⟨y, hy, rfl⟩)
      lia

theorem zshift_ok (hF : Fns C) (hc : C.calm = true) (p : List Int) (n : Int) (k e : Nat) (hl : p.length ≤ 4) (hb : Bd k p) (hn : n.natAbs ≤ 2 ^ e) (hke : k + 16 * (e + 1) < 8000) (Q : PV → Sto → Prop)
    (h : Q (.list (pis (shiftZ p n))) st) : CJ C 20 (fnName 16) [.list (pis p), .int n] st Q := by
  refine CJ_drop (CJ_fn (m := 19) (names := ["p", "n"]) hF.f16 ⟨fun _ _ _ => all_len2 fun _ _  => rfl, by decide, by decide, by decide, rfl, rfl, rfl⟩ rfl ?_)
  · refine EXs_cons ?_
    repeat walk_at "m ev"
    refine BJ_listM ?_ (by rw [pis_len]; lia) (noMuts_pis _)
    repeat walk_at "m ev"
    refine EX_for (tt := false) (JI_up hc ?_) (fun _ _ => rfl) (by nofun)
    repeat walk_at "m ev"
    refine BJ_len ?_ (by rw [pis_len]; lia)
    rw [pis_len]
    repeat walk_at "m ev"
    refine ⟨by decide, by lia, fun i rho' st' => rho' "p" = some (.list (pis p)) ∧ rho' "n" = some (.int n) ∧ rho' "found" = some (.mut st.length) ∧ st' = st ++ [some (pis (shiftG n (p.length - 1) i p))] ∧ Bd (k + i * 4 * (e + 1)) (shiftG n (p.length - 1) i p),
      ⟨by walk_at "m look", by walk_at "m look", by walk_at "m look", rfl, by simpa [shiftG] using hb⟩, ?_, ?_⟩
    · rintro i x rho' st' K hK hx ⟨ep, en, ef, rfl, hbi⟩
      obtain ⟨hi, rfl⟩ := rangeP_get hx
      have hi' : i < p.length - 1 := by lia
      rw [show (0 : Int) + i * 1 = i by lia]
      repeat walk_at "m ev"
      refine EX_for (tt := false) (JI_dn hc ?_) (fun _ _ => rfl) (by nofun)
      repeat walk_at "m ev"
      refine BJ_len ?_ (by rw [pis_len]; lia)
      rw [pis_len]
      repeat walk_at "m ev"
      refine BJ_range3 (by decide) (bd_fits (k := 1) (by decide) (by decide)) ?_
      repeat walk_at "m ev"
      refine ⟨by lia, by lia, fun j rho2 st2 => rho2 "p" = some (.list (pis p)) ∧ rho2 "n" = some (.int n) ∧ rho2 "found" = some (.mut st.length) ∧ st2 = st ++ [some (pis (downS n (p.length - 1) j (shiftG n (p.length - 1) i p)))] ∧ Bd (k + i * 4 * (e + 1) + j * (e + 1)) (downS n (p.length - 1) j (shiftG n (p.length - 1) i p)),
        ⟨by walk_at "m look", by walk_at "m look", by walk_at "m look", rfl, by simpa [downS] using hbi⟩, ?_, ?_⟩
      · rintro j y rho2 st2 K2 hK2 hy ⟨ep2, en2, ef2, rfl, hbj⟩
        obtain ⟨hj, rfl⟩ := rangeP_get hy
        have hj' : j < p.length - 1 - i := by lia
        generalize hG : downS n (p.length - 1) j (shiftG n (p.length - 1) i p) = G at *
        have hGl : G.length = p.length := by rw [← hG, downS_len, shiftG_len]
        have hat : (p.length : Int) - 2 + j * -1 = ((p.length - 2 - j : Nat) : Int) := by lia
        rw [hat]
        generalize hA : p.length - 2 - j = at' at *
        have hlt : at' + 1 < G.length := by lia
        have g1 : G[at']? = some (G.getD at' 0) := by rw [List.getD_eq_getElem?_getD, List.getElem?_eq_getElem (by lia)]; rfl
        have g2 : G[at' + 1]? = some (G.getD (at' + 1) 0) := by rw [List.getD_eq_getElem?_getD, List.getElem?_eq_getElem hlt]; rfl
        have hb2 := bd_getD hbj (at' + 1)
        have hj4 : i * 4 * (e + 1) + j * (e + 1) ≤ 16 * (e + 1) := by rw [← Nat.add_mul]; exact Nat.mul_le_mul_right _ (by lia)
        refine JA_name ?_ (by walk_at "m kind")
        refine EXs_cons (EX_augSub ?_ (by intros; nofun))
        repeat walk_at "m ev"
        refine ⟨pis G, .int (G.getD at' 0), by simp, by rw [pis_len]; lia, by lia, by rw [Int.toNat_natCast]; exact get_pis g1, ?_⟩
        repeat walk_at "m ev"
        refine ⟨pis G, .int (G.getD (at' + 1) 0), by simp, by rw [pis_len]; lia, by lia, by rw [show ((at' : Int) + 1).toNat = at' + 1 by lia]; exact get_pis g2, ?_⟩
        refine bo_mul (bd_fits hn (by lia)) (bd_fits hb2 (by lia)) ?_
        repeat walk_at "m ev"
        refine ⟨rfl, pis G, by simp, by rw [pis_len]; lia, by lia, by rw [pis_len]; lia, ?_⟩
        repeat walk_at "m ev"
        refine hK2 _ _ _ (tk_next ⟨by walk_at "m look", by walk_at "m look", by walk_at "m look", ?_, ?_⟩)
        · show _ = st ++ [some (pis (stepS n (downS n (p.length - 1) j _) (p.length - 1 - 1 - j)))]
          rw [hG, show p.length - 1 - 1 - j = at' by lia]
          simp [stepS, pis, List.map_set]
        · show Bd _ (stepS n (downS n (p.length - 1) j _) (p.length - 1 - 1 - j))
          rw [hG]
          have := bd_stepS (i := p.length - 1 - 1 - j) hbj hn
          rw [Nat.add_mul, Nat.one_mul]
          exact this.mono (by lia)
      · rintro rho2 st2 ⟨ep2, en2, ef2, rfl, hbj⟩
        repeat walk_at "m ev"
        rw [rangeP_len, show ((p.length : Int) - 2 - ((i : Int) - 1)).toNat = p.length - 1 - i by lia] at *
        refine hK _ _ _ (tk_next ⟨ep2, en2, ef2, rfl, ?_⟩)
        show Bd _ (downS n (p.length - 1) (p.length - 1 - i) _)
        refine hbj.mono ?_
        rw [show (i + 1) * 4 * (e + 1) = i * 4 * (e + 1) + 4 * (e + 1) by rw [Nat.add_mul, Nat.add_mul, Nat.one_mul]]
        have : (p.length - 1 - i) * (e + 1) ≤ 4 * (e + 1) := Nat.mul_le_mul_right _ (by lia)
        lia
    · rintro rho' st' ⟨ep, en, ef, rfl, hbi⟩
      refine ck_next (EXs_cons (EX_return ?_))
      refine EV_freeze (l := pis (shiftG n (p.length - 1) (rangeP 0 ((p.length : Int) - 1 - 0).toNat 1).length p)) ?_ ef (by simp) rfl (by decide)
      repeat walk_at "m ev"
      rw [rangeP_len, show ((p.length : Int) - 1 - 0).toNat = p.length - 1 by lia]
      exact ⟨noMuts_pis _, by simpa [shiftZ] using h⟩
end

-- MF7
section
set_option maxRecDepth 100000
open PySem PySem.W PyProof.Rows

variable {C : Cx} {st : Sto}

noncomputable def dL : List Int → List Int
  | [] => []
  | [_] => []
  | x :: y :: r => (y - x) :: dL (y :: r)
noncomputable def fdL : Nat → List Int → List Int
  | 0, _ => []
  | _ + 1, [] => []
  | n + 1, x :: r => x :: fdL n (dL (x :: r))
noncomputable def sumL : List Int → List Int
  | [] => []
  | [x] => [x]
  | x :: y :: r => (x + y) :: sumL (y :: r)
noncomputable def iterS : Nat → List Int → List Int
  | 0, l => l
  | n + 1, l => sumL (iterS n l)
noncomputable def zerosL (row : List Int) : Nat → List Int
  | 0 => []
  | t + 1 => if (iterS t row).getD 0 0 = 0 then zerosL row t ++ [(t : Int)] else zerosL row t

theorem dL_len : ∀ l : List Int, (dL l).length = l.length - 1
  | [] => rfl
  | [_] => rfl
  | x :: y :: r => by simp [dL, dL_len (y :: r)]
theorem sumL_len : ∀ l : List Int, (sumL l).length = l.length
  | [] => rfl
  | [_] => rfl
  | x :: y :: r => by simp [sumL, sumL_len (y :: r)]
theorem iterS_len (n : Nat) (l : List Int) : (iterS n l).length = l.length := by
  induction n with
  | zero => rfl
  | succ n ih => simp [iterS, sumL_len, ih]
theorem dL_get : ∀ {l : List Int} {i : Nat}, i + 1 < l.length → (dL l)[i]? = some (l.getD (i + 1) 0 - l.getD i 0)
  | [], i, h => by simp at h
  | [_], i, h => by simp at h
  | x :: y :: r, 0, _ => by simp [dL]
  | x :: y :: r, i + 1, h => by
    simp only [dL, List.getElem?_cons_succ, List.getD_cons_succ]
    rw [dL_get (by simpa using h)]; simp
/-- the sums below an index are laid, the rest is as it was -/
noncomputable def partS (l : List Int) (i : Nat) : List Int := (sumL l).take i ++ l.drop i
theorem sumL_get : ∀ {l : List Int} {i : Nat}, i + 1 < l.length → (sumL l)[i]? = some (l.getD i 0 + l.getD (i + 1) 0)
  | [], i, h => by simp at h
  | [_], i, h => by simp at h
  | x :: y :: r, 0, _ => by simp [sumL]
  | x :: y :: r, i + 1, h => by
    simp only [sumL, List.getElem?_cons_succ, List.getD_cons_succ]
    rw [sumL_get (by simpa using h)]; simp
theorem sumL_last : ∀ {l : List Int} {i : Nat}, i + 1 = l.length → (sumL l)[i]? = l[i]?
  | [], i, h => by simp at h
  | [_], i, h => by simp at h; subst h; rfl
  | x :: y :: r, 0, h => by simp at h
  | x :: y :: r, i + 1, h => by
    simp only [sumL, List.getElem?_cons_succ]
    rw [sumL_last (by simpa using h)]
theorem partS_len (l : List Int) (i : Nat) : (partS l i).length = l.length := by simp [partS, sumL_len]; lia
theorem partS_get (l : List Int) (i j : Nat) (h : i ≤ j) : (partS l i)[j]? = l[j]? := by
  unfold partS
  by_cases hj : j < l.length
  · have : ((sumL l).take i).length = i := by rw [List.length_take, sumL_len]; lia
    rw [List.getElem?_append_right (by lia), this, List.getElem?_drop]; congr 1; lia
  · rw [List.getElem?_eq_none (by simp [sumL_len]; lia), List.getElem?_eq_none (by lia)]
theorem partS_step (l : List Int) (i : Nat) (h : i + 1 < l.length) : (partS l i).set i (l.getD i 0 + l.getD (i + 1) 0) = partS l (i + 1) := by
  have h1 : ((sumL l).take i).length = i := by rw [List.length_take, sumL_len]; lia
  have hg : l[i]? = some (l.getD i 0) := by rw [List.getD_eq_getElem?_getD, List.getElem?_eq_getElem (by lia)]; rfl
  unfold partS
  rw [List.set_append_right _ _ (by lia), h1, Nat.sub_self, drop_of_get hg, List.set_cons_zero, List.take_add_one, sumL_get h]
  simp
theorem partS_full (l : List Int) : partS l (l.length - 1) = sumL l := by
  refine List.ext_getElem? fun j => ?_
  unfold partS
  by_cases hj : j < l.length - 1
  · rw [List.getElem?_append_left (by rw [List.length_take, sumL_len]; lia), List.getElem?_take_of_lt hj]
  · have := partS_get l (l.length - 1) j (by lia)
    unfold partS at this
    rw [this]
    by_cases h2 : j + 1 = l.length
    · exact (sumL_last h2).symm
    · rw [List.getElem?_eq_none (by lia), List.getElem?_eq_none (by rw [sumL_len]; lia)]

theorem first_differences_ok (hF : Fns C) (hc : C.calm = true) (p : List Int) (hl : p.length ≤ 1000) (Q : PV → Sto → Prop) (h : Q (.list (pis (fdL p.length p))) st) : CJ C 20 (fnName 29) [.list (pis p)] st Q := by
  refine CJ_drop (CJ_fn (m := 19) (names := ["numbers"]) hF.f29 ⟨fun _ _ _ => all_len1 fun _  => rfl, by decide, by decide, by decide, rfl, rfl, rfl⟩ rfl ?_)
  · refine EXs_cons ?_
    repeat walk_at "m ev"
    refine EV_listM ?_
    repeat walk_at "m ev"
    refine ⟨rfl, ?_⟩
    repeat walk_at "m ev"
    refine EX_while (fun m rho st' => ∃ q got, q.length = m ∧ rho "numbers" = some (.list (pis q)) ∧ rho "found" = some (.mut st.length) ∧ st' = st ++ [some (pis got)] ∧ got ++ fdL q.length q = fdL p.length p ∧ got.length + q.length ≤ 1000) p.length
      ⟨p, [], rfl, by walk_at "m look", by walk_at "m look", rfl, rfl, by simpa using hl⟩ ?_
    rintro m rho st' K D hK hD ⟨q, got, rfl, en, ef, rfl, hq, hgl⟩
    repeat walk_at "m ev"
    refine BJ_len ?_ (by rw [pis_len]; lia)
    rw [pis_len]
    repeat walk_at "m ev"
    refine if_dec (fun hpos => ?_) fun hz => ?_
    · obtain ⟨x, r, rfl⟩ : ∃ x r, q = x :: r := by
        cases q with
        | nil => simp at hpos
        | cons x r => exact ⟨x, r, rfl⟩
      refine EXs_cons (EX_append ?_ (fun _ => rfl) (fun _ => rfl) rfl (fun _ => rfl) rfl (fun _ => rfl))
      repeat walk_at "m ev"
      refine ⟨_, pis got, rfl, by simp, ?_⟩
      repeat walk_at "m ev"
      refine ⟨.int x, by rw [pis_len]; lia, by rw [if_neg (by decide)]; rfl, ?_⟩
      refine ⟨rfl, pis got, by simp, by rw [pis_len]; lia, ?_⟩
      repeat walk_at "m ev"
      refine EV_comp (tt := false) (JI_up hc ?_) (by walk_at "m gens") (fun _ _ => rfl) (by nofun) (by walk_at "m comp")
      repeat walk_at "m ev"
      refine BJ_len ?_ (by rw [pis_len]; lia)
      rw [pis_len]
      repeat walk_at "m ev"
      refine ⟨by decide, by lia, fun k rho' l => Ext (compVars _ (fnScope 29) _) rho' ∧ l = pis ((dL (x :: r)).take k), ⟨.refl, rfl⟩, ?_, ?_⟩
      · rintro k y rho' l K0 hK0 hx ⟨he, rfl⟩
        obtain ⟨hk, rfl⟩ := rangeP_get hx
        have hk : k + 1 < (x :: r).length := by lia
        have h1 : rho' "numbers" = some (.list (pis (x :: r))) := ext_look he (by walk_at "m look") rfl
        rw [show (0 : Int) + k * 1 = k by lia]
        repeat walk_at "m ev"
        have g1 : (x :: r)[k]? = some ((x :: r).getD k 0) := by rw [List.getD_eq_getElem?_getD, List.getElem?_eq_getElem (by lia)]; rfl
        have g2 : (x :: r)[k + 1]? = some ((x :: r).getD (k + 1) 0) := by rw [List.getD_eq_getElem?_getD, List.getElem?_eq_getElem hk]; rfl
        refine ⟨.int ((x :: r).getD (k + 1) 0), by rw [pis_len]; lia, ?_, ?_⟩
        · rw [if_neg (by lia), show ((k : Int) + 1).toNat = k + 1 by lia]; exact get_pis g2
        repeat walk_at "m ev"
        refine ⟨.int ((x :: r).getD k 0), by rw [pis_len]; lia, ?_, ?_⟩
        · rw [if_neg (by lia), Int.toNat_natCast]; exact get_pis g1
        repeat walk_at "m ev"
        refine ⟨rfl, by rw [pis_len, List.length_take, dL_len]; lia, rfl, hK0 _ _ ⟨he.upd rfl, ?_⟩⟩
        rw [List.take_add_one, dL_get hk]; simp [pis]
      · rintro rho' l ⟨he, rfl⟩
        repeat walk_at "m ev"
        rw [rangeP_len, List.take_of_length_le (by rw [dL_len]; lia)]
        have hd := dL_len (x :: r)
        refine hK _ _ _ (tk_next ⟨(dL (x :: r)).length, by rw [hd]; simp, dL (x :: r), got ++ [x], rfl, by walk_at "m look", by walk_at "m look", by simp [pis], ?_, ?_⟩)
        · rw [← hq, hd]; simp [fdL]
        · rw [hd]; simp at hgl ⊢; lia
    · have : q = [] := List.length_eq_zero_iff.mp (by lia)
      subst this
      refine hD _ _ ?_
      refine ck_next (EXs_cons (EX_return ?_))
      refine EV_freeze (l := pis got) ?_ ef (by simp) rfl (by decide)
      repeat walk_at "m ev"
      simp only [List.length_nil, fdL, List.append_nil] at hq
      rw [hq]
      exact ⟨noMuts_pis _, by simpa using h⟩

theorem getD_some {l : List Int} {i : Nat} (h : i < l.length) : l[i]? = some (l.getD i 0) := by rw [List.getD_eq_getElem?_getD, List.getElem?_eq_getElem h]; rfl
theorem zerosL_pos {row : List Int} {t : Nat} (h : (iterS t row).getD 0 0 = 0) : zerosL row (t + 1) = zerosL row t ++ [(t : Int)] := by
  show (if (iterS t row).getD 0 0 = 0 then _ else _) = _
  rw [if_pos h]
theorem zerosL_neg {row : List Int} {t : Nat} (h : ¬ (iterS t row).getD 0 0 = 0) : zerosL row (t + 1) = zerosL row t := by
  show (if (iterS t row).getD 0 0 = 0 then _ else _) = _
  rw [if_neg h]
theorem set_one {α : Type} (l : List α) (x y z : α) : (l ++ [x, y]).set (l.length + 1) z = l ++ [x, z] := by
  rw [List.set_append_right _ _ (by lia), show l.length + 1 - l.length = 1 by lia]; rfl
theorem zerosL_len (row : List Int) : ∀ t, (zerosL row t).length ≤ t
  | 0 => Nat.le_refl _
  | t + 1 => by
    have := zerosL_len row t
    unfold zerosL
    split
    · simp; lia
    · lia

theorem zeros_on_ok (hF : Fns C) (hc : C.calm = true) (p : List Int) (last : Nat) (hl : p.length ≤ 1000) (hp : p ≠ []) (hla : last ≤ 900000) (Q : PV → Sto → Prop) (h : Q (.list (pis (zerosL p (last + 1)))) st) : CJ C 20 (fnName 30) [.list (pis p), .int last] st Q := by
  have hp0 : 0 < p.length := List.length_pos_iff.mpr hp
  refine CJ_drop (CJ_fn (m := 19) (names := ["differences", "last"]) hF.f30 ⟨fun _ _ _ => all_len2 fun _ _  => rfl, by decide, by decide, by decide, rfl, rfl, rfl⟩ rfl ?_)
  · refine EXs_cons ?_
    repeat walk_at "m ev"
    refine BJ_listM ?_ (by rw [pis_len]; lia) (noMuts_pis _)
    repeat walk_at "m ev"
    refine EV_listM ?_
    repeat walk_at "m ev"
    refine ⟨rfl, ?_⟩
    repeat walk_at "m ev"
    refine EX_for (tt := false) (JI_up hc ?_) (fun _ _ => rfl) (by nofun)
    repeat walk_at "m ev"
    refine ⟨by decide, by lia, fun t rho' st' => rho' "row" = some (.mut st.length) ∧ rho' "found" = some (.mut (st.length + 1)) ∧ st' = st ++ [some (pis (iterS t p)), some (pis (zerosL p t))],
      ⟨by walk_at "m look", by (have : (st ++ [some (pis p)]).length = st.length + 1 := by simp); rw [this]; walk_at "m look", by simp [iterS, zerosL, pis]⟩, ?_, ?_⟩
    · rintro t x rho' st' K hK hx ⟨er, ef, rfl⟩
      obtain ⟨ht, rfl⟩ := rangeP_get hx
      rw [show (0 : Int) + t * 1 = t by lia]
      have hzl := zerosL_len p t
      have hil := iterS_len t p
      refine JA_name ?_ (by walk_at "m kind")
      refine EXs_cons (EX_join' (fun rho st2 => rho "row" = some (.mut st.length) ∧ rho "found" = some (.mut (st.length + 1)) ∧ st2 = st ++ [some (pis (iterS t p)), some (pis (zerosL p (t + 1)))]) ?_ ?_)
      · refine EX_if ?_
        repeat walk_at "m ev0"
        refine ⟨pis (iterS t p), .int ((iterS t p).getD 0 0), by simp, by rw [pis_len]; lia, by decide, ?_, ?_⟩
        · exact get_pis (getD_some (by lia))
        repeat walk_at "m ev0"
        refine if_dec (fun hz => ?_) fun hnz => ?_
        · refine EXs_cons (EX_append ?_ (fun _ => rfl) (fun _ => rfl) rfl (fun _ => rfl) rfl (fun _ => rfl))
          repeat walk_at "m ev0"
          refine ⟨_, pis (zerosL p t), rfl, by simp, ?_⟩
          repeat walk_at "m ev0"
          refine ⟨rfl, pis (zerosL p t), by simp, by rw [pis_len]; lia, ?_⟩
          repeat walk_at "m ev0"
          refine ⟨rfl, by walk_at "m look", by walk_at "m look", ?_⟩
          rw [zerosL_pos hz, set_one]
          simp [pis]
        · repeat walk_at "m ev0"
          refine ⟨rfl, by walk_at "m look", by walk_at "m look", ?_⟩
          rw [zerosL_neg hnz]
      rintro rho2 st2 ⟨er, ef, rfl⟩
      repeat walk_at "m ev"
      refine EX_for (tt := false) (JI_up hc ?_) (fun _ _ => rfl) (by nofun)
      repeat walk_at "m ev"
      refine BJ_lenM (l := pis (iterS t p)) (by simp) ?_ (by rw [pis_len]; lia)
      rw [pis_len]
      repeat walk_at "m ev"
      generalize hR : iterS t p = R at *
      refine ⟨by decide, by lia, fun i rho3 st3 => rho3 "row" = some (.mut st.length) ∧ rho3 "found" = some (.mut (st.length + 1)) ∧ st3 = st ++ [some (pis (partS R i)), some (pis (zerosL p (t + 1)))],
        ⟨by walk_at "m look", by walk_at "m look", by simp [partS]⟩, ?_, ?_⟩
      · rintro i y rho3 st3 K2 hK2 hy ⟨er, ef, rfl⟩
        obtain ⟨hi, rfl⟩ := rangeP_get hy
        rw [show (0 : Int) + i * 1 = i by lia]
        have hi : i + 1 < R.length := by lia
        have hpl := partS_len R i
        refine JA_name ?_ (by walk_at "m kind")
        refine EXs_cons (EX_augSub ?_ (by intros; nofun))
        repeat walk_at "m ev"
        refine ⟨pis (partS R i), .int (R.getD i 0), by simp, by rw [pis_len]; lia, by lia, ?_, ?_⟩
        · rw [Int.toNat_natCast]; refine get_pis ?_
          rw [partS_get R i i (Nat.le_refl _), List.getD_eq_getElem?_getD, List.getElem?_eq_getElem (by lia)]; rfl
        repeat walk_at "m ev"
        refine ⟨pis (partS R i), .int (R.getD (i + 1) 0), by simp, by rw [pis_len]; lia, by lia, ?_, ?_⟩
        · rw [show ((i : Int) + 1).toNat = i + 1 by lia]; refine get_pis ?_
          rw [partS_get R i (i + 1) (by lia), List.getD_eq_getElem?_getD, List.getElem?_eq_getElem (by lia)]; rfl
        repeat walk_at "m ev"
        refine ⟨rfl, pis (partS R i), by simp, by rw [pis_len]; lia, by lia, by rw [pis_len]; lia, ?_⟩
        repeat walk_at "m ev"
        refine hK2 _ _ _ (tk_next ⟨by walk_at "m look", by walk_at "m look", ?_⟩)
        rw [← partS_step R i hi]
        simp [pis, List.map_set]
      · rintro rho3 st3 ⟨er, ef, rfl⟩
        repeat walk_at "m ev"
        rw [rangeP_len, show ((R.length : Int) - 1 - 0).toNat = R.length - 1 by lia, partS_full]
        refine hK _ _ _ (tk_next ⟨er, ef, ?_⟩)
        rw [← hR]; rfl
    · rintro rho' st' ⟨er, ef, rfl⟩
      refine ck_next (EXs_cons (EX_return ?_))
      refine EV_freeze (l := pis (zerosL p (rangeP 0 ((last : Int) + 1 - 0).toNat 1).length)) ?_ ef (by simp) rfl (by decide)
      repeat walk_at "m ev"
      rw [rangeP_len, show ((last : Int) + 1 - 0).toNat = last + 1 by lia]
      exact ⟨noMuts_pis _, by simpa using h⟩
end

-- MF8
section
set_option maxRecDepth 100000
open PySem PySem.W PyProof.Rows

variable {C : Cx} {st : Sto}

theorem shiftZ_len (p : List Int) (n : Int) : (shiftZ p n).length = p.length := shiftG_len _ _ _ _
theorem fdL_len : ∀ (n : Nat) (l : List Int), l.length = n → (fdL n l).length = n
  | 0, _, _ => rfl
  | n + 1, [], h => by simp at h
  | n + 1, x :: r, h => by
    simp only [fdL, List.length_cons]
    rw [fdL_len n _ (by rw [dL_len]; simp at h ⊢; lia)]

noncomputable def numsF (v : Nat → Int) : Nat → List Int
  | 0 => []
  | n + 1 => numsF v n ++ [v n]
theorem numsF_len (v : Nat → Int) (n : Nat) : (numsF v n).length = n := by induction n with
  | zero => rfl
  | succ n ih => simp [numsF, ih]

theorem dispersions_ok (hF : Fns C) (hc : C.calm = true) (a b : List Int) (v : Nat → Int) (ha2 : 2 ≤ a.length) (hb2 : 2 ≤ b.length) (ha4 : a.length ≤ 4) (hb4 : b.length ≤ 4) (ba : Bd 12 a) (bb : Bd 12 b) (hla : leadZ a ≠ 0) (hlb : leadZ b ≠ 0)
    (hv : ∀ h : Nat, h ≤ (a.length - 1) * (b.length - 1) → ResIs a (shiftZ b h) (v h)) (Q : PV → Sto → Prop)
    (h : ∀ Ma Mb : Nat, (∃ x ∈ a, x.natAbs = Ma) → (∀ x ∈ a, x.natAbs ≤ Ma) → (∃ x ∈ b, x.natAbs = Mb) → (∀ x ∈ b, x.natAbs ≤ Mb) →
      Q (.list (pis (zerosL (fdL ((a.length - 1) * (b.length - 1) + 1) (numsF v ((a.length - 1) * (b.length - 1) + 1))) (2 + Ma / (leadZ a).natAbs + (2 + Mb / (leadZ b).natAbs) + 1)))) st) : CJ C 27 (fnName 31) [.list (pis a), .list (pis b)] st Q := by
  have hm9 : (a.length - 1) * (b.length - 1) ≤ 3 * 3 := Nat.mul_le_mul (by lia) (by lia)
  refine CJ_fn (m := 26) (names := ["a", "b"]) hF.f31 ⟨fun _ _ _ => all_len2 fun _ _  => rfl, by decide, by decide, by decide, rfl, rfl, rfl⟩ rfl ?_
  · refine EXs_cons ?_
    repeat walk_at "m ev"
    refine zdegree_ok hF _ (by lia) _ ?_
    repeat walk_at "m ev"
    refine if_dec (fun q => absurd q (by lia)) fun _ => ?_
    repeat walk_at "m ev"
    refine zdegree_ok hF _ (by lia) _ ?_
    repeat walk_at "m ev"
    refine if_dec (fun q => absurd q (by lia)) fun _ => ?_
    repeat walk_at "m ev"
    simp only [Bool.false_eq_true, if_false]
    repeat walk_at "m ev"
    refine zdegree_ok hF _ (by lia) _ ?_
    repeat walk_at "m ev"
    refine zdegree_ok hF _ (by lia) _ ?_
    repeat walk_at "m ev"
    have hs : ∀ n : Nat, n ≤ 10 → Fits n := fun n hn => bd_fits (k := 10) (by simp; lia) (by decide)
    rw [show (a.length : Int) - 1 = ((a.length - 1 : Nat) : Int) by lia, show (b.length : Int) - 1 = ((b.length - 1 : Nat) : Int) by lia]
    refine bo_mul (hs _ (by lia)) (hs _ (by lia)) ?_
    rw [show ((a.length - 1 : Nat) : Int) * ((b.length - 1 : Nat) : Int) = (((a.length - 1) * (b.length - 1) : Nat) : Int) by push_cast; rfl]
    generalize hmost : (a.length - 1) * (b.length - 1) = most at *
    repeat walk_at "m ev"
    refine EX_compUse (tt := false) (JI_up hc ?_) (by walk_at "m gens") (fun _ _ => rfl) (by nofun) (by walk_at "m comp") rfl (by walk_at "m env")
    repeat walk_at "m ev"
    refine ⟨by decide, by lia, fun k rho' l => Ext (compVars _ (fnScope 31) _) rho' ∧ l = pis (numsF v k), ⟨.refl, rfl⟩, ?_, ?_⟩
    · rintro k y rho' l K hK hx ⟨he, rfl⟩
      obtain ⟨hk, rfl⟩ := rangeP_get hx
      have hk : k ≤ most := by lia
      have h1 : rho' "a" = some (.list (pis a)) := ext_look he (by walk_at "m look") rfl
      have h2 : rho' "b" = some (.list (pis b)) := ext_look he (by walk_at "m look") rfl
      rw [show (0 : Int) + k * 1 = k by lia]
      repeat walk_at "m ev"
      refine zshift_ok hF hc _ _ 12 4 hb4 bb (by simp; lia) (by decide) _ ?_
      repeat walk_at "m ev"
      refine resultant_is hF (hv k hk) (fun _ _ => hc) _ ?_
      repeat walk_at "m ev"
      exact ⟨rfl, by rw [pis_len, numsF_len]; lia, rfl, hK _ _ ⟨he.upd rfl, by simp [pis, numsF]⟩⟩
    · rintro rho' l ⟨he, rfl⟩
      repeat walk_at "m ev"
      rw [rangeP_len, show ((most : Int) + 1 - 0).toNat = most + 1 by lia]
      refine first_differences_ok hF hc _ (by rw [numsF_len]; lia) _ ?_
      repeat walk_at "m ev"
      refine root_bound_ok hF hc _ (by lia) (fun q => by subst q; simp at ha2) hla (bd_fits (bd_lead ba) (by decide)) _ fun Ma hMa hMa' => ?_
      repeat walk_at "m ev"
      refine root_bound_ok hF hc _ (by lia) (fun q => by subst q; simp at hb2) hlb (bd_fits (bd_lead bb) (by decide)) _ fun Mb hMb hMb' => ?_
      repeat walk_at "m ev"
      have e1 : (2 : Int) + (Ma : Int).fdiv ((leadZ a).natAbs : Int) + (2 + (Mb : Int).fdiv ((leadZ b).natAbs : Int)) = ((2 + Ma / (leadZ a).natAbs + (2 + Mb / (leadZ b).natAbs) : Nat) : Int) := by
        rw [Int.fdiv_eq_ediv_of_nonneg _ (by lia), Int.fdiv_eq_ediv_of_nonneg _ (by lia)]; push_cast; rfl
      have hMa4 : Ma / (leadZ a).natAbs ≤ 4096 := Nat.le_trans (Nat.div_le_self _ _) (by obtain ⟨x, hx, rfl⟩ := hMa; exact ba x hx)
      have hMb4 : Mb / (leadZ b).natAbs ≤ 4096 := Nat.le_trans (Nat.div_le_self _ _) (by obtain ⟨x, hx, rfl⟩ := hMb; exact bb x hx)
      rw [e1]
      have hfl := fdL_len (most + 1) (numsF v (most + 1)) (numsF_len _ _)
      refine zeros_on_ok hF hc _ _ ?_ ?_ (by lia) _ ?_
      · rw [numsF_len, hfl]; lia
      · intro q; rw [numsF_len] at q; rw [q] at hfl; simp at hfl
      repeat walk_at "m ev"
      rw [numsF_len]
      exact h Ma Mb hMa hMa' hMb hMb'

/-- what the draw knows -/
noncomputable def poolP (cells : List Int) (spot : Nat) : List PV := [.list (pis cells), .int spot]
theorem draw_ok (hF : Fns C) (k : Nat) (cells : List Int) (spot many : Nat) (hst : st[k]? = some (some (poolP cells spot))) (hcl : cells.length ≤ 1000) (hsp : spot ≤ 1000) (hm : 0 < many) (Q : PV → Sto → Prop)
    (h : ∀ v : Nat, v < many → Q (.int v) (st.set k (some (poolP cells (spot + 1))))) : CJ C 20 (fnName 33) [.mut k, .int many] st Q := by
  refine CJ_fn (m := 19) (names := ["pool", "many"]) hF.f33 ⟨fun _ _ _ => all_len2 fun _ _  => rfl, by decide, by decide, by decide, rfl, rfl, rfl⟩ rfl ?_
  · have hkl := lt_of_get hst
    have hst2 : (st.set k (some (poolP cells (spot + 1))))[k]? = some (some (poolP cells (spot + 1))) := List.getElem?_set_self hkl
    refine EXs_cons ?_
    repeat walk_at "m ev"
    refine ⟨_, .int spot, hst, by simp [poolP], by decide, rfl, ?_⟩
    repeat walk_at "m ev"
    refine JA_sub ?_ ?_
    · repeat walk_at "m ev"
      refine ⟨rfl, _, hst, by simp [poolP], by decide, by simp [poolP], ?_⟩
      have e1 : (poolP cells spot).set (Int.toNat 1) (.int ((spot : Int) + 1)) = poolP cells (spot + 1) := rfl
      rw [e1]
      repeat walk_at "m ev"
      refine ⟨_, .list (pis cells), hst2, by simp [poolP], by decide, rfl, ?_⟩
      repeat walk_at "m ev"
      refine BJ_len ?_ (by rw [pis_len]; lia)
      rw [pis_len]
      repeat walk_at "m ev"
      refine if_dec (fun hlt => ?_) fun hge => ?_
      · have hlt : spot < cells.length := by lia
        repeat walk_at "m ev"
        refine ⟨_, .list (pis cells), hst2, by simp [poolP], by decide, rfl, ?_⟩
        repeat walk_at "m ev"
        refine ⟨.int (cells.getD spot 0), by rw [pis_len]; lia, ?_, ?_⟩
        · rw [if_neg (by lia), Int.toNat_natCast]; exact get_pis (getD_some hlt)
        repeat walk_at "m ev"
        refine bo_mod (by lia) ?_
        repeat walk_at "m ev"
        rw [Int.fmod_eq_emod_of_nonneg _ (by lia)]
        exact h _ (Nat.mod_lt _ hm)
      · repeat walk_at "m ev"
        have hs : ∀ n : Nat, n ≤ 1000 → Fits n := fun n hn => bd_fits (k := 20) (by simp; lia) (by decide)
        refine bo_mul (hs 5 (by decide)) (hs _ hsp) ?_
        repeat walk_at "m ev"
        refine bo_div (by decide) (hs 3 (by decide)) ?_
        repeat walk_at "m ev"
        refine bo_mod (by lia) ?_
        repeat walk_at "m ev"
        rw [Int.fdiv_eq_ediv_of_nonneg _ (by decide), Int.fmod_eq_emod_of_nonneg _ (by lia)]
        exact h ((5 * spot + spot / 3 + 2) % many) (Nat.mod_lt _ hm)
    · intros; nofun

noncomputable def prodL (l : List Int) : Int := l.foldl (fun x y => x * y) 1
theorem times_ok (hF : Fns C) (ns : List Int) (k : Nat) (hb : Bd k ns) (hk : k * ns.length < 8000) (hk1 : k < 8000) (Q : PV → Sto → Prop) (h : Q (.int (prodL ns)) st) : CJ C 20 (fnName 35) [.list (pis ns)] st Q := by
  refine CJ_fn (m := 19) (names := ["numbers"]) hF.f35 ⟨fun _ _ _ => all_len1 fun _  => rfl, by decide, by decide, by decide, rfl, rfl, rfl⟩ rfl ?_
  · refine EXs_cons ?_
    repeat walk_at "m ev"
    refine EX_for (tt := false) (JI_list ?_) (fun _ _ => rfl) (by nofun)
    repeat walk_at "m ev"
    refine ⟨_, rfl, fun i rho st' => ∃ g : Int, rho "found" = some (.int g) ∧ (ns.drop i).foldl (fun x y => x * y) g = prodL ns ∧ g.natAbs ≤ 2 ^ (k * i) ∧ st' = st, ⟨1, by walk_at "m look", rfl, by simp, rfl⟩, ?_, ?_⟩
    · rintro i x rho st' K hK hx ⟨g, hg, he, hgb, rfl⟩
      obtain ⟨z, hz, rfl⟩ := pis_get hx
      have hi := lt_of_get hz
      have hki : k * i ≤ k * ns.length := Nat.mul_le_mul_left _ (by lia)
      have hzb := hb z (List.mem_of_getElem? hz)
      refine JA_name ?_ (by walk_at "m kind")
      refine EXs_cons ?_
      repeat walk_at "m ev"
      refine bo_mul (bd_fits hgb (by lia)) (bd_fits hzb hk1) ?_
      repeat walk_at "m ev"
      refine hK _ _ _ (tk_next ⟨_, by walk_at "m look", ?_, natAbs_mul_le hgb hzb, rfl⟩)
      rw [drop_of_get hz] at he
      exact he
    · rintro rho st' ⟨g, hg, he, _, rfl⟩
      repeat walk_at "m ev"
      rw [pis_len, List.drop_length] at he
      have he : g = prodL ns := he
      rw [he]; exact h
end

-- MF9
section
set_option maxRecDepth 100000
open PySem PySem.W PyProof.Rows

variable {C : Cx} {st : Sto}

noncomputable def ptP (q : Int × Int) : PV := .tup [.int q.1, .int q.2]
noncomputable def pts (l : List (Int × Int)) : List PV := l.map ptP
theorem pts_len (l : List (Int × Int)) : (pts l).length = l.length := by simp [pts]
theorem pts_get {l : List (Int × Int)} {i : Nat} {p : PV} (h : (pts l)[i]? = some p) : ∃ q, l[i]? = some q ∧ p = ptP q := by
  simp only [pts, List.getElem?_map, Option.map_eq_some_iff] at h
  obtain ⟨x, h1, h2⟩ := h
  exact ⟨x, h1, h2.symm⟩
theorem noMuts_pts (l : List (Int × Int)) : noMuts (pts l) = true := noMuts_all fun p hp => by
  obtain ⟨x, _, rfl⟩ := List.mem_map.mp hp; rfl

/-- one more factor, bottom x - top: the sums as the loop lays them -/
noncomputable def stepM (l : List Int) (at' : Nat) (one top bottom : Int) : List Int := (l.set at' (l.getD at' 0 - top * one)).set (at' + 1) (l.getD (at' + 1) 0 + bottom * one)
noncomputable def mulN (row : List Int) (top bottom : Int) : Nat → List Int
  | 0 => List.replicate (row.length + 1) 0
  | i + 1 => stepM (mulN row top bottom i) i (row.getD i 0) top bottom
noncomputable def mulF (row : List Int) (q : Int × Int) : List Int := mulN row q.1 q.2 row.length
noncomputable def rowP (number : Int) (fs : List (Int × Int)) : List Int := fs.foldl mulF [number]
theorem mulN_len (row : List Int) (top bottom : Int) (i : Nat) : (mulN row top bottom i).length = row.length + 1 := by
  induction i with
  | zero => simp [mulN]
  | succ i ih => simp [mulN, stepM, ih]
theorem mulF_len (row : List Int) (q : Int × Int) : (mulF row q).length = row.length + 1 := mulN_len _ _ _ _

theorem bd_stepM {k : Nat} {l : List Int} {i : Nat} {one top bottom : Int} (h : Bd k l) (h1 : one.natAbs ≤ 2 ^ k) (ht : top.natAbs ≤ 2 ^ 2) (hb : bottom.natAbs ≤ 2 ^ 2) : Bd (k + 3) (stepM l i one top bottom) := by
  have a1 := natAbs_mul_le ht h1
  have a2 := natAbs_mul_le hb h1
  have e : 2 ^ (k + 3) = 2 ^ k * 8 := by rw [Nat.pow_add]
  have e2 : 2 ^ (2 + k) = 2 ^ k * 4 := by rw [Nat.add_comm, Nat.pow_add]
  intro x hx
  rcases List.mem_or_eq_of_mem_set hx with hx | rfl
  · rcases List.mem_or_eq_of_mem_set hx with hx | rfl
    · exact h.mono (by lia) x hx
    · have := bd_getD h i; lia
  · have := bd_getD h (i + 1); lia

/-- what a drawn polynomial is like -/
theorem lt4 {P : Nat → Prop} (h0 : P 0) (h1 : P 1) (h2 : P 2) (h3 : P 3) (v : Nat) (h : v < 4) : P v := by
  have : v = 0 ∨ v = 1 ∨ v = 2 ∨ v = 3 := by lia
  rcases this with rfl | rfl | rfl | rfl <;> assumption
structure DrawnF (number : Int) (fs : List (Int × Int)) : Prop where
  num : number = 1 ∨ number = 2 ∨ number = -1 ∨ number = -3
  pos : 1 ≤ fs.length
  le : fs.length ≤ 3
  fac : ∀ q ∈ fs, -4 ≤ q.1 ∧ q.1 ≤ 4 ∧ 1 ≤ q.2 ∧ q.2 ≤ 3

inductive DrI (k : Nat) (cells : List Int) (spot : Nat) (number : Int) (st : Sto) (i : Nat) (rho' : Vars) (st' : Sto) : Prop
  | mk (fs : List (Int × Int)) (s : Nat) (X : Sto) (hi : fs.length = i) (hfs : ∀ q ∈ fs, -4 ≤ q.1 ∧ q.1 ≤ 4 ∧ 1 ≤ q.2 ∧ q.2 ≤ 3) (hs : s ≤ spot + 2 + 2 * i) (ep : rho' "pool" = some (.mut k)) (en : rho' "number" = some (.int number))
    (ef : rho' "factors" = some (.mut st.length)) (er : rho' "row" = some (.list (pis (rowP number fs)))) (hb : Bd (2 + i * 12) (rowP number fs)) (hl : (rowP number fs).length = i + 1) (e : st' = st.set k (some (poolP cells s)) ++ some (pts fs) :: X)
inductive LaI (k : Nat) (number : Int) (row : List Int) (top bottom : Int) (n : Nat) (st P : Sto) (j : Nat) (rho2 : Vars) (st2 : Sto) : Prop
  | mk (ep : rho2 "pool" = some (.mut k)) (en : rho2 "number" = some (.int number)) (ef : rho2 "factors" = some (.mut st.length)) (er : rho2 "row" = some (.list (pis row))) (el : rho2 "later" = some (.mut P.length))
    (et : rho2 "top" = some (.int top)) (eb : rho2 "bottom" = some (.int bottom)) (hb : Bd (2 + n * 12 + 3 * j) (mulN row top bottom j)) (e : st2 = P ++ [some (pis (mulN row top bottom j))])
theorem drawn_ok (hF : Fns C) (hc : C.calm = true) (k : Nat) (cells : List Int) (spot : Nat) (hst : st[k]? = some (some (poolP cells spot))) (hcl : cells.length ≤ 1000) (hsp : spot ≤ 500) (Q : PV → Sto → Prop)
    (h : ∀ number fs spot', DrawnF number fs → spot' ≤ spot + 8 → Q (.tup [.int number, .list (pts fs), .list (pis (rowP number fs))]) (st.set k (some (poolP cells spot')))) : CJ C 21 (fnName 34) [.mut k] st Q := by
  have hkl := lt_of_get hst
  refine CJ_drop (CJ_fn (m := 20) (names := ["pool"]) hF.f34 ⟨fun _ _ _ => all_len1 fun _  => rfl, by decide, by decide, by decide, rfl, rfl, rfl⟩ rfl ?_)
  · have hgs : ∀ s, (st.set k (some (poolP cells s)))[k]? = some (some (poolP cells s)) := fun s => List.getElem?_set_self hkl
    have hss : ∀ s s', (st.set k (some (poolP cells s))).set k (some (poolP cells s')) = st.set k (some (poolP cells s')) := fun s s' => by simp
    refine EXs_cons ?_
    repeat walk_at "m ev"
    refine EV_list ?_
    repeat walk_at "m ev"
    refine draw_ok hF k cells spot 4 hst hcl (by lia) (by decide) _ fun v1 hv1 => ?_
    refine ⟨.int ([1, 2, -1, -3].getD v1 0), by decide, ?_, ?_⟩
    · rw [if_neg (by lia), Int.toNat_natCast]
      exact lt4 (P := fun v1 => (pis [1, 2, -1, -3])[v1]? = some (.int ([1, 2, -1, -3].getD v1 0))) rfl rfl rfl rfl v1 hv1
    have hnum : ([1, 2, -1, -3].getD v1 0 : Int) = 1 ∨ ([1, 2, -1, -3].getD v1 0 : Int) = 2 ∨ ([1, 2, -1, -3].getD v1 0 : Int) = -1 ∨ ([1, 2, -1, -3].getD v1 0 : Int) = -3 := by
      exact lt4 (P := fun v1 => ([1, 2, -1, -3].getD v1 0 : Int) = 1 ∨ ([1, 2, -1, -3].getD v1 0 : Int) = 2 ∨ ([1, 2, -1, -3].getD v1 0 : Int) = -1 ∨ ([1, 2, -1, -3].getD v1 0 : Int) = -3) (.inl rfl) (.inr (.inl rfl)) (.inr (.inr (.inl rfl))) (.inr (.inr (.inr rfl))) v1 hv1
    generalize ([1, 2, -1, -3].getD v1 0 : Int) = number at *
    have hnb : number.natAbs ≤ 2 ^ 2 := by lia
    repeat walk_at "m ev"
    refine EV_listM ?_
    repeat walk_at "m ev"
    refine ⟨rfl, ?_⟩
    repeat walk_at "m ev"
    refine EV_list ?_
    repeat walk_at "m ev"
    refine EX_for (tt := false) (JI_up hc ?_) (fun _ _ => rfl) (by nofun)
    repeat walk_at "m ev"
    refine draw_ok hF k cells (spot + 1) 3 (by rw [List.getElem?_append_left (by simpa using hkl)]; exact hgs _) hcl (by lia) (by decide) _ fun v2 hv2 => ?_
    have hls : (st.set k (some (poolP cells (spot + 1)))).length = st.length := by simp
    have hsa : ∀ (s s' : Nat) (X : Sto), (st.set k (some (poolP cells s)) ++ X).set k (some (poolP cells s')) = st.set k (some (poolP cells s')) ++ X := fun s s' X => by rw [List.set_append_left _ _ (by simpa using hkl), hss]
    rw [hsa]
    repeat walk_at "m ev"
    refine ⟨by decide, by lia, DrI k cells spot number st,
      ⟨[], spot + 2, [], rfl, by simp, by lia, by walk_at "m look", by walk_at "m look", by rw [hls]; walk_at "m look", by walk_at "m look", Bd.cons hnb (fun x hx => nomatch hx), rfl, rfl⟩, ?_, ?_⟩
    · rintro i x rho' st' K hK hx ⟨fs, s, X, rfl, hfs, hs, ep, en, ef, er, hbr, hrl, rfl⟩
      obtain ⟨hi, rfl⟩ := rangeP_get hx
      have hi : fs.length ≤ 2 := by lia
      have hgp : ∀ s Y, (st.set k (some (poolP cells s)) ++ Y)[k]? = some (some (poolP cells s)) := fun s Y => by rw [List.getElem?_append_left (by simpa using hkl)]; exact hgs _
      have hgf : ∀ s (l : List PV) Y, (st.set k (some (poolP cells s)) ++ some l :: Y)[st.length]? = some (some l) := fun s l Y => by rw [List.getElem?_append_right (by simp)]; simp
      have hsf : ∀ s (l l' : List PV) Y, (st.set k (some (poolP cells s)) ++ some l :: Y).set st.length (some l') = st.set k (some (poolP cells s)) ++ some l' :: Y := fun s l l' Y => by rw [List.set_append_right _ _ (by simp)]; simp
      repeat walk_at "m ev"
      refine draw_ok hF k cells s 9 (hgp _ _) hcl (by lia) (by decide) _ fun v3 hv3 => ?_
      rw [hsa]
      repeat walk_at "m ev"
      refine draw_ok hF k cells (s + 1) 3 (hgp _ _) hcl (by lia) (by decide) _ fun v4 hv4 => ?_
      rw [hsa]
      repeat walk_at "m ev"
      have ht1 : -4 ≤ (v3 : Int) - 4 ∧ (v3 : Int) - 4 ≤ 4 := by lia
      have hb1 : 1 ≤ 1 + (v4 : Int) ∧ 1 + (v4 : Int) ≤ 3 := by lia
      generalize (v3 : Int) - 4 = top at *
      generalize 1 + (v4 : Int) = bottom at *
      refine EX_append ?_ (fun _ => rfl) (fun _ => rfl) rfl (fun _ => rfl) rfl (fun _ => rfl)
      repeat walk_at "m ev"
      refine ⟨_, _, rfl, hgf _ _ _, ?_⟩
      repeat walk_at "m ev"
      refine ⟨rfl, _, hgf _ _ _, by rw [pts_len]; lia, ?_⟩
      rw [hsf]
      have hpa : pts fs ++ [PV.tup [.int top, .int bottom]] = pts (fs ++ [(top, bottom)]) := by simp [pts, ptP]
      rw [hpa]
      generalize hrow : rowP number fs = row at *
      have hrow2 : rowP number (fs ++ [(top, bottom)]) = mulF row (top, bottom) := by unfold rowP at *; rw [List.foldl_append, hrow]; rfl
      refine ck_next (EXs_cons (EX_assign (EV_repM ?_) (by walk_at "m kind") (by walk_at "m env")))
      refine EV_list ?_
      repeat walk_at "m ev"
      refine BJ_len ?_ (by rw [pis_len]; lia)
      rw [pis_len]
      repeat walk_at "m ev"
      refine ⟨_, _, rfl, rfl, by lia, by simp; lia, by lia, rfl, ?_⟩
      have hz : (List.replicate ((row.length : Int) + 1).toNat [PV.int 0]).flatten = pis (mulN row top bottom 0) := by
        rw [show ((row.length : Int) + 1).toNat = row.length + 1 by lia]; simp [mulN, pis]
      rw [hz]
      repeat walk_at "m ev"
      generalize hP : st.set k (some (poolP cells (s + 1 + 1))) ++ some (pts (fs ++ [(top, bottom)])) :: X = P at *
      refine EX_for (tt := true) (JI_enum hc ?_ rfl hF.enum (by decide) (fun _ => rfl)) (fun _ _ => rfl) (fun _ => ⟨_, _, _, rfl⟩)
      repeat walk_at "m ev"
      refine ⟨_, rfl, LaI k number row top bottom fs.length st P,
        ⟨by walk_at "m look", by walk_at "m look", by walk_at "m look", by walk_at "m look", by walk_at "m look", by walk_at "m look", by walk_at "m look", fun x hx => by simp [mulN] at hx; simp [hx], rfl⟩, ?_, ?_⟩
      · rintro j y rho2 st2 K2 hK2 hy ⟨ep, en, ef, er, el, et, eb, hbm, rfl⟩
        obtain ⟨w, hw, rfl⟩ := enumP_get hy
        obtain ⟨one, hone, rfl⟩ := pis_get hw
        have hj := lt_of_get hone
        have hml := mulN_len row top bottom j
        generalize hMg : mulN row top bottom j = M at *
        have hob := hbr one (List.mem_of_getElem? hone)
        have hog : row.getD j 0 = one := by rw [List.getD_eq_getElem?_getD, hone]; rfl
        rw [show (0 + j : Nat) = j by lia]
        have hgl : ∀ l : List PV, (P ++ [some l])[P.length]? = some (some l) := fun l => by simp
        repeat walk_at "m ev"
        refine ⟨pis M, .int (M.getD j 0), hgl _, by rw [pis_len]; lia, by lia, by rw [Int.toNat_natCast]; exact get_pis (getD_some (by lia)), ?_⟩
        repeat walk_at "m ev"
        refine bo_mul (bd_fits (k := 2) (by lia) (by decide)) (bd_fits hob (by lia)) ?_
        repeat walk_at "m ev"
        refine ⟨pis M, .int (M.getD (j + 1) 0), hgl _, by rw [pis_len]; lia, by lia, by rw [show ((j : Int) + 1).toNat = j + 1 by lia]; exact get_pis (getD_some (by lia)), ?_⟩
        repeat walk_at "m ev"
        refine bo_mul (bd_fits (k := 2) (by lia) (by decide)) (bd_fits hob (by lia)) ?_
        repeat walk_at "m ev"
        refine JA_sub ?_ (by intros; nofun)
        repeat walk_at "m ev"
        refine ⟨rfl, pis M, hgl _, by rw [pis_len]; lia, by lia, by rw [pis_len]; lia, ?_⟩
        repeat walk_at "m ev"
        refine JA_sub ?_ (by intros; nofun)
        repeat walk_at "m ev"
        refine ⟨rfl, (pis M).set (Int.toNat j) (.int (M.getD j 0 - top * one)), by simp, by simp [pis_len]; lia, by lia, by simp [pis_len]; lia, ?_⟩
        repeat walk_at "m ev"
        refine hK2 _ _ _ (tk_next ⟨by walk_at "m look", by walk_at "m look", by walk_at "m look", by walk_at "m look", by walk_at "m look", by walk_at "m look", by walk_at "m look", ?_, ?_⟩)
        · show Bd _ (stepM (mulN row top bottom j) j (row.getD j 0) top bottom)
          rw [hMg, hog]
          refine (bd_stepM hbm (Nat.le_trans hob (Nat.pow_le_pow_right (by lia) (by lia))) (by lia) (by lia)).mono (by lia)
        · show _ = P ++ [some (pis (stepM (mulN row top bottom j) j (row.getD j 0) top bottom))]
          rw [hMg, hog, show ((j : Int) + 1).toNat = j + 1 by lia]
          simp [stepM, pis, List.map_set]
      · rintro rho2 st2 ⟨ep, en, ef, er, el, et, eb, hbm, rfl⟩
        rw [enumP_len, pis_len] at *
        refine ck_next (EXs_cons (EX_assign (EV_freeze (l := pis (mulN row top bottom row.length)) ?_ el (by simp) rfl (by decide)) (by walk_at "m kind") (by walk_at "m env")))
        repeat walk_at "m ev"
        refine hK _ _ _ (tk_next ⟨fs ++ [(top, bottom)], s + 1 + 1, X ++ [none], by simp, ?_, by lia, by walk_at "m look", by walk_at "m look", by walk_at "m look", ?_, ?_, ?_, ?_⟩)
        · intro q hq
          rcases List.mem_append.mp hq with hq | hq
          · exact hfs q hq
          · rw [List.mem_singleton.mp hq]; exact ⟨ht1.1, ht1.2, hb1.1, hb1.2⟩
        · rw [hrow2]; walk_at "m look"
        · rw [hrow2]; exact hbm.mono (by lia)
        · rw [hrow2, mulF_len]; lia
        · rw [← hP]; simp
    · rintro rho' st' ⟨fs, s, X, hfl, hfs, hs, ep, en, ef, er, hbr, hrl, rfl⟩
      rw [rangeP_len] at hfl hs
      refine ck_next (EXs_cons (EX_return (EV_tup ?_)))
      refine EVs_cons ?_ (fun _ => rfl)
      walk_at "m ev"
      have hgf : (st.set k (some (poolP cells s)) ++ some (pts fs) :: X)[st.length]? = some (some (pts fs)) := by rw [List.getElem?_append_right (by simp)]; simp
      have hsf : (st.set k (some (poolP cells s)) ++ some (pts fs) :: X).set st.length none = st.set k (some (poolP cells s)) ++ none :: X := by rw [List.set_append_right _ _ (by simp)]; simp
      refine EVs_cons (EV_freeze (l := pts fs) ?_ ef hgf rfl (by decide)) (fun _ => rfl)
      rw [hsf]
      repeat walk_at "m ev"
      refine ⟨by simp [noMut, noMuts, noMuts_pts, noMuts_pis], ?_⟩
      rw [List.take_left' (by simp)]
      exact h number fs s ⟨hnum, by lia, by lia, hfs⟩ (by lia)
end

-- MF10
section
set_option maxRecDepth 100000
open PySem PySem.W PyProof.Rows

variable {C : Cx} {st : Sto}

noncomputable def crossP (x y : Int × Int) : Int := x.1 * y.2 - x.2 * y.1
noncomputable def crossL (xs ys : List (Int × Int)) : List Int := xs.flatMap fun x => ys.map fun y => crossP x y
noncomputable def resF (one : Int) (xs : List (Int × Int)) (other : Int) (ys : List (Int × Int)) : Int := one ^ ys.length * other ^ xs.length * prodL (crossL xs ys)
noncomputable def BdP (e : Nat) (l : List (Int × Int)) : Prop := ∀ q ∈ l, q.1.natAbs ≤ 2 ^ e ∧ q.2.natAbs ≤ 2 ^ e
theorem crossL_len (xs ys : List (Int × Int)) : (crossL xs ys).length = xs.length * ys.length := by
  unfold crossL
  induction xs with
  | nil => simp
  | cons x r ih => simp only [List.flatMap_cons, List.length_append, ih, List.length_map, List.length_cons, Nat.add_mul]; lia
theorem natAbs_cross {e : Nat} {a b c d : Int} (ha : a.natAbs ≤ 2 ^ e) (hb : b.natAbs ≤ 2 ^ e) (hc : c.natAbs ≤ 2 ^ e) (hd : d.natAbs ≤ 2 ^ e) : (a * b - c * d).natAbs ≤ 2 ^ (e + e + 1) := by
  have h1 := natAbs_mul_le ha hb
  have h2 := natAbs_mul_le hc hd
  rw [Nat.pow_succ]; lia
theorem bd_crossL {e : Nat} {xs ys : List (Int × Int)} (h1 : BdP e xs) (h2 : BdP e ys) : Bd (e + e + 1) (crossL xs ys) := fun z hz => by
  obtain ⟨x, hx, hz⟩ := List.mem_flatMap.mp hz
  obtain ⟨y, hy, rfl⟩ := List.mem_map.mp hz
  exact natAbs_cross (h1 x hx).1 (h2 y hy).2 (h1 x hx).2 (h2 y hy).1
theorem natAbs_foldl {k : Nat} : ∀ {l : List Int} {g : Int} {m : Nat}, Bd k l → g.natAbs ≤ 2 ^ m → (l.foldl (fun x y => x * y) g).natAbs ≤ 2 ^ (m + k * l.length)
  | [], g, m, _, hg => by simpa using hg
  | x :: r, g, m, h, hg => by
    have := natAbs_foldl (l := r) (g := g * x) (m := m + k) h.tail (natAbs_mul_le hg (h x (.head _)))
    rw [List.length_cons, Nat.mul_succ, show m + (k * r.length + k) = m + k + k * r.length by lia]; exact this
theorem natAbs_prodL {k : Nat} {l : List Int} (h : Bd k l) : (prodL l).natAbs ≤ 2 ^ (k * l.length) := by
  have := natAbs_foldl (g := 1) (m := 0) h (by simp)
  rw [Nat.zero_add] at this; exact this

theorem crossL_snoc (xs : List (Int × Int)) (x : Int × Int) (ys : List (Int × Int)) : crossL (xs ++ [x]) ys = crossL xs ys ++ ys.map (crossP x) := by simp [crossL]

theorem law_resultant_ok (hF : Fns C) (one : Int) (xs : List (Int × Int)) (other : Int) (ys : List (Int × Int)) (hx : xs.length ≤ 3) (hy : ys.length ≤ 3) (bx : BdP 5 xs) (bY : BdP 5 ys) (b1 : one.natAbs ≤ 2 ^ 2) (b2 : other.natAbs ≤ 2 ^ 2) (Q : PV → Sto → Prop)
    (h : Q (.int (resF one xs other ys)) st) : CJ C 21 (fnName 36) [.int one, .list (pts xs), .int other, .list (pts ys)] st Q := by
  refine CJ_fn (m := 20) (names := ["one", "some", "other", "others"]) hF.f36 ⟨fun _ _ _ => all_len4 fun _ _ _ _  => rfl, by decide, by decide, by decide, rfl, rfl, rfl⟩ rfl ?_
  · refine EXs_cons ?_
    repeat walk_at "m ev"
    refine BJ_len ?_ (by rw [pts_len]; lia)
    rw [pts_len]
    repeat walk_at "m ev"
    refine bo_pow (by lia) (by lia) (bd_fits b1 (by decide)) ?_
    repeat walk_at "m ev"
    refine BJ_len ?_ (by rw [pts_len]; lia)
    rw [pts_len]
    repeat walk_at "m ev"
    refine bo_pow (by lia) (by lia) (bd_fits b2 (by decide)) ?_
    rw [Int.toNat_natCast, Int.toNat_natCast]
    have p1 := natAbs_pow_le b1 ys.length
    have p2 := natAbs_pow_le b2 xs.length
    refine bo_mul (bd_fits p1 (by lia)) (bd_fits p2 (by lia)) ?_
    repeat walk_at "m ev"
    refine EV_comp (tt := false) (JI_list ?_) (by walk_at "m gens") (fun _ _ => rfl) (by nofun) (by walk_at "m comp")
    repeat walk_at "m ev"
    refine ⟨_, rfl, fun i rho' l => Ext (compVars _ (fnScope 36) _) rho' ∧ l = pis (crossL (xs.take i) ys), ⟨.refl, rfl⟩, ?_, ?_⟩
    · rintro i x rho' l K hK hx' ⟨he, rfl⟩
      obtain ⟨⟨p, q⟩, hpq, rfl⟩ := pts_get hx'
      have hpm := bx _ (List.mem_of_getElem? hpq)
      have h1 : rho' "others" = some (.list (pts ys)) := ext_look he (by walk_at "m look") rfl
      unfold ptP
      repeat walk_at "m ev"
      refine JI_list ?_
      repeat walk_at "m ev"
      refine ⟨_, rfl, rfl, fun j rho2 l => Ext (compVars _ (fnScope 36) _) rho2 ∧ rho2 "p" = some (.int p) ∧ rho2 "q" = some (.int q) ∧ l = pis (crossL (xs.take i) ys ++ (ys.take j).map (crossP (p, q))), ⟨(he.upd rfl).upd rfl, by walk_at "m look", by walk_at "m look", by simp⟩, ?_, ?_⟩
      · rintro j y rho2 l K2 hK2 hy' ⟨he2, ep, eq, rfl⟩
        obtain ⟨⟨t, s⟩, hts, rfl⟩ := pts_get hy'
        have htm := bY _ (List.mem_of_getElem? hts)
        unfold ptP
        repeat walk_at "m ev"
        refine bo_mul (bd_fits hpm.1 (by decide)) (bd_fits htm.2 (by decide)) ?_
        repeat walk_at "m ev"
        refine bo_mul (bd_fits hpm.2 (by decide)) (bd_fits htm.1 (by decide)) ?_
        repeat walk_at "m ev"
        refine ⟨rfl, ?_, rfl, hK2 _ _ ⟨(he2.upd rfl).upd rfl, by walk_at "m look", by walk_at "m look", ?_⟩⟩
        · rw [pis_len, List.length_append, crossL_len, List.length_map, List.length_take, List.length_take]
          have : min i xs.length * ys.length ≤ 3 * 3 := Nat.mul_le_mul (by lia) hy
          lia
        · rw [List.take_add_one, hts]; simp [pis, crossP]
      · rintro rho2 l ⟨he2, ep, eq, rfl⟩
        refine hK _ _ ⟨he2, ?_⟩
        rw [pts_len, List.take_length, List.take_add_one, hpq]
        simp only [Option.toList_some]
        rw [crossL_snoc]
    · rintro rho' l ⟨he, rfl⟩
      repeat walk_at "m ev"
      rw [pts_len, List.take_length]
      have hbc := bd_crossL bx bY
      have hcl := crossL_len xs ys
      have hc9 : xs.length * ys.length ≤ 3 * 3 := Nat.mul_le_mul hx hy
      refine times_ok hF _ _ hbc (by rw [hcl]; lia) (by decide) _ ?_
      repeat walk_at "m ev"
      refine bo_mul ?_ ?_ ?_
      · exact bd_fits (natAbs_mul_le p1 p2) (by lia)
      · exact bd_fits (natAbs_prodL hbc) (by rw [hcl]; lia)
      repeat walk_at "m ev"
      exact h

noncomputable def ptD (l : List (Int × Int)) (i : Nat) : Int × Int := l.getD i (0, 0)
theorem ptD_some {l : List (Int × Int)} {i : Nat} (h : i < l.length) : l[i]? = some (ptD l i) := by unfold ptD; rw [List.getD_eq_getElem?_getD, List.getElem?_eq_getElem h]; rfl
noncomputable def pairI (l : List (Int × Int)) (i : Nat) : Nat → List ((Int × Int) × (Int × Int))
  | 0 => []
  | j + 1 => pairI l i j ++ [(ptD l i, ptD l (i + 1 + j))]
noncomputable def pairN (l : List (Int × Int)) : Nat → List ((Int × Int) × (Int × Int))
  | 0 => []
  | i + 1 => pairN l i ++ pairI l i (l.length - (i + 1))
noncomputable def prP (x : (Int × Int) × (Int × Int)) : PV := .tup [ptP x.1, ptP x.2]
noncomputable def sqs (l : List ((Int × Int) × (Int × Int))) : List Int := l.map fun x => (x.1.1 * x.2.2 - x.2.1 * x.1.2) ^ 2
noncomputable def sqF (number : Int) (l : List (Int × Int)) : Int := number ^ (2 * l.length - 2) * prodL (sqs (pairN l l.length))
theorem pairI_len (l : List (Int × Int)) (i j : Nat) : (pairI l i j).length = j := by induction j with
  | zero => rfl
  | succ j ih => simp [pairI, ih]
theorem pairN_len (l : List (Int × Int)) (i : Nat) : (pairN l i).length ≤ i * l.length := by induction i with
  | zero => simp [pairN]
  | succ i ih => simp only [pairN, List.length_append, pairI_len, Nat.add_mul]; lia
theorem pairI_mem {l : List (Int × Int)} {i : Nat} {x} : ∀ {j : Nat}, i + 1 + j ≤ l.length → x ∈ pairI l i j → x.1 ∈ l ∧ x.2 ∈ l
  | 0, _, h => by simp [pairI] at h
  | j + 1, hj, h => by
    rcases List.mem_append.mp h with h | h
    · exact pairI_mem (by lia) h
    · rw [List.mem_singleton.mp h]
      exact ⟨List.mem_of_getElem? (ptD_some (by lia)), List.mem_of_getElem? (ptD_some (by lia))⟩
theorem pairN_mem {l : List (Int × Int)} {x} : ∀ {i : Nat}, i ≤ l.length → x ∈ pairN l i → x.1 ∈ l ∧ x.2 ∈ l
  | 0, _, h => by simp [pairN] at h
  | i + 1, hi, h => by
    rcases List.mem_append.mp h with h | h
    · exact pairN_mem (by lia) h
    · exact pairI_mem (by lia) h

theorem law_squares_ok (hF : Fns C) (hc : C.calm = true) (number : Int) (xs : List (Int × Int)) (h1 : 1 ≤ xs.length) (hx : xs.length ≤ 3) (bx : BdP 5 xs) (b1 : number.natAbs ≤ 2 ^ 2) (Q : PV → Sto → Prop)
    (h : Q (.int (sqF number xs)) st) : CJ C 21 (fnName 37) [.int number, .list (pts xs)] st Q := by
  refine CJ_fn (m := 20) (names := ["number", "some"]) hF.f37 ⟨fun _ _ _ => all_len2 fun _ _  => rfl, by decide, by decide, by decide, rfl, rfl, rfl⟩ rfl ?_
  · refine EXs_cons ?_
    have hs : ∀ n : Nat, n ≤ 1000 → Fits n := fun n hn => bd_fits (k := 20) (by simp; lia) (by decide)
    refine EX_compUse (tt := false) (JI_up hc ?_) (by walk_at "m gens") (fun _ _ => rfl) (by nofun) (by walk_at "m comp") rfl (by walk_at "m env")
    repeat walk_at "m ev"
    refine BJ_len ?_ (by rw [pts_len]; lia)
    rw [pts_len]
    repeat walk_at "m ev"
    refine ⟨by decide, by lia, fun i rho' l => Ext (compVars _ (fnScope 37) _) rho' ∧ l = (pairN xs i).map prP, ⟨.refl, rfl⟩, ?_, ?_⟩
    · rintro i x rho' l K hK hx' ⟨he, rfl⟩
      obtain ⟨hi, rfl⟩ := rangeP_get hx'
      rw [show (0 : Int) + i * 1 = i by lia]
      have hi : i < xs.length := by lia
      have h1 : rho' "some" = some (.list (pts xs)) := ext_look he (by walk_at "m look") rfl
      repeat walk_at "m ev"
      refine JI_up hc ?_
      repeat walk_at "m ev"
      refine BJ_len ?_ (by rw [pts_len]; lia)
      rw [pts_len]
      repeat walk_at "m ev"
      refine ⟨by lia, by lia, rfl, fun j rho2 l => Ext (compVars _ (fnScope 37) _) rho2 ∧ rho2 "at" = some (.int i) ∧ l = (pairN xs i ++ pairI xs i j).map prP, ⟨he.upd rfl, by walk_at "m look", by simp [pairI]⟩, ?_, ?_⟩
      · rintro j y rho2 l K2 hK2 hy' ⟨he2, ea, rfl⟩
        obtain ⟨hj, rfl⟩ := rangeP_get hy'
        have hj : i + 1 + j < xs.length := by lia
        rw [show (i : Int) + 1 + j * 1 = ((i + 1 + j : Nat) : Int) by lia]
        have h2 : rho2 "some" = some (.list (pts xs)) := ext_look he2 (by walk_at "m look") rfl
        repeat walk_at "m ev"
        refine ⟨ptP (ptD xs i), by rw [pts_len]; lia, ?_, ?_⟩
        · rw [if_neg (by lia), Int.toNat_natCast, pts, List.getElem?_map, ptD_some hi]; rfl
        repeat walk_at "m ev"
        refine ⟨ptP (ptD xs (i + 1 + j)), by rw [pts_len]; lia, ?_, ?_⟩
        · rw [if_neg (by lia), Int.toNat_natCast, pts, List.getElem?_map, ptD_some hj]; rfl
        repeat walk_at "m ev"
        have hpn := pairN_len xs i
        have hp9 : i * xs.length ≤ 3 * 3 := Nat.mul_le_mul (by lia) hx
        refine ⟨rfl, ?_, rfl, hK2 _ _ ⟨he2.upd rfl, by walk_at "m look", ?_⟩⟩
        · rw [List.length_map, List.length_append, pairI_len]; lia
        · simp [pairI, prP]
      · rintro rho2 l ⟨he2, ea, rfl⟩
        refine hK _ _ ⟨he2, ?_⟩
        rw [rangeP_len, show ((xs.length : Int) - (i + 1)).toNat = xs.length - (i + 1) by lia]
        rfl
    · rintro rho' l ⟨he, rfl⟩
      rw [rangeP_len, show ((xs.length : Int) - 0).toNat = xs.length by lia]
      repeat walk_at "m ev"
      refine BJ_len ?_ (by rw [pts_len]; lia)
      rw [pts_len]
      refine bo_mul (hs 2 (by decide)) (hs _ (by lia)) ?_
      repeat walk_at "m ev"
      refine bo_pow (by lia) (by lia) (bd_fits b1 (by decide)) ?_
      rw [show ((2 : Int) * xs.length - 2).toNat = 2 * xs.length - 2 by lia]
      repeat walk_at "m ev"
      have hpn := pairN_len xs xs.length
      have hp9 : xs.length * xs.length ≤ 3 * 3 := Nat.mul_le_mul hx hx
      have hmem : ∀ x ∈ pairN xs xs.length, x.1 ∈ xs ∧ x.2 ∈ xs := fun x hx => pairN_mem (Nat.le_refl _) hx
      have hsqb : Bd (11 * 2) (sqs (pairN xs xs.length)) := fun z hz => by
        obtain ⟨x, hx, rfl⟩ := List.mem_map.mp hz
        have q1 := bx _ (hmem x hx).1
        have q2 := bx _ (hmem x hx).2
        exact natAbs_pow_le (natAbs_cross q1.1 q2.2 q2.1 q1.2) 2
      have hsl : (sqs (pairN xs xs.length)).length = (pairN xs xs.length).length := by simp [sqs]
      generalize hP : pairN xs xs.length = P at *
      refine EV_comp (tt := false) (JI_list ?_) (by walk_at "m gens") (fun _ _ => rfl) (by nofun) (by walk_at "m comp")
      repeat walk_at "m ev"
      refine ⟨_, rfl, fun i rho' l => l = pis (sqs (P.take i)), rfl, ?_, ?_⟩
      · rintro i x rho' l K hK hx' rfl
        obtain ⟨w, hw, rfl⟩ : ∃ w, P[i]? = some w ∧ x = prP w := by
          simp only [List.getElem?_map, Option.map_eq_some_iff] at hx'
          obtain ⟨w, h1, h2⟩ := hx'
          exact ⟨w, h1, h2.symm⟩
        obtain ⟨⟨a0, a1⟩, ⟨b0, b1'⟩⟩ := w
        have q := hmem _ (List.mem_of_getElem? hw)
        have qa := bx _ q.1
        have qb := bx _ q.2
        unfold prP ptP
        repeat walk_at "m ev"
        refine ⟨.int a0, by simp, by decide, rfl, ?_⟩
        repeat walk_at "m ev"
        refine ⟨.int b1', by simp, by decide, rfl, ?_⟩
        refine bo_mul (bd_fits qa.1 (by decide)) (bd_fits qb.2 (by decide)) ?_
        repeat walk_at "m ev"
        refine ⟨.int b0, by simp, by decide, rfl, ?_⟩
        repeat walk_at "m ev"
        refine ⟨.int a1, by simp, by decide, rfl, ?_⟩
        refine bo_mul (bd_fits qb.1 (by decide)) (bd_fits qa.2 (by decide)) ?_
        repeat walk_at "m ev"
        refine bo_pow (by decide) (by decide) (bd_fits (natAbs_cross qa.1 qb.2 qb.1 qa.2) (by decide)) ?_
        refine ⟨rfl, ?_, rfl, hK _ _ ?_⟩
        · rw [pis_len]; simp [sqs]; lia
        · rw [List.take_add_one, hw]; simp [pis, sqs]
      · rintro rho' l rfl
        repeat walk_at "m ev"
        rw [List.length_map, List.take_length]
        refine times_ok hF _ _ hsqb (by rw [hsl]; lia) (by decide) _ ?_
        repeat walk_at "m ev"
        refine bo_mul (bd_fits (natAbs_pow_le b1 _) (by lia)) (bd_fits (natAbs_prodL hsqb) (by rw [hsl]; lia)) ?_
        repeat walk_at "m ev"
        unfold sqF at h
        rw [hP] at h; exact h
end

-- MLaw1
section
set_option maxRecDepth 100000
open PySem PySem.W PyProof.Rows

variable {C : Cx} {st : Sto}
theorem tests1x {n : Nat} {sc : Scope} {rho : Vars} {c : Expr} {K : Bool → Sto → Prop} (h : TV C n sc c rho st K) : Tests C n sc [c] rho st K := h

noncomputable def movedP (h : Int) (ys : List (Int × Int)) : List (Int × Int) := ys.map fun y => (y.1 - h * y.2, y.2)
noncomputable def apartL (xs ys : List (Int × Int)) : List (Int × Int) := xs.flatMap fun x => ys.map fun y => (y.1 * x.2 - x.1 * y.2, x.2 * y.2)
noncomputable def dueK (l : List (Int × Int)) : List Int := (l.filter fun z => decide (z.1.fmod z.2 = 0) && decide (0 ≤ z.1)).map fun z => z.1.fdiv z.2
/-- what `due` holds -/
noncomputable def DueIs (xs ys : List (Int × Int)) (ns : List Int) : Prop := ns.Perm ((storedAll (dueK (apartL xs ys)) []).map (·.1)) ∧ ns.Pairwise (· ≤ ·)
noncomputable def dval (f : List Int) (v : Int) : Int := if ((f.length - 1) * (f.length - 2) / 2) % 2 = 1 then -(v.fdiv (leadZ f)) else v.fdiv (leadZ f)

/-- the plain facts that the law's walk asks -/
structure Facts (one : Int) (xs : List (Int × Int)) (other : Int) (ys : List (Int × Int)) (f g : List Int) : Prop where
  lf : f.length = xs.length + 1
  lg : g.length = ys.length + 1
  bf : Bd 11 f
  bg : Bd 11 g
  tf : leadZ f ≠ 0
  tg : leadZ g ≠ 0
  r1 : ResIs f g (resF one xs other ys)
  r2 : ResIs g f (resF other ys one xs)
  df : ∃ v, ResIs f (deriveZ f) v ∧ dval f v = sqF one xs ∧ v = sqF one xs * leadZ f * (-1) ^ (xs.length * (xs.length - 1) / 2)
  dg : ∃ v, ResIs g (deriveZ g) v ∧ dval g v = sqF other ys
  rs : ∀ h : Int, -2 ≤ h → h ≤ 9 → ResIs f (shiftZ g h) (resF one xs other (movedP h ys))
  disp : ∀ ns, DueIs xs ys ns → ∀ Ma Mb : Nat, (∃ x ∈ f, x.natAbs = Ma) → (∀ x ∈ f, x.natAbs ≤ Ma) → (∃ x ∈ g, x.natAbs = Mb) → (∀ x ∈ g, x.natAbs ≤ Mb) →
    zerosL (fdL ((f.length - 1) * (g.length - 1) + 1) (numsF (fun h => resF one xs other (movedP h ys)) ((f.length - 1) * (g.length - 1) + 1))) (2 + Ma / (leadZ f).natAbs + (2 + Mb / (leadZ g).natAbs) + 1) = ns
  due : ∀ ns, DueIs xs ys ns → ∀ h : Int, 0 ≤ h → h ≤ 6 → (resF one xs other (movedP h ys) = 0 ↔ h ∈ ns)
  last : ResIs [one] g (one ^ ys.length)

theorem DrawnF.bd {number : Int} {fs : List (Int × Int)} (d : DrawnF number fs) : number.natAbs ≤ 2 ^ 2 ∧ BdP 2 fs := by
  refine ⟨?_, fun q hq => ?_⟩
  · rcases d.num with h | h | h | h <;> subst h <;> decide
  · have := d.fac q hq; lia
theorem BdP.mono {e e' : Nat} {l : List (Int × Int)} (h : BdP e l) (he : e ≤ e') : BdP e' l := fun q hq =>
  ⟨Nat.le_trans (h q hq).1 (Nat.pow_le_pow_right (by lia) he), Nat.le_trans (h q hq).2 (Nat.pow_le_pow_right (by lia) he)⟩
theorem ckf {X Y : Prop} {b : Bool} (hb : b = false) (h : Y) : if b = true then X else Y := by subst hb; exact h
theorem ne_same {a : Int} {X Y : Prop} (h : Y) : if (!decide (a = a)) = true then X else Y := by simpa using h
theorem natAbs_sqF {number : Int} {xs : List (Int × Int)} (b1 : number.natAbs ≤ 2 ^ 2) (bx : BdP 2 xs) (hx : xs.length ≤ 3) : (sqF number xs).natAbs ≤ 2 ^ 200 := by
  have hmem : ∀ x ∈ pairN xs xs.length, x.1 ∈ xs ∧ x.2 ∈ xs := fun x hx => pairN_mem (Nat.le_refl _) hx
  have hsqb : Bd (5 * 2) (sqs (pairN xs xs.length)) := fun z hz => by
    obtain ⟨x, hx, rfl⟩ := List.mem_map.mp hz
    have q1 := bx _ (hmem x hx).1
    have q2 := bx _ (hmem x hx).2
    exact natAbs_pow_le (natAbs_cross q1.1 q2.2 q2.1 q1.2) 2
  have hsl : (sqs (pairN xs xs.length)).length = (pairN xs xs.length).length := by simp [sqs]
  have hpn := pairN_len xs xs.length
  have hp9 : xs.length * xs.length ≤ 3 * 3 := Nat.mul_le_mul hx hx
  have h1 := natAbs_mul_le (natAbs_pow_le b1 (2 * xs.length - 2)) (natAbs_prodL hsqb)
  exact Nat.le_trans h1 (Nat.pow_le_pow_right (by lia) (by rw [hsl]; lia))

noncomputable def pre38 : List Stmt := (fnBody 38).take 12

/-- where the law stands ahead of its last two statements -/
inductive PreP (g : PFlow) (rho : Vars) (st : Sto) : Prop
  | mk (hg : g = .next) (one : Int) (xs : List (Int × Int)) (other : Int) (ys : List (Int × Int)) (d1 : DrawnF one xs) (d2 : DrawnF other ys) (e1 : rho "one" = some (.int one)) (e2 : rho "others" = some (.list (pts ys)))
    (e3 : rho "g" = some (.list (pis (rowP other ys))))
inductive HI (one : Int) (xs : List (Int × Int)) (f : List Int) (other : Int) (ys : List (Int × Int)) (g due : List Int) (i : Nat) (rho2 : Vars) (st2 : Sto) : Prop
  | mk (e1 : rho2 "one" = some (.int one)) (e2 : rho2 "some" = some (.list (pts xs))) (e3 : rho2 "f" = some (.list (pis f))) (e4 : rho2 "other" = some (.int other)) (e5 : rho2 "others" = some (.list (pts ys))) (e6 : rho2 "g" = some (.list (pis g)))
    (e7 : rho2 "due" = some (.list (pis due)))
set_option maxHeartbeats 8000000 in
theorem law_pre (hF : Fns C) (hc : C.calm = true) (hint : Names C "int" (.type "int")) (hsrt : Names C "sorted" (.builtin "sorted")) (hdict : Names C "dict" (.type "dict"))
    (facts : ∀ one xs other ys, DrawnF one xs → DrawnF other ys → Facts one xs other ys (rowP one xs) (rowP other ys)) (ns : List Int) (hns : ns.length ≤ 1000) :
    EXs C 40 (fnScope 38) pre38 (argVars ["script"] [.list (pis ns)]) [] PreP := by
  refine EXs_cons (EX_assign (EV_listM ?_) (by walk_at "m kind") (by walk_at "m env"))
  refine EVs_cons ?_ (fun _ => rfl)
  refine EV_comp (tt := false) (JI_list ?_) (by walk_at "m gens") (fun _ _ => rfl) (by nofun) (by walk_at "m comp")
  repeat walk_at "m ev0"
  refine ⟨_, _, rfl, rfl, by decide, by rw [pis_len]; lia, ?_⟩
  repeat walk_at "m ev0"
  refine ⟨_, rfl, fun k rho' l => l = pis ((ns.take 30).take k), rfl, ?_, ?_⟩
  · rintro k x rho' l K hK hx rfl
    rw [show List.take (Int.toNat 30) (pis ns) = pis (ns.take 30) by simp [pis]] at hx
    obtain ⟨z, hz, rfl⟩ := pis_get hx
    repeat walk_at "m ev0"
    refine ⟨rfl, ?_, rfl, hK _ _ ?_⟩
    · rw [pis_len]; simp; lia
    · clear hK
      generalize ns.take 30 = ms at *
      rw [List.take_add_one, hz]; simp [pis]
  rintro rho' l rfl
  have hl30 : (pis ((ns.take 30).take (List.take (Int.toNat 30) (pis ns)).length)) = pis (ns.take 30) := by
    rw [List.take_of_length_le (by simp [pis])]
  rw [hl30]
  have hcl : (ns.take 30).length ≤ 1000 := by rw [List.length_take]; lia
  generalize ns.take 30 = cells at *
  repeat walk_at "m ev0"
  refine ⟨by simp [noMuts, noMut, noMuts_pis], ?_⟩
  have e0 : ([] : Sto) ++ [some [PV.list (pis cells), PV.int 0]] = [some (poolP cells 0)] := rfl
  rw [e0]
  repeat walk_at "m ev0"
  refine EXs_cons ?_
  repeat walk_at "m ev0"
  refine drawn_ok hF hc 0 cells 0 rfl hcl (by decide) _ fun one xs s1 d1 hs1 => ?_
  rw [show ([some (poolP cells 0)] : Sto).set 0 (some (poolP cells s1)) = [some (poolP cells s1)] from rfl]
  repeat walk_at "m ev0"
  refine EXs_cons ?_
  repeat walk_at "m ev0"
  refine drawn_ok hF hc 0 cells s1 rfl hcl (by lia) _ fun other ys s2 d2 hs2 => ?_
  rw [show ([some (poolP cells s1)] : Sto).set 0 (some (poolP cells s2)) = [some (poolP cells s2)] from rfl]
  have F := facts one xs other ys d1 d2
  generalize hfe : rowP one xs = f at F ⊢
  generalize hge : rowP other ys = g at F ⊢
  have bx := d1.bd; have bY := d2.bd
  have lf := F.lf; have lg := F.lg; have x1 := d1.pos; have x2 := d1.le; have y1 := d2.pos; have y2 := d2.le
  repeat walk_at "m ev0"
  refine EXs_cons (EX_if ?_)
  repeat walk_at "m ev0"
  refine resultant_is hF F.r1 (fun _ _ => hc) _ ?_
  repeat walk_at "m ev0"
  refine law_resultant_ok hF one xs other ys x2 y2 (bx.2.mono (by decide)) (bY.2.mono (by decide)) bx.1 bY.1 _ ?_
  repeat walk_at "m ev0"
  refine ne_same ?_
  repeat walk_at "m ev0"
  refine EXs_cons (EX_if ?_)
  repeat walk_at "m ev0"
  refine resultant_is hF F.r2 (fun _ _ => hc) _ ?_
  repeat walk_at "m ev0"
  refine law_resultant_ok hF other ys one xs y2 x2 (bY.2.mono (by decide)) (bx.2.mono (by decide)) bY.1 bx.1 _ ?_
  repeat walk_at "m ev0"
  refine ne_same ?_
  repeat walk_at "m ev0"
  obtain ⟨v, hv1, hv2, hv3⟩ := F.df
  obtain ⟨v', hw1, hw2⟩ := F.dg
  have hff : ∀ x ∈ f, Fits x := fun x hx => bd_fits (F.bf x hx) (by decide)
  have hfg : ∀ x ∈ g, Fits x := fun x hx => bd_fits (F.bg x hx) (by decide)
  have hlf : Fits (leadZ f) := bd_fits (bd_lead F.bf) (by decide)
  have hlg : Fits (leadZ g) := bd_fits (bd_lead F.bg) (by decide)
  refine EXs_cons (EX_if ?_)
  repeat walk_at "m ev0"
  refine discriminant_ok hF hc f v (by lia) (by lia) hff F.tf hlf hv1 _ ?_
  rw [show (if ((f.length - 1) * (f.length - 2) / 2) % 2 = 1 then -(v.fdiv (leadZ f)) else v.fdiv (leadZ f)) = sqF one xs from hv2]
  repeat walk_at "m ev0"
  refine law_squares_ok hF hc one xs x1 x2 (bx.2.mono (by decide)) bx.1 _ ?_
  repeat walk_at "m ev0"
  refine ne_same ?_
  repeat walk_at "m ev0"
  refine discriminant_ok hF hc g v' (by lia) (by lia) hfg F.tg hlg hw1 _ ?_
  rw [show (if ((g.length - 1) * (g.length - 2) / 2) % 2 = 1 then -(v'.fdiv (leadZ g)) else v'.fdiv (leadZ g)) = sqF other ys from hw2]
  repeat walk_at "m ev0"
  refine law_squares_ok hF hc other ys y1 y2 (bY.2.mono (by decide)) bY.1 _ ?_
  repeat walk_at "m ev0"
  refine ne_same ?_
  repeat walk_at "m ev0"
  simp only [Bool.false_eq_true, if_false]
  repeat walk_at "m ev0"
  refine EXs_cons ?_
  repeat walk_at "m ev0"
  refine BJ_len ?_ (by rw [pts_len]; lia)
  rw [pts_len]
  repeat walk_at "m ev0"
  have hs : ∀ n : Nat, n ≤ 1000 → Fits n := fun n hn => bd_fits (k := 20) (by simp; lia) (by decide)
  have hsq := natAbs_sqF bx.1 bx.2 x2
  refine EXs_cons (EX_if ?_)
  repeat walk_at "m ev0"
  refine zderive_ok hF hc _ (by lia) hff _ ?_
  repeat walk_at "m ev0"
  refine resultant_is hF hv1 (fun _ _ => hc) _ ?_
  repeat walk_at "m ev0"
  refine discriminant_ok hF hc f v (by lia) (by lia) hff F.tf hlf hv1 _ ?_
  rw [show (if ((f.length - 1) * (f.length - 2) / 2) % 2 = 1 then -(v.fdiv (leadZ f)) else v.fdiv (leadZ f)) = sqF one xs from hv2]
  repeat walk_at "m ev0"
  have hfn : f ≠ [] := fun q => by rw [q] at lf; simp at lf
  have hget : f[f.length - 1]? = some f[f.length - 1] := List.getElem?_eq_getElem (by lia)
  have hlead : leadZ f = f[f.length - 1] := by unfold leadZ; rw [List.getLast?_eq_getElem?, hget]; rfl
  refine ⟨.int (leadZ f), by rw [pis_len]; lia, ?_, ?_⟩
  · rw [if_pos (by lia), pis_len, show (-1 + (f.length : Int)).toNat = f.length - 1 by lia]
    exact ⟨by lia, get_pis (by rw [hlead]; exact hget)⟩
  refine bo_mul (bd_fits hsq (by decide)) hlf ?_
  repeat walk_at "m ev0"
  rw [show (xs.length : Int) - 1 = ((xs.length - 1 : Nat) : Int) by lia]
  refine bo_mul (hs _ (by lia)) (hs _ (by lia)) ?_
  repeat walk_at "m ev0"
  refine bo_div (by decide) (hs 2 (by decide)) ?_
  have e1 : ((xs.length : Int) * ((xs.length - 1 : Nat) : Int)).fdiv 2 = (((xs.length * (xs.length - 1) / 2 : Nat)) : Int) := by
    rw [Int.fdiv_eq_ediv_of_nonneg _ (by decide)]; push_cast; rfl
  rw [e1]
  have hxx : xs.length * (xs.length - 1) ≤ 3 * 3 := Nat.mul_le_mul x2 (by lia)
  refine bo_pow (by lia) (by lia) (bd_fits (k := 1) (by decide) (by decide)) ?_
  rw [Int.toNat_natCast]
  refine bo_mul (bd_fits (natAbs_mul_le hsq (bd_lead F.bf)) (by decide)) (bd_fits (natAbs_pow_le (k := 0) (by decide) _) (by lia)) ?_
  repeat walk_at "m ev0"
  rw [← hv3]
  refine ne_same ?_
  repeat walk_at "m ev0"
  have hap : (apartL xs ys).length ≤ 9 := by
    unfold apartL
    have : ∀ l : List (Int × Int), (l.flatMap fun x => ys.map fun y => (y.1 * x.2 - x.1 * y.2, x.2 * y.2)).length = l.length * ys.length := fun l => by
      induction l with
      | nil => simp
      | cons x r ih => simp only [List.flatMap_cons, List.length_append, ih, List.length_map, List.length_cons, Nat.add_mul]; lia
    rw [this]
    exact Nat.mul_le_mul x2 y2
  -- apart
  refine EXs_cons (EX_compUse (tt := false) (JI_list ?_) (by walk_at "m gens") (fun _ _ => rfl) (by nofun) (by walk_at "m comp") rfl (by walk_at "m env"))
  repeat walk_at "m ev0"
  refine ⟨_, rfl, fun i rho' l => Ext (compVars _ (fnScope 38) _) rho' ∧ l = pts (apartL (xs.take i) ys), ⟨.refl, rfl⟩, ?_, ?_⟩
  · rintro i x rho' l K hK hx' ⟨he, rfl⟩
    obtain ⟨⟨p, q⟩, hpq, rfl⟩ := pts_get hx'
    have hpm := bx.2 _ (List.mem_of_getElem? hpq)
    have h1 : rho' "others" = some (.list (pts ys)) := ext_look he (by walk_at "m look") rfl
    unfold ptP
    repeat walk_at "m ev0"
    refine JI_list ?_
    repeat walk_at "m ev0"
    refine ⟨_, rfl, rfl, fun j rho2 l => Ext (compVars _ (fnScope 38) _) rho2 ∧ rho2 "p" = some (.int p) ∧ rho2 "q" = some (.int q) ∧ l = pts (apartL (xs.take i) ys ++ (ys.take j).map fun y => (y.1 * q - p * y.2, q * y.2)), ⟨(he.upd rfl).upd rfl, by walk_at "m look", by walk_at "m look", by simp⟩, ?_, ?_⟩
    · rintro j y rho2 l K2 hK2 hy' ⟨he2, ep, eq, rfl⟩
      obtain ⟨⟨t, s⟩, hts, rfl⟩ := pts_get hy'
      have htm := bY.2 _ (List.mem_of_getElem? hts)
      unfold ptP
      repeat walk_at "m ev0"
      refine bo_mul (bd_fits htm.1 (by decide)) (bd_fits hpm.2 (by decide)) ?_
      repeat walk_at "m ev0"
      refine bo_mul (bd_fits hpm.1 (by decide)) (bd_fits htm.2 (by decide)) ?_
      repeat walk_at "m ev0"
      refine bo_mul (bd_fits hpm.2 (by decide)) (bd_fits htm.2 (by decide)) ?_
      repeat walk_at "m ev0"
      refine ⟨rfl, ?_, rfl, hK2 _ _ ⟨(he2.upd rfl).upd rfl, by walk_at "m look", by walk_at "m look", ?_⟩⟩
      · rw [pts_len, List.length_append, List.length_map, List.length_take]
        have : ∀ l : List (Int × Int), (apartL l ys).length = l.length * ys.length := fun l => by
          unfold apartL
          induction l with
          | nil => simp
          | cons x r ih => simp only [List.flatMap_cons, List.length_append, ih, List.length_map, List.length_cons, Nat.add_mul]; lia
        rw [this, List.length_take]
        have : min i xs.length * ys.length ≤ 3 * 3 := Nat.mul_le_mul (by lia) y2
        lia
      · rw [List.take_add_one, hts]; simp [pts, ptP]
    · rintro rho2 l ⟨he2, ep, eq, rfl⟩
      refine hK _ _ ⟨he2, ?_⟩
      rw [pts_len, List.take_length, List.take_add_one, hpq]
      simp [apartL]
  rintro rho' l ⟨he, rfl⟩
  rw [pts_len, List.take_length]
  have hapB : ∀ z ∈ apartL xs ys, z.2 ≠ 0 ∧ Fits z.2 := fun z hz => by
    obtain ⟨x, hx, hz⟩ := List.mem_flatMap.mp hz
    obtain ⟨y, hy, rfl⟩ := List.mem_map.mp hz
    have q1 := d1.fac x hx
    have q2 := d2.fac y hy
    refine ⟨Int.mul_ne_zero (by lia) (by lia), bd_fits (natAbs_mul_le (bx.2 x hx).2 (bY.2 y hy).2) (by decide)⟩
  -- due
  clear he rho'
  generalize hAP : apartL xs ys = AP at *
  repeat walk_at "m ev0"
  refine EXs_cons (EX_assign (EV_sortedDict hc ?_ rfl hsrt (by decide) rfl hdict (by decide) (fun _ => rfl) (fun _ => rfl)) (by walk_at "m kind") (by walk_at "m env"))
  refine EV_comp (tt := false) (JI_list ?_) (by walk_at "m gens") (fun _ _ => rfl) (by nofun) (by walk_at "m comp")
  repeat walk_at "m ev0"
  refine ⟨_, rfl, fun i rho' l => l = (dueK (AP.take i)).map fun k => .tup [.int k, .bool true], rfl, ?_, ?_⟩
  · rintro i x rho' l K hK hx' rfl
    obtain ⟨⟨a, b⟩, hab, rfl⟩ := pts_get hx'
    have hbn := hapB _ (List.mem_of_getElem? hab)
    have hli : (dueK (AP.take i)).length ≤ 9 := by
      unfold dueK
      rw [List.length_map]
      exact Nat.le_trans (List.length_filter_le _ _) (by rw [List.length_take]; lia)
    have hstep : dueK (AP.take (i + 1)) = dueK (AP.take i) ++ (if (decide (a.fmod b = 0) && decide (0 ≤ a)) = true then [a.fdiv b] else []) := by
      unfold dueK
      rw [List.take_add_one, hab, List.filter_append, List.map_append]
      by_cases hh : (decide (a.fmod b = 0) && decide (0 ≤ a)) = true
      · rw [if_pos hh]; simp only [Option.toList_some, List.filter_cons, hh, if_true, List.filter_nil, List.map_cons, List.map_nil]
      · rw [if_neg hh]; simp only [Option.toList_some, List.filter_cons, hh, if_false, List.filter_nil, List.map_nil]; simp [hh]
    unfold ptP
    repeat walk_at "m ev0"
    refine tests1x ?_
    repeat walk_at "m ev0"
    refine bo_mod hbn.1 ?_
    repeat walk_at "m ev0"
    refine if_dec (fun h1 => ?_) fun h1 => ?_
    · repeat walk_at "m ev0"
      refine if_dec (fun h2 => ?_) fun h2 => ?_
      · repeat walk_at "m ev0"
        rw [if_pos rfl]
        repeat walk_at "m ev0"
        refine bo_div hbn.1 hbn.2 ?_
        repeat walk_at "m ev0"
        refine ⟨rfl, by rw [List.length_map]; lia, rfl, hK _ _ ?_⟩
        rw [hstep, if_pos (by simp [h1, h2])]; simp
      · rw [if_neg (by decide)]
        refine ⟨rfl, hK _ _ ?_⟩
        rw [hstep, if_neg (by simp [h2])]; simp
    · rw [if_neg (by decide)]
      refine ⟨rfl, hK _ _ ?_⟩
      rw [hstep, if_neg (by simp [h1])]; simp
  rintro rho' l rfl
  rw [pts_len, List.take_length]
  have hdk : (dueK AP).length ≤ 9 := by
    unfold dueK
    rw [List.length_map]
    exact Nat.le_trans (List.length_filter_le _ _) hap
  refine ⟨_, rfl, by lia, fun due hp hsd => ?_⟩
  have hdue : DueIs xs ys due := ⟨by rw [hAP]; exact hp, hsd⟩
  have rs0 : ∀ h : Nat, h ≤ (f.length - 1) * (g.length - 1) → ResIs f (shiftZ g h) (resF one xs other (movedP h ys)) := fun h hh => by
    have : (f.length - 1) * (g.length - 1) ≤ 3 * 3 := Nat.mul_le_mul (by lia) (by lia)
    exact F.rs h (by lia) (by lia)
  repeat walk_at "m ev0"
  refine EXs_cons (EX_if ?_)
  repeat walk_at "m ev0"
  refine dispersions_ok hF hc f g (fun h => resF one xs other (movedP h ys)) (by lia) (by lia) (by lia) (by lia) (F.bf.mono (by decide)) (F.bg.mono (by decide)) F.tf F.tg rs0 _ fun Ma Mb m1 m2 m3 m4 => ?_
  rw [F.disp due hdue Ma Mb m1 m2 m3 m4]
  repeat walk_at "m ev0"
  refine .nel due due rfl rfl ?_
  refine if_ndec (fun q => absurd rfl q) fun _ => ?_
  repeat walk_at "m ev0"
  refine EXs_cons (EX_for (tt := false) (JI_up hc ?_) (fun _ _ => rfl) (by nofun))
  repeat walk_at "m ev0"
  refine ⟨by decide, by decide, HI one xs f other ys g due,
    ⟨by walk_at "m look", by walk_at "m look", by walk_at "m look", by walk_at "m look", by walk_at "m look", by walk_at "m look", by walk_at "m look"⟩, ?_, ?_⟩
  · rintro i x rho2 st2 K hK hx' ⟨e1, e2, e3, e4, e5, e6, e7⟩
    obtain ⟨hi, rfl⟩ := rangeP_get hx'
    generalize hh : (-2 : Int) + i * 1 = h
    have hi9 : i < 9 := hi
    have hlo : -2 ≤ h := by lia
    have hhi : h ≤ 6 := by lia
    have hhb : h.natAbs ≤ 2 ^ 4 := by lia
    refine JA_name ?_ (by walk_at "m kind")
    refine EXs_cons (EX_compUse (tt := false) (JI_list ?_) (by walk_at "m gens") (fun _ _ => rfl) (by nofun) (by walk_at "m comp") rfl (by walk_at "m env"))
    repeat walk_at "m ev0"
    refine ⟨_, rfl, fun i rho' l => Ext (compVars _ (fnScope 38) _) rho' ∧ l = pts (movedP h (ys.take i)), ⟨.refl, rfl⟩, ?_, ?_⟩
    · rintro i x rho' l K2 hK2 hx' ⟨he, rfl⟩
      obtain ⟨⟨t, s⟩, hts, rfl⟩ := pts_get hx'
      have htm := bY.2 _ (List.mem_of_getElem? hts)
      have h1 : rho' "h" = some (.int h) := ext_look he (by walk_at "m look") rfl
      unfold ptP
      repeat walk_at "m ev0"
      refine bo_mul (bd_fits hhb (by decide)) (bd_fits htm.2 (by decide)) ?_
      repeat walk_at "m ev0"
      refine ⟨rfl, by rw [pts_len]; simp [movedP]; lia, rfl, hK2 _ _ ⟨(he.upd rfl).upd rfl, ?_⟩⟩
      rw [List.take_add_one, hts]; simp [pts, ptP, movedP]
    rintro rho' l ⟨he, rfl⟩
    rw [pts_len, List.take_length]
    have hmb : BdP 5 (movedP h ys) := fun z hz => by
      obtain ⟨y, hy, rfl⟩ := List.mem_map.mp hz
      have q := bY.2 y hy
      have q3 := natAbs_mul_le hhb q.2
      have q4 := d2.fac y hy
      refine ⟨?_, by simp only []; lia⟩
      have q5 : (h * y.2).natAbs ≤ 18 := by
        rw [Int.natAbs_mul]
        exact Nat.mul_le_mul (show h.natAbs ≤ 6 by lia) (show y.2.natAbs ≤ 3 by lia)
      simp only []
      lia
    repeat walk_at "m ev0"
    refine zshift_ok hF hc g h 11 4 (by lia) F.bg hhb (by decide) _ ?_
    repeat walk_at "m ev0"
    refine resultant_is hF (F.rs h hlo (by lia)) (fun _ _ => hc) _ ?_
    repeat walk_at "m ev0"
    refine EX_if ?_
    repeat walk_at "m ev0"
    refine law_resultant_ok hF one xs other (movedP h ys) x2 (by simp [movedP]; lia) (bx.2.mono (by decide)) hmb bx.1 bY.1 _ ?_
    repeat walk_at "m ev0"
    refine ne_same ?_
    repeat walk_at "m ev0"
    refine if_dec (fun h0 => ?_) fun h0 => ?_
    · repeat walk_at "m ev0"
      refine .isin due rfl ?_
      have hd := F.due due hdue h h0 hhi
      have hdd : (decide (resF one xs other (movedP h ys) = 0) != decide (h ∈ due)) = false := by
        by_cases hz : resF one xs other (movedP h ys) = 0
        · simp [hz, hd.mp hz]
        · have : h ∉ due := fun q => hz (hd.mpr q)
          simp [hz, this]
      repeat walk_at "m ev0"
      refine .neb ?_
      rw [hdd]
      refine ckf rfl ?_
      refine ckf rfl ?_
      refine TV_or_nil ?_
      refine ckf rfl ?_
      refine EXs_nil ?_
      repeat walk_at "m ev0"
      exact hK _ _ _ (tk_next ⟨by walk_at "m look", by walk_at "m look", by walk_at "m look", by walk_at "m look", by walk_at "m look", by walk_at "m look", by walk_at "m look"⟩)
    · refine ckf rfl ?_
      refine TV_or_nil ?_
      refine ckf rfl ?_
      refine EXs_nil ?_
      repeat walk_at "m ev0"
      exact hK _ _ _ (tk_next ⟨by walk_at "m look", by walk_at "m look", by walk_at "m look", by walk_at "m look", by walk_at "m look", by walk_at "m look", by walk_at "m look"⟩)
  · rintro rho2 st2 ⟨e1, e2, e3, e4, e5, e6, e7⟩
    refine ck_next (EXs_nil ?_)
    exact ⟨rfl, one, xs, other, ys, d1, d2, e1, e5, by rw [hge]; exact e6⟩
end

-- MExc2
section
set_option maxRecDepth 100000
open PySem PySem.W PyProof.Rows


noncomputable def clsStmt : Stmt := (PySem.Challenge.pw_pf0039_01.main.body).getD 1 (.Pass ⟨0, 0, 0, 0⟩)
noncomputable def initStmt : Stmt := match clsStmt with | .ClassDef _ _ _ b .. => b.getD 0 (.Pass ⟨0, 0, 0, 0⟩) | s => s
noncomputable def initParams : Arguments := match initStmt with | .FunctionDef _ a .. => a | _ => default
noncomputable def initBody : List Stmt := match initStmt with | .FunctionDef _ _ b .. => b | _ => []
noncomputable def initScope : Scope := match initStmt with | .FunctionDef _ _ _ _ _ _ s .. => s | _ => default
noncomputable def initFd (pm code doc : Value) : FuncData := { Calls.docDef "__init__" initParams initBody initScope pm code doc with qualname := "CasFail.__init__" }
noncomputable def excBm : List Value := [.type "Exception", .type "BaseException", .type "object"]

/-- the text's own exception class, as the top left it -/
inductive ClsF (C : Cx) (Cl N : Addr) : Prop
  | mk (nm q : Str) (bs : List Value) (sn : List Str) (sub : List Value) (ab : Bool) (col : Option Bool) (dd : Option Addr) (k0 k1 k2 k3 k5 : Option Value) (h : C.h0.get? Cl = some (excClassObj nm q Cl N bs excBm true sn sub ab col dd k0 k1 k2 k3 k5 "Exception.__new__"))
inductive FnF (C : Cx) (fI : Addr) : Prop
  | mk (oI : Obj) (pm code doc : Value) (h1 : C.h0.get? fI = some oI) (h2 : oI.cls = .type "function") (h3 : oI.data = .func (initFd pm code doc)) (h4 : C.h0.CodeRec code "CasFail.__init__")
structure ExcF (C : Cx) (Cl N fI : Addr) (mN : Str → Option Value) : Prop where
  bound : C.mg "CasFail" = some (.ref Cl)
  cls : ClsF C Cl N
  ns : C.h0.Ns N mN
  init : mN "__init__" = some (.ref fI)
  quiet : ∀ x ∈ (["__setattr__", "kind", "text", "__getattribute__", "__getattr__"] : List Str), mN x = none
  fn : FnF C fI
  exc : Names C "Exception" (.type "Exception")

section
variable {C : Cx} {n : Nat} {sc : Scope} {rho : Vars} {st : Sto}

/-- things of no frame, no list have changed -/
theorem but_S {env : Env} {al : List Addr} {h h' : Heap} {P : Addr → Prop} (a : Amb C none al st h) (e : EnvSt C env al st rho h) (hP : ∀ b, P b → C.h0.get? b = none ∧ (∀ o, h.get? b = some o → ¬ RepObj o) ∧ b ≠ env.locals ∧ ∀ x, (x, b) ∉ env.cells)
    (k : ∀ b o, ¬ P b → h.get? b = some o → h'.get? b = some o) : Amb C none al st h' ∧ EnvSt C env al st rho h' := by
  have nb : ∀ {b : Addr} {o : Obj}, h.get? b = some o → RepObj o → h'.get? b = some o := fun {b o} g r => k b o (fun p => (hP b p).2.1 o g r) g
  have rp : ∀ v p, Rep al (Live al st) h v p → Rep al (Live al st) h' v p := fun v p r => Rep.mono (fun b o g ro nl => ⟨nb g ro, nl⟩) (fun _ _ q => q) r
  have rps : ∀ v p, Reps al (Live al st) h v p → Reps al (Live al st) h' v p := fun v p r => Reps.mono (fun b o g ro nl => ⟨nb g ro, nl⟩) (fun _ _ q => q) r
  refine ⟨⟨fun b o g => k b o (fun p => by rw [(hP b p).1] at g; cases g) (a.base b o g), .inl rfl, ⟨a.muts.len, a.muts.nodup, fun x hx => ⟨(a.muts.fresh x hx).1, ?_⟩, fun i l q => ?_⟩⟩, ⟨?_, fun x c hx => ?_, e.apart, fun x c hx => ?_, e.newL, e.newC⟩⟩
  · obtain ⟨_, o, g, its, m, hd⟩ := a.muts.fresh x hx
    exact ⟨o, nb g (.inl ⟨its, m, hd⟩), its, m, hd⟩
  · obtain ⟨x, vs, m, e1, e2, e3, e4⟩ := a.muts.is i l q
    exact ⟨x, vs, m, e1, nb e2 RepObj.seq, rps _ _ e3, e4⟩
  · obtain ⟨m, ⟨ob, es, ep, g1, g2, g3⟩, l⟩ := e.locs
    exact ⟨m, ⟨ob, es, ep, k _ _ (fun p => (hP _ p).2.2.1 rfl) g1, g2, g3⟩, fun x p hx hp => let ⟨v, hv, r⟩ := l x p hx hp; ⟨v, hv, rp _ _ r⟩⟩
  · obtain ⟨ov, ⟨ob, g1, g2⟩, l⟩ := e.cells x c hx
    exact ⟨ov, ⟨ob, k _ _ (fun p => (hP _ p).2.2.2 x (mem_of_lookup hx)) g1, g2⟩, fun p hp => let ⟨v, hv, r⟩ := l p hp; ⟨v, hv, rp _ _ r⟩⟩
  · obtain ⟨ov, ob, g1, g2⟩ := e.isCells x c hx
    exact ⟨ov, ob, k _ _ (fun p => (hP _ p).2.2.2 x hx) g1, g2⟩

theorem lk_kind : typeLookup (.type "Exception") "kind" = pure none := by rw [typeLookup_type, builtinLookup_eq_fast]; kernel_rfl
theorem lk_text : typeLookup (.type "Exception") "text" = pure none := by rw [typeLookup_type, builtinLookup_eq_fast]; kernel_rfl

noncomputable def excFields (t : Addr) : Array Value := #[.ref t, .none, .none, .none, .bool false, .none]

theorem init_nocell : (initScope.names.all fun x => x.2 != NameKind.cell) = true := by decide
theorem args2 {h : Heap} {vs : List Value} {p : Addr} {x : Str} {al : List Addr} {X : Addr → Prop} {P : List Value → Prop} (r : Reps al X h vs [.obj p, .str x]) (k : ∀ u, P [.ref p, .str x u]) : P vs := by
  obtain ⟨v1, vs1, rfl, r3, r4⟩ := r.consOf
  obtain ⟨v2, vs2, rfl, r5, r6⟩ := r4.consOf
  cases r6.nilOf
  cases r3.objOf
  obtain ⟨u, rfl⟩ := r5.strOf
  exact k u
theorem exc_notRep {h : Heap} {b : Addr} {o' : Obj} {T : Value} {vs : Array Value} (g' : h.get? b = some o') (hc : o'.cls = T) (hd : o'.data = .fields vs) (hT : T ≠ .type "range") : ∀ o, h.get? b = some o → ¬ RepObj o := fun o g => by
  rw [g'] at g; cases g
  rintro (⟨_, _, q⟩ | ⟨q, _⟩)
  · rw [hd] at q; cases q
  · exact hT (hc.symm.trans q)
theorem init_body {Cl N fI : Addr} {mN : Str → Option Value} (X : ExcF C Cl N fI mN) {A : Around} {env : Env} {s : Shared} {e t0 : Addr} {k x : Str} {Q : Flow → Shared → Prop} {E : Value → Shared → Prop} (rm : Room 8 A) (hA : A.handled = none)
    (ok : EnvOk initScope env) (hEc : env.cells = []) (hel : e ≠ env.locals) (a1 : Amb C none [] [] s.heap) (e1 : EnvSt C env [] [] (argVars ["self", "kind", "text"] [.obj e, .str k, .str x]) s.heap)
    (hkl : k.length ≤ 1000) (hxl : x.length ≤ 1000)
    (he0 : C.h0.get? e = none) (he : s.heap.get? e = some { cls := .ref Cl, data := .fields (excFields t0) })
    (hq : ∀ h' tk' mA dA t1, (∀ b o, b ≠ e → s.heap.get? b = some o → h'.get? b = some o) → (∃ u, mA "kind" = some (.str k u)) → s.heap.get? dA = none → h'.Inst e Cl mA →
      h'.get? e = some { cls := .ref Cl, dict := some dA, data := .fields (excFields t1) } → Q .next { s with heap := h', toks := tk' }) :
    wpAny C.M A (execs initBody env) Q E s := by
  obtain ⟨nm, q, bs, sn, sub, ab, col, dd, k0, k1, k2, k3, k5, hC⟩ := X.cls
  have hC1 := a1.base _ _ hC
  have eNot : ∀ {h : Heap} {o' : Obj} {vs : Array Value}, h.get? e = some o' → o'.cls = .ref Cl → o'.data = .fields vs → ∀ b, b = e → C.h0.get? b = none ∧ (∀ o, h.get? b = some o → ¬ RepObj o) ∧ b ≠ env.locals ∧ ∀ y, (y, b) ∉ env.cells :=
    fun g hc hd b hb => hb ▸ ⟨he0, exc_notRep g hc hd nofun, hel, fun y => by rw [hEc]; exact List.not_mem_nil⟩
  have hCe : Cl ≠ e := get_ne he0 hC
  have ek : ∀ {p}, EV C 8 initScope (.Name "kind" p) (argVars ["self", "kind", "text"] [.obj e, .str k, .str x]) [] fun p st' => p = .str k ∧ st' = [] := fun {_} => by
    repeat walk_at "m ev0"
    exact ⟨rfl, rfl⟩
  have et : ∀ {p}, EV C 8 initScope (.Name "text" p) (argVars ["self", "kind", "text"] [.obj e, .str k, .str x]) [] fun p st' => p = .str x ∧ st' = [] := fun {_} => by
    repeat walk_at "m ev0"
    exact ⟨rfl, rfl⟩
  have hself : ∀ {p}, EV C 8 initScope (.Name "self" p) (argVars ["self", "kind", "text"] [.obj e, .str k, .str x]) [] fun p st' => p = .obj e ∧ st' = [] := fun {_} => by
    repeat walk_at "m ev0"
    exact ⟨rfl, rfl⟩
  have hargs : ∀ {p1 p2 p3 p4 p5 p6 p7 kd}, EVs C 8 initScope (some p1) [.Name "self" p2, .BinOp (.BinOp (.Name "kind" p3) .Add (.Constant (.str ": ") kd p4) p5) .Add (.Name "text" p6) p7]
      (argVars ["self", "kind", "text"] [.obj e, .str k, .str x]) [] fun ps st' => ps = [.obj e, .str (k ++ ": " ++ x)] ∧ st' = [] := fun {_ _ _ _ _ _ _ _} => by
    repeat walk_at "m ev0"
    refine .scat (by rw [show (Str.ofString ": ").length = 2 by decide]; lia) ?_
    repeat walk_at "m ev0"
    refine .scat (by rw [strLen_append, show (Str.ofString ": ").length = 2 by decide]; lia) ?_
    repeat walk_at "m ev0"
    exact ⟨rfl, rfl⟩
  -- Exception.__init__(self, ..)
  refine wpAny_execs_cons (wpAny_Expr_any (methodCall_KW ?_ (by rfl)) (by unfold interactive; rw [ok.scope]; rfl) (by rfl))
  refine name_global ok (by rw [hA]; exact a1) rfl X.exc (by decide) ?_
  refine getMethod_init (glob_here a1) ?_
  refine callWith_plain (.inl ⟨_, rfl⟩) (by rfl) (by rfl) ?_
  refine JE.use1 hargs (s := { s with toks := s.toks + 1 }) hA rm ok a1 e1 fun vs h2 tk2 k2 a2 e2 r2 => ?_
  refine args2 (P := fun vs => wpAny C.M A (call (.builtin "Exception.__init__") vs) _ _ _) r2 fun v2 => ?_
  have he2 := k2 _ _ he
  refine exc_init F.excBase_Exception (k2 _ _ hC1) he2 fun h3 t1 k3 he3 => ?_
  have ae3 := but_S a2 e2 (eNot he2 rfl rfl) (fun b o hbe g => k3 b o hbe g)
  -- self.kind = kind
  refine wpAny_execs_cons (plainObj_wpAny_Assign_Attribute ?_ (by rfl))
  refine EV.use1s ek (s := { s with heap := h3, toks := tk2 }) hA rm ok ae3.1 ae3.2 fun u4 h4 tk4 k4 a4 e4 => ?_
  refine EV.use1o hself (s := { s with heap := h4, toks := tk4 }) hA rm ok a4 e4 fun h5 tk5 k45 a5 e5 => ?_
  have k5' : ∀ b o, h3.get? b = some o → h5.get? b = some o := fun b o g => k45 _ _ (k4 b o g)
  have he5 := k5' _ _ he3
  refine first_attr F.store_Exception (k5' _ _ (k3 _ _ hCe (k2 _ _ hC1))) (X.ns.keeps a5.base) (X.quiet _ (by decide)) (X.quiet _ (by decide)) lk_kind he5 rfl rfl rfl fun h6 tk6 D hD k6 he6 hn6 => ?_
  have ae6 := but_S a5 e5 (eNot he5 rfl rfl) (fun b o hbe g => k6 b o hbe g)
  -- self.text = text
  refine wpAny_execs_cons (plainObj_wpAny_Assign_Attribute ?_ (by rfl))
  refine EV.use1s et (s := { s with heap := h6, toks := tk6 }) hA rm ok ae6.1 ae6.2 fun u7 h7 tk7 k7 a7 e7 => ?_
  refine EV.use1o hself (s := { s with heap := h7, toks := tk7 }) hA rm ok a7 e7 fun h8 tk8 k78 a8 e8 => ?_
  have k8 : ∀ b o, h6.get? b = some o → h8.get? b = some o := fun b o g => k78 _ _ (k7 b o g)
  have he8 := k8 _ _ he6
  have hDe : D ≠ e := Ne.symm (get_ne hD he5)
  have hn8 : h8.Ns1 D (fun y => if y = "kind" then some (.str k u4) else none) := by
    obtain ⟨oD, es, ep, g1, r⟩ := hn6
    exact ⟨oD, es, ep, k8 _ _ g1, r⟩
  have hI8 : h8.Inst e Cl (fun y => if y = "kind" then some (.str k u4) else none) := ⟨_, he8, rfl, nofun, Or.inr ⟨D, rfl, hDe, hn8⟩⟩
  refine store_attr F.store_Exception (k8 _ _ (k6 _ _ hCe (k5' _ _ (k3 _ _ hCe (k2 _ _ hC1))))) (X.ns.keeps a8.base) (X.quiet _ (by decide)) (X.quiet _ (by decide)) lk_text (Ne.symm hCe) hI8 (fun h9 tk9 hI9 k9 hsame => ?_) (ns := ["kind"]) (Within.cons _ _ Within.nil)
  refine wpAny_execs_nil ?_
  have k05 : ∀ b o, b ≠ e → s.heap.get? b = some o → h5.get? b = some o := fun b o hbe g => k5' _ _ (k3 b o hbe (k2 _ _ g))
  have hkk : ∀ b o, b ≠ e → s.heap.get? b = some o → h9.get? b = some o := fun b o hbe g =>
    k9 b o hbe (fun o₀ dx h0 hdx => by
      rw [he8] at h0; cases h0; cases hdx
      exact get_ne hD (k05 b o hbe g)) (k8 _ _ (k6 b o hbe (k05 b o hbe g)))
  refine hq h9 tk9 _ D t1 hkk ⟨u4, by show (if _ then _ else (if _ then _ else _)) = _; rw [if_neg (by decide), if_pos rfl]⟩ ?_ hI9 ?_
  · cases g : s.heap.get? D with
    | none => rfl
    | some o => exact nomatch hD.symm.trans (k05 D o hDe g)
  · obtain ⟨o9, g9, c9, d9, s9, dict9⟩ := hsame _ he8
    have hd9 := dict9 D rfl
    rw [g9]
    obtain ⟨oc, od, odt, osl⟩ := o9
    simp only at c9 d9 s9 hd9
    rw [c9, d9, s9, hd9]; rfl
theorem init_ok {Cl N fI : Addr} {mN : Str → Option Value} (X : ExcF C Cl N fI mN) {A : Around} {s : Shared} {e t0 : Addr} {k x : Str} {tk tx : Tok} {Q : Value → Shared → Prop} {E : Value → Shared → Prop} (rm : Room 9 A) (hA : A.handled = none) (hb : ∀ b o, C.h0.get? b = some o → s.heap.get? b = some o)
    (hkl : k.length ≤ 1000) (hxl : x.length ≤ 1000)
    (he0 : C.h0.get? e = none) (he : s.heap.get? e = some { cls := .ref Cl, data := .fields (excFields t0) })
    (hq : ∀ h' tk' mA dA t1, (∀ b o, b ≠ e → s.heap.get? b = some o → h'.get? b = some o) → (∃ u, mA "kind" = some (.str k u)) → s.heap.get? dA = none → h'.Inst e Cl mA →
      h'.get? e = some { cls := .ref Cl, dict := some dA, data := .fields (excFields t1) } → Q .none { s with heap := h', toks := tk' }) :
    wpAny C.M A (call (.ref fI) [.ref e, .str k tk, .str x tx]) Q E s := by
  obtain ⟨oI, pm, code, doc, hfI, hfc, hfd, hcd⟩ := X.fn
  refine wpAny_call (codeAny_call_cells (fd := initFd pm code doc) (body := initBody) (vals := [.ref e, .str k tk, .str x tx]) (binds := [("self", .ref e), ("kind", .str k tk), ("text", .str x tx)]) (by have := rm.depth; lia) (hb _ _ hfI) hfd (C.lim.keeps hb) (hcd.keeps hb) rfl rfl rfl (fun y hy => ?_) (fun s1 XC => ?_) rfl rfl rfl)
  · simp only [List.mem_cons, List.not_mem_nil, or_false] at hy
    rcases hy with rfl | rfl | rfl <;> exact .inl rfl
  obtain ⟨h1, tk1, rfl, hk1⟩ := XC.done
  generalize hE : callEnvC (initFd pm code doc) s.heap.objs.size fI = env at XC ⊢
  have hEs : env.scope = initScope := by rw [← hE]; rfl
  have hEl : env.locals = s.heap.objs.size := by rw [← hE]; rfl
  have hEc : env.cells = [] := by rw [← hE]; rfl
  have ok : EnvOk initScope env := ⟨hEs, by rw [← hE]; rfl, by rw [← hE]; rfl, rfl, fun y hy => absurd (List.all_eq_true.mp init_nocell _ (mem_of_lookup hy)) Bool.false_ne_true, fun y c hy => by rw [hEc] at hy; cases hy⟩
  have am1 : Amb C none [] [] h1 := ⟨fun b o g => hk1 _ _ (hb b o g), .inl rfl, ⟨rfl, List.nodup_nil, fun x hx => (nomatch hx), fun k l q => by simp at q⟩⟩
  have hnew : ∀ b, s.heap.objs.size ≤ b → C.h0.get? b = none := fun b hb' => by
    cases g : C.h0.get? b with
    | none => rfl
    | some ob => exact absurd (Heap.lt_size (hb _ _ g)) (Nat.not_lt.mpr hb')
  have e1 : EnvSt C env [] [] (argVars ["self", "kind", "text"] [.obj e, .str k, .str x]) h1 := by
    have rs : Reps [] (Live [] []) h1 [.ref e, .str k tk, .str x tx] [.obj e, .str k, .str x] := .cons (.obj e) (.cons (.str k tk) (.cons (.str x tx) .nil))
    refine ⟨⟨_, XC.toInCall.ns, fun y p hy hp => ?_⟩, fun y c hc => (by rw [hEc] at hc; cases hc), by rw [hEc]; exact .nil, fun y c hc => (by rw [hEc] at hc; cases hc), hnew _ (by rw [hEl]; exact Nat.le_refl _), fun y c hc => (by rw [hEc] at hc; cases hc)⟩
    obtain ⟨v, hv, r⟩ := lookup_zip_rep (names := ["self", "kind", "text"]) rs hp
    exact ⟨v, by rw [bindL_lookup hy _ _ (by simp; decide)]; rw [show ([("self", .ref e), ("kind", .str k tk), ("text", .str x tx)] : List (Str × Value)).lookup y = some v from hv]; rfl, r⟩
  have hel : e ≠ env.locals := fun q => by rw [q, hEl, none_push (Nat.le_refl _)] at he; cases he
  exact init_body X (s := { s with heap := h1, toks := tk1 }) rm.deeper hA ok hEc hel am1 e1 hkl hxl he0 (hk1 _ _ he) fun h' tk' mA dA t1 q1 q2 q3 q4 q5 => hq h' tk' mA dA t1 (fun b o hb' g => q1 b o hb' (hk1 _ _ g)) q2 (none_of_grow hk1 q3) q4 q5
end
end

-- MExc3
section
set_option maxRecDepth 100000
open PySem PySem.W PyProof.Rows

section
variable {M : Model} {A : Around} {E : Value → Shared → Prop} {env : Env}
variable {nm q : Str} {C N : Addr} {bs bm : List Value} {hdct : Bool} {sn : List Str} {sub : List Value} {ab : Bool} {col : Option Bool} {dd : Option Addr} {k0 k1 k2 k3 k5 : Option Value} {newId : String}
/-- an exception that has fields of its own is raised -/
theorem raise_own {s : Shared} {x : Sem Value} {Q : Flow → Shared → Prop} (hbase : bm.contains (.type "BaseException") = true) (hh : A.handled = none)
    (h : wpAny M A x (fun v s₁ => ∃ e t dct, v = .ref e ∧ s₁.heap.get? C = some (excClassObj nm q C N bs bm hdct sn sub ab col dd k0 k1 k2 k3 k5 newId) ∧
      s₁.heap.get? e = some { cls := .ref C, dict := dct, data := .fields (excFields t) } ∧ E (.ref e) s₁) E s) :
    wpAny M A (raiseStmt env (some x) none) Q E s := by
  have hcB : (Value.ref C :: bm).contains (.type "BaseException") = true := by rw [List.contains_cons, hbase, Bool.or_true]
  unfold raiseStmt
  refine wpAny_bind (wpAny_mono h (fun v s₁ h₁ => ?_) fun _ _ x => x)
  obtain ⟨e, t, dct, rfl, hC, he, hE⟩ := h₁
  obtain ⟨hp, g, d, tk, os⟩ := s₁
  repeat (first | with_reducible refine wpAny_loadPart_at he ?_ | with_reducible refine wpAny_loadPart_at hC ?_ | (with_reducible refine wpAny_isSubtype_exc hC ?_; rw [hcB]) | wp_step)
  exact wpAny_raiseNew_none hh hE
end

section
variable {C : Cx} {n : Nat} {sc : Scope} {rho : Vars} {st : Sto}

/-- a tree of a known answer that leaves the lists as they are -/
theorem JE.useS {B G : Type} {rel : List Addr → Sto → Heap → B → G → Prop} {t : Env → Sem B} {g0 : G} (j : JE C n sc rel t rho st fun g st' => g = g0 ∧ st' = st)
    {A : Around} {env : Env} {s : Shared} {al : List Addr} {hd : Option Value} {K : B → Shared → Prop} {E : Value → Shared → Prop} (hA : A.handled = hd) (r : Room n A) (o : EnvOk sc env) (a : Amb C hd al st s.heap) (x : EnvSt C env al st rho s.heap)
    (k : ∀ b h' tk al', Kept al st al' st s.heap h' → Amb C hd al' st h' → EnvSt C env al' st rho h' → rel al' st h' b g0 → K b { s with heap := h', toks := tk }) : wpAny C.M A (t env) K E s := by
  subst hA
  refine j.use r o a x fun b h' tk al' st' g k1 a1 e1 r1 q1 => ?_
  obtain ⟨rfl, rfl⟩ := q1
  exact k b h' tk al' k1 a1 e1 r1
theorem args_ss {h : Heap} {vs : List Value} {x y : Str} {al : List Addr} {X : Addr → Prop} {P : List Value → Prop} (r : Reps al X h vs [.str x, .str y]) (k : ∀ u w, P [.str x u, .str y w]) : P vs := by
  obtain ⟨v1, vs1, rfl, r3, r4⟩ := r.consOf
  obtain ⟨v2, vs2, rfl, r5, r6⟩ := r4.consOf
  cases r6.nilOf
  obtain ⟨u, rfl⟩ := r3.strOf
  obtain ⟨w, rfl⟩ := r5.strOf
  exact k u w
theorem EVs.use_ss {es : List Expr} {pos : Pos} {x y : Str} (j : EVs C n sc (some pos) es rho st fun ps st' => ps = [.str x, .str y] ∧ st' = st) {A : Around} {env : Env} {s : Shared} {al : List Addr} {hd : Option Value} {K : List Value → Shared → Prop}
    {E : Value → Shared → Prop} (hA : A.handled = hd) (r : Room n A) (o : EnvOk sc env) (a : Amb C hd al st s.heap) (e : EnvSt C env al st rho s.heap)
    (k : ∀ u w h' tk al', Kept al st al' st s.heap h' → Amb C hd al' st h' → EnvSt C env al' st rho h' → K [.str x u, .str y w] { s with heap := h', toks := tk }) :
    wpAny C.M A (spliced (backTo pos (starEach es env))) K E s :=
  JE.useS j hA r o a e fun vs h' tk al' k1 a1 e1 r1 => args_ss (P := fun vs => K vs { s with heap := h', toks := tk }) r1 fun u w => k u w h' tk al' k1 a1 e1

/-- an exception of the text's own class lies there, new -/
inductive ThrownO (Cl : Addr) (e : Addr) (h h' : Heap) : Prop
  | mk (mA : Str → Option Value) (dA t1 : Addr) (hk : ∃ u, mA "kind" = some (.str "domain" u)) (hd : h.get? dA = none) (hI : h'.Inst e Cl mA) (he : h'.get? e = some { cls := .ref Cl, dict := some dA, data := .fields (excFields t1) })
structure Thrown (C : Cx) (Cl : Addr) (e : Addr) (h h' : Heap) : Prop where
  new : h.get? e = none
  obj : ThrownO Cl e h h'

theorem raise_stmt {Cl N fI : Addr} {mN : Str → Option Value} (X : ExcF C Cl N fI mN) {A : Around} {env : Env} {s : Shared} {al : List Addr} {x : Str} {np cpos p1 p2 pos : Pos} {kd kd2 : Nat} {Q : Flow → Shared → Prop} {E : Value → Shared → Prop}
    (rm : Room 12 A) (o : EnvOk sc env) (hA : A.handled = none) (a : Amb C none al st s.heap) (e : EnvSt C env al st rho s.heap) (hk : sc.names.lookup (Str.ofString "CasFail") = some .globalImplicit) (hx : x.length ≤ 1000)
    (h : ∀ ex h' tk' al', Kept al st al' st s.heap h' → Amb C none al' st h' → EnvSt C env al' st rho h' → Thrown C Cl ex s.heap h' → E (.ref ex) { s with heap := h', toks := tk' }) :
    wpAny C.M A (exec (.Raise (some (.Call (.Name "CasFail" np) [.Constant (.str "domain") kd p1, .Constant (.str x) kd2 p2] [] cpos)) none pos) env) Q E s := by
  obtain ⟨nm, q, bs, sn, sub, ab, col, dd, k0, k1, k2, k3, k5, hC⟩ := X.cls
  obtain ⟨oI, pm, code, doc, hfI, hfc, hfd, hcd⟩ := X.fn
  rw [arm_exec_Raise]
  refine wpAny_bind (wpAny_standAt ?_)
  refine raise_own (C := Cl) (nm := nm) (q := q) (N := N) (bs := bs) (bm := excBm) (hdct := true) (sn := sn) (sub := sub) (ab := ab) (col := col) (dd := dd) (k0 := k0) (k1 := k1) (k2 := k2) (k3 := k3) (k5 := k5) (newId := "Exception.__new__") (by decide) hA ?_
  refine wpAny_bind ?_
  rw [eval_Call_Name]
  refine wpAny_bind (name_global o (by rw [hA]; exact a) hk (.inl X.bound) (by decide) ?_)
  unfold callWith
  refine wpAny_bind (wpAny_holding ?_)
  have hargs : EVs C 11 sc (some cpos) [.Constant (.str "domain") kd p1, .Constant (.str x) kd2 p2] rho st fun ps st' => ps = [.str "domain", .str x] ∧ st' = st :=
    EVs_cons (EV_str (EVs_cons (EV_str (EVs_nil ⟨rfl, rfl⟩)) (fun _ => rfl))) (fun _ => rfl)
  refine Calls.evalArgs_plain (EVs.use_ss hargs hA (rm.mono (by decide)) o a e fun u1 u2 h1 tk1 al1 kp1 a1 e1 => ?_)
  refine wpAny_bind (wpAny_standAt ?_)
  have hC1 := a1.base _ _ hC
  have hplain : (backTo cpos (starEach [Expr.Constant (Const.str (Str.ofString "domain")) kd p1, Expr.Constant (Const.str x) kd2 p2] env)).any (fun x => x.1) = false := rfl
  simp only [hplain]
  refine wpAny_bind (wpAny_keeperOf_exc hC1 ?_)
  refine wpAny_bind (wpAny_call_exc_init (hrest := by rw [sizeLine_eq]; simp) F.excBase_Exception hC1 (X.ns.keeps a1.base) X.init (a1.base _ _ hfI) hfc fun h2 ex hm => ?_)
  have kb : ∀ b o, C.h0.get? b = some o → h2.get? b = some o := fun b o g => hm.keeps _ _ (a1.base b o g)
  have ex0 : C.h0.get? ex = none := none_of_grow a1.base hm.new
  have hsx : s.heap.get? ex = none := fresh_of (hd' := none) a1 kp1 hm.new
  have rmu : Room 9 (A.under (.builtin "type.__call__" ⟨.ref Cl :: [.str "domain" u1, .str x u2], []⟩)) := by
    have h1 := rm.depth
    have h2 := rm.units
    refine ⟨?_, ?_⟩
    · rw [show (A.under (.builtin "type.__call__" ⟨.ref Cl :: [.str "domain" u1, .str x u2], []⟩)).depth = A.depth + 1 from rfl]; lia
    · have e1 : (Code.builtin "type.__call__" ⟨.ref Cl :: [.str "domain" u1, .str x u2], []⟩).cUnits ≤ 20 := by
        first
          | exact (show (1 : Nat) ≤ 20 by decide)
          | exact (show (4 : Nat) ≤ 20 by decide)
          | (show 1 + 3 * _ ≤ 20; decide +kernel)
      show A.units + (Code.builtin "type.__call__" ⟨.ref Cl :: [.str "domain" u1, .str x u2], []⟩).cUnits + 10 * 9 < cLine
      lia
  refine init_ok X (s := ⟨h2, s.gens, s.drawn, tk1, s.os⟩) rmu hA kb (by decide) hx ex0 hm.there.choose_spec.1 fun h3 tk3 mA dA t1 k3 hkd hdA hI he3 => ?_
  have k13 : ∀ b o, h1.get? b = some o → h3.get? b = some o := fun b o g => k3 b o (get_ne hm.new g) (hm.keeps _ _ g)
  have e3 : EnvSt C env al1 st rho h3 := e1.kept a1.muts (.grow k13)
  have hdA' : s.heap.get? dA = none := fresh_of (hd' := none) a1 kp1 (none_of_grow hm.keeps hdA)
  refine ⟨rfl, wpAny_bind (wpAny_holding (wpAny_point (wpAny_pure (wpAny_bind (wpAny_standAt (wpAny_pure ⟨ex, t1, some dA, rfl, k13 _ _ hC1, he3, ?_⟩))))))⟩
  exact h ex h3 tk3 al1 (kp1.trans (.grow k13)) (a1.grow k13) e3 ⟨hsx, mA, dA, t1, hkd, hdA', hI, he3⟩
end
end

-- MExc4
section
set_option maxRecDepth 100000
open PySem PySem.W PyProof.Rows
open PySem.Builtin PySem.Builtin.ObjectAttr

section
variable {prog : Program} {w : World} {A : Around} {E : Value → Shared → Prop} {h : Heap} {g : Array GenState} {d : Drawn} {t : Nat} {os : OsState}
variable {nm q : Str} {C N x : Addr} {bs : List Value} {sn : List Str} {sub : List Value} {ab : Bool} {col : Option Bool} {dd : Option Addr} {k0 k1 k2 k3 k5 : Option Value} {newId : String}
  {mN mA : Str → Option Value} {v : Value}

theorem kind_entry (FB : ExcAttrBase "Exception" excBm) {tk : Tok} {Q : Fin → Shared → Prop} (hC : h.get? C = some (excClassObj nm q C N bs excBm true sn sub ab col dd k0 k1 k2 k3 k5 newId)) (hN : h.Ns N mN) (hk : mN "kind" = none)
    (I : h.Inst x C mA) (hv : mA "kind" = some v) (hq : Q (.done (.ret v)) ⟨h, g, d, t, os⟩) :
    wpAny (model prog w) A (Builtin.«object.__getattribute__» ⟨[.ref x, .str "kind" tk], []⟩) Q E ⟨h, g, d, t, os⟩ := by
  obtain ⟨o, hx, hc, hnc, hd⟩ := I
  rcases hd with ⟨_, hmA⟩ | ⟨dx, hdx, hne, hns⟩
  · rw [hmA] at hv; cases hv
  unfold Builtin.«object.__getattribute__»
  repeat (first | (with_reducible refine wpAny_loadPart_at hx ?_; rw [hc]) | (with_reducible refine wpAny_typeLookup_exc hC hN FB.mro lk_kind ?_; rw [hk]) | wp_step)
  split
  · rename_i c hcd
    exact absurd hcd (hnc c)
  unfold instanceDict
  repeat (first | (with_reducible refine wpAny_loadPart_at hx ?_; rw [hc]) | with_reducible refine wpAny_loadPart_at hC ?_ | wp_step)
  rw [hdx]
  repeat (first | (with_reducible refine wpAny_nsGet hns.ns ?_; rw [hv]) | wp_step)
  exact hq

theorem kind_attr (FB : ExcAttrBase "Exception" excBm) {expr : Bool} {Q : Value → Shared → Prop} (hC : h.get? C = some (excClassObj nm q C N bs excBm true sn sub ab col dd k0 k1 k2 k3 k5 newId)) (hN : h.Ns N mN) (hk : mN "kind" = none)
    (hg : mN "__getattribute__" = none) (hg2 : mN "__getattr__" = none) (I : h.Inst x C mA) (hv : mA "kind" = some v) (hh : handedOut v = pure v) (hq : Q v ⟨h, g, d, t + 1, os⟩) :
    wpAny (model prog w) A (getAttr (.ref x) "kind" expr) Q E ⟨h, g, d, t, os⟩ := by
  obtain ⟨o, hx, hc, hnc, hd⟩ := id I
  have f3 := FB.ga.bind (.ref x)
  have hx0 : (expr && onTheHeap (Value.builtin "BaseException.__getattribute__")) = false := by cases expr <;> rfl
  have hx2 : (Value.builtin "BaseException.__getattribute__" == Value.builtin "object.__getattribute__") = false := by decide +kernel
  have hx1 : (onTheHeap (Value.ref C) && Value.builtin "BaseException.__getattribute__" == Value.builtin "object.__getattribute__") = false := by rw [hx2]; rfl
  unfold getAttr getAttrBy
  repeat (any_goals (first | assumption | (with_reducible refine wpAny_loadPart_at hx ?_; rw [hc]) | (with_reducible refine wpAny_typeLookup_exc hC hN FB.mro FB.ga.lookup ?_; rw [hg]) | (with_reducible refine wpAny_typeLookup_exc hC hN FB.mro FB.noGetattr ?_; rw [hg2]) | wp_step))
  refine codeAny_call_builtin FB.ga.plain F.entry_bexc_ga (wpAny_check_ga_own FB hC .base hx hc (kind_entry FB hC hN hk I hv ?_))
  repeat (any_goals (first | assumption | wp_step))
end
end

-- MExc5
section
set_option maxRecDepth 100000
open PySem PySem.W PyProof.Rows

section
variable {M : Model} {A : Around} {E : Value → Shared → Prop} {s : Shared}

/-- a traceback's entry that is not, or is no more, in flight -/
noncomputable def TbAt (h : Heap) (T : Addr) (fl : Value) : Prop := ∃ oT ts, h.get? T = some oT ∧ oT.data = .fields ts ∧ ts[3]? = some fl ∧ oT.cls = .type "traceback"

/-- a frame is noted: what changes, to the sign -/
theorem note_it {base : Heap} {env : Env} {outer : List Env} {L e : Addr} {oe : Obj} {vs : Array Value} {head : Value} {Q : Unit → Shared → Prop} (hfr : A.frames = some (env :: outer)) (hl : s.heap.FunFrames base (env :: outer)) (hf : env.frame = some L)
    (he : s.heap.get? e = some oe) (hd : oe.data = .fields vs) (h1 : vs[1]? = some head) (hhead : head = .none ∨ ∃ T, head = .ref T ∧ T ≠ e ∧ TbAt s.heap T .none)
    (k : ∀ h' T, s.heap.get? T = none → h'.get? e = some (oe.mapFields (·.setIfInBounds 1 (.ref T))) → TbAt h' T (rawInt L) → T ≠ e →
      (∀ b o, b ≠ e → head ≠ .ref b → b ∉ (env :: outer).filterMap (·.frame) → s.heap.get? b = some o → h'.get? b = some o) →
      (∀ b o, b ∈ (env :: outer).filterMap (·.frame) → s.heap.get? b = some o → ∃ sl, h'.get? b = some { o with slots := sl }) → Q () { s with heap := h' }) :
    wpAny M A (noteFrame (.ref e) env) Q E s := by
  -- the road behind the head
  have key : ∀ (s1 : Shared) (hn : Bool), s1.heap.FunFrames base (env :: outer) → s1.heap.get? e = some oe → (∀ h' T, s1.heap.get? T = none → h'.get? e = some (oe.mapFields (·.setIfInBounds 1 (.ref T))) → TbAt h' T (rawInt L) → T ≠ e →
      (∀ b o, b ≠ e → b ∉ (env :: outer).filterMap (·.frame) → s1.heap.get? b = some o → h'.get? b = some o) →
      (∀ b o, b ∈ (env :: outer).filterMap (·.frame) → s1.heap.get? b = some o → ∃ sl, h'.get? b = some { o with slots := sl }) → Q () { s1 with heap := h' }) →
      wpAny M A (do setField (.ref e) 1 (← EntryCells.newEntry head (← frameOf env) .none (rawInt L) .none (← entryPlaceOf L hn))) Q E s1 := by
    intro s1 hn hl1 he1 k1
    have hene : e ∉ (env :: outer).filterMap (·.frame) := fun hm => by
      obtain ⟨_, o, ho, hnf⟩ := hl1.mem hm
      rw [he1] at ho; cases ho; exact hnf vs hd
    refine wpAny_bind (wpAny_frameOf_fun hfr hl1 hf fun h2 hs2 => ?_)
    refine wpAny_bind (wpAny_entryPlaceOf fun pl hpl => ?_)
    unfold EntryCells.newEntry newFields
    refine wpAny_bind (wpAny_newObj_type ?_ (hpl.sizeOk5 _ _ _ _ _))
    have he2 : h2.get? e = some oe := (hs2.2.1 e hene).trans he1
    generalize hob : ({ cls := .type "traceback", dict := none, data := .fields ([head, .ref L, .none, rawInt L, .none] ++ (if pl.isEmpty then List.replicate 6 Value.none else pl)).toArray } : Obj) = ob
    have he3 := Heap.get?_push_of_some (h := h2) ob he2
    refine wpAny_setField he3 hd (Array.getElem?_eq_some_iff.mp h1).1 ?_
    have hTe : h2.objs.size ≠ e := Nat.ne_of_gt (Heap.lt_size he2)
    have hsz : s1.heap.get? h2.objs.size = none := by
      cases g : s1.heap.get? h2.objs.size with
      | none => rfl
      | some o =>
        obtain ⟨sl, g2⟩ := hs2.2.2 _ _ g
        exact absurd (Heap.lt_size g2) (Nat.lt_irrefl _)
    refine k1 _ h2.objs.size hsz (Heap.get?_update_self _ he3 (Obj.isFreed_of_fields (Obj.data_mapFields hd _))) ?_ hTe (fun b o hbe hbf g => ?_) (fun b o hbf g => ?_)
    · refine ⟨ob, _, ?_, by rw [← hob], by simp, by rw [← hob]⟩
      rw [Heap.get?_update_other _ _ (Ne.symm hTe)]
      exact Heap.get?_push_size h2 (by rw [← hob]; rfl)
    · rw [Heap.get?_update_other _ _ (Ne.symm hbe)]
      exact Heap.get?_push_of_some _ ((hs2.2.1 b hbf).trans g)
    · obtain ⟨sl, g2⟩ := hs2.2.2 b o g
      have hbe : b ≠ e := fun q => hene (q ▸ hbf)
      exact ⟨sl, by rw [Heap.get?_update_other _ _ (Ne.symm hbe)]; exact Heap.get?_push_of_some _ g2⟩
  unfold noteFrame
  simp only [hf]
  refine wpAny_bind (wpAny_field he hd h1 ?_)
  rcases hhead with rfl | ⟨T, rfl, hTe, oT, ts, hT, hdT, h3, _⟩
  · rw [if_neg (by decide)]
    exact key s _ hl he fun h' T a1 a2 a3 a4 a5 a6 => k h' T a1 a2 a3 a4 (fun b o hb _ hbf g => a5 b o hb hbf g) a6
  · rw [if_pos (show (Value.ref T != Value.none) = true from by simp)]
    refine wpAny_bind (wpAny_field hT hdT h3 ?_)
    rw [if_neg (show ¬ ((Value.none == rawInt L) = true) from by simp [rawInt])]
    refine wpAny_bind (wpAny_setField hT hdT (Array.getElem?_eq_some_iff.mp h3).1 ?_)
    have other : ∀ b, b ≠ T → (s.heap.update T (Obj.mapFields (·.setIfInBounds 3 Value.none))).get? b = s.heap.get? b := fun b hb => Heap.get?_update_other _ _ (Ne.symm hb)
    have noRec : ∀ b o, s.heap.get? b = some o → (∀ vs, o.data ≠ .fields vs) → b ≠ T := fun b o hb hnf q => by
      rw [q, hT] at hb; cases hb; exact hnf ts hdT
    refine key _ _ (hl.of_keeps fun b o hb hnf => ⟨o, (other b (noRec b o hb hnf)).trans hb, rfl⟩) ((other e (Ne.symm hTe)).trans he) fun h' T' a1 a2 a3 a4 a5 a6 => ?_
    have hT' : s.heap.get? T' = none := by
      by_cases q : T' = T
      · subst q
        rw [Heap.get?_update_self _ hT (Obj.isFreed_of_fields (Obj.data_mapFields hdT _))] at a1; cases a1
      · rw [← other T' q]; exact a1
    refine k h' T' hT' a2 a3 a4 (fun b o hb hbT hbf g => a5 b o hb hbf ((other b fun q => hbT (by rw [q])).trans g)) fun b o hbf g => ?_
    obtain ⟨_, o', ho', hnf⟩ := hl.mem hbf
    rw [g] at ho'; cases ho'
    exact a6 b o hbf ((other b (noRec b o g hnf)).trans g)

/-- an entry of the traceback is no more in flight -/
theorem flight_off {e T : Addr} {oe : Obj} {vs : Array Value} {fl : Value} {Q : Unit → Shared → Prop} (he : s.heap.get? e = some oe) (hd : oe.data = .fields vs) (h1 : vs[1]? = some (.ref T)) (hT : TbAt s.heap T fl) (hTe : T ≠ e)
    (k : ∀ h', (∀ b, b ≠ T → h'.get? b = s.heap.get? b) → TbAt h' T .none → Q () { s with heap := h' }) : wpAny M A (setFlight (.ref e) none) Q E s := by
  obtain ⟨oT, ts, hT, hdT, h3, hcT⟩ := hT
  have hs3 := (Array.getElem?_eq_some_iff.mp h3).1
  refine wpAny_setFlight_none he hd h1 hT hdT hs3 (k _ (fun b hb => Heap.get?_update_other _ _ (Ne.symm hb)) ?_)
  exact ⟨_, _, Heap.get?_update_self _ hT (Obj.isFreed_of_fields (Obj.data_mapFields hdT _)), Obj.data_mapFields hdT _, by simp [hs3], by rw [Obj.cls_mapFields]; exact hcT⟩
end
end

-- MCall
section
set_option maxRecDepth 100000
open PySem PySem.W PyProof.Rows

section
variable {C : Cx} {st : Sto}
/-- a call of a def, with the frame that it makes, and with the road of what it raises -/
theorem call_env {name : Str} {params : Arguments} {body : List Stmt} {scope : Scope} {pm code doc : Value} {fa : Addr} {o : Obj} {names : List Str} {ps : List PV} {A : Around} {s : Shared} {al : List Addr} {vs : List Value} {Q E : Value → Shared → Prop}
    (ho : C.h0.get? fa = some o) (hd : o.data = .func (Calls.docDef name params body scope pm code doc)) (hcd : C.h0.CodeRec code name)
    (hbind : ∀ vs : List Value, vs.length = ps.length → bindArgs (Calls.docDef name params body scope pm code doc) ⟨vs, []⟩ = pure (names.zip vs)) (hlen : names.length = ps.length) (hnd : names.Nodup)
    (hkind0 : (names.all fun x => scope.names.lookup x == some .local || scope.names.lookup x == some .cell) = true) (hnn : (scope.names.map (·.1)).Nodup)
    (hco : scope.isCoroutine = false) (hgen : scope.isGenerator = false) (hk : scope.kind = .function)
    (hdep : A.depth < recursionLimit) (am : Amb C A.handled al st s.heap) (rs : Reps al (Live al st) s.heap vs ps)
    (h : ∀ env h1 tk1, EnvOk scope env → Amb C A.handled al st h1 → EnvSt C env al st (argVars names ps) h1 → (∀ b ob, s.heap.get? b = some ob → h1.get? b = some ob) → env.frame = some env.locals → s.heap.get? env.locals = none → (∀ x c, (x, c) ∈ env.cells → s.heap.get? c = none) →
      wpAny C.M (A.deeper env) (execs body env) (fun f s' => Q (match f with | .ret v => v | _ => .none) s') (fun e s' => wpAny C.M (A.deeper env) (leaving env e) (fun _ s'' => E e s'') (fun e' s'' => E e' s'') s') { s with heap := h1, toks := tk1 }) :
    wpAny C.M A (call (.ref fa) vs) Q E s := by
  have hvl := rs.length
  have hcell : ∀ k x, scope.names.lookup x = some .cell → ((cellsFrom k scope.names []).lookup x).isSome = true := fun k x hx => cellsFrom_some _ _ _ (.inl hx)
  have hcell' : ∀ k x c, (cellsFrom k scope.names []).lookup x = some c → scope.names.lookup x = some .cell := fun k x c hc => (cellsFrom_back _ _ _ hnn hc).resolve_right (by simp)
  have hcn : ∀ k, ((cellsFrom k scope.names []).map (·.1)).Nodup := fun k => cellsFrom_nodup _ _ _ hnn (by simp) (by simp)
  have hkind : ∀ k, ∀ x ∈ names, scope.names.lookup x = some .local ∨ (scope.names.lookup x = some .cell ∧ ((cellsFrom k scope.names []).lookup x).isSome = true) := fun k x hx => by
    have := List.all_eq_true.mp hkind0 x hx
    rcases Bool.or_eq_true_iff.mp this with q | q
    · exact .inl (beq_iff_eq.mp q)
    · exact .inr ⟨beq_iff_eq.mp q, hcell k x (beq_iff_eq.mp q)⟩
  refine wpAny_call (codeAny_call_cells (fd := Calls.docDef name params body scope pm code doc) (vals := vs) (binds := names.zip vs) hdep (am.base _ _ ho) hd (C.lim.keeps am.base) (hcd.keeps am.base) rfl (hbind vs hvl) rfl
    (fun x hx => hkind _ x.1 (List.of_mem_zip hx).1) (fun s1 X => ?_) hco hgen hk)
  obtain ⟨h1, tk1, rfl, hk1⟩ := X.done
  generalize hE : callEnvC (Calls.docDef name params body scope pm code doc) s.heap.objs.size fa = env at X ⊢
  have hEs : env.scope = scope := by rw [← hE]; rfl
  have hEl : env.locals = s.heap.objs.size := by rw [← hE]; rfl
  have hEf : env.frame = some env.locals := by rw [← hE]; rfl
  have hEc : env.cells = cellsFrom (s.heap.objs.size + 1) scope.names [] := by rw [← hE]; rfl
  have ok : EnvOk scope env := ⟨hEs, by rw [← hE]; rfl, by rw [← hE]; rfl, hk, fun x hx => by rw [hEc]; exact hcell _ x hx, fun x c hc => hcell' _ x c (by rw [← hEc]; exact hc)⟩
  have am1 : Amb C A.handled al st h1 := am.grow hk1
  have kp : Kept al st al st s.heap h1 := .grow hk1
  have nz : (names.zip vs).map (·.1) = names := by rw [List.map_fst_zip]; omega
  have hge : ∀ b, s.heap.objs.size ≤ b → s.heap.get? b = none := fun b hb => by
    cases g : s.heap.get? b with
    | none => rfl
    | some ob => exact absurd (Heap.lt_size g) (Nat.not_lt.mpr hb)
  have hnew : ∀ b, s.heap.objs.size ≤ b → C.h0.get? b = none := fun b hb => by
    cases g : C.h0.get? b with
    | none => rfl
    | some ob => exact absurd (Heap.lt_size (am.base _ _ g)) (Nat.not_lt.mpr hb)
  have hab : ∀ x c, (x, c) ∈ env.cells → s.heap.objs.size ≤ c := fun x c hc => by have := X.above x c hc; rw [hEl] at this; exact Nat.le_of_lt this
  have e1 : EnvSt C env al st (argVars names ps) h1 := by
    refine ⟨⟨_, X.toInCall.ns, fun x p hx hp => ?_⟩, fun x c hc => ⟨_, X.cell x c hc, fun p hp => ?_⟩, X.apart, fun x c hc => ?_, hnew _ (by rw [hEl]; exact Nat.le_refl _), fun x c hc => hnew _ (hab x c hc)⟩
    · obtain ⟨v, hv, r⟩ := lookup_zip_rep rs hp
      exact ⟨v, by rw [bindL_lookup hx _ _ (by rw [nz]; exact hnd), hv]; rfl, kp.rep r⟩
    · obtain ⟨v, hv, r⟩ := lookup_zip_rep rs hp
      have hxk : env.kindOf x ≠ some .local := by
        unfold Env.kindOf; rw [hEs, hcell' _ x c (by rw [← hEc]; exact hc)]; simp
      exact ⟨v, by rw [bindC_lookup hxk _ _ (by rw [nz]; exact hnd), hv]; rfl, kp.rep r⟩
    · exact ⟨_, X.cell x c (lookup_of_mem_nodup (by rw [hEc]; exact hcn _) hc)⟩
  exact h env h1 tk1 ok am1 e1 hk1 hEf (by rw [hEl]; exact hge _ (Nat.le_refl _)) (fun x c hc => hge _ (hab x c hc))
end
end

-- MDisc
section
set_option maxRecDepth 100000
open PySem PySem.W PyProof.Rows


section
variable {C : Cx} {st : Sto}

/-- an exception of the text's own class, with one entry of its traceback noted -/
noncomputable abbrev excNoted (Cl dA t1 T : Addr) : Obj := { cls := .ref Cl, dict := some dA, data := .fields #[.ref t1, .ref T, .none, .none, .bool false, .none] }
inductive FlyingO (Cl e : Addr) (h h' : Heap) (fl : Value) : Prop
  | mk (mA : Str → Option Value) (dA t1 T : Addr) (hk : ∃ u, mA "kind" = some (.str "domain" u)) (hI : h'.Inst e Cl mA) (he : h'.get? e = some (excNoted Cl dA t1 T)) (hTe : T ≠ e) (hT : TbAt h' T fl) (hTn : h.get? T = none) (hd : h.get? dA = none)
structure Flying (C : Cx) (Cl e : Addr) (h h' : Heap) (fl : Value) : Prop where
  new : h.get? e = none
  obj : FlyingO Cl e h h' fl
/-- an object of a class goes on where its object stands anew and its dict stays -/
theorem inst_on {h h' : Heap} {ex Cl dA : Addr} {mA : Str → Option Value} {o o' : Obj} (hI : h.Inst ex Cl mA) (g : h.get? ex = some o) (hd : o.dict = some dA) (g' : h'.get? ex = some o') (hc : o'.cls = .ref Cl) (hd' : o'.dict = some dA) (hn : ∀ c, o'.data ≠ .cls c)
    (k : ∀ oD es ep, h.get? dA = some oD → oD.data = .dict es ep → h'.get? dA = some oD) : h'.Inst ex Cl mA := by
  obtain ⟨o0, g0, c0, n0, hdd⟩ := hI
  rw [g] at g0; cases g0
  rcases hdd with ⟨q, _⟩ | ⟨d, q, hne, oD, es, ep, g1, gd, r⟩
  · rw [hd] at q; cases q
  · rw [hd] at q; cases q
    exact ⟨o', g', hc, hn, .inr ⟨dA, hd', hne, oD, es, ep, k oD es ep g1 gd, gd, r⟩⟩
theorem EX.useN {sc : Scope} {n : Nat} {rho : Vars} {t : Stmt} {P : Vars → Prop} (j : EX C n sc t rho st fun f rho' st' => f = .next ∧ P rho' ∧ st' = st) {A : Around} {env : Env} {s : Shared} {al : List Addr} {hd : Option Value} {K : Flow → Shared → Prop} {E : Value → Shared → Prop}
    (hA : A.handled = hd) (r : Room n A) (o : EnvOk sc env) (a : Amb C hd al st s.heap) (x : EnvSt C env al st rho s.heap)
    (k : ∀ h' tk al' rho', KeptS env al st al' st s.heap h' → Amb C hd al' st h' → EnvSt C env al' st rho' h' → P rho' → K .next { s with heap := h', toks := tk }) : wpAny C.M A (exec t env) K E s := by
  subst hA
  refine JS.use j r o a x fun f h' tk al' st' rho' g k1 a1 e1 r1 q1 => ?_
  obtain ⟨rfl, hP, rfl⟩ := q1
  cases r1
  exact k h' tk al' rho' k1 a1 e1 hP
theorem TV.useT {sc : Scope} {n : Nat} {rho : Vars} {t : Expr} (j : TV C n sc t rho st fun b st' => b = true ∧ st' = st) {A : Around} {env : Env} {s : Shared} {al : List Addr} {hd : Option Value} {K : Bool → Shared → Prop} {E : Value → Shared → Prop}
    (hA : A.handled = hd) (r : Room n A) (o : EnvOk sc env) (a : Amb C hd al st s.heap) (x : EnvSt C env al st rho s.heap)
    (k : ∀ h' tk al', Kept al st al' st s.heap h' → Amb C hd al' st h' → EnvSt C env al' st rho h' → K true { s with heap := h', toks := tk }) : wpAny C.M A (isTrue t env (eval t env)) K E s :=
  JE.useS j hA r o a x fun b h' tk al' k1 a1 e1 r1 => by cases r1; exact k h' tk al' k1 a1 e1

noncomputable def frs (outer : List Env) : List Addr := outer.filterMap (·.frame)

theorem frames_keep {h h' base : Heap} : ∀ {l : List Env}, (∀ b ∈ frs l, ∀ o, h.get? b = some o → ∃ o', h'.get? b = some o' ∧ o'.data = o.data) → h.FunFrames base l → h'.FunFrames base l
  | [], _, _ => trivial
  | env :: r, k, hl => by
    obtain ⟨hk, ⟨L, o, hf, hn, ho, hd⟩, hr⟩ := hl
    have hm : frs (env :: r) = L :: frs r := by unfold frs; rw [List.filterMap_cons, hf]
    obtain ⟨o', g, e⟩ := k L (by rw [hm]; exact .head _) o ho
    exact ⟨hk, ⟨L, o', hf, hn, g, fun vs q => hd vs (e ▸ q)⟩, frames_keep (fun b hb => k b (by rw [hm]; exact .tail _ hb)) hr⟩

theorem disc_raise (hF : Fns C) {Cl N fI : Addr} {mN : Str → Option Value} (X : ExcF C Cl N fI mN) {A : Around} {s : Shared} {al : List Addr} {vs : List Value} {outer : List Env} {base : Heap} {one : Int} {fa : Addr} {Q E : Value → Shared → Prop}
    (rm : Room 30 A) (hA : A.handled = none) (hfr : A.frames = some outer) (hl : s.heap.FunFrames base outer) (hns : ∀ b ∈ frs outer, ∃ m, s.heap.Ns b m) (hbase : ∀ b o, base.get? b = some o → s.heap.get? b = some o) (hf : C.mg (fnName 25) = some (.ref fa)) (a : Amb C none al st s.heap) (rs : Reps al (Live al st) s.heap vs [.list (pis [one])])
    (hE : ∀ e h' tk al', (∀ (k : Nat) (x : Addr), al[k]? = some x → al'[k]? = some x) → (∀ b o, b ∉ frs outer → s.heap.get? b = some o → ¬ Live al st b → h'.get? b = some o ∧ ¬ Live al' st b) →
      (∀ b o, b ∈ frs outer → s.heap.get? b = some o → ∃ sl, h'.get? b = some { o with slots := sl }) → Flying C Cl e s.heap h' .none → E (.ref e) { s with heap := h', toks := tk }) :
    wpAny C.M A (call (.ref fa) vs) Q E s := by
  obtain ⟨fa', o, pm, code, doc, hf', ho, hd, hcd⟩ := hF.f25
  obtain rfl : fa' = fa := by rw [hf] at hf'; cases hf'; rfl
  refine call_env (al := al) (st := st) (names := ["f"]) (ps := [.list (pis [one])]) ho hd hcd (all_len1 fun _ => rfl) rfl (by decide) (by decide) (by decide) rfl rfl rfl (by have := rm.depth; lia) (by rw [hA]; exact a) rs fun env h1 tk1 ok a1 e1 k1 hfe hnl hnc => ?_
  have hAd : (A.deeper env).handled = none := hA
  have rm1 : Room 29 (A.deeper env) := rm.deeper
  have a1 := hA ▸ a1
  have s1 : EX C 27 (fnScope 25) ((fnBody 25).getD 0 (.Pass ⟨0, 0, 0, 0⟩)) (argVars ["f"] [.list (pis [one])]) st fun f rho st' => f = .next ∧ rho "many" = some (.int 0) ∧ st' = st := by
    show EX C 27 (fnScope 25) _ _ _ _
    refine EX_assign ?_ (by walk_at "m kind") (by walk_at "m env")
    repeat walk_at "m ev0"
    refine zdegree_ok hF [one] (by simp) _ ?_
    exact ⟨rfl, upd_same, rfl⟩
  refine wpAny_execs_cons (EX.useN s1 (s := { s with heap := h1, toks := tk1 }) hAd (rm1.mono (by decide)) ok a1 e1 fun h2 tk2 al2 rho2 k2 a2 e2 hm => ?_)
  refine wpAny_execs_cons (wpAny_If ?_)
  have tv : ∀ p1 p2 p3, TV C 27 (fnScope 25) (.Compare (.Name "many" p1) [.Lt] [.Constant (.int 1) 0 p2] p3) rho2 st fun b st' => b = true ∧ st' = st := fun p1 p2 p3 => by
    repeat walk_at "m ev0"
    exact ⟨rfl, rfl⟩
  refine TV.useT (tv _ _ _) (s := { s with heap := h2, toks := tk2 }) hAd (rm1.mono (by decide)) ok a2 e2 fun h3 tk3 al3 k3 a3 e3 => ?_
  rw [if_pos rfl]
  refine wpAny_execs_cons (raise_stmt X (s := { s with heap := h3, toks := tk3 }) (rm1.mono (by decide)) ok hAd a3 e3 rfl (by decide) fun ex h4 tk4 al4 k4 a4 e4 th => ?_)
  -- the frame is left
  have hfrD : (A.deeper env).frames = some (env :: outer) := Around.frames_deeper hfr
  have kk : KeptS env al st al4 st s.heap h4 := ((KeptS.trans (Kept.grow k1).toS k2).trans k3.toS).trans k4.toS
  have notF : ∀ b, b ∈ frs outer → b ≠ env.locals ∧ (∀ x, (x, b) ∉ env.cells) ∧ ¬ Live al st b ∧ ∃ o, s.heap.get? b = some o ∧ ∀ vs, o.data ≠ .fields vs := fun b hb => by
    obtain ⟨_, o, g, hnf⟩ := hl.mem hb
    refine ⟨get_ne hnl g, fun x hx => get_ne (hnc x b hx) g rfl, fun lv => ?_, o, g, hnf⟩
    obtain ⟨its, m, ii⟩ := a.muts.live lv
    obtain ⟨_, _, _, _, g1, g2, _⟩ := hns b hb
    unfold IsL at ii; rw [ii] at g1; cases g1; cases g2
  have hl4 : h4.FunFrames base (env :: outer) := by
    obtain ⟨m4, n4, _⟩ := e4.locs
    refine Heap.FunFrames.cons (by rw [ok.scope, ok.fn]; nofun) hfe n4 ?_ (frames_keep (fun b hb o g => ?_) hl)
    · exact none_of_grow hbase hnl
    · obtain ⟨n1, n2, n3, _⟩ := notF b hb
      exact ⟨o, (kk.keep b o g n3 n1 n2).1, rfl⟩
  obtain ⟨mA, dA, t1, hkd, hdA, hI, he4⟩ := th.obj
  unfold leaving
  refine wpAny_bind (note_it (s := { s with heap := h4, toks := tk4 }) hfrD hl4 hfe he4 rfl rfl (.inl rfl) fun h5 T hT0 he5 hT5 hTe k5 s5 => ?_)
  refine flight_off (s := { s with heap := h5, toks := tk4 }) he5 rfl rfl hT5 hTe fun h6 k6 hT6 => ?_
  have kk3 : KeptS env al st al3 st s.heap h3 := (KeptS.trans (Kept.grow k1).toS k2).trans k3.toS
  have back : ∀ {h' : Heap} {al' : List Addr}, KeptS env al st al' st s.heap h' → Amb C none al' st h' → ∀ b, h'.get? b = none → s.heap.get? b = none := fun {h' al'} kk a' b hb => by
    cases g : s.heap.get? b with
    | none => rfl
    | some ob =>
      by_cases lv : Live al st b
      · obtain ⟨i, l, _, e2'⟩ := lv
        obtain ⟨_, o', g', _⟩ := a'.muts.fresh _ (List.mem_of_getElem? (kk.addr _ _ e2'))
        rw [hb] at g'; cases g'
      · exact nomatch hb.symm.trans (kk.keep b ob g lv (get_ne hnl g) (fun x hx => get_ne (hnc x b hx) g rfl)).1
  have hfm : (env :: outer).filterMap (·.frame) = env.locals :: frs outer := by rw [List.filterMap_cons, hfe]; rfl
  rw [hfm] at k5 s5
  have hexn := back kk3 a3 _ th.new
  have hexf : ex ∉ frs outer := fun hm => by obtain ⟨_, _, _, o, g, _⟩ := notF ex hm; rw [hexn] at g; cases g
  have hdAf : dA ∉ env.locals :: frs outer := fun hm => by
    rcases List.mem_cons.mp hm with q | hm
    · obtain ⟨m3, ⟨_, _, _, g1, _⟩, _⟩ := e3.locs
      rw [q] at hdA
      exact absurd (hdA.symm.trans g1) nofun
    · obtain ⟨n1, n2, n3, o, g, _⟩ := notF dA hm
      have := (kk3.keep dA o g n3 n1 n2).1
      exact absurd (hdA.symm.trans this) nofun
  have he6 : h6.get? ex = some { cls := .ref Cl, dict := some dA, data := .fields #[.ref t1, .ref T, .none, .none, .bool false, .none] } := by
    rw [k6 ex (Ne.symm hTe), he5]; rfl
  have hI6 : h6.Inst ex Cl mA := inst_on hI he4 rfl he6 rfl rfl nofun fun oD es ep g1 gd =>
    (k6 dA (get_ne hT0 g1)).trans (k5 dA oD (fun q => by rw [q, he4] at g1; cases g1; cases gd) nofun hdAf g1)
  refine hE ex h6 tk4 al4 kk.addr (fun b o hbf g nl => ?_) (fun b o hbf g => ?_) ⟨hexn, mA, dA, t1, T, hkd, hI6, he6, hTe, hT6, ?_, back kk3 a3 _ hdA⟩
  · have hne : b ≠ env.locals := get_ne hnl g
    have q := kk.keep b o g nl hne (fun x hx => get_ne (hnc x b hx) g rfl)
    refine ⟨?_, q.2⟩
    rw [k6 b (get_ne hT0 q.1)]
    exact k5 b o (get_ne hexn g) nofun (fun hm => (List.mem_cons.mp hm).elim hne hbf) q.1
  · obtain ⟨n1, n2, n3, _⟩ := notF b hbf
    have q := (kk.keep b o g n3 n1 n2).1
    obtain ⟨sl, g5⟩ := s5 b o (.tail _ hbf) q
    exact ⟨sl, by rw [k6 b (get_ne hT0 q)]; exact g5⟩
  · exact back kk a4 _ hT0
end
end

-- MTry
section
set_option maxRecDepth 100000
open PySem PySem.W PyProof.Rows


section
variable {C : Cx} {st : Sto} {rho : Vars}

/-- the same world while something is being handled -/
noncomputable def Cx.held (C : Cx) : Cx := { C with calm := false }
theorem HasFn.held {C : Cx} {i : Nat} (h : HasFn C i) : HasFn C.held i := h.rec fun fa o pm code doc hf ho hd hcd => ⟨fa, o, pm, code, doc, hf, ho, hd, hcd⟩
theorem held_fns {C : Cx} (hF : Fns C) : Fns C.held := ⟨hF.f3.held, hF.f4.held, hF.f6.held, hF.f7.held, hF.f8.held, hF.f9.held, hF.f10.held, hF.f11.held, hF.f12.held, hF.f13.held, hF.f14.held, hF.f15.held, hF.f16.held, hF.f18.held, hF.f19.held, hF.f21.held, hF.f22.held, hF.f23.held, hF.f24.held, hF.f25.held, hF.f27.held, hF.f29.held, hF.f30.held, hF.f31.held, hF.f33.held, hF.f34.held, hF.f35.held, hF.f36.held, hF.f37.held, hF.abs, hF.len, hF.max, hF.list, hF.range, hF.enum⟩
theorem held_amb {al : List Addr} {h : Heap} {ex : Addr} {o : Obj} {vs : Array Value} {c : Addr} (a : Amb C none al st h) (g : h.get? ex = some o) (hd : o.data = .fields vs) (h2 : vs[2]? = some .none) (hc : o.cls = .ref c) : Amb C.held (some (.ref ex)) al st h :=
  ⟨a.base, .inr ⟨rfl, ex, o, vs, rfl, g, hd, h2, c, hc⟩, ⟨a.muts.len, a.muts.nodup, a.muts.fresh, a.muts.is⟩⟩
theorem held_env {env : Env} {al : List Addr} {h : Heap} (e : EnvSt C env al st rho h) : EnvSt C.held env al st rho h := ⟨e.locs, e.cells, e.apart, e.isCells, e.newL, e.newC⟩

/-- things of no frame, no list have changed, and the frame's slots; no mutable list is about -/
theorem but_F {env : Env} {h h' : Heap} {P : Addr → Prop} (a : Amb C none [] [] h) (e : EnvSt C env [] [] rho h) (hP : ∀ b, P b → C.h0.get? b = none ∧ (∀ o, h.get? b = some o → ¬ RepObj o) ∧ b ≠ env.locals ∧ ∀ x, (x, b) ∉ env.cells)
    (k : ∀ b o, ¬ P b → b ≠ env.locals → h.get? b = some o → h'.get? b = some o) (s : ∀ o, h.get? env.locals = some o → ∃ sl, h'.get? env.locals = some { o with slots := sl }) : Amb C none [] [] h' ∧ EnvSt C env [] [] rho h' := by
  obtain ⟨mL, ⟨oL, es, ep, gL, dL, cL⟩, lL⟩ := e.locs
  have nb : ∀ {b : Addr} {o : Obj}, h.get? b = some o → RepObj o → h'.get? b = some o := fun {b o} g r => k b o (fun p => (hP b p).2.1 o g r) (fun q => by
    rw [q, gL] at g; cases g; exact r.notVar.1 _ _ dL) g
  have rp : ∀ v p, Rep [] (Live [] []) h v p → Rep [] (Live [] []) h' v p := fun v p r => Rep.mono (fun b o g ro nl => ⟨nb g ro, nl⟩) (fun _ _ q => q) r
  have cl : ∀ x c o, (x, c) ∈ env.cells → h.get? c = some o → (∃ v, o.data = .cell v) → h'.get? c = some o := fun x c o hx g ⟨v, hv⟩ => k c o (fun p => (hP c p).2.2.2 x hx) (fun q => by
    rw [q, gL] at g; cases g; rw [dL] at hv; cases hv) g
  refine ⟨⟨fun b o g => k b o (fun p => by rw [(hP b p).1] at g; cases g) (fun q => by rw [q, e.newL] at g; cases g) (a.base b o g), .inl rfl, ⟨rfl, List.nodup_nil, fun x hx => (nomatch hx), fun i l q => by simp at q⟩⟩, ⟨?_, fun x c hx => ?_, e.apart, fun x c hx => ?_, e.newL, e.newC⟩⟩
  · obtain ⟨sl, g⟩ := s oL gL
    exact ⟨mL, ⟨_, es, ep, g, dL, cL⟩, fun x p hx hp => let ⟨v, hv, r⟩ := lL x p hx hp; ⟨v, hv, rp _ _ r⟩⟩
  · obtain ⟨ov, ⟨ob, g1, g2⟩, l⟩ := e.cells x c hx
    exact ⟨ov, ⟨ob, cl x c ob (mem_of_lookup hx) g1 ⟨_, g2⟩, g2⟩, fun p hp => let ⟨v, hv, r⟩ := l p hp; ⟨v, hv, rp _ _ r⟩⟩
  · obtain ⟨ov, ob, g1, g2⟩ := e.isCells x c hx
    exact ⟨ov, ob, cl x c ob hx g1 ⟨_, g2⟩, g2⟩

noncomputable def tryStmt38 : Stmt := (fnBody 38).getD 12 (.Pass ⟨0, 0, 0, 0⟩)

theorem tb_notRep {h : Heap} {T : Addr} {fl : Value} (hT : TbAt h T fl) : ∀ o, h.get? T = some o → ¬ RepObj o := by
  obtain ⟨oT, tsT, gT, dT, fT, cT⟩ := hT
  exact exc_notRep gT cT dT (by simp)
theorem tb_notDict {h : Heap} {T : Addr} {fl : Value} {o : Obj} {es : Array DictEntry} {ep : Nat} (hT : TbAt h T fl) (g : h.get? T = some o) (gd : o.data = .dict es ep) : False := by
  obtain ⟨oT, tsT, gT, dT, fT, cT⟩ := hT
  rw [gT] at g; cases g; rw [dT] at gd; cases gd
theorem inst_dict {h : Heap} {ex Cl dA : Addr} {mA : Str → Option Value} {o : Obj} (hI : h.Inst ex Cl mA) (g : h.get? ex = some o) (hd : o.dict = some dA) : ∃ oD, h.get? dA = some oD := by
  obtain ⟨o0, g0, c0, n0, hdd⟩ := hI
  rw [g] at g0; cases g0
  rcases hdd with ⟨q, _⟩ | ⟨d, q, hne, oD, es, ep, g1, gd, r⟩
  · rw [hd] at q; cases q
  · rw [hd] at q; cases q
    exact ⟨oD, g1⟩
theorem cmp_same {m : Nat} {A : Around} {s : Shared} {x : Str} {u w : Tok} {K : Value → Shared → Prop} {E : Value → Shared → Prop} (rm : Room m A) (hm : 8 ≤ m) (k : ∀ tk, K (.bool true) { s with toks := tk }) :
    wpAny C.M A (compareOp .Eq (.str x u) (.str x w)) K E s :=
  wpAny_mono (cmp_ok (C := C) (st := []) (al := []) (R := fun b => b = true) rm hm (.str x u) (.str x w) (.eqs (by simp))) (fun v s' hh => by
    obtain ⟨tk, b, rfl, rfl, rfl⟩ := hh
    exact k tk) fun _ _ f => f.elim
theorem EV.use1b {n : Nat} {sc : Scope} {t : Expr} {b : Bool} (j : EV C n sc t rho [] fun g st' => g = .bool b ∧ st' = []) {A : Around} {env : Env} {s : Shared} {hd : Option Value} {K : Value → Shared → Prop} {E : Value → Shared → Prop}
    (hA : A.handled = hd) (r : Room n A) (o : EnvOk sc env) (a : Amb C hd [] [] s.heap) (x : EnvSt C env [] [] rho s.heap)
    (k : ∀ h' tk, Amb C hd [] [] h' → EnvSt C env [] [] rho h' → K (.bool b) { s with heap := h', toks := tk }) : wpAny C.M A (eval t env) K E s :=
  JE.use1 j hA r o a x fun v h' tk k1 a1 e1 r1 => by cases r1.boolOf; exact k h' tk a1 e1
theorem frs_one {env : Env} {L : Addr} (h : env.frame = some L) : frs [env] = [L] := by unfold frs; rw [List.filterMap_cons, h]; rfl

theorem law_try (hF : Fns C) (hlen : True) {Cl N fI : Addr} {mN : Str → Option Value} (X : ExcF C Cl N fI mN) {A : Around} {env : Env} {s : Shared} {one : Int} {ys : List (Int × Int)} {g : List Int} {Q : Flow → Shared → Prop} {E : Value → Shared → Prop}
    (rm : Room 35 A) (hA : A.handled = none) (hfr : A.frames = some [env]) (hfe : env.frame = some env.locals) (ok : EnvOk (fnScope 38) env) (a : Amb C none [] [] s.heap) (e : EnvSt C env [] [] rho s.heap)
    (e1 : rho "one" = some (.int one)) (e2 : rho "others" = some (.list (pts ys))) (e3 : rho "g" = some (.list (pis g))) (hy : ys.length ≤ 3) (ho2 : one.natAbs ≤ 2 ^ 2) (hr : ResIs [one] g (one ^ ys.length))
    (hQ : ∀ h' tk, (∀ b o, C.h0.get? b = some o → h'.get? b = some o) → Q (.ret (.bool true)) { s with heap := h', toks := tk }) :
    wpAny C.M A (exec tryStmt38 env) Q E s := by
  obtain ⟨fa, od, pm, code, doc, hf, ho, hd, hcd⟩ := hF.f25
  obtain ⟨nm, q, bs, sn, sub, ab, col, dd, k0, k1', k2', k3', k5', hC⟩ := X.cls
  have hbody : EVs C 30 (fnScope 38) (some ⟨180, 8, 180, 27⟩) [.List [.Name "one" ⟨180, 22, 180, 25⟩] ⟨180, 21, 180, 26⟩] rho [] fun ps st' => ps = [.list (pis [one])] ∧ st' = [] := by
    refine EVs_cons (EV_list ?_) (fun _ => rfl)
    repeat walk_at "m ev0"
    exact ⟨rfl, rfl⟩
  have hfrs : frs [env] = [env.locals] := frs_one hfe
  have evc : ∀ ex p, EV C.held 30 (fnScope 38) (.Name "caught" p) (upd rho "caught" (.obj ex)) [] fun p st' => p = .obj ex ∧ st' = [] := fun ex p => by
    repeat walk_at "m ev0"
    exact ⟨rfl, rfl⟩
  have evs : ∀ ex k p, EV C.held 30 (fnScope 38) (.Constant (.str "domain") k p) (upd rho "caught" (.obj ex)) [] fun p st' => p = .str "domain" ∧ st' = [] := fun ex k p => EV_str ⟨rfl, rfl⟩
  have ev2 : ∀ ex p1 p2 p3 p4 p5 p6 p7 p8 p9 p10 p11, EV C.held 34 (fnScope 38) (.Compare (.Call (.Name "resultant" p1) [.List [.Name "one" p2] p3, .Name "g" p4] [] p5) [.Eq] [.BinOp (.Name "one" p6) .Pow (.Call (.Name "len" p7) [.Name "others" p8] [] p9) p10] p11) (upd rho "caught" (.obj ex)) []
      fun p st' => p = .bool true ∧ st' = [] := fun ex p1 p2 p3 p4 p5 p6 p7 p8 p9 p10 p11 => by
    have hF' := held_fns hF
    repeat walk_at "m ev0"
    refine EV_list ?_
    repeat walk_at "m ev0"
    refine resultant_is hF' (a := [one]) hr (fun h2 => absurd h2 (by simp)) _ ?_
    repeat walk_at "m ev0"
    refine BJ_len ?_ (by rw [pts_len]; lia)
    rw [pts_len]
    repeat walk_at "m ev0"
    refine bo_pow (by lia) (by lia) (bd_fits ho2 (by decide)) ?_
    rw [Int.toNat_natCast]
    repeat walk_at "m ev0"
    exact ⟨by simp, rfl⟩
  refine wpAny_Try_except ?_
  refine wpAny_execs_cons (wpAny_Expr_any ?_ (by unfold interactive; rw [ok.scope, ok.fn]; rfl) (by rfl))
  rw [eval_Call_Name]
  refine wpAny_bind (name_global ok (by rw [hA]; exact a) rfl (.inl hf) (by decide) ?_)
  refine Calls.callWith_function (o := od) (fd := Calls.docDef (fnName 25) (fnParams 25) (fnBody 25) (fnScope 25) pm code doc) (spliced_args rfl (JE.use1 hbody hA (rm.mono (by decide)) ok a e fun vs h1 tk1 k1 a1 e1' r1 => ⟨⟨a1.base _ _ ho, hd⟩, ?_⟩))
  refine disc_raise hF X (s := { s with heap := h1, toks := tk1 }) (outer := [env]) (base := { objs := #[], life := default }) (rm.mono (by decide)) hA hfr (Heap.FunFrames.cons (by rw [ok.scope, ok.fn]; nofun) hfe e1'.locs.choose_spec.1 (by simp [Heap.get?]) trivial)
    (fun b hb => by rw [hfrs] at hb; rw [List.mem_singleton.mp hb]; exact ⟨_, e1'.locs.choose_spec.1⟩) (fun b o q => by simp [Heap.get?] at q) hf a1 r1 fun ex h2 tk2 al2 ad2 k2 s2 fl => ?_
  rw [hfrs] at k2 s2
  obtain ⟨mA, dA, t1, T, hkd, hI, hex, hTe, hT, hTn, hdAn⟩ := fl.obj
  have ae2 := but_F (P := fun _ => False) a1 e1' (fun b f => f.elim) (fun b o _ hb g => (k2 b o (by simpa using hb) g not_live0).1) (fun o g => s2 _ o (by simp) g)
  have nex := notFrame e1' fl.new
  have nT := notFrame e1' hTn
  have ndA := notFrame e1' hdAn
  -- the law's own frame is noted
  have hP2 : ∀ b, (b = ex ∨ b = T) → C.h0.get? b = none ∧ (∀ o, h2.get? b = some o → ¬ RepObj o) ∧ b ≠ env.locals ∧ ∀ x, (x, b) ∉ env.cells := fun b hb => hb.elim
    (fun q => q ▸ ⟨none_of_grow a1.base fl.new, exc_notRep hex rfl rfl nofun, nex⟩) (fun q => q ▸ ⟨none_of_grow a1.base hTn, tb_notRep hT, nT⟩)
  refine note_it (s := { s with heap := h2, toks := tk2 }) (base := { objs := #[], life := default }) hfr (Heap.FunFrames.cons (by rw [ok.scope, ok.fn]; nofun) hfe ae2.2.locs.choose_spec.1 (by simp [Heap.get?]) trivial) hfe hex rfl rfl (.inr ⟨T, rfl, hTe, hT⟩) fun h3 T2 hT2 hex3 hTb3 hT2e k3 s3 => ?_
  rw [show [env].filterMap (·.frame) = [env.locals] from hfrs] at k3 s3
  refine flight_off (s := { s with heap := h3, toks := tk2 }) hex3 rfl rfl hTb3 hT2e fun h4 k4 hTb4 => ?_
  have hex4 : h4.get? ex = some (excNoted Cl dA t1 T2) := (k4 ex (Ne.symm hT2e)).trans hex3
  have k24 : ∀ b o, ¬ (b = ex ∨ b = T) → b ≠ env.locals → h2.get? b = some o → h4.get? b = some o := fun b o hb hL g =>
    (k4 b (get_ne hT2 g)).trans (k3 b o (fun q => hb (.inl q)) (fun q => hb (.inr (by cases q; rfl))) (by simpa using hL) g)
  have ae4 := but_F ae2.1 ae2.2 hP2 k24 (fun o g => let ⟨sl, g3⟩ := s3 _ o (by simp) g; ⟨sl, (k4 env.locals (get_ne hT2 g)).trans g3⟩)
  have hI4 : h4.Inst ex Cl mA := inst_on hI hex rfl hex4 rfl rfl nofun fun oD es ep g1 gd =>
    k24 dA oD (fun q => q.elim (fun q => by rw [q, hex] at g1; cases g1; cases gd) (fun q => tb_notDict hT (q ▸ g1) gd)) ndA.1 g1
  have aH : Amb C.held (some (.ref ex)) [] [] h4 := held_amb ae4.1 hex4 rfl rfl rfl
  refine wpAny_handleBy_cons (codeAny_handlers_test ?_) (by intro q; cases q)
  refine name_global (C := C.held) (s := { s with heap := h4, toks := tk2 }) ok aH rfl (.inl X.bound) (by decide) ?_
  refine wpAny_excMatches_sub_self (ae4.1.base _ _ hC) hex4 rfl (by decide) ?_
  show codeAny C.M (A.mark (some (Value.ref ex))) (.handlers _ [.ExceptHandler none (some "caught") (_ :: _) _] env) _ _
  refine codeAny_handlers_suite_as ?_
  refine flight_off (s := { s with heap := h4, toks := tk2 }) hex4 rfl rfl hTb4 hT2e fun h5 k5 hTb5 => ?_
  have ae5 := but_S (P := fun b => b = T2) ae4.1 ae4.2 (fun b hb => hb ▸ ⟨none_of_grow ae2.1.base hT2, tb_notRep hTb4, notFrame ae2.2 hT2⟩) (fun b o hb g => (k5 b hb).trans g)
  have hex5 : h5.get? ex = some (excNoted Cl dA t1 T2) := (k5 ex (Ne.symm hT2e)).trans hex4
  have hdT2 : dA ≠ T2 := get_ne hT2 (inst_dict hI hex rfl).choose_spec
  have a5H : Amb C.held (some (.ref ex)) [] [] h5 := held_amb ae5.1 hex5 rfl rfl rfl
  refine store_ok (C := C.held) (s := { s with heap := h5, toks := tk2 }) ok a5H (held_env ae5.2) (.obj ex) (.inl rfl) fun h6 tk6 k6 a6 e6 => ?_
  have rmH : Room 34 (A.mark (some (.ref ex))) := ⟨by have := rm.depth; show A.depth + 34 < _; lia, by have := rm.units; show A.units + 10 * 34 < _; lia⟩
  have hex6 : h6.get? ex = some (excNoted Cl dA t1 T2) := (k6.keep ex _ hex5 not_live0 nex.1 nex.2).1
  have hI6 : h6.Inst ex Cl mA := inst_on hI4 hex4 rfl hex6 rfl rfl nofun fun oD es ep g1 gd => (k6.keep dA oD ((k5 dA hdT2).trans g1) not_live0 ndA.1 ndA.2).1
  refine wpAny_execs_cons (wpAny_Return_some ?_)
  refine BoolOp_and ?_
  refine wpAny_Compare1 ?_ (by rfl)
  rw [arm_eval_Attribute]
  refine wpAny_bind ?_
  refine EV.use1o (evc ex _) (s := { s with heap := h6, toks := tk6 }) rfl (rmH.mono (by decide)) ok a6 e6 fun h7 tk7 k7 a7 e7 => ?_
  have hI7 : h7.Inst ex Cl mA := inst_on hI6 hex6 rfl (k7 _ _ hex6) rfl rfl nofun fun oD es ep g1 gd => k7 _ _ g1
  refine wpAny_bind (wpAny_standAt (wpAny_bind (wpAny_holding ?_)))
  refine kind_attr F.attrBase_Exception (a7.base _ _ hC) (X.ns.keeps a7.base) (X.quiet _ (by decide)) (X.quiet _ (by decide)) (X.quiet _ (by decide)) hI7 hkd.choose_spec (by rfl) ?_
  refine wpAny_bind (wpAny_pure (wpAny_pure ?_))
  refine EV.use1s (evs ex _ _) (s := { s with heap := h7, toks := _ }) rfl (rmH.mono (by decide)) ok a7 e7 fun u8 h8 tk8 k8 a8 e8 => ?_
  refine cmp_same (C := C.held) (s := { s with heap := h8, toks := tk8 }) rmH (by decide) fun tk9 => ?_
  refine wpAny_truthy_bool ?_
  rw [if_pos rfl]
  refine BoolOp_one ?_
  refine EV.use1b (ev2 ex _ _ _ _ _ _ _ _ _ _ _) (s := { s with heap := h8, toks := tk9 }) rfl rmH ok a8 e8 fun h10 tk10 a10 e10 => ?_
  show wpAny C.M A (do bindName env "caught" .none; unbindBehindTheSuite env "caught" _) _ _ _
  refine wpAny_nameGoes (by unfold Env.kindOf; rw [ok.scope]; rfl) e10.locs.choose_spec.1 (by rw [ok.scope, ok.fn]; rfl) fun h11 m11 n11 hs11 => ?_
  exact hQ h11 _ fun b o g => (hs11.2 b (get_ne e.newL g)).trans (a10.base b o g)
end
end
end Mine
end

-- MP1
section
set_option maxRecDepth 100000
namespace Mine
open PySem

/-- one turn of the pseudo division, nothing trimmed -/
noncomputable def stepG (b : List Int) (n : Nat) (r : List Int) : List Int :=
  (addL (r.map (· * leadZ b)) (List.replicate n 0 ++ b.map (· * -leadZ r))).dropLast
noncomputable def genP (b : List Int) : Nat → List Int → List Int
  | 0, r => r
  | n + 1, r => genP b n (stepG b n r)

theorem addL_map (k : Int) : ∀ x y : List Int, addL (x.map (· * k)) (y.map (· * k)) = (addL x y).map (· * k)
  | [], y => by simp [addL]
  | a :: x, [] => by simp [addL]
  | a :: x, b :: y => by simp only [List.map_cons, addL, addL_map k x y, Int.add_mul]
theorem leadZ_map (k : Int) (r : List Int) : leadZ (r.map (· * k)) = leadZ r * k := by
  unfold leadZ
  rw [List.getLast?_map]
  cases r.getLast? <;> simp
theorem stepG_map (b : List Int) (n : Nat) (r : List Int) (k : Int) : stepG b n (r.map (· * k)) = (stepG b n r).map (· * k) := by
  unfold stepG
  rw [leadZ_map, List.map_dropLast, ← addL_map]
  simp only [List.map_append, List.map_map, List.map_replicate, Int.zero_mul]
  congr 2
  · refine List.map_congr_left fun x _ => ?_
    simp only [Function.comp]
    rw [Int.mul_assoc, Int.mul_comm k, Int.mul_assoc]
  · congr 1
    refine List.map_congr_left fun x _ => ?_
    simp only [Function.comp]
    rw [Int.mul_assoc, Int.neg_mul]
theorem genP_map (b : List Int) (k : Int) : ∀ (n : Nat) (r : List Int), genP b n (r.map (· * k)) = (genP b n r).map (· * k)
  | 0, _ => rfl
  | n + 1, r => by unfold genP; rw [stepG_map, genP_map b k n]
theorem trimZ_map {k : Int} (hk : k ≠ 0) : ∀ r : List Int, trimZ (r.map (· * k)) = (trimZ r).map (· * k)
  | [] => rfl
  | a :: r => by
    rw [List.map_cons]; unfold trimZ; rw [trimZ_map hk r]
    cases trimZ r with
    | nil =>
      simp only [List.map_nil]
      by_cases h : a = 0
      · simp [h]
      · rw [if_neg h, if_neg (Int.mul_ne_zero h hk)]; rfl
    | cons b t => rfl
theorem trimZ_of_tidy : ∀ {r : List Int}, Tidy r → trimZ r = r := fun {r} h => by
  by_cases hr : r = []
  · subst hr; rfl
  · obtain ⟨y, u, rfl⟩ := snoc_of_ne hr
    exact trimZ_snoc (h u (by simp)) y
theorem pseuL_more {b : List Int} (hb : Tidy b) (hbn : b ≠ []) : ∀ {left : Nat} {rest : List Int}, Tidy rest → rest.length + 1 ≤ b.length + left →
    pseuL b (leadZ b) (left + 1) rest = ((pseuL b (leadZ b) left rest).1, (pseuL b (leadZ b) left rest).2 + 1)
  | 0, rest, hr, h => by
    unfold pseuL
    rw [if_neg (by lia)]
  | left + 1, rest, hr, h => by
    rw [pseuL]
    conv => rhs; rw [pseuL]
    by_cases hl : b.length ≤ rest.length
    · rw [if_pos hl, if_pos hl]
      have := stepR_len hb hbn hr hl
      exact pseuL_more hb hbn (tidy_subZ _ _) (by lia)
    · rw [if_neg hl, if_neg hl]
theorem scaleZ_ne {k : Int} (hk : k ≠ 0) (p : List Int) : scaleZ p k = p.map (· * k) := by unfold scaleZ; rw [if_neg hk]

theorem stepR_eq {b : List Int} {left : Nat} {y : List Int} {v : Int} (hb : Tidy b) (hbn : b ≠ []) (hv : v ≠ 0) (hl : (y ++ [v]).length = b.length + left) :
    stepR b (leadZ b) (y ++ [v]) = trimZ (stepG b left (y ++ [v])) := by
  have h1 := tidy_lead hb hbn
  obtain ⟨x, u, rfl⟩ := snoc_of_ne hbn
  rw [leadZ_snoc] at h1
  unfold stepR subZ addZ stepG
  rw [leadZ_snoc, leadZ_snoc, scaleZ_ne h1, scaleZ_ne hv]
  unfold raiseZ negZ
  rw [if_neg (by simp)]
  rw [show (y ++ [v]).length - (x ++ [u]).length = left by lia]
  simp only [List.map_append, List.map_cons, List.map_nil, ← List.append_assoc]
  have hlen : (y.map (· * u)).length = (List.replicate left 0 ++ x.map (· * -v)).length := by
    simp only [List.length_append, List.length_cons, List.length_nil] at hl
    simp; lia
  have hlen2 : (y.map (· * u)).length = (List.map (fun x => -x) (List.replicate left 0) ++ List.map (fun x => -x) (x.map (· * v))).length := by
    simp only [List.length_append, List.length_cons, List.length_nil] at hl
    simp; lia
  rw [addL_snoc _ _ hlen, addL_snoc _ _ hlen2, List.dropLast_concat, show v * u + -(u * v) = 0 by rw [Int.mul_comm]; lia, trimZ_snoc0]
  congr 2
  rw [List.map_replicate, Int.neg_zero, List.map_map]
  congr 1
  refine List.map_congr_left fun z _ => ?_
  simp only [Function.comp]
  rw [Int.mul_neg]

theorem genP_eq {b : List Int} (hb : Tidy b) (hbn : b ≠ []) : ∀ {left : Nat} {r : List Int}, r.length + 1 = b.length + left →
    scaleZ (pseuL b (leadZ b) left (trimZ r)).1 (leadZ b ^ (pseuL b (leadZ b) left (trimZ r)).2) = trimZ (genP b left r) := by
  have h1 := tidy_lead hb hbn
  have hb0 : 0 < b.length := List.length_pos_iff.mpr hbn
  intro left
  induction left with
  | zero =>
    intro r h
    simp only [pseuL, genP, Int.pow_zero]
    rw [scaleZ_ne (by decide)]; simp
  | succ left ih =>
    intro r h
    have hrn : r ≠ [] := fun q => by subst q; simp at h; lia
    obtain ⟨y, v, rfl⟩ := snoc_of_ne hrn
    have hyl : y.length + 1 = b.length + left := by simp at h; lia
    by_cases hv : v = 0
    · subst hv
      rw [trimZ_snoc0]
      have htl := trimZ_length y
      rw [pseuL_more hb hbn (tidy_trimZ y) (by lia)]
      simp only []
      have := ih hyl
      have hk : leadZ b ^ (pseuL b (leadZ b) left (trimZ y)).2 ≠ 0 := Int.pow_ne_zero h1
      rw [scaleZ_ne hk] at this
      rw [scaleZ_ne (by rw [Int.pow_succ]; exact Int.mul_ne_zero hk h1)]
      have e2 : stepG b left (y ++ [0]) = y.map (· * leadZ b) := by
        obtain ⟨x, u, rfl⟩ := snoc_of_ne hbn
        unfold stepG
        rw [leadZ_snoc, leadZ_snoc]
        simp only [List.map_append, List.map_cons, List.map_nil, ← List.append_assoc]
        rw [addL_snoc _ _ (by simp at hyl ⊢; lia), List.dropLast_concat]
        have : ∀ (l : List Int) (z : List Int), l.length = z.length → (∀ q ∈ z, q = 0) → addL l z = l := by
          intro l
          induction l with
          | nil => intro z hz _; cases z with
            | nil => rfl
            | cons _ _ => simp at hz
          | cons a l ihl => intro z hz hq; cases z with
            | nil => rfl
            | cons c z => simp only [addL]; rw [ihl z (by simpa using hz) fun q hq' => hq q (.tail _ hq'), hq c (.head _)]; simp
        refine this _ _ (by simp at hyl ⊢; lia) fun q hq => ?_
        rcases List.mem_append.mp hq with q' | q'
        · exact (List.mem_replicate.mp q').2
        · obtain ⟨z, _, rfl⟩ := List.mem_map.mp q'; simp
      unfold genP
      rw [e2, genP_map, trimZ_map h1, ← this, List.map_map]
      refine List.map_congr_left fun z _ => ?_
      simp only [Function.comp]
      rw [Int.pow_succ, Int.mul_assoc]
    · rw [trimZ_snoc hv]
      unfold pseuL genP
      have hle : b.length ≤ (y ++ [v]).length := by simp; lia
      rw [if_pos hle, stepR_eq hb hbn hv (by simp; omega)]
      refine ih ?_
      unfold stepG
      rw [List.length_dropLast, addL_length]
      simp; lia

theorem premZ_gen {a b : List Int} (ta : Tidy a) (hb : Tidy b) (hbn : b ≠ []) (hl : b.length ≤ a.length) : premZ a b = trimZ (genP b (a.length + 1 - b.length) a) := by
  have := genP_eq hb hbn (left := a.length + 1 - b.length) (r := a) (by lia)
  rw [trimZ_of_tidy ta] at this
  exact this

theorem prem21 {a0 a1 a2 b0 b1 : Int} (ha : a2 ≠ 0) (hb : b1 ≠ 0) : premZ [a0, a1, a2] [b0, b1] = trimZ [a0 * b1 ^ 2 - a1 * b0 * b1 + a2 * b0 ^ 2] := by
  rw [premZ_gen (by simpa [Tidy] using ha) (by simpa [Tidy] using hb) (by simp) (by simp)]
  simp only [List.length_cons, List.length_nil, genP, stepG, leadZ, addL, List.replicate, List.map_cons, List.map_nil, List.cons_append, List.nil_append, List.getLast?_cons_cons, List.getLast?_singleton, Option.getD_some, List.dropLast]
  congr 2
  grind
end Mine
end

-- MP2
section
set_option maxRecDepth 100000
namespace Mine
open PySem

theorem prem11 {a0 a1 b0 b1 : Int} (ha : a1 ≠ 0) (hb : b1 ≠ 0) : premZ [a0, a1] [b0, b1] = trimZ [a0 * b1 - a1 * b0] := by
  rw [premZ_gen (by simpa [Tidy] using ha) (by simpa [Tidy] using hb) (by simp) (by simp)]
  simp only [List.length_cons, List.length_nil, genP, stepG, leadZ, addL, List.replicate, List.map_cons, List.map_nil, List.cons_append, List.nil_append, List.getLast?_cons_cons, List.getLast?_singleton, Option.getD_some, List.dropLast]
  congr 2
  grind
theorem prem31 {a0 a1 a2 a3 b0 b1 : Int} (ha : a3 ≠ 0) (hb : b1 ≠ 0) : premZ [a0, a1, a2, a3] [b0, b1] = trimZ [a0 * b1 ^ 3 - a1 * b0 * b1 ^ 2 + a2 * b0 ^ 2 * b1 - a3 * b0 ^ 3] := by
  rw [premZ_gen (by simpa [Tidy] using ha) (by simpa [Tidy] using hb) (by simp) (by simp)]
  simp only [List.length_cons, List.length_nil, genP, stepG, leadZ, addL, List.replicate, List.map_cons, List.map_nil, List.cons_append, List.nil_append, List.getLast?_cons_cons, List.getLast?_singleton, Option.getD_some, List.dropLast]
  congr 2
  grind
theorem prem22 {a0 a1 a2 b0 b1 b2 : Int} (ha : a2 ≠ 0) (hb : b2 ≠ 0) : premZ [a0, a1, a2] [b0, b1, b2] = trimZ [a0 * b2 - a2 * b0, a1 * b2 - a2 * b1] := by
  rw [premZ_gen (by simpa [Tidy] using ha) (by simpa [Tidy] using hb) (by simp) (by simp)]
  simp only [List.length_cons, List.length_nil, genP, stepG, leadZ, addL, List.replicate, List.map_cons, List.map_nil, List.cons_append, List.nil_append, List.getLast?_cons_cons, List.getLast?_singleton, Option.getD_some, List.dropLast]
  congr 2
  · grind
  · congr 1; grind
theorem prem33 {a0 a1 a2 a3 b0 b1 b2 b3 : Int} (ha : a3 ≠ 0) (hb : b3 ≠ 0) : premZ [a0, a1, a2, a3] [b0, b1, b2, b3] = trimZ [a0 * b3 - a3 * b0, a1 * b3 - a3 * b1, a2 * b3 - a3 * b2] := by
  rw [premZ_gen (by simpa [Tidy] using ha) (by simpa [Tidy] using hb) (by simp) (by simp)]
  simp only [List.length_cons, List.length_nil, genP, stepG, leadZ, addL, List.replicate, List.map_cons, List.map_nil, List.cons_append, List.nil_append, List.getLast?_cons_cons, List.getLast?_singleton, Option.getD_some, List.dropLast]
  congr 2
  · grind
  · congr 1
    · grind
    · congr 1; grind
theorem prem32 {a0 a1 a2 a3 b0 b1 b2 : Int} (ha : a3 ≠ 0) (hb : b2 ≠ 0) : premZ [a0, a1, a2, a3] [b0, b1, b2] = trimZ [a0 * b2 ^ 2 - (a2 * b2 - a3 * b1) * b0, (a1 * b2 - a3 * b0) * b2 - (a2 * b2 - a3 * b1) * b1] := by
  rw [premZ_gen (by simpa [Tidy] using ha) (by simpa [Tidy] using hb) (by simp) (by simp)]
  simp only [List.length_cons, List.length_nil, genP, stepG, leadZ, addL, List.replicate, List.map_cons, List.map_nil, List.cons_append, List.nil_append, List.getLast?_cons_cons, List.getLast?_singleton, Option.getD_some, List.dropLast]
  congr 2
  · grind
  · congr 1; grind

theorem divT {d : Int} (hd : d ≠ 0) (c : List Int) : divZ (trimZ (c.map (· * d))) d = trimZ c := by
  rw [trimZ_map hd]
  unfold divZ
  rw [List.map_map]
  conv => rhs; rw [← List.map_id (trimZ c)]
  refine List.map_congr_left fun x _ => ?_
  show (x * d).fdiv d = x
  exact Int.mul_fdiv_cancel x hd

theorem sz_pow {x : Int} {e : Nat} (h : x.natAbs ≤ 2 ^ e) {n N : Nat} (hn : n ≤ N) (hN : e * N < 8000) : Fits (x ^ n) :=
  bd_fits (natAbs_pow_le h n) (Nat.lt_of_le_of_lt (Nat.mul_le_mul_left e hn) hN)
theorem natAbs_pow_mono {x : Int} {e n N : Nat} (h : x.natAbs ≤ 2 ^ e) (hn : n ≤ N) : (x ^ n).natAbs ≤ 2 ^ (e * N) :=
  Nat.le_trans (natAbs_pow_le h n) (Nat.pow_le_pow_right (by lia) (Nat.mul_le_mul_left e hn))

/-- the end: a constant, or nothing -/
theorem row_fin {b : List Int} {c sign g h R : Int} {e : Nat} (h2 : 2 ≤ b.length) (h4 : b.length ≤ 4) (hc : c.natAbs ≤ 2 ^ e) (hh : h.natAbs ≤ 2 ^ e) (he : e ≤ 2000) (hs : Fits sign) (hne : h ≠ 0)
    (hR : h ^ (b.length - 2) * R = c ^ (b.length - 1)) : RowR b (trimZ [c]) sign g h (sign * R) := by
  have hne' : h ^ (b.length - 2) ≠ 0 := Int.pow_ne_zero hne
  by_cases hc0 : c = 0
  · subst hc0
    rw [Int.zero_pow (by lia)] at hR
    have : R = 0 := (Int.mul_eq_zero.mp hR).resolve_left hne'
    subst this
    rw [show trimZ [(0 : Int)] = [] from rfl, Int.mul_zero]
    exact .zero (fun q => by subst q; simp at h2) (by lia)
  · rw [show trimZ [c] = [c] by simp [trimZ, hc0]]
    have e1 : (c ^ (b.length - 1)).fdiv (h ^ (b.length - 2)) = R := by rw [← hR, Int.mul_comm]; exact Int.mul_fdiv_cancel R hne'
    have := RowR.many (g := g) h2 (by lia) (bd_fits hc (by lia)) (bd_fits hh (by lia)) hne' (sz_pow hh (N := 2) (by lia) (by lia)) hs
      (bd_fits (Nat.le_trans (Int.natAbs_fdiv_le_natAbs _ _) (natAbs_pow_mono hc (N := 3) (by lia))) (by lia))
    rw [e1] at this
    exact this

/-- a turn, its division exact -/
theorem row_step {a b c : List Int} {sign g h r : Int} (k gap k' : Nat) (sign' h' l : Int) (h2 : 2 ≤ b.length) (hab : a.length = b.length + gap) (h4 : a.length ≤ 4) (ta : Tidy a) (tb : Tidy b) (ba : Bd k a) (bb : Bd k b) (hk : k ≤ 600)
    (hg : g.natAbs ≤ 2 ^ 600) (hh : h.natAbs ≤ 2 ^ 600) (hgn : g ≠ 0) (hhn : h ≠ 0) (hP : premZ a b = trimZ (c.map (· * (g * h ^ gap))))
    (es : (if a.length % 2 = 0 ∧ b.length % 2 = 0 then -sign else sign) = sign') (eh : (if 0 < gap then (leadZ b ^ gap).fdiv (h ^ (gap - 1)) else h) = h') (el : leadZ b = l) (ek : (k + 1) * (gap + 2) ≤ k')
    (next : Bd k' (trimZ c) → Bd k' b → l.natAbs ≤ 2 ^ k → RowR b (trimZ c) sign' l h' r) : RowR a b sign g h r := by
  have hgap : a.length - b.length = gap := by lia
  have hbn : b ≠ [] := fun q => by subst q; simp at h2
  have hD : g * h ^ gap ≠ 0 := Int.mul_ne_zero hgn (Int.pow_ne_zero hhn)
  have hdiv : divZ (premZ a b) (g * h ^ gap) = trimZ c := by rw [hP]; exact divT hD c
  have hnb := bd_divZ (premZ_ok (by lia) hbn ta tb ba bb).2 (g * h ^ gap)
  rw [hdiv, show a.length + 2 - b.length = gap + 2 by lia] at hnb
  have hl := bd_lead bb
  refine .step k h2 (by lia) (by lia) ta tb ba bb (by lia) (bd_fits hg (by lia)) (bd_fits hh (by lia)) (sz_pow hh (N := 2) (by lia) (by lia)) (by rw [hgap]; exact hD)
    (bd_fits (natAbs_mul_le hg (natAbs_pow_mono hh (N := 2) (by lia))) (by lia)) (Int.pow_ne_zero hhn) (sz_pow hh (N := 2) (by lia) (by lia)) ?_
  rw [hgap, hdiv, es, eh, el]
  refine next (hnb.mono ek) (bb.mono (Nat.le_trans (Nat.le_trans (Nat.le_succ k) (Nat.le_mul_of_pos_right _ (by lia))) ek)) (by rw [← el]; exact hl)

theorem bd1 {k : Nat} {x : Int} {l : List Int} (h : Bd k (x :: l)) : x.natAbs ≤ 2 ^ k := h x (.head _)
theorem up2 {x : Int} {k m : Nat} (h : x.natAbs ≤ 2 ^ k) (hk : k ≤ m) : x.natAbs ≤ 2 ^ m := Nat.le_trans h (Nat.pow_le_pow_right (by lia) hk)
theorem one2 {m : Nat} : (1 : Int).natAbs ≤ 2 ^ m := up2 (k := 0) (by decide) (Nat.zero_le m)
theorem fits_neg {x : Int} (h : Fits x) : Fits (-x) := by unfold Fits at *; rw [Int.natAbs_neg]; exact h
theorem trim1_bd {k : Nat} {c : Int} (h : Bd k (trimZ [c])) : c.natAbs ≤ 2 ^ k := by
  by_cases hc : c = 0
  · subst hc; simp
  · rw [show trimZ [c] = [c] by simp [trimZ, hc]] at h; exact bd1 h
theorem tidyS {l : List Int} {x : Int} (h : x ≠ 0) : Tidy (l ++ [x]) := by simpa [Tidy] using h
theorem mapD1 {x d P : Int} (h : P = x * d) : trimZ [P] = trimZ ([x].map (· * d)) := by rw [h]; rfl
theorem mapD2 {x y d P Q : Int} (h : P = x * d) (h' : Q = y * d) : trimZ [P, Q] = trimZ ([x, y].map (· * d)) := by rw [h, h']; rfl
theorem mapD3 {x y z d P Q R : Int} (h : P = x * d) (h' : Q = y * d) (h'' : R = z * d) : trimZ [P, Q, R] = trimZ ([x, y, z].map (· * d)) := by rw [h, h', h'']; rfl

theorem row11 {a0 a1 b0 b1 sign g h c : Int} (k : Nat) (ha : a1 ≠ 0) (hb : b1 ≠ 0) (ba : Bd k [a0, a1]) (bb : Bd k [b0, b1]) (hk : k ≤ 600) (hs : Fits sign)
    (hg : g.natAbs ≤ 2 ^ 600) (hh : h.natAbs ≤ 2 ^ 600) (hgn : g ≠ 0) (hhn : h ≠ 0) (hP : a0 * b1 - a1 * b0 = c * g) : RowR [a0, a1] [b0, b1] sign g h (-sign * c) := by
  refine row_step (c := [c]) k 0 ((k + 1) * 2) (-sign) h b1 (by simp) (by simp) (by simp) (tidyS (l := [_]) ha) (tidyS (l := [_]) hb) ba bb hk hg hh hgn hhn ?_ (by simp) rfl rfl (by lia) fun hn hb' hl => ?_
  · rw [prem11 ha hb]; refine mapD1 (by rw [hP, Int.pow_zero, Int.mul_one])
  · exact row_fin (e := 2000) (by simp) (by simp) (up2 (trim1_bd hn) (by lia)) (up2 hh (by lia)) (by lia) (fits_neg hs) hhn (by simp [Int.pow_succ])

theorem row21 {a0 a1 a2 b0 b1 sign g h c : Int} (k : Nat) (ha : a2 ≠ 0) (hb : b1 ≠ 0) (ba : Bd k [a0, a1, a2]) (bb : Bd k [b0, b1]) (hk : k ≤ 600) (hs : Fits sign)
    (hg : g.natAbs ≤ 2 ^ 600) (hh : h.natAbs ≤ 2 ^ 600) (hgn : g ≠ 0) (hhn : h ≠ 0) (hP : a0 * b1 ^ 2 - a1 * b0 * b1 + a2 * b0 ^ 2 = c * (g * h)) : RowR [a0, a1, a2] [b0, b1] sign g h (sign * c) := by
  refine row_step (c := [c]) k 1 ((k + 1) * 3) sign b1 b1 (by simp) (by simp) (by simp) (tidyS (l := [_, _]) ha) (tidyS (l := [_]) hb) ba bb hk hg hh hgn hhn ?_ (by simp) (by simp [leadZ, Int.pow_succ]) rfl (by lia) fun hn hb' hl => ?_
  · rw [prem21 ha hb]; refine mapD1 (by rw [hP, Int.pow_succ, Int.pow_zero, Int.one_mul])
  · exact row_fin (e := 2000) (by simp) (by simp) (up2 (trim1_bd hn) (by lia)) (up2 hl (by lia)) (by lia) hs hb (by simp [Int.pow_succ])

theorem row31 {a0 a1 a2 a3 b0 b1 sign g c : Int} (k : Nat) (ha : a3 ≠ 0) (hb : b1 ≠ 0) (ba : Bd k [a0, a1, a2, a3]) (bb : Bd k [b0, b1]) (hk : k ≤ 400) (hs : Fits sign)
    (hg : g.natAbs ≤ 2 ^ 600) (hgn : g ≠ 0) (hP : a0 * b1 ^ 3 - a1 * b0 * b1 ^ 2 + a2 * b0 ^ 2 * b1 - a3 * b0 ^ 3 = c * g) : RowR [a0, a1, a2, a3] [b0, b1] sign g 1 (-sign * c) := by
  refine row_step (c := [c]) k 2 ((k + 1) * 4) (-sign) (b1 ^ 2) b1 (by simp) (by simp) (by simp) (tidyS (l := [_, _, _]) ha) (tidyS (l := [_]) hb) ba bb (by lia) hg one2 hgn (by decide) ?_ (by simp) (by simp [leadZ]) rfl (by lia) fun hn hb' hl => ?_
  · rw [prem31 ha hb]; refine mapD1 (by rw [hP, Int.one_pow, Int.mul_one])
  · exact row_fin (e := 2000) (by simp) (by simp) (up2 (trim1_bd hn) (by lia)) (up2 (natAbs_pow_le hl 2) (by lia)) (by lia) (fits_neg hs) (Int.pow_ne_zero hb) (by simp [Int.pow_succ])

theorem row32 {a0 a1 a2 a3 b0 b1 b2 sign g h c0 c1 R : Int} (k : Nat) (ha : a3 ≠ 0) (hb : b2 ≠ 0) (ba : Bd k [a0, a1, a2, a3]) (bb : Bd k [b0, b1, b2]) (hk : k ≤ 190) (hs : Fits sign)
    (hg : g.natAbs ≤ 2 ^ 600) (hh : h.natAbs ≤ 2 ^ 600) (hgn : g ≠ 0) (hhn : h ≠ 0)
    (hP0 : a0 * b2 ^ 2 - (a2 * b2 - a3 * b1) * b0 = c0 * (g * h)) (hP1 : (a1 * b2 - a3 * b0) * b2 - (a2 * b2 - a3 * b1) * b1 = c1 * (g * h))
    (hR : b0 * c1 ^ 2 - b1 * c0 * c1 + b2 * c0 ^ 2 = R * (b2 * b2)) : RowR [a0, a1, a2, a3] [b0, b1, b2] sign g h (sign * R) := by
  refine row_step (c := [c0, c1]) k 1 ((k + 1) * 3) sign b2 b2 (by simp) (by simp) (by simp) (tidyS (l := [_, _, _]) ha) (tidyS (l := [_, _]) hb) ba bb (by lia) hg hh hgn hhn ?_ (by simp) (by simp [leadZ, Int.pow_succ]) rfl (by lia) fun hn hb' hl => ?_
  · rw [prem32 ha hb]; refine mapD2 (by rw [hP0, Int.pow_succ, Int.pow_zero, Int.one_mul]) (by rw [hP1, Int.pow_succ, Int.pow_zero, Int.one_mul])
  · by_cases h1 : c1 = 0
    · subst h1
      rw [show trimZ [c0, 0] = trimZ [c0] from trimZ_snoc0 [c0]] at hn ⊢
      refine row_fin (e := 2000) (by simp) (by simp) (up2 (trim1_bd hn) (by lia)) (up2 hl (by lia)) (by lia) hs hb ?_
      show b2 ^ 1 * R = c0 ^ 2
      refine Int.eq_of_mul_eq_mul_left hb ?_
      grind
    · rw [show trimZ [c0, c1] = [c0, c1] from trimZ_snoc h1 [c0]] at hn ⊢
      exact row21 ((k + 1) * 3) hb h1 hb' hn (by lia) hs (up2 hl (by lia)) (up2 hl (by lia)) hb hb hR

theorem row22 {a0 a1 a2 b0 b1 b2 sign c0 c1 R : Int} (k : Nat) (ha : a2 ≠ 0) (hb : b2 ≠ 0) (ba : Bd k [a0, a1, a2]) (bb : Bd k [b0, b1, b2]) (hk : k ≤ 190) (hs : Fits sign)
    (hP0 : a0 * b2 - a2 * b0 = c0) (hP1 : a1 * b2 - a2 * b1 = c1)
    (hR : b0 * c1 ^ 2 - b1 * c0 * c1 + b2 * c0 ^ 2 = R * b2) : RowR [a0, a1, a2] [b0, b1, b2] sign 1 1 (sign * R) := by
  refine row_step (c := [c0, c1]) k 0 ((k + 1) * 3) sign 1 b2 (by simp) (by simp) (by simp) (tidyS (l := [_, _]) ha) (tidyS (l := [_, _]) hb) ba bb (by lia) one2 one2 (by decide) (by decide) ?_ (by simp) rfl rfl (by lia) fun hn hb' hl => ?_
  · rw [prem22 ha hb]; refine mapD2 (by rw [hP0]; simp) (by rw [hP1]; simp)
  · by_cases h1 : c1 = 0
    · subst h1
      rw [show trimZ [c0, 0] = trimZ [c0] from trimZ_snoc0 [c0]] at hn ⊢
      refine row_fin (e := 2000) (by simp) (by simp) (up2 (trim1_bd hn) (by lia)) one2 (by lia) hs (by decide) ?_
      show 1 ^ 1 * R = c0 ^ 2
      refine Int.eq_of_mul_eq_mul_left hb ?_
      grind
    · rw [show trimZ [c0, c1] = [c0, c1] from trimZ_snoc h1 [c0]] at hn ⊢
      exact row21 ((k + 1) * 3) hb h1 hb' hn (by lia) hs (up2 hl (by lia)) one2 hb (by decide) (by rw [hR, Int.mul_one])

theorem row33 {a0 a1 a2 a3 b0 b1 b2 b3 sign c0 c1 c2 d0 d1 R : Int} (k : Nat) (ha : a3 ≠ 0) (hb : b3 ≠ 0) (ba : Bd k [a0, a1, a2, a3]) (bb : Bd k [b0, b1, b2, b3]) (hk : k ≤ 80) (hs : Fits sign)
    (hP0 : a0 * b3 - a3 * b0 = c0) (hP1 : a1 * b3 - a3 * b1 = c1) (hP2 : a2 * b3 - a3 * b2 = c2)
    (hd0 : b0 * c2 ^ 2 - (b2 * c2 - b3 * c1) * c0 = d0 * b3) (hd1 : (b1 * c2 - b3 * c0) * c2 - (b2 * c2 - b3 * c1) * c1 = d1 * b3)
    (hR2 : c0 * d1 ^ 2 - c1 * d0 * d1 + c2 * d0 ^ 2 = -R * (c2 * c2))
    (hR1 : c2 = 0 → b0 * c1 ^ 3 - b1 * c0 * c1 ^ 2 + b2 * c0 ^ 2 * c1 - b3 * c0 ^ 3 = R * b3) : RowR [a0, a1, a2, a3] [b0, b1, b2, b3] sign 1 1 (sign * R) := by
  refine row_step (c := [c0, c1, c2]) k 0 ((k + 1) * 2) (-sign) 1 b3 (by simp) (by simp) (by simp) (tidyS (l := [_, _, _]) ha) (tidyS (l := [_, _, _]) hb) ba bb (by lia) one2 one2 (by decide) (by decide) ?_ (by simp) rfl rfl (by lia) fun hn hb' hl => ?_
  · rw [prem33 ha hb]; refine mapD3 (by rw [hP0]; simp) (by rw [hP1]; simp) (by rw [hP2]; simp)
  · have hs' : Fits (-sign) := fits_neg hs
    have e4 : sign * R = -sign * -R := by rw [Int.neg_mul_neg]
    by_cases h2 : c2 = 0
    · replace hR1 := hR1 h2
      subst h2
      rw [show trimZ [c0, c1, 0] = trimZ [c0, c1] from trimZ_snoc0 [c0, c1]] at hn ⊢
      by_cases h1 : c1 = 0
      · subst h1
        rw [show trimZ [c0, 0] = trimZ [c0] from trimZ_snoc0 [c0]] at hn ⊢
        rw [e4]
        refine row_fin (e := 2000) (by simp) (by simp) (up2 (trim1_bd hn) (by lia)) one2 (by lia) hs' (by decide) ?_
        show 1 ^ 2 * -R = c0 ^ 3
        refine Int.eq_of_mul_eq_mul_left hb ?_
        grind
      · rw [show trimZ [c0, c1] = [c0, c1] from trimZ_snoc h1 [c0]] at hn ⊢
        have := row31 ((k + 1) * 2) hb h1 hb' hn (by lia) hs' (up2 hl (by lia)) hb hR1
        rw [Int.neg_neg] at this
        exact this
    · rw [show trimZ [c0, c1, c2] = [c0, c1, c2] from trimZ_snoc h2 [c0, c1]] at hn ⊢
      rw [e4]
      exact row32 ((k + 1) * 2) hb h2 hb' hn (by lia) hs' (up2 hl (by lia)) one2 hb (by decide) (by rw [Int.mul_one]; exact hd0) (by rw [Int.mul_one]; exact hd1) hR2
end Mine
end

-- MP3
section
set_option maxRecDepth 100000
namespace Mine
open PySem

noncomputable def S22 (a0 a1 a2 b0 b1 b2 : Int) : Int := (a0 * b2 - a2 * b0) ^ 2 - (a0 * b1 - a1 * b0) * (a1 * b2 - a2 * b1)
noncomputable def S32 (a0 a1 a2 a3 b0 b1 b2 : Int) : Int :=
  (a0 * b2 - a2 * b0) * ((a0 * b2 - a2 * b0) * b2 + a3 * b0 * b1) - (a0 * b1 - a1 * b0) * ((a1 * b2 - a2 * b1 - a3 * b0) * b2 + a3 * b1 ^ 2)
    + a3 * b0 * ((a0 * b2 - a2 * b0) * b1 - (a1 * b2 - a2 * b1 - a3 * b0) * b0)
/-- the determinant of Bezout's matrix -/
noncomputable def BZ (m01 m02 m03 m12 m13 m23 : Int) : Int :=
  m01 * ((m03 + m12) * m23 - m13 ^ 2) - m02 * (m02 * m23 - m13 * m03) + m03 * (m02 * m13 - (m03 + m12) * m03)
noncomputable def S33 (a0 a1 a2 a3 b0 b1 b2 b3 : Int) : Int :=
  BZ (a0 * b1 - a1 * b0) (a0 * b2 - a2 * b0) (a0 * b3 - a3 * b0) (a1 * b2 - a2 * b1) (a1 * b3 - a3 * b1) (a2 * b3 - a3 * b2)
noncomputable def SR : List Int → List Int → Int
  | a, [b0] => b0 ^ (a.length - 1)
  | [a0, a1], [b0, b1] => a1 * b0 - a0 * b1
  | [a0, a1, a2], [b0, b1] => a0 * b1 ^ 2 - a1 * b0 * b1 + a2 * b0 ^ 2
  | [a0, a1, a2, a3], [b0, b1] => a3 * b0 ^ 3 - a2 * b0 ^ 2 * b1 + a1 * b0 * b1 ^ 2 - a0 * b1 ^ 3
  | [a0, a1, a2], [b0, b1, b2] => S22 a0 a1 a2 b0 b1 b2
  | [a0, a1, a2, a3], [b0, b1, b2] => S32 a0 a1 a2 a3 b0 b1 b2
  | [a0, a1, a2, a3], [b0, b1, b2, b3] => S33 a0 a1 a2 a3 b0 b1 b2 b3
  | _, _ => 0

theorem bz_key (m01 m02 m03 m12 m13 m23 : Int) (pl : m01 * m23 - m02 * m13 + m03 * m12 = 0) :
    m03 * (m13 ^ 2 - m23 * (m12 + m03)) ^ 2 - m13 * (m13 * m03 - m23 * m02) * (m13 ^ 2 - m23 * (m12 + m03)) + m23 * (m13 * m03 - m23 * m02) ^ 2 =
      -BZ m01 m02 m03 m12 m13 m23 * (m23 * m23) := by
  have e : m03 * (m13 ^ 2 - m23 * (m12 + m03)) ^ 2 - m13 * (m13 * m03 - m23 * m02) * (m13 ^ 2 - m23 * (m12 + m03)) + m23 * (m13 * m03 - m23 * m02) ^ 2 - -BZ m01 m02 m03 m12 m13 m23 * (m23 * m23)
      = (m01 * m23 - m02 * m13 + m03 * m12) * (m03 * m23 ^ 2 + m12 * m23 ^ 2 - m13 ^ 2 * m23) := by
    unfold BZ; grind
  rw [pl] at e; lia

theorem rowSR33 {a0 a1 a2 a3 b0 b1 b2 b3 sign : Int} (k : Nat) (ha : a3 ≠ 0) (hb : b3 ≠ 0) (ba : Bd k [a0, a1, a2, a3]) (bb : Bd k [b0, b1, b2, b3]) (hk : k ≤ 80) (hs : Fits sign) :
    RowR [a0, a1, a2, a3] [b0, b1, b2, b3] sign 1 1 (sign * S33 a0 a1 a2 a3 b0 b1 b2 b3) := by
  refine row33 (d0 := (a1 * b3 - a3 * b1) * (a0 * b3 - a3 * b0) - (a2 * b3 - a3 * b2) * (a0 * b2 - a2 * b0)) (d1 := (a1 * b3 - a3 * b1) ^ 2 - (a2 * b3 - a3 * b2) * ((a1 * b2 - a2 * b1) + (a0 * b3 - a3 * b0))) k ha hb ba bb hk hs rfl rfl rfl ?_ ?_ ?_ ?_
  · grind
  · grind
  · unfold S33
    exact bz_key _ _ _ _ _ _ (by grind)
  · intro h
    unfold S33 BZ
    rw [h]
    grind

theorem row_SR {a b : List Int} {sign : Int} (k : Nat) (h1 : 1 ≤ b.length) (hab : b.length ≤ a.length) (h4 : a.length ≤ 4) (ta : Tidy a) (tb : Tidy b) (ba : Bd k a) (bb : Bd k b) (hk : k ≤ 80) (hs : Fits sign) :
    RowR a b sign 1 1 (sign * SR a b) := by
  match b, h1 with
  | [b0], _ =>
    show RowR a [b0] sign 1 1 (sign * b0 ^ (a.length - 1))
    by_cases h : a.length = 1
    · rw [h, Nat.sub_self, Int.pow_zero]; exact .one h hs
    · have hb := bd1 bb
      have := RowR.many (a := a) (b0 := b0) (sign := sign) (g := 1) (h := 1) (by simp at hab; lia) (by lia) (bd_fits hb (by lia)) (bd_fits (k := 0) (by decide) (by decide)) (Int.pow_ne_zero (by decide))
        (sz_pow (e := 0) (N := 4) (by decide) (by lia) (by lia)) hs (bd_fits (Nat.le_trans (Int.natAbs_fdiv_le_natAbs _ _) (natAbs_pow_mono hb (N := 3) (by lia))) (by lia))
      rw [Int.one_pow, Int.fdiv_one] at this
      exact this
  | [b0, b1], _ =>
    have hb : b1 ≠ 0 := tb b1 rfl
    match a with
    | [a0, a1] =>
      have ha : a1 ≠ 0 := ta a1 rfl
      have := row11 (sign := sign) (g := 1) (h := 1) (c := a0 * b1 - a1 * b0) k ha hb ba bb (by lia) hs one2 one2 (by decide) (by decide) (by simp)
      rw [show -sign * (a0 * b1 - a1 * b0) = sign * (a1 * b0 - a0 * b1) by grind] at this
      exact this
    | [a0, a1, a2] =>
      have ha : a2 ≠ 0 := ta a2 rfl
      exact row21 (sign := sign) (g := 1) (h := 1) (c := a0 * b1 ^ 2 - a1 * b0 * b1 + a2 * b0 ^ 2) k ha hb ba bb (by lia) hs one2 one2 (by decide) (by decide) (by simp)
    | [a0, a1, a2, a3] =>
      have ha : a3 ≠ 0 := ta a3 rfl
      have := row31 (sign := sign) (g := 1) (c := a0 * b1 ^ 3 - a1 * b0 * b1 ^ 2 + a2 * b0 ^ 2 * b1 - a3 * b0 ^ 3) k ha hb ba bb (by lia) hs one2 (by decide) (by simp)
      rw [show -sign * (a0 * b1 ^ 3 - a1 * b0 * b1 ^ 2 + a2 * b0 ^ 2 * b1 - a3 * b0 ^ 3) = sign * (a3 * b0 ^ 3 - a2 * b0 ^ 2 * b1 + a1 * b0 * b1 ^ 2 - a0 * b1 ^ 3) by grind] at this
      exact this
    | [] => simp at hab
    | [_] => simp at hab
    | _ :: _ :: _ :: _ :: _ :: _ => simp at h4
  | [b0, b1, b2], _ =>
    have hb : b2 ≠ 0 := tb b2 rfl
    match a with
    | [a0, a1, a2] =>
      have ha : a2 ≠ 0 := ta a2 rfl
      refine row22 k ha hb ba bb (by lia) hs rfl rfl ?_
      show _ = S22 a0 a1 a2 b0 b1 b2 * b2
      unfold S22; grind
    | [a0, a1, a2, a3] =>
      have ha : a3 ≠ 0 := ta a3 rfl
      refine row32 k ha hb ba bb (by lia) hs one2 one2 (by decide) (by decide) (by rw [Int.mul_one, Int.mul_one]) (by rw [Int.mul_one, Int.mul_one]) ?_
      show _ = S32 a0 a1 a2 a3 b0 b1 b2 * _
      unfold S32; grind
    | [] => simp at hab
    | [_] => simp at hab
    | [_, _] => simp at hab
    | _ :: _ :: _ :: _ :: _ :: _ => simp at h4
  | [b0, b1, b2, b3], _ =>
    have hb : b3 ≠ 0 := tb b3 rfl
    match a with
    | [a0, a1, a2, a3] => exact rowSR33 k (ta a3 rfl) hb ba bb hk hs
    | [] => simp at hab
    | [_] => simp at hab
    | [_, _] => simp at hab
    | [_, _, _] => simp at hab
    | _ :: _ :: _ :: _ :: _ :: _ => simp at h4
  | _ :: _ :: _ :: _ :: _ :: _, _ => simp at hab; lia
end Mine
end

-- MP4
section
set_option maxRecDepth 100000
namespace Mine
open PySem

theorem gcdL_dvd : ∀ (l : List Int) (g : Nat), gcdL g l ∣ g ∧ ∀ x ∈ l, gcdL g l ∣ x.natAbs
  | [], g => ⟨Nat.dvd_refl g, fun x hx => nomatch hx⟩
  | y :: r, g => by
    obtain ⟨h1, h2⟩ := gcdL_dvd r (Nat.gcd g y.natAbs)
    refine ⟨Nat.dvd_trans h1 (Nat.gcd_dvd_left _ _), fun x hx => ?_⟩
    rcases List.mem_cons.mp hx with rfl | hx
    · exact Nat.dvd_trans h1 (Nat.gcd_dvd_right _ _)
    · exact h2 x hx
theorem contZ_dvd {l : List Int} {x : Int} (hx : x ∈ l) : (contZ l : Int) ∣ x := Int.ofNat_dvd_left.mpr ((gcdL_dvd l 0).2 x hx)
theorem contZ_ne {l : List Int} {x : Int} (hx : x ∈ l) (h : x ≠ 0) : contZ l ≠ 0 := fun q => by
  have := contZ_dvd hx
  rw [q] at this
  exact h (Int.zero_dvd.mp this)
theorem lead_mem {l : List Int} (h : l ≠ []) : leadZ l ∈ l := by
  obtain ⟨y, u, rfl⟩ := snoc_of_ne h
  rw [leadZ_snoc]; simp
theorem contZ_le {l : List Int} {x : Int} {k : Nat} (hx : x ∈ l) (h : x ≠ 0) (hb : Bd k l) : (contZ l : Int).natAbs ≤ 2 ^ k := by
  have h1 := Nat.le_of_dvd (by lia) ((gcdL_dvd l 0).2 x hx)
  have h2 := hb x hx
  simp only [Int.natAbs_natCast]
  exact Nat.le_trans h1 h2
theorem divZ_back (l : List Int) : (divZ l (contZ l)).map (· * (contZ l : Int)) = l := by
  unfold divZ
  rw [List.map_map]
  conv => rhs; rw [← List.map_id l]
  refine List.map_congr_left fun x hx => ?_
  exact Int.fdiv_mul_cancel (contZ_dvd hx)

theorem SR_scale {a b : List Int} (x y : Int) (h1 : 1 ≤ b.length) (hab : b.length ≤ a.length) (h4 : a.length ≤ 4) :
    SR (a.map (· * x)) (b.map (· * y)) = x ^ (b.length - 1) * y ^ (a.length - 1) * SR a b := by
  match b, h1 with
  | [b0], _ =>
    show (b0 * y) ^ ((a.map (· * x)).length - 1) = x ^ 0 * y ^ (a.length - 1) * b0 ^ (a.length - 1)
    rw [List.length_map, Int.mul_pow]; grind
  | [b0, b1], _ =>
    match a with
    | [a0, a1] => show (a1 * x) * (b0 * y) - (a0 * x) * (b1 * y) = x ^ 1 * y ^ 1 * (a1 * b0 - a0 * b1); grind
    | [a0, a1, a2] =>
      show (a0 * x) * (b1 * y) ^ 2 - (a1 * x) * (b0 * y) * (b1 * y) + (a2 * x) * (b0 * y) ^ 2 = x ^ 1 * y ^ 2 * (a0 * b1 ^ 2 - a1 * b0 * b1 + a2 * b0 ^ 2); grind
    | [a0, a1, a2, a3] =>
      show (a3 * x) * (b0 * y) ^ 3 - (a2 * x) * (b0 * y) ^ 2 * (b1 * y) + (a1 * x) * (b0 * y) * (b1 * y) ^ 2 - (a0 * x) * (b1 * y) ^ 3 = x ^ 1 * y ^ 3 * (a3 * b0 ^ 3 - a2 * b0 ^ 2 * b1 + a1 * b0 * b1 ^ 2 - a0 * b1 ^ 3); grind
    | [] => simp at hab
    | [_] => simp at hab
    | _ :: _ :: _ :: _ :: _ :: _ => simp at h4
  | [b0, b1, b2], _ =>
    match a with
    | [a0, a1, a2] => show S22 (a0 * x) (a1 * x) (a2 * x) (b0 * y) (b1 * y) (b2 * y) = x ^ 2 * y ^ 2 * S22 a0 a1 a2 b0 b1 b2; unfold S22; grind
    | [a0, a1, a2, a3] => show S32 (a0 * x) (a1 * x) (a2 * x) (a3 * x) (b0 * y) (b1 * y) (b2 * y) = x ^ 2 * y ^ 3 * S32 a0 a1 a2 a3 b0 b1 b2; unfold S32; grind
    | [] => simp at hab
    | [_] => simp at hab
    | [_, _] => simp at hab
    | _ :: _ :: _ :: _ :: _ :: _ => simp at h4
  | [b0, b1, b2, b3], _ =>
    match a with
    | [a0, a1, a2, a3] =>
      show S33 (a0 * x) (a1 * x) (a2 * x) (a3 * x) (b0 * y) (b1 * y) (b2 * y) (b3 * y) = x ^ 3 * y ^ 3 * S33 a0 a1 a2 a3 b0 b1 b2 b3
      have e : ∀ p q r s : Int, p * x * (q * y) - r * x * (s * y) = x * y * (p * q - r * s) := fun p q r s => by grind
      unfold S33
      rw [e, e, e, e, e, e]
      generalize a0 * b1 - a1 * b0 = m01
      generalize a0 * b2 - a2 * b0 = m02
      generalize a0 * b3 - a3 * b0 = m03
      generalize a1 * b2 - a2 * b1 = m12
      generalize a1 * b3 - a3 * b1 = m13
      generalize a2 * b3 - a3 * b2 = m23
      unfold BZ
      grind
    | [] => simp at hab
    | [_] => simp at hab
    | [_, _] => simp at hab
    | [_, _, _] => simp at hab
    | _ :: _ :: _ :: _ :: _ :: _ => simp at h4
  | _ :: _ :: _ :: _ :: _ :: _, _ => simp at hab; lia

theorem RowR.fits {a b : List Int} {sign g h r : Int} (x : RowR a b sign g h r) : sign.natAbs ≤ 1 → Fits r := by
  induction x with
  | zero _ _ => intro _; exact bd_fits (k := 0) (by decide) (by decide)
  | one _ _ => intro hs; exact bd_fits (k := 0) (by rw [Int.mul_one]; simpa using hs) (by decide)
  | many _ _ _ _ _ _ _ hq =>
    intro hs
    unfold Fits at *
    rw [Int.natAbs_mul]
    exact Nat.lt_of_le_of_lt (Nat.le_trans (Nat.mul_le_mul_right _ hs) (Nat.le_of_eq (Nat.one_mul _))) hq
  | step _ _ _ _ _ _ _ _ _ _ _ _ _ _ _ _ _ ih =>
    intro hs
    refine ih ?_
    split
    · rw [Int.natAbs_neg]; exact hs
    · exact hs

theorem resR_SR {a b : List Int} {sign : Int} (k : Nat) (h1 : 1 ≤ b.length) (hab : b.length ≤ a.length) (h4 : a.length ≤ 4) (ta : Tidy a) (tb : Tidy b) (ba : Bd k a) (bb : Bd k b) (hk : k ≤ 80) (hs : sign.natAbs ≤ 1) :
    ∃ r, ResR a b sign r ∧ sign * SR a b = (contZ a : Int) ^ (b.length - 1) * (contZ b : Int) ^ (a.length - 1) * r := by
  have hbn : b ≠ [] := fun q => by subst q; simp at h1
  have han : a ≠ [] := fun q => by subst q; simp at hab; exact hbn hab
  have la := tidy_lead ta han
  have lb := tidy_lead tb hbn
  have ca := contZ_ne (lead_mem han) la
  have cb := contZ_ne (lead_mem hbn) lb
  have fa := contZ_le (lead_mem han) la ba
  have fb := contZ_le (lead_mem hbn) lb bb
  have ea := divZ_back a
  have eb := divZ_back b
  have tda : Tidy (divZ a (contZ a)) := fun x hx q => by
    subst q
    have : (a.getLast?) = some (0 * (contZ a : Int)) := by
      conv => lhs; rw [← ea]
      rw [List.getLast?_map, hx]; rfl
    exact ta _ this (by simp)
  have tdb : Tidy (divZ b (contZ b)) := fun x hx q => by
    subst q
    have : (b.getLast?) = some (0 * (contZ b : Int)) := by
      conv => lhs; rw [← eb]
      rw [List.getLast?_map, hx]; rfl
    exact tb _ this (by simp)
  have row := row_SR (sign := sign) k (by rw [divZ_len]; exact h1) (by rw [divZ_len, divZ_len]; exact hab) (by rw [divZ_len]; exact h4) tda tdb (bd_divZ ba (contZ a)) (bd_divZ bb (contZ b)) hk
    (bd_fits (k := 0) (by simpa using hs) (by decide))
  refine ⟨_, ⟨by lia, hab, h1, ca, cb, bd_fits fa (by lia), bd_fits fb (by lia), sz_pow fa (N := 3) (by lia) (by lia), sz_pow fb (N := 3) (by lia) (by lia),
    bd_fits (natAbs_mul_le (natAbs_pow_mono fa (N := 3) (by lia)) (natAbs_pow_mono fb (N := 3) (by lia))) (by lia), row, row.fits hs⟩, ?_⟩
  have := SR_scale (a := divZ a (contZ a)) (b := divZ b (contZ b)) (contZ a) (contZ b) (by rw [divZ_len]; exact h1) (by rw [divZ_len, divZ_len]; exact hab) (by rw [divZ_len]; exact h4)
  rw [ea, eb, divZ_len, divZ_len] at this
  rw [this]
  grind

theorem resIs_ge {a b : List Int} (k : Nat) (h1 : 1 ≤ b.length) (hab : b.length ≤ a.length) (h4 : a.length ≤ 4) (ta : Tidy a) (tb : Tidy b) (ba : Bd k a) (bb : Bd k b) (hk : k ≤ 80) : ResIs a b (SR a b) := by
  obtain ⟨r, hr, e⟩ := resR_SR (sign := 1) k h1 hab h4 ta tb ba bb hk (by decide)
  exact ⟨a, b, 1, r, .inr ⟨hab, rfl, rfl, rfl⟩, hr, by rw [← e, Int.one_mul]⟩
theorem resIs_lt {a b : List Int} (k : Nat) (h1 : 1 ≤ a.length) (hab : a.length < b.length) (h4 : b.length ≤ 4) (ta : Tidy a) (tb : Tidy b) (ba : Bd k a) (bb : Bd k b) (hk : k ≤ 80) :
    ResIs a b ((if a.length % 2 = 0 ∧ b.length % 2 = 0 then -1 else 1) * SR b a) := by
  obtain ⟨r, hr, e⟩ := resR_SR (sign := if a.length % 2 = 0 ∧ b.length % 2 = 0 then -1 else 1) k h1 (Nat.le_of_lt hab) h4 tb ta bb ba hk (by split <;> decide)
  exact ⟨b, a, _, r, .inl ⟨hab, rfl, rfl, rfl⟩, hr, e⟩
end Mine
end

-- MP5
section
set_option maxRecDepth 100000
namespace Mine
open PySem

/-- the value at p/q, made whole -/
noncomputable def evH : List Int → Int × Int → Int
  | [], _ => 0
  | x :: r, z => x * z.2 ^ r.length + z.1 * evH r z

theorem mulF1 (r0 p q : Int) : mulF [r0] (p, q) = [-(p * r0), q * r0] := by
  simp [mulF, mulN, stepM, List.replicate]
theorem mulF2 (r0 r1 p q : Int) : mulF [r0, r1] (p, q) = [-(p * r0), q * r0 - p * r1, q * r1] := by
  simp [mulF, mulN, stepM, List.replicate]
theorem mulF3 (r0 r1 r2 p q : Int) : mulF [r0, r1, r2] (p, q) = [-(p * r0), q * r0 - p * r1, q * r1 - p * r2, q * r2] := by
  simp [mulF, mulN, stepM, List.replicate]

theorem row0 (c : Int) : rowP c [] = [c] := rfl
theorem row1 (c p q : Int) : rowP c [(p, q)] = [-(p * c), q * c] := mulF1 c p q
theorem row2 (c p q t s : Int) : rowP c [(p, q), (t, s)] = [t * p * c, -(s * p * c) - t * q * c, s * q * c] := by
  show mulF (mulF [c] (p, q)) (t, s) = _
  rw [mulF1, mulF2]
  congr 1
  · grind
  · congr 1
    · grind
    · congr 1; grind
theorem row3 (c p q t s v u : Int) : rowP c [(p, q), (t, s), (v, u)] = [-(v * (t * p * c)), u * (t * p * c) - v * (-(s * p * c) - t * q * c), u * (-(s * p * c) - t * q * c) - v * (s * q * c), u * (s * q * c)] := by
  show mulF (rowP c [(p, q), (t, s)]) (v, u) = _
  rw [row2, mulF3]

theorem foldl_mul (l : List Int) : ∀ g : Int, l.foldl (fun x y => x * y) g = g * prodL l := by
  unfold prodL
  induction l with
  | nil => intro g; simp
  | cons x r ih => intro g; simp only [List.foldl_cons]; rw [ih, ih (1 * x)]; grind
theorem prodL_nil : prodL [] = 1 := rfl
theorem prodL_cons (x : Int) (l : List Int) : prodL (x :: l) = x * prodL l := by
  show l.foldl (fun x y => x * y) (1 * x) = _
  rw [foldl_mul, Int.one_mul]
theorem prodL_append (l l' : List Int) : prodL (l ++ l') = prodL l * prodL l' := by
  induction l with
  | nil => simp [prodL_nil]
  | cons x r ih => rw [List.cons_append, prodL_cons, prodL_cons, ih, Int.mul_assoc]
theorem prodL_flatMap {α : Type} (l : List α) (f : α → List Int) : prodL (l.flatMap f) = prodL (l.map fun x => prodL (f x)) := by
  induction l with
  | nil => rfl
  | cons x r ih => rw [List.flatMap_cons, prodL_append, List.map_cons, prodL_cons, ih]
theorem prodL_scale {α : Type} (c : Int) (l : List α) (f : α → Int) : prodL (l.map fun x => c * f x) = c ^ l.length * prodL (l.map f) := by
  induction l with
  | nil => simp [prodL_nil]
  | cons x r ih => rw [List.map_cons, List.map_cons, prodL_cons, prodL_cons, ih, List.length_cons, Int.pow_succ]; grind
theorem prodL_zero {l : List Int} : prodL l = 0 ↔ 0 ∈ l := by
  induction l with
  | nil => simp [prodL_nil]
  | cons x r ih => rw [prodL_cons, Int.mul_eq_zero, ih, List.mem_cons, eq_comm (a := (0 : Int)) (b := x)]

theorem evH_row (c : Int) (ys : List (Int × Int)) (hy : ys.length ≤ 3) (z : Int × Int) : evH (rowP c ys) z = c * prodL (ys.map (crossP z)) := by
  obtain ⟨p, q⟩ := z
  match ys, hy with
  | [], _ => simp [row0, evH, prodL_nil]
  | [(t, s)], _ => rw [row1]; simp only [evH, List.length_nil, List.length_cons, List.map_cons, List.map_nil, prodL_cons, prodL_nil, crossP]; grind
  | [(t, s), (t', s')], _ => rw [row2]; simp only [evH, List.length_nil, List.length_cons, List.map_cons, List.map_nil, prodL_cons, prodL_nil, crossP]; grind
  | [(t, s), (t', s'), (t'', s'')], _ => rw [row3]; simp only [evH, List.length_nil, List.length_cons, List.map_cons, List.map_nil, prodL_cons, prodL_nil, crossP]; grind
  | _ :: _ :: _ :: _ :: _, h => simp at h

theorem SR_ev22 (c p q t s b0 b1 b2 : Int) : SR (rowP c [(p, q), (t, s)]) [b0, b1, b2] = c ^ 2 * (evH [b0, b1, b2] (p, q) * evH [b0, b1, b2] (t, s)) := by
  rw [row2]
  show S22 _ _ _ _ _ _ = _
  simp only [evH, List.length_nil, List.length_cons]
  unfold S22
  grind
theorem SR_ev32 (c p q t s v u b0 b1 b2 : Int) : SR (rowP c [(p, q), (t, s), (v, u)]) [b0, b1, b2] = c ^ 2 * (evH [b0, b1, b2] (p, q) * (evH [b0, b1, b2] (t, s) * evH [b0, b1, b2] (v, u))) := by
  rw [row3]
  show S32 _ _ _ _ _ _ _ = _
  simp only [evH, List.length_nil, List.length_cons]
  unfold S32
  grind
set_option maxHeartbeats 4000000 in
theorem SR_ev33 (c p q t s v u b0 b1 b2 b3 : Int) : SR (rowP c [(p, q), (t, s), (v, u)]) [b0, b1, b2, b3] = c ^ 3 * (evH [b0, b1, b2, b3] (p, q) * (evH [b0, b1, b2, b3] (t, s) * evH [b0, b1, b2, b3] (v, u))) := by
  rw [row3]
  show S33 _ _ _ _ _ _ _ _ = _
  simp only [evH, List.length_nil, List.length_cons]
  unfold S33 BZ
  grind
end Mine
end

-- MP6
section
set_option maxRecDepth 100000
namespace Mine
open PySem

theorem SR_ev (c : Int) (xs : List (Int × Int)) (b : List Int) (hx : xs.length ≤ 3) (hb1 : 1 ≤ b.length) (hb : b.length ≤ xs.length + 1) : SR (rowP c xs) b = c ^ (b.length - 1) * prodL (xs.map (evH b)) := by
  match b, hb1 with
  | [b0], _ =>
    show b0 ^ ((rowP c xs).length - 1) = c ^ 0 * _
    have hl : ∀ (fs : List (Int × Int)) (r : List Int), (fs.foldl mulF r).length = r.length + fs.length := fun fs => by
      induction fs with
      | nil => intro r; simp
      | cons f fs ih => intro r; simp only [List.foldl_cons]; rw [ih, mulF_len, List.length_cons]; lia
    have hl := hl xs [c]
    rw [show (rowP c xs).length = [c].length + xs.length from hl, show [c].length + xs.length - 1 = xs.length by simp]
    have : ∀ l : List (Int × Int), prodL (l.map (evH [b0])) = b0 ^ l.length := fun l => by
      induction l with
      | nil => simp [prodL_nil]
      | cons x r ih => rw [List.map_cons, prodL_cons, ih, List.length_cons, Int.pow_succ]; simp [evH]; grind
    rw [this, Int.pow_zero, Int.one_mul]
  | [b0, b1], _ =>
    match xs with
    | [(p, q)] => rw [row1]; show _ * _ - _ * _ = c ^ 1 * _; simp only [List.map_cons, List.map_nil, prodL_cons, prodL_nil, evH, List.length_nil, List.length_cons]; grind
    | [(p, q), (t, s)] => rw [row2]; show _ * _ ^ 2 - _ * _ * _ + _ * _ ^ 2 = c ^ 1 * _; simp only [List.map_cons, List.map_nil, prodL_cons, prodL_nil, evH, List.length_nil, List.length_cons]; grind
    | [(p, q), (t, s), (v, u)] => rw [row3]; show _ * _ ^ 3 - _ * _ ^ 2 * _ + _ * _ * _ ^ 2 - _ * _ ^ 3 = c ^ 1 * _; simp only [List.map_cons, List.map_nil, prodL_cons, prodL_nil, evH, List.length_nil, List.length_cons]; grind
    | [] => simp at hb
    | _ :: _ :: _ :: _ :: _ => simp at hx
  | [b0, b1, b2], _ =>
    match xs with
    | [(p, q), (t, s)] => rw [SR_ev22]; simp only [List.map_cons, List.map_nil, prodL_cons, prodL_nil, List.length_nil, List.length_cons]; grind
    | [(p, q), (t, s), (v, u)] => rw [SR_ev32]; simp only [List.map_cons, List.map_nil, prodL_cons, prodL_nil, List.length_nil, List.length_cons]; grind
    | [] => simp at hb
    | [_] => simp at hb
    | _ :: _ :: _ :: _ :: _ => simp at hx
  | [b0, b1, b2, b3], _ =>
    match xs with
    | [(p, q), (t, s), (v, u)] => rw [SR_ev33]; simp only [List.map_cons, List.map_nil, prodL_cons, prodL_nil, List.length_nil, List.length_cons]; grind
    | [] => simp at hb
    | [_] => simp at hb
    | [_, _] => simp at hb
    | _ :: _ :: _ :: _ :: _ => simp at hx
  | _ :: _ :: _ :: _ :: _ :: _, _ => simp at hb; lia

theorem rowP_len (c : Int) (xs : List (Int × Int)) : (rowP c xs).length = xs.length + 1 := by
  have hl : ∀ (fs : List (Int × Int)) (r : List Int), (fs.foldl mulF r).length = r.length + fs.length := fun fs => by
    induction fs with
    | nil => intro r; simp
    | cons f fs ih => intro r; simp only [List.foldl_cons]; rw [ih, mulF_len, List.length_cons]; lia
  rw [show (rowP c xs).length = [c].length + xs.length from hl xs [c], List.length_cons, List.length_nil]; lia

theorem SR_row (one : Int) (xs : List (Int × Int)) (other : Int) (ys : List (Int × Int)) (hx : xs.length ≤ 3) (hxy : ys.length ≤ xs.length) : SR (rowP one xs) (rowP other ys) = resF one xs other ys := by
  rw [SR_ev one xs _ hx (by rw [rowP_len]; lia) (by rw [rowP_len]; lia), rowP_len, Nat.add_sub_cancel]
  rw [show xs.map (evH (rowP other ys)) = xs.map (fun z => other * prodL (ys.map (crossP z))) from List.map_congr_left fun z _ => evH_row other ys (by lia) z]
  rw [prodL_scale, ← prodL_flatMap]
  unfold resF crossL
  grind

theorem crossP_neg (x y : Int × Int) : crossP y x = -crossP x y := by unfold crossP; grind
theorem resF_swap (one : Int) (xs : List (Int × Int)) (other : Int) (ys : List (Int × Int)) (hy : ys.length ≤ 3) (hxy : xs.length ≤ ys.length) :
    (if xs.length % 2 = 1 ∧ ys.length % 2 = 1 then -1 else 1) * resF other ys one xs = resF one xs other ys := by
  have h0 : ∀ (ls ks : List (Int × Int)), prodL (crossL ls ks) = prodL (ls.map fun x => prodL (ks.map (crossP x))) := fun ls ks => prodL_flatMap _ _
  unfold resF
  rw [h0, h0]
  match xs, hxy with
  | [], _ =>
    have : ∀ l : List (Int × Int), prodL (l.map fun x => prodL (([] : List (Int × Int)).map (crossP x))) = 1 := fun l => by
      induction l with
      | nil => rfl
      | cons x r ih => rw [List.map_cons, prodL_cons, ih]; rfl
    rw [this]; simp [prodL_nil]
  | [x], hxy =>
    match ys with
    | [y] => simp only [List.length_cons, List.length_nil, List.map_cons, List.map_nil, prodL_cons, prodL_nil, crossP_neg x]; simp; grind
    | [y, y'] => simp only [List.length_cons, List.length_nil, List.map_cons, List.map_nil, prodL_cons, prodL_nil, crossP_neg x]; simp; grind
    | [y, y', y''] => simp only [List.length_cons, List.length_nil, List.map_cons, List.map_nil, prodL_cons, prodL_nil, crossP_neg x]; simp; grind
    | [] => simp at hxy
    | _ :: _ :: _ :: _ :: _ => simp at hy
  | [x, x'], hxy =>
    match ys with
    | [y, y'] => simp only [List.length_cons, List.length_nil, List.map_cons, List.map_nil, prodL_cons, prodL_nil, crossP_neg x, crossP_neg x']; simp; grind
    | [y, y', y''] => simp only [List.length_cons, List.length_nil, List.map_cons, List.map_nil, prodL_cons, prodL_nil, crossP_neg x, crossP_neg x']; simp; grind
    | [] => simp at hxy
    | [_] => simp at hxy
    | _ :: _ :: _ :: _ :: _ => simp at hy
  | [x, x', x''], hxy =>
    match ys with
    | [y, y', y''] => simp only [List.length_cons, List.length_nil, List.map_cons, List.map_nil, prodL_cons, prodL_nil, crossP_neg x, crossP_neg x', crossP_neg x'']; simp; grind
    | [] => simp at hxy
    | [_] => simp at hxy
    | [_, _] => simp at hxy
    | _ :: _ :: _ :: _ :: _ => simp at hy
  | _ :: _ :: _ :: _ :: _, h => simp at h; lia

theorem leadZ_row (c : Int) (xs : List (Int × Int)) (hx : xs.length ≤ 3) : leadZ (rowP c xs) = c * prodL (xs.map (·.2)) := by
  match xs, hx with
  | [], _ => simp [row0, leadZ, prodL_nil]
  | [(p, q)], _ => rw [row1]; simp [leadZ, prodL_nil, prodL_cons]; grind
  | [(p, q), (t, s)], _ => rw [row2]; simp [leadZ, prodL_nil, prodL_cons]; grind
  | [(p, q), (t, s), (v, u)], _ => rw [row3]; simp [leadZ, prodL_nil, prodL_cons]; grind
  | _ :: _ :: _ :: _ :: _, h => simp at h
theorem leadZ_ne (c : Int) (xs : List (Int × Int)) (hx : xs.length ≤ 3) (hc : c ≠ 0) (h : ∀ x ∈ xs, x.2 ≠ 0) : leadZ (rowP c xs) ≠ 0 := by
  rw [leadZ_row c xs hx]
  refine Int.mul_ne_zero hc fun q => ?_
  obtain ⟨x, hx, e⟩ := List.mem_map.mp (prodL_zero.mp q)
  exact h x hx e
theorem tidy_row (c : Int) (xs : List (Int × Int)) (hx : xs.length ≤ 3) (hc : c ≠ 0) (h : ∀ x ∈ xs, x.2 ≠ 0) : Tidy (rowP c xs) := fun x hx' e => by
  have := leadZ_ne c xs hx hc h
  unfold leadZ at this
  rw [hx'] at this
  exact this e

/-- the resultant of two products -/
theorem resIs_row (one : Int) (xs : List (Int × Int)) (other : Int) (ys : List (Int × Int)) (k : Nat) (hx : xs.length ≤ 3) (hy : ys.length ≤ 3) (h1 : one ≠ 0) (h2 : other ≠ 0) (hxs : ∀ x ∈ xs, x.2 ≠ 0) (hys : ∀ y ∈ ys, y.2 ≠ 0)
    (ba : Bd k (rowP one xs)) (bb : Bd k (rowP other ys)) (hk : k ≤ 80) : ResIs (rowP one xs) (rowP other ys) (resF one xs other ys) := by
  have t1 := tidy_row one xs hx h1 hxs
  have t2 := tidy_row other ys hy h2 hys
  have l1 := rowP_len one xs
  have l2 := rowP_len other ys
  by_cases h : ys.length ≤ xs.length
  · rw [← SR_row one xs other ys hx h]
    exact resIs_ge k (by lia) (by lia) (by lia) t1 t2 ba bb hk
  · rw [← resF_swap one xs other ys hy (by lia), ← SR_row other ys one xs hy (by lia)]
    have := resIs_lt k (by lia) (by lia) (by lia) t1 t2 ba bb hk
    rw [l1, l2] at this
    have e : (if (xs.length + 1) % 2 = 0 ∧ (ys.length + 1) % 2 = 0 then (-1 : Int) else 1) = (if xs.length % 2 = 1 ∧ ys.length % 2 = 1 then -1 else 1) := by
      congr 1
      simp only [eq_iff_iff]; lia
    rw [e] at this
    exact this

theorem shift_row (c : Int) (ys : List (Int × Int)) (h : Int) (hy : ys.length ≤ 3) : shiftZ (rowP c ys) h = rowP c (movedP h ys) := by
  match ys, hy with
  | [], _ => rfl
  | [(p, q)], _ =>
    rw [row1, movedP, List.map_cons, List.map_nil, row1]
    simp [shiftZ, shiftG, downS, stepS]
    grind
  | [(p, q), (t, s)], _ =>
    rw [row2, movedP, List.map_cons, List.map_cons, List.map_nil, row2]
    simp [shiftZ, shiftG, downS, stepS]
    grind
  | [(p, q), (t, s), (v, u)], _ =>
    rw [row3, movedP, List.map_cons, List.map_cons, List.map_cons, List.map_nil, row3]
    simp [shiftZ, shiftG, downS, stepS]
    grind
  | _ :: _ :: _ :: _ :: _, h => simp at h
end Mine
end

-- MP7
section
set_option maxRecDepth 100000
namespace Mine
open PySem

/-- the step of a row of numbers -/
noncomputable def dlt (P : Nat → Int) : Nat → Int := fun n => P (n + 1) - P n
/-- of degree d at most -/
noncomputable def Dg : Nat → (Nat → Int) → Prop
  | 0, P => ∀ n, P (n + 1) = P n
  | d + 1, P => Dg d (dlt P)
theorem Dg.up : ∀ {d : Nat} {P : Nat → Int}, Dg d P → Dg (d + 1) P
  | 0, P, h => fun n => by have := h n; have := h (n + 1); unfold dlt; lia
  | d + 1, P, h => Dg.up (d := d) h
theorem Dg.congr {d : Nat} {P Q : Nat → Int} (h : Dg d P) (e : ∀ n, P n = Q n) : Dg d Q := (funext e : P = Q) ▸ h
theorem Dg.add : ∀ {d : Nat} {P Q : Nat → Int}, Dg d P → Dg d Q → Dg d fun n => P n + Q n
  | 0, P, Q, h, h' => fun n => by have := h n; have := h' n; simp only []; lia
  | d + 1, P, Q, h, h' => by
    show Dg d (dlt fun n => P n + Q n)
    exact Dg.congr (Dg.add (d := d) (P := dlt P) (Q := dlt Q) h h') fun n => by simp only [dlt]; lia
theorem Dg.scale (c : Int) : ∀ {d : Nat} {P : Nat → Int}, Dg d P → Dg d fun n => c * P n
  | 0, P, h => fun n => by simp only []; rw [h n]
  | d + 1, P, h => by
    show Dg d (dlt fun n => c * P n)
    exact Dg.congr (Dg.scale c (d := d) (P := dlt P) h) fun n => by unfold dlt; rw [Int.mul_sub]
theorem Dg.mulLin (x y : Int) : ∀ {d : Nat} {P : Nat → Int}, Dg d P → Dg (d + 1) fun n => (x + y * (n : Int)) * P n
  | 0, P, h => fun n => by
    have h1 := h n
    have h2 := h (n + 1)
    unfold dlt
    simp only []
    rw [h2, h1]
    push_cast
    grind
  | d + 1, P, h => by
    show Dg (d + 1) (dlt _)
    refine Dg.congr (Dg.add (Dg.mulLin x y (d := d) (P := dlt P) h) (Dg.scale y (Dg.add (Dg.up (d := d) (P := dlt P) h) (show Dg (d + 1) P from h)))) fun n => ?_
    unfold dlt
    push_cast
    grind
theorem dg_prod (l : List (Int × Int)) : Dg l.length fun n => prodL (l.map fun z => z.1 + z.2 * (n : Int)) := by
  induction l with
  | nil => intro n; rfl
  | cons z r ih => exact Dg.congr (Dg.mulLin z.1 z.2 ih) fun n => by rw [List.map_cons, prodL_cons]

/-- the row from a place on -/
noncomputable def tb (P : Nat → Int) : Nat → Nat → List Int
  | _, 0 => []
  | a, n + 1 => P a :: tb P (a + 1) n
theorem tb_snoc (P : Nat → Int) : ∀ (n a : Nat), tb P a (n + 1) = tb P a n ++ [P (a + n)]
  | 0, a => rfl
  | n + 1, a => by
    rw [tb, tb_snoc P n (a + 1)]
    conv => rhs; rw [tb]
    rw [List.cons_append, show a + 1 + n = a + (n + 1) by lia]
theorem numsF_tb (P : Nat → Int) : ∀ n : Nat, numsF P n = tb P 0 n
  | 0 => rfl
  | n + 1 => by rw [tb_snoc, ← numsF_tb P n, Nat.zero_add]; rfl
theorem dL_tb (P : Nat → Int) : ∀ (n a : Nat), dL (tb P a (n + 1)) = tb (dlt P) a n
  | 0, a => rfl
  | n + 1, a => by
    have := dL_tb P n (a + 1)
    simp only [tb] at this ⊢
    simp only [dL]
    rw [this]; rfl
/-- a place's differences -/
noncomputable def nd (P : Nat → Int) (t : Nat) : Nat → List Int
  | 0 => []
  | n + 1 => P t :: nd (dlt P) t n
theorem fdL_tb : ∀ (n : Nat) (P : Nat → Int), fdL n (tb P 0 n) = nd P 0 n
  | 0, P => rfl
  | n + 1, P => by
    have := dL_tb P n 0
    rw [tb, fdL, nd]
    rw [tb] at this
    rw [this, fdL_tb n]
theorem sumL_nd : ∀ (n : Nat) (P : Nat → Int) (t : Nat), Dg n P → sumL (nd P t (n + 1)) = nd P (t + 1) (n + 1)
  | 0, P, t, h => by simp only [nd, sumL]; rw [h t]
  | n + 1, P, t, h => by
    have := sumL_nd n (dlt P) t h
    rw [nd, nd, sumL]
    rw [nd] at this
    rw [this]
    conv => rhs; rw [nd]
    congr 1
    unfold dlt; lia
theorem iterS_nd (n : Nat) (P : Nat → Int) (h : Dg n P) : ∀ t : Nat, iterS t (nd P 0 (n + 1)) = nd P t (n + 1)
  | 0 => rfl
  | t + 1 => by rw [iterS, iterS_nd n P h t, sumL_nd n P t h]
theorem zerosL_mem (row : List Int) (x : Int) : ∀ T : Nat, x ∈ zerosL row T ↔ ∃ t : Nat, t < T ∧ x = (t : Int) ∧ (iterS t row).getD 0 0 = 0
  | 0 => by simp [zerosL]
  | T + 1 => by
    by_cases h : (iterS T row).getD 0 0 = 0
    · rw [zerosL_pos h, List.mem_append, zerosL_mem row x T, List.mem_singleton]
      constructor
      · rintro (⟨t, h1, h2, h3⟩ | rfl)
        · exact ⟨t, by lia, h2, h3⟩
        · exact ⟨T, by lia, rfl, h⟩
      · rintro ⟨t, h1, h2, h3⟩
        by_cases e : t = T
        · exact .inr (by rw [h2, e])
        · exact .inl ⟨t, by lia, h2, h3⟩
    · rw [zerosL_neg h, zerosL_mem row x T]
      constructor
      · rintro ⟨t, h1, h2, h3⟩; exact ⟨t, by lia, h2, h3⟩
      · rintro ⟨t, h1, h2, h3⟩
        by_cases e : t = T
        · subst e; exact absurd h3 h
        · exact ⟨t, by lia, h2, h3⟩
theorem zerosL_sorted (row : List Int) : ∀ T : Nat, (zerosL row T).Pairwise (· < ·)
  | 0 => .nil
  | T + 1 => by
    have ih := zerosL_sorted row T
    by_cases h : (iterS T row).getD 0 0 = 0
    · rw [zerosL_pos h, List.pairwise_append]
      refine ⟨ih, List.pairwise_singleton _ _, fun x hx y hy => ?_⟩
      obtain ⟨t, h1, h2, _⟩ := (zerosL_mem row x T).mp hx
      rw [List.mem_singleton.mp hy, h2]; lia
    · rw [zerosL_neg h]; exact ih
theorem sorted_ext : ∀ {l m : List Int}, l.Pairwise (· < ·) → m.Pairwise (· < ·) → (∀ x, x ∈ l ↔ x ∈ m) → l = m
  | [], [], _, _, _ => rfl
  | [], y :: m, _, _, h => absurd ((h y).mpr (.head _)) (by simp)
  | x :: l, [], _, _, h => absurd ((h x).mp (.head _)) (by simp)
  | x :: l, y :: m, h1, h2, h => by
    have h1' := List.pairwise_cons.mp h1
    have h2' := List.pairwise_cons.mp h2
    have e : x = y := by
      rcases List.mem_cons.mp ((h x).mp (.head _)) with e | hx
      · exact e
      · rcases List.mem_cons.mp ((h y).mpr (.head _)) with e | hy
        · exact e.symm
        · have := h2'.1 x hx; have := h1'.1 y hy; lia
    subst e
    congr 1
    refine sorted_ext h1'.2 h2'.2 fun z => ⟨fun hz => ?_, fun hz => ?_⟩
    · rcases List.mem_cons.mp ((h z).mp (.tail _ hz)) with e | q
      · subst e; have := h1'.1 _ hz; lia
      · exact q
    · rcases List.mem_cons.mp ((h z).mpr (.tail _ hz)) with e | q
      · subst e; have := h2'.1 _ hz; lia
      · exact q

theorem stored_keys (acc : List (Int × Value)) (k : Int) (v : Value) (hn : (acc.map (·.1)).Nodup) : ((stored acc k v).map (·.1)).Nodup ∧ ∀ x, x ∈ (stored acc k v).map (·.1) ↔ x = k ∨ x ∈ acc.map (·.1) := by
  unfold stored
  by_cases h : acc.any (fun kv => decide (kv.1 = k)) = true
  · rw [if_pos h]
    have e : (acc.map (fun kv => if kv.1 = k then (kv.1, v) else kv)).map (·.1) = acc.map (·.1) := by
      rw [List.map_map]
      refine List.map_congr_left fun z _ => ?_
      simp only [Function.comp]
      split <;> rfl
    rw [e]
    refine ⟨hn, fun x => ⟨.inr, ?_⟩⟩
    rintro (rfl | q)
    · obtain ⟨z, hz, hk⟩ := List.any_eq_true.mp h
      exact List.mem_map.mpr ⟨z, hz, of_decide_eq_true hk⟩
    · exact q
  · rw [if_neg h, List.map_append]
    have hk : k ∉ acc.map (·.1) := fun q => by
      obtain ⟨z, hz, e⟩ := List.mem_map.mp q
      exact h (List.any_eq_true.mpr ⟨z, hz, decide_eq_true e⟩)
    refine ⟨?_, fun x => ?_⟩
    · rw [List.nodup_append]
      refine ⟨hn, by simp, fun a ha b hb => ?_⟩
      simp at hb
      rintro rfl
      exact hk (hb ▸ ha)
    · simp; rw [or_comm]
theorem storedAll_keys : ∀ (ks : List Int) (acc : List (Int × Value)), (acc.map (·.1)).Nodup → ((storedAll ks acc).map (·.1)).Nodup ∧ ∀ x, x ∈ (storedAll ks acc).map (·.1) ↔ x ∈ ks ∨ x ∈ acc.map (·.1)
  | [], acc, h => ⟨h, fun x => by simp [storedAll]⟩
  | k :: ks, acc, h => by
    obtain ⟨h1, h2⟩ := stored_keys acc k (.bool true) h
    obtain ⟨h3, h4⟩ := storedAll_keys ks (stored acc k (.bool true)) h1
    refine ⟨h3, fun x => ?_⟩
    show x ∈ (storedAll ks (stored acc k (.bool true))).map (·.1) ↔ _
    rw [h4, h2, List.mem_cons]
    constructor
    · rintro (q | q | q)
      · exact .inl (.inr q)
      · exact .inl (.inl q)
      · exact .inr q
    · rintro ((q | q) | q)
      · exact .inr (.inl q)
      · exact .inl q
      · exact .inr (.inr q)

/-- a whole distance of two roots -/
noncomputable def Whole (xs ys : List (Int × Int)) (h : Int) : Prop := ∃ x ∈ xs, ∃ y ∈ ys, y.1 * x.2 - x.1 * y.2 = h * (x.2 * y.2)

theorem dueK_mem {xs ys : List (Int × Int)} (hx : ∀ x ∈ xs, 1 ≤ x.2) (hy : ∀ y ∈ ys, 1 ≤ y.2) (h : Int) : h ∈ dueK (apartL xs ys) ↔ 0 ≤ h ∧ Whole xs ys h := by
  unfold dueK apartL Whole
  constructor
  · intro q
    obtain ⟨z, hz, rfl⟩ := List.mem_map.mp q
    obtain ⟨hz, hc⟩ := List.mem_filter.mp hz
    obtain ⟨x, hx', hz⟩ := List.mem_flatMap.mp hz
    obtain ⟨y, hy', rfl⟩ := List.mem_map.mp hz
    simp only [Bool.and_eq_true, decide_eq_true_eq] at hc
    have h1 := hx x hx'; have h2 := hy y hy'
    have hpos : 0 < x.2 * y.2 := Int.mul_pos (by lia) (by lia)
    refine ⟨?_, x, hx', y, hy', (Int.fdiv_mul_cancel_of_fmod_eq_zero hc.1).symm⟩
    exact Int.fdiv_nonneg hc.2 (by lia)
  · rintro ⟨h0, x, hx', y, hy', e⟩
    have h1 := hx x hx'; have h2 := hy y hy'
    have hpos : 0 < x.2 * y.2 := Int.mul_pos (by lia) (by lia)
    refine List.mem_map.mpr ⟨(y.1 * x.2 - x.1 * y.2, x.2 * y.2), List.mem_filter.mpr ⟨List.mem_flatMap.mpr ⟨x, hx', List.mem_map.mpr ⟨y, hy', rfl⟩⟩, ?_⟩, ?_⟩
    · simp only [Bool.and_eq_true, decide_eq_true_eq]
      rw [e]
      exact ⟨Int.mul_fmod_left _ _, Int.mul_nonneg h0 (by lia)⟩
    · simp only []
      rw [e, Int.mul_fdiv_cancel _ (by lia)]
end Mine
end

-- MP8
section
set_option maxRecDepth 100000
namespace Mine
open PySem

theorem natAbs_le_mul {x y : Int} {a b : Nat} (h : x.natAbs ≤ a) (h' : y.natAbs ≤ b) : (x * y).natAbs ≤ a * b := by
  rw [Int.natAbs_mul]; exact Nat.mul_le_mul h h'
noncomputable def BdM (M : Nat) (l : List Int) : Prop := ∀ x ∈ l, x.natAbs ≤ M
theorem bdM_mulF {M a b : Nat} {r : List Int} {z : Int × Int} (hr : r.length ≤ 3) (h : BdM M r) (h1 : z.1.natAbs ≤ a) (h2 : z.2.natAbs ≤ b) : BdM ((a + b) * M) (mulF r z) := by
  obtain ⟨p, q⟩ := z
  have hp : ∀ x ∈ r, (p * x).natAbs ≤ a * M := fun x hx => natAbs_le_mul h1 (h x hx)
  have hq : ∀ x ∈ r, (q * x).natAbs ≤ b * M := fun x hx => natAbs_le_mul h2 (h x hx)
  have e : (a + b) * M = a * M + b * M := Nat.add_mul a b M
  rw [e]
  match r, hr with
  | [], _ =>
    intro x hx
    have : mulF [] (p, q) = [0] := rfl
    rw [this] at hx; simp at hx; subst hx; simp
  | [r0], _ =>
    rw [mulF1]
    have p0 := hp r0 (by simp); have q0 := hq r0 (by simp)
    intro x hx
    simp only [List.mem_cons, List.not_mem_nil, or_false] at hx
    rcases hx with rfl | rfl <;> lia
  | [r0, r1], _ =>
    rw [mulF2]
    have p0 := hp r0 (by simp); have q0 := hq r0 (by simp); have p1 := hp r1 (by simp); have q1 := hq r1 (by simp)
    intro x hx
    simp only [List.mem_cons, List.not_mem_nil, or_false] at hx
    rcases hx with rfl | rfl | rfl <;> lia
  | [r0, r1, r2], _ =>
    rw [mulF3]
    have p0 := hp r0 (by simp); have q0 := hq r0 (by simp); have p1 := hp r1 (by simp); have q1 := hq r1 (by simp); have p2 := hp r2 (by simp); have q2 := hq r2 (by simp)
    intro x hx
    simp only [List.mem_cons, List.not_mem_nil, or_false] at hx
    rcases hx with rfl | rfl | rfl | rfl <;> lia
  | _ :: _ :: _ :: _ :: _, h => simp at h

/-- how large a product's coefficients are -/
theorem bdM_row {c : Int} {C a b : Nat} (hc : c.natAbs ≤ C) : ∀ (xs : List (Int × Int)), xs.length ≤ 3 → (∀ x ∈ xs, x.1.natAbs ≤ a ∧ x.2.natAbs ≤ b) → BdM ((a + b) ^ xs.length * C) (rowP c xs) := by
  have key : ∀ (xs : List (Int × Int)) (r : List Int) (M : Nat), r.length + xs.length ≤ 4 → 1 ≤ r.length → BdM M r → (∀ x ∈ xs, x.1.natAbs ≤ a ∧ x.2.natAbs ≤ b) → BdM ((a + b) ^ xs.length * M) (xs.foldl mulF r) := fun xs => by
    induction xs with
    | nil => intro r M _ _ h _; simpa using h
    | cons x xs ih =>
      intro r M hl h1 h hx
      have h2 := hx x (.head _)
      rw [List.foldl_cons]
      simp only [List.length_cons] at hl
      have := ih (mulF r x) ((a + b) * M) (by rw [mulF_len]; lia) (by rw [mulF_len]; lia) (bdM_mulF (by lia) h h2.1 h2.2) fun y hy => hx y (.tail _ hy)
      rw [List.length_cons, Nat.pow_succ, Nat.mul_assoc]
      exact this
  intro xs hx hz
  exact key xs [c] C (by simp; lia) (by simp) (fun x hx => by simp at hx; subst hx; exact hc) hz
theorem BdM.bd {M k : Nat} {l : List Int} (h : BdM M l) (hk : M ≤ 2 ^ k) : Bd k l := fun x hx => Nat.le_trans (h x hx) hk
theorem drawn_bd {c : Int} {xs : List (Int × Int)} (d : DrawnF c xs) : Bd 11 (rowP c xs) := by
  have h1 := d.le
  refine (bdM_row (C := 3) (a := 4) (b := 3) (by have := d.num; lia) xs h1 fun x hx => by have := d.fac x hx; lia).bd ?_
  have : (4 + 3) ^ xs.length ≤ (4 + 3) ^ 3 := Nat.pow_le_pow_right (by lia) h1
  lia
theorem moved_bd {c : Int} {ys : List (Int × Int)} (d : DrawnF c ys) {h : Int} (h1 : -2 ≤ h) (h2 : h ≤ 9) : Bd 20 (rowP c (movedP h ys)) := by
  have hl := d.le
  have hml : (movedP h ys).length = ys.length := by simp [movedP]
  refine (bdM_row (C := 3) (a := 31) (b := 3) (by have := d.num; lia) (movedP h ys) (by lia) fun x hx => ?_).bd ?_
  · obtain ⟨y, hy, rfl⟩ := List.mem_map.mp hx
    have q := d.fac y hy
    have q2 : (h * y.2).natAbs ≤ 9 * 3 := natAbs_le_mul (by lia) (by lia)
    simp only []
    lia
  · rw [hml]
    have : (31 + 3) ^ ys.length ≤ (31 + 3) ^ 3 := Nat.pow_le_pow_right (by lia) hl
    lia

theorem evH_own (c : Int) (xs : List (Int × Int)) (hx : xs.length ≤ 3) (z : Int × Int) (hz : z ∈ xs) : evH (rowP c xs) z = 0 := by
  rw [evH_row c xs hx z, prodL_zero.mpr (List.mem_map.mpr ⟨z, hz, by unfold crossP; grind⟩), Int.mul_zero]

/-- a root is not larger than the largest coefficient by the lead, and one more -/
theorem cauchy_id (Q u : Nat) : (Q + u) ^ 3 = Q ^ 3 + u * (Q ^ 2 + (Q + u) * Q + (Q + u) ^ 2) := by grind
theorem cauchy_sum (M Q r : Nat) : M * Q ^ 3 + M * r * Q ^ 2 + M * r ^ 2 * Q = M * (Q * (Q ^ 2 + r * Q + r ^ 2)) := by grind
theorem cauchy_nat {A M F Q r : Nat} (hQ : 1 ≤ Q) (hr : Q * (F + 2) ≤ r) (hM : M < A * (F + 1)) (h : A * r ^ 3 ≤ M * Q ^ 3 + M * r * Q ^ 2 + M * r ^ 2 * Q) : False := by
  obtain ⟨u, rfl⟩ := Nat.exists_eq_add_of_le (Nat.le_trans (Nat.le_mul_of_pos_right Q (Nat.succ_pos (F + 1))) hr)
  have hu : Q * (F + 1) ≤ u := Nat.le_of_add_le_add_left (a := Q) (Nat.le_trans (Nat.le_of_eq (by rw [Nat.mul_succ Q (F + 1), Nat.add_comm])) hr)
  rw [cauchy_sum, cauchy_id] at h
  generalize hS : Q ^ 2 + (Q + u) * Q + (Q + u) ^ 2 = S at h
  have hS0 : 0 < S := hS ▸ Nat.lt_of_lt_of_le (Nat.pow_pos hQ) (Nat.le_trans (Nat.le_add_right _ _) (Nat.le_add_right _ _))
  have hQS : 0 < Q * S := Nat.mul_pos hQ hS0
  have h1 : M * (Q * S) < A * (F + 1) * (Q * S) := Nat.mul_lt_mul_of_pos_right hM hQS
  have h2 : A * (F + 1) * (Q * S) ≤ A * (u * S) := by
    rw [Nat.mul_assoc, ← Nat.mul_assoc (F + 1), Nat.mul_comm (F + 1)]
    exact Nat.mul_le_mul_left _ (Nat.mul_le_mul_right _ hu)
  have h3 : A * (u * S) ≤ A * (Q ^ 3 + u * S) := Nat.mul_le_mul_left _ (Nat.le_add_left _ _)
  exact Nat.lt_irrefl _ (Nat.lt_of_lt_of_le h1 (Nat.le_trans h2 (Nat.le_trans h3 h)))
theorem cauchy {a0 a1 a2 a3 p q : Int} {M F : Nat} (hq : 1 ≤ q) (e : a0 * q ^ 3 + a1 * p * q ^ 2 + a2 * p ^ 2 * q + a3 * p ^ 3 = 0)
    (h0 : a0.natAbs ≤ M) (h1 : a1.natAbs ≤ M) (h2 : a2.natAbs ≤ M) (hM : M < a3.natAbs * (F + 1)) : (p.natAbs : Int) < q * (F + 2) := by
  obtain ⟨Q, rfl⟩ := Int.eq_ofNat_of_zero_le (Int.le_trans (by decide) hq)
  refine Int.not_le.mp fun hr => cauchy_nat (A := a3.natAbs) (r := p.natAbs) (Int.ofNat_le.mp hq) (Int.ofNat_le.mp hr) hM ?_
  have e' : (a3 * p ^ 3).natAbs = (a0 * Q ^ 3 + a1 * p * Q ^ 2 + a2 * p ^ 2 * Q).natAbs := by
    rw [show a3 * p ^ 3 = -(a0 * Q ^ 3 + a1 * p * Q ^ 2 + a2 * p ^ 2 * Q) from (Int.neg_eq_of_add_eq_zero e).symm, Int.natAbs_neg]
  have t1 : (a0 * (Q : Int) ^ 3).natAbs ≤ M * Q ^ 3 := by rw [Int.natAbs_mul, Int.natAbs_pow]; exact Nat.mul_le_mul_right _ h0
  have t2 : (a1 * p * (Q : Int) ^ 2).natAbs ≤ M * p.natAbs * Q ^ 2 := by rw [Int.natAbs_mul, Int.natAbs_mul, Int.natAbs_pow]; exact Nat.mul_le_mul_right _ (Nat.mul_le_mul_right _ h1)
  have t3 : (a2 * p ^ 2 * (Q : Int)).natAbs ≤ M * p.natAbs ^ 2 * Q := by rw [Int.natAbs_mul, Int.natAbs_mul, Int.natAbs_pow]; exact Nat.mul_le_mul_right _ (Nat.mul_le_mul_right _ h2)
  rw [← Int.natAbs_pow, ← Int.natAbs_mul, e']
  exact Nat.le_trans (Int.natAbs_add_le _ _) (Nat.add_le_add (Nat.le_trans (Int.natAbs_add_le _ _) (Nat.add_le_add t1 t2)) t3)
end Mine
end

-- MP9
section
set_option maxRecDepth 100000
namespace Mine
open PySem

theorem root_bd {f : List Int} {z : Int × Int} {M : Nat} (h2 : 2 ≤ f.length) (h4 : f.length ≤ 4) (hp : -4 ≤ z.1 ∧ z.1 ≤ 4) (hq : 1 ≤ z.2 ∧ z.2 ≤ 3) (e : evH f z = 0) (hl : leadZ f ≠ 0) (hM : ∀ x ∈ f, x.natAbs ≤ M) :
    (z.1.natAbs : Int) < z.2 * ((M / (leadZ f).natAbs : Nat) + 2) := by
  obtain ⟨p, q⟩ := z
  have hlt : M < (leadZ f).natAbs * (M / (leadZ f).natAbs + 1) := Nat.lt_mul_div_succ M (by lia)
  match f, h2, h4 with
  | [a0, a1], _, _ =>
    simp only [evH, List.length_cons, List.length_nil] at e
    refine cauchy (a0 := 0) (a1 := 0) (a2 := a0) (a3 := a1) hq.1 ?_ (by simp) (by simp) (hM a0 (by simp)) hlt
    grind
  | [a0, a1, a2], _, _ =>
    simp only [evH, List.length_cons, List.length_nil] at e
    refine cauchy (a0 := 0) (a1 := a0) (a2 := a1) (a3 := a2) hq.1 ?_ (by simp) (hM a0 (by simp)) (hM a1 (by simp)) hlt
    grind
  | [a0, a1, a2, a3], _, _ =>
    simp only [evH, List.length_cons, List.length_nil] at e
    refine cauchy (a0 := a0) (a1 := a1) (a2 := a2) (a3 := a3) hq.1 ?_ (hM a0 (by simp)) (hM a1 (by simp)) (hM a2 (by simp)) hlt
    grind
  | _ :: _ :: _ :: _ :: _ :: _, _, h => simp at h

theorem crossL_moved (xs ys : List (Int × Int)) (h : Int) : crossL xs (movedP h ys) = (xs.flatMap fun x => ys.map fun y => (x.1 * y.2 - x.2 * y.1, x.2 * y.2)).map fun z => z.1 + z.2 * h := by
  unfold crossL movedP
  rw [List.map_flatMap]
  congr 1
  funext x
  rw [List.map_map, List.map_map]
  refine List.map_congr_left fun y _ => ?_
  simp only [Function.comp, crossP]
  grind
theorem flat_len (xs ys : List (Int × Int)) (f : Int × Int → Int × Int → Int × Int) : (xs.flatMap fun x => ys.map fun y => f x y).length = xs.length * ys.length := by
  induction xs with
  | nil => simp
  | cons x r ih => rw [List.flatMap_cons, List.length_append, ih, List.length_map, List.length_cons, Nat.add_mul]; lia
theorem res_moved (one : Int) (xs : List (Int × Int)) (other : Int) (ys : List (Int × Int)) (h : Int) : resF one xs other (movedP h ys) =
    one ^ ys.length * other ^ xs.length * prodL ((xs.flatMap fun x => ys.map fun y => (x.1 * y.2 - x.2 * y.1, x.2 * y.2)).map fun z => z.1 + z.2 * h) := by
  unfold resF
  rw [crossL_moved, show (movedP h ys).length = ys.length by simp [movedP]]
theorem res_zero {one other : Int} {xs ys : List (Int × Int)} (h1 : one ≠ 0) (h2 : other ≠ 0) (h : Int) : resF one xs other (movedP h ys) = 0 ↔ Whole xs ys h := by
  unfold resF
  rw [Int.mul_eq_zero, Int.mul_eq_zero, prodL_zero]
  unfold crossL movedP Whole
  constructor
  · rintro ((q | q) | q)
    · exact absurd q (Int.pow_ne_zero h1)
    · exact absurd q (Int.pow_ne_zero h2)
    · obtain ⟨x, hx, q⟩ := List.mem_flatMap.mp q
      rw [List.map_map] at q
      obtain ⟨y, hy, e⟩ := List.mem_map.mp q
      refine ⟨x, hx, y, hy, ?_⟩
      simp only [Function.comp, crossP] at e
      grind
  · rintro ⟨x, hx, y, hy, e⟩
    refine .inr (List.mem_flatMap.mpr ⟨x, hx, ?_⟩)
    rw [List.map_map]
    refine List.mem_map.mpr ⟨y, hy, ?_⟩
    simp only [Function.comp, crossP]
    grind
theorem dg_res (one : Int) (xs : List (Int × Int)) (other : Int) (ys : List (Int × Int)) : Dg (xs.length * ys.length) fun h : Nat => resF one xs other (movedP h ys) := by
  have := dg_prod (xs.flatMap fun x => ys.map fun y => (x.1 * y.2 - x.2 * y.1, x.2 * y.2))
  rw [flat_len] at this
  exact Dg.congr (Dg.scale (one ^ ys.length * other ^ xs.length) this) fun n => (res_moved one xs other ys n).symm

theorem due_mem {xs ys : List (Int × Int)} {ns : List Int} (hx : ∀ x ∈ xs, 1 ≤ x.2) (hy : ∀ y ∈ ys, 1 ≤ y.2) (d : DueIs xs ys ns) (h : Int) : h ∈ ns ↔ 0 ≤ h ∧ Whole xs ys h := by
  rw [d.1.mem_iff, (storedAll_keys _ [] List.nodup_nil).2, dueK_mem hx hy]
  simp
theorem due_sorted {xs ys : List (Int × Int)} {ns : List Int} (d : DueIs xs ys ns) : ns.Pairwise (· < ·) := by
  have hn : ns.Nodup := d.1.nodup_iff.mpr (storedAll_keys _ [] List.nodup_nil).1
  exact (d.2.and hn).imp fun {a b} h => by have h1 := h.1; have h2 := h.2; lia

theorem disp_ok {one other : Int} {xs ys : List (Int × Int)} (d1 : DrawnF one xs) (d2 : DrawnF other ys) {ns : List Int} (d : DueIs xs ys ns) {Ma Mb : Nat} (hA : ∀ x ∈ rowP one xs, x.natAbs ≤ Ma) (hB : ∀ x ∈ rowP other ys, x.natAbs ≤ Mb) :
    zerosL (fdL (xs.length * ys.length + 1) (numsF (fun h => resF one xs other (movedP h ys)) (xs.length * ys.length + 1))) (2 + Ma / (leadZ (rowP one xs)).natAbs + (2 + Mb / (leadZ (rowP other ys)).natAbs) + 1) = ns := by
  have x1 := d1.pos; have x3 := d1.le; have y1 := d2.pos; have y3 := d2.le
  have ho : one ≠ 0 := by have := d1.num; lia
  have ho2 : other ≠ 0 := by have := d2.num; lia
  have hx : ∀ x ∈ xs, 1 ≤ x.2 := fun x hx => (d1.fac x hx).2.2.1
  have hy : ∀ y ∈ ys, 1 ≤ y.2 := fun y hy => (d2.fac y hy).2.2.1
  refine sorted_ext (zerosL_sorted _ _) (due_sorted d) fun h => ?_
  rw [zerosL_mem, due_mem hx hy d, numsF_tb, fdL_tb]
  have hit : ∀ t : Nat, (iterS t (nd (fun h : Nat => resF one xs other (movedP h ys)) 0 (xs.length * ys.length + 1))).getD 0 0 = resF one xs other (movedP t ys) := fun t => by
    rw [iterS_nd _ _ (dg_res one xs other ys) t]; rfl
  constructor
  · rintro ⟨t, _, rfl, e⟩
    rw [hit] at e
    exact ⟨by lia, (res_zero ho ho2 _).mp e⟩
  · rintro ⟨h0, hw⟩
    refine ⟨h.toNat, ?_, by lia, ?_⟩
    · obtain ⟨x, hx', y, hy', e⟩ := hw
      have fx := d1.fac x hx'
      have fy := d2.fac y hy'
      have ra := root_bd (f := rowP one xs) (z := x) (by rw [rowP_len]; lia) (by rw [rowP_len]; lia) ⟨fx.1, fx.2.1⟩ ⟨fx.2.2.1, fx.2.2.2⟩ (evH_own one xs x3 x hx') (leadZ_ne one xs x3 ho fun x hx' => by have := hx x hx'; lia) hA
      have rb := root_bd (f := rowP other ys) (z := y) (by rw [rowP_len]; lia) (by rw [rowP_len]; lia) ⟨fy.1, fy.2.1⟩ ⟨fy.2.2.1, fy.2.2.2⟩ (evH_own other ys y3 y hy') (leadZ_ne other ys y3 ho2 fun y hy' => by have := hy y hy'; lia) hB
      generalize Ma / (leadZ (rowP one xs)).natAbs = Fa at *
      generalize Mb / (leadZ (rowP other ys)).natAbs = Fb at *
      obtain ⟨p, q⟩ := x
      obtain ⟨t, s⟩ := y
      simp only [] at *
      have hq : 0 < q := by lia
      have hs : 0 < s := by lia
      have hqs : 0 < q * s := Int.mul_pos hq hs
      have i1 : -(p * s) < q * s * (Fa + 2) := by
        have : (p.natAbs : Int) * s < q * (Fa + 2) * s := Int.mul_lt_mul_of_pos_right ra hs
        have h2 : -p * s ≤ (p.natAbs : Int) * s := Int.mul_le_mul_of_nonneg_right (by lia) (by lia)
        grind
      have i2 : t * q < q * s * (Fb + 2) := by
        have : (t.natAbs : Int) * q < s * (Fb + 2) * q := Int.mul_lt_mul_of_pos_right rb hq
        have h2 : t * q ≤ (t.natAbs : Int) * q := Int.mul_le_mul_of_nonneg_right (by lia) (by lia)
        grind
      have i3 : h * (q * s) < ((Fa : Int) + Fb + 4) * (q * s) := by
        rw [← e]; grind
      have := Int.lt_of_mul_lt_mul_right i3 (by lia)
      lia
    · rw [hit]
      exact (res_zero ho ho2 _).mpr (by rw [Int.toNat_of_nonneg h0]; exact hw)
end Mine
end

-- MP10
section
set_option maxRecDepth 100000
namespace Mine
open PySem

theorem der1 (a0 a1 : Int) : deriveZ [a0, a1] = [a1] := by simp [deriveZ, mulIx]
theorem der2 (a0 a1 a2 : Int) : deriveZ [a0, a1, a2] = [a1, 2 * a2] := by simp [deriveZ, mulIx]; lia
theorem der3 (a0 a1 a2 a3 : Int) : deriveZ [a0, a1, a2, a3] = [a1, 2 * a2, 3 * a3] := by simp [deriveZ, mulIx]; lia

theorem SR_der (c : Int) (xs : List (Int × Int)) (h1 : 1 ≤ xs.length) (h3 : xs.length ≤ 3) :
    SR (rowP c xs) (deriveZ (rowP c xs)) = sqF c xs * leadZ (rowP c xs) * (-1) ^ (xs.length * (xs.length - 1) / 2) := by
  match xs, h1, h3 with
  | [(p, q)], _, _ =>
    rw [row1, der1]
    show (q * c) ^ 1 = _
    simp [sqF, sqs, pairN, pairI, prodL_nil, leadZ]
    grind
  | [(p, q), (t, s)], _, _ =>
    rw [row2, der2]
    show _ * _ ^ 2 - _ * _ * _ + _ * _ ^ 2 = _
    simp [sqF, sqs, pairN, pairI, prodL_nil, prodL_cons, leadZ, ptD]
    grind
  | [(p, q), (t, s), (v, u)], _, _ =>
    have hd : deriveZ (rowP c [(p, q), (t, s), (v, u)]) = [u * (t * p * c) - v * (-(s * p * c) - t * q * c), 2 * (u * (-(s * p * c) - t * q * c) - v * (s * q * c)), 3 * (u * (s * q * c))] := by
      rw [row3, der3]
    have hl : leadZ (rowP c [(p, q), (t, s), (v, u)]) = u * (s * q * c) := by rw [row3]; rfl
    rw [hd, SR_ev32, hl]
    have e1 : evH [u * (t * p * c) - v * (-(s * p * c) - t * q * c), 2 * (u * (-(s * p * c) - t * q * c) - v * (s * q * c)), 3 * (u * (s * q * c))] (p, q) = c * q * ((p * s - t * q) * (p * u - v * q)) := by
      simp only [evH, List.length_cons, List.length_nil]; grind
    have e2 : evH [u * (t * p * c) - v * (-(s * p * c) - t * q * c), 2 * (u * (-(s * p * c) - t * q * c) - v * (s * q * c)), 3 * (u * (s * q * c))] (t, s) = -(c * s * ((p * s - t * q) * (t * u - v * s))) := by
      simp only [evH, List.length_cons, List.length_nil]; grind
    have e3 : evH [u * (t * p * c) - v * (-(s * p * c) - t * q * c), 2 * (u * (-(s * p * c) - t * q * c) - v * (s * q * c)), 3 * (u * (s * q * c))] (v, u) = c * u * ((p * u - v * q) * (t * u - v * s)) := by
      simp only [evH, List.length_cons, List.length_nil]; grind
    rw [e1, e2, e3]
    simp [sqF, sqs, pairN, pairI, prodL_nil, prodL_cons, leadZ, ptD]
    generalize p * s - t * q = A
    generalize p * u - v * q = B
    generalize t * u - v * s = D
    grind

theorem der_ne {f : List Int} (h2 : 2 ≤ f.length) (h4 : f.length ≤ 4) (hl : leadZ f ≠ 0) {k : Nat} (hb : Bd k f) : Tidy (deriveZ f) ∧ Bd (k + 2) (deriveZ f) ∧ (deriveZ f).length = f.length - 1 := by
  have e : 2 ^ (k + 2) = 2 ^ k * 4 := by rw [Nat.pow_add]
  refine ⟨?_, ?_, deriveZ_len f⟩
  · match f, h2, h4 with
    | [a0, a1], _, _ =>
      rw [der1]; intro x hx e
      simp at hx; rw [← hx] at e; exact hl e
    | [a0, a1, a2], _, _ =>
      rw [der2]; intro x hx e
      simp at hx; have : a2 = 0 := by lia
      exact hl this
    | [a0, a1, a2, a3], _, _ =>
      rw [der3]; intro x hx e
      simp at hx; have : a3 = 0 := by lia
      exact hl this
    | _ :: _ :: _ :: _ :: _ :: _, _, h => simp at h
  · unfold Bd; rw [e]
    match f, h2, h4 with
    | [a0, a1], _, _ =>
      rw [der1]; intro x hx
      have h1 := hb a1 (by simp)
      simp only [List.mem_cons, List.not_mem_nil, or_false] at hx; subst hx; lia
    | [a0, a1, a2], _, _ =>
      rw [der2]; intro x hx
      have h1 := hb a1 (by simp); have h2 := hb a2 (by simp)
      simp only [List.mem_cons, List.not_mem_nil, or_false] at hx; rcases hx with rfl | rfl <;> lia
    | [a0, a1, a2, a3], _, _ =>
      rw [der3]; intro x hx
      have h1 := hb a1 (by simp); have h2 := hb a2 (by simp); have h3 := hb a3 (by simp)
      simp only [List.mem_cons, List.not_mem_nil, or_false] at hx; rcases hx with rfl | rfl | rfl <;> lia
    | _ :: _ :: _ :: _ :: _ :: _, _, h => simp at h

theorem der_facts {c : Int} {xs : List (Int × Int)} (d : DrawnF c xs) :
    ∃ v, ResIs (rowP c xs) (deriveZ (rowP c xs)) v ∧ dval (rowP c xs) v = sqF c xs ∧ v = sqF c xs * leadZ (rowP c xs) * (-1) ^ (xs.length * (xs.length - 1) / 2) := by
  have h1 := d.pos; have h3 := d.le
  have hc : c ≠ 0 := by have := d.num; lia
  have hl := leadZ_ne c xs h3 hc fun x hx => by have := d.fac x hx; lia
  have ht := tidy_row c xs h3 hc fun x hx => by have := d.fac x hx; lia
  have hlen := rowP_len c xs
  have hb := drawn_bd d
  obtain ⟨t', b', l'⟩ := der_ne (f := rowP c xs) (by lia) (by lia) hl hb
  have e := SR_der c xs h1 h3
  refine ⟨_, resIs_ge (a := rowP c xs) (b := deriveZ (rowP c xs)) 13 (by lia) (by lia) (by lia) ht t' (hb.mono (by lia)) b' (by lia), ?_, e⟩
  rw [e]
  unfold dval
  rw [hlen, Nat.add_sub_cancel, show xs.length + 1 - 2 = xs.length - 1 by lia]
  have hm : xs.length * (xs.length - 1) / 2 = 0 ∨ xs.length * (xs.length - 1) / 2 = 1 ∨ xs.length * (xs.length - 1) / 2 = 3 := by
    have : xs.length = 1 ∨ xs.length = 2 ∨ xs.length = 3 := by lia
    rcases this with e | e | e <;> rw [e] <;> simp
  have e1 : sqF c xs * leadZ (rowP c xs) * 1 = sqF c xs * leadZ (rowP c xs) := Int.mul_one _
  have e2 : sqF c xs * leadZ (rowP c xs) * -1 = -sqF c xs * leadZ (rowP c xs) := by grind
  rcases hm with e | e | e <;> rw [e]
  · rw [if_neg (by decide), Int.pow_zero, e1, Int.mul_fdiv_cancel _ hl]
  · rw [if_pos (by decide), show (-1 : Int) ^ 1 = -1 from rfl, e2, Int.mul_fdiv_cancel _ hl, Int.neg_neg]
  · rw [if_pos (by decide), show (-1 : Int) ^ 3 = -1 from rfl, e2, Int.mul_fdiv_cancel _ hl, Int.neg_neg]

theorem facts_ok (one : Int) (xs : List (Int × Int)) (other : Int) (ys : List (Int × Int)) (d1 : DrawnF one xs) (d2 : DrawnF other ys) : Facts one xs other ys (rowP one xs) (rowP other ys) := by
  have x1 := d1.pos; have x3 := d1.le; have y1 := d2.pos; have y3 := d2.le
  have ho : one ≠ 0 := by have := d1.num; lia
  have ho2 : other ≠ 0 := by have := d2.num; lia
  have hx : ∀ x ∈ xs, 1 ≤ x.2 := fun x hx => (d1.fac x hx).2.2.1
  have hy : ∀ y ∈ ys, 1 ≤ y.2 := fun y hy => (d2.fac y hy).2.2.1
  have hx0 : ∀ x ∈ xs, x.2 ≠ 0 := fun x h => by have := hx x h; lia
  have hy0 : ∀ y ∈ ys, y.2 ≠ 0 := fun y h => by have := hy y h; lia
  have hl1 := rowP_len one xs
  have hl2 := rowP_len other ys
  have b1 := drawn_bd d1
  have b2 := drawn_bd d2
  refine
  { lf := hl1
    lg := hl2
    bf := b1
    bg := b2
    tf := leadZ_ne one xs x3 ho hx0
    tg := leadZ_ne other ys y3 ho2 hy0
    r1 := resIs_row one xs other ys 11 x3 y3 ho ho2 hx0 hy0 b1 b2 (by lia)
    r2 := resIs_row other ys one xs 11 y3 x3 ho2 ho hy0 hx0 b2 b1 (by lia)
    df := der_facts d1
    dg := ?_
    rs := fun h h1 h2 => ?_
    disp := fun ns d Ma Mb _ hA _ hB => ?_
    due := fun ns d h h0 h6 => ?_
    last := ?_ }
  · obtain ⟨v, p, q, _⟩ := der_facts d2
    exact ⟨v, p, q⟩
  · rw [shift_row other ys h y3]
    refine resIs_row one xs other (movedP h ys) 20 x3 (by simpa [movedP] using y3) ho ho2 hx0 (fun z hz => ?_) (b1.mono (by lia)) (moved_bd d2 h1 h2) (by lia)
    obtain ⟨y, hy', rfl⟩ := List.mem_map.mp hz
    exact hy0 y hy'
  · rw [hl1, hl2, Nat.add_sub_cancel, Nat.add_sub_cancel]
    exact disp_ok d1 d2 d hA hB
  · rw [res_zero ho ho2, due_mem hx hy d]
    exact ⟨fun q => ⟨h0, q⟩, fun q => q.2⟩
  · have := resIs_row one [] other ys 11 (by decide) y3 ho ho2 (fun x hx => nomatch hx) hy0 (fun x hx => by rw [row0] at hx; simp at hx; subst hx; have := d1.num; lia) b2 (by lia)
    have e : resF one [] other ys = one ^ ys.length := by unfold resF crossL; simp [prodL_nil]
    rw [e, row0] at this
    exact this
end Mine
end

-- MLawC
section
set_option maxRecDepth 100000
namespace Mine
open PySem PySem.W PyProof.Rows

theorem execs_app (env : Env) : ∀ (pre rest : List Stmt), execs (pre ++ rest) env = (execs pre env >>= fun f => match f with | .next => execs rest env | f => pure f)
  | [], rest => by
    rw [List.nil_append, execs_nil, pure_bind]
  | t :: pre, rest => by
    rw [List.cons_append, execs_cons, execs_cons, bind_assoc]
    congr 1
    funext f
    cases f with
    | next => exact execs_app env pre rest
    | brk => simp only [pure_bind]
    | cont => simp only [pure_bind]
    | ret v => simp only [pure_bind]

theorem execs_split {M : Model} {A : Around} {env : Env} {pre rest : List Stmt} {Q : Flow → Shared → Prop} {E : Value → Shared → Prop} {s : Shared}
    (h : wpAny M A (execs pre env) (fun f s' => f = .next ∧ wpAny M A (execs rest env) Q E s') E s) : wpAny M A (execs (pre ++ rest) env) Q E s := by
  rw [execs_app]
  refine wpAny_bind (wpAny_mono h (fun f s' q => ?_) fun _ _ q => q)
  obtain ⟨rfl, q⟩ := q
  exact q

section
variable {C : Cx}
noncomputable def threeV (one : Int) (ys : List (Int × Int)) (g : List Int) : Vars := fun x =>
  if x = "one" then some (.int one) else if x = "others" then some (.list (pts ys)) else if x = "g" then some (.list (pis g)) else none
theorem threeV_ok {rho : Vars} {one : Int} {ys : List (Int × Int)} {g : List Int} (e1 : rho "one" = some (.int one)) (e2 : rho "others" = some (.list (pts ys))) (e3 : rho "g" = some (.list (pis g))) {x : Str} {p : PV} (h : threeV one ys g x = some p) :
    rho x = some p ∧ noMut p = true := by
  unfold threeV at h
  split at h
  · rename_i q; subst q; cases h; exact ⟨e1, rfl⟩
  · split at h
    · rename_i q; subst q; cases h; exact ⟨e2, noMuts_pts ys⟩
    · split at h
      · rename_i q; subst q; cases h; exact ⟨e3, noMuts_pis g⟩
      · cases h

theorem let_go {hd : Option Value} {env : Env} {al : List Addr} {st : Sto} {rho rho' : Vars} {h : Heap} (a : Amb C hd al st h) (e : EnvSt C env al st rho h) (hr : ∀ x p, rho' x = some p → rho x = some p ∧ noMut p = true) :
    Amb C hd [] [] h ∧ EnvSt C env [] [] rho' h := by
  have rp : ∀ {v p}, Rep al (Live al st) h v p → noMut p = true → Rep [] (Live [] []) h v p := fun r n =>
    Rep.anyAl (Rep.mono (al' := al) (fun b o g _ nl => ⟨g, fun ⟨k, l, q, _⟩ => by simp at q⟩) (fun _ _ q => q) r) n
  refine ⟨⟨a.base, a.hand, ⟨rfl, List.nodup_nil, fun x hx => (nomatch hx), fun i l q => by simp at q⟩⟩, ⟨?_, fun x c hx => ?_, e.apart, e.isCells, e.newL, e.newC⟩⟩
  · obtain ⟨m, n, l⟩ := e.locs
    refine ⟨m, n, fun x p hx hp => ?_⟩
    obtain ⟨h1, h2⟩ := hr x p hp
    obtain ⟨v, hv, r⟩ := l x p hx h1
    exact ⟨v, hv, rp r h2⟩
  · obtain ⟨ov, g, l⟩ := e.cells x c hx
    refine ⟨ov, g, fun p hp => ?_⟩
    obtain ⟨h1, h2⟩ := hr x p hp
    obtain ⟨v, hv, r⟩ := l p h1
    exact ⟨v, hv, rp r h2⟩

noncomputable def retStmt38 : Stmt := (fnBody 38).getD 13 (.Pass ⟨0, 0, 0, 0⟩)
theorem body38 : fnBody 38 = pre38 ++ [tryStmt38, retStmt38] := rfl

theorem law_call (hF : Fns C) (hc : C.calm = true) (hint : Names C "int" (.type "int")) (hsrt : Names C "sorted" (.builtin "sorted")) (hdict : Names C "dict" (.type "dict"))
    {Cl N fI : Addr} {mN : Str → Option Value} (X : ExcF C Cl N fI mN) {fa : Addr} {o : Obj} {pm code doc : Value} (ho : C.h0.get? fa = some o) (hd : o.data = .func (Calls.docDef (fnName 38) (fnParams 38) (fnBody 38) (fnScope 38) pm code doc)) (hcd : C.h0.CodeRec code (fnName 38))
    {A : Around} {s : Shared} {v : Value} {ns : List Int} (hns : ns.length ≤ 1000) (rm : Room 41 A) (hA : A.handled = none) (hfr : A.frames = some []) (am : Amb C none [] [] s.heap) (r : Rep [] (Live [] []) s.heap v (.list (pis ns)))
    {Q E : Value → Shared → Prop} (hQ : ∀ h' tk, (∀ b o, C.h0.get? b = some o → h'.get? b = some o) → Q (.bool true) { s with heap := h', toks := tk }) :
    wpAny C.M A (call (.ref fa) [v]) Q E s := by
  refine call_env (al := []) (st := []) (names := ["script"]) (ps := [.list (pis ns)]) ho hd hcd (fun vs hv => ?_) rfl (by decide) (by decide) (by decide) rfl rfl rfl (by have := rm.depth; omega) (by rw [hA]; exact am) (.cons r .nil) fun env h1 tk1 ok a1 e1 k1 hfe hnl hnc => ?_
  · match vs, hv with
    | [x], _ => rfl
  rw [body38]
  have rm1 : Room 40 (A.deeper env) := rm.deeper
  refine execs_split ((law_pre hF hc hint hsrt hdict facts_ok ns hns).use (s := { s with heap := h1, toks := tk1 }) rm1 ok a1 e1 fun f h2 tk2 al2 st2 rho2 g k2 a2 e2 r2 q2 => ?_)
  obtain ⟨rfl, one, xs, other, ys, d1, d2, q3, q4, q5⟩ := q2
  cases r2
  refine ⟨rfl, ?_⟩
  rw [show (A.deeper env).handled = none from hA] at a2
  obtain ⟨a3, e3⟩ := let_go (rho' := threeV one ys (rowP other ys)) a2 e2 fun x p h => threeV_ok q3 q4 q5 h
  refine wpAny_execs_cons ?_
  refine law_try (s := { s with heap := h2, toks := tk2 }) hF trivial X (rm1.mono (by decide)) hA (Around.frames_deeper hfr) hfe ok a3 e3 rfl rfl rfl (by have := d2.le; omega) (by have := d1.num; omega) (facts_ok one xs other ys d1 d2).last fun h' tk hk => ?_
  exact hQ h' tk hk
end
end Mine
end

-- MHead
section
set_option maxRecDepth 100000
set_option maxHeartbeats 8000000
namespace Mine
open PySem PySem.W PyProof.Rows

noncomputable def viewF : Program := view PySem.Challenge.pw_pf0039_01 [1, 3, 4, 6, 7, 8, 9, 10, 11, 12, 13, 14, 15, 16, 18, 19, 21, 22, 23, 24, 25, 27, 29, 30, 31, 33, 34, 35, 36, 37, 38]
noncomputable def ent (P : Params) (k : Str) (n : Nat) (v : Value) : DictEntry := ⟨PyData.keyHash P k, .str k n, v⟩
noncomputable def obj3 (P : Params) : Obj :=
  ⟨.type "dict", none, .dict #[
    ent P "__name__" 165 (.str "law_pf0039_01" 429),
    ent P "__doc__" 166 .none,
    ent P "__package__" 167 .none,
    ent P "__loader__" 168 (.builtin "__main__.__loader__#opaque"),
    ent P "__spec__" 169 .none,
    ent P "__annotations__" 170 (.ref 6),
    ent P "__builtins__" 171 (.ref 4),
    ent P "__file__" 173 (.str "/claim/cut.py" 172),
    ent P "__cached__" 174 .none,
    ent P "CasFail" 219 (.ref 31),
    ent P "gcd" 229 (.ref 41),
    ent P "gcd_all" 238 (.ref 48),
    ent P "ztrim" 248 (.ref 55),
    ent P "zdegree" 255 (.ref 62),
    ent P "zlead" 262 (.ref 69),
    ent P "zadd" 268 (.ref 74),
    ent P "zneg" 274 (.ref 79),
    ent P "zsub" 282 (.ref 86),
    ent P "zscale" 288 (.ref 91),
    ent P "zraise" 296 (.ref 98),
    ent P "zcontent" 303 (.ref 105),
    ent P "zderive" 309 (.ref 110),
    ent P "zshift" 320 (.ref 117),
    ent P "check_bottom" 329 (.ref 124),
    ent P "pseudo" 345 (.ref 131),
    ent P "divided" 353 (.ref 136),
    ent P "full_rest" 359 (.ref 141),
    ent P "row_resultant" 373 (.ref 148),
    ent P "resultant" 385 (.ref 155),
    ent P "discriminant" 394 (.ref 162),
    ent P "root_bound" 402 (.ref 167),
    ent P "first_differences" 410 (.ref 172),
    ent P "zeros_on" 422 (.ref 179),
    ent P "dispersions" 428 (.ref 184),
    ent P "_law_draw" 439 (.ref 191),
    ent P "_law_drawn" 455 (.ref 198),
    ent P "_law_times" 464 (.ref 205),
    ent P "_law_resultant" 470 (.ref 210),
    ent P "_law_squares" 476 (.ref 215),
    ent P "law" 482 (.ref 220)] 40, #[]⟩
noncomputable def obj30 (P : Params) : Obj :=
  ⟨.type "dict", none, .dict #[
    ent P "__module__" 196 (.str "cas.errors" 187),
    ent P "__firstlineno__" 200 (.int 2 199),
    ent P "__init__" 209 (.ref 28),
    ent P "__static_attributes__" 212 (.ref 29),
    ent P "__weakref__" 214 (.ref 32),
    ent P "__doc__" 215 .none] 3, #[]⟩
noncomputable def obj27 : Obj := ⟨.type "code", none, .fields #[Value.str ("__init__") 201, Value.str ("CasFail.__init__") 202, Value.str ("/claim/cut.py") 203, Value.int 4 0, Value.int 3 0, Value.int 0 0, Value.int 0 0, Value.int 3 0, Value.ref 22, Value.bool true, Value.int 181 0, Value.ref 23, Value.none, Value.ref 24, Value.ref 25, Value.ref 26, Value.int 207 0, Value.int 4 0, Value.str ("/claim/cut.py") 208], #[]⟩
noncomputable def obj28 : Obj := ⟨.type "function", none, .func (initFd (.str "cas.errors" 187) (.ref 27) .none), #[]⟩
noncomputable def obj31 : Obj := ⟨.type "type", none, .cls { name := "CasFail", bases := [Value.type "Exception"], mro := [Value.ref 31, Value.type "Exception", Value.type "BaseException", Value.type "object"], ns := 30, qualname := "CasFail" }, #[some (Value.ref 15), none, some (Value.str ("CasFail") 189), some (Value.str ("CasFail") 197), some (Value.builtin "Exception.__new__"), some (Value.bool true)]⟩
noncomputable def fragF (P : Params) : Frag := [(3, obj3 P), (27, obj27), (28, obj28), (30, obj30 P), (31, obj31)]
theorem fragF_at : ∀ P, [3, 27, 28, 30, 31] = (fragF P).map (·.1) := fun _ => rfl
noncomputable abbrev rwF : OpenLaw := PySem.Challenge.rw_pf0039_01
noncomputable abbrev hookF : Hook := kHook fragF [3, 27, 28, 30, 31] fragF_at
theorem wellF : rwF.wellSaid = true := by kernel_rfl
theorem leftF : LeftO rwF.row.prog viewF [] (fun s => xlAt viewF [] s && recOk (RowW.records rwF.row.toRowW) s) (Hook.obs hookF) (Hook.val hookF) 2500 := by
  intro w
  kernel_rfl
end Mine
end

-- MHeadW
section
set_option maxRecDepth 100000
namespace Mine
open PySem PySem.W PyProof.Rows

section
variable {w : World} {s0 s1 : Shared} {mg mb : Str → Option Value}

noncomputable abbrev TopF (s0 s1 : Shared) (mg mb : Str → Option Value) : Prop := Top viewF (looseW viewF []) (ExcName.means s0.heap) mg mb s1.heap

noncomputable def lawCx (w : World) (T : TopF s0 s1 mg mb) : Cx := ⟨PySem.Challenge.rw_pf0039_01.row.prog, w, true, s1.heap, mg, mb, T.g, T.b, T.nolimit, T.builtins⟩

noncomputable def fnPos (i : Nat) : Pos := match fnStmt i with | .FunctionDef _ _ _ _ _ _ _ _ _ p => p | _ => ⟨0, 0, 0, 0⟩
theorem hasFn_of (T : TopF s0 s1 mg mb) (i k : Nat) (h : (recsOf viewF)[k]? = some ⟨fnName i, fnParams i, fnBody i, fnScope i, fnPos i⟩) : HasFn (lawCx w T) i := by
  obtain ⟨a, o, pm, code, doc, h1, h2, h3, h4⟩ := T.fn _ (List.mem_of_getElem? h)
  exact ⟨a, o, pm, code, doc, h1, h2, h3, h4⟩
theorem names_of (T : TopF s0 s1 mg mb) (KX : (fragF w.params).In s1.heap) {f : Str} {v : Value} (h : nsIn (fragF w.params) mainGlobals f = some none) (hn : f ≠ "__name__") (hb : bootBuiltins f = some v) : Names (lawCx w T) f v :=
  .inr ⟨mg_none_of KX T.g h, hn, hb⟩
theorem rec3 : (recsOf viewF)[0]? = some ⟨fnName 3, fnParams 3, fnBody 3, fnScope 3, fnPos 3⟩ := by kernel_rfl
theorem rec4 : (recsOf viewF)[1]? = some ⟨fnName 4, fnParams 4, fnBody 4, fnScope 4, fnPos 4⟩ := by kernel_rfl
theorem rec6 : (recsOf viewF)[2]? = some ⟨fnName 6, fnParams 6, fnBody 6, fnScope 6, fnPos 6⟩ := by kernel_rfl
theorem rec7 : (recsOf viewF)[3]? = some ⟨fnName 7, fnParams 7, fnBody 7, fnScope 7, fnPos 7⟩ := by kernel_rfl
theorem rec8 : (recsOf viewF)[4]? = some ⟨fnName 8, fnParams 8, fnBody 8, fnScope 8, fnPos 8⟩ := by kernel_rfl
theorem rec9 : (recsOf viewF)[5]? = some ⟨fnName 9, fnParams 9, fnBody 9, fnScope 9, fnPos 9⟩ := by kernel_rfl
theorem rec10 : (recsOf viewF)[6]? = some ⟨fnName 10, fnParams 10, fnBody 10, fnScope 10, fnPos 10⟩ := by kernel_rfl
theorem rec11 : (recsOf viewF)[7]? = some ⟨fnName 11, fnParams 11, fnBody 11, fnScope 11, fnPos 11⟩ := by kernel_rfl
theorem rec12 : (recsOf viewF)[8]? = some ⟨fnName 12, fnParams 12, fnBody 12, fnScope 12, fnPos 12⟩ := by kernel_rfl
theorem rec13 : (recsOf viewF)[9]? = some ⟨fnName 13, fnParams 13, fnBody 13, fnScope 13, fnPos 13⟩ := by kernel_rfl
theorem rec14 : (recsOf viewF)[10]? = some ⟨fnName 14, fnParams 14, fnBody 14, fnScope 14, fnPos 14⟩ := by kernel_rfl
theorem rec15 : (recsOf viewF)[11]? = some ⟨fnName 15, fnParams 15, fnBody 15, fnScope 15, fnPos 15⟩ := by kernel_rfl
theorem rec16 : (recsOf viewF)[12]? = some ⟨fnName 16, fnParams 16, fnBody 16, fnScope 16, fnPos 16⟩ := by kernel_rfl
theorem rec18 : (recsOf viewF)[13]? = some ⟨fnName 18, fnParams 18, fnBody 18, fnScope 18, fnPos 18⟩ := by kernel_rfl
theorem rec19 : (recsOf viewF)[14]? = some ⟨fnName 19, fnParams 19, fnBody 19, fnScope 19, fnPos 19⟩ := by kernel_rfl
theorem rec21 : (recsOf viewF)[15]? = some ⟨fnName 21, fnParams 21, fnBody 21, fnScope 21, fnPos 21⟩ := by kernel_rfl
theorem rec22 : (recsOf viewF)[16]? = some ⟨fnName 22, fnParams 22, fnBody 22, fnScope 22, fnPos 22⟩ := by kernel_rfl
theorem rec23 : (recsOf viewF)[17]? = some ⟨fnName 23, fnParams 23, fnBody 23, fnScope 23, fnPos 23⟩ := by kernel_rfl
theorem rec24 : (recsOf viewF)[18]? = some ⟨fnName 24, fnParams 24, fnBody 24, fnScope 24, fnPos 24⟩ := by kernel_rfl
theorem rec25 : (recsOf viewF)[19]? = some ⟨fnName 25, fnParams 25, fnBody 25, fnScope 25, fnPos 25⟩ := by kernel_rfl
theorem rec27 : (recsOf viewF)[20]? = some ⟨fnName 27, fnParams 27, fnBody 27, fnScope 27, fnPos 27⟩ := by kernel_rfl
theorem rec29 : (recsOf viewF)[21]? = some ⟨fnName 29, fnParams 29, fnBody 29, fnScope 29, fnPos 29⟩ := by kernel_rfl
theorem rec30 : (recsOf viewF)[22]? = some ⟨fnName 30, fnParams 30, fnBody 30, fnScope 30, fnPos 30⟩ := by kernel_rfl
theorem rec31 : (recsOf viewF)[23]? = some ⟨fnName 31, fnParams 31, fnBody 31, fnScope 31, fnPos 31⟩ := by kernel_rfl
theorem rec33 : (recsOf viewF)[24]? = some ⟨fnName 33, fnParams 33, fnBody 33, fnScope 33, fnPos 33⟩ := by kernel_rfl
theorem rec34 : (recsOf viewF)[25]? = some ⟨fnName 34, fnParams 34, fnBody 34, fnScope 34, fnPos 34⟩ := by kernel_rfl
theorem rec35 : (recsOf viewF)[26]? = some ⟨fnName 35, fnParams 35, fnBody 35, fnScope 35, fnPos 35⟩ := by kernel_rfl
theorem rec36 : (recsOf viewF)[27]? = some ⟨fnName 36, fnParams 36, fnBody 36, fnScope 36, fnPos 36⟩ := by kernel_rfl
theorem rec37 : (recsOf viewF)[28]? = some ⟨fnName 37, fnParams 37, fnBody 37, fnScope 37, fnPos 37⟩ := by kernel_rfl
theorem rec38 : (recsOf viewF)[29]? = some ⟨fnName 38, fnParams 38, fnBody 38, fnScope 38, fnPos 38⟩ := by kernel_rfl
theorem fns_of (T : TopF s0 s1 mg mb) (KX : (fragF w.params).In s1.heap) : Fns (lawCx w T) where
  f3 := hasFn_of T 3 0 rec3
  f4 := hasFn_of T 4 1 rec4
  f6 := hasFn_of T 6 2 rec6
  f7 := hasFn_of T 7 3 rec7
  f8 := hasFn_of T 8 4 rec8
  f9 := hasFn_of T 9 5 rec9
  f10 := hasFn_of T 10 6 rec10
  f11 := hasFn_of T 11 7 rec11
  f12 := hasFn_of T 12 8 rec12
  f13 := hasFn_of T 13 9 rec13
  f14 := hasFn_of T 14 10 rec14
  f15 := hasFn_of T 15 11 rec15
  f16 := hasFn_of T 16 12 rec16
  f18 := hasFn_of T 18 13 rec18
  f19 := hasFn_of T 19 14 rec19
  f21 := hasFn_of T 21 15 rec21
  f22 := hasFn_of T 22 16 rec22
  f23 := hasFn_of T 23 17 rec23
  f24 := hasFn_of T 24 18 rec24
  f25 := hasFn_of T 25 19 rec25
  f27 := hasFn_of T 27 20 rec27
  f29 := hasFn_of T 29 21 rec29
  f30 := hasFn_of T 30 22 rec30
  f31 := hasFn_of T 31 23 rec31
  f33 := hasFn_of T 33 24 rec33
  f34 := hasFn_of T 34 25 rec34
  f35 := hasFn_of T 35 26 rec35
  f36 := hasFn_of T 36 27 rec36
  f37 := hasFn_of T 37 28 rec37
  abs := names_of T KX (by rfl) (by decide) (by first | boot_by_name | rfl)
  len := names_of T KX (by rfl) (by decide) (by first | boot_by_name | rfl)
  max := names_of T KX (by rfl) (by decide) (by first | boot_by_name | rfl)
  list := names_of T KX (by rfl) (by decide) (by first | boot_by_name | rfl)
  range := names_of T KX (by rfl) (by decide) (by first | boot_by_name | rfl)
  enum := names_of T KX (by rfl) (by decide) (by first | boot_by_name | rfl)

theorem ns30 : nsOkIn (fragF w.params) 30 = true := by first | kernel_rfl | with_unfolding_all rfl | (unfold nsOkIn fragF; simp [List.lookup])
theorem excF_of (T : TopF s0 s1 mg mb) (KX : (fragF w.params).In s1.heap) : ExcF (lawCx w T) 31 30 28 (s1.heap.nsMap 30) where
  bound := mg_of KX T.g (by rfl)
  cls := ⟨_, _, _, _, _, _, _, _, _, _, _, _, _, KX 31 _ (by rfl)⟩
  ns := .of_isNs (isNs_of_in KX ns30)
  init := by
    have N : s1.heap.Ns 30 (s1.heap.nsMap 30) := .of_isNs (isNs_of_in KX ns30)
    obtain ⟨o, es, ep, ho, hd, _, hf⟩ := N
    rw [← hf]
    have := KX 30 _ (by rfl)
    rw [ho] at this
    cases this
    cases hd
    rfl
  quiet := fun x hx => by
    simp only [List.mem_cons, List.not_mem_nil, or_false] at hx
    rcases hx with rfl | rfl | rfl | rfl | rfl <;> exact nsMap_none_of_in KX ns30 (by rfl)
  fn := ⟨_, _, _, _, KX 28 _ (by rfl), rfl, rfl, codeRec_of KX (by rfl)⟩
  exc := names_of T KX (by rfl) (by decide) (by first | boot_by_name | rfl)
end
end Mine
end

-- MFinal
section
set_option maxRecDepth 100000
namespace Mine
open PySem PySem.W PyProof.Rows

theorem well_reps {P : Params} {h : Heap} : ∀ {vs : List Value} {ns : List Int}, WellAll P h vs (ofPys (ns.map PyData.int)) → Reps [] (Live [] []) h vs (pis ns)
  | _, [], x => by cases x; exact .nil
  | _, n :: ns, x => by
    cases x with
    | cons h1 h2 =>
      cases h1
      exact .cons (.int _ _) (well_reps h2)
theorem no_live {b : Addr} : ¬ Live [] [] b := fun ⟨k, l, q, _⟩ => by simp at q
theorem well_rep {P : Params} {h : Heap} {v : Value} {ns : List Int} (x : Well P h v (ofPy (.list (ns.map PyData.int)))) : Rep [] (Live [] []) h v (.list (pis ns)) := by
  cases x with
  | list g r => exact .list g no_live (well_reps r)
theorem caller_room : Room 41 callerA := ⟨by decide, by decide⟩

set_option maxHeartbeats 8000000 in
theorem law_holds : PySem.Challenge.rw_pf0039_01.Holds := by
  refine holds_law wellF fun said => holds_open (q := viewF) (loose := []) (Xt := fun s => xlAt viewF [] s && recOk (RowW.records rwF.row.toRowW) s) (XP := XL viewF []) (Yf := Hook.obs hookF) (Ya := Hook.val hookF) (YP := Hook.says hookF) (N := 2500) leftF (Hook.of hookF) (Hook.keeps hookF) (fun s e => xl_of s (Bool.and_eq_true_iff.mp e).1) XL.keeps (by rfl) (by rfl) (by rfl) (fun s e => recFacts_of (Bool.and_eq_true_iff.mp e).2) (by rfl) said (by decide +kernel) ⟨rfl, rfl, rfl, rfl, rfl, by decide +kernel⟩ ?hw ?hc
  case hw => w_witness2
  intro w s0 s1 mg mb G Y fa o pm cd doc dV kV ho hd hcd hD hmg hg args vals as hpre hlay hrd hwl hlo
  refine Ground.open G ?_
  intro T B D TE TW
  have KX := kIn_of Y
  obtain ⟨fa', o', pm', code', doc', f1, f2, f3, f4⟩ := hasFn_of (w := w) T 38 29 rec38
  have hfa : fa' = fa := by
    have := f1.symm.trans hmg
    cases this; rfl
  subst hfa
  clear hD hcd hd ho hmg
  wrow_args hpre hlay hrd hwl hlo
  rename_i ns _ _ _ _ _ _ _ l vs _ hL ra w1 r0 hI hr hlen hcond
  refine law_call (C := lawCx w T) (fns_of T KX) rfl ?_ ?_ ?_ (excF_of T KX) f2 f3 f4 (ns := ns) (by omega) caller_room rfl rfl ⟨fun _ _ e => e, .inl rfl, ⟨rfl, List.nodup_nil, fun x hx => (nomatch hx), fun i l q => by simp at q⟩⟩ (well_rep w1) ?_
  · exact names_of T KX (by rfl) (by decide) (by first | boot_by_name | rfl)
  · exact names_of T KX (by rfl) (by decide) (by first | boot_by_name | rfl)
  · exact names_of T KX (by rfl) (by decide) (by first | boot_by_name | rfl)
  intro h' tk hk
  refine GoodW.toG ⟨.inl ⟨_, .bool true, [], rfl, fun _ => rfl, .bool true, by first | with_unfolding_all rfl | decide +kernel | kernel_rfl | (trace_state; fail), fun _ => ⟨List.nodup_nil, fun a ha => nomatch ha⟩⟩, hk, rfl, hg⟩
end Mine
end

theorem PySem.Challenge.cw_pf0039_01_holds : PySem.Challenge.rw_pf0039_01.Holds :=
  Mine.law_holds
