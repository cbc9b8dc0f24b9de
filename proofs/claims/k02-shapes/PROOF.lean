import PyProof.Rows.All
import HandS.ForMost
import HandS.WordsExc
import HandS.CallSlots
import HandS.Lambda
import HandS.Flow
import HandS.Wide
import HandS.Style
import HandS.TupAny
import HandS.AnyAll
import PyProof.TupleOfGen
import PyProof.SumAny
import HandS.Iter
import HandS.Zip
import KE.GoesMore
import KE.GoesZip
import KE.GoesEnum
import HandS.More
import HandS.SortInts
import KE.SortData
import KE.DataMinMax
import KE.KTupSum
import KE.KDictSum
import HandS.Small
import HandS.SetFor
import KE.DataFind
import HandS.FStr
import HandS.DictComp
import HandS.Exc
import HandS.ExcOwn
import HandS.TryOnly
import HandS.TupLen
import HandS.Deep
import HandS.HeadHook4
import HandS.HeadWalk
import HandS.Head2
import HandS.NestedK
import PySem.Challenge.RW_learnstack_k02_shapes_of_columns
/-! ML1 -/
set_option Elab.async false
set_option linter.all false
set_option autoImplicit false
set_option maxRecDepth 100000
set_option maxHeartbeats 4000000
/-! ML1: the M layer: deep values, what represents them, states, results -/
namespace ML
open PySem PySem.Spec PyProof.Rows L2

/-- deep values: a list or a dict that never changes again is a value; one that may change is a ref -/
inductive EV where
  | non | bl (b : Bool) | int (i : Int) | str (x : Str) | tup (l : List EV) | lst (l : List EV) | dic (t : Bool) (ks vs : List EV) | ref (n : Nat) | lam (k : Nat) (l : List EV) | scr (t : Bool) (l : List EV)

inductive EObj where
  | lst (l : List EV) | dic (t : Bool) (ks vs : List EV) | ins (c : Str) (ns : List Str) (vs : List EV)

inductive Slot where
  | emp | val (v : EV) | own (o : EObj)

structure ES where
  sl : List Slot
  hp : List EObj

/-- a lambda of the text: no parameters, no captured names -/
structure LamD where
  qual : Str
  params : Arguments
  body : Expr
  scope : Scope
/-- the function object of a lambda -/
def LamO (a c' : Addr) (d : LamD) : HO := .ext fun h => ∃ (pm ctv : Value), h.get? a = some (PySem.W.kla_obj "<lambda>" d.qual d.params d.body d.scope [] pm c' ctv)
/-- what is fixed through a law -/
structure Sc where
  K : PySem.W.Frag
  mg : Str → Option Value
  Tb : Hp → Prop
  tbu : ∀ H a o, Tb H → (H a = none ∨ (∃ xs, H a = some (.lst xs)) ∨ (∃ xs, H a = some (.dK xs)) ∨ (∃ xs, H a = some (.dT xs)) ∨ (∃ c d xs, H a = some (.ins c d xs))) → Tb (upd H a o)
  lam : Nat → Option LamD

structure Gh where
  ρ : List Addr
  Fz : Addr → Prop
  Pv : Addr → Prop

def kLst (K : PySem.W.Frag) (a : Addr) (xs : List V) : Prop :=
  ∃ (o : Obj) (its : Array Value) (n : Nat), K.lookup a = some o ∧ o.cls = .type "list" ∧ o.dict = none ∧ o.data = .seq its n ∧ its.size ≤ sizeLine ∧ Vals xs its.toList
def kTup (K : PySem.W.Frag) (a : Addr) (xs : List V) : Prop :=
  ∃ (o : Obj) (its : Array Value) (n : Nat), K.lookup a = some o ∧ o.cls = .type "tuple" ∧ o.data = .seq its n ∧ its.size ≤ sizeLine ∧ Vals xs its.toList

/-- a key of a dict -/
def keyOf : EV → Option Key
  | .int i => some (.inl i)
  | .str x => some (.inr x)
  | _ => none
def keysOf : List EV → Option (List Key)
  | [] => some []
  | e :: l => match keyOf e, keysOf l with
    | some k, some r => some (k :: r)
    | _, _ => none
def keyT : EV → Option (List Key)
  | .tup l => keysOf l
  | _ => none

/-- a dict of the keys ks and the values xs -/
def DRel (t : Bool) (ks : List EV) (xs : List V) (u : HO) : Prop :=
  if t then ∃ kvs : List (List Key × V), u = .dT kvs ∧ kvs.map (·.2) = xs ∧ ks.map keyT = kvs.map fun p => some p.1
  else ∃ kvs : List (Key × V), u = .dK kvs ∧ kvs.map (·.2) = xs ∧ ks.map keyOf = kvs.map fun p => some p.1

mutual
def Rep (C : Sc) (G : Gh) (H : Hp) : EV → V → Prop
  | .non, v => v = .non
  | .bl b, v => v = .bl b
  | .int i, v => v = .int i
  | .str x, v => v = .str x
  | .tup l, v => ∃ a xs, v = .ref a ∧ G.Fz a ∧ H a = some (.tup xs) ∧ Reps C G H l xs
  | .lst l, v => ∃ a xs, v = .ref a ∧ G.Fz a ∧ H a = some (.lst xs) ∧ Reps C G H l xs
  | .scr t l, v => ∃ a xs, v = .ref a ∧ (if t then kTup C.K a xs else (G.Fz a ∧ Rd H a (.lst xs)) ∨ kLst C.K a xs) ∧ Reps C G H l xs
  | .dic t ks vs, v => ∃ a xs, v = .ref a ∧ G.Fz a ∧ Reps C G H vs xs ∧ ∃ u, DRel t ks xs u ∧ Rd H a u
  | .ref n, v => ∃ a, G.ρ[n]? = some a ∧ v = .ref a
  | .lam k l, v => l = [] ∧ ∃ d a c', C.lam k = some d ∧ v = .ref a ∧ G.Fz a ∧ G.Fz c' ∧ H a = some (LamO a c' d) ∧ H c' = some (LamX.CodeO c' d.qual)
def Reps (C : Sc) (G : Gh) (H : Hp) : List EV → List V → Prop
  | [], xs => xs = []
  | e :: l, xs => ∃ x r, xs = x :: r ∧ Rep C G H e x ∧ Reps C G H l r
end

/-- a table of code objects may grow -/
def Kt (u : HO) (y : Option HO) : Prop := y = some u ∨ ∃ ps more, u = .tbl ps ∧ y = some (.tbl (ps ++ more))
/-- y keeps what u was: the same, or a dict that is locked now, or a table that has grown -/
def Kp (u : HO) (y : Option HO) : Prop := Kt u y ∨ (((∃ kvs, u = .dK kvs) ∨ (∃ kvs, u = .dT kvs)) ∧ ∃ o, y = some (.frz o u))
/-- what is no dict, no table -/
def Hard (u : HO) : Prop := (∀ kvs, u ≠ .dK kvs) ∧ (∀ kvs, u ≠ .dT kvs) ∧ ∀ ps, u ≠ .tbl ps
theorem Kp.eq {u : HO} {y : Option HO} (n : Hard u) (h : Kp u y) : y = some u := by
  rcases h with (h | ⟨ps, more, e, _⟩) | ⟨⟨k, e⟩ | ⟨k, e⟩, _⟩
  · exact h
  · exact (n.2.2 _ e).elim
  · exact (n.1 _ e).elim
  · exact (n.2.1 _ e).elim
theorem Kt.eq {u : HO} {y : Option HO} (n : ∀ ps, u ≠ .tbl ps) (h : Kt u y) : y = some u := by
  rcases h with h | ⟨ps, more, e, _⟩
  · exact h
  · exact (n _ e).elim
theorem nd_tup {xs : List V} : Hard (.tup xs) := ⟨fun _ => (nomatch ·), fun _ => (nomatch ·), fun _ => (nomatch ·)⟩
theorem nd_lst {xs : List V} : Hard (.lst xs) := ⟨fun _ => (nomatch ·), fun _ => (nomatch ·), fun _ => (nomatch ·)⟩
theorem nd_frz {o : Obj} {u : HO} : Hard (.frz o u) := ⟨fun _ => (nomatch ·), fun _ => (nomatch ·), fun _ => (nomatch ·)⟩
theorem nd_lam {a c' : Addr} {d : LamD} : Hard (LamO a c' d) := ⟨fun _ => (nomatch ·), fun _ => (nomatch ·), fun _ => (nomatch ·)⟩
theorem nd_code {c' : Addr} {q : Str} : Hard (LamX.CodeO c' q) := ⟨fun _ => (nomatch ·), fun _ => (nomatch ·), fun _ => (nomatch ·)⟩
theorem Kt.trans {u : HO} {y z : Option HO} (h : Kt u y) (k : ∀ v, y = some v → Kt v z) : Kt u z := by
  rcases h with h | ⟨ps, more, e, h⟩
  · exact k u h
  · subst e
    rcases k _ h with q | ⟨ps', more', e', q⟩
    · exact .inr ⟨ps, more, rfl, q⟩
    · cases e'
      exact .inr ⟨ps, more ++ more', rfl, by rw [q, Array.append_assoc]⟩
theorem Kp.trans {u : HO} {y z : Option HO} (h : Kp u y) (k : ∀ v, y = some v → Kp v z) : Kp u z := by
  rcases h with (h | ⟨ps, more, e, h⟩) | ⟨d, o, h⟩
  · exact k u h
  · subst e
    rcases k _ h with (q | ⟨ps', more', e', q⟩) | ⟨⟨k, e'⟩ | ⟨k, e'⟩, _⟩
    · exact .inl (.inr ⟨ps, more, rfl, q⟩)
    · cases e'
      exact .inl (.inr ⟨ps, more ++ more', rfl, by rw [q, Array.append_assoc]⟩)
    · cases e'
    · cases e'
  · exact .inr ⟨d, o, (k _ h).eq nd_frz⟩
theorem Kp.rd {H : Hp} {u : HO} {a : Addr} {H' : Hp} (n : ∀ ps, u ≠ .tbl ps) (z : Rd H a u) (k : ∀ v, H a = some v → Kp v (H' a)) : Rd H' a u := by
  rcases z with z | ⟨o, z⟩
  · rcases k _ z with (q | ⟨ps, more, e, _⟩) | ⟨d, o, q⟩
    · exact .inl q
    · exact (n _ e).elim
    · exact .inr ⟨o, q⟩
  · exact .inr ⟨o, (k _ z).eq nd_frz⟩
theorem nt_drel {t : Bool} {ks : List EV} {xs : List V} {u : HO} (h : DRel t ks xs u) : ∀ ps, u ≠ .tbl ps := fun ps e => by
  unfold DRel at h
  split at h
  · obtain ⟨_, q, _⟩ := h; rw [e] at q; cases q
  · obtain ⟨_, q, _⟩ := h; rw [e] at q; cases q

structure Le (G : Gh) (H : Hp) (G' : Gh) (H' : Hp) : Prop where
  rho : ∃ l, G'.ρ = G.ρ ++ l
  fz : ∀ a, G.Fz a → G'.Fz a
  pv : G'.Pv = G.Pv
  keep : ∀ a u, G.Fz a → H a = some u → Kp u (H' a)
  keepP : ∀ a u, G.Pv a → H a = some u → Kt u (H' a)

theorem Le.refl (G : Gh) (H : Hp) : Le G H G H := ⟨⟨[], by simp⟩, fun _ h => h, rfl, fun _ _ _ h => .inl (.inl h), fun _ _ _ h => .inl h⟩
theorem Le.trans {G G1 G2 : Gh} {H H1 H2 : Hp} (a : Le G H G1 H1) (b : Le G1 H1 G2 H2) : Le G H G2 H2 where
  rho := by
    obtain ⟨l, e⟩ := a.rho
    obtain ⟨m, e'⟩ := b.rho
    exact ⟨l ++ m, by rw [e', e, List.append_assoc]⟩
  fz := fun x h => b.fz x (a.fz x h)
  pv := b.pv.trans a.pv
  keep := fun x u h e => (a.keep x u h e).trans fun v q => b.keep x v (a.fz x h) q
  keepP := fun x u h e => (a.keepP x u h e).trans fun v q => b.keepP x v (by rw [a.pv]; exact h) q
/-- all of the heap is kept -/
theorem Le.all {G G' : Gh} {H H' : Hp} (r : ∃ l, G'.ρ = G.ρ ++ l) (f : ∀ a, G.Fz a → G'.Fz a) (p : G'.Pv = G.Pv) (k : ∀ a u, H a = some u → H' a = some u) : Le G H G' H' :=
  ⟨r, f, p, fun a u _ e => .inl (.inl (k a u e)), fun a u _ e => .inl (k a u e)⟩

theorem Le.rhoGet {G G' : Gh} {H H' : Hp} (l : Le G H G' H') {n : Nat} {a : Addr} (h : G.ρ[n]? = some a) : G'.ρ[n]? = some a := by
  obtain ⟨m, e⟩ := l.rho
  have hn : n < G.ρ.length := by
    rcases Nat.lt_or_ge n G.ρ.length with q | q
    · exact q
    · rw [List.getElem?_eq_none q] at h; cases h
  rw [e, List.getElem?_append_left hn]; exact h

section
variable {C : Sc} {G G' : Gh} {H H' : Hp}
/-- what a representation leans on -/
structure LeR (G : Gh) (H : Hp) (G' : Gh) (H' : Hp) : Prop where
  rho : ∃ l, G'.ρ = G.ρ ++ l
  fz : ∀ a, G.Fz a → G'.Fz a
  keep : ∀ a u, G.Fz a → H a = some u → Kp u (H' a)
theorem LeR.trans {G2 : Gh} {H2 : Hp} (a : LeR G H G' H') (b : LeR G' H' G2 H2) : LeR G H G2 H2 where
  rho := by
    obtain ⟨l, e⟩ := a.rho
    obtain ⟨m, e'⟩ := b.rho
    exact ⟨l ++ m, by rw [e', e, List.append_assoc]⟩
  fz := fun x h => b.fz x (a.fz x h)
  keep := fun x u h e => (a.keep x u h e).trans fun v q => b.keep x v (a.fz x h) q
theorem Le.r (l : Le G H G' H') : LeR G H G' H' := ⟨l.rho, l.fz, l.keep⟩
theorem LeR.rhoGet (l : LeR G H G' H') {n : Nat} {a : Addr} (h : G.ρ[n]? = some a) : G'.ρ[n]? = some a := by
  obtain ⟨m, e⟩ := l.rho
  have hn : n < G.ρ.length := by
    rcases Nat.lt_or_ge n G.ρ.length with q | q
    · exact q
    · rw [List.getElem?_eq_none q] at h; cases h
  rw [e, List.getElem?_append_left hn]; exact h
mutual
theorem Rep.monoR (l : LeR G H G' H') : ∀ {e : EV} {v : V}, Rep C G H e v → Rep C G' H' e v
  | .non, _, h => by unfold Rep at h ⊢; exact h
  | .bl _, _, h => by unfold Rep at h ⊢; exact h
  | .int _, _, h => by unfold Rep at h ⊢; exact h
  | .str _, _, h => by unfold Rep at h ⊢; exact h
  | .tup xs, v, h => by
    unfold Rep at h ⊢
    obtain ⟨a, ys, e, f, q, r⟩ := h
    exact ⟨a, ys, e, l.fz a f, (l.keep a _ f q).eq nd_tup, Reps.monoR l r⟩
  | .lst xs, v, h => by
    unfold Rep at h ⊢
    obtain ⟨a, ys, e, f, q, r⟩ := h
    exact ⟨a, ys, e, l.fz a f, (l.keep a _ f q).eq nd_lst, Reps.monoR l r⟩
  | .scr t xs, v, h => by
    unfold Rep at h ⊢
    obtain ⟨a, ys, e, q, r⟩ := h
    refine ⟨a, ys, e, ?_, Reps.monoR l r⟩
    cases t with
    | true => exact q
    | false =>
      rw [if_neg Bool.false_ne_true] at q ⊢
      exact q.imp (fun z => ⟨l.fz a z.1, Kp.rd (fun _ e => nomatch e) z.2 fun v e => l.keep a v z.1 e⟩) id
  | .dic t ks vs, v, h => by
    unfold Rep at h ⊢
    obtain ⟨a, ys, e, f, r, u, q, z⟩ := h
    exact ⟨a, ys, e, l.fz a f, Reps.monoR l r, u, q, Kp.rd (nt_drel q) z fun v e => l.keep a v f e⟩
  | .ref n, v, h => by
    unfold Rep at h ⊢
    obtain ⟨a, e, q⟩ := h
    exact ⟨a, l.rhoGet e, q⟩
  | .lam _ _, v, h => by
    unfold Rep at h ⊢
    obtain ⟨e0, d, a, c', e1, e2, f1, f2, h1, h2⟩ := h
    exact ⟨e0, d, a, c', e1, e2, l.fz a f1, l.fz c' f2, (l.keep a _ f1 h1).eq nd_lam, (l.keep c' _ f2 h2).eq nd_code⟩
theorem Reps.monoR (l : LeR G H G' H') : ∀ {es : List EV} {vs : List V}, Reps C G H es vs → Reps C G' H' es vs
  | [], _, h => by unfold Reps at h ⊢; exact h
  | e :: es, _, h => by
    unfold Reps at h ⊢
    obtain ⟨x, r, e1, h1, h2⟩ := h
    exact ⟨x, r, e1, Rep.monoR l h1, Reps.monoR l h2⟩
end
theorem Rep.mono (l : Le G H G' H') {e : EV} {v : V} (h : Rep C G H e v) : Rep C G' H' e v := h.monoR l.r
theorem Reps.mono (l : Le G H G' H') {es : List EV} {vs : List V} (h : Reps C G H es vs) : Reps C G' H' es vs := h.monoR l.r

theorem reps_nil {vs : List V} : Reps C G H [] vs ↔ vs = [] := by rw [Reps]
theorem reps_cons {e : EV} {es : List EV} {vs : List V} : Reps C G H (e :: es) vs ↔ ∃ x r, vs = x :: r ∧ Rep C G H e x ∧ Reps C G H es r := by rw [Reps]
theorem Reps.length : ∀ {es : List EV} {vs : List V}, Reps C G H es vs → vs.length = es.length
  | [], _, h => by rw [reps_nil] at h; simp [h]
  | e :: es, _, h => by
    rw [reps_cons] at h
    obtain ⟨x, r, e1, _, h2⟩ := h
    simp [e1, Reps.length h2]
theorem Reps.get : ∀ {es : List EV} {vs : List V} {i : Nat} {e : EV}, Reps C G H es vs → es[i]? = some e → ∃ v, vs[i]? = some v ∧ Rep C G H e v
  | [], _, _, _, _, q => by simp at q
  | e0 :: es, _, 0, e, h, q => by
    rw [reps_cons] at h
    obtain ⟨x, r, e1, h1, h2⟩ := h
    simp at q
    exact ⟨x, by simp [e1], q ▸ h1⟩
  | e0 :: es, _, i + 1, e, h, q => by
    rw [reps_cons] at h
    obtain ⟨x, r, e1, h1, h2⟩ := h
    obtain ⟨v, h3, h4⟩ := Reps.get (i := i) h2 (by simpa using q)
    exact ⟨v, by simpa [e1] using h3, h4⟩
theorem Reps.get' {es : List EV} {vs : List V} {i : Nat} {v : V} (h : Reps C G H es vs) (q : vs[i]? = some v) : ∃ e, es[i]? = some e ∧ Rep C G H e v := by
  have hl := h.length
  have hi : i < vs.length := by
    rcases Nat.lt_or_ge i vs.length with z | z
    · exact z
    · rw [List.getElem?_eq_none z] at q; cases q
  have hi' : i < es.length := by omega
  obtain ⟨v', h1, h2⟩ := h.get (List.getElem?_eq_getElem hi')
  rw [q] at h1; cases h1
  exact ⟨_, List.getElem?_eq_getElem hi', h2⟩
theorem Reps.append : ∀ {es fs : List EV} {vs ws : List V}, Reps C G H es vs → Reps C G H fs ws → Reps C G H (es ++ fs) (vs ++ ws)
  | [], _, _, _, h, h' => by rw [reps_nil] at h; subst h; simpa using h'
  | e :: es, _, _, _, h, h' => by
    rw [reps_cons] at h
    obtain ⟨x, r, e1, h1, h2⟩ := h
    subst e1
    rw [List.cons_append, List.cons_append, reps_cons]
    exact ⟨x, _, rfl, h1, Reps.append h2 h'⟩
theorem Reps.one {e : EV} {v : V} (h : Rep C G H e v) : Reps C G H [e] [v] := by
  rw [reps_cons]; exact ⟨v, [], rfl, h, reps_nil.mpr rfl⟩
theorem Reps.take : ∀ {es : List EV} {vs : List V} (n : Nat), Reps C G H es vs → Reps C G H (es.take n) (vs.take n)
  | _, _, 0, _ => by simp [reps_nil]
  | [], _, n + 1, h => by rw [reps_nil] at h; subst h; simp [reps_nil]
  | e :: es, _, n + 1, h => by
    rw [reps_cons] at h
    obtain ⟨x, r, e1, h1, h2⟩ := h
    subst e1
    rw [List.take_succ_cons, List.take_succ_cons, reps_cons]
    exact ⟨x, _, rfl, h1, Reps.take n h2⟩
theorem Reps.drop : ∀ {es : List EV} {vs : List V} (n : Nat), Reps C G H es vs → Reps C G H (es.drop n) (vs.drop n)
  | _, _, 0, h => by simpa using h
  | [], _, n + 1, h => by rw [reps_nil] at h; subst h; simp [reps_nil]
  | e :: es, _, n + 1, h => by
    rw [reps_cons] at h
    obtain ⟨x, r, e1, h1, h2⟩ := h
    subst e1
    rw [List.drop_succ_cons, List.drop_succ_cons]
    exact Reps.drop n h2
theorem Reps.set : ∀ {es : List EV} {vs : List V} {e : EV} {v : V} (i : Nat), Reps C G H es vs → Rep C G H e v → Reps C G H (es.set i e) (vs.set i v)
  | [], _, _, _, _, h, _ => by rw [reps_nil] at h; subst h; simp [reps_nil]
  | e0 :: es, _, e, v, 0, h, q => by
    rw [reps_cons] at h
    obtain ⟨x, r, e1, h1, h2⟩ := h
    subst e1
    rw [List.set_cons_zero, List.set_cons_zero, reps_cons]
    exact ⟨v, _, rfl, q, h2⟩
  | e0 :: es, _, e, v, i + 1, h, q => by
    rw [reps_cons] at h
    obtain ⟨x, r, e1, h1, h2⟩ := h
    subst e1
    rw [List.set_cons_succ, List.set_cons_succ, reps_cons]
    exact ⟨x, _, rfl, h1, Reps.set i h2 q⟩
theorem Reps.reverse : ∀ {es : List EV} {vs : List V}, Reps C G H es vs → Reps C G H es.reverse vs.reverse
  | [], _, h => by rw [reps_nil] at h; subst h; simp [reps_nil]
  | e :: es, _, h => by
    rw [reps_cons] at h
    obtain ⟨x, r, e1, h1, h2⟩ := h
    subst e1
    rw [List.reverse_cons, List.reverse_cons]
    exact (Reps.reverse h2).append (Reps.one h1)
end

/-! ### objects, heaps, slots -/
def ObjRel (C : Sc) (G : Gh) (H : Hp) : EObj → HO → Prop
  | .lst l, u => ∃ xs, u = .lst xs ∧ Reps C G H l xs
  | .dic t ks vs, u => ∃ xs, Reps C G H vs xs ∧ DRel t ks xs u
  | .ins c ns vs, u => ∃ A dx fs, u = .ins A dx fs ∧ C.mg c = some (.ref A) ∧ fs.map (·.1) = ns ∧ Reps C G H vs (fs.map (·.2))
theorem ObjRel.monoR {C : Sc} {G G' : Gh} {H H' : Hp} (l : LeR G H G' H') {o : EObj} {u : HO} (h : ObjRel C G H o u) : ObjRel C G' H' o u := by
  cases o with
  | lst xs => obtain ⟨ys, e, r⟩ := h; exact ⟨ys, e, r.monoR l⟩
  | dic t ks vs => obtain ⟨xs, r, q⟩ := h; exact ⟨xs, r.monoR l, q⟩
  | ins c ns vs => obtain ⟨A, dx, fs, e, m, n, r⟩ := h; exact ⟨A, dx, fs, e, m, n, r.monoR l⟩
theorem ObjRel.mono {C : Sc} {G G' : Gh} {H H' : Hp} (l : Le G H G' H') {o : EObj} {u : HO} (h : ObjRel C G H o u) : ObjRel C G' H' o u := h.monoR l.r

/-- an object that may change -/
def MutO (u : HO) : Prop := (∃ xs, u = .lst xs) ∨ (∃ xs, u = .dK xs) ∨ (∃ xs, u = .dT xs) ∨ (∃ c d xs, u = .ins c d xs)
theorem MutO.nt {u : HO} (h : MutO u) : ∀ ps, u ≠ .tbl ps := fun ps e => by
  rcases h with ⟨_, q⟩ | ⟨_, q⟩ | ⟨_, q⟩ | ⟨_, _, _, q⟩ <;> rw [e] at q <;> cases q
theorem ObjRel.mut {C : Sc} {G : Gh} {H : Hp} {o : EObj} {u : HO} (h : ObjRel C G H o u) : MutO u := by
  cases o with
  | lst xs => obtain ⟨ys, e, r⟩ := h; exact .inl ⟨_, e⟩
  | dic t ks vs =>
    obtain ⟨xs, r, q⟩ := h
    unfold DRel at q
    split at q
    · obtain ⟨kvs, e, _⟩ := q
      exact .inr (.inr (.inl ⟨_, e⟩))
    · obtain ⟨kvs, e, _⟩ := q
      exact .inr (.inl ⟨_, e⟩)
  | ins c ns vs => obtain ⟨A, dx, fs, e, _⟩ := h; exact .inr (.inr (.inr ⟨_, _, _, e⟩))

structure HRel (C : Sc) (h : List EObj) (H : Hp) (G : Gh) : Prop where
  len : G.ρ.length = h.length
  nd : G.ρ.Nodup
  nf : ∀ a ∈ G.ρ, ¬ G.Fz a ∧ ¬ G.Pv a
  fp : ∀ a, G.Fz a → ¬ G.Pv a
  tr : ∀ a, G.Fz a ∨ G.Pv a → ∃ u, H a = some u
  obj : ∀ (n : Nat) (o : EObj), h[n]? = some o → ∃ a u, G.ρ[n]? = some a ∧ H a = some u ∧ ObjRel C G H o u
  tb : C.Tb H
  pm : ∀ a, G.Pv a → ∃ u, H a = some u ∧ MutO u

def SlRel (C : Sc) (G : Gh) (H : Hp) (s : Option Slot) (x : Option (Option V)) : Prop :=
  match s with
  | some (.val v) => ∃ y, x = some (some y) ∧ Rep C G H v y
  | some (.own o) => ∃ a u, x = some (some (.ref a)) ∧ H a = some u ∧ ObjRel C G H o u ∧ ¬ G.Fz a ∧ ¬ G.Pv a ∧ a ∉ G.ρ
  | _ => True

structure SRel (C : Sc) (S : ES) (σ : L2.St) (H : Hp) (G : Gh) : Prop where
  hr : HRel C S.hp H G
  len : S.sl.length = σ.length
  slot : ∀ (i : Nat), SlRel C G H S.sl[i]? σ[i]?
  dis : ∀ (i j : Nat) (a : Addr) (o o' : EObj), S.sl[i]? = some (Slot.own o) → S.sl[j]? = some (Slot.own o') → σ[i]? = some (some (V.ref a)) → σ[j]? = some (some (V.ref a)) → i = j

/-- an address of a mutable local -/
def OwnA (S : ES) (σ : L2.St) (a : Addr) : Prop := ∃ (i : Nat) (o : EObj), S.sl[i]? = some (Slot.own o) ∧ σ[i]? = some (some (V.ref a))

section
variable {C : Sc} {S : ES} {σ : L2.St} {H H' : Hp} {G G' : Gh} {h : List EObj} {p : Addr} {u : HO}

theorem HRel.keeps (r : HRel C h H G) (k : ∀ a u, H a = some u → H' a = some u) (t : C.Tb H') : HRel C h H' G := by
  have l : Le G H G H' := Le.all ⟨[], by simp⟩ (fun _ h => h) rfl k
  refine ⟨r.len, r.nd, r.nf, r.fp, fun a q => ?_, fun n o e => ?_, t, fun a q => let ⟨u, e, m⟩ := r.pm a q; ⟨u, k a u e, m⟩⟩
  · obtain ⟨u, e⟩ := r.tr a q
    exact ⟨u, k a u e⟩
  · obtain ⟨a, u, e1, e2, e3⟩ := r.obj n o e
    exact ⟨a, u, e1, k a u e2, e3.mono l⟩
theorem SRel.keeps (r : SRel C S σ H G) (k : ∀ a u, H a = some u → H' a = some u) (t : C.Tb H') : SRel C S σ H' G := by
  have l : Le G H G H' := Le.all ⟨[], by simp⟩ (fun _ h => h) rfl k
  refine ⟨r.hr.keeps k t, r.len, fun i => ?_, r.dis⟩
  have q := r.slot i
  unfold SlRel at q ⊢
  split at q
  · obtain ⟨y, e, z⟩ := q; exact ⟨y, e, z.mono l⟩
  · obtain ⟨a, u, e, e2, o, n⟩ := q; exact ⟨a, u, e, k a u e2, o.mono l, n⟩
  · exact True.intro
/-- p is frozen from now on -/
def Gh.frz (G : Gh) (p : Addr) : Gh := { G with Fz := fun a => G.Fz a ∨ a = p }
theorem le_frz (G : Gh) (H : Hp) (p : Addr) : Le G H (G.frz p) H := Le.all ⟨[], by simp [Gh.frz]⟩ (fun _ h => .inl h) rfl fun _ _ e => e
theorem HRel.frz (r : HRel C h H G) (e : H p = some u) (n1 : p ∉ G.ρ) (n2 : ¬ G.Pv p) : HRel C h H (G.frz p) := by
  refine ⟨r.len, r.nd, fun a ha => ⟨fun q => ?_, (r.nf a ha).2⟩, fun a q => ?_, fun a q => ?_, fun n o e1 => ?_, r.tb, r.pm⟩
  · rcases q with q | q
    · exact (r.nf a ha).1 q
    · subst q; exact n1 ha
  · rcases q with q | q
    · exact r.fp a q
    · subst q; exact n2
  · rcases q with (q | q) | q
    · exact r.tr a (.inl q)
    · subst q; exact ⟨u, e⟩
    · exact r.tr a (.inr q)
  · obtain ⟨a, u, e1, e2, e3⟩ := r.obj n o e1
    exact ⟨a, u, e1, e2, e3.mono (le_frz G H p)⟩
theorem SRel.frz (r : SRel C S σ H G) (e : H p = some u) (n1 : p ∉ G.ρ) (n2 : ¬ G.Pv p) (n3 : ¬ OwnA S σ p) : SRel C S σ H (G.frz p) := by
  refine ⟨r.hr.frz e n1 n2, r.len, fun i => ?_, r.dis⟩
  have q := r.slot i
  unfold SlRel at q ⊢
  split at q
  · obtain ⟨y, e, z⟩ := q; exact ⟨y, e, z.mono (le_frz G H p)⟩
  · rename_i o hs
    obtain ⟨a, u, ea, e2, o', n, n', n''⟩ := q
    refine ⟨a, u, ea, e2, o'.mono (le_frz G H p), fun z => ?_, n', n''⟩
    rcases z with z | z
    · exact n z
    · subst z; exact n3 ⟨i, o, hs, ea⟩
  · exact True.intro

theorem HRel.new_not (r : HRel C h H G) (hp : H p = none) : p ∉ G.ρ ∧ ¬ G.Pv p ∧ ¬ G.Fz p := by
  refine ⟨fun z => ?_, fun z => ?_, fun z => ?_⟩
  · obtain ⟨n, hn, e⟩ := List.getElem_of_mem z
    have hn' : n < h.length := by rw [← r.len]; exact hn
    obtain ⟨a, u, e1, e2, _⟩ := r.obj n _ (List.getElem?_eq_getElem hn')
    rw [List.getElem?_eq_getElem hn, e] at e1
    cases e1; rw [hp] at e2; cases e2
  · obtain ⟨u, e⟩ := r.tr p (.inr z); rw [hp] at e; cases e
  · obtain ⟨u, e⟩ := r.tr p (.inl z); rw [hp] at e; cases e
theorem SRel.new_own (r : SRel C S σ H G) (hp : H p = none) : ¬ OwnA S σ p := by
  rintro ⟨i, o, e1, e2⟩
  have q := r.slot i
  rw [e1, e2] at q
  obtain ⟨a, u, e, e3, _⟩ := q
  cases e; rw [hp] at e3; cases e3
theorem keeps_upd (hp : H p = none) : ∀ a v, H a = some v → upd H p u a = some v := fun a v e => by
  rw [upd_ne (ne_of_none e hp)]; exact e
/-- a new object, frozen at once -/
theorem SRel.newF (r : SRel C S σ H G) (hp : H p = none) : SRel C S σ (upd H p u) (G.frz p) ∧ Le G H (G.frz p) (upd H p u) := by
  have t : C.Tb (upd H p u) := C.tbu H p u r.hr.tb (.inl hp)
  have r1 := r.keeps (keeps_upd (u := u) hp) t
  obtain ⟨n1, n2, n3⟩ := r.hr.new_not hp
  refine ⟨r1.frz upd_same n1 n2 ?_, ?_⟩
  · rintro ⟨i, o, e1, e2⟩
    exact r.new_own hp ⟨i, o, e1, e2⟩
  · exact Le.all ⟨[], by simp [Gh.frz]⟩ (fun _ h => .inl h) rfl (keeps_upd hp)
/-- a new object that is not known to the state -/
theorem SRel.newN (r : SRel C S σ H G) (hp : H p = none) : SRel C S σ (upd H p u) G ∧ Le G H G (upd H p u) := by
  have t : C.Tb (upd H p u) := C.tbu H p u r.hr.tb (.inl hp)
  exact ⟨r.keeps (keeps_upd hp) t, Le.all ⟨[], by simp⟩ (fun _ h => h) rfl (keeps_upd hp)⟩
theorem frz_self (G : Gh) (p : Addr) : (G.frz p).Fz p := .inr rfl
end
end ML
/-! ML2 -/
set_option Elab.async false
set_option linter.all false
set_option autoImplicit false
set_option maxRecDepth 100000
set_option maxHeartbeats 4000000
/-! ML2: results, the judgements, names, numbers, tests -/
namespace ML
open PySem PySem.Spec PyProof.Rows L2

inductive Res (α : Type) where
  | ok (a : α) (S : ES) | exc (c : Str) (S : ES) | bad
def M (α : Type) : Type := ES → Res α
namespace M
@[inline] def ret {α : Type} (a : α) : M α := fun S => .ok a S
@[inline] def bnd {α β : Type} (m : M α) (f : α → M β) : M β := fun S => match m S with
  | .ok a S' => f a S'
  | .exc c S' => .exc c S'
  | .bad => .bad
def fail {α : Type} : M α := fun _ => .bad
def raise {α : Type} (c : Str) : M α := fun S => .exc c S
instance : Monad M where
  pure := ret
  bind := bnd
end M
/-- Some or stuck -/
def ofO {α : Type} (o : Option α) : M α := fun S => match o with
  | some a => .ok a S
  | none => .bad

def Post {α : Type} (r : Res α) (Q : α → ES → Prop) (E : Str → ES → Prop) : Prop := match r with
  | .ok a S => Q a S
  | .exc c S => E c S
  | .bad => False
theorem Post.mono {α : Type} {r : Res α} {Q Q' : α → ES → Prop} {E E' : Str → ES → Prop} (h : Post r Q E) (hq : ∀ a S, Q a S → Q' a S) (he : ∀ c S, E c S → E' c S) : Post r Q' E' := by
  cases r with
  | ok a S => exact hq a S h
  | exc c S => exact he c S h
  | bad => exact h
theorem post_bnd {α β : Type} {m : M α} {f : α → M β} {S : ES} {Q : β → ES → Prop} {E : Str → ES → Prop} (h : Post ((m >>= f) S) Q E) : Post (m S) (fun a S1 => Post (f a S1) Q E) E := by
  have h' : Post (M.bnd m f S) Q E := h
  unfold M.bnd at h'
  cases hm : m S with
  | ok a S1 => rw [hm] at h'; exact h'
  | exc c S1 => rw [hm] at h'; exact h'
  | bad => rw [hm] at h'; exact h'

def excV (C : Sc) (c : Str) : Value := (C.mg c).getD .none

/-- tables of code objects, as a law needs them -/
structure TbS where
  Tb : Hp → Prop
  tbu : ∀ H a o, Tb H → (H a = none ∨ (∃ xs, H a = some (.lst xs)) ∨ (∃ xs, H a = some (.dK xs)) ∨ (∃ xs, H a = some (.dT xs)) ∨ (∃ c d xs, H a = some (.ins c d xs))) → Tb (upd H a o)
  lam : Nat → Option LamD
abbrev scOf (X : Cx) (T : TbS) : Sc := ⟨X.K, X.mg, T.Tb, T.tbu, T.lam⟩

def QE (C : Sc) (G : Gh) (H : Hp) (σ : L2.St) (Q : VK) : EV → ES → Prop := fun v S' => ∀ x H' G', SRel C S' σ H' G' → Le G H G' H' → Rep C G' H' v x → Q x H'
def QB (C : Sc) (G : Gh) (H : Hp) (σ : L2.St) (Q : Bool → Hp → Prop) : Bool → ES → Prop := fun b S' => ∀ H' G', SRel C S' σ H' G' → Le G H G' H' → Q b H'
def QL (C : Sc) (G : Gh) (H : Hp) (σ : L2.St) (Q : List V → Hp → Prop) : List EV → ES → Prop := fun v S' => ∀ x H' G', SRel C S' σ H' G' → Le G H G' H' → Reps C G' H' v x → Q x H'
def QX (C : Sc) (G : Gh) (H : Hp) (σ : L2.St) (W : WX) : Str → ES → Prop := fun c S' => ∀ H' G', SRel C S' σ H' G' → Le G H G' H' → W (excV C c) none σ H'

def tM (C : Sc) (W : WX) (m : M EV) : TE := fun σ H Q => ∃ S G, SRel C S σ H G ∧ Post (m S) (QE C G H σ Q) (QX C G H σ W)
def tMB (C : Sc) (W : WX) (m : M Bool) : TT := fun σ H Q => ∃ S G, SRel C S σ H G ∧ Post (m S) (QB C G H σ Q) (QX C G H σ W)
def tML (C : Sc) (W : WX) (m : M (List EV)) : TA := fun σ H Q => ∃ S G, SRel C S σ H G ∧ Post (m S) (QL C G H σ Q) (QX C G H σ W)

/-- expression e does what m does -/
def EM (X : Cx) (T : TbS) (W : WX) (e : Expr) (m : M EV) : Prop := PE X e (tM (scOf X T) W m)
/-- as a test -/
def BM (X : Cx) (T : TbS) (W : WX) (e : Expr) (m : M Bool) : Prop := PT X e (tMB (scOf X T) W m)
def BW (X : Cx) (T : TbS) (W : WX) (e : Expr) (m : M Bool) : Prop := PW X e (tMB (scOf X T) W m)
/-- an argument list -/
def AM (X : Cx) (T : TbS) (W : WX) (es : List Expr) (m : M (List EV)) : Prop := PA X es (tML (scOf X T) W m)

theorem PE_imp {X : Cx} {e : Expr} {t t' : TE} (h : PE X e t) (hi : ∀ σ H Q, t' σ H Q → t σ H Q) : PE X e t' := ⟨fun pins s σ H Q I q => h.run pins s σ H Q I (hi σ H Q q)⟩
theorem PT_imp {X : Cx} {e : Expr} {t t' : TT} (h : PT X e t) (hi : ∀ σ H Q, t' σ H Q → t σ H Q) : PT X e t' := ⟨fun pins s σ H Q I q => h.run pins s σ H Q I (hi σ H Q q)⟩
theorem PW_imp {X : Cx} {e : Expr} {t t' : TT} (h : PW X e t) (hi : ∀ σ H Q, t' σ H Q → t σ H Q) : PW X e t' := ⟨fun wh pins s σ H Q I q => h.run wh pins s σ H Q I (hi σ H Q q)⟩
theorem PA_imp {X : Cx} {e : List Expr} {t t' : TA} (h : PA X e t) (hi : ∀ σ H Q, t' σ H Q → t σ H Q) : PA X e t' := ⟨fun pos pins s σ H Q I q => h.run pos pins s σ H Q I (hi σ H Q q)⟩

section
variable {C : Sc} {G G1 : Gh} {H H1 : Hp} {σ : L2.St} {W : WX}
theorem qe_le {Q : VK} {v : EV} {S : ES} (l : Le G H G1 H1) (h : QE C G H σ Q v S) : QE C G1 H1 σ Q v S := fun x H' G' r le rp => h x H' G' r (l.trans le) rp
theorem qb_le {Q : Bool → Hp → Prop} {v : Bool} {S : ES} (l : Le G H G1 H1) (h : QB C G H σ Q v S) : QB C G1 H1 σ Q v S := fun H' G' r le => h H' G' r (l.trans le)
theorem ql_le {Q : List V → Hp → Prop} {v : List EV} {S : ES} (l : Le G H G1 H1) (h : QL C G H σ Q v S) : QL C G1 H1 σ Q v S := fun x H' G' r le rp => h x H' G' r (l.trans le) rp
theorem qx_le {c : Str} {S : ES} (l : Le G H G1 H1) (h : QX C G H σ W c S) : QX C G1 H1 σ W c S := fun H' G' r le => h H' G' r (l.trans le)
theorem pe_le {m : Res EV} {Q : VK} (l : Le G H G1 H1) (h : Post m (QE C G H σ Q) (QX C G H σ W)) : Post m (QE C G1 H1 σ Q) (QX C G1 H1 σ W) := h.mono (fun _ _ => qe_le l) fun _ _ => qx_le l
theorem pb_le {m : Res Bool} {Q : Bool → Hp → Prop} (l : Le G H G1 H1) (h : Post m (QB C G H σ Q) (QX C G H σ W)) : Post m (QB C G1 H1 σ Q) (QX C G1 H1 σ W) := h.mono (fun _ _ => qb_le l) fun _ _ => qx_le l
theorem pl_le {m : Res (List EV)} {Q : List V → Hp → Prop} (l : Le G H G1 H1) (h : Post m (QL C G H σ Q) (QX C G H σ W)) : Post m (QL C G1 H1 σ Q) (QX C G1 H1 σ W) := h.mono (fun _ _ => ql_le l) fun _ _ => qx_le l
/-- the first part of a bind: what comes behind is asked at the state there -/
theorem tM_bind {β : Type} {m : M EV} {f : EV → M β} {S : ES} {Qb : β → ES → Prop} {Q : VK} (r : SRel C S σ H G) (p : Post ((m >>= f) S) Qb (QX C G H σ W))
    (h : ∀ v S1 x H1 G1, SRel C S1 σ H1 G1 → Le G H G1 H1 → Rep C G1 H1 v x → Post (f v S1) Qb (QX C G1 H1 σ W) → Q x H1) : tM C W m σ H Q :=
  ⟨S, G, r, (post_bnd p).mono (fun v S1 q x H1 G1 r1 l1 rp => h v S1 x H1 G1 r1 l1 rp (q.mono (fun _ _ z => z) fun _ _ => qx_le l1)) fun _ _ z => z⟩
theorem tMB_bind {β : Type} {m : M Bool} {f : Bool → M β} {S : ES} {Qb : β → ES → Prop} {Q : Bool → Hp → Prop} (r : SRel C S σ H G) (p : Post ((m >>= f) S) Qb (QX C G H σ W))
    (h : ∀ v S1 H1 G1, SRel C S1 σ H1 G1 → Le G H G1 H1 → Post (f v S1) Qb (QX C G1 H1 σ W) → Q v H1) : tMB C W m σ H Q :=
  ⟨S, G, r, (post_bnd p).mono (fun v S1 q H1 G1 r1 l1 => h v S1 H1 G1 r1 l1 (q.mono (fun _ _ z => z) fun _ _ => qx_le l1)) fun _ _ z => z⟩
theorem tML_bind {β : Type} {m : M (List EV)} {f : List EV → M β} {S : ES} {Qb : β → ES → Prop} {Q : List V → Hp → Prop} (r : SRel C S σ H G) (p : Post ((m >>= f) S) Qb (QX C G H σ W))
    (h : ∀ v S1 x H1 G1, SRel C S1 σ H1 G1 → Le G H G1 H1 → Reps C G1 H1 v x → Post (f v S1) Qb (QX C G1 H1 σ W) → Q x H1) : tML C W m σ H Q :=
  ⟨S, G, r, (post_bnd p).mono (fun v S1 q x H1 G1 r1 l1 rp => h v S1 x H1 G1 r1 l1 rp (q.mono (fun _ _ z => z) fun _ _ => qx_le l1)) fun _ _ z => z⟩
end

/-! ### names, constants -/
def frzO : EObj → Option EV
  | .lst l => some (.lst l)
  | .dic t ks vs => some (.dic t ks vs)
  | .ins _ _ _ => none
def mGet (i : Nat) : M EV := fun S => match S.sl[i]? with
  | some (.val v) => .ok v S
  | some (.own o) => match frzO o with
    | some v => .ok v { S with sl := S.sl.set i (.val v) }
    | none => .bad
  | _ => .bad
def mC (v : EV) : M EV := fun S => .ok v S

section
variable {C : Sc} {S : ES} {σ : L2.St} {H : Hp} {G : Gh}
theorem rep_frzO {o : EObj} {v : EV} {a : Addr} {u : HO} (e : frzO o = some v) (h : H a = some u) (r : ObjRel C G H o u) (f : G.Fz a) : Rep C G H v (.ref a) := by
  cases o with
  | lst l =>
    have e' : EV.lst l = v := Option.some.inj e
    subst e'
    obtain ⟨xs, rfl, r⟩ := r
    rw [Rep]
    exact ⟨a, xs, rfl, f, h, r⟩
  | dic t ks vs =>
    have e' : EV.dic t ks vs = v := Option.some.inj e
    subst e'
    obtain ⟨xs, r, q⟩ := r
    rw [Rep]
    exact ⟨a, xs, rfl, f, r, u, q, .inl h⟩
  | ins c ns vs => cases e
/-- a mutable local is frozen -/
theorem SRel.frzSlot (r : SRel C S σ H G) {i : Nat} {o : EObj} {v : EV} {a : Addr} (hs : S.sl[i]? = some (Slot.own o)) (ha : σ[i]? = some (some (V.ref a))) (e : frzO o = some v) :
    SRel C { S with sl := S.sl.set i (.val v) } σ H (G.frz a) ∧ Le G H (G.frz a) H ∧ Rep C (G.frz a) H v (.ref a) := by
  have q := r.slot i
  rw [hs] at q
  obtain ⟨a', u, ha', hu, ho, n1, n2, n3⟩ := q
  rw [ha] at ha'
  cases ha'
  have l := le_frz G H a
  have hr := r.hr.frz hu n3 n2
  have rp : Rep C (G.frz a) H v (.ref a) := rep_frzO e hu (ho.mono l) (frz_self G a)
  have hi : i < S.sl.length := by
    rcases Nat.lt_or_ge i S.sl.length with z | z
    · exact z
    · rw [List.getElem?_eq_none z] at hs; cases hs
  refine ⟨⟨hr, by simpa using r.len, fun j => ?_, fun j k b o1 o2 h1 h2 h3 h4 => ?_⟩, l, rp⟩
  · by_cases hj : j = i
    · subst hj
      show SlRel C (G.frz a) H (S.sl.set j (.val v))[j]? σ[j]?
      rw [List.getElem?_set_self hi]
      exact ⟨_, ha, rp⟩
    · show SlRel C (G.frz a) H (S.sl.set i (.val v))[j]? σ[j]?
      rw [List.getElem?_set_ne (Ne.symm hj)]
      have q := r.slot j
      unfold SlRel at q ⊢
      split at q
      · obtain ⟨y, e, z⟩ := q; exact ⟨y, e, z.mono l⟩
      · rename_i o' hs'
        obtain ⟨b, u', eb, e2, o2, m1, m2, m3⟩ := q
        refine ⟨b, u', eb, e2, o2.mono l, fun z => ?_, m2, m3⟩
        rcases z with z | z
        · exact m1 z
        · subst z; exact hj (r.dis j i b o' o hs' hs eb ha)
      · exact True.intro
  · have h1' : (S.sl.set i (.val v))[j]? = some (Slot.own o1) := h1
    have h2' : (S.sl.set i (.val v))[k]? = some (Slot.own o2) := h2
    by_cases hj : j = i
    · subst hj; rw [List.getElem?_set_self hi] at h1'; cases h1'
    · by_cases hk : k = i
      · subst hk; rw [List.getElem?_set_self hi] at h2'; cases h2'
      · rw [List.getElem?_set_ne (Ne.symm hj)] at h1'
        rw [List.getElem?_set_ne (Ne.symm hk)] at h2'
        exact r.dis j k b o1 o2 h1' h2' h3 h4
end

section
variable {X : Cx} {T : TbS} {W : WX}
theorem em_var {i : Nat} {x : Str} {pos : Pos} (hN : X.N[i]? = some x) (hv : Vis X.env.scope x) (hd : (x == ("__debug__" : Str)) = false := by decide) (hcd : (x == ("__classdict__" : Str)) = false := by decide) : EM X T W (.Name x pos) (mGet i) := by
  refine PE_imp (pe_var hN hv hd hcd) fun σ H Q h => ?_
  obtain ⟨S, G, r, p⟩ := h
  unfold mGet at p
  have q := r.slot i
  cases hs : S.sl[i]? with
  | none => rw [hs] at p; exact p.elim
  | some sl =>
    rw [hs] at p q
    cases sl with
    | emp => exact p.elim
    | val v =>
      obtain ⟨y, e, rp⟩ := q
      exact ⟨y, e, p y H G r (Le.refl _ _) rp⟩
    | own o =>
      obtain ⟨a, u, ha, hu, ho, n1, n2, n3⟩ := q
      simp only at p
      cases hf : frzO o with
      | none => rw [hf] at p; exact p.elim
      | some v =>
        rw [hf] at p
        obtain ⟨r', l, rp⟩ := r.frzSlot hs ha hf
        exact ⟨_, ha, p _ H _ r' l rp⟩
theorem em_const {e : Expr} {v : V} {ev : EV} (h : PE X e (tC v)) (hr : ∀ C G H, Rep C G H ev v) : EM X T W e (mC ev) := by
  refine PE_imp h fun σ H Q q => ?_
  obtain ⟨S, G, r, p⟩ := q
  exact p v H G r (Le.refl _ _) (hr _ _ _)
theorem em_int {i : Int} {j : Nat} {pos : Pos} : EM X T W (.Constant (.int i) j pos) (mC (.int i)) := em_const pe_int fun _ _ _ => by rw [Rep]
theorem em_bl {b : Bool} {j : Nat} {pos : Pos} : EM X T W (.Constant (.bool b) j pos) (mC (.bl b)) := em_const pe_bl fun _ _ _ => by rw [Rep]
theorem em_non {j : Nat} {pos : Pos} : EM X T W (.Constant .none j pos) (mC .non) := em_const pe_non fun _ _ _ => by rw [Rep]
theorem em_str {x : Str} {j : Nat} {pos : Pos} : EM X T W (.Constant (.str x) j pos) (mC (.str x)) := em_const pe_str fun _ _ _ => by rw [Rep]

/-! ### operators -/
/-- what an operation r on values does -/
def OpM (X : Cx) (T : TbS) (W : WX) (r : R2) (f : EV → EV → M EV) : Prop :=
  ∀ S G σ H v w x y Q, SRel (scOf X T) S σ H G → Rep (scOf X T) G H v x → Rep (scOf X T) G H w y → Post (f v w S) (QE (scOf X T) G H σ Q) (QX (scOf X T) G H σ W) → r x y H Q
def mBin (f : EV → EV → M EV) (ma mb : M EV) : M EV := do
  let v ← ma
  let w ← mb
  f v w
theorem tM_bin {r : R2} {f : EV → EV → M EV} {ma mb : M EV} (hf : OpM X T W r f) : ∀ σ H Q, tM (scOf X T) W (mBin f ma mb) σ H Q → tOp r (tM (scOf X T) W ma) (tM (scOf X T) W mb) σ H Q := by
  rintro σ H Q ⟨S, G, rl, p⟩
  refine tM_bind rl p fun v S1 x H1 G1 r1 l1 rp1 p1 => ?_
  refine tM_bind r1 p1 fun w S2 y H2 G2 r2 l2 rp2 p2 => ?_
  exact hf S2 G2 σ H2 v w x y Q r2 (rp1.mono l2) rp2 (p2.mono (fun _ _ => qe_le (l1.trans l2)) fun _ _ z => z)
theorem em_op {op : Operator} {r : R2} {f : EV → EV → M EV} {a b : Expr} {ma mb : M EV} {pos : Pos} (ho : OpR X (binaryOp op) r) (hf : OpM X T W r f) (ha : EM X T W a ma) (hb : EM X T W b mb) : EM X T W (.BinOp a op b pos) (mBin f ma mb) :=
  PE_imp (pe_op ho ha hb) (tM_bin hf)
theorem OpR.or2 {X : Cx} {f : Value → Value → Sem Value} {r r' : R2} (h : OpR X f r) (h' : OpR X f r') : OpR X f (fun x y H Q => r x y H Q ∨ r' x y H Q) :=
  fun pins s σ H x y v u Q I rx ry q => q.elim (h pins s σ H x y v u Q I rx ry) (h' pins s σ H x y v u Q I rx ry)
end

section
variable {C : Sc} {G : Gh} {H : Hp} {v : EV} {x : V}
theorem rep_int {i : Int} : Rep C G H (.int i) x ↔ x = .int i := by rw [Rep]
theorem rep_bl {i : Bool} : Rep C G H (.bl i) x ↔ x = .bl i := by rw [Rep]
theorem rep_str {i : Str} : Rep C G H (.str i) x ↔ x = .str i := by rw [Rep]
theorem rep_non : Rep C G H .non x ↔ x = .non := by rw [Rep]
theorem rep_tup {l : List EV} : Rep C G H (.tup l) x ↔ ∃ a xs, x = .ref a ∧ G.Fz a ∧ H a = some (.tup xs) ∧ Reps C G H l xs := by rw [Rep]
theorem rep_lst {l : List EV} : Rep C G H (.lst l) x ↔ ∃ a xs, x = .ref a ∧ G.Fz a ∧ H a = some (.lst xs) ∧ Reps C G H l xs := by rw [Rep]
theorem rep_scr {t : Bool} {l : List EV} : Rep C G H (.scr t l) x ↔ ∃ a xs, x = .ref a ∧ (if t then kTup C.K a xs else (G.Fz a ∧ Rd H a (.lst xs)) ∨ kLst C.K a xs) ∧ Reps C G H l xs := by rw [Rep]
theorem rep_ref {n : Nat} : Rep C G H (.ref n) x ↔ ∃ a, G.ρ[n]? = some a ∧ x = .ref a := by rw [Rep]
theorem rep_dic {t : Bool} {ks vs : List EV} : Rep C G H (.dic t ks vs) x ↔ ∃ a xs, x = .ref a ∧ G.Fz a ∧ Reps C G H vs xs ∧ ∃ u, DRel t ks xs u ∧ Rd H a u := by rw [Rep]
theorem sqL_of {a : Addr} {xs : List V} (h : (G.Fz a ∧ Rd H a (.lst xs)) ∨ kLst C.K a xs) : SqL C.K H a xs := h.imp (fun z => z.2) id
end

def mulOk (i j : Int) : Bool := (decide (-18446744073709551616 < i) && decide (i < 18446744073709551616)) || (decide (-18446744073709551616 < j) && decide (j < 18446744073709551616)) || decide (i.natAbs.log2 + j.natAbs.log2 < 1000000)
def divOk (j : Int) : Bool := (decide (j ≠ 0) && decide (j.natAbs < 1073741824)) || (decide (0 < j) && decide (j.natAbs.log2 < 9000))
def eAdd : EV → EV → M EV
  | .int i, .int j => M.ret (.int (i + j))
  | .str x, .str y => if x.length + y.length ≤ sizeLine then M.ret (.str (x ++ y)) else M.fail
  | .lst l, .lst m => if l.length + m.length ≤ sizeLine then M.ret (.lst (l ++ m)) else M.fail
  | .tup l, .tup m => if l.length + m.length ≤ sizeLine ∧ l ≠ [] then M.ret (.tup (l ++ m)) else M.fail
  | _, _ => M.fail
def eSub : EV → EV → M EV
  | .int i, .int j => M.ret (.int (i - j))
  | _, _ => M.fail
def eMul : EV → EV → M EV
  | .int i, .int j => if mulOk i j then M.ret (.int (i * j)) else M.fail
  | .lst l, .int k => if decide (-(2 ^ 63) ≤ k) && decide (k < 2 ^ 63) && decide (l.length * k.toNat ≤ sizeLine) then M.ret (.lst (List.flatten (List.replicate k.toNat l))) else M.fail
  | _, _ => M.fail
def eDiv : EV → EV → M EV
  | .int i, .int j => if divOk j then M.ret (.int (i.fdiv j)) else M.fail
  | _, _ => M.fail
def eMod : EV → EV → M EV
  | .int i, .int j => if j = 0 then M.fail else M.ret (.int (i.fmod j))
  | _, _ => M.fail
def ePow : EV → EV → M EV
  | .int i, .int j => if decide (0 ≤ j) && decide (j ≤ 1000000) && decide (i.natAbs < 2 ^ 64) then M.ret (.int (i ^ j.toNat)) else M.fail
  | _, _ => M.fail

section
variable {X : Cx} {T : TbS} {W : WX} {a b : Expr} {ma mb : M EV} {pos : Pos}
theorem ret_post {C : Sc} {S : ES} {σ : L2.St} {H : Hp} {G : Gh} {Q : VK} {v : EV} {x : V} (r : SRel C S σ H G) (p : Post (M.ret v S) (QE C G H σ Q) (QX C G H σ W)) (h : Rep C G H v x) : Q x H := p x H G r (Le.refl _ _) h
theorem em_sub (ha : EM X T W a ma) (hb : EM X T W b mb) : EM X T W (.BinOp a .Sub b pos) (mBin eSub ma mb) := by
  refine em_op op_sub (fun S G σ H v w x y Q r h1 h2 p => ?_) ha hb
  unfold eSub at p
  split at p
  · rw [rep_int] at h1 h2
    exact ⟨_, _, h1, h2, ret_post r p (rep_int.mpr rfl)⟩
  · exact p.elim
theorem em_div (ha : EM X T W a ma) (hb : EM X T W b mb) : EM X T W (.BinOp a .FloorDiv b pos) (mBin eDiv ma mb) := by
  refine em_op (OpR.or2 op_fdivN op_fdivW) (fun S G σ H v w x y Q r h1 h2 p => ?_) ha hb
  unfold eDiv at p
  split at p
  · rename_i i j
    rw [rep_int] at h1 h2
    split at p
    · rename_i hd
      unfold divOk at hd
      simp only [Bool.or_eq_true, Bool.and_eq_true, decide_eq_true_eq] at hd
      have q := ret_post (x := .int (i.fdiv j)) r p (rep_int.mpr rfl)
      rcases hd with hd | hd
      · exact .inl ⟨i, j, h1, h2, hd, q⟩
      · refine .inr ⟨i, j, h1, h2, hd, ?_⟩
        rw [Int.fdiv_eq_ediv_of_nonneg i (by omega)] at q
        exact q
    · exact p.elim
  · exact p.elim
theorem em_mod (ha : EM X T W a ma) (hb : EM X T W b mb) : EM X T W (.BinOp a .Mod b pos) (mBin eMod ma mb) := by
  refine em_op op_modN (fun S G σ H v w x y Q r h1 h2 p => ?_) ha hb
  unfold eMod at p
  split at p
  · rename_i i j
    rw [rep_int] at h1 h2
    split at p
    · exact p.elim
    · rename_i hd
      exact ⟨i, j, h1, h2, hd, ret_post r p (rep_int.mpr rfl)⟩
  · exact p.elim
theorem em_pow (ha : EM X T W a ma) (hb : EM X T W b mb) : EM X T W (.BinOp a .Pow b pos) (mBin ePow ma mb) := by
  refine em_op op_pow (fun S G σ H v w x y Q r h1 h2 p => ?_) ha hb
  unfold ePow at p
  split at p
  · rename_i i j
    rw [rep_int] at h1 h2
    split at p
    · rename_i hd
      simp only [Bool.and_eq_true, decide_eq_true_eq] at hd
      exact ⟨i, j, h1, h2, ⟨hd.1.1, hd.1.2, hd.2⟩, ret_post r p (rep_int.mpr rfl)⟩
    · exact p.elim
  · exact p.elim
theorem log2_lt_64 {i : Int} (h : -18446744073709551616 < i ∧ i < 18446744073709551616) : -(2 ^ 64) < i ∧ i < 2 ^ 64 := ⟨by have := h.1; omega, by have := h.2; omega⟩
theorem em_mulI {S : ES} {G : Gh} {σ : L2.St} {H : Hp} {i j : Int} {x y : V} {Q : VK} (r : SRel (scOf X T) S σ H G) (h1 : x = .int i) (h2 : y = .int j) (p : Post ((if mulOk i j then M.ret (EV.int (i * j)) else M.fail) S) (QE (scOf X T) G H σ Q) (QX (scOf X T) G H σ W)) :
    rI CMul (fun i j => .int (i * j)) x y H Q ∨ rI CMulW (fun i j => .int (i * j)) x y H Q := by
  split at p
  · rename_i hd
    have q := ret_post (x := .int (i * j)) r p (rep_int.mpr rfl)
    unfold mulOk at hd
    simp only [Bool.or_eq_true, Bool.and_eq_true, decide_eq_true_eq] at hd
    rcases hd with (hd | hd) | hd
    · exact .inl ⟨i, j, h1, h2, .inl (log2_lt_64 hd), q⟩
    · exact .inl ⟨i, j, h1, h2, .inr (log2_lt_64 hd), q⟩
    · exact .inr ⟨i, j, h1, h2, hd, q⟩
  · exact p.elim
end
end ML
/-! ML3 -/
set_option Elab.async false
set_option linter.all false
set_option autoImplicit false
set_option maxRecDepth 100000
set_option maxHeartbeats 4000000
/-! ML3: new objects, displays, + and *, equality of data, comparisons, tests -/
namespace ML
open PySem PySem.Spec PyProof.Rows L2

/-! ### a new object that nobody else knows -/
def FreshAt (C : Sc) (S : ES) (σ : L2.St) (H : Hp) (G : Gh) (o : EObj) (x : V) : Prop :=
  ∃ a u, x = .ref a ∧ H a = some u ∧ ObjRel C G H o u ∧ ¬ G.Fz a ∧ ¬ G.Pv a ∧ a ∉ G.ρ ∧ ¬ OwnA S σ a
def QO (C : Sc) (G : Gh) (H : Hp) (σ : L2.St) (Q : VK) : EObj → ES → Prop := fun o S' => ∀ x H' G', SRel C S' σ H' G' → Le G H G' H' → FreshAt C S' σ H' G' o x → Q x H'
def tMO (C : Sc) (W : WX) (m : M EObj) : TE := fun σ H Q => ∃ S G, SRel C S σ H G ∧ Post (m S) (QO C G H σ Q) (QX C G H σ W)
/-- expression e makes the new object that m tells -/
def OM (X : Cx) (T : TbS) (W : WX) (e : Expr) (m : M EObj) : Prop := PE X e (tMO (scOf X T) W m)
def mFrz (m : M EObj) : M EV := do
  let o ← m
  ofO (frzO o)
section
variable {C : Sc} {S : ES} {σ : L2.St} {H : Hp} {G : Gh} {W : WX} {p : Addr} {u : HO}
theorem FreshAt.frz {o : EObj} {x : V} {v : EV} (r : SRel C S σ H G) (f : FreshAt C S σ H G o x) (e : frzO o = some v) : ∃ G', SRel C S σ H G' ∧ Le G H G' H ∧ Rep C G' H v x := by
  obtain ⟨a, u, rfl, hu, ho, n1, n2, n3, n4⟩ := f
  exact ⟨G.frz a, r.frz hu n3 n2 n4, le_frz G H a, rep_frzO e hu (ho.mono (le_frz G H a)) (frz_self G a)⟩
theorem fresh_new {o : EObj} (r : SRel C S σ H G) (hp : H p = none) (ho : ObjRel C G (upd H p u) o u) : FreshAt C S σ (upd H p u) G o (.ref p) := by
  obtain ⟨n1, n2, n3⟩ := r.hr.new_not hp
  exact ⟨p, u, rfl, upd_same, ho, n3, n2, n1, r.new_own hp⟩
theorem tMO_bind {β : Type} {m : M EObj} {f : EObj → M β} {S : ES} {Qb : β → ES → Prop} {Q : VK} (r : SRel C S σ H G) (p : Post ((m >>= f) S) Qb (QX C G H σ W))
    (h : ∀ v S1 x H1 G1, SRel C S1 σ H1 G1 → Le G H G1 H1 → FreshAt C S1 σ H1 G1 v x → Post (f v S1) Qb (QX C G1 H1 σ W) → Q x H1) : tMO C W m σ H Q :=
  ⟨S, G, r, (post_bnd p).mono (fun v S1 q x H1 G1 r1 l1 rp => h v S1 x H1 G1 r1 l1 rp (q.mono (fun _ _ z => z) fun _ _ => qx_le l1)) fun _ _ z => z⟩
end
section
variable {X : Cx} {T : TbS} {W : WX} {a b : Expr} {ma mb : M EV} {pos : Pos}
theorem em_frz {e : Expr} {m : M EObj} (h : OM X T W e m) : EM X T W e (mFrz m) := by
  refine PE_imp h fun σ H Q hq => ?_
  obtain ⟨S, G, r, p⟩ := hq
  refine tMO_bind r p fun o S1 x H1 G1 r1 l1 f p1 => ?_
  cases hf : frzO o with
  | none => rw [hf] at p1; exact p1.elim
  | some v =>
    rw [hf] at p1
    obtain ⟨G2, r2, l2, rp⟩ := f.frz r1 hf
    exact p1 x H1 G2 r2 (l1.trans l2) rp

/-! ### argument lists, displays -/
def mNil : M (List EV) := M.ret []
def mCons (m : M EV) (ms : M (List EV)) : M (List EV) := do
  let v ← m
  let l ← ms
  M.ret (v :: l)
theorem am_nil : AM X T W [] mNil := by
  refine PA_imp pa_nil fun σ H Q hq => ?_
  obtain ⟨S, G, r, p⟩ := hq
  exact p [] H G r (Le.refl _ _) (reps_nil.mpr rfl)
theorem am_cons {e : Expr} {es : List Expr} {m : M EV} {ms : M (List EV)} (ha : EM X T W e m) (hr : AM X T W es ms) (hs : starEach (e :: es) X.env = (false, eval e X.env) :: starEach es X.env := by rfl) : AM X T W (e :: es) (mCons m ms) := by
  refine PA_imp (pa_cons ha hr hs) fun σ H Q hq => ?_
  obtain ⟨S, G, r, p⟩ := hq
  refine tM_bind r p fun v S1 x H1 G1 r1 l1 rp1 p1 => ?_
  refine tML_bind r1 p1 fun w S2 y H2 G2 r2 l2 rp2 p2 => ?_
  exact p2 (x :: y) H2 G2 r2 (l1.trans l2 |>.trans (Le.refl _ _)) (reps_cons.mpr ⟨x, y, rfl, rp1.mono l2, rp2⟩)
def mTup (ms : M (List EV)) : M EV := do
  let l ← ms
  if l.length ≤ sizeLine then M.ret (.tup l) else M.fail
def mLst (ms : M (List EV)) : M EObj := do
  let l ← ms
  if l.length ≤ sizeLine then M.ret (.lst l) else M.fail
theorem em_tup {es : List Expr} {ms : M (List EV)} {k : Nat} (h : AM X T W es ms) : EM X T W (.Tuple es k pos) (mTup ms) := by
  refine PE_imp (pe_tup h) fun σ H Q hq => ?_
  obtain ⟨S, G, r, p⟩ := hq
  refine tML_bind r p fun l S1 x H1 G1 r1 l1 rp1 p1 => ?_
  split at p1
  · rename_i hz
    refine ⟨by rw [rp1.length]; exact hz, fun q hp => ?_⟩
    obtain ⟨r2, l2⟩ := r1.newF (u := .tup x) hp
    exact p1 _ _ _ r2 (l1.trans l2) (rep_tup.mpr ⟨q, x, rfl, frz_self G1 q, upd_same, rp1.mono l2⟩)
  · exact p1.elim
theorem om_lst {es : List Expr} {ms : M (List EV)} (h : AM X T W es ms) : OM X T W (.List es pos) (mLst ms) := by
  refine PE_imp (pe_lst h) fun σ H Q hq => ?_
  obtain ⟨S, G, r, p⟩ := hq
  refine tML_bind r p fun l S1 x H1 G1 r1 l1 rp1 p1 => ?_
  split at p1
  · rename_i hz
    refine ⟨by rw [rp1.length]; exact hz, fun q hp => ?_⟩
    obtain ⟨r2, l2⟩ := r1.newN (u := .lst x) hp
    exact p1 _ _ _ r2 (l1.trans l2) (fresh_new r1 hp ⟨x, rfl, rp1.mono l2⟩)
  · exact p1.elim

/-! ### reading lists and tuples -/
def rdL (S : ES) : EV → Option (List EV)
  | .lst l => some l
  | .scr false l => some l
  | .ref n => match S.hp[n]? with
    | some (.lst l) => some l
    | _ => none
  | _ => none
def rdT : EV → Option (List EV)
  | .tup l => some l
  | .scr true l => some l
  | _ => none
/-- a list or a tuple -/
def rdS (S : ES) (v : EV) : Option (List EV) := match rdT v with
  | some l => some l
  | none => rdL S v
theorem rd_list {C : Sc} {S : ES} {σ : L2.St} {H : Hp} {G : Gh} {v : EV} {x : V} {l : List EV} (r : SRel C S σ H G) (h : Rep C G H v x) (e : rdL S v = some l) : ∃ a xs, x = .ref a ∧ SqL C.K H a xs ∧ Reps C G H l xs := by
  cases v with
  | lst m =>
    have e' : m = l := Option.some.inj e
    subst e'
    obtain ⟨a, xs, rfl, f, q, rp⟩ := rep_lst.mp h
    exact ⟨a, xs, rfl, .inl (.inl q), rp⟩
  | scr t m =>
    cases t with
    | true => cases e
    | false =>
      have e' : m = l := Option.some.inj e
      subst e'
      obtain ⟨a, xs, rfl, q, rp⟩ := rep_scr.mp h
      exact ⟨a, xs, rfl, sqL_of q, rp⟩
  | ref n =>
    simp only [rdL] at e
    split at e
    · rename_i m hm
      cases e
      obtain ⟨a, ha, rfl⟩ := rep_ref.mp h
      obtain ⟨a', u, e1, e2, xs, e3, rp⟩ := r.hr.obj n _ hm
      rw [ha] at e1; cases e1
      subst e3
      exact ⟨a, xs, rfl, .inl (.inl e2), rp⟩
    · cases e
  | _ => cases e
theorem rd_tup {C : Sc} {H : Hp} {G : Gh} {v : EV} {x : V} {l : List EV} (h : Rep C G H v x) (e : rdT v = some l) : ∃ a xs, x = .ref a ∧ SqT C.K H a xs ∧ Reps C G H l xs := by
  cases v with
  | tup m =>
    have e' : m = l := Option.some.inj e
    subst e'
    obtain ⟨a, xs, rfl, f, q, rp⟩ := rep_tup.mp h
    exact ⟨a, xs, rfl, .inl (.inl q), rp⟩
  | scr t m =>
    cases t with
    | false => cases e
    | true =>
      have e' : m = l := Option.some.inj e
      subst e'
      obtain ⟨a, xs, rfl, q, rp⟩ := rep_scr.mp h
      exact ⟨a, xs, rfl, .inr q, rp⟩
  | _ => cases e
theorem rd_seq {C : Sc} {S : ES} {σ : L2.St} {H : Hp} {G : Gh} {v : EV} {x : V} {l : List EV} (r : SRel C S σ H G) (h : Rep C G H v x) (e : rdS S v = some l) : ∃ a xs, x = .ref a ∧ (SqL C.K H a xs ∨ SqT C.K H a xs) ∧ Reps C G H l xs := by
  unfold rdS at e
  split at e
  · rename_i l' hl'
    cases e
    obtain ⟨a, xs, e1, q, rp⟩ := rd_tup h hl'
    exact ⟨a, xs, e1, .inr q, rp⟩
  · obtain ⟨a, xs, e1, q, rp⟩ := rd_list r h e
    exact ⟨a, xs, e1, .inl q, rp⟩

/-! ### neg, not -/
def mUn (f : EV → M EV) (m : M EV) : M EV := do
  let v ← m
  f v
def eNeg : EV → M EV
  | .int i => M.ret (.int (-i))
  | _ => M.fail
theorem em_neg (ha : EM X T W a ma) : EM X T W (.UnaryOp .USub a pos) (mUn eNeg ma) := by
  refine PE_imp (pe_un un_neg ha) fun σ H Q hq => ?_
  obtain ⟨S, G, r, p⟩ := hq
  refine tM_bind r p fun v S1 x H1 G1 r1 l1 rp1 p1 => ?_
  unfold eNeg at p1
  split at p1
  · rename_i i
    rw [rep_int] at rp1
    exact ⟨i, rp1, p1 _ H1 G1 r1 l1 (rep_int.mpr rfl)⟩
  · exact p1.elim

/-! ### truth -/
def eTru (v : EV) : M Bool := fun S => match v with
  | .non => .ok false S
  | .bl b => .ok b S
  | .int i => .ok (i != 0) S
  | .str x => if x.length ≤ sizeLine then .ok ((x.length : Int) != 0) S else .bad
  | _ => match rdS S v with
    | some l => .ok (!l.isEmpty) S
    | none => .bad
theorem isEmpty_reps {C : Sc} {H : Hp} {G : Gh} {l : List EV} {xs : List V} (h : Reps C G H l xs) : xs.isEmpty = l.isEmpty := by
  have := h.length
  cases l <;> cases xs <;> simp_all
theorem tru_of {C : Sc} {S : ES} {σ : L2.St} {H : Hp} {G : Gh} {v : EV} {x : V} {Qb : Bool → ES → Prop} {E : Str → ES → Prop} (r : SRel C S σ H G) (h : Rep C G H v x) (p : Post (eTru v S) Qb E) : ∃ k, TruV C.K x H k ∧ Qb k S := by
  unfold eTru at p
  have seq : ∀ l, rdS S v = some l → Qb (!l.isEmpty) S → ∃ k, TruV C.K x H k ∧ Qb k S := fun l e q => by
    obtain ⟨a, xs, rfl, sq, rp⟩ := rd_seq r h e
    refine ⟨!l.isEmpty, ?_, q⟩
    rw [← isEmpty_reps rp]
    rcases sq with sq | sq
    · exact .inl ⟨xs, sq, rfl⟩
    · exact .inr (.inl ⟨xs, sq, rfl⟩)
  split at p
  · rw [rep_non] at h; subst h; exact ⟨false, rfl, p⟩
  · rw [rep_bl] at h; subst h; exact ⟨_, rfl, p⟩
  · rw [rep_int] at h; subst h; exact ⟨_, rfl, p⟩
  · rw [rep_str] at h; subst h
    split at p
    · rename_i hz
      exact ⟨_, ⟨hz, rfl⟩, p⟩
    · exact p.elim
  · split at p
    · rename_i l hl
      exact seq l hl p
    · exact p.elim
def mTru (m : M EV) : M Bool := do
  let v ← m
  eTru v
/-- any expression but a comparison, and, or, not: its value's truth -/
theorem bm_tru (ha : EM X T W a ma) (he : ∀ whole, isTrue a X.env whole = (do let v ← whole; standAt a.pos; holding [v] (truthy v)) := by intro _; rfl) : BM X T W a (mTru ma) := by
  refine PT_imp (pt_truth ha he) fun σ H Q hq => ?_
  obtain ⟨S, G, r, p⟩ := hq
  refine tM_bind r p fun v S1 x H1 G1 r1 l1 rp1 p1 => ?_
  obtain ⟨k, e, q⟩ := tru_of r1 rp1 p1
  exact ⟨k, e, q H1 G1 r1 l1⟩
/-- a test's answer as a value -/
def mNot (m : M Bool) : M Bool := do
  let b ← m
  M.ret (!b)
theorem bm_not {m : M Bool} (ha : BM X T W a m) : BM X T W (.UnaryOp .Not a pos) (mNot m) := by
  refine PT_imp (pt_not ha) fun σ H Q hq => ?_
  obtain ⟨S, G, r, p⟩ := hq
  refine tMB_bind r p fun b S1 H1 G1 r1 l1 p1 => p1 H1 G1 r1 l1
/-- .. as a value, by truth -/
def eNotV (v : EV) : M EV := do
  let b ← eTru v
  M.ret (.bl (!b))
theorem em_not (ha : EM X T W a ma) : EM X T W (.UnaryOp .Not a pos) (mUn eNotV ma) := by
  refine PE_imp (pe_notT ha) fun σ H Q hq => ?_
  obtain ⟨S, G, r, p⟩ := hq
  refine tM_bind r p fun v S1 x H1 G1 r1 l1 rp1 p1 => ?_
  obtain ⟨k, e, q⟩ := tru_of r1 rp1 (post_bnd p1)
  exact ⟨k, e, q _ H1 G1 r1 l1 (rep_bl.mpr rfl)⟩
def mAndB (m n : M Bool) : M Bool := do
  let b ← m
  if b then n else M.ret false
def mOrB (m n : M Bool) : M Bool := do
  let b ← m
  if b then M.ret true else n
theorem bw_and1 {m : M Bool} (ha : BM X T W a m) : BW X T W (.BoolOp .And [a] pos) m := pw_and1 ha
theorem bw_or1 {m : M Bool} (ha : BM X T W a m) : BW X T W (.BoolOp .Or [a] pos) m := pw_or1 ha
theorem bw_and {rest : List Expr} {m n : M Bool} (ha : BM X T W a m) (hb : BW X T W (.BoolOp .And (b :: rest) pos) n) : BW X T W (.BoolOp .And (a :: b :: rest) pos) (mAndB m n) := by
  refine PW_imp (pw_and ha hb) fun σ H Q hq => ?_
  obtain ⟨S, G, r, p⟩ := hq
  refine tMB_bind r p fun b S1 H1 G1 r1 l1 p1 => ?_
  cases b with
  | true => exact ⟨S1, G1, r1, p1.mono (fun _ _ => qb_le l1) fun _ _ z => z⟩
  | false => exact p1 H1 G1 r1 l1
theorem bw_or {rest : List Expr} {m n : M Bool} (ha : BM X T W a m) (hb : BW X T W (.BoolOp .Or (b :: rest) pos) n) : BW X T W (.BoolOp .Or (a :: b :: rest) pos) (mOrB m n) := by
  refine PW_imp (pw_or ha hb) fun σ H Q hq => ?_
  obtain ⟨S, G, r, p⟩ := hq
  refine tMB_bind r p fun b S1 H1 G1 r1 l1 p1 => ?_
  cases b with
  | false => exact ⟨S1, G1, r1, p1.mono (fun _ _ => qb_le l1) fun _ _ z => z⟩
  | true => exact p1 H1 G1 r1 l1
theorem bm_bw {e : Expr} {m : M Bool} (h : BW X T W e m) : BM X T W e m := PW.pt h
/-- and, or as values, by truth -/
def mAndV (m n : M EV) : M EV := do
  let v ← m
  let k ← eTru v
  if k then n else M.ret v
def mOrV (m n : M EV) : M EV := do
  let v ← m
  let k ← eTru v
  if k then M.ret v else n
theorem em_one {op : BoolOp} (h : EM X T W a ma) : EM X T W (.BoolOp op [a] pos) ma := pe_one h
theorem em_and {rest : List Expr} {n : M EV} (ha : EM X T W a ma) (hb : EM X T W (.BoolOp .And (b :: rest) pos) n) : EM X T W (.BoolOp .And (a :: b :: rest) pos) (mAndV ma n) := by
  refine PE_imp (pe_andT ha hb) fun σ H Q hq => ?_
  obtain ⟨S, G, r, p⟩ := hq
  refine tM_bind r p fun v S1 x H1 G1 r1 l1 rp1 p1 => ?_
  obtain ⟨k, e, q⟩ := tru_of r1 rp1 (post_bnd p1)
  refine ⟨k, e, ?_⟩
  cases k with
  | true => exact ⟨S1, G1, r1, q.mono (fun _ _ => qe_le l1) fun _ _ z => z⟩
  | false => exact q x H1 G1 r1 l1 rp1
theorem em_or {rest : List Expr} {n : M EV} (ha : EM X T W a ma) (hb : EM X T W (.BoolOp .Or (b :: rest) pos) n) : EM X T W (.BoolOp .Or (a :: b :: rest) pos) (mOrV ma n) := by
  refine PE_imp (pe_orT ha hb) fun σ H Q hq => ?_
  obtain ⟨S, G, r, p⟩ := hq
  refine tM_bind r p fun v S1 x H1 G1 r1 l1 rp1 p1 => ?_
  obtain ⟨k, e, q⟩ := tru_of r1 rp1 (post_bnd p1)
  refine ⟨k, e, ?_⟩
  cases k with
  | false => exact ⟨S1, G1, r1, q.mono (fun _ _ => qe_le l1) fun _ _ z => z⟩
  | true => exact q x H1 G1 r1 l1 rp1
def mIf {α : Type} (c : M Bool) (m n : M α) : M α := do
  let b ← c
  if b then m else n
theorem em_if {c : Expr} {mc : M Bool} (hc : BM X T W c mc) (ha : EM X T W a ma) (hb : EM X T W b mb) : EM X T W (.IfExp c a b pos) (mIf mc ma mb) := by
  refine PE_imp (pe_ifExp hc ha hb) fun σ H Q hq => ?_
  obtain ⟨S, G, r, p⟩ := hq
  refine tMB_bind r p fun b S1 H1 G1 r1 l1 p1 => ?_
  cases b with
  | true => exact ⟨S1, G1, r1, p1.mono (fun _ _ => qe_le l1) fun _ _ z => z⟩
  | false => exact ⟨S1, G1, r1, p1.mono (fun _ _ => qe_le l1) fun _ _ z => z⟩
end

/-! ### data and its equality -/
mutual
def dataOk : EV → Bool
  | .non => true
  | .bl _ => true
  | .int _ => true
  | .str x => x.cps.all (· < 0x110000)
  | .tup l => datasOk l
  | .lst l => datasOk l
  | .dic _ _ _ => false
  | .ref _ => false
  | .lam _ _ => false
  | .scr _ _ => false
def datasOk : List EV → Bool
  | [] => true
  | e :: l => dataOk e && datasOk l
end
mutual
def dep : EV → Nat
  | .tup l => deps l + 1
  | .lst l => deps l + 1
  | _ => 0
def deps : List EV → Nat
  | [] => 0
  | e :: l => max (dep e) (deps l)
end
mutual
/-- == of data -/
def eqq : EV → EV → Bool
  | .non, .non => true
  | .bl a, .bl b => a == b
  | .bl a, .int j => (if a then 1 else 0) == j
  | .int i, .bl b => i == (if b then 1 else 0)
  | .int i, .int j => i == j
  | .str x, .str y => x == y
  | .lst l, .lst m => eqqs l m
  | .tup l, .tup m => eqqs l m
  | _, _ => false
def eqqs : List EV → List EV → Bool
  | [], [] => true
  | x :: xs, y :: ys => eqq x y && eqqs xs ys
  | _, _ => false
end
mutual
def toPy : EV → PyData
  | .non => .none
  | .bl b => .bool b
  | .int i => .int i
  | .str x => .str x
  | .tup l => .tuple (toPys l)
  | .lst l => .list (toPys l)
  | .dic _ _ _ => .none
  | .ref _ => .none
  | .lam _ _ => .none
  | .scr _ _ => .none
def toPys : List EV → List PyData
  | [] => []
  | e :: l => toPy e :: toPys l
end
mutual
theorem canLay_toPy : ∀ (e : EV), dataOk e = true → (toPy e).canLay0 = true
  | .non, _ => rfl
  | .bl _, _ => rfl
  | .int _, _ => rfl
  | .str x, h => by rw [dataOk] at h; rw [toPy, PyData.canLay0]; exact h
  | .tup l, h => by rw [dataOk] at h; rw [toPy, PyData.canLay0]; exact canLays_toPy l h
  | .lst l, h => by rw [dataOk] at h; rw [toPy, PyData.canLay0]; exact canLays_toPy l h
  | .dic _ _ _, h => by rw [dataOk] at h; cases h
  | .ref _, h => by rw [dataOk] at h; cases h
  | .lam _ _, h => by rw [dataOk] at h; cases h
  | .scr _ _, h => by rw [dataOk] at h; cases h
theorem canLays_toPy : ∀ (l : List EV), datasOk l = true → PyData.canLayAll0 (toPys l) = true
  | [], _ => rfl
  | e :: l, h => by
    rw [datasOk, Bool.and_eq_true] at h
    rw [toPys, PyData.canLayAll0, canLay_toPy e h.1, canLays_toPy l h.2]; rfl
end
mutual
theorem depth_toPy : ∀ (e : EV), (toPy e).depth = dep e
  | .non => by rw [toPy, PyData.depth, dep] <;> simp
  | .bl _ => by rw [toPy, PyData.depth, dep] <;> simp
  | .int _ => by rw [toPy, PyData.depth, dep] <;> simp
  | .str x => by rw [toPy, PyData.depth, dep] <;> simp
  | .tup l => by rw [toPy, PyData.depth, dep, depths_toPy l]
  | .lst l => by rw [toPy, PyData.depth, dep, depths_toPy l]
  | .dic _ _ _ => by rw [toPy, PyData.depth, dep] <;> simp
  | .ref _ => by rw [toPy, PyData.depth, dep] <;> simp
  | .lam _ _ => by rw [toPy, PyData.depth, dep] <;> simp
  | .scr _ _ => by rw [toPy, PyData.depth, dep] <;> simp
theorem depths_toPy : ∀ (l : List EV), PyData.depthAll (toPys l) = deps l
  | [] => rfl
  | e :: l => by rw [toPys, PyData.depthAll, deps, depth_toPy e, depths_toPy l]
end
mutual
theorem eqv_toPy : ∀ (e f : EV), dataOk e = true → dataOk f = true → PyData.eqv (toPy e) (toPy f) = eqq e f
  | .non, f, _, h => by cases f <;> first | rfl | (rw [dataOk] at h; cases h)
  | .bl _, f, _, h => by cases f <;> first | rfl | (rw [dataOk] at h; cases h)
  | .int _, f, _, h => by cases f <;> first | rfl | (rw [dataOk] at h; cases h)
  | .str x, f, _, h => by cases f <;> first | rfl | (rw [dataOk] at h; cases h)
  | .tup l, f, h1, h => by
    cases f with
    | tup m => rw [dataOk] at h1 h; rw [toPy, toPy, PyData.eqv, eqq]; exact eqvs_toPy l m h1 h
    | _ => first | rfl | (rw [dataOk] at h; cases h)
  | .lst l, f, h1, h => by
    cases f with
    | lst m => rw [dataOk] at h1 h; rw [toPy, toPy, PyData.eqv, eqq]; exact eqvs_toPy l m h1 h
    | _ => first | rfl | (rw [dataOk] at h; cases h)
  | .dic _ _ _, _, h, _ => by rw [dataOk] at h; cases h
  | .ref _, _, h, _ => by rw [dataOk] at h; cases h
  | .lam _ _, _, h, _ => by rw [dataOk] at h; cases h
  | .scr _ _, _, h, _ => by rw [dataOk] at h; cases h
theorem eqvs_toPy : ∀ (l m : List EV), datasOk l = true → datasOk m = true → PyData.eqvAll (toPys l) (toPys m) = eqqs l m
  | [], [], _, _ => rfl
  | [], _ :: _, _, _ => rfl
  | _ :: _, [], _, _ => rfl
  | e :: l, f :: m, h1, h2 => by
    rw [datasOk, Bool.and_eq_true] at h1 h2
    rw [toPys, toPys, PyData.eqvAll, eqqs, eqv_toPy e f h1.1 h2.1, eqvs_toPy l m h1.2 h2.2]
end
mutual
theorem dp_of {C : Sc} {H : Hp} {G : Gh} : ∀ (e : EV) (x : V), dataOk e = true → Rep C G H e x → Dp C.K H x (toPy e)
  | .non, x, _, h => by rw [rep_non] at h; subst h; exact .non
  | .bl _, x, _, h => by rw [rep_bl] at h; subst h; exact .bl _
  | .int _, x, _, h => by rw [rep_int] at h; subst h; exact .int _
  | .str _, x, _, h => by rw [rep_str] at h; subst h; exact .str _
  | .tup l, x, h1, h => by
    obtain ⟨a, xs, rfl, f, q, rp⟩ := rep_tup.mp h
    rw [dataOk] at h1
    exact .tup (.inl (.inl q)) (dps_of l xs h1 rp)
  | .lst l, x, h1, h => by
    obtain ⟨a, xs, rfl, f, q, rp⟩ := rep_lst.mp h
    rw [dataOk] at h1
    exact .lst (.inl (.inl q)) (dps_of l xs h1 rp)
  | .dic _ _ _, _, h, _ => by rw [dataOk] at h; cases h
  | .ref _, _, h, _ => by rw [dataOk] at h; cases h
  | .lam _ _, _, h, _ => by rw [dataOk] at h; cases h
  | .scr _ _, _, h, _ => by rw [dataOk] at h; cases h
theorem dps_of {C : Sc} {H : Hp} {G : Gh} : ∀ (l : List EV) (xs : List V), datasOk l = true → Reps C G H l xs → DpAll C.K H xs (toPys l)
  | [], _, _, h => by rw [reps_nil] at h; subst h; exact .nil
  | e :: l, _, h1, h => by
    obtain ⟨x, r, rfl, rp, rps⟩ := reps_cons.mp h
    rw [datasOk, Bool.and_eq_true] at h1
    exact .cons (dp_of e x h1.1 rp) (dps_of l r h1.2 rps)
end
/-- a value as data: a heap list is read -/
def dat (S : ES) : EV → EV
  | .ref n => match S.hp[n]? with
    | some (.lst l) => .lst l
    | _ => .ref n
  | v => v
def cmpOk (v : EV) : Bool := dataOk v && decide (dep v ≤ 64)
def eEq (v w : EV) : M EV := fun S => if cmpOk (dat S v) && cmpOk (dat S w) then .ok (.bl (eqq (dat S v) (dat S w))) S else .bad
def eNe (v w : EV) : M EV := fun S => if cmpOk (dat S v) && cmpOk (dat S w) then .ok (.bl (!eqq (dat S v) (dat S w))) S else .bad
section
variable {C : Sc} {S : ES} {σ : L2.St} {H : Hp} {G : Gh}
theorem dat_of {v : EV} {x : V} (r : SRel C S σ H G) (h : Rep C G H v x) (k : cmpOk (dat S v) = true) : Dp C.K H x (toPy (dat S v)) ∧ SeqAt.shaped (toPy (dat S v)) = true := by
  unfold cmpOk at k
  simp only [Bool.and_eq_true, decide_eq_true_eq] at k
  have sh : SeqAt.shaped (toPy (dat S v)) = true := by
    unfold SeqAt.shaped
    rw [canLay_toPy _ k.1, depth_toPy]
    simp [k.2]
  refine ⟨?_, sh⟩
  cases v with
  | ref n =>
    simp only [dat] at k ⊢
    split at k
    · rename_i l hl
      obtain ⟨a, ha, rfl⟩ := rep_ref.mp h
      obtain ⟨a', u, e1, e2, xs, e3, rp⟩ := r.hr.obj n _ hl
      rw [ha] at e1; cases e1
      subst e3
      rw [toPy]
      rw [dataOk] at k
      exact .lst (.inl (.inl e2)) (dps_of l xs k.1 rp)
    · exact absurd k.1 (by rw [dataOk]; exact Bool.false_ne_true)
  | _ => exact dp_of _ x k.1 h
end
section
variable {X : Cx} {T : TbS} {W : WX} {a b c : Expr} {ma mb mc : M EV} {pos : Pos}
theorem opm_eq : OpM X T W (rEqD X.K) eEq := by
  intro S G σ H v w x y Q r h1 h2 p
  unfold eEq at p
  split at p
  · rename_i hk
    rw [Bool.and_eq_true] at hk
    obtain ⟨d1, s1⟩ := dat_of r h1 hk.1
    obtain ⟨d2, s2⟩ := dat_of r h2 hk.2
    refine ⟨_, _, d1, d2, s1, s2, ?_⟩
    have k1 : dataOk (dat S v) = true := (Bool.and_eq_true_iff.mp hk.1).1
    have k2 : dataOk (dat S w) = true := (Bool.and_eq_true_iff.mp hk.2).1
    rw [eqv_toPy _ _ k1 k2]
    exact p _ H G r (Le.refl _ _) (rep_bl.mpr rfl)
  · exact p.elim
theorem opm_ne : OpM X T W (rNeD X.K) eNe := by
  intro S G σ H v w x y Q r h1 h2 p
  unfold eNe at p
  split at p
  · rename_i hk
    rw [Bool.and_eq_true] at hk
    obtain ⟨d1, s1⟩ := dat_of r h1 hk.1
    obtain ⟨d2, s2⟩ := dat_of r h2 hk.2
    refine ⟨_, _, d1, d2, s1, s2, ?_⟩
    have k1 : dataOk (dat S v) = true := (Bool.and_eq_true_iff.mp hk.1).1
    have k2 : dataOk (dat S w) = true := (Bool.and_eq_true_iff.mp hk.2).1
    rw [eqv_toPy _ _ k1 k2]
    exact p _ H G r (Le.refl _ _) (rep_bl.mpr rfl)
  · exact p.elim
def eCmp (f : Int → Int → Bool) : EV → EV → M EV
  | .int i, .int j => M.ret (.bl (f i j))
  | _, _ => M.fail
theorem opm_cmp {f : Int → Int → Bool} : OpM X T W (rI0 fun i j => .bl (f i j)) (eCmp f) := by
  intro S G σ H v w x y Q r h1 h2 p
  unfold eCmp at p
  split at p
  · rw [rep_int] at h1 h2
    exact ⟨_, _, h1, h2, ret_post r p (rep_bl.mpr rfl)⟩
  · exact p.elim
abbrev eLt := eCmp fun i j => decide (i < j)
abbrev eLe := eCmp fun i j => decide (i ≤ j)
abbrev eGt := eCmp fun i j => decide (j < i)
abbrev eGe := eCmp fun i j => decide (j ≤ i)
def eIs : EV → EV → M EV
  | v, .non => match v with
    | .non => M.ret (.bl true)
    | _ => M.ret (.bl false)
  | _, _ => M.fail
def eIsNot : EV → EV → M EV
  | v, .non => match v with
    | .non => M.ret (.bl false)
    | _ => M.ret (.bl true)
  | _, _ => M.fail
theorem rep_ne_non {C : Sc} {H : Hp} {G : Gh} {v : EV} {x : V} (h : Rep C G H v x) (n : v ≠ .non) : x ≠ .non := by
  intro e
  subst e
  cases v with
  | non => exact n rfl
  | bl _ => rw [rep_bl] at h; cases h
  | int _ => rw [rep_int] at h; cases h
  | str _ => rw [rep_str] at h; cases h
  | tup _ => obtain ⟨a, xs, e, _⟩ := rep_tup.mp h; cases e
  | lst _ => obtain ⟨a, xs, e, _⟩ := rep_lst.mp h; cases e
  | scr _ _ => obtain ⟨a, xs, e, _⟩ := rep_scr.mp h; cases e
  | dic _ _ _ => obtain ⟨a, xs, e, _⟩ := rep_dic.mp h; cases e
  | ref _ => obtain ⟨a, _, e⟩ := rep_ref.mp h; cases e
  | lam _ _ => rw [Rep] at h; obtain ⟨_, _, _, _, _, e, _⟩ := h; cases e
theorem opm_is : OpM X T W (fun x y H Q => y = .non ∧ Q (.bl (decide (x = .non))) H) eIs := by
  intro S G σ H v w x y Q r h1 h2 p
  cases w with
  | non =>
    rw [rep_non] at h2
    refine ⟨h2, ?_⟩
    cases v with
    | non =>
      rw [rep_non] at h1
      subst h1
      exact ret_post (v := .bl true) r p (rep_bl.mpr (by simp))
    | _ => exact ret_post (v := .bl false) r p (rep_bl.mpr (by simp [rep_ne_non h1 (by intro z; cases z)]))
  | _ => exact p.elim
theorem opm_isNot : OpM X T W (fun x y H Q => y = .non ∧ Q (.bl (!decide (x = .non))) H) eIsNot := by
  intro S G σ H v w x y Q r h1 h2 p
  cases w with
  | non =>
    rw [rep_non] at h2
    refine ⟨h2, ?_⟩
    cases v with
    | non =>
      rw [rep_non] at h1
      subst h1
      exact ret_post (v := .bl false) r p (rep_bl.mpr (by simp))
    | _ => exact ret_post (v := .bl true) r p (rep_bl.mpr (by simp [rep_ne_non h1 (by intro z; cases z)]))
  | _ => exact p.elim
/-- a comparison's rule -/
structure CmpM (X : Cx) (T : TbS) (W : WX) (op : CmpOp) (f : EV → EV → M EV) : Prop where
  ex : ∃ r, OpR X (compareOp op) r ∧ OpM X T W r f
theorem cm_eq (hu : X.A.units + 64 < cLine) : CmpM X T W .Eq eEq := ⟨_, op_eqD hu, opm_eq⟩
theorem cm_ne (hu : X.A.units + 64 < cLine) : CmpM X T W .NotEq eNe := ⟨_, op_neD hu, opm_ne⟩
theorem cm_lt : CmpM X T W .Lt eLt := ⟨_, op_lt, opm_cmp⟩
theorem cm_le : CmpM X T W .LtE eLe := ⟨_, op_le, opm_cmp⟩
theorem cm_gt : CmpM X T W .Gt eGt := ⟨_, op_gt, opm_cmp⟩
theorem cm_ge : CmpM X T W .GtE eGe := ⟨_, op_ge, opm_cmp⟩
theorem cm_is : CmpM X T W .Is eIs := ⟨_, op_isN, opm_is⟩
theorem cm_isNot : CmpM X T W .IsNot eIsNot := ⟨_, op_notN, opm_isNot⟩
theorem em_cmp {op : CmpOp} {f : EV → EV → M EV} (hc : CmpM X T W op f) (ha : EM X T W a ma) (hb : EM X T W b mb) (hm : behindInMarks op b = false) : EM X T W (.Compare a [op] [b] pos) (mBin f ma mb) := by
  obtain ⟨r, ho, hf⟩ := hc.ex
  exact PE_imp (pe_cmpR ho ha hb hm) (tM_bin hf)
def toB (v : EV) : M Bool := match v with
  | .bl b => M.ret b
  | _ => M.fail
def mB (m : M EV) : M Bool := do
  let v ← m
  toB v
/-- a value's reading as a test -/
theorem tM_test {m : M EV} {C : Sc} : ∀ σ H (Q : Bool → Hp → Prop), tMB C W (mB m) σ H Q → tM C W m σ H fun x H' => ∃ k, x = .bl k ∧ Q k H' := by
  rintro σ H Q ⟨S, G, r, p⟩
  refine tM_bind r p fun v S1 x H1 G1 r1 l1 rp1 p1 => ?_
  cases v with
  | bl k => exact ⟨k, rep_bl.mp rp1, p1 H1 G1 r1 l1⟩
  | _ => exact p1.elim
theorem bm_cmp {op : CmpOp} {f : EV → EV → M EV} (hc : CmpM X T W op f) (ha : EM X T W a ma) (hb : EM X T W b mb) (hm : behindInMarks op b = false) : BM X T W (.Compare a [op] [b] pos) (mB (mBin f ma mb)) := by
  obtain ⟨r, ho, hf⟩ := hc.ex
  exact PT_imp (pt_cmpR ho ha hb hm) fun σ H Q h => tM_bin hf σ H _ (tM_test σ H Q h)
def mChain (f g : EV → EV → M EV) (ma mb mc : M EV) : M EV := do
  let v ← ma
  let w ← mb
  let k ← f v w
  let k ← toB k
  if k then do
    let z ← mc
    g w z
  else M.ret (.bl false)
theorem tM_chain {r r' : R2} {f g : EV → EV → M EV} (hf : OpM X T W r f) (hg : OpM X T W r' g) : ∀ σ H Q, tM (scOf X T) W (mChain f g ma mb mc) σ H Q → tChain r r' (tM (scOf X T) W ma) (tM (scOf X T) W mb) (tM (scOf X T) W mc) σ H Q := by
  rintro σ H Q ⟨S, G, rl, p⟩
  refine tM_bind rl p fun v S1 x H1 G1 r1 l1 rp1 p1 => ?_
  refine tM_bind r1 p1 fun w S2 y H2 G2 r2 l2 rp2 p2 => ?_
  refine hf S2 G2 σ H2 v w x y _ r2 (rp1.mono l2) rp2 ((post_bnd p2).mono (fun k S3 q x3 H3 G3 r3 l3 rp3 => ?_) fun _ _ z => z)
  cases k with
  | bl k =>
    refine ⟨k, rep_bl.mp rp3, ?_⟩
    have q' := post_bnd (m := toB (.bl k)) q
    have q'' : Post ((if k then (do let z ← mc; g w z) else M.ret (.bl false)) S3) (QE (scOf X T) G H σ Q) (QX (scOf X T) G2 H2 σ W) := q'
    cases k with
    | true =>
      rw [if_pos rfl]
      rw [if_pos rfl] at q''
      have l03 := (l1.trans l2).trans l3
      refine tM_bind r3 (q''.mono (fun _ _ z => z) fun _ _ => qx_le l3) fun z S4 x4 H4 G4 r4 l4 rp4 p4 => ?_
      exact hg S4 G4 σ H4 w z y x4 Q r4 (rp2.mono (l3.trans l4)) rp4 (p4.mono (fun _ _ => qe_le (l03.trans l4)) fun _ _ z => z)
    | false =>
      rw [if_neg Bool.false_ne_true]
      rw [if_neg Bool.false_ne_true] at q''
      exact q'' _ H3 G3 r3 ((l1.trans l2).trans l3) (rep_bl.mpr rfl)
  | _ => exact q.elim
theorem em_chain {op op' : CmpOp} {f g : EV → EV → M EV} (h1 : CmpM X T W op f) (h2 : CmpM X T W op' g) (ha : EM X T W a ma) (hb : EM X T W b mb) (hc : EM X T W c mc)
    (hm : lastMarks [op, op'] [b, c] = false := by with_unfolding_all rfl) : EM X T W (.Compare a [op, op'] [b, c] pos) (mChain f g ma mb mc) := by
  obtain ⟨r, ho, hf⟩ := h1.ex
  obtain ⟨r', ho', hg⟩ := h2.ex
  exact PE_imp (pe_chain ho ho' ha hb hc hm) (tM_chain hf hg)
theorem bm_chain {op op' : CmpOp} {f g : EV → EV → M EV} (h1 : CmpM X T W op f) (h2 : CmpM X T W op' g) (ha : EM X T W a ma) (hb : EM X T W b mb) (hc : EM X T W c mc)
    (hm : lastMarks [op, op'] [b, c] = false := by with_unfolding_all rfl) : BM X T W (.Compare a [op, op'] [b, c] pos) (mB (mChain f g ma mb mc)) := by
  obtain ⟨r, ho, hf⟩ := h1.ex
  obtain ⟨r', ho', hg⟩ := h2.ex
  exact PT_imp (pt_chain ho ho' ha hb hc hm) fun σ H Q h => tM_chain hf hg σ H _ (tM_test σ H Q h)
end
end ML
/-! ML4 -/
set_option Elab.async false
set_option linter.all false
set_option autoImplicit false
set_option maxRecDepth 100000
set_option maxHeartbeats 4000000
/-! ML4: statements, targets, loops, defs and their calls -/
namespace ML
open PySem PySem.Spec PyProof.Rows L2

inductive Fl where
  | nx | ret (v : EV) | brk | ct

def QS (C : Sc) (G : Gh) (H : Hp) (D : Ends) : Fl → ES → Prop
  | .nx, S' => ∀ σ' H' G', SRel C S' σ' H' G' → Le G H G' H' → D.nx σ' H'
  | .ret v, S' => ∀ x H' G', HRel C S'.hp H' G' → Le G H G' H' → Rep C G' H' v x → D.rt x H'
  | .brk, S' => ∀ σ' H' G', SRel C S' σ' H' G' → Le G H G' H' → D.bk σ' H'
  | .ct, S' => ∀ σ' H' G', SRel C S' σ' H' G' → Le G H G' H' → D.ct σ' H'
def QXS (C : Sc) (G : Gh) (H : Hp) (W : WX) : Str → ES → Prop := fun c S' => ∀ σ' H' G', SRel C S' σ' H' G' → Le G H G' H' → W (excV C c) none σ' H'
def tS (C : Sc) (W : WX) (m : M Fl) : TS := fun D σ H => ∃ S G, SRel C S σ H G ∧ Post (m S) (QS C G H D) (QXS C G H W)
/-- a statement, a block -/
def SM (X : Cx) (T : TbS) (W : WX) (st : Stmt) (m : M Fl) : Prop := PS X st (tS (scOf X T) W m)
def SMs (X : Cx) (T : TbS) (W : WX) (st : List Stmt) (m : M Fl) : Prop := PSs X st (tS (scOf X T) W m)
theorem PS_imp {X : Cx} {e : Stmt} {t t' : TS} (h : PS X e t) (hi : ∀ D σ H, t' D σ H → t D σ H) : PS X e t' := ⟨fun pins s σ H D I q => h.run pins s σ H D I (hi D σ H q)⟩
theorem PSs_imp {X : Cx} {e : List Stmt} {t t' : TS} (h : PSs X e t) (hi : ∀ D σ H, t' D σ H → t D σ H) : PSs X e t' := ⟨fun pins s σ H D I q => h.run pins s σ H D I (hi D σ H q)⟩

section
variable {C : Sc} {G G1 : Gh} {H H1 : Hp} {W : WX} {σ : L2.St}
theorem qs_le {D : Ends} {f : Fl} {S : ES} (l : Le G H G1 H1) (h : QS C G H D f S) : QS C G1 H1 D f S := by
  cases f with
  | nx => exact fun σ' H' G' r le => h σ' H' G' r (l.trans le)
  | ret v => exact fun x H' G' r le rp => h x H' G' r (l.trans le) rp
  | brk => exact fun σ' H' G' r le => h σ' H' G' r (l.trans le)
  | ct => exact fun σ' H' G' r le => h σ' H' G' r (l.trans le)
theorem qxs_le {c : Str} {S : ES} (l : Le G H G1 H1) (h : QXS C G H W c S) : QXS C G1 H1 W c S := fun σ' H' G' r le => h σ' H' G' r (l.trans le)
theorem ps_le {m : Res Fl} {D : Ends} (l : Le G H G1 H1) (h : Post m (QS C G H D) (QXS C G H W)) : Post m (QS C G1 H1 D) (QXS C G1 H1 W) := h.mono (fun _ _ => qs_le l) fun _ _ => qxs_le l
theorem qx_of {c : Str} {S : ES} (h : QXS C G H W c S) : QX C G H σ W c S := fun H' G' r le => h σ H' G' r le
/-- an expression ahead in a statement -/
theorem sM_bind {β : Type} {m : M EV} {f : EV → M β} {S : ES} {Qb : β → ES → Prop} {Q : VK} (r : SRel C S σ H G) (p : Post ((m >>= f) S) Qb (QXS C G H W))
    (h : ∀ v S1 x H1 G1, SRel C S1 σ H1 G1 → Le G H G1 H1 → Rep C G1 H1 v x → Post (f v S1) Qb (QXS C G1 H1 W) → Q x H1) : tM C W m σ H Q :=
  ⟨S, G, r, (post_bnd p).mono (fun v S1 q x H1 G1 r1 l1 rp => h v S1 x H1 G1 r1 l1 rp (q.mono (fun _ _ z => z) fun _ _ => qxs_le l1)) fun _ _ z => qx_of z⟩
theorem sMO_bind {β : Type} {m : M EObj} {f : EObj → M β} {S : ES} {Qb : β → ES → Prop} {Q : VK} (r : SRel C S σ H G) (p : Post ((m >>= f) S) Qb (QXS C G H W))
    (h : ∀ v S1 x H1 G1, SRel C S1 σ H1 G1 → Le G H G1 H1 → FreshAt C S1 σ H1 G1 v x → Post (f v S1) Qb (QXS C G1 H1 W) → Q x H1) : tMO C W m σ H Q :=
  ⟨S, G, r, (post_bnd p).mono (fun v S1 q x H1 G1 r1 l1 rp => h v S1 x H1 G1 r1 l1 rp (q.mono (fun _ _ z => z) fun _ _ => qxs_le l1)) fun _ _ z => qx_of z⟩
theorem sMB_bind {β : Type} {m : M Bool} {f : Bool → M β} {S : ES} {Qb : β → ES → Prop} {Q : Bool → Hp → Prop} (r : SRel C S σ H G) (p : Post ((m >>= f) S) Qb (QXS C G H W))
    (h : ∀ v S1 H1 G1, SRel C S1 σ H1 G1 → Le G H G1 H1 → Post (f v S1) Qb (QXS C G1 H1 W) → Q v H1) : tMB C W m σ H Q :=
  ⟨S, G, r, (post_bnd p).mono (fun v S1 q H1 G1 r1 l1 => h v S1 H1 G1 r1 l1 (q.mono (fun _ _ z => z) fun _ _ => qxs_le l1)) fun _ _ z => qx_of z⟩
theorem sML_bind {β : Type} {m : M (List EV)} {f : List EV → M β} {S : ES} {Qb : β → ES → Prop} {Q : List V → Hp → Prop} (r : SRel C S σ H G) (p : Post ((m >>= f) S) Qb (QXS C G H W))
    (h : ∀ v S1 x H1 G1, SRel C S1 σ H1 G1 → Le G H G1 H1 → Reps C G1 H1 v x → Post (f v S1) Qb (QXS C G1 H1 W) → Q x H1) : tML C W m σ H Q :=
  ⟨S, G, r, (post_bnd p).mono (fun v S1 q x H1 G1 r1 l1 rp => h v S1 x H1 G1 r1 l1 rp (q.mono (fun _ _ z => z) fun _ _ => qxs_le l1)) fun _ _ z => qx_of z⟩
theorem sMB_bind0 {β : Type} {G0 : Gh} {H0 : Hp} {m : M Bool} {f : Bool → M β} {S : ES} {Qb : β → ES → Prop} {Q : Bool → Hp → Prop} (r : SRel C S σ H G) (l0 : Le G0 H0 G H) (p : Post ((m >>= f) S) Qb (QXS C G0 H0 W))
    (h : ∀ v S1 H1 G1, SRel C S1 σ H1 G1 → Le G H G1 H1 → Post (f v S1) Qb (QXS C G0 H0 W) → Q v H1) : tMB C W m σ H Q :=
  ⟨S, G, r, (post_bnd p).mono (fun v S1 q H1 G1 r1 l1 => h v S1 H1 G1 r1 l1 q) fun _ _ z => qx_of (qxs_le l0 z)⟩
end

/-! ### stores to slots -/
def setSl (i : Nat) (s : Slot) : M Unit := fun S => if i < S.sl.length then .ok () { S with sl := S.sl.set i s } else .bad
section
variable {C : Sc} {S : ES} {σ : L2.St} {H : Hp} {G : Gh}
theorem SRel.setVal (r : SRel C S σ H G) {i : Nat} {v : EV} {x : V} (hi : i < S.sl.length) (h : Rep C G H v x) : SRel C { S with sl := S.sl.set i (.val v) } (σ.set i (some x)) H G := by
  have hi' : i < σ.length := by rw [← r.len]; exact hi
  refine ⟨r.hr, by simpa using r.len, fun j => ?_, fun j k a o o' h1 h2 h3 h4 => ?_⟩
  · show SlRel C G H (S.sl.set i (.val v))[j]? (σ.set i (some x))[j]?
    by_cases hj : i = j
    · subst hj
      rw [List.getElem?_set_self hi, List.getElem?_set_self hi']
      exact ⟨x, rfl, h⟩
    · rw [List.getElem?_set_ne hj, List.getElem?_set_ne hj]
      exact r.slot j
  · have h1' : (S.sl.set i (.val v))[j]? = some (Slot.own o) := h1
    have h2' : (S.sl.set i (.val v))[k]? = some (Slot.own o') := h2
    by_cases hj : i = j
    · subst hj; rw [List.getElem?_set_self hi] at h1'; cases h1'
    · by_cases hk : i = k
      · subst hk; rw [List.getElem?_set_self hi] at h2'; cases h2'
      · rw [List.getElem?_set_ne hj] at h1' h3
        rw [List.getElem?_set_ne hk] at h2' h4
        exact r.dis j k a o o' h1' h2' h3 h4
theorem SRel.setOwn (r : SRel C S σ H G) {i : Nat} {o : EObj} {x : V} (hi : i < S.sl.length) (h : FreshAt C S σ H G o x) : SRel C { S with sl := S.sl.set i (.own o) } (σ.set i (some x)) H G := by
  have hi' : i < σ.length := by rw [← r.len]; exact hi
  obtain ⟨a, u, rfl, hu, ho, n1, n2, n3, n4⟩ := h
  have other : ∀ (j : Nat) (o' : EObj), i ≠ j → S.sl[j]? = some (Slot.own o') → σ[j]? = some (some (V.ref a)) → False := fun j o' _ h1 h2 => n4 ⟨j, o', h1, h2⟩
  refine ⟨r.hr, by simpa using r.len, fun j => ?_, fun j k b o1 o2 h1 h2 h3 h4 => ?_⟩
  · show SlRel C G H (S.sl.set i (.own o))[j]? (σ.set i (some (.ref a)))[j]?
    by_cases hj : i = j
    · subst hj
      rw [List.getElem?_set_self hi, List.getElem?_set_self hi']
      exact ⟨a, u, rfl, hu, ho, n1, n2, n3⟩
    · rw [List.getElem?_set_ne hj, List.getElem?_set_ne hj]
      exact r.slot j
  · have h1' : (S.sl.set i (.own o))[j]? = some (Slot.own o1) := h1
    have h2' : (S.sl.set i (.own o))[k]? = some (Slot.own o2) := h2
    by_cases hj : i = j
    · by_cases hk : i = k
      · rw [← hj, ← hk]
      · subst hj
        rw [List.getElem?_set_self hi'] at h3
        cases h3
        rw [List.getElem?_set_ne hk] at h2' h4
        exact (other k o2 hk h2' h4).elim
    · by_cases hk : i = k
      · subst hk
        rw [List.getElem?_set_self hi'] at h4
        cases h4
        rw [List.getElem?_set_ne hj] at h1' h3
        exact (other j o1 hj h1' h3).elim
      · rw [List.getElem?_set_ne hj] at h1' h3
        rw [List.getElem?_set_ne hk] at h2' h4
        exact r.dis j k b o1 o2 h1' h2' h3 h4
end

/-! ### targets -/
/-- only the slots at I were set -/
def Kep (I : List Nat) (σ σ' : L2.St) : Prop := σ'.length = σ.length ∧ ∀ i, i ∉ I → σ'[i]? = σ[i]?
theorem Kep.refl (I : List Nat) (σ : L2.St) : Kep I σ σ := ⟨rfl, fun _ _ => rfl⟩
theorem Kep.trans {I : List Nat} {a b c : L2.St} (x : Kep I a b) (y : Kep I b c) : Kep I a c := ⟨y.1.trans x.1, fun i h => (y.2 i h).trans (x.2 i h)⟩
def QG (C : Sc) (G : Gh) (H : Hp) (I : List Nat) (σ : L2.St) (Q : L2.St → Hp → Prop) : Unit → ES → Prop := fun _ S' => ∀ σ' H' G', SRel C S' σ' H' G' → Le G H G' H' → Kep I σ σ' → Q σ' H'
def NoX : Str → ES → Prop := fun _ _ => False
def tG (C : Sc) (I : List Nat) (g : EV → M Unit) : TG := fun x σ H Q => ∃ S G v, SRel C S σ H G ∧ Rep C G H v x ∧ Post (g v S) (QG C G H I σ Q) NoX
def tGs (C : Sc) (I : List Nat) (g : List EV → M Unit) : TGs := fun xs σ H Q => ∃ S G l, SRel C S σ H G ∧ Reps C G H l xs ∧ Post (g l S) (QG C G H I σ Q) NoX
def GM (X : Cx) (T : TbS) (I : List Nat) (tg : Expr) (g : EV → M Unit) : Prop := PG X tg (tG (scOf X T) I g)
def GMs (X : Cx) (T : TbS) (I : List Nat) (ts : List Expr) (g : List EV → M Unit) : Prop := PGs X ts (tGs (scOf X T) I g)
theorem PG_imp {X : Cx} {e : Expr} {t t' : TG} (h : PG X e t) (hi : ∀ v σ H Q, t' v σ H Q → t v σ H Q) : PG X e t' := ⟨fun pins s σ H v u Q I r q => h.run pins s σ H v u Q I r (hi v σ H Q q)⟩
theorem PGs_imp {X : Cx} {e : List Expr} {t t' : TGs} (h : PGs X e t) (hi : ∀ v σ H Q, t' v σ H Q → t v σ H Q) : PGs X e t' := ⟨fun pins s σ H v u Q I r q => h.run pins s σ H v u Q I r (hi v σ H Q q)⟩
def gSet (i : Nat) : EV → M Unit := fun v => setSl i (.val v)
def gNilM : List EV → M Unit
  | [] => M.ret ()
  | _ => M.fail
def gConsM (g : EV → M Unit) (gs : List EV → M Unit) : List EV → M Unit
  | v :: l => do
    g v
    gs l
  | [] => M.fail
def gTupM (n : Nat) (gs : List EV → M Unit) : EV → M Unit
  | .tup l => if l.length = n then gs l else M.fail
  | _ => M.fail
section
variable {X : Cx} {T : TbS} {W : WX} {pos : Pos} {I : List Nat}
theorem gm_name {i : Nat} {x : Str} (hN : X.N.Nodup) (hi : X.N[i]? = some x) (hx : Loc X.env.scope x) (hI : i ∈ I) (hf : X.fn x = true ∨ X.env.scope.names.lookup x = some .local := by first | exact .inl rfl | exact .inr rfl | assumption) : GM X T I (.Name x pos) (gSet i) := by
  refine PG_imp (pg_name hN hi hx hf) fun v σ H Q h => ?_
  obtain ⟨S, G, e, r, rp, p⟩ := h
  unfold gSet setSl at p
  split at p
  · rename_i hl
    exact p _ H G (r.setVal hl rp) (Le.refl _ _) ⟨by simp, fun j hj => List.getElem?_set_ne fun z => hj (by rw [← z]; exact hI)⟩
  · exact p.elim
theorem gms_nil : GMs X T I [] gNilM := by
  refine PGs_imp pgs_nil fun v σ H Q h => ?_
  obtain ⟨S, G, l, r, rp, p⟩ := h
  cases l with
  | nil => exact ⟨reps_nil.mp rp, p σ H G r (Le.refl _ _) (Kep.refl _ _)⟩
  | cons e l => exact p.elim
theorem gms_cons {e : Expr} {es : List Expr} {g : EV → M Unit} {gs : List EV → M Unit} (h1 : GM X T I e g) (h2 : GMs X T I es gs)
    (hs : (assignEach (e :: es) X.env).map (·.2) = assign e X.env :: (assignEach es X.env).map (·.2) := by rfl) : GMs X T I (e :: es) (gConsM g gs) := by
  refine PGs_imp (pgs_cons h1 h2 hs) fun v σ H Q h => ?_
  obtain ⟨S, G, l, r, rp, p⟩ := h
  cases l with
  | nil => exact p.elim
  | cons e l =>
    obtain ⟨x, rr, rfl, rx, rl⟩ := reps_cons.mp rp
    refine ⟨x, rr, rfl, S, G, e, r, rx, (post_bnd p).mono (fun _ S1 q σ1 H1 G1 r1 l1 k1 => ?_) fun _ _ z => z⟩
    exact ⟨S1, G1, l, r1, rl.mono l1, q.mono (fun _ _ z σ' H' G' r' l' k' => z σ' H' G' r' (l1.trans l') (k1.trans k')) fun _ _ z => z⟩
theorem gm_tup {es : List Expr} {k : Nat} {gs : List EV → M Unit} {n : Nat} (hc : X.calm = true) (h : GMs X T I es gs)
    (hn : (assignEach es X.env).length = n := by rfl) (hst : (assignEach es X.env).findIdx? (·.1) = none := by rfl) : GM X T I (.Tuple es k pos) (gTupM n gs) := by
  refine PG_imp (pg_tup hc h hn hst) fun v σ H Q hq => ?_
  obtain ⟨S, G, e, r, rp, p⟩ := hq
  unfold gTupM at p
  split at p
  · rename_i l
    split at p
    · rename_i hl
      obtain ⟨a, xs, rfl, f, q, rl⟩ := rep_tup.mp rp
      exact ⟨a, xs, rfl, .inl (.inl q), by rw [rl.length]; exact hl, S, G, l, r, rl, p⟩
    · exact p.elim
  · exact p.elim

/-! ### statements -/
def sNx : M Fl := M.ret .nx
def sSeq (a b : M Fl) : M Fl := do
  let f ← a
  match f with
  | .nx => b
  | f => M.ret f
theorem sms_nil : SMs X T W [] sNx := by
  refine PSs_imp pss_nil fun D σ H h => ?_
  obtain ⟨S, G, r, p⟩ := h
  exact p σ H G r (Le.refl _ _)
theorem tS_seq {C : Sc} {a b : M Fl} : ∀ D σ H, tS C W (sSeq a b) D σ H → tSeq (tS C W a) (tS C W b) D σ H := by
  rintro D σ H ⟨S, G, r, p⟩
  refine ⟨S, G, r, (post_bnd p).mono (fun f S1 q => ?_) fun _ _ z => z⟩
  cases f with
  | nx => exact fun σ1 H1 G1 r1 l1 => ⟨S1, G1, r1, ps_le l1 q⟩
  | ret v => exact q
  | brk => exact q
  | ct => exact q
theorem sms_cons {st : Stmt} {rest : List Stmt} {a b : M Fl} (h1 : SM X T W st a) (h2 : SMs X T W rest b) : SMs X T W (st :: rest) (sSeq a b) := PSs_imp (pss_cons h1 h2) tS_seq
theorem sms_one {st : Stmt} {a : M Fl} (h1 : SM X T W st a) : SMs X T W [st] a := pss_one h1
theorem sm_pass : SM X T W (.Pass pos) sNx := by
  refine PS_imp ps_pass fun D σ H h => ?_
  obtain ⟨S, G, r, p⟩ := h
  exact p σ H G r (Le.refl _ _)
def sBrk : M Fl := M.ret .brk
def sCt : M Fl := M.ret .ct
theorem sm_break : SM X T W (.Break pos) sBrk := by
  refine PS_imp ps_break fun D σ H h => ?_
  obtain ⟨S, G, r, p⟩ := h
  exact p σ H G r (Le.refl _ _)
theorem sm_continue : SM X T W (.Continue pos) sCt := by
  refine PS_imp ps_continue fun D σ H h => ?_
  obtain ⟨S, G, r, p⟩ := h
  exact p σ H G r (Le.refl _ _)
theorem sm_doc {x : Str} {j : Nat} {pos' : Pos} : SM X T W (.Expr (.Constant (.str x) j pos) pos') sNx := by
  refine PS_imp ps_doc fun D σ H h => ?_
  obtain ⟨S, G, r, p⟩ := h
  exact p σ H G r (Le.refl _ _)
def sSet (i : Nat) (m : M EV) : M Fl := do
  let v ← m
  setSl i (.val v)
  M.ret .nx
def sSetO (i : Nat) (m : M EObj) : M Fl := do
  let v ← m
  setSl i (.own v)
  M.ret .nx
theorem sm_set {i : Nat} {x : Str} {e : Expr} {m : M EV} {pos' : Pos} (hN : X.N.Nodup) (hi : X.N[i]? = some x) (hx : Loc X.env.scope x) (he : EM X T W e m) (hs : swapsWith e (some (.Name x pos')) pos.line X.env = pure false := by rfl)
    (hf : X.fn x = true ∨ X.env.scope.names.lookup x = some .local := by first | exact .inl rfl | exact .inr rfl | assumption) : SM X T W (.Assign [.Name x pos'] e pos) (sSet i m) := by
  refine PS_imp (ps_set hN hi hx he hs hf) fun D σ H h => ?_
  obtain ⟨S, G, r, p⟩ := h
  refine sM_bind r p fun v S1 x H1 G1 r1 l1 rp1 p1 => ?_
  have p2 := post_bnd p1
  unfold setSl at p2
  split at p2
  · rename_i hl
    exact p2 _ H1 G1 (r1.setVal hl rp1) l1
  · exact p2.elim
theorem sm_setO {i : Nat} {x : Str} {e : Expr} {m : M EObj} {pos' : Pos} (hN : X.N.Nodup) (hi : X.N[i]? = some x) (hx : Loc X.env.scope x) (he : OM X T W e m) (hs : swapsWith e (some (.Name x pos')) pos.line X.env = pure false := by rfl)
    (hf : X.fn x = true ∨ X.env.scope.names.lookup x = some .local := by first | exact .inl rfl | exact .inr rfl | assumption) : SM X T W (.Assign [.Name x pos'] e pos) (sSetO i m) := by
  refine PS_imp (ps_set hN hi hx he hs hf) fun D σ H h => ?_
  obtain ⟨S, G, r, p⟩ := h
  refine sMO_bind r p fun v S1 x H1 G1 r1 l1 rp1 p1 => ?_
  have p2 := post_bnd p1
  unfold setSl at p2
  split at p2
  · rename_i hl
    exact p2 _ H1 G1 (r1.setOwn hl rp1) l1
  · exact p2.elim
/-- target = e, any target -/
def sAsg (m : M EV) (g : EV → M Unit) : M Fl := do
  let v ← m
  g v
  M.ret .nx
theorem post_noX {C : Sc} {g : M Unit} {S : ES} {f : Unit → M Fl} {Q : Fl → ES → Prop} {E : Str → ES → Prop} (h : Post ((g >>= f) S) Q E) (hn : ∀ c S', g S ≠ .exc c S') : Post (g S) (fun a S1 => Post (f a S1) Q E) NoX := by
  have h' := post_bnd h
  cases hg : g S with
  | ok a S1 => rw [hg] at h'; exact h'
  | exc c S1 => exact (hn c S1 hg).elim
  | bad => rw [hg] at h'; exact h'
/-- a target's store raises nothing -/
def NoExc (g : EV → M Unit) : Prop := ∀ v S c S', g v S ≠ .exc c S'
theorem sm_asg {tg e : Expr} {m : M EV} {g : EV → M Unit} {I : List Nat} (he : EM X T W e m) (hg : GM X T I tg g) (hn : NoExc g) (hs : swapsWithSole [tg] e pos.line X.env = pure false := by rfl) (hw : swappedStores [tg] e X.env = pure none := by rfl)
    (h1 : (assignEach [tg] X.env).map (·.2) = [assign tg X.env] := by rfl) : SM X T W (.Assign [tg] e pos) (sAsg m g) := by
  refine PS_imp (ps_asg he hg hs hw h1) fun D σ H h => ?_
  obtain ⟨S, G, r, p⟩ := h
  refine sM_bind r p fun v S1 x H1 G1 r1 l1 rp1 p1 => ?_
  refine ⟨S1, G1, v, r1, rp1, (post_noX (C := scOf X T) p1 fun c S' => hn v S1 c S').mono (fun _ S2 q σ' H' G' r' l' _ => ?_) fun _ _ z => z⟩
  exact q σ' H' G' r' (l1.trans l')
theorem nx_set (i : Nat) : NoExc (gSet i) := fun v S c S' h => by
  unfold gSet setSl at h
  split at h <;> cases h
theorem nx_nil : ∀ (l : List EV) (S : ES) (c : Str) (S' : ES), gNilM l S ≠ .exc c S' := fun l S c S' h => by
  cases l <;> cases h
theorem nx_cons {g : EV → M Unit} {gs : List EV → M Unit} (h1 : NoExc g) (h2 : ∀ (l : List EV) (S : ES) (c : Str) (S' : ES), gs l S ≠ .exc c S') : ∀ (l : List EV) (S : ES) (c : Str) (S' : ES), gConsM g gs l S ≠ .exc c S' := fun l S c S' h => by
  cases l with
  | nil => cases h
  | cons v l =>
    have h' : M.bnd (g v) (fun _ => gs l) S = .exc c S' := h
    unfold M.bnd at h'
    cases hg : g v S with
    | ok a S1 => rw [hg] at h'; exact h2 l S1 c S' h'
    | exc c1 S1 => exact h1 v S c1 S1 hg
    | bad => rw [hg] at h'; cases h'
theorem nx_tup {n : Nat} {gs : List EV → M Unit} (h2 : ∀ (l : List EV) (S : ES) (c : Str) (S' : ES), gs l S ≠ .exc c S') : NoExc (gTupM n gs) := fun v S c S' h => by
  unfold gTupM at h
  split at h
  · split at h
    · exact h2 _ _ _ _ h
    · cases h
  · cases h
/-- a, b = x, y with plain local names -/
def sPar2 (i j : Nat) (m : M (List EV)) : M Fl := do
  let l ← m
  match l with
  | [v, w] => do
    setSl i (.val v)
    setSl j (.val w)
    M.ret .nx
  | _ => M.fail
theorem sm_par2 {i j : Nat} {x y : Str} {a b : Expr} {m : M (List EV)} {px py pt : Pos} {kt k2 : Nat} {pt2 : Pos} (hc : X.calm = true) (hN : X.N.Nodup) (hi : X.N[i]? = some x) (hj : X.N[j]? = some y) (hij : i ≠ j)
    (hx : X.env.scope.names.lookup x = some .local) (hy : X.env.scope.names.lookup y = some .local) (ha : AM X T W [a, b] m)
    (hw : swappedStores [.Tuple [.Name x px, .Name y py] kt pt] (.Tuple [a, b] k2 pt2) X.env = pure (some [x, y]))
    (hs : swapsWithSole [.Tuple [.Name x px, .Name y py] kt pt] (.Tuple [a, b] k2 pt2) pos.line X.env = pure false := by rfl) :
    SM X T W (.Assign [.Tuple [.Name x px, .Name y py] kt pt] (.Tuple [a, b] k2 pt2) pos) (sPar2 i j m) := by
  refine PS_imp (ps_par hc hN hi hj hij hx hy ha hw hs) fun D σ H h => ?_
  obtain ⟨S, G, r, p⟩ := h
  refine sML_bind r p fun l S1 xs H1 G1 r1 l1 rp1 p1 => ?_
  split at p1
  · rename_i v w
    obtain ⟨x1, rr, rfl, rv, rp2⟩ := reps_cons.mp rp1
    obtain ⟨x2, rr2, rfl, rw2, rp3⟩ := reps_cons.mp rp2
    rw [reps_nil] at rp3
    subst rp3
    refine ⟨x1, x2, rfl, ?_⟩
    have p2 := post_bnd p1
    unfold setSl at p2
    split at p2
    · rename_i hl
      have p3 := post_bnd (m := setSl j (.val w)) p2
      unfold setSl at p3
      split at p3
      · rename_i hl2
        exact p3 _ H1 G1 ((r1.setVal hl rv).setVal hl2 rw2) l1
      · exact p3.elim
    · exact p2.elim
  · exact p1.elim
def sPar3 (i j k : Nat) (m : M (List EV)) : M Fl := do
  let l ← m
  match l with
  | [v, w, z] => do
    setSl i (.val v)
    setSl j (.val w)
    setSl k (.val z)
    M.ret .nx
  | _ => M.fail
theorem sm_par3 {i j l : Nat} {x y z : Str} {a b c : Expr} {m : M (List EV)} {px py pz pt : Pos} {kt k2 : Nat} {pt2 : Pos} (hc : X.calm = true) (hN : X.N.Nodup) (hi : X.N[i]? = some x) (hj : X.N[j]? = some y) (hl : X.N[l]? = some z) (hij : i ≠ j) (hil : i ≠ l) (hjl : j ≠ l)
    (hx : X.env.scope.names.lookup x = some .local) (hy : X.env.scope.names.lookup y = some .local) (hz : X.env.scope.names.lookup z = some .local) (ha : AM X T W [a, b, c] m)
    (hw : swappedStores [.Tuple [.Name x px, .Name y py, .Name z pz] kt pt] (.Tuple [a, b, c] k2 pt2) X.env = pure (some [x, y, z]))
    (hs : swapsWithSole [.Tuple [.Name x px, .Name y py, .Name z pz] kt pt] (.Tuple [a, b, c] k2 pt2) pos.line X.env = pure false := by rfl) :
    SM X T W (.Assign [.Tuple [.Name x px, .Name y py, .Name z pz] kt pt] (.Tuple [a, b, c] k2 pt2) pos) (sPar3 i j l m) := by
  refine PS_imp (ps_par3 hc hN hi hj hl hij hil hjl hx hy hz ha hw hs) fun D σ H h => ?_
  obtain ⟨S, G, r, p⟩ := h
  refine sML_bind r p fun l' S1 xs H1 G1 r1 l1 rp1 p1 => ?_
  split at p1
  · rename_i v w z'
    obtain ⟨x1, rr, rfl, rv, rp2⟩ := reps_cons.mp rp1
    obtain ⟨x2, rr2, rfl, rw2, rp3⟩ := reps_cons.mp rp2
    obtain ⟨x3, rr3, rfl, rw3, rp4⟩ := reps_cons.mp rp3
    rw [reps_nil] at rp4
    subst rp4
    refine ⟨x1, x2, x3, rfl, ?_⟩
    have p2 := post_bnd p1
    unfold setSl at p2
    split at p2
    · rename_i hl
      have p3 := post_bnd (m := setSl j (.val w)) p2
      unfold setSl at p3
      split at p3
      · rename_i hl2
        have p4 := post_bnd (m := setSl l (.val z')) p3
        unfold setSl at p4
        split at p4
        · rename_i hl3
          exact p4 _ H1 G1 (((r1.setVal hl rv).setVal hl2 rw2).setVal hl3 rw3) l1
        · exact p4.elim
      · exact p3.elim
    · exact p2.elim
  · exact p1.elim
def sExpr (m : M EV) : M Fl := do
  let _ ← m
  M.ret .nx
theorem sm_expr {e : Expr} {m : M EV} (he : EM X T W e m) (hs : swapsWith e none pos.line X.env = pure false := by rfl) : SM X T W (.Expr e pos) (sExpr m) := by
  refine PS_imp (ps_expr he hs) fun D σ H h => ?_
  obtain ⟨S, G, r, p⟩ := h
  exact sM_bind r p fun v S1 x H1 G1 r1 l1 rp1 p1 => p1 _ H1 G1 r1 l1
def sRet (m : M EV) : M Fl := do
  let v ← m
  M.ret (.ret v)
theorem sm_ret {e : Expr} {m : M EV} (he : EM X T W e m) : SM X T W (.Return (some e) pos) (sRet m) := by
  refine PS_imp (ps_ret he) fun D σ H h => ?_
  obtain ⟨S, G, r, p⟩ := h
  exact sM_bind r p fun v S1 x H1 G1 r1 l1 rp1 p1 => p1 x H1 G1 r1.hr l1 rp1
theorem sm_retN : SM X T W (.Return none pos) (sRet (mC .non)) := by
  refine PS_imp ps_retN fun D σ H h => ?_
  obtain ⟨S, G, r, p⟩ := h
  exact p .non H G r.hr (Le.refl _ _) (rep_non.mpr rfl)
theorem sm_if {c : Expr} {a b : List Stmt} {mc : M Bool} {m n : M Fl} (hc : BM X T W c mc) (ha : SMs X T W a m) (hb : SMs X T W b n) : SM X T W (.If c a b pos) (mIf mc m n) := by
  refine PS_imp (ps_if hc ha hb) fun D σ H h => ?_
  obtain ⟨S, G, r, p⟩ := h
  refine sMB_bind r p fun b S1 H1 G1 r1 l1 p1 => ?_
  cases b with
  | true => exact ⟨S1, G1, r1, p1.mono (fun _ _ => qs_le l1) fun _ _ z => z⟩
  | false => exact ⟨S1, G1, r1, p1.mono (fun _ _ => qs_le l1) fun _ _ z => z⟩
/-- x += e, by the operator of two values -/
def sAug (i : Nat) (f : EV → EV → M EV) (m : M EV) : M Fl := do
  let v ← mGet i
  let w ← m
  let z ← f v w
  setSl i (.val z)
  M.ret .nx
/-- what x op= e asks of the values -/
def IpM (X : Cx) (T : TbS) (W : WX) (op : Operator) (f : EV → EV → M EV) : Prop :=
  ∃ t : TIp, PIp X op t ∧ ∀ S G σ H v w x y Q, SRel (scOf X T) S σ H G → Rep (scOf X T) G H v x → Rep (scOf X T) G H w y → Post (f v w S) (QE (scOf X T) G H σ Q) (QX (scOf X T) G H σ W) → t x y H Q
def aAdd : EV → EV → M EV
  | .int i, .int j => M.ret (.int (i + j))
  | _, _ => M.fail
theorem im_add : IpM X T W .Add aAdd := ⟨_, ip_add, fun S G σ H v w x y Q r h1 h2 p => by
  unfold aAdd at p
  split at p
  · rw [rep_int] at h1 h2
    exact ⟨_, _, h1, h2, ret_post r p (rep_int.mpr rfl)⟩
  · exact p.elim⟩
theorem im_sub : IpM X T W .Sub eSub := ⟨_, ip_sub, fun S G σ H v w x y Q r h1 h2 p => by
  unfold eSub at p
  split at p
  · rw [rep_int] at h1 h2
    exact ⟨_, _, h1, h2, ret_post r p (rep_int.mpr rfl)⟩
  · exact p.elim⟩
theorem sm_aug {i : Nat} {x : Str} {e : Expr} {m : M EV} {op : Operator} {f : EV → EV → M EV} {pos' : Pos} (hN : X.N.Nodup) (hi : X.N[i]? = some x) (hx : Loc X.env.scope x) (he : EM X T W e m) (ho : IpM X T W op f)
    (hf : X.fn x = true ∨ X.env.scope.names.lookup x = some .local := by first | exact .inl rfl | exact .inr rfl | assumption) : SM X T W (.AugAssign (.Name x pos') op e pos) (sAug i f m) := by
  obtain ⟨t, ho, hm⟩ := ho
  refine PS_imp (ps_aug hN hi hx he ho hf) fun D σ H h => ?_
  obtain ⟨S, G, r, p⟩ := h
  have p1 := post_bnd p
  unfold mGet at p1
  have q := r.slot i
  cases hs : S.sl[i]? with
  | none => rw [hs] at p1; exact p1.elim
  | some sl =>
    rw [hs] at p1 q
    cases sl with
    | emp => exact p1.elim
    | val v =>
      obtain ⟨y, e, rp⟩ := q
      refine ⟨y, e, ?_⟩
      refine sM_bind r p1 fun w S1 z H1 G1 r1 l1 rp1 p2 => ?_
      refine hm S1 G1 σ H1 v w y z _ r1 (rp.mono l1) rp1 ((post_bnd p2).mono (fun u S2 q2 x2 H2 G2 r2 l2 rp2 => ?_) fun _ _ z => qx_of z)
      have p3 := post_bnd q2
      unfold setSl at p3
      split at p3
      · rename_i hl
        exact p3 _ H2 G2 (r2.setVal hl rp2) (l1.trans l2)
      · exact p3.elim
    | own o =>
      obtain ⟨a, u, ha, hu, ho', n1, n2, n3⟩ := q
      simp only at p1
      cases hfz : frzO o with
      | none => rw [hfz] at p1; exact p1.elim
      | some v =>
        rw [hfz] at p1
        obtain ⟨r', l, rp⟩ := r.frzSlot hs ha hfz
        refine ⟨_, ha, ?_⟩
        have p1' : Post ((m >>= fun w => f v w >>= fun z => setSl i (.val z) >>= fun _ => M.ret Fl.nx) { S with sl := S.sl.set i (.val v) }) (QS (scOf X T) G H D) (QXS (scOf X T) G H W) := p1
        refine sM_bind r' (p1'.mono (fun _ _ z => z) fun _ _ => qxs_le l) fun w S1 z H1 G1 r1 l1 rp1 p2 => ?_
        refine hm S1 G1 σ H1 v w _ z _ r1 (rp.mono l1) rp1 ((post_bnd p2).mono (fun u S2 q2 x2 H2 G2 r2 l2 rp2 => ?_) fun _ _ z => qx_of z)
        have p3 := post_bnd q2
        unfold setSl at p3
        split at p3
        · rename_i hl
          exact p3 _ H2 G2 (r2.setVal hl rp2) ((l.trans l1).trans l2)
        · exact p3.elim

/-! ### while -/
def mWhile (c : M Bool) (b : M Fl) : Nat → M Fl
  | 0 => M.fail
  | n + 1 => do
    let k ← c
    if k then do
      let f ← b
      match f with
      | .nx => mWhile c b n
      | .ct => mWhile c b n
      | .brk => M.ret .nx
      | .ret v => M.ret (.ret v)
    else M.ret .nx
theorem sm_while {c : Expr} {body : List Stmt} {mc : M Bool} {mb : M Fl} (n : Nat) (hp : PassesOwn (model X.prog X.w) X.A X.env X.xe) (hc : BM X T W c mc) (hb : SMs X T W body mb) : SM X T W (.While c body [] pos) (mWhile mc mb n) := by
  refine PS_imp (ps_while hp hc hb) fun D σ0 H0 h => ?_
  obtain ⟨S0, G0, r0, p0⟩ := h
  refine ⟨fun m σ H => ∃ S G, SRel (scOf X T) S σ H G ∧ Le G0 H0 G H ∧ Post (mWhile mc mb m S) (QS (scOf X T) G0 H0 D) (QXS (scOf X T) G0 H0 W), ⟨n, S0, G0, r0, Le.refl _ _, p0⟩, ?_⟩
  rintro m σ H ⟨S, G, r, l, p⟩
  cases m with
  | zero => exact p.elim
  | succ m =>
    refine sMB_bind0 (m := mc) (f := fun k => if k = true then (mb >>= fun f => match f with | .nx => mWhile mc mb m | .ct => mWhile mc mb m | .brk => M.ret .nx | .ret v => M.ret (.ret v)) else M.ret .nx) r l p fun b S1 H1 G1 r1 l1 p1 => ?_
    have l01 := l.trans l1
    cases b with
    | false =>
      rw [if_neg Bool.false_ne_true]
      exact p1 σ H1 G1 r1 l01
    | true =>
      rw [if_pos rfl]
      rw [if_pos rfl] at p1
      refine ⟨fun σ' H' => ∃ m', m' < m + 1 ∧ ∃ S G, SRel (scOf X T) S σ' H' G ∧ Le G0 H0 G H' ∧ Post (mWhile mc mb m' S) (QS (scOf X T) G0 H0 D) (QXS (scOf X T) G0 H0 W), fun σ' H' h => h, S1, G1, r1, ?_⟩
      refine (post_bnd p1).mono (fun f S2 q => ?_) fun _ _ z => qxs_le l01 z
      cases f with
      | nx => exact fun σ' H' G' r' l' => ⟨m, Nat.lt_succ_self m, S2, G', r', l01.trans l', q⟩
      | ct => exact fun σ' H' G' r' l' => ⟨m, Nat.lt_succ_self m, S2, G', r', l01.trans l', q⟩
      | brk => exact fun σ' H' G' r' l' => q σ' H' G' r' (l01.trans l')
      | ret v => exact fun x H' G' r' l' rp => q x H' G' r' (l01.trans l') rp

/-! ### what is walked -/
structure JRel (C : Sc) (G : Gh) (H : Hp) (J : It) (l : List EV) : Prop where
  go : ∀ i G' H', LeR G H G' H' → i < l.length → J.go i H'
  stop : ∀ G' H', LeR G H G' H' → J.stop l.length H'
  yld : ∀ (i : Nat) (S : ES) (σ : L2.St) (G' : Gh) (H' : Hp) (x : V) (H2 : Hp), LeR G H G' H' → SRel C S σ H' G' → i < l.length → J.yld i H' x H2 → ∃ v G2, l[i]? = some v ∧ SRel C S σ H2 G2 ∧ Le G' H' G2 H2 ∧ Rep C G2 H2 v x
def QI (C : Sc) (G : Gh) (H : Hp) (σ : L2.St) (R : It → Hp → Prop) : List EV → ES → Prop := fun l S' => ∀ J H' G', SRel C S' σ H' G' → Le G H G' H' → JRel C G' H' J l → R J H'
def tI (C : Sc) (W : WX) (m : M (List EV)) : TI := fun σ H R => ∃ S G, SRel C S σ H G ∧ Post (m S) (QI C G H σ R) (QX C G H σ W)
/-- what is walked, as the list of its items -/
def IM (X : Cx) (T : TbS) (W : WX) (tg e : Expr) (m : M (List EV)) : Prop := PI X tg e (tI (scOf X T) W m)
theorem PI_imp {X : Cx} {tg e : Expr} {t t' : TI} (h : PI X tg e t) (hi : ∀ σ H R, t' σ H R → t σ H R) : PI X tg e t' := ⟨fun pins s σ H R I q => h.run pins s σ H R I (hi σ H R q)⟩
theorem sMI_bind {β : Type} {C : Sc} {G : Gh} {H : Hp} {σ : L2.St} {m : M (List EV)} {f : List EV → M β} {S : ES} {Qb : β → ES → Prop} {R : It → Hp → Prop} (r : SRel C S σ H G) (p : Post ((m >>= f) S) Qb (QXS C G H W))
    (h : ∀ l S1 J H1 G1, SRel C S1 σ H1 G1 → Le G H G1 H1 → JRel C G1 H1 J l → Post (f l S1) Qb (QXS C G H W) → R J H1) : tI C W m σ H R :=
  ⟨S, G, r, (post_bnd p).mono (fun v S1 q J H1 G1 r1 l1 jr => h v S1 J H1 G1 r1 l1 jr q) fun _ _ z => qx_of z⟩
def mForL (g : EV → M Unit) (b : M Fl) : List EV → M Fl
  | [] => M.ret .nx
  | v :: l => do
    g v
    let f ← b
    match f with
    | .nx => mForL g b l
    | .ct => mForL g b l
    | .brk => M.ret .nx
    | .ret v => M.ret (.ret v)
def mFor (it : M (List EV)) (g : EV → M Unit) (b : M Fl) : M Fl := do
  let l ← it
  mForL g b l
theorem drop_get {α : Type} {l : List α} {i : Nat} {v : α} (h : l[i]? = some v) : l.drop i = v :: l.drop (i + 1) := by
  have hi : i < l.length := by
    rcases Nat.lt_or_ge i l.length with q | q
    · exact q
    · rw [List.getElem?_eq_none q] at h; cases h
  rw [List.drop_eq_getElem_cons hi]
  rw [List.getElem?_eq_getElem hi] at h
  rw [Option.some.inj h]
theorem sm_for {tg iter : Expr} {body : List Stmt} {mi : M (List EV)} {g : EV → M Unit} {mb : M Fl} {I : List Nat} (hp : PassesOwn (model X.prog X.w) X.A X.env X.xe) (hc : X.calm = true) (hi : IM X T W tg iter mi) (hg : GM X T I tg g) (hn : NoExc g) (hb : SMs X T W body mb)
    (hs : ∀ x, foldedSetIterable iter X.env x = pure x := by intro _; rfl) : SM X T W (.For tg iter body [] pos) (mFor mi g mb) := by
  refine PS_imp (ps_for hp hc hi hg hb hs) fun D σ0 H0 h => ?_
  obtain ⟨S0, G0, r0, p0⟩ := h
  refine sMI_bind r0 p0 fun l S1 J H1 G1 r1 l1 jr p1 => ?_
  refine ⟨fun i m σ H => m = l.length - i ∧ i ≤ l.length ∧ ∃ S G, SRel (scOf X T) S σ H G ∧ Le G1 H1 G H ∧ Post (mForL g mb (l.drop i) S) (QS (scOf X T) G0 H0 D) (QXS (scOf X T) G0 H0 W), ⟨l.length, rfl, Nat.zero_le _, S1, G1, r1, Le.refl _ _, p1⟩, ?_⟩
  rintro i m σ H ⟨rfl, hil, S, G, r, le, p⟩
  have l0 : Le G0 H0 G H := l1.trans le
  by_cases hlt : i < l.length
  · refine .inr ⟨jr.go i G H le.r hlt, fun σ' H' => l.length - (i + 1) = l.length - (i + 1) ∧ i + 1 ≤ l.length ∧ ∃ S G, SRel (scOf X T) S σ' H' G ∧ Le G1 H1 G H' ∧ Post (mForL g mb (l.drop (i + 1)) S) (QS (scOf X T) G0 H0 D) (QXS (scOf X T) G0 H0 W), fun σ' H' h => ⟨l.length - (i + 1), by omega, h⟩, fun x H2 hy => ?_⟩
    obtain ⟨v, G2, hv, r2, l2, rp⟩ := jr.yld i S σ G H x H2 le.r r hlt hy
    rw [drop_get hv] at p
    have p2 : Post ((g v >>= fun _ => mb >>= fun f => match f with | .nx => mForL g mb (l.drop (i + 1)) | .ct => mForL g mb (l.drop (i + 1)) | .brk => M.ret .nx | .ret v => M.ret (.ret v)) S) (QS (scOf X T) G0 H0 D) (QXS (scOf X T) G0 H0 W) := p
    refine ⟨S, G2, v, r2, rp, ?_⟩
    have h' := post_bnd p2
    have nx := hn v S
    cases hgv : g v S with
    | exc c S' => exact (nx c S' hgv).elim
    | bad => rw [hgv] at h'; exact h'.elim
    | ok a S3 =>
      rw [hgv] at h'
      refine fun σ3 H3 G3 r3 l3 _ => ⟨S3, G3, r3, ?_⟩
      have l03 : Le G0 H0 G3 H3 := (l0.trans l2).trans l3
      have l13 : Le G1 H1 G3 H3 := (le.trans l2).trans l3
      refine (post_bnd h').mono (fun f S4 q => ?_) fun _ _ z => qxs_le l03 z
      cases f with
      | nx => exact fun σ' H' G' r' l' => ⟨rfl, hlt, S4, G', r', l13.trans l', q⟩
      | ct => exact fun σ' H' G' r' l' => ⟨rfl, hlt, S4, G', r', l13.trans l', q⟩
      | brk => exact fun σ' H' G' r' l' => q σ' H' G' r' (l03.trans l')
      | ret v => exact fun x H' G' r' l' rp => q x H' G' r' (l03.trans l') rp
  · have e : i = l.length := by omega
    subst e
    rw [List.drop_length] at p
    exact .inl ⟨jr.stop G H le.r, p σ H G r l0⟩
end
end ML
/-! ML5 -/
set_option Elab.async false
set_option linter.all false
set_option autoImplicit false
set_option maxRecDepth 100000
set_option maxHeartbeats 4000000
/-! ML5: defs, calls, built-ins, subscripts, walks over lists, tuples, ranges -/
namespace ML
open PySem PySem.Spec PyProof.Rows L2

inductive FRes where
  | ok (v : EV) (h : List EObj) | exc (c : Str) (h : List EObj) | bad
abbrev Fn := List EV → List EObj → FRes

def spM (C : Sc) (n : Nat) (F : Fn) : Sp := fun vs H Q E => ∃ args h G, HRel C h H G ∧ Reps C G H args vs ∧ args.length = n ∧
  match F args h with
  | .ok v h' => ∀ x H' G', HRel C h' H' G' → Le G H G' H' → Rep C G' H' v x → Q x H'
  | .exc c h' => ∀ H' G', HRel C h' H' G' → Le G H G' H' → E (excV C c) none H'
  | .bad => False
def callF (F : Fn) (l : List EV) : M EV := fun S => match F l S.hp with
  | .ok v h => .ok v { S with hp := h }
  | .exc c h => .exc c { S with hp := h }
  | .bad => .bad
/-- a def's body over its slots -/
def slots0 (N : Nat) (args : List EV) : List Slot := args.map Slot.val ++ List.replicate (N - args.length) Slot.emp
def runB (N : Nat) (m : M Fl) : Fn := fun args h => match m ⟨slots0 N args, h⟩ with
  | .ok .nx S => .ok .non S.hp
  | .ok (.ret v) S => .ok v S.hp
  | .ok _ _ => .bad
  | .exc c S => .exc c S.hp
  | .bad => .bad

def mkC (K : PySem.W.Frag) (mg : Str → Option Value) (T : TbS) : Sc := ⟨K, mg, T.Tb, T.tbu, T.lam⟩
/-- what holds of a context -/
structure Kx (X : Cx) (T : TbS) (W : WX) (k : Nat) : Prop where
  tk : Takes X W
  pa : PassesOwn (model X.prog X.w) X.A X.env X.xe
  calm : X.calm = true
  room : Room k X.A
theorem Kx.hu {X : Cx} {T : TbS} {W : WX} {k : Nat} (h : Kx X T W k) : X.A.units + 64 < cLine := h.room.units

section
variable {C : Sc}
theorem slots_rel {args : List EV} {N : List Str} {vs : List V} {h : List EObj} {H : Hp} {G : Gh} (hr : HRel C h H G) (r : Reps C G H args vs) (hl : args.length ≤ N.length) : SRel C ⟨slots0 N.length args, h⟩ (L2.start N vs) H G := by
  have hv := r.length
  have sl : ∀ i : Nat, (slots0 N.length args)[i]? = if i < args.length then (args[i]?).map Slot.val else if i < N.length then some Slot.emp else none := fun i => by
    unfold slots0
    by_cases hi : i < args.length
    · rw [List.getElem?_append_left (by simpa using hi), if_pos hi, List.getElem?_map]
    · rw [List.getElem?_append_right (by simpa using hi), if_neg hi, List.getElem?_replicate, List.length_map]
      by_cases hn : i < N.length
      · rw [if_pos (by omega), if_pos hn]
      · rw [if_neg (by omega), if_neg hn]
  refine ⟨hr, ?_, fun i => ?_, fun i j a o o' h1 => ?_⟩
  · unfold slots0 L2.start
    simp only [List.length_append, List.length_map, List.length_replicate]
    omega
  · show SlRel C G H (slots0 N.length args)[i]? _
    rw [sl i]
    by_cases hi : i < args.length
    · rw [if_pos hi, List.getElem?_eq_getElem hi]
      obtain ⟨v, h1, h2⟩ := r.get (List.getElem?_eq_getElem hi)
      refine ⟨v, ?_, h2⟩
      unfold L2.start
      rw [List.getElem?_append_left (by rw [List.length_map]; omega), List.getElem?_map, h1]
      rfl
    · rw [if_neg hi]
      by_cases hn : i < N.length
      · rw [if_pos hn]; exact True.intro
      · rw [if_neg hn]; exact True.intro
  · have h1' : (slots0 N.length args)[i]? = some (Slot.own o) := h1
    rw [sl i] at h1'
    by_cases hi : i < args.length
    · rw [if_pos hi, List.getElem?_eq_getElem hi] at h1'; cases h1'
    · rw [if_neg hi] at h1'
      by_cases hn : i < N.length
      · rw [if_pos hn] at h1'; cases h1'
      · rw [if_neg hn] at h1'; cases h1'
theorem spM_len {n : Nat} {F : Fn} : ∀ vs H Q E, spM C n F vs H Q E → vs.length = n := fun vs H Q E ⟨args, h, G, _, r, hl, _⟩ => by rw [r.length, hl]
/-- a body's reading, from the promise -/
theorem body_of {N : List Str} {n : Nat} {m : M Fl} {vs : List V} {H : Hp} {Q : VK} {E : XK} {W : WX} (hW : ∀ c d σ H, E c d H → W c d σ H) (hn : n ≤ N.length) (h : spM C n (runB N.length m) vs H Q E) :
    tS C W m { nx := fun _ H' => Q .non H', rt := Q } (L2.start N vs) H := by
  obtain ⟨args, hp, G, hr, r, hl, p⟩ := h
  refine ⟨⟨slots0 N.length args, hp⟩, G, slots_rel hr r (by omega), ?_⟩
  unfold runB at p
  cases hm : m ⟨slots0 N.length args, hp⟩ with
  | bad => rw [hm] at p; exact p.elim
  | exc c S =>
    rw [hm] at p
    exact fun σ' H' G' r' l' => hW _ _ _ _ (p H' G' r'.hr l')
  | ok f S =>
    rw [hm] at p
    cases f with
    | nx => exact fun σ' H' G' r' l' => p .non H' G' r'.hr l' (rep_non.mpr rfl)
    | ret v => exact fun x H' G' r' l' rp => p x H' G' r' l' rp
    | brk => exact p.elim
    | ct => exact p.elim
end

section
variable {P : Program} {w : World} {K : PySem.W.Frag} {mg : Str → Option Value} {base : Heap} {T : TbS}
/-- a def of the text: what it computes -/
structure FM (P : Program) (w : World) (K : PySem.W.Frag) (mg : Str → Option Value) (base : Heap) (T : TbS) (k : Nat) (x : Str) (n : Nat) (F : Fn) : Prop where
  ex : ∃ f fd ps, FnOk P w K mg base (L2.CX P w) k f fd ps (spM (mkC K mg T) n F) ∧ mg x = some (.ref f) ∧ PySem.W.keepIn K (.ref f) = true ∧ Binds K fd ps []
/-- THE RULE for a def -/
theorem fn_m {x qual : Str} {st : Stmt} {f : Addr} {fd : FuncData} {N ps : List Str} {k : Nat} {m : M Fl} (F : Fun K x qual st f fd) (S : FnScope N ps (defScope st)) (hn : ps.length ≤ N.length)
    (hbody : ∀ (X : Cx) (W : WX), X.prog = P → X.w = w → X.K = K → X.mg = mg → X.base = base → X.N = N → X.env.scope = defScope st → (∀ y, X.fn y = true) → (∃ cdv A outer s H E, X = cxOf (L2.CX P w) P w K mg base N qual (defScope st) f cdv A outer s H E) → Kx X T W k → SMs X T W (defBody st) m) :
    FnOk P w K mg base (L2.CX P w) (k + 1) f fd ps (spM (mkC K mg T) ps.length (runB N.length m)) := by
  refine F.okX S spM_len fun cdv A outer s H vs Q E hr h => ?_
  have kx : Kx (cxOf (L2.CX P w) P w K mg base N qual (defScope st) f cdv A outer s H E) T (fun cls d _ H => E cls d H) k := ⟨takes_of rfl rfl rfl rfl, passes_of rfl, rfl, hr⟩
  have hb := hbody (cxOf (L2.CX P w) P w K mg base N qual (defScope st) f cdv A outer s H E) (fun cls d _ H => E cls d H) rfl rfl rfl rfl rfl rfl rfl (fun _ => rfl) ⟨cdv, A, outer, s, H, E, rfl⟩ kx
  exact ⟨_, hb, body_of (fun _ _ _ _ z => z) hn h⟩
end

/-! ### a call of a def -/
section
variable {X : Cx} {T : TbS} {W : WX} {p pos : Pos}
def Gh.call (G : Gh) (S : ES) (σ : L2.St) : Gh := { G with Pv := fun a => G.Pv a ∨ OwnA S σ a }
theorem call_rel {C : Sc} {S : ES} {σ : L2.St} {H : Hp} {G : Gh} (r : SRel C S σ H G) : HRel C S.hp H (G.call S σ) ∧ LeR G H (G.call S σ) H := by
  have own : ∀ a, OwnA S σ a → ∃ u, H a = some u ∧ ¬ G.Fz a ∧ ¬ G.Pv a ∧ a ∉ G.ρ := fun a ⟨i, o, e1, e2⟩ => by
    have q := r.slot i
    rw [e1, e2] at q
    obtain ⟨b, u, e, hu, ho, n1, n2, n3⟩ := q
    cases e
    exact ⟨u, hu, n1, n2, n3⟩
  have lr : LeR G H (G.call S σ) H := ⟨⟨[], by simp [Gh.call]⟩, fun _ h => h, fun _ _ _ h => .inl (.inl h)⟩
  refine ⟨⟨r.hr.len, r.hr.nd, fun a ha => ⟨(r.hr.nf a ha).1, fun z => ?_⟩, fun a f z => ?_, fun a z => ?_, fun n o e => ?_, r.hr.tb, fun a z => z.elim (r.hr.pm a) fun ⟨i, o, e1, e2⟩ => by
    have q := r.slot i
    rw [e1, e2] at q
    obtain ⟨b, u, e, hu, ho, _⟩ := q
    cases e
    exact ⟨u, hu, ho.mut⟩⟩, lr⟩
  · rcases z with z | z
    · exact (r.hr.nf a ha).2 z
    · obtain ⟨_, _, _, _, n⟩ := own a z; exact n ha
  · rcases z with z | z
    · exact r.hr.fp a f z
    · obtain ⟨_, _, n, _⟩ := own a z; exact n f
  · rcases z with z | z | z
    · exact r.hr.tr a (.inl z)
    · exact r.hr.tr a (.inr z)
    · obtain ⟨u, e, _⟩ := own a z; exact ⟨u, e⟩
  · obtain ⟨a, u, e1, e2, e3⟩ := r.hr.obj n o e
    exact ⟨a, u, e1, e2, e3.monoR lr⟩
/-- behind a call: back in the caller -/
theorem call_back {C : Sc} {S : ES} {σ : L2.St} {H H' : Hp} {G G' : Gh} {h' : List EObj} (r : SRel C S σ H G) (hr : HRel C h' H' G') (l : Le (G.call S σ) H G' H') :
    SRel C { S with hp := h' } σ H' { G' with Pv := G.Pv } ∧ Le G H { G' with Pv := G.Pv } H' ∧ LeR G' H' { G' with Pv := G.Pv } H' := by
  have pv : ∀ a, G'.Pv a ↔ (G.Pv a ∨ OwnA S σ a) := fun a => by rw [l.pv]; exact Iff.rfl
  have lr : LeR G' H' { G' with Pv := G.Pv } H' := ⟨⟨[], by simp⟩, fun _ h => h, fun _ _ _ h => .inl (.inl h)⟩
  have le : Le G H { G' with Pv := G.Pv } H' := by
    obtain ⟨m, e⟩ := l.rho
    exact ⟨⟨m, e⟩, l.fz, rfl, l.keep, fun a u z e => l.keepP a u (.inl z) e⟩
  refine ⟨⟨⟨hr.len, hr.nd, fun a ha => ⟨(hr.nf a ha).1, fun z => (hr.nf a ha).2 ((pv a).mpr (.inl z))⟩, fun a f z => hr.fp a f ((pv a).mpr (.inl z)), fun a z => hr.tr a (z.imp id fun q => (pv a).mpr (.inl q)), fun n o e => ?_, hr.tb, fun a z => hr.pm a ((pv a).mpr (.inl z))⟩, r.len, fun i => ?_, r.dis⟩, le, lr⟩
  · obtain ⟨a, u, e1, e2, e3⟩ := hr.obj n o e
    exact ⟨a, u, e1, e2, e3.monoR lr⟩
  · have q := r.slot i
    show SlRel C { G' with Pv := G.Pv } H' S.sl[i]? σ[i]?
    unfold SlRel at q ⊢
    split at q
    · obtain ⟨y, e, z⟩ := q; exact ⟨y, e, z.mono le⟩
    · rename_i o hs
      obtain ⟨a, u, ea, e2, o', n1, n2, n3⟩ := q
      have own : OwnA S σ a := ⟨i, o, hs, ea⟩
      have hp : G'.Pv a := (pv a).mpr (.inr own)
      refine ⟨a, u, ea, (l.keepP a u (.inr own) e2).eq o'.mut.nt, o'.mono le, fun z => hr.fp a z hp, n2, fun z => (hr.nf a z).2 hp⟩
    · exact True.intro
def mCall (n : Nat) (F : Fn) (ms : M (List EV)) : M EV := do
  let l ← ms
  if l.length = n then callF F l else M.fail
theorem sp_call {C : Sc} {S : ES} {σ : L2.St} {H : Hp} {G : Gh} {F : Fn} {n : Nat} {l : List EV} {xs : List V} {Q : VK} {W : WX} (r : SRel C S σ H G) (h : Reps C G H l xs)
    (p : Post ((if l.length = n then callF F l else M.fail) S) (QE C G H σ Q) (QX C G H σ W)) : spM C n F xs H Q (fun cls d H' => W cls d σ H') := by
  obtain ⟨hc, lr⟩ := call_rel r
  split at p
  · rename_i hl
    refine ⟨l, S.hp, G.call S σ, hc, h.monoR lr, hl, ?_⟩
    unfold callF at p
    cases hF : F l S.hp with
    | bad => rw [hF] at p; exact p.elim
    | ok v h' =>
      rw [hF] at p
      intro x H' G' hr' l' rp
      obtain ⟨r2, l2, lr2⟩ := call_back r hr' l'
      exact p x H' _ r2 l2 (rp.monoR lr2)
    | exc c h' =>
      rw [hF] at p
      intro H' G' hr' l'
      obtain ⟨r2, l2, lr2⟩ := call_back r hr' l'
      exact p H' _ r2 l2
  · exact p.elim
theorem em_call {k n : Nat} {x : Str} {F : Fn} {e : Expr} {es : List Expr} {ms : M (List EV)} (tk : Takes X W) (hF : FM X.prog X.w X.K X.mg X.base T k x n F) (hr : Room k X.A) (hg : Gl X x) (ha : AM X T W (e :: es) ms)
    (hdb : (x == ("__debug__" : Str)) = false := by decide) (he : starEach (e :: es) X.env = (false, eval e X.env) :: starEach es X.env := by rfl) (hpl : (backTo pos (starEach es X.env)).any (·.1) = false := by rfl) :
    EM X T W (.Call (.Name x p) (e :: es) [] pos) (mCall n F ms) := by
  obtain ⟨f, fd, ps, Fk, mf, kf, bf⟩ := hF.ex
  refine PE_imp (pe_callSD (E := fun σ cls d H' => W cls d σ H') Fk hr hg mf kf bf (dvs := []) .nil (fun σ => passAt tk σ) ha hdb he hpl) fun σ H Q h => ?_
  obtain ⟨S, G, r, p⟩ := h
  refine tML_bind r p fun l S1 xs H1 G1 r1 l1 rp1 p1 => ?_
  rw [List.append_nil]
  exact sp_call r1 rp1 (p1.mono (fun _ _ => qe_le l1) fun _ _ z => z)
/-- f() -/
theorem em_call0 {k : Nat} {x : Str} {F : Fn} (tk : Takes X W) (hF : FM X.prog X.w X.K X.mg X.base T k x 0 F) (hr : Room k X.A) (hg : Gl X x) (hdb : (x == ("__debug__" : Str)) = false := by decide) :
    EM X T W (.Call (.Name x p) [] [] pos) (mCall 0 F mNil) := by
  obtain ⟨f, fd, ps, Fk, mf, kf, bf⟩ := hF.ex
  refine ⟨fun pins s σ H Q I h => ?_⟩
  obtain ⟨S, G, r, p⟩ := h
  refine wpAny_Call_Name_kw (ld_glob I hg mf ?_ hdb)
  refine PySem.W.callWith_K0 I.kIn kf (run_fnSD (us := []) (vs := []) (dvs := []) (ds := []) (E := fun σ cls d H' => W cls d σ H') Fk hr bf .nil (passAt tk σ) I .nil ?_)
  exact sp_call r (reps_nil.mpr rfl) p

/-! ### a value that is used at once: a mutable local is read as it stands -/
def RepN (C : Sc) (S : ES) (σ : L2.St) (H : Hp) (G : Gh) (v : EV) (x : V) : Prop :=
  Rep C G H v x ∨ ∃ (i : Nat) (o : EObj) (a : Addr) (u : HO), S.sl[i]? = some (Slot.own o) ∧ σ[i]? = some (some (V.ref a)) ∧ x = .ref a ∧ frzO o = some v ∧ H a = some u ∧ ObjRel C G H o u
def QN (C : Sc) (G : Gh) (H : Hp) (σ : L2.St) (Q : VK) : EV → ES → Prop := fun v S' => ∀ x H' G', SRel C S' σ H' G' → Le G H G' H' → RepN C S' σ H' G' v x → Q x H'
def tMN (C : Sc) (W : WX) (m : M EV) : TE := fun σ H Q => ∃ S G, SRel C S σ H G ∧ Post (m S) (QN C G H σ Q) (QX C G H σ W)
def NM (X : Cx) (T : TbS) (W : WX) (e : Expr) (m : M EV) : Prop := PE X e (tMN (scOf X T) W m)
def mPeek (i : Nat) : M EV := fun S => match S.sl[i]? with
  | some (.val v) => .ok v S
  | some (.own o) => match frzO o with
    | some v => .ok v S
    | none => .bad
  | _ => .bad
theorem nm_var {i : Nat} {x : Str} {pos : Pos} (hN : X.N[i]? = some x) (hv : Vis X.env.scope x) (hd : (x == ("__debug__" : Str)) = false := by decide) (hcd : (x == ("__classdict__" : Str)) = false := by decide) : NM X T W (.Name x pos) (mPeek i) := by
  refine PE_imp (pe_var hN hv hd hcd) fun σ H Q h => ?_
  obtain ⟨S, G, r, p⟩ := h
  unfold mPeek at p
  have q := r.slot i
  cases hs : S.sl[i]? with
  | none => rw [hs] at p; exact p.elim
  | some sl =>
    rw [hs] at p q
    cases sl with
    | emp => exact p.elim
    | val v =>
      obtain ⟨y, e, rp⟩ := q
      exact ⟨y, e, p y H G r (Le.refl _ _) (.inl rp)⟩
    | own o =>
      obtain ⟨a, u, ha, hu, ho, n1, n2, n3⟩ := q
      simp only at p
      cases hf : frzO o with
      | none => rw [hf] at p; exact p.elim
      | some v =>
        rw [hf] at p
        exact ⟨_, ha, p _ H G r (Le.refl _ _) (.inr ⟨i, o, a, u, hs, ha, rfl, hf, hu, ho⟩)⟩
theorem nm_em {e : Expr} {m : M EV} (h : EM X T W e m) : NM X T W e m := by
  refine PE_imp h fun σ H Q hq => ?_
  obtain ⟨S, G, r, p⟩ := hq
  exact ⟨S, G, r, p.mono (fun v S1 q x H1 G1 r1 l1 rp => q x H1 G1 r1 l1 (.inl rp)) fun _ _ z => z⟩
theorem rdN_list {C : Sc} {S : ES} {σ : L2.St} {H : Hp} {G : Gh} {v : EV} {x : V} {l : List EV} (r : SRel C S σ H G) (h : RepN C S σ H G v x) (e : rdL S v = some l) : ∃ a xs, x = .ref a ∧ SqL C.K H a xs ∧ Reps C G H l xs := by
  rcases h with h | ⟨i, o, a, u, hs, ha, rfl, hf, hu, ho⟩
  · exact rd_list r h e
  · cases o with
    | lst m =>
      have e' : EV.lst m = v := Option.some.inj hf
      subst e'
      have e2 : m = l := Option.some.inj e
      subst e2
      obtain ⟨xs, rfl, rp⟩ := ho
      exact ⟨a, xs, rfl, .inl (.inl hu), rp⟩
    | dic t ks vs =>
      have e' : EV.dic t ks vs = v := Option.some.inj hf
      subst e'
      cases e
    | ins c ns vs => cases hf
theorem repN_tup {C : Sc} {S : ES} {σ : L2.St} {H : Hp} {G : Gh} {v : EV} {x : V} (h : RepN C S σ H G v x) (n1 : ∀ l, v ≠ .lst l) (n2 : ∀ t ks vs, v ≠ .dic t ks vs) : Rep C G H v x := by
  rcases h with h | ⟨i, o, a, u, hs, ha, rfl, hf, hu, ho⟩
  · exact h
  · cases o with
    | lst m => exact (n1 m (Option.some.inj hf).symm).elim
    | dic t ks vs => exact (n2 t ks vs (Option.some.inj hf).symm).elim
    | ins c ns vs => cases hf
theorem rdN_seq {C : Sc} {S : ES} {σ : L2.St} {H : Hp} {G : Gh} {v : EV} {x : V} {l : List EV} (r : SRel C S σ H G) (h : RepN C S σ H G v x) (e : rdS S v = some l) : ∃ a xs, x = .ref a ∧ (SqL C.K H a xs ∨ SqT C.K H a xs) ∧ Reps C G H l xs := by
  unfold rdS at e
  split at e
  · rename_i l' hl'
    cases e
    have h' := repN_tup h (fun _ z => by subst z; cases hl') (fun _ _ _ z => by subst z; cases hl')
    obtain ⟨a, xs, e1, q, rp⟩ := rd_tup h' hl'
    exact ⟨a, xs, e1, .inr q, rp⟩
  · obtain ⟨a, xs, e1, q, rp⟩ := rdN_list r h e
    exact ⟨a, xs, e1, .inl q, rp⟩
theorem tMN_bind {β : Type} {C : Sc} {σ : L2.St} {H : Hp} {G : Gh} {m : M EV} {f : EV → M β} {S : ES} {Qb : β → ES → Prop} {Q : VK} (r : SRel C S σ H G) (p : Post ((m >>= f) S) Qb (QX C G H σ W))
    (h : ∀ v S1 x H1 G1, SRel C S1 σ H1 G1 → Le G H G1 H1 → RepN C S1 σ H1 G1 v x → Post (f v S1) Qb (QX C G1 H1 σ W) → Q x H1) : tMN C W m σ H Q :=
  ⟨S, G, r, (post_bnd p).mono (fun v S1 q x H1 G1 r1 l1 rp => h v S1 x H1 G1 r1 l1 rp (q.mono (fun _ _ z => z) fun _ _ => qx_le l1)) fun _ _ z => z⟩
/-- one argument that is used at once -/
theorem tA_one {C : Sc} {m : M EV} {f : EV → M EV} : ∀ σ H (Q : VK) (r : List V → Hp → VK → Prop),
    (∀ S G H v x, SRel C S σ H G → RepN C S σ H G v x → Post (f v S) (QE C G H σ Q) (QX C G H σ W) → r [x] H Q) →
    tM C W (mUn f m) σ H Q → tCB r (tCons (tMN C W m) tNil) σ H Q := by
  rintro σ H Q r hr ⟨S, G, rl, p⟩
  refine tMN_bind rl p fun v S1 x H1 G1 r1 l1 rp1 p1 => ?_
  exact hr S1 G1 H1 v x r1 rp1 (p1.mono (fun _ _ => qe_le l1) fun _ _ z => z)
theorem tA_oneO {C : Sc} {m : M EV} {f : EV → M EObj} : ∀ σ H (Q : VK) (r : List V → Hp → VK → Prop),
    (∀ S G H v x, SRel C S σ H G → RepN C S σ H G v x → Post (f v S) (QO C G H σ Q) (QX C G H σ W) → r [x] H Q) →
    tMO C W (m >>= f) σ H Q → tCB r (tCons (tMN C W m) tNil) σ H Q := by
  rintro σ H Q r hr ⟨S, G, rl, p⟩
  refine tMN_bind rl p fun v S1 x H1 G1 r1 l1 rp1 p1 => ?_
  exact hr S1 G1 H1 v x r1 rp1 (p1.mono (fun o S2 q x H' G' r' l' f => q x H' G' r' (l1.trans l') f) fun _ _ z => z)

/-! ### built-ins -/
/-- the built-in names that are still themselves -/
structure Bt (mg : Str → Option Value) : Prop where
  len : mg "len" = none
  range : mg "range" = none
  int : mg "int" = none
  list : mg "list" = none
  tuple : mg "tuple" = none
  dict : mg "dict" = none
  sorted : mg "sorted" = none
  zip : mg "zip" = none
  enumerate : mg "enumerate" = none
  abs : mg "abs" = none
  sum : mg "sum" = none
  any : mg "any" = none
  all : mg "all" = none
  min : mg "min" = none
  max : mg "max" = none
  str : mg "str" = none
  reversed : mg "reversed" = none
theorem or_call {f : Value} {r r' : List V → Hp → VK → Prop} (h : CallR X f r) (h' : CallR X f r') : CallR X f (fun xs H Q => r xs H Q ∨ r' xs H Q) :=
  fun pins s σ H xs us Q I rx q => q.elim (h pins s σ H xs us Q I rx) (h' pins s σ H xs us Q I rx)
def eLen (v : EV) : M EV := fun S => match v with
  | .str x => if x.length ≤ sizeLine then .ok (.int x.length) S else .bad
  | _ => match rdS S v with
    | some l => .ok (.int l.length) S
    | none => .bad
theorem em_len {e : Expr} {m : M EV} (B : Bt X.mg) (hg : Gl X "len") (he : NM X T W e m) (hs : starEach [e] X.env = (false, eval e X.env) :: starEach [] X.env := by rfl) (hpl : (backTo pos (starEach [] X.env)).any (·.1) = false := by rfl) :
    EM X T W (.Call (.Name "len" p) [e] [] pos) (mUn eLen m) := by
  refine PE_imp (pe_callB call_len hg B.len (by decide +kernel) (pa_cons he pa_nil hs) (by decide) (by decide) hs hpl) fun σ H Q h => ?_
  refine tA_one σ H Q _ (fun S G H v x r rp p => ?_) h
  unfold eLen at p
  have seq : ∀ l, rdS S v = some l → Post (Res.ok (EV.int l.length) S) (QE (scOf X T) G H σ Q) (QX (scOf X T) G H σ W) → ∃ y n, [x] = [y] ∧ LenV X.K y H n ∧ Q (.int n) H := fun l e q => by
    obtain ⟨a, xs, rfl, sq, rps⟩ := rdN_seq r rp e
    refine ⟨_, xs.length, rfl, ?_, ?_⟩
    · rcases sq with sq | sq
      · exact .inl ⟨xs, sq, rfl⟩
      · exact .inr ⟨xs, sq, rfl⟩
    · rw [rps.length]; exact q _ H G r (Le.refl _ _) (rep_int.mpr rfl)
  split at p
  · rename_i z
    have rp' := rep_str.mp (repN_tup rp (fun _ z => by cases z) (fun _ _ _ z => by cases z))
    split at p
    · rename_i hz
      exact ⟨x, _, rfl, by rw [rp']; exact ⟨hz, rfl⟩, p _ H G r (Le.refl _ _) (rep_int.mpr rfl)⟩
    · exact p.elim
  · split at p
    · rename_i l hl
      exact seq l hl p
    · exact p.elim
def eAbs : EV → M EV
  | .int i => M.ret (.int (if i < 0 then -i else i))
  | _ => M.fail
theorem em_abs {e : Expr} {m : M EV} (B : Bt X.mg) (hg : Gl X "abs") (he : EM X T W e m) (hs : starEach [e] X.env = (false, eval e X.env) :: starEach [] X.env := by rfl) (hpl : (backTo pos (starEach [] X.env)).any (·.1) = false := by rfl) :
    EM X T W (.Call (.Name "abs" p) [e] [] pos) (mUn eAbs m) := by
  refine PE_imp (pe_callB call_abs hg B.abs (by decide +kernel) (pa_cons (nm_em he) pa_nil hs) (by decide) (by decide) hs hpl) fun σ H Q h => ?_
  refine tA_one σ H Q _ (fun S G H v x r rp p => ?_) h
  unfold eAbs at p
  split at p
  · rename_i i
    have rp' := rep_int.mp (repN_tup rp (fun _ z => by cases z) (fun _ _ _ z => by cases z))
    exact ⟨i, by rw [rp'], p _ H G r (Le.refl _ _) (rep_int.mpr rfl)⟩
  · exact p.elim
def eInt : EV → M EV
  | .int i => M.ret (.int i)
  | .bl b => M.ret (.int (if b then 1 else 0))
  | _ => M.fail
theorem em_toInt {e : Expr} {m : M EV} (B : Bt X.mg) (hg : Gl X "int") (he : EM X T W e m) (hs : starEach [e] X.env = (false, eval e X.env) :: starEach [] X.env := by rfl) (hpl : (backTo pos (starEach [] X.env)).any (·.1) = false := by rfl) :
    EM X T W (.Call (.Name "int" p) [e] [] pos) (mUn eInt m) := by
  refine PE_imp (pe_callTy call_int1 hg B.int (by decide +kernel) (pa_cons (nm_em he) pa_nil hs) (by decide) (by decide) hs hpl) fun σ H Q h => ?_
  refine tA_one σ H Q _ (fun S G H v x r rp p => ?_) h
  unfold eInt at p
  split at p
  · rename_i i
    have rp' := rep_int.mp (repN_tup rp (fun _ z => by cases z) (fun _ _ _ z => by cases z))
    exact .inl ⟨i, by rw [rp'], p _ H G r (Le.refl _ _) (rep_int.mpr rfl)⟩
  · rename_i b
    have rp' := rep_bl.mp (repN_tup rp (fun _ z => by cases z) (fun _ _ _ z => by cases z))
    exact .inr ⟨b, by rw [rp'], p _ H G r (Le.refl _ _) (rep_int.mpr rfl)⟩
  · exact p.elim
def eStr : EV → M EV
  | .int i => if i.natAbs.log2 < 1920 then M.ret (.str (toString i)) else M.fail
  | _ => M.fail
theorem em_toStr {e : Expr} {m : M EV} (B : Bt X.mg) (hg : Gl X "str") (he : EM X T W e m) (hs : starEach [e] X.env = (false, eval e X.env) :: starEach [] X.env := by rfl) (hpl : (backTo pos (starEach [] X.env)).any (·.1) = false := by rfl) :
    EM X T W (.Call (.Name "str" p) [e] [] pos) (mUn eStr m) := by
  refine PE_imp (pe_callTy call_str_int hg B.str (by decide +kernel) (pa_cons (nm_em he) pa_nil hs) (by decide) (by decide) hs hpl) fun σ H Q h => ?_
  refine tA_one σ H Q _ (fun S G H v x r rp p => ?_) h
  unfold eStr at p
  split at p
  · rename_i i
    have rp' := rep_int.mp (repN_tup rp (fun _ z => by cases z) (fun _ _ _ z => by cases z))
    split at p
    · rename_i hz
      exact ⟨i, by rw [rp'], hz, p _ H G r (Le.refl _ _) (rep_str.mpr rfl)⟩
    · exact p.elim
  · exact p.elim
/-- list(xs) -/
def eList (v : EV) : M EObj := fun S => match rdS S v with
  | some l => .ok (.lst l) S
  | none => .bad
theorem om_list {e : Expr} {m : M EV} (B : Bt X.mg) (hg : Gl X "list") (he : NM X T W e m) (hs : starEach [e] X.env = (false, eval e X.env) :: starEach [] X.env := by rfl) (hpl : (backTo pos (starEach [] X.env)).any (·.1) = false := by rfl) :
    OM X T W (.Call (.Name "list" p) [e] [] pos) (m >>= eList) := by
  refine PE_imp (pe_callTy call_list_of hg B.list (by decide +kernel) (pa_cons he pa_nil hs) (by decide) (by decide) hs hpl) fun σ H Q h => ?_
  refine tA_oneO σ H Q _ (fun S G H v x r rp p => ?_) h
  unfold eList at p
  split at p
  · rename_i l hl
    obtain ⟨a, xs, rfl, sq, rps⟩ := rdN_seq r rp hl
    refine ⟨a, xs, rfl, sq, fun q hp => ?_⟩
    obtain ⟨r2, l2⟩ := r.newN (u := .lst xs) hp
    exact p _ _ _ r2 l2 (fresh_new r hp ⟨xs, rfl, rps.mono l2⟩)
  · exact p.elim
/-- tuple(xs) -/
def eTuple (v : EV) : M EV := fun S => match v with
  | .scr _ _ => .bad
  | _ => match rdS S v with
    | some l => .ok (.tup l) S
    | none => .bad
theorem em_tuple {e : Expr} {m : M EV} (B : Bt X.mg) (hg : Gl X "tuple") (he : NM X T W e m) (hs : starEach [e] X.env = (false, eval e X.env) :: starEach [] X.env := by rfl) (hpl : (backTo pos (starEach [] X.env)).any (·.1) = false := by rfl) :
    EM X T W (.Call (.Name "tuple" p) [e] [] pos) (mUn eTuple m) := by
  refine PE_imp (pe_callTy call_tuple_of hg B.tuple (by decide +kernel) (pa_cons he pa_nil hs) (by decide) (by decide) hs hpl) fun σ H Q h => ?_
  refine tA_one σ H Q _ (fun S G H v x r rp p => ?_) h
  unfold eTuple at p
  split at p
  · exact p.elim
  rename_i nsc
  split at p
  · rename_i l hl
    unfold rdS at hl
    split at hl
    · rename_i l' hl'
      cases hl
      have rp' := repN_tup rp (fun _ z => by subst z; cases hl') (fun _ _ _ z => by subst z; cases hl')
      cases v with
      | tup m' =>
        have e' : m' = l := Option.some.inj hl'
        subst e'
        obtain ⟨a, xs, rfl, f, q, rps⟩ := rep_tup.mp rp'
        exact ⟨a, xs, rfl, .inr ⟨.inl (.inl q), p _ H G r (Le.refl _ _) rp'⟩⟩
      | scr t m' => exact (nsc t m' rfl).elim
      | _ => cases hl'
    · obtain ⟨a, xs, rfl, sq, rps⟩ := rdN_list r rp hl
      refine ⟨a, xs, rfl, .inl ⟨sq, fun q hp => ?_⟩⟩
      obtain ⟨r2, l2⟩ := r.newF (u := .tup xs) hp
      exact p _ _ _ r2 l2 (rep_tup.mpr ⟨q, xs, rfl, frz_self G q, upd_same, rps.mono l2⟩)
  · exact p.elim
/-- min(a, b), max(a, b) of ints -/
def mArgs (f : List EV → M EV) (ms : M (List EV)) : M EV := do
  let l ← ms
  f l
def CbM (X : Cx) (T : TbS) (W : WX) (r : List V → Hp → VK → Prop) (f : List EV → M EV) : Prop :=
  ∀ S G σ H l xs Q, SRel (scOf X T) S σ H G → Reps (scOf X T) G H l xs → Post (f l S) (QE (scOf X T) G H σ Q) (QX (scOf X T) G H σ W) → r xs H Q
theorem tCB_of {r : List V → Hp → VK → Prop} {f : List EV → M EV} {ms : M (List EV)} (hf : CbM X T W r f) : ∀ σ H Q, tM (scOf X T) W (mArgs f ms) σ H Q → tCB r (tML (scOf X T) W ms) σ H Q := by
  rintro σ H Q ⟨S, G, rl, p⟩
  refine tML_bind rl p fun l S1 xs H1 G1 r1 l1 rp1 p1 => ?_
  exact hf S1 G1 σ H1 l xs Q r1 rp1 (p1.mono (fun _ _ => qe_le l1) fun _ _ z => z)
def eMin2 : List EV → M EV
  | [.int i, .int j] => M.ret (.int (if j < i then j else i))
  | _ => M.fail
def eMax2 : List EV → M EV
  | [.int i, .int j] => M.ret (.int (if j > i then j else i))
  | _ => M.fail
theorem reps_two {C : Sc} {G : Gh} {H : Hp} {a b : EV} {xs : List V} (h : Reps C G H [a, b] xs) : ∃ x y, xs = [x, y] ∧ Rep C G H a x ∧ Rep C G H b y := by
  obtain ⟨x, r, rfl, h1, h2⟩ := reps_cons.mp h
  obtain ⟨y, r2, rfl, h3, h4⟩ := reps_cons.mp h2
  rw [reps_nil] at h4
  subst h4
  exact ⟨x, y, rfl, h1, h3⟩
theorem em_min2 {a b : Expr} {ms : M (List EV)} (hc : X.calm = true) (B : Bt X.mg) (hg : Gl X "min") (ha : AM X T W [a, b] ms) (hs : starEach [a, b] X.env = (false, eval a X.env) :: starEach [b] X.env := by rfl) (hpl : (backTo pos (starEach [b] X.env)).any (·.1) = false := by rfl) :
    EM X T W (.Call (.Name "min" p) [a, b] [] pos) (mArgs eMin2 ms) := by
  refine PE_imp (pe_callB (call_min2 hc) hg B.min (by decide +kernel) ha (by decide) (by decide) hs hpl) (tCB_of fun S G σ H l xs Q r rp p => ?_)
  unfold eMin2 at p
  split at p
  · rename_i i j
    obtain ⟨x, y, rfl, h1, h2⟩ := reps_two rp
    rw [rep_int] at h1 h2
    subst h1; subst h2
    exact ⟨i, j, rfl, p _ H G r (Le.refl _ _) (rep_int.mpr rfl)⟩
  · exact p.elim
theorem em_max2 {a b : Expr} {ms : M (List EV)} (hc : X.calm = true) (B : Bt X.mg) (hg : Gl X "max") (ha : AM X T W [a, b] ms) (hs : starEach [a, b] X.env = (false, eval a X.env) :: starEach [b] X.env := by rfl) (hpl : (backTo pos (starEach [b] X.env)).any (·.1) = false := by rfl) :
    EM X T W (.Call (.Name "max" p) [a, b] [] pos) (mArgs eMax2 ms) := by
  refine PE_imp (pe_callB (call_max2 hc) hg B.max (by decide +kernel) ha (by decide) (by decide) hs hpl) (tCB_of fun S G σ H l xs Q r rp p => ?_)
  unfold eMax2 at p
  split at p
  · rename_i i j
    obtain ⟨x, y, rfl, h1, h2⟩ := reps_two rp
    rw [rep_int] at h1 h2
    subst h1; subst h2
    exact ⟨i, j, rfl, p _ H G r (Le.refl _ _) (rep_int.mpr rfl)⟩
  · exact p.elim
end
end ML
/-! ML6 -/
set_option Elab.async false
set_option linter.all false
set_option autoImplicit false
set_option maxRecDepth 100000
set_option maxHeartbeats 4000000
/-! ML6: + and *, subscripts, slices, mutable locals, walks, list comprehensions -/
namespace ML
open PySem PySem.Spec PyProof.Rows L2

section
variable {X : Cx} {T : TbS} {W : WX} {a b : Expr} {ma mb : M EV} {p pos : Pos}
/-! ### + and * -/
def eAdd2 : EV → EV → M EV
  | .int i, .int j => M.ret (.int (i + j))
  | .str x, .str y => if x.length + y.length ≤ sizeLine then M.ret (.str (x ++ y)) else M.fail
  | .lst l, .lst m => if l.length + m.length ≤ sizeLine then M.ret (.lst (l ++ m)) else M.fail
  | .tup l, .tup m => if l.length + m.length ≤ sizeLine then M.ret (.tup (l ++ m)) else M.fail
  | _, _ => M.fail
theorem em_add (ha : EM X T W a ma) (hb : EM X T W b mb) : EM X T W (.BinOp a .Add b pos) (mBin eAdd2 ma mb) := by
  refine em_op (OpR.or2 (OpR.or2 op_add op_add_str) (OpR.or2 op_cat op_catA)) (fun S G σ H v w x y Q r h1 h2 p => ?_) ha hb
  unfold eAdd2 at p
  split at p
  · rw [rep_int] at h1 h2
    exact .inl (.inl ⟨_, _, h1, h2, ret_post r p (rep_int.mpr rfl)⟩)
  · rw [rep_str] at h1 h2
    split at p
    · rename_i hz
      exact .inl (.inr ⟨_, _, h1, h2, hz, ret_post r p (rep_str.mpr rfl)⟩)
    · exact p.elim
  · split at p
    · rename_i l m hz
      obtain ⟨c, xs, rfl, f1, q1, r1⟩ := rep_lst.mp h1
      obtain ⟨d, ys, rfl, f2, q2, r2⟩ := rep_lst.mp h2
      refine .inr (.inl ⟨c, d, xs, ys, rfl, rfl, q1, q2, by rw [r1.length, r2.length]; exact hz, fun q hp => ?_⟩)
      obtain ⟨r3, l3⟩ := r.newF (u := .lst (xs ++ ys)) hp
      exact p _ _ _ r3 l3 (rep_lst.mpr ⟨q, _, rfl, frz_self G q, upd_same, (r1.append r2).mono l3⟩)
    · exact p.elim
  · split at p
    · rename_i l m hz
      obtain ⟨c, xs, e1, f1, q1, r1⟩ := rep_tup.mp h1
      obtain ⟨d, ys, e2, f2, q2, r2⟩ := rep_tup.mp h2
      refine .inr (.inr ⟨c, d, xs, ys, e1, e2, .inl (.inl q1), .inl (.inl q2), by rw [r1.length, r2.length]; exact hz, fun hn => ?_, fun hn hn2 => ?_, fun hn hn2 q hp => ?_⟩)
      · subst hn
        have : l = [] := by have := r1.length; cases l <;> simp_all
        subst this
        exact p _ H G r (Le.refl _ _) (by rw [List.nil_append]; exact e2 ▸ h2)
      · subst hn2
        have : m = [] := by have := r2.length; cases m <;> simp_all
        subst this
        exact p _ H G r (Le.refl _ _) (by rw [List.append_nil]; exact e1 ▸ h1)
      · obtain ⟨r3, l3⟩ := r.newF (u := .tup (xs ++ ys)) hp
        exact p _ _ _ r3 l3 (rep_tup.mpr ⟨q, _, rfl, frz_self G q, upd_same, (r1.append r2).mono l3⟩)
    · exact p.elim
  · exact p.elim
theorem reps_replicate {C : Sc} {G : Gh} {H : Hp} {l : List EV} {xs : List V} (h : Reps C G H l xs) : ∀ n : Nat, Reps C G H (List.replicate n l).flatten (List.replicate n xs).flatten
  | 0 => by simp [reps_nil]
  | n + 1 => by
    rw [List.replicate_succ, List.replicate_succ, List.flatten_cons, List.flatten_cons]
    exact h.append (reps_replicate h n)
def eMul2 : EV → EV → M EV
  | .int i, .int j => if mulOk i j then M.ret (.int (i * j)) else M.fail
  | .lst l, .int k => if decide (-(2 ^ 63) ≤ k) && decide (k < 2 ^ 63) && decide (l.length * k.toNat ≤ sizeLine) then M.ret (.lst (List.replicate k.toNat l).flatten) else M.fail
  | _, _ => M.fail
theorem em_mul (ha : EM X T W a ma) (hb : EM X T W b mb) : EM X T W (.BinOp a .Mult b pos) (mBin eMul2 ma mb) := by
  refine em_op (OpR.or2 (OpR.or2 op_mul op_mulW) op_rep) (fun S G σ H v w x y Q r h1 h2 p => ?_) ha hb
  unfold eMul2 at p
  split at p
  · rw [rep_int] at h1 h2
    exact .inl (em_mulI r h1 h2 p)
  · rename_i l k
    rw [rep_int] at h2
    split at p
    · rename_i hz
      simp only [Bool.and_eq_true, decide_eq_true_eq] at hz
      obtain ⟨c, xs, rfl, f1, q1, r1⟩ := rep_lst.mp h1
      refine .inr ⟨c, k, xs, rfl, h2, q1, hz.1.1, hz.1.2, by rw [r1.length]; exact hz.2, fun q hp => ?_⟩
      obtain ⟨r3, l3⟩ := r.newF (u := .lst (List.replicate k.toNat xs).flatten) hp
      exact p _ _ _ r3 l3 (rep_lst.mpr ⟨q, _, rfl, frz_self G q, upd_same, (reps_replicate r1 _).mono l3⟩)
    · exact p.elim
  · exact p.elim

/-! ### subscripts -/
def kEq (k x : EV) : Bool := eqq k x
def dLook : List EV → List EV → EV → Option EV
  | k :: ks, v :: vs, x => if kEq k x then some v else dLook ks vs x
  | _, _, _ => none
def rdD (S : ES) : EV → Option (Bool × List EV × List EV)
  | .dic t ks vs => some (t, ks, vs)
  | .ref n => match S.hp[n]? with
    | some (.dic t ks vs) => some (t, ks, vs)
    | _ => none
  | _ => none
/-- may x be a key of a dict of the kind t -/
def keyOkd (t : Bool) (x : EV) : Bool := if t then (keyT x).isSome else (keyOf x).isSome
def eIx (v w : EV) : M EV := fun S => match v, w with
  | .str x, .int i => if x.length ≤ sizeLine then (match atI x.cps.toList i with
    | some c => .ok (.str ⟨#[c]⟩) S
    | none => .bad) else .bad
  | v, w => match rdS S v with
    | some l => match w with
      | .int i => match atI l i with
        | some e => .ok e S
        | none => .bad
      | _ => .bad
    | none => match rdD S v with
      | some (t, ks, vs) => if keyOkd t w then (match dLook ks vs w with
        | some e => .ok e S
        | none => .bad) else .bad
      | none => .bad
end

section
variable {C : Sc} {G : Gh} {H : Hp}
theorem keyOf_rep {e : EV} {k : Key} {x : V} (h : keyOf e = some k) (r : Rep C G H e x) : x = kV k := by
  cases e with
  | int i => cases h; exact rep_int.mp r
  | str s => cases h; exact rep_str.mp r
  | _ => cases h
theorem keysOf_rep : ∀ {l : List EV} {ks : List Key} {xs : List V}, keysOf l = some ks → Reps C G H l xs → xs = ks.map kV
  | [], ks, xs, h, r => by
    cases h
    rw [reps_nil] at r
    exact r
  | e :: l, ks, xs, h, r => by
    rw [keysOf] at h
    split at h
    · rename_i k r' h1 h2
      cases h
      obtain ⟨x, rr, rfl, rx, rl⟩ := reps_cons.mp r
      rw [keyOf_rep h1 rx, keysOf_rep h2 rl]
      rfl
    · cases h
theorem keyOf_eq {a b : EV} {k j : Key} (h1 : keyOf a = some k) (h2 : keyOf b = some j) : eqq a b = decide (k = j) := by
  cases a with
  | int i =>
    cases h1
    cases b with
    | int i' => cases h2; rw [eqq, key_ll]
    | str s' => cases h2; rw [key_lr]; rfl
    | _ => cases h2
  | str s =>
    cases h1
    cases b with
    | int i' => cases h2; rw [key_rl]; rfl
    | str s' => cases h2; rw [eqq, key_rr]; exact Bool.beq_eq_decide_eq _ _
    | _ => cases h2
  | _ => cases h1
theorem keysOf_eq : ∀ {l m : List EV} {ks js : List Key}, keysOf l = some ks → keysOf m = some js → eqqs l m = decide (ks = js)
  | [], [], ks, js, h1, h2 => by cases h1; cases h2; rfl
  | [], b :: m, ks, js, h1, h2 => by
    cases h1
    rw [keysOf] at h2
    split at h2
    · cases h2; show false = _; simp
    · cases h2
  | a :: l, [], ks, js, h1, h2 => by
    cases h2
    rw [keysOf] at h1
    split at h1
    · cases h1; show false = _; simp
    · cases h1
  | a :: l, b :: m, ks, js, h1, h2 => by
    rw [keysOf] at h1 h2
    split at h1
    · split at h2
      · rename_i _ _ k r1 e1 e2 _ _ k' r2 e3 e4
        cases h1; cases h2
        rw [eqqs, keyOf_eq e1 e3, keysOf_eq e2 e4]
        by_cases hk : k = k'
        · subst hk
          by_cases hr : r1 = r2 <;> simp [hr]
        · simp [hk]
      · cases h2
    · cases h1
theorem keyT_eq {a b : EV} {k j : List Key} (h1 : keyT a = some k) (h2 : keyT b = some j) : eqq a b = decide (k = j) := by
  cases a with
  | tup l =>
    cases b with
    | tup m => rw [eqq]; exact keysOf_eq h1 h2
    | _ => cases h2
  | _ => cases h1
theorem dLook_k {κ : Type} [DecidableEq κ] {f : EV → Option κ} (hf : ∀ a b k j, f a = some k → f b = some j → eqq a b = decide (k = j)) :
    ∀ {ks vs : List EV} {kvs : List (κ × V)} {w : EV} {j : κ}, ks.map f = kvs.map (fun q => some q.1) → Reps C G H vs (kvs.map (·.2)) → f w = some j →
      match dLook ks vs w with
      | some e => ∃ x, valV kvs j = some x ∧ Rep C G H e x
      | none => valV kvs j = none
  | [], vs, kvs, w, j, h1, h2, h3 => by
    cases kvs with
    | nil => simp [dLook, valV]
    | cons q r => simp at h1
  | k :: ks, vs, kvs, w, j, h1, h2, h3 => by
    cases kvs with
    | nil => simp at h1
    | cons q r =>
      rw [List.map_cons, List.map_cons] at h1
      injection h1 with e1 e2
      rw [List.map_cons] at h2
      cases vs with
      | nil => rw [reps_nil] at h2; cases h2
      | cons v vs =>
        obtain ⟨x, rr, e3, rx, rl⟩ := reps_cons.mp h2
        injection e3 with e4 e5
        subst e4; subst e5
        unfold dLook
        have hk := hf k w q.1 j e1 h3
        unfold kEq
        rw [hk]
        by_cases hq : q.1 = j
        · simp only [hq, decide_true, if_true]
          exact ⟨q.2, valV_pos hq, rx⟩
        · simp only [hq, decide_false, Bool.false_eq_true, if_false]
          have ih := dLook_k hf (w := w) (j := j) e2 rl h3
          rw [valV_neg hq]
          exact ih
/-- what a dict holds at a key -/
theorem dget_of {t : Bool} {ks vs : List EV} {xs : List V} {u : HO} {a : Addr} {w : EV} {y : V} (hd : DRel t ks xs u) (hu : Rd H a u) (hv : Reps C G H vs xs) (hk : keyOkd t w = true) (rw' : Rep C G H w y) :
    ∃ o, DGet H a y o ∧ match dLook ks vs w with
      | some e => ∃ x, o = some x ∧ Rep C G H e x
      | none => o = none := by
  unfold DRel at hd
  unfold keyOkd at hk
  cases t with
  | false =>
    rw [if_neg Bool.false_ne_true] at hd hk
    obtain ⟨kvs, rfl, e1, e2⟩ := hd
    obtain ⟨k, hk'⟩ := Option.isSome_iff_exists.mp hk
    have ey := keyOf_rep hk' rw'
    have z := dLook_k (C := C) (G := G) (H := H) (f := keyOf) (fun _ _ _ _ h1 h2 => keyOf_eq h1 h2) (w := w) e2 (by rw [e1]; exact hv) hk'
    refine ⟨valV kvs k, .inl ⟨kvs, k, hu, ey, rfl⟩, z⟩
  | true =>
    rw [if_pos rfl] at hd hk
    obtain ⟨kvs, rfl, e1, e2⟩ := hd
    obtain ⟨k, hk'⟩ := Option.isSome_iff_exists.mp hk
    have z := dLook_k (C := C) (G := G) (H := H) (f := keyT) (fun _ _ _ _ h1 h2 => keyT_eq h1 h2) (w := w) e2 (by rw [e1]; exact hv) hk'
    cases w with
    | tup l =>
      obtain ⟨b, ys, ey, f, q, rl⟩ := rep_tup.mp rw'
      have eys := keysOf_rep hk' rl
      have hb : H b = some (.tup (k.map kV)) := by rw [← eys]; exact q
      exact ⟨valV kvs k, .inr ⟨kvs, k, b, hu, ey, hb, rfl⟩, z⟩
    | _ => cases hk'
end

section
variable {X : Cx} {T : TbS} {W : WX} {a b : Expr} {ma mb : M EV} {p pos : Pos}
theorem IxR.or2 {r r' : R2} (h : IxR X r) (h' : IxR X r') : IxR X (fun x y H Q => r x y H Q ∨ r' x y H Q) := h.or h'
def rDG : R2 := fun x y H Q => ∃ a v, x = .ref a ∧ DGet H a y (some v) ∧ Q v H
theorem ix_dict (hu : X.A.units + 1 < cLine) : IxR X rDG := by
  intro value slice pins s σ H x y v u Q I rx ry h hs
  obtain ⟨a, z, rfl, g, q⟩ := h
  obtain rfl : v = Value.ref a := rx
  exact tail_any (dict_typeIs I g) PySem.F.slot_dict_getitem.lookup (d_getItem hu I g ry fun w' s3 I3 rw' => ⟨z, H, I3, rw', q⟩) hs
theorem rdD_rep {C : Sc} {S : ES} {σ : L2.St} {H : Hp} {G : Gh} {v : EV} {x : V} {t : Bool} {ks vs : List EV} (r : SRel C S σ H G) (h : RepN C S σ H G v x) (e : rdD S v = some (t, ks, vs)) :
    ∃ a xs u, x = .ref a ∧ Reps C G H vs xs ∧ DRel t ks xs u ∧ Rd H a u := by
  rcases h with h | ⟨i, o, a, u, hs, ha, rfl, hf, hu, ho⟩
  · cases v with
    | dic t' ks' vs' =>
      cases e
      obtain ⟨a, xs, rfl, f, rv, u, d, hr⟩ := rep_dic.mp h
      exact ⟨a, xs, u, rfl, rv, d, hr⟩
    | ref n =>
      simp only [rdD] at e
      split at e
      · rename_i hn
        cases e
        obtain ⟨a, ha, rfl⟩ := rep_ref.mp h
        obtain ⟨a', u, e1, e2, xs, rv, d⟩ := r.hr.obj n _ hn
        rw [ha] at e1; cases e1
        exact ⟨a, xs, u, rfl, rv, d, .inl e2⟩
      · cases e
    | _ => cases e
  · cases o with
    | lst m =>
      have e' : EV.lst m = v := Option.some.inj hf
      subst e'
      cases e
    | dic t' ks' vs' =>
      have e' : EV.dic t' ks' vs' = v := Option.some.inj hf
      subst e'
      cases e
      obtain ⟨xs, rv, d⟩ := ho
      exact ⟨a, xs, u, rfl, rv, d, .inl hu⟩
    | ins c ns vs => cases hf
theorem ixN_len {n m : Nat} (h : n = m) (i : Int) : ixN n i = ixN m i := by rw [h]
theorem reps_at {C : Sc} {G : Gh} {H : Hp} {l : List EV} {xs : List V} {i : Int} {e : EV} (h : Reps C G H l xs) (q : atI l i = some e) : ∃ x, atI xs i = some x ∧ Rep C G H e x := by
  unfold atI at q ⊢
  rw [h.length]
  cases hj : ixN l.length i with
  | none => rw [hj] at q; cases q
  | some j =>
    rw [hj] at q
    obtain ⟨x, h1, h2⟩ := h.get (show l[j]? = some e from q)
    exact ⟨x, h1, h2⟩
def rIxAll (K : PySem.W.Frag) : R2 := fun x y H Q => rIx K x y H Q ∨ rDG x y H Q
/-- what a subscript does, by values that are used at once -/
theorem opn_ix : ∀ S G σ H v w x y Q, SRel (scOf X T) S σ H G → RepN (scOf X T) S σ H G v x → Rep (scOf X T) G H w y → Post (eIx v w S) (QE (scOf X T) G H σ Q) (QX (scOf X T) G H σ W) → rIxAll X.K x y H Q := by
  intro S G σ H v w x y Q r h1 h2 p
  unfold eIx at p
  split at p
  · rename_i z i
    have h1' := rep_str.mp (repN_tup h1 (fun _ z => by cases z) (fun _ _ _ z => by cases z))
    rw [rep_int] at h2
    split at p
    · rename_i hz
      split at p
      · rename_i c hc
        exact .inl (.inr (.inr ⟨z, i, c, h1', h2, hz, hc, p _ H G r (Le.refl _ _) (rep_str.mpr rfl)⟩))
      · exact p.elim
    · exact p.elim
  · split at p
    · rename_i l hl
      split at p
      · rename_i i _
        rw [rep_int] at h2
        split at p
        · rename_i e he
          obtain ⟨a, xs, rfl, sq, rps⟩ := rdN_seq r h1 hl
          obtain ⟨z, hz, rz⟩ := reps_at rps he
          have q := p z H G r (Le.refl _ _) rz
          rcases sq with sq | sq
          · exact .inl (.inl ⟨a, xs, i, z, rfl, h2, sq, hz, q⟩)
          · exact .inl (.inr (.inl ⟨a, xs, i, z, rfl, h2, sq, hz, q⟩))
        · exact p.elim
      · exact p.elim
    · split at p
      · rename_i t ks vs hd
        split at p
        · rename_i hk
          split at p
          · rename_i e he
            obtain ⟨a, xs, u, rfl, rv, d, hr⟩ := rdD_rep r h1 hd
            obtain ⟨o, g, z⟩ := dget_of d hr rv hk h2
            rw [he] at z
            obtain ⟨xv, e1, rz⟩ := z
            subst e1
            exact .inr ⟨a, xv, rfl, g, p xv H G r (Le.refl _ _) rz⟩
          · exact p.elim
        · exact p.elim
      · exact p.elim
theorem em_ix (hu : X.A.units + 64 < cLine) (ha : EM X T W a ma) (hb : EM X T W b mb) (hs : PlainIx b := by intro _ _; rfl) : EM X T W (.Subscript a b pos) (mBin eIx ma mb) :=
  PE_imp (pe_ix (ix_seq.or (ix_dict (Nat.lt_of_le_of_lt (by omega) hu))) ha hb hs) (tM_bin fun S G σ H v w x y Q r h1 h2 p => opn_ix S G σ H v w x y Q r (.inl h1) h2 p)
/-- x[b], x a mutable local -/
def mIxO (f : EV → EV → M EV) (i : Nat) (mb : M EV) : M EV := do
  let _ ← mPeek i
  let w ← mb
  let v ← mPeek i
  f v w
theorem peek_rep {C : Sc} {S : ES} {σ : L2.St} {H : Hp} {G : Gh} {i : Nat} {Qb : EV → ES → Prop} {E : Str → ES → Prop} (r : SRel C S σ H G) (p : Post (mPeek i S) Qb E) : ∃ v x, σ[i]? = some (some x) ∧ RepN C S σ H G v x ∧ Qb v S := by
  unfold mPeek at p
  have q := r.slot i
  cases hs : S.sl[i]? with
  | none => rw [hs] at p; exact p.elim
  | some sl =>
    rw [hs] at p q
    cases sl with
    | emp => exact p.elim
    | val v =>
      obtain ⟨y, e, rp⟩ := q
      exact ⟨v, y, e, .inl rp, p⟩
    | own o =>
      obtain ⟨a, u, ha, hu, ho, n1, n2, n3⟩ := q
      simp only at p
      cases hf : frzO o with
      | none => rw [hf] at p; exact p.elim
      | some v =>
        rw [hf] at p
        exact ⟨v, _, ha, .inr ⟨i, o, a, u, hs, ha, rfl, hf, hu, ho⟩, p⟩
theorem tM_own {r : R2} {f : EV → EV → M EV} {i : Nat} (hf : ∀ S G σ H v w x y Q, SRel (scOf X T) S σ H G → RepN (scOf X T) S σ H G v x → Rep (scOf X T) G H w y → Post (f v w S) (QE (scOf X T) G H σ Q) (QX (scOf X T) G H σ W) → r x y H Q) :
    ∀ σ H Q, tM (scOf X T) W (mIxO f i mb) σ H Q → tOp r (tVar i) (tM (scOf X T) W mb) σ H Q := by
  rintro σ H Q ⟨S, G, rl, p⟩
  obtain ⟨v0, x, e, rp0, p0⟩ := peek_rep rl (post_bnd p)
  refine ⟨x, e, ?_⟩
  refine tM_bind rl p0 fun w S1 y H1 G1 r1 l1 rp1 p1 => ?_
  obtain ⟨v, x', e', rp, p2⟩ := peek_rep r1 (post_bnd p1)
  rw [e] at e'
  cases e'
  exact hf S1 G1 σ H1 v w x y Q r1 rp rp1 (p2.mono (fun _ _ => qe_le l1) fun _ _ z => z)
theorem em_ixO {i : Nat} {x : Str} (hu : X.A.units + 64 < cLine) (hN : X.N[i]? = some x) (hv : Vis X.env.scope x) (hb : EM X T W b mb) (hs : PlainIx b := by intro _ _; rfl) (hd : (x == ("__debug__" : Str)) = false := by decide) (hcd : (x == ("__classdict__" : Str)) = false := by decide) :
    EM X T W (.Subscript (.Name x p) b pos) (mIxO eIx i mb) :=
  PE_imp (pe_ix (ix_seq.or (ix_dict (Nat.lt_of_le_of_lt (by omega) hu))) (pe_var hN hv hd hcd) hb hs) (tM_own opn_ix)

/-! ### in -/
def eIn (v w : EV) : M EV := fun S => match v, w with
  | .str x, .str y => .ok (.bl (!(Builtin.Str.occurrences y x 0 y.length 1).isEmpty)) S
  | v, w => match rdS S w with
    | some l => if cmpOk v && datasOk l && decide (deps l ≤ 63) then .ok (.bl (l.any fun z => eqq z v)) S else .bad
    | none => match rdD S w with
      | some (t, ks, vs) => if keyOkd t v then .ok (.bl (dLook ks vs v).isSome) S else .bad
      | none => .bad
def eNotIn (v w : EV) : M EV := do
  let b ← eIn v w
  match b with
  | .bl k => M.ret (.bl (!k))
  | _ => M.fail
theorem any_toPys {v : EV} (hv : dataOk v = true) : ∀ l : List EV, datasOk l = true → ((toPys l).any fun z => PyData.eqv z (toPy v)) = l.any fun z => eqq z v
  | [], _ => rfl
  | e :: l, h => by
    rw [datasOk, Bool.and_eq_true] at h
    rw [toPys, List.any_cons, List.any_cons, eqv_toPy e v h.1 hv, any_toPys hv l h.2]
def rInA (K : PySem.W.Frag) (neg : Bool) : R2 := fun x y H Q => (∃ i j, x = .str i ∧ y = .str j ∧ Q (.bl (Bool.xor neg (!(Builtin.Str.occurrences j i 0 j.length 1).isEmpty))) H) ∨
  (∃ d ds, Dp K H x d ∧ (Dp K H y (.list ds) ∨ Dp K H y (.tuple ds)) ∧ SeqAt.shaped d = true ∧ SeqAt.shaped (.list ds) = true ∧ Q (.bl (Bool.xor neg (ds.any fun z => PyData.eqv z d))) H) ∨
  (∃ a o, y = .ref a ∧ DGet H a x o ∧ Q (.bl (Bool.xor neg o.isSome)) H)
theorem op_inA (hu : X.A.units + 66 < cLine) : OpR X (compareOp .In) (rInA X.K false) := by
  intro pins s σ H x y v u Q I rx ry h
  rcases h with h | h | ⟨a, o, rfl, g, q⟩
  · exact op_in_str pins s σ H x y v u Q I rx ry (let ⟨i, j, e1, e2, q⟩ := h; ⟨i, j, e1, e2, by simpa using q⟩)
  · obtain ⟨d, ds, hd, he, sd, se, q⟩ := h
    obtain ⟨as, r1⟩ := Dp.reads I d x v hd rx
    rcases he with he | he
    · obtain ⟨bs, r2⟩ := Dp.reads I (.list ds) y u he ry
      exact SeqAt.in_list_reads r2 r1 (SeqAt.canLay_of_shaped se) (SeqAt.canLay_of_shaped sd) (room_in_shaped sd (by omega)) ⟨.bl _, H, I, rfl, by simpa using q⟩
    · obtain ⟨bs, r2⟩ := Dp.reads I (.tuple ds) y u he ry
      exact SeqAt.in_tuple_reads r2 r1 (SeqAt.canLay_of_shaped se) (SeqAt.canLay_of_shaped sd) (room_in_shaped sd (by omega)) ⟨.bl _, H, I, rfl, by simpa using q⟩
  · obtain rfl : u = Value.ref a := ry
    exact d_in (by omega) I g rx fun s3 I3 => ⟨.bl o.isSome, H, I3, rfl, by simpa using q⟩
theorem op_notInA (hu : X.A.units + 66 < cLine) : OpR X (compareOp .NotIn) (rInA X.K true) := by
  intro pins s σ H x y v u Q I rx ry h
  rcases h with h | h | ⟨a, o, rfl, g, q⟩
  · exact L2.op_notIn_str pins s σ H x y v u Q I rx ry (let ⟨i, j, e1, e2, q⟩ := h; ⟨i, j, e1, e2, by simpa using q⟩)
  · obtain ⟨d, ds, hd, he, sd, se, q⟩ := h
    obtain ⟨as, r1⟩ := Dp.reads I d x v hd rx
    rcases he with he | he
    · obtain ⟨bs, r2⟩ := Dp.reads I (.list ds) y u he ry
      exact SeqAt.notIn_list_reads r2 r1 (SeqAt.canLay_of_shaped se) (SeqAt.canLay_of_shaped sd) (room_in_shaped sd (by omega)) ⟨.bl _, H, I, rfl, by simpa using q⟩
    · obtain ⟨bs, r2⟩ := Dp.reads I (.tuple ds) y u he ry
      exact SeqAt.notIn_tuple_reads r2 r1 (SeqAt.canLay_of_shaped se) (SeqAt.canLay_of_shaped sd) (room_in_shaped sd (by omega)) ⟨.bl _, H, I, rfl, by simpa using q⟩
  · obtain rfl : u = Value.ref a := ry
    exact d_notIn (by omega) I g rx fun s3 I3 => ⟨.bl (!o.isSome), H, I3, rfl, by simpa using q⟩
theorem opn_in0 (neg : Bool) : ∀ S G σ H v w x y Q, SRel (scOf X T) S σ H G → Rep (scOf X T) G H v x → RepN (scOf X T) S σ H G w y → Post (eIn v w S) (fun e S' => ∃ k, e = .bl k ∧ QE (scOf X T) G H σ Q (.bl (Bool.xor neg k)) S') (QX (scOf X T) G H σ W) → rInA X.K neg x y H Q := by
  intro S G σ H v w x y Q r h1 h2 p
  unfold eIn at p
  split at p
  · rename_i a b
    have h2' := rep_str.mp (repN_tup h2 (fun _ z => by cases z) (fun _ _ _ z => by cases z))
    rw [rep_str] at h1
    obtain ⟨k, e, q⟩ := p
    cases e
    exact .inl ⟨a, b, h1, h2', q _ H G r (Le.refl _ _) (rep_bl.mpr rfl)⟩
  · split at p
    · rename_i l hl
      split at p
      · rename_i hk
        simp only [Bool.and_eq_true, decide_eq_true_eq] at hk
        obtain ⟨k, e, q⟩ := p
        cases e
        have hkv := hk.1.1
        unfold cmpOk at hkv
        simp only [Bool.and_eq_true, decide_eq_true_eq] at hkv
        obtain ⟨a, xs, rfl, sq, rps⟩ := rdN_seq r h2 hl
        have dps := dps_of l xs hk.1.2 rps
        refine .inr (.inl ⟨toPy v, toPys l, dp_of v x hkv.1 h1, ?_, ?_, ?_, ?_⟩)
        · rcases sq with sq | sq
          · exact .inl (.lst sq dps)
          · exact .inr (.tup sq dps)
        · unfold SeqAt.shaped; rw [canLay_toPy _ hkv.1, depth_toPy]; simp [hkv.2]
        · unfold SeqAt.shaped; rw [PyData.canLay0, canLays_toPy _ hk.1.2, PyData.depth, depths_toPy]; simp; omega
        · rw [any_toPys hkv.1 l hk.1.2]
          exact q _ H G r (Le.refl _ _) (rep_bl.mpr rfl)
      · exact p.elim
    · split at p
      · rename_i t ks vs hd
        split at p
        · rename_i hk
          obtain ⟨k, e, q⟩ := p
          cases e
          obtain ⟨a, xs, u, rfl, rv, d, hr⟩ := rdD_rep r h2 hd
          obtain ⟨o, g, z⟩ := dget_of d hr rv hk h1
          have eo : (dLook ks vs v).isSome = o.isSome := by
            cases hl : dLook ks vs v with
            | none => rw [hl] at z; rw [z]; rfl
            | some e => rw [hl] at z; obtain ⟨xv, e1, _⟩ := z; rw [e1]; rfl
          rw [eo] at q
          exact .inr (.inr ⟨a, o, rfl, g, q _ H G r (Le.refl _ _) (rep_bl.mpr rfl)⟩)
        · exact p.elim
      · exact p.elim
theorem bnd_eq {α β : Type} (m : M α) (f : α → M β) (S : ES) : (m >>= f) S = match m S with
  | .ok a S' => f a S'
  | .exc c S' => .exc c S'
  | .bad => .bad := rfl
theorem eIn_bl {v w : EV} {S : ES} : ∀ e S', eIn v w S = .ok e S' → ∃ k, e = .bl k := by
  intro e S' h
  unfold eIn at h
  split at h
  · cases h; exact ⟨_, rfl⟩
  · split at h
    · split at h
      · cases h; exact ⟨_, rfl⟩
      · cases h
    · split at h
      · split at h
        · cases h; exact ⟨_, rfl⟩
        · cases h
      · cases h
theorem tM_in {neg : Bool} {f : EV → EV → M EV} (hf : ∀ v w S Qb E, Post (f v w S) Qb E → Post (eIn v w S) (fun e S' => ∃ k, e = .bl k ∧ Qb (.bl (Bool.xor neg k)) S') E) : ∀ σ H Q, tM (scOf X T) W (mBin f ma mb) σ H Q → tOp (rInA X.K neg) (tM (scOf X T) W ma) (tMN (scOf X T) W mb) σ H Q := by
  rintro σ H Q ⟨S, G, rl, p⟩
  refine tM_bind rl p fun v S1 x H1 G1 r1 l1 rp1 p1 => ?_
  refine tMN_bind r1 p1 fun w S2 y H2 G2 r2 l2 rp2 p2 => ?_
  refine opn_in0 neg S2 G2 σ H2 v w x y Q r2 (rp1.mono l2) rp2 ((hf v w S2 _ _ p2).mono (fun e S3 ⟨k, e1, q⟩ => ⟨k, e1, qe_le (l1.trans l2) q⟩) fun _ _ z => z)
theorem in_post {v w : EV} {S : ES} {Qb : EV → ES → Prop} {E : Str → ES → Prop} (p : Post (eIn v w S) Qb E) : Post (eIn v w S) (fun e S' => ∃ k, e = .bl k ∧ Qb (.bl (Bool.xor false k)) S') E := by
  cases h : eIn v w S with
  | ok e S' =>
    rw [h] at p
    obtain ⟨k, rfl⟩ := eIn_bl e S' h
    have p' : Qb (.bl k) S' := p
    exact ⟨k, rfl, by simpa using p'⟩
  | exc c S' => rw [h] at p; exact p
  | bad => rw [h] at p; exact p
theorem notIn_post {v w : EV} {S : ES} {Qb : EV → ES → Prop} {E : Str → ES → Prop} (p : Post (eNotIn v w S) Qb E) : Post (eIn v w S) (fun e S' => ∃ k, e = .bl k ∧ Qb (.bl (Bool.xor true k)) S') E := by
  have p' := post_bnd p
  cases h : eIn v w S with
  | ok e S' =>
    rw [h] at p'
    obtain ⟨k, rfl⟩ := eIn_bl e S' h
    refine ⟨k, rfl, ?_⟩
    have p2 : Qb (.bl (!k)) S' := p'
    simpa using p2
  | exc c S' => rw [h] at p'; exact p'
  | bad => rw [h] at p'; exact p'
theorem em_in (hu : X.A.units + 66 < cLine) (ha : EM X T W a ma) (hb : NM X T W b mb) (hm : behindInMarks .In b = false := by rfl) : EM X T W (.Compare a [.In] [b] pos) (mBin eIn ma mb) :=
  PE_imp (pe_cmpR (op_inA hu) ha hb hm) (tM_in fun _ _ _ _ _ => in_post)
theorem em_notIn (hu : X.A.units + 66 < cLine) (ha : EM X T W a ma) (hb : NM X T W b mb) (hm : behindInMarks .NotIn b = false := by rfl) : EM X T W (.Compare a [.NotIn] [b] pos) (mBin eNotIn ma mb) :=
  PE_imp (pe_cmpR (op_notInA hu) ha hb hm) (tM_in fun _ _ _ _ _ => notIn_post)
theorem bm_in (hu : X.A.units + 66 < cLine) (ha : EM X T W a ma) (hb : NM X T W b mb) (hm : behindInMarks .In b = false := by rfl) : BM X T W (.Compare a [.In] [b] pos) (mB (mBin eIn ma mb)) :=
  PT_imp (pt_cmpR (op_inA hu) ha hb hm) fun σ H Q h => tM_in (fun _ _ _ _ _ => in_post) σ H _ (tM_test σ H Q h)
theorem bm_notIn (hu : X.A.units + 66 < cLine) (ha : EM X T W a ma) (hb : NM X T W b mb) (hm : behindInMarks .NotIn b = false := by rfl) : BM X T W (.Compare a [.NotIn] [b] pos) (mB (mBin eNotIn ma mb)) :=
  PT_imp (pt_cmpR (op_notInA hu) ha hb hm) fun σ H Q h => tM_in (fun _ _ _ _ _ => notIn_post) σ H _ (tM_test σ H Q h)
end
end ML
/-! ML7 -/
set_option Elab.async false
set_option linter.all false
set_option autoImplicit false
set_option maxRecDepth 100000
set_option maxHeartbeats 4000000
/-! ML7: generator expressions, the core: one step of a generator whose body may call, raise, and change what is tracked -/
namespace ML
open PySem PySem.Spec PyProof.Rows L2

theorem setGen_size (s : Shared) (g : Nat) (x : GenState) : (s.setGen g x).gens.size = s.gens.size := by simp [Shared.setGen]
/-- a run takes no generator away -/
theorem runs_gm {M : Model} {Γ : PySem.Ctx} {p : Pos} {t : Sem Fin} {fs : List Frame} {s : Shared} {e : End} {s' : Shared} (h : Runs M Γ p t fs s e s') : s.gens.size ≤ s'.gens.size := by
  induction h with
  | done => exact Nat.le_refl _
  | raise => exact Nat.le_refl _
  | again _ _ ih => exact ih
  | rule _ ih => exact ih
  | «at» _ ih => exact ih
  | load _ _ ih => exact ih
  | update _ _ ih => exact ih
  | loadIfAlive _ ih => exact ih
  | point _ ih => exact ih
  | alloc _ ih => exact ih
  | fresh _ ih => exact ih
  | ask _ ih => exact ih
  | choose _ _ ih => exact ih
  | os _ ih => exact ih
  | handled _ ih => exact ih
  | genState _ _ ih => exact ih
  | stack _ ih => exact ih
  | thread _ ih => exact ih
  | newGen _ ih => exact Nat.le_trans (by simp) ih
  | call _ _ a b => exact Nat.le_trans a b
  | callSusp _ ih => exact ih
  | yield => exact Nat.le_refl _
  | resumeFresh _ _ _ _ a b => simp only [setGen_size] at a b; exact Nat.le_trans a b
  | resumeSuspended _ _ _ _ a b => simp only [setGen_size] at a b; exact Nat.le_trans a b
  | resumeJustStarted _ _ _ ih => exact ih
  | resumeThrowFresh _ _ ih => simp only [setGen_size] at ih; exact ih
  | resumeRunning _ _ ih => exact ih
  | resumeFinished _ _ ih => exact ih
  | segRet _ _ a b => exact Nat.le_trans a b
  | segGen _ _ a b => simp only [setGen_size] at b; exact Nat.le_trans a b
  | segSuspOut _ _ ih => exact ih
  | segSuspGen _ _ _ _ a b => simp only [setGen_size] at b; exact Nat.le_trans a b

theorem wpAny_resumeM {M : Model} {A : Around} {R : GenEnd} {Y : Protocol} {n : Nat} {E : Value → Shared → Prop} {s : Shared} {g : Nat} {gs : GenState}
    {r : Resume} {l : List Value} {α : Type} {k : GenResult → Sem α} {Q : α → Shared → Prop} (hg : s.gens[g]? = some gs)
    (hgo : gs.Goes M A R Y n r (s.setGen g .running))
    (hR : ∀ x s₁, s.gens.size ≤ s₁.gens.size → R n (s.setGen g .running) x s₁ → wpAny M A (k (End.ret x).result) Q E (s₁.setGen g .finished))
    (hY : ∀ v s₁ gs', s.gens.size ≤ s₁.gens.size → gs'.bare = true → Y (n - 1) (s.setGen g .running) v s₁ (fun r' s'' => match n with | 0 => False | m + 1 => gs'.Goes M A R Y m r' s'') →
      wpAny M A (k (.yielded v)) Q E (s₁.setGen g gs')) :
    wpAny M A (.resume g r l k) Q E s := by
  intro Γ p hΓ
  rw [Sem.wp_resume]
  have hB : ∀ c, (Γ.wake c p).Woken A := fun c => hΓ.wake c p
  have fin : ∀ e₁ s₁, s.gens.size ≤ s₁.gens.size → SegEnd R Y n (Seg.next M A R Y n) (s.setGen g .running) e₁ s₁ →
      Sem.wp M Γ (k e₁.result) (fun a _ s' => Q a s') (fun e _ s' => E e s') p (s₁.setGen g e₁.genState) := by
    intro e₁ s₁ hz he
    cases e₁ with
    | ret x => exact hR x s₁ hz he Γ p hΓ
    | susp v g₀ l₀ k₀ c₀ p₀ fs₀ =>
      refine hY v s₁ _ hz (End.bare_of_quiet he.1) ?_ Γ p hΓ
      cases n with
      | zero => exact he.2
      | succ m => exact he.2
  have hqt : ∀ e₁ s₁, SegEnd R Y n (Seg.next M A R Y n) (s.setGen g .running) e₁ s₁ → e₁.quiet = true := by
    intro e₁ s₁ he
    cases e₁ with
    | ret x => rfl
    | susp v g₀ l₀ k₀ c₀ p₀ fs₀ => exact he.1
  have sz : ∀ {Γ' : PySem.Ctx} {p' : Pos} {t : Sem Fin} {fs : List Frame} {e : End} {s₁ : Shared}, Runs M Γ' p' t fs (s.setGen g .running) e s₁ → s.gens.size ≤ s₁.gens.size := fun hr => by
    have := runs_gm hr
    rw [setGen_size] at this
    exact this
  cases gs with
  | fresh c =>
    obtain ⟨rfl, hs⟩ := hgo
    obtain ⟨e₁, s₁, hr, he⟩ := seg_iff.mp hs (Γ.wake c p) p rfl (hB c)
    exact ⟨_, _, by unfold Wakes; rw [hg]; exact ⟨e₁, s₁, hr, hqt e₁ s₁ he, rfl, rfl⟩, fin e₁ s₁ (sz hr) he⟩
  | suspended k₀ l₀ c₀ p₀ fs₀ cl =>
    obtain ⟨e₁, s₁, hr, he⟩ := seg_iff.mp hgo (Γ.wake c₀ p) p₀ rfl (hB c₀)
    exact ⟨_, _, by unfold Wakes; rw [hg]; exact ⟨e₁, s₁, hr, hqt e₁ s₁ he, rfl, rfl⟩, fin e₁ s₁ (sz hr) he⟩
  | running => exact hgo.elim
  | finished => exact hgo.elim

theorem setGen_get {s : Shared} {g : Nat} {x : GenState} (h : g < s.gens.size) : (s.setGen g x).gens[g]? = some x := by
  simp [Shared.setGen, h]
theorem bare_setGen {s : Shared} {g : Nat} {x : GenState} (h : AllBare s.gens) (hx : x.bare = true) : AllBare (s.setGen g x).gens := fun y hy => by
  obtain ⟨i, hi, rfl⟩ := Array.mem_iff_getElem.mp hy
  have hi' : i < s.gens.size := by rw [← setGen_size s g x]; exact hi
  by_cases e : i = g
  · subst e
    have q := setGen_get (x := x) hi'
    rw [Array.getElem?_eq_getElem hi] at q
    rw [Option.some.inj q]; exact hx
  · have q : (s.setGen g x).gens[i]? = s.gens[i]? := by simp [Shared.setGen, Ne.symm e]
    rw [Array.getElem?_eq_getElem hi, Array.getElem?_eq_getElem hi'] at q
    rw [Option.some.inj q]
    exact h _ (Array.getElem_mem hi')

/-- e's class is no StopIteration -/
def NoStopH (M : Model) (h : Heap) (e : Value) : Prop := PySem.W.Looks M h (isInstance e (.type "StopIteration")) false

section
variable {prog : Program} {w : World} {A : Around} {E : Value → Shared → Prop} {s : Shared}
theorem gen_pyNext {a : Addr} {g n : Nat} {gs : GenState} {P : Shared → Shared → Prop} {PX : Value → Shared → Prop} {Y : Protocol} {Q : Option Value → Shared → Prop} (hh : A.handled = none)
    (hl : s.heap.NoLimit) (hroom : A.depth < recursionLimit) (hg : s.heap.IsGen a g) (hgs : s.gens[g]? = some gs)
    (hgo : gs.Goes (model prog w) A.in1 (fun _ s₀ r s₁ => (r = .ok .next ∧ P s₀ s₁) ∨ ∃ e, r = .error e ∧ s₁.heap.IsGen a g ∧ NoStopH (model prog w) s₁.heap e ∧ PX e s₁) Y n (.send .none) (s.setGen g .running))
    (hY : ∀ v s₁ gs', g < s₁.gens.size → gs'.bare = true → Y (n - 1) (s.setGen g .running) v s₁ (fun r' s'' => match n with
        | 0 => False
        | m + 1 => gs'.Goes (model prog w) A.in1 (fun _ s₀ r s₁ => (r = .ok .next ∧ P s₀ s₁) ∨ ∃ e, r = .error e ∧ s₁.heap.IsGen a g ∧ NoStopH (model prog w) s₁.heap e ∧ PX e s₁) Y m r' s'') → Q (some v) (s₁.setGen g gs'))
    (hP : ∀ s₁, g < s₁.gens.size → P (s.setGen g .running) s₁ → ∀ h', (∀ b o, s₁.heap.get? b = some o → h'.get? b = some o) → Q none { s₁.setGen g .finished with heap := h' })
    (hX : ∀ e s₁, PX e s₁ → E e (s₁.setGen g .finished)) :
    wpAny (model prog w) A (pyNext (.ref a)) Q E s := by
  have hlt : g < s.gens.size := by
    rcases Nat.lt_or_ge g s.gens.size with h' | h'
    · exact h'
    · rw [Array.getElem?_eq_none h'] at hgs; cases hgs
  unfold pyNext
  refine wpAny_bind (wpAny_attempt (wpAny_callSpecial?_slot (name := Str.ofString "__next__") hg.typeIs slot_gen_next
    (wpAny_call_entry slot_gen_next hg.typeIs entry_gen_next ?_ (args_gen_next _))))
  show wpAny _ A.in1 (Builtin.Generator.genWake (.ref a) (.send .none)) _ _ s
  unfold Builtin.Generator.genWake
  refine wpAny_bind (wpAny_holding (wpAny_genNumber hg (wpAny_bind (wpAny_genState hgs ?_))))
  cases gs with
  | running => exact hgo.elim
  | finished => exact hgo.elim
  | _ =>
    refine wpAny_bind (wpAny_roomToWake hl hroom ?_)
    show wpAny _ A.in1 (.resume g (.send .none) [] _) _ _ s
    refine wpAny_resumeM hgs hgo (fun x s₁ hz hx => ?_) (fun v s₁ gs' hz hb hv => ?_)
    · rcases hx with ⟨rfl, hp⟩ | ⟨e, rfl, hg1, ns, px⟩
      · show wpAny _ A.in1 (newExc (.type "StopIteration") [] >>= _) _ _ _
        refine wpAny_bind ?_
        simp only [newExc, newTuple]
        refine wpAny_bind (wpAny_newObj_type ?_ (by size_fits))
        refine wpAny_bind (m := firstArgMember _ _) (wpAny_of_eq (a := Value.none) (by first | rfl | (simp only [firstArgMember]; rfl)) ?_)
        refine wpAny_newObj_type ?_ (by size_fits)
        simp only [raiseNew]
        refine wpAny_bind (wpAny_bind (wpAny_handled ?_))
        first | rw [show A.in1.handled = none from hh] | rw [hh]
        refine wpAny_throw ?_
        refine wpAny_bind (wpAny_isInstance (T := "StopIteration") (b := true) ⟨_, Heap.get?_push_size _ rfl, rfl⟩ isSubtype_stop ?_)
        exact wpAny_pure (hP s₁ (Nat.lt_of_lt_of_le hlt hz) hp _ fun b o hb => Heap.get?_push_of_some _ (Heap.get?_push_of_some _ hb))
      · obtain ⟨o, nm, qn, ho, hcls, hdat, hsl⟩ := hg1
        show wpAny _ A.in1 (Builtin.Generator.genLeft (.ref a) e) _ _ _
        unfold Builtin.Generator.genLeft Builtin.Generator.madeByALambda Builtin.Generator.genEscaped
        refine wpAny_bind (wpAny_bind (wpAny_load ho ?_))
        rw [hcls, hdat]
        refine wpAny_pure ?_
        simp only [beq_self_eq_true, Bool.true_and, List.getElem?_toArray, List.getElem?_cons_succ, List.getElem?_nil, Bool.false_and]
        have ns1 : ∀ {α : Type} {A' : Around} {f : Bool → Sem α} {Q' : α → Shared → Prop} {E' : Value → Shared → Prop}, wpAny (model prog w) A' (f false) Q' E' (s₁.setGen g .finished) → wpAny (model prog w) A' (isInstance e (.type "StopIteration") >>= f) Q' E' (s₁.setGen g .finished) :=
          fun h => wpAny_bind (ns _ _ _ _ (fun _ _ z => z) h)
        refine ns1 ?_
        rw [if_neg (by simp)]
        refine ns1 ?_
        rw [if_pos (show (!false) = true from rfl)]
        refine wpAny_bind (wpAny_throw ?_)
        refine ns1 ?_
        rw [if_neg (by simp)]
        exact wpAny_throw (hX e s₁ px)
    · exact wpAny_pure ⟨v, rfl, wpAny_pure (hY v s₁ gs' (Nat.lt_of_lt_of_le hlt hz) hb hv)⟩
end

/-! ### made -/
abbrev gEnv (scope : Scope) (cl : List (Str × Addr)) (C : Addr) (code : Value) (env : Env) : Env :=
  { scope, locals := C, globals := env.globals, cells := cl, qual := env.qual ++ "<genexpr>.", func := none, code, frame := some C, builtins := builtinsNs }
abbrev gCells (X : Cx) (scope : Scope) (n : Nat) : List (Str × Addr) := cellsFrom (n + 1) scope.names (cloFrom X.env.cells scope.names [])
theorem wpAny_newFunctionEnvG {M : Model} {A : Around} {E : Value → Shared → Prop} {s : Shared} {scope : Scope} {globals : Addr} {clo : List (Str × Addr)} {x : Str} {v : Value} {qual : Str} {code : Value} {builtins : Addr} {Q : Env → Shared → Prop}
    (hk : scope.kind = .function) (hx : scope.names.lookup x = some .local)
    (hQ : ∀ h', h'.Ns s.heap.objs.size (fun y => if y = x then some v else none) → Heap.SameBut s.heap.objs.size (pushCells (s.heap.push { cls := .type "frame", data := .dict #[] }) scope.names) h' →
      Q { scope, locals := s.heap.objs.size, globals, cells := cellsFrom (s.heap.objs.size + 1) scope.names clo, qual, func := none, code, frame := some s.heap.objs.size, builtins } { s with heap := h', toks := s.toks + 1 }) :
    wpAny M A (newFunctionEnv scope globals clo [(x, v)] qual none code none builtins) Q E s := by
  simp only [newFunctionEnv, Option.isSome_none, Bool.false_eq_true, if_false]
  refine wpAny_bind (wpAny_alloc ?_)
  refine wpAny_bind (wpAny_layCells _ (fun name kind cells => by cases hkc : kind == NameKind.cell <;> simp [hkc]) _ _ _ _ ?_)
  rw [show ({ s with heap := s.heap.push { cls := .type "frame", data := .dict #[] } } : Shared).heap.objs.size = s.heap.objs.size + 1 from Heap.size_push ..]
  rw [List.forIn_cons]
  refine wpAny_bind (wpAny_bind (wpAny_bind ?_))
  refine wpAny_storeName_local hx ((Heap.Ns.new s.heap (.type "frame")).keeps (pushCells_keeps _ _)) (fun h' hn' hs' => ?_) (by show (scope.kind == .class || _) = false; rw [hk]; rfl)
  refine wpAny_pure ?_
  dsimp only
  rw [List.forIn_nil]
  exact wpAny_pure (wpAny_pure (hQ h' hn' hs'))
theorem gen_make {M : Model} {A : Around} {E : Value → Shared → Prop} {s : Shared} {env : Env} {elt target iter : Expr} {ifs : List Expr} {scope : Scope} {clo : List (Str × Addr)} {pos : Pos} {Q : Value → Shared → Prop}
    (hco : scope.isCoroutine = false) (hclos : closureFor scope env = pure clo) (h0 : scope.names.lookup (".0" : Str) = some NameKind.local) (hkind : scope.kind = .function)
    (hroom : A.depth < recursionLimit)
    (h : wpAny M A (eval iter env) (fun xv s₁ => wpAny M A (pyIter xv) (fun it s₂ => s₂.heap.NoLimit ∧
      wpAny M A (genexprCode env pos (env.qual ++ "<genexpr>") scope) (fun code s₃ => wpAny M A (builtinsFor env.globals env.builtins) (fun bi s₄ =>
        ∀ h', h'.Ns s₄.heap.objs.size (fun y => if y = ".0" then some it else none) → Heap.SameBut s₄.heap.objs.size (pushCells (s₄.heap.push { cls := .type "frame", data := .dict #[] }) scope.names) h' →
          Q (.ref h'.objs.size) { s₄ with
            gens := s₄.gens.push (.fresh (.compStart (.GeneratorExp elt [⟨target, iter, ifs, 0⟩] scope pos) 0 it .none { scope, locals := s₄.heap.objs.size, globals := env.globals, cells := cellsFrom (s₄.heap.objs.size + 1) scope.names clo, qual := env.qual ++ "<genexpr>.", func := none, code, frame := some s₄.heap.objs.size, builtins := bi })),
            toks := s₄.toks + 1 + 1 + 1,
            heap := h'.push { cls := .type "generator", data := .fields #[.int s₄.gens.size 0, .str "<genexpr>" (s₄.toks + 1), .str (env.qual ++ "<genexpr>") (s₄.toks + 1 + 1)] } }) E s₃) E s₂) E s₁) E s)
    (hs : ∀ x, genFold iter env x = pure x) :
    wpAny M A (eval (.GeneratorExp elt [⟨target, iter, ifs, 0⟩] scope pos) env) Q E s := by
  rw [eval_GeneratorExp1 _ _ _ _ _ _ _ hco, hclos]
  refine wpAny_bind (wpAny_mono h (fun xv s₁ h₁ => ?_) fun _ _ e => e)
  refine wpAny_bind (wpAny_standAt ?_)
  refine wpAny_bind (wpAny_of_eq (hs xv) ?_)
  refine wpAny_bind (wpAny_holding (wpAny_mono h₁ (fun it s₂ h₂ => ?_) fun _ _ e => e))
  refine wpAny_bind (wpAny_enterFrame h₂.1 hroom ?_)
  refine wpAny_bind (wpAny_pure ?_)
  refine wpAny_bind (wpAny_mono h₂.2 (fun code s₃ h₃ => ?_) fun _ _ e => e)
  refine wpAny_bind (wpAny_mono h₃ (fun bi s₄ h₄ => ?_) fun _ _ e => e)
  refine wpAny_bind (wpAny_newFunctionEnvG hkind h0 (fun h' hn' hs' => ?_))
  simp only [newGenerator, newFields]
  refine wpAny_bind (wpAny_newGen (wpAny_bind (wpAny_mkText (wpAny_bind (wpAny_mkText (wpAny_newObj_type ?_ (by size_fits)))))))
  exact h₄ h' hn' hs'

/-- the generator's own context -/
def gCx (X : Cx) (A : Around) (s : Shared) (H : Hp) (scope : Scope) (cenv : Env) (fp : List Addr) (pn : List (Addr × Obj)) (xe : Value → Shared → Prop) : Cx :=
  { X with A := A.deeper cenv, s_0 := s, H_0 := H, env := cenv, outer := X.stack, stack := cenv :: X.stack, ex := fp, fn := fun x => scope.names.lookup x == some .cell, pn := pn, xe := xe }
section
variable {X : Cx} {pins : List (Addr × Obj)} {σ : L2.St} {H : Hp} {s s5 : Shared}
theorem gen_start {A : Around} {scope : Scope} {own : List (Str × Nat)} {fp : List Addr} {pn : List (Addr × Obj)} {code : Value} {xe : Value → Shared → Prop} {m : Str → Option Value} (I : Inv X pins σ H s) (ok : BlkOk X.N X.env.scope scope own) (hN : X.N.Nodup)
    (hfp : ∀ b ∈ fp, FpOk X pins H b ∧ b < s.heap.objs.size) (hA : A.frames = some X.stack) (hh : A.handled = none)
    (kp : ∀ b o, (pushCells (s.heap.push { cls := .type "frame", data := .dict #[] }) scope.names).get? b = some o → b ≠ s.heap.objs.size → s5.heap.get? b = some o)
    (hpn : ∀ p ∈ pn, s5.heap.get? p.1 = some p.2 ∧ s.heap.objs.size < p.1 ∧ ∀ v, p.2.data ≠ .cell v)
    (ns : s5.heap.Ns s.heap.objs.size m) (os : s5.os = s.os) (ag : AllBare s5.gens) :
    Inv (gCx X A s H scope (gEnv scope (gCells X scope s.heap.objs.size) s.heap.objs.size code X.env) fp pn xe) [] (wipe σ (own.map (·.2))) H s5 := by
  have hfree : ∀ y ∈ scope.names, y.2 = .free → ∃ c, X.env.cells.lookup y.1 = some c := fun y hy e => by
    rcases ok.free y hy e with k | k
    · exact I.ok.has _ (.inl k)
    · exact I.ok.has _ (.inr k)
  have k5 : ∀ b o, s.heap.get? b = some o → s5.heap.get? b = some o := fun b o e => kp b o (pushCells_keeps _ _ _ _ (Heap.get?_push_of_some _ e)) (Nat.ne_of_lt (Heap.lt_size e))
  generalize hcenv : gEnv scope (gCells X scope s.heap.objs.size) s.heap.objs.size code X.env = cenv
  have hL : cenv.locals = s.heap.objs.size := by rw [← hcenv]
  have hcl : cenv.cells = cellsFrom (s.heap.objs.size + 1) scope.names (cloFrom X.env.cells scope.names []) := by rw [← hcenv]
  have hsc : cenv.scope = scope := by rw [← hcenv]
  rw [← Heap.size_push s.heap { cls := .type "frame", data := .dict #[] }] at hcl
  have cm : ∀ {y c}, (y, c) ∈ cloFrom X.env.cells scope.names [] → X.env.cells.lookup y = some c ∧ c < s.heap.objs.size := fun {y c} hm => by
    rcases cloFrom_mem hm with hm | ⟨h1, rfl⟩
    · cases hm
    · obtain ⟨c, hc⟩ := hfree _ h1 rfl
      rw [hc]
      obtain ⟨w, z⟩ := I.cell _ _ hc
      exact ⟨rfl, z.lt⟩
  have mem : ∀ {y c}, cenv.cells.lookup y = some c → (X.env.cells.lookup y = some c ∧ c < s.heap.objs.size) ∨ (s.heap.objs.size + 1 ≤ c ∧ CellAt s5.heap c none) := fun {y c} e => by
    rw [hcl] at e
    rcases cells_mem (PySem.mem_of_lookup e) with hm | ⟨_, h2, h3⟩
    · exact .inl (cm hm)
    · rw [Heap.size_push] at h2
      obtain ⟨o, ho, hd⟩ := h3
      exact .inr ⟨h2, o, kp c o ho (Nat.ne_of_gt h2), hd⟩
  have look : ∀ {y}, scope.names.lookup y = some .free → ∃ c, cenv.cells.lookup y = some c ∧ X.env.cells.lookup y = some c := fun {y} hl => by
    have hy : (y, NameKind.free) ∈ scope.names := PySem.mem_of_lookup hl
    obtain ⟨c', e'⟩ := mem_lookup (cells_acc (names := scope.names) (n := (s.heap.push { cls := .type "frame", data := .dict #[] }).objs.size) (cloFrom_has (cells := X.env.cells) (acc := []) hy))
    rw [← hcl] at e'
    refine ⟨c', e', ?_⟩
    rw [hcl] at e'
    rcases cells_mem (PySem.mem_of_lookup e') with hm | ⟨h1, _, _⟩
    · exact (cm hm).1
    · have := ok.uniq _ h1
      rw [hl] at this; cases this
  have okB : (gCx X A s H scope cenv fp pn xe).Ok := by
    refine ⟨I.ok.mod, by show cenv.scope.kind = _; rw [hsc]; exact ok.kind, by show cenv.globals = _; rw [← hcenv]; exact I.ok.glob, by show cenv.builtins = _; rw [← hcenv], by show s.heap.objs.size ≤ cenv.locals; rw [hL]; exact Nat.le_refl _,
      fun y z c e1 e2 => ?_, fun y hy => ?_, fun y c z e => ?_, fun _ => hh, Around.frames_deeper hA, .inr ⟨rfl, by show cenv.frame = some cenv.locals; rw [← hcenv]⟩, fun b hb => ⟨?_, fun y c e z => ?_⟩, I.bs, Nat.le_trans I.ok.bsz I.sz, fun b o e hb => ?_, fun b hb z => ?_, I.stack, I.stkFree⟩
    · have e1 : cenv.cells.lookup y = some c := e1
      have e2 : cenv.cells.lookup z = some c := e2
      rw [hcl] at e1 e2
      refine cells_inj (fun p hp => ?_) (fun y z c a b => I.ok.inj y z c (cm a).1 (cm b).1) (PySem.mem_of_lookup e1) (PySem.mem_of_lookup e2)
      rw [Heap.size_push]
      exact Nat.lt_succ_of_lt (cm (y := p.1) (c := p.2) hp).2
    · show ∃ c, cenv.cells.lookup y = some c
      have key : ∀ k, cenv.kindOf y = some k → (k = .cell ∨ k = .free) → ∃ c, cenv.cells.lookup y = some c := fun k hk hk' => by
        unfold Env.kindOf at hk
        rw [hsc] at hk
        rcases hk' with rfl | rfl
        · obtain ⟨c, hm⟩ := cells_has (n := (s.heap.push { cls := .type "frame", data := .dict #[] }).objs.size) (acc := cloFrom X.env.cells scope.names []) (PySem.mem_of_lookup hk)
          obtain ⟨c', e'⟩ := mem_lookup hm
          exact ⟨c', by rw [hcl]; exact e'⟩
        · obtain ⟨c, h1, _⟩ := look hk
          exact ⟨c, h1⟩
      rcases hy with hy | hy
      · exact key _ hy (.inl rfl)
      · exact key _ hy (.inr rfl)
    · have z : (scope.names.lookup y == some NameKind.cell) = true := z
      have z : scope.names.lookup y = some .cell := by simpa using z
      have e : cenv.cells.lookup y = some c := e
      rw [hcl] at e
      rcases cells_mem (PySem.mem_of_lookup e) with hm | ⟨_, h2, _⟩
      · rcases cloFrom_mem hm with hm | ⟨h1, _⟩
        · cases hm
        · have q := ok.uniq _ h1
          rw [z] at q; cases q
      · rw [Heap.size_push] at h2
        exact Nat.le_of_succ_le h2
    · show b ≠ cenv.locals
      rw [hL]; exact Nat.ne_of_lt (hfp b hb).2
    · have e : cenv.cells.lookup y = some c := e
      rcases mem e with ⟨h1, _⟩ | ⟨h1, _⟩
      · exact (hfp b hb).1.2.2.2.2.1 y c h1 z
      · have h2 : s.heap.objs.size + 1 ≤ b := by rw [← z]; exact h1
        exact absurd (Nat.lt_of_lt_of_le (hfp b hb).2 (Nat.le_of_succ_le h2)) (Nat.lt_irrefl _)
    · rcases (hfp b hb).1.2.2.2.1 with z | z
      · exact I.ok.noex b o e z
      · exact absurd (Nat.lt_of_lt_of_le (Heap.lt_size e) (Nat.le_trans I.ok.bsz z)) (Nat.lt_irrefl _)
    · rcases List.mem_cons.mp (I.stkSub b z) with z | z
      · exact (hfp b hb).1.2.1 z
      · exact (hfp b hb).1.2.2.1 z
  refine ⟨okB, os, ag, Un.kept k5, ⟨m, ?_, fun i y av e1 e2 e3 => ?_⟩, fun y c e => ?_, ?_, fun y c e => ?_, fun p hp => ?_, I.hok.kept k5, by rw [wipe_length]; exact I.len⟩
  · show Heap.Ns _ cenv.locals _
    rw [hL]
    exact ns
  · obtain ⟨e2, hne⟩ := wipe_some e2
    have hfr : scope.names.lookup y = some .free := by
      have e3 : Vis cenv.scope y := e3
      rw [hsc] at e3
      have no : ∀ k, scope.names.lookup y = some k → (k = .local ∨ k = .cell) → False := fun k e hh => by
        rcases ok.own _ (PySem.mem_of_lookup e) hh with e' | e'
        · obtain ⟨p, hp, hpy⟩ := List.mem_map.mp e'
          have e3 := ok.ix p hp
          have : p.1 = y := hpy
          rw [this] at e3
          exact hne (List.mem_map.mpr ⟨p, hp, nodup_ix hN e3 e1⟩)
        · exact e' (List.mem_of_getElem? e1)
      rcases e3 with e3 | e3 | e3
      · exact (no _ e3 (.inl rfl)).elim
      · exact (no _ e3 (.inr rfl)).elim
      · exact e3
    obtain ⟨m', hn, hl⟩ := I.loc
    have hvis : Vis X.env.scope y := (ok.free _ (PySem.mem_of_lookup hfr) rfl).elim (fun k => .inr (.inl k)) (fun k => .inr (.inr k))
    obtain ⟨w, r, q⟩ := hl i y av e1 e2 hvis
    refine ⟨w, r, .inr ⟨.inr (by show cenv.scope.names.lookup y = _; rw [hsc]; exact hfr), ?_⟩⟩
    obtain ⟨c, h1, h2⟩ := look hfr
    rcases q with ⟨k, _⟩ | ⟨_, c', e', z⟩
    · have k : X.env.scope.names.lookup y = some .local := k
      rcases ok.free _ (PySem.mem_of_lookup hfr) rfl with k' | k' <;> rw [show X.env.scope.names.lookup y = _ from k'] at k <;> cases k
    · rw [h2] at e'; cases e'
      exact ⟨c, h1, z.keeps k5⟩
  · have e : cenv.cells.lookup y = some c := e
    rcases mem e with ⟨h1, _⟩ | ⟨_, z⟩
    · obtain ⟨w, z⟩ := I.cell y c h1
      exact ⟨w, z.keeps k5⟩
    · exact ⟨_, z⟩
  · show H cenv.locals = none
    rw [hL]; exact I.hok.fresh (Nat.le_refl _)
  · have e : cenv.cells.lookup y = some c := e
    rcases mem e with ⟨h1, _⟩ | ⟨h1, _⟩
    · exact I.freeC y c h1
    · exact I.hok.fresh (Nat.le_of_succ_le h1)
  · have hp : p ∈ pn := by
      have hp : p ∈ pn ++ [] := hp
      rwa [List.append_nil] at hp
    obtain ⟨q1, q2, q3⟩ := hpn p hp
    refine ⟨q1, I.hok.fresh (Nat.le_of_lt q2), ?_, ?_, q3⟩
    · show p.1 ≠ cenv.locals
      rw [hL]; exact Nat.ne_of_gt q2
    · show p.1 ∉ frs X.stack
      intro z
      rcases List.mem_cons.mp (I.stkSub p.1 z) with z | z
      · exact absurd (Nat.lt_trans I.lt q2) (by rw [z]; exact Nat.lt_irrefl _)
      · exact I.nofs (Nat.le_of_lt q2) z
end

/-! ### an exception leaves the generator -/
def NoStopC (K : PySem.W.Frag) (cls : Value) : Prop := ∃ C, cls = .ref C ∧ PySem.W.mroIn K C (.type "StopIteration") = some false
def GX (X : Cx) (W : WX) (a : Addr) (go : Obj) (e : Value) (s' : Shared) : Prop := s'.heap.get? a = some go ∧ NoStopH (model X.prog X.w) s'.heap e ∧ XE X W e s'
section
variable {X : Cx} {pins : List (Addr × Obj)} {σ : L2.St} {H : Hp} {s s' : Shared} {W Wg : WX}
theorem xe_leave_gen {A : Around} {scope : Scope} {cenv : Env} {fp : List Addr} {a : Addr} {go : Obj} {xe E₁ : Value → Shared → Prop} (I : Inv X pins σ H s) (hA : A.frames = some X.stack) (hfp : ∀ b ∈ fp, FpOk X pins H b) (hL : cenv.locals = s.heap.objs.size) (hf : cenv.frame = some cenv.locals)
    (hW : ∀ cls d σ' H', Wg cls d σ' H' → NoStopC X.K cls ∧ W cls d σ H') {u : Value} (x : XE (gCx X A s H scope cenv fp [(a, go)] xe) Wg u s') :
    wpAny (model X.prog X.w) (A.deeper cenv) (leaving cenv u) (fun _ s'' => GX X W a go u s'') E₁ s' := by
  obtain ⟨b', B, sI, pins', σ', H', cls, d, rfl, J, nb, up, sky, na, os, ag, w⟩ := x
  have hfr : (A.deeper cenv).frames = some (cenv :: X.stack) := Around.frames_deeper hA
  have nst : ∀ b o, s.heap.get? b = some o → b ∉ frs X.stack → b ∉ frs (cenv :: X.stack) := fun b o e hb hm => by
    unfold frs at hm
    rw [List.filterMap_cons, hf] at hm
    rcases List.mem_cons.mp hm with z | z
    · have h1 := Heap.lt_size e
      rw [z, hL] at h1
      exact absurd h1 (Nat.lt_irrefl _)
    · exact hb z
  have fin : ∀ h', HandSPX.FlyingZ B X.stack b' (Zc cls d) h' → s'.heap.UpToSlots h' → GX X W a go (.ref b') { s' with heap := h' } := fun h' fl up' => by
    obtain ⟨hns, hw⟩ := hW _ _ _ _ w
    have st : B.StaysIn h' := fl.1
    refine ⟨?_, ?_, ?_⟩
    · obtain ⟨e, n, ne, nf, dd⟩ := J.pin (a, go) (List.mem_append_left _ List.mem_cons_self)
      refine st a go (nb a go e fun hm => ?_)
      have hm : a ∈ frs (cenv :: X.stack) := hm
      unfold frs at hm
      rw [List.filterMap_cons, hf] at hm
      rcases List.mem_cons.mp hm with z | z
      · exact ne z
      · exact nf z
    · obtain ⟨C, rfl, hm⟩ := hns
      obtain ⟨oe, vs, T, oT, ts, he, hz, _⟩ := fl.2.2.2
      have kin : X.K.In h' := I.ok.mod.kin.keeps fun b o e => by
        have e1 : sI.heap.get? b = some o := J.bk b o e
        refine st b o (nb b o e1 fun hm => ?_)
        have hm : b ∈ frs (cenv :: X.stack) := hm
        have e0 : s.heap.get? b = some o := I.bk b o e
        have hb : b ∉ frs X.stack := fun z => by
          rcases List.mem_cons.mp (I.stkSub b z) with z | z
          · exact absurd (Nat.lt_of_lt_of_le (Heap.lt_size e) (Nat.le_trans I.ok.bsz I.ok.above)) (by rw [z]; exact Nat.lt_irrefl _)
          · exact I.ok.nofr e z
        exact nst b o e0 hb hm
      have LT : PySem.W.Looks (model X.prog X.w) h' (typeOf (.ref b')) (.ref C) := fun A Q E s k q => wpAny_typeOf_ref (k _ _ he) (by rw [hz.1]; exact q)
      exact LT.andThen (PySem.W.looks_mroIn kin hm)
    · obtain ⟨G, g1, g2⟩ := restrict h' fun b => (B.get? b).isSome || decide (b ∈ frs X.stack)
      have gB : ∀ b o, B.get? b = some o → G.get? b = some o := fun b o e => by
        rw [g1 b (by simp [e])]
        exact st b o e
      have gF : ∀ b, b ∈ frs X.stack → G.get? b = h'.get? b := fun b hb => g1 b (by simp [hb])
      have og : ∀ b o, G.get? b = some o → h'.get? b = some o ∧ ((B.get? b).isSome = true ∨ b ∈ frs X.stack) := fun b o e => by
        cases q : ((B.get? b).isSome || decide (b ∈ frs X.stack)) with
        | false => rw [g2 b q] at e; cases e
        | true =>
          rw [g1 b q] at e
          exact ⟨e, by simpa [Bool.or_eq_true] using q⟩
      have jslot : ∀ b o, s.heap.get? b = some o → b ∈ frs X.stack → ∃ sl, h'.get? b = some { o with slots := sl } := fun b o e hb => by
        obtain ⟨_, o₀, e₀, hnf⟩ := I.stack.mem hb
        rw [e] at e₀; cases e₀
        have hx : b ∉ fp := fun z => by
          obtain ⟨_, f1, f2, _⟩ := hfp b z
          rcases List.mem_cons.mp (I.stkSub b hb) with q | q
          · exact f1 q
          · exact f2 q
        obtain ⟨sl, e1⟩ := J.base.slot b o e (I.stkFree b hb) hb hx
        obtain ⟨sl2, e2⟩ := up b _ e1 hnf
        obtain ⟨sl3, e3⟩ := up' b _ e2 hnf
        exact ⟨sl3, e3⟩
      have II : Inv X pins σ H' { s with heap := G, gens := s'.gens, drawn := s'.drawn, toks := s'.toks } := by
        refine I.call (ch := fp) ⟨fun b o e n hb hx => gB b o (nb b o (J.base.keep b o e n hb hx) (nst b o e hb)), fun b o e n hb _ => ?_, fun b o e n hx => J.base.free b o e n hx, fun b o e hx => ?_, J.base.tups, J.base.frzs, J.base.tbls⟩
          ((J.inGround nb).kept gB) ag fun b hb => ⟨(hfp b hb).2.2.2.1, (hfp b hb).2.1, (hfp b hb).2.2.2.2.1, (hfp b hb).2.2.2.2.2⟩
        · obtain ⟨sl, q⟩ := jslot b o e hb
          exact ⟨sl, by rw [gF b hb]; exact q⟩
        · by_cases hb : b ∈ frs X.stack
          · obtain ⟨sl, q⟩ := jslot b o e hb
            exact ⟨_, by rw [gF b hb]; exact q⟩
          · obtain ⟨o', q⟩ := J.base.there b o e hx
            exact ⟨o', gB b o' (nb b o' q (nst b o e hb))⟩
      refine ⟨b', B, _, pins, σ, H', cls, d, rfl, II, fun b o e hb => ?_, Heap.UpToSlots.of_keeps fun b o e => (og b o e).1, .inr (.inl fl), na, os.trans J.os, ag, hw⟩
      obtain ⟨e', h⟩ := og b o e
      rcases h with h | h
      · obtain ⟨o', q⟩ := Option.isSome_iff_exists.mp h
        have z := st b o' q
        rw [e'] at z; cases z
        exact q
      · exact absurd h hb
  have sky : Sky B (cenv :: X.stack) b' (Zc cls d) cenv.locals s'.heap := sky
  rcases sky with ⟨hB, hn, hl, oe, vs, he, hz, hd, h1⟩ | fl | hd
  · exact HandSPX.leaving_firstZ Zc.steady hfr hl hf he hB hn hd h1 hz fin
  · exact HandSPX.leaves_onZ Zc.steady hfr hf fl fin
  · exact HandSPX.leaves_heldZ hf hd fin
theorem XE.regen {u : Value} {g' : Array GenState} (x : XE X W u s') (hg : AllBare g') : XE X W u { s' with gens := g' } := by
  obtain ⟨a, B, sI, pins, σ, H, cls, d, e, I, nb, up, sky, na, os, ag, w⟩ := x
  exact ⟨a, B, sI, pins, σ, H, cls, d, e, I, nb, up, sky, na, os, hg, w⟩
end

/-! ### the body's loop -/
/-- K h y H Nx: what the one who draws makes of an item y; h: the heap as it was when he drew (his own objects are in it), Nx: what he is to reach -/
abbrev Cons := Heap → V → Hp → (Heap → Hp → Prop) → Prop
def GTurn (J : It) (g : TG) (tt : TT) (te : TE) (vs : List Nat) (σ : L2.St) (K : Cons) (Dn : Heap → Hp → Prop) (Wi : Nat → Nat → Heap → Hp → Prop) : Prop := ∀ i m h H, Wi i m h H →
  (J.stop i H ∧ Dn h H) ∨ (J.go i H ∧ ∃ Nx : Heap → Hp → Prop, (∀ h' H', Nx h' H' → ∃ m', m' < m ∧ Wi (i + 1) m' h' H') ∧ ∀ x H', J.yld i H x H' → g x (wipe σ vs) H' fun σ2 H2 => wipe σ2 vs = wipe σ vs ∧ tt σ2 H2 fun b H3 =>
    if b = true then te σ2 H3 fun y H4 => K h y H4 Nx else Nx h H3)
/-- the drawer's own objects -/
def Priv (Xg : Cx) (Cn : List Addr) (H : Hp) (s : Shared) : Prop := ∀ S ∈ Cn, (∃ o, s.heap.get? S = some o ∧ ∀ v, o.data ≠ .cell v) ∧ H S = none ∧ S ≠ Xg.env.locals ∧ S ∉ Xg.fs ∧ (∀ x d, Xg.env.cells.lookup x = some d → d ≠ S) ∧ Xg.s_0.heap.objs.size ≤ S ∧ ∀ p ∈ Xg.pn, p.1 ≠ S
def Same (Cn : List Addr) (h h' : Heap) : Prop := ∀ S ∈ Cn, h'.get? S = h.get? S
def gR (Xg : Cx) (Cn : List Addr) (σ : L2.St) (Dn : Heap → Hp → Prop) (a : Addr) (g : Nat) (PX : Value → Shared → Prop) : GenEnd := fun _ s₀ r s₁ =>
  (r = .ok .next ∧ ∃ H', Inv Xg [] σ H' s₁ ∧ Priv Xg Cn H' s₁ ∧ Same Cn s₀.heap s₁.heap ∧ Dn s₀.heap H') ∨ ∃ e, r = .error e ∧ s₁.heap.IsGen a g ∧ NoStopH (model Xg.prog Xg.w) s₁.heap e ∧ PX e s₁
def gY (Xg : Cx) (Cn : List Addr) (K : Cons) : Protocol := fun _ s₀ v s k => ∃ (y : V) (pf : List (Addr × Obj)) (σ2 : L2.St) (H : Hp) (Nx : Heap → Hp → Prop), RelV y v ∧ (∀ p ∈ pf, p.1 ∉ Cn) ∧ Inv Xg pf σ2 H s ∧ Priv Xg Cn H s ∧ Same Cn s₀.heap s.heap ∧ K s₀.heap y H Nx ∧
  ∀ s'' H'', Inv Xg pf σ2 H'' s'' → Priv Xg Cn H'' s'' → Nx s''.heap H'' → k (.send .none) s''

section
variable {A : Around}
theorem over_loop {elt : Expr} {gs : List Comprehension} {scope : Scope} {pos : Pos} {it acc : Value} {cenv : Env} : A.over (.compLoop (.GeneratorExp elt gs scope pos) 0 it acc cenv) [] = A.deeper cenv := by
  first
  | rfl
  | (unfold Around.over Around.deeper
     simp [Code.envs, Code.isFrame, Code.env?, Code.guards, Code.isGuard, Code.weight, Code.frames, Code.isCreation, Code.isCaller, Code.cUnits, pushEnvs, pushGuards, envsOf, guardsOf, unitsOf, frameCount, marksOver])
theorem over_start {elt : Expr} {gs : List Comprehension} {scope : Scope} {pos : Pos} {it acc : Value} {cenv : Env} : A.over (.compStart (.GeneratorExp elt gs scope pos) 0 it acc cenv) [] = A.deeper cenv := by
  first
  | rfl
  | (unfold Around.over Around.deeper
     simp [Code.envs, Code.isFrame, Code.env?, Code.guards, Code.isGuard, Code.weight, Code.frames, Code.isCreation, Code.isCaller, Code.cUnits, pushEnvs, pushGuards, envsOf, guardsOf, unitsOf, frameCount, marksOver])
end
section
variable {Xg : Cx} {A : Around} {elt tg iter : Expr} {ifs : List Expr} {scope : Scope} {pos : Pos} {a it : Addr} {g : Nat} {go : Obj} {PX : Value → Shared → Prop} {fp : List Addr} {tn : Nat → Heap → Prop} {J : It} {gt : TG} {tt : TT} {te : TE} {vs : List Nat} {σ : L2.St} {K : Cons} {Dn : Heap → Hp → Prop} {Wi : Nat → Nat → Heap → Hp → Prop} {Cn : List Addr}
/-- what is fixed while one generator is drawn -/
structure GenFix (Xg : Cx) (A : Around) (elt tg : Expr) (ifs : List Expr) (a it : Addr) (g : Nat) (go : Obj) (PX : Value → Shared → Prop) (fp : List Addr) (tn : Nat → Heap → Prop) (J : It) (gt : TG) (tt : TT) (te : TE) : Prop where
  cA : Xg.A = A.deeper Xg.env
  calm : Xg.calm = true
  co : Xg.env.scope.isCoroutine = false
  xe : Xg.xe = fun e s' => wpAny (model Xg.prog Xg.w) (A.deeper Xg.env) (leaving Xg.env e) (fun _ s'' => s''.heap.get? a = some go ∧ NoStopH (model Xg.prog Xg.w) s''.heap e ∧ PX e s'') (fun _ _ => False) s'
  turn : Turn Xg.prog Xg.w Xg.K tg J fp it tn
  ex : Xg.ex = fp
  pn : Xg.pn = [(a, go)]
  ane : a ∉ fp
  gen : ∀ h : Heap, h.get? a = some go → h.IsGen a g
  pg : PG Xg tg gt
  pt : PTs Xg ifs tt
  pe : PE Xg elt te
theorem seg_xe (F : GenFix Xg A elt tg ifs a it g go PX fp tn J gt tt te) {n : Nat} {s₀ s' : Shared} {c : Code} (hc : A.over c [] = A.deeper Xg.env) {e : Value} (h : Xg.xe e s') : Seg (model Xg.prog Xg.w) A (gR Xg Cn σ Dn a g PX) (gY Xg Cn K) n s₀ c ((leaving Xg.env e).bind fun _ => .raise e) [] s' := by
  rw [F.xe] at h
  refine seg_bind ?_
  rw [hc]
  exact wpAny_mono h (fun _ s'' q => seg_end (.error e) (.inr ⟨e, rfl, F.gen _ q.1, q.2⟩)) fun _ _ z => z.elim
theorem _root_.L2.Inv.priv {X : Cx} {pf : List (Addr × Obj)} {σ : L2.St} {H : Hp} {s s₀ : Shared} {h0 : Heap} (I : Inv X pf σ H s) (p : Priv X Cn H s) : Inv X (pf ++ pinsAt Cn s.heap) σ H s :=
  I.pins_of fun q hq => (List.mem_append.mp hq).elim (fun z => I.pin q (List.mem_append_right _ z)) fun z => by
    obtain ⟨hb, e⟩ := of_pinsAt z
    obtain ⟨⟨o, e', d⟩, n, f1, f2, _⟩ := p q.1 hb
    rw [e] at e'; cases e'
    exact ⟨e, n, f1, f2, d⟩
theorem priv_of {X : Cx} {pf : List (Addr × Obj)} {σ : L2.St} {H H' : Hp} {s s' : Shared} (p : Priv X Cn H s) (I : Inv X pf σ H' s') (hp : ∀ q ∈ pinsAt Cn s.heap, q ∈ pf) : Priv X Cn H' s' ∧ Same Cn s.heap s'.heap := by
  refine ⟨fun S hS => ?_, fun S hS => ?_⟩
  · obtain ⟨⟨o, e, d⟩, n, f1, f2⟩ := p S hS
    obtain ⟨e', n', _⟩ := I.pin (S, o) (List.mem_append_right _ (hp _ (mem_pinsAt hS e)))
    exact ⟨⟨o, e', d⟩, n', f1, f2⟩
  · obtain ⟨⟨o, e, d⟩, n, f1, f2⟩ := p S hS
    obtain ⟨e', n', _⟩ := I.pin (S, o) (List.mem_append_right _ (hp _ (mem_pinsAt hS e)))
    rw [e, e']
theorem Same.trans {h1 h2 h3 : Heap} (a : Same Cn h1 h2) (b : Same Cn h2 h3) : Same Cn h1 h3 := fun S hS => (b S hS).trans (a S hS)
theorem seg_gen (F : GenFix Xg A elt tg ifs a it g go PX fp tn J gt tt te) (hT : GTurn J gt tt te vs σ K Dn Wi) (hCf : ∀ S ∈ Cn, S ∉ fp) :
    ∀ (m n i : Nat) (s₀ s : Shared) (H : Hp), m + 1 ≤ n → Inv Xg [] (wipe σ vs) H s → Priv Xg Cn H s → Same Cn s₀.heap s.heap → tn i s.heap → (∀ b ∈ fp, H b = none) → Wi i m s₀.heap H →
      Seg (model Xg.prog Xg.w) A (gR Xg Cn (wipe σ vs) Dn a g PX) (gY Xg Cn K) n s₀ (.compLoop (.GeneratorExp elt [⟨tg, iter, ifs, 0⟩] scope pos) 0 (.ref it) .none Xg.env)
        ((model Xg.prog Xg.w).den (.compLoop (.GeneratorExp elt [⟨tg, iter, ifs, 0⟩] scope pos) 0 (.ref it) .none Xg.env)) [] s := by
  have stat : ∀ {σ' : L2.St} {H' : Hp} {s' : Shared} {h0 : Heap}, Inv Xg (pinsAt Cn h0) σ' H' s' → (∀ b ∈ fp, H' b = none) → ∀ b ∈ fp, FpOk Xg (pinsAt Cn h0) H' b := fun {σ' H' s' h0} I' hn b hb =>
    ⟨hn b hb, (I'.ok.exf b (F.ex ▸ hb)).1, I'.ok.exfs b (F.ex ▸ hb), .inl (F.ex ▸ hb), fun x c e => (I'.ok.exf b (F.ex ▸ hb)).2 x c e, fun p hp => by
      rcases List.mem_append.mp hp with hp | hp
      · rw [F.pn] at hp
        have : p = (a, go) := by simpa using hp
        rw [this]
        exact fun z => F.ane (by rw [show a = b from z]; exact hb)
      · exact fun z => hCf p.1 (of_pinsAt hp).1 (by rw [z]; exact hb)⟩
  intro m
  induction m using Nat.strongRecOn with
  | _ m ih =>
    intro n i s₀ s H hmn I0 pv0 sm0 st nf w
    have I : Inv Xg (pinsAt Cn s.heap) (wipe σ vs) H s := I0.priv (s₀ := s) (h0 := s.heap) pv0
    have hov : A.over (.compLoop (.GeneratorExp elt [⟨tg, iter, ifs, 0⟩] scope pos) 0 (.ref it) .none Xg.env) [] = Xg.A := by rw [over_loop, F.cA]
    have xs : ∀ {e : Value} {s' : Shared} {n' : Nat} {s₀' : Shared}, Xg.xe e s' → Seg (model Xg.prog Xg.w) A (gR Xg Cn (wipe σ vs) Dn a g PX) (gY Xg Cn K) n' s₀' (.compLoop (.GeneratorExp elt [⟨tg, iter, ifs, 0⟩] scope pos) 0 (.ref it) .none Xg.env) ((leaving Xg.env e).bind fun _ => .raise e) [] s' :=
      fun h => seg_xe F over_loop h
    show Seg _ A _ _ _ s₀ _ ((compTurn (.GeneratorExp elt [⟨tg, iter, ifs, 0⟩] scope pos) 0 (.ref it) .none Xg.env).onRaise (leaving Xg.env)) [] s
    rw [compTurn_gen, Sem.onRaise_eq_wrap]
    refine seg_bind_wrap (wpAny_standAt ?_)
    rcases hT i m s₀.heap H w with ⟨stop, dn⟩ | ⟨go', Nx, hNx, step⟩
    · have td := F.turn.done Xg rfl rfl rfl F.calm i _ s _ H (fun _ _ => False) I (stat I nf) st stop
      refine seg_bind_wrap ?_
      rw [hov]
      refine wpAny_mono td (fun r s1 ⟨hr, I1⟩ => ?_) fun _ _ z => z.elim
      subst hr
      obtain ⟨pv1, sm1⟩ := priv_of pv0 I1 fun _ z => z
      exact seg_end (.ok .next) (.inl ⟨rfl, H, I1.pins_of (fun _ z => absurd z List.not_mem_nil), pv1, sm0.trans sm1, dn⟩)
    · have ti := F.turn.item Xg rfl rfl rfl F.calm i _ s _ H (fun _ _ => False) I (stat I nf) st go'
      refine seg_bind_wrap ?_
      rw [hov]
      refine wpAny_mono ti (fun r s1 ⟨u, hr, h1⟩ => ?_) fun _ _ z => z.elim
      subst hr
      dsimp only
      refine seg_bind_wrap ?_
      rw [hov]
      refine wpAny_mono h1 (fun _ s2 ⟨x, H2, I2, r2, y2, st2, n2⟩ => ?_) fun _ _ z => z.elim
      have I2' := I2.pinned (stat I2 n2) (F.turn.obj _ _ st2)
      refine seg_bind_wrap ?_
      rw [hov]
      refine wpAny_mono (F.pg.run _ s2 _ H2 x u _ I2' r2 (step x H2 y2)) (fun _ s3 ⟨σ3, H3, I3, hw3, q3⟩ => ?_) fun _ _ z => xs z
      refine seg_bind_wrap ?_
      rw [hov]
      refine wpAny_mono (F.pt.run _ s3 σ3 H3 _ I3 q3) (fun b s4 ⟨H4, I4, q4⟩ => ?_) fun _ _ z => xs z
      -- the turn's end
      have hl : (wipe σ vs).length = σ3.length := by rw [← hw3, wipe_length]
      have fin : ∀ {s' s₀' : Shared} {H' : Hp} {n' : Nat} {pf : List (Addr × Obj)}, m ≤ n' → Inv Xg (pf ++ pinsAt fp s2.heap) σ3 H' s' → Priv Xg Cn H' s' → Same Cn s₀'.heap s'.heap → Nx s₀'.heap H' →
          Seg (model Xg.prog Xg.w) A (gR Xg Cn (wipe σ vs) Dn a g PX) (gY Xg Cn K) n' s₀' (.compLoop (.GeneratorExp elt [⟨tg, iter, ifs, 0⟩] scope pos) 0 (.ref it) .none Xg.env) (.pure (.again (.compLoop (.GeneratorExp elt [⟨tg, iter, ifs, 0⟩] scope pos) 0 (.ref it) .none Xg.env))) [] s' := fun {s' s₀' H' n' pf} hn' I' pv sm nx => by
        obtain ⟨m', hm, w'⟩ := hNx _ H' nx
        have pin' : ∀ b ∈ fp, ∀ o, s2.heap.get? b = some o → s'.heap.get? b = some o ∧ H' b = none := fun b hb o e =>
          let z := I'.pin (b, o) (List.mem_append_right _ (List.mem_append_right _ (mem_pinsAt hb e)))
          ⟨z.1, z.2.1⟩
        refine seg_again rfl (ih m' hm n' (i + 1) s₀' s' H' (by omega) ((I'.pins_of (fun _ z => absurd z List.not_mem_nil)).weak hl (fun j v e => ?_)) pv sm (F.turn.keep _ _ _ st2 fun b hb o e => (pin' b hb o e).1) (fun b hb => ?_) w')
        · rw [← hw3] at e
          exact (wipe_some e).1
        · obtain ⟨o, e, _⟩ := F.turn.obj _ _ st2 b hb
          exact (pin' b hb o e).2
      cases b with
      | false =>
        simp only [Bool.false_eq_true, if_false] at q4 ⊢
        obtain ⟨pv4, sm4⟩ := priv_of pv0 I4 fun q hq => List.mem_append_left _ hq
        exact fin (by omega) I4 pv4 (sm0.trans sm4) q4
      | true =>
        simp only [if_true] at q4 ⊢
        have hy : ∀ v, yieldOut Xg.env v = yieldValue v := fun v => by simp only [yieldOut, F.co, Bool.false_eq_true, if_false]
        simp only [hy]
        rw [Sem.bind_eq_wrap', Sem.bind_eq_wrap', Sem.wrap_wrap, Sem.wrap_wrap]
        obtain ⟨n', rfl⟩ : ∃ n', n = n' + 1 := ⟨n - 1, by omega⟩
        refine seg_wrap ?_
        rw [hov]
        refine wpAny_mono (F.pe.run _ s4 σ3 H4 _ I4 q4) (fun yv s5 ⟨y, H5, I5, r5, q5⟩ => ?_) fun _ _ z => xs z
        obtain ⟨pv5, sm5⟩ := priv_of pv0 I5 fun q hq => List.mem_append_left _ hq
        have I5' : Inv Xg ([] ++ pinsAt fp s2.heap) σ3 H5 s5 := I5.pins_of fun p hp => I5.pin p (List.mem_append_right _ (List.mem_append_right _ hp))
        refine seg_at (seg_yield rfl rfl rfl ⟨y, _, σ3, H5, Nx, r5, fun p hp hC => hCf p.1 hC (of_pinsAt ((List.nil_append _) ▸ hp)).1, I5', pv5, sm0.trans sm5, q5, fun s'' H'' I'' pv'' nx => ?_⟩)
        exact fin (by omega) I'' pv'' (fun _ _ => rfl) nx
theorem seg_genS (F : GenFix Xg A elt tg ifs a it g go PX fp tn J gt tt te) (hT : GTurn J gt tt te vs σ K Dn Wi) (hCf : ∀ S ∈ Cn, S ∉ fp) {m n : Nat} {s₀ s : Shared} {H : Hp} (hn : m + 1 ≤ n) (I : Inv Xg [] (wipe σ vs) H s) (pv : Priv Xg Cn H s) (sm : Same Cn s₀.heap s.heap) (st : tn 0 s.heap) (nf : ∀ b ∈ fp, H b = none) (w : Wi 0 m s₀.heap H) :
    Seg (model Xg.prog Xg.w) A (gR Xg Cn (wipe σ vs) Dn a g PX) (gY Xg Cn K) n s₀ (.compStart (.GeneratorExp elt [⟨tg, iter, ifs, 0⟩] scope pos) 0 (.ref it) .none Xg.env)
      ((model Xg.prog Xg.w).den (.compStart (.GeneratorExp elt [⟨tg, iter, ifs, 0⟩] scope pos) 0 (.ref it) .none Xg.env)) [] s := by
  have loop := seg_gen F hT hCf (iter := iter) (scope := scope) (pos := pos) m n 0 s₀ s H hn I pv sm st nf w
  show Seg _ A _ _ _ s₀ _ ((compStart (.GeneratorExp elt [⟨tg, iter, ifs, 0⟩] scope pos) 0 (.ref it) .none Xg.env).onRaise (leaving Xg.env)) [] s
  unfold compStart
  rw [Sem.onRaise_eq_wrap]
  show Seg _ A _ _ _ s₀ _ ((ask >>= _).wrap _ _ _ _) [] s
  refine seg_bind_wrap (wpAny_askSetting ?_)
  split
  · exact seg_again rfl loop
  · first
      | exact seg_bind_wrap (wpAny_rule (seg_bind_wrap (wpAny_standAt (seg_bind_wrap (F.turn.self _ 0 s _ _ st (seg_again rfl loop))))))
      | (refine seg_bind_wrap (wpAny_rule ?_); show Seg _ A _ _ _ s₀ _ ((standAt iter.pos >>= _).wrap _ _ _ _) [] s; exact seg_bind_wrap (wpAny_standAt (seg_bind_wrap (F.turn.self _ 0 s _ _ st (seg_again rfl loop)))))
end
end ML
/-! ML8 -/
set_option Elab.async false
set_option linter.all false
set_option autoImplicit false
set_option maxRecDepth 100000
set_option maxHeartbeats 4000000
/-! ML8: tables of code objects, a generator made -/
namespace ML
open PySem PySem.Spec PyProof.Rows L2

/-- the object at c is a code object whose table is at P -/
def CodeH (c P : Addr) : HO := .ext fun h => PySem.W.CodeHd h c P
theorem codeH_ne {c P : Addr} (ps : Array Value) : CodeH c P ≠ .tbl ps := fun z => by
  unfold CodeH at z
  cases z
/-- the tables of those who make lambdas, and these lambdas -/
structure LsS where
  tab : List (Addr × Str)
  lam : Nat → Option LamD
/-- a table whose codes have tables of their own -/
def Tab1 (Ls : LsS) (H : Hp) (P : Addr) : Prop := ∃ ps : Array Value, H P = some (.tbl ps) ∧ TriplesOk ps.toList ∧
  ∀ (pos : Pos) (cv : Value), codeAmong pos ps.toList = some cv → ∃ c' P', cv = .ref c' ∧ H c' = some (CodeH c' P') ∧ GxR.TabG H P' ∧ ∀ p ∈ Ls.tab, P' ≠ p.1
def TbAll (Gs : List Addr) (Ls : LsS) (H : Hp) : Prop := (∀ P ∈ Gs, Tab1 Ls H P) ∧ LamX.Tabs Ls.tab H
theorem ext_nt {φ : Heap → Prop} {u : HO} (h : (∃ xs, u = .lst xs) ∨ (∃ xs, u = .dK xs) ∨ (∃ xs, u = .dT xs) ∨ (∃ c d xs, u = .ins c d xs)) : (∀ ps, u ≠ .tbl ps) ∧ ∀ φ, u ≠ .ext φ := by
  rcases h with ⟨_, e⟩ | ⟨_, e⟩ | ⟨_, e⟩ | ⟨_, _, _, e⟩ <;> subst e <;> exact ⟨fun _ => (nomatch ·), fun _ => (nomatch ·)⟩
theorem tbAll_upd {Gs : List Addr} {Ls : LsS} (H : Hp) (a : Addr) (o : HO) (h : TbAll Gs Ls H)
    (q : H a = none ∨ (∃ xs, H a = some (.lst xs)) ∨ (∃ xs, H a = some (.dK xs)) ∨ (∃ xs, H a = some (.dT xs)) ∨ (∃ c d xs, H a = some (.ins c d xs))) : TbAll Gs Ls (upd H a o) := by
  have k : ∀ b u, H b = some u → ((∃ ps, u = .tbl ps) ∨ ∃ φ, u = .ext φ) → upd H a o b = some u := fun b u e z => by
    rw [upd_ne]
    · exact e
    · intro z2
      rw [z2] at e
      rcases q with q | ⟨_, q⟩ | ⟨_, q⟩ | ⟨_, q⟩ | ⟨_, _, _, q⟩ <;> rw [e] at q
      · cases q
      all_goals (rcases z with ⟨_, z⟩ | ⟨_, z⟩ <;> rw [z] at q <;> cases q)
  refine ⟨fun P hP => ?_, fun p hp => ?_⟩
  · obtain ⟨ps, e, t, c⟩ := h.1 P hP
    refine ⟨ps, k _ _ e (.inl ⟨_, rfl⟩), t, fun pos cv hc => ?_⟩
    obtain ⟨c', P', e1, e2, ⟨ps', e3, t3⟩, e4⟩ := c pos cv hc
    exact ⟨c', P', e1, k _ _ e2 (.inr ⟨_, rfl⟩), ⟨ps', k _ _ e3 (.inl ⟨_, rfl⟩), t3⟩, e4⟩
  · obtain ⟨ps, e, t, c⟩ := h.2 p hp
    refine ⟨ps, k _ _ e (.inl ⟨_, rfl⟩), t, fun pos cv hc => ?_⟩
    obtain ⟨c', e1, e2⟩ := c pos cv hc
    exact ⟨c', e1, k _ _ e2 (.inr ⟨_, rfl⟩)⟩
def tbs (Gs : List Addr) (Ls : LsS) : TbS := ⟨TbAll Gs Ls, tbAll_upd, Ls.lam⟩

/-- the table at P has got one more code object -/
structure Grow (H H' : Hp) (P : Addr) (ps : Array Value) (pos : Pos) (c' P' : Addr) : Prop where
  old : H P = some (.tbl ps)
  ok : TriplesOk ps.toList
  new : H' P = some (.tbl (ps ++ #[rawInt pos.line, rawInt pos.col, .ref c']))
  nc : H c' = none
  nP : H P' = none
  cc : H' c' = some (CodeH c' P')
  cP : H' P' = some (.tbl #[])
  rest : ∀ b, b ≠ P → b ≠ c' → b ≠ P' → H' b = H b
section
variable {H H' : Hp} {P : Addr} {ps : Array Value} {pos : Pos} {c' P' : Addr} {Gs : List Addr} {Ls : LsS}
theorem Grow.at (g : Grow H H' P ps pos c' P') {b : Addr} {u : HO} (e : H b = some u) (n : ∀ qs, u ≠ .tbl qs) : H' b = some u := by
  rw [g.rest b (fun z => by rw [z, g.old] at e; exact n ps (Option.some.inj e).symm) (ne_of_none e g.nc) (ne_of_none e g.nP)]
  exact e
theorem Grow.tab (g : Grow H H' P ps pos c' P') {b : Addr} (h : GxR.TabG H b) : GxR.TabG H' b := by
  obtain ⟨qs, e, t⟩ := h
  by_cases hb : b = P
  · subst hb
    rw [g.old] at e; cases e
    refine ⟨_, g.new, ?_⟩
    have eL : (ps ++ #[rawInt pos.line, rawInt pos.col, .ref c']).toList = ps.toList ++ [rawInt pos.line, rawInt pos.col, .ref c'] := by simp
    rw [eL]; exact PySem.TriplesOk_snoc _ _ _ _ t
  · exact ⟨qs, by rw [g.rest b hb (ne_of_none e g.nc) (ne_of_none e g.nP)]; exact e, t⟩
theorem Grow.tb (g : Grow H H' P ps pos c' P') (h : TbAll Gs Ls H) (hP : ∀ p ∈ Ls.tab, P ≠ p.1) : TbAll Gs Ls H' := by
  have nL : ∀ p ∈ Ls.tab, P' ≠ p.1 := fun p hp z => by
    obtain ⟨qs, e, _⟩ := h.2 p hp
    rw [← z, g.nP] at e; cases e
  refine ⟨fun Q hQ => ?_, fun p hp => ?_⟩
  · obtain ⟨qs, e, t, c⟩ := h.1 Q hQ
    have old : ∀ (p' : Pos) (cv : Value), codeAmong p' qs.toList = some cv → ∃ c' P', cv = .ref c' ∧ H' c' = some (CodeH c' P') ∧ GxR.TabG H' P' ∧ ∀ p ∈ Ls.tab, P' ≠ p.1 := fun p' cv hc => by
      obtain ⟨c2, P2, e1, e2, e3, e4⟩ := c p' cv hc
      exact ⟨c2, P2, e1, g.at e2 codeH_ne, g.tab e3, e4⟩
    by_cases hb : Q = P
    · subst hb
      rw [g.old] at e; cases e
      have eL : (ps ++ #[rawInt pos.line, rawInt pos.col, .ref c']).toList = ps.toList ++ [rawInt pos.line, rawInt pos.col, .ref c'] := by simp
      refine ⟨_, g.new, by rw [eL]; exact PySem.TriplesOk_snoc _ _ _ _ t, fun p' cv hcv => ?_⟩
      rw [eL] at hcv
      rcases LamX.among_app _ t hcv with z | z
      · exact old p' cv z
      · exact ⟨c', P', z, g.cc, ⟨#[], g.cP, True.intro⟩, nL⟩
    · exact ⟨qs, by rw [g.rest Q hb (ne_of_none e g.nc) (ne_of_none e g.nP)]; exact e, t, old⟩
  · obtain ⟨qs, e, t, c⟩ := h.2 p hp
    refine ⟨qs, by rw [g.rest p.1 (fun z => hP p hp z.symm) (ne_of_none e g.nc) (ne_of_none e g.nP)]; exact e, t, fun p' cv hc => ?_⟩
    obtain ⟨c2, e1, e2⟩ := c p' cv hc
    exact ⟨c2, e1, g.at e2 LamX.codeO_ne⟩
theorem Grow.keep (g : Grow H H' P ps pos c' P') {b : Addr} {u : HO} (e : H b = some u) : Kt u (H' b) := by
  by_cases hb : b = P
  · subst hb
    rw [g.old] at e; cases e
    exact .inr ⟨ps, _, rfl, g.new⟩
  · exact .inl (by rw [g.rest b hb (ne_of_none e g.nc) (ne_of_none e g.nP)]; exact e)
end
/-- one more code object, or none -/
def GrowQ (Ls : LsS) (H H' : Hp) : Prop := H' = H ∨ ∃ P ps pos c' P', Grow H H' P ps pos c' P' ∧ ∀ p ∈ Ls.tab, P ≠ p.1
section
variable {Gs : List Addr} {Ls : LsS} {H H' : Hp} {K : PySem.W.Frag} {mg : Str → Option Value} {G : Gh} {S : ES} {σ : L2.St}
abbrev scT (K : PySem.W.Frag) (mg : Str → Option Value) (Gs : List Addr) (Ls : LsS) : Sc := ⟨K, mg, (tbs Gs Ls).Tb, (tbs Gs Ls).tbu, Ls.lam⟩
theorem GrowQ.le (q : GrowQ Ls H H') (G : Gh) : Le G H G H' := by
  rcases q with q | ⟨P, ps, pos, c', P', g, _⟩
  · subst q; exact Le.refl _ _
  · exact ⟨⟨[], by simp⟩, fun _ h => h, rfl, fun a u _ e => .inl (g.keep e), fun a u _ e => g.keep e⟩
theorem GrowQ.mut (q : GrowQ Ls H H') {b : Addr} {u : HO} (e : H b = some u) (m : ∀ ps, u ≠ .tbl ps) : H' b = some u := by
  rcases q with q | ⟨P, ps, pos, c', P', g, _⟩
  · subst q; exact e
  · exact g.at e m
theorem GrowQ.srel (q : GrowQ Ls H H') (r : SRel (scT K mg Gs Ls) S σ H G) : SRel (scT K mg Gs Ls) S σ H' G := by
  have l := q.le G
  have ht : (scT K mg Gs Ls).Tb H' := by
    rcases q with q | ⟨P, ps, pos, c', P', g, hP⟩
    · subst q; exact r.hr.tb
    · exact g.tb r.hr.tb hP
  have there : ∀ b u, H b = some u → ∃ u', H' b = some u' := fun b u e => by
    rcases q with q | ⟨P, ps, pos, c', P', g, hP⟩
    · subst q; exact ⟨u, e⟩
    · rcases g.keep e with z | ⟨_, _, _, z⟩
      · exact ⟨_, z⟩
      · exact ⟨_, z⟩
  refine ⟨⟨r.hr.len, r.hr.nd, r.hr.nf, r.hr.fp, fun a z => ?_, fun n o e => ?_, ht, fun a z => let ⟨u, e, m⟩ := r.hr.pm a z; ⟨u, q.mut e m.nt, m⟩⟩, r.len, fun i => ?_, r.dis⟩
  · obtain ⟨u, e⟩ := r.hr.tr a z
    exact there a u e
  · obtain ⟨a, u, e1, e2, e3⟩ := r.hr.obj n o e
    exact ⟨a, u, e1, q.mut e2 e3.mut.nt, e3.mono l⟩
  · have z := r.slot i
    unfold SlRel at z ⊢
    split at z
    · obtain ⟨y, e, z⟩ := z; exact ⟨y, e, z.mono l⟩
    · obtain ⟨a, u, e, e2, o, n⟩ := z; exact ⟨a, u, e, q.mut e2 o.mut.nt, o.mono l, n⟩
    · exact True.intro
end

section
variable {X : Cx} {pins : List (Addr × Obj)} {σ : L2.St} {H : Hp} {s : Shared}
theorem among_more {p : Pos} {cv : Value} {more : List Value} (l : List Value) (h : TriplesOk l) (hc : codeAmong p l = some cv) : codeAmong p (l ++ more) = some cv := by
  fun_induction TriplesOk l with
  | case1 => simp [codeAmong] at hc
  | case2 a t b u x rest ih =>
    simp only [List.cons_append, codeAmong] at hc ⊢
    split at hc
    · rename_i q
      rw [if_pos q]; exact hc
    · rename_i q
      rw [if_neg q]; exact ih h hc
  | case3 l h1 h2 => exact h.elim
/-- the running code's own code object and its table -/
def Code0 (X : Cx) (Gs : List Addr) (Ls : LsS) : Prop := ∀ (pins : List (Addr × Obj)) (σ : L2.St) (H : Hp) (s : Shared), Inv X pins σ H s → TbAll Gs Ls H → ∃ c P, X.env.code = .ref c ∧ PySem.W.CodeHd s.heap c P ∧ GxR.TabG H P ∧ ∀ p ∈ Ls.tab, P ≠ p.1
def Code1 (X : Cx) (Gs : List Addr) (Ls : LsS) : Prop := ∃ c P, X.env.code = .ref c ∧ PySem.W.CodeHd X.base c P ∧ P ∈ Gs ∧ ∀ p ∈ Ls.tab, P ≠ p.1
theorem Code1.c0 {Gs : List Addr} {Ls : LsS} (h : Code1 X Gs Ls) : Code0 X Gs Ls := fun pins σ H s I t => by
  obtain ⟨c, P, e, hd, hP, hL⟩ := h
  obtain ⟨ps, e1, e2, _⟩ := t.1 P hP
  exact ⟨c, P, e, hd.keeps I.bk, ⟨ps, e1, e2⟩, hL⟩
/-- the code object of a generator expression, as it was found or made -/
def Code2 (X : Cx) (H : Hp) (code : Value) : Prop := ∃ c P ps pos, X.env.code = .ref c ∧ (∀ P1, PySem.W.CodeHd X.base c P1 → P = P1) ∧ H P = some (.tbl ps) ∧ TriplesOk ps.toList ∧ codeAmong pos ps.toList = some code
theorem codeHd_fun {h h' : Heap} {c P P1 : Addr} (a : PySem.W.CodeHd h c P) (b : PySem.W.CodeHd h' c P1) (k : ∀ b o, h'.get? b = some o → h.get? b = some o) : P = P1 := by
  have b' := b.keeps k
  unfold PySem.W.CodeHd at a b'
  obtain ⟨o, vs, file, tf, flags, tg, inF, text, tt, ho, _, hd, h1, h2, _⟩ := a
  obtain ⟨o', vs', file', tf', flags', tg', inF', text', tt', ho', _, hd', h1', h2', _⟩ := b'
  rw [ho] at ho'; cases ho'
  rw [hd] at hd'; cases hd'
  first
  | (rw [h1] at h1'; cases h1'; rfl)
  | (rw [h2] at h2'; cases h2'; rfl)
theorem code_sub {A : Around} {scope : Scope} {cenv : Env} {fp : List Addr} {pn : List (Addr × Obj)} {xe : Value → Shared → Prop} {Gs : List Addr} {Ls : LsS} {H4 : Hp} {s4 : Shared} (h1 : Code1 X Gs Ls) (h2 : Code2 X H4 cenv.code) : Code0 (gCx X A s4 H4 scope cenv fp pn xe) Gs Ls := fun pins σ H s I t => by
  obtain ⟨c, P, e, hd, hP, hL⟩ := h1
  obtain ⟨c2, P2, ps, pos, e2, fn, eP, ht, hc⟩ := h2
  rw [e] at e2; cases e2
  have := fn P hd
  subst this
  obtain ⟨more, em⟩ := I.base.tbls P2 ps eP
  obtain ⟨qs, q1, q2, q3⟩ := t.1 P2 hP
  rw [em] at q1; cases q1
  obtain ⟨c', P', e1, e2, e3, e4⟩ := q3 pos cenv.code (by rw [Array.toList_append]; exact among_more _ ht hc)
  refine ⟨c', P', e1, ?_, e3, e4⟩
  obtain ⟨φ, _⟩ := I.hok c' _ e2
  exact φ
end

section
variable {X : Cx} {pins : List (Addr × Obj)} {σ : L2.St} {H : Hp} {s : Shared}
/-- the table's object is written, the code object at c' and its table at P' are new and known from now on; all else is kept -/
theorem inv_code {P c' P' : Addr} {pos : Pos} {ps : Array Value} {h' : Heap} {t' : Nat} (I : Inv X pins σ H s) (hP : H P = some (.tbl ps)) (ht : TriplesOk ps.toList) (k : ∀ b o, b ≠ P → s.heap.get? b = some o → h'.get? b = some o)
    (hm : h'.get? P = some { cls := .none, data := .fields (ps ++ #[rawInt pos.line, rawInt pos.col, .ref c']) }) (hc : s.heap.objs.size ≤ c') (hP' : s.heap.objs.size ≤ P') (cd : PySem.W.CodeHd h' c' P') (tb : h'.get? P' = some { cls := .none, data := .fields #[] }) :
    ∃ H', Grow H H' P ps pos c' P' ∧ Inv X pins σ H' { s with heap := h', toks := t' } := by
  have nC : H c' = none := I.hok.fresh hc
  have nP' : H P' = none := I.hok.fresh hP'
  have ncp : c' ≠ P' := by
    obtain ⟨o, vs, _, _, _, _, _, _, _, _, _, _, _, _, _, _, _, _, z⟩ := cd
    exact z
  have oc : ∃ o, h'.get? c' = some o := by
    obtain ⟨o, vs, _, _, _, _, _, _, _, ho, _⟩ := cd
    exact ⟨o, ho⟩
  have nPc : P ≠ c' := ne_of_none hP nC
  have nPP : P ≠ P' := ne_of_none hP nP'
  generalize hH : upd (upd (upd H P (.tbl (ps ++ #[rawInt pos.line, rawInt pos.col, .ref c']))) c' (CodeH c' P')) P' (.tbl #[]) = H'
  have at_ : ∀ b, b ≠ P → b ≠ c' → b ≠ P' → H' b = H b := fun b h1 h2 h3 => by rw [← hH, upd_ne h3, upd_ne h2, upd_ne h1]
  have atP : H' P = some (.tbl (ps ++ #[rawInt pos.line, rawInt pos.col, .ref c'])) := by rw [← hH, upd_ne nPP, upd_ne nPc, upd_same]
  have atC : H' c' = some (CodeH c' P') := by rw [← hH, upd_ne ncp, upd_same]
  have atP' : H' P' = some (.tbl #[]) := by rw [← hH, upd_same]
  refine ⟨H', ⟨hP, ht, atP, nC, nP', atC, atP', at_⟩, ?_⟩
  have nP : ∀ b u, H b = some u → (∀ q, u ≠ .tbl q) → b ≠ P := fun b u e q z => by
    rw [z, hP] at e
    exact q ps (Option.some.inj e).symm
  have nN : ∀ b, H b = none → b ≠ P := fun b e z => by
    rw [z, hP] at e
    cases e
  have lt' : ∀ b o, s.heap.get? b = some o → b ≠ c' ∧ b ≠ P' := fun b o e => ⟨fun z => by
    rw [z] at e
    exact Nat.lt_irrefl _ (Nat.lt_of_lt_of_le (Heap.lt_size e) hc), fun z => by
    rw [z] at e
    exact Nat.lt_irrefl _ (Nat.lt_of_lt_of_le (Heap.lt_size e) hP')⟩
  have sm : ∀ b u, H b = some u → b ≠ c' ∧ b ≠ P' := fun b u e => ⟨ne_of_none e nC, ne_of_none e nP'⟩
  refine I.step (g' := s.gens) (d' := s.drawn) (ch := []) (fun b hb => absurd hb (by simp)) (fun b o _ _ _ e n => k b o (nN b n) e) (fun b o _ _ _ e n => ⟨o.slots, k b o (nN b n) e⟩)
    (fun b o _ e n => by rw [at_ b (nN b n) (lt' b o e).1 (lt' b o e).2]; exact n) (fun b o _ e => ?_) (fun b xs e => by rw [at_ b (nP b _ e (fun q z => by cases z)) (sm b _ e).1 (sm b _ e).2]; exact e) (fun b o u e => by rw [at_ b (nP b _ e (fun q z => by cases z)) (sm b _ e).1 (sm b _ e).2]; exact e) (fun b qs e => ?_) (fun m hn => ?_) (fun b u e => ?_) I.bare
  · by_cases hb : b = P
    · rw [hb]
      exact ⟨_, hm⟩
    · exact ⟨o, k b o hb e⟩
  · by_cases hb : b = P
    · rw [hb, hP] at e
      cases e
      rw [hb, atP]
      exact ⟨_, rfl⟩
    · rw [at_ b hb (sm b _ e).1 (sm b _ e).2, e]
      exact ⟨#[], by simp⟩
  · obtain ⟨ob, es, ep, ho, r⟩ := hn
    exact ⟨ob, es, ep, k _ ob (nN _ I.free) ho, r⟩
  · by_cases hb : b = c'
    · rw [hb, atC] at e
      cases e
      rw [hb]
      exact ⟨cd, oc, fun h1 h2 x st => by
        obtain ⟨o, vs, file, tf, flags, tg, inF, text, tt, e, r⟩ := x
        exact ⟨o, vs, file, tf, flags, tg, inF, text, tt, st _ e, r⟩⟩
    · by_cases hb2 : b = P
      · rw [hb2, atP] at e
        cases e
        rw [hb2]
        exact hm
      · by_cases hb3 : b = P'
        · rw [hb3, atP'] at e
          cases e
          rw [hb3]
          exact tb
        · rw [at_ b hb2 hb hb3] at e
          refine (I.hok b u e).stay (fun d v hd q => k d v ?_ q) (fun d q => by rw [at_ d (nP d _ q (fun q z => by cases z)) (sm d _ q).1 (sm d _ q).2]; exact q) fun d xs q => by rw [at_ d (nP d _ q (fun q z => by cases z)) (sm d _ q).1 (sm d _ q).2]; exact q
          rcases hd with z | z
          · rw [z]
            exact hb2
          · exact nP d _ z (fun q z => by cases z)

/-- a generator stands ready: what one knows of it -/
structure GenAtS (X : Cx) (pins : List (Addr × Obj)) (σ : L2.St) (scope : Scope) (elt tg iter : Expr) (ifs : List Expr) (gpos : Pos) (vs : List Nat) (J : It) (H4 : Hp) (s4 : Shared) (it : Addr) (fp : List Addr) (tn : Nat → Heap → Prop) (a : Addr) (g : Nat) (go : Obj) (code : Value) (s5 : Shared) : Prop where
  inv : Inv X pins σ H4 s4
  turn : Turn X.prog X.w X.K tg J fp it tn
  fok : ∀ b ∈ fp, FpOk X pins H4 b
  lt : ∀ b ∈ fp, b < s4.heap.objs.size
  cod : Code2 X H4 code
  gInv : ∀ (A : Around) (xe : Value → Shared → Prop), A.frames = some X.stack → A.handled = none → Inv (gCx X A s4 H4 scope (gEnv scope (gCells X scope s4.heap.objs.size) s4.heap.objs.size code X.env) fp [(a, go)] xe) [] (wipe σ vs) H4 s5
  st : tn 0 s5.heap
  gen : ∀ h : Heap, h.get? a = some go → h.IsGen a g
  fresh : s5.gens[g]? = some (.fresh (.compStart (.GeneratorExp elt [⟨tg, iter, ifs, 0⟩] scope gpos) 0 (.ref it) .none (gEnv scope (gCells X scope s4.heap.objs.size) s4.heap.objs.size code X.env)))
  ane : a ∉ fp
theorem gen_new {Gs : List Addr} {Ls : LsS} {k : Nat} {elt tg iter : Expr} {ifs : List Expr} {scope : Scope} {gpos : Pos} {own : List (Str × Nat)} {wi : TI} {R : It → Hp → Prop} {Q' : Value → Shared → Prop}
    (hr : Room k X.A) (hb : ∃ P0, X.base.BuiltinsAt X.mg P0) (c0 : Code0 X Gs Ls) (hco : scope.isCoroutine = false) (h0 : scope.names.lookup (".0" : Str) = some NameKind.local) (ok : BlkOk X.N X.env.scope scope own) (hN : X.N.Nodup) (hi : PI X tg iter wi)
    (hs : ∀ v, genFold iter X.env v = pure v) (I : Inv X pins σ H s) (h : wi σ H fun J H1 => TbAll Gs Ls H1 ∧ ∀ H2, GrowQ Ls H1 H2 → R J H2)
    (hQ : ∀ J H4 s4 it fp tn a g go code s5, R J H4 → GenAtS X pins σ scope elt tg iter ifs gpos (own.map (·.2)) J H4 s4 it fp tn a g go code s5 → Q' (.ref a) s5) :
    wpAny (model X.prog X.w) X.A (eval (.GeneratorExp elt [⟨tg, iter, ifs, 0⟩] scope gpos) X.env) Q' X.xe s := by
  have hfree : ∀ y ∈ scope.names, y.2 = .free → ∃ c, X.env.cells.lookup y.1 = some c := fun y hy e => by
    rcases ok.free y hy e with k | k
    · exact I.ok.has _ (.inl k)
    · exact I.ok.has _ (.inr k)
  refine gen_make hco (closure_ok hfree) h0 ok.kind (by have := hr.dp; omega) (thn (hi.run pins s σ H _ I h) fun xv s1 h1 => thn h1 fun itv s2 h2 => ?_) hs
  obtain ⟨it, fp, tn, J, H2, rfl, I2, T, st2, f2, tb, q⟩ := h2
  refine ⟨I2.nolimit, ?_⟩
  obtain ⟨c, P, hcode, cd, ⟨ps, hP, ht⟩, hL⟩ := c0 pins σ H2 s2 I2 tb
  have hPs : s2.heap.get? P = some { cls := .none, data := .fields ps } := I2.hok P _ hP
  have uni : ∀ P1, PySem.W.CodeHd X.base c P1 → P = P1 := fun P1 h1 => codeHd_fun cd h1 I2.bk
  obtain ⟨P0, bm, ob, b1, b2, b3, b4, b5, b6, b7, b8⟩ := hb
  have lt2 : ∀ b ∈ fp, b < s2.heap.objs.size := fun b hb => by
    obtain ⟨o, e, _⟩ := T.obj _ _ st2 b hb
    exact Heap.lt_size e
  have cont : ∀ (code : Value) (h3 : Heap) (tk : Nat) (H3 : Hp), Inv X pins σ H3 { s2 with heap := h3, toks := tk } → GrowQ Ls H2 H3 → s2.heap.objs.size ≤ h3.objs.size → (∀ b o, b ≠ P → s2.heap.get? b = some o → h3.get? b = some o) → (∀ b, b < s2.heap.objs.size → H2 b = none → H3 b = none) → Code2 X H3 code →
      wpAny (model X.prog X.w) X.A (builtinsFor X.env.globals X.env.builtins) (fun bi s₄ => ∀ h', h'.Ns s₄.heap.objs.size (fun y => if y = ".0" then some (.ref it) else none) → Heap.SameBut s₄.heap.objs.size (pushCells (s₄.heap.push { cls := .type "frame", data := .dict #[] }) scope.names) h' →
          Q' (.ref h'.objs.size) { s₄ with
            gens := s₄.gens.push (.fresh (.compStart (.GeneratorExp elt [⟨tg, iter, ifs, 0⟩] scope gpos) 0 (.ref it) .none { scope, locals := s₄.heap.objs.size, globals := X.env.globals, cells := cellsFrom (s₄.heap.objs.size + 1) scope.names (cloFrom X.env.cells scope.names []), qual := X.env.qual ++ "<genexpr>.", func := none, code, frame := some s₄.heap.objs.size, builtins := bi })),
            toks := s₄.toks + 1 + 1 + 1,
            heap := h'.push { cls := .type "generator", data := .fields #[.int s₄.gens.size 0, .str "<genexpr>" (s₄.toks + 1), .str (X.env.qual ++ "<genexpr>") (s₄.toks + 1 + 1)] } }) X.xe { s2 with heap := h3, toks := tk } := by
    intro code h3 tk H3 I3 gq hsz hk nn c2
    refine wpAny_builtinsFor (m := X.mg) (by rw [I3.ok.glob]; exact I3.mod.glob.keeps I3.bk) b1 b2 (I3.bk _ _ b5) b6 b7 b8 ?_
    intro h' hn' hs'
    have szp : h3.objs.size + 1 ≤ h'.objs.size := by
      have h1 := hs'.1
      have h2 := pushCells_size scope.names (h3.push { cls := .type "frame", data := .dict #[] })
      rw [Heap.size_push] at h2
      show _ ≤ h'.objs.size
      rw [h1]
      exact h2
    have fok3 : ∀ b ∈ fp, FpOk X pins H3 b := fun b hb => ⟨nn b (lt2 b hb) (f2 b hb).1, (f2 b hb).2⟩
    have lt3 : ∀ b ∈ fp, b < h3.objs.size := fun b hb => Nat.lt_of_lt_of_le (lt2 b hb) hsz
    have fP : ∀ b ∈ fp, b ≠ P := fun b hb z => by
      have := (f2 b hb).1
      rw [z, hP] at this; cases this
    have ane : h'.objs.size ∉ fp := fun hm => by
      have h9 : (h'.objs.size : Nat) < h3.objs.size := lt3 _ hm
      omega
    generalize hgo : ({ cls := .type "generator", data := .fields #[.int s2.gens.size 0, .str "<genexpr>" (tk + 1), .str (X.env.qual ++ "<genexpr>") (tk + 1 + 1)] } : Obj) = go
    have gcls : go.cls = .type "generator" := by rw [← hgo]
    have gdat : go.data = .fields #[.int s2.gens.size 0, .str "<genexpr>" (tk + 1), .str (X.env.qual ++ "<genexpr>") (tk + 1 + 1)] := by rw [← hgo]
    have gsl : go.slots = #[] := by rw [← hgo]
    have hpush : (h'.push go).get? h'.objs.size = some go := by rw [← hgo]; exact Heap.get?_push_size _ rfl
    refine hQ J H3 _ it fp tn h'.objs.size s2.gens.size go code _ (q H3 gq) ⟨I3, T, fok3, lt3, c2, fun A xe hA hh => ?_, ?_, fun h e => ⟨go, _, _, e, gcls, gdat, gsl⟩, Array.getElem?_push_size .., ane⟩
    · refine gen_start I3 ok hN (fun b hb => ⟨fok3 b hb, lt3 b hb⟩) hA hh (fun b o e hne => ?_) (fun p hp => ?_) (hn'.push _) rfl (I3.bare.push rfl)
      · show (h'.push go).get? b = some o
        exact Heap.get?_push_of_some _ ((hs'.2 b hne).trans e)
      · have e : p = (h'.objs.size, go) := by simpa using hp
        subst e
        refine ⟨hpush, (show (h3.objs.size : Nat) < h'.objs.size by omega), fun v => by rw [gdat]; exact fun z => nomatch z⟩
    · refine T.keep _ _ _ st2 fun b hb o e => ?_
      show (h'.push go).get? b = some o
      exact Heap.get?_push_of_some _ ((hs'.2 b (Nat.ne_of_lt (lt3 b hb))).trans (pushCells_keeps _ _ _ _ (Heap.get?_push_of_some _ (hk b o (fP b hb) e))))
  cases hf : codeAmong gpos ps.toList with
  | none =>
    refine wpAny_genexprCodeX hcode (cd.code hPs ht) (cd.tab hPs) hf fun c' h' tk hx hge hlt hco' _ htab' hsub => ?_
    obtain ⟨P', hgeP, hcd', htb'⟩ := hsub
    obtain ⟨H3, gr, I3⟩ := inv_code (t' := tk) I2 hP ht (fun b o hb e => hx b o hb e) htab'.2 hge hgeP (PySem.W.CodeHd.of hcd' htb') htb'.2
    refine cont _ h' tk H3 I3 (.inr ⟨P, ps, gpos, c', P', gr, hL⟩) (Nat.le_trans hge (Nat.le_of_lt hlt)) (fun b o hb e => hx b o hb e) (fun b hb e => ?_) ⟨c, P, _, gpos, hcode, uni, gr.new, ?_, ?_⟩
    · rw [gr.rest b (fun z => by rw [z, hP] at e; cases e) (fun z => by rw [z] at hb; exact absurd hge (Nat.not_le.mpr hb)) (fun z => by rw [z] at hb; exact absurd hgeP (Nat.not_le.mpr hb))]
      exact e
    · have eL : (ps ++ #[rawInt gpos.line, rawInt gpos.col, .ref c']).toList = ps.toList ++ [rawInt gpos.line, rawInt gpos.col, .ref c'] := by simp
      rw [eL]; exact PySem.TriplesOk_snoc _ _ _ _ ht
    · have eL : (ps ++ #[rawInt gpos.line, rawInt gpos.col, .ref c']).toList = ps.toList ++ [rawInt gpos.line, rawInt gpos.col, .ref c'] := by simp
      rw [eL]; exact codeAmong_snoc _ ht hf
  | some cv =>
    refine wpAny_genexprCode_hit hcode (cd.code hPs ht) hf ?_
    exact cont cv s2.heap s2.toks H2 I2 (.inl rfl) (Nat.le_refl _) (fun b o _ e => e) (fun b _ e => e) ⟨c, P, ps, gpos, hcode, uni, hP, ht, hf⟩
end
end ML
/-! ML9 -/
set_option Elab.async false
set_option linter.all false
set_option autoImplicit false
set_option maxRecDepth 100000
set_option maxHeartbeats 4000000
/-! ML9: a generator drawn: one draw, and those who draw: tuple, sum, any, all -/
namespace ML
open PySem PySem.Spec PyProof.Rows L2

/-- a generator that can be drawn: n bounds the draws left, P: what must hold of the heaps -/
def GDr (Xg : Cx) (Cn : List Addr) (A : Around) (R : GenEnd) (Y : Protocol) (g : Nat) (n : Nat) (P : Heap → Hp → Prop) (H : Hp) (s : Shared) : Prop :=
  ∃ (pf : List (Addr × Obj)) (σ : L2.St) (gs : GenState), s.gens[g]? = some gs ∧ (∀ p ∈ pf, p.1 ∉ Cn) ∧ Inv Xg pf σ H s ∧ Priv Xg Cn H s ∧ P s.heap H ∧ ∀ s'' H'', Inv Xg pf σ H'' s'' → Priv Xg Cn H'' s'' → P s''.heap H'' → gs.Goes (model Xg.prog Xg.w) A.in1 R Y n (.send .none) s''
theorem _root_.L2.Inv.regen {X : Cx} {pins : List (Addr × Obj)} {σ : L2.St} {H : Hp} {s : Shared} {g' : Array GenState} (I : Inv X pins σ H s) (h : AllBare g') : Inv X pins σ H { s with gens := g' } :=
  ⟨I.ok, I.os, h, I.base, I.loc, I.cell, I.free, I.freeC, I.pin, I.hok, I.len⟩
theorem _root_.L2.Inv.setGen {X : Cx} {pins : List (Addr × Obj)} {σ : L2.St} {H : Hp} {s : Shared} {g : Nat} {x : GenState} (I : Inv X pins σ H s) (h : x.bare = true) : Inv X pins σ H (s.setGen g x) := I.regen (bare_setGen I.bare h)

/-- what one draw gives; h: the heap when it was asked for -/
def GNext (Xg : Cx) (Cn : List Addr) (A : Around) (R : GenEnd) (Y : Protocol) (g : Nat) (n : Nat) (σ0 : L2.St) (K : Cons) (Dn : Heap → Hp → Prop) (h : Heap) (r : Option Value) (s' : Shared) : Prop :=
  match r with
  | none => ∃ H', Inv Xg [] σ0 H' s' ∧ Priv Xg Cn H' s' ∧ Same Cn h s'.heap ∧ Dn h H'
  | some v => ∃ (y : V) (pf : List (Addr × Obj)) (σ2 : L2.St) (H' : Hp) (Nx : Heap → Hp → Prop), RelV y v ∧ (∀ p ∈ pf, p.1 ∉ Cn) ∧ Inv Xg pf σ2 H' s' ∧ Priv Xg Cn H' s' ∧ Same Cn h s'.heap ∧ K h y H' Nx ∧
      ∀ s'' H'', Inv Xg pf σ2 H'' s'' → Priv Xg Cn H'' s'' → Nx s''.heap H'' → s''.gens = s'.gens → 0 < n ∧ GDr Xg Cn A R Y g (n - 1) Nx H'' s''
section
variable {Xg : Cx} {Cn : List Addr} {A : Around} {elt tg iter : Expr} {ifs : List Expr} {scope : Scope} {pos : Pos} {a it : Addr} {g : Nat} {go : Obj} {PX : Value → Shared → Prop} {fp : List Addr} {tn : Nat → Heap → Prop} {J : It} {gt : TG} {tt : TT} {te : TE} {vs : List Nat} {σ : L2.St} {K : Cons} {Dn : Heap → Hp → Prop} {Wi : Nat → Nat → Heap → Hp → Prop} {P : Heap → Hp → Prop} {H : Hp} {s : Shared} {n : Nat}
theorem gen_next (F : GenFix Xg A.in1 elt tg ifs a it g go PX fp tn J gt tt te) (hh : A.handled = none) (hroom : A.depth < recursionLimit) (hX : ∀ e s₁ g', PX e s₁ → AllBare g' → PX e { s₁ with gens := g' }) (hXb : ∀ e s₁, PX e s₁ → AllBare s₁.gens)
    (hd : GDr Xg Cn A (gR Xg Cn σ Dn a g PX) (gY Xg Cn K) g n P H s) : wpAny (model Xg.prog Xg.w) A (pyNext (.ref a)) (GNext Xg Cn A (gR Xg Cn σ Dn a g PX) (gY Xg Cn K) g n σ K Dn s.heap) PX s := by
  obtain ⟨pf, σ1, gs, hgs, _, I, pv, hp, go'⟩ := hd
  have hpin : s.heap.get? a = some go := (I.pin (a, go) (List.mem_append_left _ (by rw [F.pn]; exact List.mem_cons_self))).1
  refine gen_pyNext (P := fun s₀ s₁ => ∃ H', Inv Xg [] σ H' s₁ ∧ Priv Xg Cn H' s₁ ∧ Same Cn s₀.heap s₁.heap ∧ Dn s₀.heap H') (PX := PX) (n := n) hh I.nolimit hroom (F.gen _ hpin) hgs (go' _ H (I.setGen rfl) pv hp) (fun v s₁ gs' hz hb hv => ?_) (fun s₁ hz hq h' hk => ?_) fun e s₁ h => hX e s₁ _ h (bare_setGen (hXb e s₁ h) rfl)
  · obtain ⟨y, pf2, σ2, H2, Nx, r2, np2, I2, pv2, sm2, k2, nx⟩ := hv
    refine ⟨y, pf2, σ2, H2, Nx, r2, np2, I2.setGen hb, pv2, sm2, k2, fun s'' H'' I'' pv'' nx'' hg'' => ?_⟩
    cases n with
    | zero => exact (nx s'' H'' I'' pv'' nx'').elim
    | succ m =>
      refine ⟨Nat.succ_pos m, pf2, σ2, gs', ?_, np2, I'', pv'', nx'', fun s3 H3 I3 pv3 nx3 => nx s3 H3 I3 pv3 nx3⟩
      rw [hg'']
      exact setGen_get hz
  · obtain ⟨H', I', pv', sm', d'⟩ := hq
    refine ⟨H', (I'.setGen (g := g) (x := .finished) rfl).kept (t' := (s₁.setGen g .finished).toks) hk, fun S hS => ?_, fun S hS => ?_, d'⟩
    · obtain ⟨⟨o, e, d⟩, r⟩ := pv' S hS
      exact ⟨⟨o, hk _ _ e, d⟩, r⟩
    · obtain ⟨⟨o, e, d⟩, r⟩ := pv' S hS
      exact (hk _ _ e).trans ((sm' S hS).symm.trans e).symm
end

/-! ### those who draw -/
section
variable {Xg : Cx} {Cn : List Addr} {Ag Ac : Around} {elt tg iter : Expr} {ifs : List Expr} {scope : Scope} {pos : Pos} {a it : Addr} {g : Nat} {go : Obj} {PX : Value → Shared → Prop} {fp : List Addr} {tn : Nat → Heap → Prop} {J : It} {gt : TG} {tt : TT} {te : TE} {σ : L2.St} {K : Cons} {Dn : Heap → Hp → Prop} {R : Result → Shared → Prop}
/-- what one draw is, for those who draw -/
def NextOk (Xg : Cx) (Cn : List Addr) (Ag Ac : Around) (a : Addr) (g : Nat) (go : Obj) (PX : Value → Shared → Prop) (σ : L2.St) (K : Cons) (Dn : Heap → Hp → Prop) : Prop :=
  ∀ n P H s, GDr Xg Cn Ag (gR Xg Cn σ Dn a g PX) (gY Xg Cn K) g n P H s → wpAny (model Xg.prog Xg.w) Ac (pyNext (.ref a)) (GNext Xg Cn Ag (gR Xg Cn σ Dn a g PX) (gY Xg Cn K) g n σ K Dn s.heap) PX s
theorem seq_set {pf : List (Addr × Obj)} {σ2 : L2.St} {H : Hp} {s : Shared} {S : Addr} {xs ys : List V} {f : Array Value → Array Value} {E : Value → Shared → Prop} {Q : Unit → Shared → Prop} {M : Model} {A : Around} (I : Inv Xg pf σ2 H s) (hS : H S = some (.lst xs))
    (hf : ∀ us : List Value, Vals xs us → ∃ vs : List Value, f us.toArray = vs.toArray ∧ Vals ys vs) (hz : ys.length ≤ sizeLine) (h : ∀ s', Inv Xg pf σ2 (upd H S (.lst ys)) s' → s'.gens = s.gens → s'.toks = s.toks → Q () s') : wpAny M A (updateSeq S f) Q E s := by
  obtain ⟨z, its, c, r, e⟩ := I.hok S _ hS
  obtain ⟨vs, hf, hv⟩ := hf its r
  have hl := r.length
  have hvl := hv.length
  refine wpAny_updateSeq e rfl (h { s with heap := s.heap.update S (Obj.mapSeq f) } (I.write (t' := s.toks) (by rw [hS]; trivial) (.inl rfl) (fun b u hb q => (Heap.get?_update_other _ _ (Ne.symm hb)).trans q) ⟨_, Heap.get?_update_self _ e rfl⟩ ⟨hz, vs, (if vs.toArray.size == its.toArray.size then c else c + 1), hv, ?_⟩) rfl rfl) ?_ ?_
  · rw [Heap.get?_update_self _ e rfl]
    simp only [Obj.mapSeq, hf]
  · rw [List.size_toArray]; omega
  · rw [hf, List.size_toArray]; omega
/-- S: a list that is known, filled with what comes -/
def kCol (S : Addr) : Cons := fun _ y H Nx => ∃ acc, H S = some (.lst acc) ∧ acc.length < sizeLine ∧ ∀ h', Nx h' (upd H S (.lst (acc ++ [y])))
theorem gl_extend {S : Addr} {res : Value} (hn : NextOk Xg [] Ag Ac.in1 a g go PX σ (kCol S) Dn) (hR : ∀ H' s' h, Inv Xg [] σ H' s' → Dn h H' → R (.ok (.ret res)) s') (hE : ∀ e s', PX e s' → R (.error e) s') :
    ∀ n P H s, GDr Xg [] Ag (gR Xg [] σ Dn a g PX) (gY Xg [] (kCol S)) g n P H s → codeAny (model Xg.prog Xg.w) Ac (.builtin "list.extend.loop" ⟨[.ref S, .ref a, res], []⟩) R s := by
  intro n
  induction n using Nat.strongRecOn with
  | _ n ih =>
    intro P H s hd
    refine codeAny_builtin F.entry_extend_loop ?_
    rw [Around.under_plainId F.plain_extend_loop _]
    show wpAny _ Ac.in1 (pyNext (.ref a) >>= _) _ _ s
    refine wpAny_bind (wpAny_mono (hn n P H s hd) (fun r s1 h => ?_) fun e s1 h => hE e s1 h)
    cases r with
    | none =>
      obtain ⟨H', I', _, _, d'⟩ := h
      exact wpAny_pure (hR H' s1 _ I' d')
    | some v =>
      obtain ⟨y, pf, σ2, H', Nx, ry, _, I', _, _, ⟨acc, hS, hz, nx⟩, cont⟩ := h
      show wpAny _ Ac.in1 (updateSeq S (·.push v) >>= _) _ _ _
      refine wpAny_bind (seq_set (ys := acc ++ [y]) I' hS (fun us hu => ⟨us ++ [v], by simp, hu.append (.cons ry .nil)⟩) (by rw [List.length_append]; exact hz) fun s2 I2 hg ht => ?_)
      obtain ⟨hpos, hd2⟩ := cont s2 _ I2 (fun _ z => absurd z List.not_mem_nil) (nx _) hg
      exact wpAny_pure ⟨plainId_quiet F.plain_extend_loop _, ih (n - 1) (by omega) _ _ _ hd2⟩

/-! any, all: Qs: what is wanted when it stops at an item -/
def kTest (tr : V → Hp → Option Bool) (stop : Bool) (Qs : Hp → Prop) : Cons := fun _ y H Nx => ∃ b, tr y H = some b ∧ if b = stop then Qs H else ∀ h', Nx h' H
def TruOk (Xg : Cx) (tr : V → Hp → Option Bool) : Prop := ∀ {A : Around} {pf : List (Addr × Obj)} {σ2 : L2.St} {H : Hp} {s : Shared} {y : V} {v : Value} {b : Bool} {Q : Bool → Shared → Prop} {E : Value → Shared → Prop}, A.handled = none → Inv Xg pf σ2 H s → RelV y v → tr y H = some b → Q b s → wpAny (model Xg.prog Xg.w) A (truthy v) Q E s
theorem gl_any {tr : V → Hp → Option Bool} {Qs : Hp → Prop} (hh : Ac.handled = none) (htr : TruOk Xg tr)
    (hn : NextOk Xg [] Ag Ac.in1 a g go PX σ (kTest tr true Qs) Dn) (hR : ∀ H' s' h, Inv Xg [] σ H' s' → Dn h H' → R (.ok (.ret (.bool false))) s') (hS : ∀ pf σ2 H' s', Inv Xg pf σ2 H' s' → Qs H' → R (.ok (.ret (.bool true))) s') (hE : ∀ e s', PX e s' → R (.error e) s') :
    ∀ n P H s, GDr Xg [] Ag (gR Xg [] σ Dn a g PX) (gY Xg [] (kTest tr true Qs)) g n P H s → codeAny (model Xg.prog Xg.w) Ac (.builtin "any.loop" ⟨[.ref a], []⟩) R s := by
  intro n
  induction n using Nat.strongRecOn with
  | _ n ih =>
    intro P H s hd
    refine codeAny_builtin F.entry_any_loop ?_
    rw [Around.under_plainId F.plain_any_loop _]
    show wpAny _ Ac.in1 (pyNext (.ref a) >>= _) _ _ s
    refine wpAny_bind (wpAny_mono (hn n P H s hd) (fun r s1 h => ?_) fun e s1 h => hE e s1 h)
    cases r with
    | none =>
      obtain ⟨H', I', _, _, d'⟩ := h
      exact wpAny_bind (wpAny_rule (wpAny_pure (hR H' s1 _ I' d')))
    | some v =>
      obtain ⟨y, pf, σ2, H', Nx, ry, _, I', _, _, ⟨b, hb, q⟩, cont⟩ := h
      refine wpAny_bind (wpAny_holding (htr hh I' ry hb ?_))
      refine wpAny_bind (wpAny_letGo ?_)
      cases b with
      | false =>
        simp only [Bool.false_eq_true, if_false] at q ⊢
        obtain ⟨hpos, hd2⟩ := cont s1 _ I' (fun _ z => absurd z List.not_mem_nil) (q _) rfl
        exact wpAny_pure ⟨plainId_quiet F.plain_any_loop _, ih (n - 1) (by omega) _ _ _ hd2⟩
      | true =>
        simp only [if_true] at q ⊢
        exact wpAny_bind (wpAny_rule (wpAny_pure (hS _ _ _ _ I' q)))
theorem gl_all {tr : V → Hp → Option Bool} {Qs : Hp → Prop} (hh : Ac.handled = none) (htr : TruOk Xg tr)
    (hn : NextOk Xg [] Ag Ac.in1 a g go PX σ (kTest tr false Qs) Dn) (hR : ∀ H' s' h, Inv Xg [] σ H' s' → Dn h H' → R (.ok (.ret (.bool true))) s') (hS : ∀ pf σ2 H' s', Inv Xg pf σ2 H' s' → Qs H' → R (.ok (.ret (.bool false))) s') (hE : ∀ e s', PX e s' → R (.error e) s') :
    ∀ n P H s, GDr Xg [] Ag (gR Xg [] σ Dn a g PX) (gY Xg [] (kTest tr false Qs)) g n P H s → codeAny (model Xg.prog Xg.w) Ac (.builtin "all.loop" ⟨[.ref a], []⟩) R s := by
  intro n
  induction n using Nat.strongRecOn with
  | _ n ih =>
    intro P H s hd
    refine codeAny_builtin F.entry_all_loop ?_
    rw [Around.under_plainId F.plain_all_loop _]
    show wpAny _ Ac.in1 (pyNext (.ref a) >>= _) _ _ s
    refine wpAny_bind (wpAny_mono (hn n P H s hd) (fun r s1 h => ?_) fun e s1 h => hE e s1 h)
    cases r with
    | none =>
      obtain ⟨H', I', _, _, d'⟩ := h
      exact wpAny_bind (wpAny_rule (wpAny_pure (hR H' s1 _ I' d')))
    | some v =>
      obtain ⟨y, pf, σ2, H', Nx, ry, _, I', _, _, ⟨b, hb, q⟩, cont⟩ := h
      refine wpAny_bind (wpAny_holding (htr hh I' ry hb ?_))
      refine wpAny_bind (wpAny_letGo ?_)
      cases b with
      | true =>
        simp only [Bool.true_eq_false, if_false, if_true] at q ⊢
        obtain ⟨hpos, hd2⟩ := cont s1 _ I' (fun _ z => absurd z List.not_mem_nil) (q _) rfl
        exact wpAny_pure ⟨plainId_quiet F.plain_all_loop _, ih (n - 1) (by omega) _ _ _ hd2⟩
      | false =>
        simp only [if_true, Bool.false_eq_true, if_false] at q ⊢
        exact wpAny_bind (wpAny_rule (wpAny_pure (hS _ _ _ _ I' q)))

/-! sum: S holds what there is so far -/
def HasV (S : Addr) (h : Heap) (ys : List V) : Prop := ∃ (vs : List Value) (c : Nat), Vals ys vs ∧ h.get? S = some { cls := .type "list", dict := none, data := .seq vs.toArray c, slots := #[] }
def toV : Value → V
  | .none => .non
  | .bool b => .bl b
  | .int i _ => .int i
  | .str x _ => .str x
  | .bytes b _ => .byt b
  | .float b _ => .flt b
  | .ref a => .ref a
  | .type n => .ty n
  | _ => .non
theorem relV_toV {y : V} {v : Value} (a : L2.RelV y v) : y = toV v := by
  cases y with
  | non => cases a; rfl
  | bl b => cases a; rfl
  | int i => obtain ⟨t, rfl⟩ := a; rfl
  | str x => obtain ⟨t, rfl⟩ := a; rfl
  | byt b => obtain ⟨t, rfl⟩ := a; rfl
  | flt b => obtain ⟨t, rfl⟩ := a; rfl
  | ref b => cases a; rfl
  | ty n => cases a; rfl
theorem relV_fun {y z : V} {v : Value} (a : L2.RelV y v) (b : L2.RelV z v) : y = z := (relV_toV a).trans (relV_toV b).symm
theorem vals_fun : ∀ {ys zs : List V} {vs : List Value}, Vals ys vs → Vals zs vs → ys = zs
  | _, _, _, .nil, .nil => rfl
  | _, _, _, .cons r t, .cons r' t' => by rw [relV_fun r r', vals_fun t t']
theorem HasV.fun {S : Addr} {h : Heap} {x y : List V} (a : HasV S h x) (b : HasV S h y) : x = y := by
  obtain ⟨t, c, r, e⟩ := a
  obtain ⟨t', c', r', e'⟩ := b
  rw [e] at e'
  have := Option.some.inj e'
  injection this with _ _ h3 _
  injection h3 with h4 _
  have h5 := congrArg Array.toList h4
  simp at h5
  subst h5
  exact vals_fun r r'
theorem hasV_of {pf : List (Addr × Obj)} {σ2 : L2.St} {H : Hp} {s : Shared} {S : Addr} {ys : List V} (I : Inv Xg pf σ2 H s) (h : H S = some (.lst ys)) : HasV S s.heap ys := by
  obtain ⟨_, vs, c, r, e⟩ := I.hok S _ h
  exact ⟨vs, c, r, e⟩
def kSum (S : Addr) : Cons := fun h y H Nx => ∃ i acc, y = .int i ∧ HasV S h [.int acc] ∧ H S = some (.lst [.int acc]) ∧ ∀ h', HasV S h' [.int (acc + i)] → Nx h' (upd H S (.lst [.int (acc + i)]))
theorem gl_sum {PXo : Value → Shared → Prop} {S : Addr} (hn : NextOk Xg [] Ag Ac.in1 a g go PX σ (kSum S) Dn) (hR : ∀ H' s' h x t, Inv Xg [] σ H' s' → HasV S h [.int x] → Dn h H' → R (.ok (.ret (.int x t))) s')
    (hU : ∀ e s1, PX e s1 → wpAny (model Xg.prog Xg.w) Ac.in1 (updateSeq S fun _ => #[]) (fun _ s2 => PXo e s2) (fun _ _ => False) s1) (hE : ∀ e s', PXo e s' → R (.error e) s') :
    ∀ n P H s st x, (st = 0 ∨ st = 2) → HasV S s.heap [.int x] → GDr Xg [] Ag (gR Xg [] σ Dn a g PX) (gY Xg [] (kSum S)) g n P H s → codeAny (model Xg.prog Xg.w) Ac (.builtin "sum.loop" ⟨[.ref a, .ref S, rawInt st, rawInt 0], []⟩) R s := by
  intro n
  induction n using Nat.strongRecOn with
  | _ n ih =>
    intro P H s st x hst hS hd
    obtain ⟨vs, c, hv, eS⟩ := id hS
    obtain ⟨tA, rfl⟩ : ∃ tA, vs = [.int x tA] := by
      cases hv with
      | cons r t =>
        cases t
        obtain ⟨t, rfl⟩ := r
        exact ⟨t, rfl⟩
    refine codeAny_builtin F.entry_sum_loop ?_
    rw [Around.under_plainId F.plain_sum_loop _]
    show wpAny _ Ac.in1 (seqItems? (.ref S) >>= _) _ _ s
    refine wpAny_bind (wpAny_seqItems eS rfl ?_)
    show wpAny _ Ac.in1 (tryCatch (pyNext (.ref a)) _ >>= _) _ _ s
    refine wpAny_bind (wpAny_tryCatch (wpAny_mono (hn n P H s hd) (fun r s1 h => ?_) fun e s1 h => ?_))
    · cases r with
      | none =>
        obtain ⟨H', I', _, _, d'⟩ := h
        exact wpAny_pure (hR H' s1 _ x tA I' hS d')
      | some v =>
        obtain ⟨y, pf, σ2, H', Nx, ry, np, I', pv', sm', ⟨i, acc, rfl, hacc, hHS, nx⟩, cont⟩ := h
        obtain ⟨t, rfl⟩ := ry
        have ex : x = acc := by
          have := hS.fun hacc
          simpa using this
        subst ex
        have step : ∀ (s2 : Shared) (st' : Int), (st' = 0 ∨ st' = 2) → Inv Xg pf σ2 (upd H' S (.lst [.int (x + i)])) s2 → s2.gens = s1.gens → codeAny (model Xg.prog Xg.w) Ac (.builtin "sum.loop" ⟨[.ref a, .ref S, rawInt st', rawInt 0], []⟩) R s2 := fun s2 st' hst' I2 hg => by
          have hh := hasV_of I2 upd_same
          obtain ⟨hpos, hd2⟩ := cont s2 _ I2 (fun _ z => absurd z List.not_mem_nil) (nx _ hh) hg
          exact ih (n - 1) (by omega) _ _ _ st' _ hst' hh hd2
        have put : ∀ {E : Value → Shared → Prop} {Q : Unit → Shared → Prop} {s2 : Shared} {tk : Tok} {H2 : Hp} {ys : List V}, Inv Xg pf σ2 H2 s2 → H2 S = some (.lst ys) → s2.gens = s1.gens → (∀ s3, Inv Xg pf σ2 (upd H2 S (.lst [.int (x + i)])) s3 → s3.gens = s1.gens → Q () s3) →
            wpAny (model Xg.prog Xg.w) Ac.in1 (updateSeq S (fun _ => #[.int (x + i) tk])) Q E s2 := fun {E Q s2 tk H2 ys} I2 hS2 hg hQ =>
          seq_set (ys := [.int (x + i)]) I2 hS2 (fun us _ => ⟨[.int (x + i) tk], rfl, .cons (show L2.RelV (.int (x + i)) (.int (x + i) tk) from ⟨tk, rfl⟩) .nil⟩) (by show 1 ≤ sizeLine; decide) fun s3 I3 hg3 _ => hQ s3 I3 (hg3.trans hg)
        have slow : ∀ {s2 : Shared}, Inv Xg pf σ2 H' s2 → s2.gens = s1.gens →
            wpAny (model Xg.prog Xg.w) Ac.in1 ((holding [Value.int i t] (binaryOp .Add (.int x tA) (.int i t))).attempt >>= fun r => match r with
              | .ok r => do updateSeq S fun _ => #[r]; letGo [.int x tA, .int i t]; updateSeq S fun _ => #[r]; again (.builtin "sum.loop" ⟨[.ref a, .ref S, rawInt 2, rawInt 0], []⟩)
              | .error e => do updateSeq S fun _ => #[]; letGo [.int x tA, .int i t] [e]; throw e) (fun f s' => match f with | .done fl => R (.ok fl) s' | .again c' => c'.quiet = true ∧ codeAny (model Xg.prog Xg.w) Ac c' R s') (fun e s' => R (.error e) s') s2 := fun {s2} I2 hg => by
          refine wpAny_bind (wpAny_attempt (wpAny_holding (wpAny_add_int ?_)))
          refine wpAny_bind (put (I2.tok _) hHS hg fun s3 I3 hg3 => ?_)
          refine wpAny_bind (wpAny_letGo ?_)
          refine wpAny_bind (put I3 upd_same hg3 fun s4 I4 hg4 => ?_)
          rw [upd_upd] at I4
          exact wpAny_pure ⟨plainId_quiet F.plain_sum_loop _, step s4 2 (.inr rfl) I4 hg4⟩
        rcases hst with rfl | rfl
        · show wpAny _ Ac.in1 (if (_ : Bool) = true then (mkInt (x + i) >>= _) else _) _ _ _
          split
          · refine wpAny_bind (wpAny_mkInt ?_)
            show wpAny _ Ac.in1 (updateSeq S (fun _ => #[.int (x + i) s1.toks]) >>= _) _ _ _
            refine wpAny_bind (put (I'.tok _) hHS rfl fun s3 I3 hg3 => ?_)
            exact wpAny_pure ⟨plainId_quiet F.plain_sum_loop _, step s3 0 (.inl rfl) I3 hg3⟩
          · refine wpAny_bind (wpAny_rule ?_)
            exact slow I' rfl
        · exact slow I' rfl
    · refine wpAny_bind (wpAny_mono (hU e s1 h) (fun _ s2 h2 => ?_) fun _ _ z => z.elim)
      refine wpAny_bind (wpAny_letGo ?_)
      exact wpAny_throw (hE e s2 h2)
end
end ML
/-! ML10 -/
set_option Elab.async false
set_option linter.all false
set_option autoImplicit false
set_option maxRecDepth 100000
set_option maxHeartbeats 4000000
/-! ML10: blocks (comprehensions, generator expressions) at the M layer: hidden addresses, forgotten slots, the loop -/
namespace ML
open PySem PySem.Spec PyProof.Rows L2

/-! ### hidden addresses -/
def Gh.hid (G : Gh) (hs : List Addr) : Gh := { G with Pv := fun a => G.Pv a ∨ a ∈ hs }
/-- a is known to no part of the state -/
def Unk (S : ES) (σ : L2.St) (G : Gh) (a : Addr) : Prop := ¬ G.Fz a ∧ ¬ G.Pv a ∧ a ∉ G.ρ ∧ ¬ OwnA S σ a
section
variable {C : Sc} {S S' : ES} {σ σ' : L2.St} {H H' : Hp} {G G' : Gh} {hs : List Addr}
theorem hid_leR (G : Gh) (H : Hp) (hs : List Addr) : LeR G H (G.hid hs) H := ⟨⟨[], by simp [Gh.hid]⟩, fun _ h => h, fun _ _ _ h => .inl (.inl h)⟩
theorem unh_leR (G' : Gh) (H : Hp) (P : Addr → Prop) : LeR G' H { G' with Pv := P } H := ⟨⟨[], by simp⟩, fun _ h => h, fun _ _ _ h => .inl (.inl h)⟩
theorem SRel.hid (r : SRel C S σ H G) (u : ∀ a ∈ hs, Unk S σ G a ∧ ∃ o, H a = some o ∧ MutO o) : SRel C S σ H (G.hid hs) := by
  have lr := hid_leR G H hs
  refine ⟨⟨r.hr.len, r.hr.nd, fun a ha => ⟨(r.hr.nf a ha).1, fun z => ?_⟩, fun a f z => ?_, fun a z => ?_, fun n o e => ?_, r.hr.tb, fun a z => z.elim (r.hr.pm a) fun z => (u a z).2⟩, r.len, fun i => ?_, r.dis⟩
  · rcases z with z | z
    · exact (r.hr.nf a ha).2 z
    · exact (u a z).1.2.2.1 ha
  · rcases z with z | z
    · exact r.hr.fp a f z
    · exact (u a z).1.1 f
  · rcases z with z | z | z
    · exact r.hr.tr a (.inl z)
    · exact r.hr.tr a (.inr z)
    · exact let ⟨o, e, _⟩ := (u a z).2; ⟨o, e⟩
  · obtain ⟨a, u, e1, e2, e3⟩ := r.hr.obj n o e
    exact ⟨a, u, e1, e2, e3.monoR lr⟩
  · have q := r.slot i
    unfold SlRel at q ⊢
    split at q
    · obtain ⟨y, e, z⟩ := q; exact ⟨y, e, z.monoR lr⟩
    · rename_i o hsl
      obtain ⟨a, u', ea, e2, o', n1, n2, n3⟩ := q
      refine ⟨a, u', ea, e2, o'.monoR lr, n1, fun z => ?_, n3⟩
      rcases z with z | z
      · exact n2 z
      · exact (u a z).1.2.2.2 ⟨i, o, hsl, ea⟩
    · exact True.intro
theorem SRel.unhid (r : SRel C S' σ' H' G') (e : G'.Pv = (G.hid hs).Pv) : SRel C S' σ' H' { G' with Pv := G.Pv } ∧ ∀ a ∈ hs, Unk S' σ' { G' with Pv := G.Pv } a ∨ G.Pv a := by
  have lr := unh_leR G' H' G.Pv
  have pv : ∀ a, G.Pv a → G'.Pv a := fun a h => by rw [e]; exact .inl h
  have ph : ∀ a ∈ hs, G'.Pv a := fun a h => by rw [e]; exact .inr h
  refine ⟨⟨⟨r.hr.len, r.hr.nd, fun a ha => ⟨(r.hr.nf a ha).1, fun z => (r.hr.nf a ha).2 (pv a z)⟩, fun a f z => r.hr.fp a f (pv a z), fun a z => r.hr.tr a (z.imp id (pv a)), fun n o e => ?_, r.hr.tb, fun a z => r.hr.pm a (pv a z)⟩, r.len, fun i => ?_, r.dis⟩, fun a ha => ?_⟩
  · obtain ⟨a, u, e1, e2, e3⟩ := r.hr.obj n o e
    exact ⟨a, u, e1, e2, e3.monoR lr⟩
  · have q := r.slot i
    unfold SlRel at q ⊢
    split at q
    · obtain ⟨y, e, z⟩ := q; exact ⟨y, e, z.monoR lr⟩
    · obtain ⟨a, u', ea, e2, o', n1, n2, n3⟩ := q
      exact ⟨a, u', ea, e2, o'.monoR lr, n1, fun z => n2 (pv a z), n3⟩
    · exact True.intro
  · by_cases hp : G.Pv a
    · exact .inr hp
    · refine .inl ⟨fun f => r.hr.fp a f (ph a ha), hp, fun z => (r.hr.nf a z).2 (ph a ha), ?_⟩
      rintro ⟨i, o, e1, e2⟩
      have q := r.slot i
      rw [e1, e2] at q
      obtain ⟨b, u, eb, _, _, n1, n2, n3⟩ := q
      cases eb
      exact n2 (ph a ha)
theorem Le.unhid (l : Le (G.hid hs) H G' H') : Le G H { G' with Pv := G.Pv } H' ∧ ∀ a ∈ hs, ∀ u, H a = some u → Kt u (H' a) :=
  ⟨⟨l.rho, l.fz, rfl, l.keep, fun a u z e => l.keepP a u (.inl z) e⟩, fun a ha u e => l.keepP a u (.inr ha) e⟩
/-- an unknown object is written -/
theorem SRel.updU {a : Addr} {o : HO} (r : SRel C S σ H G) (u : Unk S σ G a) (t : C.Tb (upd H a o)) : SRel C S σ (upd H a o) G ∧ Le G H G (upd H a o) := by
  have kf : ∀ b v, G.Fz b → H b = some v → upd H a o b = some v := fun b v f e => by rw [upd_ne fun z => u.1 (by rw [← z]; exact f)]; exact e
  have kp : ∀ b v, G.Pv b → H b = some v → upd H a o b = some v := fun b v f e => by rw [upd_ne fun z => u.2.1 (by rw [← z]; exact f)]; exact e
  have l : Le G H G (upd H a o) := ⟨⟨[], by simp⟩, fun _ h => h, rfl, fun b v f e => .inl (.inl (kf b v f e)), fun b v f e => .inl (kp b v f e)⟩
  refine ⟨⟨⟨r.hr.len, r.hr.nd, r.hr.nf, r.hr.fp, fun b z => ?_, fun n o' e => ?_, t, fun b z => let ⟨v, e, m⟩ := r.hr.pm b z; ⟨v, kp b v z e, m⟩⟩, r.len, fun i => ?_, r.dis⟩, l⟩
  · obtain ⟨v, e⟩ := r.hr.tr b z
    rcases z with z | z
    · exact ⟨v, kf b v z e⟩
    · exact ⟨v, kp b v z e⟩
  · obtain ⟨b, v, e1, e2, e3⟩ := r.hr.obj n o' e
    exact ⟨b, v, e1, by rw [upd_ne fun z => u.2.2.1 (by rw [← z]; exact List.mem_of_getElem? e1)]; exact e2, e3.mono l⟩
  · have q := r.slot i
    unfold SlRel at q ⊢
    split at q
    · obtain ⟨y, e, z⟩ := q; exact ⟨y, e, z.mono l⟩
    · rename_i o' hsl
      obtain ⟨b, v, ea, e2, o', n⟩ := q
      exact ⟨b, v, ea, by rw [upd_ne fun z => u.2.2.2 ⟨i, _, hsl, by rw [← z]; exact ea⟩]; exact e2, o'.mono l, n⟩
    · exact True.intro
end

/-! ### forgotten slots -/
def wipeS (sl : List Slot) : List Nat → List Slot
  | [] => sl
  | v :: vs => (wipeS sl vs).set v .emp
def backS (sl0 sl : List Slot) : List Nat → List Slot
  | [] => sl
  | v :: vs => (backS sl0 sl vs).set v ((sl0[v]?).getD .emp)
def noOwn (sl : List Slot) (vs : List Nat) : Bool := vs.all fun v => match sl[v]? with
  | some (.own _) => false
  | _ => true
theorem wipeS_length (sl : List Slot) : ∀ vs, (wipeS sl vs).length = sl.length
  | [] => rfl
  | v :: vs => by unfold wipeS; rw [List.length_set, wipeS_length sl vs]
theorem backS_length (sl0 sl : List Slot) : ∀ vs, (backS sl0 sl vs).length = sl.length
  | [] => rfl
  | v :: vs => by unfold backS; rw [List.length_set, backS_length sl0 sl vs]
theorem wipeS_get (sl : List Slot) (i : Nat) : ∀ vs, (wipeS sl vs)[i]? = if i ∈ vs ∧ i < sl.length then some .emp else sl[i]?
  | [] => by simp [wipeS]
  | v :: vs => by
    unfold wipeS
    rw [List.getElem?_set, wipeS_length, wipeS_get sl i vs]
    by_cases h : v = i
    · subst h
      by_cases hl : v < sl.length
      · simp [hl]
      · simp [hl]
    · have h' : ¬ i = v := fun z => h z.symm
      simp [h, h']
theorem backS_get (sl0 sl : List Slot) (i : Nat) : ∀ vs, (backS sl0 sl vs)[i]? = if i ∈ vs ∧ i < sl.length then some ((sl0[i]?).getD .emp) else sl[i]?
  | [] => by simp [backS]
  | v :: vs => by
    unfold backS
    rw [List.getElem?_set, backS_length, backS_get sl0 sl i vs]
    by_cases h : v = i
    · subst h
      by_cases hl : v < sl.length
      · simp [hl]
      · simp [hl]
    · have h' : ¬ i = v := fun z => h z.symm
      simp [h, h']
theorem wipe_get (σ : L2.St) (i : Nat) : ∀ vs, (wipe σ vs)[i]? = if i ∈ vs ∧ i < σ.length then some none else σ[i]?
  | [] => by simp [wipe]
  | v :: vs => by
    unfold wipe
    rw [List.getElem?_set, wipe_length, wipe_get σ i vs]
    by_cases h : v = i
    · subst h
      by_cases hl : v < σ.length
      · simp [hl]
      · simp [hl]
    · have h' : ¬ i = v := fun z => h z.symm
      simp [h, h']
theorem wipe_wipe (σ : L2.St) (vs : List Nat) : wipe (wipe σ vs) vs = wipe σ vs := by
  apply List.ext_getElem?
  intro i
  rw [wipe_get, wipe_get, wipe_length]
  split <;> rfl
theorem kep_wipe {σ σ' : L2.St} {vs : List Nat} (k : Kep vs σ σ') : wipe σ' vs = wipe σ vs := by
  apply List.ext_getElem?
  intro i
  rw [wipe_get, wipe_get, k.1]
  by_cases h : i ∈ vs
  · by_cases hl : i < σ.length
    · simp [h, hl]
    · have h1 : σ'[i]? = none := List.getElem?_eq_none (by rw [k.1]; omega)
      have h2 : σ[i]? = none := List.getElem?_eq_none (by omega)
      simp [hl, h1, h2]
  · simp [h, k.2 i h]
section
variable {C : Sc} {S S' : ES} {σ σ' : L2.St} {H H' : Hp} {G G' : Gh} {vs : List Nat}
def ES.wp (S : ES) (vs : List Nat) : ES := { S with sl := wipeS S.sl vs }
theorem SRel.wp (r : SRel C S σ H G) (vs : List Nat) : SRel C (S.wp vs) (wipe σ vs) H G := by
  refine ⟨r.hr, by show (wipeS S.sl vs).length = _; rw [wipeS_length, wipe_length]; exact r.len, fun i => ?_, fun i j a o o' h1 h2 h3 h4 => ?_⟩
  · show SlRel C G H (wipeS S.sl vs)[i]? _
    rw [wipeS_get, wipe_get]
    by_cases h : i ∈ vs ∧ i < S.sl.length
    · rw [if_pos h]; exact True.intro
    · rw [if_neg h, if_neg (by rw [← r.len]; exact h)]
      exact r.slot i
  · have h1 : (wipeS S.sl vs)[i]? = some (Slot.own o) := h1
    have h2 : (wipeS S.sl vs)[j]? = some (Slot.own o') := h2
    rw [wipeS_get] at h1 h2
    rw [wipe_get] at h3 h4
    by_cases h : i ∈ vs ∧ i < S.sl.length
    · rw [if_pos h] at h1; cases h1
    · by_cases h' : j ∈ vs ∧ j < S.sl.length
      · rw [if_pos h'] at h2; cases h2
      · rw [if_neg h] at h1
        rw [if_neg h'] at h2
        rw [if_neg (by rw [← r.len]; exact h)] at h3
        rw [if_neg (by rw [← r.len]; exact h')] at h4
        exact r.dis i j a o o' h1 h2 h3 h4
theorem SRel.bk (r : SRel C S σ H G) (hn : noOwn S.sl vs = true) (r1 : SRel C S' (wipe σ vs) H' G') (l : Le G H G' H') : SRel C { S' with sl := backS S.sl S'.sl vs } σ H' G' := by
  have len : S'.sl.length = σ.length := by rw [r1.len, wipe_length]
  have no : ∀ i, i ∈ vs → ∀ o, S.sl[i]? ≠ some (Slot.own o) := fun i hi o e => by
    unfold noOwn at hn
    have := List.all_eq_true.mp hn i hi
    rw [e] at this; cases this
  refine ⟨r1.hr, by show (backS S.sl S'.sl vs).length = _; rw [backS_length]; exact len, fun i => ?_, fun i j a o o' h1 h2 h3 h4 => ?_⟩
  · show SlRel C G' H' (backS S.sl S'.sl vs)[i]? _
    rw [backS_get]
    by_cases h : i ∈ vs ∧ i < S'.sl.length
    · rw [if_pos h]
      have hi : i < S.sl.length := by rw [r.len, ← len]; exact h.2
      have q := r.slot i
      rw [List.getElem?_eq_getElem hi]
      rw [List.getElem?_eq_getElem hi] at q
      show SlRel C G' H' (some S.sl[i]) _
      cases hs : S.sl[i] with
      | emp => exact True.intro
      | val v =>
        rw [hs] at q
        obtain ⟨y, e, z⟩ := q
        exact ⟨y, e, z.mono l⟩
      | own o => exact (no i h.1 o (by rw [List.getElem?_eq_getElem hi, hs])).elim
    · rw [if_neg h]
      have q := r1.slot i
      rw [wipe_get, if_neg (by rw [← len]; exact h)] at q
      exact q
  · have h1 : (backS S.sl S'.sl vs)[i]? = some (Slot.own o) := h1
    have h2 : (backS S.sl S'.sl vs)[j]? = some (Slot.own o') := h2
    rw [backS_get] at h1 h2
    have notin : ∀ (k : Nat) (o : EObj), ¬ (k ∈ vs ∧ k < S'.sl.length) ∨ (S.sl[k]?).getD .emp ≠ Slot.own o := fun k o => by
      by_cases h : k ∈ vs ∧ k < S'.sl.length
      · right
        intro e
        cases hk : S.sl[k]? with
        | none => rw [hk] at e; cases e
        | some s =>
          rw [hk] at e
          exact no k h.1 o (by rw [hk, show s = Slot.own o from e])
      · exact .inl h
    by_cases h : i ∈ vs ∧ i < S'.sl.length
    · rw [if_pos h] at h1
      exact ((notin i o).elim (fun z => z h) fun z => z (Option.some.inj h1)).elim
    · by_cases h' : j ∈ vs ∧ j < S'.sl.length
      · rw [if_pos h'] at h2
        exact ((notin j o').elim (fun z => z h') fun z => z (Option.some.inj h2)).elim
      · rw [if_neg h] at h1
        rw [if_neg h'] at h2
        exact r1.dis i j a o o' h1 h2 (by rw [wipe_get, if_neg (by rw [← len]; exact h)]; exact h3) (by rw [wipe_get, if_neg (by rw [← len]; exact h')]; exact h4)
end
end ML
/-! ML11 -/
set_option Elab.async false
set_option linter.all false
set_option autoImplicit false
set_option maxRecDepth 100000
set_option maxHeartbeats 4000000
/-! ML11: the drawing loop at the M layer -/
namespace ML
open PySem PySem.Spec PyProof.Rows L2

def mWipe (vs : List Nat) : M Unit := fun S => .ok () (S.wp vs)
/-- items drawn one by one: g binds, c tests, e the element, step what the drawer makes of it -/
def mDraw {γ β : Type} (vs : List Nat) (g : EV → M Unit) (c : M Bool) (e : M EV) (step : γ → EV → Option (γ ⊕ β)) : γ → List EV → M (γ ⊕ β)
  | acc, [] => do
    mWipe vs
    M.ret (.inl acc)
  | acc, v :: l => do
    mWipe vs
    g v
    let b ← c
    if b then do
      let y ← e
      match step acc y with
      | some (.inl a) => mDraw vs g c e step a l
      | some (.inr r) => do
        mWipe vs
        M.ret (.inr r)
      | none => M.fail
    else mDraw vs g c e step acc l
def mBlk {α : Type} (vs : List Nat) (m : M α) : M α := fun S => if noOwn S.sl vs then match m S with
  | .ok a S' => .ok a { S' with sl := backS S.sl S'.sl vs }
  | .exc c S' => .exc c { S' with sl := backS S.sl (S'.wp vs).sl vs }
  | .bad => .bad
  else .bad

theorem post_bnd' {α β : Type} {m : M α} {f : α → M β} {S : ES} {Q : β → ES → Prop} {E : Str → ES → Prop} (h : Post (M.bnd m f S) Q E) : Post (m S) (fun a S1 => Post (f a S1) Q E) E := post_bnd h

section
variable {C : Sc} {γ β : Type} {J : It} {l : List EV} {vs : List Nat} {gm : EV → M Unit} {c : M Bool} {e : M EV} {step : γ → EV → Option (γ ⊕ β)} {Wg : WX} {σ : L2.St} {K : Cons} {hs : List Addr} {Cr : γ → Heap → Hp → Gh → Prop} {Gr : Gh} {Hr : Hp} {QQ : γ ⊕ β → ES → Prop} {EE : Str → ES → Prop}
/-- a state between the drawer's steps -/
structure DSt (C : Sc) (vs : List Nat) (σ : L2.St) (hs : List Addr) (Gr : Gh) (Hr : Hp) (S : ES) (H : Hp) (G : Gh) : Prop where
  rel : SRel C (S.wp vs) (wipe σ vs) H G
  le : Le Gr Hr G H
  unk : ∀ a ∈ hs, Unk (S.wp vs) (wipe σ vs) G a ∧ ∃ o, H a = some o ∧ MutO o
theorem unk_wp {S : ES} {σ1 : L2.St} {G : Gh} {a : Addr} (h : Unk S σ1 G a) (vs : List Nat) : Unk (S.wp vs) (wipe σ1 vs) G a := by
  refine ⟨h.1, h.2.1, h.2.2.1, ?_⟩
  rintro ⟨i, o, e1, e2⟩
  have e1 : (wipeS S.sl vs)[i]? = some (Slot.own o) := e1
  rw [wipeS_get] at e1
  split at e1
  · cases e1
  · refine h.2.2.2 ⟨i, o, e1, ?_⟩
    have := wipe_some e2
    exact this.1
/-- back from the hidden: the state after a part of a turn -/
theorem dst_of {S : ES} {σ3 : L2.St} {H H' : Hp} {G G' : Gh} (hu : ∀ a ∈ hs, Unk S σ3 { G' with Pv := G.Pv } a ∨ G.Pv a) (hp : ∀ a ∈ hs, ¬ G.Pv a) (hw : wipe σ3 vs = wipe σ vs) (r : SRel C S σ3 H' { G' with Pv := G.Pv }) (le0 : Le Gr Hr G H) (l : Le (G.hid hs) H G' H') (ex : ∀ a ∈ hs, ∃ o, H a = some o ∧ MutO o) :
    DSt C vs σ hs Gr Hr S H' { G' with Pv := G.Pv } := by
  refine ⟨?_, le0.trans l.unhid.1, fun a ha => ?_⟩
  · have := r.wp vs
    rwa [hw] at this
  · obtain ⟨o, eo, mo⟩ := ex a ha
    have q := (hu a ha).resolve_right (hp a ha)
    have := unk_wp q vs
    rw [hw] at this
    exact ⟨this, o, (l.unhid.2 a ha o eo).eq mo.nt, mo⟩
theorem kt_some {u : HO} {y : Option HO} (h : Kt u y) : ∃ o, y = some o := by
  rcases h with h | ⟨_, _, _, h⟩
  · exact ⟨_, h⟩
  · exact ⟨_, h⟩
def Wd (C : Sc) (vs : List Nat) (gm : EV → M Unit) (c : M Bool) (e : M EV) (step : γ → EV → Option (γ ⊕ β)) (l : List EV) (σ : L2.St) (hs : List Addr) (Cr : γ → Heap → Hp → Gh → Prop) (Gr : Gh) (Hr : Hp) (QQ : γ ⊕ β → ES → Prop) (EE : Str → ES → Prop) : Nat → Nat → Heap → Hp → Prop := fun i m h H =>
  m = l.length - i ∧ i ≤ l.length ∧ ∃ S G acc, DSt C vs σ hs Gr Hr S H G ∧ Cr acc h H G ∧ Post (mDraw vs gm c e step acc (l.drop i) S) QQ EE
def Dd (C : Sc) (vs : List Nat) (σ : L2.St) (hs : List Addr) (Cr : γ → Heap → Hp → Gh → Prop) (Gr : Gh) (Hr : Hp) (QQ : γ ⊕ β → ES → Prop) : Heap → Hp → Prop := fun h H => ∃ S G acc, DSt C vs σ hs Gr Hr S H G ∧ Cr acc h H G ∧ QQ (.inl acc) (S.wp vs)
theorem gturn (jr : JRel C Gr Hr J l) (nx : NoExc gm)
    (hCr : ∀ acc h H G G' H', Cr acc h H G → Le (G.hid hs) H G' H' → Cr acc h H' { G' with Pv := G.Pv })
    (hK : ∀ acc acc' y yv h H G S σ3 Nx, step acc y = some (.inl acc') → SRel C S σ3 H G → (∀ a ∈ hs, Unk S σ3 G a) → Cr acc h H G → Rep C G H y yv → (∀ h' H' G', SRel C S σ3 H' G' → Le G H G' H' → (∀ a ∈ hs, Unk S σ3 G' a ∧ ∃ o, H' a = some o ∧ MutO o) → Cr acc' h' H' G' → Nx h' H') → K h yv H Nx)
    (hKs : ∀ acc rr y yv h H G S Nx, step acc y = some (.inr rr) → DSt C vs σ hs Gr Hr S H G → Cr acc h H G → Rep C G H y yv → QQ (.inr rr) (S.wp vs) → K h yv H Nx)
    (hE : ∀ cc acc h S σ3 H G, EE cc S → wipe σ3 vs = wipe σ vs → SRel C S σ3 H G → DSt C vs σ hs Gr Hr S H G → Cr acc h H G → Wg (excV C cc) none σ3 H) :
    GTurn J (tG C vs gm) (tMB C Wg c) (tM C Wg e) vs σ K (Dd C vs σ hs Cr Gr Hr QQ) (Wd C vs gm c e step l σ hs Cr Gr Hr QQ EE) := by
  rintro i m h H ⟨rfl, hil, S0, G, acc, d, cr, p⟩
  by_cases hlt : i < l.length
  · have hG : ∀ a ∈ hs, ¬ G.Pv a := fun a ha => (d.unk a ha).1.2.1
    have hex : ∀ a ∈ hs, ∃ o, H a = some o ∧ MutO o := fun a ha => (d.unk a ha).2
    have r0 := d.rel.hid d.unk
    refine .inr ⟨jr.go i G H d.le.r hlt, fun h' H' => i + 1 ≤ l.length ∧ ∃ S G acc, DSt C vs σ hs Gr Hr S H' G ∧ Cr acc h' H' G ∧ Post (mDraw vs gm c e step acc (l.drop (i + 1)) S) QQ EE, fun h' H' q => ⟨l.length - (i + 1), by omega, rfl, q⟩, fun x H2 hy => ?_⟩
    obtain ⟨v, G2, hv, r2, l2, rp⟩ := jr.yld i (S0.wp vs) (wipe σ vs) (G.hid hs) H x H2 (d.le.r.trans (hid_leR G H hs)) r0 hlt hy
    rw [drop_get hv] at p
    have p2 : Post ((gm v >>= fun _ => c >>= fun b => if b = true then (e >>= fun y => match step acc y with
      | some (.inl a) => mDraw vs gm c e step a (l.drop (i + 1))
      | some (.inr r) => (mWipe vs >>= fun _ => M.ret (.inr r))
      | none => M.fail) else mDraw vs gm c e step acc (l.drop (i + 1))) (S0.wp vs)) QQ EE := p
    refine ⟨S0.wp vs, G2, v, r2, rp, ?_⟩
    have h' := post_bnd p2
    have nxv := nx v (S0.wp vs)
    cases hgv : gm v (S0.wp vs) with
    | exc cc S' => exact (nxv cc S' hgv).elim
    | bad => rw [hgv] at h'; exact h'.elim
    | ok a S3 =>
      rw [hgv] at h'
      refine fun σ3 H3 G3 r3 l3 k3 => ?_
      have hw3 : wipe σ3 vs = wipe σ vs := (kep_wipe k3).trans (wipe_wipe σ vs)
      refine ⟨hw3, ?_⟩
      have l03 : Le (G.hid hs) H G3 H3 := l2.trans l3
      -- where one stands later in the turn
      have back : ∀ {S' : ES} {H' : Hp} {G' : Gh}, SRel C S' σ3 H' G' → Le G3 H3 G' H' → SRel C S' σ3 H' { G' with Pv := G.Pv } ∧ DSt C vs σ hs Gr Hr S' H' { G' with Pv := G.Pv } ∧ Cr acc h H' { G' with Pv := G.Pv } ∧ ∀ a ∈ hs, Unk S' σ3 { G' with Pv := G.Pv } a := fun {S' H' G'} r' l' => by
        have lt := l03.trans l'
        obtain ⟨ru, uu⟩ := r'.unhid (G := G) (hs := hs) lt.pv
        exact ⟨ru, dst_of uu hG hw3 ru d.le lt hex, hCr acc h H G G' H' cr lt, fun a ha => (uu a ha).resolve_right (hG a ha)⟩
      refine ⟨S3, G3, r3, (post_bnd h').mono (fun b S4 q H4 G4 r4 l4 => ?_) fun cc S4 q H' G' r' l' => ?_⟩
      · obtain ⟨ru4, d4, cr4, u4⟩ := back r4 l4
        cases b with
        | false =>
          simp only [Bool.false_eq_true, if_false] at q ⊢
          exact ⟨hlt, S4, _, acc, d4, cr4, q⟩
        | true =>
          simp only [if_true] at q ⊢
          refine ⟨S4, G4, r4, (post_bnd q).mono (fun y S5 q5 yv H5 G5 r5 l5 rp5 => ?_) fun cc S5 q5 H' G' r' l' => ?_⟩
          · obtain ⟨ru5, d5, cr5, u5⟩ := back r5 (l4.trans l5)
            have rp5' : Rep C { G5 with Pv := G.Pv } H5 y yv := rp5.monoR (unh_leR G5 H5 G.Pv)
            cases hst : step acc y with
            | none => rw [hst] at q5; exact q5.elim
            | some sr =>
              rw [hst] at q5
              cases sr with
              | inl acc' =>
                refine hK acc acc' y yv h H5 _ S5 σ3 _ hst ru5 u5 cr5 rp5' fun h6 H6 G6 r6 l6 u6 cr6 => ⟨hlt, S5, G6, acc', ⟨?_, d5.le.trans l6, fun a ha => ?_⟩, cr6, q5⟩
                · have := r6.wp vs
                  rwa [hw3] at this
                · have := unk_wp (u6 a ha).1 vs
                  rw [hw3] at this
                  exact ⟨this, (u6 a ha).2⟩
              | inr rr => exact hKs acc rr y yv h H5 _ S5 _ hst d5 cr5 rp5' q5
          · obtain ⟨ru', d', cr', _⟩ := back r' (l4.trans l')
            exact hE cc acc h S5 σ3 H' _ q5 hw3 ru' d' cr'
      · obtain ⟨ru', d', cr', _⟩ := back r' l'
        exact hE cc acc h S4 σ3 H' _ q hw3 ru' d' cr'
  · have e : i = l.length := by omega
    subst e
    rw [List.drop_length] at p
    exact .inl ⟨jr.stop G H d.le.r, S0, G, acc, d, cr, p⟩
end
end ML
/-! ML12 -/
set_option Elab.async false
set_option linter.all false
set_option autoImplicit false
set_option maxRecDepth 100000
set_option maxHeartbeats 4000000
/-! ML12: generator expressions handed to tuple, sum, any, all -/
namespace ML
open PySem PySem.Spec PyProof.Rows L2

abbrev gA (X : Cx) : Around := X.A.in4.in1
def gXe (X : Cx) (cenv : Env) (a : Addr) (go : Obj) (W' : WX) : Value → Shared → Prop := fun e s' => wpAny (model X.prog X.w) ((gA X).deeper cenv) (leaving cenv e) (fun _ s'' => s''.heap.get? a = some go ∧ NoStopH (model X.prog X.w) s''.heap e ∧ XE X W' e s'') (fun _ _ => False) s'
abbrev cenvOf (X : Cx) (scope : Scope) (s4 : Shared) (code : Value) : Env := gEnv scope (gCells X scope s4.heap.objs.size) s4.heap.objs.size code X.env
/-- the generator's context, for those who draw in X -/
abbrev gX (X : Cx) (scope : Scope) (s4 : Shared) (H4 : Hp) (code : Value) (fp : List Addr) (a : Addr) (go : Obj) (W' : WX) : Cx :=
  gCx X (gA X) s4 H4 scope (cenvOf X scope s4 code) fp [(a, go)] (gXe X (cenvOf X scope s4 code) a go W')
/-- its wish about exceptions -/
def gW (X : Cx) (W' : WX) (σ : L2.St) : WX := fun cls d _ H => NoStopC X.K cls ∧ W' cls d σ H
section
variable {X : Cx} {pins : List (Addr × Obj)} {σ : L2.St} {scope : Scope} {elt tg iter : Expr} {ifs : List Expr} {gpos : Pos} {vs : List Nat} {J : It} {H4 : Hp} {s4 s5 : Shared} {it a : Addr} {fp : List Addr} {tn : Nat → Heap → Prop} {g : Nat} {go : Obj} {code : Value} {W W' : WX} {k : Nat} {Gs : List Addr} {Ls : LsS}
theorem g_takes (G : GenAtS X pins σ scope elt tg iter ifs gpos vs J H4 s4 it fp tn a g go code s5) : Takes (gX X scope s4 H4 code fp a go W') (gW X W' σ) := fun u s' x =>
  xe_leave_gen (A := gA X) (W := W') (E₁ := fun _ _ => False) (cenv := cenvOf X scope s4 code) G.inv G.inv.ok.frames G.fok rfl rfl (fun _ _ _ _ h => h) x
theorem g_kx (T : TbS) (hr : Room (k + 1) X.A) (hc : X.calm = true) (G : GenAtS X pins σ scope elt tg iter ifs gpos vs J H4 s4 it fp tn a g go code s5) : Kx (gX X scope s4 H4 code fp a go W') T (gW X W' σ) k :=
  ⟨g_takes G, passes_of rfl, hc, ⟨hr.hd, by have := hr.dp; show X.A.depth + 1 + 3 * k + 5 < _; omega, by have := hr.un; show X.A.units + 1 + 1 + 1 + 1 + 1 + 3 + 16 * k + 200 < _; omega⟩⟩
theorem g_fix {gt : TG} {tt : TT} {te : TE} (hc : X.calm = true) (hco : scope.isCoroutine = false) (G : GenAtS X pins σ scope elt tg iter ifs gpos vs J H4 s4 it fp tn a g go code s5)
    (pg : PG (gX X scope s4 H4 code fp a go W') tg gt) (pt : PTs (gX X scope s4 H4 code fp a go W') ifs tt) (pe : PE (gX X scope s4 H4 code fp a go W') elt te) :
    GenFix (gX X scope s4 H4 code fp a go W') (gA X) elt tg ifs a it g go (XE X W') fp tn J gt tt te :=
  ⟨rfl, hc, hco, rfl, G.turn, rfl, rfl, G.ane, G.gen, pg, pt, pe⟩
/-- ready to be drawn from the state s6 on -/
theorem g_ready {gt : TG} {tt : TT} {te : TE} {K : Cons} {Dn : Heap → Hp → Prop} {Wi : Nat → Nat → Heap → Hp → Prop} {H6 : Hp} {s6 : Shared} {m : Nat} (G : GenAtS X pins σ scope elt tg iter ifs gpos vs J H4 s4 it fp tn a g go code s5)
    (F : GenFix (gX X scope s4 H4 code fp a go W') (gA X) elt tg ifs a it g go (XE X W') fp tn J gt tt te) (hT : GTurn J gt tt te vs σ K Dn Wi)
    (hg : s6.gens[g]? = some (.fresh (.compStart (.GeneratorExp elt [⟨tg, iter, ifs, 0⟩] scope gpos) 0 (.ref it) .none (cenvOf X scope s4 code)))) (I6 : Inv (gX X scope s4 H4 code fp a go W') [] (wipe σ vs) H6 s6) (st : tn 0 s6.heap) (nf : ∀ b ∈ fp, H6 b = none) (w : Wi 0 m s6.heap H6) :
    GDr (gX X scope s4 H4 code fp a go W') [] X.A.in4 (gR (gX X scope s4 H4 code fp a go W') [] (wipe σ vs) Dn a g (XE X W')) (gY (gX X scope s4 H4 code fp a go W') [] K) g (m + 1) (Wi 0 m) H6 s6 := by
  have fo : ∀ b ∈ fp, FpOk (gX X scope s4 H4 code fp a go W') [] H6 b := fun b hb => ⟨nf b hb, (I6.ok.exf b hb).1, I6.ok.exfs b hb, .inl hb, fun x c e => (I6.ok.exf b hb).2 x c e, fun p hp => by
    have hp : p ∈ [(a, go)] ++ ([] : List (Addr × Obj)) := hp
    have : p = (a, go) := by simpa using hp
    rw [this]
    exact fun z => G.ane (by rw [show a = b from z]; exact hb)⟩
  have Ip := I6.pinned fo (F.turn.obj _ _ st)
  refine ⟨[] ++ pinsAt fp s6.heap, wipe σ vs, _, hg, fun p _ => List.not_mem_nil, Ip, fun _ z => absurd z List.not_mem_nil, w, fun s7 H7 I7 pv7 w7 => ⟨rfl, ?_⟩⟩
  have pin : ∀ b ∈ fp, ∀ o, s6.heap.get? b = some o → s7.heap.get? b = some o ∧ H7 b = none := fun b hb o e =>
    let z := I7.pin (b, o) (List.mem_append_right _ (List.mem_append_right _ (mem_pinsAt hb e)))
    ⟨z.1, z.2.1⟩
  exact seg_genS F hT (Cn := []) (fun _ z => absurd z List.not_mem_nil) (Nat.le_refl _) (I7.pins_of fun _ z => absurd z List.not_mem_nil) (fun _ z => absurd z List.not_mem_nil) (fun _ z => absurd z List.not_mem_nil)
    (F.turn.keep _ _ _ st fun b hb o e => (pin b hb o e).1) (fun b hb => by
      obtain ⟨o, e, _⟩ := F.turn.obj _ _ st b hb
      exact (pin b hb o e).2) w7
theorem g_next {gt : TG} {tt : TT} {te : TE} {K : Cons} {Dn : Heap → Hp → Prop} {σ0 : L2.St} (hr : Room k X.A) (F : GenFix (gX X scope s4 H4 code fp a go W') (gA X) elt tg ifs a it g go (XE X W') fp tn J gt tt te) :
    NextOk (gX X scope s4 H4 code fp a go W') [] X.A.in4 X.A.in4 a g go (XE X W') σ0 K Dn := fun n P H s hd =>
  gen_next F hr.hd (by have := hr.dp; show X.A.depth < _; omega) (fun e s₁ g' x hb => XE.regen x hb) (fun e s₁ ⟨_, _, _, _, _, _, _, _, _, _, _, _, _, _, _, ag, _⟩ => ag) hd
theorem NextOk.down {Xg : Cx} {Cn : List Addr} {Ag Ac : Around} {PX : Value → Shared → Prop} {σ0 : L2.St} {K : Cons} {Dn : Heap → Hp → Prop} (h : NextOk Xg Cn Ag Ac.in1 a g go PX σ0 K Dn) : NextOk Xg Cn Ag Ac a g go PX σ0 K Dn := fun n P H s hd => wpAny_of_in1 (h n P H s hd)
/-- back in X -/
theorem g_back {H' : Hp} {s' : Shared} {σ0 : L2.St} (G : GenAtS X pins σ scope elt tg iter ifs gpos vs J H4 s4 it fp tn a g go code s5) (I' : Inv (gX X scope s4 H4 code fp a go W') [] σ0 H' s') : Inv X pins σ H' s' :=
  G.inv.call' (ch := fp) I'.os I'.base I'.hok I'.bare fun b hb => ⟨(G.fok b hb).2.2.2.1, (G.fok b hb).2.1, (G.fok b hb).2.2.2.2.1, (G.fok b hb).2.2.2.2.2⟩
theorem g_backP {H' : Hp} {s' : Shared} {σ0 : L2.St} {pf : List (Addr × Obj)} (G : GenAtS X pins σ scope elt tg iter ifs gpos vs J H4 s4 it fp tn a g go code s5) (I' : Inv (gX X scope s4 H4 code fp a go W') pf σ0 H' s') : Inv X pins σ H' s' :=
  g_back G (I'.pins_of fun _ z => absurd z List.not_mem_nil)
theorem g_code {Gs : List Addr} {Ls : LsS} (h : Code1 X Gs Ls) (G : GenAtS X pins σ scope elt tg iter ifs gpos vs J H4 s4 it fp tn a g go code s5) : Code0 (gX X scope s4 H4 code fp a go W') Gs Ls := code_sub h G.cod
end

/-! ### what a body is to be -/
structure GBody (X : Cx) (T : TbS) (Gs : List Addr) (Ls : LsS) (k : Nat) (scope : Scope) (vs : List Nat) (tg elt : Expr) (ifs : List Expr) (gm : EV → M Unit) (c : M Bool) (e : M EV) : Prop where
  body : ∀ (Xg : Cx) (Wg : WX), Xg.prog = X.prog → Xg.w = X.w → Xg.K = X.K → Xg.mg = X.mg → Xg.base = X.base → Xg.N = X.N → Xg.env.scope = scope → Xg.fn = (fun x => scope.names.lookup x == some .cell) → (Code1 X Gs Ls → Code0 Xg Gs Ls) → Kx Xg T Wg k →
    GM Xg T vs tg gm ∧ PTs Xg ifs (tMB (scOf Xg T) Wg c) ∧ EM Xg T Wg elt e
  nx : NoExc gm
/-- only these exceptions -/
def mNs {α : Type} (nl : List Str) (m : M α) : M α := fun S => match m S with
  | .exc c S' => if c ∈ nl then .exc c S' else .bad
  | r => r
theorem post_ns {α : Type} {nl : List Str} {m : M α} {S : ES} {Q : α → ES → Prop} {E : Str → ES → Prop} (h : Post (mNs nl m S) Q E) : Post (m S) Q (fun c S' => c ∈ nl ∧ E c S') := by
  unfold mNs at h
  cases hm : m S with
  | ok a S' => rw [hm] at h; exact h
  | bad => rw [hm] at h; exact h
  | exc c S' =>
    rw [hm] at h
    simp only at h
    split at h
    · rename_i hc; exact ⟨hc, h⟩
    · exact h.elim
theorem post_blk {α : Type} {vs : List Nat} {m : M α} {S : ES} {Q : α → ES → Prop} {E : Str → ES → Prop} (h : Post (mBlk vs m S) Q E) : noOwn S.sl vs = true ∧ Post (m S) (fun a S' => Q a { S' with sl := backS S.sl S'.sl vs }) (fun c S' => E c { S' with sl := backS S.sl (S'.wp vs).sl vs }) := by
  unfold mBlk at h
  split at h
  · rename_i hn
    refine ⟨hn, ?_⟩
    cases hm : m S with
    | ok a S' => rw [hm] at h; exact h
    | bad => rw [hm] at h; exact h
    | exc c S' => rw [hm] at h; exact h
  · exact h.elim

/-! ### collected, made a tuple -/
section
variable {Xg : Cx} {Ag A2 : Around} {a : Addr} {g : Nat} {go : Obj} {PX : Value → Shared → Prop} {σ0 : L2.St} {H : Hp} {s : Shared} {E : Value → Shared → Prop}
theorem g_collect {R : Addr → List V → Hp → Prop} {Q : List Value → Shared → Prop} (hn : ∀ S Dn, NextOk Xg [] Ag A2.in1 a g go PX σ0 (kCol S) Dn) (I : Inv Xg [] σ0 H s) (hgen : ∀ h : Heap, h.get? a = some go → h.IsGen a g) (hpn : Xg.pn = [(a, go)])
    (hready : ∀ S s6, H S = none → S = s.heap.objs.size → Inv Xg [] σ0 (upd H S (.lst [])) s6 → s6.gens = s.gens → (∀ b o, s.heap.get? b = some o → s6.heap.get? b = some o) →
      ∃ Dn n P, GDr Xg [] Ag (gR Xg [] σ0 Dn a g PX) (gY Xg [] (kCol S)) g n P (upd H S (.lst [])) s6 ∧ ∀ h H', Dn h H' → ∃ acc, H' S = some (.lst acc) ∧ R S acc H')
    (hE : ∀ e s', PX e s' → E e s') (hQ : ∀ S acc its H' s', Inv Xg [] σ0 H' s' → Vals acc its → H' S = some (.lst acc) → R S acc H' → Q its s') :
    wpAny (model Xg.prog Xg.w) A2 (collect (.ref a)) Q E s := by
  have pinA : ∀ {H' : Hp} {s' : Shared}, Inv Xg [] σ0 H' s' → s'.heap.get? a = some go := fun I' => (I'.pin (a, go) (List.mem_append_left _ (by rw [hpn]; exact List.mem_cons_self))).1
  have hT : ∀ {H' : Hp} {s' : Shared}, Inv Xg [] σ0 H' s' → s'.TypeIs (.ref a) "generator" := fun I' => (hgen _ (pinA I')).typeIs
  have hSI : s.heap.objs.size ≠ a := fun e => Nat.lt_irrefl _ (by have := Heap.lt_size (pinA I); rw [← e] at this; exact this)
  unfold collect
  refine wpAny_bind (wpAny_runValue (codeAny_builtin F.entry_proto_collect ?_))
  rw [Around.under_plainId F.plain_proto_collect _]
  show wpAny _ A2.in1 (newList [] >>= fun l => again (.builtin "list.__iadd__" ⟨[l, .ref a], []⟩)) _ _ s
  refine wpAny_bind (wpAny_newObj_type ?_)
  refine wpAny_pure ⟨plainId_quiet F.plain_list_iadd _, codeAny_builtin F.entry_list_iadd ?_⟩
  rw [Around.under_plainId F.plain_list_iadd _]
  generalize hS : s.heap.objs.size = S at hSI ⊢
  have hSn : H S = none := I.hok.fresh (Nat.le_of_eq hS)
  generalize hs1 : ({ s with heap := s.heap.push { cls := .type "list", data := .seq ([] : List Value).toArray } } : Shared) = s1
  have k1 : ∀ b o, s.heap.get? b = some o → s1.heap.get? b = some o := fun b o e => by rw [← hs1]; exact Heap.get?_push_of_some _ e
  have I1 : Inv Xg [] σ0 (upd H S (.lst [])) s1 := by
    rw [← hs1]
    refine I.laid (t' := s.toks) (fun b o e => Heap.get?_push_of_some _ e) (Nat.le_of_eq hS) ⟨Nat.zero_le _, [], 0, .nil, ?_⟩
    rw [← hS]
    exact Heap.get?_push_size _ rfl
  have g1 : s1.gens = s.gens := by rw [← hs1]
  show wpAny _ A2.in1 (Builtin.List.listExtendWith (.ref S) (.ref a) (.ref S)) _ _ _
  unfold Builtin.List.listExtendWith
  refine wpAny_bind (wpAny_typeOf (hT I1) ?_)
  have h1 : Builtin.List.listSameRef (.ref S) (.ref a) = false := by simp [Builtin.List.listSameRef, hSI]
  have h2 : (Value.type "generator" == Value.type "list") = false := by decide
  have h3 : (Value.type "generator" == Value.type "tuple") = false := by decide
  simp only [h1, h2, h3, Bool.or_false, Bool.false_eq_true, if_false]
  refine wpAny_bind (wpAny_pyIter_gen (hgen _ (pinA I1)) ?_)
  refine wpAny_bind (wpAny_holding ?_)
  unfold Builtin.List.listLengthHint
  refine wpAny_bind (wpAny_specialOf (hT I1) F.gen_no_len ?_)
  show wpAny _ A2.in1 (specialOf (Value.ref a) (Str.ofString "__length_hint__") >>= _) _ _ _
  refine wpAny_bind (wpAny_specialOf (hT I1) F.gen_no_hint ?_)
  refine wpAny_pure ?_
  show wpAny _ A2.in1 (rule "list.extend.makes-room" >>= fun _ => Builtin.List.listTouch (.ref S) >>= fun _ =>
    again (.builtin "list.extend.loop" ⟨[.ref S, .ref a, .ref S], []⟩)) _ _ _
  refine wpAny_bind (wpAny_rule ?_)
  refine wpAny_bind ?_
  show wpAny _ A2.in1 (updateSeq S (·.push .none) >>= fun _ => updateSeq S (·.pop)) _ _ _
  have stay : ∀ {s2 s3 : Shared} {xs : List V} {ys : List V} {f : Array Value → Array Value} {Q' : Unit → Shared → Prop} {E' : Value → Shared → Prop}, Inv Xg [] σ0 (upd H S (.lst xs)) s2 → (∀ us : List Value, Vals xs us → ∃ vs : List Value, f us.toArray = vs.toArray ∧ Vals ys vs) → ys.length ≤ sizeLine → (∀ b o, s.heap.get? b = some o → s2.heap.get? b = some o) → s2.gens = s.gens →
      (∀ s3, Inv Xg [] σ0 (upd H S (.lst ys)) s3 → (∀ b o, s.heap.get? b = some o → s3.heap.get? b = some o) → s3.gens = s.gens → Q' () s3) → wpAny (model Xg.prog Xg.w) A2.in1 (updateSeq S f) Q' E' s2 := fun {s2 s3 xs ys f Q' E'} I2 hf hz k2 hg2 hQ2 => by
    obtain ⟨z, its, c, r, e⟩ := I2.hok S _ upd_same
    obtain ⟨vs, hf, hv⟩ := hf its r
    have hl := r.length
    have hvl := hv.length
    have J := I2.write (x := S) (o := .lst ys) (h' := s2.heap.update S (Obj.mapSeq f)) (t' := s2.toks) (by rw [upd_same]; trivial) (.inl rfl) (fun b u hb q => (Heap.get?_update_other _ _ (Ne.symm hb)).trans q) ⟨_, Heap.get?_update_self _ e rfl⟩ ⟨hz, vs, (if vs.toArray.size == its.toArray.size then c else c + 1), hv, by
      rw [Heap.get?_update_self _ e rfl]
      simp only [Obj.mapSeq, hf]⟩
    rw [upd_upd] at J
    refine wpAny_updateSeq e rfl (hQ2 { s2 with heap := s2.heap.update S (Obj.mapSeq f) } J (fun b o eb => (Heap.get?_update_other _ _ (fun z => ?_)).trans (k2 b o eb)) hg2) ?_ ?_
    · have := Heap.lt_size eb
      rw [← z, ← hS] at this
      exact Nat.lt_irrefl _ this
    · rw [List.size_toArray]; omega
    · rw [hf, List.size_toArray]; omega
  refine wpAny_bind (stay (s3 := s1) (xs := []) (ys := [.non]) I1 (fun us hu => by cases hu; exact ⟨[.none], rfl, .cons rfl .nil⟩) (by show 1 ≤ sizeLine; decide) k1 g1 fun s2 I2 k2 g2 => ?_)
  refine stay (s3 := s1) (xs := [.non]) (ys := []) I2 (fun us hu => ⟨[], by cases hu with | cons r t => cases t; rfl, .nil⟩) (Nat.zero_le _) k2 g2 fun s3 I3 k3 g3 => ?_
  obtain ⟨Dn, n, P, hd, hDn⟩ := hready S s3 hSn hS.symm I3 g3 k3
  refine wpAny_pure ⟨plainId_quiet F.plain_extend_loop _, gl_extend (hn S Dn) (fun H' s' h I' d' => ?_) (fun e s' px => hE e s' px) n P _ s3 hd⟩
  obtain ⟨acc, hH, hr⟩ := hDn h H' d'
  obtain ⟨_, its, c, r, e⟩ := I'.hok S _ hH
  show wpAny _ A2 (load S >>= _) _ _ s'
  refine wpAny_bind (wpAny_load e ?_)
  dsimp only
  refine wpAny_pure ?_
  show Q its.toArray.toList s'
  rw [List.toList_toArray]
  exact hQ S acc its H' s' I' r hH hr
/-- tuple(a generator) -/
theorem g_tuple {R : Addr → List V → Hp → Prop} {Q : Value → Shared → Prop} {A : Around} (hn : ∀ S Dn, NextOk Xg [] Ag A.in1.in1.in1 a g go PX σ0 (kCol S) Dn) (I : Inv Xg [] σ0 H s) (hgen : ∀ h : Heap, h.get? a = some go → h.IsGen a g) (hpn : Xg.pn = [(a, go)])
    (hready : ∀ S s6, H S = none → S = s.heap.objs.size → Inv Xg [] σ0 (upd H S (.lst [])) s6 → s6.gens = s.gens → (∀ b o, s.heap.get? b = some o → s6.heap.get? b = some o) →
      ∃ Dn n P, GDr Xg [] Ag (gR Xg [] σ0 Dn a g PX) (gY Xg [] (kCol S)) g n P (upd H S (.lst [])) s6 ∧ ∀ h H', Dn h H' → ∃ acc, H' S = some (.lst acc) ∧ R S acc H')
    (hE : ∀ e s', PX e s' → E e s') (hQ : ∀ S acc H' s' t, H' t = none → Inv Xg [] σ0 (upd H' t (.tup acc)) s' → H' S = some (.lst acc) → R S acc H' → Q (.ref t) s') :
    wpAny (model Xg.prog Xg.w) A (call (.type "tuple") [.ref a]) Q E s := by
  have pinA : s.heap.get? a = some go := (I.pin (a, go) (List.mem_append_left _ (by rw [hpn]; exact List.mem_cons_self))).1
  have hTI : s.TypeIs (.ref a) "generator" := (hgen _ pinA).typeIs
  refine callType_codes (Q₁ := fun obj s₁ => s₁.TypeIs obj "tuple" ∧ Q obj s₁) F.called_tuple (F.typeCall_tuple_1 _) F.entry_object_init ?_ fun obj s₁ h₁ => ?_
  · refine codeAny_of_tree ?_
    show wpAny _ A.in1.in1 (do checkBuiltinCall "tuple.__new__" ⟨[.type "tuple", .ref a], []⟩; again (.builtin "tuple.__new__" ⟨[.type "tuple", .ref a], []⟩)) _ _ s
    refine wpAny_bind (wpAny_of_eq (F.newCall_tuple_1 _) (wpAny_pure ⟨plainId_quiet F.plain_tuple_new _, codeAny_builtin F.entry_tuple_new ?_⟩))
    rw [Around.under_plainId F.plain_tuple_new _]
    have hsub := sub_tuple_self
    have hinit := init_tuple_lookup
    have hmh := madeHere_tuple
    have hcol : ∀ {Q' : List Value → Shared → Prop} {E' : Value → Shared → Prop}, (∀ e s', PX e s' → E' e s') → (∀ S acc its H' s', Inv Xg [] σ0 H' s' → Vals acc its → H' S = some (.lst acc) → R S acc H' → Q' its s') → wpAny (model Xg.prog Xg.w) A.in1.in1 (collect (.ref a)) Q' E' s :=
      fun he hq => g_collect (A2 := A.in1.in1) hn I hgen hpn hready he hq
    wp_walk using wpAny_typeOf hTI, hcol
    all_goals first | exact fun e s' px => hE e s' px | skip
    intro S acc its H' s' I' r hH hr
    have hl := r.length
    obtain ⟨hz, _⟩ := I'.hok S _ hH
    show wpAny _ _ (Builtin.Tuple.tupleExact its.toArray >>= fun v => ret v) _ _ _
    unfold Builtin.Tuple.tupleExact
    refine wpAny_bind (wpAny_newObj_type ?_ (by show its.toArray.size ≤ sizeLine; rw [List.size_toArray]; omega))
    refine wpAny_pure ?_
    refine ⟨⟨_, Heap.get?_push_size _ rfl, rfl⟩, hQ S acc H' _ s'.heap.objs.size (I'.hok.fresh (Nat.le_refl _)) ?_ hH hr⟩
    exact I'.laid (t' := s'.toks) (fun b o e => Heap.get?_push_of_some _ e) (Nat.le_refl _) ⟨hz, its, r, _, Heap.get?_push_size _ rfl, rfl, _, rfl⟩
  · exact ⟨h₁.1, F.args_object_init_2 obj _, object_init_meets F.called_tuple.init.lookup F.called_tuple.made (by decide) Xg.prog Xg.w A.in1 _ s₁ ⟨h₁.1, rfl, h₁.2⟩⟩
end
end ML
/-! ML13 -/
set_option Elab.async false
set_option linter.all false
set_option autoImplicit false
set_option maxRecDepth 100000
set_option maxHeartbeats 4000000
/-! ML13: tuple, sum, any, all of a generator expression at the M layer -/
namespace ML
open PySem PySem.Spec PyProof.Rows L2

theorem JRel.mono {C : Sc} {G G' : Gh} {H H' : Hp} {J : It} {l : List EV} (j : JRel C G H J l) (le : LeR G H G' H') : JRel C G' H' J l :=
  ⟨fun i G2 H2 l2 => j.go i G2 H2 (le.trans l2), fun G2 H2 l2 => j.stop G2 H2 (le.trans l2), fun i S σ G2 H2 x H3 l2 => j.yld i S σ G2 H2 x H3 (le.trans l2)⟩
theorem eMI_bind {β : Type} {C : Sc} {G : Gh} {H : Hp} {σ : L2.St} {W : WX} {m : M (List EV)} {f : List EV → M β} {S : ES} {Qb : β → ES → Prop} {R : It → Hp → Prop} (r : SRel C S σ H G) (p : Post ((m >>= f) S) Qb (QX C G H σ W))
    (h : ∀ l S1 J H1 G1, SRel C S1 σ H1 G1 → Le G H G1 H1 → JRel C G1 H1 J l → Post (f l S1) Qb (QX C G H σ W) → R J H1) : tI C W m σ H R :=
  ⟨S, G, r, (post_bnd p).mono (fun v S1 q J H1 G1 r1 l1 jr => h v S1 J H1 G1 r1 l1 jr q) fun _ _ z => z⟩
/-- what is fixed for a generator expression in a def's text -/
structure GSite (X : Cx) (Gs : List Addr) (Ls : LsS) (W : WX) (k : Nat) (scope : Scope) (own : List (Str × Nat)) (tg iter elt : Expr) (ifs : List Expr) (nl : List Str) (mi : M (List EV)) (gm : EV → M Unit) (c : M Bool) (e : M EV) : Prop where
  kx : Kx X (tbs Gs Ls) W (k + 1)
  bm : ∃ P0, X.base.BuiltinsAt X.mg P0
  c0 : Code0 X Gs Ls
  co : scope.isCoroutine = false
  dot : scope.names.lookup (".0" : Str) = some NameKind.local
  ok : BlkOk X.N X.env.scope scope own
  nd : X.N.Nodup
  it : IM X (tbs Gs Ls) W tg iter mi
  fold : ∀ v, genFold iter X.env v = pure v
  ns : ∀ cc ∈ nl, NoStopC X.K (excV (scOf X (tbs Gs Ls)) cc)
  gb : GBody X (tbs Gs Ls) Gs Ls k scope (own.map (·.2)) tg elt ifs gm c e
section
variable {X : Cx} {Gs : List Addr} {Ls : LsS} {W : WX} {k : Nat} {scope : Scope} {own : List (Str × Nat)} {tg iter elt : Expr} {ifs : List Expr} {nl : List Str} {mi : M (List EV)} {gm : EV → M Unit} {c : M Bool} {e : M EV} {gpos p pos : Pos} {pins : List (Addr × Obj)} {σ : L2.St} {H : Hp} {s : Shared}
theorem gen_arg {β : Type} {f : List EV → M β} {Qb : β → ES → Prop} {S0 : ES} {G0 : Gh} {Q' : Value → Shared → Prop} (g : GSite X Gs Ls W k scope own tg iter elt ifs nl mi gm c e) (I : Inv X pins σ H s) (r0 : SRel (scOf X (tbs Gs Ls)) S0 σ H G0) (p0 : Post ((mi >>= f) S0) Qb (QX (scOf X (tbs Gs Ls)) G0 H σ W))
    (hQ : ∀ J H4 s4 it fp tn a gn go code s5 l S1 G1, GenAtS X pins σ scope elt tg iter ifs gpos (own.map (·.2)) J H4 s4 it fp tn a gn go code s5 → SRel (scOf X (tbs Gs Ls)) S1 σ H4 G1 → Le G0 H G1 H4 → JRel (scOf X (tbs Gs Ls)) G1 H4 J l → Post (f l S1) Qb (QX (scOf X (tbs Gs Ls)) G0 H σ W) → Q' (.ref a) s5) :
    wpAny (model X.prog X.w) X.A (eval (.GeneratorExp elt [⟨tg, iter, ifs, 0⟩] scope gpos) X.env) Q' X.xe s :=
  gen_new (R := fun J H4 => ∃ l S1 G1, SRel (scOf X (tbs Gs Ls)) S1 σ H4 G1 ∧ Le G0 H G1 H4 ∧ JRel (scOf X (tbs Gs Ls)) G1 H4 J l ∧ Post (f l S1) Qb (QX (scOf X (tbs Gs Ls)) G0 H σ W)) g.kx.room g.bm g.c0 g.co g.dot g.ok g.nd g.it g.fold I
    (eMI_bind r0 p0 fun l S1 J H1 G1 r1 l1 j1 p1 => ⟨r1.hr.tb, fun H2 q => ⟨l, S1, G1, q.srel r1, l1.trans (q.le G1), j1.mono (q.le G1).r, p1⟩⟩)
    fun J H4 s4 it fp tn a gn go code s5 ⟨l, S1, G1, r1, l1, j1, p1⟩ G => hQ J H4 s4 it fp tn a gn go code s5 l S1 G1 G r1 l1 j1 p1

/-! tuple -/
def stCol : List EV → EV → Option (List EV ⊕ Unit) := fun acc y => if acc.length < sizeLine then some (.inl (acc ++ [y])) else none
def mGTup (nl : List Str) (vs : List Nat) (mi : M (List EV)) (gm : EV → M Unit) (c : M Bool) (e : M EV) : M EV := do
  let l ← mi
  let r ← mNs nl (mBlk vs (mDraw vs gm c e stCol [] l))
  match r with
  | .inl acc => M.ret (.tup acc)
  | .inr _ => M.fail
def crCol (C : Sc) (S : Addr) : List EV → Heap → Hp → Gh → Prop := fun acc _ H G => ∃ xs, H S = some (.lst xs) ∧ Reps C G H acc xs
theorem crCol_le {C : Sc} {S : Addr} : ∀ acc h H G G' H', crCol C S acc h H G → Le (G.hid [S]) H G' H' → crCol C S acc h H' { G' with Pv := G.Pv } := fun acc h H G G' H' ⟨xs, e, r⟩ l =>
  ⟨xs, (l.unhid.2 S List.mem_cons_self _ e).eq (fun _ z => nomatch z), ((r.monoR (hid_leR G H [S])).mono l).monoR (unh_leR G' H' G.Pv)⟩
theorem em_tupG (B : Bt X.mg) (hg : Gl X "tuple") (g : GSite X Gs Ls W k scope own tg iter elt ifs nl mi gm c e)
    (he : starEach [.GeneratorExp elt [⟨tg, iter, ifs, 0⟩] scope gpos] X.env = (false, eval (.GeneratorExp elt [⟨tg, iter, ifs, 0⟩] scope gpos) X.env) :: starEach [] X.env := by rfl) :
    EM X (tbs Gs Ls) W (.Call (.Name "tuple" p) [.GeneratorExp elt [⟨tg, iter, ifs, 0⟩] scope gpos] [] pos) (mGTup nl (own.map (·.2)) mi gm c e) := by
  refine ⟨fun pins s σ H Q I h => ?_⟩
  obtain ⟨S0, G0, r0, p0⟩ := h
  refine wpAny_Call_Name_kw (ld_blt (u := .type "tuple") I hg B.tuple (by decide +kernel) ?_)
  refine PyProof.Rows.callWith_type1 ?_ he (by rfl)
  rw [he]
  show wpAny _ _ (spliced ((false, eval (.GeneratorExp elt [⟨tg, iter, ifs, 0⟩] scope gpos) X.env) :: backTo pos (starEach [] X.env))) _ _ s
  refine Calls.spliced_cons (gen_arg g I r0 p0 fun J H4 s4 it fp tn a gn go code s5 l S1 G1 G r1 l1 j1 p1 => ?_)
  refine Calls.spliced_nil ?_
  generalize hvs : own.map (·.2) = vs at G p1
  obtain ⟨pg, pt, pe⟩ := g.gb.body (gX X scope s4 H4 code fp a go W) (gW X W σ) rfl rfl rfl rfl rfl rfl rfl rfl (fun h => g_code h G) (g_kx _ g.kx.room g.kx.calm G)
  rw [hvs] at pg
  have F := g_fix g.kx.calm g.co G pg pt pe
  have I5 := G.gInv (gA X) (gXe X (cenvOf X scope s4 code) a go W) I.ok.frames g.kx.room.hd
  have hlt5 : ∀ b ∈ fp, b < s5.heap.objs.size := fun b hb => by
    obtain ⟨o, e, _⟩ := G.turn.obj _ _ G.st b hb
    exact Heap.lt_size e
  obtain ⟨hno, p2⟩ := post_blk (post_ns (post_bnd p1))
  refine g_tuple (Xg := gX X scope s4 H4 code fp a go W) (g := gn) (go := go) (PX := XE X W) (σ0 := wipe σ vs) (R := fun S acc H' => ∃ S' G' accE, DSt (scOf X (tbs Gs Ls)) vs σ [S] G1 (upd H4 S (.lst [])) S' H' G' ∧ Reps (scOf X (tbs Gs Ls)) G' H' accE acc ∧ H4 S = none ∧
      Post (M.ret (EV.tup accE) { S'.wp vs with sl := backS S1.sl (S'.wp vs).sl vs }) (QE (scOf X (tbs Gs Ls)) G0 H σ Q) (QX (scOf X (tbs Gs Ls)) G0 H σ W))
    (A := X.A) (Ag := X.A.in4) (fun S Dn => (g_next g.kx.room F).down) I5 G.gen rfl (fun S s6 hSn hS I6 g6 k6 => ?_) (fun e s' px => g.kx.tk e s' px) fun S acc H' s' t ht I' hH ⟨S', G', accE, d, rp, hSn, q⟩ => ?_
  · obtain ⟨r6, l6⟩ := r1.newN (u := .lst []) hSn
    obtain ⟨n1, n2, n3⟩ := r1.hr.new_not hSn
    have unkS : Unk S1 σ G1 S := ⟨n3, n2, n1, r1.new_own hSn⟩
    have hT := gturn (vs := vs) (c := c) (e := e) (step := stCol) (Wg := gW X W σ) (σ := σ) (K := kCol S) (hs := [S]) (Cr := crCol (scOf X (tbs Gs Ls)) S) (QQ := fun r S' => Post ((match r with
        | .inl acc => M.ret (EV.tup acc)
        | .inr _ => M.fail : M EV) { S' with sl := backS S1.sl S'.sl vs }) (QE (scOf X (tbs Gs Ls)) G0 H σ Q) (QX (scOf X (tbs Gs Ls)) G0 H σ W))
      (EE := fun cc S' => cc ∈ nl ∧ QX (scOf X (tbs Gs Ls)) G0 H σ W cc { S' with sl := backS S1.sl (S'.wp vs).sl vs }) (j1.mono l6.r) g.gb.nx crCol_le
      (fun acc acc' y yv h H G S' σ3 Nx hst r u ⟨xs, e1, rs⟩ ry nx => ?_) (fun acc rr y yv h H G S' Nx hst => ?_) (fun cc acc h S' σ3 H' G' he hw r d cr => ?_)
    · refine ⟨_, _, _, g_ready G F hT (by rw [g6]; exact G.fresh) I6 (G.turn.keep _ _ _ G.st fun b _ o e => k6 b o e) (fun b hb => ?_) ⟨rfl, Nat.zero_le _, S1, G1, [], ⟨r6.wp vs, Le.refl _ _, fun a ha => ?_⟩, ⟨[], upd_same, reps_nil.mpr rfl⟩, p2⟩, fun h' H' hd => ?_⟩
      · rw [upd_ne (fun z => by have := hlt5 b hb; rw [z, hS] at this; exact Nat.lt_irrefl _ this)]
        exact (G.fok b hb).1
      · have : a = S := by simpa using ha
        subst this
        exact ⟨unk_wp unkS vs, _, upd_same, .inl ⟨_, rfl⟩⟩
      · obtain ⟨S', G', accE, d, ⟨xs, e1, rs⟩, q⟩ := hd
        exact ⟨xs, e1, S', G', accE, d, rs, hSn, q⟩
    · unfold stCol at hst
      split at hst
      · rename_i hz
        cases hst
        have hl := rs.length
        refine ⟨xs, e1, by omega, fun h' => ?_⟩
        obtain ⟨r2, l2⟩ := r.updU (o := .lst (xs ++ [yv])) (u S List.mem_cons_self) ((scOf X (tbs Gs Ls)).tbu H S _ r.hr.tb (.inr (.inl ⟨xs, e1⟩)))
        exact nx h' _ G r2 l2 (fun a ha => by
          have : a = S := by simpa using ha
          subst this
          exact ⟨u _ List.mem_cons_self, _, upd_same, .inl ⟨_, rfl⟩⟩) ⟨_, upd_same, (rs.mono l2).append (Reps.one (ry.mono l2))⟩
      · cases hst
    · unfold stCol at hst
      split at hst <;> cases hst
    · exact ⟨g.ns cc he.1, he.2 H' G' (r6.bk hno d.rel d.le) (l1.trans (l6.trans d.le))⟩
  · obtain ⟨r6, l6⟩ := r1.newN (u := .lst []) hSn
    have rb := r6.bk hno d.rel d.le
    obtain ⟨rf, lf⟩ := rb.newF (u := .tup acc) ht
    refine ⟨.ref t, _, g_back G I', rfl, q _ _ _ rf (l1.trans (l6.trans (d.le.trans lf))) ?_⟩
    rw [rep_tup]
    exact ⟨t, acc, rfl, frz_self G' t, upd_same, rp.mono lf⟩
end

/-! an exception in the air, while a list that is known is written -/
section
variable {X : Cx} {W W' : WX} {s' : Shared}
theorem traced_upd {h base : Heap} {e S : Addr} {Z : Obj → Prop} {fl : Value} {o : Obj} {f : Array Value → Array Value} (hb : base.get? S = some o) (hh : h.get? S = some o) (hd : ∀ vs, o.data ≠ .fields vs) (fr : (Obj.mapSeq f o).isFreed = false)
    (x : HandSPX.TracedZ h base e Z fl) : HandSPX.TracedZ (h.update S (Obj.mapSeq f)) (base.update S (Obj.mapSeq f)) e Z fl := by
  obtain ⟨oe, vs, T, oT, ts, he, hz, hv, h1, hT, hne, hoT, hts, h3⟩ := x
  have ne : S ≠ e := fun z => by rw [← z, hh] at he; cases he; exact hd _ hv
  have nT : S ≠ T := fun z => by rw [← z, hb] at hT; cases hT
  exact ⟨oe, vs, T, oT, ts, (Heap.get?_update_other _ _ ne).trans he, hz, hv, h1, (Heap.get?_update_other _ _ nT).trans hT, hne, (Heap.get?_update_other _ _ nT).trans hoT, hts, h3⟩
theorem frames_upd {h base : Heap} {S : Addr} {l : List Env} {o : Obj} {f : Array Value → Array Value} (hb : base.get? S = some o) (x : h.FunFrames base l) : (h.update S (Obj.mapSeq f)).FunFrames (base.update S (Obj.mapSeq f)) l := by
  have nL : ∀ L ∈ frs l, S ≠ L := fun L hL z => by
    have := (x.mem hL).1
    rw [← z, hb] at this; cases this
  have key : ∀ (l : List Env), (∀ L ∈ frs l, S ≠ L) → h.FunFrames base l → (h.update S (Obj.mapSeq f)).FunFrames (base.update S (Obj.mapSeq f)) l := by
    intro l
    induction l with
    | nil => intro _ _; trivial
    | cons env r ih =>
      intro hn hl
      obtain ⟨hk, ⟨L, o', hf, hno, ho, hd⟩, hr⟩ := hl
      have hm : L ∈ frs (env :: r) := by unfold frs; rw [List.filterMap_cons, hf]; exact List.mem_cons_self
      refine ⟨hk, ⟨L, o', hf, (Heap.get?_update_other _ _ (hn L hm)).trans hno, (Heap.get?_update_other _ _ (hn L hm)).trans ho, hd⟩, ih (fun b hb => hn b ?_) hr⟩
      unfold frs; rw [List.filterMap_cons, hf]; exact List.mem_cons_of_mem _ hb
  exact key l nL x
theorem xe_upd {S : Addr} {ys : List V} {f : Array Value → Array Value} {u : Value} {A : Around} {M : Model} (hf : ∀ (xs : List V) (us : List Value), Vals xs us → ∃ vs : List Value, f us.toArray = vs.toArray ∧ Vals ys vs) (hz : ys.length ≤ sizeLine)
    (hW : ∀ cls d σ H, W' cls d σ H → (∃ xs, H S = some (.lst xs)) ∧ W cls d σ (upd H S (.lst ys))) (x : XE X W' u s') : wpAny M A (updateSeq S f) (fun _ s2 => XE X W u s2) (fun _ _ => False) s' := by
  obtain ⟨a, B, sI, pins, σ, H, cls, d, rfl, I, nb, up, sky, na, os, ag, w⟩ := x
  obtain ⟨⟨xs, hS⟩, w2⟩ := hW _ _ _ _ w
  obtain ⟨z, its, c, r, e⟩ := I.hok S _ hS
  obtain ⟨vs, hfv, hv⟩ := hf xs its r
  have hl := r.length
  have hvl := hv.length
  have nS : S ∉ frs X.stack := fun hm => by have := I.stkFree S hm; rw [hS] at this; cases this
  have eB : B.get? S = some { cls := .type "list", data := .seq its.toArray c } := nb S _ e nS
  have st : B.StaysIn s'.heap := by
    rcases sky with ⟨h, _⟩ | ⟨h, _⟩ | ⟨h, _⟩ <;> exact h
  have eh : s'.heap.get? S = some { cls := .type "list", data := .seq its.toArray c } := st S _ eB
  have hd : ∀ vs, (({ cls := .type "list", data := .seq its.toArray c } : Obj)).data ≠ .fields vs := fun _ z => nomatch z
  have naS : S ≠ a := fun z => by rw [z, na] at hS; cases hS
  refine wpAny_updateSeq eh rfl ?_ (by rw [List.size_toArray]; omega) (by rw [hfv, List.size_toArray]; omega)
  have J := I.write (x := S) (o := .lst ys) (h' := sI.heap.update S (Obj.mapSeq f)) (t' := sI.toks) (by rw [hS]; trivial) (.inl rfl) (fun b u hb q => (Heap.get?_update_other _ _ (Ne.symm hb)).trans q) ⟨_, Heap.get?_update_self _ e rfl⟩ ⟨hz, vs, (if vs.toArray.size == its.toArray.size then c else c + 1), hv, by
      rw [Heap.get?_update_self _ e rfl]
      simp only [Obj.mapSeq, hfv]⟩
  refine ⟨a, B.update S (Obj.mapSeq f), { sI with heap := sI.heap.update S (Obj.mapSeq f) }, pins, σ, upd H S (.lst ys), cls, d, rfl, J, fun b o hb hn => ?_, fun b o hb hnf => ?_, ?_, by rw [upd_ne (Ne.symm naS)]; exact na, os, ag, w2⟩
  · by_cases h : S = b
    · subst h
      rw [show ({ sI with heap := sI.heap.update S (Obj.mapSeq f) } : Shared).heap.get? S = (sI.heap.update S (Obj.mapSeq f)).get? S from rfl, Heap.get?_update_self _ e rfl] at hb
      rw [Heap.get?_update_self _ eB rfl]; exact hb
    · rw [Heap.get?_update_other _ _ h]
      exact nb b o ((Heap.get?_update_other _ _ h).symm.trans hb) hn
  · by_cases h : S = b
    · subst h
      have hb' : (sI.heap.update S (Obj.mapSeq f)).get? S = some o := hb
      rw [Heap.get?_update_self _ e rfl] at hb'
      refine ⟨o.slots, ?_⟩
      show (s'.heap.update S (Obj.mapSeq f)).get? S = _
      rw [Heap.get?_update_self _ eh rfl]; exact hb'
    · obtain ⟨sl, q⟩ := up b o ((Heap.get?_update_other _ _ h).symm.trans hb) hnf
      exact ⟨sl, (Heap.get?_update_other _ _ h).trans q⟩
  · have stay : (B.update S (Obj.mapSeq f)).StaysIn (s'.heap.update S (Obj.mapSeq f)) := fun b o hb => by
      by_cases h : S = b
      · subst h
        rw [Heap.get?_update_self _ eB rfl] at hb
        rw [Heap.get?_update_self _ eh rfl]; exact hb
      · rw [Heap.get?_update_other _ _ h] at hb ⊢
        exact st b o hb
    have bn : B.get? a = none → (B.update S (Obj.mapSeq f)).get? a = none := fun q => (Heap.get?_update_other _ _ naS).trans q
    rcases sky with ⟨_, q2, q3, oe, vs', q4, q5, q6, q7⟩ | ⟨_, q2, q3, q4⟩ | ⟨_, q2, q3, q4⟩
    · refine .inl ⟨stay, bn q2, frames_upd eB q3, oe, vs', (Heap.get?_update_other _ _ ?_).trans q4, q5, q6, q7⟩
      exact naS
    · exact .inr (.inl ⟨stay, bn q2, frames_upd eB q3, traced_upd eB eh hd rfl q4⟩)
    · exact .inr (.inr ⟨stay, bn q2, frames_upd eB q3, traced_upd eB eh hd rfl q4⟩)
end
end ML
/-! ML14 -/
set_option Elab.async false
set_option linter.all false
set_option autoImplicit false
set_option maxRecDepth 100000
set_option maxHeartbeats 4000000
/-! ML14: sum, any, all of a generator expression at the M layer -/
namespace ML
open PySem PySem.Spec PyProof.Rows L2

section
variable {X : Cx} {Gs : List Addr} {Ls : LsS} {W : WX} {k : Nat} {scope : Scope} {own : List (Str × Nat)} {tg iter elt : Expr} {ifs : List Expr} {nl : List Str} {mi : M (List EV)} {gm : EV → M Unit} {c : M Bool} {e : M EV} {gpos p pos : Pos}
def finM {γ : Type} (f : γ → EV) : γ ⊕ Unit → M EV
  | .inl a => M.ret (f a)
  | .inr _ => M.fail
/-! sum -/
def stSum : Int → EV → Option (Int ⊕ Unit) := fun acc y => match y with
  | .int i => some (.inl (acc + i))
  | _ => none
def mGSum (nl : List Str) (vs : List Nat) (mi : M (List EV)) (gm : EV → M Unit) (c : M Bool) (e : M EV) : M EV := do
  let l ← mi
  let r ← mNs nl (mBlk vs (mDraw vs gm c e stSum 0 l))
  finM .int r
def crSum (S : Addr) : Int → Heap → Hp → Gh → Prop := fun acc h H _ => H S = some (.lst [.int acc]) ∧ HasV S h [.int acc]
theorem crSum_le {S : Addr} : ∀ acc h H G G' H', crSum S acc h H G → Le (G.hid [S]) H G' H' → crSum S acc h H' { G' with Pv := G.Pv } := fun acc h H G G' H' ⟨e, r⟩ l =>
  ⟨(l.unhid.2 S List.mem_cons_self _ e).eq (fun _ z => nomatch z), r⟩
def wSum (W : WX) (S : Addr) : WX := fun cls d σ H => (∃ xs, H S = some (.lst xs)) ∧ W cls d σ (upd H S (.lst []))
theorem em_sumG (B : Bt X.mg) (hg : Gl X "sum") (g : GSite X Gs Ls W k scope own tg iter elt ifs nl mi gm c e)
    (he : starEach [.GeneratorExp elt [⟨tg, iter, ifs, 0⟩] scope gpos] X.env = (false, eval (.GeneratorExp elt [⟨tg, iter, ifs, 0⟩] scope gpos) X.env) :: starEach [] X.env := by rfl) :
    EM X (tbs Gs Ls) W (.Call (.Name "sum" p) [.GeneratorExp elt [⟨tg, iter, ifs, 0⟩] scope gpos] [] pos) (mGSum nl (own.map (·.2)) mi gm c e) := by
  refine ⟨fun pins s σ H Q I h => ?_⟩
  obtain ⟨S0, G0, r0, p0⟩ := h
  refine wpAny_Call_Name_kw (ld_blt (u := .builtin "sum") I hg B.sum (by decide +kernel) ?_)
  refine PyProof.Rows.callWith_builtin1 ?_ he (by rfl)
  rw [he]
  show wpAny _ _ (spliced ((false, eval (.GeneratorExp elt [⟨tg, iter, ifs, 0⟩] scope gpos) X.env) :: backTo pos (starEach [] X.env))) _ _ s
  refine Calls.spliced_cons (gen_arg g I r0 p0 fun J H4 s4 it fp tn a gn go code s5 l S1 G1 G r1 l1 j1 p1 => ?_)
  refine Calls.spliced_nil ?_
  generalize hvs : own.map (·.2) = vs at G p1
  generalize hS : s5.heap.objs.size = S
  obtain ⟨pg, pt, pe⟩ := g.gb.body (gX X scope s4 H4 code fp a go (wSum W S)) (gW X (wSum W S) σ) rfl rfl rfl rfl rfl rfl rfl rfl (fun h => g_code h G) (g_kx _ g.kx.room g.kx.calm G)
  rw [hvs] at pg
  have Fx := g_fix g.kx.calm g.co G pg pt pe
  have I5 := G.gInv (gA X) (gXe X (cenvOf X scope s4 code) a go (wSum W S)) I.ok.frames g.kx.room.hd
  have hlt5 : ∀ b ∈ fp, b < s5.heap.objs.size := fun b hb => by
    obtain ⟨o, e, _⟩ := G.turn.obj _ _ G.st b hb
    exact Heap.lt_size e
  obtain ⟨hno, p2⟩ := post_blk (post_ns (post_bnd p1))
  have pinA : s5.heap.get? a = some go := (I5.pin (a, go) (List.mem_append_left _ List.mem_cons_self)).1
  refine call_function_tree F.kind_sum F.plain_sum F.entry_sum (F.args_sum1 _) ?_
  unfold Builtin.«sum»
  simp only [List.length_cons, List.length_nil]
  rw [if_neg (by decide)]
  refine wpAny_bind (wpAny_of_eq (show Builtin.Builtins.bindParams "sum" ["start"] 0 { } = pure [none] from rfl) ?_)
  refine wpAny_bind (wpAny_pyIter_gen (G.gen _ pinA) ?_)
  refine wpAny_bind (wpAny_mkInt ?_)
  refine wpAny_bind (wpAny_pure ?_)
  simp only [List.forIn_cons, List.forIn_nil]
  refine wpAny_bind (wpAny_bind (wpAny_bind (wpAny_isInstance (T := "int") (b := false) (typeIs_int _ _ _) PySem.sub_int_str ?_)))
  simp only [Bool.false_eq_true, if_false]
  refine wpAny_pure (wpAny_bind (wpAny_bind (wpAny_isInstance (T := "int") (b := false) (typeIs_int _ _ _) PySem.sub_int_bytes ?_)))
  simp only [Bool.false_eq_true, if_false]
  refine wpAny_pure (wpAny_bind (wpAny_bind (wpAny_isInstance (T := "int") (b := false) (typeIs_int _ _ _) PySem.sub_int_bytearray ?_)))
  simp only [Bool.false_eq_true, if_false]
  refine wpAny_pure (wpAny_pure ?_)
  refine wpAny_bind (wpAny_newObj_type ?_)
  have hSn : H4 S = none := by
    have := I5.hok.fresh (Nat.le_of_eq hS)
    exact this
  generalize hs6 : ({ s5 with heap := s5.heap.push { cls := .type "list", data := .seq ([Value.int 0 s5.toks] : List Value).toArray }, toks := s5.toks + 1 } : Shared) = s6
  have k6 : ∀ b o, s5.heap.get? b = some o → s6.heap.get? b = some o := fun b o e => by rw [← hs6]; exact Heap.get?_push_of_some _ e
  have I6 : Inv (gX X scope s4 H4 code fp a go (wSum W S)) [] (wipe σ vs) (upd H4 S (.lst [.int 0])) s6 := by
    rw [← hs6]
    refine I5.laid (t' := s5.toks + 1) (fun b o e => Heap.get?_push_of_some _ e) (Nat.le_of_eq hS) ⟨by show 1 ≤ sizeLine; decide, [.int 0 s5.toks], 0, .cons ⟨_, rfl⟩ .nil, ?_⟩
    rw [← hS]
    exact Heap.get?_push_size _ rfl
  have g6 : s6.gens = s5.gens := by rw [← hs6]
  rw [hS]
  obtain ⟨r6, l6⟩ := r1.newN (u := .lst [.int 0]) hSn
  obtain ⟨n1, n2, n3⟩ := r1.hr.new_not hSn
  have unkS : Unk S1 σ G1 S := ⟨n3, n2, n1, r1.new_own hSn⟩
  have hT := gturn (vs := vs) (c := c) (e := e) (step := stSum) (Wg := gW X (wSum W S) σ) (σ := σ) (K := kSum S) (hs := [S]) (Cr := crSum S) (QQ := fun r S' => Post (finM EV.int r { S' with sl := backS S1.sl S'.sl vs }) (QE (scOf X (tbs Gs Ls)) G0 H σ Q) (QX (scOf X (tbs Gs Ls)) G0 H σ W))
      (EE := fun cc S' => cc ∈ nl ∧ QX (scOf X (tbs Gs Ls)) G0 H σ W cc { S' with sl := backS S1.sl (S'.wp vs).sl vs }) (j1.mono l6.r) g.gb.nx crSum_le
      (fun acc acc' y yv h H G S' σ3 Nx hst r u ⟨e1, hv⟩ ry nx => ?_) (fun acc rr y yv h H G S' Nx hst => ?_) (fun cc acc h S' σ3 H' G' he hw r d cr => ?_)
  · have hd := g_ready (m := l.length) G Fx hT (by rw [g6]; exact G.fresh) I6 (G.turn.keep _ _ _ G.st fun b _ o e => k6 b o e) (fun b hb => by
        rw [upd_ne (fun z => by have := hlt5 b hb; rw [z, hS] at this; exact Nat.lt_irrefl _ this)]
        exact (G.fok b hb).1) ⟨rfl, Nat.zero_le _, S1, G1, 0, ⟨r6.wp vs, Le.refl _ _, fun a ha => by
          have : a = S := by simpa using ha
          subst this
          exact ⟨unk_wp unkS vs, _, upd_same, .inl ⟨_, rfl⟩⟩⟩, ⟨upd_same, hasV_of I6 upd_same⟩, p2⟩
    have nxt : NextOk (gX X scope s4 H4 code fp a go (wSum W S)) [] X.A.in4 X.A.in1 a gn go (XE X (wSum W S)) (wipe σ vs) (kSum S) (Dd (scOf X (tbs Gs Ls)) vs σ [S] (crSum S) G1 (upd H4 S (.lst [.int 0])) (fun r S' => Post (finM EV.int r { S' with sl := backS S1.sl S'.sl vs }) (QE (scOf X (tbs Gs Ls)) G0 H σ Q) (QX (scOf X (tbs Gs Ls)) G0 H σ W))) := (g_next g.kx.room Fx).down.down.down
    refine wpAny_pure ⟨plainId_quiet F.plain_sum_loop _, gl_sum (PXo := XE X W) (Ac := X.A) nxt (fun H' s' h x t I' hv hd' => ?_) (fun e s1 px => ?_) (fun e s' px => g.kx.tk e s' px) _ _ _ s6 0 0 (.inl rfl) (hasV_of I6 upd_same) hd⟩
    · obtain ⟨S', G', acc, d, ⟨e1, hv1⟩, q⟩ := hd'
      have ex : x = acc := by
        have := hv.fun hv1
        simpa using this
      subst ex
      exact ⟨.int x, H', g_back G I', ⟨t, rfl⟩, q _ _ _ (r6.bk hno d.rel d.le) (l1.trans (l6.trans d.le)) (rep_int.mpr rfl)⟩
    · exact xe_upd (W' := wSum W S) (W := W) (ys := []) (fun xs us _ => ⟨[], rfl, .nil⟩) (Nat.zero_le _) (fun cls d σ H h => h) px
  · unfold stSum at hst
    split at hst
    · rename_i i
      cases hst
      rw [rep_int] at ry
      subst ry
      refine ⟨i, acc, rfl, hv, e1, fun h' hv' => ?_⟩
      obtain ⟨r2, l2⟩ := r.updU (o := .lst [.int (acc + i)]) (u S List.mem_cons_self) ((scOf X (tbs Gs Ls)).tbu H S _ r.hr.tb (.inr (.inl ⟨_, e1⟩)))
      exact nx h' _ G r2 l2 (fun a ha => by
        have : a = S := by simpa using ha
        subst this
        exact ⟨u _ List.mem_cons_self, _, upd_same, .inl ⟨_, rfl⟩⟩) ⟨upd_same, hv'⟩
    · cases hst
  · unfold stSum at hst
    split at hst <;> cases hst
  · obtain ⟨e1, hv⟩ := cr
    have rb := r6.bk hno d.rel d.le
    have ub : Unk { S'.wp vs with sl := backS S1.sl (S'.wp vs).sl vs } σ G' S := by
      refine ⟨(d.unk S List.mem_cons_self).1.1, (d.unk S List.mem_cons_self).1.2.1, (d.unk S List.mem_cons_self).1.2.2.1, ?_⟩
      rintro ⟨i, o, q1, q2⟩
      have q := rb.slot i
      rw [q1, q2] at q
      obtain ⟨b, u, eb, hu, ho, m1, m2, m3⟩ := q
      cases eb
      have q1 : (backS S1.sl (S'.wp vs).sl vs)[i]? = some (Slot.own o) := q1
      rw [backS_get] at q1
      have hl : (S'.wp vs).sl.length = σ.length := by rw [d.rel.len, wipe_length]
      split at q1
      · rename_i hi
        have hi1 : i < S1.sl.length := by rw [r1.len, ← hl]; exact hi.2
        rw [List.getElem?_eq_getElem hi1] at q1
        have no := hno
        unfold noOwn at no
        have := List.all_eq_true.mp no i hi.1
        rw [List.getElem?_eq_getElem hi1, show S1.sl[i] = Slot.own o from Option.some.inj q1] at this
        cases this
      · rename_i hi
        refine (d.unk S List.mem_cons_self).1.2.2.2 ⟨i, o, q1, ?_⟩
        rw [wipe_get, if_neg (by rw [← hl]; exact hi)]
        exact q2
    obtain ⟨ru, lu⟩ := rb.updU (o := .lst []) ub ((scOf X (tbs Gs Ls)).tbu H' S _ rb.hr.tb (.inr (.inl ⟨_, e1⟩)))
    exact ⟨g.ns cc he.1, ⟨_, e1⟩, he.2 _ G' ru (l1.trans (l6.trans (d.le.trans lu)))⟩

def trB : V → Hp → Option Bool := fun y _ => match y with
  | .bl b => some b
  | _ => none
theorem truB {Xg : Cx} : TruOk Xg trB := fun {A pf σ2 H s y v b Q E} _ I r e h => by
  unfold trB at e
  split at e
  · cases e
    cases r
    exact wpAny_truthy_bool h
  · cases e

/-! any -/
def stany : Unit → EV → Option (Unit ⊕ Unit) := fun _ y => match y with
  | .bl b => some (if b = true then .inr () else .inl ())
  | _ => none
def finany : Unit ⊕ Unit → M EV
  | .inl _ => M.ret (.bl false)
  | .inr _ => M.ret (.bl true)
def mGany (nl : List Str) (vs : List Nat) (mi : M (List EV)) (gm : EV → M Unit) (c : M Bool) (e : M EV) : M EV := do
  let l ← mi
  let r ← mNs nl (mBlk vs (mDraw vs gm c e stany () l))
  finany r
theorem em_anyG (B : Bt X.mg) (hg : Gl X "any") (g : GSite X Gs Ls W k scope own tg iter elt ifs nl mi gm c e)
    (he : starEach [.GeneratorExp elt [⟨tg, iter, ifs, 0⟩] scope gpos] X.env = (false, eval (.GeneratorExp elt [⟨tg, iter, ifs, 0⟩] scope gpos) X.env) :: starEach [] X.env := by rfl) :
    EM X (tbs Gs Ls) W (.Call (.Name "any" p) [.GeneratorExp elt [⟨tg, iter, ifs, 0⟩] scope gpos] [] pos) (mGany nl (own.map (·.2)) mi gm c e) := by
  refine ⟨fun pins s σ H Q I h => ?_⟩
  obtain ⟨S0, G0, r0, p0⟩ := h
  refine wpAny_Call_Name_kw (ld_blt (u := .builtin "any") I hg B.any (by decide +kernel) ?_)
  refine PyProof.Rows.callWith_builtin1 ?_ he (by rfl)
  rw [he]
  show wpAny _ _ (spliced ((false, eval (.GeneratorExp elt [⟨tg, iter, ifs, 0⟩] scope gpos) X.env) :: backTo pos (starEach [] X.env))) _ _ s
  refine Calls.spliced_cons (gen_arg g I r0 p0 fun J H4 s4 it fp tn a gn go code s5 l S1 G1 G r1 l1 j1 p1 => ?_)
  refine Calls.spliced_nil ?_
  generalize hvs : own.map (·.2) = vs at G p1
  obtain ⟨pg, pt, pe⟩ := g.gb.body (gX X scope s4 H4 code fp a go W) (gW X W σ) rfl rfl rfl rfl rfl rfl rfl rfl (fun h => g_code h G) (g_kx _ g.kx.room g.kx.calm G)
  rw [hvs] at pg
  have Fx := g_fix g.kx.calm g.co G pg pt pe
  have I5 := G.gInv (gA X) (gXe X (cenvOf X scope s4 code) a go W) I.ok.frames g.kx.room.hd
  obtain ⟨hno, p2⟩ := post_blk (post_ns (post_bnd p1))
  have pinA : s5.heap.get? a = some go := (I5.pin (a, go) (List.mem_append_left _ List.mem_cons_self)).1
  refine call_function_tree F.kind_any F.plain_any F.entry_any (F.args_any1 _) ?_
  unfold Builtin.«any»
  refine wpAny_bind (m := oneArg "any" _) (wpAny_pure ?_)
  refine wpAny_bind (wpAny_pyIter_gen (G.gen _ pinA) ?_)
  have hT := gturn (vs := vs) (c := c) (e := e) (step := stany) (Wg := gW X W σ) (σ := σ) (K := kTest trB true (fun H' => ∃ S' G', DSt (scOf X (tbs Gs Ls)) vs σ [] G1 H4 S' H' G' ∧ Post (finany (.inr ()) { S'.wp vs with sl := backS S1.sl (S'.wp vs).sl vs }) (QE (scOf X (tbs Gs Ls)) G0 H σ Q) (QX (scOf X (tbs Gs Ls)) G0 H σ W))) (hs := []) (Cr := fun _ _ _ _ => True) (QQ := fun r S' => Post (finany r { S' with sl := backS S1.sl S'.sl vs }) (QE (scOf X (tbs Gs Ls)) G0 H σ Q) (QX (scOf X (tbs Gs Ls)) G0 H σ W))
      (EE := fun cc S' => cc ∈ nl ∧ QX (scOf X (tbs Gs Ls)) G0 H σ W cc { S' with sl := backS S1.sl (S'.wp vs).sl vs }) j1 g.gb.nx (fun _ _ _ _ _ _ _ _ => True.intro)
      (fun acc acc' y yv h H G S' σ3 Nx hst r u _ ry nx => ?_) (fun acc rr y yv h H G S' Nx hst d _ ry q => ?_) (fun cc acc h S' σ3 H' G' he hw r d _ => ?_)
  · have hd := g_ready (m := l.length) G Fx hT G.fresh I5 G.st (fun b hb => (G.fok b hb).1) ⟨rfl, Nat.zero_le _, S1, G1, (), ⟨r1.wp vs, Le.refl _ _, fun a ha => absurd ha List.not_mem_nil⟩, True.intro, p2⟩
    refine wpAny_pure ⟨plainId_quiet F.plain_any_loop _, gl_any (Ac := X.A) g.kx.room.hd truB (g_next g.kx.room Fx).down.down.down (fun H' s' h I' hd' => ?_) (fun pf σ2 H' s' I' hs' => ?_) (fun e s' px => g.kx.tk e s' px) _ _ _ s5 hd⟩
    · obtain ⟨S', G', acc, d, _, q⟩ := hd'
      exact ⟨.bl false, H', g_back G I', rfl, q _ _ _ (r1.bk hno d.rel d.le) (l1.trans d.le) (rep_bl.mpr rfl)⟩
    · obtain ⟨S', G', d, q⟩ := hs'
      exact ⟨.bl true, H', g_backP G I', rfl, q _ _ _ (r1.bk hno d.rel d.le) (l1.trans d.le) (rep_bl.mpr rfl)⟩
  · unfold stany at hst
    split at hst
    · rename_i b
      rw [rep_bl] at ry
      subst ry
      split at hst
      · cases hst
      · rename_i hb
        exact ⟨b, rfl, by rw [if_neg hb]; exact fun h' => nx h' _ G r (Le.refl _ _) (fun a ha => absurd ha List.not_mem_nil) True.intro⟩
    · cases hst
  · unfold stany at hst
    split at hst
    · rename_i b
      rw [rep_bl] at ry
      subst ry
      split at hst
      · rename_i hb
        exact ⟨b, rfl, by rw [if_pos hb]; exact ⟨S', G, d, q⟩⟩
      · cases hst
    · cases hst
  · exact ⟨g.ns cc he.1, he.2 H' G' (r1.bk hno d.rel d.le) (l1.trans d.le)⟩

/-! all -/
def stall : Unit → EV → Option (Unit ⊕ Unit) := fun _ y => match y with
  | .bl b => some (if b = false then .inr () else .inl ())
  | _ => none
def finall : Unit ⊕ Unit → M EV
  | .inl _ => M.ret (.bl true)
  | .inr _ => M.ret (.bl false)
def mGall (nl : List Str) (vs : List Nat) (mi : M (List EV)) (gm : EV → M Unit) (c : M Bool) (e : M EV) : M EV := do
  let l ← mi
  let r ← mNs nl (mBlk vs (mDraw vs gm c e stall () l))
  finall r
theorem em_allG (B : Bt X.mg) (hg : Gl X "all") (g : GSite X Gs Ls W k scope own tg iter elt ifs nl mi gm c e)
    (he : starEach [.GeneratorExp elt [⟨tg, iter, ifs, 0⟩] scope gpos] X.env = (false, eval (.GeneratorExp elt [⟨tg, iter, ifs, 0⟩] scope gpos) X.env) :: starEach [] X.env := by rfl) :
    EM X (tbs Gs Ls) W (.Call (.Name "all" p) [.GeneratorExp elt [⟨tg, iter, ifs, 0⟩] scope gpos] [] pos) (mGall nl (own.map (·.2)) mi gm c e) := by
  refine ⟨fun pins s σ H Q I h => ?_⟩
  obtain ⟨S0, G0, r0, p0⟩ := h
  refine wpAny_Call_Name_kw (ld_blt (u := .builtin "all") I hg B.all (by decide +kernel) ?_)
  refine PyProof.Rows.callWith_builtin1 ?_ he (by rfl)
  rw [he]
  show wpAny _ _ (spliced ((false, eval (.GeneratorExp elt [⟨tg, iter, ifs, 0⟩] scope gpos) X.env) :: backTo pos (starEach [] X.env))) _ _ s
  refine Calls.spliced_cons (gen_arg g I r0 p0 fun J H4 s4 it fp tn a gn go code s5 l S1 G1 G r1 l1 j1 p1 => ?_)
  refine Calls.spliced_nil ?_
  generalize hvs : own.map (·.2) = vs at G p1
  obtain ⟨pg, pt, pe⟩ := g.gb.body (gX X scope s4 H4 code fp a go W) (gW X W σ) rfl rfl rfl rfl rfl rfl rfl rfl (fun h => g_code h G) (g_kx _ g.kx.room g.kx.calm G)
  rw [hvs] at pg
  have Fx := g_fix g.kx.calm g.co G pg pt pe
  have I5 := G.gInv (gA X) (gXe X (cenvOf X scope s4 code) a go W) I.ok.frames g.kx.room.hd
  obtain ⟨hno, p2⟩ := post_blk (post_ns (post_bnd p1))
  have pinA : s5.heap.get? a = some go := (I5.pin (a, go) (List.mem_append_left _ List.mem_cons_self)).1
  refine call_function_tree F.kind_all F.plain_all F.entry_all (F.args_all1 _) ?_
  unfold Builtin.«all»
  refine wpAny_bind (m := oneArg "all" _) (wpAny_pure ?_)
  refine wpAny_bind (wpAny_pyIter_gen (G.gen _ pinA) ?_)
  have hT := gturn (vs := vs) (c := c) (e := e) (step := stall) (Wg := gW X W σ) (σ := σ) (K := kTest trB false (fun H' => ∃ S' G', DSt (scOf X (tbs Gs Ls)) vs σ [] G1 H4 S' H' G' ∧ Post (finall (.inr ()) { S'.wp vs with sl := backS S1.sl (S'.wp vs).sl vs }) (QE (scOf X (tbs Gs Ls)) G0 H σ Q) (QX (scOf X (tbs Gs Ls)) G0 H σ W))) (hs := []) (Cr := fun _ _ _ _ => True) (QQ := fun r S' => Post (finall r { S' with sl := backS S1.sl S'.sl vs }) (QE (scOf X (tbs Gs Ls)) G0 H σ Q) (QX (scOf X (tbs Gs Ls)) G0 H σ W))
      (EE := fun cc S' => cc ∈ nl ∧ QX (scOf X (tbs Gs Ls)) G0 H σ W cc { S' with sl := backS S1.sl (S'.wp vs).sl vs }) j1 g.gb.nx (fun _ _ _ _ _ _ _ _ => True.intro)
      (fun acc acc' y yv h H G S' σ3 Nx hst r u _ ry nx => ?_) (fun acc rr y yv h H G S' Nx hst d _ ry q => ?_) (fun cc acc h S' σ3 H' G' he hw r d _ => ?_)
  · have hd := g_ready (m := l.length) G Fx hT G.fresh I5 G.st (fun b hb => (G.fok b hb).1) ⟨rfl, Nat.zero_le _, S1, G1, (), ⟨r1.wp vs, Le.refl _ _, fun a ha => absurd ha List.not_mem_nil⟩, True.intro, p2⟩
    refine wpAny_pure ⟨plainId_quiet F.plain_all_loop _, gl_all (Ac := X.A) g.kx.room.hd truB (g_next g.kx.room Fx).down.down.down (fun H' s' h I' hd' => ?_) (fun pf σ2 H' s' I' hs' => ?_) (fun e s' px => g.kx.tk e s' px) _ _ _ s5 hd⟩
    · obtain ⟨S', G', acc, d, _, q⟩ := hd'
      exact ⟨.bl true, H', g_back G I', rfl, q _ _ _ (r1.bk hno d.rel d.le) (l1.trans d.le) (rep_bl.mpr rfl)⟩
    · obtain ⟨S', G', d, q⟩ := hs'
      exact ⟨.bl false, H', g_backP G I', rfl, q _ _ _ (r1.bk hno d.rel d.le) (l1.trans d.le) (rep_bl.mpr rfl)⟩
  · unfold stall at hst
    split at hst
    · rename_i b
      rw [rep_bl] at ry
      subst ry
      split at hst
      · cases hst
      · rename_i hb
        exact ⟨b, rfl, by rw [if_neg hb]; exact fun h' => nx h' _ G r (Le.refl _ _) (fun a ha => absurd ha List.not_mem_nil) True.intro⟩
    · cases hst
  · unfold stall at hst
    split at hst
    · rename_i b
      rw [rep_bl] at ry
      subst ry
      split at hst
      · rename_i hb
        exact ⟨b, rfl, by rw [if_pos hb]; exact ⟨S', G, d, q⟩⟩
      · cases hst
    · cases hst
  · exact ⟨g.ns cc he.1, he.2 H' G' (r1.bk hno d.rel d.le) (l1.trans d.le)⟩
end
end ML
/-! ML15 -/
set_option Elab.async false
set_option linter.all false
set_option autoImplicit false
set_option maxRecDepth 100000
set_option maxHeartbeats 4000000
/-! ML15: what is walked: lists, tuples, texts, ranges; zip and enumerate over them -/
namespace ML
open PySem PySem.Spec PyProof.Rows L2

/-! ### sources -/
inductive Src where
  | lst (a : Addr) | tup (a : Addr) | str (x : Str)
def Src.v : Src → V
  | .lst a => .ref a
  | .tup a => .ref a
  | .str x => .str x
def chars (x : Str) : List V := x.cps.toList.map fun c => .str ⟨#[c]⟩
def SrcRel (K : PySem.W.Frag) (H : Hp) : Src → List V → Prop
  | .lst a, xs => SqL K H a xs
  | .tup a, xs => SqT K H a xs
  | .str x, xs => xs = chars x
def ItS (K : PySem.W.Frag) (S : Src) : It :=
  ⟨fun i H => ∃ xs x, SrcRel K H S xs ∧ xs[i]? = some x, fun i H x H' => H' = H ∧ ∀ xs, SrcRel K H S xs → xs[i]? = some x, fun i H => ∃ xs, SrcRel K H S xs ∧ xs.length ≤ i⟩
/-- the iterator's state -/
def SIt : Src → Addr → Nat → Heap → Prop
  | .lst a, it, i, h => h.IsListIter it a i
  | .tup a, it, i, h => h.IsTupleIter it a i
  | .str x, it, i, h => ∃ t, h.IsStrIter it (strIterType x) x t i
theorem chars_get {x : Str} {i : Nat} {v : V} : (chars x)[i]? = some v ↔ ∃ c, x.cps[i]? = some c ∧ v = .str ⟨#[c]⟩ := by
  unfold chars
  rw [List.getElem?_map]
  rw [Array.getElem?_toList]
  constructor
  · intro h
    cases e : x.cps[i]? with
    | none => rw [e] at h; cases h
    | some c => rw [e] at h; exact ⟨c, rfl, (Option.some.inj h).symm⟩
  · rintro ⟨c, e, rfl⟩
    rw [e]; rfl
theorem chars_len (x : Str) : (chars x).length = x.cps.size := by unfold chars; simp
theorem strIterType_or (x : Str) : strIterType x = "str_ascii_iterator" ∨ strIterType x = "str_iterator" := by
  unfold strIterType; split
  · exact .inl rfl
  · exact .inr rfl
theorem turn_src {P : Program} {w : World} {K : PySem.W.Frag} {tg : Expr} (S : Src) (it : Addr) : Turn P w K tg (ItS K S) [it] it (SIt S it) := by
  cases S with
  | lst a => exact turn_list a it
  | tup a => exact turn_tuple a it
  | str x =>
    refine ⟨by simp, fun i h ⟨t, st⟩ => (turn_str (P := P) (w := w) (K := K) (tg := tg) it x t _ (strIterType_or x)).obj i h st, fun i h h' ⟨t, st⟩ k => ⟨t, (turn_str (P := P) (w := w) (K := K) (tg := tg) it x t _ (strIterType_or x)).keep i h h' st k⟩,
      fun X hP hw hK hc i pins s σ H E I hf ⟨t, st⟩ hg => ?_, fun X hP hw hK hc i pins s σ H E I hf ⟨t, st⟩ hg => ?_, fun A i s Q E ⟨t, st⟩ h => (turn_str (P := P) (w := w) (K := K) (tg := tg) it x t _ (strIterType_or x)).self A i s Q E st h⟩
    · obtain ⟨xs, v, rfl, hv⟩ := hg
      obtain ⟨c, hcx, rfl⟩ := chars_get.mp hv
      have hlt : i < x.cps.size := (Array.getElem?_eq_some_iff.mp hcx).1
      refine wpAny_mono ((turn_str (tg := tg) it x t _ (strIterType_or x)).item X hP hw hK hc i pins s σ H E I hf st hlt) (fun r s1 ⟨u, hr, h1⟩ => ⟨u, hr, wpAny_mono h1 (fun _ s2 ⟨y, H', I', r', ⟨e, c', hc', ey⟩, st', n'⟩ => ⟨y, H', I', r', ⟨e, fun zs hz => ?_⟩, ⟨t, st'⟩, n'⟩) fun _ _ z => z⟩) fun _ _ z => z
      have hz : zs = chars x := hz
      subst hz
      exact chars_get.mpr ⟨c', hc', ey⟩
    · obtain ⟨xs, rfl, hl⟩ := hg
      rw [chars_len] at hl
      exact (turn_str (tg := tg) it x t _ (strIterType_or x)).done X hP hw hK hc i pins s σ H E I hf st hl
/-- iter(v) -/
theorem src_begins {X : Cx} {pins : List (Addr × Obj)} {σ : L2.St} {H : Hp} {s : Shared} {S : Src} {xs : List V} {v : Value} (I : Inv X pins σ H s) (h : SrcRel X.K H S xs) (r : RelV S.v v) :
    ∃ (o : Obj) (HH : Heap → Prop), Begins v o HH ∧ HH s.heap ∧ ∀ (h' : Heap) (it : Addr), h'.get? it = some o → SIt S it 0 h' := by
  cases S with
  | lst a =>
    obtain ⟨its, rv, p, hz⟩ := I.list h
    cases r
    exact ⟨_, _, begins_list a its.toArray, p.isList, fun h' it e => ⟨_, e, rfl, rfl⟩⟩
  | tup a =>
    obtain ⟨its, rv, p, hz⟩ := I.tuple h
    cases r
    exact ⟨_, _, begins_tuple a its.toArray, p, fun h' it e => ⟨_, e, rfl, rfl⟩⟩
  | str x =>
    obtain ⟨t, rfl⟩ := r
    exact ⟨_, _, begins_text x t, True.intro, fun h' it e => ⟨t, _, e, rfl, rfl⟩⟩
/-- the cell of what is walked: never one of an iterator's -/
def Src.cell : Src → List Addr
  | .lst a => [a]
  | .tup a => [a]
  | .str _ => []
theorem src_lt {X : Cx} {pins : List (Addr × Obj)} {σ : L2.St} {H : Hp} {s : Shared} {S : Src} {xs : List V} (I : Inv X pins σ H s) (h : SrcRel X.K H S xs) : ∀ b ∈ S.cell, b < s.heap.objs.size := fun b hb => by
  cases S with
  | lst a =>
    obtain ⟨its, rv, p, hz⟩ := I.list h
    have : b = a := by simpa [Src.cell] using hb
    subst this
    exact p.lt
  | tup a =>
    obtain ⟨its, rv, ⟨o, e, _⟩, hz⟩ := I.tuple h
    have : b = a := by simpa [Src.cell] using hb
    subst this
    exact Heap.lt_size e
  | str x => simp [Src.cell] at hb
/-- one draw -/
theorem src_draws {X : Cx} {pins : List (Addr × Obj)} {σ : L2.St} {H : Hp} {s : Shared} {S : Src} {xs : List V} {it : Addr} {A : Around} (hh : A.handled = none) (I : Inv X pins σ H s) (h : SrcRel X.K H S xs) (hne : it ∉ S.cell) (i : Nat) (st : SIt S it i s.heap) :
    ∃ (P : Nat → Value → Prop) (St : Nat → Heap → Prop), Draws X.prog X.w A it (it :: S.cell) xs.length P St ∧ St i s.heap ∧ (∀ j h', St j h' → SIt S it j h') ∧ ∀ j v, P j v → ∃ x, xs[j]? = some x ∧ RelV x v := by
  cases S with
  | lst a =>
    obtain ⟨its, rv, p, hz⟩ := I.list h
    have hl := rv.length
    have hne' : a ≠ it := fun e => hne (by rw [e]; simp [Src.cell])
    have D := Draws.list (prog := X.prog) (w := X.w) hh it a hne' its.toArray
    rw [List.size_toArray, ← hl] at D
    refine ⟨_, _, D, ⟨st, p.isList⟩, fun j h' z => z.1, fun j v hv => ?_⟩
    have hv : its[j]? = some v := by simpa using hv
    cases e : xs[j]? with
    | none => have := rv.none_of e; rw [this] at hv; cases hv
    | some x =>
      obtain ⟨u, hu, ru⟩ := rv.get e
      rw [hv] at hu; cases hu
      exact ⟨x, rfl, ru⟩
  | tup a =>
    obtain ⟨its, rv, p, hz⟩ := I.tuple h
    have hl := rv.length
    have hne' : a ≠ it := fun e => hne (by rw [e]; simp [Src.cell])
    have D := Draws.tuple (prog := X.prog) (w := X.w) hh it a hne' its.toArray
    rw [List.size_toArray, ← hl] at D
    refine ⟨_, _, D, ⟨st, p⟩, fun j h' z => z.1, fun j v hv => ?_⟩
    have hv : its[j]? = some v := by simpa using hv
    cases e : xs[j]? with
    | none => have := rv.none_of e; rw [this] at hv; cases hv
    | some x =>
      obtain ⟨u, hu, ru⟩ := rv.get e
      rw [hv] at hu; cases hu
      exact ⟨x, rfl, ru⟩
  | str x =>
    obtain ⟨t, st⟩ := st
    have e : xs = chars x := h
    subst e
    have D := Draws.text (prog := X.prog) (w := X.w) hh it x t
    rw [← chars_len] at D
    exact ⟨_, _, D, st, fun j h' z => ⟨t, z⟩, fun j v ⟨c, u, hc, hv⟩ => ⟨.str ⟨#[c]⟩, chars_get.mpr ⟨c, hc, rfl⟩, by rw [hv]; exact ⟨u, rfl⟩⟩⟩
theorem src_inj {X : Cx} {pins : List (Addr × Obj)} {σ : L2.St} {H : Hp} {s : Shared} {S : Src} {xs ys : List V} (I : Inv X pins σ H s) (h : SrcRel X.K H S xs) (h' : SrcRel X.K H S ys) : xs = ys := by
  cases S with
  | lst a => exact I.list_inj h h'
  | tup a => exact I.tuple_inj h h'
  | str x => exact (show xs = chars x from h).trans (show ys = chars x from h').symm

/-! ### zip of two -/
def ItZ (K : PySem.W.Frag) (a b : Src) : It :=
  ⟨fun i H => ∃ (xs ys : List V) (x y : V), SrcRel K H a xs ∧ SrcRel K H b ys ∧ xs[i]? = some x ∧ ys[i]? = some y,
    fun i H v H' => ∃ T x y, v = .ref T ∧ H T = none ∧ H' = upd H T (.tup [x, y]) ∧ (∀ xs, SrcRel K H a xs → xs[i]? = some x) ∧ ∀ ys, SrcRel K H b ys → ys[i]? = some y,
    fun i H => ∃ xs ys : List V, SrcRel K H a xs ∧ SrcRel K H b ys ∧ i ≤ xs.length ∧ i ≤ ys.length ∧ (i = xs.length ∨ i = ys.length)⟩
theorem sit_over {S : Src} {it x : Addr} {i : Nat} {h h' : Heap} (st : SIt S it i h) (hs : Heap.SameBut x h h') (hx : x ≠ it) : SIt S it i h' := by
  cases S with
  | lst a => exact Heap.IsListIter.at st fun o e => (hs.2 it (Ne.symm hx)).trans e
  | tup a => exact Heap.IsTupleIter.at st fun o e => (hs.2 it (Ne.symm hx)).trans e
  | str z =>
    obtain ⟨t, o, ho, r⟩ := st
    exact ⟨t, o, (hs.2 it (Ne.symm hx)).trans ho, r⟩
theorem sit_keep {S : Src} {it : Addr} {i : Nat} {h h' : Heap} (st : SIt S it i h) (k : ∀ o, h.get? it = some o → h'.get? it = some o) : SIt S it i h' := by
  cases S with
  | lst a => exact Heap.IsListIter.at st k
  | tup a => exact Heap.IsTupleIter.at st k
  | str z =>
    obtain ⟨t, o, ho, r⟩ := st
    exact ⟨t, o, k o ho, r⟩
theorem sit_obj {S : Src} {it : Addr} {i : Nat} {h : Heap} (st : SIt S it i h) : ∃ o, h.get? it = some o ∧ ∀ v, o.data ≠ .cell v := by
  cases S with
  | lst a => obtain ⟨o, e, c, d⟩ := st; exact ⟨o, e, fun v z => by rw [d] at z; cases z⟩
  | tup a => obtain ⟨o, e, c, d⟩ := st; exact ⟨o, e, fun v z => by rw [d] at z; cases z⟩
  | str x => obtain ⟨t, o, e, c, d⟩ := st; exact ⟨o, e, fun v z => by rw [d] at z; cases z⟩
theorem turn_zipS {P : Program} {w : World} {K : PySem.W.Frag} {elts : List Expr} {kk : Nat} {tpos : Pos} {a b : Src} {z TI TO i1 i2 : Addr} (D : ZipSep2 z TI TO i1 i2 (i1 :: a.cell) (i2 :: b.cell)) (n1 : i1 ∉ a.cell) (n2 : i2 ∉ b.cell) :
    Turn P w K (.Tuple elts kk tpos) (ItZ K a b) [z, TI, TO, i1, i2] z (fun i h => IsZip h z TI TO .none ∧ IsTupOf2 h TI (.ref i1) (.ref i2) ∧ (∃ x y, IsTupOf2 h TO x y) ∧ SIt a i1 i h ∧ SIt b i2 i h) where
  mem := by simp
  obj := fun i h st c hc => by
    obtain ⟨hz, hTI, ⟨x, y, hTO⟩, h1, h2⟩ := st
    have e' : c = z ∨ c = TI ∨ c = TO ∨ c = i1 ∨ c = i2 := by simpa using hc
    rcases e' with q | q | q | q | q
    · rw [q]; exact ⟨_, hz, fun v q => nomatch q⟩
    · rw [q]; exact ⟨_, hTI, fun v q => nomatch q⟩
    · rw [q]; exact ⟨_, hTO, fun v q => nomatch q⟩
    · rw [q]; exact sit_obj h1
    · rw [q]; exact sit_obj h2
  keep := fun i h h' st k => by
    obtain ⟨hz, hTI, ⟨x, y, hTO⟩, h1, h2⟩ := st
    exact ⟨k z (by simp) _ hz, k TI (by simp) _ hTI, ⟨x, y, k TO (by simp) _ hTO⟩, sit_keep h1 fun o q => k i1 (by simp) o q, sit_keep h2 fun o q => k i2 (by simp) o q⟩
  item := by
    intro X hP hw hK hc i pins s σ H E I hf st hg
    subst hP hw hK
    obtain ⟨hz, hTI, ⟨x0, y0, hTO⟩, h1, h2⟩ := st
    obtain ⟨xs, ys, x, y, hqx, hqy, hx, hy⟩ := hg
    have hzl : z < s.heap.objs.size := Heap.lt_size hz
    obtain ⟨P1, St1, D1, s1, k1, q1⟩ := src_draws (A := X.A.in1) (I.ok.hd hc) I hqx n1 i h1
    obtain ⟨P2, St2, D2, s2, k2, q2⟩ := src_draws (A := X.A.in1) (I.ok.hd hc) I hqy n2 i h2
    have l1 : i < xs.length := (List.getElem?_eq_some_iff.mp hx).1
    have l2 : i < ys.length := (List.getElem?_eq_some_iff.mp hy).1
    refine wpAny_pyNext_zipD2_item D D1 D2 hz hTI hTO s1 s2 l1 l2 fun u u2 h' tk p1 p2 z' TO' h1' h2' hT hsz hk => ?_
    obtain ⟨x', hx', ru⟩ := q1 i u p1
    obtain ⟨y', hy', ru2⟩ := q2 i u2 p2
    rw [hx] at hx'; cases hx'
    rw [hy] at hy'; cases hy'
    refine ⟨_, rfl, wpAny_letOwnedTupleGo_zip (s := { s with heap := h', toks := tk }) z' fun h'' z'' sb => ?_⟩
    have hT2 : h''.get? s.heap.objs.size = some { cls := .type "tuple", data := .seq #[u, u2] } := (sb.2 _ (Nat.ne_of_gt hzl)).trans hT
    have new : ObjOk X.prog X.w (upd H s.heap.objs.size (.tup [x, y])) h'' s.heap.objs.size (.tup [x, y]) :=
      ⟨by show 2 ≤ sizeLine; decide, [u, u2], .cons ru (.cons ru2 .nil), ⟨_, hT2, rfl, _, rfl⟩⟩
    have I1 : Inv X pins σ (upd H s.heap.objs.size (.tup [x, y])) { s with heap := h'', toks := tk } :=
      I.turnedNew (t' := tk) (ch := [z, TI, TO, i1, i2]) (fun c o hb q => (sb.2 c (fun q' => hb (by simp [q']))).trans (hk c o (fun q' => hb (by simp [q'])) (fun q' => hb (by simp [q'])) (fun q' => hb (by simp [q'])) (fun q' => hb (by simp [q'])) q)) hf (Nat.le_refl _) new
    refine ⟨.ref s.heap.objs.size, _, I1, rfl, ⟨_, x, y, rfl, I.hok.fresh (Nat.le_refl _), rfl, fun l hl => by rw [src_inj I hl hqx]; exact hx, fun l hl => by rw [src_inj I hl hqy]; exact hy⟩, ⟨z'', ?_, ⟨u, u2, ?_⟩, ?_, ?_⟩, fun c hcm => ?_⟩
    · exact (sb.2 _ D.TIz).trans (hk _ _ D.TIz D.TITO D.TIi1 D.TIi2 hTI)
    · exact (sb.2 _ D.TOz).trans TO'
    · exact sit_over (k1 _ _ h1') sb D.zi1
    · exact sit_over (k2 _ _ h2') sb D.zi2
    · have hlt : c < s.heap.objs.size := by
        have e' : c = z ∨ c = TI ∨ c = TO ∨ c = i1 ∨ c = i2 := by simpa using hcm
        rcases e' with q | q | q | q | q
        · rw [q]; exact hzl
        · rw [q]; exact Heap.lt_size hTI
        · rw [q]; exact Heap.lt_size hTO
        · rw [q]; obtain ⟨_, e1, _⟩ := sit_obj h1; exact Heap.lt_size e1
        · rw [q]; obtain ⟨_, e2, _⟩ := sit_obj h2; exact Heap.lt_size e2
      rw [upd_ne (Nat.ne_of_lt hlt)]
      exact (hf c hcm).1
  done := by
    intro X hP hw hK hc i pins s σ H E I hf st hg
    subst hP hw hK
    obtain ⟨hz, hTI, ⟨x0, y0, hTO⟩, h1, h2⟩ := st
    obtain ⟨xs, ys, hqx, hqy, hl1, hl2, hend⟩ := hg
    obtain ⟨P1, St1, D1, s1, k1, q1⟩ := src_draws (A := X.A.in1) (I.ok.hd hc) I hqx n1 i h1
    obtain ⟨P2, St2, D2, s2, k2, q2⟩ := src_draws (A := X.A.in1) (I.ok.hd hc) I hqy n2 i h2
    exact wpAny_pyNext_zipD2_end D D1 D2 hz hTI hTO s1 s2 hl1 hl2 hend fun h' tk hk => ⟨rfl, I.turnedL (t' := tk) (ch := [z, TI, TO, i1, i2]) (fun c o hb q =>
      hk c o (fun q' => hb (by simp [q'])) (fun q' => hb (by simp [q'])) (fun q' => hb (by simp [q'])) (fun q' => hb (by simp [q'])) q) hf⟩
  self := fun A i s Q E st h => wpAny_pyIter_zip st.1 h

/-! ### enumerate -/
def ItE (K : PySem.W.Frag) (a : Src) : It :=
  ⟨fun i H => ∃ (xs : List V) (x : V), SrcRel K H a xs ∧ xs[i]? = some x, fun i H v H' => ∃ T x, v = .ref T ∧ H T = none ∧ H' = upd H T (.tup [.int (i : Nat), x]) ∧ ∀ xs, SrcRel K H a xs → xs[i]? = some x, fun i H => ∃ xs : List V, SrcRel K H a xs ∧ i = xs.length⟩
theorem turn_enumS {P : Program} {w : World} {K : PySem.W.Frag} {elts : List Expr} {kk : Nat} {tpos : Pos} {a : Src} {e it : Addr} (hei : e ≠ it) (hef : e ∉ a.cell) (n1 : it ∉ a.cell) :
    Turn P w K (.Tuple elts kk tpos) (ItE K a) [e, it] e (fun i h => (∃ old, IsEnum h e it ((i : Nat) : Int) old) ∧ SIt a it i h) where
  mem := by simp
  obj := fun i h st b hb => by
    obtain ⟨⟨old, he⟩, hi⟩ := st
    have e' : b = e ∨ b = it := by simpa using hb
    rcases e' with z | z
    · rw [z]; exact ⟨_, he, fun v q => nomatch q⟩
    · rw [z]; exact sit_obj hi
  keep := fun i h h' st k => let ⟨⟨old, he⟩, hi⟩ := st; ⟨⟨old, k e (by simp) _ he⟩, sit_keep hi fun o q => k it (by simp) o q⟩
  item := by
    intro X hP hw hK hc i pins s σ H E I hf st hg
    subst hP hw hK
    obtain ⟨⟨old, he⟩, hit⟩ := st
    obtain ⟨xs, x, hq, hx⟩ := hg
    obtain ⟨P1, St1, D1, s1, k1, q1⟩ := src_draws (A := X.A.in1) (I.ok.hd hc) I hq n1 i hit
    have l1 : i < xs.length := (List.getElem?_eq_some_iff.mp hx).1
    have hel : e < s.heap.objs.size := Heap.lt_size he
    have hil : it < s.heap.objs.size := by obtain ⟨_, q, _⟩ := sit_obj hit; exact Heap.lt_size q
    have hef' : e ∉ it :: a.cell := fun h => (List.mem_cons.mp h).elim hei hef
    refine wpAny_pyNext_enum_itemC D1 he s1 l1 hei hef' fun u h' tk p1 ho h1' hT hsz hk => ?_
    obtain ⟨x', hx', ru⟩ := q1 i u p1
    rw [hx] at hx'; cases hx'
    refine ⟨_, rfl, wpAny_letOwnedTupleGo_enum (s := { s with heap := h', toks := tk + 1 }) ho fun h'' he' sb => ?_⟩
    have hT2 : h''.get? s.heap.objs.size = some { cls := .type "tuple", data := .seq #[.int i tk, u] } := (sb.2 _ (Nat.ne_of_gt hel)).trans hT
    have new : ObjOk X.prog X.w (upd H s.heap.objs.size (.tup [.int (i : Nat), x])) h'' s.heap.objs.size (.tup [.int (i : Nat), x]) :=
      ⟨by show 2 ≤ sizeLine; decide, [.int i tk, u], .cons ⟨_, rfl⟩ (.cons ru .nil), ⟨_, hT2, rfl, _, rfl⟩⟩
    have I1 : Inv X pins σ (upd H s.heap.objs.size (.tup [.int (i : Nat), x])) { s with heap := h'', toks := tk + 1 } :=
      I.turnedNew (ch := [e, it]) (fun b ob hb q => (sb.2 b (fun z => hb (by simp [z]))).trans (hk b ob (fun z => hb (by simp [z])) (fun z => hb (by simp [z])) q)) hf (Nat.le_refl _) new
    refine ⟨.ref s.heap.objs.size, _, I1, rfl, ⟨_, x, rfl, I.hok.fresh (Nat.le_refl _), rfl, fun ys hy => by rw [src_inj I hy hq]; exact hx⟩, ⟨⟨u, ?_⟩, sit_over (k1 _ _ h1') sb hei⟩, fun b hb => ?_⟩
    · have e1 : ((i + 1 : Nat) : Int) = (i : Int) + 1 := by omega
      rw [e1]; exact he'
    · have hb' : b < s.heap.objs.size := by
        have e' : b = e ∨ b = it := by simpa using hb
        rcases e' with z | z
        · rw [z]; exact hel
        · rw [z]; exact hil
      rw [upd_ne (Nat.ne_of_lt hb')]
      exact (hf b hb).1
  done := by
    intro X hP hw hK hc i pins s σ H E I hf st hg
    subst hP hw hK
    obtain ⟨⟨old, he⟩, hit⟩ := st
    obtain ⟨xs, hq, hx⟩ := hg
    obtain ⟨P1, St1, D1, s1, k1, q1⟩ := src_draws (A := X.A.in1) (I.ok.hd hc) I hq n1 i hit
    obtain ⟨f0, f1, f2, f3, f4, f5⟩ := hf it (by simp)
    subst hx
    exact wpAny_pyNext_enum_endD D1 he s1 fun h' hk => ⟨rfl, I.turned (t' := s.toks) (fun b o hb q => hk b o hb q) f0 f1 f3 f4 f5⟩
  self := fun A i s Q E st h => let ⟨⟨_, he⟩, _⟩ := st; wpAny_pyIter_enum he h
set_option maxHeartbeats 8000000 in
theorem meets_enum1 {v : Value} {o : Obj} {H : Heap → Prop} (B : Begins v o H) :
    Meets (Builtin.«enumerate.__new__» ⟨[.type "enumerate", v], []⟩) (fun _ R s => H s.heap ∧
      R (.ok (.ret (.ref (s.heap.push o).objs.size))) { s with heap := (s.heap.push o).push { cls := .type "enumerate", data := .fields #[.none, .bool false, .ref s.heap.objs.size, rawInt 0, .none, .none] } }) :=
  .of_wp fun prog w A R s h => by
    obtain ⟨hp, g, d, tk, os⟩ := s; obtain ⟨h1, h⟩ := h
    have hsub := sub_enumerate
    have q1 : ∀ {A' : Around} {E : Value → Shared → Prop} {Q : Value → Shared → Prop}, Q (.ref hp.objs.size) ⟨hp.push o, g, d, tk, os⟩ → wpAny (model prog w) A' (pyIter v) Q E ⟨hp, g, d, tk, os⟩ :=
      fun q => B.iter prog w _ _ ⟨hp, g, d, tk, os⟩ _ h1 q
    wp_walk using q1
    refine wpAny_stack_any fun st => wpAny_pure ?_
    split
    · rename_i c _ _ _ _ _
      cases (c == Value.type "enumerate")
      · wp_walk using q1
        exact ⟨_, rfl, h⟩
      · wp_walk using q1
        exact ⟨_, rfl, h⟩
    · wp_walk using q1
      exact ⟨_, rfl, h⟩
theorem enum_begins1 {prog : Program} {w : World} {A : Around} {E : Value → Shared → Prop} {s : Shared} {v : Value} {o : Obj} {H : Heap → Prop} {Q : Value → Shared → Prop} (B : Begins v o H) (h1 : H s.heap)
    (h : ∀ h', IsEnum h' (s.heap.objs.size + 1) s.heap.objs.size 0 .none → h'.get? s.heap.objs.size = some o → h'.objs.size = s.heap.objs.size + 2 →
      (∀ b o, s.heap.get? b = some o → h'.get? b = some o) → Q (.ref (s.heap.objs.size + 1)) { s with heap := h' }) :
    wpAny (model prog w) A (call (.type "enumerate") [v]) Q E s := by
  refine callType_new F.called_enumerate (by decide) (F.typeCall_enumerate_1 _) (F.newCall_enumerate_1 _) (fun obj => F.args_object_init_2 obj _) F.entry_enumerate_new
    (meets_enum1 B) ⟨h1, ?_⟩
  have hz : (s.heap.push o).objs.size = s.heap.objs.size + 1 := Heap.size_push ..
  show _ ∧ _
  rw [hz]
  have he : IsEnum ((s.heap.push o).push { cls := .type "enumerate", data := .fields #[.none, .bool false, .ref s.heap.objs.size, rawInt 0, .none, .none] }) (s.heap.objs.size + 1) s.heap.objs.size 0 .none := by
    have := Heap.get?_push_size (s.heap.push o) (o := { cls := .type "enumerate", data := .fields #[.none, .bool false, .ref s.heap.objs.size, rawInt 0, .none, .none] }) rfl
    rw [hz] at this; exact this
  refine ⟨⟨_, he, rfl⟩, h _ he (Heap.get?_push_of_some _ (Heap.get?_push_size _ B.free)) (by rw [Heap.size_push, hz]) fun b o x => Heap.get?_push_of_some _ (Heap.get?_push_of_some _ x)⟩
end ML
/-! ML16 -/
set_option Elab.async false
set_option linter.all false
set_option autoImplicit false
set_option maxRecDepth 100000
set_option maxHeartbeats 4000000
/-! ML16: walks at the M layer; list comprehensions -/
namespace ML
open PySem PySem.Spec PyProof.Rows L2

def charsE (x : Str) : List EV := x.cps.toList.map fun c => .str ⟨#[c]⟩
/-- the items of what is walked -/
def itL : EV → Option (List EV)
  | .lst l => some l
  | .tup l => some l
  | .scr _ l => some l
  | .str x => some (charsE x)
  | _ => none
def srcOf : EV → V → Src
  | .lst _, .ref a => .lst a
  | .scr false _, .ref a => .lst a
  | .tup _, .ref a => .tup a
  | .scr true _, .ref a => .tup a
  | .str x, _ => .str x
  | _, _ => .str ⟨#[]⟩
theorem reps_chars {C : Sc} {G : Gh} {H : Hp} (l : List Nat) : Reps C G H (l.map fun c => .str ⟨#[c]⟩) (l.map fun c => V.str ⟨#[c]⟩) := by
  induction l with
  | nil => exact reps_nil.mpr rfl
  | cons c l ih => exact reps_cons.mpr ⟨_, _, rfl, rep_str.mpr rfl, ih⟩
theorem rep_src {C : Sc} {G : Gh} {H : Hp} {v : EV} {x : V} {l : List EV} (h : Rep C G H v x) (e : itL v = some l) : x = (srcOf v x).v ∧ ∃ xs, SrcRel C.K H (srcOf v x) xs ∧ Reps C G H l xs := by
  cases v with
  | lst m =>
    cases (show some m = some l from e)
    obtain ⟨a, xs, rfl, f, q, rp⟩ := rep_lst.mp h
    exact ⟨rfl, xs, .inl (.inl q), rp⟩
  | tup m =>
    cases (show some m = some l from e)
    obtain ⟨a, xs, rfl, f, q, rp⟩ := rep_tup.mp h
    exact ⟨rfl, xs, .inl (.inl q), rp⟩
  | scr t m =>
    cases (show some m = some l from e)
    rw [Rep] at h
    obtain ⟨a, xs, rfl, q, rp⟩ := h
    cases t with
    | true =>
      have q' : kTup C.K a xs := by rw [if_pos rfl] at q; exact q
      obtain ⟨o, its, n, h1, h2, h3, h4, h5⟩ := q'
      exact ⟨rfl, xs, .inr ⟨o, its, n, h1, h2, h3, h4, h5⟩, rp⟩
    | false =>
      rw [if_neg Bool.false_ne_true] at q
      refine ⟨rfl, xs, ?_, rp⟩
      rcases q with q | ⟨o, its, n, h1, h2, h3, h4, h5, h6⟩
      · exact .inl q.2
      · exact .inr ⟨o, its, n, h1, h2, h3, h4, h5, h6⟩
  | str z =>
    cases (show some (charsE z) = some l from e)
    cases rep_str.mp h
    exact ⟨rfl, _, rfl, reps_chars _⟩
  | _ => cases e
section
variable {X : Cx} {T : TbS} {W : WX} {p pos : Pos} {tg : Expr}
/-! ### one source -/
def iSrc (K : PySem.W.Frag) (te : TE) : TI := fun σ H R => te σ H fun x H1 => ∃ S xs, x = Src.v S ∧ SrcRel K H1 S xs ∧ R (ItS K S) H1
theorem pi_src {e : Expr} {te : TE} (he : PE X e te) : PI X tg e (iSrc X.K te) := by
  refine ⟨fun pins s σ H R I h => ?_⟩
  refine thn (he.run pins s σ H _ I h) fun v s1 ⟨x, H1, I1, r1, S, xs, ex, hq, q⟩ => ?_
  subst ex
  obtain ⟨o, HH, B, hH, hs⟩ := src_begins I1 hq r1
  exact B.iter _ _ _ _ _ _ hH (pi_one (tk := s1.toks) I1 o (turn_src S _) (hs _ _ (Heap.get?_push_size _ B.free)) q)
def mIt (m : M EV) : M (List EV) := do
  let v ← m
  ofO (itL v)
theorem ofO_some {α : Type} {o : Option α} {S : ES} {Q : α → ES → Prop} {E : Str → ES → Prop} (h : Post (ofO o S) Q E) : ∃ a, o = some a ∧ Q a S := by
  unfold ofO at h
  cases o with
  | none => exact h.elim
  | some a => exact ⟨a, rfl, h⟩
theorem jrel_src {C : Sc} {G : Gh} {H : Hp} {v : EV} {x : V} {l : List EV} (h : Rep C G H v x) (e : itL v = some l) : JRel C G H (ItS C.K (srcOf v x)) l := by
  refine ⟨fun i G' H' le hi => ?_, fun G' H' le => ?_, fun i S σ G' H' y H2 le r hi hy => ?_⟩
  · obtain ⟨_, xs, q, rp⟩ := rep_src (h.monoR le) e
    obtain ⟨u, hu, _⟩ := rp.get (List.getElem?_eq_getElem hi)
    exact ⟨xs, u, q, hu⟩
  · obtain ⟨_, xs, q, rp⟩ := rep_src (h.monoR le) e
    exact ⟨xs, q, by rw [rp.length]; exact Nat.le_refl _⟩
  · obtain ⟨rfl, hy⟩ := hy
    obtain ⟨_, xs, q, rp⟩ := rep_src (h.monoR le) e
    have hx := hy xs q
    obtain ⟨u, hu, ru⟩ := rp.get (List.getElem?_eq_getElem hi)
    rw [hx] at hu; cases hu
    exact ⟨l[i], G', List.getElem?_eq_getElem hi, r, Le.refl _ _, ru⟩
theorem im_src {e : Expr} {m : M EV} (he : EM X T W e m) : IM X T W tg e (mIt m) := by
  refine PI_imp (pi_src he) fun σ H R h => ?_
  obtain ⟨S, G, r, p⟩ := h
  refine tM_bind r p fun v S1 x H1 G1 r1 l1 rp1 p1 => ?_
  obtain ⟨l, hl, q⟩ := ofO_some p1
  obtain ⟨ex, xs, hq, rps⟩ := rep_src rp1 hl
  exact ⟨srcOf v x, xs, ex, hq, q _ H1 G1 r1 l1 (jrel_src rp1 hl)⟩

/-! ### ranges -/
def rangeE (lo : Int) (n : Nat) : List EV := (List.range n).map fun (i : Nat) => EV.int (lo + (i : Int))
theorem rangeE_len (lo : Int) (n : Nat) : (rangeE lo n).length = n := by simp [rangeE]
theorem rangeE_get {lo : Int} {n i : Nat} (h : i < n) : (rangeE lo n)[i]? = some (.int (lo + (i : Int))) := by simp [rangeE, h]
theorem jrel_range {C : Sc} {G : Gh} {H : Hp} (lo : Int) (n : Nat) : JRel C G H (Itr lo n) (rangeE lo n) := by
  refine ⟨fun i G' H' le hi => by rw [rangeE_len] at hi; exact hi, fun G' H' le => by rw [rangeE_len]; exact Nat.le_refl _, fun i S σ G' H' y H2 le r hi hy => ?_⟩
  obtain ⟨rfl, rfl⟩ := hy
  rw [rangeE_len] at hi
  exact ⟨_, G', rangeE_get hi, r, Le.refl _ _, rep_int.mpr rfl⟩
def okR (i : Int) : Bool := decide (-(2 ^ 62) ≤ i) && decide (i < 2 ^ 62)
theorem okR_iff {i : Int} : okR i = true ↔ -(2 ^ 62) ≤ i ∧ i < 2 ^ 62 := by unfold okR; simp
def mRng1 (ms : M (List EV)) : M (List EV) := do
  let l ← ms
  match l with
  | [.int j] => if okR j then M.ret (rangeE 0 j.toNat) else M.fail
  | _ => M.fail
def mRng2 (ms : M (List EV)) : M (List EV) := do
  let l ← ms
  match l with
  | [.int i, .int j] => if okR i && okR j then M.ret (rangeE i (j - i).toNat) else M.fail
  | _ => M.fail
theorem im_range1 {a : Expr} {ms : M (List EV)} (B : Bt X.mg) (hg : Gl X "range") (ha : AM X T W [a] ms) (hs : starEach [a] X.env = [(false, eval a X.env)] := by rfl) : IM X T W tg (.Call (.Name "range" p) [a] [] pos) (mRng1 ms) := by
  refine PI_imp (pi_range1 hg B.range ha hs) fun σ H R h => ?_
  obtain ⟨S, G, r, p⟩ := h
  refine tML_bind r p fun l S1 xs H1 G1 r1 l1 rp1 p1 => ?_
  split at p1
  · rename_i j
    split at p1
    · rename_i hj
      obtain ⟨y, ys, rfl, ry, rys⟩ := reps_cons.mp rp1
      cases rep_int.mp ry
      cases reps_nil.mp rys
      exact ⟨j, rfl, (okR_iff.mp hj).1, (okR_iff.mp hj).2, p1 _ H1 G1 r1 l1 (jrel_range 0 _)⟩
    · exact p1.elim
  · exact p1.elim
theorem im_range2 {a b : Expr} {ms : M (List EV)} (B : Bt X.mg) (hg : Gl X "range") (ha : AM X T W [a, b] ms) (hs : starEach [a, b] X.env = [(false, eval a X.env), (false, eval b X.env)] := by rfl) (hs2 : starEach [b] X.env = [(false, eval b X.env)] := by rfl) : IM X T W tg (.Call (.Name "range" p) [a, b] [] pos) (mRng2 ms) := by
  refine PI_imp (pi_range2 hg B.range ha hs hs2) fun σ H R h => ?_
  obtain ⟨S, G, r, p⟩ := h
  refine tML_bind r p fun l S1 xs H1 G1 r1 l1 rp1 p1 => ?_
  split at p1
  · rename_i i j
    split at p1
    · rename_i hj
      rw [Bool.and_eq_true, okR_iff, okR_iff] at hj
      obtain ⟨y, ys, rfl, ry, rys⟩ := reps_cons.mp rp1
      cases rep_int.mp ry
      obtain ⟨y2, ys2, rfl, ry2, rys2⟩ := reps_cons.mp rys
      cases rep_int.mp ry2
      cases reps_nil.mp rys2
      exact ⟨i, j, rfl, ⟨hj.1.1, hj.1.2, hj.2.1, hj.2.2⟩, p1 _ H1 G1 r1 l1 (jrel_range i _)⟩
    · exact p1.elim
  · exact p1.elim

/-! ### zip, enumerate -/
def zipE : List EV → List EV → List EV
  | a :: l, b :: m => .tup [a, b] :: zipE l m
  | _, _ => []
theorem zipE_len : ∀ l m : List EV, (zipE l m).length = min l.length m.length
  | [], _ => by simp [zipE]
  | _ :: _, [] => by simp [zipE]
  | a :: l, b :: m => by simp only [zipE, List.length_cons, zipE_len l m]; omega
theorem zipE_get : ∀ (l m : List EV) (i : Nat), i < l.length → i < m.length → ∃ a b, l[i]? = some a ∧ m[i]? = some b ∧ (zipE l m)[i]? = some (.tup [a, b])
  | [], _, i, h, _ => by simp at h
  | _ :: _, [], i, _, h => by simp at h
  | a :: l, b :: m, 0, _, _ => ⟨a, b, rfl, rfl, rfl⟩
  | a :: l, b :: m, i + 1, h, h' => by
    obtain ⟨x, y, e1, e2, e3⟩ := zipE_get l m i (by simpa using h) (by simpa using h')
    exact ⟨x, y, by simpa using e1, by simpa using e2, by simpa [zipE] using e3⟩
def iZipS (K : PySem.W.Frag) (ta : TA) : TI := fun σ H R => ta σ H fun vs H1 => ∃ a b xs ys, vs = [Src.v a, Src.v b] ∧ SrcRel K H1 a xs ∧ SrcRel K H1 b ys ∧ R (ItZ K a b) H1
theorem pi_zipS {e e2 : Expr} {ta : TA} {tpos : Pos} {elts : List Expr} {kk : Nat} (hg : Gl X "zip") (hm : X.mg "zip" = none) (ha : PA X [e, e2] ta)
    (hs : starEach [e, e2] X.env = (false, eval e X.env) :: starEach [e2] X.env := by rfl) (hpl : (backTo pos (starEach [e2] X.env)).any (·.1) = false := by rfl) :
    PI X (.Tuple elts kk tpos) (.Call (.Name "zip" p) [e, e2] [] pos) (iZipS X.K ta) := by
  refine ⟨fun pins s σ H R I h => ?_⟩
  refine Call_ (ld_blt I hg hm PyProof.Rows.boot_zip (PyProof.Rows.callWith_type1 (thn (ha.run pos pins s σ H _ I h) fun us s1 ⟨vs, H1, I1, r1, q1⟩ => ?_) hs hpl))
  obtain ⟨a, b, xs, ys, ex, hqx, hqy, q⟩ := q1
  subst ex
  cases r1 with
  | cons r rr =>
    cases rr with
    | cons r' rr =>
      cases rr
      obtain ⟨o1, H1', B1, hH1, hs1⟩ := src_begins I1 hqx r
      obtain ⟨o2, H2', B2, hH2, hs2⟩ := src_begins I1 hqy r'
      have la := src_lt I1 hqx
      have lb := src_lt I1 hqy
      refine zip_begins2 B1 B2 hH1 hH2 fun h' hz hTI hTO h1 h2 hsz hk => wpAny_pyIter_zip hz ?_
      have I2 : Inv X pins σ H1 { s1 with heap := h' } := I1.kept (t' := s1.toks) hk
      refine ⟨s1.heap.objs.size + 4, [s1.heap.objs.size + 4, s1.heap.objs.size + 2, s1.heap.objs.size + 3, s1.heap.objs.size, s1.heap.objs.size + 1], _, _, H1, rfl, I2, turn_zipS (zip_sep2 la lb) (fun z => Nat.lt_irrefl _ (la _ z)) (fun z => by have h9 : (s1.heap.objs.size + 1 : Nat) < s1.heap.objs.size := lb _ z; omega), ⟨hz, hTI, ⟨_, _, hTO⟩, hs1 _ _ h1, hs2 _ _ h2⟩, fun c hcm => ?_, q⟩
      have e' : c = s1.heap.objs.size + 4 ∨ c = s1.heap.objs.size + 2 ∨ c = s1.heap.objs.size + 3 ∨ c = s1.heap.objs.size ∨ c = s1.heap.objs.size + 1 := by simpa using hcm
      have hle : s1.heap.objs.size ≤ c := by
        rcases e' with z | z | z | z | z
        · rw [z]; exact Nat.le_add_right _ _
        · rw [z]; exact Nat.le_add_right _ _
        · rw [z]; exact Nat.le_add_right _ _
        · rw [z]; exact Nat.le_refl _
        · rw [z]; exact Nat.le_add_right _ _
      exact I1.fpOk hle (I1.hok.fresh hle)
theorem rep_pair {C : Sc} {S : ES} {σ : L2.St} {G : Gh} {H : Hp} {T : Addr} {v w : EV} {x y : V} (r : SRel C S σ H G) (hT : H T = none) (h1 : Rep C G H v x) (h2 : Rep C G H w y) : SRel C S σ (upd H T (.tup [x, y])) (G.frz T) ∧ Le G H (G.frz T) (upd H T (.tup [x, y])) ∧ Rep C (G.frz T) (upd H T (.tup [x, y])) (.tup [v, w]) (.ref T) := by
  obtain ⟨rf, lf⟩ := r.newF (u := .tup [x, y]) hT
  refine ⟨rf, lf, ?_⟩
  rw [rep_tup]
  exact ⟨T, _, rfl, frz_self G T, upd_same, reps_cons.mpr ⟨x, _, rfl, h1.mono lf, Reps.one (h2.mono lf)⟩⟩
theorem jrel_zip {C : Sc} {G : Gh} {H : Hp} {v w : EV} {x y : V} {l m : List EV} (h : Rep C G H v x) (e : itL v = some l) (h' : Rep C G H w y) (e' : itL w = some m) : JRel C G H (ItZ C.K (srcOf v x) (srcOf w y)) (zipE l m) := by
  refine ⟨fun i G' H' le hi => ?_, fun G' H' le => ?_, fun i S σ G' H' z H2 le r hi hz => ?_⟩
  · rw [zipE_len] at hi
    obtain ⟨_, xs, q, rp⟩ := rep_src (h.monoR le) e
    obtain ⟨_, ys, q', rp'⟩ := rep_src (h'.monoR le) e'
    obtain ⟨u, hu, _⟩ := rp.get (List.getElem?_eq_getElem (show i < l.length by omega))
    obtain ⟨u', hu', _⟩ := rp'.get (List.getElem?_eq_getElem (show i < m.length by omega))
    exact ⟨xs, ys, u, u', q, q', hu, hu'⟩
  · obtain ⟨_, xs, q, rp⟩ := rep_src (h.monoR le) e
    obtain ⟨_, ys, q', rp'⟩ := rep_src (h'.monoR le) e'
    have h1 := rp.length
    have h2 := rp'.length
    have h3 := zipE_len l m
    exact ⟨xs, ys, q, q', by omega, by omega, by omega⟩
  · rw [zipE_len] at hi
    obtain ⟨T, a, b, rfl, hT, rfl, hx, hy⟩ := hz
    obtain ⟨_, xs, q, rp⟩ := rep_src (h.monoR le) e
    obtain ⟨_, ys, q', rp'⟩ := rep_src (h'.monoR le) e'
    obtain ⟨va, vb, e1, e2, e3⟩ := zipE_get l m i (by omega) (by omega)
    obtain ⟨u, hu, ru⟩ := rp.get e1
    obtain ⟨u', hu', ru'⟩ := rp'.get e2
    rw [hx xs q] at hu; cases hu
    rw [hy ys q'] at hu'; cases hu'
    obtain ⟨rf, lf, rz⟩ := rep_pair r hT ru ru'
    exact ⟨_, _, e3, rf, lf, rz⟩
def zipA : List EV → Option (List EV)
  | [v, w] => (itL v).bind fun a => (itL w).map fun b => zipE a b
  | _ => none
def mZip (ms : M (List EV)) : M (List EV) := do
  let l ← ms
  ofO (zipA l)
theorem im_zip {e e2 : Expr} {ms : M (List EV)} {tpos : Pos} {elts : List Expr} {kk : Nat} (B : Bt X.mg) (hg : Gl X "zip") (ha : AM X T W [e, e2] ms)
    (hs : starEach [e, e2] X.env = (false, eval e X.env) :: starEach [e2] X.env := by rfl) (hpl : (backTo pos (starEach [e2] X.env)).any (·.1) = false := by rfl) :
    IM X T W (.Tuple elts kk tpos) (.Call (.Name "zip" p) [e, e2] [] pos) (mZip ms) := by
  refine PI_imp (pi_zipS hg B.zip ha hs hpl) fun σ H R h => ?_
  obtain ⟨S, G, r, p⟩ := h
  refine tML_bind r p fun l S1 xs H1 G1 r1 l1 rp1 p1 => ?_
  obtain ⟨z, hz, q⟩ := ofO_some p1
  unfold zipA at hz
  split at hz
  · rename_i v w
    obtain ⟨a, ha, hz⟩ := Option.bind_eq_some_iff.mp hz
    obtain ⟨b, hb, rfl⟩ := Option.map_eq_some_iff.mp hz
    obtain ⟨y, ys, rfl, ry, rys⟩ := reps_cons.mp rp1
    obtain ⟨y', ys', rfl, ry', rys'⟩ := reps_cons.mp rys
    cases reps_nil.mp rys'
    obtain ⟨ex, xs1, hq, _⟩ := rep_src ry ha
    obtain ⟨ex', xs2, hq', _⟩ := rep_src ry' hb
    exact ⟨srcOf v y, srcOf w y', xs1, xs2, by rw [← ex, ← ex'], hq, hq', q _ H1 G1 r1 l1 (jrel_zip ry ha ry' hb)⟩
  · cases hz
def enumE (n : Nat) : List EV → List EV
  | [] => []
  | a :: l => .tup [.int (n : Int), a] :: enumE (n + 1) l
theorem enumE_len : ∀ (l : List EV) (n : Nat), (enumE n l).length = l.length
  | [], _ => rfl
  | a :: l, n => by simp only [enumE, List.length_cons, enumE_len l]
theorem enumE_get : ∀ (l : List EV) (n i : Nat) (a : EV), l[i]? = some a → (enumE n l)[i]? = some (.tup [.int ((n + i : Nat) : Int), a])
  | [], _, _, _, h => by simp at h
  | b :: l, n, 0, a, h => by
    cases (show some b = some a from h)
    simp [enumE]
  | b :: l, n, i + 1, a, h => by
    have := enumE_get l (n + 1) i a (by simpa using h)
    simp only [enumE, List.getElem?_cons_succ]
    rw [this]
    congr 4
    omega
def iEnumS (K : PySem.W.Frag) (ta : TA) : TI := fun σ H R => ta σ H fun vs H1 => ∃ a xs, vs = [Src.v a] ∧ SrcRel K H1 a xs ∧ R (ItE K a) H1
theorem pi_enumS {e : Expr} {ta : TA} {tpos : Pos} {elts : List Expr} {kk : Nat} (hg : Gl X "enumerate") (hm : X.mg "enumerate" = none) (ha : PA X [e] ta) (hs : starEach [e] X.env = [(false, eval e X.env)] := by rfl) :
    PI X (.Tuple elts kk tpos) (.Call (.Name "enumerate" p) [e] [] pos) (iEnumS X.K ta) := by
  refine ⟨fun pins s σ H R I h => ?_⟩
  refine Call_ (ld_blt I hg hm boot_enumerate (PyProof.Rows.callWith_type1 (thn (ha.run pos pins s σ H _ I h) fun us s1 ⟨vs, H1, I1, r1, q1⟩ => ?_) hs rfl))
  obtain ⟨a, xs, ex, hq, q⟩ := q1
  subst ex
  cases r1 with
  | cons r rr =>
    cases rr
    obtain ⟨o1, H1', B1, hH1, hs1⟩ := src_begins I1 hq r
    have la := src_lt I1 hq
    refine enum_begins1 B1 hH1 fun h' he h1 hsz hk => wpAny_pyIter_enum he ?_
    have I2 : Inv X pins σ H1 { s1 with heap := h' } := I1.kept (t' := s1.toks) hk
    refine ⟨s1.heap.objs.size + 1, [s1.heap.objs.size + 1, s1.heap.objs.size], _, _, H1, rfl, I2, turn_enumS (Nat.succ_ne_self _) (fun z => by have h9 : (s1.heap.objs.size + 1 : Nat) < s1.heap.objs.size := la _ z; omega) (fun z => Nat.lt_irrefl _ (la _ z)), ⟨⟨.none, he⟩, hs1 _ _ h1⟩, fun b hb => ?_, q⟩
    have e' : b = s1.heap.objs.size + 1 ∨ b = s1.heap.objs.size := by simpa using hb
    have hle : s1.heap.objs.size ≤ b := by
      rcases e' with z | z
      · rw [z]; exact Nat.le_add_right _ _
      · rw [z]; exact Nat.le_refl _
    exact I1.fpOk hle (I1.hok.fresh hle)
theorem jrel_enum {C : Sc} {G : Gh} {H : Hp} {v : EV} {x : V} {l : List EV} (h : Rep C G H v x) (e : itL v = some l) : JRel C G H (ItE C.K (srcOf v x)) (enumE 0 l) := by
  refine ⟨fun i G' H' le hi => ?_, fun G' H' le => ?_, fun i S σ G' H' z H2 le r hi hz => ?_⟩
  · rw [enumE_len] at hi
    obtain ⟨_, xs, q, rp⟩ := rep_src (h.monoR le) e
    obtain ⟨u, hu, _⟩ := rp.get (List.getElem?_eq_getElem hi)
    exact ⟨xs, u, q, hu⟩
  · obtain ⟨_, xs, q, rp⟩ := rep_src (h.monoR le) e
    exact ⟨xs, q, by rw [enumE_len, rp.length]⟩
  · rw [enumE_len] at hi
    obtain ⟨T, a, rfl, hT, rfl, hx⟩ := hz
    obtain ⟨_, xs, q, rp⟩ := rep_src (h.monoR le) e
    obtain ⟨u, hu, ru⟩ := rp.get (List.getElem?_eq_getElem hi)
    rw [hx xs q] at hu; cases hu
    obtain ⟨rf, lf, rz⟩ := rep_pair (v := .int (i : Int)) (x := .int (i : Int)) r hT (rep_int.mpr rfl) ru
    refine ⟨_, _, enumE_get l 0 i _ (List.getElem?_eq_getElem hi), rf, lf, ?_⟩
    rw [Nat.zero_add]
    exact rz
def enumA : List EV → Option (List EV)
  | [v] => (itL v).map (enumE 0)
  | _ => none
def mEnum (ms : M (List EV)) : M (List EV) := do
  let l ← ms
  ofO (enumA l)
theorem im_enum {e : Expr} {ms : M (List EV)} {tpos : Pos} {elts : List Expr} {kk : Nat} (B : Bt X.mg) (hg : Gl X "enumerate") (ha : AM X T W [e] ms) (hs : starEach [e] X.env = [(false, eval e X.env)] := by rfl) :
    IM X T W (.Tuple elts kk tpos) (.Call (.Name "enumerate" p) [e] [] pos) (mEnum ms) := by
  refine PI_imp (pi_enumS hg B.enumerate ha hs) fun σ H R h => ?_
  obtain ⟨S, G, r, p⟩ := h
  refine tML_bind r p fun l S1 xs H1 G1 r1 l1 rp1 p1 => ?_
  obtain ⟨z, hz, q⟩ := ofO_some p1
  unfold enumA at hz
  split at hz
  · rename_i v
    obtain ⟨a, ha, rfl⟩ := Option.map_eq_some_iff.mp hz
    obtain ⟨y, ys, rfl, ry, rys⟩ := reps_cons.mp rp1
    cases reps_nil.mp rys
    obtain ⟨ex, xs1, hq, _⟩ := rep_src ry ha
    exact ⟨srcOf v y, xs1, by rw [← ex], hq, q _ H1 G1 r1 l1 (jrel_enum ry ha)⟩
  · cases hz
end
end ML
/-! ML17 -/
set_option Elab.async false
set_option linter.all false
set_option autoImplicit false
set_option maxRecDepth 100000
set_option maxHeartbeats 4000000
/-! ML17: list comprehensions -/
namespace ML
open PySem PySem.Spec PyProof.Rows L2

theorem PTs_imp {X : Cx} {ifs : List Expr} {t t' : TT} (h : PTs X ifs t) (hi : ∀ σ H Q, t' σ H Q → t σ H Q) : PTs X ifs t' := ⟨fun pins s σ H Q I q => h.run pins s σ H Q I (hi σ H Q q)⟩
def mYes : M Bool := M.ret true
section
variable {X : Cx} {T : TbS} {W : WX}
theorem ptm_nil : PTs X [] (tMB (scOf X T) W mYes) := PTs_imp pts_nil fun σ H Q ⟨S, G, r, p⟩ => p H G r (Le.refl _ _)
theorem ptm_one {c : Expr} {m : M Bool} (h : BM X T W c m) : PTs X [c] (tMB (scOf X T) W m) := pts_one h
end
theorem unk_bk {S1 S' : ES} {σ : L2.St} {G' : Gh} {vs : List Nat} {a : Addr} (hno : noOwn S1.sl vs = true) (l1 : S1.sl.length = σ.length) (l2 : S'.sl.length = σ.length) (u : Unk S' (wipe σ vs) G' a) : Unk { S' with sl := backS S1.sl S'.sl vs } σ G' a := by
  refine ⟨u.1, u.2.1, u.2.2.1, ?_⟩
  rintro ⟨i, o, q1, q2⟩
  have q1 : (backS S1.sl S'.sl vs)[i]? = some (Slot.own o) := q1
  rw [backS_get] at q1
  split at q1
  · rename_i hi
    have hi1 : i < S1.sl.length := by rw [l1, ← l2]; exact hi.2
    rw [List.getElem?_eq_getElem hi1] at q1
    have no := hno
    unfold noOwn at no
    have := List.all_eq_true.mp no i hi.1
    rw [List.getElem?_eq_getElem hi1, show S1.sl[i] = Slot.own o from Option.some.inj q1] at this
    cases this
  · rename_i hi
    refine u.2.2.2 ⟨i, o, q1, ?_⟩
    rw [wipe_get, if_neg (by rw [← l2]; exact hi)]
    exact q2
def noW : WX := fun _ _ _ _ => False
def finO : List EV ⊕ Unit → M EObj
  | .inl acc => M.ret (.lst acc)
  | .inr _ => M.fail
def mLc (vs : List Nat) (mi : M (List EV)) (gm : EV → M Unit) (c : M Bool) (e : M EV) : M EObj := do
  let l ← mi
  let r ← mNs [] (mBlk vs (mDraw vs gm c e stCol [] l))
  finO r
/-- the body of a comprehension -/
structure LBody (X : Cx) (T : TbS) (Gs : List Addr) (Ls : LsS) (k : Nat) (scope : Scope) (vs : List Nat) (tg elt : Expr) (ifs : List Expr) (gm : EV → M Unit) (c : M Bool) (e : M EV) : Prop where
  body : ∀ (Xb : Cx) (Wb : WX), Xb.prog = X.prog → Xb.w = X.w → Xb.K = X.K → Xb.mg = X.mg → Xb.base = X.base → Xb.N = X.N → Xb.env.scope = relS scope X.env.scope → Xb.fn = (fun x => scope.names.lookup x == some .cell) → (Code1 X Gs Ls → Code1 Xb Gs Ls) → Kx Xb T Wb k →
    GM Xb T vs tg gm ∧ PTs Xb ifs (tMB (scOf Xb T) Wb c) ∧ EM Xb T Wb elt e
  nx : NoExc gm
section
variable {X : Cx} {Gs : List Addr} {Ls : LsS} {W : WX} {k : Nat} {scope : Scope} {own : List (Str × Nat)} {tg iter elt : Expr} {ifs : List Expr} {mi : M (List EV)} {gm : EV → M Unit} {c : M Bool} {e : M EV} {pos : Pos}
theorem tG_mono {C : Sc} {I : List Nat} {g : EV → M Unit} {x : V} {σ : L2.St} {H : Hp} {Q Q' : L2.St → Hp → Prop} (h : tG C I g x σ H Q) (hq : ∀ σ' H', Q σ' H' → Q' σ' H') : tG C I g x σ H Q' := by
  obtain ⟨S, G, v, r, rp, p⟩ := h
  exact ⟨S, G, v, r, rp, p.mono (fun _ _ z σ' H' G' r' l' k' => hq _ _ (z σ' H' G' r' l' k')) fun _ _ z => z⟩
theorem tMB_mono {C : Sc} {W : WX} {m : M Bool} {σ : L2.St} {H : Hp} {Q Q' : Bool → Hp → Prop} (h : tMB C W m σ H Q) (hq : ∀ b H', Q b H' → Q' b H') : tMB C W m σ H Q' := by
  obtain ⟨S, G, r, p⟩ := h
  exact ⟨S, G, r, p.mono (fun _ _ z H' G' r' l' => hq _ _ (z H' G' r' l')) fun _ _ z => z⟩
theorem tM_mono {C : Sc} {W : WX} {m : M EV} {σ : L2.St} {H : Hp} {Q Q' : VK} (h : tM C W m σ H Q) (hq : ∀ b H', Q b H' → Q' b H') : tM C W m σ H Q' := by
  obtain ⟨S, G, r, p⟩ := h
  exact ⟨S, G, r, p.mono (fun _ _ z x H' G' r' l' rp => hq _ _ (z x H' G' r' l' rp)) fun _ _ z => z⟩
/-- the reading, by the loop -/
theorem tLc_of {C : Sc} {vs : List Nat} (nx : NoExc gm) (hC : ∀ H a o, C.Tb H → (H a = none ∨ (∃ xs, H a = some (.lst xs)) ∨ (∃ xs, H a = some (.dK xs)) ∨ (∃ xs, H a = some (.dT xs)) ∨ (∃ c d xs, H a = some (.ins c d xs))) → C.Tb (upd H a o)) (b0 : Heap) :
    ∀ σ H Q, tMO C W (mLc vs mi gm c e) σ H Q → tLc (tI C W mi) (tG C vs gm) (tMB C noW c) (tM C noW e) vs σ H Q := by
  rintro σ H0 Q ⟨S0, G0, r0, p0⟩
  refine eMI_bind r0 p0 fun l S1 J H4 G1 r1 l1 j1 p1 D hD => ?_
  obtain ⟨hno, p2⟩ := post_blk (post_ns (post_bnd p1))
  obtain ⟨r6, l6⟩ := r1.newN (u := .lst []) hD
  obtain ⟨n1, n2, n3⟩ := r1.hr.new_not hD
  have unkS : Unk S1 σ G1 D := ⟨n3, n2, n1, r1.new_own hD⟩
  have hT := gturn (vs := vs) (c := c) (e := e) (step := stCol) (Wg := noW) (σ := σ) (K := kCol D) (hs := [D]) (Cr := crCol C D) (QQ := fun r S' => Post (finO r { S' with sl := backS S1.sl S'.sl vs }) (QO C G0 H0 σ Q) (QX C G0 H0 σ W))
      (EE := fun _ _ => False) (j1.mono l6.r) nx crCol_le
      (fun acc acc' y yv h H G S' σ3 Nx hst r u ⟨xs, e1, rs⟩ ry nx => ?_) (fun acc rr y yv h H G S' Nx hst => ?_) (fun cc acc h S' σ3 H' G' he hw r d cr => he.elim)
  · have p3 : Post (mDraw vs gm c e stCol [] l S1) (fun r S' => Post (finO r { S' with sl := backS S1.sl S'.sl vs }) (QO C G0 H0 σ Q) (QX C G0 H0 σ W)) (fun _ _ => False) := p2.mono (fun _ _ z => z) fun cc S' z => absurd z.1 List.not_mem_nil
    refine ⟨fun i m H => Wd C vs gm c e stCol l σ [D] (crCol C D) G1 (upd H4 D (.lst [])) (fun r S' => Post (finO r { S' with sl := backS S1.sl S'.sl vs }) (QO C G0 H0 σ Q) (QX C G0 H0 σ W)) (fun _ _ => False) i m b0 H, ⟨l.length, rfl, Nat.zero_le _, S1, G1, [], ⟨r6.wp vs, Le.refl _ _, fun a ha => ?_⟩, ⟨[], upd_same, reps_nil.mpr rfl⟩, p3⟩, fun i m H w => ?_⟩
    · have : a = D := by simpa using ha
      subst this
      exact ⟨unk_wp unkS vs, _, upd_same, .inl ⟨_, rfl⟩⟩
    · rcases hT i m b0 H w with ⟨stop, S', G', acc, d, ⟨xs, e1, rs⟩, q⟩ | ⟨go, Nx, hNx, step⟩
      · refine .inl ⟨stop, ?_⟩
        have rb := r6.bk hno d.rel d.le
        have hl : (S'.wp vs).sl.length = σ.length := by rw [d.rel.len, wipe_length]
        obtain ⟨f1, f2, f3, f4⟩ := unk_bk hno r1.len hl (d.unk D List.mem_cons_self).1
        exact q (.ref D) H G' rb (l1.trans (l6.trans d.le)) ⟨D, _, rfl, e1, ⟨xs, rfl, rs⟩, f1, f2, f3, f4⟩
      · refine .inr ⟨go, Nx b0, fun H' h' => hNx b0 H' h', fun x H' hy => tG_mono (step x H' hy) fun σ2 H2 ⟨hw, q⟩ => ⟨hw, tMB_mono q fun b H3 q3 => ?_⟩⟩
        cases b with
        | false => exact q3
        | true =>
          refine tM_mono (show tM C noW e σ2 H3 _ from q3) fun y H5 ⟨acc, a1, a2, a3⟩ => ⟨acc, a1, a2, a3 b0⟩
  · unfold stCol at hst
    split at hst
    · rename_i hz
      cases hst
      have hl := rs.length
      refine ⟨xs, e1, by omega, fun h' => ?_⟩
      obtain ⟨r2, l2⟩ := r.updU (o := .lst (xs ++ [yv])) (u D List.mem_cons_self) (hC H D _ r.hr.tb (.inr (.inl ⟨xs, e1⟩)))
      exact nx h' _ G r2 l2 (fun a ha => by
        have : a = D := by simpa using ha
        subst this
        exact ⟨u _ List.mem_cons_self, _, upd_same, .inl ⟨_, rfl⟩⟩) ⟨_, upd_same, (rs.mono l2).append (Reps.one (ry.mono l2))⟩
    · cases hst
  · unfold stCol at hst
    split at hst <;> cases hst

theorem lb_kx {s : Shared} {H : Hp} {C : Addr} {cl : List (Str × Addr)} {fp : List Addr} {T : TbS} (kx : Kx X T W k) : Kx (X.blk s H scope (compEnvC scope cl C X.env) fp) T noW k :=
  ⟨fun _ _ x => by
    obtain ⟨_, _, _, _, _, _, _, _, _, _, _, _, _, _, _, _, z⟩ := x
    exact z.elim, PassesOwn.never, kx.calm, kx.room⟩
theorem om_lc (kx : Kx X (tbs Gs Ls) W k) (hN : X.N.Nodup) (ok : BlkOk X.N X.env.scope scope own) (hi : IM X (tbs Gs Ls) W tg iter mi) (lb : LBody X (tbs Gs Ls) Gs Ls k scope (own.map (·.2)) tg elt ifs gm c e)
    (hs : ∀ x, foldedSetIterable iter X.env x = pure x := by intro _; rfl) : OM X (tbs Gs Ls) W (.ListComp elt [⟨tg, iter, ifs, 0⟩] scope pos) (mLc (own.map (·.2)) mi gm c e) := by
  have hb : ∀ (s : Shared) (H : Hp) (C : Addr) (cl : List (Str × Addr)) (fp : List Addr), _ := fun s H C cl fp => lb.body (X.blk s H scope (compEnvC scope cl C X.env) fp) noW rfl rfl rfl rfl rfl rfl rfl rfl (fun h => h) (lb_kx kx)
  refine PE_imp (pe_lc (g := tG (scOf X (tbs Gs Ls)) (own.map fun (q : Str × Nat) => q.2) gm) (tt := tMB (scOf X (tbs Gs Ls)) noW c) (te := tM (scOf X (tbs Gs Ls)) noW e) kx.calm hN hi ok (fun s H C cl fp => (hb s H C cl fp).1) (fun s H C cl fp => (hb s H C cl fp).2.1) (fun s H C cl fp => (hb s H C cl fp).2.2) hs)
    fun σ H Q h => tLc_of lb.nx (tbs Gs Ls).tbu X.base σ H Q h
/-- name = [..] on one line, the name a local -/
theorem sm_setLc {i : Nat} {y : Str} {py spos : Pos} (kx : Kx X (tbs Gs Ls) W k) (hN : X.N.Nodup) (hy : X.N[i]? = some y) (hyl : X.env.scope.names.lookup y = some .local)
    (hsw : swapsWith (.ListComp elt [⟨tg, iter, ifs, 0⟩] scope pos) (some (.Name y py)) spos.line X.env = pure true) (ok : BlkOk X.N X.env.scope scope own) (hi : IM X (tbs Gs Ls) W tg iter mi) (lb : LBody X (tbs Gs Ls) Gs Ls k scope (own.map (·.2)) tg elt ifs gm c e)
    (hs : ∀ x, foldedSetIterable iter X.env x = pure x := by intro _; rfl) : SM X (tbs Gs Ls) W (.Assign [.Name y py] (.ListComp elt [⟨tg, iter, ifs, 0⟩] scope pos) spos) (sSetO i (mLc (own.map (·.2)) mi gm c e)) := by
  have hb : ∀ (s : Shared) (H : Hp) (C : Addr) (cl : List (Str × Addr)) (fp : List Addr), _ := fun s H C cl fp => lb.body (X.blk s H scope (compEnvC scope cl C X.env) fp) noW rfl rfl rfl rfl rfl rfl rfl rfl (fun h => h) (lb_kx kx)
  refine PS_imp (ps_setLc (i := i) (g := tG (scOf X (tbs Gs Ls)) (own.map fun (q : Str × Nat) => q.2) gm) (tt := tMB (scOf X (tbs Gs Ls)) noW c) (te := tM (scOf X (tbs Gs Ls)) noW e) kx.calm hN hy hyl hsw hi ok (fun s H C cl fp => (hb s H C cl fp).1) (fun s H C cl fp => (hb s H C cl fp).2.1) (fun s H C cl fp => (hb s H C cl fp).2.2) hs) fun D σ H h => ?_
  obtain ⟨S, G, r, p⟩ := h
  show tLc _ _ _ _ _ σ H _
  refine tLc_of lb.nx (tbs Gs Ls).tbu X.base σ H _ ?_
  refine sMO_bind r p fun o S1 x H1 G1 r1 l1 f1 p1 => ?_
  obtain ⟨a, hq⟩ : ∃ _ : Unit, True := ⟨(), True.intro⟩
  have p2 := p1
  unfold setSl at p2
  have p3 := post_bnd p2
  by_cases hlt : i < S1.sl.length
  · rw [if_pos hlt] at p3
    exact p3 _ H1 G1 (r1.setOwn hlt f1) l1
  · rw [if_neg hlt] at p3
    exact p3.elim
end
end ML
/-! ML18 -/
set_option Elab.async false
set_option linter.all false
set_option autoImplicit false
set_option maxRecDepth 100000
set_option maxHeartbeats 4000000
/-! ML18: sorted, min, max, sum of what stands, len of dicts, slices -/
namespace ML
open PySem PySem.Spec PyProof.Rows L2

/-! ### sorted as insertion -/
def insBy {α : Type} (le : α → α → Bool) (a : α) : List α → List α
  | [] => [a]
  | b :: l => if le a b then a :: b :: l else b :: insBy le a l
def isortBy {α : Type} (le : α → α → Bool) : List α → List α
  | [] => []
  | a :: l => insBy le a (isortBy le l)
theorem insBy_mid {α : Type} {le : α → α → Bool} {a : α} : ∀ {l₁ l₂ : List α}, (∀ b ∈ l₁, (!le a b) = true) → (∀ b ∈ l₂, le a b = true) → insBy le a (l₁ ++ l₂) = l₁ ++ a :: l₂
  | [], [], _, _ => rfl
  | [], b :: l, _, h => by
    show insBy le a (b :: l) = a :: b :: l
    unfold insBy
    rw [if_pos (h b List.mem_cons_self)]
  | b :: l₁, l₂, h1, h2 => by
    show insBy le a (b :: (l₁ ++ l₂)) = b :: (l₁ ++ a :: l₂)
    have hb : le a b = false := by have := h1 b List.mem_cons_self; simpa using this
    unfold insBy
    rw [hb, if_neg Bool.false_ne_true, insBy_mid (fun c hc => h1 c (List.mem_cons_of_mem _ hc)) h2]
theorem isortBy_eq {α : Type} {le : α → α → Bool} (tr : ∀ a b c, le a b = true → le b c = true → le a c = true) (tot : ∀ a b, (le a b || le b a) = true) : ∀ l : List α, isortBy le l = l.mergeSort le
  | [] => by simp [isortBy]
  | a :: l => by
    obtain ⟨l₁, l₂, e1, e2, h⟩ := List.mergeSort_cons tr tot a l
    have p : (l₁ ++ a :: l₂).Pairwise (fun x y => le x y = true) := by rw [← e1]; exact List.pairwise_mergeSort tr tot _
    have p2 : ∀ b ∈ l₂, le a b = true := fun b hb => by
      have q := (List.pairwise_append.mp p).2.1
      exact (List.pairwise_cons.mp q).1 b hb
    rw [isortBy, isortBy_eq tr tot l, e1, e2]
    exact insBy_mid h p2
abbrev evLe (rev : Bool) : EV → EV → Bool := PySem.W.dataLe rev toPy
theorem evLe_sort (rev : Bool) (l : List EV) : isortBy (evLe rev) l = l.mergeSort (evLe rev) :=
  isortBy_eq (PySem.W.sortLe_total _ rev _).trans (fun a b => by rw [Bool.or_eq_true]; exact (PySem.W.sortLe_total _ rev _).total a b) l

def isTupC : EV → Bool
  | .tup (_ :: _) => true
  | _ => false
def isOth : EV → Bool
  | .non => false
  | .tup _ => false
  | _ => true
/-- may these be sorted -/
def sortOk (l : List EV) : Bool := datasOk l && decide (deps l ≤ 50) && (l.all fun a => l.all fun b => PySem.W.alike (toPy a) (toPy b)) && (l.all isTupC || l.all isOth) && decide (l.length ≤ sizeLine)
theorem datasOk_mem : ∀ {l : List EV} {e : EV}, datasOk l = true → e ∈ l → dataOk e = true
  | a :: l, e, h, m => by
    rw [datasOk, Bool.and_eq_true] at h
    rcases List.mem_cons.mp m with q | q
    · subst q; exact h.1
    · exact datasOk_mem h.2 q
theorem deps_mem : ∀ {l : List EV} {e : EV}, e ∈ l → dep e ≤ deps l
  | a :: l, e, m => by
    rw [deps]
    rcases List.mem_cons.mp m with q | q
    · subst q; exact Nat.le_max_left _ _
    · exact Nat.le_trans (deps_mem q) (Nat.le_max_right _ _)
structure SortOk (l : List EV) : Prop where
  data : datasOk l = true
  dep : deps l ≤ 50
  alike : PySem.W.AllAlike (l.map toPy)
  kind : PySem.W.Sortable (l.map toPy)
  size : l.length ≤ sizeLine
theorem sortOk_of {l : List EV} (h : sortOk l = true) : SortOk l := by
  unfold sortOk at h
  simp only [Bool.and_eq_true, decide_eq_true_eq, Bool.or_eq_true, List.all_eq_true] at h
  obtain ⟨⟨⟨⟨h1, h2⟩, h3⟩, h4⟩, h5⟩ := h
  refine ⟨h1, h2, fun d hd d' hd' => ?_, ?_, h5⟩
  · obtain ⟨a, ha, rfl⟩ := List.mem_map.mp hd
    obtain ⟨b, hb, rfl⟩ := List.mem_map.mp hd'
    exact h3 a ha b hb
  · rcases h4 with h4 | h4
    · refine .inl fun d hd => ?_
      obtain ⟨a, ha, rfl⟩ := List.mem_map.mp hd
      have := h4 a ha
      cases a with
      | tup m =>
        cases m with
        | nil => cases this
        | cons x r => exact ⟨toPy x, toPys r, by rw [toPy, toPys]⟩
      | _ => cases this
    · refine .inr fun d hd => ?_
      obtain ⟨a, ha, rfl⟩ := List.mem_map.mp hd
      have := h4 a ha
      have hda := datasOk_mem h1 ha
      cases a with
      | non => cases this
      | tup m => cases this
      | bl _ => exact ⟨fun z => (by rw [toPy] at z; cases z), fun xs z => (by rw [toPy] at z; cases z)⟩
      | int _ => exact ⟨fun z => (by rw [toPy] at z; cases z), fun xs z => (by rw [toPy] at z; cases z)⟩
      | str _ => exact ⟨fun z => (by rw [toPy] at z; cases z), fun xs z => (by rw [toPy] at z; cases z)⟩
      | lst _ => exact ⟨fun z => (by rw [toPy] at z; cases z), fun xs z => (by rw [toPy] at z; cases z)⟩
      | _ => rw [dataOk] at hda; cases hda

section
variable {C : Sc} {G : Gh} {H : Hp}
theorem zip_each {h : Heap} : ∀ {l : List EV} {xs : List V} {us : List Value}, Reps C G H l xs → Vals xs us → PySem.W.EachIs (fun v (b : EV × V) => RelV b.2 v) us (l.zip xs)
  | [], _, _, r, v => by rw [reps_nil] at r; subst r; cases v; exact .nil
  | e :: l, _, _, r, v => by
    obtain ⟨x, rr, rfl, rx, rl⟩ := reps_cons.mp r
    cases v with
    | cons h1 h2 => exact .cons h1 (zip_each (h := h) rl h2)
theorem zip_fst : ∀ {l : List EV} {xs : List V}, Reps C G H l xs → (l.zip xs).map Prod.fst = l
  | [], _, r => rfl
  | e :: l, _, r => by
    obtain ⟨x, rr, rfl, rx, rl⟩ := reps_cons.mp r
    rw [List.zip_cons_cons, List.map_cons, zip_fst rl]
theorem zip_rep : ∀ {l : List EV} {xs : List V}, Reps C G H l xs → ∀ b ∈ l.zip xs, Rep C G H b.1 b.2
  | [], _, r, b, hb => by cases hb
  | e :: l, _, r, b, hb => by
    obtain ⟨x, rr, rfl, rx, rl⟩ := reps_cons.mp r
    rw [List.zip_cons_cons] at hb
    rcases List.mem_cons.mp hb with q | q
    · subst q; exact rx
    · exact zip_rep rl b q
theorem reps_pairs : ∀ {bs : List (EV × V)}, (∀ b ∈ bs, Rep C G H b.1 b.2) → Reps C G H (bs.map Prod.fst) (bs.map Prod.snd)
  | [], _ => reps_nil.mpr rfl
  | b :: bs, h => reps_cons.mpr ⟨b.2, _, rfl, h b List.mem_cons_self, reps_pairs fun c hc => h c (List.mem_cons_of_mem _ hc)⟩
theorem vals_pairs : ∀ {out : List Value} {bs : List (EV × V)}, PySem.W.EachIs (fun v (b : EV × V) => RelV b.2 v) out bs → Vals (bs.map Prod.snd) out
  | _, _, .nil => .nil
  | _, _, .cons h t => .cons h (vals_pairs t)
theorem sort_pairs (rev : Bool) (bs : List (EV × V)) : (bs.mergeSort (PySem.W.dataLe rev fun b => toPy b.1)).map Prod.fst = (bs.map Prod.fst).mergeSort (evLe rev) := by
  refine List.map_mergeSort fun a _ b _ => ?_
  cases rev <;> rfl
end

section
variable {X : Cx} {T : TbS} {W : WX} {p pos : Pos}
theorem dps_reads {pins : List (Addr × Obj)} {σ : L2.St} {H : Hp} {s : Shared} (I : Inv X pins σ H s) : ∀ {l : List EV} {xs : List V} {us : List Value} {C : Sc} {G : Gh}, C.K = X.K → datasOk l = true → Reps C G H l xs → Vals xs us → PySem.W.EachIs (fun v (b : EV × V) => ∃ as, Reads s.heap v (toPy b.1) as) us (l.zip xs)
  | [], _, _, _, _, _, _, r, v => by rw [reps_nil] at r; subst r; cases v; exact .nil
  | e :: l, _, _, C, G, hK, d, r, v => by
    obtain ⟨x, rr, rfl, rx, rl⟩ := reps_cons.mp r
    rw [datasOk, Bool.and_eq_true] at d
    cases v with
    | cons h1 h2 =>
      exact .cons (Dp.reads I _ _ _ (hK ▸ dp_of e x d.1 rx) h1) (dps_reads I hK d.2 rl h2)
/-- sorted(x[, reverse=b]): by what collect gives -/
theorem sorted_col {pins : List (Addr × Obj)} {σ : L2.St} {H : Hp} {s : Shared} {u : Value} {l : List EV} {xs : List V} {C : Sc} {G : Gh} {Q : VK} {kw : List (Str × Value)} {rev : Bool} (hkw : kw = [] ∧ rev = false ∨ kw = [(Str.ofString "reverse", .bool rev)])
    (hu : X.A.units + 64 < cLine) (hK : C.K = X.K) (I : Inv X pins σ H s) (hr : Reps C G H l xs) (ok : SortOk l)
    (hc : ∀ (R : List Value → Shared → Prop), (∀ us h' tk, Vals xs us → (∀ b o, s.heap.get? b = some o → h'.get? b = some o) → R us { s with heap := h', toks := tk }) → wpAny (model X.prog X.w) X.A.in1 (collect u) R X.xe s)
    (q : ∀ xs' p, Reps C G H (l.mergeSort (evLe rev)) xs' → H p = none → Q (.ref p) (upd H p (.lst xs'))) :
    wpAny (model X.prog X.w) X.A (call (.builtin "sorted") [u] kw) (EP X pins σ Q) X.xe s := by
  have tail : wpAny (model X.prog X.w) X.A.in1 (Builtin.«sorted» ⟨[u], kw⟩) (fun r s' => ∃ v, r = .done (.ret v) ∧ EP X pins σ Q v s') X.xe s := by
    unfold Builtin.«sorted»
    refine wpAny_bind (m := checkCount "sorted" 1 1 _) (wpAny_pure ?_)
    refine wpAny_bind (hc _ fun us h' tk rv hk => ?_)
    have hl := rv.length
    have hlx := hr.length
    have hz : us.length ≤ sizeLine := by rw [← hl, hlx]; exact ok.size
    have I1 : Inv X pins σ H { s with heap := h', toks := tk } := I.kept hk
    refine wpAny_bind (wpAny_newList ?_ hz)
    have hoL : (h'.push (PyProof.Rows.seqObj "list" us.toArray 0)).get? h'.objs.size = some (PyProof.Rows.seqObj "list" us.toArray 0) := Heap.get?_push_size _ rfl
    show wpAny _ _ _ _ _ { s with heap := h'.push (PyProof.Rows.seqObj "list" us.toArray 0), toks := tk }
    have e := zip_each (h := h') hr rv
    have er0 := dps_reads I1 hK ok.data hr rv
    have er : PySem.W.EachIs (fun v (b : EV × V) => ∃ as, Reads (PySem.W.sortingHeap (h'.push (PyProof.Rows.seqObj "list" us.toArray 0)) h'.objs.size us) v (toPy b.1) as) us (l.zip xs) :=
      er0.mono fun v b ⟨as, r⟩ => ⟨as, PyProof.Rows.Reads.keeps (fun b o z => PySem.W.sortingHeap_old (Nat.ne_of_lt (Heap.lt_size z)) (Heap.get?_push_of_some _ z)) r⟩
    have em : (l.zip xs).map (fun b => toPy b.1) = l.map toPy := by
      rw [show (fun b : EV × V => toPy b.1) = toPy ∘ Prod.fst from rfl, ← List.map_map, zip_fst hr]
    have hal : PySem.W.AllAlike ((l.zip xs).map fun b => toPy b.1) := by rw [em]; exact ok.alike
    have hsk : PySem.W.Sortable ((l.zip xs).map fun b => toPy b.1) := by rw [em]; exact ok.kind
    have hub : ∀ d, d ∈ (l.zip xs).map (fun b => toPy b.1) → X.A.in1.in1.units + d.depth < cLine := fun d hd => by
      rw [em] at hd
      obtain ⟨a, ha, rfl⟩ := List.mem_map.mp hd
      rw [depth_toPy]
      have := deps_mem ha
      have := ok.dep
      show X.A.units + 1 + 1 + dep a < cLine
      omega
    have SA := PySem.W.SortsAt.data (A := X.A.in1.in1) (prog := X.prog) (w := X.w) (s := { s with heap := PySem.W.sortingHeap (h'.push (PyProof.Rows.seqObj "list" us.toArray 0)) h'.objs.size us, toks := tk }) (PySem.W.each_map (R := fun v d => ∃ as, Reads (PySem.W.sortingHeap (h'.push (PyProof.Rows.seqObj "list" us.toArray 0)) h'.objs.size us) v d as) (fun b : EV × V => toPy b.1) er) hal hsk hub
    have out := PySem.W.sortVals_data rev e er hal
    have fin : EP X pins σ Q (.ref h'.objs.size) { s with heap := PyProof.Rows.sortedHeap (h'.push (PyProof.Rows.seqObj "list" us.toArray 0)) h'.objs.size us (PySem.W.sortVals (PySem.W.dataKind (PySem.W.sortingHeap (h'.push (PyProof.Rows.seqObj "list" us.toArray 0)) h'.objs.size us) ((l.zip xs).map fun b => toPy b.1)) rev us us).toArray, toks := tk } := by
      obtain ⟨e', he'⟩ := PyProof.Rows.sortedHeap_at (vs := us) (out := (PySem.W.sortVals (PySem.W.dataKind (PySem.W.sortingHeap (h'.push (PyProof.Rows.seqObj "list" us.toArray 0)) h'.objs.size us) ((l.zip xs).map fun b => toPy b.1)) rev us us).toArray) hoL
      have rps : Reps C G H (l.mergeSort (evLe rev)) (((l.zip xs).mergeSort (PySem.W.dataLe rev fun b => toPy b.1)).map Prod.snd) := by
        have r2 := reps_pairs (bs := (l.zip xs).mergeSort (PySem.W.dataLe rev fun b => toPy b.1)) (C := C) (G := G) (H := H) fun b hb => zip_rep hr b ((List.mergeSort_perm _ _).mem_iff.mp hb)
        rw [sort_pairs, zip_fst hr] at r2
        exact r2
      have hlen : (((l.zip xs).mergeSort (PySem.W.dataLe rev fun b => toPy b.1)).map Prod.snd).length ≤ sizeLine := by
        rw [rps.length, (List.mergeSort_perm _ _).length_eq]; exact ok.size
      refine ⟨.ref h'.objs.size, upd H h'.objs.size (.lst _), I1.laid (t' := tk) (fun b o z => ?_) (Nat.le_refl _) (show ObjOk X.prog X.w _ _ _ (.lst (((l.zip xs).mergeSort (PySem.W.dataLe rev fun b => toPy b.1)).map Prod.snd)) from ⟨hlen, _, e', vals_pairs out, he'⟩), rfl, q _ _ rps (I1.hok.fresh (Nat.le_refl _))⟩
      have hb : b < h'.objs.size := Heap.lt_size z
      rw [PyProof.Rows.sortedHeap_old (Nat.ne_of_lt hb) (by rw [PyProof.Rows.size_push']; exact Nat.lt_succ_of_lt hb)]
      exact Heap.get?_push_of_some _ z
    rcases hkw with ⟨hk1, hk2⟩ | hk1
    · subst hk1; subst hk2
      refine wpAny_bind (wpAny_holding (wpAny_call_entry PyProof.Rows.slot_list_sort ⟨_, hoL, rfl⟩ PyProof.Rows.entry_list_sort (PySem.W.list_sort_vals hoL SA hz ⟨_, rfl, ?_⟩) (PyProof.Rows.args_list_sort _)))
      exact wpAny_pure ⟨_, rfl, fin⟩
    · subst hk1
      refine wpAny_bind (wpAny_holding (PyProof.Rows.wpAny_call_entry_kw PyProof.Rows.slot_list_sort ⟨_, hoL, rfl⟩ PyProof.Rows.entry_list_sort (PySem.W.list_sort_rev_vals hoL SA hz ⟨_, rfl, ?_⟩) (PyProof.Rows.args_list_sort_rev _ _)))
      exact wpAny_pure ⟨_, rfl, fin⟩
  rcases hkw with ⟨hk1, hk2⟩ | hk1
  · subst hk1
    exact PyProof.Rows.call_function_entry_kw PyProof.Rows.kind_sorted PyProof.Rows.plain_sorted PyProof.Rows.entry_sorted (PyProof.Rows.args_sorted1 _) tail
  · subst hk1
    exact PyProof.Rows.call_function_entry_kw PyProof.Rows.kind_sorted PyProof.Rows.plain_sorted PyProof.Rows.entry_sorted (PyProof.Rows.args_sorted_rev _ _) tail
end
end ML
/-! ML19 -/
set_option Elab.async false
set_option linter.all false
set_option autoImplicit false
set_option maxRecDepth 100000
set_option maxHeartbeats 4000000
/-! ML19: the calls sorted, min, max, sum, len of dicts; slices -/
namespace ML
open PySem PySem.Spec PyProof.Rows L2

section
variable {X : Cx} {T : TbS} {W : WX} {p pos : Pos}
/-- a list, a tuple, or a dict by its keys -/
def Src3 (K : PySem.W.Frag) (H : Hp) (a : Addr) (xs : List V) : Prop := SqL K H a xs ∨ SqT K H a xs ∨ ∃ kvs : List (Key × V), Rd H a (.dK kvs) ∧ xs = kvs.map fun q => kV q.1
theorem collect3 {pins : List (Addr × Obj)} {σ : L2.St} {H : Hp} {s : Shared} {a : Addr} {xs : List V} {A : Around} {E : Value → Shared → Prop} (hh : A.handled = none) (I : Inv X pins σ H s) (h : Src3 X.K H a xs) (R : List Value → Shared → Prop)
    (q : ∀ us h' tk, Vals xs us → (∀ b o, s.heap.get? b = some o → h'.get? b = some o) → R us { s with heap := h', toks := tk }) : wpAny (model X.prog X.w) A (collect (.ref a)) R E s := by
  rcases h with h | h | ⟨kvs, hd, rfl⟩
  · obtain ⟨its, r, hl, hz⟩ := I.list h
    obtain ⟨o, ho, hc, n, hd⟩ := id hl.isList
    exact wpAny_collect_seq a (.inl rfl) ho hc hd (fun h' hk => q _ h' _ r hk) (by rw [List.size_toArray, ← r.length]; exact hz)
  · obtain ⟨its, r, hl, hz⟩ := I.tuple h
    obtain ⟨o, ho, hc, n, hd⟩ := id hl
    exact wpAny_collect_seq a (.inr rfl) ho hc hd (fun h' hk => q _ h' _ r hk) (by rw [List.size_toArray, ← r.length]; exact hz)
  · obtain ⟨z, lo, vs, rel, dd⟩ := dk_rd I.hok hd
    obtain ⟨ep, hat⟩ := dd.dictAt
    refine PySem.W.kdu_collect (A := A) (PySem.W.kdl_dict (knd := mixKind X.prog X.w) (kvs := vs) (ep := ep) lo) hh hat (by rw [← rel.length]; exact z) fun h' tk acc hk hacc => ?_
    have ek : (kvs.map fun kv => kV kv.1) = vs.map fun p => kV p.1 := by
      have e := congrArg (List.map kV) rel.keys
      rw [List.map_map, List.map_map] at e
      exact e
    have hv : Vals (vs.map fun p => kV p.1) acc.toList := keys_at (by rw [Array.length_toList]; exact hacc.1) fun j v e => hacc.2 j v (by rw [← Array.getElem?_toList]; exact e)
    exact q _ h' tk (by rw [ek]; exact hv) hk
def rSrt (K : PySem.W.Frag) (rev : Bool) : List V → Hp → VK → Prop := fun vs H Q => ∃ a xs l, ∃ (C : Sc) (G : Gh), vs = [V.ref a] ∧ Src3 K H a xs ∧ C.K = K ∧ Reps C G H l xs ∧ SortOk l ∧
  ∀ xs' p, Reps C G H (l.mergeSort (evLe rev)) xs' → H p = none → Q (.ref p) (upd H p (.lst xs'))
theorem call_srt (hc : X.calm = true) (hu : X.A.units + 64 < cLine) : CallR X (.builtin "sorted") (rSrt X.K false) := by
  intro pins s σ H vs us Q I r h
  obtain ⟨a, xs, l, C, G, rfl, h3, hK, hr, ok, q⟩ := h
  rw [Vals.ref1 r]
  exact sorted_col (.inl ⟨rfl, rfl⟩) hu hK I hr ok (fun R q => collect3 (A := X.A.in1) (show X.A.in1.handled = none from I.ok.hd hc) I h3 R q) q
/-- what is walked at once: a list, a tuple, a dict by its keys -/
def walkL (S : ES) (v : EV) : Option (List EV) := match rdS S v with
  | some l => some l
  | none => match rdD S v with
    | some (false, ks, _) => some ks
    | _ => none
theorem keys_reps {C : Sc} {G : Gh} {H : Hp} : ∀ {ks : List EV} {kvs : List (Key × V)}, (ks.map keyOf = kvs.map fun q => some q.1) → Reps C G H ks (kvs.map fun q => kV q.1)
  | [], kvs, h => by
    cases kvs with
    | nil => exact reps_nil.mpr rfl
    | cons q r => simp at h
  | k :: ks, kvs, h => by
    cases kvs with
    | nil => simp at h
    | cons q r =>
      rw [List.map_cons, List.map_cons] at h
      injection h with h1 h2
      refine reps_cons.mpr ⟨_, _, rfl, ?_, keys_reps h2⟩
      cases k with
      | int i =>
        have e : Sum.inl i = q.1 := Option.some.inj h1
        show Rep C G H (.int i) (kV q.1)
        rw [← e]; exact rep_int.mpr rfl
      | str z =>
        have e : Sum.inr z = q.1 := Option.some.inj h1
        show Rep C G H (.str z) (kV q.1)
        rw [← e]; exact rep_str.mpr rfl
      | _ => cases h1
theorem walk3 {C : Sc} {S : ES} {σ : L2.St} {H : Hp} {G : Gh} {v : EV} {x : V} {l : List EV} (r : SRel C S σ H G) (h : RepN C S σ H G v x) (e : walkL S v = some l) : ∃ a xs, x = .ref a ∧ Src3 C.K H a xs ∧ Reps C G H l xs := by
  unfold walkL at e
  split at e
  · rename_i l' hl'
    cases e
    obtain ⟨a, xs, e1, q, rp⟩ := rdN_seq r h hl'
    exact ⟨a, xs, e1, q.elim .inl fun z => .inr (.inl z), rp⟩
  · split at e
    · rename_i ks vs hd
      cases e
      obtain ⟨a, xs, u, e1, rv, d, hr⟩ := rdD_rep r h hd
      unfold DRel at d
      rw [if_neg Bool.false_ne_true] at d
      obtain ⟨kvs, rfl, e2, e3⟩ := d
      exact ⟨a, _, e1, .inr (.inr ⟨kvs, hr, rfl⟩), keys_reps e3⟩
    · cases e
def eSorted (rev : Bool) (v : EV) : M EObj := fun S => match walkL S v with
  | some l => if sortOk l then .ok (.lst (isortBy (evLe rev) l)) S else .bad
  | none => .bad
theorem om_sorted {e : Expr} {m : M EV} (hc : X.calm = true) (hu : X.A.units + 64 < cLine) (B : Bt X.mg) (hg : Gl X "sorted") (he : NM X T W e m) (hs : starEach [e] X.env = (false, eval e X.env) :: starEach [] X.env := by rfl) (hpl : (backTo pos (starEach [] X.env)).any (·.1) = false := by rfl) :
    OM X T W (.Call (.Name "sorted" p) [e] [] pos) (m >>= eSorted false) := by
  refine PE_imp (pe_callB (call_srt hc hu) hg B.sorted (by decide +kernel) (pa_cons he pa_nil hs) (by decide) (by decide) hs hpl) fun σ H Q h => ?_
  refine tA_oneO σ H Q _ (fun S G H v x r rp p => ?_) h
  unfold eSorted at p
  split at p
  · rename_i l hl
    split at p
    · rename_i ok
      obtain ⟨a, xs, rfl, s3, rps⟩ := walk3 r rp hl
      refine ⟨a, xs, l, scOf X T, G, rfl, s3, rfl, rps, sortOk_of ok, fun xs' q r' hp => ?_⟩
      obtain ⟨r2, l2⟩ := r.newN (u := .lst xs') hp
      refine p _ _ _ r2 l2 (fresh_new r hp ⟨xs', rfl, ?_⟩)
      rw [evLe_sort]
      exact r'.mono l2
    · exact p.elim
  · exact p.elim

/-! ### min, max -/
def evLt (a b : EV) : Bool := PySem.W.dataLt (toPy a) (toPy b)
def minE (x : EV) (l : List EV) : EV := l.foldl (fun a y => if evLt y a then y else a) x
def maxE (x : EV) (l : List EV) : EV := l.foldl (fun a y => if evLt a y then y else a) x
theorem toPys_map : ∀ l : List EV, toPys l = l.map toPy
  | [] => rfl
  | e :: l => by rw [toPys, toPys_map l, List.map_cons]
theorem minE_py : ∀ (l : List EV) (x : EV), toPy (minE x l) = PySem.W.minD (toPy x) (l.map toPy)
  | [], x => rfl
  | y :: l, x => by
    have ih := minE_py l (if evLt y x then y else x)
    show toPy (minE (if evLt y x then y else x) l) = PySem.W.minD (if PySem.W.dataLt (toPy y) (toPy x) then toPy y else toPy x) (l.map toPy)
    rw [ih]
    unfold evLt
    split <;> rfl
theorem maxE_py : ∀ (l : List EV) (x : EV), toPy (maxE x l) = PySem.W.maxD (toPy x) (l.map toPy)
  | [], x => rfl
  | y :: l, x => by
    have ih := maxE_py l (if evLt x y then y else x)
    show toPy (maxE (if evLt x y then y else x) l) = PySem.W.maxD (if PySem.W.dataLt (toPy x) (toPy y) then toPy y else toPy x) (l.map toPy)
    rw [ih]
    unfold evLt
    split <;> rfl
theorem minE_mem : ∀ (l : List EV) (x : EV), minE x l ∈ x :: l
  | [], x => List.mem_cons_self
  | y :: l, x => by
    have ih := minE_mem l (if evLt y x then y else x)
    show minE (if evLt y x then y else x) l ∈ x :: y :: l
    rcases List.mem_cons.mp ih with q | q
    · rw [q]; split
      · exact List.mem_cons_of_mem _ List.mem_cons_self
      · exact List.mem_cons_self
    · exact List.mem_cons_of_mem _ (List.mem_cons_of_mem _ q)
theorem maxE_mem : ∀ (l : List EV) (x : EV), maxE x l ∈ x :: l
  | [], x => List.mem_cons_self
  | y :: l, x => by
    have ih := maxE_mem l (if evLt x y then y else x)
    show maxE (if evLt x y then y else x) l ∈ x :: y :: l
    rcases List.mem_cons.mp ih with q | q
    · rw [q]; split
      · exact List.mem_cons_of_mem _ List.mem_cons_self
      · exact List.mem_cons_self
    · exact List.mem_cons_of_mem _ (List.mem_cons_of_mem _ q)
mutual
theorem toPy_inj : ∀ (a b : EV), dataOk a = true → dataOk b = true → toPy a = toPy b → a = b
  | .non, b, _, h, e => by cases b <;> first | rfl | (rw [dataOk] at h; cases h; done) | (rw [toPy, toPy] at e; cases e; done)
  | .bl _, b, _, h, e => by cases b <;> first | (rw [toPy, toPy] at e; cases e; rfl) | (rw [toPy, toPy] at e; cases e; done) | (rw [dataOk] at h; cases h; done)
  | .int _, b, _, h, e => by cases b <;> first | (rw [toPy, toPy] at e; cases e; rfl) | (rw [toPy, toPy] at e; cases e; done) | (rw [dataOk] at h; cases h; done)
  | .str _, b, _, h, e => by cases b <;> first | (rw [dataOk] at h; cases h; done) | (rw [toPy, toPy] at e; cases e; rfl) | (rw [toPy, toPy] at e; cases e)
  | .tup l, b, h1, h, e => by
    cases b with
    | tup m =>
      rw [dataOk] at h1 h
      rw [toPy, toPy] at e
      rw [toPys_inj l m h1 h (by injection e)]
    | _ => first | (rw [dataOk] at h; cases h; done) | (rw [toPy, toPy] at e; cases e)
  | .lst l, b, h1, h, e => by
    cases b with
    | lst m =>
      rw [dataOk] at h1 h
      rw [toPy, toPy] at e
      rw [toPys_inj l m h1 h (by injection e)]
    | _ => first | (rw [dataOk] at h; cases h; done) | (rw [toPy, toPy] at e; cases e)
  | .dic _ _ _, _, h, _, _ => by rw [dataOk] at h; cases h
  | .ref _, _, h, _, _ => by rw [dataOk] at h; cases h
  | .lam _ _, _, h, _, _ => by rw [dataOk] at h; cases h
  | .scr _ _, _, h, _, _ => by rw [dataOk] at h; cases h
theorem toPys_inj : ∀ (a b : List EV), datasOk a = true → datasOk b = true → toPys a = toPys b → a = b
  | [], [], _, _, _ => rfl
  | [], _ :: _, _, _, e => by rw [toPys, toPys] at e; cases e
  | _ :: _, [], _, _, e => by rw [toPys, toPys] at e; cases e
  | x :: l, y :: m, h1, h2, e => by
    rw [datasOk, Bool.and_eq_true] at h1 h2
    rw [toPys, toPys] at e
    injection e with e1 e2
    rw [toPy_inj x y h1.1 h2.1 e1, toPys_inj l m h1.2 h2.2 e2]
end
def notNon : EV → Bool
  | .non => false
  | _ => true
def mmOk (l : List EV) : Bool := datasOk l && decide (deps l ≤ 50) && (l.all fun a => l.all fun b => PySem.W.alike (toPy a) (toPy b)) && l.all notNon
structure MmOk (l : List EV) : Prop where
  data : datasOk l = true
  dep : deps l ≤ 50
  alike : PySem.W.AlikeAll (l.map toPy)
theorem mmOk_of {l : List EV} (h : mmOk l = true) : MmOk l := by
  unfold mmOk at h
  simp only [Bool.and_eq_true, decide_eq_true_eq, List.all_eq_true] at h
  obtain ⟨⟨⟨h1, h2⟩, h3⟩, h4⟩ := h
  refine ⟨h1, h2, fun d hd d' hd' => ?_, fun d hd => ?_⟩
  · obtain ⟨a, ha, rfl⟩ := List.mem_map.mp hd
    obtain ⟨b, hb, rfl⟩ := List.mem_map.mp hd'
    exact h3 a ha b hb
  · obtain ⟨a, ha, rfl⟩ := List.mem_map.mp hd
    have := h4 a ha
    have hda := datasOk_mem h1 ha
    cases a with
    | non => cases this
    | bl _ => intro z; rw [toPy] at z; cases z
    | int _ => intro z; rw [toPy] at z; cases z
    | str _ => intro z; rw [toPy] at z; cases z
    | tup _ => intro z; rw [toPy] at z; cases z
    | lst _ => intro z; rw [toPy] at z; cases z
    | _ => rw [dataOk] at hda; cases hda
theorem readsAll_of {pins : List (Addr × Obj)} {σ : L2.St} {H : Hp} {s : Shared} (I : Inv X pins σ H s) : ∀ {l : List EV} {xs : List V} {us : List Value} {C : Sc} {G : Gh}, C.K = X.K → datasOk l = true → Reps C G H l xs → Vals xs us → ∃ as, ReadsAll s.heap us (l.map toPy) as
  | [], _, _, _, _, _, _, r, v => by rw [reps_nil] at r; subst r; cases v; exact ⟨_, .nil⟩
  | e :: l, _, _, C, G, hK, d, r, v => by
    obtain ⟨x, rr, rfl, rx, rl⟩ := reps_cons.mp r
    rw [datasOk, Bool.and_eq_true] at d
    cases v with
    | cons h1 h2 =>
      obtain ⟨as, q⟩ := Dp.reads I _ _ _ (hK ▸ dp_of e x d.1 rx) h1
      obtain ⟨bs, q2⟩ := readsAll_of I hK d.2 rl h2
      exact ⟨_, .cons q q2⟩
def rMm (K : PySem.W.Frag) (f : EV → List EV → EV) : List V → Hp → VK → Prop := fun vs H Q => ∃ a xs e l, ∃ (C : Sc) (G : Gh), vs = [V.ref a] ∧ (SqL K H a xs ∨ SqT K H a xs) ∧ C.K = K ∧ Reps C G H (e :: l) xs ∧ MmOk (e :: l) ∧
  ∀ x, Rep C G H (f e l) x → Q x H
theorem mm_end {pins : List (Addr × Obj)} {σ : L2.St} {H : Hp} {s : Shared} {e z : EV} {l : List EV} {xs : List V} {us : List Value} {C : Sc} {G : Gh} {Q : VK} {i : Nat} {v : Value} {h' : Heap} {tk : Nat} {bs : List Addr} (I : Inv X pins σ H s) (hK : C.K = X.K) (hr : Reps C G H (e :: l) xs) (rv : Vals xs us) (ok : MmOk (e :: l))
    (hz : z ∈ e :: l) (hi : us.toArray[i]? = some v) (r : Reads h' v (toPy z) bs) (hk : ∀ b o, s.heap.get? b = some o → h'.get? b = some o) (q : ∀ x, Rep C G H z x → Q x H) : EP X pins σ Q v { s with heap := h', toks := tk } := by
  have hi' : us[i]? = some v := by simpa using hi
  have hlt : i < us.length := by
    rcases Nat.lt_or_ge i us.length with y | y
    · exact y
    · rw [List.getElem?_eq_none y] at hi'; cases hi'
  have hlx : i < xs.length := by rw [rv.length]; exact hlt
  obtain ⟨y, hy, rx⟩ := hr.get' (List.getElem?_eq_getElem hlx)
  have rvi : RelV xs[i] v := by
    obtain ⟨u, hu, hrel⟩ := Vals.get rv (List.getElem?_eq_getElem hlx)
    rw [hi'] at hu; cases hu
    exact hrel
  have ym : y ∈ e :: l := List.mem_of_getElem? hy
  have dy := datasOk_mem ok.data ym
  obtain ⟨as, ry⟩ := Dp.reads I _ _ _ (hK ▸ dp_of y _ dy rx) rvi
  have al := ok.alike.1 _ (List.mem_map.mpr ⟨y, ym, rfl⟩) _ (List.mem_map.mpr ⟨z, hz, rfl⟩)
  have ee := PySem.W.alike_unique _ _ v as bs al (PyProof.Rows.Reads.keeps hk ry) r
  have eyz := toPy_inj y z dy (datasOk_mem ok.data hz) ee
  subst eyz
  exact ⟨xs[i], H, I.kept hk, rvi, q _ rx⟩
theorem mm_room {e : EV} {l : List EV} (hu : X.A.units + 64 < cLine) (ok : MmOk (e :: l)) : X.A.units + 1 + PyData.depthAll (toPy e :: l.map toPy) < cLine := by
  have := depths_toPy (e :: l)
  rw [toPys, toPys_map] at this
  rw [this]
  have := ok.dep
  omega
theorem call_minD (hc : X.calm = true) (hu : X.A.units + 64 < cLine) : CallR X (.builtin "min") (rMm X.K minE) := by
  intro pins s σ H vs us Q I r h
  obtain ⟨a, xs, e, l, C, G, rfl, h3, hK, hr, ok, q⟩ := h
  rw [Vals.ref1 r]
  rcases h3 with h3 | h3
  · obtain ⟨its, rv, hl, hz⟩ := I.list h3
    obtain ⟨as, ra⟩ := readsAll_of I hK ok.data hr rv
    refine PySem.W.min_list_data (vs := its.toArray) (x := toPy e) (xs := l.map toPy) (I.ok.hd hc) hl.isList ra ok.alike (mm_room hu ok) fun i v h' tk bs hi r' hk => ?_
    rw [← minE_py] at r'
    exact mm_end I hK hr rv ok (minE_mem l e) hi r' hk q
  · obtain ⟨its, rv, hl, hz⟩ := I.tuple h3
    obtain ⟨as, ra⟩ := readsAll_of I hK ok.data hr rv
    refine PySem.W.min_tuple_data (vs := its.toArray) (x := toPy e) (xs := l.map toPy) (I.ok.hd hc) hl ra ok.alike (mm_room hu ok) fun i v h' tk bs hi r' hk => ?_
    rw [← minE_py] at r'
    exact mm_end I hK hr rv ok (minE_mem l e) hi r' hk q
theorem call_maxD (hc : X.calm = true) (hu : X.A.units + 64 < cLine) : CallR X (.builtin "max") (rMm X.K maxE) := by
  intro pins s σ H vs us Q I r h
  obtain ⟨a, xs, e, l, C, G, rfl, h3, hK, hr, ok, q⟩ := h
  rw [Vals.ref1 r]
  rcases h3 with h3 | h3
  · obtain ⟨its, rv, hl, hz⟩ := I.list h3
    obtain ⟨as, ra⟩ := readsAll_of I hK ok.data hr rv
    refine PySem.W.max_list_data (vs := its.toArray) (x := toPy e) (xs := l.map toPy) (I.ok.hd hc) hl.isList ra ok.alike (mm_room hu ok) fun i v h' tk bs hi r' hk => ?_
    rw [← maxE_py] at r'
    exact mm_end I hK hr rv ok (maxE_mem l e) hi r' hk q
  · obtain ⟨its, rv, hl, hz⟩ := I.tuple h3
    obtain ⟨as, ra⟩ := readsAll_of I hK ok.data hr rv
    refine PySem.W.max_tuple_data (vs := its.toArray) (x := toPy e) (xs := l.map toPy) (I.ok.hd hc) hl ra ok.alike (mm_room hu ok) fun i v h' tk bs hi r' hk => ?_
    rw [← maxE_py] at r'
    exact mm_end I hK hr rv ok (maxE_mem l e) hi r' hk q
def eMm (f : EV → List EV → EV) (v : EV) : M EV := fun S => match rdS S v with
  | some (e :: l) => if mmOk (e :: l) then .ok (f e l) S else .bad
  | _ => .bad
theorem em_mm {id : String} {f : EV → List EV → EV} {e : Expr} {m : M EV} {nm : Str} (hcr : CallR X (.builtin id) (rMm X.K f)) (hm : X.mg nm = none) (hb : bootBuiltins nm = some (.builtin id)) (hg : Gl X nm) (he : NM X T W e m)
    (h1 : nm ≠ "__name__") (h2 : (nm == ("__debug__" : Str)) = false) (hs : starEach [e] X.env = (false, eval e X.env) :: starEach [] X.env := by rfl) (hpl : (backTo pos (starEach [] X.env)).any (·.1) = false := by rfl) :
    EM X T W (.Call (.Name nm p) [e] [] pos) (mUn (eMm f) m) := by
  refine PE_imp (pe_callB hcr hg hm hb (pa_cons he pa_nil hs) h1 h2 hs hpl) fun σ H Q h => ?_
  refine tA_one σ H Q _ (fun S G H v x r rp p => ?_) h
  unfold eMm at p
  split at p
  · rename_i e0 l hl
    split at p
    · rename_i ok
      obtain ⟨a, xs, rfl, sq, rps⟩ := rdN_seq r rp hl
      exact ⟨a, xs, e0, l, scOf X T, G, rfl, sq, rfl, rps, mmOk_of ok, fun y ry => p y H G r (Le.refl _ _) ry⟩
    · exact p.elim
  · exact p.elim
theorem em_min {e : Expr} {m : M EV} (hc : X.calm = true) (hu : X.A.units + 64 < cLine) (B : Bt X.mg) (hg : Gl X "min") (he : NM X T W e m) (hs : starEach [e] X.env = (false, eval e X.env) :: starEach [] X.env := by rfl) (hpl : (backTo pos (starEach [] X.env)).any (·.1) = false := by rfl) :
    EM X T W (.Call (.Name "min" p) [e] [] pos) (mUn (eMm minE) m) := em_mm (call_minD hc hu) B.min (by decide +kernel) hg he (by decide) (by decide) hs hpl
theorem em_max {e : Expr} {m : M EV} (hc : X.calm = true) (hu : X.A.units + 64 < cLine) (B : Bt X.mg) (hg : Gl X "max") (he : NM X T W e m) (hs : starEach [e] X.env = (false, eval e X.env) :: starEach [] X.env := by rfl) (hpl : (backTo pos (starEach [] X.env)).any (·.1) = false := by rfl) :
    EM X T W (.Call (.Name "max" p) [e] [] pos) (mUn (eMm maxE) m) := em_mm (call_maxD hc hu) B.max (by decide +kernel) hg he (by decide) (by decide) hs hpl

/-! ### sum -/
def intsE : List EV → Option (List Int)
  | [] => some []
  | .int i :: l => match intsE l with
    | some r => some (i :: r)
    | none => none
  | _ :: _ => none
theorem intsE_reps {C : Sc} {G : Gh} {H : Hp} : ∀ {l : List EV} {ns : List Int} {xs : List V}, intsE l = some ns → Reps C G H l xs → xs = ns.map V.int
  | [], ns, xs, h, r => by cases h; rw [reps_nil] at r; rw [r]; rfl
  | e :: l, ns, xs, h, r => by
    obtain ⟨x, rr, rfl, rx, rl⟩ := reps_cons.mp r
    cases e with
    | int i =>
      simp only [intsE] at h
      split at h
      · rename_i r' hr'
        cases h
        rw [rep_int.mp rx, intsE_reps hr' rl]; rfl
      · cases h
    | _ => cases h
def rSm (K : PySem.W.Frag) : List V → Hp → VK → Prop := fun vs H Q => ∃ (a : Addr) (ns : List Int), vs = [V.ref a] ∧ (SqL K H a (ns.map V.int) ∨ SqT K H a (ns.map V.int)) ∧ Q (.int ns.sum) H
theorem call_sumD (hc : X.calm = true) : CallR X (.builtin "sum") (rSm X.K) := by
  intro pins s σ H vs us Q I r h
  obtain ⟨a, ns, rfl, hs, q⟩ := h
  rcases hs with hs | hs
  · exact cr_sum hc pins s σ H _ us Q I r ⟨a, ns, rfl, hs, q⟩
  · obtain ⟨its, rv, hl, hz⟩ := I.tuple hs
    rw [Vals.ref1 r]
    obtain ⟨xs, hx⟩ := rv.ints.allInts.items
    have hn : numsOf its.toArray.toList = ns := by rw [show its.toArray.toList = its from rfl, rv.ints.numsOf]
    have hl' : s.heap.IsTuple a its.toArray := hl
    rw [hx] at hl' hn
    rw [nums_intItems] at hn
    refine PySem.W.ktm_sumG (I.ok.hd hc) hl' fun h' tk t' hk => ?_
    rw [preSum_eq, List.take_of_length_le (by simp), hn]
    exact ⟨.int _, H, I.kept hk, ⟨_, rfl⟩, q⟩
def eSum (v : EV) : M EV := fun S => match rdS S v with
  | some l => match intsE l with
    | some ns => .ok (.int ns.sum) S
    | none => .bad
  | none => .bad
theorem em_sum {e : Expr} {m : M EV} (hc : X.calm = true) (B : Bt X.mg) (hg : Gl X "sum") (he : NM X T W e m) (hs : starEach [e] X.env = (false, eval e X.env) :: starEach [] X.env := by rfl) (hpl : (backTo pos (starEach [] X.env)).any (·.1) = false := by rfl) :
    EM X T W (.Call (.Name "sum" p) [e] [] pos) (mUn eSum m) := by
  refine PE_imp (pe_callB (call_sumD hc) hg B.sum (by decide +kernel) (pa_cons he pa_nil hs) (by decide) (by decide) hs hpl) fun σ H Q h => ?_
  refine tA_one σ H Q _ (fun S G H v x r rp p => ?_) h
  unfold eSum at p
  split at p
  · rename_i l hl
    split at p
    · rename_i ns hns
      obtain ⟨a, xs, rfl, sq, rps⟩ := rdN_seq r rp hl
      have e1 := intsE_reps hns rps
      subst e1
      exact ⟨a, ns, rfl, sq, p _ H G r (Le.refl _ _) (rep_int.mpr rfl)⟩
    · exact p.elim
  · exact p.elim
end
end ML
/-! ML20 -/
set_option Elab.async false
set_option linter.all false
set_option autoImplicit false
set_option maxRecDepth 100000
set_option maxHeartbeats 4000000
/-! ML20: objects that change: own slots and heap objects; append, x[k] = e, x[k] op= e; a fresh object that becomes a heap object -/
namespace ML
open PySem PySem.Spec PyProof.Rows L2

inductive Plc where
  | own (i : Nat) | ref (n : Nat)
def PlcV (G : Gh) (σ : L2.St) : Plc → V → Prop
  | .own i, x => σ[i]? = some (some x)
  | .ref n, x => ∃ a, G.ρ[n]? = some a ∧ x = .ref a
def getP : Plc → ES → Option EObj
  | .own i, S => match S.sl[i]? with
    | some (.own o) => some o
    | _ => none
  | .ref n, S => S.hp[n]?
def putP (p : Plc) (o : EObj) (S : ES) : ES := match p with
  | .own i => { S with sl := S.sl.set i (.own o) }
  | .ref n => { S with hp := S.hp.set n o }
theorem getP_own {i : Nat} {S : ES} {o : EObj} (e : getP (.own i) S = some o) : S.sl[i]? = some (.own o) := by
  simp only [getP] at e
  split at e
  · rename_i o2 hs
    cases e
    exact hs
  · cases e
theorem PlcV.mono {G G' : Gh} {H H' : Hp} {σ : L2.St} {p : Plc} {x : V} (l : Le G H G' H') (h : PlcV G σ p x) : PlcV G' σ p x := by
  cases p with
  | own i => exact h
  | ref n => obtain ⟨a, e, q⟩ := h; exact ⟨a, l.rhoGet e, q⟩
section
variable {C : Sc} {S : ES} {σ : L2.St} {H : Hp} {G : Gh} {p : Plc} {x : V} {o o' : EObj} {u' : HO}
theorem plc_obj (r : SRel C S σ H G) (h : PlcV G σ p x) (e : getP p S = some o) : ∃ a u, x = .ref a ∧ H a = some u ∧ ObjRel C G H o u := by
  cases p with
  | own i =>
    have hs := getP_own e
    have q := r.slot i
    rw [hs] at q
    obtain ⟨a, u, ea, hu, ho, _⟩ := q
    have h' : σ[i]? = some (some x) := h
    rw [ea] at h'; cases h'
    exact ⟨a, u, rfl, hu, ho⟩
  | ref n =>
    obtain ⟨a, e1, rfl⟩ := h
    obtain ⟨a', u, e2, e3, e4⟩ := r.hr.obj n o e
    rw [e1] at e2; cases e2
    exact ⟨a, u, rfl, e3, e4⟩
theorem nodup_at {ρ : List Addr} (nd : ρ.Nodup) {m n : Nat} {a : Addr} (h1 : ρ[m]? = some a) (h2 : ρ[n]? = some a) : m = n := by
  have hm : m < ρ.length := by
    rcases Nat.lt_or_ge m ρ.length with z | z
    · exact z
    · rw [List.getElem?_eq_none z] at h1; cases h1
  have hn : n < ρ.length := by
    rcases Nat.lt_or_ge n ρ.length with z | z
    · exact z
    · rw [List.getElem?_eq_none z] at h2; cases h2
  rw [List.getElem?_eq_getElem hm] at h1
  rw [List.getElem?_eq_getElem hn] at h2
  exact (List.getElem_inj nd).mp (by rw [Option.some.inj h1, Option.some.inj h2])
theorem plc_set (r : SRel C S σ H G) (h : PlcV G σ p x) (e : getP p S = some o) {a : Addr} (ex : x = .ref a) (no : ObjRel C G H o' u') : SRel C (putP p o' S) σ (upd H a u') G ∧ Le G H G (upd H a u') := by
  obtain ⟨a', u, e1, hu, ho⟩ := plc_obj r h e
  rw [ex] at e1; cases e1
  -- who knows a
  have nFz : ¬ G.Fz a := by
    cases p with
    | own i =>
      have q := r.slot i
      rw [getP_own e] at q
      obtain ⟨b, u, ea, _, _, n1, _⟩ := q
      have h' : σ[i]? = some (some x) := h
      rw [ea, ex] at h'; cases h'
      exact n1
    | ref n =>
      obtain ⟨b, e1, e2⟩ := h
      rw [ex] at e2; cases e2
      exact (r.hr.nf a (List.mem_of_getElem? e1)).1
  have nPv : ¬ G.Pv a := by
    cases p with
    | own i =>
      have q := r.slot i
      rw [getP_own e] at q
      obtain ⟨b, u, ea, _, _, _, n2, _⟩ := q
      have h' : σ[i]? = some (some x) := h
      rw [ea, ex] at h'; cases h'
      exact n2
    | ref n =>
      obtain ⟨b, e1, e2⟩ := h
      rw [ex] at e2; cases e2
      exact (r.hr.nf a (List.mem_of_getElem? e1)).2
  have kf : ∀ b v, G.Fz b → H b = some v → upd H a u' b = some v := fun b v f e => by rw [upd_ne fun z => nFz (by rw [← z]; exact f)]; exact e
  have kp : ∀ b v, G.Pv b → H b = some v → upd H a u' b = some v := fun b v f e => by rw [upd_ne fun z => nPv (by rw [← z]; exact f)]; exact e
  have l : Le G H G (upd H a u') := ⟨⟨[], by simp⟩, fun _ h => h, rfl, fun b v f e => .inl (.inl (kf b v f e)), fun b v f e => .inl (kp b v f e)⟩
  have t : C.Tb (upd H a u') := C.tbu H a u' r.hr.tb (.inr (by
    rcases ho.mut with ⟨xs, q⟩ | ⟨xs, q⟩ | ⟨xs, q⟩ | ⟨c, d, xs, q⟩
    · exact .inl ⟨xs, by rw [hu, q]⟩
    · exact .inr (.inl ⟨xs, by rw [hu, q]⟩)
    · exact .inr (.inr (.inl ⟨xs, by rw [hu, q]⟩))
    · exact .inr (.inr (.inr ⟨c, d, xs, by rw [hu, q]⟩))))
  have tr : ∀ b, G.Fz b ∨ G.Pv b → ∃ v, upd H a u' b = some v := fun b z => by
    obtain ⟨v, e⟩ := r.hr.tr b z
    rcases z with z | z
    · exact ⟨v, kf b v z e⟩
    · exact ⟨v, kp b v z e⟩
  refine ⟨?_, l⟩
  cases p with
  | own i =>
    have h' : σ[i]? = some (some (V.ref a)) := by rw [← ex]; exact h
    have hs := getP_own e
    have q := r.slot i
    rw [hs] at q
    obtain ⟨b, u2, ea, _, _, n1, n2, n3⟩ := q
    rw [h'] at ea; cases ea
    have hi : i < S.sl.length := by
      rcases Nat.lt_or_ge i S.sl.length with z | z
      · exact z
      · rw [List.getElem?_eq_none z] at hs; cases hs
    refine ⟨⟨r.hr.len, r.hr.nd, r.hr.nf, r.hr.fp, tr, fun m o3 e => ?_, t, fun b z => let ⟨v, e, m⟩ := r.hr.pm b z; ⟨v, kp b v z e, m⟩⟩, by show (S.sl.set i (.own o')).length = _; rw [List.length_set]; exact r.len, fun j => ?_, fun j k c q1 q2 s1 s2 t1 t2 => ?_⟩
    · obtain ⟨b, v, e1, e2, e3⟩ := r.hr.obj m o3 e
      exact ⟨b, v, e1, by rw [upd_ne fun z => n3 (by rw [← z]; exact List.mem_of_getElem? e1)]; exact e2, e3.mono l⟩
    · show SlRel C G _ (S.sl.set i (.own o'))[j]? σ[j]?
      by_cases hj : i = j
      · subst hj
        rw [List.getElem?_set_self hi]
        exact ⟨a, u', h', upd_same, no.mono l, n1, n2, n3⟩
      · rw [List.getElem?_set_ne hj]
        have q := r.slot j
        unfold SlRel at q ⊢
        split at q
        · obtain ⟨y, e, z⟩ := q; exact ⟨y, e, z.mono l⟩
        · rename_i o4 hsj
          obtain ⟨b, v, eb, e2, o5, m⟩ := q
          exact ⟨b, v, eb, by rw [upd_ne fun z => hj (r.dis i j a o o4 hs hsj h' (by rw [← z]; exact eb))]; exact e2, o5.mono l, m⟩
        · exact True.intro
    · have s1' : (S.sl.set i (.own o'))[j]? = some (Slot.own q1) := s1
      have s2' : (S.sl.set i (.own o'))[k]? = some (Slot.own q2) := s2
      rw [List.getElem?_set] at s1' s2'
      by_cases hj : i = j
      · by_cases hk : i = k
        · rw [← hj, ← hk]
        · rw [if_neg hk] at s2'
          subst hj
          exact r.dis i k c o q2 hs s2' t1 t2
      · rw [if_neg hj] at s1'
        by_cases hk : i = k
        · subst hk
          exact r.dis j i c q1 o s1' hs t1 t2
        · rw [if_neg hk] at s2'
          exact r.dis j k c q1 q2 s1' s2' t1 t2
  | ref n =>
    obtain ⟨b, e1, e2⟩ := h
    rw [ex] at e2; cases e2
    have hm : a ∈ G.ρ := List.mem_of_getElem? e1
    refine ⟨⟨by show G.ρ.length = (S.hp.set n o').length; rw [List.length_set]; exact r.hr.len, r.hr.nd, r.hr.nf, r.hr.fp, tr, fun m o3 e => ?_, t, fun b z => let ⟨v, e, m⟩ := r.hr.pm b z; ⟨v, kp b v z e, m⟩⟩, r.len, fun j => ?_, r.dis⟩
    · have e' : (S.hp.set n o')[m]? = some o3 := e
      rw [List.getElem?_set] at e'
      by_cases hmn : n = m
      · subst hmn
        rw [if_pos rfl] at e'
        split at e'
        · cases e'
          exact ⟨a, u', e1, upd_same, no.mono l⟩
        · cases e'
      · rw [if_neg hmn] at e'
        obtain ⟨c, v, f1, f2, f3⟩ := r.hr.obj m o3 e'
        exact ⟨c, v, f1, by rw [upd_ne fun z => hmn (nodup_at r.hr.nd e1 (by rw [← z]; exact f1))]; exact f2, f3.mono l⟩
    · show SlRel C G _ S.sl[j]? σ[j]?
      have q := r.slot j
      unfold SlRel at q ⊢
      split at q
      · obtain ⟨y, e, z⟩ := q; exact ⟨y, e, z.mono l⟩
      · obtain ⟨c, v, eb, e2, o5, m1, m2, m3⟩ := q
        exact ⟨c, v, eb, by rw [upd_ne fun z => m3 (by rw [z]; exact hm)]; exact e2, o5.mono l, m1, m2, m3⟩
      · exact True.intro
end

/-! ### expressions that tell a place -/
def QP (C : Sc) (G : Gh) (H : Hp) (σ : L2.St) (Q : VK) : Plc → ES → Prop := fun p S' => ∀ x H' G', SRel C S' σ H' G' → Le G H G' H' → PlcV G' σ p x → Q x H'
def tMP (C : Sc) (W : WX) (m : M Plc) : TE := fun σ H Q => ∃ S G, SRel C S σ H G ∧ Post (m S) (QP C G H σ Q) (QX C G H σ W)
def PLM (X : Cx) (T : TbS) (W : WX) (e : Expr) (m : M Plc) : Prop := PE X e (tMP (scOf X T) W m)
theorem tMP_bind {β : Type} {C : Sc} {σ : L2.St} {H : Hp} {G : Gh} {W : WX} {m : M Plc} {f : Plc → M β} {S : ES} {Qb : β → ES → Prop} {Q : VK} (r : SRel C S σ H G) (p : Post ((m >>= f) S) Qb (QX C G H σ W))
    (h : ∀ v S1 x H1 G1, SRel C S1 σ H1 G1 → Le G H G1 H1 → PlcV G1 σ v x → Post (f v S1) Qb (QX C G1 H1 σ W) → Q x H1) : tMP C W m σ H Q :=
  ⟨S, G, r, (post_bnd p).mono (fun v S1 q x H1 G1 r1 l1 rp => h v S1 x H1 G1 r1 l1 rp (q.mono (fun _ _ z => z) fun _ _ => qx_le l1)) fun _ _ z => z⟩
/-- a local name: its own object, or the heap object that it names -/
def mPl (i : Nat) : M Plc := fun S => match S.sl[i]? with
  | some (.own _) => .ok (.own i) S
  | some (.val (.ref n)) => .ok (.ref n) S
  | _ => .bad
/-- any expression that gives a heap object -/
def mPlE (m : M EV) : M Plc := do
  let v ← m
  match v with
  | .ref n => M.ret (.ref n)
  | _ => M.fail
section
variable {X : Cx} {T : TbS} {W : WX} {p pos : Pos}
theorem pl_var {i : Nat} {x : Str} {pos : Pos} (hN : X.N[i]? = some x) (hv : Vis X.env.scope x) (hd : (x == ("__debug__" : Str)) = false := by decide) (hcd : (x == ("__classdict__" : Str)) = false := by decide) : PLM X T W (.Name x pos) (mPl i) := by
  refine PE_imp (pe_var hN hv hd hcd) fun σ H Q h => ?_
  obtain ⟨S, G, r, p⟩ := h
  unfold mPl at p
  have q := r.slot i
  cases hs : S.sl[i]? with
  | none => rw [hs] at p; exact p.elim
  | some sl =>
    rw [hs] at p q
    cases sl with
    | emp => exact p.elim
    | val v =>
      obtain ⟨y, e, rp⟩ := q
      cases v with
      | ref n =>
        obtain ⟨a, ha, rfl⟩ := rep_ref.mp rp
        exact ⟨_, e, p _ H G r (Le.refl _ _) ⟨a, ha, rfl⟩⟩
      | _ => exact p.elim
    | own o =>
      obtain ⟨a, u, ha, hu, ho, n1, n2, n3⟩ := q
      exact ⟨_, ha, p _ H G r (Le.refl _ _) ha⟩
theorem pl_em {e : Expr} {m : M EV} (h : EM X T W e m) : PLM X T W e (mPlE m) := by
  refine PE_imp h fun σ H Q hq => ?_
  obtain ⟨S, G, r, p⟩ := hq
  refine tM_bind r p fun v S1 x H1 G1 r1 l1 rp1 p1 => ?_
  cases v with
  | ref n => exact p1 x H1 G1 r1 l1 (rep_ref.mp rp1)
  | _ => exact p1.elim

/-! ### x.append(e) -/
def sPut (pl : Plc) (f : EObj → Option EObj) : M Unit := fun S => match getP pl S with
  | some o => match f o with
    | some o' => .ok () (putP pl o' S)
    | none => .bad
  | none => .bad
def isL (pl : Plc) (S : ES) : Bool := match getP pl S with
  | some (.lst _) => true
  | _ => false
def isD (pl : Plc) (S : ES) : Bool := match getP pl S with
  | some (.dic _ _ _) => true
  | _ => false
/-- the object at the place is of that kind now -/
def chk (k : Plc → ES → Bool) (pl : Plc) : M Unit := fun S => if k pl S then .ok () S else .bad
def oApp (v : EV) : EObj → Option EObj
  | .lst l => if l.length < sizeLine then some (.lst (l ++ [v])) else none
  | _ => none
def mAppend (mp : M Plc) (m : M EV) : M EV := do
  let pl ← mp
  chk isL pl
  let v ← m
  sPut pl (oApp v)
  M.ret .non
theorem post_chk {β : Type} {k : Plc → ES → Bool} {pl : Plc} {f : Unit → M β} {S : ES} {Q : β → ES → Prop} {E : Str → ES → Prop} (p : Post ((chk k pl >>= f) S) Q E) : k pl S = true ∧ Post (f () S) Q E := by
  have p' := post_bnd p
  unfold chk at p'
  split at p'
  · rename_i h; exact ⟨h, p'⟩
  · exact p'.elim
theorem post_put {β : Type} {pl : Plc} {f : EObj → Option EObj} {g : Unit → M β} {S : ES} {Q : β → ES → Prop} {E : Str → ES → Prop} (p : Post ((sPut pl f >>= g) S) Q E) : ∃ o o', getP pl S = some o ∧ f o = some o' ∧ Post (g () (putP pl o' S)) Q E := by
  have p' := post_bnd p
  unfold sPut at p'
  split at p'
  · rename_i o ho
    split at p'
    · rename_i o' ho'
      exact ⟨o, o', ho, ho', p'⟩
    · exact p'.elim
  · exact p'.elim
theorem isL_ty {S : ES} {σ : L2.St} {H : Hp} {G : Gh} {pl : Plc} {x : V} (r : SRel (scOf X T) S σ H G) (h : PlcV G σ pl x) (e : isL pl S = true) : tyV X.K "list" x H := by
  unfold isL at e
  split at e
  · rename_i l hl
    obtain ⟨a, u, rfl, hu, xs, rfl, _⟩ := plc_obj r h hl
    exact .inl ⟨rfl, xs, .inl (.inl hu)⟩
  · cases e
theorem em_append {o e : Expr} {mp : M Plc} {m : M EV} {apos cpos : Pos} (ho : PLM X T W o mp) (he : EM X T W e m)
    (hbase : attributeBase o "append" X.env (eval o X.env) = eval o X.env := by rfl)
    (hfew : ((backTo cpos (starEach [e] X.env)).all (fun x => !x.1) && (backToKw cpos (keywordEach [] X.env)).all (fun x => x.1.isSome)
      && decide (([e] : List Expr).length + ([] : List Keyword).length + (if ([] : List Keyword).isEmpty then 0 else 1) < 30)) = true := by rfl)
    (hline : (apos.endLine == cpos.line) = true := by rfl) (hs : starEach [e] X.env = (false, eval e X.env) :: starEach [] X.env := by rfl) (hplain : (backTo cpos (starEach [] X.env)).any (·.1) = false := by rfl) :
    EM X T W (.Call (.Attribute o "append" apos) [e] [] cpos) (mAppend mp m) := by
  refine PE_imp (pe_bm PySem.F.plainAttrs_list PySem.F.slot_list_append (by rfl) mt_append ho (pa_cons he pa_nil hs) hbase hfew hline hs hplain) fun σ H Q h => ?_
  obtain ⟨S, G, r, p⟩ := h
  refine tMP_bind r p fun pl S1 x H1 G1 r1 l1 pv p1 => ?_
  obtain ⟨hk, p2⟩ := post_chk p1
  refine ⟨isL_ty r1 pv hk, ?_⟩
  refine tM_bind r1 p2 fun v S2 y H2 G2 r2 l2 rp2 p3 => ?_
  obtain ⟨ob, ob', e1, e2, p4⟩ := post_put p3
  obtain ⟨a, u, rfl, hu, hob⟩ := plc_obj r2 (pv.mono l2) e1
  unfold oApp at e2
  split at e2
  · rename_i l
    split at e2
    · rename_i hz
      cases e2
      obtain ⟨xs, rfl, rps⟩ := hob
      obtain ⟨r3, l3⟩ := plc_set (u' := .lst (xs ++ [y])) r2 (pv.mono l2) e1 rfl (o' := .lst (l ++ [v])) ⟨_, rfl, rps.append (Reps.one rp2)⟩
      exact ⟨a, xs, y, rfl, rfl, hu, by rw [rps.length]; exact hz, p4 _ _ _ r3 ((l1.trans l2).trans l3) (rep_non.mpr rfl)⟩
    · cases e2
  · cases e2
end
end ML
/-! ML21 -/
set_option Elab.async false
set_option linter.all false
set_option autoImplicit false
set_option maxRecDepth 100000
set_option maxHeartbeats 4000000
/-! ML21: x[k] = e; fresh heap objects; fresh slots in a, b = ..; slices; len of dicts; f-strings; raise -/
namespace ML
open PySem PySem.Spec PyProof.Rows L2

/-! ### dicts as lists -/
def dRepl : List EV → List EV → EV → EV → List EV
  | k :: ks, v :: vs, x, y => (if kEq k x then y else v) :: dRepl ks vs x y
  | _, _, _, _ => []
def dPut (ks vs : List EV) (x y : EV) : List EV × List EV := if (dLook ks vs x).isSome then (ks, dRepl ks vs x y) else (ks ++ [x], vs ++ [y])
section
variable {C : Sc} {G : Gh} {H : Hp}
theorem dRepl_k {κ : Type} [DecidableEq κ] {f : EV → Option κ} (hf : ∀ a b k j, f a = some k → f b = some j → eqq a b = decide (k = j)) {w v : EV} {j : κ} {y : V} (h3 : f w = some j) (rv : Rep C G H v y) :
    ∀ {ks vs : List EV} {kvs : List (κ × V)}, ks.map f = kvs.map (fun q => some q.1) → Reps C G H vs (kvs.map (·.2)) →
      ks.map f = (kvs.map fun kv => if kv.1 = j then (kv.1, y) else kv).map (fun q => some q.1) ∧ Reps C G H (dRepl ks vs w v) ((kvs.map fun kv => if kv.1 = j then (kv.1, y) else kv).map (·.2))
  | [], vs, kvs, h1, h2 => by
    cases kvs with
    | nil =>
      refine ⟨rfl, ?_⟩
      unfold dRepl
      exact reps_nil.mpr rfl
    | cons q r => simp at h1
  | k :: ks, vs, kvs, h1, h2 => by
    cases kvs with
    | nil => simp at h1
    | cons q r =>
      rw [List.map_cons, List.map_cons] at h1
      injection h1 with e1 e2
      rw [List.map_cons] at h2
      cases vs with
      | nil => rw [reps_nil] at h2; cases h2
      | cons v' vs =>
        obtain ⟨x, rr, e3, rx, rl⟩ := reps_cons.mp h2
        injection e3 with e4 e5
        subst e4; subst e5
        obtain ⟨i1, i2⟩ := dRepl_k hf h3 rv (w := w) e2 rl
        have hk := hf k w q.1 j e1 h3
        unfold dRepl kEq
        rw [hk]
        by_cases hq : q.1 = j
        · refine ⟨?_, ?_⟩
          · rw [List.map_cons, List.map_cons, List.map_cons, if_pos hq, e1, i1]
          · rw [List.map_cons, List.map_cons, if_pos hq]
            simp only [hq, decide_true, if_true]
            exact reps_cons.mpr ⟨_, _, rfl, rv, i2⟩
        · refine ⟨?_, ?_⟩
          · rw [List.map_cons, List.map_cons, List.map_cons, if_neg hq, e1, i1]
          · rw [List.map_cons, List.map_cons, if_neg hq]
            simp only [hq, decide_false, Bool.false_eq_true, if_false]
            exact reps_cons.mpr ⟨_, _, rfl, rx, i2⟩
theorem dPut_k {κ : Type} [DecidableEq κ] {f : EV → Option κ} (hf : ∀ a b k j, f a = some k → f b = some j → eqq a b = decide (k = j)) {w v : EV} {j : κ} {y : V} (h3 : f w = some j) (rv : Rep C G H v y)
    {ks vs : List EV} {kvs : List (κ × V)} (h1 : ks.map f = kvs.map (fun q => some q.1)) (h2 : Reps C G H vs (kvs.map (·.2))) :
    (dPut ks vs w v).1.map f = (putK kvs j y).map (fun q => some q.1) ∧ Reps C G H (dPut ks vs w v).2 ((putK kvs j y).map (·.2)) := by
  have hl := dLook_k hf h1 h2 h3
  unfold dPut putK
  rw [valV_any]
  cases hd : dLook ks vs w with
  | none =>
    rw [hd] at hl
    have hn : valV kvs j = none := hl
    rw [hn]
    simp only [Option.isSome_none, Bool.false_eq_true, if_false]
    refine ⟨?_, ?_⟩
    · rw [List.map_append, List.map_append, h1]
      simp [h3]
    · rw [List.map_append]
      exact h2.append (Reps.one rv)
  | some e =>
    rw [hd] at hl
    obtain ⟨x, hx, _⟩ := hl
    rw [hx]
    simp only [Option.isSome_some, if_true]
    exact dRepl_k hf h3 rv h1 h2
theorem dPut_len (ks vs : List EV) (x y : EV) : (dPut ks vs x y).1.length ≤ ks.length + 1 := by
  unfold dPut
  split
  · exact Nat.le_succ _
  · rw [List.length_append]; exact Nat.le_refl _
/-- o[k] = v of a dict -/
theorem dput_of {t : Bool} {ks vs : List EV} {u : HO} {a : Addr} {w v : EV} {y z : V} (ho : ObjRel C G H (.dic t ks vs) u) (hu : H a = some u) (hk : keyOkd t w = true) (hz : ks.length < sizeLine) (rw' : Rep C G H w y) (rv : Rep C G H v z) :
    ∃ u', DPut H a y z (upd H a u') ∧ ObjRel C G H (.dic t (dPut ks vs w v).1 (dPut ks vs w v).2) u' := by
  obtain ⟨xs, hv, hd⟩ := ho
  unfold DRel at hd
  unfold keyOkd at hk
  cases t with
  | false =>
    rw [if_neg Bool.false_ne_true] at hd hk
    obtain ⟨kvs, rfl, e1, e2⟩ := hd
    obtain ⟨k, hk'⟩ := Option.isSome_iff_exists.mp hk
    have ey := keyOf_rep hk' rw'
    obtain ⟨q1, q2⟩ := dPut_k (C := C) (G := G) (H := H) (f := keyOf) (fun _ _ _ _ h1 h2 => keyOf_eq h1 h2) hk' rv e2 (by rw [e1]; exact hv)
    have hl : kvs.length < sizeLine := by
      have := congrArg List.length e2
      rw [List.length_map, List.length_map] at this
      omega
    exact ⟨.dK (putK kvs k z), .inl ⟨kvs, k, hu, ey, hl, rfl⟩, _, q2, by unfold DRel; rw [if_neg Bool.false_ne_true]; exact ⟨_, rfl, rfl, q1⟩⟩
  | true =>
    rw [if_pos rfl] at hd hk
    obtain ⟨kvs, rfl, e1, e2⟩ := hd
    obtain ⟨k, hk'⟩ := Option.isSome_iff_exists.mp hk
    obtain ⟨q1, q2⟩ := dPut_k (C := C) (G := G) (H := H) (f := keyT) (fun _ _ _ _ h1 h2 => keyT_eq h1 h2) hk' rv e2 (by rw [e1]; exact hv)
    have hl : kvs.length < sizeLine := by
      have := congrArg List.length e2
      rw [List.length_map, List.length_map] at this
      omega
    cases w with
    | tup l =>
      obtain ⟨b, ys, ey, f, q, rl⟩ := rep_tup.mp rw'
      have eys := keysOf_rep hk' rl
      have hb : H b = some (.tup (k.map kV)) := by rw [← eys]; exact q
      exact ⟨.dT (putK kvs k z), .inr ⟨kvs, k, b, hu, ey, hb, hl, rfl⟩, _, q2, by unfold DRel; rw [if_pos rfl]; exact ⟨_, rfl, rfl, q1⟩⟩
    | _ => cases hk'
end

/-! ### x[k] = e -/
def oSet (k v : EV) : EObj → Option EObj
  | .lst l => match k with
    | .int i => match ixN l.length i with
      | some j => some (.lst (l.set j v))
      | none => none
    | _ => none
  | .dic t ks vs => if keyOkd t k && decide (ks.length < sizeLine) then some (.dic t (dPut ks vs k v).1 (dPut ks vs k v).2) else none
  | .ins _ _ _ => none
def sStore (m : M EV) (mp : M Plc) (mi : M EV) : M Fl := do
  let v ← m
  let pl ← mp
  let k ← mi
  sPut pl (oSet k v)
  M.ret .nx
theorem PSet.or {X : Cx} {t t' : TSet} (h : PSet X t) (h' : PSet X t') : PSet X (fun o i v H Q => t o i v H Q ∨ t' o i v H Q) :=
  fun pins s σ H o i v ov iv u Q I ro ri rv q => q.elim (h pins s σ H o i v ov iv u Q I ro ri rv) (h' pins s σ H o i v ov iv u Q I ro ri rv)
section
variable {X : Cx} {T : TbS} {W : WX} {p pos : Pos}
theorem set_of {S : ES} {σ : L2.St} {H : Hp} {G : Gh} {pl : Plc} {o o' : EObj} {x y z : V} {k v : EV} {C : Sc} (r : SRel C S σ H G) (pv : PlcV G σ pl x) (e1 : getP pl S = some o) (e2 : oSet k v o = some o') (rk : Rep C G H k y) (rv : Rep C G H v z) (Q : Hp → Prop)
    (q : ∀ H' , SRel C (putP pl o' S) σ H' G → Le G H G H' → Q H') : rSetL x y z H Q ∨ rSetD x y z H Q := by
  obtain ⟨a, u, rfl, hu, hob⟩ := plc_obj r pv e1
  cases o with
  | ins _ _ _ => cases e2
  | lst l =>
    obtain ⟨xs, rfl, rps⟩ := hob
    simp only [oSet] at e2
    split at e2
    · rename_i i
      split at e2
      · rename_i j hj
        cases e2
        obtain ⟨r3, l3⟩ := plc_set (u' := .lst (xs.set j z)) r pv e1 rfl (o' := .lst (l.set j v)) ⟨_, rfl, rps.set j rv⟩
        exact .inl ⟨a, xs, i, j, rfl, rep_int.mp rk, hu, by rw [rps.length]; exact hj, q _ r3 l3⟩
      · cases e2
    · cases e2
  | dic t ks vs =>
    simp only [oSet] at e2
    split at e2
    · rename_i hk
      rw [Bool.and_eq_true, decide_eq_true_eq] at hk
      cases e2
      obtain ⟨u', d, ho'⟩ := dput_of hob hu hk.1 hk.2 rk rv
      obtain ⟨r3, l3⟩ := plc_set r pv e1 rfl ho'
      exact .inr ⟨a, _, rfl, d, q _ r3 l3⟩
    · cases e2
theorem sm_store {o i e : Expr} {m mi : M EV} {mp : M Plc} {spos : Pos} (hu : X.A.units + 64 < cLine) (he : EM X T W e m) (ho : PLM X T W o mp) (hi : EM X T W i mi)
    (ha : ∀ v, assign (.Subscript o i pos) X.env v = (do
      let ov ← holding [v] (eval o X.env)
      let iv ← holding [v, ov] (eval i X.env)
      standAt pos
      holding [v, ov, iv] (setItem ov iv v)
      release [v, ov, iv] []) := by intro _; rfl) (hs : swapsWithSole [.Subscript o i pos] e spos.line X.env = pure false := by rfl) (hw : swappedStores [.Subscript o i pos] e X.env = pure none := by rfl)
    (h1 : (assignEach [.Subscript o i pos] X.env).map (·.2) = [assign (.Subscript o i pos) X.env] := by rfl) : SM X T W (.Assign [.Subscript o i pos] e spos) (sStore m mp mi) := by
  refine PS_imp (ps_asg he (pg_sub ho hi (PSet.or set_list (set_dict (Nat.lt_of_le_of_lt (by omega) hu))) ha) hs hw h1) fun D σ H h => ?_
  obtain ⟨S, G, r, p⟩ := h
  refine sM_bind r p fun v S1 z H1 G1 r1 l1 rv p1 => ?_
  refine tMP_bind r1 (p1.mono (fun _ _ z => z) fun _ _ => qx_of) fun pl S2 x H2 G2 r2 l2 pv p2 => ?_
  refine tM_bind r2 p2 fun k S3 y H3 G3 r3 l3 rk p3 => ?_
  obtain ⟨ob, ob', e1, e2, p4⟩ := post_put p3
  exact set_of r3 (pv.mono l3) e1 e2 rk (rv.mono (l2.trans l3)) _ fun H' r' l' => p4 σ H' G3 r' (((l1.trans l2).trans l3).trans l')

/-! ### a fresh object that becomes a heap object -/
def mNew (m : M EObj) : M EV := do
  let o ← m
  fun S => .ok (.ref S.hp.length) { S with hp := S.hp ++ [o] }
def Gh.new (G : Gh) (a : Addr) : Gh := { G with ρ := G.ρ ++ [a] }
theorem em_new {e : Expr} {m : M EObj} (h : OM X T W e m) : EM X T W e (mNew m) := by
  refine PE_imp h fun σ H Q hq => ?_
  obtain ⟨S, G, r, p⟩ := hq
  refine tMO_bind r p fun o S1 x H1 G1 r1 l1 f p1 => ?_
  obtain ⟨a, u, rfl, hu, ho, n1, n2, n3, n4⟩ := f
  have le : Le G1 H1 (G1.new a) H1 := Le.all ⟨[a], rfl⟩ (fun _ h => h) rfl fun _ _ e => e
  have hat : (G1.ρ ++ [a])[S1.hp.length]? = some a := by rw [← r1.hr.len, List.getElem?_append_right (Nat.le_refl _)]; simp
  refine p1 (.ref a) H1 (G1.new a) ⟨⟨?_, ?_, fun b hb => ?_, r1.hr.fp, r1.hr.tr, fun n o' e => ?_, r1.hr.tb, r1.hr.pm⟩, r1.len, fun i => ?_, r1.dis⟩ (l1.trans le) (rep_ref.mpr ⟨a, hat, rfl⟩)
  · show (G1.ρ ++ [a]).length = (S1.hp ++ [o]).length
    rw [List.length_append, List.length_append, r1.hr.len]; rfl
  · show (G1.ρ ++ [a]).Nodup
    rw [List.nodup_append]
    exact ⟨r1.hr.nd, by simp, fun b hb c hc z => by
      have : c = a := by simpa using hc
      subst this; subst z; exact n3 hb⟩
  · rcases List.mem_append.mp hb with z | z
    · exact r1.hr.nf b z
    · have : b = a := by simpa using z
      subst this
      exact ⟨n1, n2⟩
  · have e' : (S1.hp ++ [o])[n]? = some o' := e
    by_cases hn : n < S1.hp.length
    · rw [List.getElem?_append_left hn] at e'
      obtain ⟨b, v, e1, e2, e3⟩ := r1.hr.obj n o' e'
      exact ⟨b, v, le.rhoGet e1, e2, e3.mono le⟩
    · rw [List.getElem?_append_right (by omega)] at e'
      have hz : n - S1.hp.length = 0 := by
        rcases Nat.eq_zero_or_pos (n - S1.hp.length) with z | z
        · exact z
        · rw [List.getElem?_eq_none (by simp; omega)] at e'; cases e'
      rw [hz] at e'
      cases e'
      have hn' : n = S1.hp.length := by omega
      subst hn'
      exact ⟨a, u, hat, hu, ho.mono le⟩
  · have q := r1.slot i
    show SlRel _ (G1.new a) H1 S1.sl[i]? σ[i]?
    unfold SlRel at q ⊢
    split at q
    · obtain ⟨y, e, z⟩ := q; exact ⟨y, e, z.mono le⟩
    · rename_i o' hs
      obtain ⟨b, v, eb, e2, o5, m1, m2, m3⟩ := q
      refine ⟨b, v, eb, e2, o5.mono le, m1, m2, fun z => ?_⟩
      rcases List.mem_append.mp z with z | z
      · exact m3 z
      · have : b = a := by simpa using z
        subst this
        exact n4 ⟨i, o', hs, eb⟩
    · exact True.intro

/-! ### slices -/
def cutE (xs : List EV) (lo hi : Option Int) : List EV := (xs.drop (HT.sIx xs.length 0 lo)).take (HT.sIx xs.length xs.length hi - HT.sIx xs.length 0 lo)
theorem cut_reps {C : Sc} {G : Gh} {H : Hp} {l : List EV} {xs : List V} (h : Reps C G H l xs) (lo hi : Option Int) : Reps C G H (cutE l lo hi) (cutV xs lo hi) := by
  unfold cutE cutV
  rw [h.length]
  exact Reps.take _ (Reps.drop _ h)
def QOI (C : Sc) (G : Gh) (H : Hp) (σ : L2.St) (Q : Option Int → Hp → Prop) : Option Int → ES → Prop := fun v S' => ∀ H' G', SRel C S' σ H' G' → Le G H G' H' → Q v H'
def tMOI (C : Sc) (W : WX) (m : M (Option Int)) : TO := fun σ H Q => ∃ S G, SRel C S σ H G ∧ Post (m S) (QOI C G H σ Q) (QX C G H σ W)
def PartM (X : Cx) (T : TbS) (W : WX) (e : Option Expr) (m : M (Option Int)) : Prop := PO X e (tMOI (scOf X T) W m)
theorem PO_imp {X : Cx} {e : Option Expr} {t t' : TO} (h : PO X e t) (hi : ∀ σ H Q, t' σ H Q → t σ H Q) : PO X e t' := ⟨fun pins s σ H Q I q => h.run pins s σ H Q I (hi σ H Q q)⟩
def mPart0 : M (Option Int) := M.ret none
def mPart (m : M EV) : M (Option Int) := do
  let v ← m
  match v with
  | .int i => M.ret (some i)
  | _ => M.fail
theorem part_none : PartM X T W none mPart0 := PO_imp po_none fun σ H Q ⟨S, G, r, p⟩ => p H G r (Le.refl _ _)
theorem part_some {e : Expr} {m : M EV} (h : EM X T W e m) : PartM X T W (some e) (mPart m) := by
  refine PO_imp (po_some h) fun σ H Q hq => ?_
  obtain ⟨S, G, r, p⟩ := hq
  refine tM_bind r p fun v S1 x H1 G1 r1 l1 rp1 p1 => ?_
  cases v with
  | int i => exact ⟨i, rep_int.mp rp1, p1 H1 G1 r1 l1⟩
  | _ => exact p1.elim
/-- a slice: of a list a new list, told as a value -/
def eSl (v : EV) (lo hi : Option Int) : M EV := fun S => match v with
  | .str z => if z.length ≤ sizeLine then .ok (.str (cutS z lo hi)) S else .bad
  | _ => match rdT v with
    | some l => if HT.sIx l.length 0 lo = 0 ∧ HT.sIx l.length l.length hi = l.length then .ok v S else .ok (.tup (cutE l lo hi)) S
    | none => match rdL S v with
      | some l => .ok (.lst (cutE l lo hi)) S
      | none => .bad
def mSl (m : M EV) (ml mh : M (Option Int)) : M EV := do
  let v ← m
  let l ← ml
  let h ← mh
  eSl v l h
theorem tMOI_bind {β : Type} {C : Sc} {σ : L2.St} {H : Hp} {G : Gh} {W : WX} {m : M (Option Int)} {f : Option Int → M β} {S : ES} {Qb : β → ES → Prop} {Q : Option Int → Hp → Prop} (r : SRel C S σ H G) (p : Post ((m >>= f) S) Qb (QX C G H σ W))
    (h : ∀ v S1 H1 G1, SRel C S1 σ H1 G1 → Le G H G1 H1 → Post (f v S1) Qb (QX C G1 H1 σ W) → Q v H1) : tMOI C W m σ H Q :=
  ⟨S, G, r, (post_bnd p).mono (fun v S1 q H1 G1 r1 l1 => h v S1 H1 G1 r1 l1 (q.mono (fun _ _ z => z) fun _ _ => qx_le l1)) fun _ _ z => z⟩
def rSlE (K : PySem.W.Frag) : V → Option Int → Option Int → Hp → VK → Prop := fun x lo hi H Q => (rSlL K x lo hi H Q ∨ rSlA K x lo hi H Q) ∨ rSlS x lo hi H Q
theorem sl_all : L2.SlR X (rSlE X.K) := (sl_list.or sl_tupA).or sl_str
theorem sl_of {S : ES} {σ : L2.St} {H : Hp} {G : Gh} {v : EV} {x : V} {lo hi : Option Int} {Q : VK} (r : SRel (scOf X T) S σ H G) (h : Rep (scOf X T) G H v x) (p : Post (eSl v lo hi S) (QE (scOf X T) G H σ Q) (QX (scOf X T) G H σ W)) : rSlE X.K x lo hi H Q := by
  unfold eSl at p
  split at p
  · rename_i z
    split at p
    · rename_i hz
      exact .inr ⟨z, rep_str.mp h, hz, p _ H G r (Le.refl _ _) (rep_str.mpr rfl)⟩
    · exact p.elim
  · split at p
    · rename_i l hl
      obtain ⟨a, xs, e1, sq, rps⟩ := rd_tup h hl
      refine .inl (.inr ⟨a, xs, e1, sq, fun hw => ?_, fun hw q hp => ?_⟩)
      · rw [rps.length] at hw
        rw [if_pos hw] at p
        exact p _ H G r (Le.refl _ _) (e1 ▸ h)
      · rw [rps.length] at hw
        rw [if_neg hw] at p
        obtain ⟨r2, l2⟩ := r.newF (u := .tup (cutV xs lo hi)) hp
        exact p _ _ _ r2 l2 (rep_tup.mpr ⟨q, _, rfl, frz_self G q, upd_same, (cut_reps rps lo hi).mono l2⟩)
    · split at p
      · rename_i l hl
        obtain ⟨a, xs, e1, sq, rps⟩ := rd_list r h hl
        refine .inl (.inl ⟨a, xs, e1, sq, fun q hp => ?_⟩)
        obtain ⟨r2, l2⟩ := r.newF (u := .lst (cutV xs lo hi)) hp
        exact p _ _ _ r2 l2 (rep_lst.mpr ⟨q, _, rfl, frz_self G q, upd_same, (cut_reps rps lo hi).mono l2⟩)
      · exact p.elim
theorem em_slice {e : Expr} {lo hi : Option Expr} {m : M EV} {ml mh : M (Option Int)} {p2 : Pos} (he : EM X T W e m) (hl : PartM X T W lo ml) (hh : PartM X T W hi mh) : EM X T W (.Subscript e (.Slice lo hi none p2) pos) (mSl m ml mh) := by
  refine PE_imp (pe_slice sl_all he hl hh) fun σ H Q hq => ?_
  obtain ⟨S, G, r, p⟩ := hq
  refine tM_bind r p fun v S1 x H1 G1 r1 l1 rp1 p1 => ?_
  refine tMOI_bind r1 p1 fun lo S2 H2 G2 r2 l2 p2 => ?_
  refine tMOI_bind r2 p2 fun hi S3 H3 G3 r3 l3 p3 => ?_
  exact sl_of r3 (rp1.mono (l2.trans l3)) (p3.mono (fun _ _ => qe_le ((l1.trans l2).trans l3)) fun _ _ z => z)
end
end ML
/-! ML22 -/
set_option Elab.async false
set_option linter.all false
set_option autoImplicit false
set_option maxRecDepth 100000
set_option maxHeartbeats 4000000
/-! ML22: lambdas without parameters and captured names: made, called -/
namespace ML
open PySem PySem.Spec PyProof.Rows L2

/-! ### made -/
section
variable {C : Sc} {S : ES} {σ : L2.St} {H H' : Hp} {G : Gh}
theorem SRel.grows (r : SRel C S σ H G) (kt : ∀ b u, H b = some u → Kt u (H' b)) (t : C.Tb H') : SRel C S σ H' G ∧ Le G H G H' := by
  have l : Le G H G H' := ⟨⟨[], by simp⟩, fun _ h => h, rfl, fun a u _ e => .inl (kt a u e), fun a u _ e => kt a u e⟩
  have mu : ∀ b u, H b = some u → (∀ ps, u ≠ .tbl ps) → H' b = some u := fun b u e n => (kt b u e).eq n
  have there : ∀ b u, H b = some u → ∃ u', H' b = some u' := fun b u e => by
    rcases kt b u e with z | ⟨_, _, _, z⟩
    · exact ⟨_, z⟩
    · exact ⟨_, z⟩
  refine ⟨⟨⟨r.hr.len, r.hr.nd, r.hr.nf, r.hr.fp, fun a z => ?_, fun n o e => ?_, t, fun a z => let ⟨u, e, m⟩ := r.hr.pm a z; ⟨u, mu a u e m.nt, m⟩⟩, r.len, fun i => ?_, r.dis⟩, l⟩
  · obtain ⟨u, e⟩ := r.hr.tr a z
    exact there a u e
  · obtain ⟨a, u, e1, e2, e3⟩ := r.hr.obj n o e
    exact ⟨a, u, e1, mu a u e2 e3.mut.nt, e3.mono l⟩
  · have z := r.slot i
    unfold SlRel at z ⊢
    split at z
    · obtain ⟨y, e, z⟩ := z; exact ⟨y, e, z.mono l⟩
    · obtain ⟨a, u, e, e2, o, n⟩ := z; exact ⟨a, u, e, mu a u e2 o.mut.nt, o.mono l, n⟩
    · exact True.intro
/-- what is no object that changes may be frozen -/
theorem SRel.frzX (r : SRel C S σ H G) {p : Addr} {u : HO} (e : H p = some u) (n : ¬ MutO u) : SRel C S σ H (G.frz p) := by
  refine r.frz e (fun z => ?_) (fun z => ?_) (fun z => ?_)
  · obtain ⟨m, hm, em⟩ := List.getElem_of_mem z
    have hm' : m < S.hp.length := by rw [← r.hr.len]; exact hm
    obtain ⟨a, v, e1, e2, e3⟩ := r.hr.obj m _ (List.getElem?_eq_getElem hm')
    rw [List.getElem?_eq_getElem hm, em] at e1
    cases e1
    rw [e] at e2; cases e2
    exact n e3.mut
  · obtain ⟨v, e2, m⟩ := r.hr.pm p z
    rw [e] at e2; cases e2
    exact n m
  · obtain ⟨i, o, e1, e2⟩ := z
    have q := r.slot i
    rw [e1, e2] at q
    obtain ⟨b, v, eb, hv, ho, _⟩ := q
    cases eb
    rw [e] at hv; cases hv
    exact n ho.mut
end
theorem ext_nm {φ : Heap → Prop} : ¬ MutO (.ext φ) := fun h => by
  rcases h with ⟨_, q⟩ | ⟨_, q⟩ | ⟨_, q⟩ | ⟨_, _, _, q⟩ <;> cases q
theorem clo_nil {cells : List (Str × Addr)} {names : List (Str × NameKind)} (h : ∀ y ∈ names, y.2 ≠ .free) : cloFrom cells names [] = [] := by
  cases hc : cloFrom cells names [] with
  | nil => rfl
  | cons p r =>
    have hm : p ∈ cloFrom cells names [] := by rw [hc]; exact List.mem_cons_self
    rcases cloFrom_mem (n := p.1) (c := p.2) hm with z | ⟨z, _⟩
    · cases z
    · exact (h _ z rfl).elim
/-- what a maker of lambdas knows of its code object's table -/
structure LTab (X : Cx) (Gs : List Addr) (Ls : LsS) : Prop where
  ex : ∃ c P, LamX.TabB X.base X.mg c P ∧ X.env.code = .ref c ∧ (P, X.env.qual ++ "<lambda>") ∈ Ls.tab ∧ (∀ p ∈ Ls.tab, p.1 = P → p.2 = X.env.qual ++ "<lambda>") ∧ ∀ Q ∈ Gs, Q ≠ P
section
variable {X : Cx} {Gs : List Addr} {Ls : LsS} {W : WX} {pos : Pos}
theorem em_lam {k : Nat} {params : Arguments} {body : Expr} {scope : Scope} (L : LTab X Gs Ls) (hd : Ls.lam k = some ⟨X.env.qual ++ "<lambda>", params, body, scope⟩) (hdef : defaultsOf params X.env = ([], [])) (hnf : ∀ y ∈ scope.names, y.2 ≠ .free) :
    EM X (tbs Gs Ls) W (.Lambda params body scope pos) (mC (.lam k [])) := by
  refine ⟨fun pins s σ H Q I h => ?_⟩
  obtain ⟨S, G, r, p⟩ := h
  obtain ⟨c, P, TB, hcode, hmT, hu, hGs⟩ := L.ex
  have hT : TbAll Gs Ls H := r.hr.tb
  obtain ⟨ps, hP, ht, ha⟩ := hT.2 _ hmT
  have hfree : ∀ y ∈ scope.names, y.2 = .free → ∃ c, X.env.cells.lookup y.1 = some c := fun y hy e => (hnf y hy e).elim
  refine PySem.W.kla_eval hdef ?_
  have bP : s.heap.BuiltinsAt X.mg P := TB.bm.keeps I.bk
  have hP' : s.heap.get? P = some { cls := .none, data := .fields ps } := I.hok P _ hP
  have hcl := closure_ok hfree
  rw [clo_nil hnf] at hcl
  -- the end, by the state in which the code object is known
  have fin : ∀ (c' : Addr) (pm ctv : Value) (h' : Heap) (tk : Nat) (HA : Hp), Inv X pins σ HA { s with heap := h', toks := tk } → SRel (scOf X (tbs Gs Ls)) S σ HA G → Le G H G HA → HA c' = some (LamX.CodeO c' (X.env.qual ++ "<lambda>")) →
      EP X pins σ Q (.ref h'.objs.size) { s with heap := h'.push (PySem.W.kla_obj "<lambda>" (X.env.qual ++ "<lambda>") params body scope [] pm c' ctv), toks := tk } := fun c' pm ctv h' tk HA IA rA lA hc' => by
    have nf : HA h'.objs.size = none := IA.hok.fresh (Nat.le_refl _)
    have I2 : Inv X pins σ (upd HA h'.objs.size (LamO h'.objs.size c' ⟨X.env.qual ++ "<lambda>", params, body, scope⟩)) { s with heap := h'.push (PySem.W.kla_obj "<lambda>" (X.env.qual ++ "<lambda>") params body scope [] pm c' ctv), toks := tk } :=
      IA.laid (t' := tk) (fun b o e => Heap.get?_push_of_some _ e) (Nat.le_refl _) ⟨⟨pm, ctv, Heap.get?_push_size _ rfl⟩, ⟨_, Heap.get?_push_size _ rfl⟩, fun h1 h2 ⟨pm, ctv, e⟩ st => ⟨pm, ctv, st _ e⟩⟩
    have rB := rA.frzX hc' ext_nm
    obtain ⟨rC, lC⟩ := rB.newF (u := LamO h'.objs.size c' ⟨X.env.qual ++ "<lambda>", params, body, scope⟩) nf
    refine ⟨.ref h'.objs.size, _, I2, rfl, p (.ref h'.objs.size) _ _ rC ((lA.trans (le_frz G HA c')).trans lC) ?_⟩
    rw [Rep]
    exact ⟨rfl, _, _, c', hd, rfl, frz_self _ _, .inl (.inr rfl), upd_same, by rw [upd_ne (ne_of_none hc' nf)]; exact hc'⟩
  cases hc : codeAmong pos ps.toList with
  | none =>
    refine PySem.W.kla_makeFunction (mg := X.mg) (c := c) (P := P) (ps := ps) hcl I.ok.glob (I.mod.glob.keeps I.bk) hcode (TB.code.keeps I.bk) hP' ht hc TB.gP bP fun c' ctv h' tk hx hge hlt hrec htb => ?_
    obtain ⟨c2, oc, vs, t, e2, hoc, hdd, hv⟩ := hrec
    cases e2
    have nC : H c' = none := I.hok.fresh hge
    have nPc : P ≠ c' := ne_of_none hP nC
    have I1 := LamX.inv_table (t' := tk) (more := #[rawInt pos.line, rawInt pos.col, .ref c']) (h' := h') I hP (fun b o hb e => hx b o hb e) htb hge ⟨oc, vs, t, hoc, hdd, hv⟩
    have at_ : ∀ b u, H b = some u → b ≠ P → upd (upd H P (.tbl (ps ++ #[rawInt pos.line, rawInt pos.col, .ref c']))) c' (LamX.CodeO c' (X.env.qual ++ "<lambda>")) b = some u := fun b u e n => by
      rw [upd_ne (ne_of_none e nC), upd_ne n]; exact e
    have atX : ∀ b u, H b = some u → (∀ qs, u ≠ .tbl qs) → upd (upd H P (.tbl (ps ++ #[rawInt pos.line, rawInt pos.col, .ref c']))) c' (LamX.CodeO c' (X.env.qual ++ "<lambda>")) b = some u := fun b u e n => at_ b u e fun z => n ps (by rw [z, hP] at e; exact (Option.some.inj e).symm)
    have atP : upd (upd H P (.tbl (ps ++ #[rawInt pos.line, rawInt pos.col, .ref c']))) c' (LamX.CodeO c' (X.env.qual ++ "<lambda>")) P = some (.tbl (ps ++ #[rawInt pos.line, rawInt pos.col, .ref c'])) := by rw [upd_ne nPc, upd_same]
    have eL : (ps ++ #[rawInt pos.line, rawInt pos.col, .ref c']).toList = ps.toList ++ [rawInt pos.line, rawInt pos.col, .ref c'] := by simp
    have tb' : (tbs Gs Ls).Tb (upd (upd H P (.tbl (ps ++ #[rawInt pos.line, rawInt pos.col, .ref c']))) c' (LamX.CodeO c' (X.env.qual ++ "<lambda>"))) := by
      refine ⟨fun Q' hQ => ?_, fun q hq => ?_⟩
      · obtain ⟨qs, e, t, cc⟩ := hT.1 Q' hQ
        refine ⟨qs, at_ _ _ e (hGs Q' hQ), t, fun p' cv hcv => ?_⟩
        obtain ⟨c2, P2, e1, e2, ⟨qs2, e3, t3⟩, e4⟩ := cc p' cv hcv
        exact ⟨c2, P2, e1, atX _ _ e2 codeH_ne, ⟨qs2, at_ _ _ e3 (e4 _ hmT), t3⟩, e4⟩
      · by_cases hb : q.1 = P
        · rw [hu q hq hb, hb]
          refine ⟨_, atP, by rw [eL]; exact PySem.TriplesOk_snoc _ _ _ _ ht, fun p' cv hcv => ?_⟩
          rw [eL] at hcv
          rcases LamX.among_app _ ht hcv with z | z
          · obtain ⟨c0, e1, e2⟩ := ha p' cv z
            exact ⟨c0, e1, atX _ _ e2 LamX.codeO_ne⟩
          · exact ⟨c', z, upd_same⟩
        · obtain ⟨qs, a1, a2, a3⟩ := hT.2 q hq
          refine ⟨qs, at_ _ _ a1 hb, a2, fun p' cv hcv => ?_⟩
          obtain ⟨c0, e1, e2⟩ := a3 p' cv hcv
          exact ⟨c0, e1, atX _ _ e2 LamX.codeO_ne⟩
    obtain ⟨rA, lA⟩ := r.grows (fun b u e => by
      by_cases hb : b = P
      · subst hb
        rw [hP] at e; cases e
        exact .inr ⟨ps, _, rfl, atP⟩
      · exact .inl (at_ b u e hb)) tb'
    exact fin c' _ ctv h' tk _ I1 rA lA upd_same
  | some cv =>
    obtain ⟨c', e, hco⟩ := ha pos cv hc
    subst e
    refine PySem.W.kla_makeFunctionHit (mg := X.mg) (c := c) (P := P) (ps := ps) hcl I.ok.glob (I.mod.glob.keeps I.bk) hcode (TB.code.keeps I.bk) hP' ht hc bP fun ctv h' tk hx hsz => ?_
    have I1 : Inv X pins σ H { s with heap := h', toks := tk } := I.kept hx
    exact fin c' _ ctv h' tk H I1 r (Le.refl _ _) hco
end

/-! ### called -/
abbrev lamE (d : LamD) (L f c' : Addr) : Env := PySem.W.envX d.qual d.scope L f (.ref c') []
/-- the context of a lambda's body -/
def lamC (P : Program) (w : World) (K : PySem.W.Frag) (mg : Str → Option Value) (base : Heap) (A : Around) (outer : List Env) (s : Shared) (H : Hp) (E : XK) (d : LamD) (f c' : Addr) : Cx where
  prog := P
  w := w
  K := K
  mg := mg
  base := base
  A := A.deeper (lamE d s.heap.objs.size f c')
  N := []
  s_0 := s
  H_0 := H
  env := lamE d s.heap.objs.size f c'
  outer := outer
  stack := lamE d s.heap.objs.size f c' :: outer
  ex := []
  fn := fun _ => false
  calm := true
  pn := []
  xe := fun e s' => wpAny (model P w) (A.deeper (lamE d s.heap.objs.size f c')) (leaving (lamE d s.heap.objs.size f c') e) (fun _ s'' => L2.CX P w outer H s E e s'') (fun e' s'' => L2.CX P w outer H s E e' s'') s'
structure LamOk (d : LamD) : Prop where
  kind : d.scope.kind = .function
  co : d.scope.isCoroutine = false
  gen : d.scope.isGenerator = false
  own : ∀ y ∈ d.scope.names, y.2 ≠ .local ∧ y.2 ≠ .cell ∧ y.2 ≠ .free
  bind : ∀ (pm cv ctv : Value), bindArgs (PySem.W.kla_fn "<lambda>" d.qual d.params d.body d.scope [] pm cv ctv) ⟨[], []⟩ = pure []
section
variable {P : Program} {w : World} {K : PySem.W.Frag} {mg : Str → Option Value} {base : Heap} {T : TbS}
theorem lam_startC {A : Around} {outer : List Env} {E : XK} {d : LamD} {f c' : Addr} {h₁ : Heap} {tk : Nat} {H : Hp} {s : Shared} (ok : LamOk d) (e0 : Env0 P w K mg base A outer s H) (hd : A.handled = none)
    (hns : h₁.Ns s.heap.objs.size fun y => ([] : List (Str × Value)).reverse.lookup y) (kp : ∀ b o, s.heap.get? b = some o → h₁.get? b = some o) :
    Inv (lamC P w K mg base A outer s H E d f c') [] [] H { s with heap := h₁, toks := tk } := by
  have noA : ∀ b : Addr, b ∉ (lamC P w K mg base A outer s H E d f c').ex := fun b z => absurd (show b ∈ ([] : List Addr) from z) (by simp)
  have noC : ∀ {y : Str} {c : Addr}, (lamC P w K mg base A outer s H E d f c').env.cells.lookup y = some c → False := fun {y c} e => by
    have z : ([] : List (Str × Addr)).lookup y = some c := e
    cases z
  refine ⟨⟨e0.mod, ok.kind, rfl, rfl, Nat.le_refl _, fun y z c e1 e2 => (noC e1).elim, fun y hy => ?_, fun y c z _ => ?_, fun _ => hd, Around.frames_deeper e0.frames, .inr ⟨rfl, rfl⟩, fun b z => absurd z (noA b), e0.bs, e0.bsz, fun b _ _ => noA b,
      fun b z => absurd z (noA b), e0.funs, e0.frf⟩,
    rfl, e0.bare, Un.kept kp, ⟨_, hns, fun i y v e1 e2 e3 => ?_⟩, fun y c e => (noC e).elim, e0.hok.fresh (Nat.le_refl _), fun y c e => (noC e).elim, fun q hq => absurd (show q ∈ ([] : List (Addr × Obj)) ++ [] from hq) (by simp), e0.hok.kept kp, rfl⟩
  · have hy : d.scope.names.lookup y = some .cell ∨ d.scope.names.lookup y = some .free := hy
    rcases hy with hy | hy
    · exact absurd rfl (ok.own _ (PySem.mem_of_lookup hy)).2.1
    · exact absurd rfl (ok.own _ (PySem.mem_of_lookup hy)).2.2
  · have z : false = true := z
    cases z
  · have e1' : ([] : List Str)[i]? = some y := e1
    simp at e1'
def runE (m : M EV) : Fn := fun _ h => match m ⟨[], h⟩ with
  | .ok v S => .ok v S.hp
  | .exc c S => .exc c S.hp
  | .bad => .bad
/-- the k-th lambda: what a call of it computes -/
structure LM (P : Program) (w : World) (K : PySem.W.Frag) (mg : Str → Option Value) (base : Heap) (T : TbS) (kk : Nat) (k : Nat) (F : Fn) : Prop where
  ex : ∃ d, T.lam k = some d ∧ ∀ (f c' : Addr) (A : Around) (outer : List Env) (s : Shared) (H : Hp) (Q : VK) (E : XK), Room kk A → Env0 P w K mg base A outer s H → H f = some (LamO f c' d) → H c' = some (LamX.CodeO c' d.qual) → spM (mkC K mg T) 0 F [] H Q E →
    codeAny (model P w) A (.call (.ref f) ⟨[], []⟩) (CR (L2.CX P w) outer P w H s Q E) s
theorem lm_of {kk k : Nat} {d : LamD} {m : M EV} (hd : T.lam k = some d) (ok : LamOk d)
    (hb : ∀ (X : Cx) (W : WX), X.prog = P → X.w = w → X.K = K → X.mg = mg → X.base = base → X.N = [] → X.env.scope = d.scope → Kx X T W kk → EM X T W d.body m) : LM P w K mg base T (kk + 1) k (runE m) := by
  refine ⟨d, hd, fun f c' A outer s H Q E hr e0 hf hc h => ?_⟩
  obtain ⟨args, hp, G, hrel, hreps, hl, pp⟩ := h
  obtain ⟨⟨pm, ctv, of⟩, _, _⟩ := e0.hok f _ hf
  obtain ⟨⟨oc, vs, t, hoc, hdc, hvc⟩, _, _⟩ := e0.hok c' _ hc
  refine PySem.W.kla_callFunE hr.depth of rfl ok.co ok.gen rfl ⟨c', oc, vs, t, rfl, hoc, hdc, hvc⟩ ?_
  rw [ok.bind]
  refine wpAny_pure (wpAny_newFunctionEnv (fun y hy => (ok.own y hy).2.1) (fun y hy => absurd hy (by simp)) (fun h₁ hns hsb => ⟨(e0.mod.nolimit.keeps fun b o e => (e0.bs b o e).1).fresh _ hsb, ?_⟩) ok.kind)
  show codeAny _ _ (.expr d.body (lamE d s.heap.objs.size f c')) _ _
  have kp : ∀ b o, s.heap.get? b = some o → h₁.get? b = some o := fun b o e => hsb.extBut b o (Nat.ne_of_lt (Heap.lt_size e)) (Heap.get?_push_of_some _ e)
  have J : Inv (lamC P w K mg base A outer s H E d f c') [] [] H { s with heap := h₁, toks := s.toks + ([] : List (Str × Value)).length } := lam_startC ok e0 hr.hd hns kp
  have kx : Kx (lamC P w K mg base A outer s H E d f c') T (fun cls dd _ H => E cls dd H) kk := ⟨takes_of rfl rfl rfl rfl, passes_of rfl, rfl, hr.deeper _⟩
  have hbody := hb (lamC P w K mg base A outer s H E d f c') (fun cls dd _ H => E cls dd H) rfl rfl rfl rfl rfl rfl rfl kx
  have r0 : SRel (mkC K mg T) ⟨[], hp⟩ [] H G := ⟨hrel, rfl, fun i => by show SlRel _ _ _ ([] : List Slot)[i]? _; simp [SlRel], fun i j a o o' h1 => by simp at h1⟩
  have ht : tM (mkC K mg T) (fun cls dd _ H => E cls dd H) m [] H Q := by
    refine ⟨⟨[], hp⟩, G, r0, ?_⟩
    unfold runE at pp
    have pp' : match (match m ⟨[], hp⟩ with
      | .ok v S => FRes.ok v S.hp
      | .exc c S => FRes.exc c S.hp
      | .bad => FRes.bad) with
      | .ok v h' => ∀ x H' G', HRel (mkC K mg T) h' H' G' → Le G H G' H' → Rep (mkC K mg T) G' H' v x → Q x H'
      | .exc c h' => ∀ H' G', HRel (mkC K mg T) h' H' G' → Le G H G' H' → E (excV (mkC K mg T) c) none H'
      | .bad => False := pp
    cases hm : m ⟨[], hp⟩ with
    | ok v S => rw [hm] at pp'; exact fun x H' G' r' l' rp => pp' x H' G' r'.hr l' rp
    | exc c S => rw [hm] at pp'; exact fun H' G' r' l' => pp' H' G' r'.hr l'
    | bad => rw [hm] at pp'; exact pp'.elim
  refine PySem.W.kla_codeExpr (wpAny_mono (hbody.run [] _ _ H Q J ht) (fun v s' hq => ?_) fun e s' hq => hq)
  obtain ⟨w', H', J', rv, q⟩ := hq
  exact ⟨w', H', J'.os, J'.bare, J'.base, J'.hok, rv, q⟩
end
/-- x(), x a local name of a lambda -/
def mAct (F : Nat → Option Fn) (i : Nat) : M EV := fun S => match S.sl[i]? with
  | some (.val (.lam k [])) => match F k with
    | some f => callF f [] S
    | none => .bad
  | _ => .bad
section
variable {X : Cx} {T : TbS} {W : WX} {p pos : Pos}
theorem em_act {kk : Nat} {F : Nat → Option Fn} {i : Nat} {a : Str} (tk : Takes X W) (hr : Room kk X.A) (hF : ∀ k f, F k = some f → LM X.prog X.w X.K X.mg X.base T kk k f) (hN : X.N[i]? = some a) (hv : Vis X.env.scope a)
    (hd : (a == ("__debug__" : Str)) = false := by decide) (hcd : (a == ("__classdict__" : Str)) = false := by decide) : EM X T W (.Call (.Name a p) [] [] pos) (mAct F i) := by
  refine ⟨fun pins s σ H Q I h => ?_⟩
  obtain ⟨S, G, r, pp⟩ := h
  unfold mAct at pp
  split at pp
  · rename_i k hs
    split at pp
    · rename_i f hf
      have q := r.slot i
      rw [hs] at q
      obtain ⟨y, e, rp⟩ := q
      rw [Rep] at rp
      obtain ⟨_, d, aF, c', e1, e2, f1, f2, h1, h2⟩ := rp
      subst e2
      refine wpAny_Call_Name_kw (thn ((pe_var (pos := p) (i := i) hN hv hd hcd).run pins s σ H (fun v H1 => v = .ref aF ∧ H1 = H) I ⟨.ref aF, e, rfl, rfl⟩) fun u s1 ⟨v, H1, I1, r1, q1⟩ => ?_)
      obtain ⟨ev, eH⟩ := q1
      subst ev
      rw [eH] at I1
      obtain rfl : u = Value.ref aF := r1
      obtain ⟨⟨pm, ctv, of⟩, _, _⟩ := I1.hok aF _ h1
      refine PySem.W.callWith_F0 ⟨_, _, _, _, of⟩ ?_
      obtain ⟨d', ed, run⟩ := (hF k f hf).ex
      have ed' : T.lam k = some d := e1
      rw [ed] at ed'; cases ed'
      have sp : spM (mkC X.K X.mg T) 0 f [] H Q (fun cls dd H' => W cls dd σ H') := sp_call (l := []) r (reps_nil.mpr rfl) (show Post (callF f [] S) _ _ from pp)
      refine wpAny_call (codeAny_mono (run aF c' X.A X.stack s1 H Q _ hr I1.env0 h1 h2 sp) fun rr s' hq => ?_)
      cases rr with
      | error e => exact passAt tk σ pins H s1 e s' I1 hq
      | ok fl =>
        cases fl with
        | ret u => exact I1.after hq
        | next => exact False.elim hq
        | brk => exact False.elim hq
        | cont => exact False.elim hq
    · exact pp.elim
  · exact pp.elim
end
end ML
/-! ML23 -/
set_option Elab.async false
set_option linter.all false
set_option autoImplicit false
set_option maxRecDepth 100000
set_option maxHeartbeats 4000000
/-! ML23: raise, try, what is never reached, f-strings, len of dicts, count and index -/
namespace ML
open PySem PySem.Spec PyProof.Rows L2
/-- a class of exceptions of the program's own -/
structure ExcC (K : PySem.W.Frag) (mg : Str → Option Value) (c : Str) : Prop where
  ex : ∃ (C : Addr) (B newId initId : String) (bmB : List Value), ExcBaseFacts B newId initId bmB ∧ mg c = some (.ref C) ∧ PySem.W.excIn K C bmB newId = true ∧ PySem.W.keepIn K (.ref C) = true ∧ PySem.W.subIn K (.ref C) (.type "BaseException") = some true ∧
    PySem.W.typeIn K (.ref C) = some (.type "type") ∧ PySem.W.exmOne K (.ref C) (.ref C) = some true ∧ PySem.W.mroIn K C (.type "StopIteration") = some false
section
variable {X : Cx} {T : TbS} {W : WX} {p pos : Pos}
theorem em_bad {e : Expr} : EM X T W e M.fail := ⟨fun pins s σ H Q I q => by obtain ⟨S, G, r, z⟩ := q; exact z.elim⟩
theorem sm_bad {st : Stmt} : SM X T W st M.fail := ⟨fun pins s σ H D I q => by obtain ⟨S, G, r, z⟩ := q; exact z.elim⟩
theorem om_bad {e : Expr} : OM X T W e M.fail := ⟨fun pins s σ H Q I q => by obtain ⟨S, G, r, z⟩ := q; exact z.elim⟩
theorem sms_bad {st : List Stmt} : SMs X T W st M.fail := ⟨fun pins s σ H D I q => by obtain ⟨S, G, r, z⟩ := q; exact z.elim⟩
def sRaise (c : Str) : M Fl := M.raise c
theorem sm_raise {c m : Str} {j : Nat} {p2 p3 : Pos} (hc : X.calm = true) (tk : Takes X W) (hg : Gl X c) (E : ExcC X.K X.mg c) (hdb : (c == ("__debug__" : Str)) = false := by decide) :
    SM X T W (.Raise (some (.Call (.Name c p) [.Constant (.str m) j p2] [] p3)) none pos) (sRaise c) := by
  obtain ⟨C, B, ni, ii, bmB, F, gC, q, kC, sC, tC, _⟩ := E.ex
  refine PS_imp (ps_raise hc tk (pmk_own F q gC kC (raises_own sC tC) hg hdb)) fun D σ H h => ?_
  obtain ⟨S, G, r, z⟩ := h
  have w := z σ H G r (Le.refl _ _)
  have e : excV (scOf X T) c = .ref C := by show (X.mg c).getD .none = _; rw [gC]; rfl
  rw [e] at w
  exact w
def sTry (c : Str) (b h : M Fl) : M Fl := fun S => match b S with
  | .ok f S' => .ok f S'
  | .exc c' S' => if c' = c then (match h S' with
    | .ok f S2 => .ok f S2
    | _ => .bad) else .bad
  | .bad => .bad
theorem sm_try {c : Str} {body suite : List Stmt} {b₀ : Stmt} {np pos' : Pos} {mb mh : M Fl} (hs : X.stack = X.env :: X.outer) (hf : X.env.frame = some X.env.locals) (hg : Gl X c) (E : ExcC X.K X.mg c) (tk : Takes X W)
    (hb : ∀ (W' : WX) (pn : List (Addr × Obj)) (xe : Value → Shared → Prop), Takes (X.tr pn xe) W' → PassesOwn (model X.prog X.w) X.A X.env xe → SMs (X.tr pn xe) T W' body mb)
    (hh : ∀ (a : Addr) (pn : List (Addr × Obj)), SMs (X.suite a pn) T noW (b₀ :: suite) mh) (hdb : (c == ("__debug__" : Str)) = false := by decide) :
    SM X T W (.Try body [.ExceptHandler (some (.Name c np)) none (b₀ :: suite) pos'] [] [] pos) (sTry c mb mh) := by
  obtain ⟨C, B, ni, ii, bmB, F, gC, q, kC, sC, tC, em, _⟩ := E.ex
  have e : excV (scOf X T) c = .ref C := by show (X.mg c).getD .none = _; rw [gC]; rfl
  refine PS_imp (ps_try_only (tb := fun W' => tS (scOf X T) W' mb) (ts := fun _ _ _ => tS (scOf X T) noW mh) hs hf ⟨hg, hdb, .inl gC⟩ tk hb (fun a oe cls d pn _ _ => hh a _)) fun D σ H h => ?_
  obtain ⟨S, G, r, z⟩ := h
  refine ⟨S, G, r, ?_⟩
  unfold sTry at z
  cases hm : mb S with
  | ok f S' => rw [hm] at z; exact z
  | bad => rw [hm] at z; exact z.elim
  | exc c' S' =>
    rw [hm] at z
    simp only at z
    split at z
    · rename_i ec
      subst ec
      refine fun σ' H' G' r' l' => ⟨true, by rw [e]; exact em, fun _ a _ => ⟨S', G', r', ?_⟩, fun q => by cases q⟩
      cases hm2 : mh S' with
      | ok f S2 => rw [hm2] at z; exact qs_le l' z
      | exc c2 S2 => rw [hm2] at z; exact z.elim
      | bad => rw [hm2] at z; exact z.elim
    · exact z.elim

/-! ### f-strings -/
def mFmt (m : M EV) : M Str := do
  let v ← m
  match v with
  | .str y => if y.length ≤ sizeLine then M.ret y else M.fail
  | .int i => if i.natAbs.log2 < 1920 then M.ret (toString i) else M.fail
  | _ => M.fail
def mStrs : List (M Str) → Str → M Str
  | [], acc => M.ret acc
  | m :: ms, acc => do
    let y ← m
    if (acc ++ y).length ≤ sizeLine then mStrs ms (acc ++ y) else M.fail
def mJs (ms : List (M Str)) : M EV := do
  let y ← mStrs ms Str.empty
  M.ret (.str y)
/-- a part of an f-string: it gives a text -/
def FP (X : Cx) (T : TbS) (W : WX) (e : Expr) (m : M Str) : Prop := ∃ t : TE, PE X e t ∧ ∀ (S : ES) (G : Gh) (σ : L2.St) (H : Hp) (Q : VK), SRel (scOf X T) S σ H G → Post (m S) (fun y S' => ∀ H' G', SRel (scOf X T) S' σ H' G' → Le G H G' H' → Q (.str y) H') (QX (scOf X T) G H σ W) → t σ H Q
theorem fp_fmt {e : Expr} {m : M EV} (he : EM X T W e m) : FP X T W (.FormattedValue e (-1) none pos) (mFmt m) := by
  refine ⟨_, pe_fmt he, fun S G σ H Q r z => ?_⟩
  refine tM_bind r (z : Post ((m >>= _) S) _ _) fun v S1 x H1 G1 r1 l1 rp p1 => ?_
  split at p1
  · rename_i y
    split at p1
    · rename_i hz
      exact .inl ⟨y, rep_str.mp rp, hz, p1 H1 G1 r1 l1⟩
    · exact p1.elim
  · rename_i i
    split at p1
    · rename_i hz
      exact .inr ⟨i, rep_int.mp rp, hz, p1 H1 G1 r1 l1⟩
    · exact p1.elim
  · exact p1.elim
theorem fp_str {x : Str} {j : Nat} : FP X T W (.Constant (.str x) j pos) (M.ret x) := by
  refine ⟨_, pe_str, fun S G σ H Q r z => ?_⟩
  exact z H G r (Le.refl _ _)
inductive FPs (X : Cx) (T : TbS) (W : WX) : List Expr → List (M Str) → Prop where
  | nil : FPs X T W [] []
  | cons {e : Expr} {m : M Str} {es : List Expr} {ms : List (M Str)} (h : FP X T W e m) (r : FPs X T W es ms) : FPs X T W (e :: es) (m :: ms)
theorem fps_pj {es : List Expr} {ms : List (M Str)} (h : FPs X T W es ms) : ∃ ts, PJ X es ts ∧ ∀ (acc : Str) (S : ES) (G : Gh) (σ : L2.St) (H : Hp) (Q : Str → Hp → Prop), SRel (scOf X T) S σ H G →
    Post (mStrs ms acc S) (fun y S' => ∀ H' G', SRel (scOf X T) S' σ H' G' → Le G H G' H' → Q y H') (QX (scOf X T) G H σ W) → tJs ts acc σ H Q := by
  induction h with
  | nil => exact ⟨[], .nil, fun acc S G σ H Q r z => z H G r (Le.refl _ _)⟩
  | @cons e m es ms hp hr ih =>
    obtain ⟨t, ht, himp⟩ := hp
    obtain ⟨ts, hts, hi⟩ := ih
    refine ⟨t :: ts, .cons ht hts, fun acc S G σ H Q r z => ?_⟩
    refine himp S G σ H _ r ((post_bnd (show Post ((m >>= _) S) _ _ from z)).mono (fun y S1 z1 H1 G1 r1 l1 => ⟨y, rfl, ?_⟩) fun _ _ z => z)
    split at z1
    · rename_i hz
      exact ⟨hz, hi _ S1 G1 σ H1 Q r1 (z1.mono (fun y2 S2 q H' G' r' l' => q H' G' r' (l1.trans l')) fun c S2 q => qx_le l1 q)⟩
    · exact z1.elim
theorem em_joined {v1 v2 : Expr} {rest : List Expr} {ms : List (M Str)} (h : FPs X T W (v1 :: v2 :: rest) ms) : EM X T W (.JoinedStr (v1 :: v2 :: rest) pos) (mJs ms) := by
  obtain ⟨ts, hts, hi⟩ := fps_pj h
  refine PE_imp (pe_joined hts) fun σ H Q q => ?_
  obtain ⟨S, G, r, z⟩ := q
  refine hi Str.empty S G σ H _ r ((post_bnd (show Post ((mStrs ms Str.empty >>= _) S) _ _ from z)).mono (fun y S1 z1 H1 G1 r1 l1 => ?_) fun _ _ z => z)
  exact z1 _ H1 G1 r1 l1 (rep_str.mpr rfl)

/-! ### len of a dict -/
def rLenD : List V → Hp → VK → Prop := fun vs H Q => ∃ a, vs = [V.ref a] ∧ ((∃ kvs : List (Key × V), Rd H a (.dK kvs) ∧ Q (.int ((kvs.length : Nat) : Int)) H) ∨ ∃ kvs : List (List Key × V), Rd H a (.dT kvs) ∧ Q (.int ((kvs.length : Nat) : Int)) H)
theorem call_lenD : CallR X (.builtin "len") rLenD := by
  intro pins s σ H xs us Q I r h
  obtain ⟨a, rfl, h⟩ := h
  obtain ⟨u, rfl, rx⟩ := vals1 r
  obtain rfl : u = .ref a := rx
  rcases h with ⟨kvs, hd, q⟩ | ⟨kvs, hd, q⟩
  · exact d_len I hd fun t s' I' => ⟨.int ((kvs.length : Nat) : Int), H, I', ⟨_, rfl⟩, q⟩
  · obtain ⟨z, hs, ys, rel, dd⟩ := dt_rd I.hok hd
    have hl : kvs.length = ys.length := Paired.length rel
    refine call_len_dictH hs dd (by rw [← hl]; rw [sizeLine_eq] at z; omega) ?_
    rw [← hl]
    exact ⟨.int ((kvs.length : Nat) : Int), H, I.tok _, ⟨_, rfl⟩, q⟩
def eLen2 (v : EV) : M EV := fun S => match v with
  | .str x => if x.length ≤ sizeLine then .ok (.int x.length) S else .bad
  | _ => match rdS S v with
    | some l => .ok (.int l.length) S
    | none => match rdD S v with
      | some (_, ks, _) => .ok (.int ks.length) S
      | none => .bad
theorem drel_len {t : Bool} {ks : List EV} {xs : List V} {u : HO} (d : DRel t ks xs u) : (∃ kvs : List (Key × V), u = .dK kvs ∧ kvs.length = ks.length) ∨ ∃ kvs : List (List Key × V), u = .dT kvs ∧ kvs.length = ks.length := by
  cases t with
  | true =>
    obtain ⟨kvs, rfl, _, h⟩ := d
    exact .inr ⟨kvs, rfl, by have := congrArg List.length h; simpa using this.symm⟩
  | false =>
    obtain ⟨kvs, rfl, _, h⟩ := d
    exact .inl ⟨kvs, rfl, by have := congrArg List.length h; simpa using this.symm⟩
theorem em_len2 {e : Expr} {m : M EV} (B : Bt X.mg) (hg : Gl X "len") (he : NM X T W e m) (hs : starEach [e] X.env = (false, eval e X.env) :: starEach [] X.env := by rfl) (hpl : (backTo pos (starEach [] X.env)).any (·.1) = false := by rfl) :
    EM X T W (.Call (.Name "len" p) [e] [] pos) (mUn eLen2 m) := by
  refine PE_imp (pe_callB (or_call call_len call_lenD) hg B.len (by decide +kernel) (pa_cons he pa_nil hs) (by decide) (by decide) hs hpl) fun σ H Q h => ?_
  refine tA_one σ H Q _ (fun S G H v x r rp p => ?_) h
  unfold eLen2 at p
  split at p
  · rename_i z
    have rp' := rep_str.mp (repN_tup rp (fun _ z => by cases z) (fun _ _ _ z => by cases z))
    split at p
    · rename_i hz
      exact .inl ⟨x, _, rfl, by rw [rp']; exact ⟨hz, rfl⟩, p _ H G r (Le.refl _ _) (rep_int.mpr rfl)⟩
    · exact p.elim
  · split at p
    · rename_i l hl
      obtain ⟨a, xs, rfl, sq, rps⟩ := rdN_seq r rp hl
      refine .inl ⟨_, xs.length, rfl, ?_, ?_⟩
      · rcases sq with sq | sq
        · exact .inl ⟨xs, sq, rfl⟩
        · exact .inr ⟨xs, sq, rfl⟩
      · rw [rps.length]; exact p _ H G r (Le.refl _ _) (rep_int.mpr rfl)
    · split at p
      · rename_i t ks vs hd
        obtain ⟨a, xs, u, rfl, rv, d, hr⟩ := rdD_rep r rp hd
        refine .inr ⟨a, rfl, ?_⟩
        rcases drel_len d with ⟨kvs, rfl, hl⟩ | ⟨kvs, rfl, hl⟩
        · exact .inl ⟨kvs, hr, by rw [hl]; exact p _ H G r (Le.refl _ _) (rep_int.mpr rfl)⟩
        · exact .inr ⟨kvs, hr, by rw [hl]; exact p _ H G r (Le.refl _ _) (rep_int.mpr rfl)⟩
      · exact p.elim

/-! ### count, index -/
def eOnL (f : List EV → EV → M EV) (mi : M EV) : EV → M EV
  | .lst l => do
    let w ← mi
    f l w
  | _ => M.fail
def mBinL (f : List EV → EV → M EV) (m mi : M EV) : M EV := mUn (eOnL f mi) m
def oCount (l : List EV) : EV → Option EV
  | .int k => (intsE l).map fun ns => .int ((ns.count k : Nat) : Int)
  | _ => none
def eCount (l : List EV) (w : EV) : M EV := ofO (oCount l w)
def oIndex (l : List EV) (w : EV) : Option EV := if cmpOk w && datasOk l && decide (deps l ≤ 63) then (l.findIdx? fun z => eqq z w).map fun j => .int ((j : Nat) : Int) else none
def eIndex (l : List EV) (w : EV) : M EV := ofO (oIndex l w)
theorem em_count {o e : Expr} {m mi : M EV} {apos cpos : Pos} (ho : EM X T W o m) (he : EM X T W e mi)
    (hbase : attributeBase o "count" X.env (eval o X.env) = eval o X.env := by rfl)
    (hfew : ((backTo cpos (starEach [e] X.env)).all (fun x => !x.1) && (backToKw cpos (keywordEach [] X.env)).all (fun x => x.1.isSome)
      && decide (([e] : List Expr).length + ([] : List Keyword).length + (if ([] : List Keyword).isEmpty then 0 else 1) < 30)) = true := by rfl)
    (hline : (apos.endLine == cpos.line) = true := by rfl) (hs : starEach [e] X.env = (false, eval e X.env) :: starEach [] X.env := by rfl) (hplain : (backTo cpos (starEach [] X.env)).any (·.1) = false := by rfl) :
    EM X T W (.Call (.Attribute o "count" apos) [e] [] cpos) (mBinL eCount m mi) := by
  refine PE_imp (pe_bm PySem.F.plainAttrs_list PySem.F.slot_list_count (by rfl) mt_lcount ho (pa_cons he pa_nil hs) hbase hfew hline hs hplain) fun σ H Q h => ?_
  obtain ⟨S, G, r, p⟩ := h
  refine tM_bind r (show Post ((m >>= eOnL _ mi) S) _ _ from p) fun v S1 x H1 G1 r1 l1 rp p1 => ?_
  unfold eOnL at p1
  split at p1
  · rename_i l
    obtain ⟨a, xs, rfl, f, hx, rps⟩ := rep_lst.mp rp
    refine ⟨.inl ⟨rfl, xs, .inl (.inl hx)⟩, ?_⟩
    refine tM_bind r1 p1 fun w S2 y H2 G2 r2 l2 rp2 p2 => ?_
    obtain ⟨z, hz, p2⟩ := ofO_some p2
    unfold oCount at hz
    split at hz
    · rename_i k
      obtain ⟨ns, hns, rfl⟩ := Option.map_eq_some_iff.mp hz
      have rpl := rep_lst.mp (rp.mono l2)
      obtain ⟨a', xs', ea, f', hx', rps'⟩ := rpl
      cases ea
      have exs := intsE_reps hns rps'
      refine ⟨a, ns, k, rfl, by rw [rep_int.mp rp2], .inl (.inl ?_), p2 _ H2 G2 r2 (l1.trans l2) (rep_int.mpr rfl)⟩
      rw [← exs]
      exact hx'
    · cases hz
  · exact p1.elim
theorem toPys_get {l : List EV} {j : Nat} {z : EV} (h : l[j]? = some z) : (toPys l)[j]? = some (toPy z) := by
  rw [toPys_map, List.getElem?_map, h]
  rfl
theorem em_index {o e : Expr} {m mi : M EV} {apos cpos : Pos} (hu : X.A.units + 65 < cLine) (ho : EM X T W o m) (he : EM X T W e mi)
    (hbase : attributeBase o "index" X.env (eval o X.env) = eval o X.env := by rfl)
    (hfew : ((backTo cpos (starEach [e] X.env)).all (fun x => !x.1) && (backToKw cpos (keywordEach [] X.env)).all (fun x => x.1.isSome)
      && decide (([e] : List Expr).length + ([] : List Keyword).length + (if ([] : List Keyword).isEmpty then 0 else 1) < 30)) = true := by rfl)
    (hline : (apos.endLine == cpos.line) = true := by rfl) (hs : starEach [e] X.env = (false, eval e X.env) :: starEach [] X.env := by rfl) (hplain : (backTo cpos (starEach [] X.env)).any (·.1) = false := by rfl) :
    EM X T W (.Call (.Attribute o "index" apos) [e] [] cpos) (mBinL eIndex m mi) := by
  refine PE_imp (pe_bm PySem.F.plainAttrs_list PySem.F.slot_list_index (by rfl) (mt_indexD hu) ho (pa_cons he pa_nil hs) hbase hfew hline hs hplain) fun σ H Q h => ?_
  obtain ⟨S, G, r, p⟩ := h
  refine tM_bind r (show Post ((m >>= eOnL _ mi) S) _ _ from p) fun v S1 x H1 G1 r1 l1 rp p1 => ?_
  unfold eOnL at p1
  split at p1
  · rename_i l
    obtain ⟨a, xs, rfl, f, hx, rps⟩ := rep_lst.mp rp
    refine ⟨.inl ⟨rfl, xs, .inl (.inl hx)⟩, ?_⟩
    refine tM_bind r1 p1 fun w S2 y H2 G2 r2 l2 rp2 p2 => ?_
    obtain ⟨z, hz, p2⟩ := ofO_some p2
    unfold oIndex at hz
    split at hz
    · rename_i hk
      simp only [Bool.and_eq_true, decide_eq_true_eq] at hk
      have hkv := hk.1.1
      unfold cmpOk at hkv
      simp only [Bool.and_eq_true, decide_eq_true_eq] at hkv
      obtain ⟨j, hj, rfl⟩ := Option.map_eq_some_iff.mp hz
      · obtain ⟨a', xs', ea, f', hx', rps'⟩ := rep_lst.mp (rp.mono l2)
        cases ea
        obtain ⟨hjl, hjp, hno⟩ := List.findIdx?_eq_some_iff_getElem.mp hj
        have hzd : ∀ z ∈ l, dataOk z = true := fun z hz => datasOk_mem hk.1.2 hz
        refine ⟨a, y, toPy w, toPys l, j, toPy l[j], rfl, rfl, .lst (.inl (.inl hx')) (dps_of l _ hk.1.2 rps'), dp_of w y hkv.1 rp2, ?_, ?_, toPys_get (List.getElem?_eq_getElem hjl), ?_, fun mm z' hm hz' => ?_, p2 _ H2 G2 r2 (l1.trans l2) (rep_int.mpr rfl)⟩
        · unfold SeqAt.shaped; rw [PyData.canLay0, canLays_toPy _ hk.1.2, PyData.depth, depths_toPy]; simp; omega
        · unfold SeqAt.shaped; rw [canLay_toPy _ hkv.1, depth_toPy]; simp [hkv.2]
        · rw [eqv_toPy _ _ (hzd _ (List.getElem_mem hjl)) hkv.1]; exact hjp
        · have hml : mm < l.length := Nat.lt_trans hm hjl
          rw [toPys_get (List.getElem?_eq_getElem hml)] at hz'
          cases hz'
          rw [eqv_toPy _ _ (hzd _ (List.getElem_mem hml)) hkv.1]
          simpa using hno mm hm
    · cases hz
  · exact p1.elim
end
end ML
/-! ML24 -/
set_option Elab.async false
set_option linter.all false
set_option autoImplicit false
set_option maxRecDepth 100000
set_option maxHeartbeats 4000000
/-! ML24: dict comprehensions, dict of pairs, frozen list comprehensions in one line -/
namespace ML
open PySem PySem.Spec PyProof.Rows L2
def mDrawD (vs : List Nat) (g : EV → M Unit) (c : M Bool) (ek ev : M EV) : List EV × List EV → List EV → M (List EV × List EV)
  | acc, [] => do
    mWipe vs
    M.ret acc
  | acc, v :: l => do
    mWipe vs
    g v
    let b ← c
    if b then do
      let k ← ek
      let y ← ev
      if (keyOf k).isSome && decide (acc.1.length < sizeLine) then mDrawD vs g c ek ev (dPut acc.1 acc.2 k y) l else M.fail
    else mDrawD vs g c ek ev acc l
def mDc (vs : List Nat) (mi : M (List EV)) (gm : EV → M Unit) (c : M Bool) (ek ev : M EV) : M EObj := do
  let l ← mi
  let r ← mNs [] (mBlk vs (mDrawD vs gm c ek ev ([], []) l))
  M.ret (.dic false r.1 r.2)
/-- d = {..} on one line, the name a local -/
theorem ps_setDc {X : Cx} {i : Nat} {y : Str} {py : Pos} {kx vx tg iter : Expr} {ifs : List Expr} {scope : Scope} {own : List (Str × Nat)} {pos spos : Pos} {wi : TI} {g : TG} {tt : TT} {tk tv : TE} (hc : X.calm = true) (hN : X.N.Nodup) (hy : X.N[i]? = some y) (hyl : X.env.scope.names.lookup y = some .local)
    (hsw : swapsWith (.DictComp kx vx [⟨tg, iter, ifs, 0⟩] scope pos) (some (.Name y py)) spos.line X.env = pure true) (hi : PI X tg iter wi) (ok : BlkOk X.N X.env.scope scope own)
    (hg : ∀ (s : Shared) (H : Hp) (C : Addr) (cl : List (Str × Addr)) (fp : List Addr), PG (X.blk s H scope (compEnvC scope cl C X.env) fp) tg g) (ht : ∀ (s : Shared) (H : Hp) (C : Addr) (cl : List (Str × Addr)) (fp : List Addr), PTs (X.blk s H scope (compEnvC scope cl C X.env) fp) ifs tt)
    (hk : ∀ (s : Shared) (H : Hp) (C : Addr) (cl : List (Str × Addr)) (fp : List Addr), PE (X.blk s H scope (compEnvC scope cl C X.env) fp) kx tk)
    (he : ∀ (s : Shared) (H : Hp) (C : Addr) (cl : List (Str × Addr)) (fp : List Addr), PE (X.blk s H scope (compEnvC scope cl C X.env) fp) vx tv) (hs : ∀ x, foldedSetIterable iter X.env x = pure x := by intro _; rfl) :
    PS X (.Assign [.Name y py] (.DictComp kx vx [⟨tg, iter, ifs, 0⟩] scope pos) spos) (tAsg (tDc wi g tt tk tv (own.map (·.2))) (gName i)) := by
  refine ⟨fun pins s σ H D I h => ?_⟩
  rw [exec_Assign_Name_used _ _ _ _ hsw]
  refine wpAny_bind (wpAny_standAt (wpAny_bind ?_))
  show wpAny _ X.A (do let _ ← comprehension (.DictComp kx vx [⟨tg, iter, ifs, 0⟩] scope pos) scope X.env (firstIterPos [⟨tg, iter, ifs, 0⟩] pos) newDict false (eval iter X.env) (some (assign (.Name y py) X.env))) _ _ s
  have h : tDc wi g tt tk tv (own.map (·.2)) σ H (fun x H1 => gName i x σ H1 D.nx) := h
  refine wpAny_bind (thn (dc_core (Qf := fun _ s' => SP X pins D .next s') hc hN I hi ok hg ht hk he hs h fun L C s' m H' I' q hn f => ?_) fun _ s' hq => wpAny_pure (wpAny_pure hq))
  show wpAny _ _ (assign (.Name y py) X.env (.ref L)) _ _ _
  refine wpAny_assign_Name (store_ok2 (v := V.ref L) I' hN hy (.inl hyl) rfl (fun s2 I2 ⟨a, sb, ha⟩ => ?_) (.inr hyl))
  obtain ⟨f0, f1, f2, f3, f4, f5⟩ := f
  have haC : C ≠ a := by
    rcases ha with z | z
    · rw [z]; exact f1
    · exact fun e => f4 y a z e.symm
  refine ⟨m, hn.sameBut sb haC, fun h3 sb3 => ?_⟩
  exact ⟨_, H', I2.turned (t' := s2.toks) (fun b o hb e => (sb3.2 b hb).trans e) f0 f1 f3 f4 f5, q⟩
section
variable {C : Sc} {J : It} {l : List EV} {vs : List Nat} {gm : EV → M Unit} {c : M Bool} {ek ev : M EV} {σ : L2.St} {D : Addr} {Gr : Gh} {Hr : Hp} {QQ : List EV × List EV → ES → Prop}
def crDic (C : Sc) (D : Addr) (acc : List EV × List EV) (H : Hp) (G : Gh) : Prop := ∃ u, H D = some u ∧ ObjRel C G H (.dic false acc.1 acc.2) u
theorem crDic_le {acc : List EV × List EV} {H H' : Hp} {G G' : Gh} (h : crDic C D acc H G) (l : Le (G.hid [D]) H G' H') : crDic C D acc H' { G' with Pv := G.Pv } := by
  obtain ⟨u, e, o⟩ := h
  refine ⟨u, ?_, ?_⟩
  · exact (l.keepP D u (.inr List.mem_cons_self) e).eq o.mut.nt
  · exact o.monoR ((hid_leR G H [D]).trans (l.r.trans (unh_leR G' H' G.Pv)))
/-- one turn of a dict comprehension's loop -/
theorem gturnD (hC : ∀ H a o, C.Tb H → (H a = none ∨ (∃ xs, H a = some (.lst xs)) ∨ (∃ xs, H a = some (.dK xs)) ∨ (∃ xs, H a = some (.dT xs)) ∨ (∃ c d xs, H a = some (.ins c d xs))) → C.Tb (upd H a o)) (jr : JRel C Gr Hr J l) (nx : NoExc gm) (i m : Nat) (H : Hp)
    (w : m = l.length - i ∧ i ≤ l.length ∧ ∃ S G acc, DSt C vs σ [D] Gr Hr S H G ∧ crDic C D acc H G ∧ Post (mDrawD vs gm c ek ev acc (l.drop i) S) QQ (fun _ _ => False)) :
    (J.stop i H ∧ ∃ S G acc, DSt C vs σ [D] Gr Hr S H G ∧ crDic C D acc H G ∧ QQ acc (S.wp vs)) ∨ (J.go i H ∧ ∃ Nx : Hp → Prop, (∀ H', Nx H' → ∃ m', m' < m ∧ m' = l.length - (i + 1) ∧ i + 1 ≤ l.length ∧ ∃ S G acc, DSt C vs σ [D] Gr Hr S H' G ∧ crDic C D acc H' G ∧ Post (mDrawD vs gm c ek ev acc (l.drop (i + 1)) S) QQ (fun _ _ => False)) ∧
      ∀ x H', J.yld i H x H' → tG C vs gm x (wipe σ vs) H' fun σ2 H2 => wipe σ2 vs = wipe σ vs ∧ tMB C noW c σ2 H2 fun b H3 =>
        if b = true then tM C noW ek σ2 H3 fun y H4 => tM C noW ev σ2 H4 fun z H5 => ∃ kvs k, y = kV k ∧ H5 D = some (.dK kvs) ∧ kvs.length < sizeLine ∧ Nx (upd H5 D (.dK (putK kvs k z))) else Nx H3) := by
  obtain ⟨rfl, hil, S0, G, acc, d, cr, p⟩ := w
  by_cases hlt : i < l.length
  · have hG : ¬ G.Pv D := (d.unk D List.mem_cons_self).1.2.1
    have hGa : ∀ a ∈ [D], ¬ G.Pv a := fun a ha => (d.unk a ha).1.2.1
    have hex : ∀ a ∈ [D], ∃ o, H a = some o ∧ MutO o := fun a ha => (d.unk a ha).2
    have r0 := d.rel.hid d.unk
    refine .inr ⟨jr.go i G H d.le.r hlt, fun H' => ∃ S G acc, DSt C vs σ [D] Gr Hr S H' G ∧ crDic C D acc H' G ∧ Post (mDrawD vs gm c ek ev acc (l.drop (i + 1)) S) QQ (fun _ _ => False), fun H' q => ⟨l.length - (i + 1), by omega, rfl, hlt, q⟩, fun x H2 hy => ?_⟩
    obtain ⟨v, G2, hv, r2, l2, rp⟩ := jr.yld i (S0.wp vs) (wipe σ vs) (G.hid [D]) H x H2 (d.le.r.trans (hid_leR G H [D])) r0 hlt hy
    rw [drop_get hv] at p
    have p2 : Post ((gm v >>= fun _ => c >>= fun b => if b = true then (ek >>= fun k => ev >>= fun y => if (keyOf k).isSome && decide (acc.1.length < sizeLine) then mDrawD vs gm c ek ev (dPut acc.1 acc.2 k y) (l.drop (i + 1)) else M.fail) else mDrawD vs gm c ek ev acc (l.drop (i + 1))) (S0.wp vs)) QQ (fun _ _ => False) := p
    refine ⟨S0.wp vs, G2, v, r2, rp, ?_⟩
    have h' := post_bnd p2
    have nxv := nx v (S0.wp vs)
    cases hgv : gm v (S0.wp vs) with
    | exc cc S' => exact (nxv cc S' hgv).elim
    | bad => rw [hgv] at h'; exact h'.elim
    | ok a S3 =>
      rw [hgv] at h'
      refine fun σ3 H3 G3 r3 l3 k3 => ?_
      have hw3 : wipe σ3 vs = wipe σ vs := (kep_wipe k3).trans (wipe_wipe σ vs)
      refine ⟨hw3, ?_⟩
      have l03 : Le (G.hid [D]) H G3 H3 := l2.trans l3
      have back : ∀ {S' : ES} {H' : Hp} {G' : Gh}, SRel C S' σ3 H' G' → Le G3 H3 G' H' → SRel C S' σ3 H' { G' with Pv := G.Pv } ∧ DSt C vs σ [D] Gr Hr S' H' { G' with Pv := G.Pv } ∧ crDic C D acc H' { G' with Pv := G.Pv } ∧ Unk S' σ3 { G' with Pv := G.Pv } D := fun {S' H' G'} r' l' => by
        have lt := l03.trans l'
        obtain ⟨ru, uu⟩ := r'.unhid (G := G) (hs := [D]) lt.pv
        exact ⟨ru, dst_of uu hGa hw3 ru d.le lt hex, crDic_le cr lt, (uu D List.mem_cons_self).resolve_right hG⟩
      refine ⟨S3, G3, r3, (post_bnd h').mono (fun b S4 q H4 G4 r4 l4 => ?_) fun cc S4 q H' G' r' l' => q.elim⟩
      obtain ⟨ru4, d4, cr4, u4⟩ := back r4 l4
      cases b with
      | false =>
        simp only [Bool.false_eq_true, if_false] at q ⊢
        exact ⟨S4, _, acc, d4, cr4, q⟩
      | true =>
        simp only [if_true] at q ⊢
        refine ⟨S4, G4, r4, (post_bnd q).mono (fun k S5 q5 yv H5 G5 r5 l5 rp5 => ?_) fun cc S5 q5 H' G' r' l' => q5.elim⟩
        refine ⟨S5, G5, r5, (post_bnd q5).mono (fun y S6 q6 zv H6 G6 r6 l6 rp6 => ?_) fun cc S6 q6 H' G' r' l' => q6.elim⟩
        obtain ⟨ru6, d6, cr6, u6⟩ := back r6 ((l4.trans l5).trans l6)
        split at q6
        · rename_i hk
          simp only [Bool.and_eq_true, decide_eq_true_eq] at hk
          obtain ⟨hk1, hz⟩ := hk
          obtain ⟨kk, hkk⟩ := Option.isSome_iff_exists.mp hk1
          obtain ⟨u, hu, xs, rxs, kvs, rfl, hks, hkey⟩ := cr6
          have rv' : Rep C { G6 with Pv := G.Pv } H6 y zv := rp6.monoR (unh_leR G6 H6 G.Pv)
          have hlen : kvs.length = acc.1.length := by have := congrArg List.length hkey; simpa using this.symm
          have rxs' : Reps C { G6 with Pv := G.Pv } H6 acc.2 (kvs.map (·.2)) := by rw [hks]; exact rxs
          obtain ⟨k1, k2⟩ := dPut_k (f := keyOf) (fun a b k j h1 h2 => keyOf_eq h1 h2) hkk rv' hkey rxs'
          refine ⟨kvs, kk, keyOf_rep hkk rp5, hu, by omega, ?_⟩
          obtain ⟨r7, l7⟩ := ru6.updU (o := .dK (putK kvs kk zv)) u6 (hC H6 D _ ru6.hr.tb (.inr (.inr (.inl ⟨_, hu⟩))))
          refine ⟨S6, _, dPut acc.1 acc.2 k y, ⟨?_, d6.le.trans l7, fun a ha => ?_⟩, ⟨_, upd_same, _, k2.mono l7, _, rfl, rfl, k1⟩, q6⟩
          · have := r7.wp vs
            rwa [hw3] at this
          · have ea : a = D := by simpa using ha
            subst ea
            have := unk_wp u6 vs
            rw [hw3] at this
            exact ⟨this, _, upd_same, .inr (.inl ⟨_, rfl⟩)⟩
        · exact q6.elim
  · have e : i = l.length := by omega
    subst e
    rw [List.drop_length] at p
    exact .inl ⟨jr.stop G H d.le.r, S0, G, acc, d, cr, p⟩
end
structure DBody (X : Cx) (T : TbS) (Gs : List Addr) (Ls : LsS) (k : Nat) (scope : Scope) (vs : List Nat) (tg kx vx : Expr) (ifs : List Expr) (gm : EV → M Unit) (c : M Bool) (ek ev : M EV) : Prop where
  body : ∀ (Xb : Cx) (Wb : WX), Xb.prog = X.prog → Xb.w = X.w → Xb.K = X.K → Xb.mg = X.mg → Xb.base = X.base → Xb.N = X.N → Xb.env.scope = relS scope X.env.scope → Xb.fn = (fun x => scope.names.lookup x == some .cell) → (Code1 X Gs Ls → Code1 Xb Gs Ls) → Kx Xb T Wb k →
    GM Xb T vs tg gm ∧ PTs Xb ifs (tMB (scOf Xb T) Wb c) ∧ EM Xb T Wb kx ek ∧ EM Xb T Wb vx ev
  nx : NoExc gm
section
variable {X : Cx} {Gs : List Addr} {Ls : LsS} {W : WX} {k : Nat} {scope : Scope} {own : List (Str × Nat)} {tg iter kx vx : Expr} {ifs : List Expr} {mi : M (List EV)} {gm : EV → M Unit} {c : M Bool} {ek ev : M EV} {pos : Pos}
theorem tDc_of {C : Sc} {vs : List Nat} (nx : NoExc gm) (hC : ∀ H a o, C.Tb H → (H a = none ∨ (∃ xs, H a = some (.lst xs)) ∨ (∃ xs, H a = some (.dK xs)) ∨ (∃ xs, H a = some (.dT xs)) ∨ (∃ c d xs, H a = some (.ins c d xs))) → C.Tb (upd H a o)) :
    ∀ σ H Q, tMO C W (mDc vs mi gm c ek ev) σ H Q → tDc (tI C W mi) (tG C vs gm) (tMB C noW c) (tM C noW ek) (tM C noW ev) vs σ H Q := by
  rintro σ H0 Q ⟨S0, G0, r0, p0⟩
  refine eMI_bind r0 p0 fun l S1 J H4 G1 r1 l1 j1 p1 D hD => ?_
  obtain ⟨hno, p2⟩ := post_blk (post_ns (post_bnd p1))
  obtain ⟨r6, l6⟩ := r1.newN (u := .dK []) hD
  obtain ⟨n1, n2, n3⟩ := r1.hr.new_not hD
  have unkS : Unk S1 σ G1 D := ⟨n3, n2, n1, r1.new_own hD⟩
  have p3 : Post (mDrawD vs gm c ek ev ([], []) l S1) (fun r S' => Post (M.ret (EObj.dic false r.1 r.2) { S' with sl := backS S1.sl S'.sl vs }) (QO C G0 H0 σ Q) (QX C G0 H0 σ W)) (fun _ _ => False) := p2.mono (fun _ _ z => z) fun cc S' z => absurd z.1 List.not_mem_nil
  refine ⟨fun i m H => m = l.length - i ∧ i ≤ l.length ∧ ∃ S G acc, DSt C vs σ [D] G1 (upd H4 D (.dK [])) S H G ∧ crDic C D acc H G ∧ Post (mDrawD vs gm c ek ev acc (l.drop i) S) (fun r S' => Post (M.ret (EObj.dic false r.1 r.2) { S' with sl := backS S1.sl S'.sl vs }) (QO C G0 H0 σ Q) (QX C G0 H0 σ W)) (fun _ _ => False), ⟨l.length, rfl, Nat.zero_le _, S1, G1, ([], []), ⟨r6.wp vs, Le.refl _ _, fun a ha => ?_⟩, ⟨_, upd_same, [], reps_nil.mpr rfl, [], rfl, rfl, rfl⟩, p3⟩, fun i m H w => ?_⟩
  · have : a = D := by simpa using ha
    subst this
    exact ⟨unk_wp unkS vs, _, upd_same, .inr (.inl ⟨_, rfl⟩)⟩
  · rcases gturnD hC (j1.mono l6.r) nx i m H w with ⟨stop, S', G', acc, d, ⟨u, e1, ro⟩, q⟩ | ⟨go, Nx, hNx, step⟩
    · refine .inl ⟨stop, ?_⟩
      have rb := r6.bk hno d.rel d.le
      have hl : (S'.wp vs).sl.length = σ.length := by rw [d.rel.len, wipe_length]
      obtain ⟨f1, f2, f3, f4⟩ := unk_bk hno r1.len hl (d.unk D List.mem_cons_self).1
      exact q (.ref D) H G' rb (l1.trans (l6.trans d.le)) ⟨D, _, rfl, e1, ro, f1, f2, f3, f4⟩
    · exact .inr ⟨go, Nx, hNx, step⟩
theorem om_dc (kx' : Kx X (tbs Gs Ls) W k) (hN : X.N.Nodup) (ok : BlkOk X.N X.env.scope scope own) (hi : IM X (tbs Gs Ls) W tg iter mi) (lb : DBody X (tbs Gs Ls) Gs Ls k scope (own.map (·.2)) tg kx vx ifs gm c ek ev)
    (hs : ∀ x, foldedSetIterable iter X.env x = pure x := by intro _; rfl) : OM X (tbs Gs Ls) W (.DictComp kx vx [⟨tg, iter, ifs, 0⟩] scope pos) (mDc (own.map (·.2)) mi gm c ek ev) := by
  have hb : ∀ (s : Shared) (H : Hp) (C : Addr) (cl : List (Str × Addr)) (fp : List Addr), _ := fun s H C cl fp => lb.body (X.blk s H scope (compEnvC scope cl C X.env) fp) noW rfl rfl rfl rfl rfl rfl rfl rfl (fun h => h) (lb_kx kx')
  refine PE_imp (pe_dc (g := tG (scOf X (tbs Gs Ls)) (own.map fun (q : Str × Nat) => q.2) gm) (tt := tMB (scOf X (tbs Gs Ls)) noW c) (tk := tM (scOf X (tbs Gs Ls)) noW ek) (tv := tM (scOf X (tbs Gs Ls)) noW ev) kx'.calm hN hi ok (fun s H C cl fp => (hb s H C cl fp).1) (fun s H C cl fp => (hb s H C cl fp).2.1) (fun s H C cl fp => (hb s H C cl fp).2.2.1) (fun s H C cl fp => (hb s H C cl fp).2.2.2) hs)
    fun σ H Q h => tDc_of lb.nx (tbs Gs Ls).tbu σ H Q h
theorem sm_setDc {i : Nat} {y : Str} {py spos : Pos} (kx' : Kx X (tbs Gs Ls) W k) (hN : X.N.Nodup) (hy : X.N[i]? = some y) (hyl : X.env.scope.names.lookup y = some .local)
    (hsw : swapsWith (.DictComp kx vx [⟨tg, iter, ifs, 0⟩] scope pos) (some (.Name y py)) spos.line X.env = pure true) (ok : BlkOk X.N X.env.scope scope own) (hi : IM X (tbs Gs Ls) W tg iter mi) (lb : DBody X (tbs Gs Ls) Gs Ls k scope (own.map (·.2)) tg kx vx ifs gm c ek ev)
    (hs : ∀ x, foldedSetIterable iter X.env x = pure x := by intro _; rfl) : SM X (tbs Gs Ls) W (.Assign [.Name y py] (.DictComp kx vx [⟨tg, iter, ifs, 0⟩] scope pos) spos) (sSetO i (mDc (own.map (·.2)) mi gm c ek ev)) := by
  have hb : ∀ (s : Shared) (H : Hp) (C : Addr) (cl : List (Str × Addr)) (fp : List Addr), _ := fun s H C cl fp => lb.body (X.blk s H scope (compEnvC scope cl C X.env) fp) noW rfl rfl rfl rfl rfl rfl rfl rfl (fun h => h) (lb_kx kx')
  refine PS_imp (ps_setDc (i := i) (g := tG (scOf X (tbs Gs Ls)) (own.map fun (q : Str × Nat) => q.2) gm) (tt := tMB (scOf X (tbs Gs Ls)) noW c) (tk := tM (scOf X (tbs Gs Ls)) noW ek) (tv := tM (scOf X (tbs Gs Ls)) noW ev) kx'.calm hN hy hyl hsw hi ok (fun s H C cl fp => (hb s H C cl fp).1) (fun s H C cl fp => (hb s H C cl fp).2.1) (fun s H C cl fp => (hb s H C cl fp).2.2.1) (fun s H C cl fp => (hb s H C cl fp).2.2.2) hs) fun D σ H h => ?_
  obtain ⟨S, G, r, p⟩ := h
  show tDc _ _ _ _ _ _ σ H _
  refine tDc_of lb.nx (tbs Gs Ls).tbu σ H _ ?_
  refine sMO_bind r p fun o S1 x H1 G1 r1 l1 f1 p1 => ?_
  have p2 := p1
  unfold setSl at p2
  have p3 := post_bnd p2
  by_cases hlt : i < S1.sl.length
  · rw [if_pos hlt] at p3
    exact p3 _ H1 G1 (r1.setOwn hlt f1) l1
  · rw [if_neg hlt] at p3
    exact p3.elim
end

/-! ### name = [..], the list never changed after: a frozen one -/
section
variable {X : Cx} {Gs : List Addr} {Ls : LsS} {W : WX} {k : Nat} {scope : Scope} {own : List (Str × Nat)} {tg iter elt kx vx : Expr} {ifs : List Expr} {mi : M (List EV)} {gm : EV → M Unit} {c : M Bool} {e ek ev : M EV} {pos : Pos}
theorem asg_frz {i : Nat} {m : M EObj} {D : Ends} {σ : L2.St} {H : Hp} {t : TE} (ht : ∀ σ H Q, tMO (scOf X (tbs Gs Ls)) W m σ H Q → t σ H Q) (h : tS (scOf X (tbs Gs Ls)) W (sSet i (mFrz m)) D σ H) : tAsg t (gName i) D σ H := by
  obtain ⟨S, G, r, p⟩ := h
  show t σ H _
  refine ht σ H _ ?_
  have p' : Post ((m >>= fun o => (do let v ← ofO (frzO o); setSl i (.val v); M.ret Fl.nx)) S) (QS (scOf X (tbs Gs Ls)) G H D) (QXS (scOf X (tbs Gs Ls)) G H W) := by
    have e : (sSet i (mFrz m)) S = (m >>= fun o => (do let v ← ofO (frzO o); setSl i (.val v); M.ret Fl.nx)) S := by
      show M.bnd (M.bnd m _) _ S = M.bnd m _ S
      unfold M.bnd
      cases m S <;> rfl
    rw [← e]
    exact p
  refine sMO_bind r p' fun o S1 x H1 G1 r1 l1 f1 p1 => ?_
  obtain ⟨v, hv, p2⟩ := ofO_some (post_bnd p1)
  obtain ⟨G2, r2, l2, rp2⟩ := f1.frz r1 hv
  have p3 := post_bnd p2
  unfold setSl at p3
  by_cases hlt : i < S1.sl.length
  · rw [if_pos hlt] at p3
    exact p3 _ H1 G2 (r2.setVal hlt rp2) (l1.trans l2)
  · rw [if_neg hlt] at p3
    exact p3.elim
theorem sm_setLcF {i : Nat} {y : Str} {py spos : Pos} (kx : Kx X (tbs Gs Ls) W k) (hN : X.N.Nodup) (hy : X.N[i]? = some y) (hyl : X.env.scope.names.lookup y = some .local)
    (hsw : swapsWith (.ListComp elt [⟨tg, iter, ifs, 0⟩] scope pos) (some (.Name y py)) spos.line X.env = pure true) (ok : BlkOk X.N X.env.scope scope own) (hi : IM X (tbs Gs Ls) W tg iter mi) (lb : LBody X (tbs Gs Ls) Gs Ls k scope (own.map (·.2)) tg elt ifs gm c e)
    (hs : ∀ x, foldedSetIterable iter X.env x = pure x := by intro _; rfl) : SM X (tbs Gs Ls) W (.Assign [.Name y py] (.ListComp elt [⟨tg, iter, ifs, 0⟩] scope pos) spos) (sSet i (mFrz (mLc (own.map (·.2)) mi gm c e))) := by
  have hb : ∀ (s : Shared) (H : Hp) (C : Addr) (cl : List (Str × Addr)) (fp : List Addr), _ := fun s H C cl fp => lb.body (X.blk s H scope (compEnvC scope cl C X.env) fp) noW rfl rfl rfl rfl rfl rfl rfl rfl (fun h => h) (lb_kx kx)
  exact PS_imp (ps_setLc (i := i) (g := tG (scOf X (tbs Gs Ls)) (own.map fun (q : Str × Nat) => q.2) gm) (tt := tMB (scOf X (tbs Gs Ls)) noW c) (te := tM (scOf X (tbs Gs Ls)) noW e) kx.calm hN hy hyl hsw hi ok (fun s H C cl fp => (hb s H C cl fp).1) (fun s H C cl fp => (hb s H C cl fp).2.1) (fun s H C cl fp => (hb s H C cl fp).2.2) hs) fun D σ H h =>
    asg_frz (fun σ H Q h => tLc_of lb.nx (tbs Gs Ls).tbu X.base σ H Q h) h
theorem sm_setDcF {i : Nat} {y : Str} {py spos : Pos} (kx' : Kx X (tbs Gs Ls) W k) (hN : X.N.Nodup) (hy : X.N[i]? = some y) (hyl : X.env.scope.names.lookup y = some .local)
    (hsw : swapsWith (.DictComp kx vx [⟨tg, iter, ifs, 0⟩] scope pos) (some (.Name y py)) spos.line X.env = pure true) (ok : BlkOk X.N X.env.scope scope own) (hi : IM X (tbs Gs Ls) W tg iter mi) (lb : DBody X (tbs Gs Ls) Gs Ls k scope (own.map (·.2)) tg kx vx ifs gm c ek ev)
    (hs : ∀ x, foldedSetIterable iter X.env x = pure x := by intro _; rfl) : SM X (tbs Gs Ls) W (.Assign [.Name y py] (.DictComp kx vx [⟨tg, iter, ifs, 0⟩] scope pos) spos) (sSet i (mFrz (mDc (own.map (·.2)) mi gm c ek ev))) := by
  have hb : ∀ (s : Shared) (H : Hp) (C : Addr) (cl : List (Str × Addr)) (fp : List Addr), _ := fun s H C cl fp => lb.body (X.blk s H scope (compEnvC scope cl C X.env) fp) noW rfl rfl rfl rfl rfl rfl rfl rfl (fun h => h) (lb_kx kx')
  exact PS_imp (ps_setDc (i := i) (g := tG (scOf X (tbs Gs Ls)) (own.map fun (q : Str × Nat) => q.2) gm) (tt := tMB (scOf X (tbs Gs Ls)) noW c) (tk := tM (scOf X (tbs Gs Ls)) noW ek) (tv := tM (scOf X (tbs Gs Ls)) noW ev) kx'.calm hN hy hyl hsw hi ok (fun s H C cl fp => (hb s H C cl fp).1) (fun s H C cl fp => (hb s H C cl fp).2.1) (fun s H C cl fp => (hb s H C cl fp).2.2.1) (fun s H C cl fp => (hb s H C cl fp).2.2.2) hs) fun D σ H h =>
    asg_frz (fun σ H Q h => tDc_of lb.nx (tbs Gs Ls).tbu σ H Q h) h
end

/-! ### dict([(k, v), ..]) -/
def pairE : EV → Option (EV × EV)
  | .tup [k, v] => some (k, v)
  | _ => none
theorem pairE_eq {e : EV} {q : EV × EV} (h : pairE e = some q) : e = .tup [q.1, q.2] := by
  unfold pairE at h
  split at h
  · cases h; rfl
  · cases h
def dictE : List EV → List EV × List EV → Option (List EV × List EV)
  | [], acc => some acc
  | e :: l, acc => match pairE e with
    | some q => if (keyOf q.1).isSome then dictE l (dPut acc.1 acc.2 q.1 q.2) else none
    | none => none
theorem dict_pairs {C : Sc} {G : Gh} {H : Hp} : ∀ {l : List EV} {xs : List V} {acc r : List EV × List EV}, Reps C G H l xs → dictE l acc = some r → ∃ (ps : List Addr) (kvs : List (Key × V)), xs = ps.map V.ref ∧ Paired (fun p kv => SqT C.K H p [kV kv.1, kv.2]) ps kvs ∧
    ∀ kvs0 : List (Key × V), acc.1.map keyOf = kvs0.map (fun q => some q.1) → Reps C G H acc.2 (kvs0.map (·.2)) → r.1.map keyOf = (mergeK kvs0 kvs).map (fun q => some q.1) ∧ Reps C G H r.2 ((mergeK kvs0 kvs).map (·.2))
  | [], xs, acc, r, hr, e => by
    cases e
    rw [reps_nil] at hr
    subst hr
    exact ⟨[], [], rfl, .nil, fun kvs0 h1 h2 => ⟨h1, h2⟩⟩
  | ev :: l, xs, acc, r, hr, e => by
    obtain ⟨x, xs', rfl, r1, r2⟩ := reps_cons.mp hr
    unfold dictE at e
    split at e
    · rename_i q hq
      obtain ⟨k, v⟩ := q
      have r1 : Rep C G H (.tup [k, v]) x := by rw [pairE_eq hq] at r1; exact r1
      split at e
      · rename_i hk
        obtain ⟨kk, hkk⟩ := Option.isSome_iff_exists.mp hk
        obtain ⟨ps, kvs, rfl, hp, hm⟩ := dict_pairs r2 e
        obtain ⟨a, ys, rfl, sq, rys⟩ := rd_tup (l := [k, v]) r1 rfl
        obtain ⟨y, y2, rfl, ry, ry2⟩ := reps_two rys
        have ek := keyOf_rep hkk ry
        subst ek
        refine ⟨a :: ps, (kk, y2) :: kvs, rfl, .cons sq hp, fun kvs0 h1 h2 => ?_⟩
        obtain ⟨k1, k2⟩ := dPut_k (f := keyOf) (fun a b k j h1 h2 => keyOf_eq h1 h2) hkk ry2 h1 h2
        exact hm _ k1 k2
      · cases e
    · cases e
def eDict (v : EV) : M EObj := fun S => match rdL S v with
  | some l => match dictE l ([], []) with
    | some r => .ok (.dic false r.1 r.2) S
    | none => .bad
  | none => .bad
theorem om_dict {X : Cx} {T : TbS} {W : WX} {e : Expr} {m : M EV} {p pos : Pos} (hc : X.calm = true) (B : Bt X.mg) (hg : Gl X "dict") (he : NM X T W e m) (hs : starEach [e] X.env = (false, eval e X.env) :: starEach [] X.env := by rfl) (hpl : (backTo pos (starEach [] X.env)).any (·.1) = false := by rfl) :
    OM X T W (.Call (.Name "dict" p) [e] [] pos) (m >>= eDict) := by
  refine PE_imp (pe_callTy (call_dictP hc) hg B.dict (by decide +kernel) (pa_cons he pa_nil hs) (by decide) (by decide) hs hpl) fun σ H Q h => ?_
  refine tA_oneO σ H Q _ (fun S G H v x r rp p => ?_) h
  unfold eDict at p
  split at p
  · rename_i l hl
    split at p
    · rename_i rr hr
      obtain ⟨a, xs, rfl, sq, rps⟩ := rdN_list r rp hl
      obtain ⟨ps, kvs, rfl, hp, hm⟩ := dict_pairs rps hr
      obtain ⟨h1, h2⟩ := hm [] rfl (reps_nil.mpr rfl)
      refine ⟨a, ps, kvs, rfl, sq, hp, fun q hq => ?_⟩
      obtain ⟨r2, l2⟩ := r.newN (u := .dK (mergeK [] kvs)) hq
      exact p _ _ _ r2 l2 (fresh_new r hq ⟨_, h2.mono l2, _, rfl, rfl, h1⟩)
    · exact p.elim
  · exact p.elim
end ML
/-! ML25 -/
set_option Elab.async false
set_option linter.all false
set_option autoImplicit false
set_option maxRecDepth 100000
set_option maxHeartbeats 4000000
/-! ML25: what is known of a context, bundled; defs by their places -/
namespace ML
open PySem PySem.Spec PyProof.Rows L2
def visB (sc : Scope) (x : Str) : Bool := match sc.names.lookup x with
  | some .local => true
  | some .cell => true
  | some .free => true
  | _ => false
def locB (sc : Scope) (x : Str) : Bool := match sc.names.lookup x with
  | some .local => true
  | some .cell => true
  | _ => false
def glB (sc : Scope) (x : Str) : Bool := match sc.names.lookup x with
  | some .globalImplicit => true
  | _ => false
theorem visB_ok {sc : Scope} {x : Str} (h : visB sc x = true) : Vis sc x := by
  unfold visB at h
  split at h
  · rename_i e; exact .inl e
  · rename_i e; exact .inr (.inl e)
  · rename_i e; exact .inr (.inr e)
  · cases h
theorem locB_ok {sc : Scope} {x : Str} (h : locB sc x = true) : Loc sc x := by
  unfold locB at h
  split at h
  · rename_i e; exact .inl e
  · rename_i e; exact .inr e
  · cases h
theorem glB_ok {sc : Scope} {x : Str} (h : glB sc x = true) : sc.names.lookup x = some .globalImplicit := by
  unfold glB at h
  split at h
  · assumption
  · cases h
theorem relS_loc {scope sc : Scope} {x : Str} (h : scope.names.lookup x = some .local) : (relS scope sc).names.lookup x = some .local := by
  show (scope.names.map fun (n, k) => if (k == .free && sc.kind == .function && sc.names.lookup n == some .cell) then (n, NameKind.cell) else (n, k)).lookup x = _
  revert h
  induction scope.names with
  | nil => intro h; cases h
  | cons p l ih =>
    intro h
    obtain ⟨n, k⟩ := p
    rw [List.map_cons]
    by_cases hx : x = n
    · subst hx
      rw [List.lookup_cons_self] at h
      cases h
      exact List.lookup_cons_self
    · have hb : (x == n) = false := by simpa using hx
      rw [List.lookup_cons, hb] at h
      have z := ih h
      dsimp only
      split
      · rw [List.lookup_cons, hb]; exact z
      · rw [List.lookup_cons, hb]; exact z
/-- what is known of a context -/
structure Ct (X : Cx) (Gs : List Addr) (Ls : LsS) (W : WX) (k : Nat) (P : Program) (w : World) (K : PySem.W.Frag) (mg : Str → Option Value) (base : Heap) (N : List Str) (sc osc : Scope) (b0 b1 : Bool) : Prop where
  eP : X.prog = P
  eW : X.w = w
  eK : X.K = K
  eM : X.mg = mg
  eB : X.base = base
  eN : X.N = N
  eS : X.env.scope = sc
  fn : ∀ x, locB osc x = true → X.fn x = true ∨ sc.names.lookup x = some .local
  kx : Kx X (tbs Gs Ls) W k
  c0 : b0 = true → Code0 X Gs Ls
  c1 : b1 = true → Code1 X Gs Ls
section
variable {X : Cx} {Gs : List Addr} {Ls : LsS} {W : WX} {k : Nat} {P : Program} {w : World} {K : PySem.W.Frag} {mg : Str → Option Value} {base : Heap} {N : List Str} {sc osc : Scope} {b0 b1 : Bool} {p pos : Pos}
theorem Ct.var (c : Ct X Gs Ls W k P w K mg base N sc osc b0 b1) {i : Nat} {x : Str} (hi : N[i]? = some x) (hv : visB sc x = true) (hd : (x == ("__debug__" : Str)) = false := by decide) (hcd : (x == ("__classdict__" : Str)) = false := by decide) : EM X (tbs Gs Ls) W (.Name x p) (mGet i) :=
  em_var (by rw [c.eN]; exact hi) (by rw [c.eS]; exact visB_ok hv) hd hcd
theorem Ct.nvar (c : Ct X Gs Ls W k P w K mg base N sc osc b0 b1) {i : Nat} {x : Str} (hi : N[i]? = some x) (hv : visB sc x = true) (hd : (x == ("__debug__" : Str)) = false := by decide) (hcd : (x == ("__classdict__" : Str)) = false := by decide) : NM X (tbs Gs Ls) W (.Name x p) (mPeek i) :=
  nm_var (by rw [c.eN]; exact hi) (by rw [c.eS]; exact visB_ok hv) hd hcd
theorem Ct.pl (c : Ct X Gs Ls W k P w K mg base N sc osc b0 b1) {i : Nat} {x : Str} (hi : N[i]? = some x) (hv : visB sc x = true) (hd : (x == ("__debug__" : Str)) = false := by decide) (hcd : (x == ("__classdict__" : Str)) = false := by decide) : PLM X (tbs Gs Ls) W (.Name x p) (mPl i) :=
  pl_var (by rw [c.eN]; exact hi) (by rw [c.eS]; exact visB_ok hv) hd hcd
theorem Ct.gm (c : Ct X Gs Ls W k P w K mg base N sc osc b0 b1) {I : List Nat} {i : Nat} {x : Str} (hn : N.Nodup) (hi : N[i]? = some x) (hl : locB sc x = true) (hl2 : locB osc x = true) (hI : i ∈ I := by decide) : GM X (tbs Gs Ls) I (.Name x p) (gSet i) :=
  gm_name (by rw [c.eN]; exact hn) (by rw [c.eN]; exact hi) (by rw [c.eS]; exact locB_ok hl) hI (by rw [c.eS]; exact c.fn x hl2)
theorem Ct.set (c : Ct X Gs Ls W k P w K mg base N sc osc b0 b1) {i : Nat} {x : Str} {e : Expr} {m : M EV} {pos' : Pos} (hn : N.Nodup) (hi : N[i]? = some x) (hl : locB sc x = true) (he : EM X (tbs Gs Ls) W e m) (hl2 : locB osc x = true)
    (hs : swapsWith e (some (.Name x pos')) pos.line X.env = pure false := by rfl) : SM X (tbs Gs Ls) W (.Assign [.Name x pos'] e pos) (sSet i m) :=
  sm_set (by rw [c.eN]; exact hn) (by rw [c.eN]; exact hi) (by rw [c.eS]; exact locB_ok hl) he hs (by rw [c.eS]; exact c.fn x hl2)
theorem Ct.setO (c : Ct X Gs Ls W k P w K mg base N sc osc b0 b1) {i : Nat} {x : Str} {e : Expr} {m : M EObj} {pos' : Pos} (hn : N.Nodup) (hi : N[i]? = some x) (hl : locB sc x = true) (he : OM X (tbs Gs Ls) W e m) (hl2 : locB osc x = true)
    (hs : swapsWith e (some (.Name x pos')) pos.line X.env = pure false := by rfl) : SM X (tbs Gs Ls) W (.Assign [.Name x pos'] e pos) (sSetO i m) :=
  sm_setO (by rw [c.eN]; exact hn) (by rw [c.eN]; exact hi) (by rw [c.eS]; exact locB_ok hl) he hs (by rw [c.eS]; exact c.fn x hl2)
theorem Ct.gl (c : Ct X Gs Ls W k P w K mg base N sc osc b0 b1) {x : Str} (h : glB sc x = true) : Gl X x := by
  have e := glB_ok h
  rw [← c.eS] at e
  exact e
theorem Ct.hu (c : Ct X Gs Ls W k P w K mg base N sc osc b0 b1) : X.A.units + 64 < cLine := c.kx.room.units
theorem Ct.hu65 (c : Ct X Gs Ls W k P w K mg base N sc osc b0 b1) : X.A.units + 65 < cLine := by have := c.kx.room.un; omega
theorem Ct.hu66 (c : Ct X Gs Ls W k P w K mg base N sc osc b0 b1) : X.A.units + 66 < cLine := by have := c.kx.room.un; omega
theorem Ct.bt (c : Ct X Gs Ls W k P w K mg base N sc osc b0 b1) (B : Bt mg) : Bt X.mg := by rw [c.eM]; exact B
theorem Ct.exc (c : Ct X Gs Ls W k P w K mg base N sc osc b0 b1) {x : Str} (E : ExcC K mg x) : ExcC X.K X.mg x := by rw [c.eM, c.eK]; exact E
theorem Ct.nd (c : Ct X Gs Ls W k P w K mg base N sc osc b0 b1) (h : N.Nodup) : X.N.Nodup := by rw [c.eN]; exact h
theorem Ct.ok (c : Ct X Gs Ls W k P w K mg base N sc osc b0 b1) {scope : Scope} {own : List (Str × Nat)} (h : blkC N sc scope own = true) : BlkOk X.N X.env.scope scope own := by rw [c.eN, c.eS]; exact blkOk_by h
theorem Ct.fm (c : Ct X Gs Ls W k P w K mg base N sc osc b0 b1) {j n : Nat} {x : Str} {F : Fn} (h : FM P w K mg base (tbs Gs Ls) j x n F) : FM X.prog X.w X.K X.mg X.base (tbs Gs Ls) j x n F := by
  rw [c.eP, c.eW, c.eK, c.eM, c.eB]; exact h
theorem Ct.call (c : Ct X Gs Ls W k P w K mg base N sc osc b0 b1) {j n : Nat} {x : Str} {F : Fn} {e : Expr} {es : List Expr} {ms : M (List EV)} (hF : FM P w K mg base (tbs Gs Ls) j x n F) (hj : j ≤ k) (hg : glB sc x = true) (ha : AM X (tbs Gs Ls) W (e :: es) ms)
    (hdb : (x == ("__debug__" : Str)) = false := by decide) (he : starEach (e :: es) X.env = (false, eval e X.env) :: starEach es X.env := by rfl) (hpl : (backTo pos (starEach es X.env)).any (·.1) = false := by rfl) :
    EM X (tbs Gs Ls) W (.Call (.Name x p) (e :: es) [] pos) (mCall n F ms) :=
  em_call c.kx.tk (c.fm hF) (c.kx.room.mono hj) (c.gl hg) ha hdb he hpl
theorem Ct.call0 (c : Ct X Gs Ls W k P w K mg base N sc osc b0 b1) {j : Nat} {x : Str} {F : Fn} (hF : FM P w K mg base (tbs Gs Ls) j x 0 F) (hj : j ≤ k) (hg : glB sc x = true) (hdb : (x == ("__debug__" : Str)) = false := by decide) :
    EM X (tbs Gs Ls) W (.Call (.Name x p) [] [] pos) (mCall 0 F mNil) :=
  em_call0 c.kx.tk (c.fm hF) (c.kx.room.mono hj) (c.gl hg) hdb
theorem Ct.par2 (ct : Ct X Gs Ls W k P w K mg base N sc osc b0 b1) {i j : Nat} {x y : Str} {a b : Expr} {m : M (List EV)} {px py pt : Pos} {kt k2 : Nat} {pt2 : Pos} (hn : N.Nodup) (hi : N[i]? = some x) (hj : N[j]? = some y) (hij : i ≠ j)
    (hx : sc.names.lookup x = some .local) (hy : sc.names.lookup y = some .local) (ha : AM X (tbs Gs Ls) W [a, b] m)
    (hw : swappedStores [.Tuple [.Name x px, .Name y py] kt pt] (.Tuple [a, b] k2 pt2) X.env = pure (some [x, y]))
    (hs : swapsWithSole [.Tuple [.Name x px, .Name y py] kt pt] (.Tuple [a, b] k2 pt2) pos.line X.env = pure false := by rfl) :
    SM X (tbs Gs Ls) W (.Assign [.Tuple [.Name x px, .Name y py] kt pt] (.Tuple [a, b] k2 pt2) pos) (sPar2 i j m) :=
  sm_par2 ct.kx.calm (ct.nd hn) (by rw [ct.eN]; exact hi) (by rw [ct.eN]; exact hj) hij (by rw [ct.eS]; exact hx) (by rw [ct.eS]; exact hy) ha hw hs
theorem Ct.lb (c : Ct X Gs Ls W k P w K mg base N sc osc b0 b1) {scope : Scope} {vs : List Nat} {tg elt : Expr} {ifs : List Expr} {gm : EV → M Unit} {cc : M Bool} {e : M EV}
    (h : ∀ (Xb : Cx) (Wb : WX), Ct Xb Gs Ls Wb k P w K mg base N (relS scope sc) scope b1 b1 → GM Xb (tbs Gs Ls) vs tg gm ∧ PTs Xb ifs (tMB (scOf Xb (tbs Gs Ls)) Wb cc) ∧ EM Xb (tbs Gs Ls) Wb elt e) (nx : NoExc gm) : LBody X (tbs Gs Ls) Gs Ls k scope vs tg elt ifs gm cc e := by
  refine ⟨fun Xb Wb e1 e2 e3 e4 e5 e6 e7 e8 e9 kx => h Xb Wb ⟨e1.trans c.eP, e2.trans c.eW, e3.trans c.eK, e4.trans c.eM, e5.trans c.eB, e6.trans c.eN, by rw [e7, c.eS], fun x hx => ?_, kx, fun hb => (e9 (c.c1 hb)).c0, fun hb => e9 (c.c1 hb)⟩, nx⟩
  rcases locB_ok hx with z | z
  · exact .inr (relS_loc z)
  · refine .inl ?_
    rw [e8]
    simp [z]
theorem Ct.db (c : Ct X Gs Ls W k P w K mg base N sc osc b0 b1) {scope : Scope} {vs : List Nat} {tg kx vx : Expr} {ifs : List Expr} {gm : EV → M Unit} {cc : M Bool} {ek ev : M EV}
    (h : ∀ (Xb : Cx) (Wb : WX), Ct Xb Gs Ls Wb k P w K mg base N (relS scope sc) scope b1 b1 → GM Xb (tbs Gs Ls) vs tg gm ∧ PTs Xb ifs (tMB (scOf Xb (tbs Gs Ls)) Wb cc) ∧ EM Xb (tbs Gs Ls) Wb kx ek ∧ EM Xb (tbs Gs Ls) Wb vx ev) (nx : NoExc gm) : DBody X (tbs Gs Ls) Gs Ls k scope vs tg kx vx ifs gm cc ek ev := by
  refine ⟨fun Xb Wb e1 e2 e3 e4 e5 e6 e7 e8 e9 kx => h Xb Wb ⟨e1.trans c.eP, e2.trans c.eW, e3.trans c.eK, e4.trans c.eM, e5.trans c.eB, e6.trans c.eN, by rw [e7, c.eS], fun x hx => ?_, kx, fun hb => (e9 (c.c1 hb)).c0, fun hb => e9 (c.c1 hb)⟩, nx⟩
  rcases locB_ok hx with z | z
  · exact .inr (relS_loc z)
  · refine .inl ?_
    rw [e8]
    simp [z]
theorem Ct.gs (c : Ct X Gs Ls W (k + 1) P w K mg base N sc osc true b1) {scope : Scope} {own : List (Str × Nat)} {tg iter elt : Expr} {ifs : List Expr} {nl : List Str} {mi : M (List EV)} {gm : EV → M Unit} {cc : M Bool} {e : M EV}
    (bm : ∃ P0, base.BuiltinsAt mg P0) (hn : N.Nodup) (co : scope.isCoroutine = false) (dot : scope.names.lookup (".0" : Str) = some NameKind.local) (ok : blkC N sc scope own = true) (it : IM X (tbs Gs Ls) W tg iter mi)
    (fold : ∀ v, genFold iter X.env v = pure v) (ns : ∀ cc ∈ nl, ExcC K mg cc)
    (h : ∀ (Xb : Cx) (Wb : WX), Ct Xb Gs Ls Wb k P w K mg base N scope scope b1 false → GM Xb (tbs Gs Ls) (own.map (·.2)) tg gm ∧ PTs Xb ifs (tMB (scOf Xb (tbs Gs Ls)) Wb cc) ∧ EM Xb (tbs Gs Ls) Wb elt e) (nx : NoExc gm) : GSite X Gs Ls W k scope own tg iter elt ifs nl mi gm cc e := by
  refine ⟨c.kx, by rw [c.eB, c.eM]; exact bm, c.c0 rfl, co, dot, c.ok ok, c.nd hn, it, fold, fun x hx => ?_, ⟨fun Xb Wb e1 e2 e3 e4 e5 e6 e7 e8 e9 kx => h Xb Wb ⟨e1.trans c.eP, e2.trans c.eW, e3.trans c.eK, e4.trans c.eM, e5.trans c.eB, e6.trans c.eN, e7, fun x hx => ?_, kx, fun hb => e9 (c.c1 hb), fun hb => by cases hb⟩, nx⟩⟩
  · obtain ⟨C, B, ni, ii, bmB, F, gC, q, kC, sC, tC, em, hm⟩ := (ns x hx).ex
    refine ⟨C, ?_, by rw [c.eK]; exact hm⟩
    show (X.mg x).getD .none = _
    rw [c.eM, gC]
    rfl
  · rcases locB_ok hx with z | z
    · exact .inr z
    · refine .inl ?_
      rw [e8]
      simp [z]
theorem nil_exc {K : PySem.W.Frag} {mg : Str → Option Value} : ∀ cc ∈ ([] : List Str), ExcC K mg cc := fun _ h => absurd h List.not_mem_nil
theorem one_exc {K : PySem.W.Frag} {mg : Str → Option Value} {x : Str} (h : ExcC K mg x) : ∀ cc ∈ [x], ExcC K mg cc := fun cc hc => by
  have : cc = x := by simpa using hc
  rw [this]; exact h
end
/-! ### a def of the text by its place -/
abbrev dDef (x : Str) (st : Stmt) : He.DefD := ⟨(x, none), x, x, defArgs st, defBody st, defScope st, [], []⟩
structure DefK (K : PySem.W.Frag) (x : Str) (st : Stmt) : Prop where
  ex : ∃ (oc : Value) (od : Option Addr) (kV doc pm : Value) (an : Option Addr) (cdv ct : Value) (osl : Array (Option Value)),
    K.lookup (He.ga K x) = some ⟨oc, od, .func (PySem.W.fnOf x x (defArgs st) (defBody st) (defScope st) .none kV doc pm an cdv ct), osl⟩ ∧ PySem.W.codeIn K cdv x = true ∧ cdv = .ref (He.codeOf K (x, none))
  kp : PySem.W.keepIn K (.ref (He.ga K x)) = true
theorem defK_of {fa : List He.Fa} {fn : List He.DefD} {K : PySem.W.Frag} {x : Str} {st : Stmt} (c : He.SaysD fa fn K) (i : Nat) (h : fn[i]? = some (dDef x st)) : DefK K x st := by
  obtain ⟨fd, F⟩ := c.def_ i h
  obtain ⟨oc, od, dV, kV, doc, pm, an, cdv, ct, osl, rfl, lk, hcd, hD, hK⟩ := F.ex
  obtain ⟨cc, ec⟩ := He.codeIn_ref hcd
  have lk' : K.lookup (He.ga K x) = some ⟨oc, od, .func (PySem.W.fnOf x x (defArgs st) (defBody st) (defScope st) dV kV doc pm an cdv ct), osl⟩ := lk
  rcases hD with ⟨_, rfl⟩ | ⟨z, _⟩
  · refine ⟨⟨oc, od, kV, doc, pm, an, cdv, ct, osl, lk', hcd, ?_⟩, F.kp⟩
    have z : He.codeOf K ((x, none) : He.Defn) = cc := He.codeOf_eq (p := ((x, none) : He.Defn)) lk' ec
    rw [z, ec]
  · exact absurd rfl z
/-- a def whose table holds genexps' code -/
structure TabG1 (K : PySem.W.Frag) (base : Heap) (Gs : List Addr) (Ls : LsS) (x : Str) : Prop where
  hd : PySem.W.CodeHd base (He.cT K (x, none)).1 (He.cT K (x, none)).2
  mem : (He.cT K (x, none)).2 ∈ Gs
  ne : ∀ p ∈ Ls.tab, (He.cT K (x, none)).2 ≠ p.1
/-- a def whose table holds lambdas' code -/
structure TabL1 (K : PySem.W.Frag) (mg : Str → Option Value) (base : Heap) (Gs : List Addr) (Ls : LsS) (x : Str) : Prop where
  tb : LamX.TabB base mg (He.cT K (x, none)).1 (He.cT K (x, none)).2
  mem : ((He.cT K (x, none)).2, x ++ ".<locals>." ++ "<lambda>") ∈ Ls.tab
  un : ∀ p ∈ Ls.tab, p.1 = (He.cT K (x, none)).2 → p.2 = x ++ ".<locals>." ++ "<lambda>"
  ne : ∀ Q ∈ Gs, Q ≠ (He.cT K (x, none)).2
section
variable {P : Program} {w : World} {K : PySem.W.Frag} {mg : Str → Option Value} {base : Heap} {Gs : List Addr} {Ls : LsS}
theorem fn_d {x : Str} {st : Stmt} {N ps : List Str} {k : Nat} {m : M Fl} {b : Bool} (D : DefK K x st) (S : FnScope N ps (defScope st)) (hn : ps.length ≤ N.length) (hg : mg x = some (.ref (He.ga K x)))
    (hb : ∀ (kV doc pm : Value) (an : Option Addr) (cdv ct : Value) (us : List Value), us.length = ps.length → bindArgs (PySem.W.fnOf x x (defArgs st) (defBody st) (defScope st) .none kV doc pm an cdv ct) ⟨us, []⟩ = pure (ps.zip us))
    (tG : b = true → TabG1 K base Gs Ls x)
    (hbody : ∀ (X : Cx) (W : WX), Ct X Gs Ls W k P w K mg base N (defScope st) (defScope st) b b → X.stack = X.env :: X.outer → X.env.frame = some X.env.locals → (TabL1 K mg base Gs Ls x → LTab X Gs Ls ∧ X.env.qual = x ++ ".<locals>.") → SMs X (tbs Gs Ls) W (defBody st) m) :
    FM P w K mg base (tbs Gs Ls) (k + 1) x ps.length (runB N.length m) := by
  obtain ⟨oc, od, kV, doc, pm, an, cdv, ct, osl, lk, hcd, ec⟩ := D.ex
  refine ⟨He.ga K x, _, ps, fn_of lk hcd S spM_len fun A outer s H vs Q E hr h => ?_, hg, D.kp, .all (hb kV doc pm an cdv ct)⟩
  have kx : Kx (cxOf (L2.CX P w) P w K mg base N x (defScope st) (He.ga K x) cdv A outer s H E) (tbs Gs Ls) (fun cls d _ H => E cls d H) k := ⟨takes_of rfl rfl rfl rfl, passes_of rfl, rfl, hr⟩
  have c1 : b = true → Code1 (cxOf (L2.CX P w) P w K mg base N x (defScope st) (He.ga K x) cdv A outer s H E) Gs Ls := fun hb => by
    obtain ⟨h1, h2, h3⟩ := tG hb
    exact ⟨_, _, ec, h1, h2, h3⟩
  refine ⟨_, hbody (cxOf (L2.CX P w) P w K mg base N x (defScope st) (He.ga K x) cdv A outer s H E) (fun cls d _ H => E cls d H) ⟨rfl, rfl, rfl, rfl, rfl, rfl, rfl, fun _ _ => .inl rfl, kx, fun hb => (c1 hb).c0, c1⟩ rfl rfl (fun tl => ⟨⟨_, _, tl.tb, ec, tl.mem, tl.un, tl.ne⟩, rfl⟩), body_of (fun _ _ _ _ z => z) hn h⟩
end
end ML
/-! ML26 -/
set_option Elab.async false
set_option linter.all false
set_option autoImplicit false
set_option maxRecDepth 100000
set_option maxHeartbeats 4000000
/-! ML26: what the printed walks want besides -/
namespace ML
open PySem PySem.Spec PyProof.Rows L2
def envS (sc : Scope) : Env := { scope := sc, locals := 0, globals := 0, cells := [], qual := Str.empty, func := none, code := .none, frame := none, builtins := 0 }
theorem sws_scope {env : Env} {sc : Scope} (h : env.scope = sc) {ts : List Expr} {v : Expr} : swappedStores ts v env = swappedStores ts v (envS sc) := by subst h; rfl
theorem swv_scope {env : Env} {sc : Scope} (h : env.scope = sc) {v : Expr} {t : Option Expr} {l : Nat} : swapsWith v t l env = swapsWith v t l (envS sc) := by subst h; rfl
def sPar3O (i j k : Nat) (ma mb : M EV) (mo : M EObj) : M Fl := do
  let v ← ma
  let w ← mb
  let o ← mo
  setSl i (.val v)
  setSl j (.val w)
  setSl k (.own o)
  M.ret .nx
section
variable {X : Cx} {Gs : List Addr} {Ls : LsS} {W : WX} {k : Nat} {P : Program} {w : World} {K : PySem.W.Frag} {mg : Str → Option Value} {base : Heap} {N : List Str} {sc osc : Scope} {b0 b1 : Bool} {p pos : Pos}
theorem am_two {T : TbS} {a b : Expr} {ma mb : M EV} (ha : EM X T W a ma) (hb : EM X T W b mb) : EM X T W a ma ∧ EM X T W b mb := ⟨ha, hb⟩
theorem sm_par3O {T : TbS} {i j l : Nat} {x y z : Str} {a b c : Expr} {ma mb : M EV} {mo : M EObj} {px py pz pt : Pos} {kt k2 : Nat} {pt2 : Pos} (hc : X.calm = true) (hN : X.N.Nodup) (hi : X.N[i]? = some x) (hj : X.N[j]? = some y) (hl : X.N[l]? = some z) (hij : i ≠ j) (hil : i ≠ l) (hjl : j ≠ l)
    (hx : X.env.scope.names.lookup x = some .local) (hy : X.env.scope.names.lookup y = some .local) (hz : X.env.scope.names.lookup z = some .local) (ha : EM X T W a ma) (hb : EM X T W b mb) (ho : OM X T W c mo)
    (hw : swappedStores [.Tuple [.Name x px, .Name y py, .Name z pz] kt pt] (.Tuple [a, b, c] k2 pt2) X.env = pure (some [x, y, z]))
    (h1 : starEach [a, b, c] X.env = (false, eval a X.env) :: starEach [b, c] X.env := by rfl) (h2 : starEach [b, c] X.env = (false, eval b X.env) :: starEach [c] X.env := by rfl) (h3 : starEach [c] X.env = (false, eval c X.env) :: starEach [] X.env := by rfl)
    (hs : swapsWithSole [.Tuple [.Name x px, .Name y py, .Name z pz] kt pt] (.Tuple [a, b, c] k2 pt2) pos.line X.env = pure false := by rfl) :
    SM X T W (.Assign [.Tuple [.Name x px, .Name y py, .Name z pz] kt pt] (.Tuple [a, b, c] k2 pt2) pos) (sPar3O i j l ma mb mo) := by
  refine PS_imp (ps_par3 hc hN hi hj hl hij hil hjl hx hy hz (pa_cons ha (pa_cons hb (pa_cons ho pa_nil h3) h2) h1) hw hs) fun D σ H h => ?_
  obtain ⟨S, G, r, pp⟩ := h
  have p1 : Post ((ma >>= fun v => mb >>= fun w => mo >>= fun o => setSl i (.val v) >>= fun _ => setSl j (.val w) >>= fun _ => setSl l (.own o) >>= fun _ => M.ret Fl.nx) S) (QS (scOf X T) G H D) (QXS (scOf X T) G H W) := by
    exact pp
  refine sM_bind r p1 fun v S1 x1 H1 G1 r1 l1 rp1 p2 => ?_
  refine tM_bind r1 (p2.mono (fun _ _ z => z) fun _ _ => qx_of) fun w S2 x2 H2 G2 r2 l2 rp2 p3 => ?_
  refine tMO_bind r2 p3 fun o S3 x3 H3 G3 r3 l3 f3 p4 => ?_
  refine ⟨x1, x2, x3, rfl, ?_⟩
  have q2 := post_bnd p4
  unfold setSl at q2
  split at q2
  · rename_i hl
    have q3 := post_bnd (m := setSl j (.val w)) q2
    unfold setSl at q3
    split at q3
    · rename_i hl2
      have q4 := post_bnd (m := setSl l (.own o)) q3
      unfold setSl at q4
      split at q4
      · rename_i hl3
        have rv := rp1.mono (l2.trans l3)
        have rw' := rp2.mono l3
        -- the new object stays unknown
        have f1 : FreshAt (scOf X T) ⟨S3.sl.set i (.val v), S3.hp⟩ (σ.set i (some x1)) H3 G3 o x3 := by
          obtain ⟨a, u, e, hu, ho, n1, n2, n3, n4⟩ := f3
          refine ⟨a, u, e, hu, ho, n1, n2, n3, fun ⟨i', o', s1, s2⟩ => ?_⟩
          have s1' : (S3.sl.set i (.val v))[i']? = some (.own o') := s1
          by_cases hq : i = i'
          · subst hq
            rw [List.getElem?_set_self hl] at s1'
            cases s1'
          · rw [List.getElem?_set_ne hq] at s1' s2
            exact n4 ⟨i', o', s1', s2⟩
        have f2 : FreshAt (scOf X T) ⟨(S3.sl.set i (.val v)).set j (.val w), S3.hp⟩ ((σ.set i (some x1)).set j (some x2)) H3 G3 o x3 := by
          obtain ⟨a, u, e, hu, ho, n1, n2, n3, n4⟩ := f1
          refine ⟨a, u, e, hu, ho, n1, n2, n3, fun ⟨i', o', s1, s2⟩ => ?_⟩
          have s1' : ((S3.sl.set i (.val v)).set j (.val w))[i']? = some (.own o') := s1
          by_cases hq : j = i'
          · subst hq
            rw [List.getElem?_set_self hl2] at s1'
            cases s1'
          · rw [List.getElem?_set_ne hq] at s1' s2
            exact n4 ⟨i', o', s1', s2⟩
        have z := q4 _ H3 G3 (((r3.setVal hl rv).setVal hl2 rw').setOwn hl3 f2)
        exact z ((l1.trans l2).trans l3)
      · exact q4.elim
    · exact q3.elim
  · exact q2.elim
theorem Ct.par3 (ct : Ct X Gs Ls W k P w K mg base N sc osc b0 b1) {i j l : Nat} {x y z : Str} {a b c : Expr} {m : M (List EV)} {px py pz pt : Pos} {kt k2 : Nat} {pt2 : Pos} (hn : N.Nodup) (hi : N[i]? = some x) (hj : N[j]? = some y) (hl : N[l]? = some z) (hij : i ≠ j) (hil : i ≠ l) (hjl : j ≠ l)
    (hx : sc.names.lookup x = some .local) (hy : sc.names.lookup y = some .local) (hz : sc.names.lookup z = some .local) (ha : AM X (tbs Gs Ls) W [a, b, c] m)
    (hw : swappedStores [.Tuple [.Name x px, .Name y py, .Name z pz] kt pt] (.Tuple [a, b, c] k2 pt2) X.env = pure (some [x, y, z]))
    (hs : swapsWithSole [.Tuple [.Name x px, .Name y py, .Name z pz] kt pt] (.Tuple [a, b, c] k2 pt2) pos.line X.env = pure false := by rfl) :
    SM X (tbs Gs Ls) W (.Assign [.Tuple [.Name x px, .Name y py, .Name z pz] kt pt] (.Tuple [a, b, c] k2 pt2) pos) (sPar3 i j l m) :=
  sm_par3 ct.kx.calm (ct.nd hn) (by rw [ct.eN]; exact hi) (by rw [ct.eN]; exact hj) (by rw [ct.eN]; exact hl) hij hil hjl (by rw [ct.eS]; exact hx) (by rw [ct.eS]; exact hy) (by rw [ct.eS]; exact hz) ha hw hs
theorem Ct.par3O (ct : Ct X Gs Ls W k P w K mg base N sc osc b0 b1) {i j l : Nat} {x y z : Str} {a b c : Expr} {ma mb : M EV} {mo : M EObj} {px py pz pt : Pos} {kt k2 : Nat} {pt2 : Pos} (hn : N.Nodup) (hi : N[i]? = some x) (hj : N[j]? = some y) (hl : N[l]? = some z) (hij : i ≠ j) (hil : i ≠ l) (hjl : j ≠ l)
    (hx : sc.names.lookup x = some .local) (hy : sc.names.lookup y = some .local) (hz : sc.names.lookup z = some .local) (ha : EM X (tbs Gs Ls) W a ma) (hb : EM X (tbs Gs Ls) W b mb) (ho : OM X (tbs Gs Ls) W c mo)
    (hw : swappedStores [.Tuple [.Name x px, .Name y py, .Name z pz] kt pt] (.Tuple [a, b, c] k2 pt2) X.env = pure (some [x, y, z]))
    (h1 : starEach [a, b, c] X.env = (false, eval a X.env) :: starEach [b, c] X.env := by rfl) (h2 : starEach [b, c] X.env = (false, eval b X.env) :: starEach [c] X.env := by rfl) (h3 : starEach [c] X.env = (false, eval c X.env) :: starEach [] X.env := by rfl)
    (hs : swapsWithSole [.Tuple [.Name x px, .Name y py, .Name z pz] kt pt] (.Tuple [a, b, c] k2 pt2) pos.line X.env = pure false := by rfl) :
    SM X (tbs Gs Ls) W (.Assign [.Tuple [.Name x px, .Name y py, .Name z pz] kt pt] (.Tuple [a, b, c] k2 pt2) pos) (sPar3O i j l ma mb mo) :=
  sm_par3O ct.kx.calm (ct.nd hn) (by rw [ct.eN]; exact hi) (by rw [ct.eN]; exact hj) (by rw [ct.eN]; exact hl) hij hil hjl (by rw [ct.eS]; exact hx) (by rw [ct.eS]; exact hy) (by rw [ct.eS]; exact hz) ha hb ho hw h1 h2 h3 hs
theorem Ct.tr (c : Ct X Gs Ls W k P w K mg base N sc osc b0 b1) {W' : WX} (pn : List (Addr × Obj)) (xe : Value → Shared → Prop) (tk : Takes (X.tr pn xe) W') (pa : PassesOwn (model X.prog X.w) X.A X.env xe) : Ct (X.tr pn xe) Gs Ls W' k P w K mg base N sc osc b1 b1 :=
  ⟨c.eP, c.eW, c.eK, c.eM, c.eB, c.eN, c.eS, c.fn, ⟨tk, pa, c.kx.calm, c.kx.room⟩, fun h => Code1.c0 (X := X.tr pn xe) (c.c1 h), fun h => c.c1 h⟩
theorem lm_ofC {kk j : Nat} {d : LamD} {m : M EV} (hd : Ls.lam j = some d) (ok : LamOk d) (h : ∀ (X : Cx) (W : WX), Ct X Gs Ls W kk P w K mg base [] d.scope d.scope false false → EM X (tbs Gs Ls) W d.body m) : LM P w K mg base (tbs Gs Ls) (kk + 1) j (runE m) :=
  lm_of hd ok fun X W e1 e2 e3 e4 e5 e6 e7 kx => h X W ⟨e1, e2, e3, e4, e5, e6, e7, fun x hx => by
    have mem : ∀ {l : List (Str × NameKind)} {v : NameKind}, l.lookup x = some v → ∃ y ∈ l, y.2 = v := by
      intro l
      induction l with
      | nil => intro v h; cases h
      | cons p l ih =>
        intro v h
        obtain ⟨n, q⟩ := p
        rw [List.lookup_cons] at h
        cases hb : (x == n) with
        | true => rw [hb] at h; cases h; exact ⟨_, List.mem_cons_self, rfl⟩
        | false =>
          rw [hb] at h
          obtain ⟨y, hy, e⟩ := ih h
          exact ⟨y, List.mem_cons_of_mem _ hy, e⟩
    rcases locB_ok hx with z | z
    · obtain ⟨y, hy, e⟩ := mem z
      exact absurd e (ok.own y hy).1
    · obtain ⟨y, hy, e⟩ := mem z
      exact absurd e (ok.own y hy).2.1, kx, fun h => (nomatch h), fun h => (nomatch h)⟩
end
end ML
/-! ML27 -/
set_option Elab.async false
set_option linter.all false
set_option autoImplicit false
set_option maxRecDepth 100000
set_option maxHeartbeats 4000000
/-! ML27: the end of a law: the facts of the top, the law's def called -/
namespace ML
open PySem PySem.Spec PyProof.Rows L2
def DefFd (K : PySem.W.Frag) (x : Str) (st : Stmt) (fd : FuncData) : Prop := ∃ (oc : Value) (od : Option Addr) (kV doc pm : Value) (an : Option Addr) (cdv ct : Value) (osl : Array (Option Value)),
  fd = PySem.W.fnOf x x (defArgs st) (defBody st) (defScope st) .none kV doc pm an cdv ct ∧ K.lookup (He.ga K x) = some ⟨oc, od, .func fd, osl⟩ ∧ PySem.W.codeIn K cdv x = true ∧ cdv = .ref (He.codeOf K (x, none))
theorem DefK.fd {K : PySem.W.Frag} {x : Str} {st : Stmt} (D : DefK K x st) : ∃ fd, DefFd K x st fd := by
  obtain ⟨oc, od, kV, doc, pm, an, cdv, ct, osl, lk, hcd, ec⟩ := D.ex
  exact ⟨_, oc, od, kV, doc, pm, an, cdv, ct, osl, rfl, lk, hcd, ec⟩
section
variable {P : Program} {w : World} {K : PySem.W.Frag} {mg : Str → Option Value} {base : Heap} {Gs : List Addr} {Ls : LsS}
theorem fn_dK {x : Str} {st : Stmt} {N ps : List Str} {k : Nat} {m : M Fl} {b : Bool} {fd : FuncData} (D : DefFd K x st fd) (S : FnScope N ps (defScope st)) (hn : ps.length ≤ N.length)
    (tG : b = true → TabG1 K base Gs Ls x)
    (hbody : ∀ (X : Cx) (W : WX), Ct X Gs Ls W k P w K mg base N (defScope st) (defScope st) b b → X.stack = X.env :: X.outer → X.env.frame = some X.env.locals → (TabL1 K mg base Gs Ls x → LTab X Gs Ls ∧ X.env.qual = x ++ ".<locals>.") → SMs X (tbs Gs Ls) W (defBody st) m) :
    FnOk P w K mg base (L2.CX P w) (k + 1) (He.ga K x) fd ps (spM (mkC K mg (tbs Gs Ls)) ps.length (runB N.length m)) := by
  obtain ⟨oc, od, kV, doc, pm, an, cdv, ct, osl, rfl, lk, hcd, ec⟩ := D
  refine fn_of lk hcd S spM_len fun A outer s H vs Q E hr h => ?_
  have kx : Kx (cxOf (L2.CX P w) P w K mg base N x (defScope st) (He.ga K x) cdv A outer s H E) (tbs Gs Ls) (fun cls d _ H => E cls d H) k := ⟨takes_of rfl rfl rfl rfl, passes_of rfl, rfl, hr⟩
  have c1 : b = true → Code1 (cxOf (L2.CX P w) P w K mg base N x (defScope st) (He.ga K x) cdv A outer s H E) Gs Ls := fun hb => by
    obtain ⟨h1, h2, h3⟩ := tG hb
    exact ⟨_, _, ec, h1, h2, h3⟩
  exact ⟨_, hbody (cxOf (L2.CX P w) P w K mg base N x (defScope st) (He.ga K x) cdv A outer s H E) (fun cls d _ H => E cls d H) ⟨rfl, rfl, rfl, rfl, rfl, rfl, rfl, fun _ _ => .inl rfl, kx, fun hb => (c1 hb).c0, c1⟩ rfl rfl (fun tl => ⟨⟨_, _, tl.tb, ec, tl.mem, tl.un, tl.ne⟩, rfl⟩), body_of (fun _ _ _ _ z => z) hn h⟩
end
/-! ### tables by the defs' names -/
def tbA (K : PySem.W.Frag) (n : Str) : Addr := (He.cT K ((n, none) : He.Defn)).2
def GsOf (K : PySem.W.Frag) (gd : List Str) : List Addr := gd.map (tbA K)
def LsOf (K : PySem.W.Frag) (ld : List Str) (lam : Nat → Option LamD) : LsS := ⟨ld.map fun n => (tbA K n, n ++ ".<locals>." ++ "<lambda>"), lam⟩
def exLaw (gd ld excs : List Str) (K : PySem.W.Frag) : Bool := decide ((gd ++ ld).map (tbA K)).Nodup && excs.all fun x => decide (PySem.W.mroIn K (He.ga K x) (.type "StopIteration") = some false)
section
variable {K : PySem.W.Frag} {mg : Str → Option Value} {base h : Heap} {gd ld excs : List Str} {lam : Nat → Option LamD}
theorem tabG_of (nd : ((gd ++ ld).map (tbA K)).Nodup) (hT : ∀ n ∈ gd ++ ld, LamX.TabB base mg (He.cT K (n, none)).1 (He.cT K (n, none)).2) {n : Str} (hn : n ∈ gd) : TabG1 K base (GsOf K gd) (LsOf K ld lam) n := by
  refine ⟨(hT n (List.mem_append_left _ hn)).code, List.mem_map.mpr ⟨n, hn, rfl⟩, fun p hp e => ?_⟩
  obtain ⟨m, hm, rfl⟩ := List.mem_map.mp hp
  rw [List.map_append, List.nodup_append] at nd
  exact nd.2.2 _ (List.mem_map.mpr ⟨n, hn, rfl⟩) _ (List.mem_map.mpr ⟨m, hm, rfl⟩) e
theorem map_inj_of_nodup {α β : Type} {f : α → β} : ∀ {l : List α}, (l.map f).Nodup → ∀ {a b : α}, a ∈ l → b ∈ l → f a = f b → a = b
  | [], _, _, _, h, _, _ => absurd h List.not_mem_nil
  | x :: l, nd, a, b, ha, hb, e => by
    rw [List.map_cons, List.nodup_cons] at nd
    rcases List.mem_cons.mp ha with ea | ha
    · rcases List.mem_cons.mp hb with eb | hb
      · rw [ea, eb]
      · exact absurd (List.mem_map.mpr ⟨b, hb, by rw [← e, ea]⟩) nd.1
    · rcases List.mem_cons.mp hb with eb | hb
      · exact absurd (List.mem_map.mpr ⟨a, ha, by rw [e, eb]⟩) nd.1
      · exact map_inj_of_nodup nd.2 ha hb e
theorem tabL_of (nd : ((gd ++ ld).map (tbA K)).Nodup) (hT : ∀ n ∈ gd ++ ld, LamX.TabB base mg (He.cT K (n, none)).1 (He.cT K (n, none)).2) {n : Str} (hn : n ∈ ld) : TabL1 K mg base (GsOf K gd) (LsOf K ld lam) n := by
  refine ⟨hT n (List.mem_append_right _ hn), List.mem_map.mpr ⟨n, hn, rfl⟩, fun p hp e => ?_, fun q hq e => ?_⟩
  · obtain ⟨m, hm, rfl⟩ := List.mem_map.mp hp
    have : m = n := map_inj_of_nodup nd (List.mem_append_right _ hm) (List.mem_append_right _ hn) e
    rw [this]
  · obtain ⟨m, hm, rfl⟩ := List.mem_map.mp hq
    rw [List.map_append, List.nodup_append] at nd
    exact nd.2.2 _ (List.mem_map.mpr ⟨m, hm, rfl⟩) _ (List.mem_map.mpr ⟨n, hn, rfl⟩) e
theorem exc_of (X : K.In h) (G : h.Ns mainGlobals mg) {x : Str} (c1 : (He.Fa.glo x).ok K = true) (c2 : (He.Fa.exc x).ok K = true) (c3 : (He.Fa.exm x x true).ok K = true) (c4 : PySem.W.mroIn K (He.ga K x) (.type "StopIteration") = some false) : ExcC K mg x := by
  obtain ⟨h1, h2, h3, h4⟩ := He.exc_ok c2
  exact ⟨_, _, _, _, _, PySem.F.excBase_ValueError, He.glo_ok X G c1, h1, h2, h3, h4, He.exm_ok c3, c4⟩
theorem exLaw_ok (e : exLaw gd ld excs K = true) : ((gd ++ ld).map (tbA K)).Nodup ∧ ∀ x ∈ excs, PySem.W.mroIn K (He.ga K x) (.type "StopIteration") = some false := by
  obtain ⟨e1, e2⟩ := Bool.and_eq_true_iff.mp e
  exact ⟨of_decide_eq_true e1, fun x hx => of_decide_eq_true (List.all_eq_true.mp e2 x hx)⟩
end
/-- the built-in names that no text of ours binds -/
def btNames : List Str := ["len", "range", "int", "list", "tuple", "dict", "sorted", "zip", "enumerate", "abs", "sum", "any", "all", "min", "max", "str", "reversed"]
def faOf (defs excs : List Str) : List He.Fa := btNames.map .free ++ (defs ++ excs).map .glo ++ excs.map .exc ++ excs.map fun x => .exm x x true
section
variable {fn : List He.DefD} {K : PySem.W.Frag} {mg : Str → Option Value} {h : Heap} {defs excs : List Str}
theorem fa_free (c : He.SaysD (faOf defs excs) fn K) {x : Str} (hx : x ∈ btNames) : (He.Fa.free x).ok K = true :=
  c.facts (List.mem_append_left _ (List.mem_append_left _ (List.mem_append_left _ (List.mem_map.mpr ⟨x, hx, rfl⟩))))
theorem fa_glo (c : He.SaysD (faOf defs excs) fn K) {x : Str} (hx : x ∈ defs ++ excs) : (He.Fa.glo x).ok K = true :=
  c.facts (List.mem_append_left _ (List.mem_append_left _ (List.mem_append_right _ (List.mem_map.mpr ⟨x, hx, rfl⟩))))
theorem fa_exc (c : He.SaysD (faOf defs excs) fn K) {x : Str} (hx : x ∈ excs) : (He.Fa.exc x).ok K = true :=
  c.facts (List.mem_append_left _ (List.mem_append_right _ (List.mem_map.mpr ⟨x, hx, rfl⟩)))
theorem fa_exm (c : He.SaysD (faOf defs excs) fn K) {x : Str} (hx : x ∈ excs) : (He.Fa.exm x x true).ok K = true :=
  c.facts (List.mem_append_right _ (List.mem_map.mpr ⟨x, hx, rfl⟩))
theorem bt_of (X : K.In h) (G : h.Ns mainGlobals mg) (c : He.SaysD (faOf defs excs) fn K) : Bt mg := by
  have f : ∀ x, x ∈ btNames → mg x = none := fun x hx => He.free_ok X G (fa_free c hx)
  exact ⟨f _ (by decide), f _ (by decide), f _ (by decide), f _ (by decide), f _ (by decide), f _ (by decide), f _ (by decide), f _ (by decide), f _ (by decide), f _ (by decide), f _ (by decide), f _ (by decide), f _ (by decide), f _ (by decide), f _ (by decide), f _ (by decide), f _ (by decide)⟩
end
/-! ### the law's def, called with the script -/
theorem law_sp {K : PySem.W.Frag} {mg : Str → Option Value} {gd ld : List Str} {lam : Nat → Option LamD} {F : Fn} {H : Hp} {a : Addr} {ns : List Int} (hT : ∀ n ∈ gd ++ ld, H (tbA K n) = some (.tbl #[])) (hS : SqL K H a (ns.map V.int))
    (pl : ∃ hh, F [.scr false (ns.map EV.int)] [] = .ok (.bl true) hh) : spM (mkC K mg (tbs (GsOf K gd) (LsOf K ld lam))) 1 F [.ref a] H (fun v _ => v = .bl true) fun _ _ _ => False := by
  obtain ⟨hh, e⟩ := pl
  refine ⟨[.scr false (ns.map EV.int)], [], ⟨[], fun b => b = a ∧ ∃ u, H b = some u, fun _ => False⟩, ⟨rfl, List.nodup_nil, fun b hb => absurd hb List.not_mem_nil, fun _ _ z => z, fun b z => z.elim (fun z => z.2) fun z => z.elim, fun n o z => by simp at z, ?_, fun b z => z.elim⟩, ?_, rfl, ?_⟩
  · refine ⟨fun P hP => ?_, fun p hp => ?_⟩
    · obtain ⟨n, hn, rfl⟩ := List.mem_map.mp hP
      exact ⟨#[], hT n (List.mem_append_left _ hn), True.intro, fun pos cv z => by cases z⟩
    · obtain ⟨n, hn, rfl⟩ := List.mem_map.mp hp
      exact ⟨#[], hT n (List.mem_append_right _ hn), True.intro, fun pos cv z => by cases z⟩
  · refine Reps.one (rep_scr.mpr ⟨a, ns.map V.int, rfl, ?_, ?_⟩)
    · rcases hS with z | z
      · refine .inl ⟨⟨rfl, ?_⟩, z⟩
        rcases z with z | ⟨o, z⟩
        · exact ⟨_, z⟩
        · exact ⟨_, z⟩
      · exact .inr z
    · have : ∀ l : List Int, Reps (mkC K mg (tbs (GsOf K gd) (LsOf K ld lam))) ⟨[], fun b => b = a ∧ ∃ u, H b = some u, fun _ => False⟩ H (l.map EV.int) (l.map V.int) := fun l => by
        induction l with
        | nil => exact reps_nil.mpr rfl
        | cons i l ih => exact reps_cons.mpr ⟨_, _, rfl, rep_int.mpr rfl, ih⟩
      exact this ns
  · rw [e]
    exact fun x H' G' _ _ rp => rep_bl.mp rp
end ML
/-! ML28 -/
set_option Elab.async false
set_option linter.all false
set_option autoImplicit false
set_option maxRecDepth 100000
set_option maxHeartbeats 4000000
/-! ML28: what a mirror gives: rules of evaluation -/
namespace ML
open PySem PySem.Spec PyProof.Rows L2
def Ev {α : Type} (m : M α) (S : ES) (a : α) (S' : ES) : Prop := m S = .ok a S'
theorem ev_bnd {α β : Type} {m : M α} {f : α → M β} {S S1 S2 : ES} {a : α} {b : β} (h1 : Ev m S a S1) (h2 : Ev (f a) S1 b S2) : Ev (m >>= f) S b S2 := by
  show M.bnd m f S = _
  unfold M.bnd
  rw [show m S = .ok a S1 from h1]
  exact h2
theorem ev_ret {α : Type} {a : α} {S : ES} : Ev (M.ret a) S a S := rfl
theorem ev_c {v : EV} {S : ES} : Ev (mC v) S v S := rfl
theorem ev_get {i : Nat} {S : ES} {v : EV} (h : S.sl[i]? = some (.val v)) : Ev (mGet i) S v S := by unfold Ev mGet; rw [h]
theorem ev_peek {i : Nat} {S : ES} {v : EV} (h : S.sl[i]? = some (.val v)) : Ev (mPeek i) S v S := by unfold Ev mPeek; rw [h]
theorem ev_peekO {i : Nat} {S : ES} {o : EObj} {v : EV} (h : S.sl[i]? = some (.own o)) (hv : frzO o = some v) : Ev (mPeek i) S v S := by unfold Ev mPeek; rw [h]; simp only [hv]
theorem ev_un {f : EV → M EV} {m : M EV} {S S1 S2 : ES} {v z : EV} (h1 : Ev m S v S1) (h2 : Ev (f v) S1 z S2) : Ev (mUn f m) S z S2 := ev_bnd h1 h2
theorem ev_bin {f : EV → EV → M EV} {m n : M EV} {S S1 S2 S3 : ES} {v w z : EV} (h1 : Ev m S v S1) (h2 : Ev n S1 w S2) (h3 : Ev (f v w) S2 z S3) : Ev (mBin f m n) S z S3 := ev_bnd h1 (ev_bnd h2 h3)
theorem ev_nil {S : ES} : Ev mNil S [] S := rfl
theorem ev_cons {m : M EV} {ms : M (List EV)} {S S1 S2 : ES} {v : EV} {l : List EV} (h1 : Ev m S v S1) (h2 : Ev ms S1 l S2) : Ev (mCons m ms) S (v :: l) S2 := ev_bnd h1 (ev_bnd h2 ev_ret)
theorem ev_tup {ms : M (List EV)} {S S1 : ES} {l : List EV} (h : Ev ms S l S1) (hz : l.length ≤ sizeLine) : Ev (mTup ms) S (.tup l) S1 := ev_bnd h (by rw [if_pos hz]; exact ev_ret)
theorem ev_lst {ms : M (List EV)} {S S1 : ES} {l : List EV} (h : Ev ms S l S1) (hz : l.length ≤ sizeLine) : Ev (mLst ms) S (.lst l) S1 := ev_bnd h (by rw [if_pos hz]; exact ev_ret)
theorem ev_frz {m : M EObj} {S S1 : ES} {o : EObj} {v : EV} (h : Ev m S o S1) (hv : frzO o = some v) : Ev (mFrz m) S v S1 := ev_bnd h (by unfold Ev ofO; rw [hv])
theorem ev_new {m : M EObj} {S S1 : ES} {o : EObj} (h : Ev m S o S1) : Ev (mNew m) S (.ref S1.hp.length) ⟨S1.sl, S1.hp ++ [o]⟩ := ev_bnd h rfl
theorem ev_obj {m : M EV} {f : EV → M EObj} {S S1 S2 : ES} {v : EV} {o : EObj} (h1 : Ev m S v S1) (h2 : Ev (f v) S1 o S2) : Ev (m >>= f) S o S2 := ev_bnd h1 h2
theorem ev_args {f : List EV → M EV} {ms : M (List EV)} {S S1 S2 : ES} {l : List EV} {z : EV} (h1 : Ev ms S l S1) (h2 : Ev (f l) S1 z S2) : Ev (mArgs f ms) S z S2 := ev_bnd h1 h2
theorem ev_ifT {α : Type} {c : M Bool} {m n : M α} {S S1 S2 : ES} {b : Bool} {a : α} (hc : Ev c S b S1) (hb : b = true) (h : Ev m S1 a S2) : Ev (mIf c m n) S a S2 := ev_bnd hc (by rw [if_pos hb]; exact h)
theorem ev_ifF {α : Type} {c : M Bool} {m n : M α} {S S1 S2 : ES} {b : Bool} {a : α} (hc : Ev c S b S1) (hb : b = false) (h : Ev n S1 a S2) : Ev (mIf c m n) S a S2 := ev_bnd hc (by rw [if_neg (by rw [hb]; decide)]; exact h)
theorem ev_ifI {c : M Bool} {m n : M EV} {S S1 S2 : ES} {b : Bool} {x y : Int} (hc : Ev c S b S1) (h1 : b = true → Ev m S1 (.int x) S2) (h2 : b = false → Ev n S1 (.int y) S2) : Ev (mIf c m n) S (.int (if b then x else y)) S2 := by
  refine ev_bnd hc ?_
  cases b with
  | true => exact h1 rfl
  | false => exact h2 rfl
theorem ev_mB {m : M EV} {S S1 : ES} {b : Bool} (h : Ev m S (.bl b) S1) : Ev (mB m) S b S1 := ev_bnd h rfl
theorem ev_tru {m : M EV} {S S1 : ES} {v : EV} {b : Bool} (h : Ev m S v S1) (hb : eTru v S1 = .ok b S1) : Ev (mTru m) S b S1 := ev_bnd h hb
theorem ev_not {m : M Bool} {S S1 : ES} {b : Bool} (h : Ev m S b S1) : Ev (mNot m) S (!b) S1 := ev_bnd h rfl
theorem ev_or {m n : M Bool} {S S1 : ES} {a b : Bool} (h1 : Ev m S a S1) (h2 : a = false → Ev n S1 b S1) : Ev (mOrB m n) S (a || b) S1 := by
  refine ev_bnd h1 ?_
  cases a with
  | true => exact ev_ret
  | false => exact h2 rfl
theorem ev_and {m n : M Bool} {S S1 : ES} {a b : Bool} (h1 : Ev m S a S1) (h2 : a = true → Ev n S1 b S1) : Ev (mAndB m n) S (a && b) S1 := by
  refine ev_bnd h1 ?_
  cases a with
  | true => exact h2 rfl
  | false => exact ev_ret
theorem ev_orF {m n : M Bool} {S S1 S2 : ES} {b : Bool} (h1 : Ev m S false S1) (h2 : Ev n S1 b S2) : Ev (mOrB m n) S b S2 := ev_bnd h1 h2
theorem ev_chainI {f g : Int → Int → Bool} {ma mb mc : M EV} {S : ES} {i j k : Int} (h1 : Ev ma S (.int i) S) (h2 : Ev mb S (.int j) S) (h3 : Ev mc S (.int k) S) : Ev (mChain (eCmp f) (eCmp g) ma mb mc) S (.bl (f i j && g j k)) S := by
  have e1 : Ev (eCmp f (.int i) (.int j)) S (.bl (f i j)) S := rfl
  have e2 : Ev (toB (.bl (f i j))) S (f i j) S := rfl
  refine ev_bnd h1 (ev_bnd h2 (ev_bnd e1 (ev_bnd e2 ?_)))
  cases f i j with
  | true =>
    have e3 : Ev (eCmp g (.int j) (.int k)) S (.bl (g j k)) S := rfl
    exact ev_bnd h3 e3
  | false => exact ev_ret
theorem ev_cmp {f : Int → Int → Bool} {i j : Int} {S : ES} : Ev (eCmp f (.int i) (.int j)) S (.bl (f i j)) S := rfl
theorem ev_neg {i : Int} {S : ES} : Ev (eNeg (.int i)) S (.int (-i)) S := rfl
theorem ev_addI {i j : Int} {S : ES} : Ev (eAdd2 (.int i) (.int j)) S (.int (i + j)) S := rfl
theorem ev_subI {i j : Int} {S : ES} : Ev (eSub (.int i) (.int j)) S (.int (i - j)) S := rfl
theorem ev_mulI {i j : Int} {S : ES} (h : mulOk i j = true) : Ev (eMul2 (.int i) (.int j)) S (.int (i * j)) S := by unfold Ev eMul2; simp only [h, if_true]; rfl
theorem ev_divI {i j : Int} {S : ES} (h : divOk j = true) : Ev (eDiv (.int i) (.int j)) S (.int (i.fdiv j)) S := by unfold Ev eDiv; simp only [h, if_true]; rfl
theorem ev_modI {i j : Int} {S : ES} (h : j ≠ 0) : Ev (eMod (.int i) (.int j)) S (.int (i.fmod j)) S := by unfold Ev eMod; simp only [h, if_false]; rfl
theorem ev_addL {l m : List EV} {S : ES} (h : l.length + m.length ≤ sizeLine) : Ev (eAdd2 (.lst l) (.lst m)) S (.lst (l ++ m)) S := by unfold Ev eAdd2; simp only [h, if_true]; rfl
theorem ev_addS {x y : Str} {S : ES} (h : x.length + y.length ≤ sizeLine) : Ev (eAdd2 (.str x) (.str y)) S (.str (x ++ y)) S := by unfold Ev eAdd2; simp only [h, if_true]; rfl
theorem ev_intI {i : Int} {S : ES} : Ev (eInt (.int i)) S (.int i) S := rfl
theorem ev_intB {b : Bool} {S : ES} : Ev (eInt (.bl b)) S (.int (if b then 1 else 0)) S := rfl
theorem ev_absI {i : Int} {S : ES} : Ev (eAbs (.int i)) S (.int (if i < 0 then -i else i)) S := rfl
theorem ev_strI {i : Int} {S : ES} (h : i.natAbs.log2 < 1920) : Ev (eStr (.int i)) S (.str (toString i)) S := by unfold Ev eStr; simp only [h, if_true]; rfl
theorem ev_min2 {i j : Int} {S : ES} : Ev (eMin2 [.int i, .int j]) S (.int (if j < i then j else i)) S := rfl
theorem ev_max2 {i j : Int} {S : ES} : Ev (eMax2 [.int i, .int j]) S (.int (if j > i then j else i)) S := rfl
theorem ev_lenL {l : List EV} {S : ES} : Ev (eLen2 (.lst l)) S (.int l.length) S := rfl
theorem ev_lenT {l : List EV} {S : ES} : Ev (eLen2 (.tup l)) S (.int l.length) S := rfl
theorem ev_lenD {t : Bool} {ks vs : List EV} {S : ES} : Ev (eLen2 (.dic t ks vs)) S (.int ks.length) S := rfl
theorem ev_lenS {x : Str} {S : ES} (h : x.length ≤ sizeLine) : Ev (eLen2 (.str x)) S (.int x.length) S := by unfold Ev eLen2; simp only [h, if_true]
theorem ev_tupleL {l : List EV} {S : ES} : Ev (eTuple (.lst l)) S (.tup l) S := rfl
theorem ev_tupleT {l : List EV} {S : ES} : Ev (eTuple (.tup l)) S (.tup l) S := rfl
theorem ev_listT {l : List EV} {S : ES} : Ev (eList (.tup l)) S (.lst l) S := rfl
theorem ev_listL {l : List EV} {S : ES} : Ev (eList (.lst l)) S (.lst l) S := rfl
theorem ev_eq {v w : EV} {S : ES} {a b : EV} (ha : dat S v = a) (hb : dat S w = b) (h1 : cmpOk a = true) (h2 : cmpOk b = true) : Ev (eEq v w) S (.bl (eqq a b)) S := by unfold Ev eEq; rw [ha, hb]; simp only [h1, h2, Bool.and_self, if_true]
theorem ev_ne {v w : EV} {S : ES} {a b : EV} (ha : dat S v = a) (hb : dat S w = b) (h1 : cmpOk a = true) (h2 : cmpOk b = true) : Ev (eNe v w) S (.bl (!eqq a b)) S := by unfold Ev eNe; rw [ha, hb]; simp only [h1, h2, Bool.and_self, if_true]
mutual
theorem eqq_refl : ∀ (v : EV), dataOk v = true → eqq v v = true
  | .non, _ => rfl
  | .bl b, _ => by unfold eqq; simp
  | .int i, _ => by unfold eqq; simp
  | .str x, _ => by unfold eqq; simp
  | .tup l, h => by unfold eqq; exact eqqs_refl l (by unfold dataOk at h; exact h)
  | .lst l, h => by unfold eqq; exact eqqs_refl l (by unfold dataOk at h; exact h)
  | .dic _ _ _, h => by cases h
  | .ref _, h => by cases h
  | .lam _ _, h => by cases h
  | .scr _ _, h => by cases h
theorem eqqs_refl : ∀ (l : List EV), datasOk l = true → eqqs l l = true
  | [], _ => rfl
  | e :: l, h => by
    unfold datasOk at h
    simp only [Bool.and_eq_true] at h
    unfold eqqs
    rw [eqq_refl e h.1, eqqs_refl l h.2]
    rfl
end
theorem ev_eqT {v : EV} {S : ES} (hd : dat S v = v) (h : cmpOk v = true) : Ev (eEq v v) S (.bl true) S := by
  have z := ev_eq hd hd h h
  have : dataOk v = true := by unfold cmpOk at h; simp only [Bool.and_eq_true] at h; exact h.1
  rw [eqq_refl v this] at z
  exact z
theorem ev_neF {v : EV} {S : ES} (hd : dat S v = v) (h : cmpOk v = true) : Ev (eNe v v) S (.bl false) S := by
  have z := ev_ne hd hd h h
  have : dataOk v = true := by unfold cmpOk at h; simp only [Bool.and_eq_true] at h; exact h.1
  rw [eqq_refl v this] at z
  exact z
/-! statements -/
theorem ev_nx {S : ES} : Ev sNx S .nx S := rfl
theorem ev_seq {a b : M Fl} {S S1 S2 : ES} {f : Fl} (h1 : Ev a S .nx S1) (h2 : Ev b S1 f S2) : Ev (sSeq a b) S f S2 := ev_bnd h1 h2
theorem ev_seqR {a b : M Fl} {S S1 : ES} {v : EV} (h1 : Ev a S (.ret v) S1) : Ev (sSeq a b) S (.ret v) S1 := ev_bnd h1 ev_ret
theorem ev_sret {m : M EV} {S S1 : ES} {v : EV} (h : Ev m S v S1) : Ev (sRet m) S (.ret v) S1 := ev_bnd h ev_ret
theorem ev_sexpr {m : M EV} {S S1 : ES} {v : EV} (h : Ev m S v S1) : Ev (sExpr m) S .nx S1 := ev_bnd h ev_ret
theorem ev_sl {i : Nat} {s : Slot} {S : ES} (h : i < S.sl.length) : Ev (setSl i s) S () ⟨S.sl.set i s, S.hp⟩ := by unfold Ev setSl; rw [if_pos h]
theorem ev_sset {i : Nat} {m : M EV} {S S1 : ES} {v : EV} {sl : List Slot} (h : Ev m S v S1) (hi : i < S1.sl.length) (e : S1.sl.set i (.val v) = sl) : Ev (sSet i m) S .nx ⟨sl, S1.hp⟩ := ev_bnd h (ev_bnd (ev_sl hi) (by rw [e]; exact ev_ret))
theorem ev_ssetO {i : Nat} {m : M EObj} {S S1 : ES} {v : EObj} {sl : List Slot} (h : Ev m S v S1) (hi : i < S1.sl.length) (e : S1.sl.set i (.own v) = sl) : Ev (sSetO i m) S .nx ⟨sl, S1.hp⟩ := ev_bnd h (ev_bnd (ev_sl hi) (by rw [e]; exact ev_ret))
theorem ev_gset {i : Nat} {v : EV} {S : ES} {sl : List Slot} (hi : i < S.sl.length) (e : S.sl.set i (.val v) = sl) : Ev (gSet i v) S () ⟨sl, S.hp⟩ := by subst e; exact ev_sl hi
theorem ev_gnil {S : ES} : Ev (gNilM []) S () S := rfl
theorem ev_gcons {g : EV → M Unit} {gs : List EV → M Unit} {v : EV} {l : List EV} {S S1 S2 : ES} (h1 : Ev (g v) S () S1) (h2 : Ev (gs l) S1 () S2) : Ev (gConsM g gs (v :: l)) S () S2 := ev_bnd h1 h2
theorem ev_gtup {n : Nat} {gs : List EV → M Unit} {l : List EV} {S S1 : ES} (hl : l.length = n) (h : Ev (gs l) S () S1) : Ev (gTupM n gs (.tup l)) S () S1 := by
  show (if l.length = n then gs l else M.fail) S = _
  rw [if_pos hl]
  exact h
theorem ev_sasg {m : M EV} {g : EV → M Unit} {S S1 S2 : ES} {v : EV} (h1 : Ev m S v S1) (h2 : Ev (g v) S1 () S2) : Ev (sAsg m g) S .nx S2 := ev_bnd h1 (ev_bnd h2 ev_ret)
theorem ev_par2 {i j : Nat} {m : M (List EV)} {S S1 : ES} {v w : EV} {sl : List Slot} (h : Ev m S [v, w] S1) (hi : i < S1.sl.length) (hj : j < S1.sl.length) (e : (S1.sl.set i (.val v)).set j (.val w) = sl) : Ev (sPar2 i j m) S .nx ⟨sl, S1.hp⟩ :=
  ev_bnd h (ev_bnd (ev_sl hi) (ev_bnd (ev_sl (by show j < (S1.sl.set i _).length; rw [List.length_set]; exact hj)) (by subst e; exact ev_ret)))
theorem ev_par3O {i j k : Nat} {ma mb : M EV} {mo : M EObj} {S S1 S2 S3 : ES} {v w : EV} {o : EObj} {sl : List Slot} (h1 : Ev ma S v S1) (h2 : Ev mb S1 w S2) (h3 : Ev mo S2 o S3) (hi : i < S3.sl.length) (hj : j < S3.sl.length) (hk : k < S3.sl.length)
    (e : ((S3.sl.set i (.val v)).set j (.val w)).set k (.own o) = sl) : Ev (sPar3O i j k ma mb mo) S .nx ⟨sl, S3.hp⟩ :=
  ev_bnd h1 (ev_bnd h2 (ev_bnd h3 (ev_bnd (ev_sl hi) (ev_bnd (ev_sl (by show j < (S3.sl.set i _).length; rw [List.length_set]; exact hj)) (ev_bnd (ev_sl (by show k < ((S3.sl.set i _).set j _).length; rw [List.length_set, List.length_set]; exact hk)) (by subst e; exact ev_ret))))))
theorem ev_run {N : Nat} {m : M Fl} {args : List EV} {h h' : List EObj} {v : EV} {S' : ES} (e : Ev m ⟨slots0 N args, h⟩ (.ret v) S') (hh : S'.hp = h') : runB N m args h = .ok v h' := by
  unfold runB
  rw [show m ⟨slots0 N args, h⟩ = .ok (.ret v) S' from e]
  simp only [hh]
theorem ev_runN {N : Nat} {m : M Fl} {args : List EV} {h h' : List EObj} {S' : ES} (e : Ev m ⟨slots0 N args, h⟩ .nx S') (hh : S'.hp = h') : runB N m args h = .ok .non h' := by
  unfold runB
  rw [show m ⟨slots0 N args, h⟩ = .ok .nx S' from e]
  simp only [hh]
theorem ev_call {n : Nat} {F : Fn} {ms : M (List EV)} {S S1 : ES} {l : List EV} {v : EV} {h' : List EObj} (h1 : Ev ms S l S1) (hl : l.length = n) (h2 : F l S1.hp = .ok v h') : Ev (mCall n F ms) S v ⟨S1.sl, h'⟩ := by
  refine ev_bnd h1 ?_
  rw [if_pos hl]
  unfold Ev callF
  rw [h2]
theorem ev_callP {n : Nat} {F : Fn} {ms : M (List EV)} {S S1 : ES} {l : List EV} {v : EV} (h1 : Ev ms S l S1) (hl : l.length = n) (h2 : F l S1.hp = .ok v S1.hp) : Ev (mCall n F ms) S v S1 := ev_call h1 hl h2
/-! walks -/
theorem ev_it {m : M EV} {S S1 : ES} {v : EV} {l : List EV} (h : Ev m S v S1) (e : itL v = some l) : Ev (mIt m) S l S1 := ev_bnd h (by unfold Ev ofO; rw [e])
theorem ev_rng1 {ms : M (List EV)} {S S1 : ES} {j : Int} (h : Ev ms S [.int j] S1) (o : okR j = true) : Ev (mRng1 ms) S (rangeE 0 j.toNat) S1 := ev_bnd h (by simp only [o, if_true]; exact ev_ret)
theorem ev_rng2 {ms : M (List EV)} {S S1 : ES} {i j : Int} (h : Ev ms S [.int i, .int j] S1) (o1 : okR i = true) (o2 : okR j = true) : Ev (mRng2 ms) S (rangeE i (j - i).toNat) S1 := ev_bnd h (by simp only [o1, o2, Bool.and_self, if_true]; exact ev_ret)
theorem ev_zip {ms : M (List EV)} {S S1 : ES} {v w : EV} {l m : List EV} (h : Ev ms S [v, w] S1) (e1 : itL v = some l) (e2 : itL w = some m) : Ev (mZip ms) S (zipE l m) S1 := ev_bnd h (by unfold Ev ofO zipA; simp only [e1, e2, Option.bind_some, Option.map_some])
theorem ev_enum {ms : M (List EV)} {S S1 : ES} {v : EV} {l : List EV} (h : Ev ms S [v] S1) (e1 : itL v = some l) : Ev (mEnum ms) S (enumE 0 l) S1 := ev_bnd h (by unfold Ev ofO enumA; simp only [e1, Option.map_some])
theorem ev_yes {S : ES} : Ev mYes S true S := rfl
theorem ev_wipe {vs : List Nat} {S : ES} : Ev (mWipe vs) S () (S.wp vs) := rfl
theorem zipE_map {α β : Type} (f : α → EV) (g : β → EV) : ∀ (l : List α) (m : List β), zipE (l.map f) (m.map g) = (l.zip m).map fun p => .tup [f p.1, g p.2]
  | [], _ => rfl
  | _ :: _, [] => rfl
  | a :: l, b :: m => by simp only [List.map_cons, zipE, List.zip_cons_cons, zipE_map f g l m]
theorem enumE_map {α : Type} (f : α → EV) : ∀ (l : List α) (n : Nat), enumE n (l.map f) = (l.zipIdx n).map fun p => .tup [.int (p.2 : Int), f p.1]
  | [], _ => rfl
  | a :: l, n => by simp only [List.map_cons, enumE, List.zipIdx_cons, enumE_map f l (n + 1)]
/-! draws whose turns leave the state -/
theorem wipeS_wipeS (sl : List Slot) (vs : List Nat) : wipeS (wipeS sl vs) vs = wipeS sl vs := by
  apply List.ext_getElem?
  intro i
  rw [wipeS_get, wipeS_length, wipeS_get]
  split <;> rfl
theorem wp_wp (S : ES) (vs : List Nat) : (S.wp vs).wp vs = S.wp vs := by unfold ES.wp; simp only [wipeS_wipeS]
theorem back_wipe {sl : List Slot} {vs : List Nat} : backS sl (wipeS sl vs) vs = sl := by
  apply List.ext_getElem?
  intro i
  rw [backS_get, wipeS_length, wipeS_get]
  by_cases h : i ∈ vs ∧ i < sl.length
  · rw [if_pos h, List.getElem?_eq_getElem h.2]
    rfl
  · rw [if_neg h, if_neg h]
/-- one turn: the element x, tested p, giving f; the state is S again when wiped -/
structure Turn1 {γ : Type} (vs : List Nat) (gm : EV → M Unit) (c : M Bool) (e : M γ) (S : ES) (v : EV) (p : Bool) (y : γ) : Prop where
  ex : ∃ S1 S2 S3 : ES, Ev (gm v) (S.wp vs) () S1 ∧ Ev c S1 p S2 ∧ (p = true → Ev e S2 y S3) ∧ (if p then S3 else S2).wp vs = S.wp vs
theorem turn1 {γ : Type} {vs : List Nat} {gm : EV → M Unit} {c : M Bool} {e : M γ} {S S1 : ES} {v : EV} {p : Bool} {y : γ} (h1 : Ev (gm v) (S.wp vs) () S1) (h2 : Ev c S1 p S1) (h3 : p = true → Ev e S1 y S1) (h4 : S1.wp vs = S.wp vs) : Turn1 vs gm c e S v p y :=
  ⟨S1, S1, S1, h1, h2, h3, by cases p <;> exact h4⟩
theorem ev_blk {α : Type} {vs : List Nat} {m : M α} {S : ES} {a : α} (hno : noOwn S.sl vs = true) (h : Ev m S a (S.wp vs)) : Ev (mBlk vs m) S a S := by
  unfold Ev mBlk
  rw [if_pos hno, show m S = .ok a (S.wp vs) from h]
  show Res.ok a { S.wp vs with sl := backS S.sl (wipeS S.sl vs) vs } = _
  rw [back_wipe]
  rfl
theorem ev_ns {α : Type} {nl : List Str} {m : M α} {S S' : ES} {a : α} (h : Ev m S a S') : Ev (mNs nl m) S a S' := by
  unfold Ev mNs
  rw [show m S = .ok a S' from h]
theorem draw_col {α : Type} {vs : List Nat} {gm : EV → M Unit} {c : M Bool} {e : M EV} {S : ES} {g f : α → EV} {p : α → Bool} :
    ∀ (l : List α) (acc : List EV) (S' : ES), S'.wp vs = S.wp vs → acc.length + l.length ≤ sizeLine → (∀ x ∈ l, Turn1 vs gm c e S (g x) (p x) (f x)) →
      Ev (mDraw vs gm c e stCol acc (l.map g)) S' (.inl (acc ++ (l.filter p).map f)) (S.wp vs)
  | [], acc, S', hw, _, _ => by
    refine ev_bnd ev_wipe ?_
    rw [hw, List.filter_nil, List.map_nil, List.append_nil]
    exact ev_ret
  | x :: l, acc, S', hw, hz, ht => by
    obtain ⟨S1, S2, S3, h1, h2, h3, h4⟩ := (ht x List.mem_cons_self).ex
    have ht' : ∀ y ∈ l, Turn1 vs gm c e S (g y) (p y) (f y) := fun y hy => ht y (List.mem_cons_of_mem _ hy)
    rw [List.length_cons] at hz
    refine ev_bnd ev_wipe ?_
    rw [hw]
    refine ev_bnd h1 (ev_bnd h2 ?_)
    cases hp : p x with
    | false =>
      rw [hp] at h4
      rw [List.filter_cons_of_neg (by simp [hp])]
      exact draw_col l acc S2 h4 (by omega) ht'
    | true =>
      rw [hp] at h4
      rw [List.filter_cons_of_pos hp]
      refine ev_bnd (h3 hp) ?_
      have e1 : stCol acc (f x) = some (.inl (acc ++ [f x])) := by unfold stCol; rw [if_pos (by omega)]
      rw [e1]
      have z := draw_col l (acc ++ [f x]) S3 h4 (by rw [List.length_append, List.length_singleton]; omega) ht'
      rw [List.append_assoc] at z
      exact z
theorem ev_lc {α : Type} {vs : List Nat} {mi : M (List EV)} {gm : EV → M Unit} {c : M Bool} {e : M EV} {S : ES} {g f : α → EV} {p : α → Bool} {l : List α} {ll : List EV} (hi : Ev mi S ll S) (hl : ll = l.map g) (hno : noOwn S.sl vs = true) (hz : l.length ≤ sizeLine)
    (ht : ∀ x ∈ l, Turn1 vs gm c e S (g x) (p x) (f x)) : Ev (mLc vs mi gm c e) S (.lst ((l.filter p).map f)) S := by
  subst hl
  refine ev_bnd hi (ev_bnd (ev_ns (ev_blk hno (draw_col l [] S rfl (by simpa using hz) ht))) ?_)
  rw [List.nil_append]
  exact ev_ret
theorem ev_gt {α : Type} {nl : List Str} {vs : List Nat} {mi : M (List EV)} {gm : EV → M Unit} {c : M Bool} {e : M EV} {S : ES} {g f : α → EV} {p : α → Bool} {l : List α} {ll : List EV} (hi : Ev mi S ll S) (hl : ll = l.map g) (hno : noOwn S.sl vs = true) (hz : l.length ≤ sizeLine)
    (ht : ∀ x ∈ l, Turn1 vs gm c e S (g x) (p x) (f x)) : Ev (mGTup nl vs mi gm c e) S (.tup ((l.filter p).map f)) S := by
  subst hl
  refine ev_bnd hi (ev_bnd (ev_ns (ev_blk hno (draw_col l [] S rfl (by simpa using hz) ht))) ?_)
  rw [List.nil_append]
  exact ev_ret
theorem draw_sum {α : Type} {vs : List Nat} {gm : EV → M Unit} {c : M Bool} {e : M EV} {S : ES} {g : α → EV} {f : α → Int} {p : α → Bool} :
    ∀ (l : List α) (acc : Int) (S' : ES), S'.wp vs = S.wp vs → (∀ x ∈ l, Turn1 vs gm c e S (g x) (p x) (.int (f x))) →
      Ev (mDraw vs gm c e stSum acc (l.map g)) S' (.inl (acc + ((l.filter p).map f).sum)) (S.wp vs)
  | [], acc, S', hw, _ => by
    refine ev_bnd ev_wipe ?_
    rw [hw, List.filter_nil, List.map_nil, List.sum_nil, Int.add_zero]
    exact ev_ret
  | x :: l, acc, S', hw, ht => by
    obtain ⟨S1, S2, S3, h1, h2, h3, h4⟩ := (ht x List.mem_cons_self).ex
    have ht' : ∀ y ∈ l, Turn1 vs gm c e S (g y) (p y) (.int (f y)) := fun y hy => ht y (List.mem_cons_of_mem _ hy)
    refine ev_bnd ev_wipe ?_
    rw [hw]
    refine ev_bnd h1 (ev_bnd h2 ?_)
    cases hp : p x with
    | false =>
      rw [hp] at h4
      rw [List.filter_cons_of_neg (by simp [hp])]
      exact draw_sum l acc S2 h4 ht'
    | true =>
      rw [hp] at h4
      rw [List.filter_cons_of_pos hp]
      refine ev_bnd (h3 hp) ?_
      have z := draw_sum l (acc + f x) S3 h4 ht'
      rw [List.map_cons, List.sum_cons, ← Int.add_assoc]
      exact z
theorem ev_gs {α : Type} {nl : List Str} {vs : List Nat} {mi : M (List EV)} {gm : EV → M Unit} {c : M Bool} {e : M EV} {S : ES} {g : α → EV} {f : α → Int} {p : α → Bool} {l : List α} {ll : List EV} (hi : Ev mi S ll S) (hl : ll = l.map g) (hno : noOwn S.sl vs = true)
    (ht : ∀ x ∈ l, Turn1 vs gm c e S (g x) (p x) (.int (f x))) : Ev (mGSum nl vs mi gm c e) S (.int ((l.filter p).map f).sum) S := by
  subst hl
  refine ev_bnd hi (ev_bnd (ev_ns (ev_blk hno (draw_sum l 0 S rfl ht))) ?_)
  rw [Int.zero_add]
  exact ev_ret
theorem draw_any {α : Type} {vs : List Nat} {gm : EV → M Unit} {c : M Bool} {e : M EV} {S : ES} {g : α → EV} :
    ∀ (l : List α) (S' : ES), S'.wp vs = S.wp vs → (∀ x ∈ l, Turn1 vs gm c e S (g x) true (.bl false)) → Ev (mDraw vs gm c e stany () (l.map g)) S' (.inl ()) (S.wp vs)
  | [], S', hw, _ => by
    refine ev_bnd ev_wipe ?_
    rw [hw]
    exact ev_ret
  | x :: l, S', hw, ht => by
    obtain ⟨S1, S2, S3, h1, h2, h3, h4⟩ := (ht x List.mem_cons_self).ex
    have ht' : ∀ y ∈ l, Turn1 vs gm c e S (g y) true (.bl false) := fun y hy => ht y (List.mem_cons_of_mem _ hy)
    refine ev_bnd ev_wipe ?_
    rw [hw]
    exact ev_bnd h1 (ev_bnd h2 (ev_bnd (h3 rfl) (draw_any l S3 h4 ht')))
/-- any of what never is -/
theorem ev_ganyF {α : Type} {nl : List Str} {vs : List Nat} {mi : M (List EV)} {gm : EV → M Unit} {c : M Bool} {e : M EV} {S : ES} {g : α → EV} {l : List α} {ll : List EV} (hi : Ev mi S ll S) (hl : ll = l.map g) (hno : noOwn S.sl vs = true)
    (ht : ∀ x ∈ l, Turn1 vs gm c e S (g x) true (.bl false)) : Ev (mGany nl vs mi gm c e) S (.bl false) S := by
  subst hl
  exact ev_bnd hi (ev_bnd (ev_ns (ev_blk hno (draw_any l S rfl ht))) ev_ret)
/-! dict comprehensions: the keys -/
def addK (ks : List EV) (x : EV) : List EV := if ks.any (fun k => eqq k x) then ks else ks ++ [x]
theorem dLook_some : ∀ {ks vs : List EV} {x : EV}, ks.length = vs.length → (dLook ks vs x).isSome = ks.any fun k => eqq k x
  | [], [], _, _ => rfl
  | k :: ks, v :: vs, x, h => by
    have h' : ks.length = vs.length := by simpa using h
    unfold dLook
    rw [List.any_cons]
    show (if eqq k x = true then some v else dLook ks vs x).isSome = _
    cases hk : eqq k x with
    | true => rfl
    | false => simpa using dLook_some h'
theorem dRepl_len : ∀ {ks vs : List EV} {x y : EV}, ks.length = vs.length → (dRepl ks vs x y).length = vs.length
  | [], [], _, _, _ => rfl
  | k :: ks, v :: vs, x, y, h => by
    have h' : ks.length = vs.length := by simpa using h
    unfold dRepl
    rw [List.length_cons, dRepl_len h', List.length_cons]
theorem dPut_keys {ks vs : List EV} {x y : EV} (h : ks.length = vs.length) : (dPut ks vs x y).1 = addK ks x ∧ (dPut ks vs x y).1.length = (dPut ks vs x y).2.length := by
  unfold dPut addK
  rw [dLook_some h]
  split
  · exact ⟨rfl, by rw [dRepl_len h]; exact h⟩
  · exact ⟨rfl, by simp [h]⟩
def putsE {α : Type} (fk fv : α → EV) (l : List α) (acc : List EV × List EV) : List EV × List EV := l.foldl (fun a x => dPut a.1 a.2 (fk x) (fv x)) acc
theorem puts_keys {α : Type} (fk fv : α → EV) : ∀ (l : List α) (acc : List EV × List EV), acc.1.length = acc.2.length → (putsE fk fv l acc).1 = (l.map fk).foldl addK acc.1 ∧ (putsE fk fv l acc).1.length = (putsE fk fv l acc).2.length
  | [], acc, h => ⟨rfl, h⟩
  | x :: l, acc, h => by
    obtain ⟨h1, h2⟩ := dPut_keys (x := fk x) (y := fv x) h
    obtain ⟨i1, i2⟩ := puts_keys fk fv l _ h2
    refine ⟨?_, i2⟩
    show (putsE fk fv l (dPut acc.1 acc.2 (fk x) (fv x))).1 = _
    rw [i1, List.map_cons, List.foldl_cons, h1]
theorem addK_len (ks : List EV) (x : EV) : (addK ks x).length ≤ ks.length + 1 := by
  unfold addK
  split
  · omega
  · simp
theorem draw_dic {α : Type} {vs : List Nat} {gm : EV → M Unit} {c : M Bool} {ek ev : M EV} {S : ES} {g fk fv : α → EV} :
    ∀ (l : List α) (acc : List EV × List EV) (S' : ES), S'.wp vs = S.wp vs → acc.1.length = acc.2.length → acc.1.length + l.length ≤ sizeLine →
      (∀ x ∈ l, (keyOf (fk x)).isSome = true ∧ ∃ S1, Ev (gm (g x)) (S.wp vs) () S1 ∧ Ev c S1 true S1 ∧ Ev ek S1 (fk x) S1 ∧ Ev ev S1 (fv x) S1 ∧ S1.wp vs = S.wp vs) →
      Ev (mDrawD vs gm c ek ev acc (l.map g)) S' (putsE fk fv l acc) (S.wp vs)
  | [], acc, S', hw, _, _, _ => by
    refine ev_bnd ev_wipe ?_
    rw [hw]
    exact ev_ret
  | x :: l, acc, S', hw, he, hz, ht => by
    obtain ⟨hk, S1, h1, h2, h3, h4, h5⟩ := ht x List.mem_cons_self
    rw [List.length_cons] at hz
    refine ev_bnd ev_wipe ?_
    rw [hw]
    refine ev_bnd h1 (ev_bnd h2 (ev_bnd h3 (ev_bnd h4 ?_)))
    rw [if_pos (by simp only [hk, Bool.true_and, decide_eq_true_eq]; omega)]
    obtain ⟨k1, k2⟩ := dPut_keys (x := fk x) (y := fv x) he
    exact draw_dic l _ S1 h5 k2 (by rw [k1]; have := addK_len acc.1 (fk x); omega) fun y hy => ht y (List.mem_cons_of_mem _ hy)
theorem ev_dc {α : Type} {vs : List Nat} {mi : M (List EV)} {gm : EV → M Unit} {c : M Bool} {ek ev : M EV} {S : ES} {g fk fv : α → EV} {l : List α} {ll : List EV} (hi : Ev mi S ll S) (hl : ll = l.map g) (hno : noOwn S.sl vs = true) (hz : l.length ≤ sizeLine)
    (ht : ∀ x ∈ l, (keyOf (fk x)).isSome = true ∧ ∃ S1, Ev (gm (g x)) (S.wp vs) () S1 ∧ Ev c S1 true S1 ∧ Ev ek S1 (fk x) S1 ∧ Ev ev S1 (fv x) S1 ∧ S1.wp vs = S.wp vs) : Ev (mDc vs mi gm c ek ev) S (.dic false (putsE fk fv l ([], [])).1 (putsE fk fv l ([], [])).2) S := by
  subst hl
  exact ev_bnd hi (ev_bnd (ev_ns (ev_blk hno (draw_dic l ([], []) S rfl rfl (by simpa using hz) ht))) ev_ret)
theorem dictE_puts {α : Type} (fk fv : α → EV) : ∀ (l : List α) (acc : List EV × List EV), (∀ x ∈ l, (keyOf (fk x)).isSome = true) → dictE (l.map fun x => .tup [fk x, fv x]) acc = some (putsE fk fv l acc)
  | [], _, _ => rfl
  | x :: l, acc, h => by
    rw [List.map_cons]
    unfold dictE
    have e : pairE (.tup [fk x, fv x]) = some (fk x, fv x) := rfl
    rw [e]
    simp only [h x List.mem_cons_self, if_true]
    exact dictE_puts fk fv l _ fun y hy => h y (List.mem_cons_of_mem _ hy)
/-! for -/
theorem ev_for0 {mi : M (List EV)} {g : EV → M Unit} {b : M Fl} {S S1 S2 : ES} {l : List EV} {f : Fl} (hi : Ev mi S l S1) (h : Ev (mForL g b l) S1 f S2) : Ev (mFor mi g b) S f S2 := ev_bnd hi h
theorem ev_forNil {g : EV → M Unit} {b : M Fl} {S : ES} : Ev (mForL g b []) S .nx S := rfl
theorem ev_forCons {g : EV → M Unit} {b : M Fl} {S S1 S2 S3 : ES} {v : EV} {l : List EV} {f : Fl} (h1 : Ev (g v) S () S1) (h2 : Ev b S1 .nx S2) (h3 : Ev (mForL g b l) S2 f S3) : Ev (mForL g b (v :: l)) S f S3 := ev_bnd h1 (ev_bnd h2 h3)
theorem ev_forInv {α : Type} {g : EV → M Unit} {b : M Fl} {v : α → EV} (I : List α → ES → Prop) : ∀ (l : List α) (done : List α) (S : ES), I done S → (∀ d x r, done ++ l = d ++ x :: r → ∀ S, I d S → ∃ S1 S2, Ev (g (v x)) S () S1 ∧ Ev b S1 .nx S2 ∧ I (d ++ [x]) S2) →
    ∃ S', Ev (mForL g b (l.map v)) S .nx S' ∧ I (done ++ l) S'
  | [], done, S, h, _ => ⟨S, rfl, by rw [List.append_nil]; exact h⟩
  | x :: l, done, S, h, hs => by
    obtain ⟨S1, S2, h1, h2, h3⟩ := hs done x l rfl S h
    obtain ⟨S', e, hi⟩ := ev_forInv (v := v) I l (done ++ [x]) S2 h3 fun d y r e => hs d y r (by rw [← e, List.append_assoc]; rfl)
    refine ⟨S', ev_forCons h1 h2 e, ?_⟩
    rw [List.append_assoc] at hi
    exact hi
end ML
/-! ML29 -/
set_option Elab.async false
set_option linter.all false
set_option autoImplicit false
set_option maxRecDepth 100000
set_option maxHeartbeats 4000000
/-! ML29: lists of iL, draws of the dice -/
namespace ML
open PySem PySem.Spec PyProof.Rows L2
theorem mulOk_l {i j : Int} (h1 : -18446744073709551616 < i) (h2 : i < 18446744073709551616) : mulOk i j = true := by unfold mulOk; simp [h1, h2]
theorem mulOk_r {i j : Int} (h1 : -18446744073709551616 < j) (h2 : j < 18446744073709551616) : mulOk i j = true := by unfold mulOk; simp [h1, h2]
theorem divOk_of {j : Int} (h1 : 0 < j) (h2 : j < 1073741824) : divOk j = true := by
  unfold divOk
  have : j ≠ 0 := by omega
  have h3 : j.natAbs < 1073741824 := by omega
  simp [this, h3]
theorem okR_of {i : Int} (h1 : -4611686018427387904 ≤ i) (h2 : i < 4611686018427387904) : okR i = true := by rw [okR_iff]; exact ⟨by omega, by omega⟩
theorem sz (n : Nat) (h : n ≤ 16777216) : n ≤ sizeLine := by rw [sizeLine_eq]; exact h
abbrev iL (ns : List Int) : List EV := ns.map EV.int
theorem ints_data (ns : List Int) : datasOk (iL ns) = true ∧ deps (iL ns) = 0 := by
  induction ns with
  | nil => exact ⟨rfl, rfl⟩
  | cons n ns ih =>
    obtain ⟨h1, h2⟩ := ih
    refine ⟨?_, ?_⟩
    · show (dataOk (.int n) && datasOk (iL ns)) = true
      rw [h1]; rfl
    · show max (dep (.int n)) (deps (iL ns)) = 0
      rw [h2]; rfl
theorem cmp_ints (ns : List Int) : cmpOk (.lst (iL ns)) = true := by
  unfold cmpOk
  show (datasOk (iL ns) && decide (deps (iL ns) + 1 ≤ 64)) = true
  rw [(ints_data ns).1, (ints_data ns).2]; rfl
theorem cmp_map {α : Type} {l : List α} {f : α → EV} (h : ∀ x ∈ l, dataOk (f x) = true ∧ dep (f x) ≤ 20) : datasOk (l.map f) = true ∧ deps (l.map f) ≤ 20 := by
  induction l with
  | nil => exact ⟨rfl, Nat.zero_le _⟩
  | cons x l ih =>
    obtain ⟨h1, h2⟩ := ih fun y hy => h y (List.mem_cons_of_mem _ hy)
    obtain ⟨h3, h4⟩ := h x List.mem_cons_self
    refine ⟨?_, ?_⟩
    · show (dataOk (f x) && datasOk (l.map f)) = true
      rw [h1, h3]; rfl
    · show max (dep (f x)) (deps (l.map f)) ≤ 20
      omega
theorem cmp_lst {α : Type} {l : List α} {f : α → EV} (h : ∀ x ∈ l, dataOk (f x) = true ∧ dep (f x) ≤ 20) : cmpOk (.lst (l.map f)) = true := by
  obtain ⟨h1, h2⟩ := cmp_map h
  unfold cmpOk
  show (datasOk _ && decide (deps _ + 1 ≤ 64)) = true
  rw [h1]; simp; omega
theorem cmp_tupL {α : Type} {l : List α} {f : α → EV} (h : ∀ x ∈ l, dataOk (f x) = true ∧ dep (f x) ≤ 20) : cmpOk (.tup (l.map f)) = true := by
  obtain ⟨h1, h2⟩ := cmp_map h
  unfold cmpOk
  show (datasOk _ && decide (deps _ + 1 ≤ 64)) = true
  rw [h1]; simp; omega
/-! min, max -/
def lmin : List Int → Int
  | [] => 0
  | x :: l => l.foldl (fun a y => if y < a then y else a) x
def lmax : List Int → Int
  | [] => 0
  | x :: l => l.foldl (fun a y => if a < y then y else a) x
theorem evLt_int (a b : Int) : evLt (.int a) (.int b) = decide (a < b) := PySem.W.dataLt_int a b
theorem minE_ints : ∀ (l : List Int) (x : Int), minE (.int x) (iL l) = .int (l.foldl (fun a y => if y < a then y else a) x)
  | [], _ => rfl
  | y :: l, x => by
    show minE (if evLt (.int y) (.int x) then EV.int y else .int x) (iL l) = _
    rw [evLt_int, List.foldl_cons]
    by_cases h : y < x
    · rw [if_pos (by simpa using h), if_pos h]; exact minE_ints l y
    · rw [if_neg (by simpa using h), if_neg h]; exact minE_ints l x
theorem maxE_ints : ∀ (l : List Int) (x : Int), maxE (.int x) (iL l) = .int (l.foldl (fun a y => if a < y then y else a) x)
  | [], _ => rfl
  | y :: l, x => by
    show maxE (if evLt (.int x) (.int y) then EV.int y else .int x) (iL l) = _
    rw [evLt_int, List.foldl_cons]
    by_cases h : x < y
    · rw [if_pos (by simpa using h), if_pos h]; exact maxE_ints l y
    · rw [if_neg (by simpa using h), if_neg h]; exact maxE_ints l x
theorem foldMin (l : List Int) : ∀ (x : Int), (l.foldl (fun a y => if y < a then y else a) x ∈ x :: l) ∧ ∀ n ∈ x :: l, l.foldl (fun a y => if y < a then y else a) x ≤ n := by
  induction l with
  | nil => intro x; exact ⟨by simp, fun n hn => by simp at hn; simp [hn]⟩
  | cons y l ih =>
    intro x
    obtain ⟨h1, h2⟩ := ih (if y < x then y else x)
    rw [List.foldl_cons]
    refine ⟨?_, fun n hn => ?_⟩
    · rcases List.mem_cons.mp h1 with h | h
      · rw [h]; split <;> simp
      · exact List.mem_cons_of_mem _ (List.mem_cons_of_mem _ h)
    · have h3 := h2 _ List.mem_cons_self
      have h4 : (if y < x then y else x) ≤ x ∧ (if y < x then y else x) ≤ y := by split <;> omega
      rcases List.mem_cons.mp hn with hx | hn
      · rw [hx]; exact Int.le_trans h3 h4.1
      · rcases List.mem_cons.mp hn with hx | hn
        · rw [hx]; exact Int.le_trans h3 h4.2
        · exact h2 n (List.mem_cons_of_mem _ hn)
theorem foldMax (l : List Int) : ∀ (x : Int), (l.foldl (fun a y => if a < y then y else a) x ∈ x :: l) ∧ ∀ n ∈ x :: l, n ≤ l.foldl (fun a y => if a < y then y else a) x := by
  induction l with
  | nil => intro x; exact ⟨by simp, fun n hn => by simp at hn; simp [hn]⟩
  | cons y l ih =>
    intro x
    obtain ⟨h1, h2⟩ := ih (if x < y then y else x)
    rw [List.foldl_cons]
    refine ⟨?_, fun n hn => ?_⟩
    · rcases List.mem_cons.mp h1 with h | h
      · rw [h]; split <;> simp
      · exact List.mem_cons_of_mem _ (List.mem_cons_of_mem _ h)
    · have h3 := h2 _ List.mem_cons_self
      have h4 : x ≤ (if x < y then y else x) ∧ y ≤ (if x < y then y else x) := by split <;> omega
      rcases List.mem_cons.mp hn with hx | hn
      · rw [hx]; exact Int.le_trans h4.1 h3
      · rcases List.mem_cons.mp hn with hx | hn
        · rw [hx]; exact Int.le_trans h4.2 h3
        · exact h2 n (List.mem_cons_of_mem _ hn)
theorem lmin_mem {ns : List Int} (h : ns ≠ []) : lmin ns ∈ ns := by
  cases ns with
  | nil => exact absurd rfl h
  | cons x l => exact (foldMin l x).1
theorem lmax_mem {ns : List Int} (h : ns ≠ []) : lmax ns ∈ ns := by
  cases ns with
  | nil => exact absurd rfl h
  | cons x l => exact (foldMax l x).1
theorem lmin_le {ns : List Int} {n : Int} (h : n ∈ ns) : lmin ns ≤ n := by
  cases ns with
  | nil => exact absurd h List.not_mem_nil
  | cons x l => exact (foldMin l x).2 n h
theorem le_lmax {ns : List Int} {n : Int} (h : n ∈ ns) : n ≤ lmax ns := by
  cases ns with
  | nil => exact absurd h List.not_mem_nil
  | cons x l => exact (foldMax l x).2 n h
theorem mmOk_ints (ns : List Int) : mmOk (iL ns) = true := by
  unfold mmOk
  rw [(ints_data ns).1, (ints_data ns).2]
  simp only [Bool.true_and, Bool.and_eq_true, List.all_eq_true, decide_eq_true_eq]
  refine ⟨⟨Nat.zero_le _, fun a ha b hb => ?_⟩, fun a ha => ?_⟩
  · obtain ⟨x, _, rfl⟩ := List.mem_map.mp ha
    obtain ⟨y, _, rfl⟩ := List.mem_map.mp hb
    rfl
  · obtain ⟨x, _, rfl⟩ := List.mem_map.mp ha
    rfl
theorem ev_minI {ns : List Int} {S : ES} (h : ns ≠ []) : Ev (eMm minE (.lst (iL ns))) S (.int (lmin ns)) S := by
  cases ns with
  | nil => exact absurd rfl h
  | cons x l =>
    show (if mmOk (iL (x :: l)) then Res.ok (minE (.int x) (iL l)) S else .bad) = _
    rw [if_pos (mmOk_ints _), minE_ints]
    rfl
theorem ev_maxI {ns : List Int} {S : ES} (h : ns ≠ []) : Ev (eMm maxE (.lst (iL ns))) S (.int (lmax ns)) S := by
  cases ns with
  | nil => exact absurd rfl h
  | cons x l =>
    show (if mmOk (iL (x :: l)) then Res.ok (maxE (.int x) (iL l)) S else .bad) = _
    rw [if_pos (mmOk_ints _), maxE_ints]
    rfl
/-! sorted -/
def isort (ns : List Int) : List Int := isortBy (fun a b => decide (a ≤ b)) ns
theorem evLe_int (a b : Int) : evLe false (.int a) (.int b) = decide (a ≤ b) := by
  show PySem.W.dataLe false toPy (.int a) (.int b) = _
  rw [PySem.W.dataLe_eq]
  show (!PySem.W.dataLt (.int b) (.int a)) = _
  rw [PySem.W.dataLt_int]
  by_cases h : a ≤ b
  · simp [h]
  · simp [h]; omega
theorem insBy_ints (a : Int) : ∀ l : List Int, insBy (evLe false) (.int a) (iL l) = iL (insBy (fun a b => decide (a ≤ b)) a l)
  | [] => rfl
  | b :: l => by
    show (if evLe false (.int a) (.int b) then EV.int a :: .int b :: iL l else .int b :: insBy (evLe false) (.int a) (iL l)) = _
    rw [evLe_int, insBy_ints a l]
    show _ = iL (if decide (a ≤ b) = true then a :: b :: l else b :: insBy (fun a b => decide (a ≤ b)) a l)
    split <;> rfl
theorem isortBy_ints : ∀ l : List Int, isortBy (evLe false) (iL l) = iL (isort l)
  | [] => rfl
  | a :: l => by
    show insBy (evLe false) (.int a) (isortBy (evLe false) (iL l)) = _
    rw [isortBy_ints l, insBy_ints]
    rfl
theorem sortOk_ints {ns : List Int} (h : ns.length ≤ 16777216) : sortOk (iL ns) = true := by
  unfold sortOk
  rw [(ints_data ns).1, (ints_data ns).2]
  simp only [Bool.true_and, Bool.and_eq_true, Bool.or_eq_true, List.all_eq_true, decide_eq_true_eq]
  refine ⟨⟨⟨Nat.zero_le _, fun a ha b hb => ?_⟩, .inr fun a ha => ?_⟩, by rw [List.length_map]; exact sz _ h⟩
  · obtain ⟨x, _, rfl⟩ := List.mem_map.mp ha
    obtain ⟨y, _, rfl⟩ := List.mem_map.mp hb
    rfl
  · obtain ⟨x, _, rfl⟩ := List.mem_map.mp ha
    rfl
theorem ev_sorted {v : EV} {l : List EV} {S : ES} (hw : walkL S v = some l) (h : sortOk l = true) : Ev (eSorted false v) S (.lst (isortBy (evLe false) l)) S := by
  unfold Ev eSorted
  rw [hw]
  simp only [h, if_true]
theorem ev_sortedI {ns : List Int} {S : ES} (h : ns.length ≤ 16777216) : Ev (eSorted false (.lst (iL ns))) S (.lst (iL (isort ns))) S := by
  rw [← isortBy_ints]
  exact ev_sorted rfl (sortOk_ints h)
theorem insBy_perm (a : Int) : ∀ l : List Int, (insBy (fun a b => decide (a ≤ b)) a l).Perm (a :: l)
  | [] => List.Perm.refl _
  | b :: l => by
    unfold insBy
    split
    · exact List.Perm.refl _
    · exact ((insBy_perm a l).cons b).trans (List.Perm.swap a b l)
theorem isort_perm : ∀ l : List Int, (isort l).Perm l
  | [] => List.Perm.refl _
  | a :: l => (insBy_perm a (isort l)).trans ((isort_perm l).cons a)
theorem insBy_sorted (a : Int) : ∀ l : List Int, l.Pairwise (· ≤ ·) → (insBy (fun a b => decide (a ≤ b)) a l).Pairwise (· ≤ ·)
  | [], _ => by unfold insBy; simp
  | b :: l, h => by
    unfold insBy
    rw [List.pairwise_cons] at h
    split
    · rename_i hab
      have hab' : a ≤ b := by simpa using hab
      refine List.pairwise_cons.mpr ⟨fun c hc => ?_, List.pairwise_cons.mpr h⟩
      rcases List.mem_cons.mp hc with rfl | hc
      · exact hab'
      · exact Int.le_trans hab' (h.1 c hc)
    · rename_i hab
      have hab' : b ≤ a := by have : ¬ a ≤ b := by simpa using hab
                              omega
      refine List.pairwise_cons.mpr ⟨fun c hc => ?_, insBy_sorted a l h.2⟩
      rcases List.mem_cons.mp ((insBy_perm a l).mem_iff.mp hc) with rfl | hc
      · exact hab'
      · exact h.1 c hc
theorem isort_sorted : ∀ l : List Int, (isort l).Pairwise (· ≤ ·)
  | [] => List.Pairwise.nil
  | a :: l => insBy_sorted a _ (isort_sorted l)
theorem isort_len (l : List Int) : (isort l).length = l.length := (isort_perm l).length_eq
theorem isort_mem {l : List Int} {n : Int} : n ∈ isort l ↔ n ∈ l := (isort_perm l).mem_iff
/-! sums, places -/
theorem ev_sumI {ns : List Int} {S : ES} : Ev (eSum (.lst (iL ns))) S (.int ns.sum) S := by
  have e : intsE (iL ns) = some ns := by
    induction ns with
    | nil => rfl
    | cons n ns ih =>
      show (match intsE (iL ns) with | some r => some (n :: r) | none => none) = _
      rw [ih]
  show (match intsE (iL ns) with | some ns => Res.ok (EV.int ns.sum) S | none => .bad) = _
  rw [e]
theorem intsE_ints (ns : List Int) : intsE (iL ns) = some ns := by
  induction ns with
  | nil => rfl
  | cons n ns ih =>
    show (match intsE (iL ns) with | some r => some (n :: r) | none => none) = _
    rw [ih]
def iget (ns : List Int) (i : Int) : Int := (atI ns i).getD 0
theorem atI_map {α β : Type} (f : α → β) (l : List α) (i : Int) : atI (l.map f) i = (atI l i).map f := by
  unfold atI
  rw [List.length_map]
  cases ixN l.length i with
  | none => rfl
  | some j => simp
theorem atI_some {α : Type} {l : List α} {i : Int} (h1 : -(l.length : Int) ≤ i) (h2 : i < l.length) : ∃ x, atI l i = some x ∧ x ∈ l := by
  unfold atI ixN
  by_cases h : 0 ≤ i
  · rw [if_pos h, if_pos h2]
    have : i.toNat < l.length := by omega
    exact ⟨l[i.toNat], by simp [this], List.getElem_mem this⟩
  · rw [if_neg h, if_pos h1]
    have : (i + l.length).toNat < l.length := by omega
    exact ⟨l[(i + l.length).toNat], by simp [this], List.getElem_mem this⟩
theorem iget_mem {ns : List Int} {i : Int} (h1 : -(ns.length : Int) ≤ i) (h2 : i < ns.length) : iget ns i ∈ ns := by
  obtain ⟨x, e, hx⟩ := atI_some h1 h2
  unfold iget
  rw [e]
  exact hx
theorem ev_ixI {ns : List Int} {i : Int} {S : ES} (h1 : -(ns.length : Int) ≤ i) (h2 : i < ns.length) : Ev (eIx (.lst (iL ns)) (.int i)) S (.int (iget ns i)) S := by
  obtain ⟨x, e, _⟩ := atI_some h1 h2
  have e2 : atI (iL ns) i = some (.int (iget ns i)) := by
    rw [atI_map, e]
    unfold iget
    rw [e]
    rfl
  show (match atI (iL ns) i with | some e => Res.ok e S | none => .bad) = _
  rw [e2]
theorem ev_ixL {l : List EV} {i : Int} {S : ES} {v : EV} (h : atI l i = some v) : Ev (eIx (.lst l) (.int i)) S v S := by
  show (match atI l i with | some e => Res.ok e S | none => .bad) = _
  rw [h]
theorem ev_ixR {n : Nat} {l : List EV} {i : Int} {S : ES} {v : EV} (hn : S.hp[n]? = some (.lst l)) (h : atI l i = some v) : Ev (eIx (.ref n) (.int i)) S v S := by
  have e3 : rdS S (.ref n) = some l := by
    show (match S.hp[n]? with | some (.lst l) => some l | _ => none) = some l
    rw [hn]
  unfold Ev eIx
  simp only [e3, h]
theorem ev_ixS {x : Str} {i : Int} {S : ES} {c : Nat} (hx : x.length ≤ sizeLine) (h : atI x.cps.toList i = some c) : Ev (eIx (.str x) (.int i)) S (.str ⟨#[c]⟩) S := by
  unfold Ev eIx
  simp only [hx, if_true, h]
theorem ev_ixO {i : Nat} {l : List EV} {k : Int} {m : M EV} {S : ES} {v : EV} (hs : S.sl[i]? = some (.own (.lst l))) (hm : Ev m S (.int k) S) (h : atI l k = some v) : Ev (mIxO eIx i m) S v S :=
  ev_bnd (ev_peekO hs rfl) (ev_bnd hm (ev_bnd (ev_peekO hs rfl) (ev_ixL h)))
theorem ev_slL {l : List EV} {lo hi : Option Int} {S : ES} : Ev (eSl (.lst l) lo hi) S (.lst (cutE l lo hi)) S := rfl
theorem ev_slC {l : List EV} {lo hi : Option Int} {S : ES} : Ev (eSl (.scr false l) lo hi) S (.lst (cutE l lo hi)) S := rfl
theorem ev_sl3 {m : M EV} {ml mh : M (Option Int)} {S S1 S2 S3 S4 : ES} {v z : EV} {lo hi : Option Int} (h1 : Ev m S v S1) (h2 : Ev ml S1 lo S2) (h3 : Ev mh S2 hi S3) (h4 : Ev (eSl v lo hi) S3 z S4) : Ev (mSl m ml mh) S z S4 := ev_bnd h1 (ev_bnd h2 (ev_bnd h3 h4))
theorem ev_p0 {S : ES} : Ev mPart0 S none S := rfl
theorem ev_part {m : M EV} {S S1 : ES} {i : Int} (h : Ev m S (.int i) S1) : Ev (mPart m) S (some i) S1 := ev_bnd h ev_ret
theorem cut_from {l : List EV} {k : Nat} : cutE l (some (k : Int)) none = l.drop k := by
  unfold cutE
  show (l.drop (HT.sIx l.length 0 (some (k : Int)))).take (l.length - HT.sIx l.length 0 (some (k : Int))) = _
  rw [HT.sIx_nat]
  rw [List.take_of_length_le (by rw [List.length_drop]; omega)]
  rcases Nat.lt_or_ge k l.length with h | h
  · rw [Nat.min_eq_left (by omega)]
  · rw [Nat.min_eq_right h, List.drop_length, List.drop_of_length_le h]
theorem cut_to {l : List EV} {k : Nat} : cutE l none (some (k : Int)) = l.take k := by
  unfold cutE
  show (l.drop 0).take (HT.sIx l.length l.length (some (k : Int)) - 0) = _
  rw [HT.sIx_nat, List.drop_zero, Nat.sub_zero]
  rcases Nat.lt_or_ge k l.length with h | h
  · rw [Nat.min_eq_left (by omega)]
  · rw [Nat.min_eq_right h, List.take_length, List.take_of_length_le h]
theorem cut_mid {l : List EV} {j k : Nat} (h : k ≤ l.length) : cutE l (some (j : Int)) (some (k : Int)) = (l.drop j).take (k - j) := by
  unfold cutE
  rw [HT.sIx_nat, HT.sIx_nat, Nat.min_eq_left h]
  rcases Nat.lt_or_ge j l.length with h2 | h2
  · rw [Nat.min_eq_left (by omega)]
  · rw [Nat.min_eq_right h2, List.drop_length, List.drop_of_length_le h2]
    simp
/-! stores -/
theorem ev_plR {i n : Nat} {S : ES} (h : S.sl[i]? = some (.val (.ref n))) : Ev (mPl i) S (.ref n) S := by unfold Ev mPl; rw [h]
theorem ev_plO {i : Nat} {o : EObj} {S : ES} (h : S.sl[i]? = some (.own o)) : Ev (mPl i) S (.own i) S := by unfold Ev mPl; rw [h]
theorem ev_putR {n : Nat} {o o' : EObj} {f : EObj → Option EObj} {S : ES} (h : S.hp[n]? = some o) (hf : f o = some o') : Ev (sPut (.ref n) f) S () ⟨S.sl, S.hp.set n o'⟩ := by
  unfold Ev sPut
  have e : getP (.ref n) S = some o := h
  rw [e]
  simp only [hf]
  rfl
theorem ev_putO {i : Nat} {o o' : EObj} {f : EObj → Option EObj} {S : ES} (h : S.sl[i]? = some (.own o)) (hf : f o = some o') : Ev (sPut (.own i) f) S () ⟨S.sl.set i (.own o'), S.hp⟩ := by
  unfold Ev sPut
  have e : getP (.own i) S = some o := by unfold getP; simp only [h]
  rw [e]
  simp only [hf]
  rfl
theorem ev_storeR {i n : Nat} {m mi : M EV} {S : ES} {v k : EV} {o o' : EObj} {hp : List EObj} (h1 : Ev m S v S) (hs : S.sl[i]? = some (.val (.ref n))) (h2 : Ev mi S k S) (ho : S.hp[n]? = some o) (hf : oSet k v o = some o') (e : S.hp.set n o' = hp) : Ev (sStore m (mPl i) mi) S .nx ⟨S.sl, hp⟩ := by
  subst e
  exact ev_bnd h1 (ev_bnd (ev_plR hs) (ev_bnd h2 (ev_bnd (ev_putR ho hf) ev_ret)))
theorem ev_storeO {i : Nat} {m mi : M EV} {S : ES} {v k : EV} {o o' : EObj} {sl : List Slot} (h1 : Ev m S v S) (hs : S.sl[i]? = some (.own o)) (h2 : Ev mi S k S) (hf : oSet k v o = some o') (e : S.sl.set i (.own o') = sl) : Ev (sStore m (mPl i) mi) S .nx ⟨sl, S.hp⟩ := by
  subst e
  exact ev_bnd h1 (ev_bnd (ev_plO hs) (ev_bnd h2 (ev_bnd (ev_putO hs hf) ev_ret)))
theorem ev_app {i : Nat} {m : M EV} {S : ES} {v : EV} {l : List EV} {sl : List Slot} (hs : S.sl[i]? = some (.own (.lst l))) (h1 : Ev m S v S) (hz : l.length < sizeLine) (e : S.sl.set i (.own (.lst (l ++ [v]))) = sl) : Ev (mAppend (mPl i) m) S .non ⟨sl, S.hp⟩ := by
  subst e
  have hk : Ev (chk isL (.own i)) S () S := by
    unfold Ev chk isL
    have e : getP (.own i) S = some (.lst l) := by unfold getP; simp only [hs]
    rw [e]
    rfl
  refine ev_bnd (ev_plO hs) (ev_bnd hk (ev_bnd h1 (ev_bnd (ev_putO hs (f := oApp v) (o' := .lst (l ++ [v])) ?_) ev_ret)))
  show (if l.length < sizeLine then some (EObj.lst (l ++ [v])) else none) = _
  rw [if_pos hz]
/-! draws with dice -/
/-- one turn that may change the heap -/
structure TurnX (vs : List Nat) (gm : EV → M Unit) (c : M Bool) (e : M EV) (sl : List Slot) (h : List EObj) (v : EV) (p : Bool) (y : EV) (h' : List EObj) : Prop where
  ex : ∃ S1 S2 S3 : ES, Ev (gm v) ⟨wipeS sl vs, h⟩ () S1 ∧ Ev c S1 p S2 ∧ (p = true → Ev e S2 y S3) ∧ (if p then S3 else S2).wp vs = ⟨wipeS sl vs, h'⟩
theorem draw_st {vs : List Nat} {gm : EV → M Unit} {c : M Bool} {e : M EV} {sl : List Slot} {I : List EObj → Prop} {Pv : EV → Prop} :
    ∀ (l : List EV) (acc : List EV) (S' : ES) (h : List EObj), I h → S'.wp vs = ⟨wipeS sl vs, h⟩ → acc.length + l.length ≤ sizeLine → (∀ x ∈ l, ∀ h, I h → ∃ y h', I h' ∧ Pv y ∧ TurnX vs gm c e sl h x true y h') →
      ∃ ys h', I h' ∧ ys.length = l.length ∧ (∀ y ∈ ys, Pv y) ∧ Ev (mDraw vs gm c e stCol acc l) S' (.inl (acc ++ ys)) ⟨wipeS sl vs, h'⟩
  | [], acc, S', h, hI, hw, _, _ => by
    refine ⟨[], h, hI, rfl, fun y hy => absurd hy List.not_mem_nil, ev_bnd ev_wipe ?_⟩
    rw [hw, List.append_nil]
    exact ev_ret
  | x :: l, acc, S', h, hI, hw, hz, ht => by
    obtain ⟨y, h1, hI1, hy, ⟨S1, S2, S3, e1, e2, e3, e4⟩⟩ := ht x List.mem_cons_self h hI
    rw [List.length_cons] at hz
    obtain ⟨ys, h2, hI2, hl, hp, ev⟩ := draw_st l (acc ++ [y]) S3 h1 hI1 e4 (by rw [List.length_append, List.length_singleton]; omega) fun z hz => ht z (List.mem_cons_of_mem _ hz)
    refine ⟨y :: ys, h2, hI2, by rw [List.length_cons, hl]; rfl, fun z hz => ?_, ev_bnd ev_wipe ?_⟩
    · rcases List.mem_cons.mp hz with rfl | hz
      · exact hy
      · exact hp z hz
    · rw [hw]
      refine ev_bnd e1 (ev_bnd e2 (ev_bnd (e3 rfl) ?_))
      have e5 : stCol acc y = some (.inl (acc ++ [y])) := by unfold stCol; rw [if_pos (by omega)]
      rw [e5]
      rw [List.append_assoc] at ev
      exact ev
theorem ev_lcX {vs : List Nat} {mi : M (List EV)} {gm : EV → M Unit} {c : M Bool} {e : M EV} {sl : List Slot} {S0 : ES} {h : List EObj} {I : List EObj → Prop} {Pv : EV → Prop} {l : List EV} (hi : Ev mi S0 l ⟨sl, h⟩) (hI : I h) (hno : noOwn sl vs = true) (hz : l.length ≤ sizeLine)
    (ht : ∀ x ∈ l, ∀ h, I h → ∃ y h', I h' ∧ Pv y ∧ TurnX vs gm c e sl h x true y h') : ∃ ys h', I h' ∧ ys.length = l.length ∧ (∀ y ∈ ys, Pv y) ∧ Ev (mLc vs mi gm c e) S0 (.lst ys) ⟨sl, h'⟩ := by
  obtain ⟨ys, h', hI', hl, hp, ev⟩ := draw_st (vs := vs) (gm := gm) (c := c) (e := e) (sl := sl) (I := I) (Pv := Pv) l [] ⟨sl, h⟩ h hI rfl (by simpa using hz) ht
  have e0 : Ev (mBlk vs (mDraw vs gm c e stCol [] l)) ⟨sl, h⟩ (.inl ys) ⟨sl, h'⟩ := by
    unfold Ev mBlk
    rw [if_pos hno, show mDraw vs gm c e stCol [] l ⟨sl, h⟩ = .ok (.inl ([] ++ ys)) ⟨wipeS sl vs, h'⟩ from ev]
    show Res.ok _ { sl := backS sl (wipeS sl vs) vs, hp := h' } = _
    rw [back_wipe]
    rfl
  exact ⟨ys, h', hI', hl, hp, ev_bnd hi (ev_bnd (ev_ns e0) ev_ret)⟩
/-! dice -/
def DI (h : List EObj) : Prop := ∃ a b d : Int, h = [.lst [.int a, .int b, .int d]]
theorem fmod_lt {a m : Int} (h : 0 < m) : 0 ≤ a.fmod m ∧ a.fmod m < m := ⟨Int.fmod_nonneg_of_pos a h, Int.fmod_lt_of_pos a h⟩
theorem all_ints {ys : List EV} {Q : Int → Prop} : (∀ y ∈ ys, ∃ n, y = .int n ∧ Q n) → ∃ ns : List Int, ys = iL ns ∧ ns.length = ys.length ∧ ∀ n ∈ ns, Q n := by
  induction ys with
  | nil => intro _; exact ⟨[], rfl, rfl, fun n hn => absurd hn List.not_mem_nil⟩
  | cons y ys ih =>
    intro h
    obtain ⟨n, rfl, hn⟩ := h y List.mem_cons_self
    obtain ⟨ns, rfl, hl, hq⟩ := ih fun z hz => h z (List.mem_cons_of_mem _ hz)
    refine ⟨n :: ns, rfl, by simp, fun m hm => ?_⟩
    rcases List.mem_cons.mp hm with rfl | hm
    · exact hn
    · exact hq m hm
end ML
/-! ML30 -/
set_option Elab.async false
set_option linter.all false
set_option autoImplicit false
set_option maxRecDepth 100000
set_option maxHeartbeats 4000000
/-! ML30: more rules of evaluation -/
namespace ML
open PySem PySem.Spec PyProof.Rows L2
theorem ev_eqI {i j : Int} {S : ES} : Ev (eEq (.int i) (.int j)) S (.bl (i == j)) S := rfl
theorem ev_neI {i j : Int} {S : ES} : Ev (eNe (.int i) (.int j)) S (.bl (!(i == j))) S := rfl
theorem ev_runE {N : Nat} {m : M Fl} {args : List EV} {h h' : List EObj} {v w : EV} {S' : ES} (e : Ev m ⟨slots0 N args, h⟩ (.ret v) S') (hh : S'.hp = h') (hv : v = w) : runB N m args h = .ok w h' := by
  subst hv; exact ev_run e hh
theorem ft {α : Type} (l : List α) : l.filter (fun _ => true) = l := by simp
theorem ev_lcT {α : Type} {vs : List Nat} {mi : M (List EV)} {gm : EV → M Unit} {e : M EV} {S : ES} {g f : α → EV} {l : List α} {ll : List EV} (hi : Ev mi S ll S) (hl : ll = l.map g) (hno : noOwn S.sl vs = true) (hz : l.length ≤ sizeLine)
    (ht : ∀ x ∈ l, Turn1 vs gm mYes e S (g x) true (f x)) : Ev (mLc vs mi gm mYes e) S (.lst (l.map f)) S := by
  have z := ev_lc (p := fun _ => true) hi hl hno hz ht
  rw [ft] at z
  exact z
theorem ev_gtT {α : Type} {nl : List Str} {vs : List Nat} {mi : M (List EV)} {gm : EV → M Unit} {e : M EV} {S : ES} {g f : α → EV} {l : List α} {ll : List EV} (hi : Ev mi S ll S) (hl : ll = l.map g) (hno : noOwn S.sl vs = true) (hz : l.length ≤ sizeLine)
    (ht : ∀ x ∈ l, Turn1 vs gm mYes e S (g x) true (f x)) : Ev (mGTup nl vs mi gm mYes e) S (.tup (l.map f)) S := by
  have z := ev_gt (nl := nl) (p := fun _ => true) hi hl hno hz ht
  rw [ft] at z
  exact z
theorem ev_gsT {α : Type} {nl : List Str} {vs : List Nat} {mi : M (List EV)} {gm : EV → M Unit} {e : M EV} {S : ES} {g : α → EV} {f : α → Int} {l : List α} {ll : List EV} (hi : Ev mi S ll S) (hl : ll = l.map g) (hno : noOwn S.sl vs = true)
    (ht : ∀ x ∈ l, Turn1 vs gm mYes e S (g x) true (.int (f x))) : Ev (mGSum nl vs mi gm mYes e) S (.int (l.map f).sum) S := by
  have z := ev_gs (nl := nl) (p := fun _ => true) hi hl hno ht
  rw [ft] at z
  exact z
/-- what a text is, when ones like it are compared -/
theorem ev_eqS {x y : Str} {S : ES} (hx : x.cps.all (· < 0x110000) = true) (hy : y.cps.all (· < 0x110000) = true) : Ev (eEq (.str x) (.str y)) S (.bl (x == y)) S := by
  have h1 : cmpOk (.str x) = true := by unfold cmpOk dataOk; rw [hx]; rfl
  have h2 : cmpOk (.str y) = true := by unfold cmpOk dataOk; rw [hy]; rfl
  have z := ev_eq (S := S) (v := .str x) (w := .str y) (a := .str x) (b := .str y) rfl rfl h1 h2
  have e : eqq (.str x) (.str y) = (x == y) := by unfold eqq; rfl
  rw [e] at z
  exact z
theorem ev_neS {x y : Str} {S : ES} (hx : x.cps.all (· < 0x110000) = true) (hy : y.cps.all (· < 0x110000) = true) : Ev (eNe (.str x) (.str y)) S (.bl (!(x == y))) S := by
  have h1 : cmpOk (.str x) = true := by unfold cmpOk dataOk; rw [hx]; rfl
  have h2 : cmpOk (.str y) = true := by unfold cmpOk dataOk; rw [hy]; rfl
  have z := ev_ne (S := S) (v := .str x) (w := .str y) (a := .str x) (b := .str y) rfl rfl h1 h2
  have e : eqq (.str x) (.str y) = (x == y) := by unfold eqq; rfl
  rw [e] at z
  exact z
theorem bl_le (i : Nat) (n : Nat) (h : Nat.ble i n = true) : i ≤ n := Nat.le_of_ble_eq_true h
theorem ev_isN {v : EV} {S : ES} (h : v ≠ .non) : Ev (eIs v .non) S (.bl false) S := by cases v <;> first | rfl | exact absurd rfl h
theorem ev_isNN {S : ES} : Ev (eIsNot .non .non) S (.bl false) S := rfl
theorem eqq_nilR (l : List EV) : eqq (.lst l) (.lst []) = l.isEmpty := by cases l <;> rfl
theorem ev_eqNil {l : List EV} {S : ES} (h : cmpOk (.lst l) = true) : Ev (eEq (.lst l) (.lst [])) S (.bl l.isEmpty) S := by
  have z := ev_eq (S := S) (v := .lst l) (w := .lst []) (a := .lst l) (b := .lst []) rfl rfl h rfl
  rw [eqq_nilR] at z
  exact z
theorem ev_neNil {l : List EV} {S : ES} (h : cmpOk (.lst l) = true) : Ev (eNe (.lst l) (.lst [])) S (.bl (!l.isEmpty)) S := by
  have z := ev_ne (S := S) (v := .lst l) (w := .lst []) (a := .lst l) (b := .lst []) rfl rfl h rfl
  rw [eqq_nilR] at z
  exact z
theorem ev_sretP {m : M EV} {S : ES} {v : EV} (h : Ev m S v S) : Ev (sRet m) S (.ret v) S := ev_sret h
theorem ev_to {α : Type} {m : M α} {S S1 S' : ES} {a : α} (h : Ev m S a S1) (e : S1 = S') : Ev m S a S' := by subst e; exact h
theorem ev_sumM {α : Type} {l : List α} {f : α → Int} {S : ES} : Ev (eSum (.lst (l.map fun x => .int (f x)))) S (.int (l.map f).sum) S := by
  have z := @ev_sumI (l.map f) S
  have e : iL (l.map f) = l.map fun x => EV.int (f x) := by
    show (l.map f).map EV.int = _
    rw [List.map_map]
    rfl
  rwa [e] at z
theorem isortBy_mem {le : EV → EV → Bool} : ∀ {l : List EV} {e : EV}, e ∈ isortBy le l ↔ e ∈ l := by
  have ins : ∀ (a e : EV) (l : List EV), e ∈ insBy le a l ↔ e = a ∨ e ∈ l := by
    intro a e l
    induction l with
    | nil => unfold insBy; simp
    | cons b l ih =>
      unfold insBy
      split
      · simp
      · rw [List.mem_cons, ih, List.mem_cons]
        constructor
        · rintro (h | h | h)
          · exact .inr (.inl h)
          · exact .inl h
          · exact .inr (.inr h)
        · rintro (h | h | h)
          · exact .inr (.inl h)
          · exact .inl h
          · exact .inr (.inr h)
  intro l
  induction l with
  | nil => intro e; exact Iff.rfl
  | cons a l ih =>
    intro e
    show e ∈ insBy le a (isortBy le l) ↔ _
    rw [ins, ih, List.mem_cons]
theorem isortBy_len {le : EV → EV → Bool} : ∀ (l : List EV), (isortBy le l).length = l.length := by
  have ins : ∀ (a : EV) (l : List EV), (insBy le a l).length = l.length + 1 := by
    intro a l
    induction l with
    | nil => rfl
    | cons b l ih =>
      unfold insBy
      split
      · rfl
      · rw [List.length_cons, ih, List.length_cons]
  intro l
  induction l with
  | nil => rfl
  | cons a l ih =>
    show (insBy le a (isortBy le l)).length = _
    rw [ins, ih, List.length_cons]
theorem foldK_mem : ∀ (l ks : List EV) {e : EV}, e ∈ l.foldl addK ks → e ∈ ks ∨ e ∈ l
  | [], ks, e, h => .inl h
  | x :: l, ks, e, h => by
    rcases foldK_mem l (addK ks x) h with z | z
    · unfold addK at z
      split at z
      · exact .inl z
      · rcases List.mem_append.mp z with z | z
        · exact .inl z
        · exact .inr (by simp at z; simp [z])
    · exact .inr (List.mem_cons_of_mem _ z)
theorem foldK_len : ∀ (l ks : List EV), (l.foldl addK ks).length ≤ ks.length + l.length
  | [], ks => by simp
  | x :: l, ks => by
    have h1 := foldK_len l (addK ks x)
    have h2 := addK_len ks x
    simp only [List.foldl_cons, List.length_cons]
    omega
abbrev sL (ws : List Str) : List EV := ws.map EV.str
theorem all_strs {ys : List EV} {Q : Str → Prop} : (∀ y ∈ ys, ∃ n, y = .str n ∧ Q n) → ∃ ns : List Str, ys = sL ns ∧ ns.length = ys.length ∧ ∀ n ∈ ns, Q n := by
  induction ys with
  | nil => intro _; exact ⟨[], rfl, rfl, fun n hn => absurd hn List.not_mem_nil⟩
  | cons y ys ih =>
    intro h
    obtain ⟨n, rfl, hn⟩ := h y List.mem_cons_self
    obtain ⟨ns, rfl, hl, hq⟩ := ih fun z hz => h z (List.mem_cons_of_mem _ hz)
    refine ⟨n :: ns, rfl, by simp, fun m hm => ?_⟩
    rcases List.mem_cons.mp hm with rfl | hm
    · exact hn
    · exact hq m hm
theorem datasOk_of {l : List EV} (h : ∀ e ∈ l, dataOk e = true ∧ dep e = 0) : datasOk l = true ∧ deps l = 0 := by
  induction l with
  | nil => exact ⟨rfl, rfl⟩
  | cons e l ih =>
    obtain ⟨h1, h2⟩ := ih fun x hx => h x (List.mem_cons_of_mem _ hx)
    obtain ⟨h3, h4⟩ := h e List.mem_cons_self
    refine ⟨?_, ?_⟩
    · show (dataOk e && datasOk l) = true
      rw [h1, h3]; rfl
    · show max (dep e) (deps l) = 0
      omega
theorem sortOk_sL {ws : List Str} (hd : ∀ w ∈ ws, w.cps.all (· < 0x110000) = true) (hz : ws.length ≤ 16777216) : sortOk (sL ws) = true := by
  obtain ⟨h1, h2⟩ := datasOk_of (l := sL ws) fun e he => by
    obtain ⟨w, hw, rfl⟩ := List.mem_map.mp he
    exact ⟨hd w hw, rfl⟩
  unfold sortOk
  rw [h1, h2]
  simp only [Bool.true_and, Bool.and_eq_true, Bool.or_eq_true, List.all_eq_true, decide_eq_true_eq]
  refine ⟨⟨⟨Nat.zero_le _, fun a ha b hb => ?_⟩, .inr fun a ha => ?_⟩, by rw [List.length_map]; exact sz _ hz⟩
  · obtain ⟨x, _, rfl⟩ := List.mem_map.mp ha
    obtain ⟨y, _, rfl⟩ := List.mem_map.mp hb
    rfl
  · obtain ⟨x, _, rfl⟩ := List.mem_map.mp ha
    rfl
theorem ev_blkX {α : Type} {vs : List Nat} {m : M α} {sl : List Slot} {h h' : List EObj} {a : α} (hno : noOwn sl vs = true) (e : Ev m ⟨sl, h⟩ a ⟨wipeS sl vs, h'⟩) : Ev (mBlk vs m) ⟨sl, h⟩ a ⟨sl, h'⟩ := by
  unfold Ev mBlk
  rw [if_pos hno, show m ⟨sl, h⟩ = .ok a ⟨wipeS sl vs, h'⟩ from e]
  show Res.ok _ { sl := backS sl (wipeS sl vs) vs, hp := h' } = _
  rw [back_wipe]
theorem ev_neFE {v w : EV} {S : ES} (e : v = w) (hd : dat S v = v) (h : cmpOk v = true) : Ev (eNe v w) S (.bl false) S := by subst e; exact ev_neF hd h
theorem ev_dictM {α : Type} {l : List α} {fk fv : α → EV} {S : ES} (hk : ∀ x ∈ l, (keyOf (fk x)).isSome = true) : Ev (eDict (.lst (l.map fun x => .tup [fk x, fv x]))) S (.dic false (putsE fk fv l ([], [])).1 (putsE fk fv l ([], [])).2) S := by
  show (match dictE (l.map fun x => .tup [fk x, fv x]) ([], []) with | some r => Res.ok (EObj.dic false r.1 r.2) S | none => .bad) = _
  rw [dictE_puts fk fv l ([], []) hk]
theorem ev_listC {n : Nat} {F : Fn} {ms : M (List EV)} {S S1 : ES} {l r : List EV} (h1 : Ev ms S l S1) (hl : l.length = n) (h2 : F l S1.hp = .ok (.tup r) S1.hp) : Ev (mFrz ((mCall n F ms) >>= eList)) S (.lst r) S1 :=
  ev_frz (ev_obj (ev_callP h1 hl h2) ev_listT) rfl
theorem ev_countI {ns : List Int} {x : Int} {m mi : M EV} {S : ES} (h1 : Ev m S (.lst (iL ns)) S) (h2 : Ev mi S (.int x) S) : Ev (mBinL eCount m mi) S (.int ((ns.count x : Nat) : Int)) S := by
  refine ev_un h1 (ev_bnd h2 ?_)
  have e2 : oCount (iL ns) (.int x) = some (.int ((ns.count x : Nat) : Int)) := by unfold oCount; rw [intsE_ints]; rfl
  show ofO (oCount (iL ns) (.int x)) _ = _
  rw [e2]
  rfl
theorem ev_indexI {l : List EV} {w z : EV} {m mi : M EV} {S : ES} (h1 : Ev m S (.lst l) S) (h2 : Ev mi S w S) (h3 : oIndex l w = some z) : Ev (mBinL eIndex m mi) S z S := by
  refine ev_un h1 (ev_bnd h2 ?_)
  show ofO (oIndex l w) _ = _
  rw [h3]
  rfl
/-! whiles -/
theorem ev_while0 {c : M Bool} {b : M Fl} {n : Nat} {S S1 : ES} (h : Ev c S false S1) : Ev (mWhile c b (n + 1)) S .nx S1 := ev_bnd h rfl
theorem ev_while1 {c : M Bool} {b : M Fl} {n : Nat} {S S1 S2 S3 : ES} {f : Fl} (h : Ev c S true S1) (hb : Ev b S1 .nx S2) (hr : Ev (mWhile c b n) S2 f S3) : Ev (mWhile c b (n + 1)) S f S3 := ev_bnd h (ev_bnd hb hr)
/-- a while by an invariant and a measure -/
theorem ev_whileI {c : M Bool} {b : M Fl} {α : Type} (St : α → ES) (I : α → Prop) (go : α → Bool) (nx : α → α) (ms : α → Nat) (hc : ∀ a, I a → Ev c (St a) (go a) (St a)) (hb : ∀ a, I a → go a = true → Ev b (St a) .nx (St (nx a)) ∧ I (nx a) ∧ ms (nx a) < ms a) :
    ∀ (n : Nat) (a : α), I a → ms a < n → ∃ a', I a' ∧ go a' = false ∧ Ev (mWhile c b n) (St a) .nx (St a')
  | 0, a, _, h => by omega
  | n + 1, a, hI, h => by
    cases hg : go a with
    | false => exact ⟨a, hI, hg, ev_while0 (by have := hc a hI; rw [hg] at this; exact this)⟩
    | true =>
      obtain ⟨h1, h2, h3⟩ := hb a hI hg
      obtain ⟨a', i, g, e⟩ := ev_whileI St I go nx ms hc hb n (nx a) h2 (by omega)
      exact ⟨a', i, g, ev_while1 (by have := hc a hI; rw [hg] at this; exact this) h1 e⟩
end ML
/-! K02W -/
set_option Elab.async false
set_option linter.all false
set_option autoImplicit false
set_option maxRecDepth 100000
set_option maxHeartbeats 8000000
/-! printed by gen.py: mirrors of the defs, and that the text does what they say -/
namespace K02
open PySem PySem.Spec PyProof.Rows L2 ML
def top (i : Nat) : Stmt := PySem.Challenge.pw_learnstack_k02_shapes_of_columns.main.body.getD i (.Pass ⟨0, 0, 0, 0⟩)
abbrev s_l_dice : Stmt := top 22
abbrev s_l_rounds : Stmt := top 24
abbrev s_square_root : Stmt := top 10
abbrev s_standard : Stmt := top 11
abbrev s_signs_of : Stmt := top 13
abbrev s_powers_of : Stmt := top 17
abbrev s_edges_even : Stmt := top 4
abbrev s_edges_full : Stmt := top 5
abbrev s_check_edges : Stmt := top 7
abbrev s_bin_of : Stmt := top 6
abbrev s_binned : Stmt := top 8
abbrev s_shares_of : Stmt := top 9
abbrev s_places_of : Stmt := top 14
abbrev s_means_for : Stmt := top 15
abbrev s_crossed : Stmt := top 16
abbrev s_lagged : Stmt := top 18
abbrev s_clipped : Stmt := top 19
abbrev s_useful : Stmt := top 20
abbrev s_ranks_of : Stmt := top 12
abbrev s_l_told : Stmt := top 25
abbrev s_l_plain : Stmt := top 28
abbrev s_l_root : Stmt := top 26
abbrev s_l_roll : Stmt := top 23
abbrev s_l_made : Stmt := top 29
abbrev s_l_bin : Stmt := top 27
abbrev s_law : Stmt := top 30
def lamEs : List Expr := match (defBody s_l_plain).getD 0 (.Pass ⟨0, 0, 0, 0⟩) with
  | .Assign _ (.List es _) _ => es
  | _ => []
def lamTab (k : Nat) : Option LamD := match lamEs[k]? with
  | some (.Lambda params body scope _) => some ⟨("_law_plain" : Str) ++ ".<locals>." ++ "<lambda>", params, body, scope⟩
  | _ => none
def lamD (k : Nat) : LamD := (lamTab k).getD ⟨Str.empty, {posonlyargs := [], args := [], vararg := none, kwonlyargs := [], kw_defaults := [], kwarg := none, defaults := []}, .Name "x" ⟨0, 0, 0, 0⟩, { kind := .function, names := [], isGenerator := false, isCoroutine := false }⟩
/-- what is known of the text behind its top -/
structure Fx (K : PySem.W.Frag) (mg : Str → Option Value) (base : Heap) (Gs : List Addr) (Ls : LsS) : Prop where
  B : Bt mg
  bm : ∃ P0, base.BuiltinsAt mg P0
  ShapeError : ExcC K mg ("ShapeError" : Str)
  d_l_dice : DefK K ("_law_dice" : Str) s_l_dice
  g_l_dice : mg ("_law_dice" : Str) = some (.ref (He.ga K ("_law_dice" : Str)))
  d_l_rounds : DefK K ("_law_rounds" : Str) s_l_rounds
  g_l_rounds : mg ("_law_rounds" : Str) = some (.ref (He.ga K ("_law_rounds" : Str)))
  d_square_root : DefK K ("square_root" : Str) s_square_root
  g_square_root : mg ("square_root" : Str) = some (.ref (He.ga K ("square_root" : Str)))
  d_standard : DefK K ("standard" : Str) s_standard
  g_standard : mg ("standard" : Str) = some (.ref (He.ga K ("standard" : Str)))
  d_signs_of : DefK K ("signs_of" : Str) s_signs_of
  g_signs_of : mg ("signs_of" : Str) = some (.ref (He.ga K ("signs_of" : Str)))
  d_powers_of : DefK K ("powers_of" : Str) s_powers_of
  g_powers_of : mg ("powers_of" : Str) = some (.ref (He.ga K ("powers_of" : Str)))
  d_edges_even : DefK K ("edges_even" : Str) s_edges_even
  g_edges_even : mg ("edges_even" : Str) = some (.ref (He.ga K ("edges_even" : Str)))
  d_edges_full : DefK K ("edges_full" : Str) s_edges_full
  g_edges_full : mg ("edges_full" : Str) = some (.ref (He.ga K ("edges_full" : Str)))
  d_check_edges : DefK K ("check_edges" : Str) s_check_edges
  g_check_edges : mg ("check_edges" : Str) = some (.ref (He.ga K ("check_edges" : Str)))
  d_bin_of : DefK K ("bin_of" : Str) s_bin_of
  g_bin_of : mg ("bin_of" : Str) = some (.ref (He.ga K ("bin_of" : Str)))
  d_binned : DefK K ("binned" : Str) s_binned
  g_binned : mg ("binned" : Str) = some (.ref (He.ga K ("binned" : Str)))
  d_shares_of : DefK K ("shares_of" : Str) s_shares_of
  g_shares_of : mg ("shares_of" : Str) = some (.ref (He.ga K ("shares_of" : Str)))
  d_places_of : DefK K ("places_of" : Str) s_places_of
  g_places_of : mg ("places_of" : Str) = some (.ref (He.ga K ("places_of" : Str)))
  d_means_for : DefK K ("means_for" : Str) s_means_for
  g_means_for : mg ("means_for" : Str) = some (.ref (He.ga K ("means_for" : Str)))
  d_crossed : DefK K ("crossed" : Str) s_crossed
  g_crossed : mg ("crossed" : Str) = some (.ref (He.ga K ("crossed" : Str)))
  d_lagged : DefK K ("lagged" : Str) s_lagged
  g_lagged : mg ("lagged" : Str) = some (.ref (He.ga K ("lagged" : Str)))
  d_clipped : DefK K ("clipped" : Str) s_clipped
  g_clipped : mg ("clipped" : Str) = some (.ref (He.ga K ("clipped" : Str)))
  d_useful : DefK K ("useful" : Str) s_useful
  g_useful : mg ("useful" : Str) = some (.ref (He.ga K ("useful" : Str)))
  d_ranks_of : DefK K ("ranks_of" : Str) s_ranks_of
  g_ranks_of : mg ("ranks_of" : Str) = some (.ref (He.ga K ("ranks_of" : Str)))
  d_l_told : DefK K ("_law_told" : Str) s_l_told
  g_l_told : mg ("_law_told" : Str) = some (.ref (He.ga K ("_law_told" : Str)))
  d_l_plain : DefK K ("_law_plain" : Str) s_l_plain
  g_l_plain : mg ("_law_plain" : Str) = some (.ref (He.ga K ("_law_plain" : Str)))
  d_l_root : DefK K ("_law_root" : Str) s_l_root
  g_l_root : mg ("_law_root" : Str) = some (.ref (He.ga K ("_law_root" : Str)))
  d_l_roll : DefK K ("_law_roll" : Str) s_l_roll
  g_l_roll : mg ("_law_roll" : Str) = some (.ref (He.ga K ("_law_roll" : Str)))
  d_l_made : DefK K ("_law_made" : Str) s_l_made
  g_l_made : mg ("_law_made" : Str) = some (.ref (He.ga K ("_law_made" : Str)))
  d_l_bin : DefK K ("_law_bin" : Str) s_l_bin
  g_l_bin : mg ("_law_bin" : Str) = some (.ref (He.ga K ("_law_bin" : Str)))
  d_law : DefK K ("law" : Str) s_law
  g_law : mg ("law" : Str) = some (.ref (He.ga K ("law" : Str)))
  t_standard : TabG1 K base Gs Ls ("standard" : Str)
  t_signs_of : TabG1 K base Gs Ls ("signs_of" : Str)
  t_edges_even : TabG1 K base Gs Ls ("edges_even" : Str)
  t_check_edges : TabG1 K base Gs Ls ("check_edges" : Str)
  t_binned : TabG1 K base Gs Ls ("binned" : Str)
  t_shares_of : TabG1 K base Gs Ls ("shares_of" : Str)
  t_places_of : TabG1 K base Gs Ls ("places_of" : Str)
  t_crossed : TabG1 K base Gs Ls ("crossed" : Str)
  t_lagged : TabG1 K base Gs Ls ("lagged" : Str)
  t_clipped : TabG1 K base Gs Ls ("clipped" : Str)
  t_useful : TabG1 K base Gs Ls ("useful" : Str)
  t_l_plain : TabL1 K mg base Gs Ls ("_law_plain" : Str)
  lam : Ls.lam = lamTab
section
variable {P : Program} {w : World} {K : PySem.W.Frag} {mg : Str → Option Value} {base : Heap} {Gs : List Addr} {Ls : LsS}
abbrev N_l_dice : List Str := [("cell" : Str)]
theorem nd_l_dice : N_l_dice.Nodup := by decide +kernel
theorem sc_l_dice : FnScope N_l_dice [("cell" : Str)] (defScope s_l_dice) := ⟨rfl, rfl, rfl, nd_l_dice, rfl, by decide +kernel, by decide +kernel⟩
def b_l_dice : M Fl := sSeq (mIf (mB (mChain eLt eLt (mBin eSub (mC (.int 0)) (mC (.int 10))) (mGet 0) (mC (.int 10))))
    (sRet (mNew (mLst (mCons (mUn eAbs (mGet 0)) (mCons (mC (.int 0)) (mCons (mC (.int 2)) (mNil)))))))
    (sNx))
    (sRet (mNew (mLst (mCons (mGet 0) (mCons (mBin eAdd2 (mC (.int 1)) (mBin eMod (mUn eInt (mGet 0)) (mC (.int 1009)))) (mCons (mUn eInt (mBin eGe (mGet 0) (mBin ePow (mC (.int 10)) (mC (.int 18))))) (mNil)))))))
def F_l_dice : Fn := runB 1 b_l_dice
theorem w_l_dice (fx : Fx K mg base Gs Ls) : FM P w K mg base (tbs Gs Ls) 1 ("_law_dice" : Str) 1 F_l_dice :=
  fn_d (N := N_l_dice) (ps := [("cell" : Str)]) (b := false) fx.d_l_dice sc_l_dice (by decide) fx.g_l_dice (fun _ _ _ _ _ _ us hl => match us, hl with | [_], _ => rfl) (fun h => nomatch h)
  (fun X W c est efr _ => have nd := nd_l_dice; (sms_cons (sm_if (bm_chain (cm_lt) (cm_lt) (em_sub em_int em_int) (c.var (i := 0) rfl rfl) em_int) (sms_one (sm_ret (em_new (om_lst (am_cons (em_abs (c.bt fx.B) (c.gl (x := ("abs" : Str)) rfl) (c.var (i := 0) rfl rfl)) (am_cons em_int (am_cons em_int am_nil))))))) sms_nil)
    (sms_one (sm_ret (em_new (om_lst (am_cons (c.var (i := 0) rfl rfl) (am_cons (em_add em_int (em_mod (em_toInt (c.bt fx.B) (c.gl (x := ("int" : Str)) rfl) (c.var (i := 0) rfl rfl)) em_int)) (am_cons (em_toInt (c.bt fx.B) (c.gl (x := ("int" : Str)) rfl) (em_cmp (cm_ge) (c.var (i := 0) rfl rfl) (em_pow em_int em_int) rfl)) am_nil)))))))))
abbrev N_l_rounds : List Str := [("script" : Str), ("most" : Str), ("cells" : Str), ("cell" : Str)]
theorem nd_l_rounds : N_l_rounds.Nodup := by decide +kernel
theorem sc_l_rounds : FnScope N_l_rounds [("script" : Str), ("most" : Str)] (defScope s_l_rounds) := ⟨rfl, rfl, rfl, nd_l_rounds, rfl, by decide +kernel, by decide +kernel⟩
def b_l_rounds : M Fl := sSeq (sSet 2 (mSl (mGet 0) (mPart0) (mPart (mGet 1))))
    (sSeq (mIf (mB (mBin eEq (mGet 2) (mFrz (mLst (mNil)))))
    (sSet 2 (mFrz (mLst (mCons (mC (.int 0)) (mNil)))))
    (sNx))
    (sRet (mFrz (mLc [3] (mIt (mGet 2)) (gSet 3) (mYes) (mCall 1 F_l_dice (mCons (mGet 3) (mNil)))))))
def F_l_rounds : Fn := runB 4 b_l_rounds
theorem w_l_rounds (fx : Fx K mg base Gs Ls) : FM P w K mg base (tbs Gs Ls) 2 ("_law_rounds" : Str) 2 F_l_rounds :=
  fn_d (N := N_l_rounds) (ps := [("script" : Str), ("most" : Str)]) (b := false) fx.d_l_rounds sc_l_rounds (by decide) fx.g_l_rounds (fun _ _ _ _ _ _ us hl => match us, hl with | [_, _], _ => rfl) (fun h => nomatch h)
  (fun X W c est efr _ => have nd := nd_l_rounds; (sms_cons (c.set nd (i := 2) rfl rfl (em_slice (c.var (i := 0) rfl rfl) part_none (part_some (c.var (i := 1) rfl rfl))) rfl)
    (sms_cons (sm_if (bm_cmp (cm_eq c.hu) (c.var (i := 2) rfl rfl) (em_frz (om_lst am_nil)) rfl) (sms_one (c.set nd (i := 2) rfl rfl (em_frz (om_lst (am_cons em_int am_nil))) rfl)) sms_nil)
    (sms_one (sm_ret (em_frz (om_lc (own := [(("cell" : Str), 3)]) c.kx (c.nd nd) (c.ok (by decide +kernel)) (im_src (c.var (i := 2) rfl rfl)) (c.lb (fun X1 W1 c1 => ⟨(c1.gm nd (i := 3) rfl rfl rfl), ptm_nil, (c1.call (w_l_dice fx) (by decide) rfl (am_cons (c1.var (i := 3) rfl rfl) am_nil))⟩) (nx_set 3)))))))))
abbrev N_square_root : List Str := [("number" : Str), ("low" : Str), ("high" : Str), ("middle" : Str)]
theorem nd_square_root : N_square_root.Nodup := by decide +kernel
theorem sc_square_root : FnScope N_square_root [("number" : Str)] (defScope s_square_root) := ⟨rfl, rfl, rfl, nd_square_root, rfl, by decide +kernel, by decide +kernel⟩
def b_square_root : M Fl := sSeq (mIf (mB (mBin eLt (mGet 0) (mC (.int 0))))
    (sRaise ("ShapeError" : Str))
    (sNx))
    (sSeq (sPar2 1 2 (mCons (mC (.int 0)) (mCons (mBin eAdd2 (mGet 0) (mC (.int 1))) (mNil))))
    (sSeq (mWhile (mB (mBin eGt (mBin eSub (mGet 2) (mGet 1)) (mC (.int 1)))) (sSeq (sSet 3 (mBin eDiv (mBin eAdd2 (mGet 1) (mGet 2)) (mC (.int 2))))
    (mIf (mB (mBin eLe (mBin eMul2 (mGet 3) (mGet 3)) (mGet 0)))
    (sSet 1 (mGet 3))
    (sSet 2 (mGet 3)))) 10000000)
    (sRet (mGet 1))))
def F_square_root : Fn := runB 4 b_square_root
theorem w_square_root (fx : Fx K mg base Gs Ls) : FM P w K mg base (tbs Gs Ls) 1 ("square_root" : Str) 1 F_square_root :=
  fn_d (N := N_square_root) (ps := [("number" : Str)]) (b := false) fx.d_square_root sc_square_root (by decide) fx.g_square_root (fun _ _ _ _ _ _ us hl => match us, hl with | [_], _ => rfl) (fun h => nomatch h)
  (fun X W c est efr _ => have nd := nd_square_root; (sms_cons (sm_if (bm_cmp (cm_lt) (c.var (i := 0) rfl rfl) em_int rfl) (sms_one (sm_raise c.kx.calm c.kx.tk (c.gl rfl) (c.exc fx.ShapeError))) sms_nil)
    (sms_cons (c.par2 nd (i := 1) (j := 2) rfl rfl (by decide) rfl rfl (am_cons em_int (am_cons (em_add (c.var (i := 0) rfl rfl) em_int) am_nil)) ((sws_scope c.eS).trans rfl))
    (sms_cons (sm_while 10000000 c.kx.pa (bm_cmp (cm_gt) (em_sub (c.var (i := 2) rfl rfl) (c.var (i := 1) rfl rfl)) em_int rfl) (sms_cons (c.set nd (i := 3) rfl rfl (em_div (em_add (c.var (i := 1) rfl rfl) (c.var (i := 2) rfl rfl)) em_int) rfl)
    (sms_one (sm_if (bm_cmp (cm_le) (em_mul (c.var (i := 3) rfl rfl) (c.var (i := 3) rfl rfl)) (c.var (i := 0) rfl rfl) rfl) (sms_one (c.set nd (i := 1) rfl rfl (c.var (i := 3) rfl rfl) rfl)) (sms_one (c.set nd (i := 2) rfl rfl (c.var (i := 3) rfl rfl) rfl))))))
    (sms_one (sm_ret (c.var (i := 1) rfl rfl)))))))
abbrev N_standard : List Str := [("numbers" : Str), ("many" : Str), ("whole" : Str), ("spread" : Str), ("number" : Str)]
theorem nd_standard : N_standard.Nodup := by decide +kernel
theorem sc_standard : FnScope N_standard [("numbers" : Str)] (defScope s_standard) := ⟨rfl, rfl, rfl, nd_standard, rfl, by decide +kernel, by decide +kernel⟩
def b_standard : M Fl := sSeq (mIf (mB (mBin eEq (mUn eLen2 (mPeek 0)) (mC (.int 0))))
    (sRaise ("ShapeError" : Str))
    (sNx))
    (sSeq (sAsg (mTup (mCons (mUn eLen2 (mPeek 0)) (mCons (mUn eSum (mPeek 0)) (mNil)))) (gTupM 2 (gConsM (gSet 1) (gConsM (gSet 2) (gNilM)))))
    (sSeq (sSet 3 (mCall 1 F_square_root (mCons (mBin eSub (mBin eMul2 (mGet 1) (mGSum [] [4] (mIt (mGet 0)) (gSet 4) (mYes) (mBin eMul2 (mGet 4) (mGet 4)))) (mBin eMul2 (mGet 2) (mGet 2))) (mNil))))
    (sRet (mGTup [] [4] (mIt (mGet 0)) (gSet 4) (mYes) (mIf (mB (mBin eGt (mGet 3) (mC (.int 0)))) (mBin eDiv (mBin eMul2 (mC (.int 100)) (mBin eSub (mBin eMul2 (mGet 1) (mGet 4)) (mGet 2))) (mGet 3)) (mC (.int 0)))))))
def F_standard : Fn := runB 5 b_standard
theorem w_standard (fx : Fx K mg base Gs Ls) : FM P w K mg base (tbs Gs Ls) 2 ("standard" : Str) 1 F_standard :=
  fn_d (N := N_standard) (ps := [("numbers" : Str)]) (b := true) fx.d_standard sc_standard (by decide) fx.g_standard (fun _ _ _ _ _ _ us hl => match us, hl with | [_], _ => rfl) (fun _ => fx.t_standard)
  (fun X W c est efr _ => have nd := nd_standard; (sms_cons (sm_if (bm_cmp (cm_eq c.hu) (em_len2 (c.bt fx.B) (c.gl (x := ("len" : Str)) rfl) (c.nvar (i := 0) rfl rfl)) em_int rfl) (sms_one (sm_raise c.kx.calm c.kx.tk (c.gl rfl) (c.exc fx.ShapeError))) sms_nil)
    (sms_cons (sm_asg (I := [1, 2]) (em_tup (am_cons (em_len2 (c.bt fx.B) (c.gl (x := ("len" : Str)) rfl) (c.nvar (i := 0) rfl rfl)) (am_cons (em_sum c.kx.calm (c.bt fx.B) (c.gl (x := ("sum" : Str)) rfl) (c.nvar (i := 0) rfl rfl)) am_nil))) (gm_tup c.kx.calm (gms_cons (c.gm nd (i := 1) rfl rfl rfl) (gms_cons (c.gm nd (i := 2) rfl rfl rfl) gms_nil))) (nx_tup (nx_cons (nx_set 1) (nx_cons (nx_set 2) nx_nil))) rfl ((sws_scope c.eS).trans rfl))
    (sms_cons (c.set nd (i := 3) rfl rfl (c.call (w_square_root fx) (by decide) rfl (am_cons (em_sub (em_mul (c.var (i := 1) rfl rfl) (em_sumG (c.bt fx.B) (c.gl (x := ("sum" : Str)) rfl) (c.gs (own := [(("number" : Str), 4)]) (nl := []) fx.bm nd rfl rfl (by decide +kernel) (im_src (c.var (i := 0) rfl rfl)) (fun _ => rfl) nil_exc (fun X1 W1 c1 => ⟨(c1.gm nd (i := 4) rfl rfl rfl), ptm_nil, (em_mul (c1.var (i := 4) rfl rfl) (c1.var (i := 4) rfl rfl))⟩) (nx_set 4)))) (em_mul (c.var (i := 2) rfl rfl) (c.var (i := 2) rfl rfl))) am_nil)) rfl)
    (sms_one (sm_ret (em_tupG (c.bt fx.B) (c.gl (x := ("tuple" : Str)) rfl) (c.gs (own := [(("number" : Str), 4)]) (nl := []) fx.bm nd rfl rfl (by decide +kernel) (im_src (c.var (i := 0) rfl rfl)) (fun _ => rfl) nil_exc (fun X1 W1 c1 => ⟨(c1.gm nd (i := 4) rfl rfl rfl), ptm_nil, (em_if (bm_cmp (cm_gt) (c1.var (i := 3) rfl rfl) em_int rfl) (em_div (em_mul em_int (em_sub (em_mul (c1.var (i := 1) rfl rfl) (c1.var (i := 4) rfl rfl)) (c1.var (i := 2) rfl rfl))) (c1.var (i := 3) rfl rfl)) em_int)⟩) (nx_set 4)))))))))
abbrev N_signs_of : List Str := [("words" : Str), ("names" : Str), ("word" : Str), ("name" : Str)]
theorem nd_signs_of : N_signs_of.Nodup := by decide +kernel
theorem sc_signs_of : FnScope N_signs_of [("words" : Str)] (defScope s_signs_of) := ⟨rfl, rfl, rfl, nd_signs_of, rfl, by decide +kernel, by decide +kernel⟩
def b_signs_of : M Fl := sSeq (sSet 1 (mFrz ((mFrz (mDc [2] (mIt (mGet 0)) (gSet 2) (mYes) (mGet 2) (mC (.bl true)))) >>= eSorted false)))
    (sRet (mTup (mCons (mUn eTuple (mPeek 1)) (mCons (mGTup [] [2] (mIt (mGet 0)) (gSet 2) (mYes) (mGTup [] [3] (mIt (mGet 1)) (gSet 3) (mYes) (mIf (mB (mBin eEq (mGet 3) (mGet 2))) (mC (.int 1)) (mC (.int 0))))) (mNil)))))
def F_signs_of : Fn := runB 4 b_signs_of
theorem w_signs_of (fx : Fx K mg base Gs Ls) : FM P w K mg base (tbs Gs Ls) 3 ("signs_of" : Str) 1 F_signs_of :=
  fn_d (N := N_signs_of) (ps := [("words" : Str)]) (b := true) fx.d_signs_of sc_signs_of (by decide) fx.g_signs_of (fun _ _ _ _ _ _ us hl => match us, hl with | [_], _ => rfl) (fun _ => fx.t_signs_of)
  (fun X W c est efr _ => have nd := nd_signs_of; (sms_cons (c.set nd (i := 1) rfl rfl (em_frz (om_sorted c.kx.calm c.hu (c.bt fx.B) (c.gl (x := ("sorted" : Str)) rfl) (nm_em (em_frz (om_dc (own := [(("word" : Str), 2)]) c.kx (c.nd nd) (c.ok (by decide +kernel)) (im_src (c.var (i := 0) rfl rfl)) (c.db (fun X1 W1 c1 => ⟨(c1.gm nd (i := 2) rfl rfl rfl), ptm_nil, (c1.var (i := 2) rfl rfl), em_bl⟩) (nx_set 2))))))) rfl)
    (sms_one (sm_ret (em_tup (am_cons (em_tuple (c.bt fx.B) (c.gl (x := ("tuple" : Str)) rfl) (c.nvar (i := 1) rfl rfl)) (am_cons (em_tupG (c.bt fx.B) (c.gl (x := ("tuple" : Str)) rfl) (c.gs (own := [(("word" : Str), 2)]) (nl := []) fx.bm nd rfl rfl (by decide +kernel) (im_src (c.var (i := 0) rfl rfl)) (fun _ => rfl) nil_exc (fun X1 W1 c1 => ⟨(c1.gm nd (i := 2) rfl rfl rfl), ptm_nil, (em_tupG (c1.bt fx.B) (c1.gl (x := ("tuple" : Str)) rfl) (c1.gs (own := [(("name" : Str), 3)]) (nl := []) fx.bm nd rfl rfl (by decide +kernel) (im_src (c1.var (i := 1) rfl rfl)) (fun _ => rfl) nil_exc (fun X2 W2 c2 => ⟨(c2.gm nd (i := 3) rfl rfl rfl), ptm_nil, (em_if (bm_cmp (cm_eq c2.hu) (c2.var (i := 3) rfl rfl) (c2.var (i := 2) rfl rfl) rfl) em_int em_int)⟩) (nx_set 3)))⟩) (nx_set 2))) am_nil)))))))
abbrev N_powers_of : List Str := [("numbers" : Str), ("most" : Str), ("found" : Str), ("number" : Str), ("row" : Str)]
theorem nd_powers_of : N_powers_of.Nodup := by decide +kernel
theorem sc_powers_of : FnScope N_powers_of [("numbers" : Str), ("most" : Str)] (defScope s_powers_of) := ⟨rfl, rfl, rfl, nd_powers_of, rfl, by decide +kernel, by decide +kernel⟩
def b_powers_of : M Fl := sSeq (mIf (mNot (mB (mChain eLe eLe (mC (.int 1)) (mGet 1) (mC (.int 6)))))
    (sRaise ("ShapeError" : Str))
    (sNx))
    (sSeq (sSetO 2 (mLst (mNil)))
    (sSeq (mFor (mIt (mGet 0)) (gSet 3) (sSeq (sSetO 4 (mLst (mCons (mGet 3) (mNil))))
    (sSeq (mWhile (mB (mBin eLt (mUn eLen2 (mPeek 4)) (mGet 1))) (sExpr (mAppend (mPl 4) (mBin eMul2 (mIxO eIx 4 (mUn eNeg (mC (.int 1)))) (mGet 3)))) 10000000)
    (sExpr (mAppend (mPl 2) (mUn eTuple (mPeek 4)))))))
    (sRet (mUn eTuple (mPeek 2)))))
def F_powers_of : Fn := runB 5 b_powers_of
theorem w_powers_of (fx : Fx K mg base Gs Ls) : FM P w K mg base (tbs Gs Ls) 1 ("powers_of" : Str) 2 F_powers_of :=
  fn_d (N := N_powers_of) (ps := [("numbers" : Str), ("most" : Str)]) (b := false) fx.d_powers_of sc_powers_of (by decide) fx.g_powers_of (fun _ _ _ _ _ _ us hl => match us, hl with | [_, _], _ => rfl) (fun h => nomatch h)
  (fun X W c est efr _ => have nd := nd_powers_of; (sms_cons (sm_if (bm_not (bm_chain (cm_le) (cm_le) em_int (c.var (i := 1) rfl rfl) em_int)) (sms_one (sm_raise c.kx.calm c.kx.tk (c.gl rfl) (c.exc fx.ShapeError))) sms_nil)
    (sms_cons (c.setO nd (i := 2) rfl rfl (om_lst am_nil) rfl)
    (sms_cons (sm_for (I := [3]) c.kx.pa c.kx.calm (im_src (c.var (i := 0) rfl rfl)) (c.gm nd (i := 3) rfl rfl rfl) (nx_set 3) (sms_cons (c.setO nd (i := 4) rfl rfl (om_lst (am_cons (c.var (i := 3) rfl rfl) am_nil)) rfl)
    (sms_cons (sm_while 10000000 c.kx.pa (bm_cmp (cm_lt) (em_len2 (c.bt fx.B) (c.gl (x := ("len" : Str)) rfl) (c.nvar (i := 4) rfl rfl)) (c.var (i := 1) rfl rfl) rfl) (sms_one (sm_expr (em_append (c.pl (i := 4) rfl rfl) (em_mul (em_ixO c.hu (i := 4) (by rw [c.eN]; rfl) (by rw [c.eS]; exact visB_ok rfl) (em_neg em_int)) (c.var (i := 3) rfl rfl))))))
    (sms_one (sm_expr (em_append (c.pl (i := 2) rfl rfl) (em_tuple (c.bt fx.B) (c.gl (x := ("tuple" : Str)) rfl) (c.nvar (i := 4) rfl rfl))))))))
    (sms_one (sm_ret (em_tuple (c.bt fx.B) (c.gl (x := ("tuple" : Str)) rfl) (c.nvar (i := 2) rfl rfl))))))))
abbrev N_edges_even : List Str := [("numbers" : Str), ("bins" : Str), ("low" : Str), ("high" : Str), ("width" : Str), ("place" : Str)]
theorem nd_edges_even : N_edges_even.Nodup := by decide +kernel
theorem sc_edges_even : FnScope N_edges_even [("numbers" : Str), ("bins" : Str)] (defScope s_edges_even) := ⟨rfl, rfl, rfl, nd_edges_even, rfl, by decide +kernel, by decide +kernel⟩
def b_edges_even : M Fl := sSeq (mIf (mOrB (mB (mBin eEq (mUn eLen2 (mPeek 0)) (mC (.int 0)))) (mNot (mB (mChain eLe eLe (mC (.int 1)) (mGet 1) (mC (.int 50))))))
    (sRaise ("ShapeError" : Str))
    (sNx))
    (sSeq (sAsg (mTup (mCons (mUn (eMm minE) (mPeek 0)) (mCons (mUn (eMm maxE) (mPeek 0)) (mNil)))) (gTupM 2 (gConsM (gSet 2) (gConsM (gSet 3) (gNilM)))))
    (sSeq (sSet 4 (mArgs eMax2 (mCons (mC (.int 1)) (mCons (mBin eDiv (mBin eAdd2 (mBin eSub (mGet 3) (mGet 2)) (mGet 1)) (mGet 1)) (mNil)))))
    (sRet (mGTup [] [5] (mRng1 (mCons (mBin eAdd2 (mGet 1) (mC (.int 1))) (mNil))) (gSet 5) (mYes) (mBin eAdd2 (mGet 2) (mBin eMul2 (mGet 4) (mGet 5)))))))
def F_edges_even : Fn := runB 6 b_edges_even
theorem w_edges_even (fx : Fx K mg base Gs Ls) : FM P w K mg base (tbs Gs Ls) 2 ("edges_even" : Str) 2 F_edges_even :=
  fn_d (N := N_edges_even) (ps := [("numbers" : Str), ("bins" : Str)]) (b := true) fx.d_edges_even sc_edges_even (by decide) fx.g_edges_even (fun _ _ _ _ _ _ us hl => match us, hl with | [_, _], _ => rfl) (fun _ => fx.t_edges_even)
  (fun X W c est efr _ => have nd := nd_edges_even; (sms_cons (sm_if (bm_bw (bw_or (bm_cmp (cm_eq c.hu) (em_len2 (c.bt fx.B) (c.gl (x := ("len" : Str)) rfl) (c.nvar (i := 0) rfl rfl)) em_int rfl) (bw_or1 (bm_not (bm_chain (cm_le) (cm_le) em_int (c.var (i := 1) rfl rfl) em_int))))) (sms_one (sm_raise c.kx.calm c.kx.tk (c.gl rfl) (c.exc fx.ShapeError))) sms_nil)
    (sms_cons (sm_asg (I := [2, 3]) (em_tup (am_cons (em_min c.kx.calm c.hu (c.bt fx.B) (c.gl (x := ("min" : Str)) rfl) (c.nvar (i := 0) rfl rfl)) (am_cons (em_max c.kx.calm c.hu (c.bt fx.B) (c.gl (x := ("max" : Str)) rfl) (c.nvar (i := 0) rfl rfl)) am_nil))) (gm_tup c.kx.calm (gms_cons (c.gm nd (i := 2) rfl rfl rfl) (gms_cons (c.gm nd (i := 3) rfl rfl rfl) gms_nil))) (nx_tup (nx_cons (nx_set 2) (nx_cons (nx_set 3) nx_nil))) rfl ((sws_scope c.eS).trans rfl))
    (sms_cons (c.set nd (i := 4) rfl rfl (em_max2 c.kx.calm (c.bt fx.B) (c.gl (x := ("max" : Str)) rfl) (am_cons em_int (am_cons (em_div (em_add (em_sub (c.var (i := 3) rfl rfl) (c.var (i := 2) rfl rfl)) (c.var (i := 1) rfl rfl)) (c.var (i := 1) rfl rfl)) am_nil))) rfl)
    (sms_one (sm_ret (em_tupG (c.bt fx.B) (c.gl (x := ("tuple" : Str)) rfl) (c.gs (own := [(("place" : Str), 5)]) (nl := []) fx.bm nd rfl rfl (by decide +kernel) (im_range1 (c.bt fx.B) (c.gl (x := ("range" : Str)) rfl) (am_cons (em_add (c.var (i := 1) rfl rfl) em_int) am_nil)) (fun _ => rfl) nil_exc (fun X1 W1 c1 => ⟨(c1.gm nd (i := 5) rfl rfl rfl), ptm_nil, (em_add (c1.var (i := 2) rfl rfl) (em_mul (c1.var (i := 4) rfl rfl) (c1.var (i := 5) rfl rfl)))⟩) (nx_set 5)))))))))
abbrev N_edges_full : List Str := [("numbers" : Str), ("bins" : Str), ("order" : Str), ("found" : Str), ("place" : Str)]
theorem nd_edges_full : N_edges_full.Nodup := by decide +kernel
theorem sc_edges_full : FnScope N_edges_full [("numbers" : Str), ("bins" : Str)] (defScope s_edges_full) := ⟨rfl, rfl, rfl, nd_edges_full, rfl, by decide +kernel, by decide +kernel⟩
def b_edges_full : M Fl := sSeq (mIf (mOrB (mB (mBin eEq (mUn eLen2 (mPeek 0)) (mC (.int 0)))) (mNot (mB (mChain eLe eLe (mC (.int 1)) (mGet 1) (mC (.int 50))))))
    (sRaise ("ShapeError" : Str))
    (sNx))
    (sSeq (sSet 2 (mFrz ((mPeek 0) >>= eSorted false)))
    (sSeq (sSetO 3 (mDc [4] (mRng1 (mCons (mGet 1) (mNil))) (gSet 4) (mYes) (mBin eIx (mGet 2) (mBin eDiv (mBin eMul2 (mUn eLen2 (mPeek 2)) (mGet 4)) (mGet 1))) (mC (.bl true))))
    (sSeq (sStore (mC (.bl true)) (mPl 3) (mBin eAdd2 (mBin eIx (mGet 2) (mUn eNeg (mC (.int 1)))) (mC (.int 1))))
    (sRet (mUn eTuple (mFrz ((mPeek 3) >>= eSorted false)))))))
def F_edges_full : Fn := runB 5 b_edges_full
theorem w_edges_full (fx : Fx K mg base Gs Ls) : FM P w K mg base (tbs Gs Ls) 1 ("edges_full" : Str) 2 F_edges_full :=
  fn_d (N := N_edges_full) (ps := [("numbers" : Str), ("bins" : Str)]) (b := false) fx.d_edges_full sc_edges_full (by decide) fx.g_edges_full (fun _ _ _ _ _ _ us hl => match us, hl with | [_, _], _ => rfl) (fun h => nomatch h)
  (fun X W c est efr _ => have nd := nd_edges_full; (sms_cons (sm_if (bm_bw (bw_or (bm_cmp (cm_eq c.hu) (em_len2 (c.bt fx.B) (c.gl (x := ("len" : Str)) rfl) (c.nvar (i := 0) rfl rfl)) em_int rfl) (bw_or1 (bm_not (bm_chain (cm_le) (cm_le) em_int (c.var (i := 1) rfl rfl) em_int))))) (sms_one (sm_raise c.kx.calm c.kx.tk (c.gl rfl) (c.exc fx.ShapeError))) sms_nil)
    (sms_cons (c.set nd (i := 2) rfl rfl (em_frz (om_sorted c.kx.calm c.hu (c.bt fx.B) (c.gl (x := ("sorted" : Str)) rfl) (c.nvar (i := 0) rfl rfl))) rfl)
    (sms_cons (sm_setDc (own := [(("place" : Str), 4)]) c.kx (c.nd nd) (by rw [c.eN]; rfl) (by rw [c.eS]; rfl) ((swv_scope c.eS).trans rfl) (c.ok (by decide +kernel)) (im_range1 (c.bt fx.B) (c.gl (x := ("range" : Str)) rfl) (am_cons (c.var (i := 1) rfl rfl) am_nil)) (c.db (fun X1 W1 c1 => ⟨(c1.gm nd (i := 4) rfl rfl rfl), ptm_nil, (em_ix c1.hu (c1.var (i := 2) rfl rfl) (em_div (em_mul (em_len2 (c1.bt fx.B) (c1.gl (x := ("len" : Str)) rfl) (c1.nvar (i := 2) rfl rfl)) (c1.var (i := 4) rfl rfl)) (c1.var (i := 1) rfl rfl))), em_bl⟩) (nx_set 4)))
    (sms_cons (sm_store c.hu em_bl (c.pl (i := 3) rfl rfl) (em_add (em_ix c.hu (c.var (i := 2) rfl rfl) (em_neg em_int)) em_int))
    (sms_one (sm_ret (em_tuple (c.bt fx.B) (c.gl (x := ("tuple" : Str)) rfl) (nm_em (em_frz (om_sorted c.kx.calm c.hu (c.bt fx.B) (c.gl (x := ("sorted" : Str)) rfl) (c.nvar (i := 3) rfl rfl))))))))))))
abbrev N_check_edges : List Str := [("edges" : Str), ("one" : Str), ("other" : Str)]
theorem nd_check_edges : N_check_edges.Nodup := by decide +kernel
theorem sc_check_edges : FnScope N_check_edges [("edges" : Str)] (defScope s_check_edges) := ⟨rfl, rfl, rfl, nd_check_edges, rfl, by decide +kernel, by decide +kernel⟩
def b_check_edges : M Fl := mIf (mOrB (mB (mBin eLt (mUn eLen2 (mPeek 0)) (mC (.int 2)))) (mTru (mGany [] [1, 2] (mZip (mCons (mGet 0) (mCons (mSl (mGet 0) (mPart (mC (.int 1))) (mPart0)) (mNil)))) (gTupM 2 (gConsM (gSet 1) (gConsM (gSet 2) (gNilM)))) (mYes) (mBin eGe (mGet 1) (mGet 2)))))
    (sRaise ("ShapeError" : Str))
    (sNx)
def F_check_edges : Fn := runB 3 b_check_edges
theorem w_check_edges (fx : Fx K mg base Gs Ls) : FM P w K mg base (tbs Gs Ls) 2 ("check_edges" : Str) 1 F_check_edges :=
  fn_d (N := N_check_edges) (ps := [("edges" : Str)]) (b := true) fx.d_check_edges sc_check_edges (by decide) fx.g_check_edges (fun _ _ _ _ _ _ us hl => match us, hl with | [_], _ => rfl) (fun _ => fx.t_check_edges)
  (fun X W c est efr _ => have nd := nd_check_edges; (sms_one (sm_if (bm_bw (bw_or (bm_cmp (cm_lt) (em_len2 (c.bt fx.B) (c.gl (x := ("len" : Str)) rfl) (c.nvar (i := 0) rfl rfl)) em_int rfl) (bw_or1 (bm_tru (em_anyG (c.bt fx.B) (c.gl (x := ("any" : Str)) rfl) (c.gs (own := [(("one" : Str), 1), (("other" : Str), 2)]) (nl := []) fx.bm nd rfl rfl (by decide +kernel) (im_zip (c.bt fx.B) (c.gl (x := ("zip" : Str)) rfl) (am_cons (c.var (i := 0) rfl rfl) (am_cons (em_slice (c.var (i := 0) rfl rfl) (part_some em_int) part_none) am_nil))) (fun _ => rfl) nil_exc (fun X1 W1 c1 => ⟨(gm_tup c1.kx.calm (gms_cons (c1.gm nd (i := 1) rfl rfl rfl) (gms_cons (c1.gm nd (i := 2) rfl rfl rfl) gms_nil))), ptm_nil, (em_cmp (cm_ge) (c1.var (i := 1) rfl rfl) (c1.var (i := 2) rfl rfl) rfl)⟩) (nx_tup (nx_cons (nx_set 1) (nx_cons (nx_set 2) nx_nil))))))))) (sms_one (sm_raise c.kx.calm c.kx.tk (c.gl rfl) (c.exc fx.ShapeError))) sms_nil)))
abbrev N_bin_of : List Str := [("number" : Str), ("edges" : Str), ("place" : Str), ("edge" : Str)]
theorem nd_bin_of : N_bin_of.Nodup := by decide +kernel
theorem sc_bin_of : FnScope N_bin_of [("number" : Str), ("edges" : Str)] (defScope s_bin_of) := ⟨rfl, rfl, rfl, nd_bin_of, rfl, by decide +kernel, by decide +kernel⟩
def b_bin_of : M Fl := sSeq (sExpr (mCall 1 F_check_edges (mCons (mGet 1) (mNil))))
    (sSeq (sSet 2 (mBin eSub (mUn eLen2 (mFrz (mLc [3] (mIt (mGet 1)) (gSet 3) (mB (mBin eLe (mGet 3) (mGet 0))) (mC (.int 1))))) (mC (.int 1))))
    (sRet (mArgs eMax2 (mCons (mC (.int 0)) (mCons (mArgs eMin2 (mCons (mGet 2) (mCons (mBin eSub (mUn eLen2 (mPeek 1)) (mC (.int 2))) (mNil)))) (mNil))))))
def F_bin_of : Fn := runB 4 b_bin_of
theorem w_bin_of (fx : Fx K mg base Gs Ls) : FM P w K mg base (tbs Gs Ls) 3 ("bin_of" : Str) 2 F_bin_of :=
  fn_d (N := N_bin_of) (ps := [("number" : Str), ("edges" : Str)]) (b := false) fx.d_bin_of sc_bin_of (by decide) fx.g_bin_of (fun _ _ _ _ _ _ us hl => match us, hl with | [_, _], _ => rfl) (fun h => nomatch h)
  (fun X W c est efr _ => have nd := nd_bin_of; (sms_cons (sm_expr (c.call (w_check_edges fx) (by decide) rfl (am_cons (c.var (i := 1) rfl rfl) am_nil)))
    (sms_cons (c.set nd (i := 2) rfl rfl (em_sub (em_len2 (c.bt fx.B) (c.gl (x := ("len" : Str)) rfl) (nm_em (em_frz (om_lc (own := [(("edge" : Str), 3)]) c.kx (c.nd nd) (c.ok (by decide +kernel)) (im_src (c.var (i := 1) rfl rfl)) (c.lb (fun X1 W1 c1 => ⟨(c1.gm nd (i := 3) rfl rfl rfl), (ptm_one (bm_cmp (cm_le) (c1.var (i := 3) rfl rfl) (c1.var (i := 0) rfl rfl) rfl)), em_int⟩) (nx_set 3)))))) em_int) rfl)
    (sms_one (sm_ret (em_max2 c.kx.calm (c.bt fx.B) (c.gl (x := ("max" : Str)) rfl) (am_cons em_int (am_cons (em_min2 c.kx.calm (c.bt fx.B) (c.gl (x := ("min" : Str)) rfl) (am_cons (c.var (i := 2) rfl rfl) (am_cons (em_sub (em_len2 (c.bt fx.B) (c.gl (x := ("len" : Str)) rfl) (c.nvar (i := 1) rfl rfl)) em_int) am_nil))) am_nil))))))))
abbrev N_binned : List Str := [("numbers" : Str), ("edges" : Str), ("number" : Str)]
theorem nd_binned : N_binned.Nodup := by decide +kernel
theorem sc_binned : FnScope N_binned [("numbers" : Str), ("edges" : Str)] (defScope s_binned) := ⟨rfl, rfl, rfl, nd_binned, rfl, by decide +kernel, by decide +kernel⟩
def b_binned : M Fl := sRet (mGTup [("ShapeError" : Str)] [2] (mIt (mGet 0)) (gSet 2) (mYes) (mCall 2 F_bin_of (mCons (mGet 2) (mCons (mGet 1) (mNil)))))
def F_binned : Fn := runB 3 b_binned
theorem w_binned (fx : Fx K mg base Gs Ls) : FM P w K mg base (tbs Gs Ls) 5 ("binned" : Str) 2 F_binned :=
  fn_d (N := N_binned) (ps := [("numbers" : Str), ("edges" : Str)]) (b := true) fx.d_binned sc_binned (by decide) fx.g_binned (fun _ _ _ _ _ _ us hl => match us, hl with | [_, _], _ => rfl) (fun _ => fx.t_binned)
  (fun X W c est efr _ => have nd := nd_binned; (sms_one (sm_ret (em_tupG (c.bt fx.B) (c.gl (x := ("tuple" : Str)) rfl) (c.gs (own := [(("number" : Str), 2)]) (nl := [("ShapeError" : Str)]) fx.bm nd rfl rfl (by decide +kernel) (im_src (c.var (i := 0) rfl rfl)) (fun _ => rfl) (one_exc fx.ShapeError) (fun X1 W1 c1 => ⟨(c1.gm nd (i := 2) rfl rfl rfl), ptm_nil, (c1.call (w_bin_of fx) (by decide) rfl (am_cons (c1.var (i := 2) rfl rfl) (am_cons (c1.var (i := 1) rfl rfl) am_nil)))⟩) (nx_set 2))))))
abbrev N_shares_of : List Str := [("numbers" : Str), ("most" : Str), ("low" : Str), ("high" : Str), ("number" : Str)]
theorem nd_shares_of : N_shares_of.Nodup := by decide +kernel
theorem sc_shares_of : FnScope N_shares_of [("numbers" : Str), ("most" : Str)] (defScope s_shares_of) := ⟨rfl, rfl, rfl, nd_shares_of, rfl, by decide +kernel, by decide +kernel⟩
def b_shares_of : M Fl := sSeq (mIf (mOrB (mB (mBin eEq (mUn eLen2 (mPeek 0)) (mC (.int 0)))) (mB (mBin eLt (mGet 1) (mC (.int 1)))))
    (sRaise ("ShapeError" : Str))
    (sNx))
    (sSeq (sAsg (mTup (mCons (mUn (eMm minE) (mPeek 0)) (mCons (mUn (eMm maxE) (mPeek 0)) (mNil)))) (gTupM 2 (gConsM (gSet 2) (gConsM (gSet 3) (gNilM)))))
    (sRet (mGTup [] [4] (mIt (mGet 0)) (gSet 4) (mYes) (mIf (mB (mBin eGt (mGet 3) (mGet 2))) (mBin eDiv (mBin eMul2 (mBin eSub (mGet 4) (mGet 2)) (mGet 1)) (mBin eSub (mGet 3) (mGet 2))) (mC (.int 0))))))
def F_shares_of : Fn := runB 5 b_shares_of
theorem w_shares_of (fx : Fx K mg base Gs Ls) : FM P w K mg base (tbs Gs Ls) 2 ("shares_of" : Str) 2 F_shares_of :=
  fn_d (N := N_shares_of) (ps := [("numbers" : Str), ("most" : Str)]) (b := true) fx.d_shares_of sc_shares_of (by decide) fx.g_shares_of (fun _ _ _ _ _ _ us hl => match us, hl with | [_, _], _ => rfl) (fun _ => fx.t_shares_of)
  (fun X W c est efr _ => have nd := nd_shares_of; (sms_cons (sm_if (bm_bw (bw_or (bm_cmp (cm_eq c.hu) (em_len2 (c.bt fx.B) (c.gl (x := ("len" : Str)) rfl) (c.nvar (i := 0) rfl rfl)) em_int rfl) (bw_or1 (bm_cmp (cm_lt) (c.var (i := 1) rfl rfl) em_int rfl)))) (sms_one (sm_raise c.kx.calm c.kx.tk (c.gl rfl) (c.exc fx.ShapeError))) sms_nil)
    (sms_cons (sm_asg (I := [2, 3]) (em_tup (am_cons (em_min c.kx.calm c.hu (c.bt fx.B) (c.gl (x := ("min" : Str)) rfl) (c.nvar (i := 0) rfl rfl)) (am_cons (em_max c.kx.calm c.hu (c.bt fx.B) (c.gl (x := ("max" : Str)) rfl) (c.nvar (i := 0) rfl rfl)) am_nil))) (gm_tup c.kx.calm (gms_cons (c.gm nd (i := 2) rfl rfl rfl) (gms_cons (c.gm nd (i := 3) rfl rfl rfl) gms_nil))) (nx_tup (nx_cons (nx_set 2) (nx_cons (nx_set 3) nx_nil))) rfl ((sws_scope c.eS).trans rfl))
    (sms_one (sm_ret (em_tupG (c.bt fx.B) (c.gl (x := ("tuple" : Str)) rfl) (c.gs (own := [(("number" : Str), 4)]) (nl := []) fx.bm nd rfl rfl (by decide +kernel) (im_src (c.var (i := 0) rfl rfl)) (fun _ => rfl) nil_exc (fun X1 W1 c1 => ⟨(c1.gm nd (i := 4) rfl rfl rfl), ptm_nil, (em_if (bm_cmp (cm_gt) (c1.var (i := 3) rfl rfl) (c1.var (i := 2) rfl rfl) rfl) (em_div (em_mul (em_sub (c1.var (i := 4) rfl rfl) (c1.var (i := 2) rfl rfl)) (c1.var (i := 1) rfl rfl)) (em_sub (c1.var (i := 3) rfl rfl) (c1.var (i := 2) rfl rfl))) em_int)⟩) (nx_set 4))))))))
abbrev N_places_of : List Str := [("words" : Str), ("names" : Str), ("word" : Str), ("name" : Str)]
theorem nd_places_of : N_places_of.Nodup := by decide +kernel
theorem sc_places_of : FnScope N_places_of [("words" : Str), ("names" : Str)] (defScope s_places_of) := ⟨rfl, rfl, rfl, nd_places_of, rfl, by decide +kernel, by decide +kernel⟩
def b_places_of : M Fl := sSeq (mIf (mB (mBin eLt (mUn eLen2 (mFrz (mDc [3] (mIt (mGet 1)) (gSet 3) (mYes) (mGet 3) (mC (.bl true))))) (mUn eLen2 (mPeek 1))))
    (sRaise ("ShapeError" : Str))
    (sNx))
    (sRet (mGTup [] [2] (mIt (mGet 0)) (gSet 2) (mYes) (mIf (mB (mBin eIn (mGet 2) (mPeek 1))) (mBinL eIndex (mFrz ((mPeek 1) >>= eList)) (mGet 2)) (mBin eSub (mC (.int 0)) (mC (.int 1))))))
def F_places_of : Fn := runB 4 b_places_of
theorem w_places_of (fx : Fx K mg base Gs Ls) : FM P w K mg base (tbs Gs Ls) 2 ("places_of" : Str) 2 F_places_of :=
  fn_d (N := N_places_of) (ps := [("words" : Str), ("names" : Str)]) (b := true) fx.d_places_of sc_places_of (by decide) fx.g_places_of (fun _ _ _ _ _ _ us hl => match us, hl with | [_, _], _ => rfl) (fun _ => fx.t_places_of)
  (fun X W c est efr _ => have nd := nd_places_of; (sms_cons (sm_if (bm_cmp (cm_lt) (em_len2 (c.bt fx.B) (c.gl (x := ("len" : Str)) rfl) (nm_em (em_frz (om_dc (own := [(("name" : Str), 3)]) c.kx (c.nd nd) (c.ok (by decide +kernel)) (im_src (c.var (i := 1) rfl rfl)) (c.db (fun X1 W1 c1 => ⟨(c1.gm nd (i := 3) rfl rfl rfl), ptm_nil, (c1.var (i := 3) rfl rfl), em_bl⟩) (nx_set 3)))))) (em_len2 (c.bt fx.B) (c.gl (x := ("len" : Str)) rfl) (c.nvar (i := 1) rfl rfl)) rfl) (sms_one (sm_raise c.kx.calm c.kx.tk (c.gl rfl) (c.exc fx.ShapeError))) sms_nil)
    (sms_one (sm_ret (em_tupG (c.bt fx.B) (c.gl (x := ("tuple" : Str)) rfl) (c.gs (own := [(("word" : Str), 2)]) (nl := []) fx.bm nd rfl rfl (by decide +kernel) (im_src (c.var (i := 0) rfl rfl)) (fun _ => rfl) nil_exc (fun X1 W1 c1 => ⟨(c1.gm nd (i := 2) rfl rfl rfl), ptm_nil, (em_if (bm_in c1.hu66 (c1.var (i := 2) rfl rfl) (c1.nvar (i := 1) rfl rfl)) (em_index c1.hu65 (em_frz (om_list (c1.bt fx.B) (c1.gl (x := ("list" : Str)) rfl) (c1.nvar (i := 1) rfl rfl))) (c1.var (i := 2) rfl rfl)) (em_sub em_int em_int))⟩) (nx_set 2)))))))
abbrev N_means_for : List Str := [("words" : Str), ("numbers" : Str), ("weight" : Str), ("many" : Str), ("whole" : Str), ("found" : Str), ("word" : Str), ("beside" : Str), ("one" : Str), ("number" : Str)]
theorem nd_means_for : N_means_for.Nodup := by decide +kernel
theorem sc_means_for : FnScope N_means_for [("words" : Str), ("numbers" : Str), ("weight" : Str)] (defScope s_means_for) := ⟨rfl, rfl, rfl, nd_means_for, rfl, by decide +kernel, by decide +kernel⟩
def b_means_for : M Fl := sSeq (mIf (mOrB (mB (mBin eNe (mUn eLen2 (mPeek 0)) (mUn eLen2 (mPeek 1)))) (mOrB (mB (mBin eEq (mUn eLen2 (mPeek 0)) (mC (.int 0)))) (mB (mBin eLt (mGet 2) (mC (.int 0))))))
    (sRaise ("ShapeError" : Str))
    (sNx))
    (sSeq (sPar3O 3 4 5 (mUn eLen2 (mPeek 1)) (mUn eSum (mPeek 1)) (mLst (mNil)))
    (sSeq (mFor (mIt (mGet 0)) (gSet 6) (sSeq (sSet 7 (mFrz (mLc [8, 9] (mZip (mCons (mGet 0) (mCons (mGet 1) (mNil)))) (gTupM 2 (gConsM (gSet 8) (gConsM (gSet 9) (gNilM)))) (mB (mBin eEq (mGet 8) (mGet 6))) (mGet 9))))
    (sExpr (mAppend (mPl 5) (mBin eDiv (mBin eMul2 (mC (.int 100)) (mBin eAdd2 (mBin eMul2 (mUn eSum (mPeek 7)) (mGet 3)) (mBin eMul2 (mGet 2) (mGet 4)))) (mBin eMul2 (mGet 3) (mBin eAdd2 (mUn eLen2 (mPeek 7)) (mGet 2))))))))
    (sRet (mUn eTuple (mPeek 5)))))
def F_means_for : Fn := runB 10 b_means_for
theorem w_means_for (fx : Fx K mg base Gs Ls) : FM P w K mg base (tbs Gs Ls) 1 ("means_for" : Str) 3 F_means_for :=
  fn_d (N := N_means_for) (ps := [("words" : Str), ("numbers" : Str), ("weight" : Str)]) (b := false) fx.d_means_for sc_means_for (by decide) fx.g_means_for (fun _ _ _ _ _ _ us hl => match us, hl with | [_, _, _], _ => rfl) (fun h => nomatch h)
  (fun X W c est efr _ => have nd := nd_means_for; (sms_cons (sm_if (bm_bw (bw_or (bm_cmp (cm_ne c.hu) (em_len2 (c.bt fx.B) (c.gl (x := ("len" : Str)) rfl) (c.nvar (i := 0) rfl rfl)) (em_len2 (c.bt fx.B) (c.gl (x := ("len" : Str)) rfl) (c.nvar (i := 1) rfl rfl)) rfl) (bw_or (bm_cmp (cm_eq c.hu) (em_len2 (c.bt fx.B) (c.gl (x := ("len" : Str)) rfl) (c.nvar (i := 0) rfl rfl)) em_int rfl) (bw_or1 (bm_cmp (cm_lt) (c.var (i := 2) rfl rfl) em_int rfl))))) (sms_one (sm_raise c.kx.calm c.kx.tk (c.gl rfl) (c.exc fx.ShapeError))) sms_nil)
    (sms_cons (c.par3O nd (i := 3) (j := 4) (l := 5) rfl rfl rfl (by decide) (by decide) (by decide) rfl rfl rfl (em_len2 (c.bt fx.B) (c.gl (x := ("len" : Str)) rfl) (c.nvar (i := 1) rfl rfl)) (em_sum c.kx.calm (c.bt fx.B) (c.gl (x := ("sum" : Str)) rfl) (c.nvar (i := 1) rfl rfl)) (om_lst am_nil) ((sws_scope c.eS).trans rfl))
    (sms_cons (sm_for (I := [6]) c.kx.pa c.kx.calm (im_src (c.var (i := 0) rfl rfl)) (c.gm nd (i := 6) rfl rfl rfl) (nx_set 6) (sms_cons (sm_setLcF (own := [(("one" : Str), 8), (("number" : Str), 9)]) c.kx (c.nd nd) (by rw [c.eN]; rfl) (by rw [c.eS]; rfl) ((swv_scope c.eS).trans rfl) (c.ok (by decide +kernel)) (im_zip (c.bt fx.B) (c.gl (x := ("zip" : Str)) rfl) (am_cons (c.var (i := 0) rfl rfl) (am_cons (c.var (i := 1) rfl rfl) am_nil))) (c.lb (fun X1 W1 c1 => ⟨(gm_tup c1.kx.calm (gms_cons (c1.gm nd (i := 8) rfl rfl rfl) (gms_cons (c1.gm nd (i := 9) rfl rfl rfl) gms_nil))), (ptm_one (bm_cmp (cm_eq c1.hu) (c1.var (i := 8) rfl rfl) (c1.var (i := 6) rfl rfl) rfl)), (c1.var (i := 9) rfl rfl)⟩) (nx_tup (nx_cons (nx_set 8) (nx_cons (nx_set 9) nx_nil)))))
    (sms_one (sm_expr (em_append (c.pl (i := 5) rfl rfl) (em_div (em_mul em_int (em_add (em_mul (em_sum c.kx.calm (c.bt fx.B) (c.gl (x := ("sum" : Str)) rfl) (c.nvar (i := 7) rfl rfl)) (c.var (i := 3) rfl rfl)) (em_mul (c.var (i := 2) rfl rfl) (c.var (i := 4) rfl rfl)))) (em_mul (c.var (i := 3) rfl rfl) (em_add (em_len2 (c.bt fx.B) (c.gl (x := ("len" : Str)) rfl) (c.nvar (i := 7) rfl rfl)) (c.var (i := 2) rfl rfl)))))))))
    (sms_one (sm_ret (em_tuple (c.bt fx.B) (c.gl (x := ("tuple" : Str)) rfl) (c.nvar (i := 5) rfl rfl))))))))
abbrev N_crossed : List Str := [("one" : Str), ("other" : Str), ("a" : Str), ("b" : Str)]
theorem nd_crossed : N_crossed.Nodup := by decide +kernel
theorem sc_crossed : FnScope N_crossed [("one" : Str), ("other" : Str)] (defScope s_crossed) := ⟨rfl, rfl, rfl, nd_crossed, rfl, by decide +kernel, by decide +kernel⟩
def b_crossed : M Fl := sSeq (mIf (mB (mBin eNe (mUn eLen2 (mPeek 0)) (mUn eLen2 (mPeek 1))))
    (sRaise ("ShapeError" : Str))
    (sNx))
    (sRet (mGTup [] [2, 3] (mZip (mCons (mGet 0) (mCons (mGet 1) (mNil)))) (gTupM 2 (gConsM (gSet 2) (gConsM (gSet 3) (gNilM)))) (mYes) (mJs [mFmt (mGet 2), M.ret ("+" : Str), mFmt (mGet 3)])))
def F_crossed : Fn := runB 4 b_crossed
theorem w_crossed (fx : Fx K mg base Gs Ls) : FM P w K mg base (tbs Gs Ls) 2 ("crossed" : Str) 2 F_crossed :=
  fn_d (N := N_crossed) (ps := [("one" : Str), ("other" : Str)]) (b := true) fx.d_crossed sc_crossed (by decide) fx.g_crossed (fun _ _ _ _ _ _ us hl => match us, hl with | [_, _], _ => rfl) (fun _ => fx.t_crossed)
  (fun X W c est efr _ => have nd := nd_crossed; (sms_cons (sm_if (bm_cmp (cm_ne c.hu) (em_len2 (c.bt fx.B) (c.gl (x := ("len" : Str)) rfl) (c.nvar (i := 0) rfl rfl)) (em_len2 (c.bt fx.B) (c.gl (x := ("len" : Str)) rfl) (c.nvar (i := 1) rfl rfl)) rfl) (sms_one (sm_raise c.kx.calm c.kx.tk (c.gl rfl) (c.exc fx.ShapeError))) sms_nil)
    (sms_one (sm_ret (em_tupG (c.bt fx.B) (c.gl (x := ("tuple" : Str)) rfl) (c.gs (own := [(("a" : Str), 2), (("b" : Str), 3)]) (nl := []) fx.bm nd rfl rfl (by decide +kernel) (im_zip (c.bt fx.B) (c.gl (x := ("zip" : Str)) rfl) (am_cons (c.var (i := 0) rfl rfl) (am_cons (c.var (i := 1) rfl rfl) am_nil))) (fun _ => rfl) nil_exc (fun X1 W1 c1 => ⟨(gm_tup c1.kx.calm (gms_cons (c1.gm nd (i := 2) rfl rfl rfl) (gms_cons (c1.gm nd (i := 3) rfl rfl rfl) gms_nil))), ptm_nil, (em_joined (FPs.cons (fp_fmt (c1.var (i := 2) rfl rfl)) (FPs.cons fp_str (FPs.cons (fp_fmt (c1.var (i := 3) rfl rfl)) FPs.nil))))⟩) (nx_tup (nx_cons (nx_set 2) (nx_cons (nx_set 3) nx_nil)))))))))
abbrev N_lagged : List Str := [("numbers" : Str), ("back" : Str), ("place" : Str)]
theorem nd_lagged : N_lagged.Nodup := by decide +kernel
theorem sc_lagged : FnScope N_lagged [("numbers" : Str), ("back" : Str)] (defScope s_lagged) := ⟨rfl, rfl, rfl, nd_lagged, rfl, by decide +kernel, by decide +kernel⟩
def b_lagged : M Fl := sSeq (mIf (mNot (mB (mChain eLe eLe (mC (.int 1)) (mGet 1) (mC (.int 20)))))
    (sRaise ("ShapeError" : Str))
    (sNx))
    (sRet (mGTup [] [2] (mRng2 (mCons (mGet 1) (mCons (mUn eLen2 (mPeek 0)) (mNil)))) (gSet 2) (mYes) (mTup (mCons (mUn eTuple (mSl (mGet 0) (mPart (mBin eSub (mGet 2) (mGet 1))) (mPart (mGet 2)))) (mCons (mBin eIx (mGet 0) (mGet 2)) (mNil))))))
def F_lagged : Fn := runB 3 b_lagged
theorem w_lagged (fx : Fx K mg base Gs Ls) : FM P w K mg base (tbs Gs Ls) 2 ("lagged" : Str) 2 F_lagged :=
  fn_d (N := N_lagged) (ps := [("numbers" : Str), ("back" : Str)]) (b := true) fx.d_lagged sc_lagged (by decide) fx.g_lagged (fun _ _ _ _ _ _ us hl => match us, hl with | [_, _], _ => rfl) (fun _ => fx.t_lagged)
  (fun X W c est efr _ => have nd := nd_lagged; (sms_cons (sm_if (bm_not (bm_chain (cm_le) (cm_le) em_int (c.var (i := 1) rfl rfl) em_int)) (sms_one (sm_raise c.kx.calm c.kx.tk (c.gl rfl) (c.exc fx.ShapeError))) sms_nil)
    (sms_one (sm_ret (em_tupG (c.bt fx.B) (c.gl (x := ("tuple" : Str)) rfl) (c.gs (own := [(("place" : Str), 2)]) (nl := []) fx.bm nd rfl rfl (by decide +kernel) (im_range2 (c.bt fx.B) (c.gl (x := ("range" : Str)) rfl) (am_cons (c.var (i := 1) rfl rfl) (am_cons (em_len2 (c.bt fx.B) (c.gl (x := ("len" : Str)) rfl) (c.nvar (i := 0) rfl rfl)) am_nil))) (fun _ => rfl) nil_exc (fun X1 W1 c1 => ⟨(c1.gm nd (i := 2) rfl rfl rfl), ptm_nil, (em_tup (am_cons (em_tuple (c1.bt fx.B) (c1.gl (x := ("tuple" : Str)) rfl) (nm_em (em_slice (c1.var (i := 0) rfl rfl) (part_some (em_sub (c1.var (i := 2) rfl rfl) (c1.var (i := 1) rfl rfl))) (part_some (c1.var (i := 2) rfl rfl))))) (am_cons (em_ix c1.hu (c1.var (i := 0) rfl rfl) (c1.var (i := 2) rfl rfl)) am_nil)))⟩) (nx_set 2)))))))
abbrev N_clipped : List Str := [("numbers" : Str), ("part" : Str), ("order" : Str), ("cut" : Str), ("low" : Str), ("high" : Str), ("number" : Str)]
theorem nd_clipped : N_clipped.Nodup := by decide +kernel
theorem sc_clipped : FnScope N_clipped [("numbers" : Str), ("part" : Str)] (defScope s_clipped) := ⟨rfl, rfl, rfl, nd_clipped, rfl, by decide +kernel, by decide +kernel⟩
def b_clipped : M Fl := sSeq (mIf (mOrB (mB (mBin eEq (mUn eLen2 (mPeek 0)) (mC (.int 0)))) (mNot (mB (mChain eLe eLe (mC (.int 0)) (mGet 1) (mC (.int 49))))))
    (sRaise ("ShapeError" : Str))
    (sNx))
    (sSeq (sSet 2 (mFrz ((mPeek 0) >>= eSorted false)))
    (sSeq (sSet 3 (mBin eDiv (mBin eMul2 (mUn eLen2 (mPeek 2)) (mGet 1)) (mC (.int 100))))
    (sSeq (sAsg (mTup (mCons (mBin eIx (mGet 2) (mGet 3)) (mCons (mBin eIx (mGet 2) (mBin eSub (mBin eSub (mUn eLen2 (mPeek 2)) (mC (.int 1))) (mGet 3))) (mNil)))) (gTupM 2 (gConsM (gSet 4) (gConsM (gSet 5) (gNilM)))))
    (sRet (mGTup [] [6] (mIt (mGet 0)) (gSet 6) (mYes) (mArgs eMin2 (mCons (mGet 5) (mCons (mArgs eMax2 (mCons (mGet 4) (mCons (mGet 6) (mNil)))) (mNil)))))))))
def F_clipped : Fn := runB 7 b_clipped
theorem w_clipped (fx : Fx K mg base Gs Ls) : FM P w K mg base (tbs Gs Ls) 2 ("clipped" : Str) 2 F_clipped :=
  fn_d (N := N_clipped) (ps := [("numbers" : Str), ("part" : Str)]) (b := true) fx.d_clipped sc_clipped (by decide) fx.g_clipped (fun _ _ _ _ _ _ us hl => match us, hl with | [_, _], _ => rfl) (fun _ => fx.t_clipped)
  (fun X W c est efr _ => have nd := nd_clipped; (sms_cons (sm_if (bm_bw (bw_or (bm_cmp (cm_eq c.hu) (em_len2 (c.bt fx.B) (c.gl (x := ("len" : Str)) rfl) (c.nvar (i := 0) rfl rfl)) em_int rfl) (bw_or1 (bm_not (bm_chain (cm_le) (cm_le) em_int (c.var (i := 1) rfl rfl) em_int))))) (sms_one (sm_raise c.kx.calm c.kx.tk (c.gl rfl) (c.exc fx.ShapeError))) sms_nil)
    (sms_cons (c.set nd (i := 2) rfl rfl (em_frz (om_sorted c.kx.calm c.hu (c.bt fx.B) (c.gl (x := ("sorted" : Str)) rfl) (c.nvar (i := 0) rfl rfl))) rfl)
    (sms_cons (c.set nd (i := 3) rfl rfl (em_div (em_mul (em_len2 (c.bt fx.B) (c.gl (x := ("len" : Str)) rfl) (c.nvar (i := 2) rfl rfl)) (c.var (i := 1) rfl rfl)) em_int) rfl)
    (sms_cons (sm_asg (I := [4, 5]) (em_tup (am_cons (em_ix c.hu (c.var (i := 2) rfl rfl) (c.var (i := 3) rfl rfl)) (am_cons (em_ix c.hu (c.var (i := 2) rfl rfl) (em_sub (em_sub (em_len2 (c.bt fx.B) (c.gl (x := ("len" : Str)) rfl) (c.nvar (i := 2) rfl rfl)) em_int) (c.var (i := 3) rfl rfl))) am_nil))) (gm_tup c.kx.calm (gms_cons (c.gm nd (i := 4) rfl rfl rfl) (gms_cons (c.gm nd (i := 5) rfl rfl rfl) gms_nil))) (nx_tup (nx_cons (nx_set 4) (nx_cons (nx_set 5) nx_nil))) rfl ((sws_scope c.eS).trans rfl))
    (sms_one (sm_ret (em_tupG (c.bt fx.B) (c.gl (x := ("tuple" : Str)) rfl) (c.gs (own := [(("number" : Str), 6)]) (nl := []) fx.bm nd rfl rfl (by decide +kernel) (im_src (c.var (i := 0) rfl rfl)) (fun _ => rfl) nil_exc (fun X1 W1 c1 => ⟨(c1.gm nd (i := 6) rfl rfl rfl), ptm_nil, (em_min2 c1.kx.calm (c1.bt fx.B) (c1.gl (x := ("min" : Str)) rfl) (am_cons (c1.var (i := 5) rfl rfl) (am_cons (em_max2 c1.kx.calm (c1.bt fx.B) (c1.gl (x := ("max" : Str)) rfl) (am_cons (c1.var (i := 4) rfl rfl) (am_cons (c1.var (i := 6) rfl rfl) am_nil))) am_nil)))⟩) (nx_set 6))))))))))
abbrev N_useful : List Str := [("columns" : Str), ("most" : Str), ("sizes" : Str), ("column" : Str), ("place" : Str), ("size" : Str), ("thing" : Str)]
theorem nd_useful : N_useful.Nodup := by decide +kernel
theorem sc_useful : FnScope N_useful [("columns" : Str), ("most" : Str)] (defScope s_useful) := ⟨rfl, rfl, rfl, nd_useful, rfl, by decide +kernel, by decide +kernel⟩
def b_useful : M Fl := sSeq (mIf (mB (mBin eLt (mGet 1) (mC (.int 1))))
    (sRaise ("ShapeError" : Str))
    (sNx))
    (sSeq (sSet 2 (mFrz (mLc [3] (mIt (mGet 0)) (gSet 3) (mYes) (mUn eLen2 (mFrz (mDc [6] (mIt (mGet 3)) (gSet 6) (mYes) (mGet 6) (mC (.bl true))))))))
    (sRet (mGTup [] [4, 5] (mEnum (mCons (mGet 2) (mNil))) (gTupM 2 (gConsM (gSet 4) (gConsM (gSet 5) (gNilM)))) (mB (mChain eLt eLe (mC (.int 1)) (mGet 5) (mGet 1))) (mGet 4))))
def F_useful : Fn := runB 7 b_useful
theorem w_useful (fx : Fx K mg base Gs Ls) : FM P w K mg base (tbs Gs Ls) 2 ("useful" : Str) 2 F_useful :=
  fn_d (N := N_useful) (ps := [("columns" : Str), ("most" : Str)]) (b := true) fx.d_useful sc_useful (by decide) fx.g_useful (fun _ _ _ _ _ _ us hl => match us, hl with | [_, _], _ => rfl) (fun _ => fx.t_useful)
  (fun X W c est efr _ => have nd := nd_useful; (sms_cons (sm_if (bm_cmp (cm_lt) (c.var (i := 1) rfl rfl) em_int rfl) (sms_one (sm_raise c.kx.calm c.kx.tk (c.gl rfl) (c.exc fx.ShapeError))) sms_nil)
    (sms_cons (sm_setLcF (own := [(("column" : Str), 3)]) c.kx (c.nd nd) (by rw [c.eN]; rfl) (by rw [c.eS]; rfl) ((swv_scope c.eS).trans rfl) (c.ok (by decide +kernel)) (im_src (c.var (i := 0) rfl rfl)) (c.lb (fun X1 W1 c1 => ⟨(c1.gm nd (i := 3) rfl rfl rfl), ptm_nil, (em_len2 (c1.bt fx.B) (c1.gl (x := ("len" : Str)) rfl) (nm_em (em_frz (om_dc (own := [(("thing" : Str), 6)]) c1.kx (c1.nd nd) (c1.ok (by decide +kernel)) (im_src (c1.var (i := 3) rfl rfl)) (c1.db (fun X2 W2 c2 => ⟨(c2.gm nd (i := 6) rfl rfl rfl), ptm_nil, (c2.var (i := 6) rfl rfl), em_bl⟩) (nx_set 6))))))⟩) (nx_set 3)))
    (sms_one (sm_ret (em_tupG (c.bt fx.B) (c.gl (x := ("tuple" : Str)) rfl) (c.gs (own := [(("place" : Str), 4), (("size" : Str), 5)]) (nl := []) fx.bm nd rfl rfl (by decide +kernel) (im_enum (c.bt fx.B) (c.gl (x := ("enumerate" : Str)) rfl) (am_cons (c.var (i := 2) rfl rfl) am_nil)) (fun _ => rfl) nil_exc (fun X1 W1 c1 => ⟨(gm_tup c1.kx.calm (gms_cons (c1.gm nd (i := 4) rfl rfl rfl) (gms_cons (c1.gm nd (i := 5) rfl rfl rfl) gms_nil))), (ptm_one (bm_chain (cm_lt) (cm_le) em_int (c1.var (i := 5) rfl rfl) (c1.var (i := 1) rfl rfl))), (c1.var (i := 4) rfl rfl)⟩) (nx_tup (nx_cons (nx_set 4) (nx_cons (nx_set 5) nx_nil))))))))))
abbrev N_ranks_of : List Str := [("numbers" : Str), ("found" : Str), ("number" : Str), ("less" : Str), ("same" : Str), ("other" : Str)]
theorem nd_ranks_of : N_ranks_of.Nodup := by decide +kernel
theorem sc_ranks_of : FnScope N_ranks_of [("numbers" : Str)] (defScope s_ranks_of) := ⟨rfl, rfl, rfl, nd_ranks_of, rfl, by decide +kernel, by decide +kernel⟩
def b_ranks_of : M Fl := sSeq (sSetO 1 (mLst (mNil)))
    (sSeq (mFor (mIt (mGet 0)) (gSet 2) (sSeq (sSet 3 (mUn eLen2 (mFrz (mLc [5] (mIt (mGet 0)) (gSet 5) (mB (mBin eLt (mGet 5) (mGet 2))) (mC (.int 1))))))
    (sSeq (sSet 4 (mUn eLen2 (mFrz (mLc [5] (mIt (mGet 0)) (gSet 5) (mB (mBin eEq (mGet 5) (mGet 2))) (mC (.int 1))))))
    (sExpr (mAppend (mPl 1) (mBin eAdd2 (mBin eAdd2 (mBin eMul2 (mC (.int 2)) (mGet 3)) (mGet 4)) (mC (.int 1))))))))
    (sRet (mUn eTuple (mPeek 1))))
def F_ranks_of : Fn := runB 6 b_ranks_of
theorem w_ranks_of (fx : Fx K mg base Gs Ls) : FM P w K mg base (tbs Gs Ls) 1 ("ranks_of" : Str) 1 F_ranks_of :=
  fn_d (N := N_ranks_of) (ps := [("numbers" : Str)]) (b := false) fx.d_ranks_of sc_ranks_of (by decide) fx.g_ranks_of (fun _ _ _ _ _ _ us hl => match us, hl with | [_], _ => rfl) (fun h => nomatch h)
  (fun X W c est efr _ => have nd := nd_ranks_of; (sms_cons (c.setO nd (i := 1) rfl rfl (om_lst am_nil) rfl)
    (sms_cons (sm_for (I := [2]) c.kx.pa c.kx.calm (im_src (c.var (i := 0) rfl rfl)) (c.gm nd (i := 2) rfl rfl rfl) (nx_set 2) (sms_cons (c.set nd (i := 3) rfl rfl (em_len2 (c.bt fx.B) (c.gl (x := ("len" : Str)) rfl) (nm_em (em_frz (om_lc (own := [(("other" : Str), 5)]) c.kx (c.nd nd) (c.ok (by decide +kernel)) (im_src (c.var (i := 0) rfl rfl)) (c.lb (fun X1 W1 c1 => ⟨(c1.gm nd (i := 5) rfl rfl rfl), (ptm_one (bm_cmp (cm_lt) (c1.var (i := 5) rfl rfl) (c1.var (i := 2) rfl rfl) rfl)), em_int⟩) (nx_set 5)))))) rfl)
    (sms_cons (c.set nd (i := 4) rfl rfl (em_len2 (c.bt fx.B) (c.gl (x := ("len" : Str)) rfl) (nm_em (em_frz (om_lc (own := [(("other" : Str), 5)]) c.kx (c.nd nd) (c.ok (by decide +kernel)) (im_src (c.var (i := 0) rfl rfl)) (c.lb (fun X1 W1 c1 => ⟨(c1.gm nd (i := 5) rfl rfl rfl), (ptm_one (bm_cmp (cm_eq c1.hu) (c1.var (i := 5) rfl rfl) (c1.var (i := 2) rfl rfl) rfl)), em_int⟩) (nx_set 5)))))) rfl)
    (sms_one (sm_expr (em_append (c.pl (i := 1) rfl rfl) (em_add (em_add (em_mul em_int (c.var (i := 3) rfl rfl)) (c.var (i := 4) rfl rfl)) em_int)))))))
    (sms_one (sm_ret (em_tuple (c.bt fx.B) (c.gl (x := ("tuple" : Str)) rfl) (c.nvar (i := 1) rfl rfl)))))))
theorem lamOk_0 : LamOk (lamD 0) := ⟨rfl, rfl, rfl, by decide +kernel, fun _ _ _ => rfl⟩
theorem lamOk_1 : LamOk (lamD 1) := ⟨rfl, rfl, rfl, by decide +kernel, fun _ _ _ => rfl⟩
theorem lamOk_2 : LamOk (lamD 2) := ⟨rfl, rfl, rfl, by decide +kernel, fun _ _ _ => rfl⟩
theorem lamOk_3 : LamOk (lamD 3) := ⟨rfl, rfl, rfl, by decide +kernel, fun _ _ _ => rfl⟩
theorem lamOk_4 : LamOk (lamD 4) := ⟨rfl, rfl, rfl, by decide +kernel, fun _ _ _ => rfl⟩
theorem lamOk_5 : LamOk (lamD 5) := ⟨rfl, rfl, rfl, by decide +kernel, fun _ _ _ => rfl⟩
theorem lamOk_6 : LamOk (lamD 6) := ⟨rfl, rfl, rfl, by decide +kernel, fun _ _ _ => rfl⟩
theorem lamOk_7 : LamOk (lamD 7) := ⟨rfl, rfl, rfl, by decide +kernel, fun _ _ _ => rfl⟩
theorem lamOk_8 : LamOk (lamD 8) := ⟨rfl, rfl, rfl, by decide +kernel, fun _ _ _ => rfl⟩
theorem lamOk_9 : LamOk (lamD 9) := ⟨rfl, rfl, rfl, by decide +kernel, fun _ _ _ => rfl⟩
theorem lamOk_10 : LamOk (lamD 10) := ⟨rfl, rfl, rfl, by decide +kernel, fun _ _ _ => rfl⟩
theorem lamOk_11 : LamOk (lamD 11) := ⟨rfl, rfl, rfl, by decide +kernel, fun _ _ _ => rfl⟩
theorem lamOk_12 : LamOk (lamD 12) := ⟨rfl, rfl, rfl, by decide +kernel, fun _ _ _ => rfl⟩
theorem lamOk_13 : LamOk (lamD 13) := ⟨rfl, rfl, rfl, by decide +kernel, fun _ _ _ => rfl⟩
theorem lamOk_14 : LamOk (lamD 14) := ⟨rfl, rfl, rfl, by decide +kernel, fun _ _ _ => rfl⟩
theorem lamOk_15 : LamOk (lamD 15) := ⟨rfl, rfl, rfl, by decide +kernel, fun _ _ _ => rfl⟩
theorem lamOk_16 : LamOk (lamD 16) := ⟨rfl, rfl, rfl, by decide +kernel, fun _ _ _ => rfl⟩
theorem lamOk_17 : LamOk (lamD 17) := ⟨rfl, rfl, rfl, by decide +kernel, fun _ _ _ => rfl⟩
theorem lamOk_18 : LamOk (lamD 18) := ⟨rfl, rfl, rfl, by decide +kernel, fun _ _ _ => rfl⟩
theorem lamOk_19 : LamOk (lamD 19) := ⟨rfl, rfl, rfl, by decide +kernel, fun _ _ _ => rfl⟩
theorem lamOk_20 : LamOk (lamD 20) := ⟨rfl, rfl, rfl, by decide +kernel, fun _ _ _ => rfl⟩
theorem lamOk_21 : LamOk (lamD 21) := ⟨rfl, rfl, rfl, by decide +kernel, fun _ _ _ => rfl⟩
theorem lamOk_22 : LamOk (lamD 22) := ⟨rfl, rfl, rfl, by decide +kernel, fun _ _ _ => rfl⟩
theorem lamOk_23 : LamOk (lamD 23) := ⟨rfl, rfl, rfl, by decide +kernel, fun _ _ _ => rfl⟩
theorem lamOk_24 : LamOk (lamD 24) := ⟨rfl, rfl, rfl, by decide +kernel, fun _ _ _ => rfl⟩
theorem lamOk_25 : LamOk (lamD 25) := ⟨rfl, rfl, rfl, by decide +kernel, fun _ _ _ => rfl⟩
def bl_0 : M EV := mCall 2 F_edges_even (mCons (mTup (mNil)) (mCons (mC (.int 3)) (mNil)))
theorem wl_0 (fx : Fx K mg base Gs Ls) : LM P w K mg base (tbs Gs Ls) 6 0 (runE bl_0) := lm_ofC (kk := 5) (Gs := Gs) (Ls := Ls) (d := lamD 0) (by rw [fx.lam]; rfl) lamOk_0 fun X W c => (c.call (w_edges_even fx) (by decide) rfl (am_cons (em_tup am_nil) (am_cons em_int am_nil)))
def bl_1 : M EV := mCall 2 F_edges_even (mCons (mTup (mCons (mC (.int 1)) (mNil))) (mCons (mC (.int 0)) (mNil)))
theorem wl_1 (fx : Fx K mg base Gs Ls) : LM P w K mg base (tbs Gs Ls) 6 1 (runE bl_1) := lm_ofC (kk := 5) (Gs := Gs) (Ls := Ls) (d := lamD 1) (by rw [fx.lam]; rfl) lamOk_1 fun X W c => (c.call (w_edges_even fx) (by decide) rfl (am_cons (em_tup (am_cons em_int am_nil)) (am_cons em_int am_nil)))
def bl_2 : M EV := mCall 2 F_edges_even (mCons (mTup (mCons (mC (.int 1)) (mNil))) (mCons (mC (.int 51)) (mNil)))
theorem wl_2 (fx : Fx K mg base Gs Ls) : LM P w K mg base (tbs Gs Ls) 6 2 (runE bl_2) := lm_ofC (kk := 5) (Gs := Gs) (Ls := Ls) (d := lamD 2) (by rw [fx.lam]; rfl) lamOk_2 fun X W c => (c.call (w_edges_even fx) (by decide) rfl (am_cons (em_tup (am_cons em_int am_nil)) (am_cons em_int am_nil)))
def bl_3 : M EV := mCall 2 F_edges_full (mCons (mTup (mNil)) (mCons (mC (.int 3)) (mNil)))
theorem wl_3 (fx : Fx K mg base Gs Ls) : LM P w K mg base (tbs Gs Ls) 6 3 (runE bl_3) := lm_ofC (kk := 5) (Gs := Gs) (Ls := Ls) (d := lamD 3) (by rw [fx.lam]; rfl) lamOk_3 fun X W c => (c.call (w_edges_full fx) (by decide) rfl (am_cons (em_tup am_nil) (am_cons em_int am_nil)))
def bl_4 : M EV := mCall 2 F_edges_full (mCons (mTup (mCons (mC (.int 1)) (mNil))) (mCons (mC (.int 51)) (mNil)))
theorem wl_4 (fx : Fx K mg base Gs Ls) : LM P w K mg base (tbs Gs Ls) 6 4 (runE bl_4) := lm_ofC (kk := 5) (Gs := Gs) (Ls := Ls) (d := lamD 4) (by rw [fx.lam]; rfl) lamOk_4 fun X W c => (c.call (w_edges_full fx) (by decide) rfl (am_cons (em_tup (am_cons em_int am_nil)) (am_cons em_int am_nil)))
def bl_5 : M EV := mCall 2 F_bin_of (mCons (mC (.int 1)) (mCons (mTup (mCons (mC (.int 1)) (mNil))) (mNil)))
theorem wl_5 (fx : Fx K mg base Gs Ls) : LM P w K mg base (tbs Gs Ls) 6 5 (runE bl_5) := lm_ofC (kk := 5) (Gs := Gs) (Ls := Ls) (d := lamD 5) (by rw [fx.lam]; rfl) lamOk_5 fun X W c => (c.call (w_bin_of fx) (by decide) rfl (am_cons em_int (am_cons (em_tup (am_cons em_int am_nil)) am_nil)))
def bl_6 : M EV := mCall 2 F_bin_of (mCons (mC (.int 1)) (mCons (mTup (mCons (mC (.int 2)) (mCons (mC (.int 1)) (mNil)))) (mNil)))
theorem wl_6 (fx : Fx K mg base Gs Ls) : LM P w K mg base (tbs Gs Ls) 6 6 (runE bl_6) := lm_ofC (kk := 5) (Gs := Gs) (Ls := Ls) (d := lamD 6) (by rw [fx.lam]; rfl) lamOk_6 fun X W c => (c.call (w_bin_of fx) (by decide) rfl (am_cons em_int (am_cons (em_tup (am_cons em_int (am_cons em_int am_nil))) am_nil)))
def bl_7 : M EV := mCall 1 F_check_edges (mCons (mTup (mCons (mC (.int 1)) (mCons (mC (.int 1)) (mNil)))) (mNil))
theorem wl_7 (fx : Fx K mg base Gs Ls) : LM P w K mg base (tbs Gs Ls) 6 7 (runE bl_7) := lm_ofC (kk := 5) (Gs := Gs) (Ls := Ls) (d := lamD 7) (by rw [fx.lam]; rfl) lamOk_7 fun X W c => (c.call (w_check_edges fx) (by decide) rfl (am_cons (em_tup (am_cons em_int (am_cons em_int am_nil))) am_nil))
def bl_8 : M EV := mCall 2 F_binned (mCons (mTup (mCons (mC (.int 1)) (mNil))) (mCons (mTup (mNil)) (mNil)))
theorem wl_8 (fx : Fx K mg base Gs Ls) : LM P w K mg base (tbs Gs Ls) 6 8 (runE bl_8) := lm_ofC (kk := 5) (Gs := Gs) (Ls := Ls) (d := lamD 8) (by rw [fx.lam]; rfl) lamOk_8 fun X W c => (c.call (w_binned fx) (by decide) rfl (am_cons (em_tup (am_cons em_int am_nil)) (am_cons (em_tup am_nil) am_nil)))
def bl_9 : M EV := mCall 2 F_shares_of (mCons (mTup (mNil)) (mCons (mC (.int 1)) (mNil)))
theorem wl_9 (fx : Fx K mg base Gs Ls) : LM P w K mg base (tbs Gs Ls) 6 9 (runE bl_9) := lm_ofC (kk := 5) (Gs := Gs) (Ls := Ls) (d := lamD 9) (by rw [fx.lam]; rfl) lamOk_9 fun X W c => (c.call (w_shares_of fx) (by decide) rfl (am_cons (em_tup am_nil) (am_cons em_int am_nil)))
def bl_10 : M EV := mCall 2 F_shares_of (mCons (mTup (mCons (mC (.int 1)) (mNil))) (mCons (mC (.int 0)) (mNil)))
theorem wl_10 (fx : Fx K mg base Gs Ls) : LM P w K mg base (tbs Gs Ls) 6 10 (runE bl_10) := lm_ofC (kk := 5) (Gs := Gs) (Ls := Ls) (d := lamD 10) (by rw [fx.lam]; rfl) lamOk_10 fun X W c => (c.call (w_shares_of fx) (by decide) rfl (am_cons (em_tup (am_cons em_int am_nil)) (am_cons em_int am_nil)))
def bl_11 : M EV := mCall 1 F_square_root (mCons (mUn eNeg (mC (.int 1))) (mNil))
theorem wl_11 (fx : Fx K mg base Gs Ls) : LM P w K mg base (tbs Gs Ls) 6 11 (runE bl_11) := lm_ofC (kk := 5) (Gs := Gs) (Ls := Ls) (d := lamD 11) (by rw [fx.lam]; rfl) lamOk_11 fun X W c => (c.call (w_square_root fx) (by decide) rfl (am_cons (em_neg em_int) am_nil))
def bl_12 : M EV := mCall 1 F_standard (mCons (mTup (mNil)) (mNil))
theorem wl_12 (fx : Fx K mg base Gs Ls) : LM P w K mg base (tbs Gs Ls) 6 12 (runE bl_12) := lm_ofC (kk := 5) (Gs := Gs) (Ls := Ls) (d := lamD 12) (by rw [fx.lam]; rfl) lamOk_12 fun X W c => (c.call (w_standard fx) (by decide) rfl (am_cons (em_tup am_nil) am_nil))
def bl_13 : M EV := mCall 2 F_places_of (mCons (mC (.str ("a" : Str))) (mCons (mC (.str ("aa" : Str))) (mNil)))
theorem wl_13 (fx : Fx K mg base Gs Ls) : LM P w K mg base (tbs Gs Ls) 6 13 (runE bl_13) := lm_ofC (kk := 5) (Gs := Gs) (Ls := Ls) (d := lamD 13) (by rw [fx.lam]; rfl) lamOk_13 fun X W c => (c.call (w_places_of fx) (by decide) rfl (am_cons em_str (am_cons em_str am_nil)))
def bl_14 : M EV := mCall 3 F_means_for (mCons (mC (.str ("ab" : Str))) (mCons (mTup (mCons (mC (.int 1)) (mNil))) (mCons (mC (.int 1)) (mNil))))
theorem wl_14 (fx : Fx K mg base Gs Ls) : LM P w K mg base (tbs Gs Ls) 6 14 (runE bl_14) := lm_ofC (kk := 5) (Gs := Gs) (Ls := Ls) (d := lamD 14) (by rw [fx.lam]; rfl) lamOk_14 fun X W c => (c.call (w_means_for fx) (by decide) rfl (am_cons em_str (am_cons (em_tup (am_cons em_int am_nil)) (am_cons em_int am_nil))))
def bl_15 : M EV := mCall 3 F_means_for (mCons (mTup (mNil)) (mCons (mTup (mNil)) (mCons (mC (.int 1)) (mNil))))
theorem wl_15 (fx : Fx K mg base Gs Ls) : LM P w K mg base (tbs Gs Ls) 6 15 (runE bl_15) := lm_ofC (kk := 5) (Gs := Gs) (Ls := Ls) (d := lamD 15) (by rw [fx.lam]; rfl) lamOk_15 fun X W c => (c.call (w_means_for fx) (by decide) rfl (am_cons (em_tup am_nil) (am_cons (em_tup am_nil) (am_cons em_int am_nil))))
def bl_16 : M EV := mCall 3 F_means_for (mCons (mC (.str ("a" : Str))) (mCons (mTup (mCons (mC (.int 1)) (mNil))) (mCons (mUn eNeg (mC (.int 1))) (mNil))))
theorem wl_16 (fx : Fx K mg base Gs Ls) : LM P w K mg base (tbs Gs Ls) 6 16 (runE bl_16) := lm_ofC (kk := 5) (Gs := Gs) (Ls := Ls) (d := lamD 16) (by rw [fx.lam]; rfl) lamOk_16 fun X W c => (c.call (w_means_for fx) (by decide) rfl (am_cons em_str (am_cons (em_tup (am_cons em_int am_nil)) (am_cons (em_neg em_int) am_nil))))
def bl_17 : M EV := mCall 2 F_crossed (mCons (mC (.str ("a" : Str))) (mCons (mC (.str ("ab" : Str))) (mNil)))
theorem wl_17 (fx : Fx K mg base Gs Ls) : LM P w K mg base (tbs Gs Ls) 6 17 (runE bl_17) := lm_ofC (kk := 5) (Gs := Gs) (Ls := Ls) (d := lamD 17) (by rw [fx.lam]; rfl) lamOk_17 fun X W c => (c.call (w_crossed fx) (by decide) rfl (am_cons em_str (am_cons em_str am_nil)))
def bl_18 : M EV := mCall 2 F_powers_of (mCons (mTup (mCons (mC (.int 1)) (mNil))) (mCons (mC (.int 0)) (mNil)))
theorem wl_18 (fx : Fx K mg base Gs Ls) : LM P w K mg base (tbs Gs Ls) 6 18 (runE bl_18) := lm_ofC (kk := 5) (Gs := Gs) (Ls := Ls) (d := lamD 18) (by rw [fx.lam]; rfl) lamOk_18 fun X W c => (c.call (w_powers_of fx) (by decide) rfl (am_cons (em_tup (am_cons em_int am_nil)) (am_cons em_int am_nil)))
def bl_19 : M EV := mCall 2 F_powers_of (mCons (mTup (mCons (mC (.int 1)) (mNil))) (mCons (mC (.int 7)) (mNil)))
theorem wl_19 (fx : Fx K mg base Gs Ls) : LM P w K mg base (tbs Gs Ls) 6 19 (runE bl_19) := lm_ofC (kk := 5) (Gs := Gs) (Ls := Ls) (d := lamD 19) (by rw [fx.lam]; rfl) lamOk_19 fun X W c => (c.call (w_powers_of fx) (by decide) rfl (am_cons (em_tup (am_cons em_int am_nil)) (am_cons em_int am_nil)))
def bl_20 : M EV := mCall 2 F_lagged (mCons (mTup (mCons (mC (.int 1)) (mNil))) (mCons (mC (.int 0)) (mNil)))
theorem wl_20 (fx : Fx K mg base Gs Ls) : LM P w K mg base (tbs Gs Ls) 6 20 (runE bl_20) := lm_ofC (kk := 5) (Gs := Gs) (Ls := Ls) (d := lamD 20) (by rw [fx.lam]; rfl) lamOk_20 fun X W c => (c.call (w_lagged fx) (by decide) rfl (am_cons (em_tup (am_cons em_int am_nil)) (am_cons em_int am_nil)))
def bl_21 : M EV := mCall 2 F_lagged (mCons (mTup (mCons (mC (.int 1)) (mNil))) (mCons (mC (.int 21)) (mNil)))
theorem wl_21 (fx : Fx K mg base Gs Ls) : LM P w K mg base (tbs Gs Ls) 6 21 (runE bl_21) := lm_ofC (kk := 5) (Gs := Gs) (Ls := Ls) (d := lamD 21) (by rw [fx.lam]; rfl) lamOk_21 fun X W c => (c.call (w_lagged fx) (by decide) rfl (am_cons (em_tup (am_cons em_int am_nil)) (am_cons em_int am_nil)))
def bl_22 : M EV := mCall 2 F_clipped (mCons (mTup (mNil)) (mCons (mC (.int 1)) (mNil)))
theorem wl_22 (fx : Fx K mg base Gs Ls) : LM P w K mg base (tbs Gs Ls) 6 22 (runE bl_22) := lm_ofC (kk := 5) (Gs := Gs) (Ls := Ls) (d := lamD 22) (by rw [fx.lam]; rfl) lamOk_22 fun X W c => (c.call (w_clipped fx) (by decide) rfl (am_cons (em_tup am_nil) (am_cons em_int am_nil)))
def bl_23 : M EV := mCall 2 F_clipped (mCons (mTup (mCons (mC (.int 1)) (mNil))) (mCons (mC (.int 50)) (mNil)))
theorem wl_23 (fx : Fx K mg base Gs Ls) : LM P w K mg base (tbs Gs Ls) 6 23 (runE bl_23) := lm_ofC (kk := 5) (Gs := Gs) (Ls := Ls) (d := lamD 23) (by rw [fx.lam]; rfl) lamOk_23 fun X W c => (c.call (w_clipped fx) (by decide) rfl (am_cons (em_tup (am_cons em_int am_nil)) (am_cons em_int am_nil)))
def bl_24 : M EV := mCall 2 F_clipped (mCons (mTup (mCons (mC (.int 1)) (mNil))) (mCons (mUn eNeg (mC (.int 1))) (mNil)))
theorem wl_24 (fx : Fx K mg base Gs Ls) : LM P w K mg base (tbs Gs Ls) 6 24 (runE bl_24) := lm_ofC (kk := 5) (Gs := Gs) (Ls := Ls) (d := lamD 24) (by rw [fx.lam]; rfl) lamOk_24 fun X W c => (c.call (w_clipped fx) (by decide) rfl (am_cons (em_tup (am_cons em_int am_nil)) (am_cons (em_neg em_int) am_nil)))
def bl_25 : M EV := mCall 2 F_useful (mCons (mTup (mNil)) (mCons (mC (.int 0)) (mNil)))
theorem wl_25 (fx : Fx K mg base Gs Ls) : LM P w K mg base (tbs Gs Ls) 6 25 (runE bl_25) := lm_ofC (kk := 5) (Gs := Gs) (Ls := Ls) (d := lamD 25) (by rw [fx.lam]; rfl) lamOk_25 fun X W c => (c.call (w_useful fx) (by decide) rfl (am_cons (em_tup am_nil) (am_cons em_int am_nil)))
def lamF : Nat → Option Fn
  | 0 => some (runE bl_0)
  | 1 => some (runE bl_1)
  | 2 => some (runE bl_2)
  | 3 => some (runE bl_3)
  | 4 => some (runE bl_4)
  | 5 => some (runE bl_5)
  | 6 => some (runE bl_6)
  | 7 => some (runE bl_7)
  | 8 => some (runE bl_8)
  | 9 => some (runE bl_9)
  | 10 => some (runE bl_10)
  | 11 => some (runE bl_11)
  | 12 => some (runE bl_12)
  | 13 => some (runE bl_13)
  | 14 => some (runE bl_14)
  | 15 => some (runE bl_15)
  | 16 => some (runE bl_16)
  | 17 => some (runE bl_17)
  | 18 => some (runE bl_18)
  | 19 => some (runE bl_19)
  | 20 => some (runE bl_20)
  | 21 => some (runE bl_21)
  | 22 => some (runE bl_22)
  | 23 => some (runE bl_23)
  | 24 => some (runE bl_24)
  | 25 => some (runE bl_25)
  | _ => none
theorem fx_lam0 (fx : Fx K mg base Gs Ls) : ∀ (k : Nat) (f : Fn), lamF k = some f → LM P w K mg base (tbs Gs Ls) 6 k f
  | 0, _, h => by cases h; exact wl_0 fx
  | 1, _, h => by cases h; exact wl_1 fx
  | 2, _, h => by cases h; exact wl_2 fx
  | 3, _, h => by cases h; exact wl_3 fx
  | 4, _, h => by cases h; exact wl_4 fx
  | 5, _, h => by cases h; exact wl_5 fx
  | 6, _, h => by cases h; exact wl_6 fx
  | 7, _, h => by cases h; exact wl_7 fx
  | 8, _, h => by cases h; exact wl_8 fx
  | 9, _, h => by cases h; exact wl_9 fx
  | 10, _, h => by cases h; exact wl_10 fx
  | 11, _, h => by cases h; exact wl_11 fx
  | 12, _, h => by cases h; exact wl_12 fx
  | 13, _, h => by cases h; exact wl_13 fx
  | 14, _, h => by cases h; exact wl_14 fx
  | 15, _, h => by cases h; exact wl_15 fx
  | 16, _, h => by cases h; exact wl_16 fx
  | 17, _, h => by cases h; exact wl_17 fx
  | 18, _, h => by cases h; exact wl_18 fx
  | 19, _, h => by cases h; exact wl_19 fx
  | 20, _, h => by cases h; exact wl_20 fx
  | 21, _, h => by cases h; exact wl_21 fx
  | 22, _, h => by cases h; exact wl_22 fx
  | 23, _, h => by cases h; exact wl_23 fx
  | 24, _, h => by cases h; exact wl_24 fx
  | 25, _, h => by cases h; exact wl_25 fx
  | _ + 26, _, h => by cases h
theorem fx_lam {X : Cx} {W : WX} {k : Nat} {N : List Str} {sc osc : Scope} {b0 b1 : Bool} (c : Ct X Gs Ls W k P w K mg base N sc osc b0 b1) (fx : Fx K mg base Gs Ls) (i : Nat) (f : Fn) (h : lamF i = some f) : LM X.prog X.w X.K X.mg X.base (tbs Gs Ls) 6 i f := by
  rw [c.eP, c.eW, c.eK, c.eM, c.eB]; exact fx_lam0 fx i f h
abbrev N_l_told : List Str := [("what" : Str)]
theorem nd_l_told : N_l_told.Nodup := by decide +kernel
theorem sc_l_told : FnScope N_l_told [("what" : Str)] (defScope s_l_told) := ⟨rfl, rfl, rfl, nd_l_told, rfl, by decide +kernel, by decide +kernel⟩
def b_l_told : M Fl := sTry ("ShapeError" : Str) (sRet (mAct lamF 0)) (sRet (mC (.str ("ShapeError" : Str))))
def F_l_told : Fn := runB 1 b_l_told
theorem w_l_told (fx : Fx K mg base Gs Ls) : FM P w K mg base (tbs Gs Ls) 7 ("_law_told" : Str) 1 F_l_told :=
  fn_d (N := N_l_told) (ps := [("what" : Str)]) (b := false) fx.d_l_told sc_l_told (by decide) fx.g_l_told (fun _ _ _ _ _ _ us hl => match us, hl with | [_], _ => rfl) (fun h => nomatch h)
  (fun X W c est efr _ => have nd := nd_l_told; (sms_one (sm_try est efr (c.gl rfl) (c.exc fx.ShapeError) c.kx.tk (fun W2 pn2 xe2 tk2 pa2 => have ct := c.tr pn2 xe2 tk2 pa2; (sms_one (sm_ret (em_act (F := lamF) ct.kx.tk (ct.kx.room.mono (j := 6) (by decide)) (fun k f h => fx_lam ct fx k f h) (by rw [ct.eN]; rfl) (by rw [ct.eS]; exact visB_ok rfl))))) (fun a2 pn2 => (sms_one (sm_ret em_str))))))
abbrev N_l_plain : List Str := [("bad" : Str), ("f" : Str)]
theorem nd_l_plain : N_l_plain.Nodup := by decide +kernel
theorem sc_l_plain : FnScope N_l_plain [] (defScope s_l_plain) := ⟨rfl, rfl, rfl, nd_l_plain, rfl, by decide +kernel, by decide +kernel⟩
def b_l_plain : M Fl := sSeq (sSet 0 (mFrz (mLst (mCons (mC (.lam 0 [])) (mCons (mC (.lam 1 [])) (mCons (mC (.lam 2 [])) (mCons (mC (.lam 3 [])) (mCons (mC (.lam 4 [])) (mCons (mC (.lam 5 [])) (mCons (mC (.lam 6 [])) (mCons (mC (.lam 7 [])) (mCons (mC (.lam 8 [])) (mCons (mC (.lam 9 [])) (mCons (mC (.lam 10 [])) (mCons (mC (.lam 11 [])) (mCons (mC (.lam 12 [])) (mCons (mC (.lam 13 [])) (mCons (mC (.lam 14 [])) (mCons (mC (.lam 15 [])) (mCons (mC (.lam 16 [])) (mCons (mC (.lam 17 [])) (mCons (mC (.lam 18 [])) (mCons (mC (.lam 19 [])) (mCons (mC (.lam 20 [])) (mCons (mC (.lam 21 [])) (mCons (mC (.lam 22 [])) (mCons (mC (.lam 23 [])) (mCons (mC (.lam 24 [])) (mCons (mC (.lam 25 [])) (mNil))))))))))))))))))))))))))))))
    (sSeq (mIf (mOrB (mB (mBin eNe (mFrz (mLc [1] (mIt (mGet 0)) (gSet 1) (mB (mBin eNe (mCall 1 F_l_told (mCons (mGet 1) (mNil))) (mC (.str ("ShapeError" : Str))))) (mC (.int 1)))) (mFrz (mLst (mNil))))) (mB (mBin eNe (mCall 2 F_edges_even (mCons (mTup (mCons (mC (.int 1)) (mCons (mC (.int 5)) (mCons (mC (.int 9)) (mNil))))) (mCons (mC (.int 3)) (mNil)))) (mTup (mCons (mC (.int 1)) (mCons (mC (.int 4)) (mCons (mC (.int 7)) (mCons (mC (.int 10)) (mNil)))))))))
    (sRet (mC (.bl false)))
    (sNx))
    (sSeq (mIf (mOrB (mB (mBin eNe (mCall 2 F_edges_full (mCons (mTup (mCons (mC (.int 1)) (mCons (mC (.int 1)) (mCons (mC (.int 2)) (mCons (mC (.int 9)) (mNil)))))) (mCons (mC (.int 2)) (mNil)))) (mTup (mCons (mC (.int 1)) (mCons (mC (.int 2)) (mCons (mC (.int 10)) (mNil))))))) (mB (mBin eNe (mCall 2 F_binned (mCons (mTup (mCons (mC (.int 1)) (mCons (mC (.int 5)) (mCons (mC (.int 12)) (mNil))))) (mCons (mTup (mCons (mC (.int 1)) (mCons (mC (.int 4)) (mCons (mC (.int 7)) (mCons (mC (.int 10)) (mNil)))))) (mNil)))) (mTup (mCons (mC (.int 0)) (mCons (mC (.int 1)) (mCons (mC (.int 2)) (mNil))))))))
    (sRet (mC (.bl false)))
    (sNx))
    (sSeq (mIf (mB (mBin eNe (mCall 1 F_standard (mCons (mTup (mCons (mC (.int 1)) (mCons (mC (.int 5)) (mCons (mC (.int 9)) (mNil))))) (mNil))) (mTup (mCons (mUn eNeg (mC (.int 134))) (mCons (mC (.int 0)) (mCons (mC (.int 133)) (mNil)))))))
    (sRet (mC (.bl false)))
    (sNx))
    (sSeq (mIf (mNot (mAndB (mB (mBin eEq (mCall 2 F_shares_of (mCons (mTup (mCons (mC (.int 1)) (mCons (mC (.int 5)) (mCons (mC (.int 9)) (mNil))))) (mCons (mC (.int 100)) (mNil)))) (mTup (mCons (mC (.int 0)) (mCons (mC (.int 50)) (mCons (mC (.int 100)) (mNil))))))) (mB (mBin eEq (mCall 1 F_ranks_of (mCons (mTup (mCons (mC (.int 5)) (mCons (mC (.int 1)) (mCons (mC (.int 5)) (mNil))))) (mNil))) (mTup (mCons (mC (.int 5)) (mCons (mC (.int 2)) (mCons (mC (.int 5)) (mNil)))))))))
    (sRet (mC (.bl false)))
    (sNx))
    (sSeq (mIf (mB (mBin eNe (mCall 1 F_signs_of (mCons (mTup (mCons (mC (.str ("b" : Str))) (mCons (mC (.str ("a" : Str))) (mCons (mC (.str ("b" : Str))) (mNil))))) (mNil))) (mTup (mCons (mTup (mCons (mC (.str ("a" : Str))) (mCons (mC (.str ("b" : Str))) (mNil)))) (mCons (mTup (mCons (mTup (mCons (mC (.int 0)) (mCons (mC (.int 1)) (mNil)))) (mCons (mTup (mCons (mC (.int 1)) (mCons (mC (.int 0)) (mNil)))) (mCons (mTup (mCons (mC (.int 0)) (mCons (mC (.int 1)) (mNil)))) (mNil))))) (mNil))))))
    (sRet (mC (.bl false)))
    (sNx))
    (sSeq (mIf (mNot (mAndB (mB (mBin eEq (mCall 3 F_means_for (mCons (mC (.str ("aba" : Str))) (mCons (mTup (mCons (mC (.int 1)) (mCons (mC (.int 5)) (mCons (mC (.int 3)) (mNil))))) (mCons (mC (.int 1)) (mNil))))) (mTup (mCons (mC (.int 233)) (mCons (mC (.int 400)) (mCons (mC (.int 233)) (mNil))))))) (mB (mBin eEq (mCall 2 F_crossed (mCons (mC (.str ("ab" : Str))) (mCons (mC (.str ("xy" : Str))) (mNil)))) (mTup (mCons (mC (.str ("a+x" : Str))) (mCons (mC (.str ("b+y" : Str))) (mNil))))))))
    (sRet (mC (.bl false)))
    (sNx))
    (sSeq (mIf (mB (mBin eNe (mCall 2 F_powers_of (mCons (mTup (mCons (mC (.int 2)) (mCons (mC (.int 3)) (mNil)))) (mCons (mC (.int 3)) (mNil)))) (mTup (mCons (mTup (mCons (mC (.int 2)) (mCons (mC (.int 4)) (mCons (mC (.int 8)) (mNil))))) (mCons (mTup (mCons (mC (.int 3)) (mCons (mC (.int 9)) (mCons (mC (.int 27)) (mNil))))) (mNil))))))
    (sRet (mC (.bl false)))
    (sNx))
    (sSeq (mIf (mNot (mAndB (mB (mBin eEq (mCall 2 F_lagged (mCons (mTup (mCons (mC (.int 1)) (mCons (mC (.int 2)) (mCons (mC (.int 3)) (mCons (mC (.int 4)) (mNil)))))) (mCons (mC (.int 2)) (mNil)))) (mTup (mCons (mTup (mCons (mTup (mCons (mC (.int 1)) (mCons (mC (.int 2)) (mNil)))) (mCons (mC (.int 3)) (mNil)))) (mCons (mTup (mCons (mTup (mCons (mC (.int 2)) (mCons (mC (.int 3)) (mNil)))) (mCons (mC (.int 4)) (mNil)))) (mNil)))))) (mB (mBin eEq (mCall 2 F_clipped (mCons (mTup (mCons (mC (.int 1)) (mCons (mC (.int 2)) (mCons (mC (.int 3)) (mCons (mC (.int 100)) (mNil)))))) (mCons (mC (.int 25)) (mNil)))) (mTup (mCons (mC (.int 2)) (mCons (mC (.int 2)) (mCons (mC (.int 3)) (mCons (mC (.int 3)) (mNil))))))))))
    (sRet (mC (.bl false)))
    (sNx))
    (sSeq (mIf (mNot (mAndB (mB (mBin eEq (mCall 2 F_useful (mCons (mTup (mCons (mC (.str ("aab" : Str))) (mCons (mC (.str ("aaa" : Str))) (mCons (mC (.str ("abc" : Str))) (mNil))))) (mCons (mC (.int 2)) (mNil)))) (mTup (mCons (mC (.int 0)) (mNil))))) (mAndB (mB (mBin eEq (mCall 1 F_square_root (mCons (mC (.int 17)) (mNil))) (mC (.int 4)))) (mB (mBin eEq (mCall 1 F_ranks_of (mCons (mTup (mNil)) (mNil))) (mTup (mNil)))))))
    (sRet (mC (.bl false)))
    (sNx))
    (sRet (mBin eEq (mCall 1 F_signs_of (mCons (mTup (mNil)) (mNil))) (mTup (mCons (mTup (mNil)) (mCons (mTup (mNil)) (mNil)))))))))))))))
def F_l_plain : Fn := runB 2 b_l_plain
theorem w_l_plain (fx : Fx K mg base Gs Ls) : FM P w K mg base (tbs Gs Ls) 8 ("_law_plain" : Str) 0 F_l_plain :=
  fn_d (N := N_l_plain) (ps := []) (b := false) fx.d_l_plain sc_l_plain (by decide) fx.g_l_plain (fun _ _ _ _ _ _ us hl => match us, hl with | [], _ => rfl) (fun h => nomatch h)
  (fun X W c est efr htl => by
    obtain ⟨lt, eq⟩ := htl fx.t_l_plain
    have nd := nd_l_plain
    have lamP : ∀ (k : Nat) {params : Arguments} {body : Expr} {scope : Scope} {pos : Pos}, lamTab k = some ⟨("_law_plain" : Str) ++ ".<locals>." ++ "<lambda>", params, body, scope⟩ → defaultsOf params X.env = ([], []) → (∀ y ∈ scope.names, y.2 ≠ .free) → EM X (tbs Gs Ls) W (.Lambda params body scope pos) (mC (.lam k [])) := fun k {params body scope pos} h1 h2 h3 => em_lam lt (by rw [fx.lam, eq]; exact h1) h2 h3
    exact (sms_cons (c.set nd (i := 0) rfl rfl (em_frz (om_lst (am_cons (lamP 0 rfl rfl (by decide +kernel)) (am_cons (lamP 1 rfl rfl (by decide +kernel)) (am_cons (lamP 2 rfl rfl (by decide +kernel)) (am_cons (lamP 3 rfl rfl (by decide +kernel)) (am_cons (lamP 4 rfl rfl (by decide +kernel)) (am_cons (lamP 5 rfl rfl (by decide +kernel)) (am_cons (lamP 6 rfl rfl (by decide +kernel)) (am_cons (lamP 7 rfl rfl (by decide +kernel)) (am_cons (lamP 8 rfl rfl (by decide +kernel)) (am_cons (lamP 9 rfl rfl (by decide +kernel)) (am_cons (lamP 10 rfl rfl (by decide +kernel)) (am_cons (lamP 11 rfl rfl (by decide +kernel)) (am_cons (lamP 12 rfl rfl (by decide +kernel)) (am_cons (lamP 13 rfl rfl (by decide +kernel)) (am_cons (lamP 14 rfl rfl (by decide +kernel)) (am_cons (lamP 15 rfl rfl (by decide +kernel)) (am_cons (lamP 16 rfl rfl (by decide +kernel)) (am_cons (lamP 17 rfl rfl (by decide +kernel)) (am_cons (lamP 18 rfl rfl (by decide +kernel)) (am_cons (lamP 19 rfl rfl (by decide +kernel)) (am_cons (lamP 20 rfl rfl (by decide +kernel)) (am_cons (lamP 21 rfl rfl (by decide +kernel)) (am_cons (lamP 22 rfl rfl (by decide +kernel)) (am_cons (lamP 23 rfl rfl (by decide +kernel)) (am_cons (lamP 24 rfl rfl (by decide +kernel)) (am_cons (lamP 25 rfl rfl (by decide +kernel)) am_nil)))))))))))))))))))))))))))) rfl)
    (sms_cons (sm_if (bm_bw (bw_or (bm_cmp (cm_ne c.hu) (em_frz (om_lc (own := [(("f" : Str), 1)]) c.kx (c.nd nd) (c.ok (by decide +kernel)) (im_src (c.var (i := 0) rfl rfl)) (c.lb (fun X1 W1 c1 => ⟨(c1.gm nd (i := 1) rfl rfl rfl), (ptm_one (bm_cmp (cm_ne c1.hu) (c1.call (w_l_told fx) (by decide) rfl (am_cons (c1.var (i := 1) rfl rfl) am_nil)) em_str rfl)), em_int⟩) (nx_set 1)))) (em_frz (om_lst am_nil)) rfl) (bw_or1 (bm_cmp (cm_ne c.hu) (c.call (w_edges_even fx) (by decide) rfl (am_cons (em_tup (am_cons em_int (am_cons em_int (am_cons em_int am_nil)))) (am_cons em_int am_nil))) (em_tup (am_cons em_int (am_cons em_int (am_cons em_int (am_cons em_int am_nil))))) rfl)))) (sms_one (sm_ret em_bl)) sms_nil)
    (sms_cons (sm_if (bm_bw (bw_or (bm_cmp (cm_ne c.hu) (c.call (w_edges_full fx) (by decide) rfl (am_cons (em_tup (am_cons em_int (am_cons em_int (am_cons em_int (am_cons em_int am_nil))))) (am_cons em_int am_nil))) (em_tup (am_cons em_int (am_cons em_int (am_cons em_int am_nil)))) rfl) (bw_or1 (bm_cmp (cm_ne c.hu) (c.call (w_binned fx) (by decide) rfl (am_cons (em_tup (am_cons em_int (am_cons em_int (am_cons em_int am_nil)))) (am_cons (em_tup (am_cons em_int (am_cons em_int (am_cons em_int (am_cons em_int am_nil))))) am_nil))) (em_tup (am_cons em_int (am_cons em_int (am_cons em_int am_nil)))) rfl)))) (sms_one (sm_ret em_bl)) sms_nil)
    (sms_cons (sm_if (bm_cmp (cm_ne c.hu) (c.call (w_standard fx) (by decide) rfl (am_cons (em_tup (am_cons em_int (am_cons em_int (am_cons em_int am_nil)))) am_nil)) (em_tup (am_cons (em_neg em_int) (am_cons em_int (am_cons em_int am_nil)))) rfl) (sms_one (sm_ret em_bl)) sms_nil)
    (sms_cons (sm_if (bm_not (bm_bw (bw_and (bm_cmp (cm_eq c.hu) (c.call (w_shares_of fx) (by decide) rfl (am_cons (em_tup (am_cons em_int (am_cons em_int (am_cons em_int am_nil)))) (am_cons em_int am_nil))) (em_tup (am_cons em_int (am_cons em_int (am_cons em_int am_nil)))) rfl) (bw_and1 (bm_cmp (cm_eq c.hu) (c.call (w_ranks_of fx) (by decide) rfl (am_cons (em_tup (am_cons em_int (am_cons em_int (am_cons em_int am_nil)))) am_nil)) (em_tup (am_cons em_int (am_cons em_int (am_cons em_int am_nil)))) rfl))))) (sms_one (sm_ret em_bl)) sms_nil)
    (sms_cons (sm_if (bm_cmp (cm_ne c.hu) (c.call (w_signs_of fx) (by decide) rfl (am_cons (em_tup (am_cons em_str (am_cons em_str (am_cons em_str am_nil)))) am_nil)) (em_tup (am_cons (em_tup (am_cons em_str (am_cons em_str am_nil))) (am_cons (em_tup (am_cons (em_tup (am_cons em_int (am_cons em_int am_nil))) (am_cons (em_tup (am_cons em_int (am_cons em_int am_nil))) (am_cons (em_tup (am_cons em_int (am_cons em_int am_nil))) am_nil)))) am_nil))) rfl) (sms_one (sm_ret em_bl)) sms_nil)
    (sms_cons (sm_if (bm_not (bm_bw (bw_and (bm_cmp (cm_eq c.hu) (c.call (w_means_for fx) (by decide) rfl (am_cons em_str (am_cons (em_tup (am_cons em_int (am_cons em_int (am_cons em_int am_nil)))) (am_cons em_int am_nil)))) (em_tup (am_cons em_int (am_cons em_int (am_cons em_int am_nil)))) rfl) (bw_and1 (bm_cmp (cm_eq c.hu) (c.call (w_crossed fx) (by decide) rfl (am_cons em_str (am_cons em_str am_nil))) (em_tup (am_cons em_str (am_cons em_str am_nil))) rfl))))) (sms_one (sm_ret em_bl)) sms_nil)
    (sms_cons (sm_if (bm_cmp (cm_ne c.hu) (c.call (w_powers_of fx) (by decide) rfl (am_cons (em_tup (am_cons em_int (am_cons em_int am_nil))) (am_cons em_int am_nil))) (em_tup (am_cons (em_tup (am_cons em_int (am_cons em_int (am_cons em_int am_nil)))) (am_cons (em_tup (am_cons em_int (am_cons em_int (am_cons em_int am_nil)))) am_nil))) rfl) (sms_one (sm_ret em_bl)) sms_nil)
    (sms_cons (sm_if (bm_not (bm_bw (bw_and (bm_cmp (cm_eq c.hu) (c.call (w_lagged fx) (by decide) rfl (am_cons (em_tup (am_cons em_int (am_cons em_int (am_cons em_int (am_cons em_int am_nil))))) (am_cons em_int am_nil))) (em_tup (am_cons (em_tup (am_cons (em_tup (am_cons em_int (am_cons em_int am_nil))) (am_cons em_int am_nil))) (am_cons (em_tup (am_cons (em_tup (am_cons em_int (am_cons em_int am_nil))) (am_cons em_int am_nil))) am_nil))) rfl) (bw_and1 (bm_cmp (cm_eq c.hu) (c.call (w_clipped fx) (by decide) rfl (am_cons (em_tup (am_cons em_int (am_cons em_int (am_cons em_int (am_cons em_int am_nil))))) (am_cons em_int am_nil))) (em_tup (am_cons em_int (am_cons em_int (am_cons em_int (am_cons em_int am_nil))))) rfl))))) (sms_one (sm_ret em_bl)) sms_nil)
    (sms_cons (sm_if (bm_not (bm_bw (bw_and (bm_cmp (cm_eq c.hu) (c.call (w_useful fx) (by decide) rfl (am_cons (em_tup (am_cons em_str (am_cons em_str (am_cons em_str am_nil)))) (am_cons em_int am_nil))) (em_tup (am_cons em_int am_nil)) rfl) (bw_and (bm_cmp (cm_eq c.hu) (c.call (w_square_root fx) (by decide) rfl (am_cons em_int am_nil)) em_int rfl) (bw_and1 (bm_cmp (cm_eq c.hu) (c.call (w_ranks_of fx) (by decide) rfl (am_cons (em_tup am_nil) am_nil)) (em_tup am_nil) rfl)))))) (sms_one (sm_ret em_bl)) sms_nil)
    (sms_one (sm_ret (em_cmp (cm_eq c.hu) (c.call (w_signs_of fx) (by decide) rfl (am_cons (em_tup am_nil) am_nil)) (em_tup (am_cons (em_tup am_nil) (am_cons (em_tup am_nil) am_nil))) rfl))))))))))))))
abbrev N_l_root : List Str := [("number" : Str), ("root" : Str), ("step" : Str)]
theorem nd_l_root : N_l_root.Nodup := by decide +kernel
theorem sc_l_root : FnScope N_l_root [("number" : Str)] (defScope s_l_root) := ⟨rfl, rfl, rfl, nd_l_root, rfl, by decide +kernel, by decide +kernel⟩
def b_l_root : M Fl := sSeq (sSet 1 (mC (.int 0)))
    (sSeq (mFor (mIt (mFrz (mLst (mCons (mC (.int 100000)) (mCons (mC (.int 10000)) (mCons (mC (.int 1000)) (mCons (mC (.int 100)) (mCons (mC (.int 10)) (mCons (mC (.int 1)) (mNil)))))))))) (gSet 2) (mWhile (mB (mBin eLe (mBin eMul2 (mBin eAdd2 (mGet 1) (mGet 2)) (mBin eAdd2 (mGet 1) (mGet 2))) (mGet 0))) (sSet 1 (mBin eAdd2 (mGet 1) (mGet 2))) 10000000))
    (sRet (mGet 1)))
def F_l_root : Fn := runB 3 b_l_root
theorem w_l_root (fx : Fx K mg base Gs Ls) : FM P w K mg base (tbs Gs Ls) 1 ("_law_root" : Str) 1 F_l_root :=
  fn_d (N := N_l_root) (ps := [("number" : Str)]) (b := false) fx.d_l_root sc_l_root (by decide) fx.g_l_root (fun _ _ _ _ _ _ us hl => match us, hl with | [_], _ => rfl) (fun h => nomatch h)
  (fun X W c est efr _ => have nd := nd_l_root; (sms_cons (c.set nd (i := 1) rfl rfl em_int rfl)
    (sms_cons (sm_for (I := [2]) c.kx.pa c.kx.calm (im_src (em_frz (om_lst (am_cons em_int (am_cons em_int (am_cons em_int (am_cons em_int (am_cons em_int (am_cons em_int am_nil))))))))) (c.gm nd (i := 2) rfl rfl rfl) (nx_set 2) (sms_one (sm_while 10000000 c.kx.pa (bm_cmp (cm_le) (em_mul (em_add (c.var (i := 1) rfl rfl) (c.var (i := 2) rfl rfl)) (em_add (c.var (i := 1) rfl rfl) (c.var (i := 2) rfl rfl))) (c.var (i := 0) rfl rfl) rfl) (sms_one (c.set nd (i := 1) rfl rfl (em_add (c.var (i := 1) rfl rfl) (c.var (i := 2) rfl rfl)) rfl)))))
    (sms_one (sm_ret (c.var (i := 1) rfl rfl))))))
abbrev N_l_roll : List Str := [("dice" : Str), ("many" : Str), ("found" : Str)]
theorem nd_l_roll : N_l_roll.Nodup := by decide +kernel
theorem sc_l_roll : FnScope N_l_roll [("dice" : Str), ("many" : Str)] (defScope s_l_roll) := ⟨rfl, rfl, rfl, nd_l_roll, rfl, by decide +kernel, by decide +kernel⟩
def b_l_roll : M Fl := sSeq (mIf (mOrB (mB (mBin eEq (mBin eIx (mGet 0) (mC (.int 2))) (mC (.int 2)))) (mAndB (mB (mBin eEq (mBin eIx (mGet 0) (mC (.int 2))) (mC (.int 1)))) (mB (mBin eGt (mBin eIx (mGet 0) (mC (.int 0))) (mC (.int 0))))))
    (sSeq (sSet 2 (mBin eMod (mUn eInt (mBin eIx (mGet 0) (mC (.int 0)))) (mGet 1)))
    (sSeq (sStore (mBin eDiv (mBin eIx (mGet 0) (mC (.int 0))) (mGet 1)) (mPl 0) (mC (.int 0)))
    (sRet (mGet 2))))
    (sNx))
    (sSeq (sStore (mC (.int 0)) (mPl 0) (mC (.int 2)))
    (sSeq (mIf (mB (mBin eGt (mGet 1) (mC (.int 100000000))))
    (sRet (mBin eMod (mUn eInt (mBin eAdd2 (mBin eMul2 (M.fail) (mC (.int 100000000))) (M.fail))) (mGet 1)))
    (sNx))
    (sSeq (sStore (mBin eMod (mUn eInt (mBin eAdd2 (mBin eAdd2 (mBin eMul2 (mBin eIx (mGet 0) (mC (.int 0))) (mC (.int 48271))) (mBin eMul2 (mBin eIx (mGet 0) (mC (.int 1))) (mC (.int 69621)))) (mC (.int 11)))) (mC (.int 2147483647))) (mPl 0) (mC (.int 0)))
    (sSeq (sStore (mBin eAdd2 (mBin eIx (mGet 0) (mC (.int 1))) (mC (.int 1))) (mPl 0) (mC (.int 1)))
    (sRet (mBin eMod (mUn eInt (mBin eDiv (mBin eIx (mGet 0) (mC (.int 0))) (mC (.int 7)))) (mGet 1)))))))
def F_l_roll : Fn := runB 3 b_l_roll
theorem w_l_roll (fx : Fx K mg base Gs Ls) : FM P w K mg base (tbs Gs Ls) 1 ("_law_roll" : Str) 2 F_l_roll :=
  fn_d (N := N_l_roll) (ps := [("dice" : Str), ("many" : Str)]) (b := false) fx.d_l_roll sc_l_roll (by decide) fx.g_l_roll (fun _ _ _ _ _ _ us hl => match us, hl with | [_, _], _ => rfl) (fun h => nomatch h)
  (fun X W c est efr _ => have nd := nd_l_roll; (sms_cons (sm_if (bm_bw (bw_or (bm_cmp (cm_eq c.hu) (em_ix c.hu (c.var (i := 0) rfl rfl) em_int) em_int rfl) (bw_or1 (bm_bw (bw_and (bm_cmp (cm_eq c.hu) (em_ix c.hu (c.var (i := 0) rfl rfl) em_int) em_int rfl) (bw_and1 (bm_cmp (cm_gt) (em_ix c.hu (c.var (i := 0) rfl rfl) em_int) em_int rfl))))))) (sms_cons (c.set nd (i := 2) rfl rfl (em_mod (em_toInt (c.bt fx.B) (c.gl (x := ("int" : Str)) rfl) (em_ix c.hu (c.var (i := 0) rfl rfl) em_int)) (c.var (i := 1) rfl rfl)) rfl)
    (sms_cons (sm_store c.hu (em_div (em_ix c.hu (c.var (i := 0) rfl rfl) em_int) (c.var (i := 1) rfl rfl)) (c.pl (i := 0) rfl rfl) em_int)
    (sms_one (sm_ret (c.var (i := 2) rfl rfl))))) sms_nil)
    (sms_cons (sm_store c.hu em_int (c.pl (i := 0) rfl rfl) em_int)
    (sms_cons (sm_if (bm_cmp (cm_gt) (c.var (i := 1) rfl rfl) em_int rfl) (sms_one (sm_ret (em_mod (em_toInt (c.bt fx.B) (c.gl (x := ("int" : Str)) rfl) (em_add (em_mul em_bad em_int) em_bad)) (c.var (i := 1) rfl rfl)))) sms_nil)
    (sms_cons (sm_store c.hu (em_mod (em_toInt (c.bt fx.B) (c.gl (x := ("int" : Str)) rfl) (em_add (em_add (em_mul (em_ix c.hu (c.var (i := 0) rfl rfl) em_int) em_int) (em_mul (em_ix c.hu (c.var (i := 0) rfl rfl) em_int) em_int)) em_int)) em_int) (c.pl (i := 0) rfl rfl) em_int)
    (sms_cons (sm_store c.hu (em_add (em_ix c.hu (c.var (i := 0) rfl rfl) em_int) em_int) (c.pl (i := 0) rfl rfl) em_int)
    (sms_one (sm_ret (em_mod (em_toInt (c.bt fx.B) (c.gl (x := ("int" : Str)) rfl) (em_div (em_ix c.hu (c.var (i := 0) rfl rfl) em_int) em_int)) (c.var (i := 1) rfl rfl))))))))))
abbrev N_l_made : List Str := [("dice" : Str), ("numbers" : Str), ("words" : Str), ("many" : Str), ("order" : Str), ("weight" : Str), ("due" : Str), ("word" : Str), ("beside" : Str), ("power" : Str), ("rows" : Str), ("number" : Str), ("row" : Str), ("turn" : Str), ("back" : Str), ("part" : Str), ("cut" : Str), ("columns" : Str), ("size" : Str), ("one" : Str), ("k" : Str), ("column" : Str), ("thing" : Str)]
theorem nd_l_made : N_l_made.Nodup := by decide +kernel
theorem sc_l_made : FnScope N_l_made [("dice" : Str), ("numbers" : Str), ("words" : Str), ("many" : Str), ("order" : Str)] (defScope s_l_made) := ⟨rfl, rfl, rfl, nd_l_made, rfl, by decide +kernel, by decide +kernel⟩
def b_l_made : M Fl := sSeq (sPar2 5 6 (mCons (mCall 2 F_l_roll (mCons (mGet 0) (mCons (mC (.int 4)) (mNil)))) (mCons (mFrz (mLst (mNil))) (mNil))))
    (sSeq (mFor (mIt (mGet 2)) (gSet 7) (sSeq (sSet 8 (mFrz (mLc [19, 11] (mZip (mCons (mGet 2) (mCons (mGet 1) (mNil)))) (gTupM 2 (gConsM (gSet 19) (gConsM (gSet 11) (gNilM)))) (mB (mBin eEq (mGet 19) (mGet 7))) (mGet 11))))
    (sSet 6 (mBin eAdd2 (mGet 6) (mFrz (mLst (mCons (mBin eDiv (mBin eMul2 (mC (.int 100)) (mBin eAdd2 (mBin eMul2 (mGet 3) (mUn eSum (mPeek 8))) (mBin eMul2 (mGet 5) (mUn eSum (mPeek 1))))) (mBin eMul2 (mGet 3) (mBin eAdd2 (mUn eLen2 (mPeek 8)) (mGet 5)))) (mNil))))))))
    (sSeq (mIf (mB (mBin eNe (mFrz ((mCall 3 F_means_for (mCons (mGet 2) (mCons (mGet 1) (mCons (mGet 5) (mNil))))) >>= eList)) (mGet 6)))
    (sRet (mC (.bl false)))
    (sNx))
    (sSeq (mIf (mB (mBin eNe (mFrz ((mCall 2 F_crossed (mCons (mGet 2) (mCons (mGet 1) (mNil)))) >>= eList)) (mFrz (mLc [7, 11] (mZip (mCons (mGet 2) (mCons (mGet 1) (mNil)))) (gTupM 2 (gConsM (gSet 7) (gConsM (gSet 11) (gNilM)))) (mYes) (mBin eAdd2 (mBin eAdd2 (mGet 7) (mC (.str ("+" : Str)))) (mUn eStr (mGet 11)))))))
    (sRet (mC (.bl false)))
    (sNx))
    (sSeq (sPar2 9 10 (mCons (mBin eAdd2 (mC (.int 1)) (mCall 2 F_l_roll (mCons (mGet 0) (mCons (mC (.int 6)) (mNil))))) (mCons (mFrz (mLst (mNil))) (mNil))))
    (sSeq (mFor (mIt (mGet 1)) (gSet 11) (sSeq (sSet 12 (mFrz (mLst (mCons (mGet 11) (mNil)))))
    (sSeq (mFor (mRng1 (mCons (mBin eSub (mGet 9) (mC (.int 1))) (mNil))) (gSet 13) (sSet 12 (mBin eAdd2 (mGet 12) (mFrz (mLst (mCons (mBin eMul2 (mBin eIx (mGet 12) (mUn eNeg (mC (.int 1)))) (mGet 11)) (mNil)))))))
    (sSet 10 (mBin eAdd2 (mGet 10) (mFrz (mLst (mCons (mUn eTuple (mPeek 12)) (mNil)))))))))
    (sSeq (sSet 14 (mBin eAdd2 (mC (.int 1)) (mCall 2 F_l_roll (mCons (mGet 0) (mCons (mC (.int 4)) (mNil))))))
    (sSeq (mIf (mB (mBin eNe (mFrz ((mCall 2 F_powers_of (mCons (mGet 1) (mCons (mGet 9) (mNil)))) >>= eList)) (mGet 10)))
    (sRet (mC (.bl false)))
    (sNx))
    (sSeq (mIf (mB (mBin eNe (mFrz ((mCall 2 F_lagged (mCons (mGet 1) (mCons (mGet 14) (mNil)))) >>= eList)) (mFrz (mLc [20] (mRng2 (mCons (mGet 14) (mCons (mGet 3) (mNil)))) (gSet 20) (mYes) (mTup (mCons (mUn eTuple (mSl (mGet 1) (mPart (mBin eSub (mGet 20) (mGet 14))) (mPart (mGet 20)))) (mCons (mBin eIx (mGet 1) (mGet 20)) (mNil))))))))
    (sRet (mC (.bl false)))
    (sNx))
    (sSeq (sSet 15 (mCall 2 F_l_roll (mCons (mGet 0) (mCons (mC (.int 50)) (mNil)))))
    (sSeq (sSet 16 (mBin eDiv (mBin eMul2 (mGet 3) (mGet 15)) (mC (.int 100))))
    (sSeq (mIf (mB (mBin eNe (mFrz ((mCall 2 F_clipped (mCons (mGet 1) (mCons (mGet 15) (mNil)))) >>= eList)) (mFrz (mLc [11] (mIt (mGet 1)) (gSet 11) (mYes) (mBin eIx (mFrz ((mFrz (mLst (mCons (mBin eIx (mGet 4) (mGet 16)) (mCons (mGet 11) (mCons (mBin eIx (mGet 4) (mBin eSub (mBin eSub (mGet 3) (mC (.int 1))) (mGet 16))) (mNil)))))) >>= eSorted false)) (mC (.int 1)))))))
    (sRet (mC (.bl false)))
    (sNx))
    (sSeq (sAsg (mTup (mCons (mFrz (mLst (mCons (mFrz (mLc [20] (mRng1 (mCons (mC (.int 3)) (mNil))) (gSet 20) (mYes) (mBin eIx (mC (.str ("ab" : Str))) (mCall 2 F_l_roll (mCons (mGet 0) (mCons (mC (.int 2)) (mNil))))))) (mCons (mGet 1) (mCons (mGet 2) (mNil)))))) (mCons (mBin eAdd2 (mC (.int 1)) (mCall 2 F_l_roll (mCons (mGet 0) (mCons (mC (.int 4)) (mNil))))) (mNil)))) (gTupM 2 (gConsM (gSet 17) (gConsM (gSet 18) (gNilM)))))
    (sSeq (mIf (mB (mBin eNe (mFrz ((mCall 2 F_useful (mCons (mGet 17) (mCons (mGet 18) (mNil)))) >>= eList)) (mFrz (mLc [20, 21] (mEnum (mCons (mGet 17) (mNil))) (gTupM 2 (gConsM (gSet 20) (gConsM (gSet 21) (gNilM)))) (mB (mChain eLt eLe (mC (.int 1)) (mUn eLen2 (mFrz ((mFrz (mLc [22] (mIt (mGet 21)) (gSet 22) (mYes) (mTup (mCons (mGet 22) (mCons (mC (.int 1)) (mNil)))))) >>= eDict))) (mGet 18))) (mGet 20)))))
    (sRet (mC (.bl false)))
    (sNx))
    (sRet (mC (.bl true))))))))))))))))
def F_l_made : Fn := runB 23 b_l_made
theorem w_l_made (fx : Fx K mg base Gs Ls) : FM P w K mg base (tbs Gs Ls) 3 ("_law_made" : Str) 5 F_l_made :=
  fn_d (N := N_l_made) (ps := [("dice" : Str), ("numbers" : Str), ("words" : Str), ("many" : Str), ("order" : Str)]) (b := false) fx.d_l_made sc_l_made (by decide) fx.g_l_made (fun _ _ _ _ _ _ us hl => match us, hl with | [_, _, _, _, _], _ => rfl) (fun h => nomatch h)
  (fun X W c est efr _ => have nd := nd_l_made; (sms_cons (c.par2 nd (i := 5) (j := 6) rfl rfl (by decide) rfl rfl (am_cons (c.call (w_l_roll fx) (by decide) rfl (am_cons (c.var (i := 0) rfl rfl) (am_cons em_int am_nil))) (am_cons (em_frz (om_lst am_nil)) am_nil)) ((sws_scope c.eS).trans rfl))
    (sms_cons (sm_for (I := [7]) c.kx.pa c.kx.calm (im_src (c.var (i := 2) rfl rfl)) (c.gm nd (i := 7) rfl rfl rfl) (nx_set 7) (sms_cons (sm_setLcF (own := [(("one" : Str), 19), (("number" : Str), 11)]) c.kx (c.nd nd) (by rw [c.eN]; rfl) (by rw [c.eS]; rfl) ((swv_scope c.eS).trans rfl) (c.ok (by decide +kernel)) (im_zip (c.bt fx.B) (c.gl (x := ("zip" : Str)) rfl) (am_cons (c.var (i := 2) rfl rfl) (am_cons (c.var (i := 1) rfl rfl) am_nil))) (c.lb (fun X1 W1 c1 => ⟨(gm_tup c1.kx.calm (gms_cons (c1.gm nd (i := 19) rfl rfl rfl) (gms_cons (c1.gm nd (i := 11) rfl rfl rfl) gms_nil))), (ptm_one (bm_cmp (cm_eq c1.hu) (c1.var (i := 19) rfl rfl) (c1.var (i := 7) rfl rfl) rfl)), (c1.var (i := 11) rfl rfl)⟩) (nx_tup (nx_cons (nx_set 19) (nx_cons (nx_set 11) nx_nil)))))
    (sms_one (c.set nd (i := 6) rfl rfl (em_add (c.var (i := 6) rfl rfl) (em_frz (om_lst (am_cons (em_div (em_mul em_int (em_add (em_mul (c.var (i := 3) rfl rfl) (em_sum c.kx.calm (c.bt fx.B) (c.gl (x := ("sum" : Str)) rfl) (c.nvar (i := 8) rfl rfl))) (em_mul (c.var (i := 5) rfl rfl) (em_sum c.kx.calm (c.bt fx.B) (c.gl (x := ("sum" : Str)) rfl) (c.nvar (i := 1) rfl rfl))))) (em_mul (c.var (i := 3) rfl rfl) (em_add (em_len2 (c.bt fx.B) (c.gl (x := ("len" : Str)) rfl) (c.nvar (i := 8) rfl rfl)) (c.var (i := 5) rfl rfl)))) am_nil)))) rfl))))
    (sms_cons (sm_if (bm_cmp (cm_ne c.hu) (em_frz (om_list (c.bt fx.B) (c.gl (x := ("list" : Str)) rfl) (nm_em (c.call (w_means_for fx) (by decide) rfl (am_cons (c.var (i := 2) rfl rfl) (am_cons (c.var (i := 1) rfl rfl) (am_cons (c.var (i := 5) rfl rfl) am_nil))))))) (c.var (i := 6) rfl rfl) rfl) (sms_one (sm_ret em_bl)) sms_nil)
    (sms_cons (sm_if (bm_cmp (cm_ne c.hu) (em_frz (om_list (c.bt fx.B) (c.gl (x := ("list" : Str)) rfl) (nm_em (c.call (w_crossed fx) (by decide) rfl (am_cons (c.var (i := 2) rfl rfl) (am_cons (c.var (i := 1) rfl rfl) am_nil)))))) (em_frz (om_lc (own := [(("word" : Str), 7), (("number" : Str), 11)]) c.kx (c.nd nd) (c.ok (by decide +kernel)) (im_zip (c.bt fx.B) (c.gl (x := ("zip" : Str)) rfl) (am_cons (c.var (i := 2) rfl rfl) (am_cons (c.var (i := 1) rfl rfl) am_nil))) (c.lb (fun X1 W1 c1 => ⟨(gm_tup c1.kx.calm (gms_cons (c1.gm nd (i := 7) rfl rfl rfl) (gms_cons (c1.gm nd (i := 11) rfl rfl rfl) gms_nil))), ptm_nil, (em_add (em_add (c1.var (i := 7) rfl rfl) em_str) (em_toStr (c1.bt fx.B) (c1.gl (x := ("str" : Str)) rfl) (c1.var (i := 11) rfl rfl)))⟩) (nx_tup (nx_cons (nx_set 7) (nx_cons (nx_set 11) nx_nil)))))) rfl) (sms_one (sm_ret em_bl)) sms_nil)
    (sms_cons (c.par2 nd (i := 9) (j := 10) rfl rfl (by decide) rfl rfl (am_cons (em_add em_int (c.call (w_l_roll fx) (by decide) rfl (am_cons (c.var (i := 0) rfl rfl) (am_cons em_int am_nil)))) (am_cons (em_frz (om_lst am_nil)) am_nil)) ((sws_scope c.eS).trans rfl))
    (sms_cons (sm_for (I := [11]) c.kx.pa c.kx.calm (im_src (c.var (i := 1) rfl rfl)) (c.gm nd (i := 11) rfl rfl rfl) (nx_set 11) (sms_cons (c.set nd (i := 12) rfl rfl (em_frz (om_lst (am_cons (c.var (i := 11) rfl rfl) am_nil))) rfl)
    (sms_cons (sm_for (I := [13]) c.kx.pa c.kx.calm (im_range1 (c.bt fx.B) (c.gl (x := ("range" : Str)) rfl) (am_cons (em_sub (c.var (i := 9) rfl rfl) em_int) am_nil)) (c.gm nd (i := 13) rfl rfl rfl) (nx_set 13) (sms_one (c.set nd (i := 12) rfl rfl (em_add (c.var (i := 12) rfl rfl) (em_frz (om_lst (am_cons (em_mul (em_ix c.hu (c.var (i := 12) rfl rfl) (em_neg em_int)) (c.var (i := 11) rfl rfl)) am_nil)))) rfl)))
    (sms_one (c.set nd (i := 10) rfl rfl (em_add (c.var (i := 10) rfl rfl) (em_frz (om_lst (am_cons (em_tuple (c.bt fx.B) (c.gl (x := ("tuple" : Str)) rfl) (c.nvar (i := 12) rfl rfl)) am_nil)))) rfl)))))
    (sms_cons (c.set nd (i := 14) rfl rfl (em_add em_int (c.call (w_l_roll fx) (by decide) rfl (am_cons (c.var (i := 0) rfl rfl) (am_cons em_int am_nil)))) rfl)
    (sms_cons (sm_if (bm_cmp (cm_ne c.hu) (em_frz (om_list (c.bt fx.B) (c.gl (x := ("list" : Str)) rfl) (nm_em (c.call (w_powers_of fx) (by decide) rfl (am_cons (c.var (i := 1) rfl rfl) (am_cons (c.var (i := 9) rfl rfl) am_nil)))))) (c.var (i := 10) rfl rfl) rfl) (sms_one (sm_ret em_bl)) sms_nil)
    (sms_cons (sm_if (bm_cmp (cm_ne c.hu) (em_frz (om_list (c.bt fx.B) (c.gl (x := ("list" : Str)) rfl) (nm_em (c.call (w_lagged fx) (by decide) rfl (am_cons (c.var (i := 1) rfl rfl) (am_cons (c.var (i := 14) rfl rfl) am_nil)))))) (em_frz (om_lc (own := [(("k" : Str), 20)]) c.kx (c.nd nd) (c.ok (by decide +kernel)) (im_range2 (c.bt fx.B) (c.gl (x := ("range" : Str)) rfl) (am_cons (c.var (i := 14) rfl rfl) (am_cons (c.var (i := 3) rfl rfl) am_nil))) (c.lb (fun X1 W1 c1 => ⟨(c1.gm nd (i := 20) rfl rfl rfl), ptm_nil, (em_tup (am_cons (em_tuple (c1.bt fx.B) (c1.gl (x := ("tuple" : Str)) rfl) (nm_em (em_slice (c1.var (i := 1) rfl rfl) (part_some (em_sub (c1.var (i := 20) rfl rfl) (c1.var (i := 14) rfl rfl))) (part_some (c1.var (i := 20) rfl rfl))))) (am_cons (em_ix c1.hu (c1.var (i := 1) rfl rfl) (c1.var (i := 20) rfl rfl)) am_nil)))⟩) (nx_set 20)))) rfl) (sms_one (sm_ret em_bl)) sms_nil)
    (sms_cons (c.set nd (i := 15) rfl rfl (c.call (w_l_roll fx) (by decide) rfl (am_cons (c.var (i := 0) rfl rfl) (am_cons em_int am_nil))) rfl)
    (sms_cons (c.set nd (i := 16) rfl rfl (em_div (em_mul (c.var (i := 3) rfl rfl) (c.var (i := 15) rfl rfl)) em_int) rfl)
    (sms_cons (sm_if (bm_cmp (cm_ne c.hu) (em_frz (om_list (c.bt fx.B) (c.gl (x := ("list" : Str)) rfl) (nm_em (c.call (w_clipped fx) (by decide) rfl (am_cons (c.var (i := 1) rfl rfl) (am_cons (c.var (i := 15) rfl rfl) am_nil)))))) (em_frz (om_lc (own := [(("number" : Str), 11)]) c.kx (c.nd nd) (c.ok (by decide +kernel)) (im_src (c.var (i := 1) rfl rfl)) (c.lb (fun X1 W1 c1 => ⟨(c1.gm nd (i := 11) rfl rfl rfl), ptm_nil, (em_ix c1.hu (em_frz (om_sorted c1.kx.calm c1.hu (c1.bt fx.B) (c1.gl (x := ("sorted" : Str)) rfl) (nm_em (em_frz (om_lst (am_cons (em_ix c1.hu (c1.var (i := 4) rfl rfl) (c1.var (i := 16) rfl rfl)) (am_cons (c1.var (i := 11) rfl rfl) (am_cons (em_ix c1.hu (c1.var (i := 4) rfl rfl) (em_sub (em_sub (c1.var (i := 3) rfl rfl) em_int) (c1.var (i := 16) rfl rfl))) am_nil)))))))) em_int)⟩) (nx_set 11)))) rfl) (sms_one (sm_ret em_bl)) sms_nil)
    (sms_cons (sm_asg (I := [17, 18]) (em_tup (am_cons (em_frz (om_lst (am_cons (em_frz (om_lc (own := [(("k" : Str), 20)]) c.kx (c.nd nd) (c.ok (by decide +kernel)) (im_range1 (c.bt fx.B) (c.gl (x := ("range" : Str)) rfl) (am_cons em_int am_nil)) (c.lb (fun X1 W1 c1 => ⟨(c1.gm nd (i := 20) rfl rfl rfl), ptm_nil, (em_ix c1.hu em_str (c1.call (w_l_roll fx) (by decide) rfl (am_cons (c1.var (i := 0) rfl rfl) (am_cons em_int am_nil))))⟩) (nx_set 20)))) (am_cons (c.var (i := 1) rfl rfl) (am_cons (c.var (i := 2) rfl rfl) am_nil))))) (am_cons (em_add em_int (c.call (w_l_roll fx) (by decide) rfl (am_cons (c.var (i := 0) rfl rfl) (am_cons em_int am_nil)))) am_nil))) (gm_tup c.kx.calm (gms_cons (c.gm nd (i := 17) rfl rfl rfl) (gms_cons (c.gm nd (i := 18) rfl rfl rfl) gms_nil))) (nx_tup (nx_cons (nx_set 17) (nx_cons (nx_set 18) nx_nil))) rfl ((sws_scope c.eS).trans rfl))
    (sms_cons (sm_if (bm_cmp (cm_ne c.hu) (em_frz (om_list (c.bt fx.B) (c.gl (x := ("list" : Str)) rfl) (nm_em (c.call (w_useful fx) (by decide) rfl (am_cons (c.var (i := 17) rfl rfl) (am_cons (c.var (i := 18) rfl rfl) am_nil)))))) (em_frz (om_lc (own := [(("k" : Str), 20), (("column" : Str), 21)]) c.kx (c.nd nd) (c.ok (by decide +kernel)) (im_enum (c.bt fx.B) (c.gl (x := ("enumerate" : Str)) rfl) (am_cons (c.var (i := 17) rfl rfl) am_nil)) (c.lb (fun X1 W1 c1 => ⟨(gm_tup c1.kx.calm (gms_cons (c1.gm nd (i := 20) rfl rfl rfl) (gms_cons (c1.gm nd (i := 21) rfl rfl rfl) gms_nil))), (ptm_one (bm_chain (cm_lt) (cm_le) em_int (em_len2 (c1.bt fx.B) (c1.gl (x := ("len" : Str)) rfl) (nm_em (em_frz (om_dict c1.kx.calm (c1.bt fx.B) (c1.gl (x := ("dict" : Str)) rfl) (nm_em (em_frz (om_lc (own := [(("thing" : Str), 22)]) c1.kx (c1.nd nd) (c1.ok (by decide +kernel)) (im_src (c1.var (i := 21) rfl rfl)) (c1.lb (fun X2 W2 c2 => ⟨(c2.gm nd (i := 22) rfl rfl rfl), ptm_nil, (em_tup (am_cons (c2.var (i := 22) rfl rfl) (am_cons em_int am_nil)))⟩) (nx_set 22))))))))) (c1.var (i := 18) rfl rfl))), (c1.var (i := 20) rfl rfl)⟩) (nx_tup (nx_cons (nx_set 20) (nx_cons (nx_set 21) nx_nil)))))) rfl) (sms_one (sm_ret em_bl)) sms_nil)
    (sms_one (sm_ret em_bl)))))))))))))))))
abbrev N_l_bin : List Str := [("number" : Str), ("edges" : Str), ("below" : Str), ("k" : Str)]
theorem nd_l_bin : N_l_bin.Nodup := by decide +kernel
theorem sc_l_bin : FnScope N_l_bin [("number" : Str), ("edges" : Str)] (defScope s_l_bin) := ⟨rfl, rfl, rfl, nd_l_bin, rfl, by decide +kernel, by decide +kernel⟩
def b_l_bin : M Fl := sSeq (sSet 2 (mFrz (mLc [3] (mRng1 (mCons (mBin eSub (mUn eLen2 (mPeek 1)) (mC (.int 1))) (mNil))) (gSet 3) (mB (mBin eLe (mBin eIx (mGet 1) (mGet 3)) (mGet 0))) (mGet 3))))
    (sRet (mIf (mB (mBin eEq (mGet 2) (mFrz (mLst (mNil))))) (mBin eIx (mBin eAdd2 (mGet 2) (mFrz (mLst (mCons (mC (.int 0)) (mNil))))) (mUn eNeg (mC (.int 1)))) (mBin eIx (mGet 2) (mUn eNeg (mC (.int 1))))))
def F_l_bin : Fn := runB 4 b_l_bin
theorem w_l_bin (fx : Fx K mg base Gs Ls) : FM P w K mg base (tbs Gs Ls) 1 ("_law_bin" : Str) 2 F_l_bin :=
  fn_d (N := N_l_bin) (ps := [("number" : Str), ("edges" : Str)]) (b := false) fx.d_l_bin sc_l_bin (by decide) fx.g_l_bin (fun _ _ _ _ _ _ us hl => match us, hl with | [_, _], _ => rfl) (fun h => nomatch h)
  (fun X W c est efr _ => have nd := nd_l_bin; (sms_cons (sm_setLcF (own := [(("k" : Str), 3)]) c.kx (c.nd nd) (by rw [c.eN]; rfl) (by rw [c.eS]; rfl) ((swv_scope c.eS).trans rfl) (c.ok (by decide +kernel)) (im_range1 (c.bt fx.B) (c.gl (x := ("range" : Str)) rfl) (am_cons (em_sub (em_len2 (c.bt fx.B) (c.gl (x := ("len" : Str)) rfl) (c.nvar (i := 1) rfl rfl)) em_int) am_nil)) (c.lb (fun X1 W1 c1 => ⟨(c1.gm nd (i := 3) rfl rfl rfl), (ptm_one (bm_cmp (cm_le) (em_ix c1.hu (c1.var (i := 1) rfl rfl) (c1.var (i := 3) rfl rfl)) (c1.var (i := 0) rfl rfl) rfl)), (c1.var (i := 3) rfl rfl)⟩) (nx_set 3)))
    (sms_one (sm_ret (em_if (bm_cmp (cm_eq c.hu) (c.var (i := 2) rfl rfl) (em_frz (om_lst am_nil)) rfl) (em_ix c.hu (em_add (c.var (i := 2) rfl rfl) (em_frz (om_lst (am_cons em_int am_nil)))) (em_neg em_int)) (em_ix c.hu (c.var (i := 2) rfl rfl) (em_neg em_int)))))))
abbrev N_law : List Str := [("script" : Str), ("dice" : Str), ("numbers" : Str), ("bins" : Str), ("low" : Str), ("high" : Str), ("many" : Str), ("width" : Str), ("order" : Str), ("due_even" : Str), ("full" : Str), ("edges" : Str), ("some" : Str), ("most" : Str), ("spread" : Str), ("big" : Str), ("words" : Str), ("names" : Str), ("k" : Str), ("number" : Str), ("word" : Str), ("name" : Str), ("other" : Str)]
theorem nd_law : N_law.Nodup := by decide +kernel
theorem sc_law : FnScope N_law [("script" : Str)] (defScope s_law) := ⟨rfl, rfl, rfl, nd_law, rfl, by decide +kernel, by decide +kernel⟩
def b_law : M Fl := sSeq (mFor (mIt (mCall 2 F_l_rounds (mCons (mGet 0) (mCons (mC (.int 1)) (mNil))))) (gSet 1) (sSeq (sAsg (mTup (mCons (mFrz (mLc [18] (mRng1 (mCons (mBin eAdd2 (mC (.int 1)) (mCall 2 F_l_roll (mCons (mGet 1) (mCons (mC (.int 9)) (mNil))))) (mNil))) (gSet 18) (mYes) (mBin eSub (mCall 2 F_l_roll (mCons (mGet 1) (mCons (mC (.int 40)) (mNil)))) (mC (.int 10))))) (mCons (mBin eAdd2 (mC (.int 1)) (mCall 2 F_l_roll (mCons (mGet 1) (mCons (mC (.int 6)) (mNil))))) (mNil)))) (gTupM 2 (gConsM (gSet 2) (gConsM (gSet 3) (gNilM)))))
    (sSeq (sAsg (mTup (mCons (mUn (eMm minE) (mPeek 2)) (mCons (mUn (eMm maxE) (mPeek 2)) (mCons (mUn eLen2 (mPeek 2)) (mNil))))) (gTupM 3 (gConsM (gSet 4) (gConsM (gSet 5) (gConsM (gSet 6) (gNilM))))))
    (sSeq (sAsg (mTup (mCons (mArgs eMax2 (mCons (mC (.int 1)) (mCons (mBin eAdd2 (mBin eDiv (mBin eSub (mGet 5) (mGet 4)) (mGet 3)) (mC (.int 1))) (mNil)))) (mCons (mFrz ((mPeek 2) >>= eSorted false)) (mNil)))) (gTupM 2 (gConsM (gSet 7) (gConsM (gSet 8) (gNilM)))))
    (sSeq (sSet 9 (mFrz (mLc [18] (mRng1 (mCons (mBin eAdd2 (mGet 3) (mC (.int 1))) (mNil))) (gSet 18) (mYes) (mBin eAdd2 (mGet 4) (mBin eMul2 (mGet 7) (mGet 18))))))
    (sSeq (sSet 10 (mFrz ((mFrz ((mBin eAdd2 (mFrz (mLc [18] (mRng1 (mCons (mGet 3) (mNil))) (gSet 18) (mYes) (mTup (mCons (mBin eIx (mGet 8) (mBin eDiv (mBin eMul2 (mGet 6) (mGet 18)) (mGet 3))) (mCons (mC (.int 1)) (mNil)))))) (mFrz (mLst (mCons (mTup (mCons (mBin eAdd2 (mGet 5) (mC (.int 1))) (mCons (mC (.int 1)) (mNil)))) (mNil))))) >>= eDict)) >>= eSorted false)))
    (sSeq (mIf (mOrB (mB (mBin eNe (mFrz ((mCall 2 F_edges_even (mCons (mGet 2) (mCons (mGet 3) (mNil)))) >>= eList)) (mGet 9))) (mB (mBin eNe (mFrz ((mCall 2 F_edges_full (mCons (mGet 2) (mCons (mGet 3) (mNil)))) >>= eList)) (mGet 10))))
    (sRet (mC (.bl false)))
    (sNx))
    (sSeq (mFor (mIt (mFrz (mLst (mCons (mGet 9) (mCons (mGet 10) (mNil)))))) (gSet 11) (sSeq (sSet 12 (mBin eAdd2 (mGet 2) (mFrz (mLst (mCons (mBin eSub (mGet 4) (mC (.int 5))) (mCons (mBin eAdd2 (mGet 5) (mC (.int 50))) (mNil)))))))
    (sSeq (mIf (mB (mBin eNe (mFrz ((mCall 2 F_binned (mCons (mGet 12) (mCons (mGet 11) (mNil)))) >>= eList)) (mFrz (mLc [19] (mIt (mGet 12)) (gSet 19) (mYes) (mCall 2 F_l_bin (mCons (mGet 19) (mCons (mGet 11) (mNil))))))))
    (sRet (mC (.bl false)))
    (sNx))
    (mIf (mOrB (mB (mBin eNe (mCall 2 F_bin_of (mCons (mBin eIx (mGet 2) (mC (.int 0))) (mCons (mGet 11) (mNil)))) (mCall 2 F_l_bin (mCons (mBin eIx (mGet 2) (mC (.int 0))) (mCons (mGet 11) (mNil)))))) (mB (mBin eIsNot (mCall 1 F_check_edges (mCons (mGet 11) (mNil))) (mC .non))))
    (sRet (mC (.bl false)))
    (sNx)))))
    (sSeq (mIf (mB (mBin eNe (mFrz (mLc [19] (mIt (mGet 2)) (gSet 19) (mNot (mB (mChain eLe eLe (mBin eIx (mGet 9) (mC (.int 0))) (mGet 19) (mBin eIx (mGet 9) (mUn eNeg (mC (.int 1))))))) (mGet 19))) (mFrz (mLst (mNil)))))
    (sRet (mC (.bl false)))
    (sNx))
    (sSeq (mIf (mB (mBin eNe (mFrz (mLc [19] (mIt (mGet 2)) (gSet 19) (mNot (mB (mChain eLe eLt (mBin eIx (mGet 10) (mC (.int 0))) (mGet 19) (mBin eIx (mGet 10) (mUn eNeg (mC (.int 1))))))) (mGet 19))) (mFrz (mLst (mNil)))))
    (sRet (mC (.bl false)))
    (sNx))
    (sSeq (sSet 13 (mBin eAdd2 (mC (.int 1)) (mCall 2 F_l_roll (mCons (mGet 1) (mCons (mC (.int 100)) (mNil))))))
    (sSeq (mIf (mB (mBin eNe (mFrz ((mCall 2 F_shares_of (mCons (mGet 2) (mCons (mGet 13) (mNil)))) >>= eList)) (mFrz (mLc [19] (mIt (mGet 2)) (gSet 19) (mYes) (mIf (mB (mBin eGt (mGet 5) (mGet 4))) (mBin eDiv (mBin eMul2 (mBin eSub (mGet 19) (mGet 4)) (mGet 13)) (mBin eSub (mGet 5) (mGet 4))) (mC (.int 0)))))))
    (sRet (mC (.bl false)))
    (sNx))
    (sSeq (sSet 14 (mCall 1 F_l_root (mCons (mBin eSub (mBin eMul2 (mGet 6) (mUn eSum (mFrz (mLc [19] (mIt (mGet 2)) (gSet 19) (mYes) (mBin eMul2 (mGet 19) (mGet 19)))))) (mBin eMul2 (mUn eSum (mPeek 2)) (mUn eSum (mPeek 2)))) (mNil))))
    (sSeq (mIf (mB (mBin eNe (mFrz ((mCall 1 F_standard (mCons (mGet 2) (mNil))) >>= eList)) (mFrz (mLc [19] (mIt (mGet 2)) (gSet 19) (mYes) (mIf (mB (mBin eGt (mGet 14) (mC (.int 0)))) (mBin eDiv (mBin eMul2 (mC (.int 100)) (mBin eSub (mBin eMul2 (mGet 6) (mGet 19)) (mUn eSum (mPeek 2)))) (mGet 14)) (mC (.int 0)))))))
    (sRet (mC (.bl false)))
    (sNx))
    (sSeq (sSet 15 (mCall 2 F_l_roll (mCons (mGet 1) (mCons (mC (.int 900000)) (mNil)))))
    (sSeq (mIf (mB (mBin eNe (mCall 1 F_square_root (mCons (mGet 15) (mNil))) (mCall 1 F_l_root (mCons (mGet 15) (mNil)))))
    (sRet (mC (.bl false)))
    (sNx))
    (sSeq (mIf (mB (mBin eNe (mFrz ((mCall 1 F_ranks_of (mCons (mGet 2) (mNil))) >>= eList)) (mFrz (mLc [19] (mIt (mGet 2)) (gSet 19) (mYes) (mBin eAdd2 (mBin eAdd2 (mBin eMul2 (mC (.int 2)) (mUn eLen2 (mFrz (mLc [22] (mIt (mGet 2)) (gSet 22) (mB (mBin eLt (mGet 22) (mGet 19))) (mC (.int 1)))))) (mBinL eCount (mGet 2) (mGet 19))) (mC (.int 1)))))))
    (sRet (mC (.bl false)))
    (sNx))
    (sSeq (sSet 16 (mFrz (mLc [19] (mIt (mGet 2)) (gSet 19) (mYes) (mBin eIx (mFrz (mLst (mCons (mC (.str ("b" : Str))) (mCons (mC (.str ("a" : Str))) (mCons (mC (.str ("c" : Str))) (mNil)))))) (mCall 2 F_l_roll (mCons (mGet 1) (mCons (mC (.int 3)) (mNil))))))))
    (sSeq (sSet 17 (mFrz ((mFrz ((mFrz (mLc [20] (mIt (mGet 16)) (gSet 20) (mYes) (mTup (mCons (mGet 20) (mCons (mC (.int 1)) (mNil)))))) >>= eDict)) >>= eSorted false)))
    (sSeq (mIf (mB (mBin eNe (mCall 1 F_signs_of (mCons (mGet 16) (mNil))) (mTup (mCons (mUn eTuple (mPeek 17)) (mCons (mUn eTuple (mFrz (mLc [20] (mIt (mGet 16)) (gSet 20) (mYes) (mUn eTuple (mFrz (mLc [21] (mIt (mGet 17)) (gSet 21) (mYes) (mUn eInt (mBin eEq (mGet 21) (mGet 20))))))))) (mNil))))))
    (sRet (mC (.bl false)))
    (sNx))
    (sSeq (mIf (mB (mBin eNe (mFrz ((mCall 2 F_places_of (mCons (mGet 16) (mCons (mFrz (mLst (mCons (mC (.str ("a" : Str))) (mCons (mC (.str ("b" : Str))) (mNil))))) (mNil)))) >>= eList)) (mFrz (mLc [20] (mIt (mGet 16)) (gSet 20) (mYes) (mIf (mB (mBin eNe (mGet 20) (mC (.str ("c" : Str))))) (mBinL eIndex (mFrz (mLst (mCons (mC (.str ("a" : Str))) (mCons (mC (.str ("b" : Str))) (mNil))))) (mGet 20)) (mUn eNeg (mC (.int 1))))))))
    (sRet (mC (.bl false)))
    (sNx))
    (mIf (mNot (mTru (mCall 5 F_l_made (mCons (mGet 1) (mCons (mGet 2) (mCons (mGet 16) (mCons (mGet 6) (mCons (mGet 8) (mNil)))))))))
    (sRet (mC (.bl false)))
    (sNx)))))))))))))))))))))))
    (sRet (mCall 0 F_l_plain mNil))
def F_law : Fn := runB 23 b_law
theorem wk_law (fx : Fx K mg base Gs Ls) {fd : FuncData} (hfd : DefFd K "law" s_law fd) : FnOk P w K mg base (L2.CX P w) 9 (He.ga K "law") fd ["script"] (spM (mkC K mg (tbs Gs Ls)) 1 F_law) :=
  fn_dK (N := N_law) (ps := ["script"]) (b := false) hfd sc_law (by decide) (fun h => nomatch h)
  (fun X W c est efr _ => have nd := nd_law; (sms_cons (sm_for (I := [1]) c.kx.pa c.kx.calm (im_src (c.call (w_l_rounds fx) (by decide) rfl (am_cons (c.var (i := 0) rfl rfl) (am_cons em_int am_nil)))) (c.gm nd (i := 1) rfl rfl rfl) (nx_set 1) (sms_cons (sm_asg (I := [2, 3]) (em_tup (am_cons (em_frz (om_lc (own := [(("k" : Str), 18)]) c.kx (c.nd nd) (c.ok (by decide +kernel)) (im_range1 (c.bt fx.B) (c.gl (x := ("range" : Str)) rfl) (am_cons (em_add em_int (c.call (w_l_roll fx) (by decide) rfl (am_cons (c.var (i := 1) rfl rfl) (am_cons em_int am_nil)))) am_nil)) (c.lb (fun X1 W1 c1 => ⟨(c1.gm nd (i := 18) rfl rfl rfl), ptm_nil, (em_sub (c1.call (w_l_roll fx) (by decide) rfl (am_cons (c1.var (i := 1) rfl rfl) (am_cons em_int am_nil))) em_int)⟩) (nx_set 18)))) (am_cons (em_add em_int (c.call (w_l_roll fx) (by decide) rfl (am_cons (c.var (i := 1) rfl rfl) (am_cons em_int am_nil)))) am_nil))) (gm_tup c.kx.calm (gms_cons (c.gm nd (i := 2) rfl rfl rfl) (gms_cons (c.gm nd (i := 3) rfl rfl rfl) gms_nil))) (nx_tup (nx_cons (nx_set 2) (nx_cons (nx_set 3) nx_nil))) rfl ((sws_scope c.eS).trans rfl))
    (sms_cons (sm_asg (I := [4, 5, 6]) (em_tup (am_cons (em_min c.kx.calm c.hu (c.bt fx.B) (c.gl (x := ("min" : Str)) rfl) (c.nvar (i := 2) rfl rfl)) (am_cons (em_max c.kx.calm c.hu (c.bt fx.B) (c.gl (x := ("max" : Str)) rfl) (c.nvar (i := 2) rfl rfl)) (am_cons (em_len2 (c.bt fx.B) (c.gl (x := ("len" : Str)) rfl) (c.nvar (i := 2) rfl rfl)) am_nil)))) (gm_tup c.kx.calm (gms_cons (c.gm nd (i := 4) rfl rfl rfl) (gms_cons (c.gm nd (i := 5) rfl rfl rfl) (gms_cons (c.gm nd (i := 6) rfl rfl rfl) gms_nil)))) (nx_tup (nx_cons (nx_set 4) (nx_cons (nx_set 5) (nx_cons (nx_set 6) nx_nil)))) rfl ((sws_scope c.eS).trans rfl))
    (sms_cons (sm_asg (I := [7, 8]) (em_tup (am_cons (em_max2 c.kx.calm (c.bt fx.B) (c.gl (x := ("max" : Str)) rfl) (am_cons em_int (am_cons (em_add (em_div (em_sub (c.var (i := 5) rfl rfl) (c.var (i := 4) rfl rfl)) (c.var (i := 3) rfl rfl)) em_int) am_nil))) (am_cons (em_frz (om_sorted c.kx.calm c.hu (c.bt fx.B) (c.gl (x := ("sorted" : Str)) rfl) (c.nvar (i := 2) rfl rfl))) am_nil))) (gm_tup c.kx.calm (gms_cons (c.gm nd (i := 7) rfl rfl rfl) (gms_cons (c.gm nd (i := 8) rfl rfl rfl) gms_nil))) (nx_tup (nx_cons (nx_set 7) (nx_cons (nx_set 8) nx_nil))) rfl ((sws_scope c.eS).trans rfl))
    (sms_cons (c.set nd (i := 9) rfl rfl (em_frz (om_lc (own := [(("k" : Str), 18)]) c.kx (c.nd nd) (c.ok (by decide +kernel)) (im_range1 (c.bt fx.B) (c.gl (x := ("range" : Str)) rfl) (am_cons (em_add (c.var (i := 3) rfl rfl) em_int) am_nil)) (c.lb (fun X1 W1 c1 => ⟨(c1.gm nd (i := 18) rfl rfl rfl), ptm_nil, (em_add (c1.var (i := 4) rfl rfl) (em_mul (c1.var (i := 7) rfl rfl) (c1.var (i := 18) rfl rfl)))⟩) (nx_set 18)))) rfl ((swv_scope c.eS).trans rfl))
    (sms_cons (c.set nd (i := 10) rfl rfl (em_frz (om_sorted c.kx.calm c.hu (c.bt fx.B) (c.gl (x := ("sorted" : Str)) rfl) (nm_em (em_frz (om_dict c.kx.calm (c.bt fx.B) (c.gl (x := ("dict" : Str)) rfl) (nm_em (em_add (em_frz (om_lc (own := [(("k" : Str), 18)]) c.kx (c.nd nd) (c.ok (by decide +kernel)) (im_range1 (c.bt fx.B) (c.gl (x := ("range" : Str)) rfl) (am_cons (c.var (i := 3) rfl rfl) am_nil)) (c.lb (fun X1 W1 c1 => ⟨(c1.gm nd (i := 18) rfl rfl rfl), ptm_nil, (em_tup (am_cons (em_ix c1.hu (c1.var (i := 8) rfl rfl) (em_div (em_mul (c1.var (i := 6) rfl rfl) (c1.var (i := 18) rfl rfl)) (c1.var (i := 3) rfl rfl))) (am_cons em_int am_nil)))⟩) (nx_set 18)))) (em_frz (om_lst (am_cons (em_tup (am_cons (em_add (c.var (i := 5) rfl rfl) em_int) (am_cons em_int am_nil))) am_nil)))))))))) rfl)
    (sms_cons (sm_if (bm_bw (bw_or (bm_cmp (cm_ne c.hu) (em_frz (om_list (c.bt fx.B) (c.gl (x := ("list" : Str)) rfl) (nm_em (c.call (w_edges_even fx) (by decide) rfl (am_cons (c.var (i := 2) rfl rfl) (am_cons (c.var (i := 3) rfl rfl) am_nil)))))) (c.var (i := 9) rfl rfl) rfl) (bw_or1 (bm_cmp (cm_ne c.hu) (em_frz (om_list (c.bt fx.B) (c.gl (x := ("list" : Str)) rfl) (nm_em (c.call (w_edges_full fx) (by decide) rfl (am_cons (c.var (i := 2) rfl rfl) (am_cons (c.var (i := 3) rfl rfl) am_nil)))))) (c.var (i := 10) rfl rfl) rfl)))) (sms_one (sm_ret em_bl)) sms_nil)
    (sms_cons (sm_for (I := [11]) c.kx.pa c.kx.calm (im_src (em_frz (om_lst (am_cons (c.var (i := 9) rfl rfl) (am_cons (c.var (i := 10) rfl rfl) am_nil))))) (c.gm nd (i := 11) rfl rfl rfl) (nx_set 11) (sms_cons (c.set nd (i := 12) rfl rfl (em_add (c.var (i := 2) rfl rfl) (em_frz (om_lst (am_cons (em_sub (c.var (i := 4) rfl rfl) em_int) (am_cons (em_add (c.var (i := 5) rfl rfl) em_int) am_nil))))) rfl)
    (sms_cons (sm_if (bm_cmp (cm_ne c.hu) (em_frz (om_list (c.bt fx.B) (c.gl (x := ("list" : Str)) rfl) (nm_em (c.call (w_binned fx) (by decide) rfl (am_cons (c.var (i := 12) rfl rfl) (am_cons (c.var (i := 11) rfl rfl) am_nil)))))) (em_frz (om_lc (own := [(("number" : Str), 19)]) c.kx (c.nd nd) (c.ok (by decide +kernel)) (im_src (c.var (i := 12) rfl rfl)) (c.lb (fun X1 W1 c1 => ⟨(c1.gm nd (i := 19) rfl rfl rfl), ptm_nil, (c1.call (w_l_bin fx) (by decide) rfl (am_cons (c1.var (i := 19) rfl rfl) (am_cons (c1.var (i := 11) rfl rfl) am_nil)))⟩) (nx_set 19)))) rfl) (sms_one (sm_ret em_bl)) sms_nil)
    (sms_one (sm_if (bm_bw (bw_or (bm_cmp (cm_ne c.hu) (c.call (w_bin_of fx) (by decide) rfl (am_cons (em_ix c.hu (c.var (i := 2) rfl rfl) em_int) (am_cons (c.var (i := 11) rfl rfl) am_nil))) (c.call (w_l_bin fx) (by decide) rfl (am_cons (em_ix c.hu (c.var (i := 2) rfl rfl) em_int) (am_cons (c.var (i := 11) rfl rfl) am_nil))) rfl) (bw_or1 (bm_cmp (cm_isNot) (c.call (w_check_edges fx) (by decide) rfl (am_cons (c.var (i := 11) rfl rfl) am_nil)) em_non rfl)))) (sms_one (sm_ret em_bl)) sms_nil)))))
    (sms_cons (sm_if (bm_cmp (cm_ne c.hu) (em_frz (om_lc (own := [(("number" : Str), 19)]) c.kx (c.nd nd) (c.ok (by decide +kernel)) (im_src (c.var (i := 2) rfl rfl)) (c.lb (fun X1 W1 c1 => ⟨(c1.gm nd (i := 19) rfl rfl rfl), (ptm_one (bm_not (bm_chain (cm_le) (cm_le) (em_ix c1.hu (c1.var (i := 9) rfl rfl) em_int) (c1.var (i := 19) rfl rfl) (em_ix c1.hu (c1.var (i := 9) rfl rfl) (em_neg em_int))))), (c1.var (i := 19) rfl rfl)⟩) (nx_set 19)))) (em_frz (om_lst am_nil)) rfl) (sms_one (sm_ret em_bl)) sms_nil)
    (sms_cons (sm_if (bm_cmp (cm_ne c.hu) (em_frz (om_lc (own := [(("number" : Str), 19)]) c.kx (c.nd nd) (c.ok (by decide +kernel)) (im_src (c.var (i := 2) rfl rfl)) (c.lb (fun X1 W1 c1 => ⟨(c1.gm nd (i := 19) rfl rfl rfl), (ptm_one (bm_not (bm_chain (cm_le) (cm_lt) (em_ix c1.hu (c1.var (i := 10) rfl rfl) em_int) (c1.var (i := 19) rfl rfl) (em_ix c1.hu (c1.var (i := 10) rfl rfl) (em_neg em_int))))), (c1.var (i := 19) rfl rfl)⟩) (nx_set 19)))) (em_frz (om_lst am_nil)) rfl) (sms_one (sm_ret em_bl)) sms_nil)
    (sms_cons (c.set nd (i := 13) rfl rfl (em_add em_int (c.call (w_l_roll fx) (by decide) rfl (am_cons (c.var (i := 1) rfl rfl) (am_cons em_int am_nil)))) rfl)
    (sms_cons (sm_if (bm_cmp (cm_ne c.hu) (em_frz (om_list (c.bt fx.B) (c.gl (x := ("list" : Str)) rfl) (nm_em (c.call (w_shares_of fx) (by decide) rfl (am_cons (c.var (i := 2) rfl rfl) (am_cons (c.var (i := 13) rfl rfl) am_nil)))))) (em_frz (om_lc (own := [(("number" : Str), 19)]) c.kx (c.nd nd) (c.ok (by decide +kernel)) (im_src (c.var (i := 2) rfl rfl)) (c.lb (fun X1 W1 c1 => ⟨(c1.gm nd (i := 19) rfl rfl rfl), ptm_nil, (em_if (bm_cmp (cm_gt) (c1.var (i := 5) rfl rfl) (c1.var (i := 4) rfl rfl) rfl) (em_div (em_mul (em_sub (c1.var (i := 19) rfl rfl) (c1.var (i := 4) rfl rfl)) (c1.var (i := 13) rfl rfl)) (em_sub (c1.var (i := 5) rfl rfl) (c1.var (i := 4) rfl rfl))) em_int)⟩) (nx_set 19)))) rfl) (sms_one (sm_ret em_bl)) sms_nil)
    (sms_cons (c.set nd (i := 14) rfl rfl (c.call (w_l_root fx) (by decide) rfl (am_cons (em_sub (em_mul (c.var (i := 6) rfl rfl) (em_sum c.kx.calm (c.bt fx.B) (c.gl (x := ("sum" : Str)) rfl) (nm_em (em_frz (om_lc (own := [(("number" : Str), 19)]) c.kx (c.nd nd) (c.ok (by decide +kernel)) (im_src (c.var (i := 2) rfl rfl)) (c.lb (fun X1 W1 c1 => ⟨(c1.gm nd (i := 19) rfl rfl rfl), ptm_nil, (em_mul (c1.var (i := 19) rfl rfl) (c1.var (i := 19) rfl rfl))⟩) (nx_set 19))))))) (em_mul (em_sum c.kx.calm (c.bt fx.B) (c.gl (x := ("sum" : Str)) rfl) (c.nvar (i := 2) rfl rfl)) (em_sum c.kx.calm (c.bt fx.B) (c.gl (x := ("sum" : Str)) rfl) (c.nvar (i := 2) rfl rfl)))) am_nil)) rfl)
    (sms_cons (sm_if (bm_cmp (cm_ne c.hu) (em_frz (om_list (c.bt fx.B) (c.gl (x := ("list" : Str)) rfl) (nm_em (c.call (w_standard fx) (by decide) rfl (am_cons (c.var (i := 2) rfl rfl) am_nil))))) (em_frz (om_lc (own := [(("number" : Str), 19)]) c.kx (c.nd nd) (c.ok (by decide +kernel)) (im_src (c.var (i := 2) rfl rfl)) (c.lb (fun X1 W1 c1 => ⟨(c1.gm nd (i := 19) rfl rfl rfl), ptm_nil, (em_if (bm_cmp (cm_gt) (c1.var (i := 14) rfl rfl) em_int rfl) (em_div (em_mul em_int (em_sub (em_mul (c1.var (i := 6) rfl rfl) (c1.var (i := 19) rfl rfl)) (em_sum c1.kx.calm (c1.bt fx.B) (c1.gl (x := ("sum" : Str)) rfl) (c1.nvar (i := 2) rfl rfl)))) (c1.var (i := 14) rfl rfl)) em_int)⟩) (nx_set 19)))) rfl) (sms_one (sm_ret em_bl)) sms_nil)
    (sms_cons (c.set nd (i := 15) rfl rfl (c.call (w_l_roll fx) (by decide) rfl (am_cons (c.var (i := 1) rfl rfl) (am_cons em_int am_nil))) rfl)
    (sms_cons (sm_if (bm_cmp (cm_ne c.hu) (c.call (w_square_root fx) (by decide) rfl (am_cons (c.var (i := 15) rfl rfl) am_nil)) (c.call (w_l_root fx) (by decide) rfl (am_cons (c.var (i := 15) rfl rfl) am_nil)) rfl) (sms_one (sm_ret em_bl)) sms_nil)
    (sms_cons (sm_if (bm_cmp (cm_ne c.hu) (em_frz (om_list (c.bt fx.B) (c.gl (x := ("list" : Str)) rfl) (nm_em (c.call (w_ranks_of fx) (by decide) rfl (am_cons (c.var (i := 2) rfl rfl) am_nil))))) (em_frz (om_lc (own := [(("number" : Str), 19)]) c.kx (c.nd nd) (c.ok (by decide +kernel)) (im_src (c.var (i := 2) rfl rfl)) (c.lb (fun X1 W1 c1 => ⟨(c1.gm nd (i := 19) rfl rfl rfl), ptm_nil, (em_add (em_add (em_mul em_int (em_len2 (c1.bt fx.B) (c1.gl (x := ("len" : Str)) rfl) (nm_em (em_frz (om_lc (own := [(("other" : Str), 22)]) c1.kx (c1.nd nd) (c1.ok (by decide +kernel)) (im_src (c1.var (i := 2) rfl rfl)) (c1.lb (fun X2 W2 c2 => ⟨(c2.gm nd (i := 22) rfl rfl rfl), (ptm_one (bm_cmp (cm_lt) (c2.var (i := 22) rfl rfl) (c2.var (i := 19) rfl rfl) rfl)), em_int⟩) (nx_set 22))))))) (em_count (c1.var (i := 2) rfl rfl) (c1.var (i := 19) rfl rfl))) em_int)⟩) (nx_set 19)))) rfl) (sms_one (sm_ret em_bl)) sms_nil)
    (sms_cons (sm_setLcF (own := [(("number" : Str), 19)]) c.kx (c.nd nd) (by rw [c.eN]; rfl) (by rw [c.eS]; rfl) ((swv_scope c.eS).trans rfl) (c.ok (by decide +kernel)) (im_src (c.var (i := 2) rfl rfl)) (c.lb (fun X1 W1 c1 => ⟨(c1.gm nd (i := 19) rfl rfl rfl), ptm_nil, (em_ix c1.hu (em_frz (om_lst (am_cons em_str (am_cons em_str (am_cons em_str am_nil))))) (c1.call (w_l_roll fx) (by decide) rfl (am_cons (c1.var (i := 1) rfl rfl) (am_cons em_int am_nil))))⟩) (nx_set 19)))
    (sms_cons (c.set nd (i := 17) rfl rfl (em_frz (om_sorted c.kx.calm c.hu (c.bt fx.B) (c.gl (x := ("sorted" : Str)) rfl) (nm_em (em_frz (om_dict c.kx.calm (c.bt fx.B) (c.gl (x := ("dict" : Str)) rfl) (nm_em (em_frz (om_lc (own := [(("word" : Str), 20)]) c.kx (c.nd nd) (c.ok (by decide +kernel)) (im_src (c.var (i := 16) rfl rfl)) (c.lb (fun X1 W1 c1 => ⟨(c1.gm nd (i := 20) rfl rfl rfl), ptm_nil, (em_tup (am_cons (c1.var (i := 20) rfl rfl) (am_cons em_int am_nil)))⟩) (nx_set 20)))))))))) rfl)
    (sms_cons (sm_if (bm_cmp (cm_ne c.hu) (c.call (w_signs_of fx) (by decide) rfl (am_cons (c.var (i := 16) rfl rfl) am_nil)) (em_tup (am_cons (em_tuple (c.bt fx.B) (c.gl (x := ("tuple" : Str)) rfl) (c.nvar (i := 17) rfl rfl)) (am_cons (em_tuple (c.bt fx.B) (c.gl (x := ("tuple" : Str)) rfl) (nm_em (em_frz (om_lc (own := [(("word" : Str), 20)]) c.kx (c.nd nd) (c.ok (by decide +kernel)) (im_src (c.var (i := 16) rfl rfl)) (c.lb (fun X1 W1 c1 => ⟨(c1.gm nd (i := 20) rfl rfl rfl), ptm_nil, (em_tuple (c1.bt fx.B) (c1.gl (x := ("tuple" : Str)) rfl) (nm_em (em_frz (om_lc (own := [(("name" : Str), 21)]) c1.kx (c1.nd nd) (c1.ok (by decide +kernel)) (im_src (c1.var (i := 17) rfl rfl)) (c1.lb (fun X2 W2 c2 => ⟨(c2.gm nd (i := 21) rfl rfl rfl), ptm_nil, (em_toInt (c2.bt fx.B) (c2.gl (x := ("int" : Str)) rfl) (em_cmp (cm_eq c2.hu) (c2.var (i := 21) rfl rfl) (c2.var (i := 20) rfl rfl) rfl))⟩) (nx_set 21))))))⟩) (nx_set 20)))))) am_nil))) rfl) (sms_one (sm_ret em_bl)) sms_nil)
    (sms_cons (sm_if (bm_cmp (cm_ne c.hu) (em_frz (om_list (c.bt fx.B) (c.gl (x := ("list" : Str)) rfl) (nm_em (c.call (w_places_of fx) (by decide) rfl (am_cons (c.var (i := 16) rfl rfl) (am_cons (em_frz (om_lst (am_cons em_str (am_cons em_str am_nil)))) am_nil)))))) (em_frz (om_lc (own := [(("word" : Str), 20)]) c.kx (c.nd nd) (c.ok (by decide +kernel)) (im_src (c.var (i := 16) rfl rfl)) (c.lb (fun X1 W1 c1 => ⟨(c1.gm nd (i := 20) rfl rfl rfl), ptm_nil, (em_if (bm_cmp (cm_ne c1.hu) (c1.var (i := 20) rfl rfl) em_str rfl) (em_index c1.hu65 (em_frz (om_lst (am_cons em_str (am_cons em_str am_nil)))) (c1.var (i := 20) rfl rfl)) (em_neg em_int))⟩) (nx_set 20)))) rfl) (sms_one (sm_ret em_bl)) sms_nil)
    (sms_one (sm_if (bm_not (bm_tru (c.call (w_l_made fx) (by decide) rfl (am_cons (c.var (i := 1) rfl rfl) (am_cons (c.var (i := 2) rfl rfl) (am_cons (c.var (i := 16) rfl rfl) (am_cons (c.var (i := 6) rfl rfl) (am_cons (c.var (i := 8) rfl rfl) am_nil)))))))) (sms_one (sm_ret em_bl)) sms_nil)))))))))))))))))))))))
    (sms_one (sm_ret (c.call0 (w_l_plain fx) (by decide) rfl)))))
end
end K02
/-! K02P1 -/
set_option Elab.async false
set_option linter.all false
set_option autoImplicit false
set_option maxRecDepth 100000
set_option maxHeartbeats 4000000
namespace K02
open PySem PySem.Spec PyProof.Rows L2 ML
set_option hygiene false in
local macro_rules
  | `(tactic| trivial) => `(tactic| (repeat' (first
    | with_reducible exact ev_c
    | with_reducible exact ev_nil
    | with_reducible exact ev_nx
    | with_reducible exact ev_p0
    | with_reducible exact ev_yes
    | with_reducible exact ev_gnil
    | with_reducible exact ev_ret
    | ((with_reducible apply ev_get); exact rfl)
    | ((with_reducible apply ev_peek); exact rfl)
    | ((with_reducible apply ev_peekO); (exact rfl); (exact rfl))
    | with_reducible apply ev_un
    | with_reducible apply ev_bin
    | with_reducible apply ev_cons
    | with_reducible apply ev_mB
    | with_reducible apply ev_not
    | with_reducible apply ev_or
    | with_reducible apply ev_and
    | with_reducible apply ev_tup
    | with_reducible apply ev_lst
    | with_reducible apply ev_frz
    | with_reducible apply ev_chainI
    | with_reducible apply ev_args
    | with_reducible apply ev_sret
    | with_reducible apply ev_sexpr
    | with_reducible apply ev_sset
    | with_reducible apply ev_ssetO
    | with_reducible apply ev_par2
    | with_reducible apply ev_app
    | ((with_reducible apply ev_gset); (exact Nat.le_of_ble_eq_true rfl); (exact rfl))
    | ((with_reducible apply ev_gtup); (exact rfl))
    | with_reducible apply ev_gcons
    | with_reducible apply ev_sasg
    | with_reducible apply ev_lcT
    | with_reducible apply ev_lc
    | with_reducible apply ev_gtT
    | with_reducible apply ev_gt
    | with_reducible apply ev_gsT
    | with_reducible apply ev_dc
    | with_reducible apply ev_sl3
    | with_reducible apply ev_part
    | with_reducible apply ev_obj
    | with_reducible exact ev_cmp
    | with_reducible exact ev_neg
    | with_reducible exact ev_addI
    | with_reducible exact ev_subI
    | with_reducible exact ev_intI
    | with_reducible exact ev_intB
    | with_reducible exact ev_absI
    | with_reducible exact ev_min2
    | with_reducible exact ev_max2
    | with_reducible exact ev_lenI
    | with_reducible exact ev_lenL
    | with_reducible exact ev_lenT
    | with_reducible exact ev_lenD
    | with_reducible exact ev_tupleL
    | with_reducible exact ev_tupleT
    | with_reducible exact ev_listT
    | with_reducible exact ev_listL
    | with_reducible exact ev_eqI
    | with_reducible exact ev_neI
    | with_reducible exact ev_sumI
    | with_reducible exact ev_sumM
    | with_reducible exact ev_slL
    | with_reducible apply ev_mulI
    | with_reducible apply ev_divI
    | with_reducible apply ev_modI
    | with_reducible apply ev_rng1
    | with_reducible apply ev_rng2
    | with_reducible apply ev_zip
    | with_reducible apply ev_enum
    | with_reducible apply ev_it
    | with_reducible apply ev_minI
    | with_reducible apply ev_maxI
    | with_reducible apply ev_sortedI
    | with_reducible apply ev_ixI
    | with_reducible apply ev_ixR
    | with_reducible apply ev_storeR
    | with_reducible apply ev_addL
    | with_reducible apply ev_ifI
    | ((with_reducible show mulOk _ _ = true); first | exact mulOk_l (by omega) (by omega) | exact mulOk_r (by omega) (by omega) | assumption)
    | ((with_reducible show divOk _ = true); first | exact divOk_of (by omega) (by omega) | assumption)
    | ((with_reducible show okR _ = true); first | exact okR_of (by omega) (by omega) | assumption)
    | ((with_reducible show frzO _ = some _); exact rfl)
    | ((with_reducible show _ < List.length _); exact Nat.le_of_ble_eq_true rfl)
    | ((with_reducible show List.set _ _ _ = _); exact rfl)
    | ((with_reducible show _[_]? = some _); exact rfl)
    | ((with_reducible show itL _ = some _); exact rfl)
    | ((with_reducible show atI _ _ = some _); exact rfl)
    | ((with_reducible show oSet _ _ _ = some _); exact rfl)
    | ((with_reducible show noOwn _ _ = true); exact rfl)
    | ((with_reducible show _ ≤ sizeLine); apply sz; (try simp only [List.length_cons, List.length_nil, List.length_map, List.length_range, rangeE_len, List.length_zip, List.length_zipIdx]); omega)
    | ((with_reducible show ∀ x ∈ _, Turn1 _ _ _ _ _ _ _ _); intro x hx; (try rw [List.mem_range] at hx); (try have hxB := hB _ hx); with_reducible apply turn1)
    | ((with_reducible show _ = true → Ev _ _ _ _); intro hq; (try simp only [decide_eq_true_eq, decide_eq_false_iff_not, Bool.not_eq_true, Bool.and_eq_true] at hq))
    | ((with_reducible show _ = false → Ev _ _ _ _); intro hq; (try simp only [decide_eq_true_eq, decide_eq_false_iff_not] at hq))
    | ((with_reducible show ES.wp _ _ = ES.wp _ _); exact rfl)
    | ((with_reducible show _ = List.map _ _); first | exact rfl | exact zipE_map _ _ _ _ | exact enumE_map _ _ _)
    | assumption
    | omega)))
theorem ev_lenI {ns : List Int} {S : ES} : Ev (eLen2 (.lst (iL ns))) S (.int ns.length) S := by
  have := @ev_lenL (iL ns) S
  rwa [List.length_map] at this
theorem p_edges_even {ns : List Int} {b : Int} {h : List EObj} (hne : ns ≠ []) (hb : 1 ≤ b ∧ b ≤ 50) (hB : ∀ n ∈ ns, -1000 ≤ n ∧ n ≤ 1000) :
    F_edges_even [.lst (iL ns), .int b] h = .ok (.tup ((List.range (b + 1).toNat).map fun (i : Nat) => .int (lmin ns + (if (lmax ns - lmin ns + b).fdiv b > 1 then (lmax ns - lmin ns + b).fdiv b else 1) * (0 + (i : Int))))) h := by
  have h1 := hB _ (lmin_mem hne)
  have h2 := hB _ (lmax_mem hne)
  have hw : (if (lmax ns - lmin ns + b).fdiv b > 1 then (lmax ns - lmin ns + b).fdiv b else 1) < 100000 := by
    have e : (lmax ns - lmin ns + b).fdiv b = (lmax ns - lmin ns + b) / b := Int.fdiv_eq_ediv_of_nonneg _ (by omega)
    have : (lmax ns - lmin ns + b) / b < 100000 := Int.ediv_lt_of_lt_mul (by omega) (by omega)
    rw [e]; split <;> omega
  apply ev_runE
  · unfold b_edges_even
    apply ev_seq
    · apply ev_ifF
      · trivial
      · simp [hne, hb]
      · exact ev_nx
    · apply ev_seq
      · trivial
      · apply ev_seq
        · trivial
        · trivial
  · exact rfl
  · exact rfl
/-! edges_full -/
def addI (ks : List Int) (x : Int) : List Int := if ks.any (fun k => k == x) then ks else ks ++ [x]
theorem addK_iL (ks : List Int) (x : Int) : addK (iL ks) (.int x) = iL (addI ks x) := by
  unfold addK addI
  have e : (iL ks).any (fun k => eqq k (.int x)) = ks.any (fun k => k == x) := by
    rw [List.any_map]
    rfl
  rw [e]
  split
  · rfl
  · simp
theorem fold_addK : ∀ (l : List Int) (ks : List Int), (iL l).foldl addK (iL ks) = iL (l.foldl addI ks)
  | [], _ => rfl
  | x :: l, ks => by
    show (iL l).foldl addK (addK (iL ks) (.int x)) = _
    rw [addK_iL, fold_addK l]; rfl
theorem addI_len (ks : List Int) (x : Int) : (addI ks x).length ≤ ks.length + 1 := by unfold addI; split <;> simp
theorem foldI_len : ∀ (l ks : List Int), (l.foldl addI ks).length ≤ ks.length + l.length
  | [], ks => by simp
  | x :: l, ks => by
    have h1 := foldI_len l (addI ks x)
    have h2 := addI_len ks x
    simp only [List.foldl_cons, List.length_cons]
    omega
theorem last_max {ns : List Int} (hne : ns ≠ []) : iget (isort ns) (-1) = lmax ns := by
  have hs := isort_sorted ns
  have hl := isort_len ns
  have hm := @isort_mem ns
  have hne2 : isort ns ≠ [] := fun z => hne (by have := hl; rw [z] at this; exact List.length_eq_zero_iff.mp this.symm)
  obtain ⟨l, x, e⟩ : ∃ l x, isort ns = l ++ [x] := ⟨_, _, (List.dropLast_concat_getLast hne2).symm⟩
  have e2 : iget (isort ns) (-1) = x := by unfold iget; rw [e, atI_last]; rfl
  rw [e2]
  have hx : x ∈ ns := hm.mp (by rw [e]; simp)
  have h1 := le_lmax hx
  have h3 : lmax ns ∈ l ++ [x] := by rw [← e]; exact hm.mpr (lmax_mem hne)
  rw [e, List.pairwise_append] at hs
  rcases List.mem_append.mp h3 with h | h
  · have := hs.2.2 _ h x (by simp); omega
  · simp at h; omega
theorem first_min {ns : List Int} (hne : ns ≠ []) : iget (isort ns) 0 = lmin ns := by
  have hs := isort_sorted ns
  have hm := @isort_mem ns
  cases e : isort ns with
  | nil => exact absurd (hm.mpr (lmin_mem hne)) (by rw [e]; exact List.not_mem_nil)
  | cons x l =>
    have e2 : iget (x :: l) 0 = x := by
      unfold iget atI ixN
      simp
    rw [e2]
    have hx : x ∈ ns := hm.mp (by rw [e]; simp)
    have h1 := lmin_le hx
    have h3 : lmin ns ∈ x :: l := by rw [← e]; exact hm.mpr (lmin_mem hne)
    rw [e, List.pairwise_cons] at hs
    rcases List.mem_cons.mp h3 with h | h
    · exact h.symm
    · have := hs.1 _ h; omega
theorem putsI {α : Type} {ki : α → Int} {fv : α → EV} {l : List α} : (putsE (fun x => EV.int (ki x)) fv l ([], [])).1 = iL ((l.map ki).foldl addI []) ∧ (putsE (fun x => EV.int (ki x)) fv l ([], [])).1.length = (putsE (fun x => EV.int (ki x)) fv l ([], [])).2.length := by
  obtain ⟨h1, h2⟩ := puts_keys (fun x => EV.int (ki x)) fv l ([], []) rfl
  refine ⟨?_, h2⟩
  rw [h1, ← fold_addK (l.map ki) []]
  show List.foldl addK [] _ = List.foldl addK [] ((l.map ki).map EV.int)
  rw [List.map_map]
  rfl
theorem oSet_dic {ks vs : List EV} {k v : EV} (hk : (keyOf k).isSome = true) (hz : ks.length < sizeLine) : oSet k v (.dic false ks vs) = some (.dic false (dPut ks vs k v).1 (dPut ks vs k v).2) := by
  have e : (keyOkd false k && decide (ks.length < sizeLine)) = true := by simp only [Bool.and_eq_true, decide_eq_true_eq]; exact ⟨hk, hz⟩
  show (if (keyOkd false k && decide (ks.length < sizeLine)) = true then _ else none) = _
  rw [if_pos e]
theorem putI {ks vs : List EV} {kI : List Int} {i : Int} {v : EV} (e : ks = iL kI) (h : ks.length = vs.length) : (dPut ks vs (.int i) v).1 = iL (addI kI i) := by
  rw [(dPut_keys h).1, e, addK_iL]
theorem ev_sortedD {ks vs : List EV} {ns : List Int} {S : ES} (e : ks = iL ns) (hz : ns.length ≤ 16777216) : Ev (eSorted false (.dic false ks vs)) S (.lst (iL (isort ns))) S := by
  subst e
  rw [← isortBy_ints]
  exact ev_sorted rfl (sortOk_ints hz)
theorem lt_sz {n : Nat} (h : n < 16777216) : n < sizeLine := by rw [sizeLine_eq]; exact h
def fullI (ns : List Int) (b : Int) : List Int := isort (addI (((List.range b.toNat).map fun (i : Nat) => iget (isort ns) (((ns.length : Int) * (0 + (i : Int))).fdiv b)).foldl addI []) (lmax ns + 1))
theorem ix_ok {n : Nat} {b : Int} {i : Nat} (hn : 0 < n) (hb : 0 < b) (hi : i < b.toNat) : 0 ≤ ((n : Int) * (0 + (i : Int))).fdiv b ∧ ((n : Int) * (0 + (i : Int))).fdiv b < n := by
  have e : ((n : Int) * (0 + (i : Int))).fdiv b = ((n : Int) * (i : Int)) / b := by rw [Int.zero_add, Int.fdiv_eq_ediv_of_nonneg _ (by omega)]
  rw [e]
  have h0 : (0 : Int) ≤ (n : Int) * (i : Int) := Int.mul_nonneg (by omega) (by omega)
  refine ⟨Int.ediv_nonneg h0 (by omega), Int.ediv_lt_of_lt_mul hb ?_⟩
  exact Int.mul_lt_mul_of_pos_left (by omega) (by omega)
theorem p_edges_full {ns : List Int} {b : Int} {h : List EObj} (hne : ns ≠ []) (hb : 1 ≤ b ∧ b ≤ 50) (hB : ∀ n ∈ ns, -1000 ≤ n ∧ n ≤ 1000) (hz : ns.length ≤ 1000) :
    F_edges_full [.lst (iL ns), .int b] h = .ok (.tup (iL (fullI ns b))) h := by
  have hl : 0 < ns.length := List.length_pos_iff.mpr hne
  apply ev_runE
  · unfold b_edges_full
    apply ev_seq
    · apply ev_ifF
      · trivial
      · simp [hne, hb]
      · exact ev_nx
    · apply ev_seq
      · trivial
      · apply ev_seq
        · trivial
          · intro x hx
            rw [List.mem_range] at hx
            have hi := ix_ok hl (by omega : 0 < b) hx
            refine ⟨?_, ?_⟩
            rotate_left
            · apply Exists.intro
              refine ⟨?_, ?_, ?_, ?_, ?_⟩
              · trivial
              · trivial
              · trivial
                all_goals (rw [isort_len]; omega)
              · trivial
              · trivial
            · exact rfl
        · apply ev_seq
          · apply ev_storeO
            · trivial
            · exact rfl
            · trivial
              all_goals (rw [isort_len]; omega)
            · exact oSet_dic rfl (lt_sz (by rw [putsI.1, List.length_map]; have := foldI_len ((List.range b.toNat).map fun (i : Nat) => iget (isort ns) (((isort ns).length * (0 + (i : Int))).fdiv b)) []; simp only [List.length_map, List.length_range, List.length_nil] at this; omega))
            · exact rfl
          · trivial
            · exact ev_sortedD (putI putsI.1 putsI.2) (by
                have := foldI_len ((List.range b.toNat).map fun (i : Nat) => iget (isort ns) (((isort ns).length * (0 + (i : Int))).fdiv b)) []
                have h2 := addI_len (((List.range b.toNat).map fun (i : Nat) => iget (isort ns) (((isort ns).length * (0 + (i : Int))).fdiv b)).foldl addI []) (iget (isort ns) (-1) + 1)
                simp only [List.length_map, List.length_range, List.length_nil] at this; omega)
            all_goals trivial
  · exact rfl
  · unfold fullI
    rw [last_max hne, isort_len]
end K02
/-! K02P2 -/
set_option Elab.async false
set_option linter.all false
set_option autoImplicit false
set_option maxRecDepth 100000
set_option maxHeartbeats 4000000
namespace K02
open PySem PySem.Spec PyProof.Rows L2 ML
set_option hygiene false in
local macro_rules
  | `(tactic| trivial) => `(tactic| (repeat' (first
    | with_reducible exact ev_c
    | with_reducible exact ev_nil
    | with_reducible exact ev_nx
    | with_reducible exact ev_p0
    | with_reducible exact ev_yes
    | with_reducible exact ev_gnil
    | with_reducible exact ev_ret
    | ((with_reducible apply ev_get); exact rfl)
    | ((with_reducible apply ev_peek); exact rfl)
    | ((with_reducible apply ev_peekO); (exact rfl); (exact rfl))
    | with_reducible apply ev_un
    | with_reducible apply ev_bin
    | with_reducible apply ev_cons
    | with_reducible apply ev_mB
    | with_reducible apply ev_not
    | with_reducible apply ev_or
    | with_reducible apply ev_and
    | with_reducible apply ev_tup
    | with_reducible apply ev_lst
    | with_reducible apply ev_frz
    | with_reducible apply ev_chainI
    | with_reducible apply ev_args
    | with_reducible apply ev_sret
    | with_reducible apply ev_sexpr
    | with_reducible apply ev_sset
    | with_reducible apply ev_ssetO
    | with_reducible apply ev_par2
    | with_reducible apply ev_app
    | ((with_reducible apply ev_gset); (exact Nat.le_of_ble_eq_true rfl); (exact rfl))
    | ((with_reducible apply ev_gtup); (exact rfl))
    | with_reducible apply ev_gcons
    | with_reducible apply ev_sasg
    | with_reducible apply ev_lcT
    | with_reducible apply ev_lc
    | with_reducible apply ev_gtT
    | with_reducible apply ev_gt
    | with_reducible apply ev_gsT
    | with_reducible apply ev_dc
    | with_reducible apply ev_sl3
    | with_reducible apply ev_part
    | with_reducible apply ev_obj
    | with_reducible exact ev_cmp
    | with_reducible exact ev_neg
    | with_reducible exact ev_addI
    | with_reducible exact ev_subI
    | with_reducible exact ev_intI
    | with_reducible exact ev_intB
    | with_reducible exact ev_absI
    | with_reducible exact ev_min2
    | with_reducible exact ev_max2
    | with_reducible exact ev_lenI
    | with_reducible exact ev_lenL
    | with_reducible exact ev_lenT
    | with_reducible exact ev_lenD
    | with_reducible exact ev_tupleL
    | with_reducible exact ev_tupleT
    | with_reducible exact ev_listT
    | with_reducible exact ev_listL
    | with_reducible exact ev_eqI
    | with_reducible exact ev_neI
    | with_reducible exact ev_sumI
    | with_reducible exact ev_sumM
    | with_reducible exact ev_slL
    | with_reducible apply ev_mulI
    | with_reducible apply ev_divI
    | with_reducible apply ev_modI
    | with_reducible apply ev_rng1
    | with_reducible apply ev_rng2
    | with_reducible apply ev_zip
    | with_reducible apply ev_enum
    | with_reducible apply ev_it
    | with_reducible apply ev_minI
    | with_reducible apply ev_maxI
    | with_reducible apply ev_sortedI
    | with_reducible apply ev_ixI
    | with_reducible apply ev_ixR
    | with_reducible apply ev_storeR
    | with_reducible apply ev_addL
    | with_reducible apply ev_ifI
    | ((with_reducible show mulOk _ _ = true); first | exact mulOk_l (by omega) (by omega) | exact mulOk_r (by omega) (by omega) | assumption)
    | ((with_reducible show divOk _ = true); first | exact divOk_of (by omega) (by omega) | assumption)
    | ((with_reducible show okR _ = true); first | exact okR_of (by omega) (by omega) | assumption)
    | ((with_reducible show frzO _ = some _); exact rfl)
    | ((with_reducible show _ < List.length _); exact Nat.le_of_ble_eq_true rfl)
    | ((with_reducible show List.set _ _ _ = _); exact rfl)
    | ((with_reducible show _[_]? = some _); exact rfl)
    | ((with_reducible show itL _ = some _); exact rfl)
    | ((with_reducible show atI _ _ = some _); exact rfl)
    | ((with_reducible show oSet _ _ _ = some _); exact rfl)
    | ((with_reducible show noOwn _ _ = true); exact rfl)
    | ((with_reducible show _ ≤ sizeLine); apply sz; (try simp only [List.length_cons, List.length_nil, List.length_map, List.length_range, rangeE_len, List.length_zip, List.length_zipIdx]); omega)
    | ((with_reducible show ∀ x ∈ _, Turn1 _ _ _ _ _ _ _ _); intro x hx; (try rw [List.mem_range] at hx); (try have hxB := hB _ hx); with_reducible apply turn1)
    | ((with_reducible show _ = true → Ev _ _ _ _); intro hq; (try simp only [decide_eq_true_eq, decide_eq_false_iff_not, Bool.not_eq_true, Bool.and_eq_true] at hq))
    | ((with_reducible show _ = false → Ev _ _ _ _); intro hq; (try simp only [decide_eq_true_eq, decide_eq_false_iff_not] at hq))
    | ((with_reducible show ES.wp _ _ = ES.wp _ _); exact rfl)
    | ((with_reducible show _ = List.map _ _); first | exact rfl | exact zipE_map _ _ _ _ | exact enumE_map _ _ _)
    | assumption
    | omega)))
def Asc (es : List Int) : Prop := es.Pairwise (· < ·)
theorem asc_zip : ∀ {es : List Int}, Asc es → ∀ x ∈ es.zip (es.drop 1), x.1 < x.2
  | [], _, x, hx => by simp at hx
  | [a], _, x, hx => by simp at hx
  | a :: b :: l, h, x, hx => by
    unfold Asc at h
    rw [List.pairwise_cons] at h
    simp only [List.drop_succ_cons, List.drop_zero, List.zip_cons_cons] at hx
    rcases List.mem_cons.mp hx with rfl | hx
    · exact h.1 b (by simp)
    · exact asc_zip (es := b :: l) h.2 x (by simpa using hx)
theorem p_check_edges {es : List Int} {h : List EObj} (hl : 2 ≤ es.length) (ha : Asc es) (hz : es.length ≤ 1000) : F_check_edges [.lst (iL es)] h = .ok .non h := by
  apply ev_runN
  · unfold b_check_edges
    apply ev_ifF
    · apply ev_or
      · trivial
      · intro _
        apply ev_tru (b := false)
        · apply ev_ganyF (g := fun p : Int × Int => .tup [.int p.1, .int p.2]) (l := es.zip (es.drop 1))
          · apply ev_zip (v := .lst (iL es)) (w := .lst (cutE (iL es) (some ((1 : Nat) : Int)) none))
            · trivial
              exact rfl
            · exact rfl
            · exact rfl
          · rw [cut_from, ← List.map_drop]
            exact zipE_map _ _ _ _
          · exact rfl
          · intro x hx
            have hlt := asc_zip ha x hx
            apply turn1
            · trivial
            · trivial
            · intro _
              have e : EV.bl false = .bl (decide (x.2 ≤ x.1)) := by simp; omega
              rw [e]
              trivial
            · exact rfl
        · exact rfl
    · simp; omega
    · exact ev_nx
  · exact rfl
/-- the bin of a number -/
def binI (n : Int) (es : List Int) : Int :=
  let c : Int := ((es.filter fun e => decide (e ≤ n)).length : Int) - 1
  let m : Int := if (es.length : Int) - 2 < c then (es.length : Int) - 2 else c
  if m > 0 then m else 0
theorem p_bin_of {es : List Int} {n : Int} {h : List EObj} (hl : 2 ≤ es.length) (ha : Asc es) (hz : es.length ≤ 1000) : F_bin_of [.int n, .lst (iL es)] h = .ok (.int (binI n es)) h := by
  apply ev_runE
  · unfold b_bin_of
    apply ev_seq
    · apply ev_sexpr
      apply ev_callP
      · trivial
      · exact rfl
      · exact p_check_edges hl ha hz
    · apply ev_seq
      · trivial
      · trivial
  · exact rfl
  · unfold binI
    simp only [List.length_map]
theorem p_binned {es ns : List Int} {h : List EObj} (hl : 2 ≤ es.length) (ha : Asc es) (hz : es.length ≤ 1000) (hn : ns.length ≤ 1000) : F_binned [.lst (iL ns), .lst (iL es)] h = .ok (.tup (ns.map fun n => .int (binI n es))) h := by
  apply ev_runE
  · unfold b_binned
    trivial
    · apply ev_callP
      · trivial
      · exact rfl
      · exact p_bin_of hl ha hz
  · exact rfl
  · exact rfl
theorem asc_get {es : List Int} (ha : Asc es) {n : Int} : ∀ k, k < es.length → (iget es (0 + (k : Int)) ≤ n ↔ k < (es.filter fun e => decide (e ≤ n)).length) := by
  induction es with
  | nil => intro k hk; simp at hk
  | cons x l ih =>
    intro k hk
    unfold Asc at ha
    rw [List.pairwise_cons] at ha
    have hget : ∀ (m : List Int) (j : Nat), j < m.length → iget m (0 + (j : Int)) = m.getD j 0 := fun m j hj => by
      unfold iget
      rw [Int.zero_add, atI_nat (v := m[j]) (by simp [hj])]
      simp [List.getD, hj]
    rw [hget _ _ hk]
    by_cases hx : x ≤ n
    · rw [List.filter_cons_of_pos (by simpa using hx)]
      cases k with
      | zero => simp [hx]
      | succ k =>
        have hk' : k < l.length := by simpa using hk
        have := ih ha.2 k hk'
        rw [hget _ _ hk'] at this
        simp only [List.getD_cons_succ, List.length_cons]
        rw [this]
        omega
    · have hf : l.filter (fun e => decide (e ≤ n)) = [] := by
        rw [List.filter_eq_nil_iff]
        intro e he
        have := ha.1 e he
        simp; omega
      rw [List.filter_cons_of_neg (by simpa using hx), hf]
      simp only [List.length_nil, Nat.not_lt_zero, iff_false]
      cases k with
      | zero => simpa using hx
      | succ k =>
        have hk' : k < l.length := by simpa using hk
        have hm : l.getD k 0 ∈ l := by simp [List.getD, hk']
        have := ha.1 _ hm
        simp only [List.getD_cons_succ]
        omega
theorem filter_range_lt (m c : Nat) : (List.range m).filter (fun k => decide (k < c)) = List.range (min m c) := by
  induction m with
  | zero => simp
  | succ m ih =>
    rw [List.range_succ, List.filter_append, ih]
    by_cases h : m < c
    · rw [Nat.min_eq_left (by omega), Nat.min_eq_left (by omega), List.range_succ]
      simp [h]
    · rw [Nat.min_eq_right (by omega), Nat.min_eq_right (by omega)]
      simp [h]
theorem p_l_bin {es : List Int} {n : Int} {h : List EObj} (hl : 2 ≤ es.length) (ha : Asc es) (hz : es.length ≤ 1000) : F_l_bin [.int n, .lst (iL es)] h = .ok (.int (binI n es)) h := by
  have hl0 : es ≠ [] := fun z => by rw [z] at hl; simp at hl
  -- what below is
  have hb : ((List.range ((es.length : Int) - 1).toNat).filter fun (k : Nat) => decide (iget es (0 + (k : Int)) ≤ n)) = List.range (min (es.length - 1) (es.filter fun e => decide (e ≤ n)).length) := by
    have e1 : ((es.length : Int) - 1).toNat = es.length - 1 := by omega
    rw [e1, ← filter_range_lt]
    apply List.filter_congr
    intro k hk
    rw [List.mem_range] at hk
    have := asc_get ha (n := n) k (by omega)
    simp only [this]
  have hc : (es.filter fun e => decide (e ≤ n)).length ≤ es.length := List.length_filter_le _ _
  apply ev_run
  · unfold b_l_bin
    apply ev_seq
    · trivial
    · apply ev_sretP
      rw [hb]
      generalize hm : min (es.length - 1) (es.filter fun e => decide (e ≤ n)).length = m
      cases m with
      | zero =>
        have eb : binI n es = 0 := by
          unfold binI
          have : (es.filter fun e => decide (e ≤ n)).length = 0 := by omega
          rw [this]
          simp
          omega
        rw [eb]
        exact rfl
      | succ m =>
        have eb : binI n es = (m : Int) := by
          unfold binI
          simp only
          split <;> split <;> omega
        have hne : List.map (fun x : Nat => EV.int (0 + (x : Int))) (List.range (m + 1)) = List.map (fun x : Nat => EV.int (0 + (x : Int))) (List.range m) ++ [.int (0 + (m : Int))] := by rw [List.range_succ, List.map_append]; rfl
        rw [hne]
        apply ev_ifF
        · apply ev_mB
          apply ev_bin
          · trivial
          · trivial
          · apply ev_eqNil
            rw [← hne]
            exact cmp_lst fun x _ => ⟨rfl, Nat.zero_le _⟩
        · simp
        · apply ev_bin
          · trivial
          · trivial
          · have : EV.int (binI n es) = .int (0 + (m : Int)) := by rw [eb]; simp
            rw [this]
            exact ev_ixL (atI_last _ _)
  · exact rfl
end K02
/-! K02P3 -/
set_option Elab.async false
set_option linter.all false
set_option autoImplicit false
set_option maxRecDepth 100000
set_option maxHeartbeats 4000000
namespace K02
open PySem PySem.Spec PyProof.Rows L2 ML
set_option hygiene false in
local macro_rules
  | `(tactic| trivial) => `(tactic| (repeat' (first
    | with_reducible exact ev_c
    | with_reducible exact ev_nil
    | with_reducible exact ev_nx
    | with_reducible exact ev_p0
    | with_reducible exact ev_yes
    | with_reducible exact ev_gnil
    | with_reducible exact ev_ret
    | ((with_reducible apply ev_get); exact rfl)
    | ((with_reducible apply ev_peek); exact rfl)
    | ((with_reducible apply ev_peekO); (exact rfl); (exact rfl))
    | with_reducible apply ev_un
    | with_reducible apply ev_bin
    | with_reducible apply ev_cons
    | with_reducible apply ev_mB
    | with_reducible apply ev_not
    | with_reducible apply ev_or
    | with_reducible apply ev_and
    | with_reducible apply ev_tup
    | with_reducible apply ev_lst
    | with_reducible apply ev_frz
    | with_reducible apply ev_chainI
    | with_reducible apply ev_args
    | with_reducible apply ev_sret
    | with_reducible apply ev_sexpr
    | with_reducible apply ev_sset
    | with_reducible apply ev_ssetO
    | with_reducible apply ev_par2
    | with_reducible apply ev_app
    | ((with_reducible apply ev_gset); (exact Nat.le_of_ble_eq_true rfl); (exact rfl))
    | ((with_reducible apply ev_gtup); (exact rfl))
    | with_reducible apply ev_gcons
    | with_reducible apply ev_sasg
    | with_reducible apply ev_lcT
    | with_reducible apply ev_lc
    | with_reducible apply ev_gtT
    | with_reducible apply ev_gt
    | with_reducible apply ev_gsT
    | with_reducible apply ev_dc
    | with_reducible apply ev_sl3
    | with_reducible apply ev_part
    | with_reducible apply ev_obj
    | with_reducible exact ev_cmp
    | with_reducible exact ev_neg
    | with_reducible exact ev_addI
    | with_reducible exact ev_subI
    | with_reducible exact ev_intI
    | with_reducible exact ev_intB
    | with_reducible exact ev_absI
    | with_reducible exact ev_min2
    | with_reducible exact ev_max2
    | with_reducible exact ev_lenI
    | with_reducible exact ev_lenL
    | with_reducible exact ev_lenT
    | with_reducible exact ev_lenD
    | with_reducible exact ev_tupleL
    | with_reducible exact ev_tupleT
    | with_reducible exact ev_listT
    | with_reducible exact ev_listL
    | with_reducible exact ev_eqI
    | with_reducible exact ev_neI
    | with_reducible exact ev_sumI
    | with_reducible exact ev_sumM
    | with_reducible exact ev_slL
    | with_reducible apply ev_mulI
    | with_reducible apply ev_divI
    | with_reducible apply ev_modI
    | with_reducible apply ev_rng1
    | with_reducible apply ev_rng2
    | with_reducible apply ev_zip
    | with_reducible apply ev_enum
    | with_reducible apply ev_it
    | with_reducible apply ev_minI
    | with_reducible apply ev_maxI
    | with_reducible apply ev_sortedI
    | with_reducible apply ev_ixI
    | with_reducible apply ev_ixR
    | with_reducible apply ev_storeR
    | with_reducible apply ev_addL
    | with_reducible apply ev_ifI
    | ((with_reducible show mulOk _ _ = true); first | exact mulOk_l (by omega) (by omega) | exact mulOk_r (by omega) (by omega) | assumption)
    | ((with_reducible show divOk _ = true); first | exact divOk_of (by omega) (by omega) | assumption)
    | ((with_reducible show okR _ = true); first | exact okR_of (by omega) (by omega) | assumption)
    | ((with_reducible show frzO _ = some _); exact rfl)
    | ((with_reducible show _ < List.length _); exact Nat.le_of_ble_eq_true rfl)
    | ((with_reducible show List.set _ _ _ = _); exact rfl)
    | ((with_reducible show _[_]? = some _); exact rfl)
    | ((with_reducible show itL _ = some _); exact rfl)
    | ((with_reducible show atI _ _ = some _); exact rfl)
    | ((with_reducible show oSet _ _ _ = some _); exact rfl)
    | ((with_reducible show noOwn _ _ = true); exact rfl)
    | ((with_reducible show _ ≤ sizeLine); apply sz; (try simp only [List.length_cons, List.length_nil, List.length_map, List.length_range, rangeE_len, List.length_zip, List.length_zipIdx]); omega)
    | ((with_reducible show ∀ x ∈ _, Turn1 _ _ _ _ _ _ _ _); intro x hx; (try rw [List.mem_range] at hx); (try have hxB := hB _ hx); with_reducible apply turn1)
    | ((with_reducible show _ = true → Ev _ _ _ _); intro hq; (try simp only [decide_eq_true_eq, decide_eq_false_iff_not, Bool.not_eq_true, Bool.and_eq_true] at hq))
    | ((with_reducible show _ = false → Ev _ _ _ _); intro hq; (try simp only [decide_eq_true_eq, decide_eq_false_iff_not] at hq))
    | ((with_reducible show ES.wp _ _ = ES.wp _ _); exact rfl)
    | ((with_reducible show _ = List.map _ _); first | exact rfl | exact zipE_map _ _ _ _ | exact enumE_map _ _ _)
    | assumption
    | omega)))
theorem p_shares_of {ns : List Int} {b : Int} {h : List EObj} (hne : ns ≠ []) (hb : 1 ≤ b ∧ b ≤ 1000) (hB : ∀ n ∈ ns, -1000 ≤ n ∧ n ≤ 1000) (hz : ns.length ≤ 1000) :
    F_shares_of [.lst (iL ns), .int b] h = .ok (.tup (ns.map fun n => .int (if decide (lmin ns < lmax ns) then ((n - lmin ns) * b).fdiv (lmax ns - lmin ns) else 0))) h := by
  have h1 := hB _ (lmin_mem hne)
  have h2 := hB _ (lmax_mem hne)
  apply ev_runE
  · unfold b_shares_of
    apply ev_seq
    · apply ev_ifF
      · trivial
      · simp [hne]; omega
      · exact ev_nx
    · apply ev_seq
      · trivial
      · trivial
  · exact rfl
  · exact rfl
/-! roots -/
def Root (n r : Int) : Prop := 0 ≤ r ∧ r * r ≤ n ∧ n < (r + 1) * (r + 1)
theorem mul_lt_sq {a b : Int} (ha : 0 ≤ a) (h : a < b) : a * a < b * b := by
  have h1 : a * a ≤ a * b := Int.mul_le_mul_of_nonneg_left (by omega) ha
  have h2 : a * b < b * b := Int.mul_lt_mul_of_pos_right h (by omega)
  omega
theorem lt_of_sq {a b : Int} (hb : 0 ≤ b) (h : a * a < b * b) : a < b := by
  rcases Int.lt_or_le a b with z | z
  · exact z
  · have : b * b ≤ a * a := Int.mul_le_mul z z hb (by omega)
    omega
theorem root_unique {n r s : Int} (h1 : Root n r) (h2 : Root n s) : r = s := by
  obtain ⟨a1, a2, a3⟩ := h1
  obtain ⟨b1, b2, b3⟩ := h2
  have e1 : r < s + 1 := lt_of_sq (by omega) (by omega)
  have e2 : s < r + 1 := lt_of_sq (by omega) (by omega)
  omega
theorem root_small {n r B : Int} (h : Root n r) (hB : 0 ≤ B) (hn : n < B * B) : r < B := lt_of_sq hB (by have := h.2.1; omega)
theorem p_square_root {n : Int} {h : List EObj} (h0 : 0 ≤ n) (hn : n < 5000000) : ∃ r, Root n r ∧ F_square_root [.int n] h = .ok (.int r) h := by
  have hw := ev_whileI (c := mB (mBin eGt (mBin eSub (mGet 2) (mGet 1)) (mC (.int 1)))) (b := sSeq (sSet 3 (mBin eDiv (mBin eAdd2 (mGet 1) (mGet 2)) (mC (.int 2)))) (mIf (mB (mBin eLe (mBin eMul2 (mGet 3) (mGet 3)) (mGet 0))) (sSet 1 (mGet 3)) (sSet 2 (mGet 3))))
    (α := Int × Int × Slot) (fun a => ⟨[.val (.int n), .val (.int a.1), .val (.int a.2.1), a.2.2], h⟩) (fun a => 0 ≤ a.1 ∧ a.1 < a.2.1 ∧ a.1 * a.1 ≤ n ∧ n < a.2.1 * a.2.1 ∧ a.2.1 ≤ 5000000) (fun a => decide (1 < a.2.1 - a.1))
    (fun a => if decide ((a.1 + a.2.1).fdiv 2 * (a.1 + a.2.1).fdiv 2 ≤ n) then ((a.1 + a.2.1).fdiv 2, a.2.1, .val (.int ((a.1 + a.2.1).fdiv 2))) else (a.1, (a.1 + a.2.1).fdiv 2, .val (.int ((a.1 + a.2.1).fdiv 2)))) (fun a => (a.2.1 - a.1).toNat) ?hc ?hb 10000000 (0, n + 1, .emp) ⟨by simp, by simp; omega, by simp; omega, ?_, by simp; omega⟩ (by simp; omega)
  case hc =>
    rintro ⟨lo, hi, s⟩ _
    trivial
  case hb =>
    rintro ⟨lo, hi, s⟩ ⟨i1, i2, i3, i4, i5⟩ hg
    simp only [decide_eq_true_eq] at hg i1 i2 i3 i4 i5
    have em : (lo + hi).fdiv 2 = (lo + hi) / 2 := Int.fdiv_eq_ediv_of_nonneg _ (by omega)
    have m1 : lo < (lo + hi) / 2 := by omega
    have m2 : (lo + hi) / 2 < hi := by omega
    simp only [em]
    by_cases hm : (lo + hi) / 2 * ((lo + hi) / 2) ≤ n
    · simp only [hm, decide_true, if_true]
      refine ⟨?_, ⟨by omega, by omega, by first | exact hm | exact True.intro, i4, i5⟩, by omega⟩
      apply ev_seq
      · trivial
      · apply ev_ifT
        · trivial
        · simpa [em] using hm
        · rw [← em]
          apply ev_to
          · trivial
          · exact rfl
    · simp only [hm, decide_false, Bool.false_eq_true, if_false]
      refine ⟨?_, ⟨by omega, by omega, i3, by omega, by omega⟩, by omega⟩
      apply ev_seq
      · trivial
      · apply ev_ifF
        · trivial
        · simpa [em] using hm
        · rw [← em]
          apply ev_to
          · trivial
          · exact rfl
  · obtain ⟨⟨lo, hi, s⟩, ⟨i1, i2, i3, i4, i5⟩, hg, ev⟩ := hw
    simp only [decide_eq_false_iff_not] at hg i1 i2 i3 i4 i5
    have e : hi = lo + 1 := by omega
    subst e
    refine ⟨lo, ⟨i1, i3, i4⟩, ?_⟩
    apply ev_run
    · unfold b_square_root
      apply ev_seq
      · apply ev_ifF
        · trivial
        · simp; omega
        · exact ev_nx
      · apply ev_seq
        · trivial
        · apply ev_seq
          · exact ev
          · trivial
    · exact rfl
  · have h1 : (n + 1) * 1 ≤ (n + 1) * (n + 1) := Int.mul_le_mul_of_nonneg_left (by omega) (by omega)
    show n < (n + 1) * (n + 1)
    omega
end K02
/-! K02P4 -/
set_option Elab.async false
set_option linter.all false
set_option autoImplicit false
set_option maxRecDepth 100000
set_option maxHeartbeats 4000000
namespace K02
open PySem PySem.Spec PyProof.Rows L2 ML
set_option hygiene false in
local macro_rules
  | `(tactic| trivial) => `(tactic| (repeat' (first
    | with_reducible exact ev_c
    | with_reducible exact ev_nil
    | with_reducible exact ev_nx
    | with_reducible exact ev_p0
    | with_reducible exact ev_yes
    | with_reducible exact ev_gnil
    | with_reducible exact ev_ret
    | ((with_reducible apply ev_get); exact rfl)
    | ((with_reducible apply ev_peek); exact rfl)
    | ((with_reducible apply ev_peekO); (exact rfl); (exact rfl))
    | with_reducible apply ev_un
    | with_reducible apply ev_bin
    | with_reducible apply ev_cons
    | with_reducible apply ev_mB
    | with_reducible apply ev_not
    | with_reducible apply ev_or
    | with_reducible apply ev_and
    | with_reducible apply ev_tup
    | with_reducible apply ev_lst
    | with_reducible apply ev_frz
    | with_reducible apply ev_chainI
    | with_reducible apply ev_args
    | with_reducible apply ev_sret
    | with_reducible apply ev_sexpr
    | with_reducible apply ev_sset
    | with_reducible apply ev_ssetO
    | with_reducible apply ev_par2
    | with_reducible apply ev_app
    | ((with_reducible apply ev_gset); (exact Nat.le_of_ble_eq_true rfl); (exact rfl))
    | ((with_reducible apply ev_gtup); (exact rfl))
    | with_reducible apply ev_gcons
    | with_reducible apply ev_sasg
    | with_reducible apply ev_lcT
    | with_reducible apply ev_lc
    | with_reducible apply ev_gtT
    | with_reducible apply ev_gt
    | with_reducible apply ev_gsT
    | with_reducible apply ev_dc
    | with_reducible apply ev_sl3
    | with_reducible apply ev_part
    | with_reducible apply ev_obj
    | with_reducible exact ev_cmp
    | with_reducible exact ev_neg
    | with_reducible exact ev_addI
    | with_reducible exact ev_subI
    | with_reducible exact ev_intI
    | with_reducible exact ev_intB
    | with_reducible exact ev_absI
    | with_reducible exact ev_min2
    | with_reducible exact ev_max2
    | with_reducible exact ev_lenI
    | with_reducible exact ev_lenL
    | with_reducible exact ev_lenT
    | with_reducible exact ev_lenD
    | with_reducible exact ev_tupleL
    | with_reducible exact ev_tupleT
    | with_reducible exact ev_listT
    | with_reducible exact ev_listL
    | with_reducible exact ev_eqI
    | with_reducible exact ev_neI
    | with_reducible exact ev_sumI
    | with_reducible exact ev_sumM
    | with_reducible exact ev_slL
    | with_reducible apply ev_mulI
    | with_reducible apply ev_divI
    | with_reducible apply ev_modI
    | with_reducible apply ev_rng1
    | with_reducible apply ev_rng2
    | with_reducible apply ev_zip
    | with_reducible apply ev_enum
    | with_reducible apply ev_it
    | with_reducible apply ev_minI
    | with_reducible apply ev_maxI
    | with_reducible apply ev_sortedI
    | with_reducible apply ev_ixI
    | with_reducible apply ev_ixR
    | with_reducible apply ev_storeR
    | with_reducible apply ev_addL
    | with_reducible apply ev_ifI
    | ((with_reducible show mulOk _ _ = true); first | exact mulOk_l (by omega) (by omega) | exact mulOk_r (by omega) (by omega) | assumption)
    | ((with_reducible show divOk _ = true); first | exact divOk_of (by omega) (by omega) | assumption)
    | ((with_reducible show okR _ = true); first | exact okR_of (by omega) (by omega) | assumption)
    | ((with_reducible show frzO _ = some _); exact rfl)
    | ((with_reducible show _ < List.length _); exact Nat.le_of_ble_eq_true rfl)
    | ((with_reducible show List.set _ _ _ = _); exact rfl)
    | ((with_reducible show _[_]? = some _); exact rfl)
    | ((with_reducible show itL _ = some _); exact rfl)
    | ((with_reducible show atI _ _ = some _); exact rfl)
    | ((with_reducible show oSet _ _ _ = some _); exact rfl)
    | ((with_reducible show noOwn _ _ = true); exact rfl)
    | ((with_reducible show _ ≤ sizeLine); apply sz; (try simp only [List.length_cons, List.length_nil, List.length_map, List.length_range, rangeE_len, List.length_zip, List.length_zipIdx]); omega)
    | ((with_reducible show ∀ x ∈ _, Turn1 _ _ _ _ _ _ _ _); intro x hx; (try rw [List.mem_range] at hx); (try have hxB := hB _ hx); with_reducible apply turn1)
    | ((with_reducible show _ = true → Ev _ _ _ _); intro hq; (try simp only [decide_eq_true_eq, decide_eq_false_iff_not, Bool.not_eq_true, Bool.and_eq_true] at hq))
    | ((with_reducible show _ = false → Ev _ _ _ _); intro hq; (try simp only [decide_eq_true_eq, decide_eq_false_iff_not] at hq))
    | ((with_reducible show ES.wp _ _ = ES.wp _ _); exact rfl)
    | ((with_reducible show _ = List.map _ _); first | exact rfl | exact zipE_map _ _ _ _ | exact enumE_map _ _ _)
    | assumption
    | omega)))
theorem l_root_step {n st r : Int} {h : List EObj} (hn : 0 ≤ n) (hn2 : n < 5000000) (hs : 1 ≤ st) (hs2 : st ≤ 100000) (hr : 0 ≤ r) (hr2 : r * r ≤ n) : ∃ r', 0 ≤ r' ∧ r' * r' ≤ n ∧ n < (r' + st) * (r' + st) ∧
    Ev (mWhile (mB (mBin eLe (mBin eMul2 (mBin eAdd2 (mGet 1) (mGet 2)) (mBin eAdd2 (mGet 1) (mGet 2))) (mGet 0))) (sSet 1 (mBin eAdd2 (mGet 1) (mGet 2))) 10000000) ⟨[.val (.int n), .val (.int r), .val (.int st)], h⟩ .nx ⟨[.val (.int n), .val (.int r'), .val (.int st)], h⟩ := by
  have sm : ∀ x : Int, 0 ≤ x → x * x ≤ n → x ≤ n := fun x hx hq => by
    rcases Int.lt_or_le n x with z | z
    · have h1 : x * 1 ≤ x * x := Int.mul_le_mul_of_nonneg_left (by omega) hx
      omega
    · exact z
  obtain ⟨r', ⟨i1, i2⟩, hg, ev⟩ := ev_whileI (c := mB (mBin eLe (mBin eMul2 (mBin eAdd2 (mGet 1) (mGet 2)) (mBin eAdd2 (mGet 1) (mGet 2))) (mGet 0))) (b := sSet 1 (mBin eAdd2 (mGet 1) (mGet 2)))
    (fun r : Int => (⟨[.val (.int n), .val (.int r), .val (.int st)], h⟩ : ES)) (fun r => 0 ≤ r ∧ r * r ≤ n) (fun r => decide ((r + st) * (r + st) ≤ n)) (fun r => r + st) (fun r => (n - r).toNat)
    (fun a ia => by
      have := sm a ia.1 ia.2
      trivial)
    (fun a ia hg => by
      simp only [decide_eq_true_eq] at hg
      have := sm (a + st) (by omega) hg
      refine ⟨?_, ⟨by omega, hg⟩, by omega⟩
      apply ev_to
      · trivial
      · exact rfl) 10000000 r ⟨hr, hr2⟩ (by show (n - r).toNat < _; omega)
  simp only [decide_eq_false_iff_not] at hg
  exact ⟨r', i1, i2, by omega, ev⟩
theorem p_l_root {n : Int} {h : List EObj} (hn : 0 ≤ n) (hn2 : n < 5000000) : ∃ r, Root n r ∧ F_l_root [.int n] h = .ok (.int r) h := by
  obtain ⟨r1, a1, b1, _, e1⟩ := l_root_step (h := h) hn hn2 (st := 100000) (by omega) (by omega) (r := 0) (by omega) (by simpa using hn)
  obtain ⟨r2, a2, b2, _, e2⟩ := l_root_step (h := h) hn hn2 (st := 10000) (by omega) (by omega) a1 b1
  obtain ⟨r3, a3, b3, _, e3⟩ := l_root_step (h := h) hn hn2 (st := 1000) (by omega) (by omega) a2 b2
  obtain ⟨r4, a4, b4, _, e4⟩ := l_root_step (h := h) hn hn2 (st := 100) (by omega) (by omega) a3 b3
  obtain ⟨r5, a5, b5, _, e5⟩ := l_root_step (h := h) hn hn2 (st := 10) (by omega) (by omega) a4 b4
  obtain ⟨r6, a6, b6, c6, e6⟩ := l_root_step (h := h) hn hn2 (st := 1) (by omega) (by omega) a5 b5
  refine ⟨r6, ⟨a6, b6, c6⟩, ?_⟩
  apply ev_run
  · unfold b_l_root
    apply ev_seq
    · trivial
    · apply ev_seq
      · apply ev_for0
        · trivial
        · have g : ∀ (r s st : Int) (q : ML.Slot), Ev (gSet 2 (.int st)) ⟨[.val (.int n), .val (.int r), q], h⟩ () ⟨[.val (.int n), .val (.int r), .val (.int st)], h⟩ := fun r s st q => rfl
          exact ev_forCons (g 0 0 100000 .emp) e1 (ev_forCons (g r1 0 10000 _) e2 (ev_forCons (g r2 0 1000 _) e3 (ev_forCons (g r3 0 100 _) e4 (ev_forCons (g r4 0 10 _) e5 (ev_forCons (g r5 0 1 _) e6 ev_forNil)))))
      · trivial
  · exact rfl
/-! standard -/
theorem sum_bound {ns : List Int} {B : Int} (hB : ∀ n ∈ ns, -B ≤ n ∧ n ≤ B) : -(B * ns.length) ≤ ns.sum ∧ ns.sum ≤ B * ns.length := by
  induction ns with
  | nil => simp
  | cons x l ih =>
    have h1 := hB x List.mem_cons_self
    have h2 := ih fun n hn => hB n (List.mem_cons_of_mem _ hn)
    simp only [List.sum_cons, List.length_cons]
    have e : B * ((l.length + 1 : Nat) : Int) = B * l.length + B := by
      rw [Int.natCast_add, Int.mul_add]; simp
    rw [e]
    omega
def sqs (ns : List Int) : Int := (ns.map fun n => n * n).sum
theorem sq_nonneg (a : Int) : 0 ≤ a * a := by
  rcases Int.le_total 0 a with h | h
  · exact Int.mul_nonneg h h
  · exact Int.mul_nonneg_of_nonpos_of_nonpos h h
theorem dev_nonneg (x : Int) : ∀ ns : List Int, 0 ≤ sqs ns - 2 * x * ns.sum + (ns.length : Int) * (x * x)
  | [] => by simp [sqs]
  | y :: l => by
    have h := dev_nonneg x l
    have h2 := sq_nonneg (y - x)
    have e1 : sqs (y :: l) = y * y + sqs l := by simp [sqs]
    have e2 : (y - x) * (y - x) = y * y - 2 * x * y + x * x := by
      rw [Int.sub_mul, Int.mul_sub, Int.mul_sub, Int.mul_comm y x, Int.mul_assoc]; omega
    rw [e1, List.sum_cons, List.length_cons]
    rw [e2] at h2
    have e3 : 2 * x * (y + l.sum) = 2 * x * y + 2 * x * l.sum := Int.mul_add _ _ _
    have e4 : ((l.length + 1 : Nat) : Int) * (x * x) = (l.length : Int) * (x * x) + x * x := by rw [Int.natCast_add, Int.add_mul]; simp
    rw [e3, e4]
    omega
theorem cauchy : ∀ ns : List Int, 0 ≤ (ns.length : Int) * sqs ns - ns.sum * ns.sum
  | [] => by simp [sqs]
  | x :: l => by
    have h := cauchy l
    have h2 := dev_nonneg x l
    have e1 : sqs (x :: l) = x * x + sqs l := by simp [sqs]
    rw [e1, List.sum_cons, List.length_cons]
    have e3 : ((l.length + 1 : Nat) : Int) * (x * x + sqs l) = (l.length : Int) * (x * x) + (l.length : Int) * sqs l + (x * x + sqs l) := by
      rw [Int.natCast_add, Int.add_mul, Int.mul_add]; simp
    have e4 : (x + l.sum) * (x + l.sum) = x * x + 2 * x * l.sum + l.sum * l.sum := by
      rw [Int.add_mul, Int.mul_add, Int.mul_add, Int.mul_comm l.sum x, Int.mul_assoc]; omega
    rw [e3, e4]
    omega
theorem sqs_bound {ns : List Int} (hB : ∀ n ∈ ns, -100 ≤ n ∧ n ≤ 100) : 0 ≤ sqs ns ∧ sqs ns ≤ 10000 * ns.length := by
  have h := sum_bound (ns := ns.map fun n => n * n) (B := 10000) (fun m hm => by
    obtain ⟨n, hn, rfl⟩ := List.mem_map.mp hm
    have h1 := hB n hn
    have h2 := sq_nonneg n
    have h3 : n * n ≤ 100 * 100 := by
      rcases Int.le_total 0 n with z | z
      · exact Int.mul_le_mul h1.2 h1.2 z (by omega)
      · have : (-n) * (-n) ≤ 100 * 100 := Int.mul_le_mul (by omega) (by omega) (by omega) (by omega)
        rwa [Int.neg_mul_neg] at this
    omega)
  rw [List.length_map] at h
  have h0 : 0 ≤ sqs ns := by
    unfold sqs
    clear h
    induction ns with
    | nil => simp
    | cons x l ih =>
      have := ih fun n hn => hB n (List.mem_cons_of_mem _ hn)
      have := sq_nonneg x
      simp only [List.map_cons, List.sum_cons]
      omega
  exact ⟨h0, h.2⟩
def spreadN (ns : List Int) : Int := (ns.length : Int) * sqs ns - ns.sum * ns.sum
theorem spread_small {ns : List Int} (hB : ∀ n ∈ ns, -100 ≤ n ∧ n ≤ 100) (hz : ns.length ≤ 20) : 0 ≤ spreadN ns ∧ spreadN ns < 5000000 := by
  have h1 := cauchy ns
  obtain ⟨h2, h3⟩ := sqs_bound hB
  have h4 := sq_nonneg ns.sum
  have h5 : (ns.length : Int) * sqs ns ≤ 20 * (10000 * 20) := Int.mul_le_mul (by omega) (by omega) h2 (by omega)
  unfold spreadN
  omega
theorem p_standard {ns : List Int} {h : List EObj} (hne : ns ≠ []) (hB : ∀ n ∈ ns, -100 ≤ n ∧ n ≤ 100) (hz : ns.length ≤ 20) :
    ∃ r, Root (spreadN ns) r ∧ F_standard [.lst (iL ns)] h = .ok (.tup (ns.map fun n => .int (if decide (0 < r) then (100 * ((ns.length : Int) * n - ns.sum)).fdiv r else 0))) h := by
  obtain ⟨s1, s2⟩ := spread_small hB hz
  obtain ⟨r, hr, er⟩ := p_square_root (h := h) s1 s2
  have hr2 := root_small hr (B := 3000) (by omega) (by omega)
  have hs := sum_bound hB
  obtain ⟨q1, q2⟩ := sqs_bound hB
  refine ⟨r, hr, ?_⟩
  apply ev_runE
  · unfold b_standard
    apply ev_seq
    · apply ev_ifF
      · trivial
      · simp [hne]
      · exact ev_nx
    · apply ev_seq
      · trivial
      · apply ev_seq
        · apply ev_sset
          · apply ev_callP
            · apply ev_cons
              · apply ev_bin
                · apply ev_bin
                  · trivial
                  · trivial
                    all_goals first | exact mulOk_l (by omega) (by omega) | skip
                  · trivial
                · trivial
                · trivial
              · trivial
            · exact rfl
            · exact er
          · exact Nat.le_of_ble_eq_true rfl
          · exact rfl
        · trivial
  · exact rfl
  · exact rfl
end K02
/-! K02P5 -/
set_option Elab.async false
set_option linter.all false
set_option autoImplicit false
set_option maxRecDepth 100000
set_option maxHeartbeats 4000000
namespace K02
open PySem PySem.Spec PyProof.Rows L2 ML
set_option hygiene false in
local macro_rules
  | `(tactic| trivial) => `(tactic| (repeat' (first
    | with_reducible exact ev_c
    | with_reducible exact ev_nil
    | with_reducible exact ev_nx
    | with_reducible exact ev_p0
    | with_reducible exact ev_yes
    | with_reducible exact ev_gnil
    | with_reducible exact ev_ret
    | ((with_reducible apply ev_get); exact rfl)
    | ((with_reducible apply ev_peek); exact rfl)
    | ((with_reducible apply ev_peekO); (exact rfl); (exact rfl))
    | with_reducible apply ev_un
    | with_reducible apply ev_bin
    | with_reducible apply ev_cons
    | with_reducible apply ev_mB
    | with_reducible apply ev_not
    | with_reducible apply ev_or
    | with_reducible apply ev_and
    | with_reducible apply ev_tup
    | with_reducible apply ev_lst
    | with_reducible apply ev_frz
    | with_reducible apply ev_chainI
    | with_reducible apply ev_args
    | with_reducible apply ev_sret
    | with_reducible apply ev_sexpr
    | with_reducible apply ev_sset
    | with_reducible apply ev_ssetO
    | with_reducible apply ev_par2
    | with_reducible apply ev_app
    | ((with_reducible apply ev_gset); (exact Nat.le_of_ble_eq_true rfl); (exact rfl))
    | ((with_reducible apply ev_gtup); (exact rfl))
    | with_reducible apply ev_gcons
    | with_reducible apply ev_sasg
    | with_reducible apply ev_lcT
    | with_reducible apply ev_lc
    | with_reducible apply ev_gtT
    | with_reducible apply ev_gt
    | with_reducible apply ev_gsT
    | with_reducible apply ev_dc
    | with_reducible apply ev_sl3
    | with_reducible apply ev_part
    | with_reducible apply ev_obj
    | with_reducible exact ev_cmp
    | with_reducible exact ev_neg
    | with_reducible exact ev_addI
    | with_reducible exact ev_subI
    | with_reducible exact ev_intI
    | with_reducible exact ev_intB
    | with_reducible exact ev_absI
    | with_reducible exact ev_min2
    | with_reducible exact ev_max2
    | with_reducible exact ev_lenI
    | with_reducible exact ev_lenL
    | with_reducible exact ev_lenT
    | with_reducible exact ev_lenD
    | with_reducible exact ev_tupleL
    | with_reducible exact ev_tupleT
    | with_reducible exact ev_listT
    | with_reducible exact ev_listL
    | with_reducible exact ev_eqI
    | with_reducible exact ev_neI
    | with_reducible exact ev_sumI
    | with_reducible exact ev_sumM
    | with_reducible exact ev_slL
    | with_reducible apply ev_mulI
    | with_reducible apply ev_divI
    | with_reducible apply ev_modI
    | with_reducible apply ev_rng1
    | with_reducible apply ev_rng2
    | with_reducible apply ev_zip
    | with_reducible apply ev_enum
    | with_reducible apply ev_it
    | with_reducible apply ev_minI
    | with_reducible apply ev_maxI
    | with_reducible apply ev_sortedI
    | with_reducible apply ev_ixI
    | with_reducible apply ev_ixR
    | with_reducible apply ev_storeR
    | with_reducible apply ev_addL
    | with_reducible apply ev_ifI
    | ((with_reducible show mulOk _ _ = true); first | exact mulOk_l (by omega) (by omega) | exact mulOk_r (by omega) (by omega) | assumption)
    | ((with_reducible show divOk _ = true); first | exact divOk_of (by omega) (by omega) | assumption)
    | ((with_reducible show okR _ = true); first | exact okR_of (by omega) (by omega) | assumption)
    | ((with_reducible show frzO _ = some _); exact rfl)
    | ((with_reducible show _ < List.length _); exact Nat.le_of_ble_eq_true rfl)
    | ((with_reducible show List.set _ _ _ = _); exact rfl)
    | ((with_reducible show _[_]? = some _); exact rfl)
    | ((with_reducible show itL _ = some _); exact rfl)
    | ((with_reducible show atI _ _ = some _); exact rfl)
    | ((with_reducible show oSet _ _ _ = some _); exact rfl)
    | ((with_reducible show noOwn _ _ = true); exact rfl)
    | ((with_reducible show _ ≤ sizeLine); apply sz; (try simp only [List.length_cons, List.length_nil, List.length_map, List.length_range, rangeE_len, List.length_zip, List.length_zipIdx]); omega)
    | ((with_reducible show ∀ x ∈ _, Turn1 _ _ _ _ _ _ _ _); intro x hx; (try rw [List.mem_range] at hx); (try have hxB := hB _ hx); with_reducible apply turn1)
    | ((with_reducible show _ = true → Ev _ _ _ _); intro hq; (try simp only [decide_eq_true_eq, decide_eq_false_iff_not, Bool.not_eq_true, Bool.and_eq_true] at hq))
    | ((with_reducible show _ = false → Ev _ _ _ _); intro hq; (try simp only [decide_eq_true_eq, decide_eq_false_iff_not] at hq))
    | ((with_reducible show ES.wp _ _ = ES.wp _ _); exact rfl)
    | ((with_reducible show _ = List.map _ _); first | exact rfl | exact zipE_map _ _ _ _ | exact enumE_map _ _ _)
    | assumption
    | omega)))
def rank (ns : List Int) (n : Int) : Int := 2 * ((ns.filter fun o => decide (o < n)).length : Int) + ((ns.filter fun o => o == n).length : Int) + 1
theorem p_ranks_of {ns : List Int} {h : List EObj} (hz : ns.length ≤ 1000) : F_ranks_of [.lst (iL ns)] h = .ok (.tup (ns.map fun n => .int (rank ns n))) h := by
  have hw := ev_forInv (g := gSet 2) (b := sSeq (sSet 3 (mUn eLen2 (mFrz (mLc [5] (mIt (mGet 0)) (gSet 5) (mB (mBin eLt (mGet 5) (mGet 2))) (mC (.int 1))))))
    (sSeq (sSet 4 (mUn eLen2 (mFrz (mLc [5] (mIt (mGet 0)) (gSet 5) (mB (mBin eEq (mGet 5) (mGet 2))) (mC (.int 1))))))
    (sExpr (mAppend (mPl 1) (mBin eAdd2 (mBin eAdd2 (mBin eMul2 (mC (.int 2)) (mGet 3)) (mGet 4)) (mC (.int 1)))))))
    (v := EV.int) (fun d S => ∃ s2 s3 s4, S = ⟨[.val (.lst (iL ns)), .own (.lst (d.map fun n => .int (rank ns n))), s2, s3, s4, .emp], h⟩ ∧ d.length ≤ ns.length) ns [] ⟨[.val (.lst (iL ns)), .own (.lst []), .emp, .emp, .emp, .emp], h⟩ ⟨.emp, .emp, .emp, rfl, Nat.zero_le _⟩ ?step
  case step =>
    rintro d x r he S ⟨s2, s3, s4, rfl, hd⟩
    have hd2 : d.length < ns.length := by
      have : ns.length = d.length + (r.length + 1) := by
        have := congrArg List.length he
        simpa using this
      omega
    refine ⟨⟨[.val (.lst (iL ns)), .own (.lst (d.map fun n => .int (rank ns n))), .val (.int x), s3, s4, .emp], h⟩, ⟨[.val (.lst (iL ns)), .own (.lst ((d ++ [x]).map fun n => .int (rank ns n))), .val (.int x), .val (.int ((ns.filter fun o => decide (o < x)).length : Int)), .val (.int ((ns.filter fun o => o == x).length : Int)), .emp], h⟩, rfl, ?_, .val (.int x), .val (.int ((ns.filter fun o => decide (o < x)).length : Int)), .val (.int ((ns.filter fun o => o == x).length : Int)), rfl, by rw [List.length_append, List.length_singleton]; omega⟩
    apply ev_to
    · apply ev_seq
      · trivial
      · apply ev_seq
        · trivial
        · apply ev_sexpr
          apply ev_app
          · exact rfl
          · trivial
          · rw [List.length_map]; exact lt_sz (by omega)
          · exact rfl
    · rw [List.map_append]
      unfold rank
      simp only [List.length_map]
      exact rfl
  · obtain ⟨S', ev, s2, s3, s4, e, _⟩ := hw
    subst e
    apply ev_runE
    · unfold b_ranks_of
      apply ev_seq
      · trivial
      · apply ev_seq
        · apply ev_for0
          · trivial
          · exact ev
        · trivial
    · exact rfl
    · exact rfl
theorem p_lagged {ns : List Int} {b : Int} {h : List EObj} (hb : 1 ≤ b ∧ b ≤ 20) (hz : ns.length ≤ 1000) :
    F_lagged [.lst (iL ns), .int b] h = .ok (.tup ((List.range ((ns.length : Int) - b).toNat).map fun (i : Nat) => .tup [.tup (cutE (iL ns) (some (b + (i : Int) - b)) (some (b + (i : Int)))), .int (iget ns (b + (i : Int)))])) h := by
  apply ev_runE
  · unfold b_lagged
    apply ev_seq
    · apply ev_ifF
      · trivial
      · simp; omega
      · exact ev_nx
    · trivial
  · exact rfl
  · exact rfl
def clipI (ns : List Int) (p n : Int) : Int :=
  let o := isort ns
  let cut := ((ns.length : Int) * p).fdiv 100
  let lo := iget o cut
  let hi := iget o ((ns.length : Int) - 1 - cut)
  let m := if n > lo then n else lo
  if m < hi then m else hi
theorem cut_ok {ns : List Int} {p : Int} (hne : ns ≠ []) (hp : 0 ≤ p ∧ p ≤ 49) : 0 ≤ ((ns.length : Int) * p).fdiv 100 ∧ ((ns.length : Int) * p).fdiv 100 < ns.length := by
  have hl : 0 < ns.length := List.length_pos_iff.mpr hne
  have e : ((ns.length : Int) * p).fdiv 100 = ((ns.length : Int) * p) / 100 := Int.fdiv_eq_ediv_of_nonneg _ (by omega)
  have h0 : 0 ≤ (ns.length : Int) * p := Int.mul_nonneg (by omega) hp.1
  have h1 : (ns.length : Int) * p ≤ ns.length * 49 := Int.mul_le_mul_of_nonneg_left hp.2 (by omega)
  rw [e]
  omega
theorem p_clipped {ns : List Int} {p : Int} {h : List EObj} (hne : ns ≠ []) (hp : 0 ≤ p ∧ p ≤ 49) (hz : ns.length ≤ 1000) :
    F_clipped [.lst (iL ns), .int p] h = .ok (.tup (ns.map fun n => .int (clipI ns p n))) h := by
  have hc := cut_ok hne hp
  have hl := isort_len ns
  apply ev_runE
  · unfold b_clipped
    apply ev_seq
    · apply ev_ifF
      · trivial
      · simp [hne, hp]
      · exact ev_nx
    · apply ev_seq
      · trivial
      · apply ev_seq
        · trivial
        · rw [hl]
          apply ev_seq
          · trivial
            all_goals (try rw [hl]; omega)
          · trivial
  · exact rfl
  · unfold clipI
    simp only [hl]
end K02
/-! K02P6 -/
set_option Elab.async false
set_option linter.all false
set_option autoImplicit false
set_option maxRecDepth 100000
set_option maxHeartbeats 4000000
namespace K02
open PySem PySem.Spec PyProof.Rows L2 ML
set_option hygiene false in
local macro_rules
  | `(tactic| trivial) => `(tactic| (repeat' (first
    | with_reducible exact ev_c
    | with_reducible exact ev_nil
    | with_reducible exact ev_nx
    | with_reducible exact ev_p0
    | with_reducible exact ev_yes
    | with_reducible exact ev_gnil
    | with_reducible exact ev_ret
    | ((with_reducible apply ev_get); exact rfl)
    | ((with_reducible apply ev_peek); exact rfl)
    | ((with_reducible apply ev_peekO); (exact rfl); (exact rfl))
    | with_reducible apply ev_un
    | with_reducible apply ev_bin
    | with_reducible apply ev_cons
    | with_reducible apply ev_mB
    | with_reducible apply ev_not
    | with_reducible apply ev_or
    | with_reducible apply ev_and
    | with_reducible apply ev_tup
    | with_reducible apply ev_lst
    | with_reducible apply ev_frz
    | with_reducible apply ev_chainI
    | with_reducible apply ev_args
    | with_reducible apply ev_sret
    | with_reducible apply ev_sexpr
    | with_reducible apply ev_sset
    | with_reducible apply ev_ssetO
    | with_reducible apply ev_par2
    | with_reducible apply ev_app
    | ((with_reducible apply ev_gset); (exact Nat.le_of_ble_eq_true rfl); (exact rfl))
    | ((with_reducible apply ev_gtup); (exact rfl))
    | with_reducible apply ev_gcons
    | with_reducible apply ev_sasg
    | with_reducible apply ev_lcT
    | with_reducible apply ev_lc
    | with_reducible apply ev_gtT
    | with_reducible apply ev_gt
    | with_reducible apply ev_gsT
    | with_reducible apply ev_dc
    | with_reducible apply ev_sl3
    | with_reducible apply ev_part
    | with_reducible apply ev_obj
    | with_reducible exact ev_cmp
    | with_reducible exact ev_neg
    | with_reducible exact ev_addI
    | with_reducible exact ev_subI
    | with_reducible exact ev_intI
    | with_reducible exact ev_intB
    | with_reducible exact ev_absI
    | with_reducible exact ev_min2
    | with_reducible exact ev_max2
    | with_reducible exact ev_lenI
    | with_reducible exact ev_lenL
    | with_reducible exact ev_lenT
    | with_reducible exact ev_lenD
    | with_reducible exact ev_tupleL
    | with_reducible exact ev_tupleT
    | with_reducible exact ev_listT
    | with_reducible exact ev_listL
    | with_reducible exact ev_eqI
    | with_reducible exact ev_neI
    | with_reducible exact ev_sumI
    | with_reducible exact ev_sumM
    | with_reducible exact ev_slL
    | with_reducible apply ev_mulI
    | with_reducible apply ev_divI
    | with_reducible apply ev_modI
    | with_reducible apply ev_rng1
    | with_reducible apply ev_rng2
    | with_reducible apply ev_zip
    | with_reducible apply ev_enum
    | with_reducible apply ev_it
    | with_reducible apply ev_minI
    | with_reducible apply ev_maxI
    | with_reducible apply ev_sortedI
    | with_reducible apply ev_ixI
    | with_reducible apply ev_ixR
    | with_reducible apply ev_storeR
    | with_reducible apply ev_addL
    | with_reducible apply ev_ifI
    | ((with_reducible show mulOk _ _ = true); first | exact mulOk_l (by omega) (by omega) | exact mulOk_r (by omega) (by omega) | assumption)
    | ((with_reducible show divOk _ = true); first | exact divOk_of (by omega) (by omega) | assumption)
    | ((with_reducible show okR _ = true); first | exact okR_of (by omega) (by omega) | assumption)
    | ((with_reducible show frzO _ = some _); exact rfl)
    | ((with_reducible show _ < List.length _); exact Nat.le_of_ble_eq_true rfl)
    | ((with_reducible show List.set _ _ _ = _); exact rfl)
    | ((with_reducible show _[_]? = some _); exact rfl)
    | ((with_reducible show itL _ = some _); exact rfl)
    | ((with_reducible show atI _ _ = some _); exact rfl)
    | ((with_reducible show oSet _ _ _ = some _); exact rfl)
    | ((with_reducible show noOwn _ _ = true); exact rfl)
    | ((with_reducible show _ ≤ sizeLine); apply sz; (try simp only [List.length_cons, List.length_nil, List.length_map, List.length_range, rangeE_len, List.length_zip, List.length_zipIdx]); omega)
    | ((with_reducible show ∀ x ∈ _, Turn1 _ _ _ _ _ _ _ _); intro x hx; (try rw [List.mem_range] at hx); (try have hxB := hB _ hx); with_reducible apply turn1)
    | ((with_reducible show _ = true → Ev _ _ _ _); intro hq; (try simp only [decide_eq_true_eq, decide_eq_false_iff_not, Bool.not_eq_true, Bool.and_eq_true] at hq))
    | ((with_reducible show _ = false → Ev _ _ _ _); intro hq; (try simp only [decide_eq_true_eq, decide_eq_false_iff_not] at hq))
    | ((with_reducible show ES.wp _ _ = ES.wp _ _); exact rfl)
    | ((with_reducible show _ = List.map _ _); first | exact rfl | exact zipE_map _ _ _ _ | exact enumE_map _ _ _)
    | assumption
    | omega)))
/-! powers -/
def powL (n : Int) (k : Nat) : List Int := (List.range (k + 1)).map fun j => n ^ (j + 1)
theorem powL_succ (n : Int) (k : Nat) : powL n (k + 1) = powL n k ++ [n ^ (k + 1) * n] := by
  unfold powL
  rw [List.range_succ, List.map_append]
  show _ ++ [n ^ (k + 1 + 1)] = _
  rw [Int.pow_succ n (k + 1)]
theorem iL_app (a b : List Int) : iL (a ++ b) = iL a ++ iL b := List.map_append
theorem powL_at (n : Int) (k : Nat) : atI (iL (powL n k)) (-1) = some (.int (n ^ (k + 1))) := by
  unfold powL
  rw [List.range_succ, List.map_append, iL_app]
  exact atI_last _ _
theorem powL_len (n : Int) (k : Nat) : (powL n k).length = k + 1 := by unfold powL; simp
theorem p_powers_of {ns : List Int} {p : Int} {h : List EObj} (hp : 1 ≤ p ∧ p ≤ 6) (hB : ∀ n ∈ ns, -100 ≤ n ∧ n ≤ 100) (hz : ns.length ≤ 1000) :
    F_powers_of [.lst (iL ns), .int p] h = .ok (.tup (ns.map fun n => .tup (iL (powL n (p.toNat - 1))))) h := by
  have hw := ev_forInv (g := gSet 3) (b := sSeq (sSetO 4 (mLst (mCons (mGet 3) (mNil))))
    (sSeq (mWhile (mB (mBin eLt (mUn eLen2 (mPeek 4)) (mGet 1))) (sExpr (mAppend (mPl 4) (mBin eMul2 (mIxO eIx 4 (mUn eNeg (mC (.int 1)))) (mGet 3)))) 10000000)
    (sExpr (mAppend (mPl 2) (mUn eTuple (mPeek 4))))))
    (v := EV.int) (fun d S => ∃ s3 s4, S = ⟨[.val (.lst (iL ns)), .val (.int p), .own (.lst (d.map fun n => .tup (iL (powL n (p.toNat - 1))))), s3, s4], h⟩ ∧ d.length ≤ ns.length) ns [] ⟨[.val (.lst (iL ns)), .val (.int p), .own (.lst []), .emp, .emp], h⟩ ⟨.emp, .emp, rfl, Nat.zero_le _⟩ ?step
  case step =>
    rintro d x r he S ⟨s3, s4, rfl, hd⟩
    have hd2 : d.length < ns.length := by
      have : ns.length = d.length + (r.length + 1) := by
        have := congrArg List.length he
        simpa using this
      omega
    have hx : x ∈ ns := by rw [show ns = d ++ x :: r from he]; simp
    have hxB := hB x hx
    obtain ⟨k', ⟨i1, i2⟩, hg, ev⟩ := ev_whileI (c := mB (mBin eLt (mUn eLen2 (mPeek 4)) (mGet 1))) (b := sExpr (mAppend (mPl 4) (mBin eMul2 (mIxO eIx 4 (mUn eNeg (mC (.int 1)))) (mGet 3))))
      (fun k : Nat => (⟨[.val (.lst (iL ns)), .val (.int p), .own (.lst (d.map fun n => .tup (iL (powL n (p.toNat - 1))))), .val (.int x), .own (.lst (iL (powL x k)))], h⟩ : ES)) (fun k => k + 1 ≤ p.toNat ∧ k ≤ 10) (fun k => decide (((k + 1 : Nat) : Int) < p)) (fun k => k + 1) (fun k => 10 - k)
      (fun a ia => by
        show Ev _ _ (decide (((a + 1 : Nat) : Int) < p)) _
        rw [← powL_len x a]
        trivial)
      (fun a ia hg => by
        simp only [decide_eq_true_eq] at hg
        refine ⟨?_, ⟨by omega, by omega⟩, by omega⟩
        apply ev_to
        · apply ev_sexpr
          apply ev_app
          · exact rfl
          · apply ev_bin
            · apply ev_ixO
              · exact rfl
              · trivial
              · exact powL_at x a
            · trivial
            · trivial
          · rw [List.length_map, powL_len]; exact lt_sz (by omega)
          · exact rfl
        · show (⟨[_, _, _, _, .own (.lst (iL (powL x a) ++ [.int (x ^ (a + 1) * x)]))], h⟩ : ES) = _
          rw [powL_succ, iL_app]
          rfl) 10000000 0 ⟨by omega, by omega⟩ (by omega)
    simp only [decide_eq_false_iff_not] at hg
    have ek : k' = p.toNat - 1 := by omega
    subst ek
    refine ⟨⟨[.val (.lst (iL ns)), .val (.int p), .own (.lst (d.map fun n => .tup (iL (powL n (p.toNat - 1))))), .val (.int x), s4], h⟩, ⟨[.val (.lst (iL ns)), .val (.int p), .own (.lst ((d ++ [x]).map fun n => .tup (iL (powL n (p.toNat - 1))))), .val (.int x), .own (.lst (iL (powL x (p.toNat - 1))))], h⟩, rfl, ?_, .val (.int x), .own (.lst (iL (powL x (p.toNat - 1)))), rfl, by rw [List.length_append, List.length_singleton]; omega⟩
    apply ev_to
    · apply ev_seq
      · apply ev_to
        · trivial
        · show (⟨[.val (.lst (iL ns)), .val (.int p), .own (.lst (d.map fun n => .tup (iL (powL n (p.toNat - 1))))), .val (.int x), .own (.lst [.int x])], h⟩ : ES) = ⟨[.val (.lst (iL ns)), .val (.int p), .own (.lst (d.map fun n => .tup (iL (powL n (p.toNat - 1))))), .val (.int x), .own (.lst (iL (powL x 0)))], h⟩
          simp [powL]
          rw [Int.pow_succ x 0]; simp
      · apply ev_seq
        · exact ev
        · apply ev_sexpr
          apply ev_app
          · exact rfl
          · trivial
          · rw [List.length_map]; exact lt_sz (by omega)
          · exact rfl
    · rw [List.map_append]
      exact rfl
  · obtain ⟨S', ev, s3, s4, e, _⟩ := hw
    subst e
    apply ev_runE
    · unfold b_powers_of
      apply ev_seq
      · apply ev_ifF
        · trivial
        · simp; omega
        · exact ev_nx
      · apply ev_seq
        · trivial
        · apply ev_seq
          · apply ev_for0
            · trivial
            · exact ev
          · trivial
    · exact rfl
    · exact rfl
end K02
/-! K02P7 -/
set_option Elab.async false
set_option linter.all false
set_option autoImplicit false
set_option maxRecDepth 100000
set_option maxHeartbeats 4000000
namespace K02
open PySem PySem.Spec PyProof.Rows L2 ML
set_option hygiene false in
local macro_rules
  | `(tactic| trivial) => `(tactic| (repeat' (first
    | with_reducible exact ev_c
    | with_reducible exact ev_nil
    | with_reducible exact ev_nx
    | with_reducible exact ev_p0
    | with_reducible exact ev_yes
    | with_reducible exact ev_gnil
    | with_reducible exact ev_ret
    | ((with_reducible apply ev_get); exact rfl)
    | ((with_reducible apply ev_peek); exact rfl)
    | ((with_reducible apply ev_peekO); (exact rfl); (exact rfl))
    | with_reducible apply ev_un
    | with_reducible apply ev_bin
    | with_reducible apply ev_cons
    | with_reducible apply ev_mB
    | with_reducible apply ev_not
    | with_reducible apply ev_or
    | with_reducible apply ev_and
    | with_reducible apply ev_tup
    | with_reducible apply ev_lst
    | with_reducible apply ev_frz
    | with_reducible apply ev_chainI
    | with_reducible apply ev_args
    | with_reducible apply ev_sret
    | with_reducible apply ev_sexpr
    | with_reducible apply ev_sset
    | with_reducible apply ev_ssetO
    | with_reducible apply ev_par2
    | with_reducible apply ev_app
    | ((with_reducible apply ev_gset); (exact Nat.le_of_ble_eq_true rfl); (exact rfl))
    | ((with_reducible apply ev_gtup); (exact rfl))
    | with_reducible apply ev_gcons
    | with_reducible apply ev_sasg
    | with_reducible apply ev_lcT
    | with_reducible apply ev_lc
    | with_reducible apply ev_gtT
    | with_reducible apply ev_gt
    | with_reducible apply ev_gsT
    | with_reducible apply ev_dc
    | with_reducible apply ev_sl3
    | with_reducible apply ev_part
    | with_reducible apply ev_obj
    | with_reducible exact ev_cmp
    | with_reducible exact ev_neg
    | with_reducible exact ev_addI
    | with_reducible exact ev_subI
    | with_reducible exact ev_intI
    | with_reducible exact ev_intB
    | with_reducible exact ev_absI
    | with_reducible exact ev_min2
    | with_reducible exact ev_max2
    | with_reducible exact ev_lenI
    | with_reducible exact ev_lenL
    | with_reducible exact ev_lenT
    | with_reducible exact ev_lenD
    | with_reducible exact ev_tupleL
    | with_reducible exact ev_tupleT
    | with_reducible exact ev_listT
    | with_reducible exact ev_listL
    | with_reducible exact ev_eqI
    | with_reducible exact ev_neI
    | with_reducible exact ev_sumI
    | with_reducible exact ev_sumM
    | with_reducible exact ev_slL
    | with_reducible apply ev_mulI
    | with_reducible apply ev_divI
    | with_reducible apply ev_modI
    | with_reducible apply ev_rng1
    | with_reducible apply ev_rng2
    | with_reducible apply ev_zip
    | with_reducible apply ev_enum
    | with_reducible apply ev_it
    | with_reducible apply ev_minI
    | with_reducible apply ev_maxI
    | with_reducible apply ev_sortedI
    | with_reducible apply ev_ixI
    | with_reducible apply ev_ixR
    | with_reducible apply ev_storeR
    | with_reducible apply ev_addL
    | with_reducible apply ev_ifI
    | ((with_reducible show mulOk _ _ = true); first | exact mulOk_l (by omega) (by omega) | exact mulOk_r (by omega) (by omega) | assumption)
    | ((with_reducible show divOk _ = true); first | exact divOk_of (by omega) (by omega) | assumption)
    | ((with_reducible show okR _ = true); first | exact okR_of (by omega) (by omega) | assumption)
    | ((with_reducible show frzO _ = some _); exact rfl)
    | ((with_reducible show _ < List.length _); exact Nat.le_of_ble_eq_true rfl)
    | ((with_reducible show List.set _ _ _ = _); exact rfl)
    | ((with_reducible show _[_]? = some _); exact rfl)
    | ((with_reducible show itL _ = some _); exact rfl)
    | ((with_reducible show atI _ _ = some _); exact rfl)
    | ((with_reducible show oSet _ _ _ = some _); exact rfl)
    | ((with_reducible show noOwn _ _ = true); exact rfl)
    | ((with_reducible show _ ≤ sizeLine); apply sz; (try simp only [List.length_cons, List.length_nil, List.length_map, List.length_range, rangeE_len, List.length_zip, List.length_zipIdx]); omega)
    | ((with_reducible show ∀ x ∈ _, Turn1 _ _ _ _ _ _ _ _); intro x hx; (try rw [List.mem_range] at hx); (try have hxB := hB _ hx); with_reducible apply turn1)
    | ((with_reducible show _ = true → Ev _ _ _ _); intro hq; (try simp only [decide_eq_true_eq, decide_eq_false_iff_not, Bool.not_eq_true, Bool.and_eq_true] at hq))
    | ((with_reducible show _ = false → Ev _ _ _ _); intro hq; (try simp only [decide_eq_true_eq, decide_eq_false_iff_not] at hq))
    | ((with_reducible show ES.wp _ _ = ES.wp _ _); exact rfl)
    | ((with_reducible show _ = List.map _ _); first | exact rfl | exact zipE_map _ _ _ _ | exact enumE_map _ _ _)
    | assumption
    | omega)))
abbrev abc : List Str := ["a", "b", "c"]
theorem abc_ok {w : Str} (h : w ∈ abc) : w.cps.all (· < 0x110000) = true ∧ w.length ≤ 5 := by
  simp only [List.mem_cons, List.not_mem_nil, or_false] at h
  rcases h with rfl | rfl | rfl <;> exact ⟨by decide +kernel, by decide +kernel⟩
theorem abc3 {w : Str} (h : w ∈ abc) : w = "a" ∨ w = "b" ∨ w = "c" := by
  simp only [List.mem_cons, List.not_mem_nil, or_false] at h
  exact h
/-- the words, each once, ascending -/
def nmE (ws : List Str) : List EV := isortBy (evLe false) ((sL ws).foldl addK [])
theorem nmE_ok {ws : List Str} (hW : ∀ w ∈ ws, w ∈ abc) : ∃ nm : List Str, nmE ws = sL nm ∧ nm.length ≤ ws.length ∧ ∀ x ∈ nm, x ∈ abc := by
  have h1 : ∀ y ∈ nmE ws, ∃ n, y = .str n ∧ n ∈ abc := fun y hy => by
    rcases foldK_mem _ _ (isortBy_mem.mp hy) with z | z
    · exact absurd z List.not_mem_nil
    · obtain ⟨w, hw, rfl⟩ := List.mem_map.mp z
      exact ⟨w, rfl, hW w hw⟩
  obtain ⟨nm, e, hl, hq⟩ := all_strs h1
  refine ⟨nm, e, ?_, hq⟩
  rw [hl]
  unfold nmE
  rw [isortBy_len]
  have := foldK_len (sL ws) []
  simpa using this
theorem ev_sortedK {ws : List Str} {ks vs : List EV} {S : ES} (hW : ∀ w ∈ ws, w ∈ abc) (hz : ws.length ≤ 1000) (e : ks = (sL ws).foldl addK []) : Ev (eSorted false (.dic false ks vs)) S (.lst (nmE ws)) S := by
  subst e
  have h1 : ∀ y ∈ (sL ws).foldl addK [], ∃ n, y = .str n ∧ n ∈ abc := fun y hy => by
    rcases foldK_mem _ _ hy with z | z
    · exact absurd z List.not_mem_nil
    · obtain ⟨w, hw, rfl⟩ := List.mem_map.mp z
      exact ⟨w, rfl, hW w hw⟩
  obtain ⟨nm, e, hl, hq⟩ := all_strs h1
  have hk := foldK_len (sL ws) []
  refine ev_sorted rfl ?_
  rw [e]
  exact sortOk_sL (fun w hw => (abc_ok (hq w hw)).1) (by simp at hk; omega)
theorem putsS {ws : List Str} {fv : Str → EV} : (putsE (fun x => EV.str x) fv ws ([], [])).1 = (sL ws).foldl addK [] := (puts_keys (fun x => EV.str x) fv ws ([], []) rfl).1
theorem p_signs_of {ws nm : List Str} {h : List EObj} (hW : ∀ w ∈ ws, w ∈ abc) (hz : ws.length ≤ 1000) (hn : nmE ws = sL nm) (hN : ∀ x ∈ nm, x ∈ abc) (hl : nm.length ≤ 1000) :
    F_signs_of [.lst (sL ws)] h = .ok (.tup [.tup (sL nm), .tup (ws.map fun w => .tup (nm.map fun x => .int (if x == w then 1 else 0)))]) h := by
  apply ev_runE
  · unfold b_signs_of
    apply ev_seq
    · trivial
      · intro x hx
        refine ⟨?_, ?_⟩
        rotate_left
        · apply Exists.intro
          refine ⟨?_, ?_, ?_, ?_, ?_⟩
          · trivial
          · trivial
          · trivial
          · trivial
          · trivial
        · exact rfl
      · exact ev_sortedK hW hz putsS
      · exact rfl
      all_goals trivial
    · rw [hn]
      trivial
      · exact ev_eqS (abc_ok (hN _ (by assumption))).1 (abc_ok (hW _ (by assumption))).1
  · exact rfl
  · exact rfl
def plc (w : Str) : Int := if w == "a" then 0 else if w == "b" then 1 else -1
theorem p_places_of {ws : List Str} {h : List EObj} (hW : ∀ w ∈ ws, w ∈ abc) (hz : ws.length ≤ 1000) :
    F_places_of [.lst (sL ws), .lst [.str "a", .str "b"]] h = .ok (.tup (ws.map fun w => .int (plc w))) h := by
  apply ev_runE
  · unfold b_places_of
    apply ev_seq
    · exact (rfl : Ev _ _ Fl.nx ⟨[.val (.lst (sL ws)), .val (.lst [.str "a", .str "b"]), .emp, .emp], h⟩)
    · apply ev_sret
      apply ev_gtT
      · trivial
      · exact rfl
      · exact rfl
      · exact sz _ (by omega)
      · intro x hx
        apply turn1
        · trivial
        · trivial
        · intro _
          have e : ∀ w : Str, w ∈ abc → Ev (mIf (mB (mBin eIn (mGet 2) (mPeek 1))) (mBinL eIndex (mFrz ((mPeek 1) >>= eList)) (mGet 2)) (mBin eSub (mC (.int 0)) (mC (.int 1)))) ⟨[.val (.lst (sL ws)), .val (.lst [.str "a", .str "b"]), .val (.str w), .emp], h⟩ (.int (plc w)) ⟨[.val (.lst (sL ws)), .val (.lst [.str "a", .str "b"]), .val (.str w), .emp], h⟩ := fun w hw => by
            rcases abc3 hw with rfl | rfl | rfl <;> (show _ = _; kernel_rfl)
          exact e x (hW x hx)
        · exact rfl
  · exact rfl
  · exact rfl
end K02
/-! K02P8 -/
set_option Elab.async false
set_option linter.all false
set_option autoImplicit false
set_option maxRecDepth 100000
set_option maxHeartbeats 4000000
namespace K02
open PySem PySem.Spec PyProof.Rows L2 ML
set_option hygiene false in
local macro_rules
  | `(tactic| trivial) => `(tactic| (repeat' (first
    | with_reducible exact ev_c
    | with_reducible exact ev_nil
    | with_reducible exact ev_nx
    | with_reducible exact ev_p0
    | with_reducible exact ev_yes
    | with_reducible exact ev_gnil
    | with_reducible exact ev_ret
    | ((with_reducible apply ev_get); exact rfl)
    | ((with_reducible apply ev_peek); exact rfl)
    | ((with_reducible apply ev_peekO); (exact rfl); (exact rfl))
    | with_reducible apply ev_un
    | with_reducible apply ev_bin
    | with_reducible apply ev_cons
    | with_reducible apply ev_mB
    | with_reducible apply ev_not
    | with_reducible apply ev_or
    | with_reducible apply ev_and
    | with_reducible apply ev_tup
    | with_reducible apply ev_lst
    | with_reducible apply ev_frz
    | with_reducible apply ev_chainI
    | with_reducible apply ev_args
    | with_reducible apply ev_sret
    | with_reducible apply ev_sexpr
    | with_reducible apply ev_sset
    | with_reducible apply ev_ssetO
    | with_reducible apply ev_par2
    | with_reducible apply ev_app
    | ((with_reducible apply ev_gset); (exact Nat.le_of_ble_eq_true rfl); (exact rfl))
    | ((with_reducible apply ev_gtup); (exact rfl))
    | with_reducible apply ev_gcons
    | with_reducible apply ev_sasg
    | with_reducible apply ev_lcT
    | with_reducible apply ev_lc
    | with_reducible apply ev_gtT
    | with_reducible apply ev_gt
    | with_reducible apply ev_gsT
    | with_reducible apply ev_dc
    | with_reducible apply ev_sl3
    | with_reducible apply ev_part
    | with_reducible apply ev_obj
    | with_reducible exact ev_cmp
    | with_reducible exact ev_neg
    | with_reducible exact ev_addI
    | with_reducible exact ev_subI
    | with_reducible exact ev_intI
    | with_reducible exact ev_intB
    | with_reducible exact ev_absI
    | with_reducible exact ev_min2
    | with_reducible exact ev_max2
    | with_reducible exact ev_lenI
    | with_reducible exact ev_lenL
    | with_reducible exact ev_lenT
    | with_reducible exact ev_lenD
    | with_reducible exact ev_tupleL
    | with_reducible exact ev_tupleT
    | with_reducible exact ev_listT
    | with_reducible exact ev_listL
    | with_reducible exact ev_eqI
    | with_reducible exact ev_neI
    | with_reducible exact ev_sumI
    | with_reducible exact ev_sumM
    | with_reducible exact ev_slL
    | with_reducible apply ev_mulI
    | with_reducible apply ev_divI
    | with_reducible apply ev_modI
    | with_reducible apply ev_rng1
    | with_reducible apply ev_rng2
    | with_reducible apply ev_zip
    | with_reducible apply ev_enum
    | with_reducible apply ev_it
    | with_reducible apply ev_minI
    | with_reducible apply ev_maxI
    | with_reducible apply ev_sortedI
    | with_reducible apply ev_ixI
    | with_reducible apply ev_ixR
    | with_reducible apply ev_storeR
    | with_reducible apply ev_addL
    | with_reducible apply ev_ifI
    | ((with_reducible show mulOk _ _ = true); first | exact mulOk_l (by omega) (by omega) | exact mulOk_r (by omega) (by omega) | assumption)
    | ((with_reducible show divOk _ = true); first | exact divOk_of (by omega) (by omega) | assumption)
    | ((with_reducible show okR _ = true); first | exact okR_of (by omega) (by omega) | assumption)
    | ((with_reducible show frzO _ = some _); exact rfl)
    | ((with_reducible show _ < List.length _); exact Nat.le_of_ble_eq_true rfl)
    | ((with_reducible show List.set _ _ _ = _); exact rfl)
    | ((with_reducible show _[_]? = some _); exact rfl)
    | ((with_reducible show itL _ = some _); exact rfl)
    | ((with_reducible show atI _ _ = some _); exact rfl)
    | ((with_reducible show oSet _ _ _ = some _); exact rfl)
    | ((with_reducible show noOwn _ _ = true); exact rfl)
    | ((with_reducible show _ ≤ sizeLine); apply sz; (try simp only [List.length_cons, List.length_nil, List.length_map, List.length_range, rangeE_len, List.length_zip, List.length_zipIdx]); omega)
    | ((with_reducible show ∀ x ∈ _, Turn1 _ _ _ _ _ _ _ _); intro x hx; (try rw [List.mem_range] at hx); (try have hxB := hB _ hx); with_reducible apply turn1)
    | ((with_reducible show _ = true → Ev _ _ _ _); intro hq; (try simp only [decide_eq_true_eq, decide_eq_false_iff_not, Bool.not_eq_true, Bool.and_eq_true] at hq))
    | ((with_reducible show _ = false → Ev _ _ _ _); intro hq; (try simp only [decide_eq_true_eq, decide_eq_false_iff_not] at hq))
    | ((with_reducible show ES.wp _ _ = ES.wp _ _); exact rfl)
    | ((with_reducible show _ = List.map _ _); first | exact rfl | exact zipE_map _ _ _ _ | exact enumE_map _ _ _)
    | assumption
    | omega)))
def besd (ws : List Str) (ns : List Int) (w : Str) : List (Str × Int) := (ws.zip ns).filter fun p => p.1 == w
def besS (ws : List Str) (ns : List Int) (w : Str) : Int := ((besd ws ns w).map fun p => p.2).sum
theorem besd_bound {ws : List Str} {ns : List Int} {w : Str} (hB : ∀ n ∈ ns, -100 ≤ n ∧ n ≤ 100) (hl : ws.length = ns.length) (hz : ns.length ≤ 20) (hw : w ∈ ws) : -2000 ≤ besS ws ns w ∧ besS ws ns w ≤ 2000 ∧ 1 ≤ (besd ws ns w).length ∧ (besd ws ns w).length ≤ 20 := by
  have h1 : (besd ws ns w).length ≤ 20 := by
    have : (besd ws ns w).length ≤ (ws.zip ns).length := List.length_filter_le _ _
    rw [List.length_zip] at this
    omega
  have h2 := sum_bound (ns := (besd ws ns w).map fun p => p.2) (B := 100) fun n hn => by
    obtain ⟨p, hp, rfl⟩ := List.mem_map.mp hn
    have hp2 := (List.mem_filter.mp hp).1
    exact hB _ (List.of_mem_zip (a := p.1) (b := p.2) hp2).2
  rw [List.length_map] at h2
  have h3 : 1 ≤ (besd ws ns w).length := by
    obtain ⟨i, hi, e⟩ := List.mem_iff_getElem.mp hw
    have hi2 : i < (ws.zip ns).length := by rw [List.length_zip]; omega
    have hm : (ws[i], ns[i]'(by omega)) ∈ besd ws ns w := List.mem_filter.mpr ⟨by
      have := List.getElem_mem hi2
      rwa [List.getElem_zip] at this, by simp [e]⟩
    exact List.length_pos_of_mem hm
  unfold besS
  omega
def meanI (ws : List Str) (ns : List Int) (wt : Int) (w : Str) : Int := (100 * (besS ws ns w * (ns.length : Int) + wt * ns.sum)).fdiv ((ns.length : Int) * (((besd ws ns w).length : Int) + wt))
theorem den_ok {m c t : Int} (h1 : 1 ≤ m ∧ m ≤ 20) (h2 : 1 ≤ c ∧ c ≤ 20) (h3 : 0 ≤ t ∧ t ≤ 5) : divOk (m * (c + t)) = true := by
  have a : 0 < m * (c + t) := Int.mul_pos (by omega) (by omega)
  have b : m * (c + t) ≤ 20 * 25 := Int.mul_le_mul (by omega) (by omega) (by omega) (by omega)
  exact divOk_of a (by omega)
theorem p_means_for {ws : List Str} {ns : List Int} {wt : Int} {h : List EObj} (hW : ∀ w ∈ ws, w ∈ abc) (hB : ∀ n ∈ ns, -100 ≤ n ∧ n ≤ 100) (hl : ws.length = ns.length) (hz : ns.length ≤ 20) (hne : ns ≠ []) (hw : 0 ≤ wt ∧ wt ≤ 5) :
    F_means_for [.lst (sL ws), .lst (iL ns), .int wt] h = .ok (.tup (ws.map fun w => .int (meanI ws ns wt w))) h := by
  have hs := sum_bound hB
  have h0 : 0 < ns.length := List.length_pos_iff.mpr hne
  have hinv := ev_forInv (g := gSet 6) (b := sSeq (sSet 7 (mFrz (mLc [8, 9] (mZip (mCons (mGet 0) (mCons (mGet 1) (mNil)))) (gTupM 2 (gConsM (gSet 8) (gConsM (gSet 9) (gNilM)))) (mB (mBin eEq (mGet 8) (mGet 6))) (mGet 9))))
    (sExpr (mAppend (mPl 5) (mBin eDiv (mBin eMul2 (mC (.int 100)) (mBin eAdd2 (mBin eMul2 (mUn eSum (mPeek 7)) (mGet 3)) (mBin eMul2 (mGet 2) (mGet 4)))) (mBin eMul2 (mGet 3) (mBin eAdd2 (mUn eLen2 (mPeek 7)) (mGet 2)))))))
    (v := EV.str) (fun d S => ∃ s6 s7, S = ⟨[.val (.lst (sL ws)), .val (.lst (iL ns)), .val (.int wt), .val (.int ns.length), .val (.int ns.sum), .own (.lst (d.map fun w => .int (meanI ws ns wt w))), s6, s7, .emp, .emp], h⟩ ∧ d.length ≤ ws.length) ws [] ⟨[.val (.lst (sL ws)), .val (.lst (iL ns)), .val (.int wt), .val (.int ns.length), .val (.int ns.sum), .own (.lst []), .emp, .emp, .emp, .emp], h⟩ ⟨.emp, .emp, rfl, Nat.zero_le _⟩ ?step
  case step =>
    rintro d w r he S ⟨s6, s7, rfl, hd⟩
    have hd2 : d.length < ws.length := by
      have : ws.length = d.length + (r.length + 1) := by
        have := congrArg List.length he
        simpa using this
      omega
    have hxw : w ∈ ws := by rw [show ws = d ++ w :: r from he]; simp
    obtain ⟨b1, b2, b3, b4⟩ := besd_bound hB hl hz hxw
    have dok := den_ok (m := ns.length) (c := (besd ws ns w).length) (t := wt) (by omega) (by omega) hw
    refine ⟨⟨[.val (.lst (sL ws)), .val (.lst (iL ns)), .val (.int wt), .val (.int ns.length), .val (.int ns.sum), .own (.lst (d.map fun w => .int (meanI ws ns wt w))), .val (.str w), s7, .emp, .emp], h⟩, ⟨[.val (.lst (sL ws)), .val (.lst (iL ns)), .val (.int wt), .val (.int ns.length), .val (.int ns.sum), .own (.lst ((d ++ [w]).map fun w => .int (meanI ws ns wt w))), .val (.str w), .val (.lst ((besd ws ns w).map fun p => .int p.2)), .emp, .emp], h⟩, rfl, ?_, .val (.str w), .val (.lst ((besd ws ns w).map fun p => .int p.2)), rfl, by rw [List.length_append, List.length_singleton]; omega⟩
    apply ev_to
    · apply ev_seq
      · apply ev_to (S1 := ⟨[.val (.lst (sL ws)), .val (.lst (iL ns)), .val (.int wt), .val (.int ns.length), .val (.int ns.sum), .own (.lst (d.map fun w => .int (meanI ws ns wt w))), .val (.str w), .val (.lst ((besd ws ns w).map fun p => .int p.2)), .emp, .emp], h⟩)
        · apply ev_to
          · trivial
            exact ev_eqS (abc_ok (hW _ (List.of_mem_zip (a := x.1) (b := x.2) hx).1)).1 (abc_ok (hW _ hxw)).1
          · exact rfl
        · exact rfl
      · apply ev_sexpr
        apply ev_app
        · exact rfl
        · trivial
          all_goals first | exact mulOk_l (by omega) (by omega) | (rw [List.length_map]; exact dok) | skip
        · rw [List.length_map]; exact lt_sz (by omega)
        · exact rfl
    · rw [List.map_append]
      unfold meanI besS
      simp only [List.length_map]
      exact rfl
  · obtain ⟨S', ev, s6, s7, e, _⟩ := hinv
    subst e
    apply ev_runE
    · unfold b_means_for
      apply ev_seq
      · apply ev_ifF
        · trivial
        · simp [hl, hne]; omega
        · exact ev_nx
      · apply ev_seq
        · apply ev_par3O
          · trivial
          · trivial
          · trivial
          all_goals first | exact Nat.le_of_ble_eq_true rfl | exact rfl
        · apply ev_seq
          · apply ev_for0
            · trivial
            · exact ev
          · trivial
    · exact rfl
    · exact rfl
/-! crossed -/
theorem len_app (x y : Str) : (x ++ y).length = x.length + y.length := by
  show (x.cps ++ y.cps).size = _
  exact Array.size_append
theorem empty_app (x : Str) : Str.empty ++ x = x := by
  show (⟨#[] ++ x.cps⟩ : Str) = x
  rw [Array.empty_append]
theorem int_txt {n : Int} (h : -100 ≤ n ∧ n ≤ 100) : ((toString n : Str)).length ≤ 20 := by
  have e : ∀ k ∈ List.range 201, ((toString ((k : Int) - 100) : Str)).length ≤ 20 := by decide +kernel
  have := e (n + 100).toNat (by rw [List.mem_range]; omega)
  have e2 : (((n + 100).toNat : Nat) : Int) - 100 = n := by omega
  rwa [e2] at this
theorem log_ok {n : Int} (h : -100 ≤ n ∧ n ≤ 100) : n.natAbs.log2 < 1920 := by
  have : n.natAbs.log2 ≤ n.natAbs := Nat.log2_le_self _
  omega
def crs (p : Str × Int) : Str := p.1 ++ ("+" : Str) ++ (toString p.2 : Str)
theorem p_crossed {ws : List Str} {ns : List Int} {h : List EObj} (hW : ∀ w ∈ ws, w ∈ abc) (hB : ∀ n ∈ ns, -100 ≤ n ∧ n ≤ 100) (hl : ws.length = ns.length) (hz : ns.length ≤ 20) :
    F_crossed [.lst (sL ws), .lst (iL ns)] h = .ok (.tup ((ws.zip ns).map fun p => .str (crs p))) h := by
  apply ev_runE
  · unfold b_crossed
    apply ev_seq
    · apply ev_ifF
      · trivial
      · simp [hl]
      · exact ev_nx
    · apply ev_sret
      apply ev_gtT
      · trivial
      · exact zipE_map _ _ _ _
      · exact rfl
      · exact sz _ (by rw [List.length_zip]; omega)
      · intro x hx
        obtain ⟨m1, m2⟩ := List.of_mem_zip (a := x.1) (b := x.2) hx
        obtain ⟨w1, w2⟩ := abc_ok (hW _ m1)
        have hb := hB _ m2
        have ht := int_txt hb
        have hg := log_ok hb
        have hp : (("+" : Str)).length = 1 := by decide +kernel
        apply turn1
        · trivial
        · trivial
        · intro _
          have e1 : Ev (mStrs [mFmt (mGet 2), M.ret ("+" : Str), mFmt (mGet 3)] Str.empty) ⟨[.val (.lst (sL ws)), .val (.lst (iL ns)), .val (.str x.1), .val (.int x.2)], h⟩ (crs x) ⟨[.val (.lst (sL ws)), .val (.lst (iL ns)), .val (.str x.1), .val (.int x.2)], h⟩ := by
            have f1 : Ev (mFmt (mGet 2)) ⟨[.val (.lst (sL ws)), .val (.lst (iL ns)), .val (.str x.1), .val (.int x.2)], h⟩ x.1 ⟨[.val (.lst (sL ws)), .val (.lst (iL ns)), .val (.str x.1), .val (.int x.2)], h⟩ :=
              ev_bnd (ev_get rfl) (by show (if x.1.length ≤ sizeLine then _ else _ : M Str) _ = _; rw [if_pos (sz _ (by omega))]; rfl)
            have f2 : Ev (mFmt (mGet 3)) ⟨[.val (.lst (sL ws)), .val (.lst (iL ns)), .val (.str x.1), .val (.int x.2)], h⟩ (toString x.2 : Str) ⟨[.val (.lst (sL ws)), .val (.lst (iL ns)), .val (.str x.1), .val (.int x.2)], h⟩ :=
              ev_bnd (ev_get rfl) (by show (if x.2.natAbs.log2 < 1920 then _ else _ : M Str) _ = _; rw [if_pos hg]; rfl)
            refine ev_bnd f1 ?_
            rw [if_pos (sz _ (by rw [empty_app]; omega)), empty_app]
            refine ev_bnd ev_ret ?_
            rw [if_pos (sz _ (by rw [len_app]; omega))]
            refine ev_bnd f2 ?_
            rw [if_pos (sz _ (by rw [len_app, len_app]; omega))]
            exact ev_ret
          exact ev_bnd e1 ev_ret
        · exact rfl
  · exact rfl
  · exact rfl
end K02
/-! K02P9 -/
set_option Elab.async false
set_option linter.all false
set_option autoImplicit false
set_option maxRecDepth 100000
set_option maxHeartbeats 4000000
namespace K02
open PySem PySem.Spec PyProof.Rows L2 ML
set_option hygiene false in
local macro_rules
  | `(tactic| trivial) => `(tactic| (repeat' (first
    | with_reducible exact ev_c
    | with_reducible exact ev_nil
    | with_reducible exact ev_nx
    | with_reducible exact ev_p0
    | with_reducible exact ev_yes
    | with_reducible exact ev_gnil
    | with_reducible exact ev_ret
    | ((with_reducible apply ev_get); exact rfl)
    | ((with_reducible apply ev_peek); exact rfl)
    | ((with_reducible apply ev_peekO); (exact rfl); (exact rfl))
    | with_reducible apply ev_un
    | with_reducible apply ev_bin
    | with_reducible apply ev_cons
    | with_reducible apply ev_mB
    | with_reducible apply ev_not
    | with_reducible apply ev_or
    | with_reducible apply ev_and
    | with_reducible apply ev_tup
    | with_reducible apply ev_lst
    | with_reducible apply ev_frz
    | with_reducible apply ev_chainI
    | with_reducible apply ev_args
    | with_reducible apply ev_sret
    | with_reducible apply ev_sexpr
    | with_reducible apply ev_sset
    | with_reducible apply ev_ssetO
    | with_reducible apply ev_par2
    | with_reducible apply ev_app
    | ((with_reducible apply ev_gset); (exact Nat.le_of_ble_eq_true rfl); (exact rfl))
    | ((with_reducible apply ev_gtup); (exact rfl))
    | with_reducible apply ev_gcons
    | with_reducible apply ev_sasg
    | with_reducible apply ev_lcT
    | with_reducible apply ev_lc
    | with_reducible apply ev_gtT
    | with_reducible apply ev_gt
    | with_reducible apply ev_gsT
    | with_reducible apply ev_dc
    | with_reducible apply ev_sl3
    | with_reducible apply ev_part
    | with_reducible apply ev_obj
    | with_reducible exact ev_cmp
    | with_reducible exact ev_neg
    | with_reducible exact ev_addI
    | with_reducible exact ev_subI
    | with_reducible exact ev_intI
    | with_reducible exact ev_intB
    | with_reducible exact ev_absI
    | with_reducible exact ev_min2
    | with_reducible exact ev_max2
    | with_reducible exact ev_lenI
    | with_reducible exact ev_lenL
    | with_reducible exact ev_lenT
    | with_reducible exact ev_lenD
    | with_reducible exact ev_tupleL
    | with_reducible exact ev_tupleT
    | with_reducible exact ev_listT
    | with_reducible exact ev_listL
    | with_reducible exact ev_eqI
    | with_reducible exact ev_neI
    | with_reducible exact ev_sumI
    | with_reducible exact ev_sumM
    | with_reducible exact ev_slL
    | with_reducible apply ev_mulI
    | with_reducible apply ev_divI
    | with_reducible apply ev_modI
    | with_reducible apply ev_rng1
    | with_reducible apply ev_rng2
    | with_reducible apply ev_zip
    | with_reducible apply ev_enum
    | with_reducible apply ev_it
    | with_reducible apply ev_minI
    | with_reducible apply ev_maxI
    | with_reducible apply ev_sortedI
    | with_reducible apply ev_ixI
    | with_reducible apply ev_ixR
    | with_reducible apply ev_storeR
    | with_reducible apply ev_addL
    | with_reducible apply ev_ifI
    | ((with_reducible show mulOk _ _ = true); first | exact mulOk_l (by omega) (by omega) | exact mulOk_r (by omega) (by omega) | assumption)
    | ((with_reducible show divOk _ = true); first | exact divOk_of (by omega) (by omega) | assumption)
    | ((with_reducible show okR _ = true); first | exact okR_of (by omega) (by omega) | assumption)
    | ((with_reducible show frzO _ = some _); exact rfl)
    | ((with_reducible show _ < List.length _); exact Nat.le_of_ble_eq_true rfl)
    | ((with_reducible show List.set _ _ _ = _); exact rfl)
    | ((with_reducible show _[_]? = some _); exact rfl)
    | ((with_reducible show itL _ = some _); exact rfl)
    | ((with_reducible show atI _ _ = some _); exact rfl)
    | ((with_reducible show oSet _ _ _ = some _); exact rfl)
    | ((with_reducible show noOwn _ _ = true); exact rfl)
    | ((with_reducible show _ ≤ sizeLine); apply sz; (try simp only [List.length_cons, List.length_nil, List.length_map, List.length_range, rangeE_len, List.length_zip, List.length_zipIdx]); omega)
    | ((with_reducible show ∀ x ∈ _, Turn1 _ _ _ _ _ _ _ _); intro x hx; (try rw [List.mem_range] at hx); (try have hxB := hB _ hx); with_reducible apply turn1)
    | ((with_reducible show _ = true → Ev _ _ _ _); intro hq; (try simp only [decide_eq_true_eq, decide_eq_false_iff_not, Bool.not_eq_true, Bool.and_eq_true] at hq))
    | ((with_reducible show _ = false → Ev _ _ _ _); intro hq; (try simp only [decide_eq_true_eq, decide_eq_false_iff_not] at hq))
    | ((with_reducible show ES.wp _ _ = ES.wp _ _); exact rfl)
    | ((with_reducible show _ = List.map _ _); first | exact rfl | exact zipE_map _ _ _ _ | exact enumE_map _ _ _)
    | assumption
    | omega)))
def szE (c : List EV) : Int := ((c.foldl addK []).length : Int)
def okC (c : List EV) : Prop := c.length ≤ 1000 ∧ ∀ e ∈ c, (keyOf e).isSome = true
def usef (cols : List (List EV)) (m : Int) : List Int := ((cols.zipIdx).filter fun p => decide (1 < szE p.1) && decide (szE p.1 ≤ m)).map fun p => (p.2 : Int)
theorem p_useful {cols : List (List EV)} {m : Int} {h : List EObj} (hm : 1 ≤ m) (hc : ∀ c ∈ cols, okC c) (hz : cols.length ≤ 1000) :
    F_useful [.lst (cols.map fun c => .lst c), .int m] h = .ok (.tup (iL (usef cols m))) h := by
  apply ev_runE
  · unfold b_useful
    apply ev_seq
    · apply ev_ifF
      · trivial
      · simp; omega
      · exact ev_nx
    · apply ev_seq
      · apply ev_to (S1 := ⟨[.val (.lst (cols.map fun c => .lst c)), .val (.int m), .val (.lst (cols.map fun c => .int (szE c))), .emp, .emp, .emp, .emp], h⟩)
        · apply ev_to
          · apply ev_sset
            · apply ev_frz
              · apply ev_lcT (f := fun c : List EV => EV.int (szE c)) (g := fun c : List EV => EV.lst c) (l := cols)
                · trivial
                · exact rfl
                · exact rfl
                · exact sz _ (by omega)
                · intro c hcm
                  obtain ⟨h1, h2⟩ := hc c hcm
                  apply turn1
                  · trivial
                  · trivial
                  · intro _
                    apply ev_un
                    · apply ev_frz
                      · apply ev_dc (g := fun x : EV => x) (l := c) (fk := fun x : EV => x)
                        · trivial
                        · simp
                        · exact rfl
                        · exact sz _ (by omega)
                        · intro x hx
                          refine ⟨h2 x hx, ?_⟩
                          apply Exists.intro
                          refine ⟨?_, ?_, ?_, ?_, ?_⟩
                          · trivial
                          · trivial
                          · trivial
                          · trivial
                          · trivial
                      · exact rfl
                    · have e := (puts_keys (fun x : EV => x) (fun _ => EV.bl true) c ([], []) rfl).1
                      have e2 : szE c = ((putsE (fun x : EV => x) (fun _ => EV.bl true) c ([], [])).1.length : Int) := by rw [e]; unfold szE; simp
                      show Ev _ _ (EV.int (szE c)) _
                      rw [e2]
                      exact ev_lenD
                  · exact rfl
              · exact rfl
            · exact Nat.le_of_ble_eq_true rfl
            · exact rfl
          · exact rfl
        · exact rfl
      · trivial
  · exact rfl
  · unfold usef
    show _ = EV.tup ((List.map (fun p : List EV × Nat => (p.2 : Int)) _).map EV.int)
    rw [List.map_map]
    rfl
/-! dice -/
theorem p_l_dice {c : Int} : ∃ a b d : Int, F_l_dice [.int c] [] = .ok (.ref 0) [.lst [.int a, .int b, .int d]] := by
  by_cases hq : 0 - 10 < c ∧ c < 10
  · refine ⟨if c < 0 then -c else c, 0, 2, ?_⟩
    apply ev_runE
    · unfold b_l_dice
      apply ev_seqR
      apply ev_ifT
      · trivial
      · simp; omega
      · apply ev_sret
        apply ev_new
        trivial
    · exact rfl
    · exact rfl
  · refine ⟨c, 1 + c.fmod 1009, if decide ((10 : Int) ^ 18 ≤ c) then 1 else 0, ?_⟩
    apply ev_runE
    · unfold b_l_dice
      apply ev_seq
      · apply ev_ifF
        · trivial
        · simp; omega
        · exact ev_nx
      · apply ev_sret
        apply ev_new
        apply ev_lst
        · apply ev_cons
          · trivial
          · apply ev_cons
            · trivial
            · apply ev_cons
              · exact (rfl : Ev (mUn eInt (mBin eGe (mGet 0) (mBin ePow (mC (.int 10)) (mC (.int 18))))) ⟨[.val (.int c)], []⟩ (.int (if decide ((10 : Int) ^ 18 ≤ c) then 1 else 0)) ⟨[.val (.int c)], []⟩)
              · trivial
        · exact sz _ (by simp)
    · exact rfl
    · exact rfl
theorem p_l_rounds {ns : List Int} : ∃ a b d : Int, F_l_rounds [.scr false (iL ns), .int 1] [] = .ok (.lst [.ref 0]) [.lst [.int a, .int b, .int d]] := by
  have key : ∀ (c : Int) (s0 : ML.Slot), ∃ a b d : Int, Ev (mFrz (mLc [3] (mIt (mGet 2)) (gSet 3) (mYes) (mCall 1 F_l_dice (mCons (mGet 3) (mNil))))) ⟨[s0, .val (.int 1), .val (.lst [.int c]), .emp], []⟩ (.lst [.ref 0]) ⟨[s0, .val (.int 1), .val (.lst [.int c]), .emp], [.lst [.int a, .int b, .int d]]⟩ := fun c s0 => by
    obtain ⟨a, b, d, e⟩ := p_l_dice (c := c)
    refine ⟨a, b, d, ?_⟩
    have e1 : Ev (mCall 1 F_l_dice (mCons (mGet 3) (mNil))) ⟨[s0, .val (.int 1), .val (.lst [.int c]), .val (.int c)], []⟩ (.ref 0) ⟨[s0, .val (.int 1), .val (.lst [.int c]), .val (.int c)], [.lst [.int a, .int b, .int d]]⟩ := ev_call (ev_cons (ev_get rfl) ev_nil) rfl e
    have e5 : stCol [] (.ref 0) = some (.inl [.ref 0]) := by unfold stCol; rw [if_pos (lt_sz (by simp))]; rfl
    have e6 : Ev (mDraw [3] (gSet 3) mYes (mCall 1 F_l_dice (mCons (mGet 3) (mNil))) stCol [.ref 0] []) ⟨[s0, .val (.int 1), .val (.lst [.int c]), .val (.int c)], [.lst [.int a, .int b, .int d]]⟩ (.inl [.ref 0]) ⟨[s0, .val (.int 1), .val (.lst [.int c]), .emp], [.lst [.int a, .int b, .int d]]⟩ := rfl
    have y : Ev (mDraw [3] (gSet 3) mYes (mCall 1 F_l_dice (mCons (mGet 3) (mNil))) stCol [] [.int c]) ⟨[s0, .val (.int 1), .val (.lst [.int c]), .emp], []⟩ (.inl [.ref 0]) ⟨[s0, .val (.int 1), .val (.lst [.int c]), .emp], [.lst [.int a, .int b, .int d]]⟩ := by
      refine ev_bnd (a := ()) (S1 := ⟨[s0, .val (.int 1), .val (.lst [.int c]), .emp], []⟩) rfl (ev_bnd (a := ()) (S1 := ⟨[s0, .val (.int 1), .val (.lst [.int c]), .val (.int c)], []⟩) rfl (ev_bnd ev_yes ?_))
      refine ev_bnd e1 ?_
      rw [e5]
      exact e6
    have z : Ev (mBlk [3] (mDraw [3] (gSet 3) mYes (mCall 1 F_l_dice (mCons (mGet 3) (mNil))) stCol [] [.int c])) ⟨[s0, .val (.int 1), .val (.lst [.int c]), .emp], []⟩ (.inl [.ref 0]) ⟨[s0, .val (.int 1), .val (.lst [.int c]), .emp], [.lst [.int a, .int b, .int d]]⟩ := ev_blkX rfl y
    have i1 : Ev (mIt (mGet 2)) ⟨[s0, .val (.int 1), .val (.lst [.int c]), .emp], []⟩ [.int c] ⟨[s0, .val (.int 1), .val (.lst [.int c]), .emp], []⟩ := rfl
    exact ev_frz (ev_bnd i1 (ev_bnd (ev_ns z) ev_ret)) rfl
  cases ns with
  | nil =>
    obtain ⟨a, b, d, e⟩ := key 0 (.val (.scr false []))
    refine ⟨a, b, d, ?_⟩
    apply ev_run
    · unfold b_l_rounds
      apply ev_seq
      · exact (rfl : Ev _ _ Fl.nx ⟨[.val (.scr false []), .val (.int 1), .val (.lst []), .emp], []⟩)
      · apply ev_seq
        · exact (rfl : Ev _ _ Fl.nx ⟨[.val (.scr false []), .val (.int 1), .val (.lst [.int 0]), .emp], []⟩)
        · exact ev_sret e
    · exact rfl
  | cons c l =>
    obtain ⟨a, b, d, e⟩ := key c (.val (.scr false (iL (c :: l))))
    refine ⟨a, b, d, ?_⟩
    apply ev_run
    · unfold b_l_rounds
      apply ev_seq
      · apply ev_to (S' := ⟨[.val (.scr false (iL (c :: l))), .val (.int 1), .val (.lst [.int c]), .emp], []⟩)
        · apply ev_sset
          · apply ev_sl3
            · exact ev_get rfl
            · exact ev_p0
            · exact ev_part (ev_get rfl)
            · have := @ev_slC (iL (c :: l)) none (some ((1 : Nat) : Int)) ⟨slots0 4 [.scr false (iL (c :: l)), .int 1], []⟩
              rw [cut_to] at this
              exact this
          · exact Nat.le_of_ble_eq_true rfl
          · exact rfl
        · exact rfl
      · apply ev_seq
        · apply ev_to (S' := ⟨[.val (.scr false (iL (c :: l))), .val (.int 1), .val (.lst [.int c]), .emp], []⟩)
          · apply ev_ifF
            · apply ev_mB
              apply ev_bin
              · trivial
              · trivial
              · exact ev_eqNil (cmp_ints [c])
            · exact rfl
            · exact ev_nx
          · exact rfl
        · exact ev_sret e
    · exact rfl
theorem p_roll {m : Int} {h : List EObj} (h1 : 0 < m) (h2 : m ≤ 100000000) (hd : DI h) : ∃ r h', DI h' ∧ 0 ≤ r ∧ r < m ∧ F_l_roll [.ref 0, .int m] h = .ok (.int r) h' := by
  obtain ⟨a, b, d, rfl⟩ := hd
  by_cases hq : d = 2 ∨ (d = 1 ∧ 0 < a)
  · refine ⟨a.fmod m, [.lst [.int (a.fdiv m), .int b, .int d]], ⟨_, _, _, rfl⟩, (fmod_lt h1).1, (fmod_lt h1).2, ?_⟩
    apply ev_run
    · unfold b_l_roll
      apply ev_seqR
      apply ev_ifT
      · trivial
      · simp; omega
      · apply ev_seq
        · trivial
        · apply ev_seq
          · trivial
          · trivial
    · exact rfl
  · refine ⟨(((a * 48271 + b * 69621 + 11).fmod 2147483647).fdiv 7).fmod m, [.lst [.int ((a * 48271 + b * 69621 + 11).fmod 2147483647), .int (b + 1), .int 0]], ⟨_, _, _, rfl⟩, (fmod_lt h1).1, (fmod_lt h1).2, ?_⟩
    apply ev_run
    · unfold b_l_roll
      apply ev_seq
      · apply ev_ifF
        · trivial
        · simp; omega
        · exact ev_nx
      · apply ev_seq
        · trivial
        · apply ev_seq
          · apply ev_ifF
            · trivial
            · simp; omega
            · exact ev_nx
          · apply ev_seq
            · trivial
            · apply ev_seq
              · trivial
              · trivial
    · exact rfl
end K02
/-! K02PA -/
set_option Elab.async false
set_option linter.all false
set_option autoImplicit false
set_option maxRecDepth 100000
set_option maxHeartbeats 4000000
namespace K02
open PySem PySem.Spec PyProof.Rows L2 ML
set_option hygiene false in
local macro_rules
  | `(tactic| trivial) => `(tactic| (repeat' (first
    | with_reducible exact ev_c
    | with_reducible exact ev_nil
    | with_reducible exact ev_nx
    | with_reducible exact ev_p0
    | with_reducible exact ev_yes
    | with_reducible exact ev_gnil
    | with_reducible exact ev_ret
    | ((with_reducible apply ev_get); exact rfl)
    | ((with_reducible apply ev_peek); exact rfl)
    | ((with_reducible apply ev_peekO); (exact rfl); (exact rfl))
    | with_reducible apply ev_un
    | with_reducible apply ev_bin
    | with_reducible apply ev_cons
    | with_reducible apply ev_mB
    | with_reducible apply ev_not
    | with_reducible apply ev_or
    | with_reducible apply ev_and
    | with_reducible apply ev_tup
    | with_reducible apply ev_lst
    | with_reducible apply ev_frz
    | with_reducible apply ev_chainI
    | with_reducible apply ev_args
    | with_reducible apply ev_sret
    | with_reducible apply ev_sexpr
    | with_reducible apply ev_sset
    | with_reducible apply ev_ssetO
    | with_reducible apply ev_par2
    | with_reducible apply ev_app
    | ((with_reducible apply ev_gset); (exact Nat.le_of_ble_eq_true rfl); (exact rfl))
    | ((with_reducible apply ev_gtup); (exact rfl))
    | with_reducible apply ev_gcons
    | with_reducible apply ev_sasg
    | with_reducible apply ev_lcT
    | with_reducible apply ev_lc
    | with_reducible apply ev_gtT
    | with_reducible apply ev_gt
    | with_reducible apply ev_gsT
    | with_reducible apply ev_dc
    | with_reducible apply ev_sl3
    | with_reducible apply ev_part
    | with_reducible apply ev_obj
    | with_reducible exact ev_cmp
    | with_reducible exact ev_neg
    | with_reducible exact ev_addI
    | with_reducible exact ev_subI
    | with_reducible exact ev_intI
    | with_reducible exact ev_intB
    | with_reducible exact ev_absI
    | with_reducible exact ev_min2
    | with_reducible exact ev_max2
    | with_reducible exact ev_lenI
    | with_reducible exact ev_lenL
    | with_reducible exact ev_lenT
    | with_reducible exact ev_lenD
    | with_reducible exact ev_tupleL
    | with_reducible exact ev_tupleT
    | with_reducible exact ev_listT
    | with_reducible exact ev_listL
    | with_reducible exact ev_eqI
    | with_reducible exact ev_neI
    | with_reducible exact ev_sumI
    | with_reducible exact ev_sumM
    | with_reducible exact ev_slL
    | with_reducible apply ev_mulI
    | with_reducible apply ev_divI
    | with_reducible apply ev_modI
    | with_reducible apply ev_rng1
    | with_reducible apply ev_rng2
    | with_reducible apply ev_zip
    | with_reducible apply ev_enum
    | with_reducible apply ev_it
    | with_reducible apply ev_minI
    | with_reducible apply ev_maxI
    | with_reducible apply ev_sortedI
    | with_reducible apply ev_ixI
    | with_reducible apply ev_ixR
    | with_reducible apply ev_storeR
    | with_reducible apply ev_addL
    | with_reducible apply ev_ifI
    | ((with_reducible show mulOk _ _ = true); first | exact mulOk_l (by omega) (by omega) | exact mulOk_r (by omega) (by omega) | assumption)
    | ((with_reducible show divOk _ = true); first | exact divOk_of (by omega) (by omega) | assumption)
    | ((with_reducible show okR _ = true); first | exact okR_of (by omega) (by omega) | assumption)
    | ((with_reducible show frzO _ = some _); exact rfl)
    | ((with_reducible show _ < List.length _); exact Nat.le_of_ble_eq_true rfl)
    | ((with_reducible show List.set _ _ _ = _); exact rfl)
    | ((with_reducible show _[_]? = some _); exact rfl)
    | ((with_reducible show itL _ = some _); exact rfl)
    | ((with_reducible show atI _ _ = some _); exact rfl)
    | ((with_reducible show oSet _ _ _ = some _); exact rfl)
    | ((with_reducible show noOwn _ _ = true); exact rfl)
    | ((with_reducible show _ ≤ sizeLine); apply sz; (try simp only [List.length_cons, List.length_nil, List.length_map, List.length_range, rangeE_len, List.length_zip, List.length_zipIdx]); omega)
    | ((with_reducible show ∀ x ∈ _, Turn1 _ _ _ _ _ _ _ _); intro x hx; (try rw [List.mem_range] at hx); (try have hxB := hB _ hx); with_reducible apply turn1)
    | ((with_reducible show _ = true → Ev _ _ _ _); intro hq; (try simp only [decide_eq_true_eq, decide_eq_false_iff_not, Bool.not_eq_true, Bool.and_eq_true] at hq))
    | ((with_reducible show _ = false → Ev _ _ _ _); intro hq; (try simp only [decide_eq_true_eq, decide_eq_false_iff_not] at hq))
    | ((with_reducible show ES.wp _ _ = ES.wp _ _); exact rfl)
    | ((with_reducible show _ = List.map _ _); first | exact rfl | exact zipE_map _ _ _ _ | exact enumE_map _ _ _)
    | assumption
    | omega)))
abbrev sM (ns : List Int) (ws : List Str) (t : List ML.Slot) (h : List EObj) : ES := ⟨.val (.ref 0) :: .val (.lst (iL ns)) :: .val (.lst (sL ws)) :: .val (.int ns.length) :: .val (.lst (iL (isort ns))) :: t, h⟩
def nOwn : ML.Slot → Bool
  | .own _ => false
  | _ => true
theorem len_split {α : Type} {l d r : List α} {x : α} (e : [] ++ l = d ++ x :: r) : d.length < l.length ∧ x ∈ l := by
  have e' : l = d ++ x :: r := e
  rw [e']
  simp
theorem made_due {ns : List Int} {ws : List Str} {wt : Int} {h : List EObj} {t : List ML.Slot} (ht : t = [.emp, .emp, .emp, .emp, .emp, .emp, .emp, .emp, .emp, .emp]) (hW : ∀ w ∈ ws, w ∈ abc) (hB : ∀ n ∈ ns, -100 ≤ n ∧ n ≤ 100) (hl : ws.length = ns.length) (hz : ns.length ≤ 20) (hne : ns ≠ []) (hw : 0 ≤ wt ∧ wt ≤ 5) :
    ∃ s7 s8, nOwn s7 = true ∧ Ev (mForL (gSet 7) (sSeq (sSet 8 (mFrz (mLc [19, 11] (mZip (mCons (mGet 2) (mCons (mGet 1) (mNil)))) (gTupM 2 (gConsM (gSet 19) (gConsM (gSet 11) (gNilM)))) (mB (mBin eEq (mGet 19) (mGet 7))) (mGet 11))))
    (sSet 6 (mBin eAdd2 (mGet 6) (mFrz (mLst (mCons (mBin eDiv (mBin eMul2 (mC (.int 100)) (mBin eAdd2 (mBin eMul2 (mGet 3) (mUn eSum (mPeek 8))) (mBin eMul2 (mGet 5) (mUn eSum (mPeek 1))))) (mBin eMul2 (mGet 3) (mBin eAdd2 (mUn eLen2 (mPeek 8)) (mGet 5)))) (mNil))))))) (ws.map EV.str))
      (sM ns ws (.val (.int wt) :: .val (.lst []) :: .emp :: .emp :: .emp :: .emp :: .emp :: .emp :: t) h) .nx
      (sM ns ws (.val (.int wt) :: .val (.lst (ws.map fun w => .int (meanI ws ns wt w))) :: s7 :: s8 :: .emp :: .emp :: .emp :: .emp :: t) h) := by
  subst ht
  have hs := sum_bound hB
  have h0 : 0 < ns.length := List.length_pos_iff.mpr hne
  have hinv := ev_forInv (g := gSet 7) (b := sSeq (sSet 8 (mFrz (mLc [19, 11] (mZip (mCons (mGet 2) (mCons (mGet 1) (mNil)))) (gTupM 2 (gConsM (gSet 19) (gConsM (gSet 11) (gNilM)))) (mB (mBin eEq (mGet 19) (mGet 7))) (mGet 11))))
    (sSet 6 (mBin eAdd2 (mGet 6) (mFrz (mLst (mCons (mBin eDiv (mBin eMul2 (mC (.int 100)) (mBin eAdd2 (mBin eMul2 (mGet 3) (mUn eSum (mPeek 8))) (mBin eMul2 (mGet 5) (mUn eSum (mPeek 1))))) (mBin eMul2 (mGet 3) (mBin eAdd2 (mUn eLen2 (mPeek 8)) (mGet 5)))) (mNil)))))))
    (v := EV.str) (fun d S => ∃ s7 s8, nOwn s7 = true ∧ S = sM ns ws [.val (.int wt), .val (.lst (d.map fun w => .int (meanI ws ns wt w))), s7, s8, .emp, .emp, .emp, .emp, .emp, .emp, .emp, .emp, .emp, .emp, .emp, .emp, .emp, .emp] h) ws [] (sM ns ws [.val (.int wt), .val (.lst []), .emp, .emp, .emp, .emp, .emp, .emp, .emp, .emp, .emp, .emp, .emp, .emp, .emp, .emp, .emp, .emp] h) ⟨.emp, .emp, rfl, rfl⟩ ?step
  case step =>
    rintro d w r he S ⟨s7, s8, h7, rfl⟩
    obtain ⟨hd2, hxw⟩ := len_split he
    obtain ⟨b1, b2, b3, b4⟩ := besd_bound hB hl hz hxw
    have dok := den_ok (m := ns.length) (c := (besd ws ns w).length) (t := wt) (by omega) (by omega) hw
    refine ⟨sM ns ws [.val (.int wt), .val (.lst (d.map fun w => .int (meanI ws ns wt w))), .val (.str w), s8, .emp, .emp, .emp, .emp, .emp, .emp, .emp, .emp, .emp, .emp, .emp, .emp, .emp, .emp] h, sM ns ws [.val (.int wt), .val (.lst ((d ++ [w]).map fun w => .int (meanI ws ns wt w))), .val (.str w), .val (.lst ((besd ws ns w).map fun p => .int p.2)), .emp, .emp, .emp, .emp, .emp, .emp, .emp, .emp, .emp, .emp, .emp, .emp, .emp, .emp] h, rfl, ?_, .val (.str w), .val (.lst ((besd ws ns w).map fun p => .int p.2)), rfl, rfl⟩
    apply ev_to
    · apply ev_seq (S1 := sM ns ws [.val (.int wt), .val (.lst (d.map fun w => .int (meanI ws ns wt w))), .val (.str w), .val (.lst ((besd ws ns w).map fun p => .int p.2)), .emp, .emp, .emp, .emp, .emp, .emp, .emp, .emp, .emp, .emp, .emp, .emp, .emp, .emp] h)
      · apply ev_to
        · trivial
          exact ev_eqS (abc_ok (hW _ (List.of_mem_zip (a := x.1) (b := x.2) hx).1)).1 (abc_ok (hW _ hxw)).1
        · exact rfl
      · trivial
        all_goals first | exact mulOk_l (by omega) (by omega) | (rw [List.length_map]; exact dok) | (simp only [List.length_map, List.length_cons, List.length_nil]; rw [sizeLine_eq]; omega) | skip
    · rw [List.map_append]
      have e : meanI ws ns wt w = (100 * ((ns.length : Int) * ((besd ws ns w).map fun p => p.2).sum + wt * ns.sum)).fdiv ((ns.length : Int) * ((((besd ws ns w).map fun p => EV.int p.2).length : Int) + wt)) := by
        unfold meanI besS
        rw [List.length_map, Int.mul_comm ((besd ws ns w).map fun p => p.2).sum]
      show _ = sM ns ws [.val (.int wt), .val (.lst (_ ++ [.int (meanI ws ns wt w)])), _, _, .emp, .emp, .emp, .emp, .emp, .emp, .emp, .emp, .emp, .emp, .emp, .emp, .emp, .emp] h
      rw [e]
      exact rfl
  · obtain ⟨S', ev, s7, s8, h7, rfl⟩ := hinv
    exact ⟨s7, s8, h7, ev⟩
theorem made_rows {ns : List Int} {ws : List Str} {p : Int} {h : List EObj} {a b c d : ML.Slot} (hp : 1 ≤ p ∧ p ≤ 6) (hB : ∀ n ∈ ns, -100 ≤ n ∧ n ≤ 100) (hz : ns.length ≤ 20) :
    ∃ s11 s12 s13, nOwn s11 = true ∧ Ev (mForL (gSet 11) (sSeq (sSet 12 (mFrz (mLst (mCons (mGet 11) (mNil)))))
    (sSeq (mFor (mRng1 (mCons (mBin eSub (mGet 9) (mC (.int 1))) (mNil))) (gSet 13) (sSet 12 (mBin eAdd2 (mGet 12) (mFrz (mLst (mCons (mBin eMul2 (mBin eIx (mGet 12) (mUn eNeg (mC (.int 1)))) (mGet 11)) (mNil)))))))
    (sSet 10 (mBin eAdd2 (mGet 10) (mFrz (mLst (mCons (mUn eTuple (mPeek 12)) (mNil)))))))) (ns.map EV.int))
      (sM ns ws [a, b, c, d, .val (.int p), .val (.lst []), .emp, .emp, .emp, .emp, .emp, .emp, .emp, .emp, .emp, .emp, .emp, .emp] h) .nx
      (sM ns ws [a, b, c, d, .val (.int p), .val (.lst (ns.map fun n => .tup (iL (powL n (p.toNat - 1))))), s11, s12, s13, .emp, .emp, .emp, .emp, .emp, .emp, .emp, .emp, .emp] h) := by
  have hinv := ev_forInv (g := gSet 11) (b := sSeq (sSet 12 (mFrz (mLst (mCons (mGet 11) (mNil)))))
    (sSeq (mFor (mRng1 (mCons (mBin eSub (mGet 9) (mC (.int 1))) (mNil))) (gSet 13) (sSet 12 (mBin eAdd2 (mGet 12) (mFrz (mLst (mCons (mBin eMul2 (mBin eIx (mGet 12) (mUn eNeg (mC (.int 1)))) (mGet 11)) (mNil)))))))
    (sSet 10 (mBin eAdd2 (mGet 10) (mFrz (mLst (mCons (mUn eTuple (mPeek 12)) (mNil))))))))
    (v := EV.int) (fun dn S => ∃ s11 s12 s13, nOwn s11 = true ∧ S = sM ns ws [a, b, c, d, .val (.int p), .val (.lst (dn.map fun n => .tup (iL (powL n (p.toNat - 1))))), s11, s12, s13, .emp, .emp, .emp, .emp, .emp, .emp, .emp, .emp, .emp] h) ns [] (sM ns ws [a, b, c, d, .val (.int p), .val (.lst []), .emp, .emp, .emp, .emp, .emp, .emp, .emp, .emp, .emp, .emp, .emp, .emp] h) ⟨.emp, .emp, .emp, rfl, rfl⟩ ?step
  case step =>
    rintro dn x r he S ⟨s11, s12, s13, h11, rfl⟩
    obtain ⟨hd2, hx⟩ := len_split he
    have hxB := hB x hx
    have hin := ev_forInv (g := gSet 13) (b := sSet 12 (mBin eAdd2 (mGet 12) (mFrz (mLst (mCons (mBin eMul2 (mBin eIx (mGet 12) (mUn eNeg (mC (.int 1)))) (mGet 11)) (mNil))))))
      (v := fun i : Nat => EV.int (0 + (i : Int))) (fun dk S => ∃ s13, S = sM ns ws [a, b, c, d, .val (.int p), .val (.lst (dn.map fun n => .tup (iL (powL n (p.toNat - 1))))), .val (.int x), .val (.lst (iL (powL x dk.length))), s13, .emp, .emp, .emp, .emp, .emp, .emp, .emp, .emp, .emp] h) (List.range (p - 1).toNat) [] (sM ns ws [a, b, c, d, .val (.int p), .val (.lst (dn.map fun n => .tup (iL (powL n (p.toNat - 1))))), .val (.int x), .val (.lst (iL (powL x 0))), s13, .emp, .emp, .emp, .emp, .emp, .emp, .emp, .emp, .emp] h) ⟨s13, rfl⟩ ?st2
    case st2 =>
      rintro dk i r2 he2 S ⟨q13, rfl⟩
      obtain ⟨hd3, hi⟩ := len_split he2
      rw [List.length_range] at hd3
      refine ⟨sM ns ws [a, b, c, d, .val (.int p), .val (.lst (dn.map fun n => .tup (iL (powL n (p.toNat - 1))))), .val (.int x), .val (.lst (iL (powL x dk.length))), .val (.int (0 + (i : Int))), .emp, .emp, .emp, .emp, .emp, .emp, .emp, .emp, .emp] h, sM ns ws [a, b, c, d, .val (.int p), .val (.lst (dn.map fun n => .tup (iL (powL n (p.toNat - 1))))), .val (.int x), .val (.lst (iL (powL x (dk.length + 1)))), .val (.int (0 + (i : Int))), .emp, .emp, .emp, .emp, .emp, .emp, .emp, .emp, .emp] h, rfl, ?_, .val (.int (0 + (i : Int))), by rw [List.length_append]; rfl⟩
      apply ev_to
      · apply ev_sset
        · apply ev_bin
          · trivial
          · apply ev_frz
            · apply ev_lst
              · apply ev_cons
                · apply ev_bin
                  · apply ev_bin
                    · trivial
                    · trivial
                    · exact ev_ixL (powL_at x dk.length)
                  · trivial
                  · trivial
                · trivial
              · exact sz _ (by simp)
            · exact rfl
          · apply ev_addL
            simp only [List.length_map, List.length_cons, List.length_nil, powL_len]; rw [sizeLine_eq]; omega
        · exact Nat.le_of_ble_eq_true rfl
        · exact rfl
      · rw [powL_succ, iL_app]
        exact rfl
    · obtain ⟨S2, ev2, q13, rfl⟩ := hin
      have ek : ([] ++ List.range (p - 1).toNat).length = p.toNat - 1 := by
        rw [List.nil_append, List.length_range]; omega
      rw [ek] at ev2
      refine ⟨sM ns ws [a, b, c, d, .val (.int p), .val (.lst (dn.map fun n => .tup (iL (powL n (p.toNat - 1))))), .val (.int x), s12, s13, .emp, .emp, .emp, .emp, .emp, .emp, .emp, .emp, .emp] h, sM ns ws [a, b, c, d, .val (.int p), .val (.lst ((dn ++ [x]).map fun n => .tup (iL (powL n (p.toNat - 1))))), .val (.int x), .val (.lst (iL (powL x (p.toNat - 1)))), q13, .emp, .emp, .emp, .emp, .emp, .emp, .emp, .emp, .emp] h, rfl, ?_, .val (.int x), .val (.lst (iL (powL x (p.toNat - 1)))), q13, rfl, rfl⟩
      apply ev_to
      · apply ev_seq (S1 := sM ns ws [a, b, c, d, .val (.int p), .val (.lst (dn.map fun n => .tup (iL (powL n (p.toNat - 1))))), .val (.int x), .val (.lst (iL (powL x 0))), s13, .emp, .emp, .emp, .emp, .emp, .emp, .emp, .emp, .emp] h)
        · apply ev_to
          · trivial
          · have e : iL (powL x 0) = [.int x] := by
              unfold powL
              simp
              rw [Int.pow_succ x 0]; simp
            rw [e]
            exact rfl
        · apply ev_seq
          · apply ev_for0
            · trivial
            · exact ev2
          · trivial
      · rw [List.map_append]
        exact rfl
  · obtain ⟨S', ev, s11, s12, s13, h11, rfl⟩ := hinv
    exact ⟨s11, s12, s13, h11, ev⟩
end K02
/-! K02PB -/
set_option Elab.async false
set_option linter.all false
set_option autoImplicit false
set_option maxRecDepth 100000
set_option maxHeartbeats 4000000
namespace K02
open PySem PySem.Spec PyProof.Rows L2 ML
set_option hygiene false in
local macro_rules
  | `(tactic| trivial) => `(tactic| (repeat' (first
    | with_reducible exact ev_c
    | with_reducible exact ev_nil
    | with_reducible exact ev_nx
    | with_reducible exact ev_p0
    | with_reducible exact ev_yes
    | with_reducible exact ev_gnil
    | with_reducible exact ev_ret
    | ((with_reducible apply ev_get); exact rfl)
    | ((with_reducible apply ev_peek); exact rfl)
    | ((with_reducible apply ev_peekO); (exact rfl); (exact rfl))
    | with_reducible apply ev_un
    | with_reducible apply ev_bin
    | with_reducible apply ev_cons
    | with_reducible apply ev_mB
    | with_reducible apply ev_not
    | with_reducible apply ev_or
    | with_reducible apply ev_and
    | with_reducible apply ev_tup
    | with_reducible apply ev_lst
    | with_reducible apply ev_frz
    | with_reducible apply ev_chainI
    | with_reducible apply ev_args
    | with_reducible apply ev_sret
    | with_reducible apply ev_sexpr
    | with_reducible apply ev_sset
    | with_reducible apply ev_ssetO
    | with_reducible apply ev_par2
    | with_reducible apply ev_app
    | ((with_reducible apply ev_gset); (exact Nat.le_of_ble_eq_true rfl); (exact rfl))
    | ((with_reducible apply ev_gtup); (exact rfl))
    | with_reducible apply ev_gcons
    | with_reducible apply ev_sasg
    | with_reducible apply ev_lcT
    | with_reducible apply ev_lc
    | with_reducible apply ev_gtT
    | with_reducible apply ev_gt
    | with_reducible apply ev_gsT
    | with_reducible apply ev_dc
    | with_reducible apply ev_sl3
    | with_reducible apply ev_part
    | with_reducible apply ev_obj
    | with_reducible exact ev_cmp
    | with_reducible exact ev_neg
    | with_reducible exact ev_addI
    | with_reducible exact ev_subI
    | with_reducible exact ev_intI
    | with_reducible exact ev_intB
    | with_reducible exact ev_absI
    | with_reducible exact ev_min2
    | with_reducible exact ev_max2
    | with_reducible exact ev_lenI
    | with_reducible exact ev_lenL
    | with_reducible exact ev_lenT
    | with_reducible exact ev_lenD
    | with_reducible exact ev_tupleL
    | with_reducible exact ev_tupleT
    | with_reducible exact ev_listT
    | with_reducible exact ev_listL
    | with_reducible exact ev_eqI
    | with_reducible exact ev_neI
    | with_reducible exact ev_sumI
    | with_reducible exact ev_sumM
    | with_reducible exact ev_slL
    | with_reducible apply ev_mulI
    | with_reducible apply ev_divI
    | with_reducible apply ev_modI
    | with_reducible apply ev_rng1
    | with_reducible apply ev_rng2
    | with_reducible apply ev_zip
    | with_reducible apply ev_enum
    | with_reducible apply ev_it
    | with_reducible apply ev_minI
    | with_reducible apply ev_maxI
    | with_reducible apply ev_sortedI
    | with_reducible apply ev_ixI
    | with_reducible apply ev_ixR
    | with_reducible apply ev_storeR
    | with_reducible apply ev_addL
    | with_reducible apply ev_ifI
    | ((with_reducible show mulOk _ _ = true); first | exact mulOk_l (by omega) (by omega) | exact mulOk_r (by omega) (by omega) | assumption)
    | ((with_reducible show divOk _ = true); first | exact divOk_of (by omega) (by omega) | assumption)
    | ((with_reducible show okR _ = true); first | exact okR_of (by omega) (by omega) | assumption)
    | ((with_reducible show frzO _ = some _); exact rfl)
    | ((with_reducible show _ < List.length _); exact Nat.le_of_ble_eq_true rfl)
    | ((with_reducible show List.set _ _ _ = _); exact rfl)
    | ((with_reducible show _[_]? = some _); exact rfl)
    | ((with_reducible show itL _ = some _); exact rfl)
    | ((with_reducible show atI _ _ = some _); exact rfl)
    | ((with_reducible show oSet _ _ _ = some _); exact rfl)
    | ((with_reducible show noOwn _ _ = true); exact rfl)
    | ((with_reducible show _ ≤ sizeLine); apply sz; (try simp only [List.length_cons, List.length_nil, List.length_map, List.length_range, rangeE_len, List.length_zip, List.length_zipIdx]); omega)
    | ((with_reducible show ∀ x ∈ _, Turn1 _ _ _ _ _ _ _ _); intro x hx; (try rw [List.mem_range] at hx); (try have hxB := hB _ hx); with_reducible apply turn1)
    | ((with_reducible show _ = true → Ev _ _ _ _); intro hq; (try simp only [decide_eq_true_eq, decide_eq_false_iff_not, Bool.not_eq_true, Bool.and_eq_true] at hq))
    | ((with_reducible show _ = false → Ev _ _ _ _); intro hq; (try simp only [decide_eq_true_eq, decide_eq_false_iff_not] at hq))
    | ((with_reducible show ES.wp _ _ = ES.wp _ _); exact rfl)
    | ((with_reducible show _ = List.map _ _); first | exact rfl | exact zipE_map _ _ _ _ | exact enumE_map _ _ _)
    | assumption
    | omega)))
theorem ev_roll {m : Int} {S : ES} {r : Int} {h' : List EObj} {i : Nat} (hs : S.sl[i]? = some (.val (.ref 0))) (e : F_l_roll [.ref 0, .int m] S.hp = .ok (.int r) h') : Ev (mCall 2 F_l_roll (mCons (mGet i) (mCons (mC (.int m)) mNil))) S (.int r) ⟨S.sl, h'⟩ := ev_call (ev_cons (ev_get hs) (ev_cons ev_c ev_nil)) rfl e
theorem cmp_means {ws : List Str} {f : Str → Int} : cmpOk (.lst (ws.map fun w => .int (f w))) = true := cmp_lst fun _ _ => ⟨rfl, Nat.zero_le _⟩
theorem iget_mono {ns : List Int} {i j : Int} (h0 : 0 ≤ i) (h1 : i ≤ j) (h2 : j < ns.length) : iget (isort ns) i ≤ iget (isort ns) j := by
  have hl := isort_len ns
  have hs := isort_sorted ns
  have g : ∀ k : Int, 0 ≤ k → k < ns.length → ∃ hk : k.toNat < (isort ns).length, iget (isort ns) k = (isort ns)[k.toNat] := fun k a b => by
    have hk : k.toNat < (isort ns).length := by omega
    refine ⟨hk, ?_⟩
    unfold iget
    have e : ((k.toNat : Nat) : Int) = k := by omega
    have z := atI_nat (xs := isort ns) (j := k.toNat) (v := (isort ns)[k.toNat]) (by simp [hk])
    rw [e] at z
    rw [z]
    rfl
  obtain ⟨a1, e1⟩ := g i h0 (by omega)
  obtain ⟨a2, e2⟩ := g j (by omega) h2
  rw [e1, e2]
  rcases Int.lt_or_eq_of_le h1 with z | z
  · exact List.pairwise_iff_getElem.mp hs _ _ a1 a2 (by omega)
  · subst z
    exact Int.le_refl _
theorem median {lo n hi : Int} (h : lo ≤ hi) : iget (isort [lo, n, hi]) 1 = (if (if n > lo then n else lo) < hi then (if n > lo then n else lo) else hi) := by
  have e : ∀ x y z : Int, iget [x, y, z] 1 = y := fun x y z => rfl
  by_cases h1 : n ≤ hi
  · by_cases h2 : lo ≤ n
    · have : isort [lo, n, hi] = [lo, n, hi] := by simp [isort, isortBy, insBy, h1, h2]
      rw [this, e]
      split <;> split <;> omega
    · have : isort [lo, n, hi] = [n, lo, hi] := by simp [isort, isortBy, insBy, h1, h2, h]
      rw [this, e]
      split <;> split <;> omega
  · have : isort [lo, n, hi] = [lo, hi, n] := by simp [isort, isortBy, insBy, h1, h]
    rw [this, e]
    split <;> split <;> omega
theorem int_cps {n : Int} (h : -100 ≤ n ∧ n ≤ 100) : ((toString n : Str)).cps.all (· < 0x110000) = true := by
  have e : ∀ k ∈ List.range 201, ((toString ((k : Int) - 100) : Str)).cps.all (· < 0x110000) = true := by decide +kernel
  have := e (n + 100).toNat (by rw [List.mem_range]; omega)
  have e2 : (((n + 100).toNat : Nat) : Int) - 100 = n := by omega
  rwa [e2] at this
theorem cps_app {x y : Str} (h1 : x.cps.all (· < 0x110000) = true) (h2 : y.cps.all (· < 0x110000) = true) : (x ++ y).cps.all (· < 0x110000) = true := by
  show (x.cps ++ y.cps).all (· < 0x110000) = true
  rw [Array.all_append, h1, h2]
  rfl
theorem crs_ok {x : Str × Int} (h1 : x.1 ∈ abc) (h2 : -100 ≤ x.2 ∧ x.2 ≤ 100) : dataOk (.str (crs x)) = true := by
  unfold dataOk crs
  exact cps_app (cps_app (abc_ok h1).1 (by decide +kernel)) (int_cps h2)
theorem cut_data {ns : List Int} {lo hi : Option Int} : datasOk (cutE (iL ns) lo hi) = true ∧ deps (cutE (iL ns) lo hi) = 0 := by
  unfold cutE
  have e : ∀ a b : Nat, ((iL ns).drop a).take b = iL ((ns.drop a).take b) := fun a b => by
    show ((ns.map EV.int).drop a).take b = ((ns.drop a).take b).map EV.int
    rw [List.map_take, List.map_drop]
  rw [e]
  exact ints_data _
theorem p_l_made {ns : List Int} {ws : List Str} {h : List EObj} (hd : DI h) (hW : ∀ w ∈ ws, w ∈ abc) (hB : ∀ n ∈ ns, -100 ≤ n ∧ n ≤ 100) (hl : ws.length = ns.length) (hz : ns.length ≤ 20) (hne : ns ≠ []) :
    ∃ h', DI h' ∧ F_l_made [.ref 0, .lst (iL ns), .lst (sL ws), .int ns.length, .lst (iL (isort ns))] h = .ok (.bl true) h' := by
  have h0 : 0 < ns.length := List.length_pos_iff.mpr hne
  obtain ⟨wt, g1, D1, w0, w1, e1⟩ := p_roll (m := 4) (by omega) (by omega) hd
  obtain ⟨s7, s8, h7, due⟩ := made_due (h := g1) (wt := wt) rfl hW hB hl hz hne (by omega)
  obtain ⟨p0, g2, D2, p1, p2, e2⟩ := p_roll (m := 6) (by omega) (by omega) D1
  obtain ⟨s11, s12, s13, h11, rows⟩ := made_rows (ns := ns) (ws := ws) (p := 1 + p0) (h := g2) (a := .val (.int wt)) (b := .val (.lst (ws.map fun w => .int (meanI ws ns wt w)))) (c := s7) (d := s8) (by omega) hB hz
  obtain ⟨b0, g3, D3, b1, b2, e3⟩ := p_roll (m := 4) (by omega) (by omega) D2
  obtain ⟨q0, g4, D4, q1, q2, e4⟩ := p_roll (m := 50) (by omega) (by omega) D3
  have hcut := cut_ok hne (p := q0) (by omega)
  have hil := isort_len ns
  -- the first column
  obtain ⟨ys, g5, D5, hyl, hyp, e5⟩ := ev_lcX (vs := [20]) (mi := mRng1 (mCons (mC (.int 3)) (mNil))) (gm := gSet 20) (c := mYes) (e := mBin eIx (mC (.str ("ab" : Str))) (mCall 2 F_l_roll (mCons (mGet 0) (mCons (mC (.int 2)) (mNil)))))
    (sl := (sM ns ws [.val (.int wt), .val (.lst (ws.map fun w => .int (meanI ws ns wt w))), s7, s8, .val (.int (1 + p0)), .val (.lst (ns.map fun n => .tup (iL (powL n ((1 + p0).toNat - 1))))), s11, s12, s13, .val (.int (1 + b0)), .val (.int q0), .val (.int (((ns.length : Int) * q0).fdiv 100)), .emp, .emp, .emp, .emp, .emp, .emp] []).sl) (I := DI) (Pv := fun y => ∃ s, y = .str s ∧ s ∈ abc)
    (S0 := sM ns ws [.val (.int wt), .val (.lst (ws.map fun w => .int (meanI ws ns wt w))), s7, s8, .val (.int (1 + p0)), .val (.lst (ns.map fun n => .tup (iL (powL n ((1 + p0).toNat - 1))))), s11, s12, s13, .val (.int (1 + b0)), .val (.int q0), .val (.int (((ns.length : Int) * q0).fdiv 100)), .emp, .emp, .emp, .emp, .emp, .emp] g4) (h := g4) (l := rangeE 0 3) rfl D4 rfl (sz _ (by simp [rangeE_len])) (fun x hx hh hD => by
      obtain ⟨i, hi, rfl⟩ := List.mem_map.mp hx
      obtain ⟨r, h2, hD2, r0, r1, er⟩ := p_roll (m := 2) (by omega) (by omega) hD
      have hr : r = 0 ∨ r = 1 := by omega
      have ex : ∃ s : Str, s ∈ abc ∧ ∀ S : ES, Ev (eIx (.str ("ab" : Str)) (.int r)) S (.str s) S := by
        rcases hr with rfl | rfl
        · exact ⟨"a", by decide +kernel, fun S => by show _ = _; kernel_rfl⟩
        · exact ⟨"b", by decide +kernel, fun S => by show _ = _; kernel_rfl⟩
      obtain ⟨s, hs, es⟩ := ex
      refine ⟨.str s, h2, hD2, ⟨s, rfl, hs⟩, ⟨_, _, _, rfl, ev_yes, fun _ => ev_bin ev_c (ev_roll rfl er) (es _), rfl⟩⟩)
  obtain ⟨c1, rfl, hc1l, hc1⟩ := all_strs hyp
  obtain ⟨z0, g6, D6, z1, z2, e6⟩ := p_roll (m := 4) (by omega) (by omega) D5
  have hcols : ∀ c ∈ [sL c1, iL ns, sL ws], okC c := fun c hc => by
    have hrl : (rangeE 0 3).length = 3 := rangeE_len 0 3
    simp only [List.mem_cons, List.not_mem_nil, or_false] at hc
    rcases hc with rfl | rfl | rfl
    · refine ⟨by rw [List.length_map]; omega, fun e he => ?_⟩
      obtain ⟨x, _, rfl⟩ := List.mem_map.mp he
      rfl
    · refine ⟨by rw [List.length_map]; omega, fun e he => ?_⟩
      obtain ⟨x, _, rfl⟩ := List.mem_map.mp he
      rfl
    · refine ⟨by rw [List.length_map]; omega, fun e he => ?_⟩
      obtain ⟨x, _, rfl⟩ := List.mem_map.mp he
      rfl
  refine ⟨g6, D6, ?_⟩
  apply ev_run
  · unfold b_l_made
    apply ev_seq (S1 := sM ns ws [.val (.int wt), .val (.lst []), .emp, .emp, .emp, .emp, .emp, .emp, .emp, .emp, .emp, .emp, .emp, .emp, .emp, .emp, .emp, .emp] g1)
    · apply ev_to
      · apply ev_par2
        · apply ev_cons
          · exact ev_roll rfl e1
          · trivial
        all_goals first | exact Nat.le_of_ble_eq_true rfl | exact rfl
      · exact rfl
    apply ev_seq (S1 := sM ns ws [.val (.int wt), .val (.lst (ws.map fun w => .int (meanI ws ns wt w))), s7, s8, .emp, .emp, .emp, .emp, .emp, .emp, .emp, .emp, .emp, .emp, .emp, .emp, .emp, .emp] g1)
    · apply ev_for0
      · trivial
      · exact due
    apply ev_seq (S1 := sM ns ws [.val (.int wt), .val (.lst (ws.map fun w => .int (meanI ws ns wt w))), s7, s8, .emp, .emp, .emp, .emp, .emp, .emp, .emp, .emp, .emp, .emp, .emp, .emp, .emp, .emp] g1)
    · apply ev_ifF
      · apply ev_mB
        apply ev_bin
        · apply ev_listC
          · trivial
          · exact rfl
          · exact p_means_for hW hB hl hz hne (by omega)
        · trivial
        · exact ev_neF rfl cmp_means
      · exact rfl
      · exact ev_nx
    apply ev_seq (S1 := sM ns ws [.val (.int wt), .val (.lst (ws.map fun w => .int (meanI ws ns wt w))), s7, s8, .emp, .emp, .emp, .emp, .emp, .emp, .emp, .emp, .emp, .emp, .emp, .emp, .emp, .emp] g1)
    · apply ev_ifF
      · apply ev_mB
        apply ev_bin
        · apply ev_listC
          · trivial
          · exact rfl
          · exact p_crossed hW hB hl hz
        · apply ev_frz
          · apply ev_lcT (f := fun p : Str × Int => .str (crs p)) (g := fun p : Str × Int => .tup [.str p.1, .int p.2]) (l := ws.zip ns)
            · apply ev_zip
              · trivial
              · exact rfl
              · exact rfl
            · exact zipE_map _ _ _ _
            · cases s7 <;> first | rfl | cases h7
            · exact sz _ (by rw [List.length_zip]; omega)
            · intro x hx
              obtain ⟨m1, m2⟩ := List.of_mem_zip (a := x.1) (b := x.2) hx
              obtain ⟨w1', w2'⟩ := abc_ok (hW _ m1)
              have hb := hB _ m2
              have ht := int_txt hb
              have hg := log_ok hb
              have hp1 : (("+" : Str)).length = 1 := by decide +kernel
              apply turn1
              · trivial
              · trivial
              · intro _
                apply ev_bin
                · apply ev_bin
                  · trivial
                  · trivial
                  · exact ev_addS (sz _ (by omega))
                · apply ev_un
                  · trivial
                  · exact ev_strI hg
                · exact ev_addS (sz _ (by rw [len_app]; omega))
              · cases s7 <;> rfl
          · exact rfl
        · exact ev_neF rfl (cmp_lst fun x hx => by
            obtain ⟨m1, m2⟩ := List.of_mem_zip (a := x.1) (b := x.2) hx
            exact ⟨crs_ok (hW _ m1) (hB _ m2), Nat.zero_le _⟩)
      · exact rfl
      · exact ev_nx
    apply ev_seq (S1 := sM ns ws [.val (.int wt), .val (.lst (ws.map fun w => .int (meanI ws ns wt w))), s7, s8, .val (.int (1 + p0)), .val (.lst []), .emp, .emp, .emp, .emp, .emp, .emp, .emp, .emp, .emp, .emp, .emp, .emp] g2)
    · apply ev_to
      · apply ev_par2
        · apply ev_cons
          · apply ev_bin
            · exact ev_c
            · exact ev_roll rfl e2
            · exact ev_addI
          · trivial
        all_goals first | exact Nat.le_of_ble_eq_true rfl | exact rfl
      · exact rfl
    apply ev_seq (S1 := sM ns ws [.val (.int wt), .val (.lst (ws.map fun w => .int (meanI ws ns wt w))), s7, s8, .val (.int (1 + p0)), .val (.lst (ns.map fun n => .tup (iL (powL n ((1 + p0).toNat - 1))))), s11, s12, s13, .emp, .emp, .emp, .emp, .emp, .emp, .emp, .emp, .emp] g2)
    · apply ev_for0
      · trivial
      · exact rows
    apply ev_seq (S1 := sM ns ws [.val (.int wt), .val (.lst (ws.map fun w => .int (meanI ws ns wt w))), s7, s8, .val (.int (1 + p0)), .val (.lst (ns.map fun n => .tup (iL (powL n ((1 + p0).toNat - 1))))), s11, s12, s13, .val (.int (1 + b0)), .emp, .emp, .emp, .emp, .emp, .emp, .emp, .emp] g3)
    · apply ev_to
      · apply ev_sset
        · apply ev_bin
          · exact ev_c
          · exact ev_roll rfl e3
          · exact ev_addI
        · exact Nat.le_of_ble_eq_true rfl
        · exact rfl
      · exact rfl
    apply ev_seq (S1 := sM ns ws [.val (.int wt), .val (.lst (ws.map fun w => .int (meanI ws ns wt w))), s7, s8, .val (.int (1 + p0)), .val (.lst (ns.map fun n => .tup (iL (powL n ((1 + p0).toNat - 1))))), s11, s12, s13, .val (.int (1 + b0)), .emp, .emp, .emp, .emp, .emp, .emp, .emp, .emp] g3)
    · apply ev_ifF
      · apply ev_mB
        apply ev_bin
        · apply ev_listC
          · trivial
          · exact rfl
          · exact p_powers_of (by omega) hB (by omega)
        · trivial
        · exact ev_neF rfl (cmp_lst fun x hx => by
            obtain ⟨d1, d2⟩ := ints_data (powL x ((1 + p0).toNat - 1))
            refine ⟨d1, ?_⟩
            show deps _ + 1 ≤ 20
            omega)
      · exact rfl
      · exact ev_nx
    apply ev_seq (S1 := sM ns ws [.val (.int wt), .val (.lst (ws.map fun w => .int (meanI ws ns wt w))), s7, s8, .val (.int (1 + p0)), .val (.lst (ns.map fun n => .tup (iL (powL n ((1 + p0).toNat - 1))))), s11, s12, s13, .val (.int (1 + b0)), .emp, .emp, .emp, .emp, .emp, .emp, .emp, .emp] g3)
    · apply ev_ifF
      · apply ev_mB
        apply ev_bin
        · apply ev_listC
          · trivial
          · exact rfl
          · exact p_lagged (by omega) (by omega)
        · trivial
        · exact ev_neF rfl (cmp_lst fun x hx => by
            obtain ⟨d1, d2⟩ := cut_data (ns := ns) (lo := some (1 + b0 + (x : Int) - (1 + b0))) (hi := some (1 + b0 + (x : Int)))
            refine ⟨?_, ?_⟩
            · show (datasOk _ && (true && true)) = true
              rw [d1]
              rfl
            · show max (deps _ + 1) (max 0 0) + 1 ≤ 20
              omega)
      · exact rfl
      · exact ev_nx
    apply ev_seq (S1 := sM ns ws [.val (.int wt), .val (.lst (ws.map fun w => .int (meanI ws ns wt w))), s7, s8, .val (.int (1 + p0)), .val (.lst (ns.map fun n => .tup (iL (powL n ((1 + p0).toNat - 1))))), s11, s12, s13, .val (.int (1 + b0)), .val (.int q0), .emp, .emp, .emp, .emp, .emp, .emp, .emp] g4)
    · apply ev_to
      · apply ev_sset
        · exact ev_roll rfl e4
        · exact Nat.le_of_ble_eq_true rfl
        · exact rfl
      · exact rfl
    apply ev_seq (S1 := sM ns ws [.val (.int wt), .val (.lst (ws.map fun w => .int (meanI ws ns wt w))), s7, s8, .val (.int (1 + p0)), .val (.lst (ns.map fun n => .tup (iL (powL n ((1 + p0).toNat - 1))))), s11, s12, s13, .val (.int (1 + b0)), .val (.int q0), .val (.int (((ns.length : Int) * q0).fdiv 100)), .emp, .emp, .emp, .emp, .emp, .emp] g4)
    · apply ev_to
      · trivial
      · exact rfl
    apply ev_seq (S1 := sM ns ws [.val (.int wt), .val (.lst (ws.map fun w => .int (meanI ws ns wt w))), s7, s8, .val (.int (1 + p0)), .val (.lst (ns.map fun n => .tup (iL (powL n ((1 + p0).toNat - 1))))), s11, s12, s13, .val (.int (1 + b0)), .val (.int q0), .val (.int (((ns.length : Int) * q0).fdiv 100)), .emp, .emp, .emp, .emp, .emp, .emp] g4)
    · apply ev_ifF
      · apply ev_mB
        apply ev_bin
        · apply ev_listC
          · trivial
          · exact rfl
          · exact p_clipped hne (by omega) (by omega)
        · apply ev_frz
          · apply ev_lcT (f := fun n : Int => .int (clipI ns q0 n)) (g := EV.int) (l := ns)
            · trivial
            · exact rfl
            · cases s11 <;> first | rfl | cases h11
            · exact sz _ (by omega)
            · intro x hx
              apply turn1
              · trivial
              · trivial
              · intro _
                have eq : clipI ns q0 x = iget (isort [iget (isort ns) (((ns.length : Int) * q0).fdiv 100), x, iget (isort ns) ((ns.length : Int) - 1 - ((ns.length : Int) * q0).fdiv 100)]) 1 := by
                  rw [median (iget_mono hcut.1 (by
                    have e : ((ns.length : Int) * q0).fdiv 100 = ((ns.length : Int) * q0) / 100 := Int.fdiv_eq_ediv_of_nonneg _ (by omega)
                    have h1 : (ns.length : Int) * q0 ≤ ns.length * 49 := Int.mul_le_mul_of_nonneg_left (by omega) (by omega)
                    omega) (by omega))]
                  rfl
                show Ev _ _ (EV.int (clipI ns q0 x)) _
                rw [eq]
                apply ev_bin
                · apply ev_frz
                  · apply ev_obj
                    · apply ev_frz
                      · apply ev_lst
                        · apply ev_cons
                          · trivial
                            all_goals (rw [hil]; omega)
                          · apply ev_cons
                            · trivial
                            · apply ev_cons
                              · trivial
                                all_goals (rw [hil]; omega)
                              · trivial
                        · exact sz _ (by simp)
                      · exact rfl
                    · exact ev_sortedI (ns := [_, _, _]) (by simp)
                  · exact rfl
                · exact ev_c
                · exact ev_ixI (by rw [isort_len]; simp) (by rw [isort_len]; simp)
              · cases s11 <;> rfl
          · exact rfl
        · exact ev_neF rfl (cmp_lst fun x _ => ⟨rfl, Nat.zero_le _⟩)
      · exact rfl
      · exact ev_nx
    apply ev_seq (S1 := sM ns ws [.val (.int wt), .val (.lst (ws.map fun w => .int (meanI ws ns wt w))), s7, s8, .val (.int (1 + p0)), .val (.lst (ns.map fun n => .tup (iL (powL n ((1 + p0).toNat - 1))))), s11, s12, s13, .val (.int (1 + b0)), .val (.int q0), .val (.int (((ns.length : Int) * q0).fdiv 100)), .val (.lst [.lst (sL c1), .lst (iL ns), .lst (sL ws)]), .val (.int (1 + z0)), .emp, .emp, .emp, .emp] g6)
    · apply ev_to
      · apply ev_sasg
        · apply ev_tup
          · apply ev_cons
            · apply ev_frz
              · apply ev_lst
                · apply ev_cons
                  · exact ev_frz e5 rfl
                  · apply ev_cons
                    · trivial
                    · trivial
                · exact sz _ (by simp)
              · exact rfl
            · apply ev_cons
              · apply ev_bin
                · exact ev_c
                · exact ev_roll rfl e6
                · exact ev_addI
              · exact ev_nil
          · exact sz _ (by simp)
        · trivial
      · exact rfl
    apply ev_seq (S1 := sM ns ws [.val (.int wt), .val (.lst (ws.map fun w => .int (meanI ws ns wt w))), s7, s8, .val (.int (1 + p0)), .val (.lst (ns.map fun n => .tup (iL (powL n ((1 + p0).toNat - 1))))), s11, s12, s13, .val (.int (1 + b0)), .val (.int q0), .val (.int (((ns.length : Int) * q0).fdiv 100)), .val (.lst [.lst (sL c1), .lst (iL ns), .lst (sL ws)]), .val (.int (1 + z0)), .emp, .emp, .emp, .emp] g6)
    · apply ev_ifF
      · apply ev_mB
        apply ev_bin
        · apply ev_listC
          · trivial
          · exact rfl
          · exact p_useful (cols := [sL c1, iL ns, sL ws]) (by omega) hcols (by simp)
        · apply ev_frz
          · apply ev_lc (l := [sL c1, iL ns, sL ws].zipIdx) (g := fun p : List EV × Nat => .tup [.int (p.2 : Int), .lst p.1]) (p := fun p : List EV × Nat => decide (1 < szE p.1) && decide (szE p.1 ≤ 1 + z0)) (f := fun p : List EV × Nat => .int (p.2 : Int))
            · trivial
            · exact rfl
            · exact rfl
            · exact sz _ (by simp)
            · intro x hx
              obtain ⟨k1, k2⟩ := hcols x.1 (List.fst_mem_of_mem_zipIdx hx)
              apply turn1
              · trivial
              · apply ev_mB
                apply ev_chainI
                · trivial
                · apply ev_un
                  · apply ev_frz
                    · apply ev_obj
                      · apply ev_frz
                        · apply ev_lcT (l := x.1) (g := fun e : EV => e) (f := fun e : EV => .tup [e, .int 1])
                          · trivial
                          · simp
                          · exact rfl
                          · exact sz _ (by omega)
                          · intro y hy
                            apply turn1
                            · trivial
                            · trivial
                            · intro _
                              trivial
                            · exact rfl
                        · exact rfl
                      · exact ev_dictM (fk := fun e : EV => e) (fv := fun _ => .int 1) k2
                    · exact rfl
                  · have e := (puts_keys (fun x : EV => x) (fun _ => EV.int 1) x.1 ([], []) rfl).1
                    have e2 : szE x.1 = ((putsE (fun x : EV => x) (fun _ => EV.int 1) x.1 ([], [])).1.length : Int) := by rw [e]; unfold szE; simp
                    rw [e2]
                    exact ev_lenD
                · trivial
              · intro _
                trivial
              · exact rfl
          · exact rfl
        · refine ev_neFE ?_ rfl (cmp_ints _)
          unfold usef
          show EV.lst ((List.map (fun p : List EV × Nat => (p.2 : Int)) _).map EV.int) = _
          rw [List.map_map]
          rfl
      · exact rfl
      · exact ev_nx
    trivial
  · exact rfl
end K02
/-! K02PC -/
set_option Elab.async false
set_option linter.all false
set_option autoImplicit false
set_option maxRecDepth 100000
set_option maxHeartbeats 4000000
namespace K02
open PySem PySem.Spec PyProof.Rows L2 ML
/-! even edges -/
def wdI (ns : List Int) (b : Int) : Int := if (lmax ns - lmin ns).fdiv b + 1 > 1 then (lmax ns - lmin ns).fdiv b + 1 else 1
def dueI (ns : List Int) (b : Int) : List Int := (List.range (b + 1).toNat).map fun (i : Nat) => lmin ns + wdI ns b * (0 + (i : Int))
theorem wd_eq {ns : List Int} {b : Int} (hb : 1 ≤ b) : (lmax ns - lmin ns + b).fdiv b = (lmax ns - lmin ns).fdiv b + 1 := by
  rw [Int.fdiv_eq_ediv_of_nonneg _ (by omega), Int.fdiv_eq_ediv_of_nonneg _ (by omega)]
  have := Int.add_mul_ediv_right (lmax ns - lmin ns) 1 (c := b) (by omega)
  rw [Int.one_mul] at this
  exact this
theorem due_eq {ns : List Int} {b : Int} (hb : 1 ≤ b) : ((List.range (b + 1).toNat).map fun (i : Nat) => EV.int (lmin ns + (if (lmax ns - lmin ns + b).fdiv b > 1 then (lmax ns - lmin ns + b).fdiv b else 1) * (0 + (i : Int)))) = iL (dueI ns b) := by
  rw [wd_eq hb]
  unfold dueI
  show _ = ((List.range (b + 1).toNat).map _).map EV.int
  rw [List.map_map]
  rfl
theorem wd_pos {ns : List Int} {b : Int} : 1 ≤ wdI ns b := by unfold wdI; split <;> omega
theorem due_len {ns : List Int} {b : Int} (hb : 1 ≤ b) : (dueI ns b).length = b.toNat + 1 := by unfold dueI; rw [List.length_map, List.length_range]; omega
theorem due_asc {ns : List Int} {b : Int} : Asc (dueI ns b) := by
  unfold Asc dueI
  rw [List.pairwise_map]
  refine List.Pairwise.imp ?_ List.pairwise_lt_range
  intro i j hij
  have := wd_pos (ns := ns) (b := b)
  have : wdI ns b * (0 + (i : Int)) < wdI ns b * (0 + (j : Int)) := Int.mul_lt_mul_of_pos_left (by omega) (by omega)
  omega
theorem due_first {ns : List Int} {b : Int} (hb : 1 ≤ b) : iget (dueI ns b) 0 = lmin ns := by
  unfold dueI
  have e : (b + 1).toNat = b.toNat + 1 := by omega
  rw [e, List.range_succ_eq_map, List.map_cons]
  unfold iget
  have z := atI_nat (xs := (lmin ns + wdI ns b * (0 + ((0 : Nat) : Int))) :: List.map (fun (i : Nat) => lmin ns + wdI ns b * (0 + (i : Int))) (List.map Nat.succ (List.range b.toNat))) (j := 0) (v := lmin ns + wdI ns b * (0 + ((0 : Nat) : Int))) rfl
  have z' : atI ((lmin ns + wdI ns b * (0 + ((0 : Nat) : Int))) :: List.map (fun (i : Nat) => lmin ns + wdI ns b * (0 + (i : Int))) (List.map Nat.succ (List.range b.toNat))) (0 : Int) = some (lmin ns + wdI ns b * (0 + ((0 : Nat) : Int))) := z
  rw [z']
  simp
theorem due_last {ns : List Int} {b : Int} (hb : 1 ≤ b) : iget (dueI ns b) (-1) = lmin ns + wdI ns b * b := by
  unfold dueI
  have e : (b + 1).toNat = b.toNat + 1 := by omega
  rw [e, List.range_succ, List.map_append]
  unfold iget
  rw [List.map_cons, List.map_nil, atI_last]
  show lmin ns + wdI ns b * (0 + (b.toNat : Int)) = _
  have e2 : 0 + (b.toNat : Int) = b := by omega
  rw [e2]
theorem due_holds {ns : List Int} {b n : Int} (hb : 1 ≤ b) (hn : n ∈ ns) : iget (dueI ns b) 0 ≤ n ∧ n ≤ iget (dueI ns b) (-1) := by
  rw [due_first hb, due_last hb]
  have h1 := lmin_le hn
  have h2 := le_lmax hn
  have h3 : (lmax ns - lmin ns).fdiv b + 1 ≤ wdI ns b := by unfold wdI; split <;> omega
  have h4 : ((lmax ns - lmin ns).fdiv b + 1) * b ≤ wdI ns b * b := Int.mul_le_mul_of_nonneg_right h3 (by omega)
  have h5 : lmax ns - lmin ns < ((lmax ns - lmin ns).fdiv b + 1) * b := by
    rw [Int.fdiv_eq_ediv_of_nonneg _ (by omega)]
    have := Int.lt_ediv_add_one_mul_self (lmax ns - lmin ns) (b := b) (by omega)
    omega
  omega
/-! full edges -/
theorem addI_mem {ks : List Int} {x y : Int} : y ∈ addI ks x ↔ y ∈ ks ∨ y = x := by
  unfold addI
  split
  · rename_i h
    simp only [List.any_eq_true, beq_iff_eq] at h
    obtain ⟨k, hk, e⟩ := h
    constructor
    · intro z; exact .inl z
    · rintro (z | z)
      · exact z
      · rw [z, ← e]; exact hk
  · simp
theorem addI_nodup {ks : List Int} {x : Int} (h : ks.Nodup) : (addI ks x).Nodup := by
  unfold addI
  split
  · exact h
  · rename_i hx
    simp only [List.any_eq_true, beq_iff_eq, not_exists, not_and] at hx
    rw [List.nodup_append]
    refine ⟨h, by simp, fun a ha b hb => ?_⟩
    simp at hb
    subst hb
    exact hx a ha
theorem foldI_nodup : ∀ (l ks : List Int), ks.Nodup → (l.foldl addI ks).Nodup
  | [], ks, h => h
  | x :: l, ks, h => foldI_nodup l _ (addI_nodup h)
theorem foldI_mem : ∀ (l ks : List Int) {y : Int}, y ∈ l.foldl addI ks ↔ y ∈ ks ∨ y ∈ l
  | [], ks, y => by simp
  | x :: l, ks, y => by
    rw [List.foldl_cons, foldI_mem l (addI ks x), addI_mem, List.mem_cons, or_assoc]
def rawI (ns : List Int) (b : Int) : List Int := addI (((List.range b.toNat).map fun (i : Nat) => iget (isort ns) (((ns.length : Int) * (0 + (i : Int))).fdiv b)).foldl addI []) (lmax ns + 1)
theorem raw_nodup {ns : List Int} {b : Int} : (rawI ns b).Nodup := addI_nodup (foldI_nodup _ _ List.nodup_nil)
theorem full_asc {ns : List Int} {b : Int} : Asc (fullI ns b) := by
  have h1 := isort_sorted (rawI ns b)
  have h2 : (isort (rawI ns b)).Nodup := (isort_perm _).nodup_iff.mpr raw_nodup
  show (isort (rawI ns b)).Pairwise (· < ·)
  rw [List.nodup_iff_pairwise_ne] at h2
  exact List.Pairwise.imp (fun z => by omega) (List.Pairwise.and h1 h2)
theorem raw_max {ns : List Int} {b : Int} : lmax ns + 1 ∈ rawI ns b := addI_mem.mpr (.inr rfl)
theorem raw_min {ns : List Int} {b : Int} (hne : ns ≠ []) (hb : 1 ≤ b) : lmin ns ∈ rawI ns b := by
  refine addI_mem.mpr (.inl ((foldI_mem _ _).mpr (.inr (List.mem_map.mpr ⟨0, by rw [List.mem_range]; omega, ?_⟩))))
  have e : ((ns.length : Int) * (0 + ((0 : Nat) : Int))).fdiv b = 0 := by simp
  rw [e, first_min hne]
theorem raw_len {ns : List Int} {b : Int} (hb : b ≤ 50) : (rawI ns b).length ≤ 60 := by
  have h1 := addI_len (((List.range b.toNat).map fun (i : Nat) => iget (isort ns) (((ns.length : Int) * (0 + (i : Int))).fdiv b)).foldl addI []) (lmax ns + 1)
  have h2 := foldI_len ((List.range b.toNat).map fun (i : Nat) => iget (isort ns) (((ns.length : Int) * (0 + (i : Int))).fdiv b)) []
  simp only [List.length_map, List.length_range, List.length_nil] at h2
  unfold rawI
  omega
theorem full_len {ns : List Int} {b : Int} (hne : ns ≠ []) (hb : 1 ≤ b ∧ b ≤ 50) : 2 ≤ (fullI ns b).length ∧ (fullI ns b).length ≤ 60 := by
  have e : (fullI ns b).length = (rawI ns b).length := isort_len _
  rw [e]
  refine ⟨?_, raw_len hb.2⟩
  have h1 := raw_min (ns := ns) (b := b) hne hb.1
  have h2 := raw_max (ns := ns) (b := b)
  have h3 : lmin ns ≤ lmax ns := lmin_le (lmax_mem hne)
  cases hq : rawI ns b with
  | nil => rw [hq] at h1; exact absurd h1 List.not_mem_nil
  | cons x l =>
    cases l with
    | nil =>
      rw [hq] at h1 h2
      simp at h1 h2
      omega
    | cons y l => simp
theorem full_holds {ns : List Int} {b n : Int} (hb : 1 ≤ b) (hn : n ∈ ns) : iget (fullI ns b) 0 ≤ n ∧ n < iget (fullI ns b) (-1) := by
  have hne : ns ≠ [] := List.ne_nil_of_mem hn
  have hr : rawI ns b ≠ [] := List.ne_nil_of_mem (raw_max (ns := ns) (b := b))
  have e1 : iget (fullI ns b) 0 = lmin (rawI ns b) := first_min hr
  have e2 : iget (fullI ns b) (-1) = lmax (rawI ns b) := last_max hr
  rw [e1, e2]
  have h1 := lmin_le (raw_min (ns := ns) (b := b) hne hb)
  have h2 := le_lmax (raw_max (ns := ns) (b := b))
  have h3 := lmin_le hn
  have h4 := le_lmax hn
  omega
end K02
/-! K02PD -/
set_option Elab.async false
set_option linter.all false
set_option autoImplicit false
set_option maxRecDepth 100000
set_option maxHeartbeats 8000000
namespace K02
open PySem PySem.Spec PyProof.Rows L2 ML
set_option hygiene false in
local macro_rules
  | `(tactic| trivial) => `(tactic| (repeat' (first
    | with_reducible exact ev_c
    | with_reducible exact ev_nil
    | with_reducible exact ev_nx
    | with_reducible exact ev_p0
    | with_reducible exact ev_yes
    | with_reducible exact ev_gnil
    | with_reducible exact ev_ret
    | ((with_reducible apply ev_get); exact rfl)
    | ((with_reducible apply ev_peek); exact rfl)
    | ((with_reducible apply ev_peekO); (exact rfl); (exact rfl))
    | with_reducible apply ev_un
    | with_reducible apply ev_bin
    | with_reducible apply ev_cons
    | with_reducible apply ev_mB
    | with_reducible apply ev_not
    | with_reducible apply ev_or
    | with_reducible apply ev_and
    | with_reducible apply ev_tup
    | with_reducible apply ev_lst
    | with_reducible apply ev_frz
    | with_reducible apply ev_chainI
    | with_reducible apply ev_args
    | with_reducible apply ev_sret
    | with_reducible apply ev_sexpr
    | with_reducible apply ev_sset
    | with_reducible apply ev_ssetO
    | with_reducible apply ev_par2
    | with_reducible apply ev_app
    | ((with_reducible apply ev_gset); (exact Nat.le_of_ble_eq_true rfl); (exact rfl))
    | ((with_reducible apply ev_gtup); (exact rfl))
    | with_reducible apply ev_gcons
    | with_reducible apply ev_sasg
    | with_reducible apply ev_lcT
    | with_reducible apply ev_lc
    | with_reducible apply ev_gtT
    | with_reducible apply ev_gt
    | with_reducible apply ev_gsT
    | with_reducible apply ev_dc
    | with_reducible apply ev_sl3
    | with_reducible apply ev_part
    | with_reducible apply ev_obj
    | with_reducible exact ev_cmp
    | with_reducible exact ev_neg
    | with_reducible exact ev_addI
    | with_reducible exact ev_subI
    | with_reducible exact ev_intI
    | with_reducible exact ev_intB
    | with_reducible exact ev_absI
    | with_reducible exact ev_min2
    | with_reducible exact ev_max2
    | with_reducible exact ev_lenI
    | with_reducible exact ev_lenL
    | with_reducible exact ev_lenT
    | with_reducible exact ev_lenD
    | with_reducible exact ev_tupleL
    | with_reducible exact ev_tupleT
    | with_reducible exact ev_listT
    | with_reducible exact ev_listL
    | with_reducible exact ev_eqI
    | with_reducible exact ev_neI
    | with_reducible exact ev_sumI
    | with_reducible exact ev_sumM
    | with_reducible exact ev_slL
    | with_reducible apply ev_mulI
    | with_reducible apply ev_divI
    | with_reducible apply ev_modI
    | with_reducible apply ev_rng1
    | with_reducible apply ev_rng2
    | with_reducible apply ev_zip
    | with_reducible apply ev_enum
    | with_reducible apply ev_it
    | with_reducible apply ev_minI
    | with_reducible apply ev_maxI
    | with_reducible apply ev_sortedI
    | with_reducible apply ev_ixI
    | with_reducible apply ev_ixR
    | with_reducible apply ev_storeR
    | with_reducible apply ev_addL
    | with_reducible apply ev_ifI
    | ((with_reducible show mulOk _ _ = true); first | exact mulOk_l (by omega) (by omega) | exact mulOk_r (by omega) (by omega) | assumption)
    | ((with_reducible show divOk _ = true); first | exact divOk_of (by omega) (by omega) | assumption)
    | ((with_reducible show okR _ = true); first | exact okR_of (by omega) (by omega) | assumption)
    | ((with_reducible show frzO _ = some _); exact rfl)
    | ((with_reducible show _ < List.length _); exact Nat.le_of_ble_eq_true rfl)
    | ((with_reducible show List.set _ _ _ = _); exact rfl)
    | ((with_reducible show _[_]? = some _); exact rfl)
    | ((with_reducible show itL _ = some _); exact rfl)
    | ((with_reducible show atI _ _ = some _); exact rfl)
    | ((with_reducible show oSet _ _ _ = some _); exact rfl)
    | ((with_reducible show noOwn _ _ = true); exact rfl)
    | ((with_reducible show _ ≤ sizeLine); apply sz; (try simp only [List.length_cons, List.length_nil, List.length_map, List.length_range, rangeE_len, List.length_zip, List.length_zipIdx]); omega)
    | ((with_reducible show ∀ x ∈ _, Turn1 _ _ _ _ _ _ _ _); intro x hx; (try rw [List.mem_range] at hx); (try have hxB := hB _ hx); with_reducible apply turn1)
    | ((with_reducible show _ = true → Ev _ _ _ _); intro hq; (try simp only [decide_eq_true_eq, decide_eq_false_iff_not, Bool.not_eq_true, Bool.and_eq_true] at hq))
    | ((with_reducible show _ = false → Ev _ _ _ _); intro hq; (try simp only [decide_eq_true_eq, decide_eq_false_iff_not] at hq))
    | ((with_reducible show ES.wp _ _ = ES.wp _ _); exact rfl)
    | ((with_reducible show _ = List.map _ _); first | exact rfl | exact zipE_map _ _ _ _ | exact enumE_map _ _ _)
    | assumption
    | omega)))
theorem p_plain (h : List EObj) : F_l_plain [] h = .ok (.bl true) h := by kernel_rfl
abbrev sA (sc : List Int) (t : List ML.Slot) (h : List EObj) : ES := ⟨.val (.scr false (iL sc)) :: .val (.ref 0) :: t, h⟩
theorem full_ev {ns : List Int} {b : Int} {S : ES} (hne : ns ≠ []) (hb : 1 ≤ b ∧ b ≤ 50) (hz : ns.length ≤ 1000)
    (hno : noOwn S.sl [18] = true) (h3 : S.sl[3]? = some (.val (.int b))) (h5 : S.sl[5]? = some (.val (.int (lmax ns)))) (h6 : S.sl[6]? = some (.val (.int ns.length))) (h8 : S.sl[8]? = some (.val (.lst (iL (isort ns))))) (hl : 18 < S.sl.length) :
    Ev (mFrz ((mFrz ((mBin eAdd2 (mFrz (mLc [18] (mRng1 (mCons (mGet 3) (mNil))) (gSet 18) (mYes) (mTup (mCons (mBin eIx (mGet 8) (mBin eDiv (mBin eMul2 (mGet 6) (mGet 18)) (mGet 3))) (mCons (mC (.int 1)) (mNil)))))) (mFrz (mLst (mCons (mTup (mCons (mBin eAdd2 (mGet 5) (mC (.int 1))) (mCons (mC (.int 1)) (mNil)))) (mNil))))) >>= eDict)) >>= eSorted false)) S (.lst (iL (fullI ns b))) S := by
  have hil := isort_len ns
  have hpos : 0 < ns.length := List.length_pos_iff.mpr hne
  have wg : ∀ i, i ≠ 18 → (wipeS S.sl [18])[i]? = S.sl[i]? := fun i hi => by
    rw [wipeS_get, if_neg (by simp; omega)]
  have sg : ∀ (i : Nat) (x : ML.Slot), i ≠ 18 → ((wipeS S.sl [18]).set 18 x)[i]? = S.sl[i]? := fun i x hi => by
    rw [List.getElem?_set_ne (Ne.symm hi), wg i hi]
  have wl : (wipeS S.sl [18]).length = S.sl.length := wipeS_length _ _
  have hcomp : Ev (mFrz (mLc [18] (mRng1 (mCons (mGet 3) (mNil))) (gSet 18) (mYes) (mTup (mCons (mBin eIx (mGet 8) (mBin eDiv (mBin eMul2 (mGet 6) (mGet 18)) (mGet 3))) (mCons (mC (.int 1)) (mNil)))))) S
      (.lst ((List.range b.toNat).map fun (i : Nat) => .tup [.int (iget (isort ns) (((ns.length : Int) * (0 + (i : Int))).fdiv b)), .int 1])) S := by
    apply ev_frz
    · apply ev_lcT (l := List.range b.toNat) (g := fun i : Nat => .int (0 + (i : Int))) (f := fun (i : Nat) => .tup [.int (iget (isort ns) (((ns.length : Int) * (0 + (i : Int))).fdiv b)), .int 1])
      · apply ev_rng1
        · exact ev_cons (ev_get h3) ev_nil
        · exact okR_of (by omega) (by omega)
      · exact rfl
      · exact hno
      · exact sz _ (by rw [List.length_range]; omega)
      · intro x hx
        rw [List.mem_range] at hx
        have hi := ix_ok hpos (by omega : 0 < b) hx
        refine turn1 (S1 := ⟨(wipeS S.sl [18]).set 18 (.val (.int (0 + (x : Int)))), S.hp⟩) (ev_gset (by show 18 < (wipeS S.sl [18]).length; rw [wl]; exact hl) rfl) ev_yes (fun _ => ?_) ?_
        · refine ev_tup (ev_cons (ev_bin (ev_get ?_) (ev_bin (ev_bin (ev_get ?_) (ev_get ?_) (ev_mulI ?_)) (ev_get ?_) (ev_divI ?_)) (ev_ixI ?_ ?_)) (ev_cons ev_c ev_nil)) (sz _ (by simp))
          · rw [sg 8 _ (by decide)]; exact h8
          · rw [sg 6 _ (by decide)]; exact h6
          · show ((wipeS S.sl [18]).set 18 _)[18]? = _
            rw [List.getElem?_set_self (by rw [wl]; exact hl)]
          · exact mulOk_l (by omega) (by omega)
          · rw [sg 3 _ (by decide)]; exact h3
          · exact divOk_of (by omega) (by omega)
          · rw [hil]; omega
          · rw [hil]; omega
        · unfold ES.wp
          congr 1
          apply List.ext_getElem?
          intro i
          simp only [wipeS_get, List.length_set, List.getElem?_set, wl]
          by_cases hi18 : i = 18
          · subst hi18; simp [hl]
          · simp [hi18, Ne.symm hi18]
            try omega
    · exact rfl
  have hall : Ev (mBin eAdd2 (mFrz (mLc [18] (mRng1 (mCons (mGet 3) (mNil))) (gSet 18) (mYes) (mTup (mCons (mBin eIx (mGet 8) (mBin eDiv (mBin eMul2 (mGet 6) (mGet 18)) (mGet 3))) (mCons (mC (.int 1)) (mNil)))))) (mFrz (mLst (mCons (mTup (mCons (mBin eAdd2 (mGet 5) (mC (.int 1))) (mCons (mC (.int 1)) (mNil)))) (mNil))))) S
      (.lst ((((List.range b.toNat).map fun (i : Nat) => iget (isort ns) (((ns.length : Int) * (0 + (i : Int))).fdiv b)) ++ [lmax ns + 1]).map fun x => .tup [.int x, .int 1])) S := by
    rw [List.map_append, List.map_map]
    refine ev_bin hcomp (ev_frz (ev_lst (ev_cons (ev_tup (ev_cons (ev_bin (ev_get h5) ev_c ev_addI) (ev_cons ev_c ev_nil)) (sz _ (by simp))) ev_nil) (sz _ (by simp))) rfl) (ev_addL ?_)
    simp only [List.length_map, List.length_range, List.length_cons, List.length_nil]; rw [sizeLine_eq]; omega
  apply ev_frz
  · apply ev_obj
    · apply ev_frz
      · apply ev_obj
        · exact hall
        · exact ev_dictM (fk := fun x : Int => EV.int x) (fv := fun _ => EV.int 1) fun _ _ => rfl
      · exact rfl
    · refine ev_sortedD (ns := rawI ns b) ?_ (by have := raw_len (ns := ns) hb.2; omega)
      rw [(putsI (ki := fun x : Int => x)).1, List.map_id']
      unfold rawI
      rw [List.foldl_append]
      rfl
  · exact rfl
theorem law_turn {sc ns : List Int} {b : Int} {h : List EObj} {es : List Int} {s12 : ML.Slot} (hne : ns ≠ []) (hz : ns.length ≤ 20) (hl : 2 ≤ es.length) (hl2 : es.length ≤ 100) (ha : Asc es) :
    Ev (sSeq (sSet 12 (mBin eAdd2 (mGet 2) (mFrz (mLst (mCons (mBin eSub (mGet 4) (mC (.int 5))) (mCons (mBin eAdd2 (mGet 5) (mC (.int 50))) (mNil)))))))
    (sSeq (mIf (mB (mBin eNe (mFrz ((mCall 2 F_binned (mCons (mGet 12) (mCons (mGet 11) (mNil)))) >>= eList)) (mFrz (mLc [19] (mIt (mGet 12)) (gSet 19) (mYes) (mCall 2 F_l_bin (mCons (mGet 19) (mCons (mGet 11) (mNil))))))))
    (sRet (mC (.bl false)))
    (sNx))
    (mIf (mOrB (mB (mBin eNe (mCall 2 F_bin_of (mCons (mBin eIx (mGet 2) (mC (.int 0))) (mCons (mGet 11) (mNil)))) (mCall 2 F_l_bin (mCons (mBin eIx (mGet 2) (mC (.int 0))) (mCons (mGet 11) (mNil)))))) (mB (mBin eIsNot (mCall 1 F_check_edges (mCons (mGet 11) (mNil))) (mC .non))))
    (sRet (mC (.bl false)))
    (sNx))))
      (sA sc [.val (.lst (iL ns)), .val (.int b), .val (.int (lmin ns)), .val (.int (lmax ns)), .val (.int ns.length), .val (.int (wdI ns b)), .val (.lst (iL (isort ns))), .val (.lst (iL (dueI ns b))), .val (.lst (iL (fullI ns b))), .val (.lst (iL es)), s12, .emp, .emp, .emp, .emp, .emp, .emp, .emp, .emp, .emp, .emp] h) .nx (sA sc [.val (.lst (iL ns)), .val (.int b), .val (.int (lmin ns)), .val (.int (lmax ns)), .val (.int ns.length), .val (.int (wdI ns b)), .val (.lst (iL (isort ns))), .val (.lst (iL (dueI ns b))), .val (.lst (iL (fullI ns b))), .val (.lst (iL es)), .val (.lst (iL (ns ++ [lmin ns - 5, lmax ns + 50]))), .emp, .emp, .emp, .emp, .emp, .emp, .emp, .emp, .emp, .emp] h) := by
  have h0 : 0 < ns.length := List.length_pos_iff.mpr hne
  apply ev_seq (S1 := sA sc [.val (.lst (iL ns)), .val (.int b), .val (.int (lmin ns)), .val (.int (lmax ns)), .val (.int ns.length), .val (.int (wdI ns b)), .val (.lst (iL (isort ns))), .val (.lst (iL (dueI ns b))), .val (.lst (iL (fullI ns b))), .val (.lst (iL es)), .val (.lst (iL (ns ++ [lmin ns - 5, lmax ns + 50]))), .emp, .emp, .emp, .emp, .emp, .emp, .emp, .emp, .emp, .emp] h)
  · apply ev_to
    · trivial
    · rw [iL_app]
      exact rfl
  apply ev_seq (S1 := sA sc [.val (.lst (iL ns)), .val (.int b), .val (.int (lmin ns)), .val (.int (lmax ns)), .val (.int ns.length), .val (.int (wdI ns b)), .val (.lst (iL (isort ns))), .val (.lst (iL (dueI ns b))), .val (.lst (iL (fullI ns b))), .val (.lst (iL es)), .val (.lst (iL (ns ++ [lmin ns - 5, lmax ns + 50]))), .emp, .emp, .emp, .emp, .emp, .emp, .emp, .emp, .emp, .emp] h)
  · apply ev_ifF
    · apply ev_mB
      apply ev_bin
      · apply ev_listC
        · trivial
        · exact rfl
        · exact p_binned hl ha (by omega) (by rw [List.length_append]; simp; omega)
      · apply ev_frz
        · apply ev_lcT (l := ns ++ [lmin ns - 5, lmax ns + 50]) (g := EV.int) (f := fun n => .int (binI n es))
          · trivial
          · exact rfl
          · exact rfl
          · exact sz _ (by rw [List.length_append]; simp; omega)
          · intro x hx
            apply turn1
            · trivial
            · trivial
            · intro _
              apply ev_callP
              · trivial
              · exact rfl
              · exact p_l_bin hl ha (by omega)
            · exact rfl
        · exact rfl
      · exact ev_neF rfl (cmp_lst fun x _ => ⟨rfl, Nat.zero_le _⟩)
    · exact rfl
    · exact ev_nx
  · apply ev_ifF
    · apply ev_orF
      · apply ev_mB
        apply ev_bin
        · apply ev_callP
          · trivial
          · exact rfl
          · exact p_bin_of hl ha (by omega)
        · apply ev_callP
          · trivial
          · exact rfl
          · exact p_l_bin hl ha (by omega)
        · exact ev_neF rfl rfl
      · apply ev_mB
        apply ev_bin
        · apply ev_callP
          · trivial
          · exact rfl
          · exact p_check_edges hl ha (by omega)
        · exact ev_c
        · exact ev_isNN
    · exact rfl
    · exact ev_nx
end K02
/-! K02PE -/
set_option Elab.async false
set_option linter.all false
set_option autoImplicit false
set_option maxRecDepth 100000
set_option maxHeartbeats 8000000
namespace K02
open PySem PySem.Spec PyProof.Rows L2 ML
set_option hygiene false in
local macro_rules
  | `(tactic| trivial) => `(tactic| (repeat' (first
    | with_reducible exact ev_c
    | with_reducible exact ev_nil
    | with_reducible exact ev_nx
    | with_reducible exact ev_p0
    | with_reducible exact ev_yes
    | with_reducible exact ev_gnil
    | with_reducible exact ev_ret
    | ((with_reducible apply ev_get); exact rfl)
    | ((with_reducible apply ev_peek); exact rfl)
    | ((with_reducible apply ev_peekO); (exact rfl); (exact rfl))
    | with_reducible apply ev_un
    | with_reducible apply ev_bin
    | with_reducible apply ev_cons
    | with_reducible apply ev_mB
    | with_reducible apply ev_not
    | with_reducible apply ev_or
    | with_reducible apply ev_and
    | with_reducible apply ev_tup
    | with_reducible apply ev_lst
    | with_reducible apply ev_frz
    | with_reducible apply ev_chainI
    | with_reducible apply ev_args
    | with_reducible apply ev_sret
    | with_reducible apply ev_sexpr
    | with_reducible apply ev_sset
    | with_reducible apply ev_ssetO
    | with_reducible apply ev_par2
    | with_reducible apply ev_app
    | ((with_reducible apply ev_gset); (exact Nat.le_of_ble_eq_true rfl); (exact rfl))
    | ((with_reducible apply ev_gtup); (exact rfl))
    | with_reducible apply ev_gcons
    | with_reducible apply ev_sasg
    | with_reducible apply ev_lcT
    | with_reducible apply ev_lc
    | with_reducible apply ev_gtT
    | with_reducible apply ev_gt
    | with_reducible apply ev_gsT
    | with_reducible apply ev_dc
    | with_reducible apply ev_sl3
    | with_reducible apply ev_part
    | with_reducible apply ev_obj
    | with_reducible exact ev_cmp
    | with_reducible exact ev_neg
    | with_reducible exact ev_addI
    | with_reducible exact ev_subI
    | with_reducible exact ev_intI
    | with_reducible exact ev_intB
    | with_reducible exact ev_absI
    | with_reducible exact ev_min2
    | with_reducible exact ev_max2
    | with_reducible exact ev_lenI
    | with_reducible exact ev_lenL
    | with_reducible exact ev_lenT
    | with_reducible exact ev_lenD
    | with_reducible exact ev_tupleL
    | with_reducible exact ev_tupleT
    | with_reducible exact ev_listT
    | with_reducible exact ev_listL
    | with_reducible exact ev_eqI
    | with_reducible exact ev_neI
    | with_reducible exact ev_sumI
    | with_reducible exact ev_sumM
    | with_reducible exact ev_slL
    | with_reducible apply ev_mulI
    | with_reducible apply ev_divI
    | with_reducible apply ev_modI
    | with_reducible apply ev_rng1
    | with_reducible apply ev_rng2
    | with_reducible apply ev_zip
    | with_reducible apply ev_enum
    | with_reducible apply ev_it
    | with_reducible apply ev_minI
    | with_reducible apply ev_maxI
    | with_reducible apply ev_sortedI
    | with_reducible apply ev_ixI
    | with_reducible apply ev_ixR
    | with_reducible apply ev_storeR
    | with_reducible apply ev_addL
    | with_reducible apply ev_ifI
    | ((with_reducible show mulOk _ _ = true); first | exact mulOk_l (by omega) (by omega) | exact mulOk_r (by omega) (by omega) | assumption)
    | ((with_reducible show divOk _ = true); first | exact divOk_of (by omega) (by omega) | assumption)
    | ((with_reducible show okR _ = true); first | exact okR_of (by omega) (by omega) | assumption)
    | ((with_reducible show frzO _ = some _); exact rfl)
    | ((with_reducible show _ < List.length _); exact Nat.le_of_ble_eq_true rfl)
    | ((with_reducible show List.set _ _ _ = _); exact rfl)
    | ((with_reducible show _[_]? = some _); exact rfl)
    | ((with_reducible show itL _ = some _); exact rfl)
    | ((with_reducible show atI _ _ = some _); exact rfl)
    | ((with_reducible show oSet _ _ _ = some _); exact rfl)
    | ((with_reducible show noOwn _ _ = true); exact rfl)
    | ((with_reducible show _ ≤ sizeLine); apply sz; (try simp only [List.length_cons, List.length_nil, List.length_map, List.length_range, rangeE_len, List.length_zip, List.length_zipIdx]); omega)
    | ((with_reducible show ∀ x ∈ _, Turn1 _ _ _ _ _ _ _ _); intro x hx; (try rw [List.mem_range] at hx); (try have hxB := hB _ hx); with_reducible apply turn1)
    | ((with_reducible show _ = true → Ev _ _ _ _); intro hq; (try simp only [decide_eq_true_eq, decide_eq_false_iff_not, Bool.not_eq_true, Bool.and_eq_true] at hq))
    | ((with_reducible show _ = false → Ev _ _ _ _); intro hq; (try simp only [decide_eq_true_eq, decide_eq_false_iff_not] at hq))
    | ((with_reducible show ES.wp _ _ = ES.wp _ _); exact rfl)
    | ((with_reducible show _ = List.map _ _); first | exact rfl | exact zipE_map _ _ _ _ | exact enumE_map _ _ _)
    | assumption
    | omega)))
theorem p_law (sc : List Int) : ∃ hh, F_law [.scr false (iL sc)] [] = .ok (.bl true) hh := by
  obtain ⟨a0, b0, d0, er⟩ := p_l_rounds (ns := sc)
  -- the numbers
  obtain ⟨k0, h1, D1, k1, k2, e1⟩ := p_roll (m := 9) (h := [.lst [.int a0, .int b0, .int d0]]) (by omega) (by omega) ⟨_, _, _, rfl⟩
  obtain ⟨ys, h2, D2, hyl, hyp, e2⟩ := ev_lcX (vs := [18]) (mi := mRng1 (mCons (mBin eAdd2 (mC (.int 1)) (mCall 2 F_l_roll (mCons (mGet 1) (mCons (mC (.int 9)) (mNil))))) (mNil))) (gm := gSet 18) (c := mYes) (e := mBin eSub (mCall 2 F_l_roll (mCons (mGet 1) (mCons (mC (.int 40)) (mNil)))) (mC (.int 10)))
    (sl := (sA sc [.emp, .emp, .emp, .emp, .emp, .emp, .emp, .emp, .emp, .emp, .emp, .emp, .emp, .emp, .emp, .emp, .emp, .emp, .emp, .emp, .emp] []).sl) (I := DI) (Pv := fun y => ∃ n : Int, y = .int n ∧ (-100 ≤ n ∧ n ≤ 100)) (S0 := sA sc [.emp, .emp, .emp, .emp, .emp, .emp, .emp, .emp, .emp, .emp, .emp, .emp, .emp, .emp, .emp, .emp, .emp, .emp, .emp, .emp, .emp] [.lst [.int a0, .int b0, .int d0]]) (h := h1) (l := rangeE 0 (1 + k0).toNat)
    (ev_rng1 (ev_cons (ev_bin ev_c (ev_roll rfl e1) ev_addI) ev_nil) (okR_of (by omega) (by omega))) D1 rfl (sz _ (by rw [rangeE_len]; omega)) (fun x hx hh hD => by
      obtain ⟨i, hi, rfl⟩ := List.mem_map.mp hx
      obtain ⟨r, g, hD2, r0, r1, er⟩ := p_roll (m := 40) (by omega) (by omega) hD
      exact ⟨.int (r - 10), g, hD2, ⟨r - 10, rfl, by omega, by omega⟩, ⟨_, _, _, rfl, ev_yes, fun _ => ev_bin (ev_roll rfl er) ev_c ev_subI, rfl⟩⟩)
  obtain ⟨ns, rfl, hnl, hB⟩ := all_ints hyp
  rw [rangeE_len] at hyl
  have hlen : ns.length = (1 + k0).toNat := by rw [← hyl, List.length_map]
  have hne : ns ≠ [] := fun z => by rw [z] at hlen; simp at hlen; omega
  have hz : ns.length ≤ 20 := by omega
  have hpos : 0 < ns.length := by omega
  have hB2 : ∀ n ∈ ns, -1000 ≤ n ∧ n ≤ 1000 := fun n hn => by have := hB n hn; omega
  have m1 := hB _ (lmin_mem hne)
  have m2 := hB _ (lmax_mem hne)
  have m3 : lmin ns ≤ lmax ns := lmin_le (lmax_mem hne)
  have hil := isort_len ns
  obtain ⟨c0, h3, D3, c1, c2, e3⟩ := p_roll (m := 6) (by omega) (by omega) D2
  obtain ⟨b, hb⟩ : ∃ b, b = 1 + c0 := ⟨_, rfl⟩
  have hb1 : 1 ≤ b ∧ b ≤ 50 := by omega
  obtain ⟨q0, h4, D4, q1, q2, e4⟩ := p_roll (m := 100) (by omega) (by omega) D3
  obtain ⟨sp1, sp2⟩ := spread_small hB hz
  obtain ⟨r, hr, er1⟩ := p_l_root (h := h4) sp1 sp2
  obtain ⟨r', hr', er2⟩ := p_standard (h := h4) hne hB hz
  have hrr := root_unique hr' hr
  subst hrr
  have rb := root_small hr (B := 3000) (by omega) (by omega)
  have hs := sum_bound hB
  obtain ⟨sq1, sq2⟩ := sqs_bound hB
  obtain ⟨big, h5, D5, g1, g2, e5⟩ := p_roll (m := 900000) (by omega) (by omega) D4
  obtain ⟨u, hu, eu⟩ := p_square_root (n := big) (h := h5) g1 (by omega)
  obtain ⟨u', hu', eu'⟩ := p_l_root (n := big) (h := h5) g1 (by omega)
  have huu := root_unique hu hu'
  subst huu
  -- the words
  obtain ⟨zs, h6, D6, hzl, hzp, e6⟩ := ev_lcX (vs := [19]) (mi := mIt (mGet 2)) (gm := gSet 19) (c := mYes) (e := mBin eIx (mFrz (mLst (mCons (mC (.str ("b" : Str))) (mCons (mC (.str ("a" : Str))) (mCons (mC (.str ("c" : Str))) (mNil)))))) (mCall 2 F_l_roll (mCons (mGet 1) (mCons (mC (.int 3)) (mNil)))))
    (sl := (sA sc [.val (.lst (iL ns)), .val (.int b), .val (.int (lmin ns)), .val (.int (lmax ns)), .val (.int ns.length), .val (.int (wdI ns b)), .val (.lst (iL (isort ns))), .val (.lst (iL (dueI ns b))), .val (.lst (iL (fullI ns b))), .val (.lst (iL (fullI ns b))), .val (.lst (iL (ns ++ [lmin ns - 5, lmax ns + 50]))), .val (.int (1 + q0)), .val (.int r'), .val (.int big), .emp, .emp, .emp, .emp, .emp, .emp, .emp] []).sl) (I := DI) (Pv := fun y => ∃ s, y = .str s ∧ s ∈ abc) (S0 := sA sc [.val (.lst (iL ns)), .val (.int b), .val (.int (lmin ns)), .val (.int (lmax ns)), .val (.int ns.length), .val (.int (wdI ns b)), .val (.lst (iL (isort ns))), .val (.lst (iL (dueI ns b))), .val (.lst (iL (fullI ns b))), .val (.lst (iL (fullI ns b))), .val (.lst (iL (ns ++ [lmin ns - 5, lmax ns + 50]))), .val (.int (1 + q0)), .val (.int r'), .val (.int big), .emp, .emp, .emp, .emp, .emp, .emp, .emp] h5) (h := h5) (l := iL ns) rfl D5 rfl (sz _ (by rw [List.length_map]; omega)) (fun x hx hh hD => by
      obtain ⟨i, hi, rfl⟩ := List.mem_map.mp hx
      obtain ⟨r, g, hD2, r0, r1, er⟩ := p_roll (m := 3) (by omega) (by omega) hD
      have hr : r = 0 ∨ r = 1 ∨ r = 2 := by omega
      have ex : ∃ s : Str, s ∈ abc ∧ ∀ S : ES, Ev (eIx (.lst [.str ("b" : Str), .str ("a" : Str), .str ("c" : Str)]) (.int r)) S (.str s) S := by
        rcases hr with rfl | rfl | rfl
        · exact ⟨"b", by decide +kernel, fun S => ev_ixL rfl⟩
        · exact ⟨"a", by decide +kernel, fun S => ev_ixL rfl⟩
        · exact ⟨"c", by decide +kernel, fun S => ev_ixL rfl⟩
      obtain ⟨s, hs, es⟩ := ex
      exact ⟨.str s, g, hD2, ⟨s, rfl, hs⟩, ⟨_, _, _, rfl, ev_yes, fun _ => ev_bin (ev_frz (ev_lst (ev_cons ev_c (ev_cons ev_c (ev_cons ev_c ev_nil))) (sz _ (by simp))) rfl) (ev_roll rfl er) (es _), rfl⟩⟩)
  obtain ⟨ws, rfl, hwl, hW⟩ := all_strs hzp
  rw [List.length_map] at hzl
  have hwn : ws.length = ns.length := by rw [List.length_map] at hzl; exact hzl
  obtain ⟨nm, hnm, hnl2, hN⟩ := nmE_ok hW
  obtain ⟨h7, D7, e7⟩ := p_l_made D6 hW hB hwn hz hne
  refine ⟨h7, ?_⟩
  apply ev_run
  · unfold b_law
    apply ev_seq
    · apply ev_for0
      · apply ev_it
        · apply ev_call
          · trivial
          · exact rfl
          · exact er
        · exact rfl
      · apply ev_forCons (S1 := sA sc [.emp, .emp, .emp, .emp, .emp, .emp, .emp, .emp, .emp, .emp, .emp, .emp, .emp, .emp, .emp, .emp, .emp, .emp, .emp, .emp, .emp] [.lst [.int a0, .int b0, .int d0]])
        · exact rfl
        · apply ev_seq (S1 := sA sc [.val (.lst (iL ns)), .val (.int b), .emp, .emp, .emp, .emp, .emp, .emp, .emp, .emp, .emp, .emp, .emp, .emp, .emp, .emp, .emp, .emp, .emp, .emp, .emp] h3)
          · apply ev_to
            · apply ev_sasg
              · apply ev_tup
                · apply ev_cons
                  · exact ev_frz e2 rfl
                  · apply ev_cons
                    · apply ev_bin
                      · exact ev_c
                      · exact ev_roll rfl e3
                      · exact ev_addI
                    · exact ev_nil
                · exact sz _ (by simp)
              · trivial
            · rw [← hb]
              exact rfl
          apply ev_seq (S1 := sA sc [.val (.lst (iL ns)), .val (.int b), .val (.int (lmin ns)), .val (.int (lmax ns)), .val (.int ns.length), .emp, .emp, .emp, .emp, .emp, .emp, .emp, .emp, .emp, .emp, .emp, .emp, .emp, .emp, .emp, .emp] h3)
          · apply ev_to
            · trivial
            · exact rfl
          apply ev_seq (S1 := sA sc [.val (.lst (iL ns)), .val (.int b), .val (.int (lmin ns)), .val (.int (lmax ns)), .val (.int ns.length), .val (.int (wdI ns b)), .val (.lst (iL (isort ns))), .emp, .emp, .emp, .emp, .emp, .emp, .emp, .emp, .emp, .emp, .emp, .emp, .emp, .emp] h3)
          · apply ev_to
            · trivial
            · exact rfl
          apply ev_seq (S1 := sA sc [.val (.lst (iL ns)), .val (.int b), .val (.int (lmin ns)), .val (.int (lmax ns)), .val (.int ns.length), .val (.int (wdI ns b)), .val (.lst (iL (isort ns))), .val (.lst (iL (dueI ns b))), .emp, .emp, .emp, .emp, .emp, .emp, .emp, .emp, .emp, .emp, .emp, .emp, .emp] h3)
          · have hwd : wdI ns b < 1000000 := by
              unfold wdI
              have : (lmax ns - lmin ns).fdiv b ≤ 1000 := by
                rw [Int.fdiv_eq_ediv_of_nonneg _ (by omega)]
                have := Int.ediv_le_self b (a := lmax ns - lmin ns) (by omega)
                omega
              split <;> omega
            have hwd2 := wd_pos (ns := ns) (b := b)
            apply ev_to
            · trivial
            · have e : (List.range (b + 1).toNat).map (fun (i : Nat) => EV.int (lmin ns + wdI ns b * (0 + (i : Int)))) = iL (dueI ns b) := by
                unfold dueI
                show _ = ((List.range (b + 1).toNat).map _).map EV.int
                rw [List.map_map]
                rfl
              rw [e]
              exact rfl
          apply ev_seq (S1 := sA sc [.val (.lst (iL ns)), .val (.int b), .val (.int (lmin ns)), .val (.int (lmax ns)), .val (.int ns.length), .val (.int (wdI ns b)), .val (.lst (iL (isort ns))), .val (.lst (iL (dueI ns b))), .val (.lst (iL (fullI ns b))), .emp, .emp, .emp, .emp, .emp, .emp, .emp, .emp, .emp, .emp, .emp, .emp] h3)
          · apply ev_to
            · apply ev_sset
              · exact full_ev hne hb1 (by omega) rfl rfl rfl rfl rfl (Nat.le_of_ble_eq_true rfl)
              · exact Nat.le_of_ble_eq_true rfl
              · exact rfl
            · exact rfl
          apply ev_seq (S1 := sA sc [.val (.lst (iL ns)), .val (.int b), .val (.int (lmin ns)), .val (.int (lmax ns)), .val (.int ns.length), .val (.int (wdI ns b)), .val (.lst (iL (isort ns))), .val (.lst (iL (dueI ns b))), .val (.lst (iL (fullI ns b))), .emp, .emp, .emp, .emp, .emp, .emp, .emp, .emp, .emp, .emp, .emp, .emp] h3)
          · apply ev_ifF
            · apply ev_orF
              · apply ev_mB
                apply ev_bin
                · apply ev_listC
                  · trivial
                  · exact rfl
                  · exact p_edges_even hne hb1 hB2
                · trivial
                · rw [due_eq hb1.1]
                  exact ev_neF rfl (cmp_ints _)
              · apply ev_mB
                apply ev_bin
                · apply ev_listC
                  · trivial
                  · exact rfl
                  · exact p_edges_full hne hb1 hB2 (by omega)
                · trivial
                · exact ev_neF rfl (cmp_ints _)
            · exact rfl
            · exact ev_nx
          apply ev_seq (S1 := sA sc [.val (.lst (iL ns)), .val (.int b), .val (.int (lmin ns)), .val (.int (lmax ns)), .val (.int ns.length), .val (.int (wdI ns b)), .val (.lst (iL (isort ns))), .val (.lst (iL (dueI ns b))), .val (.lst (iL (fullI ns b))), .val (.lst (iL (fullI ns b))), .val (.lst (iL (ns ++ [lmin ns - 5, lmax ns + 50]))), .emp, .emp, .emp, .emp, .emp, .emp, .emp, .emp, .emp, .emp] h3)
          · obtain ⟨fl1, fl2⟩ := full_len hne hb1
            have dl := due_len (ns := ns) hb1.1
            apply ev_for0
            · trivial
            · apply ev_forCons (S1 := sA sc [.val (.lst (iL ns)), .val (.int b), .val (.int (lmin ns)), .val (.int (lmax ns)), .val (.int ns.length), .val (.int (wdI ns b)), .val (.lst (iL (isort ns))), .val (.lst (iL (dueI ns b))), .val (.lst (iL (fullI ns b))), .val (.lst (iL (dueI ns b))), .emp, .emp, .emp, .emp, .emp, .emp, .emp, .emp, .emp, .emp, .emp] h3) (S2 := sA sc [.val (.lst (iL ns)), .val (.int b), .val (.int (lmin ns)), .val (.int (lmax ns)), .val (.int ns.length), .val (.int (wdI ns b)), .val (.lst (iL (isort ns))), .val (.lst (iL (dueI ns b))), .val (.lst (iL (fullI ns b))), .val (.lst (iL (dueI ns b))), .val (.lst (iL (ns ++ [lmin ns - 5, lmax ns + 50]))), .emp, .emp, .emp, .emp, .emp, .emp, .emp, .emp, .emp, .emp] h3)
              · exact rfl
              · exact law_turn hne hz (by omega) (by omega) due_asc
              · apply ev_forCons (S1 := sA sc [.val (.lst (iL ns)), .val (.int b), .val (.int (lmin ns)), .val (.int (lmax ns)), .val (.int ns.length), .val (.int (wdI ns b)), .val (.lst (iL (isort ns))), .val (.lst (iL (dueI ns b))), .val (.lst (iL (fullI ns b))), .val (.lst (iL (fullI ns b))), .val (.lst (iL (ns ++ [lmin ns - 5, lmax ns + 50]))), .emp, .emp, .emp, .emp, .emp, .emp, .emp, .emp, .emp, .emp] h3) (S2 := sA sc [.val (.lst (iL ns)), .val (.int b), .val (.int (lmin ns)), .val (.int (lmax ns)), .val (.int ns.length), .val (.int (wdI ns b)), .val (.lst (iL (isort ns))), .val (.lst (iL (dueI ns b))), .val (.lst (iL (fullI ns b))), .val (.lst (iL (fullI ns b))), .val (.lst (iL (ns ++ [lmin ns - 5, lmax ns + 50]))), .emp, .emp, .emp, .emp, .emp, .emp, .emp, .emp, .emp, .emp] h3)
                · exact rfl
                · exact law_turn hne hz (by omega) (by omega) full_asc
                · exact ev_forNil
          apply ev_seq (S1 := sA sc [.val (.lst (iL ns)), .val (.int b), .val (.int (lmin ns)), .val (.int (lmax ns)), .val (.int ns.length), .val (.int (wdI ns b)), .val (.lst (iL (isort ns))), .val (.lst (iL (dueI ns b))), .val (.lst (iL (fullI ns b))), .val (.lst (iL (fullI ns b))), .val (.lst (iL (ns ++ [lmin ns - 5, lmax ns + 50]))), .emp, .emp, .emp, .emp, .emp, .emp, .emp, .emp, .emp, .emp] h3)
          · have dl := due_len (ns := ns) hb1.1
            apply ev_ifF
            · apply ev_mB
              apply ev_bin
              · trivial
              · trivial
              · refine ev_neNil (cmp_lst fun x _ => ⟨rfl, Nat.zero_le _⟩)
            · rw [List.filter_eq_nil_iff.mpr (fun n hn => by
                have := due_holds hb1.1 hn
                simp only [Bool.not_eq_true, Bool.not_eq_false', Bool.and_eq_true, decide_eq_true_eq]
                exact this)]
              rfl
            · exact ev_nx
          apply ev_seq (S1 := sA sc [.val (.lst (iL ns)), .val (.int b), .val (.int (lmin ns)), .val (.int (lmax ns)), .val (.int ns.length), .val (.int (wdI ns b)), .val (.lst (iL (isort ns))), .val (.lst (iL (dueI ns b))), .val (.lst (iL (fullI ns b))), .val (.lst (iL (fullI ns b))), .val (.lst (iL (ns ++ [lmin ns - 5, lmax ns + 50]))), .emp, .emp, .emp, .emp, .emp, .emp, .emp, .emp, .emp, .emp] h3)
          · obtain ⟨fl1, fl2⟩ := full_len hne hb1
            apply ev_ifF
            · apply ev_mB
              apply ev_bin
              · trivial
              · trivial
              · refine ev_neNil (cmp_lst fun x _ => ⟨rfl, Nat.zero_le _⟩)
            · rw [List.filter_eq_nil_iff.mpr (fun n hn => by
                have := full_holds hb1.1 hn
                simp only [Bool.not_eq_true, Bool.not_eq_false', Bool.and_eq_true, decide_eq_true_eq]
                exact this)]
              rfl
            · exact ev_nx
          apply ev_seq (S1 := sA sc [.val (.lst (iL ns)), .val (.int b), .val (.int (lmin ns)), .val (.int (lmax ns)), .val (.int ns.length), .val (.int (wdI ns b)), .val (.lst (iL (isort ns))), .val (.lst (iL (dueI ns b))), .val (.lst (iL (fullI ns b))), .val (.lst (iL (fullI ns b))), .val (.lst (iL (ns ++ [lmin ns - 5, lmax ns + 50]))), .val (.int (1 + q0)), .emp, .emp, .emp, .emp, .emp, .emp, .emp, .emp, .emp] h4)
          · apply ev_to
            · apply ev_sset
              · apply ev_bin
                · exact ev_c
                · exact ev_roll rfl e4
                · exact ev_addI
              · exact Nat.le_of_ble_eq_true rfl
              · exact rfl
            · exact rfl
          apply ev_seq (S1 := sA sc [.val (.lst (iL ns)), .val (.int b), .val (.int (lmin ns)), .val (.int (lmax ns)), .val (.int ns.length), .val (.int (wdI ns b)), .val (.lst (iL (isort ns))), .val (.lst (iL (dueI ns b))), .val (.lst (iL (fullI ns b))), .val (.lst (iL (fullI ns b))), .val (.lst (iL (ns ++ [lmin ns - 5, lmax ns + 50]))), .val (.int (1 + q0)), .emp, .emp, .emp, .emp, .emp, .emp, .emp, .emp, .emp] h4)
          · apply ev_ifF
            · apply ev_mB
              apply ev_bin
              · apply ev_listC
                · trivial
                · exact rfl
                · exact p_shares_of hne (by omega) hB2 (by omega)
              · trivial
              · exact ev_neF rfl (cmp_lst fun x _ => ⟨rfl, Nat.zero_le _⟩)
            · exact rfl
            · exact ev_nx
          apply ev_seq (S1 := sA sc [.val (.lst (iL ns)), .val (.int b), .val (.int (lmin ns)), .val (.int (lmax ns)), .val (.int ns.length), .val (.int (wdI ns b)), .val (.lst (iL (isort ns))), .val (.lst (iL (dueI ns b))), .val (.lst (iL (fullI ns b))), .val (.lst (iL (fullI ns b))), .val (.lst (iL (ns ++ [lmin ns - 5, lmax ns + 50]))), .val (.int (1 + q0)), .val (.int r'), .emp, .emp, .emp, .emp, .emp, .emp, .emp, .emp] h4)
          · apply ev_to
            · apply ev_sset
              · apply ev_callP
                · apply ev_cons
                  · apply ev_bin
                    · apply ev_bin
                      · trivial
                      · trivial
                      · exact ev_mulI (mulOk_l (by omega) (by omega))
                    · trivial
                    · exact ev_subI
                  · exact ev_nil
                · exact rfl
                · exact er1
              · exact Nat.le_of_ble_eq_true rfl
              · exact rfl
            · exact rfl
          apply ev_seq (S1 := sA sc [.val (.lst (iL ns)), .val (.int b), .val (.int (lmin ns)), .val (.int (lmax ns)), .val (.int ns.length), .val (.int (wdI ns b)), .val (.lst (iL (isort ns))), .val (.lst (iL (dueI ns b))), .val (.lst (iL (fullI ns b))), .val (.lst (iL (fullI ns b))), .val (.lst (iL (ns ++ [lmin ns - 5, lmax ns + 50]))), .val (.int (1 + q0)), .val (.int r'), .emp, .emp, .emp, .emp, .emp, .emp, .emp, .emp] h4)
          · apply ev_ifF
            · apply ev_mB
              apply ev_bin
              · apply ev_listC
                · trivial
                · exact rfl
                · exact er2
              · trivial
              · exact ev_neF rfl (cmp_lst fun x _ => ⟨rfl, Nat.zero_le _⟩)
            · exact rfl
            · exact ev_nx
          apply ev_seq (S1 := sA sc [.val (.lst (iL ns)), .val (.int b), .val (.int (lmin ns)), .val (.int (lmax ns)), .val (.int ns.length), .val (.int (wdI ns b)), .val (.lst (iL (isort ns))), .val (.lst (iL (dueI ns b))), .val (.lst (iL (fullI ns b))), .val (.lst (iL (fullI ns b))), .val (.lst (iL (ns ++ [lmin ns - 5, lmax ns + 50]))), .val (.int (1 + q0)), .val (.int r'), .val (.int big), .emp, .emp, .emp, .emp, .emp, .emp, .emp] h5)
          · apply ev_to
            · apply ev_sset
              · exact ev_roll rfl e5
              · exact Nat.le_of_ble_eq_true rfl
              · exact rfl
            · exact rfl
          apply ev_seq (S1 := sA sc [.val (.lst (iL ns)), .val (.int b), .val (.int (lmin ns)), .val (.int (lmax ns)), .val (.int ns.length), .val (.int (wdI ns b)), .val (.lst (iL (isort ns))), .val (.lst (iL (dueI ns b))), .val (.lst (iL (fullI ns b))), .val (.lst (iL (fullI ns b))), .val (.lst (iL (ns ++ [lmin ns - 5, lmax ns + 50]))), .val (.int (1 + q0)), .val (.int r'), .val (.int big), .emp, .emp, .emp, .emp, .emp, .emp, .emp] h5)
          · apply ev_ifF
            · apply ev_mB
              apply ev_bin
              · apply ev_callP
                · trivial
                · exact rfl
                · exact eu
              · apply ev_callP
                · trivial
                · exact rfl
                · exact eu'
              · exact ev_neF rfl rfl
            · exact rfl
            · exact ev_nx
          apply ev_seq (S1 := sA sc [.val (.lst (iL ns)), .val (.int b), .val (.int (lmin ns)), .val (.int (lmax ns)), .val (.int ns.length), .val (.int (wdI ns b)), .val (.lst (iL (isort ns))), .val (.lst (iL (dueI ns b))), .val (.lst (iL (fullI ns b))), .val (.lst (iL (fullI ns b))), .val (.lst (iL (ns ++ [lmin ns - 5, lmax ns + 50]))), .val (.int (1 + q0)), .val (.int r'), .val (.int big), .emp, .emp, .emp, .emp, .emp, .emp, .emp] h5)
          · apply ev_ifF
            · apply ev_mB
              apply ev_bin
              · apply ev_listC
                · trivial
                · exact rfl
                · exact p_ranks_of (by omega)
              · apply ev_frz
                · apply ev_lcT (l := ns) (g := EV.int) (f := fun n => .int (rank ns n))
                  · trivial
                  · exact rfl
                  · exact rfl
                  · exact sz _ (by omega)
                  · intro x hx
                    apply turn1
                    · trivial
                    · trivial
                    · intro _
                      have e : rank ns x = 2 * (((ns.filter fun o => decide (o < x)).map fun _ => EV.int 1).length : Int) + ((ns.count x : Nat) : Int) + 1 := by
                        unfold rank
                        rw [List.length_map, List.count_eq_length_filter]
                      show Ev _ _ (EV.int (rank ns x)) _
                      rw [e]
                      apply ev_bin
                      · apply ev_bin
                        · trivial
                        · apply ev_countI
                          · trivial
                          · trivial
                        · trivial
                      · trivial
                      · trivial
                    · exact rfl
                · exact rfl
              · exact ev_neF rfl (cmp_lst fun x _ => ⟨rfl, Nat.zero_le _⟩)
            · exact rfl
            · exact ev_nx
          apply ev_seq (S1 := sA sc [.val (.lst (iL ns)), .val (.int b), .val (.int (lmin ns)), .val (.int (lmax ns)), .val (.int ns.length), .val (.int (wdI ns b)), .val (.lst (iL (isort ns))), .val (.lst (iL (dueI ns b))), .val (.lst (iL (fullI ns b))), .val (.lst (iL (fullI ns b))), .val (.lst (iL (ns ++ [lmin ns - 5, lmax ns + 50]))), .val (.int (1 + q0)), .val (.int r'), .val (.int big), .val (.lst (sL ws)), .emp, .emp, .emp, .emp, .emp, .emp] h6)
          · apply ev_to
            · apply ev_sset
              · exact ev_frz e6 rfl
              · exact Nat.le_of_ble_eq_true rfl
              · exact rfl
            · exact rfl
          apply ev_seq (S1 := sA sc [.val (.lst (iL ns)), .val (.int b), .val (.int (lmin ns)), .val (.int (lmax ns)), .val (.int ns.length), .val (.int (wdI ns b)), .val (.lst (iL (isort ns))), .val (.lst (iL (dueI ns b))), .val (.lst (iL (fullI ns b))), .val (.lst (iL (fullI ns b))), .val (.lst (iL (ns ++ [lmin ns - 5, lmax ns + 50]))), .val (.int (1 + q0)), .val (.int r'), .val (.int big), .val (.lst (sL ws)), .val (.lst (sL nm)), .emp, .emp, .emp, .emp, .emp] h6)
          · apply ev_to
            · apply ev_sset
              · apply ev_frz
                · apply ev_obj
                  · apply ev_frz
                    · apply ev_obj
                      · apply ev_frz
                        · apply ev_lcT (l := ws) (g := EV.str) (f := fun w => .tup [.str w, .int 1])
                          · trivial
                          · exact rfl
                          · exact rfl
                          · exact sz _ (by omega)
                          · intro x hx
                            apply turn1
                            · trivial
                            · trivial
                            · intro _
                              trivial
                            · exact rfl
                        · exact rfl
                      · exact ev_dictM (fk := fun w : Str => EV.str w) (fv := fun _ => EV.int 1) fun _ _ => rfl
                    · exact rfl
                  · exact ev_sortedK hW (by omega) putsS
                · exact rfl
              · exact Nat.le_of_ble_eq_true rfl
              · exact rfl
            · rw [hnm]
              exact rfl
          apply ev_seq (S1 := sA sc [.val (.lst (iL ns)), .val (.int b), .val (.int (lmin ns)), .val (.int (lmax ns)), .val (.int ns.length), .val (.int (wdI ns b)), .val (.lst (iL (isort ns))), .val (.lst (iL (dueI ns b))), .val (.lst (iL (fullI ns b))), .val (.lst (iL (fullI ns b))), .val (.lst (iL (ns ++ [lmin ns - 5, lmax ns + 50]))), .val (.int (1 + q0)), .val (.int r'), .val (.int big), .val (.lst (sL ws)), .val (.lst (sL nm)), .emp, .emp, .emp, .emp, .emp] h6)
          · apply ev_ifF
            · apply ev_mB
              apply ev_bin
              · apply ev_callP
                · trivial
                · exact rfl
                · exact p_signs_of hW (by omega) hnm hN (by omega)
              · apply ev_tup
                · apply ev_cons
                  · trivial
                  · apply ev_cons
                    · apply ev_un
                      · apply ev_frz
                        · apply ev_lcT (l := ws) (g := EV.str) (f := fun w => .tup (nm.map fun x => .int (if x == w then 1 else 0)))
                          · trivial
                          · exact rfl
                          · exact rfl
                          · exact sz _ (by omega)
                          · intro w hw
                            apply turn1
                            · trivial
                            · trivial
                            · intro _
                              apply ev_un
                              · apply ev_frz
                                · apply ev_lcT (l := nm) (g := EV.str) (f := fun x => .int (if x == w then 1 else 0))
                                  · trivial
                                  · exact rfl
                                  · exact rfl
                                  · exact sz _ (by omega)
                                  · intro x hx
                                    apply turn1
                                    · trivial
                                    · trivial
                                    · intro _
                                      apply ev_un
                                      · apply ev_bin
                                        · trivial
                                        · trivial
                                        · exact ev_eqS (abc_ok (hN _ hx)).1 (abc_ok (hW _ hw)).1
                                      · exact ev_intB
                                    · exact rfl
                                · exact rfl
                              · exact ev_tupleL
                            · exact rfl
                        · exact rfl
                      · exact ev_tupleL
                    · exact ev_nil
                · exact sz _ (by simp)
              · refine ev_neF rfl ?_
                obtain ⟨d1, d2⟩ := cmp_map (l := nm) (f := EV.str) fun x hx => ⟨(abc_ok (hN x hx)).1, Nat.zero_le _⟩
                obtain ⟨d3, d4⟩ := cmp_map (l := ws) (f := fun w => .tup (nm.map fun x => .int (if x == w then 1 else 0))) fun w _ => by
                  obtain ⟨c1, c2⟩ := datasOk_of (l := nm.map fun x => EV.int (if x == w then 1 else 0)) fun e he => by
                    obtain ⟨x, _, rfl⟩ := List.mem_map.mp he
                    exact ⟨rfl, rfl⟩
                  refine ⟨c1, ?_⟩
                  show deps _ + 1 ≤ 20
                  omega
                unfold cmpOk
                show ((datasOk (sL nm) && (datasOk (ws.map fun w => .tup (nm.map fun x => .int (if x == w then 1 else 0))) && true)) && decide (max (deps (sL nm) + 1) (max (deps (ws.map fun w => .tup (nm.map fun x => .int (if x == w then 1 else 0))) + 1) 0) + 1 ≤ 64)) = true
                rw [d1, d3]
                have d4' : deps (ws.map fun w => EV.tup (nm.map fun x => .int (if x == w then 1 else 0))) ≤ 20 := d4
                have : max (deps (sL nm) + 1) (max (deps (ws.map fun w => EV.tup (nm.map fun x => .int (if x == w then 1 else 0))) + 1) 0) + 1 ≤ 64 := by
                  generalize deps (sL nm) = u1 at d2 ⊢
                  generalize deps (ws.map fun w => EV.tup (nm.map fun x => .int (if x == w then 1 else 0))) = u2 at d4' ⊢
                  omega
                rw [decide_eq_true this]
                rfl
            · exact rfl
            · exact ev_nx
          apply ev_seq (S1 := sA sc [.val (.lst (iL ns)), .val (.int b), .val (.int (lmin ns)), .val (.int (lmax ns)), .val (.int ns.length), .val (.int (wdI ns b)), .val (.lst (iL (isort ns))), .val (.lst (iL (dueI ns b))), .val (.lst (iL (fullI ns b))), .val (.lst (iL (fullI ns b))), .val (.lst (iL (ns ++ [lmin ns - 5, lmax ns + 50]))), .val (.int (1 + q0)), .val (.int r'), .val (.int big), .val (.lst (sL ws)), .val (.lst (sL nm)), .emp, .emp, .emp, .emp, .emp] h6)
          · apply ev_ifF
            · apply ev_mB
              apply ev_bin
              · apply ev_listC
                · trivial
                · exact rfl
                · exact p_places_of hW (by omega)
              · apply ev_frz
                · apply ev_lcT (l := ws) (g := EV.str) (f := fun w => .int (plc w))
                  · trivial
                  · exact rfl
                  · exact rfl
                  · exact sz _ (by omega)
                  · intro x hx
                    have key : ∀ (w : Str) (S : ES), w ∈ abc → S.sl[20]? = some (.val (.str w)) → Ev (mIf (mB (mBin eNe (mGet 20) (mC (.str ("c" : Str))))) (mBinL eIndex (mFrz (mLst (mCons (mC (.str ("a" : Str))) (mCons (mC (.str ("b" : Str))) (mNil))))) (mGet 20)) (mUn eNeg (mC (.int 1)))) S (.int (plc w)) S := fun w S hw hs => by
                      have hg : mGet 20 S = .ok (.str w) S := ev_get hs
                      have gen : ∀ g : M EV, g S = .ok (.str w) S → Ev (mIf (mB (mBin eNe g (mC (.str ("c" : Str))))) (mBinL eIndex (mFrz (mLst (mCons (mC (.str ("a" : Str))) (mCons (mC (.str ("b" : Str))) (mNil))))) g) (mUn eNeg (mC (.int 1)))) S (.int (plc w)) S := fun g hg => by
                        have e0 : Ev (mB (mBin eNe g (mC (.str ("c" : Str))))) S (!(w == "c")) S := ev_mB (ev_bin hg ev_c (ev_neS (abc_ok hw).1 (by decide +kernel)))
                        have e1 : Ev (mFrz (mLst (mCons (mC (.str ("a" : Str))) (mCons (mC (.str ("b" : Str))) (mNil))))) S (.lst [.str "a", .str "b"]) S := ev_frz (ev_lst (ev_cons ev_c (ev_cons ev_c ev_nil)) (sz _ (by simp))) rfl
                        rcases abc3 hw with rfl | rfl | rfl
                        · exact ev_ifT e0 (by decide +kernel) (ev_un e1 (ev_bnd hg (by show _ = _; kernel_rfl)))
                        · exact ev_ifT e0 (by decide +kernel) (ev_un e1 (ev_bnd hg (by show _ = _; kernel_rfl)))
                        · exact ev_ifF e0 (by decide +kernel) (by show _ = _; kernel_rfl)
                      exact gen _ hg
                    apply turn1
                    · trivial
                    · trivial
                    · intro _
                      exact key x _ (hW x hx) rfl
                    · exact rfl
                · exact rfl
              · exact ev_neF rfl (cmp_lst fun x _ => ⟨rfl, Nat.zero_le _⟩)
            · exact rfl
            · exact ev_nx
          apply ev_ifF (S1 := sA sc [.val (.lst (iL ns)), .val (.int b), .val (.int (lmin ns)), .val (.int (lmax ns)), .val (.int ns.length), .val (.int (wdI ns b)), .val (.lst (iL (isort ns))), .val (.lst (iL (dueI ns b))), .val (.lst (iL (fullI ns b))), .val (.lst (iL (fullI ns b))), .val (.lst (iL (ns ++ [lmin ns - 5, lmax ns + 50]))), .val (.int (1 + q0)), .val (.int r'), .val (.int big), .val (.lst (sL ws)), .val (.lst (sL nm)), .emp, .emp, .emp, .emp, .emp] h7)
          · apply ev_not
            apply ev_tru (b := true) (v := .bl true)
            · apply ev_to
              · apply ev_call (S1 := sA sc [.val (.lst (iL ns)), .val (.int b), .val (.int (lmin ns)), .val (.int (lmax ns)), .val (.int ns.length), .val (.int (wdI ns b)), .val (.lst (iL (isort ns))), .val (.lst (iL (dueI ns b))), .val (.lst (iL (fullI ns b))), .val (.lst (iL (fullI ns b))), .val (.lst (iL (ns ++ [lmin ns - 5, lmax ns + 50]))), .val (.int (1 + q0)), .val (.int r'), .val (.int big), .val (.lst (sL ws)), .val (.lst (sL nm)), .emp, .emp, .emp, .emp, .emp] h6)
                · trivial
                · exact rfl
                · exact e7
              · exact rfl
            · exact rfl
          · exact rfl
          · exact ev_nx
        · exact ev_forNil
    · apply ev_sret
      apply ev_callP
      · exact ev_nil
      · exact rfl
      · exact p_plain _
  · exact rfl
end K02
/-! K02E -/
set_option Elab.async false
set_option linter.all false
set_option autoImplicit false
set_option maxRecDepth 100000
set_option maxHeartbeats 0
/-! printed by gen.py: the end -/
namespace K02
open PySem PySem.Spec PyProof.Rows L2 ML
def gd : List Str := [("standard" : Str), ("signs_of" : Str), ("edges_even" : Str), ("check_edges" : Str), ("binned" : Str), ("shares_of" : Str), ("places_of" : Str), ("crossed" : Str), ("lagged" : Str), ("clipped" : Str), ("useful" : Str)]
def ld : List Str := [("_law_plain" : Str)]
def excs : List Str := [("ShapeError" : Str)]
def dNames : List Str := [("_law_dice" : Str), ("_law_rounds" : Str), ("square_root" : Str), ("standard" : Str), ("signs_of" : Str), ("powers_of" : Str), ("edges_even" : Str), ("edges_full" : Str), ("check_edges" : Str), ("bin_of" : Str), ("binned" : Str), ("shares_of" : Str), ("places_of" : Str), ("means_for" : Str), ("crossed" : Str), ("lagged" : Str), ("clipped" : Str), ("useful" : Str), ("ranks_of" : Str), ("_law_told" : Str), ("_law_plain" : Str), ("_law_root" : Str), ("_law_roll" : Str), ("_law_made" : Str), ("_law_bin" : Str), ("law" : Str)]
def fa : List He.Fa := faOf dNames excs
def fn : List He.DefD := [dDef ("_law_dice" : Str) s_l_dice, dDef ("_law_rounds" : Str) s_l_rounds, dDef ("square_root" : Str) s_square_root, dDef ("standard" : Str) s_standard, dDef ("signs_of" : Str) s_signs_of, dDef ("powers_of" : Str) s_powers_of, dDef ("edges_even" : Str) s_edges_even, dDef ("edges_full" : Str) s_edges_full, dDef ("check_edges" : Str) s_check_edges, dDef ("bin_of" : Str) s_bin_of, dDef ("binned" : Str) s_binned, dDef ("shares_of" : Str) s_shares_of, dDef ("places_of" : Str) s_places_of, dDef ("means_for" : Str) s_means_for, dDef ("crossed" : Str) s_crossed, dDef ("lagged" : Str) s_lagged, dDef ("clipped" : Str) s_clipped, dDef ("useful" : Str) s_useful, dDef ("ranks_of" : Str) s_ranks_of, dDef ("_law_told" : Str) s_l_told, dDef ("_law_plain" : Str) s_l_plain, dDef ("_law_root" : Str) s_l_root, dDef ("_law_roll" : Str) s_l_roll, dDef ("_law_made" : Str) s_l_made, dDef ("_law_bin" : Str) s_l_bin, dDef ("law" : Str) s_law]
def tf : List He.Defn := (gd ++ ld).map fun n => (n, none)
abbrev R : PySem.W.OpenRow := PySem.W.OpenLaw.row PySem.Challenge.rw_learnstack_k02_shapes_of_columns
abbrev hk : PySem.W.Hook := He.hookX 4 fa fn [] tf (exLaw gd ld excs)
def ob (s : PySem.W.SharedT) : He.AlX := He.obsX 4 fa fn [] tf (exLaw gd ld excs) (HandSHeadRun.getT s)
theorem ob_eq (s : PySem.W.SharedT) : ob s = hk.obs s.abs := He.obsX_eq (HandSHeadRun.getT_eq s)
def names0 : List Str := [("LearnError" : Str), ("ShapeError" : Str), ("edges_even" : Str), ("edges_full" : Str), ("bin_of" : Str), ("check_edges" : Str), ("binned" : Str), ("shares_of" : Str), ("square_root" : Str), ("standard" : Str), ("ranks_of" : Str), ("signs_of" : Str), ("places_of" : Str), ("means_for" : Str), ("crossed" : Str), ("powers_of" : Str), ("lagged" : Str), ("clipped" : Str), ("useful" : Str), ("_law_dice" : Str), ("_law_roll" : Str), ("_law_rounds" : Str), ("_law_told" : Str), ("_law_root" : Str), ("_law_bin" : Str), ("_law_plain" : Str), ("_law_made" : Str)]
def names : List Str := names0
theorem run (w : World) : HandSHeadRun.RunEq R (PySem.W.view R.prog [30]) hk ob 4000 names w := by
  intro os
  kernel_rfl
theorem fx_of {K : PySem.W.Frag} {h base : Heap} {mg : Str → Option Value} (X : K.In h) (G : h.Ns mainGlobals mg) {w : World} (S : He.SaysX fa fn [] tf (exLaw gd ld excs) w h K) (bm : ∃ P0, base.BuiltinsAt mg P0) (hT : ∀ n ∈ gd ++ ld, LamX.TabB base mg (He.cT K (n, none)).1 (He.cT K (n, none)).2) : Fx K mg base (GsOf K gd) (LsOf K ld lamTab) := by
  have c := S.t.d
  obtain ⟨nd, hm⟩ := exLaw_ok S.more
  exact ⟨bt_of X G c,
    bm,
    exc_of X G (fa_glo c (by decide)) (fa_exc c (by decide)) (fa_exm c (by decide)) (hm _ (by decide)),
    defK_of c 0 rfl,
    He.glo_ok X G (fa_glo c (by decide)),
    defK_of c 1 rfl,
    He.glo_ok X G (fa_glo c (by decide)),
    defK_of c 2 rfl,
    He.glo_ok X G (fa_glo c (by decide)),
    defK_of c 3 rfl,
    He.glo_ok X G (fa_glo c (by decide)),
    defK_of c 4 rfl,
    He.glo_ok X G (fa_glo c (by decide)),
    defK_of c 5 rfl,
    He.glo_ok X G (fa_glo c (by decide)),
    defK_of c 6 rfl,
    He.glo_ok X G (fa_glo c (by decide)),
    defK_of c 7 rfl,
    He.glo_ok X G (fa_glo c (by decide)),
    defK_of c 8 rfl,
    He.glo_ok X G (fa_glo c (by decide)),
    defK_of c 9 rfl,
    He.glo_ok X G (fa_glo c (by decide)),
    defK_of c 10 rfl,
    He.glo_ok X G (fa_glo c (by decide)),
    defK_of c 11 rfl,
    He.glo_ok X G (fa_glo c (by decide)),
    defK_of c 12 rfl,
    He.glo_ok X G (fa_glo c (by decide)),
    defK_of c 13 rfl,
    He.glo_ok X G (fa_glo c (by decide)),
    defK_of c 14 rfl,
    He.glo_ok X G (fa_glo c (by decide)),
    defK_of c 15 rfl,
    He.glo_ok X G (fa_glo c (by decide)),
    defK_of c 16 rfl,
    He.glo_ok X G (fa_glo c (by decide)),
    defK_of c 17 rfl,
    He.glo_ok X G (fa_glo c (by decide)),
    defK_of c 18 rfl,
    He.glo_ok X G (fa_glo c (by decide)),
    defK_of c 19 rfl,
    He.glo_ok X G (fa_glo c (by decide)),
    defK_of c 20 rfl,
    He.glo_ok X G (fa_glo c (by decide)),
    defK_of c 21 rfl,
    He.glo_ok X G (fa_glo c (by decide)),
    defK_of c 22 rfl,
    He.glo_ok X G (fa_glo c (by decide)),
    defK_of c 23 rfl,
    He.glo_ok X G (fa_glo c (by decide)),
    defK_of c 24 rfl,
    He.glo_ok X G (fa_glo c (by decide)),
    defK_of c 25 rfl,
    He.glo_ok X G (fa_glo c (by decide)),
    tabG_of nd hT (by decide),
    tabG_of nd hT (by decide),
    tabG_of nd hT (by decide),
    tabG_of nd hT (by decide),
    tabG_of nd hT (by decide),
    tabG_of nd hT (by decide),
    tabG_of nd hT (by decide),
    tabG_of nd hT (by decide),
    tabG_of nd hT (by decide),
    tabG_of nd hT (by decide),
    tabG_of nd hT (by decide),
    tabL_of nd hT (by decide),
    rfl⟩
end K02
open PySem PySem.W PySem.Calls PyProof.Rows
theorem K02.holds_of (pl : ∀ ns : List Int, ns.length ≤ 63 → (∀ z ∈ ns, Builtin.Int.intBits z ≤ 1048576) → ∃ hh, K02.F_law [.scr false (ns.map ML.EV.int)] [] = .ok (.bl true) hh) : PySem.Challenge.rw_learnstack_k02_shapes_of_columns.Holds := by
  w_on; o_law
  refine HandSHeadRun.head_any (r := OpenLaw.row PySem.Challenge.rw_learnstack_k02_shapes_of_columns) (q := view (OpenLaw.row PySem.Challenge.rw_learnstack_k02_shapes_of_columns).prog [30]) (H := K02.hk) (ob := K02.ob) (M := 4000) (loose := K02.names) (d := HandSHeadRun.topDef (OpenLaw.row PySem.Challenge.rw_learnstack_k02_shapes_of_columns).prog 30) (kwd := []) K02.ob_eq
    (by kernel_rfl) (fun s => by kernel_rfl) K02.run (by kernel_rfl) (by kernel_rfl) (by kernel_rfl) (by rfl) (by first | assumption | decide +kernel) (by decide +kernel) ⟨rfl, rfl, rfl, rfl, rfl, by decide +kernel⟩ ?hw ?hc
  case hw => w_witness2
  case hc =>
    refine LamX.walk_ofTsE (l := PySem.Challenge.rw_learnstack_k02_shapes_of_columns) (n := 63) (k := 9) (x := "script") (CX := fun w => L2.CX (PySem.Challenge.rw_learnstack_k02_shapes_of_columns).prog w) rfl (by decide) (by kernel_rfl) ⟨rfl, by decide, by decide⟩ ?F (fun _ _ _ _ _ z => by obtain ⟨_, _, _, _, _, _, _, _, _, _, _, _, z⟩ := z; exact z)
    intro w mg fa h Y G hmg0
    obtain ⟨K, KX, S⟩ := Y
    have hmg : mg ("law" : PySem.Str) = some (.ref fa) := by
      have e : (HandSHeadRun.topDef (OpenLaw.row PySem.Challenge.rw_learnstack_k02_shapes_of_columns).prog 30).name = ("law" : PySem.Str) := by kernel_rfl
      rw [← e]
      exact hmg0
    have e := hmg.symm.trans (He.glo_ok KX G (ML.fa_glo S.t.d (show ("law" : PySem.Str) ∈ K02.dNames ++ K02.excs by decide)))
    cases e
    obtain ⟨fd, hfd⟩ := (ML.defK_of S.t.d 25 (x := "law") (st := K02.s_law) rfl).fd
    have mem : ∀ n, n ∈ K02.gd ++ K02.ld → ((n, none) : He.Defn) ∈ K02.tf := fun n hn => List.mem_map.mpr ⟨n, hn, rfl⟩
    have mem2 : ∀ p ∈ K02.tf.map (He.cT K), ∃ q ∈ K02.tf, He.cT K q = p := fun p hp => by obtain ⟨q, hq, e⟩ := List.mem_map.mp hp; exact ⟨q, hq, e⟩
    refine ⟨K, KX, fd, K02.tf.map (He.cT K), _, fun p hp => ?_, fun p hp => ?_, fun p hp => ?_, fun s u => ?_, fun H a ns hl hbits hH hS => ML.law_sp (mg := mg) (gd := K02.gd) (ld := K02.ld) (lam := K02.lamTab) (fun n hn => hH _ (List.mem_map.mpr ⟨_, mem n hn, rfl⟩)) hS (pl ns hl hbits), fun base hKb hnb hTb => ?_⟩
    · obtain ⟨q, hq, rfl⟩ := mem2 p hp; exact S.empty q hq
    · obtain ⟨q, hq, rfl⟩ := mem2 p hp; exact S.out q hq
    · obtain ⟨q, hq, rfl⟩ := mem2 p hp; exact PySem.W.codeHd_of_K KX (S.hd q hq)
    · obtain ⟨oc, od, kV, doc, pm, an, cdv, ct, osl, rfl, _⟩ := hfd
      exact .of_eq rfl
    · have hT : ∀ n ∈ K02.gd ++ K02.ld, LamX.TabB base mg (He.cT K (n, none)).1 (He.cT K (n, none)).2 := fun n hn => hTb _ (List.mem_map.mpr ⟨_, mem n hn, rfl⟩)
      exact K02.wk_law (K02.fx_of KX G S ⟨_, (hT _ (show ("standard" : PySem.Str) ∈ K02.gd ++ K02.ld by decide)).bm⟩ hT) hfd
theorem PySem.Challenge.cw_learnstack_k02_shapes_of_columns_holds : PySem.Challenge.rw_learnstack_k02_shapes_of_columns.Holds :=
  K02.holds_of fun ns h1 h2 => K02.p_law ns
