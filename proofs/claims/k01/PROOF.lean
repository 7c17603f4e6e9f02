import PyProof.Rows.All
import Wide.All
import OpenK.AllK
import Wide.FinOn
import HandS.ForMost
import HandS.ForExc
import HandS.WordsExc
import HandS.Defaults
import HandS.Conv
import HandS.TupAny
import HandS.TupMul
import HandS.Deep
import HandS.IsInst
import HandS.Zip
import HandS.Flow
import HandS.Style
import HandS.Small
import HandS.Lambda
import HandS.Wide
import HandS.ExcCtx
import KE.GoesZip
import KE.GoesMore
import HandS.SortInts
import KE.KRevSl
import KE.GoesEnum
import HandS.Iter
import HandS.Text
import HandS.TupSets
import HandS.SetFor
import KE.KeyNested
import HandS.HotCalls
import KE.KExcIs
import HandS.HeadHook4
import HandS.HeadWalk
import PyProof.ExcBaseAll.ValueError
import HandS.Head0
import HandS.Head1
import HandS.Head2
import HandS.HeadEnd
import HandS.HeadHook1
import HandS.HeadHook2
import PySem.Challenge.RW_anytotals_k01_books_recognized
set_option Elab.async false
set_option linter.all false
set_option autoImplicit false
set_option maxRecDepth 100000
set_option maxHeartbeats 1000000
/-! The data layer: values as data, frozen or owned, over the hand layer. -/
namespace DL
open PySem PySem.Spec
open PyProof.Rows hiding St
open L2

/-- data -/
inductive D where
  | non | bl (b : Bool) | int (i : Int) | str (x : Str)
  | tup (xs : List D) | lst (xs : List D) | scr (xs : List D)
  | dic (ks : List Key) (vs : List D) | dit (ks : List (List Key)) (vs : List D)
  | opq (v : V)

mutual
inductive Dat (K : PySem.W.Frag) (G : Hp) : V → D → Prop
  | non : Dat K G .non .non
  | bl (b : Bool) : Dat K G (.bl b) (.bl b)
  | int (i : Int) : Dat K G (.int i) (.int i)
  | str (x : Str) : Dat K G (.str x) (.str x)
  | tup {a : Addr} {xs : List V} {ds : List D} : SqT K G a xs → Dats K G xs ds → Dat K G (.ref a) (.tup ds)
  | lst {a : Addr} {xs : List V} {ds : List D} : G a = some (.lst xs) → Dats K G xs ds → Dat K G (.ref a) (.lst ds)
  | scr {a : Addr} {xs : List V} {ds : List D} : SqL K G a xs → Dats K G xs ds → Dat K G (.ref a) (.scr ds)
  | dic {a : Addr} {kvs : List (Key × V)} {ds : List D} : G a = some (.dK kvs) → Dats K G (kvs.map (·.2)) ds → Dat K G (.ref a) (.dic (kvs.map (·.1)) ds)
  | dit {a : Addr} {kvs : List (List Key × V)} {ds : List D} : G a = some (.dT kvs) → Dats K G (kvs.map (·.2)) ds → Dat K G (.ref a) (.dit (kvs.map (·.1)) ds)
  | opq (v : V) : Dat K G v (.opq v)
inductive Dats (K : PySem.W.Frag) (G : Hp) : List V → List D → Prop
  | nil : Dats K G [] []
  | cons {v : V} {vs : List V} {d : D} {ds : List D} : Dat K G v d → Dats K G vs ds → Dats K G (v :: vs) (d :: ds)
end
def Sub (G H : Hp) : Prop := ∀ a o, G a = some o → H a = some o
theorem Sub.refl (G : Hp) : Sub G G := fun _ _ e => e
theorem Sub.trans {G H I : Hp} (a : Sub G H) (b : Sub H I) : Sub G I := fun c o e => b c o (a c o e)
theorem SqT.sub {K : PySem.W.Frag} {G H : Hp} {a : Addr} {xs : List V} (s : Sub G H) (h : SqT K G a xs) : SqT K H a xs := by
  rcases h with (h | ⟨o, h⟩) | h
  · exact .inl (.inl (s _ _ h))
  · exact .inl (.inr ⟨o, s _ _ h⟩)
  · exact .inr h
theorem SqL.sub {K : PySem.W.Frag} {G H : Hp} {a : Addr} {xs : List V} (s : Sub G H) (h : SqL K G a xs) : SqL K H a xs := by
  rcases h with (h | ⟨o, h⟩) | h
  · exact .inl (.inl (s _ _ h))
  · exact .inl (.inr ⟨o, s _ _ h⟩)
  · exact .inr h
section
variable {K : PySem.W.Frag} {G H : Hp}
mutual
theorem Dat.sub (s : Sub G H) : ∀ {v : V} {d : D}, Dat K G v d → Dat K H v d
  | _, _, .non => .non
  | _, _, .bl b => .bl b
  | _, _, .int i => .int i
  | _, _, .str x => .str x
  | _, _, .tup h r => .tup (SqT.sub s h) (Dats.sub s r)
  | _, _, .lst h r => .lst (s _ _ h) (Dats.sub s r)
  | _, _, .scr h r => .scr (SqL.sub s h) (Dats.sub s r)
  | _, _, .dic h r => .dic (s _ _ h) (Dats.sub s r)
  | _, _, .dit h r => .dit (s _ _ h) (Dats.sub s r)
  | _, _, .opq v => .opq v
theorem Dats.sub (s : Sub G H) : ∀ {vs : List V} {ds : List D}, Dats K G vs ds → Dats K H vs ds
  | _, _, .nil => .nil
  | _, _, .cons a b => .cons (Dat.sub s a) (Dats.sub s b)
end
theorem Dats.len : ∀ {vs : List V} {ds : List D}, Dats K G vs ds → vs.length = ds.length
  | _, _, .nil => rfl
  | _, _, .cons _ b => congrArg Nat.succ (Dats.len b)
theorem Dats.get : ∀ {vs : List V} {ds : List D} {i : Nat} {d : D}, Dats K G vs ds → ds[i]? = some d → ∃ v, vs[i]? = some v ∧ Dat K G v d
  | _, _, i, _, .nil, e => by simp at e
  | _, _, 0, _, .cons a _, e => by simp at e; subst e; exact ⟨_, rfl, a⟩
  | _, _, i + 1, _, .cons _ b, e => by
    obtain ⟨v, h1, h2⟩ := Dats.get (i := i) b (by simpa using e)
    exact ⟨v, by simpa using h1, h2⟩
theorem Dats.app : ∀ {vs ws : List V} {ds es : List D}, Dats K G vs ds → Dats K G ws es → Dats K G (vs ++ ws) (ds ++ es)
  | _, _, _, _, .nil, h => h
  | _, _, _, _, .cons a b, h => .cons a (Dats.app b h)
theorem Dats.take : ∀ {vs : List V} {ds : List D} (n : Nat), Dats K G vs ds → Dats K G (vs.take n) (ds.take n)
  | _, _, 0, _ => .nil
  | _, _, _ + 1, .nil => .nil
  | _, _, n + 1, .cons a b => .cons a (Dats.take n b)
theorem Dats.drop : ∀ {vs : List V} {ds : List D} (n : Nat), Dats K G vs ds → Dats K G (vs.drop n) (ds.drop n)
  | _, _, 0, h => h
  | _, _, _ + 1, .nil => .nil
  | _, _, n + 1, .cons _ b => Dats.drop n b
theorem Dats.set {v : V} {d : D} (h : Dat K G v d) : ∀ {vs : List V} {ds : List D} (n : Nat), Dats K G vs ds → Dats K G (vs.set n v) (ds.set n d)
  | _, _, _, .nil => .nil
  | _, _, 0, .cons _ b => .cons h b
  | _, _, n + 1, .cons a b => .cons a (Dats.set h n b)
theorem Dats.dropLast {vs : List V} {ds : List D} (h : Dats K G vs ds) : Dats K G vs.dropLast ds.dropLast := by
  rw [List.dropLast_eq_take, List.dropLast_eq_take, h.len]
  exact h.take _
theorem Dats.rev {vs : List V} {ds : List D} (h : Dats K G vs ds) : Dats K G vs.reverse ds.reverse := by
  induction ds generalizing vs with
  | nil => cases h; exact .nil
  | cons d ds ih =>
    cases h with
    | cons a b =>
      rw [List.reverse_cons, List.reverse_cons]
      exact (ih b).app (.cons a .nil)
theorem Dats.rep {vs : List V} {ds : List D} (h : Dats K G vs ds) : ∀ k : Nat, Dats K G (List.replicate k vs).flatten (List.replicate k ds).flatten
  | 0 => .nil
  | k + 1 => by
    rw [List.replicate_succ, List.replicate_succ, List.flatten_cons, List.flatten_cons]
    exact h.app (h.rep k)
theorem Dats.ofInts : ∀ ns : List Int, Dats K G (ns.map V.int) (ns.map D.int)
  | [] => .nil
  | n :: ns => .cons (.int n) (Dats.ofInts ns)
theorem Dats.ints : ∀ {vs : List V} {ns : List Int}, Dats K G vs (ns.map D.int) → vs = ns.map V.int
  | _, [], .nil => rfl
  | _, n :: ns, .cons a b => by
    cases a
    rw [Dats.ints b, List.map_cons]
theorem Dats.strs : ∀ {vs : List V} {ns : List Str}, Dats K G vs (ns.map D.str) → vs = ns.map V.str
  | _, [], .nil => rfl
  | _, n :: ns, .cons a b => by
    cases a
    rw [Dats.strs b, List.map_cons]
theorem Dats.ofStrs : ∀ ns : List Str, Dats K G (ns.map V.str) (ns.map D.str)
  | [] => .nil
  | n :: ns => .cons (.str n) (Dats.ofStrs ns)
theorem Dats.bls : ∀ {vs : List V} {ns : List Bool}, Dats K G vs (ns.map D.bl) → vs = ns.map V.bl
  | _, [], .nil => rfl
  | _, n :: ns, .cons a b => by
    cases a
    rw [Dats.bls b, List.map_cons]
end

/-! ### slots -/
/-- an owned object -/
inductive OD where
  | lst (ds : List D) | dK (ks : List Key) (ds : List D) | dT (ks : List (List Key)) (ds : List D)
def OD.fz : OD → D
  | .lst ds => .lst ds
  | .dK ks ds => .dic ks ds
  | .dT ks ds => .dit ks ds
/-- val: frozen data; own: an object that the frame alone holds; io: one that the caller lent; emp: nothing known -/
inductive Sl where
  | val (d : D) | own (o : OD) | io (o : OD) | emp
abbrev En := List Sl
/-- the object at a, its items frozen -/
def OAt (K : PySem.W.Frag) (G H : Hp) (a : Addr) : OD → Prop
  | .lst ds => ∃ xs, H a = some (.lst xs) ∧ Dats K G xs ds
  | .dK ks ds => ∃ kvs, H a = some (.dK kvs) ∧ kvs.map (·.1) = ks ∧ Dats K G (kvs.map (·.2)) ds
  | .dT ks ds => ∃ kvs, H a = some (.dT kvs) ∧ kvs.map (·.1) = ks ∧ Dats K G (kvs.map (·.2)) ds
theorem OAt.there {K : PySem.W.Frag} {G H : Hp} {a : Addr} {o : OD} (h : OAt K G H a o) : ∃ u, H a = some u ∧ ∀ ps, u ≠ .tbl ps := by
  cases o with
  | lst ds => obtain ⟨xs, e, _⟩ := h; exact ⟨_, e, fun ps z => nomatch z⟩
  | dK ks ds => obtain ⟨xs, e, _⟩ := h; exact ⟨_, e, fun ps z => nomatch z⟩
  | dT ks ds => obtain ⟨xs, e, _⟩ := h; exact ⟨_, e, fun ps z => nomatch z⟩
theorem OAt.mov {K : PySem.W.Frag} {G H G' H' : Hp} {a : Addr} {o : OD} (h : OAt K G H a o) (g : Sub G G') (e : ∀ u, H a = some u → H' a = some u) : OAt K G' H' a o := by
  cases o with
  | lst ds => obtain ⟨xs, h1, h2⟩ := h; exact ⟨xs, e _ h1, h2.sub g⟩
  | dK ks ds => obtain ⟨xs, h1, h2, h3⟩ := h; exact ⟨xs, e _ h1, h2, h3.sub g⟩
  | dT ks ds => obtain ⟨xs, h1, h2, h3⟩ := h; exact ⟨xs, e _ h1, h2, h3.sub g⟩
def Sl.held : Sl → Option OD
  | .own o => some o
  | .io o => some o
  | _ => none
/-- the slot x of σ as s says -/
def SlAt (K : PySem.W.Frag) (G H : Hp) (x : Option V) : Sl → Prop
  | .val d => ∃ v, x = some v ∧ Dat K G v d
  | .own o => ∃ a, x = some (.ref a) ∧ G a = none ∧ OAt K G H a o
  | .io o => ∃ a, x = some (.ref a) ∧ G a = none ∧ OAt K G H a o
  | .emp => True
/-- slot i holds an owned object, at a -/
def OwnI (σ : St) (ρ : En) (i : Nat) (a : Addr) : Prop := σ[i]? = some (some (.ref a)) ∧ ∃ s o, ρ[i]? = some s ∧ s.held = some o
def Own (σ : St) (ρ : En) (a : Addr) : Prop := ∃ i, OwnI σ ρ i a

structure SR (K : PySem.W.Frag) (T : List (Addr × Str)) (G H : Hp) (σ : St) (ρ : En) : Prop where
  len : σ.length = ρ.length
  at_ : ∀ (i : Nat) (s : Sl), ρ[i]? = some s → ∃ x, σ[i]? = some x ∧ SlAt K G H x s
  ap : ∀ i j a, OwnI σ ρ i a → OwnI σ ρ j a → i = j
  gh : Sub G H
  tab : LamX.Tabs T H
  gt : ∀ p ∈ T, G p.1 = none
/-- from one state to a later one -/
structure Stp (T : List (Addr × Str)) (σ : St) (ρ : En) (G H : Hp) (σ' : St) (ρ' : En) (G' H' : Hp) : Prop where
  gg : Sub G G'
  gf : ∀ a, G a = none → G' a ≠ none → H a = none ∨ Own σ ρ a
  fr : ∀ a o, H a = some o → (∀ p ∈ T, p.1 ≠ a) → ¬ Own σ ρ a → H' a = some o
  al : ∀ a, H' a = none → H a = none
  own : ∀ a, Own σ' ρ' a → Own σ ρ a ∨ H a = none
  io : ∀ (i : Nat) (o : OD), ρ[i]? = some (.io o) → (∃ o' : OD, ρ'[i]? = some (.io o')) ∧ σ'[i]? = σ[i]?
  iog : ∀ (i : Nat) (o : OD) (a : Addr), ρ[i]? = some (.io o) → σ[i]? = some (some (.ref a)) → G' a = none
section
variable {K : PySem.W.Frag} {T : List (Addr × Str)} {σ σ1 σ2 : St} {ρ ρ1 ρ2 : En} {G G1 G2 H H1 H2 : Hp}
theorem SR.oat (R : SR K T G H σ ρ) {i : Nat} {a : Addr} (h : OwnI σ ρ i a) : ∃ s o, ρ[i]? = some s ∧ s.held = some o ∧ G a = none ∧ OAt K G H a o := by
  obtain ⟨h1, s, o, h2, h3⟩ := h
  obtain ⟨x, h4, h5⟩ := R.at_ i s h2
  rw [h1] at h4
  cases h4
  refine ⟨s, o, h2, h3, ?_⟩
  cases s with
  | val d => cases h3
  | emp => cases h3
  | own o' =>
    cases h3
    obtain ⟨b, e, g, q⟩ := h5
    cases e
    exact ⟨g, q⟩
  | io o' =>
    cases h3
    obtain ⟨b, e, g, q⟩ := h5
    cases e
    exact ⟨g, q⟩
theorem SR.og (R : SR K T G H σ ρ) {a : Addr} (h : Own σ ρ a) : G a = none ∧ ∃ u, H a = some u ∧ ∀ ps, u ≠ .tbl ps := by
  obtain ⟨i, h⟩ := h
  obtain ⟨s, o, _, _, g, q⟩ := R.oat h
  exact ⟨g, q.there⟩
theorem SR.nt (R : SR K T G H σ ρ) {a : Addr} (h : Own σ ρ a) : ∀ p ∈ T, p.1 ≠ a := fun p hp e => by
  obtain ⟨_, u, h1, h2⟩ := R.og h
  obtain ⟨ps, h3, _⟩ := R.tab p hp
  rw [e, h1] at h3
  exact h2 ps (Option.some.inj h3)
theorem Stp.refl (R : SR K T G H σ ρ) : Stp T σ ρ G H σ ρ G H where
  gg := Sub.refl G
  gf := fun a h h' => (h' h).elim
  fr := fun _ _ e _ _ => e
  al := fun _ e => e
  own := fun _ h => .inl h
  io := fun i o h => ⟨⟨o, h⟩, rfl⟩
  iog := fun i o a h h' => (R.og ⟨i, h', _, _, h, rfl⟩).1
theorem Stp.trans (R : SR K T G H σ ρ) (a : Stp T σ ρ G H σ1 ρ1 G1 H1) (b : Stp T σ1 ρ1 G1 H1 σ2 ρ2 G2 H2) : Stp T σ ρ G H σ2 ρ2 G2 H2 where
  gg := a.gg.trans b.gg
  gf := fun x h h' => by
    cases e : G1 x with
    | some o => exact a.gf x h (by rw [e]; simp)
    | none =>
      rcases b.gf x e h' with z | z
      · exact .inl (a.al x z)
      · exact (a.own x z).symm
  fr := fun x o h n m => by
    refine b.fr x o (a.fr x o h n m) n fun z => ?_
    rcases a.own x z with q | q
    · exact m q
    · rw [h] at q; cases q
  al := fun x h => a.al x (b.al x h)
  own := fun x h => by
    rcases b.own x h with z | z
    · exact a.own x z
    · exact .inr (a.al x z)
  io := fun i o h => by
    obtain ⟨⟨o1, h1⟩, e1⟩ := a.io i o h
    obtain ⟨h2, e2⟩ := b.io i o1 h1
    exact ⟨h2, e2.trans e1⟩
  iog := fun i o x h h' => by
    obtain ⟨⟨o1, h1⟩, e1⟩ := a.io i o h
    exact b.iog i o1 x h1 (e1.trans h')
end

/-! ### results -/
inductive Wv where
  | val (d : D) | tmp (o : OD) | slot (i : Nat)
inductive Out (α : Type) where
  | ok (ρ : En) (a : α) | exc (c : Str) | stk
abbrev Ev (α : Type) := En → Out α
def Out.bind {α β : Type} (x : Out α) (f : En → α → Out β) : Out β := match x with
  | .ok ρ a => f ρ a
  | .exc c => .exc c
  | .stk => .stk
@[simp] theorem Out.bind_ok {α β : Type} {ρ : En} {a : α} {f : En → α → Out β} : (Out.ok ρ a).bind f = f ρ a := rfl
@[simp] theorem Out.bind_exc {α β : Type} {c : Str} {f : En → α → Out β} : (Out.exc c).bind f = .exc c := rfl
@[simp] theorem Out.bind_stk {α β : Type} {f : En → α → Out β} : (Out.stk).bind f = .stk := rfl

def Sl.has : Sl → Bool
  | .emp => false
  | _ => true
/-- the value v is w, at (G, H, ρ); H0: the heap ahead -/
def WAt (K : PySem.W.Frag) (G H : Hp) (σ : St) (ρ : En) (H0 : Hp) (v : V) : Wv → Prop
  | .val d => Dat K G v d
  | .tmp o => ∃ a, v = .ref a ∧ H0 a = none ∧ G a = none ∧ OAt K G H a o
  | .slot i => σ[i]? = some (some v) ∧ ∃ s, ρ[i]? = some s ∧ s.has = true
/-- the frame alone, for what raises -/
structure StX (T : List (Addr × Str)) (σ : St) (ρ : En) (H H' : Hp) : Prop where
  fr : ∀ a o, H a = some o → (∀ p ∈ T, p.1 ≠ a) → ¬ Own σ ρ a → H' a = some o
  al : ∀ a, H' a = none → H a = none
  tab : LamX.Tabs T H'
/-- a step within an expression: no slot is stored -/
structure EStp (T : List (Addr × Str)) (σ : St) (ρ : En) (G H : Hp) (ρ' : En) (G' H' : Hp) : Prop extends Stp T σ ρ G H σ ρ' G' H' where
  hs : ∀ (i : Nat) (s : Sl), ρ[i]? = some s → s.has = true → ∃ s', ρ'[i]? = some s' ∧ s'.has = true
  on : ∀ (i : Nat) (s' : Sl) (o' : OD), ρ'[i]? = some s' → s'.held = some o' → ∃ s o, ρ[i]? = some s ∧ s.held = some o
section
variable {K : PySem.W.Frag} {T : List (Addr × Str)} {σ σ1 σ2 : St} {ρ ρ1 ρ2 : En} {G G1 G2 H H0 H1 H2 : Hp}
theorem Stp.x (a : Stp T σ ρ G H σ1 ρ1 G1 H1) (t : LamX.Tabs T H1) : StX T σ ρ H H1 := ⟨a.fr, a.al, t⟩
theorem StX.after (a : Stp T σ ρ G H σ1 ρ1 G1 H1) (b : StX T σ1 ρ1 H1 H2) : StX T σ ρ H H2 where
  fr := fun x o h n m => b.fr x o (a.fr x o h n m) n fun z => by
    rcases a.own x z with q | q
    · exact m q
    · rw [h] at q; cases q
  al := fun x h => a.al x (b.al x h)
  tab := b.tab
theorem EStp.refl (R : SR K T G H σ ρ) : EStp T σ ρ G H ρ G H := ⟨Stp.refl R, fun i s h h' => ⟨s, h, h'⟩, fun _ s o h h' => ⟨s, o, h, h'⟩⟩
theorem EStp.onA (e : EStp T σ ρ G H ρ1 G1 H1) {a : Addr} (h : Own σ ρ1 a) : Own σ ρ a := by
  obtain ⟨i, h1, s, o, h2, h3⟩ := h
  exact ⟨i, h1, e.on i s o h2 h3⟩
theorem EStp.trans (R : SR K T G H σ ρ) (a : EStp T σ ρ G H ρ1 G1 H1) (b : EStp T σ ρ1 G1 H1 ρ2 G2 H2) : EStp T σ ρ G H ρ2 G2 H2 :=
  ⟨Stp.trans R a.toStp b.toStp, fun i s h h' => by
    obtain ⟨s1, e1, q1⟩ := a.hs i s h h'
    exact b.hs i s1 e1 q1, fun i s o h h' => by
    obtain ⟨s1, o1, e1, q1⟩ := b.on i s o h h'
    exact a.on i s1 o1 e1 q1⟩
/-- a new object of the frame's own is no table and no owned one -/
theorem OAt.notT {a : Addr} {o : OD} (q : OAt K G H a o) (t : LamX.Tabs T H) : ∀ p ∈ T, p.1 ≠ a := fun p hp e => by
  obtain ⟨u, h1, h2⟩ := q.there
  obtain ⟨ps, h3, _⟩ := t p hp
  rw [e, h1] at h3
  exact h2 ps (Option.some.inj h3)
theorem Own.there (R : SR K T G H σ ρ) {a : Addr} (h : Own σ ρ a) : H a ≠ none := fun e => by
  obtain ⟨_, u, q, _⟩ := R.og h
  rw [e] at q; cases q
/-- a value at hand stays what it is: R0: the state ahead of it -/
theorem WAt.step {ρ0 : En} {G0 : Hp} (R0 : SR K T G0 H0 σ ρ0) (s0 : EStp T σ ρ0 G0 H0 ρ G H) (R : SR K T G H σ ρ) (s : EStp T σ ρ G H ρ1 G1 H1) {v : V} {w : Wv} (h : WAt K G H σ ρ H0 v w) : WAt K G1 H1 σ ρ1 H0 v w := by
  cases w with
  | val d => exact Dat.sub s.gg h
  | tmp o =>
    obtain ⟨a, e, h0, g, q⟩ := h
    obtain ⟨u, hu, _⟩ := q.there
    have n1 := q.notT R.tab
    have n2 : ¬ Own σ ρ a := fun z => Own.there R0 (s0.onA z) h0
    refine ⟨a, e, h0, ?_, q.mov s.gg fun u' e' => s.fr a u' e' n1 n2⟩
    cases z : G1 a with
    | none => rfl
    | some z' =>
      rcases s.gf a g (by rw [z]; simp) with q' | q'
      · rw [q'] at hu; cases hu
      · exact (n2 q').elim
  | slot i =>
    obtain ⟨h1, s', h2, h3⟩ := h
    exact ⟨h1, s.hs i s' h2 h3⟩

/-! ### reading, freezing -/
def Sl.look : Sl → Option D
  | .val d => some d
  | .own o => some o.fz
  | .io o => some o.fz
  | .emp => none
def look (ρ : En) : Wv → Option D
  | .val d => some d
  | .tmp o => some o.fz
  | .slot i => match ρ[i]? with
    | some s => s.look
    | none => none
def RAt (K : PySem.W.Frag) (G H : Hp) (v : V) : D → Prop
  | .lst ds => ∃ a xs, v = .ref a ∧ H a = some (.lst xs) ∧ Dats K G xs ds
  | .dic ks ds => ∃ a kvs, v = .ref a ∧ H a = some (.dK kvs) ∧ kvs.map (·.1) = ks ∧ Dats K G (kvs.map (·.2)) ds
  | .dit ks ds => ∃ a kvs, v = .ref a ∧ H a = some (.dT kvs) ∧ kvs.map (·.1) = ks ∧ Dats K G (kvs.map (·.2)) ds
  | d => Dat K G v d
theorem RAt.dat (g : Sub G H) {v : V} {d : D} (h : Dat K G v d) : RAt K G H v d := by
  cases h with
  | lst e r => exact ⟨_, _, rfl, g _ _ e, r⟩
  | dic e r => exact ⟨_, _, rfl, g _ _ e, rfl, r⟩
  | dit e r => exact ⟨_, _, rfl, g _ _ e, rfl, r⟩
  | non => exact .non
  | bl b => exact .bl b
  | int i => exact .int i
  | str x => exact .str x
  | tup e r => exact .tup e r
  | scr e r => exact .scr e r
  | opq v => exact .opq v
theorem OAt.rat {a : Addr} {o : OD} (q : OAt K G H a o) : RAt K G H (.ref a) o.fz := by
  cases o with
  | lst ds => obtain ⟨xs, e, r⟩ := q; exact ⟨_, _, rfl, e, r⟩
  | dK ks ds => obtain ⟨xs, e, z, r⟩ := q; exact ⟨_, _, rfl, e, z, r⟩
  | dT ks ds => obtain ⟨xs, e, z, r⟩ := q; exact ⟨_, _, rfl, e, z, r⟩
theorem look_at (R : SR K T G H σ ρ) {v : V} {w : Wv} {d : D} (h : WAt K G H σ ρ H0 v w) (e : look ρ w = some d) : RAt K G H v d := by
  cases w with
  | val d' => cases e; exact RAt.dat R.gh h
  | tmp o =>
    cases e
    obtain ⟨a, rfl, _, _, q⟩ := h
    exact q.rat
  | slot i =>
    obtain ⟨h1, s, h2, h3⟩ := h
    have e : (match ρ[i]? with | some s => s.look | none => none) = some d := e
    rw [h2] at e
    obtain ⟨x, h4, h5⟩ := R.at_ i s h2
    rw [h1] at h4
    cases h4
    cases s with
    | val d' =>
      cases (show some d' = some d from e)
      obtain ⟨v', e1, q⟩ := h5
      cases e1
      exact RAt.dat R.gh q
    | own o =>
      cases (show some o.fz = some d from e)
      obtain ⟨a, e1, _, q⟩ := h5
      cases e1
      exact q.rat
    | io o =>
      cases (show some o.fz = some d from e)
      obtain ⟨a, e1, _, q⟩ := h5
      cases e1
      exact q.rat
    | emp => cases h3
def frz (ρ : En) : Wv → Option (En × D)
  | .val d => some (ρ, d)
  | .tmp o => some (ρ, o.fz)
  | .slot i => match ρ[i]? with
    | some (.val d) => some (ρ, d)
    | some (.own o) => some (ρ.set i (.val o.fz), o.fz)
    | _ => none
/-- what is needed to freeze the object at a -/
def fzG (G H : Hp) (a : Addr) : Hp := fun b => if b = a then H a else G b
theorem fzG_sub {a : Addr} (n : G a = none) : Sub G (fzG G H a) := fun b o e => by
  unfold fzG
  by_cases h : b = a
  · rw [h, n] at e; cases e
  · rw [if_neg h]; exact e
theorem fzG_at {a : Addr} : fzG G H a a = H a := if_pos rfl
theorem OAt.fz {a : Addr} {o : OD} (n : G a = none) (q : OAt K G H a o) : Dat K (fzG G H a) (.ref a) o.fz := by
  cases o with
  | lst ds => obtain ⟨xs, e, r⟩ := q; exact .lst (fzG_at.trans e) (r.sub (fzG_sub n))
  | dK ks ds => obtain ⟨xs, e, z, r⟩ := q; subst z; exact .dic (fzG_at.trans e) (r.sub (fzG_sub n))
  | dT ks ds => obtain ⟨xs, e, z, r⟩ := q; subst z; exact .dit (fzG_at.trans e) (r.sub (fzG_sub n))
theorem SlAt.mov {x : Option V} {s : Sl} (h : SlAt K G H x s) (g : Sub G G1) (k : ∀ a, x = some (.ref a) → s.held.isSome = true → G1 a = none ∧ ∀ u, H a = some u → H1 a = some u) : SlAt K G1 H1 x s := by
  cases s with
  | val d => obtain ⟨v, e, q⟩ := h; exact ⟨v, e, q.sub g⟩
  | own o => obtain ⟨a, e, n, q⟩ := h; obtain ⟨k1, k2⟩ := k a e rfl; exact ⟨a, e, k1, q.mov g k2⟩
  | io o => obtain ⟨a, e, n, q⟩ := h; obtain ⟨k1, k2⟩ := k a e rfl; exact ⟨a, e, k1, q.mov g k2⟩
  | emp => trivial
/-- new cells alone -/
structure Gx (G H G' H' : Hp) : Prop where
  gg : Sub G G'
  hh : Sub H H'
  gh : Sub G' H'
  gf : ∀ a, G a = none → G' a ≠ none → H a = none
theorem Gx.refl (g : Sub G H) : Gx G H G H := ⟨Sub.refl G, Sub.refl H, g, fun a h h' => (h' h).elim⟩
theorem Gx.trans (a : Gx G H G1 H1) (b : Gx G1 H1 G2 H2) : Gx G H G2 H2 where
  gg := a.gg.trans b.gg
  hh := a.hh.trans b.hh
  gh := b.gh
  gf := fun x h h' => by
    cases e : G1 x with
    | some o => exact a.gf x h (by rw [e]; simp)
    | none =>
      have z := b.gf x e h'
      cases q : H x with
      | none => rfl
      | some u => rw [a.hh x u q] at z; cases z
theorem Gx.sr (x : Gx G H G1 H1) (R : SR K T G H σ ρ) : SR K T G1 H1 σ ρ where
  len := R.len
  at_ := fun i s h => by
    obtain ⟨y, h1, h2⟩ := R.at_ i s h
    refine ⟨y, h1, h2.mov x.gg fun a e hs => ⟨?_, fun u e => x.hh _ _ e⟩⟩
    have ho : Own σ ρ a := by
      cases z : s.held with
      | none => rw [z] at hs; cases hs
      | some o => exact ⟨i, by rw [h1, e], s, o, h, z⟩
    obtain ⟨g, u, hu, _⟩ := R.og ho
    cases z : G1 a with
    | none => rfl
    | some z' =>
      have q := x.gf a g (by rw [z]; simp)
      rw [q] at hu; cases hu
  ap := R.ap
  gh := x.gh
  tab := R.tab.ext x.hh
  gt := fun p hp => by
    cases z : G1 p.1 with
    | none => rfl
    | some z' =>
      have q := x.gf p.1 (R.gt p hp) (by rw [z]; simp)
      obtain ⟨ps, h3, _⟩ := R.tab p hp
      rw [q] at h3; cases h3
theorem Gx.stp (x : Gx G H G1 H1) (R : SR K T G H σ ρ) : EStp T σ ρ G H ρ G1 H1 where
  gg := x.gg
  gf := fun a h h' => .inl (x.gf a h h')
  fr := fun a o e _ _ => x.hh a o e
  al := fun a h => by
    cases e : H a with
    | none => rfl
    | some u => rw [x.hh a u e] at h; cases h
  own := fun a h => .inl h
  io := fun i o h => ⟨⟨o, h⟩, rfl⟩
  iog := fun i o a h h' => by
    obtain ⟨g, u, hu, _⟩ := R.og (a := a) ⟨i, h', _, _, h, rfl⟩
    cases z : G1 a with
    | none => rfl
    | some z' =>
      have q := x.gf a g (by rw [z]; simp)
      rw [q] at hu; cases hu
  hs := fun i s h h' => ⟨s, h, h'⟩
  on := fun i s o h h' => ⟨s, o, h, h'⟩
end
end DL
namespace DL
open PySem PySem.Spec
open PyProof.Rows hiding St
open L2
section
variable {K : PySem.W.Frag} {T : List (Addr × Str)} {σ σ1 σ2 : St} {ρ ρ0 ρ1 ρ2 : En} {G G0 G1 G2 H H0 H1 H2 : Hp}
theorem fzG_ne {a b : Addr} (h : b ≠ a) : fzG G H a b = G b := if_neg h
theorem frz_at (R0 : SR K T G0 H0 σ ρ0) (s0 : EStp T σ ρ0 G0 H0 ρ G H) (R : SR K T G H σ ρ) {v : V} {w : Wv} {d : D} (h : WAt K G H σ ρ H0 v w) (e : frz ρ w = some (ρ1, d)) :
    ∃ G', SR K T G' H σ ρ1 ∧ EStp T σ ρ0 G0 H0 ρ1 G' H ∧ Dat K G' v d := by
  cases w with
  | val d' =>
    cases (show some (ρ, d') = some (ρ1, d) from e)
    exact ⟨G, R, s0, h⟩
  | tmp o =>
    cases (show some (ρ, o.fz) = some (ρ1, d) from e)
    obtain ⟨a, rfl, h0, g, q⟩ := h
    have n2 : ¬ Own σ ρ a := fun z => Own.there R0 (s0.onA z) h0
    have nT := q.notT R.tab
    have sb : Sub G (fzG G H a) := fzG_sub g
    refine ⟨fzG G H a, ⟨R.len, fun i s hi => ?_, R.ap, fun b o' e' => ?_, R.tab, fun p hp => ?_⟩, ⟨⟨s0.gg.trans sb, fun b hb hb' => ?_, s0.fr, s0.al, s0.own, s0.io, fun i o' b hi hσ => ?_⟩, s0.hs, s0.on⟩, q.fz g⟩
    · obtain ⟨x, h1, h2⟩ := R.at_ i s hi
      refine ⟨x, h1, h2.mov sb fun b e hs => ⟨?_, fun u e => e⟩⟩
      have ho : Own σ ρ b := by
        cases z : s.held with
        | none => rw [z] at hs; cases hs
        | some o' => exact ⟨i, by rw [h1, e], s, o', hi, z⟩
      have nb : b ≠ a := fun z => n2 (z ▸ ho)
      rw [fzG_ne nb]
      exact (R.og ho).1
    · by_cases hb : b = a
      · rw [hb] at e' ⊢; rw [fzG_at] at e'; exact e'
      · rw [fzG_ne hb] at e'; exact R.gh b o' e'
    · rw [fzG_ne (nT p hp)]; exact R.gt p hp
    · by_cases hba : b = a
      · rw [hba]; exact .inl h0
      · rw [fzG_ne hba] at hb'; exact s0.gf b hb hb'
    · have nb : b ≠ a := fun z => by
        obtain ⟨o1, h1⟩ := (s0.io i o' hi).1
        exact n2 ⟨i, by rw [hσ, z], _, _, h1, rfl⟩
      rw [fzG_ne nb]
      exact s0.iog i o' b hi hσ
  | slot i =>
    obtain ⟨hv, s', hs1, hs2⟩ := h
    have e : (match ρ[i]? with | some (.val d) => some (ρ, d) | some (.own o) => some (ρ.set i (.val o.fz), o.fz) | _ => none) = some (ρ1, d) := e
    rw [hs1] at e
    cases s' with
    | val d' =>
      cases (show some (ρ, d') = some (ρ1, d) from e)
      obtain ⟨x, h1, h2⟩ := R.at_ i _ hs1
      obtain ⟨v', ev, q⟩ := h2
      rw [hv, ev] at h1
      cases h1
      exact ⟨G, R, s0, q⟩
    | io o => cases (show none = some (ρ1, d) from e)
    | emp => cases hs2
    | own o =>
      cases (show some (ρ.set i (.val o.fz), o.fz) = some (ρ1, d) from e)
      obtain ⟨x, h1, h2⟩ := R.at_ i _ hs1
      obtain ⟨a, ev, g, q⟩ := h2
      rw [hv, ev] at h1
      cases h1
      have oi : OwnI σ ρ i a := ⟨hv, _, _, hs1, rfl⟩
      have nT := q.notT R.tab
      have sb : Sub G (fzG G H a) := fzG_sub g
      have il : i < ρ.length := (List.getElem?_eq_some_iff.mp hs1).1
      have back : ∀ j b, OwnI σ (ρ.set i (.val o.fz)) j b → j ≠ i ∧ OwnI σ ρ j b := fun j b ⟨c1, s2, o2, c2, c3⟩ => by
        by_cases hj : j = i
        · rw [hj, List.getElem?_set_self il] at c2
          cases c2; cases c3
        · rw [List.getElem?_set_ne (Ne.symm hj)] at c2
          exact ⟨hj, c1, s2, o2, c2, c3⟩
      have nea : ∀ j b, j ≠ i → OwnI σ ρ j b → b ≠ a := fun j b hj c z => hj (R.ap j i a (z ▸ c) oi)
      refine ⟨fzG G H a, ⟨by rw [List.length_set]; exact R.len, fun j s hj => ?_, fun j k b c1 c2 => R.ap j k b (back j b c1).2 (back k b c2).2, fun b o' e' => ?_, R.tab, fun p hp => ?_⟩,
        ⟨⟨s0.gg.trans sb, fun b hb hb' => ?_, s0.fr, s0.al, fun b hb => ?_, fun j o' hj => ?_, fun j o' b hj hσ => ?_⟩, fun j s hj hj' => ?_, fun j s o' hj hj' => ?_⟩, q.fz g⟩
      · by_cases hji : j = i
        · rw [hji, List.getElem?_set_self il] at hj
          cases hj
          rw [hji]
          exact ⟨_, hv, _, rfl, q.fz g⟩
        · rw [List.getElem?_set_ne (Ne.symm hji)] at hj
          obtain ⟨y, c1, c2⟩ := R.at_ j s hj
          refine ⟨y, c1, c2.mov sb fun b e hs => ⟨?_, fun u e => e⟩⟩
          have ho : OwnI σ ρ j b := by
            cases z : s.held with
            | none => rw [z] at hs; cases hs
            | some o' => exact ⟨by rw [c1, e], s, o', hj, z⟩
          rw [fzG_ne (nea j b hji ho)]
          exact (R.og ⟨j, ho⟩).1
      · by_cases hb : b = a
        · rw [hb] at e' ⊢; rw [fzG_at] at e'; exact e'
        · rw [fzG_ne hb] at e'; exact R.gh b o' e'
      · rw [fzG_ne (nT p hp)]; exact R.gt p hp
      · by_cases hba : b = a
        · rw [hba]; exact .inr (s0.onA ⟨i, oi⟩)
        · rw [fzG_ne hba] at hb'; exact s0.gf b hb hb'
      · obtain ⟨j, c⟩ := hb
        exact s0.own b ⟨j, (back j b c).2⟩
      · obtain ⟨⟨o1, c1⟩, c2⟩ := s0.io j o' hj
        have hji : j ≠ i := fun z => by rw [z, hs1] at c1; cases c1
        exact ⟨⟨o1, by rw [List.getElem?_set_ne (Ne.symm hji)]; exact c1⟩, c2⟩
      · obtain ⟨⟨o1, c1⟩, c2⟩ := s0.io j o' hj
        have hji : j ≠ i := fun z => by rw [z, hs1] at c1; cases c1
        have nb : b ≠ a := nea j b hji ⟨hσ, _, _, c1, rfl⟩
        rw [fzG_ne nb]
        exact s0.iog j o' b hj hσ
      · obtain ⟨s1, c1, c2⟩ := s0.hs j s hj hj'
        by_cases hji : j = i
        · exact ⟨_, by rw [hji, List.getElem?_set_self il], rfl⟩
        · exact ⟨s1, by rw [List.getElem?_set_ne (Ne.symm hji)]; exact c1, c2⟩
      · by_cases hji : j = i
        · rw [hji, List.getElem?_set_self il] at hj
          cases hj; cases hj'
        · rw [List.getElem?_set_ne (Ne.symm hji)] at hj
          exact s0.on j s o' hj hj'

/-! ### readings -/
abbrev Rel (α β : Type) : Type := Hp → Hp → St → En → Hp → β → α → Prop
variable (K T) in
def tRX {α β : Type} (rel : Rel α β) (mg : Str → Option Value) (W : WX) (σ : St) (ρ : En) (G H : Hp) (r : Out α) (Q : β → Hp → Prop) : Prop := match r with
  | .ok ρ' w => ∀ v G' H', SR K T G' H' σ ρ' → EStp T σ ρ G H ρ' G' H' → rel G' H' σ ρ' H v w → Q v H'
  | .exc c => ∀ C H', mg c = some (.ref C) → StX T σ ρ H H' → W (.ref C) none σ H'
  | .stk => False
variable (K T) in
def tDX {α β : Type} (rel : Rel α β) (mg : Str → Option Value) (W : WX) (f : Ev α) : St → Hp → (β → Hp → Prop) → Prop := fun σ H Q => ∃ G ρ, SR K T G H σ ρ ∧ tRX K T rel mg W σ ρ G H (f ρ) Q
/-- what is told of the heap ahead may be told of an earlier one -/
class Early {α β : Type} (rel : Rel α β) : Prop where
  up : ∀ {G' H' σ ρ' H H1 v w}, (∀ x, H1 x = none → H x = none) → rel G' H' σ ρ' H1 v w → rel G' H' σ ρ' H v w
def wRel (K : PySem.W.Frag) : Rel Wv V := fun G H σ ρ H0 v w => WAt K G H σ ρ H0 v w
def dRel (K : PySem.W.Frag) : Rel D V := fun G H σ ρ H0 v d => Dat K G v d
def bRel : Rel Bool Bool := fun G H σ ρ H0 v d => v = d
instance : Early (wRel K) where
  up := fun {G' H' σ ρ' H H1 v w} a c => by
    cases w with
    | val d => exact c
    | tmp o => obtain ⟨x, e, h0, q⟩ := c; exact ⟨x, e, a x h0, q⟩
    | slot i => exact c
instance : Early (dRel K) where
  up := fun _ c => c
instance : Early bRel where
  up := fun _ c => c
variable {mg : Str → Option Value} {W : WX}
section
variable {α β γ δ : Type} {rel : Rel α β} {rel' : Rel γ δ}
theorem tRX.mono {r : Out α} {Q Q' : β → Hp → Prop} (h : tRX K T rel mg W σ ρ G H r Q) (m : ∀ v H', Q v H' → Q' v H') : tRX K T rel mg W σ ρ G H r Q' := by
  cases r with
  | ok ρ' w => exact fun v G' H' a b c => m _ _ (h v G' H' a b c)
  | exc c => exact h
  | stk => exact h
theorem tRX.later [Early rel] {r : Out α} {Q : β → Hp → Prop} (R : SR K T G H σ ρ) (s : EStp T σ ρ G H ρ1 G1 H1) (h : tRX K T rel mg W σ ρ G H r Q) : tRX K T rel mg W σ ρ1 G1 H1 r Q := by
  cases r with
  | ok ρ' w => exact fun v G' H' a b c => h v G' H' a (s.trans R b) (Early.up s.al c)
  | exc c => exact fun C H' e x => h C H' e (StX.after s.toStp x)
  | stk => exact h
/-- a bind: the first part's reading -/
theorem tRX.bind [Early rel'] {f : Ev α} {k : En → α → Out γ} {Q : δ → Hp → Prop} (R : SR K T G H σ ρ) (h : tRX K T rel' mg W σ ρ G H ((f ρ).bind k) Q) :
    tDX K T rel mg W f σ H fun v H1 => ∃ G1 ρ1 w, SR K T G1 H1 σ ρ1 ∧ EStp T σ ρ G H ρ1 G1 H1 ∧ rel G1 H1 σ ρ1 H v w ∧ tRX K T rel' mg W σ ρ1 G1 H1 (k ρ1 w) Q := by
  refine ⟨G, ρ, R, ?_⟩
  cases e : f ρ with
  | ok ρ' w =>
    rw [e] at h
    exact fun v G' H' a b c => ⟨G', ρ', w, a, b, c, tRX.later R b h⟩
  | exc c => rw [e] at h; exact h
  | stk => rw [e] at h; exact h
/-- the same, told from the start -/
theorem tRX.bind0 {f : Ev α} {k : En → α → Out γ} {Q : δ → Hp → Prop} (R : SR K T G H σ ρ) (h : tRX K T rel' mg W σ ρ G H ((f ρ).bind k) Q) :
    tDX K T rel mg W f σ H fun v H1 => ∃ G1 ρ1 w, SR K T G1 H1 σ ρ1 ∧ EStp T σ ρ G H ρ1 G1 H1 ∧ rel G1 H1 σ ρ1 H v w ∧ tRX K T rel' mg W σ ρ G H (k ρ1 w) Q := by
  refine ⟨G, ρ, R, ?_⟩
  cases e : f ρ with
  | ok ρ' w =>
    rw [e] at h
    exact fun v G' H' a b c => ⟨G', ρ', w, a, b, c, h⟩
  | exc c => rw [e] at h; exact h
  | stk => rw [e] at h; exact h
theorem tDX.mono {f : Ev α} {Q Q' : β → Hp → Prop} (h : tDX K T rel mg W f σ H Q) (m : ∀ v H', Q v H' → Q' v H') : tDX K T rel mg W f σ H Q' := by
  obtain ⟨G, ρ, R, h⟩ := h
  exact ⟨G, ρ, R, h.mono m⟩
end
abbrev tR (K : PySem.W.Frag) (T : List (Addr × Str)) (mg : Str → Option Value) (W : WX) (σ : St) (ρ : En) (G H : Hp) (r : Out Wv) (Q : VK) : Prop := tRX K T (wRel K) mg W σ ρ G H r Q
abbrev tDE (K : PySem.W.Frag) (T : List (Addr × Str)) (mg : Str → Option Value) (W : WX) (f : Ev Wv) : TE := tDX K T (wRel K) mg W f
theorem tDE.mono {f : Ev Wv} {Q Q' : VK} (h : tDE K T mg W f σ H Q) (m : ∀ v H', Q v H' → Q' v H') : tDE K T mg W f σ H Q' := tDX.mono h m
theorem tR.bind {f : Ev Wv} {k : En → Wv → Out Wv} {Q : VK} (R : SR K T G H σ ρ) (h : tR K T mg W σ ρ G H ((f ρ).bind k) Q) :
    tDE K T mg W f σ H fun v H1 => ∃ G1 ρ1 w, SR K T G1 H1 σ ρ1 ∧ EStp T σ ρ G H ρ1 G1 H1 ∧ WAt K G1 H1 σ ρ1 H v w ∧ tR K T mg W σ ρ1 G1 H1 (k ρ1 w) Q := tRX.bind R h
end
/-- the expression e is f -/
abbrev DE (X : Cx) (T : List (Addr × Str)) (W : WX) (e : Expr) (f : Ev Wv) : Prop := PE X e (tDE X.K T X.mg W f)
theorem PE.mono {X : Cx} {e : Expr} {t t' : TE} (h : PE X e t) (m : ∀ σ H Q, t' σ H Q → t σ H Q) : PE X e t' := ⟨fun pins s σ H Q I q => h.run pins s σ H Q I (m σ H Q q)⟩
theorem PT.mono {X : Cx} {e : Expr} {t t' : TT} (h : PT X e t) (m : ∀ σ H Q, t' σ H Q → t σ H Q) : PT X e t' := ⟨fun pins s σ H Q I q => h.run pins s σ H Q I (m σ H Q q)⟩
theorem PA.mono {X : Cx} {e : List Expr} {t t' : TA} (h : PA X e t) (m : ∀ σ H Q, t' σ H Q → t σ H Q) : PA X e t' := ⟨fun pos pins s σ H Q I q => h.run pos pins s σ H Q I (m σ H Q q)⟩
theorem PS.mono {X : Cx} {e : Stmt} {t t' : TS} (h : PS X e t) (m : ∀ D σ H, t' D σ H → t D σ H) : PS X e t' := ⟨fun pins s σ H D I q => h.run pins s σ H D I (m D σ H q)⟩
theorem PSs.mono {X : Cx} {e : List Stmt} {t t' : TS} (h : PSs X e t) (m : ∀ D σ H, t' D σ H → t D σ H) : PSs X e t' := ⟨fun pins s σ H D I q => h.run pins s σ H D I (m D σ H q)⟩
section
variable {X : Cx} {T : List (Addr × Str)} {W : WX} {pos : Pos}
/-! ### constants, names -/
def fC (d : D) : Ev Wv := fun ρ => .ok ρ (.val d)
theorem fin_val {K : PySem.W.Frag} {mg : Str → Option Value} {σ : St} {ρ : En} {G H : Hp} {v : V} {d : D} {Q : VK} (R : SR K T G H σ ρ) (h : tR K T mg W σ ρ G H (.ok ρ (.val d)) Q) (q : Dat K G v d) : Q v H := h v G H R (EStp.refl R) q
theorem de_int {i : Int} {j : Nat} : DE X T W (.Constant (.int i) j pos) (fC (.int i)) := PE.mono pe_int fun σ H Q ⟨G, ρ, R, h⟩ => fin_val R h (.int i)
theorem de_bl {b : Bool} {j : Nat} : DE X T W (.Constant (.bool b) j pos) (fC (.bl b)) := PE.mono pe_bl fun σ H Q ⟨G, ρ, R, h⟩ => fin_val R h (.bl b)
theorem de_non {j : Nat} : DE X T W (.Constant .none j pos) (fC .non) := PE.mono pe_non fun σ H Q ⟨G, ρ, R, h⟩ => fin_val R h .non
theorem de_str {x : Str} {j : Nat} : DE X T W (.Constant (.str x) j pos) (fC (.str x)) := PE.mono pe_str fun σ H Q ⟨G, ρ, R, h⟩ => fin_val R h (.str x)
/-- a module's constant -/
theorem de_glob {x : Str} {v : V} {u : Value} {d : D} (hg : Gl X x) (hm : X.mg x = some u) (r : RelV v u) (hd : ∀ G, Dat X.K G v d) (hdb : (x == ("__debug__" : Str)) = false := by decide) : DE X T W (.Name x pos) (fC d) :=
  PE.mono (pe_glob hg hm r hdb) fun σ H Q ⟨G, ρ, R, h⟩ => fin_val R h (hd G)
def fV (i : Nat) : Ev Wv := fun ρ => match ρ[i]? with
  | some (.val d) => .ok ρ (.val d)
  | some (.own _) => .ok ρ (.slot i)
  | some (.io _) => .ok ρ (.slot i)
  | _ => .stk
theorem de_v (i : Nat) {x : Str} (hN : X.N[i]? = some x := by rfl) (hv : Vis X.env.scope x := by first | exact Or.inl rfl | exact Or.inr (Or.inl rfl) | exact Or.inr (Or.inr rfl)) (hd : (x == ("__debug__" : Str)) = false := by decide)
    (hcd : (x == ("__classdict__" : Str)) = false := by decide) : DE X T W (.Name x pos) (fV i) := by
  refine PE.mono (pe_var hN hv hd hcd) fun σ H Q ⟨G, ρ, R, h⟩ => ?_
  unfold fV at h
  cases e : ρ[i]? with
  | none => rw [e] at h; exact h.elim
  | some s =>
    rw [e] at h
    obtain ⟨y, h1, h2⟩ := R.at_ i s e
    cases s with
    | val d =>
      obtain ⟨v, ev, q⟩ := h2
      exact ⟨v, by rw [h1, ev], fin_val R h q⟩
    | own o =>
      obtain ⟨a, ev, q⟩ := h2
      exact ⟨.ref a, by rw [h1, ev], h _ G H R (EStp.refl R) ⟨by rw [h1, ev], _, e, rfl⟩⟩
    | io o =>
      obtain ⟨a, ev, q⟩ := h2
      exact ⟨.ref a, by rw [h1, ev], h _ G H R (EStp.refl R) ⟨by rw [h1, ev], _, e, rfl⟩⟩
    | emp => exact h.elim

/-! ### operators: by data -/
/-- a new value at (G', H'), H ahead of it -/
def NAt (K : PySem.W.Frag) (G' H' H : Hp) (v : V) : Wv → Prop
  | .val d => Dat K G' v d
  | .tmp o => ∃ a, v = .ref a ∧ H a = none ∧ G' a = none ∧ OAt K G' H' a o
  | .slot _ => False
def opR (K : PySem.W.Frag) (G H : Hp) (r : Option Wv) (Q : VK) : Prop := match r with
  | some w => ∀ v G' H', Gx G H G' H' → NAt K G' H' H v w → Q v H'
  | none => False
theorem opR.val {K : PySem.W.Frag} {G H : Hp} {d : D} {Q : VK} {v : V} (g : Sub G H) (h : opR K G H (some (.val d)) Q) (q : Dat K G v d) : Q v H := h v G H (Gx.refl g) q
/-- a new object is laid at a -/
theorem Gx.laid {G H : Hp} {a : Addr} {o : HO} (g : Sub G H) (n : H a = none) : Gx G H G (upd H a o) where
  gg := Sub.refl G
  hh := fun b u e => by rw [upd_ne (ne_of_none e n)]; exact e
  gh := fun b u e => by rw [upd_ne (ne_of_none (g b u e) n)]; exact g b u e
  gf := fun b h h' => (h' h).elim
theorem Gx.laidF {G H : Hp} {a : Addr} {o : HO} (g : Sub G H) (n : H a = none) : Gx G H (upd G a o) (upd H a o) where
  gg := fun b u e => by rw [upd_ne (ne_of_none (g b u e) n)]; exact e
  hh := fun b u e => by rw [upd_ne (ne_of_none e n)]; exact e
  gh := fun b u e => by
    by_cases hb : b = a
    · rw [hb, upd_same] at e ⊢; exact e
    · rw [upd_ne hb] at e ⊢; exact g b u e
  gf := fun b h h' => by
    by_cases hb : b = a
    · rw [hb]; exact n
    · rw [upd_ne hb] at h'; exact (h' h).elim
theorem g_none {G H : Hp} {a : Addr} (g : Sub G H) (n : H a = none) : G a = none := by
  cases e : G a with
  | none => rfl
  | some u => rw [g a u e] at n; cases n
/-- a new list is laid -/
theorem opR.newL {K : PySem.W.Frag} {G H : Hp} {ds : List D} {xs : List V} {Q : VK} (g : Sub G H) (h : opR K G H (some (.tmp (.lst ds))) Q) (q : Dats K G xs ds) {a : Addr} (n : H a = none) : Q (.ref a) (upd H a (.lst xs)) :=
  h _ G _ (Gx.laid g n) ⟨a, rfl, n, g_none g n, xs, upd_same, q⟩
theorem opR.newT {K : PySem.W.Frag} {G H : Hp} {ds : List D} {xs : List V} {Q : VK} (g : Sub G H) (h : opR K G H (some (.val (.tup ds))) Q) (q : Dats K G xs ds) {a : Addr} (n : H a = none) : Q (.ref a) (upd H a (.tup xs)) :=
  h _ _ _ (Gx.laidF (o := .tup xs) g n) (.tup (.inl (.inl upd_same)) (q.sub (Gx.laidF g n).gg))
/-- the operator's reading r does g -/
def OpD (X : Cx) (r : R2) (g : D → D → Option Wv) : Prop := ∀ (G H : Hp) (x y : V) (d e : D) (Q : VK), Sub G H → RAt X.K G H x d → RAt X.K G H y e → opR X.K G H (g d e) Q → r x y H Q
def OpD1 (X : Cx) (r : V → Hp → VK → Prop) (g : D → Option Wv) : Prop := ∀ (G H : Hp) (x : V) (d : D) (Q : VK), Sub G H → RAt X.K G H x d → opR X.K G H (g d) Q → r x H Q
def oW (ρ : En) : Option Wv → Out Wv
  | some w => .ok ρ w
  | none => .stk
def fOp (g : D → D → Option Wv) (fa fb : Ev Wv) : Ev Wv := fun ρ => (fa ρ).bind fun ρ1 w1 => (fb ρ1).bind fun ρ2 w2 => match look ρ2 w1, look ρ2 w2 with
  | some d, some e => oW ρ2 (g d e)
  | _, _ => .stk
def fUn (g : D → Option Wv) (fa : Ev Wv) : Ev Wv := fun ρ => (fa ρ).bind fun ρ1 w1 => match look ρ1 w1 with
  | some d => oW ρ1 (g d)
  | none => .stk
section
variable {σ : St} {ρ : En} {G H : Hp} {mg : Str → Option Value} {K : PySem.W.Frag}
/-- the end of an operator -/
theorem opR_of {r : Option Wv} {Q : VK} (R : SR K T G H σ ρ) (h : tR K T mg W σ ρ G H (oW ρ r) Q) : opR K G H r Q := by
  cases r with
  | none => exact h
  | some w =>
    intro v G' H' x n
    refine h v G' H' (x.sr R) (x.stp R) ?_
    cases w with
    | val d => exact n
    | tmp o => exact n
    | slot i => exact n.elim
end
variable {a b : Expr} {fa fb : Ev Wv}
/-- two operands, read at the end of both -/
theorem two_ops {X : Cx} {g : D → D → Option Wv} {fa fb : Ev Wv} {r : R2} (o : OpD X r g) {σ : St} {H : Hp} {Q : VK} (h : tDE X.K T X.mg W (fOp g fa fb) σ H Q) :
    tDE X.K T X.mg W fa σ H fun x H1 => tDE X.K T X.mg W fb σ H1 fun y H2 => r x y H2 Q := by
  obtain ⟨G, ρ, R, h⟩ := h
  refine tDE.mono (tR.bind R h) fun x H1 ⟨G1, ρ1, w1, R1, s1, a1, h1⟩ => ?_
  refine tDE.mono (tR.bind R1 h1) fun y H2 ⟨G2, ρ2, w2, R2, s2, a2, h2⟩ => ?_
  have b1 := WAt.step R s1 R1 s2 a1
  try dsimp only at h2
  cases e1 : look ρ2 w1 with
  | none => rw [e1] at h2; exact h2.elim
  | some d =>
    cases e2 : look ρ2 w2 with
    | none => rw [e1, e2] at h2; exact h2.elim
    | some e =>
      rw [e1, e2] at h2
      exact o G2 H2 x y d e Q R2.gh (look_at R2 b1 e1) (look_at R2 a2 e2) (opR_of R2 h2)
theorem one_op {X : Cx} {g : D → Option Wv} {fa : Ev Wv} {r : V → Hp → VK → Prop} (o : OpD1 X r g) {σ : St} {H : Hp} {Q : VK} (h : tDE X.K T X.mg W (fUn g fa) σ H Q) : tDE X.K T X.mg W fa σ H fun x H1 => r x H1 Q := by
  obtain ⟨G, ρ, R, h⟩ := h
  refine tDE.mono (tR.bind R h) fun x H1 ⟨G1, ρ1, w1, R1, s1, a1, h1⟩ => ?_
  try dsimp only at h1
  cases e1 : look ρ1 w1 with
  | none => rw [e1] at h1; exact h1.elim
  | some d =>
    rw [e1] at h1
    exact o G1 H1 x d Q R1.gh (look_at R1 a1 e1) (opR_of R1 h1)
theorem de_op {op : Operator} {r : R2} {g : D → D → Option Wv} (ho : OpR X (binaryOp op) r) (o : OpD X r g) (ha : DE X T W a fa) (hb : DE X T W b fb) : DE X T W (.BinOp a op b pos) (fOp g fa fb) :=
  PE.mono (pe_op ho ha hb) fun σ H Q h => two_ops o h
theorem de_un {op : UnaryOp} {r : V → Hp → VK → Prop} {g : D → Option Wv} (ho : UnR X (unaryOp op) r) (o : OpD1 X r g) (ha : DE X T W a fa) : DE X T W (.UnaryOp op a pos) (fUn g fa) :=
  PE.mono (pe_un ho ha) fun σ H Q h => one_op o h
theorem de_cmp {op : CmpOp} {r : R2} {g : D → D → Option Wv} (ho : OpR X (compareOp op) r) (o : OpD X r g) (ha : DE X T W a fa) (hb : DE X T W b fb) (hm : behindInMarks op b = false) : DE X T W (.Compare a [op] [b] pos) (fOp g fa fb) :=
  PE.mono (pe_cmpR ho ha hb hm) fun σ H Q h => two_ops o h
theorem de_ix {r : R2} {g : D → D → Option Wv} (ho : IxR X r) (o : OpD X r g) (ha : DE X T W a fa) (hb : DE X T W b fb) (hs : PlainIx b) : DE X T W (.Subscript a b pos) (fOp g fa fb) :=
  PE.mono (pe_ix ho ha hb hs) fun σ H Q h => two_ops o h
end
end DL
namespace DL
open PySem PySem.Spec
open PyProof.Rows hiding St
open L2
section
variable {X : Cx} {T : List (Addr × Str)} {W : WX} {pos : Pos} {a b c : Expr} {es : List Expr} {fa fb fc : Ev Wv}
/-! ### frozen values -/
abbrev DF (X : Cx) (T : List (Addr × Str)) (W : WX) (e : Expr) (f : Ev D) : Prop := PE X e (tDX X.K T (dRel X.K) X.mg W f)
def fzO (ρ : En) (w : Wv) : Out D := match frz ρ w with
  | some (ρ', d) => .ok ρ' d
  | none => .stk
def fFz (fa : Ev Wv) : Ev D := fun ρ => (fa ρ).bind fzO
theorem fz_read {σ : St} {H : Hp} {Q : VK} (h : tDX X.K T (dRel X.K) X.mg W (fFz fa) σ H Q) : tDE X.K T X.mg W fa σ H Q := by
  obtain ⟨G, ρ, R, h⟩ := h
  refine tDX.mono (tRX.bind0 (rel := wRel X.K) (rel' := dRel X.K) R h) fun v H1 ⟨G1, ρ1, w, R1, s1, a1, h1⟩ => ?_
  unfold fzO at h1
  cases e : frz ρ1 w with
  | none => rw [e] at h1; exact h1.elim
  | some p =>
    obtain ⟨ρ2, d⟩ := p
    rw [e] at h1
    obtain ⟨G2, R2, s2, q2⟩ := frz_at R s1 R1 a1 e
    exact h1 v G2 H1 R2 s2 q2
theorem df_of (h : DE X T W a fa) : DF X T W a (fFz fa) := PE.mono h fun σ H Q => fz_read
/-- a frozen value is a value -/
def fVal (f : Ev D) : Ev Wv := fun ρ => (f ρ).bind fun ρ d => .ok ρ (.val d)

/-! ### lists of frozen values -/
def dsRel (K : PySem.W.Frag) : Rel (List D) (List V) := fun G H σ ρ H0 vs ds => Dats K G vs ds
instance : Early (dsRel X.K) where
  up := fun _ c => c
abbrev DA (X : Cx) (T : List (Addr × Str)) (W : WX) (es : List Expr) (f : Ev (List D)) : Prop := PA X es (tDX X.K T (dsRel X.K) X.mg W f)
def aNil : Ev (List D) := fun ρ => .ok ρ []
def aCons (f : Ev D) (r : Ev (List D)) : Ev (List D) := fun ρ => (f ρ).bind fun ρ1 d => (r ρ1).bind fun ρ2 ds => .ok ρ2 (d :: ds)
theorem da_nil : DA X T W [] aNil := PA.mono pa_nil fun σ H Q ⟨G, ρ, R, h⟩ => h [] G H R (EStp.refl R) .nil
theorem da_cons {f : Ev D} {r : Ev (List D)} (ha : DF X T W a f) (hr : DA X T W es r) (hs : starEach (a :: es) X.env = (false, eval a X.env) :: starEach es X.env := by rfl) : DA X T W (a :: es) (aCons f r) := by
  refine PA.mono (pa_cons ha hr hs) fun σ H Q ⟨G, ρ, R, h⟩ => ?_
  refine tDX.mono (tRX.bind (rel := dRel X.K) (rel' := dsRel X.K) R h) fun v H1 ⟨G1, ρ1, d, R1, s1, a1, h1⟩ => ?_
  refine tDX.mono (tRX.bind (rel := dsRel X.K) (rel' := dsRel X.K) R1 h1) fun vs H2 ⟨G2, ρ2, ds, R2, s2, a2, h2⟩ => ?_
  exact h2 (v :: vs) G2 H2 R2 (EStp.refl R2) (.cons (Dat.sub s2.gg a1) a2)
def fits (n : Nat) : Bool := decide (n ≤ 16777216)
theorem fits_ok {n : Nat} (h : fits n = true) : n ≤ sizeLine := by rw [sizeLine_eq]; exact of_decide_eq_true h
def fTup (r : Ev (List D)) : Ev Wv := fun ρ => (r ρ).bind fun ρ1 ds => if fits ds.length then .ok ρ1 (.val (.tup ds)) else .stk
def fLst (r : Ev (List D)) : Ev Wv := fun ρ => (r ρ).bind fun ρ1 ds => if fits ds.length then .ok ρ1 (.tmp (.lst ds)) else .stk
section
variable {K : PySem.W.Frag} {σ : St} {ρ : En} {G H : Hp} {mg : Str → Option Value}
/-- an operator's end, told of its result -/
theorem tR.op {w : Wv} {Q : VK} (R : SR K T G H σ ρ) (h : tR K T mg W σ ρ G H (.ok ρ w) Q) : opR K G H (some w) Q := opR_of (ρ := ρ) (r := some w) R h
end
theorem de_tup {r : Ev (List D)} {k : Nat} (hr : DA X T W es r) : DE X T W (.Tuple es k pos) (fTup r) := by
  refine PE.mono (pe_tup hr) fun σ H Q ⟨G, ρ, R, h⟩ => ?_
  refine tDX.mono (tRX.bind (rel := dsRel X.K) (rel' := wRel X.K) R h) fun vs H1 ⟨G1, ρ1, ds, R1, s1, a1, h1⟩ => ?_
  cases z : fits ds.length with
  | false => rw [z] at h1; exact (show False from h1).elim
  | true =>
    rw [z] at h1
    have a1 : Dats X.K G1 vs ds := a1
    exact ⟨by rw [a1.len]; exact fits_ok z, fun p hp => opR.newT R1.gh (tR.op R1 h1) a1 hp⟩
theorem de_lst {r : Ev (List D)} (hr : DA X T W es r) : DE X T W (.List es pos) (fLst r) := by
  refine PE.mono (pe_lst hr) fun σ H Q ⟨G, ρ, R, h⟩ => ?_
  refine tDX.mono (tRX.bind (rel := dsRel X.K) (rel' := wRel X.K) R h) fun vs H1 ⟨G1, ρ1, ds, R1, s1, a1, h1⟩ => ?_
  cases z : fits ds.length with
  | false => rw [z] at h1; exact (show False from h1).elim
  | true =>
    rw [z] at h1
    have a1 : Dats X.K G1 vs ds := a1
    exact ⟨by rw [a1.len]; exact fits_ok z, fun p hp => opR.newL R1.gh (tR.op R1 h1) a1 hp⟩

/-! ### tests -/
abbrev DT (X : Cx) (T : List (Addr × Str)) (W : WX) (e : Expr) (f : Ev Bool) : Prop := PT X e (tDX X.K T bRel X.mg W f)
abbrev DW (X : Cx) (T : List (Addr × Str)) (W : WX) (e : Expr) (f : Ev Bool) : Prop := PW X e (tDX X.K T bRel X.mg W f)
def isB (ρ : En) (w : Wv) : Out Bool := match w with
  | .val (.bl b) => .ok ρ b
  | _ => .stk
def fB (fa : Ev Wv) : Ev Bool := fun ρ => (fa ρ).bind isB
theorem b_read {σ : St} {H : Hp} {Q : Bool → Hp → Prop} (h : tDX X.K T bRel X.mg W (fB fa) σ H Q) : tDE X.K T X.mg W fa σ H fun x H' => ∃ k, x = .bl k ∧ Q k H' := by
  obtain ⟨G, ρ, R, h⟩ := h
  refine tDX.mono (tRX.bind (rel := wRel X.K) (rel' := bRel) R h) fun v H1 ⟨G1, ρ1, w, R1, s1, a1, h1⟩ => ?_
  unfold isB at h1
  cases w with
  | val d =>
    cases d with
    | bl k =>
      cases (show Dat X.K G1 v (.bl k) from a1)
      exact ⟨k, rfl, h1 k G1 H1 R1 (EStp.refl R1) rfl⟩
    | _ => exact (show False from h1).elim
  | _ => exact (show False from h1).elim
theorem dt_cmp {op : CmpOp} {r : R2} {g : D → D → Option Wv} (ho : OpR X (compareOp op) r) (o : OpD X r g) (ha : DE X T W a fa) (hb : DE X T W b fb) (hm : behindInMarks op b = false) : DT X T W (.Compare a [op] [b] pos) (fB (fOp g fa fb)) :=
  PT.mono (pt_cmpR ho ha hb hm) fun σ H Q h => two_ops o (b_read h)
def tru : D → Option Bool
  | .non => some false
  | .bl b => some b
  | .int i => some (i != 0)
  | .str x => if fits x.length then some ((x.length : Int) != 0) else none
  | .tup xs => some (!xs.isEmpty)
  | .lst xs => some (!xs.isEmpty)
  | .scr xs => some (!xs.isEmpty)
  | .dic ks _ => some (!ks.isEmpty)
  | _ => none
theorem Dats.emp {K : PySem.W.Frag} {G : Hp} {vs : List V} {ds : List D} (h : Dats K G vs ds) : vs.isEmpty = ds.isEmpty := by cases h <;> rfl
theorem map_emp {α β : Type} (f : α → β) (l : List α) : (l.map f).isEmpty = l.isEmpty := by cases l <;> rfl
theorem tru_at {K : PySem.W.Frag} {G H : Hp} {v : V} {d : D} {k : Bool} (s : Sub G H) (h : RAt K G H v d) (e : tru d = some k) : TruV K v H k := by
  cases d with
  | non => cases h; cases e; rfl
  | bl b => cases h; cases e; rfl
  | int i => cases h; cases e; rfl
  | str x =>
    cases h
    have e : (if fits x.length then some ((x.length : Int) != 0) else none) = some k := e
    split at e
    · rename_i z
      cases e
      exact ⟨fits_ok z, rfl⟩
    · cases e
  | tup xs =>
    cases e
    cases h with
    | tup q r => exact .inr (.inl ⟨_, SqT.sub s q, by rw [r.emp]⟩)
  | lst xs =>
    cases e
    obtain ⟨a, ys, rfl, q, r⟩ := h
    exact .inl ⟨_, .of q, by rw [r.emp]⟩
  | scr xs =>
    cases e
    cases h with
    | scr q r => exact .inl ⟨_, SqL.sub s q, by rw [r.emp]⟩
  | dic ks ds =>
    cases e
    obtain ⟨a, kvs, rfl, q, z, r⟩ := h
    exact .inr (.inr ⟨kvs, q, by rw [← z, map_emp]⟩)
  | dit ks ds => cases e
  | opq v => cases e
def fTru (fa : Ev Wv) : Ev Bool := fun ρ => (fa ρ).bind fun ρ1 w => match look ρ1 w with
  | some d => match tru d with
    | some b => .ok ρ1 b
    | none => .stk
  | none => .stk
theorem dt_tru (ha : DE X T W a fa) (he : ∀ whole, isTrue a X.env whole = (do let v ← whole; standAt a.pos; holding [v] (truthy v)) := by intro _; rfl) : DT X T W a (fTru fa) := by
  refine PT.mono (pt_truth ha he) fun σ H Q ⟨G, ρ, R, h⟩ => ?_
  refine tDX.mono (tRX.bind (rel := wRel X.K) (rel' := bRel) R h) fun v H1 ⟨G1, ρ1, w, R1, s1, a1, h1⟩ => ?_
  cases e : look ρ1 w with
  | none => rw [e] at h1; exact h1.elim
  | some d =>
    rw [e] at h1
    cases z : tru d with
    | none => simp only [z] at h1; exact (show False from h1).elim
    | some k => simp only [z] at h1; exact ⟨k, tru_at R1.gh (look_at R1 a1 e) z, h1 k G1 H1 R1 (EStp.refl R1) rfl⟩
def bNot (f : Ev Bool) : Ev Bool := fun ρ => (f ρ).bind fun ρ1 b => .ok ρ1 (!b)
def bAnd (f g : Ev Bool) : Ev Bool := fun ρ => (f ρ).bind fun ρ1 b => match b with
  | true => g ρ1
  | false => .ok ρ1 false
def bOr (f g : Ev Bool) : Ev Bool := fun ρ => (f ρ).bind fun ρ1 b => match b with
  | true => .ok ρ1 true
  | false => g ρ1
variable {p q : Ev Bool} {rest : List Expr}
theorem dt_not (ha : DT X T W a p) : DT X T W (.UnaryOp .Not a pos) (bNot p) := by
  refine PT.mono (pt_not ha) fun σ H Q ⟨G, ρ, R, h⟩ => ?_
  refine tDX.mono (tRX.bind (rel := bRel) (rel' := bRel) R h) fun v H1 ⟨G1, ρ1, w, R1, s1, a1, h1⟩ => ?_
  cases (show v = w from a1)
  exact h1 _ G1 H1 R1 (EStp.refl R1) rfl
theorem and_read {σ : St} {H : Hp} {Q : Bool → Hp → Prop} (h : tDX X.K T bRel X.mg W (bAnd p q) σ H Q) : tAnd (tDX X.K T bRel X.mg W p) (tDX X.K T bRel X.mg W q) σ H Q := by
  obtain ⟨G, ρ, R, h⟩ := h
  refine tDX.mono (tRX.bind (rel := bRel) (rel' := bRel) R h) fun v H1 ⟨G1, ρ1, w, R1, s1, a1, h1⟩ => ?_
  cases (show v = w from a1)
  cases v with
  | true => exact iteT ⟨G1, ρ1, R1, h1⟩
  | false => exact iteF (h1 _ G1 H1 R1 (EStp.refl R1) rfl)
theorem or_read {σ : St} {H : Hp} {Q : Bool → Hp → Prop} (h : tDX X.K T bRel X.mg W (bOr p q) σ H Q) : tOr (tDX X.K T bRel X.mg W p) (tDX X.K T bRel X.mg W q) σ H Q := by
  obtain ⟨G, ρ, R, h⟩ := h
  refine tDX.mono (tRX.bind (rel := bRel) (rel' := bRel) R h) fun v H1 ⟨G1, ρ1, w, R1, s1, a1, h1⟩ => ?_
  cases (show v = w from a1)
  cases v with
  | true => exact iteT (h1 _ G1 H1 R1 (EStp.refl R1) rfl)
  | false => exact iteF ⟨G1, ρ1, R1, h1⟩
theorem PW.mono {e : Expr} {t t' : TT} (h : PW X e t) (m : ∀ σ H Q, t' σ H Q → t σ H Q) : PW X e t' := ⟨fun wh pins s σ H Q I q => h.run wh pins s σ H Q I (m σ H Q q)⟩
theorem dw_and1 (ha : DT X T W a p) : DW X T W (.BoolOp .And [a] pos) p := pw_and1 ha
theorem dw_or1 (ha : DT X T W a p) : DW X T W (.BoolOp .Or [a] pos) p := pw_or1 ha
theorem dw_and (ha : DT X T W a p) (hb : DW X T W (.BoolOp .And (b :: rest) pos) q) : DW X T W (.BoolOp .And (a :: b :: rest) pos) (bAnd p q) := PW.mono (pw_and ha hb) fun σ H Q => and_read
theorem dw_or (ha : DT X T W a p) (hb : DW X T W (.BoolOp .Or (b :: rest) pos) q) : DW X T W (.BoolOp .Or (a :: b :: rest) pos) (bOr p q) := PW.mono (pw_or ha hb) fun σ H Q => or_read
/-! ### and, or, not as values: all but the last a bool -/
def vAnd (fa fb : Ev Wv) : Ev Wv := fun ρ => (fa ρ).bind fun ρ1 w => (isB ρ1 w).bind fun ρ1 k => match k with
  | true => fb ρ1
  | false => .ok ρ1 (.val (.bl false))
def vOr (fa fb : Ev Wv) : Ev Wv := fun ρ => (fa ρ).bind fun ρ1 w => (isB ρ1 w).bind fun ρ1 k => match k with
  | true => .ok ρ1 (.val (.bl true))
  | false => fb ρ1
def vNot (fa : Ev Wv) : Ev Wv := fun ρ => (fa ρ).bind fun ρ1 w => (isB ρ1 w).bind fun ρ1 k => .ok ρ1 (.val (.bl (!k)))
theorem isB_at {w : Wv} {ρ : En} {β : Type} {k : En → Bool → Out β} (h : (isB ρ w).bind k ≠ .stk) : ∃ b, w = .val (.bl b) ∧ (isB ρ w).bind k = k ρ b := by
  unfold isB at h ⊢
  split at h
  · rename_i b
    exact ⟨b, rfl, rfl⟩
  · exact (h rfl).elim
theorem de_one {op : BoolOp} (h : DE X T W a fa) : DE X T W (.BoolOp op [a] pos) fa := pe_one h
theorem ns_of {K : PySem.W.Frag} {α β : Type} {rel : Rel α β} {mg : Str → Option Value} {σ : St} {ρ : En} {G H : Hp} {r : Out α} {Q : β → Hp → Prop} (h : tRX K T rel mg W σ ρ G H r Q) : r ≠ .stk := fun e => by rw [e] at h; exact h
theorem de_and (ha : DE X T W a fa) (hb : DE X T W (.BoolOp .And (b :: rest) pos) fb) : DE X T W (.BoolOp .And (a :: b :: rest) pos) (vAnd fa fb) := by
  refine PE.mono (pe_and ha hb) fun σ H Q ⟨G, ρ, R, h⟩ => ?_
  refine tDX.mono (tRX.bind (rel := wRel X.K) (rel' := wRel X.K) R h) fun v H1 ⟨G1, ρ1, w, R1, s1, a1, h1⟩ => ?_
  obtain ⟨k, rfl, e⟩ := isB_at (ns_of h1)
  rw [e] at h1
  cases (show Dat X.K G1 v (.bl k) from a1)
  refine ⟨k, rfl, ?_⟩
  cases k with
  | true => exact iteT ⟨G1, ρ1, R1, h1⟩
  | false => exact iteF (fin_val R1 h1 (.bl false))
theorem de_or (ha : DE X T W a fa) (hb : DE X T W (.BoolOp .Or (b :: rest) pos) fb) : DE X T W (.BoolOp .Or (a :: b :: rest) pos) (vOr fa fb) := by
  refine PE.mono (pe_or ha hb) fun σ H Q ⟨G, ρ, R, h⟩ => ?_
  refine tDX.mono (tRX.bind (rel := wRel X.K) (rel' := wRel X.K) R h) fun v H1 ⟨G1, ρ1, w, R1, s1, a1, h1⟩ => ?_
  obtain ⟨k, rfl, e⟩ := isB_at (ns_of h1)
  rw [e] at h1
  cases (show Dat X.K G1 v (.bl k) from a1)
  refine ⟨k, rfl, ?_⟩
  cases k with
  | true => exact iteT (fin_val R1 h1 (.bl true))
  | false => exact iteF ⟨G1, ρ1, R1, h1⟩
theorem de_not (ha : DE X T W a fa) : DE X T W (.UnaryOp .Not a pos) (vNot fa) := by
  refine PE.mono (pe_not ha) fun σ H Q ⟨G, ρ, R, h⟩ => ?_
  refine tDX.mono (tRX.bind (rel := wRel X.K) (rel' := wRel X.K) R h) fun v H1 ⟨G1, ρ1, w, R1, s1, a1, h1⟩ => ?_
  obtain ⟨k, rfl, e⟩ := isB_at (ns_of h1)
  rw [e] at h1
  cases (show Dat X.K G1 v (.bl k) from a1)
  exact ⟨k, rfl, fin_val R1 h1 (.bl _)⟩
def vIf (p : Ev Bool) (fa fb : Ev Wv) : Ev Wv := fun ρ => (p ρ).bind fun ρ1 k => match k with
  | true => fa ρ1
  | false => fb ρ1
theorem de_if (hc : DT X T W c p) (ha : DE X T W a fa) (hb : DE X T W b fb) : DE X T W (.IfExp c a b pos) (vIf p fa fb) := by
  refine PE.mono (pe_ifExp hc ha hb) fun σ H Q ⟨G, ρ, R, h⟩ => ?_
  refine tDX.mono (tRX.bind (rel := bRel) (rel' := wRel X.K) R h) fun v H1 ⟨G1, ρ1, w, R1, s1, a1, h1⟩ => ?_
  cases (show v = w from a1)
  cases v with
  | true => exact iteT ⟨G1, ρ1, R1, h1⟩
  | false => exact iteF ⟨G1, ρ1, R1, h1⟩
/-- a chain x op y op z, y asked once -/
def fChain (g g' : D → D → Option Wv) (fa fb fc : Ev Wv) : Ev Wv := fun ρ => (fa ρ).bind fun ρ1 w1 => (fb ρ1).bind fun ρ2 w2 => match look ρ2 w1, look ρ2 w2 with
  | some d, some e => (match g d e with
    | some (.val (.bl true)) => (fc ρ2).bind fun ρ3 w3 => (match look ρ3 w2, look ρ3 w3 with
      | some e, some f => oW ρ3 (g' e f)
      | _, _ => .stk)
    | some (.val (.bl false)) => .ok ρ2 (.val (.bl false))
    | _ => .stk)
  | _, _ => .stk
theorem chain_read {r r' : R2} {g g' : D → D → Option Wv} (o : OpD X r g) (o' : OpD X r' g') {σ : St} {H : Hp} {Q : VK} (h : tDE X.K T X.mg W (fChain g g' fa fb fc) σ H Q) :
    tChain r r' (tDE X.K T X.mg W fa) (tDE X.K T X.mg W fb) (tDE X.K T X.mg W fc) σ H Q := by
  obtain ⟨G, ρ, R, h⟩ := h
  refine tDE.mono (tR.bind R h) fun x H1 ⟨G1, ρ1, w1, R1, s1, a1, h1⟩ => ?_
  refine tDE.mono (tR.bind R1 h1) fun y H2 ⟨G2, ρ2, w2, R2, s2, a2, h2⟩ => ?_
  have b1 := WAt.step R s1 R1 s2 a1
  cases e1 : look ρ2 w1 with
  | none => rw [e1] at h2; exact h2.elim
  | some d =>
    cases e2 : look ρ2 w2 with
    | none => rw [e1, e2] at h2; exact h2.elim
    | some e =>
      rw [e1, e2] at h2
      refine o G2 H2 x y d e _ R2.gh (look_at R2 b1 e1) (look_at R2 a2 e2) ?_
      cases z : g d e with
      | none => simp only [z] at h2; exact (show False from h2).elim
      | some w =>
        simp only [z] at h2
        intro v G' H' gx n
        cases w with
        | tmp o => exact (show False from h2).elim
        | slot i => exact (show False from h2).elim
        | val dv =>
          cases dv with
          | bl k =>
            cases (show Dat X.K G' v (.bl k) from n)
            refine ⟨k, rfl, ?_⟩
            have R3 := gx.sr R2
            have s3 := gx.stp R2
            cases k with
            | false => exact iteF (fin_val R3 (tRX.later R2 s3 h2) (.bl false))
            | true =>
              refine iteT ?_
              refine tDE.mono (tR.bind R3 (tRX.later R2 s3 h2)) fun u H4 ⟨G4, ρ4, w4, R4, s4, a4, h4⟩ => ?_
              have b2 := WAt.step R1 (s2.trans R1 s3) R3 s4 (WAt.step R1 s2 R2 s3 a2)
              cases e3 : look ρ4 w2 with
              | none => rw [e3] at h4; exact h4.elim
              | some f =>
                cases e4 : look ρ4 w4 with
                | none => rw [e3, e4] at h4; exact h4.elim
                | some f' =>
                  rw [e3, e4] at h4
                  exact o' G4 H4 y u f f' Q R4.gh (look_at R4 b2 e3) (look_at R4 a4 e4) (opR_of R4 h4)
          | _ => exact (show False from h2).elim
theorem de_chain {op op' : CmpOp} {r r' : R2} {g g' : D → D → Option Wv} (ho : OpR X (compareOp op) r) (ho' : OpR X (compareOp op') r') (o : OpD X r g) (o' : OpD X r' g') (ha : DE X T W a fa) (hb : DE X T W b fb) (hc : DE X T W c fc)
    (hm : lastMarks [op, op'] [b, c] = false := by with_unfolding_all rfl) : DE X T W (.Compare a [op, op'] [b, c] pos) (fChain g g' fa fb fc) :=
  PE.mono (pe_chain ho ho' ha hb hc hm) fun σ H Q => chain_read o o'
theorem dt_chain {op op' : CmpOp} {r r' : R2} {g g' : D → D → Option Wv} (ho : OpR X (compareOp op) r) (ho' : OpR X (compareOp op') r') (o : OpD X r g) (o' : OpD X r' g') (ha : DE X T W a fa) (hb : DE X T W b fb) (hc : DE X T W c fc)
    (hm : lastMarks [op, op'] [b, c] = false := by with_unfolding_all rfl) : DT X T W (.Compare a [op, op'] [b, c] pos) (fB (fChain g g' fa fb fc)) :=
  PT.mono (pt_chain ho ho' ha hb hc hm) fun σ H Q h => chain_read o o' (b_read h)
end
end DL
namespace DL
open PySem PySem.Spec
open PyProof.Rows hiding St
open L2
/-! ### data as the library's data -/
mutual
def D.py : D → Option PyData
  | .non => some .none
  | .bl b => some (.bool b)
  | .int i => some (.int i)
  | .str x => some (.str x)
  | .tup xs => (D.pys xs).map .tuple
  | .lst xs => (D.pys xs).map .list
  | .scr xs => (D.pys xs).map .list
  | _ => none
def D.pys : List D → Option (List PyData)
  | [] => some []
  | x :: xs => match D.py x, D.pys xs with
    | some p, some ps => some (p :: ps)
    | _, _ => none
end
section
variable {K : PySem.W.Frag} {G H : Hp}
mutual
theorem Dat.dp : ∀ {v : V} {d : D} {p : PyData}, Dat K G v d → d.py = some p → Dp K G v p
  | _, _, _, .non, e => by cases e; exact .non
  | _, _, _, .bl b, e => by cases e; exact .bl b
  | _, _, _, .int b, e => by cases e; exact .int b
  | _, _, _, .str b, e => by cases e; exact .str b
  | _, .tup ds, p, .tup q r, e => by
    have e : (D.pys ds).map PyData.tuple = some p := e
    cases z : D.pys ds with
    | none => rw [z] at e; cases e
    | some ps => rw [z] at e; cases e; exact .tup q (Dats.dps r z)
  | _, .lst ds, p, .lst q r, e => by
    have e : (D.pys ds).map PyData.list = some p := e
    cases z : D.pys ds with
    | none => rw [z] at e; cases e
    | some ps => rw [z] at e; cases e; exact .lst (.of q) (Dats.dps r z)
  | _, .scr ds, p, .scr q r, e => by
    have e : (D.pys ds).map PyData.list = some p := e
    cases z : D.pys ds with
    | none => rw [z] at e; cases e
    | some ps => rw [z] at e; cases e; exact .lst q (Dats.dps r z)
  | _, _, _, .dic _ _, e => by cases e
  | _, _, _, .dit _ _, e => by cases e
  | _, _, _, .opq _, e => by cases e
theorem Dats.dps : ∀ {vs : List V} {ds : List D} {ps : List PyData}, Dats K G vs ds → D.pys ds = some ps → DpAll K G vs ps
  | _, _, _, .nil, e => by cases e; exact .nil
  | _, d :: ds, ps, .cons a b, e => by
    have e : (match D.py d, D.pys ds with | some p, some ps => some (p :: ps) | _, _ => none) = some ps := e
    cases z1 : D.py d with
    | none => rw [z1] at e; cases e
    | some p =>
      cases z2 : D.pys ds with
      | none => rw [z1, z2] at e; cases e
      | some qs =>
        rw [z1, z2] at e
        cases e
        exact .cons (Dat.dp a z1) (Dats.dps b z2)
end
theorem rat_dp (s : Sub G H) {v : V} {d : D} {p : PyData} (h : RAt K G H v d) (e : d.py = some p) : Dp K H v p := by
  cases d with
  | lst ds =>
    obtain ⟨a, xs, rfl, q, r⟩ := h
    have e : (D.pys ds).map PyData.list = some p := e
    cases z : D.pys ds with
    | none => rw [z] at e; cases e
    | some ps => rw [z] at e; cases e; exact .lst (.of q) (Dats.dps (r.sub s) z)
  | dic ks ds => cases e
  | dit ks ds => cases e
  | non => exact Dat.dp (Dat.sub s h) e
  | bl b => exact Dat.dp (Dat.sub s h) e
  | int b => exact Dat.dp (Dat.sub s h) e
  | str b => exact Dat.dp (Dat.sub s h) e
  | tup b => exact Dat.dp (Dat.sub s h) e
  | scr b => exact Dat.dp (Dat.sub s h) e
  | opq b => cases e
theorem rat_tup (s : Sub G H) {v : V} {ds : List D} (h : RAt K G H v (.tup ds)) : ∃ a xs, v = .ref a ∧ SqT K H a xs ∧ Dats K G xs ds := by
  cases h with
  | tup q r => exact ⟨_, _, rfl, SqT.sub s q, r⟩
theorem rat_scr (s : Sub G H) {v : V} {ds : List D} (h : RAt K G H v (.scr ds)) : ∃ a xs, v = .ref a ∧ SqL K H a xs ∧ Dats K G xs ds := by
  cases h with
  | scr q r => exact ⟨_, _, rfl, SqL.sub s q, r⟩
theorem rat_int {v : V} {i : Int} (h : RAt K G H v (.int i)) : v = .int i := by cases h; rfl
theorem rat_str {v : V} {i : Str} (h : RAt K G H v (.str i)) : v = .str i := by cases h; rfl
theorem rat_bl {v : V} {i : Bool} (h : RAt K G H v (.bl i)) : v = .bl i := by cases h; rfl
theorem rat_non {v : V} (h : RAt K G H v .non) : v = .non := by cases h; rfl
/-- a list or a tuple -/
def D.seq? : D → Option (List D)
  | .tup xs => some xs
  | .lst xs => some xs
  | .scr xs => some xs
  | _ => none
theorem rat_seq (s : Sub G H) {v : V} {d : D} {ds : List D} (h : RAt K G H v d) (e : d.seq? = some ds) : ∃ a xs, v = .ref a ∧ (SqL K H a xs ∨ SqT K H a xs) ∧ Dats K G xs ds := by
  cases d with
  | tup xs => cases e; obtain ⟨a, ys, h1, h2, h3⟩ := rat_tup s h; exact ⟨a, ys, h1, .inr h2, h3⟩
  | scr xs => cases e; obtain ⟨a, ys, h1, h2, h3⟩ := rat_scr s h; exact ⟨a, ys, h1, .inl h2, h3⟩
  | lst xs => cases e; obtain ⟨a, ys, h1, h2, h3⟩ := h; exact ⟨a, ys, h1, .inl (.of h2), h3⟩
  | _ => cases e
end
section
variable {X : Cx}
/-! ### ints -/
def g2I (f : Int → Int → Option D) : D → D → Option Wv
  | .int i, .int j => (f i j).map Wv.val
  | _, _ => none
theorem g2I_some {K : PySem.W.Frag} {G H : Hp} {f : Int → Int → Option D} {d e : D} {Q : VK} (h : opR K G H (g2I f d e) Q) : ∃ i j r, d = .int i ∧ e = .int j ∧ f i j = some r ∧ opR K G H (some (.val r)) Q := by
  unfold g2I at h
  split at h
  · rename_i i j
    cases z : f i j with
    | none => rw [z] at h; exact h.elim
    | some r => rw [z] at h; exact ⟨i, j, r, rfl, rfl, z, h⟩
  · exact h.elim
theorem opd_rI {C : Int → Int → Prop} {g : Int → Int → Int} {f : Int → Int → Option D} (hf : ∀ i j r, f i j = some r → C i j ∧ r = .int (g i j)) : OpD X (rI C fun i j => .int (g i j)) (g2I f) := fun G H x y d e Q s hx hy h => by
  obtain ⟨i, j, r, rfl, rfl, z, h⟩ := g2I_some h
  obtain ⟨c, rfl⟩ := hf i j r z
  exact ⟨i, j, rat_int hx, rat_int hy, c, opR.val s h (.int _)⟩
theorem opd_rI0 {g : Int → Int → Int} : OpD X (rI0 fun i j => .int (g i j)) (g2I fun i j => some (.int (g i j))) := fun G H x y d e Q s hx hy h => by
  obtain ⟨i, j, r, rfl, rfl, z, h⟩ := g2I_some h
  cases z
  exact ⟨i, j, rat_int hx, rat_int hy, opR.val s h (.int _)⟩
theorem opd_rB0 {g : Int → Int → Bool} : OpD X (rI0 fun i j => .bl (g i j)) (g2I fun i j => some (.bl (g i j))) := fun G H x y d e Q s hx hy h => by
  obtain ⟨i, j, r, rfl, rfl, z, h⟩ := g2I_some h
  cases z
  exact ⟨i, j, rat_int hx, rat_int hy, opR.val s h (.bl _)⟩
def gSub : D → D → Option Wv := g2I fun i j => some (.int (i - j))
def gDiv : D → D → Option Wv := g2I fun i j => if decide (0 < j) && decide (j.natAbs.log2 < 9000) then some (.int (i / j)) else none
def gMod : D → D → Option Wv := g2I fun i j => if decide (0 < j) then some (.int (i % j)) else none
def gPow : D → D → Option Wv := g2I fun i j => if decide (0 ≤ j) && (decide (j ≤ 1000000) && decide (i.natAbs < 2 ^ 64)) then some (.int (i ^ j.toNat)) else none
def gLt : D → D → Option Wv := g2I fun i j => some (.bl (decide (i < j)))
def gLe : D → D → Option Wv := g2I fun i j => some (.bl (decide (i ≤ j)))
def gGt : D → D → Option Wv := g2I fun i j => some (.bl (decide (j < i)))
def gGe : D → D → Option Wv := g2I fun i j => some (.bl (decide (j ≤ i)))
theorem d_sub : OpD X (rI0 fun i j => .int (i - j)) gSub := opd_rI0
theorem d_div : OpD X (rI CDivW fun i j => .int (i / j)) gDiv := opd_rI fun i j r h => by
  split at h
  · rename_i z
    rw [Bool.and_eq_true, decide_eq_true_eq, decide_eq_true_eq] at z
    cases h
    exact ⟨z, rfl⟩
  · cases h
theorem d_mod : OpD X (rI (fun _ j => 0 < j) fun i j => .int (i % j)) gMod := opd_rI fun i j r h => by
  split at h
  · rename_i z
    cases h
    exact ⟨of_decide_eq_true z, rfl⟩
  · cases h
theorem d_pow : OpD X (rI CPow fun i j => .int (i ^ j.toNat)) gPow := opd_rI fun i j r h => by
  split at h
  · rename_i z
    rw [Bool.and_eq_true, Bool.and_eq_true, decide_eq_true_eq, decide_eq_true_eq, decide_eq_true_eq] at z
    cases h
    exact ⟨z, rfl⟩
  · cases h
theorem d_lt : OpD X (rI0 fun i j => .bl (decide (i < j))) gLt := opd_rB0
theorem d_le : OpD X (rI0 fun i j => .bl (decide (i ≤ j))) gLe := opd_rB0
theorem d_gt : OpD X (rI0 fun i j => .bl (decide (j < i))) gGt := opd_rB0
theorem d_ge : OpD X (rI0 fun i j => .bl (decide (j ≤ i))) gGe := opd_rB0
/-! ### + and * -/
def gAdd : D → D → Option Wv
  | .int i, .int j => some (.val (.int (i + j)))
  | .str x, .str y => if fits (x.length + y.length) then some (.val (.str (x ++ y))) else none
  | .tup xs, .tup ys => if fits (xs.length + ys.length) then some (.val (.tup (xs ++ ys))) else none
  | .lst xs, .lst ys => if fits (xs.length + ys.length) then some (.tmp (.lst (xs ++ ys))) else none
  | _, _ => none
def rStrs : R2 := fun x y H Q => ∃ i j, x = .str i ∧ y = .str j ∧ i.length + j.length ≤ sizeLine ∧ Q (.str (i ++ j)) H
def rAdd4 (K : PySem.W.Frag) : R2 := fun x y H Q => rI0 (fun i j => .int (i + j)) x y H Q ∨ (rStrs x y H Q ∨ (rCatA K x y H Q ∨ rCat x y H Q))
theorem op_add4 : OpR X (binaryOp .Add) (rAdd4 X.K) := OpR.or op_add (OpR.or op_add_str (OpR.or op_catA op_cat))
theorem d_add : OpD X (rAdd4 X.K) gAdd := fun G H x y d e Q s hx hy h => by
  unfold gAdd at h
  split at h
  · exact .inl ⟨_, _, rat_int hx, rat_int hy, opR.val s h (.int _)⟩
  · split at h
    · rename_i z
      exact .inr (.inl ⟨_, _, rat_str hx, rat_str hy, fits_ok z, opR.val s h (.str _)⟩)
    · exact h.elim
  · split at h
    · rename_i z
      obtain ⟨a, xs, rfl, q, r⟩ := rat_tup s hx
      obtain ⟨b, ys, rfl, q', r'⟩ := rat_tup s hy
      have z2 := fits_ok z
      rw [← r.len, ← r'.len] at z2
      refine .inr (.inr (.inl ⟨a, b, xs, ys, rfl, rfl, q, q', z2, fun e => ?_, fun n e => ?_, fun n n' p hp => opR.newT s h (r.app r') hp⟩))
      · subst e
        cases r
        exact opR.val s h (by cases hy with | tup c1 c2 => exact .tup c1 c2)
      · subst e
        cases r'
        rw [List.append_nil] at h
        exact opR.val s h (by cases hx with | tup c1 c2 => exact .tup c1 c2)
    · exact h.elim
  · split at h
    · rename_i z
      obtain ⟨a, xs, rfl, q, r⟩ := hx
      obtain ⟨b, ys, rfl, q', r'⟩ := hy
      have z2 := fits_ok z
      rw [← r.len, ← r'.len] at z2
      exact .inr (.inr (.inr ⟨a, b, xs, ys, rfl, rfl, q, q', z2, fun p hp => opR.newL s h (r.app r') hp⟩))
    · exact h.elim
  · exact h.elim
def mulOk (i j : Int) : Bool := decide (i.natAbs.log2 + j.natAbs.log2 < 134000000)
def CMulX (i j : Int) : Prop := i.natAbs.log2 + j.natAbs.log2 < 134000000
theorem mulOk_ok {i j : Int} (h : mulOk i j = true) : CMulX i j := by
  unfold mulOk at h
  unfold CMulX
  exact of_decide_eq_true h
theorem CMulX.ok {i j : Int} (h : CMulX i j) : IntMulOk i j := by
  have b : ∀ x : Int, Builtin.Int.intBits x ≤ x.natAbs.log2 + 1 := fun x => by
    unfold Builtin.Int.intBits
    split <;> omega
  have h1 := b i
  have h2 := b j
  have h3 : i.natAbs.log2 + j.natAbs.log2 < 134000000 := h
  have e : bitsLine = 134217728 := by decide
  intro z
  have z2 := (Bool.and_eq_true_iff.mp z).2
  unfold Builtin.Int.intTooBig at z2
  have z3 := of_decide_eq_true z2
  rw [e] at z3
  omega
theorem op_mulX : OpR X (binaryOp .Mult) (rI CMulX fun i j => .int (i * j)) := opI fun _ _ _ _ _ _ _ hc q => mul_int q hc.ok
def gMul : D → D → Option Wv
  | .int i, .int j => if mulOk i j then some (.val (.int (i * j))) else none
  | .tup xs, .int k => if !xs.isEmpty && (decide (2 ≤ k) && (decide (k ≤ 1000) && decide (xs.length ≤ 1000))) then some (.val (.tup (List.replicate k.toNat xs).flatten)) else none
  | .lst xs, .int k => if decide (-(2 ^ 63) ≤ k) && (decide (k < 2 ^ 63) && fits (xs.length * k.toNat)) then some (.tmp (.lst (List.replicate k.toNat xs).flatten)) else none
  | _, _ => none
def rMul3 (K : PySem.W.Frag) : R2 := fun x y H Q => rI CMulX (fun i j => .int (i * j)) x y H Q ∨ (rRepT K x y H Q ∨ rRep x y H Q)
theorem op_mul3 : OpR X (binaryOp .Mult) (rMul3 X.K) := OpR.or op_mulX (OpR.or op_repT op_rep)
theorem d_mul : OpD X (rMul3 X.K) gMul := fun G H x y d e Q s hx hy h => by
  unfold gMul at h
  split at h
  · split at h
    · rename_i z
      exact .inl ⟨_, _, rat_int hx, rat_int hy, mulOk_ok z, opR.val s h (.int _)⟩
    · exact h.elim
  · split at h
    · rename_i z
      obtain ⟨a, xs, rfl, q, r⟩ := rat_tup s hx
      simp only [Bool.and_eq_true, decide_eq_true_eq, Bool.not_eq_true'] at z
      obtain ⟨z1, z2, z3, z4⟩ := z
      rw [← r.len] at z4
      exact .inr (.inl ⟨a, _, xs, rfl, rat_int hy, q, fun e => (by subst e; cases r; cases z1), z2, z3, z4, fun p hp => opR.newT s h (r.rep _) hp⟩)
    · exact h.elim
  · split at h
    · rename_i z
      obtain ⟨a, xs, rfl, q, r⟩ := hx
      simp only [Bool.and_eq_true, decide_eq_true_eq] at z
      obtain ⟨z1, z2, z3⟩ := z
      have z4 := fits_ok z3
      rw [← r.len] at z4
      exact .inr (.inr ⟨a, _, xs, rfl, rat_int hy, q, z1, z2, z4, fun p hp => opR.newL s h (r.rep _) hp⟩)
    · exact h.elim
  · exact h.elim
def gNeg : D → Option Wv
  | .int i => some (.val (.int (-i)))
  | _ => none
theorem d_neg : OpD1 X (rU fun i => .int (-i)) gNeg := fun G H x d Q s hx h => by
  unfold gNeg at h
  split at h
  · exact ⟨_, rat_int hx, opR.val s h (.int _)⟩
  · exact h.elim
/-! ### == -/
def gEqv (f : Bool → Bool) (d e : D) : Option Wv := match d.py, e.py with
  | some p, some q => if SeqAt.shaped p && SeqAt.shaped q then some (.val (.bl (f (PyData.eqv p q)))) else none
  | _, _ => none
def gEq : D → D → Option Wv := gEqv id
def gNe : D → D → Option Wv := gEqv not
theorem gEqv_some {K : PySem.W.Frag} {G H : Hp} {f : Bool → Bool} {d e : D} {Q : VK} (h : opR K G H (gEqv f d e) Q) : ∃ p q, d.py = some p ∧ e.py = some q ∧ SeqAt.shaped p = true ∧ SeqAt.shaped q = true ∧ opR K G H (some (.val (.bl (f (PyData.eqv p q))))) Q := by
  unfold gEqv at h
  split at h
  · rename_i p q e1 e2
    split at h
    · rename_i z
      obtain ⟨z1, z2⟩ := Bool.and_eq_true_iff.mp z
      exact ⟨p, q, e1, e2, z1, z2, h⟩
    · exact h.elim
  · exact h.elim
theorem d_eq : OpD X (rEqD X.K) gEq := fun G H x y d e Q s hx hy h => by
  obtain ⟨p, q, e1, e2, z1, z2, h⟩ := gEqv_some h
  exact ⟨p, q, rat_dp s hx e1, rat_dp s hy e2, z1, z2, opR.val s h (.bl _)⟩
theorem d_ne : OpD X (rNeD X.K) gNe := fun G H x y d e Q s hx hy h => by
  obtain ⟨p, q, e1, e2, z1, z2, h⟩ := gEqv_some h
  exact ⟨p, q, rat_dp s hx e1, rat_dp s hy e2, z1, z2, opR.val s h (.bl _)⟩
/-! ### in -/
def rInS (K : PySem.W.Frag) (neg : Bool) : R2 := fun x y H Q => ∃ a xs d ds, y = .ref a ∧ (SqL K H a xs ∨ SqT K H a xs) ∧ DpAll K H xs ds ∧ Dp K H x d ∧ SeqAt.shaped d = true ∧ SeqAt.shaped (.list ds) = true ∧ Q (.bl (if neg then !(ds.any fun z => PyData.eqv z d) else ds.any fun z => PyData.eqv z d)) H
theorem op_inS (hu : X.A.units + 65 < cLine) : OpR X (compareOp .In) (rInS X.K false) := by
  intro pins s σ H x y v u Q I rx ry h
  obtain ⟨a, xs, d, ds, rfl, hq, hd, he, sd, se, q⟩ := h
  obtain ⟨as, r1⟩ := Dp.reads I d x v he rx
  cases ry
  rcases hq with hq | hq
  · obtain ⟨bs, r2⟩ := Dp.reads I (.list ds) (.ref a) (.ref a) (.lst hq hd) rfl
    exact SeqAt.in_list_reads r2 r1 (SeqAt.canLay_of_shaped se) (SeqAt.canLay_of_shaped sd) (room_in_shaped sd hu) ⟨.bl _, H, I, rfl, q⟩
  · obtain ⟨bs, r2⟩ := Dp.reads I (.tuple ds) (.ref a) (.ref a) (.tup hq hd) rfl
    exact SeqAt.in_tuple_reads r2 r1 (SeqAt.canLay_of_shaped se) (SeqAt.canLay_of_shaped sd) (room_in_shaped sd hu) ⟨.bl _, H, I, rfl, q⟩
theorem op_ninS (hu : X.A.units + 65 < cLine) : OpR X (compareOp .NotIn) (rInS X.K true) := by
  intro pins s σ H x y v u Q I rx ry h
  obtain ⟨a, xs, d, ds, rfl, hq, hd, he, sd, se, q⟩ := h
  obtain ⟨as, r1⟩ := Dp.reads I d x v he rx
  cases ry
  rcases hq with hq | hq
  · obtain ⟨bs, r2⟩ := Dp.reads I (.list ds) (.ref a) (.ref a) (.lst hq hd) rfl
    exact SeqAt.notIn_list_reads r2 r1 (SeqAt.canLay_of_shaped se) (SeqAt.canLay_of_shaped sd) (room_in_shaped sd hu) ⟨.bl _, H, I, rfl, q⟩
  · obtain ⟨bs, r2⟩ := Dp.reads I (.tuple ds) (.ref a) (.ref a) (.tup hq hd) rfl
    exact SeqAt.notIn_tuple_reads r2 r1 (SeqAt.canLay_of_shaped se) (SeqAt.canLay_of_shaped sd) (room_in_shaped sd hu) ⟨.bl _, H, I, rfl, q⟩
def gInS (neg : Bool) (d e : D) : Option Wv := match e.seq? with
  | some es => (match d.py, D.pys es with
    | some p, some ps => if SeqAt.shaped p && SeqAt.shaped (.list ps) then some (.val (.bl (if neg then !(ps.any fun z => PyData.eqv z p) else ps.any fun z => PyData.eqv z p))) else none
    | _, _ => none)
  | none => none
theorem d_inS {neg : Bool} : OpD X (rInS X.K neg) (gInS neg) := fun G H x y d e Q s hx hy h => by
  unfold gInS at h
  split at h
  · rename_i es e1
    split at h
    · rename_i p ps e2 e3
      split at h
      · rename_i z
        obtain ⟨z1, z2⟩ := Bool.and_eq_true_iff.mp z
        obtain ⟨a, xs, rfl, q, r⟩ := rat_seq s hy e1
        exact ⟨a, xs, p, ps, rfl, q, Dats.dps (r.sub s) e3, rat_dp s hx e2, z1, z2, opR.val s h (.bl _)⟩
      · exact h.elim
    · exact h.elim
  · exact h.elim
/-- is None -/
def isNon : D → Option Bool
  | .non => some true
  | .opq _ => none
  | _ => some false
def gIsN (neg : Bool) (d e : D) : Option Wv := match e, isNon d with
  | .non, some b => some (.val (.bl (if neg then !b else b)))
  | _, _ => none
theorem isNon_at {K : PySem.W.Frag} {G H : Hp} {v : V} {d : D} {b : Bool} (h : RAt K G H v d) (e : isNon d = some b) : decide (v = .non) = b := by
  cases d with
  | non => cases e; cases h; rfl
  | bl b => cases e; cases h; rfl
  | int i => cases e; cases h; rfl
  | str i => cases e; cases h; rfl
  | tup i => cases e; cases h; rfl
  | scr i => cases e; cases h; rfl
  | lst i => cases e; obtain ⟨a, xs, rfl, _⟩ := h; rfl
  | dic i j => cases e; obtain ⟨a, xs, rfl, _⟩ := h; rfl
  | dit i j => cases e; obtain ⟨a, xs, rfl, _⟩ := h; rfl
  | opq v => cases e
theorem d_isN : OpD X (fun x y H Q => y = .non ∧ Q (.bl (decide (x = .non))) H) (gIsN false) := fun G H x y d e Q s hx hy h => by
  unfold gIsN at h
  split at h
  · rename_i b z
    refine ⟨rat_non hy, ?_⟩
    rw [isNon_at hx z]
    exact opR.val s h (.bl _)
  · exact h.elim
theorem d_notN : OpD X (fun x y H Q => y = .non ∧ Q (.bl (!decide (x = .non))) H) (gIsN true) := fun G H x y d e Q s hx hy h => by
  unfold gIsN at h
  split at h
  · rename_i b z
    refine ⟨rat_non hy, ?_⟩
    rw [isNon_at hx z]
    exact opR.val s h (.bl _)
  · exact h.elim
/-! ### items -/
def gIx (d e : D) : Option Wv := match d, e with
  | .str z, .int i => if fits z.length then (atI z.cps.toList i).map fun c => .val (.str ⟨#[c]⟩) else none
  | d, .int i => match d.seq? with
    | some ds => (atI ds i).map Wv.val
    | none => none
  | _, _ => none
theorem Dats.atI {K : PySem.W.Frag} {G : Hp} {vs : List V} {ds : List D} {i : Int} {d : D} (r : Dats K G vs ds) (h : L2.atI ds i = some d) : ∃ v, L2.atI vs i = some v ∧ Dat K G v d := by
  unfold L2.atI at h ⊢
  rw [r.len]
  cases e : ixN ds.length i with
  | none => rw [e] at h; cases h
  | some j =>
    rw [e] at h
    exact r.get (i := j) h
theorem d_ix : OpD X (rIx X.K) gIx := fun G H x y d e Q s hx hy h => by
  unfold gIx at h
  split at h
  · rename_i z i
    split at h
    · rename_i f
      cases q : L2.atI z.cps.toList i with
      | none => rw [q] at h; exact h.elim
      | some c =>
        rw [q] at h
        exact .inr (.inr ⟨z, i, c, rat_str hx, rat_int hy, fits_ok f, q, opR.val s h (.str _)⟩)
    · exact h.elim
  · rename_i i _
    split at h
    · rename_i ds e1
      cases q : L2.atI ds i with
      | none => rw [q] at h; exact h.elim
      | some c =>
        rw [q] at h
        obtain ⟨a, xs, rfl, c1, r⟩ := rat_seq s hx e1
        obtain ⟨v, c2, c3⟩ := r.atI q
        rcases c1 with c1 | c1
        · exact .inl ⟨a, xs, i, v, rfl, rat_int hy, c1, c2, opR.val s h c3⟩
        · exact .inr (.inl ⟨a, xs, i, v, rfl, rat_int hy, c1, c2, opR.val s h c3⟩)
    · exact h.elim
  · exact h.elim
end
end DL
namespace DL
open PySem PySem.Spec
open PyProof.Rows hiding St
open L2
section
variable {X : Cx} {T : List (Addr × Str)} {W : WX} {pos : Pos} {a b c : Expr} {es : List Expr} {fa fb fc : Ev Wv}
/-! ### slices -/
def cutD (ds : List D) (lo hi : Option Int) : List D := (ds.drop (HT.sIx ds.length 0 lo)).take (HT.sIx ds.length ds.length hi - HT.sIx ds.length 0 lo)
theorem Dats.cut {K : PySem.W.Frag} {G : Hp} {vs : List V} {ds : List D} (r : Dats K G vs ds) (lo hi : Option Int) : Dats K G (cutV vs lo hi) (cutD ds lo hi) := by
  unfold cutV cutD
  rw [r.len]
  exact (r.drop _).take _
theorem cut_whole {ds : List D} {lo hi : Option Int} (h : HT.sIx ds.length 0 lo = 0 ∧ HT.sIx ds.length ds.length hi = ds.length) : cutD ds lo hi = ds := by
  unfold cutD
  rw [h.1, h.2]
  simp
def gSl (d : D) (lo hi : Option Int) : Option Wv := match d with
  | .tup ds => some (.val (.tup (cutD ds lo hi)))
  | .lst ds => some (.tmp (.lst (cutD ds lo hi)))
  | .scr ds => some (.tmp (.lst (cutD ds lo hi)))
  | .str z => if fits z.length then some (.val (.str (cutS z lo hi))) else none
  | _ => none
def rSl3 (K : PySem.W.Frag) : V → Option Int → Option Int → Hp → VK → Prop := fun x lo hi H Q => rSlA K x lo hi H Q ∨ (rSlL K x lo hi H Q ∨ rSlS x lo hi H Q)
theorem sl_3 : SlR X (rSl3 X.K) := SlR.or sl_tupA (SlR.or sl_list sl_str)
theorem d_sl {G H : Hp} {x : V} {d : D} {lo hi : Option Int} {Q : VK} (s : Sub G H) (hx : RAt X.K G H x d) (h : opR X.K G H (gSl d lo hi) Q) : rSl3 X.K x lo hi H Q := by
  unfold gSl at h
  split at h
  · obtain ⟨a, xs, rfl, q, r⟩ := rat_tup s hx
    refine .inl ⟨a, xs, rfl, q, fun w => ?_, fun w p hp => opR.newT s h (r.cut lo hi) hp⟩
    rw [r.len] at w
    rw [cut_whole w] at h
    exact opR.val s h (by cases hx with | tup c1 c2 => exact .tup c1 c2)
  · obtain ⟨a, xs, rfl, q, r⟩ := hx
    exact .inr (.inl ⟨a, xs, rfl, .of q, fun p hp => opR.newL s h (r.cut lo hi) hp⟩)
  · obtain ⟨a, xs, rfl, q, r⟩ := rat_scr s hx
    exact .inr (.inl ⟨a, xs, rfl, q, fun p hp => opR.newL s h (r.cut lo hi) hp⟩)
  · split at h
    · rename_i z
      exact .inr (.inr ⟨_, rat_str hx, fits_ok z, opR.val s h (.str _)⟩)
    · exact h.elim
  · exact h.elim
def oRel : Rel (Option Int) (Option Int) := fun G H σ ρ H0 v d => v = d
instance : Early oRel where
  up := fun _ c => c
abbrev DO (X : Cx) (T : List (Addr × Str)) (W : WX) (e : Option Expr) (f : Ev (Option Int)) : Prop := PO X e (tDX X.K T oRel X.mg W f)
theorem PO.mono {e : Option Expr} {t t' : TO} (h : PO X e t) (m : ∀ σ H Q, t' σ H Q → t σ H Q) : PO X e t' := ⟨fun pins s σ H Q I q => h.run pins s σ H Q I (m σ H Q q)⟩
def oNo : Ev (Option Int) := fun ρ => .ok ρ none
def oSome (fa : Ev Wv) : Ev (Option Int) := fun ρ => (fa ρ).bind fun ρ1 w => match w with
  | .val (.int i) => .ok ρ1 (some i)
  | _ => .stk
theorem do_none : DO X T W none oNo := PO.mono po_none fun σ H Q ⟨G, ρ, R, h⟩ => h none G H R (EStp.refl R) rfl
theorem do_some (ha : DE X T W a fa) : DO X T W (some a) (oSome fa) := by
  refine PO.mono (po_some ha) fun σ H Q ⟨G, ρ, R, h⟩ => ?_
  refine tDX.mono (tRX.bind (rel := wRel X.K) (rel' := oRel) R h) fun v H1 ⟨G1, ρ1, w, R1, s1, a1, h1⟩ => ?_
  cases w with
  | val d =>
    cases d with
    | int i =>
      cases (show Dat X.K G1 v (.int i) from a1)
      exact ⟨i, rfl, h1 _ G1 H1 R1 (EStp.refl R1) rfl⟩
    | _ => exact (show False from h1).elim
  | _ => exact (show False from h1).elim
def fSl (fa : Ev Wv) (fl fh : Ev (Option Int)) : Ev Wv := fun ρ => (fa ρ).bind fun ρ1 w => (fl ρ1).bind fun ρ2 lo => (fh ρ2).bind fun ρ3 hi => match look ρ3 w with
  | some d => oW ρ3 (gSl d lo hi)
  | none => .stk
theorem de_sl {lo hi : Option Expr} {p2 : Pos} {fl fh : Ev (Option Int)} (ha : DE X T W a fa) (hl : DO X T W lo fl) (hh : DO X T W hi fh) : DE X T W (.Subscript a (.Slice lo hi none p2) pos) (fSl fa fl fh) := by
  refine PE.mono (pe_slice sl_3 ha hl hh) fun σ H Q ⟨G, ρ, R, h⟩ => ?_
  refine tDX.mono (tRX.bind (rel := wRel X.K) (rel' := wRel X.K) R h) fun x H1 ⟨G1, ρ1, w, R1, s1, a1, h1⟩ => ?_
  refine tDX.mono (tRX.bind (rel := oRel) (rel' := wRel X.K) R1 h1) fun l H2 ⟨G2, ρ2, w2, R2, s2, a2, h2⟩ => ?_
  refine tDX.mono (tRX.bind (rel := oRel) (rel' := wRel X.K) R2 h2) fun u H3 ⟨G3, ρ3, w3, R3, s3, a3, h3⟩ => ?_
  cases (show l = w2 from a2)
  cases (show u = w3 from a3)
  have b1 := WAt.step R s1 R1 (s2.trans R1 s3) a1
  cases e : look ρ3 w with
  | none => rw [e] at h3; exact h3.elim
  | some d =>
    rw [e] at h3
    exact d_sl R3.gh (look_at R3 b1 e) (opR_of R3 h3)

/-! ### calls of built-ins -/
theorem de_callB1 {id : String} {x : Str} {p : Pos} {r : List V → Hp → VK → Prop} {g : D → Option Wv} (hc : CallR X (.builtin id) r) (o : OpD1 X (fun x H Q => r [x] H Q) g) (hg : Gl X x) (hm : X.mg x = none) (hv : bootBuiltins x = some (.builtin id)) (ha : DE X T W a fa)
    (hn : x ≠ "__name__" := by decide) (hdb : (x == ("__debug__" : Str)) = false := by decide) (he : starEach [a] X.env = (false, eval a X.env) :: starEach [] X.env := by rfl) (hpl : (backTo pos (starEach [] X.env)).any (·.1) = false := by rfl) :
    DE X T W (.Call (.Name x p) [a] [] pos) (fUn g fa) :=
  PE.mono (pe_callB hc hg hm hv (pa_cons ha pa_nil he) hn hdb he hpl) fun σ H Q h => one_op o h
theorem de_callT1 {id : String} {x : Str} {p : Pos} {r : List V → Hp → VK → Prop} {g : D → Option Wv} (hc : CallR X (.type id) r) (o : OpD1 X (fun x H Q => r [x] H Q) g) (hg : Gl X x) (hm : X.mg x = none) (hv : bootBuiltins x = some (.type id)) (ha : DE X T W a fa)
    (hn : x ≠ "__name__" := by decide) (hdb : (x == ("__debug__" : Str)) = false := by decide) (he : starEach [a] X.env = (false, eval a X.env) :: starEach [] X.env := by rfl) (hpl : (backTo pos (starEach [] X.env)).any (·.1) = false := by rfl) :
    DE X T W (.Call (.Name x p) [a] [] pos) (fUn g fa) :=
  PE.mono (pe_callTy hc hg hm hv (pa_cons ha pa_nil he) hn hdb he hpl) fun σ H Q h => one_op o h
theorem de_callB2 {id : String} {x : Str} {p : Pos} {r : List V → Hp → VK → Prop} {g : D → D → Option Wv} (hc : CallR X (.builtin id) r) (o : OpD X (fun x y H Q => r [x, y] H Q) g) (hg : Gl X x) (hm : X.mg x = none) (hv : bootBuiltins x = some (.builtin id)) (ha : DE X T W a fa) (hb : DE X T W b fb)
    (hn : x ≠ "__name__" := by decide) (hdb : (x == ("__debug__" : Str)) = false := by decide) (he : starEach [a, b] X.env = (false, eval a X.env) :: starEach [b] X.env := by rfl) (he2 : starEach [b] X.env = (false, eval b X.env) :: starEach [] X.env := by rfl) (hpl : (backTo pos (starEach [b] X.env)).any (·.1) = false := by rfl) :
    DE X T W (.Call (.Name x p) [a, b] [] pos) (fOp g fa fb) :=
  PE.mono (pe_callB hc hg hm hv (pa_cons ha (pa_cons hb pa_nil he2) he) hn hdb he hpl) fun σ H Q h => two_ops o h
/-! len -/
def gLen : D → Option Wv
  | .str z => if fits z.length then some (.val (.int z.length)) else none
  | .tup xs => some (.val (.int xs.length))
  | .lst xs => some (.val (.int xs.length))
  | .scr xs => some (.val (.int xs.length))
  | _ => none
def rLen2 (K : PySem.W.Frag) : List V → Hp → VK → Prop := fun xs H Q => (∃ p ys, xs = [.ref p] ∧ (SqL K H p ys ∨ SqT K H p ys) ∧ Q (.int ys.length) H) ∨ ∃ z, xs = [.str z] ∧ z.length ≤ sizeLine ∧ Q (.int z.length) H
theorem c_len : CallR X (.builtin "len") (rLen2 X.K) := CallR.or call_len_seq call_len_str
theorem d_len : OpD1 X (fun x H Q => rLen2 X.K [x] H Q) gLen := fun G H x d Q s hx h => by
  unfold gLen at h
  split at h
  · split at h
    · rename_i z
      exact .inr ⟨_, by rw [rat_str hx], fits_ok z, opR.val s h (.int _)⟩
    · exact h.elim
  · obtain ⟨a, xs, rfl, q, r⟩ := rat_tup s hx
    exact .inl ⟨a, xs, rfl, .inr q, by rw [r.len]; exact opR.val s h (.int _)⟩
  · obtain ⟨a, xs, rfl, q, r⟩ := hx
    exact .inl ⟨a, xs, rfl, .inl (.of q), by rw [r.len]; exact opR.val s h (.int _)⟩
  · obtain ⟨a, xs, rfl, q, r⟩ := rat_scr s hx
    exact .inl ⟨a, xs, rfl, .inl q, by rw [r.len]; exact opR.val s h (.int _)⟩
  · exact h.elim
/-! all, any -/
def bls : List D → Option (List Bool)
  | [] => some []
  | .bl b :: r => (bls r).map (b :: ·)
  | _ => none
theorem bls_eq : ∀ {ds : List D} {bs : List Bool}, bls ds = some bs → ds = bs.map D.bl
  | [], bs, e => by cases e; rfl
  | .bl b :: r, bs, e => by
    have e : (bls r).map (b :: ·) = some bs := e
    cases z : bls r with
    | none => rw [z] at e; cases e
    | some cs => rw [z] at e; cases e; rw [bls_eq z]; rfl
  | .non :: _, _, e => by cases e
  | .int _ :: _, _, e => by cases e
  | .str _ :: _, _, e => by cases e
  | .tup _ :: _, _, e => by cases e
  | .lst _ :: _, _, e => by cases e
  | .scr _ :: _, _, e => by cases e
  | .dic _ _ :: _, _, e => by cases e
  | .dit _ _ :: _, _, e => by cases e
  | .opq _ :: _, _, e => by cases e
def gAll : D → Option Wv
  | .lst ds => (bls ds).map fun bs => .val (.bl (bs.all id))
  | _ => none
theorem d_all : OpD1 X (fun x H Q => rAll X.K [x] H Q) gAll := fun G H x d Q s hx h => by
  unfold gAll at h
  split at h
  · rename_i ds
    cases e : bls ds with
    | none => rw [e] at h; exact h.elim
    | some bs =>
      rw [e] at h
      obtain ⟨a, xs, rfl, q, r⟩ := hx
      rw [bls_eq e] at r
      rw [r.bls] at q
      exact ⟨a, bs, rfl, .of q, opR.val s h (.bl _)⟩
  · exact h.elim
/-! list, tuple -/
def gList (d : D) : Option Wv := d.seq?.map fun ds => .tmp (.lst ds)
theorem d_list : OpD1 X (fun x H Q => (fun xs (H : Hp) (Q : VK) => ∃ p ys, xs = [V.ref p] ∧ (SqL X.K H p ys ∨ SqT X.K H p ys) ∧ ∀ l, H l = none → Q (.ref l) (upd H l (.lst ys))) [x] H Q) gList := fun G H x d Q s hx h => by
  unfold gList at h
  cases e : d.seq? with
  | none => rw [e] at h; exact h.elim
  | some ds =>
    rw [e] at h
    obtain ⟨a, xs, rfl, q, r⟩ := rat_seq s hx e
    exact ⟨a, xs, rfl, q, fun l hl => opR.newL s h r hl⟩
def gTuple (d : D) : Option Wv := d.seq?.map fun ds => .val (.tup ds)
theorem d_tuple : OpD1 X (fun x H Q => (fun xs (H : Hp) (Q : VK) => ∃ p ys, xs = [V.ref p] ∧ ((SqL X.K H p ys ∧ ∀ l, H l = none → Q (.ref l) (upd H l (.tup ys))) ∨ (SqT X.K H p ys ∧ Q (.ref p) H))) [x] H Q) gTuple := fun G H x d Q s hx h => by
  unfold gTuple at h
  cases d with
  | tup ds =>
    obtain ⟨a, xs, rfl, q, r⟩ := rat_tup s hx
    exact ⟨a, xs, rfl, .inr ⟨q, opR.val s h (by cases hx with | tup c1 c2 => exact .tup c1 c2)⟩⟩
  | lst ds =>
    obtain ⟨a, xs, rfl, q, r⟩ := hx
    exact ⟨a, xs, rfl, .inl ⟨.of q, fun l hl => opR.newT s h r hl⟩⟩
  | scr ds =>
    obtain ⟨a, xs, rfl, q, r⟩ := rat_scr s hx
    exact ⟨a, xs, rfl, .inl ⟨q, fun l hl => opR.newT s h r hl⟩⟩
  | _ => exact h.elim
/-! numbers -/
def gAbs : D → Option Wv
  | .int i => some (.val (.int (if i < 0 then -i else i)))
  | _ => none
theorem d_abs : OpD1 X (fun x H Q => (fun xs (H : Hp) (Q : VK) => ∃ i, xs = [V.int i] ∧ Q (.int (if i < 0 then -i else i)) H) [x] H Q) gAbs := fun G H x d Q s hx h => by
  unfold gAbs at h
  split at h
  · exact ⟨_, by rw [rat_int hx], opR.val s h (.int _)⟩
  · exact h.elim
def gInt : D → Option Wv
  | .int i => some (.val (.int i))
  | .bl k => some (.val (.int (if k then 1 else 0)))
  | _ => none
theorem d_int : OpD1 X (fun x H Q => (fun xs (H : Hp) (Q : VK) => (∃ i, xs = [V.int i] ∧ Q (.int i) H) ∨ ∃ k, xs = [V.bl k] ∧ Q (.int (if k then 1 else 0)) H) [x] H Q) gInt := fun G H x d Q s hx h => by
  unfold gInt at h
  split at h
  · exact .inl ⟨_, by rw [rat_int hx], opR.val s h (.int _)⟩
  · exact .inr ⟨_, by rw [rat_bl hx], opR.val s h (.int _)⟩
  · exact h.elim
def gMin : D → D → Option Wv := g2I fun i j => some (.int (if j < i then j else i))
theorem d_min : OpD X (fun x y H Q => (fun xs (H : Hp) (Q : VK) => ∃ i j, xs = [V.int i, V.int j] ∧ Q (.int (if j < i then j else i)) H) [x, y] H Q) gMin := fun G H x y d e Q s hx hy h => by
  obtain ⟨i, j, r, rfl, rfl, z, h⟩ := g2I_some h
  cases z
  exact ⟨i, j, by rw [rat_int hx, rat_int hy], opR.val s h (.int _)⟩
def gMax : D → D → Option Wv := g2I fun i j => some (.int (if j > i then j else i))
theorem d_max : OpD X (fun x y H Q => (fun xs (H : Hp) (Q : VK) => ∃ i j, xs = [V.int i, V.int j] ∧ Q (.int (if j > i then j else i)) H) [x, y] H Q) gMax := fun G H x y d e Q s hx hy h => by
  obtain ⟨i, j, r, rfl, rfl, z, h⟩ := g2I_some h
  cases z
  exact ⟨i, j, by rw [rat_int hx, rat_int hy], opR.val s h (.int _)⟩
def gStr : D → Option Wv
  | .int i => if decide (i.natAbs.log2 < 1920) then some (.val (.str (toString i))) else none
  | _ => none
theorem d_str : OpD1 X (fun x H Q => (fun xs (H : Hp) (Q : VK) => ∃ i, xs = [V.int i] ∧ i.natAbs.log2 < 1920 ∧ Q (.str (toString i)) H) [x] H Q) gStr := fun G H x d Q s hx h => by
  unfold gStr at h
  split at h
  · split at h
    · rename_i z
      exact ⟨_, by rw [rat_int hx], of_decide_eq_true z, opR.val s h (.str _)⟩
    · exact h.elim
  · exact h.elim
/-! isinstance -/
def D.ty : D → Option String
  | .non => some "NoneType"
  | .bl _ => some "bool"
  | .int _ => some "int"
  | .str _ => some "str"
  | .tup _ => some "tuple"
  | .lst _ => some "list"
  | .scr _ => some "list"
  | .dic _ _ => some "dict"
  | .dit _ _ => some "dict"
  | .opq _ => none
theorem ty_at {K : PySem.W.Frag} {G H : Hp} {v : V} {d : D} {n : String} (s : Sub G H) (h : RAt K G H v d) (e : d.ty = some n) : TyX K H v (.type n) := by
  cases d with
  | non => cases e; cases h; exact .base .non
  | bl b => cases e; cases h; exact .base (.bl b)
  | int b => cases e; cases h; exact .base (.int b)
  | str b => cases e; cases h; exact .base (.str b)
  | tup ds =>
    cases e
    obtain ⟨a, xs, rfl, q, r⟩ := rat_tup s h
    rcases q with (q | ⟨o, q⟩) | ⟨o, its, k, q, c, _⟩
    · exact .base (.tup q)
    · exact .fTuple q
    · exact .kTuple q c
  | scr ds =>
    cases e
    obtain ⟨a, xs, rfl, q, r⟩ := rat_scr s h
    rcases q with (q | ⟨o, q⟩) | ⟨o, its, k, q, c, _⟩
    · exact .base (.lst q)
    · exact .base (.frz q)
    · exact .kList q c
  | lst ds => cases e; obtain ⟨a, xs, rfl, q, r⟩ := h; exact .base (.lst q)
  | dic ks ds => cases e; obtain ⟨a, xs, rfl, q, r⟩ := h; exact .base (.dK q)
  | dit ks ds => cases e; obtain ⟨a, xs, rfl, q, r⟩ := h; exact .base (.dT q)
  | opq v => cases e
def isiB (n m : String) : Option Bool := kitB n m
def gIsi (d e : D) : Option Wv := match d.ty, e with
  | some n, .opq (.ty m) => (kitB n m).map fun b => .val (.bl b)
  | _, _ => none
theorem d_isi : OpD X (fun x y H Q => rIsi X.K [x, y] H Q) gIsi := fun G H x y d e Q s hx hy h => by
  unfold gIsi at h
  split at h
  · rename_i n m e1
    cases z : kitB n m with
    | none => rw [z] at h; exact h.elim
    | some b =>
      rw [z] at h
      cases (show Dat X.K G y (.opq (.ty m)) from hy)
      exact ⟨x, _, _, _, b, rfl, .ty m, ty_at s hx e1, kit_ty z, opR.val s h (.bl b)⟩
  · exact h.elim
/-- a built-in class as a value -/
theorem de_ty {x : Str} {n : String} (hg : Gl X x) (hm : X.mg x = none) (hv : bootBuiltins x = some (.type n)) (hn : x ≠ "__name__" := by decide) (hd : (x == ("__debug__" : Str)) = false := by decide) : DE X T W (.Name x pos) (fC (.opq (.ty n))) :=
  PE.mono (pe_bltn (v := V.ty n) hg hm hv (show L2.RelV (V.ty n) (Value.type n) from rfl) hn hd) fun σ H Q ⟨G, ρ, R, h⟩ => fin_val R h (.opq _)
end
end DL
namespace DL
open PySem PySem.Spec
open PyProof.Rows hiding St
open L2
/-! ### statements -/
inductive SOut where
  | nx (ρ : En) | rt (ρ : En) (w : Wv) | bk (ρ : En) | ct (ρ : En) | exc (c : Str) | stk
abbrev Sv := En → SOut
section
variable {K : PySem.W.Frag} {T : List (Addr × Str)} {σ σ0 σ1 σ2 : St} {ρ ρ0 ρ1 ρ2 : En} {G G0 G1 G2 H H0 H1 H2 : Hp} {mg : Str → Option Value} {W : WX}
variable (K T) in
def tS (mg : Str → Option Value) (W : WX) (σ : St) (ρ : En) (G H : Hp) (r : SOut) (D : Ends) : Prop := match r with
  | .nx ρ' => ∀ σ' G' H', SR K T G' H' σ' ρ' → Stp T σ ρ G H σ' ρ' G' H' → D.nx σ' H'
  | .bk ρ' => ∀ σ' G' H', SR K T G' H' σ' ρ' → Stp T σ ρ G H σ' ρ' G' H' → D.bk σ' H'
  | .ct ρ' => ∀ σ' G' H', SR K T G' H' σ' ρ' → Stp T σ ρ G H σ' ρ' G' H' → D.ct σ' H'
  | .rt ρ' w => ∀ v σ' G' H', SR K T G' H' σ' ρ' → Stp T σ ρ G H σ' ρ' G' H' → WAt K G' H' σ' ρ' H v w → D.rt v H'
  | .exc c => ∀ C σ' H', mg c = some (.ref C) → StX T σ ρ H H' → W (.ref C) none σ' H'
  | .stk => False
variable (K T) in
def tDS (mg : Str → Option Value) (W : WX) (f : Sv) : TS := fun D σ H => ∃ G ρ, SR K T G H σ ρ ∧ tS K T mg W σ ρ G H (f ρ) D
theorem tS.later {r : SOut} {D : Ends} (R : SR K T G H σ ρ) (s : Stp T σ ρ G H σ1 ρ1 G1 H1) (h : tS K T mg W σ ρ G H r D) : tS K T mg W σ1 ρ1 G1 H1 r D := by
  cases r with
  | nx ρ' => exact fun σ' G' H' a b => h σ' G' H' a (s.trans R b)
  | bk ρ' => exact fun σ' G' H' a b => h σ' G' H' a (s.trans R b)
  | ct ρ' => exact fun σ' G' H' a b => h σ' G' H' a (s.trans R b)
  | rt ρ' w => exact fun v σ' G' H' a b c => h v σ' G' H' a (s.trans R b) (Early.up (rel := wRel K) s.al c)
  | exc c => exact fun C σ' H' e x => h C σ' H' e (StX.after s x)
  | stk => exact h
theorem tS.mono {r : SOut} {D D' : Ends} (h : tS K T mg W σ ρ G H r D) (m1 : ∀ σ H, D.nx σ H → D'.nx σ H) (m2 : ∀ v H, D.rt v H → D'.rt v H) (m3 : ∀ σ H, D.bk σ H → D'.bk σ H) (m4 : ∀ σ H, D.ct σ H → D'.ct σ H) : tS K T mg W σ ρ G H r D' := by
  cases r with
  | nx ρ' => exact fun σ' G' H' a b => m1 _ _ (h σ' G' H' a b)
  | bk ρ' => exact fun σ' G' H' a b => m3 _ _ (h σ' G' H' a b)
  | ct ρ' => exact fun σ' G' H' a b => m4 _ _ (h σ' G' H' a b)
  | rt ρ' w => exact fun v σ' G' H' a b c => m2 _ _ (h v σ' G' H' a b c)
  | exc c => exact h
  | stk => exact h
def Out.thenS {α : Type} (x : Out α) (f : En → α → SOut) : SOut := match x with
  | .ok ρ a => f ρ a
  | .exc c => .exc c
  | .stk => .stk
@[simp] theorem Out.thenS_ok {α : Type} {ρ : En} {a : α} {f : En → α → SOut} : (Out.ok ρ a).thenS f = f ρ a := rfl
@[simp] theorem Out.thenS_exc {α : Type} {c : Str} {f : En → α → SOut} : (Out.exc c).thenS f = .exc c := rfl
@[simp] theorem Out.thenS_stk {α : Type} {f : En → α → SOut} : (Out.stk).thenS f = .stk := rfl
/-- an expression at a statement's head: told from the start -/
theorem tS.bind0 {α β : Type} {rel : Rel α β} {f : Ev α} {k : En → α → SOut} {D : Ends} (R : SR K T G H σ ρ) (h : tS K T mg W σ ρ G H ((f ρ).thenS k) D) :
    tDX K T rel mg W f σ H fun v H1 => ∃ G1 ρ1 w, SR K T G1 H1 σ ρ1 ∧ EStp T σ ρ G H ρ1 G1 H1 ∧ rel G1 H1 σ ρ1 H v w ∧ tS K T mg W σ ρ G H (k ρ1 w) D := by
  refine ⟨G, ρ, R, ?_⟩
  cases e : f ρ with
  | ok ρ' w =>
    rw [e] at h
    exact fun v G' H' a b c => ⟨G', ρ', w, a, b, c, h⟩
  | exc c =>
    rw [e] at h
    exact fun C H' e x => h C σ H' e x
  | stk => rw [e] at h; exact h
/-! ### storing a name -/
def isIo (ρ : En) (i : Nat) : Bool := match ρ[i]? with
  | some (.io _) => true
  | none => true
  | _ => false
def putS (ρ : En) (i : Nat) : Wv → Option En
  | .val d => if isIo ρ i then none else some (ρ.set i (.val d))
  | .tmp o => if isIo ρ i then none else some (ρ.set i (.own o))
  | .slot j => match frz ρ (.slot j) with
    | some (ρ1, d) => if isIo ρ1 i then none else some (ρ1.set i (.val d))
    | none => none
theorem isIo_no {i : Nat} (h : isIo ρ i = false) : ∃ s, ρ[i]? = some s ∧ ∀ o, s ≠ .io o := by
  unfold isIo at h
  split at h
  · cases h
  · cases h
  · rename_i s h1 h2
    cases e : ρ[i]? with
    | none => exact (h2 e).elim
    | some s => exact ⟨s, rfl, fun o z => h1 o (by rw [e, z])⟩
theorem set_back {i : Nat} {v : V} {s : Sl} (hi : i < ρ.length) (hl : σ.length = ρ.length) {j : Nat} {b : Addr} (c : OwnI (σ.set i (some v)) (ρ.set i s) j b) : (j ≠ i ∧ OwnI σ ρ j b) ∨ (j = i ∧ v = .ref b ∧ ∃ o, s.held = some o) := by
  obtain ⟨c1, s2, o2, c2, c3⟩ := c
  by_cases hj : j = i
  · subst hj
    rw [List.getElem?_set_self hi] at c2
    rw [List.getElem?_set_self (by omega)] at c1
    cases c1; cases c2
    exact .inr ⟨rfl, rfl, o2, c3⟩
  · rw [List.getElem?_set_ne (Ne.symm hj)] at c2 c1
    exact .inl ⟨hj, c1, s2, o2, c2, c3⟩
/-- frozen data is stored -/
theorem put_val {i : Nat} {v : V} {d : D} (R : SR K T G H σ ρ) (h : isIo ρ i = false) (q : Dat K G v d) : SR K T G H (σ.set i (some v)) (ρ.set i (.val d)) ∧ Stp T σ ρ G H (σ.set i (some v)) (ρ.set i (.val d)) G H := by
  obtain ⟨s0, hs0, nio⟩ := isIo_no h
  have hi : i < ρ.length := (List.getElem?_eq_some_iff.mp hs0).1
  have back : ∀ j b, OwnI (σ.set i (some v)) (ρ.set i (.val d)) j b → OwnI σ ρ j b := fun j b c => by
    rcases set_back hi R.len c with ⟨_, c⟩ | ⟨_, _, o, c⟩
    · exact c
    · cases c
  refine ⟨⟨by simp [R.len], fun j s hj => ?_, fun j k b c1 c2 => R.ap j k b (back j b c1) (back k b c2), R.gh, R.tab, R.gt⟩, ⟨Sub.refl G, fun a e e' => (e' e).elim, fun _ _ e _ _ => e, fun _ e => e, fun a ⟨j, c⟩ => .inl ⟨j, back j a c⟩, fun j o hj => ?_, fun j o a hj hσ => (R.og ⟨j, hσ, _, _, hj, rfl⟩).1⟩⟩
  · by_cases hji : j = i
    · subst hji
      rw [List.getElem?_set_self hi] at hj
      cases hj
      exact ⟨_, List.getElem?_set_self (by rw [R.len]; exact hi), v, rfl, q⟩
    · rw [List.getElem?_set_ne (Ne.symm hji)] at hj ⊢
      exact R.at_ j s hj
  · have hji : j ≠ i := fun z => by rw [z, hs0] at hj; exact nio o (Option.some.inj hj)
    exact ⟨⟨o, by rw [List.getElem?_set_ne (Ne.symm hji)]; exact hj⟩, by rw [List.getElem?_set_ne (Ne.symm hji)]⟩
/-- a new object is stored; R0, s0: since where it is new -/
theorem put_own {i : Nat} {a : Addr} {o : OD} (R0 : SR K T G0 H0 σ0 ρ0) (s0 : Stp T σ0 ρ0 G0 H0 σ ρ G H) (R : SR K T G H σ ρ) (h : isIo ρ i = false) (h0 : H0 a = none) (no : ¬ Own σ ρ a) (g : G a = none) (q : OAt K G H a o) :
    SR K T G H (σ.set i (some (.ref a))) (ρ.set i (.own o)) ∧ Stp T σ0 ρ0 G0 H0 (σ.set i (some (.ref a))) (ρ.set i (.own o)) G H := by
  obtain ⟨s1, hs1, nio⟩ := isIo_no h
  have hi : i < ρ.length := (List.getElem?_eq_some_iff.mp hs1).1
  refine ⟨⟨by simp [R.len], fun j s hj => ?_, fun j k b c1 c2 => ?_, R.gh, R.tab, R.gt⟩, ⟨s0.gg, s0.gf, s0.fr, s0.al, fun b ⟨j, c⟩ => ?_, fun j o' hj => ?_, fun j o' b hj hσ => s0.iog j o' b hj hσ⟩⟩
  · by_cases hji : j = i
    · subst hji
      rw [List.getElem?_set_self hi] at hj
      cases hj
      exact ⟨_, List.getElem?_set_self (by rw [R.len]; exact hi), a, rfl, g, q⟩
    · rw [List.getElem?_set_ne (Ne.symm hji)] at hj ⊢
      exact R.at_ j s hj
  · rcases set_back hi R.len c1 with ⟨d1, c1⟩ | ⟨d1, e1, _⟩
    · rcases set_back hi R.len c2 with ⟨d2, c2⟩ | ⟨d2, e2, _⟩
      · exact R.ap j k b c1 c2
      · cases e2; exact (no ⟨j, c1⟩).elim
    · rcases set_back hi R.len c2 with ⟨d2, c2⟩ | ⟨d2, e2, _⟩
      · cases e1; exact (no ⟨k, c2⟩).elim
      · rw [d1, d2]
  · rcases set_back hi R.len c with ⟨_, c⟩ | ⟨_, e, _⟩
    · exact s0.own b ⟨j, c⟩
    · cases e; exact .inr h0
  · obtain ⟨⟨o1, c1⟩, c2⟩ := s0.io j o' hj
    have hji : j ≠ i := fun z => by rw [z, hs1] at c1; exact nio o1 (Option.some.inj c1)
    exact ⟨⟨o1, by rw [List.getElem?_set_ne (Ne.symm hji)]; exact c1⟩, by rw [List.getElem?_set_ne (Ne.symm hji)]; exact c2⟩
theorem putS_at {i : Nat} {v : V} {w : Wv} (R0 : SR K T G0 H0 σ ρ0) (s0 : EStp T σ ρ0 G0 H0 ρ G H) (R : SR K T G H σ ρ) (h : WAt K G H σ ρ H0 v w) (e : putS ρ i w = some ρ1) :
    ∃ G', SR K T G' H (σ.set i (some v)) ρ1 ∧ Stp T σ ρ0 G0 H0 (σ.set i (some v)) ρ1 G' H := by
  cases w with
  | val d =>
    have e : (if isIo ρ i then none else some (ρ.set i (.val d))) = some ρ1 := e
    cases z : isIo ρ i with
    | true => rw [z] at e; cases e
    | false =>
      rw [z] at e
      cases e
      obtain ⟨c1, c2⟩ := put_val R z h
      exact ⟨G, c1, s0.toStp.trans R0 c2⟩
  | tmp o =>
    have e : (if isIo ρ i then none else some (ρ.set i (.own o))) = some ρ1 := e
    cases z : isIo ρ i with
    | true => rw [z] at e; cases e
    | false =>
      rw [z] at e
      cases e
      obtain ⟨a, rfl, h0, g, q⟩ := h
      exact ⟨G, put_own R0 s0.toStp R z h0 (fun y => Own.there R0 (s0.onA y) h0) g q⟩
  | slot j =>
    have e : (match frz ρ (.slot j) with | some (ρ1, d) => if isIo ρ1 i then none else some (ρ1.set i (.val d)) | none => none) = some ρ1 := e
    cases y : frz ρ (.slot j) with
    | none => rw [y] at e; cases e
    | some p =>
      obtain ⟨ρ2, d⟩ := p
      rw [y] at e
      obtain ⟨G', R', s', q'⟩ := frz_at R0 s0 R h y
      have e : (if isIo ρ2 i then none else some (ρ2.set i (.val d))) = some ρ1 := e
      cases z : isIo ρ2 i with
      | true => rw [z] at e; cases e
      | false =>
        rw [z] at e
        cases e
        obtain ⟨c1, c2⟩ := put_val R' z q'
        exact ⟨G', c1, s'.toStp.trans R0 c2⟩
end
section
variable {X : Cx} {T : List (Addr × Str)} {W : WX} {pos : Pos} {a b c : Expr} {es : List Expr} {fa fb fc : Ev Wv} {p : Ev Bool} {st : Stmt} {rest : List Stmt} {f g : Sv}
abbrev DS (X : Cx) (T : List (Addr × Str)) (W : WX) (st : Stmt) (f : Sv) : Prop := PS X st (tDS X.K T X.mg W f)
abbrev DSs (X : Cx) (T : List (Addr × Str)) (W : WX) (st : List Stmt) (f : Sv) : Prop := PSs X st (tDS X.K T X.mg W f)
def sNil : Sv := fun ρ => .nx ρ
def sSeq (f g : Sv) : Sv := fun ρ => match f ρ with
  | .nx ρ1 => g ρ1
  | r => r
theorem dss_nil : DSs X T W [] sNil := PSs.mono pss_nil fun D σ H ⟨G, ρ, R, h⟩ => h σ G H R (Stp.refl R)
theorem dss_cons (h1 : DS X T W st f) (h2 : DSs X T W rest g) : DSs X T W (st :: rest) (sSeq f g) := by
  refine PSs.mono (pss_cons h1 h2) fun D σ H ⟨G, ρ, R, h⟩ => ⟨G, ρ, R, ?_⟩
  unfold sSeq at h
  cases e : f ρ with
  | nx ρ1 =>
    rw [e] at h
    exact fun σ' G' H' a b => ⟨G', ρ1, a, tS.later R b h⟩
  | _ => rw [e] at h; exact h
def sExpr (fa : Ev Wv) : Sv := fun ρ => (fa ρ).thenS fun ρ1 _ => .nx ρ1
theorem ds_expr (ha : DE X T W a fa) (hs : swapsWith a none pos.line X.env = pure false := by rfl) : DS X T W (.Expr a pos) (sExpr fa) := by
  refine PS.mono (ps_expr ha hs) fun D σ H ⟨G, ρ, R, h⟩ => ?_
  refine tDX.mono (tS.bind0 (rel := wRel X.K) R h) fun v H1 ⟨G1, ρ1, w, R1, s1, a1, h1⟩ => ?_
  exact h1 σ G1 H1 R1 s1.toStp
theorem ds_pass : DS X T W (.Pass pos) sNil := PS.mono ps_pass fun D σ H ⟨G, ρ, R, h⟩ => h σ G H R (Stp.refl R)
def sBk : Sv := fun ρ => .bk ρ
theorem ds_break : DS X T W (.Break pos) sBk := PS.mono ps_break fun D σ H ⟨G, ρ, R, h⟩ => h σ G H R (Stp.refl R)
def sRet (fa : Ev Wv) : Sv := fun ρ => (fa ρ).thenS fun ρ1 w => .rt ρ1 w
theorem ds_ret (ha : DE X T W a fa) : DS X T W (.Return (some a) pos) (sRet fa) := by
  refine PS.mono (ps_ret ha) fun D σ H ⟨G, ρ, R, h⟩ => ?_
  refine tDX.mono (tS.bind0 (rel := wRel X.K) R h) fun v H1 ⟨G1, ρ1, w, R1, s1, a1, h1⟩ => ?_
  exact h1 v σ G1 H1 R1 s1.toStp a1
def sRetN : Sv := fun ρ => .rt ρ (.val .non)
theorem ds_retN : DS X T W (.Return none pos) sRetN := PS.mono ps_retN fun D σ H ⟨G, ρ, R, h⟩ => h .non σ G H R (Stp.refl R) .non
def sIf (p : Ev Bool) (f g : Sv) : Sv := fun ρ => (p ρ).thenS fun ρ1 k => match k with
  | true => f ρ1
  | false => g ρ1
theorem ds_if {x y : List Stmt} (hc : DT X T W c p) (ha : DSs X T W x f) (hb : DSs X T W y g) : DS X T W (.If c x y pos) (sIf p f g) := by
  refine PS.mono (ps_if hc ha hb) fun D σ H ⟨G, ρ, R, h⟩ => ?_
  refine tDX.mono (tS.bind0 (rel := bRel) R h) fun v H1 ⟨G1, ρ1, w, R1, s1, a1, h1⟩ => ?_
  cases (show v = w from a1)
  have h2 := tS.later R s1.toStp h1
  cases v with
  | true => exact iteT ⟨G1, ρ1, R1, h2⟩
  | false => exact iteF ⟨G1, ρ1, R1, h2⟩
def oS : Option En → SOut
  | some ρ => .nx ρ
  | none => .stk
def sSet (i : Nat) (fa : Ev Wv) : Sv := fun ρ => (fa ρ).thenS fun ρ1 w => oS (putS ρ1 i w)
theorem ds_set {i : Nat} {x : Str} {pos' : Pos} (hN : X.N.Nodup) (hi : X.N[i]? = some x) (hx : Loc X.env.scope x) (ha : DE X T W a fa) (hs : swapsWith a (some (.Name x pos')) pos.line X.env = pure false := by rfl)
    (hf : X.fn x = true ∨ X.env.scope.names.lookup x = some .local := by first | exact .inl rfl | exact .inr rfl | assumption) : DS X T W (.Assign [.Name x pos'] a pos) (sSet i fa) := by
  refine PS.mono (ps_set hN hi hx ha hs hf) fun D σ H ⟨G, ρ, R, h⟩ => ?_
  refine tDX.mono (tS.bind0 (rel := wRel X.K) R h) fun v H1 ⟨G1, ρ1, w, R1, s1, a1, h1⟩ => ?_
  cases e : putS ρ1 i w with
  | none => rw [e] at h1; exact h1.elim
  | some ρ2 =>
    rw [e] at h1
    obtain ⟨G2, c1, c2⟩ := putS_at R s1 R1 a1 e
    exact h1 _ G2 H1 c1 c2
/-! ### targets: vs, the slots that they store -/
def tDG (K : PySem.W.Frag) (T : List (Addr × Str)) (vs : List Nat) (f : D → En → Option En) : TG := fun v σ H Q => ∃ G ρ d ρ', SR K T G H σ ρ ∧ Dat K G v d ∧ f d ρ = some ρ' ∧ ∀ σ' G' H', SR K T G' H' σ' ρ' → Stp T σ ρ G H σ' ρ' G' H' → wipe σ' vs = wipe σ vs → Q σ' H'
def tDGs (K : PySem.W.Frag) (T : List (Addr × Str)) (ws : List Nat) (f : List D → En → Option En) : TGs := fun vs σ H Q => ∃ G ρ ds ρ', SR K T G H σ ρ ∧ Dats K G vs ds ∧ f ds ρ = some ρ' ∧ ∀ σ' G' H', SR K T G' H' σ' ρ' → Stp T σ ρ G H σ' ρ' G' H' → wipe σ' ws = wipe σ ws → Q σ' H'
def OnlyIn {α : Type} (vs : List Nat) (f : α → En → Option En) : Prop := ∀ d ρ ρ', f d ρ = some ρ' → ρ'.length = ρ.length ∧ ∀ i : Nat, i ∉ vs → ρ'[i]? = ρ[i]?
structure DG (X : Cx) (T : List (Addr × Str)) (vs : List Nat) (e : Expr) (f : D → En → Option En) : Prop where
  pg : PG X e (tDG X.K T vs f)
  on : OnlyIn vs f
structure DGs (X : Cx) (T : List (Addr × Str)) (vs : List Nat) (es : List Expr) (f : List D → En → Option En) : Prop where
  pg : PGs X es (tDGs X.K T vs f)
  on : OnlyIn vs f
theorem PG.mono {e : Expr} {t t' : TG} (h : PG X e t) (m : ∀ v σ H Q, t' v σ H Q → t v σ H Q) : PG X e t' := ⟨fun pins s σ H v u Q I r q => h.run pins s σ H v u Q I r (m v σ H Q q)⟩
theorem PGs.mono {e : List Expr} {t t' : TGs} (h : PGs X e t) (m : ∀ v σ H Q, t' v σ H Q → t v σ H Q) : PGs X e t' := ⟨fun pins s σ H v u Q I r q => h.run pins s σ H v u Q I r (m v σ H Q q)⟩
theorem wipe_at (σ : St) (j : Nat) : ∀ vs : List Nat, (wipe σ vs)[j]? = if j ∈ vs then (σ[j]?).map (fun _ => none) else σ[j]?
  | [] => by simp [wipe]
  | v :: vs => by
    have ih := wipe_at σ j vs
    unfold wipe
    rw [List.getElem?_set]
    by_cases hj : v = j
    · subst hj
      rw [if_pos rfl, if_pos List.mem_cons_self, wipe_length]
      by_cases hl : v < σ.length
      · rw [if_pos hl, List.getElem?_eq_getElem hl]; rfl
      · rw [if_neg hl, List.getElem?_eq_none (by omega)]; rfl
    · rw [if_neg hj, ih]
      by_cases hm : j ∈ vs
      · rw [if_pos hm, if_pos (List.mem_cons_of_mem _ hm)]
      · rw [if_neg hm, if_neg (by simp only [List.mem_cons, not_or]; exact ⟨fun e => hj e.symm, hm⟩)]
theorem wipe_set {σ : St} {i : Nat} {v : Option V} {vs : List Nat} (h : i ∈ vs) : wipe (σ.set i v) vs = wipe σ vs := by
  apply List.ext_getElem?
  intro j
  rw [wipe_at, wipe_at]
  by_cases hj : j ∈ vs
  · rw [if_pos hj, if_pos hj, List.getElem?_set]
    by_cases e : i = j
    · subst e
      rw [if_pos rfl]
      by_cases hl : i < σ.length
      · rw [if_pos hl, List.getElem?_eq_getElem hl]; rfl
      · rw [if_neg hl, List.getElem?_eq_none (by omega)]
    · rw [if_neg e]
  · rw [if_neg hj, if_neg hj, List.getElem?_set_ne (show i ≠ j from fun e => hj (by rw [← e]; exact h))]
def nmG (i : Nat) (d : D) (ρ : En) : Option En := if isIo ρ i then none else some (ρ.set i (.val d))
theorem dg_name {vs : List Nat} {i : Nat} {x : Str} (hN : X.N.Nodup) (hi : X.N[i]? = some x) (hx : Loc X.env.scope x) (hv : i ∈ vs := by decide) (hf : X.fn x = true ∨ X.env.scope.names.lookup x = some .local := by first | exact .inl rfl | exact .inr rfl | assumption) : DG X T vs (.Name x pos) (nmG i) := by
  refine ⟨PG.mono (pg_name hN hi hx hf) fun v σ H Q ⟨G, ρ, d, ρ', R, q, e, k⟩ => ?_, fun d ρ ρ' e => ?_⟩
  · unfold nmG at e
    cases z : isIo ρ i with
    | true => rw [z] at e; cases e
    | false =>
      rw [z] at e
      cases e
      obtain ⟨c1, c2⟩ := put_val R z q
      exact k _ G H c1 c2 (wipe_set hv)
  · unfold nmG at e
    split at e
    · cases e
    · cases e
      exact ⟨List.length_set, fun j hj => List.getElem?_set_ne (show i ≠ j from fun z => hj (by rw [← z]; exact hv))⟩
def nilG (ds : List D) (ρ : En) : Option En := match ds with
  | [] => some ρ
  | _ => none
def consG (f : D → En → Option En) (r : List D → En → Option En) (ds : List D) (ρ : En) : Option En := match ds with
  | d :: ds => (f d ρ).bind fun ρ1 => r ds ρ1
  | [] => none
def tupG (n : Nat) (r : List D → En → Option En) (d : D) (ρ : En) : Option En := match d with
  | .tup ds => if ds.length = n then r ds ρ else none
  | _ => none
theorem dgs_nil {vs : List Nat} : DGs X T vs [] nilG := by
  refine ⟨PGs.mono pgs_nil fun vs σ H Q ⟨G, ρ, ds, ρ', R, q, e, k⟩ => ?_, fun ds ρ ρ' e => ?_⟩
  · cases q with
    | nil => cases e; exact ⟨rfl, k σ G H R (Stp.refl R) rfl⟩
    | cons a b => cases e
  · cases ds with
    | nil => cases e; exact ⟨rfl, fun _ _ => rfl⟩
    | cons a b => cases e
theorem dgs_cons {ws : List Nat} {f : D → En → Option En} {r : List D → En → Option En} (h1 : DG X T ws a f) (h2 : DGs X T ws es r) (hs : (assignEach (a :: es) X.env).map (·.2) = assign a X.env :: (assignEach es X.env).map (·.2) := by rfl) : DGs X T ws (a :: es) (consG f r) := by
  refine ⟨PGs.mono (pgs_cons h1.pg h2.pg hs) fun vs σ H Q ⟨G, ρ, ds, ρ', R, q, e, k⟩ => ?_, fun ds ρ ρ' e => ?_⟩
  · cases q with
    | nil => cases e
    | @cons v vs d ds q1 q2 =>
      have e : (f d ρ).bind (fun ρ1 => r ds ρ1) = some ρ' := e
      cases z : f d ρ with
      | none => rw [z] at e; cases e
      | some ρ1 =>
        rw [z] at e
        exact ⟨v, vs, rfl, G, ρ, d, ρ1, R, q1, z, fun σ' G' H' R' s' w' => ⟨G', ρ1, ds, ρ', R', q2.sub s'.gg, e, fun σ2 G2 H2 R2 s2 w2 => k σ2 G2 H2 R2 (s'.trans R s2) (w2.trans w')⟩⟩
  · cases ds with
    | nil => cases e
    | cons d ds =>
      have e : (f d ρ).bind (fun ρ1 => r ds ρ1) = some ρ' := e
      cases z : f d ρ with
      | none => rw [z] at e; cases e
      | some ρ1 =>
        rw [z] at e
        obtain ⟨c1, c2⟩ := h1.on d ρ ρ1 z
        obtain ⟨c3, c4⟩ := h2.on ds ρ1 ρ' e
        exact ⟨c3.trans c1, fun i hi => (c4 i hi).trans (c2 i hi)⟩
theorem dg_tup {vs : List Nat} {n k : Nat} {r : List D → En → Option En} (hc : X.calm = true) (h : DGs X T vs es r) (hn : (assignEach es X.env).length = n := by rfl) (hst : (assignEach es X.env).findIdx? (·.1) = none := by rfl) : DG X T vs (.Tuple es k pos) (tupG n r) := by
  refine ⟨PG.mono (pg_tup hc h.pg hn hst) fun v σ H Q ⟨G, ρ, d, ρ', R, q, e, k⟩ => ?_, fun d ρ ρ' e => ?_⟩
  · cases q with
    | @tup a xs ds q1 q2 =>
      have e : (if ds.length = n then r ds ρ else none) = some ρ' := e
      split at e
      · rename_i hl
        exact ⟨a, xs, rfl, SqT.sub R.gh q1, by rw [q2.len]; exact hl, G, ρ, ds, ρ', R, q2, e, k⟩
      · cases e
    | _ => cases e
  · cases d with
    | tup ds =>
      have e : (if ds.length = n then r ds ρ else none) = some ρ' := e
      split at e
      · exact h.on ds ρ ρ' e
      · cases e
    | _ => cases e
def sAsg (f : D → En → Option En) (fa : Ev D) : Sv := fun ρ => (fa ρ).thenS fun ρ1 d => oS (f d ρ1)
theorem ds_asg {vs : List Nat} {tg : Expr} {f : D → En → Option En} {fa : Ev D} (ha : DF X T W a fa) (hg : DG X T vs tg f) (hs : swapsWithSole [tg] a pos.line X.env = pure false := by rfl) (hw : swappedStores [tg] a X.env = pure none := by rfl)
    (h1 : (assignEach [tg] X.env).map (·.2) = [assign tg X.env] := by rfl) : DS X T W (.Assign [tg] a pos) (sAsg f fa) := by
  refine PS.mono (ps_asg ha hg.pg hs hw h1) fun D σ H ⟨G, ρ, R, h⟩ => ?_
  refine tDX.mono (tS.bind0 (rel := dRel X.K) R h) fun v H1 ⟨G1, ρ1, d, R1, s1, a1, h1⟩ => ?_
  cases e : f d ρ1 with
  | none => rw [e] at h1; exact h1.elim
  | some ρ2 =>
    rw [e] at h1
    exact ⟨G1, ρ1, d, ρ2, R1, a1, e, fun σ2 G2 H2 R2 s2 _ => h1 σ2 G2 H2 R2 (s1.toStp.trans R s2)⟩
end
end DL
namespace DL
open PySem PySem.Spec
open PyProof.Rows hiding St
open L2
/-! ### what is walked -/
structure Yl (K : PySem.W.Frag) (J : It) (G : Hp) (ds : List D) : Prop where
  go : ∀ i G1 H, Sub G G1 → Sub G1 H → i < ds.length → J.go i H
  stop : ∀ G1 H, Sub G G1 → Sub G1 H → J.stop ds.length H
  yld : ∀ (i : Nat) (d : D) G1 H x H', Sub G G1 → Sub G1 H → ds[i]? = some d → J.yld i H x H' → ∃ G2, Gx G1 H G2 H' ∧ Dat K G2 x d
def iRel (K : PySem.W.Frag) : Rel (List D) It := fun G H σ ρ H0 J ds => Yl K J G ds
instance (K : PySem.W.Frag) : Early (iRel K) where
  up := fun _ c => c
abbrev DI (X : Cx) (T : List (Addr × Str)) (W : WX) (tg e : Expr) (f : Ev (List D)) : Prop := PI X tg e (tDX X.K T (iRel X.K) X.mg W f)
theorem PI.mono {X : Cx} {tg e : Expr} {t t' : TI} (h : PI X tg e t) (m : ∀ σ H Q, t' σ H Q → t σ H Q) : PI X tg e t' := ⟨fun pins s σ H Q I q => h.run pins s σ H Q I (m σ H Q q)⟩
section
variable {K : PySem.W.Frag} {G H : Hp}
theorem yl_list {a : Addr} {xs : List V} {ds : List D} (q : SqL K G a xs) (r : Dats K G xs ds) : Yl K (Itl K a) G ds where
  go := fun i G1 H s1 s2 hi => by
    rw [← r.len] at hi
    exact ⟨xs, xs[i], SqL.sub (s1.trans s2) q, by simp [hi]⟩
  stop := fun G1 H s1 s2 => ⟨xs, SqL.sub (s1.trans s2) q, by rw [r.len]; exact Nat.le_refl _⟩
  yld := fun i d G1 H x H' s1 s2 e y => by
    obtain ⟨eh, y⟩ := y
    subst eh
    obtain ⟨v, h1, h2⟩ := r.get e
    have h3 := y xs (SqL.sub (s1.trans s2) q)
    rw [h1] at h3
    cases h3
    exact ⟨G1, Gx.refl s2, h2.sub s1⟩
theorem yl_tup {a : Addr} {xs : List V} {ds : List D} (q : SqT K G a xs) (r : Dats K G xs ds) : Yl K (Itt K a) G ds where
  go := fun i G1 H s1 s2 hi => by
    rw [← r.len] at hi
    exact ⟨xs, xs[i], SqT.sub (s1.trans s2) q, by simp [hi]⟩
  stop := fun G1 H s1 s2 => ⟨xs, SqT.sub (s1.trans s2) q, by rw [r.len]; exact Nat.le_refl _⟩
  yld := fun i d G1 H x H' s1 s2 e y => by
    obtain ⟨eh, y⟩ := y
    subst eh
    obtain ⟨v, h1, h2⟩ := r.get e
    have h3 := y xs (SqT.sub (s1.trans s2) q)
    rw [h1] at h3
    cases h3
    exact ⟨G1, Gx.refl s2, h2.sub s1⟩
def rng (lo : Int) (n : Nat) : List D := (List.range n).map fun i => D.int (lo + (i : Nat))
theorem rng_len (lo : Int) (n : Nat) : (rng lo n).length = n := by unfold rng; rw [List.length_map, List.length_range]
theorem yl_range (lo : Int) (n : Nat) : Yl K (Itr lo n) G (rng lo n) where
  go := fun i G1 H s1 s2 hi => by rw [rng_len] at hi; exact hi
  stop := fun G1 H s1 s2 => by rw [rng_len]; exact Nat.le_refl n
  yld := fun i d G1 H x H' s1 s2 e y => by
    obtain ⟨eh, y⟩ := y
    subst eh y
    have e2 : d = D.int (lo + (i : Nat)) := by
      unfold rng at e
      rw [List.getElem?_map] at e
      cases z : (List.range n)[i]? with
      | none => rw [z] at e; cases e
      | some j =>
        rw [z] at e
        have := (List.getElem?_eq_some_iff.mp z).2
        rw [List.getElem_range] at this
        subst this
        exact (Option.some.inj e).symm
    rw [e2]
    exact ⟨G1, Gx.refl s2, .int _⟩
end
section
variable {X : Cx} {T : List (Addr × Str)} {W : WX} {pos : Pos} {a b c tg iter : Expr} {es : List Expr} {fa fb fc : Ev Wv} {p : Ev Bool} {st : Stmt} {body rest : List Stmt} {f g : Sv}
/-- a list or a tuple, frozen -/
def iSeq (fa : Ev D) : Ev (List D) := fun ρ => (fa ρ).bind fun ρ1 d => match d.seq? with
  | some ds => .ok ρ1 ds
  | none => .stk
def iLst (fa : Ev D) : Ev (List D) := fun ρ => (fa ρ).bind fun ρ1 d => match d with
  | .lst ds => .ok ρ1 ds
  | .scr ds => .ok ρ1 ds
  | _ => .stk
def iTp (fa : Ev D) : Ev (List D) := fun ρ => (fa ρ).bind fun ρ1 d => match d with
  | .tup ds => .ok ρ1 ds
  | _ => .stk
theorem di_list {fa : Ev D} (ha : DF X T W a fa) : DI X T W tg a (iLst fa) := by
  refine PI.mono (pi_list ha) fun σ H Q ⟨G, ρ, R, h⟩ => ?_
  refine tDX.mono (tRX.bind (rel := dRel X.K) (rel' := iRel X.K) R h) fun v H1 ⟨G1, ρ1, d, R1, s1, a1, h1⟩ => ?_
  have a1 : Dat X.K G1 v d := a1
  cases a1 with
  | lst q r => exact ⟨_, rfl, ⟨_, .of (R1.gh _ _ q)⟩, h1 _ G1 H1 R1 (EStp.refl R1) (yl_list (.of q) r)⟩
  | scr q r => exact ⟨_, rfl, ⟨_, SqL.sub R1.gh q⟩, h1 _ G1 H1 R1 (EStp.refl R1) (yl_list q r)⟩
  | _ => exact (show False from h1).elim
theorem di_tup {fa : Ev D} (ha : DF X T W a fa) : DI X T W tg a (iTp fa) := by
  refine PI.mono (pi_tup ha) fun σ H Q ⟨G, ρ, R, h⟩ => ?_
  refine tDX.mono (tRX.bind (rel := dRel X.K) (rel' := iRel X.K) R h) fun v H1 ⟨G1, ρ1, d, R1, s1, a1, h1⟩ => ?_
  have a1 : Dat X.K G1 v d := a1
  cases a1 with
  | tup q r => exact ⟨_, rfl, ⟨_, SqT.sub R1.gh q⟩, h1 _ G1 H1 R1 (EStp.refl R1) (yl_tup q r)⟩
  | _ => exact (show False from h1).elim
/-- a list or a tuple: whichever it is -/
theorem PI.or {t u : TI} (h1 : PI X tg a t) (h2 : PI X tg a u) : PI X tg a (fun σ H R => t σ H R ∨ u σ H R) := ⟨fun pins s σ H Q I q => q.elim (fun q => h1.run pins s σ H Q I q) fun q => h2.run pins s σ H Q I q⟩
theorem di_seq {fa : Ev D} (ha : DF X T W a fa) : DI X T W tg a (iSeq fa) := by
  refine PI.mono (PI.or (di_list (T := T) (W := W) ha) (di_tup (T := T) (W := W) ha)) fun σ H Q ⟨G, ρ, R, h⟩ => ?_
  unfold iSeq at h
  cases e : fa ρ with
  | ok ρ1 d =>
    rw [e] at h
    cases d with
    | tup ds => exact .inr ⟨G, ρ, R, by unfold iTp; rw [e]; exact h⟩
    | lst ds => exact .inl ⟨G, ρ, R, by unfold iLst; rw [e]; exact h⟩
    | scr ds => exact .inl ⟨G, ρ, R, by unfold iLst; rw [e]; exact h⟩
    | _ => exact (show False from h).elim
  | exc c => rw [e] at h; exact .inl ⟨G, ρ, R, by unfold iLst; rw [e]; exact h⟩
  | stk => rw [e] at h; exact h.elim
def inR (i : Int) : Bool := decide (-(2 ^ 62) ≤ i) && decide (i < 2 ^ 62)
def iR1 (r : Ev (List D)) : Ev (List D) := fun ρ => (r ρ).bind fun ρ1 ds => match ds with
  | [.int j] => if inR j then .ok ρ1 (rng 0 j.toNat) else .stk
  | _ => .stk
def iR2 (r : Ev (List D)) : Ev (List D) := fun ρ => (r ρ).bind fun ρ1 ds => match ds with
  | [.int i, .int j] => if inR i && inR j then .ok ρ1 (rng i (j - i).toNat) else .stk
  | _ => .stk
theorem inR_ok {i : Int} (h : inR i = true) : -(2 ^ 62) ≤ i ∧ i < 2 ^ 62 := by
  unfold inR at h
  rw [Bool.and_eq_true, decide_eq_true_eq, decide_eq_true_eq] at h
  exact h
theorem di_range1 {r : Ev (List D)} {p pos : Pos} (hg : Gl X "range") (hm : X.mg "range" = none) (ha : DA X T W [a] r) (hs : starEach [a] X.env = [(false, eval a X.env)] := by rfl) : DI X T W tg (.Call (.Name "range" p) [a] [] pos) (iR1 r) := by
  refine PI.mono (pi_range1 hg hm ha hs) fun σ H Q ⟨G, ρ, R, h⟩ => ?_
  refine tDX.mono (tRX.bind (rel := dsRel X.K) (rel' := iRel X.K) R h) fun vs H1 ⟨G1, ρ1, ds, R1, s1, a1, h1⟩ => ?_
  change Dats X.K G1 vs ds at a1
  split at h1
  · rename_i j
    split at h1
    · rename_i z
      obtain ⟨z1, z2⟩ := inR_ok z
      cases a1 with
      | cons c1 c2 =>
        cases c1; cases c2
        exact ⟨j, rfl, z1, z2, h1 _ G1 H1 R1 (EStp.refl R1) (yl_range 0 j.toNat)⟩
    · exact h1.elim
  · exact h1.elim
theorem di_range2 {r : Ev (List D)} {p pos : Pos} (hg : Gl X "range") (hm : X.mg "range" = none) (ha : DA X T W [a, b] r) (hs : starEach [a, b] X.env = [(false, eval a X.env), (false, eval b X.env)] := by rfl) (hs2 : starEach [b] X.env = [(false, eval b X.env)] := by rfl) :
    DI X T W tg (.Call (.Name "range" p) [a, b] [] pos) (iR2 r) := by
  refine PI.mono (pi_range2 hg hm ha hs hs2) fun σ H Q ⟨G, ρ, R, h⟩ => ?_
  refine tDX.mono (tRX.bind (rel := dsRel X.K) (rel' := iRel X.K) R h) fun vs H1 ⟨G1, ρ1, ds, R1, s1, a1, h1⟩ => ?_
  change Dats X.K G1 vs ds at a1
  split at h1
  · rename_i i j
    split at h1
    · rename_i z
      obtain ⟨y1, y2⟩ := Bool.and_eq_true_iff.mp z
      obtain ⟨z1, z2⟩ := inR_ok y1
      obtain ⟨z3, z4⟩ := inR_ok y2
      cases a1 with
      | cons c1 c2 =>
        cases c2 with
        | cons c2 c3 =>
          cases c1; cases c2; cases c3
          exact ⟨i, j, rfl, ⟨z1, z2, z3, z4⟩, h1 _ G1 H1 R1 (EStp.refl R1) (yl_range i (j - i).toNat)⟩
    · exact h1.elim
  · exact h1.elim
/-! ### for -/
def forL (g : D → En → Option En) (b : Sv) : List D → Sv
  | [], ρ => .nx ρ
  | d :: ds, ρ => match g d ρ with
    | none => .stk
    | some ρ1 => match b ρ1 with
      | .nx ρ2 => forL g b ds ρ2
      | .ct ρ2 => forL g b ds ρ2
      | .bk ρ2 => .nx ρ2
      | .rt ρ2 w => .rt ρ2 w
      | .exc c => .exc c
      | .stk => .stk
def sFor (fi : Ev (List D)) (g : D → En → Option En) (b : Sv) : Sv := fun ρ => (fi ρ).thenS fun ρ1 ds => forL g b ds ρ1
theorem ds_for {vs : List Nat} {fi : Ev (List D)} {gt : D → En → Option En} (hp : PassesOwn (model X.prog X.w) X.A X.env X.xe) (hc : X.calm = true) (hi : DI X T W tg iter fi) (hg : DG X T vs tg gt) (hb : DSs X T W body f) (hs : ∀ x, foldedSetIterable iter X.env x = pure x := by intro _; rfl) :
    DS X T W (.For tg iter body [] pos) (sFor fi gt f) := by
  refine PS.mono (ps_for hp hc hi hg.pg hb hs) fun D σ H ⟨G, ρ, R, h⟩ => ?_
  refine tDX.mono (tS.bind0 (rel := iRel X.K) R h) fun J H1 ⟨G1, ρ1, ds, R1, s1, y, h1⟩ => ?_
  have y : Yl X.K J G1 ds := y
  have h2 := tS.later R s1.toStp h1
  refine ⟨fun i m σ H => m = ds.length - i ∧ i ≤ ds.length ∧ ∃ G ρ, SR X.K T G H σ ρ ∧ Sub G1 G ∧ tS X.K T X.mg W σ ρ G H (forL gt f (ds.drop i) ρ) D, ⟨_, rfl, Nat.zero_le _, G1, ρ1, R1, Sub.refl G1, h2⟩, ?_⟩
  rintro i m σ H ⟨rfl, hi, G2, ρ2, R2, s2, h3⟩
  by_cases hlt : i < ds.length
  · refine .inr ⟨y.go i G2 H s2 R2.gh hlt, fun σ' H' => ∃ G ρ, SR X.K T G H' σ' ρ ∧ Sub G1 G ∧ tS X.K T X.mg W σ' ρ G H' (forL gt f (ds.drop (i + 1)) ρ) D, fun σ' H' n => ⟨ds.length - (i + 1), by omega, rfl, hlt, n⟩, fun x H' yy => ?_⟩
    have e : ds[i]? = some ds[i] := List.getElem?_eq_getElem hlt
    obtain ⟨G3, gx, q⟩ := y.yld i _ G2 H x H' s2 R2.gh e yy
    rw [List.drop_eq_getElem_cons hlt] at h3
    have R3 := gx.sr R2
    have h4 := tS.later R2 (gx.stp R2).toStp h3
    cases z : gt ds[i] ρ2 with
    | none => simp only [forL, z] at h4; exact (show False from h4).elim
    | some ρ3 =>
      simp only [forL, z] at h4
      refine ⟨G3, ρ2, _, ρ3, R3, q, z, fun σ4 G4 H4 R4 s4 _ => ⟨G4, ρ3, R4, ?_⟩⟩
      have h5 := tS.later R3 s4 h4
      have sub4 : Sub G1 G4 := (s2.trans gx.gg).trans s4.gg
      cases zb : f ρ3 with
      | nx ρ5 => simp only [zb] at h5; exact fun σ5 G5 H5 R5 s5 => ⟨G5, ρ5, R5, sub4.trans s5.gg, tS.later R4 s5 h5⟩
      | ct ρ5 => simp only [zb] at h5; exact fun σ5 G5 H5 R5 s5 => ⟨G5, ρ5, R5, sub4.trans s5.gg, tS.later R4 s5 h5⟩
      | bk ρ5 => simp only [zb] at h5; exact h5
      | rt ρ5 w => simp only [zb] at h5; exact h5
      | exc c => simp only [zb] at h5; exact h5
      | stk => simp only [zb] at h5; exact h5
  · have e : i = ds.length := by omega
    subst e
    rw [List.drop_length] at h3
    exact .inl ⟨y.stop G2 H s2 R2.gh, h3 σ G2 H R2 (Stp.refl R2)⟩
/-! ### while -/
def whN (p : Ev Bool) (b : Sv) : Nat → Sv
  | 0, _ => .stk
  | n + 1, ρ => (p ρ).thenS fun ρ1 k => match k with
    | false => .nx ρ1
    | true => match b ρ1 with
      | .nx ρ2 => whN p b n ρ2
      | .ct ρ2 => whN p b n ρ2
      | .bk ρ2 => .nx ρ2
      | .rt ρ2 w => .rt ρ2 w
      | .exc c => .exc c
      | .stk => .stk
def sWh (μ : En → Nat) (p : Ev Bool) (b : Sv) : Sv := fun ρ => whN p b (μ ρ) ρ
theorem ds_while (μ : En → Nat) (hp : PassesOwn (model X.prog X.w) X.A X.env X.xe) (hc : DT X T W c p) (hb : DSs X T W body f) : DS X T W (.While c body [] pos) (sWh μ p f) := by
  refine PS.mono (ps_while hp hc hb) fun D σ H ⟨G, ρ, R, h⟩ => ?_
  refine ⟨fun m σ H => ∃ G ρ, SR X.K T G H σ ρ ∧ tS X.K T X.mg W σ ρ G H (whN p f m ρ) D, ⟨_, G, ρ, R, h⟩, ?_⟩
  rintro m σ H ⟨G, ρ, R, h⟩
  cases m with
  | zero => exact (show False from h).elim
  | succ n =>
    have h : tS X.K T X.mg W σ ρ G H ((p ρ).thenS fun ρ1 k => match k with
      | false => .nx ρ1
      | true => match f ρ1 with
        | .nx ρ2 => whN p f n ρ2
        | .ct ρ2 => whN p f n ρ2
        | .bk ρ2 => .nx ρ2
        | .rt ρ2 w => .rt ρ2 w
        | .exc c => .exc c
        | .stk => .stk) D := h
    refine tDX.mono (tS.bind0 (rel := bRel) R h) fun k H1 ⟨G1, ρ1, k', R1, s1, a1, h1⟩ => ?_
    cases (show k = k' from a1)
    have h2 := tS.later R s1.toStp h1
    cases k with
    | false => exact iteF (h2 σ G1 H1 R1 (Stp.refl R1))
    | true =>
      refine iteT ⟨fun σ' H' => ∃ G ρ, SR X.K T G H' σ' ρ ∧ tS X.K T X.mg W σ' ρ G H' (whN p f n ρ) D, fun σ' H' n' => ⟨n, Nat.lt_succ_self n, n'⟩, G1, ρ1, R1, ?_⟩
      cases zb : f ρ1 with
      | nx ρ5 => simp only [zb] at h2; exact fun σ5 G5 H5 R5 s5 => ⟨G5, ρ5, R5, tS.later R1 s5 h2⟩
      | ct ρ5 => simp only [zb] at h2; exact fun σ5 G5 H5 R5 s5 => ⟨G5, ρ5, R5, tS.later R1 s5 h2⟩
      | bk ρ5 => simp only [zb] at h2; exact h2
      | rt ρ5 w => simp only [zb] at h2; exact h2
      | exc c => simp only [zb] at h2; exact h2
      | stk => simp only [zb] at h2; exact h2
end
end DL
namespace DL
open PySem PySem.Spec
open PyProof.Rows hiding St
open L2
/-! ### comprehensions -/
def wipeE (ρ : En) : List Nat → En
  | [] => ρ
  | v :: vs => (wipeE ρ vs).set v .emp
theorem wipeE_at (ρ : En) (j : Nat) : ∀ vs : List Nat, (wipeE ρ vs)[j]? = if j ∈ vs then (ρ[j]?).map (fun _ => Sl.emp) else ρ[j]?
  | [] => by simp [wipeE]
  | v :: vs => by
    have ih := wipeE_at ρ j vs
    have hl : ∀ vs : List Nat, (wipeE ρ vs).length = ρ.length := fun vs => by
      induction vs with
      | nil => rfl
      | cons v vs ih => unfold wipeE; rw [List.length_set, ih]
    unfold wipeE
    rw [List.getElem?_set]
    by_cases hj : v = j
    · subst hj
      rw [if_pos rfl, if_pos List.mem_cons_self, hl]
      by_cases hl : v < ρ.length
      · rw [if_pos hl, List.getElem?_eq_getElem hl]; rfl
      · rw [if_neg hl, List.getElem?_eq_none (by omega)]; rfl
    · rw [if_neg hj, ih]
      by_cases hm : j ∈ vs
      · rw [if_pos hm, if_pos (List.mem_cons_of_mem _ hm)]
      · rw [if_neg hm, if_neg (by simp only [List.mem_cons, not_or]; exact ⟨fun e => hj e.symm, hm⟩)]
theorem wipeE_len (ρ : En) : ∀ vs : List Nat, (wipeE ρ vs).length = ρ.length
  | [] => rfl
  | v :: vs => by unfold wipeE; rw [List.length_set, wipeE_len ρ vs]
/-- ρ with the slots vs of ρ0 -/
def unw (ρ0 ρ : En) : List Nat → En
  | [] => ρ
  | v :: vs => match ρ0[v]? with
    | some s => (unw ρ0 ρ vs).set v s
    | none => unw ρ0 ρ vs
theorem unw_len (ρ0 ρ : En) : ∀ vs : List Nat, (unw ρ0 ρ vs).length = ρ.length
  | [] => rfl
  | v :: vs => by
    unfold unw
    split
    · rw [List.length_set, unw_len ρ0 ρ vs]
    · exact unw_len ρ0 ρ vs
theorem unw_at {ρ0 ρ : En} (hl : ρ0.length = ρ.length) (j : Nat) : ∀ vs : List Nat, (unw ρ0 ρ vs)[j]? = if j ∈ vs then ρ0[j]? else ρ[j]?
  | [] => by simp [unw]
  | v :: vs => by
    have ih := unw_at hl j vs
    unfold unw
    by_cases hj : v = j
    · subst hj
      rw [if_pos List.mem_cons_self]
      split
      · rename_i s e
        have h1 := (List.getElem?_eq_some_iff.mp e).1
        rw [List.getElem?_set_self (by rw [unw_len]; omega)]
        exact e.symm
      · rename_i e
        have h1 := List.getElem?_eq_none_iff.mp e
        rw [e, List.getElem?_eq_none (by rw [unw_len]; omega)]
    · have hm2 : j ∈ v :: vs ↔ j ∈ vs := by simp only [List.mem_cons]; exact ⟨fun z => z.elim (fun e => (hj e.symm).elim) id, .inr⟩
      simp only [hm2]
      split
      · rw [List.getElem?_set_ne hj]; exact ih
      · exact ih
def lcL (vs : List Nat) (g : D → En → Option En) (t : Ev Bool) (fe : Ev D) : List D → List D → Ev (List D)
  | [], acc, ρ => .ok ρ acc
  | d :: ds, acc, ρ => match g d ρ with
    | none => .stk
    | some ρ1 => match t ρ1 with
      | .ok ρ2 true => (match fe ρ2 with
        | .ok ρ3 d' => if fits (acc.length + 1) then lcL vs g t fe ds (acc ++ [d']) (wipeE ρ3 vs) else .stk
        | _ => .stk)
      | .ok ρ2 false => lcL vs g t fe ds acc (wipeE ρ2 vs)
      | _ => .stk
def fLc (fi : Ev (List D)) (vs : List Nat) (g : D → En → Option En) (t : Ev Bool) (fe : Ev D) : Ev Wv := fun ρ => (fi ρ).bind fun ρ1 ds => match lcL vs g t fe ds [] (wipeE ρ1 vs) with
  | .ok ρ2 acc => .ok (unw ρ1 ρ2 vs) (.tmp (.lst acc))
  | _ => .stk
section
variable {K : PySem.W.Frag} {T : List (Addr × Str)} {σ σ0 σ1 σ2 : St} {ρ ρ0 ρ1 ρ2 ρ3 : En} {G G0 G1 G2 H H0 H1 H2 : Hp} {vs : List Nat}
theorem wiped_own {i : Nat} {a : Addr} (h : OwnI (wipe σ vs) (wipeE ρ vs) i a) : i ∉ vs ∧ OwnI σ ρ i a := by
  obtain ⟨h1, s, o, h2, h3⟩ := h
  rw [wipe_at] at h1
  rw [wipeE_at] at h2
  by_cases hi : i ∈ vs
  · rw [if_pos hi] at h1
    cases e : σ[i]? with
    | none => rw [e] at h1; cases h1
    | some x => rw [e] at h1; cases h1
  · rw [if_neg hi] at h1 h2
    exact ⟨hi, h1, s, o, h2, h3⟩
theorem SR.wipe (R : SR K T G H σ ρ) (vs : List Nat) : SR K T G H (wipe σ vs) (wipeE ρ vs) where
  len := by rw [wipe_length, wipeE_len]; exact R.len
  at_ := fun i s h => by
    rw [wipeE_at] at h
    rw [wipe_at]
    by_cases hi : i ∈ vs
    · rw [if_pos hi] at h ⊢
      cases e : ρ[i]? with
      | none => rw [e] at h; cases h
      | some x =>
        rw [e] at h
        cases h
        have hl := (List.getElem?_eq_some_iff.mp e).1
        rw [List.getElem?_eq_getElem (by rw [R.len]; exact hl)]
        exact ⟨none, rfl, trivial⟩
    · rw [if_neg hi] at h ⊢
      exact R.at_ i s h
  ap := fun i j a c1 c2 => R.ap i j a (wiped_own c1).2 (wiped_own c2).2
  gh := R.gh
  tab := R.tab
  gt := R.gt
/-- behind a turn: a step of the wiped frame -/
theorem turn_step (hw : wipe σ vs = σ) (he : wipeE ρ vs = ρ) (w2 : wipe σ2 vs = σ) (hon : ρ1.length = ρ.length ∧ ∀ i : Nat, i ∉ vs → ρ1[i]? = ρ[i]?) (s : Stp T σ ρ G H σ2 ρ3 G2 H2)
    (hs : ∀ (i : Nat) (s : Sl), ρ1[i]? = some s → s.has = true → ∃ s', ρ3[i]? = some s' ∧ s'.has = true) (on : ∀ (i : Nat) (s' : Sl) (o' : OD), ρ3[i]? = some s' → s'.held = some o' → ∃ s o, ρ1[i]? = some s ∧ s.held = some o) :
    EStp T σ ρ G H (wipeE ρ3 vs) G2 H2 where
  gg := s.gg
  gf := s.gf
  fr := s.fr
  al := s.al
  own := fun a ⟨i, c⟩ => s.own a ⟨i, by
    rw [← w2] at c
    exact (wiped_own c).2⟩
  io := fun i o h => by
    obtain ⟨⟨o', c1⟩, c2⟩ := s.io i o h
    refine ⟨⟨o', ?_⟩, rfl⟩
    rw [wipeE_at, if_neg (fun hi => ?_)]
    · exact c1
    · rw [← he, wipeE_at, if_pos hi] at h
      cases e : ρ[i]? with
      | none => rw [e] at h; cases h
      | some x => rw [e] at h; cases h
  iog := s.iog
  hs := fun i x h h' => by
    have hi : i ∉ vs := fun hi => by
      rw [← he, wipeE_at, if_pos hi] at h
      cases e : ρ[i]? with
      | none => rw [e] at h; cases h
      | some y => rw [e] at h; cases h; cases h'
    rw [wipeE_at, if_neg hi]
    exact hs i x (by rw [hon.2 i hi]; exact h) h'
  on := fun i x o h h' => by
    rw [wipeE_at] at h
    by_cases hi : i ∈ vs
    · rw [if_pos hi] at h
      cases e : ρ3[i]? with
      | none => rw [e] at h; cases h
      | some y => rw [e] at h; cases h; cases h'
    · rw [if_neg hi] at h
      rw [← hon.2 i hi]
      exact on i x o h h'
theorem wipe_idem (σ : St) (vs : List Nat) : wipe (wipe σ vs) vs = wipe σ vs := by
  apply List.ext_getElem?
  intro j
  rw [wipe_at, wipe_at]
  by_cases hj : j ∈ vs
  · rw [if_pos hj, if_pos hj, Option.map_map]; rfl
  · rw [if_neg hj, if_neg hj]
theorem wipeE_idem (ρ : En) (vs : List Nat) : wipeE (wipeE ρ vs) vs = wipeE ρ vs := by
  apply List.ext_getElem?
  intro j
  rw [wipeE_at, wipeE_at]
  by_cases hj : j ∈ vs
  · rw [if_pos hj, if_pos hj, Option.map_map]; rfl
  · rw [if_neg hj, if_neg hj]
/-- the outer frame behind a comprehension -/
theorem unw_sr (R0 : SR K T G0 H0 σ ρ0) (R : SR K T G H (wipe σ vs) ρ) (s : EStp T (wipe σ vs) (wipeE ρ0 vs) G0 H0 ρ G H) : SR K T G H σ (unw ρ0 ρ vs) ∧ EStp T σ ρ0 G0 H0 (unw ρ0 ρ vs) G H := by
  have hl : ρ0.length = ρ.length := by have := R0.len; have := R.len; rw [wipe_length] at this; omega
  have at' := fun j => unw_at hl j vs
  have notw : ∀ {i a}, i ∈ vs → OwnI σ ρ0 i a → ¬ Own (wipe σ vs) (wipeE ρ0 vs) a := fun {i a} hi c ⟨j, d⟩ => by
    obtain ⟨d1, d2⟩ := wiped_own d
    exact d1 (R0.ap i j a c d2 ▸ hi)
  have inV : ∀ {i a}, i ∈ vs → OwnI σ (unw ρ0 ρ vs) i a → OwnI σ ρ0 i a := fun {i a} hi ⟨c1, s', o, c2, c3⟩ => ⟨c1, s', o, by rw [at', if_pos hi] at c2; exact c2, c3⟩
  have outV : ∀ {i a}, i ∉ vs → OwnI σ (unw ρ0 ρ vs) i a → OwnI (wipe σ vs) ρ i a := fun {i a} hi ⟨c1, s', o, c2, c3⟩ => ⟨by rw [wipe_at, if_neg hi]; exact c1, s', o, by rw [at', if_neg hi] at c2; exact c2, c3⟩
  have back : ∀ {i a}, OwnI σ (unw ρ0 ρ vs) i a → OwnI σ ρ0 i a := fun {i a} c => by
    by_cases hi : i ∈ vs
    · exact inV hi c
    · obtain ⟨c1, s', o, c2, c3⟩ := c
      rw [at', if_neg hi] at c2
      obtain ⟨s1, o1, e1, e2⟩ := s.on i s' o c2 c3
      rw [wipeE_at, if_neg hi] at e1
      exact ⟨c1, s1, o1, e1, e2⟩
  refine ⟨⟨by rw [unw_len, ← hl]; exact R0.len, fun i x h => ?_, fun i j a c1 c2 => R0.ap i j a (back c1) (back c2), R.gh, R.tab, R.gt⟩, ⟨⟨s.gg, fun a h h' => ?_, fun a o h n m => s.fr a o h n fun ⟨j, d⟩ => m ⟨j, (wiped_own d).2⟩, s.al, fun a ⟨i, c⟩ => .inl ⟨i, back c⟩, fun i o h => ⟨?_, rfl⟩, fun i o a h h' => ?_⟩, fun i x h h' => ?_, fun i x o h h' => ?_⟩⟩
  · rw [at'] at h
    by_cases hi : i ∈ vs
    · rw [if_pos hi] at h
      obtain ⟨y, h1, h2⟩ := R0.at_ i x h
      refine ⟨y, h1, h2.mov s.gg fun a e hs => ?_⟩
      have c : OwnI σ ρ0 i a := by
        cases z : x.held with
        | none => rw [z] at hs; cases hs
        | some o => exact ⟨by rw [h1, e], x, o, h, z⟩
      have nw := notw hi c
      obtain ⟨g, u, hu, _⟩ := R0.og ⟨i, c⟩
      refine ⟨?_, fun u e => s.fr a u e (R0.nt ⟨i, c⟩) nw⟩
      cases z : G a with
      | none => rfl
      | some z' =>
        rcases s.gf a g (by rw [z]; simp) with q | q
        · rw [q] at hu; cases hu
        · exact (nw q).elim
    · rw [if_neg hi] at h
      obtain ⟨y, h1, h2⟩ := R.at_ i x h
      rw [wipe_at, if_neg hi] at h1
      exact ⟨y, h1, h2⟩
  · rcases s.gf a h h' with q | ⟨j, d⟩
    · exact .inl q
    · exact .inr ⟨j, (wiped_own d).2⟩
  · rw [at']
    by_cases hi : i ∈ vs
    · exact ⟨o, by rw [if_pos hi]; exact h⟩
    · rw [if_neg hi]
      exact (s.io i o (by rw [wipeE_at, if_neg hi]; exact h)).1
  · have c : OwnI σ ρ0 i a := ⟨h', _, _, h, rfl⟩
    by_cases hi : i ∈ vs
    · obtain ⟨g, u, hu, _⟩ := R0.og ⟨i, c⟩
      cases z : G a with
      | none => rfl
      | some z' =>
        rcases s.gf a g (by rw [z]; simp) with q | q
        · rw [q] at hu; cases hu
        · exact (notw hi c q).elim
    · exact s.iog i o a (by rw [wipeE_at, if_neg hi]; exact h) (by rw [wipe_at, if_neg hi]; exact h')
  · rw [at']
    by_cases hi : i ∈ vs
    · exact ⟨x, by rw [if_pos hi]; exact h, h'⟩
    · rw [if_neg hi]
      exact s.hs i x (by rw [wipeE_at, if_neg hi]; exact h) h'
  · rw [at'] at h
    by_cases hi : i ∈ vs
    · rw [if_pos hi] at h
      exact ⟨x, o, h, h'⟩
    · rw [if_neg hi] at h
      obtain ⟨s1, o1, e1, e2⟩ := s.on i x o h h'
      rw [wipeE_at, if_neg hi] at e1
      exact ⟨s1, o1, e1, e2⟩
end
end DL
namespace DL
open PySem PySem.Spec
open PyProof.Rows hiding St
open L2
section
variable {X : Cx} {T : List (Addr × Str)} {W : WX} {pos : Pos} {tg iter elt : Expr} {ifs : List Expr}
abbrev W0 : WX := fun _ _ _ _ => False
abbrev DTs (X : Cx) (T : List (Addr × Str)) (W : WX) (es : List Expr) (f : Ev Bool) : Prop := PTs X es (tDX X.K T bRel X.mg W f)
def bYes : Ev Bool := fun ρ => .ok ρ true
theorem PTs.mono {es : List Expr} {t t' : TT} (h : PTs X es t) (m : ∀ σ H Q, t' σ H Q → t σ H Q) : PTs X es t' := ⟨fun pins s σ H Q I q => h.run pins s σ H Q I (m σ H Q q)⟩
theorem dts_nil : DTs X T W [] bYes := PTs.mono pts_nil fun σ H Q ⟨G, ρ, R, h⟩ => h true G H R (EStp.refl R) rfl
theorem dts_one {c : Expr} {p : Ev Bool} (h : DT X T W c p) : DTs X T W [c] p := pts_one h
/-- the owned list at D grows -/
theorem grow {K : PySem.W.Frag} {σ : St} {ρ ρ0 : En} {G H G0 H0 : Hp} {Dd : Addr} {xs ys : List V} (R : SR K T G H σ ρ) (s : EStp T σ ρ0 G0 H0 ρ G H) (h0 : H0 Dd = none) (no : ¬ Own σ ρ Dd) (g : G Dd = none) (e : H Dd = some (.lst xs)) :
    SR K T G (upd H Dd (.lst ys)) σ ρ ∧ EStp T σ ρ0 G0 H0 ρ G (upd H Dd (.lst ys)) := by
  have nT : ∀ p ∈ T, p.1 ≠ Dd := fun p hp z => by
    obtain ⟨ps, h3, _⟩ := R.tab p hp
    rw [z, e] at h3; cases h3
  refine ⟨⟨R.len, fun i x hx => ?_, R.ap, fun b o h => ?_, fun p hp => ?_, R.gt⟩, ⟨⟨s.gg, s.gf, fun b o h n m => ?_, fun b h => ?_, s.own, s.io, s.iog⟩, s.hs, s.on⟩⟩
  · obtain ⟨y, h1, h2⟩ := R.at_ i x hx
    refine ⟨y, h1, h2.mov (Sub.refl G) fun b eb hs => ⟨?_, fun u eu => ?_⟩⟩
    · have c : Own σ ρ b := by
        cases z : x.held with
        | none => rw [z] at hs; cases hs
        | some o => exact ⟨i, by rw [h1, eb], x, o, hx, z⟩
      exact (R.og c).1
    · have c : Own σ ρ b := by
        cases z : x.held with
        | none => rw [z] at hs; cases hs
        | some o => exact ⟨i, by rw [h1, eb], x, o, hx, z⟩
      rw [upd_ne (show b ≠ Dd from fun z => no (by rw [← z]; exact c))]
      exact eu
  · rw [upd_ne (fun z => by rw [z, g] at h; cases h)]
    exact R.gh b o h
  · obtain ⟨ps, h1, h2, h3⟩ := R.tab p hp
    refine ⟨ps, by rw [upd_ne (nT p hp)]; exact h1, h2, fun q cv hc => ?_⟩
    obtain ⟨c, e1, e2⟩ := h3 q cv hc
    refine ⟨c, e1, ?_⟩
    rw [upd_ne (fun z => ?_)]
    · exact e2
    · rw [z, e] at e2
      unfold LamX.CodeO at e2
      cases e2
  · rw [upd_ne (fun z => by rw [z, h0] at h; cases h)]
    exact s.fr b o h n m
  · by_cases z : b = Dd
    · rw [z]; exact h0
    · rw [upd_ne z] at h; exact s.al b h
theorem lc_read {wi : TI} {fi : Ev (List D)} {vs : List Nat} {g : D → En → Option En} {t : Ev Bool} {fe : Ev D} (hwi : wi = tDX X.K T (iRel X.K) X.mg W fi) (hon : OnlyIn vs g) {σ : St} {H : Hp} {Q : VK} (h : tDE X.K T X.mg W (fLc fi vs g t fe) σ H Q) :
    tLc wi (tDG X.K T vs g) (tDX X.K T bRel X.mg W0 t) (tDX X.K T (dRel X.K) X.mg W0 fe) vs σ H Q := by
  subst hwi
  obtain ⟨G, ρ, R, h⟩ := h
  refine tDX.mono (tRX.bind (rel := iRel X.K) (rel' := wRel X.K) R h) fun J H1 ⟨G1, ρ1, ds, R1, s1, y, h1⟩ => ?_
  have y : Yl X.K J G1 ds := y
  intro Dd hD
  cases e : lcL vs g t fe ds [] (wipeE ρ1 vs) with
  | exc c => rw [e] at h1; exact h1.elim
  | stk => rw [e] at h1; exact h1.elim
  | ok ρf af =>
    rw [e] at h1
    have Rw := R1.wipe vs
    have nD : ¬ Own (wipe σ vs) (wipeE ρ1 vs) Dd := fun z => Own.there Rw z hD
    have gx : Gx G1 H1 G1 (upd H1 Dd (.lst [])) := Gx.laid R1.gh hD
    refine ⟨fun i m H => m = ds.length - i ∧ i ≤ ds.length ∧ ∃ G ρ acc xs, SR X.K T G H (wipe σ vs) ρ ∧ EStp T (wipe σ vs) (wipeE ρ1 vs) G1 H1 ρ G H ∧ wipeE ρ vs = ρ ∧ H Dd = some (.lst xs) ∧ Dats X.K G xs acc ∧ G Dd = none ∧ lcL vs g t fe (ds.drop i) acc ρ = .ok ρf af,
      ⟨_, rfl, Nat.zero_le _, G1, _, [], [], gx.sr Rw, gx.stp Rw, wipeE_idem ρ1 vs, upd_same, .nil, g_none R1.gh hD, e⟩, ?_⟩
    rintro i m H ⟨rfl, hi, G2, ρ2, acc, xs, R2, s2, w2, eD, r2, g2, el⟩
    by_cases hlt : i < ds.length
    · refine .inr ⟨y.go i G2 H s2.gg R2.gh hlt, fun H => ∃ G ρ acc xs, SR X.K T G H (wipe σ vs) ρ ∧ EStp T (wipe σ vs) (wipeE ρ1 vs) G1 H1 ρ G H ∧ wipeE ρ vs = ρ ∧ H Dd = some (.lst xs) ∧ Dats X.K G xs acc ∧ G Dd = none ∧ lcL vs g t fe (ds.drop (i + 1)) acc ρ = .ok ρf af,
        fun H' n => ⟨ds.length - (i + 1), by omega, rfl, hlt, n⟩, fun x H' yy => ?_⟩
      have ei : ds[i]? = some ds[i] := List.getElem?_eq_getElem hlt
      obtain ⟨G3, gx3, q3⟩ := y.yld i _ G2 H x H' s2.gg R2.gh ei yy
      have R3 := gx3.sr R2
      have s3 := s2.trans Rw (gx3.stp R2)
      have no3 : ¬ Own (wipe σ vs) ρ2 Dd := fun z => nD (s2.onA z)
      rw [List.drop_eq_getElem_cons hlt] at el
      unfold lcL at el
      cases z : g ds[i] ρ2 with
      | none => rw [z] at el; cases el
      | some ρ4 =>
        simp only [z] at el
        refine ⟨G3, ρ2, _, ρ4, R3, q3, z, fun σ4 G4 H4 R4 s4 w4 => ⟨w4.trans (wipe_idem σ vs), G4, ρ4, R4, ?_⟩⟩
        have w4' : wipe σ4 vs = wipe σ vs := w4.trans (wipe_idem σ vs)
        have on4 := hon _ _ _ z
        cases zt : t ρ4 with
        | exc c => rw [zt] at el; cases el
        | stk => rw [zt] at el; cases el
        | ok ρ5 k =>
          simp only [zt] at el
          intro k' G5 H5 R5 s5 hk
          cases (show k' = k from hk)
          -- what stands at Dd
          have eD3 : H' Dd = some (.lst xs) := gx3.hh _ _ eD
          have nT3 : ∀ p ∈ T, p.1 ≠ Dd := fun p hp zz => by
            obtain ⟨ps, h3, _⟩ := R3.tab p hp
            rw [zz, eD3] at h3; cases h3
          have g3 : G3 Dd = none := by
            cases zz : G3 Dd with
            | none => rfl
            | some u =>
              have := gx3.gf Dd g2 (by rw [zz]; simp)
              rw [eD] at this; cases this
          have s45 : Stp T (wipe σ vs) ρ2 G3 H' σ4 ρ5 G5 H5 := s4.trans R3 s5.toStp
          have stay : ∀ {ρ' G' H''}, Stp T (wipe σ vs) ρ2 G3 H' σ4 ρ' G' H'' → H'' Dd = some (.lst xs) ∧ G' Dd = none := fun {ρ' G' H''} s => by
            refine ⟨s.fr Dd _ eD3 nT3 no3, ?_⟩
            cases zz : G' Dd with
            | none => rfl
            | some u =>
              rcases s.gf Dd g3 (by rw [zz]; simp) with q | q
              · rw [eD3] at q; cases q
              · exact (no3 q).elim
          cases k with
          | false =>
            refine iteF ?_
            simp only [] at el
            obtain ⟨c1, c2⟩ := stay s45
            have st := turn_step (wipe_idem σ vs) w2 w4' on4 s45 s5.hs s5.on
            have R6 := R5.wipe vs
            rw [w4'] at R6
            exact ⟨G5, wipeE ρ5 vs, acc, xs, R6, s3.trans Rw st, wipeE_idem ρ5 vs, c1, r2.sub (gx3.gg.trans st.gg), c2, el⟩
          | true =>
            refine iteT ⟨G5, ρ5, R5, ?_⟩
            simp only [] at el
            cases ze : fe ρ5 with
            | exc c => rw [ze] at el; cases el
            | stk => rw [ze] at el; cases el
            | ok ρ6 d' =>
              simp only [ze] at el
              split at el
              · rename_i hf
                intro v G6 H6 R6 s6 q6
                have s456 : Stp T (wipe σ vs) ρ2 G3 H' σ4 ρ6 G6 H6 := s45.trans R3 s6.toStp
                obtain ⟨c1, c2⟩ := stay s456
                have st := turn_step (wipe_idem σ vs) w2 w4' on4 s456 (fun i s h h' => by
                  obtain ⟨s', a1, a2⟩ := s5.hs i s h h'
                  exact s6.hs i s' a1 a2) (fun i s' o' h h' => by
                  obtain ⟨s1, o1, a1, a2⟩ := s6.on i s' o' h h'
                  exact s5.on i s1 o1 a1 a2)
                have R7 := R6.wipe vs
                rw [w4'] at R7
                have st7 := s3.trans Rw st
                have no7 : ¬ Own (wipe σ vs) (wipeE ρ6 vs) Dd := fun zz => nD (st7.onA zz)
                have r7 : Dats X.K G6 xs acc := r2.sub (gx3.gg.trans st.gg)
                have hl := fits_ok hf
                rw [← r7.len] at hl
                obtain ⟨d1, d2⟩ := grow (ys := xs ++ [v]) R7 st7 hD no7 c2 c1
                exact ⟨xs, c1, hl, G6, wipeE ρ6 vs, acc ++ [d'], xs ++ [v], d1, d2, wipeE_idem ρ6 vs, upd_same, r7.app (.cons q6 .nil), c2, el⟩
              · cases el
    · have ei : i = ds.length := by omega
      subst ei
      rw [List.drop_length] at el
      unfold lcL at el
      cases el
      refine .inl ⟨y.stop G2 H s2.gg R2.gh, ?_⟩
      obtain ⟨d1, d2⟩ := unw_sr R1 R2 s2
      exact h1 _ G2 H d1 d2 ⟨Dd, rfl, hD, g2, xs, eD, r2⟩
theorem de_lc {scope : Scope} {own : List (Str × Nat)} {fi : Ev (List D)} {g : D → En → Option En} {t : Ev Bool} {fe : Ev D} (hc : X.calm = true) (hN : X.N.Nodup) (hi : DI X T W tg iter fi) (ok : BlkOk X.N X.env.scope scope own)
    (hg : ∀ (s : Shared) (H : Hp) (C : Addr) (cl : List (Str × Addr)) (fp : List Addr), DG (X.blk s H scope (compEnvC scope cl C X.env) fp) T (own.map (·.2)) tg g)
    (ht : ∀ (s : Shared) (H : Hp) (C : Addr) (cl : List (Str × Addr)) (fp : List Addr), DTs (X.blk s H scope (compEnvC scope cl C X.env) fp) T W0 ifs t)
    (he : ∀ (s : Shared) (H : Hp) (C : Addr) (cl : List (Str × Addr)) (fp : List Addr), DF (X.blk s H scope (compEnvC scope cl C X.env) fp) T W0 elt fe) (hs : ∀ x, foldedSetIterable iter X.env x = pure x := by intro _; rfl) :
    DE X T W (.ListComp elt [⟨tg, iter, ifs, 0⟩] scope pos) (fLc fi (own.map (·.2)) g t fe) :=
  PE.mono (pe_lc hc hN hi ok (fun s H C cl fp => (hg s H C cl fp).pg) ht he hs) fun σ H Q h => lc_read rfl (hg (X.s_0) H 0 [] []).on h
/-- name = [..] on one line -/
theorem ds_setLc {i : Nat} {y : Str} {py spos : Pos} {scope : Scope} {own : List (Str × Nat)} {fi : Ev (List D)} {g : D → En → Option En} {t : Ev Bool} {fe : Ev D} (hc : X.calm = true) (hN : X.N.Nodup) (hy : X.N[i]? = some y) (hyl : X.env.scope.names.lookup y = some .local)
    (hsw : swapsWith (.ListComp elt [⟨tg, iter, ifs, 0⟩] scope pos) (some (.Name y py)) spos.line X.env = pure true) (hi : DI X T W tg iter fi) (ok : BlkOk X.N X.env.scope scope own)
    (hg : ∀ (s : Shared) (H : Hp) (C : Addr) (cl : List (Str × Addr)) (fp : List Addr), DG (X.blk s H scope (compEnvC scope cl C X.env) fp) T (own.map (·.2)) tg g)
    (ht : ∀ (s : Shared) (H : Hp) (C : Addr) (cl : List (Str × Addr)) (fp : List Addr), DTs (X.blk s H scope (compEnvC scope cl C X.env) fp) T W0 ifs t)
    (he : ∀ (s : Shared) (H : Hp) (C : Addr) (cl : List (Str × Addr)) (fp : List Addr), DF (X.blk s H scope (compEnvC scope cl C X.env) fp) T W0 elt fe) (hs : ∀ x, foldedSetIterable iter X.env x = pure x := by intro _; rfl) :
    DS X T W (.Assign [.Name y py] (.ListComp elt [⟨tg, iter, ifs, 0⟩] scope pos) spos) (sSet i (fLc fi (own.map (·.2)) g t fe)) := by
  refine PS.mono (ps_setLc (g := tDG X.K T (own.map (·.2)) g) (tt := tDX X.K T bRel X.mg W0 t) (te := tDX X.K T (dRel X.K) X.mg W0 fe) hc hN hy hyl hsw hi ok (fun s H C cl fp => (hg s H C cl fp).pg) ht he hs) fun D σ H ⟨G, ρ, R, h⟩ => ?_
  refine lc_read rfl (hg (X.s_0) H 0 [] []).on ?_
  refine tDX.mono (tS.bind0 (rel := wRel X.K) R h) fun v H1 ⟨G1, ρ1, w, R1, s1, a1, h1⟩ => ?_
  cases e : putS ρ1 i w with
  | none => rw [e] at h1; exact h1.elim
  | some ρ2 =>
    rw [e] at h1
    obtain ⟨G2, c1, c2⟩ := putS_at R s1 R1 a1 e
    exact h1 _ G2 H1 c1 c2
end
end DL
namespace DL
open PySem PySem.Spec
open PyProof.Rows hiding St
open L2
/-! ### calls -/
inductive Ag where
  | val (d : D) | io (i : Nat)
inductive FOut where
  | ret (ss : List Sl) (w : Wv) | exc (c : Str) | stk
abbrev FF := List Sl → FOut
/-- a def's promise by its function F -/
def spD (K : PySem.W.Frag) (T : List (Addr × Str)) (mg : Str → Option Value) (n : Nat) (F : FF) : Sp := fun vs H Q E => vs.length = n ∧ ∃ G ss, SR K T G H (vs.map some) ss ∧ (∀ s ∈ ss, (∃ d, s = Sl.val d) ∨ ∃ o, s = Sl.io o) ∧ match F ss with
  | .ret ss' w => ∀ v G' H', SR K T G' H' (vs.map some) ss' → EStp T (vs.map some) ss G H ss' G' H' → NAt K G' H' H v w → Q v H'
  | .exc c => ∀ C H', mg c = some (.ref C) → StX T (vs.map some) ss H H' → E (.ref C) none H'
  | .stk => False
inductive Ags (K : PySem.W.Frag) (G : Hp) (σ : St) : List V → List Ag → Prop
  | nil : Ags K G σ [] []
  | val {v : V} {vs : List V} {d : D} {as : List Ag} : Dat K G v d → Ags K G σ vs as → Ags K G σ (v :: vs) (.val d :: as)
  | io {v : V} {vs : List V} {i : Nat} {as : List Ag} : σ[i]? = some (some v) → Ags K G σ vs as → Ags K G σ (v :: vs) (.io i :: as)
def agRel (K : PySem.W.Frag) : Rel (List Ag) (List V) := fun G H σ ρ H0 vs as => Ags K G σ vs as
instance (K : PySem.W.Frag) : Early (agRel K) where
  up := fun _ c => c
theorem Ags.sub {K : PySem.W.Frag} {G G1 : Hp} {σ : St} (s : Sub G G1) : ∀ {vs : List V} {as : List Ag}, Ags K G σ vs as → Ags K G1 σ vs as
  | _, _, .nil => .nil
  | _, _, .val h r => .val (h.sub s) (Ags.sub s r)
  | _, _, .io h r => .io h (Ags.sub s r)
def agSl (ρ : En) : Ag → Option Sl
  | .val d => some (.val d)
  | .io i => match ρ[i]? with
    | some (.own o) => some (.io o)
    | some (.io o) => some (.io o)
    | _ => none
def agSls (ρ : En) : List Ag → Option (List Sl)
  | [] => some []
  | a :: as => match agSl ρ a, agSls ρ as with
    | some s, some ss => some (s :: ss)
    | _, _ => none
def ios : List Ag → List Nat
  | [] => []
  | .io i :: as => i :: ios as
  | .val _ :: as => ios as
def ioFind : List Ag → List Sl → Nat → Option OD
  | .io i :: as, .io o :: ss, j => if i = j then some o else ioFind as ss j
  | _ :: as, _ :: ss, j => ioFind as ss j
  | _, _, _ => none
def Sl.putC : Sl → OD → Sl
  | .own _, o => .own o
  | .io _, o => .io o
  | s, _ => s
def putIo (ρ : En) (as : List Ag) (ss : List Sl) : En := ρ.mapIdx fun j s => match ioFind as ss j with
  | some o => s.putC o
  | none => s
def fCall (n : Nat) (F : FF) (fa : Ev (List Ag)) : Ev Wv := fun ρ => (fa ρ).bind fun ρ1 as => match agSls ρ1 as with
  | some ss => (match ss.length == n with
    | false => .stk
    | true => match F ss with
    | .ret ss' w => (match ios as with
      | [] => .ok ρ1 w
      | i :: is => if (i :: is).Nodup then .ok (putIo ρ1 as ss') w else .stk)
    | .exc c => if (ios as).Nodup then .exc c else .stk
    | .stk => .stk)
  | none => .stk
section
variable {K : PySem.W.Frag} {T : List (Addr × Str)} {σ : St} {ρ : En} {G G' H H' : Hp} {vs : List V} {as : List Ag} {ss ss' : List Sl}
theorem ios_mem : ∀ {as : List Ag} {k i : Nat}, as[k]? = some (.io i) → i ∈ ios as
  | [], k, i, h => by simp at h
  | .io j :: as, 0, i, h => by simp at h; subst h; exact List.mem_cons_self
  | .val d :: as, 0, i, h => by simp at h
  | .io j :: as, k + 1, i, h => List.mem_cons_of_mem _ (ios_mem (by simpa using h))
  | .val d :: as, k + 1, i, h => ios_mem (as := as) (by simpa using h)
theorem ios_inj : ∀ {as : List Ag} {k l i : Nat}, (ios as).Nodup → as[k]? = some (.io i) → as[l]? = some (.io i) → k = l
  | [], k, l, i, _, h, _ => by simp at h
  | .io j :: as, 0, 0, i, n, h, h' => rfl
  | .io j :: as, 0, l + 1, i, n, h, h' => by
    simp at h; subst h
    exact ((List.nodup_cons.mp n).1 (ios_mem (by simpa using h'))).elim
  | .io j :: as, k + 1, 0, i, n, h, h' => by
    simp at h'; subst h'
    exact ((List.nodup_cons.mp n).1 (ios_mem (by simpa using h))).elim
  | .io j :: as, k + 1, l + 1, i, n, h, h' => congrArg Nat.succ (ios_inj (List.nodup_cons.mp n).2 (by simpa using h) (by simpa using h'))
  | .val d :: as, 0, l, i, n, h, h' => by simp at h
  | .val d :: as, k + 1, 0, i, n, h, h' => by simp at h'
  | .val d :: as, k + 1, l + 1, i, n, h, h' => congrArg Nat.succ (ios_inj (as := as) n (by simpa using h) (by simpa using h'))
theorem agSls_get : ∀ {as : List Ag} {ss : List Sl} {vs : List V} {k : Nat} {s : Sl}, agSls ρ as = some ss → Ags K G σ vs as → ss[k]? = some s →
    ∃ v, vs[k]? = some v ∧ ((∃ d, as[k]? = some (.val d) ∧ s = .val d ∧ Dat K G v d) ∨ ∃ i o s0, as[k]? = some (.io i) ∧ s = .io o ∧ σ[i]? = some (some v) ∧ ρ[i]? = some s0 ∧ s0.held = some o)
  | [], ss, vs, k, s, e, r, h => by cases e; simp at h
  | a :: as, ss, vs, k, s, e, r, h => by
    unfold agSls at e
    cases e1 : agSl ρ a with
    | none => rw [e1] at e; cases e
    | some s1 =>
      cases e2 : agSls ρ as with
      | none => rw [e1, e2] at e; cases e
      | some ss2 =>
        rw [e1, e2] at e
        cases e
        cases k with
        | succ k =>
          cases r with
          | val q r =>
            obtain ⟨v, h1, h2⟩ := agSls_get (k := k) e2 r (by simpa using h)
            exact ⟨v, by simpa using h1, by simpa using h2⟩
          | io q r =>
            obtain ⟨v, h1, h2⟩ := agSls_get (k := k) e2 r (by simpa using h)
            exact ⟨v, by simpa using h1, by simpa using h2⟩
        | zero =>
          have h : s1 = s := by simpa using h
          subst h
          cases r with
          | val q r =>
            cases e1
            exact ⟨_, rfl, .inl ⟨_, rfl, rfl, q⟩⟩
          | @io v vs i as q r =>
            refine ⟨v, rfl, .inr ?_⟩
            have e1 : (match ρ[i]? with | some (.own o) => some (Sl.io o) | some (.io o) => some (.io o) | _ => none) = some s1 := e1
            cases z : ρ[i]? with
            | none => rw [z] at e1; cases e1
            | some s0 =>
              rw [z] at e1
              cases s0 with
              | own o => cases e1; exact ⟨i, o, _, rfl, rfl, q, z, rfl⟩
              | io o => cases e1; exact ⟨i, o, _, rfl, rfl, q, z, rfl⟩
              | val d => cases e1
              | emp => cases e1
theorem agSls_len : ∀ {as : List Ag} {ss : List Sl}, agSls ρ as = some ss → ss.length = as.length
  | [], ss, e => by cases e; rfl
  | a :: as, ss, e => by
    unfold agSls at e
    cases e1 : agSl ρ a with
    | none => rw [e1] at e; cases e
    | some s1 =>
      cases e2 : agSls ρ as with
      | none => rw [e1, e2] at e; cases e
      | some ss2 => rw [e1, e2] at e; cases e; exact congrArg Nat.succ (agSls_len e2)
theorem Ags.len : ∀ {vs : List V} {as : List Ag}, Ags K G σ vs as → vs.length = as.length
  | _, _, .nil => rfl
  | _, _, .val _ r => congrArg Nat.succ (Ags.len r)
  | _, _, .io _ r => congrArg Nat.succ (Ags.len r)
theorem callee_own (e : agSls ρ as = some ss) (r : Ags K G σ vs as) {k : Nat} {a : Addr} (h : OwnI (vs.map some) ss k a) : ∃ i, as[k]? = some (.io i) ∧ OwnI σ ρ i a := by
  obtain ⟨h1, s, o, h2, h3⟩ := h
  obtain ⟨v, e1, q⟩ := agSls_get e r h2
  rw [List.getElem?_map, e1] at h1
  have h1 : some (some v) = some (some (V.ref a)) := h1
  cases h1
  rcases q with ⟨d, _, rfl, _⟩ | ⟨i, o', s0, q1, rfl, q2, q3, q4⟩
  · cases h3
  · exact ⟨i, q1, q2, s0, o', q3, q4⟩
theorem callee_sr (R : SR K T G H σ ρ) (e : agSls ρ as = some ss) (r : Ags K G σ vs as) (n : (ios as).Nodup) : SR K T G H (vs.map some) ss where
  len := by rw [List.length_map, agSls_len e, r.len]
  at_ := fun k s h => by
    obtain ⟨v, e1, q⟩ := agSls_get e r h
    refine ⟨some v, by rw [List.getElem?_map, e1]; rfl, ?_⟩
    rcases q with ⟨d, _, rfl, q⟩ | ⟨i, o, s0, q1, rfl, q2, q3, q4⟩
    · exact ⟨v, rfl, q⟩
    · obtain ⟨x, c1, c2⟩ := R.at_ i s0 q3
      rw [q2] at c1
      cases c1
      cases s0 with
      | own o' => cases q4; exact c2
      | io o' => cases q4; exact c2
      | val d => cases q4
      | emp => cases q4
  ap := fun k l a h1 h2 => by
    obtain ⟨i, c1, c2⟩ := callee_own e r h1
    obtain ⟨j, d1, d2⟩ := callee_own e r h2
    have z := R.ap i j a c2 d2
    subst z
    exact ios_inj n c1 d1
  gh := R.gh
  tab := R.tab
  gt := R.gt
theorem ioFind_some : ∀ {as : List Ag} {ss : List Sl} {j : Nat} {o : OD}, ioFind as ss j = some o → ∃ k : Nat, as[k]? = some (.io j) ∧ ss[k]? = some (.io o)
  | [], ss, j, o, h => by unfold ioFind at h; cases h
  | a :: as, [], j, o, h => by cases a <;> (unfold ioFind at h; cases h)
  | .io i :: as, .io o' :: ss, j, o, h => by
    unfold ioFind at h
    split at h
    · rename_i z
      subst z
      cases h
      exact ⟨0, rfl, rfl⟩
    · obtain ⟨k, h1, h2⟩ := ioFind_some h
      exact ⟨k + 1, by simpa using h1, by simpa using h2⟩
  | .val d :: as, s :: ss, j, o, h => by
    unfold ioFind at h
    obtain ⟨k, h1, h2⟩ := ioFind_some h
    exact ⟨k + 1, by simpa using h1, by simpa using h2⟩
  | .io i :: as, .val d :: ss, j, o, h => by
    unfold ioFind at h
    obtain ⟨k, h1, h2⟩ := ioFind_some h
    exact ⟨k + 1, by simpa using h1, by simpa using h2⟩
  | .io i :: as, .own d :: ss, j, o, h => by
    unfold ioFind at h
    obtain ⟨k, h1, h2⟩ := ioFind_some h
    exact ⟨k + 1, by simpa using h1, by simpa using h2⟩
  | .io i :: as, .emp :: ss, j, o, h => by
    unfold ioFind at h
    obtain ⟨k, h1, h2⟩ := ioFind_some h
    exact ⟨k + 1, by simpa using h1, by simpa using h2⟩
theorem ioFind_none : ∀ {as : List Ag} {ss : List Sl} {j k : Nat} {o : OD}, as[k]? = some (.io j) → ss[k]? = some (.io o) → ioFind as ss j ≠ none
  | [], ss, j, k, o, h, _ => by simp at h
  | a :: as, [], j, k, o, _, h => by simp at h
  | a :: as, s :: ss, j, 0, o, h, h' => by
    simp at h h'
    subst h h'
    unfold ioFind
    rw [if_pos rfl]
    simp
  | .io i :: as, .io o' :: ss, j, k + 1, o, h, h' => by
    unfold ioFind
    split
    · simp
    · exact ioFind_none (k := k) (by simpa using h) (by simpa using h')
  | .val d :: as, s :: ss, j, k + 1, o, h, h' => by
    unfold ioFind
    exact ioFind_none (k := k) (by simpa using h) (by simpa using h')
  | .io i :: as, .val d :: ss, j, k + 1, o, h, h' => by
    unfold ioFind
    exact ioFind_none (k := k) (by simpa using h) (by simpa using h')
  | .io i :: as, .own d :: ss, j, k + 1, o, h, h' => by
    unfold ioFind
    exact ioFind_none (k := k) (by simpa using h) (by simpa using h')
  | .io i :: as, .emp :: ss, j, k + 1, o, h, h' => by
    unfold ioFind
    exact ioFind_none (k := k) (by simpa using h) (by simpa using h')
theorem putIo_at (j : Nat) : (putIo ρ as ss')[j]? = (ρ[j]?).map fun s => match ioFind as ss' j with
    | some o => s.putC o
    | none => s := by
  unfold putIo
  rw [List.getElem?_mapIdx]
theorem putC_held {s : Sl} {o o' : OD} (h : (s.putC o).held = some o') : ∃ o2, s.held = some o2 := by
  cases s with
  | own x => exact ⟨x, rfl⟩
  | io x => exact ⟨x, rfl⟩
  | val d => cases h
  | emp => cases h
theorem putIo_back {i : Nat} {a : Addr} (h : OwnI σ (putIo ρ as ss') i a) : OwnI σ ρ i a := by
  obtain ⟨h1, s, o, h2, h3⟩ := h
  rw [putIo_at] at h2
  cases e : ρ[i]? with
  | none => rw [e] at h2; cases h2
  | some s0 =>
    rw [e] at h2
    have h2 : some (match ioFind as ss' i with | some o => s0.putC o | none => s0) = some s := h2
    cases z : ioFind as ss' i with
    | none => rw [z] at h2; cases h2; exact ⟨h1, s0, o, e, h3⟩
    | some o1 =>
      rw [z] at h2
      cases h2
      obtain ⟨o2, q⟩ := putC_held h3
      exact ⟨h1, s0, o2, e, q⟩
theorem caller_back (R : SR K T G H σ ρ) (e : agSls ρ as = some ss) (r : Ags K G σ vs as) (n : (ios as).Nodup) (R' : SR K T G' H' (vs.map some) ss') (s : EStp T (vs.map some) ss G H ss' G' H') :
    SR K T G' H' σ (putIo ρ as ss') ∧ EStp T σ ρ G H (putIo ρ as ss') G' H' := by
  have own1 : ∀ {a}, Own (vs.map some) ss a → Own σ ρ a := fun {a} ⟨k, c⟩ => by
    obtain ⟨i, _, q⟩ := callee_own e r c
    exact ⟨i, q⟩
  have notArg : ∀ {j a}, ioFind as ss' j = none → OwnI σ ρ j a → ¬ Own (vs.map some) ss a := fun {j a} z c ⟨k, d⟩ => by
    obtain ⟨i, q1, q2⟩ := callee_own e r d
    have ij := R.ap i j a q2 c
    subst ij
    obtain ⟨_, s1, o1, d2, d3⟩ := d
    obtain ⟨v, _, q⟩ := agSls_get e r d2
    rcases q with ⟨dd, q3, _⟩ | ⟨i', o', s0, q3, q4, _⟩
    · rw [q1] at q3; cases q3
    · subst q4
      obtain ⟨⟨o2, q5⟩, _⟩ := s.io k o' d2
      exact ioFind_none q1 q5 z
  have stay : ∀ {j a}, ioFind as ss' j = none → OwnI σ ρ j a → G' a = none ∧ ∀ u, H a = some u → H' a = some u := fun {j a} z c => by
    have na := notArg z c
    obtain ⟨g, u, hu, _⟩ := R.og ⟨j, c⟩
    refine ⟨?_, fun u e => s.fr a u e (R.nt ⟨j, c⟩) na⟩
    cases y : G' a with
    | none => rfl
    | some w =>
      rcases s.gf a g (by rw [y]; simp) with q | q
      · rw [q] at hu; cases hu
      · exact (na q).elim
  have argAt : ∀ {j o' s0}, ioFind as ss' j = some o' → ρ[j]? = some s0 → ∃ v, σ[j]? = some (some v) ∧ SlAt K G' H' (some v) (.io o') ∧ ∃ o, s0.held = some o := fun {j o' s0} z hs0 => by
    obtain ⟨k, q1, q2⟩ := ioFind_some z
    obtain ⟨x, c1, c2⟩ := R'.at_ k _ q2
    have hk : k < ss.length := by
      rw [agSls_len e]
      exact (List.getElem?_eq_some_iff.mp q1).1
    obtain ⟨v, d1, q⟩ := agSls_get e r (List.getElem?_eq_getElem hk)
    rcases q with ⟨dd, q3, _⟩ | ⟨i', o2, s2, q3, q4, q5, q6, q7⟩
    · rw [q1] at q3; cases q3
    · rw [q1] at q3
      cases q3
      rw [hs0] at q6
      cases q6
      rw [List.getElem?_map, d1] at c1
      have c1 : some (some v) = some x := c1
      cases c1
      exact ⟨v, q5, c2, o2, q7⟩
  refine ⟨⟨by unfold putIo; rw [List.length_mapIdx]; exact R.len, fun j x h => ?_, fun i j a c1 c2 => R.ap i j a (putIo_back c1) (putIo_back c2), R'.gh, R'.tab, R'.gt⟩, ⟨⟨s.gg, fun a h h' => ?_, fun a o h m1 m2 => s.fr a o h m1 fun z => m2 (own1 z), s.al, fun a ⟨i, c⟩ => .inl ⟨i, putIo_back c⟩, fun i o h => ⟨?_, rfl⟩, fun i o a h h' => ?_⟩, fun i x h h' => ?_, fun i x o h h' => ?_⟩⟩
  · rw [putIo_at] at h
    cases e0 : ρ[j]? with
    | none => rw [e0] at h; cases h
    | some s0 =>
      rw [e0] at h
      have h : some (match ioFind as ss' j with | some o => s0.putC o | none => s0) = some x := h
      cases z : ioFind as ss' j with
      | none =>
        rw [z] at h
        cases h
        obtain ⟨y, h1, h2⟩ := R.at_ j s0 e0
        refine ⟨y, h1, h2.mov s.gg fun a ea hs => ?_⟩
        have c : OwnI σ ρ j a := by
          cases zz : s0.held with
          | none => rw [zz] at hs; cases hs
          | some o => exact ⟨by rw [h1, ea], s0, o, e0, zz⟩
        exact stay z c
      | some o' =>
        rw [z] at h
        cases h
        obtain ⟨v, h1, h2, o, h3⟩ := argAt z e0
        refine ⟨some v, h1, ?_⟩
        cases s0 with
        | own o2 => exact h2
        | io o2 => exact h2
        | val d => cases h3
        | emp => cases h3
  · rcases s.gf a h h' with q | q
    · exact .inl q
    · exact .inr (own1 q)
  · rw [putIo_at, h]
    cases ioFind as ss' i with
    | none => exact ⟨_, rfl⟩
    | some o => exact ⟨_, rfl⟩
  · have c : OwnI σ ρ i a := ⟨h', _, _, h, rfl⟩
    cases z : ioFind as ss' i with
    | none => exact (stay z c).1
    | some o' =>
      obtain ⟨v, h1, h2, _⟩ := argAt z h
      rw [h'] at h1
      cases h1
      obtain ⟨b, eb, gb, _⟩ := h2
      cases eb
      exact gb
  · rw [putIo_at, h]
    refine ⟨_, rfl, ?_⟩
    cases ioFind as ss' i with
    | none => exact h'
    | some o => cases x <;> first | rfl | exact h'
  · rw [putIo_at] at h
    cases e0 : ρ[i]? with
    | none => rw [e0] at h; cases h
    | some s0 =>
      rw [e0] at h
      have h : some (match ioFind as ss' i with | some o => s0.putC o | none => s0) = some x := h
      cases z : ioFind as ss' i with
      | none => rw [z] at h; cases h; exact ⟨s0, o, rfl, h'⟩
      | some o1 =>
        rw [z] at h
        cases h
        obtain ⟨o2, q⟩ := putC_held h'
        exact ⟨s0, o2, rfl, q⟩
end
end DL
namespace DL
open PySem PySem.Spec
open PyProof.Rows hiding St
open L2
section
variable {X : Cx} {T : List (Addr × Str)} {W : WX} {pos : Pos} {a : Expr} {es : List Expr}
abbrev DAg (X : Cx) (T : List (Addr × Str)) (W : WX) (es : List Expr) (f : Ev (List Ag)) : Prop := PA X es (tDX X.K T (agRel X.K) X.mg W f)
def gNil : Ev (List Ag) := fun ρ => .ok ρ []
def gVal (f : Ev D) (r : Ev (List Ag)) : Ev (List Ag) := fun ρ => (f ρ).bind fun ρ1 d => (r ρ1).bind fun ρ2 as => .ok ρ2 (.val d :: as)
def isHeld (ρ : En) (i : Nat) : Bool := match ρ[i]? with
  | some (.own _) => true
  | some (.io _) => true
  | _ => false
def gIo (i : Nat) (r : Ev (List Ag)) : Ev (List Ag) := fun ρ => if isHeld ρ i then (r ρ).bind fun ρ2 as => .ok ρ2 (.io i :: as) else .stk
theorem dag_nil : DAg X T W [] gNil := PA.mono pa_nil fun σ H Q ⟨G, ρ, R, h⟩ => h [] G H R (EStp.refl R) .nil
theorem dag_val {f : Ev D} {r : Ev (List Ag)} (ha : DF X T W a f) (hr : DAg X T W es r) (hs : starEach (a :: es) X.env = (false, eval a X.env) :: starEach es X.env := by rfl) : DAg X T W (a :: es) (gVal f r) := by
  refine PA.mono (pa_cons ha hr hs) fun σ H Q ⟨G, ρ, R, h⟩ => ?_
  refine tDX.mono (tRX.bind (rel := dRel X.K) (rel' := agRel X.K) R h) fun v H1 ⟨G1, ρ1, d, R1, s1, a1, h1⟩ => ?_
  refine tDX.mono (tRX.bind (rel := agRel X.K) (rel' := agRel X.K) R1 h1) fun vs H2 ⟨G2, ρ2, ds, R2, s2, a2, h2⟩ => ?_
  exact h2 (v :: vs) G2 H2 R2 (EStp.refl R2) (.val (Dat.sub s2.gg a1) a2)
theorem dag_io (i : Nat) {x : Str} {r : Ev (List Ag)} {p : Pos} (hr : DAg X T W es r) (hN : X.N[i]? = some x := by rfl) (hv : Vis X.env.scope x := by first | exact Or.inl rfl | exact Or.inr (Or.inl rfl) | exact Or.inr (Or.inr rfl)) (hd : (x == ("__debug__" : Str)) = false := by decide)
    (hcd : (x == ("__classdict__" : Str)) = false := by decide) (hs : starEach (.Name x p :: es) X.env = (false, eval (.Name x p) X.env) :: starEach es X.env := by rfl) : DAg X T W (.Name x p :: es) (gIo i r) := by
  refine PA.mono (pa_cons (pe_var hN hv hd hcd) hr hs) fun σ H Q ⟨G, ρ, R, h⟩ => ?_
  unfold gIo at h
  split at h
  · rename_i z
    unfold isHeld at z
    obtain ⟨v, hv⟩ : ∃ v, σ[i]? = some (some v) := by
      split at z
      · rename_i o e
        obtain ⟨x, h1, h2⟩ := R.at_ i _ e
        obtain ⟨a, ev, _⟩ := h2
        exact ⟨.ref a, by rw [h1, ev]⟩
      · rename_i o e
        obtain ⟨x, h1, h2⟩ := R.at_ i _ e
        obtain ⟨a, ev, _⟩ := h2
        exact ⟨.ref a, by rw [h1, ev]⟩
      · cases z
    refine ⟨v, hv, ?_⟩
    refine tDX.mono (tRX.bind (rel := agRel X.K) (rel' := agRel X.K) R h) fun vs H2 ⟨G2, ρ2, ds, R2, s2, a2, h2⟩ => ?_
    exact h2 (v :: vs) G2 H2 R2 (EStp.refl R2) (.io hv a2)
  · exact h.elim
/-- f(..) by its promise -/
theorem call_read {n : Nat} {F : FF} {fa : Ev (List Ag)} {σ : St} {H : Hp} {Q : VK} (h : tDE X.K T X.mg W (fCall n F fa) σ H Q) : tCallS (spD X.K T X.mg n F) (WE W) (tDX X.K T (agRel X.K) X.mg W fa) σ H Q := by
  obtain ⟨G, ρ, R, h⟩ := h
  refine tDX.mono (tRX.bind (rel := agRel X.K) (rel' := wRel X.K) R h) fun vs H1 ⟨G1, ρ1, as, R1, s1, a1, h1⟩ => ?_
  have a1 : Ags X.K G1 σ vs as := a1
  cases e : agSls ρ1 as with
  | none => rw [e] at h1; exact h1.elim
  | some ss =>
    simp only [e] at h1
    cases en : ss.length == n with
    | false => rw [en] at h1; exact h1.elim
    | true =>
      rw [en] at h1
      simp only [] at h1
      have hn : ss.length = n := eq_of_beq en
      refine ⟨by rw [a1.len, ← agSls_len e]; exact hn, ?_⟩
      have sl : ∀ s ∈ ss, (∃ d, s = Sl.val d) ∨ ∃ o, s = Sl.io o := fun s hs => by
        obtain ⟨k, hk⟩ := List.mem_iff_getElem?.mp hs
        obtain ⟨v, _, q⟩ := agSls_get e a1 hk
        rcases q with ⟨d, _, q, _⟩ | ⟨i, o, s0, _, q, _⟩
        · exact .inl ⟨d, q⟩
        · exact .inr ⟨o, q⟩
      cases ef : F ss with
      | stk => simp only [ef] at h1; exact h1.elim
      | exc c =>
        simp only [ef] at h1
        split at h1
        · rename_i nd
          refine ⟨G1, ss, callee_sr R1 e a1 nd, sl, ?_⟩
          rw [ef]
          intro C H' hm x
          refine h1 C H' hm ⟨fun b o hb m1 m2 => x.fr b o hb m1 fun ⟨k, c⟩ => ?_, x.al, x.tab⟩
          obtain ⟨i, _, q⟩ := callee_own e a1 c
          exact m2 ⟨i, q⟩
        · exact h1.elim
      | ret ss' w =>
        simp only [ef] at h1
        have key : (ios as).Nodup := by
          cases ei : ios as with
          | nil => exact List.nodup_nil
          | cons i is =>
            rw [ei] at h1
            simp only [] at h1
            split at h1
            · rename_i nd; exact nd
            · exact h1.elim
        refine ⟨G1, ss, callee_sr R1 e a1 key, sl, ?_⟩
        rw [ef]
        intro v G' H' R' st n'
        have NW : ∀ {ρ'}, WAt X.K G' H' σ ρ' H1 v w := fun {ρ'} => by
          cases w with
          | val d => exact n'
          | tmp o => exact n'
          | slot i => exact n'.elim
        obtain ⟨c1, c2⟩ := caller_back R1 e a1 key R' st
        cases ei : ios as with
        | nil =>
          rw [ei] at h1
          -- nothing was lent
          have z : putIo ρ1 as ss' = ρ1 := by
            apply List.ext_getElem?
            intro j
            rw [putIo_at]
            cases ρ1[j]? with
            | none => rfl
            | some s0 =>
              cases y : ioFind as ss' j with
              | none => simp [y]
              | some o =>
                obtain ⟨k, q1, _⟩ := ioFind_some y
                have := ios_mem q1
                rw [ei] at this
                cases this
          rw [z] at c1 c2
          exact h1 v G' H' c1 c2 NW
        | cons i is =>
          rw [ei] at h1
          simp only [] at h1
          split at h1
          · exact h1 v G' H' c1 c2 NW
          · exact h1.elim
theorem de_call {n k : Nat} {F : FF} {x : Str} {p : Pos} {f : Addr} {fd : FuncData} {ps : List Str} {e : Expr} {fa : Ev (List Ag)} (Fk : FnOk X.prog X.w X.K X.mg X.base (L2N.CX X.prog X.w) k f fd ps (spD X.K T X.mg n F)) (hr : Room k X.A) (hg : Gl X x) (hm : X.mg x = some (.ref f)) (hk : PySem.W.keepIn X.K (.ref f) = true) (hb : Binds X.K fd ps [])
    (hx : ∀ σ, PassesAt (L2N.CX X.prog X.w) X σ (WE W σ)) (ha : DAg X T W (e :: es) fa) (hdb : (x == ("__debug__" : Str)) = false := by decide) (he : starEach (e :: es) X.env = (false, eval e X.env) :: starEach es X.env := by rfl) (hpl : (backTo pos (starEach es X.env)).any (·.1) = false := by rfl) :
    DE X T W (.Call (.Name x p) (e :: es) [] pos) (fCall n F fa) :=
  PE.mono (pe_callS (E := WE W) Fk hr hg hm hk hb hx ha hdb he hpl) fun σ H Q => call_read
theorem pass_W0 : ∀ σ, PassesAt (L2N.CX X.prog X.w) X σ (WE W0 σ) := fun σ pins H s e s' I ⟨_, _, _, _, _, _, _, _, _, _, _, _, z⟩ => z.elim
end
/-! ### a def -/
def startE (n : Nat) (ss : List Sl) : En := ss ++ List.replicate (n - ss.length) .emp
def resW (ρ : En) : Wv → Option Wv
  | .val d => some (.val d)
  | .tmp o => some (.tmp o)
  | .slot i => match ρ[i]? with
    | some (.own o) => some (.tmp o)
    | some (.val d) => some (.val d)
    | _ => none
def outS (ρ : En) (s : Sl) (i : Nat) : Sl := match s with
  | .io o => (match ρ[i]? with
    | some (.io o') => .io o'
    | _ => .io o)
  | s => s
def outs (ss : List Sl) (ρ : En) : List Sl := ss.mapIdx fun i s => outS ρ s i
def finF (ss : List Sl) : SOut → FOut
  | .rt ρ w => match resW ρ w with
    | some w => .ret (outs ss ρ) w
    | none => .stk
  | .nx ρ => .ret (outs ss ρ) (.val .non)
  | .exc c => .exc c
  | _ => .stk
section
variable {K : PySem.W.Frag} {T : List (Addr × Str)} {σ' : St} {ρ' : En} {G G' H H' : Hp} {vs : List V} {ss : List Sl} {N : List Str}
theorem start_sr (R : SR K T G H (vs.map some) ss) (hl : vs.length ≤ N.length) : SR K T G H (L2.start N vs) (startE N.length ss) ∧ ∀ {i a}, OwnI (L2.start N vs) (startE N.length ss) i a → OwnI (vs.map some) ss i a := by
  have len : vs.length = ss.length := by have := R.len; rw [List.length_map] at this; exact this
  have low : ∀ {i s}, (startE N.length ss)[i]? = some s → s ≠ .emp → i < ss.length ∧ ss[i]? = some s := fun {i s} h hn => by
    unfold startE at h
    by_cases hi : i < ss.length
    · rw [List.getElem?_append_left hi] at h; exact ⟨hi, h⟩
    · rw [List.getElem?_append_right (by omega), List.getElem?_replicate] at h
      split at h
      · cases h; exact (hn rfl).elim
      · cases h
  have lowσ : ∀ {i}, i < ss.length → (L2.start N vs)[i]? = (vs.map some)[i]? := fun {i} hi => by
    unfold L2.start
    rw [List.getElem?_append_left (by rw [List.length_map]; omega)]
  have back : ∀ {i a}, OwnI (L2.start N vs) (startE N.length ss) i a → OwnI (vs.map some) ss i a := fun {i a} ⟨h1, s, o, h2, h3⟩ => by
    obtain ⟨c1, c2⟩ := low h2 (fun z => by subst z; cases h3)
    rw [lowσ c1] at h1
    exact ⟨h1, s, o, c2, h3⟩
  refine ⟨⟨?_, fun i s h => ?_, fun i j a c1 c2 => R.ap i j a (back c1) (back c2), R.gh, R.tab, R.gt⟩, back⟩
  · unfold L2.start startE
    rw [List.length_append, List.length_append, List.length_map, List.length_replicate, List.length_replicate, len]
  · by_cases hi : i < ss.length
    · unfold startE at h
      rw [List.getElem?_append_left hi] at h
      rw [lowσ hi]
      exact R.at_ i s h
    · have hs : s = .emp := by
        by_cases z : s = .emp
        · exact z
        · exact (hi (low h z).1).elim
      subst hs
      have : i < (startE N.length ss).length := (List.getElem?_eq_some_iff.mp h).1
      have hl2 : i < (L2.start N vs).length := by
        unfold startE at this
        unfold L2.start
        rw [List.length_append, List.length_replicate] at this ⊢
        rw [List.length_map]
        omega
      exact ⟨_, List.getElem?_eq_getElem hl2, trivial⟩
theorem end_sr (R : SR K T G H (vs.map some) ss) (hl : vs.length ≤ N.length) (hss : ∀ s ∈ ss, (∃ d, s = Sl.val d) ∨ ∃ o, s = Sl.io o) (R' : SR K T G' H' σ' ρ') (s : Stp T (L2.start N vs) (startE N.length ss) G H σ' ρ' G' H') :
    SR K T G' H' (vs.map some) (outs ss ρ') ∧ EStp T (vs.map some) ss G H (outs ss ρ') G' H' := by
  have len : vs.length = ss.length := by have := R.len; rw [List.length_map] at this; exact this
  obtain ⟨R0, back⟩ := start_sr (N := N) R hl
  have at' : ∀ i : Nat, (outs ss ρ')[i]? = (ss[i]?).map fun s => outS ρ' s i := fun i => by unfold outs; rw [List.getElem?_mapIdx]
  have up : ∀ {i : Nat} {s : Sl}, ss[i]? = some s → (startE N.length ss)[i]? = some s := fun {i s} h => by
    unfold startE
    rw [List.getElem?_append_left (List.getElem?_eq_some_iff.mp h).1]; exact h
  have upσ : ∀ {i : Nat} {s : Sl}, ss[i]? = some s → (L2.start N vs)[i]? = (vs.map some)[i]? := fun {i s} h => by
    unfold L2.start
    rw [List.getElem?_append_left (by rw [List.length_map]; have := (List.getElem?_eq_some_iff.mp h).1; omega)]
  -- a lent slot stays where it was
  have ioAt : ∀ {i : Nat} {o : OD}, ss[i]? = some (.io o) → ∃ o', ρ'[i]? = some (.io o') ∧ σ'[i]? = (vs.map some)[i]? ∧ (outs ss ρ')[i]? = some (.io o') := fun {i o} h => by
    obtain ⟨⟨o', c1⟩, c2⟩ := s.io i o (up h)
    refine ⟨o', c1, c2.trans (upσ h), ?_⟩
    rw [at', h]
    simp [outS, c1]
  have valAt : ∀ {i : Nat} {d : D}, ss[i]? = some (.val d) → (outs ss ρ')[i]? = some (.val d) := fun {i d} h => by rw [at', h]; rfl
  have cases' : ∀ {i : Nat} {x : Sl}, (outs ss ρ')[i]? = some x → (∃ d, ss[i]? = some (.val d) ∧ x = .val d) ∨ ∃ o o', ss[i]? = some (.io o) ∧ x = .io o' ∧ ρ'[i]? = some (.io o') ∧ σ'[i]? = (vs.map some)[i]? := fun {i x} h => by
    rw [at'] at h
    cases e : ss[i]? with
    | none => rw [e] at h; cases h
    | some y =>
      rcases hss y (List.mem_of_getElem? e) with ⟨d, rfl⟩ | ⟨o, rfl⟩
      · rw [e] at h; cases h; exact .inl ⟨d, rfl, rfl⟩
      · obtain ⟨o', c1, c2, c3⟩ := ioAt e
        rw [← at', c3] at h
        cases h
        exact .inr ⟨o, o', rfl, rfl, c1, c2⟩
  have own1 : ∀ {i a}, OwnI (vs.map some) (outs ss ρ') i a → OwnI σ' ρ' i a ∧ OwnI (vs.map some) ss i a := fun {i a} ⟨h1, x, o, h2, h3⟩ => by
    rcases cases' h2 with ⟨d, _, rfl⟩ | ⟨o1, o', c1, rfl, c2, c3⟩
    · cases h3
    · exact ⟨⟨c3.trans h1, _, _, c2, rfl⟩, h1, _, _, c1, rfl⟩
  have own0 : ∀ {a}, Own (L2.start N vs) (startE N.length ss) a → Own (vs.map some) ss a := fun {a} ⟨i, c⟩ => ⟨i, back c⟩
  refine ⟨⟨by unfold outs; rw [List.length_mapIdx]; exact R.len, fun i x h => ?_, fun i j a c1 c2 => R.ap i j a (own1 c1).2 (own1 c2).2, R'.gh, R'.tab, R'.gt⟩, ⟨⟨s.gg, fun a h h' => ?_, fun a o h m1 m2 => s.fr a o h m1 fun z => m2 (own0 z), s.al, fun a ⟨i, c⟩ => .inl ⟨i, (own1 c).2⟩, fun i o h => ?_, fun i o a h h' => ?_⟩, fun i x h h' => ?_, fun i x o h h' => ?_⟩⟩
  · rcases cases' h with ⟨d, c1, rfl⟩ | ⟨o1, o', c1, rfl, c2, c3⟩
    · obtain ⟨y, h1, h2⟩ := R.at_ i _ c1
      obtain ⟨v, ev, q⟩ := h2
      exact ⟨y, h1, v, ev, q.sub s.gg⟩
    · obtain ⟨y, h1, h2⟩ := R'.at_ i _ c2
      rw [c3] at h1
      exact ⟨y, h1, h2⟩
  · rcases s.gf a h h' with q | q
    · exact .inl q
    · exact .inr (own0 q)
  · obtain ⟨o', _, _, c3⟩ := ioAt h
    exact ⟨⟨o', c3⟩, rfl⟩
  · exact s.iog i o a (up h) ((upσ h).trans h')
  · rcases hss x (List.mem_of_getElem? h) with ⟨d, rfl⟩ | ⟨o, rfl⟩
    · exact ⟨_, valAt h, rfl⟩
    · obtain ⟨o', _, _, c3⟩ := ioAt h
      exact ⟨_, c3, rfl⟩
  · rcases cases' h with ⟨d, c1, rfl⟩ | ⟨o1, o', c1, rfl, c2, c3⟩
    · cases h'
    · exact ⟨_, _, c1, rfl⟩
/-- what is handed back -/
theorem res_at (R : SR K T G H (vs.map some) ss) (hl : vs.length ≤ N.length) (hss : ∀ s ∈ ss, (∃ d, s = Sl.val d) ∨ ∃ o, s = Sl.io o) (R' : SR K T G' H' σ' ρ') (s : Stp T (L2.start N vs) (startE N.length ss) G H σ' ρ' G' H') {v : V} {w w' : Wv} (h : WAt K G' H' σ' ρ' H v w) (e : resW ρ' w = some w') :
    NAt K G' H' H v w' := by
  cases w with
  | val d => cases e; exact h
  | tmp o => cases e; exact h
  | slot i =>
    obtain ⟨h1, x, h2, h3⟩ := h
    have e : (match ρ'[i]? with | some (.own o) => some (.tmp o) | some (.val d) => some (.val d) | _ => none) = some w' := e
    rw [h2] at e
    obtain ⟨y, c1, c2⟩ := R'.at_ i x h2
    rw [h1] at c1
    cases c1
    cases x with
    | io o => cases e
    | emp => cases e
    | val d =>
      cases e
      obtain ⟨v', ev, q⟩ := c2
      cases ev
      exact q
    | own o =>
      cases e
      obtain ⟨a, ev, g, q⟩ := c2
      cases ev
      refine ⟨a, rfl, ?_, g, q⟩
      have oi : OwnI σ' ρ' i a := ⟨h1, _, _, h2, rfl⟩
      rcases s.own a ⟨i, oi⟩ with ⟨j, d⟩ | z
      · obtain ⟨R0, back⟩ := start_sr (N := N) R hl
        obtain ⟨d1, x, o2, d2, d3⟩ := d
        have hio : ∃ o3, x = .io o3 := by
          obtain ⟨e1, x', o4, e2, e3⟩ := back ⟨d1, x, o2, d2, d3⟩
          rcases hss x' (List.mem_of_getElem? e2) with ⟨dd, rfl⟩ | ⟨o5, rfl⟩
          · cases e3
          · have : (startE N.length ss)[j]? = some (.io o5) := by
              unfold startE
              rw [List.getElem?_append_left (List.getElem?_eq_some_iff.mp e2).1]; exact e2
            rw [this] at d2
            cases d2
            exact ⟨o5, rfl⟩
        obtain ⟨o3, rfl⟩ := hio
        obtain ⟨⟨o6, f1⟩, f2⟩ := s.io j o3 d2
        have ji := R'.ap j i a ⟨f2.trans d1, _, _, f1, rfl⟩ oi
        subst ji
        rw [h2] at f1
        cases f1
      · exact z
end
section
variable {P : Program} {w : World} {K : PySem.W.Frag} {mg : Str → Option Value} {base : Heap} {T : List (Addr × Str)}
/-- what the body of a def is to be -/
abbrev WD (E : XK) : WX := fun cls d _ H => E cls d H
theorem fn_ok {x qual : Str} {params : Arguments} {body : List Stmt} {scope : Scope} {dvs : List V} {kws : List (Str × V)} {f : Addr} {fd : FuncData} {N ps : List Str} {k : Nat} {F : FF} (Fu : FunD K x qual params body scope dvs kws f fd) (S : FnScope N ps scope)
    (h : ∀ (cdv : Value) (A : Around) (outer : List Env) (s : Shared) (H : Hp) (E : XK), Room k (A.deeper (envOfC qual scope s.heap.objs.size f cdv)) → ∀ ss : List Sl, ss.length = ps.length → F ss ≠ .stk →
      ∃ fb, DSs (cxOf (L2N.CX P w) P w K mg base N qual scope f cdv A outer s H E) T (WD E) body fb ∧ finF ss (fb (startE N.length ss)) = F ss) :
    FnOk P w K mg base (L2N.CX P w) (k + 1) f fd ps (spD K T mg ps.length F) := by
  have hpl : ps.length ≤ N.length := by have := congrArg List.length S.pre; rw [List.length_take] at this; omega
  refine FunD.ok Fu S (fun vs H Q E q => q.1) fun cdv A outer s H vs Q E hr ⟨hl, G, ss, R, hss, q⟩ => ?_
  have len : vs.length = ss.length := by have := R.len; rw [List.length_map] at this; exact this
  have nstk : F ss ≠ .stk := fun z => by rw [z] at q; exact q
  obtain ⟨fb, hb, e⟩ := h cdv A outer s H E hr ss (by omega) nstk
  refine ⟨_, hb, G, startE N.length ss, (start_sr R (by omega)).1, ?_⟩
  cases z : fb (startE N.length ss) with
  | nx ρ' =>
    rw [z] at e
    intro σ' G' H' R' s'
    rw [← e] at q
    obtain ⟨c1, c2⟩ := end_sr R (by omega) hss R' s'
    exact q .non G' H' c1 c2 .non
  | rt ρ' w' =>
    rw [z] at e
    intro v σ' G' H' R' s' aw
    have e : (match resW ρ' w' with | some w => FOut.ret (outs ss ρ') w | none => .stk) = F ss := e
    cases y : resW ρ' w' with
    | none => rw [y] at e; exact (nstk e.symm).elim
    | some w2 =>
      rw [y] at e
      rw [← e] at q
      obtain ⟨c1, c2⟩ := end_sr R (by omega) hss R' s'
      exact q v G' H' c1 c2 (res_at R (by omega) hss R' s' aw y)
  | exc c =>
    rw [z] at e
    intro C σ' H' hm x
    rw [← e] at q
    refine q C H' hm ⟨fun a o ha m1 m2 => x.fr a o ha m1 fun ⟨i, c⟩ => m2 ⟨i, (start_sr R (by omega)).2 c⟩, x.al, x.tab⟩
  | bk ρ' => rw [z] at e; exact (nstk e.symm).elim
  | ct ρ' => rw [z] at e; exact (nstk e.symm).elim
  | stk => rw [z] at e; exact (nstk e.symm).elim
end
end DL
namespace DL
open PySem PySem.Spec
open PyProof.Rows hiding St
open L2
/-! ### raise -/
section
variable {X : Cx} {T : List (Addr × Str)} {W : WX} {pos : Pos}
def sExc (c : Str) : Sv := fun _ => .exc c
/-- the class x of an error of one's own, at C -/
structure Err (K : PySem.W.Frag) (mg : Str → Option Value) (x : Str) : Prop where
  ex : ∃ (C : Addr) (bmB : List Value) (B newId initId : String), ExcBaseFacts B newId initId bmB ∧ PySem.W.excIn K C bmB newId = true ∧ mg x = some (.ref C) ∧ PySem.W.keepIn K (.ref C) = true ∧ PySem.W.subIn K (.ref C) (.type "BaseException") = some true ∧ PySem.W.typeIn K (.ref C) = some (.type "type")
theorem ds_raise {x m : Str} {j : Nat} {p p2 pos2 : Pos} (hc : X.calm = true) (tk : L2N.Takes X W) (er : Err X.K X.mg x) (hg : Gl X x) (hdb : (x == ("__debug__" : Str)) = false := by decide) :
    DS X T W (.Raise (some (.Call (.Name x p) [.Constant (.str m) j p2] [] pos)) none pos2) (sExc x) := by
  obtain ⟨C, bmB, B, newId, initId, F, q, gC, kC, h1, h2⟩ := er.ex
  refine PS.mono (L2N.ps_raise hc tk (L2N.pmk_own F q gC kC (raises_own h1 h2) hg hdb)) fun D σ H ⟨G, ρ, R, h⟩ => ?_
  exact h C σ H gC ⟨fun _ _ e _ _ => e, fun _ e => e, R.tab⟩
end
/-! ### defs by name -/
structure Has (P : Program) (w : World) (K : PySem.W.Frag) (mg : Str → Option Value) (base : Heap) (T : List (Addr × Str)) (x : Str) (ps : List Str) (k : Nat) (F : FF) : Prop where
  ex : ∃ (f : Addr) (fd : FuncData), FnOk P w K mg base (L2N.CX P w) k f fd ps (spD K T mg ps.length F) ∧ mg x = some (.ref f) ∧ PySem.W.keepIn K (.ref f) = true ∧ Binds K fd ps []
/-- a def as it stands behind the top -/
structure Def (K : PySem.W.Frag) (mg : Str → Option Value) (x : Str) (ps : List Str) (st : Stmt) : Prop where
  ex : ∃ (f : Addr) (fd : FuncData), FunD K x x (defArgs st) (defBody st) (defScope st) [] [] f fd ∧ mg x = some (.ref f)
  bi : ∀ (kV doc pm : Value) (an : Option Addr) (cdv ct : Value) (us : List Value), us.length = ps.length → bindArgs (PySem.W.fnOf x x (defArgs st) (defBody st) (defScope st) .none kV doc pm an cdv ct) ⟨us, []⟩ = pure (ps.zip us)
/-- the context of a def's body -/
abbrev cxD (P : Program) (w : World) (K : PySem.W.Frag) (mg : Str → Option Value) (base : Heap) (N : List Str) (x : Str) (scope : Scope) (f : Addr) (cdv : Value) (A : Around) (outer : List Env) (s : Shared) (H : Hp) (E : XK) : Cx :=
  cxOf (L2N.CX P w) P w K mg base N x scope f cdv A outer s H E
theorem Has.of {P : Program} {w : World} {K : PySem.W.Frag} {mg : Str → Option Value} {base : Heap} {T : List (Addr × Str)} {x : Str} {ps N : List Str} {st : Stmt} {k : Nat} {F : FF} (d : Def K mg x ps st) (S : FnScope N ps (defScope st))
    (h : ∀ (f : Addr) (cdv : Value) (A : Around) (outer : List Env) (s : Shared) (H : Hp) (E : XK), Room k (A.deeper (envOfC x (defScope st) s.heap.objs.size f cdv)) → ∀ ss : List Sl, ss.length = ps.length → F ss ≠ .stk →
      ∃ fb, DSs (cxD P w K mg base N x (defScope st) f cdv A outer s H E) T (WD E) (defBody st) fb ∧ finF ss (fb (startE N.length ss)) = F ss) : Has P w K mg base T x ps (k + 1) F := by
  obtain ⟨f, fd, Fu, m⟩ := d.ex
  exact ⟨f, fd, fn_ok Fu S fun cdv A outer s H E hr ss hl hn => h f cdv A outer s H E hr ss hl hn, m, Fu.kp, FunD.bindsN Fu d.bi⟩
theorem Has.mono {P : Program} {w : World} {K : PySem.W.Frag} {mg : Str → Option Value} {base : Heap} {T : List (Addr × Str)} {x : Str} {ps : List Str} {k j : Nat} {F : FF} (h : Has P w K mg base T x ps k F) (hk : k ≤ j) : Has P w K mg base T x ps j F := by
  obtain ⟨f, fd, G, r⟩ := h.ex
  exact ⟨f, fd, G.mono hk, r⟩
theorem hu65 {A : Around} {k : Nat} (hr : Room k A) : A.units + 65 < cLine := by have := hr.un; omega
/-- the wish of a def's body is taken -/
theorem tkD {P : Program} {w : World} {K : PySem.W.Frag} {mg : Str → Option Value} {base : Heap} {N : List Str} {x : Str} {scope : Scope} {f : Addr} {cdv : Value} {A : Around} {outer : List Env} {s : Shared} {H : Hp} {E : XK} : L2N.Takes (cxD P w K mg base N x scope f cdv A outer s H E) (WD E) := L2N.takes_of rfl rfl rfl rfl
theorem poD {P : Program} {w : World} {K : PySem.W.Frag} {mg : Str → Option Value} {base : Heap} {N : List Str} {x : Str} {scope : Scope} {f : Addr} {cdv : Value} {A : Around} {outer : List Env} {s : Shared} {H : Hp} {E : XK} :
    PassesOwn (model (cxD P w K mg base N x scope f cdv A outer s H E).prog (cxD P w K mg base N x scope f cdv A outer s H E).w) (cxD P w K mg base N x scope f cdv A outer s H E).A (cxD P w K mg base N x scope f cdv A outer s H E).env (cxD P w K mg base N x scope f cdv A outer s H E).xe := passes_of rfl
theorem pxD {P : Program} {w : World} {K : PySem.W.Frag} {mg : Str → Option Value} {base : Heap} {N : List Str} {x : Str} {scope : Scope} {f : Addr} {cdv : Value} {A : Around} {outer : List Env} {s : Shared} {H : Hp} {E : XK} : ∀ σ, PassesAt (L2N.CX P w) (cxD P w K mg base N x scope f cdv A outer s H E) σ (WE (WD E) σ) := L2N.passAt tkD
/-! ### pure defs -/
inductive PO where
  | ret (w : Wv) | exc (c : Str) | stk
def PO.f (ss : List Sl) : PO → FOut
  | .ret w => .ret ss w
  | .exc c => .exc c
  | .stk => .stk
def valsOf : List Sl → Option (List D)
  | [] => some []
  | .val d :: r => (valsOf r).map (d :: ·)
  | _ => none
def pF (g : List D → PO) : FF := fun ss => match valsOf ss with
  | some ds => (g ds).f ss
  | none => .stk
theorem valsOf_eq : ∀ {ss : List Sl} {ds : List D}, valsOf ss = some ds → ss = ds.map Sl.val
  | [], ds, h => by cases h; rfl
  | .val d :: r, ds, h => by
    have h : (valsOf r).map (d :: ·) = some ds := h
    cases e : valsOf r with
    | none => rw [e] at h; cases h
    | some es => rw [e] at h; cases h; rw [valsOf_eq e]; rfl
  | .own _ :: _, _, h => by cases h
  | .io _ :: _, _, h => by cases h
  | .emp :: _, _, h => by cases h
theorem valsOf_map : ∀ ds : List D, valsOf (ds.map Sl.val) = some ds
  | [] => rfl
  | d :: ds => by
    show (valsOf (ds.map Sl.val)).map (d :: ·) = some (d :: ds)
    rw [valsOf_map ds]; rfl
theorem outs_val (ds : List D) (ρ : En) : outs (ds.map Sl.val) ρ = ds.map Sl.val := by
  apply List.ext_getElem?
  intro i
  unfold outs
  rw [List.getElem?_mapIdx, List.getElem?_map]
  cases ds[i]? <;> rfl
/-- a pure def: its body by data alone -/
theorem pF_of {n : Nat} {ss : List Sl} {g : List D → PO} {m : Nat} {fb : Sv} (hl : ss.length = n) (hn : pF g ss ≠ .stk) (h : ∀ ds : List D, ds.length = n → g ds ≠ .stk → finF (ds.map Sl.val) (fb (startE m (ds.map Sl.val))) = (g ds).f (ds.map Sl.val)) : finF ss (fb (startE m ss)) = pF g ss := by
  unfold pF at hn ⊢
  cases e : valsOf ss with
  | none => rw [e] at hn; exact (hn rfl).elim
  | some ds =>
    rw [e] at hn
    have es := valsOf_eq e
    subst es
    refine h ds (by simpa using hl) fun z => ?_
    simp only [z] at hn
    exact hn rfl
end DL
namespace DL
open PySem PySem.Spec
open PyProof.Rows hiding St
open L2
/-! ### a, b = x, y -/
section
variable {K : PySem.W.Frag} {T : List (Addr × Str)} {σ σ0 : St} {ρ ρ0 ρ1 : En} {G G0 H H0 : Hp}
/-- one stored behind the others: what a value is does not hang on the slots -/
theorem put_free {i : Nat} {v : V} {w : Wv} (R0 : SR K T G0 H0 σ0 ρ0) (s0 : Stp T σ0 ρ0 G0 H0 σ ρ G H) (R : SR K T G H σ ρ) (hw : ∀ j, w ≠ .slot j) (h : WAt K G H σ ρ H0 v w) (no : ∀ o a, w = .tmp o → v = .ref a → ¬ Own σ ρ a) (e : putS ρ i w = some ρ1) :
    SR K T G H (σ.set i (some v)) ρ1 ∧ Stp T σ0 ρ0 G0 H0 (σ.set i (some v)) ρ1 G H ∧ ∀ b, Own (σ.set i (some v)) ρ1 b → Own σ ρ b ∨ (v = .ref b ∧ ∃ o, w = .tmp o) := by
  cases w with
  | slot j => exact (hw j rfl).elim
  | val d =>
    have e : (if isIo ρ i then none else some (ρ.set i (.val d))) = some ρ1 := e
    cases z : isIo ρ i with
    | true => rw [z] at e; cases e
    | false =>
      rw [z] at e
      cases e
      obtain ⟨c1, c2⟩ := put_val R z h
      refine ⟨c1, s0.trans R0 c2, fun b ⟨j, c⟩ => .inl ?_⟩
      obtain ⟨s1, hs1, _⟩ := isIo_no z
      rcases set_back (List.getElem?_eq_some_iff.mp hs1).1 R.len c with ⟨_, c⟩ | ⟨_, _, o, c⟩
      · exact ⟨j, c⟩
      · cases c
  | tmp o =>
    have e : (if isIo ρ i then none else some (ρ.set i (.own o))) = some ρ1 := e
    cases z : isIo ρ i with
    | true => rw [z] at e; cases e
    | false =>
      rw [z] at e
      cases e
      obtain ⟨a, rfl, h0, g, q⟩ := h
      obtain ⟨c1, c2⟩ := put_own R0 s0 R z h0 (no o a rfl rfl) g q
      refine ⟨c1, c2, fun b ⟨j, c⟩ => ?_⟩
      obtain ⟨s1, hs1, _⟩ := isIo_no z
      rcases set_back (List.getElem?_eq_some_iff.mp hs1).1 R.len c with ⟨_, c⟩ | ⟨_, e2, _⟩
      · exact .inl ⟨j, c⟩
      · exact .inr ⟨e2, o, rfl⟩
end
section
variable {X : Cx} {T : List (Addr × Str)} {W : WX} {pos : Pos} {a b c : Expr} {fa fb fc : Ev Wv}
/-- frozen unless new -/
def fNs (fa : Ev Wv) : Ev Wv := fun ρ => (fa ρ).bind fun ρ1 w => match w with
  | .slot j => (match frz ρ1 (.slot j) with
    | some (ρ2, d) => .ok ρ2 (.val d)
    | none => .stk)
  | w => .ok ρ1 w
theorem ns_read {σ : St} {H : Hp} {Q : VK} (h : tDE X.K T X.mg W (fNs fa) σ H Q) : tDE X.K T X.mg W fa σ H Q := by
  obtain ⟨G, ρ, R, h⟩ := h
  refine tDX.mono (tRX.bind0 (rel := wRel X.K) (rel' := wRel X.K) R h) fun v H1 ⟨G1, ρ1, w, R1, s1, a1, h1⟩ => ?_
  cases w with
  | val d => exact h1 v G1 H1 R1 s1 a1
  | tmp o => exact h1 v G1 H1 R1 s1 a1
  | slot j =>
    simp only [] at h1
    cases e : frz ρ1 (.slot j) with
    | none => rw [e] at h1; exact h1.elim
    | some p =>
      obtain ⟨ρ2, d⟩ := p
      rw [e] at h1
      obtain ⟨G2, R2, s2, q2⟩ := frz_at R s1 R1 a1 e
      exact h1 v G2 H1 R2 s2 q2
theorem de_ns (h : DE X T W a fa) : DE X T W a (fNs fa) := PE.mono h fun σ H Q => ns_read
theorem tS.bindL {K : PySem.W.Frag} {mg : Str → Option Value} {σ : St} {ρ ρ1 : En} {G G1 H H1 : Hp} {α β : Type} {rel : Rel α β} {f : Ev α} {k : En → α → SOut} {D : Ends} (R : SR K T G H σ ρ) (s : EStp T σ ρ G H ρ1 G1 H1) (R1 : SR K T G1 H1 σ ρ1) (h : tS K T mg W σ ρ G H ((f ρ1).thenS k) D) :
    tDX K T rel mg W f σ H1 fun v H2 => ∃ G2 ρ2 w, SR K T G2 H2 σ ρ2 ∧ EStp T σ ρ1 G1 H1 ρ2 G2 H2 ∧ rel G2 H2 σ ρ2 H1 v w ∧ tS K T mg W σ ρ G H (k ρ2 w) D := by
  refine ⟨G1, ρ1, R1, ?_⟩
  cases e : f ρ1 with
  | ok ρ' w =>
    rw [e] at h
    exact fun v G' H' a b c => ⟨G', ρ', w, a, b, c, h⟩
  | exc c =>
    rw [e] at h
    exact fun C H' e x => h C σ H' e (StX.after s.toStp x)
  | stk => rw [e] at h; exact h
def isSlot : Wv → Bool
  | .slot _ => true
  | _ => false
def parPut (ρ : En) (i j : Nat) (w1 w2 : Wv) : SOut := if isSlot w1 || isSlot w2 then .stk else match putS ρ i w1 with
  | some ρ3 => oS (putS ρ3 j w2)
  | none => .stk
def sPar (i j : Nat) (fa fb : Ev Wv) : Sv := fun ρ => (fNs fa ρ).thenS fun ρ1 w1 => (fNs fb ρ1).thenS fun ρ2 w2 => parPut ρ2 i j w1 w2
theorem par_at {ρ : En} {i j : Nat} {w1 w2 : Wv} (h : parPut ρ i j w1 w2 ≠ .stk) : (∀ k, w1 ≠ .slot k) ∧ (∀ k, w2 ≠ .slot k) ∧ ∃ ρ3 ρ4, putS ρ i w1 = some ρ3 ∧ putS ρ3 j w2 = some ρ4 ∧ parPut ρ i j w1 w2 = .nx ρ4 := by
  unfold parPut at h ⊢
  cases z1 : isSlot w1 with
  | true => rw [z1] at h; exact (h rfl).elim
  | false =>
    cases z2 : isSlot w2 with
    | true => rw [z1, z2] at h; exact (h rfl).elim
    | false =>
      rw [z1, z2] at h
      refine ⟨fun k q => (by rw [q] at z1; cases z1), fun k q => (by rw [q] at z2; cases z2), ?_⟩
      cases e1 : putS ρ i w1 with
      | none => rw [e1] at h; exact (h rfl).elim
      | some ρ3 =>
        rw [e1] at h
        cases e2 : putS ρ3 j w2 with
        | none => simp only [e2] at h; exact (h rfl).elim
        | some ρ4 => exact ⟨ρ3, ρ4, rfl, e2, by simp only [e2]; rfl⟩
theorem ds_par {i j : Nat} {x y : Str} {px py pt : Pos} {kt k2 pt2} (hc : X.calm = true) (hN : X.N.Nodup) (hi : X.N[i]? = some x) (hj : X.N[j]? = some y) (hij : i ≠ j) (hx : X.env.scope.names.lookup x = some .local) (hy : X.env.scope.names.lookup y = some .local)
    (ha : DE X T W a fa) (hb : DE X T W b fb) (hw : swappedStores [.Tuple [.Name x px, .Name y py] kt pt] (.Tuple [a, b] k2 pt2) X.env = pure (some [x, y])) (hs : swapsWithSole [.Tuple [.Name x px, .Name y py] kt pt] (.Tuple [a, b] k2 pt2) pos.line X.env = pure false := by rfl)
    (h1 : starEach [a, b] X.env = (false, eval a X.env) :: starEach [b] X.env := by rfl) (h2 : starEach [b] X.env = (false, eval b X.env) :: starEach [] X.env := by rfl) :
    DS X T W (.Assign [.Tuple [.Name x px, .Name y py] kt pt] (.Tuple [a, b] k2 pt2) pos) (sPar i j fa fb) := by
  refine PS.mono (ps_par hc hN hi hj hij hx hy (pa_cons (de_ns ha) (pa_cons (de_ns hb) pa_nil h2) h1) hw hs) fun D σ H ⟨G, ρ, R, h⟩ => ?_
  refine tDX.mono (tS.bind0 (rel := wRel X.K) R h) fun v H1 ⟨G1, ρ1, w1, R1, s1, a1, q1⟩ => ?_
  refine tDX.mono (tS.bindL (rel := wRel X.K) R s1 R1 q1) fun u H2 ⟨G2, ρ2, w2, R2, s2, a2, q2⟩ => ?_
  refine ⟨v, u, rfl, ?_⟩
  have ns : parPut ρ2 i j w1 w2 ≠ .stk := fun z => by rw [z] at q2; exact q2
  obtain ⟨n1, n2, ρ3, ρ4, e1, e2, e3⟩ := par_at ns
  rw [e3] at q2
  have s12 := s1.trans R s2
  have b1 := WAt.step R s1 R1 s2 a1
  have fresh : ∀ {b}, H b = none → ¬ Own σ ρ2 b := fun {b} hb z => Own.there R (s12.onA z) hb
  obtain ⟨R3, s3, o3⟩ := put_free R s12.toStp R2 n1 b1 (fun o b ew ev => by
    subst ew ev
    obtain ⟨b', eb, hb, _⟩ := b1
    cases eb
    exact fresh hb) e1
  have b2 : WAt X.K G2 H2 (σ.set i (some v)) ρ3 H u w2 := by
    cases w2 with
    | val d => exact a2
    | tmp o => obtain ⟨b, eb, hb, r⟩ := a2; exact ⟨b, eb, s1.al b hb, r⟩
    | slot k => exact (n2 k rfl).elim
  obtain ⟨R4, s4, _⟩ := put_free R s3 R3 n2 b2 (fun o b ew ev => by
    subst ew ev
    obtain ⟨b', eb, hb, _⟩ := a2
    cases eb
    intro z
    rcases o3 b z with z | ⟨z1, o', z2⟩
    · exact fresh (s1.al b hb) z
    · subst z1 z2
      obtain ⟨b', eb, _, _, q⟩ := a1
      cases eb
      obtain ⟨x, hx, _⟩ := q.there
      rw [hb] at hx; cases hx) e2
  exact q2 _ G2 H2 R4 s4
end
end DL
namespace DL
open PySem PySem.Spec
open PyProof.Rows hiding St
open L2
/-! ### owned objects change -/
section
variable {K : PySem.W.Frag} {T : List (Addr × Str)} {σ : St} {ρ : En} {G H : Hp}
theorem own_upd {i : Nat} {a : Addr} {s : Sl} {o o' : OD} {u : HO} (R : SR K T G H σ ρ) (hσ : σ[i]? = some (some (.ref a))) (hs : ρ[i]? = some s) (hh : s.held = some o) (q : OAt K G (upd H a u) a o') :
    SR K T G (upd H a u) σ (ρ.set i (s.putC o')) ∧ EStp T σ ρ G H (ρ.set i (s.putC o')) G (upd H a u) := by
  have oi : OwnI σ ρ i a := ⟨hσ, s, o, hs, hh⟩
  have hi : i < ρ.length := (List.getElem?_eq_some_iff.mp hs).1
  obtain ⟨g, u0, hu0, nt0⟩ := R.og ⟨i, oi⟩
  have nT := R.nt ⟨i, oi⟩
  have back : ∀ j b, OwnI σ (ρ.set i (s.putC o')) j b → OwnI σ ρ j b := fun j b ⟨c1, s2, o2, c2, c3⟩ => by
    by_cases hj : j = i
    · subst hj
      rw [hσ] at c1
      cases c1
      exact oi
    · rw [List.getElem?_set_ne (Ne.symm hj)] at c2
      exact ⟨c1, s2, o2, c2, c3⟩
  refine ⟨⟨by rw [List.length_set]; exact R.len, fun j x hj => ?_, fun j k b c1 c2 => R.ap j k b (back j b c1) (back k b c2), fun b o2 e => ?_, fun p hp => ?_, R.gt⟩, ⟨⟨Sub.refl G, fun b e e' => (e' e).elim, fun b o2 e m1 m2 => ?_, fun b e => ?_, fun b ⟨j, c⟩ => .inl ⟨j, back j b c⟩, fun j o2 hj => ⟨?_, rfl⟩, fun j o2 b hj hb => (R.og ⟨j, hb, _, _, hj, rfl⟩).1⟩, fun j x hj hj' => ?_, fun j x o2 hj hj' => ?_⟩⟩
  · by_cases hji : j = i
    · subst hji
      rw [List.getElem?_set_self hi] at hj
      cases hj
      refine ⟨_, hσ, ?_⟩
      cases s with
      | own x => exact ⟨a, rfl, g, q⟩
      | io x => exact ⟨a, rfl, g, q⟩
      | val d => cases hh
      | emp => cases hh
    · rw [List.getElem?_set_ne (Ne.symm hji)] at hj
      obtain ⟨y, h1, h2⟩ := R.at_ j x hj
      refine ⟨y, h1, h2.mov (Sub.refl G) fun b eb hs => ?_⟩
      have c : OwnI σ ρ j b := by
        cases z : x.held with
        | none => rw [z] at hs; cases hs
        | some o3 => exact ⟨by rw [h1, eb], x, o3, hj, z⟩
      refine ⟨(R.og ⟨j, c⟩).1, fun w e => ?_⟩
      rw [upd_ne (show b ≠ a from fun z => hji (R.ap j i a (by rw [← z]; exact c) oi))]
      exact e
  · rw [upd_ne (show b ≠ a from fun z => by rw [z, g] at e; cases e)]
    exact R.gh b o2 e
  · obtain ⟨ps, h1, h2, h3⟩ := R.tab p hp
    refine ⟨ps, by rw [upd_ne (nT p hp)]; exact h1, h2, fun pos cv hc => ?_⟩
    obtain ⟨c, e1, e2⟩ := h3 pos cv hc
    refine ⟨c, e1, ?_⟩
    rw [upd_ne (fun z => ?_)]
    · exact e2
    · obtain ⟨s1, o1, f1, f2, _, f3⟩ := R.oat oi
      rw [z] at e2
      cases o1 with
      | lst ds => obtain ⟨xs, f4, _⟩ := f3; rw [f4] at e2; unfold LamX.CodeO at e2; cases e2
      | dK ks ds => obtain ⟨xs, f4, _⟩ := f3; rw [f4] at e2; unfold LamX.CodeO at e2; cases e2
      | dT ks ds => obtain ⟨xs, f4, _⟩ := f3; rw [f4] at e2; unfold LamX.CodeO at e2; cases e2
  · rw [upd_ne (show b ≠ a from fun z => m2 (by rw [z]; exact ⟨i, oi⟩))]
    exact e
  · by_cases z : b = a
    · rw [z, upd_same] at e; cases e
    · rw [upd_ne z] at e; exact e
  · by_cases hji : j = i
    · subst hji
      rw [hs] at hj
      cases hj
      exact ⟨o', List.getElem?_set_self hi⟩
    · exact ⟨o2, by rw [List.getElem?_set_ne (Ne.symm hji)]; exact hj⟩
  · by_cases hji : j = i
    · subst hji
      refine ⟨_, List.getElem?_set_self hi, ?_⟩
      cases s with
      | own x => rfl
      | io x => rfl
      | val d => cases hh
      | emp => cases hh
    · exact ⟨x, by rw [List.getElem?_set_ne (Ne.symm hji)]; exact hj, hj'⟩
  · by_cases hji : j = i
    · subst hji; exact ⟨s, o, hs, hh⟩
    · rw [List.getElem?_set_ne (Ne.symm hji)] at hj
      exact ⟨x, o2, hj, hj'⟩
/-- the list that slot i holds -/
def heldL (ρ : En) (i : Nat) : Option (List D) := match ρ[i]? with
  | some (.own (.lst ds)) => some ds
  | some (.io (.lst ds)) => some ds
  | _ => none
def setL (ρ : En) (i : Nat) (ds : List D) : En := match ρ[i]? with
  | some (.own _) => ρ.set i (.own (.lst ds))
  | some (.io _) => ρ.set i (.io (.lst ds))
  | _ => ρ
theorem heldL_at (R : SR K T G H σ ρ) {i : Nat} {ds : List D} (e : heldL ρ i = some ds) : ∃ a s xs, σ[i]? = some (some (.ref a)) ∧ ρ[i]? = some s ∧ s.held = some (.lst ds) ∧ H a = some (.lst xs) ∧ Dats K G xs ds ∧ ∀ es, setL ρ i es = ρ.set i (s.putC (.lst es)) := by
  unfold heldL at e
  unfold setL
  split at e
  · rename_i ds' h
    cases e
    obtain ⟨x, h1, h2⟩ := R.at_ i _ h
    obtain ⟨a, rfl, g, xs, q1, q2⟩ := h2
    exact ⟨a, _, xs, h1, h, rfl, q1, q2, fun es => by rw [h]; rfl⟩
  · rename_i ds' h
    cases e
    obtain ⟨x, h1, h2⟩ := R.at_ i _ h
    obtain ⟨a, rfl, g, xs, q1, q2⟩ := h2
    exact ⟨a, _, xs, h1, h, rfl, q1, q2, fun es => by rw [h]; rfl⟩
  · cases e
end
section
variable {X : Cx} {T : List (Addr × Str)} {W : WX} {pos apos p1 : Pos} {a b : Expr} {fa fb : Ev Wv} {x : Str} {i : Nat}
/-- xs.append(e), xs in slot i -/
def fApp (i : Nat) (fe : Ev D) : Ev Wv := fun ρ => match heldL ρ i with
  | none => .stk
  | some _ => (fe ρ).bind fun ρ1 d => match heldL ρ1 i with
    | some ds => if fits (ds.length + 1) then .ok (setL ρ1 i (ds ++ [d])) (.val .non) else .stk
    | none => .stk
theorem de_append {fe : Ev D} (i : Nat) {x : Str} {p1 apos pos : Pos} (ha : DF X T W a fe) (hN : X.N[i]? = some x := by rfl) (hv : Vis X.env.scope x := by first | exact Or.inl rfl | exact Or.inr (Or.inl rfl) | exact Or.inr (Or.inr rfl)) (hd : (x == ("__debug__" : Str)) = false := by decide)
    (hcd : (x == ("__classdict__" : Str)) = false := by decide)
    (h : ∀ {to : TE} {t : TA}, PE X (.Name x p1) to → PA X [a] t → PE X (.Call (.Attribute (.Name x p1) "append" apos) [a] [] pos) (tBM X.K "list" rAppend to t) := by exact fun ho ha => pe_bm PySem.F.plainAttrs_list PySem.F.slot_list_append PySem.F.type_list_append mt_append ho ha)
    (hs : starEach [a] X.env = (false, eval a X.env) :: starEach [] X.env := by rfl) :
    DE X T W (.Call (.Attribute (.Name x p1) "append" apos) [a] [] pos) (fApp i fe) := by
  refine PE.mono (h (pe_var hN hv hd hcd) (pa_cons ha pa_nil hs)) fun σ H Q ⟨G, ρ, R, h⟩ => ?_
  unfold fApp at h
  cases e0 : heldL ρ i with
  | none => rw [e0] at h; exact h.elim
  | some ds0 =>
    rw [e0] at h
    obtain ⟨a0, s0, xs0, c1, c2, c3, c4, c5, c6⟩ := heldL_at R e0
    refine ⟨.ref a0, c1, .inl ⟨rfl, xs0, .of c4⟩, ?_⟩
    refine tDX.mono (tRX.bind (rel := dRel X.K) (rel' := wRel X.K) R h) fun v H1 ⟨G1, ρ1, d, R1, s1, a1, h1⟩ => ?_
    cases e1 : heldL ρ1 i with
    | none => rw [e1] at h1; exact h1.elim
    | some ds =>
      simp only [e1] at h1
      split at h1
      · rename_i hf
        obtain ⟨a2, s2, xs, d1, d2, d3, d4, d5, d6⟩ := heldL_at R1 e1
        rw [c1] at d1
        cases d1
        have hl := fits_ok hf
        rw [← d5.len] at hl
        refine ⟨a0, xs, v, rfl, rfl, d4, hl, ?_⟩
        have q : OAt X.K G1 (upd H1 a0 (.lst (xs ++ [v]))) a0 (.lst (ds ++ [d])) := ⟨_, upd_same, d5.app (.cons a1 .nil)⟩
        obtain ⟨f1, f2⟩ := own_upd R1 c1 d2 d3 q
        rw [d6] at h1
        exact h1 .non G1 _ f1 f2 .non
      · exact h1.elim
/-- xs.pop() -/
def fPop (i : Nat) : Ev Wv := fun ρ => match heldL ρ i with
  | none => .stk
  | some ds => match ds[ds.length - 1]? with
    | some d => .ok (setL ρ i ds.dropLast) (.val d)
    | none => .stk
theorem de_pop (i : Nat) {x : Str} {p1 apos pos : Pos} (hN : X.N[i]? = some x := by rfl) (hv : Vis X.env.scope x := by first | exact Or.inl rfl | exact Or.inr (Or.inl rfl) | exact Or.inr (Or.inr rfl)) (hd : (x == ("__debug__" : Str)) = false := by decide)
    (hcd : (x == ("__classdict__" : Str)) = false := by decide)
    (h : ∀ {to : TE}, PE X (.Name x p1) to → PE X (.Call (.Attribute (.Name x p1) "pop" apos) [] [] pos) (tBM0 X.K "list" rPop to) := by exact fun ho => pe_bm0 PySem.F.plainAttrs_list PySem.F.slot_list_pop PySem.F.type_list_pop mt_pop ho) :
    DE X T W (.Call (.Attribute (.Name x p1) "pop" apos) [] [] pos) (fPop i) := by
  refine PE.mono (h (pe_var hN hv hd hcd)) fun σ H Q ⟨G, ρ, R, h⟩ => ?_
  unfold fPop at h
  cases e0 : heldL ρ i with
  | none => rw [e0] at h; exact h.elim
  | some ds =>
    rw [e0] at h
    obtain ⟨a0, s0, xs, c1, c2, c3, c4, c5, c6⟩ := heldL_at R e0
    cases e1 : ds[ds.length - 1]? with
    | none => simp only [e1] at h; exact (show False from h).elim
    | some d =>
      simp only [e1] at h
      obtain ⟨v, f1, f2⟩ := c5.get e1
      rw [← c5.len] at f1
      refine ⟨.ref a0, c1, .inl ⟨rfl, xs, .of c4⟩, a0, xs, v, rfl, rfl, c4, f1, ?_⟩
      have q : OAt X.K G (upd H a0 (.lst xs.dropLast)) a0 (.lst ds.dropLast) := ⟨_, upd_same, c5.dropLast⟩
      obtain ⟨g1, g2⟩ := own_upd R c1 c2 c3 q
      rw [c6] at h
      exact h v G _ g1 g2 f2
/-- xs[k] = e -/
def sSetIx (i : Nat) (fe : Ev D) (fk : Ev Wv) : Sv := fun ρ => (fe ρ).thenS fun ρ1 d => match heldL ρ1 i with
  | none => .stk
  | some _ => (fk ρ1).thenS fun ρ2 w => match w with
    | .val (.int k) => (match heldL ρ2 i with
      | some ds => (match ixN ds.length k with
        | some j => .nx (setL ρ2 i (ds.set j d))
        | none => .stk)
      | none => .stk)
    | _ => .stk
theorem ds_setIx {fe : Ev D} {k : Expr} {fk : Ev Wv} (i : Nat) {x : Str} {p1 p2 pos : Pos} (he : DF X T W a fe) (hk : DE X T W k fk) (hN : X.N[i]? = some x := by rfl) (hv : Vis X.env.scope x := by first | exact Or.inl rfl | exact Or.inr (Or.inl rfl) | exact Or.inr (Or.inr rfl)) (hd : (x == ("__debug__" : Str)) = false := by decide)
    (hcd : (x == ("__classdict__" : Str)) = false := by decide)
    (h : ∀ {to ti te : TE}, PE X (.Name x p1) to → PE X k ti → PE X a te → PS X (.Assign [.Subscript (.Name x p1) k p2] a pos) (tAsg te (L2.gSub to ti rSetL)) := by exact fun ho hi he => ps_asg he (pg_sub ho hi set_list)) :
    DS X T W (.Assign [.Subscript (.Name x p1) k p2] a pos) (sSetIx i fe fk) := by
  refine PS.mono (h (pe_var hN hv hd hcd) hk he) fun D σ H ⟨G, ρ, R, h⟩ => ?_
  refine tDX.mono (tS.bind0 (rel := dRel X.K) R h) fun v H1 ⟨G1, ρ1, d, R1, s1, a1, h1⟩ => ?_
  have a1 : Dat X.K G1 v d := a1
  cases e0 : heldL ρ1 i with
  | none => rw [e0] at h1; exact h1.elim
  | some ds0 =>
    rw [e0] at h1
    obtain ⟨a0, s0, xs0, c1, c2, c3, c4, c5, c6⟩ := heldL_at R1 e0
    refine ⟨.ref a0, c1, ?_⟩
    refine tDX.mono (tS.bindL (rel := wRel X.K) R s1 R1 h1) fun u H2 ⟨G2, ρ2, w, R2, s2, a2, h2⟩ => ?_
    cases w with
    | tmp o => exact h2.elim
    | slot j => exact h2.elim
    | val dk =>
      cases dk with
      | int k =>
        simp only [] at h2
        cases e1 : heldL ρ2 i with
        | none => rw [e1] at h2; exact h2.elim
        | some ds =>
          simp only [e1] at h2
          cases e2 : ixN ds.length k with
          | none => simp only [e2] at h2; exact h2.elim
          | some j =>
            simp only [e2] at h2
            obtain ⟨b0, t0, xs, d1, d2, d3, d4, d5, d6⟩ := heldL_at R2 e1
            rw [c1] at d1
            cases d1
            have eu : u = .int k := by cases a2; rfl
            refine ⟨a0, xs, k, j, rfl, eu, d4, by rw [d5.len]; exact e2, ?_⟩
            have a1' : Dat X.K G2 v d := a1.sub s2.gg
            have q : OAt X.K G2 (upd H2 a0 (.lst (xs.set j v))) a0 (.lst (ds.set j d)) := ⟨_, upd_same, Dats.set a1' j d5⟩
            obtain ⟨f1, f2⟩ := own_upd R2 c1 d2 d3 q
            rw [d6] at h2
            exact h2 _ G2 _ f1 ((s1.trans R s2).trans R f2).toStp
      | _ => exact h2.elim
end
end DL
namespace DL
open PySem PySem.Spec
open PyProof.Rows hiding St
open L2
section
variable {X : Cx} {T : List (Addr × Str)} {W : WX} {pos : Pos} {a b c tg iter : Expr} {es : List Expr} {fa fb fc : Ev Wv}
/-! ### isinstance(x, (t1, t2)) -/
def isi2 (t n1 n2 : String) : Option Bool := (kitB t n1).bind fun b => if b then some true else kitB t n2
def gIsi2 (n1 n2 : String) (d : D) : Option Wv := match d.ty with
  | some t => (isi2 t n1 n2).map fun b => .val (.bl b)
  | none => none
theorem isi2_kit {K : PySem.W.Frag} {t n1 n2 : String} {b : Bool} (h : isi2 t n1 n2 = some b) : PySem.W.kitAny K (.type t) [.type n1, .type n2] = some b := by
  unfold isi2 at h
  cases e : kitB t n1 with
  | none => rw [e] at h; cases h
  | some b1 =>
    rw [e] at h
    cases b1 with
    | true => cases h; exact kitAny_cons (kit_ty e) (fun z => nomatch z) fun _ => rfl
    | false =>
      have h : kitB t n2 = some b := h
      refine kitAny_cons (kit_ty e) (fun _ => kitAny_cons (kit_ty h) (fun z => by rw [z]; exact kitAny_nil) fun z => z) (fun z => nomatch z)
theorem de_isi2 {x y1 y2 : Str} {n1 n2 : String} {p q1 q2 q3 : Pos} {k : Nat} (hg : Gl X x) (hm : X.mg x = none) (hv : bootBuiltins x = some (.builtin "isinstance")) (g1 : Gl X y1) (m1 : X.mg y1 = none) (v1 : bootBuiltins y1 = some (.type n1)) (g2 : Gl X y2) (m2 : X.mg y2 = none) (v2 : bootBuiltins y2 = some (.type n2)) (ha : DE X T W a fa)
    (hn : x ≠ "__name__" := by decide) (hdb : (x == ("__debug__" : Str)) = false := by decide) (hn1 : y1 ≠ "__name__" := by decide) (hd1 : (y1 == ("__debug__" : Str)) = false := by decide) (hn2 : y2 ≠ "__name__" := by decide) (hd2 : (y2 == ("__debug__" : Str)) = false := by decide)
    (h1 : starEach [a, .Tuple [.Name y1 q1, .Name y2 q2] k q3] X.env = (false, eval a X.env) :: starEach [.Tuple [.Name y1 q1, .Name y2 q2] k q3] X.env := by rfl) (h2 : starEach [.Tuple [.Name y1 q1, .Name y2 q2] k q3] X.env = (false, eval (.Tuple [.Name y1 q1, .Name y2 q2] k q3) X.env) :: starEach [] X.env := by rfl)
    (h3 : starEach [.Name y1 q1, .Name y2 q2] X.env = (false, eval (.Name y1 q1) X.env) :: starEach [.Name y2 q2] X.env := by rfl) (h4 : starEach [.Name y2 q2] X.env = (false, eval (.Name y2 q2) X.env) :: starEach [] X.env := by rfl) (hpl : (backTo pos (starEach [.Tuple [.Name y1 q1, .Name y2 q2] k q3] X.env)).any (·.1) = false := by rfl) :
    DE X T W (.Call (.Name x p) [a, .Tuple [.Name y1 q1, .Name y2 q2] k q3] [] pos) (fUn (gIsi2 n1 n2) fa) := by
  have t1 := pe_bltn (X := X) (pos := q1) (v := V.ty n1) g1 m1 v1 (show L2.RelV (V.ty n1) (Value.type n1) from rfl) hn1 hd1
  have t2 := pe_bltn (X := X) (pos := q2) (v := V.ty n2) g2 m2 v2 (show L2.RelV (V.ty n2) (Value.type n2) from rfl) hn2 hd2
  refine PE.mono (pe_callB (call_isiT (X := X)) hg hm hv (pa_cons ha (pa_cons (pe_tup (x1 := k) (pa_cons t1 (pa_cons t2 pa_nil h4) h3)) pa_nil h2) h1) hn hdb h1 hpl) fun σ H Q ⟨G, ρ, R, h⟩ => ?_
  refine tDE.mono (tR.bind R h) fun v H1 ⟨G1, ρ1, w, R1, s1, a1, h1⟩ => ?_
  cases e : look ρ1 w with
  | none => rw [e] at h1; exact h1.elim
  | some d =>
    simp only [e] at h1
    unfold gIsi2 at h1
    cases et : d.ty with
    | none => rw [et] at h1; exact h1.elim
    | some t =>
      simp only [et] at h1
      cases eb : isi2 t n1 n2 with
      | none => rw [eb] at h1; exact (show False from h1).elim
      | some r =>
        rw [eb] at h1
        refine ⟨by rw [sizeLine_eq]; exact Nat.le_of_ble_eq_true rfl, fun tp htp => ?_⟩
        have r1 := look_at R1 a1 e
        have gl := Gx.laid (o := .tup [V.ty n1, V.ty n2]) R1.gh htp
        refine ⟨v, tp, [V.ty n1, V.ty n2], .type t, [.type n1, .type n2], r, rfl, upd_same, .cons (.ty n1) (.cons (.ty n2) .nil), ?_, isi2_kit eb, h1 _ G1 _ (gl.sr R1) (gl.stp R1) (.bl r)⟩
        have r2 : RAt X.K G1 (upd H1 tp (.tup [V.ty n1, V.ty n2])) v d := by
          cases d with
          | lst ds => obtain ⟨a, xs, e1, q, r⟩ := r1; exact ⟨a, xs, e1, gl.hh _ _ q, r⟩
          | dic ks ds => obtain ⟨a, xs, e1, q, r⟩ := r1; exact ⟨a, xs, e1, gl.hh _ _ q, r⟩
          | dit ks ds => obtain ⟨a, xs, e1, q, r⟩ := r1; exact ⟨a, xs, e1, gl.hh _ _ q, r⟩
          | _ => exact r1
        exact ty_at gl.gh r2 et
/-! ### sorted of ints -/
def ins (i : Int) : List Int → List Int
  | [] => [i]
  | j :: r => if i ≤ j then i :: j :: r else j :: ins i r
def isort : List Int → List Int
  | [] => []
  | i :: r => ins i (isort r)
theorem ins_perm (i : Int) : ∀ l, (ins i l).Perm (i :: l)
  | [] => .refl _
  | j :: r => by
    unfold ins
    split
    · exact .refl _
    · exact ((ins_perm i r).cons j).trans (.swap i j r)
theorem isort_perm : ∀ l, (isort l).Perm l
  | [] => .refl _
  | i :: r => (ins_perm i _).trans ((isort_perm r).cons i)
theorem ins_sorted (i : Int) : ∀ l : List Int, l.Pairwise (· ≤ ·) → (ins i l).Pairwise (· ≤ ·)
  | [], _ => List.pairwise_singleton _ _
  | j :: r, h => by
    unfold ins
    have hj := List.pairwise_cons.mp h
    split
    · rename_i q
      refine List.pairwise_cons.mpr ⟨fun k hk => ?_, h⟩
      rcases List.mem_cons.mp hk with z | z
      · rw [z]; exact q
      · exact Int.le_trans q (hj.1 k z)
    · rename_i q
      refine List.pairwise_cons.mpr ⟨fun k hk => ?_, ins_sorted i r hj.2⟩
      rcases List.mem_cons.mp ((ins_perm i r).mem_iff.mp hk) with z | z
      · rw [z]; omega
      · exact hj.1 k z
theorem isort_sorted : ∀ l : List Int, (isort l).Pairwise (· ≤ ·)
  | [] => .nil
  | i :: r => ins_sorted i _ (isort_sorted r)
theorem sorted_uniq : ∀ {l m : List Int}, l.Pairwise (· ≤ ·) → m.Pairwise (· ≤ ·) → l.Perm m → l = m
  | [], m, _, _, p => (p.nil_eq).symm ▸ rfl
  | i :: r, [], _, _, p => absurd p.length_eq (by simp)
  | i :: r, j :: t, h1, h2, p => by
    have a := List.pairwise_cons.mp h1
    have b := List.pairwise_cons.mp h2
    have e : i = j := by
      rcases List.mem_cons.mp (p.mem_iff.mp List.mem_cons_self) with z | z
      · exact z
      · rcases List.mem_cons.mp (p.mem_iff.mpr List.mem_cons_self) with y | y
        · exact y.symm
        · have c := a.1 _ y
          have d := b.1 _ z
          omega
    subst e
    rw [sorted_uniq a.2 b.2 p.cons_inv]
def intsO : List D → Option (List Int)
  | [] => some []
  | .int i :: r => (intsO r).map (i :: ·)
  | _ => none
theorem intsO_eq : ∀ {ds : List D} {ns : List Int}, intsO ds = some ns → ds = ns.map D.int
  | [], ns, e => by cases e; rfl
  | .int i :: r, ns, e => by
    have e : (intsO r).map (i :: ·) = some ns := e
    cases z : intsO r with
    | none => rw [z] at e; cases e
    | some cs => rw [z] at e; cases e; rw [intsO_eq z]; rfl
  | .non :: _, _, e => by cases e
  | .bl _ :: _, _, e => by cases e
  | .str _ :: _, _, e => by cases e
  | .tup _ :: _, _, e => by cases e
  | .lst _ :: _, _, e => by cases e
  | .scr _ :: _, _, e => by cases e
  | .dic _ _ :: _, _, e => by cases e
  | .dit _ _ :: _, _, e => by cases e
  | .opq _ :: _, _, e => by cases e
theorem intsO_map : ∀ ns : List Int, intsO (ns.map D.int) = some ns
  | [] => rfl
  | n :: ns => by show (intsO (ns.map D.int)).map (n :: ·) = _; rw [intsO_map ns]; rfl
def gSorted (d : D) : Option Wv := match d.seq? with
  | some ds => (intsO ds).map fun ns => .tmp (.lst ((isort ns).map D.int))
  | none => none
/-- what sorted asks of a tuple: as collect of a list, by its items -/
theorem collect_tup {prog : Program} {w : World} {A : Around} {E : Value → Shared → Prop} {s : Shared} {t : Addr} {vs : List Value} {Q : List Value → Shared → Prop}
    (ht : s.heap.IsTuple t vs.toArray) (hz : vs.length ≤ sizeLine)
    (h : Q vs { s with heap := (s.heap.push (seqObj "list" #[] 0)).update s.heap.objs.size (Obj.mapSeq (· ++ vs.toArray)) }) : wpAny (model prog w) A (collect (.ref t)) Q E s := by
  obtain ⟨o, ho, hc, n, hd⟩ := id ht
  have e0 : (s.heap.push (seqObj "list" #[] 0)).get? t = some o := Heap.get?_push_of_some _ ho
  have e1 : (s.heap.push (seqObj "list" #[] 0)).get? s.heap.objs.size = some (seqObj "list" #[] 0) := Heap.get?_push_size _ rfl
  unfold collect
  refine wpAny_bind (wpAny_runValue (codeAny_builtin entry_proto_collect' (show wpAny _ _ (do again (.builtin "list.__iadd__" ⟨[← newList [], .ref t], []⟩)) _ _ s from
    wpAny_bind (wpAny_newList (wpAny_pure ⟨Code.quiet_builtin _ (by decide +kernel), codeAny_builtin entry_list_iadd' ?_⟩)))))
  refine (show wpAny _ _ (Builtin.List.listExtendWith (.ref s.heap.objs.size) (.ref t) (.ref s.heap.objs.size)) _ _ { s with heap := s.heap.push (seqObj "list" #[] 0) } from ?_)
  unfold Builtin.List.listExtendWith
  have tt : (Value.type "tuple" == Value.type "tuple") = true := by rfl
  refine wpAny_bind (wpAny_typeOf (T := "tuple") ⟨o, e0, hc⟩ (by
    rw [if_pos (by rw [tt]; simp)]
    exact wpAny_bind (listItems_at e0 hd (wpAny_bind (listItems_at (xs := #[]) (n := 0) e1 rfl (by
      rw [if_neg (by simp)]
      exact wpAny_bind (listUpdate_at (xs := #[]) (n := 0) e1 rfl (wpAny_pure (by
        refine (show wpAny (model prog w) A (do
          let ob ← load s.heap.objs.size
          match ob.data with
          | .seq ys _ => pure ys.toList
          | _ => unsupported "internal:collect") Q E { s with heap := (s.heap.push (seqObj "list" #[] 0)).update s.heap.objs.size (Obj.mapSeq (· ++ vs.toArray)) } from ?_)
        refine wpAny_bind (wpAny_load (get?_update_seq e1 _) (show wpAny _ _ (pure ((#[] : Array Value) ++ vs.toArray).toList) Q E _ from ?_))
        have ev : ((#[] : Array Value) ++ vs.toArray).toList = vs := by simp
        exact ev.symm ▸ wpAny_pure h)) (Nat.zero_le _) (by
          have el : (#[] ++ vs.toArray).size = vs.length := by simp
          exact el.symm ▸ Nat.le_succ_of_le hz))))))))
theorem sorted_tup {prog : Program} {w : World} {A : Around} {E : Value → Shared → Prop} {s : Shared} {t : Addr} {vs : List Value} {ns : List Int} {Q : Value → Shared → Prop} (ht : s.heap.IsTuple t vs.toArray) (hz : vs.length ≤ sizeLine) (hI : IntsAre vs ns)
    (h : ∀ out : List Value, SrtO.Srtd SrtO.ltIv out → SrtO.Stb SrtO.ltIv out vs → Q (.ref (s.heap.objs.size + 1)) { s with heap := sortedAll s.heap vs out.toArray }) : wpAny (model prog w) A (call (.builtin "sorted") [.ref t]) Q E s := by
  generalize eh : (s.heap.push (seqObj "list" #[] 0)).update s.heap.objs.size (Obj.mapSeq (· ++ vs.toArray)) = h1
  have z1 : h1.objs.size = s.heap.objs.size + 1 := by rw [← eh, Heap.size_update, size_push']
  have e2 : (h1.push (seqObj "list" vs.toArray 0)).get? (s.heap.objs.size + 1) = some (seqObj "list" vs.toArray 0) := by rw [← z1]; exact Heap.get?_push_size _ rfl
  refine Calls.call_function_entry kind_sorted plain_sorted entry_sorted (args_sorted1 _) ?_
  unfold Builtin.«sorted»
  refine wpAny_bind (m := checkCount "sorted" 1 1 _) (wpAny_pure (wpAny_bind (collect_tup ht hz (wpAny_bind (wpAny_newList ?_ hz)))))
  rw [eh]
  refine (show wpAny _ _ _ _ _ { s with heap := h1.push (seqObj "list" vs.toArray 0) } from ?_)
  rw [z1]
  refine wpAny_bind (wpAny_holding (wpAny_call_entry slot_list_sort ⟨_, e2, rfl⟩ entry_list_sort (SrtO.list_sort_ord SrtO.swo_int e2 hz (fun h2 => SrtO.ints_sortable hI h2) fun out k1 k2 => ⟨_, rfl, wpAny_pure ⟨_, rfl, ?_⟩⟩) (args_list_sort _)))
  have q := h out k1 k2
  unfold sortedAll at q
  rw [eh] at q
  exact q
def rSortedT1 (K : PySem.W.Frag) : List V → Hp → VK → Prop := fun vs H Q => ∃ (a : Addr) (ns : List Int), vs = [V.ref a] ∧ SqT K H a (ns.map V.int) ∧ ∀ (ns' : List Int) (p : Addr), ns'.Perm ns → ns'.Pairwise (· ≤ ·) → H p = none → Q (.ref p) (upd H p (.lst (ns'.map V.int)))
theorem cr_sortedT1 : CallR X (.builtin "sorted") (rSortedT1 X.K) := by
  intro pins s σ H vs us Q I r h
  obtain ⟨a, ns, rfl, hs, q⟩ := h
  obtain ⟨its, rv, ht, hz⟩ := I.tuple hs
  rw [Vals.ref1 r]
  have hi := rv.ints
  refine sorted_tup (show s.heap.IsTuple a its.toArray from ht) (by rw [← rv.length]; exact hz) hi fun out h1 h2 => ?_
  obtain ⟨k1, k2, k3⟩ := SrtO.ints_out hi h1 h2
  obtain ⟨ep, he'⟩ := PyProof.Rows.sortedAll_at s.heap its out.toArray
  have hlen : ((out.map SrtO.iv).map V.int).length ≤ sizeLine := by
    have e1 := k2.length_eq
    have e2 := rv.length
    simp only [List.length_map] at e1 e2 hz ⊢
    omega
  exact ⟨.ref _, upd H (s.heap.objs.size + 1) (.lst ((out.map SrtO.iv).map V.int)), I.laid (t' := s.toks) (fun _ _ => PyProof.Rows.sortedAll_old) (Nat.le_succ _) ⟨hlen, out, ep, vals_of_ints k1, he'⟩, rfl, q _ _ k2 k3 (I.hok.fresh (Nat.le_succ _))⟩
def rSorted2 (K : PySem.W.Frag) : List V → Hp → VK → Prop := fun vs H Q => rSortedI K vs H Q ∨ rSortedT1 K vs H Q
theorem c_sorted : CallR X (.builtin "sorted") (rSorted2 X.K) := CallR.or cr_sortedI cr_sortedT1
theorem d_sorted : OpD1 X (fun x H Q => rSorted2 X.K [x] H Q) gSorted := fun G H x d Q s hx h => by
  unfold gSorted at h
  cases e : d.seq? with
  | none => rw [e] at h; exact h.elim
  | some ds =>
    simp only [e] at h
    cases z : intsO ds with
    | none => rw [z] at h; exact (show False from h).elim
    | some ns =>
      rw [z] at h
      obtain ⟨a, xs, rfl, q, r⟩ := rat_seq s hx e
      rw [intsO_eq z] at r
      have ex := r.ints
      subst ex
      have fin : ∀ (ns' : List Int) (p : Addr), ns'.Perm ns → ns'.Pairwise (· ≤ ·) → H p = none → Q (.ref p) (upd H p (.lst (ns'.map V.int))) := fun ns' p h1 h2 hp => by
        have e := sorted_uniq h2 (isort_sorted ns) (h1.trans (isort_perm ns).symm)
        subst e
        exact opR.newL s h (Dats.ofInts _) hp
      rcases q with q | q
      · exact .inl ⟨a, ns, rfl, q, fin⟩
      · exact .inr ⟨a, ns, rfl, q, fin⟩
end
end DL
namespace DL
open PySem PySem.Spec
open PyProof.Rows hiding St
open L2
/-! ### t[::-1] -/
section
variable {prog : Program} {w : World} {A : Around} {E : Value → Shared → Prop} {s : Shared}
theorem filterMap_on {α β : Type} (f g : α → Option β) : ∀ l : List α, (∀ a ∈ l, f a = g a) → l.filterMap f = l.filterMap g
  | [], _ => rfl
  | a :: l, h => by
    rw [List.filterMap_cons, List.filterMap_cons, h a List.mem_cons_self, filterMap_on f g l fun b hb => h b (List.mem_cons_of_mem _ hb)]
theorem rev_pick (xs : Array Value) : (List.range xs.size).filterMap (fun (k : Nat) => xs[((xs.size : Int) - 1 + (k : Int) * (-1)).toNat]?) = xs.toList.reverse := by
  have h := PySem.W.krv_all xs
  have e : (List.range xs.size).filterMap (fun (k : Nat) => xs[((xs.size : Int) - 1 + (k : Int) * (-1)).toNat]?) = ((List.range xs.size).map fun k => xs.size - 1 - k).filterMap (xs[·]?) := by
    rw [List.filterMap_map]
    refine filterMap_on _ _ _ fun k hk => ?_
    have hk := List.mem_range.mp hk
    have : ((xs.size : Int) - 1 + (k : Int) * (-1)).toNat = xs.size - 1 - k := by omega
    show xs[((xs.size : Int) - 1 + (k : Int) * (-1)).toNat]? = xs[xs.size - 1 - k]?
    rw [this]
  rw [e, PySem.W.krv_range, List.filterMap_reverse, h]
theorem rev_places (n : Nat) : Builtin.Slice.slicePlaces ((n : Int) - 1) (-1) (-1) = n := by
  unfold Builtin.Slice.slicePlaces
  rw [if_neg (by decide)]
  by_cases h : n = 0
  · subst h; rfl
  · rw [if_pos (by omega), show (-(-1) : Int) = 1 from rfl, Int.ediv_one]
    omega
theorem getItem_tup_rev {t sl : Addr} {items : Array Value} {tk : Tok} {Q : Value → Shared → Prop} (ht : PyProof.Rows.IsTup s.heap t items) (hs : s.heap.IsSliceOf sl .none .none (.int (-1) tk))
    (h : Q (.ref s.heap.objs.size) { s with heap := s.heap.push { cls := .type "tuple", data := .seq items.toList.reverse.toArray } }) (hz : items.size ≤ sizeLine) : wpAny (model prog w) A (getItem (.ref t) (.ref sl)) Q E s := by
  obtain ⟨os, k1, k2, k3⟩ := id hs
  have sz : sizeOk (.seq items.toList.reverse.toArray) := by
    show items.toList.reverse.toArray.size ≤ sizeLine
    rw [List.size_toArray, List.length_reverse, Array.length_toList]; exact hz
  have hts : s.TypeIs (.ref sl) "slice" := ⟨os, k1, k2⟩
  have dn : ¬ (((items.size : Int) - 1 == 0 && (-1 : Int) == 1 && items.size == items.size) = true) := by
    rw [show ((-1 : Int) == 1) = false from rfl, Bool.and_false, Bool.false_and]; exact Bool.false_ne_true
  unfold getItem
  try with_reducible refine wpAny_holding ?_
  first | refine wpAny_bind (wpAny_pure ?_) | skip
  refine wpAny_bind (wpAny_sequenceKey ht.typeIs (by decide) (wpAny_bind (wpAny_callSpecial?_slot (name := Str.ofString "__getitem__") ht.typeIs PyProof.Rows.slot_tuple_getitem
    (wpAny_call_entry PyProof.Rows.slot_tuple_getitem ht.typeIs entry_tuple_getitem (show wpAny _ _ (Builtin.Tuple.tupleItemsOf (.ref t) >>= _) _ _ s from ?_) (args_tuple_getitem _ _)))))
  refine wpAny_bind (PyProof.Rows.tupleItemsOf_ ht (wpAny_bind (wpAny_typeOf hts ?_)))
  rw [if_pos (by decide)]
  refine wpAny_bind (?_ : wpAny _ _ (Builtin.Slice.sliceApplied (.ref sl) (pure (items.size : Int))) (fun (p : Int × Int × Nat) s' => _) _ _)
  unfold Builtin.Slice.sliceApplied Builtin.Slice.sliceFields
  refine wpAny_bind (wpAny_bind (wpAny_field k1 k3 (x := .none) rfl (wpAny_bind (wpAny_field k1 k3 (x := .none) rfl (wpAny_bind (wpAny_field k1 k3 (x := .int (-1) tk) rfl (wpAny_pure ?_)))))))
  refine wpAny_bind (HT.slicePart_ (.int (-1) tk) ?_)
  refine (show wpAny _ _ (if ((-1 : Int) == 0) = true then _ else _) _ _ s from ?_)
  rw [if_neg (by decide)]
  refine wpAny_bind (HT.slicePart_ .none (wpAny_bind (HT.slicePart_ .none (wpAny_bind (wpAny_pure ?_)))))
  have adj : Builtin.Slice.sliceAdjust none none (-1) (items.size : Int) = ((items.size : Int) - 1, -1) := by
    first
    | rfl
    | simp [Builtin.Slice.sliceAdjust]
  refine (show wpAny _ _ (match Builtin.Slice.sliceAdjust none none (-1) (items.size : Int) with | (lo, hi) => pure (lo, (-1 : Int), Builtin.Slice.slicePlaces lo hi (-1))) _ _ s from ?_)
  rw [adj]
  refine (show wpAny _ _ (pure (((items.size : Int) - 1), (-1 : Int), Builtin.Slice.slicePlaces ((items.size : Int) - 1) (-1) (-1))) _ _ s from ?_)
  rw [rev_places]
  refine wpAny_pure ?_
  refine (show wpAny _ _ (if ((items.size : Int) - 1 == 0 && (-1 : Int) == 1 && items.size == items.size) = true then _ else _) _ _ s from ?_)
  rw [if_neg dn, rev_pick]
  first
    | exact wpAny_bind (m := Builtin.Tuple.tupleExact _) (wpAny_newObj_type (wpAny_pure ⟨_, rfl, wpAny_pure h⟩) sz)
    | exact wpAny_bind (m := Builtin.Tuple.tupleExact _) (wpAny_newObj_type (wpAny_bind (wpAny_pure (wpAny_pure ⟨_, rfl, wpAny_pure h⟩))) sz)
    | exact wpAny_bind (wpAny_bind (m := Builtin.Tuple.tupleExact _) (wpAny_newObj_type (wpAny_pure (wpAny_pure ⟨_, rfl, wpAny_pure h⟩)) sz))
    | exact wpAny_bind (wpAny_bind (m := Builtin.Tuple.tupleExact _) (wpAny_newObj_type (wpAny_pure ⟨_, rfl, wpAny_pure h⟩) sz))
end
section
variable {X : Cx} {T : List (Addr × Str)} {W : WX} {pos : Pos} {a b c tg iter : Expr} {es : List Expr} {fa fb fc : Ev Wv}
def tRevT (K : PySem.W.Frag) (te : TE) : TE := fun σ H Q => te σ H fun x H1 => ∃ a xs, x = .ref a ∧ SqT K H1 a xs ∧ ∀ p, H1 p = none → Q (.ref p) (upd H1 p (.tup xs.reverse))
theorem pe_revT {e : Expr} {te : TE} {k : Nat} {p1 p2 p3 pos : Pos} (he : PE X e te) : PE X (.Subscript e (.Slice none none (some (.UnaryOp .USub (.Constant (.int 1) k p1) p2)) p3) pos) (tRevT X.K te) := by
  refine ⟨fun pins s σ H Q I h => Subscript_ (thn (he.run pins s σ H _ I h) fun v s1 ⟨x, H1, I1, r1, a, xs, ex, hx, q⟩ => ?_)⟩
  subst ex
  cases r1
  have st : L2.PO X (some (.UnaryOp .USub (.Constant (.int 1) k p1) p2)) (tPart (tUn (rU fun i => .int (-i)) (tC (.int 1)))) := po_some (pe_un un_neg pe_int)
  refine wpAny_Slice (thn (po_none.run pins s1 σ H1 (fun o H2 => o = none ∧ H2 = H1) I1 ⟨rfl, rfl⟩) fun vl s2 ⟨l, H2, I2, pl, el, e2⟩ => ?_)
  subst el e2
  refine thn (po_none.run pins s2 σ H2 (fun o H3 => o = none ∧ H3 = H2) I2 ⟨rfl, rfl⟩) fun vu s3 ⟨u, H3, I3, pu, eu, e3⟩ => ?_
  subst eu e3
  refine thn (st.run pins s3 σ H3 (fun o H4 => o = some (-1) ∧ H4 = H3) I3 ⟨1, rfl, -1, rfl, rfl, rfl⟩) fun vs s4 ⟨o, H4, I4, ps, eo, e4⟩ => ?_
  subst eo e4
  cases pl
  cases pu
  cases ps with
  | int _ tk =>
    have I5 : Inv X pins σ H4 { s4 with heap := s4.heap.push { cls := .type "slice", data := .fields #[Value.none, Value.none, .int (-1) tk] } } := I4.kept (t' := s4.toks) fun b ob z => Heap.get?_push_of_some _ z
    obtain ⟨its, r, ht, hz⟩ := I5.tuple hx
    have hl := r.length
    refine (show wpAny (model X.prog X.w) X.A (subscriptTail e (.Slice none none (some (.UnaryOp .USub (.Constant (.int 1) k p1) p2)) p3) (.ref a) (.ref s4.heap.objs.size)) (EP X pins σ Q) X.xe { s4 with heap := s4.heap.push { cls := .type "slice", data := .fields #[Value.none, Value.none, .int (-1) tk] } } from ?_)
    refine tail_any (ops := [.ref a, .ref s4.heap.objs.size]) ht.typeIs (PyProof.Rows.slot_tuple_getitem.lookup) (getItem_tup_rev ht (Heap.IsSliceOf.new _ _ _ _) ?_ (by rw [List.size_toArray]; omega)) (by with_unfolding_all rfl)
    refine ⟨.ref _, _, I5.laid (t' := s4.toks) (o := .tup xs.reverse) (fun b ob z => Heap.get?_push_of_some _ z) (Nat.le_refl _) ?_, rfl, q _ (I5.hok.fresh (Nat.le_refl _))⟩
    exact ⟨by rw [List.length_reverse]; exact hz, its.reverse, r.reverse, IsTup.new _ _⟩
def gRev : D → Option Wv
  | .tup ds => some (.val (.tup ds.reverse))
  | .lst ds => some (.tmp (.lst ds.reverse))
  | .scr ds => some (.tmp (.lst ds.reverse))
  | _ => none
theorem PE.or {e : Expr} {t u : TE} (h1 : PE X e t) (h2 : PE X e u) : PE X e (fun σ H R => t σ H R ∨ u σ H R) := ⟨fun pins s σ H Q I q => q.elim (fun q => h1.run pins s σ H Q I q) fun q => h2.run pins s σ H Q I q⟩
theorem de_rev {k : Nat} {p1 p2 p3 : Pos} (ha : DE X T W a fa) : DE X T W (.Subscript a (.Slice none none (some (.UnaryOp .USub (.Constant (.int 1) k p1) p2)) p3) pos) (fUn gRev fa) := by
  refine PE.mono (PE.or (pe_revL ha) (pe_revT ha)) fun σ H Q ⟨G, ρ, R, h⟩ => ?_
  cases e : fa ρ with
  | stk => unfold fUn at h; rw [e] at h; exact h.elim
  | exc c => unfold fUn at h; rw [e] at h; exact .inl ⟨G, ρ, R, by rw [e]; exact h⟩
  | ok ρ1 w =>
    unfold fUn at h
    rw [e] at h
    simp only [Out.bind_ok] at h
    cases z : look ρ1 w with
    | none => rw [z] at h; exact h.elim
    | some d =>
      simp only [z] at h
      have at1 : ∀ {v : V} {G1 H1 : Hp}, SR X.K T G1 H1 σ ρ1 → EStp T σ ρ G H ρ1 G1 H1 → wRel X.K G1 H1 σ ρ1 H v w → RAt X.K G1 H1 v d ∧ opR X.K G1 H1 (gRev d) Q := fun {v G1 H1} R1 s1 a1 => ⟨look_at R1 a1 z, opR_of R1 (tRX.later R s1 h)⟩
      cases d with
      | tup ds =>
        refine .inr ⟨G, ρ, R, ?_⟩
        rw [e]
        intro v G1 H1 R1 s1 a1
        obtain ⟨r1, o⟩ := at1 R1 s1 a1
        obtain ⟨ad, xs, rfl, q, r⟩ := rat_tup R1.gh r1
        exact ⟨ad, xs, rfl, q, fun p hp => opR.newT R1.gh o r.rev hp⟩
      | lst ds =>
        refine .inl ⟨G, ρ, R, ?_⟩
        rw [e]
        intro v G1 H1 R1 s1 a1
        obtain ⟨r1, o⟩ := at1 R1 s1 a1
        obtain ⟨ad, xs, rfl, q, r⟩ := r1
        exact ⟨ad, xs, rfl, .of q, fun p hp => opR.newL R1.gh o r.rev hp⟩
      | scr ds =>
        refine .inl ⟨G, ρ, R, ?_⟩
        rw [e]
        intro v G1 H1 R1 s1 a1
        obtain ⟨r1, o⟩ := at1 R1 s1 a1
        obtain ⟨ad, xs, rfl, q, r⟩ := rat_scr R1.gh r1
        exact ⟨ad, xs, rfl, q, fun p hp => opR.newL R1.gh o r.rev hp⟩
      | _ => exact h.elim
end
end DL
namespace DL
open PySem PySem.Spec
open PyProof.Rows hiding St
open L2
/-! ### enumerate(t) -/
/-- the tuple at a, each item in a new pair with its place -/
def IteT (K : PySem.W.Frag) (a : Addr) : It :=
  ⟨fun i H => ∃ (xs : List V) (x : V), SqT K H a xs ∧ xs[i]? = some x, fun i H v H' => ∃ T x, v = .ref T ∧ H T = none ∧ H' = upd H T (.tup [.int (i : Nat), x]) ∧ ∀ xs, SqT K H a xs → xs[i]? = some x,
    fun i H => ∃ xs : List V, SqT K H a xs ∧ xs.length = i⟩
theorem turn_enumT {P : Program} {w : World} {K : PySem.W.Frag} {elts : List Expr} {kk : Nat} {tpos : Pos} (a e it : Addr) (hne : e ≠ it) (hea : e ≠ a) (hia : a ≠ it) :
    Turn P w K (.Tuple elts kk tpos) (IteT K a) [e, it] e (fun i h => (∃ old, IsEnum h e it ((i : Nat) : Int) old) ∧ h.IsTupleIter it a i) where
  mem := List.mem_cons_self
  obj := fun i h ⟨⟨old, k1⟩, k2⟩ b hb => by
    rcases List.mem_cons.mp hb with z | z
    · subst z; exact ⟨_, k1, fun v q => nomatch q⟩
    · rw [List.mem_singleton.mp z]
      obtain ⟨o, e1, _, e2⟩ := k2
      exact ⟨o, e1, fun v q => by rw [e2] at q; cases q⟩
  keep := fun i h h' ⟨⟨old, k1⟩, k2⟩ k => ⟨⟨old, k e List.mem_cons_self _ k1⟩, k2.at fun o q => k it (List.mem_cons_of_mem _ List.mem_cons_self) o q⟩
  item := by
    intro X hP hw hK hc i pins s σ H E I hf ⟨⟨old, he⟩, hit⟩ ⟨xs, x, hq, hx⟩
    subst hP hw hK
    obtain ⟨us, rv, p, hz⟩ := I.tuple hq
    obtain ⟨u, hu, ru⟩ := rv.get hx
    have il : i < us.length := (List.getElem?_eq_some_iff.mp hu).1
    have l1 : e < s.heap.objs.size := Heap.lt_size he
    have l2 : it < s.heap.objs.size := by obtain ⟨_, q, _⟩ := hit; exact Heap.lt_size q
    have D := Draws.tuple (prog := X.prog) (w := X.w) (A := X.A.in1) (I.ok.hd hc) it a hia us.toArray
    refine wpAny_pyNext_enum_itemD D he ⟨hit, p⟩ (by simpa using il) hne (by simp [hne, hea]) fun y h' tk hy ho st' hT hsz hk => ⟨_, rfl, wpAny_letOwnedTupleGo_enum (s := { s with heap := h', toks := tk + 1 }) ho fun h2 he2 sb => ?_⟩
    have ey : y = u := by
      have z : us.toArray[i]? = some y := hy
      rw [List.getElem?_toArray, hu] at z
      exact (Option.some.inj z).symm
    subst ey
    have t2 : h2.get? s.heap.objs.size = some { cls := .type "tuple", data := .seq #[.int i tk, y] } := (sb.2 _ (Nat.ne_of_gt l1)).trans hT
    have new : ObjOk X.prog X.w (upd H s.heap.objs.size (.tup [.int (i : Nat), x])) h2 s.heap.objs.size (.tup [.int (i : Nat), x]) := ⟨show 2 ≤ sizeLine by decide, [.int i tk, y], .cons ⟨_, rfl⟩ (.cons ru .nil), ⟨_, t2, rfl, _, rfl⟩⟩
    have I1 : Inv X pins σ (upd H s.heap.objs.size (.tup [.int (i : Nat), x])) { s with heap := h2, toks := tk + 1 } := I.turnedNew (ch := [e, it]) (fun b ob hb q => (sb.2 b fun z => hb (by simp [z])).trans (hk b ob (fun z => hb (by simp [z])) (fun z => hb (by simp [z])) q)) hf (Nat.le_refl _) new
    refine ⟨.ref s.heap.objs.size, _, I1, rfl, ⟨_, x, rfl, I.hok.fresh (Nat.le_refl _), rfl, fun ys hy => by rw [I.tuple_inj hy hq]; exact hx⟩, ⟨⟨y, by rw [show ((i + 1 : Nat) : Int) = (i : Int) + 1 by omega]; exact he2⟩, st'.1.at fun o q => (sb.2 it (Ne.symm hne)).trans q⟩, fun b hb => ?_⟩
    have lb : b < s.heap.objs.size := by
      rcases List.mem_cons.mp hb with z | z
      · rw [z]; exact l1
      · rw [List.mem_singleton.mp z]; exact l2
    rw [upd_ne (Nat.ne_of_lt lb)]
    exact (hf b hb).1
  done := by
    intro X hP hw hK hc i pins s σ H E I hf ⟨⟨old, he⟩, hit⟩ ⟨xs, hq, hx⟩
    subst hP hw hK
    obtain ⟨us, rv, p, hz⟩ := I.tuple hq
    have D := Draws.tuple (prog := X.prog) (w := X.w) (A := X.A.in1) (I.ok.hd hc) it a hia us.toArray
    have el : i = us.toArray.size := by rw [List.size_toArray, ← rv.length]; exact hx.symm
    obtain ⟨f0, f1, f2, f3, f4, f5⟩ := hf it (by simp)
    exact wpAny_pyNext_enum_endD D he ⟨el ▸ hit, p⟩ fun h' eb => ⟨rfl, I.turned (t' := s.toks) (fun b o hb q => eb b o hb q) f0 f1 f3 f4 f5⟩
  self := fun A i s Q E ⟨⟨_, k1⟩, _⟩ h => wpAny_pyIter_enum k1 h
theorem meets_enum1 {v : Value} {o : Obj} {H : Heap → Prop} (B : Begins v o H) :
    Meets (Builtin.«enumerate.__new__» ⟨[.type "enumerate", v], []⟩) (fun _ R s => H s.heap ∧
      R (.ok (.ret (.ref (s.heap.push o).objs.size))) { s with heap := (s.heap.push o).push { cls := .type "enumerate", data := .fields #[.none, .bool false, .ref s.heap.objs.size, rawInt 0, .none, .none] } }) :=
  .of_wp fun prog w A R s ⟨h1, h⟩ => by
    obtain ⟨hp, g, d, tk, os⟩ := s
    have hsub := sub_enumerate
    have go : ∀ {A' : Around} {E : Value → Shared → Prop} {Q : Value → Shared → Prop}, Q (.ref hp.objs.size) ⟨hp.push o, g, d, tk, os⟩ → wpAny (model prog w) A' (pyIter v) Q E ⟨hp, g, d, tk, os⟩ := fun q => B.iter prog w _ _ ⟨hp, g, d, tk, os⟩ _ h1 q
    wp_walk using go
    refine wpAny_stack_any fun st => wpAny_pure ?_
    split
    · rename_i c _ _ _ _ _
      cases (c == Value.type "enumerate") <;>
        · wp_walk using go
          exact ⟨_, rfl, h⟩
    · wp_walk using go
      exact ⟨_, rfl, h⟩
theorem call_enum1 {prog : Program} {w : World} {A : Around} {E : Value → Shared → Prop} {s : Shared} {v : Value} {o : Obj} {H : Heap → Prop} {Q : Value → Shared → Prop} (B : Begins v o H) (h1 : H s.heap)
    (h : ∀ h', IsEnum h' (s.heap.objs.size + 1) s.heap.objs.size 0 .none → h'.get? s.heap.objs.size = some o → (∀ b u, s.heap.get? b = some u → h'.get? b = some u) → Q (.ref (s.heap.objs.size + 1)) { s with heap := h' }) :
    wpAny (model prog w) A (call (.type "enumerate") [v]) Q E s := by
  refine callType_new F.called_enumerate (by decide) (F.typeCall_enumerate_1 _) (F.newCall_enumerate_1 _) (fun obj => F.args_object_init_2 obj _) F.entry_enumerate_new (meets_enum1 B) ⟨h1, ?_⟩
  have z1 : (s.heap.push o).objs.size = s.heap.objs.size + 1 := Heap.size_push ..
  refine (show _ ∧ _ from ?_)
  rw [z1]
  have ie : IsEnum ((s.heap.push o).push { cls := .type "enumerate", data := .fields #[.none, .bool false, .ref s.heap.objs.size, rawInt 0, .none, .none] }) (s.heap.objs.size + 1) s.heap.objs.size 0 .none := by
    have e := Heap.get?_push_size (s.heap.push o) (o := { cls := .type "enumerate", data := .fields #[.none, .bool false, .ref s.heap.objs.size, rawInt 0, .none, .none] }) rfl
    rw [z1] at e
    exact e
  exact ⟨⟨_, ie, rfl⟩, h _ ie (Heap.get?_push_of_some _ (Heap.get?_push_size _ B.free)) fun b u e => Heap.get?_push_of_some _ (Heap.get?_push_of_some _ e)⟩
def iEnumT (K : PySem.W.Frag) (ta : TA) : TI := fun σ H R => ta σ H fun vs H1 => ∃ a xs, vs = [.ref a] ∧ SqT K H1 a xs ∧ R (IteT K a) H1
theorem pi_enumT {X : Cx} {e : Expr} {ta : TA} {p pos tpos : Pos} {elts : List Expr} {kk : Nat} (hg : Gl X "enumerate") (hm : X.mg "enumerate" = none) (ha : PA X [e] ta) (hs : starEach [e] X.env = [(false, eval e X.env)] := by rfl) :
    PI X (.Tuple elts kk tpos) (.Call (.Name "enumerate" p) [e] [] pos) (iEnumT X.K ta) := by
  refine ⟨fun pins s σ H R I h => Call_ (ld_blt I hg hm boot_enumerate (PyProof.Rows.callWith_type1 (thn (ha.run pos pins s σ H _ I h) fun us s1 ⟨vs, H1, I1, r1, a, xs, ex, hq, q⟩ => ?_) hs rfl))⟩
  subst ex
  cases r1 with
  | cons r rr =>
    cases rr
    cases r
    obtain ⟨its, rv, p', hz⟩ := I1.tuple hq
    have la : a < s1.heap.objs.size := by obtain ⟨o, e, _⟩ := id p'; exact Heap.lt_size e
    refine call_enum1 (begins_tuple a its.toArray) p' fun h' he hit hk => wpAny_pyIter_enum he ?_
    have I2 : Inv X pins σ H1 { s1 with heap := h' } := I1.kept (t' := s1.toks) hk
    refine ⟨s1.heap.objs.size + 1, [s1.heap.objs.size + 1, s1.heap.objs.size], _, _, H1, rfl, I2, turn_enumT a (s1.heap.objs.size + 1) s1.heap.objs.size (Nat.succ_ne_self _) (Nat.ne_of_gt (Nat.lt_succ_of_lt la)) (Nat.ne_of_lt la), ⟨⟨.none, he⟩, ⟨_, hit, rfl, rfl⟩⟩, fun b hb => ?_, q⟩
    have hle : s1.heap.objs.size ≤ b := by
      rcases List.mem_cons.mp hb with z | z
      · rw [z]; exact Nat.le_succ _
      · rw [List.mem_singleton.mp z]; exact Nat.le_refl _
    exact I1.fpOk hle (I1.hok.fresh hle)
section
variable {K : PySem.W.Frag} {G H : Hp}
theorem newPair {K : PySem.W.Frag} {G1 H : Hp} {t : Addr} {x y : V} {d e : D} (s : Sub G1 H) (n : H t = none) (q1 : Dat K G1 x d) (q2 : Dat K G1 y e) : ∃ G2, Gx G1 H G2 (upd H t (.tup [x, y])) ∧ Dat K G2 (.ref t) (.tup [d, e]) :=
  have g := Gx.laidF (o := .tup [x, y]) s n
  ⟨_, g, .tup (.inl (.inl upd_same)) (.cons (q1.sub g.gg) (.cons (q2.sub g.gg) .nil))⟩
def enumD (k : Nat) : List D → List D
  | [] => []
  | d :: ds => .tup [.int (k : Nat), d] :: enumD (k + 1) ds
theorem enumD_len (k : Nat) : ∀ ds, (enumD k ds).length = ds.length
  | [] => rfl
  | d :: ds => congrArg Nat.succ (enumD_len (k + 1) ds)
theorem enumD_get : ∀ (k i : Nat) (ds : List D) (e : D), (enumD k ds)[i]? = some e → ∃ d, ds[i]? = some d ∧ e = .tup [.int ((k + i : Nat)), d]
  | k, i, [], e, h => by simp [enumD] at h
  | k, 0, d :: ds, e, h => by simp [enumD] at h; exact ⟨d, rfl, h.symm⟩
  | k, i + 1, d :: ds, e, h => by
    obtain ⟨d', h1, h2⟩ := enumD_get (k + 1) i ds e (by simpa [enumD] using h)
    exact ⟨d', by simpa using h1, by rw [h2, show k + 1 + i = k + (i + 1) by omega]⟩
theorem yl_enumL {a : Addr} {xs : List V} {ds : List D} (q : SqL K G a xs) (r : Dats K G xs ds) : Yl K (Ite K a) G (enumD 0 ds) where
  go := fun i G1 H s1 s2 hi => by
    rw [enumD_len, ← r.len] at hi
    exact ⟨xs, xs[i], SqL.sub (s1.trans s2) q, by simp [hi]⟩
  stop := fun G1 H s1 s2 => ⟨xs, SqL.sub (s1.trans s2) q, by rw [enumD_len, r.len]; exact Nat.le_refl _⟩
  yld := fun i d G1 H x H' s1 s2 e ⟨t, y, e1, e2, e3, e4⟩ => by
    obtain ⟨d1, h1, rfl⟩ := enumD_get 0 i ds d e
    subst e1 e3
    obtain ⟨v, h2, h3⟩ := r.get h1
    have h4 := e4 xs (SqL.sub (s1.trans s2) q)
    rw [h2] at h4
    cases h4
    rw [Nat.zero_add]
    exact newPair s2 e2 (.int _) (h3.sub s1)
theorem yl_enumT {a : Addr} {xs : List V} {ds : List D} (q : SqT K G a xs) (r : Dats K G xs ds) : Yl K (IteT K a) G (enumD 0 ds) where
  go := fun i G1 H s1 s2 hi => by
    rw [enumD_len, ← r.len] at hi
    exact ⟨xs, xs[i], SqT.sub (s1.trans s2) q, by simp [hi]⟩
  stop := fun G1 H s1 s2 => ⟨xs, SqT.sub (s1.trans s2) q, by rw [enumD_len, r.len]⟩
  yld := fun i d G1 H x H' s1 s2 e ⟨t, y, e1, e2, e3, e4⟩ => by
    obtain ⟨d1, h1, rfl⟩ := enumD_get 0 i ds d e
    subst e1 e3
    obtain ⟨v, h2, h3⟩ := r.get h1
    have h4 := e4 xs (SqT.sub (s1.trans s2) q)
    rw [h2] at h4
    cases h4
    rw [Nat.zero_add]
    exact newPair s2 e2 (.int _) (h3.sub s1)
def zipD : List D → List D → List D
  | d :: ds, e :: es => .tup [d, e] :: zipD ds es
  | _, _ => []
theorem zipD_get : ∀ (i : Nat) (ds es : List D) (x : D), (zipD ds es)[i]? = some x → ∃ d e, ds[i]? = some d ∧ es[i]? = some e ∧ x = .tup [d, e]
  | i, [], es, x, h => by simp [zipD] at h
  | i, d :: ds, [], x, h => by simp [zipD] at h
  | 0, d :: ds, e :: es, x, h => by simp [zipD] at h; exact ⟨d, e, rfl, rfl, h.symm⟩
  | i + 1, d :: ds, e :: es, x, h => by
    obtain ⟨d', e', h1, h2, h3⟩ := zipD_get i ds es x (by simpa [zipD] using h)
    exact ⟨d', e', by simpa using h1, by simpa using h2, h3⟩
theorem zipD_len : ∀ (ds es : List D), (zipD ds es).length = min ds.length es.length
  | [], es => by simp [zipD]
  | d :: ds, [] => by simp [zipD]
  | d :: ds, e :: es => by simp [zipD, zipD_len ds es]
theorem yl_zipL {a b : Addr} {xs ys : List V} {ds es : List D} (q : SqL K G a xs) (r : Dats K G xs ds) (q2 : SqL K G b ys) (r2 : Dats K G ys es) : Yl K (Itz K a b) G (zipD ds es) where
  go := fun i G1 H s1 s2 hi => by
    rw [zipD_len, ← r.len, ← r2.len] at hi
    have h1 : i < xs.length := by omega
    have h2 : i < ys.length := by omega
    exact ⟨xs, ys, xs[i], ys[i], SqL.sub (s1.trans s2) q, SqL.sub (s1.trans s2) q2, by simp [h1], by simp [h2]⟩
  stop := fun G1 H s1 s2 => ⟨xs, ys, SqL.sub (s1.trans s2) q, SqL.sub (s1.trans s2) q2, by rw [zipD_len, ← r.len, ← r2.len]; omega⟩
  yld := fun i d G1 H x H' s1 s2 e ⟨t, y, z, e1, e2, e3, e4, e5⟩ => by
    obtain ⟨d1, d2, h1, h2, rfl⟩ := zipD_get i ds es d e
    subst e1 e3
    obtain ⟨v, h3, h4⟩ := r.get h1
    obtain ⟨v2, h5, h6⟩ := r2.get h2
    have k1 := e4 xs (SqL.sub (s1.trans s2) q)
    have k2 := e5 ys (SqL.sub (s1.trans s2) q2)
    rw [h3] at k1
    rw [h5] at k2
    cases k1
    cases k2
    exact newPair s2 e2 (h4.sub s1) (h6.sub s1)
theorem yl_zipT {a b : Addr} {xs ys : List V} {ds es : List D} (q : SqT K G a xs) (r : Dats K G xs ds) (q2 : SqT K G b ys) (r2 : Dats K G ys es) : Yl K (RZ.ItzT K a b) G (zipD ds es) where
  go := fun i G1 H s1 s2 hi => by
    rw [zipD_len, ← r.len, ← r2.len] at hi
    have h1 : i < xs.length := by omega
    have h2 : i < ys.length := by omega
    exact ⟨xs, ys, xs[i], ys[i], SqT.sub (s1.trans s2) q, SqT.sub (s1.trans s2) q2, by simp [h1], by simp [h2]⟩
  stop := fun G1 H s1 s2 => ⟨xs, ys, SqT.sub (s1.trans s2) q, SqT.sub (s1.trans s2) q2, by rw [zipD_len, ← r.len, ← r2.len]; omega⟩
  yld := fun i d G1 H x H' s1 s2 e ⟨t, y, z, e1, e2, e3, e4, e5⟩ => by
    obtain ⟨d1, d2, h1, h2, rfl⟩ := zipD_get i ds es d e
    subst e1 e3
    obtain ⟨v, h3, h4⟩ := r.get h1
    obtain ⟨v2, h5, h6⟩ := r2.get h2
    have k1 := e4 xs (SqT.sub (s1.trans s2) q)
    have k2 := e5 ys (SqT.sub (s1.trans s2) q2)
    rw [h3] at k1
    rw [h5] at k2
    cases k1
    cases k2
    exact newPair s2 e2 (h4.sub s1) (h6.sub s1)
end
section
variable {X : Cx} {T : List (Addr × Str)} {W : WX} {pos : Pos} {a b : Expr} {elts : List Expr} {kk : Nat} {tpos : Pos}
def iEnu (r : Ev (List D)) : Ev (List D) := fun ρ => (r ρ).bind fun ρ1 as => match as with
  | [d] => (match d.seq? with
    | some ds => .ok ρ1 (enumD 0 ds)
    | none => .stk)
  | _ => .stk
theorem di_enum {r : Ev (List D)} {p : Pos} (hg : Gl X "enumerate") (hm : X.mg "enumerate" = none) (ha : DA X T W [a] r) (hs : starEach [a] X.env = [(false, eval a X.env)] := by rfl) : DI X T W (.Tuple elts kk tpos) (.Call (.Name "enumerate" p) [a] [] pos) (iEnu r) := by
  refine PI.mono (PI.or (pi_enum hg hm ha hs) (pi_enumT hg hm ha hs)) fun σ H Q ⟨G, ρ, R, h⟩ => ?_
  cases e : r ρ with
  | stk => unfold iEnu at h; rw [e] at h; exact h.elim
  | exc c => unfold iEnu at h; rw [e] at h; exact .inl ⟨G, ρ, R, by rw [e]; exact h⟩
  | ok ρ1 as =>
    unfold iEnu at h
    rw [e] at h
    simp only [Out.bind_ok] at h
    match as, e, h with
    | [d], e, h =>
      simp only [] at h
      cases d with
      | tup ds =>
        refine .inr ⟨G, ρ, R, ?_⟩
        rw [e]
        intro vs G1 H1 R1 s1 a1
        have a1 : Dats X.K G1 vs [.tup ds] := a1
        cases a1 with
        | cons c1 c2 =>
          cases c2
          cases c1 with
          | tup q r => exact ⟨_, _, rfl, SqT.sub R1.gh q, h _ G1 H1 R1 s1 (yl_enumT q r)⟩
      | lst ds =>
        refine .inl ⟨G, ρ, R, ?_⟩
        rw [e]
        intro vs G1 H1 R1 s1 a1
        have a1 : Dats X.K G1 vs [.lst ds] := a1
        cases a1 with
        | cons c1 c2 =>
          cases c2
          cases c1 with
          | lst q r => exact ⟨_, _, rfl, SqL.of (R1.gh _ _ q), h _ G1 H1 R1 s1 (yl_enumL (SqL.of q) r)⟩
      | scr ds =>
        refine .inl ⟨G, ρ, R, ?_⟩
        rw [e]
        intro vs G1 H1 R1 s1 a1
        have a1 : Dats X.K G1 vs [.scr ds] := a1
        cases a1 with
        | cons c1 c2 =>
          cases c2
          cases c1 with
          | scr q r => exact ⟨_, _, rfl, SqL.sub R1.gh q, h _ G1 H1 R1 s1 (yl_enumL q r)⟩
      | _ => exact (show False from h).elim
    | [], e, h => exact h.elim
    | _ :: _ :: _, e, h => exact h.elim
def iZp (r : Ev (List D)) : Ev (List D) := fun ρ => (r ρ).bind fun ρ1 as => match as with
  | [.tup ds, .tup es] => .ok ρ1 (zipD ds es)
  | [.lst ds, .lst es] => .ok ρ1 (zipD ds es)
  | _ => .stk
theorem di_zip {r : Ev (List D)} {p : Pos} (hg : Gl X "zip") (hm : X.mg "zip" = none) (ha : DA X T W [a, b] r) (hs : starEach [a, b] X.env = (false, eval a X.env) :: starEach [b] X.env := by rfl) (hpl : (backTo pos (starEach [b] X.env)).any (·.1) = false := by rfl) :
    DI X T W (.Tuple elts kk tpos) (.Call (.Name "zip" p) [a, b] [] pos) (iZp r) := by
  refine PI.mono (RZ.pi_zipA hg hm ha hs hpl) fun σ H Q ⟨G, ρ, R, h⟩ => ?_
  refine tDX.mono (tRX.bind (rel := dsRel X.K) (rel' := iRel X.K) R h) fun vs H1 ⟨G1, ρ1, as, R1, s1, a1, h1⟩ => ?_
  have a1 : Dats X.K G1 vs as := a1
  split at h1
  · cases a1 with
    | cons c1 c2 =>
      cases c2 with
      | cons c2 c3 =>
        cases c3
        cases c1 with
        | tup q r =>
          cases c2 with
          | tup q2 r2 => exact ⟨_, _, _, _, rfl, .inr ⟨SqT.sub R1.gh q, SqT.sub R1.gh q2, h1 _ G1 H1 R1 (EStp.refl R1) (yl_zipT q r q2 r2)⟩⟩
  · cases a1 with
    | cons c1 c2 =>
      cases c2 with
      | cons c2 c3 =>
        cases c3
        cases c1 with
        | lst q r =>
          cases c2 with
          | lst q2 r2 => exact ⟨_, _, _, _, rfl, .inl ⟨SqL.of (R1.gh _ _ q), SqL.of (R1.gh _ _ q2), h1 _ G1 H1 R1 (EStp.refl R1) (yl_zipL (SqL.of q) r (SqL.of q2) r2)⟩⟩
  · exact h1.elim
end
end DL
namespace DL
open PySem PySem.Spec
open PyProof.Rows hiding St
open L2
def strsO : List D → Option (List Str)
  | [] => some []
  | .str x :: r => (strsO r).map (x :: ·)
  | _ => none
theorem strsO_eq : ∀ {ds : List D} {ns : List Str}, strsO ds = some ns → ds = ns.map D.str
  | [], ns, e => by cases e; rfl
  | .str i :: r, ns, e => by
    have e : (strsO r).map (i :: ·) = some ns := e
    cases z : strsO r with
    | none => rw [z] at e; cases e
    | some cs => rw [z] at e; cases e; rw [strsO_eq z]; rfl
  | .non :: _, _, e => by cases e
  | .bl _ :: _, _, e => by cases e
  | .int _ :: _, _, e => by cases e
  | .tup _ :: _, _, e => by cases e
  | .lst _ :: _, _, e => by cases e
  | .scr _ :: _, _, e => by cases e
  | .dic _ _ :: _, _, e => by cases e
  | .dit _ _ :: _, _, e => by cases e
  | .opq _ :: _, _, e => by cases e
theorem strsO_map : ∀ ns : List Str, strsO (ns.map D.str) = some ns
  | [] => rfl
  | n :: ns => by show (strsO (ns.map D.str)).map (n :: ·) = _; rw [strsO_map ns]; rfl
section
variable {X : Cx} {T : List (Addr × Str)} {W : WX} {pos : Pos} {a b : Expr} {fa fb : Ev Wv}
/-- s.m(x), s a text -/
def fM1 (g : Str → D → Option Wv) (fa fb : Ev Wv) : Ev Wv := fun ρ => (fa ρ).bind fun ρ1 w => match w with
  | .val (.str x) => (fb ρ1).bind fun ρ2 w2 => (match look ρ2 w2 with
    | some d => oW ρ2 (g x d)
    | none => .stk)
  | _ => .stk
theorem m1_read {r : V → List V → Hp → VK → Prop} {g : Str → D → Option Wv} (o : ∀ (G H : Hp) (x : Str) (y : V) (d : D) (Q : VK), Sub G H → RAt X.K G H y d → opR X.K G H (g x d) Q → r (.str x) [y] H Q) {σ : St} {H : Hp} {Q : VK} (h : tDE X.K T X.mg W (fM1 g fa fb) σ H Q) :
    tM1 r (tDE X.K T X.mg W fa) (tDE X.K T X.mg W fb) σ H Q := by
  obtain ⟨G, ρ, R, h⟩ := h
  refine tDE.mono (tR.bind R h) fun v H1 ⟨G1, ρ1, w1, R1, s1, a1, h1⟩ => ?_
  cases w1 with
  | tmp o => exact h1.elim
  | slot i => exact h1.elim
  | val d =>
    cases d with
    | str x =>
      have ev : v = .str x := by cases (show Dat X.K G1 v (.str x) from a1); rfl
      subst ev
      refine ⟨⟨x, rfl⟩, ?_⟩
      refine tDE.mono (tR.bind R1 h1) fun y H2 ⟨G2, ρ2, w2, R2, s2, a2, h2⟩ => ?_
      cases e : look ρ2 w2 with
      | none => rw [e] at h2; exact h2.elim
      | some d =>
        rw [e] at h2
        exact o G2 H2 x y d Q R2.gh (look_at R2 a2 e) (opR_of R2 h2)
    | _ => exact h1.elim
def gJoin (x : Str) (d : D) : Option Wv := match d.seq? with
  | some ds => (match strsO ds with
    | some ys => if decide ((ys.map (·.length)).sum + ys.length * x.length ≤ 16777216) then some (.val (.str (Txt.join x ys))) else none
    | none => none)
  | none => none
theorem de_join {apos : Pos} (ha : DE X T W a fa) (hb : DE X T W b fb) (hs : starEach [b] X.env = [(false, eval b X.env)] := by rfl) (hbase : attributeBase a "join" X.env (eval a X.env) = eval a X.env := by rfl) (hline : (apos.endLine == pos.line) = true := by rfl) :
    DE X T W (.Call (.Attribute a "join" apos) [b] [] pos) (fM1 gJoin fa fb) :=
  PE.mono (pe_join ha hb hs hbase hline) fun σ H Q h => m1_read (fun G H x y d Q s hy h => by
    unfold gJoin at h
    cases e : d.seq? with
    | none => rw [e] at h; exact h.elim
    | some ds =>
      simp only [e] at h
      cases z : strsO ds with
      | none => simp only [z] at h; exact (show False from h).elim
      | some ys =>
        simp only [z] at h
        split at h
        · rename_i k
          obtain ⟨p, xs, rfl, q, r⟩ := rat_seq s hy e
          rw [strsO_eq z] at r
          have ex := r.strs
          subst ex
          exact ⟨x, p, ys, rfl, rfl, q, of_decide_eq_true k, opR.val s h (.str _)⟩
        · exact h.elim) h
def gSplit (x : Str) (d : D) : Option Wv := match d with
  | .str y => if !(y.length == 0) && decide (x.length + 2 ≤ 16777216) then some (.tmp (.lst ((Txt.split x y).map D.str))) else none
  | _ => none
theorem de_split {apos : Pos} (ha : DE X T W a fa) (hb : DE X T W b fb) (hs : starEach [b] X.env = [(false, eval b X.env)] := by rfl) (hbase : attributeBase a "split" X.env (eval a X.env) = eval a X.env := by rfl) (hline : (apos.endLine == pos.line) = true := by rfl) :
    DE X T W (.Call (.Attribute a "split" apos) [b] [] pos) (fM1 gSplit fa fb) :=
  PE.mono (pe_m1 F.slot_str_split F.type_str_split mt_split ha hb hs hbase hline) fun σ H Q h => m1_read (fun G H x y d Q s hy h => by
    unfold gSplit at h
    split at h
    · rename_i y
      split at h
      · rename_i k
        rw [rat_str hy]
        rw [Bool.and_eq_true, Bool.not_eq_true'] at k
        refine ⟨x, _, rfl, rfl, k.1, by rw [sizeLine_eq]; exact of_decide_eq_true k.2, fun p hp => opR.newL s h (Dats.ofStrs _) hp⟩
      · exact h.elim
    · exact h.elim) h
end
end DL
namespace DL
open PySem PySem.Spec
open PyProof.Rows hiding St
open L2
/-! ### sets of at most three ways: (minutes, calls) -/
abbrev WK : Type := Int × List Int
abbrev WK.key (k : WK) : NestedKey := .tup [.num k.1, .tup (k.2.map .num)]
def WK.hs (k : WK) : Int := reduceHash (Builtin.Tuple.tupleHashOf [hashInt k.1, reduceHash (Builtin.Tuple.tupleHashOf (k.2.map hashInt))])
theorem hashes_num (w : World) : ∀ l : List Int, NestedKey.hashes w (l.map .num) = l.map hashInt
  | [] => rfl
  | i :: l => by rw [List.map_cons, List.map_cons, NestedKey.hashes, hashes_num w l]; rfl
theorem hash_key (w : World) (k : WK) : NestedKey.hash w k.key = k.hs := by
  unfold WK.key WK.hs
  rw [NestedKey.hash, NestedKey.hashes, NestedKey.hashes, NestedKey.hashes, NestedKey.hash, NestedKey.hash, hashes_num]
theorem depth_num : ∀ l : List Int, NestedKey.depthAll (l.map .num) = 0
  | [] => rfl
  | i :: l => by rw [List.map_cons, NestedKey.depthAll, depth_num l]; rfl
theorem depth_key (k : WK) : k.key.depth = 2 := by
  unfold WK.key
  rw [NestedKey.depth, NestedKey.depthAll, NestedKey.depthAll, NestedKey.depthAll, NestedKey.depth, NestedKey.depth, depth_num]
  rfl
/-- the ways there are -/
def allRows : List (List Int) := [[], [0], [1], [2], [0, 0], [0, 1], [0, 2], [1, 0], [1, 1], [1, 2], [2, 0], [2, 1], [2, 2]]
def allK : List WK := (List.range 10).flatMap fun (m : Nat) => allRows.map fun r => ((m : Int), r)
def allH : List (Int × WK) := allK.map fun k => (k.hs, k)
theorem hs_apart : (allK.map WK.hs).Nodup := by decide +kernel
theorem hs_inj {k j : WK} (h1 : k ∈ allK) (h2 : j ∈ allK) (e : k.hs = j.hs) : k = j := by
  obtain ⟨a, ha, ea⟩ := List.getElem_of_mem h1
  obtain ⟨b, hb, eb⟩ := List.getElem_of_mem h2
  have la : a < (allK.map WK.hs).length := by rw [List.length_map]; exact ha
  have lb : b < (allK.map WK.hs).length := by rw [List.length_map]; exact hb
  have e2 : (allK.map WK.hs)[a] = (allK.map WK.hs)[b] := by rw [List.getElem_map, List.getElem_map, ea, eb]; exact e
  have e3 : a = b := (List.getElem_inj hs_apart).mp e2
  subst e3
  exact ea.symm.trans eb
/-- the tuple at a is the way k -/
abbrev IsW (h : Heap) (k : WK) (a : Addr) : Prop := NestedIs h k.key (.ref a)
section
variable {P : Program} {w : World} {A : Around} {E : Value → Shared → Prop} {s : Shared}
theorem num_val {h : Heap} {i : Int} {v : Value} (x : NestedIs h (.num i) v) : (∃ b, v = .bool b) ∨ ∃ t, v = .int i t := by
  cases x with
  | @bool b _ _ => exact .inl ⟨b, rfl⟩
  | int _ t => exact .inr ⟨t, rfl⟩
/-- what is asked of each item of a tuple, no answer of which is yes -/
def NoAt (P : Program) (w : World) (f : Value → Sem Bool) (b : Bool) (s : Shared) (v : Value) : Prop := ∀ (A : Around) (E : Value → Shared → Prop) (Q : Bool → Shared → Prop), Q b s → wpAny (model P w) A (f v) Q E s
theorem oc_tup {n : Nat} {a : Addr} {o : Obj} {vs : Array Value} {m : Nat} (ho : s.heap.get? a = some o) (hc : o.cls = .type "tuple") (hd : o.data = .seq vs m) (hq : ∀ v ∈ vs.toList, NoAt P w (ofAClassStatement n) false s v) : NoAt P w (ofAClassStatement (n + 1)) false s (.ref a) := fun A E Q h => by
  have e : (("tuple" : String) == "tuple") = true := by decide
  unfold ofAClassStatement
  refine wpAny_bind (wpAny_typeOf ⟨o, ho, hc⟩ ?_)
  dsimp only
  simp only [e, if_true, Bool.not_true, Bool.false_eq_true, if_false]
  try refine wpAny_bind (wpAny_pure ?_)
  try simp only [Bool.not_true, Bool.false_eq_true, if_false]
  refine (show wpAny _ _ (seqItems? (.ref a) >>= _) _ _ s from wpAny_bind (wpAny_seqItems ho hd ?_))
  dsimp only
  refine wpAny_bind (show wpAny _ _ (forIn vs _ _) _ _ s from ?_)
  rw [← Array.forIn_toList]
  refine wpAny_forIn_list _ (fun rest r s' => r.1 = none ∧ s' = s ∧ ∀ v ∈ rest, NoAt P w (ofAClassStatement n) false s v) _ (fun v rest r s' ⟨hr, es, all⟩ => ?_) (fun r s' ⟨hr, es, _⟩ => ?_) _ _ ⟨rfl, rfl, hq⟩
  · subst es
    refine wpAny_bind (all v List.mem_cons_self _ _ _ ?_)
    simp only [Bool.false_eq_true, if_false]
    exact wpAny_pure ⟨rfl, rfl, fun u hu => all u (List.mem_cons_of_mem _ hu)⟩
  · obtain ⟨r1, r2⟩ := r
    cases (show r1 = none from hr)
    subst es
    exact wpAny_pure h
theorem oc_num {n : Nat} {i : Int} {v : Value} (x : NestedIs s.heap (.num i) v) : NoAt P w (ofAClassStatement n) false s v := fun A E Q h => by
  have e : ofAClassStatement n v = pure false := by
    rcases num_val x with ⟨b, rfl⟩ | ⟨t, rfl⟩ <;> (cases n <;> rfl)
  rw [e]
  exact wpAny_pure h
theorem nums_val {h : Heap} : ∀ {l : List Int} {vs : List Value}, NestedAll h (l.map .num) vs → ∀ v ∈ vs, ∃ i, NestedIs h (.num i) v
  | [], _, x, v, hv => by cases x; cases hv
  | i :: l, _, x, v, hv => by
    cases x with
    | cons x1 x2 =>
      rcases List.mem_cons.mp hv with e | hv
      · rw [e]; exact ⟨i, x1⟩
      · exact nums_val x2 v hv
theorem hb_tup {n : Nat} {a : Addr} {o : Obj} {vs : Array Value} {m : Nat} (ho : s.heap.get? a = some o) (hc : o.cls = .type "tuple") (hd : o.data = .seq vs m) (hq : ∀ v ∈ vs.toList, NoAt P w (hashByValue n) true s v) : NoAt P w (hashByValue (n + 1)) true s (.ref a) := fun A E Q h => by
  unfold hashByValue
  refine wpAny_bind (wpAny_specialOf (T := "tuple") ⟨o, ho, hc⟩ F.slot_tuple_hash.lookup ?_)
  refine (show wpAny _ _ (seqItems? (.ref a) >>= _) _ _ s from wpAny_bind (wpAny_seqItems ho hd ?_))
  refine wpAny_bind (show wpAny _ _ (forIn vs _ _) _ _ s from ?_)
  rw [← Array.forIn_toList]
  refine wpAny_forIn_list _ (fun rest r s' => r.1 = none ∧ s' = s ∧ ∀ v ∈ rest, NoAt P w (hashByValue n) true s v) _ (fun v rest r s' ⟨hr, es, all⟩ => ?_) (fun r s' ⟨hr, es, _⟩ => ?_) _ _ ⟨rfl, rfl, hq⟩
  · subst es
    refine wpAny_bind (all v List.mem_cons_self _ _ _ ?_)
    simp only [Bool.not_true, Bool.false_eq_true, if_false]
    exact wpAny_pure ⟨rfl, rfl, fun u hu => all u (List.mem_cons_of_mem _ hu)⟩
  · obtain ⟨r1, r2⟩ := r
    cases (show r1 = none from hr)
    subst es
    exact wpAny_pure h
theorem hb_num {n : Nat} {i : Int} {v : Value} (x : NestedIs s.heap (.num i) v) : NoAt P w (hashByValue n) true s v := fun A E Q h => by
  have e : hashByValue n v = pure true := by
    rcases num_val x with ⟨b, rfl⟩ | ⟨t, rfl⟩ <;> (cases n <;> rfl)
  rw [e]
  exact wpAny_pure h
theorem way_all {f : Nat → Value → Sem Bool} {b : Bool} (tp : ∀ (n : Nat) (a : Addr) (o : Obj) (vs : Array Value) (m : Nat), s.heap.get? a = some o → o.cls = .type "tuple" → o.data = .seq vs m → (∀ v ∈ vs.toList, NoAt P w (f n) b s v) → NoAt P w (f (n + 1)) b s (.ref a))
    (nm : ∀ (n : Nat) (i : Int) (v : Value), NestedIs s.heap (.num i) v → NoAt P w (f n) b s v) {k : WK} {a : Addr} (x : IsW s.heap k a) : NoAt P w (f 8) b s (.ref a) := by
  cases x with
  | tup h1 h2 h3 h4 =>
    refine tp 7 _ _ _ _ h1 h2 h3 fun v hv => ?_
    generalize hvs : Array.toList _ = vl at h4 hv
    cases h4 with
    | cons x1 x2 =>
      cases x2 with
      | cons y1 y2 =>
        cases y2
        rcases List.mem_cons.mp hv with e | hv
        · rw [e]; exact nm 7 _ _ x1
        · rw [List.mem_singleton.mp hv]
          cases y1 with
          | tup k1 k2 k3 k4 =>
            refine tp 6 _ _ _ _ k1 k2 k3 fun u hu => ?_
            obtain ⟨i, z⟩ := nums_val k4 u hu
            exact nm 6 i u z
theorem oc_way {k : WK} {a : Addr} (x : IsW s.heap k a) : NoAt P w (ofAClassStatement 8) false s (.ref a) := way_all (f := ofAClassStatement) (fun n a o vs m => oc_tup) (fun n i v => oc_num) x
theorem hb_way {k : WK} {a : Addr} (x : IsW s.heap k a) : NoAt P w (hashByValue 8) true s (.ref a) := way_all (f := hashByValue) (fun n a o vs m => hb_tup) (fun n i v => hb_num) x
theorem qu_way {k : WK} {a : Addr} (x : IsW s.heap k a) : NoAt P w (eqIsQuiet 8) true s (.ref a) := quiet_key k.key (.ref a) 8 s x (by rw [depth_key]; decide)
theorem IsW.kept {h h' : Heap} {k : WK} {a S : Addr} {o : Obj} {es : Array (Int × Value)} {ep : Nat} {t : SetTable} (x : IsW h k a) (ho : h.get? S = some o) (hd : o.data = .set es ep t) (sb : Heap.SameBut S h h') : IsW h' k a :=
  NestedIs.at (fun b ob vs n e d => (sb.2 b fun z => by
    rw [z, ho] at e
    cases e
    rw [hd] at d
    cases d).trans e) _ _ x
theorem IsW.keep {h h' : Heap} {k : WK} {a : Addr} (x : IsW h k a) (sb : ∀ b o, h.get? b = some o → h'.get? b = some o) : IsW h' k a := NestedIs.at (fun b ob vs n e d => sb b ob e) _ _ x
theorem unseen {k : WK} {b : Addr} {Q : Bool → Shared → Prop} (x : IsW s.heap k b) {ys : List Value} (hy : ∀ y ∈ ys, ∃ j c, y = Value.ref c ∧ IsW s.heap j c) (h : Q false s) : wpAny (model P w) A (searchCouldBeSeen (.ref b) ys) Q E s := by
  unfold searchCouldBeSeen
  refine wpAny_bind (wpAny_forIn_list _ (fun rest r s' => r.1 = none ∧ s' = s ∧ ∀ y ∈ rest, ∃ j c, y = Value.ref c ∧ IsW s.heap j c) _ (fun v rest r s' ⟨hr, es, all⟩ => ?_) (fun r s' ⟨hr, es, _⟩ => ?_) _ _ ⟨rfl, rfl, hy⟩)
  · subst es
    obtain ⟨j, c, rfl, xc⟩ := all v List.mem_cons_self
    have more := fun u hu => all u (List.mem_cons_of_mem _ hu)
    dsimp only
    by_cases hv : (b == c || (carriedByValue (.ref b) && carriedByValue (.ref c))) = true
    · exact wp_if_pos hv (wpAny_pure ⟨rfl, rfl, more⟩)
    · refine wp_if_neg hv (wpAny_bind (qu_way x _ _ _ ?_))
      simp only [Bool.not_true, Bool.false_eq_true, if_false]
      refine wpAny_bind (qu_way xc _ _ _ ?_)
      simp only [Bool.not_true, Bool.false_eq_true, if_false]
      refine wpAny_bind (oc_way x _ _ _ ?_)
      simp only [Bool.false_eq_true, if_false]
      refine wpAny_bind (oc_way xc _ _ _ ?_)
      simp only [Bool.false_eq_true, if_false]
      exact wpAny_pure ⟨rfl, rfl, more⟩
  · obtain ⟨r1, r2⟩ := r
    cases (show r1 = none from hr)
    subst es
    exact wpAny_pure h
/-- the set at a holds the ways of L, in the order of its table -/
structure S3 (w : World) (h : Heap) (a : Addr) (L : List (Addr × WK)) (es : Array (Int × Value)) (ep : Nat) (t : SetTable) : Prop where
  ob : ∃ o, h.get? a = some o ∧ o.ExactSet ∧ o.data = .set es ep t
  rows : es.toList = L.map fun p => (p.2.hs, Value.ref p.1)
  tab : TabOk t (L.map fun p => p.2.hs)
  tup : ∀ p ∈ L, IsW h p.2 p.1 ∧ p.2 ∈ allK
  plain : t.plain = true
  led : w.params.followText "set-order" = true ∨ t.led = true
  msk : t.mask = 7
variable {a : Addr} {L : List (Addr × WK)} {es : Array (Int × Value)} {ep : Nat} {t : SetTable}
theorem S3.size {h : Heap} (R : S3 w h a L es ep t) : es.size = L.length := by
  have e := congrArg List.length R.rows
  rw [Array.length_toList, List.length_map] at e
  exact e
theorem S3.fits {h : Heap} (R : S3 w h a L es ep t) (few : L.length ≤ 3) : t.fits es.size = true := by
  have h1 := R.tab.sz
  have h2 := R.size
  have h3 := R.msk
  rw [List.length_map] at h1
  unfold SetTable.fits SetTable.fill
  rw [R.tab.dm, Bool.and_eq_true, beq_iff_eq, decide_eq_true_eq]
  refine ⟨by rw [h1, h2], ?_⟩
  show t.place.size + 0 ≤ t.mask
  omega
theorem S3.entry {h : Heap} (R : S3 w h a L es ep t) {i : Nat} {p : Addr × WK} (e : L[i]? = some p) : es[i]? = some (p.2.hs, Value.ref p.1) := by
  rw [← Array.getElem?_toList, R.rows, List.getElem?_map, e] <;> rfl
theorem probe_go (t : SetTable) (F : Nat → Int) (h : Int) : t.probe F h ((none : Option SetTable.Probe).getD (t.probeStart h)) = SetTable.probe.go t F h (10 * SetTable.turns t.mask) (runAt t.mask (SetTable.bits h % (t.mask + 1)) (SetTable.bits h)) := rfl
/-- the search: hashes tell the ways apart -/
theorem S3.search1 (f : Nat) (R : S3 w s.heap a L es ep t) (few : L.length ≤ 3) {x : Addr} {k : WK} {h : Int} (ek : k.hs = h) (xk : IsW s.heap k x) (kk : k ∈ allK) (hu : A.units + 2 < cLine) {Q : SetFound → Shared → Prop} (hin : k ∈ L.map (·.2) → Q (.there none) s)
    (hout : ∀ K, k ∉ L.map (·.2) → way t.mask h K ∉ t.place.toList → (∀ c, c < K → way t.mask h c ∈ t.place.toList) → Q (.free (way t.mask h K) false) s) : wpAny (model P w) A (setSearchFrom a (.ref x) h true (f + 1) none) Q E s := by
  obtain ⟨o, ho, hex, hd⟩ := R.ob
  have m7 := R.msk
  obtain ⟨K, hKf, hK, hKb⟩ := R.tab.first (by rw [List.length_map]; omega) h
  have g1 : ¬ t.gaveWay = true := by
    unfold SetTable.gaveWay
    rw [m7]
    decide
  rw [setSearchFrom_succ]
  refine wpAny_bind (wpAny_setState_of ho hd (R.fits few) ?_)
  dsimp only
  refine wp_if_neg g1 ?_
  try refine wpAny_bind (wpAny_pure ?_)
  have hashAt : ∀ (i : Nat) (p : Addr × WK), L[i]? = some p → (es[i]?.map (·.1)).getD 0 = p.2.hs := fun i p e => by rw [R.entry e, Option.map_some, Option.getD_some]
  have here : ∀ {i j : Nat}, t.place.toList[i]? = some j → ∃ p, L[i]? = some p := fun {i j} e => by
    have l1 : i < t.place.toList.length := (List.getElem?_eq_some_iff.mp e).1
    have l2 := R.tab.sz
    rw [List.length_map] at l2
    rw [Array.length_toList] at l1
    exact ⟨_, List.getElem?_eq_getElem (show i < L.length by omega)⟩
  rcases go_spec t R.tab.ris R.tab.dm (fun i => (es[i]?.map (·.1)).getD 0) h (10 * SetTable.turns t.mask) K (runAt t.mask (SetTable.bits h % (t.mask + 1)) (SetTable.bits h)) rfl hKf hKb hK with ⟨q, i, hq, hi, hh, hno, hpr⟩ | ⟨hno, hpr⟩
  · have pr : t.probe (fun i => (es[i]?.map (·.1)).getD 0) h ((none : Option SetTable.Probe).getD (t.probeStart h)) = some (.candidate (way t.mask h q) i (nth t.mask (runAt t.mask (SetTable.bits h % (t.mask + 1)) (SetTable.bits h)) (q + 1))) := (probe_go t _ h).trans hpr
    rw [pr]
    dsimp only
    obtain ⟨p, hp⟩ := here hi
    have mp : p ∈ L := List.mem_of_getElem? hp
    have same : p.2 = k := hs_inj (R.tup p mp).2 kk ((hashAt i p hp).symm.trans (hh.trans ek.symm))
    have goOn : wpAny (model P w) A (searchRest a (.ref x) h true f es t (way t.mask h q) i (nth t.mask (runAt t.mask (SetTable.bits h % (t.mask + 1)) (SetTable.bits h)) (q + 1))) Q E s := by
      unfold searchRest
      rw [R.entry hp]
      dsimp only
      refine wpAny_bind (wpAny_holding ?_)
      refine eqAt_key p.2.key k.key A s _ _ (R.tup p mp).1 xk (by rw [depth_key, depth_key]; exact hu) _ _ _ _ ?_
      rw [same, NestedKey.beq_self]
      refine wpAny_bind (wpAny_setState_of ho hd (R.fits few) ?_)
      dsimp only
      exact wp_if_pos rfl (wpAny_pure (hin (List.mem_map.mpr ⟨p, mp, same⟩)))
    by_cases hl : t.led = true
    · refine wp_if_neg (by simp [hl]) ?_
      try refine wpAny_bind (wpAny_pure ?_)
      exact goOn
    · refine wp_if_pos (by simp [hl]) (wpAny_bind (unseen xk (fun y hy => ?_) ?_))
      · obtain ⟨e, he, ee⟩ := List.mem_map.mp hy
        have he1 : e ∈ es ∧ e.1 = h := by simpa using he
        have he2 : e ∈ es.toList := by simpa using he1.1
        rw [R.rows] at he2
        obtain ⟨p2, m2, e2⟩ := List.mem_map.mp he2
        exact ⟨p2.2, p2.1, by rw [← ee, ← e2], (R.tup p2 m2).1⟩
      · refine wp_if_neg (by decide) ?_
        try refine wpAny_bind (wpAny_pure ?_)
        exact goOn
  · have pr : t.probe (fun i => (es[i]?.map (·.1)).getD 0) h ((none : Option SetTable.Probe).getD (t.probeStart h)) = some (.empty (way t.mask h K) none) := (probe_go t _ h).trans hpr
    rw [pr]
    dsimp only
    refine wpAny_pure (hout K (fun hm => ?_) hK hKb)
    obtain ⟨p, mp, ep⟩ := List.mem_map.mp hm
    obtain ⟨i, hi, e0⟩ := List.getElem_of_mem mp
    have h0 : L[i]? = some p := by rw [List.getElem?_eq_getElem hi, e0]
    have l2 := R.tab.sz
    rw [List.length_map] at l2
    have il : i < t.place.toList.length := by rw [Array.length_toList]; omega
    have hj := List.getElem?_eq_getElem il
    have hih : (L.map fun p => p.2.hs)[i]? = some h := by
      rw [List.getElem?_map, h0, ← ek, ← ep] <;> rfl
    obtain ⟨c, hc, e⟩ := R.tab.before hK hih hj
    exact hno c i hc (by rw [hj, ← e]) ((hashAt i p h0).trans (by rw [ep]; exact ek))
theorem S3.search (R : S3 w s.heap a L es ep t) (few : L.length ≤ 3) {x : Addr} {k : WK} (xk : IsW s.heap k x) (kk : k ∈ allK) (hu : A.units + 2 < cLine) {Q : SetFound → Shared → Prop} (hin : k ∈ L.map (·.2) → Q (.there none) s)
    (hout : ∀ K, k ∉ L.map (·.2) → way t.mask k.hs K ∉ t.place.toList → (∀ c, c < K → way t.mask k.hs c ∈ t.place.toList) → Q (.free (way t.mask k.hs K) false) s) : wpAny (model P w) A (setSearch a (.ref x) k.hs true) Q E s := by
  unfold setSearch
  generalize hn : (100000 : Nat) = n
  obtain ⟨f, rfl⟩ : ∃ f, n = f + 1 := ⟨99999, hn.symm⟩
  exact R.search1 f few rfl xk kk hu hin hout
/-- one way is added -/
theorem S3.add (R : S3 w s.heap a L es ep t) (few : L.length ≤ 2) {x : Addr} {k : WK} (xk : IsW s.heap k x) (kk : k ∈ allK) (hu : A.units + 2 < cLine) {Q : Bool → Shared → Prop}
    (hQ : ∀ b h' L' es' ep' t', Heap.SameBut a s.heap h' → S3 w h' a L' es' ep' t' → (k ∈ L.map (·.2) → L' = L) → (k ∉ L.map (·.2) → L'.Perm ((x, k) :: L)) → Q b { s with heap := h' }) : wpAny (model P w) A (setAddHashed a (.ref x) k.hs) Q E s := by
  obtain ⟨o, ho, hex, hd⟩ := R.ob
  have ft := R.fits (by omega)
  have m7 := R.msk
  unfold setAddHashed
  refine wpAny_holding ?_
  generalize hn : (100000 : Nat) = n
  obtain ⟨f, rfl⟩ : ∃ f, n = f + 1 := ⟨99999, hn.symm⟩
  rw [setAddHashedIn_succ]
  refine wpAny_bind (wpAny_setState_of ho hd ft ?_)
  dsimp only
  refine wp_if_neg (by simp [byScan, Value.scannable]) ?_
  try refine wpAny_bind (wpAny_pure ?_)
  refine wpAny_bind (R.search (by omega) xk kk hu (fun hm => wpAny_pure (hQ false s.heap L es ep t (Heap.SameBut.refl a s.heap) R (fun _ => rfl) fun z => absurd hm z)) fun K hm hK hb => ?_)
  dsimp only
  refine wpAny_bind (wpAny_setState_of ho hd ft ?_)
  dsimp only
  obtain ⟨q1, q2, q3, q4, q5, q6, q7, q8, q9⟩ := R.tab.put hK hb
  have pl1 : (t.put (way t.mask k.hs K)).1.plain = true := q6.trans R.plain
  generalize t.put (way t.mask k.hs K) = pt at q1 q3 q4 q5 q6 q7 q8 q9 pl1 ⊢
  obtain ⟨t1, pp⟩ := pt
  dsimp only at q1 q3 q4 q5 q6 q7 q8 q9 pl1 ⊢
  subst q1
  first
    | (refine wpAny_bind (wp_if_pos pl1 (hb_way xk _ _ _ ?_)))
    | (refine wp_if_pos pl1 (wpAny_bind (hb_way xk _ _ _ ?_)))
  simp only [if_true]
  generalize SetTable.below t.place (way t.mask k.hs K) = p at q2 q3 ⊢
  have pm := put_perm L p (x, k)
  have len1 : (L.take p ++ (x, k) :: L.drop p).length = L.length + 1 := pm.length_eq
  have in1 : (SetTable.insertAt es p (k.hs, Value.ref x)).toList = (L.take p ++ (x, k) :: L.drop p).map fun p => (p.2.hs, Value.ref p.1) := by
    rw [SetTable.toList_insertAt, R.rows, List.map_append, List.map_cons, List.map_take, List.map_drop]
  have tb1 : (L.map fun p => p.2.hs).take p ++ k.hs :: (L.map fun p => p.2.hs).drop p = (L.take p ++ (x, k) :: L.drop p).map fun p => p.2.hs := by
    rw [List.map_append, List.map_cons, List.map_take, List.map_drop]
  rw [tb1] at q3
  have es1 : (SetTable.insertAt es p (k.hs, Value.ref x)).size = L.length + 1 := by
    have e := congrArg List.length in1
    rw [Array.length_toList, List.length_map, len1] at e
    exact e
  generalize SetTable.insertAt es p (k.hs, Value.ref x) = es' at in1 es1 ⊢
  generalize L.take p ++ (x, k) :: L.drop p = L1 at pm len1 q3 in1
  refine wpAny_bind (wpAny_storeSet_of ho hd ?_ (by rw [es1, sizeLine_eq]; omega))
  have sb : Heap.SameBut a s.heap (s.heap.update a (Obj.putSet es' t1)) := Heap.SameBut.update ..
  have ho1 := store_at (es' := es') (t' := t1) ho hd
  generalize s.heap.update a (Obj.putSet es' t1) = h1 at sb ho1 ⊢
  have nf : ¬ (!false && t1.tooFull) = true := by
    unfold SetTable.tooFull
    rw [q9, q4, m7, List.length_map, Bool.not_false, Bool.true_and, decide_eq_true_eq]
    omega
  have done : Q true { s with heap := h1 } := hQ true h1 L1 es' (ep + 1) t1 sb ⟨⟨_, ho1, ⟨hex.1, hex.2.1, hex.2.2⟩, rfl⟩, in1, q3, fun p hp => by
      rcases List.mem_cons.mp (pm.mem_iff.mp hp) with e | hp
      · rw [e]; exact ⟨xk.kept ho hd sb, kk⟩
      · exact ⟨(R.tup p hp).1.kept ho hd sb, (R.tup p hp).2⟩, pl1, by rw [q5]; exact R.led, q4.trans m7⟩ (fun z => absurd z hm) fun _ => pm
  first
    | exact wp_if_neg nf (wpAny_pure done)
    | exact wpAny_bind (wp_if_neg nf (wpAny_pure (wpAny_pure done)))
end
end DL
namespace DL
open PySem PySem.Spec
open PyProof.Rows hiding St
open L2
/-- the keys met, each once -/
def met (l : List WK) : List WK := l.foldl (fun acc k => if k ∈ acc then acc else acc ++ [k]) []
theorem met_next (l : List WK) (k : WK) : met (l ++ [k]) = if k ∈ met l then met l else met l ++ [k] := by
  unfold met
  rw [List.foldl_append]
  rfl
structure Mt (ks : List (Addr × WK)) (i : Nat) (L : List (Addr × WK)) : Prop where
  sub : ∀ p ∈ L, p ∈ ks
  perm : (L.map (·.2)).Perm (met ((ks.take i).map (·.2)))
  len : L.length ≤ i
theorem Mt.next {ks L L' : List (Addr × WK)} {i : Nat} {x : Addr × WK} (g : Mt ks i L) (h : ks[i]? = some x) (h1 : x.2 ∈ L.map (·.2) → L' = L) (h2 : x.2 ∉ L.map (·.2) → L'.Perm (x :: L)) : Mt ks (i + 1) L' := by
  have e : (ks.take (i + 1)).map (·.2) = (ks.take i).map (·.2) ++ [x.2] := by
    rw [List.take_succ, h, List.map_append]
    rfl
  have il := g.len
  by_cases c : x.2 ∈ L.map (·.2)
  · rw [h1 c]
    refine ⟨g.sub, ?_, by omega⟩
    rw [e, met_next, if_pos (g.perm.mem_iff.mp c)]
    exact g.perm
  · have pm := h2 c
    refine ⟨fun p hp => ?_, ?_, by rw [pm.length_eq, List.length_cons]; omega⟩
    · rcases List.mem_cons.mp (pm.mem_iff.mp hp) with z | z
      · rw [z]; exact List.mem_of_getElem? h
      · exact g.sub p z
    · rw [e, met_next, if_neg fun z => c (g.perm.mem_iff.mpr z)]
      refine (pm.map (·.2)).trans ?_
      rw [List.map_cons]
      exact (g.perm.cons x.2).trans (List.perm_append_comm (l₁ := [x.2]) (l₂ := met _))
abbrev setO (w : World) : Obj := { cls := .type "set", dict := none, data := .set #[] 0 (.fresh 0 0 (!w.params.followText "set-order")) }
section
variable {P : Program} {w : World} {A : Around} {E : Value → Shared → Prop} {s : Shared}
theorem S3.fresh {h : Heap} {a : Addr} (ho : h.get? a = some (setO w)) : S3 w h a [] #[] 0 (.fresh 0 0 (!w.params.followText "set-order")) where
  ob := ⟨_, ho, ⟨rfl, rfl, rfl⟩, rfl⟩
  rows := rfl
  tab := ⟨List.Pairwise.nil, rfl, rfl, .inl rfl, fun x hx => (by cases hx), fun i h j hi => (by simp at hi)⟩
  tup := fun p hp => (by cases hp)
  plain := rfl
  led := by
    cases z : w.params.followText "set-order"
    · exact .inr rfl
    · exact .inl rfl
  msk := rfl
theorem S3.keep {h h' : Heap} {a : Addr} {L : List (Addr × WK)} {es : Array (Int × Value)} {ep : Nat} {t : SetTable} (R : S3 w h a L es ep t) (ha : ∀ o, h.get? a = some o → h'.get? a = some o) (ht : ∀ p ∈ L, IsW h' p.2 p.1 ∧ p.2 ∈ allK) : S3 w h' a L es ep t := by
  obtain ⟨o, ho, r⟩ := R.ob
  exact ⟨⟨o, ha o ho, r⟩, R.rows, R.tab, ht, R.plain, R.led, R.msk⟩
theorem S3.loop {I : Addr} {fp wr : List Addr} {G : Array GenState → Array GenState → Prop} {n : Nat} {Pv : Nat → Value → Prop} {St : Nat → Shared → Prop} {R : Result → Shared → Prop} (W : WalksS P w A.in1 I fp wr G n Pv St) (S : Addr) (sf : S ∉ fp) (ks : List (Addr × WK)) (hn : n = ks.length) (few : ks.length ≤ 3)
    (hval : ∀ i v, Pv i v → ∃ p, ks[i]? = some p ∧ v = .ref p.1) (h0 : Heap) (hk : ∀ p ∈ ks, IsW h0 p.2 p.1 ∧ p.2 ∈ allK) (s0 : h0.get? S = none) (w0 : ∀ b ∈ wr, h0.get? b = none) (hu : A.in1.units + 2 < cLine) :
    ∀ (k i : Nat) (s : Shared), n - i = k → i ≤ n → St i s → (∀ b o, h0.get? b = some o → s.heap.get? b = some o) → (∃ L es ep t, S3 w s.heap S L es ep t ∧ Mt ks i L) →
      (∀ s' L es ep t, Moved (S :: wr) G s s' → S3 w s'.heap S L es ep t → Mt ks n L → (∀ b o, h0.get? b = some o → s'.heap.get? b = some o) → R (.ok (.ret .none)) s') → codeAny (model P w) A (.builtin "set.update.loop" ⟨[.ref S, .ref I], []⟩) R s := by
  have sw : S ∉ wr := fun h => sf (W.sub _ h)
  have more : ∀ b ∈ wr, b ∈ S :: wr := fun b hb => List.mem_cons_of_mem _ hb
  have there : ∀ {s s' : Shared}, Moved wr G s s' → (∀ b o, h0.get? b = some o → s.heap.get? b = some o) → ∀ b o, h0.get? b = some o → s'.heap.get? b = some o := fun hm hkp b o e => hm.heap b o (fun hb => by rw [w0 b hb] at e; cases e) (hkp b o e)
  have tups : ∀ {h' : Heap} {L : List (Addr × WK)}, (∀ p ∈ L, p ∈ ks) → (∀ b o, h0.get? b = some o → h'.get? b = some o) → ∀ p ∈ L, IsW h' p.2 p.1 ∧ p.2 ∈ allK := fun sub k p hp => ⟨(hk p (sub p hp)).1.keep k, (hk p (sub p hp)).2⟩
  intro k
  induction k with
  | zero =>
    intro i s hk' hi st kp ⟨L, es, ep, t, hS, g⟩ hR
    have ei : i = n := by omega
    subst ei
    refine codeAny_builtin F.entry_set_update_loop ?_
    rw [Around.under_plainId F.plain_set_update_loop _]
    refine (show wpAny _ A.in1 (pyNext (.ref I) >>= _) _ _ s from wpAny_bind (W.done s _ _ st fun s' hm => ?_))
    have kp' := there hm kp
    exact (show wpAny _ A.in1 (ret Value.none) _ _ s' from wpAny_pure (hR s' L es ep t (hm.mono more) (hS.keep (fun o e => hm.heap S o sw e) (tups g.sub kp')) g kp'))
  | succ k ih =>
    intro i s hk' hi st kp ⟨L, es, ep, t, hS, g⟩ hR
    refine codeAny_builtin F.entry_set_update_loop ?_
    rw [Around.under_plainId F.plain_set_update_loop _]
    refine (show wpAny _ A.in1 (pyNext (.ref I) >>= _) _ _ s from wpAny_bind (W.item i s _ _ (by omega) st fun v s' hP st' hm => ?_))
    obtain ⟨p, hp, rfl⟩ := hval i v hP
    have kp' := there hm kp
    have hS' : S3 w s'.heap S L es ep t := hS.keep (fun o e => hm.heap S o sw e) (tups g.sub kp')
    have mp := List.mem_of_getElem? hp
    have xp : IsW s'.heap p.2 p.1 := (hk p mp).1.keep kp'
    refine (show wpAny _ A.in1 (holding [Value.ref p.1] (setAdd S (.ref p.1)) >>= _) _ _ s' from wpAny_bind (wpAny_holding ?_))
    unfold setAdd
    refine wpAny_holding (wpAny_bind (pyHash_key p.2.key (.ref p.1) _ _ _ xp (by rw [depth_key]; exact hu) ?_))
    rw [hash_key]
    have gl := g.len
    refine S3.add (s := { s' with toks := s'.toks + p.2.key.draws }) hS' (by omega) xp (hk p mp).2 hu fun b h' L' es' ep' t' sb hS2 c1 c2 => ?_
    have g' : Mt ks (i + 1) L' := g.next hp c1 c2
    have kp2 : ∀ b o, h0.get? b = some o → h'.get? b = some o := fun b o e => (sb.2 b (fun z => by rw [z, s0] at e; cases e)).trans (kp' b o e)
    refine wpAny_pure ⟨plainId_quiet F.plain_set_update_loop _, ih (i + 1) _ (by omega) (by omega) (W.frame _ s' _ _ st' (Nat.le_add_right _ _) fun b hb o e => (sb.2 b fun z => sf (by rw [← z]; exact hb)).trans e) kp2 ⟨L', es', ep', t', hS2, g'⟩ fun s2 L2 es2 ep2 t2 hm2 hS3 g2 kp3 => ?_⟩
    exact hR s2 L2 es2 ep2 t2 (Moved.trans W.gtrans ((hm.mono more).then_heap (Nat.le_add_right _ _) fun b o hb e => (sb.2 b fun z => hb (by rw [z]; exact List.mem_cons_self)).trans e) hm2) hS3 g2 kp3
set_option maxHeartbeats 3200000 in
theorem call_set_ways {l : Addr} {items : Array Value} (ks : List (Addr × WK)) {Q : Value → Shared → Prop} (hh : A.handled = none) (hl : s.heap.IsTuple l items) (hit : items.toList = ks.map fun p => Value.ref p.1) (hk : ∀ p ∈ ks, IsW s.heap p.2 p.1 ∧ p.2 ∈ allK) (few : ks.length ≤ 3) (hu : A.units + 8 < cLine)
    (h : ∀ (h' : Heap) (tk : Nat) L es ep t, S3 w h' s.heap.objs.size L es ep t → Mt ks ks.length L → (∀ b o, s.heap.get? b = some o → h'.get? b = some o) → Q (.ref s.heap.objs.size) { s with heap := h', toks := tk }) : wpAny (model P w) A (call (.type "set") [.ref l]) Q E s := by
  have sz : items.size = ks.length := by
    have q := congrArg List.length hit
    rw [Array.length_toList, List.length_map] at q
    exact q
  obtain ⟨c, tl, hmro⟩ := F.called_set.mro
  have hmade := F.called_set.made
  have hsub := F.called_set.sub
  refine wpAny_call (codeAny_of_tree (show wpAny _ _ (callAny (.type "set") _) _ _ _ from wpAny_pure ⟨Code.quiet_builtin _ (by decide +kernel), codeAny_builtin F.entry_type_call ?_⟩))
  rw [Around.under_plain (weight_type_call_type "set" [.ref l] []) rfl]
  have h1 := F.called_set.notType
  have h2 := F.called_set.canCreate
  have hct := F.typeCall_set_1 (.ref l)
  repeat any_goals first | assumption | wp_step
  refine codeAny_mono (code_set_led1 (.ref l) (E := E) (Q₁ := fun obj s1 => obj = .ref s.heap.objs.size ∧ s1 = { s with heap := s.heap.push (setO w) }) ⟨rfl, rfl⟩) fun r s1 hr => ?_
  cases r with
  | error e => exact hr
  | ok fl =>
    cases fl with
    | ret obj =>
      obtain ⟨rfl, rfl⟩ := hr
      have hS : (s.heap.push (setO w)).get? s.heap.objs.size = some (setO w) := Heap.get?_push_size _ rfl
      have hT : Shared.TypeIs { s with heap := s.heap.push (setO w) } (.ref s.heap.objs.size) "set" := ⟨_, hS, rfl⟩
      have hli := F.called_set.init.lookup
      have hbi := F.called_set.init.bind (.ref s.heap.objs.size)
      repeat any_goals first | assumption | wp_step
      refine codeAny_mono (codeAny_call_builtin (R := wants (fun r s2 => r = .none ∧ ∃ h' tk L es ep t, s2 = { s with heap := h', toks := tk } ∧ S3 w h' s.heap.objs.size L es ep t ∧ Mt ks ks.length L ∧ (∀ b o, s.heap.get? b = some o → h'.get? b = some o)) E) F.called_set.init.plain F.entry_set_init (check_set_init_1 hT ?_)) fun r2 s2 hr2 => ?_
      · obtain ⟨ol, hol, hcl, nl, hdl⟩ := hl
        obtain ⟨oc, od, odt, osl⟩ := ol
        simp only at hcl hdl
        subst hcl hdl
        have hol1 : (s.heap.push (setO w)).get? l = some { cls := .type "tuple", dict := od, data := .seq items nl, slots := osl } := Heap.get?_push_of_some _ hol
        have hs1 := F.sub_tuple_set
        have hs2 := F.sub_tuple_frozenset
        have hne : (Value.type "tuple" == Value.type "dict") = false := by decide
        have hl1 : (s.heap.push (setO w)).IsTuple l items := ⟨_, hol1, rfl, nl, rfl⟩
        unfold Builtin.«set.__init__» noKeywords Builtin.Frozenset.updateFrom
        generalize ePI : pyIter = PI
        wp_walk
        subst ePI
        refine wpAny_pyIter_tuple hl1 (wpAny_bind (wpAny_runValue ?_))
        have ls : l < s.heap.objs.size := Heap.lt_size hol
        have hh3 : A.in1.in1.in1.handled = none := by simp [hh]
        have z1 : (s.heap.push (setO w)).objs.size = s.heap.objs.size + 1 := Heap.size_push ..
        have nI : l ≠ (s.heap.push (setO w)).objs.size := by rw [z1]; exact Nat.ne_of_lt (Nat.lt_succ_of_lt ls)
        have nS : s.heap.objs.size ∉ [(s.heap.push (setO w)).objs.size, l] := by
          rw [z1]
          intro z
          rcases List.mem_cons.mp z with z | z
          · exact absurd z (Nat.ne_of_lt (Nat.lt_succ_self _))
          · exact absurd (List.mem_singleton.mp z) (Nat.ne_of_gt ls)
        have hval : ∀ (i : Nat) (v : Value), items[i]? = some v → ∃ p, ks[i]? = some p ∧ v = .ref p.1 := fun i v hv => by
          have q : items.toList[i]? = some v := by rw [Array.getElem?_toList]; exact hv
          rw [hit, List.getElem?_map] at q
          cases hq : ks[i]? with
          | none => rw [hq] at q; cases q
          | some p => rw [hq] at q; exact ⟨p, rfl, (Option.some.inj q).symm⟩
        have out : ∀ b, s.heap.objs.size ≤ b → s.heap.get? b = none := fun b hb => by
          cases q : s.heap.get? b with
          | none => rfl
          | some o => exact absurd (Nat.lt_of_lt_of_le (Heap.lt_size q) hb) (Nat.lt_irrefl _)
        refine S3.loop ((Walks.tuple hh3 _ l nI items).toS) s.heap.objs.size nS ks sz few hval s.heap hk (out _ (Nat.le_refl _)) (fun b hb => out b (by rw [List.mem_singleton.mp hb, z1]; exact Nat.le_succ _)) (by simp only [Around.in1_units]; omega) (items.size - 0) 0 _ (by omega) (Nat.zero_le _)
          ⟨⟨_, Heap.get?_push_size _ rfl, rfl, rfl⟩, (hl1.push _)⟩ (fun b o e => Heap.get?_push_of_some _ (Heap.get?_push_of_some _ e)) ⟨[], #[], 0, _, S3.fresh (Heap.get?_push_of_some _ hS), ⟨fun p h => (by cases h), .refl _, Nat.le_refl _⟩⟩ fun s' L es ep t hm hS' g' kp => ?_
        obtain ⟨h', g2, d', tk', os'⟩ := s'
        cases (show g2 = s.gens from hm.gens)
        cases (show d' = s.drawn from hm.drawn)
        cases (show os' = s.os from hm.os)
        refine (show wpAny _ _ _ _ _ _ from wpAny_pure (show wpAny _ _ (ret Value.none) _ _ _ from ?_))
        rw [sz] at g'
        exact wpAny_pure ⟨rfl, h', tk', L, es, ep, t, rfl, hS', g', kp⟩
      · cases r2 with
        | error e => exact hr2
        | ok fl2 =>
          cases fl2 with
          | ret r =>
            obtain ⟨rfl, h', tk, L, es, ep, t, rfl, hS', g', hk'⟩ := hr2
            repeat any_goals first | assumption | wp_step
            exact h _ _ _ _ _ _ hS' g' hk'
          | _ => exact hr2.elim
    | _ => exact hr.elim
end
end DL
namespace DL
open PySem PySem.Spec
open PyProof.Rows hiding St
open L2
def wayK : D → Option WK
  | .tup [.int m, .tup cs] => (match intsO cs with
    | some ns => if (m, ns) ∈ allK then some (m, ns) else none
    | none => none)
  | _ => none
def waysK : List D → Option (List WK)
  | [] => some []
  | d :: ds => match wayK d, waysK ds with
    | some k, some ks => some (k :: ks)
    | _, _ => none
def gLenSet : D → Option Wv
  | .tup ds => (match waysK ds with
    | some ks => if decide (ks.length ≤ 3) then some (.val (.int ((met ks).length : Nat))) else none
    | none => none)
  | _ => none
section
variable {X : Cx} {pins : List (Addr × Obj)} {σ : St} {G H : Hp} {s : Shared}
theorem nums_is {h : Heap} : ∀ {ns : List Int} {us : List Value}, Vals (ns.map V.int) us → NestedAll h (ns.map .num) us
  | [], _, .nil => .nil
  | n :: ns, _, .cons r rr => by
    obtain ⟨t, rfl⟩ := r
    exact .cons (.int n t) (nums_is rr)
theorem way_is (I : Inv X pins σ H s) (g : Sub G H) {x : V} {d : D} {k : WK} (q : Dat X.K G x d) (e : wayK d = some k) : ∃ a, x = .ref a ∧ IsW s.heap k a ∧ k ∈ allK := by
  unfold wayK at e
  split at e
  · rename_i m cs
    cases z : intsO cs with
    | none => rw [z] at e; cases e
    | some ns =>
      simp only [z] at e
      split at e
      · rename_i mem
        cases e
        cases q with
        | tup q r =>
          cases r with
          | cons r1 r2 =>
            cases r2 with
            | cons r2 r3 =>
              cases r3
              cases r1
              cases r2 with
              | tup p2 r2 =>
                rw [intsO_eq z] at r2
                have ex := r2.ints
                subst ex
                obtain ⟨its, v1, ⟨o1, e1, c1, n1, d1⟩, _⟩ := I.tuple (SqT.sub g q)
                obtain ⟨js, v2, ⟨o2, e2, c2, n2, d2⟩, _⟩ := I.tuple (SqT.sub g p2)
                refine ⟨_, rfl, .tup e1 c1 d1 ?_, mem⟩
                cases v1 with
                | cons w1 w2 =>
                  cases w2 with
                  | cons w2 w3 =>
                    cases w3
                    obtain ⟨t, rfl⟩ := w1
                    cases w2
                    exact .cons (.int m t) (.cons (.tup e2 c2 d2 (by simpa using nums_is v2)) .nil)
      · cases e
  · cases e
theorem ways_are (I : Inv X pins σ H s) (g : Sub G H) : ∀ {xs : List V} {ds : List D} {ks : List WK} {us : List Value}, Dats X.K G xs ds → waysK ds = some ks → Vals xs us →
    ∃ ps : List (Addr × WK), us = ps.map (fun p => Value.ref p.1) ∧ ps.map (·.2) = ks ∧ ∀ p ∈ ps, IsW s.heap p.2 p.1 ∧ p.2 ∈ allK
  | _, _, ks, _, .nil, e, .nil => by cases e; exact ⟨[], rfl, rfl, fun p h => (by cases h)⟩
  | _, d :: ds, ks, _, .cons q r, e, .cons v vs => by
    have e : (match wayK d, waysK ds with | some k, some ks => some (k :: ks) | _, _ => none) = some ks := e
    cases z1 : wayK d with
    | none => rw [z1] at e; cases e
    | some k =>
      cases z2 : waysK ds with
      | none => rw [z1, z2] at e; cases e
      | some ks2 =>
        rw [z1, z2] at e
        cases e
        obtain ⟨a, rfl, w1, w2⟩ := way_is I g q z1
        cases v
        obtain ⟨ps, rfl, rfl, w3⟩ := ways_are I g r z2 vs
        refine ⟨(a, k) :: ps, rfl, rfl, fun p hp => ?_⟩
        rcases List.mem_cons.mp hp with z | z
        · rw [z]; exact ⟨w1, w2⟩
        · exact w3 p z
end
section
variable {X : Cx} {T : List (Addr × Str)} {W : WX} {pos : Pos} {a : Expr} {fa : Ev Wv}
/-- len(set(x)), x a tuple of ways -/
def tLenW (K : PySem.W.Frag) (ta : TE) : TE := fun σ H Q => ta σ H fun x H1 => ∃ G p xs ds ks, x = V.ref p ∧ SqT K H1 p xs ∧ Sub G H1 ∧ Dats K G xs ds ∧ waysK ds = some ks ∧ ks.length ≤ 3 ∧ Q (.int ((met ks).length : Nat)) H1
theorem pe_lenW {ta : TE} {p p2 q : Pos} (hc : X.calm = true) (hu : X.A.units + 65 < cLine) (hg : Gl X "len") (hm : X.mg "len" = none) (hg2 : Gl X "set") (hm2 : X.mg "set" = none) (ha : PE X a ta) (na : starEach [a] X.env = (false, eval a X.env) :: starEach [] X.env := by rfl) :
    PE X (.Call (.Name "len" p) [.Call (.Name "set" p2) [a] [] q] [] pos) (tLenW X.K ta) := by
  refine ⟨fun pins s σ H Q I h => Call_ (ld_blt I hg hm PySem.boot_len ?_)⟩
  refine PyProof.Rows.callWith_builtin1 (PyProof.Rows.args_cons (Call_ (ld_blt I hg2 hm2 PyProof.Rows.boot_set ?_)) rfl) rfl rfl
  refine PyProof.Rows.callWith_type1 (PyProof.Rows.args_cons (thn (ha.run pins s σ H _ I h) fun v s1 ⟨x, H1, I1, r1, q1⟩ => PyProof.Rows.args_nil ?_) na) na rfl
  obtain ⟨G, l, xs, ds, ks, rfl, hq, g, r, ek, few, q1⟩ := q1
  cases r1
  obtain ⟨its, rv, pl, hz⟩ := I1.tuple hq
  obtain ⟨ps, e1, e2, e3⟩ := ways_are I1 g r ek rv
  have lp : ps.length = ks.length := by rw [← e2, List.length_map]
  refine call_set_ways ps (I1.ok.hd hc) pl (by simpa using e1) e3 (by rw [lp]; exact few) (by omega) fun h' tk L es ep t hS g2 hk => PyProof.Rows.args_nil ?_
  obtain ⟨o, ho, hex, hd⟩ := hS.ob
  have I2 : Inv X pins σ H1 { s1 with heap := h', toks := tk } := I1.kept hk
  have ez : es.size = (met ks).length := by
    rw [hS.size]
    have e := g2.perm.length_eq
    rw [List.length_map, List.take_length, e2] at e
    exact e
  have le : L.length ≤ 3 := Nat.le_trans g2.len (by rw [lp]; exact few)
  refine call_len_set ho hex hd (hS.fits le) (by rw [hS.size]; omega) ⟨.int ((met ks).length : Nat), H1, I2.tok _, ⟨_, by rw [ez]⟩, q1⟩
theorem de_lenW {p p2 q : Pos} (hc : X.calm = true) (hu : X.A.units + 65 < cLine) (hg : Gl X "len") (hm : X.mg "len" = none) (hg2 : Gl X "set") (hm2 : X.mg "set" = none) (ha : DE X T W a fa) (na : starEach [a] X.env = (false, eval a X.env) :: starEach [] X.env := by rfl) :
    DE X T W (.Call (.Name "len" p) [.Call (.Name "set" p2) [a] [] q] [] pos) (fUn gLenSet fa) := by
  refine PE.mono (pe_lenW hc hu hg hm hg2 hm2 ha na) fun σ H Q ⟨G, ρ, R, h⟩ => ?_
  refine tDE.mono (tR.bind R h) fun x H1 ⟨G1, ρ1, w, R1, s1, a1, h1⟩ => ?_
  cases e : look ρ1 w with
  | none => rw [e] at h1; exact h1.elim
  | some d =>
    simp only [e] at h1
    unfold gLenSet at h1
    split at h1
    · rename_i ds
      cases z : waysK ds with
      | none => simp only [z] at h1; exact (show False from h1).elim
      | some ks =>
        simp only [z] at h1
        split at h1
        · rename_i few
          obtain ⟨b, xs, rfl, q1, r1⟩ := rat_tup R1.gh (look_at R1 a1 e)
          exact ⟨G1, b, xs, ds, ks, rfl, q1, R1.gh, r1, z, of_decide_eq_true few, h1 _ G1 H1 R1 (EStp.refl R1) (.int _)⟩
        · exact (show False from h1).elim
    · exact h1.elim
end
end DL
namespace DL
open PySem PySem.Spec
open PyProof.Rows hiding St
open L2
/-! ### while an exception is handled -/
/-- the exception that is handled, of the class cls, stands in each state of the context -/
def HotK (cls : Value) (X : Cx) : Prop := ∀ (pins : List (Addr × Obj)) (σ : St) (H : Hp) (s : Shared), Inv X pins σ H s → ∃ (x1 : Addr) (o : Obj) (vs : Array Value), X.A.handled = some (.ref x1) ∧ s.heap.get? x1 = some o ∧ o.data = .fields vs ∧ vs[2]? = some .none ∧ H x1 = none ∧ x1 ∉ frs X.stack ∧ (∀ b, FpOk X pins H b → x1 ≠ b) ∧ o.cls = cls ∧ o.dict = none
section
variable {cls : Value} {X : Cx} {pins : List (Addr × Obj)} {σ : St} {H : Hp} {s : Shared}
theorem HotK.at (c : HotK cls X) (I : Inv X pins σ H s) : ∃ x1, HotX.HotAt X.A x1 s.heap ∧ ∀ b, FpOk X pins H b → x1 ≠ b := by
  obtain ⟨x1, o, vs, h1, h2, h3, h4, h5, h6, h7, h8⟩ := c _ _ _ _ I
  exact ⟨x1, ⟨h1, o, vs, h2, h3, h4⟩, h7⟩
section
variable {prog : Program} {w : World} {A : Around} {E : Value → Shared → Prop} {s : Shared}
theorem list_end_hot {it l x1 : Addr} {i : Nat} {items : Array Value} {Q : Option Value → Shared → Prop} (hot : HotX.HotAt A x1 s.heap) (hne : x1 ≠ it) (hit : s.heap.IsListIter it l i) (hl : s.heap.IsList l items) (hx : items[i]? = none)
    (hQ : ∀ h', (∀ b o, b ≠ it → s.heap.get? b = some o → h'.get? b = some o) → Q none { s with heap := h' }) : wpAny (model prog w) A (pyNext (.ref it)) Q E s := by
  obtain ⟨o, ho, hc, hd⟩ := id hit
  obtain ⟨ol, hol, _, nl, hdl⟩ := hl
  obtain ⟨hh, o1, vs1, e1, d1, c1⟩ := hot
  unfold pyNext
  refine wpAny_bind (wpAny_attempt (wpAny_callSpecial?_slot (name := Str.ofString "__next__") hit.typeIs slot_listiter_next (wpAny_call_entry slot_listiter_next hit.typeIs entry_listiter_next ?_ (args_listiter_next _))))
  refine (show wpAny _ _ (field (.ref it) 0 >>= _) _ _ s from wpAny_bind (wpAny_field ho hd (x := .ref l) rfl ?_))
  refine (show wpAny _ _ (if (Value.ref l == Value.none) = true then _ else _) _ _ s from ?_)
  rw [if_neg (show ¬ ((Value.ref l == Value.none) = true) from Bool.false_ne_true)]
  refine (show wpAny _ _ (field (.ref it) 1 >>= _) _ _ s from wpAny_bind (wpAny_field ho hd (x := .int i 0) rfl ?_))
  refine (show wpAny _ _ (seqItems? (.ref l) >>= _) _ _ s from wpAny_bind (wpAny_seqItems hol hdl ?_))
  simp only [Int.toNat_natCast, hx]
  refine wpAny_bind (wpAny_rule (wpAny_bind (wpAny_setField ho hd (by simp) ?_)))
  have sb : Heap.SameBut it s.heap (s.heap.update it (Obj.mapFields (·.setIfInBounds 0 Value.none))) := Heap.SameBut.update ..
  have f1 : (s.heap.update it (Obj.mapFields (·.setIfInBounds 0 Value.none))).get? x1 = some o1 := (sb.2 _ hne).trans e1
  generalize s.heap.update it (Obj.mapFields (·.setIfInBounds 0 Value.none)) = h1 at sb f1 ⊢
  refine (show wpAny _ _ (newExc (.type "StopIteration") [] >>= _) _ _ _ from wpAny_bind ?_)
  simp only [newExc, newTuple]
  refine wpAny_bind (wpAny_newObj_type (wpAny_bind (m := firstArgMember _ _) (wpAny_of_eq (a := Value.none) (by first | rfl | (simp only [firstArgMember]; rfl)) ?_)) (by size_fits))
  refine wpAny_newObj_type (HotX.raiseNew_hot ⟨hh, o1, vs1, Heap.get?_push_of_some _ (Heap.get?_push_of_some _ f1), d1, c1⟩ (Nat.ne_of_lt (Heap.lt_size (Heap.get?_push_of_some _ f1))) (Heap.get?_push_size _ rfl) rfl (by first | (simp; done) | (simp; omega) | (simp only [Array.size_append]; simp; omega)) ?_) (by size_fits)
  refine wpAny_bind (wpAny_isInstance (T := "StopIteration") (b := true) ⟨_, Heap.get?_update_self _ (Heap.get?_push_size _ rfl) rfl, rfl⟩ isSubtype_stop (wpAny_pure (hQ _ fun b ob hb e => ?_)))
  have g1 : h1.get? b = some ob := (sb.2 b hb).trans e
  rw [Heap.get?_update_other _ _ (Nat.ne_of_gt (Heap.lt_size (Heap.get?_push_of_some _ g1)))]
  exact Heap.get?_push_of_some _ (Heap.get?_push_of_some _ g1)
theorem tup_end_hot {it l x1 : Addr} {i : Nat} {items : Array Value} {Q : Option Value → Shared → Prop} (hot : HotX.HotAt A x1 s.heap) (hne : x1 ≠ it) (hit : s.heap.IsTupleIter it l i) (hl : s.heap.IsTuple l items) (hx : items[i]? = none)
    (hQ : ∀ h', (∀ b o, b ≠ it → s.heap.get? b = some o → h'.get? b = some o) → Q none { s with heap := h' }) : wpAny (model prog w) A (pyNext (.ref it)) Q E s := by
  obtain ⟨o, ho, hc, hd⟩ := id hit
  obtain ⟨ol, hol, _, nl, hdl⟩ := hl
  obtain ⟨hh, o1, vs1, e1, d1, c1⟩ := hot
  unfold pyNext
  refine wpAny_bind (wpAny_attempt (wpAny_callSpecial?_slot (name := Str.ofString "__next__") hit.typeIs F.slot_tuple_iterator_next (wpAny_call_entry F.slot_tuple_iterator_next hit.typeIs F.entry_tuple_iterator_next ?_ (F.args_tuple_iterator_next_1 _))))
  refine (show wpAny _ _ (field (.ref it) 0 >>= _) _ _ s from wpAny_bind (wpAny_field ho hd (x := .ref l) rfl ?_))
  refine (show wpAny _ _ (if (Value.ref l == Value.none) = true then _ else _) _ _ s from ?_)
  rw [if_neg (show ¬ ((Value.ref l == Value.none) = true) from Bool.false_ne_true)]
  refine (show wpAny _ _ (field (.ref it) 1 >>= _) _ _ s from wpAny_bind (wpAny_field ho hd (x := .int i 0) rfl ?_))
  refine (show wpAny _ _ (seqItems? (.ref l) >>= _) _ _ s from wpAny_bind (wpAny_seqItems hol hdl ?_))
  simp only [Int.toNat_natCast, hx]
  refine wpAny_bind (wpAny_rule (wpAny_bind (wpAny_setField ho hd (by simp) ?_)))
  have sb : Heap.SameBut it s.heap (s.heap.update it (Obj.mapFields (·.setIfInBounds 0 Value.none))) := Heap.SameBut.update ..
  have f1 : (s.heap.update it (Obj.mapFields (·.setIfInBounds 0 Value.none))).get? x1 = some o1 := (sb.2 _ hne).trans e1
  generalize s.heap.update it (Obj.mapFields (·.setIfInBounds 0 Value.none)) = h1 at sb f1 ⊢
  refine (show wpAny _ _ (newExc (.type "StopIteration") [] >>= _) _ _ _ from wpAny_bind ?_)
  simp only [newExc, newTuple]
  refine wpAny_bind (wpAny_newObj_type (wpAny_bind (m := firstArgMember _ _) (wpAny_of_eq (a := Value.none) (by first | rfl | (simp only [firstArgMember]; rfl)) ?_)) (by size_fits))
  refine wpAny_newObj_type (HotX.raiseNew_hot ⟨hh, o1, vs1, Heap.get?_push_of_some _ (Heap.get?_push_of_some _ f1), d1, c1⟩ (Nat.ne_of_lt (Heap.lt_size (Heap.get?_push_of_some _ f1))) (Heap.get?_push_size _ rfl) rfl (by first | (simp; done) | (simp; omega) | (simp only [Array.size_append]; simp; omega)) ?_) (by size_fits)
  refine wpAny_bind (wpAny_isInstance (T := "StopIteration") (b := true) ⟨_, Heap.get?_update_self _ (Heap.get?_push_size _ rfl) rfl, rfl⟩ isSubtype_stop (wpAny_pure (hQ _ fun b ob hb e => ?_)))
  have g1 : h1.get? b = some ob := (sb.2 b hb).trans e
  rw [Heap.get?_update_other _ _ (Nat.ne_of_gt (Heap.lt_size (Heap.get?_push_of_some _ g1)))]
  exact Heap.get?_push_of_some _ (Heap.get?_push_of_some _ g1)
theorem unpack_hot {t x1 : Addr} {items : Array Value} {targets : List (Bool × (Value → Sem Unit))} {Q : Unit → Shared → Prop} (hot : HotX.HotAt A x1 s.heap) (ht : s.heap.IsTuple t items) (hn : targets.length = items.size) (hs : targets.findIdx? (·.1) = none)
    (h : ∀ h', (∀ b o, s.heap.get? b = some o → h'.get? b = some o) → wpAny (model prog w) A (assignInOrder (targets.map (·.2)) items.toList) Q E { s with heap := h' }) : wpAny (model prog w) A (unpack (.ref t) targets) Q E s := by
  have lt : t ≠ s.heap.objs.size := by obtain ⟨o, ho, _⟩ := ht; exact Nat.ne_of_lt (Heap.lt_size ho)
  obtain ⟨hh, o1, vs1, e1, d1, c1⟩ := hot
  have lx : x1 ≠ s.heap.objs.size := Nat.ne_of_lt (Heap.lt_size e1)
  unfold unpack
  rw [hn, hs]
  refine wpAny_bind (wpAny_holding ?_)
  unfold unpackItems
  refine wpAny_bind ?_
  unfold notIterableAtAll
  refine wpAny_bind (wpAny_specialOf ht.typeIs F.slot_tuple_iter.lookup (wpAny_pure ?_))
  simp only [Bool.false_eq_true, if_false]
  refine wpAny_bind (wpAny_holding (wpAny_pyIter_tuple ht (wpAny_bind (wpAny_holding (wpAny_draw_tuple lt items.size 0 _ _ ⟨_, Heap.get?_push_size _ rfl, rfl, rfl⟩ (ht.push _) (by omega) fun h1 it1 sb1 => ?_)))))
  have all : List.take items.size (List.drop 0 items.toList) = items.toList := by rw [List.drop_zero]; exact List.take_of_length_le (by simp)
  have tup1 : h1.IsTuple t items := (ht.push _).extBut sb1.extBut lt
  rw [all, if_neg (by simp)]
  refine wpAny_bind (wpAny_holding (tup_end_hot ⟨hh, o1, vs1, (sb1.2 _ lx).trans (Heap.get?_push_of_some _ e1), d1, c1⟩ lx it1 tup1 (by simp) fun h2 k2 => ?_))
  simp only [Option.isSome_none, Bool.false_eq_true, if_false]
  exact wpAny_pure (h h2 fun b o e => k2 b o (Nat.ne_of_lt (Heap.lt_size e)) ((sb1.2 _ (Nat.ne_of_lt (Heap.lt_size e))).trans (Heap.get?_push_of_some _ e)))
end
/-- a, b = a tuple -/
theorem pg_tupH {es : List Expr} {k : Nat} {t : TGs} {n : Nat} {pos : Pos} {cls : Value} (hc : HotK cls X) (h : PGs X es t) (hn : (assignEach es X.env).length = n := by rfl) (hst : (assignEach es X.env).findIdx? (·.1) = none := by rfl) : PG X (.Tuple es k pos) (gTup X.K n t) := by
  refine ⟨fun pins s σ H v u Q I r ⟨a, xs, e1, hq, hl, hw⟩ => ?_⟩
  subst e1
  cases r
  obtain ⟨its, rv, ht, hz⟩ := I.tuple hq
  obtain ⟨x1, hot, _⟩ := hc.at I
  rw [arm_assign_Tuple]
  refine wpAny_bind (wpAny_standAt (unpack_hot hot ht (by simp [hn, ← hl, rv.length]) hst fun h' hx => ?_))
  exact h.run pins _ σ H xs _ Q (I.kept (t' := s.toks) hx) (by simpa using rv) hw
end
end DL
namespace DL
open PySem PySem.Spec
open PyProof.Rows hiding St
open L2
section
variable {X : Cx}
/-- the block's context bears it, too -/
theorem HotK.blk {cls : Value} (c : HotK cls X) {pins : List (Addr × Obj)} {σ : St} {H : Hp} {s : Shared} (I : Inv X pins σ H s) {scope : Scope} {cenv : Env} {fp : List Addr} (hf : ∀ b ∈ fp, FpOk X pins H b) : HotK cls (X.blk s H scope cenv fp) := by
  intro pins' σ' H' s' J
  obtain ⟨x1, o, vs, h1, h2, h3, h4, h5, h6, h7, h8⟩ := c _ _ _ _ I
  have nf : x1 ∉ fp := fun z => h7 x1 (hf x1 z) rfl
  refine ⟨x1, o, vs, h1, J.base.keep x1 o h2 h5 h6 nf, h3, h4, J.base.free x1 o h2 h5 nf, h6, fun b hb z => ?_, h8⟩
  subst z
  obtain ⟨_, _, _, f3, _, _⟩ := hb
  rcases f3 with f3 | f3
  · exact nf f3
  · exact absurd (Nat.lt_of_lt_of_le (Heap.lt_size h2) f3) (Nat.lt_irrefl _)
/-- [elt for tg in l if ..], l a list, while an exception is handled -/
theorem pe_lcH {elt tg iter : Expr} {ifs : List Expr} {scope : Scope} {own : List (Str × Nat)} {pos : Pos} {tl : TE} {g : TG} {tt : TT} {te : TE} {cls : Value} (hc : HotK cls X) (hN : X.N.Nodup) (hi : PE X iter tl) (ok : BlkOk X.N X.env.scope scope own)
    (hg : ∀ (s : Shared) (H : Hp) (C : Addr) (cl : List (Str × Addr)) (fp : List Addr), HotK cls (X.blk s H scope (compEnvC scope cl C X.env) fp) → PG (X.blk s H scope (compEnvC scope cl C X.env) fp) tg g)
    (ht : ∀ (s : Shared) (H : Hp) (C : Addr) (cl : List (Str × Addr)) (fp : List Addr), PTs (X.blk s H scope (compEnvC scope cl C X.env) fp) ifs tt)
    (he : ∀ (s : Shared) (H : Hp) (C : Addr) (cl : List (Str × Addr)) (fp : List Addr), PE (X.blk s H scope (compEnvC scope cl C X.env) fp) elt te) (hs : ∀ x, foldedSetIterable iter X.env x = pure x := by intro _; rfl) :
    PE X (.ListComp elt [⟨tg, iter, ifs, 0⟩] scope pos) (tLc (iList X.K tl) g tt te (own.map (·.2))) := by
  refine ⟨fun pins s σ H Q I h => ?_⟩
  rw [eval_ListComp]
  have fr : ∀ y ∈ scope.names, y.2 = .free → ∃ c, X.env.cells.lookup y.1 = some c := fun y hy e => (ok.free y hy e).elim (fun k => I.ok.has _ (.inl k)) fun k => I.ok.has _ (.inr k)
  refine wpAny_comprehension_free (use := none) rfl hs (closure_ok fr) ok.kind (fun y hy e => by rw [ok.uniq y hy, e]) (thn (hi.run pins s σ H _ I h) fun xv s1 ⟨x, H1, I1, r1, a, ex, ⟨xs, hq⟩, h⟩ => ?_)
  subst ex
  cases r1
  obtain ⟨its, rv, pl, hz⟩ := I1.list hq
  refine wpAny_pyIter_list pl.isList ?_
  generalize eit : s1.heap.objs.size = it
  have I2 : Inv X pins σ H1 { s1 with heap := s1.heap.push { cls := .type "list_iterator", data := .fields #[.ref a, .int 0 0] } } := I1.kept (t' := s1.toks) fun b o e => Heap.get?_push_of_some _ e
  have st2 : (s1.heap.push { cls := .type "list_iterator", data := .fields #[.ref a, .int 0 0] }).IsListIter it a 0 := ⟨_, by rw [← eit]; exact Heap.get?_push_size _ rfl, rfl, rfl⟩
  have f2 : FpOk X pins H1 it := I1.fpOk (Nat.le_of_eq eit) (I1.hok.fresh (Nat.le_of_eq eit))
  generalize es2 : ({ s1 with heap := s1.heap.push { cls := .type "list_iterator", data := .fields #[.ref a, .int 0 0] } } : Shared) = s2 at I2
  have st2 : s2.heap.IsListIter it a 0 := by rw [← es2]; exact st2
  refine wpAny_newObj_type (newEnv_comp ?_) (show 0 ≤ sizeLine from Nat.zero_le _)
  generalize eD : s2.heap.objs.size = D
  obtain ⟨W, ⟨m0, w0⟩, turn⟩ := h D (I2.hok.fresh (Nat.le_of_eq eD))
  generalize es3 : ({ s2 with heap := s2.heap.push { cls := .type "list", data := .seq ([] : List Value).toArray } } : Shared) = s3
  have I3 : Inv X pins σ (upd H1 D (.lst [])) s3 := by
    rw [← es3]
    refine I2.laid (t' := s2.toks) (fun b o e => Heap.get?_push_of_some _ e) (Nat.le_of_eq eD) ⟨Nat.zero_le _, [], 0, .nil, ?_⟩
    rw [← eD]
    exact Heap.get?_push_size _ rfl
  have lit : it < s2.heap.objs.size := by obtain ⟨o, e, _⟩ := st2; exact Heap.lt_size e
  have h3 : s3.heap = s2.heap.push { cls := .type "list", data := .seq ([] : List Value).toArray } := by rw [← es3]
  have f3 : ∀ b ∈ [it], FpOk X pins (upd H1 D (.lst [])) b ∧ b < s3.heap.objs.size := fun b hb => by
    rw [List.mem_singleton.mp hb]
    refine ⟨⟨?_, f2.2⟩, by rw [h3, Heap.size_push]; exact Nat.lt_succ_of_lt lit⟩
    rw [upd_ne (by rw [← eD]; exact Nat.ne_of_lt lit)]
    exact f2.1
  have st3 : s3.heap.IsListIter it a 0 := st2.at fun o e => by rw [h3]; exact Heap.get?_push_of_some _ e
  have I4 := block_start I3 ok hN f3
  have hot := hc.blk I3 (scope := scope) (cenv := compEnvC scope (cellsFrom (s3.heap.objs.size + 1) scope.names (cloFrom X.env.cells scope.names [])) s3.heap.objs.size X.env) fun b hb => (f3 b hb).1
  have pg := hg _ _ _ _ _ hot
  have pt := ht s3 (upd H1 D (.lst [])) s3.heap.objs.size (cellsFrom (s3.heap.objs.size + 1) scope.names (cloFrom X.env.cells scope.names [])) [it]
  have pe := he s3 (upd H1 D (.lst [])) s3.heap.objs.size (cellsFrom (s3.heap.objs.size + 1) scope.names (cloFrom X.env.cells scope.names [])) [it]
  have n3 : (upd H1 D (.lst [])) it = none := (f3 it List.mem_cons_self).1.1
  refine (show codeAny _ _ (.compStart (.ListComp elt [⟨tg, iter, ifs, 0⟩] scope pos) 0 (.ref it) (.ref D) (compEnvC scope (cellsFrom (s3.heap.objs.size + 1) scope.names (cloFrom X.env.cells scope.names [])) s3.heap.objs.size X.env)) (compPost (model X.prog X.w) X.A X.xe none _ (.ref D) s3.heap.objs.size) { s3 with heap := pushCells (s3.heap.push { cls := .type "dict", data := .dict #[] }) scope.names } from ?_)
  generalize ece : compEnvC scope (cellsFrom (s3.heap.objs.size + 1) scope.names (cloFrom X.env.cells scope.names [])) s3.heap.objs.size X.env = ce at I4 hot pg pt pe ⊢
  have cL : ce.locals = s3.heap.objs.size := by subst ece; rfl
  generalize upd H1 D (.lst []) = H3 at I3 I4 hot pg pt pe w0 n3 f3
  generalize es4 : ({ s3 with heap := pushCells (s3.heap.push { cls := .type "dict", data := .dict #[] }) scope.names } : Shared) = s4 at I4 ⊢
  have st4 : s4.heap.IsListIter it a 0 := st3.at fun o e => by rw [← es4]; exact pushCells_keeps _ _ _ _ (Heap.get?_push_of_some _ e)
  have stat : ∀ {σ' : St} {H' : Hp} {s' : Shared}, Inv (X.blk s3 H3 scope ce [it]) [] σ' H' s' → H' it = none → FpOk (X.blk s3 H3 scope ce [it]) [] H' it := fun {σ' H' s'} J n =>
    ⟨n, (J.ok.exf it List.mem_cons_self).1, J.ok.exfs it List.mem_cons_self, .inl List.mem_cons_self, fun x c e => (J.ok.exf it List.mem_cons_self).2 x c e, fun p hp => absurd (show p ∈ ([] : List (Addr × Obj)) ++ [] from hp) (by simp)⟩
  have loop : codeAny (model X.prog X.w) X.A (.compLoop (.ListComp elt [⟨tg, iter, ifs, 0⟩] scope pos) 0 (.ref it) (.ref D) ce) (compPost (model X.prog X.w) X.A X.xe none (EP X pins σ Q) (.ref D) s3.heap.objs.size) s4 := by
    refine compLoop_any (fun n s' => ∃ i H', Inv (X.blk s3 H3 scope ce [it]) [] (wipe σ (own.map (·.2))) H' s' ∧ s'.heap.IsListIter it a i ∧ H' it = none ∧ W i n H') (fun n s5 ⟨i, H5, I5, st5, n5, w5⟩ => ?_) m0 ⟨0, H3, I4, st4, n3, w0⟩
    obtain ⟨f0, f1, f2', f4, f5, f6⟩ := stat I5 n5
    rcases turn i n H5 w5 with ⟨⟨ys, hy, hlen⟩, qq⟩ | ⟨⟨ys, y, hy, hyi⟩, Nx, hNx, step⟩
    · obtain ⟨js, rvj, pj, zj⟩ := I5.list hy
      obtain ⟨x1, hat, nf⟩ := hot.at I5
      have nx : x1 ≠ it := nf it (stat I5 n5)
      have lj := rvj.length
      refine list_end_hot hat nx st5 pj.isList (by simp; omega) fun h6 k6 => ?_
      have I6 : Inv (X.blk s3 H3 scope ce [it]) [] (wipe σ (own.map (·.2))) H5 { s5 with heap := h6 } := I5.turned (t' := s5.toks) (fun b o hb e => k6 b o hb e) f0 f1 f4 f5 f6
      have I7 : Inv X pins σ H5 { s5 with heap := h6 } := I3.call' (ch := [it]) I6.os I6.base I6.hok I6.bare fun b hb => ⟨(f3 b hb).1.2.2.2.1, (f3 b hb).1.2.1, (f3 b hb).1.2.2.2.2.1, (f3 b hb).1.2.2.2.2.2⟩
      have nC : H5 s3.heap.objs.size = none := by
        have z : H5 ce.locals = none := I6.free
        rw [cL] at z
        exact z
      obtain ⟨m, hn, _⟩ := I6.loc
      have hn : h6.Ns ce.locals m := hn
      rw [cL] at hn
      obtain ⟨g0, g1, g2, g3, g4, g5⟩ := I3.fpOk (H' := H5) (Nat.le_refl _) nC
      exact ⟨m, hn, fun h7 sb => ⟨.ref D, H5, I7.turned (t' := s5.toks) (fun b o hb e => (sb.2 b hb).trans e) g0 g1 g3 g4 g5, rfl, qq⟩⟩
    · obtain ⟨js, rvj, pj, zj⟩ := I5.list hy
      obtain ⟨u, hu, ru⟩ := rvj.get hyi
      refine wpAny_pyNext_list_item st5 pj.isList (x := u) (by simpa using hu) fun h6 st6 sb => ?_
      have I6 : Inv (X.blk s3 H3 scope ce [it]) [] (wipe σ (own.map (·.2))) H5 { s5 with heap := h6 } := I5.turned (t' := s5.toks) (fun b o hb e => (sb.2 b hb).trans e) f0 f1 f4 f5 f6
      obtain ⟨oi, ei, ci, di⟩ := id st6
      refine go_of (s := { s5 with heap := h6 }) ei ci di (by decide) ?_
      have I7 := I6.pinned (fp := [it]) (fun b hb => by rw [List.mem_singleton.mp hb]; exact stat I6 n5) fun b hb => ⟨oi, by rw [List.mem_singleton.mp hb]; exact ei, fun v z => by rw [di] at z; cases z⟩
      refine thnF (pg.run _ _ _ H5 y u _ I7 ru (step y H5 ⟨rfl, fun zs hz => by rw [I5.list_inj hz hy]; exact hyi⟩)) fun _ s8 ⟨σ8, H8, I8, hw8, q8⟩ => ?_
      refine thnF (pt.run _ s8 σ8 H8 _ I8 q8) fun b s9 ⟨H9, I9, q9⟩ => ?_
      have fin : ∀ {s' : Shared} {H' : Hp}, Inv (X.blk s3 H3 scope ce [it]) ([] ++ pinsAt [it] h6) σ8 H' s' → Nx H' → ∃ m, m < n ∧ ∃ i H', Inv (X.blk s3 H3 scope ce [it]) [] (wipe σ (own.map (·.2))) H' s' ∧ s'.heap.IsListIter it a i ∧ H' it = none ∧ W i m H' := fun {s' H'} J nx => by
        obtain ⟨m', hm, w'⟩ := hNx H' nx
        have pin' := J.pin (it, oi) (List.mem_append_right _ (List.mem_append_right _ (mem_pinsAt List.mem_cons_self ei)))
        have hl : (wipe σ (own.map (·.2))).length = σ8.length := by rw [← hw8, wipe_length]
        refine ⟨m', hm, i + 1, H', (J.unpinned (pins := [])).weak hl (fun j v e => ?_), ⟨oi, pin'.1, ci, di⟩, pin'.2.1, w'⟩
        rw [← hw8] at e
        exact (wipe_some e).1
      cases b with
      | false =>
        simp only [Bool.false_eq_true, if_false] at q9 ⊢
        exact fin I9 q9
      | true =>
        simp only [if_true] at q9 ⊢
        exact thnF (pe.run _ s9 σ8 H9 _ I9 q9) fun z s10 ⟨yv, H10, I10, r10, acc, hD10, hz10, nx⟩ => app_ok (X := X.blk s3 H3 scope ce [it]) I10 hD10 hz10 r10 fun s11 I11 => fin I11 nx
  exact codeAny_compStart_list loop (wpAny_pyIter_listiter st4 loop)
end
end DL
namespace DL
open PySem PySem.Spec
open PyProof.Rows hiding St
open L2
open LamX (CodeO Tabs TabB LamS lamEnv ExtN)
/-! ### a lambda handed to a def; what it raises has no context -/
/-- the context of the lambda's body -/
abbrev lamN (X : Cx) (A : Around) (outer : List Env) (s : Shared) (H : Hp) (E : XK) (scope : Scope) (f c' : Addr) : Cx :=
  (LamX.lamCx X A outer s H E scope f c').wish fun e s' => wpAny (model X.prog X.w) (A.deeper (lamEnv X scope s.heap.objs.size f c')) (leaving (lamEnv X scope s.heap.objs.size f c') e) (fun _ s2 => L2N.CX X.prog X.w outer H s E e s2) (fun e2 s2 => L2N.CX X.prog X.w outer H s E e2 s2) s'
section
variable {X : Cx} {pins : List (Addr × Obj)} {σ : L2.St} {H HZ : Hp} {s s1 : Shared}
/-- a() in the def that got the lambda -/
theorem pe_actN {CXg : CXT} {Eg : XK} {Ng : List Str} {qg : Str} {sg : Scope} {g f c' : Addr} {cdg pm ctv : Value} {params : Arguments} {body : Expr} {scope : Scope} {k i : Nat} {a : Str} {pn : List (Addr × Obj)} {xe : Value → Shared → Prop} {W : WX} {E : XK} {tb : TE} {p1 p2 : Pos} (I : Inv X pins σ H s) (L : LamS X.env.scope scope)
    (hf : s.heap.get? f = some (PySem.W.kla_obj "<lambda>" (X.env.qual ++ "<lambda>") params body scope (cloFrom X.env.cells scope.names []) pm c' ctv)) (hfn : H f = none) (hfr : f ∉ frs X.stack) (hbind : bindArgs (PySem.W.kla_fn "<lambda>" (X.env.qual ++ "<lambda>") params body scope (cloFrom X.env.cells scope.names []) pm (.ref c') ctv) ⟨[], []⟩ = pure [])
    (tk : L2N.Takes ((cxOf CXg X.prog X.w X.K X.mg X.base Ng qg sg g cdg X.A X.stack s H Eg).tr pn xe) W) (hW : ∀ cls d σ' H', E cls d H' → W cls d σ' H') (hr : Room (k + 1) (X.A.deeper (envOfC qg sg s.heap.objs.size g cdg)))
    (hbody : ∀ (A : Around) (outer : List Env) (s : Shared) (H : Hp), Room k (A.deeper (lamEnv X scope s.heap.objs.size f c')) → PE (lamN X A outer s H E scope f c') body tb) (hN : Ng[i]? = some a) (hv : Vis sg a) (hd : (a == ("__debug__" : Str)) = false := by decide) (hcd : (a == ("__classdict__" : Str)) = false := by decide) :
    PE ((cxOf CXg X.prog X.w X.K X.mg X.base Ng qg sg g cdg X.A X.stack s H Eg).tr pn xe) (.Call (.Name a p1) [] [] p2) (fun σZ HZ Q => σZ[i]? = some (some (.ref f)) ∧ HZ c' = some (CodeO c' (X.env.qual ++ "<lambda>")) ∧ tb σ HZ Q) := by
  refine ⟨fun pz sZ σZ HZ Q IZ ⟨hs, hc, ht⟩ => wpAny_Call_Name_kw (thn ((pe_var (pos := p1) (i := i) hN hv hd hcd).run pz sZ σZ HZ (fun v H1 => v = .ref f ∧ H1 = HZ) IZ ⟨.ref f, hs, rfl, rfl⟩) fun u s1 ⟨v, H1, I1, r1, ev, eH⟩ => ?_)⟩
  subst ev
  rw [eH] at I1
  cases (show u = Value.ref f from r1)
  have of1 := I1.base.keep f _ hf hfn hfr (fun z => nomatch (show f ∈ ([] : List Addr) from z))
  refine PySem.W.callWith_F0 ⟨_, _, _, _, of1⟩ ?_
  have un : Un (frs X.stack) [] H HZ s.heap s1.heap := I1.base
  obtain ⟨⟨oc, vs, t, hoc, hdc, hvc⟩, _, _⟩ := I1.hok c' _ hc
  have rc : codeAny (model X.prog X.w) (X.A.deeper (envOfC qg sg s.heap.objs.size g cdg)) (.call (.ref f) ⟨[], []⟩) (CR (L2N.CX X.prog X.w) (envOfC qg sg s.heap.objs.size g cdg :: X.stack) X.prog X.w HZ s1 Q E) s1 := by
    refine PySem.W.kla_callFunE hr.depth of1 rfl L.co L.gen rfl ⟨c', oc, vs, t, rfl, hoc, hdc, hvc⟩ ?_
    rw [hbind]
    refine wpAny_pure (wpAny_newFunctionEnv (fun y hy => (L.own y hy).2) (fun y hy => absurd hy (by simp)) (fun h1 hns sb => ⟨I1.nolimit.fresh _ sb, show codeAny _ _ (.expr body (lamEnv X scope s1.heap.objs.size f c')) _ _ from ?_⟩) L.kind)
    have kp : ∀ b o, s1.heap.get? b = some o → h1.get? b = some o := fun b o e => sb.extBut b o (Nat.ne_of_lt (Heap.lt_size e)) (Heap.get?_push_of_some _ e)
    have J := LamX.lam_start2 (A := X.A.deeper (envOfC qg sg s.heap.objs.size g cdg)) (outer := envOfC qg sg s.heap.objs.size g cdg :: X.stack) (E := E) (f := f) (c' := c') (tk := s1.toks + ([] : List (Str × Value)).length) I L I1.env0 hr.hd un hns kp
    exact PySem.W.kla_codeExpr (wpAny_mono ((hbody _ _ s1 HZ (hr.deeper _)).run [] _ _ HZ Q (J.wish _) ht) (fun v s2 ⟨w', H', J', rv, q⟩ => ⟨w', H', J'.os, J'.bare, J'.base, J'.hok, rv, q⟩) fun e s2 q => q)
  refine wpAny_call (codeAny_mono rc fun r s2 hq => ?_)
  cases r with
  | error e => exact L2N.passes_call tk hW pz σZ HZ s1 e s2 I1 hq
  | ok fl =>
    cases fl with
    | ret u => exact I1.after hq
    | next => exact False.elim hq
    | brk => exact False.elim hq
    | cont => exact False.elim hq
/-- what the making of a lambda changes: the table at P alone, and a new object -/
structure LamH (P : Addr) (H H1 : Hp) : Prop where
  keep : ∀ b o, b ≠ P → H b = some o → H1 b = some o
  back : ∀ b, H1 b = none → H b = none
theorem lam_make3 {T : List (Addr × Str)} {c P : Addr} {params : Arguments} {body : Expr} {scope : Scope} {pos : Pos} {E Q : Value → Shared → Prop} (I : Inv X pins σ H s) (TB : TabB X.base X.mg c P) (hcode : X.env.code = .ref c) (hm : (P, X.env.qual ++ "<lambda>") ∈ T)
    (hu : ∀ p ∈ T, p.1 = P → p.2 = X.env.qual ++ "<lambda>") (hT : Tabs T H) (hdef : defaultsOf params X.env = ([], [])) (fr : ∀ y ∈ scope.names, y.2 = .free → ∃ c, X.env.cells.lookup y.1 = some c)
    (h : ∀ (f c' : Addr) (pm ctv : Value) (H1 : Hp) (s' : Shared), Inv X pins σ H1 s' → LamH P H H1 → Tabs T H1 → s'.heap.get? f = some (PySem.W.kla_obj "<lambda>" (X.env.qual ++ "<lambda>") params body scope (cloFrom X.env.cells scope.names []) pm c' ctv) →
      H1 f = none → f ∉ frs X.stack → H1 c' = some (CodeO c' (X.env.qual ++ "<lambda>")) → Q (.ref f) s') : wpAny (model X.prog X.w) X.A (eval (.Lambda params body scope pos) X.env) Q E s := by
  obtain ⟨ps, hP, tri, all⟩ := hT _ hm
  have get := I.hok P _ hP
  have bP : s.heap.BuiltinsAt X.mg P := TB.bm.keeps I.bk
  have nfr : ∀ f, s.heap.objs.size ≤ f → f ∉ frs X.stack := fun f hf z => (List.mem_cons.mp (I.stkSub _ z)).elim (fun e => Nat.lt_irrefl _ (Nat.lt_of_lt_of_le (e ▸ I.lt) hf)) fun e => I.nofs hf e
  refine PySem.W.kla_eval hdef ?_
  cases hc : codeAmong pos ps.toList with
  | some cv =>
    obtain ⟨c', rfl, hco⟩ := all pos cv hc
    refine PySem.W.kla_makeFunctionHit (mg := X.mg) (c := c) (P := P) (ps := ps) (closure_ok fr) I.ok.glob (I.mod.glob.keeps I.bk) hcode (TB.code.keeps I.bk) get tri hc bP fun ctv h' tk hx hz => ?_
    refine h h'.objs.size c' _ ctv H _ (I.kept (t' := tk) fun b o e => Heap.get?_push_of_some _ (hx b o e)) ⟨fun _ _ _ e => e, fun _ e => e⟩ hT (Heap.get?_push_size _ rfl) (I.hok.fresh hz) (nfr _ hz) hco
  | none =>
    refine PySem.W.kla_makeFunction (mg := X.mg) (c := c) (P := P) (ps := ps) (closure_ok fr) I.ok.glob (I.mod.glob.keeps I.bk) hcode (TB.code.keeps I.bk) get tri hc TB.gP bP fun c' ctv h' tk hx hge hlt hrec htb => ?_
    obtain ⟨c2, oc, vs, t, e2, hoc, hd, hv⟩ := hrec
    cases e2
    have hz : s.heap.objs.size ≤ h'.objs.size := Nat.le_trans hge (Nat.le_of_lt hlt)
    have nC : H c' = none := I.hok.fresh hge
    have nPc : P ≠ c' := ne_of_none hP nC
    have I1 := LamX.inv_table (t' := tk) (more := #[rawInt pos.line, rawInt pos.col, .ref c']) (h' := h'.push (PySem.W.kla_obj "<lambda>" (X.env.qual ++ "<lambda>") params body scope (cloFrom X.env.cells scope.names []) ((X.mg "__name__").getD .none) c' ctv)) I hP
      (fun b o hb e => Heap.get?_push_of_some _ (hx b o hb e)) (Heap.get?_push_of_some _ htb) hge ⟨oc, vs, t, Heap.get?_push_of_some _ hoc, hd, hv⟩
    have lh : LamH P H (upd (upd H P (.tbl (ps ++ #[rawInt pos.line, rawInt pos.col, .ref c']))) c' (CodeO c' (X.env.qual ++ "<lambda>"))) := by
      refine ⟨fun b o nb e => by rw [upd_ne (ne_of_none e nC), upd_ne nb]; exact e, fun b e => ?_⟩
      by_cases z : b = c'
      · rw [z]; exact nC
      · rw [upd_ne z] at e
        by_cases y : b = P
        · rw [y, upd_same] at e; cases e
        · rw [upd_ne y] at e; exact e
    have el : (ps ++ #[rawInt pos.line, rawInt pos.col, .ref c']).toList = ps.toList ++ [rawInt pos.line, rawInt pos.col, .ref c'] := by simp
    have n1 : h'.objs.size ≠ c' := Nat.ne_of_gt hlt
    have n2 : h'.objs.size ≠ P := Nat.ne_of_gt (Nat.lt_of_lt_of_le (Heap.lt_size get) hz)
    refine h h'.objs.size c' ((X.mg "__name__").getD .none) ctv _ _ I1 lh (fun p hp => ?_) (Heap.get?_push_size _ rfl) (by rw [upd_ne n1, upd_ne n2]; exact I.hok.fresh hz) (nfr _ hz) upd_same
    by_cases hb : p.1 = P
    · rw [hu p hp hb, hb]
      refine ⟨_, by rw [upd_ne nPc, upd_same], by rw [el]; exact PySem.TriplesOk_snoc _ _ _ _ tri, fun p' cv hcv => ?_⟩
      rw [el] at hcv
      rcases LamX.among_app _ tri hcv with z | z
      · obtain ⟨c0, e1, e2⟩ := all p' cv z
        exact ⟨c0, e1, lh.keep _ _ (fun y => by rw [y, hP] at e2; unfold CodeO at e2; cases e2) e2⟩
      · exact ⟨c', z, upd_same⟩
    · obtain ⟨qs, a1, a2, a3⟩ := hT p hp
      refine ⟨qs, lh.keep _ _ hb a1, a2, fun p' cv hcv => ?_⟩
      obtain ⟨c0, e1, e2⟩ := a3 p' cv hcv
      exact ⟨c0, e1, lh.keep _ _ (fun y => by rw [y, hP] at e2; unfold CodeO at e2; cases e2) e2⟩
def tLamN (T : List (Addr × Str)) (P : Addr) (TT : (XK → Hp → VK → Prop) → Hp → VK → Prop) (t : XK → TE) : TE := fun σ H Q => Tabs T H ∧ ∀ H1, LamH P H H1 → Tabs T H1 → TT (fun E H' Q' => t E σ H' Q') H1 Q
/-- the def that calls what it got -/
def GivesN (X : Cx) (Ng : List Str) (x : Str) (sg : Scope) (g : Addr) (cdg : Value) (bg : List Stmt) (a q : Str) (TT : (XK → Hp → VK → Prop) → Hp → VK → Prop) : Prop :=
  ∀ (f c' : Addr) (s : Shared) (H : Hp) (Q : VK) (tl : XK → Hp → VK → Prop), Room 3 (X.A.deeper (envOfC x sg s.heap.objs.size g cdg)) →
    (∀ (W : WX) (pn : List (Addr × Obj)) (xe : Value → Shared → Prop) (E : XK) (p1 p2 : Pos), L2N.Takes ((cxOf C8.CX0 X.prog X.w X.K X.mg X.base Ng x sg g cdg X.A X.stack s H C8.E0).tr pn xe) W → (∀ cls d σ' H', E cls d H' → W cls d σ' H') →
      PE ((cxOf C8.CX0 X.prog X.w X.K X.mg X.base Ng x sg g cdg X.A X.stack s H C8.E0).tr pn xe) (.Call (.Name a p1) [] [] p2) (fun σZ HZ Q => σZ[0]? = some (some (.ref f)) ∧ HZ c' = some (CodeO c' q) ∧ tl E HZ Q)) →
    H c' = some (CodeO c' q) → TT tl H Q →
    ∃ t, PSs (cxOf C8.CX0 X.prog X.w X.K X.mg X.base Ng x sg g cdg X.A X.stack s H C8.E0).nox bg t ∧ t { nx := fun _ H' => Q .non H', rt := Q } (L2.start Ng [.ref f]) H
/-- x(lambda: body) -/
theorem pe_lamN {T : List (Addr × Str)} {TT : (XK → Hp → VK → Prop) → Hp → VK → Prop} {x a : Str} {g c P : Addr} {k : Nat} {pg : Arguments} {bg : List Stmt} {sg : Scope} {fd : FuncData} {Ng : List Str} {params : Arguments} {body : Expr} {scope : Scope} {t : XK → TE} {p lpos pos : Pos} (hg : Gl X x) (hm : X.mg x = some (.ref g)) (Fg : FunD X.K x x pg bg sg [] [] g fd)
    (hb : L2.Binds X.K fd [a] []) (Sg : FnScope Ng [a] sg) (hNg : Ng[0]? = some a) (hva : Vis sg a) (hG : ∀ cdv, GivesN X Ng x sg g cdv bg a (X.env.qual ++ "<lambda>") TT) (TB : TabB X.base X.mg c P) (hcode : X.env.code = .ref c) (hmT : (P, X.env.qual ++ "<lambda>") ∈ T) (hu : ∀ p ∈ T, p.1 = P → p.2 = X.env.qual ++ "<lambda>")
    (hr : Room (k + 4) X.A) (L : LamS X.env.scope scope) (hdef : defaultsOf params X.env = ([], [])) (hbind : ∀ (q : Str) (cl : List (Str × Addr)) (pm cv ctv : Value), bindArgs (PySem.W.kla_fn "<lambda>" q params body scope cl pm cv ctv) ⟨[], []⟩ = pure [])
    (hbody : ∀ (A : Around) (outer : List Env) (s : Shared) (H : Hp) (E : XK) (f c' : Addr), Room k (A.deeper (lamEnv X scope s.heap.objs.size f c')) → PE (lamN X A outer s H E scope f c') body (t E))
    (hdb : (x == ("__debug__" : Str)) = false := by decide) (hd : (a == ("__debug__" : Str)) = false := by decide) (hcd : (a == ("__classdict__" : Str)) = false := by decide) : PE X (.Call (.Name x p) [.Lambda params body scope lpos] [] pos) (tLamN T P TT t) := by
  obtain ⟨oc, od, dV, kV, doc, pm, an, cdv, ct, osl, rfl, lk, hcg, _, _⟩ := Fg.ex
  refine ⟨fun pins s σ H Q I ⟨hT, h⟩ => wpAny_Call_Name_kw (ld_glob I hg hm ?_ hdb)⟩
  refine PySem.W.callWith_K (h₀ := X.base) I.ok.mod.kin Fg.kp ?_ (by rfl) (by rfl)
  refine (show wpAny _ _ (spliced ((false, eval (.Lambda params body scope lpos) X.env) :: backTo pos (starEach [] X.env))) _ _ s from Calls.spliced_cons (lam_make3 I TB hcode hmT hu hT hdef (L.has I.ok) fun f c' pm' ctv H1 s' I1 eN T1 hf hfn hfr hco => Calls.spliced_nil ⟨I1.kIn, ?_⟩))
  have rc : codeAny (model X.prog X.w) X.A (.call (.ref g) ⟨[.ref f], []⟩) (CR C8.CX0 X.stack X.prog X.w H1 s' Q C8.E0) s' := by
    refine LamX.run_ofS (N := Ng) (ps := [a]) (us := [.ref f]) (vs := [.ref f]) (k := k + 3) lk hcg Sg hr I1.env0 (hb s' [.ref f] I1.kIn rfl) (.cons rfl .nil) rfl fun hr' => ?_
    obtain ⟨t', ht', hq'⟩ := hG cdv f c' s' H1 Q (fun E H' Q' => t E σ H' Q') (hr'.mono (by omega)) (fun W pn xe E p1 p2 tk hW => pe_actN (i := 0) I1 L hf hfn hfr (hbind _ _ _ _ _) tk hW (hr'.mono (by omega)) (fun A outer s H hr2 => hbody A outer s H E f c' hr2) hNg hva hd hcd) hco (h H1 eN T1)
    exact ⟨t', ht'.nox, hq'⟩
  refine wpAny_call (codeAny_mono rc fun r s2 hq => ?_)
  cases r with
  | error e => exact (show False from hq).elim
  | ok fl =>
    cases fl with
    | ret u => exact I1.after hq
    | next => exact False.elim hq
    | brk => exact False.elim hq
    | cont => exact False.elim hq
end
end DL
namespace DL
open PySem PySem.Spec
open PyProof.Rows hiding St
open L2
open LamX (CodeO Tabs TabB LamS lamEnv)
section
variable {K : PySem.W.Frag} {T : List (Addr × Str)} {σ : St} {ρ ρ1 : En} {G G1 H H1 : Hp}
/-- nothing that is there changes, but for tables -/
theorem SR.move (R : SR K T G H σ ρ) (gg : Sub G G1) (gf : ∀ a, G a = none → G1 a ≠ none → H a = none) (fr : ∀ a o, H a = some o → (∀ p ∈ T, p.1 ≠ a) → H1 a = some o) (al : ∀ a, H1 a = none → H a = none) (gh : Sub G1 H1) (tab : Tabs T H1) (gt : ∀ p ∈ T, G1 p.1 = none) :
    SR K T G1 H1 σ ρ ∧ EStp T σ ρ G H ρ G1 H1 := by
  have gn : ∀ {a : Addr}, Own σ ρ a → G1 a = none := fun {a} z => by
    obtain ⟨g, u, hu, _⟩ := R.og z
    cases e : G1 a with
    | none => rfl
    | some x =>
      have q := gf a g (by rw [e]; simp)
      rw [q] at hu; cases hu
  refine ⟨⟨R.len, fun i x hx => ?_, R.ap, gh, tab, gt⟩, ⟨⟨gg, fun a h h' => .inl (gf a h h'), fun a o e n _ => fr a o e n, al, fun a h => .inl h, fun i o h => ⟨⟨o, h⟩, rfl⟩, fun i o a h h' => gn ⟨i, h', _, _, h, rfl⟩⟩, fun i x h h' => ⟨x, h, h'⟩, fun i x o h h' => ⟨x, o, h, h'⟩⟩⟩
  obtain ⟨y, h1, h2⟩ := R.at_ i x hx
  refine ⟨y, h1, h2.mov gg fun a e hs => ?_⟩
  have ho : Own σ ρ a := by
    cases z : x.held with
    | none => rw [z] at hs; cases hs
    | some o => exact ⟨i, by rw [h1, e], x, o, hx, z⟩
  exact ⟨gn ho, fun u e => fr a u e (R.nt ho)⟩
theorem SR.lam (R : SR K T G H σ ρ) {P : Addr} {q : Str} (hm : (P, q) ∈ T) (lh : LamH P H H1) (tab : Tabs T H1) : SR K T G H1 σ ρ ∧ EStp T σ ρ G H ρ G H1 := by
  have gp := R.gt _ hm
  exact R.move (Sub.refl G) (fun a h h' => (h' h).elim) (fun a o e n => lh.keep a o (fun z => n _ hm z.symm) e) lh.back (fun a o e => lh.keep a o (fun z => by rw [z] at e; have z2 := e.symm.trans gp; cases z2) (R.gh a o e)) tab R.gt
/-- what a lambda is told of the slots -/
def maskS : Sl → Sl
  | .val d => .val d
  | _ => .emp
def mask (ρ : En) : En := ρ.map maskS
theorem mask_at {i : Nat} {x : Sl} (h : (mask ρ)[i]? = some x) : ∃ y, ρ[i]? = some y ∧ x = maskS y := by
  unfold mask at h
  rw [List.getElem?_map] at h
  cases e : ρ[i]? with
  | none => rw [e] at h; cases h
  | some y => rw [e] at h; exact ⟨y, rfl, (Option.some.inj h).symm⟩
theorem mask_own {a : Addr} (h : Own σ (mask ρ) a) : False := by
  obtain ⟨i, h1, x, o, h2, h3⟩ := h
  obtain ⟨y, h4, rfl⟩ := mask_at h2
  cases y <;> cases h3
theorem SR.mask (R : SR K T G H σ ρ) : SR K T G H σ (mask ρ) where
  len := by unfold DL.mask; rw [List.length_map]; exact R.len
  at_ := fun i x h => by
    obtain ⟨y, h1, rfl⟩ := mask_at h
    obtain ⟨v, h2, h3⟩ := R.at_ i y h1
    refine ⟨v, h2, ?_⟩
    cases y with
    | val d => exact h3
    | own o => exact trivial
    | io o => exact trivial
    | emp => exact trivial
  ap := fun i j a c1 _ => (mask_own ⟨i, c1⟩).elim
  gh := R.gh
  tab := R.tab
  gt := R.gt
theorem SR.unmask (R : SR K T G H σ ρ) (R1 : SR K T G1 H1 σ ρ1) (s : EStp T σ (DL.mask ρ) G H ρ1 G1 H1) : SR K T G1 H1 σ ρ ∧ EStp T σ ρ G H ρ G1 H1 :=
  R.move s.gg (fun a h h' => (s.gf a h h').elim id fun z => (mask_own z).elim) (fun a o e n => s.fr a o e n fun z => mask_own z) s.al R1.gh R1.tab R1.gt
theorem SR.unmaskX (R : SR K T G H σ ρ) (x : StX T σ (DL.mask ρ) H H1) : SR K T G H1 σ ρ ∧ EStp T σ ρ G H ρ G H1 :=
  R.move (Sub.refl G) (fun a h h' => (h' h).elim) (fun a o e n => x.fr a o e n fun z => mask_own z) x.al (fun a o e => x.fr a o (R.gh a o e) (fun p hp z => by
    have q := R.gt p hp
    rw [z] at q
    have e2 := e.symm.trans q
    cases e2) fun z => mask_own z) x.tab R.gt
end
/-- x(lambda: body), x catches: [what it gives], or the word of its error -/
def fCame (wd : Str → Option Str) (fb : Ev Wv) : Ev Wv := fun ρ => match fb (mask ρ) with
  | .ok ρ1 w => (match frz ρ1 w with
    | some (_, d) => .ok ρ (.tmp (.lst [d]))
    | none => .stk)
  | .exc c => (match wd c with
    | some word => .ok ρ (.val (.str word))
    | none => .stk)
  | .stk => .stk
/-- told: try: return [a()] / except CS as e: return word -/
def TTc (K : PySem.W.Frag) (CS : Addr) (EW : Value → Str → Prop) : (XK → Hp → VK → Prop) → Hp → VK → Prop := fun tl H Q =>
  tl (fun cls d H' => PySem.W.exmOne K cls (.ref CS) = some true ∧ d = none ∧ ∃ word, EW cls word ∧ ∀ H2, Sub H' H2 → Q (.str word) H2) H fun v H1 => [v].length ≤ sizeLine ∧ ∀ p, H1 p = none → Q (.ref p) (upd H1 p (.lst [v]))
section
variable {X : Cx} {T : List (Addr × Str)} {W : WX}
theorem came_read {CS P : Addr} {q : Str} {EW : Value → Str → Prop} {wd : Str → Option Str} {fb : Ev Wv} (hm : (P, q) ∈ T) (hwd : ∀ c C word, wd c = some word → X.mg c = some (.ref C) → PySem.W.exmOne X.K (.ref C) (.ref CS) = some true ∧ EW (.ref C) word) {σ : St} {H : Hp} {Q : VK} (h : tDE X.K T X.mg W (fCame wd fb) σ H Q) :
    tLamN T P (TTc X.K CS EW) (fun E => tDE X.K T X.mg (WD E) fb) σ H Q := by
  obtain ⟨G, ρ, R, h⟩ := h
  refine ⟨R.tab, fun H1 lh t1 => ?_⟩
  obtain ⟨R1, s1⟩ := R.lam hm lh t1
  refine ⟨G, mask ρ, R1.mask, ?_⟩
  unfold fCame at h
  cases e : fb (mask ρ) with
  | stk => rw [e] at h; exact h.elim
  | exc c =>
    rw [e] at h
    intro C H2 hC x
    cases z : wd c with
    | none => simp only [z] at h; exact h.elim
    | some word =>
      simp only [z] at h
      obtain ⟨k1, k2⟩ := hwd c C word z hC
      refine ⟨k1, rfl, word, k2, fun H3 sub => ?_⟩
      obtain ⟨R2, s2⟩ := R1.unmaskX x
      have gx : Gx G H2 G H3 := ⟨Sub.refl G, sub, fun a o e => sub a o (R2.gh a o e), fun a h h' => (h' h).elim⟩
      exact h _ G H3 (gx.sr R2) ((s1.trans R s2).trans R (gx.stp R2)) (.str word)
  | ok ρ1 w =>
    rw [e] at h
    intro v G2 H2 R2 s2 a2
    refine ⟨by rw [sizeLine_eq]; exact Nat.le_of_ble_eq_true rfl, fun p hp => ?_⟩
    cases z : frz ρ1 w with
    | none => simp only [z] at h; exact h.elim
    | some pr =>
      obtain ⟨ρ2, d⟩ := pr
      simp only [z] at h
      obtain ⟨G3, R3, s3, q3⟩ := frz_at R1.mask s2 R2 a2 z
      obtain ⟨R4, s4⟩ := R1.unmask R3 s3
      have gx : Gx G3 H2 G3 (upd H2 p (.lst [v])) := Gx.laid R4.gh hp
      have s5 := s1.trans R s4
      exact h _ G3 _ (gx.sr R4) (s5.trans R (gx.stp R4)) ⟨p, rfl, s5.al p hp, g_none R4.gh hp, [v], upd_same, .cons q3 .nil⟩
end
end DL
namespace DL
open PySem PySem.Spec
open PyProof.Rows hiding St
open L2
open LamX (CodeO Tabs TabB LamS lamEnv)
open L2H (cxH RoomH PinOk Hot1)
/-! ### the def that tells an error's word, called in an except suite -/
section
variable {CX : CXT} {P : Program} {w : World} {K : PySem.W.Frag} {mg : Str → Option Value} {base : Heap} {x a : Str} {params : Arguments} {body : List Stmt} {scope : Scope} {f : Addr} {fd : FuncData} {N : List Str} {k : Nat} {A : Around} {outer : List Env} {s : Shared} {H : Hp} {p : Addr × Obj} {Q : VK} {E : XK}
theorem run_err {args : Args} {us : List Value} (Fu : FunD K x x params body scope [] [] f fd) (S : FnScope N [a] scope) (hr : RoomH (k + 1) A) (hpin : PinOk outer H s p) (e0 : Env0 P w K mg base A outer s H) (hb : BindsTo s fd args ([a].zip us)) (r : Vals [.ref p.1] us)
    (hbody : ∀ cdv, ∃ t, PSs (cxH CX P w K mg base N x scope f cdv A outer s H E p) body t ∧ t { nx := fun _ H' => Q .non H', rt := Q } (L2.start N [.ref p.1]) H) : codeAny (model P w) A (.call (.ref f) args) (CR CX outer P w H s Q E) s := by
  obtain ⟨oc, od, dV, kV, doc, pm, an, cdv, ct, osl, rfl, lk, hcd, _, _⟩ := Fu.ex
  have inS : K.In s.heap := e0.mod.kin.keeps fun b o e => (e0.bs b o e).1
  have lim : s.heap.NoLimit := e0.mod.nolimit.keeps fun b o e => (e0.bs b o e).1
  have kinds : ∀ y ∈ [a].zip us, scope.names.lookup y.1 = some .local ∨ (scope.names.lookup y.1 = some .cell ∧ ((cellsFrom (s.heap.objs.size + 1) scope.names []).lookup y.1).isSome = true) := fun ⟨n, v⟩ hy =>
    (S.par n (List.of_mem_zip hy).1).elim .inl fun q => .inr ⟨q, PySem.W.cellsFrom_some _ _ _ (.inl q)⟩
  refine codeAny_call_function hr.depth (inS _ _ lk) rfl S.co S.gen rfl (PySem.W.codeRec_of inS hcd) (hb _ _ _ _ (wpAny_newFunctionEnv_cells S.kind kinds fun env he s1 xc => ?_))
  subst he
  refine ⟨lim.keeps xc.toInCall.keep, codeAny_func ?_⟩
  obtain ⟨t, ht, hq⟩ := hbody cdv
  refine wpAny_mono (ht.run [] s1 (L2.start N [.ref p.1]) H _ (L2H.inv_startH S hpin e0 rfl r xc) hq) (fun fl s2 hs => ?_) fun e s2 hs => hs
  cases fl with
  | ret u => obtain ⟨v, σ', H', J, rv, q⟩ := hs; exact ⟨v, H', J.os, J.bare, J.base, J.hok, rv, q⟩
  | next => obtain ⟨σ', H', J, q⟩ := hs; exact ⟨.non, H', J.os, J.bare, J.base, J.hok, rfl, q⟩
  | brk => obtain ⟨_, _, _, q⟩ := hs; exact False.elim q
  | cont => obtain ⟨_, _, _, q⟩ := hs; exact False.elim q
end
/-- the context of a def called so bears the exception -/
theorem hot_cxH {CX : CXT} {P : Program} {w : World} {K : PySem.W.Frag} {mg : Str → Option Value} {base : Heap} {N : List Str} {x : Str} {scope : Scope} {f : Addr} {cd : Value} {A : Around} {outer : List Env} {s : Shared} {H : Hp} {E : XK} {p : Addr × Obj} {cls : Value} {vs : Array Value} (hh : A.handled = some (.ref p.1)) (hd : p.2.data = .fields vs) (hz : L2N.Zn cls none p.2) :
    HotK cls (cxH CX P w K mg base N x scope f cd A outer s H E p) := by
  intro pins σ H1 s1 I
  obtain ⟨h1, h2, h3, h4, h5⟩ := I.pin p (List.mem_append_left _ List.mem_cons_self)
  refine ⟨p.1, p.2, vs, hh, h1, hd, hz.2.2 vs hd, h2, fun z => (List.mem_cons.mp (I.stkSub p.1 z)).elim h3 h4, fun b hb z => ?_, hz.1, hz.2.1⟩
  obtain ⟨_, _, _, _, _, f6⟩ := hb
  exact f6 p (List.mem_append_left _ List.mem_cons_self) z
/-- what is asked of the class of an error, that isinstance may ask of it -/
structure ErrC (K : PySem.W.Frag) (C : Addr) : Prop where
  cl : (PySem.W.clsIn K C).isSome = true
  ga : PySem.W.findIn K (.ref C) "__getattribute__" = some (some (.builtin "BaseException.__getattribute__"))
  gt : ∃ gt, PySem.W.findIn K (.ref C) "__getattr__" = some gt
  sub : PySem.W.subIn K (.ref C) (.type "BaseException") = some true
  ca : PySem.W.findIn K (.ref C) "__class__" = some (some (.builtin "object.__class__"))
  cn : PySem.W.specialIn K (.builtin "object.__class__") "__get__" = some (some (.builtin "getset_descriptor.__get__"))
  tk : PySem.W.takesIn K (.builtin "object.__class__") = some true
  mo : PySem.W.mroIn K C (.type "object") = some true
/-- isinstance(e, y) in such a context, e in slot i -/
def fIsE (x1 : Addr) (i : Nat) (b : Bool) : Ev Wv := fun ρ => match ρ[i]? with
  | some (.val (.opq (.ref a))) => if a = x1 then .ok ρ (.val (.bl b)) else .stk
  | _ => .stk
section
variable {X : Cx} {T : List (Addr × Str)} {W : WX} {pos : Pos}
theorem call_isE {D C x1 : Addr} {b : Bool} (hot : HotK (.ref D) X) (hx : X.A.handled = some (.ref x1)) (ec : ErrC X.K D) (hk : PySem.W.kitOne X.K (.ref D) (.ref C) = some b) : CallR X (.builtin "isinstance") (fun xs H Q => xs = [V.ref x1, V.ref C] ∧ Q (.bl b) H) := by
  intro pins s σ H xs us Q I r ⟨e, q⟩
  subst e
  obtain ⟨u1, u2, rfl, r1, r2⟩ := vals2 r
  cases (show u1 = Value.ref x1 from r1)
  cases (show u2 = Value.ref C from r2)
  obtain ⟨y1, o, vs, h1, h2, h3, _, _, _, _, h8, h9⟩ := hot _ _ _ _ I
  rw [hx] at h1
  cases h1
  obtain ⟨gt, hgt⟩ := ec.gt
  refine PySem.W.kia_one (PySem.W.kitx_exc (x := x1) (ox := o) (od := none) ec.cl ec.ga hgt ec.sub ec.ca ec.cn ec.tk ec.mo) I.kIn ⟨h2, h8, ?_, by rw [h9]; trivial⟩ hk (fun z => nomatch z) fun tk => ⟨.bl b, H, I.tok tk, rfl, q⟩
  unfold PySem.W.notCls
  rw [h3]
theorem de_isE {D C x1 : Addr} {b : Bool} {f e y : Str} {p q1 q2 : Pos} (i : Nat) (hot : HotK (.ref D) X) (hx : X.A.handled = some (.ref x1)) (ec : ErrC X.K D) (hk : PySem.W.kitOne X.K (.ref D) (.ref C) = some b) (hg : Gl X f) (hm : X.mg f = none) (hv : bootBuiltins f = some (.builtin "isinstance"))
    (gy : Gl X y) (my : X.mg y = some (.ref C)) (hN : X.N[i]? = some e := by rfl) (hvi : Vis X.env.scope e := by first | exact Or.inl rfl | exact Or.inr (Or.inl rfl) | exact Or.inr (Or.inr rfl)) (hd : (e == ("__debug__" : Str)) = false := by decide) (hcd : (e == ("__classdict__" : Str)) = false := by decide)
    (hn : f ≠ "__name__" := by decide) (hdf : (f == ("__debug__" : Str)) = false := by decide) (hdy : (y == ("__debug__" : Str)) = false := by decide)
    (h1 : starEach [.Name e q1, .Name y q2] X.env = (false, eval (.Name e q1) X.env) :: starEach [.Name y q2] X.env := by rfl) (h2 : starEach [.Name y q2] X.env = (false, eval (.Name y q2) X.env) :: starEach [] X.env := by rfl) (hpl : (backTo pos (starEach [.Name y q2] X.env)).any (·.1) = false := by rfl) :
    DE X T W (.Call (.Name f p) [.Name e q1, .Name y q2] [] pos) (fIsE x1 i b) := by
  refine PE.mono (pe_callB (call_isE hot hx ec hk) hg hm hv (pa_cons (pe_var hN hvi hd hcd) (pa_cons (pe_glob (v := V.ref C) gy my rfl hdy) pa_nil h2) h1) hn hdf h1 hpl) fun σ H Q ⟨G, ρ, R, h⟩ => ?_
  unfold fIsE at h
  split at h
  · rename_i a ea
    split at h
    · rename_i ex
      subst ex
      obtain ⟨z, k1, v, k2, k3⟩ := R.at_ i _ ea
      cases k3
      subst k2
      exact ⟨_, k1, rfl, h _ G H R (EStp.refl R) (.bl b)⟩
    · exact h.elim
  · exact h.elim
/-- a, b as targets -/
theorem dg_tupH {cls : Value} {es : List Expr} {vs : List Nat} {n k : Nat} {r : List D → En → Option En} (hc : HotK cls X) (h : DGs X T vs es r) (hn : (assignEach es X.env).length = n := by rfl) (hst : (assignEach es X.env).findIdx? (·.1) = none := by rfl) : PG X (.Tuple es k pos) (tDG X.K T vs (tupG n r)) := by
  refine PG.mono (pg_tupH hc h.pg hn hst) fun v σ H Q ⟨G, ρ, d, ρ', R, q, e, k⟩ => ?_
  cases q with
  | @tup a xs ds q1 q2 =>
    have e : (if ds.length = n then r ds ρ else none) = some ρ' := e
    split at e
    · rename_i hl
      exact ⟨a, xs, rfl, SqT.sub R.gh q1, by rw [q2.len]; exact hl, G, ρ, ds, ρ', R, q2, e, k⟩
    · cases e
  | _ => cases e
theorem tupG_on {vs : List Nat} {n : Nat} {r : List D → En → Option En} (h : OnlyIn vs r) : OnlyIn vs (tupG n r) := fun d ρ ρ' e => by
  cases d with
  | tup ds =>
    have e : (if ds.length = n then r ds ρ else none) = some ρ' := e
    split at e
    · exact h ds ρ ρ' e
    · cases e
  | _ => cases e
theorem nmG_on {vs : List Nat} {i : Nat} (hv : i ∈ vs) : OnlyIn vs (nmG i) := fun d ρ ρ' e => by
  unfold nmG at e
  split at e
  · cases e
  · cases e
    exact ⟨List.length_set, fun j hj => List.getElem?_set_ne (show i ≠ j from fun z => hj (by rw [← z]; exact hv))⟩
theorem nilG_on {vs : List Nat} : OnlyIn vs nilG := fun ds ρ ρ' e => by
  cases ds with
  | nil => cases e; exact ⟨rfl, fun _ _ => rfl⟩
  | cons a b => cases e
theorem consG_on {vs : List Nat} {f : D → En → Option En} {r : List D → En → Option En} (h1 : OnlyIn vs f) (h2 : OnlyIn vs r) : OnlyIn vs (consG f r) := fun ds ρ ρ' e => by
  cases ds with
  | nil => cases e
  | cons d ds =>
    have e : (f d ρ).bind (fun ρ1 => r ds ρ1) = some ρ' := e
    cases z : f d ρ with
    | none => rw [z] at e; cases e
    | some ρ1 =>
      rw [z] at e
      obtain ⟨c1, c2⟩ := h1 d ρ ρ1 z
      obtain ⟨c3, c4⟩ := h2 ds ρ1 ρ' e
      exact ⟨c3.trans c1, fun i hi => (c4 i hi).trans (c2 i hi)⟩
theorem list_read {a : Expr} {fa : Ev D} {σ : St} {H : Hp} {R' : It → Hp → Prop} (h : tDX X.K T (iRel X.K) X.mg W (iLst fa) σ H R') : iList X.K (tDX X.K T (dRel X.K) X.mg W fa) σ H R' := by
  obtain ⟨G, ρ, R, h⟩ := h
  refine tDX.mono (tRX.bind (rel := dRel X.K) (rel' := iRel X.K) R h) fun v H1 ⟨G1, ρ1, d, R1, s1, a1, h1⟩ => ?_
  have a1 : Dat X.K G1 v d := a1
  cases a1 with
  | lst q r => exact ⟨_, rfl, ⟨_, .of (R1.gh _ _ q)⟩, h1 _ G1 H1 R1 (EStp.refl R1) (yl_list (.of q) r)⟩
  | scr q r => exact ⟨_, rfl, ⟨_, SqL.sub R1.gh q⟩, h1 _ G1 H1 R1 (EStp.refl R1) (yl_list q r)⟩
  | _ => exact (show False from h1).elim
theorem de_lcH {cls : Value} {elt tg iter : Expr} {ifs : List Expr} {scope : Scope} {own : List (Str × Nat)} {fa : Ev D} {g : D → En → Option En} {t : Ev Bool} {fe : Ev D} (hc : HotK cls X) (hN : X.N.Nodup) (hi : DF X T W iter fa) (ok : BlkOk X.N X.env.scope scope own) (on : OnlyIn (own.map (·.2)) g)
    (hg : ∀ (s : Shared) (H : Hp) (C : Addr) (cl : List (Str × Addr)) (fp : List Addr), HotK cls (X.blk s H scope (compEnvC scope cl C X.env) fp) → PG (X.blk s H scope (compEnvC scope cl C X.env) fp) tg (tDG X.K T (own.map (·.2)) g))
    (ht : ∀ (s : Shared) (H : Hp) (C : Addr) (cl : List (Str × Addr)) (fp : List Addr), DTs (X.blk s H scope (compEnvC scope cl C X.env) fp) T W0 ifs t)
    (he : ∀ (s : Shared) (H : Hp) (C : Addr) (cl : List (Str × Addr)) (fp : List Addr), DF (X.blk s H scope (compEnvC scope cl C X.env) fp) T W0 elt fe) (hs : ∀ x, foldedSetIterable iter X.env x = pure x := by intro _; rfl) :
    DE X T W (.ListComp elt [⟨tg, iter, ifs, 0⟩] scope pos) (fLc (iLst fa) (own.map (·.2)) g t fe) :=
  PE.mono (pe_lcH hc hN hi ok hg ht he hs) fun σ H Q h => list_read (a := iter) (lc_read rfl on h)
end
end DL
namespace DL
open PySem PySem.Spec
open PyProof.Rows hiding St
open L2
open LamX (CodeO Tabs TabB LamS lamEnv)
open L2H (cxH RoomH PinOk Hot1)
/-- the def x with the body tells word of an error of the class cls -/
def EWord (P : Program) (w : World) (K : PySem.W.Frag) (mg : Str → Option Value) (base : Heap) (N : List Str) (x : Str) (scope : Scope) (f : Addr) (body : List Stmt) (cls : Value) (word : Str) : Prop :=
  ∀ (cdv : Value) (A : Around) (outer : List Env) (s : Shared) (H : Hp) (p : Addr × Obj) (vs : Array Value) (Q : VK), A.handled = some (.ref p.1) → p.2.data = .fields vs → L2N.Zn cls none p.2 → A.units + 120 < cLine → (∀ H2, Sub H H2 → Q (.str word) H2) →
    ∃ t, PSs (cxH C8.CX0 P w K mg base N x scope f cdv A outer s H C8.E0 p) body t ∧ t { nx := fun _ H' => Q .non H', rt := Q } (L2.start N [.ref p.1]) H
section
variable {Y : Cx} {x e a : Str} {params : Arguments} {body : List Stmt} {scope : Scope} {f : Addr} {fd : FuncData} {N : List Str} {p1 p2 pos : Pos}
theorem pe_err {b : Addr} {oe : Obj} {cls : Value} {pn : List (Addr × Obj)} {vs : Array Value} (hz : L2N.Zn cls none oe) (hd : oe.data = .fields vs) (hr : Room 2 Y.A) (hg : Gl Y x) (hm : Y.mg x = some (.ref f)) (Fu : FunD Y.K x x params body scope [] [] f fd) (S : FnScope N [a] scope) (hb : Binds Y.K fd [a] [])
    (hN : Y.N[1]? = some e) (hl : Y.N.length = 2) (hv : Vis Y.env.scope e) (hdb : (x == ("__debug__" : Str)) = false := by decide) (hde : (e == ("__debug__" : Str)) = false := by decide) (hce : (e == ("__classdict__" : Str)) = false := by decide) :
    PE (Y.suite b ((b, oe) :: pn)) (.Call (.Name x p1) [.Name e p2] [] pos) (fun σ H Q => (σ.length = 2 → σ[1]? = some (some (.ref b))) ∧ ∃ word, EWord Y.prog Y.w Y.K Y.mg Y.base N x scope f body cls word ∧ ∀ H2, Sub H H2 → Q (.str word) H2) := by
  refine ⟨fun pins s σ H Q I ⟨hσ, word, ew, h⟩ => wpAny_Call_Name_kw (ld_glob (X := Y.suite b ((b, oe) :: pn)) I hg hm ?_ hdb)⟩
  have hσ := hσ (I.len.trans hl)
  have pv : PE (Y.suite b ((b, oe) :: pn)) (.Name e p2) (tVar 1) := pe_var hN hv hde hce
  refine PySem.W.callWith_K (h₀ := Y.base) I.ok.mod.kin Fu.kp (thn ((pa_cons pv pa_nil (by rfl)).run pos pins s σ H (fun us H1 => us = [V.ref b] ∧ H1 = H) I ⟨.ref b, hσ, rfl, rfl⟩) fun us s1 ⟨ws, H1, I1, r, ev, eH⟩ => ⟨I1.kIn, ?_⟩) (by rfl) (by rfl)
  subst ev
  rw [eH] at I1
  obtain ⟨g1, g2, g3, g4, g5⟩ := I1.pin (b, oe) (List.mem_append_left _ List.mem_cons_self)
  have hpin : PinOk Y.stack H s1 (b, oe) := ⟨g1, g2, fun hm => (List.mem_cons.mp (I1.stkSub b hm)).elim g3 g4, g5⟩
  have rh : RoomH 2 (Y.A.mark (some (.ref b))) := ⟨hr.dp, hr.un⟩
  have un := hr.un
  have bt := hb s1 us I1.kIn (by rw [List.append_nil]; exact r.length.symm)
  rw [List.append_nil] at bt
  refine wpAny_call (codeAny_mono (run_err (CX := C8.CX0) (E := C8.E0) (k := 1) (p := (b, oe)) (Q := Q) Fu S rh hpin I1.env0 bt r fun cdv => ew cdv _ _ s1 H (b, oe) vs Q rfl hd hz (by show Y.A.units + 120 < cLine; omega) h) fun rr s' hq => ?_)
  cases rr with
  | error u => exact (show False from hq).elim
  | ok fl =>
    cases fl with
    | ret u => exact I1.after hq
    | next => exact False.elim hq
    | brk => exact False.elim hq
    | cont => exact False.elim hq
end
theorem takesN0 {X : Cx} : L2N.Takes X (fun _ _ _ _ => False) := fun _ _ ⟨_, _, _, _, _, _, _, _, _, _, _, _, _, _, _, _, z⟩ => z.elim
def cTb (fl c' : Addr) (q : Str) (tl : XK → Hp → VK → Prop) : WX → TS := fun W D σ H => ∃ Ech : XK, (∀ cls d σ' H', Ech cls d H' → W cls d σ' H') ∧ σ[0]? = some (some (.ref fl)) ∧ H c' = some (CodeO c' q) ∧ tl Ech H (fun v H1 => [v].length ≤ sizeLine ∧ ∀ p, H1 p = none → D.rt (.ref p) (upd H1 p (.lst [v])))
def cTs (EW : Value → Str → Prop) : Addr → Value → Option Addr → TS := fun b cls d D σ H => d = none ∧ (σ.length = 2 → σ[1]? = some (some (.ref b))) ∧ ∃ word, EW cls word ∧ ∀ H2, Sub H H2 → D.rt (.str word) H2
section
variable {X : Cx}
theorem came_gives {a e q x y xa : Str} {sg scope : Scope} {g CS f : Addr} {cdg : Value} {fd : FuncData} {params : Arguments} {body : List Stmt} {N : List Str} {p1 p2 p3 p4 p5 p6 p7 p8 p9 p10 p11 : Pos} {xg : Str} (hy : sg.names.lookup y = some .globalImplicit) (my : X.mg y = some (.ref CS)) (hx : sg.names.lookup x = some .globalImplicit) (mx : X.mg x = some (.ref f)) (he : sg.names.lookup e = some .local)
    (nd : [a, e].Nodup) (Fu : FunD X.K x x params body scope [] [] f fd) (S : FnScope N [xa] scope) (hb : Binds X.K fd [xa] []) (dy : (y == ("__debug__" : Str)) = false := by decide) (dx : (x == ("__debug__" : Str)) = false := by decide) (de : (e == ("__debug__" : Str)) = false := by decide) (ce : (e == ("__classdict__" : Str)) = false := by decide) :
    GivesN X [a, e] xg sg g cdg [.Try [.Return (some (.List [.Call (.Name a p1) [] [] p2] p3)) p4] [.ExceptHandler (some (.Name y p5)) (some e) [.Return (some (.Call (.Name x p6) [.Name e p7] [] p8)) p9] p10] [] [] p11] a q (TTc X.K CS (EWord X.prog X.w X.K X.mg X.base N x scope f body)) := by
  intro fl c' s H Q tl hr act hc h
  generalize eY : (cxOf C8.CX0 X.prog X.w X.K X.mg X.base [a, e] xg sg g cdg X.A X.stack s H C8.E0).nox = Y
  have act' : ∀ (W : WX) (pn : List (Addr × Obj)) (xe : Value → Shared → Prop) (E : XK), L2N.Takes (Y.tr pn xe) W → (∀ cls d σ' H', E cls d H' → W cls d σ' H') → PE (Y.tr pn xe) (.Call (.Name a p1) [] [] p2) (fun σZ HZ Q => σZ[0]? = some (some (.ref fl)) ∧ HZ c' = some (CodeO c' q) ∧ tl E HZ Q) := fun W pn xe E tk hW => by
    subst eY
    exact act W pn xe E p1 p2 tk hW
  have try_ : PS Y (.Try [.Return (some (.List [.Call (.Name a p1) [] [] p2] p3)) p4] [.ExceptHandler (some (.Name y p5)) (some e) [.Return (some (.Call (.Name x p6) [.Name e p7] [] p8)) p9] p10] [] [] p11) (fun D σ H => cTb fl c' q tl (wAs Y.K (.ref CS) 1 (cTs (EWord X.prog X.w X.K X.mg X.base N x scope f body)) (fun _ _ _ _ => False) D) D σ H) := by
    have st : Y.stack = Y.env :: Y.outer := by subst eY; rfl
    have fr : Y.env.frame = some Y.env.locals := by subst eY; rfl
    have eN : Y.N = [a, e] := by subst eY; rfl
    have kd : Y.env.kindOf e = some .local := by subst eY; exact he
    have gl : Gl Y y := by subst eY; exact hy
    have glx : Gl Y x := by subst eY; exact hx
    have ms : Y.mg = X.mg := by subst eY; rfl
    have ks : Y.K = X.K := by subst eY; rfl
    have rm : Room 2 Y.A := by subst eY; exact hr.mono (by omega)
    have ep : Y.prog = X.prog := by subst eY; rfl
    have ew : Y.w = X.w := by subst eY; rfl
    have eb : Y.base = X.base := by subst eY; rfl
    have vs : Vis Y.env.scope e := by subst eY; exact .inl he
    refine L2N.ps_try_as (i := 1) (c := .ref CS) (tb := cTb fl c' q tl) (ts := cTs (EWord X.prog X.w X.K X.mg X.base N x scope f body)) (Wout := fun _ _ _ _ => False) st fr (by rw [eN]; exact nd) (by rw [eN]; rfl) kd ⟨gl, dy, .inl (by rw [ms]; exact my)⟩ takesN0 (fun W pn xe tk _ => ?_) fun b oe cls d pn hz ⟨ws, hd⟩ => ?_
    · refine ⟨fun pins s' σ H' D I ⟨Ech, hW, h1, h2, h3⟩ => ?_⟩
      exact (pss_one (ps_ret (pos := p4) (pe_lst (pos := p3) (pa_cons (act' W pn xe Ech tk hW) pa_nil (by rfl))))).run pins s' σ H' D I ⟨h1, h2, h3⟩
    · refine pss_one ⟨fun pins s' σ H' D I ⟨ed, h1, h2⟩ => ?_⟩
      subst ed
      have pe := pe_err (b := b) (p1 := p6) (p2 := p7) (pos := p8) (Y := Y) (pn := pn) (e := e) hz hd rm glx (by rw [ms]; exact mx) (by rw [ks]; exact Fu) S (by rw [ks]; exact hb) (by rw [eN]; rfl) (by rw [eN]; rfl) vs dx de ce
      exact (ps_ret (pos := p9) pe).run pins s' σ H' D I ⟨h1, by rw [ep, ew, ks, ms, eb]; exact h2⟩
  refine ⟨_, pss_one try_, fun cls d H' => PySem.W.exmOne X.K cls (.ref CS) = some true ∧ d = none ∧ ∃ word, EWord X.prog X.w X.K X.mg X.base N x scope f body cls word ∧ ∀ H2, Sub H' H2 → Q (.str word) H2, fun cls d σ' H' ⟨k1, k2, k3⟩ => ⟨true, by subst eY; exact k1, fun _ b _ => ⟨k2, fun hl => ?_, k3⟩, fun z => nomatch z⟩, rfl, hc, h⟩
  rw [List.length_set] at hl
  exact List.getElem?_set_self (by omega)
end
end DL
namespace DL
open PySem PySem.Spec
open PyProof.Rows hiding St
open L2
open LamX (CodeO Tabs TabB LamS lamEnv)
open L2H (cxH RoomH PinOk Hot1)
section
variable {P : Program} {w : World} {K : PySem.W.Frag} {mg : Str → Option Value} {base : Heap} {N : List Str} {x : Str} {scope : Scope} {f : Addr} {body : List Stmt} {cls : Value} {word : Str}
theorem ew_of (hl : 1 ≤ N.length) (h : ∀ (cdv : Value) (A : Around) (outer : List Env) (s : Shared) (H : Hp) (p : Addr × Obj), HotK cls (cxH C8.CX0 P w K mg base N x scope f cdv A outer s H C8.E0 p) → (cxH C8.CX0 P w K mg base N x scope f cdv A outer s H C8.E0 p).A.handled = some (.ref p.1) →
      ∃ fb, DSs (cxH C8.CX0 P w K mg base N x scope f cdv A outer s H C8.E0 p) [] W0 body fb ∧ ∃ ρ', fb (startE N.length [.val (.opq (.ref p.1))]) = .rt ρ' (.val (.str word))) : EWord P w K mg base N x scope f body cls word := by
  intro cdv A outer s H p vs Q hh hd hz hu hq
  obtain ⟨fb, d, ρ', e⟩ := h cdv A outer s H p (hot_cxH hh hd hz) hh
  have R : SR K [] (fun _ => none) H ([V.ref p.1].map some) [.val (.opq (.ref p.1))] := by
    refine ⟨rfl, fun i z hz => ?_, fun i j a c1 _ => ?_, fun _ _ e => (nomatch e), fun p hp => (by cases hp), fun p hp => (by cases hp)⟩
    · cases i with
      | zero => cases hz; exact ⟨_, rfl, _, rfl, .opq _⟩
      | succ i => simp at hz
    · obtain ⟨_, z, o, k1, k2⟩ := c1
      cases i with
      | zero => cases k1; cases k2
      | succ i => simp at k1
  obtain ⟨R0, back⟩ := start_sr (N := N) R hl
  refine ⟨_, d, _, _, R0, ?_⟩
  have e : fb (startE N.length [.val (.opq (.ref p.1))]) = .rt ρ' (.val (.str word)) := e
  rw [e]
  intro v σ' G' H' R' st q
  have ev : v = .str word := by cases (show Dat K G' v (.str word) from q); rfl
  subst ev
  refine hq H' fun a o ha => st.fr a o ha (fun p hp => (by cases hp)) fun ⟨i, c⟩ => ?_
  obtain ⟨_, z, o, k1, k2⟩ := back c
  cases i with
  | zero => cases k1; cases k2
  | succ i => simp at k1
end
section
variable {X : Cx} {T : List (Addr × Str)} {W : WX} {pos : Pos}
/-- x(lambda: body), x as it stands in the laws -/
theorem de_came {a e x y xe xa : Str} {sc se scope : Scope} {g f c P CS : Addr} {fg fe : FuncData} {pg pe params : Arguments} {bg be : List Stmt} {N : List Str} {k : Nat} {body : Expr} {p lpos p1 p2 p3 p4 p5 p6 p7 p8 p9 p10 p11 : Pos} {wd : Str → Option Str} {fb : Ev Wv}
    (Fg : FunD X.K x x pg bg sc [] [] g fg) (eb : bg = [.Try [.Return (some (.List [.Call (.Name a p1) [] [] p2] p3)) p4] [.ExceptHandler (some (.Name y p5)) (some e) [.Return (some (.Call (.Name xe p6) [.Name e p7] [] p8)) p9] p10] [] [] p11]) (Bg : Binds X.K fg [a] []) (Sg : FnScope [a, e] [a] sc) (va : Vis sc a) (ve : sc.names.lookup e = some .local) (vy : sc.names.lookup y = some .globalImplicit) (vx : sc.names.lookup xe = some .globalImplicit)
    (Fe : FunD X.K xe xe pe be se [] [] f fe) (Be : Binds X.K fe [xa] []) (Se : FnScope N [xa] se) (mg : X.mg x = some (.ref g)) (me : X.mg xe = some (.ref f)) (my : X.mg y = some (.ref CS)) (hwd : ∀ c C word, wd c = some word → X.mg c = some (.ref C) → PySem.W.exmOne X.K (.ref C) (.ref CS) = some true ∧ EWord X.prog X.w X.K X.mg X.base N xe se f be (.ref C) word)
    (TB : TabB X.base X.mg c P) (hcode : X.env.code = .ref c) (hmT : (P, X.env.qual ++ "<lambda>") ∈ T) (hu : ∀ p ∈ T, p.1 = P → p.2 = X.env.qual ++ "<lambda>") (hg : Gl X x) (hr : Room (k + 4) X.A) (L : LamS X.env.scope scope) (hdef : defaultsOf params X.env = ([], []))
    (hbind : ∀ (q : Str) (cl : List (Str × Addr)) (pm cv ctv : Value), bindArgs (PySem.W.kla_fn "<lambda>" q params body scope cl pm cv ctv) ⟨[], []⟩ = pure []) (hbody : ∀ (A : Around) (outer : List Env) (s : Shared) (H : Hp) (E : XK) (f c' : Addr), Room k (A.deeper (lamEnv X scope s.heap.objs.size f c')) → DE (lamN X A outer s H E scope f c') T (WD E) body fb)
    (dx : (x == ("__debug__" : Str)) = false := by decide) (da : (a == ("__debug__" : Str)) = false := by decide) (ca : (a == ("__classdict__" : Str)) = false := by decide) (dy : (y == ("__debug__" : Str)) = false := by decide) (dxe : (xe == ("__debug__" : Str)) = false := by decide) (de : (e == ("__debug__" : Str)) = false := by decide) (ce : (e == ("__classdict__" : Str)) = false := by decide) :
    DE X T W (.Call (.Name x p) [.Lambda params body scope lpos] [] pos) (fCame wd fb) := by
  subst eb
  exact PE.mono (pe_lamN (t := fun E => tDE X.K T X.mg (WD E) fb) hg mg Fg Bg Sg rfl va (fun cdv => came_gives vy my vx me ve Sg.nd Fe Se Be dy dxe de ce) TB hcode hmT hu hr L hdef hbind hbody dx da ca) fun σ H Q h => came_read hmT hwd h
end
end DL
namespace DL
open PySem PySem.Spec
open PyProof.Rows hiding St
open L2
open LamX (CodeO Tabs TabB LamS lamEnv)
open L2H (cxH RoomH PinOk Hot1)
/-- the built-in names are free -/
structure Bi (mg : Str → Option Value) : Prop where
  len : mg "len" = none
  isinstance : mg "isinstance" = none
  int : mg "int" = none
  bool : mg "bool" = none
  str : mg "str" = none
  tuple : mg "tuple" = none
  list : mg "list" = none
  set : mg "set" = none
  all : mg "all" = none
  sorted : mg "sorted" = none
  abs : mg "abs" = none
  min : mg "min" = none
  range : mg "range" = none
  zip : mg "zip" = none
  enumerate : mg "enumerate" = none
section
variable {X : Cx} {T : List (Addr × Str)} {W : WX}
theorem Has.call {n : Nat} {x : Str} {ps : List Str} {k : Nat} {F : FF} {e : Expr} {es : List Expr} {p pos : Pos} {fa : Ev (List Ag)} (h : Has X.prog X.w X.K X.mg X.base T x ps k F) (hr : Room k X.A) (hx : ∀ σ, PassesAt (L2N.CX X.prog X.w) X σ (WE W σ)) (ha : DAg X T W (e :: es) fa)
    (hdb : (x == ("__debug__" : Str)) = false := by decide) (he : starEach (e :: es) X.env = (false, eval e X.env) :: starEach es X.env := by rfl) (hpl : (backTo pos (starEach es X.env)).any (·.1) = false := by rfl) (hn : ps.length = n := by rfl) (hg : Gl X x := by rfl) : DE X T W (.Call (.Name x p) (e :: es) [] pos) (fCall n F fa) := by
  subst hn
  obtain ⟨f, fd, Fk, hm, hk, hb⟩ := h.ex
  exact de_call Fk hr hg hm hk hb hx ha hdb he hpl
theorem pxL {A : Around} {outer : List Env} {s : Shared} {H : Hp} {E : XK} {scope : Scope} {f c' : Addr} : ∀ σ, PassesAt (L2N.CX X.prog X.w) (lamN X A outer s H E scope f c') σ (WE (WD E) σ) :=
  L2N.passAt (L2N.takes_of (X := lamN X A outer s H E scope f c') rfl rfl rfl rfl)
theorem dt_w {e : Expr} {f : Ev Bool} (h : DW X T W e f) : DT X T W e f := h.pt
theorem Has.zero {P : Program} {w : World} {K : PySem.W.Frag} {mg : Str → Option Value} {base : Heap} {x : Str} {ps N : List Str} {st : Stmt} {k : Nat} (d : Def K mg x ps st) (S : FnScope N ps (defScope st)) : Has P w K mg base T x ps (k + 1) (fun _ => .stk) :=
  Has.of d S fun f cdv A outer s H E hr ss hl hn => (hn rfl).elim
end
end DL
namespace DL
open PySem PySem.Spec
open PyProof.Rows hiding St
open L2
open LamX (CodeO Tabs TabB LamS lamEnv LawAtS)
/-! ### the law -/
def spLaw (K : PySem.W.Frag) (P : Addr) : Sp := fun vs H Q _ => ∃ (a : Addr) (ns : List Int), vs = [.ref a] ∧ ns.length ≤ 63 ∧ (∀ z ∈ ns, Builtin.Int.intBits z ≤ 1048576) ∧ H P = some (.tbl #[]) ∧ SqL K H a (ns.map V.int) ∧ ∀ H', Q (.bl true) H'
theorem law_at {l : PySem.W.OpenLaw} {w : World} {K : PySem.W.Frag} {mg : Str → Option Value} {fa : Addr} {h : Heap} {fd : FuncData} {pg : Arguments} {bg : List Stmt} {sc : Scope} {N : List Str} {k : Nat} {xa : Str} (X : K.In h) (Fu : FunD K "law" "law" pg bg sc [] [] (He.fAd K ("law", none)) fd) (ef : fa = He.fAd K ("law", none))
    (hd : PySem.W.codeHdIn K (He.cT K ("law", none)).1 (He.cT K ("law", none)).2 = true) (out : K.lookup (He.cT K ("law", none)).2 = none) (emp : h.get? (He.cT K ("law", none)).2 = some { cls := .none, data := .fields #[] }) (S : FnScope N [xa] sc) (hb : ∀ (s : Shared) (u : Value), BindsTo s fd ⟨[u], []⟩ [(xa, u)])
    (run : ∀ base : Heap, K.In base → base.Ns mainGlobals mg → ∀ c P : Addr, TabB base mg c P → ∀ (A : Around) (outer : List Env) (s : Shared) (H : Hp) (E : XK), Room k (A.deeper (envOfC "law" sc s.heap.objs.size fa (.ref c))) →
      ∃ fb, DSs (cxOf (L2N.CX l.prog w) l.prog w K mg base N "law" sc fa (.ref c) A outer s H E) [(P, (("law" : Str) ++ ".<locals>.") ++ "<lambda>")] (WD E) bg fb ∧ ∀ ns : List Int, ns.length ≤ 63 → (∀ z ∈ ns, Builtin.Int.intBits z ≤ 1048576) → ∃ ρ', fb (startE N.length [.val (.scr (ns.map D.int))]) = .rt ρ' (.val (.bl true))) :
    LawAtS l w K (L2N.CX l.prog w) (k + 1) 63 xa mg fa h := by
  obtain ⟨oc, od, dV, kV, doc, pm, an, cdv, ct, osl, efd, lk, hcd, _, _⟩ := Fu.ex
  obtain ⟨c, ec⟩ := He.codeIn_ref hcd
  have eC : (He.cT K ("law", none)).1 = c := He.codeOf_eq lk (by rw [efd]; exact ec)
  refine ⟨fd, [He.cT K ("law", none)], spLaw K (He.cT K ("law", none)).2, fun p hp => ?_, fun p hp => ?_, fun p hp => ?_, hb, fun H a ns h1 h2 h3 h4 => ⟨a, ns, rfl, h1, h2, h3 _ List.mem_cons_self, h4, fun _ => rfl⟩, fun base KB NB TB => ?_⟩
  · rw [List.mem_singleton.mp hp]; exact emp
  · rw [List.mem_singleton.mp hp]; exact out
  · rw [List.mem_singleton.mp hp]; exact PySem.W.codeHd_of_K X hd
  have tb := TB _ List.mem_cons_self
  rw [eC] at tb
  subst efd
  rw [ef] at run ⊢
  refine fn_of lk hcd S (fun vs H Q E ⟨a, ns, e, _⟩ => by rw [e]; rfl) fun A outer s H vs Q E hr ⟨a, ns, e, h1, h2, h3, h4, h5⟩ => ?_
  subst e ec
  obtain ⟨fb, d, fin⟩ := run base KB NB c _ tb A outer s H E hr
  obtain ⟨ρ', er⟩ := fin ns h1 h2
  generalize hP : (He.cT K ("law", none)).2 = P at *
  have sub : Sub (fun b => if b = P then none else H b) H := fun b o e => by
    have e : (if b = P then none else H b) = some o := e
    split at e
    · cases e
    · exact e
  have seq : SqL K (fun b => if b = P then none else H b) a (ns.map V.int) := by
    have nP : ∀ {u : HO}, H a = some u → (∀ q, u ≠ .tbl q) → (if a = P then none else H a) = some u := fun {u} e n => by
      rw [if_neg (fun z => by rw [z, h3] at e; cases e; exact n _ rfl)]
      exact e
    rcases h4 with (h4 | ⟨o, h4⟩) | h4
    · exact .inl (.inl (nP h4 fun q z => nomatch z))
    · exact .inl (.inr ⟨o, nP h4 fun q z => nomatch z⟩)
    · exact .inr h4
  have R : SR K [(P, (("law" : Str) ++ ".<locals>.") ++ "<lambda>")] (fun b => if b = P then none else H b) H ([V.ref a].map some) [.val (.scr (ns.map D.int))] := by
    refine ⟨rfl, fun i z hz => ?_, fun i j a c1 _ => ?_, sub, fun p hp => ?_, fun p hp => ?_⟩
    · cases i with
      | zero => cases hz; exact ⟨_, rfl, _, rfl, .scr seq (Dats.ofInts _)⟩
      | succ i => simp at hz
    · obtain ⟨_, z, o, k1, k2⟩ := c1
      cases i with
      | zero => cases k1; cases k2
      | succ i => simp at k1
    · rw [List.mem_singleton.mp hp]
      exact LamX.TabS.nil h3
    · rw [List.mem_singleton.mp hp]
      exact if_pos rfl
  have hl : 1 ≤ N.length := by
    have := congrArg List.length S.pre
    rw [List.length_take] at this
    simp at this
    omega
  refine ⟨_, d, _, _, (start_sr (N := N) R hl).1, ?_⟩
  have er : fb (startE N.length [.val (.scr (ns.map D.int))]) = .rt ρ' (.val (.bl true)) := er
  rw [show ([Sl.val (.scr (ns.map D.int))] : List Sl) = [.val (.scr (ns.map D.int))] from rfl, er]
  intro v σ' G' H' R' st q
  have ev : v = .bl true := by cases (show Dat K G' v (.bl true) from q); rfl
  subst ev
  exact h5 H'
end DL
namespace DL
open PySem PySem.Spec
open PyProof.Rows hiding St
open L2
open LamX (CodeO Tabs TabB LamS lamEnv)
/-! ### the errors' words -/
def errs : List Str := ["InvalidBook", "InvalidRecipe", "InvalidWay", "InvalidTotal", "InvalidTally", "InvalidText", "NoTotal", "NothingLeft"]
def words : List Str := ["book", "recipe", "way", "total", "tally", "text", "none", "left"]
def wd (c : Str) : Option Str := (errs.zip words).lookup c
structure CameD (P : Program) (w : World) (K : PySem.W.Frag) (mg : Str → Option Value) (base : Heap) : Prop where
  ex : ∃ (a e y xe xa : Str) (sc se : Scope) (g f CS : Addr) (fg fe : FuncData) (pg pe : Arguments) (bg be : List Stmt) (N : List Str) (p1 p2 p3 p4 p5 p6 p7 p8 p9 p10 p11 : Pos), FunD K "_law_came" "_law_came" pg bg sc [] [] g fg ∧
    bg = [.Try [.Return (some (.List [.Call (.Name a p1) [] [] p2] p3)) p4] [.ExceptHandler (some (.Name y p5)) (some e) [.Return (some (.Call (.Name xe p6) [.Name e p7] [] p8)) p9] p10] [] [] p11] ∧ Binds K fg [a] [] ∧ FnScope [a, e] [a] sc ∧ Vis sc a ∧ sc.names.lookup e = some .local ∧ sc.names.lookup y = some .globalImplicit ∧ sc.names.lookup xe = some .globalImplicit ∧
    FunD K xe xe pe be se [] [] f fe ∧ Binds K fe [xa] [] ∧ FnScope N [xa] se ∧ mg "_law_came" = some (.ref g) ∧ mg xe = some (.ref f) ∧ mg y = some (.ref CS) ∧ (∀ c C word, wd c = some word → mg c = some (.ref C) → PySem.W.exmOne K (.ref C) (.ref CS) = some true ∧ EWord P w K mg base N xe se f be (.ref C) word) ∧
    (a == ("__debug__" : Str)) = false ∧ (a == ("__classdict__" : Str)) = false ∧ (y == ("__debug__" : Str)) = false ∧ (xe == ("__debug__" : Str)) = false ∧ (e == ("__debug__" : Str)) = false ∧ (e == ("__classdict__" : Str)) = false
theorem CameD.de {X : Cx} {x q : Str} {P : Addr} {W : WX} {pos : Pos} {scope : Scope} {params : Arguments} {k : Nat} {body : Expr} {p lpos : Pos} {fb : Ev Wv} (h : CameD X.prog X.w X.K X.mg X.base) {c : Addr} (TB : TabB X.base X.mg c P) (hcode : X.env.code = .ref c) (hq : X.env.qual = q) (hg : Gl X x) (hr : Room (k + 4) X.A) (L : LamS X.env.scope scope)
    (hdef : defaultsOf params X.env = ([], [])) (hbind : ∀ (q : Str) (cl : List (Str × Addr)) (pm cv ctv : Value), bindArgs (PySem.W.kla_fn "<lambda>" q params body scope cl pm cv ctv) ⟨[], []⟩ = pure []) (hbody : ∀ (A : Around) (outer : List Env) (s : Shared) (H : Hp) (E : XK) (f c' : Addr), Room k (A.deeper (lamEnv X scope s.heap.objs.size f c')) → DE (lamN X A outer s H E scope f c') [(P, q ++ "<lambda>")] (WD E) body fb) (hx : x = ("_law_came" : Str) := by rfl) :
    DE X [(P, q ++ "<lambda>")] W (.Call (.Name x p) [.Lambda params body scope lpos] [] pos) (fCame wd fb) := by
  subst hx
  obtain ⟨a, e, y, xe, xa, sc, se, g, f, CS, fg, fe, pg, pe, bg, be, N, p1, p2, p3, p4, p5, p6, p7, p8, p9, p10, p11, h1, h2, h3, h4, h5, h6, h7, h8, h9, h10, h11, h12, h13, h14, h15, d1, d2, d3, d4, d5, d6⟩ := h.ex
  exact de_came h1 h2 h3 h4 h5 h6 h7 h8 h9 h10 h11 h12 h13 h14 h15 TB hcode (by rw [hq]; exact List.mem_cons_self) (fun p hp _ => by rw [List.mem_singleton.mp hp, hq]) hg hr L hdef hbind hbody (by decide) d1 d2 d3 d4 d5 d6
/-! ### what the head is to tell of the classes -/
def isBu (o : Option (Option Value)) (s : String) : Bool := match o with
  | some (some (.builtin t)) => decide (t = s)
  | _ => false
theorem isBu_ok {o : Option (Option Value)} {s : String} (h : isBu o s = true) : o = some (some (.builtin s)) := by
  unfold isBu at h
  split at h
  · rw [of_decide_eq_true h]
  · cases h
def errCb (K : PySem.W.Frag) (C : Addr) : Bool := (PySem.W.clsIn K C).isSome && (isBu (PySem.W.findIn K (.ref C) "__getattribute__") "BaseException.__getattribute__" && ((PySem.W.findIn K (.ref C) "__getattr__").isSome && (decide (PySem.W.subIn K (.ref C) (.type "BaseException") = some true) && (isBu (PySem.W.findIn K (.ref C) "__class__") "object.__class__" &&
  (isBu (PySem.W.specialIn K (.builtin "object.__class__") "__get__") "getset_descriptor.__get__" && (decide (PySem.W.takesIn K (.builtin "object.__class__") = some true) && decide (PySem.W.mroIn K C (.type "object") = some true)))))))
theorem errC_ok {K : PySem.W.Frag} {C : Addr} (h : errCb K C = true) : ErrC K C := by
  unfold errCb at h
  simp only [Bool.and_eq_true, decide_eq_true_eq] at h
  obtain ⟨h1, h2, h3, h4, h5, h6, h7, h8⟩ := h
  exact ⟨h1, isBu_ok h2, Option.isSome_iff_exists.mp h3, h4, isBu_ok h5, isBu_ok h6, h7, h8⟩
def bmVE : List Value := [.type "ValueError", .type "Exception", .type "BaseException", .type "object"]
/-- the class x of an error -/
def clB (K : PySem.W.Frag) (x : Str) : Bool := errCb K (He.ga K x) && (PySem.W.excIn K (He.ga K x) bmVE "ValueError.__new__" && (PySem.W.keepIn K (.ref (He.ga K x)) && ((PySem.W.typeIn K (.ref (He.ga K x)) == some (.type "type")) &&
  (decide (PySem.W.exmOne K (.ref (He.ga K x)) (.ref (He.ga K "TotalError")) = some true) && errs.all fun y => decide (PySem.W.kitOne K (.ref (He.ga K x)) (.ref (He.ga K y)) = some (decide (x = y)))))))
structure ClF (K : PySem.W.Frag) (x : Str) : Prop where
  ec : ErrC K (He.ga K x)
  ei : PySem.W.excIn K (He.ga K x) bmVE "ValueError.__new__" = true
  kp : PySem.W.keepIn K (.ref (He.ga K x)) = true
  ty : PySem.W.typeIn K (.ref (He.ga K x)) = some (.type "type")
  xm : PySem.W.exmOne K (.ref (He.ga K x)) (.ref (He.ga K "TotalError")) = some true
  kt : ∀ y ∈ errs, PySem.W.kitOne K (.ref (He.ga K x)) (.ref (He.ga K y)) = some (decide (x = y))
theorem clB_ok {K : PySem.W.Frag} {x : Str} (h : clB K x = true) : ClF K x := by
  unfold clB at h
  simp only [Bool.and_eq_true, decide_eq_true_eq, List.all_eq_true] at h
  obtain ⟨h1, h2, h3, h4, h5, h6⟩ := h
  exact ⟨errC_ok h1, h2, h3, beq_iff_eq.mp h4, h5, h6⟩
theorem ClF.err {K : PySem.W.Frag} {mg : Str → Option Value} {x : Str} (c : ClF K x) (hm : mg x = some (.ref (He.ga K x))) : Err K mg x := ⟨_, _, _, _, _, PySem.F.excBase_ValueError, c.ei, hm, c.kp, c.ec.sub, c.ty⟩
def exB (K : PySem.W.Frag) : Bool := errs.all (clB K)
theorem exB_ok {K : PySem.W.Frag} (h : exB K = true) {x : Str} (hx : x ∈ errs) : ClF K x := clB_ok (List.all_eq_true.mp h x hx)
end DL
set_option Elab.async false
set_option linter.all false
set_option autoImplicit false
set_option maxRecDepth 100000
set_option maxHeartbeats 4000000
namespace K01
open PySem PySem.Spec
open PyProof.Rows hiding St
open L2 DL
def ev__law_error_of (x1 : Addr) (b1 b2 b3 b4 b5 b6 b7 b8 : Bool) : Sv :=
  (sSeq (sSet 1 (fLst (aCons (fFz (fTup (aCons (fFz (fC (.str "book"))) (aCons (fFz (fIsE x1 0 b1)) aNil)))) aNil))) (sSeq (sExpr (fApp 1 (fFz (fTup (aCons (fFz (fC (.str "recipe"))) (aCons (fFz (fIsE x1 0 b2)) aNil)))))) (sSeq (sExpr (fApp 1 (fFz (fTup (aCons (fFz (fC (.str "way"))) (aCons (fFz (fIsE x1 0 b3)) aNil)))))) (sSeq (sExpr (fApp 1 (fFz (fTup (aCons (fFz (fC (.str "total"))) (aCons (fFz (fIsE x1 0 b4)) aNil)))))) (sSeq (sExpr (fApp 1 (fFz (fTup (aCons (fFz (fC (.str "tally"))) (aCons (fFz (fIsE x1 0 b5)) aNil)))))) (sSeq (sExpr (fApp 1 (fFz (fTup (aCons (fFz (fC (.str "text"))) (aCons (fFz (fIsE x1 0 b6)) aNil)))))) (sSeq (sExpr (fApp 1 (fFz (fTup (aCons (fFz (fC (.str "none"))) (aCons (fFz (fIsE x1 0 b7)) aNil)))))) (sSeq (sExpr (fApp 1 (fFz (fTup (aCons (fFz (fC (.str "left"))) (aCons (fFz (fIsE x1 0 b8)) aNil)))))) (sSeq (sRet (fM1 gJoin (fC (.str "+")) (fLc (iLst (fFz (fV 1))) [2, 3] (tupG 2 (consG (nmG 2) (consG (nmG 3) nilG))) ((fTru (fV 3))) (fFz (fV 2))))) sNil)))))))))
def ev_is_within : Sv :=
  (sSeq (sRet (vAnd (fOp gIsi (fV 0) (fC (.opq (.ty "int")))) (vAnd (vNot (fOp gIsi (fV 0) (fC (.opq (.ty "bool"))))) (fChain gLe gLe (fV 1) (fV 0) (fV 2))))) sNil)
def FF_is_within : FF := fun ss => finF ss (ev_is_within (startE 3 ss))
def ev_is_wide : Sv :=
  (sSeq (sRet (vAnd (fOp gIsi (fV 0) (fC (.opq (.ty "tuple")))) (fChain gLe gLe (fV 1) (fUn gLen (fV 0)) (fV 2)))) sNil)
def FF_is_wide : FF := fun ss => finF ss (ev_is_wide (startE 3 ss))
def ev_is_way : Sv :=
  (sSeq (sIf (bOr (bNot (fTru (fCall 3 FF_is_wide (gVal (fFz (fV 0)) (gVal (fFz (fC (.int 2))) (gVal (fFz (fC (.int 2))) gNil)))))) (bOr (bNot (fTru (fCall 3 FF_is_within (gVal (fFz (fOp gIx (fV 0) (fC (.int 0)))) (gVal (fFz (fC (.int 0))) (gVal (fFz (fC (.int 9))) gNil)))))) (bNot (fTru (fCall 3 FF_is_wide (gVal (fFz (fOp gIx (fV 0) (fC (.int 1)))) (gVal (fFz (fC (.int 0))) (gVal (fFz (fC (.int 2))) gNil)))))))) (sSeq (sRet (fC (.bl false))) sNil) sNil) (sSeq (sRet (vAnd (fUn gAll (fLc (iSeq (fFz (fOp gIx (fV 0) (fC (.int 1))))) [2] (nmG 2) bYes (fFz (fCall 3 FF_is_within (gVal (fFz (fV 2)) (gVal (fFz (fC (.int 0))) (gVal (fFz (fOp DL.gSub (fV 1) (fC (.int 1)))) gNil))))))) (fOp gEq (fUn gList (fOp gIx (fV 0) (fC (.int 1)))) (fUn gSorted (fOp gIx (fV 0) (fC (.int 1))))))) sNil))
def FF_is_way : FF := fun ss => finF ss (ev_is_way (startE 3 ss))
def ev_is_recipe : Sv :=
  (sSeq (sIf (bOr (bNot (fTru (fCall 3 FF_is_wide (gVal (fFz (fV 0)) (gVal (fFz (fC (.int 1))) (gVal (fFz (fC (.int 3))) gNil)))))) (bNot (fTru (fUn gAll (fLc (iSeq (fFz (fV 0))) [2] (nmG 2) bYes (fFz (fCall 2 FF_is_way (gVal (fFz (fV 2)) (gVal (fFz (fV 1)) gNil))))))))) (sSeq (sRet (fC (.bl false))) sNil) sNil) (sSeq (sRet (fOp gEq (fUn gLenSet (fV 0)) (fUn gLen (fV 0)))) sNil))
def FF_is_recipe : FF := fun ss => finF ss (ev_is_recipe (startE 3 ss))
def ev_is_fit : Sv :=
  (sSeq (sRet (vAnd (fCall 3 FF_is_wide (gVal (fFz (fV 0)) (gVal (fFz (fC (.int 1))) (gVal (fFz (fC (.int 3))) gNil)))) (fUn gAll (fLc (iSeq (fFz (fV 0))) [1] (nmG 1) bYes (fFz (fCall 2 FF_is_recipe (gVal (fFz (fV 1)) (gVal (fFz (fUn gLen (fV 0))) gNil)))))))) sNil)
def FF_is_fit : FF := fun ss => finF ss (ev_is_fit (startE 2 ss))
def ev_look_at_book : Sv :=
  (sSeq (sIf (bNot (fTru (fCall 1 FF_is_fit (gVal (fFz (fV 0)) gNil)))) (sSeq (sExc "InvalidBook") sNil) sNil) sNil)
def FF_look_at_book : FF := fun ss => finF ss (ev_look_at_book (startE 1 ss))
def ev_look_at_lone_recipe : Sv :=
  (sSeq (sIf (bNot (fTru (fCall 3 FF_is_within (gVal (fFz (fV 1)) (gVal (fFz (fC (.int 0))) (gVal (fFz (fOp DL.gSub (fUn gLen (fV 0)) (fC (.int 1)))) gNil)))))) (sSeq (sExc "InvalidRecipe") sNil) sNil) sNil)
def FF_look_at_lone_recipe : FF := fun ss => finF ss (ev_look_at_lone_recipe (startE 2 ss))
def ev_look_at_way : Sv :=
  (sSeq (sExpr (fCall 2 FF_look_at_lone_recipe (gVal (fFz (fV 0)) (gVal (fFz (fV 1)) gNil)))) (sSeq (sIf (bNot (fTru (fCall 3 FF_is_within (gVal (fFz (fV 2)) (gVal (fFz (fC (.int 0))) (gVal (fFz (fOp DL.gSub (fUn gLen (fOp gIx (fV 0) (fV 1))) (fC (.int 1)))) gNil)))))) (sSeq (sExc "InvalidWay") sNil) sNil) sNil))
def FF_look_at_way : FF := fun ss => finF ss (ev_look_at_way (startE 3 ss))
def ev_less_by : Sv :=
  (sSeq (sSet 3 (fOp gAdd (fSl (fOp gIx (fV 0) (fV 1)) oNo (oSome (fV 2))) (fSl (fOp gIx (fV 0) (fV 1)) (oSome (fOp gAdd (fV 2) (fC (.int 1)))) oNo))) (sSeq (sRet (fOp gAdd (fOp gAdd (fSl (fV 0) oNo (oSome (fV 1))) (fTup (aCons (fFz (fV 3)) aNil))) (fSl (fV 0) (oSome (fOp gAdd (fV 1) (fC (.int 1)))) oNo))) sNil))
def FF_less_by : FF := fun ss => finF ss (ev_less_by (startE 4 ss))
def ev_look_at_less : Sv :=
  (sSeq (sExpr (fCall 3 FF_look_at_way (gVal (fFz (fV 0)) (gVal (fFz (fV 1)) (gVal (fFz (fV 2)) gNil))))) (sSeq (sIf (fB (fOp gEq (fUn gLen (fOp gIx (fV 0) (fV 1))) (fC (.int 1)))) (sSeq (sExc "InvalidWay") sNil) sNil) sNil))
def FF_look_at_less : FF := fun ss => finF ss (ev_look_at_less (startE 3 ss))
def ev_is_book : Sv :=
  (sSeq (sRet (fCall 1 FF_is_fit (gVal (fFz (fV 0)) gNil))) sNil)
def FF_is_book : FF := fun ss => finF ss (ev_is_book (startE 1 ss))
def ev_without : Sv :=
  (sSeq (sExpr (fCall 1 FF_look_at_book (gVal (fFz (fV 0)) gNil))) (sSeq (sExpr (fCall 3 FF_look_at_less (gVal (fFz (fV 0)) (gVal (fFz (fV 1)) (gVal (fFz (fV 2)) gNil))))) (sSeq (sRet (fCall 3 FF_less_by (gVal (fFz (fV 0)) (gVal (fFz (fV 1)) (gVal (fFz (fV 2)) gNil))))) sNil)))
def FF_without : FF := fun ss => finF ss (ev_without (startE 3 ss))
def ev__law_spring : Sv :=
  (sSeq (sSet 2 (fC (.int 7))) (sSeq (sIf (fB (fOp gLt (fV 1) (fUn gLen (fV 0)))) (sSeq (sSet 2 (fUn gAbs (fOp gIx (fV 0) (fV 1)))) sNil) sNil) (sSeq (sSet 3 (fOp gMod (fUn gInt (fOp gAdd (fOp gAdd (fOp gMul (fV 2) (fC (.int 863))) (fOp gMul (fC (.int 524287)) (fV 1))) (fC (.int 1)))) (fC (.int 999999999989)))) (sSeq (sRet (fLst (aCons (fFz (vIf (fB (fOp gGe (fV 2) (fOp gPow (fC (.int 10)) (fC (.int 18))))) (fV 2) (fC (.int 0)))) (aCons (fFz (fV 3)) aNil)))) sNil))))
def FF__law_spring : FF := fun ss => finF ss (ev__law_spring (startE 4 ss))
def ev__law_pick : Sv :=
  (sSeq (sIf (fB (fOp gGt (fOp gIx (fV 0) (fC (.int 0))) (fC (.int 0)))) (sSeq (sSet 2 (fOp gMod (fUn gInt (fOp gIx (fV 0) (fC (.int 0)))) (fV 1))) (sSeq (sSetIx 0 (fFz (fOp gDiv (fOp gIx (fV 0) (fC (.int 0))) (fV 1))) (fC (.int 0))) (sSeq (sRet (fV 2)) sNil))) sNil) (sSeq (sSetIx 0 (fFz (fOp gMod (fUn gInt (fOp gAdd (fOp gMul (fOp gIx (fV 0) (fC (.int 1))) (fC (.int 393555900739))) (fC (.int 8191)))) (fC (.int 999999999989)))) (fC (.int 1))) (sSeq (sRet (fOp gMod (fUn gInt (fOp gDiv (fOp gIx (fV 0) (fC (.int 1))) (fC (.int 4093)))) (fV 1))) sNil)))
def FF__law_pick : FF := fun ss => finF ss (ev__law_pick (startE 3 ss))
def ev__law_kind : Sv :=
  (sSeq (sIf (bOr (fB (fOp (gIsN false) (fV 0) (fC .non))) (fTru (fOp gIsi (fV 0) (fC (.opq (.ty "bool")))))) (sSeq (sRet (vIf (fB (fOp (gIsN false) (fV 0) (fC .non))) (fC (.int 0)) (fC (.int 1)))) sNil) sNil) (sSeq (sIf (fTru (fUn (gIsi2 "list" "tuple") (fV 0))) (sSeq (sRet (vIf (fTru (fOp gIsi (fV 0) (fC (.opq (.ty "list"))))) (fC (.int 2)) (fC (.int 3)))) sNil) sNil) (sSeq (sRet (vIf (fTru (fOp gIsi (fV 0) (fC (.opq (.ty "int"))))) (fC (.int 4)) (vIf (fTru (fOp gIsi (fV 0) (fC (.opq (.ty "str"))))) (fC (.int 5)) (fC (.int 6))))) sNil)))
def FF__law_kind : FF := fun ss => finF ss (ev__law_kind (startE 1 ss))
def ev__law_twins (F : FF) : Sv :=
  (sSeq (sIf (fB (fOp gNe (fCall 1 FF__law_kind (gVal (fFz (fV 0)) gNil)) (fCall 1 FF__law_kind (gVal (fFz (fV 1)) gNil)))) (sSeq (sRet (fC (.bl false))) sNil) sNil) (sSeq (sIf (fB (fOp (gInS false) (fCall 1 FF__law_kind (gVal (fFz (fV 0)) gNil)) (fLst (aCons (fFz (fC (.int 2))) (aCons (fFz (fC (.int 3))) aNil))))) (sSeq (sRet (vAnd (fOp gEq (fUn gLen (fV 0)) (fUn gLen (fV 1))) (fOp gEq (fLc (iZp (aCons (fFz (fV 0)) (aCons (fFz (fV 1)) aNil))) [2, 3] (tupG 2 (consG (nmG 2) (consG (nmG 3) nilG))) (bNot (fTru (fCall 2 F (gVal (fFz (fV 2)) (gVal (fFz (fV 3)) gNil))))) (fFz (fC (.int 1)))) (fLst aNil)))) sNil) sNil) (sSeq (sRet (fOp gEq (fV 0) (fV 1))) sNil)))
def FF__law_twins : Nat → FF
  | 0 => fun _ => .stk
  | n + 1 => fun ss => finF ss (ev__law_twins (FF__law_twins n) (startE 4 ss))
def ev__law_way : Sv :=
  (sSeq (sSet 3 (fLc (iR1 (aCons (fFz (fOp gIx (fLst (aCons (fFz (fC (.int 0))) (aCons (fFz (fC (.int 0))) (aCons (fFz (fC (.int 1))) (aCons (fFz (fC (.int 1))) (aCons (fFz (fC (.int 2))) aNil)))))) (fCall 2 FF__law_pick (gIo 0 (gVal (fFz (fC (.int 5))) gNil))))) aNil)) [4] (nmG 4) bYes (fFz (fCall 2 FF__law_pick (gIo 0 (gVal (fFz (fV 1)) gNil)))))) (sSeq (sRet (fTup (aCons (fFz (fOp gIx (fV 2) (fCall 2 FF__law_pick (gIo 0 (gVal (fFz (fUn gLen (fV 2))) gNil))))) (aCons (fFz (fUn gTuple (fUn gSorted (fV 3)))) aNil)))) sNil))
def FF__law_way : FF := fun ss => finF ss (ev__law_way (startE 5 ss))
def ev__law_book : Sv :=
  (sSeq (sPar 2 3 (fOp gAdd (fC (.int 1)) (fCall 2 FF__law_pick (gIo 0 (gVal (fFz (fV 1)) gNil)))) (fTup aNil)) (sSeq (sSet 4 (fOp gIx (fLst (aCons (fFz (fLst (aCons (fFz (fC (.int 0))) (aCons (fFz (fC (.int 1))) (aCons (fFz (fC (.int 2))) (aCons (fFz (fC (.int 3))) aNil)))))) (aCons (fFz (fLst (aCons (fFz (fC (.int 2))) (aCons (fFz (fC (.int 4))) (aCons (fFz (fC (.int 6))) aNil))))) (aCons (fFz (fLst (aCons (fFz (fC (.int 0))) (aCons (fFz (fC (.int 3))) (aCons (fFz (fC (.int 5))) (aCons (fFz (fC (.int 9))) aNil)))))) (aCons (fFz (fLst (aCons (fFz (fC (.int 1))) (aCons (fFz (fC (.int 4))) (aCons (fFz (fC (.int 7))) (aCons (fFz (fC (.int 8))) aNil)))))) aNil))))) (fCall 2 FF__law_pick (gIo 0 (gVal (fFz (fC (.int 4))) gNil))))) (sSeq (sFor (iR1 (aCons (fFz (fV 2)) aNil)) (nmG 5) (sSeq (sSet 6 (fTup aNil)) (sSeq (sIf (fB (fOp gGt (fCall 2 FF__law_pick (gIo 0 (gVal (fFz (fC (.int 4))) gNil))) (fC (.int 0)))) (sSeq (sSet 6 (fTup (aCons (fFz (fTup (aCons (fFz (fOp gIx (fV 4) (fCall 2 FF__law_pick (gIo 0 (gVal (fFz (fUn gLen (fV 4))) gNil))))) (aCons (fFz (fTup aNil)) aNil)))) aNil))) sNil) sNil) (sSeq (sFor (iR1 (aCons (fFz (fOp gAdd (fCall 2 FF__law_pick (gIo 0 (gVal (fFz (fC (.int 3))) gNil))) (fUn gInt (fOp gEq (fV 6) (fTup aNil))))) aNil)) (nmG 7) (sSeq (sSet 8 (fCall 3 FF__law_way (gIo 0 (gVal (fFz (fV 2)) (gVal (fFz (fV 4)) gNil))))) (sSeq (sSet 6 (fOp gAdd (fV 6) (vIf (fB (fOp (gInS true) (fV 8) (fV 6))) (fTup (aCons (fFz (fV 8)) aNil)) (fTup aNil)))) sNil))) (sSeq (sSet 3 (fOp gAdd (fV 3) (fTup (aCons (fFz (fV 6)) aNil)))) sNil))))) (sSeq (sRet (fV 3)) sNil))))
def FF__law_book : FF := fun ss => finF ss (ev__law_book (startE 9 ss))
def ev__law_int : Sv :=
  (sSeq (sIf (bOr (bNot (fTru (fOp gIsi (fV 0) (fC (.opq (.ty "int")))))) (fTru (fOp gIsi (fV 0) (fC (.opq (.ty "bool")))))) (sSeq (sRet (fC (.bl false))) sNil) sNil) (sSeq (sRet (fChain gLe gLe (fV 1) (fV 0) (fV 2))) sNil))
def FF__law_int : FF := fun ss => finF ss (ev__law_int (startE 3 ss))
def ev__law_made : Sv :=
  (sSeq (sRet (vAnd (fOp gIsi (fV 0) (fC (.opq (.ty "tuple")))) (fChain gLe gLe (fV 1) (fUn gLen (fV 0)) (fV 2)))) sNil)
def FF__law_made : FF := fun ss => finF ss (ev__law_made (startE 3 ss))
def ev__law_good_way : Sv :=
  (sSeq (sIf (bOr (bNot (fTru (fCall 3 FF__law_made (gVal (fFz (fV 0)) (gVal (fFz (fC (.int 2))) (gVal (fFz (fC (.int 2))) gNil)))))) (bNot (fTru (fCall 3 FF__law_int (gVal (fFz (fOp gIx (fV 0) (fC (.int 0)))) (gVal (fFz (fC (.int 0))) (gVal (fFz (fC (.int 9))) gNil))))))) (sSeq (sRet (fC (.bl false))) sNil) sNil) (sSeq (sIf (bNot (fTru (fCall 3 FF__law_made (gVal (fFz (fOp gIx (fV 0) (fC (.int 1)))) (gVal (fFz (fC (.int 0))) (gVal (fFz (fC (.int 2))) gNil)))))) (sSeq (sRet (fC (.bl false))) sNil) sNil) (sSeq (sIf (fB (fOp gNe (fLc (iSeq (fFz (fOp gIx (fV 0) (fC (.int 1))))) [2] (nmG 2) (bNot (fTru (fCall 3 FF__law_int (gVal (fFz (fV 2)) (gVal (fFz (fC (.int 0))) (gVal (fFz (fOp DL.gSub (fV 1) (fC (.int 1)))) gNil)))))) (fFz (fC (.int 1)))) (fLst aNil))) (sSeq (sRet (fC (.bl false))) sNil) sNil) (sSeq (sRet (vOr (fOp gLt (fUn gLen (fOp gIx (fV 0) (fC (.int 1)))) (fC (.int 2))) (fOp gLe (fOp gIx (fOp gIx (fV 0) (fC (.int 1))) (fC (.int 0))) (fOp gIx (fOp gIx (fV 0) (fC (.int 1))) (fC (.int 1)))))) sNil))))
def FF__law_good_way : FF := fun ss => finF ss (ev__law_good_way (startE 3 ss))
def ev__law_good : Sv :=
  (sSeq (sIf (bNot (fTru (fCall 3 FF__law_made (gVal (fFz (fV 0)) (gVal (fFz (fC (.int 1))) (gVal (fFz (fC (.int 3))) gNil)))))) (sSeq (sRet (fC (.bl false))) sNil) sNil) (sSeq (sFor (iSeq (fFz (fV 0))) (nmG 1) (sSeq (sIf (bNot (fTru (fCall 3 FF__law_made (gVal (fFz (fV 1)) (gVal (fFz (fC (.int 1))) (gVal (fFz (fC (.int 3))) gNil)))))) (sSeq (sRet (fC (.bl false))) sNil) sNil) (sSeq (sFor (iEnu (aCons (fFz (fV 1)) aNil)) (tupG 2 (consG (nmG 2) (consG (nmG 3) nilG))) (sSeq (sIf (bOr (bNot (fTru (fCall 2 FF__law_good_way (gVal (fFz (fV 3)) (gVal (fFz (fUn gLen (fV 0))) gNil))))) (fB (fOp (gInS false) (fV 3) (fSl (fV 1) oNo (oSome (fV 2)))))) (sSeq (sRet (fC (.bl false))) sNil) sNil) sNil)) sNil))) (sSeq (sRet (fC (.bl true))) sNil)))
def FF__law_good : FF := fun ss => finF ss (ev__law_good (startE 4 ss))
def ev__law_bent (F : FF) : Sv :=
  (sSeq (sIf (bAnd (fTru (fOp gIsi (fV 1) (fC (.opq (.ty "tuple"))))) (bAnd (fB (fOp gNe (fV 1) (fTup aNil))) (fB (fOp gGt (fCall 2 FF__law_pick (gIo 0 (gVal (fFz (fC (.int 7))) gNil))) (fC (.int 0)))))) (sSeq (sPar 2 3 (fCall 2 FF__law_pick (gIo 0 (gVal (fFz (fUn gLen (fV 1))) gNil))) (fCall 2 FF__law_pick (gIo 0 (gVal (fFz (fC (.int 9))) gNil)))) (sSeq (sIf (fB (fOp gEq (fV 3) (fC (.int 0)))) (sSeq (sRet (fOp gAdd (fSl (fV 1) oNo (oSome (fV 2))) (fSl (fV 1) (oSome (fOp gAdd (fV 2) (fC (.int 1)))) oNo))) sNil) sNil) (sSeq (sIf (fB (fOp gEq (fV 3) (fC (.int 1)))) (sSeq (sRet (fOp gAdd (fOp gAdd (fSl (fV 1) oNo (oSome (fV 2))) (fSl (fV 1) (oSome (fV 2)) (oSome (fOp gAdd (fV 2) (fC (.int 1)))))) (fSl (fV 1) (oSome (fV 2)) oNo))) sNil) sNil) (sSeq (sIf (fB (fOp gEq (fV 3) (fC (.int 2)))) (sSeq (sRet (fUn gRev (fV 1))) sNil) sNil) (sSeq (sRet (fOp gAdd (fOp gAdd (fSl (fV 1) oNo (oSome (fV 2))) (fTup (aCons (fFz (fCall 2 F (gIo 0 (gVal (fFz (fOp gIx (fV 1) (fV 2))) gNil)))) aNil))) (fSl (fV 1) (oSome (fOp gAdd (fV 2) (fC (.int 1)))) oNo))) sNil))))) sNil) (sSeq (sSet 4 (fLst (aCons (fFz (fC .non)) (aCons (fFz (fC (.bl true))) (aCons (fFz (fC (.bl false))) (aCons (fFz (fC (.int 0))) (aCons (fFz (fC (.int 1))) (aCons (fFz (fC (.int 2))) (aCons (fFz (fC (.int 3))) (aCons (fFz (fC (.int 9))) (aCons (fFz (fC (.int 10))) (aCons (fFz (fUn gNeg (fC (.int 1)))) (aCons (fFz (fOp gPow (fC (.int 10)) (fC (.int 30)))) (aCons (fFz (fC (.str ""))) (aCons (fFz (fC (.str "0"))) (aCons (fFz (fTup aNil)) (aCons (fFz (fLst aNil)) (aCons (fFz (fTup (aCons (fFz (fC (.int 0))) aNil))) aNil)))))))))))))))))) (sSeq (sRet (fOp gIx (fOp gAdd (fV 4) (fLst (aCons (fFz (fTup (aCons (fFz (fC (.int 1))) (aCons (fFz (fC (.int 0))) aNil)))) (aCons (fFz (fTup (aCons (fFz (fC (.int 0))) (aCons (fFz (fTup aNil)) aNil)))) (aCons (fFz (fTup (aCons (fFz (fC (.int 1))) (aCons (fFz (fTup (aCons (fFz (fC (.int 0))) aNil))) aNil)))) (aCons (fFz (fLst (aCons (fFz (fC (.int 0))) aNil))) (aCons (fFz (fTup (aCons (fFz (fC (.int 0))) (aCons (fFz (fC (.int 0))) aNil)))) aNil))))))) (fCall 2 FF__law_pick (gIo 0 (gVal (fFz (fC (.int 21))) gNil))))) sNil)))
def FF__law_bent : Nat → FF
  | 0 => fun _ => .stk
  | n + 1 => fun ss => finF ss (ev__law_bent (FF__law_bent n) (startE 5 ss))
def ev_law (wd : Str → Option Str) : Sv :=
  (sSeq (sFor (iR1 (aCons (fFz (fOp gAdd (fOp gMin (fUn gLen (fV 0)) (fC (.int 8))) (fC (.int 1)))) aNil)) (nmG 1) (sSeq (sSet 2 (fCall 2 FF__law_spring (gVal (fFz (fV 0)) (gVal (fFz (fV 1)) gNil)))) (sSeq (sSet 3 (fCall 2 FF__law_book (gIo 2 (gVal (fFz (fC (.int 3))) gNil)))) (sSeq (sSet 4 (fLst (aCons (fFz (fV 3)) (aCons (fFz (fUn gList (fV 3))) (aCons (fFz (fSl (fV 3) oNo (oSome (fC (.int 1))))) (aCons (fFz (fOp gAdd (fV 3) (fTup (aCons (fFz (fTup aNil)) aNil)))) (aCons (fFz (fOp gMul (fV 3) (fC (.int 2)))) aNil))))))) (sSeq (sExpr (fApp 4 (fFz (fOp gAdd (fTup (aCons (fFz (fOp gAdd (fOp gIx (fV 3) (fC (.int 0))) (fSl (fOp gIx (fV 3) (fC (.int 0))) oNo (oSome (fC (.int 1)))))) aNil)) (fSl (fV 3) (oSome (fC (.int 1))) oNo))))) (sSeq (sSet 4 (fOp gAdd (fV 4) (fLc (iR1 (aCons (fFz (fC (.int 40))) aNil)) [13] (nmG 13) bYes (fFz (fCall 2 (FF__law_bent 8) (gIo 2 (gVal (fFz (fV 3)) gNil))))))) (sSeq (sIf (fB (fOp gNe (fLc (iSeq (fFz (fV 4))) [14] (nmG 14) (bNot (fTru (fCall 2 (FF__law_twins 8) (gVal (fFz (fCall 1 FF_is_book (gVal (fFz (fV 14)) gNil))) (gVal (fFz (fCall 1 FF__law_good (gVal (fFz (fV 14)) gNil))) gNil))))) (fFz (fC (.int 1)))) (fLst aNil))) (sSeq (sRet (fC (.bl false))) sNil) sNil) (sSeq (sFor (iR1 (aCons (fFz (fUn gLen (fV 3))) aNil)) (nmG 5) (sSeq (sSet 6 (fUn gLen (fOp gIx (fV 3) (fV 5)))) (sSeq (sFor (iR1 (aCons (fFz (fV 6)) aNil)) (nmG 7) (sSeq (sSet 8 (fUn gTuple (fLc (iSeq (fFz (fOp gIx (fV 3) (fV 5)))) [14] (nmG 14) (fB (fOp gNe (fV 14) (fOp gIx (fOp gIx (fV 3) (fV 5)) (fV 7)))) (fFz (fV 14))))) (sSeq (sSet 9 (fOp gAdd (fOp gAdd (fSl (fV 3) oNo (oSome (fV 5))) (fTup (aCons (fFz (fV 8)) aNil))) (fSl (fV 3) (oSome (fOp gAdd (fV 5) (fC (.int 1)))) oNo))) (sSeq (sSet 10 (vIf (fB (fOp gGt (fV 6) (fC (.int 1)))) (fLst (aCons (fFz (fV 9)) aNil)) (fC (.str "way")))) (sSeq (sSet 11 (fCame wd (fCall 3 FF_without (gVal (fFz (fV 3)) (gVal (fFz (fV 5)) (gVal (fFz (fV 7)) gNil)))))) (sSeq (sIf (bNot (fTru (fCall 2 (FF__law_twins 8) (gVal (fFz (fV 11)) (gVal (fFz (fV 10)) gNil))))) (sSeq (sRet (fC (.bl false))) sNil) sNil) sNil)))))) (sSeq (sFor (iSeq (fFz (fLst (aCons (fFz (fC .non)) (aCons (fFz (fUn gNeg (fC (.int 1)))) (aCons (fFz (fV 6)) (aCons (fFz (fC (.bl true))) (aCons (fFz (fC (.str "0"))) aNil)))))))) (nmG 12) (sSeq (sIf (fB (fOp gNe (fCame wd (fCall 3 FF_without (gVal (fFz (fV 3)) (gVal (fFz (fV 5)) (gVal (fFz (fV 12)) gNil))))) (fC (.str "way")))) (sSeq (sRet (fC (.bl false))) sNil) sNil) sNil)) sNil)))) (sSeq (sFor (iSeq (fFz (fLst (aCons (fFz (fC .non)) (aCons (fFz (fUn gNeg (fC (.int 1)))) (aCons (fFz (fUn gLen (fV 3))) (aCons (fFz (fC (.bl true))) (aCons (fFz (fC (.str "0"))) aNil)))))))) (nmG 12) (sSeq (sIf (fB (fOp gNe (fCame wd (fCall 3 FF_without (gVal (fFz (fV 3)) (gVal (fFz (fV 12)) (gVal (fFz (fC .non)) gNil))))) (fC (.str "recipe")))) (sSeq (sRet (fC (.bl false))) sNil) sNil) sNil)) sNil))))))))) (sSeq (sRet (fC (.bl true))) sNil))
def FF_law (wd : Str → Option Str) : FF := fun ss => finF ss (ev_law wd (startE 15 ss))
end K01
namespace K01
open PySem PySem.Spec
open PyProof.Rows hiding St
open L2 DL
def top (i : Nat) : Stmt := PySem.Challenge.pw_anytotals_k01_books_recognized.main.body.getD i (.Pass ⟨0, 0, 0, 0⟩)
abbrev s_is_within : Stmt := top 11
abbrev s_is_wide : Stmt := top 12
abbrev s_is_way : Stmt := top 13
abbrev s_is_recipe : Stmt := top 14
abbrev s_is_fit : Stmt := top 15
abbrev s_look_at_book : Stmt := top 16
abbrev s_look_at_lone_recipe : Stmt := top 17
abbrev s_look_at_way : Stmt := top 18
abbrev s_less_by : Stmt := top 19
abbrev s_look_at_less : Stmt := top 20
abbrev s_is_book : Stmt := top 21
abbrev s_without : Stmt := top 22
abbrev s__law_spring : Stmt := top 24
abbrev s__law_pick : Stmt := top 25
abbrev s__law_kind : Stmt := top 26
abbrev s__law_twins : Stmt := top 27
abbrev s__law_way : Stmt := top 28
abbrev s__law_book : Stmt := top 29
abbrev s__law_error_of : Stmt := top 30
abbrev s__law_came : Stmt := top 31
abbrev s__law_int : Stmt := top 32
abbrev s__law_made : Stmt := top 33
abbrev s__law_good_way : Stmt := top 34
abbrev s__law_good : Stmt := top 35
abbrev s__law_bent : Stmt := top 36
abbrev s_law : Stmt := top 37
section
variable {P : Program} {w : World} {K : PySem.W.Frag} {mg : Str → Option Value} {base : Heap} {T : List (Addr × Str)}
theorem sc_is_within : FnScope ["value", "low", "high"] ["value", "low", "high"] (defScope s_is_within) := ⟨rfl, rfl, rfl, by decide +kernel, rfl, by decide +kernel, by decide +kernel⟩
theorem ok_is_within (B : Bi mg) (d : Def K mg "is_within" ["value", "low", "high"] s_is_within) : Has P w K mg base T "is_within" ["value", "low", "high"] 1 FF_is_within :=
  Has.of d sc_is_within fun f cdv A outer s H E hr ss hl hn => ⟨ev_is_within, (dss_cons (ds_ret (de_and (de_callB2 call_isi d_isi rfl B.isinstance PyProof.Rows.boot_isinstance (de_v 0) (de_ty rfl B.int PyProof.Rows.boot_int)) (de_and (de_not (de_callB2 call_isi d_isi rfl B.isinstance PyProof.Rows.boot_isinstance (de_v 0) (de_ty rfl B.bool PyProof.Rows.boot_bool))) (de_one (de_chain op_le op_le d_le d_le (de_v 1) (de_v 0) (de_v 2)))))) dss_nil), rfl⟩
theorem sc_is_wide : FnScope ["value", "low", "high"] ["value", "low", "high"] (defScope s_is_wide) := ⟨rfl, rfl, rfl, by decide +kernel, rfl, by decide +kernel, by decide +kernel⟩
theorem ok_is_wide (B : Bi mg) (d : Def K mg "is_wide" ["value", "low", "high"] s_is_wide) : Has P w K mg base T "is_wide" ["value", "low", "high"] 1 FF_is_wide :=
  Has.of d sc_is_wide fun f cdv A outer s H E hr ss hl hn => ⟨ev_is_wide, (dss_cons (ds_ret (de_and (de_callB2 call_isi d_isi rfl B.isinstance PyProof.Rows.boot_isinstance (de_v 0) (de_ty rfl B.tuple PyProof.Rows.boot_tuple)) (de_one (de_chain op_le op_le d_le d_le (de_v 1) (de_callB1 c_len d_len rfl B.len PySem.boot_len (de_v 0)) (de_v 2))))) dss_nil), rfl⟩
theorem sc_is_way : FnScope ["value", "many", "call"] ["value", "many"] (defScope s_is_way) := ⟨rfl, rfl, rfl, by decide +kernel, rfl, by decide +kernel, by decide +kernel⟩
theorem ok_is_way (B : Bi mg) (h_is_wide : Has P w K mg base T "is_wide" ["value", "low", "high"] 1 FF_is_wide) (h_is_within : Has P w K mg base T "is_within" ["value", "low", "high"] 1 FF_is_within) (d : Def K mg "is_way" ["value", "many"] s_is_way) : Has P w K mg base T "is_way" ["value", "many"] 2 FF_is_way :=
  Has.of d sc_is_way fun f cdv A outer s H E hr ss hl hn => ⟨ev_is_way, (dss_cons (ds_if (dt_w (dw_or (dt_not (dt_tru (h_is_wide.call (hr.mono (by omega)) pxD (dag_val (df_of (de_v 0)) (dag_val (df_of de_int) (dag_val (df_of de_int) dag_nil)))))) (dw_or (dt_not (dt_tru (h_is_within.call (hr.mono (by omega)) pxD (dag_val (df_of (de_ix ix_seq d_ix (de_v 0) de_int (fun _ _ => rfl))) (dag_val (df_of de_int) (dag_val (df_of de_int) dag_nil)))))) (dw_or1 (dt_not (dt_tru (h_is_wide.call (hr.mono (by omega)) pxD (dag_val (df_of (de_ix ix_seq d_ix (de_v 0) de_int (fun _ _ => rfl))) (dag_val (df_of de_int) (dag_val (df_of de_int) dag_nil)))))))))) (dss_cons (ds_ret de_bl) dss_nil) dss_nil) (dss_cons (ds_ret (de_and (de_callB1 (cr_all rfl) d_all rfl B.all PyProof.Rows.boot_all (de_lc (own := [("call", 2)]) rfl sc_is_way.nd (di_seq (df_of (de_ix ix_seq d_ix (de_v 0) de_int (fun _ _ => rfl)))) (blkOk_by (N := ["value", "many", "call"]) (sc := defScope s_is_way) (own := [("call", 2)]) (by decide +kernel)) (fun _ _ _ _ _ => (dg_name sc_is_way.nd rfl (by first | exact .inl rfl | exact .inr rfl) (by decide))) (fun _ _ _ _ _ => dts_nil) (fun _ _ _ _ _ => df_of (h_is_within.call (hr.mono (by omega)) pass_W0 (dag_val (df_of (de_v 2)) (dag_val (df_of de_int) (dag_val (df_of (de_op op_sub d_sub (de_v 1) de_int)) dag_nil))))))) (de_one (de_cmp (op_eqD hr.units) d_eq (de_callT1 call_list_of d_list rfl B.list PyProof.Rows.boot_list (de_ix ix_seq d_ix (de_v 0) de_int (fun _ _ => rfl))) (de_callB1 c_sorted d_sorted rfl B.sorted PyProof.Rows.boot_sorted (de_ix ix_seq d_ix (de_v 0) de_int (fun _ _ => rfl))) rfl)))) dss_nil)), rfl⟩
theorem sc_is_recipe : FnScope ["value", "many", "way"] ["value", "many"] (defScope s_is_recipe) := ⟨rfl, rfl, rfl, by decide +kernel, rfl, by decide +kernel, by decide +kernel⟩
theorem ok_is_recipe (B : Bi mg) (h_is_way : Has P w K mg base T "is_way" ["value", "many"] 2 FF_is_way) (h_is_wide : Has P w K mg base T "is_wide" ["value", "low", "high"] 1 FF_is_wide) (d : Def K mg "is_recipe" ["value", "many"] s_is_recipe) : Has P w K mg base T "is_recipe" ["value", "many"] 3 FF_is_recipe :=
  Has.of d sc_is_recipe fun f cdv A outer s H E hr ss hl hn => ⟨ev_is_recipe, (dss_cons (ds_if (dt_w (dw_or (dt_not (dt_tru (h_is_wide.call (hr.mono (by omega)) pxD (dag_val (df_of (de_v 0)) (dag_val (df_of de_int) (dag_val (df_of de_int) dag_nil)))))) (dw_or1 (dt_not (dt_tru (de_callB1 (cr_all rfl) d_all rfl B.all PyProof.Rows.boot_all (de_lc (own := [("way", 2)]) rfl sc_is_recipe.nd (di_seq (df_of (de_v 0))) (blkOk_by (N := ["value", "many", "way"]) (sc := defScope s_is_recipe) (own := [("way", 2)]) (by decide +kernel)) (fun _ _ _ _ _ => (dg_name sc_is_recipe.nd rfl (by first | exact .inl rfl | exact .inr rfl) (by decide))) (fun _ _ _ _ _ => dts_nil) (fun _ _ _ _ _ => df_of (h_is_way.call (hr.mono (by omega)) pass_W0 (dag_val (df_of (de_v 2)) (dag_val (df_of (de_v 1)) dag_nil))))))))))) (dss_cons (ds_ret de_bl) dss_nil) dss_nil) (dss_cons (ds_ret (de_cmp (op_eqD hr.units) d_eq (de_lenW rfl (hu65 hr) rfl B.len rfl B.set (de_v 0)) (de_callB1 c_len d_len rfl B.len PySem.boot_len (de_v 0)) rfl)) dss_nil)), rfl⟩
theorem sc_is_fit : FnScope ["value", "recipe"] ["value"] (defScope s_is_fit) := ⟨rfl, rfl, rfl, by decide +kernel, rfl, by decide +kernel, by decide +kernel⟩
theorem ok_is_fit (B : Bi mg) (h_is_recipe : Has P w K mg base T "is_recipe" ["value", "many"] 3 FF_is_recipe) (h_is_wide : Has P w K mg base T "is_wide" ["value", "low", "high"] 1 FF_is_wide) (d : Def K mg "is_fit" ["value"] s_is_fit) : Has P w K mg base T "is_fit" ["value"] 4 FF_is_fit :=
  Has.of d sc_is_fit fun f cdv A outer s H E hr ss hl hn => ⟨ev_is_fit, (dss_cons (ds_ret (de_and (h_is_wide.call (hr.mono (by omega)) pxD (dag_val (df_of (de_v 0)) (dag_val (df_of de_int) (dag_val (df_of de_int) dag_nil)))) (de_one (de_callB1 (cr_all rfl) d_all rfl B.all PyProof.Rows.boot_all (de_lc (own := [("recipe", 1)]) rfl sc_is_fit.nd (di_seq (df_of (de_v 0))) (blkOk_by (N := ["value", "recipe"]) (sc := defScope s_is_fit) (own := [("recipe", 1)]) (by decide +kernel)) (fun _ _ _ _ _ => (dg_name sc_is_fit.nd rfl (by first | exact .inl rfl | exact .inr rfl) (by decide))) (fun _ _ _ _ _ => dts_nil) (fun _ _ _ _ _ => df_of (h_is_recipe.call (hr.mono (by omega)) pass_W0 (dag_val (df_of (de_v 1)) (dag_val (df_of (de_callB1 c_len d_len rfl B.len PySem.boot_len (de_v 0))) dag_nil))))))))) dss_nil), rfl⟩
theorem sc_look_at_book : FnScope ["book"] ["book"] (defScope s_look_at_book) := ⟨rfl, rfl, rfl, by decide +kernel, rfl, by decide +kernel, by decide +kernel⟩
theorem ok_look_at_book (B : Bi mg) (h_is_fit : Has P w K mg base T "is_fit" ["value"] 4 FF_is_fit) (er_InvalidBook : Err K mg "InvalidBook") (d : Def K mg "look_at_book" ["book"] s_look_at_book) : Has P w K mg base T "look_at_book" ["book"] 5 FF_look_at_book :=
  Has.of d sc_look_at_book fun f cdv A outer s H E hr ss hl hn => ⟨ev_look_at_book, (dss_cons (ds_if (dt_not (dt_tru (h_is_fit.call (hr.mono (by omega)) pxD (dag_val (df_of (de_v 0)) dag_nil)))) (dss_cons (ds_raise rfl tkD er_InvalidBook rfl) dss_nil) dss_nil) dss_nil), rfl⟩
theorem sc_look_at_lone_recipe : FnScope ["book", "recipe"] ["book", "recipe"] (defScope s_look_at_lone_recipe) := ⟨rfl, rfl, rfl, by decide +kernel, rfl, by decide +kernel, by decide +kernel⟩
theorem ok_look_at_lone_recipe (B : Bi mg) (h_is_within : Has P w K mg base T "is_within" ["value", "low", "high"] 1 FF_is_within) (er_InvalidRecipe : Err K mg "InvalidRecipe") (d : Def K mg "look_at_lone_recipe" ["book", "recipe"] s_look_at_lone_recipe) : Has P w K mg base T "look_at_lone_recipe" ["book", "recipe"] 2 FF_look_at_lone_recipe :=
  Has.of d sc_look_at_lone_recipe fun f cdv A outer s H E hr ss hl hn => ⟨ev_look_at_lone_recipe, (dss_cons (ds_if (dt_not (dt_tru (h_is_within.call (hr.mono (by omega)) pxD (dag_val (df_of (de_v 1)) (dag_val (df_of de_int) (dag_val (df_of (de_op op_sub d_sub (de_callB1 c_len d_len rfl B.len PySem.boot_len (de_v 0)) de_int)) dag_nil)))))) (dss_cons (ds_raise rfl tkD er_InvalidRecipe rfl) dss_nil) dss_nil) dss_nil), rfl⟩
theorem sc_look_at_way : FnScope ["book", "recipe", "way"] ["book", "recipe", "way"] (defScope s_look_at_way) := ⟨rfl, rfl, rfl, by decide +kernel, rfl, by decide +kernel, by decide +kernel⟩
theorem ok_look_at_way (B : Bi mg) (h_is_within : Has P w K mg base T "is_within" ["value", "low", "high"] 1 FF_is_within) (h_look_at_lone_recipe : Has P w K mg base T "look_at_lone_recipe" ["book", "recipe"] 2 FF_look_at_lone_recipe) (er_InvalidWay : Err K mg "InvalidWay") (d : Def K mg "look_at_way" ["book", "recipe", "way"] s_look_at_way) : Has P w K mg base T "look_at_way" ["book", "recipe", "way"] 3 FF_look_at_way :=
  Has.of d sc_look_at_way fun f cdv A outer s H E hr ss hl hn => ⟨ev_look_at_way, (dss_cons (ds_expr (h_look_at_lone_recipe.call (hr.mono (by omega)) pxD (dag_val (df_of (de_v 0)) (dag_val (df_of (de_v 1)) dag_nil)))) (dss_cons (ds_if (dt_not (dt_tru (h_is_within.call (hr.mono (by omega)) pxD (dag_val (df_of (de_v 2)) (dag_val (df_of de_int) (dag_val (df_of (de_op op_sub d_sub (de_callB1 c_len d_len rfl B.len PySem.boot_len (de_ix ix_seq d_ix (de_v 0) (de_v 1) (fun _ _ => rfl))) de_int)) dag_nil)))))) (dss_cons (ds_raise rfl tkD er_InvalidWay rfl) dss_nil) dss_nil) dss_nil)), rfl⟩
theorem sc_less_by : FnScope ["book", "recipe", "way", "ways"] ["book", "recipe", "way"] (defScope s_less_by) := ⟨rfl, rfl, rfl, by decide +kernel, rfl, by decide +kernel, by decide +kernel⟩
theorem ok_less_by (B : Bi mg) (d : Def K mg "less_by" ["book", "recipe", "way"] s_less_by) : Has P w K mg base T "less_by" ["book", "recipe", "way"] 1 FF_less_by :=
  Has.of d sc_less_by fun f cdv A outer s H E hr ss hl hn => ⟨ev_less_by, (dss_cons (ds_set (i := 3) sc_less_by.nd rfl (by first | exact .inl rfl | exact .inr rfl) (de_op op_add4 d_add (de_sl (de_ix ix_seq d_ix (de_v 0) (de_v 1) (fun _ _ => rfl)) do_none (do_some (de_v 2))) (de_sl (de_ix ix_seq d_ix (de_v 0) (de_v 1) (fun _ _ => rfl)) (do_some (de_op op_add4 d_add (de_v 2) de_int)) do_none))) (dss_cons (ds_ret (de_op op_add4 d_add (de_op op_add4 d_add (de_sl (de_v 0) do_none (do_some (de_v 1))) (de_tup (da_cons (df_of (de_v 3)) da_nil))) (de_sl (de_v 0) (do_some (de_op op_add4 d_add (de_v 1) de_int)) do_none))) dss_nil)), rfl⟩
theorem sc_look_at_less : FnScope ["book", "recipe", "way"] ["book", "recipe", "way"] (defScope s_look_at_less) := ⟨rfl, rfl, rfl, by decide +kernel, rfl, by decide +kernel, by decide +kernel⟩
theorem ok_look_at_less (B : Bi mg) (h_look_at_way : Has P w K mg base T "look_at_way" ["book", "recipe", "way"] 3 FF_look_at_way) (er_InvalidWay : Err K mg "InvalidWay") (d : Def K mg "look_at_less" ["book", "recipe", "way"] s_look_at_less) : Has P w K mg base T "look_at_less" ["book", "recipe", "way"] 4 FF_look_at_less :=
  Has.of d sc_look_at_less fun f cdv A outer s H E hr ss hl hn => ⟨ev_look_at_less, (dss_cons (ds_expr (h_look_at_way.call (hr.mono (by omega)) pxD (dag_val (df_of (de_v 0)) (dag_val (df_of (de_v 1)) (dag_val (df_of (de_v 2)) dag_nil))))) (dss_cons (ds_if (dt_cmp (op_eqD hr.units) d_eq (de_callB1 c_len d_len rfl B.len PySem.boot_len (de_ix ix_seq d_ix (de_v 0) (de_v 1) (fun _ _ => rfl))) de_int rfl) (dss_cons (ds_raise rfl tkD er_InvalidWay rfl) dss_nil) dss_nil) dss_nil)), rfl⟩
theorem sc_is_book : FnScope ["value"] ["value"] (defScope s_is_book) := ⟨rfl, rfl, rfl, by decide +kernel, rfl, by decide +kernel, by decide +kernel⟩
theorem ok_is_book (B : Bi mg) (h_is_fit : Has P w K mg base T "is_fit" ["value"] 4 FF_is_fit) (d : Def K mg "is_book" ["value"] s_is_book) : Has P w K mg base T "is_book" ["value"] 5 FF_is_book :=
  Has.of d sc_is_book fun f cdv A outer s H E hr ss hl hn => ⟨ev_is_book, (dss_cons (ds_ret (h_is_fit.call (hr.mono (by omega)) pxD (dag_val (df_of (de_v 0)) dag_nil))) dss_nil), rfl⟩
theorem sc_without : FnScope ["book", "recipe", "way"] ["book", "recipe", "way"] (defScope s_without) := ⟨rfl, rfl, rfl, by decide +kernel, rfl, by decide +kernel, by decide +kernel⟩
theorem ok_without (B : Bi mg) (h_less_by : Has P w K mg base T "less_by" ["book", "recipe", "way"] 1 FF_less_by) (h_look_at_book : Has P w K mg base T "look_at_book" ["book"] 5 FF_look_at_book) (h_look_at_less : Has P w K mg base T "look_at_less" ["book", "recipe", "way"] 4 FF_look_at_less) (d : Def K mg "without" ["book", "recipe", "way"] s_without) : Has P w K mg base T "without" ["book", "recipe", "way"] 6 FF_without :=
  Has.of d sc_without fun f cdv A outer s H E hr ss hl hn => ⟨ev_without, (dss_cons (ds_expr (h_look_at_book.call (hr.mono (by omega)) pxD (dag_val (df_of (de_v 0)) dag_nil))) (dss_cons (ds_expr (h_look_at_less.call (hr.mono (by omega)) pxD (dag_val (df_of (de_v 0)) (dag_val (df_of (de_v 1)) (dag_val (df_of (de_v 2)) dag_nil))))) (dss_cons (ds_ret (h_less_by.call (hr.mono (by omega)) pxD (dag_val (df_of (de_v 0)) (dag_val (df_of (de_v 1)) (dag_val (df_of (de_v 2)) dag_nil))))) dss_nil))), rfl⟩
theorem sc__law_spring : FnScope ["_law_script", "_law_at", "_law_cell", "_law_mixed"] ["_law_script", "_law_at"] (defScope s__law_spring) := ⟨rfl, rfl, rfl, by decide +kernel, rfl, by decide +kernel, by decide +kernel⟩
theorem ok__law_spring (B : Bi mg) (d : Def K mg "_law_spring" ["_law_script", "_law_at"] s__law_spring) : Has P w K mg base T "_law_spring" ["_law_script", "_law_at"] 1 FF__law_spring :=
  Has.of d sc__law_spring fun f cdv A outer s H E hr ss hl hn => ⟨ev__law_spring, (dss_cons (ds_set (i := 2) sc__law_spring.nd rfl (by first | exact .inl rfl | exact .inr rfl) de_int) (dss_cons (ds_if (dt_cmp op_lt d_lt (de_v 1) (de_callB1 c_len d_len rfl B.len PySem.boot_len (de_v 0)) rfl) (dss_cons (ds_set (i := 2) sc__law_spring.nd rfl (by first | exact .inl rfl | exact .inr rfl) (de_callB1 call_abs d_abs rfl B.abs PyProof.Rows.boot_abs (de_ix ix_seq d_ix (de_v 0) (de_v 1) (fun _ _ => rfl)))) dss_nil) dss_nil) (dss_cons (ds_set (i := 3) sc__law_spring.nd rfl (by first | exact .inl rfl | exact .inr rfl) (de_op op_mod d_mod (de_callT1 call_int1 d_int rfl B.int PyProof.Rows.boot_int (de_op op_add4 d_add (de_op op_add4 d_add (de_op op_mul3 d_mul (de_v 2) de_int) (de_op op_mul3 d_mul de_int (de_v 1))) de_int)) de_int)) (dss_cons (ds_ret (de_lst (da_cons (df_of (de_if (dt_cmp op_ge d_ge (de_v 2) (de_op op_pow d_pow de_int de_int) rfl) (de_v 2) de_int)) (da_cons (df_of (de_v 3)) da_nil)))) dss_nil)))), rfl⟩
theorem sc__law_pick : FnScope ["_law_spring_here", "_law_many", "_law_digit"] ["_law_spring_here", "_law_many"] (defScope s__law_pick) := ⟨rfl, rfl, rfl, by decide +kernel, rfl, by decide +kernel, by decide +kernel⟩
theorem ok__law_pick (B : Bi mg) (d : Def K mg "_law_pick" ["_law_spring_here", "_law_many"] s__law_pick) : Has P w K mg base T "_law_pick" ["_law_spring_here", "_law_many"] 1 FF__law_pick :=
  Has.of d sc__law_pick fun f cdv A outer s H E hr ss hl hn => ⟨ev__law_pick, (dss_cons (ds_if (dt_cmp op_gt d_gt (de_ix ix_seq d_ix (de_v 0) de_int (fun _ _ => rfl)) de_int rfl) (dss_cons (ds_set (i := 2) sc__law_pick.nd rfl (by first | exact .inl rfl | exact .inr rfl) (de_op op_mod d_mod (de_callT1 call_int1 d_int rfl B.int PyProof.Rows.boot_int (de_ix ix_seq d_ix (de_v 0) de_int (fun _ _ => rfl))) (de_v 1))) (dss_cons (ds_setIx 0 (df_of (de_op op_fdivW d_div (de_ix ix_seq d_ix (de_v 0) de_int (fun _ _ => rfl)) (de_v 1))) de_int) (dss_cons (ds_ret (de_v 2)) dss_nil))) dss_nil) (dss_cons (ds_setIx 0 (df_of (de_op op_mod d_mod (de_callT1 call_int1 d_int rfl B.int PyProof.Rows.boot_int (de_op op_add4 d_add (de_op op_mul3 d_mul (de_ix ix_seq d_ix (de_v 0) de_int (fun _ _ => rfl)) de_int) de_int)) de_int)) de_int) (dss_cons (ds_ret (de_op op_mod d_mod (de_callT1 call_int1 d_int rfl B.int PyProof.Rows.boot_int (de_op op_fdivW d_div (de_ix ix_seq d_ix (de_v 0) de_int (fun _ _ => rfl)) de_int)) (de_v 1))) dss_nil))), rfl⟩
theorem sc__law_kind : FnScope ["_law_value"] ["_law_value"] (defScope s__law_kind) := ⟨rfl, rfl, rfl, by decide +kernel, rfl, by decide +kernel, by decide +kernel⟩
theorem ok__law_kind (B : Bi mg) (d : Def K mg "_law_kind" ["_law_value"] s__law_kind) : Has P w K mg base T "_law_kind" ["_law_value"] 1 FF__law_kind :=
  Has.of d sc__law_kind fun f cdv A outer s H E hr ss hl hn => ⟨ev__law_kind, (dss_cons (ds_if (dt_w (dw_or (dt_cmp op_isN d_isN (de_v 0) de_non rfl) (dw_or1 (dt_tru (de_callB2 call_isi d_isi rfl B.isinstance PyProof.Rows.boot_isinstance (de_v 0) (de_ty rfl B.bool PyProof.Rows.boot_bool)))))) (dss_cons (ds_ret (de_if (dt_cmp op_isN d_isN (de_v 0) de_non rfl) de_int de_int)) dss_nil) dss_nil) (dss_cons (ds_if (dt_tru (de_isi2 rfl B.isinstance PyProof.Rows.boot_isinstance rfl B.list PyProof.Rows.boot_list rfl B.tuple PyProof.Rows.boot_tuple (de_v 0))) (dss_cons (ds_ret (de_if (dt_tru (de_callB2 call_isi d_isi rfl B.isinstance PyProof.Rows.boot_isinstance (de_v 0) (de_ty rfl B.list PyProof.Rows.boot_list))) de_int de_int)) dss_nil) dss_nil) (dss_cons (ds_ret (de_if (dt_tru (de_callB2 call_isi d_isi rfl B.isinstance PyProof.Rows.boot_isinstance (de_v 0) (de_ty rfl B.int PyProof.Rows.boot_int))) de_int (de_if (dt_tru (de_callB2 call_isi d_isi rfl B.isinstance PyProof.Rows.boot_isinstance (de_v 0) (de_ty rfl B.str PyProof.Rows.boot_str))) de_int de_int))) dss_nil))), rfl⟩
theorem sc__law_twins : FnScope ["_law_one", "_law_other", "_law_a", "_law_b"] ["_law_one", "_law_other"] (defScope s__law_twins) := ⟨rfl, rfl, rfl, by decide +kernel, rfl, by decide +kernel, by decide +kernel⟩
theorem ok__law_twins (B : Bi mg) (h__law_kind : Has P w K mg base T "_law_kind" ["_law_value"] 1 FF__law_kind) (d : Def K mg "_law_twins" ["_law_one", "_law_other"] s__law_twins) : ∀ n, Has P w K mg base T "_law_twins" ["_law_one", "_law_other"] (2 + n) (FF__law_twins n)
  | 0 => Has.zero (k := 1) d sc__law_twins
  | n + 1 => Has.of (k := 2 + n) d sc__law_twins fun f cdv A outer s H E hr ss hl hn => by
    have ih := ok__law_twins B h__law_kind d n
    exact ⟨ev__law_twins (FF__law_twins n), (dss_cons (ds_if (dt_cmp (op_neD hr.units) d_ne (h__law_kind.call (hr.mono (by omega)) pxD (dag_val (df_of (de_v 0)) dag_nil)) (h__law_kind.call (hr.mono (by omega)) pxD (dag_val (df_of (de_v 1)) dag_nil)) rfl) (dss_cons (ds_ret de_bl) dss_nil) dss_nil) (dss_cons (ds_if (dt_cmp (op_inS (hu65 hr)) (d_inS (neg := false)) (h__law_kind.call (hr.mono (by omega)) pxD (dag_val (df_of (de_v 0)) dag_nil)) (de_lst (da_cons (df_of de_int) (da_cons (df_of de_int) da_nil))) rfl) (dss_cons (ds_ret (de_and (de_cmp (op_eqD hr.units) d_eq (de_callB1 c_len d_len rfl B.len PySem.boot_len (de_v 0)) (de_callB1 c_len d_len rfl B.len PySem.boot_len (de_v 1)) rfl) (de_one (de_cmp (op_eqD hr.units) d_eq (de_lc (own := [("_law_a", 2), ("_law_b", 3)]) rfl sc__law_twins.nd (di_zip rfl B.zip (da_cons (df_of (de_v 0)) (da_cons (df_of (de_v 1)) da_nil))) (blkOk_by (N := ["_law_one", "_law_other", "_law_a", "_law_b"]) (sc := defScope s__law_twins) (own := [("_law_a", 2), ("_law_b", 3)]) (by decide +kernel)) (fun _ _ _ _ _ => (dg_tup rfl (dgs_cons (dg_name sc__law_twins.nd rfl (by first | exact .inl rfl | exact .inr rfl) (by decide)) (dgs_cons (dg_name sc__law_twins.nd rfl (by first | exact .inl rfl | exact .inr rfl) (by decide)) dgs_nil)))) (fun _ _ _ _ _ => (dts_one (dt_not (dt_tru (ih.call (hr.mono (by omega)) pass_W0 (dag_val (df_of (de_v 2)) (dag_val (df_of (de_v 3)) dag_nil))))))) (fun _ _ _ _ _ => df_of de_int)) (de_lst da_nil) rfl)))) dss_nil) dss_nil) (dss_cons (ds_ret (de_cmp (op_eqD hr.units) d_eq (de_v 0) (de_v 1) rfl)) dss_nil))), rfl⟩
theorem sc__law_way : FnScope ["_law_spring_here", "_law_many", "_law_minutes", "_law_calls", "_law_turn"] ["_law_spring_here", "_law_many", "_law_minutes"] (defScope s__law_way) := ⟨rfl, rfl, rfl, by decide +kernel, rfl, by decide +kernel, by decide +kernel⟩
theorem ok__law_way (B : Bi mg) (h__law_pick : Has P w K mg base T "_law_pick" ["_law_spring_here", "_law_many"] 1 FF__law_pick) (d : Def K mg "_law_way" ["_law_spring_here", "_law_many", "_law_minutes"] s__law_way) : Has P w K mg base T "_law_way" ["_law_spring_here", "_law_many", "_law_minutes"] 2 FF__law_way :=
  Has.of d sc__law_way fun f cdv A outer s H E hr ss hl hn => ⟨ev__law_way, (dss_cons (ds_setLc (i := 3) (own := [("_law_turn", 4)]) rfl sc__law_way.nd rfl rfl (sw_true rfl rfl rfl (by decide +kernel)) (di_range1 rfl B.range (da_cons (df_of (de_ix ix_seq d_ix (de_lst (da_cons (df_of de_int) (da_cons (df_of de_int) (da_cons (df_of de_int) (da_cons (df_of de_int) (da_cons (df_of de_int) da_nil)))))) (h__law_pick.call (hr.mono (by omega)) pxD (dag_io 0 (dag_val (df_of de_int) dag_nil))) (fun _ _ => rfl))) da_nil)) (blkOk_by (N := ["_law_spring_here", "_law_many", "_law_minutes", "_law_calls", "_law_turn"]) (sc := defScope s__law_way) (own := [("_law_turn", 4)]) (by decide +kernel)) (fun _ _ _ _ _ => (dg_name sc__law_way.nd rfl (by first | exact .inl rfl | exact .inr rfl) (by decide))) (fun _ _ _ _ _ => dts_nil) (fun _ _ _ _ _ => df_of (h__law_pick.call (hr.mono (by omega)) pass_W0 (dag_io 0 (dag_val (df_of (de_v 1)) dag_nil))))) (dss_cons (ds_ret (de_tup (da_cons (df_of (de_ix ix_seq d_ix (de_v 2) (h__law_pick.call (hr.mono (by omega)) pxD (dag_io 0 (dag_val (df_of (de_callB1 c_len d_len rfl B.len PySem.boot_len (de_v 2))) dag_nil))) (fun _ _ => rfl))) (da_cons (df_of (de_callT1 call_tuple_of d_tuple rfl B.tuple PyProof.Rows.boot_tuple (de_callB1 c_sorted d_sorted rfl B.sorted PyProof.Rows.boot_sorted (de_v 3)))) da_nil)))) dss_nil)), rfl⟩
theorem sc__law_book : FnScope ["_law_spring_here", "_law_most", "_law_many", "_law_found", "_law_minutes", "_law_recipe", "_law_ways_so", "_law_turn", "_law_way_here"] ["_law_spring_here", "_law_most"] (defScope s__law_book) := ⟨rfl, rfl, rfl, by decide +kernel, rfl, by decide +kernel, by decide +kernel⟩
theorem ok__law_book (B : Bi mg) (h__law_pick : Has P w K mg base T "_law_pick" ["_law_spring_here", "_law_many"] 1 FF__law_pick) (h__law_way : Has P w K mg base T "_law_way" ["_law_spring_here", "_law_many", "_law_minutes"] 2 FF__law_way) (d : Def K mg "_law_book" ["_law_spring_here", "_law_most"] s__law_book) : Has P w K mg base T "_law_book" ["_law_spring_here", "_law_most"] 3 FF__law_book :=
  Has.of d sc__law_book fun f cdv A outer s H E hr ss hl hn => ⟨ev__law_book, (dss_cons (ds_par (i := 2) (j := 3) rfl sc__law_book.nd rfl rfl (by decide) rfl rfl (de_op op_add4 d_add de_int (h__law_pick.call (hr.mono (by omega)) pxD (dag_io 0 (dag_val (df_of (de_v 1)) dag_nil)))) (de_tup da_nil) rfl) (dss_cons (ds_set (i := 4) sc__law_book.nd rfl (by first | exact .inl rfl | exact .inr rfl) (de_ix ix_seq d_ix (de_lst (da_cons (df_of (de_lst (da_cons (df_of de_int) (da_cons (df_of de_int) (da_cons (df_of de_int) (da_cons (df_of de_int) da_nil)))))) (da_cons (df_of (de_lst (da_cons (df_of de_int) (da_cons (df_of de_int) (da_cons (df_of de_int) da_nil))))) (da_cons (df_of (de_lst (da_cons (df_of de_int) (da_cons (df_of de_int) (da_cons (df_of de_int) (da_cons (df_of de_int) da_nil)))))) (da_cons (df_of (de_lst (da_cons (df_of de_int) (da_cons (df_of de_int) (da_cons (df_of de_int) (da_cons (df_of de_int) da_nil)))))) da_nil))))) (h__law_pick.call (hr.mono (by omega)) pxD (dag_io 0 (dag_val (df_of de_int) dag_nil))) (fun _ _ => rfl))) (dss_cons (ds_for (vs := [5]) poD rfl (di_range1 rfl B.range (da_cons (df_of (de_v 2)) da_nil)) (dg_name sc__law_book.nd rfl (by first | exact .inl rfl | exact .inr rfl) (by decide)) (dss_cons (ds_set (i := 6) sc__law_book.nd rfl (by first | exact .inl rfl | exact .inr rfl) (de_tup da_nil)) (dss_cons (ds_if (dt_cmp op_gt d_gt (h__law_pick.call (hr.mono (by omega)) pxD (dag_io 0 (dag_val (df_of de_int) dag_nil))) de_int rfl) (dss_cons (ds_set (i := 6) sc__law_book.nd rfl (by first | exact .inl rfl | exact .inr rfl) (de_tup (da_cons (df_of (de_tup (da_cons (df_of (de_ix ix_seq d_ix (de_v 4) (h__law_pick.call (hr.mono (by omega)) pxD (dag_io 0 (dag_val (df_of (de_callB1 c_len d_len rfl B.len PySem.boot_len (de_v 4))) dag_nil))) (fun _ _ => rfl))) (da_cons (df_of (de_tup da_nil)) da_nil)))) da_nil))) dss_nil) dss_nil) (dss_cons (ds_for (vs := [7]) poD rfl (di_range1 rfl B.range (da_cons (df_of (de_op op_add4 d_add (h__law_pick.call (hr.mono (by omega)) pxD (dag_io 0 (dag_val (df_of de_int) dag_nil))) (de_callT1 call_int1 d_int rfl B.int PyProof.Rows.boot_int (de_cmp (op_eqD hr.units) d_eq (de_v 6) (de_tup da_nil) rfl)))) da_nil)) (dg_name sc__law_book.nd rfl (by first | exact .inl rfl | exact .inr rfl) (by decide)) (dss_cons (ds_set (i := 8) sc__law_book.nd rfl (by first | exact .inl rfl | exact .inr rfl) (h__law_way.call (hr.mono (by omega)) pxD (dag_io 0 (dag_val (df_of (de_v 2)) (dag_val (df_of (de_v 4)) dag_nil))))) (dss_cons (ds_set (i := 6) sc__law_book.nd rfl (by first | exact .inl rfl | exact .inr rfl) (de_op op_add4 d_add (de_v 6) (de_if (dt_cmp (op_ninS (hu65 hr)) (d_inS (neg := true)) (de_v 8) (de_v 6) rfl) (de_tup (da_cons (df_of (de_v 8)) da_nil)) (de_tup da_nil)))) dss_nil))) (dss_cons (ds_set (i := 3) sc__law_book.nd rfl (by first | exact .inl rfl | exact .inr rfl) (de_op op_add4 d_add (de_v 3) (de_tup (da_cons (df_of (de_v 6)) da_nil)))) dss_nil))))) (dss_cons (ds_ret (de_v 3)) dss_nil)))), rfl⟩
theorem sc__law_int : FnScope ["_law_value", "_law_low", "_law_high"] ["_law_value", "_law_low", "_law_high"] (defScope s__law_int) := ⟨rfl, rfl, rfl, by decide +kernel, rfl, by decide +kernel, by decide +kernel⟩
theorem ok__law_int (B : Bi mg) (d : Def K mg "_law_int" ["_law_value", "_law_low", "_law_high"] s__law_int) : Has P w K mg base T "_law_int" ["_law_value", "_law_low", "_law_high"] 1 FF__law_int :=
  Has.of d sc__law_int fun f cdv A outer s H E hr ss hl hn => ⟨ev__law_int, (dss_cons (ds_if (dt_w (dw_or (dt_not (dt_tru (de_callB2 call_isi d_isi rfl B.isinstance PyProof.Rows.boot_isinstance (de_v 0) (de_ty rfl B.int PyProof.Rows.boot_int)))) (dw_or1 (dt_tru (de_callB2 call_isi d_isi rfl B.isinstance PyProof.Rows.boot_isinstance (de_v 0) (de_ty rfl B.bool PyProof.Rows.boot_bool)))))) (dss_cons (ds_ret de_bl) dss_nil) dss_nil) (dss_cons (ds_ret (de_chain op_le op_le d_le d_le (de_v 1) (de_v 0) (de_v 2))) dss_nil)), rfl⟩
theorem sc__law_made : FnScope ["_law_value", "_law_low", "_law_high"] ["_law_value", "_law_low", "_law_high"] (defScope s__law_made) := ⟨rfl, rfl, rfl, by decide +kernel, rfl, by decide +kernel, by decide +kernel⟩
theorem ok__law_made (B : Bi mg) (d : Def K mg "_law_made" ["_law_value", "_law_low", "_law_high"] s__law_made) : Has P w K mg base T "_law_made" ["_law_value", "_law_low", "_law_high"] 1 FF__law_made :=
  Has.of d sc__law_made fun f cdv A outer s H E hr ss hl hn => ⟨ev__law_made, (dss_cons (ds_ret (de_and (de_callB2 call_isi d_isi rfl B.isinstance PyProof.Rows.boot_isinstance (de_v 0) (de_ty rfl B.tuple PyProof.Rows.boot_tuple)) (de_one (de_chain op_le op_le d_le d_le (de_v 1) (de_callB1 c_len d_len rfl B.len PySem.boot_len (de_v 0)) (de_v 2))))) dss_nil), rfl⟩
theorem sc__law_good_way : FnScope ["_law_value", "_law_many", "_law_call"] ["_law_value", "_law_many"] (defScope s__law_good_way) := ⟨rfl, rfl, rfl, by decide +kernel, rfl, by decide +kernel, by decide +kernel⟩
theorem ok__law_good_way (B : Bi mg) (h__law_int : Has P w K mg base T "_law_int" ["_law_value", "_law_low", "_law_high"] 1 FF__law_int) (h__law_made : Has P w K mg base T "_law_made" ["_law_value", "_law_low", "_law_high"] 1 FF__law_made) (d : Def K mg "_law_good_way" ["_law_value", "_law_many"] s__law_good_way) : Has P w K mg base T "_law_good_way" ["_law_value", "_law_many"] 2 FF__law_good_way :=
  Has.of d sc__law_good_way fun f cdv A outer s H E hr ss hl hn => ⟨ev__law_good_way, (dss_cons (ds_if (dt_w (dw_or (dt_not (dt_tru (h__law_made.call (hr.mono (by omega)) pxD (dag_val (df_of (de_v 0)) (dag_val (df_of de_int) (dag_val (df_of de_int) dag_nil)))))) (dw_or1 (dt_not (dt_tru (h__law_int.call (hr.mono (by omega)) pxD (dag_val (df_of (de_ix ix_seq d_ix (de_v 0) de_int (fun _ _ => rfl))) (dag_val (df_of de_int) (dag_val (df_of de_int) dag_nil))))))))) (dss_cons (ds_ret de_bl) dss_nil) dss_nil) (dss_cons (ds_if (dt_not (dt_tru (h__law_made.call (hr.mono (by omega)) pxD (dag_val (df_of (de_ix ix_seq d_ix (de_v 0) de_int (fun _ _ => rfl))) (dag_val (df_of de_int) (dag_val (df_of de_int) dag_nil)))))) (dss_cons (ds_ret de_bl) dss_nil) dss_nil) (dss_cons (ds_if (dt_cmp (op_neD hr.units) d_ne (de_lc (own := [("_law_call", 2)]) rfl sc__law_good_way.nd (di_seq (df_of (de_ix ix_seq d_ix (de_v 0) de_int (fun _ _ => rfl)))) (blkOk_by (N := ["_law_value", "_law_many", "_law_call"]) (sc := defScope s__law_good_way) (own := [("_law_call", 2)]) (by decide +kernel)) (fun _ _ _ _ _ => (dg_name sc__law_good_way.nd rfl (by first | exact .inl rfl | exact .inr rfl) (by decide))) (fun _ _ _ _ _ => (dts_one (dt_not (dt_tru (h__law_int.call (hr.mono (by omega)) pass_W0 (dag_val (df_of (de_v 2)) (dag_val (df_of de_int) (dag_val (df_of (de_op op_sub d_sub (de_v 1) de_int)) dag_nil)))))))) (fun _ _ _ _ _ => df_of de_int)) (de_lst da_nil) rfl) (dss_cons (ds_ret de_bl) dss_nil) dss_nil) (dss_cons (ds_ret (de_or (de_cmp op_lt d_lt (de_callB1 c_len d_len rfl B.len PySem.boot_len (de_ix ix_seq d_ix (de_v 0) de_int (fun _ _ => rfl))) de_int rfl) (de_one (de_cmp op_le d_le (de_ix ix_seq d_ix (de_ix ix_seq d_ix (de_v 0) de_int (fun _ _ => rfl)) de_int (fun _ _ => rfl)) (de_ix ix_seq d_ix (de_ix ix_seq d_ix (de_v 0) de_int (fun _ _ => rfl)) de_int (fun _ _ => rfl)) rfl)))) dss_nil)))), rfl⟩
theorem sc__law_good : FnScope ["_law_value", "_law_ways_so", "_law_at", "_law_way_here"] ["_law_value"] (defScope s__law_good) := ⟨rfl, rfl, rfl, by decide +kernel, rfl, by decide +kernel, by decide +kernel⟩
theorem ok__law_good (B : Bi mg) (h__law_good_way : Has P w K mg base T "_law_good_way" ["_law_value", "_law_many"] 2 FF__law_good_way) (h__law_made : Has P w K mg base T "_law_made" ["_law_value", "_law_low", "_law_high"] 1 FF__law_made) (d : Def K mg "_law_good" ["_law_value"] s__law_good) : Has P w K mg base T "_law_good" ["_law_value"] 3 FF__law_good :=
  Has.of d sc__law_good fun f cdv A outer s H E hr ss hl hn => ⟨ev__law_good, (dss_cons (ds_if (dt_not (dt_tru (h__law_made.call (hr.mono (by omega)) pxD (dag_val (df_of (de_v 0)) (dag_val (df_of de_int) (dag_val (df_of de_int) dag_nil)))))) (dss_cons (ds_ret de_bl) dss_nil) dss_nil) (dss_cons (ds_for (vs := [1]) poD rfl (di_seq (df_of (de_v 0))) (dg_name sc__law_good.nd rfl (by first | exact .inl rfl | exact .inr rfl) (by decide)) (dss_cons (ds_if (dt_not (dt_tru (h__law_made.call (hr.mono (by omega)) pxD (dag_val (df_of (de_v 1)) (dag_val (df_of de_int) (dag_val (df_of de_int) dag_nil)))))) (dss_cons (ds_ret de_bl) dss_nil) dss_nil) (dss_cons (ds_for (vs := [2, 3]) poD rfl (di_enum rfl B.enumerate (da_cons (df_of (de_v 1)) da_nil)) (dg_tup rfl (dgs_cons (dg_name sc__law_good.nd rfl (by first | exact .inl rfl | exact .inr rfl) (by decide)) (dgs_cons (dg_name sc__law_good.nd rfl (by first | exact .inl rfl | exact .inr rfl) (by decide)) dgs_nil))) (dss_cons (ds_if (dt_w (dw_or (dt_not (dt_tru (h__law_good_way.call (hr.mono (by omega)) pxD (dag_val (df_of (de_v 3)) (dag_val (df_of (de_callB1 c_len d_len rfl B.len PySem.boot_len (de_v 0))) dag_nil))))) (dw_or1 (dt_cmp (op_inS (hu65 hr)) (d_inS (neg := false)) (de_v 3) (de_sl (de_v 1) do_none (do_some (de_v 2))) rfl)))) (dss_cons (ds_ret de_bl) dss_nil) dss_nil) dss_nil)) dss_nil))) (dss_cons (ds_ret de_bl) dss_nil))), rfl⟩
theorem sc__law_bent : FnScope ["_law_spring_here", "_law_value", "_law_at", "_law_way_here", "_law_some"] ["_law_spring_here", "_law_value"] (defScope s__law_bent) := ⟨rfl, rfl, rfl, by decide +kernel, rfl, by decide +kernel, by decide +kernel⟩
theorem ok__law_bent (B : Bi mg) (h__law_pick : Has P w K mg base T "_law_pick" ["_law_spring_here", "_law_many"] 1 FF__law_pick) (d : Def K mg "_law_bent" ["_law_spring_here", "_law_value"] s__law_bent) : ∀ n, Has P w K mg base T "_law_bent" ["_law_spring_here", "_law_value"] (2 + n) (FF__law_bent n)
  | 0 => Has.zero (k := 1) d sc__law_bent
  | n + 1 => Has.of (k := 2 + n) d sc__law_bent fun f cdv A outer s H E hr ss hl hn => by
    have ih := ok__law_bent B h__law_pick d n
    exact ⟨ev__law_bent (FF__law_bent n), (dss_cons (ds_if (dt_w (dw_and (dt_tru (de_callB2 call_isi d_isi rfl B.isinstance PyProof.Rows.boot_isinstance (de_v 1) (de_ty rfl B.tuple PyProof.Rows.boot_tuple))) (dw_and (dt_cmp (op_neD hr.units) d_ne (de_v 1) (de_tup da_nil) rfl) (dw_and1 (dt_cmp op_gt d_gt (h__law_pick.call (hr.mono (by omega)) pxD (dag_io 0 (dag_val (df_of de_int) dag_nil))) de_int rfl))))) (dss_cons (ds_par (i := 2) (j := 3) rfl sc__law_bent.nd rfl rfl (by decide) rfl rfl (h__law_pick.call (hr.mono (by omega)) pxD (dag_io 0 (dag_val (df_of (de_callB1 c_len d_len rfl B.len PySem.boot_len (de_v 1))) dag_nil))) (h__law_pick.call (hr.mono (by omega)) pxD (dag_io 0 (dag_val (df_of de_int) dag_nil))) rfl) (dss_cons (ds_if (dt_cmp (op_eqD hr.units) d_eq (de_v 3) de_int rfl) (dss_cons (ds_ret (de_op op_add4 d_add (de_sl (de_v 1) do_none (do_some (de_v 2))) (de_sl (de_v 1) (do_some (de_op op_add4 d_add (de_v 2) de_int)) do_none))) dss_nil) dss_nil) (dss_cons (ds_if (dt_cmp (op_eqD hr.units) d_eq (de_v 3) de_int rfl) (dss_cons (ds_ret (de_op op_add4 d_add (de_op op_add4 d_add (de_sl (de_v 1) do_none (do_some (de_v 2))) (de_sl (de_v 1) (do_some (de_v 2)) (do_some (de_op op_add4 d_add (de_v 2) de_int)))) (de_sl (de_v 1) (do_some (de_v 2)) do_none))) dss_nil) dss_nil) (dss_cons (ds_if (dt_cmp (op_eqD hr.units) d_eq (de_v 3) de_int rfl) (dss_cons (ds_ret (de_rev (de_v 1))) dss_nil) dss_nil) (dss_cons (ds_ret (de_op op_add4 d_add (de_op op_add4 d_add (de_sl (de_v 1) do_none (do_some (de_v 2))) (de_tup (da_cons (df_of (ih.call (hr.mono (by omega)) pxD (dag_io 0 (dag_val (df_of (de_ix ix_seq d_ix (de_v 1) (de_v 2) (fun _ _ => rfl))) dag_nil)))) da_nil))) (de_sl (de_v 1) (do_some (de_op op_add4 d_add (de_v 2) de_int)) do_none))) dss_nil))))) dss_nil) (dss_cons (ds_set (i := 4) sc__law_bent.nd rfl (by first | exact .inl rfl | exact .inr rfl) (de_lst (da_cons (df_of de_non) (da_cons (df_of de_bl) (da_cons (df_of de_bl) (da_cons (df_of de_int) (da_cons (df_of de_int) (da_cons (df_of de_int) (da_cons (df_of de_int) (da_cons (df_of de_int) (da_cons (df_of de_int) (da_cons (df_of (de_un un_neg d_neg de_int)) (da_cons (df_of (de_op op_pow d_pow de_int de_int)) (da_cons (df_of de_str) (da_cons (df_of de_str) (da_cons (df_of (de_tup da_nil)) (da_cons (df_of (de_lst da_nil)) (da_cons (df_of (de_tup (da_cons (df_of de_int) da_nil))) da_nil)))))))))))))))))) (dss_cons (ds_ret (de_ix ix_seq d_ix (de_op op_add4 d_add (de_v 4) (de_lst (da_cons (df_of (de_tup (da_cons (df_of de_int) (da_cons (df_of de_int) da_nil)))) (da_cons (df_of (de_tup (da_cons (df_of de_int) (da_cons (df_of (de_tup da_nil)) da_nil)))) (da_cons (df_of (de_tup (da_cons (df_of de_int) (da_cons (df_of (de_tup (da_cons (df_of de_int) da_nil))) da_nil)))) (da_cons (df_of (de_lst (da_cons (df_of de_int) da_nil))) (da_cons (df_of (de_tup (da_cons (df_of de_int) (da_cons (df_of de_int) da_nil)))) da_nil))))))) (h__law_pick.call (hr.mono (by omega)) pxD (dag_io 0 (dag_val (df_of de_int) dag_nil))) (fun _ _ => rfl))) dss_nil))), rfl⟩
theorem sc_law : FnScope ["_law_script", "_law_at", "_law_spring_here", "_law_book_here", "_law_some", "_law_recipe", "_law_many", "_law_way_here", "_law_rest", "_law_less", "_law_due", "_law_came_here", "_law_odd", "_law_turn", "_law_one"] ["_law_script"] (defScope s_law) := ⟨rfl, rfl, rfl, by decide +kernel, rfl, by decide +kernel, by decide +kernel⟩
theorem sc__law_error_of : FnScope ["_law_e", "_law_some", "_law_word", "_law_good_here"] ["_law_e"] (defScope s__law_error_of) := ⟨rfl, rfl, rfl, by decide +kernel, rfl, by decide +kernel, by decide +kernel⟩
theorem sc__law_came : FnScope ["_law_call_so", "_law_e"] ["_law_call_so"] (defScope s__law_came) := ⟨rfl, rfl, rfl, by decide +kernel, rfl, by decide +kernel, by decide +kernel⟩
theorem ok_err (B : Bi mg) {D f : Addr} {cdv : Value} {A : Around} {outer : List Env} {s : Shared} {H : Hp} {p : Addr × Obj} (hot : HotK (.ref D) (L2H.cxH C8.CX0 P w K mg base ["_law_e", "_law_some", "_law_word", "_law_good_here"] "_law_error_of" (defScope s__law_error_of) f cdv A outer s H C8.E0 p)) (hh : ((L2H.cxH C8.CX0 P w K mg base ["_law_e", "_law_some", "_law_word", "_law_good_here"] "_law_error_of" (defScope s__law_error_of) f cdv A outer s H C8.E0 p)).A.handled = some (.ref p.1)) (ec : ErrC K D) {c1 c2 c3 c4 c5 c6 c7 c8 : Addr} {b1 b2 b3 b4 b5 b6 b7 b8 : Bool} (m1 : mg "InvalidBook" = some (.ref c1)) (m2 : mg "InvalidRecipe" = some (.ref c2)) (m3 : mg "InvalidWay" = some (.ref c3)) (m4 : mg "InvalidTotal" = some (.ref c4)) (m5 : mg "InvalidTally" = some (.ref c5)) (m6 : mg "InvalidText" = some (.ref c6)) (m7 : mg "NoTotal" = some (.ref c7)) (m8 : mg "NothingLeft" = some (.ref c8)) (k1 : PySem.W.kitOne K (.ref D) (.ref c1) = some b1) (k2 : PySem.W.kitOne K (.ref D) (.ref c2) = some b2) (k3 : PySem.W.kitOne K (.ref D) (.ref c3) = some b3) (k4 : PySem.W.kitOne K (.ref D) (.ref c4) = some b4) (k5 : PySem.W.kitOne K (.ref D) (.ref c5) = some b5) (k6 : PySem.W.kitOne K (.ref D) (.ref c6) = some b6) (k7 : PySem.W.kitOne K (.ref D) (.ref c7) = some b7) (k8 : PySem.W.kitOne K (.ref D) (.ref c8) = some b8) : DSs (L2H.cxH C8.CX0 P w K mg base ["_law_e", "_law_some", "_law_word", "_law_good_here"] "_law_error_of" (defScope s__law_error_of) f cdv A outer s H C8.E0 p) [] W0 (defBody s__law_error_of) (ev__law_error_of p.1 b1 b2 b3 b4 b5 b6 b7 b8) := by
  generalize hx : p.1 = x1 at hh ⊢
  exact (dss_cons (ds_set (i := 1) sc__law_error_of.nd rfl (by first | exact .inl rfl | exact .inr rfl) (de_lst (da_cons (df_of (de_tup (da_cons (df_of de_str) (da_cons (df_of (de_isE 0 hot hh ec k1 rfl B.isinstance PyProof.Rows.boot_isinstance rfl m1)) da_nil)))) da_nil))) (dss_cons (ds_expr (de_append 1 (df_of (de_tup (da_cons (df_of de_str) (da_cons (df_of (de_isE 0 hot hh ec k2 rfl B.isinstance PyProof.Rows.boot_isinstance rfl m2)) da_nil)))))) (dss_cons (ds_expr (de_append 1 (df_of (de_tup (da_cons (df_of de_str) (da_cons (df_of (de_isE 0 hot hh ec k3 rfl B.isinstance PyProof.Rows.boot_isinstance rfl m3)) da_nil)))))) (dss_cons (ds_expr (de_append 1 (df_of (de_tup (da_cons (df_of de_str) (da_cons (df_of (de_isE 0 hot hh ec k4 rfl B.isinstance PyProof.Rows.boot_isinstance rfl m4)) da_nil)))))) (dss_cons (ds_expr (de_append 1 (df_of (de_tup (da_cons (df_of de_str) (da_cons (df_of (de_isE 0 hot hh ec k5 rfl B.isinstance PyProof.Rows.boot_isinstance rfl m5)) da_nil)))))) (dss_cons (ds_expr (de_append 1 (df_of (de_tup (da_cons (df_of de_str) (da_cons (df_of (de_isE 0 hot hh ec k6 rfl B.isinstance PyProof.Rows.boot_isinstance rfl m6)) da_nil)))))) (dss_cons (ds_expr (de_append 1 (df_of (de_tup (da_cons (df_of de_str) (da_cons (df_of (de_isE 0 hot hh ec k7 rfl B.isinstance PyProof.Rows.boot_isinstance rfl m7)) da_nil)))))) (dss_cons (ds_expr (de_append 1 (df_of (de_tup (da_cons (df_of de_str) (da_cons (df_of (de_isE 0 hot hh ec k8 rfl B.isinstance PyProof.Rows.boot_isinstance rfl m8)) da_nil)))))) (dss_cons (ds_ret (de_join de_str (de_lcH (own := [("_law_word", 2), ("_law_good_here", 3)]) hot sc__law_error_of.nd (df_of (de_v 1)) (blkOk_by (N := ["_law_e", "_law_some", "_law_word", "_law_good_here"]) (sc := defScope s__law_error_of) (own := [("_law_word", 2), ("_law_good_here", 3)]) (by decide +kernel)) (tupG_on (consG_on (nmG_on (by decide)) (consG_on (nmG_on (by decide)) nilG_on))) (fun _ _ _ _ _ hot => (dg_tupH hot (dgs_cons (dg_name sc__law_error_of.nd rfl (by first | exact .inl rfl | exact .inr rfl) (by decide)) (dgs_cons (dg_name sc__law_error_of.nd rfl (by first | exact .inl rfl | exact .inr rfl) (by decide)) dgs_nil)))) (fun _ _ _ _ _ => (dts_one (dt_tru (de_v 3)))) (fun _ _ _ _ _ => df_of (de_v 2))))) dss_nil)))))))))
theorem ok_law (B : Bi mg) (cm : CameD P w K mg base) {c Pt : Addr} (TB : LamX.TabB base mg c Pt) (h__law_bent : Has P w K mg base [(Pt, (("law" : Str) ++ ".<locals>.") ++ "<lambda>")] "_law_bent" ["_law_spring_here", "_law_value"] 10 (FF__law_bent 8)) (h__law_book : Has P w K mg base [(Pt, (("law" : Str) ++ ".<locals>.") ++ "<lambda>")] "_law_book" ["_law_spring_here", "_law_most"] 3 FF__law_book) (h__law_good : Has P w K mg base [(Pt, (("law" : Str) ++ ".<locals>.") ++ "<lambda>")] "_law_good" ["_law_value"] 3 FF__law_good) (h__law_spring : Has P w K mg base [(Pt, (("law" : Str) ++ ".<locals>.") ++ "<lambda>")] "_law_spring" ["_law_script", "_law_at"] 1 FF__law_spring) (h__law_twins : Has P w K mg base [(Pt, (("law" : Str) ++ ".<locals>.") ++ "<lambda>")] "_law_twins" ["_law_one", "_law_other"] 10 (FF__law_twins 8)) (h_is_book : Has P w K mg base [(Pt, (("law" : Str) ++ ".<locals>.") ++ "<lambda>")] "is_book" ["value"] 5 FF_is_book) (h_without : Has P w K mg base [(Pt, (("law" : Str) ++ ".<locals>.") ++ "<lambda>")] "without" ["book", "recipe", "way"] 6 FF_without) {f : Addr} {A : Around} {outer : List Env} {s : Shared} {H : Hp} {E : XK} (hr : Room 24 (A.deeper (envOfC "law" (defScope s_law) s.heap.objs.size f (.ref c)))) : DSs (cxD P w K mg base ["_law_script", "_law_at", "_law_spring_here", "_law_book_here", "_law_some", "_law_recipe", "_law_many", "_law_way_here", "_law_rest", "_law_less", "_law_due", "_law_came_here", "_law_odd", "_law_turn", "_law_one"] "law" (defScope s_law) f (.ref c) A outer s H E) [(Pt, (("law" : Str) ++ ".<locals>.") ++ "<lambda>")] (WD E) (defBody s_law) (ev_law wd) :=
  (dss_cons (ds_for (vs := [1]) poD rfl (di_range1 rfl B.range (da_cons (df_of (de_op op_add4 d_add (de_callB2 (call_min2 rfl) d_min rfl B.min PyProof.Rows.boot_min (de_callB1 c_len d_len rfl B.len PySem.boot_len (de_v 0)) de_int) de_int)) da_nil)) (dg_name sc_law.nd rfl (by first | exact .inl rfl | exact .inr rfl) (by decide)) (dss_cons (ds_set (i := 2) sc_law.nd rfl (by first | exact .inl rfl | exact .inr rfl) (h__law_spring.call (hr.mono (by omega)) pxD (dag_val (df_of (de_v 0)) (dag_val (df_of (de_v 1)) dag_nil)))) (dss_cons (ds_set (i := 3) sc_law.nd rfl (by first | exact .inl rfl | exact .inr rfl) (h__law_book.call (hr.mono (by omega)) pxD (dag_io 2 (dag_val (df_of de_int) dag_nil)))) (dss_cons (ds_set (i := 4) sc_law.nd rfl (by first | exact .inl rfl | exact .inr rfl) (de_lst (da_cons (df_of (de_v 3)) (da_cons (df_of (de_callT1 call_list_of d_list rfl B.list PyProof.Rows.boot_list (de_v 3))) (da_cons (df_of (de_sl (de_v 3) do_none (do_some de_int))) (da_cons (df_of (de_op op_add4 d_add (de_v 3) (de_tup (da_cons (df_of (de_tup da_nil)) da_nil)))) (da_cons (df_of (de_op op_mul3 d_mul (de_v 3) de_int)) da_nil))))))) (dss_cons (ds_expr (de_append 4 (df_of (de_op op_add4 d_add (de_tup (da_cons (df_of (de_op op_add4 d_add (de_ix ix_seq d_ix (de_v 3) de_int (fun _ _ => rfl)) (de_sl (de_ix ix_seq d_ix (de_v 3) de_int (fun _ _ => rfl)) do_none (do_some de_int)))) da_nil)) (de_sl (de_v 3) (do_some de_int) do_none))))) (dss_cons (ds_set (i := 4) sc_law.nd rfl (by first | exact .inl rfl | exact .inr rfl) (de_op op_add4 d_add (de_v 4) (de_lc (own := [("_law_turn", 13)]) rfl sc_law.nd (di_range1 rfl B.range (da_cons (df_of de_int) da_nil)) (blkOk_by (N := ["_law_script", "_law_at", "_law_spring_here", "_law_book_here", "_law_some", "_law_recipe", "_law_many", "_law_way_here", "_law_rest", "_law_less", "_law_due", "_law_came_here", "_law_odd", "_law_turn", "_law_one"]) (sc := defScope s_law) (own := [("_law_turn", 13)]) (by decide +kernel)) (fun _ _ _ _ _ => (dg_name sc_law.nd rfl (by first | exact .inl rfl | exact .inr rfl) (by decide))) (fun _ _ _ _ _ => dts_nil) (fun _ _ _ _ _ => df_of (h__law_bent.call (hr.mono (by omega)) pass_W0 (dag_io 2 (dag_val (df_of (de_v 3)) dag_nil))))))) (dss_cons (ds_if (dt_cmp (op_neD hr.units) d_ne (de_lc (own := [("_law_one", 14)]) rfl sc_law.nd (di_seq (df_of (de_v 4))) (blkOk_by (N := ["_law_script", "_law_at", "_law_spring_here", "_law_book_here", "_law_some", "_law_recipe", "_law_many", "_law_way_here", "_law_rest", "_law_less", "_law_due", "_law_came_here", "_law_odd", "_law_turn", "_law_one"]) (sc := defScope s_law) (own := [("_law_one", 14)]) (by decide +kernel)) (fun _ _ _ _ _ => (dg_name sc_law.nd rfl (by first | exact .inl rfl | exact .inr rfl) (by decide))) (fun _ _ _ _ _ => (dts_one (dt_not (dt_tru (h__law_twins.call (hr.mono (by omega)) pass_W0 (dag_val (df_of (h_is_book.call (hr.mono (by omega)) pass_W0 (dag_val (df_of (de_v 14)) dag_nil))) (dag_val (df_of (h__law_good.call (hr.mono (by omega)) pass_W0 (dag_val (df_of (de_v 14)) dag_nil))) dag_nil))))))) (fun _ _ _ _ _ => df_of de_int)) (de_lst da_nil) rfl) (dss_cons (ds_ret de_bl) dss_nil) dss_nil) (dss_cons (ds_for (vs := [5]) poD rfl (di_range1 rfl B.range (da_cons (df_of (de_callB1 c_len d_len rfl B.len PySem.boot_len (de_v 3))) da_nil)) (dg_name sc_law.nd rfl (by first | exact .inl rfl | exact .inr rfl) (by decide)) (dss_cons (ds_set (i := 6) sc_law.nd rfl (by first | exact .inl rfl | exact .inr rfl) (de_callB1 c_len d_len rfl B.len PySem.boot_len (de_ix ix_seq d_ix (de_v 3) (de_v 5) (fun _ _ => rfl)))) (dss_cons (ds_for (vs := [7]) poD rfl (di_range1 rfl B.range (da_cons (df_of (de_v 6)) da_nil)) (dg_name sc_law.nd rfl (by first | exact .inl rfl | exact .inr rfl) (by decide)) (dss_cons (ds_set (i := 8) sc_law.nd rfl (by first | exact .inl rfl | exact .inr rfl) (de_callT1 call_tuple_of d_tuple rfl B.tuple PyProof.Rows.boot_tuple (de_lc (own := [("_law_one", 14)]) rfl sc_law.nd (di_seq (df_of (de_ix ix_seq d_ix (de_v 3) (de_v 5) (fun _ _ => rfl)))) (blkOk_by (N := ["_law_script", "_law_at", "_law_spring_here", "_law_book_here", "_law_some", "_law_recipe", "_law_many", "_law_way_here", "_law_rest", "_law_less", "_law_due", "_law_came_here", "_law_odd", "_law_turn", "_law_one"]) (sc := defScope s_law) (own := [("_law_one", 14)]) (by decide +kernel)) (fun _ _ _ _ _ => (dg_name sc_law.nd rfl (by first | exact .inl rfl | exact .inr rfl) (by decide))) (fun _ _ _ _ _ => (dts_one (dt_cmp (op_neD hr.units) d_ne (de_v 14) (de_ix ix_seq d_ix (de_ix ix_seq d_ix (de_v 3) (de_v 5) (fun _ _ => rfl)) (de_v 7) (fun _ _ => rfl)) rfl))) (fun _ _ _ _ _ => df_of (de_v 14))))) (dss_cons (ds_set (i := 9) sc_law.nd rfl (by first | exact .inl rfl | exact .inr rfl) (de_op op_add4 d_add (de_op op_add4 d_add (de_sl (de_v 3) do_none (do_some (de_v 5))) (de_tup (da_cons (df_of (de_v 8)) da_nil))) (de_sl (de_v 3) (do_some (de_op op_add4 d_add (de_v 5) de_int)) do_none))) (dss_cons (ds_set (i := 10) sc_law.nd rfl (by first | exact .inl rfl | exact .inr rfl) (de_if (dt_cmp op_gt d_gt (de_v 6) de_int rfl) (de_lst (da_cons (df_of (de_v 9)) da_nil)) de_str)) (dss_cons (ds_set (i := 11) sc_law.nd rfl (by first | exact .inl rfl | exact .inr rfl) (cm.de (k := 20) TB rfl rfl rfl (hr.mono (by omega)) (LamX.lamS_by (sc := defScope s_law) (by decide +kernel)) rfl (fun _ _ _ _ _ => rfl) (fun A outer s H E f c hrl => (h_without.call (hrl.mono (by omega)) (L2N.passAt (L2N.takes_of rfl rfl rfl rfl)) (dag_val (df_of (de_v 3)) (dag_val (df_of (de_v 5)) (dag_val (df_of (de_v 7)) dag_nil))))))) (dss_cons (ds_if (dt_not (dt_tru (h__law_twins.call (hr.mono (by omega)) pxD (dag_val (df_of (de_v 11)) (dag_val (df_of (de_v 10)) dag_nil))))) (dss_cons (ds_ret de_bl) dss_nil) dss_nil) dss_nil)))))) (dss_cons (ds_for (vs := [12]) poD rfl (di_seq (df_of (de_lst (da_cons (df_of de_non) (da_cons (df_of (de_un un_neg d_neg de_int)) (da_cons (df_of (de_v 6)) (da_cons (df_of de_bl) (da_cons (df_of de_str) da_nil)))))))) (dg_name sc_law.nd rfl (by first | exact .inl rfl | exact .inr rfl) (by decide)) (dss_cons (ds_if (dt_cmp (op_neD hr.units) d_ne (cm.de (k := 20) TB rfl rfl rfl (hr.mono (by omega)) (LamX.lamS_by (sc := defScope s_law) (by decide +kernel)) rfl (fun _ _ _ _ _ => rfl) (fun A outer s H E f c hrl => (h_without.call (hrl.mono (by omega)) (L2N.passAt (L2N.takes_of rfl rfl rfl rfl)) (dag_val (df_of (de_v 3)) (dag_val (df_of (de_v 5)) (dag_val (df_of (de_v 12)) dag_nil)))))) de_str rfl) (dss_cons (ds_ret de_bl) dss_nil) dss_nil) dss_nil)) dss_nil)))) (dss_cons (ds_for (vs := [12]) poD rfl (di_seq (df_of (de_lst (da_cons (df_of de_non) (da_cons (df_of (de_un un_neg d_neg de_int)) (da_cons (df_of (de_callB1 c_len d_len rfl B.len PySem.boot_len (de_v 3))) (da_cons (df_of de_bl) (da_cons (df_of de_str) da_nil)))))))) (dg_name sc_law.nd rfl (by first | exact .inl rfl | exact .inr rfl) (by decide)) (dss_cons (ds_if (dt_cmp (op_neD hr.units) d_ne (cm.de (k := 20) TB rfl rfl rfl (hr.mono (by omega)) (LamX.lamS_by (sc := defScope s_law) (by decide +kernel)) rfl (fun _ _ _ _ _ => rfl) (fun A outer s H E f c hrl => (h_without.call (hrl.mono (by omega)) (L2N.passAt (L2N.takes_of rfl rfl rfl rfl)) (dag_val (df_of (de_v 3)) (dag_val (df_of (de_v 12)) (dag_val (df_of de_non) dag_nil)))))) de_str rfl) (dss_cons (ds_ret de_bl) dss_nil) dss_nil) dss_nil)) dss_nil))))))))) (dss_cons (ds_ret de_bl) dss_nil))
end
end K01
set_option Elab.async false
set_option linter.all false
set_option maxRecDepth 100000
set_option maxHeartbeats 0
namespace HD01
open PySem PySem.Spec PyProof.Rows L2
open K01 (top)
def mkD (x : Str) (st : Stmt) : He.DefD := ⟨(x, none), x, x, defArgs st, defBody st, defScope st, [], []⟩
def fn : List He.DefD := ([mkD "is_within" K01.s_is_within, mkD "is_wide" K01.s_is_wide, mkD "is_way" K01.s_is_way, mkD "is_recipe" K01.s_is_recipe, mkD "is_fit" K01.s_is_fit, mkD "look_at_book" K01.s_look_at_book, mkD "look_at_lone_recipe" K01.s_look_at_lone_recipe, mkD "look_at_way" K01.s_look_at_way] : List He.DefD) ++ ([mkD "less_by" K01.s_less_by, mkD "look_at_less" K01.s_look_at_less, mkD "is_book" K01.s_is_book, mkD "without" K01.s_without, mkD "_law_spring" K01.s__law_spring, mkD "_law_pick" K01.s__law_pick, mkD "_law_kind" K01.s__law_kind, mkD "_law_twins" K01.s__law_twins] : List He.DefD) ++ ([mkD "_law_way" K01.s__law_way, mkD "_law_book" K01.s__law_book, mkD "_law_error_of" K01.s__law_error_of, mkD "_law_came" K01.s__law_came, mkD "_law_int" K01.s__law_int, mkD "_law_made" K01.s__law_made, mkD "_law_good_way" K01.s__law_good_way, mkD "_law_good" K01.s__law_good] : List He.DefD) ++ ([mkD "_law_bent" K01.s__law_bent, mkD "law" K01.s_law] : List He.DefD)
def fa : List He.Fa := ([.glo "is_within", .glo "is_wide", .glo "is_way", .glo "is_recipe", .glo "is_fit", .glo "look_at_book", .glo "look_at_lone_recipe", .glo "look_at_way"] : List He.Fa) ++ ([.glo "less_by", .glo "look_at_less", .glo "is_book", .glo "without", .glo "_law_spring", .glo "_law_pick", .glo "_law_kind", .glo "_law_twins"] : List He.Fa) ++ ([.glo "_law_way", .glo "_law_book", .glo "_law_error_of", .glo "_law_came", .glo "_law_int", .glo "_law_made", .glo "_law_good_way", .glo "_law_good"] : List He.Fa) ++ ([.glo "_law_bent", .glo "law", .glo "TotalError", .glo "InvalidBook", .glo "InvalidRecipe", .glo "InvalidWay", .glo "InvalidTotal", .glo "InvalidTally"] : List He.Fa) ++ ([.glo "InvalidText", .glo "NoTotal", .glo "NothingLeft", .free "len", .free "isinstance", .free "int", .free "bool", .free "str"] : List He.Fa) ++ ([.free "tuple", .free "list", .free "set", .free "all", .free "sorted", .free "abs", .free "min", .free "range"] : List He.Fa) ++ ([.free "zip", .free "enumerate"] : List He.Fa)
def tf : List He.Defn := [("law", none)]
def ex (K : PySem.W.Frag) : Bool := DL.exB K
abbrev R : PySem.W.OpenRow := PySem.W.OpenLaw.row PySem.Challenge.rw_anytotals_k01_books_recognized
abbrev hk : PySem.W.Hook := He.hookX 4 fa fn [] tf ex
def ob (s : PySem.W.SharedT) : He.AlX := He.obsX 4 fa fn [] tf ex (HandSHeadRun.getT s)
theorem ob_eq (s : PySem.W.SharedT) : ob s = hk.obs s.abs := He.obsX_eq (HandSHeadRun.getT_eq s)
def nms : List Str := (["TotalError", "InvalidBook", "InvalidRecipe", "InvalidWay", "InvalidTotal", "InvalidTally", "InvalidText", "NoTotal"] : List Str) ++ (["NothingLeft", "is_within", "is_wide", "is_way", "is_recipe", "is_fit", "look_at_book", "look_at_lone_recipe"] : List Str) ++ (["look_at_way", "less_by", "look_at_less", "is_book", "without", "_law_spring", "_law_pick", "_law_kind"] : List Str) ++ (["_law_twins", "_law_way", "_law_book", "_law_error_of", "_law_came", "_law_int", "_law_made", "_law_good_way"] : List Str) ++ (["_law_good", "_law_bent"] : List Str)
theorem run (w : World) : HandSHeadRun.RunEq R (PySem.W.view R.prog [37]) hk ob 60000 nms w := by
  intro os
  kernel_rfl
end HD01
set_option Elab.async false
set_option linter.all false
set_option autoImplicit false
set_option maxRecDepth 100000
set_option maxHeartbeats 1000000
namespace DL
open PySem PySem.Spec
open PyProof.Rows hiding St
open L2
/-! ### comprehensions in plain Lean -/
theorem wipe_set1 {ρ : En} {i : Nat} {s : Sl} (h : ρ[i]? = some .emp) : wipeE (ρ.set i s) [i] = ρ := by
  apply List.ext_getElem?
  intro j
  rw [wipeE_at]
  by_cases hj : j = i
  · subst hj
    rw [if_pos List.mem_cons_self, h]
    have hl := (List.getElem?_eq_some_iff.mp h).1
    rw [List.getElem?_set_self hl]
    rfl
  · rw [if_neg (fun z => hj (List.mem_singleton.mp z)), List.getElem?_set_ne (Ne.symm hj)]
theorem lcL_pure {i : Nat} {fe : Ev D} {f : D → D} {p : D → Bool} {t : Ev Bool} {ρ : En} (hi : ρ[i]? = some .emp) : ∀ (ds acc : List D), (∀ d ∈ ds, t (ρ.set i (.val d)) = .ok (ρ.set i (.val d)) (p d)) → (∀ d ∈ ds, p d = true → fe (ρ.set i (.val d)) = .ok (ρ.set i (.val d)) (f d)) → acc.length + ds.length ≤ 16777216 →
    lcL [i] (nmG i) t fe ds acc ρ = .ok ρ (acc ++ (ds.filter p).map f)
  | [], acc, _, _, _ => by simp [lcL]
  | d :: ds, acc, ht, hf, hl => by
    have ng : nmG i d ρ = some (ρ.set i (.val d)) := by
      unfold nmG isIo
      rw [hi]
      rfl
    have ih : ∀ acc' : List D, acc'.length + ds.length ≤ 16777216 → lcL [i] (nmG i) t fe ds acc' ρ = .ok ρ (acc' ++ (ds.filter p).map f) := fun acc' h => lcL_pure hi ds acc' (fun e he => ht e (List.mem_cons_of_mem _ he)) (fun e he => hf e (List.mem_cons_of_mem _ he)) h
    unfold lcL
    rw [ng]
    simp only []
    rw [ht d List.mem_cons_self]
    cases hp : p d with
    | false =>
      simp only []
      rw [wipe_set1 hi, ih acc (by simp only [List.length_cons] at hl; omega), List.filter_cons, hp]
      rfl
    | true =>
      simp only []
      rw [hf d List.mem_cons_self hp]
      simp only []
      have fit : fits (acc.length + 1) = true := by unfold fits; simp only [List.length_cons] at hl; exact decide_eq_true (by omega)
      rw [fit, if_pos rfl, wipe_set1 hi, ih (acc ++ [f d]) (by simp only [List.length_append, List.length_cons, List.length_nil] at hl ⊢; omega), List.filter_cons, hp]
      simp
theorem unw_wipe {ρ : En} {i : Nat} : unw ρ (wipeE ρ [i]) [i] = ρ := by
  apply List.ext_getElem?
  intro j
  rw [unw_at (wipeE_len _ _).symm]
  by_cases hj : j ∈ [i]
  · rw [if_pos hj]
  · rw [if_neg hj, wipeE_at, if_neg hj]
/-- [e for x in it if t] whose parts change nothing -/
theorem fLc_pure {i : Nat} {fi : Ev (List D)} {fe : Ev D} {f : D → D} {p : D → Bool} {t : Ev Bool} {ρ ρ1 : En} {ds : List D} (hfi : fi ρ = .ok ρ1 ds) (hi : i < ρ1.length) (ht : ∀ d ∈ ds, t (ρ1.set i (.val d)) = .ok (ρ1.set i (.val d)) (p d)) (hf : ∀ d ∈ ds, p d = true → fe (ρ1.set i (.val d)) = .ok (ρ1.set i (.val d)) (f d)) (hl : ds.length ≤ 16777216) :
    fLc fi [i] (nmG i) t fe ρ = .ok ρ1 (.tmp (.lst ((ds.filter p).map f))) := by
  have e1 : (wipeE ρ1 [i])[i]? = some .emp := by
    show (ρ1.set i .emp)[i]? = _
    exact List.getElem?_set_self hi
  have e2 : ∀ d : D, (wipeE ρ1 [i]).set i (.val d) = ρ1.set i (.val d) := fun d => List.set_set (a := Sl.emp) (b := Sl.val d) (l := ρ1) (i := i)
  unfold fLc
  rw [hfi]
  simp only [Out.bind_ok]
  rw [lcL_pure e1 ds [] (fun d hd => by rw [e2]; exact ht d hd) (fun d hd hp => by rw [e2]; exact hf d hd hp) (by simpa using hl)]
  simp only [List.nil_append]
  rw [unw_wipe]
theorem fLc_all {i : Nat} {fi : Ev (List D)} {fe : Ev D} {f : D → D} {ρ ρ1 : En} {ds : List D} (hfi : fi ρ = .ok ρ1 ds) (hi : i < ρ1.length) (hf : ∀ d ∈ ds, fe (ρ1.set i (.val d)) = .ok (ρ1.set i (.val d)) (f d)) (hl : ds.length ≤ 16777216) :
    fLc fi [i] (nmG i) bYes fe ρ = .ok ρ1 (.tmp (.lst (ds.map f))) := by
  have h := fLc_pure (p := fun _ => true) (t := bYes) hfi hi (fun _ _ => rfl) (fun d hd _ => hf d hd) hl
  rw [h, List.filter_eq_self.mpr fun _ _ => rfl]
end DL
namespace K01
open PySem PySem.Spec
open PyProof.Rows hiding St
open L2 DL
def iw (v : D) (lo hi : Int) : Bool := match v with
  | .int i => decide (lo ≤ i) && decide (i ≤ hi)
  | _ => false
def wide (v : D) (lo hi : Int) : Bool := match v with
  | .tup xs => decide (lo ≤ (xs.length : Nat)) && decide (((xs.length : Nat) : Int) ≤ hi)
  | _ => false
theorem kb1 : kitB "int" "int" = some true := by decide +kernel
theorem kb2 : kitB "int" "bool" = some false := by decide +kernel
theorem kb3 : kitB "tuple" "tuple" = some true := by decide +kernel
theorem m_is_within (v : D) (lo hi : Int) (hv : v.ty ≠ none) : FF_is_within [.val v, .val (.int lo), .val (.int hi)] = .ret [.val v, .val (.int lo), .val (.int hi)] (.val (.bl (iw v lo hi))) := by
  cases v <;> try rfl
  case int i =>
    simp only [FF_is_within, ev_is_within, startE, sSeq, sRet, vAnd, fOp, fV, fC, look, gIsi, D.ty, kb1, kb2, oW, isB, vNot, fChain, gLe, g2I, finF, resW, outs, outS, Sl.look, iw, Out.bind_ok, Out.thenS_ok, List.length_cons, List.length_nil, List.getElem?_cons_zero, List.getElem?_cons_succ, List.append_nil, List.replicate, Option.map_some, List.mapIdx_cons, List.mapIdx_nil, Nat.sub_self, List.cons_append, List.nil_append, Bool.not_false]
    cases h1 : decide (lo ≤ i) <;> rfl
  case opq => exact (hv rfl).elim
theorem m_is_wide (v : D) (lo hi : Int) (hv : v.ty ≠ none) : FF_is_wide [.val v, .val (.int lo), .val (.int hi)] = .ret [.val v, .val (.int lo), .val (.int hi)] (.val (.bl (wide v lo hi))) := by
  cases v <;> try rfl
  case tup xs =>
    simp only [FF_is_wide, ev_is_wide, startE, sSeq, sRet, vAnd, fOp, fUn, fV, fC, look, gIsi, gLen, D.ty, kb3, oW, isB, vNot, fChain, gLe, g2I, finF, resW, outs, outS, Sl.look, wide, Out.bind_ok, Out.thenS_ok, List.length_cons, List.length_nil, List.getElem?_cons_zero, List.getElem?_cons_succ, List.append_nil, List.replicate, Option.map_some, List.mapIdx_cons, List.mapIdx_nil, Nat.sub_self, List.cons_append, List.nil_append, Bool.not_false]
    cases h1 : decide (lo ≤ (xs.length : Nat)) <;> rfl
  case opq => exact (hv rfl).elim
end K01
namespace DL
open PySem PySem.Spec
open PyProof.Rows hiding St
open L2
/-! ### the evaluators run, one step at a time: each step's rest stands by itself -/
section
variable {α β : Type} {ρ ρ1 ρ2 : En} {w w1 w2 : Wv} {d d1 : D} {f g h : Sv} {fa fb fc : Ev Wv} {fd : Ev D} {p q : Ev Bool} {c : Str} {b : Bool} {i j : Nat} {o : OD}
def SOut.sq (x : SOut) (g : Sv) : SOut := match x with
  | .nx ρ1 => g ρ1
  | r => r
theorem q_seq : sSeq f g ρ = (f ρ).sq g := by unfold sSeq SOut.sq; cases f ρ <;> rfl
theorem q_nx : (SOut.nx ρ1).sq g = g ρ1 := Eq.trans rfl rfl
theorem q_rt : (SOut.rt ρ1 w).sq g = .rt ρ1 w := Eq.trans rfl rfl
theorem q_bk : (SOut.bk ρ1).sq g = .bk ρ1 := Eq.trans rfl rfl
theorem q_exc : (SOut.exc c).sq g = .exc c := Eq.trans rfl rfl
theorem q_nil : sNil ρ = .nx ρ := Eq.trans rfl rfl
def kRet (ρ1 : En) (w : Wv) : SOut := .rt ρ1 w
theorem q_ret : sRet fa ρ = (fa ρ).thenS kRet := Eq.trans rfl rfl
theorem q_kret : kRet ρ1 w = .rt ρ1 w := Eq.trans rfl rfl
theorem q_retN : sRetN ρ = .rt ρ (.val .non) := Eq.trans rfl rfl
def kIf (f g : Sv) (ρ1 : En) (b : Bool) : SOut := match b with
  | true => f ρ1
  | false => g ρ1
theorem q_if : sIf p f g ρ = (p ρ).thenS (kIf f g) := Eq.trans rfl rfl
theorem q_ift : kIf f g ρ1 true = f ρ1 := Eq.trans rfl rfl
theorem q_iff : kIf f g ρ1 false = g ρ1 := Eq.trans rfl rfl
def kExpr (ρ1 : En) (_ : Wv) : SOut := .nx ρ1
theorem q_expr : sExpr fa ρ = (fa ρ).thenS kExpr := Eq.trans rfl rfl
theorem q_kexpr : kExpr ρ1 w = .nx ρ1 := Eq.trans rfl rfl
theorem q_sexc : sExc c ρ = .exc c := Eq.trans rfl rfl
def kSet (i : Nat) (ρ1 : En) (w : Wv) : SOut := oS (putS ρ1 i w)
theorem q_set : sSet i fa ρ = (fa ρ).thenS (kSet i) := Eq.trans rfl rfl
theorem q_ksetv : kSet i ρ1 (.val d) = if isIo ρ1 i then .stk else .nx (ρ1.set i (.val d)) := by
  show oS (if isIo ρ1 i then none else some (ρ1.set i (.val d))) = _
  cases isIo ρ1 i <;> rfl
theorem q_ksett : kSet i ρ1 (.tmp o) = if isIo ρ1 i then .stk else .nx (ρ1.set i (.own o)) := by
  show oS (if isIo ρ1 i then none else some (ρ1.set i (.own o))) = _
  cases isIo ρ1 i <;> rfl
/-! expressions -/
theorem q_c : fC d ρ = .ok ρ (.val d) := Eq.trans rfl rfl
def slR (ρ : En) (i : Nat) : Option Sl → Out Wv
  | some (.val d) => .ok ρ (.val d)
  | some (.own _) => .ok ρ (.slot i)
  | some (.io _) => .ok ρ (.slot i)
  | _ => .stk
theorem q_v : fV i ρ = slR ρ i ρ[i]? := by
  unfold fV slR
  cases ρ[i]? with
  | none => rfl
  | some s => cases s <;> rfl
theorem q_vv : slR ρ i (some (.val d)) = .ok ρ (.val d) := Eq.trans rfl rfl
theorem q_vo : slR ρ i (some (.own o)) = .ok ρ (.slot i) := Eq.trans rfl rfl
theorem q_vi : slR ρ i (some (.io o)) = .ok ρ (.slot i) := Eq.trans rfl rfl
def kFz (ρ : En) (w : Wv) : Out D := fzO ρ w
theorem q_fz : fFz fa ρ = (fa ρ).bind kFz := Eq.trans rfl rfl
theorem q_kfzv : kFz ρ (.val d) = .ok ρ d := Eq.trans rfl rfl
theorem q_kfzt : kFz ρ (.tmp o) = .ok ρ o.fz := Eq.trans rfl rfl
def kOp1 (g : D → D → Option Wv) (fb : Ev Wv) (ρ1 : En) (w1 : Wv) : Out Wv := (fb ρ1).bind fun ρ2 w2 => match look ρ2 w1, look ρ2 w2 with
  | some d, some e => oW ρ2 (g d e)
  | _, _ => .stk
def opE (g : D → D → Option Wv) (ρ2 : En) : Option D → Option D → Out Wv
  | some d, some e => oW ρ2 (g d e)
  | _, _ => .stk
def kOp2 (g : D → D → Option Wv) (w1 : Wv) (ρ2 : En) (w2 : Wv) : Out Wv := opE g ρ2 (look ρ2 w1) (look ρ2 w2)
variable {k : D → D → Option Wv} {k1 : D → Option Wv} {e : D}
theorem q_op : fOp k fa fb ρ = (fa ρ).bind (kOp1 k fb) := Eq.trans rfl rfl
theorem q_op1 : kOp1 k fb ρ1 w1 = (fb ρ1).bind (kOp2 k w1) := by
  rfl
theorem q_op2 : kOp2 k w1 ρ2 w2 = opE k ρ2 (look ρ2 w1) (look ρ2 w2) := Eq.trans rfl rfl
theorem q_opE : opE k ρ2 (some d) (some e) = oW ρ2 (k d e) := Eq.trans rfl rfl
theorem q_lv : look ρ (.val d) = some d := Eq.trans rfl rfl
theorem q_lt : look ρ (.tmp o) = some o.fz := Eq.trans rfl rfl
def slL : Option Sl → Option D
  | some s => s.look
  | none => none
theorem q_ls : look ρ (.slot i) = slL ρ[i]? := by
  unfold look slL
  rfl
theorem q_slo : slL (some (.own o)) = some o.fz := Eq.trans rfl rfl
theorem q_sli : slL (some (.io o)) = some o.fz := Eq.trans rfl rfl
theorem q_slv : slL (some (.val d)) = some d := Eq.trans rfl rfl
theorem q_fzl {ds : List D} : (OD.lst ds).fz = .lst ds := Eq.trans rfl rfl
theorem q_oWs : oW ρ (some w) = .ok ρ w := Eq.trans rfl rfl
def unE (k1 : D → Option Wv) (ρ1 : En) : Option D → Out Wv
  | some d => oW ρ1 (k1 d)
  | none => .stk
def kUn (k1 : D → Option Wv) (ρ1 : En) (w1 : Wv) : Out Wv := unE k1 ρ1 (look ρ1 w1)
theorem q_un : fUn k1 fa ρ = (fa ρ).bind (kUn k1) := by
  rfl
theorem q_kun : kUn k1 ρ1 w1 = unE k1 ρ1 (look ρ1 w1) := Eq.trans rfl rfl
theorem q_unE : unE k1 ρ1 (some d) = oW ρ1 (k1 d) := Eq.trans rfl rfl
/-! and, or, not -/
def kAndV (fb : Ev Wv) (ρ1 : En) (k : Bool) : Out Wv := match k with
  | true => fb ρ1
  | false => .ok ρ1 (.val (.bl false))
def kOrV (fb : Ev Wv) (ρ1 : En) (k : Bool) : Out Wv := match k with
  | true => .ok ρ1 (.val (.bl true))
  | false => fb ρ1
def kNotV (ρ1 : En) (k : Bool) : Out Wv := .ok ρ1 (.val (.bl (!k)))
def thenB (k : En → Bool → Out Wv) (ρ1 : En) (w : Wv) : Out Wv := (isB ρ1 w).bind k
theorem q_and : vAnd fa fb ρ = (fa ρ).bind (thenB (kAndV fb)) := Eq.trans rfl rfl
theorem q_or : vOr fa fb ρ = (fa ρ).bind (thenB (kOrV fb)) := Eq.trans rfl rfl
theorem q_not : vNot fa ρ = (fa ρ).bind (thenB kNotV) := Eq.trans rfl rfl
theorem q_thenB {k : En → Bool → Out Wv} : thenB k ρ1 (.val (.bl b)) = k ρ1 b := Eq.trans rfl rfl
theorem q_andt : kAndV fb ρ1 true = fb ρ1 := Eq.trans rfl rfl
theorem q_andf : kAndV fb ρ1 false = .ok ρ1 (.val (.bl false)) := Eq.trans rfl rfl
theorem q_ort : kOrV fb ρ1 true = .ok ρ1 (.val (.bl true)) := Eq.trans rfl rfl
theorem q_orf : kOrV fb ρ1 false = fb ρ1 := Eq.trans rfl rfl
theorem q_knot : kNotV ρ1 b = .ok ρ1 (.val (.bl (!b))) := Eq.trans rfl rfl
/-! tests -/
def kB (ρ1 : En) (w : Wv) : Out Bool := isB ρ1 w
theorem q_fB : fB fa ρ = (fa ρ).bind kB := Eq.trans rfl rfl
theorem q_kB : kB ρ1 (.val (.bl b)) = .ok ρ1 b := Eq.trans rfl rfl
def truE (ρ1 : En) : Option D → Out Bool
  | some d => (match tru d with
    | some b => .ok ρ1 b
    | none => .stk)
  | none => .stk
def kTru (ρ1 : En) (w : Wv) : Out Bool := truE ρ1 (look ρ1 w)
theorem q_tru : fTru fa ρ = (fa ρ).bind kTru := by
  rfl
theorem q_ktru : kTru ρ1 w = truE ρ1 (look ρ1 w) := Eq.trans rfl rfl
theorem q_truB : truE ρ1 (some (.bl b)) = .ok ρ1 b := Eq.trans rfl rfl
def kbNot (ρ1 : En) (b : Bool) : Out Bool := .ok ρ1 (!b)
def kbAnd (g : Ev Bool) (ρ1 : En) (b : Bool) : Out Bool := match b with
  | true => g ρ1
  | false => .ok ρ1 false
def kbOr (g : Ev Bool) (ρ1 : En) (b : Bool) : Out Bool := match b with
  | true => .ok ρ1 true
  | false => g ρ1
theorem q_bnot : bNot p ρ = (p ρ).bind kbNot := Eq.trans rfl rfl
theorem q_kbnot : kbNot ρ1 b = .ok ρ1 (!b) := Eq.trans rfl rfl
theorem q_band : bAnd p q ρ = (p ρ).bind (kbAnd q) := Eq.trans rfl rfl
theorem q_bor : bOr p q ρ = (p ρ).bind (kbOr q) := Eq.trans rfl rfl
theorem q_bandt : kbAnd q ρ1 true = q ρ1 := Eq.trans rfl rfl
theorem q_bandf : kbAnd q ρ1 false = .ok ρ1 false := Eq.trans rfl rfl
theorem q_bort : kbOr q ρ1 true = .ok ρ1 true := Eq.trans rfl rfl
theorem q_borf : kbOr q ρ1 false = q ρ1 := Eq.trans rfl rfl
def kvIf (fa fb : Ev Wv) (ρ1 : En) (b : Bool) : Out Wv := match b with
  | true => fa ρ1
  | false => fb ρ1
theorem q_vif : vIf p fa fb ρ = (p ρ).bind (kvIf fa fb) := Eq.trans rfl rfl
theorem q_vift : kvIf fa fb ρ1 true = fa ρ1 := Eq.trans rfl rfl
theorem q_viff : kvIf fa fb ρ1 false = fb ρ1 := Eq.trans rfl rfl
/-! lists of parts -/
def kCons1 (r : Ev (List D)) (ρ1 : En) (d : D) : Out (List D) := (r ρ1).bind fun ρ2 ds => .ok ρ2 (d :: ds)
def kCons2 (d : D) (ρ2 : En) (ds : List D) : Out (List D) := .ok ρ2 (d :: ds)
variable {r : Ev (List D)} {ds : List D}
theorem q_anil : aNil ρ = .ok ρ [] := Eq.trans rfl rfl
theorem q_acons : aCons fd r ρ = (fd ρ).bind (kCons1 r) := Eq.trans rfl rfl
theorem q_kcons1 : kCons1 r ρ1 d = (r ρ1).bind (kCons2 d) := Eq.trans rfl rfl
theorem q_kcons2 : kCons2 d ρ2 ds = .ok ρ2 (d :: ds) := Eq.trans rfl rfl
def kTup (ρ1 : En) (ds : List D) : Out Wv := if fits ds.length then .ok ρ1 (.val (.tup ds)) else .stk
def kLst (ρ1 : En) (ds : List D) : Out Wv := if fits ds.length then .ok ρ1 (.tmp (.lst ds)) else .stk
theorem q_tup : fTup r ρ = (r ρ).bind kTup := Eq.trans rfl rfl
theorem q_lst : fLst r ρ = (r ρ).bind kLst := Eq.trans rfl rfl
theorem q_ktup : kTup ρ1 ds = if fits ds.length then .ok ρ1 (.val (.tup ds)) else .stk := Eq.trans rfl rfl
theorem q_klst : kLst ρ1 ds = if fits ds.length then .ok ρ1 (.tmp (.lst ds)) else .stk := Eq.trans rfl rfl
/-! calls -/
variable {ra : Ev (List Ag)} {as : List Ag} {F : FF} {n : Nat} {ss ss' : List Sl}
def kVal1 (r : Ev (List Ag)) (ρ1 : En) (d : D) : Out (List Ag) := (r ρ1).bind fun ρ2 as => .ok ρ2 (.val d :: as)
def kVal2 (d : D) (ρ2 : En) (as : List Ag) : Out (List Ag) := .ok ρ2 (.val d :: as)
def kIo (i : Nat) (ρ2 : En) (as : List Ag) : Out (List Ag) := .ok ρ2 (.io i :: as)
theorem q_gnil : DL.gNil ρ = .ok ρ [] := Eq.trans rfl rfl
theorem q_gval : gVal fd ra ρ = (fd ρ).bind (kVal1 ra) := Eq.trans rfl rfl
theorem q_kval1 : kVal1 ra ρ1 d = (ra ρ1).bind (kVal2 d) := Eq.trans rfl rfl
theorem q_kval2 : kVal2 d ρ2 as = .ok ρ2 (.val d :: as) := Eq.trans rfl rfl
theorem q_gio : gIo i ra ρ = if isHeld ρ i then (ra ρ).bind (kIo i) else .stk := Eq.trans rfl rfl
theorem q_kio : kIo i ρ2 as = .ok ρ2 (.io i :: as) := Eq.trans rfl rfl
def resC (ρ1 : En) (as : List Ag) : FOut → Out Wv
  | .ret ss' w => (match ios as with
    | [] => .ok ρ1 w
    | i :: is => if (i :: is).Nodup then .ok (putIo ρ1 as ss') w else .stk)
  | .exc c => if (ios as).Nodup then .exc c else .stk
  | .stk => .stk
def callC (n : Nat) (F : FF) (ρ1 : En) (as : List Ag) : Option (List Sl) → Out Wv
  | some ss => (match ss.length == n with
    | false => .stk
    | true => resC ρ1 as (F ss))
  | none => .stk
def kCall (n : Nat) (F : FF) (ρ1 : En) (as : List Ag) : Out Wv := callC n F ρ1 as (agSls ρ1 as)
theorem q_call : fCall n F ra ρ = (ra ρ).bind (kCall n F) := by
  refine (show (ra ρ).bind _ = (ra ρ).bind _ from congrArg _ ?_)
  funext ρ1 as
  unfold kCall callC
  cases agSls ρ1 as with
  | none => rfl
  | some ss =>
    simp only []
    cases ss.length == n with
    | false => rfl
    | true =>
      simp only [resC]
      all_goals (cases F ss <;> rfl)
theorem q_finv : finF ss (.rt ρ (.val d)) = .ret (outs ss ρ) (.val d) := Eq.trans rfl rfl
theorem q_fint : finF ss (.rt ρ (.tmp o)) = .ret (outs ss ρ) (.tmp o) := Eq.trans rfl rfl
theorem q_finn : finF ss (.nx ρ) = .ret (outs ss ρ) (.val .non) := Eq.trans rfl rfl
theorem q_fine : finF ss (.exc c) = .exc c := Eq.trans rfl rfl
def finS (ss : List Sl) (ρ : En) : Option Sl → FOut
  | some (.own o) => .ret (outs ss ρ) (.tmp o)
  | some (.val d) => .ret (outs ss ρ) (.val d)
  | _ => .stk
theorem q_fins : finF ss (.rt ρ (.slot i)) = finS ss ρ ρ[i]? := by
  unfold finF finS resW
  simp only []
  cases ρ[i]? with
  | none => rfl
  | some s => cases s <;> rfl
theorem q_kcall : kCall n F ρ1 as = callC n F ρ1 as (agSls ρ1 as) := Eq.trans rfl rfl
end
end DL
namespace K01
open PySem PySem.Spec
open PyProof.Rows hiding St
open L2 DL
theorem py_ty {d : D} (h : d.py ≠ none) : d.ty ≠ none := by
  cases d <;> first | (intro z; cases z; done) | exact (h rfl).elim
theorem pys_mem : ∀ {ds : List D}, D.pys ds ≠ none → ∀ d ∈ ds, d.py ≠ none
  | [], _, d, hd => by cases hd
  | x :: xs, h, d, hd => by
    have h : (match D.py x, D.pys xs with | some p, some ps => some (p :: ps) | _, _ => none) ≠ none := h
    cases e1 : D.py x with
    | none => rw [e1] at h; exact (h rfl).elim
    | some p =>
      cases e2 : D.pys xs with
      | none => rw [e1, e2] at h; exact (h rfl).elim
      | some ps =>
        rcases List.mem_cons.mp hd with z | z
        · rw [z, e1]; simp
        · exact pys_mem (by rw [e2]; simp) d z
theorem py_tup {xs : List D} (h : (D.tup xs).py ≠ none) : D.pys xs ≠ none := fun z => h (by show (D.pys xs).map PyData.tuple = none; rw [z]; rfl)
theorem py_ints : ∀ ns : List Int, D.pys (ns.map D.int) = some (ns.map PyData.int)
  | [] => rfl
  | n :: ns => by
    show (match D.py (D.int n), D.pys (ns.map D.int) with | some p, some ps => some (p :: ps) | _, _ => none) = _
    rw [py_ints ns]
    rfl
def iwAll (cs : List D) (hi : Int) : Bool := cs.all fun c => iw c 0 hi
def sortedD (cs : List D) : Bool := match intsO cs with
  | some ns => decide (ns = isort ns)
  | none => false
def way (v : D) (many : Int) : Bool := match v with
  | .tup [a, .tup cs] => iw a 0 9 && (decide (cs.length ≤ 2) && (iwAll cs (many - 1) && sortedD cs))
  | _ => false
theorem iw_int {c : D} {lo hi : Int} (h : iw c lo hi = true) : ∃ i, c = .int i ∧ lo ≤ i ∧ i ≤ hi := by
  cases c with
  | int i =>
    have h : (decide (lo ≤ i) && decide (i ≤ hi)) = true := h
    rw [Bool.and_eq_true, decide_eq_true_eq, decide_eq_true_eq] at h
    exact ⟨i, rfl, h⟩
  | _ => cases h
theorem ints_of_all {hi : Int} : ∀ {cs : List D}, iwAll cs hi = true → ∃ ns : List Int, cs = ns.map D.int ∧ ∀ n ∈ ns, 0 ≤ n ∧ n ≤ hi
  | [], _ => ⟨[], rfl, fun n h => (by cases h)⟩
  | c :: cs, h => by
    have h : (iw c 0 hi && iwAll cs hi) = true := h
    rw [Bool.and_eq_true] at h
    obtain ⟨i, rfl, h1⟩ := iw_int h.1
    obtain ⟨ns, rfl, h2⟩ := ints_of_all h.2
    refine ⟨i :: ns, rfl, fun n hn => ?_⟩
    rcases List.mem_cons.mp hn with z | z
    · rw [z]; exact h1
    · exact h2 n z
theorem bls_map {α : Type} (f : α → Bool) : ∀ l : List α, bls (l.map fun d => D.bl (f d)) = some (l.map f)
  | [] => rfl
  | a :: l => by
    show (bls (l.map fun d => D.bl (f d))).map (f a :: ·) = _
    rw [bls_map f l]; rfl
theorem intsO_map : ∀ ns : List Int, intsO (ns.map D.int) = some ns
  | [] => rfl
  | n :: ns => by
    show (intsO (ns.map D.int)).map (n :: ·) = _
    rw [intsO_map ns]; rfl
theorem sh_ints (ns : List Int) : SeqAt.shaped (.list (ns.map PyData.int)) = true := by
  induction ns with
  | nil => rfl
  | cons n ns ih => exact ih
theorem eqv_ints (ns ms : List Int) : PyData.eqv (.list (ns.map PyData.int)) (.list (ms.map PyData.int)) = decide (ns = ms) := by
  induction ns generalizing ms with
  | nil => cases ms <;> rfl
  | cons n ns ih =>
    cases ms with
    | nil => rfl
    | cons m ms =>
      have h := ih ms
      simp only [PyData.eqv] at h
      have i1 : PyData.eqv (.int n) (.int m) = decide (n = m) := by
        simp only [PyData.eqv]
        rw [Bool.eq_iff_iff]; simp
      simp only [PyData.eqv, List.map_cons, PyData.eqvAll, h, i1, List.cons.injEq, Bool.decide_and]
      try rfl
theorem gEq_ints (ns ms : List Int) : gEq (.lst (ns.map D.int)) (.lst (ms.map D.int)) = some (.val (.bl (decide (ns = ms)))) := by
  have e1 : (D.lst (ns.map D.int)).py = some (.list (ns.map PyData.int)) := by
    show (D.pys _).map PyData.list = _
    rw [py_ints]; rfl
  have e2 : (D.lst (ms.map D.int)).py = some (.list (ms.map PyData.int)) := by
    show (D.pys _).map PyData.list = _
    rw [py_ints]; rfl
  unfold gEq gEqv
  rw [e1, e2]
  show (if SeqAt.shaped (.list (ns.map PyData.int)) && SeqAt.shaped (.list (ms.map PyData.int)) then some (Wv.val (D.bl (id (PyData.eqv (.list (ns.map PyData.int)) (.list (ms.map PyData.int)))))) else none) = _
  rw [sh_ints, sh_ints, eqv_ints]; rfl
theorem m_is_way (v : D) (many : Int) (hv : v.py ≠ none) : FF_is_way [.val v, .val (.int many)] = .ret [.val v, .val (.int many)] (.val (.bl (way v many))) := by
  have w1 := m_is_wide v 2 2 (py_ty hv)
  simp only [q_seq, q_nx, q_rt, q_bk, q_exc, q_nil, q_ret, q_kret, q_retN, q_if, q_ift, q_iff, q_expr, q_kexpr, q_sexc, q_set, q_ksetv, q_ksett, q_c, q_v, q_vv, q_vo, q_vi, q_fz, q_kfzv, q_kfzt, q_op, q_op1, q_op2, q_opE, q_lv, q_lt, q_ls, q_slo, q_sli, q_slv, q_fzl, q_oWs, q_un, q_kun, q_unE, q_and, q_or, q_not, q_thenB, q_andt, q_andf, q_ort, q_orf, q_knot, q_fB, q_kB, q_tru, q_ktru, q_truB, q_bnot, q_kbnot, q_band, q_bor, q_bandt, q_bandf, q_bort, q_borf, q_vif, q_vift, q_viff, q_anil, q_acons, q_kcons1, q_kcons2, q_tup, q_lst, q_ktup, q_klst, q_gnil, q_gval, q_kval1, q_kval2, q_gio, q_kio, q_call, q_finv, q_fint, q_finn, q_fine, q_fins, q_kcall, startE, finS, outs, outS, agSls, agSl, ios, callC, resC, isIo, isHeld, gIsi, gLen, gLe, gLt, gGe, gGt, g2I, gInt, D.seq?, tru, Out.bind_ok, Out.thenS_ok, Out.bind_exc, Out.thenS_exc, Out.bind_stk, Out.thenS_stk, List.length_cons, List.length_nil, List.getElem?_cons_zero, List.getElem?_cons_succ, List.append_nil, List.replicate, Option.map_some, Option.map_none, List.mapIdx_cons, List.mapIdx_nil, Nat.sub_self, List.cons_append, List.nil_append, Bool.not_false, Bool.not_true, List.set_cons_zero, List.set_cons_succ, Bool.false_eq_true, if_true, if_false, reduceIte, decide_true, Nat.zero_add, Nat.reduceAdd, Nat.reduceSub, Nat.reduceBEq, beq_self_eq_true, FF_is_way, ev_is_way, w1]
  cases hw : wide v 2 2 with
  | false =>
    simp only [q_seq, q_nx, q_rt, q_bk, q_exc, q_nil, q_ret, q_kret, q_retN, q_if, q_ift, q_iff, q_expr, q_kexpr, q_sexc, q_set, q_ksetv, q_ksett, q_c, q_v, q_vv, q_vo, q_vi, q_fz, q_kfzv, q_kfzt, q_op, q_op1, q_op2, q_opE, q_lv, q_lt, q_ls, q_slo, q_sli, q_slv, q_fzl, q_oWs, q_un, q_kun, q_unE, q_and, q_or, q_not, q_thenB, q_andt, q_andf, q_ort, q_orf, q_knot, q_fB, q_kB, q_tru, q_ktru, q_truB, q_bnot, q_kbnot, q_band, q_bor, q_bandt, q_bandf, q_bort, q_borf, q_vif, q_vift, q_viff, q_anil, q_acons, q_kcons1, q_kcons2, q_tup, q_lst, q_ktup, q_klst, q_gnil, q_gval, q_kval1, q_kval2, q_gio, q_kio, q_call, q_finv, q_fint, q_finn, q_fine, q_fins, q_kcall, startE, finS, outs, outS, agSls, agSl, ios, callC, resC, isIo, isHeld, gIsi, gLen, gLe, gLt, gGe, gGt, g2I, gInt, D.seq?, tru, Out.bind_ok, Out.thenS_ok, Out.bind_exc, Out.thenS_exc, Out.bind_stk, Out.thenS_stk, List.length_cons, List.length_nil, List.getElem?_cons_zero, List.getElem?_cons_succ, List.append_nil, List.replicate, Option.map_some, Option.map_none, List.mapIdx_cons, List.mapIdx_nil, Nat.sub_self, List.cons_append, List.nil_append, Bool.not_false, Bool.not_true, List.set_cons_zero, List.set_cons_succ, Bool.false_eq_true, if_true, if_false, reduceIte, decide_true, Nat.zero_add, Nat.reduceAdd, Nat.reduceSub, Nat.reduceBEq, beq_self_eq_true, ]
    have : way v many = false := by
      cases v with
      | tup xs =>
        match xs, hw with
        | [a, b], hw => cases hw
        | [], _ => rfl
        | [a], _ => rfl
        | a :: b :: c :: r, _ => cases b <;> rfl
      | _ => rfl
    rw [this]
  | true =>
    obtain ⟨a, b, rfl⟩ : ∃ a b, v = .tup [a, b] := by
      cases v with
      | tup xs =>
        match xs, hw with
        | [a, b], _ => exact ⟨a, b, rfl⟩
        | [], h => cases h
        | [a], h => cases h
        | a :: b :: c :: r, h =>
          have h : (decide ((2 : Int) ≤ ((r.length + 3 : Nat) : Int)) && decide (((r.length + 3 : Nat) : Int) ≤ 2)) = true := h
          rw [Bool.and_eq_true, decide_eq_true_eq, decide_eq_true_eq] at h
          omega
      | _ => cases hw
    have pa := pys_mem (py_tup hv) a (by simp)
    have pb := pys_mem (py_tup hv) b (by simp)
    have i0 : gIx (.tup [a, b]) (.int 0) = some (.val a) := rfl
    have i1 : gIx (.tup [a, b]) (.int 1) = some (.val b) := rfl
    have w2 := m_is_within a 0 9 (py_ty pa)
    have w3 := m_is_wide b 0 2 (py_ty pb)
    simp only [q_seq, q_nx, q_rt, q_bk, q_exc, q_nil, q_ret, q_kret, q_retN, q_if, q_ift, q_iff, q_expr, q_kexpr, q_sexc, q_set, q_ksetv, q_ksett, q_c, q_v, q_vv, q_vo, q_vi, q_fz, q_kfzv, q_kfzt, q_op, q_op1, q_op2, q_opE, q_lv, q_lt, q_ls, q_slo, q_sli, q_slv, q_fzl, q_oWs, q_un, q_kun, q_unE, q_and, q_or, q_not, q_thenB, q_andt, q_andf, q_ort, q_orf, q_knot, q_fB, q_kB, q_tru, q_ktru, q_truB, q_bnot, q_kbnot, q_band, q_bor, q_bandt, q_bandf, q_bort, q_borf, q_vif, q_vift, q_viff, q_anil, q_acons, q_kcons1, q_kcons2, q_tup, q_lst, q_ktup, q_klst, q_gnil, q_gval, q_kval1, q_kval2, q_gio, q_kio, q_call, q_finv, q_fint, q_finn, q_fine, q_fins, q_kcall, startE, finS, outs, outS, agSls, agSl, ios, callC, resC, isIo, isHeld, gIsi, gLen, gLe, gLt, gGe, gGt, g2I, gInt, D.seq?, tru, Out.bind_ok, Out.thenS_ok, Out.bind_exc, Out.thenS_exc, Out.bind_stk, Out.thenS_stk, List.length_cons, List.length_nil, List.getElem?_cons_zero, List.getElem?_cons_succ, List.append_nil, List.replicate, Option.map_some, Option.map_none, List.mapIdx_cons, List.mapIdx_nil, Nat.sub_self, List.cons_append, List.nil_append, Bool.not_false, Bool.not_true, List.set_cons_zero, List.set_cons_succ, Bool.false_eq_true, if_true, if_false, reduceIte, decide_true, Nat.zero_add, Nat.reduceAdd, Nat.reduceSub, Nat.reduceBEq, beq_self_eq_true, i0, i1, w2, w3]
    cases hi : iw a 0 9 with
    | false =>
      simp only [q_seq, q_nx, q_rt, q_bk, q_exc, q_nil, q_ret, q_kret, q_retN, q_if, q_ift, q_iff, q_expr, q_kexpr, q_sexc, q_set, q_ksetv, q_ksett, q_c, q_v, q_vv, q_vo, q_vi, q_fz, q_kfzv, q_kfzt, q_op, q_op1, q_op2, q_opE, q_lv, q_lt, q_ls, q_slo, q_sli, q_slv, q_fzl, q_oWs, q_un, q_kun, q_unE, q_and, q_or, q_not, q_thenB, q_andt, q_andf, q_ort, q_orf, q_knot, q_fB, q_kB, q_tru, q_ktru, q_truB, q_bnot, q_kbnot, q_band, q_bor, q_bandt, q_bandf, q_bort, q_borf, q_vif, q_vift, q_viff, q_anil, q_acons, q_kcons1, q_kcons2, q_tup, q_lst, q_ktup, q_klst, q_gnil, q_gval, q_kval1, q_kval2, q_gio, q_kio, q_call, q_finv, q_fint, q_finn, q_fine, q_fins, q_kcall, startE, finS, outs, outS, agSls, agSl, ios, callC, resC, isIo, isHeld, gIsi, gLen, gLe, gLt, gGe, gGt, g2I, gInt, D.seq?, tru, Out.bind_ok, Out.thenS_ok, Out.bind_exc, Out.thenS_exc, Out.bind_stk, Out.thenS_stk, List.length_cons, List.length_nil, List.getElem?_cons_zero, List.getElem?_cons_succ, List.append_nil, List.replicate, Option.map_some, Option.map_none, List.mapIdx_cons, List.mapIdx_nil, Nat.sub_self, List.cons_append, List.nil_append, Bool.not_false, Bool.not_true, List.set_cons_zero, List.set_cons_succ, Bool.false_eq_true, if_true, if_false, reduceIte, decide_true, Nat.zero_add, Nat.reduceAdd, Nat.reduceSub, Nat.reduceBEq, beq_self_eq_true, ]
      have : way (.tup [a, b]) many = false := by
        cases b <;> first | rfl | (show (iw a 0 9 && _) = false; rw [hi]; rfl)
      rw [this]
    | true =>
      simp only [q_seq, q_nx, q_rt, q_bk, q_exc, q_nil, q_ret, q_kret, q_retN, q_if, q_ift, q_iff, q_expr, q_kexpr, q_sexc, q_set, q_ksetv, q_ksett, q_c, q_v, q_vv, q_vo, q_vi, q_fz, q_kfzv, q_kfzt, q_op, q_op1, q_op2, q_opE, q_lv, q_lt, q_ls, q_slo, q_sli, q_slv, q_fzl, q_oWs, q_un, q_kun, q_unE, q_and, q_or, q_not, q_thenB, q_andt, q_andf, q_ort, q_orf, q_knot, q_fB, q_kB, q_tru, q_ktru, q_truB, q_bnot, q_kbnot, q_band, q_bor, q_bandt, q_bandf, q_bort, q_borf, q_vif, q_vift, q_viff, q_anil, q_acons, q_kcons1, q_kcons2, q_tup, q_lst, q_ktup, q_klst, q_gnil, q_gval, q_kval1, q_kval2, q_gio, q_kio, q_call, q_finv, q_fint, q_finn, q_fine, q_fins, q_kcall, startE, finS, outs, outS, agSls, agSl, ios, callC, resC, isIo, isHeld, gIsi, gLen, gLe, gLt, gGe, gGt, g2I, gInt, D.seq?, tru, Out.bind_ok, Out.thenS_ok, Out.bind_exc, Out.thenS_exc, Out.bind_stk, Out.thenS_stk, List.length_cons, List.length_nil, List.getElem?_cons_zero, List.getElem?_cons_succ, List.append_nil, List.replicate, Option.map_some, Option.map_none, List.mapIdx_cons, List.mapIdx_nil, Nat.sub_self, List.cons_append, List.nil_append, Bool.not_false, Bool.not_true, List.set_cons_zero, List.set_cons_succ, Bool.false_eq_true, if_true, if_false, reduceIte, decide_true, Nat.zero_add, Nat.reduceAdd, Nat.reduceSub, Nat.reduceBEq, beq_self_eq_true, i0, i1, w3]
      cases hz : wide b 0 2 with
      | false =>
        simp only [q_seq, q_nx, q_rt, q_bk, q_exc, q_nil, q_ret, q_kret, q_retN, q_if, q_ift, q_iff, q_expr, q_kexpr, q_sexc, q_set, q_ksetv, q_ksett, q_c, q_v, q_vv, q_vo, q_vi, q_fz, q_kfzv, q_kfzt, q_op, q_op1, q_op2, q_opE, q_lv, q_lt, q_ls, q_slo, q_sli, q_slv, q_fzl, q_oWs, q_un, q_kun, q_unE, q_and, q_or, q_not, q_thenB, q_andt, q_andf, q_ort, q_orf, q_knot, q_fB, q_kB, q_tru, q_ktru, q_truB, q_bnot, q_kbnot, q_band, q_bor, q_bandt, q_bandf, q_bort, q_borf, q_vif, q_vift, q_viff, q_anil, q_acons, q_kcons1, q_kcons2, q_tup, q_lst, q_ktup, q_klst, q_gnil, q_gval, q_kval1, q_kval2, q_gio, q_kio, q_call, q_finv, q_fint, q_finn, q_fine, q_fins, q_kcall, startE, finS, outs, outS, agSls, agSl, ios, callC, resC, isIo, isHeld, gIsi, gLen, gLe, gLt, gGe, gGt, g2I, gInt, D.seq?, tru, Out.bind_ok, Out.thenS_ok, Out.bind_exc, Out.thenS_exc, Out.bind_stk, Out.thenS_stk, List.length_cons, List.length_nil, List.getElem?_cons_zero, List.getElem?_cons_succ, List.append_nil, List.replicate, Option.map_some, Option.map_none, List.mapIdx_cons, List.mapIdx_nil, Nat.sub_self, List.cons_append, List.nil_append, Bool.not_false, Bool.not_true, List.set_cons_zero, List.set_cons_succ, Bool.false_eq_true, if_true, if_false, reduceIte, decide_true, Nat.zero_add, Nat.reduceAdd, Nat.reduceSub, Nat.reduceBEq, beq_self_eq_true, ]
        have : way (.tup [a, b]) many = false := by
          cases b with
          | tup cs =>
            have hz : (decide ((0 : Int) ≤ (cs.length : Nat)) && decide (((cs.length : Nat) : Int) ≤ 2)) = false := hz
            have : decide (cs.length ≤ 2) = false := by
              rw [Bool.and_eq_false_iff, decide_eq_false_iff_not, decide_eq_false_iff_not] at hz
              rw [decide_eq_false_iff_not]
              omega
            show (iw a 0 9 && (decide (cs.length ≤ 2) && _)) = false
            rw [hi, this]; rfl
          | _ => rfl
        rw [this]
      | true =>
        obtain ⟨cs, rfl⟩ : ∃ cs, b = .tup cs := by
          cases b with
          | tup cs => exact ⟨cs, rfl⟩
          | _ => cases hz
        have hlen : cs.length ≤ 2 := by
          have hz : (decide ((0 : Int) ≤ (cs.length : Nat)) && decide (((cs.length : Nat) : Int) ≤ 2)) = true := hz
          rw [Bool.and_eq_true, decide_eq_true_eq, decide_eq_true_eq] at hz
          omega
        simp only [q_seq, q_nx, q_rt, q_bk, q_exc, q_nil, q_ret, q_kret, q_retN, q_if, q_ift, q_iff, q_expr, q_kexpr, q_sexc, q_set, q_ksetv, q_ksett, q_c, q_v, q_vv, q_vo, q_vi, q_fz, q_kfzv, q_kfzt, q_op, q_op1, q_op2, q_opE, q_lv, q_lt, q_ls, q_slo, q_sli, q_slv, q_fzl, q_oWs, q_un, q_kun, q_unE, q_and, q_or, q_not, q_thenB, q_andt, q_andf, q_ort, q_orf, q_knot, q_fB, q_kB, q_tru, q_ktru, q_truB, q_bnot, q_kbnot, q_band, q_bor, q_bandt, q_bandf, q_bort, q_borf, q_vif, q_vift, q_viff, q_anil, q_acons, q_kcons1, q_kcons2, q_tup, q_lst, q_ktup, q_klst, q_gnil, q_gval, q_kval1, q_kval2, q_gio, q_kio, q_call, q_finv, q_fint, q_finn, q_fine, q_fins, q_kcall, startE, finS, outs, outS, agSls, agSl, ios, callC, resC, isIo, isHeld, gIsi, gLen, gLe, gLt, gGe, gGt, g2I, gInt, D.seq?, tru, Out.bind_ok, Out.thenS_ok, Out.bind_exc, Out.thenS_exc, Out.bind_stk, Out.thenS_stk, List.length_cons, List.length_nil, List.getElem?_cons_zero, List.getElem?_cons_succ, List.append_nil, List.replicate, Option.map_some, Option.map_none, List.mapIdx_cons, List.mapIdx_nil, Nat.sub_self, List.cons_append, List.nil_append, Bool.not_false, Bool.not_true, List.set_cons_zero, List.set_cons_succ, Bool.false_eq_true, if_true, if_false, reduceIte, decide_true, Nat.zero_add, Nat.reduceAdd, Nat.reduceSub, Nat.reduceBEq, beq_self_eq_true, ]
        have hlc := fLc_all (i := 2) (fi := iSeq (fFz (fOp gIx (fV 0) (fC (D.int 1))))) (fe := fFz (fCall 3 FF_is_within (gVal (fFz (fV 2)) (gVal (fFz (fC (D.int 0))) (gVal (fFz (fOp DL.gSub (fV 1) (fC (D.int 1)))) DL.gNil))))) (f := fun c => D.bl (iw c 0 (many - 1))) (ρ := [Sl.val (D.tup [a, .tup cs]), Sl.val (D.int many), Sl.emp]) (ρ1 := [Sl.val (D.tup [a, .tup cs]), Sl.val (D.int many), Sl.emp]) (ds := cs) (by rfl) (by show 2 < 3; decide) (fun d hd => by
          have pd := pys_mem (py_tup pb) d hd
          have w4 := m_is_within d 0 (many - 1) (py_ty pd)
          have s1 : DL.gSub (.int many) (.int 1) = some (.val (.int (many - 1))) := rfl
          simp only [q_seq, q_nx, q_rt, q_bk, q_exc, q_nil, q_ret, q_kret, q_retN, q_if, q_ift, q_iff, q_expr, q_kexpr, q_sexc, q_set, q_ksetv, q_ksett, q_c, q_v, q_vv, q_vo, q_vi, q_fz, q_kfzv, q_kfzt, q_op, q_op1, q_op2, q_opE, q_lv, q_lt, q_ls, q_slo, q_sli, q_slv, q_fzl, q_oWs, q_un, q_kun, q_unE, q_and, q_or, q_not, q_thenB, q_andt, q_andf, q_ort, q_orf, q_knot, q_fB, q_kB, q_tru, q_ktru, q_truB, q_bnot, q_kbnot, q_band, q_bor, q_bandt, q_bandf, q_bort, q_borf, q_vif, q_vift, q_viff, q_anil, q_acons, q_kcons1, q_kcons2, q_tup, q_lst, q_ktup, q_klst, q_gnil, q_gval, q_kval1, q_kval2, q_gio, q_kio, q_call, q_finv, q_fint, q_finn, q_fine, q_fins, q_kcall, startE, finS, outs, outS, agSls, agSl, ios, callC, resC, isIo, isHeld, gIsi, gLen, gLe, gLt, gGe, gGt, g2I, gInt, D.seq?, tru, Out.bind_ok, Out.thenS_ok, Out.bind_exc, Out.thenS_exc, Out.bind_stk, Out.thenS_stk, List.length_cons, List.length_nil, List.getElem?_cons_zero, List.getElem?_cons_succ, List.append_nil, List.replicate, Option.map_some, Option.map_none, List.mapIdx_cons, List.mapIdx_nil, Nat.sub_self, List.cons_append, List.nil_append, Bool.not_false, Bool.not_true, List.set_cons_zero, List.set_cons_succ, Bool.false_eq_true, if_true, if_false, reduceIte, decide_true, Nat.zero_add, Nat.reduceAdd, Nat.reduceSub, Nat.reduceBEq, beq_self_eq_true, w4, s1]) (by omega)
        have ga : gAll (D.lst (List.map (fun c => D.bl (iw c 0 (many - 1))) cs)) = some (.val (.bl (iwAll cs (many - 1)))) := by
          show (bls _).map _ = _
          rw [bls_map]
          show some (Wv.val (D.bl ((cs.map _).all id))) = _
          rw [List.all_map]; rfl
        simp only [q_seq, q_nx, q_rt, q_bk, q_exc, q_nil, q_ret, q_kret, q_retN, q_if, q_ift, q_iff, q_expr, q_kexpr, q_sexc, q_set, q_ksetv, q_ksett, q_c, q_v, q_vv, q_vo, q_vi, q_fz, q_kfzv, q_kfzt, q_op, q_op1, q_op2, q_opE, q_lv, q_lt, q_ls, q_slo, q_sli, q_slv, q_fzl, q_oWs, q_un, q_kun, q_unE, q_and, q_or, q_not, q_thenB, q_andt, q_andf, q_ort, q_orf, q_knot, q_fB, q_kB, q_tru, q_ktru, q_truB, q_bnot, q_kbnot, q_band, q_bor, q_bandt, q_bandf, q_bort, q_borf, q_vif, q_vift, q_viff, q_anil, q_acons, q_kcons1, q_kcons2, q_tup, q_lst, q_ktup, q_klst, q_gnil, q_gval, q_kval1, q_kval2, q_gio, q_kio, q_call, q_finv, q_fint, q_finn, q_fine, q_fins, q_kcall, startE, finS, outs, outS, agSls, agSl, ios, callC, resC, isIo, isHeld, gIsi, gLen, gLe, gLt, gGe, gGt, g2I, gInt, D.seq?, tru, Out.bind_ok, Out.thenS_ok, Out.bind_exc, Out.thenS_exc, Out.bind_stk, Out.thenS_stk, List.length_cons, List.length_nil, List.getElem?_cons_zero, List.getElem?_cons_succ, List.append_nil, List.replicate, Option.map_some, Option.map_none, List.mapIdx_cons, List.mapIdx_nil, Nat.sub_self, List.cons_append, List.nil_append, Bool.not_false, Bool.not_true, List.set_cons_zero, List.set_cons_succ, Bool.false_eq_true, if_true, if_false, reduceIte, decide_true, Nat.zero_add, Nat.reduceAdd, Nat.reduceSub, Nat.reduceBEq, beq_self_eq_true, hlc, ga]
        cases ha : iwAll cs (many - 1) with
        | false =>
          simp only [q_seq, q_nx, q_rt, q_bk, q_exc, q_nil, q_ret, q_kret, q_retN, q_if, q_ift, q_iff, q_expr, q_kexpr, q_sexc, q_set, q_ksetv, q_ksett, q_c, q_v, q_vv, q_vo, q_vi, q_fz, q_kfzv, q_kfzt, q_op, q_op1, q_op2, q_opE, q_lv, q_lt, q_ls, q_slo, q_sli, q_slv, q_fzl, q_oWs, q_un, q_kun, q_unE, q_and, q_or, q_not, q_thenB, q_andt, q_andf, q_ort, q_orf, q_knot, q_fB, q_kB, q_tru, q_ktru, q_truB, q_bnot, q_kbnot, q_band, q_bor, q_bandt, q_bandf, q_bort, q_borf, q_vif, q_vift, q_viff, q_anil, q_acons, q_kcons1, q_kcons2, q_tup, q_lst, q_ktup, q_klst, q_gnil, q_gval, q_kval1, q_kval2, q_gio, q_kio, q_call, q_finv, q_fint, q_finn, q_fine, q_fins, q_kcall, startE, finS, outs, outS, agSls, agSl, ios, callC, resC, isIo, isHeld, gIsi, gLen, gLe, gLt, gGe, gGt, g2I, gInt, D.seq?, tru, Out.bind_ok, Out.thenS_ok, Out.bind_exc, Out.thenS_exc, Out.bind_stk, Out.thenS_stk, List.length_cons, List.length_nil, List.getElem?_cons_zero, List.getElem?_cons_succ, List.append_nil, List.replicate, Option.map_some, Option.map_none, List.mapIdx_cons, List.mapIdx_nil, Nat.sub_self, List.cons_append, List.nil_append, Bool.not_false, Bool.not_true, List.set_cons_zero, List.set_cons_succ, Bool.false_eq_true, if_true, if_false, reduceIte, decide_true, Nat.zero_add, Nat.reduceAdd, Nat.reduceSub, Nat.reduceBEq, beq_self_eq_true, ]
          have : way (.tup [a, .tup cs]) many = false := by
            show (iw a 0 9 && (decide (cs.length ≤ 2) && (iwAll cs (many - 1) && sortedD cs))) = false
            rw [ha, Bool.false_and, Bool.and_false, Bool.and_false]
          rw [this]
        | true =>
          obtain ⟨ns, rfl, _⟩ := ints_of_all ha
          have gl : gList (D.tup (ns.map D.int)) = some (.tmp (.lst (ns.map D.int))) := rfl
          have gs : gSorted (D.tup (ns.map D.int)) = some (.tmp (.lst ((isort ns).map D.int))) := by
            show (intsO (ns.map D.int)).map _ = _
            rw [intsO_map]; rfl
          have ge := gEq_ints ns (isort ns)
          simp only [q_seq, q_nx, q_rt, q_bk, q_exc, q_nil, q_ret, q_kret, q_retN, q_if, q_ift, q_iff, q_expr, q_kexpr, q_sexc, q_set, q_ksetv, q_ksett, q_c, q_v, q_vv, q_vo, q_vi, q_fz, q_kfzv, q_kfzt, q_op, q_op1, q_op2, q_opE, q_lv, q_lt, q_ls, q_slo, q_sli, q_slv, q_fzl, q_oWs, q_un, q_kun, q_unE, q_and, q_or, q_not, q_thenB, q_andt, q_andf, q_ort, q_orf, q_knot, q_fB, q_kB, q_tru, q_ktru, q_truB, q_bnot, q_kbnot, q_band, q_bor, q_bandt, q_bandf, q_bort, q_borf, q_vif, q_vift, q_viff, q_anil, q_acons, q_kcons1, q_kcons2, q_tup, q_lst, q_ktup, q_klst, q_gnil, q_gval, q_kval1, q_kval2, q_gio, q_kio, q_call, q_finv, q_fint, q_finn, q_fine, q_fins, q_kcall, startE, finS, outs, outS, agSls, agSl, ios, callC, resC, isIo, isHeld, gIsi, gLen, gLe, gLt, gGe, gGt, g2I, gInt, D.seq?, tru, Out.bind_ok, Out.thenS_ok, Out.bind_exc, Out.thenS_exc, Out.bind_stk, Out.thenS_stk, List.length_cons, List.length_nil, List.getElem?_cons_zero, List.getElem?_cons_succ, List.append_nil, List.replicate, Option.map_some, Option.map_none, List.mapIdx_cons, List.mapIdx_nil, Nat.sub_self, List.cons_append, List.nil_append, Bool.not_false, Bool.not_true, List.set_cons_zero, List.set_cons_succ, Bool.false_eq_true, if_true, if_false, reduceIte, decide_true, Nat.zero_add, Nat.reduceAdd, Nat.reduceSub, Nat.reduceBEq, beq_self_eq_true, i1, gl, gs, ge]
          have : way (.tup [a, .tup (ns.map D.int)]) many = decide (ns = isort ns) := by
            show (iw a 0 9 && (decide ((ns.map D.int).length ≤ 2) && (iwAll (ns.map D.int) (many - 1) && sortedD (ns.map D.int)))) = _
            rw [hi, ha, decide_eq_true hlen]
            show sortedD (ns.map D.int) = _
            unfold sortedD
            rw [intsO_map]
          rw [this]
end K01
namespace K01
open PySem PySem.Spec
open PyProof.Rows hiding St
open L2 DL
theorem rowmem {ns : List Int} (hs : ns = isort ns) (hl : ns.length ≤ 2) (ha : ∀ n ∈ ns, 0 ≤ n ∧ n ≤ 2) : ns ∈ allRows := by
  match ns, hs, hl, ha with
  | [], _, _, _ => decide
  | [a], _, _, ha =>
    have := ha a (by simp)
    have : a = 0 ∨ a = 1 ∨ a = 2 := by omega
    rcases this with z | z | z <;> subst z <;> decide
  | [a, b], hs, _, ha =>
    have h1 := ha a (by simp)
    have h2 := ha b (by simp)
    have h1 : a = 0 ∨ a = 1 ∨ a = 2 := by omega
    have h2 : b = 0 ∨ b = 1 ∨ b = 2 := by omega
    revert hs
    rcases h1 with z | z | z <;> subst z <;> rcases h2 with z | z | z <;> subst z <;> decide
  | a :: b :: c :: r, _, hl, _ => simp at hl
theorem way_k {d : D} {many : Int} (h : way d many = true) (hm : many ≤ 3) : ∃ m ns, d = .tup [.int m, .tup (ns.map D.int)] ∧ wayK d = some (m, ns) ∧ (m, ns) ∈ allK := by
  have ⟨a, cs, e⟩ : ∃ a cs, d = .tup [a, .tup cs] := by
    unfold way at h
    split at h
    · exact ⟨_, _, rfl⟩
    · cases h
  subst e
  have h : (iw a 0 9 && (decide (cs.length ≤ 2) && (iwAll cs (many - 1) && sortedD cs))) = true := h
  rw [Bool.and_eq_true, Bool.and_eq_true, Bool.and_eq_true, decide_eq_true_eq] at h
  obtain ⟨h1, h2, h3, h4⟩ := h
  obtain ⟨m, rfl, m1, m2⟩ := iw_int h1
  obtain ⟨ns, rfl, hn⟩ := ints_of_all h3
  unfold sortedD at h4
  rw [intsO_map] at h4
  have h4 : ns = isort ns := of_decide_eq_true h4
  rw [List.length_map] at h2
  have r := rowmem h4 h2 fun n z => ⟨(hn n z).1, by have := (hn n z).2; omega⟩
  have k : (m, ns) ∈ allK := List.mem_flatMap.mpr ⟨m.toNat, List.mem_range.mpr (by omega), List.mem_map.mpr ⟨ns, r, by rw [Int.toNat_of_nonneg m1]⟩⟩
  refine ⟨m, ns, rfl, ?_, k⟩
  show (match intsO (ns.map D.int) with | some ns => if (m, ns) ∈ allK then some (m, ns) else none | none => none) = _
  rw [intsO_map]
  exact if_pos k
theorem ways_k : ∀ {ds : List D} {many : Int}, (ds.all fun d => way d many) = true → many ≤ 3 → ∃ ks, waysK ds = some ks ∧ ks.length = ds.length
  | [], _, _, _ => ⟨[], rfl, rfl⟩
  | d :: ds, many, h, hm => by
    have h : (way d many && ds.all fun d => way d many) = true := h
    rw [Bool.and_eq_true] at h
    obtain ⟨m, ns, _, e, _⟩ := way_k h.1 hm
    obtain ⟨ks, e2, e3⟩ := ways_k h.2 hm
    refine ⟨(m, ns) :: ks, ?_, congrArg (· + 1) e3⟩
    show (match wayK d, waysK ds with | some k, some ks => some (k :: ks) | _, _ => none) = _
    rw [e, e2]
end K01
namespace K01
open PySem PySem.Spec
open PyProof.Rows hiding St
open L2 DL
def recipe (v : D) (many : Int) : Bool := match v with
  | .tup ds => wide (.tup ds) 1 3 && ((ds.all fun d => way d many) && (match waysK ds with
    | some ks => decide ((met ks).length = ks.length)
    | none => false))
  | _ => false
theorem m_is_recipe (v : D) (many : Int) (hm : many ≤ 3) (hv : v.py ≠ none) : FF_is_recipe [.val v, .val (.int many)] = .ret [.val v, .val (.int many)] (.val (.bl (recipe v many))) := by
  have w1 := m_is_wide v 1 3 (py_ty hv)
  simp only [q_seq, q_nx, q_rt, q_bk, q_exc, q_nil, q_ret, q_kret, q_retN, q_if, q_ift, q_iff, q_expr, q_kexpr, q_sexc, q_set, q_ksetv, q_ksett, q_c, q_v, q_vv, q_vo, q_vi, q_fz, q_kfzv, q_kfzt, q_op, q_op1, q_op2, q_opE, q_lv, q_lt, q_ls, q_slo, q_sli, q_slv, q_fzl, q_oWs, q_un, q_kun, q_unE, q_and, q_or, q_not, q_thenB, q_andt, q_andf, q_ort, q_orf, q_knot, q_fB, q_kB, q_tru, q_ktru, q_truB, q_bnot, q_kbnot, q_band, q_bor, q_bandt, q_bandf, q_bort, q_borf, q_vif, q_vift, q_viff, q_anil, q_acons, q_kcons1, q_kcons2, q_tup, q_lst, q_ktup, q_klst, q_gnil, q_gval, q_kval1, q_kval2, q_gio, q_kio, q_call, q_finv, q_fint, q_finn, q_fine, q_fins, q_kcall, startE, finS, outs, outS, agSls, agSl, ios, callC, resC, isIo, isHeld, gIsi, gLen, gLe, gLt, gGe, gGt, g2I, gInt, D.seq?, tru, Out.bind_ok, Out.thenS_ok, Out.bind_exc, Out.thenS_exc, Out.bind_stk, Out.thenS_stk, List.length_cons, List.length_nil, List.getElem?_cons_zero, List.getElem?_cons_succ, List.append_nil, List.replicate, Option.map_some, Option.map_none, List.mapIdx_cons, List.mapIdx_nil, Nat.sub_self, List.cons_append, List.nil_append, Bool.not_false, Bool.not_true, List.set_cons_zero, List.set_cons_succ, Bool.false_eq_true, if_true, if_false, reduceIte, decide_true, Nat.zero_add, Nat.reduceAdd, Nat.reduceSub, Nat.reduceBEq, beq_self_eq_true, FF_is_recipe, ev_is_recipe, w1]
  cases hw : wide v 1 3 with
  | false =>
    simp only [q_seq, q_nx, q_rt, q_bk, q_exc, q_nil, q_ret, q_kret, q_retN, q_if, q_ift, q_iff, q_expr, q_kexpr, q_sexc, q_set, q_ksetv, q_ksett, q_c, q_v, q_vv, q_vo, q_vi, q_fz, q_kfzv, q_kfzt, q_op, q_op1, q_op2, q_opE, q_lv, q_lt, q_ls, q_slo, q_sli, q_slv, q_fzl, q_oWs, q_un, q_kun, q_unE, q_and, q_or, q_not, q_thenB, q_andt, q_andf, q_ort, q_orf, q_knot, q_fB, q_kB, q_tru, q_ktru, q_truB, q_bnot, q_kbnot, q_band, q_bor, q_bandt, q_bandf, q_bort, q_borf, q_vif, q_vift, q_viff, q_anil, q_acons, q_kcons1, q_kcons2, q_tup, q_lst, q_ktup, q_klst, q_gnil, q_gval, q_kval1, q_kval2, q_gio, q_kio, q_call, q_finv, q_fint, q_finn, q_fine, q_fins, q_kcall, startE, finS, outs, outS, agSls, agSl, ios, callC, resC, isIo, isHeld, gIsi, gLen, gLe, gLt, gGe, gGt, g2I, gInt, D.seq?, tru, Out.bind_ok, Out.thenS_ok, Out.bind_exc, Out.thenS_exc, Out.bind_stk, Out.thenS_stk, List.length_cons, List.length_nil, List.getElem?_cons_zero, List.getElem?_cons_succ, List.append_nil, List.replicate, Option.map_some, Option.map_none, List.mapIdx_cons, List.mapIdx_nil, Nat.sub_self, List.cons_append, List.nil_append, Bool.not_false, Bool.not_true, List.set_cons_zero, List.set_cons_succ, Bool.false_eq_true, if_true, if_false, reduceIte, decide_true, Nat.zero_add, Nat.reduceAdd, Nat.reduceSub, Nat.reduceBEq, beq_self_eq_true, ]
    have : recipe v many = false := by
      cases v with
      | tup xs => show (wide (.tup xs) 1 3 && _) = false; rw [hw]; rfl
      | _ => rfl
    rw [this]
  | true =>
    obtain ⟨ds, rfl⟩ : ∃ ds, v = .tup ds := by
      cases v with
      | tup cs => exact ⟨cs, rfl⟩
      | _ => cases hw
    have hlen : ds.length ≤ 3 := by
      have hz : (decide ((1 : Int) ≤ (ds.length : Nat)) && decide (((ds.length : Nat) : Int) ≤ 3)) = true := hw
      rw [Bool.and_eq_true, decide_eq_true_eq, decide_eq_true_eq] at hz
      omega
    simp only [q_seq, q_nx, q_rt, q_bk, q_exc, q_nil, q_ret, q_kret, q_retN, q_if, q_ift, q_iff, q_expr, q_kexpr, q_sexc, q_set, q_ksetv, q_ksett, q_c, q_v, q_vv, q_vo, q_vi, q_fz, q_kfzv, q_kfzt, q_op, q_op1, q_op2, q_opE, q_lv, q_lt, q_ls, q_slo, q_sli, q_slv, q_fzl, q_oWs, q_un, q_kun, q_unE, q_and, q_or, q_not, q_thenB, q_andt, q_andf, q_ort, q_orf, q_knot, q_fB, q_kB, q_tru, q_ktru, q_truB, q_bnot, q_kbnot, q_band, q_bor, q_bandt, q_bandf, q_bort, q_borf, q_vif, q_vift, q_viff, q_anil, q_acons, q_kcons1, q_kcons2, q_tup, q_lst, q_ktup, q_klst, q_gnil, q_gval, q_kval1, q_kval2, q_gio, q_kio, q_call, q_finv, q_fint, q_finn, q_fine, q_fins, q_kcall, startE, finS, outs, outS, agSls, agSl, ios, callC, resC, isIo, isHeld, gIsi, gLen, gLe, gLt, gGe, gGt, g2I, gInt, D.seq?, tru, Out.bind_ok, Out.thenS_ok, Out.bind_exc, Out.thenS_exc, Out.bind_stk, Out.thenS_stk, List.length_cons, List.length_nil, List.getElem?_cons_zero, List.getElem?_cons_succ, List.append_nil, List.replicate, Option.map_some, Option.map_none, List.mapIdx_cons, List.mapIdx_nil, Nat.sub_self, List.cons_append, List.nil_append, Bool.not_false, Bool.not_true, List.set_cons_zero, List.set_cons_succ, Bool.false_eq_true, if_true, if_false, reduceIte, decide_true, Nat.zero_add, Nat.reduceAdd, Nat.reduceSub, Nat.reduceBEq, beq_self_eq_true, ]
    have hlc := fLc_all (i := 2) (fi := iSeq (fFz (fV 0))) (fe := fFz (fCall 2 FF_is_way (gVal (fFz (fV 2)) (gVal (fFz (fV 1)) DL.gNil)))) (f := fun c => D.bl (way c many)) (ρ := [Sl.val (D.tup ds), Sl.val (D.int many), Sl.emp]) (ρ1 := [Sl.val (D.tup ds), Sl.val (D.int many), Sl.emp]) (ds := ds) (by rfl) (by show 2 < 3; decide) (fun d hd => by
      have pd := pys_mem (py_tup hv) d hd
      have w4 := m_is_way d many pd
      simp only [q_seq, q_nx, q_rt, q_bk, q_exc, q_nil, q_ret, q_kret, q_retN, q_if, q_ift, q_iff, q_expr, q_kexpr, q_sexc, q_set, q_ksetv, q_ksett, q_c, q_v, q_vv, q_vo, q_vi, q_fz, q_kfzv, q_kfzt, q_op, q_op1, q_op2, q_opE, q_lv, q_lt, q_ls, q_slo, q_sli, q_slv, q_fzl, q_oWs, q_un, q_kun, q_unE, q_and, q_or, q_not, q_thenB, q_andt, q_andf, q_ort, q_orf, q_knot, q_fB, q_kB, q_tru, q_ktru, q_truB, q_bnot, q_kbnot, q_band, q_bor, q_bandt, q_bandf, q_bort, q_borf, q_vif, q_vift, q_viff, q_anil, q_acons, q_kcons1, q_kcons2, q_tup, q_lst, q_ktup, q_klst, q_gnil, q_gval, q_kval1, q_kval2, q_gio, q_kio, q_call, q_finv, q_fint, q_finn, q_fine, q_fins, q_kcall, startE, finS, outs, outS, agSls, agSl, ios, callC, resC, isIo, isHeld, gIsi, gLen, gLe, gLt, gGe, gGt, g2I, gInt, D.seq?, tru, Out.bind_ok, Out.thenS_ok, Out.bind_exc, Out.thenS_exc, Out.bind_stk, Out.thenS_stk, List.length_cons, List.length_nil, List.getElem?_cons_zero, List.getElem?_cons_succ, List.append_nil, List.replicate, Option.map_some, Option.map_none, List.mapIdx_cons, List.mapIdx_nil, Nat.sub_self, List.cons_append, List.nil_append, Bool.not_false, Bool.not_true, List.set_cons_zero, List.set_cons_succ, Bool.false_eq_true, if_true, if_false, reduceIte, decide_true, Nat.zero_add, Nat.reduceAdd, Nat.reduceSub, Nat.reduceBEq, beq_self_eq_true, w4]) (by omega)
    have ga : gAll (D.lst (List.map (fun c => D.bl (way c many)) ds)) = some (.val (.bl (ds.all fun d => way d many))) := by
      show (bls _).map _ = _
      rw [bls_map]
      show some (Wv.val (D.bl ((ds.map _).all id))) = _
      rw [List.all_map]; rfl
    simp only [q_seq, q_nx, q_rt, q_bk, q_exc, q_nil, q_ret, q_kret, q_retN, q_if, q_ift, q_iff, q_expr, q_kexpr, q_sexc, q_set, q_ksetv, q_ksett, q_c, q_v, q_vv, q_vo, q_vi, q_fz, q_kfzv, q_kfzt, q_op, q_op1, q_op2, q_opE, q_lv, q_lt, q_ls, q_slo, q_sli, q_slv, q_fzl, q_oWs, q_un, q_kun, q_unE, q_and, q_or, q_not, q_thenB, q_andt, q_andf, q_ort, q_orf, q_knot, q_fB, q_kB, q_tru, q_ktru, q_truB, q_bnot, q_kbnot, q_band, q_bor, q_bandt, q_bandf, q_bort, q_borf, q_vif, q_vift, q_viff, q_anil, q_acons, q_kcons1, q_kcons2, q_tup, q_lst, q_ktup, q_klst, q_gnil, q_gval, q_kval1, q_kval2, q_gio, q_kio, q_call, q_finv, q_fint, q_finn, q_fine, q_fins, q_kcall, startE, finS, outs, outS, agSls, agSl, ios, callC, resC, isIo, isHeld, gIsi, gLen, gLe, gLt, gGe, gGt, g2I, gInt, D.seq?, tru, Out.bind_ok, Out.thenS_ok, Out.bind_exc, Out.thenS_exc, Out.bind_stk, Out.thenS_stk, List.length_cons, List.length_nil, List.getElem?_cons_zero, List.getElem?_cons_succ, List.append_nil, List.replicate, Option.map_some, Option.map_none, List.mapIdx_cons, List.mapIdx_nil, Nat.sub_self, List.cons_append, List.nil_append, Bool.not_false, Bool.not_true, List.set_cons_zero, List.set_cons_succ, Bool.false_eq_true, if_true, if_false, reduceIte, decide_true, Nat.zero_add, Nat.reduceAdd, Nat.reduceSub, Nat.reduceBEq, beq_self_eq_true, hlc, ga]
    cases ha : (ds.all fun d => way d many) with
    | false =>
      simp only [q_seq, q_nx, q_rt, q_bk, q_exc, q_nil, q_ret, q_kret, q_retN, q_if, q_ift, q_iff, q_expr, q_kexpr, q_sexc, q_set, q_ksetv, q_ksett, q_c, q_v, q_vv, q_vo, q_vi, q_fz, q_kfzv, q_kfzt, q_op, q_op1, q_op2, q_opE, q_lv, q_lt, q_ls, q_slo, q_sli, q_slv, q_fzl, q_oWs, q_un, q_kun, q_unE, q_and, q_or, q_not, q_thenB, q_andt, q_andf, q_ort, q_orf, q_knot, q_fB, q_kB, q_tru, q_ktru, q_truB, q_bnot, q_kbnot, q_band, q_bor, q_bandt, q_bandf, q_bort, q_borf, q_vif, q_vift, q_viff, q_anil, q_acons, q_kcons1, q_kcons2, q_tup, q_lst, q_ktup, q_klst, q_gnil, q_gval, q_kval1, q_kval2, q_gio, q_kio, q_call, q_finv, q_fint, q_finn, q_fine, q_fins, q_kcall, startE, finS, outs, outS, agSls, agSl, ios, callC, resC, isIo, isHeld, gIsi, gLen, gLe, gLt, gGe, gGt, g2I, gInt, D.seq?, tru, Out.bind_ok, Out.thenS_ok, Out.bind_exc, Out.thenS_exc, Out.bind_stk, Out.thenS_stk, List.length_cons, List.length_nil, List.getElem?_cons_zero, List.getElem?_cons_succ, List.append_nil, List.replicate, Option.map_some, Option.map_none, List.mapIdx_cons, List.mapIdx_nil, Nat.sub_self, List.cons_append, List.nil_append, Bool.not_false, Bool.not_true, List.set_cons_zero, List.set_cons_succ, Bool.false_eq_true, if_true, if_false, reduceIte, decide_true, Nat.zero_add, Nat.reduceAdd, Nat.reduceSub, Nat.reduceBEq, beq_self_eq_true, ]
      have : recipe (.tup ds) many = false := by
        show (wide (.tup ds) 1 3 && ((ds.all fun d => way d many) && _)) = false
        rw [ha, Bool.false_and, Bool.and_false]
      rw [this]
    | true =>
      obtain ⟨ks, e, el⟩ := ways_k ha hm
      have gs : gLenSet (.tup ds) = some (.val (.int ((met ks).length : Nat))) := by
        show (match waysK ds with | some ks => if decide (ks.length ≤ 3) then some (Wv.val (.int ((met ks).length : Nat))) else none | none => none) = _
        rw [e]
        exact if_pos (decide_eq_true (el ▸ hlen))
      have ge : gEq (.int ((met ks).length : Nat)) (.int (ds.length : Nat)) = some (.val (.bl (decide ((met ks).length = ks.length)))) := by
        show some (Wv.val (D.bl (PyData.eqv _ _))) = _
        simp only [PyData.eqv]
        rw [el]
        congr 3
        rw [Bool.eq_iff_iff, beq_iff_eq, decide_eq_true_eq]
        exact Int.ofNat_inj
      simp only [q_seq, q_nx, q_rt, q_bk, q_exc, q_nil, q_ret, q_kret, q_retN, q_if, q_ift, q_iff, q_expr, q_kexpr, q_sexc, q_set, q_ksetv, q_ksett, q_c, q_v, q_vv, q_vo, q_vi, q_fz, q_kfzv, q_kfzt, q_op, q_op1, q_op2, q_opE, q_lv, q_lt, q_ls, q_slo, q_sli, q_slv, q_fzl, q_oWs, q_un, q_kun, q_unE, q_and, q_or, q_not, q_thenB, q_andt, q_andf, q_ort, q_orf, q_knot, q_fB, q_kB, q_tru, q_ktru, q_truB, q_bnot, q_kbnot, q_band, q_bor, q_bandt, q_bandf, q_bort, q_borf, q_vif, q_vift, q_viff, q_anil, q_acons, q_kcons1, q_kcons2, q_tup, q_lst, q_ktup, q_klst, q_gnil, q_gval, q_kval1, q_kval2, q_gio, q_kio, q_call, q_finv, q_fint, q_finn, q_fine, q_fins, q_kcall, startE, finS, outs, outS, agSls, agSl, ios, callC, resC, isIo, isHeld, gIsi, gLen, gLe, gLt, gGe, gGt, g2I, gInt, D.seq?, tru, Out.bind_ok, Out.thenS_ok, Out.bind_exc, Out.thenS_exc, Out.bind_stk, Out.thenS_stk, List.length_cons, List.length_nil, List.getElem?_cons_zero, List.getElem?_cons_succ, List.append_nil, List.replicate, Option.map_some, Option.map_none, List.mapIdx_cons, List.mapIdx_nil, Nat.sub_self, List.cons_append, List.nil_append, Bool.not_false, Bool.not_true, List.set_cons_zero, List.set_cons_succ, Bool.false_eq_true, if_true, if_false, reduceIte, decide_true, Nat.zero_add, Nat.reduceAdd, Nat.reduceSub, Nat.reduceBEq, beq_self_eq_true, gs, ge]
      have : recipe (.tup ds) many = decide ((met ks).length = ks.length) := by
        show (wide (.tup ds) 1 3 && ((ds.all fun d => way d many) && (match waysK ds with | some ks => decide ((met ks).length = ks.length) | none => false))) = _
        rw [hw, ha, e]; rfl
      rw [this]
end K01
namespace K01
open PySem PySem.Spec
open PyProof.Rows hiding St
open L2 DL
def fit (v : D) : Bool := match v with
  | .tup ds => wide (.tup ds) 1 3 && (ds.all fun d => recipe d ds.length)
  | _ => false
theorem m_is_fit (v : D) (hv : v.py ≠ none) : FF_is_fit [.val v] = .ret [.val v] (.val (.bl (fit v))) := by
  have w1 := m_is_wide v 1 3 (py_ty hv)
  simp only [q_seq, q_nx, q_rt, q_bk, q_exc, q_nil, q_ret, q_kret, q_retN, q_if, q_ift, q_iff, q_expr, q_kexpr, q_sexc, q_set, q_ksetv, q_ksett, q_c, q_v, q_vv, q_vo, q_vi, q_fz, q_kfzv, q_kfzt, q_op, q_op1, q_op2, q_opE, q_lv, q_lt, q_ls, q_slo, q_sli, q_slv, q_fzl, q_oWs, q_un, q_kun, q_unE, q_and, q_or, q_not, q_thenB, q_andt, q_andf, q_ort, q_orf, q_knot, q_fB, q_kB, q_tru, q_ktru, q_truB, q_bnot, q_kbnot, q_band, q_bor, q_bandt, q_bandf, q_bort, q_borf, q_vif, q_vift, q_viff, q_anil, q_acons, q_kcons1, q_kcons2, q_tup, q_lst, q_ktup, q_klst, q_gnil, q_gval, q_kval1, q_kval2, q_gio, q_kio, q_call, q_finv, q_fint, q_finn, q_fine, q_fins, q_kcall, startE, finS, outs, outS, agSls, agSl, ios, callC, resC, isIo, isHeld, gIsi, gLen, gLe, gLt, gGe, gGt, g2I, gInt, D.seq?, tru, Out.bind_ok, Out.thenS_ok, Out.bind_exc, Out.thenS_exc, Out.bind_stk, Out.thenS_stk, List.length_cons, List.length_nil, List.getElem?_cons_zero, List.getElem?_cons_succ, List.append_nil, List.replicate, Option.map_some, Option.map_none, List.mapIdx_cons, List.mapIdx_nil, Nat.sub_self, List.cons_append, List.nil_append, Bool.not_false, Bool.not_true, List.set_cons_zero, List.set_cons_succ, Bool.false_eq_true, if_true, if_false, reduceIte, decide_true, Nat.zero_add, Nat.reduceAdd, Nat.reduceSub, Nat.reduceBEq, beq_self_eq_true, FF_is_fit, ev_is_fit, w1]
  cases hw : wide v 1 3 with
  | false =>
    simp only [q_seq, q_nx, q_rt, q_bk, q_exc, q_nil, q_ret, q_kret, q_retN, q_if, q_ift, q_iff, q_expr, q_kexpr, q_sexc, q_set, q_ksetv, q_ksett, q_c, q_v, q_vv, q_vo, q_vi, q_fz, q_kfzv, q_kfzt, q_op, q_op1, q_op2, q_opE, q_lv, q_lt, q_ls, q_slo, q_sli, q_slv, q_fzl, q_oWs, q_un, q_kun, q_unE, q_and, q_or, q_not, q_thenB, q_andt, q_andf, q_ort, q_orf, q_knot, q_fB, q_kB, q_tru, q_ktru, q_truB, q_bnot, q_kbnot, q_band, q_bor, q_bandt, q_bandf, q_bort, q_borf, q_vif, q_vift, q_viff, q_anil, q_acons, q_kcons1, q_kcons2, q_tup, q_lst, q_ktup, q_klst, q_gnil, q_gval, q_kval1, q_kval2, q_gio, q_kio, q_call, q_finv, q_fint, q_finn, q_fine, q_fins, q_kcall, startE, finS, outs, outS, agSls, agSl, ios, callC, resC, isIo, isHeld, gIsi, gLen, gLe, gLt, gGe, gGt, g2I, gInt, D.seq?, tru, Out.bind_ok, Out.thenS_ok, Out.bind_exc, Out.thenS_exc, Out.bind_stk, Out.thenS_stk, List.length_cons, List.length_nil, List.getElem?_cons_zero, List.getElem?_cons_succ, List.append_nil, List.replicate, Option.map_some, Option.map_none, List.mapIdx_cons, List.mapIdx_nil, Nat.sub_self, List.cons_append, List.nil_append, Bool.not_false, Bool.not_true, List.set_cons_zero, List.set_cons_succ, Bool.false_eq_true, if_true, if_false, reduceIte, decide_true, Nat.zero_add, Nat.reduceAdd, Nat.reduceSub, Nat.reduceBEq, beq_self_eq_true, ]
    have : fit v = false := by
      cases v with
      | tup xs => show (wide (.tup xs) 1 3 && _) = false; rw [hw]; rfl
      | _ => rfl
    rw [this]
  | true =>
    obtain ⟨ds, rfl⟩ : ∃ ds, v = .tup ds := by
      cases v with
      | tup cs => exact ⟨cs, rfl⟩
      | _ => cases hw
    have hlen : ds.length ≤ 3 := by
      have hz : (decide ((1 : Int) ≤ (ds.length : Nat)) && decide (((ds.length : Nat) : Int) ≤ 3)) = true := hw
      rw [Bool.and_eq_true, decide_eq_true_eq, decide_eq_true_eq] at hz
      omega
    have hlc := fLc_all (i := 1) (fi := iSeq (fFz (fV 0))) (fe := fFz (fCall 2 FF_is_recipe (gVal (fFz (fV 1)) (gVal (fFz (fUn gLen (fV 0))) DL.gNil)))) (f := fun c => D.bl (recipe c ds.length)) (ρ := [Sl.val (D.tup ds), Sl.emp]) (ρ1 := [Sl.val (D.tup ds), Sl.emp]) (ds := ds) (by rfl) (by show 1 < 2; decide) (fun d hd => by
      have pd := pys_mem (py_tup hv) d hd
      have w4 := m_is_recipe d ds.length (by omega) pd
      simp only [q_seq, q_nx, q_rt, q_bk, q_exc, q_nil, q_ret, q_kret, q_retN, q_if, q_ift, q_iff, q_expr, q_kexpr, q_sexc, q_set, q_ksetv, q_ksett, q_c, q_v, q_vv, q_vo, q_vi, q_fz, q_kfzv, q_kfzt, q_op, q_op1, q_op2, q_opE, q_lv, q_lt, q_ls, q_slo, q_sli, q_slv, q_fzl, q_oWs, q_un, q_kun, q_unE, q_and, q_or, q_not, q_thenB, q_andt, q_andf, q_ort, q_orf, q_knot, q_fB, q_kB, q_tru, q_ktru, q_truB, q_bnot, q_kbnot, q_band, q_bor, q_bandt, q_bandf, q_bort, q_borf, q_vif, q_vift, q_viff, q_anil, q_acons, q_kcons1, q_kcons2, q_tup, q_lst, q_ktup, q_klst, q_gnil, q_gval, q_kval1, q_kval2, q_gio, q_kio, q_call, q_finv, q_fint, q_finn, q_fine, q_fins, q_kcall, startE, finS, outs, outS, agSls, agSl, ios, callC, resC, isIo, isHeld, gIsi, gLen, gLe, gLt, gGe, gGt, g2I, gInt, D.seq?, tru, Out.bind_ok, Out.thenS_ok, Out.bind_exc, Out.thenS_exc, Out.bind_stk, Out.thenS_stk, List.length_cons, List.length_nil, List.getElem?_cons_zero, List.getElem?_cons_succ, List.append_nil, List.replicate, Option.map_some, Option.map_none, List.mapIdx_cons, List.mapIdx_nil, Nat.sub_self, List.cons_append, List.nil_append, Bool.not_false, Bool.not_true, List.set_cons_zero, List.set_cons_succ, Bool.false_eq_true, if_true, if_false, reduceIte, decide_true, Nat.zero_add, Nat.reduceAdd, Nat.reduceSub, Nat.reduceBEq, beq_self_eq_true, w4]) (by omega)
    have ga : gAll (D.lst (List.map (fun c => D.bl (recipe c ds.length)) ds)) = some (.val (.bl (ds.all fun d => recipe d ds.length))) := by
      show (bls _).map _ = _
      rw [bls_map]
      show some (Wv.val (D.bl ((ds.map _).all id))) = _
      rw [List.all_map]; rfl
    simp only [q_seq, q_nx, q_rt, q_bk, q_exc, q_nil, q_ret, q_kret, q_retN, q_if, q_ift, q_iff, q_expr, q_kexpr, q_sexc, q_set, q_ksetv, q_ksett, q_c, q_v, q_vv, q_vo, q_vi, q_fz, q_kfzv, q_kfzt, q_op, q_op1, q_op2, q_opE, q_lv, q_lt, q_ls, q_slo, q_sli, q_slv, q_fzl, q_oWs, q_un, q_kun, q_unE, q_and, q_or, q_not, q_thenB, q_andt, q_andf, q_ort, q_orf, q_knot, q_fB, q_kB, q_tru, q_ktru, q_truB, q_bnot, q_kbnot, q_band, q_bor, q_bandt, q_bandf, q_bort, q_borf, q_vif, q_vift, q_viff, q_anil, q_acons, q_kcons1, q_kcons2, q_tup, q_lst, q_ktup, q_klst, q_gnil, q_gval, q_kval1, q_kval2, q_gio, q_kio, q_call, q_finv, q_fint, q_finn, q_fine, q_fins, q_kcall, startE, finS, outs, outS, agSls, agSl, ios, callC, resC, isIo, isHeld, gIsi, gLen, gLe, gLt, gGe, gGt, g2I, gInt, D.seq?, tru, Out.bind_ok, Out.thenS_ok, Out.bind_exc, Out.thenS_exc, Out.bind_stk, Out.thenS_stk, List.length_cons, List.length_nil, List.getElem?_cons_zero, List.getElem?_cons_succ, List.append_nil, List.replicate, Option.map_some, Option.map_none, List.mapIdx_cons, List.mapIdx_nil, Nat.sub_self, List.cons_append, List.nil_append, Bool.not_false, Bool.not_true, List.set_cons_zero, List.set_cons_succ, Bool.false_eq_true, if_true, if_false, reduceIte, decide_true, Nat.zero_add, Nat.reduceAdd, Nat.reduceSub, Nat.reduceBEq, beq_self_eq_true, hlc, ga]
    have : fit (.tup ds) = ds.all fun d => recipe d ds.length := by
      show (wide (.tup ds) 1 3 && _) = _
      rw [hw, Bool.true_and]
    rw [this]
end K01
namespace K01
open PySem PySem.Spec
open PyProof.Rows hiding St
open L2 DL
theorem m_is_book (v : D) (hv : v.py ≠ none) : FF_is_book [.val v] = .ret [.val v] (.val (.bl (fit v))) := by
  have w1 := m_is_fit v hv
  simp only [q_seq, q_nx, q_rt, q_bk, q_exc, q_nil, q_ret, q_kret, q_retN, q_if, q_ift, q_iff, q_expr, q_kexpr, q_sexc, q_set, q_ksetv, q_ksett, q_c, q_v, q_vv, q_vo, q_vi, q_fz, q_kfzv, q_kfzt, q_op, q_op1, q_op2, q_opE, q_lv, q_lt, q_ls, q_slo, q_sli, q_slv, q_fzl, q_oWs, q_un, q_kun, q_unE, q_and, q_or, q_not, q_thenB, q_andt, q_andf, q_ort, q_orf, q_knot, q_fB, q_kB, q_tru, q_ktru, q_truB, q_bnot, q_kbnot, q_band, q_bor, q_bandt, q_bandf, q_bort, q_borf, q_vif, q_vift, q_viff, q_anil, q_acons, q_kcons1, q_kcons2, q_tup, q_lst, q_ktup, q_klst, q_gnil, q_gval, q_kval1, q_kval2, q_gio, q_kio, q_call, q_finv, q_fint, q_finn, q_fine, q_fins, q_kcall, startE, finS, outs, outS, agSls, agSl, ios, callC, resC, isIo, isHeld, gIsi, gLen, gLe, gLt, gGe, gGt, g2I, gInt, D.seq?, tru, Out.bind_ok, Out.thenS_ok, Out.bind_exc, Out.thenS_exc, Out.bind_stk, Out.thenS_stk, List.length_cons, List.length_nil, List.getElem?_cons_zero, List.getElem?_cons_succ, List.append_nil, List.replicate, Option.map_some, Option.map_none, List.mapIdx_cons, List.mapIdx_nil, Nat.sub_self, List.cons_append, List.nil_append, Bool.not_false, Bool.not_true, List.set_cons_zero, List.set_cons_succ, Bool.false_eq_true, if_true, if_false, reduceIte, decide_true, Nat.zero_add, Nat.reduceAdd, Nat.reduceSub, Nat.reduceBEq, beq_self_eq_true, FF_is_book, ev_is_book, w1]
theorem m_look_book (v : D) (hv : v.py ≠ none) : FF_look_at_book [.val v] = if fit v then .ret [.val v] (.val .non) else .exc "InvalidBook" := by
  have w1 := m_is_fit v hv
  simp only [q_seq, q_nx, q_rt, q_bk, q_exc, q_nil, q_ret, q_kret, q_retN, q_if, q_ift, q_iff, q_expr, q_kexpr, q_sexc, q_set, q_ksetv, q_ksett, q_c, q_v, q_vv, q_vo, q_vi, q_fz, q_kfzv, q_kfzt, q_op, q_op1, q_op2, q_opE, q_lv, q_lt, q_ls, q_slo, q_sli, q_slv, q_fzl, q_oWs, q_un, q_kun, q_unE, q_and, q_or, q_not, q_thenB, q_andt, q_andf, q_ort, q_orf, q_knot, q_fB, q_kB, q_tru, q_ktru, q_truB, q_bnot, q_kbnot, q_band, q_bor, q_bandt, q_bandf, q_bort, q_borf, q_vif, q_vift, q_viff, q_anil, q_acons, q_kcons1, q_kcons2, q_tup, q_lst, q_ktup, q_klst, q_gnil, q_gval, q_kval1, q_kval2, q_gio, q_kio, q_call, q_finv, q_fint, q_finn, q_fine, q_fins, q_kcall, startE, finS, outs, outS, agSls, agSl, ios, callC, resC, isIo, isHeld, gIsi, gLen, gLe, gLt, gGe, gGt, g2I, gInt, D.seq?, tru, Out.bind_ok, Out.thenS_ok, Out.bind_exc, Out.thenS_exc, Out.bind_stk, Out.thenS_stk, List.length_cons, List.length_nil, List.getElem?_cons_zero, List.getElem?_cons_succ, List.append_nil, List.replicate, Option.map_some, Option.map_none, List.mapIdx_cons, List.mapIdx_nil, Nat.sub_self, List.cons_append, List.nil_append, Bool.not_false, Bool.not_true, List.set_cons_zero, List.set_cons_succ, Bool.false_eq_true, if_true, if_false, reduceIte, decide_true, Nat.zero_add, Nat.reduceAdd, Nat.reduceSub, Nat.reduceBEq, beq_self_eq_true, FF_look_at_book, ev_look_at_book, w1]
  cases fit v <;> simp only [q_seq, q_nx, q_rt, q_bk, q_exc, q_nil, q_ret, q_kret, q_retN, q_if, q_ift, q_iff, q_expr, q_kexpr, q_sexc, q_set, q_ksetv, q_ksett, q_c, q_v, q_vv, q_vo, q_vi, q_fz, q_kfzv, q_kfzt, q_op, q_op1, q_op2, q_opE, q_lv, q_lt, q_ls, q_slo, q_sli, q_slv, q_fzl, q_oWs, q_un, q_kun, q_unE, q_and, q_or, q_not, q_thenB, q_andt, q_andf, q_ort, q_orf, q_knot, q_fB, q_kB, q_tru, q_ktru, q_truB, q_bnot, q_kbnot, q_band, q_bor, q_bandt, q_bandf, q_bort, q_borf, q_vif, q_vift, q_viff, q_anil, q_acons, q_kcons1, q_kcons2, q_tup, q_lst, q_ktup, q_klst, q_gnil, q_gval, q_kval1, q_kval2, q_gio, q_kio, q_call, q_finv, q_fint, q_finn, q_fine, q_fins, q_kcall, startE, finS, outs, outS, agSls, agSl, ios, callC, resC, isIo, isHeld, gIsi, gLen, gLe, gLt, gGe, gGt, g2I, gInt, D.seq?, tru, Out.bind_ok, Out.thenS_ok, Out.bind_exc, Out.thenS_exc, Out.bind_stk, Out.thenS_stk, List.length_cons, List.length_nil, List.getElem?_cons_zero, List.getElem?_cons_succ, List.append_nil, List.replicate, Option.map_some, Option.map_none, List.mapIdx_cons, List.mapIdx_nil, Nat.sub_self, List.cons_append, List.nil_append, Bool.not_false, Bool.not_true, List.set_cons_zero, List.set_cons_succ, Bool.false_eq_true, if_true, if_false, reduceIte, decide_true, Nat.zero_add, Nat.reduceAdd, Nat.reduceSub, Nat.reduceBEq, beq_self_eq_true, ]
end K01
namespace K01
open PySem PySem.Spec
open PyProof.Rows hiding St
open L2 DL
theorem m_look_lone (ds : List D) (r : D) (hr : r.py ≠ none) : FF_look_at_lone_recipe [.val (.tup ds), .val r] = if iw r 0 (ds.length - 1) then .ret [.val (.tup ds), .val r] (.val .non) else .exc "InvalidRecipe" := by
  have w1 := m_is_within r 0 (ds.length - 1) (py_ty hr)
  have s1 : DL.gSub (.int (ds.length : Nat)) (.int 1) = some (.val (.int (ds.length - 1))) := rfl
  simp only [q_seq, q_nx, q_rt, q_bk, q_exc, q_nil, q_ret, q_kret, q_retN, q_if, q_ift, q_iff, q_expr, q_kexpr, q_sexc, q_set, q_ksetv, q_ksett, q_c, q_v, q_vv, q_vo, q_vi, q_fz, q_kfzv, q_kfzt, q_op, q_op1, q_op2, q_opE, q_lv, q_lt, q_ls, q_slo, q_sli, q_slv, q_fzl, q_oWs, q_un, q_kun, q_unE, q_and, q_or, q_not, q_thenB, q_andt, q_andf, q_ort, q_orf, q_knot, q_fB, q_kB, q_tru, q_ktru, q_truB, q_bnot, q_kbnot, q_band, q_bor, q_bandt, q_bandf, q_bort, q_borf, q_vif, q_vift, q_viff, q_anil, q_acons, q_kcons1, q_kcons2, q_tup, q_lst, q_ktup, q_klst, q_gnil, q_gval, q_kval1, q_kval2, q_gio, q_kio, q_call, q_finv, q_fint, q_finn, q_fine, q_fins, q_kcall, startE, finS, outs, outS, agSls, agSl, ios, callC, resC, isIo, isHeld, gIsi, gLen, gLe, gLt, gGe, gGt, g2I, gInt, D.seq?, tru, Out.bind_ok, Out.thenS_ok, Out.bind_exc, Out.thenS_exc, Out.bind_stk, Out.thenS_stk, List.length_cons, List.length_nil, List.getElem?_cons_zero, List.getElem?_cons_succ, List.append_nil, List.replicate, Option.map_some, Option.map_none, List.mapIdx_cons, List.mapIdx_nil, Nat.sub_self, List.cons_append, List.nil_append, Bool.not_false, Bool.not_true, List.set_cons_zero, List.set_cons_succ, Bool.false_eq_true, if_true, if_false, reduceIte, decide_true, Nat.zero_add, Nat.reduceAdd, Nat.reduceSub, Nat.reduceBEq, beq_self_eq_true, FF_look_at_lone_recipe, ev_look_at_lone_recipe, s1, w1]
  cases iw r 0 (ds.length - 1) <;> simp only [q_seq, q_nx, q_rt, q_bk, q_exc, q_nil, q_ret, q_kret, q_retN, q_if, q_ift, q_iff, q_expr, q_kexpr, q_sexc, q_set, q_ksetv, q_ksett, q_c, q_v, q_vv, q_vo, q_vi, q_fz, q_kfzv, q_kfzt, q_op, q_op1, q_op2, q_opE, q_lv, q_lt, q_ls, q_slo, q_sli, q_slv, q_fzl, q_oWs, q_un, q_kun, q_unE, q_and, q_or, q_not, q_thenB, q_andt, q_andf, q_ort, q_orf, q_knot, q_fB, q_kB, q_tru, q_ktru, q_truB, q_bnot, q_kbnot, q_band, q_bor, q_bandt, q_bandf, q_bort, q_borf, q_vif, q_vift, q_viff, q_anil, q_acons, q_kcons1, q_kcons2, q_tup, q_lst, q_ktup, q_klst, q_gnil, q_gval, q_kval1, q_kval2, q_gio, q_kio, q_call, q_finv, q_fint, q_finn, q_fine, q_fins, q_kcall, startE, finS, outs, outS, agSls, agSl, ios, callC, resC, isIo, isHeld, gIsi, gLen, gLe, gLt, gGe, gGt, g2I, gInt, D.seq?, tru, Out.bind_ok, Out.thenS_ok, Out.bind_exc, Out.thenS_exc, Out.bind_stk, Out.thenS_stk, List.length_cons, List.length_nil, List.getElem?_cons_zero, List.getElem?_cons_succ, List.append_nil, List.replicate, Option.map_some, Option.map_none, List.mapIdx_cons, List.mapIdx_nil, Nat.sub_self, List.cons_append, List.nil_append, Bool.not_false, Bool.not_true, List.set_cons_zero, List.set_cons_succ, Bool.false_eq_true, if_true, if_false, reduceIte, decide_true, Nat.zero_add, Nat.reduceAdd, Nat.reduceSub, Nat.reduceBEq, beq_self_eq_true, ]
theorem m_look_way (ds ws : List D) (i : Nat) (w : D) (hi : ds[i]? = some (.tup ws)) (hw : w.py ≠ none) : FF_look_at_way [.val (.tup ds), .val (.int i), .val w] = if iw w 0 (ws.length - 1) then .ret [.val (.tup ds), .val (.int i), .val w] (.val .non) else .exc "InvalidWay" := by
  have w1 := m_look_lone ds (.int i) (by intro z; cases z)
  have hl : i < ds.length := (List.getElem?_eq_some_iff.mp hi).1
  have w2 : iw (.int i) 0 (ds.length - 1) = true := by
    show (decide ((0:Int) ≤ i) && decide ((i:Int) ≤ ds.length - 1)) = true
    rw [decide_eq_true (by omega), decide_eq_true (by omega)]; rfl
  rw [w2] at w1
  have w3 := m_is_within w 0 (ws.length - 1) (py_ty hw)
  have s1 : DL.gSub (.int (ws.length : Nat)) (.int 1) = some (.val (.int (ws.length - 1))) := rfl
  have g1 : gIx (.tup ds) (.int i) = some (.val (.tup ws)) := by
    show (L2.atI ds (i : Int)).map Wv.val = _
    have e : ixN ds.length (i : Int) = some i := by
      unfold ixN
      rw [if_pos (Int.natCast_nonneg i), if_pos (by omega)]; rfl
    unfold L2.atI
    rw [e]
    show (ds[i]?).map Wv.val = _
    rw [hi]; rfl
  simp only [q_seq, q_nx, q_rt, q_bk, q_exc, q_nil, q_ret, q_kret, q_retN, q_if, q_ift, q_iff, q_expr, q_kexpr, q_sexc, q_set, q_ksetv, q_ksett, q_c, q_v, q_vv, q_vo, q_vi, q_fz, q_kfzv, q_kfzt, q_op, q_op1, q_op2, q_opE, q_lv, q_lt, q_ls, q_slo, q_sli, q_slv, q_fzl, q_oWs, q_un, q_kun, q_unE, q_and, q_or, q_not, q_thenB, q_andt, q_andf, q_ort, q_orf, q_knot, q_fB, q_kB, q_tru, q_ktru, q_truB, q_bnot, q_kbnot, q_band, q_bor, q_bandt, q_bandf, q_bort, q_borf, q_vif, q_vift, q_viff, q_anil, q_acons, q_kcons1, q_kcons2, q_tup, q_lst, q_ktup, q_klst, q_gnil, q_gval, q_kval1, q_kval2, q_gio, q_kio, q_call, q_finv, q_fint, q_finn, q_fine, q_fins, q_kcall, startE, finS, outs, outS, agSls, agSl, ios, callC, resC, isIo, isHeld, gIsi, gLen, gLe, gLt, gGe, gGt, g2I, gInt, D.seq?, tru, Out.bind_ok, Out.thenS_ok, Out.bind_exc, Out.thenS_exc, Out.bind_stk, Out.thenS_stk, List.length_cons, List.length_nil, List.getElem?_cons_zero, List.getElem?_cons_succ, List.append_nil, List.replicate, Option.map_some, Option.map_none, List.mapIdx_cons, List.mapIdx_nil, Nat.sub_self, List.cons_append, List.nil_append, Bool.not_false, Bool.not_true, List.set_cons_zero, List.set_cons_succ, Bool.false_eq_true, if_true, if_false, reduceIte, decide_true, Nat.zero_add, Nat.reduceAdd, Nat.reduceSub, Nat.reduceBEq, beq_self_eq_true, if_true] at w1
  simp only [q_seq, q_nx, q_rt, q_bk, q_exc, q_nil, q_ret, q_kret, q_retN, q_if, q_ift, q_iff, q_expr, q_kexpr, q_sexc, q_set, q_ksetv, q_ksett, q_c, q_v, q_vv, q_vo, q_vi, q_fz, q_kfzv, q_kfzt, q_op, q_op1, q_op2, q_opE, q_lv, q_lt, q_ls, q_slo, q_sli, q_slv, q_fzl, q_oWs, q_un, q_kun, q_unE, q_and, q_or, q_not, q_thenB, q_andt, q_andf, q_ort, q_orf, q_knot, q_fB, q_kB, q_tru, q_ktru, q_truB, q_bnot, q_kbnot, q_band, q_bor, q_bandt, q_bandf, q_bort, q_borf, q_vif, q_vift, q_viff, q_anil, q_acons, q_kcons1, q_kcons2, q_tup, q_lst, q_ktup, q_klst, q_gnil, q_gval, q_kval1, q_kval2, q_gio, q_kio, q_call, q_finv, q_fint, q_finn, q_fine, q_fins, q_kcall, startE, finS, outs, outS, agSls, agSl, ios, callC, resC, isIo, isHeld, gIsi, gLen, gLe, gLt, gGe, gGt, g2I, gInt, D.seq?, tru, Out.bind_ok, Out.thenS_ok, Out.bind_exc, Out.thenS_exc, Out.bind_stk, Out.thenS_stk, List.length_cons, List.length_nil, List.getElem?_cons_zero, List.getElem?_cons_succ, List.append_nil, List.replicate, Option.map_some, Option.map_none, List.mapIdx_cons, List.mapIdx_nil, Nat.sub_self, List.cons_append, List.nil_append, Bool.not_false, Bool.not_true, List.set_cons_zero, List.set_cons_succ, Bool.false_eq_true, if_true, if_false, reduceIte, decide_true, Nat.zero_add, Nat.reduceAdd, Nat.reduceSub, Nat.reduceBEq, beq_self_eq_true, FF_look_at_way, ev_look_at_way, w1, g1, s1, w3]
  cases iw w 0 (ws.length - 1) <;> simp only [q_seq, q_nx, q_rt, q_bk, q_exc, q_nil, q_ret, q_kret, q_retN, q_if, q_ift, q_iff, q_expr, q_kexpr, q_sexc, q_set, q_ksetv, q_ksett, q_c, q_v, q_vv, q_vo, q_vi, q_fz, q_kfzv, q_kfzt, q_op, q_op1, q_op2, q_opE, q_lv, q_lt, q_ls, q_slo, q_sli, q_slv, q_fzl, q_oWs, q_un, q_kun, q_unE, q_and, q_or, q_not, q_thenB, q_andt, q_andf, q_ort, q_orf, q_knot, q_fB, q_kB, q_tru, q_ktru, q_truB, q_bnot, q_kbnot, q_band, q_bor, q_bandt, q_bandf, q_bort, q_borf, q_vif, q_vift, q_viff, q_anil, q_acons, q_kcons1, q_kcons2, q_tup, q_lst, q_ktup, q_klst, q_gnil, q_gval, q_kval1, q_kval2, q_gio, q_kio, q_call, q_finv, q_fint, q_finn, q_fine, q_fins, q_kcall, startE, finS, outs, outS, agSls, agSl, ios, callC, resC, isIo, isHeld, gIsi, gLen, gLe, gLt, gGe, gGt, g2I, gInt, D.seq?, tru, Out.bind_ok, Out.thenS_ok, Out.bind_exc, Out.thenS_exc, Out.bind_stk, Out.thenS_stk, List.length_cons, List.length_nil, List.getElem?_cons_zero, List.getElem?_cons_succ, List.append_nil, List.replicate, Option.map_some, Option.map_none, List.mapIdx_cons, List.mapIdx_nil, Nat.sub_self, List.cons_append, List.nil_append, Bool.not_false, Bool.not_true, List.set_cons_zero, List.set_cons_succ, Bool.false_eq_true, if_true, if_false, reduceIte, decide_true, Nat.zero_add, Nat.reduceAdd, Nat.reduceSub, Nat.reduceBEq, beq_self_eq_true, ]
end K01
namespace K01
open PySem PySem.Spec
open PyProof.Rows hiding St
open L2 DL
theorem gIx_tup {ds : List D} {i : Nat} {d : D} (hi : ds[i]? = some d) : gIx (.tup ds) (.int i) = some (.val d) := by
  have hl : i < ds.length := (List.getElem?_eq_some_iff.mp hi).1
  show (L2.atI ds (i : Int)).map Wv.val = _
  have e : ixN ds.length (i : Int) = some i := by
    unfold ixN
    rw [if_pos (Int.natCast_nonneg i), if_pos (by omega)]; rfl
  unfold L2.atI
  rw [e]
  show (ds[i]?).map Wv.val = _
  rw [hi]; rfl
theorem gEq_int (a b : Int) : gEq (.int a) (.int b) = some (.val (.bl (decide (a = b)))) := by
  show some (Wv.val (D.bl (PyData.eqv _ _))) = _
  simp only [PyData.eqv]
  congr 3
theorem m_look_less (ds ws : List D) (i : Nat) (w : D) (hi : ds[i]? = some (.tup ws)) (hw : w.py ≠ none) : FF_look_at_less [.val (.tup ds), .val (.int i), .val w] = if iw w 0 (ws.length - 1) && !decide ((ws.length : Int) = 1) then .ret [.val (.tup ds), .val (.int i), .val w] (.val .non) else .exc "InvalidWay" := by
  have w1 := m_look_way ds ws i w hi hw
  have g1 := gIx_tup hi
  have g2 := gEq_int (ws.length : Nat) 1
  cases hb : iw w 0 (ws.length - 1) with
  | false =>
    rw [hb] at w1
    try simp only [q_seq, q_nx, q_rt, q_bk, q_exc, q_nil, q_ret, q_kret, q_retN, q_if, q_ift, q_iff, q_expr, q_kexpr, q_sexc, q_set, q_ksetv, q_ksett, q_c, q_v, q_vv, q_vo, q_vi, q_fz, q_kfzv, q_kfzt, q_op, q_op1, q_op2, q_opE, q_lv, q_lt, q_ls, q_slo, q_sli, q_slv, q_fzl, q_oWs, q_un, q_kun, q_unE, q_and, q_or, q_not, q_thenB, q_andt, q_andf, q_ort, q_orf, q_knot, q_fB, q_kB, q_tru, q_ktru, q_truB, q_bnot, q_kbnot, q_band, q_bor, q_bandt, q_bandf, q_bort, q_borf, q_vif, q_vift, q_viff, q_anil, q_acons, q_kcons1, q_kcons2, q_tup, q_lst, q_ktup, q_klst, q_gnil, q_gval, q_kval1, q_kval2, q_gio, q_kio, q_call, q_finv, q_fint, q_finn, q_fine, q_fins, q_kcall, startE, finS, outs, outS, agSls, agSl, ios, callC, resC, isIo, isHeld, gIsi, gLen, gLe, gLt, gGe, gGt, g2I, gInt, D.seq?, tru, Out.bind_ok, Out.thenS_ok, Out.bind_exc, Out.thenS_exc, Out.bind_stk, Out.thenS_stk, List.length_cons, List.length_nil, List.getElem?_cons_zero, List.getElem?_cons_succ, List.append_nil, List.replicate, Option.map_some, Option.map_none, List.mapIdx_cons, List.mapIdx_nil, Nat.sub_self, List.cons_append, List.nil_append, Bool.not_false, Bool.not_true, List.set_cons_zero, List.set_cons_succ, Bool.false_eq_true, if_true, if_false, reduceIte, decide_true, Nat.zero_add, Nat.reduceAdd, Nat.reduceSub, Nat.reduceBEq, beq_self_eq_true, ] at w1
    simp only [q_seq, q_nx, q_rt, q_bk, q_exc, q_nil, q_ret, q_kret, q_retN, q_if, q_ift, q_iff, q_expr, q_kexpr, q_sexc, q_set, q_ksetv, q_ksett, q_c, q_v, q_vv, q_vo, q_vi, q_fz, q_kfzv, q_kfzt, q_op, q_op1, q_op2, q_opE, q_lv, q_lt, q_ls, q_slo, q_sli, q_slv, q_fzl, q_oWs, q_un, q_kun, q_unE, q_and, q_or, q_not, q_thenB, q_andt, q_andf, q_ort, q_orf, q_knot, q_fB, q_kB, q_tru, q_ktru, q_truB, q_bnot, q_kbnot, q_band, q_bor, q_bandt, q_bandf, q_bort, q_borf, q_vif, q_vift, q_viff, q_anil, q_acons, q_kcons1, q_kcons2, q_tup, q_lst, q_ktup, q_klst, q_gnil, q_gval, q_kval1, q_kval2, q_gio, q_kio, q_call, q_finv, q_fint, q_finn, q_fine, q_fins, q_kcall, startE, finS, outs, outS, agSls, agSl, ios, callC, resC, isIo, isHeld, gIsi, gLen, gLe, gLt, gGe, gGt, g2I, gInt, D.seq?, tru, Out.bind_ok, Out.thenS_ok, Out.bind_exc, Out.thenS_exc, Out.bind_stk, Out.thenS_stk, List.length_cons, List.length_nil, List.getElem?_cons_zero, List.getElem?_cons_succ, List.append_nil, List.replicate, Option.map_some, Option.map_none, List.mapIdx_cons, List.mapIdx_nil, Nat.sub_self, List.cons_append, List.nil_append, Bool.not_false, Bool.not_true, List.set_cons_zero, List.set_cons_succ, Bool.false_eq_true, if_true, if_false, reduceIte, decide_true, Nat.zero_add, Nat.reduceAdd, Nat.reduceSub, Nat.reduceBEq, beq_self_eq_true, FF_look_at_less, ev_look_at_less, w1]
    try rfl
  | true =>
    rw [hb] at w1
    simp only [q_seq, q_nx, q_rt, q_bk, q_exc, q_nil, q_ret, q_kret, q_retN, q_if, q_ift, q_iff, q_expr, q_kexpr, q_sexc, q_set, q_ksetv, q_ksett, q_c, q_v, q_vv, q_vo, q_vi, q_fz, q_kfzv, q_kfzt, q_op, q_op1, q_op2, q_opE, q_lv, q_lt, q_ls, q_slo, q_sli, q_slv, q_fzl, q_oWs, q_un, q_kun, q_unE, q_and, q_or, q_not, q_thenB, q_andt, q_andf, q_ort, q_orf, q_knot, q_fB, q_kB, q_tru, q_ktru, q_truB, q_bnot, q_kbnot, q_band, q_bor, q_bandt, q_bandf, q_bort, q_borf, q_vif, q_vift, q_viff, q_anil, q_acons, q_kcons1, q_kcons2, q_tup, q_lst, q_ktup, q_klst, q_gnil, q_gval, q_kval1, q_kval2, q_gio, q_kio, q_call, q_finv, q_fint, q_finn, q_fine, q_fins, q_kcall, startE, finS, outs, outS, agSls, agSl, ios, callC, resC, isIo, isHeld, gIsi, gLen, gLe, gLt, gGe, gGt, g2I, gInt, D.seq?, tru, Out.bind_ok, Out.thenS_ok, Out.bind_exc, Out.thenS_exc, Out.bind_stk, Out.thenS_stk, List.length_cons, List.length_nil, List.getElem?_cons_zero, List.getElem?_cons_succ, List.append_nil, List.replicate, Option.map_some, Option.map_none, List.mapIdx_cons, List.mapIdx_nil, Nat.sub_self, List.cons_append, List.nil_append, Bool.not_false, Bool.not_true, List.set_cons_zero, List.set_cons_succ, Bool.false_eq_true, if_true, if_false, reduceIte, decide_true, Nat.zero_add, Nat.reduceAdd, Nat.reduceSub, Nat.reduceBEq, beq_self_eq_true, ] at w1
    simp only [q_seq, q_nx, q_rt, q_bk, q_exc, q_nil, q_ret, q_kret, q_retN, q_if, q_ift, q_iff, q_expr, q_kexpr, q_sexc, q_set, q_ksetv, q_ksett, q_c, q_v, q_vv, q_vo, q_vi, q_fz, q_kfzv, q_kfzt, q_op, q_op1, q_op2, q_opE, q_lv, q_lt, q_ls, q_slo, q_sli, q_slv, q_fzl, q_oWs, q_un, q_kun, q_unE, q_and, q_or, q_not, q_thenB, q_andt, q_andf, q_ort, q_orf, q_knot, q_fB, q_kB, q_tru, q_ktru, q_truB, q_bnot, q_kbnot, q_band, q_bor, q_bandt, q_bandf, q_bort, q_borf, q_vif, q_vift, q_viff, q_anil, q_acons, q_kcons1, q_kcons2, q_tup, q_lst, q_ktup, q_klst, q_gnil, q_gval, q_kval1, q_kval2, q_gio, q_kio, q_call, q_finv, q_fint, q_finn, q_fine, q_fins, q_kcall, startE, finS, outs, outS, agSls, agSl, ios, callC, resC, isIo, isHeld, gIsi, gLen, gLe, gLt, gGe, gGt, g2I, gInt, D.seq?, tru, Out.bind_ok, Out.thenS_ok, Out.bind_exc, Out.thenS_exc, Out.bind_stk, Out.thenS_stk, List.length_cons, List.length_nil, List.getElem?_cons_zero, List.getElem?_cons_succ, List.append_nil, List.replicate, Option.map_some, Option.map_none, List.mapIdx_cons, List.mapIdx_nil, Nat.sub_self, List.cons_append, List.nil_append, Bool.not_false, Bool.not_true, List.set_cons_zero, List.set_cons_succ, Bool.false_eq_true, if_true, if_false, reduceIte, decide_true, Nat.zero_add, Nat.reduceAdd, Nat.reduceSub, Nat.reduceBEq, beq_self_eq_true, FF_look_at_less, ev_look_at_less, w1, g1, g2]
    cases decide ((ws.length : Int) = 1) <;> simp only [q_seq, q_nx, q_rt, q_bk, q_exc, q_nil, q_ret, q_kret, q_retN, q_if, q_ift, q_iff, q_expr, q_kexpr, q_sexc, q_set, q_ksetv, q_ksett, q_c, q_v, q_vv, q_vo, q_vi, q_fz, q_kfzv, q_kfzt, q_op, q_op1, q_op2, q_opE, q_lv, q_lt, q_ls, q_slo, q_sli, q_slv, q_fzl, q_oWs, q_un, q_kun, q_unE, q_and, q_or, q_not, q_thenB, q_andt, q_andf, q_ort, q_orf, q_knot, q_fB, q_kB, q_tru, q_ktru, q_truB, q_bnot, q_kbnot, q_band, q_bor, q_bandt, q_bandf, q_bort, q_borf, q_vif, q_vift, q_viff, q_anil, q_acons, q_kcons1, q_kcons2, q_tup, q_lst, q_ktup, q_klst, q_gnil, q_gval, q_kval1, q_kval2, q_gio, q_kio, q_call, q_finv, q_fint, q_finn, q_fine, q_fins, q_kcall, startE, finS, outs, outS, agSls, agSl, ios, callC, resC, isIo, isHeld, gIsi, gLen, gLe, gLt, gGe, gGt, g2I, gInt, D.seq?, tru, Out.bind_ok, Out.thenS_ok, Out.bind_exc, Out.thenS_exc, Out.bind_stk, Out.thenS_stk, List.length_cons, List.length_nil, List.getElem?_cons_zero, List.getElem?_cons_succ, List.append_nil, List.replicate, Option.map_some, Option.map_none, List.mapIdx_cons, List.mapIdx_nil, Nat.sub_self, List.cons_append, List.nil_append, Bool.not_false, Bool.not_true, List.set_cons_zero, List.set_cons_succ, Bool.false_eq_true, if_true, if_false, reduceIte, decide_true, Nat.zero_add, Nat.reduceAdd, Nat.reduceSub, Nat.reduceBEq, beq_self_eq_true, ] <;> rfl
end K01
namespace K01
open PySem PySem.Spec
open PyProof.Rows hiding St
open L2 DL
theorem cut_lo {ds : List D} {i : Nat} (h : i ≤ ds.length) : cutD ds none (some (i : Int)) = ds.take i := by
  unfold DL.cutD
  rw [HT.sIx_nat]
  show (ds.drop 0).take (min i ds.length - 0) = _
  rw [Nat.min_eq_left h]; rfl
theorem cut_hi {ds : List D} {i : Nat} (h : i ≤ ds.length) : cutD ds (some (i : Int)) none = ds.drop i := by
  unfold DL.cutD
  rw [HT.sIx_nat, Nat.min_eq_left h]
  show (ds.drop i).take (ds.length - i) = _
  rw [← List.length_drop, List.take_length]
def lessBy (ds ws : List D) (i j : Nat) : D := .tup ((ds.take i ++ [.tup (ws.take j ++ ws.drop (j + 1))]) ++ ds.drop (i + 1))
theorem m_less_by (ds ws : List D) (i j : Nat) (hi : ds[i]? = some (.tup ws)) (hj : j < ws.length) (h1 : ds.length ≤ 9) (h2 : ws.length ≤ 9) : FF_less_by [.val (.tup ds), .val (.int i), .val (.int j)] = .ret [.val (.tup ds), .val (.int i), .val (.int j)] (.val (lessBy ds ws i j)) := by
  have g1 := gIx_tup hi
  have hl : i < ds.length := (List.getElem?_eq_some_iff.mp hi).1
  have a1 : gAdd (.int i) (.int 1) = some (.val (.int ((i + 1 : Nat) : Int))) := rfl
  have a2 : gAdd (.int j) (.int 1) = some (.val (.int ((j + 1 : Nat) : Int))) := rfl
  have c1 : gSl (.tup ws) none (some (j : Int)) = some (.val (.tup (ws.take j))) := by show some (Wv.val (.tup (cutD _ _ _))) = _; rw [cut_lo (by omega)]
  have c2 : gSl (.tup ws) (some ((j + 1 : Nat) : Int)) none = some (.val (.tup (ws.drop (j + 1)))) := by show some (Wv.val (.tup (cutD _ _ _))) = _; rw [cut_hi (by omega)]
  have c3 : gSl (.tup ds) none (some (i : Int)) = some (.val (.tup (ds.take i))) := by show some (Wv.val (.tup (cutD _ _ _))) = _; rw [cut_lo (by omega)]
  have c4 : gSl (.tup ds) (some ((i + 1 : Nat) : Int)) none = some (.val (.tup (ds.drop (i + 1)))) := by show some (Wv.val (.tup (cutD _ _ _))) = _; rw [cut_hi (by omega)]
  have ad : ∀ xs ys : List D, xs.length + ys.length ≤ 999 → gAdd (.tup xs) (.tup ys) = some (.val (.tup (xs ++ ys))) := fun xs ys h => if_pos (decide_eq_true (by omega))
  have b1 := ad (ws.take j) (ws.drop (j + 1)) (by simp only [List.length_take, List.length_drop]; omega)
  have b2 := ad (ds.take i) [.tup (ws.take j ++ ws.drop (j + 1))] (by simp only [List.length_take, List.length_cons, List.length_nil]; omega)
  have b3 := ad (ds.take i ++ [.tup (ws.take j ++ ws.drop (j + 1))]) (ds.drop (i + 1)) (by simp only [List.length_append, List.length_take, List.length_drop, List.length_cons, List.length_nil]; omega)
  have f1 : fits 1 = true := by decide
  simp only [q_seq, q_nx, q_rt, q_bk, q_exc, q_nil, q_ret, q_kret, q_retN, q_if, q_ift, q_iff, q_expr, q_kexpr, q_sexc, q_set, q_ksetv, q_ksett, q_c, q_v, q_vv, q_vo, q_vi, q_fz, q_kfzv, q_kfzt, q_op, q_op1, q_op2, q_opE, q_lv, q_lt, q_ls, q_slo, q_sli, q_slv, q_fzl, q_oWs, q_un, q_kun, q_unE, q_and, q_or, q_not, q_thenB, q_andt, q_andf, q_ort, q_orf, q_knot, q_fB, q_kB, q_tru, q_ktru, q_truB, q_bnot, q_kbnot, q_band, q_bor, q_bandt, q_bandf, q_bort, q_borf, q_vif, q_vift, q_viff, q_anil, q_acons, q_kcons1, q_kcons2, q_tup, q_lst, q_ktup, q_klst, q_gnil, q_gval, q_kval1, q_kval2, q_gio, q_kio, q_call, q_finv, q_fint, q_finn, q_fine, q_fins, q_kcall, startE, finS, outs, outS, agSls, agSl, ios, callC, resC, isIo, isHeld, gIsi, gLen, gLe, gLt, gGe, gGt, g2I, gInt, D.seq?, tru, Out.bind_ok, Out.thenS_ok, Out.bind_exc, Out.thenS_exc, Out.bind_stk, Out.thenS_stk, List.length_cons, List.length_nil, List.getElem?_cons_zero, List.getElem?_cons_succ, List.append_nil, List.replicate, Option.map_some, Option.map_none, List.mapIdx_cons, List.mapIdx_nil, Nat.sub_self, List.cons_append, List.nil_append, Bool.not_false, Bool.not_true, List.set_cons_zero, List.set_cons_succ, Bool.false_eq_true, if_true, if_false, reduceIte, decide_true, Nat.zero_add, Nat.reduceAdd, Nat.reduceSub, Nat.reduceBEq, beq_self_eq_true, FF_less_by, ev_less_by, fSl, oSome, oNo, g1, a1, a2, c1, c2, c3, c4, b1, b2, b3, f1]
  rfl
end K01
namespace K01
open PySem PySem.Spec
open PyProof.Rows hiding St
open L2 DL
theorem m_without (ds ws : List D) (i j : Nat) (hf : fit (.tup ds) = true) (hv : (D.tup ds).py ≠ none) (hi : ds[i]? = some (.tup ws)) (hj : j < ws.length) (h0 : ws.length ≠ 1) (h1 : ds.length ≤ 9) (h2 : ws.length ≤ 9) : FF_without [.val (.tup ds), .val (.int i), .val (.int j)] = .ret [.val (.tup ds), .val (.int i), .val (.int j)] (.val (lessBy ds ws i j)) := by
  have w1 := m_look_book (.tup ds) hv
  have w2 := m_look_less ds ws i (.int j) hi (by intro z; cases z)
  have w3 := m_less_by ds ws i j hi hj h1 h2
  have e1 : iw (.int j) 0 (ws.length - 1) = true := by
    show (decide ((0:Int) ≤ j) && decide ((j:Int) ≤ ws.length - 1)) = true
    rw [decide_eq_true (by omega), decide_eq_true (by omega)]; rfl
  have e2 : decide ((ws.length : Int) = 1) = false := decide_eq_false (by omega)
  rw [hf] at w1
  rw [e1, e2] at w2
  simp only [q_seq, q_nx, q_rt, q_bk, q_exc, q_nil, q_ret, q_kret, q_retN, q_if, q_ift, q_iff, q_expr, q_kexpr, q_sexc, q_set, q_ksetv, q_ksett, q_c, q_v, q_vv, q_vo, q_vi, q_fz, q_kfzv, q_kfzt, q_op, q_op1, q_op2, q_opE, q_lv, q_lt, q_ls, q_slo, q_sli, q_slv, q_fzl, q_oWs, q_un, q_kun, q_unE, q_and, q_or, q_not, q_thenB, q_andt, q_andf, q_ort, q_orf, q_knot, q_fB, q_kB, q_tru, q_ktru, q_truB, q_bnot, q_kbnot, q_band, q_bor, q_bandt, q_bandf, q_bort, q_borf, q_vif, q_vift, q_viff, q_anil, q_acons, q_kcons1, q_kcons2, q_tup, q_lst, q_ktup, q_klst, q_gnil, q_gval, q_kval1, q_kval2, q_gio, q_kio, q_call, q_finv, q_fint, q_finn, q_fine, q_fins, q_kcall, startE, finS, outs, outS, agSls, agSl, ios, callC, resC, isIo, isHeld, gIsi, gLen, gLe, gLt, gGe, gGt, g2I, gInt, D.seq?, tru, Out.bind_ok, Out.thenS_ok, Out.bind_exc, Out.thenS_exc, Out.bind_stk, Out.thenS_stk, List.length_cons, List.length_nil, List.getElem?_cons_zero, List.getElem?_cons_succ, List.append_nil, List.replicate, Option.map_some, Option.map_none, List.mapIdx_cons, List.mapIdx_nil, Nat.sub_self, List.cons_append, List.nil_append, Bool.not_false, Bool.not_true, List.set_cons_zero, List.set_cons_succ, Bool.false_eq_true, if_true, if_false, reduceIte, decide_true, Nat.zero_add, Nat.reduceAdd, Nat.reduceSub, Nat.reduceBEq, beq_self_eq_true, ] at w1
  simp only [q_seq, q_nx, q_rt, q_bk, q_exc, q_nil, q_ret, q_kret, q_retN, q_if, q_ift, q_iff, q_expr, q_kexpr, q_sexc, q_set, q_ksetv, q_ksett, q_c, q_v, q_vv, q_vo, q_vi, q_fz, q_kfzv, q_kfzt, q_op, q_op1, q_op2, q_opE, q_lv, q_lt, q_ls, q_slo, q_sli, q_slv, q_fzl, q_oWs, q_un, q_kun, q_unE, q_and, q_or, q_not, q_thenB, q_andt, q_andf, q_ort, q_orf, q_knot, q_fB, q_kB, q_tru, q_ktru, q_truB, q_bnot, q_kbnot, q_band, q_bor, q_bandt, q_bandf, q_bort, q_borf, q_vif, q_vift, q_viff, q_anil, q_acons, q_kcons1, q_kcons2, q_tup, q_lst, q_ktup, q_klst, q_gnil, q_gval, q_kval1, q_kval2, q_gio, q_kio, q_call, q_finv, q_fint, q_finn, q_fine, q_fins, q_kcall, startE, finS, outs, outS, agSls, agSl, ios, callC, resC, isIo, isHeld, gIsi, gLen, gLe, gLt, gGe, gGt, g2I, gInt, D.seq?, tru, Out.bind_ok, Out.thenS_ok, Out.bind_exc, Out.thenS_exc, Out.bind_stk, Out.thenS_stk, List.length_cons, List.length_nil, List.getElem?_cons_zero, List.getElem?_cons_succ, List.append_nil, List.replicate, Option.map_some, Option.map_none, List.mapIdx_cons, List.mapIdx_nil, Nat.sub_self, List.cons_append, List.nil_append, Bool.not_false, Bool.not_true, List.set_cons_zero, List.set_cons_succ, Bool.false_eq_true, if_true, if_false, reduceIte, decide_true, Nat.zero_add, Nat.reduceAdd, Nat.reduceSub, Nat.reduceBEq, beq_self_eq_true, Bool.and_self] at w2
  simp only [q_seq, q_nx, q_rt, q_bk, q_exc, q_nil, q_ret, q_kret, q_retN, q_if, q_ift, q_iff, q_expr, q_kexpr, q_sexc, q_set, q_ksetv, q_ksett, q_c, q_v, q_vv, q_vo, q_vi, q_fz, q_kfzv, q_kfzt, q_op, q_op1, q_op2, q_opE, q_lv, q_lt, q_ls, q_slo, q_sli, q_slv, q_fzl, q_oWs, q_un, q_kun, q_unE, q_and, q_or, q_not, q_thenB, q_andt, q_andf, q_ort, q_orf, q_knot, q_fB, q_kB, q_tru, q_ktru, q_truB, q_bnot, q_kbnot, q_band, q_bor, q_bandt, q_bandf, q_bort, q_borf, q_vif, q_vift, q_viff, q_anil, q_acons, q_kcons1, q_kcons2, q_tup, q_lst, q_ktup, q_klst, q_gnil, q_gval, q_kval1, q_kval2, q_gio, q_kio, q_call, q_finv, q_fint, q_finn, q_fine, q_fins, q_kcall, startE, finS, outs, outS, agSls, agSl, ios, callC, resC, isIo, isHeld, gIsi, gLen, gLe, gLt, gGe, gGt, g2I, gInt, D.seq?, tru, Out.bind_ok, Out.thenS_ok, Out.bind_exc, Out.thenS_exc, Out.bind_stk, Out.thenS_stk, List.length_cons, List.length_nil, List.getElem?_cons_zero, List.getElem?_cons_succ, List.append_nil, List.replicate, Option.map_some, Option.map_none, List.mapIdx_cons, List.mapIdx_nil, Nat.sub_self, List.cons_append, List.nil_append, Bool.not_false, Bool.not_true, List.set_cons_zero, List.set_cons_succ, Bool.false_eq_true, if_true, if_false, reduceIte, decide_true, Nat.zero_add, Nat.reduceAdd, Nat.reduceSub, Nat.reduceBEq, beq_self_eq_true, FF_without, ev_without, w1, w2, w3]
end K01
namespace DL
open PySem PySem.Spec
open PyProof.Rows hiding St
open L2
section
variable {α β : Type} {ρ ρ1 ρ2 : En} {w w1 w2 : Wv} {d d1 : D} {f g h : Sv} {fa fb fc : Ev Wv} {fd : Ev D} {p q : Ev Bool} {c : Str} {b : Bool} {i j : Nat} {o : OD} {ds : List D}
theorem q_bok {ρ : En} {a : α} {f : En → α → Out β} : (Out.ok ρ a).bind f = f ρ a := Eq.trans rfl rfl
theorem q_bexc {c : Str} {f : En → α → Out β} : (Out.exc c).bind f = .exc c := Eq.trans rfl rfl
theorem q_bstk {f : En → α → Out β} : (Out.stk).bind f = .stk := Eq.trans rfl rfl
theorem q_sok {ρ : En} {a : α} {f : En → α → SOut} : (Out.ok ρ a).thenS f = f ρ a := Eq.trans rfl rfl
theorem q_sxc {c : Str} {f : En → α → SOut} : (Out.exc c : Out α).thenS f = .exc c := Eq.trans rfl rfl
theorem q_sstk {f : En → α → SOut} : (Out.stk : Out α).thenS f = .stk := Eq.trans rfl rfl
/-! lists that slots hold -/
def slH : Option Sl → Option (List D)
  | some (.own (.lst ds)) => some ds
  | some (.io (.lst ds)) => some ds
  | _ => none
theorem q_held : heldL ρ i = slH ρ[i]? := by
  unfold heldL slH
  cases ρ[i]? with
  | none => rfl
  | some s =>
    cases s with
    | own o => cases o <;> rfl
    | io o => cases o <;> rfl
    | _ => rfl
theorem q_slHo : slH (some (.own (.lst ds))) = some ds := Eq.trans rfl rfl
theorem q_slHi : slH (some (.io (.lst ds))) = some ds := Eq.trans rfl rfl
def slSet (ρ : En) (i : Nat) (ds : List D) : Option Sl → En
  | some (.own _) => ρ.set i (.own (.lst ds))
  | some (.io _) => ρ.set i (.io (.lst ds))
  | _ => ρ
theorem q_setL : setL ρ i ds = slSet ρ i ds ρ[i]? := by
  unfold setL slSet
  cases ρ[i]? with
  | none => rfl
  | some s => cases s <;> rfl
theorem q_slSo : slSet ρ i ds (some (.own o)) = ρ.set i (.own (.lst ds)) := Eq.trans rfl rfl
theorem q_slSi : slSet ρ i ds (some (.io o)) = ρ.set i (.io (.lst ds)) := Eq.trans rfl rfl
/-! xs[k] = e -/
def setIx3 (i : Nat) (d : D) (ρ2 : En) (ds : List D) : Option Nat → SOut
  | some j => .nx (setL ρ2 i (ds.set j d))
  | none => .stk
def setIx2 (i : Nat) (d : D) (ρ2 : En) : Wv → Option (List D) → SOut
  | .val (.int k), some ds => setIx3 i d ρ2 ds (ixN ds.length k)
  | _, _ => .stk
def kSetIx2 (i : Nat) (d : D) (ρ2 : En) (w : Wv) : SOut := setIx2 i d ρ2 w (heldL ρ2 i)
def setIx1 (i : Nat) (fk : Ev Wv) (ρ1 : En) (d : D) : Option (List D) → SOut
  | some _ => (fk ρ1).thenS (kSetIx2 i d)
  | none => .stk
def kSetIx (i : Nat) (fk : Ev Wv) (ρ1 : En) (d : D) : SOut := setIx1 i fk ρ1 d (heldL ρ1 i)
theorem q_setIx : sSetIx i fd fa ρ = (fd ρ).thenS (kSetIx i fa) := by
  unfold sSetIx
  refine congrArg _ ?_
  funext ρ1 d
  show _ = setIx1 i fa ρ1 d (heldL ρ1 i)
  cases heldL ρ1 i with
  | none => rfl
  | some ds0 =>
    show (fa ρ1).thenS _ = (fa ρ1).thenS (kSetIx2 i d)
    refine congrArg _ ?_
    funext ρ2 w
    show _ = setIx2 i d ρ2 w (heldL ρ2 i)
    cases w with
    | val e =>
      cases e with
      | int k =>
        simp only []
        cases heldL ρ2 i with
        | none => rfl
        | some ds1 =>
          simp only [setIx2, setIx3]
          all_goals (cases ixN ds1.length k <;> rfl)
      | _ => simp only []; cases heldL ρ2 i <;> rfl
    | _ => simp only []; cases heldL ρ2 i <;> rfl
theorem q_kSetIx : kSetIx i fa ρ1 d = setIx1 i fa ρ1 d (heldL ρ1 i) := Eq.trans rfl rfl
theorem q_setIx1 : setIx1 i fa ρ1 d (some ds) = (fa ρ1).thenS (kSetIx2 i d) := Eq.trans rfl rfl
theorem q_kSetIx2 : kSetIx2 i d ρ2 w = setIx2 i d ρ2 w (heldL ρ2 i) := Eq.trans rfl rfl
theorem q_setIx2 {k : Int} : setIx2 i d ρ2 (.val (.int k)) (some ds) = setIx3 i d ρ2 ds (ixN ds.length k) := Eq.trans rfl rfl
theorem q_setIx3 : setIx3 i d ρ2 ds (some j) = .nx (setL ρ2 i (ds.set j d)) := Eq.trans rfl rfl
/-! xs.append(e) -/
def app2 (i : Nat) (ρ1 : En) (d : D) : Option (List D) → Out Wv
  | some ds => if fits (ds.length + 1) then .ok (setL ρ1 i (ds ++ [d])) (.val .non) else .stk
  | none => .stk
def kApp (i : Nat) (ρ1 : En) (d : D) : Out Wv := app2 i ρ1 d (heldL ρ1 i)
def app1 (i : Nat) (fe : Ev D) (ρ : En) : Option (List D) → Out Wv
  | some _ => (fe ρ).bind (kApp i)
  | none => .stk
theorem q_app : fApp i fd ρ = app1 i fd ρ (heldL ρ i) := by
  unfold fApp app1
  cases heldL ρ i with
  | none => rfl
  | some _ =>
    simp only []
    refine congrArg _ ?_
    funext ρ1 d
    show _ = app2 i ρ1 d (heldL ρ1 i)
    cases heldL ρ1 i <;> rfl
theorem q_app1 : app1 i fd ρ (some ds) = (fd ρ).bind (kApp i) := Eq.trans rfl rfl
theorem q_kApp : kApp i ρ1 d = app2 i ρ1 d (heldL ρ1 i) := Eq.trans rfl rfl
theorem q_app2 : app2 i ρ1 d (some ds) = if fits (ds.length + 1) then .ok (setL ρ1 i (ds ++ [d])) (.val .non) else .stk := Eq.trans rfl rfl
/-! two targets -/
def kNs (ρ1 : En) (w : Wv) : Out Wv := match w with
  | .slot j => (match frz ρ1 (.slot j) with
    | some (ρ2, d) => .ok ρ2 (.val d)
    | none => .stk)
  | w => .ok ρ1 w
theorem q_ns : fNs fa ρ = (fa ρ).bind kNs := Eq.trans rfl rfl
theorem q_knsv : kNs ρ (.val d) = .ok ρ (.val d) := Eq.trans rfl rfl
theorem q_knst : kNs ρ (.tmp o) = .ok ρ (.tmp o) := Eq.trans rfl rfl
def kPar2 (i j : Nat) (w1 : Wv) (ρ2 : En) (w2 : Wv) : SOut := parPut ρ2 i j w1 w2
def kPar1 (i j : Nat) (fb : Ev Wv) (ρ1 : En) (w1 : Wv) : SOut := (fNs fb ρ1).thenS (kPar2 i j w1)
theorem q_par : sPar i j fa fb ρ = (fNs fa ρ).thenS (kPar1 i j fb) := Eq.trans rfl rfl
theorem q_kpar1 : kPar1 i j fb ρ1 w1 = (fNs fb ρ1).thenS (kPar2 i j w1) := Eq.trans rfl rfl
def slOf : Wv → Sl
  | .val d => .val d
  | .tmp o => .own o
  | .slot _ => .emp
theorem putS_v (w : Wv) (hw : isSlot w = false) : putS ρ i w = if isIo ρ i then none else some (ρ.set i (slOf w)) := by
  cases w with
  | slot j => cases hw
  | _ => rfl
def put2 (i j : Nat) (ρ : En) (s1 s2 : Sl) : SOut := if isIo ρ i then .stk else if isIo (ρ.set i s1) j then .stk else .nx ((ρ.set i s1).set j s2)
theorem par_put (h1 : isSlot w1 = false) (h2 : isSlot w2 = false) : parPut ρ i j w1 w2 = put2 i j ρ (slOf w1) (slOf w2) := by
  unfold parPut put2
  rw [h1, h2, putS_v w1 h1]
  cases isIo ρ i with
  | true => rfl
  | false =>
    simp only [Bool.false_or, if_false, Bool.false_eq_true]
    rw [putS_v w2 h2]
    cases isIo (ρ.set i (slOf w1)) j <;> rfl
theorem q_kpvv {d e : D} : kPar2 i j (.val d) ρ2 (.val e) = put2 i j ρ2 (.val d) (.val e) := par_put rfl rfl
theorem q_kpvt {d : D} : kPar2 i j (.val d) ρ2 (.tmp o) = put2 i j ρ2 (.val d) (.own o) := par_put rfl rfl
theorem q_kptv {d : D} : kPar2 i j (.tmp o) ρ2 (.val d) = put2 i j ρ2 (.own o) (.val d) := par_put rfl rfl
theorem q_kptt {o' : OD} : kPar2 i j (.tmp o) ρ2 (.tmp o') = put2 i j ρ2 (.own o) (.own o') := par_put rfl rfl
theorem q_put2 {s1 s2 : Sl} : put2 i j ρ s1 s2 = if isIo ρ i then .stk else if isIo (ρ.set i s1) j then .stk else .nx ((ρ.set i s1).set j s2) := Eq.trans rfl rfl
/-! slices -/
variable {fl fh : Ev (Option Int)} {lo hi : Option Int}
def sl4 (ρ3 : En) (lo hi : Option Int) : Option D → Out Wv
  | some d => oW ρ3 (gSl d lo hi)
  | none => .stk
def kSl3 (w : Wv) (lo : Option Int) (ρ3 : En) (hi : Option Int) : Out Wv := sl4 ρ3 lo hi (look ρ3 w)
def kSl2 (fh : Ev (Option Int)) (w : Wv) (ρ2 : En) (lo : Option Int) : Out Wv := (fh ρ2).bind (kSl3 w lo)
def kSl1 (fl fh : Ev (Option Int)) (ρ1 : En) (w : Wv) : Out Wv := (fl ρ1).bind (kSl2 fh w)
theorem q_sl : fSl fa fl fh ρ = (fa ρ).bind (kSl1 fl fh) := by
  rfl
theorem q_ksl1 : kSl1 fl fh ρ1 w = (fl ρ1).bind (kSl2 fh w) := Eq.trans rfl rfl
theorem q_ksl2 : kSl2 fh w ρ2 lo = (fh ρ2).bind (kSl3 w lo) := Eq.trans rfl rfl
theorem q_ksl3 : kSl3 w lo ρ1 hi = sl4 ρ1 lo hi (look ρ1 w) := Eq.trans rfl rfl
theorem q_sl4 : sl4 ρ1 lo hi (some d) = oW ρ1 (gSl d lo hi) := Eq.trans rfl rfl
theorem q_ono : oNo ρ = .ok ρ none := Eq.trans rfl rfl
def kO (ρ1 : En) (w : Wv) : Out (Option Int) := match w with
  | .val (.int i) => .ok ρ1 (some i)
  | _ => .stk
theorem q_osome : oSome fa ρ = (fa ρ).bind kO := Eq.trans rfl rfl
theorem q_kO {k : Int} : kO ρ (.val (.int k)) = .ok ρ (some k) := Eq.trans rfl rfl
/-! loops -/
variable {fi : Ev (List D)} {gt : D → En → Option En}
def kFor (gt : D → En → Option En) (b : Sv) (ρ1 : En) (ds : List D) : SOut := forL gt b ds ρ1
theorem q_for : sFor fi gt f ρ = (fi ρ).thenS (kFor gt f) := Eq.trans rfl rfl
def kR1 (ρ1 : En) (ds : List D) : Out (List D) := match ds with
  | [.int j] => if inR j then .ok ρ1 (rng 0 j.toNat) else .stk
  | _ => .stk
theorem q_r1 {r : Ev (List D)} : iR1 r ρ = (r ρ).bind kR1 := Eq.trans rfl rfl
theorem q_kr1 {k : Int} : kR1 ρ [.int k] = if inR k then .ok ρ (rng 0 k.toNat) else .stk := Eq.trans rfl rfl
def kR2 (ρ1 : En) (ds : List D) : Out (List D) := match ds with
  | [.int i, .int j] => if inR i && inR j then .ok ρ1 (rng i (j - i).toNat) else .stk
  | _ => .stk
theorem q_r2 {r : Ev (List D)} : iR2 r ρ = (r ρ).bind kR2 := Eq.trans rfl rfl
theorem q_kr2 {k l : Int} : kR2 ρ [.int k, .int l] = if inR k && inR l then .ok ρ (rng k (l - k).toNat) else .stk := Eq.trans rfl rfl
def seqE (ρ1 : En) : Option (List D) → Out (List D)
  | some ds => .ok ρ1 ds
  | none => .stk
def kSeq (ρ1 : En) (d : D) : Out (List D) := seqE ρ1 d.seq?
theorem q_iseq : iSeq fd ρ = (fd ρ).bind kSeq := Eq.trans rfl rfl
theorem q_kseqT : kSeq ρ (.tup ds) = .ok ρ ds := Eq.trans rfl rfl
theorem q_kseqL : kSeq ρ (.lst ds) = .ok ρ ds := Eq.trans rfl rfl
theorem q_kseqS : kSeq ρ (.scr ds) = .ok ρ ds := Eq.trans rfl rfl
end
section
variable {ρ : En} {d : D} {o : OD} {i : Nat}
def ioO : Option Sl → Bool
  | some (.io _) => true
  | none => true
  | _ => false
theorem q_isIo : isIo ρ i = ioO ρ[i]? := by
  unfold isIo ioO
  cases ρ[i]? with
  | none => rfl
  | some s => cases s <;> rfl
theorem q_ioV : ioO (some (.val d)) = false := Eq.trans rfl rfl
theorem q_ioE : ioO (some .emp) = false := Eq.trans rfl rfl
theorem q_ioO : ioO (some (.own o)) = false := Eq.trans rfl rfl
theorem q_nmG : nmG i d ρ = if isIo ρ i then none else some (ρ.set i (.val d)) := Eq.trans rfl rfl
/-- a slot that holds data, or nothing -/
def Sl.fr (s : Sl) : Prop := ioO (some s) = false
end
section
variable {ρ ρ1 : En} {d : D} {o : OD} {i : Nat} {w : Wv} {fb : Ev Wv} {wd : Str → Option Str} {c x : Str}
def fzS (ρ : En) (i : Nat) : Option Sl → Option (En × D)
  | some (.val d) => some (ρ, d)
  | some (.own o) => some (ρ.set i (.val o.fz), o.fz)
  | _ => none
theorem q_frzS : frz ρ (.slot i) = fzS ρ i ρ[i]? := by
  unfold frz fzS
  simp only []
  all_goals (rcases ρ[i]? with _ | s)
  all_goals first | rfl | (cases s <;> rfl)
theorem q_frzV : frz ρ (.val d) = some (ρ, d) := Eq.trans rfl rfl
theorem q_frzT : frz ρ (.tmp o) = some (ρ, o.fz) := Eq.trans rfl rfl
theorem q_fzSV : fzS ρ i (some (.val d)) = some (ρ, d) := Eq.trans rfl rfl
theorem q_fzSO : fzS ρ i (some (.own o)) = some (ρ.set i (.val o.fz), o.fz) := Eq.trans rfl rfl
def fzP : Option (En × D) → Out D
  | some (ρ, d) => .ok ρ d
  | none => .stk
theorem q_kfzs : kFz ρ (.slot i) = fzP (fzS ρ i ρ[i]?) := by
  unfold kFz fzO
  rw [q_frzS]
  cases fzS ρ i ρ[i]? with
  | none => rfl
  | some p => rfl
theorem q_fzP : fzP (some (ρ, d)) = .ok ρ d := Eq.trans rfl rfl
def nsP : Option (En × D) → Out Wv
  | some (ρ, d) => .ok ρ (.val d)
  | none => .stk
theorem q_knss : kNs ρ (.slot i) = nsP (fzS ρ i ρ[i]?) := by
  unfold kNs
  simp only []
  rw [q_frzS]
  cases fzS ρ i ρ[i]? with
  | none => rfl
  | some p => rfl
theorem q_nsP : nsP (some (ρ, d)) = .ok ρ (.val d) := Eq.trans rfl rfl
def cameF (ρ : En) : Option (En × D) → Out Wv
  | some (_, d) => .ok ρ (.tmp (.lst [d]))
  | none => .stk
def cameW (ρ : En) : Option Str → Out Wv
  | some x => .ok ρ (.val (.str x))
  | none => .stk
def cameE (wd : Str → Option Str) (ρ : En) : Out Wv → Out Wv
  | .ok ρ1 w => cameF ρ (frz ρ1 w)
  | .exc c => cameW ρ (wd c)
  | .stk => .stk
theorem q_came : fCame wd fb ρ = cameE wd ρ (fb (mask ρ)) := by
  unfold fCame cameE
  cases fb (mask ρ) with
  | ok ρ1 w =>
    simp only [cameF]
    all_goals (rcases frz ρ1 w with _ | p)
    all_goals rfl
  | exc c => rfl
  | stk => rfl
theorem q_cameO : cameE wd ρ (.ok ρ1 w) = cameF ρ (frz ρ1 w) := Eq.trans rfl rfl
theorem q_cameX : cameE wd ρ (.exc c) = cameW ρ (wd c) := Eq.trans rfl rfl
theorem q_cameF : cameF ρ (some (ρ1, d)) = .ok ρ (.tmp (.lst [d])) := Eq.trans rfl rfl
theorem q_cameW : cameW ρ (some x) = .ok ρ (.val (.str x)) := Eq.trans rfl rfl
theorem q_mask : mask ρ = ρ.map maskS := Eq.trans rfl rfl
theorem q_maskV : maskS (.val d) = .val d := Eq.trans rfl rfl
theorem q_maskO : maskS (.own o) = .emp := Eq.trans rfl rfl
end
/-- a thing that the kernel does not run -/
noncomputable def sealed {α : Sort _} (a : α) : α := Classical.choose (⟨a, rfl⟩ : ∃ b : α, b = a)
theorem sealed_eq {α : Sort _} (a : α) : sealed a = a := Classical.choose_spec (⟨a, rfl⟩ : ∃ b : α, b = a)
section
variable {ρ : En} {k l : Int} {n : Nat}
/-- range(k), range(k, l): told by facts, never by running inR -/
noncomputable def kRs1 : En → List D → Out (List D) := sealed kR1
noncomputable def kRs2 : En → List D → Out (List D) := sealed kR2
noncomputable def rOk : En → Int → Out (List D) := sealed fun ρ k => if inR k then .ok ρ (rng 0 k.toNat) else .stk
noncomputable def rOk2 : En → Int → Int → Out (List D) := sealed fun ρ k l => if inR k && inR l then .ok ρ (rng k (l - k).toNat) else .stk
theorem q_rs1 {r : Ev (List D)} : iR1 r ρ = (r ρ).bind kRs1 := by unfold kRs1; rw [sealed_eq]; rfl
theorem q_rs2 {r : Ev (List D)} : iR2 r ρ = (r ρ).bind kRs2 := by unfold kRs2; rw [sealed_eq]; rfl
theorem q_rR1 : kRs1 ρ [.int k] = rOk ρ k := by unfold kRs1 rOk; rw [sealed_eq, sealed_eq]; rfl
theorem q_rR2 : kRs2 ρ [.int k, .int l] = rOk2 ρ k l := by unfold kRs2 rOk2; rw [sealed_eq, sealed_eq]; rfl
theorem inR_of (h0 : -1000000000000 ≤ k) (h : k ≤ 1000000000000) : DL.inR k = true := by unfold DL.inR; rw [decide_eq_true (by omega), decide_eq_true (by omega)]; rfl
theorem rOk_int (h0 : -1000000000000 ≤ k) (h : k ≤ 1000000000000) : rOk ρ k = .ok ρ (rng 0 k.toNat) := by
  unfold rOk
  rw [sealed_eq, inR_of h0 h]; rfl
theorem rOk2_of (h0 : -1000000000000 ≤ k) (h1 : k ≤ 1000000000000) (h2 : -1000000000000 ≤ l) (h3 : l ≤ 1000000000000) : rOk2 ρ k l = .ok ρ (rng k (l - k).toNat) := by
  unfold rOk2
  rw [sealed_eq, inR_of h0 h1, inR_of h2 h3]; rfl
theorem rOk_nat (h : n ≤ 1000000000000) : rOk ρ (n : Nat) = .ok ρ (rng 0 n) := by
  have h1 := rOk_int (ρ := ρ) (k := (n : Int)) (by omega) (by omega)
  rwa [Int.toNat_natCast] at h1
end
section
variable {ds : List D} {i j : Int} {x : Str}
theorem q_lenT : gLen (.tup ds) = some (.val (.int (ds.length : Nat))) := Eq.trans rfl rfl
theorem q_lenL : gLen (.lst ds) = some (.val (.int (ds.length : Nat))) := Eq.trans rfl rfl
theorem q_lenS : gLen (.scr ds) = some (.val (.int (ds.length : Nat))) := Eq.trans rfl rfl
theorem q_gLt : gLt (.int i) (.int j) = some (.val (.bl (decide (i < j)))) := Eq.trans rfl rfl
theorem q_gLe : gLe (.int i) (.int j) = some (.val (.bl (decide (i ≤ j)))) := Eq.trans rfl rfl
theorem q_gGt : gGt (.int i) (.int j) = some (.val (.bl (decide (j < i)))) := Eq.trans rfl rfl
theorem q_gGe : gGe (.int i) (.int j) = some (.val (.bl (decide (j ≤ i)))) := Eq.trans rfl rfl
theorem q_gInt : gInt (.int i) = some (.val (.int i)) := Eq.trans rfl rfl
theorem q_gAdd : gAdd (.int i) (.int j) = some (.val (.int (i + j))) := Eq.trans rfl rfl
theorem q_gSub : DL.gSub (.int i) (.int j) = some (.val (.int (i - j))) := Eq.trans rfl rfl
theorem q_gNeg : gNeg (.int i) = some (.val (.int (-i))) := Eq.trans rfl rfl
end
/-- a for's loop by an invariant: what comes of it is Q -/
theorem forL_by {g : D → En → Option En} {b : Sv} (I : List D → En → Prop) (Q : SOut → Prop) (h0 : ∀ ρ, I [] ρ → Q (.nx ρ))
    (h : ∀ d ds ρ, I (d :: ds) ρ → ∃ ρ1, g d ρ = some ρ1 ∧ ((∃ ρ2, (b ρ1 = .nx ρ2 ∨ b ρ1 = .ct ρ2) ∧ I ds ρ2) ∨ (∃ ρ2, b ρ1 = .bk ρ2 ∧ Q (.nx ρ2)) ∨ (∃ ρ2 w, b ρ1 = .rt ρ2 w ∧ Q (.rt ρ2 w)) ∨ ∃ c, b ρ1 = .exc c ∧ Q (.exc c))) :
    ∀ ds ρ, I ds ρ → Q (forL g b ds ρ)
  | [], ρ, hi => h0 ρ hi
  | d :: ds, ρ, hi => by
    obtain ⟨ρ1, e, q⟩ := h d ds ρ hi
    unfold forL
    rw [e]
    simp only []
    rcases q with ⟨ρ2, e2 | e2, q⟩ | ⟨ρ2, e2, q⟩ | ⟨ρ2, w, e2, q⟩ | ⟨c, e2, q⟩
    · rw [e2]; exact forL_by I Q h0 h ds ρ2 q
    · rw [e2]; exact forL_by I Q h0 h ds ρ2 q
    · rw [e2]; exact q
    · rw [e2]; exact q
    · rw [e2]; exact q
/-- a loop that goes on at each turn -/
theorem forL_nx {g : D → En → Option En} {b : Sv} (I : List D → En → Prop) (h : ∀ d ds ρ, I (d :: ds) ρ → ∃ ρ1 ρ2, g d ρ = some ρ1 ∧ b ρ1 = .nx ρ2 ∧ I ds ρ2) (ds : List D) (ρ : En) (hi : I ds ρ) : ∃ ρ', forL g b ds ρ = .nx ρ' ∧ I [] ρ' :=
  forL_by I (fun r => ∃ ρ', r = .nx ρ' ∧ I [] ρ') (fun ρ h => ⟨ρ, rfl, h⟩) (fun d ds ρ hi => by
    obtain ⟨ρ1, ρ2, e1, e2, q⟩ := h d ds ρ hi
    exact ⟨ρ1, e1, .inl ⟨ρ2, .inl e2, q⟩⟩) ds ρ hi
/-- a comprehension by an invariant: I (items to come) (the list so far) (the slots) -/
theorem lcL_by {vs : List Nat} {g : D → En → Option En} {t : Ev Bool} {fe : Ev D} (I : List D → List D → En → Prop)
    (h : ∀ d ds acc ρ, I (d :: ds) acc ρ → ∃ ρ1 ρ2 b, g d ρ = some ρ1 ∧ t ρ1 = .ok ρ2 b ∧ ((b = false ∧ I ds acc (wipeE ρ2 vs)) ∨ (b = true ∧ ∃ ρ3 e, fe ρ2 = .ok ρ3 e ∧ I ds (acc ++ [e]) (wipeE ρ3 vs)))) :
    ∀ ds acc ρ, acc.length + ds.length ≤ 16777216 → I ds acc ρ → ∃ ρ' acc', lcL vs g t fe ds acc ρ = .ok ρ' acc' ∧ I [] acc' ρ'
  | [], acc, ρ, _, hi => ⟨ρ, acc, rfl, hi⟩
  | d :: ds, acc, ρ, hl, hi => by
    obtain ⟨ρ1, ρ2, b, e1, e2, q⟩ := h d ds acc ρ hi
    unfold lcL
    rw [e1]
    simp only []
    rw [e2]
    rcases q with ⟨rfl, q⟩ | ⟨rfl, ρ3, e, e3, q⟩
    · simp only []
      exact lcL_by I h ds acc _ (by simp only [List.length_cons] at hl; omega) q
    · simp only []
      rw [e3]
      have fit : fits (acc.length + 1) = true := by unfold fits; simp only [List.length_cons] at hl; exact decide_eq_true (by omega)
      simp only []
      rw [fit, if_pos rfl]
      exact lcL_by I h ds _ _ (by simp only [List.length_append, List.length_cons, List.length_nil] at hl ⊢; omega) q
theorem fLc_by {vs : List Nat} {g : D → En → Option En} {t : Ev Bool} {fe : Ev D} {fi : Ev (List D)} {ρ ρ1 : En} {ds : List D} (hfi : fi ρ = .ok ρ1 ds) (I : List D → List D → En → Prop)
    (h : ∀ d ds acc ρ, I (d :: ds) acc ρ → ∃ ρ1 ρ2 b, g d ρ = some ρ1 ∧ t ρ1 = .ok ρ2 b ∧ ((b = false ∧ I ds acc (wipeE ρ2 vs)) ∨ (b = true ∧ ∃ ρ3 e, fe ρ2 = .ok ρ3 e ∧ I ds (acc ++ [e]) (wipeE ρ3 vs))))
    (hl : ds.length ≤ 16777216) (hi : I ds [] (wipeE ρ1 vs)) : ∃ ρ' acc, I [] acc ρ' ∧ fLc fi vs g t fe ρ = .ok (unw ρ1 ρ' vs) (.tmp (.lst acc)) := by
  obtain ⟨ρ', acc, e, q⟩ := lcL_by I h ds [] _ (by simpa using hl) hi
  refine ⟨ρ', acc, q, ?_⟩
  unfold fLc
  rw [hfi]
  simp only [Out.bind_ok]
  rw [e]
end DL
namespace K01
open PySem PySem.Spec
open PyProof.Rows hiding St
open L2 DL
/-- a spring: two ints -/
def spr (a b : Int) : OD := .lst [.int a, .int b]
def SprOk (a b : Int) : Prop := 0 ≤ a ∧ 0 ≤ b ∧ b < 999999999989
theorem log2_lt {n : Nat} {k : Nat} (h : n < 2 ^ k) (hk : 0 < k) : n.log2 < k := by
  by_cases h0 : n = 0
  · subst h0; simpa using hk
  · exact (Nat.log2_lt h0).mpr h
theorem m_pick (a b m : Int) (hs : SprOk a b) (hm : 1 ≤ m) (hm2 : m < 2 ^ 8000) : ∃ a' b' d, SprOk a' b' ∧ 0 ≤ d ∧ d < m ∧
    FF__law_pick [.io (spr a b), .val (.int m)] = .ret [.io (spr a' b'), .val (.int m)] (.val (.int d)) := by
  obtain ⟨ha, hb, hb2⟩ := hs
  have i0 : ∀ x y : D, gIx (.lst [x, y]) (.int 0) = some (.val x) := fun _ _ => rfl
  have i1 : ∀ x y : D, gIx (.lst [x, y]) (.int 1) = some (.val y) := fun _ _ => rfl
  have j0 : ixN 2 0 = some 0 := rfl
  have j1 : ixN 2 1 = some 1 := rfl
  have lm : m.natAbs.log2 < 9000 := Nat.lt_of_lt_of_le (log2_lt (k := 8000) (by omega) (by omega)) (by omega)
  by_cases h0 : 0 < a
  · have g1 : decide (0 < a) = true := decide_eq_true h0
    have g2 : gMod (.int a) (.int m) = some (.val (.int (a % m))) := by show Option.map _ (if decide (0 < m) then _ else _) = _; rw [decide_eq_true (by omega)]; rfl
    have g3 : gDiv (.int a) (.int m) = some (.val (.int (a / m))) := by
      show Option.map _ (if decide (0 < m) && decide (m.natAbs.log2 < 9000) then _ else _) = _
      rw [decide_eq_true (by omega), decide_eq_true lm]; rfl
    refine ⟨a / m, b, a % m, ⟨Int.ediv_nonneg ha (by omega), hb, hb2⟩, Int.emod_nonneg _ (by omega), Int.emod_lt_of_pos _ (by omega), ?_⟩
    simp only [q_seq, q_nx, q_rt, q_bk, q_exc, q_nil, q_ret, q_kret, q_retN, q_if, q_ift, q_iff, q_expr, q_kexpr, q_sexc, q_set, q_ksetv, q_ksett, q_c, q_v, q_vv, q_vo, q_vi, q_fz, q_kfzv, q_kfzt, q_op, q_op1, q_op2, q_opE, q_lv, q_lt, q_ls, q_slo, q_sli, q_slv, q_fzl, q_oWs, q_un, q_kun, q_unE, q_and, q_or, q_not, q_thenB, q_andt, q_andf, q_ort, q_orf, q_knot, q_fB, q_kB, q_tru, q_ktru, q_truB, q_bnot, q_kbnot, q_band, q_bor, q_bandt, q_bandf, q_bort, q_borf, q_vif, q_vift, q_viff, q_anil, q_acons, q_kcons1, q_kcons2, q_tup, q_lst, q_ktup, q_klst, q_gnil, q_gval, q_kval1, q_kval2, q_gio, q_kio, q_call, q_finv, q_fint, q_finn, q_fine, q_fins, q_kcall, q_held, q_slHo, q_slHi, q_setL, q_slSo, q_slSi, q_setIx, q_kSetIx, q_setIx1, q_kSetIx2, q_setIx2, q_setIx3, q_app, q_app1, q_kApp, q_app2, q_ns, q_knsv, q_knst, q_par, q_kpar1, q_kpvv, q_kpvt, q_kptv, q_kptt, q_put2, q_sl, q_ksl1, q_ksl2, q_ksl3, q_sl4, q_ono, q_osome, q_kO, q_for, q_iseq, q_kseqT, q_kseqL, q_kseqS, q_isIo, q_ioV, q_ioE, q_ioO, q_nmG, q_frzS, q_frzV, q_frzT, q_fzSV, q_fzSO, q_kfzs, q_fzP, q_knss, q_nsP, q_came, q_cameO, q_cameX, q_cameF, q_cameW, q_mask, q_maskV, q_maskO, q_lenT, q_lenL, q_lenS, q_gLt, q_gLe, q_gGt, q_gGe, q_gInt, q_gAdd, q_gSub, q_gNeg, q_rR1, q_rR2, q_rs1, q_rs2, startE, finS, outs, outS, agSls, agSl, ios, callC, resC, isHeld, gIsi, D.seq?, tru, q_bok, q_sok, q_bexc, q_sxc, q_bstk, q_sstk, List.length_cons, List.length_nil, List.getElem?_cons_zero, List.getElem?_cons_succ, List.append_nil, List.replicate, Option.map_some, Option.map_none, List.mapIdx_cons, List.mapIdx_nil, Nat.sub_self, List.cons_append, List.nil_append, Bool.not_false, Bool.not_true, List.set_cons_zero, List.set_cons_succ, Bool.false_eq_true, if_true, if_false, reduceIte, decide_true, Nat.zero_add, Nat.reduceAdd, Nat.reduceSub, Nat.reduceBEq, beq_self_eq_true, List.nodup_nil, List.length_map, List.map_cons, List.map_nil, eq_self, ite_true, ite_false, FF__law_pick, ev__law_pick, spr, i0, i1, g1, g2, g3, j0, j1]
  · have g1 : decide (0 < a) = false := decide_eq_false h0
    have lb : b.natAbs.log2 < 40 := log2_lt (by omega) (by omega)
    have g2 : gMul (.int b) (.int 393555900739) = some (.val (.int (b * 393555900739))) := by
      show (if mulOk b 393555900739 then _ else _) = _
      have : mulOk b 393555900739 = true := decide_eq_true (by
        have : (393555900739 : Int).natAbs.log2 < 40 := log2_lt (by decide) (by omega)
        omega)
      rw [this]; rfl
    have g3 : gAdd (.int (b * 393555900739)) (.int 8191) = some (.val (.int (b * 393555900739 + 8191))) := rfl
    have g4 : gMod (.int (b * 393555900739 + 8191)) (.int 999999999989) = some (.val (.int ((b * 393555900739 + 8191) % 999999999989))) := rfl
    generalize hb' : (b * 393555900739 + 8191) % 999999999989 = b' at g4
    have b1 : 0 ≤ b' := by omega
    have b2 : b' < 999999999989 := by omega
    have g5 : gDiv (.int b') (.int 4093) = some (.val (.int (b' / 4093))) := rfl
    have g6 : gMod (.int (b' / 4093)) (.int m) = some (.val (.int (b' / 4093 % m))) := by show Option.map _ (if decide (0 < m) then _ else _) = _; rw [decide_eq_true (by omega)]; rfl
    refine ⟨a, b', b' / 4093 % m, ⟨ha, b1, b2⟩, Int.emod_nonneg _ (by omega), Int.emod_lt_of_pos _ (by omega), ?_⟩
    simp only [q_seq, q_nx, q_rt, q_bk, q_exc, q_nil, q_ret, q_kret, q_retN, q_if, q_ift, q_iff, q_expr, q_kexpr, q_sexc, q_set, q_ksetv, q_ksett, q_c, q_v, q_vv, q_vo, q_vi, q_fz, q_kfzv, q_kfzt, q_op, q_op1, q_op2, q_opE, q_lv, q_lt, q_ls, q_slo, q_sli, q_slv, q_fzl, q_oWs, q_un, q_kun, q_unE, q_and, q_or, q_not, q_thenB, q_andt, q_andf, q_ort, q_orf, q_knot, q_fB, q_kB, q_tru, q_ktru, q_truB, q_bnot, q_kbnot, q_band, q_bor, q_bandt, q_bandf, q_bort, q_borf, q_vif, q_vift, q_viff, q_anil, q_acons, q_kcons1, q_kcons2, q_tup, q_lst, q_ktup, q_klst, q_gnil, q_gval, q_kval1, q_kval2, q_gio, q_kio, q_call, q_finv, q_fint, q_finn, q_fine, q_fins, q_kcall, q_held, q_slHo, q_slHi, q_setL, q_slSo, q_slSi, q_setIx, q_kSetIx, q_setIx1, q_kSetIx2, q_setIx2, q_setIx3, q_app, q_app1, q_kApp, q_app2, q_ns, q_knsv, q_knst, q_par, q_kpar1, q_kpvv, q_kpvt, q_kptv, q_kptt, q_put2, q_sl, q_ksl1, q_ksl2, q_ksl3, q_sl4, q_ono, q_osome, q_kO, q_for, q_iseq, q_kseqT, q_kseqL, q_kseqS, q_isIo, q_ioV, q_ioE, q_ioO, q_nmG, q_frzS, q_frzV, q_frzT, q_fzSV, q_fzSO, q_kfzs, q_fzP, q_knss, q_nsP, q_came, q_cameO, q_cameX, q_cameF, q_cameW, q_mask, q_maskV, q_maskO, q_lenT, q_lenL, q_lenS, q_gLt, q_gLe, q_gGt, q_gGe, q_gInt, q_gAdd, q_gSub, q_gNeg, q_rR1, q_rR2, q_rs1, q_rs2, startE, finS, outs, outS, agSls, agSl, ios, callC, resC, isHeld, gIsi, D.seq?, tru, q_bok, q_sok, q_bexc, q_sxc, q_bstk, q_sstk, List.length_cons, List.length_nil, List.getElem?_cons_zero, List.getElem?_cons_succ, List.append_nil, List.replicate, Option.map_some, Option.map_none, List.mapIdx_cons, List.mapIdx_nil, Nat.sub_self, List.cons_append, List.nil_append, Bool.not_false, Bool.not_true, List.set_cons_zero, List.set_cons_succ, Bool.false_eq_true, if_true, if_false, reduceIte, decide_true, Nat.zero_add, Nat.reduceAdd, Nat.reduceSub, Nat.reduceBEq, beq_self_eq_true, List.nodup_nil, List.length_map, List.map_cons, List.map_nil, eq_self, ite_true, ite_false, FF__law_pick, ev__law_pick, spr, i0, i1, g1, g2, g3, g4, g5, g6, j0, j1]
theorem m_spring (ns : List Int) (i : Nat) (hi : i ≤ 63) (hz : ∀ z ∈ ns, Builtin.Int.intBits z ≤ 1048576) : ∃ a b, SprOk a b ∧
    FF__law_spring [.val (.scr (ns.map .int)), .val (.int i)] = .ret [.val (.scr (ns.map .int)), .val (.int i)] (.tmp (spr a b)) := by
  have gl : gLen (.scr (ns.map D.int)) = some (.val (.int (ns.length : Nat))) := by show some (Wv.val (D.int ((ns.map D.int).length : Nat))) = _; rw [List.length_map]
  have fin : ∀ c : Int, 0 ≤ c → c.natAbs.log2 ≤ 1048576 → ∃ a b, SprOk a b ∧ gMul (.int c) (.int 863) = some (.val (.int (c * 863))) ∧ gMul (.int 524287) (.int i) = some (.val (.int (524287 * i))) ∧ gMod (.int (c * 863 + 524287 * (i : Int) + 1)) (.int 999999999989) = some (.val (.int b)) ∧
      gPow (.int 10) (.int 18) = some (.val (.int 1000000000000000000)) ∧ gGe (.int c) (.int 1000000000000000000) = some (.val (.bl (decide (1000000000000000000 ≤ c)))) ∧ (if decide (1000000000000000000 ≤ c) then c else 0) = a := fun c hc hl => by
    refine ⟨_, _, ⟨?_, ?_, ?_⟩, ?_, ?_, rfl, ?_, rfl, rfl⟩
    · split <;> omega
    · omega
    · omega
    · have : mulOk c 863 = true := decide_eq_true (by
        have : (863 : Int).natAbs.log2 < 10 := log2_lt (by decide) (by omega)
        omega)
      show (if mulOk c 863 then _ else _) = _
      rw [this]; rfl
    · have : mulOk 524287 i = true := decide_eq_true (by
        have h1 : (524287 : Int).natAbs.log2 < 19 := log2_lt (by decide) (by omega)
        have h2 : (i : Int).natAbs.log2 < 6 := log2_lt (by omega) (by omega)
        omega)
      show (if mulOk 524287 i then _ else _) = _
      rw [this]; rfl
    · rfl
  by_cases h : i < ns.length
  · have g1 : decide ((i:Int) < (ns.length : Nat)) = true := decide_eq_true (by omega)
    have g2 : gIx (.scr (ns.map D.int)) (.int i) = some (.val (.int ns[i])) := by
      show (L2.atI (ns.map D.int) (i : Int)).map Wv.val = _
      have e : ixN (ns.map D.int).length (i : Int) = some i := by
        unfold ixN
        rw [if_pos (Int.natCast_nonneg i), if_pos (by rw [List.length_map]; omega)]; rfl
      unfold L2.atI
      rw [e]
      show ((ns.map D.int)[i]?).map Wv.val = _
      rw [List.getElem?_map, List.getElem?_eq_getElem h]; rfl
    have g3 : gAbs (.int ns[i]) = some (.val (.int (ns[i].natAbs : Nat))) := by
      show some (Wv.val (D.int _)) = _
      congr 3
      try omega
    have lz : ((ns[i].natAbs : Nat) : Int).natAbs.log2 ≤ 1048576 := by
      have := hz ns[i] (List.getElem_mem h)
      unfold Builtin.Int.intBits at this
      rw [Int.natAbs_natCast]
      split at this
      · rename_i z
        have : ns[i] = 0 := by simpa using z
        rw [this]; decide
      · omega
    obtain ⟨a, b, hs, c1, c2, c3, c4, c5, c6⟩ := fin _ (Int.natCast_nonneg _) lz
    refine ⟨a, b, hs, ?_⟩
    have f2 : fits 2 = true := by decide
    have a1 : ∀ x y : Int, gAdd (.int x) (.int y) = some (.val (.int (x + y))) := fun _ _ => rfl
    simp only [q_seq, q_nx, q_rt, q_bk, q_exc, q_nil, q_ret, q_kret, q_retN, q_if, q_ift, q_iff, q_expr, q_kexpr, q_sexc, q_set, q_ksetv, q_ksett, q_c, q_v, q_vv, q_vo, q_vi, q_fz, q_kfzv, q_kfzt, q_op, q_op1, q_op2, q_opE, q_lv, q_lt, q_ls, q_slo, q_sli, q_slv, q_fzl, q_oWs, q_un, q_kun, q_unE, q_and, q_or, q_not, q_thenB, q_andt, q_andf, q_ort, q_orf, q_knot, q_fB, q_kB, q_tru, q_ktru, q_truB, q_bnot, q_kbnot, q_band, q_bor, q_bandt, q_bandf, q_bort, q_borf, q_vif, q_vift, q_viff, q_anil, q_acons, q_kcons1, q_kcons2, q_tup, q_lst, q_ktup, q_klst, q_gnil, q_gval, q_kval1, q_kval2, q_gio, q_kio, q_call, q_finv, q_fint, q_finn, q_fine, q_fins, q_kcall, q_held, q_slHo, q_slHi, q_setL, q_slSo, q_slSi, q_setIx, q_kSetIx, q_setIx1, q_kSetIx2, q_setIx2, q_setIx3, q_app, q_app1, q_kApp, q_app2, q_ns, q_knsv, q_knst, q_par, q_kpar1, q_kpvv, q_kpvt, q_kptv, q_kptt, q_put2, q_sl, q_ksl1, q_ksl2, q_ksl3, q_sl4, q_ono, q_osome, q_kO, q_for, q_iseq, q_kseqT, q_kseqL, q_kseqS, q_isIo, q_ioV, q_ioE, q_ioO, q_nmG, q_frzS, q_frzV, q_frzT, q_fzSV, q_fzSO, q_kfzs, q_fzP, q_knss, q_nsP, q_came, q_cameO, q_cameX, q_cameF, q_cameW, q_mask, q_maskV, q_maskO, q_lenT, q_lenL, q_lenS, q_gLt, q_gLe, q_gGt, q_gGe, q_gInt, q_gAdd, q_gSub, q_gNeg, q_rR1, q_rR2, q_rs1, q_rs2, startE, finS, outs, outS, agSls, agSl, ios, callC, resC, isHeld, gIsi, D.seq?, tru, q_bok, q_sok, q_bexc, q_sxc, q_bstk, q_sstk, List.length_cons, List.length_nil, List.getElem?_cons_zero, List.getElem?_cons_succ, List.append_nil, List.replicate, Option.map_some, Option.map_none, List.mapIdx_cons, List.mapIdx_nil, Nat.sub_self, List.cons_append, List.nil_append, Bool.not_false, Bool.not_true, List.set_cons_zero, List.set_cons_succ, Bool.false_eq_true, if_true, if_false, reduceIte, decide_true, Nat.zero_add, Nat.reduceAdd, Nat.reduceSub, Nat.reduceBEq, beq_self_eq_true, List.nodup_nil, List.length_map, List.map_cons, List.map_nil, eq_self, ite_true, ite_false, FF__law_spring, ev__law_spring, spr, gl, g1, g2, g3, c1, c2, c3, c4, c5, f2, a1]
    rw [← c6]
    cases decide (1000000000000000000 ≤ ((ns[i].natAbs : Nat) : Int)) <;> simp only [q_seq, q_nx, q_rt, q_bk, q_exc, q_nil, q_ret, q_kret, q_retN, q_if, q_ift, q_iff, q_expr, q_kexpr, q_sexc, q_set, q_ksetv, q_ksett, q_c, q_v, q_vv, q_vo, q_vi, q_fz, q_kfzv, q_kfzt, q_op, q_op1, q_op2, q_opE, q_lv, q_lt, q_ls, q_slo, q_sli, q_slv, q_fzl, q_oWs, q_un, q_kun, q_unE, q_and, q_or, q_not, q_thenB, q_andt, q_andf, q_ort, q_orf, q_knot, q_fB, q_kB, q_tru, q_ktru, q_truB, q_bnot, q_kbnot, q_band, q_bor, q_bandt, q_bandf, q_bort, q_borf, q_vif, q_vift, q_viff, q_anil, q_acons, q_kcons1, q_kcons2, q_tup, q_lst, q_ktup, q_klst, q_gnil, q_gval, q_kval1, q_kval2, q_gio, q_kio, q_call, q_finv, q_fint, q_finn, q_fine, q_fins, q_kcall, q_held, q_slHo, q_slHi, q_setL, q_slSo, q_slSi, q_setIx, q_kSetIx, q_setIx1, q_kSetIx2, q_setIx2, q_setIx3, q_app, q_app1, q_kApp, q_app2, q_ns, q_knsv, q_knst, q_par, q_kpar1, q_kpvv, q_kpvt, q_kptv, q_kptt, q_put2, q_sl, q_ksl1, q_ksl2, q_ksl3, q_sl4, q_ono, q_osome, q_kO, q_for, q_iseq, q_kseqT, q_kseqL, q_kseqS, q_isIo, q_ioV, q_ioE, q_ioO, q_nmG, q_frzS, q_frzV, q_frzT, q_fzSV, q_fzSO, q_kfzs, q_fzP, q_knss, q_nsP, q_came, q_cameO, q_cameX, q_cameF, q_cameW, q_mask, q_maskV, q_maskO, q_lenT, q_lenL, q_lenS, q_gLt, q_gLe, q_gGt, q_gGe, q_gInt, q_gAdd, q_gSub, q_gNeg, q_rR1, q_rR2, q_rs1, q_rs2, startE, finS, outs, outS, agSls, agSl, ios, callC, resC, isHeld, gIsi, D.seq?, tru, q_bok, q_sok, q_bexc, q_sxc, q_bstk, q_sstk, List.length_cons, List.length_nil, List.getElem?_cons_zero, List.getElem?_cons_succ, List.append_nil, List.replicate, Option.map_some, Option.map_none, List.mapIdx_cons, List.mapIdx_nil, Nat.sub_self, List.cons_append, List.nil_append, Bool.not_false, Bool.not_true, List.set_cons_zero, List.set_cons_succ, Bool.false_eq_true, if_true, if_false, reduceIte, decide_true, Nat.zero_add, Nat.reduceAdd, Nat.reduceSub, Nat.reduceBEq, beq_self_eq_true, List.nodup_nil, List.length_map, List.map_cons, List.map_nil, eq_self, ite_true, ite_false, f2]
  · have g1 : decide ((i:Int) < (ns.length : Nat)) = false := decide_eq_false (by omega)
    obtain ⟨a, b, hs, c1, c2, c3, c4, c5, c6⟩ := fin 7 (by omega) (by decide)
    refine ⟨a, b, hs, ?_⟩
    have f2 : fits 2 = true := by decide
    have a1 : ∀ x y : Int, gAdd (.int x) (.int y) = some (.val (.int (x + y))) := fun _ _ => rfl
    simp only [q_seq, q_nx, q_rt, q_bk, q_exc, q_nil, q_ret, q_kret, q_retN, q_if, q_ift, q_iff, q_expr, q_kexpr, q_sexc, q_set, q_ksetv, q_ksett, q_c, q_v, q_vv, q_vo, q_vi, q_fz, q_kfzv, q_kfzt, q_op, q_op1, q_op2, q_opE, q_lv, q_lt, q_ls, q_slo, q_sli, q_slv, q_fzl, q_oWs, q_un, q_kun, q_unE, q_and, q_or, q_not, q_thenB, q_andt, q_andf, q_ort, q_orf, q_knot, q_fB, q_kB, q_tru, q_ktru, q_truB, q_bnot, q_kbnot, q_band, q_bor, q_bandt, q_bandf, q_bort, q_borf, q_vif, q_vift, q_viff, q_anil, q_acons, q_kcons1, q_kcons2, q_tup, q_lst, q_ktup, q_klst, q_gnil, q_gval, q_kval1, q_kval2, q_gio, q_kio, q_call, q_finv, q_fint, q_finn, q_fine, q_fins, q_kcall, q_held, q_slHo, q_slHi, q_setL, q_slSo, q_slSi, q_setIx, q_kSetIx, q_setIx1, q_kSetIx2, q_setIx2, q_setIx3, q_app, q_app1, q_kApp, q_app2, q_ns, q_knsv, q_knst, q_par, q_kpar1, q_kpvv, q_kpvt, q_kptv, q_kptt, q_put2, q_sl, q_ksl1, q_ksl2, q_ksl3, q_sl4, q_ono, q_osome, q_kO, q_for, q_iseq, q_kseqT, q_kseqL, q_kseqS, q_isIo, q_ioV, q_ioE, q_ioO, q_nmG, q_frzS, q_frzV, q_frzT, q_fzSV, q_fzSO, q_kfzs, q_fzP, q_knss, q_nsP, q_came, q_cameO, q_cameX, q_cameF, q_cameW, q_mask, q_maskV, q_maskO, q_lenT, q_lenL, q_lenS, q_gLt, q_gLe, q_gGt, q_gGe, q_gInt, q_gAdd, q_gSub, q_gNeg, q_rR1, q_rR2, q_rs1, q_rs2, startE, finS, outs, outS, agSls, agSl, ios, callC, resC, isHeld, gIsi, D.seq?, tru, q_bok, q_sok, q_bexc, q_sxc, q_bstk, q_sstk, List.length_cons, List.length_nil, List.getElem?_cons_zero, List.getElem?_cons_succ, List.append_nil, List.replicate, Option.map_some, Option.map_none, List.mapIdx_cons, List.mapIdx_nil, Nat.sub_self, List.cons_append, List.nil_append, Bool.not_false, Bool.not_true, List.set_cons_zero, List.set_cons_succ, Bool.false_eq_true, if_true, if_false, reduceIte, decide_true, Nat.zero_add, Nat.reduceAdd, Nat.reduceSub, Nat.reduceBEq, beq_self_eq_true, List.nodup_nil, List.length_map, List.map_cons, List.map_nil, eq_self, ite_true, ite_false, FF__law_spring, ev__law_spring, spr, gl, g1, c1, c2, c3, c4, c5, f2, a1]
    rw [← c6]
    cases decide ((1000000000000000000:Int) ≤ 7) <;> simp only [q_seq, q_nx, q_rt, q_bk, q_exc, q_nil, q_ret, q_kret, q_retN, q_if, q_ift, q_iff, q_expr, q_kexpr, q_sexc, q_set, q_ksetv, q_ksett, q_c, q_v, q_vv, q_vo, q_vi, q_fz, q_kfzv, q_kfzt, q_op, q_op1, q_op2, q_opE, q_lv, q_lt, q_ls, q_slo, q_sli, q_slv, q_fzl, q_oWs, q_un, q_kun, q_unE, q_and, q_or, q_not, q_thenB, q_andt, q_andf, q_ort, q_orf, q_knot, q_fB, q_kB, q_tru, q_ktru, q_truB, q_bnot, q_kbnot, q_band, q_bor, q_bandt, q_bandf, q_bort, q_borf, q_vif, q_vift, q_viff, q_anil, q_acons, q_kcons1, q_kcons2, q_tup, q_lst, q_ktup, q_klst, q_gnil, q_gval, q_kval1, q_kval2, q_gio, q_kio, q_call, q_finv, q_fint, q_finn, q_fine, q_fins, q_kcall, q_held, q_slHo, q_slHi, q_setL, q_slSo, q_slSi, q_setIx, q_kSetIx, q_setIx1, q_kSetIx2, q_setIx2, q_setIx3, q_app, q_app1, q_kApp, q_app2, q_ns, q_knsv, q_knst, q_par, q_kpar1, q_kpvv, q_kpvt, q_kptv, q_kptt, q_put2, q_sl, q_ksl1, q_ksl2, q_ksl3, q_sl4, q_ono, q_osome, q_kO, q_for, q_iseq, q_kseqT, q_kseqL, q_kseqS, q_isIo, q_ioV, q_ioE, q_ioO, q_nmG, q_frzS, q_frzV, q_frzT, q_fzSV, q_fzSO, q_kfzs, q_fzP, q_knss, q_nsP, q_came, q_cameO, q_cameX, q_cameF, q_cameW, q_mask, q_maskV, q_maskO, q_lenT, q_lenL, q_lenS, q_gLt, q_gLe, q_gGt, q_gGe, q_gInt, q_gAdd, q_gSub, q_gNeg, q_rR1, q_rR2, q_rs1, q_rs2, startE, finS, outs, outS, agSls, agSl, ios, callC, resC, isHeld, gIsi, D.seq?, tru, q_bok, q_sok, q_bexc, q_sxc, q_bstk, q_sstk, List.length_cons, List.length_nil, List.getElem?_cons_zero, List.getElem?_cons_succ, List.append_nil, List.replicate, Option.map_some, Option.map_none, List.mapIdx_cons, List.mapIdx_nil, Nat.sub_self, List.cons_append, List.nil_append, Bool.not_false, Bool.not_true, List.set_cons_zero, List.set_cons_succ, Bool.false_eq_true, if_true, if_false, reduceIte, decide_true, Nat.zero_add, Nat.reduceAdd, Nat.reduceSub, Nat.reduceBEq, beq_self_eq_true, List.nodup_nil, List.length_map, List.map_cons, List.map_nil, eq_self, ite_true, ite_false, f2]
end K01
namespace K01
open PySem PySem.Spec
open PyProof.Rows hiding St
open L2 DL
def wayD (k : WK) : D := .tup [.int k.1, .tup (k.2.map .int)]
def wayP (k : WK) : PyData := .tuple [.int k.1, .tuple (k.2.map .int)]
def recD (r : List WK) : D := .tup (r.map wayD)
def bookD (b : List (List WK)) : D := .tup (b.map recD)
theorem wayD_py (k : WK) : (wayD k).py = some (wayP k) := by
  show Option.map PyData.tuple (match some (PyData.int k.1), (match (D.pys (k.2.map .int)).map PyData.tuple, some [] with | some p, some ps => some (p :: ps) | _, _ => none) with | some p, some ps => some (p :: ps) | _, _ => none) = _
  rw [py_ints]; rfl
theorem pys_map {α : Type} {f : α → D} {g : α → PyData} (h : ∀ a, (f a).py = some (g a)) : ∀ l : List α, D.pys (l.map f) = some (l.map g)
  | [] => rfl
  | a :: l => by
    show (match (f a).py, D.pys (l.map f) with | some p, some ps => some (p :: ps) | _, _ => none) = _
    rw [h, pys_map h l]; rfl
theorem recD_py (r : List WK) : (recD r).py = some (.tuple (r.map wayP)) := by
  show (D.pys _).map PyData.tuple = _
  rw [pys_map wayD_py]; rfl
theorem bookD_py (b : List (List WK)) : (bookD b).py = some (.tuple (b.map fun r => .tuple (r.map wayP))) := by
  show (D.pys _).map PyData.tuple = _
  rw [pys_map recD_py]; rfl
theorem lay_ints : ∀ ns : List Int, PyData.canLay0 (.tuple (ns.map PyData.int)) = true
  | [] => rfl
  | n :: ns => lay_ints ns
theorem dep_ints (ns : List Int) : PyData.depth (.tuple (ns.map PyData.int)) ≤ 1 := by
  have : ∀ ns : List Int, PyData.depthAll (ns.map PyData.int) = 0 := fun ns => by
    induction ns with
    | nil => rfl
    | cons n ns ih => show max _ _ = 0; rw [ih]; rfl
  show _ + 1 ≤ 1 
  rw [this]; exact Nat.le_refl _
theorem way_sh (k : WK) : SeqAt.shaped (wayP k) = true := by
  have h := dep_ints k.2
  have l := lay_ints k.2
  unfold SeqAt.shaped
  rw [Bool.and_eq_true, decide_eq_true_eq]
  refine ⟨?_, ?_⟩
  · unfold wayP
    simp only [PyData.canLay0, PyData.canLayAll0, Bool.and_true, Bool.true_and] at l ⊢
    exact l
  · unfold wayP
    simp only [PyData.depth, PyData.depthAll] at h ⊢
    omega
theorem eqv_tints (ns ms : List Int) : PyData.eqv (.tuple (ns.map PyData.int)) (.tuple (ms.map PyData.int)) = decide (ns = ms) := by
  have h := eqv_ints ns ms
  simp only [PyData.eqv] at h ⊢
  exact h
theorem eqv_way (k l : WK) : PyData.eqv (wayP k) (wayP l) = decide (k = l) := by
  have h := eqv_tints k.2 l.2
  have i1 : ∀ n m : Int, PyData.eqv (.int n) (.int m) = decide (n = m) := fun n m => by
    simp only [PyData.eqv]
    rw [Bool.eq_iff_iff]; simp
  unfold wayP
  simp only [PyData.eqv, PyData.eqvAll, i1, h, Bool.and_true] at h ⊢
  simp only [h]
  rw [Bool.eq_iff_iff]
  simp [Prod.ext_iff]
theorem gEq_way (k l : WK) : gEq (wayD k) (wayD l) = some (.val (.bl (decide (k = l)))) := by
  unfold gEq gEqv
  rw [wayD_py, wayD_py]
  show (if SeqAt.shaped (wayP k) && SeqAt.shaped (wayP l) then some (Wv.val (D.bl (id (PyData.eqv (wayP k) (wayP l))))) else none) = _
  rw [way_sh, way_sh, eqv_way]; rfl
theorem gNe_way (k l : WK) : gNe (wayD k) (wayD l) = some (.val (.bl (!decide (k = l)))) := by
  unfold gNe gEqv
  rw [wayD_py, wayD_py]
  show (if SeqAt.shaped (wayP k) && SeqAt.shaped (wayP l) then some (Wv.val (D.bl (not (PyData.eqv (wayP k) (wayP l))))) else none) = _
  rw [way_sh, way_sh, eqv_way]; rfl
theorem lay_ways : ∀ r : List WK, PyData.canLay0 (.list (r.map wayP)) = true
  | [] => rfl
  | k :: r => by
    have h := lay_ways r
    have w : (wayP k).canLay0 = true := SeqAt.canLay_of_shaped (way_sh k)
    simp only [PyData.canLay0, PyData.canLayAll0, List.map_cons, w, Bool.and_true, Bool.true_and] at h ⊢
    exact h
theorem dep_ways (r : List WK) : PyData.depth (.list (r.map wayP)) ≤ 3 := by
  have : ∀ r : List WK, PyData.depthAll (r.map wayP) ≤ 2 := fun r => by
    induction r with
    | nil => exact Nat.zero_le _
    | cons k r ih =>
      have h := dep_ints k.2
      show max (wayP k).depth _ ≤ 2
      have : (wayP k).depth ≤ 2 := by
        unfold wayP
        simp only [PyData.depth, PyData.depthAll] at h ⊢
        omega
      omega
  have := this r
  show _ + 1 ≤ 3
  omega
theorem ways_sh (r : List WK) : SeqAt.shaped (.list (r.map wayP)) = true := by
  unfold SeqAt.shaped
  rw [lay_ways, decide_eq_true (Nat.le_trans (dep_ways r) (by decide))]; rfl
theorem gIn_way (neg : Bool) (k : WK) (r : List WK) : gInS neg (wayD k) (recD r) = some (.val (.bl (if neg then !decide (k ∈ r) else decide (k ∈ r)))) := by
  have e : ((r.map wayP).any fun z => PyData.eqv z (wayP k)) = decide (k ∈ r) := by
    rw [List.any_map, Bool.eq_iff_iff, List.any_eq_true, decide_eq_true_eq]
    constructor
    · rintro ⟨x, hx, he⟩
      have he : PyData.eqv (wayP x) (wayP k) = true := he
      rw [eqv_way] at he
      exact of_decide_eq_true he ▸ hx
    · intro h
      exact ⟨k, h, by show PyData.eqv (wayP k) (wayP k) = true; rw [eqv_way]; exact decide_eq_true rfl⟩
  unfold gInS
  show (match (wayD k).py, D.pys (r.map wayD) with | some p, some ps => if SeqAt.shaped p && SeqAt.shaped (.list ps) then some (Wv.val (D.bl (if neg then !(ps.any fun z => PyData.eqv z p) else ps.any fun z => PyData.eqv z p))) else none | _, _ => none) = _
  rw [wayD_py, pys_map wayD_py]
  simp only [way_sh, ways_sh, Bool.and_self, if_true, e]
end K01
namespace K01
open PySem PySem.Spec
open PyProof.Rows hiding St
open L2 DL
def kindN : D → Int
  | .non => 0
  | .bl _ => 1
  | .lst _ => 2
  | .scr _ => 2
  | .tup _ => 3
  | .int _ => 4
  | .str _ => 5
  | _ => 6
theorem kI : ∀ t ∈ ["NoneType", "bool", "int", "str", "tuple", "list", "dict"], kitB t "bool" = some (decide (t = "bool")) ∧ isi2 t "list" "tuple" = some (decide (t = "list" ∨ t = "tuple")) ∧ kitB t "list" = some (decide (t = "list")) ∧ kitB t "int" = some (decide (t = "bool" ∨ t = "int")) ∧ kitB t "str" = some (decide (t = "str")) := by decide +kernel
theorem m_kind (d : D) (hd : d.py ≠ none) : FF__law_kind [.val d] = .ret [.val d] (.val (.int (kindN d))) := by
  have a1 := kI "bool" (by decide)
  have a2 := kI "int" (by decide)
  have a3 := kI "str" (by decide)
  have a4 := kI "tuple" (by decide)
  have a5 := kI "list" (by decide)
  simp only [decide_true, decide_false, String.reduceEq, or_true, true_or, or_false, false_or] at a1 a2 a3 a4 a5
  cases d with
  | non => rfl
  | bl b => simp only [q_seq, q_nx, q_rt, q_bk, q_exc, q_nil, q_ret, q_kret, q_retN, q_if, q_ift, q_iff, q_expr, q_kexpr, q_sexc, q_set, q_ksetv, q_ksett, q_c, q_v, q_vv, q_vo, q_vi, q_fz, q_kfzv, q_kfzt, q_op, q_op1, q_op2, q_opE, q_lv, q_lt, q_ls, q_slo, q_sli, q_slv, q_fzl, q_oWs, q_un, q_kun, q_unE, q_and, q_or, q_not, q_thenB, q_andt, q_andf, q_ort, q_orf, q_knot, q_fB, q_kB, q_tru, q_ktru, q_truB, q_bnot, q_kbnot, q_band, q_bor, q_bandt, q_bandf, q_bort, q_borf, q_vif, q_vift, q_viff, q_anil, q_acons, q_kcons1, q_kcons2, q_tup, q_lst, q_ktup, q_klst, q_gnil, q_gval, q_kval1, q_kval2, q_gio, q_kio, q_call, q_finv, q_fint, q_finn, q_fine, q_fins, q_kcall, q_held, q_slHo, q_slHi, q_setL, q_slSo, q_slSi, q_setIx, q_kSetIx, q_setIx1, q_kSetIx2, q_setIx2, q_setIx3, q_app, q_app1, q_kApp, q_app2, q_ns, q_knsv, q_knst, q_par, q_kpar1, q_kpvv, q_kpvt, q_kptv, q_kptt, q_put2, q_sl, q_ksl1, q_ksl2, q_ksl3, q_sl4, q_ono, q_osome, q_kO, q_for, q_iseq, q_kseqT, q_kseqL, q_kseqS, q_isIo, q_ioV, q_ioE, q_ioO, q_nmG, q_frzS, q_frzV, q_frzT, q_fzSV, q_fzSO, q_kfzs, q_fzP, q_knss, q_nsP, q_came, q_cameO, q_cameX, q_cameF, q_cameW, q_mask, q_maskV, q_maskO, q_lenT, q_lenL, q_lenS, q_gLt, q_gLe, q_gGt, q_gGe, q_gInt, q_gAdd, q_gSub, q_gNeg, q_rR1, q_rR2, q_rs1, q_rs2, startE, finS, outs, outS, agSls, agSl, ios, callC, resC, isHeld, gIsi, D.seq?, tru, q_bok, q_sok, q_bexc, q_sxc, q_bstk, q_sstk, List.length_cons, List.length_nil, List.getElem?_cons_zero, List.getElem?_cons_succ, List.append_nil, List.replicate, Option.map_some, Option.map_none, List.mapIdx_cons, List.mapIdx_nil, Nat.sub_self, List.cons_append, List.nil_append, Bool.not_false, Bool.not_true, List.set_cons_zero, List.set_cons_succ, Bool.false_eq_true, if_true, if_false, reduceIte, decide_true, Nat.zero_add, Nat.reduceAdd, Nat.reduceSub, Nat.reduceBEq, beq_self_eq_true, List.nodup_nil, List.length_map, List.map_cons, List.map_nil, eq_self, ite_true, ite_false, FF__law_kind, ev__law_kind, gIsN, DL.isNon, D.ty, a1]; rfl
  | int b => simp only [q_seq, q_nx, q_rt, q_bk, q_exc, q_nil, q_ret, q_kret, q_retN, q_if, q_ift, q_iff, q_expr, q_kexpr, q_sexc, q_set, q_ksetv, q_ksett, q_c, q_v, q_vv, q_vo, q_vi, q_fz, q_kfzv, q_kfzt, q_op, q_op1, q_op2, q_opE, q_lv, q_lt, q_ls, q_slo, q_sli, q_slv, q_fzl, q_oWs, q_un, q_kun, q_unE, q_and, q_or, q_not, q_thenB, q_andt, q_andf, q_ort, q_orf, q_knot, q_fB, q_kB, q_tru, q_ktru, q_truB, q_bnot, q_kbnot, q_band, q_bor, q_bandt, q_bandf, q_bort, q_borf, q_vif, q_vift, q_viff, q_anil, q_acons, q_kcons1, q_kcons2, q_tup, q_lst, q_ktup, q_klst, q_gnil, q_gval, q_kval1, q_kval2, q_gio, q_kio, q_call, q_finv, q_fint, q_finn, q_fine, q_fins, q_kcall, q_held, q_slHo, q_slHi, q_setL, q_slSo, q_slSi, q_setIx, q_kSetIx, q_setIx1, q_kSetIx2, q_setIx2, q_setIx3, q_app, q_app1, q_kApp, q_app2, q_ns, q_knsv, q_knst, q_par, q_kpar1, q_kpvv, q_kpvt, q_kptv, q_kptt, q_put2, q_sl, q_ksl1, q_ksl2, q_ksl3, q_sl4, q_ono, q_osome, q_kO, q_for, q_iseq, q_kseqT, q_kseqL, q_kseqS, q_isIo, q_ioV, q_ioE, q_ioO, q_nmG, q_frzS, q_frzV, q_frzT, q_fzSV, q_fzSO, q_kfzs, q_fzP, q_knss, q_nsP, q_came, q_cameO, q_cameX, q_cameF, q_cameW, q_mask, q_maskV, q_maskO, q_lenT, q_lenL, q_lenS, q_gLt, q_gLe, q_gGt, q_gGe, q_gInt, q_gAdd, q_gSub, q_gNeg, q_rR1, q_rR2, q_rs1, q_rs2, startE, finS, outs, outS, agSls, agSl, ios, callC, resC, isHeld, gIsi, D.seq?, tru, q_bok, q_sok, q_bexc, q_sxc, q_bstk, q_sstk, List.length_cons, List.length_nil, List.getElem?_cons_zero, List.getElem?_cons_succ, List.append_nil, List.replicate, Option.map_some, Option.map_none, List.mapIdx_cons, List.mapIdx_nil, Nat.sub_self, List.cons_append, List.nil_append, Bool.not_false, Bool.not_true, List.set_cons_zero, List.set_cons_succ, Bool.false_eq_true, if_true, if_false, reduceIte, decide_true, Nat.zero_add, Nat.reduceAdd, Nat.reduceSub, Nat.reduceBEq, beq_self_eq_true, List.nodup_nil, List.length_map, List.map_cons, List.map_nil, eq_self, ite_true, ite_false, FF__law_kind, ev__law_kind, gIsN, DL.isNon, D.ty, gIsi2, a2]; rfl
  | str b => simp only [q_seq, q_nx, q_rt, q_bk, q_exc, q_nil, q_ret, q_kret, q_retN, q_if, q_ift, q_iff, q_expr, q_kexpr, q_sexc, q_set, q_ksetv, q_ksett, q_c, q_v, q_vv, q_vo, q_vi, q_fz, q_kfzv, q_kfzt, q_op, q_op1, q_op2, q_opE, q_lv, q_lt, q_ls, q_slo, q_sli, q_slv, q_fzl, q_oWs, q_un, q_kun, q_unE, q_and, q_or, q_not, q_thenB, q_andt, q_andf, q_ort, q_orf, q_knot, q_fB, q_kB, q_tru, q_ktru, q_truB, q_bnot, q_kbnot, q_band, q_bor, q_bandt, q_bandf, q_bort, q_borf, q_vif, q_vift, q_viff, q_anil, q_acons, q_kcons1, q_kcons2, q_tup, q_lst, q_ktup, q_klst, q_gnil, q_gval, q_kval1, q_kval2, q_gio, q_kio, q_call, q_finv, q_fint, q_finn, q_fine, q_fins, q_kcall, q_held, q_slHo, q_slHi, q_setL, q_slSo, q_slSi, q_setIx, q_kSetIx, q_setIx1, q_kSetIx2, q_setIx2, q_setIx3, q_app, q_app1, q_kApp, q_app2, q_ns, q_knsv, q_knst, q_par, q_kpar1, q_kpvv, q_kpvt, q_kptv, q_kptt, q_put2, q_sl, q_ksl1, q_ksl2, q_ksl3, q_sl4, q_ono, q_osome, q_kO, q_for, q_iseq, q_kseqT, q_kseqL, q_kseqS, q_isIo, q_ioV, q_ioE, q_ioO, q_nmG, q_frzS, q_frzV, q_frzT, q_fzSV, q_fzSO, q_kfzs, q_fzP, q_knss, q_nsP, q_came, q_cameO, q_cameX, q_cameF, q_cameW, q_mask, q_maskV, q_maskO, q_lenT, q_lenL, q_lenS, q_gLt, q_gLe, q_gGt, q_gGe, q_gInt, q_gAdd, q_gSub, q_gNeg, q_rR1, q_rR2, q_rs1, q_rs2, startE, finS, outs, outS, agSls, agSl, ios, callC, resC, isHeld, gIsi, D.seq?, tru, q_bok, q_sok, q_bexc, q_sxc, q_bstk, q_sstk, List.length_cons, List.length_nil, List.getElem?_cons_zero, List.getElem?_cons_succ, List.append_nil, List.replicate, Option.map_some, Option.map_none, List.mapIdx_cons, List.mapIdx_nil, Nat.sub_self, List.cons_append, List.nil_append, Bool.not_false, Bool.not_true, List.set_cons_zero, List.set_cons_succ, Bool.false_eq_true, if_true, if_false, reduceIte, decide_true, Nat.zero_add, Nat.reduceAdd, Nat.reduceSub, Nat.reduceBEq, beq_self_eq_true, List.nodup_nil, List.length_map, List.map_cons, List.map_nil, eq_self, ite_true, ite_false, FF__law_kind, ev__law_kind, gIsN, DL.isNon, D.ty, gIsi2, a3]; rfl
  | tup b => simp only [q_seq, q_nx, q_rt, q_bk, q_exc, q_nil, q_ret, q_kret, q_retN, q_if, q_ift, q_iff, q_expr, q_kexpr, q_sexc, q_set, q_ksetv, q_ksett, q_c, q_v, q_vv, q_vo, q_vi, q_fz, q_kfzv, q_kfzt, q_op, q_op1, q_op2, q_opE, q_lv, q_lt, q_ls, q_slo, q_sli, q_slv, q_fzl, q_oWs, q_un, q_kun, q_unE, q_and, q_or, q_not, q_thenB, q_andt, q_andf, q_ort, q_orf, q_knot, q_fB, q_kB, q_tru, q_ktru, q_truB, q_bnot, q_kbnot, q_band, q_bor, q_bandt, q_bandf, q_bort, q_borf, q_vif, q_vift, q_viff, q_anil, q_acons, q_kcons1, q_kcons2, q_tup, q_lst, q_ktup, q_klst, q_gnil, q_gval, q_kval1, q_kval2, q_gio, q_kio, q_call, q_finv, q_fint, q_finn, q_fine, q_fins, q_kcall, q_held, q_slHo, q_slHi, q_setL, q_slSo, q_slSi, q_setIx, q_kSetIx, q_setIx1, q_kSetIx2, q_setIx2, q_setIx3, q_app, q_app1, q_kApp, q_app2, q_ns, q_knsv, q_knst, q_par, q_kpar1, q_kpvv, q_kpvt, q_kptv, q_kptt, q_put2, q_sl, q_ksl1, q_ksl2, q_ksl3, q_sl4, q_ono, q_osome, q_kO, q_for, q_iseq, q_kseqT, q_kseqL, q_kseqS, q_isIo, q_ioV, q_ioE, q_ioO, q_nmG, q_frzS, q_frzV, q_frzT, q_fzSV, q_fzSO, q_kfzs, q_fzP, q_knss, q_nsP, q_came, q_cameO, q_cameX, q_cameF, q_cameW, q_mask, q_maskV, q_maskO, q_lenT, q_lenL, q_lenS, q_gLt, q_gLe, q_gGt, q_gGe, q_gInt, q_gAdd, q_gSub, q_gNeg, q_rR1, q_rR2, q_rs1, q_rs2, startE, finS, outs, outS, agSls, agSl, ios, callC, resC, isHeld, gIsi, D.seq?, tru, q_bok, q_sok, q_bexc, q_sxc, q_bstk, q_sstk, List.length_cons, List.length_nil, List.getElem?_cons_zero, List.getElem?_cons_succ, List.append_nil, List.replicate, Option.map_some, Option.map_none, List.mapIdx_cons, List.mapIdx_nil, Nat.sub_self, List.cons_append, List.nil_append, Bool.not_false, Bool.not_true, List.set_cons_zero, List.set_cons_succ, Bool.false_eq_true, if_true, if_false, reduceIte, decide_true, Nat.zero_add, Nat.reduceAdd, Nat.reduceSub, Nat.reduceBEq, beq_self_eq_true, List.nodup_nil, List.length_map, List.map_cons, List.map_nil, eq_self, ite_true, ite_false, FF__law_kind, ev__law_kind, gIsN, DL.isNon, D.ty, gIsi2, a4]; rfl
  | lst b => simp only [q_seq, q_nx, q_rt, q_bk, q_exc, q_nil, q_ret, q_kret, q_retN, q_if, q_ift, q_iff, q_expr, q_kexpr, q_sexc, q_set, q_ksetv, q_ksett, q_c, q_v, q_vv, q_vo, q_vi, q_fz, q_kfzv, q_kfzt, q_op, q_op1, q_op2, q_opE, q_lv, q_lt, q_ls, q_slo, q_sli, q_slv, q_fzl, q_oWs, q_un, q_kun, q_unE, q_and, q_or, q_not, q_thenB, q_andt, q_andf, q_ort, q_orf, q_knot, q_fB, q_kB, q_tru, q_ktru, q_truB, q_bnot, q_kbnot, q_band, q_bor, q_bandt, q_bandf, q_bort, q_borf, q_vif, q_vift, q_viff, q_anil, q_acons, q_kcons1, q_kcons2, q_tup, q_lst, q_ktup, q_klst, q_gnil, q_gval, q_kval1, q_kval2, q_gio, q_kio, q_call, q_finv, q_fint, q_finn, q_fine, q_fins, q_kcall, q_held, q_slHo, q_slHi, q_setL, q_slSo, q_slSi, q_setIx, q_kSetIx, q_setIx1, q_kSetIx2, q_setIx2, q_setIx3, q_app, q_app1, q_kApp, q_app2, q_ns, q_knsv, q_knst, q_par, q_kpar1, q_kpvv, q_kpvt, q_kptv, q_kptt, q_put2, q_sl, q_ksl1, q_ksl2, q_ksl3, q_sl4, q_ono, q_osome, q_kO, q_for, q_iseq, q_kseqT, q_kseqL, q_kseqS, q_isIo, q_ioV, q_ioE, q_ioO, q_nmG, q_frzS, q_frzV, q_frzT, q_fzSV, q_fzSO, q_kfzs, q_fzP, q_knss, q_nsP, q_came, q_cameO, q_cameX, q_cameF, q_cameW, q_mask, q_maskV, q_maskO, q_lenT, q_lenL, q_lenS, q_gLt, q_gLe, q_gGt, q_gGe, q_gInt, q_gAdd, q_gSub, q_gNeg, q_rR1, q_rR2, q_rs1, q_rs2, startE, finS, outs, outS, agSls, agSl, ios, callC, resC, isHeld, gIsi, D.seq?, tru, q_bok, q_sok, q_bexc, q_sxc, q_bstk, q_sstk, List.length_cons, List.length_nil, List.getElem?_cons_zero, List.getElem?_cons_succ, List.append_nil, List.replicate, Option.map_some, Option.map_none, List.mapIdx_cons, List.mapIdx_nil, Nat.sub_self, List.cons_append, List.nil_append, Bool.not_false, Bool.not_true, List.set_cons_zero, List.set_cons_succ, Bool.false_eq_true, if_true, if_false, reduceIte, decide_true, Nat.zero_add, Nat.reduceAdd, Nat.reduceSub, Nat.reduceBEq, beq_self_eq_true, List.nodup_nil, List.length_map, List.map_cons, List.map_nil, eq_self, ite_true, ite_false, FF__law_kind, ev__law_kind, gIsN, DL.isNon, D.ty, gIsi2, a5]; rfl
  | scr b => simp only [q_seq, q_nx, q_rt, q_bk, q_exc, q_nil, q_ret, q_kret, q_retN, q_if, q_ift, q_iff, q_expr, q_kexpr, q_sexc, q_set, q_ksetv, q_ksett, q_c, q_v, q_vv, q_vo, q_vi, q_fz, q_kfzv, q_kfzt, q_op, q_op1, q_op2, q_opE, q_lv, q_lt, q_ls, q_slo, q_sli, q_slv, q_fzl, q_oWs, q_un, q_kun, q_unE, q_and, q_or, q_not, q_thenB, q_andt, q_andf, q_ort, q_orf, q_knot, q_fB, q_kB, q_tru, q_ktru, q_truB, q_bnot, q_kbnot, q_band, q_bor, q_bandt, q_bandf, q_bort, q_borf, q_vif, q_vift, q_viff, q_anil, q_acons, q_kcons1, q_kcons2, q_tup, q_lst, q_ktup, q_klst, q_gnil, q_gval, q_kval1, q_kval2, q_gio, q_kio, q_call, q_finv, q_fint, q_finn, q_fine, q_fins, q_kcall, q_held, q_slHo, q_slHi, q_setL, q_slSo, q_slSi, q_setIx, q_kSetIx, q_setIx1, q_kSetIx2, q_setIx2, q_setIx3, q_app, q_app1, q_kApp, q_app2, q_ns, q_knsv, q_knst, q_par, q_kpar1, q_kpvv, q_kpvt, q_kptv, q_kptt, q_put2, q_sl, q_ksl1, q_ksl2, q_ksl3, q_sl4, q_ono, q_osome, q_kO, q_for, q_iseq, q_kseqT, q_kseqL, q_kseqS, q_isIo, q_ioV, q_ioE, q_ioO, q_nmG, q_frzS, q_frzV, q_frzT, q_fzSV, q_fzSO, q_kfzs, q_fzP, q_knss, q_nsP, q_came, q_cameO, q_cameX, q_cameF, q_cameW, q_mask, q_maskV, q_maskO, q_lenT, q_lenL, q_lenS, q_gLt, q_gLe, q_gGt, q_gGe, q_gInt, q_gAdd, q_gSub, q_gNeg, q_rR1, q_rR2, q_rs1, q_rs2, startE, finS, outs, outS, agSls, agSl, ios, callC, resC, isHeld, gIsi, D.seq?, tru, q_bok, q_sok, q_bexc, q_sxc, q_bstk, q_sstk, List.length_cons, List.length_nil, List.getElem?_cons_zero, List.getElem?_cons_succ, List.append_nil, List.replicate, Option.map_some, Option.map_none, List.mapIdx_cons, List.mapIdx_nil, Nat.sub_self, List.cons_append, List.nil_append, Bool.not_false, Bool.not_true, List.set_cons_zero, List.set_cons_succ, Bool.false_eq_true, if_true, if_false, reduceIte, decide_true, Nat.zero_add, Nat.reduceAdd, Nat.reduceSub, Nat.reduceBEq, beq_self_eq_true, List.nodup_nil, List.length_map, List.map_cons, List.map_nil, eq_self, ite_true, ite_false, FF__law_kind, ev__law_kind, gIsN, DL.isNon, D.ty, gIsi2, a5]; rfl
  | dic _ _ => exact (hd rfl).elim
  | dit _ _ => exact (hd rfl).elim
  | opq _ => exact (hd rfl).elim
end K01
namespace K01
open PySem PySem.Spec
open PyProof.Rows hiding St
open L2 DL
def nice : Nat → D → Bool
  | 0, _ => false
  | n + 1, .tup ds => decide (ds.length ≤ 16777216) && ds.all (nice n)
  | n + 1, .lst ds => decide (ds.length ≤ 16777216) && ds.all (nice n)
  | _ + 1, .non => true
  | _ + 1, .bl _ => true
  | _ + 1, .int _ => true
  | _ + 1, .str x => SeqAt.shaped (.str x)
  | _ + 1, _ => false
theorem pys_some : ∀ {ds : List D}, (∀ d ∈ ds, d.py ≠ none) → D.pys ds ≠ none
  | [], _ => by intro z; cases z
  | d :: ds, h => by
    show (match D.py d, D.pys ds with | some p, some ps => some (p :: ps) | _, _ => none) ≠ none
    cases e1 : D.py d with
    | none => exact (h d List.mem_cons_self e1).elim
    | some p =>
      cases e2 : D.pys ds with
      | none => exact (pys_some (fun x hx => h x (List.mem_cons_of_mem _ hx)) e2).elim
      | some ps => simp
theorem nice_py : ∀ {n : Nat} {d : D}, nice n d = true → d.py ≠ none
  | 0, _, h => by cases h
  | n + 1, d, h => by
    cases d with
    | tup ds =>
      have h : (decide (ds.length ≤ 16777216) && ds.all (nice n)) = true := h
      rw [Bool.and_eq_true, List.all_eq_true] at h
      intro z
      have z : (D.pys ds).map PyData.tuple = none := z
      cases e : D.pys ds with
      | none => exact pys_some (fun x hx => nice_py (h.2 x hx)) e
      | some ps => rw [e] at z; cases z
    | lst ds =>
      have h : (decide (ds.length ≤ 16777216) && ds.all (nice n)) = true := h
      rw [Bool.and_eq_true, List.all_eq_true] at h
      intro z
      have z : (D.pys ds).map PyData.list = none := z
      cases e : D.pys ds with
      | none => exact pys_some (fun x hx => nice_py (h.2 x hx)) e
      | some ps => rw [e] at z; cases z
    | non => intro z; cases z
    | bl b => intro z; cases z
    | int b => intro z; cases z
    | str b => intro z; cases z
    | _ => cases h
theorem gNe_int (a b : Int) : gNe (.int a) (.int b) = some (.val (.bl (!decide (a = b)))) := by
  show some (Wv.val (D.bl (!(PyData.eqv _ _)))) = _
  simp only [PyData.eqv]
  congr 4
theorem zip_self : ∀ ds : List D, zipD ds ds = ds.map fun d => .tup [d, d]
  | [] => rfl
  | d :: ds => congrArg _ (zip_self ds)
theorem eqv_bl (b : Bool) : PyData.eqv (.bool b) (.bool b) = true := by simp only [PyData.eqv]; cases b <;> rfl
theorem eqv_str (b : Str) : PyData.eqv (.str b) (.str b) = true := by simp only [PyData.eqv]; exact beq_self_eq_true b
theorem gEq_self {d : D} {p : PyData} (e : d.py = some p) (s : SeqAt.shaped p = true) (q : PyData.eqv p p = true) : gEq d d = some (.val (.bl true)) := by
  unfold gEq gEqv
  rw [e]
  show (if SeqAt.shaped p && SeqAt.shaped p then some (Wv.val (D.bl (id (PyData.eqv p p)))) else none) = _
  rw [s, q]; rfl
theorem m_twins : ∀ {n : Nat} {d : D}, nice n d = true → FF__law_twins n [.val d, .val d] = .ret [.val d, .val d] (.val (.bl true))
  | 0, _, h => by cases h
  | n + 1, d, h => by
    have hp := nice_py h
    have k := m_kind d hp
    have kn := gNe_int (kindN d) (kindN d)
    have kd : decide (kindN d = kindN d) = true := decide_eq_true rfl
    have f2 : fits 2 = true := by decide
    have f0 : fits 0 = true := by decide
    have leaf : (gInS false (.int (kindN d)) (.lst [.int 2, .int 3]) = some (.val (.bl false))) → gEq d d = some (.val (.bl true)) → FF__law_twins (n + 1) [.val d, .val d] = .ret [.val d, .val d] (.val (.bl true)) := fun l e => by
      simp only [q_seq, q_nx, q_rt, q_bk, q_exc, q_nil, q_ret, q_kret, q_retN, q_if, q_ift, q_iff, q_expr, q_kexpr, q_sexc, q_set, q_ksetv, q_ksett, q_c, q_v, q_vv, q_vo, q_vi, q_fz, q_kfzv, q_kfzt, q_op, q_op1, q_op2, q_opE, q_lv, q_lt, q_ls, q_slo, q_sli, q_slv, q_fzl, q_oWs, q_un, q_kun, q_unE, q_and, q_or, q_not, q_thenB, q_andt, q_andf, q_ort, q_orf, q_knot, q_fB, q_kB, q_tru, q_ktru, q_truB, q_bnot, q_kbnot, q_band, q_bor, q_bandt, q_bandf, q_bort, q_borf, q_vif, q_vift, q_viff, q_anil, q_acons, q_kcons1, q_kcons2, q_tup, q_lst, q_ktup, q_klst, q_gnil, q_gval, q_kval1, q_kval2, q_gio, q_kio, q_call, q_finv, q_fint, q_finn, q_fine, q_fins, q_kcall, q_held, q_slHo, q_slHi, q_setL, q_slSo, q_slSi, q_setIx, q_kSetIx, q_setIx1, q_kSetIx2, q_setIx2, q_setIx3, q_app, q_app1, q_kApp, q_app2, q_ns, q_knsv, q_knst, q_par, q_kpar1, q_kpvv, q_kpvt, q_kptv, q_kptt, q_put2, q_sl, q_ksl1, q_ksl2, q_ksl3, q_sl4, q_ono, q_osome, q_kO, q_for, q_iseq, q_kseqT, q_kseqL, q_kseqS, q_isIo, q_ioV, q_ioE, q_ioO, q_nmG, q_frzS, q_frzV, q_frzT, q_fzSV, q_fzSO, q_kfzs, q_fzP, q_knss, q_nsP, q_came, q_cameO, q_cameX, q_cameF, q_cameW, q_mask, q_maskV, q_maskO, q_lenT, q_lenL, q_lenS, q_gLt, q_gLe, q_gGt, q_gGe, q_gInt, q_gAdd, q_gSub, q_gNeg, q_rR1, q_rR2, q_rs1, q_rs2, startE, finS, outs, outS, agSls, agSl, ios, callC, resC, isHeld, gIsi, D.seq?, tru, q_bok, q_sok, q_bexc, q_sxc, q_bstk, q_sstk, List.length_cons, List.length_nil, List.getElem?_cons_zero, List.getElem?_cons_succ, List.append_nil, List.replicate, Option.map_some, Option.map_none, List.mapIdx_cons, List.mapIdx_nil, Nat.sub_self, List.cons_append, List.nil_append, Bool.not_false, Bool.not_true, List.set_cons_zero, List.set_cons_succ, Bool.false_eq_true, if_true, if_false, reduceIte, decide_true, Nat.zero_add, Nat.reduceAdd, Nat.reduceSub, Nat.reduceBEq, beq_self_eq_true, List.nodup_nil, List.length_map, List.map_cons, List.map_nil, eq_self, ite_true, ite_false, FF__law_twins, ev__law_twins, k, kn, kd, f2, l, e]
    have node : ∀ ds : List D, (decide (ds.length ≤ 16777216) && ds.all (nice n)) = true → gLen d = some (.val (.int (ds.length : Nat))) → (∀ a b c e, iZp (aCons (fFz (fV 0)) (aCons (fFz (fV 1)) aNil)) [.val d, .val d, .emp, .emp] = .ok [.val d, .val d, .emp, .emp] (zipD ds ds)) →
        gInS false (.int (kindN d)) (.lst [.int 2, .int 3]) = some (.val (.bl true)) → FF__law_twins (n + 1) [.val d, .val d] = .ret [.val d, .val d] (.val (.bl true)) := fun ds hds hl hz hi => by
      rw [Bool.and_eq_true, List.all_eq_true, decide_eq_true_eq] at hds
      have gl := gEq_int (ds.length : Nat) (ds.length : Nat)
      have dl : decide ((ds.length : Int) = (ds.length : Int)) = true := decide_eq_true rfl
      obtain ⟨ρ', acc, ⟨r, e1, e2, e3, e4⟩, e5⟩ := fLc_by (vs := [2, 3]) (g := tupG 2 (consG (nmG 2) (consG (nmG 3) nilG))) (t := bNot (fTru (fCall 2 (FF__law_twins n) (gVal (fFz (fV 2)) (gVal (fFz (fV 3)) DL.gNil))))) (fe := fFz (fC (.int 1)))
        (hz d d d d) (fun ds acc ρ => ∃ r : List D, ds = r.map (fun d => .tup [d, d]) ∧ acc = [] ∧ ρ = [Sl.val d, Sl.val d, Sl.emp, Sl.emp] ∧ ∀ x ∈ r, nice n x = true) (fun x xs acc ρ ⟨r, e1, e2, e3, e4⟩ => by
          match r, e1 with
          | y :: r, e1 =>
            have e1 : x :: xs = .tup [y, y] :: r.map fun d => .tup [d, d] := e1
            cases e1
            subst e2 e3
            have w := m_twins (e4 y List.mem_cons_self)
            refine ⟨[.val d, .val d, .val y, .val y], [.val d, .val d, .val y, .val y], false, rfl, ?_, .inl ⟨rfl, r, rfl, rfl, rfl, fun z hz => e4 z (List.mem_cons_of_mem _ hz)⟩⟩
            simp only [q_seq, q_nx, q_rt, q_bk, q_exc, q_nil, q_ret, q_kret, q_retN, q_if, q_ift, q_iff, q_expr, q_kexpr, q_sexc, q_set, q_ksetv, q_ksett, q_c, q_v, q_vv, q_vo, q_vi, q_fz, q_kfzv, q_kfzt, q_op, q_op1, q_op2, q_opE, q_lv, q_lt, q_ls, q_slo, q_sli, q_slv, q_fzl, q_oWs, q_un, q_kun, q_unE, q_and, q_or, q_not, q_thenB, q_andt, q_andf, q_ort, q_orf, q_knot, q_fB, q_kB, q_tru, q_ktru, q_truB, q_bnot, q_kbnot, q_band, q_bor, q_bandt, q_bandf, q_bort, q_borf, q_vif, q_vift, q_viff, q_anil, q_acons, q_kcons1, q_kcons2, q_tup, q_lst, q_ktup, q_klst, q_gnil, q_gval, q_kval1, q_kval2, q_gio, q_kio, q_call, q_finv, q_fint, q_finn, q_fine, q_fins, q_kcall, q_held, q_slHo, q_slHi, q_setL, q_slSo, q_slSi, q_setIx, q_kSetIx, q_setIx1, q_kSetIx2, q_setIx2, q_setIx3, q_app, q_app1, q_kApp, q_app2, q_ns, q_knsv, q_knst, q_par, q_kpar1, q_kpvv, q_kpvt, q_kptv, q_kptt, q_put2, q_sl, q_ksl1, q_ksl2, q_ksl3, q_sl4, q_ono, q_osome, q_kO, q_for, q_iseq, q_kseqT, q_kseqL, q_kseqS, q_isIo, q_ioV, q_ioE, q_ioO, q_nmG, q_frzS, q_frzV, q_frzT, q_fzSV, q_fzSO, q_kfzs, q_fzP, q_knss, q_nsP, q_came, q_cameO, q_cameX, q_cameF, q_cameW, q_mask, q_maskV, q_maskO, q_lenT, q_lenL, q_lenS, q_gLt, q_gLe, q_gGt, q_gGe, q_gInt, q_gAdd, q_gSub, q_gNeg, q_rR1, q_rR2, q_rs1, q_rs2, startE, finS, outs, outS, agSls, agSl, ios, callC, resC, isHeld, gIsi, D.seq?, tru, q_bok, q_sok, q_bexc, q_sxc, q_bstk, q_sstk, List.length_cons, List.length_nil, List.getElem?_cons_zero, List.getElem?_cons_succ, List.append_nil, List.replicate, Option.map_some, Option.map_none, List.mapIdx_cons, List.mapIdx_nil, Nat.sub_self, List.cons_append, List.nil_append, Bool.not_false, Bool.not_true, List.set_cons_zero, List.set_cons_succ, Bool.false_eq_true, if_true, if_false, reduceIte, decide_true, Nat.zero_add, Nat.reduceAdd, Nat.reduceSub, Nat.reduceBEq, beq_self_eq_true, List.nodup_nil, List.length_map, List.map_cons, List.map_nil, eq_self, ite_true, ite_false, w]) (by rw [zip_self, List.length_map]; exact hds.1) ⟨ds, zip_self ds, rfl, rfl, hds.2⟩
      subst e2 e3
      have un : unw [Sl.val d, Sl.val d, Sl.emp, Sl.emp] [Sl.val d, Sl.val d, Sl.emp, Sl.emp] [2, 3] = [Sl.val d, Sl.val d, Sl.emp, Sl.emp] := rfl
      have ge : gEq (.lst []) (.lst []) = some (.val (.bl true)) := rfl
      rw [un] at e5
      simp only [q_seq, q_nx, q_rt, q_bk, q_exc, q_nil, q_ret, q_kret, q_retN, q_if, q_ift, q_iff, q_expr, q_kexpr, q_sexc, q_set, q_ksetv, q_ksett, q_c, q_v, q_vv, q_vo, q_vi, q_fz, q_kfzv, q_kfzt, q_op, q_op1, q_op2, q_opE, q_lv, q_lt, q_ls, q_slo, q_sli, q_slv, q_fzl, q_oWs, q_un, q_kun, q_unE, q_and, q_or, q_not, q_thenB, q_andt, q_andf, q_ort, q_orf, q_knot, q_fB, q_kB, q_tru, q_ktru, q_truB, q_bnot, q_kbnot, q_band, q_bor, q_bandt, q_bandf, q_bort, q_borf, q_vif, q_vift, q_viff, q_anil, q_acons, q_kcons1, q_kcons2, q_tup, q_lst, q_ktup, q_klst, q_gnil, q_gval, q_kval1, q_kval2, q_gio, q_kio, q_call, q_finv, q_fint, q_finn, q_fine, q_fins, q_kcall, q_held, q_slHo, q_slHi, q_setL, q_slSo, q_slSi, q_setIx, q_kSetIx, q_setIx1, q_kSetIx2, q_setIx2, q_setIx3, q_app, q_app1, q_kApp, q_app2, q_ns, q_knsv, q_knst, q_par, q_kpar1, q_kpvv, q_kpvt, q_kptv, q_kptt, q_put2, q_sl, q_ksl1, q_ksl2, q_ksl3, q_sl4, q_ono, q_osome, q_kO, q_for, q_iseq, q_kseqT, q_kseqL, q_kseqS, q_isIo, q_ioV, q_ioE, q_ioO, q_nmG, q_frzS, q_frzV, q_frzT, q_fzSV, q_fzSO, q_kfzs, q_fzP, q_knss, q_nsP, q_came, q_cameO, q_cameX, q_cameF, q_cameW, q_mask, q_maskV, q_maskO, q_lenT, q_lenL, q_lenS, q_gLt, q_gLe, q_gGt, q_gGe, q_gInt, q_gAdd, q_gSub, q_gNeg, q_rR1, q_rR2, q_rs1, q_rs2, startE, finS, outs, outS, agSls, agSl, ios, callC, resC, isHeld, gIsi, D.seq?, tru, q_bok, q_sok, q_bexc, q_sxc, q_bstk, q_sstk, List.length_cons, List.length_nil, List.getElem?_cons_zero, List.getElem?_cons_succ, List.append_nil, List.replicate, Option.map_some, Option.map_none, List.mapIdx_cons, List.mapIdx_nil, Nat.sub_self, List.cons_append, List.nil_append, Bool.not_false, Bool.not_true, List.set_cons_zero, List.set_cons_succ, Bool.false_eq_true, if_true, if_false, reduceIte, decide_true, Nat.zero_add, Nat.reduceAdd, Nat.reduceSub, Nat.reduceBEq, beq_self_eq_true, List.nodup_nil, List.length_map, List.map_cons, List.map_nil, eq_self, ite_true, ite_false, FF__law_twins, ev__law_twins, k, kn, kd, f2, f0, hi, gl, dl, e5, hl, ge]
    cases d with
    | tup ds => exact node ds h rfl (fun _ _ _ _ => rfl) rfl
    | lst ds => exact node ds h rfl (fun _ _ _ _ => rfl) rfl
    | non => exact leaf rfl rfl
    | bl b => exact leaf rfl (gEq_self rfl rfl (eqv_bl b))
    | int b =>
      refine leaf rfl (by rw [gEq_int, decide_eq_true rfl])
    | str b => exact leaf rfl (gEq_self rfl h (eqv_str b))
    | _ => cases h
end K01
namespace K01
open PySem PySem.Spec
open PyProof.Rows hiding St
open L2 DL
theorem nodup1 {i : Nat} : ([i] : List Nat).Nodup := List.nodup_cons.mpr ⟨by simp, List.nodup_nil⟩
theorem io0 {as : List Ag} {ss : List Sl} {o : OD} {s : Sl} {r : En} (h : ∀ j, ioFind as ss j = none) : putIo (s :: r) (.io 0 :: as) (.io o :: ss) = s.putC o :: r := by
  unfold putIo
  apply List.ext_getElem?
  intro j
  rw [List.getElem?_mapIdx]
  cases j with
  | zero => rfl
  | succ j =>
    show Option.map (fun s => match (if (0 : Nat) = j + 1 then some o else ioFind as ss (j + 1)) with | some o => s.putC o | none => s) r[j]? = r[j]?
    rw [if_neg (by omega), h]
    cases r[j]? <;> rfl
theorem io_v {d : D} {s : Sl} : ∀ j, ioFind [.val d] [s] j = none := fun _ => rfl
theorem io_vv {d e : D} {s t : Sl} : ∀ j, ioFind [.val d, .val e] [s, t] j = none := fun _ => rfl
def WayOk (mins : List Int) (many : Int) (k : WK) : Prop := k.1 ∈ mins ∧ k.2.length ≤ 2 ∧ (∀ c ∈ k.2, 0 ≤ c ∧ c < many) ∧ k.2 = isort k.2
theorem gIx_ints {ns : List Int} {i : Int} (h0 : 0 ≤ i) (h1 : i < ns.length) : ∃ n ∈ ns, gIx (.lst (ns.map .int)) (.int i) = some (.val (.int n)) := by
  refine ⟨ns[i.toNat], List.getElem_mem _, ?_⟩
  show (L2.atI (ns.map D.int) i).map Wv.val = _
  have e : ixN (ns.map D.int).length i = some i.toNat := by
    unfold ixN
    rw [if_pos h0, if_pos (by rw [List.length_map]; omega)]
  unfold L2.atI
  rw [e]
  show ((ns.map D.int)[i.toNat]?).map Wv.val = _
  rw [List.getElem?_map, List.getElem?_eq_getElem (by omega)]; rfl
theorem isort_idem (l : List Int) : isort (isort l) = isort l := sorted_uniq (isort_sorted _) (isort_sorted _) (isort_perm _)
theorem m_way (a b many : Int) (mins : List Int) (hs : SprOk a b) (h1 : 1 ≤ many) (h3 : many ≤ 3) (hm : mins ≠ []) (hm2 : mins.length ≤ 100) : ∃ a' b' k, SprOk a' b' ∧ WayOk mins many k ∧
    FF__law_way [.io (spr a b), .val (.int many), .val (.lst (mins.map .int))] = .ret [.io (spr a' b'), .val (.int many), .val (.lst (mins.map .int))] (.val (wayD k)) := by
  obtain ⟨a1, b1, d1, s1, p1, p2, e1⟩ := m_pick a b 5 hs (by omega) (by decide)
  obtain ⟨r, hr, er⟩ : ∃ r ∈ ([0, 0, 1, 1, 2] : List Int), gIx (.lst [.int 0, .int 0, .int 1, .int 1, .int 2]) (.int d1) = some (.val (.int r)) := gIx_ints (ns := [0, 0, 1, 1, 2]) p1 p2
  have r0 : 0 ≤ r ∧ r ≤ 2 := by
    simp only [List.mem_cons, List.not_mem_nil, or_false] at hr
    omega
  have f5 : fits 5 = true := by decide
  have ir : ∀ ρ : En, rOk ρ r = .ok ρ (rng 0 (r).toNat) := fun ρ => rOk_int (by omega) (by omega)
  have hfi : iR1 (aCons (fFz (fOp gIx (fLst (aCons (fFz (fC (.int 0))) (aCons (fFz (fC (.int 0))) (aCons (fFz (fC (.int 1))) (aCons (fFz (fC (.int 1))) (aCons (fFz (fC (.int 2))) aNil)))))) (fCall 2 FF__law_pick (gIo 0 (gVal (fFz (fC (.int 5))) DL.gNil))))) aNil) [Sl.io (spr a b), .val (.int many), .val (.lst (mins.map .int)), .emp, .emp] = .ok [Sl.io (spr a1 b1), .val (.int many), .val (.lst (mins.map .int)), .emp, .emp] (rng 0 r.toNat) := by
    simp only [q_seq, q_nx, q_rt, q_bk, q_exc, q_nil, q_ret, q_kret, q_retN, q_if, q_ift, q_iff, q_expr, q_kexpr, q_sexc, q_set, q_ksetv, q_ksett, q_c, q_v, q_vv, q_vo, q_vi, q_fz, q_kfzv, q_kfzt, q_op, q_op1, q_op2, q_opE, q_lv, q_lt, q_ls, q_slo, q_sli, q_slv, q_fzl, q_oWs, q_un, q_kun, q_unE, q_and, q_or, q_not, q_thenB, q_andt, q_andf, q_ort, q_orf, q_knot, q_fB, q_kB, q_tru, q_ktru, q_truB, q_bnot, q_kbnot, q_band, q_bor, q_bandt, q_bandf, q_bort, q_borf, q_vif, q_vift, q_viff, q_anil, q_acons, q_kcons1, q_kcons2, q_tup, q_lst, q_ktup, q_klst, q_gnil, q_gval, q_kval1, q_kval2, q_gio, q_kio, q_call, q_finv, q_fint, q_finn, q_fine, q_fins, q_kcall, q_held, q_slHo, q_slHi, q_setL, q_slSo, q_slSi, q_setIx, q_kSetIx, q_setIx1, q_kSetIx2, q_setIx2, q_setIx3, q_app, q_app1, q_kApp, q_app2, q_ns, q_knsv, q_knst, q_par, q_kpar1, q_kpvv, q_kpvt, q_kptv, q_kptt, q_put2, q_sl, q_ksl1, q_ksl2, q_ksl3, q_sl4, q_ono, q_osome, q_kO, q_for, q_iseq, q_kseqT, q_kseqL, q_kseqS, q_isIo, q_ioV, q_ioE, q_ioO, q_nmG, q_frzS, q_frzV, q_frzT, q_fzSV, q_fzSO, q_kfzs, q_fzP, q_knss, q_nsP, q_came, q_cameO, q_cameX, q_cameF, q_cameW, q_mask, q_maskV, q_maskO, q_lenT, q_lenL, q_lenS, q_gLt, q_gLe, q_gGt, q_gGe, q_gInt, q_gAdd, q_gSub, q_gNeg, q_rR1, q_rR2, q_rs1, q_rs2, startE, finS, outs, outS, agSls, agSl, ios, callC, resC, isHeld, gIsi, D.seq?, tru, q_bok, q_sok, q_bexc, q_sxc, q_bstk, q_sstk, List.length_cons, List.length_nil, List.getElem?_cons_zero, List.getElem?_cons_succ, List.append_nil, List.replicate, Option.map_some, Option.map_none, List.mapIdx_cons, List.mapIdx_nil, Nat.sub_self, List.cons_append, List.nil_append, Bool.not_false, Bool.not_true, List.set_cons_zero, List.set_cons_succ, Bool.false_eq_true, if_true, if_false, reduceIte, decide_true, Nat.zero_add, Nat.reduceAdd, Nat.reduceSub, Nat.reduceBEq, beq_self_eq_true, List.nodup_nil, List.length_map, List.map_cons, List.map_nil, eq_self, ite_true, ite_false, e1, f5, nodup1, io0 io_v, Sl.putC, er, ir]
  obtain ⟨ρ', acc, ⟨a2, b2, cs, s2, rfl, rfl, hc, hl⟩, e2⟩ := fLc_by (vs := [4]) (g := nmG 4) (t := bYes) (fe := fFz (fCall 2 FF__law_pick (gIo 0 (gVal (fFz (fV 1)) DL.gNil)))) hfi
    (fun ds acc ρ => ∃ (a b : Int) (cs : List Int), SprOk a b ∧ ρ = [Sl.io (spr a b), .val (.int many), .val (.lst (mins.map .int)), .emp, .emp] ∧ acc = cs.map .int ∧ (∀ c ∈ cs, 0 ≤ c ∧ c < many) ∧ cs.length + ds.length = r.toNat)
    (fun d ds acc ρ ⟨a, b, cs, h1', h2, h3', h4, h5⟩ => by
      subst h2 h3'
      obtain ⟨a', b', c, s', q1, q2, e'⟩ := m_pick a b many h1' (by omega) (by omega)
      refine ⟨[Sl.io (spr a b), .val (.int many), .val (.lst (mins.map .int)), .emp, .val d], _, true, rfl, rfl, .inr ⟨rfl, [Sl.io (spr a' b'), .val (.int many), .val (.lst (mins.map .int)), .emp, .val d], .int c, ?_, a', b', cs ++ [c], s', rfl, by simp, fun x hx => ?_, by simp at h5 ⊢; omega⟩⟩
      · simp only [q_seq, q_nx, q_rt, q_bk, q_exc, q_nil, q_ret, q_kret, q_retN, q_if, q_ift, q_iff, q_expr, q_kexpr, q_sexc, q_set, q_ksetv, q_ksett, q_c, q_v, q_vv, q_vo, q_vi, q_fz, q_kfzv, q_kfzt, q_op, q_op1, q_op2, q_opE, q_lv, q_lt, q_ls, q_slo, q_sli, q_slv, q_fzl, q_oWs, q_un, q_kun, q_unE, q_and, q_or, q_not, q_thenB, q_andt, q_andf, q_ort, q_orf, q_knot, q_fB, q_kB, q_tru, q_ktru, q_truB, q_bnot, q_kbnot, q_band, q_bor, q_bandt, q_bandf, q_bort, q_borf, q_vif, q_vift, q_viff, q_anil, q_acons, q_kcons1, q_kcons2, q_tup, q_lst, q_ktup, q_klst, q_gnil, q_gval, q_kval1, q_kval2, q_gio, q_kio, q_call, q_finv, q_fint, q_finn, q_fine, q_fins, q_kcall, q_held, q_slHo, q_slHi, q_setL, q_slSo, q_slSi, q_setIx, q_kSetIx, q_setIx1, q_kSetIx2, q_setIx2, q_setIx3, q_app, q_app1, q_kApp, q_app2, q_ns, q_knsv, q_knst, q_par, q_kpar1, q_kpvv, q_kpvt, q_kptv, q_kptt, q_put2, q_sl, q_ksl1, q_ksl2, q_ksl3, q_sl4, q_ono, q_osome, q_kO, q_for, q_iseq, q_kseqT, q_kseqL, q_kseqS, q_isIo, q_ioV, q_ioE, q_ioO, q_nmG, q_frzS, q_frzV, q_frzT, q_fzSV, q_fzSO, q_kfzs, q_fzP, q_knss, q_nsP, q_came, q_cameO, q_cameX, q_cameF, q_cameW, q_mask, q_maskV, q_maskO, q_lenT, q_lenL, q_lenS, q_gLt, q_gLe, q_gGt, q_gGe, q_gInt, q_gAdd, q_gSub, q_gNeg, q_rR1, q_rR2, q_rs1, q_rs2, startE, finS, outs, outS, agSls, agSl, ios, callC, resC, isHeld, gIsi, D.seq?, tru, q_bok, q_sok, q_bexc, q_sxc, q_bstk, q_sstk, List.length_cons, List.length_nil, List.getElem?_cons_zero, List.getElem?_cons_succ, List.append_nil, List.replicate, Option.map_some, Option.map_none, List.mapIdx_cons, List.mapIdx_nil, Nat.sub_self, List.cons_append, List.nil_append, Bool.not_false, Bool.not_true, List.set_cons_zero, List.set_cons_succ, Bool.false_eq_true, if_true, if_false, reduceIte, decide_true, Nat.zero_add, Nat.reduceAdd, Nat.reduceSub, Nat.reduceBEq, beq_self_eq_true, List.nodup_nil, List.length_map, List.map_cons, List.map_nil, eq_self, ite_true, ite_false, e', nodup1, io0 io_v, Sl.putC]
      · rcases List.mem_append.mp hx with z | z
        · exact h4 x z
        · rw [List.mem_singleton.mp z]; exact ⟨q1, q2⟩)
    (by unfold rng; rw [List.length_map, List.length_range]; omega) ⟨a1, b1, [], s1, rfl, rfl, fun c hc => (by cases hc), by unfold rng; rw [List.length_map, List.length_range]; simp⟩
  have un : unw [Sl.io (spr a1 b1), .val (.int many), .val (.lst (mins.map .int)), .emp, .emp] [Sl.io (spr a2 b2), .val (.int many), .val (.lst (mins.map .int)), .emp, .emp] [4] = [Sl.io (spr a2 b2), .val (.int many), .val (.lst (mins.map .int)), .emp, .emp] := rfl
  rw [un] at e2
  have ml : 0 < mins.length := List.length_pos_iff.mpr hm
  obtain ⟨a3, b3, d3, s3, p3, p4, e3⟩ := m_pick a2 b2 mins.length s2 (by omega) (by omega)
  obtain ⟨m, hm', em⟩ := gIx_ints (ns := mins) p3 p4
  have gs : gSorted (.lst (cs.map D.int)) = some (.tmp (.lst ((isort cs).map D.int))) := by
    show (intsO (cs.map D.int)).map _ = _
    rw [DL.intsO_map]; rfl
  have gt : gTuple (.lst ((isort cs).map D.int)) = some (.val (.tup ((isort cs).map D.int))) := rfl
  have f2 : fits 2 = true := by decide
  have lc : (isort cs).length = cs.length := (isort_perm cs).length_eq
  refine ⟨a3, b3, (m, isort cs), s3, ⟨hm', by simp at hl; rw [lc]; omega, fun c h => hc c ((isort_perm cs).mem_iff.mp h), (isort_idem cs).symm⟩, ?_⟩
  simp only [q_seq, q_nx, q_rt, q_bk, q_exc, q_nil, q_ret, q_kret, q_retN, q_if, q_ift, q_iff, q_expr, q_kexpr, q_sexc, q_set, q_ksetv, q_ksett, q_c, q_v, q_vv, q_vo, q_vi, q_fz, q_kfzv, q_kfzt, q_op, q_op1, q_op2, q_opE, q_lv, q_lt, q_ls, q_slo, q_sli, q_slv, q_fzl, q_oWs, q_un, q_kun, q_unE, q_and, q_or, q_not, q_thenB, q_andt, q_andf, q_ort, q_orf, q_knot, q_fB, q_kB, q_tru, q_ktru, q_truB, q_bnot, q_kbnot, q_band, q_bor, q_bandt, q_bandf, q_bort, q_borf, q_vif, q_vift, q_viff, q_anil, q_acons, q_kcons1, q_kcons2, q_tup, q_lst, q_ktup, q_klst, q_gnil, q_gval, q_kval1, q_kval2, q_gio, q_kio, q_call, q_finv, q_fint, q_finn, q_fine, q_fins, q_kcall, q_held, q_slHo, q_slHi, q_setL, q_slSo, q_slSi, q_setIx, q_kSetIx, q_setIx1, q_kSetIx2, q_setIx2, q_setIx3, q_app, q_app1, q_kApp, q_app2, q_ns, q_knsv, q_knst, q_par, q_kpar1, q_kpvv, q_kpvt, q_kptv, q_kptt, q_put2, q_sl, q_ksl1, q_ksl2, q_ksl3, q_sl4, q_ono, q_osome, q_kO, q_for, q_iseq, q_kseqT, q_kseqL, q_kseqS, q_isIo, q_ioV, q_ioE, q_ioO, q_nmG, q_frzS, q_frzV, q_frzT, q_fzSV, q_fzSO, q_kfzs, q_fzP, q_knss, q_nsP, q_came, q_cameO, q_cameX, q_cameF, q_cameW, q_mask, q_maskV, q_maskO, q_lenT, q_lenL, q_lenS, q_gLt, q_gLe, q_gGt, q_gGe, q_gInt, q_gAdd, q_gSub, q_gNeg, q_rR1, q_rR2, q_rs1, q_rs2, startE, finS, outs, outS, agSls, agSl, ios, callC, resC, isHeld, gIsi, D.seq?, tru, q_bok, q_sok, q_bexc, q_sxc, q_bstk, q_sstk, List.length_cons, List.length_nil, List.getElem?_cons_zero, List.getElem?_cons_succ, List.append_nil, List.replicate, Option.map_some, Option.map_none, List.mapIdx_cons, List.mapIdx_nil, Nat.sub_self, List.cons_append, List.nil_append, Bool.not_false, Bool.not_true, List.set_cons_zero, List.set_cons_succ, Bool.false_eq_true, if_true, if_false, reduceIte, decide_true, Nat.zero_add, Nat.reduceAdd, Nat.reduceSub, Nat.reduceBEq, beq_self_eq_true, List.nodup_nil, List.length_map, List.map_cons, List.map_nil, eq_self, ite_true, ite_false, FF__law_way, ev__law_way, e2, e3, em, gs, gt, f2, nodup1, io0 io_v, Sl.putC]
  rfl
end K01
namespace K01
open PySem PySem.Spec
open PyProof.Rows hiding St
open L2 DL
theorem gAdd_tup {xs ys : List D} (h : xs.length + ys.length ≤ 999) : gAdd (.tup xs) (.tup ys) = some (.val (.tup (xs ++ ys))) := if_pos (decide_eq_true (by omega))
theorem gEq_nil (r : List WK) : gEq (recD r) (.tup []) = some (.val (.bl (decide (r = [])))) := by
  unfold gEq gEqv
  rw [recD_py]
  have s : SeqAt.shaped (.tuple (r.map wayP)) = true := ways_sh r
  show (if SeqAt.shaped (.tuple (r.map wayP)) && SeqAt.shaped (.tuple []) then some (Wv.val (D.bl (id (PyData.eqv (.tuple (r.map wayP)) (.tuple []))))) else none) = _
  rw [s]
  show some (Wv.val (D.bl (PyData.eqv (.tuple (r.map wayP)) (.tuple [])))) = _
  cases r <;> simp [PyData.eqv, PyData.eqvAll]
def MINS : List (List Int) := [[0, 1, 2, 3], [2, 4, 6], [0, 3, 5, 9], [1, 4, 7, 8]]
def RecOk (mins : List Int) (many : Int) (r : List WK) : Prop := 1 ≤ r.length ∧ r.length ≤ 3 ∧ r.Nodup ∧ ∀ k ∈ r, WayOk mins many k
def BookOk (mins : List Int) (B : List (List WK)) : Prop := mins ∈ MINS ∧ 1 ≤ B.length ∧ B.length ≤ 3 ∧ ∀ r ∈ B, RecOk mins B.length r
theorem mins_len {mins : List Int} (h : mins ∈ MINS) : mins ≠ [] ∧ mins.length ≤ 4 := by
  simp only [MINS, List.mem_cons, List.not_mem_nil, or_false] at h
  rcases h with h | h | h | h <;> subst h <;> exact ⟨by simp, by decide⟩
abbrev bkE (a b most many : Int) (B : List (List WK)) (mins : List Int) (s5 s6 s7 s8 : Sl) : En := [.io (spr a b), .val (.int most), .val (.int many), .val (bookD B), .val (.lst (mins.map .int)), s5, s6, s7, s8]
theorem bk_turn {a b most many : Int} {B : List (List WK)} {mins : List Int} {s5 s7 s8 : Sl} {r : List WK} (t : D) (hs : SprOk a b) (h1 : 1 ≤ many) (h3 : many ≤ 3) (hm : mins ≠ []) (hm2 : mins.length ≤ 100) (hl : r.length ≤ 9) (f7 : s7.fr) (f8 : s8.fr) (hk : ∀ k ∈ r, WayOk mins many k) (hn : r.Nodup) :
    ∃ a' b' k r', SprOk a' b' ∧ (∀ k ∈ r', WayOk mins many k) ∧ r'.Nodup ∧ r'.length ≤ r.length + 1 ∧ 1 ≤ r'.length ∧ nmG 7 t (bkE a b most many B mins s5 (.val (recD r)) s7 s8) = some (bkE a b most many B mins s5 (.val (recD r)) (.val t) s8) ∧
    (sSeq (sSet 8 (fCall 3 FF__law_way (gIo 0 (gVal (fFz (fV 2)) (gVal (fFz (fV 4)) DL.gNil))))) (sSeq (sSet 6 (fOp gAdd (fV 6) (vIf (fB (fOp (gInS true) (fV 8) (fV 6))) (fTup (aCons (fFz (fV 8)) aNil)) (fTup aNil)))) sNil)) (bkE a b most many B mins s5 (.val (recD r)) (.val t) s8) = .nx (bkE a' b' most many B mins s5 (.val (recD r')) (.val t) (.val (wayD k))) := by
  obtain ⟨a', b', k, s', kw, e⟩ := m_way a b many mins hs h1 h3 hm hm2
  have f7 : ioO (some s7) = false := f7
  have f8 : ioO (some s8) = false := f8
  have f1 : fits 1 = true := by decide
  have f0 : fits 0 = true := by decide
  have gi := gIn_way true k r
  simp only [if_true] at gi
  by_cases hin : k ∈ r
  · refine ⟨a', b', k, r, s', hk, hn, by omega, List.length_pos_of_mem hin, ?_, ?_⟩
    · simp only [q_seq, q_nx, q_rt, q_bk, q_exc, q_nil, q_ret, q_kret, q_retN, q_if, q_ift, q_iff, q_expr, q_kexpr, q_sexc, q_set, q_ksetv, q_ksett, q_c, q_v, q_vv, q_vo, q_vi, q_fz, q_kfzv, q_kfzt, q_op, q_op1, q_op2, q_opE, q_lv, q_lt, q_ls, q_slo, q_sli, q_slv, q_fzl, q_oWs, q_un, q_kun, q_unE, q_and, q_or, q_not, q_thenB, q_andt, q_andf, q_ort, q_orf, q_knot, q_fB, q_kB, q_tru, q_ktru, q_truB, q_bnot, q_kbnot, q_band, q_bor, q_bandt, q_bandf, q_bort, q_borf, q_vif, q_vift, q_viff, q_anil, q_acons, q_kcons1, q_kcons2, q_tup, q_lst, q_ktup, q_klst, q_gnil, q_gval, q_kval1, q_kval2, q_gio, q_kio, q_call, q_finv, q_fint, q_finn, q_fine, q_fins, q_kcall, q_held, q_slHo, q_slHi, q_setL, q_slSo, q_slSi, q_setIx, q_kSetIx, q_setIx1, q_kSetIx2, q_setIx2, q_setIx3, q_app, q_app1, q_kApp, q_app2, q_ns, q_knsv, q_knst, q_par, q_kpar1, q_kpvv, q_kpvt, q_kptv, q_kptt, q_put2, q_sl, q_ksl1, q_ksl2, q_ksl3, q_sl4, q_ono, q_osome, q_kO, q_for, q_iseq, q_kseqT, q_kseqL, q_kseqS, q_isIo, q_ioV, q_ioE, q_ioO, q_nmG, q_frzS, q_frzV, q_frzT, q_fzSV, q_fzSO, q_kfzs, q_fzP, q_knss, q_nsP, q_came, q_cameO, q_cameX, q_cameF, q_cameW, q_mask, q_maskV, q_maskO, q_lenT, q_lenL, q_lenS, q_gLt, q_gLe, q_gGt, q_gGe, q_gInt, q_gAdd, q_gSub, q_gNeg, q_rR1, q_rR2, q_rs1, q_rs2, startE, finS, outs, outS, agSls, agSl, ios, callC, resC, isHeld, gIsi, D.seq?, tru, q_bok, q_sok, q_bexc, q_sxc, q_bstk, q_sstk, List.length_cons, List.length_nil, List.getElem?_cons_zero, List.getElem?_cons_succ, List.append_nil, List.replicate, Option.map_some, Option.map_none, List.mapIdx_cons, List.mapIdx_nil, Nat.sub_self, List.cons_append, List.nil_append, Bool.not_false, Bool.not_true, List.set_cons_zero, List.set_cons_succ, Bool.false_eq_true, if_true, if_false, reduceIte, decide_true, Nat.zero_add, Nat.reduceAdd, Nat.reduceSub, Nat.reduceBEq, beq_self_eq_true, List.nodup_nil, List.length_map, List.map_cons, List.map_nil, eq_self, ite_true, ite_false, f7]
    · have dk : decide (k ∈ r) = true := decide_eq_true hin
      have ga : gAdd (recD r) (.tup []) = some (.val (recD r)) := by
        show gAdd (.tup (r.map wayD)) (.tup []) = _
        rw [gAdd_tup (by simp; omega), List.append_nil]; rfl
      simp only [q_seq, q_nx, q_rt, q_bk, q_exc, q_nil, q_ret, q_kret, q_retN, q_if, q_ift, q_iff, q_expr, q_kexpr, q_sexc, q_set, q_ksetv, q_ksett, q_c, q_v, q_vv, q_vo, q_vi, q_fz, q_kfzv, q_kfzt, q_op, q_op1, q_op2, q_opE, q_lv, q_lt, q_ls, q_slo, q_sli, q_slv, q_fzl, q_oWs, q_un, q_kun, q_unE, q_and, q_or, q_not, q_thenB, q_andt, q_andf, q_ort, q_orf, q_knot, q_fB, q_kB, q_tru, q_ktru, q_truB, q_bnot, q_kbnot, q_band, q_bor, q_bandt, q_bandf, q_bort, q_borf, q_vif, q_vift, q_viff, q_anil, q_acons, q_kcons1, q_kcons2, q_tup, q_lst, q_ktup, q_klst, q_gnil, q_gval, q_kval1, q_kval2, q_gio, q_kio, q_call, q_finv, q_fint, q_finn, q_fine, q_fins, q_kcall, q_held, q_slHo, q_slHi, q_setL, q_slSo, q_slSi, q_setIx, q_kSetIx, q_setIx1, q_kSetIx2, q_setIx2, q_setIx3, q_app, q_app1, q_kApp, q_app2, q_ns, q_knsv, q_knst, q_par, q_kpar1, q_kpvv, q_kpvt, q_kptv, q_kptt, q_put2, q_sl, q_ksl1, q_ksl2, q_ksl3, q_sl4, q_ono, q_osome, q_kO, q_for, q_iseq, q_kseqT, q_kseqL, q_kseqS, q_isIo, q_ioV, q_ioE, q_ioO, q_nmG, q_frzS, q_frzV, q_frzT, q_fzSV, q_fzSO, q_kfzs, q_fzP, q_knss, q_nsP, q_came, q_cameO, q_cameX, q_cameF, q_cameW, q_mask, q_maskV, q_maskO, q_lenT, q_lenL, q_lenS, q_gLt, q_gLe, q_gGt, q_gGe, q_gInt, q_gAdd, q_gSub, q_gNeg, q_rR1, q_rR2, q_rs1, q_rs2, startE, finS, outs, outS, agSls, agSl, ios, callC, resC, isHeld, gIsi, D.seq?, tru, q_bok, q_sok, q_bexc, q_sxc, q_bstk, q_sstk, List.length_cons, List.length_nil, List.getElem?_cons_zero, List.getElem?_cons_succ, List.append_nil, List.replicate, Option.map_some, Option.map_none, List.mapIdx_cons, List.mapIdx_nil, Nat.sub_self, List.cons_append, List.nil_append, Bool.not_false, Bool.not_true, List.set_cons_zero, List.set_cons_succ, Bool.false_eq_true, if_true, if_false, reduceIte, decide_true, Nat.zero_add, Nat.reduceAdd, Nat.reduceSub, Nat.reduceBEq, beq_self_eq_true, List.nodup_nil, List.length_map, List.map_cons, List.map_nil, eq_self, ite_true, ite_false, e, f8, f0, f1, gi, dk, ga, nodup1, io0 io_vv, Sl.putC]
  · refine ⟨a', b', k, r ++ [k], s', fun l hl => ?_, ?_, by simp, by simp, ?_, ?_⟩
    · rcases List.mem_append.mp hl with z | z
      · exact hk l z
      · rw [List.mem_singleton.mp z]; exact kw
    · refine List.nodup_append.mpr ⟨hn, List.nodup_cons.mpr ⟨by simp, List.nodup_nil⟩, fun x hx y hy => ?_⟩
      rw [List.mem_singleton.mp hy]
      exact fun z => hin (z ▸ hx)
    · simp only [q_seq, q_nx, q_rt, q_bk, q_exc, q_nil, q_ret, q_kret, q_retN, q_if, q_ift, q_iff, q_expr, q_kexpr, q_sexc, q_set, q_ksetv, q_ksett, q_c, q_v, q_vv, q_vo, q_vi, q_fz, q_kfzv, q_kfzt, q_op, q_op1, q_op2, q_opE, q_lv, q_lt, q_ls, q_slo, q_sli, q_slv, q_fzl, q_oWs, q_un, q_kun, q_unE, q_and, q_or, q_not, q_thenB, q_andt, q_andf, q_ort, q_orf, q_knot, q_fB, q_kB, q_tru, q_ktru, q_truB, q_bnot, q_kbnot, q_band, q_bor, q_bandt, q_bandf, q_bort, q_borf, q_vif, q_vift, q_viff, q_anil, q_acons, q_kcons1, q_kcons2, q_tup, q_lst, q_ktup, q_klst, q_gnil, q_gval, q_kval1, q_kval2, q_gio, q_kio, q_call, q_finv, q_fint, q_finn, q_fine, q_fins, q_kcall, q_held, q_slHo, q_slHi, q_setL, q_slSo, q_slSi, q_setIx, q_kSetIx, q_setIx1, q_kSetIx2, q_setIx2, q_setIx3, q_app, q_app1, q_kApp, q_app2, q_ns, q_knsv, q_knst, q_par, q_kpar1, q_kpvv, q_kpvt, q_kptv, q_kptt, q_put2, q_sl, q_ksl1, q_ksl2, q_ksl3, q_sl4, q_ono, q_osome, q_kO, q_for, q_iseq, q_kseqT, q_kseqL, q_kseqS, q_isIo, q_ioV, q_ioE, q_ioO, q_nmG, q_frzS, q_frzV, q_frzT, q_fzSV, q_fzSO, q_kfzs, q_fzP, q_knss, q_nsP, q_came, q_cameO, q_cameX, q_cameF, q_cameW, q_mask, q_maskV, q_maskO, q_lenT, q_lenL, q_lenS, q_gLt, q_gLe, q_gGt, q_gGe, q_gInt, q_gAdd, q_gSub, q_gNeg, q_rR1, q_rR2, q_rs1, q_rs2, startE, finS, outs, outS, agSls, agSl, ios, callC, resC, isHeld, gIsi, D.seq?, tru, q_bok, q_sok, q_bexc, q_sxc, q_bstk, q_sstk, List.length_cons, List.length_nil, List.getElem?_cons_zero, List.getElem?_cons_succ, List.append_nil, List.replicate, Option.map_some, Option.map_none, List.mapIdx_cons, List.mapIdx_nil, Nat.sub_self, List.cons_append, List.nil_append, Bool.not_false, Bool.not_true, List.set_cons_zero, List.set_cons_succ, Bool.false_eq_true, if_true, if_false, reduceIte, decide_true, Nat.zero_add, Nat.reduceAdd, Nat.reduceSub, Nat.reduceBEq, beq_self_eq_true, List.nodup_nil, List.length_map, List.map_cons, List.map_nil, eq_self, ite_true, ite_false, f7]
    · have dk : decide (k ∈ r) = false := decide_eq_false hin
      have ga : gAdd (recD r) (.tup [wayD k]) = some (.val (recD (r ++ [k]))) := by
        show gAdd (.tup (r.map wayD)) (.tup [wayD k]) = _
        rw [gAdd_tup (by simp; omega)]
        show some (Wv.val (D.tup _)) = some (Wv.val (D.tup _))
        rw [List.map_append]; rfl
      simp only [q_seq, q_nx, q_rt, q_bk, q_exc, q_nil, q_ret, q_kret, q_retN, q_if, q_ift, q_iff, q_expr, q_kexpr, q_sexc, q_set, q_ksetv, q_ksett, q_c, q_v, q_vv, q_vo, q_vi, q_fz, q_kfzv, q_kfzt, q_op, q_op1, q_op2, q_opE, q_lv, q_lt, q_ls, q_slo, q_sli, q_slv, q_fzl, q_oWs, q_un, q_kun, q_unE, q_and, q_or, q_not, q_thenB, q_andt, q_andf, q_ort, q_orf, q_knot, q_fB, q_kB, q_tru, q_ktru, q_truB, q_bnot, q_kbnot, q_band, q_bor, q_bandt, q_bandf, q_bort, q_borf, q_vif, q_vift, q_viff, q_anil, q_acons, q_kcons1, q_kcons2, q_tup, q_lst, q_ktup, q_klst, q_gnil, q_gval, q_kval1, q_kval2, q_gio, q_kio, q_call, q_finv, q_fint, q_finn, q_fine, q_fins, q_kcall, q_held, q_slHo, q_slHi, q_setL, q_slSo, q_slSi, q_setIx, q_kSetIx, q_setIx1, q_kSetIx2, q_setIx2, q_setIx3, q_app, q_app1, q_kApp, q_app2, q_ns, q_knsv, q_knst, q_par, q_kpar1, q_kpvv, q_kpvt, q_kptv, q_kptt, q_put2, q_sl, q_ksl1, q_ksl2, q_ksl3, q_sl4, q_ono, q_osome, q_kO, q_for, q_iseq, q_kseqT, q_kseqL, q_kseqS, q_isIo, q_ioV, q_ioE, q_ioO, q_nmG, q_frzS, q_frzV, q_frzT, q_fzSV, q_fzSO, q_kfzs, q_fzP, q_knss, q_nsP, q_came, q_cameO, q_cameX, q_cameF, q_cameW, q_mask, q_maskV, q_maskO, q_lenT, q_lenL, q_lenS, q_gLt, q_gLe, q_gGt, q_gGe, q_gInt, q_gAdd, q_gSub, q_gNeg, q_rR1, q_rR2, q_rs1, q_rs2, startE, finS, outs, outS, agSls, agSl, ios, callC, resC, isHeld, gIsi, D.seq?, tru, q_bok, q_sok, q_bexc, q_sxc, q_bstk, q_sstk, List.length_cons, List.length_nil, List.getElem?_cons_zero, List.getElem?_cons_succ, List.append_nil, List.replicate, Option.map_some, Option.map_none, List.mapIdx_cons, List.mapIdx_nil, Nat.sub_self, List.cons_append, List.nil_append, Bool.not_false, Bool.not_true, List.set_cons_zero, List.set_cons_succ, Bool.false_eq_true, if_true, if_false, reduceIte, decide_true, Nat.zero_add, Nat.reduceAdd, Nat.reduceSub, Nat.reduceBEq, beq_self_eq_true, List.nodup_nil, List.length_map, List.map_cons, List.map_nil, eq_self, ite_true, ite_false, e, f8, f0, f1, gi, dk, ga, nodup1, io0 io_vv, Sl.putC]
end K01
namespace K01
open PySem PySem.Spec
open PyProof.Rows hiding St
open L2 DL
theorem fr_v {d : D} : (Sl.val d).fr := rfl
theorem fr_e : Sl.emp.fr := rfl
theorem bk_inner {a b most many : Int} {B : List (List WK)} {mins : List Int} {s5 s7 s8 : Sl} {r : List WK} (hs : SprOk a b) (h1 : 1 ≤ many) (h3 : many ≤ 3) (hm : mins ≠ []) (hm2 : mins.length ≤ 100) (f7 : s7.fr) (f8 : s8.fr) (hk : ∀ k ∈ r, WayOk mins many k) (hn : r.Nodup) (ds : List D) (hl : r.length + ds.length ≤ 3) (hp : 1 ≤ r.length + ds.length) :
    ∃ ρ', forL (nmG 7) (sSeq (sSet 8 (fCall 3 FF__law_way (gIo 0 (gVal (fFz (fV 2)) (gVal (fFz (fV 4)) DL.gNil))))) (sSeq (sSet 6 (fOp gAdd (fV 6) (vIf (fB (fOp (gInS true) (fV 8) (fV 6))) (fTup (aCons (fFz (fV 8)) aNil)) (fTup aNil)))) sNil)) ds (bkE a b most many B mins s5 (.val (recD r)) s7 s8) = .nx ρ' ∧
      ∃ a' b' r' s7' s8', SprOk a' b' ∧ s7'.fr ∧ s8'.fr ∧ RecOk mins many r' ∧ ρ' = bkE a' b' most many B mins s5 (.val (recD r')) s7' s8' := by
  obtain ⟨ρ', e, a', b', r', s7', s8', q1, q2, q3, q4, q5, q6, q7, q8⟩ := forL_nx (fun ds ρ => ∃ a' b' r' s7' s8', SprOk a' b' ∧ Sl.fr s7' ∧ Sl.fr s8' ∧ (∀ k ∈ r', WayOk mins many k) ∧ r'.Nodup ∧ r'.length + ds.length ≤ 3 ∧ 1 ≤ r'.length + ds.length ∧ ρ = bkE a' b' most many B mins s5 (.val (recD r')) s7' s8') (fun d ds ρ ⟨a', b', r', s7', s8', q1, q2, q3, q4, q5, q6, q7, q8⟩ => by
    subst q8
    simp only [List.length_cons] at q6 q7
    obtain ⟨a2, b2, k, r2, c1, c2, c3, c4, c5, c6, c7⟩ := bk_turn (most := most) (B := B) (s5 := s5) d q1 h1 h3 hm hm2 (by omega) q2 q3 q4 q5
    exact ⟨_, _, c6, c7, a2, b2, r2, _, _, c1, fr_v, fr_v, c2, c3, by omega, by omega, rfl⟩) ds _ ⟨a, b, r, s7, s8, hs, f7, f8, hk, hn, hl, hp, rfl⟩
  exact ⟨ρ', e, a', b', r', s7', s8', q1, q2, q3, ⟨by simpa using q7, by simpa using q6, q5, q4⟩, q8⟩
theorem rng_len (lo : Int) (n : Nat) : (rng lo n).length = n := by unfold rng; rw [List.length_map, List.length_range]
theorem bk_outer {a b most many : Int} {B : List (List WK)} {mins : List Int} {s5 s6 s7 s8 : Sl} (t : D) (hs : SprOk a b) (h1 : 1 ≤ many) (h3 : many ≤ 3) (hm : mins ≠ []) (hm2 : mins.length ≤ 100) (f5 : s5.fr) (f6 : s6.fr) (f7 : s7.fr) (f8 : s8.fr) (hB : B.length ≤ 9) :
    ∃ ρ1 ρ', nmG 5 t (bkE a b most many B mins s5 s6 s7 s8) = some ρ1 ∧
    (sSeq (sSet 6 (fTup aNil)) (sSeq (sIf (fB (fOp gGt (fCall 2 FF__law_pick (gIo 0 (gVal (fFz (fC (.int 4))) DL.gNil))) (fC (.int 0)))) (sSeq (sSet 6 (fTup (aCons (fFz (fTup (aCons (fFz (fOp gIx (fV 4) (fCall 2 FF__law_pick (gIo 0 (gVal (fFz (fUn gLen (fV 4))) DL.gNil))))) (aCons (fFz (fTup aNil)) aNil)))) aNil))) sNil) sNil) (sSeq (sFor (iR1 (aCons (fFz (fOp gAdd (fCall 2 FF__law_pick (gIo 0 (gVal (fFz (fC (.int 3))) DL.gNil))) (fUn gInt (fOp gEq (fV 6) (fTup aNil))))) aNil)) (nmG 7) (sSeq (sSet 8 (fCall 3 FF__law_way (gIo 0 (gVal (fFz (fV 2)) (gVal (fFz (fV 4)) DL.gNil))))) (sSeq (sSet 6 (fOp gAdd (fV 6) (vIf (fB (fOp (gInS true) (fV 8) (fV 6))) (fTup (aCons (fFz (fV 8)) aNil)) (fTup aNil)))) sNil))) (sSeq (sSet 3 (fOp gAdd (fV 3) (fTup (aCons (fFz (fV 6)) aNil)))) sNil)))) ρ1 = .nx ρ' ∧
      ∃ a' b' r' s6' s7' s8', SprOk a' b' ∧ s6'.fr ∧ s7'.fr ∧ s8'.fr ∧ RecOk mins many r' ∧ ρ' = bkE a' b' most many (B ++ [r']) mins (.val t) s6' s7' s8' := by
  have f5 : ioO (some s5) = false := f5
  have f6 : ioO (some s6) = false := f6
  have f0 : fits 0 = true := by decide
  have f1 : fits 1 = true := by decide
  have f2 : fits 2 = true := by decide
  have ml : 0 < mins.length := List.length_pos_iff.mpr hm
  obtain ⟨a1, b1, d1, s1, p1, p2, e1⟩ := m_pick a b 4 hs (by omega) (by decide)
  have fin : ∀ (a b : Int) (r : List WK), SprOk a b → (∀ k ∈ r, WayOk mins many k) → r.Nodup → r.length ≤ 1 → ∃ ρ', (sSeq (sFor (iR1 (aCons (fFz (fOp gAdd (fCall 2 FF__law_pick (gIo 0 (gVal (fFz (fC (.int 3))) DL.gNil))) (fUn gInt (fOp gEq (fV 6) (fTup aNil))))) aNil)) (nmG 7) (sSeq (sSet 8 (fCall 3 FF__law_way (gIo 0 (gVal (fFz (fV 2)) (gVal (fFz (fV 4)) DL.gNil))))) (sSeq (sSet 6 (fOp gAdd (fV 6) (vIf (fB (fOp (gInS true) (fV 8) (fV 6))) (fTup (aCons (fFz (fV 8)) aNil)) (fTup aNil)))) sNil))) (sSeq (sSet 3 (fOp gAdd (fV 3) (fTup (aCons (fFz (fV 6)) aNil)))) sNil)) (bkE a b most many B mins (.val t) (.val (recD r)) s7 s8) = .nx ρ' ∧
      ∃ a' b' r' s6' s7' s8', SprOk a' b' ∧ s6'.fr ∧ s7'.fr ∧ s8'.fr ∧ RecOk mins many r' ∧ ρ' = bkE a' b' most many (B ++ [r']) mins (.val t) s6' s7' s8' := fun a b r hs hk hn hl => by
    obtain ⟨a1, b1, d1, s1, p1, p2, e1⟩ := m_pick a b 3 hs (by omega) (by decide)
    have gn := gEq_nil r
    obtain ⟨u, hu, gi⟩ : ∃ u : Int, (0 ≤ u ∧ u ≤ 1 ∧ (r.length : Int) + u = 1) ∧ gInt (.bl (decide (r = []))) = some (.val (.int u)) := by
      by_cases h : r = []
      · subst h; exact ⟨1, ⟨by omega, by omega, rfl⟩, rfl⟩
      · refine ⟨0, ⟨by omega, by omega, ?_⟩, by rw [decide_eq_false h]; rfl⟩
        have := List.length_pos_iff.mpr h
        omega
    have ir : ∀ ρ : En, rOk ρ (d1 + u) = .ok ρ (rng 0 ((d1 + u)).toNat) := fun ρ => rOk_int (by omega) (by omega)
    obtain ⟨ρ', e2, a', b', r', s7', s8', q1, q2, q3, q4, q5⟩ := bk_inner (most := most) (B := B) (s5 := .val t) s1 h1 h3 hm hm2 f7 f8 hk hn (rng 0 (d1 + u).toNat) (by rw [rng_len]; omega) (by rw [rng_len]; omega)
    subst q5
    have ga : gAdd (bookD B) (.tup [recD r']) = some (.val (bookD (B ++ [r']))) := by
      show gAdd (.tup (B.map recD)) (.tup [recD r']) = _
      rw [gAdd_tup (by simp; omega)]
      show some (Wv.val (D.tup _)) = some (Wv.val (D.tup _))
      rw [List.map_append]; rfl
    refine ⟨_, ?_, a', b', r', .val (recD r'), s7', s8', q1, fr_v, q2, q3, q4, rfl⟩
    simp only [q_seq, q_nx, q_rt, q_bk, q_exc, q_nil, q_ret, q_kret, q_retN, q_if, q_ift, q_iff, q_expr, q_kexpr, q_sexc, q_set, q_ksetv, q_ksett, q_c, q_v, q_vv, q_vo, q_vi, q_fz, q_kfzv, q_kfzt, q_op, q_op1, q_op2, q_opE, q_lv, q_lt, q_ls, q_slo, q_sli, q_slv, q_fzl, q_oWs, q_un, q_kun, q_unE, q_and, q_or, q_not, q_thenB, q_andt, q_andf, q_ort, q_orf, q_knot, q_fB, q_kB, q_tru, q_ktru, q_truB, q_bnot, q_kbnot, q_band, q_bor, q_bandt, q_bandf, q_bort, q_borf, q_vif, q_vift, q_viff, q_anil, q_acons, q_kcons1, q_kcons2, q_tup, q_lst, q_ktup, q_klst, q_gnil, q_gval, q_kval1, q_kval2, q_gio, q_kio, q_call, q_finv, q_fint, q_finn, q_fine, q_fins, q_kcall, q_held, q_slHo, q_slHi, q_setL, q_slSo, q_slSi, q_setIx, q_kSetIx, q_setIx1, q_kSetIx2, q_setIx2, q_setIx3, q_app, q_app1, q_kApp, q_app2, q_ns, q_knsv, q_knst, q_par, q_kpar1, q_kpvv, q_kpvt, q_kptv, q_kptt, q_put2, q_sl, q_ksl1, q_ksl2, q_ksl3, q_sl4, q_ono, q_osome, q_kO, q_for, q_iseq, q_kseqT, q_kseqL, q_kseqS, q_isIo, q_ioV, q_ioE, q_ioO, q_nmG, q_frzS, q_frzV, q_frzT, q_fzSV, q_fzSO, q_kfzs, q_fzP, q_knss, q_nsP, q_came, q_cameO, q_cameX, q_cameF, q_cameW, q_mask, q_maskV, q_maskO, q_lenT, q_lenL, q_lenS, q_gLt, q_gLe, q_gGt, q_gGe, q_gInt, q_gAdd, q_gSub, q_gNeg, q_rR1, q_rR2, q_rs1, q_rs2, startE, finS, outs, outS, agSls, agSl, ios, callC, resC, isHeld, gIsi, D.seq?, tru, q_bok, q_sok, q_bexc, q_sxc, q_bstk, q_sstk, List.length_cons, List.length_nil, List.getElem?_cons_zero, List.getElem?_cons_succ, List.append_nil, List.replicate, Option.map_some, Option.map_none, List.mapIdx_cons, List.mapIdx_nil, Nat.sub_self, List.cons_append, List.nil_append, Bool.not_false, Bool.not_true, List.set_cons_zero, List.set_cons_succ, Bool.false_eq_true, if_true, if_false, reduceIte, decide_true, Nat.zero_add, Nat.reduceAdd, Nat.reduceSub, Nat.reduceBEq, beq_self_eq_true, List.nodup_nil, List.length_map, List.map_cons, List.map_nil, eq_self, ite_true, ite_false, e1, gn, gi, f0, f1, ir, kFor, e2, ga, nodup1, io0 io_v, Sl.putC]
  by_cases hp : 0 < d1
  · have dp : decide (0 < d1) = true := decide_eq_true hp
    obtain ⟨a2, b2, d2, s2, p3, p4, e2⟩ := m_pick a1 b1 mins.length s1 (by omega) (by omega)
    obtain ⟨m, hm', em⟩ := gIx_ints (ns := mins) p3 p4
    obtain ⟨ρ', e3, q⟩ := fin a2 b2 [(m, [])] s2 (fun k hk => by rw [List.mem_singleton.mp hk]; exact ⟨hm', Nat.zero_le 2, fun c hc => (by cases hc), rfl⟩) (List.nodup_cons.mpr ⟨by simp, List.nodup_nil⟩) (by simp)
    refine ⟨_, ρ', by simp only [q_seq, q_nx, q_rt, q_bk, q_exc, q_nil, q_ret, q_kret, q_retN, q_if, q_ift, q_iff, q_expr, q_kexpr, q_sexc, q_set, q_ksetv, q_ksett, q_c, q_v, q_vv, q_vo, q_vi, q_fz, q_kfzv, q_kfzt, q_op, q_op1, q_op2, q_opE, q_lv, q_lt, q_ls, q_slo, q_sli, q_slv, q_fzl, q_oWs, q_un, q_kun, q_unE, q_and, q_or, q_not, q_thenB, q_andt, q_andf, q_ort, q_orf, q_knot, q_fB, q_kB, q_tru, q_ktru, q_truB, q_bnot, q_kbnot, q_band, q_bor, q_bandt, q_bandf, q_bort, q_borf, q_vif, q_vift, q_viff, q_anil, q_acons, q_kcons1, q_kcons2, q_tup, q_lst, q_ktup, q_klst, q_gnil, q_gval, q_kval1, q_kval2, q_gio, q_kio, q_call, q_finv, q_fint, q_finn, q_fine, q_fins, q_kcall, q_held, q_slHo, q_slHi, q_setL, q_slSo, q_slSi, q_setIx, q_kSetIx, q_setIx1, q_kSetIx2, q_setIx2, q_setIx3, q_app, q_app1, q_kApp, q_app2, q_ns, q_knsv, q_knst, q_par, q_kpar1, q_kpvv, q_kpvt, q_kptv, q_kptt, q_put2, q_sl, q_ksl1, q_ksl2, q_ksl3, q_sl4, q_ono, q_osome, q_kO, q_for, q_iseq, q_kseqT, q_kseqL, q_kseqS, q_isIo, q_ioV, q_ioE, q_ioO, q_nmG, q_frzS, q_frzV, q_frzT, q_fzSV, q_fzSO, q_kfzs, q_fzP, q_knss, q_nsP, q_came, q_cameO, q_cameX, q_cameF, q_cameW, q_mask, q_maskV, q_maskO, q_lenT, q_lenL, q_lenS, q_gLt, q_gLe, q_gGt, q_gGe, q_gInt, q_gAdd, q_gSub, q_gNeg, q_rR1, q_rR2, q_rs1, q_rs2, startE, finS, outs, outS, agSls, agSl, ios, callC, resC, isHeld, gIsi, D.seq?, tru, q_bok, q_sok, q_bexc, q_sxc, q_bstk, q_sstk, List.length_cons, List.length_nil, List.getElem?_cons_zero, List.getElem?_cons_succ, List.append_nil, List.replicate, Option.map_some, Option.map_none, List.mapIdx_cons, List.mapIdx_nil, Nat.sub_self, List.cons_append, List.nil_append, Bool.not_false, Bool.not_true, List.set_cons_zero, List.set_cons_succ, Bool.false_eq_true, if_true, if_false, reduceIte, decide_true, Nat.zero_add, Nat.reduceAdd, Nat.reduceSub, Nat.reduceBEq, beq_self_eq_true, List.nodup_nil, List.length_map, List.map_cons, List.map_nil, eq_self, ite_true, ite_false, f5]; rfl, ?_, q⟩
    have e3 := e3
    rw [show recD [(m, [])] = .tup [.tup [.int m, .tup []]] from rfl] at e3
    rw [q_seq, show (sSet 6 (fTup aNil)) (bkE a b most many B mins (.val t) s6 s7 s8) = .nx (bkE a b most many B mins (.val t) (.val (.tup [])) s7 s8) by simp only [q_seq, q_nx, q_rt, q_bk, q_exc, q_nil, q_ret, q_kret, q_retN, q_if, q_ift, q_iff, q_expr, q_kexpr, q_sexc, q_set, q_ksetv, q_ksett, q_c, q_v, q_vv, q_vo, q_vi, q_fz, q_kfzv, q_kfzt, q_op, q_op1, q_op2, q_opE, q_lv, q_lt, q_ls, q_slo, q_sli, q_slv, q_fzl, q_oWs, q_un, q_kun, q_unE, q_and, q_or, q_not, q_thenB, q_andt, q_andf, q_ort, q_orf, q_knot, q_fB, q_kB, q_tru, q_ktru, q_truB, q_bnot, q_kbnot, q_band, q_bor, q_bandt, q_bandf, q_bort, q_borf, q_vif, q_vift, q_viff, q_anil, q_acons, q_kcons1, q_kcons2, q_tup, q_lst, q_ktup, q_klst, q_gnil, q_gval, q_kval1, q_kval2, q_gio, q_kio, q_call, q_finv, q_fint, q_finn, q_fine, q_fins, q_kcall, q_held, q_slHo, q_slHi, q_setL, q_slSo, q_slSi, q_setIx, q_kSetIx, q_setIx1, q_kSetIx2, q_setIx2, q_setIx3, q_app, q_app1, q_kApp, q_app2, q_ns, q_knsv, q_knst, q_par, q_kpar1, q_kpvv, q_kpvt, q_kptv, q_kptt, q_put2, q_sl, q_ksl1, q_ksl2, q_ksl3, q_sl4, q_ono, q_osome, q_kO, q_for, q_iseq, q_kseqT, q_kseqL, q_kseqS, q_isIo, q_ioV, q_ioE, q_ioO, q_nmG, q_frzS, q_frzV, q_frzT, q_fzSV, q_fzSO, q_kfzs, q_fzP, q_knss, q_nsP, q_came, q_cameO, q_cameX, q_cameF, q_cameW, q_mask, q_maskV, q_maskO, q_lenT, q_lenL, q_lenS, q_gLt, q_gLe, q_gGt, q_gGe, q_gInt, q_gAdd, q_gSub, q_gNeg, q_rR1, q_rR2, q_rs1, q_rs2, startE, finS, outs, outS, agSls, agSl, ios, callC, resC, isHeld, gIsi, D.seq?, tru, q_bok, q_sok, q_bexc, q_sxc, q_bstk, q_sstk, List.length_cons, List.length_nil, List.getElem?_cons_zero, List.getElem?_cons_succ, List.append_nil, List.replicate, Option.map_some, Option.map_none, List.mapIdx_cons, List.mapIdx_nil, Nat.sub_self, List.cons_append, List.nil_append, Bool.not_false, Bool.not_true, List.set_cons_zero, List.set_cons_succ, Bool.false_eq_true, if_true, if_false, reduceIte, decide_true, Nat.zero_add, Nat.reduceAdd, Nat.reduceSub, Nat.reduceBEq, beq_self_eq_true, List.nodup_nil, List.length_map, List.map_cons, List.map_nil, eq_self, ite_true, ite_false, f0, f6], q_nx, q_seq]
    have e4 : (sIf (fB (fOp gGt (fCall 2 FF__law_pick (gIo 0 (gVal (fFz (fC (.int 4))) DL.gNil))) (fC (.int 0)))) (sSeq (sSet 6 (fTup (aCons (fFz (fTup (aCons (fFz (fOp gIx (fV 4) (fCall 2 FF__law_pick (gIo 0 (gVal (fFz (fUn gLen (fV 4))) DL.gNil))))) (aCons (fFz (fTup aNil)) aNil)))) aNil))) sNil) sNil) (bkE a b most many B mins (.val t) (.val (.tup [])) s7 s8) = .nx (bkE a2 b2 most many B mins (.val t) (.val (.tup [.tup [.int m, .tup []]])) s7 s8) := by
      simp only [q_seq, q_nx, q_rt, q_bk, q_exc, q_nil, q_ret, q_kret, q_retN, q_if, q_ift, q_iff, q_expr, q_kexpr, q_sexc, q_set, q_ksetv, q_ksett, q_c, q_v, q_vv, q_vo, q_vi, q_fz, q_kfzv, q_kfzt, q_op, q_op1, q_op2, q_opE, q_lv, q_lt, q_ls, q_slo, q_sli, q_slv, q_fzl, q_oWs, q_un, q_kun, q_unE, q_and, q_or, q_not, q_thenB, q_andt, q_andf, q_ort, q_orf, q_knot, q_fB, q_kB, q_tru, q_ktru, q_truB, q_bnot, q_kbnot, q_band, q_bor, q_bandt, q_bandf, q_bort, q_borf, q_vif, q_vift, q_viff, q_anil, q_acons, q_kcons1, q_kcons2, q_tup, q_lst, q_ktup, q_klst, q_gnil, q_gval, q_kval1, q_kval2, q_gio, q_kio, q_call, q_finv, q_fint, q_finn, q_fine, q_fins, q_kcall, q_held, q_slHo, q_slHi, q_setL, q_slSo, q_slSi, q_setIx, q_kSetIx, q_setIx1, q_kSetIx2, q_setIx2, q_setIx3, q_app, q_app1, q_kApp, q_app2, q_ns, q_knsv, q_knst, q_par, q_kpar1, q_kpvv, q_kpvt, q_kptv, q_kptt, q_put2, q_sl, q_ksl1, q_ksl2, q_ksl3, q_sl4, q_ono, q_osome, q_kO, q_for, q_iseq, q_kseqT, q_kseqL, q_kseqS, q_isIo, q_ioV, q_ioE, q_ioO, q_nmG, q_frzS, q_frzV, q_frzT, q_fzSV, q_fzSO, q_kfzs, q_fzP, q_knss, q_nsP, q_came, q_cameO, q_cameX, q_cameF, q_cameW, q_mask, q_maskV, q_maskO, q_lenT, q_lenL, q_lenS, q_gLt, q_gLe, q_gGt, q_gGe, q_gInt, q_gAdd, q_gSub, q_gNeg, q_rR1, q_rR2, q_rs1, q_rs2, startE, finS, outs, outS, agSls, agSl, ios, callC, resC, isHeld, gIsi, D.seq?, tru, q_bok, q_sok, q_bexc, q_sxc, q_bstk, q_sstk, List.length_cons, List.length_nil, List.getElem?_cons_zero, List.getElem?_cons_succ, List.append_nil, List.replicate, Option.map_some, Option.map_none, List.mapIdx_cons, List.mapIdx_nil, Nat.sub_self, List.cons_append, List.nil_append, Bool.not_false, Bool.not_true, List.set_cons_zero, List.set_cons_succ, Bool.false_eq_true, if_true, if_false, reduceIte, decide_true, Nat.zero_add, Nat.reduceAdd, Nat.reduceSub, Nat.reduceBEq, beq_self_eq_true, List.nodup_nil, List.length_map, List.map_cons, List.map_nil, eq_self, ite_true, ite_false, e1, e2, em, dp, f0, f1, f2, nodup1, io0 io_v, Sl.putC]
    rw [e4]
    exact e3
  · have dp : decide (0 < d1) = false := decide_eq_false hp
    obtain ⟨ρ', e3, q⟩ := fin a1 b1 [] s1 (fun k hk => (by cases hk)) List.nodup_nil (by simp)
    refine ⟨_, ρ', by simp only [q_seq, q_nx, q_rt, q_bk, q_exc, q_nil, q_ret, q_kret, q_retN, q_if, q_ift, q_iff, q_expr, q_kexpr, q_sexc, q_set, q_ksetv, q_ksett, q_c, q_v, q_vv, q_vo, q_vi, q_fz, q_kfzv, q_kfzt, q_op, q_op1, q_op2, q_opE, q_lv, q_lt, q_ls, q_slo, q_sli, q_slv, q_fzl, q_oWs, q_un, q_kun, q_unE, q_and, q_or, q_not, q_thenB, q_andt, q_andf, q_ort, q_orf, q_knot, q_fB, q_kB, q_tru, q_ktru, q_truB, q_bnot, q_kbnot, q_band, q_bor, q_bandt, q_bandf, q_bort, q_borf, q_vif, q_vift, q_viff, q_anil, q_acons, q_kcons1, q_kcons2, q_tup, q_lst, q_ktup, q_klst, q_gnil, q_gval, q_kval1, q_kval2, q_gio, q_kio, q_call, q_finv, q_fint, q_finn, q_fine, q_fins, q_kcall, q_held, q_slHo, q_slHi, q_setL, q_slSo, q_slSi, q_setIx, q_kSetIx, q_setIx1, q_kSetIx2, q_setIx2, q_setIx3, q_app, q_app1, q_kApp, q_app2, q_ns, q_knsv, q_knst, q_par, q_kpar1, q_kpvv, q_kpvt, q_kptv, q_kptt, q_put2, q_sl, q_ksl1, q_ksl2, q_ksl3, q_sl4, q_ono, q_osome, q_kO, q_for, q_iseq, q_kseqT, q_kseqL, q_kseqS, q_isIo, q_ioV, q_ioE, q_ioO, q_nmG, q_frzS, q_frzV, q_frzT, q_fzSV, q_fzSO, q_kfzs, q_fzP, q_knss, q_nsP, q_came, q_cameO, q_cameX, q_cameF, q_cameW, q_mask, q_maskV, q_maskO, q_lenT, q_lenL, q_lenS, q_gLt, q_gLe, q_gGt, q_gGe, q_gInt, q_gAdd, q_gSub, q_gNeg, q_rR1, q_rR2, q_rs1, q_rs2, startE, finS, outs, outS, agSls, agSl, ios, callC, resC, isHeld, gIsi, D.seq?, tru, q_bok, q_sok, q_bexc, q_sxc, q_bstk, q_sstk, List.length_cons, List.length_nil, List.getElem?_cons_zero, List.getElem?_cons_succ, List.append_nil, List.replicate, Option.map_some, Option.map_none, List.mapIdx_cons, List.mapIdx_nil, Nat.sub_self, List.cons_append, List.nil_append, Bool.not_false, Bool.not_true, List.set_cons_zero, List.set_cons_succ, Bool.false_eq_true, if_true, if_false, reduceIte, decide_true, Nat.zero_add, Nat.reduceAdd, Nat.reduceSub, Nat.reduceBEq, beq_self_eq_true, List.nodup_nil, List.length_map, List.map_cons, List.map_nil, eq_self, ite_true, ite_false, f5]; rfl, ?_, q⟩
    rw [q_seq, show (sSet 6 (fTup aNil)) (bkE a b most many B mins (.val t) s6 s7 s8) = .nx (bkE a b most many B mins (.val t) (.val (.tup [])) s7 s8) by simp only [q_seq, q_nx, q_rt, q_bk, q_exc, q_nil, q_ret, q_kret, q_retN, q_if, q_ift, q_iff, q_expr, q_kexpr, q_sexc, q_set, q_ksetv, q_ksett, q_c, q_v, q_vv, q_vo, q_vi, q_fz, q_kfzv, q_kfzt, q_op, q_op1, q_op2, q_opE, q_lv, q_lt, q_ls, q_slo, q_sli, q_slv, q_fzl, q_oWs, q_un, q_kun, q_unE, q_and, q_or, q_not, q_thenB, q_andt, q_andf, q_ort, q_orf, q_knot, q_fB, q_kB, q_tru, q_ktru, q_truB, q_bnot, q_kbnot, q_band, q_bor, q_bandt, q_bandf, q_bort, q_borf, q_vif, q_vift, q_viff, q_anil, q_acons, q_kcons1, q_kcons2, q_tup, q_lst, q_ktup, q_klst, q_gnil, q_gval, q_kval1, q_kval2, q_gio, q_kio, q_call, q_finv, q_fint, q_finn, q_fine, q_fins, q_kcall, q_held, q_slHo, q_slHi, q_setL, q_slSo, q_slSi, q_setIx, q_kSetIx, q_setIx1, q_kSetIx2, q_setIx2, q_setIx3, q_app, q_app1, q_kApp, q_app2, q_ns, q_knsv, q_knst, q_par, q_kpar1, q_kpvv, q_kpvt, q_kptv, q_kptt, q_put2, q_sl, q_ksl1, q_ksl2, q_ksl3, q_sl4, q_ono, q_osome, q_kO, q_for, q_iseq, q_kseqT, q_kseqL, q_kseqS, q_isIo, q_ioV, q_ioE, q_ioO, q_nmG, q_frzS, q_frzV, q_frzT, q_fzSV, q_fzSO, q_kfzs, q_fzP, q_knss, q_nsP, q_came, q_cameO, q_cameX, q_cameF, q_cameW, q_mask, q_maskV, q_maskO, q_lenT, q_lenL, q_lenS, q_gLt, q_gLe, q_gGt, q_gGe, q_gInt, q_gAdd, q_gSub, q_gNeg, q_rR1, q_rR2, q_rs1, q_rs2, startE, finS, outs, outS, agSls, agSl, ios, callC, resC, isHeld, gIsi, D.seq?, tru, q_bok, q_sok, q_bexc, q_sxc, q_bstk, q_sstk, List.length_cons, List.length_nil, List.getElem?_cons_zero, List.getElem?_cons_succ, List.append_nil, List.replicate, Option.map_some, Option.map_none, List.mapIdx_cons, List.mapIdx_nil, Nat.sub_self, List.cons_append, List.nil_append, Bool.not_false, Bool.not_true, List.set_cons_zero, List.set_cons_succ, Bool.false_eq_true, if_true, if_false, reduceIte, decide_true, Nat.zero_add, Nat.reduceAdd, Nat.reduceSub, Nat.reduceBEq, beq_self_eq_true, List.nodup_nil, List.length_map, List.map_cons, List.map_nil, eq_self, ite_true, ite_false, f0, f6], q_nx, q_seq]
    have e4 : (sIf (fB (fOp gGt (fCall 2 FF__law_pick (gIo 0 (gVal (fFz (fC (.int 4))) DL.gNil))) (fC (.int 0)))) (sSeq (sSet 6 (fTup (aCons (fFz (fTup (aCons (fFz (fOp gIx (fV 4) (fCall 2 FF__law_pick (gIo 0 (gVal (fFz (fUn gLen (fV 4))) DL.gNil))))) (aCons (fFz (fTup aNil)) aNil)))) aNil))) sNil) sNil) (bkE a b most many B mins (.val t) (.val (.tup [])) s7 s8) = .nx (bkE a1 b1 most many B mins (.val t) (.val (.tup [])) s7 s8) := by
      simp only [q_seq, q_nx, q_rt, q_bk, q_exc, q_nil, q_ret, q_kret, q_retN, q_if, q_ift, q_iff, q_expr, q_kexpr, q_sexc, q_set, q_ksetv, q_ksett, q_c, q_v, q_vv, q_vo, q_vi, q_fz, q_kfzv, q_kfzt, q_op, q_op1, q_op2, q_opE, q_lv, q_lt, q_ls, q_slo, q_sli, q_slv, q_fzl, q_oWs, q_un, q_kun, q_unE, q_and, q_or, q_not, q_thenB, q_andt, q_andf, q_ort, q_orf, q_knot, q_fB, q_kB, q_tru, q_ktru, q_truB, q_bnot, q_kbnot, q_band, q_bor, q_bandt, q_bandf, q_bort, q_borf, q_vif, q_vift, q_viff, q_anil, q_acons, q_kcons1, q_kcons2, q_tup, q_lst, q_ktup, q_klst, q_gnil, q_gval, q_kval1, q_kval2, q_gio, q_kio, q_call, q_finv, q_fint, q_finn, q_fine, q_fins, q_kcall, q_held, q_slHo, q_slHi, q_setL, q_slSo, q_slSi, q_setIx, q_kSetIx, q_setIx1, q_kSetIx2, q_setIx2, q_setIx3, q_app, q_app1, q_kApp, q_app2, q_ns, q_knsv, q_knst, q_par, q_kpar1, q_kpvv, q_kpvt, q_kptv, q_kptt, q_put2, q_sl, q_ksl1, q_ksl2, q_ksl3, q_sl4, q_ono, q_osome, q_kO, q_for, q_iseq, q_kseqT, q_kseqL, q_kseqS, q_isIo, q_ioV, q_ioE, q_ioO, q_nmG, q_frzS, q_frzV, q_frzT, q_fzSV, q_fzSO, q_kfzs, q_fzP, q_knss, q_nsP, q_came, q_cameO, q_cameX, q_cameF, q_cameW, q_mask, q_maskV, q_maskO, q_lenT, q_lenL, q_lenS, q_gLt, q_gLe, q_gGt, q_gGe, q_gInt, q_gAdd, q_gSub, q_gNeg, q_rR1, q_rR2, q_rs1, q_rs2, startE, finS, outs, outS, agSls, agSl, ios, callC, resC, isHeld, gIsi, D.seq?, tru, q_bok, q_sok, q_bexc, q_sxc, q_bstk, q_sstk, List.length_cons, List.length_nil, List.getElem?_cons_zero, List.getElem?_cons_succ, List.append_nil, List.replicate, Option.map_some, Option.map_none, List.mapIdx_cons, List.mapIdx_nil, Nat.sub_self, List.cons_append, List.nil_append, Bool.not_false, Bool.not_true, List.set_cons_zero, List.set_cons_succ, Bool.false_eq_true, if_true, if_false, reduceIte, decide_true, Nat.zero_add, Nat.reduceAdd, Nat.reduceSub, Nat.reduceBEq, beq_self_eq_true, List.nodup_nil, List.length_map, List.map_cons, List.map_nil, eq_self, ite_true, ite_false, e1, dp, nodup1, io0 io_v, Sl.putC]
    rw [e4]
    exact e3
end K01
namespace K01
open PySem PySem.Spec
open PyProof.Rows hiding St
open L2 DL
theorem m_book (a b most : Int) (hs : SprOk a b) (h1 : 1 ≤ most) (h3 : most ≤ 3) : ∃ a' b' B mins, SprOk a' b' ∧ BookOk mins B ∧ (B.length : Int) ≤ most ∧
    FF__law_book [.io (spr a b), .val (.int most)] = .ret [.io (spr a' b'), .val (.int most)] (.val (bookD B)) := by
  obtain ⟨a1, b1, d1, s1, p1, p2, e1⟩ := m_pick a b most hs (by omega) (by omega)
  obtain ⟨a2, b2, d2, s2, p3, p4, e2⟩ := m_pick a1 b1 4 s1 (by omega) (by decide)
  obtain ⟨mins, hmin, em⟩ : ∃ mins ∈ MINS, gIx (.lst [.lst [.int 0, .int 1, .int 2, .int 3], .lst [.int 2, .int 4, .int 6], .lst [.int 0, .int 3, .int 5, .int 9], .lst [.int 1, .int 4, .int 7, .int 8]]) (.int d2) = some (.val (.lst (mins.map .int))) := by
    have : d2 = 0 ∨ d2 = 1 ∨ d2 = 2 ∨ d2 = 3 := by omega
    rcases this with h | h | h | h <;> subst h
    · exact ⟨[0, 1, 2, 3], by simp [MINS], rfl⟩
    · exact ⟨[2, 4, 6], by simp [MINS], rfl⟩
    · exact ⟨[0, 3, 5, 9], by simp [MINS], rfl⟩
    · exact ⟨[1, 4, 7, 8], by simp [MINS], rfl⟩
  obtain ⟨hm, hm2⟩ := mins_len hmin
  have ir : ∀ ρ : En, rOk ρ (1 + d1) = .ok ρ (rng 0 ((1 + d1)).toNat) := fun ρ => rOk_int (by omega) (by omega)
  obtain ⟨ρ', e3, a', b', B, s5, s6, s7, s8, q1, q2, q3, q4, q5, q6, q7, q8⟩ := forL_nx (g := nmG 5) (b := (sSeq (sSet 6 (fTup aNil)) (sSeq (sIf (fB (fOp gGt (fCall 2 FF__law_pick (gIo 0 (gVal (fFz (fC (.int 4))) DL.gNil))) (fC (.int 0)))) (sSeq (sSet 6 (fTup (aCons (fFz (fTup (aCons (fFz (fOp gIx (fV 4) (fCall 2 FF__law_pick (gIo 0 (gVal (fFz (fUn gLen (fV 4))) DL.gNil))))) (aCons (fFz (fTup aNil)) aNil)))) aNil))) sNil) sNil) (sSeq (sFor (iR1 (aCons (fFz (fOp gAdd (fCall 2 FF__law_pick (gIo 0 (gVal (fFz (fC (.int 3))) DL.gNil))) (fUn gInt (fOp gEq (fV 6) (fTup aNil))))) aNil)) (nmG 7) (sSeq (sSet 8 (fCall 3 FF__law_way (gIo 0 (gVal (fFz (fV 2)) (gVal (fFz (fV 4)) DL.gNil))))) (sSeq (sSet 6 (fOp gAdd (fV 6) (vIf (fB (fOp (gInS true) (fV 8) (fV 6))) (fTup (aCons (fFz (fV 8)) aNil)) (fTup aNil)))) sNil))) (sSeq (sSet 3 (fOp gAdd (fV 3) (fTup (aCons (fFz (fV 6)) aNil)))) sNil)))))
    (fun ds ρ => ∃ a b B s5 s6 s7 s8, SprOk a b ∧ Sl.fr s5 ∧ Sl.fr s6 ∧ Sl.fr s7 ∧ Sl.fr s8 ∧ (∀ r ∈ B, RecOk mins (1 + d1) r) ∧ (B.length : Int) + ds.length = 1 + d1 ∧ ρ = bkE a b most (1 + d1) B mins s5 s6 s7 s8)
    (fun d ds ρ ⟨a, b, B, s5, s6, s7, s8, q1, q2, q3, q4, q5, q6, q7, q8⟩ => by
      subst q8
      simp only [List.length_cons] at q7
      obtain ⟨ρ1, ρ', c1, c2, a', b', r', s6', s7', s8', c3, c4, c5, c6, c7, c8⟩ := bk_outer (most := most) (B := B) (mins := mins) d q1 (show 1 ≤ 1 + d1 by omega) (by omega) hm (by omega) q2 q3 q4 q5 (by omega)
      refine ⟨ρ1, ρ', c1, c2, a', b', B ++ [r'], _, s6', s7', s8', c3, fr_v, c4, c5, c6, fun r hr => ?_, by simp; omega, c8⟩
      rcases List.mem_append.mp hr with z | z
      · exact q6 r z
      · rw [List.mem_singleton.mp z]; exact c7) (rng 0 (1 + d1).toNat) (bkE a2 b2 most (1 + d1) [] mins .emp .emp .emp .emp) ⟨a2, b2, [], .emp, .emp, .emp, .emp, s2, fr_e, fr_e, fr_e, fr_e, fun r hr => (by cases hr), by rw [rng_len]; simp; omega, rfl⟩
  subst q8
  simp only [List.length_nil] at q7
  have hB : (B.length : Int) = 1 + d1 := by omega
  refine ⟨a', b', B, mins, q1, ⟨hmin, by omega, by omega, fun r hr => by rw [hB]; exact q6 r hr⟩, by omega, ?_⟩
  have f0 : fits 0 = true := by decide
  have f1 : fits 1 = true := by decide
  have f3 : fits 3 = true := by decide
  have f4 : fits 4 = true := by decide
  have e3 : forL _ _ _ [Sl.io (spr a2 b2), .val (.int most), .val (.int (1 + d1)), .val (.tup []), .val (.lst (mins.map .int)), .emp, .emp, .emp, .emp] = _ := e3
  simp only [q_seq, q_nx, q_rt, q_bk, q_exc, q_nil, q_ret, q_kret, q_retN, q_if, q_ift, q_iff, q_expr, q_kexpr, q_sexc, q_set, q_ksetv, q_ksett, q_c, q_v, q_vv, q_vo, q_vi, q_fz, q_kfzv, q_kfzt, q_op, q_op1, q_op2, q_opE, q_lv, q_lt, q_ls, q_slo, q_sli, q_slv, q_fzl, q_oWs, q_un, q_kun, q_unE, q_and, q_or, q_not, q_thenB, q_andt, q_andf, q_ort, q_orf, q_knot, q_fB, q_kB, q_tru, q_ktru, q_truB, q_bnot, q_kbnot, q_band, q_bor, q_bandt, q_bandf, q_bort, q_borf, q_vif, q_vift, q_viff, q_anil, q_acons, q_kcons1, q_kcons2, q_tup, q_lst, q_ktup, q_klst, q_gnil, q_gval, q_kval1, q_kval2, q_gio, q_kio, q_call, q_finv, q_fint, q_finn, q_fine, q_fins, q_kcall, q_held, q_slHo, q_slHi, q_setL, q_slSo, q_slSi, q_setIx, q_kSetIx, q_setIx1, q_kSetIx2, q_setIx2, q_setIx3, q_app, q_app1, q_kApp, q_app2, q_ns, q_knsv, q_knst, q_par, q_kpar1, q_kpvv, q_kpvt, q_kptv, q_kptt, q_put2, q_sl, q_ksl1, q_ksl2, q_ksl3, q_sl4, q_ono, q_osome, q_kO, q_for, q_iseq, q_kseqT, q_kseqL, q_kseqS, q_isIo, q_ioV, q_ioE, q_ioO, q_nmG, q_frzS, q_frzV, q_frzT, q_fzSV, q_fzSO, q_kfzs, q_fzP, q_knss, q_nsP, q_came, q_cameO, q_cameX, q_cameF, q_cameW, q_mask, q_maskV, q_maskO, q_lenT, q_lenL, q_lenS, q_gLt, q_gLe, q_gGt, q_gGe, q_gInt, q_gAdd, q_gSub, q_gNeg, q_rR1, q_rR2, q_rs1, q_rs2, startE, finS, outs, outS, agSls, agSl, ios, callC, resC, isHeld, gIsi, D.seq?, tru, q_bok, q_sok, q_bexc, q_sxc, q_bstk, q_sstk, List.length_cons, List.length_nil, List.getElem?_cons_zero, List.getElem?_cons_succ, List.append_nil, List.replicate, Option.map_some, Option.map_none, List.mapIdx_cons, List.mapIdx_nil, Nat.sub_self, List.cons_append, List.nil_append, Bool.not_false, Bool.not_true, List.set_cons_zero, List.set_cons_succ, Bool.false_eq_true, if_true, if_false, reduceIte, decide_true, Nat.zero_add, Nat.reduceAdd, Nat.reduceSub, Nat.reduceBEq, beq_self_eq_true, List.nodup_nil, List.length_map, List.map_cons, List.map_nil, eq_self, ite_true, ite_false, FF__law_book, ev__law_book, e1, e2, em, f0, f1, f3, f4, ir, kFor, e3, nodup1, io0 io_v, Sl.putC]
end K01
namespace K01
open PySem PySem.Spec
open PyProof.Rows hiding St
open L2 DL
theorem m_int (v : D) (lo hi : Int) (hv : v.py ≠ none) : FF__law_int [.val v, .val (.int lo), .val (.int hi)] = .ret [.val v, .val (.int lo), .val (.int hi)] (.val (.bl (iw v lo hi))) := by
  have a1 := kI "bool" (by decide)
  have a2 := kI "int" (by decide)
  have a3 := kI "str" (by decide)
  have a4 := kI "tuple" (by decide)
  have a5 := kI "list" (by decide)
  simp only [decide_true, decide_false, String.reduceEq, or_true, true_or, or_false, false_or] at a1 a2 a3 a4 a5
  cases v with
  | int i =>
    simp only [q_seq, q_nx, q_rt, q_bk, q_exc, q_nil, q_ret, q_kret, q_retN, q_if, q_ift, q_iff, q_expr, q_kexpr, q_sexc, q_set, q_ksetv, q_ksett, q_c, q_v, q_vv, q_vo, q_vi, q_fz, q_kfzv, q_kfzt, q_op, q_op1, q_op2, q_opE, q_lv, q_lt, q_ls, q_slo, q_sli, q_slv, q_fzl, q_oWs, q_un, q_kun, q_unE, q_and, q_or, q_not, q_thenB, q_andt, q_andf, q_ort, q_orf, q_knot, q_fB, q_kB, q_tru, q_ktru, q_truB, q_bnot, q_kbnot, q_band, q_bor, q_bandt, q_bandf, q_bort, q_borf, q_vif, q_vift, q_viff, q_anil, q_acons, q_kcons1, q_kcons2, q_tup, q_lst, q_ktup, q_klst, q_gnil, q_gval, q_kval1, q_kval2, q_gio, q_kio, q_call, q_finv, q_fint, q_finn, q_fine, q_fins, q_kcall, q_held, q_slHo, q_slHi, q_setL, q_slSo, q_slSi, q_setIx, q_kSetIx, q_setIx1, q_kSetIx2, q_setIx2, q_setIx3, q_app, q_app1, q_kApp, q_app2, q_ns, q_knsv, q_knst, q_par, q_kpar1, q_kpvv, q_kpvt, q_kptv, q_kptt, q_put2, q_sl, q_ksl1, q_ksl2, q_ksl3, q_sl4, q_ono, q_osome, q_kO, q_for, q_iseq, q_kseqT, q_kseqL, q_kseqS, q_isIo, q_ioV, q_ioE, q_ioO, q_nmG, q_frzS, q_frzV, q_frzT, q_fzSV, q_fzSO, q_kfzs, q_fzP, q_knss, q_nsP, q_came, q_cameO, q_cameX, q_cameF, q_cameW, q_mask, q_maskV, q_maskO, q_lenT, q_lenL, q_lenS, q_gLt, q_gLe, q_gGt, q_gGe, q_gInt, q_gAdd, q_gSub, q_gNeg, q_rR1, q_rR2, q_rs1, q_rs2, startE, finS, outs, outS, agSls, agSl, ios, callC, resC, isHeld, gIsi, D.seq?, tru, q_bok, q_sok, q_bexc, q_sxc, q_bstk, q_sstk, List.length_cons, List.length_nil, List.getElem?_cons_zero, List.getElem?_cons_succ, List.append_nil, List.replicate, Option.map_some, Option.map_none, List.mapIdx_cons, List.mapIdx_nil, Nat.sub_self, List.cons_append, List.nil_append, Bool.not_false, Bool.not_true, List.set_cons_zero, List.set_cons_succ, Bool.false_eq_true, if_true, if_false, reduceIte, decide_true, Nat.zero_add, Nat.reduceAdd, Nat.reduceSub, Nat.reduceBEq, beq_self_eq_true, List.nodup_nil, List.length_map, List.map_cons, List.map_nil, eq_self, ite_true, ite_false, FF__law_int, ev__law_int, D.ty, a2, fChain, iw]
    cases h1 : decide (lo ≤ i) <;> rfl
  | dic _ _ => exact (hv rfl).elim
  | dit _ _ => exact (hv rfl).elim
  | opq _ => exact (hv rfl).elim
  | _ => rfl
theorem m_made (v : D) (lo hi : Int) (hv : v.py ≠ none) : FF__law_made [.val v, .val (.int lo), .val (.int hi)] = .ret [.val v, .val (.int lo), .val (.int hi)] (.val (.bl (wide v lo hi))) := m_is_wide v lo hi (py_ty hv)
theorem wide_tup {v : D} {lo hi : Int} (h : wide v lo hi = true) : ∃ xs, v = .tup xs ∧ lo ≤ (xs.length : Nat) ∧ ((xs.length : Nat) : Int) ≤ hi := by
  cases v with
  | tup xs =>
    have h : (decide (lo ≤ (xs.length : Nat)) && decide (((xs.length : Nat) : Int) ≤ hi)) = true := h
    rw [Bool.and_eq_true, decide_eq_true_eq, decide_eq_true_eq] at h
    exact ⟨xs, rfl, h⟩
  | _ => cases h
theorem gNe_ones {α : Type} (l : List α) : gNe (.lst (l.map fun _ => D.int 1)) (.lst []) = some (.val (.bl (!decide (l = [])))) := by
  have h1 : D.pys (l.map fun _ => D.int 1) = some ((l.map fun _ => (1 : Int)).map PyData.int) := by
    rw [← py_ints, List.map_map]; rfl
  unfold gNe gEqv
  show (match (D.pys (l.map fun _ => D.int 1)).map PyData.list, some (PyData.list []) with | some p, some q => if SeqAt.shaped p && SeqAt.shaped q then some (Wv.val (.bl (not (PyData.eqv p q)))) else none | _, _ => none) = _
  rw [h1]
  have s := sh_ints (l.map fun _ => (1 : Int))
  have q := eqv_ints (l.map fun _ => (1 : Int)) []
  show (if SeqAt.shaped (PyData.list ((l.map fun _ => (1 : Int)).map PyData.int)) && SeqAt.shaped (.list []) then some (Wv.val (.bl (not (PyData.eqv (PyData.list ((l.map fun _ => (1 : Int)).map PyData.int)) (.list []))))) else none) = _
  have q : (PyData.list ((l.map fun _ => (1 : Int)).map PyData.int)).eqv (PyData.list []) = decide (l.map (fun _ => (1 : Int)) = []) := q
  rw [s, q]
  cases l <;> rfl
theorem filt_nil {α : Type} (p : α → Bool) (l : List α) : decide (l.filter (fun a => !p a) = []) = l.all p := by
  rw [Bool.eq_iff_iff, decide_eq_true_eq, List.filter_eq_nil_iff, List.all_eq_true]
  simp
theorem m_good_way (v : D) (many : Int) (hv : v.py ≠ none) : FF__law_good_way [.val v, .val (.int many)] = .ret [.val v, .val (.int many)] (.val (.bl (way v many))) := by
  have w1 := m_made v 2 2 hv
  cases hw : wide v 2 2 with
  | false =>
    have : way v many = false := by
      cases v with
      | tup xs =>
        match xs, hw with
        | [a, b], hw => cases hw
        | [], _ => rfl
        | [a], _ => rfl
        | a :: b :: c :: r, _ => cases b <;> rfl
      | _ => rfl
    simp only [q_seq, q_nx, q_rt, q_bk, q_exc, q_nil, q_ret, q_kret, q_retN, q_if, q_ift, q_iff, q_expr, q_kexpr, q_sexc, q_set, q_ksetv, q_ksett, q_c, q_v, q_vv, q_vo, q_vi, q_fz, q_kfzv, q_kfzt, q_op, q_op1, q_op2, q_opE, q_lv, q_lt, q_ls, q_slo, q_sli, q_slv, q_fzl, q_oWs, q_un, q_kun, q_unE, q_and, q_or, q_not, q_thenB, q_andt, q_andf, q_ort, q_orf, q_knot, q_fB, q_kB, q_tru, q_ktru, q_truB, q_bnot, q_kbnot, q_band, q_bor, q_bandt, q_bandf, q_bort, q_borf, q_vif, q_vift, q_viff, q_anil, q_acons, q_kcons1, q_kcons2, q_tup, q_lst, q_ktup, q_klst, q_gnil, q_gval, q_kval1, q_kval2, q_gio, q_kio, q_call, q_finv, q_fint, q_finn, q_fine, q_fins, q_kcall, q_held, q_slHo, q_slHi, q_setL, q_slSo, q_slSi, q_setIx, q_kSetIx, q_setIx1, q_kSetIx2, q_setIx2, q_setIx3, q_app, q_app1, q_kApp, q_app2, q_ns, q_knsv, q_knst, q_par, q_kpar1, q_kpvv, q_kpvt, q_kptv, q_kptt, q_put2, q_sl, q_ksl1, q_ksl2, q_ksl3, q_sl4, q_ono, q_osome, q_kO, q_for, q_iseq, q_kseqT, q_kseqL, q_kseqS, q_isIo, q_ioV, q_ioE, q_ioO, q_nmG, q_frzS, q_frzV, q_frzT, q_fzSV, q_fzSO, q_kfzs, q_fzP, q_knss, q_nsP, q_came, q_cameO, q_cameX, q_cameF, q_cameW, q_mask, q_maskV, q_maskO, q_lenT, q_lenL, q_lenS, q_gLt, q_gLe, q_gGt, q_gGe, q_gInt, q_gAdd, q_gSub, q_gNeg, q_rR1, q_rR2, q_rs1, q_rs2, startE, finS, outs, outS, agSls, agSl, ios, callC, resC, isHeld, gIsi, D.seq?, tru, q_bok, q_sok, q_bexc, q_sxc, q_bstk, q_sstk, List.length_cons, List.length_nil, List.getElem?_cons_zero, List.getElem?_cons_succ, List.append_nil, List.replicate, Option.map_some, Option.map_none, List.mapIdx_cons, List.mapIdx_nil, Nat.sub_self, List.cons_append, List.nil_append, Bool.not_false, Bool.not_true, List.set_cons_zero, List.set_cons_succ, Bool.false_eq_true, if_true, if_false, reduceIte, decide_true, Nat.zero_add, Nat.reduceAdd, Nat.reduceSub, Nat.reduceBEq, beq_self_eq_true, List.nodup_nil, List.length_map, List.map_cons, List.map_nil, eq_self, ite_true, ite_false, FF__law_good_way, ev__law_good_way, w1, hw, this]
  | true =>
    obtain ⟨xs, rfl, l1, l2⟩ := wide_tup hw
    match xs, hv, l1, l2, w1, hw with
    | [a, b], hv, _, _, w1, hw =>
    have pa := pys_mem (py_tup hv) a (by simp)
    have pb := pys_mem (py_tup hv) b (by simp)
    have i0 : gIx (.tup [a, b]) (.int 0) = some (.val a) := rfl
    have i1 : gIx (.tup [a, b]) (.int 1) = some (.val b) := rfl
    have w2 := m_int a 0 9 pa
    have w3 := m_made b 0 2 pb
    cases hi : iw a 0 9 with
    | false =>
      have : way (.tup [a, b]) many = false := by
        cases b <;> first | rfl | (show (iw a 0 9 && _) = false; rw [hi]; rfl)
      simp only [q_seq, q_nx, q_rt, q_bk, q_exc, q_nil, q_ret, q_kret, q_retN, q_if, q_ift, q_iff, q_expr, q_kexpr, q_sexc, q_set, q_ksetv, q_ksett, q_c, q_v, q_vv, q_vo, q_vi, q_fz, q_kfzv, q_kfzt, q_op, q_op1, q_op2, q_opE, q_lv, q_lt, q_ls, q_slo, q_sli, q_slv, q_fzl, q_oWs, q_un, q_kun, q_unE, q_and, q_or, q_not, q_thenB, q_andt, q_andf, q_ort, q_orf, q_knot, q_fB, q_kB, q_tru, q_ktru, q_truB, q_bnot, q_kbnot, q_band, q_bor, q_bandt, q_bandf, q_bort, q_borf, q_vif, q_vift, q_viff, q_anil, q_acons, q_kcons1, q_kcons2, q_tup, q_lst, q_ktup, q_klst, q_gnil, q_gval, q_kval1, q_kval2, q_gio, q_kio, q_call, q_finv, q_fint, q_finn, q_fine, q_fins, q_kcall, q_held, q_slHo, q_slHi, q_setL, q_slSo, q_slSi, q_setIx, q_kSetIx, q_setIx1, q_kSetIx2, q_setIx2, q_setIx3, q_app, q_app1, q_kApp, q_app2, q_ns, q_knsv, q_knst, q_par, q_kpar1, q_kpvv, q_kpvt, q_kptv, q_kptt, q_put2, q_sl, q_ksl1, q_ksl2, q_ksl3, q_sl4, q_ono, q_osome, q_kO, q_for, q_iseq, q_kseqT, q_kseqL, q_kseqS, q_isIo, q_ioV, q_ioE, q_ioO, q_nmG, q_frzS, q_frzV, q_frzT, q_fzSV, q_fzSO, q_kfzs, q_fzP, q_knss, q_nsP, q_came, q_cameO, q_cameX, q_cameF, q_cameW, q_mask, q_maskV, q_maskO, q_lenT, q_lenL, q_lenS, q_gLt, q_gLe, q_gGt, q_gGe, q_gInt, q_gAdd, q_gSub, q_gNeg, q_rR1, q_rR2, q_rs1, q_rs2, startE, finS, outs, outS, agSls, agSl, ios, callC, resC, isHeld, gIsi, D.seq?, tru, q_bok, q_sok, q_bexc, q_sxc, q_bstk, q_sstk, List.length_cons, List.length_nil, List.getElem?_cons_zero, List.getElem?_cons_succ, List.append_nil, List.replicate, Option.map_some, Option.map_none, List.mapIdx_cons, List.mapIdx_nil, Nat.sub_self, List.cons_append, List.nil_append, Bool.not_false, Bool.not_true, List.set_cons_zero, List.set_cons_succ, Bool.false_eq_true, if_true, if_false, reduceIte, decide_true, Nat.zero_add, Nat.reduceAdd, Nat.reduceSub, Nat.reduceBEq, beq_self_eq_true, List.nodup_nil, List.length_map, List.map_cons, List.map_nil, eq_self, ite_true, ite_false, FF__law_good_way, ev__law_good_way, w1, hw, i0, i1, w2, hi, this]
    | true =>
      cases hz : wide b 0 2 with
      | false =>
        have : way (.tup [a, b]) many = false := by
          cases b with
          | tup cs =>
            have hz : (decide ((0 : Int) ≤ (cs.length : Nat)) && decide (((cs.length : Nat) : Int) ≤ 2)) = false := hz
            have : decide (cs.length ≤ 2) = false := by
              rw [Bool.and_eq_false_iff, decide_eq_false_iff_not, decide_eq_false_iff_not] at hz
              rw [decide_eq_false_iff_not]
              omega
            show (iw a 0 9 && (decide (cs.length ≤ 2) && _)) = false
            rw [hi, this]; rfl
          | _ => rfl
        simp only [q_seq, q_nx, q_rt, q_bk, q_exc, q_nil, q_ret, q_kret, q_retN, q_if, q_ift, q_iff, q_expr, q_kexpr, q_sexc, q_set, q_ksetv, q_ksett, q_c, q_v, q_vv, q_vo, q_vi, q_fz, q_kfzv, q_kfzt, q_op, q_op1, q_op2, q_opE, q_lv, q_lt, q_ls, q_slo, q_sli, q_slv, q_fzl, q_oWs, q_un, q_kun, q_unE, q_and, q_or, q_not, q_thenB, q_andt, q_andf, q_ort, q_orf, q_knot, q_fB, q_kB, q_tru, q_ktru, q_truB, q_bnot, q_kbnot, q_band, q_bor, q_bandt, q_bandf, q_bort, q_borf, q_vif, q_vift, q_viff, q_anil, q_acons, q_kcons1, q_kcons2, q_tup, q_lst, q_ktup, q_klst, q_gnil, q_gval, q_kval1, q_kval2, q_gio, q_kio, q_call, q_finv, q_fint, q_finn, q_fine, q_fins, q_kcall, q_held, q_slHo, q_slHi, q_setL, q_slSo, q_slSi, q_setIx, q_kSetIx, q_setIx1, q_kSetIx2, q_setIx2, q_setIx3, q_app, q_app1, q_kApp, q_app2, q_ns, q_knsv, q_knst, q_par, q_kpar1, q_kpvv, q_kpvt, q_kptv, q_kptt, q_put2, q_sl, q_ksl1, q_ksl2, q_ksl3, q_sl4, q_ono, q_osome, q_kO, q_for, q_iseq, q_kseqT, q_kseqL, q_kseqS, q_isIo, q_ioV, q_ioE, q_ioO, q_nmG, q_frzS, q_frzV, q_frzT, q_fzSV, q_fzSO, q_kfzs, q_fzP, q_knss, q_nsP, q_came, q_cameO, q_cameX, q_cameF, q_cameW, q_mask, q_maskV, q_maskO, q_lenT, q_lenL, q_lenS, q_gLt, q_gLe, q_gGt, q_gGe, q_gInt, q_gAdd, q_gSub, q_gNeg, q_rR1, q_rR2, q_rs1, q_rs2, startE, finS, outs, outS, agSls, agSl, ios, callC, resC, isHeld, gIsi, D.seq?, tru, q_bok, q_sok, q_bexc, q_sxc, q_bstk, q_sstk, List.length_cons, List.length_nil, List.getElem?_cons_zero, List.getElem?_cons_succ, List.append_nil, List.replicate, Option.map_some, Option.map_none, List.mapIdx_cons, List.mapIdx_nil, Nat.sub_self, List.cons_append, List.nil_append, Bool.not_false, Bool.not_true, List.set_cons_zero, List.set_cons_succ, Bool.false_eq_true, if_true, if_false, reduceIte, decide_true, Nat.zero_add, Nat.reduceAdd, Nat.reduceSub, Nat.reduceBEq, beq_self_eq_true, List.nodup_nil, List.length_map, List.map_cons, List.map_nil, eq_self, ite_true, ite_false, FF__law_good_way, ev__law_good_way, w1, hw, i0, i1, w2, w3, hi, hz, this]
      | true =>
        obtain ⟨cs, rfl, c1, c2⟩ := wide_tup hz
        have hlen : cs.length ≤ 2 := by omega
        have hlc := fLc_pure (i := 2) (fi := iSeq (fFz (fOp gIx (fV 0) (fC (D.int 1))))) (t := bNot (fTru (fCall 3 FF__law_int (gVal (fFz (fV 2)) (gVal (fFz (fC (.int 0))) (gVal (fFz (fOp DL.gSub (fV 1) (fC (.int 1)))) DL.gNil)))))) (fe := fFz (fC (.int 1))) (f := fun _ => D.int 1) (p := fun c => !iw c 0 (many - 1)) (ρ := [Sl.val (D.tup [a, .tup cs]), Sl.val (D.int many), Sl.emp]) (ρ1 := [Sl.val (D.tup [a, .tup cs]), Sl.val (D.int many), Sl.emp]) (ds := cs) (by rfl) (by show 2 < 3; decide) (fun d hd => by
          have pd := pys_mem (py_tup pb) d hd
          have w4 := m_int d 0 (many - 1) pd
          simp only [q_seq, q_nx, q_rt, q_bk, q_exc, q_nil, q_ret, q_kret, q_retN, q_if, q_ift, q_iff, q_expr, q_kexpr, q_sexc, q_set, q_ksetv, q_ksett, q_c, q_v, q_vv, q_vo, q_vi, q_fz, q_kfzv, q_kfzt, q_op, q_op1, q_op2, q_opE, q_lv, q_lt, q_ls, q_slo, q_sli, q_slv, q_fzl, q_oWs, q_un, q_kun, q_unE, q_and, q_or, q_not, q_thenB, q_andt, q_andf, q_ort, q_orf, q_knot, q_fB, q_kB, q_tru, q_ktru, q_truB, q_bnot, q_kbnot, q_band, q_bor, q_bandt, q_bandf, q_bort, q_borf, q_vif, q_vift, q_viff, q_anil, q_acons, q_kcons1, q_kcons2, q_tup, q_lst, q_ktup, q_klst, q_gnil, q_gval, q_kval1, q_kval2, q_gio, q_kio, q_call, q_finv, q_fint, q_finn, q_fine, q_fins, q_kcall, q_held, q_slHo, q_slHi, q_setL, q_slSo, q_slSi, q_setIx, q_kSetIx, q_setIx1, q_kSetIx2, q_setIx2, q_setIx3, q_app, q_app1, q_kApp, q_app2, q_ns, q_knsv, q_knst, q_par, q_kpar1, q_kpvv, q_kpvt, q_kptv, q_kptt, q_put2, q_sl, q_ksl1, q_ksl2, q_ksl3, q_sl4, q_ono, q_osome, q_kO, q_for, q_iseq, q_kseqT, q_kseqL, q_kseqS, q_isIo, q_ioV, q_ioE, q_ioO, q_nmG, q_frzS, q_frzV, q_frzT, q_fzSV, q_fzSO, q_kfzs, q_fzP, q_knss, q_nsP, q_came, q_cameO, q_cameX, q_cameF, q_cameW, q_mask, q_maskV, q_maskO, q_lenT, q_lenL, q_lenS, q_gLt, q_gLe, q_gGt, q_gGe, q_gInt, q_gAdd, q_gSub, q_gNeg, q_rR1, q_rR2, q_rs1, q_rs2, startE, finS, outs, outS, agSls, agSl, ios, callC, resC, isHeld, gIsi, D.seq?, tru, q_bok, q_sok, q_bexc, q_sxc, q_bstk, q_sstk, List.length_cons, List.length_nil, List.getElem?_cons_zero, List.getElem?_cons_succ, List.append_nil, List.replicate, Option.map_some, Option.map_none, List.mapIdx_cons, List.mapIdx_nil, Nat.sub_self, List.cons_append, List.nil_append, Bool.not_false, Bool.not_true, List.set_cons_zero, List.set_cons_succ, Bool.false_eq_true, if_true, if_false, reduceIte, decide_true, Nat.zero_add, Nat.reduceAdd, Nat.reduceSub, Nat.reduceBEq, beq_self_eq_true, List.nodup_nil, List.length_map, List.map_cons, List.map_nil, eq_self, ite_true, ite_false, w4]) (fun d _ _ => rfl) (by omega)
        have ge := gNe_ones (cs.filter fun c => !iw c 0 (many - 1))
        have fn : decide (cs.filter (fun c => !iw c 0 (many - 1)) = []) = iwAll cs (many - 1) := filt_nil (fun c => iw c 0 (many - 1)) cs
        rw [fn] at ge
        have f0 : fits 0 = true := by decide
        cases ha : iwAll cs (many - 1) with
        | false =>
          have : way (.tup [a, .tup cs]) many = false := by
            show (iw a 0 9 && (decide (cs.length ≤ 2) && (iwAll cs (many - 1) && sortedD cs))) = false
            rw [ha, Bool.false_and, Bool.and_false, Bool.and_false]
          simp only [q_seq, q_nx, q_rt, q_bk, q_exc, q_nil, q_ret, q_kret, q_retN, q_if, q_ift, q_iff, q_expr, q_kexpr, q_sexc, q_set, q_ksetv, q_ksett, q_c, q_v, q_vv, q_vo, q_vi, q_fz, q_kfzv, q_kfzt, q_op, q_op1, q_op2, q_opE, q_lv, q_lt, q_ls, q_slo, q_sli, q_slv, q_fzl, q_oWs, q_un, q_kun, q_unE, q_and, q_or, q_not, q_thenB, q_andt, q_andf, q_ort, q_orf, q_knot, q_fB, q_kB, q_tru, q_ktru, q_truB, q_bnot, q_kbnot, q_band, q_bor, q_bandt, q_bandf, q_bort, q_borf, q_vif, q_vift, q_viff, q_anil, q_acons, q_kcons1, q_kcons2, q_tup, q_lst, q_ktup, q_klst, q_gnil, q_gval, q_kval1, q_kval2, q_gio, q_kio, q_call, q_finv, q_fint, q_finn, q_fine, q_fins, q_kcall, q_held, q_slHo, q_slHi, q_setL, q_slSo, q_slSi, q_setIx, q_kSetIx, q_setIx1, q_kSetIx2, q_setIx2, q_setIx3, q_app, q_app1, q_kApp, q_app2, q_ns, q_knsv, q_knst, q_par, q_kpar1, q_kpvv, q_kpvt, q_kptv, q_kptt, q_put2, q_sl, q_ksl1, q_ksl2, q_ksl3, q_sl4, q_ono, q_osome, q_kO, q_for, q_iseq, q_kseqT, q_kseqL, q_kseqS, q_isIo, q_ioV, q_ioE, q_ioO, q_nmG, q_frzS, q_frzV, q_frzT, q_fzSV, q_fzSO, q_kfzs, q_fzP, q_knss, q_nsP, q_came, q_cameO, q_cameX, q_cameF, q_cameW, q_mask, q_maskV, q_maskO, q_lenT, q_lenL, q_lenS, q_gLt, q_gLe, q_gGt, q_gGe, q_gInt, q_gAdd, q_gSub, q_gNeg, q_rR1, q_rR2, q_rs1, q_rs2, startE, finS, outs, outS, agSls, agSl, ios, callC, resC, isHeld, gIsi, D.seq?, tru, q_bok, q_sok, q_bexc, q_sxc, q_bstk, q_sstk, List.length_cons, List.length_nil, List.getElem?_cons_zero, List.getElem?_cons_succ, List.append_nil, List.replicate, Option.map_some, Option.map_none, List.mapIdx_cons, List.mapIdx_nil, Nat.sub_self, List.cons_append, List.nil_append, Bool.not_false, Bool.not_true, List.set_cons_zero, List.set_cons_succ, Bool.false_eq_true, if_true, if_false, reduceIte, decide_true, Nat.zero_add, Nat.reduceAdd, Nat.reduceSub, Nat.reduceBEq, beq_self_eq_true, List.nodup_nil, List.length_map, List.map_cons, List.map_nil, eq_self, ite_true, ite_false, FF__law_good_way, ev__law_good_way, w1, hw, i0, i1, w2, w3, hi, hz, hlc, f0, ge, ha, this]
        | true =>
          obtain ⟨ns, rfl, _⟩ := ints_of_all ha
          have wy : way (.tup [a, .tup (ns.map D.int)]) many = decide (ns = isort ns) := by
            show (iw a 0 9 && (decide ((ns.map D.int).length ≤ 2) && (iwAll (ns.map D.int) (many - 1) && sortedD (ns.map D.int)))) = _
            rw [hi, ha, decide_eq_true hlen]
            show sortedD (ns.map D.int) = _
            unfold sortedD
            rw [intsO_map]
          rcases ns with _ | ⟨x, _ | ⟨y, _ | ⟨z, r⟩⟩⟩
          · --
            have dd : decide (((0 : Nat) : Int) < 2) = true := rfl
            simp only [List.map_nil] at hlc wy ge w1 w2 w3 i0 i1 ha hw hz
            simp only [q_seq, q_nx, q_rt, q_bk, q_exc, q_nil, q_ret, q_kret, q_retN, q_if, q_ift, q_iff, q_expr, q_kexpr, q_sexc, q_set, q_ksetv, q_ksett, q_c, q_v, q_vv, q_vo, q_vi, q_fz, q_kfzv, q_kfzt, q_op, q_op1, q_op2, q_opE, q_lv, q_lt, q_ls, q_slo, q_sli, q_slv, q_fzl, q_oWs, q_un, q_kun, q_unE, q_and, q_or, q_not, q_thenB, q_andt, q_andf, q_ort, q_orf, q_knot, q_fB, q_kB, q_tru, q_ktru, q_truB, q_bnot, q_kbnot, q_band, q_bor, q_bandt, q_bandf, q_bort, q_borf, q_vif, q_vift, q_viff, q_anil, q_acons, q_kcons1, q_kcons2, q_tup, q_lst, q_ktup, q_klst, q_gnil, q_gval, q_kval1, q_kval2, q_gio, q_kio, q_call, q_finv, q_fint, q_finn, q_fine, q_fins, q_kcall, q_held, q_slHo, q_slHi, q_setL, q_slSo, q_slSi, q_setIx, q_kSetIx, q_setIx1, q_kSetIx2, q_setIx2, q_setIx3, q_app, q_app1, q_kApp, q_app2, q_ns, q_knsv, q_knst, q_par, q_kpar1, q_kpvv, q_kpvt, q_kptv, q_kptt, q_put2, q_sl, q_ksl1, q_ksl2, q_ksl3, q_sl4, q_ono, q_osome, q_kO, q_for, q_iseq, q_kseqT, q_kseqL, q_kseqS, q_isIo, q_ioV, q_ioE, q_ioO, q_nmG, q_frzS, q_frzV, q_frzT, q_fzSV, q_fzSO, q_kfzs, q_fzP, q_knss, q_nsP, q_came, q_cameO, q_cameX, q_cameF, q_cameW, q_mask, q_maskV, q_maskO, q_lenT, q_lenL, q_lenS, q_gLt, q_gLe, q_gGt, q_gGe, q_gInt, q_gAdd, q_gSub, q_gNeg, q_rR1, q_rR2, q_rs1, q_rs2, startE, finS, outs, outS, agSls, agSl, ios, callC, resC, isHeld, gIsi, D.seq?, tru, q_bok, q_sok, q_bexc, q_sxc, q_bstk, q_sstk, List.length_cons, List.length_nil, List.getElem?_cons_zero, List.getElem?_cons_succ, List.append_nil, List.replicate, Option.map_some, Option.map_none, List.mapIdx_cons, List.mapIdx_nil, Nat.sub_self, List.cons_append, List.nil_append, Bool.not_false, Bool.not_true, List.set_cons_zero, List.set_cons_succ, Bool.false_eq_true, if_true, if_false, reduceIte, decide_true, Nat.zero_add, Nat.reduceAdd, Nat.reduceSub, Nat.reduceBEq, beq_self_eq_true, List.nodup_nil, List.length_map, List.map_cons, List.map_nil, eq_self, ite_true, ite_false, FF__law_good_way, ev__law_good_way, w1, hw, i0, i1, w2, w3, hi, hz, hlc, f0, ge, ha, dd, wy, List.map_nil]
            rfl
          · --
            have dd : decide (((1 : Nat) : Int) < 2) = true := rfl
            simp only [List.map_nil, List.map_cons] at hlc wy ge w1 w2 w3 i0 i1 ha hw hz
            simp only [q_seq, q_nx, q_rt, q_bk, q_exc, q_nil, q_ret, q_kret, q_retN, q_if, q_ift, q_iff, q_expr, q_kexpr, q_sexc, q_set, q_ksetv, q_ksett, q_c, q_v, q_vv, q_vo, q_vi, q_fz, q_kfzv, q_kfzt, q_op, q_op1, q_op2, q_opE, q_lv, q_lt, q_ls, q_slo, q_sli, q_slv, q_fzl, q_oWs, q_un, q_kun, q_unE, q_and, q_or, q_not, q_thenB, q_andt, q_andf, q_ort, q_orf, q_knot, q_fB, q_kB, q_tru, q_ktru, q_truB, q_bnot, q_kbnot, q_band, q_bor, q_bandt, q_bandf, q_bort, q_borf, q_vif, q_vift, q_viff, q_anil, q_acons, q_kcons1, q_kcons2, q_tup, q_lst, q_ktup, q_klst, q_gnil, q_gval, q_kval1, q_kval2, q_gio, q_kio, q_call, q_finv, q_fint, q_finn, q_fine, q_fins, q_kcall, q_held, q_slHo, q_slHi, q_setL, q_slSo, q_slSi, q_setIx, q_kSetIx, q_setIx1, q_kSetIx2, q_setIx2, q_setIx3, q_app, q_app1, q_kApp, q_app2, q_ns, q_knsv, q_knst, q_par, q_kpar1, q_kpvv, q_kpvt, q_kptv, q_kptt, q_put2, q_sl, q_ksl1, q_ksl2, q_ksl3, q_sl4, q_ono, q_osome, q_kO, q_for, q_iseq, q_kseqT, q_kseqL, q_kseqS, q_isIo, q_ioV, q_ioE, q_ioO, q_nmG, q_frzS, q_frzV, q_frzT, q_fzSV, q_fzSO, q_kfzs, q_fzP, q_knss, q_nsP, q_came, q_cameO, q_cameX, q_cameF, q_cameW, q_mask, q_maskV, q_maskO, q_lenT, q_lenL, q_lenS, q_gLt, q_gLe, q_gGt, q_gGe, q_gInt, q_gAdd, q_gSub, q_gNeg, q_rR1, q_rR2, q_rs1, q_rs2, startE, finS, outs, outS, agSls, agSl, ios, callC, resC, isHeld, gIsi, D.seq?, tru, q_bok, q_sok, q_bexc, q_sxc, q_bstk, q_sstk, List.length_cons, List.length_nil, List.getElem?_cons_zero, List.getElem?_cons_succ, List.append_nil, List.replicate, Option.map_some, Option.map_none, List.mapIdx_cons, List.mapIdx_nil, Nat.sub_self, List.cons_append, List.nil_append, Bool.not_false, Bool.not_true, List.set_cons_zero, List.set_cons_succ, Bool.false_eq_true, if_true, if_false, reduceIte, decide_true, Nat.zero_add, Nat.reduceAdd, Nat.reduceSub, Nat.reduceBEq, beq_self_eq_true, List.nodup_nil, List.length_map, List.map_cons, List.map_nil, eq_self, ite_true, ite_false, FF__law_good_way, ev__law_good_way, w1, hw, i0, i1, w2, w3, hi, hz, hlc, f0, ge, ha, dd, wy, List.map_nil, List.map_cons]
            rw [show isort [x] = [x] from rfl, decide_eq_true rfl]
          · --
            have dd : decide (((2 : Nat) : Int) < 2) = false := rfl
            simp only [List.map_nil, List.map_cons] at hlc wy ge w1 w2 w3 i0 i1 ha hw hz
            have j0 : gIx (.tup [.int x, .int y]) (.int 0) = some (.val (.int x)) := rfl
            have j1 : gIx (.tup [.int x, .int y]) (.int 1) = some (.val (.int y)) := rfl
            have e : decide ([x, y] = isort [x, y]) = decide (x ≤ y) := by
              show decide ([x, y] = if x ≤ y then x :: [y] else y :: [x]) = _
              by_cases h : x ≤ y
              · rw [if_pos h, decide_eq_true rfl, decide_eq_true h]
              · rw [if_neg h, decide_eq_false h, decide_eq_false]
                intro z
                have z1 : x = y := (List.cons.inj z).1
                omega
            rw [e] at wy
            simp only [q_seq, q_nx, q_rt, q_bk, q_exc, q_nil, q_ret, q_kret, q_retN, q_if, q_ift, q_iff, q_expr, q_kexpr, q_sexc, q_set, q_ksetv, q_ksett, q_c, q_v, q_vv, q_vo, q_vi, q_fz, q_kfzv, q_kfzt, q_op, q_op1, q_op2, q_opE, q_lv, q_lt, q_ls, q_slo, q_sli, q_slv, q_fzl, q_oWs, q_un, q_kun, q_unE, q_and, q_or, q_not, q_thenB, q_andt, q_andf, q_ort, q_orf, q_knot, q_fB, q_kB, q_tru, q_ktru, q_truB, q_bnot, q_kbnot, q_band, q_bor, q_bandt, q_bandf, q_bort, q_borf, q_vif, q_vift, q_viff, q_anil, q_acons, q_kcons1, q_kcons2, q_tup, q_lst, q_ktup, q_klst, q_gnil, q_gval, q_kval1, q_kval2, q_gio, q_kio, q_call, q_finv, q_fint, q_finn, q_fine, q_fins, q_kcall, q_held, q_slHo, q_slHi, q_setL, q_slSo, q_slSi, q_setIx, q_kSetIx, q_setIx1, q_kSetIx2, q_setIx2, q_setIx3, q_app, q_app1, q_kApp, q_app2, q_ns, q_knsv, q_knst, q_par, q_kpar1, q_kpvv, q_kpvt, q_kptv, q_kptt, q_put2, q_sl, q_ksl1, q_ksl2, q_ksl3, q_sl4, q_ono, q_osome, q_kO, q_for, q_iseq, q_kseqT, q_kseqL, q_kseqS, q_isIo, q_ioV, q_ioE, q_ioO, q_nmG, q_frzS, q_frzV, q_frzT, q_fzSV, q_fzSO, q_kfzs, q_fzP, q_knss, q_nsP, q_came, q_cameO, q_cameX, q_cameF, q_cameW, q_mask, q_maskV, q_maskO, q_lenT, q_lenL, q_lenS, q_gLt, q_gLe, q_gGt, q_gGe, q_gInt, q_gAdd, q_gSub, q_gNeg, q_rR1, q_rR2, q_rs1, q_rs2, startE, finS, outs, outS, agSls, agSl, ios, callC, resC, isHeld, gIsi, D.seq?, tru, q_bok, q_sok, q_bexc, q_sxc, q_bstk, q_sstk, List.length_cons, List.length_nil, List.getElem?_cons_zero, List.getElem?_cons_succ, List.append_nil, List.replicate, Option.map_some, Option.map_none, List.mapIdx_cons, List.mapIdx_nil, Nat.sub_self, List.cons_append, List.nil_append, Bool.not_false, Bool.not_true, List.set_cons_zero, List.set_cons_succ, Bool.false_eq_true, if_true, if_false, reduceIte, decide_true, Nat.zero_add, Nat.reduceAdd, Nat.reduceSub, Nat.reduceBEq, beq_self_eq_true, List.nodup_nil, List.length_map, List.map_cons, List.map_nil, eq_self, ite_true, ite_false, FF__law_good_way, ev__law_good_way, w1, hw, i0, i1, j0, j1, w2, w3, hi, hz, hlc, f0, ge, ha, dd, wy, List.map_nil, List.map_cons]
          · simp at hlen
end K01
namespace K01
open PySem PySem.Spec
open PyProof.Rows hiding St
open L2 DL
/-! unlike ways -/
theorem met_go : ∀ (l acc : List WK), acc.Nodup → (l.foldl (fun acc k => if k ∈ acc then acc else acc ++ [k]) acc).length ≤ acc.length + l.length ∧ ((l.foldl (fun acc k => if k ∈ acc then acc else acc ++ [k]) acc).length = acc.length + l.length ↔ (acc ++ l).Nodup)
  | [], acc, h => by simp [h]
  | k :: l, acc, h => by
    show (l.foldl _ (if k ∈ acc then acc else acc ++ [k])).length ≤ _ ∧ ((l.foldl _ (if k ∈ acc then acc else acc ++ [k])).length = _ ↔ _)
    by_cases hk : k ∈ acc
    · rw [if_pos hk]
      obtain ⟨h1, h2⟩ := met_go l acc h
      refine ⟨by simp only [List.length_cons]; omega, ⟨fun z => by simp only [List.length_cons] at z; omega, fun z => ?_⟩⟩
      have := (List.nodup_append.mp z).2.2 k hk k List.mem_cons_self
      exact (this rfl).elim
    · rw [if_neg hk]
      have hn : (acc ++ [k]).Nodup := List.nodup_append.mpr ⟨h, List.nodup_cons.mpr ⟨by simp, List.nodup_nil⟩, fun x hx y hy => by rw [List.mem_singleton.mp hy]; exact fun z => hk (z ▸ hx)⟩
      obtain ⟨h1, h2⟩ := met_go l (acc ++ [k]) hn
      rw [List.append_assoc, List.singleton_append] at h2
      simp only [List.length_append, List.length_cons, List.length_nil] at h1 h2 ⊢
      exact ⟨by omega, by rw [← h2]; constructor <;> intro z <;> omega⟩
theorem met_iff (l : List WK) : (met l).length = l.length ↔ l.Nodup := by
  have h := (met_go l [] List.nodup_nil).2
  simpa [met] using h
theorem waysK_of : ∀ {ds : List D} {ks : List WK}, waysK ds = some ks → ds = ks.map wayD
  | [], ks, e => by cases e; rfl
  | d :: ds, ks, e => by
    have e : (match wayK d, waysK ds with | some k, some ks => some (k :: ks) | _, _ => none) = some ks := e
    cases e1 : wayK d with
    | none => rw [e1] at e; cases e
    | some k =>
      cases e2 : waysK ds with
      | none => rw [e1, e2] at e; cases e
      | some ls =>
        rw [e1, e2] at e
        cases e
        rw [waysK_of e2]
        have : d = wayD k := by
          unfold wayK at e1
          split at e1
          · rename_i m cs
            cases z : DL.intsO cs with
            | none => rw [z] at e1; cases e1
            | some ns =>
              rw [z] at e1
              simp only [] at e1
              split at e1
              · cases e1; rw [DL.intsO_eq z]; rfl
              · cases e1
          · cases e1
        rw [this]; rfl
theorem way_D {d : D} {many : Int} (h : way d many = true) (hm : many ≤ 3) : ∃ k, d = wayD k ∧ wayK d = some k := by
  obtain ⟨m, ns, e1, e2, _⟩ := way_k h hm
  exact ⟨(m, ns), e1, e2⟩
theorem recipe_iff {ds : List D} {many : Int} (hm : many ≤ 3) : recipe (.tup ds) many = true ↔ wide (.tup ds) 1 3 = true ∧ (∀ d ∈ ds, way d many = true) ∧ ∃ ks, ds = ks.map wayD ∧ waysK ds = some ks ∧ ks.Nodup := by
  show (wide (.tup ds) 1 3 && ((ds.all fun d => way d many) && (match waysK ds with | some ks => decide ((met ks).length = ks.length) | none => false))) = true ↔ _
  rw [Bool.and_eq_true, Bool.and_eq_true, List.all_eq_true]
  constructor
  · rintro ⟨h1, h2, h3⟩
    obtain ⟨ks, e, _⟩ := ways_k (List.all_eq_true.mpr h2) hm
    rw [e] at h3
    exact ⟨h1, h2, ks, waysK_of e, e, (met_iff ks).mp (of_decide_eq_true h3)⟩
  · rintro ⟨h1, h2, ks, _, e, h3⟩
    exact ⟨h1, h2, by rw [e]; exact decide_eq_true ((met_iff ks).mpr h3)⟩
theorem wayD_inj {k l : WK} (h : wayD k = wayD l) : k = l := by
  obtain ⟨a, b⟩ := k
  obtain ⟨c, d⟩ := l
  simp only [wayD, D.tup.injEq, List.cons.injEq, D.int.injEq, and_true] at h
  obtain ⟨rfl, h⟩ := h
  have := congrArg DL.intsO h
  rw [DL.intsO_map, DL.intsO_map] at this
  cases this; rfl
theorem enum_cut {α : Type} (xs ys : List α) : (xs ++ ys).take xs.length = xs := by simp
theorem good_inner {v : D} {n : Nat} (hl : gLen v = some (.val (.int (n : Nat)))) (hn : (n : Int) ≤ 3) {s2 s3 : Sl} {ds : List D} (hd : (D.tup ds).py ≠ none) (f2 : s2.fr) (f3 : s3.fr) (hw : wide (.tup ds) 1 3 = true) :
    ∃ s2' s3' : Sl, s2'.fr ∧ s3'.fr ∧ forL (tupG 2 (consG (nmG 2) (consG (nmG 3) nilG))) (sSeq (sIf (bOr (bNot (fTru (fCall 2 FF__law_good_way (gVal (fFz (fV 3)) (gVal (fFz (fUn gLen (fV 0))) DL.gNil))))) (fB (fOp (gInS false) (fV 3) (fSl (fV 1) oNo (oSome (fV 2)))))) (sSeq (sRet (fC (.bl false))) sNil) sNil) sNil) (enumD 0 ds) [.val v, .val (.tup ds), s2, s3] =
      if recipe (.tup ds) n then .nx [.val v, .val (.tup ds), s2', s3'] else .rt [.val v, .val (.tup ds), s2', s3'] (.val (.bl false)) := by
  have key := forL_by (g := tupG 2 (consG (nmG 2) (consG (nmG 3) nilG))) (b := sSeq (sIf (bOr (bNot (fTru (fCall 2 FF__law_good_way (gVal (fFz (fV 3)) (gVal (fFz (fUn gLen (fV 0))) DL.gNil))))) (fB (fOp (gInS false) (fV 3) (fSl (fV 1) oNo (oSome (fV 2)))))) (sSeq (sRet (fC (.bl false))) sNil) sNil) sNil)
    (fun es ρ => ∃ (ks : List WK) (rest : List D) (s2 s3 : Sl), s2.fr ∧ s3.fr ∧ ds = ks.map wayD ++ rest ∧ es = enumD ks.length rest ∧ ks.Nodup ∧ (∀ k ∈ ks, way (wayD k) n = true) ∧ ρ = [.val v, .val (.tup ds), s2, s3])
    (fun r => ∃ s2' s3' : Sl, s2'.fr ∧ s3'.fr ∧ r = if recipe (.tup ds) n then .nx [.val v, .val (.tup ds), s2', s3'] else .rt [.val v, .val (.tup ds), s2', s3'] (.val (.bl false)))
    (fun ρ ⟨ks, rest, s2, s3, q1, q2, q3, q4, q5, q6, q7⟩ => by
      have : rest = [] := by cases rest with
        | nil => rfl
        | cons a b => cases q4
      subst this q7
      rw [List.append_nil] at q3
      have all : ∀ d ∈ ds, way d n = true := fun d hd => by
        rw [q3] at hd
        obtain ⟨k, hk, e⟩ := List.mem_map.mp hd
        rw [← e]; exact q6 k hk
      obtain ⟨ks', e', _⟩ := ways_k (List.all_eq_true.mpr all) hn
      have ek : ks' = ks := by
        have h1 := waysK_of e'
        rw [q3] at h1
        have inj : ∀ k l : WK, wayD k = wayD l → k = l := fun k l z => wayD_inj z
        have mi : ∀ xs ys : List WK, xs.map wayD = ys.map wayD → xs = ys := fun xs => by
          induction xs with
          | nil => intro ys h; cases ys with
            | nil => rfl
            | cons => cases h
          | cons x xs ih => intro ys h; cases ys with
            | nil => cases h
            | cons y ys =>
              have := List.cons.inj h
              rw [inj _ _ this.1, ih _ this.2]
        exact (mi _ _ h1).symm
      subst ek
      exact ⟨s2, s3, q1, q2, by rw [if_pos ((recipe_iff hn).mpr ⟨hw, all, ks', q3, e', q5⟩)]⟩)
    (fun x es ρ ⟨ks, rest, s2, s3, q1, q2, q3, q4, q5, q6, q7⟩ => by
      subst q7
      match rest, q3, q4 with
      | d :: rest, q3, q4 =>
      have q4 : x :: es = .tup [.int (ks.length : Nat), d] :: enumD (ks.length + 1) rest := q4
      cases q4
      have q1 : ioO (some s2) = false := q1
      have q2 : ioO (some s3) = false := q2
      have md : d ∈ ds := by rw [q3]; simp
      have pd := pys_mem (py_tup hd) d md
      have wg := m_good_way d n pd
      have len2 : ([D.int (ks.length : Nat), d] : List D).length = 2 := rfl
      refine ⟨[.val v, .val (.tup ds), .val (.int (ks.length : Nat)), .val d], ?_, ?_⟩
      · simp only [q_seq, q_nx, q_rt, q_bk, q_exc, q_nil, q_ret, q_kret, q_retN, q_if, q_ift, q_iff, q_expr, q_kexpr, q_sexc, q_set, q_ksetv, q_ksett, q_c, q_v, q_vv, q_vo, q_vi, q_fz, q_kfzv, q_kfzt, q_op, q_op1, q_op2, q_opE, q_lv, q_lt, q_ls, q_slo, q_sli, q_slv, q_fzl, q_oWs, q_un, q_kun, q_unE, q_and, q_or, q_not, q_thenB, q_andt, q_andf, q_ort, q_orf, q_knot, q_fB, q_kB, q_tru, q_ktru, q_truB, q_bnot, q_kbnot, q_band, q_bor, q_bandt, q_bandf, q_bort, q_borf, q_vif, q_vift, q_viff, q_anil, q_acons, q_kcons1, q_kcons2, q_tup, q_lst, q_ktup, q_klst, q_gnil, q_gval, q_kval1, q_kval2, q_gio, q_kio, q_call, q_finv, q_fint, q_finn, q_fine, q_fins, q_kcall, q_held, q_slHo, q_slHi, q_setL, q_slSo, q_slSi, q_setIx, q_kSetIx, q_setIx1, q_kSetIx2, q_setIx2, q_setIx3, q_app, q_app1, q_kApp, q_app2, q_ns, q_knsv, q_knst, q_par, q_kpar1, q_kpvv, q_kpvt, q_kptv, q_kptt, q_put2, q_sl, q_ksl1, q_ksl2, q_ksl3, q_sl4, q_ono, q_osome, q_kO, q_for, q_iseq, q_kseqT, q_kseqL, q_kseqS, q_isIo, q_ioV, q_ioE, q_ioO, q_nmG, q_frzS, q_frzV, q_frzT, q_fzSV, q_fzSO, q_kfzs, q_fzP, q_knss, q_nsP, q_came, q_cameO, q_cameX, q_cameF, q_cameW, q_mask, q_maskV, q_maskO, q_lenT, q_lenL, q_lenS, q_gLt, q_gLe, q_gGt, q_gGe, q_gInt, q_gAdd, q_gSub, q_gNeg, q_rR1, q_rR2, q_rs1, q_rs2, startE, finS, outs, outS, agSls, agSl, ios, callC, resC, isHeld, gIsi, D.seq?, tru, q_bok, q_sok, q_bexc, q_sxc, q_bstk, q_sstk, List.length_cons, List.length_nil, List.getElem?_cons_zero, List.getElem?_cons_succ, List.append_nil, List.replicate, Option.map_some, Option.map_none, List.mapIdx_cons, List.mapIdx_nil, Nat.sub_self, List.cons_append, List.nil_append, Bool.not_false, Bool.not_true, List.set_cons_zero, List.set_cons_succ, Bool.false_eq_true, if_true, if_false, reduceIte, decide_true, Nat.zero_add, Nat.reduceAdd, Nat.reduceSub, Nat.reduceBEq, beq_self_eq_true, List.nodup_nil, List.length_map, List.map_cons, List.map_nil, eq_self, ite_true, ite_false, tupG, consG, nilG, q1, q2, Option.bind_some]
      · cases hg : way d n with
        | false =>
          have : recipe (.tup ds) n = false := by
            cases h : recipe (.tup ds) n with
            | false => rfl
            | true =>
              have := ((recipe_iff hn).mp h).2.1 d md
              rw [hg] at this; cases this
          refine .inr (.inr (.inl ⟨[.val v, .val (.tup ds), .val (.int (ks.length : Nat)), .val d], .val (.bl false), ?_, .val (.int (ks.length : Nat)), .val d, fr_v, fr_v, ?_⟩))
          · simp only [q_seq, q_nx, q_rt, q_bk, q_exc, q_nil, q_ret, q_kret, q_retN, q_if, q_ift, q_iff, q_expr, q_kexpr, q_sexc, q_set, q_ksetv, q_ksett, q_c, q_v, q_vv, q_vo, q_vi, q_fz, q_kfzv, q_kfzt, q_op, q_op1, q_op2, q_opE, q_lv, q_lt, q_ls, q_slo, q_sli, q_slv, q_fzl, q_oWs, q_un, q_kun, q_unE, q_and, q_or, q_not, q_thenB, q_andt, q_andf, q_ort, q_orf, q_knot, q_fB, q_kB, q_tru, q_ktru, q_truB, q_bnot, q_kbnot, q_band, q_bor, q_bandt, q_bandf, q_bort, q_borf, q_vif, q_vift, q_viff, q_anil, q_acons, q_kcons1, q_kcons2, q_tup, q_lst, q_ktup, q_klst, q_gnil, q_gval, q_kval1, q_kval2, q_gio, q_kio, q_call, q_finv, q_fint, q_finn, q_fine, q_fins, q_kcall, q_held, q_slHo, q_slHi, q_setL, q_slSo, q_slSi, q_setIx, q_kSetIx, q_setIx1, q_kSetIx2, q_setIx2, q_setIx3, q_app, q_app1, q_kApp, q_app2, q_ns, q_knsv, q_knst, q_par, q_kpar1, q_kpvv, q_kpvt, q_kptv, q_kptt, q_put2, q_sl, q_ksl1, q_ksl2, q_ksl3, q_sl4, q_ono, q_osome, q_kO, q_for, q_iseq, q_kseqT, q_kseqL, q_kseqS, q_isIo, q_ioV, q_ioE, q_ioO, q_nmG, q_frzS, q_frzV, q_frzT, q_fzSV, q_fzSO, q_kfzs, q_fzP, q_knss, q_nsP, q_came, q_cameO, q_cameX, q_cameF, q_cameW, q_mask, q_maskV, q_maskO, q_lenT, q_lenL, q_lenS, q_gLt, q_gLe, q_gGt, q_gGe, q_gInt, q_gAdd, q_gSub, q_gNeg, q_rR1, q_rR2, q_rs1, q_rs2, startE, finS, outs, outS, agSls, agSl, ios, callC, resC, isHeld, gIsi, D.seq?, tru, q_bok, q_sok, q_bexc, q_sxc, q_bstk, q_sstk, List.length_cons, List.length_nil, List.getElem?_cons_zero, List.getElem?_cons_succ, List.append_nil, List.replicate, Option.map_some, Option.map_none, List.mapIdx_cons, List.mapIdx_nil, Nat.sub_self, List.cons_append, List.nil_append, Bool.not_false, Bool.not_true, List.set_cons_zero, List.set_cons_succ, Bool.false_eq_true, if_true, if_false, reduceIte, decide_true, Nat.zero_add, Nat.reduceAdd, Nat.reduceSub, Nat.reduceBEq, beq_self_eq_true, List.nodup_nil, List.length_map, List.map_cons, List.map_nil, eq_self, ite_true, ite_false, wg, hg, hl]
          · rw [this]; rfl
        | true =>
          obtain ⟨k, rfl, ek⟩ := way_D hg hn
          have sl : gSl (.tup ds) none (some ((ks.length : Nat) : Int)) = some (.val (recD ks)) := by
            show some (Wv.val (.tup (cutD _ _ _))) = _
            have hlen : ks.length ≤ ds.length := by rw [q3]; simp
            rw [cut_lo hlen, q3]
            have : (ks.map wayD ++ wayD k :: rest).take ks.length = ks.map wayD := by
              have := enum_cut (ks.map wayD) (wayD k :: rest)
              rwa [List.length_map] at this
            rw [this]; rfl
          have gi := gIn_way false k ks
          simp only [Bool.false_eq_true, if_false] at gi
          by_cases hk : k ∈ ks
          · have dk : decide (k ∈ ks) = true := decide_eq_true hk
            have : recipe (.tup ds) n = false := by
              cases h : recipe (.tup ds) n with
              | false => rfl
              | true =>
                obtain ⟨_, _, ls, e1, e2, e3⟩ := (recipe_iff hn).mp h
                obtain ⟨i, hi1, hi2⟩ := List.getElem_of_mem hk
                have g1 : ds[i]? = some (wayD k) := by rw [q3, List.getElem?_append_left (by rw [List.length_map]; exact hi1), List.getElem?_map, List.getElem?_eq_getElem hi1, hi2]; rfl
                have g2 : ds[ks.length]? = some (wayD k) := by rw [q3, List.getElem?_append_right (by rw [List.length_map]; exact Nat.le_refl _), List.length_map, Nat.sub_self]; rfl
                have lk : ∀ (l : List D) (ms : List WK) (j : Nat), waysK l = some ms → l[j]? = some (wayD k) → ms[j]? = some k := fun l => by
                  induction l with
                  | nil => intro ms j _ h; simp at h
                  | cons a l ih =>
                    intro ms j e h
                    have e : (match wayK a, waysK l with | some k, some ks => some (k :: ks) | _, _ => none) = some ms := e
                    cases z1 : wayK a with
                    | none => rw [z1] at e; cases e
                    | some b =>
                      cases z2 : waysK l with
                      | none => rw [z1, z2] at e; cases e
                      | some bs =>
                        rw [z1, z2] at e
                        cases e
                        cases j with
                        | zero =>
                          have h : a = wayD k := by simpa using h
                          rw [h, ek] at z1
                          simpa using z1.symm
                        | succ j => simpa using ih bs j z2 (by simpa using h)
                have h1 := lk ds ls i e2 g1
                have h2 := lk ds ls _ e2 g2
                obtain ⟨u1, u2⟩ := List.getElem?_eq_some_iff.mp h1
                obtain ⟨u3, u4⟩ := List.getElem?_eq_some_iff.mp h2
                exact (List.pairwise_iff_getElem.mp e3 i ks.length u1 u3 hi1 (u2.trans u4.symm)).elim
            refine .inr (.inr (.inl ⟨[.val v, .val (.tup ds), .val (.int (ks.length : Nat)), .val (wayD k)], .val (.bl false), ?_, .val (.int (ks.length : Nat)), .val (wayD k), fr_v, fr_v, ?_⟩))
            · simp only [q_seq, q_nx, q_rt, q_bk, q_exc, q_nil, q_ret, q_kret, q_retN, q_if, q_ift, q_iff, q_expr, q_kexpr, q_sexc, q_set, q_ksetv, q_ksett, q_c, q_v, q_vv, q_vo, q_vi, q_fz, q_kfzv, q_kfzt, q_op, q_op1, q_op2, q_opE, q_lv, q_lt, q_ls, q_slo, q_sli, q_slv, q_fzl, q_oWs, q_un, q_kun, q_unE, q_and, q_or, q_not, q_thenB, q_andt, q_andf, q_ort, q_orf, q_knot, q_fB, q_kB, q_tru, q_ktru, q_truB, q_bnot, q_kbnot, q_band, q_bor, q_bandt, q_bandf, q_bort, q_borf, q_vif, q_vift, q_viff, q_anil, q_acons, q_kcons1, q_kcons2, q_tup, q_lst, q_ktup, q_klst, q_gnil, q_gval, q_kval1, q_kval2, q_gio, q_kio, q_call, q_finv, q_fint, q_finn, q_fine, q_fins, q_kcall, q_held, q_slHo, q_slHi, q_setL, q_slSo, q_slSi, q_setIx, q_kSetIx, q_setIx1, q_kSetIx2, q_setIx2, q_setIx3, q_app, q_app1, q_kApp, q_app2, q_ns, q_knsv, q_knst, q_par, q_kpar1, q_kpvv, q_kpvt, q_kptv, q_kptt, q_put2, q_sl, q_ksl1, q_ksl2, q_ksl3, q_sl4, q_ono, q_osome, q_kO, q_for, q_iseq, q_kseqT, q_kseqL, q_kseqS, q_isIo, q_ioV, q_ioE, q_ioO, q_nmG, q_frzS, q_frzV, q_frzT, q_fzSV, q_fzSO, q_kfzs, q_fzP, q_knss, q_nsP, q_came, q_cameO, q_cameX, q_cameF, q_cameW, q_mask, q_maskV, q_maskO, q_lenT, q_lenL, q_lenS, q_gLt, q_gLe, q_gGt, q_gGe, q_gInt, q_gAdd, q_gSub, q_gNeg, q_rR1, q_rR2, q_rs1, q_rs2, startE, finS, outs, outS, agSls, agSl, ios, callC, resC, isHeld, gIsi, D.seq?, tru, q_bok, q_sok, q_bexc, q_sxc, q_bstk, q_sstk, List.length_cons, List.length_nil, List.getElem?_cons_zero, List.getElem?_cons_succ, List.append_nil, List.replicate, Option.map_some, Option.map_none, List.mapIdx_cons, List.mapIdx_nil, Nat.sub_self, List.cons_append, List.nil_append, Bool.not_false, Bool.not_true, List.set_cons_zero, List.set_cons_succ, Bool.false_eq_true, if_true, if_false, reduceIte, decide_true, Nat.zero_add, Nat.reduceAdd, Nat.reduceSub, Nat.reduceBEq, beq_self_eq_true, List.nodup_nil, List.length_map, List.map_cons, List.map_nil, eq_self, ite_true, ite_false, wg, hg, hl, sl, gi, dk]
            · rw [this]; rfl
          · have dk : decide (k ∈ ks) = false := decide_eq_false hk
            refine .inl ⟨[.val v, .val (.tup ds), .val (.int (ks.length : Nat)), .val (wayD k)], .inl ?_, ks ++ [k], rest, .val (.int (ks.length : Nat)), .val (wayD k), fr_v, fr_v, ?_, ?_, ?_, ?_, rfl⟩
            · simp only [q_seq, q_nx, q_rt, q_bk, q_exc, q_nil, q_ret, q_kret, q_retN, q_if, q_ift, q_iff, q_expr, q_kexpr, q_sexc, q_set, q_ksetv, q_ksett, q_c, q_v, q_vv, q_vo, q_vi, q_fz, q_kfzv, q_kfzt, q_op, q_op1, q_op2, q_opE, q_lv, q_lt, q_ls, q_slo, q_sli, q_slv, q_fzl, q_oWs, q_un, q_kun, q_unE, q_and, q_or, q_not, q_thenB, q_andt, q_andf, q_ort, q_orf, q_knot, q_fB, q_kB, q_tru, q_ktru, q_truB, q_bnot, q_kbnot, q_band, q_bor, q_bandt, q_bandf, q_bort, q_borf, q_vif, q_vift, q_viff, q_anil, q_acons, q_kcons1, q_kcons2, q_tup, q_lst, q_ktup, q_klst, q_gnil, q_gval, q_kval1, q_kval2, q_gio, q_kio, q_call, q_finv, q_fint, q_finn, q_fine, q_fins, q_kcall, q_held, q_slHo, q_slHi, q_setL, q_slSo, q_slSi, q_setIx, q_kSetIx, q_setIx1, q_kSetIx2, q_setIx2, q_setIx3, q_app, q_app1, q_kApp, q_app2, q_ns, q_knsv, q_knst, q_par, q_kpar1, q_kpvv, q_kpvt, q_kptv, q_kptt, q_put2, q_sl, q_ksl1, q_ksl2, q_ksl3, q_sl4, q_ono, q_osome, q_kO, q_for, q_iseq, q_kseqT, q_kseqL, q_kseqS, q_isIo, q_ioV, q_ioE, q_ioO, q_nmG, q_frzS, q_frzV, q_frzT, q_fzSV, q_fzSO, q_kfzs, q_fzP, q_knss, q_nsP, q_came, q_cameO, q_cameX, q_cameF, q_cameW, q_mask, q_maskV, q_maskO, q_lenT, q_lenL, q_lenS, q_gLt, q_gLe, q_gGt, q_gGe, q_gInt, q_gAdd, q_gSub, q_gNeg, q_rR1, q_rR2, q_rs1, q_rs2, startE, finS, outs, outS, agSls, agSl, ios, callC, resC, isHeld, gIsi, D.seq?, tru, q_bok, q_sok, q_bexc, q_sxc, q_bstk, q_sstk, List.length_cons, List.length_nil, List.getElem?_cons_zero, List.getElem?_cons_succ, List.append_nil, List.replicate, Option.map_some, Option.map_none, List.mapIdx_cons, List.mapIdx_nil, Nat.sub_self, List.cons_append, List.nil_append, Bool.not_false, Bool.not_true, List.set_cons_zero, List.set_cons_succ, Bool.false_eq_true, if_true, if_false, reduceIte, decide_true, Nat.zero_add, Nat.reduceAdd, Nat.reduceSub, Nat.reduceBEq, beq_self_eq_true, List.nodup_nil, List.length_map, List.map_cons, List.map_nil, eq_self, ite_true, ite_false, wg, hg, hl, sl, gi, dk]
            · rw [q3, List.map_append, List.append_assoc]; rfl
            · rw [List.length_append]; rfl
            · exact List.nodup_append.mpr ⟨q5, List.nodup_cons.mpr ⟨by simp, List.nodup_nil⟩, fun x hx y hy => by rw [List.mem_singleton.mp hy]; exact fun z => hk (z ▸ hx)⟩
            · intro l hl
              rcases List.mem_append.mp hl with z | z
              · exact q6 l z
              · rw [List.mem_singleton.mp z]; exact hg)
    (enumD 0 ds) [.val v, .val (.tup ds), s2, s3] ⟨[], ds, s2, s3, f2, f3, rfl, rfl, List.nodup_nil, fun k hk => (by cases hk), rfl⟩
  exact key
end K01
namespace K01
open PySem PySem.Spec
open PyProof.Rows hiding St
open L2 DL
theorem recipe_wide {v : D} {many : Int} (h : recipe v many = true) : wide v 1 3 = true := by
  cases v with
  | tup ds =>
    have h : (wide (.tup ds) 1 3 && _) = true := h
    rw [Bool.and_eq_true] at h
    exact h.1
  | _ => cases h
theorem m_good (v : D) (hv : v.py ≠ none) : FF__law_good [.val v] = .ret [.val v] (.val (.bl (fit v))) := by
  have w1 := m_made v 1 3 hv
  cases hw : wide v 1 3 with
  | false =>
    have : fit v = false := by
      cases v with
      | tup xs => show (wide (.tup xs) 1 3 && _) = false; rw [hw]; rfl
      | _ => rfl
    simp only [q_seq, q_nx, q_rt, q_bk, q_exc, q_nil, q_ret, q_kret, q_retN, q_if, q_ift, q_iff, q_expr, q_kexpr, q_sexc, q_set, q_ksetv, q_ksett, q_c, q_v, q_vv, q_vo, q_vi, q_fz, q_kfzv, q_kfzt, q_op, q_op1, q_op2, q_opE, q_lv, q_lt, q_ls, q_slo, q_sli, q_slv, q_fzl, q_oWs, q_un, q_kun, q_unE, q_and, q_or, q_not, q_thenB, q_andt, q_andf, q_ort, q_orf, q_knot, q_fB, q_kB, q_tru, q_ktru, q_truB, q_bnot, q_kbnot, q_band, q_bor, q_bandt, q_bandf, q_bort, q_borf, q_vif, q_vift, q_viff, q_anil, q_acons, q_kcons1, q_kcons2, q_tup, q_lst, q_ktup, q_klst, q_gnil, q_gval, q_kval1, q_kval2, q_gio, q_kio, q_call, q_finv, q_fint, q_finn, q_fine, q_fins, q_kcall, q_held, q_slHo, q_slHi, q_setL, q_slSo, q_slSi, q_setIx, q_kSetIx, q_setIx1, q_kSetIx2, q_setIx2, q_setIx3, q_app, q_app1, q_kApp, q_app2, q_ns, q_knsv, q_knst, q_par, q_kpar1, q_kpvv, q_kpvt, q_kptv, q_kptt, q_put2, q_sl, q_ksl1, q_ksl2, q_ksl3, q_sl4, q_ono, q_osome, q_kO, q_for, q_iseq, q_kseqT, q_kseqL, q_kseqS, q_isIo, q_ioV, q_ioE, q_ioO, q_nmG, q_frzS, q_frzV, q_frzT, q_fzSV, q_fzSO, q_kfzs, q_fzP, q_knss, q_nsP, q_came, q_cameO, q_cameX, q_cameF, q_cameW, q_mask, q_maskV, q_maskO, q_lenT, q_lenL, q_lenS, q_gLt, q_gLe, q_gGt, q_gGe, q_gInt, q_gAdd, q_gSub, q_gNeg, q_rR1, q_rR2, q_rs1, q_rs2, startE, finS, outs, outS, agSls, agSl, ios, callC, resC, isHeld, gIsi, D.seq?, tru, q_bok, q_sok, q_bexc, q_sxc, q_bstk, q_sstk, List.length_cons, List.length_nil, List.getElem?_cons_zero, List.getElem?_cons_succ, List.append_nil, List.replicate, Option.map_some, Option.map_none, List.mapIdx_cons, List.mapIdx_nil, Nat.sub_self, List.cons_append, List.nil_append, Bool.not_false, Bool.not_true, List.set_cons_zero, List.set_cons_succ, Bool.false_eq_true, if_true, if_false, reduceIte, decide_true, Nat.zero_add, Nat.reduceAdd, Nat.reduceSub, Nat.reduceBEq, beq_self_eq_true, List.nodup_nil, List.length_map, List.map_cons, List.map_nil, eq_self, ite_true, ite_false, FF__law_good, ev__law_good, w1, hw, this]
  | true =>
    obtain ⟨ds, rfl, l1, l2⟩ := wide_tup hw
    have key := forL_by (g := nmG 1) (b := (sSeq (sIf (bNot (fTru (fCall 3 FF__law_made (gVal (fFz (fV 1)) (gVal (fFz (fC (.int 1))) (gVal (fFz (fC (.int 3))) DL.gNil)))))) (sSeq (sRet (fC (.bl false))) sNil) sNil) (sSeq (sFor (iEnu (aCons (fFz (fV 1)) aNil)) (tupG 2 (consG (nmG 2) (consG (nmG 3) nilG))) (sSeq (sIf (bOr (bNot (fTru (fCall 2 FF__law_good_way (gVal (fFz (fV 3)) (gVal (fFz (fUn gLen (fV 0))) DL.gNil))))) (fB (fOp (gInS false) (fV 3) (fSl (fV 1) oNo (oSome (fV 2)))))) (sSeq (sRet (fC (.bl false))) sNil) sNil) sNil)) sNil)))
      (fun es ρ => ∃ (pre : List D) (s1 s2 s3 : Sl), ds = pre ++ es ∧ s1.fr ∧ s2.fr ∧ s3.fr ∧ (∀ d ∈ pre, recipe d ds.length = true) ∧ ρ = [.val (.tup ds), s1, s2, s3])
      (fun r => ∃ s1 s2 s3 : Sl, r = if fit (.tup ds) then .nx [.val (.tup ds), s1, s2, s3] else .rt [.val (.tup ds), s1, s2, s3] (.val (.bl false)))
      (fun ρ ⟨pre, s1, s2, s3, q0, q1, q2, q3, q4, q5⟩ => by
        rw [List.append_nil] at q0
        have : fit (.tup ds) = true := by
          show (wide (.tup ds) 1 3 && ds.all fun d => recipe d ds.length) = true
          rw [hw, Bool.true_and, List.all_eq_true]
          intro d hd
          exact q4 d (q0 ▸ hd)
        exact ⟨s1, s2, s3, by rw [this, q5]; rfl⟩)
      (fun d es ρ ⟨pre, s1, s2, s3, q0, q1, q2, q3, q4, q5⟩ => by
        subst q5
        have q1 : ioO (some s1) = false := q1
        have md : d ∈ ds := by rw [q0]; simp
        have pd := pys_mem (py_tup hv) d md
        have wm := m_made d 1 3 pd
        have bad : recipe d ds.length = false → fit (.tup ds) = false := fun h => by
          show (wide (.tup ds) 1 3 && ds.all fun d => recipe d ds.length) = false
          rw [hw, Bool.true_and]
          cases z : ds.all fun d => recipe d ds.length with
          | false => rfl
          | true =>
            have := List.all_eq_true.mp z d md
            rw [h] at this; cases this
        refine ⟨[.val (.tup ds), .val d, s2, s3], by simp only [q_seq, q_nx, q_rt, q_bk, q_exc, q_nil, q_ret, q_kret, q_retN, q_if, q_ift, q_iff, q_expr, q_kexpr, q_sexc, q_set, q_ksetv, q_ksett, q_c, q_v, q_vv, q_vo, q_vi, q_fz, q_kfzv, q_kfzt, q_op, q_op1, q_op2, q_opE, q_lv, q_lt, q_ls, q_slo, q_sli, q_slv, q_fzl, q_oWs, q_un, q_kun, q_unE, q_and, q_or, q_not, q_thenB, q_andt, q_andf, q_ort, q_orf, q_knot, q_fB, q_kB, q_tru, q_ktru, q_truB, q_bnot, q_kbnot, q_band, q_bor, q_bandt, q_bandf, q_bort, q_borf, q_vif, q_vift, q_viff, q_anil, q_acons, q_kcons1, q_kcons2, q_tup, q_lst, q_ktup, q_klst, q_gnil, q_gval, q_kval1, q_kval2, q_gio, q_kio, q_call, q_finv, q_fint, q_finn, q_fine, q_fins, q_kcall, q_held, q_slHo, q_slHi, q_setL, q_slSo, q_slSi, q_setIx, q_kSetIx, q_setIx1, q_kSetIx2, q_setIx2, q_setIx3, q_app, q_app1, q_kApp, q_app2, q_ns, q_knsv, q_knst, q_par, q_kpar1, q_kpvv, q_kpvt, q_kptv, q_kptt, q_put2, q_sl, q_ksl1, q_ksl2, q_ksl3, q_sl4, q_ono, q_osome, q_kO, q_for, q_iseq, q_kseqT, q_kseqL, q_kseqS, q_isIo, q_ioV, q_ioE, q_ioO, q_nmG, q_frzS, q_frzV, q_frzT, q_fzSV, q_fzSO, q_kfzs, q_fzP, q_knss, q_nsP, q_came, q_cameO, q_cameX, q_cameF, q_cameW, q_mask, q_maskV, q_maskO, q_lenT, q_lenL, q_lenS, q_gLt, q_gLe, q_gGt, q_gGe, q_gInt, q_gAdd, q_gSub, q_gNeg, q_rR1, q_rR2, q_rs1, q_rs2, startE, finS, outs, outS, agSls, agSl, ios, callC, resC, isHeld, gIsi, D.seq?, tru, q_bok, q_sok, q_bexc, q_sxc, q_bstk, q_sstk, List.length_cons, List.length_nil, List.getElem?_cons_zero, List.getElem?_cons_succ, List.append_nil, List.replicate, Option.map_some, Option.map_none, List.mapIdx_cons, List.mapIdx_nil, Nat.sub_self, List.cons_append, List.nil_append, Bool.not_false, Bool.not_true, List.set_cons_zero, List.set_cons_succ, Bool.false_eq_true, if_true, if_false, reduceIte, decide_true, Nat.zero_add, Nat.reduceAdd, Nat.reduceSub, Nat.reduceBEq, beq_self_eq_true, List.nodup_nil, List.length_map, List.map_cons, List.map_nil, eq_self, ite_true, ite_false, q1], ?_⟩
        cases wd' : wide d 1 3 with
        | false =>
          have : recipe d ds.length = false := by
            cases z : recipe d ds.length with
            | false => rfl
            | true => have := recipe_wide z; rw [wd'] at this; cases this
          refine .inr (.inr (.inl ⟨[.val (.tup ds), .val d, s2, s3], .val (.bl false), ?_, .val d, s2, s3, ?_⟩))
          · simp only [q_seq, q_nx, q_rt, q_bk, q_exc, q_nil, q_ret, q_kret, q_retN, q_if, q_ift, q_iff, q_expr, q_kexpr, q_sexc, q_set, q_ksetv, q_ksett, q_c, q_v, q_vv, q_vo, q_vi, q_fz, q_kfzv, q_kfzt, q_op, q_op1, q_op2, q_opE, q_lv, q_lt, q_ls, q_slo, q_sli, q_slv, q_fzl, q_oWs, q_un, q_kun, q_unE, q_and, q_or, q_not, q_thenB, q_andt, q_andf, q_ort, q_orf, q_knot, q_fB, q_kB, q_tru, q_ktru, q_truB, q_bnot, q_kbnot, q_band, q_bor, q_bandt, q_bandf, q_bort, q_borf, q_vif, q_vift, q_viff, q_anil, q_acons, q_kcons1, q_kcons2, q_tup, q_lst, q_ktup, q_klst, q_gnil, q_gval, q_kval1, q_kval2, q_gio, q_kio, q_call, q_finv, q_fint, q_finn, q_fine, q_fins, q_kcall, q_held, q_slHo, q_slHi, q_setL, q_slSo, q_slSi, q_setIx, q_kSetIx, q_setIx1, q_kSetIx2, q_setIx2, q_setIx3, q_app, q_app1, q_kApp, q_app2, q_ns, q_knsv, q_knst, q_par, q_kpar1, q_kpvv, q_kpvt, q_kptv, q_kptt, q_put2, q_sl, q_ksl1, q_ksl2, q_ksl3, q_sl4, q_ono, q_osome, q_kO, q_for, q_iseq, q_kseqT, q_kseqL, q_kseqS, q_isIo, q_ioV, q_ioE, q_ioO, q_nmG, q_frzS, q_frzV, q_frzT, q_fzSV, q_fzSO, q_kfzs, q_fzP, q_knss, q_nsP, q_came, q_cameO, q_cameX, q_cameF, q_cameW, q_mask, q_maskV, q_maskO, q_lenT, q_lenL, q_lenS, q_gLt, q_gLe, q_gGt, q_gGe, q_gInt, q_gAdd, q_gSub, q_gNeg, q_rR1, q_rR2, q_rs1, q_rs2, startE, finS, outs, outS, agSls, agSl, ios, callC, resC, isHeld, gIsi, D.seq?, tru, q_bok, q_sok, q_bexc, q_sxc, q_bstk, q_sstk, List.length_cons, List.length_nil, List.getElem?_cons_zero, List.getElem?_cons_succ, List.append_nil, List.replicate, Option.map_some, Option.map_none, List.mapIdx_cons, List.mapIdx_nil, Nat.sub_self, List.cons_append, List.nil_append, Bool.not_false, Bool.not_true, List.set_cons_zero, List.set_cons_succ, Bool.false_eq_true, if_true, if_false, reduceIte, decide_true, Nat.zero_add, Nat.reduceAdd, Nat.reduceSub, Nat.reduceBEq, beq_self_eq_true, List.nodup_nil, List.length_map, List.map_cons, List.map_nil, eq_self, ite_true, ite_false, wm, wd']
          · rw [bad this]; rfl
        | true =>
          obtain ⟨cs, rfl, _, _⟩ := wide_tup wd'
          obtain ⟨s2', s3', g2, g3, e⟩ := good_inner (v := .tup ds) (n := ds.length) rfl (by omega) pd q2 q3 wd'
          have he : iEnu (aCons (fFz (fV 1)) aNil) [.val (.tup ds), .val (.tup cs), s2, s3] = .ok [.val (.tup ds), .val (.tup cs), s2, s3] (enumD 0 cs) := rfl
          cases hr : recipe (.tup cs) ds.length with
          | false =>
            rw [hr] at e
            try simp only [Bool.false_eq_true, if_false, if_true] at e
            refine .inr (.inr (.inl ⟨[.val (.tup ds), .val (.tup cs), s2', s3'], .val (.bl false), ?_, .val (.tup cs), s2', s3', ?_⟩))
            · simp only [q_seq, q_nx, q_rt, q_bk, q_exc, q_nil, q_ret, q_kret, q_retN, q_if, q_ift, q_iff, q_expr, q_kexpr, q_sexc, q_set, q_ksetv, q_ksett, q_c, q_v, q_vv, q_vo, q_vi, q_fz, q_kfzv, q_kfzt, q_op, q_op1, q_op2, q_opE, q_lv, q_lt, q_ls, q_slo, q_sli, q_slv, q_fzl, q_oWs, q_un, q_kun, q_unE, q_and, q_or, q_not, q_thenB, q_andt, q_andf, q_ort, q_orf, q_knot, q_fB, q_kB, q_tru, q_ktru, q_truB, q_bnot, q_kbnot, q_band, q_bor, q_bandt, q_bandf, q_bort, q_borf, q_vif, q_vift, q_viff, q_anil, q_acons, q_kcons1, q_kcons2, q_tup, q_lst, q_ktup, q_klst, q_gnil, q_gval, q_kval1, q_kval2, q_gio, q_kio, q_call, q_finv, q_fint, q_finn, q_fine, q_fins, q_kcall, q_held, q_slHo, q_slHi, q_setL, q_slSo, q_slSi, q_setIx, q_kSetIx, q_setIx1, q_kSetIx2, q_setIx2, q_setIx3, q_app, q_app1, q_kApp, q_app2, q_ns, q_knsv, q_knst, q_par, q_kpar1, q_kpvv, q_kpvt, q_kptv, q_kptt, q_put2, q_sl, q_ksl1, q_ksl2, q_ksl3, q_sl4, q_ono, q_osome, q_kO, q_for, q_iseq, q_kseqT, q_kseqL, q_kseqS, q_isIo, q_ioV, q_ioE, q_ioO, q_nmG, q_frzS, q_frzV, q_frzT, q_fzSV, q_fzSO, q_kfzs, q_fzP, q_knss, q_nsP, q_came, q_cameO, q_cameX, q_cameF, q_cameW, q_mask, q_maskV, q_maskO, q_lenT, q_lenL, q_lenS, q_gLt, q_gLe, q_gGt, q_gGe, q_gInt, q_gAdd, q_gSub, q_gNeg, q_rR1, q_rR2, q_rs1, q_rs2, startE, finS, outs, outS, agSls, agSl, ios, callC, resC, isHeld, gIsi, D.seq?, tru, q_bok, q_sok, q_bexc, q_sxc, q_bstk, q_sstk, List.length_cons, List.length_nil, List.getElem?_cons_zero, List.getElem?_cons_succ, List.append_nil, List.replicate, Option.map_some, Option.map_none, List.mapIdx_cons, List.mapIdx_nil, Nat.sub_self, List.cons_append, List.nil_append, Bool.not_false, Bool.not_true, List.set_cons_zero, List.set_cons_succ, Bool.false_eq_true, if_true, if_false, reduceIte, decide_true, Nat.zero_add, Nat.reduceAdd, Nat.reduceSub, Nat.reduceBEq, beq_self_eq_true, List.nodup_nil, List.length_map, List.map_cons, List.map_nil, eq_self, ite_true, ite_false, wm, wd', he, kFor, e]
            · rw [bad hr]; rfl
          | true =>
            rw [hr] at e
            try simp only [Bool.false_eq_true, if_false, if_true] at e
            refine .inl ⟨[.val (.tup ds), .val (.tup cs), s2', s3'], .inl ?_, pre ++ [.tup cs], .val (.tup cs), s2', s3', by rw [q0]; simp, fr_v, g2, g3, ?_, rfl⟩
            · simp only [q_seq, q_nx, q_rt, q_bk, q_exc, q_nil, q_ret, q_kret, q_retN, q_if, q_ift, q_iff, q_expr, q_kexpr, q_sexc, q_set, q_ksetv, q_ksett, q_c, q_v, q_vv, q_vo, q_vi, q_fz, q_kfzv, q_kfzt, q_op, q_op1, q_op2, q_opE, q_lv, q_lt, q_ls, q_slo, q_sli, q_slv, q_fzl, q_oWs, q_un, q_kun, q_unE, q_and, q_or, q_not, q_thenB, q_andt, q_andf, q_ort, q_orf, q_knot, q_fB, q_kB, q_tru, q_ktru, q_truB, q_bnot, q_kbnot, q_band, q_bor, q_bandt, q_bandf, q_bort, q_borf, q_vif, q_vift, q_viff, q_anil, q_acons, q_kcons1, q_kcons2, q_tup, q_lst, q_ktup, q_klst, q_gnil, q_gval, q_kval1, q_kval2, q_gio, q_kio, q_call, q_finv, q_fint, q_finn, q_fine, q_fins, q_kcall, q_held, q_slHo, q_slHi, q_setL, q_slSo, q_slSi, q_setIx, q_kSetIx, q_setIx1, q_kSetIx2, q_setIx2, q_setIx3, q_app, q_app1, q_kApp, q_app2, q_ns, q_knsv, q_knst, q_par, q_kpar1, q_kpvv, q_kpvt, q_kptv, q_kptt, q_put2, q_sl, q_ksl1, q_ksl2, q_ksl3, q_sl4, q_ono, q_osome, q_kO, q_for, q_iseq, q_kseqT, q_kseqL, q_kseqS, q_isIo, q_ioV, q_ioE, q_ioO, q_nmG, q_frzS, q_frzV, q_frzT, q_fzSV, q_fzSO, q_kfzs, q_fzP, q_knss, q_nsP, q_came, q_cameO, q_cameX, q_cameF, q_cameW, q_mask, q_maskV, q_maskO, q_lenT, q_lenL, q_lenS, q_gLt, q_gLe, q_gGt, q_gGe, q_gInt, q_gAdd, q_gSub, q_gNeg, q_rR1, q_rR2, q_rs1, q_rs2, startE, finS, outs, outS, agSls, agSl, ios, callC, resC, isHeld, gIsi, D.seq?, tru, q_bok, q_sok, q_bexc, q_sxc, q_bstk, q_sstk, List.length_cons, List.length_nil, List.getElem?_cons_zero, List.getElem?_cons_succ, List.append_nil, List.replicate, Option.map_some, Option.map_none, List.mapIdx_cons, List.mapIdx_nil, Nat.sub_self, List.cons_append, List.nil_append, Bool.not_false, Bool.not_true, List.set_cons_zero, List.set_cons_succ, Bool.false_eq_true, if_true, if_false, reduceIte, decide_true, Nat.zero_add, Nat.reduceAdd, Nat.reduceSub, Nat.reduceBEq, beq_self_eq_true, List.nodup_nil, List.length_map, List.map_cons, List.map_nil, eq_self, ite_true, ite_false, wm, wd', he, kFor, e]
            · intro x hx
              rcases List.mem_append.mp hx with z | z
              · exact q4 x z
              · rw [List.mem_singleton.mp z]; exact hr)
      ds [.val (.tup ds), .emp, .emp, .emp] ⟨[], .emp, .emp, .emp, rfl, fr_e, fr_e, fr_e, fun d hd => (by cases hd), rfl⟩
    obtain ⟨s1, s2, s3, e⟩ := key
    cases hf : fit (.tup ds) with
    | false =>
      rw [hf] at e
      simp only [q_seq, q_nx, q_rt, q_bk, q_exc, q_nil, q_ret, q_kret, q_retN, q_if, q_ift, q_iff, q_expr, q_kexpr, q_sexc, q_set, q_ksetv, q_ksett, q_c, q_v, q_vv, q_vo, q_vi, q_fz, q_kfzv, q_kfzt, q_op, q_op1, q_op2, q_opE, q_lv, q_lt, q_ls, q_slo, q_sli, q_slv, q_fzl, q_oWs, q_un, q_kun, q_unE, q_and, q_or, q_not, q_thenB, q_andt, q_andf, q_ort, q_orf, q_knot, q_fB, q_kB, q_tru, q_ktru, q_truB, q_bnot, q_kbnot, q_band, q_bor, q_bandt, q_bandf, q_bort, q_borf, q_vif, q_vift, q_viff, q_anil, q_acons, q_kcons1, q_kcons2, q_tup, q_lst, q_ktup, q_klst, q_gnil, q_gval, q_kval1, q_kval2, q_gio, q_kio, q_call, q_finv, q_fint, q_finn, q_fine, q_fins, q_kcall, q_held, q_slHo, q_slHi, q_setL, q_slSo, q_slSi, q_setIx, q_kSetIx, q_setIx1, q_kSetIx2, q_setIx2, q_setIx3, q_app, q_app1, q_kApp, q_app2, q_ns, q_knsv, q_knst, q_par, q_kpar1, q_kpvv, q_kpvt, q_kptv, q_kptt, q_put2, q_sl, q_ksl1, q_ksl2, q_ksl3, q_sl4, q_ono, q_osome, q_kO, q_for, q_iseq, q_kseqT, q_kseqL, q_kseqS, q_isIo, q_ioV, q_ioE, q_ioO, q_nmG, q_frzS, q_frzV, q_frzT, q_fzSV, q_fzSO, q_kfzs, q_fzP, q_knss, q_nsP, q_came, q_cameO, q_cameX, q_cameF, q_cameW, q_mask, q_maskV, q_maskO, q_lenT, q_lenL, q_lenS, q_gLt, q_gLe, q_gGt, q_gGe, q_gInt, q_gAdd, q_gSub, q_gNeg, q_rR1, q_rR2, q_rs1, q_rs2, startE, finS, outs, outS, agSls, agSl, ios, callC, resC, isHeld, gIsi, D.seq?, tru, q_bok, q_sok, q_bexc, q_sxc, q_bstk, q_sstk, List.length_cons, List.length_nil, List.getElem?_cons_zero, List.getElem?_cons_succ, List.append_nil, List.replicate, Option.map_some, Option.map_none, List.mapIdx_cons, List.mapIdx_nil, Nat.sub_self, List.cons_append, List.nil_append, Bool.not_false, Bool.not_true, List.set_cons_zero, List.set_cons_succ, Bool.false_eq_true, if_true, if_false, reduceIte, decide_true, Nat.zero_add, Nat.reduceAdd, Nat.reduceSub, Nat.reduceBEq, beq_self_eq_true, List.nodup_nil, List.length_map, List.map_cons, List.map_nil, eq_self, ite_true, ite_false, FF__law_good, ev__law_good, w1, hw, kFor, e]
    | true =>
      rw [hf] at e
      simp only [q_seq, q_nx, q_rt, q_bk, q_exc, q_nil, q_ret, q_kret, q_retN, q_if, q_ift, q_iff, q_expr, q_kexpr, q_sexc, q_set, q_ksetv, q_ksett, q_c, q_v, q_vv, q_vo, q_vi, q_fz, q_kfzv, q_kfzt, q_op, q_op1, q_op2, q_opE, q_lv, q_lt, q_ls, q_slo, q_sli, q_slv, q_fzl, q_oWs, q_un, q_kun, q_unE, q_and, q_or, q_not, q_thenB, q_andt, q_andf, q_ort, q_orf, q_knot, q_fB, q_kB, q_tru, q_ktru, q_truB, q_bnot, q_kbnot, q_band, q_bor, q_bandt, q_bandf, q_bort, q_borf, q_vif, q_vift, q_viff, q_anil, q_acons, q_kcons1, q_kcons2, q_tup, q_lst, q_ktup, q_klst, q_gnil, q_gval, q_kval1, q_kval2, q_gio, q_kio, q_call, q_finv, q_fint, q_finn, q_fine, q_fins, q_kcall, q_held, q_slHo, q_slHi, q_setL, q_slSo, q_slSi, q_setIx, q_kSetIx, q_setIx1, q_kSetIx2, q_setIx2, q_setIx3, q_app, q_app1, q_kApp, q_app2, q_ns, q_knsv, q_knst, q_par, q_kpar1, q_kpvv, q_kpvt, q_kptv, q_kptt, q_put2, q_sl, q_ksl1, q_ksl2, q_ksl3, q_sl4, q_ono, q_osome, q_kO, q_for, q_iseq, q_kseqT, q_kseqL, q_kseqS, q_isIo, q_ioV, q_ioE, q_ioO, q_nmG, q_frzS, q_frzV, q_frzT, q_fzSV, q_fzSO, q_kfzs, q_fzP, q_knss, q_nsP, q_came, q_cameO, q_cameX, q_cameF, q_cameW, q_mask, q_maskV, q_maskO, q_lenT, q_lenL, q_lenS, q_gLt, q_gLe, q_gGt, q_gGe, q_gInt, q_gAdd, q_gSub, q_gNeg, q_rR1, q_rR2, q_rs1, q_rs2, startE, finS, outs, outS, agSls, agSl, ios, callC, resC, isHeld, gIsi, D.seq?, tru, q_bok, q_sok, q_bexc, q_sxc, q_bstk, q_sstk, List.length_cons, List.length_nil, List.getElem?_cons_zero, List.getElem?_cons_succ, List.append_nil, List.replicate, Option.map_some, Option.map_none, List.mapIdx_cons, List.mapIdx_nil, Nat.sub_self, List.cons_append, List.nil_append, Bool.not_false, Bool.not_true, List.set_cons_zero, List.set_cons_succ, Bool.false_eq_true, if_true, if_false, reduceIte, decide_true, Nat.zero_add, Nat.reduceAdd, Nat.reduceSub, Nat.reduceBEq, beq_self_eq_true, List.nodup_nil, List.length_map, List.map_cons, List.map_nil, eq_self, ite_true, ite_false, FF__law_good, ev__law_good, w1, hw, kFor, e]
end K01
namespace K01
open PySem PySem.Spec
open PyProof.Rows hiding St
open L2 DL
/-- data of depth n at most, its rows of L items at most -/
def nl (L : Nat) : Nat → D → Bool
  | 0, _ => false
  | n + 1, .tup ds => decide (ds.length ≤ L) && ds.all (nl L n)
  | n + 1, .lst ds => decide (ds.length ≤ L) && ds.all (nl L n)
  | _ + 1, .non => true
  | _ + 1, .bl _ => true
  | _ + 1, .int _ => true
  | _ + 1, .str x => SeqAt.shaped (.str x)
  | _ + 1, _ => false
theorem nl_mono {L M : Nat} (h : L ≤ M) : ∀ {n m : Nat} {d : D}, n ≤ m → nl L n d = true → nl M m d = true
  | 0, _, _, _, z => by cases z
  | n + 1, 0, _, hn, _ => by omega
  | n + 1, m + 1, d, hn, z => by
    cases d with
    | tup ds =>
      have z : (decide (ds.length ≤ L) && ds.all (nl L n)) = true := z
      rw [Bool.and_eq_true, decide_eq_true_eq, List.all_eq_true] at z
      show (decide (ds.length ≤ M) && ds.all (nl M m)) = true
      rw [Bool.and_eq_true, decide_eq_true_eq, List.all_eq_true]
      exact ⟨by omega, fun x hx => nl_mono h (by omega) (z.2 x hx)⟩
    | lst ds =>
      have z : (decide (ds.length ≤ L) && ds.all (nl L n)) = true := z
      rw [Bool.and_eq_true, decide_eq_true_eq, List.all_eq_true] at z
      show (decide (ds.length ≤ M) && ds.all (nl M m)) = true
      rw [Bool.and_eq_true, decide_eq_true_eq, List.all_eq_true]
      exact ⟨by omega, fun x hx => nl_mono h (by omega) (z.2 x hx)⟩
    | _ => exact z
theorem nl_sh {L : Nat} : ∀ {n : Nat} {d : D}, nl L n d = true → ∃ p, d.py = some p ∧ p.canLay0 = true ∧ p.depth ≤ n
  | 0, _, h => by cases h
  | n + 1, d, h => by
    have row : ∀ ds : List D, ds.all (nl L n) = true → ∃ ps, D.pys ds = some ps ∧ PyData.canLayAll0 ps = true ∧ PyData.depthAll ps ≤ n := fun ds => by
      induction ds with
      | nil => intro _; exact ⟨[], rfl, rfl, Nat.zero_le _⟩
      | cons d ds ih =>
        intro z
        have z : (nl L n d && ds.all (nl L n)) = true := z
        rw [Bool.and_eq_true] at z
        obtain ⟨p, e1, e2, e3⟩ := nl_sh z.1
        obtain ⟨ps, e4, e5, e6⟩ := ih z.2
        refine ⟨p :: ps, ?_, ?_, ?_⟩
        · show (match D.py d, D.pys ds with | some p, some ps => some (p :: ps) | _, _ => none) = _
          rw [e1, e4]
        · show (p.canLay0 && PyData.canLayAll0 ps) = true
          rw [e2, e5]; rfl
        · show max p.depth (PyData.depthAll ps) ≤ n
          omega
    cases d with
    | tup ds =>
      have h : (decide (ds.length ≤ L) && ds.all (nl L n)) = true := h
      rw [Bool.and_eq_true] at h
      obtain ⟨ps, e1, e2, e3⟩ := row ds h.2
      exact ⟨.tuple ps, by show (D.pys ds).map _ = _; rw [e1]; rfl, e2, by show PyData.depthAll ps + 1 ≤ n + 1; omega⟩
    | lst ds =>
      have h : (decide (ds.length ≤ L) && ds.all (nl L n)) = true := h
      rw [Bool.and_eq_true] at h
      obtain ⟨ps, e1, e2, e3⟩ := row ds h.2
      exact ⟨.list ps, by show (D.pys ds).map _ = _; rw [e1]; rfl, e2, by show PyData.depthAll ps + 1 ≤ n + 1; omega⟩
    | non => exact ⟨_, rfl, rfl, Nat.zero_le _⟩
    | bl b => exact ⟨_, rfl, rfl, Nat.zero_le _⟩
    | int b => exact ⟨_, rfl, rfl, Nat.zero_le _⟩
    | str b => exact ⟨_, rfl, SeqAt.canLay_of_shaped (show SeqAt.shaped (.str b) = true from h), Nat.zero_le _⟩
    | _ => cases h
theorem nl_ok {L n : Nat} {d : D} (h : nl L n d = true) (hn : n ≤ 64) : ∃ p, d.py = some p ∧ SeqAt.shaped p = true := by
  obtain ⟨p, e1, e2, e3⟩ := nl_sh h
  refine ⟨p, e1, ?_⟩
  unfold SeqAt.shaped
  rw [e2, decide_eq_true (by omega)]; rfl
theorem nl_py {L n : Nat} {d : D} (h : nl L n d = true) : d.py ≠ none := by
  obtain ⟨p, e1, _⟩ := nl_sh h
  rw [e1]; simp
theorem nl_tup {L n : Nat} {ds : List D} (h1 : ds.length ≤ L) (h2 : ∀ d ∈ ds, nl L n d = true) : nl L (n + 1) (.tup ds) = true := by
  show (decide (ds.length ≤ L) && ds.all (nl L n)) = true
  rw [decide_eq_true h1, Bool.true_and, List.all_eq_true]
  exact h2
theorem nl_tup' {L n : Nat} {ds : List D} (h : nl L (n + 1) (.tup ds) = true) : ds.length ≤ L ∧ ∀ d ∈ ds, nl L n d = true := by
  have h : (decide (ds.length ≤ L) && ds.all (nl L n)) = true := h
  rw [Bool.and_eq_true, decide_eq_true_eq, List.all_eq_true] at h
  exact h
theorem nl_way {many : Int} {mins : List Int} {k : WK} (h : WayOk mins many k) : nl 3 3 (wayD k) = true := by
  refine nl_tup (by simp) fun d hd => ?_
  simp only [List.mem_cons, List.not_mem_nil, or_false] at hd
  rcases hd with z | z
  · subst z; rfl
  · subst z
    refine nl_tup (by rw [List.length_map]; have := h.2.1; omega) fun d hd => ?_
    obtain ⟨c, _, rfl⟩ := List.mem_map.mp hd
    rfl
theorem nl_rec {many : Int} {mins : List Int} {r : List WK} (h : RecOk mins many r) : nl 3 4 (recD r) = true :=
  nl_tup (by rw [List.length_map]; exact h.2.1) fun d hd => by
    obtain ⟨k, hk, rfl⟩ := List.mem_map.mp hd
    exact nl_way (h.2.2.2 k hk)
theorem nl_book {mins : List Int} {B : List (List WK)} (h : BookOk mins B) : nl 3 5 (bookD B) = true :=
  nl_tup (by rw [List.length_map]; exact h.2.2.1) fun d hd => by
    obtain ⟨k, hk, rfl⟩ := List.mem_map.mp hd
    exact nl_rec (h.2.2.2 k hk)
end K01
namespace K01
open PySem PySem.Spec
open PyProof.Rows hiding St
open L2 DL
theorem kT : ∀ t ∈ ["NoneType", "bool", "int", "str", "tuple", "list", "dict"], kitB t "tuple" = some (decide (t = "tuple")) := by decide +kernel
theorem gIx_lst {ds : List D} {i : Int} (h0 : 0 ≤ i) (h1 : i < ds.length) : ∃ d ∈ ds, gIx (.lst ds) (.int i) = some (.val d) := by
  refine ⟨ds[i.toNat], List.getElem_mem _, ?_⟩
  show (L2.atI ds i).map Wv.val = _
  have e : ixN ds.length i = some i.toNat := by
    unfold ixN
    rw [if_pos h0, if_pos (by omega)]
  unfold L2.atI
  rw [e]
  show (ds[i.toNat]?).map Wv.val = _
  rw [List.getElem?_eq_getElem (by omega)]; rfl
theorem fits_of {n : Nat} (h : n ≤ 16777216) : fits n = true := decide_eq_true h
theorem gAdd_tup' {xs ys : List D} (h : xs.length + ys.length ≤ 16777216) : gAdd (.tup xs) (.tup ys) = some (.val (.tup (xs ++ ys))) := if_pos (fits_of h)
def odds : List D := [.non, .bl true, .bl false, .int 0, .int 1, .int 2, .int 3, .int 9, .int 10, .int (-1), .int (10 ^ 30), .str "", .str "0", .tup [], .lst [], .tup [.int 0]]
def odds2 : List D := [.tup [.int 1, .int 0], .tup [.int 0, .tup []], .tup [.int 1, .tup [.int 0]], .lst [.int 0], .tup [.int 0, .int 0]]
theorem odds_nl : ∀ d ∈ odds ++ odds2, nl 2 3 d = true := by
  simp only [odds, odds2, List.cons_append, List.nil_append, List.forall_mem_cons]
  refine ⟨rfl, rfl, rfl, rfl, rfl, rfl, rfl, rfl, rfl, rfl, rfl, ?_, ?_, rfl, rfl, rfl, rfl, rfl, rfl, rfl, rfl, fun d hd => (by cases hd)⟩
  · show SeqAt.shaped _ = true; decide +kernel
  · show SeqAt.shaped _ = true; decide +kernel
theorem bent_leaf {F : FF} {a b : Int} (hs : SprOk a b) (v : D) (s2 s3 : Sl) : ∃ a' b' d ρ', SprOk a' b' ∧ nl 2 3 d = true ∧
    (sSeq (sSet 4 (fLst (aCons (fFz (fC .non)) (aCons (fFz (fC (.bl true))) (aCons (fFz (fC (.bl false))) (aCons (fFz (fC (.int 0))) (aCons (fFz (fC (.int 1))) (aCons (fFz (fC (.int 2))) (aCons (fFz (fC (.int 3))) (aCons (fFz (fC (.int 9))) (aCons (fFz (fC (.int 10))) (aCons (fFz (fUn gNeg (fC (.int 1)))) (aCons (fFz (fOp gPow (fC (.int 10)) (fC (.int 30)))) (aCons (fFz (fC (.str ""))) (aCons (fFz (fC (.str "0"))) (aCons (fFz (fTup aNil)) (aCons (fFz (fLst aNil)) (aCons (fFz (fTup (aCons (fFz (fC (.int 0))) aNil))) aNil)))))))))))))))))) (sSeq (sRet (fOp gIx (fOp gAdd (fV 4) (fLst (aCons (fFz (fTup (aCons (fFz (fC (.int 1))) (aCons (fFz (fC (.int 0))) aNil)))) (aCons (fFz (fTup (aCons (fFz (fC (.int 0))) (aCons (fFz (fTup aNil)) aNil)))) (aCons (fFz (fTup (aCons (fFz (fC (.int 1))) (aCons (fFz (fTup (aCons (fFz (fC (.int 0))) aNil))) aNil)))) (aCons (fFz (fLst (aCons (fFz (fC (.int 0))) aNil))) (aCons (fFz (fTup (aCons (fFz (fC (.int 0))) (aCons (fFz (fC (.int 0))) aNil)))) aNil))))))) (fCall 2 FF__law_pick (gIo 0 (gVal (fFz (fC (.int 21))) DL.gNil))))) sNil)) [.io (spr a b), .val v, s2, s3, .emp] = .rt ρ' (.val d) ∧ ρ' = [.io (spr a' b'), .val v, s2, s3, .own (.lst odds)] := by
  obtain ⟨a1, b1, d1, s1, p1, p2, e1⟩ := m_pick a b 21 hs (by omega) (by decide)
  obtain ⟨d, hd, ed⟩ := gIx_lst (ds := odds ++ odds2) p1 (by show d1 < ((21 : Nat) : Int); omega)
  have f0 : fits 0 = true := by decide
  have f1 : fits 1 = true := by decide
  have f2 : fits 2 = true := by decide
  have f5 : fits 5 = true := by decide
  have f16 : fits 16 = true := by decide
  have gp : gPow (.int 10) (.int 30) = some (.val (.int (10 ^ 30))) := rfl
  have ga : gAdd (.lst odds) (.lst odds2) = some (.tmp (.lst (odds ++ odds2))) := rfl
  refine ⟨a1, b1, d, _, s1, odds_nl d hd, ?_, rfl⟩
  have ga : gAdd (.lst [.non, .bl true, .bl false, .int 0, .int 1, .int 2, .int 3, .int 9, .int 10, .int (-1), .int (10 ^ 30), .str "", .str "0", .tup [], .lst [], .tup [.int 0]]) (.lst [.tup [.int 1, .int 0], .tup [.int 0, .tup []], .tup [.int 1, .tup [.int 0]], .lst [.int 0], .tup [.int 0, .int 0]]) = some (.tmp (.lst (odds ++ odds2))) := ga
  simp only [q_seq, q_nx, q_rt, q_bk, q_exc, q_nil, q_ret, q_kret, q_retN, q_if, q_ift, q_iff, q_expr, q_kexpr, q_sexc, q_set, q_ksetv, q_ksett, q_c, q_v, q_vv, q_vo, q_vi, q_fz, q_kfzv, q_kfzt, q_op, q_op1, q_op2, q_opE, q_lv, q_lt, q_ls, q_slo, q_sli, q_slv, q_fzl, q_oWs, q_un, q_kun, q_unE, q_and, q_or, q_not, q_thenB, q_andt, q_andf, q_ort, q_orf, q_knot, q_fB, q_kB, q_tru, q_ktru, q_truB, q_bnot, q_kbnot, q_band, q_bor, q_bandt, q_bandf, q_bort, q_borf, q_vif, q_vift, q_viff, q_anil, q_acons, q_kcons1, q_kcons2, q_tup, q_lst, q_ktup, q_klst, q_gnil, q_gval, q_kval1, q_kval2, q_gio, q_kio, q_call, q_finv, q_fint, q_finn, q_fine, q_fins, q_kcall, q_held, q_slHo, q_slHi, q_setL, q_slSo, q_slSi, q_setIx, q_kSetIx, q_setIx1, q_kSetIx2, q_setIx2, q_setIx3, q_app, q_app1, q_kApp, q_app2, q_ns, q_knsv, q_knst, q_par, q_kpar1, q_kpvv, q_kpvt, q_kptv, q_kptt, q_put2, q_sl, q_ksl1, q_ksl2, q_ksl3, q_sl4, q_ono, q_osome, q_kO, q_for, q_iseq, q_kseqT, q_kseqL, q_kseqS, q_isIo, q_ioV, q_ioE, q_ioO, q_nmG, q_frzS, q_frzV, q_frzT, q_fzSV, q_fzSO, q_kfzs, q_fzP, q_knss, q_nsP, q_came, q_cameO, q_cameX, q_cameF, q_cameW, q_mask, q_maskV, q_maskO, q_lenT, q_lenL, q_lenS, q_gLt, q_gLe, q_gGt, q_gGe, q_gInt, q_gAdd, q_gSub, q_gNeg, q_rR1, q_rR2, q_rs1, q_rs2, startE, finS, outs, outS, agSls, agSl, ios, callC, resC, isHeld, gIsi, D.seq?, tru, q_bok, q_sok, q_bexc, q_sxc, q_bstk, q_sstk, List.length_cons, List.length_nil, List.getElem?_cons_zero, List.getElem?_cons_succ, List.append_nil, List.replicate, Option.map_some, Option.map_none, List.mapIdx_cons, List.mapIdx_nil, Nat.sub_self, List.cons_append, List.nil_append, Bool.not_false, Bool.not_true, List.set_cons_zero, List.set_cons_succ, Bool.false_eq_true, if_true, if_false, reduceIte, decide_true, Nat.zero_add, Nat.reduceAdd, Nat.reduceSub, Nat.reduceBEq, beq_self_eq_true, List.nodup_nil, List.length_map, List.map_cons, List.map_nil, eq_self, ite_true, ite_false, f0, f1, f2, f5, f16, gp, ga, e1, ed, nodup1, io0 io_v, Sl.putC]
  rfl
end K01
namespace K01
open PySem PySem.Spec
open PyProof.Rows hiding St
open L2 DL
theorem gNe_nilT {L n : Nat} {ds : List D} (h : nl L n (.tup ds) = true) (hn : n ≤ 64) : gNe (.tup ds) (.tup []) = some (.val (.bl (!decide (ds = [])))) := by
  obtain ⟨p, e1, e2⟩ := nl_ok h hn
  have e3 : (D.pys ds).map PyData.tuple = some p := e1
  unfold gNe gEqv
  rw [e1]
  show (if SeqAt.shaped p && SeqAt.shaped (.tuple []) then some (Wv.val (D.bl (not (PyData.eqv p (.tuple []))))) else none) = _
  rw [e2]
  cases ds with
  | nil => cases e3; rfl
  | cons d ds =>
    have e3 : (match D.py d, D.pys ds with | some p, some ps => some (p :: ps) | _, _ => none).map PyData.tuple = some p := e3
    cases z1 : D.py d with
    | none => rw [z1] at e3; cases e3
    | some q =>
      cases z2 : D.pys ds with
      | none => rw [z1, z2] at e3; cases e3
      | some qs => rw [z1, z2] at e3; cases e3; rfl
theorem gSl_lo {ds : List D} {i : Nat} (h : i ≤ ds.length) : gSl (.tup ds) none (some (i : Int)) = some (.val (.tup (ds.take i))) := by show some (Wv.val (.tup (cutD _ _ _))) = _; rw [cut_lo h]
theorem gSl_hi {ds : List D} {i : Nat} (h : i ≤ ds.length) : gSl (.tup ds) (some (i : Int)) none = some (.val (.tup (ds.drop i))) := by show some (Wv.val (.tup (cutD _ _ _))) = _; rw [cut_hi h]
theorem gSl_mid {ds : List D} {i j : Nat} (h : i ≤ j) (h2 : j ≤ ds.length) : gSl (.tup ds) (some (i : Int)) (some (j : Int)) = some (.val (.tup ((ds.drop i).take (j - i)))) := by
  show some (Wv.val (.tup (cutD _ _ _))) = _
  unfold DL.cutD
  rw [HT.sIx_nat, HT.sIx_nat, Nat.min_eq_left h2, Nat.min_eq_left (by omega)]
theorem m_bent : ∀ (n L : Nat) (d : D) (a b : Int), nl L n d = true → n ≤ 50 → L ≤ 1000 → SprOk a b → ∃ a' b' d', SprOk a' b' ∧ nl (L + 2) (n + 2) d' = true ∧ FF__law_bent n [.io (spr a b), .val d] = .ret [.io (spr a' b'), .val d] (.val d')
  | 0, _, _, _, _, h, _, _, _ => by cases h
  | n + 1, L, d, a, b, h, hn, hL, hs => by
    have fin : ∀ (a0 b0 a b : Int), SprOk a b → (bAnd (fTru (fOp gIsi (fV 1) (fC (.opq (.ty "tuple"))))) (bAnd (fB (fOp gNe (fV 1) (fTup aNil))) (fB (fOp gGt (fCall 2 FF__law_pick (gIo 0 (gVal (fFz (fC (.int 7))) DL.gNil))) (fC (.int 0)))))) [.io (spr a0 b0), .val d, .emp, .emp, .emp] = .ok [.io (spr a b), .val d, .emp, .emp, .emp] false →
        ∃ a' b' d', SprOk a' b' ∧ nl (L + 2) (n + 1 + 2) d' = true ∧ FF__law_bent (n + 1) [.io (spr a0 b0), .val d] = .ret [.io (spr a' b'), .val d] (.val d') := fun a0 b0 a b hs e => by
      obtain ⟨a', b', d', ρ', s', nd, e2, rfl⟩ := bent_leaf (F := FF__law_bent n) hs d .emp .emp
      refine ⟨a', b', d', s', nl_mono (by omega) (by omega) nd, ?_⟩
      show finF _ (ev__law_bent _ _) = _
      unfold ev__law_bent
      rw [q_seq, q_if]
      have e : (bAnd (fTru (fOp gIsi (fV 1) (fC (.opq (.ty "tuple"))))) (bAnd (fB (fOp gNe (fV 1) (fTup aNil))) (fB (fOp gGt (fCall 2 FF__law_pick (gIo 0 (gVal (fFz (fC (.int 7))) DL.gNil))) (fC (.int 0)))))) (startE 5 [.io (spr a0 b0), .val d]) = _ := e
      rw [e]
      simp only [Out.thenS_ok, q_iff, q_nil, q_nx]
      rw [e2]
      rfl
    cases d with
    | tup ds =>
      obtain ⟨hl, hds⟩ := nl_tup' h
      have g1 := gNe_nilT h (by omega)
      have f0 : fits 0 = true := by decide
      have f1 : fits 1 = true := by decide
      have ty : D.ty (.tup ds) = some "tuple" := rfl
      have kt : kitB "tuple" "tuple" = some true := kb3
      by_cases h0 : ds = []
      · have d0 : decide (ds = []) = true := decide_eq_true h0
        refine fin a b a b hs ?_
        simp only [q_seq, q_nx, q_rt, q_bk, q_exc, q_nil, q_ret, q_kret, q_retN, q_if, q_ift, q_iff, q_expr, q_kexpr, q_sexc, q_set, q_ksetv, q_ksett, q_c, q_v, q_vv, q_vo, q_vi, q_fz, q_kfzv, q_kfzt, q_op, q_op1, q_op2, q_opE, q_lv, q_lt, q_ls, q_slo, q_sli, q_slv, q_fzl, q_oWs, q_un, q_kun, q_unE, q_and, q_or, q_not, q_thenB, q_andt, q_andf, q_ort, q_orf, q_knot, q_fB, q_kB, q_tru, q_ktru, q_truB, q_bnot, q_kbnot, q_band, q_bor, q_bandt, q_bandf, q_bort, q_borf, q_vif, q_vift, q_viff, q_anil, q_acons, q_kcons1, q_kcons2, q_tup, q_lst, q_ktup, q_klst, q_gnil, q_gval, q_kval1, q_kval2, q_gio, q_kio, q_call, q_finv, q_fint, q_finn, q_fine, q_fins, q_kcall, q_held, q_slHo, q_slHi, q_setL, q_slSo, q_slSi, q_setIx, q_kSetIx, q_setIx1, q_kSetIx2, q_setIx2, q_setIx3, q_app, q_app1, q_kApp, q_app2, q_ns, q_knsv, q_knst, q_par, q_kpar1, q_kpvv, q_kpvt, q_kptv, q_kptt, q_put2, q_sl, q_ksl1, q_ksl2, q_ksl3, q_sl4, q_ono, q_osome, q_kO, q_for, q_iseq, q_kseqT, q_kseqL, q_kseqS, q_isIo, q_ioV, q_ioE, q_ioO, q_nmG, q_frzS, q_frzV, q_frzT, q_fzSV, q_fzSO, q_kfzs, q_fzP, q_knss, q_nsP, q_came, q_cameO, q_cameX, q_cameF, q_cameW, q_mask, q_maskV, q_maskO, q_lenT, q_lenL, q_lenS, q_gLt, q_gLe, q_gGt, q_gGe, q_gInt, q_gAdd, q_gSub, q_gNeg, q_rR1, q_rR2, q_rs1, q_rs2, startE, finS, outs, outS, agSls, agSl, ios, callC, resC, isHeld, gIsi, D.seq?, tru, q_bok, q_sok, q_bexc, q_sxc, q_bstk, q_sstk, List.length_cons, List.length_nil, List.getElem?_cons_zero, List.getElem?_cons_succ, List.append_nil, List.replicate, Option.map_some, Option.map_none, List.mapIdx_cons, List.mapIdx_nil, Nat.sub_self, List.cons_append, List.nil_append, Bool.not_false, Bool.not_true, List.set_cons_zero, List.set_cons_succ, Bool.false_eq_true, if_true, if_false, reduceIte, decide_true, Nat.zero_add, Nat.reduceAdd, Nat.reduceSub, Nat.reduceBEq, beq_self_eq_true, List.nodup_nil, List.length_map, List.map_cons, List.map_nil, eq_self, ite_true, ite_false, ty, kt, f0, g1, d0]
      · have d0 : decide (ds = []) = false := decide_eq_false h0
        obtain ⟨a1, b1, d1, s1, p1, p2, e1⟩ := m_pick a b 7 hs (by omega) (by decide)
        by_cases h7 : 0 < d1
        · have dp : decide (0 < d1) = true := decide_eq_true h7
          have pl := List.length_pos_iff.mpr h0
          obtain ⟨a2, b2, d2, s2, p3, p4, e2⟩ := m_pick a1 b1 ds.length s1 (by omega) (by omega)
          obtain ⟨a3, b3, d3, s3, p5, p6, e3⟩ := m_pick a2 b2 9 s2 (by omega) (by decide)
          obtain ⟨i, rfl⟩ : ∃ i : Nat, d2 = i := ⟨d2.toNat, by omega⟩
          have hi : i < ds.length := by omega
          have q1 := gSl_lo (ds := ds) (i := i) (by omega)
          have q2 : gSl (.tup ds) (some ((i : Int) + 1)) none = some (.val (.tup (ds.drop (i + 1)))) := gSl_hi (ds := ds) (i := i + 1) (by omega)
          have q3 : gSl (.tup ds) (some (i : Int)) (some ((i : Int) + 1)) = some (.val (.tup ((ds.drop i).take (i + 1 - i)))) := gSl_mid (ds := ds) (i := i) (j := i + 1) (by omega) (by omega)
          have q4 := gSl_hi (ds := ds) (i := i) (by omega)
          have q5 : gIx (.tup ds) (.int (i : Nat)) = some (.val ds[i]) := gIx_tup (List.getElem?_eq_getElem hi)
          have ev3 := gEq_int d3 0
          have ev4 := gEq_int d3 1
          have ev5 := gEq_int d3 2
          have mt : ∀ (xs : List D), (∀ x ∈ xs, x ∈ ds) → ∀ x ∈ xs, nl (L + 2) (n + 2) x = true := fun xs hx x hm => nl_mono (by omega) (by omega) (hds x (hx x hm))
          by_cases w0 : d3 = 0
          · have dw : decide (d3 = 0) = true := decide_eq_true w0
            have ga := gAdd_tup' (xs := ds.take i) (ys := ds.drop (i + 1)) (by simp only [List.length_take, List.length_drop]; omega)
            refine ⟨a3, b3, .tup (ds.take i ++ ds.drop (i + 1)), s3, nl_tup (by simp only [List.length_append, List.length_take, List.length_drop]; omega) (mt _ fun x hx => ?_), ?_⟩
            · rcases List.mem_append.mp hx with z | z
              · exact List.mem_of_mem_take z
              · exact List.mem_of_mem_drop z
            · simp only [q_seq, q_nx, q_rt, q_bk, q_exc, q_nil, q_ret, q_kret, q_retN, q_if, q_ift, q_iff, q_expr, q_kexpr, q_sexc, q_set, q_ksetv, q_ksett, q_c, q_v, q_vv, q_vo, q_vi, q_fz, q_kfzv, q_kfzt, q_op, q_op1, q_op2, q_opE, q_lv, q_lt, q_ls, q_slo, q_sli, q_slv, q_fzl, q_oWs, q_un, q_kun, q_unE, q_and, q_or, q_not, q_thenB, q_andt, q_andf, q_ort, q_orf, q_knot, q_fB, q_kB, q_tru, q_ktru, q_truB, q_bnot, q_kbnot, q_band, q_bor, q_bandt, q_bandf, q_bort, q_borf, q_vif, q_vift, q_viff, q_anil, q_acons, q_kcons1, q_kcons2, q_tup, q_lst, q_ktup, q_klst, q_gnil, q_gval, q_kval1, q_kval2, q_gio, q_kio, q_call, q_finv, q_fint, q_finn, q_fine, q_fins, q_kcall, q_held, q_slHo, q_slHi, q_setL, q_slSo, q_slSi, q_setIx, q_kSetIx, q_setIx1, q_kSetIx2, q_setIx2, q_setIx3, q_app, q_app1, q_kApp, q_app2, q_ns, q_knsv, q_knst, q_par, q_kpar1, q_kpvv, q_kpvt, q_kptv, q_kptt, q_put2, q_sl, q_ksl1, q_ksl2, q_ksl3, q_sl4, q_ono, q_osome, q_kO, q_for, q_iseq, q_kseqT, q_kseqL, q_kseqS, q_isIo, q_ioV, q_ioE, q_ioO, q_nmG, q_frzS, q_frzV, q_frzT, q_fzSV, q_fzSO, q_kfzs, q_fzP, q_knss, q_nsP, q_came, q_cameO, q_cameX, q_cameF, q_cameW, q_mask, q_maskV, q_maskO, q_lenT, q_lenL, q_lenS, q_gLt, q_gLe, q_gGt, q_gGe, q_gInt, q_gAdd, q_gSub, q_gNeg, q_rR1, q_rR2, q_rs1, q_rs2, startE, finS, outs, outS, agSls, agSl, ios, callC, resC, isHeld, gIsi, D.seq?, tru, q_bok, q_sok, q_bexc, q_sxc, q_bstk, q_sstk, List.length_cons, List.length_nil, List.getElem?_cons_zero, List.getElem?_cons_succ, List.append_nil, List.replicate, Option.map_some, Option.map_none, List.mapIdx_cons, List.mapIdx_nil, Nat.sub_self, List.cons_append, List.nil_append, Bool.not_false, Bool.not_true, List.set_cons_zero, List.set_cons_succ, Bool.false_eq_true, if_true, if_false, reduceIte, decide_true, Nat.zero_add, Nat.reduceAdd, Nat.reduceSub, Nat.reduceBEq, beq_self_eq_true, List.nodup_nil, List.length_map, List.map_cons, List.map_nil, eq_self, ite_true, ite_false, FF__law_bent, ev__law_bent, ty, kt, f0, g1, d0, e1, dp, q_put2, e2, e3, ev3, dw, q_sl, q1, q2, ga, nodup1, io0 io_v, Sl.putC]
          · have dw : decide (d3 = 0) = false := decide_eq_false w0
            by_cases w1 : d3 = 1
            · have dw1 : decide (d3 = 1) = true := decide_eq_true w1
              have ga := gAdd_tup' (xs := ds.take i) (ys := (ds.drop i).take (i + 1 - i)) (by simp only [List.length_take, List.length_drop]; omega)
              have ga2 := gAdd_tup' (xs := ds.take i ++ (ds.drop i).take (i + 1 - i)) (ys := ds.drop i) (by simp only [List.length_append, List.length_take, List.length_drop]; omega)
              refine ⟨a3, b3, .tup ((ds.take i ++ (ds.drop i).take (i + 1 - i)) ++ ds.drop i), s3, nl_tup (by simp only [List.length_append, List.length_take, List.length_drop]; omega) (mt _ fun x hx => ?_), ?_⟩
              · rcases List.mem_append.mp hx with z | z
                · rcases List.mem_append.mp z with z | z
                  · exact List.mem_of_mem_take z
                  · exact List.mem_of_mem_drop (List.mem_of_mem_take z)
                · exact List.mem_of_mem_drop z
              · simp only [q_seq, q_nx, q_rt, q_bk, q_exc, q_nil, q_ret, q_kret, q_retN, q_if, q_ift, q_iff, q_expr, q_kexpr, q_sexc, q_set, q_ksetv, q_ksett, q_c, q_v, q_vv, q_vo, q_vi, q_fz, q_kfzv, q_kfzt, q_op, q_op1, q_op2, q_opE, q_lv, q_lt, q_ls, q_slo, q_sli, q_slv, q_fzl, q_oWs, q_un, q_kun, q_unE, q_and, q_or, q_not, q_thenB, q_andt, q_andf, q_ort, q_orf, q_knot, q_fB, q_kB, q_tru, q_ktru, q_truB, q_bnot, q_kbnot, q_band, q_bor, q_bandt, q_bandf, q_bort, q_borf, q_vif, q_vift, q_viff, q_anil, q_acons, q_kcons1, q_kcons2, q_tup, q_lst, q_ktup, q_klst, q_gnil, q_gval, q_kval1, q_kval2, q_gio, q_kio, q_call, q_finv, q_fint, q_finn, q_fine, q_fins, q_kcall, q_held, q_slHo, q_slHi, q_setL, q_slSo, q_slSi, q_setIx, q_kSetIx, q_setIx1, q_kSetIx2, q_setIx2, q_setIx3, q_app, q_app1, q_kApp, q_app2, q_ns, q_knsv, q_knst, q_par, q_kpar1, q_kpvv, q_kpvt, q_kptv, q_kptt, q_put2, q_sl, q_ksl1, q_ksl2, q_ksl3, q_sl4, q_ono, q_osome, q_kO, q_for, q_iseq, q_kseqT, q_kseqL, q_kseqS, q_isIo, q_ioV, q_ioE, q_ioO, q_nmG, q_frzS, q_frzV, q_frzT, q_fzSV, q_fzSO, q_kfzs, q_fzP, q_knss, q_nsP, q_came, q_cameO, q_cameX, q_cameF, q_cameW, q_mask, q_maskV, q_maskO, q_lenT, q_lenL, q_lenS, q_gLt, q_gLe, q_gGt, q_gGe, q_gInt, q_gAdd, q_gSub, q_gNeg, q_rR1, q_rR2, q_rs1, q_rs2, startE, finS, outs, outS, agSls, agSl, ios, callC, resC, isHeld, gIsi, D.seq?, tru, q_bok, q_sok, q_bexc, q_sxc, q_bstk, q_sstk, List.length_cons, List.length_nil, List.getElem?_cons_zero, List.getElem?_cons_succ, List.append_nil, List.replicate, Option.map_some, Option.map_none, List.mapIdx_cons, List.mapIdx_nil, Nat.sub_self, List.cons_append, List.nil_append, Bool.not_false, Bool.not_true, List.set_cons_zero, List.set_cons_succ, Bool.false_eq_true, if_true, if_false, reduceIte, decide_true, Nat.zero_add, Nat.reduceAdd, Nat.reduceSub, Nat.reduceBEq, beq_self_eq_true, List.nodup_nil, List.length_map, List.map_cons, List.map_nil, eq_self, ite_true, ite_false, FF__law_bent, ev__law_bent, ty, kt, f0, g1, d0, e1, dp, q_put2, e2, e3, ev3, ev4, dw, dw1, q_sl, q1, q3, q4, ga, ga2, nodup1, io0 io_v, Sl.putC]
            · have dw1 : decide (d3 = 1) = false := decide_eq_false w1
              by_cases w2 : d3 = 2
              · have dw2 : decide (d3 = 2) = true := decide_eq_true w2
                have gr : gRev (.tup ds) = some (.val (.tup ds.reverse)) := rfl
                refine ⟨a3, b3, .tup ds.reverse, s3, nl_tup (by rw [List.length_reverse]; omega) (mt _ fun x hx => List.mem_reverse.mp hx), ?_⟩
                simp only [q_seq, q_nx, q_rt, q_bk, q_exc, q_nil, q_ret, q_kret, q_retN, q_if, q_ift, q_iff, q_expr, q_kexpr, q_sexc, q_set, q_ksetv, q_ksett, q_c, q_v, q_vv, q_vo, q_vi, q_fz, q_kfzv, q_kfzt, q_op, q_op1, q_op2, q_opE, q_lv, q_lt, q_ls, q_slo, q_sli, q_slv, q_fzl, q_oWs, q_un, q_kun, q_unE, q_and, q_or, q_not, q_thenB, q_andt, q_andf, q_ort, q_orf, q_knot, q_fB, q_kB, q_tru, q_ktru, q_truB, q_bnot, q_kbnot, q_band, q_bor, q_bandt, q_bandf, q_bort, q_borf, q_vif, q_vift, q_viff, q_anil, q_acons, q_kcons1, q_kcons2, q_tup, q_lst, q_ktup, q_klst, q_gnil, q_gval, q_kval1, q_kval2, q_gio, q_kio, q_call, q_finv, q_fint, q_finn, q_fine, q_fins, q_kcall, q_held, q_slHo, q_slHi, q_setL, q_slSo, q_slSi, q_setIx, q_kSetIx, q_setIx1, q_kSetIx2, q_setIx2, q_setIx3, q_app, q_app1, q_kApp, q_app2, q_ns, q_knsv, q_knst, q_par, q_kpar1, q_kpvv, q_kpvt, q_kptv, q_kptt, q_put2, q_sl, q_ksl1, q_ksl2, q_ksl3, q_sl4, q_ono, q_osome, q_kO, q_for, q_iseq, q_kseqT, q_kseqL, q_kseqS, q_isIo, q_ioV, q_ioE, q_ioO, q_nmG, q_frzS, q_frzV, q_frzT, q_fzSV, q_fzSO, q_kfzs, q_fzP, q_knss, q_nsP, q_came, q_cameO, q_cameX, q_cameF, q_cameW, q_mask, q_maskV, q_maskO, q_lenT, q_lenL, q_lenS, q_gLt, q_gLe, q_gGt, q_gGe, q_gInt, q_gAdd, q_gSub, q_gNeg, q_rR1, q_rR2, q_rs1, q_rs2, startE, finS, outs, outS, agSls, agSl, ios, callC, resC, isHeld, gIsi, D.seq?, tru, q_bok, q_sok, q_bexc, q_sxc, q_bstk, q_sstk, List.length_cons, List.length_nil, List.getElem?_cons_zero, List.getElem?_cons_succ, List.append_nil, List.replicate, Option.map_some, Option.map_none, List.mapIdx_cons, List.mapIdx_nil, Nat.sub_self, List.cons_append, List.nil_append, Bool.not_false, Bool.not_true, List.set_cons_zero, List.set_cons_succ, Bool.false_eq_true, if_true, if_false, reduceIte, decide_true, Nat.zero_add, Nat.reduceAdd, Nat.reduceSub, Nat.reduceBEq, beq_self_eq_true, List.nodup_nil, List.length_map, List.map_cons, List.map_nil, eq_self, ite_true, ite_false, FF__law_bent, ev__law_bent, ty, kt, f0, g1, d0, e1, dp, q_put2, e2, e3, ev3, ev4, ev5, dw, dw1, dw2, gr, nodup1, io0 io_v, Sl.putC]
              · have dw2 : decide (d3 = 2) = false := decide_eq_false w2
                obtain ⟨a4, b4, d', s4, nd, e4⟩ := m_bent n L ds[i] a3 b3 (hds _ (List.getElem_mem hi)) (by omega) hL s3
                have ga := gAdd_tup' (xs := ds.take i) (ys := [d']) (by simp only [List.length_take, List.length_cons, List.length_nil]; omega)
                have ga2 := gAdd_tup' (xs := ds.take i ++ [d']) (ys := ds.drop (i + 1)) (by simp only [List.length_append, List.length_take, List.length_drop, List.length_cons, List.length_nil]; omega)
                refine ⟨a4, b4, .tup ((ds.take i ++ [d']) ++ ds.drop (i + 1)), s4, nl_tup (by simp only [List.length_append, List.length_take, List.length_drop, List.length_cons, List.length_nil]; omega) (fun x hx => ?_), ?_⟩
                · rcases List.mem_append.mp hx with z | z
                  · rcases List.mem_append.mp z with z | z
                    · exact mt _ (fun x hx => List.mem_of_mem_take hx) x z
                    · rw [List.mem_singleton.mp z]; exact nd
                  · exact mt _ (fun x hx => List.mem_of_mem_drop hx) x z
                · simp only [q_seq, q_nx, q_rt, q_bk, q_exc, q_nil, q_ret, q_kret, q_retN, q_if, q_ift, q_iff, q_expr, q_kexpr, q_sexc, q_set, q_ksetv, q_ksett, q_c, q_v, q_vv, q_vo, q_vi, q_fz, q_kfzv, q_kfzt, q_op, q_op1, q_op2, q_opE, q_lv, q_lt, q_ls, q_slo, q_sli, q_slv, q_fzl, q_oWs, q_un, q_kun, q_unE, q_and, q_or, q_not, q_thenB, q_andt, q_andf, q_ort, q_orf, q_knot, q_fB, q_kB, q_tru, q_ktru, q_truB, q_bnot, q_kbnot, q_band, q_bor, q_bandt, q_bandf, q_bort, q_borf, q_vif, q_vift, q_viff, q_anil, q_acons, q_kcons1, q_kcons2, q_tup, q_lst, q_ktup, q_klst, q_gnil, q_gval, q_kval1, q_kval2, q_gio, q_kio, q_call, q_finv, q_fint, q_finn, q_fine, q_fins, q_kcall, q_held, q_slHo, q_slHi, q_setL, q_slSo, q_slSi, q_setIx, q_kSetIx, q_setIx1, q_kSetIx2, q_setIx2, q_setIx3, q_app, q_app1, q_kApp, q_app2, q_ns, q_knsv, q_knst, q_par, q_kpar1, q_kpvv, q_kpvt, q_kptv, q_kptt, q_put2, q_sl, q_ksl1, q_ksl2, q_ksl3, q_sl4, q_ono, q_osome, q_kO, q_for, q_iseq, q_kseqT, q_kseqL, q_kseqS, q_isIo, q_ioV, q_ioE, q_ioO, q_nmG, q_frzS, q_frzV, q_frzT, q_fzSV, q_fzSO, q_kfzs, q_fzP, q_knss, q_nsP, q_came, q_cameO, q_cameX, q_cameF, q_cameW, q_mask, q_maskV, q_maskO, q_lenT, q_lenL, q_lenS, q_gLt, q_gLe, q_gGt, q_gGe, q_gInt, q_gAdd, q_gSub, q_gNeg, q_rR1, q_rR2, q_rs1, q_rs2, startE, finS, outs, outS, agSls, agSl, ios, callC, resC, isHeld, gIsi, D.seq?, tru, q_bok, q_sok, q_bexc, q_sxc, q_bstk, q_sstk, List.length_cons, List.length_nil, List.getElem?_cons_zero, List.getElem?_cons_succ, List.append_nil, List.replicate, Option.map_some, Option.map_none, List.mapIdx_cons, List.mapIdx_nil, Nat.sub_self, List.cons_append, List.nil_append, Bool.not_false, Bool.not_true, List.set_cons_zero, List.set_cons_succ, Bool.false_eq_true, if_true, if_false, reduceIte, decide_true, Nat.zero_add, Nat.reduceAdd, Nat.reduceSub, Nat.reduceBEq, beq_self_eq_true, List.nodup_nil, List.length_map, List.map_cons, List.map_nil, eq_self, ite_true, ite_false, FF__law_bent, ev__law_bent, ty, kt, f0, g1, d0, e1, dp, q_put2, e2, e3, e4, ev3, ev4, ev5, dw, dw1, dw2, q5, q1, q2, ga, ga2, f1, nodup1, io0 io_v, Sl.putC]
        · have dp : decide (0 < d1) = false := decide_eq_false h7
          refine fin a b a1 b1 s1 ?_
          simp only [q_seq, q_nx, q_rt, q_bk, q_exc, q_nil, q_ret, q_kret, q_retN, q_if, q_ift, q_iff, q_expr, q_kexpr, q_sexc, q_set, q_ksetv, q_ksett, q_c, q_v, q_vv, q_vo, q_vi, q_fz, q_kfzv, q_kfzt, q_op, q_op1, q_op2, q_opE, q_lv, q_lt, q_ls, q_slo, q_sli, q_slv, q_fzl, q_oWs, q_un, q_kun, q_unE, q_and, q_or, q_not, q_thenB, q_andt, q_andf, q_ort, q_orf, q_knot, q_fB, q_kB, q_tru, q_ktru, q_truB, q_bnot, q_kbnot, q_band, q_bor, q_bandt, q_bandf, q_bort, q_borf, q_vif, q_vift, q_viff, q_anil, q_acons, q_kcons1, q_kcons2, q_tup, q_lst, q_ktup, q_klst, q_gnil, q_gval, q_kval1, q_kval2, q_gio, q_kio, q_call, q_finv, q_fint, q_finn, q_fine, q_fins, q_kcall, q_held, q_slHo, q_slHi, q_setL, q_slSo, q_slSi, q_setIx, q_kSetIx, q_setIx1, q_kSetIx2, q_setIx2, q_setIx3, q_app, q_app1, q_kApp, q_app2, q_ns, q_knsv, q_knst, q_par, q_kpar1, q_kpvv, q_kpvt, q_kptv, q_kptt, q_put2, q_sl, q_ksl1, q_ksl2, q_ksl3, q_sl4, q_ono, q_osome, q_kO, q_for, q_iseq, q_kseqT, q_kseqL, q_kseqS, q_isIo, q_ioV, q_ioE, q_ioO, q_nmG, q_frzS, q_frzV, q_frzT, q_fzSV, q_fzSO, q_kfzs, q_fzP, q_knss, q_nsP, q_came, q_cameO, q_cameX, q_cameF, q_cameW, q_mask, q_maskV, q_maskO, q_lenT, q_lenL, q_lenS, q_gLt, q_gLe, q_gGt, q_gGe, q_gInt, q_gAdd, q_gSub, q_gNeg, q_rR1, q_rR2, q_rs1, q_rs2, startE, finS, outs, outS, agSls, agSl, ios, callC, resC, isHeld, gIsi, D.seq?, tru, q_bok, q_sok, q_bexc, q_sxc, q_bstk, q_sstk, List.length_cons, List.length_nil, List.getElem?_cons_zero, List.getElem?_cons_succ, List.append_nil, List.replicate, Option.map_some, Option.map_none, List.mapIdx_cons, List.mapIdx_nil, Nat.sub_self, List.cons_append, List.nil_append, Bool.not_false, Bool.not_true, List.set_cons_zero, List.set_cons_succ, Bool.false_eq_true, if_true, if_false, reduceIte, decide_true, Nat.zero_add, Nat.reduceAdd, Nat.reduceSub, Nat.reduceBEq, beq_self_eq_true, List.nodup_nil, List.length_map, List.map_cons, List.map_nil, eq_self, ite_true, ite_false, ty, kt, f0, g1, d0, e1, dp, nodup1, io0 io_v, Sl.putC]
    | non =>
      refine fin a b a b hs ?_
      have kt := kT "NoneType" (by decide)
      simp only [decide_false, String.reduceEq] at kt
      simp only [q_seq, q_nx, q_rt, q_bk, q_exc, q_nil, q_ret, q_kret, q_retN, q_if, q_ift, q_iff, q_expr, q_kexpr, q_sexc, q_set, q_ksetv, q_ksett, q_c, q_v, q_vv, q_vo, q_vi, q_fz, q_kfzv, q_kfzt, q_op, q_op1, q_op2, q_opE, q_lv, q_lt, q_ls, q_slo, q_sli, q_slv, q_fzl, q_oWs, q_un, q_kun, q_unE, q_and, q_or, q_not, q_thenB, q_andt, q_andf, q_ort, q_orf, q_knot, q_fB, q_kB, q_tru, q_ktru, q_truB, q_bnot, q_kbnot, q_band, q_bor, q_bandt, q_bandf, q_bort, q_borf, q_vif, q_vift, q_viff, q_anil, q_acons, q_kcons1, q_kcons2, q_tup, q_lst, q_ktup, q_klst, q_gnil, q_gval, q_kval1, q_kval2, q_gio, q_kio, q_call, q_finv, q_fint, q_finn, q_fine, q_fins, q_kcall, q_held, q_slHo, q_slHi, q_setL, q_slSo, q_slSi, q_setIx, q_kSetIx, q_setIx1, q_kSetIx2, q_setIx2, q_setIx3, q_app, q_app1, q_kApp, q_app2, q_ns, q_knsv, q_knst, q_par, q_kpar1, q_kpvv, q_kpvt, q_kptv, q_kptt, q_put2, q_sl, q_ksl1, q_ksl2, q_ksl3, q_sl4, q_ono, q_osome, q_kO, q_for, q_iseq, q_kseqT, q_kseqL, q_kseqS, q_isIo, q_ioV, q_ioE, q_ioO, q_nmG, q_frzS, q_frzV, q_frzT, q_fzSV, q_fzSO, q_kfzs, q_fzP, q_knss, q_nsP, q_came, q_cameO, q_cameX, q_cameF, q_cameW, q_mask, q_maskV, q_maskO, q_lenT, q_lenL, q_lenS, q_gLt, q_gLe, q_gGt, q_gGe, q_gInt, q_gAdd, q_gSub, q_gNeg, q_rR1, q_rR2, q_rs1, q_rs2, startE, finS, outs, outS, agSls, agSl, ios, callC, resC, isHeld, gIsi, D.seq?, tru, q_bok, q_sok, q_bexc, q_sxc, q_bstk, q_sstk, List.length_cons, List.length_nil, List.getElem?_cons_zero, List.getElem?_cons_succ, List.append_nil, List.replicate, Option.map_some, Option.map_none, List.mapIdx_cons, List.mapIdx_nil, Nat.sub_self, List.cons_append, List.nil_append, Bool.not_false, Bool.not_true, List.set_cons_zero, List.set_cons_succ, Bool.false_eq_true, if_true, if_false, reduceIte, decide_true, Nat.zero_add, Nat.reduceAdd, Nat.reduceSub, Nat.reduceBEq, beq_self_eq_true, List.nodup_nil, List.length_map, List.map_cons, List.map_nil, eq_self, ite_true, ite_false, D.ty, kt]
    | bl c =>
      refine fin a b a b hs ?_
      have kt := kT "bool" (by decide)
      simp only [decide_false, String.reduceEq] at kt
      simp only [q_seq, q_nx, q_rt, q_bk, q_exc, q_nil, q_ret, q_kret, q_retN, q_if, q_ift, q_iff, q_expr, q_kexpr, q_sexc, q_set, q_ksetv, q_ksett, q_c, q_v, q_vv, q_vo, q_vi, q_fz, q_kfzv, q_kfzt, q_op, q_op1, q_op2, q_opE, q_lv, q_lt, q_ls, q_slo, q_sli, q_slv, q_fzl, q_oWs, q_un, q_kun, q_unE, q_and, q_or, q_not, q_thenB, q_andt, q_andf, q_ort, q_orf, q_knot, q_fB, q_kB, q_tru, q_ktru, q_truB, q_bnot, q_kbnot, q_band, q_bor, q_bandt, q_bandf, q_bort, q_borf, q_vif, q_vift, q_viff, q_anil, q_acons, q_kcons1, q_kcons2, q_tup, q_lst, q_ktup, q_klst, q_gnil, q_gval, q_kval1, q_kval2, q_gio, q_kio, q_call, q_finv, q_fint, q_finn, q_fine, q_fins, q_kcall, q_held, q_slHo, q_slHi, q_setL, q_slSo, q_slSi, q_setIx, q_kSetIx, q_setIx1, q_kSetIx2, q_setIx2, q_setIx3, q_app, q_app1, q_kApp, q_app2, q_ns, q_knsv, q_knst, q_par, q_kpar1, q_kpvv, q_kpvt, q_kptv, q_kptt, q_put2, q_sl, q_ksl1, q_ksl2, q_ksl3, q_sl4, q_ono, q_osome, q_kO, q_for, q_iseq, q_kseqT, q_kseqL, q_kseqS, q_isIo, q_ioV, q_ioE, q_ioO, q_nmG, q_frzS, q_frzV, q_frzT, q_fzSV, q_fzSO, q_kfzs, q_fzP, q_knss, q_nsP, q_came, q_cameO, q_cameX, q_cameF, q_cameW, q_mask, q_maskV, q_maskO, q_lenT, q_lenL, q_lenS, q_gLt, q_gLe, q_gGt, q_gGe, q_gInt, q_gAdd, q_gSub, q_gNeg, q_rR1, q_rR2, q_rs1, q_rs2, startE, finS, outs, outS, agSls, agSl, ios, callC, resC, isHeld, gIsi, D.seq?, tru, q_bok, q_sok, q_bexc, q_sxc, q_bstk, q_sstk, List.length_cons, List.length_nil, List.getElem?_cons_zero, List.getElem?_cons_succ, List.append_nil, List.replicate, Option.map_some, Option.map_none, List.mapIdx_cons, List.mapIdx_nil, Nat.sub_self, List.cons_append, List.nil_append, Bool.not_false, Bool.not_true, List.set_cons_zero, List.set_cons_succ, Bool.false_eq_true, if_true, if_false, reduceIte, decide_true, Nat.zero_add, Nat.reduceAdd, Nat.reduceSub, Nat.reduceBEq, beq_self_eq_true, List.nodup_nil, List.length_map, List.map_cons, List.map_nil, eq_self, ite_true, ite_false, D.ty, kt]
    | int c =>
      refine fin a b a b hs ?_
      have kt := kT "int" (by decide)
      simp only [decide_false, String.reduceEq] at kt
      simp only [q_seq, q_nx, q_rt, q_bk, q_exc, q_nil, q_ret, q_kret, q_retN, q_if, q_ift, q_iff, q_expr, q_kexpr, q_sexc, q_set, q_ksetv, q_ksett, q_c, q_v, q_vv, q_vo, q_vi, q_fz, q_kfzv, q_kfzt, q_op, q_op1, q_op2, q_opE, q_lv, q_lt, q_ls, q_slo, q_sli, q_slv, q_fzl, q_oWs, q_un, q_kun, q_unE, q_and, q_or, q_not, q_thenB, q_andt, q_andf, q_ort, q_orf, q_knot, q_fB, q_kB, q_tru, q_ktru, q_truB, q_bnot, q_kbnot, q_band, q_bor, q_bandt, q_bandf, q_bort, q_borf, q_vif, q_vift, q_viff, q_anil, q_acons, q_kcons1, q_kcons2, q_tup, q_lst, q_ktup, q_klst, q_gnil, q_gval, q_kval1, q_kval2, q_gio, q_kio, q_call, q_finv, q_fint, q_finn, q_fine, q_fins, q_kcall, q_held, q_slHo, q_slHi, q_setL, q_slSo, q_slSi, q_setIx, q_kSetIx, q_setIx1, q_kSetIx2, q_setIx2, q_setIx3, q_app, q_app1, q_kApp, q_app2, q_ns, q_knsv, q_knst, q_par, q_kpar1, q_kpvv, q_kpvt, q_kptv, q_kptt, q_put2, q_sl, q_ksl1, q_ksl2, q_ksl3, q_sl4, q_ono, q_osome, q_kO, q_for, q_iseq, q_kseqT, q_kseqL, q_kseqS, q_isIo, q_ioV, q_ioE, q_ioO, q_nmG, q_frzS, q_frzV, q_frzT, q_fzSV, q_fzSO, q_kfzs, q_fzP, q_knss, q_nsP, q_came, q_cameO, q_cameX, q_cameF, q_cameW, q_mask, q_maskV, q_maskO, q_lenT, q_lenL, q_lenS, q_gLt, q_gLe, q_gGt, q_gGe, q_gInt, q_gAdd, q_gSub, q_gNeg, q_rR1, q_rR2, q_rs1, q_rs2, startE, finS, outs, outS, agSls, agSl, ios, callC, resC, isHeld, gIsi, D.seq?, tru, q_bok, q_sok, q_bexc, q_sxc, q_bstk, q_sstk, List.length_cons, List.length_nil, List.getElem?_cons_zero, List.getElem?_cons_succ, List.append_nil, List.replicate, Option.map_some, Option.map_none, List.mapIdx_cons, List.mapIdx_nil, Nat.sub_self, List.cons_append, List.nil_append, Bool.not_false, Bool.not_true, List.set_cons_zero, List.set_cons_succ, Bool.false_eq_true, if_true, if_false, reduceIte, decide_true, Nat.zero_add, Nat.reduceAdd, Nat.reduceSub, Nat.reduceBEq, beq_self_eq_true, List.nodup_nil, List.length_map, List.map_cons, List.map_nil, eq_self, ite_true, ite_false, D.ty, kt]
    | str c =>
      refine fin a b a b hs ?_
      have kt := kT "str" (by decide)
      simp only [decide_false, String.reduceEq] at kt
      simp only [q_seq, q_nx, q_rt, q_bk, q_exc, q_nil, q_ret, q_kret, q_retN, q_if, q_ift, q_iff, q_expr, q_kexpr, q_sexc, q_set, q_ksetv, q_ksett, q_c, q_v, q_vv, q_vo, q_vi, q_fz, q_kfzv, q_kfzt, q_op, q_op1, q_op2, q_opE, q_lv, q_lt, q_ls, q_slo, q_sli, q_slv, q_fzl, q_oWs, q_un, q_kun, q_unE, q_and, q_or, q_not, q_thenB, q_andt, q_andf, q_ort, q_orf, q_knot, q_fB, q_kB, q_tru, q_ktru, q_truB, q_bnot, q_kbnot, q_band, q_bor, q_bandt, q_bandf, q_bort, q_borf, q_vif, q_vift, q_viff, q_anil, q_acons, q_kcons1, q_kcons2, q_tup, q_lst, q_ktup, q_klst, q_gnil, q_gval, q_kval1, q_kval2, q_gio, q_kio, q_call, q_finv, q_fint, q_finn, q_fine, q_fins, q_kcall, q_held, q_slHo, q_slHi, q_setL, q_slSo, q_slSi, q_setIx, q_kSetIx, q_setIx1, q_kSetIx2, q_setIx2, q_setIx3, q_app, q_app1, q_kApp, q_app2, q_ns, q_knsv, q_knst, q_par, q_kpar1, q_kpvv, q_kpvt, q_kptv, q_kptt, q_put2, q_sl, q_ksl1, q_ksl2, q_ksl3, q_sl4, q_ono, q_osome, q_kO, q_for, q_iseq, q_kseqT, q_kseqL, q_kseqS, q_isIo, q_ioV, q_ioE, q_ioO, q_nmG, q_frzS, q_frzV, q_frzT, q_fzSV, q_fzSO, q_kfzs, q_fzP, q_knss, q_nsP, q_came, q_cameO, q_cameX, q_cameF, q_cameW, q_mask, q_maskV, q_maskO, q_lenT, q_lenL, q_lenS, q_gLt, q_gLe, q_gGt, q_gGe, q_gInt, q_gAdd, q_gSub, q_gNeg, q_rR1, q_rR2, q_rs1, q_rs2, startE, finS, outs, outS, agSls, agSl, ios, callC, resC, isHeld, gIsi, D.seq?, tru, q_bok, q_sok, q_bexc, q_sxc, q_bstk, q_sstk, List.length_cons, List.length_nil, List.getElem?_cons_zero, List.getElem?_cons_succ, List.append_nil, List.replicate, Option.map_some, Option.map_none, List.mapIdx_cons, List.mapIdx_nil, Nat.sub_self, List.cons_append, List.nil_append, Bool.not_false, Bool.not_true, List.set_cons_zero, List.set_cons_succ, Bool.false_eq_true, if_true, if_false, reduceIte, decide_true, Nat.zero_add, Nat.reduceAdd, Nat.reduceSub, Nat.reduceBEq, beq_self_eq_true, List.nodup_nil, List.length_map, List.map_cons, List.map_nil, eq_self, ite_true, ite_false, D.ty, kt]
    | lst c =>
      refine fin a b a b hs ?_
      have kt := kT "list" (by decide)
      simp only [decide_false, String.reduceEq] at kt
      simp only [q_seq, q_nx, q_rt, q_bk, q_exc, q_nil, q_ret, q_kret, q_retN, q_if, q_ift, q_iff, q_expr, q_kexpr, q_sexc, q_set, q_ksetv, q_ksett, q_c, q_v, q_vv, q_vo, q_vi, q_fz, q_kfzv, q_kfzt, q_op, q_op1, q_op2, q_opE, q_lv, q_lt, q_ls, q_slo, q_sli, q_slv, q_fzl, q_oWs, q_un, q_kun, q_unE, q_and, q_or, q_not, q_thenB, q_andt, q_andf, q_ort, q_orf, q_knot, q_fB, q_kB, q_tru, q_ktru, q_truB, q_bnot, q_kbnot, q_band, q_bor, q_bandt, q_bandf, q_bort, q_borf, q_vif, q_vift, q_viff, q_anil, q_acons, q_kcons1, q_kcons2, q_tup, q_lst, q_ktup, q_klst, q_gnil, q_gval, q_kval1, q_kval2, q_gio, q_kio, q_call, q_finv, q_fint, q_finn, q_fine, q_fins, q_kcall, q_held, q_slHo, q_slHi, q_setL, q_slSo, q_slSi, q_setIx, q_kSetIx, q_setIx1, q_kSetIx2, q_setIx2, q_setIx3, q_app, q_app1, q_kApp, q_app2, q_ns, q_knsv, q_knst, q_par, q_kpar1, q_kpvv, q_kpvt, q_kptv, q_kptt, q_put2, q_sl, q_ksl1, q_ksl2, q_ksl3, q_sl4, q_ono, q_osome, q_kO, q_for, q_iseq, q_kseqT, q_kseqL, q_kseqS, q_isIo, q_ioV, q_ioE, q_ioO, q_nmG, q_frzS, q_frzV, q_frzT, q_fzSV, q_fzSO, q_kfzs, q_fzP, q_knss, q_nsP, q_came, q_cameO, q_cameX, q_cameF, q_cameW, q_mask, q_maskV, q_maskO, q_lenT, q_lenL, q_lenS, q_gLt, q_gLe, q_gGt, q_gGe, q_gInt, q_gAdd, q_gSub, q_gNeg, q_rR1, q_rR2, q_rs1, q_rs2, startE, finS, outs, outS, agSls, agSl, ios, callC, resC, isHeld, gIsi, D.seq?, tru, q_bok, q_sok, q_bexc, q_sxc, q_bstk, q_sstk, List.length_cons, List.length_nil, List.getElem?_cons_zero, List.getElem?_cons_succ, List.append_nil, List.replicate, Option.map_some, Option.map_none, List.mapIdx_cons, List.mapIdx_nil, Nat.sub_self, List.cons_append, List.nil_append, Bool.not_false, Bool.not_true, List.set_cons_zero, List.set_cons_succ, Bool.false_eq_true, if_true, if_false, reduceIte, decide_true, Nat.zero_add, Nat.reduceAdd, Nat.reduceSub, Nat.reduceBEq, beq_self_eq_true, List.nodup_nil, List.length_map, List.map_cons, List.map_nil, eq_self, ite_true, ite_false, D.ty, kt]
    | _ => cases h
end K01
namespace K01
open PySem PySem.Spec
open PyProof.Rows hiding St
open L2 DL
theorem w_way : DL.wd "InvalidWay" = some (Str.ofString "way") := by decide +kernel
theorem w_rec : DL.wd "InvalidRecipe" = some (Str.ofString "recipe") := by decide +kernel
theorem w_book : DL.wd "InvalidBook" = some (Str.ofString "book") := by decide +kernel
theorem x_without_way (ds ws : List D) (i : Nat) (w : D) (hf : fit (.tup ds) = true) (hv : (D.tup ds).py ≠ none) (hi : ds[i]? = some (.tup ws)) (hw : w.py ≠ none) (h : (iw w 0 (ws.length - 1) && !decide ((ws.length : Int) = 1)) = false) : FF_without [.val (.tup ds), .val (.int i), .val w] = .exc "InvalidWay" := by
  have w1 := m_look_book (.tup ds) hv
  have w2 := m_look_less ds ws i w hi hw
  rw [hf] at w1
  rw [h] at w2
  simp only [q_seq, q_nx, q_rt, q_bk, q_exc, q_nil, q_ret, q_kret, q_retN, q_if, q_ift, q_iff, q_expr, q_kexpr, q_sexc, q_set, q_ksetv, q_ksett, q_c, q_v, q_vv, q_vo, q_vi, q_fz, q_kfzv, q_kfzt, q_op, q_op1, q_op2, q_opE, q_lv, q_lt, q_ls, q_slo, q_sli, q_slv, q_fzl, q_oWs, q_un, q_kun, q_unE, q_and, q_or, q_not, q_thenB, q_andt, q_andf, q_ort, q_orf, q_knot, q_fB, q_kB, q_tru, q_ktru, q_truB, q_bnot, q_kbnot, q_band, q_bor, q_bandt, q_bandf, q_bort, q_borf, q_vif, q_vift, q_viff, q_anil, q_acons, q_kcons1, q_kcons2, q_tup, q_lst, q_ktup, q_klst, q_gnil, q_gval, q_kval1, q_kval2, q_gio, q_kio, q_call, q_finv, q_fint, q_finn, q_fine, q_fins, q_kcall, q_held, q_slHo, q_slHi, q_setL, q_slSo, q_slSi, q_setIx, q_kSetIx, q_setIx1, q_kSetIx2, q_setIx2, q_setIx3, q_app, q_app1, q_kApp, q_app2, q_ns, q_knsv, q_knst, q_par, q_kpar1, q_kpvv, q_kpvt, q_kptv, q_kptt, q_put2, q_sl, q_ksl1, q_ksl2, q_ksl3, q_sl4, q_ono, q_osome, q_kO, q_for, q_iseq, q_kseqT, q_kseqL, q_kseqS, q_isIo, q_ioV, q_ioE, q_ioO, q_nmG, q_frzS, q_frzV, q_frzT, q_fzSV, q_fzSO, q_kfzs, q_fzP, q_knss, q_nsP, q_came, q_cameO, q_cameX, q_cameF, q_cameW, q_mask, q_maskV, q_maskO, q_lenT, q_lenL, q_lenS, q_gLt, q_gLe, q_gGt, q_gGe, q_gInt, q_gAdd, q_gSub, q_gNeg, q_rR1, q_rR2, q_rs1, q_rs2, startE, finS, outs, outS, agSls, agSl, ios, callC, resC, isHeld, gIsi, D.seq?, tru, q_bok, q_sok, q_bexc, q_sxc, q_bstk, q_sstk, List.length_cons, List.length_nil, List.getElem?_cons_zero, List.getElem?_cons_succ, List.append_nil, List.replicate, Option.map_some, Option.map_none, List.mapIdx_cons, List.mapIdx_nil, Nat.sub_self, List.cons_append, List.nil_append, Bool.not_false, Bool.not_true, List.set_cons_zero, List.set_cons_succ, Bool.false_eq_true, if_true, if_false, reduceIte, decide_true, Nat.zero_add, Nat.reduceAdd, Nat.reduceSub, Nat.reduceBEq, beq_self_eq_true, List.nodup_nil, List.length_map, List.map_cons, List.map_nil, eq_self, ite_true, ite_false, ] at w1
  simp only [q_seq, q_nx, q_rt, q_bk, q_exc, q_nil, q_ret, q_kret, q_retN, q_if, q_ift, q_iff, q_expr, q_kexpr, q_sexc, q_set, q_ksetv, q_ksett, q_c, q_v, q_vv, q_vo, q_vi, q_fz, q_kfzv, q_kfzt, q_op, q_op1, q_op2, q_opE, q_lv, q_lt, q_ls, q_slo, q_sli, q_slv, q_fzl, q_oWs, q_un, q_kun, q_unE, q_and, q_or, q_not, q_thenB, q_andt, q_andf, q_ort, q_orf, q_knot, q_fB, q_kB, q_tru, q_ktru, q_truB, q_bnot, q_kbnot, q_band, q_bor, q_bandt, q_bandf, q_bort, q_borf, q_vif, q_vift, q_viff, q_anil, q_acons, q_kcons1, q_kcons2, q_tup, q_lst, q_ktup, q_klst, q_gnil, q_gval, q_kval1, q_kval2, q_gio, q_kio, q_call, q_finv, q_fint, q_finn, q_fine, q_fins, q_kcall, q_held, q_slHo, q_slHi, q_setL, q_slSo, q_slSi, q_setIx, q_kSetIx, q_setIx1, q_kSetIx2, q_setIx2, q_setIx3, q_app, q_app1, q_kApp, q_app2, q_ns, q_knsv, q_knst, q_par, q_kpar1, q_kpvv, q_kpvt, q_kptv, q_kptt, q_put2, q_sl, q_ksl1, q_ksl2, q_ksl3, q_sl4, q_ono, q_osome, q_kO, q_for, q_iseq, q_kseqT, q_kseqL, q_kseqS, q_isIo, q_ioV, q_ioE, q_ioO, q_nmG, q_frzS, q_frzV, q_frzT, q_fzSV, q_fzSO, q_kfzs, q_fzP, q_knss, q_nsP, q_came, q_cameO, q_cameX, q_cameF, q_cameW, q_mask, q_maskV, q_maskO, q_lenT, q_lenL, q_lenS, q_gLt, q_gLe, q_gGt, q_gGe, q_gInt, q_gAdd, q_gSub, q_gNeg, q_rR1, q_rR2, q_rs1, q_rs2, startE, finS, outs, outS, agSls, agSl, ios, callC, resC, isHeld, gIsi, D.seq?, tru, q_bok, q_sok, q_bexc, q_sxc, q_bstk, q_sstk, List.length_cons, List.length_nil, List.getElem?_cons_zero, List.getElem?_cons_succ, List.append_nil, List.replicate, Option.map_some, Option.map_none, List.mapIdx_cons, List.mapIdx_nil, Nat.sub_self, List.cons_append, List.nil_append, Bool.not_false, Bool.not_true, List.set_cons_zero, List.set_cons_succ, Bool.false_eq_true, if_true, if_false, reduceIte, decide_true, Nat.zero_add, Nat.reduceAdd, Nat.reduceSub, Nat.reduceBEq, beq_self_eq_true, List.nodup_nil, List.length_map, List.map_cons, List.map_nil, eq_self, ite_true, ite_false, ] at w2
  simp only [q_seq, q_nx, q_rt, q_bk, q_exc, q_nil, q_ret, q_kret, q_retN, q_if, q_ift, q_iff, q_expr, q_kexpr, q_sexc, q_set, q_ksetv, q_ksett, q_c, q_v, q_vv, q_vo, q_vi, q_fz, q_kfzv, q_kfzt, q_op, q_op1, q_op2, q_opE, q_lv, q_lt, q_ls, q_slo, q_sli, q_slv, q_fzl, q_oWs, q_un, q_kun, q_unE, q_and, q_or, q_not, q_thenB, q_andt, q_andf, q_ort, q_orf, q_knot, q_fB, q_kB, q_tru, q_ktru, q_truB, q_bnot, q_kbnot, q_band, q_bor, q_bandt, q_bandf, q_bort, q_borf, q_vif, q_vift, q_viff, q_anil, q_acons, q_kcons1, q_kcons2, q_tup, q_lst, q_ktup, q_klst, q_gnil, q_gval, q_kval1, q_kval2, q_gio, q_kio, q_call, q_finv, q_fint, q_finn, q_fine, q_fins, q_kcall, q_held, q_slHo, q_slHi, q_setL, q_slSo, q_slSi, q_setIx, q_kSetIx, q_setIx1, q_kSetIx2, q_setIx2, q_setIx3, q_app, q_app1, q_kApp, q_app2, q_ns, q_knsv, q_knst, q_par, q_kpar1, q_kpvv, q_kpvt, q_kptv, q_kptt, q_put2, q_sl, q_ksl1, q_ksl2, q_ksl3, q_sl4, q_ono, q_osome, q_kO, q_for, q_iseq, q_kseqT, q_kseqL, q_kseqS, q_isIo, q_ioV, q_ioE, q_ioO, q_nmG, q_frzS, q_frzV, q_frzT, q_fzSV, q_fzSO, q_kfzs, q_fzP, q_knss, q_nsP, q_came, q_cameO, q_cameX, q_cameF, q_cameW, q_mask, q_maskV, q_maskO, q_lenT, q_lenL, q_lenS, q_gLt, q_gLe, q_gGt, q_gGe, q_gInt, q_gAdd, q_gSub, q_gNeg, q_rR1, q_rR2, q_rs1, q_rs2, startE, finS, outs, outS, agSls, agSl, ios, callC, resC, isHeld, gIsi, D.seq?, tru, q_bok, q_sok, q_bexc, q_sxc, q_bstk, q_sstk, List.length_cons, List.length_nil, List.getElem?_cons_zero, List.getElem?_cons_succ, List.append_nil, List.replicate, Option.map_some, Option.map_none, List.mapIdx_cons, List.mapIdx_nil, Nat.sub_self, List.cons_append, List.nil_append, Bool.not_false, Bool.not_true, List.set_cons_zero, List.set_cons_succ, Bool.false_eq_true, if_true, if_false, reduceIte, decide_true, Nat.zero_add, Nat.reduceAdd, Nat.reduceSub, Nat.reduceBEq, beq_self_eq_true, List.nodup_nil, List.length_map, List.map_cons, List.map_nil, eq_self, ite_true, ite_false, FF_without, ev_without, w1, w2]
theorem x_without_rec (ds : List D) (r w : D) (hf : fit (.tup ds) = true) (hv : (D.tup ds).py ≠ none) (hr : r.py ≠ none) (h : iw r 0 (ds.length - 1) = false) : FF_without [.val (.tup ds), .val r, .val w] = .exc "InvalidRecipe" := by
  have w1 := m_look_book (.tup ds) hv
  have w2 := m_look_lone ds r hr
  rw [hf] at w1
  rw [h] at w2
  simp only [q_seq, q_nx, q_rt, q_bk, q_exc, q_nil, q_ret, q_kret, q_retN, q_if, q_ift, q_iff, q_expr, q_kexpr, q_sexc, q_set, q_ksetv, q_ksett, q_c, q_v, q_vv, q_vo, q_vi, q_fz, q_kfzv, q_kfzt, q_op, q_op1, q_op2, q_opE, q_lv, q_lt, q_ls, q_slo, q_sli, q_slv, q_fzl, q_oWs, q_un, q_kun, q_unE, q_and, q_or, q_not, q_thenB, q_andt, q_andf, q_ort, q_orf, q_knot, q_fB, q_kB, q_tru, q_ktru, q_truB, q_bnot, q_kbnot, q_band, q_bor, q_bandt, q_bandf, q_bort, q_borf, q_vif, q_vift, q_viff, q_anil, q_acons, q_kcons1, q_kcons2, q_tup, q_lst, q_ktup, q_klst, q_gnil, q_gval, q_kval1, q_kval2, q_gio, q_kio, q_call, q_finv, q_fint, q_finn, q_fine, q_fins, q_kcall, q_held, q_slHo, q_slHi, q_setL, q_slSo, q_slSi, q_setIx, q_kSetIx, q_setIx1, q_kSetIx2, q_setIx2, q_setIx3, q_app, q_app1, q_kApp, q_app2, q_ns, q_knsv, q_knst, q_par, q_kpar1, q_kpvv, q_kpvt, q_kptv, q_kptt, q_put2, q_sl, q_ksl1, q_ksl2, q_ksl3, q_sl4, q_ono, q_osome, q_kO, q_for, q_iseq, q_kseqT, q_kseqL, q_kseqS, q_isIo, q_ioV, q_ioE, q_ioO, q_nmG, q_frzS, q_frzV, q_frzT, q_fzSV, q_fzSO, q_kfzs, q_fzP, q_knss, q_nsP, q_came, q_cameO, q_cameX, q_cameF, q_cameW, q_mask, q_maskV, q_maskO, q_lenT, q_lenL, q_lenS, q_gLt, q_gLe, q_gGt, q_gGe, q_gInt, q_gAdd, q_gSub, q_gNeg, q_rR1, q_rR2, q_rs1, q_rs2, startE, finS, outs, outS, agSls, agSl, ios, callC, resC, isHeld, gIsi, D.seq?, tru, q_bok, q_sok, q_bexc, q_sxc, q_bstk, q_sstk, List.length_cons, List.length_nil, List.getElem?_cons_zero, List.getElem?_cons_succ, List.append_nil, List.replicate, Option.map_some, Option.map_none, List.mapIdx_cons, List.mapIdx_nil, Nat.sub_self, List.cons_append, List.nil_append, Bool.not_false, Bool.not_true, List.set_cons_zero, List.set_cons_succ, Bool.false_eq_true, if_true, if_false, reduceIte, decide_true, Nat.zero_add, Nat.reduceAdd, Nat.reduceSub, Nat.reduceBEq, beq_self_eq_true, List.nodup_nil, List.length_map, List.map_cons, List.map_nil, eq_self, ite_true, ite_false, ] at w1
  simp only [q_seq, q_nx, q_rt, q_bk, q_exc, q_nil, q_ret, q_kret, q_retN, q_if, q_ift, q_iff, q_expr, q_kexpr, q_sexc, q_set, q_ksetv, q_ksett, q_c, q_v, q_vv, q_vo, q_vi, q_fz, q_kfzv, q_kfzt, q_op, q_op1, q_op2, q_opE, q_lv, q_lt, q_ls, q_slo, q_sli, q_slv, q_fzl, q_oWs, q_un, q_kun, q_unE, q_and, q_or, q_not, q_thenB, q_andt, q_andf, q_ort, q_orf, q_knot, q_fB, q_kB, q_tru, q_ktru, q_truB, q_bnot, q_kbnot, q_band, q_bor, q_bandt, q_bandf, q_bort, q_borf, q_vif, q_vift, q_viff, q_anil, q_acons, q_kcons1, q_kcons2, q_tup, q_lst, q_ktup, q_klst, q_gnil, q_gval, q_kval1, q_kval2, q_gio, q_kio, q_call, q_finv, q_fint, q_finn, q_fine, q_fins, q_kcall, q_held, q_slHo, q_slHi, q_setL, q_slSo, q_slSi, q_setIx, q_kSetIx, q_setIx1, q_kSetIx2, q_setIx2, q_setIx3, q_app, q_app1, q_kApp, q_app2, q_ns, q_knsv, q_knst, q_par, q_kpar1, q_kpvv, q_kpvt, q_kptv, q_kptt, q_put2, q_sl, q_ksl1, q_ksl2, q_ksl3, q_sl4, q_ono, q_osome, q_kO, q_for, q_iseq, q_kseqT, q_kseqL, q_kseqS, q_isIo, q_ioV, q_ioE, q_ioO, q_nmG, q_frzS, q_frzV, q_frzT, q_fzSV, q_fzSO, q_kfzs, q_fzP, q_knss, q_nsP, q_came, q_cameO, q_cameX, q_cameF, q_cameW, q_mask, q_maskV, q_maskO, q_lenT, q_lenL, q_lenS, q_gLt, q_gLe, q_gGt, q_gGe, q_gInt, q_gAdd, q_gSub, q_gNeg, q_rR1, q_rR2, q_rs1, q_rs2, startE, finS, outs, outS, agSls, agSl, ios, callC, resC, isHeld, gIsi, D.seq?, tru, q_bok, q_sok, q_bexc, q_sxc, q_bstk, q_sstk, List.length_cons, List.length_nil, List.getElem?_cons_zero, List.getElem?_cons_succ, List.append_nil, List.replicate, Option.map_some, Option.map_none, List.mapIdx_cons, List.mapIdx_nil, Nat.sub_self, List.cons_append, List.nil_append, Bool.not_false, Bool.not_true, List.set_cons_zero, List.set_cons_succ, Bool.false_eq_true, if_true, if_false, reduceIte, decide_true, Nat.zero_add, Nat.reduceAdd, Nat.reduceSub, Nat.reduceBEq, beq_self_eq_true, List.nodup_nil, List.length_map, List.map_cons, List.map_nil, eq_self, ite_true, ite_false, ] at w2
  have w3 : FF_look_at_way [.val (.tup ds), .val r, .val w] = .exc "InvalidRecipe" := by
    simp only [q_seq, q_nx, q_rt, q_bk, q_exc, q_nil, q_ret, q_kret, q_retN, q_if, q_ift, q_iff, q_expr, q_kexpr, q_sexc, q_set, q_ksetv, q_ksett, q_c, q_v, q_vv, q_vo, q_vi, q_fz, q_kfzv, q_kfzt, q_op, q_op1, q_op2, q_opE, q_lv, q_lt, q_ls, q_slo, q_sli, q_slv, q_fzl, q_oWs, q_un, q_kun, q_unE, q_and, q_or, q_not, q_thenB, q_andt, q_andf, q_ort, q_orf, q_knot, q_fB, q_kB, q_tru, q_ktru, q_truB, q_bnot, q_kbnot, q_band, q_bor, q_bandt, q_bandf, q_bort, q_borf, q_vif, q_vift, q_viff, q_anil, q_acons, q_kcons1, q_kcons2, q_tup, q_lst, q_ktup, q_klst, q_gnil, q_gval, q_kval1, q_kval2, q_gio, q_kio, q_call, q_finv, q_fint, q_finn, q_fine, q_fins, q_kcall, q_held, q_slHo, q_slHi, q_setL, q_slSo, q_slSi, q_setIx, q_kSetIx, q_setIx1, q_kSetIx2, q_setIx2, q_setIx3, q_app, q_app1, q_kApp, q_app2, q_ns, q_knsv, q_knst, q_par, q_kpar1, q_kpvv, q_kpvt, q_kptv, q_kptt, q_put2, q_sl, q_ksl1, q_ksl2, q_ksl3, q_sl4, q_ono, q_osome, q_kO, q_for, q_iseq, q_kseqT, q_kseqL, q_kseqS, q_isIo, q_ioV, q_ioE, q_ioO, q_nmG, q_frzS, q_frzV, q_frzT, q_fzSV, q_fzSO, q_kfzs, q_fzP, q_knss, q_nsP, q_came, q_cameO, q_cameX, q_cameF, q_cameW, q_mask, q_maskV, q_maskO, q_lenT, q_lenL, q_lenS, q_gLt, q_gLe, q_gGt, q_gGe, q_gInt, q_gAdd, q_gSub, q_gNeg, q_rR1, q_rR2, q_rs1, q_rs2, startE, finS, outs, outS, agSls, agSl, ios, callC, resC, isHeld, gIsi, D.seq?, tru, q_bok, q_sok, q_bexc, q_sxc, q_bstk, q_sstk, List.length_cons, List.length_nil, List.getElem?_cons_zero, List.getElem?_cons_succ, List.append_nil, List.replicate, Option.map_some, Option.map_none, List.mapIdx_cons, List.mapIdx_nil, Nat.sub_self, List.cons_append, List.nil_append, Bool.not_false, Bool.not_true, List.set_cons_zero, List.set_cons_succ, Bool.false_eq_true, if_true, if_false, reduceIte, decide_true, Nat.zero_add, Nat.reduceAdd, Nat.reduceSub, Nat.reduceBEq, beq_self_eq_true, List.nodup_nil, List.length_map, List.map_cons, List.map_nil, eq_self, ite_true, ite_false, FF_look_at_way, ev_look_at_way, w2]
  have w4 : FF_look_at_less [.val (.tup ds), .val r, .val w] = .exc "InvalidRecipe" := by
    simp only [q_seq, q_nx, q_rt, q_bk, q_exc, q_nil, q_ret, q_kret, q_retN, q_if, q_ift, q_iff, q_expr, q_kexpr, q_sexc, q_set, q_ksetv, q_ksett, q_c, q_v, q_vv, q_vo, q_vi, q_fz, q_kfzv, q_kfzt, q_op, q_op1, q_op2, q_opE, q_lv, q_lt, q_ls, q_slo, q_sli, q_slv, q_fzl, q_oWs, q_un, q_kun, q_unE, q_and, q_or, q_not, q_thenB, q_andt, q_andf, q_ort, q_orf, q_knot, q_fB, q_kB, q_tru, q_ktru, q_truB, q_bnot, q_kbnot, q_band, q_bor, q_bandt, q_bandf, q_bort, q_borf, q_vif, q_vift, q_viff, q_anil, q_acons, q_kcons1, q_kcons2, q_tup, q_lst, q_ktup, q_klst, q_gnil, q_gval, q_kval1, q_kval2, q_gio, q_kio, q_call, q_finv, q_fint, q_finn, q_fine, q_fins, q_kcall, q_held, q_slHo, q_slHi, q_setL, q_slSo, q_slSi, q_setIx, q_kSetIx, q_setIx1, q_kSetIx2, q_setIx2, q_setIx3, q_app, q_app1, q_kApp, q_app2, q_ns, q_knsv, q_knst, q_par, q_kpar1, q_kpvv, q_kpvt, q_kptv, q_kptt, q_put2, q_sl, q_ksl1, q_ksl2, q_ksl3, q_sl4, q_ono, q_osome, q_kO, q_for, q_iseq, q_kseqT, q_kseqL, q_kseqS, q_isIo, q_ioV, q_ioE, q_ioO, q_nmG, q_frzS, q_frzV, q_frzT, q_fzSV, q_fzSO, q_kfzs, q_fzP, q_knss, q_nsP, q_came, q_cameO, q_cameX, q_cameF, q_cameW, q_mask, q_maskV, q_maskO, q_lenT, q_lenL, q_lenS, q_gLt, q_gLe, q_gGt, q_gGe, q_gInt, q_gAdd, q_gSub, q_gNeg, q_rR1, q_rR2, q_rs1, q_rs2, startE, finS, outs, outS, agSls, agSl, ios, callC, resC, isHeld, gIsi, D.seq?, tru, q_bok, q_sok, q_bexc, q_sxc, q_bstk, q_sstk, List.length_cons, List.length_nil, List.getElem?_cons_zero, List.getElem?_cons_succ, List.append_nil, List.replicate, Option.map_some, Option.map_none, List.mapIdx_cons, List.mapIdx_nil, Nat.sub_self, List.cons_append, List.nil_append, Bool.not_false, Bool.not_true, List.set_cons_zero, List.set_cons_succ, Bool.false_eq_true, if_true, if_false, reduceIte, decide_true, Nat.zero_add, Nat.reduceAdd, Nat.reduceSub, Nat.reduceBEq, beq_self_eq_true, List.nodup_nil, List.length_map, List.map_cons, List.map_nil, eq_self, ite_true, ite_false, FF_look_at_less, ev_look_at_less, w3]
  simp only [q_seq, q_nx, q_rt, q_bk, q_exc, q_nil, q_ret, q_kret, q_retN, q_if, q_ift, q_iff, q_expr, q_kexpr, q_sexc, q_set, q_ksetv, q_ksett, q_c, q_v, q_vv, q_vo, q_vi, q_fz, q_kfzv, q_kfzt, q_op, q_op1, q_op2, q_opE, q_lv, q_lt, q_ls, q_slo, q_sli, q_slv, q_fzl, q_oWs, q_un, q_kun, q_unE, q_and, q_or, q_not, q_thenB, q_andt, q_andf, q_ort, q_orf, q_knot, q_fB, q_kB, q_tru, q_ktru, q_truB, q_bnot, q_kbnot, q_band, q_bor, q_bandt, q_bandf, q_bort, q_borf, q_vif, q_vift, q_viff, q_anil, q_acons, q_kcons1, q_kcons2, q_tup, q_lst, q_ktup, q_klst, q_gnil, q_gval, q_kval1, q_kval2, q_gio, q_kio, q_call, q_finv, q_fint, q_finn, q_fine, q_fins, q_kcall, q_held, q_slHo, q_slHi, q_setL, q_slSo, q_slSi, q_setIx, q_kSetIx, q_setIx1, q_kSetIx2, q_setIx2, q_setIx3, q_app, q_app1, q_kApp, q_app2, q_ns, q_knsv, q_knst, q_par, q_kpar1, q_kpvv, q_kpvt, q_kptv, q_kptt, q_put2, q_sl, q_ksl1, q_ksl2, q_ksl3, q_sl4, q_ono, q_osome, q_kO, q_for, q_iseq, q_kseqT, q_kseqL, q_kseqS, q_isIo, q_ioV, q_ioE, q_ioO, q_nmG, q_frzS, q_frzV, q_frzT, q_fzSV, q_fzSO, q_kfzs, q_fzP, q_knss, q_nsP, q_came, q_cameO, q_cameX, q_cameF, q_cameW, q_mask, q_maskV, q_maskO, q_lenT, q_lenL, q_lenS, q_gLt, q_gLe, q_gGt, q_gGe, q_gInt, q_gAdd, q_gSub, q_gNeg, q_rR1, q_rR2, q_rs1, q_rs2, startE, finS, outs, outS, agSls, agSl, ios, callC, resC, isHeld, gIsi, D.seq?, tru, q_bok, q_sok, q_bexc, q_sxc, q_bstk, q_sstk, List.length_cons, List.length_nil, List.getElem?_cons_zero, List.getElem?_cons_succ, List.append_nil, List.replicate, Option.map_some, Option.map_none, List.mapIdx_cons, List.mapIdx_nil, Nat.sub_self, List.cons_append, List.nil_append, Bool.not_false, Bool.not_true, List.set_cons_zero, List.set_cons_succ, Bool.false_eq_true, if_true, if_false, reduceIte, decide_true, Nat.zero_add, Nat.reduceAdd, Nat.reduceSub, Nat.reduceBEq, beq_self_eq_true, List.nodup_nil, List.length_map, List.map_cons, List.map_nil, eq_self, ite_true, ite_false, FF_without, ev_without, w1, w4]
/-- a book that the law draws is a book -/
theorem way_ok {many : Int} {mins : List Int} {k : WK} (hm : mins ∈ MINS) (h : WayOk mins many k) : way (wayD k) many = true := by
  obtain ⟨h1, h2, h3, h4⟩ := h
  have a : iw (.int k.1) 0 9 = true := by
    have : 0 ≤ k.1 ∧ k.1 ≤ 9 := by
      simp only [MINS, List.mem_cons, List.not_mem_nil, or_false] at hm
      rcases hm with h | h | h | h <;> subst h <;> simp only [List.mem_cons, List.not_mem_nil, or_false] at h1 <;> omega
    show (decide ((0:Int) ≤ k.1) && decide (k.1 ≤ 9)) = true
    rw [decide_eq_true this.1, decide_eq_true this.2]; rfl
  show (iw (.int k.1) 0 9 && (decide ((k.2.map D.int).length ≤ 2) && (iwAll (k.2.map D.int) (many - 1) && sortedD (k.2.map D.int)))) = true
  rw [a, decide_eq_true (by rw [List.length_map]; exact h2)]
  have b : iwAll (k.2.map D.int) (many - 1) = true := by
    unfold iwAll
    rw [List.all_eq_true]
    intro d hd
    obtain ⟨c, hc, rfl⟩ := List.mem_map.mp hd
    have := h3 c hc
    show (decide ((0:Int) ≤ c) && decide (c ≤ many - 1)) = true
    rw [decide_eq_true this.1, decide_eq_true (by omega)]; rfl
  rw [b]
  show (true && (true && (true && sortedD _))) = true
  unfold sortedD
  rw [DL.intsO_map]
  simp only [Bool.true_and]
  exact decide_eq_true h4
theorem waysK_ok {many : Int} {mins : List Int} (hm : mins ∈ MINS) (h3 : many ≤ 3) : ∀ {r : List WK}, (∀ k ∈ r, WayOk mins many k) → waysK (r.map wayD) = some r
  | [], _ => rfl
  | k :: r, h => by
    have w := way_ok hm (h k List.mem_cons_self)
    obtain ⟨l, e1, e2⟩ := way_D w h3
    have := wayD_inj e1
    subst this
    show (match wayK (wayD k), waysK (r.map wayD) with | some k, some ks => some (k :: ks) | _, _ => none) = _
    rw [e2, waysK_ok hm h3 fun l hl => h l (List.mem_cons_of_mem _ hl)]
theorem rec_ok {many : Int} {mins : List Int} {r : List WK} (hm : mins ∈ MINS) (h3 : many ≤ 3) (h : RecOk mins many r) : recipe (recD r) many = true := by
  obtain ⟨a1, a2, a3, a4⟩ := h
  refine (recipe_iff h3).mpr ⟨?_, fun d hd => ?_, r, rfl, waysK_ok hm h3 a4, a3⟩
  · show (decide ((1:Int) ≤ ((r.map wayD).length : Nat)) && decide ((((r.map wayD).length : Nat) : Int) ≤ 3)) = true
    rw [List.length_map, decide_eq_true (by omega), decide_eq_true (by omega)]; rfl
  · obtain ⟨k, hk, rfl⟩ := List.mem_map.mp hd
    exact way_ok hm (a4 k hk)
theorem book_ok {mins : List Int} {B : List (List WK)} (h : BookOk mins B) : fit (bookD B) = true := by
  obtain ⟨h1, h2, h3, h4⟩ := h
  show (wide (.tup (B.map recD)) 1 3 && (B.map recD).all fun d => recipe d (B.map recD).length) = true
  rw [Bool.and_eq_true]
  constructor
  · show (decide ((1:Int) ≤ ((B.map recD).length : Nat)) && decide ((((B.map recD).length : Nat) : Int) ≤ 3)) = true
    rw [List.length_map, decide_eq_true (by omega), decide_eq_true (by omega)]; rfl
  · rw [List.all_eq_true]
    intro d hd
    obtain ⟨r, hr, rfl⟩ := List.mem_map.mp hd
    rw [List.length_map]
    exact rec_ok h1 (by omega) (h4 r hr)
theorem filt_except {k : WK} : ∀ {r : List WK} {j : Nat}, r.Nodup → r[j]? = some k → r.filter (fun l => !decide (l = k)) = r.take j ++ r.drop (j + 1)
  | [], j, _, h => by simp at h
  | l :: r, 0, hn, h => by
    have : l = k := by simpa using h
    subst this
    rw [List.filter_cons, decide_eq_true rfl]
    show r.filter _ = r
    refine List.filter_eq_self.mpr fun x hx => ?_
    have := (List.nodup_cons.mp hn).1
    have nx : ¬ x = l := fun z => this (by rw [← z]; exact hx)
    rw [decide_eq_false nx]; rfl
  | l :: r, j + 1, hn, h => by
    have h : r[j]? = some k := by simpa using h
    have nl := List.nodup_cons.mp hn
    have : l ≠ k := fun z => nl.1 (by rw [z]; exact List.mem_of_getElem? h)
    rw [List.filter_cons, decide_eq_false this]
    show l :: r.filter _ = l :: (r.take j ++ r.drop (j + 1))
    rw [filt_except nl.2 h]
end K01
namespace K01
open PySem PySem.Spec
open PyProof.Rows hiding St
open L2 DL
def lw_f1 : Sv :=
  (sSeq (sSet 8 (fUn gTuple (fLc (iSeq (fFz (fOp gIx (fV 3) (fV 5)))) [14] (nmG 14) (fB (fOp gNe (fV 14) (fOp gIx (fOp gIx (fV 3) (fV 5)) (fV 7)))) (fFz (fV 14))))) (sSeq (sSet 9 (fOp gAdd (fOp gAdd (fSl (fV 3) oNo (oSome (fV 5))) (fTup (aCons (fFz (fV 8)) aNil))) (fSl (fV 3) (oSome (fOp gAdd (fV 5) (fC (.int 1)))) oNo))) (sSeq (sSet 10 (vIf (fB (fOp gGt (fV 6) (fC (.int 1)))) (fLst (aCons (fFz (fV 9)) aNil)) (fC (.str "way")))) (sSeq (sSet 11 (fCame DL.wd (fCall 3 FF_without (gVal (fFz (fV 3)) (gVal (fFz (fV 5)) (gVal (fFz (fV 7)) DL.gNil)))))) (sSeq (sIf (bNot (fTru (fCall 2 (FF__law_twins 8) (gVal (fFz (fV 11)) (gVal (fFz (fV 10)) DL.gNil))))) (sSeq (sRet (fC (.bl false))) sNil) sNil) sNil)))))
def lw_f2 : Sv :=
  (sSeq (sIf (fB (fOp gNe (fCame DL.wd (fCall 3 FF_without (gVal (fFz (fV 3)) (gVal (fFz (fV 5)) (gVal (fFz (fV 12)) DL.gNil))))) (fC (.str "way")))) (sSeq (sRet (fC (.bl false))) sNil) sNil) sNil)
def lw_f3 : Sv :=
  (sSeq (sSet 6 (fUn gLen (fOp gIx (fV 3) (fV 5)))) (sSeq (sFor (iR1 (aCons (fFz (fV 6)) aNil)) (nmG 7) lw_f1) (sSeq (sFor (iSeq (fFz (fLst (aCons (fFz (fC .non)) (aCons (fFz (fUn gNeg (fC (.int 1)))) (aCons (fFz (fV 6)) (aCons (fFz (fC (.bl true))) (aCons (fFz (fC (.str "0"))) aNil)))))))) (nmG 12) lw_f2) sNil)))
def lw_f4 : Sv :=
  (sSeq (sIf (fB (fOp gNe (fCame DL.wd (fCall 3 FF_without (gVal (fFz (fV 3)) (gVal (fFz (fV 12)) (gVal (fFz (fC .non)) DL.gNil))))) (fC (.str "recipe")))) (sSeq (sRet (fC (.bl false))) sNil) sNil) sNil)
def lw_f5 : Sv :=
  (sSeq (sSet 2 (fCall 2 FF__law_spring (gVal (fFz (fV 0)) (gVal (fFz (fV 1)) DL.gNil)))) (sSeq (sSet 3 (fCall 2 FF__law_book (gIo 2 (gVal (fFz (fC (.int 3))) DL.gNil)))) (sSeq (sSet 4 (fLst (aCons (fFz (fV 3)) (aCons (fFz (fUn gList (fV 3))) (aCons (fFz (fSl (fV 3) oNo (oSome (fC (.int 1))))) (aCons (fFz (fOp gAdd (fV 3) (fTup (aCons (fFz (fTup aNil)) aNil)))) (aCons (fFz (fOp gMul (fV 3) (fC (.int 2)))) aNil))))))) (sSeq (sExpr (fApp 4 (fFz (fOp gAdd (fTup (aCons (fFz (fOp gAdd (fOp gIx (fV 3) (fC (.int 0))) (fSl (fOp gIx (fV 3) (fC (.int 0))) oNo (oSome (fC (.int 1)))))) aNil)) (fSl (fV 3) (oSome (fC (.int 1))) oNo))))) (sSeq (sSet 4 (fOp gAdd (fV 4) (fLc (iR1 (aCons (fFz (fC (.int 40))) aNil)) [13] (nmG 13) bYes (fFz (fCall 2 (FF__law_bent 8) (gIo 2 (gVal (fFz (fV 3)) DL.gNil))))))) (sSeq (sIf (fB (fOp gNe (fLc (iSeq (fFz (fV 4))) [14] (nmG 14) (bNot (fTru (fCall 2 (FF__law_twins 8) (gVal (fFz (fCall 1 FF_is_book (gVal (fFz (fV 14)) DL.gNil))) (gVal (fFz (fCall 1 FF__law_good (gVal (fFz (fV 14)) DL.gNil))) DL.gNil))))) (fFz (fC (.int 1)))) (fLst aNil))) (sSeq (sRet (fC (.bl false))) sNil) sNil) (sSeq (sFor (iR1 (aCons (fFz (fUn gLen (fV 3))) aNil)) (nmG 5) lw_f3) (sSeq (sFor (iSeq (fFz (fLst (aCons (fFz (fC .non)) (aCons (fFz (fUn gNeg (fC (.int 1)))) (aCons (fFz (fUn gLen (fV 3))) (aCons (fFz (fC (.bl true))) (aCons (fFz (fC (.str "0"))) aNil)))))))) (nmG 12) lw_f4) sNil))))))))
theorem lw_eq : ev_law DL.wd =
  (sSeq (sFor (iR1 (aCons (fFz (fOp gAdd (fOp gMin (fUn gLen (fV 0)) (fC (.int 8))) (fC (.int 1)))) aNil)) (nmG 1) lw_f5) (sSeq (sRet (fC (.bl true))) sNil)) := rfl
abbrev lwE (s0 s1 s2 s3 s4 s5 s6 s7 s8 s9 s10 s11 s12 : Sl) : En := [s0, s1, s2, s3, s4, s5, s6, s7, s8, s9, s10, s11, s12, .emp, .emp]
theorem gEq_wayNe (k : WK) : ∀ r : List WK, ∀ d ∈ r.map wayD, ∃ l ∈ r, d = wayD l ∧ gNe d (wayD k) = some (.val (.bl (!decide (l = k)))) := fun r d hd => by
  obtain ⟨l, hl, rfl⟩ := List.mem_map.mp hd
  exact ⟨l, hl, rfl, gNe_way l k⟩
theorem nice_nl : ∀ {n : Nat} {d : D}, nl 100 n d = true → nice n d = true
  | 0, _, h => by cases h
  | n + 1, d, h => by
    cases d with
    | tup ds =>
      have h : (decide (ds.length ≤ 100) && ds.all (nl 100 n)) = true := h
      rw [Bool.and_eq_true, decide_eq_true_eq, List.all_eq_true] at h
      show (decide (ds.length ≤ 16777216) && ds.all (nice n)) = true
      rw [Bool.and_eq_true, decide_eq_true_eq, List.all_eq_true]
      exact ⟨by omega, fun x hx => nice_nl (h.2 x hx)⟩
    | lst ds =>
      have h : (decide (ds.length ≤ 100) && ds.all (nl 100 n)) = true := h
      rw [Bool.and_eq_true, decide_eq_true_eq, List.all_eq_true] at h
      show (decide (ds.length ≤ 16777216) && ds.all (nice n)) = true
      rw [Bool.and_eq_true, decide_eq_true_eq, List.all_eq_true]
      exact ⟨by omega, fun x hx => nice_nl (h.2 x hx)⟩
    | _ => exact h
theorem way_turn {mins : List Int} {B : List (List WK)} {r : List WK} {k : WK} {i j : Nat} {s0 s1 s2 s4 s7 s8 s9 s10 s11 s12 : Sl} (hB : BookOk mins B) (hi : B[i]? = some r) (hj : r[j]? = some k) (f8 : s8.fr) (f9 : s9.fr) (f10 : s10.fr) (f11 : s11.fr) :
    ∃ s8' s9' s10' s11' : Sl, s8'.fr ∧ s9'.fr ∧ s10'.fr ∧ s11'.fr ∧ lw_f1 (lwE s0 s1 s2 (.val (bookD B)) s4 (.val (.int i)) (.val (.int r.length)) (.val (.int j)) s8 s9 s10 s11 s12) = .nx (lwE s0 s1 s2 (.val (bookD B)) s4 (.val (.int i)) (.val (.int r.length)) (.val (.int j)) s8' s9' s10' s11' s12) := by
  have f8 : ioO (some s8) = false := f8
  have f9 : ioO (some s9) = false := f9
  have f10 : ioO (some s10) = false := f10
  have f11 : ioO (some s11) = false := f11
  have hr : r ∈ B := List.mem_of_getElem? hi
  have R := hB.2.2.2 r hr
  have il : i < B.length := (List.getElem?_eq_some_iff.mp hi).1
  have jl : j < r.length := (List.getElem?_eq_some_iff.mp hj).1
  have hds : (B.map recD)[i]? = some (.tup (r.map wayD)) := by rw [List.getElem?_map, hi]; rfl
  have hws : (r.map wayD)[j]? = some (wayD k) := by rw [List.getElem?_map, hj]; rfl
  have g1 : gIx (bookD B) (.int (i : Nat)) = some (.val (recD r)) := gIx_tup hds
  have g2 : gIx (recD r) (.int (j : Nat)) = some (.val (wayD k)) := gIx_tup hws
  have fit := book_ok hB
  have py := nl_py (nl_book hB)
  have hl3 := hB.2.2.1
  have rl3 := R.2.1
  -- the rest
  have hlc := fLc_pure (i := 14) (fi := iSeq (fFz (fOp gIx (fV 3) (fV 5)))) (t := fB (fOp gNe (fV 14) (fOp gIx (fOp gIx (fV 3) (fV 5)) (fV 7)))) (fe := fFz (fV 14)) (f := fun d => d) (p := fun d => match d with | .tup [.int m, .tup cs] => (match DL.intsO cs with | some ns => !decide ((m, ns) = k) | none => false) | _ => false) (ρ := lwE s0 s1 s2 (.val (bookD B)) s4 (.val (.int i)) (.val (.int r.length)) (.val (.int j)) s8 s9 s10 s11 s12) (ρ1 := lwE s0 s1 s2 (.val (bookD B)) s4 (.val (.int i)) (.val (.int r.length)) (.val (.int j)) s8 s9 s10 s11 s12) (ds := r.map wayD)
    (by simp only [q_seq, q_nx, q_rt, q_bk, q_exc, q_nil, q_ret, q_kret, q_retN, q_if, q_ift, q_iff, q_expr, q_kexpr, q_sexc, q_set, q_ksetv, q_ksett, q_c, q_v, q_vv, q_vo, q_vi, q_fz, q_kfzv, q_kfzt, q_op, q_op1, q_op2, q_opE, q_lv, q_lt, q_ls, q_slo, q_sli, q_slv, q_fzl, q_oWs, q_un, q_kun, q_unE, q_and, q_or, q_not, q_thenB, q_andt, q_andf, q_ort, q_orf, q_knot, q_fB, q_kB, q_tru, q_ktru, q_truB, q_bnot, q_kbnot, q_band, q_bor, q_bandt, q_bandf, q_bort, q_borf, q_vif, q_vift, q_viff, q_anil, q_acons, q_kcons1, q_kcons2, q_tup, q_lst, q_ktup, q_klst, q_gnil, q_gval, q_kval1, q_kval2, q_gio, q_kio, q_call, q_finv, q_fint, q_finn, q_fine, q_fins, q_kcall, q_held, q_slHo, q_slHi, q_setL, q_slSo, q_slSi, q_setIx, q_kSetIx, q_setIx1, q_kSetIx2, q_setIx2, q_setIx3, q_app, q_app1, q_kApp, q_app2, q_ns, q_knsv, q_knst, q_par, q_kpar1, q_kpvv, q_kpvt, q_kptv, q_kptt, q_put2, q_sl, q_ksl1, q_ksl2, q_ksl3, q_sl4, q_ono, q_osome, q_kO, q_for, q_iseq, q_kseqT, q_kseqL, q_kseqS, q_isIo, q_ioV, q_ioE, q_ioO, q_nmG, q_frzS, q_frzV, q_frzT, q_fzSV, q_fzSO, q_kfzs, q_fzP, q_knss, q_nsP, q_came, q_cameO, q_cameX, q_cameF, q_cameW, q_mask, q_maskV, q_maskO, q_lenT, q_lenL, q_lenS, q_gLt, q_gLe, q_gGt, q_gGe, q_gInt, q_gAdd, q_gSub, q_gNeg, q_rR1, q_rR2, q_rs1, q_rs2, startE, finS, outs, outS, agSls, agSl, ios, callC, resC, isHeld, gIsi, D.seq?, tru, q_bok, q_sok, q_bexc, q_sxc, q_bstk, q_sstk, List.length_cons, List.length_nil, List.getElem?_cons_zero, List.getElem?_cons_succ, List.append_nil, List.replicate, Option.map_some, Option.map_none, List.mapIdx_cons, List.mapIdx_nil, Nat.sub_self, List.cons_append, List.nil_append, Bool.not_false, Bool.not_true, List.set_cons_zero, List.set_cons_succ, Bool.false_eq_true, if_true, if_false, reduceIte, decide_true, Nat.zero_add, Nat.reduceAdd, Nat.reduceSub, Nat.reduceBEq, beq_self_eq_true, List.nodup_nil, List.length_map, List.map_cons, List.map_nil, eq_self, ite_true, ite_false, g1]; rfl) (by show 14 < 15; decide) (fun d hd => by
      obtain ⟨⟨m, ns⟩, hl, rfl, e⟩ := gEq_wayNe k r d hd
      simp only [q_seq, q_nx, q_rt, q_bk, q_exc, q_nil, q_ret, q_kret, q_retN, q_if, q_ift, q_iff, q_expr, q_kexpr, q_sexc, q_set, q_ksetv, q_ksett, q_c, q_v, q_vv, q_vo, q_vi, q_fz, q_kfzv, q_kfzt, q_op, q_op1, q_op2, q_opE, q_lv, q_lt, q_ls, q_slo, q_sli, q_slv, q_fzl, q_oWs, q_un, q_kun, q_unE, q_and, q_or, q_not, q_thenB, q_andt, q_andf, q_ort, q_orf, q_knot, q_fB, q_kB, q_tru, q_ktru, q_truB, q_bnot, q_kbnot, q_band, q_bor, q_bandt, q_bandf, q_bort, q_borf, q_vif, q_vift, q_viff, q_anil, q_acons, q_kcons1, q_kcons2, q_tup, q_lst, q_ktup, q_klst, q_gnil, q_gval, q_kval1, q_kval2, q_gio, q_kio, q_call, q_finv, q_fint, q_finn, q_fine, q_fins, q_kcall, q_held, q_slHo, q_slHi, q_setL, q_slSo, q_slSi, q_setIx, q_kSetIx, q_setIx1, q_kSetIx2, q_setIx2, q_setIx3, q_app, q_app1, q_kApp, q_app2, q_ns, q_knsv, q_knst, q_par, q_kpar1, q_kpvv, q_kpvt, q_kptv, q_kptt, q_put2, q_sl, q_ksl1, q_ksl2, q_ksl3, q_sl4, q_ono, q_osome, q_kO, q_for, q_iseq, q_kseqT, q_kseqL, q_kseqS, q_isIo, q_ioV, q_ioE, q_ioO, q_nmG, q_frzS, q_frzV, q_frzT, q_fzSV, q_fzSO, q_kfzs, q_fzP, q_knss, q_nsP, q_came, q_cameO, q_cameX, q_cameF, q_cameW, q_mask, q_maskV, q_maskO, q_lenT, q_lenL, q_lenS, q_gLt, q_gLe, q_gGt, q_gGe, q_gInt, q_gAdd, q_gSub, q_gNeg, q_rR1, q_rR2, q_rs1, q_rs2, startE, finS, outs, outS, agSls, agSl, ios, callC, resC, isHeld, gIsi, D.seq?, tru, q_bok, q_sok, q_bexc, q_sxc, q_bstk, q_sstk, List.length_cons, List.length_nil, List.getElem?_cons_zero, List.getElem?_cons_succ, List.append_nil, List.replicate, Option.map_some, Option.map_none, List.mapIdx_cons, List.mapIdx_nil, Nat.sub_self, List.cons_append, List.nil_append, Bool.not_false, Bool.not_true, List.set_cons_zero, List.set_cons_succ, Bool.false_eq_true, if_true, if_false, reduceIte, decide_true, Nat.zero_add, Nat.reduceAdd, Nat.reduceSub, Nat.reduceBEq, beq_self_eq_true, List.nodup_nil, List.length_map, List.map_cons, List.map_nil, eq_self, ite_true, ite_false, g1, g2, e]
      show Out.ok _ (!decide ((m, ns) = k)) = Out.ok _ (match DL.intsO (ns.map D.int) with | some ns => !decide ((m, ns) = k) | none => false)
      rw [DL.intsO_map]) (fun d hd _ => by simp only [q_seq, q_nx, q_rt, q_bk, q_exc, q_nil, q_ret, q_kret, q_retN, q_if, q_ift, q_iff, q_expr, q_kexpr, q_sexc, q_set, q_ksetv, q_ksett, q_c, q_v, q_vv, q_vo, q_vi, q_fz, q_kfzv, q_kfzt, q_op, q_op1, q_op2, q_opE, q_lv, q_lt, q_ls, q_slo, q_sli, q_slv, q_fzl, q_oWs, q_un, q_kun, q_unE, q_and, q_or, q_not, q_thenB, q_andt, q_andf, q_ort, q_orf, q_knot, q_fB, q_kB, q_tru, q_ktru, q_truB, q_bnot, q_kbnot, q_band, q_bor, q_bandt, q_bandf, q_bort, q_borf, q_vif, q_vift, q_viff, q_anil, q_acons, q_kcons1, q_kcons2, q_tup, q_lst, q_ktup, q_klst, q_gnil, q_gval, q_kval1, q_kval2, q_gio, q_kio, q_call, q_finv, q_fint, q_finn, q_fine, q_fins, q_kcall, q_held, q_slHo, q_slHi, q_setL, q_slSo, q_slSi, q_setIx, q_kSetIx, q_setIx1, q_kSetIx2, q_setIx2, q_setIx3, q_app, q_app1, q_kApp, q_app2, q_ns, q_knsv, q_knst, q_par, q_kpar1, q_kpvv, q_kpvt, q_kptv, q_kptt, q_put2, q_sl, q_ksl1, q_ksl2, q_ksl3, q_sl4, q_ono, q_osome, q_kO, q_for, q_iseq, q_kseqT, q_kseqL, q_kseqS, q_isIo, q_ioV, q_ioE, q_ioO, q_nmG, q_frzS, q_frzV, q_frzT, q_fzSV, q_fzSO, q_kfzs, q_fzP, q_knss, q_nsP, q_came, q_cameO, q_cameX, q_cameF, q_cameW, q_mask, q_maskV, q_maskO, q_lenT, q_lenL, q_lenS, q_gLt, q_gLe, q_gGt, q_gGe, q_gInt, q_gAdd, q_gSub, q_gNeg, q_rR1, q_rR2, q_rs1, q_rs2, startE, finS, outs, outS, agSls, agSl, ios, callC, resC, isHeld, gIsi, D.seq?, tru, q_bok, q_sok, q_bexc, q_sxc, q_bstk, q_sstk, List.length_cons, List.length_nil, List.getElem?_cons_zero, List.getElem?_cons_succ, List.append_nil, List.replicate, Option.map_some, Option.map_none, List.mapIdx_cons, List.mapIdx_nil, Nat.sub_self, List.cons_append, List.nil_append, Bool.not_false, Bool.not_true, List.set_cons_zero, List.set_cons_succ, Bool.false_eq_true, if_true, if_false, reduceIte, decide_true, Nat.zero_add, Nat.reduceAdd, Nat.reduceSub, Nat.reduceBEq, beq_self_eq_true, List.nodup_nil, List.length_map, List.map_cons, List.map_nil, eq_self, ite_true, ite_false, ]) (by rw [List.length_map]; omega)
  have hfl : List.map (fun d => d) (List.filter (fun d => match d with | .tup [.int m, .tup cs] => (match DL.intsO cs with | some ns => !decide ((m, ns) = k) | none => false) | _ => false) (r.map wayD)) = (r.map wayD).take j ++ (r.map wayD).drop (j + 1) := by
    rw [List.map_id', List.filter_map, ← List.map_take, ← List.map_drop, ← List.map_append, ← filt_except R.2.2.1 hj]
    congr 1
    refine List.filter_congr fun l _ => ?_
    obtain ⟨m, ns⟩ := l
    show (match DL.intsO (ns.map D.int) with | some ns => !decide ((m, ns) = k) | none => false) = _
    rw [DL.intsO_map]
  rw [hfl] at hlc
  have gt : gTuple (.lst ((r.map wayD).take j ++ (r.map wayD).drop (j + 1))) = some (.val (.tup ((r.map wayD).take j ++ (r.map wayD).drop (j + 1)))) := rfl
  have q1 : gSl (bookD B) none (some (i : Int)) = some (.val (.tup ((B.map recD).take i))) := gSl_lo (by rw [List.length_map]; omega)
  have q2 : gSl (bookD B) (some ((i : Int) + 1)) none = some (.val (.tup ((B.map recD).drop (i + 1)))) := gSl_hi (i := i + 1) (by rw [List.length_map]; omega)
  have ga := gAdd_tup' (xs := (B.map recD).take i) (ys := [.tup ((r.map wayD).take j ++ (r.map wayD).drop (j + 1))]) (by simp only [List.length_take, List.length_map, List.length_cons, List.length_nil]; omega)
  have ga2 := gAdd_tup' (xs := (B.map recD).take i ++ [.tup ((r.map wayD).take j ++ (r.map wayD).drop (j + 1))]) (ys := (B.map recD).drop (i + 1)) (by simp only [List.length_append, List.length_drop, List.length_take, List.length_map, List.length_cons, List.length_nil]; omega)
  have f1 : fits 1 = true := by decide
  have el : (D.tup (((B.map recD).take i ++ [.tup ((r.map wayD).take j ++ (r.map wayD).drop (j + 1))]) ++ (B.map recD).drop (i + 1))) = lessBy (B.map recD) (r.map wayD) i j := rfl
  rw [el] at ga2
  generalize hless : lessBy (B.map recD) (r.map wayD) i j = less at ga2
  have nless : nice 7 less = true := by
    rw [← hless]
    refine nice_nl (nl_mono (L := 3) (M := 100) (by omega) (n := 5) (m := 7) (by omega) (nl_tup ?_ fun d hd => ?_))
    · simp only [List.length_append, List.length_take, List.length_drop, List.length_map, List.length_cons, List.length_nil]; omega
    · rcases List.mem_append.mp hd with z | z
      · rcases List.mem_append.mp z with z | z
        · exact (nl_tup' (nl_book hB)).2 d (List.mem_of_mem_take z)
        · rw [List.mem_singleton.mp z]
          refine nl_tup (by simp only [List.length_append, List.length_take, List.length_drop, List.length_map]; omega) fun d hd => ?_
          rcases List.mem_append.mp hd with z | z
          · exact (nl_tup' (nl_rec R)).2 d (List.mem_of_mem_take z)
          · exact (nl_tup' (nl_rec R)).2 d (List.mem_of_mem_drop z)
      · exact (nl_tup' (nl_book hB)).2 d (List.mem_of_mem_drop z)
  by_cases h1 : r.length = 1
  · have d1 : decide ((1 : Int) < (r.length : Nat)) = false := decide_eq_false (by omega)
    have wo : FF_without [.val (bookD B), .val (.int i), .val (.int j)] = .exc "InvalidWay" := x_without_way (B.map recD) (r.map wayD) i (.int j) fit py hds (by intro z; cases z) (by
      have : decide (((r.map wayD).length : Int) = 1) = true := decide_eq_true (by rw [List.length_map]; omega)
      rw [this, Bool.not_true, Bool.and_false])
    have tw : FF__law_twins 8 [.val (.str "way"), .val (.str "way")] = .ret [.val (.str "way"), .val (.str "way")] (.val (.bl true)) := m_twins (by show SeqAt.shaped _ = true; decide +kernel)
    refine ⟨.val (.tup ((r.map wayD).take j ++ (r.map wayD).drop (j + 1))), .val less, .val (.str "way"), .val (.str "way"), fr_v, fr_v, fr_v, fr_v, ?_⟩
    unfold lw_f1
    simp only [q_seq, q_nx, q_rt, q_bk, q_exc, q_nil, q_ret, q_kret, q_retN, q_if, q_ift, q_iff, q_expr, q_kexpr, q_sexc, q_set, q_ksetv, q_ksett, q_c, q_v, q_vv, q_vo, q_vi, q_fz, q_kfzv, q_kfzt, q_op, q_op1, q_op2, q_opE, q_lv, q_lt, q_ls, q_slo, q_sli, q_slv, q_fzl, q_oWs, q_un, q_kun, q_unE, q_and, q_or, q_not, q_thenB, q_andt, q_andf, q_ort, q_orf, q_knot, q_fB, q_kB, q_tru, q_ktru, q_truB, q_bnot, q_kbnot, q_band, q_bor, q_bandt, q_bandf, q_bort, q_borf, q_vif, q_vift, q_viff, q_anil, q_acons, q_kcons1, q_kcons2, q_tup, q_lst, q_ktup, q_klst, q_gnil, q_gval, q_kval1, q_kval2, q_gio, q_kio, q_call, q_finv, q_fint, q_finn, q_fine, q_fins, q_kcall, q_held, q_slHo, q_slHi, q_setL, q_slSo, q_slSi, q_setIx, q_kSetIx, q_setIx1, q_kSetIx2, q_setIx2, q_setIx3, q_app, q_app1, q_kApp, q_app2, q_ns, q_knsv, q_knst, q_par, q_kpar1, q_kpvv, q_kpvt, q_kptv, q_kptt, q_put2, q_sl, q_ksl1, q_ksl2, q_ksl3, q_sl4, q_ono, q_osome, q_kO, q_for, q_iseq, q_kseqT, q_kseqL, q_kseqS, q_isIo, q_ioV, q_ioE, q_ioO, q_nmG, q_frzS, q_frzV, q_frzT, q_fzSV, q_fzSO, q_kfzs, q_fzP, q_knss, q_nsP, q_came, q_cameO, q_cameX, q_cameF, q_cameW, q_mask, q_maskV, q_maskO, q_lenT, q_lenL, q_lenS, q_gLt, q_gLe, q_gGt, q_gGe, q_gInt, q_gAdd, q_gSub, q_gNeg, q_rR1, q_rR2, q_rs1, q_rs2, startE, finS, outs, outS, agSls, agSl, ios, callC, resC, isHeld, gIsi, D.seq?, tru, q_bok, q_sok, q_bexc, q_sxc, q_bstk, q_sstk, List.length_cons, List.length_nil, List.getElem?_cons_zero, List.getElem?_cons_succ, List.append_nil, List.replicate, Option.map_some, Option.map_none, List.mapIdx_cons, List.mapIdx_nil, Nat.sub_self, List.cons_append, List.nil_append, Bool.not_false, Bool.not_true, List.set_cons_zero, List.set_cons_succ, Bool.false_eq_true, if_true, if_false, reduceIte, decide_true, Nat.zero_add, Nat.reduceAdd, Nat.reduceSub, Nat.reduceBEq, beq_self_eq_true, List.nodup_nil, List.length_map, List.map_cons, List.map_nil, eq_self, ite_true, ite_false, hlc, gt, f8, f9, f10, f11, q1, q2, ga, ga2, f1, d1, wo, w_way, tw]
  · have d1 : decide ((1 : Int) < (r.length : Nat)) = true := decide_eq_true (by have := R.1; omega)
    have wo : FF_without [.val (bookD B), .val (.int i), .val (.int j)] = .ret [.val (bookD B), .val (.int i), .val (.int j)] (.val less) := by
      rw [← hless]
      exact m_without (B.map recD) (r.map wayD) i j fit py hds (by rw [List.length_map]; exact jl) (by rw [List.length_map]; exact h1) (by rw [List.length_map]; omega) (by rw [List.length_map]; omega)
    have tw : FF__law_twins 8 [.val (.lst [less]), .val (.lst [less])] = .ret [.val (.lst [less]), .val (.lst [less])] (.val (.bl true)) := m_twins (by
      show (decide (([less] : List D).length ≤ 16777216) && ([less] : List D).all (nice 7)) = true
      rw [List.all_cons, nless]; rfl)
    refine ⟨.val (.tup ((r.map wayD).take j ++ (r.map wayD).drop (j + 1))), .val less, .val (.lst [less]), .val (.lst [less]), fr_v, fr_v, fr_v, fr_v, ?_⟩
    unfold lw_f1
    simp only [q_seq, q_nx, q_rt, q_bk, q_exc, q_nil, q_ret, q_kret, q_retN, q_if, q_ift, q_iff, q_expr, q_kexpr, q_sexc, q_set, q_ksetv, q_ksett, q_c, q_v, q_vv, q_vo, q_vi, q_fz, q_kfzv, q_kfzt, q_op, q_op1, q_op2, q_opE, q_lv, q_lt, q_ls, q_slo, q_sli, q_slv, q_fzl, q_oWs, q_un, q_kun, q_unE, q_and, q_or, q_not, q_thenB, q_andt, q_andf, q_ort, q_orf, q_knot, q_fB, q_kB, q_tru, q_ktru, q_truB, q_bnot, q_kbnot, q_band, q_bor, q_bandt, q_bandf, q_bort, q_borf, q_vif, q_vift, q_viff, q_anil, q_acons, q_kcons1, q_kcons2, q_tup, q_lst, q_ktup, q_klst, q_gnil, q_gval, q_kval1, q_kval2, q_gio, q_kio, q_call, q_finv, q_fint, q_finn, q_fine, q_fins, q_kcall, q_held, q_slHo, q_slHi, q_setL, q_slSo, q_slSi, q_setIx, q_kSetIx, q_setIx1, q_kSetIx2, q_setIx2, q_setIx3, q_app, q_app1, q_kApp, q_app2, q_ns, q_knsv, q_knst, q_par, q_kpar1, q_kpvv, q_kpvt, q_kptv, q_kptt, q_put2, q_sl, q_ksl1, q_ksl2, q_ksl3, q_sl4, q_ono, q_osome, q_kO, q_for, q_iseq, q_kseqT, q_kseqL, q_kseqS, q_isIo, q_ioV, q_ioE, q_ioO, q_nmG, q_frzS, q_frzV, q_frzT, q_fzSV, q_fzSO, q_kfzs, q_fzP, q_knss, q_nsP, q_came, q_cameO, q_cameX, q_cameF, q_cameW, q_mask, q_maskV, q_maskO, q_lenT, q_lenL, q_lenS, q_gLt, q_gLe, q_gGt, q_gGe, q_gInt, q_gAdd, q_gSub, q_gNeg, q_rR1, q_rR2, q_rs1, q_rs2, startE, finS, outs, outS, agSls, agSl, ios, callC, resC, isHeld, gIsi, D.seq?, tru, q_bok, q_sok, q_bexc, q_sxc, q_bstk, q_sstk, List.length_cons, List.length_nil, List.getElem?_cons_zero, List.getElem?_cons_succ, List.append_nil, List.replicate, Option.map_some, Option.map_none, List.mapIdx_cons, List.mapIdx_nil, Nat.sub_self, List.cons_append, List.nil_append, Bool.not_false, Bool.not_true, List.set_cons_zero, List.set_cons_succ, Bool.false_eq_true, if_true, if_false, reduceIte, decide_true, Nat.zero_add, Nat.reduceAdd, Nat.reduceSub, Nat.reduceBEq, beq_self_eq_true, List.nodup_nil, List.length_map, List.map_cons, List.map_nil, eq_self, ite_true, ite_false, hlc, gt, f8, f9, f10, f11, q1, q2, ga, ga2, f1, d1, wo, w_way, tw]
end K01
namespace K01
open PySem PySem.Spec
open PyProof.Rows hiding St
open L2 DL
theorem gNe_str (x : Str) (h : SeqAt.shaped (.str x) = true) : gNe (.str x) (.str x) = some (.val (.bl false)) := by
  show (if SeqAt.shaped (.str x) && SeqAt.shaped (.str x) then some (Wv.val (D.bl (not (PyData.eqv (.str x) (.str x))))) else none) = _
  rw [h, eqv_str]; rfl
theorem sh_way : SeqAt.shaped (.str "way") = true := by decide +kernel
theorem sh_rec : SeqAt.shaped (.str "recipe") = true := by decide +kernel
theorem odd_turn {mins : List Int} {B : List (List WK)} {r : List WK} {i : Nat} {d : D} {s0 s1 s2 s4 s6 s7 s8 s9 s10 s11 s12 : Sl} (hB : BookOk mins B) (hi : B[i]? = some r) (hd : d.py ≠ none) (ho : iw d 0 (r.length - 1) = false) (f12 : s12.fr) :
    nmG 12 d (lwE s0 s1 s2 (.val (bookD B)) s4 (.val (.int i)) s6 s7 s8 s9 s10 s11 s12) = some (lwE s0 s1 s2 (.val (bookD B)) s4 (.val (.int i)) s6 s7 s8 s9 s10 s11 (.val d)) ∧
    lw_f2 (lwE s0 s1 s2 (.val (bookD B)) s4 (.val (.int i)) s6 s7 s8 s9 s10 s11 (.val d)) = .nx (lwE s0 s1 s2 (.val (bookD B)) s4 (.val (.int i)) s6 s7 s8 s9 s10 s11 (.val d)) := by
  have f12 : ioO (some s12) = false := f12
  refine ⟨by simp only [q_seq, q_nx, q_rt, q_bk, q_exc, q_nil, q_ret, q_kret, q_retN, q_if, q_ift, q_iff, q_expr, q_kexpr, q_sexc, q_set, q_ksetv, q_ksett, q_c, q_v, q_vv, q_vo, q_vi, q_fz, q_kfzv, q_kfzt, q_op, q_op1, q_op2, q_opE, q_lv, q_lt, q_ls, q_slo, q_sli, q_slv, q_fzl, q_oWs, q_un, q_kun, q_unE, q_and, q_or, q_not, q_thenB, q_andt, q_andf, q_ort, q_orf, q_knot, q_fB, q_kB, q_tru, q_ktru, q_truB, q_bnot, q_kbnot, q_band, q_bor, q_bandt, q_bandf, q_bort, q_borf, q_vif, q_vift, q_viff, q_anil, q_acons, q_kcons1, q_kcons2, q_tup, q_lst, q_ktup, q_klst, q_gnil, q_gval, q_kval1, q_kval2, q_gio, q_kio, q_call, q_finv, q_fint, q_finn, q_fine, q_fins, q_kcall, q_held, q_slHo, q_slHi, q_setL, q_slSo, q_slSi, q_setIx, q_kSetIx, q_setIx1, q_kSetIx2, q_setIx2, q_setIx3, q_app, q_app1, q_kApp, q_app2, q_ns, q_knsv, q_knst, q_par, q_kpar1, q_kpvv, q_kpvt, q_kptv, q_kptt, q_put2, q_sl, q_ksl1, q_ksl2, q_ksl3, q_sl4, q_ono, q_osome, q_kO, q_for, q_iseq, q_kseqT, q_kseqL, q_kseqS, q_isIo, q_ioV, q_ioE, q_ioO, q_nmG, q_frzS, q_frzV, q_frzT, q_fzSV, q_fzSO, q_kfzs, q_fzP, q_knss, q_nsP, q_came, q_cameO, q_cameX, q_cameF, q_cameW, q_mask, q_maskV, q_maskO, q_lenT, q_lenL, q_lenS, q_gLt, q_gLe, q_gGt, q_gGe, q_gInt, q_gAdd, q_gSub, q_gNeg, q_rR1, q_rR2, q_rs1, q_rs2, startE, finS, outs, outS, agSls, agSl, ios, callC, resC, isHeld, gIsi, D.seq?, tru, q_bok, q_sok, q_bexc, q_sxc, q_bstk, q_sstk, List.length_cons, List.length_nil, List.getElem?_cons_zero, List.getElem?_cons_succ, List.append_nil, List.replicate, Option.map_some, Option.map_none, List.mapIdx_cons, List.mapIdx_nil, Nat.sub_self, List.cons_append, List.nil_append, Bool.not_false, Bool.not_true, List.set_cons_zero, List.set_cons_succ, Bool.false_eq_true, if_true, if_false, reduceIte, decide_true, Nat.zero_add, Nat.reduceAdd, Nat.reduceSub, Nat.reduceBEq, beq_self_eq_true, List.nodup_nil, List.length_map, List.map_cons, List.map_nil, eq_self, ite_true, ite_false, f12], ?_⟩
  have hds : (B.map recD)[i]? = some (.tup (r.map wayD)) := by rw [List.getElem?_map, hi]; rfl
  have wo : FF_without [.val (bookD B), .val (.int i), .val d] = .exc "InvalidWay" := x_without_way (B.map recD) (r.map wayD) i d (book_ok hB) (nl_py (nl_book hB)) hds hd (by rw [List.length_map, ho]; rfl)
  have gn := gNe_str "way" sh_way
  unfold lw_f2
  simp only [q_seq, q_nx, q_rt, q_bk, q_exc, q_nil, q_ret, q_kret, q_retN, q_if, q_ift, q_iff, q_expr, q_kexpr, q_sexc, q_set, q_ksetv, q_ksett, q_c, q_v, q_vv, q_vo, q_vi, q_fz, q_kfzv, q_kfzt, q_op, q_op1, q_op2, q_opE, q_lv, q_lt, q_ls, q_slo, q_sli, q_slv, q_fzl, q_oWs, q_un, q_kun, q_unE, q_and, q_or, q_not, q_thenB, q_andt, q_andf, q_ort, q_orf, q_knot, q_fB, q_kB, q_tru, q_ktru, q_truB, q_bnot, q_kbnot, q_band, q_bor, q_bandt, q_bandf, q_bort, q_borf, q_vif, q_vift, q_viff, q_anil, q_acons, q_kcons1, q_kcons2, q_tup, q_lst, q_ktup, q_klst, q_gnil, q_gval, q_kval1, q_kval2, q_gio, q_kio, q_call, q_finv, q_fint, q_finn, q_fine, q_fins, q_kcall, q_held, q_slHo, q_slHi, q_setL, q_slSo, q_slSi, q_setIx, q_kSetIx, q_setIx1, q_kSetIx2, q_setIx2, q_setIx3, q_app, q_app1, q_kApp, q_app2, q_ns, q_knsv, q_knst, q_par, q_kpar1, q_kpvv, q_kpvt, q_kptv, q_kptt, q_put2, q_sl, q_ksl1, q_ksl2, q_ksl3, q_sl4, q_ono, q_osome, q_kO, q_for, q_iseq, q_kseqT, q_kseqL, q_kseqS, q_isIo, q_ioV, q_ioE, q_ioO, q_nmG, q_frzS, q_frzV, q_frzT, q_fzSV, q_fzSO, q_kfzs, q_fzP, q_knss, q_nsP, q_came, q_cameO, q_cameX, q_cameF, q_cameW, q_mask, q_maskV, q_maskO, q_lenT, q_lenL, q_lenS, q_gLt, q_gLe, q_gGt, q_gGe, q_gInt, q_gAdd, q_gSub, q_gNeg, q_rR1, q_rR2, q_rs1, q_rs2, startE, finS, outs, outS, agSls, agSl, ios, callC, resC, isHeld, gIsi, D.seq?, tru, q_bok, q_sok, q_bexc, q_sxc, q_bstk, q_sstk, List.length_cons, List.length_nil, List.getElem?_cons_zero, List.getElem?_cons_succ, List.append_nil, List.replicate, Option.map_some, Option.map_none, List.mapIdx_cons, List.mapIdx_nil, Nat.sub_self, List.cons_append, List.nil_append, Bool.not_false, Bool.not_true, List.set_cons_zero, List.set_cons_succ, Bool.false_eq_true, if_true, if_false, reduceIte, decide_true, Nat.zero_add, Nat.reduceAdd, Nat.reduceSub, Nat.reduceBEq, beq_self_eq_true, List.nodup_nil, List.length_map, List.map_cons, List.map_nil, eq_self, ite_true, ite_false, wo, w_way, gn]
theorem odd_turn2 {mins : List Int} {B : List (List WK)} {d : D} {s0 s1 s2 s4 s5 s6 s7 s8 s9 s10 s11 s12 : Sl} (hB : BookOk mins B) (hd : d.py ≠ none) (ho : iw d 0 (B.length - 1) = false) (f12 : s12.fr) :
    nmG 12 d (lwE s0 s1 s2 (.val (bookD B)) s4 s5 s6 s7 s8 s9 s10 s11 s12) = some (lwE s0 s1 s2 (.val (bookD B)) s4 s5 s6 s7 s8 s9 s10 s11 (.val d)) ∧
    lw_f4 (lwE s0 s1 s2 (.val (bookD B)) s4 s5 s6 s7 s8 s9 s10 s11 (.val d)) = .nx (lwE s0 s1 s2 (.val (bookD B)) s4 s5 s6 s7 s8 s9 s10 s11 (.val d)) := by
  have f12 : ioO (some s12) = false := f12
  refine ⟨by simp only [q_seq, q_nx, q_rt, q_bk, q_exc, q_nil, q_ret, q_kret, q_retN, q_if, q_ift, q_iff, q_expr, q_kexpr, q_sexc, q_set, q_ksetv, q_ksett, q_c, q_v, q_vv, q_vo, q_vi, q_fz, q_kfzv, q_kfzt, q_op, q_op1, q_op2, q_opE, q_lv, q_lt, q_ls, q_slo, q_sli, q_slv, q_fzl, q_oWs, q_un, q_kun, q_unE, q_and, q_or, q_not, q_thenB, q_andt, q_andf, q_ort, q_orf, q_knot, q_fB, q_kB, q_tru, q_ktru, q_truB, q_bnot, q_kbnot, q_band, q_bor, q_bandt, q_bandf, q_bort, q_borf, q_vif, q_vift, q_viff, q_anil, q_acons, q_kcons1, q_kcons2, q_tup, q_lst, q_ktup, q_klst, q_gnil, q_gval, q_kval1, q_kval2, q_gio, q_kio, q_call, q_finv, q_fint, q_finn, q_fine, q_fins, q_kcall, q_held, q_slHo, q_slHi, q_setL, q_slSo, q_slSi, q_setIx, q_kSetIx, q_setIx1, q_kSetIx2, q_setIx2, q_setIx3, q_app, q_app1, q_kApp, q_app2, q_ns, q_knsv, q_knst, q_par, q_kpar1, q_kpvv, q_kpvt, q_kptv, q_kptt, q_put2, q_sl, q_ksl1, q_ksl2, q_ksl3, q_sl4, q_ono, q_osome, q_kO, q_for, q_iseq, q_kseqT, q_kseqL, q_kseqS, q_isIo, q_ioV, q_ioE, q_ioO, q_nmG, q_frzS, q_frzV, q_frzT, q_fzSV, q_fzSO, q_kfzs, q_fzP, q_knss, q_nsP, q_came, q_cameO, q_cameX, q_cameF, q_cameW, q_mask, q_maskV, q_maskO, q_lenT, q_lenL, q_lenS, q_gLt, q_gLe, q_gGt, q_gGe, q_gInt, q_gAdd, q_gSub, q_gNeg, q_rR1, q_rR2, q_rs1, q_rs2, startE, finS, outs, outS, agSls, agSl, ios, callC, resC, isHeld, gIsi, D.seq?, tru, q_bok, q_sok, q_bexc, q_sxc, q_bstk, q_sstk, List.length_cons, List.length_nil, List.getElem?_cons_zero, List.getElem?_cons_succ, List.append_nil, List.replicate, Option.map_some, Option.map_none, List.mapIdx_cons, List.mapIdx_nil, Nat.sub_self, List.cons_append, List.nil_append, Bool.not_false, Bool.not_true, List.set_cons_zero, List.set_cons_succ, Bool.false_eq_true, if_true, if_false, reduceIte, decide_true, Nat.zero_add, Nat.reduceAdd, Nat.reduceSub, Nat.reduceBEq, beq_self_eq_true, List.nodup_nil, List.length_map, List.map_cons, List.map_nil, eq_self, ite_true, ite_false, f12], ?_⟩
  have wo : FF_without [.val (bookD B), .val d, .val .non] = .exc "InvalidRecipe" := x_without_rec (B.map recD) d .non (book_ok hB) (nl_py (nl_book hB)) hd (by rw [List.length_map]; exact ho)
  have gn := gNe_str "recipe" sh_rec
  unfold lw_f4
  simp only [q_seq, q_nx, q_rt, q_bk, q_exc, q_nil, q_ret, q_kret, q_retN, q_if, q_ift, q_iff, q_expr, q_kexpr, q_sexc, q_set, q_ksetv, q_ksett, q_c, q_v, q_vv, q_vo, q_vi, q_fz, q_kfzv, q_kfzt, q_op, q_op1, q_op2, q_opE, q_lv, q_lt, q_ls, q_slo, q_sli, q_slv, q_fzl, q_oWs, q_un, q_kun, q_unE, q_and, q_or, q_not, q_thenB, q_andt, q_andf, q_ort, q_orf, q_knot, q_fB, q_kB, q_tru, q_ktru, q_truB, q_bnot, q_kbnot, q_band, q_bor, q_bandt, q_bandf, q_bort, q_borf, q_vif, q_vift, q_viff, q_anil, q_acons, q_kcons1, q_kcons2, q_tup, q_lst, q_ktup, q_klst, q_gnil, q_gval, q_kval1, q_kval2, q_gio, q_kio, q_call, q_finv, q_fint, q_finn, q_fine, q_fins, q_kcall, q_held, q_slHo, q_slHi, q_setL, q_slSo, q_slSi, q_setIx, q_kSetIx, q_setIx1, q_kSetIx2, q_setIx2, q_setIx3, q_app, q_app1, q_kApp, q_app2, q_ns, q_knsv, q_knst, q_par, q_kpar1, q_kpvv, q_kpvt, q_kptv, q_kptt, q_put2, q_sl, q_ksl1, q_ksl2, q_ksl3, q_sl4, q_ono, q_osome, q_kO, q_for, q_iseq, q_kseqT, q_kseqL, q_kseqS, q_isIo, q_ioV, q_ioE, q_ioO, q_nmG, q_frzS, q_frzV, q_frzT, q_fzSV, q_fzSO, q_kfzs, q_fzP, q_knss, q_nsP, q_came, q_cameO, q_cameX, q_cameF, q_cameW, q_mask, q_maskV, q_maskO, q_lenT, q_lenL, q_lenS, q_gLt, q_gLe, q_gGt, q_gGe, q_gInt, q_gAdd, q_gSub, q_gNeg, q_rR1, q_rR2, q_rs1, q_rs2, startE, finS, outs, outS, agSls, agSl, ios, callC, resC, isHeld, gIsi, D.seq?, tru, q_bok, q_sok, q_bexc, q_sxc, q_bstk, q_sstk, List.length_cons, List.length_nil, List.getElem?_cons_zero, List.getElem?_cons_succ, List.append_nil, List.replicate, Option.map_some, Option.map_none, List.mapIdx_cons, List.mapIdx_nil, Nat.sub_self, List.cons_append, List.nil_append, Bool.not_false, Bool.not_true, List.set_cons_zero, List.set_cons_succ, Bool.false_eq_true, if_true, if_false, reduceIte, decide_true, Nat.zero_add, Nat.reduceAdd, Nat.reduceSub, Nat.reduceBEq, beq_self_eq_true, List.nodup_nil, List.length_map, List.map_cons, List.map_nil, eq_self, ite_true, ite_false, wo, w_rec, gn]
/-- values that are no number below n -/
def odd5 (n : Nat) : List D := [.non, .int (-1), .int n, .bl true, .str "0"]
theorem odd5_ok (n : Nat) : ∀ d ∈ odd5 n, d.py ≠ none ∧ iw d 0 ((n : Int) - 1) = false := by
  simp only [odd5, List.forall_mem_cons]
  refine ⟨⟨(by intro z; cases z), rfl⟩, ⟨(by intro z; cases z), rfl⟩, ⟨(by intro z; cases z), ?_⟩, ⟨(by intro z; cases z), rfl⟩, ⟨(by intro z; cases z), rfl⟩, fun d hd => (by cases hd)⟩
  show (decide ((0:Int) ≤ n) && decide ((n:Int) ≤ n - 1)) = false
  rw [decide_eq_false (show ¬ (n:Int) ≤ n - 1 by omega), Bool.and_false]
theorem odds_loop {mins : List Int} {B : List (List WK)} {r : List WK} {i : Nat} {s0 s1 s2 s4 s6 s7 s8 s9 s10 s11 s12 : Sl} (hB : BookOk mins B) (hi : B[i]? = some r) (f12 : s12.fr) :
    ∃ s12' : Sl, s12'.fr ∧ forL (nmG 12) lw_f2 (odd5 r.length) (lwE s0 s1 s2 (.val (bookD B)) s4 (.val (.int i)) s6 s7 s8 s9 s10 s11 s12) = .nx (lwE s0 s1 s2 (.val (bookD B)) s4 (.val (.int i)) s6 s7 s8 s9 s10 s11 s12') := by
  obtain ⟨ρ', e, _, s12', f, rfl⟩ := forL_nx (g := nmG 12) (b := lw_f2) (fun ds ρ => (∀ d ∈ ds, d ∈ odd5 r.length) ∧ ∃ s12 : Sl, s12.fr ∧ ρ = lwE s0 s1 s2 (.val (bookD B)) s4 (.val (.int i)) s6 s7 s8 s9 s10 s11 s12)
    (fun d ds ρ ⟨h, s12, f, e⟩ => by
      subst e
      obtain ⟨h1, h2⟩ := odd5_ok r.length d (h d List.mem_cons_self)
      obtain ⟨e1, e2⟩ := odd_turn (s0 := s0) (s1 := s1) (s2 := s2) (s4 := s4) (s6 := s6) (s7 := s7) (s8 := s8) (s9 := s9) (s10 := s10) (s11 := s11) hB hi h1 h2 f
      exact ⟨_, _, e1, e2, fun x hx => h x (List.mem_cons_of_mem _ hx), _, fr_v, rfl⟩) (odd5 r.length) _ ⟨fun d hd => hd, s12, f12, rfl⟩
  exact ⟨s12', f, e⟩
theorem odds_loop2 {mins : List Int} {B : List (List WK)} {s0 s1 s2 s4 s5 s6 s7 s8 s9 s10 s11 s12 : Sl} (hB : BookOk mins B) (f12 : s12.fr) :
    ∃ s12' : Sl, s12'.fr ∧ forL (nmG 12) lw_f4 (odd5 B.length) (lwE s0 s1 s2 (.val (bookD B)) s4 s5 s6 s7 s8 s9 s10 s11 s12) = .nx (lwE s0 s1 s2 (.val (bookD B)) s4 s5 s6 s7 s8 s9 s10 s11 s12') := by
  obtain ⟨ρ', e, _, s12', f, rfl⟩ := forL_nx (g := nmG 12) (b := lw_f4) (fun ds ρ => (∀ d ∈ ds, d ∈ odd5 B.length) ∧ ∃ s12 : Sl, s12.fr ∧ ρ = lwE s0 s1 s2 (.val (bookD B)) s4 s5 s6 s7 s8 s9 s10 s11 s12)
    (fun d ds ρ ⟨h, s12, f, e⟩ => by
      subst e
      obtain ⟨h1, h2⟩ := odd5_ok B.length d (h d List.mem_cons_self)
      obtain ⟨e1, e2⟩ := odd_turn2 (s0 := s0) (s1 := s1) (s2 := s2) (s4 := s4) (s5 := s5) (s6 := s6) (s7 := s7) (s8 := s8) (s9 := s9) (s10 := s10) (s11 := s11) hB h1 h2 f
      exact ⟨_, _, e1, e2, fun x hx => h x (List.mem_cons_of_mem _ hx), _, fr_v, rfl⟩) (odd5 B.length) _ ⟨fun d hd => hd, s12, f12, rfl⟩
  exact ⟨s12', f, e⟩
theorem rng_nat (n : Nat) : ∀ d ∈ rng 0 n, ∃ j : Nat, j < n ∧ d = .int j := fun d hd => by
  obtain ⟨j, hj, rfl⟩ := List.mem_map.mp hd
  exact ⟨j, List.mem_range.mp hj, by simp⟩
theorem ways_loop {mins : List Int} {B : List (List WK)} {r : List WK} {i : Nat} {s0 s1 s2 s4 s7 s8 s9 s10 s11 s12 : Sl} (hB : BookOk mins B) (hi : B[i]? = some r) (f7 : s7.fr) (f8 : s8.fr) (f9 : s9.fr) (f10 : s10.fr) (f11 : s11.fr) :
    ∃ s7' s8' s9' s10' s11' : Sl, s7'.fr ∧ s8'.fr ∧ s9'.fr ∧ s10'.fr ∧ s11'.fr ∧ forL (nmG 7) lw_f1 (rng 0 r.length) (lwE s0 s1 s2 (.val (bookD B)) s4 (.val (.int i)) (.val (.int r.length)) s7 s8 s9 s10 s11 s12) = .nx (lwE s0 s1 s2 (.val (bookD B)) s4 (.val (.int i)) (.val (.int r.length)) s7' s8' s9' s10' s11' s12) := by
  obtain ⟨ρ', e, _, s7', s8', s9', s10', s11', g7, g8, g9, g10, g11, rfl⟩ := forL_nx (g := nmG 7) (b := lw_f1) (fun ds ρ => (∀ d ∈ ds, d ∈ rng 0 r.length) ∧ ∃ s7 s8 s9 s10 s11 : Sl, s7.fr ∧ s8.fr ∧ s9.fr ∧ s10.fr ∧ s11.fr ∧ ρ = lwE s0 s1 s2 (.val (bookD B)) s4 (.val (.int i)) (.val (.int r.length)) s7 s8 s9 s10 s11 s12)
    (fun d ds ρ ⟨h, s7, s8, s9, s10, s11, f7, f8, f9, f10, f11, e⟩ => by
      subst e
      obtain ⟨j, hj, rfl⟩ := rng_nat _ d (h d List.mem_cons_self)
      obtain ⟨s8', s9', s10', s11', g8, g9, g10, g11, e2⟩ := way_turn (s0 := s0) (s1 := s1) (s2 := s2) (s4 := s4) (s7 := s7) (s12 := s12) hB hi (List.getElem?_eq_getElem hj) f8 f9 f10 f11
      have f7 : ioO (some s7) = false := f7
      exact ⟨lwE s0 s1 s2 (.val (bookD B)) s4 (.val (.int i)) (.val (.int r.length)) (.val (.int j)) s8 s9 s10 s11 s12, _, by simp only [q_seq, q_nx, q_rt, q_bk, q_exc, q_nil, q_ret, q_kret, q_retN, q_if, q_ift, q_iff, q_expr, q_kexpr, q_sexc, q_set, q_ksetv, q_ksett, q_c, q_v, q_vv, q_vo, q_vi, q_fz, q_kfzv, q_kfzt, q_op, q_op1, q_op2, q_opE, q_lv, q_lt, q_ls, q_slo, q_sli, q_slv, q_fzl, q_oWs, q_un, q_kun, q_unE, q_and, q_or, q_not, q_thenB, q_andt, q_andf, q_ort, q_orf, q_knot, q_fB, q_kB, q_tru, q_ktru, q_truB, q_bnot, q_kbnot, q_band, q_bor, q_bandt, q_bandf, q_bort, q_borf, q_vif, q_vift, q_viff, q_anil, q_acons, q_kcons1, q_kcons2, q_tup, q_lst, q_ktup, q_klst, q_gnil, q_gval, q_kval1, q_kval2, q_gio, q_kio, q_call, q_finv, q_fint, q_finn, q_fine, q_fins, q_kcall, q_held, q_slHo, q_slHi, q_setL, q_slSo, q_slSi, q_setIx, q_kSetIx, q_setIx1, q_kSetIx2, q_setIx2, q_setIx3, q_app, q_app1, q_kApp, q_app2, q_ns, q_knsv, q_knst, q_par, q_kpar1, q_kpvv, q_kpvt, q_kptv, q_kptt, q_put2, q_sl, q_ksl1, q_ksl2, q_ksl3, q_sl4, q_ono, q_osome, q_kO, q_for, q_iseq, q_kseqT, q_kseqL, q_kseqS, q_isIo, q_ioV, q_ioE, q_ioO, q_nmG, q_frzS, q_frzV, q_frzT, q_fzSV, q_fzSO, q_kfzs, q_fzP, q_knss, q_nsP, q_came, q_cameO, q_cameX, q_cameF, q_cameW, q_mask, q_maskV, q_maskO, q_lenT, q_lenL, q_lenS, q_gLt, q_gLe, q_gGt, q_gGe, q_gInt, q_gAdd, q_gSub, q_gNeg, q_rR1, q_rR2, q_rs1, q_rs2, startE, finS, outs, outS, agSls, agSl, ios, callC, resC, isHeld, gIsi, D.seq?, tru, q_bok, q_sok, q_bexc, q_sxc, q_bstk, q_sstk, List.length_cons, List.length_nil, List.getElem?_cons_zero, List.getElem?_cons_succ, List.append_nil, List.replicate, Option.map_some, Option.map_none, List.mapIdx_cons, List.mapIdx_nil, Nat.sub_self, List.cons_append, List.nil_append, Bool.not_false, Bool.not_true, List.set_cons_zero, List.set_cons_succ, Bool.false_eq_true, if_true, if_false, reduceIte, decide_true, Nat.zero_add, Nat.reduceAdd, Nat.reduceSub, Nat.reduceBEq, beq_self_eq_true, List.nodup_nil, List.length_map, List.map_cons, List.map_nil, eq_self, ite_true, ite_false, f7], e2, fun x hx => h x (List.mem_cons_of_mem _ hx), _, s8', s9', s10', s11', fr_v, g8, g9, g10, g11, rfl⟩) (rng 0 r.length) _ ⟨fun d hd => hd, s7, s8, s9, s10, s11, f7, f8, f9, f10, f11, rfl⟩
  exact ⟨s7', s8', s9', s10', s11', g7, g8, g9, g10, g11, e⟩
theorem rec_turn {mins : List Int} {B : List (List WK)} {r : List WK} {i : Nat} {s0 s1 s2 s4 s5 s6 s7 s8 s9 s10 s11 s12 : Sl} (hB : BookOk mins B) (hi : B[i]? = some r) (f5 : s5.fr) (f6 : s6.fr) (f7 : s7.fr) (f8 : s8.fr) (f9 : s9.fr) (f10 : s10.fr) (f11 : s11.fr) (f12 : s12.fr) :
    nmG 5 (.int i) (lwE s0 s1 s2 (.val (bookD B)) s4 s5 s6 s7 s8 s9 s10 s11 s12) = some (lwE s0 s1 s2 (.val (bookD B)) s4 (.val (.int i)) s6 s7 s8 s9 s10 s11 s12) ∧
    ∃ s7' s8' s9' s10' s11' s12' : Sl, s7'.fr ∧ s8'.fr ∧ s9'.fr ∧ s10'.fr ∧ s11'.fr ∧ s12'.fr ∧ lw_f3 (lwE s0 s1 s2 (.val (bookD B)) s4 (.val (.int i)) s6 s7 s8 s9 s10 s11 s12) = .nx (lwE s0 s1 s2 (.val (bookD B)) s4 (.val (.int i)) (.val (.int r.length)) s7' s8' s9' s10' s11' s12') := by
  have f5 : ioO (some s5) = false := f5
  have f6 : ioO (some s6) = false := f6
  refine ⟨by simp only [q_seq, q_nx, q_rt, q_bk, q_exc, q_nil, q_ret, q_kret, q_retN, q_if, q_ift, q_iff, q_expr, q_kexpr, q_sexc, q_set, q_ksetv, q_ksett, q_c, q_v, q_vv, q_vo, q_vi, q_fz, q_kfzv, q_kfzt, q_op, q_op1, q_op2, q_opE, q_lv, q_lt, q_ls, q_slo, q_sli, q_slv, q_fzl, q_oWs, q_un, q_kun, q_unE, q_and, q_or, q_not, q_thenB, q_andt, q_andf, q_ort, q_orf, q_knot, q_fB, q_kB, q_tru, q_ktru, q_truB, q_bnot, q_kbnot, q_band, q_bor, q_bandt, q_bandf, q_bort, q_borf, q_vif, q_vift, q_viff, q_anil, q_acons, q_kcons1, q_kcons2, q_tup, q_lst, q_ktup, q_klst, q_gnil, q_gval, q_kval1, q_kval2, q_gio, q_kio, q_call, q_finv, q_fint, q_finn, q_fine, q_fins, q_kcall, q_held, q_slHo, q_slHi, q_setL, q_slSo, q_slSi, q_setIx, q_kSetIx, q_setIx1, q_kSetIx2, q_setIx2, q_setIx3, q_app, q_app1, q_kApp, q_app2, q_ns, q_knsv, q_knst, q_par, q_kpar1, q_kpvv, q_kpvt, q_kptv, q_kptt, q_put2, q_sl, q_ksl1, q_ksl2, q_ksl3, q_sl4, q_ono, q_osome, q_kO, q_for, q_iseq, q_kseqT, q_kseqL, q_kseqS, q_isIo, q_ioV, q_ioE, q_ioO, q_nmG, q_frzS, q_frzV, q_frzT, q_fzSV, q_fzSO, q_kfzs, q_fzP, q_knss, q_nsP, q_came, q_cameO, q_cameX, q_cameF, q_cameW, q_mask, q_maskV, q_maskO, q_lenT, q_lenL, q_lenS, q_gLt, q_gLe, q_gGt, q_gGe, q_gInt, q_gAdd, q_gSub, q_gNeg, q_rR1, q_rR2, q_rs1, q_rs2, startE, finS, outs, outS, agSls, agSl, ios, callC, resC, isHeld, gIsi, D.seq?, tru, q_bok, q_sok, q_bexc, q_sxc, q_bstk, q_sstk, List.length_cons, List.length_nil, List.getElem?_cons_zero, List.getElem?_cons_succ, List.append_nil, List.replicate, Option.map_some, Option.map_none, List.mapIdx_cons, List.mapIdx_nil, Nat.sub_self, List.cons_append, List.nil_append, Bool.not_false, Bool.not_true, List.set_cons_zero, List.set_cons_succ, Bool.false_eq_true, if_true, if_false, reduceIte, decide_true, Nat.zero_add, Nat.reduceAdd, Nat.reduceSub, Nat.reduceBEq, beq_self_eq_true, List.nodup_nil, List.length_map, List.map_cons, List.map_nil, eq_self, ite_true, ite_false, f5], ?_⟩
  have hds : (B.map recD)[i]? = some (.tup (r.map wayD)) := by rw [List.getElem?_map, hi]; rfl
  have g1 : gIx (bookD B) (.int (i : Nat)) = some (.val (recD r)) := gIx_tup hds
  have gl : gLen (recD r) = some (.val (.int (r.length : Nat))) := by show some (Wv.val (.int ((r.map wayD).length : Nat))) = _; rw [List.length_map]
  have rl := (hB.2.2.2 r (List.mem_of_getElem? hi)).2.1
  obtain ⟨s7', s8', s9', s10', s11', g7, g8, g9, g10, g11, e1⟩ := ways_loop (s0 := s0) (s1 := s1) (s2 := s2) (s4 := s4) (s12 := s12) hB hi f7 f8 f9 f10 f11
  obtain ⟨s12', g12, e2⟩ := odds_loop (s0 := s0) (s1 := s1) (s2 := s2) (s4 := s4) (s6 := .val (.int r.length)) (s7 := s7') (s8 := s8') (s9 := s9') (s10 := s10') (s11 := s11') hB hi f12
  rw [odd5] at e2
  have f5' : fits 5 = true := by decide
  have er : ∀ ρ : En, rOk ρ (r.length : Nat) = .ok ρ (rng 0 r.length) := fun ρ => rOk_nat (by omega)
  refine ⟨s7', s8', s9', s10', s11', s12', g7, g8, g9, g10, g11, g12, ?_⟩
  unfold lw_f3
  simp only [q_seq, q_nx, q_rt, q_bk, q_exc, q_nil, q_ret, q_kret, q_retN, q_if, q_ift, q_iff, q_expr, q_kexpr, q_sexc, q_set, q_ksetv, q_ksett, q_c, q_v, q_vv, q_vo, q_vi, q_fz, q_kfzv, q_kfzt, q_op, q_op1, q_op2, q_opE, q_lv, q_lt, q_ls, q_slo, q_sli, q_slv, q_fzl, q_oWs, q_un, q_kun, q_unE, q_and, q_or, q_not, q_thenB, q_andt, q_andf, q_ort, q_orf, q_knot, q_fB, q_kB, q_tru, q_ktru, q_truB, q_bnot, q_kbnot, q_band, q_bor, q_bandt, q_bandf, q_bort, q_borf, q_vif, q_vift, q_viff, q_anil, q_acons, q_kcons1, q_kcons2, q_tup, q_lst, q_ktup, q_klst, q_gnil, q_gval, q_kval1, q_kval2, q_gio, q_kio, q_call, q_finv, q_fint, q_finn, q_fine, q_fins, q_kcall, q_held, q_slHo, q_slHi, q_setL, q_slSo, q_slSi, q_setIx, q_kSetIx, q_setIx1, q_kSetIx2, q_setIx2, q_setIx3, q_app, q_app1, q_kApp, q_app2, q_ns, q_knsv, q_knst, q_par, q_kpar1, q_kpvv, q_kpvt, q_kptv, q_kptt, q_put2, q_sl, q_ksl1, q_ksl2, q_ksl3, q_sl4, q_ono, q_osome, q_kO, q_for, q_iseq, q_kseqT, q_kseqL, q_kseqS, q_isIo, q_ioV, q_ioE, q_ioO, q_nmG, q_frzS, q_frzV, q_frzT, q_fzSV, q_fzSO, q_kfzs, q_fzP, q_knss, q_nsP, q_came, q_cameO, q_cameX, q_cameF, q_cameW, q_mask, q_maskV, q_maskO, q_lenT, q_lenL, q_lenS, q_gLt, q_gLe, q_gGt, q_gGe, q_gInt, q_gAdd, q_gSub, q_gNeg, q_rR1, q_rR2, q_rs1, q_rs2, startE, finS, outs, outS, agSls, agSl, ios, callC, resC, isHeld, gIsi, D.seq?, tru, q_bok, q_sok, q_bexc, q_sxc, q_bstk, q_sstk, List.length_cons, List.length_nil, List.getElem?_cons_zero, List.getElem?_cons_succ, List.append_nil, List.replicate, Option.map_some, Option.map_none, List.mapIdx_cons, List.mapIdx_nil, Nat.sub_self, List.cons_append, List.nil_append, Bool.not_false, Bool.not_true, List.set_cons_zero, List.set_cons_succ, Bool.false_eq_true, if_true, if_false, reduceIte, decide_true, Nat.zero_add, Nat.reduceAdd, Nat.reduceSub, Nat.reduceBEq, beq_self_eq_true, List.nodup_nil, List.length_map, List.map_cons, List.map_nil, eq_self, ite_true, ite_false, g1, gl, f6, er, kFor, e1, e2, f5']
end K01
namespace K01
open PySem PySem.Spec
open PyProof.Rows hiding St
open L2 DL
theorem io2 {as : List Ag} {ss : List Sl} {o : OD} {x y s : Sl} {r : En} (h : ∀ j, ioFind as ss j = none) : putIo (x :: y :: s :: r) (.io 2 :: as) (.io o :: ss) = x :: y :: s.putC o :: r := by
  unfold putIo
  apply List.ext_getElem?
  intro j
  rw [List.getElem?_mapIdx]
  match j with
  | 0 => 
    show some (match (if (2 : Nat) = 0 then some o else ioFind as ss 0) with | some o => x.putC o | none => x) = some x
    rw [if_neg (by omega), h]
  | 1 =>
    show some (match (if (2 : Nat) = 1 then some o else ioFind as ss 1) with | some o => y.putC o | none => y) = some y
    rw [if_neg (by omega), h]
  | 2 => rfl
  | j + 3 =>
    show Option.map (fun s => match (if (2 : Nat) = j + 3 then some o else ioFind as ss (j + 3)) with | some o => s.putC o | none => s) r[j]? = r[j]?
    rw [if_neg (by omega), h]
    cases r[j]? <;> rfl
theorem bents {a b : Int} {B : List (List WK)} {mins : List Int} {s0 s1 s4 s5 s6 s7 s8 s9 s10 s11 s12 : Sl} (hB : BookOk mins B) (hs : SprOk a b) :
    ∃ a' b' es, SprOk a' b' ∧ (∀ e ∈ es, nl 100 10 e = true) ∧ es.length ≤ 40 ∧
    fLc (iR1 (aCons (fFz (fC (.int 40))) aNil)) [13] (nmG 13) bYes (fFz (fCall 2 (FF__law_bent 8) (gIo 2 (gVal (fFz (fV 3)) DL.gNil)))) (lwE s0 s1 (.own (spr a b)) (.val (bookD B)) s4 s5 s6 s7 s8 s9 s10 s11 s12) = .ok (lwE s0 s1 (.own (spr a' b')) (.val (bookD B)) s4 s5 s6 s7 s8 s9 s10 s11 s12) (.tmp (.lst es)) := by
  have hfi : iR1 (aCons (fFz (fC (.int 40))) aNil) (lwE s0 s1 (.own (spr a b)) (.val (bookD B)) s4 s5 s6 s7 s8 s9 s10 s11 s12) = .ok (lwE s0 s1 (.own (spr a b)) (.val (bookD B)) s4 s5 s6 s7 s8 s9 s10 s11 s12) (rng 0 40) := by
    have ir : ∀ ρ : En, rOk ρ 40 = .ok ρ (rng 0 40) := fun ρ => rOk_int (by omega) (by omega)
    simp only [q_seq, q_nx, q_rt, q_bk, q_exc, q_nil, q_ret, q_kret, q_retN, q_if, q_ift, q_iff, q_expr, q_kexpr, q_sexc, q_set, q_ksetv, q_ksett, q_c, q_v, q_vv, q_vo, q_vi, q_fz, q_kfzv, q_kfzt, q_op, q_op1, q_op2, q_opE, q_lv, q_lt, q_ls, q_slo, q_sli, q_slv, q_fzl, q_oWs, q_un, q_kun, q_unE, q_and, q_or, q_not, q_thenB, q_andt, q_andf, q_ort, q_orf, q_knot, q_fB, q_kB, q_tru, q_ktru, q_truB, q_bnot, q_kbnot, q_band, q_bor, q_bandt, q_bandf, q_bort, q_borf, q_vif, q_vift, q_viff, q_anil, q_acons, q_kcons1, q_kcons2, q_tup, q_lst, q_ktup, q_klst, q_gnil, q_gval, q_kval1, q_kval2, q_gio, q_kio, q_call, q_finv, q_fint, q_finn, q_fine, q_fins, q_kcall, q_held, q_slHo, q_slHi, q_setL, q_slSo, q_slSi, q_setIx, q_kSetIx, q_setIx1, q_kSetIx2, q_setIx2, q_setIx3, q_app, q_app1, q_kApp, q_app2, q_ns, q_knsv, q_knst, q_par, q_kpar1, q_kpvv, q_kpvt, q_kptv, q_kptt, q_put2, q_sl, q_ksl1, q_ksl2, q_ksl3, q_sl4, q_ono, q_osome, q_kO, q_for, q_iseq, q_kseqT, q_kseqL, q_kseqS, q_isIo, q_ioV, q_ioE, q_ioO, q_nmG, q_frzS, q_frzV, q_frzT, q_fzSV, q_fzSO, q_kfzs, q_fzP, q_knss, q_nsP, q_came, q_cameO, q_cameX, q_cameF, q_cameW, q_mask, q_maskV, q_maskO, q_lenT, q_lenL, q_lenS, q_gLt, q_gLe, q_gGt, q_gGe, q_gInt, q_gAdd, q_gSub, q_gNeg, q_rR1, q_rR2, q_rs1, q_rs2, startE, finS, outs, outS, agSls, agSl, ios, callC, resC, isHeld, gIsi, D.seq?, tru, q_bok, q_sok, q_bexc, q_sxc, q_bstk, q_sstk, List.length_cons, List.length_nil, List.getElem?_cons_zero, List.getElem?_cons_succ, List.append_nil, List.replicate, Option.map_some, Option.map_none, List.mapIdx_cons, List.mapIdx_nil, Nat.sub_self, List.cons_append, List.nil_append, Bool.not_false, Bool.not_true, List.set_cons_zero, List.set_cons_succ, Bool.false_eq_true, if_true, if_false, reduceIte, decide_true, Nat.zero_add, Nat.reduceAdd, Nat.reduceSub, Nat.reduceBEq, beq_self_eq_true, List.nodup_nil, List.length_map, List.map_cons, List.map_nil, eq_self, ite_true, ite_false, ir]
  obtain ⟨ρ', acc, ⟨a', b', hl, hs', he, rfl⟩, e⟩ := fLc_by (vs := [13]) (g := nmG 13) (t := bYes) (fe := fFz (fCall 2 (FF__law_bent 8) (gIo 2 (gVal (fFz (fV 3)) DL.gNil)))) hfi
    (fun ds acc ρ => ∃ a b, acc.length + ds.length ≤ 40 ∧ SprOk a b ∧ (∀ e ∈ acc, nl 100 10 e = true) ∧ ρ = lwE s0 s1 (.own (spr a b)) (.val (bookD B)) s4 s5 s6 s7 s8 s9 s10 s11 s12)
    (fun d ds acc ρ ⟨a, b, hl, hs, he, e⟩ => by
      subst e
      obtain ⟨a', b', d', s', nd, e'⟩ := m_bent 8 3 (bookD B) a b (nl_mono (Nat.le_refl _) (by omega) (nl_book hB)) (by omega) (by omega) hs
      refine ⟨[s0, s1, .own (spr a b), .val (bookD B), s4, s5, s6, s7, s8, s9, s10, s11, s12, .val d, .emp], _, true, rfl, rfl, .inr ⟨rfl, [s0, s1, .own (spr a' b'), .val (bookD B), s4, s5, s6, s7, s8, s9, s10, s11, s12, .val d, .emp], d', ?_, a', b', by simp only [List.length_append, List.length_cons, List.length_nil] at hl ⊢; omega, s', fun x hx => ?_, rfl⟩⟩
      · simp only [q_seq, q_nx, q_rt, q_bk, q_exc, q_nil, q_ret, q_kret, q_retN, q_if, q_ift, q_iff, q_expr, q_kexpr, q_sexc, q_set, q_ksetv, q_ksett, q_c, q_v, q_vv, q_vo, q_vi, q_fz, q_kfzv, q_kfzt, q_op, q_op1, q_op2, q_opE, q_lv, q_lt, q_ls, q_slo, q_sli, q_slv, q_fzl, q_oWs, q_un, q_kun, q_unE, q_and, q_or, q_not, q_thenB, q_andt, q_andf, q_ort, q_orf, q_knot, q_fB, q_kB, q_tru, q_ktru, q_truB, q_bnot, q_kbnot, q_band, q_bor, q_bandt, q_bandf, q_bort, q_borf, q_vif, q_vift, q_viff, q_anil, q_acons, q_kcons1, q_kcons2, q_tup, q_lst, q_ktup, q_klst, q_gnil, q_gval, q_kval1, q_kval2, q_gio, q_kio, q_call, q_finv, q_fint, q_finn, q_fine, q_fins, q_kcall, q_held, q_slHo, q_slHi, q_setL, q_slSo, q_slSi, q_setIx, q_kSetIx, q_setIx1, q_kSetIx2, q_setIx2, q_setIx3, q_app, q_app1, q_kApp, q_app2, q_ns, q_knsv, q_knst, q_par, q_kpar1, q_kpvv, q_kpvt, q_kptv, q_kptt, q_put2, q_sl, q_ksl1, q_ksl2, q_ksl3, q_sl4, q_ono, q_osome, q_kO, q_for, q_iseq, q_kseqT, q_kseqL, q_kseqS, q_isIo, q_ioV, q_ioE, q_ioO, q_nmG, q_frzS, q_frzV, q_frzT, q_fzSV, q_fzSO, q_kfzs, q_fzP, q_knss, q_nsP, q_came, q_cameO, q_cameX, q_cameF, q_cameW, q_mask, q_maskV, q_maskO, q_lenT, q_lenL, q_lenS, q_gLt, q_gLe, q_gGt, q_gGe, q_gInt, q_gAdd, q_gSub, q_gNeg, q_rR1, q_rR2, q_rs1, q_rs2, startE, finS, outs, outS, agSls, agSl, ios, callC, resC, isHeld, gIsi, D.seq?, tru, q_bok, q_sok, q_bexc, q_sxc, q_bstk, q_sstk, List.length_cons, List.length_nil, List.getElem?_cons_zero, List.getElem?_cons_succ, List.append_nil, List.replicate, Option.map_some, Option.map_none, List.mapIdx_cons, List.mapIdx_nil, Nat.sub_self, List.cons_append, List.nil_append, Bool.not_false, Bool.not_true, List.set_cons_zero, List.set_cons_succ, Bool.false_eq_true, if_true, if_false, reduceIte, decide_true, Nat.zero_add, Nat.reduceAdd, Nat.reduceSub, Nat.reduceBEq, beq_self_eq_true, List.nodup_nil, List.length_map, List.map_cons, List.map_nil, eq_self, ite_true, ite_false, e', nodup1, io2 io_v, Sl.putC]
      · rcases List.mem_append.mp hx with z | z
        · exact he x z
        · rw [List.mem_singleton.mp z]
          exact nl_mono (by omega) (Nat.le_refl _) nd) (by rw [rng_len]; omega) ⟨a, b, by rw [rng_len]; simp, hs, fun x hx => (by cases hx), rfl⟩
  exact ⟨a', b', acc, hs', he, by simpa using hl, e⟩
theorem nl_lst {L n : Nat} {ds : List D} (h : nl L (n + 1) (.tup ds) = true) : nl L (n + 1) (.lst ds) = true := h
theorem check {es : List D} {s0 s1 s2 s3 s5 s6 s7 s8 s9 s10 s11 s12 : Sl} (he : ∀ e ∈ es, nl 100 10 e = true) (hl : es.length ≤ 1000) :
    (sIf (fB (fOp gNe (fLc (iSeq (fFz (fV 4))) [14] (nmG 14) (bNot (fTru (fCall 2 (FF__law_twins 8) (gVal (fFz (fCall 1 FF_is_book (gVal (fFz (fV 14)) DL.gNil))) (gVal (fFz (fCall 1 FF__law_good (gVal (fFz (fV 14)) DL.gNil))) DL.gNil))))) (fFz (fC (.int 1)))) (fLst aNil))) (sSeq (sRet (fC (.bl false))) sNil) sNil) (lwE s0 s1 s2 s3 (.own (.lst es)) s5 s6 s7 s8 s9 s10 s11 s12) = .nx (lwE s0 s1 s2 s3 (.val (.lst es)) s5 s6 s7 s8 s9 s10 s11 s12) := by
  have hlc := fLc_pure (i := 14) (fi := iSeq (fFz (fV 4))) (t := bNot (fTru (fCall 2 (FF__law_twins 8) (gVal (fFz (fCall 1 FF_is_book (gVal (fFz (fV 14)) DL.gNil))) (gVal (fFz (fCall 1 FF__law_good (gVal (fFz (fV 14)) DL.gNil))) DL.gNil))))) (fe := fFz (fC (.int 1))) (f := fun _ => D.int 1) (p := fun _ => false) (ρ := lwE s0 s1 s2 s3 (.own (.lst es)) s5 s6 s7 s8 s9 s10 s11 s12) (ρ1 := lwE s0 s1 s2 s3 (.val (.lst es)) s5 s6 s7 s8 s9 s10 s11 s12) (ds := es) (by rfl) (by show 14 < 15; decide) (fun d hd => by
    have pd := nl_py (he d hd)
    have w1 := m_is_book d pd
    have w2 := m_good d pd
    have w3 : FF__law_twins 8 [.val (.bl (fit d)), .val (.bl (fit d))] = .ret [.val (.bl (fit d)), .val (.bl (fit d))] (.val (.bl true)) := m_twins rfl
    simp only [q_seq, q_nx, q_rt, q_bk, q_exc, q_nil, q_ret, q_kret, q_retN, q_if, q_ift, q_iff, q_expr, q_kexpr, q_sexc, q_set, q_ksetv, q_ksett, q_c, q_v, q_vv, q_vo, q_vi, q_fz, q_kfzv, q_kfzt, q_op, q_op1, q_op2, q_opE, q_lv, q_lt, q_ls, q_slo, q_sli, q_slv, q_fzl, q_oWs, q_un, q_kun, q_unE, q_and, q_or, q_not, q_thenB, q_andt, q_andf, q_ort, q_orf, q_knot, q_fB, q_kB, q_tru, q_ktru, q_truB, q_bnot, q_kbnot, q_band, q_bor, q_bandt, q_bandf, q_bort, q_borf, q_vif, q_vift, q_viff, q_anil, q_acons, q_kcons1, q_kcons2, q_tup, q_lst, q_ktup, q_klst, q_gnil, q_gval, q_kval1, q_kval2, q_gio, q_kio, q_call, q_finv, q_fint, q_finn, q_fine, q_fins, q_kcall, q_held, q_slHo, q_slHi, q_setL, q_slSo, q_slSi, q_setIx, q_kSetIx, q_setIx1, q_kSetIx2, q_setIx2, q_setIx3, q_app, q_app1, q_kApp, q_app2, q_ns, q_knsv, q_knst, q_par, q_kpar1, q_kpvv, q_kpvt, q_kptv, q_kptt, q_put2, q_sl, q_ksl1, q_ksl2, q_ksl3, q_sl4, q_ono, q_osome, q_kO, q_for, q_iseq, q_kseqT, q_kseqL, q_kseqS, q_isIo, q_ioV, q_ioE, q_ioO, q_nmG, q_frzS, q_frzV, q_frzT, q_fzSV, q_fzSO, q_kfzs, q_fzP, q_knss, q_nsP, q_came, q_cameO, q_cameX, q_cameF, q_cameW, q_mask, q_maskV, q_maskO, q_lenT, q_lenL, q_lenS, q_gLt, q_gLe, q_gGt, q_gGe, q_gInt, q_gAdd, q_gSub, q_gNeg, q_rR1, q_rR2, q_rs1, q_rs2, startE, finS, outs, outS, agSls, agSl, ios, callC, resC, isHeld, gIsi, D.seq?, tru, q_bok, q_sok, q_bexc, q_sxc, q_bstk, q_sstk, List.length_cons, List.length_nil, List.getElem?_cons_zero, List.getElem?_cons_succ, List.append_nil, List.replicate, Option.map_some, Option.map_none, List.mapIdx_cons, List.mapIdx_nil, Nat.sub_self, List.cons_append, List.nil_append, Bool.not_false, Bool.not_true, List.set_cons_zero, List.set_cons_succ, Bool.false_eq_true, if_true, if_false, reduceIte, decide_true, Nat.zero_add, Nat.reduceAdd, Nat.reduceSub, Nat.reduceBEq, beq_self_eq_true, List.nodup_nil, List.length_map, List.map_cons, List.map_nil, eq_self, ite_true, ite_false, w1, w2, w3]) (fun d _ _ => rfl) (by omega)
  have ge := gNe_ones (es.filter fun _ => false)
  have fn : decide (es.filter (fun _ => false) = []) = true := decide_eq_true (List.filter_eq_nil_iff.mpr fun _ _ => by simp)
  rw [fn] at ge
  have f0 : fits 0 = true := by decide
  simp only [q_seq, q_nx, q_rt, q_bk, q_exc, q_nil, q_ret, q_kret, q_retN, q_if, q_ift, q_iff, q_expr, q_kexpr, q_sexc, q_set, q_ksetv, q_ksett, q_c, q_v, q_vv, q_vo, q_vi, q_fz, q_kfzv, q_kfzt, q_op, q_op1, q_op2, q_opE, q_lv, q_lt, q_ls, q_slo, q_sli, q_slv, q_fzl, q_oWs, q_un, q_kun, q_unE, q_and, q_or, q_not, q_thenB, q_andt, q_andf, q_ort, q_orf, q_knot, q_fB, q_kB, q_tru, q_ktru, q_truB, q_bnot, q_kbnot, q_band, q_bor, q_bandt, q_bandf, q_bort, q_borf, q_vif, q_vift, q_viff, q_anil, q_acons, q_kcons1, q_kcons2, q_tup, q_lst, q_ktup, q_klst, q_gnil, q_gval, q_kval1, q_kval2, q_gio, q_kio, q_call, q_finv, q_fint, q_finn, q_fine, q_fins, q_kcall, q_held, q_slHo, q_slHi, q_setL, q_slSo, q_slSi, q_setIx, q_kSetIx, q_setIx1, q_kSetIx2, q_setIx2, q_setIx3, q_app, q_app1, q_kApp, q_app2, q_ns, q_knsv, q_knst, q_par, q_kpar1, q_kpvv, q_kpvt, q_kptv, q_kptt, q_put2, q_sl, q_ksl1, q_ksl2, q_ksl3, q_sl4, q_ono, q_osome, q_kO, q_for, q_iseq, q_kseqT, q_kseqL, q_kseqS, q_isIo, q_ioV, q_ioE, q_ioO, q_nmG, q_frzS, q_frzV, q_frzT, q_fzSV, q_fzSO, q_kfzs, q_fzP, q_knss, q_nsP, q_came, q_cameO, q_cameX, q_cameF, q_cameW, q_mask, q_maskV, q_maskO, q_lenT, q_lenL, q_lenS, q_gLt, q_gLe, q_gGt, q_gGe, q_gInt, q_gAdd, q_gSub, q_gNeg, q_rR1, q_rR2, q_rs1, q_rs2, startE, finS, outs, outS, agSls, agSl, ios, callC, resC, isHeld, gIsi, D.seq?, tru, q_bok, q_sok, q_bexc, q_sxc, q_bstk, q_sstk, List.length_cons, List.length_nil, List.getElem?_cons_zero, List.getElem?_cons_succ, List.append_nil, List.replicate, Option.map_some, Option.map_none, List.mapIdx_cons, List.mapIdx_nil, Nat.sub_self, List.cons_append, List.nil_append, Bool.not_false, Bool.not_true, List.set_cons_zero, List.set_cons_succ, Bool.false_eq_true, if_true, if_false, reduceIte, decide_true, Nat.zero_add, Nat.reduceAdd, Nat.reduceSub, Nat.reduceBEq, beq_self_eq_true, List.nodup_nil, List.length_map, List.map_cons, List.map_nil, eq_self, ite_true, ite_false, hlc, f0, ge]
theorem six {mins : List Int} {B : List (List WK)} (hB : BookOk mins B) {r0 : List WK} {B' : List (List WK)} (hc : B = r0 :: B') : ∀ e ∈ [bookD B, .lst (B.map recD), .tup ((B.map recD).take 1), .tup (B.map recD ++ [.tup []]), .tup (B.map recD ++ B.map recD), .tup ([.tup (r0.map wayD ++ (r0.map wayD).take 1)] ++ (B.map recD).drop 1)], nl 100 10 e = true := by
  have h := nl_book hB
  obtain ⟨h1, h2⟩ := nl_tup' h
  have up : ∀ n d, n ≤ 9 → nl 3 n d = true → nl 100 9 d = true := fun n d hn z => nl_mono (by omega) hn z
  have hr : RecOk mins B.length r0 := hB.2.2.2 r0 (by rw [hc]; simp)
  obtain ⟨h3, h4⟩ := nl_tup' (nl_rec hr)
  rw [List.length_map] at h3
  simp only [List.forall_mem_cons]
  refine ⟨nl_mono (by omega) (by omega) h, nl_mono (by omega) (by omega) (nl_lst h), nl_tup (by rw [List.length_take]; omega) fun d hd => up 4 d (by omega) (h2 d (List.mem_of_mem_take hd)), nl_tup ?_ fun d hd => ?_, nl_tup ?_ fun d hd => ?_, nl_tup ?_ fun d hd => ?_, fun d hd => (by cases hd)⟩
  · simp only [List.length_append, List.length_cons, List.length_nil]; omega
  · rcases List.mem_append.mp hd with z | z
    · exact up 4 d (by omega) (h2 d z)
    · rw [List.mem_singleton.mp z]; rfl
  · simp only [List.length_append]; omega
  · rcases List.mem_append.mp hd with z | z
    · exact up 4 d (by omega) (h2 d z)
    · exact up 4 d (by omega) (h2 d z)
  · simp only [List.length_append, List.length_cons, List.length_nil, List.length_drop]; omega
  · rcases List.mem_append.mp hd with z | z
    · rw [List.mem_singleton.mp z]
      refine nl_tup (by simp only [List.length_append, List.length_take, List.length_map]; omega) fun d hd => ?_
      rcases List.mem_append.mp hd with z | z
      · exact nl_mono (by omega) (by omega) (h4 d z)
      · exact nl_mono (by omega) (by omega) (h4 d (List.mem_of_mem_take z))
    · exact up 4 d (by omega) (h2 d (List.mem_of_mem_drop z))
theorem law_turn {ns : List Int} {i : Nat} {s1 s2 s3 s4 s5 s6 s7 s8 s9 s10 s11 s12 : Sl} (hi : i ≤ 63) (hz : ∀ z ∈ ns, Builtin.Int.intBits z ≤ 1048576) (f1 : s1.fr) (f2 : s2.fr) (f3 : s3.fr) (f4 : s4.fr) (f5 : s5.fr) (f6 : s6.fr) (f7 : s7.fr) (f8 : s8.fr) (f9 : s9.fr) (f10 : s10.fr) (f11 : s11.fr) (f12 : s12.fr) :
    nmG 1 (.int i) (lwE (.val (.scr (ns.map .int))) s1 s2 s3 s4 s5 s6 s7 s8 s9 s10 s11 s12) = some (lwE (.val (.scr (ns.map .int))) (.val (.int i)) s2 s3 s4 s5 s6 s7 s8 s9 s10 s11 s12) ∧
    ∃ t1 t2 t3 t4 t5 t6 t7 t8 t9 t10 t11 t12 : Sl, t1.fr ∧ t2.fr ∧ t3.fr ∧ t4.fr ∧ t5.fr ∧ t6.fr ∧ t7.fr ∧ t8.fr ∧ t9.fr ∧ t10.fr ∧ t11.fr ∧ t12.fr ∧ lw_f5 (lwE (.val (.scr (ns.map .int))) (.val (.int i)) s2 s3 s4 s5 s6 s7 s8 s9 s10 s11 s12) = .nx (lwE (.val (.scr (ns.map .int))) t1 t2 t3 t4 t5 t6 t7 t8 t9 t10 t11 t12) := by
  have f1 : ioO (some s1) = false := f1
  have f2 : ioO (some s2) = false := f2
  have f3 : ioO (some s3) = false := f3
  have f4 : ioO (some s4) = false := f4
  refine ⟨by simp only [q_seq, q_nx, q_rt, q_bk, q_exc, q_nil, q_ret, q_kret, q_retN, q_if, q_ift, q_iff, q_expr, q_kexpr, q_sexc, q_set, q_ksetv, q_ksett, q_c, q_v, q_vv, q_vo, q_vi, q_fz, q_kfzv, q_kfzt, q_op, q_op1, q_op2, q_opE, q_lv, q_lt, q_ls, q_slo, q_sli, q_slv, q_fzl, q_oWs, q_un, q_kun, q_unE, q_and, q_or, q_not, q_thenB, q_andt, q_andf, q_ort, q_orf, q_knot, q_fB, q_kB, q_tru, q_ktru, q_truB, q_bnot, q_kbnot, q_band, q_bor, q_bandt, q_bandf, q_bort, q_borf, q_vif, q_vift, q_viff, q_anil, q_acons, q_kcons1, q_kcons2, q_tup, q_lst, q_ktup, q_klst, q_gnil, q_gval, q_kval1, q_kval2, q_gio, q_kio, q_call, q_finv, q_fint, q_finn, q_fine, q_fins, q_kcall, q_held, q_slHo, q_slHi, q_setL, q_slSo, q_slSi, q_setIx, q_kSetIx, q_setIx1, q_kSetIx2, q_setIx2, q_setIx3, q_app, q_app1, q_kApp, q_app2, q_ns, q_knsv, q_knst, q_par, q_kpar1, q_kpvv, q_kpvt, q_kptv, q_kptt, q_put2, q_sl, q_ksl1, q_ksl2, q_ksl3, q_sl4, q_ono, q_osome, q_kO, q_for, q_iseq, q_kseqT, q_kseqL, q_kseqS, q_isIo, q_ioV, q_ioE, q_ioO, q_nmG, q_frzS, q_frzV, q_frzT, q_fzSV, q_fzSO, q_kfzs, q_fzP, q_knss, q_nsP, q_came, q_cameO, q_cameX, q_cameF, q_cameW, q_mask, q_maskV, q_maskO, q_lenT, q_lenL, q_lenS, q_gLt, q_gLe, q_gGt, q_gGe, q_gInt, q_gAdd, q_gSub, q_gNeg, q_rR1, q_rR2, q_rs1, q_rs2, startE, finS, outs, outS, agSls, agSl, ios, callC, resC, isHeld, gIsi, D.seq?, tru, q_bok, q_sok, q_bexc, q_sxc, q_bstk, q_sstk, List.length_cons, List.length_nil, List.getElem?_cons_zero, List.getElem?_cons_succ, List.append_nil, List.replicate, Option.map_some, Option.map_none, List.mapIdx_cons, List.mapIdx_nil, Nat.sub_self, List.cons_append, List.nil_append, Bool.not_false, Bool.not_true, List.set_cons_zero, List.set_cons_succ, Bool.false_eq_true, if_true, if_false, reduceIte, decide_true, Nat.zero_add, Nat.reduceAdd, Nat.reduceSub, Nat.reduceBEq, beq_self_eq_true, List.nodup_nil, List.length_map, List.map_cons, List.map_nil, eq_self, ite_true, ite_false, f1], ?_⟩
  obtain ⟨a, b, hs, e1⟩ := m_spring ns i hi hz
  obtain ⟨a1, b1, B, mins, hs1, hB, hlen, e2⟩ := m_book a b 3 hs (by omega) (by omega)
  obtain ⟨r0, B', hc⟩ : ∃ r0 B', B = r0 :: B' := by
    cases B with
    | nil => exact absurd hB.2.1 (by decide)
    | cons r0 B' => exact ⟨r0, B', rfl⟩
  have bl3 := hB.2.2.1
  have bl1 := hB.2.1
  have R0 : RecOk mins B.length r0 := hB.2.2.2 r0 (by rw [hc]; simp)
  have rl3 := R0.2.1
  have hds : (B.map recD)[0]? = some (.tup (r0.map wayD)) := by rw [hc]; rfl
  have g1 : gIx (bookD B) (.int 0) = some (.val (recD r0)) := gIx_tup (i := 0) hds
  have c1 : gSl (bookD B) none (some 1) = some (.val (.tup ((B.map recD).take 1))) := gSl_lo (i := 1) (by rw [List.length_map]; omega)
  have c2 : gSl (bookD B) (some 1) none = some (.val (.tup ((B.map recD).drop 1))) := gSl_hi (i := 1) (by rw [List.length_map]; omega)
  have c3 : gSl (recD r0) none (some 1) = some (.val (.tup ((r0.map wayD).take 1))) := gSl_lo (i := 1) (by rw [List.length_map]; exact R0.1)
  have gl : gList (bookD B) = some (.tmp (.lst (B.map recD))) := rfl
  have ga1 : gAdd (bookD B) (.tup [.tup []]) = some (.val (.tup (B.map recD ++ [.tup []]))) := gAdd_tup' (by rw [List.length_map]; simp; omega)
  have gm : gMul (bookD B) (.int 2) = some (.val (.tup (B.map recD ++ B.map recD))) := by
    show (if !(B.map recD).isEmpty && (decide ((2:Int) ≤ 2) && (decide ((2:Int) ≤ 1000) && decide ((B.map recD).length ≤ 1000))) then some (Wv.val (.tup (List.replicate (2 : Int).toNat (B.map recD)).flatten)) else none) = _
    rw [List.length_map, decide_eq_true (show B.length ≤ 1000 by omega)]
    have : (B.map recD).isEmpty = false := by rw [hc]; rfl
    rw [this]
    show some (Wv.val (D.tup (B.map recD ++ (B.map recD ++ [])))) = _
    rw [List.append_nil]
  have ga2 : gAdd (recD r0) (.tup ((r0.map wayD).take 1)) = some (.val (.tup (r0.map wayD ++ (r0.map wayD).take 1))) := gAdd_tup' (by simp only [List.length_take, List.length_map]; omega)
  have ga3 := gAdd_tup' (xs := [.tup (r0.map wayD ++ (r0.map wayD).take 1)]) (ys := (B.map recD).drop 1) (by simp only [List.length_cons, List.length_nil, List.length_drop, List.length_map]; omega)
  have hsix := six hB hc
  generalize h6 : D.tup ([.tup (r0.map wayD ++ (r0.map wayD).take 1)] ++ (B.map recD).drop 1) = d6 at ga3 hsix
  obtain ⟨a2, b2, es, hs2, hes, les, e3⟩ := bents (s0 := .val (.scr (ns.map .int))) (s1 := .val (.int i)) (s4 := .own (.lst [bookD B, .lst (B.map recD), .tup ((B.map recD).take 1), .tup (B.map recD ++ [.tup []]), .tup (B.map recD ++ B.map recD), d6])) (s5 := s5) (s6 := s6) (s7 := s7) (s8 := s8) (s9 := s9) (s10 := s10) (s11 := s11) (s12 := s12) hB hs1
  generalize hall : [bookD B, .lst (B.map recD), .tup ((B.map recD).take 1), .tup (B.map recD ++ [.tup []]), .tup (B.map recD ++ B.map recD), d6] ++ es = all
  have ga4 : gAdd (.lst [bookD B, .lst (B.map recD), .tup ((B.map recD).take 1), .tup (B.map recD ++ [.tup []]), .tup (B.map recD ++ B.map recD), d6]) (.lst es) = some (.tmp (.lst all)) := by
    rw [← hall]
    exact if_pos (fits_of (by simp only [List.length_cons, List.length_nil]; omega))
  have e4 := check (es := all) (s0 := .val (.scr (ns.map .int))) (s1 := .val (.int i)) (s2 := .own (spr a2 b2)) (s3 := .val (bookD B)) (s5 := s5) (s6 := s6) (s7 := s7) (s8 := s8) (s9 := s9) (s10 := s10) (s11 := s11) (s12 := s12) (fun e he => by
    rw [← hall] at he
    rcases List.mem_append.mp he with z | z
    · exact hsix e z
    · exact hes e z) (by rw [← hall]; simp; omega)
  -- the recipes
  obtain ⟨ρ', e5, _, t5, t6, t7, t8, t9, t10, t11, t12, q5, q6, q7, q8, q9, q10, q11, q12, rfl⟩ := forL_nx (g := nmG 5) (b := lw_f3) (fun ds ρ => (∀ d ∈ ds, d ∈ rng 0 B.length) ∧ ∃ s5 s6 s7 s8 s9 s10 s11 s12 : Sl, s5.fr ∧ s6.fr ∧ s7.fr ∧ s8.fr ∧ s9.fr ∧ s10.fr ∧ s11.fr ∧ s12.fr ∧ ρ = lwE (.val (.scr (ns.map .int))) (.val (.int i)) (.own (spr a2 b2)) (.val (bookD B)) (.val (.lst all)) s5 s6 s7 s8 s9 s10 s11 s12)
    (fun d ds ρ ⟨h, s5, s6, s7, s8, s9, s10, s11, s12, f5, f6, f7, f8, f9, f10, f11, f12, e⟩ => by
      subst e
      obtain ⟨j, hj, rfl⟩ := rng_nat _ d (h d List.mem_cons_self)
      obtain ⟨c1, s7', s8', s9', s10', s11', s12', g7, g8, g9, g10, g11, g12, c2⟩ := rec_turn (s0 := .val (.scr (ns.map .int))) (s1 := .val (.int i)) (s2 := .own (spr a2 b2)) (s4 := .val (.lst all)) hB (List.getElem?_eq_getElem hj) f5 f6 f7 f8 f9 f10 f11 f12
      exact ⟨_, _, c1, c2, fun x hx => h x (List.mem_cons_of_mem _ hx), _, _, s7', s8', s9', s10', s11', s12', fr_v, fr_v, g7, g8, g9, g10, g11, g12, rfl⟩) (rng 0 B.length) _ ⟨fun d hd => hd, s5, s6, s7, s8, s9, s10, s11, s12, f5, f6, f7, f8, f9, f10, f11, f12, rfl⟩
  obtain ⟨t12', g12, e6⟩ := odds_loop2 (s0 := .val (.scr (ns.map .int))) (s1 := .val (.int i)) (s2 := .own (spr a2 b2)) (s4 := .val (.lst all)) (s5 := t5) (s6 := t6) (s7 := t7) (s8 := t8) (s9 := t9) (s10 := t10) (s11 := t11) hB q12
  rw [odd5] at e6
  refine ⟨.val (.int i), .own (spr a2 b2), .val (bookD B), .val (.lst all), t5, t6, t7, t8, t9, t10, t11, t12', fr_v, (show Sl.fr (.own (spr a2 b2)) from rfl), fr_v, fr_v, q5, q6, q7, q8, q9, q10, q11, g12, ?_⟩
  have er : ∀ ρ : En, rOk ρ (B.length : Nat) = .ok ρ (rng 0 B.length) := fun ρ => rOk_nat (by omega)
  have glb : gLen (bookD B) = some (.val (.int (B.length : Nat))) := by show some (Wv.val (.int ((B.map recD).length : Nat))) = _; rw [List.length_map]
  have k0 : fits 0 = true := by decide
  have k1 : fits 1 = true := by decide
  have k5 : fits 5 = true := by decide
  have k6 : fits 6 = true := by decide
  have pA : ∀ g : Sv, (sSeq (sSet 2 (fCall 2 FF__law_spring (gVal (fFz (fV 0)) (gVal (fFz (fV 1)) DL.gNil)))) (sSeq (sSet 3 (fCall 2 FF__law_book (gIo 2 (gVal (fFz (fC (.int 3))) DL.gNil)))) (sSeq (sSet 4 (fLst (aCons (fFz (fV 3)) (aCons (fFz (fUn gList (fV 3))) (aCons (fFz (fSl (fV 3) oNo (oSome (fC (.int 1))))) (aCons (fFz (fOp gAdd (fV 3) (fTup (aCons (fFz (fTup aNil)) aNil)))) (aCons (fFz (fOp gMul (fV 3) (fC (.int 2)))) aNil))))))) (sSeq (sExpr (fApp 4 (fFz (fOp gAdd (fTup (aCons (fFz (fOp gAdd (fOp gIx (fV 3) (fC (.int 0))) (fSl (fOp gIx (fV 3) (fC (.int 0))) oNo (oSome (fC (.int 1)))))) aNil)) (fSl (fV 3) (oSome (fC (.int 1))) oNo))))) (sSeq (sSet 4 (fOp gAdd (fV 4) (fLc (iR1 (aCons (fFz (fC (.int 40))) aNil)) [13] (nmG 13) bYes (fFz (fCall 2 (FF__law_bent 8) (gIo 2 (gVal (fFz (fV 3)) DL.gNil))))))) g))))) (lwE (.val (.scr (ns.map .int))) (.val (.int i)) s2 s3 s4 s5 s6 s7 s8 s9 s10 s11 s12) = g (lwE (.val (.scr (ns.map .int))) (.val (.int i)) (.own (spr a2 b2)) (.val (bookD B)) (.own (.lst all)) s5 s6 s7 s8 s9 s10 s11 s12) := fun g => by
    simp only [q_seq, q_nx, q_rt, q_bk, q_exc, q_nil, q_ret, q_kret, q_retN, q_if, q_ift, q_iff, q_expr, q_kexpr, q_sexc, q_set, q_ksetv, q_ksett, q_c, q_v, q_vv, q_vo, q_vi, q_fz, q_kfzv, q_kfzt, q_op, q_op1, q_op2, q_opE, q_lv, q_lt, q_ls, q_slo, q_sli, q_slv, q_fzl, q_oWs, q_un, q_kun, q_unE, q_and, q_or, q_not, q_thenB, q_andt, q_andf, q_ort, q_orf, q_knot, q_fB, q_kB, q_tru, q_ktru, q_truB, q_bnot, q_kbnot, q_band, q_bor, q_bandt, q_bandf, q_bort, q_borf, q_vif, q_vift, q_viff, q_anil, q_acons, q_kcons1, q_kcons2, q_tup, q_lst, q_ktup, q_klst, q_gnil, q_gval, q_kval1, q_kval2, q_gio, q_kio, q_call, q_finv, q_fint, q_finn, q_fine, q_fins, q_kcall, q_held, q_slHo, q_slHi, q_setL, q_slSo, q_slSi, q_setIx, q_kSetIx, q_setIx1, q_kSetIx2, q_setIx2, q_setIx3, q_app, q_app1, q_kApp, q_app2, q_ns, q_knsv, q_knst, q_par, q_kpar1, q_kpvv, q_kpvt, q_kptv, q_kptt, q_put2, q_sl, q_ksl1, q_ksl2, q_ksl3, q_sl4, q_ono, q_osome, q_kO, q_for, q_iseq, q_kseqT, q_kseqL, q_kseqS, q_isIo, q_ioV, q_ioE, q_ioO, q_nmG, q_frzS, q_frzV, q_frzT, q_fzSV, q_fzSO, q_kfzs, q_fzP, q_knss, q_nsP, q_came, q_cameO, q_cameX, q_cameF, q_cameW, q_mask, q_maskV, q_maskO, q_lenT, q_lenL, q_lenS, q_gLt, q_gLe, q_gGt, q_gGe, q_gInt, q_gAdd, q_gSub, q_gNeg, q_rR1, q_rR2, q_rs1, q_rs2, startE, finS, outs, outS, agSls, agSl, ios, callC, resC, isHeld, gIsi, D.seq?, tru, q_bok, q_sok, q_bexc, q_sxc, q_bstk, q_sstk, List.length_cons, List.length_nil, List.getElem?_cons_zero, List.getElem?_cons_succ, List.append_nil, List.replicate, Option.map_some, Option.map_none, List.mapIdx_cons, List.mapIdx_nil, Nat.sub_self, List.cons_append, List.nil_append, Bool.not_false, Bool.not_true, List.set_cons_zero, List.set_cons_succ, Bool.false_eq_true, if_true, if_false, reduceIte, decide_true, Nat.zero_add, Nat.reduceAdd, Nat.reduceSub, Nat.reduceBEq, beq_self_eq_true, List.nodup_nil, List.length_map, List.map_cons, List.map_nil, eq_self, ite_true, ite_false, e1, e2, g1, c1, c2, c3, gl, ga1, gm, ga2, ga3, e3, ga4, f2, f3, f4, k0, k1, k5, k6, nodup1, io2 io_v, Sl.putC]
  unfold lw_f5
  rw [pA, q_seq, e4, q_nx]
  simp only [q_seq, q_nx, q_rt, q_bk, q_exc, q_nil, q_ret, q_kret, q_retN, q_if, q_ift, q_iff, q_expr, q_kexpr, q_sexc, q_set, q_ksetv, q_ksett, q_c, q_v, q_vv, q_vo, q_vi, q_fz, q_kfzv, q_kfzt, q_op, q_op1, q_op2, q_opE, q_lv, q_lt, q_ls, q_slo, q_sli, q_slv, q_fzl, q_oWs, q_un, q_kun, q_unE, q_and, q_or, q_not, q_thenB, q_andt, q_andf, q_ort, q_orf, q_knot, q_fB, q_kB, q_tru, q_ktru, q_truB, q_bnot, q_kbnot, q_band, q_bor, q_bandt, q_bandf, q_bort, q_borf, q_vif, q_vift, q_viff, q_anil, q_acons, q_kcons1, q_kcons2, q_tup, q_lst, q_ktup, q_klst, q_gnil, q_gval, q_kval1, q_kval2, q_gio, q_kio, q_call, q_finv, q_fint, q_finn, q_fine, q_fins, q_kcall, q_held, q_slHo, q_slHi, q_setL, q_slSo, q_slSi, q_setIx, q_kSetIx, q_setIx1, q_kSetIx2, q_setIx2, q_setIx3, q_app, q_app1, q_kApp, q_app2, q_ns, q_knsv, q_knst, q_par, q_kpar1, q_kpvv, q_kpvt, q_kptv, q_kptt, q_put2, q_sl, q_ksl1, q_ksl2, q_ksl3, q_sl4, q_ono, q_osome, q_kO, q_for, q_iseq, q_kseqT, q_kseqL, q_kseqS, q_isIo, q_ioV, q_ioE, q_ioO, q_nmG, q_frzS, q_frzV, q_frzT, q_fzSV, q_fzSO, q_kfzs, q_fzP, q_knss, q_nsP, q_came, q_cameO, q_cameX, q_cameF, q_cameW, q_mask, q_maskV, q_maskO, q_lenT, q_lenL, q_lenS, q_gLt, q_gLe, q_gGt, q_gGe, q_gInt, q_gAdd, q_gSub, q_gNeg, q_rR1, q_rR2, q_rs1, q_rs2, startE, finS, outs, outS, agSls, agSl, ios, callC, resC, isHeld, gIsi, D.seq?, tru, q_bok, q_sok, q_bexc, q_sxc, q_bstk, q_sstk, List.length_cons, List.length_nil, List.getElem?_cons_zero, List.getElem?_cons_succ, List.append_nil, List.replicate, Option.map_some, Option.map_none, List.mapIdx_cons, List.mapIdx_nil, Nat.sub_self, List.cons_append, List.nil_append, Bool.not_false, Bool.not_true, List.set_cons_zero, List.set_cons_succ, Bool.false_eq_true, if_true, if_false, reduceIte, decide_true, Nat.zero_add, Nat.reduceAdd, Nat.reduceSub, Nat.reduceBEq, beq_self_eq_true, List.nodup_nil, List.length_map, List.map_cons, List.map_nil, eq_self, ite_true, ite_false, glb, er, kFor, e5, k5, e6]
end K01
namespace K01
open PySem PySem.Spec
open PyProof.Rows hiding St
open L2 DL
theorem law_holds (ns : List Int) (hl : ns.length ≤ 63) (hz : ∀ z ∈ ns, Builtin.Int.intBits z ≤ 1048576) : ∃ ρ', ev_law DL.wd (startE 15 [.val (.scr (ns.map .int))]) = .rt ρ' (.val (.bl true)) := by
  have gm : gMin (.int (ns.length : Nat)) (.int 8) = some (.val (.int (if (8:Int) < (ns.length : Nat) then 8 else (ns.length : Nat)))) := rfl
  generalize hk : (if (8:Int) < (ns.length : Nat) then (8:Int) else (ns.length : Nat)) = k at gm
  have k0 : 0 ≤ k ∧ k ≤ 8 := by rw [← hk]; split <;> omega
  have er : ∀ ρ : En, rOk ρ (k + 1) = .ok ρ (rng 0 (k + 1).toNat) := fun ρ => rOk_int (by omega) (by omega)
  obtain ⟨ρ', e, _, s1, s2, s3, s4, s5, s6, s7, s8, s9, s10, s11, s12, q⟩ := forL_nx (g := nmG 1) (b := lw_f5) (fun ds ρ => (∀ d ∈ ds, d ∈ rng 0 (k + 1).toNat) ∧ ∃ s1 s2 s3 s4 s5 s6 s7 s8 s9 s10 s11 s12 : Sl, s1.fr ∧ s2.fr ∧ s3.fr ∧ s4.fr ∧ s5.fr ∧ s6.fr ∧ s7.fr ∧ s8.fr ∧ s9.fr ∧ s10.fr ∧ s11.fr ∧ s12.fr ∧ ρ = lwE (.val (.scr (ns.map .int))) s1 s2 s3 s4 s5 s6 s7 s8 s9 s10 s11 s12)
    (fun d ds ρ ⟨h, s1, s2, s3, s4, s5, s6, s7, s8, s9, s10, s11, s12, f1, f2, f3, f4, f5, f6, f7, f8, f9, f10, f11, f12, e⟩ => by
      subst e
      obtain ⟨j, hj, rfl⟩ := rng_nat _ d (h d List.mem_cons_self)
      obtain ⟨c1, t1, t2, t3, t4, t5, t6, t7, t8, t9, t10, t11, t12, g1, g2, g3, g4, g5, g6, g7, g8, g9, g10, g11, g12, c2⟩ := law_turn (ns := ns) (i := j) (by omega) hz f1 f2 f3 f4 f5 f6 f7 f8 f9 f10 f11 f12
      exact ⟨_, _, c1, c2, fun x hx => h x (List.mem_cons_of_mem _ hx), t1, t2, t3, t4, t5, t6, t7, t8, t9, t10, t11, t12, g1, g2, g3, g4, g5, g6, g7, g8, g9, g10, g11, g12, rfl⟩) (rng 0 (k + 1).toNat) (lwE (.val (.scr (ns.map .int))) .emp .emp .emp .emp .emp .emp .emp .emp .emp .emp .emp .emp) ⟨fun d hd => hd, .emp, .emp, .emp, .emp, .emp, .emp, .emp, .emp, .emp, .emp, .emp, .emp, fr_e, fr_e, fr_e, fr_e, fr_e, fr_e, fr_e, fr_e, fr_e, fr_e, fr_e, fr_e, rfl⟩
  have e : forL (nmG 1) lw_f5 (rng 0 (k + 1).toNat) [.val (.scr (ns.map .int)), .emp, .emp, .emp, .emp, .emp, .emp, .emp, .emp, .emp, .emp, .emp, .emp, .emp, .emp] = _ := e
  refine ⟨ρ', ?_⟩
  rw [lw_eq]
  simp only [q_seq, q_nx, q_rt, q_bk, q_exc, q_nil, q_ret, q_kret, q_retN, q_if, q_ift, q_iff, q_expr, q_kexpr, q_sexc, q_set, q_ksetv, q_ksett, q_c, q_v, q_vv, q_vo, q_vi, q_fz, q_kfzv, q_kfzt, q_op, q_op1, q_op2, q_opE, q_lv, q_lt, q_ls, q_slo, q_sli, q_slv, q_fzl, q_oWs, q_un, q_kun, q_unE, q_and, q_or, q_not, q_thenB, q_andt, q_andf, q_ort, q_orf, q_knot, q_fB, q_kB, q_tru, q_ktru, q_truB, q_bnot, q_kbnot, q_band, q_bor, q_bandt, q_bandf, q_bort, q_borf, q_vif, q_vift, q_viff, q_anil, q_acons, q_kcons1, q_kcons2, q_tup, q_lst, q_ktup, q_klst, q_gnil, q_gval, q_kval1, q_kval2, q_gio, q_kio, q_call, q_finv, q_fint, q_finn, q_fine, q_fins, q_kcall, q_held, q_slHo, q_slHi, q_setL, q_slSo, q_slSi, q_setIx, q_kSetIx, q_setIx1, q_kSetIx2, q_setIx2, q_setIx3, q_app, q_app1, q_kApp, q_app2, q_ns, q_knsv, q_knst, q_par, q_kpar1, q_kpvv, q_kpvt, q_kptv, q_kptt, q_put2, q_sl, q_ksl1, q_ksl2, q_ksl3, q_sl4, q_ono, q_osome, q_kO, q_for, q_iseq, q_kseqT, q_kseqL, q_kseqS, q_isIo, q_ioV, q_ioE, q_ioO, q_nmG, q_frzS, q_frzV, q_frzT, q_fzSV, q_fzSO, q_kfzs, q_fzP, q_knss, q_nsP, q_came, q_cameO, q_cameX, q_cameF, q_cameW, q_mask, q_maskV, q_maskO, q_lenT, q_lenL, q_lenS, q_gLt, q_gLe, q_gGt, q_gGe, q_gInt, q_gAdd, q_gSub, q_gNeg, q_rR1, q_rR2, q_rs1, q_rs2, startE, finS, outs, outS, agSls, agSl, ios, callC, resC, isHeld, gIsi, D.seq?, tru, q_bok, q_sok, q_bexc, q_sxc, q_bstk, q_sstk, List.length_cons, List.length_nil, List.getElem?_cons_zero, List.getElem?_cons_succ, List.append_nil, List.replicate, Option.map_some, Option.map_none, List.mapIdx_cons, List.mapIdx_nil, Nat.sub_self, List.cons_append, List.nil_append, Bool.not_false, Bool.not_true, List.set_cons_zero, List.set_cons_succ, Bool.false_eq_true, if_true, if_false, reduceIte, decide_true, Nat.zero_add, Nat.reduceAdd, Nat.reduceSub, Nat.reduceBEq, beq_self_eq_true, List.nodup_nil, List.length_map, List.map_cons, List.map_nil, eq_self, ite_true, ite_false, gm, er, kFor, e]
end K01
namespace K01
open PySem PySem.Spec
open PyProof.Rows hiding St
open L2 DL
theorem isE_ok {x1 : Addr} {b : Bool} {r : En} : fIsE x1 0 b (.val (.opq (.ref x1)) :: r) = .ok (.val (.opq (.ref x1)) :: r) (.val (.bl b)) := if_pos rfl
theorem err_end {x1 : Addr} (b1 b2 b3 b4 b5 b6 b7 b8 : Bool) : ev__law_error_of x1 b1 b2 b3 b4 b5 b6 b7 b8 [.val (.opq (.ref x1)), .emp, .emp, .emp] =
    (sSeq (sRet (fM1 gJoin (fC (.str "+")) (fLc (iLst (fFz (fV 1))) [2, 3] (tupG 2 (consG (nmG 2) (consG (nmG 3) nilG))) ((fTru (fV 3))) (fFz (fV 2))))) sNil) [.val (.opq (.ref x1)), .own (.lst [.tup [.str "book", .bl b1], .tup [.str "recipe", .bl b2], .tup [.str "way", .bl b3], .tup [.str "total", .bl b4], .tup [.str "tally", .bl b5], .tup [.str "text", .bl b6], .tup [.str "none", .bl b7], .tup [.str "left", .bl b8]]), .emp, .emp] := by
  have f1 : fits 1 = true := by decide
  have f2 : fits 2 = true := by decide
  have f3 : fits 3 = true := by decide
  have f4 : fits 4 = true := by decide
  have f5 : fits 5 = true := by decide
  have f6 : fits 6 = true := by decide
  have f7 : fits 7 = true := by decide
  have f8 : fits 8 = true := by decide
  unfold ev__law_error_of
  generalize hg : (sSeq (sRet (fM1 gJoin (fC (.str "+")) (fLc (iLst (fFz (fV 1))) [2, 3] (tupG 2 (consG (nmG 2) (consG (nmG 3) nilG))) ((fTru (fV 3))) (fFz (fV 2))))) sNil) = g
  simp only [q_seq, q_nx, q_rt, q_bk, q_exc, q_nil, q_ret, q_kret, q_retN, q_if, q_ift, q_iff, q_expr, q_kexpr, q_sexc, q_set, q_ksetv, q_ksett, q_c, q_v, q_vv, q_vo, q_vi, q_fz, q_kfzv, q_kfzt, q_op, q_op1, q_op2, q_opE, q_lv, q_lt, q_ls, q_slo, q_sli, q_slv, q_fzl, q_oWs, q_un, q_kun, q_unE, q_and, q_or, q_not, q_thenB, q_andt, q_andf, q_ort, q_orf, q_knot, q_fB, q_kB, q_tru, q_ktru, q_truB, q_bnot, q_kbnot, q_band, q_bor, q_bandt, q_bandf, q_bort, q_borf, q_vif, q_vift, q_viff, q_anil, q_acons, q_kcons1, q_kcons2, q_tup, q_lst, q_ktup, q_klst, q_gnil, q_gval, q_kval1, q_kval2, q_gio, q_kio, q_call, q_finv, q_fint, q_finn, q_fine, q_fins, q_kcall, q_held, q_slHo, q_slHi, q_setL, q_slSo, q_slSi, q_setIx, q_kSetIx, q_setIx1, q_kSetIx2, q_setIx2, q_setIx3, q_app, q_app1, q_kApp, q_app2, q_ns, q_knsv, q_knst, q_par, q_kpar1, q_kpvv, q_kpvt, q_kptv, q_kptt, q_put2, q_sl, q_ksl1, q_ksl2, q_ksl3, q_sl4, q_ono, q_osome, q_kO, q_for, q_iseq, q_kseqT, q_kseqL, q_kseqS, q_isIo, q_ioV, q_ioE, q_ioO, q_nmG, q_frzS, q_frzV, q_frzT, q_fzSV, q_fzSO, q_kfzs, q_fzP, q_knss, q_nsP, q_came, q_cameO, q_cameX, q_cameF, q_cameW, q_mask, q_maskV, q_maskO, q_lenT, q_lenL, q_lenS, q_gLt, q_gLe, q_gGt, q_gGe, q_gInt, q_gAdd, q_gSub, q_gNeg, q_rR1, q_rR2, q_rs1, q_rs2, startE, finS, outs, outS, agSls, agSl, ios, callC, resC, isHeld, gIsi, D.seq?, tru, q_bok, q_sok, q_bexc, q_sxc, q_bstk, q_sstk, List.length_cons, List.length_nil, List.getElem?_cons_zero, List.getElem?_cons_succ, List.append_nil, List.replicate, Option.map_some, Option.map_none, List.mapIdx_cons, List.mapIdx_nil, Nat.sub_self, List.cons_append, List.nil_append, Bool.not_false, Bool.not_true, List.set_cons_zero, List.set_cons_succ, Bool.false_eq_true, if_true, if_false, reduceIte, decide_true, Nat.zero_add, Nat.reduceAdd, Nat.reduceSub, Nat.reduceBEq, beq_self_eq_true, List.nodup_nil, List.length_map, List.map_cons, List.map_nil, eq_self, ite_true, ite_false, isE_ok, f1, f2, f3, f4, f5, f6, f7, f8]
theorem err_list {s0 : Sl} (ps : List (D × Bool)) (hl : ps.length ≤ 100) : fLc (iLst (fFz (fV 1))) [2, 3] (tupG 2 (consG (nmG 2) (consG (nmG 3) nilG))) ((fTru (fV 3))) (fFz (fV 2)) [s0, .own (.lst (ps.map fun p => .tup [p.1, .bl p.2])), .emp, .emp] = .ok [s0, .val (.lst (ps.map fun p => .tup [p.1, .bl p.2])), .emp, .emp] (.tmp (.lst ((ps.filter (·.2)).map (·.1)))) := by
  generalize hL : D.lst (ps.map fun p => .tup [p.1, .bl p.2]) = L
  obtain ⟨ρ', acc, ⟨qs, e1, e2, rfl⟩, e⟩ := fLc_by (vs := [2, 3]) (g := tupG 2 (consG (nmG 2) (consG (nmG 3) nilG))) (t := fTru (fV 3)) (fe := fFz (fV 2)) (fi := iLst (fFz (fV 1))) (ρ := [s0, .own (.lst (ps.map fun p => .tup [p.1, .bl p.2])), .emp, .emp]) (ρ1 := [s0, .val L, .emp, .emp]) (ds := ps.map fun p => .tup [p.1, .bl p.2]) (by rw [← hL]; rfl)
    (fun ds acc ρ => ∃ qs : List (D × Bool), ds = qs.map (fun p => .tup [p.1, .bl p.2]) ∧ acc ++ (qs.filter (·.2)).map (·.1) = (ps.filter (·.2)).map (·.1) ∧ ρ = [s0, .val L, .emp, .emp])
    (fun d ds acc ρ ⟨qs, e1, e2, e3⟩ => by
      match qs, e1, e2 with
      | (a, b) :: qs, e1, e2 =>
      have e1 : d :: ds = .tup [a, .bl b] :: qs.map (fun p => .tup [p.1, .bl p.2]) := e1
      cases e1
      subst e3
      refine ⟨[s0, .val L, .val a, .val (.bl b)], [s0, .val L, .val a, .val (.bl b)], b, rfl, rfl, ?_⟩
      cases b with
      | false => exact .inl ⟨rfl, qs, rfl, e2, rfl⟩
      | true =>
        refine .inr ⟨rfl, _, a, rfl, qs, rfl, ?_, rfl⟩
        rw [← e2]; simp) (by rw [List.length_map]; omega) ⟨ps, rfl, rfl, rfl⟩
  have e1 : qs = [] := by cases qs with
    | nil => rfl
    | cons a b => cases e1
  subst e1
  rw [List.filter_nil, List.map_nil, List.append_nil] at e2
  rw [e2] at e
  exact e
theorem err_fin {x1 : Addr} (b1 b2 b3 b4 b5 b6 b7 b8 : Bool) (word : Str) (h : (([(D.str "book", b1), (.str "recipe", b2), (.str "way", b3), (.str "total", b4), (.str "tally", b5), (.str "text", b6), (.str "none", b7), (.str "left", b8)] : List (D × Bool)).filter (·.2)).map (·.1) = [.str word]) (hj : gJoin "+" (.lst [.str word]) = some (.val (.str word))) :
    ∃ ρ', ev__law_error_of x1 b1 b2 b3 b4 b5 b6 b7 b8 [.val (.opq (.ref x1)), .emp, .emp, .emp] = .rt ρ' (.val (.str word)) := by
  have e := err_list (s0 := .val (.opq (.ref x1))) [(D.str "book", b1), (.str "recipe", b2), (.str "way", b3), (.str "total", b4), (.str "tally", b5), (.str "text", b6), (.str "none", b7), (.str "left", b8)] (by simp)
  rw [h] at e
  rw [err_end]
  refine ⟨[.val (.opq (.ref x1)), .val (.lst ([(D.str "book", b1), (.str "recipe", b2), (.str "way", b3), (.str "total", b4), (.str "tally", b5), (.str "text", b6), (.str "none", b7), (.str "left", b8)].map fun p => .tup [p.1, .bl p.2])), .emp, .emp], ?_⟩
  have m : ∀ ρ : En, fM1 gJoin (fC (.str "+")) (fLc (iLst (fFz (fV 1))) [2, 3] (tupG 2 (consG (nmG 2) (consG (nmG 3) nilG))) ((fTru (fV 3))) (fFz (fV 2))) ρ = (fLc (iLst (fFz (fV 1))) [2, 3] (tupG 2 (consG (nmG 2) (consG (nmG 3) nilG))) ((fTru (fV 3))) (fFz (fV 2)) ρ).bind fun ρ2 w2 => (match look ρ2 w2 with
    | some d => oW ρ2 (gJoin "+" d)
    | none => .stk) := fun _ => rfl
  rw [q_seq, q_ret, m]
  have e : fLc (iLst (fFz (fV 1))) [2, 3] (tupG 2 (consG (nmG 2) (consG (nmG 3) nilG))) ((fTru (fV 3))) (fFz (fV 2)) [.val (.opq (.ref x1)), .own (.lst [.tup [.str "book", .bl b1], .tup [.str "recipe", .bl b2], .tup [.str "way", .bl b3], .tup [.str "total", .bl b4], .tup [.str "tally", .bl b5], .tup [.str "text", .bl b6], .tup [.str "none", .bl b7], .tup [.str "left", .bl b8]]), .emp, .emp] = _ := e
  rw [e, q_bok, q_lt, q_fzl]
  simp only []
  rw [hj, q_oWs, q_sok, q_kret, q_rt]
theorem join1 (x : Str) (h : x.length ≤ 1000) : gJoin "+" (.lst [.str x]) = some (.val (.str (Txt.join "+" [x]))) := by
  have h1 : (Str.ofString "+").length = 1 := by decide +kernel
  show (if decide ((([x] : List Str).map (·.length)).sum + ([x] : List Str).length * (Str.ofString "+").length ≤ 16777216) then some (Wv.val (D.str (Txt.join "+" [x]))) else none) = _
  rw [h1, decide_eq_true (by simp; omega)]; rfl
theorem err_word (x1 : Addr) (j : Nat) (hj : j < 8) : ∃ ρ', ev__law_error_of x1 (decide (j = 0)) (decide (j = 1)) (decide (j = 2)) (decide (j = 3)) (decide (j = 4)) (decide (j = 5)) (decide (j = 6)) (decide (j = 7)) [.val (.opq (.ref x1)), .emp, .emp, .emp] = .rt ρ' (.val (.str (DL.words.getD j ""))) := by
  have k : ∀ w ∈ DL.words, w.length ≤ 1000 ∧ Txt.join "+" [w] = w := by decide +kernel
  have jn : ∀ w ∈ DL.words, gJoin "+" (.lst [.str w]) = some (.val (.str w)) := fun w hw => by
    rw [join1 w (k w hw).1, (k w hw).2]
  match j, hj with
  | 0, _ => exact err_fin _ _ _ _ _ _ _ _ _ rfl (jn _ (by simp [DL.words]))
  | 1, _ => exact err_fin _ _ _ _ _ _ _ _ _ rfl (jn _ (by simp [DL.words]))
  | 2, _ => exact err_fin _ _ _ _ _ _ _ _ _ rfl (jn _ (by simp [DL.words]))
  | 3, _ => exact err_fin _ _ _ _ _ _ _ _ _ rfl (jn _ (by simp [DL.words]))
  | 4, _ => exact err_fin _ _ _ _ _ _ _ _ _ rfl (jn _ (by simp [DL.words]))
  | 5, _ => exact err_fin _ _ _ _ _ _ _ _ _ rfl (jn _ (by simp [DL.words]))
  | 6, _ => exact err_fin _ _ _ _ _ _ _ _ _ rfl (jn _ (by simp [DL.words]))
  | 7, _ => exact err_fin _ _ _ _ _ _ _ _ _ rfl (jn _ (by simp [DL.words]))
end K01
set_option Elab.async false
set_option linter.all false
set_option maxRecDepth 100000
set_option maxHeartbeats 0
namespace K01
open PySem PySem.Spec
open PyProof.Rows hiding St
open L2 DL
section
variable {P : Program} {w : World} {K : PySem.W.Frag} {h : Heap} {mg : Str → Option Value}
theorem lk_mem {α β : Type} [BEq α] [LawfulBEq α] {a : α} {b : β} : ∀ {l : List (α × β)}, l.lookup a = some b → (a, b) ∈ l
  | [], h => by cases h
  | (c, d) :: r, h => by
    rw [List.lookup_cons] at h
    split at h
    · rename_i q
      cases h
      rw [beq_iff_eq.mp q]
      exact List.mem_cons_self
    · exact List.mem_cons_of_mem _ (lk_mem h)
theorem wd_at {x word : Str} (h : DL.wd x = some word) : ∃ j, j < 8 ∧ x = errs.getD j "" ∧ word = words.getD j "" := by
  have m := lk_mem h
  simp only [errs, words, List.zip_cons_cons, List.zip_nil_right, List.mem_cons, List.not_mem_nil, or_false, Prod.mk.injEq] at m
  rcases m with m | m | m | m | m | m | m | m
  · exact ⟨0, by decide, m.1, m.2⟩
  · exact ⟨1, by decide, m.1, m.2⟩
  · exact ⟨2, by decide, m.1, m.2⟩
  · exact ⟨3, by decide, m.1, m.2⟩
  · exact ⟨4, by decide, m.1, m.2⟩
  · exact ⟨5, by decide, m.1, m.2⟩
  · exact ⟨6, by decide, m.1, m.2⟩
  · exact ⟨7, by decide, m.1, m.2⟩
theorem glo (X : K.In h) (G : h.Ns mainGlobals mg) (c : He.SaysD HD01.fa HD01.fn K) {x : Str} (hx : (He.Fa.glo x) ∈ HD01.fa) : mg x = some (.ref (He.ga K x)) := He.glo_ok X G (c.facts hx)
theorem bi (X : K.In h) (G : h.Ns mainGlobals mg) (c : He.SaysD HD01.fa HD01.fn K) : Bi mg := ⟨He.free_ok X G (c.fact 35 (f := .free "len") rfl), He.free_ok X G (c.fact 36 (f := .free "isinstance") rfl), He.free_ok X G (c.fact 37 (f := .free "int") rfl), He.free_ok X G (c.fact 38 (f := .free "bool") rfl), He.free_ok X G (c.fact 39 (f := .free "str") rfl), He.free_ok X G (c.fact 40 (f := .free "tuple") rfl), He.free_ok X G (c.fact 41 (f := .free "list") rfl), He.free_ok X G (c.fact 42 (f := .free "set") rfl), He.free_ok X G (c.fact 43 (f := .free "all") rfl), He.free_ok X G (c.fact 44 (f := .free "sorted") rfl), He.free_ok X G (c.fact 45 (f := .free "abs") rfl), He.free_ok X G (c.fact 46 (f := .free "min") rfl), He.free_ok X G (c.fact 47 (f := .free "range") rfl), He.free_ok X G (c.fact 48 (f := .free "zip") rfl), He.free_ok X G (c.fact 49 (f := .free "enumerate") rfl)⟩
theorem d_is_within (X : K.In h) (G : h.Ns mainGlobals mg) (c : He.SaysD HD01.fa HD01.fn K) : Def K mg "is_within" ["value", "low", "high"] s_is_within := by
  obtain ⟨fd, F⟩ := c.def_ 0 (d := HD01.mkD "is_within" s_is_within) rfl
  exact ⟨⟨_, fd, F, He.glo_ok X G (c.fact 0 (f := .glo "is_within") rfl)⟩, fun _ _ _ _ _ _ us hl => match us, hl with | [_, _, _], _ => rfl⟩
theorem d_is_wide (X : K.In h) (G : h.Ns mainGlobals mg) (c : He.SaysD HD01.fa HD01.fn K) : Def K mg "is_wide" ["value", "low", "high"] s_is_wide := by
  obtain ⟨fd, F⟩ := c.def_ 1 (d := HD01.mkD "is_wide" s_is_wide) rfl
  exact ⟨⟨_, fd, F, He.glo_ok X G (c.fact 1 (f := .glo "is_wide") rfl)⟩, fun _ _ _ _ _ _ us hl => match us, hl with | [_, _, _], _ => rfl⟩
theorem d_is_way (X : K.In h) (G : h.Ns mainGlobals mg) (c : He.SaysD HD01.fa HD01.fn K) : Def K mg "is_way" ["value", "many"] s_is_way := by
  obtain ⟨fd, F⟩ := c.def_ 2 (d := HD01.mkD "is_way" s_is_way) rfl
  exact ⟨⟨_, fd, F, He.glo_ok X G (c.fact 2 (f := .glo "is_way") rfl)⟩, fun _ _ _ _ _ _ us hl => match us, hl with | [_, _], _ => rfl⟩
theorem d_is_recipe (X : K.In h) (G : h.Ns mainGlobals mg) (c : He.SaysD HD01.fa HD01.fn K) : Def K mg "is_recipe" ["value", "many"] s_is_recipe := by
  obtain ⟨fd, F⟩ := c.def_ 3 (d := HD01.mkD "is_recipe" s_is_recipe) rfl
  exact ⟨⟨_, fd, F, He.glo_ok X G (c.fact 3 (f := .glo "is_recipe") rfl)⟩, fun _ _ _ _ _ _ us hl => match us, hl with | [_, _], _ => rfl⟩
theorem d_is_fit (X : K.In h) (G : h.Ns mainGlobals mg) (c : He.SaysD HD01.fa HD01.fn K) : Def K mg "is_fit" ["value"] s_is_fit := by
  obtain ⟨fd, F⟩ := c.def_ 4 (d := HD01.mkD "is_fit" s_is_fit) rfl
  exact ⟨⟨_, fd, F, He.glo_ok X G (c.fact 4 (f := .glo "is_fit") rfl)⟩, fun _ _ _ _ _ _ us hl => match us, hl with | [_], _ => rfl⟩
theorem d_look_at_book (X : K.In h) (G : h.Ns mainGlobals mg) (c : He.SaysD HD01.fa HD01.fn K) : Def K mg "look_at_book" ["book"] s_look_at_book := by
  obtain ⟨fd, F⟩ := c.def_ 5 (d := HD01.mkD "look_at_book" s_look_at_book) rfl
  exact ⟨⟨_, fd, F, He.glo_ok X G (c.fact 5 (f := .glo "look_at_book") rfl)⟩, fun _ _ _ _ _ _ us hl => match us, hl with | [_], _ => rfl⟩
theorem d_look_at_lone_recipe (X : K.In h) (G : h.Ns mainGlobals mg) (c : He.SaysD HD01.fa HD01.fn K) : Def K mg "look_at_lone_recipe" ["book", "recipe"] s_look_at_lone_recipe := by
  obtain ⟨fd, F⟩ := c.def_ 6 (d := HD01.mkD "look_at_lone_recipe" s_look_at_lone_recipe) rfl
  exact ⟨⟨_, fd, F, He.glo_ok X G (c.fact 6 (f := .glo "look_at_lone_recipe") rfl)⟩, fun _ _ _ _ _ _ us hl => match us, hl with | [_, _], _ => rfl⟩
theorem d_look_at_way (X : K.In h) (G : h.Ns mainGlobals mg) (c : He.SaysD HD01.fa HD01.fn K) : Def K mg "look_at_way" ["book", "recipe", "way"] s_look_at_way := by
  obtain ⟨fd, F⟩ := c.def_ 7 (d := HD01.mkD "look_at_way" s_look_at_way) rfl
  exact ⟨⟨_, fd, F, He.glo_ok X G (c.fact 7 (f := .glo "look_at_way") rfl)⟩, fun _ _ _ _ _ _ us hl => match us, hl with | [_, _, _], _ => rfl⟩
theorem d_less_by (X : K.In h) (G : h.Ns mainGlobals mg) (c : He.SaysD HD01.fa HD01.fn K) : Def K mg "less_by" ["book", "recipe", "way"] s_less_by := by
  obtain ⟨fd, F⟩ := c.def_ 8 (d := HD01.mkD "less_by" s_less_by) rfl
  exact ⟨⟨_, fd, F, He.glo_ok X G (c.fact 8 (f := .glo "less_by") rfl)⟩, fun _ _ _ _ _ _ us hl => match us, hl with | [_, _, _], _ => rfl⟩
theorem d_look_at_less (X : K.In h) (G : h.Ns mainGlobals mg) (c : He.SaysD HD01.fa HD01.fn K) : Def K mg "look_at_less" ["book", "recipe", "way"] s_look_at_less := by
  obtain ⟨fd, F⟩ := c.def_ 9 (d := HD01.mkD "look_at_less" s_look_at_less) rfl
  exact ⟨⟨_, fd, F, He.glo_ok X G (c.fact 9 (f := .glo "look_at_less") rfl)⟩, fun _ _ _ _ _ _ us hl => match us, hl with | [_, _, _], _ => rfl⟩
theorem d_is_book (X : K.In h) (G : h.Ns mainGlobals mg) (c : He.SaysD HD01.fa HD01.fn K) : Def K mg "is_book" ["value"] s_is_book := by
  obtain ⟨fd, F⟩ := c.def_ 10 (d := HD01.mkD "is_book" s_is_book) rfl
  exact ⟨⟨_, fd, F, He.glo_ok X G (c.fact 10 (f := .glo "is_book") rfl)⟩, fun _ _ _ _ _ _ us hl => match us, hl with | [_], _ => rfl⟩
theorem d_without (X : K.In h) (G : h.Ns mainGlobals mg) (c : He.SaysD HD01.fa HD01.fn K) : Def K mg "without" ["book", "recipe", "way"] s_without := by
  obtain ⟨fd, F⟩ := c.def_ 11 (d := HD01.mkD "without" s_without) rfl
  exact ⟨⟨_, fd, F, He.glo_ok X G (c.fact 11 (f := .glo "without") rfl)⟩, fun _ _ _ _ _ _ us hl => match us, hl with | [_, _, _], _ => rfl⟩
theorem d__law_spring (X : K.In h) (G : h.Ns mainGlobals mg) (c : He.SaysD HD01.fa HD01.fn K) : Def K mg "_law_spring" ["_law_script", "_law_at"] s__law_spring := by
  obtain ⟨fd, F⟩ := c.def_ 12 (d := HD01.mkD "_law_spring" s__law_spring) rfl
  exact ⟨⟨_, fd, F, He.glo_ok X G (c.fact 12 (f := .glo "_law_spring") rfl)⟩, fun _ _ _ _ _ _ us hl => match us, hl with | [_, _], _ => rfl⟩
theorem d__law_pick (X : K.In h) (G : h.Ns mainGlobals mg) (c : He.SaysD HD01.fa HD01.fn K) : Def K mg "_law_pick" ["_law_spring_here", "_law_many"] s__law_pick := by
  obtain ⟨fd, F⟩ := c.def_ 13 (d := HD01.mkD "_law_pick" s__law_pick) rfl
  exact ⟨⟨_, fd, F, He.glo_ok X G (c.fact 13 (f := .glo "_law_pick") rfl)⟩, fun _ _ _ _ _ _ us hl => match us, hl with | [_, _], _ => rfl⟩
theorem d__law_kind (X : K.In h) (G : h.Ns mainGlobals mg) (c : He.SaysD HD01.fa HD01.fn K) : Def K mg "_law_kind" ["_law_value"] s__law_kind := by
  obtain ⟨fd, F⟩ := c.def_ 14 (d := HD01.mkD "_law_kind" s__law_kind) rfl
  exact ⟨⟨_, fd, F, He.glo_ok X G (c.fact 14 (f := .glo "_law_kind") rfl)⟩, fun _ _ _ _ _ _ us hl => match us, hl with | [_], _ => rfl⟩
theorem d__law_twins (X : K.In h) (G : h.Ns mainGlobals mg) (c : He.SaysD HD01.fa HD01.fn K) : Def K mg "_law_twins" ["_law_one", "_law_other"] s__law_twins := by
  obtain ⟨fd, F⟩ := c.def_ 15 (d := HD01.mkD "_law_twins" s__law_twins) rfl
  exact ⟨⟨_, fd, F, He.glo_ok X G (c.fact 15 (f := .glo "_law_twins") rfl)⟩, fun _ _ _ _ _ _ us hl => match us, hl with | [_, _], _ => rfl⟩
theorem d__law_way (X : K.In h) (G : h.Ns mainGlobals mg) (c : He.SaysD HD01.fa HD01.fn K) : Def K mg "_law_way" ["_law_spring_here", "_law_many", "_law_minutes"] s__law_way := by
  obtain ⟨fd, F⟩ := c.def_ 16 (d := HD01.mkD "_law_way" s__law_way) rfl
  exact ⟨⟨_, fd, F, He.glo_ok X G (c.fact 16 (f := .glo "_law_way") rfl)⟩, fun _ _ _ _ _ _ us hl => match us, hl with | [_, _, _], _ => rfl⟩
theorem d__law_book (X : K.In h) (G : h.Ns mainGlobals mg) (c : He.SaysD HD01.fa HD01.fn K) : Def K mg "_law_book" ["_law_spring_here", "_law_most"] s__law_book := by
  obtain ⟨fd, F⟩ := c.def_ 17 (d := HD01.mkD "_law_book" s__law_book) rfl
  exact ⟨⟨_, fd, F, He.glo_ok X G (c.fact 17 (f := .glo "_law_book") rfl)⟩, fun _ _ _ _ _ _ us hl => match us, hl with | [_, _], _ => rfl⟩
theorem d__law_error_of (X : K.In h) (G : h.Ns mainGlobals mg) (c : He.SaysD HD01.fa HD01.fn K) : Def K mg "_law_error_of" ["_law_e"] s__law_error_of := by
  obtain ⟨fd, F⟩ := c.def_ 18 (d := HD01.mkD "_law_error_of" s__law_error_of) rfl
  exact ⟨⟨_, fd, F, He.glo_ok X G (c.fact 18 (f := .glo "_law_error_of") rfl)⟩, fun _ _ _ _ _ _ us hl => match us, hl with | [_], _ => rfl⟩
theorem d__law_came (X : K.In h) (G : h.Ns mainGlobals mg) (c : He.SaysD HD01.fa HD01.fn K) : Def K mg "_law_came" ["_law_call_so"] s__law_came := by
  obtain ⟨fd, F⟩ := c.def_ 19 (d := HD01.mkD "_law_came" s__law_came) rfl
  exact ⟨⟨_, fd, F, He.glo_ok X G (c.fact 19 (f := .glo "_law_came") rfl)⟩, fun _ _ _ _ _ _ us hl => match us, hl with | [_], _ => rfl⟩
theorem d__law_int (X : K.In h) (G : h.Ns mainGlobals mg) (c : He.SaysD HD01.fa HD01.fn K) : Def K mg "_law_int" ["_law_value", "_law_low", "_law_high"] s__law_int := by
  obtain ⟨fd, F⟩ := c.def_ 20 (d := HD01.mkD "_law_int" s__law_int) rfl
  exact ⟨⟨_, fd, F, He.glo_ok X G (c.fact 20 (f := .glo "_law_int") rfl)⟩, fun _ _ _ _ _ _ us hl => match us, hl with | [_, _, _], _ => rfl⟩
theorem d__law_made (X : K.In h) (G : h.Ns mainGlobals mg) (c : He.SaysD HD01.fa HD01.fn K) : Def K mg "_law_made" ["_law_value", "_law_low", "_law_high"] s__law_made := by
  obtain ⟨fd, F⟩ := c.def_ 21 (d := HD01.mkD "_law_made" s__law_made) rfl
  exact ⟨⟨_, fd, F, He.glo_ok X G (c.fact 21 (f := .glo "_law_made") rfl)⟩, fun _ _ _ _ _ _ us hl => match us, hl with | [_, _, _], _ => rfl⟩
theorem d__law_good_way (X : K.In h) (G : h.Ns mainGlobals mg) (c : He.SaysD HD01.fa HD01.fn K) : Def K mg "_law_good_way" ["_law_value", "_law_many"] s__law_good_way := by
  obtain ⟨fd, F⟩ := c.def_ 22 (d := HD01.mkD "_law_good_way" s__law_good_way) rfl
  exact ⟨⟨_, fd, F, He.glo_ok X G (c.fact 22 (f := .glo "_law_good_way") rfl)⟩, fun _ _ _ _ _ _ us hl => match us, hl with | [_, _], _ => rfl⟩
theorem d__law_good (X : K.In h) (G : h.Ns mainGlobals mg) (c : He.SaysD HD01.fa HD01.fn K) : Def K mg "_law_good" ["_law_value"] s__law_good := by
  obtain ⟨fd, F⟩ := c.def_ 23 (d := HD01.mkD "_law_good" s__law_good) rfl
  exact ⟨⟨_, fd, F, He.glo_ok X G (c.fact 23 (f := .glo "_law_good") rfl)⟩, fun _ _ _ _ _ _ us hl => match us, hl with | [_], _ => rfl⟩
theorem d__law_bent (X : K.In h) (G : h.Ns mainGlobals mg) (c : He.SaysD HD01.fa HD01.fn K) : Def K mg "_law_bent" ["_law_spring_here", "_law_value"] s__law_bent := by
  obtain ⟨fd, F⟩ := c.def_ 24 (d := HD01.mkD "_law_bent" s__law_bent) rfl
  exact ⟨⟨_, fd, F, He.glo_ok X G (c.fact 24 (f := .glo "_law_bent") rfl)⟩, fun _ _ _ _ _ _ us hl => match us, hl with | [_, _], _ => rfl⟩
theorem kt_0 {j : Nat} (cf : ClF K (errs.getD j "")) (hj : j < 8) : PySem.W.kitOne K (.ref (He.ga K (errs.getD j ""))) (.ref (He.ga K "InvalidBook")) = some (decide (j = 0)) := by
  rw [cf.kt "InvalidBook" (by simp [errs])]
  match j, hj with
  | 0, _ => decide +kernel
  | 1, _ => decide +kernel
  | 2, _ => decide +kernel
  | 3, _ => decide +kernel
  | 4, _ => decide +kernel
  | 5, _ => decide +kernel
  | 6, _ => decide +kernel
  | 7, _ => decide +kernel
theorem kt_1 {j : Nat} (cf : ClF K (errs.getD j "")) (hj : j < 8) : PySem.W.kitOne K (.ref (He.ga K (errs.getD j ""))) (.ref (He.ga K "InvalidRecipe")) = some (decide (j = 1)) := by
  rw [cf.kt "InvalidRecipe" (by simp [errs])]
  match j, hj with
  | 0, _ => decide +kernel
  | 1, _ => decide +kernel
  | 2, _ => decide +kernel
  | 3, _ => decide +kernel
  | 4, _ => decide +kernel
  | 5, _ => decide +kernel
  | 6, _ => decide +kernel
  | 7, _ => decide +kernel
theorem kt_2 {j : Nat} (cf : ClF K (errs.getD j "")) (hj : j < 8) : PySem.W.kitOne K (.ref (He.ga K (errs.getD j ""))) (.ref (He.ga K "InvalidWay")) = some (decide (j = 2)) := by
  rw [cf.kt "InvalidWay" (by simp [errs])]
  match j, hj with
  | 0, _ => decide +kernel
  | 1, _ => decide +kernel
  | 2, _ => decide +kernel
  | 3, _ => decide +kernel
  | 4, _ => decide +kernel
  | 5, _ => decide +kernel
  | 6, _ => decide +kernel
  | 7, _ => decide +kernel
theorem kt_3 {j : Nat} (cf : ClF K (errs.getD j "")) (hj : j < 8) : PySem.W.kitOne K (.ref (He.ga K (errs.getD j ""))) (.ref (He.ga K "InvalidTotal")) = some (decide (j = 3)) := by
  rw [cf.kt "InvalidTotal" (by simp [errs])]
  match j, hj with
  | 0, _ => decide +kernel
  | 1, _ => decide +kernel
  | 2, _ => decide +kernel
  | 3, _ => decide +kernel
  | 4, _ => decide +kernel
  | 5, _ => decide +kernel
  | 6, _ => decide +kernel
  | 7, _ => decide +kernel
theorem kt_4 {j : Nat} (cf : ClF K (errs.getD j "")) (hj : j < 8) : PySem.W.kitOne K (.ref (He.ga K (errs.getD j ""))) (.ref (He.ga K "InvalidTally")) = some (decide (j = 4)) := by
  rw [cf.kt "InvalidTally" (by simp [errs])]
  match j, hj with
  | 0, _ => decide +kernel
  | 1, _ => decide +kernel
  | 2, _ => decide +kernel
  | 3, _ => decide +kernel
  | 4, _ => decide +kernel
  | 5, _ => decide +kernel
  | 6, _ => decide +kernel
  | 7, _ => decide +kernel
theorem kt_5 {j : Nat} (cf : ClF K (errs.getD j "")) (hj : j < 8) : PySem.W.kitOne K (.ref (He.ga K (errs.getD j ""))) (.ref (He.ga K "InvalidText")) = some (decide (j = 5)) := by
  rw [cf.kt "InvalidText" (by simp [errs])]
  match j, hj with
  | 0, _ => decide +kernel
  | 1, _ => decide +kernel
  | 2, _ => decide +kernel
  | 3, _ => decide +kernel
  | 4, _ => decide +kernel
  | 5, _ => decide +kernel
  | 6, _ => decide +kernel
  | 7, _ => decide +kernel
theorem kt_6 {j : Nat} (cf : ClF K (errs.getD j "")) (hj : j < 8) : PySem.W.kitOne K (.ref (He.ga K (errs.getD j ""))) (.ref (He.ga K "NoTotal")) = some (decide (j = 6)) := by
  rw [cf.kt "NoTotal" (by simp [errs])]
  match j, hj with
  | 0, _ => decide +kernel
  | 1, _ => decide +kernel
  | 2, _ => decide +kernel
  | 3, _ => decide +kernel
  | 4, _ => decide +kernel
  | 5, _ => decide +kernel
  | 6, _ => decide +kernel
  | 7, _ => decide +kernel
theorem kt_7 {j : Nat} (cf : ClF K (errs.getD j "")) (hj : j < 8) : PySem.W.kitOne K (.ref (He.ga K (errs.getD j ""))) (.ref (He.ga K "NothingLeft")) = some (decide (j = 7)) := by
  rw [cf.kt "NothingLeft" (by simp [errs])]
  match j, hj with
  | 0, _ => decide +kernel
  | 1, _ => decide +kernel
  | 2, _ => decide +kernel
  | 3, _ => decide +kernel
  | 4, _ => decide +kernel
  | 5, _ => decide +kernel
  | 6, _ => decide +kernel
  | 7, _ => decide +kernel
theorem ew (X : K.In h) (G : h.Ns mainGlobals mg) (c : He.SaysD HD01.fa HD01.fn K) (ex : exB K = true) {base : Heap} (B : Bi mg) {f : Addr} (j : Nat) (hj : j < 8) : EWord P w K mg base ["_law_e", "_law_some", "_law_word", "_law_good_here"] "_law_error_of" (defScope s__law_error_of) f (defBody s__law_error_of) (.ref (He.ga K (errs.getD j ""))) (words.getD j "") := by
  have cf : ClF K (errs.getD j "") := exB_ok ex (by
    match j, hj with
    | 0, _ => simp [errs]
    | 1, _ => simp [errs]
    | 2, _ => simp [errs]
    | 3, _ => simp [errs]
    | 4, _ => simp [errs]
    | 5, _ => simp [errs]
    | 6, _ => simp [errs]
    | 7, _ => simp [errs])
  refine ew_of (N := ["_law_e", "_law_some", "_law_word", "_law_good_here"]) (by decide) fun cdv A outer s H p hot hh => ⟨_, ok_err (cdv := cdv) (A := A) (outer := outer) (s := s) (H := H) (p := p) B hot hh cf.ec (He.glo_ok X G (c.fact 27 (f := .glo "InvalidBook") rfl)) (He.glo_ok X G (c.fact 28 (f := .glo "InvalidRecipe") rfl)) (He.glo_ok X G (c.fact 29 (f := .glo "InvalidWay") rfl)) (He.glo_ok X G (c.fact 30 (f := .glo "InvalidTotal") rfl)) (He.glo_ok X G (c.fact 31 (f := .glo "InvalidTally") rfl)) (He.glo_ok X G (c.fact 32 (f := .glo "InvalidText") rfl)) (He.glo_ok X G (c.fact 33 (f := .glo "NoTotal") rfl)) (He.glo_ok X G (c.fact 34 (f := .glo "NothingLeft") rfl)) (kt_0 cf hj) (kt_1 cf hj) (kt_2 cf hj) (kt_3 cf hj) (kt_4 cf hj) (kt_5 cf hj) (kt_6 cf hj) (kt_7 cf hj), err_word p.1 j hj⟩
theorem camed (X : K.In h) (G : h.Ns mainGlobals mg) (c : He.SaysD HD01.fa HD01.fn K) (ex : exB K = true) {base : Heap} (B : Bi mg) : CameD P w K mg base := by
  obtain ⟨fg, Fg⟩ := c.def_ 19 (d := HD01.mkD "_law_came" s__law_came) rfl
  obtain ⟨fe, Fe⟩ := c.def_ 18 (d := HD01.mkD "_law_error_of" s__law_error_of) rfl
  have mT := He.glo_ok X G (c.fact 26 (f := .glo "TotalError") rfl)
  refine ⟨"_law_call_so", "_law_e", "TotalError", "_law_error_of", "_law_e", defScope s__law_came, defScope s__law_error_of, _, _, _, fg, fe, _, _, _, _, ["_law_e", "_law_some", "_law_word", "_law_good_here"], _, _, _, _, _, _, _, _, _, _, _, Fg, rfl, ?_, sc__law_came, ?_, rfl, rfl, rfl, Fe, ?_, sc__law_error_of, He.glo_ok X G (c.fact 19 (f := .glo "_law_came") rfl), He.glo_ok X G (c.fact 18 (f := .glo "_law_error_of") rfl), mT, ?_, by decide, by decide, by decide, by decide, by decide, by decide⟩
  · exact FunD.bindsN (ps := ["_law_call_so"]) Fg fun _ _ _ _ _ _ us hl => match us, hl with | [_], _ => rfl
  · first | exact Or.inl rfl | exact Or.inr (Or.inl rfl) | exact Or.inr (Or.inr rfl)
  · exact FunD.bindsN (ps := ["_law_e"]) Fe fun _ _ _ _ _ _ us hl => match us, hl with | [_], _ => rfl
  · intro x C word hw hm
    obtain ⟨j, hj, e1, e2⟩ : ∃ j, j < 8 ∧ x = errs.getD j "" ∧ word = words.getD j "" := wd_at hw
    subst e1 e2
    have cf : ClF K (errs.getD j "") := exB_ok ex (by
      match j, hj with
      | 0, _ => simp [errs]
      | 1, _ => simp [errs]
      | 2, _ => simp [errs]
      | 3, _ => simp [errs]
      | 4, _ => simp [errs]
      | 5, _ => simp [errs]
      | 6, _ => simp [errs]
      | 7, _ => simp [errs])
    have m : mg (errs.getD j "") = some (.ref (He.ga K (errs.getD j ""))) := by
      match j, hj with
      | 0, _ => exact He.glo_ok X G (c.fact 27 (f := .glo "InvalidBook") rfl)
      | 1, _ => exact He.glo_ok X G (c.fact 28 (f := .glo "InvalidRecipe") rfl)
      | 2, _ => exact He.glo_ok X G (c.fact 29 (f := .glo "InvalidWay") rfl)
      | 3, _ => exact He.glo_ok X G (c.fact 30 (f := .glo "InvalidTotal") rfl)
      | 4, _ => exact He.glo_ok X G (c.fact 31 (f := .glo "InvalidTally") rfl)
      | 5, _ => exact He.glo_ok X G (c.fact 32 (f := .glo "InvalidText") rfl)
      | 6, _ => exact He.glo_ok X G (c.fact 33 (f := .glo "NoTotal") rfl)
      | 7, _ => exact He.glo_ok X G (c.fact 34 (f := .glo "NothingLeft") rfl)
    rw [m] at hm
    cases hm
    exact ⟨cf.xm, ew X G c ex B j hj⟩
theorem law_ds (X : K.In h) (G : h.Ns mainGlobals mg) (c : He.SaysD HD01.fa HD01.fn K) (ex : exB K = true) {base : Heap} {cc Pt : Addr} (TB : LamX.TabB base mg cc Pt) {f : Addr} {A : Around} {outer : List Env} {s : Shared} {H : Hp} {E : XK} (hr : Room 24 (A.deeper (envOfC "law" (defScope s_law) s.heap.objs.size f (.ref cc)))) :
    DSs (cxD P w K mg base ["_law_script", "_law_at", "_law_spring_here", "_law_book_here", "_law_some", "_law_recipe", "_law_many", "_law_way_here", "_law_rest", "_law_less", "_law_due", "_law_came_here", "_law_odd", "_law_turn", "_law_one"] "law" (defScope s_law) f (.ref cc) A outer s H E) [(Pt, (("law" : Str) ++ ".<locals>.") ++ "<lambda>")] (WD E) (defBody s_law) (ev_law wd) := by
  have B := bi X G c
  have er : ∀ x : Str, x ∈ errs → ∀ m : mg x = some (.ref (He.ga K x)), Err K mg x := fun x hx m => (exB_ok ex hx).err m
  have h__law_pick : Has P w K mg base [(Pt, (("law" : Str) ++ ".<locals>.") ++ "<lambda>")] "_law_pick" ["_law_spring_here", "_law_many"] 1 FF__law_pick := ok__law_pick B   (d__law_pick X G c)
  have h__law_bent : Has P w K mg base [(Pt, (("law" : Str) ++ ".<locals>.") ++ "<lambda>")] "_law_bent" ["_law_spring_here", "_law_value"] 10 (FF__law_bent 8) := ok__law_bent B h__law_pick  (d__law_bent X G c) 8
  have h__law_way : Has P w K mg base [(Pt, (("law" : Str) ++ ".<locals>.") ++ "<lambda>")] "_law_way" ["_law_spring_here", "_law_many", "_law_minutes"] 2 FF__law_way := ok__law_way B h__law_pick  (d__law_way X G c)
  have h__law_book : Has P w K mg base [(Pt, (("law" : Str) ++ ".<locals>.") ++ "<lambda>")] "_law_book" ["_law_spring_here", "_law_most"] 3 FF__law_book := ok__law_book B h__law_pick h__law_way  (d__law_book X G c)
  have h__law_int : Has P w K mg base [(Pt, (("law" : Str) ++ ".<locals>.") ++ "<lambda>")] "_law_int" ["_law_value", "_law_low", "_law_high"] 1 FF__law_int := ok__law_int B   (d__law_int X G c)
  have h__law_made : Has P w K mg base [(Pt, (("law" : Str) ++ ".<locals>.") ++ "<lambda>")] "_law_made" ["_law_value", "_law_low", "_law_high"] 1 FF__law_made := ok__law_made B   (d__law_made X G c)
  have h__law_good_way : Has P w K mg base [(Pt, (("law" : Str) ++ ".<locals>.") ++ "<lambda>")] "_law_good_way" ["_law_value", "_law_many"] 2 FF__law_good_way := ok__law_good_way B h__law_int h__law_made  (d__law_good_way X G c)
  have h__law_good : Has P w K mg base [(Pt, (("law" : Str) ++ ".<locals>.") ++ "<lambda>")] "_law_good" ["_law_value"] 3 FF__law_good := ok__law_good B h__law_good_way h__law_made  (d__law_good X G c)
  have h__law_spring : Has P w K mg base [(Pt, (("law" : Str) ++ ".<locals>.") ++ "<lambda>")] "_law_spring" ["_law_script", "_law_at"] 1 FF__law_spring := ok__law_spring B   (d__law_spring X G c)
  have h__law_kind : Has P w K mg base [(Pt, (("law" : Str) ++ ".<locals>.") ++ "<lambda>")] "_law_kind" ["_law_value"] 1 FF__law_kind := ok__law_kind B   (d__law_kind X G c)
  have h__law_twins : Has P w K mg base [(Pt, (("law" : Str) ++ ".<locals>.") ++ "<lambda>")] "_law_twins" ["_law_one", "_law_other"] 10 (FF__law_twins 8) := ok__law_twins B h__law_kind  (d__law_twins X G c) 8
  have h_is_wide : Has P w K mg base [(Pt, (("law" : Str) ++ ".<locals>.") ++ "<lambda>")] "is_wide" ["value", "low", "high"] 1 FF_is_wide := ok_is_wide B   (d_is_wide X G c)
  have h_is_within : Has P w K mg base [(Pt, (("law" : Str) ++ ".<locals>.") ++ "<lambda>")] "is_within" ["value", "low", "high"] 1 FF_is_within := ok_is_within B   (d_is_within X G c)
  have h_is_way : Has P w K mg base [(Pt, (("law" : Str) ++ ".<locals>.") ++ "<lambda>")] "is_way" ["value", "many"] 2 FF_is_way := ok_is_way B h_is_wide h_is_within  (d_is_way X G c)
  have h_is_recipe : Has P w K mg base [(Pt, (("law" : Str) ++ ".<locals>.") ++ "<lambda>")] "is_recipe" ["value", "many"] 3 FF_is_recipe := ok_is_recipe B h_is_way h_is_wide  (d_is_recipe X G c)
  have h_is_fit : Has P w K mg base [(Pt, (("law" : Str) ++ ".<locals>.") ++ "<lambda>")] "is_fit" ["value"] 4 FF_is_fit := ok_is_fit B h_is_recipe h_is_wide  (d_is_fit X G c)
  have h_is_book : Has P w K mg base [(Pt, (("law" : Str) ++ ".<locals>.") ++ "<lambda>")] "is_book" ["value"] 5 FF_is_book := ok_is_book B h_is_fit  (d_is_book X G c)
  have h_less_by : Has P w K mg base [(Pt, (("law" : Str) ++ ".<locals>.") ++ "<lambda>")] "less_by" ["book", "recipe", "way"] 1 FF_less_by := ok_less_by B   (d_less_by X G c)
  have h_look_at_book : Has P w K mg base [(Pt, (("law" : Str) ++ ".<locals>.") ++ "<lambda>")] "look_at_book" ["book"] 5 FF_look_at_book := ok_look_at_book B h_is_fit (er "InvalidBook" (by simp [errs]) (He.glo_ok X G (c.fact 27 (f := .glo "InvalidBook") rfl))) (d_look_at_book X G c)
  have h_look_at_lone_recipe : Has P w K mg base [(Pt, (("law" : Str) ++ ".<locals>.") ++ "<lambda>")] "look_at_lone_recipe" ["book", "recipe"] 2 FF_look_at_lone_recipe := ok_look_at_lone_recipe B h_is_within (er "InvalidRecipe" (by simp [errs]) (He.glo_ok X G (c.fact 28 (f := .glo "InvalidRecipe") rfl))) (d_look_at_lone_recipe X G c)
  have h_look_at_way : Has P w K mg base [(Pt, (("law" : Str) ++ ".<locals>.") ++ "<lambda>")] "look_at_way" ["book", "recipe", "way"] 3 FF_look_at_way := ok_look_at_way B h_is_within h_look_at_lone_recipe (er "InvalidWay" (by simp [errs]) (He.glo_ok X G (c.fact 29 (f := .glo "InvalidWay") rfl))) (d_look_at_way X G c)
  have h_look_at_less : Has P w K mg base [(Pt, (("law" : Str) ++ ".<locals>.") ++ "<lambda>")] "look_at_less" ["book", "recipe", "way"] 4 FF_look_at_less := ok_look_at_less B h_look_at_way (er "InvalidWay" (by simp [errs]) (He.glo_ok X G (c.fact 29 (f := .glo "InvalidWay") rfl))) (d_look_at_less X G c)
  have h_without : Has P w K mg base [(Pt, (("law" : Str) ++ ".<locals>.") ++ "<lambda>")] "without" ["book", "recipe", "way"] 6 FF_without := ok_without B h_less_by h_look_at_book h_look_at_less  (d_without X G c)
  exact ok_law B (camed X G c ex B) TB h__law_bent h__law_book h__law_good h__law_spring h__law_twins h_is_book h_without hr
end
end K01
open PySem PySem.W PySem.Calls PyProof.Rows
theorem PySem.Challenge.cw_anytotals_k01_books_recognized_holds : PySem.Challenge.rw_anytotals_k01_books_recognized.Holds := by
  w_on; o_law
  refine HandSHeadRun.head_any (r := OpenLaw.row PySem.Challenge.rw_anytotals_k01_books_recognized) (q := view (OpenLaw.row PySem.Challenge.rw_anytotals_k01_books_recognized).prog [37]) (H := HD01.hk) (ob := HD01.ob) (M := 60000) (loose := HD01.nms) (d := HandSHeadRun.topDef (OpenLaw.row PySem.Challenge.rw_anytotals_k01_books_recognized).prog 37) (kwd := []) HD01.ob_eq
    (by kernel_rfl) (fun s => by kernel_rfl) HD01.run (by kernel_rfl) (by kernel_rfl) (by kernel_rfl) (by rfl) (by first | assumption | decide +kernel) (by decide +kernel) ⟨rfl, rfl, rfl, rfl, rfl, by decide +kernel⟩ ?hw ?hc
  case hw => w_witness2
  case hc =>
    refine LamX.walk_ofTsE (l := PySem.Challenge.rw_anytotals_k01_books_recognized) (n := 63) (k := 25) (x := "_law_script") (CX := L2N.CX PySem.Challenge.rw_anytotals_k01_books_recognized.prog) (by kernel_rfl) (by decide) (by kernel_rfl) ⟨rfl, by decide, by decide⟩ ?F ?X
    case F =>
      intro w mg fa h Y G hmg0
      obtain ⟨K, KX, c⟩ := Y
      have hmg : mg ("law" : PySem.Str) = some (.ref fa) := by
        have e : (HandSHeadRun.topDef (OpenLaw.row PySem.Challenge.rw_anytotals_k01_books_recognized).prog 37).name = ("law" : PySem.Str) := by kernel_rfl
        rw [← e]
        exact hmg0
      obtain ⟨fd, Fu⟩ := c.t.d.def_ 25 (d := HD01.mkD "law" K01.s_law) rfl
      have ef : fa = He.fAd K ("law", none) := by
        have e := hmg.symm.trans (He.glo_ok KX G (c.t.d.fact 25 (f := .glo "law") rfl))
        injection e with e
        injection e with e
      have hb := L2.FunD.bindsA (ps := ["_law_script"]) Fu fun _ _ _ _ _ _ us hl => match us, hl with | [_], _ => rfl
      refine ⟨K, KX, DL.law_at (N := ["_law_script", "_law_at", "_law_spring_here", "_law_book_here", "_law_some", "_law_recipe", "_law_many", "_law_way_here", "_law_rest", "_law_less", "_law_due", "_law_came_here", "_law_odd", "_law_turn", "_law_one"]) (k := 24) KX Fu ef (c.hd _ List.mem_cons_self) (c.out _ List.mem_cons_self) (c.empty _ List.mem_cons_self) K01.sc_law (fun s u => hb s [u] rfl) fun base KB NB cc Pt TB A outer s H E hr => ⟨_, K01.law_ds KB NB c.t.d c.more TB hr, fun ns hl hz => K01.law_holds ns hl hz⟩⟩
    case X =>
      intro w H s e s' z
      obtain ⟨_, _, _, _, _, _, _, _, _, _, _, _, hE⟩ := z
      exact hE
