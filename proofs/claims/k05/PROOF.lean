import PyProof.Rows.All
import HandS.ForMost
import HandS.ForExc
import HandS.Iter
import HandS.IsInst
import HandS.Gcd
import HandS.Wide
import HandS.ExcInit
import HandS.ExcField
import HandS.Small
import HandS.TupAny
import HandS.Deep
import HandS.Conv
import HandS.TupLe
import HandS.Style
import HandS.TupMul
import HandS.ExcIs
import HandS.List
import HandS.TryMany
import HandS.CallSlots
import HandS.OwnEq
import HandS.Zip
import KE.DatumOrd
import HandS.Defaults
import KE.GoesEnum
import KE.KTupSum
import KE.DataFind
import HandS.Dict
import PySem.Challenge.RW_untoldgaps_k05_gaps_moments_balls_and_wi
set_option Elab.async false
set_option linter.all false
set_option maxRecDepth 100000
set_option maxHeartbeats 4000000
set_option exponentiation.threshold 10000
/-! DL: a heap-free layer of our own over HandS. Values as data (D), a body as a function of the slots' data and of a few
cells that may change (St), one relation (DI) between this and HandS's slots and abstract heap. -/
namespace DL
open PySem PySem.Spec PyProof.Rows L2

/-- what a value is worth, whole -/
inductive D where
  | non | bl (b : Bool) | int (i : Int) | str (x : Str) | ty (n : String)
  | tup (xs : List D) | lst (xs : List D) | rol (xs : List D)
  | obj (c : Nat) (fs : List (Str × D)) | cls (c : Nat) | tok (n : Nat) | dic

/-- what is fixed: the written part, the addresses of the text's own classes -/
structure Glb where
  K : PySem.W.Frag
  cl : Nat → Addr

/-- a tuple: tracked, or of the written part -/
def TupAt (K : PySem.W.Frag) (S : Hp) (a : Addr) (vs : List V) : Prop :=
  S a = some (.tup vs) ∨ ∃ (o : Obj) (its : Array Value) (n : Nat), K.lookup a = some o ∧ o.cls = .type "tuple" ∧ o.data = .seq its n ∧ its.size ≤ sizeLine ∧ Vals vs its.toList
theorem TupAt.sqT {K : PySem.W.Frag} {S : Hp} {a : Addr} {vs : List V} (h : TupAt K S a vs) : SqT K S a vs := h.elim (fun z => .inl (.inl z)) .inr
theorem TupAt.mono {K : PySem.W.Frag} {S S' : Hp} {a : Addr} {vs : List V} (e : Same S S') (h : TupAt K S a vs) : TupAt K S' a vs := h.imp (e _ _) fun z => z
mutual
inductive Rep (G : Glb) (ad : List Addr) (S : Hp) : V → D → Prop
  | non : Rep G ad S .non .non
  | bl (b : Bool) : Rep G ad S (.bl b) (.bl b)
  | int (i : Int) : Rep G ad S (.int i) (.int i)
  | str (x : Str) : Rep G ad S (.str x) (.str x)
  | ty (n : String) : Rep G ad S (.ty n) (.ty n)
  | tup {a : Addr} {vs : List V} {ds : List D} : TupAt G.K S a vs → Reps G ad S vs ds → Rep G ad S (.ref a) (.tup ds)
  | lst {a : Addr} {vs : List V} {ds : List D} : S a = some (.lst vs) → Reps G ad S vs ds → Rep G ad S (.ref a) (.lst ds)
  | rol {a : Addr} {vs : List V} {ds : List D} : SqL G.K S a vs → Reps G ad S vs ds → Rep G ad S (.ref a) (.rol ds)
  | obj {a dx : Addr} {c : Nat} {vs : List (Str × V)} {fs : List (Str × D)} : S a = some (.ins (G.cl c) dx vs) → RepF G ad S vs fs → Rep G ad S (.ref a) (.obj c fs)
  | cls (c : Nat) : Rep G ad S (.ref (G.cl c)) (.cls c)
  | tok {a : Addr} {n : Nat} : ad[n]? = some a → Rep G ad S (.ref a) (.tok n)
  | dic {a : Addr} : S a = some (.dK []) → Rep G ad S (.ref a) .dic
inductive Reps (G : Glb) (ad : List Addr) (S : Hp) : List V → List D → Prop
  | nil : Reps G ad S [] []
  | cons {v : V} {d : D} {vs : List V} {ds : List D} : Rep G ad S v d → Reps G ad S vs ds → Reps G ad S (v :: vs) (d :: ds)
inductive RepF (G : Glb) (ad : List Addr) (S : Hp) : List (Str × V) → List (Str × D) → Prop
  | nil : RepF G ad S [] []
  | cons {f : Str} {v : V} {d : D} {vs : List (Str × V)} {ds : List (Str × D)} : Rep G ad S v d → RepF G ad S vs ds → RepF G ad S ((f, v) :: vs) ((f, d) :: ds)
end

theorem Same.sqT {K : PySem.W.Frag} {H H' : Hp} {a : Addr} {xs : List V} (e : Same H H') (h : SqT K H a xs) : SqT K H' a xs := by
  rcases h with (h | ⟨o, h⟩) | h
  · exact .inl (.inl (e _ _ h))
  · exact .inl (.inr ⟨o, e _ _ h⟩)
  · exact .inr h

section
variable {G : Glb} {ad : List Addr} {S S' : Hp}
mutual
theorem Rep.mono (e : Same S S') : ∀ {v : V} {d : D}, Rep G ad S v d → Rep G ad S' v d
  | _, _, .non => .non
  | _, _, .bl b => .bl b
  | _, _, .int i => .int i
  | _, _, .str x => .str x
  | _, _, .ty n => .ty n
  | _, _, .tup h r => .tup (TupAt.mono e h) (Reps.mono e r)
  | _, _, .lst h r => .lst (e _ _ h) (Reps.mono e r)
  | _, _, .rol h r => .rol (e.seq h) (Reps.mono e r)
  | _, _, .obj h r => .obj (e _ _ h) (RepF.mono e r)
  | _, _, .cls c => .cls c
  | _, _, .tok h => .tok h
  | _, _, .dic h => .dic (e _ _ h)
theorem Reps.mono (e : Same S S') : ∀ {vs : List V} {ds : List D}, Reps G ad S vs ds → Reps G ad S' vs ds
  | _, _, .nil => .nil
  | _, _, .cons h r => .cons (Rep.mono e h) (Reps.mono e r)
theorem RepF.mono (e : Same S S') : ∀ {vs : List (Str × V)} {ds : List (Str × D)}, RepF G ad S vs ds → RepF G ad S' vs ds
  | _, _, .nil => .nil
  | _, _, .cons h r => .cons (Rep.mono e h) (RepF.mono e r)
end
theorem Reps.len : ∀ {vs : List V} {ds : List D}, Reps G ad S vs ds → vs.length = ds.length
  | _, _, .nil => rfl
  | _, _, .cons _ r => congrArg (· + 1) (Reps.len r)
theorem Reps.get : ∀ {vs : List V} {ds : List D} {i : Nat} {d : D}, Reps G ad S vs ds → ds[i]? = some d → ∃ v, vs[i]? = some v ∧ Rep G ad S v d
  | _, _, 0, _, .cons h _, e => ⟨_, rfl, by cases e; exact h⟩
  | _, _, i + 1, _, .cons _ r, e => Reps.get (i := i) r e
theorem Reps.getV : ∀ {vs : List V} {ds : List D} {i : Nat} {v : V}, Reps G ad S vs ds → vs[i]? = some v → ∃ d, ds[i]? = some d ∧ Rep G ad S v d
  | _, _, 0, _, .cons h _, e => ⟨_, rfl, by cases e; exact h⟩
  | _, _, i + 1, _, .cons _ r, e => Reps.getV (i := i) r e
theorem Reps.append : ∀ {vs : List V} {ds : List D} {ws : List V} {es : List D}, Reps G ad S vs ds → Reps G ad S ws es → Reps G ad S (vs ++ ws) (ds ++ es)
  | _, _, _, _, .nil, s => s
  | _, _, _, _, .cons h r, s => .cons h (Reps.append r s)
theorem Reps.set : ∀ {vs : List V} {ds : List D} {v : V} {d : D} (i : Nat), Reps G ad S vs ds → Rep G ad S v d → Reps G ad S (vs.set i v) (ds.set i d)
  | _, _, _, _, _, .nil, _ => .nil
  | _, _, _, _, 0, .cons _ r, h => .cons h r
  | _, _, _, _, i + 1, .cons h r, k => .cons h (Reps.set i r k)
theorem Reps.take : ∀ {vs : List V} {ds : List D} (n : Nat), Reps G ad S vs ds → Reps G ad S (vs.take n) (ds.take n)
  | _, _, 0, _ => .nil
  | _, _, _ + 1, .nil => .nil
  | _, _, n + 1, .cons h r => .cons h (Reps.take n r)
theorem Reps.drop : ∀ {vs : List V} {ds : List D} (n : Nat), Reps G ad S vs ds → Reps G ad S (vs.drop n) (ds.drop n)
  | _, _, 0, r => r
  | _, _, _ + 1, .nil => .nil
  | _, _, n + 1, .cons _ r => Reps.drop n r
theorem RepF.look : ∀ {vs : List (Str × V)} {ds : List (Str × D)} {f : Str} {d : D}, RepF G ad S vs ds → ds.lookup f = some d → ∃ v, vs.lookup f = some v ∧ Rep G ad S v d
  | _, _, f, d, .cons (f := g) (v := v) (d := d') h r, e => by
    rw [List.lookup_cons] at e ⊢
    split at e
    · cases e; exact ⟨_, rfl, h⟩
    · exact RepF.look r e
theorem RepF.none : ∀ {vs : List (Str × V)} {ds : List (Str × D)} {f : Str}, RepF G ad S vs ds → ds.lookup f = Option.none → vs.lookup f = Option.none
  | _, _, f, .nil, e => rfl
  | _, _, f, .cons (f := g) (v := v) (d := d') h r, e => by
    rw [List.lookup_cons] at e ⊢
    split at e
    · cases e
    · exact RepF.none r e
end

/-! ### what runs: data, the cells, the errors -/
structure Ex where
  c : Nat
  fs : Option (List (Str × D))
inductive Res (α : Type) where
  | ok (a : α) (st : List D)
  | err (x : Ex) (st : List D)
  | bad
abbrev M (α : Type) := List D → Res α
def Res.bind {α β : Type} (r : Res α) (f : α → M β) : Res β := match r with
  | .ok a st => f a st
  | .err x st => .err x st
  | .bad => .bad
abbrev Env' := List (Option D)
/-- an expression, an argument list, a test -/
abbrev ME := Env' → M D
abbrev MA := Env' → M (List D)
abbrev MT := Env' → M Bool
inductive Fl0 where
  | nx (e : Env') | rt (d : D) | bk (e : Env') | ct (e : Env')


def RepX (G : Glb) (ad : List Addr) (S : Hp) (cls : Value) (d : Option Addr) (x : Ex) : Prop :=
  cls = .ref (G.cl x.c) ∧ match x.fs with
    | none => d = none
    | some fs => ∃ a vs, d = some a ∧ S a = some (.xd vs) ∧ RepF G ad S vs fs
theorem RepX.mono {G : Glb} {ad : List Addr} {S S' : Hp} {cls : Value} {d : Option Addr} {x : Ex} (e : Same S S') (h : RepX G ad S cls d x) : RepX G ad S' cls d x := by
  obtain ⟨c, fs⟩ := x
  cases fs with
  | none => exact h
  | some fs =>
    obtain ⟨h1, a, vs, h2, h3, h4⟩ := h
    exact ⟨h1, a, vs, h2, e _ _ h3, h4.mono e⟩

/-- the cells that may change: each a list -/
structure StoOk (G : Glb) (ad : List Addr) (S : Hp) (st : List D) (H : Hp) : Prop where
  len : ad.length = st.length
  nd : ad.Nodup
  at_ : ∀ (n : Nat) (a : Addr), ad[n]? = some a → S a = none ∧ ∃ (ds : List D) (vs : List V), st[n]? = some (D.lst ds) ∧ H a = some (HO.lst vs) ∧ Reps G ad S vs ds
theorem StoOk.has {G : Glb} {ad : List Addr} {S : Hp} {st : List D} {H : Hp} (s : StoOk G ad S st H) {a : Addr} (h : a ∈ ad) : S a = none ∧ ∃ vs : List V, H a = some (HO.lst vs) := by
  obtain ⟨n, hn, e⟩ := List.mem_iff_getElem.mp h
  obtain ⟨h1, ds, vs, _, h2, _⟩ := s.at_ n a (by rw [List.getElem?_eq_getElem hn, e])
  exact ⟨h1, vs, h2⟩

/-- from one heap to the next: the still part grows by new objects alone, all but the cells is as it was -/
structure Ext (ad : List Addr) (S H S' H' : Hp) : Prop where
  same : Same S S'
  new : ∀ a o, S' a = some o → S a = some o ∨ H a = none
  keep : ∀ a o, H a = some o → a ∉ ad → H' a = some o
theorem Ext.refl (ad : List Addr) (S H : Hp) : Ext ad S H S H := ⟨Same.refl _, fun _ _ h => .inl h, fun _ _ h _ => h⟩
theorem Ext.trans {G : Glb} {ad : List Addr} {S H S1 H1 S2 H2 : Hp} {st : List D} (a : Ext ad S H S1 H1) (s : StoOk G ad S1 st H1) (b : Ext ad S1 H1 S2 H2) : Ext ad S H S2 H2 := by
  refine ⟨a.same.trans b.same, fun c o h => ?_, fun c o h hc => b.keep c o (a.keep c o h hc) hc⟩
  rcases b.new c o h with h1 | h1
  · exact a.new c o h1
  · by_cases hc : c ∈ ad
    · obtain ⟨_, vs, hv⟩ := s.has hc
      rw [h1] at hv; cases hv
    · cases e : H c with
      | none => exact .inr rfl
      | some u =>
        have := a.keep c u e hc
        rw [h1] at this; cases this

/-- an activation: the still part and the heap at its entry, the cells -/
structure Act where
  S : Hp
  H : Hp
  ad : List Addr

/-- a caught error as an object: without fields of its own, with such (behind a mark) -/
def exObj (x : Ex) : D := match x.fs with
  | none => .obj x.c []
  | some fs => .obj x.c (("", .non) :: fs)
/-- the slots that own a list; the slot of a caught error, the error's object, its class, its dict -/
structure Ow where
  own : List Nat := []
  exi : Option Nat := none
  exv : Addr × Value × Option Addr := (0, .none, none)
  slf : Option Nat := none
  slv : Addr × Addr := (0, 0)
def Ow.has (O : Ow) (i : Nat) : Bool := O.own.elem i || O.exi == some i || O.slf == some i
/-- the object that is being made: it and its dict are nobody else's -/
def SelfAt (G : Glb) (b : Act) (p : Addr × Addr) (S H : Hp) (o : Option (Option D)) (u : Option (Option V)) : Prop :=
  ∃ (c : Nat) (vs : List (Str × V)) (fs : List (Str × D)), o = some (some (.obj c fs)) ∧ u = some (some (.ref p.1)) ∧ H p.1 = some (.ins (G.cl c) p.2 vs) ∧ H p.2 = some (.own p.1) ∧
    S p.1 = none ∧ S p.2 = none ∧ b.H p.1 = none ∧ b.H p.2 = none ∧ p.1 ∉ b.ad ∧ p.2 ∉ b.ad ∧ RepF G b.ad S vs fs

structure DI (G : Glb) (b : Act) (O : Ow) (S : Hp) (env : Env') (st : List D) (σ : L2.St) (H : Hp) : Prop where
  len : σ.length = env.length
  sub : Same S H
  s0 : Same b.S S
  new : ∀ a o, S a = some o → b.S a = some o ∨ b.H a = none
  keep : ∀ a o, b.H a = some o → a ∉ b.ad → H a = some o
  slot : ∀ (i : Nat) (d : D), env[i]? = some (some d) → O.has i = false → ∃ v, σ[i]? = some (some v) ∧ Rep G b.ad S v d
  own : ∀ (i : Nat) (d : D), i ∈ O.own → env[i]? = some (some d) → ∃ (a : Addr) (vs : List V) (ds : List D), d = D.lst ds ∧ σ[i]? = some (some (V.ref a)) ∧ H a = some (HO.lst vs) ∧ S a = none ∧ b.H a = none ∧ a ∉ b.ad ∧ Reps G b.ad S vs ds
  dist : ∀ (i j : Nat) (a : Addr), i ∈ O.own → j ∈ O.own → (∃ d : D, env[i]? = some (some d)) → (∃ d : D, env[j]? = some (some d)) → σ[i]? = some (some (V.ref a)) → σ[j]? = some (some (V.ref a)) → i = j
  sto : StoOk G b.ad S st H
  exc : ∀ (i : Nat) (d : D), O.exi = some i → env[i]? = some (some d) → ∃ x, d = exObj x ∧ σ[i]? = some (some (V.ref O.exv.1)) ∧ RepX G b.ad S O.exv.2.1 O.exv.2.2 x
  self_ : ∀ i : Nat, O.slf = some i → SelfAt G b O.slv S H env[i]? σ[i]?

/-- behind an expression: the frame as it was -/
theorem DI.ext {G : Glb} {b : Act} {O : Ow} {S : Hp} {env : Env'} {st st' : List D} {σ : L2.St} {H S' H' : Hp} (I : DI G b O S env st σ H) (x : Ext b.ad S H S' H') (su : Same S' H') (s : StoOk G b.ad S' st' H') : DI G b O S' env st' σ H' := by
  have hn : ∀ a o, S' a = some o → S a = some o ∨ (b.H a = none ∧ H a = none) := fun a o h => by
    rcases x.new a o h with h1 | h1
    · exact .inl h1
    · refine .inr ⟨?_, h1⟩
      cases e : b.H a with
      | none => rfl
      | some u =>
        by_cases ha : a ∈ b.ad
        · obtain ⟨_, vs, hv⟩ := I.sto.has ha
          rw [h1] at hv; cases hv
        · have := I.keep a u e ha
          rw [h1] at this; cases this
  have nad : ∀ a, S a = none → (∃ vs : List V, H a = some (HO.lst vs)) → S' a = none := fun a h1 ⟨vs, h2⟩ => by
    cases e : S' a with
    | none => rfl
    | some o =>
      rcases hn a o e with q | ⟨_, q⟩
      · rw [h1] at q; cases q
      · rw [h2] at q; cases q
  have nad2 : ∀ a o, S a = none → H a = some o → S' a = none := fun a o h1 h2 => by
    cases e : S' a with
    | none => rfl
    | some o' =>
      rcases hn a o' e with q | ⟨_, q⟩
      · rw [h1] at q; cases q
      · rw [h2] at q; cases q
  refine ⟨I.len, su, I.s0.trans x.same, fun a o h => ?_, fun a o h ha => x.keep a o (I.keep a o h ha) ha, fun i d h ho => ?_, fun i d hi h => ?_, I.dist, s, fun i d hi h => ?_, fun i hi => ?_⟩
  · rcases hn a o h with q | ⟨q, _⟩
    · exact I.new a o q
    · exact .inr q
  · obtain ⟨v, h1, h2⟩ := I.slot i d h ho
    exact ⟨v, h1, h2.mono x.same⟩
  · obtain ⟨a, vs, ds, h1, h2, h3, h4, h5, ha, h6⟩ := I.own i d hi h
    exact ⟨a, vs, ds, h1, h2, x.keep a _ h3 ha, nad a h4 ⟨vs, h3⟩, h5, ha, h6.mono x.same⟩
  · obtain ⟨y, h1, h2, h3⟩ := I.exc i d hi h
    exact ⟨y, h1, h2, h3.mono x.same⟩
  · obtain ⟨c, vs, fs, h1, h2, h3, h4, h5, h6, h7, h8, h9, h10, h11⟩ := I.self_ i hi
    exact ⟨c, vs, fs, h1, h2, x.keep _ _ h3 h9, x.keep _ _ h4 h10, nad2 _ _ h5 h3, nad2 _ _ h6 h4, h7, h8, h9, h10, h11.mono x.same⟩

/-! ### what is wanted behind a part -/
def wpR {α : Type} (r : Res α) (ok : α → List D → Prop) (err : Ex → List D → Prop) : Prop := match r with
  | .ok a st => ok a st
  | .err x st => err x st
  | .bad => False
theorem wpR_bind {α β : Type} {r : Res α} {f : α → M β} {ok : β → List D → Prop} {err : Ex → List D → Prop} (h : wpR (r.bind f) ok err) : wpR r (fun a st => wpR (f a st) ok err) err := by
  cases r <;> exact h
theorem wpR_imp {α : Type} {r : Res α} {ok ok' : α → List D → Prop} {err err' : Ex → List D → Prop} (h : wpR r ok err) (h1 : ∀ a st, ok a st → ok' a st) (h2 : ∀ x st, err x st → err' x st) : wpR r ok' err' := by
  cases r with
  | ok a st => exact h1 _ _ h
  | err x st => exact h2 _ _ h
  | bad => exact h

def Post (G : Glb) (ad : List Addr) (S H : Hp) (d : D) (st : List D) (Q : VK) : Prop := ∀ v S' H', Ext ad S H S' H' → Same S' H' → StoOk G ad S' st H' → Rep G ad S' v d → Q v H'
def PostA (G : Glb) (ad : List Addr) (S H : Hp) (ds : List D) (st : List D) (Q : List V → Hp → Prop) : Prop := ∀ vs S' H', Ext ad S H S' H' → Same S' H' → StoOk G ad S' st H' → Reps G ad S' vs ds → Q vs H'
def PostB (G : Glb) (ad : List Addr) (S H : Hp) (k : Bool) (st : List D) (Q : Bool → Hp → Prop) : Prop := ∀ S' H', Ext ad S H S' H' → Same S' H' → StoOk G ad S' st H' → Q k H'
def PostX (G : Glb) (ad : List Addr) (S H : Hp) (x : Ex) (st : List D) (R : Value → Option Addr → Hp → Prop) : Prop := ∀ cls dd S' H', Ext ad S H S' H' → Same S' H' → StoOk G ad S' st H' → RepX G ad S' cls dd x → R cls dd H'
section
variable {G : Glb} {ad : List Addr} {S H S1 H1 : Hp} {st st1 : List D}
theorem Post.from_ {d : D} {Q : VK} (x : Ext ad S H S1 H1) (s : StoOk G ad S1 st1 H1) (h : Post G ad S H d st Q) : Post G ad S1 H1 d st Q := fun v S' H' x' => h v S' H' (x.trans s x')
theorem PostA.from_ {ds : List D} {Q : List V → Hp → Prop} (x : Ext ad S H S1 H1) (s : StoOk G ad S1 st1 H1) (h : PostA G ad S H ds st Q) : PostA G ad S1 H1 ds st Q := fun v S' H' x' => h v S' H' (x.trans s x')
theorem PostB.from_ {k : Bool} {Q : Bool → Hp → Prop} (x : Ext ad S H S1 H1) (s : StoOk G ad S1 st1 H1) (h : PostB G ad S H k st Q) : PostB G ad S1 H1 k st Q := fun S' H' x' => h S' H' (x.trans s x')
theorem PostX.from_ {e : Ex} {R : Value → Option Addr → Hp → Prop} (x : Ext ad S H S1 H1) (s : StoOk G ad S1 st1 H1) (h : PostX G ad S H e st R) : PostX G ad S1 H1 e st R := fun c dd S' H' x' => h c dd S' H' (x.trans s x')
end

/-! ### judgements -/
structure DE (G : Glb) (X : Cx) (W : WX) (O : Ow) (e : Expr) (m : ME) : Prop where
  ex : ∃ t, PE X e t ∧ ∀ (b : Act) S env st σ H Q, DI G b O S env st σ H → wpR (m env st) (fun d st' => Post G b.ad S H d st' Q) (fun x st' => PostX G b.ad S H x st' fun c dd H' => W c dd σ H') → t σ H Q
structure DT (G : Glb) (X : Cx) (W : WX) (O : Ow) (e : Expr) (m : MT) : Prop where
  ex : ∃ t, PT X e t ∧ ∀ (b : Act) S env st σ H Q, DI G b O S env st σ H → wpR (m env st) (fun k st' => PostB G b.ad S H k st' Q) (fun x st' => PostX G b.ad S H x st' fun c dd H' => W c dd σ H') → t σ H Q
structure DW (G : Glb) (X : Cx) (W : WX) (O : Ow) (e : Expr) (m : MT) : Prop where
  ex : ∃ t, PW X e t ∧ ∀ (b : Act) S env st σ H Q, DI G b O S env st σ H → wpR (m env st) (fun k st' => PostB G b.ad S H k st' Q) (fun x st' => PostX G b.ad S H x st' fun c dd H' => W c dd σ H') → t σ H Q
structure DA (G : Glb) (X : Cx) (W : WX) (O : Ow) (es : List Expr) (m : MA) : Prop where
  ex : ∃ t, PA X es t ∧ ∀ (b : Act) S env st σ H Q, DI G b O S env st σ H → wpR (m env st) (fun ds st' => PostA G b.ad S H ds st' Q) (fun x st' => PostX G b.ad S H x st' fun c dd H' => W c dd σ H') → t σ H Q

/-- how a block ends -/
inductive Out where
  | nx (env : Env') (st : List D)
  | rt (d : D) (st : List D)
  | bk (env : Env') (st : List D)
  | ct (env : Env') (st : List D)
  | er (x : Ex) (env : Env') (st : List D)
  | bad
abbrev MS := Env' → List D → Out
/-- Ob: what is owned where the loop is left or turned; OE: what may be owned where an error flies -/
def PostS (G : Glb) (b : Act) (Ob : Ow) (OE : Ow → Prop) (W : WX) (O : Ow) (D : Ends) (S : Hp) : Out → Prop
  | .nx env st => ∀ S' σ H, Same S S' → DI G b O S' env st σ H → D.nx σ H
  | .rt d st => ∀ v S' H, Ext b.ad b.S b.H S' H → Same S' H → StoOk G b.ad S' st H → Rep G b.ad S' v d → D.rt v H
  | .bk env st => ∀ S' σ H, Same S S' → DI G b Ob S' env st σ H → D.bk σ H
  | .ct env st => ∀ S' σ H, Same S S' → DI G b Ob S' env st σ H → D.ct σ H
  | .er x env st => ∀ cls dd O' S' σ H, OE O' → Same S S' → DI G b O' S' env st σ H → RepX G b.ad S' cls dd x → W cls dd σ H
  | .bad => False
theorem PostS.from_ {G : Glb} {b : Act} {Ob : Ow} {OE : Ow → Prop} {W : WX} {O : Ow} {D : Ends} {S S1 : Hp} {o : Out} (e : Same S S1) (h : PostS G b Ob OE W O D S o) : PostS G b Ob OE W O D S1 o := by
  cases o with
  | nx env st => exact fun S' σ H x => h S' σ H (e.trans x)
  | rt d st => exact h
  | bk env st => exact fun S' σ H x => h S' σ H (e.trans x)
  | ct env st => exact fun S' σ H x => h S' σ H (e.trans x)
  | er x env st => exact fun cls dd O' S' σ H q x => h cls dd O' S' σ H q (e.trans x)
  | bad => exact h
structure DS (G : Glb) (X : Cx) (W : WX) (Ob : Ow) (OE : Ow → Prop) (O : Ow) (s : Stmt) (O' : Ow) (m : MS) : Prop where
  ex : ∃ t, PS X s t ∧ ∀ (b : Act) S env st σ H D, DI G b O S env st σ H → PostS G b Ob OE W O' D S (m env st) → t D σ H
structure DSs (G : Glb) (X : Cx) (W : WX) (Ob : Ow) (OE : Ow → Prop) (O : Ow) (s : List Stmt) (O' : Ow) (m : MS) : Prop where
  ex : ∃ t, PSs X s t ∧ ∀ (b : Act) S env st σ H D, DI G b O S env st σ H → PostS G b Ob OE W O' D S (m env st) → t D σ H

/-- what an activation has made so far -/
theorem DI.fin {G : Glb} {b : Act} {O : Ow} {S : Hp} {env : Env'} {st : List D} {σ : L2.St} {H : Hp} (I : DI G b O S env st σ H) : Ext b.ad b.S b.H S H := ⟨I.s0, I.new, I.keep⟩
/-- where an activation begins -/
theorem DI.start {G : Glb} {b : Act} {n : Nat} {vs : List V} {ds : List D} {st : List D} (hs : Same b.S b.H) (so : StoOk G b.ad b.S st b.H) (r : Reps G b.ad b.S vs ds) :
    DI G b {} b.S (ds.map some ++ List.replicate n none) st (vs.map some ++ List.replicate n none) b.H := by
  refine ⟨by simp [r.len], hs, Same.refl _, fun _ _ h => .inl h, fun _ _ h _ => h, fun i d h _ => ?_, fun i d hi => by simp at hi, fun i j a hi => by simp at hi, so, fun i d hi => (by cases hi), fun i hi => (by cases hi)⟩
  by_cases hi : i < ds.length
  · rw [List.getElem?_append_left (by simpa using hi), List.getElem?_map] at h
    cases e : ds[i]? with
    | none => rw [e] at h; cases h
    | some d' =>
      rw [e] at h
      have e2 : d' = d := by simpa using h
      subst e2
      obtain ⟨v, h1, h2⟩ := r.get e
      refine ⟨v, ?_, h2⟩
      rw [List.getElem?_append_left (by simpa [r.len] using hi), List.getElem?_map, h1]
      rfl
  · rw [List.getElem?_append_right (by simpa using Nat.le_of_not_lt hi)] at h
    rw [List.getElem?_replicate] at h
    split at h <;> cases h
end DL

/-! DL, second part: expressions. -/
namespace DL
open PySem PySem.Spec PyProof.Rows L2

section
variable {G : Glb} {ad : List Addr} {S H : Hp} {st : List D}
/-- a new object, still from now on -/
theorem new_still {p : Addr} {o : HO} (su : Same S H) (so : StoOk G ad S st H) (hp : H p = none) :
    Ext ad S H (upd S p o) (upd H p o) ∧ Same (upd S p o) (upd H p o) ∧ StoOk G ad (upd S p o) st (upd H p o) := by
  have hs : S p = none := su.free hp
  have e : Same S (upd S p o) := fun b u h => by
    rw [upd_ne (ne_of_none h hs)]; exact h
  refine ⟨⟨e, fun b u h => ?_, fun b u h _ => ?_⟩, fun b u h => ?_, so.len, so.nd, fun n a hn => ?_⟩
  · by_cases hb : b = p
    · subst hb; exact .inr hp
    · rw [upd_ne hb] at h; exact .inl h
  · rw [upd_ne (ne_of_none h hp)]; exact h
  · by_cases hb : b = p
    · subst hb; rw [upd_same] at h ⊢; exact h
    · rw [upd_ne hb] at h ⊢; exact su _ _ h
  · obtain ⟨h1, ds, vs, h2, h3, h4⟩ := so.at_ n a hn
    have ne : a ≠ p := ne_of_none h3 hp
    exact ⟨by rw [upd_ne ne]; exact h1, ds, vs, h2, by rw [upd_ne ne]; exact h3, h4.mono e⟩
theorem Post.here {v : V} {d : D} {Q : VK} (su : Same S H) (so : StoOk G ad S st H) (r : Rep G ad S v d) (h : Post G ad S H d st Q) : Q v H := h v S H (.refl _ _ _) su so r
theorem Post.new {p : Addr} {o : HO} {d : D} {Q : VK} (su : Same S H) (so : StoOk G ad S st H) (hp : H p = none) (r : Rep G ad (upd S p o) (.ref p) d) (h : Post G ad S H d st Q) : Q (.ref p) (upd H p o) := by
  obtain ⟨x, y, z⟩ := new_still (o := o) su so hp
  exact h _ _ _ x y z r
theorem Rep.tupNew {p : Addr} {vs : List V} {ds : List D} (su : Same S H) (hp : H p = none) (r : Reps G ad S vs ds) : Rep G ad (upd S p (.tup vs)) (.ref p) (.tup ds) :=
  .tup (.inl upd_same) (r.mono fun b u h => by rw [upd_ne (ne_of_none h (su.free hp))]; exact h)
theorem Rep.lstNew {p : Addr} {vs : List V} {ds : List D} (su : Same S H) (hp : H p = none) (r : Reps G ad S vs ds) : Rep G ad (upd S p (.lst vs)) (.ref p) (.lst ds) :=
  .lst upd_same (r.mono fun b u h => by rw [upd_ne (ne_of_none h (su.free hp))]; exact h)
theorem Post.tup {p : Addr} {vs : List V} {ds : List D} {Q : VK} (su : Same S H) (so : StoOk G ad S st H) (hp : H p = none) (r : Reps G ad S vs ds) (h : Post G ad S H (.tup ds) st Q) : Q (.ref p) (upd H p (.tup vs)) := h.new su so hp (.tupNew su hp r)
theorem Post.lst {p : Addr} {vs : List V} {ds : List D} {Q : VK} (su : Same S H) (so : StoOk G ad S st H) (hp : H p = none) (r : Reps G ad S vs ds) (h : Post G ad S H (.lst ds) st Q) : Q (.ref p) (upd H p (.lst vs)) := h.new su so hp (.lstNew su hp r)
end

/-! ### operators by data -/
structure OpD (G : Glb) (r : R2) (f : D → D → Option D) : Prop where
  go : ∀ ad S H st x y dx dy d Q, Same S H → StoOk G ad S st H → Rep G ad S x dx → Rep G ad S y dy → f dx dy = some d → Post G ad S H d st Q → r x y H Q
structure UnD (G : Glb) (r : V → Hp → VK → Prop) (f : D → Option D) : Prop where
  go : ∀ ad S H st x dx d Q, Same S H → StoOk G ad S st H → Rep G ad S x dx → f dx = some d → Post G ad S H d st Q → r x H Q
structure CallD (G : Glb) (r : List V → Hp → VK → Prop) (f : List D → Option D) : Prop where
  go : ∀ ad S H st xs ds d Q, Same S H → StoOk G ad S st H → Reps G ad S xs ds → f ds = some d → Post G ad S H d st Q → r xs H Q

def ret? (o : Option D) : M D := fun st => match o with
  | some d => .ok d st
  | none => .bad
def mVar (i : Nat) : ME := fun env st => match env[i]? with
  | some (some d) => .ok d st
  | _ => .bad
def mC (d : D) : ME := fun _ st => .ok d st
def mOp (f : D → D → Option D) (ma mb : ME) : ME := fun env st => (ma env st).bind fun x st1 => (mb env st1).bind fun y => ret? (f x y)
def mUn (f : D → Option D) (ma : ME) : ME := fun env st => (ma env st).bind fun x => ret? (f x)
def mNil : MA := fun _ st => .ok [] st
def mCons (ma : ME) (mr : MA) : MA := fun env st => (ma env st).bind fun x st1 => (mr env st1).bind fun xs st2 => .ok (x :: xs) st2
def mCall1 (f : List D → Option D) (ma : MA) : ME := fun env st => (ma env st).bind fun xs => ret? (f xs)
/-- a value that is a truth -/
def bool? : D → M Bool
  | .bl b => fun st => .ok b st
  | _ => fun _ => .bad
def mTest (ma : ME) : MT := fun env st => (ma env st).bind bool?
def mNot (t : MT) : MT := fun env st => (t env st).bind fun k st1 => .ok (!k) st1
def mAnd (t u : MT) : MT := fun env st => (t env st).bind fun k st1 => if k = true then u env st1 else .ok false st1
def mOr (t u : MT) : MT := fun env st => (t env st).bind fun k st1 => if k = true then .ok true st1 else u env st1
def mNotV (ma : ME) : ME := fun env st => (ma env st).bind fun x st1 => (bool? x st1).bind fun k st2 => .ok (.bl (!k)) st2
def mAndV (ma mb : ME) : ME := fun env st => (ma env st).bind fun x st1 => (bool? x st1).bind fun k st2 => if k = true then mb env st2 else .ok (.bl false) st2
def mOrV (ma mb : ME) : ME := fun env st => (ma env st).bind fun x st1 => (bool? x st1).bind fun k st2 => if k = true then .ok (.bl true) st2 else mb env st2
def mIf (t : MT) (ma mb : ME) : ME := fun env st => (t env st).bind fun k st1 => if k = true then ma env st1 else mb env st1
def tupOk (ds : List D) : M D := fun st => if ds.length ≤ sizeLine then .ok (.tup ds) st else .bad
def lstOk (ds : List D) : M D := fun st => if ds.length ≤ sizeLine then .ok (.lst ds) st else .bad
def mTup (ma : MA) : ME := fun env st => (ma env st).bind tupOk
def mLst (ma : MA) : ME := fun env st => (ma env st).bind lstOk

section
variable {G : Glb} {X : Cx} {W : WX} {O : Ow} {pos : Pos}
theorem de_var (i : Nat) {x : Str} (hN : X.N[i]? = some x := by rfl) (ho : O.has i = false := by rfl) (hv : Vis X.env.scope x := by first | exact Or.inl rfl | exact Or.inr (Or.inl rfl) | exact Or.inr (Or.inr rfl))
    (hd : (x == ("__debug__" : Str)) = false := by decide) (hcd : (x == ("__classdict__" : Str)) = false := by decide) : DE G X W O (.Name x pos) (mVar i) := by
  refine ⟨tVar i, pe_var hN hv hd hcd, fun b S env st σ H Q I h => ?_⟩
  unfold mVar at h
  split at h
  · rename_i d e
    obtain ⟨v, h1, h2⟩ := I.slot i d e ho
    exact ⟨v, h1, Post.here I.sub I.sto h2 h⟩
  · exact h.elim
theorem de_const {e : Expr} {v : V} {d : D} (h : PE X e (tC v)) (r : ∀ ad S, Rep G ad S v d) : DE G X W O e (mC d) :=
  ⟨_, h, fun b S env st σ H Q I q => Post.here I.sub I.sto (r _ _) q⟩
theorem de_int {i : Int} {j} : DE G X W O (.Constant (.int i) j pos) (mC (.int i)) := de_const pe_int fun _ _ => .int i
theorem de_bl {b : Bool} {j} : DE G X W O (.Constant (.bool b) j pos) (mC (.bl b)) := de_const pe_bl fun _ _ => .bl b
theorem de_non {j} : DE G X W O (.Constant .none j pos) (mC .non) := de_const pe_non fun _ _ => .non
theorem de_str {x : Str} {j} : DE G X W O (.Constant (.str x) j pos) (mC (.str x)) := de_const pe_str fun _ _ => .str x
/-- a module's constant, an int or a text -/
theorem de_globI {x : Str} {i : Int} {t : Tok} (hm : X.mg x = some (.int i t)) (hg : Gl X x := by rfl) (hd : (x == ("__debug__" : Str)) = false := by decide) : DE G X W O (.Name x pos) (mC (.int i)) := de_const (v := .int i) (pe_glob hg hm ⟨_, rfl⟩ hd) fun _ _ => .int i
/-- an own class as a value -/
theorem de_globC {x : Str} (c : Nat) (hm : X.mg x = some (.ref (G.cl c))) (hg : Gl X x := by rfl) (hd : (x == ("__debug__" : Str)) = false := by decide) : DE G X W O (.Name x pos) (mC (.cls c)) := de_const (v := .ref (G.cl c)) (pe_glob hg hm rfl hd) fun _ _ => .cls c
/-- a built-in class as a value -/
theorem de_globT {x : Str} (n : String) (hm : X.mg x = none) (hv : bootBuiltins x = some (.type n)) (hg : Gl X x := by rfl) (hn : x ≠ "__name__" := by decide) (hd : (x == ("__debug__" : Str)) = false := by decide) : DE G X W O (.Name x pos) (mC (.ty n)) := de_const (v := .ty n) (pe_bltn hg hm hv rfl hn hd) fun _ _ => .ty n

/-- the two parts of an operator -/
theorem two_parts {a b : Expr} {ma mb : ME} {β : Type} {k : D → D → M β} (ha : DE G X W O a ma) (hb : DE G X W O b mb) : ∃ ta tb, PE X a ta ∧ PE X b tb ∧
    ∀ (b : Act) S env st σ H (ok : β → List D → Prop) (R : V → V → Hp → Prop), DI G b O S env st σ H →
      wpR ((ma env st).bind fun x st1 => (mb env st1).bind fun y => k x y) ok (fun x st' => PostX G b.ad S H x st' fun c dd H' => W c dd σ H') →
      (∀ x y dx dy S' H' st', Ext b.ad S H S' H' → DI G b O S' env st' σ H' → Rep G b.ad S' x dx → Rep G b.ad S' y dy → wpR (k dx dy st') ok (fun x st' => PostX G b.ad S H x st' fun c dd H' => W c dd σ H') → R x y H') →
      ta σ H fun x H1 => tb σ H1 fun y H2 => R x y H2 := by
  obtain ⟨ta, pa, wa⟩ := ha.ex
  obtain ⟨tb, pb, wb⟩ := hb.ex
  refine ⟨ta, tb, pa, pb, fun b S env st σ H ok R I h q => ?_⟩
  refine wa b S env st σ H _ I (wpR_imp (wpR_bind h) (fun dx st1 h1 => ?_) fun _ _ z => z)
  intro x S1 H1 x1 su1 so1 r1
  have I1 := I.ext x1 su1 so1
  refine wb b S1 env st1 σ H1 _ I1 (wpR_imp (wpR_bind h1) (fun dy st2 h2 => ?_) fun _ _ z => z.from_ x1 so1)
  intro y S2 H2 x2 su2 so2 r2
  exact q x y dx dy S2 H2 st2 (x1.trans so1 x2) (I1.ext x2 su2 so2) (r1.mono x2.same) r2 h2

theorem wp_ret {o : Option D} {st : List D} {ok : D → List D → Prop} {er : Ex → List D → Prop} (h : wpR (ret? o st) ok er) : ∃ d, o = some d ∧ ok d st := by
  cases o with
  | none => exact h.elim
  | some d => exact ⟨d, rfl, h⟩
theorem de_op {op : Operator} {a b : Expr} {ma mb : ME} {r : R2} {f : D → D → Option D} (ho : OpR X (binaryOp op) r) (hf : OpD G r f) (ha : DE G X W O a ma) (hb : DE G X W O b mb) : DE G X W O (.BinOp a op b pos) (mOp f ma mb) := by
  obtain ⟨ta, tb, pa, pb, w⟩ := two_parts (k := fun x y => ret? (f x y)) ha hb
  refine ⟨_, pe_op ho pa pb, fun b S env st σ H Q I h => w b S env st σ H _ (fun x y H2 => r x y H2 Q) I h fun x y dx dy S' H' st' e I' rx ry hk => ?_⟩
  obtain ⟨d, e1, q⟩ := wp_ret hk
  exact hf.go b.ad S' H' st' x y dx dy d Q I'.sub I'.sto rx ry e1 (Post.from_ e I'.sto q)
theorem de_cmp {op : CmpOp} {a b : Expr} {ma mb : ME} {r : R2} {f : D → D → Option D} (ho : OpR X (compareOp op) r) (hf : OpD G r f) (ha : DE G X W O a ma) (hb : DE G X W O b mb) (hm : behindInMarks op b = false := by first | exact nomark _ | rfl) : DE G X W O (.Compare a [op] [b] pos) (mOp f ma mb) := by
  obtain ⟨ta, tb, pa, pb, w⟩ := two_parts (k := fun x y => ret? (f x y)) ha hb
  refine ⟨_, pe_cmpR ho pa pb hm, fun b S env st σ H Q I h => w b S env st σ H _ (fun x y H2 => r x y H2 Q) I h fun x y dx dy S' H' st' e I' rx ry hk => ?_⟩
  obtain ⟨d, e1, q⟩ := wp_ret hk
  exact hf.go b.ad S' H' st' x y dx dy d Q I'.sub I'.sto rx ry e1 (Post.from_ e I'.sto q)
theorem de_un {op : UnaryOp} {a : Expr} {ma : ME} {r : V → Hp → VK → Prop} {f : D → Option D} (ho : UnR X (unaryOp op) r) (hf : UnD G r f) (ha : DE G X W O a ma) : DE G X W O (.UnaryOp op a pos) (mUn f ma) := by
  obtain ⟨ta, pa, wa⟩ := ha.ex
  refine ⟨_, pe_un ho pa, fun b S env st σ H Q I h => wa b S env st σ H _ I (wpR_imp (wpR_bind h) (fun dx st1 h1 => ?_) fun _ _ z => z)⟩
  intro x S1 H1 x1 su1 so1 r1
  obtain ⟨d, e1, q⟩ := wp_ret h1
  exact hf.go b.ad S1 H1 st1 x dx d Q su1 so1 r1 e1 (Post.from_ x1 so1 q)
/-- an expression as a test -/
theorem dt_val {e : Expr} {m : ME} (h : DE G X W O e m) (he : ∀ whole, isTrue e X.env whole = (do let v ← whole; standAt e.pos; holding [v] (truthy v)) := by intro _; rfl) : DT G X W O e (mTest m) := by
  obtain ⟨t, p, w⟩ := h.ex
  refine ⟨_, pt_val p he, fun b S env st σ H Q I h => w b S env st σ H _ I (wpR_imp (wpR_bind h) (fun dx st1 h1 => ?_) fun _ _ z => z)⟩
  intro x S1 H1 x1 su1 so1 r1
  cases r1 <;> first | exact h1.elim | exact ⟨_, rfl, h1 _ _ x1 su1 so1⟩
theorem dt_cmp {op : CmpOp} {a b : Expr} {ma mb : ME} {r : R2} {f : D → D → Option D} (ho : OpR X (compareOp op) r) (hf : OpD G r f) (ha : DE G X W O a ma) (hb : DE G X W O b mb) (hm : behindInMarks op b = false := by first | exact nomark _ | rfl) : DT G X W O (.Compare a [op] [b] pos) (mTest (mOp f ma mb)) := by
  obtain ⟨ta, pa, wa⟩ := ha.ex
  obtain ⟨tb, pb, wb⟩ := hb.ex
  refine ⟨_, pt_cmpR ho pa pb hm, fun b S env st σ H Q I h => ?_⟩
  have w := (de_cmp (pos := pos) (W := W) ho hf ha hb hm).ex
  have h' := wpR_bind h
  refine wa b S env st σ H _ I (wpR_imp (wpR_bind h') (fun dx st1 h1 => ?_) fun _ _ z => z)
  intro x S1 H1 x1 su1 so1 r1
  have I1 := I.ext x1 su1 so1
  refine wb b S1 env st1 σ H1 _ I1 (wpR_imp (wpR_bind h1) (fun dy st2 h2 => ?_) fun _ _ z => z.from_ x1 so1)
  intro y S2 H2 x2 su2 so2 r2
  obtain ⟨d, e1, q⟩ := wp_ret h2
  refine hf.go b.ad S2 H2 st2 x y dx dy d _ su2 so2 (r1.mono x2.same) r2 e1 fun v S3 H3 x3 su3 so3 r3 => ?_
  cases r3 <;> first | exact q.elim | exact ⟨_, rfl, q _ _ ((x1.trans so1 x2).trans so2 x3) su3 so3⟩

/-! ### and, or, not, if -/
theorem DW.dt {e : Expr} {m : MT} (h : DW G X W O e m) : DT G X W O e m := let ⟨t, p, w⟩ := h.ex; ⟨t, p.pt, w⟩
variable {a b : Expr} {rest : List Expr} {ma mb : ME} {t u : MT}
theorem dw_and1 (ha : DT G X W O a t) : DW G X W O (.BoolOp .And [a] pos) t := let ⟨t, p, w⟩ := ha.ex; ⟨t, pw_and1 p, w⟩
theorem dw_or1 (ha : DT G X W O a t) : DW G X W O (.BoolOp .Or [a] pos) t := let ⟨t, p, w⟩ := ha.ex; ⟨t, pw_or1 p, w⟩
theorem dw_and (ha : DT G X W O a t) (hb : DW G X W O (.BoolOp .And (b :: rest) pos) u) : DW G X W O (.BoolOp .And (a :: b :: rest) pos) (mAnd t u) := by
  obtain ⟨ta, pa, wa⟩ := ha.ex
  obtain ⟨tb, pb, wb⟩ := hb.ex
  refine ⟨_, pw_and pa pb, fun b S env st σ H Q I h => wa b S env st σ H _ I (wpR_imp (wpR_bind h) (fun k st1 h1 => ?_) fun _ _ z => z)⟩
  intro S1 H1 x1 su1 so1
  cases k with
  | true => exact wb b S1 env st1 σ H1 Q (I.ext x1 su1 so1) (wpR_imp h1 (fun _ _ z => z.from_ x1 so1) fun _ _ z => z.from_ x1 so1)
  | false => exact h1 _ _ x1 su1 so1
theorem dw_or (ha : DT G X W O a t) (hb : DW G X W O (.BoolOp .Or (b :: rest) pos) u) : DW G X W O (.BoolOp .Or (a :: b :: rest) pos) (mOr t u) := by
  obtain ⟨ta, pa, wa⟩ := ha.ex
  obtain ⟨tb, pb, wb⟩ := hb.ex
  refine ⟨_, pw_or pa pb, fun b S env st σ H Q I h => wa b S env st σ H _ I (wpR_imp (wpR_bind h) (fun k st1 h1 => ?_) fun _ _ z => z)⟩
  intro S1 H1 x1 su1 so1
  cases k with
  | false => exact wb b S1 env st1 σ H1 Q (I.ext x1 su1 so1) (wpR_imp h1 (fun _ _ z => z.from_ x1 so1) fun _ _ z => z.from_ x1 so1)
  | true => exact h1 _ _ x1 su1 so1
theorem dt_not (ha : DT G X W O a t) : DT G X W O (.UnaryOp .Not a pos) (mNot t) := by
  obtain ⟨ta, pa, wa⟩ := ha.ex
  refine ⟨_, pt_not pa, fun b S env st σ H Q I h => wa b S env st σ H _ I (wpR_imp (wpR_bind h) (fun k st1 h1 => ?_) fun _ _ z => z)⟩
  exact h1
theorem de_one {op} (h : DE G X W O a ma) : DE G X W O (.BoolOp op [a] pos) ma := let ⟨t, p, w⟩ := h.ex; ⟨t, pe_one p, w⟩
theorem bool_of {x : V} {dx : D} {ad : List Addr} {S : Hp} {st : List D} {β : Type} {k : Bool → M β} {ok : β → List D → Prop} {er : Ex → List D → Prop} (r : Rep G ad S x dx) (h : wpR ((bool? dx st).bind k) ok er) : ∃ c, x = .bl c ∧ dx = .bl c ∧ wpR (k c st) ok er := by
  cases r <;> first | exact h.elim | exact ⟨_, rfl, rfl, h⟩
theorem de_and (ha : DE G X W O a ma) (hb : DE G X W O (.BoolOp .And (b :: rest) pos) mb) : DE G X W O (.BoolOp .And (a :: b :: rest) pos) (mAndV ma mb) := by
  obtain ⟨ta, pa, wa⟩ := ha.ex
  obtain ⟨tb, pb, wb⟩ := hb.ex
  refine ⟨_, pe_and pa pb, fun b S env st σ H Q I h => wa b S env st σ H _ I (wpR_imp (wpR_bind h) (fun dx st1 h1 => ?_) fun _ _ z => z)⟩
  intro x S1 H1 x1 su1 so1 r1
  obtain ⟨c, e, e2, h2⟩ := bool_of r1 h1
  refine ⟨c, e, ?_⟩
  cases c with
  | true => exact wb b S1 env st1 σ H1 Q (I.ext x1 su1 so1) (wpR_imp h2 (fun _ _ z => z.from_ x1 so1) fun _ _ z => z.from_ x1 so1)
  | false => exact h2 _ _ _ x1 su1 so1 (.bl false)
theorem de_or (ha : DE G X W O a ma) (hb : DE G X W O (.BoolOp .Or (b :: rest) pos) mb) : DE G X W O (.BoolOp .Or (a :: b :: rest) pos) (mOrV ma mb) := by
  obtain ⟨ta, pa, wa⟩ := ha.ex
  obtain ⟨tb, pb, wb⟩ := hb.ex
  refine ⟨_, pe_or pa pb, fun b S env st σ H Q I h => wa b S env st σ H _ I (wpR_imp (wpR_bind h) (fun dx st1 h1 => ?_) fun _ _ z => z)⟩
  intro x S1 H1 x1 su1 so1 r1
  obtain ⟨c, e, e2, h2⟩ := bool_of r1 h1
  refine ⟨c, e, ?_⟩
  cases c with
  | false => exact wb b S1 env st1 σ H1 Q (I.ext x1 su1 so1) (wpR_imp h2 (fun _ _ z => z.from_ x1 so1) fun _ _ z => z.from_ x1 so1)
  | true => exact h2 _ _ _ x1 su1 so1 (.bl true)
theorem de_not (ha : DE G X W O a ma) : DE G X W O (.UnaryOp .Not a pos) (mNotV ma) := by
  obtain ⟨ta, pa, wa⟩ := ha.ex
  refine ⟨_, pe_not pa, fun b S env st σ H Q I h => wa b S env st σ H _ I (wpR_imp (wpR_bind h) (fun dx st1 h1 => ?_) fun _ _ z => z)⟩
  intro x S1 H1 x1 su1 so1 r1
  obtain ⟨c, e, e2, h2⟩ := bool_of r1 h1
  exact ⟨c, e, h2 _ _ _ x1 su1 so1 (.bl _)⟩
theorem de_if {c : Expr} (hc : DT G X W O c t) (ha : DE G X W O a ma) (hb : DE G X W O b mb) : DE G X W O (.IfExp c a b pos) (mIf t ma mb) := by
  obtain ⟨tc, pc, wc⟩ := hc.ex
  obtain ⟨ta, pa, wa⟩ := ha.ex
  obtain ⟨tb, pb, wb⟩ := hb.ex
  refine ⟨_, pe_ifExp pc pa pb, fun b S env st σ H Q I h => wc b S env st σ H _ I (wpR_imp (wpR_bind h) (fun k st1 h1 => ?_) fun _ _ z => z)⟩
  intro S1 H1 x1 su1 so1
  cases k with
  | true => exact wa b S1 env st1 σ H1 Q (I.ext x1 su1 so1) (wpR_imp h1 (fun _ _ z => z.from_ x1 so1) fun _ _ z => z.from_ x1 so1)
  | false => exact wb b S1 env st1 σ H1 Q (I.ext x1 su1 so1) (wpR_imp h1 (fun _ _ z => z.from_ x1 so1) fun _ _ z => z.from_ x1 so1)

/-! ### arguments, displays -/
theorem da_nil : DA G X W O [] mNil := ⟨_, pa_nil, fun b S env st σ H Q I h => h _ _ _ (.refl _ _ _) I.sub I.sto .nil⟩
theorem da_cons {e : Expr} {es : List Expr} {mr : MA} (ha : DE G X W O e ma) (hr : DA G X W O es mr) (hs : starEach (e :: es) X.env = (false, eval e X.env) :: starEach es X.env := by rfl) : DA G X W O (e :: es) (mCons ma mr) := by
  obtain ⟨ta, pa, wa⟩ := ha.ex
  obtain ⟨tb, pb, wb⟩ := hr.ex
  refine ⟨_, pa_cons pa pb hs, fun b S env st σ H Q I h => wa b S env st σ H _ I (wpR_imp (wpR_bind h) (fun dx st1 h1 => ?_) fun _ _ z => z)⟩
  intro x S1 H1 x1 su1 so1 r1
  refine wb b S1 env st1 σ H1 _ (I.ext x1 su1 so1) (wpR_imp (wpR_bind h1) (fun ds st2 h2 => ?_) fun _ _ z => z.from_ x1 so1)
  intro xs S2 H2 x2 su2 so2 r2
  exact h2 _ _ _ (x1.trans so1 x2) su2 so2 (.cons (r1.mono x2.same) r2)
variable {es : List Expr} {mr : MA}
theorem de_tup {k} (h : DA G X W O es mr) : DE G X W O (.Tuple es k pos) (mTup mr) := by
  obtain ⟨t, p, w⟩ := h.ex
  refine ⟨_, pe_tup p, fun b S env st σ H Q I h => w b S env st σ H _ I (wpR_imp (wpR_bind h) (fun ds st1 h1 => ?_) fun _ _ z => z)⟩
  intro xs S1 H1 x1 su1 so1 r1
  unfold tupOk at h1
  split at h1
  · rename_i hz
    exact ⟨by rw [r1.len]; exact hz, fun p hp => Post.tup su1 so1 hp r1 (Post.from_ x1 so1 h1)⟩
  · exact h1.elim
theorem de_lst (h : DA G X W O es mr) : DE G X W O (.List es pos) (mLst mr) := by
  obtain ⟨t, p, w⟩ := h.ex
  refine ⟨_, pe_lst p, fun b S env st σ H Q I h => w b S env st σ H _ I (wpR_imp (wpR_bind h) (fun ds st1 h1 => ?_) fun _ _ z => z)⟩
  intro xs S1 H1 x1 su1 so1 r1
  unfold lstOk at h1
  split at h1
  · rename_i hz
    exact ⟨by rw [r1.len]; exact hz, fun p hp => Post.lst su1 so1 hp r1 (Post.from_ x1 so1 h1)⟩
  · exact h1.elim
/-! ### calls of built-ins -/
theorem args_then {ta : TA} {ma : MA} {f : List D → Option D} {r : List V → Hp → VK → Prop} (hf : CallD G r f) {b : Act} {S : Hp} {env : Env'} {st : List D} {σ : L2.St} {H : Hp} {Q : VK}
    (w : ∀ (b : Act) S env st σ H Q, DI G b O S env st σ H → wpR (ma env st) (fun ds st' => PostA G b.ad S H ds st' Q) (fun x st' => PostX G b.ad S H x st' fun c dd H' => W c dd σ H') → ta σ H Q) (I : DI G b O S env st σ H)
    (h : wpR (mCall1 f ma env st) (fun d st' => Post G b.ad S H d st' Q) (fun x st' => PostX G b.ad S H x st' fun c dd H' => W c dd σ H')) : ta σ H fun xs H1 => r xs H1 Q := by
  refine w b S env st σ H _ I (wpR_imp (wpR_bind h) (fun ds st1 h1 => ?_) fun _ _ z => z)
  intro xs S1 H1 x1 su1 so1 r1
  obtain ⟨d, e1, q⟩ := wp_ret h1
  exact hf.go b.ad S1 H1 st1 xs ds d Q su1 so1 r1 e1 (Post.from_ x1 so1 q)
variable {x : Str} {p : Pos} {e : Expr} {ma' : MA}
theorem de_callB {id : String} {r : List V → Hp → VK → Prop} {f : List D → Option D} (hc : CallR X (.builtin id) r) (hf : CallD G r f) (hm : X.mg x = none) (hv : bootBuiltins x = some (.builtin id)) (ha : DA G X W O (e :: es) ma') (hg : Gl X x := by rfl)
    (hn : x ≠ "__name__" := by decide) (hdb : (x == ("__debug__" : Str)) = false := by decide)
    (he : starEach (e :: es) X.env = (false, eval e X.env) :: starEach es X.env := by rfl) (hpl : (backTo pos (starEach es X.env)).any (·.1) = false := by rfl) : DE G X W O (.Call (.Name x p) (e :: es) [] pos) (mCall1 f ma') := by
  obtain ⟨t, pa, w⟩ := ha.ex
  exact ⟨_, pe_callB hc hg hm hv pa hn hdb he hpl, fun b S env st σ H Q I h => args_then hf w I h⟩
theorem de_callTy {T : String} {r : List V → Hp → VK → Prop} {f : List D → Option D} (hc : CallR X (.type T) r) (hf : CallD G r f) (hm : X.mg x = none) (hv : bootBuiltins x = some (.type T)) (ha : DA G X W O (e :: es) ma') (hg : Gl X x := by rfl)
    (hn : x ≠ "__name__" := by decide) (hdb : (x == ("__debug__" : Str)) = false := by decide)
    (he : starEach (e :: es) X.env = (false, eval e X.env) :: starEach es X.env := by rfl) (hpl : (backTo pos (starEach es X.env)).any (·.1) = false := by rfl) : DE G X W O (.Call (.Name x p) (e :: es) [] pos) (mCall1 f ma') := by
  obtain ⟨t, pa, w⟩ := ha.ex
  exact ⟨_, pe_callTy hc hg hm hv pa hn hdb he hpl, fun b S env st σ H Q I h => args_then hf w I h⟩
/-- a built-in function that stands in the module under a name -/
theorem de_callG {id : String} {r : List V → Hp → VK → Prop} {f : List D → Option D} (hc : CallR X (.builtin id) r) (hf : CallD G r f) (hm : X.mg x = some (.builtin id)) (ha : DA G X W O (e :: es) ma') (hg : Gl X x := by rfl)
    (hdb : (x == ("__debug__" : Str)) = false := by decide)
    (he : starEach (e :: es) X.env = (false, eval e X.env) :: starEach es X.env := by rfl) (hpl : (backTo pos (starEach es X.env)).any (·.1) = false := by rfl) : DE G X W O (.Call (.Name x p) (e :: es) [] pos) (mCall1 f ma') := by
  obtain ⟨t, pa, w⟩ := ha.ex
  exact ⟨_, pe_callBfun hc hg hm pa hdb he hpl, fun b S env st σ H Q I h => args_then hf w I h⟩
/-- o[i] -/
theorem de_ix {r : R2} {f : D → D → Option D} (hr : IxR X r) (hf : OpD G r f) (ha : DE G X W O a ma) (hb : DE G X W O b mb) (hs : PlainIx b := by intro _ _; rfl) : DE G X W O (.Subscript a b pos) (mOp f ma mb) := by
  obtain ⟨ta, tb, pa, pb, w⟩ := two_parts (k := fun x y => ret? (f x y)) ha hb
  refine ⟨_, pe_ix hr pa pb hs, fun b S env st σ H Q I h => w b S env st σ H _ (fun x y H2 => r x y H2 Q) I h fun x y dx dy S' H' st' e I' rx ry hk => ?_⟩
  obtain ⟨d, e1, q⟩ := wp_ret hk
  exact hf.go b.ad S' H' st' x y dx dy d Q I'.sub I'.sto rx ry e1 (Post.from_ e I'.sto q)
end
end DL

/-! DL, third part: statements, defs and their calls, errors, loops. -/
namespace DL
open PySem PySem.Spec PyProof.Rows L2

theorem DE.conv {G : Glb} {X : Cx} {W : WX} {O : Ow} {e : Expr} {m m' : ME} (h : DE G X W O e m) (q : m = m') : DE G X W O e m' := q ▸ h

/-! ### stores into slots -/
section
variable {G : Glb} {b : Act} {O : Ow} {S H : Hp} {env : Env'} {st : List D} {σ : L2.St}
theorem DI.set {i : Nat} {v : V} {d : D} (I : DI G b O S env st σ H) (r : Rep G b.ad S v d) (hi : O.has i = false) : DI G b O S (env.set i (some d)) st (σ.set i (some v)) H := by
  have h1 : i ∉ O.own := fun z => by
    unfold Ow.has at hi
    rw [List.elem_eq_true_of_mem z] at hi; cases hi
  have h2 : O.exi ≠ some i := fun z => by
    unfold Ow.has at hi
    rw [z] at hi; simp at hi
  have h3 : O.slf ≠ some i := fun z => by
    unfold Ow.has at hi
    rw [z] at hi; simp at hi
  have other : ∀ {j : Nat} {d' : D}, j ≠ i → (env.set i (some d))[j]? = some (some d') → env[j]? = some (some d') := fun {j d'} hj h => by
    rw [List.getElem?_set_ne (Ne.symm hj)] at h; exact h
  refine ⟨by rw [List.length_set, List.length_set]; exact I.len, I.sub, I.s0, I.new, I.keep, fun j d' h ho => ?_, fun j d' hj h => ?_, fun j k a hj hk e1 e2 q1 q2 => ?_, I.sto, fun j d' hj h => ?_, fun j hj => ?_⟩
  · by_cases hj : j = i
    · subst hj
      by_cases hl : j < env.length
      · rw [List.getElem?_set_self hl] at h
        have e : d = d' := by simpa using h
        subst e
        exact ⟨v, by rw [List.getElem?_set_self (by rw [I.len]; exact hl)], r⟩
      · rw [List.getElem?_eq_none_iff.mpr (by rw [List.length_set]; exact Nat.le_of_not_lt hl)] at h; cases h
    · obtain ⟨w, q1, q2⟩ := I.slot j d' (other hj h) ho
      exact ⟨w, by rw [List.getElem?_set_ne (Ne.symm hj)]; exact q1, q2⟩
  · have hne : j ≠ i := fun z => h1 (z ▸ hj)
    obtain ⟨a, vs, ds, q1, q2, q3⟩ := I.own j d' hj (other hne h)
    exact ⟨a, vs, ds, q1, by rw [List.getElem?_set_ne (Ne.symm hne)]; exact q2, q3⟩
  · have hne1 : j ≠ i := fun z => h1 (z ▸ hj)
    have hne2 : k ≠ i := fun z => h1 (z ▸ hk)
    rw [List.getElem?_set_ne (Ne.symm hne1)] at q1
    rw [List.getElem?_set_ne (Ne.symm hne2)] at q2
    obtain ⟨d1, e1⟩ := e1
    obtain ⟨d2, e2⟩ := e2
    exact I.dist j k a hj hk ⟨d1, other hne1 e1⟩ ⟨d2, other hne2 e2⟩ q1 q2
  · have hne : j ≠ i := fun z => h2 (z ▸ hj)
    obtain ⟨y, q1, q2, q3⟩ := I.exc j d' hj (other hne h)
    exact ⟨y, q1, by rw [List.getElem?_set_ne (Ne.symm hne)]; exact q2, q3⟩
  · have hne : j ≠ i := fun z => h3 (z ▸ hj)
    rw [List.getElem?_set_ne (Ne.symm hne), List.getElem?_set_ne (Ne.symm hne)]
    exact I.self_ j hj
/-- a slot forgotten -/
theorem DI.forget {i : Nat} (I : DI G b O S env st σ H) (hi : O.has i = false) : DI G b O S (env.set i none) st (σ.set i none) H := by
  have other : ∀ {j : Nat} {d' : D}, (env.set i none)[j]? = some (some d') → j ≠ i ∧ env[j]? = some (some d') := fun {j d'} h => by
    by_cases hj : j = i
    · subst hj
      by_cases hl : j < env.length
      · rw [List.getElem?_set_self hl] at h; cases h
      · rw [List.getElem?_eq_none_iff.mpr (by rw [List.length_set]; exact Nat.le_of_not_lt hl)] at h; cases h
    · rw [List.getElem?_set_ne (Ne.symm hj)] at h; exact ⟨hj, h⟩
  refine ⟨by rw [List.length_set, List.length_set]; exact I.len, I.sub, I.s0, I.new, I.keep, fun j d' h ho => ?_, fun j d' hj h => ?_, fun j k a hj hk e1 e2 q1 q2 => ?_, I.sto, fun j d' hj h => ?_, fun j hj => ?_⟩
  · obtain ⟨hne, h⟩ := other h
    obtain ⟨w, q1, q2⟩ := I.slot j d' h ho
    exact ⟨w, by rw [List.getElem?_set_ne (Ne.symm hne)]; exact q1, q2⟩
  · obtain ⟨hne, h⟩ := other h
    obtain ⟨a, vs, ds, q1, q2, q3⟩ := I.own j d' hj h
    exact ⟨a, vs, ds, q1, by rw [List.getElem?_set_ne (Ne.symm hne)]; exact q2, q3⟩
  · obtain ⟨d1, e1⟩ := e1
    obtain ⟨d2, e2⟩ := e2
    obtain ⟨hne1, e1⟩ := other e1
    obtain ⟨hne2, e2⟩ := other e2
    rw [List.getElem?_set_ne (Ne.symm hne1)] at q1
    rw [List.getElem?_set_ne (Ne.symm hne2)] at q2
    exact I.dist j k a hj hk ⟨d1, e1⟩ ⟨d2, e2⟩ q1 q2
  · obtain ⟨hne, h⟩ := other h
    obtain ⟨y, q1, q2, q3⟩ := I.exc j d' hj h
    exact ⟨y, q1, by rw [List.getElem?_set_ne (Ne.symm hne)]; exact q2, q3⟩
  · have hne : j ≠ i := fun z => by
      subst z
      unfold Ow.has at hi
      rw [hj] at hi; simp at hi
    rw [List.getElem?_set_ne (Ne.symm hne), List.getElem?_set_ne (Ne.symm hne)]
    exact I.self_ j hj
end

/-! ### statements -/
/-- from an expression to a statement -/
def mDo (m : ME) (k : D → MS) : MS := fun env st => match m env st with
  | .ok d st1 => k d env st1
  | .err x st1 => .er x env st1
  | .bad => .bad
def mSeq (m n : MS) : MS := fun env st => match m env st with
  | .nx env1 st1 => n env1 st1
  | o => o
def mNx : MS := fun env st => .nx env st
def mBrk : MS := fun env st => .bk env st
def mCnt : MS := fun env st => .ct env st
def mSet (i : Nat) (m : ME) : MS := mDo m fun d env st => .nx (env.set i (some d)) st
def mRet (m : ME) : MS := mDo m fun d _ st => .rt d st
def mRetN : MS := fun _ st => .rt .non st
def mDrop (m : ME) : MS := mDo m fun _ env st => .nx env st
def mIfS (t : MT) (m n : MS) : MS := fun env st => match t env st with
  | .ok k st1 => if k = true then m env st1 else n env st1
  | .err x st1 => .er x env st1
  | .bad => .bad
/-- a target -/
abbrev MG := D → Env' → Option Env'
def gNm (i : Nat) : MG := fun d env => some (env.set i (some d))
def gsNil : List D → Env' → Option Env' := fun ds env => match ds with
  | [] => some env
  | _ => none
def gsCons (g : MG) (r : List D → Env' → Option Env') : List D → Env' → Option Env' := fun ds env => match ds with
  | d :: ds => (g d env).bind (r ds)
  | [] => none
def gTp (r : List D → Env' → Option Env') : MG := fun d env => match d with
  | .tup ds => r ds env
  | _ => none
def mAsg (m : ME) (g : MG) : MS := mDo m fun d env st => match g d env with
  | some env1 => .nx env1 st
  | none => .bad

section
variable {G : Glb} {X : Cx} {W : WX} {Ob : Ow} {OE : Ow → Prop} {O O1 O2 : Ow} {pos : Pos} {s : Stmt} {rest : List Stmt} {m n : MS} {e : Expr} {me : ME}
theorem dss_nil : DSs G X W Ob OE O [] O mNx := ⟨_, pss_nil, fun b S env st σ H D I h => h S σ H (.refl _) I⟩
theorem dss_cons (h1 : DS G X W Ob OE O s O1 m) (h2 : DSs G X W Ob OE O1 rest O2 n) : DSs G X W Ob OE O (s :: rest) O2 (mSeq m n) := by
  obtain ⟨t, p, w⟩ := h1.ex
  obtain ⟨u, q, w2⟩ := h2.ex
  refine ⟨_, pss_cons p q, fun b S env st σ H D I h => w b S env st σ H _ I ?_⟩
  unfold mSeq at h
  cases e : m env st with
  | nx env1 st1 =>
    rw [e] at h
    intro S1 σ1 H1 x1 I1
    exact w2 b S1 env1 st1 σ1 H1 D I1 (h.from_ x1)
  | rt d st1 => rw [e] at h; exact h
  | bk env1 st1 => rw [e] at h; exact h
  | ct env1 st1 => rw [e] at h; exact h
  | er x env1 st1 => rw [e] at h; exact h
  | bad => rw [e] at h; exact h
theorem dss_one (h1 : DS G X W Ob OE O s O1 m) : DSs G X W Ob OE O [s] O1 m := let ⟨t, p, w⟩ := h1.ex; ⟨t, pss_one p, w⟩
/-- an expression first -/
theorem do_part {k : D → MS} {t : TE} {b : Act} {S : Hp} {env : Env'} {st : List D} {σ : L2.St} {H : Hp} {D : Ends} {Q : VK} (hO : OE O)
    (w : ∀ (b : Act) S env st σ H Q, DI G b O S env st σ H → wpR (me env st) (fun d st' => Post G b.ad S H d st' Q) (fun x st' => PostX G b.ad S H x st' fun c dd H' => W c dd σ H') → t σ H Q) (I : DI G b O S env st σ H)
    (h : PostS G b Ob OE W O1 D S (mDo me k env st))
    (q : ∀ v d S' H' st', DI G b O S' env st' σ H' → Rep G b.ad S' v d → PostS G b Ob OE W O1 D S' (k d env st') → Q v H') : t σ H Q := by
  refine w b S env st σ H Q I ?_
  unfold mDo at h
  cases e : me env st with
  | ok d st1 =>
    rw [e] at h
    intro v S' H' x su so r
    exact q v d S' H' st1 (I.ext x su so) r (h.from_ x.same)
  | err x st1 =>
    rw [e] at h
    intro cls dd S' H' x su so r
    exact h cls dd O S' σ H' hO x.same (I.ext x su so) r
  | bad => rw [e] at h; exact h.elim
theorem ds_set (i : Nat) {x : Str} {pos' : Pos} (hN : X.N.Nodup) (he : DE G X W O e me) (hO : OE O := by first | trivial | rfl) (hi : X.N[i]? = some x := by rfl) (ho : O.has i = false := by rfl) (hx : Loc X.env.scope x := by first | exact Or.inl rfl | exact Or.inr rfl)
    (hs : swapsWith e (some (.Name x pos')) pos.line X.env = pure false := by rfl) (hf : X.fn x = true ∨ X.env.scope.names.lookup x = some .local := by first | exact .inl rfl | exact .inr rfl) : DS G X W Ob OE O (.Assign [.Name x pos'] e pos) O (mSet i me) := by
  obtain ⟨t, p, w⟩ := he.ex
  exact ⟨_, ps_set hN hi hx p hs hf, fun b S env st σ H D I h => do_part hO w I h fun v d S' H' st' I' r q => q _ _ _ (.refl _) (I'.set r ho)⟩
theorem ds_ret (he : DE G X W O e me) (hO : OE O := by first | trivial | rfl) : DS G X W Ob OE O (.Return (some e) pos) O1 (mRet me) := by
  obtain ⟨t, p, w⟩ := he.ex
  exact ⟨_, ps_ret p, fun b S env st σ H D I h => do_part hO w I h fun v d S' H' st' I' r q => q v S' H' I'.fin I'.sub I'.sto r⟩
theorem ds_retN : DS G X W Ob OE O (.Return none pos) O1 mRetN := ⟨_, ps_retN, fun b S env st σ H D I h => h .non S H I.fin I.sub I.sto .non⟩
theorem ds_expr (he : DE G X W O e me) (hO : OE O := by first | trivial | rfl) (hs : swapsWith e none pos.line X.env = pure false := by rfl) : DS G X W Ob OE O (.Expr e pos) O (mDrop me) := by
  obtain ⟨t, p, w⟩ := he.ex
  exact ⟨_, ps_expr p hs, fun b S env st σ H D I h => do_part hO w I h fun v d S' H' st' I' r q => q S' σ H' (.refl _) I'⟩
theorem ds_pass : DS G X W Ob OE O (.Pass pos) O mNx := ⟨_, ps_pass, fun b S env st σ H D I h => h S σ H (.refl _) I⟩
theorem ds_break : DS G X W O OE O (.Break pos) O1 mBrk := ⟨_, ps_break, fun b S env st σ H D I h => h S σ H (.refl _) I⟩
theorem ds_cont : DS G X W O OE O (.Continue pos) O1 mCnt := ⟨_, ps_continue, fun b S env st σ H D I h => h S σ H (.refl _) I⟩
theorem ds_if {c : Expr} {a b : List Stmt} {t : MT} (hc : DT G X W O c t) (ha : DSs G X W Ob OE O a O1 m) (hb : DSs G X W Ob OE O b O1 n) (hO : OE O := by first | trivial | rfl) : DS G X W Ob OE O (.If c a b pos) O1 (mIfS t m n) := by
  obtain ⟨tc, pc, wc⟩ := hc.ex
  obtain ⟨ta, pa, wa⟩ := ha.ex
  obtain ⟨tb, pb, wb⟩ := hb.ex
  refine ⟨_, ps_if pc pa pb, fun b S env st σ H D I h => wc b S env st σ H _ I ?_⟩
  unfold mIfS at h
  cases e : t env st with
  | ok k st1 =>
    rw [e] at h
    intro S' H' x su so
    cases k with
    | true => exact wa b S' env st1 σ H' D (I.ext x su so) (h.from_ x.same)
    | false => exact wb b S' env st1 σ H' D (I.ext x su so) (h.from_ x.same)
  | err x st1 =>
    rw [e] at h
    intro cls dd S' H' x su so r
    exact h cls dd O S' σ H' hO x.same (I.ext x su so) r
  | bad => rw [e] at h; exact h.elim

/-! ### targets -/
/-- the slots out of ix stay -/
def Stay (ix : List Nat) (σ σ' : L2.St) : Prop := σ'.length = σ.length ∧ ∀ j, j ∉ ix → σ'[j]? = σ[j]?
structure DG (G : Glb) (X : Cx) (O : Ow) (ix : List Nat) (tg : Expr) (g : MG) : Prop where
  ex : ∃ t, PG X tg t ∧ ∀ (b : Act) S env env' st σ H v d Q, DI G b O S env st σ H → Rep G b.ad S v d → g d env = some env' → (∀ σ', Stay ix σ σ' → DI G b O S env' st σ' H → Q σ' H) → t v σ H Q
structure DGs (G : Glb) (X : Cx) (O : Ow) (ix : List Nat) (ts : List Expr) (g : List D → Env' → Option Env') : Prop where
  ex : ∃ t, PGs X ts t ∧ ∀ (b : Act) S env env' st σ H vs ds Q, DI G b O S env st σ H → Reps G b.ad S vs ds → g ds env = some env' → (∀ σ', Stay ix σ σ' → DI G b O S env' st σ' H → Q σ' H) → t vs σ H Q
theorem dg_name (i : Nat) {x : Str} (hN : X.N.Nodup) (hi : X.N[i]? = some x := by rfl) (ho : O.has i = false := by rfl) (hx : Loc X.env.scope x := by first | exact Or.inl rfl | exact Or.inr rfl) (hf : X.fn x = true ∨ X.env.scope.names.lookup x = some .local := by first | exact .inl rfl | exact .inr rfl) : DG G X O [i] (.Name x pos) (gNm i) := by
  refine ⟨_, pg_name hN hi hx hf, fun b S env env' st σ H v d Q I r e q => ?_⟩
  cases e
  exact q _ ⟨List.length_set, fun j hj => List.getElem?_set_ne (fun z => hj (by rw [z]; exact List.mem_singleton.mpr rfl))⟩ (I.set r ho)
theorem dgs_nil : DGs G X O [] [] gsNil := by
  refine ⟨_, pgs_nil, fun b S env env' st σ H vs ds Q I r e q => ?_⟩
  cases r with
  | nil => cases e; exact ⟨rfl, q σ ⟨rfl, fun _ _ => rfl⟩ I⟩
  | cons _ _ => cases e
theorem dgs_cons {ix jx : List Nat} {t : Expr} {ts : List Expr} {g : MG} {gs : List D → Env' → Option Env'} (h1 : DG G X O ix t g) (h2 : DGs G X O jx ts gs) (hs : (assignEach (t :: ts) X.env).map (·.2) = assign t X.env :: (assignEach ts X.env).map (·.2) := by rfl) : DGs G X O (ix ++ jx) (t :: ts) (gsCons g gs) := by
  obtain ⟨t1, p1, w1⟩ := h1.ex
  obtain ⟨t2, p2, w2⟩ := h2.ex
  refine ⟨_, pgs_cons p1 p2 hs, fun b S env env' st σ H vs ds Q I r e q => ?_⟩
  cases r with
  | nil => cases e
  | cons r rr =>
    rename_i v d vs ds
    have e' : (g d env).bind (gs ds) = some env' := e
    cases e1 : g d env with
    | none => rw [e1] at e'; cases e'
    | some env1 =>
      rw [e1] at e'
      exact ⟨_, _, rfl, w1 b S env env1 st σ H v d _ I r e1 fun σ1 y1 I1 => w2 b S env1 env' st σ1 H _ ds Q I1 rr e' fun σ2 y2 I2 => q σ2 ⟨y2.1.trans y1.1, fun j hj => (y2.2 j fun z => hj (List.mem_append_right _ z)).trans (y1.2 j fun z => hj (List.mem_append_left _ z))⟩ I2⟩
theorem dg_tup {ix : List Nat} {es : List Expr} {k : Nat} {gs : List D → Env' → Option Env'} {l : Nat} (hc : X.calm = true) (hK : X.K = G.K) (h : DGs G X O ix es gs) (hlen : ∀ ds env env', gs ds env = some env' → ds.length = l) (hn : (assignEach es X.env).length = l := by rfl) (hst : (assignEach es X.env).findIdx? (·.1) = none := by rfl) : DG G X O ix (.Tuple es k pos) (gTp gs) := by
  obtain ⟨t, p, w⟩ := h.ex
  refine ⟨_, pg_tup hc p hn hst, fun b S env env' st σ H v d Q I rv e q => ?_⟩
  cases rv <;> try cases e
  rename_i a vs ds h1 h2
  have e' : gs ds env = some env' := e
  refine ⟨a, vs, rfl, hK ▸ Same.sqT I.sub h1.sqT, ?_, w b S env env' st σ H vs ds Q I h2 e' q⟩
  rw [h2.len]
  exact hlen _ _ _ e'
theorem gsNil_len : ∀ ds env env', gsNil ds env = some env' → ds.length = 0 := fun ds env env' h => by
  cases ds with
  | nil => rfl
  | cons _ _ => cases h
theorem gsCons_len {g : MG} {r : List D → Env' → Option Env'} {l : Nat} (h : ∀ ds env env', r ds env = some env' → ds.length = l) : ∀ ds env env', gsCons g r ds env = some env' → ds.length = l + 1 := fun ds env env' e => by
  cases ds with
  | nil => cases e
  | cons d ds =>
    have e' : (g d env).bind (r ds) = some env' := e
    cases e1 : g d env with
    | none => rw [e1] at e'; cases e'
    | some env1 =>
      rw [e1] at e'
      exact congrArg (· + 1) (h _ _ _ e')
theorem ds_asg {ix : List Nat} {tg : Expr} {g : MG} (he : DE G X W O e me) (hg : DG G X O ix tg g) (hO : OE O := by first | trivial | rfl) (hs : swapsWithSole [tg] e pos.line X.env = pure false := by rfl) (hw : swappedStores [tg] e X.env = pure none := by rfl)
    (h1 : (assignEach [tg] X.env).map (·.2) = [assign tg X.env] := by rfl) : DS G X W Ob OE O (.Assign [tg] e pos) O (mAsg me g) := by
  obtain ⟨t, p, w⟩ := he.ex
  obtain ⟨tg', pg, wg⟩ := hg.ex
  refine ⟨_, ps_asg p pg hs hw h1, fun b S env st σ H D I h => do_part hO w I h fun v d S' H' st' I' r q => ?_⟩
  cases e1 : g d env with
  | none => rw [e1] at q; exact q.elim
  | some env1 =>
    rw [e1] at q
    exact wg b S' env env1 st' σ H' v d _ I' r e1 fun σ' _ I1 => q _ _ _ (.refl _) I1
/-- a, b = x, y, plain local names -/
def mPar (i j : Nat) (ma : MA) : MS := fun env st => match ma env st with
  | .ok [d, e] st1 => .nx ((env.set i (some d)).set j (some e)) st1
  | .err x st1 => .er x env st1
  | _ => .bad
theorem ds_par (i j : Nat) {x y : Str} {a b : Expr} {ma : MA} {px py pt : Pos} {kt k2 pt2} (hc : X.calm = true) (hN : X.N.Nodup) (ha : DA G X W O [a, b] ma) (hO : OE O := by first | trivial | rfl) (hi : X.N[i]? = some x := by rfl) (hj : X.N[j]? = some y := by rfl) (hij : i ≠ j := by decide)
    (hoi : O.has i = false := by rfl) (hoj : O.has j = false := by rfl)
    (hx : X.env.scope.names.lookup x = some .local := by rfl) (hy : X.env.scope.names.lookup y = some .local := by rfl)
    (hw : swappedStores [.Tuple [.Name x px, .Name y py] kt pt] (.Tuple [a, b] k2 pt2) X.env = pure (some [x, y]) := by rfl)
    (hs : swapsWithSole [.Tuple [.Name x px, .Name y py] kt pt] (.Tuple [a, b] k2 pt2) pos.line X.env = pure false := by rfl) :
    DS G X W Ob OE O (.Assign [.Tuple [.Name x px, .Name y py] kt pt] (.Tuple [a, b] k2 pt2) pos) O (mPar i j ma) := by
  obtain ⟨t, p, w⟩ := ha.ex
  refine ⟨_, ps_par hc hN hi hj hij hx hy p hw hs, fun b S env st σ H D I h => w b S env st σ H _ I ?_⟩
  unfold mPar at h
  cases e : ma env st with
  | ok ds st1 =>
    rw [e] at h
    intro vs S' H' x su so r
    match ds, r, h with
    | [d1, d2], .cons r1 (.cons r2 .nil), h =>
      refine ⟨_, _, rfl, h _ _ _ x.same (DI.set (DI.set (I.ext x su so) r1 hoi) r2 hoj)⟩
    | [], _, h => exact h.elim
    | [_], _, h => exact h.elim
    | _ :: _ :: _ :: _, _, h => exact h.elim
  | err x st1 =>
    rw [e] at h
    intro cls dd S' H' x su so r
    exact h cls dd O S' σ H' hO x.same (I.ext x su so) r
  | bad => rw [e] at h; exact h.elim
end

/-! ### defs -/
/-- a body as a function of the arguments' data -/
def fnM (n : Nat) (m : MS) (ds : List D) : M D := fun st => match m (ds.map some ++ List.replicate (n - ds.length) none) st with
  | .nx _ st1 => .ok .non st1
  | .rt d st1 => .ok d st1
  | .er x _ st1 => .err x st1
  | _ => .bad
/-- a def's promise -/
def spD (G : Glb) (n : Nat) (m : List D → M D) : Sp := fun vs H Q E => ∃ (b : Act) (ds : List D) (st : List D), b.H = H ∧ vs.length = n ∧ Same b.S b.H ∧ StoOk G b.ad b.S st b.H ∧ Reps G b.ad b.S vs ds ∧
  wpR (m ds st) (fun d st' => Post G b.ad b.S b.H d st' Q) (fun x st' => PostX G b.ad b.S b.H x st' E)
/-- what holds in a body (or in a part of it) -/
structure XC (k : Nat) (G : Glb) (X : Cx) (W : WX) : Prop where
  tk : Takes X W
  po : PassesOwn (model X.prog X.w) X.A X.env X.xe
  calm : X.calm = true
  hr : Room k X.A
  K : X.K = G.K
/-- .. of a whole body, for a try -/
structure XT (X : Cx) : Prop where
  stk : X.stack = X.env :: X.outer
  fr : X.env.frame = some X.env.locals

section
variable {P : Program} {w : World} {K : PySem.W.Frag} {mg : Str → Option Value} {base : Heap}
theorem fnD {G : Glb} {x qual : Str} {st : Stmt} {f : Addr} {fd : FuncData} {N ps : List Str} {k : Nat} {m : MS} {O' : Ow} (F : Fun K x qual st f fd) (S : FnScope N ps (defScope st)) (hK : K = G.K)
    (hbody : ∀ (cdv : Value) (A : Around) (outer : List Env) (s : Shared) (H : Hp) (E : XK), XC k G (cxOf (L2.CX P w) P w K mg base N qual (defScope st) f cdv A outer s H E) (fun cls d _ H' => E cls d H') → XT (cxOf (L2.CX P w) P w K mg base N qual (defScope st) f cdv A outer s H E) →
      DSs G (cxOf (L2.CX P w) P w K mg base N qual (defScope st) f cdv A outer s H E) (fun cls d _ H' => E cls d H') {} (fun _ => True) {} (defBody st) O' m) :
    FnOk P w K mg base (L2.CX P w) (k + 1) f fd ps (spD G ps.length (fnM N.length m)) := by
  refine F.okX S (fun vs H Q E h => ?_) fun cdv A outer s H vs Q E hr h => ?_
  · obtain ⟨_, _, _, _, hl, _⟩ := h
    exact hl
  · obtain ⟨b, ds, st0, rfl, hl, hs, so, r, h⟩ := h
    have xc : XC k G (cxOf (L2.CX P w) P w K mg base N qual (defScope st) f cdv A outer s b.H E) (fun cls d _ H' => E cls d H') :=
      { tk := takes_of rfl rfl rfl rfl, po := passes_of rfl, calm := rfl, hr := hr, K := hK }
    obtain ⟨t, p, wt⟩ := (hbody cdv A outer s b.H E xc ⟨rfl, rfl⟩).ex
    refine ⟨t, p, ?_⟩
    have I := DI.start (n := N.length - vs.length) hs so r
    refine wt b b.S _ st0 _ b.H _ I ?_
    have hn : N.length - vs.length = N.length - ds.length := by rw [r.len]
    rw [hn]
    unfold fnM at h
    cases e : m (ds.map some ++ List.replicate (N.length - ds.length) none) st0 with
    | nx env st1 =>
      rw [e] at h
      intro S1 σ1 H1 _ I1
      exact h .non S1 H1 I1.fin I1.sub I1.sto .non
    | rt d st1 =>
      rw [e] at h
      intro v S1 H1 x1 su1 so1 r1
      exact h v S1 H1 x1 su1 so1 r1
    | bk env st1 => rw [e] at h; exact h.elim
    | ct env st1 => rw [e] at h; exact h.elim
    | er x env st1 =>
      rw [e] at h
      intro cls dd O' S1 σ1 H1 _ _ I1 rx
      exact h cls dd S1 H1 I1.fin I1.sub I1.sto rx
    | bad => rw [e] at h; exact h.elim
end

def Len (ma : MA) (n : Nat) : Prop := ∀ env st ds st', ma env st = .ok ds st' → ds.length = n
theorem len_nil : Len mNil 0 := fun env st ds st' h => by cases h; rfl
theorem len_cons {me : ME} {ma : MA} {n : Nat} (h : Len ma n) : Len (mCons me ma) (n + 1) := fun env st ds st' e => by
  unfold mCons at e
  cases e1 : me env st with
  | ok d st1 =>
    rw [e1] at e
    have e' : (ma env st1).bind (fun xs st2 => Res.ok (d :: xs) st2) = .ok ds st' := e
    cases e2 : ma env st1 with
    | ok ds2 st2 =>
      rw [e2] at e'
      have e3 : Res.ok (d :: ds2) st2 = .ok ds st' := e'
      cases e3
      exact congrArg (· + 1) (h _ _ _ _ e2)
    | err x s => rw [e2] at e'; cases e'
    | bad => rw [e2] at e'; cases e'
  | err x s => rw [e1] at e; cases e
  | bad => rw [e1] at e; cases e
def mCall (f : List D → M D) (ma : MA) : ME := fun env st => (ma env st).bind f
section
variable {G : Glb} {X : Cx} {W : WX} {O : Ow} {pos p : Pos} {x : Str} {e : Expr} {es : List Expr} {ma : MA} {k j n : Nat} {f : Addr} {fd : FuncData} {ps : List Str} {m : List D → M D}
theorem de_call (c : XC k G X W) (F : FnOk X.prog X.w X.K X.mg X.base (L2.CX X.prog X.w) j f fd ps (spD G n m)) (hm : X.mg x = some (.ref f)) (hk : PySem.W.keepIn X.K (.ref f) = true) (hb : Binds X.K fd ps []) (ha : DA G X W O (e :: es) ma)
    (hjk : j ≤ k := by decide) (hln : Len ma n) (hg : Gl X x := by rfl) (hdb : (x == ("__debug__" : Str)) = false := by decide) (he : starEach (e :: es) X.env = (false, eval e X.env) :: starEach es X.env := by rfl) (hpl : (backTo pos (starEach es X.env)).any (·.1) = false := by rfl) :
    DE G X W O (.Call (.Name x p) (e :: es) [] pos) (mCall m ma) := by
  obtain ⟨t, pa, w⟩ := ha.ex
  refine ⟨_, pe_callS F (c.hr.mono hjk) hg hm hk hb (fun σ => passAt c.tk σ) pa hdb he hpl, fun b S env st σ H Q I h => w b S env st σ H _ I ?_⟩
  have h' := wpR_bind h
  cases ea : ma env st with
  | ok ds st1 =>
    rw [ea] at h'
    intro vs S1 H1 x1 su1 so1 r1
    exact ⟨⟨S1, H1, b.ad⟩, ds, st1, rfl, by rw [r1.len]; exact hln env st ds st1 ea, su1, so1, r1, wpR_imp h' (fun _ _ z => z.from_ x1 so1) fun _ _ z => z.from_ x1 so1⟩
  | err x st1 => rw [ea] at h'; exact h'
  | bad => rw [ea] at h'; exact h'.elim
end
end DL

/-! DL, fourth part: errors, loops, comprehensions. -/
namespace DL
open PySem PySem.Spec PyProof.Rows L2

/-! ### errors without fields -/
/-- an own class without __init__, called without arguments -/
theorem pmk_none {X : Cx} {C : Addr} {bmB : List Value} {B newId initId : String} {x : Str} {p pos : Pos} (F : ExcBaseFacts B newId initId bmB) (q : PySem.W.excIn X.K C bmB newId = true) (gC : X.mg x = some (.ref C))
    (kC : PySem.W.keepIn X.K (.ref C) = true) (r : Raises X (.ref C)) (hg : Gl X x) (hdb : (x == ("__debug__" : Str)) = false := by decide) : PMk X (.Call (.Name x p) [] [] pos) (fun _ H Q => Q (.ref C) none H) := by
  intro pins s σ H Q I h
  refine wpAny_Call_Name_kw (ld_glob I hg gC ?_ hdb)
  refine PySem.W.callWith_K0 I.kIn kC ?_
  show wpAny _ _ (call (.ref C) []) _ _ _
  obtain ⟨bm, N, nm, qn, bs, hdct, sn, sub, ab, col, dd, k0, k1, k2, k3, k5, mN, hC, hN, hni, T⟩ := exc_obj I.kIn q
  exact wpAny_call_exc_subT F T hC hN hni (fun h' e hm => mk_of I hm r h (I.hok.gone hm.new)) (Nat.zero_le _)
/-- what an own error class without __init__ must have -/
structure ErrC (G : Glb) (mg : Str → Option Value) (x : Str) (c : Nat) : Prop where
  g : mg x = some (.ref (G.cl c))
  ex : PySem.W.excIn G.K (G.cl c) [.type "ValueError", .type "Exception", .type "BaseException", .type "object"] "ValueError.__new__" = true
  kp : PySem.W.keepIn G.K (.ref (G.cl c)) = true
  sub : PySem.W.subIn G.K (.ref (G.cl c)) (.type "BaseException") = some true
  ty : PySem.W.typeIn G.K (.ref (G.cl c)) = some (.type "type")
def mRaise0 (c : Nat) : MS := fun env st => .er ⟨c, none⟩ env st
section
variable {G : Glb} {X : Cx} {W : WX} {Ob : Ow} {OE : Ow → Prop} {O O1 : Ow} {pos : Pos} {k : Nat}
theorem ds_raise0 {x : Str} {c : Nat} {p pos' : Pos} (xc : XC k G X W) (T : ErrC G X.mg x c) (hO : OE O := by first | trivial | rfl) (hg : Gl X x := by rfl) (hdb : (x == ("__debug__" : Str)) = false := by decide) :
    DS G X W Ob OE O (.Raise (some (.Call (.Name x p) [] [] pos')) none pos) O1 (mRaise0 c) := by
  refine ⟨_, ps_raise xc.calm xc.tk (pmk_none PySem.F.excBase_ValueError (by rw [xc.K]; exact T.ex) T.g (by rw [xc.K]; exact T.kp) (raises_own (by rw [xc.K]; exact T.sub) (by rw [xc.K]; exact T.ty)) hg hdb), fun b S env st σ H D I h => ?_⟩
  exact h _ _ O S σ H hO (.refl _) I ⟨rfl, rfl⟩
end

/-! ### what is walked -/
def IterOK (G : Glb) (ad : List Addr) (S : Hp) (J : It) (ds : List D) : Prop :=
  ∀ (i : Nat) (S' H' : Hp), Same S S' → Same S' H' → (i = ds.length → J.stop i H') ∧ ∀ d, ds[i]? = some d → J.go i H' ∧
    ∀ x H'', J.yld i H' x H'' → ∃ S'', Ext ad S' H' S'' H'' ∧ Same S'' H'' ∧ (∀ st, StoOk G ad S' st H' → StoOk G ad S'' st H'') ∧ Rep G ad S'' x d
structure DIt (G : Glb) (X : Cx) (W : WX) (O : Ow) (tg iter : Expr) (m : MA) : Prop where
  ex : ∃ wi, PI X tg iter wi ∧ ∀ (b : Act) S env st σ H R, DI G b O S env st σ H →
    wpR (m env st) (fun ds st' => ∀ J S' H', Ext b.ad S H S' H' → Same S' H' → StoOk G b.ad S' st' H' → IterOK G b.ad S' J ds → R J H') (fun x st' => PostX G b.ad S H x st' fun c dd H' => W c dd σ H') → wi σ H R

/-- a list or a tuple -/
def items? : D → M (List D) := fun d st => match d with
  | .lst ds => .ok ds st
  | .rol ds => .ok ds st
  | .tup ds => .ok ds st
  | _ => .bad
def mItems (m : ME) : MA := fun env st => (m env st).bind items?
def rangeD (lo : Int) (n : Nat) : List D := (List.range n).map fun i => .int (lo + (i : Nat))
noncomputable def rng1? : List D → M (List D) := fun ds st => match ds with
  | [.int j] => @ite _ (-(2 ^ 62) ≤ j ∧ j < 2 ^ 62) (Classical.propDecidable _) (.ok (rangeD 0 j.toNat) st) .bad
  | _ => .bad
noncomputable def rng2? : List D → M (List D) := fun ds st => match ds with
  | [.int i, .int j] => @ite _ (-(2 ^ 62) ≤ i ∧ i < 2 ^ 62 ∧ -(2 ^ 62) ≤ j ∧ j < 2 ^ 62) (Classical.propDecidable _) (.ok (rangeD i (j - i).toNat) st) .bad
  | _ => .bad
def mThenA (m : MA) (f : List D → M (List D)) : MA := fun env st => (m env st).bind f
def numbered (ds : List D) : List D := ds.mapIdx fun i d => .tup [.int (i : Nat), d]
def enum? : List D → M (List D) := fun ds st => match ds with
  | [.lst ds] => .ok (numbered ds) st
  | [.rol ds] => .ok (numbered ds) st
  | _ => .bad
def zip? : List D → M (List D) := fun ds st => match ds with
  | [.lst xs, .lst ys] => .ok (List.zipWith (fun x y => .tup [x, y]) xs ys) st
  | _ => .bad

/-- a value walked: a list or a tuple -/
def iSeq (K : PySem.W.Frag) (tl : TE) : TI := fun σ H R => tl σ H fun x H1 => ∃ a, x = .ref a ∧ ((∃ xs, SqL K H1 a xs ∧ R (Itl K a) H1) ∨ (∃ xs, SqT K H1 a xs ∧ R (Itt K a) H1))
theorem pi_seq {X : Cx} {tg l : Expr} {tl : TE} (hl : PE X l tl) : PI X tg l (iSeq X.K tl) := by
  refine ⟨fun pins s σ H R I h => ?_⟩
  refine thn (hl.run pins s σ H _ I h) fun v s1 ⟨x, H1, I1, r1, q1⟩ => ?_
  obtain ⟨a, e, q1⟩ := q1
  subst e
  cases r1
  rcases q1 with ⟨xs, hq, q⟩ | ⟨xs, hq, q⟩
  · obtain ⟨its, rv, p, hz⟩ := I1.list hq
    refine wpAny_pyIter_list p.isList ?_
    exact pi_one (tk := s1.toks) I1 _ (turn_list a _) ⟨_, Heap.get?_push_size _ rfl, rfl, rfl⟩ q
  · obtain ⟨its, rv, p, hz⟩ := I1.tuple hq
    refine wpAny_pyIter_tuple (show s1.heap.IsTuple a its.toArray from p) ?_
    exact pi_one (tk := s1.toks) I1 _ (turn_tuple a _) ⟨_, Heap.get?_push_size _ rfl, rfl, rfl⟩ q

section
variable {G : Glb} {ad : List Addr} {S : Hp}
theorem Same.sqL {K : PySem.W.Frag} {H H' : Hp} {a : Addr} {xs : List V} (e : Same H H') (h : SqL K H a xs) : SqL K H' a xs := e.seq h
/-- no new object -/
theorem still {H' : Hp} {S' : Hp} {x : V} {d : D} (su : Same S' H') (r : Rep G ad S' x d) : ∃ S'', Ext ad S' H' S'' H' ∧ Same S'' H' ∧ (∀ st, StoOk G ad S' st H' → StoOk G ad S'' st H') ∧ Rep G ad S'' x d :=
  ⟨S', .refl _ _ _, su, fun _ z => z, r⟩
theorem iter_list {a : Addr} {vs : List V} {ds : List D} (h : SqL G.K S a vs) (r : Reps G ad S vs ds) : IterOK G ad S (Itl G.K a) ds := by
  intro i S' H' e su
  have h' := (e.trans su).seq h
  refine ⟨fun hi => ⟨vs, h', by rw [r.len, hi]; exact Nat.le_refl _⟩, fun d hd => ?_⟩
  obtain ⟨v, hv, rv⟩ := r.get hd
  refine ⟨⟨vs, v, h', hv⟩, fun x H'' ⟨e1, e2⟩ => ?_⟩
  subst e1
  have e3 : v = x := Option.some.inj (hv.symm.trans (e2 vs h'))
  subst e3
  exact still su (rv.mono e)
theorem iter_tup {a : Addr} {vs : List V} {ds : List D} (h : SqT G.K S a vs) (r : Reps G ad S vs ds) : IterOK G ad S (Itt G.K a) ds := by
  intro i S' H' e su
  have h' := Same.sqT (e.trans su) h
  refine ⟨fun hi => ⟨vs, h', by rw [r.len, hi]; exact Nat.le_refl _⟩, fun d hd => ?_⟩
  obtain ⟨v, hv, rv⟩ := r.get hd
  refine ⟨⟨vs, v, h', hv⟩, fun x H'' ⟨e1, e2⟩ => ?_⟩
  subst e1
  have e3 : v = x := Option.some.inj (hv.symm.trans (e2 vs h'))
  subst e3
  exact still su (rv.mono e)
theorem rangeD_len (lo : Int) (n : Nat) : (rangeD lo n).length = n := by simp [rangeD]
theorem rangeD_get {lo : Int} {n i : Nat} {d : D} (h : (rangeD lo n)[i]? = some d) : i < n ∧ d = .int (lo + (i : Nat)) := by
  have hi : i < n := by
    have := (List.getElem?_eq_some_iff.mp h).1
    rwa [rangeD_len] at this
  refine ⟨hi, ?_⟩
  simp [rangeD, List.getElem?_map, List.getElem?_range hi] at h
  exact h.symm
theorem iter_range (lo : Int) (n : Nat) : IterOK G ad S (Itr lo n) (rangeD lo n) := by
  intro i S' H' e su
  refine ⟨fun hi => ?_, fun d hd => ?_⟩
  · rw [rangeD_len] at hi
    exact Nat.le_of_eq hi.symm
  · obtain ⟨hi, rfl⟩ := rangeD_get hd
    exact ⟨hi, fun x H'' ⟨e1, e2⟩ => by subst e1; subst e2; exact still su (.int _)⟩
theorem pair_new {H' S' : Hp} {T : Addr} {u v : V} {d e : D} (su : Same S' H') (hT : H' T = none) (r1 : Rep G ad S' u d) (r2 : Rep G ad S' v e) :
    ∃ S'', Ext ad S' H' S'' (upd H' T (.tup [u, v])) ∧ Same S'' (upd H' T (.tup [u, v])) ∧ (∀ st, StoOk G ad S' st H' → StoOk G ad S'' st (upd H' T (.tup [u, v]))) ∧ Rep G ad S'' (.ref T) (.tup [d, e]) := by
  refine ⟨upd S' T (.tup [u, v]), ?_, ?_, fun st so => (new_still su so hT).2.2, Rep.tupNew su hT (.cons r1 (.cons r2 .nil))⟩
  · have hs : S' T = none := su.free hT
    refine ⟨fun b o h => by rw [upd_ne (ne_of_none h hs)]; exact h, fun b o h => ?_, fun b o h _ => by rw [upd_ne (ne_of_none h hT)]; exact h⟩
    by_cases hb : b = T
    · subst hb; exact .inr hT
    · rw [upd_ne hb] at h; exact .inl h
  · intro b o h
    by_cases hb : b = T
    · subst hb; rw [upd_same] at h ⊢; exact h
    · rw [upd_ne hb] at h ⊢; exact su _ _ h
theorem numbered_get {ds : List D} {i : Nat} {d : D} (h : (numbered ds)[i]? = some d) : ∃ e, ds[i]? = some e ∧ d = .tup [.int (i : Nat), e] := by
  unfold numbered at h
  rw [List.getElem?_mapIdx] at h
  cases q : ds[i]? with
  | none => rw [q] at h; cases h
  | some e => rw [q] at h; exact ⟨e, rfl, (Option.some.inj h).symm⟩
theorem iter_enum {a : Addr} {vs : List V} {ds : List D} (h : SqL G.K S a vs) (r : Reps G ad S vs ds) : IterOK G ad S (Ite G.K a) (numbered ds) := by
  intro i S' H' e su
  have h' := (e.trans su).seq h
  refine ⟨fun hi => ⟨vs, h', by rw [r.len, hi]; simp [numbered]⟩, fun d hd => ?_⟩
  obtain ⟨d0, hd0, rfl⟩ := numbered_get hd
  obtain ⟨v, hv, rv⟩ := r.get hd0
  refine ⟨⟨vs, v, h', hv⟩, fun x H'' ⟨T, y, e1, hT, e2, e3⟩ => ?_⟩
  subst e1; subst e2
  have e4 : v = y := Option.some.inj (hv.symm.trans (e3 vs h'))
  subst e4
  exact pair_new su hT (.int _) (rv.mono e)
theorem iter_zip {a c : Addr} {vs ws : List V} {ds es : List D} (h : SqL G.K S a vs) (r : Reps G ad S vs ds) (h2 : SqL G.K S c ws) (r2 : Reps G ad S ws es) : IterOK G ad S (Itz G.K a c) (List.zipWith (fun x y => .tup [x, y]) ds es) := by
  intro i S' H' e su
  have h' := (e.trans su).seq h
  have h2' := (e.trans su).seq h2
  refine ⟨fun hi => ⟨vs, ws, h', h2', ?_⟩, fun d hd => ?_⟩
  · rw [List.length_zipWith] at hi
    rw [r.len, r2.len]
    omega
  · rw [List.getElem?_zipWith] at hd
    cases q1 : ds[i]? with
    | none => rw [q1] at hd; simp at hd
    | some d1 =>
      cases q2 : es[i]? with
      | none => rw [q1, q2] at hd; simp at hd
      | some d2 =>
        rw [q1, q2] at hd
        have e0 : D.tup [d1, d2] = d := by simpa using hd
        subst e0
        obtain ⟨v, hv, rv⟩ := r.get q1
        obtain ⟨u, hu, ru⟩ := r2.get q2
        refine ⟨⟨vs, ws, v, u, h', h2', hv, hu⟩, fun x H'' ⟨T, y, z, e1, hT, e2, e3, e4⟩ => ?_⟩
        subst e1; subst e2
        have e5 : v = y := Option.some.inj (hv.symm.trans (e3 vs h'))
        have e6 : u = z := Option.some.inj (hu.symm.trans (e4 ws h2'))
        subst e5; subst e6
        exact pair_new su hT (rv.mono e) (ru.mono e)
end
section
variable {G : Glb} {X : Cx} {W : WX} {O : Ow} {tg e : Expr} {m : ME} {p pos : Pos}
theorem di_seq (hK : X.K = G.K) (h : DE G X W O e m) : DIt G X W O tg e (mItems m) := by
  obtain ⟨t, pe, w⟩ := h.ex
  refine ⟨_, pi_seq pe, fun b S env st σ H R I h => w b S env st σ H _ I (wpR_imp (wpR_bind h) (fun d st1 h1 => ?_) fun _ _ z => z)⟩
  intro v S1 H1 x1 su1 so1 r1
  cases r1 <;> try exact h1.elim
  · rename_i a vs ds h2 h3
    exact ⟨a, rfl, .inr ⟨vs, hK ▸ Same.sqT su1 h2.sqT, hK ▸ h1 _ _ _ x1 su1 so1 (iter_tup h2.sqT h3)⟩⟩
  · rename_i a vs ds h2 h3
    exact ⟨a, rfl, .inl ⟨vs, SqL.of (su1 _ _ h2), hK ▸ h1 _ _ _ x1 su1 so1 (iter_list (SqL.of h2) h3)⟩⟩
  · rename_i a vs ds h2 h3
    exact ⟨a, rfl, .inl ⟨vs, hK ▸ su1.seq h2, hK ▸ h1 _ _ _ x1 su1 so1 (iter_list h2 h3)⟩⟩
theorem args_walk {ta : TA} {ma : MA} {f : List D → M (List D)} {es : List Expr} {b : Act} {S : Hp} {env : Env'} {st : List D} {σ : L2.St} {H : Hp} {R : It → Hp → Prop} {q : List V → Hp → Prop}
    (w : ∀ (b : Act) S env st σ H Q, DI G b O S env st σ H → wpR (ma env st) (fun ds st' => PostA G b.ad S H ds st' Q) (fun x st' => PostX G b.ad S H x st' fun c dd H' => W c dd σ H') → ta σ H Q) (I : DI G b O S env st σ H)
    (h : wpR (mThenA ma f env st) (fun ds st' => ∀ J S' H', Ext b.ad S H S' H' → Same S' H' → StoOk G b.ad S' st' H' → IterOK G b.ad S' J ds → R J H') (fun x st' => PostX G b.ad S H x st' fun c dd H' => W c dd σ H'))
    (k : ∀ vs ds S' H' st', Ext b.ad S H S' H' → Same S' H' → StoOk G b.ad S' st' H' → Reps G b.ad S' vs ds →
      wpR (f ds st') (fun ds st' => ∀ J S2 H2, Ext b.ad S H S2 H2 → Same S2 H2 → StoOk G b.ad S2 st' H2 → IterOK G b.ad S2 J ds → R J H2) (fun x st' => PostX G b.ad S H x st' fun c dd H' => W c dd σ H') → q vs H') : ta σ H q := by
  refine w b S env st σ H _ I (wpR_imp (wpR_bind h) (fun ds st1 h1 => ?_) fun _ _ z => z)
  intro vs S1 H1 x1 su1 so1 r1
  exact k vs ds S1 H1 st1 x1 su1 so1 r1 h1
variable {a a2 : Expr} {ma : MA}
theorem di_range1 (hm : X.mg "range" = none) (ha : DA G X W O [a] ma) (hg : Gl X "range" := by rfl) (hs : starEach [a] X.env = [(false, eval a X.env)] := by rfl) : DIt G X W O tg (.Call (.Name "range" p) [a] [] pos) (mThenA ma rng1?) := by
  obtain ⟨t, pa, w⟩ := ha.ex
  refine ⟨_, pi_range1 hg hm pa hs, fun b S env st σ H R I h => args_walk (es := [a]) w I h fun vs ds S1 H1 st1 x1 su1 so1 r1 h1 => ?_⟩
  unfold rng1? at h1
  split at h1
  · rename_i j
    split at h1
    · rename_i hj
      cases r1 with
      | cons r rr => cases r; cases rr; exact ⟨j, rfl, hj.1, hj.2, h1 _ _ _ x1 su1 so1 (iter_range 0 _)⟩
    · exact h1.elim
  · exact h1.elim
theorem di_range2 (hm : X.mg "range" = none) (ha : DA G X W O [a, a2] ma) (hg : Gl X "range" := by rfl) (hs : starEach [a, a2] X.env = [(false, eval a X.env), (false, eval a2 X.env)] := by rfl) (hs2 : starEach [a2] X.env = [(false, eval a2 X.env)] := by rfl) :
    DIt G X W O tg (.Call (.Name "range" p) [a, a2] [] pos) (mThenA ma rng2?) := by
  obtain ⟨t, pa, w⟩ := ha.ex
  refine ⟨_, pi_range2 hg hm pa hs hs2, fun b S env st σ H R I h => args_walk (es := [a]) w I h fun vs ds S1 H1 st1 x1 su1 so1 r1 h1 => ?_⟩
  unfold rng2? at h1
  split at h1
  · rename_i i j
    split at h1
    · rename_i hj
      cases r1 with
      | cons r rr =>
        cases r
        cases rr with
        | cons r' rr => cases r'; cases rr; exact ⟨i, j, rfl, hj, h1 _ _ _ x1 su1 so1 (iter_range i _)⟩
    · exact h1.elim
  · exact h1.elim
theorem di_enum {elts : List Expr} {kk : Nat} {tpos : Pos} (hK : X.K = G.K) (hm : X.mg "enumerate" = none) (ha : DA G X W O [a] ma) (hg : Gl X "enumerate" := by rfl) (hs : starEach [a] X.env = [(false, eval a X.env)] := by rfl) :
    DIt G X W O (.Tuple elts kk tpos) (.Call (.Name "enumerate" p) [a] [] pos) (mThenA ma enum?) := by
  obtain ⟨t, pa, w⟩ := ha.ex
  refine ⟨_, pi_enum hg hm pa hs, fun b S env st σ H R I h => args_walk (es := [a]) w I h fun vs ds S1 H1 st1 x1 su1 so1 r1 h1 => ?_⟩
  unfold enum? at h1
  split at h1
  · cases r1 with
    | cons r rr =>
      cases rr
      cases r with
      | lst h2 h3 => exact ⟨_, _, rfl, SqL.of (su1 _ _ h2), hK ▸ h1 _ _ _ x1 su1 so1 (iter_enum (SqL.of h2) h3)⟩
  · cases r1 with
    | cons r rr =>
      cases rr
      cases r with
      | rol h2 h3 => exact ⟨_, _, rfl, hK ▸ su1.seq h2, hK ▸ h1 _ _ _ x1 su1 so1 (iter_enum h2 h3)⟩
  · exact h1.elim
theorem di_zip {elts : List Expr} {kk : Nat} {tpos : Pos} (hK : X.K = G.K) (hm : X.mg "zip" = none) (ha : DA G X W O [a, a2] ma) (hg : Gl X "zip" := by rfl)
    (hs : starEach [a, a2] X.env = (false, eval a X.env) :: starEach [a2] X.env := by rfl) (hpl : (backTo pos (starEach [a2] X.env)).any (·.1) = false := by rfl) :
    DIt G X W O (.Tuple elts kk tpos) (.Call (.Name "zip" p) [a, a2] [] pos) (mThenA ma zip?) := by
  obtain ⟨t, pa, w⟩ := ha.ex
  refine ⟨_, pi_zip hg hm pa hs hpl, fun b S env st σ H R I h => args_walk (es := [a]) w I h fun vs ds S1 H1 st1 x1 su1 so1 r1 h1 => ?_⟩
  unfold zip? at h1
  split at h1
  · cases r1 with
    | cons r rr =>
      cases rr with
      | cons r' rr =>
        cases rr
        cases r with
        | lst h2 h3 =>
          cases r' with
          | lst h4 h5 => exact ⟨_, _, _, _, rfl, SqL.of (su1 _ _ h2), SqL.of (su1 _ _ h4), hK ▸ h1 _ _ _ x1 su1 so1 (iter_zip (SqL.of h2) h3 (SqL.of h4) h5)⟩
  · exact h1.elim
end

/-! ### for -/
def forD (g : MG) (body : MS) : List D → MS
  | [] => fun env st => .nx env st
  | d :: ds => fun env st => match g d env with
    | none => .bad
    | some env1 => match body env1 st with
      | .nx e s => forD g body ds e s
      | .ct e s => forD g body ds e s
      | .bk e s => .nx e s
      | o => o
def mFor (mi : MA) (g : MG) (body : MS) : MS := fun env st => match mi env st with
  | .ok ds st1 => forD g body ds env st1
  | .err x st1 => .er x env st1
  | .bad => .bad
section
variable {G : Glb} {X : Cx} {W : WX} {Ob : Ow} {OE : Ow → Prop} {O O1 : Ow} {pos : Pos} {k : Nat}
theorem ds_for {ix : List Nat} {tg iter : Expr} {body : List Stmt} {mi : MA} {g : MG} {m : MS} (xc : XC k G X W) (hi : DIt G X W O tg iter mi) (hg : DG G X O ix tg g) (hb : DSs G X W O OE O body O m) (hO : OE O := by first | trivial | rfl)
    (hs : ∀ x, foldedSetIterable iter X.env x = pure x := by intro _; rfl) : DS G X W Ob OE O (.For tg iter body [] pos) O (mFor mi g m) := by
  obtain ⟨wi, pi, wwi⟩ := hi.ex
  obtain ⟨tg', pg, wg⟩ := hg.ex
  obtain ⟨tb, pb, wb⟩ := hb.ex
  refine ⟨_, ps_for xc.po xc.calm pi pg pb hs, fun b S env st σ H D I h => wwi b S env st σ H _ I ?_⟩
  unfold mFor at h
  cases e : mi env st with
  | bad => rw [e] at h; exact h.elim
  | err x st1 =>
    rw [e] at h
    intro cls dd S' H' x su so r
    exact h cls dd O S' σ H' hO x.same (I.ext x su so) r
  | ok ds st1 =>
    rw [e] at h
    intro J S1 H1 x1 su1 so1 it
    refine ⟨fun i n σ' H' => n = ds.length - i ∧ i ≤ ds.length ∧ ∃ S' env' st', Same S1 S' ∧ DI G b O S' env' st' σ' H' ∧ PostS G b Ob OE W O D S' (forD g m (ds.drop i) env' st'), ⟨ds.length, by simp, Nat.zero_le _, S1, env, st1, .refl _, I.ext x1 su1 so1, h.from_ x1.same⟩, ?_⟩
    rintro i n σ' H' ⟨rfl, hi, S', env', st', e1, I', h'⟩
    by_cases hlt : i < ds.length
    · right
      have hd : ds[i]? = some ds[i] := List.getElem?_eq_getElem hlt
      obtain ⟨go, yl⟩ := (it i S' H' e1 I'.sub).2 _ hd
      refine ⟨go, fun σ2 H2 => ds.length - (i + 1) < ds.length - i ∧ ∃ S2 env2 st2, Same S1 S2 ∧ DI G b O S2 env2 st2 σ2 H2 ∧ PostS G b Ob OE W O D S2 (forD g m (ds.drop (i + 1)) env2 st2), fun σ2 H2 ⟨hl, z⟩ => ⟨ds.length - (i + 1), hl, rfl, hlt, z⟩, fun x H'' y => ?_⟩
      obtain ⟨S2, x2, su2, so2, r2⟩ := yl x H'' y
      have I2 : DI G b O S2 env' st' σ' H'' := I'.ext x2 su2 (so2 _ I'.sto)
      rw [List.drop_eq_getElem_cons hlt] at h'
      unfold forD at h'
      cases e2 : g ds[i] env' with
      | none => rw [e2] at h'; exact h'.elim
      | some env1 =>
        rw [e2] at h'
        refine wg b S2 env' env1 st' σ' H'' x ds[i] _ I2 r2 e2 fun σ3 _ I3 => wb b S2 env1 st' σ3 H'' _ I3 ?_
        have lt : ds.length - (i + 1) < ds.length - i := by omega
        dsimp only at h'
        cases e3 : m env1 st' with
        | nx env4 st4 =>
          rw [e3] at h'
          intro S4 σ4 H4 y4 I4
          exact ⟨lt, S4, env4, st4, e1.trans (x2.same.trans y4), I4, h'.from_ (x2.same.trans y4)⟩
        | ct env4 st4 =>
          rw [e3] at h'
          intro S4 σ4 H4 y4 I4
          exact ⟨lt, S4, env4, st4, e1.trans (x2.same.trans y4), I4, h'.from_ (x2.same.trans y4)⟩
        | bk env4 st4 =>
          rw [e3] at h'
          intro S4 σ4 H4 y4 I4
          exact h' S4 σ4 H4 (x2.same.trans y4) I4
        | rt d st4 => rw [e3] at h'; exact h'
        | er x st4 => rw [e3] at h'; exact PostS.from_ x2.same h'
        | bad => rw [e3] at h'; exact h'
    · left
      have hi' : i = ds.length := Nat.le_antisymm hi (Nat.le_of_not_lt hlt)
      refine ⟨(it i S' H' e1 I'.sub).1 hi', ?_⟩
      rw [hi', List.drop_length] at h'
      exact h' S' σ' H' (.refl _) I'
theorem ds_doc {x : Str} {j} {pos' : Pos} : DS G X W Ob OE O (.Expr (.Constant (.str x) j pos) pos') O mNx := ⟨_, ps_doc, fun b S env st σ H D I h => h S σ H (.refl _) I⟩
end

/-! ### while -/
def whileN (c : MT) (m : MS) : Nat → MS
  | 0 => fun _ _ => .bad
  | n + 1 => fun env st => match c env st with
    | .ok k st1 => if k = true then (match m env st1 with
        | .nx e s => whileN c m n e s
        | .ct e s => whileN c m n e s
        | .bk e s => .nx e s
        | o => o) else .nx env st1
    | .err x st1 => .er x env st1
    | .bad => .bad
theorem whileN_more {c : MT} {m : MS} : ∀ (n : Nat) (env : Env') (st : List D), whileN c m n env st ≠ .bad → whileN c m (n + 1) env st = whileN c m n env st := by
  intro n
  induction n with
  | zero => intro env st h; exact absurd rfl h
  | succ n ih =>
    intro env st h
    unfold whileN at h ⊢
    cases e : c env st with
    | bad => rfl
    | err x st1 => rfl
    | ok k st1 =>
      rw [e] at h
      dsimp only at h ⊢
      by_cases hk : k = true
      · rw [if_pos hk] at h ⊢
        rw [if_pos hk]
        cases e2 : m env st1 with
        | nx e s => rw [e2] at h; exact ih e s h
        | ct e s => rw [e2] at h; exact ih e s h
        | bk e s => rfl
        | rt d s => rfl
        | er x e s => rfl
        | bad => rfl
      · rw [if_neg hk, if_neg hk]
theorem whileN_le {c : MT} {m : MS} {n k : Nat} {env : Env'} {st : List D} (h : whileN c m n env st ≠ .bad) (hk : n ≤ k) : whileN c m k env st = whileN c m n env st := by
  induction hk with
  | refl => rfl
  | step _ ih => rw [whileN_more _ _ _ (by rw [ih]; exact h), ih]
open Classical in
/-- a while: the end that it has after enough turns -/
noncomputable def mWhile (c : MT) (m : MS) : MS := fun env st => if h : ∃ n, whileN c m n env st ≠ .bad then whileN c m h.choose env st else .bad
theorem mWhile_of {c : MT} {m : MS} {n : Nat} {env : Env'} {st : List D} {o : Out} (h : whileN c m n env st = o) (ho : o ≠ .bad) : mWhile c m env st = o := by
  have hx : ∃ n, whileN c m n env st ≠ .bad := ⟨n, by rw [h]; exact ho⟩
  unfold mWhile
  rw [dif_pos hx]
  rcases Nat.le_total n hx.choose with q | q
  · rw [whileN_le (by rw [h]; exact ho) q, h]
  · rw [← whileN_le hx.choose_spec q, h]
theorem mWhile_bad {c : MT} {m : MS} {env : Env'} {st : List D} (h : ∀ n, whileN c m n env st = .bad) : mWhile c m env st = .bad := by
  unfold mWhile
  rw [dif_neg fun ⟨n, q⟩ => q (h n)]
/-- one turn -/
theorem mWhile_eq (c : MT) (m : MS) (env : Env') (st : List D) : mWhile c m env st = match c env st with
    | .ok k st1 => if k = true then (match m env st1 with
        | .nx e s => mWhile c m e s
        | .ct e s => mWhile c m e s
        | .bk e s => .nx e s
        | o => o) else .nx env st1
    | .err x st1 => .er x env st1
    | .bad => .bad := by
  by_cases hx : ∃ n, whileN c m n env st ≠ .bad
  · obtain ⟨n, hn⟩ := hx
    rw [mWhile_of rfl hn]
    cases n with
    | zero => exact absurd rfl hn
    | succ n =>
      unfold whileN at hn ⊢
      cases e : c env st with
      | bad => rfl
      | err x st1 => rfl
      | ok k st1 =>
        rw [e] at hn
        dsimp only at hn ⊢
        by_cases hk : k = true
        · rw [if_pos hk] at hn ⊢
          rw [if_pos hk]
          cases e2 : m env st1 with
          | nx e s => rw [e2] at hn; exact (mWhile_of rfl hn).symm
          | ct e s => rw [e2] at hn; exact (mWhile_of rfl hn).symm
          | bk e s => rfl
          | rt d s => rfl
          | er x e s => rfl
          | bad => rfl
        · rw [if_neg hk, if_neg hk]
  · have hx' : ∀ n, whileN c m n env st = .bad := fun n => Classical.byContradiction fun q => hx ⟨n, q⟩
    rw [mWhile_bad hx']
    cases e : c env st with
    | bad => rfl
    | err x st1 =>
      have := hx' 1
      unfold whileN at this
      rw [e] at this; cases this
    | ok k st1 =>
      dsimp only
      by_cases hk : k = true
      · rw [if_pos hk]
        have key : ∀ n, (match m env st1 with
            | .nx e s => whileN c m n e s
            | .ct e s => whileN c m n e s
            | .bk e s => .nx e s
            | o => o) = .bad := fun n => by
          have := hx' (n + 1)
          unfold whileN at this
          rw [e] at this
          dsimp only at this
          rw [if_pos hk] at this
          exact this
        cases e2 : m env st1 with
        | nx e s => rw [e2] at key; exact (mWhile_bad key).symm
        | ct e s => rw [e2] at key; exact (mWhile_bad key).symm
        | bk e s => have := key 0; rw [e2] at this; cases this
        | rt d s => have := key 0; rw [e2] at this; cases this
        | er x e s => have := key 0; rw [e2] at this; cases this
        | bad => rfl
      · have := hx' 1
        unfold whileN at this
        rw [e] at this
        dsimp only at this
        rw [if_neg hk] at this; cases this
section
variable {G : Glb} {X : Cx} {W : WX} {Ob : Ow} {OE : Ow → Prop} {O O1 : Ow} {pos : Pos} {k : Nat}
theorem ds_while {c : Expr} {body : List Stmt} {t : MT} {m : MS} (xc : XC k G X W) (hc : DT G X W O c t) (hb : DSs G X W O OE O body O m) (hO : OE O := by first | trivial | rfl) : DS G X W Ob OE O (.While c body [] pos) O (mWhile t m) := by
  obtain ⟨tc, pc, wc⟩ := hc.ex
  obtain ⟨tb, pb, wb⟩ := hb.ex
  refine ⟨_, ps_while xc.po pc pb, fun b S env st σ H D I h => ?_⟩
  by_cases hx : ∃ n, whileN t m n env st ≠ .bad
  · obtain ⟨n, hn⟩ := hx
    rw [mWhile_of rfl hn] at h
    refine ⟨fun n σ' H' => ∃ S' env' st', DI G b O S' env' st' σ' H' ∧ PostS G b Ob OE W O D S' (whileN t m n env' st'), ⟨n, S, env, st, I, h⟩, ?_⟩
    rintro n σ' H' ⟨S', env', st', I', h'⟩
    refine wc b S' env' st' σ' H' _ I' ?_
    cases n with
    | zero => exact h'.elim
    | succ n =>
      unfold whileN at h'
      cases e : t env' st' with
      | bad => rw [e] at h'; exact h'.elim
      | err x st1 =>
        rw [e] at h'
        intro cls dd S1 H1 x1 su so r
        exact h' cls dd O S1 σ' H1 hO x1.same (I'.ext x1 su so) r
      | ok k st1 =>
        rw [e] at h'
        intro S1 H1 x1 su1 so1
        have I1 := I'.ext x1 su1 so1
        dsimp only at h'
        cases k with
        | false =>
          rw [if_neg Bool.false_ne_true] at h'
          rw [if_neg Bool.false_ne_true]
          exact h' S1 σ' H1 x1.same I1
        | true =>
          rw [if_pos rfl] at h'
          rw [if_pos rfl]
          refine ⟨fun σ2 H2 => ∃ S2 env2 st2, DI G b O S2 env2 st2 σ2 H2 ∧ PostS G b Ob OE W O D S2 (whileN t m n env2 st2), fun σ2 H2 z => ⟨n, Nat.lt_succ_self n, z⟩, wb b S1 env' st1 σ' H1 _ I1 ?_⟩
          cases e2 : m env' st1 with
          | nx e s => rw [e2] at h'; exact fun S2 σ2 H2 y2 I2 => ⟨S2, e, s, I2, h'.from_ (x1.same.trans y2)⟩
          | ct e s => rw [e2] at h'; exact fun S2 σ2 H2 y2 I2 => ⟨S2, e, s, I2, h'.from_ (x1.same.trans y2)⟩
          | bk e s => rw [e2] at h'; exact fun S2 σ2 H2 y2 I2 => h' S2 σ2 H2 (x1.same.trans y2) I2
          | rt d s => rw [e2] at h'; exact h'
          | er x e s => rw [e2] at h'; exact PostS.from_ x1.same h'
          | bad => rw [e2] at h'; exact h'
  · exact absurd h (by rw [mWhile_bad fun n => Classical.byContradiction fun q => hx ⟨n, q⟩]; exact id)
end
end DL

/-! DL, fifth part: operators and built-ins by data. -/
namespace DL
open PySem PySem.Spec PyProof.Rows L2

/-! ### data as the library's data -/
mutual
def toP : D → PyData
  | .non => .none
  | .bl b => .bool b
  | .int i => .int i
  | .str x => .str x
  | .tup xs => .tuple (toPs xs)
  | .lst xs => .list (toPs xs)
  | .rol xs => .list (toPs xs)
  | .ty _ => .dict []
  | .obj _ _ => .dict []
  | .cls _ => .dict []
  | .tok _ => .dict []
  | .dic => .dict []
def toPs : List D → List PyData
  | [] => []
  | x :: xs => toP x :: toPs xs
end
theorem toPs_map : ∀ xs : List D, toPs xs = xs.map toP
  | [] => rfl
  | x :: xs => by rw [toPs, toPs_map xs]; rfl
theorem canAll {x : PyData} {xs : List PyData} (h : PyData.canLayAll0 (x :: xs) = true) : x.canLay0 = true ∧ PyData.canLayAll0 xs = true := by
  have h' : (x.canLay0 && PyData.canLayAll0 xs) = true := by simpa [PyData.canLayAll0] using h
  simpa using h'
section
variable {G : Glb} {ad : List Addr} {S H : Hp}
mutual
theorem Rep.dp (su : Same S H) : ∀ {v : V} {d : D}, Rep G ad S v d → (toP d).canLay0 = true → Dp G.K H v (toP d)
  | _, _, .non, _ => .non
  | _, _, .bl b, _ => .bl b
  | _, _, .int i, _ => .int i
  | _, _, .str x, _ => .str x
  | _, _, .tup h r, c => .tup (Same.sqT su h.sqT) (Reps.dp su r (by simpa [toP, PyData.canLay0] using c))
  | _, _, .lst h r, c => .lst (SqL.of (su _ _ h)) (Reps.dp su r (by simpa [toP, PyData.canLay0] using c))
  | _, _, .rol h r, c => .lst (su.seq h) (Reps.dp su r (by simpa [toP, PyData.canLay0] using c))
  | _, _, .ty _, c => by simp [toP, PyData.canLay0] at c
  | _, _, .obj _ _, c => by simp [toP, PyData.canLay0] at c
  | _, _, .cls _, c => by simp [toP, PyData.canLay0] at c
  | _, _, .tok _, c => by simp [toP, PyData.canLay0] at c
  | _, _, .dic _, c => by simp [toP, PyData.canLay0] at c
theorem Reps.dp (su : Same S H) : ∀ {vs : List V} {ds : List D}, Reps G ad S vs ds → PyData.canLayAll0 (toPs ds) = true → DpAll G.K H vs (toPs ds)
  | _, _, .nil, _ => .nil
  | _, _, .cons h r, c => by
    have c' := canAll c
    exact .cons (Rep.dp su h c'.1) (Reps.dp su r c'.2)
end
end
def eqD (x y : D) : Option Bool := if SeqAt.shaped (toP x) = true ∧ SeqAt.shaped (toP y) = true then some (PyData.eqv (toP x) (toP y)) else none
def dEq (x y : D) : Option D := (eqD x y).map .bl
def dNe (x y : D) : Option D := (eqD x y).map fun b => .bl (!b)
section
variable {G : Glb} {X : Cx}
theorem opd_eq (hK : X.K = G.K) : OpD G (rEqD X.K) dEq := ⟨fun ad S H st x y dx dy d Q su so rx ry e q => by
  unfold dEq eqD at e
  split at e
  · rename_i hs
    have e' : D.bl (PyData.eqv (toP dx) (toP dy)) = d := Option.some.inj e
    subst e'
    exact ⟨_, _, hK ▸ rx.dp su (SeqAt.canLay_of_shaped hs.1), hK ▸ ry.dp su (SeqAt.canLay_of_shaped hs.2), hs.1, hs.2, Post.here su so (.bl _) q⟩
  · cases e⟩
theorem opd_ne (hK : X.K = G.K) : OpD G (rNeD X.K) dNe := ⟨fun ad S H st x y dx dy d Q su so rx ry e q => by
  unfold dNe eqD at e
  split at e
  · rename_i hs
    have e' : D.bl (!PyData.eqv (toP dx) (toP dy)) = d := Option.some.inj e
    subst e'
    exact ⟨_, _, hK ▸ rx.dp su (SeqAt.canLay_of_shaped hs.1), hK ▸ ry.dp su (SeqAt.canLay_of_shaped hs.2), hs.1, hs.2, Post.here su so (.bl _) q⟩
  · cases e⟩
/-- in, not in: a list, a tuple of data -/
def inD (x y : D) : Option Bool := match y with
  | .lst ds => if SeqAt.shaped (toP x) = true ∧ SeqAt.shaped (.list (toPs ds)) = true then some ((toPs ds).any fun z => PyData.eqv z (toP x)) else none
  | .rol ds => if SeqAt.shaped (toP x) = true ∧ SeqAt.shaped (.list (toPs ds)) = true then some ((toPs ds).any fun z => PyData.eqv z (toP x)) else none
  | _ => none
def dIn (x y : D) : Option D := (inD x y).map .bl
def dNotIn (x y : D) : Option D := (inD x y).map fun b => .bl (!b)
theorem opd_in (hK : X.K = G.K) : OpD G (rInD X.K) dIn := ⟨fun ad S H st x y dx dy d Q su so rx ry e q => by
  unfold dIn inD at e
  cases ry <;> try cases e
  all_goals
    rename_i h r
    dsimp only at e
    split at e
    · rename_i hs
      have e' := Option.some.inj e
      subst e'
      have hl := SeqAt.canLay_of_shaped hs.2
      refine ⟨_, _, hK ▸ rx.dp su (SeqAt.canLay_of_shaped hs.1), ?_, hs.1, hs.2, Post.here su so (.bl _) q⟩
      first
        | exact hK ▸ .lst (SqL.of (su _ _ h)) (Reps.dp su r (by simpa [PyData.canLay0] using hl))
        | exact hK ▸ .lst (su.seq h) (Reps.dp su r (by simpa [PyData.canLay0] using hl))
    · cases e⟩
theorem opd_notIn (hK : X.K = G.K) : OpD G (rNotInD X.K) dNotIn := ⟨fun ad S H st x y dx dy d Q su so rx ry e q => by
  unfold dNotIn inD at e
  cases ry <;> try cases e
  all_goals
    rename_i h r
    dsimp only at e
    split at e
    · rename_i hs
      have e' := Option.some.inj e
      subst e'
      have hl := SeqAt.canLay_of_shaped hs.2
      refine ⟨_, _, hK ▸ rx.dp su (SeqAt.canLay_of_shaped hs.1), ?_, hs.1, hs.2, Post.here su so (.bl _) q⟩
      first
        | exact hK ▸ .lst (SqL.of (su _ _ h)) (Reps.dp su r (by simpa [PyData.canLay0] using hl))
        | exact hK ▸ .lst (su.seq h) (Reps.dp su r (by simpa [PyData.canLay0] using hl))
    · cases e⟩

/-! ### ints -/
/-- both sides whole numbers -/
def i2 (f : Int → Int → Option D) : D → D → Option D
  | .int i, .int j => f i j
  | _, _ => none
def i1 (f : Int → D) : D → Option D
  | .int i => some (f i)
  | _ => none
theorem opd_i0 {g : Int → Int → V} {h : Int → Int → D} (hg : ∀ ad S i j, Rep G ad S (g i j) (h i j)) : OpD G (rI0 g) (i2 fun i j => some (h i j)) := ⟨fun ad S H st x y dx dy d Q su so rx ry e q => by
  cases rx <;> try cases e
  cases ry <;> cases e
  exact ⟨_, _, rfl, rfl, Post.here su so (hg _ _ _ _) q⟩⟩
theorem opd_iC {C : Int → Int → Prop} [∀ i j, Decidable (C i j)] {g : Int → Int → V} {h : Int → Int → D} (hg : ∀ ad S i j, Rep G ad S (g i j) (h i j)) : OpD G (rI C g) (i2 fun i j => if C i j then some (h i j) else none) := ⟨fun ad S H st x y dx dy d Q su so rx ry e q => by
  cases rx <;> try cases e
  cases ry <;> try cases e
  rename_i i j
  have e : (if C i j then some (h i j) else none) = some d := e
  by_cases hc : C i j
  · rw [if_pos hc] at e
    cases e
    exact ⟨_, _, rfl, rfl, hc, Post.here su so (hg _ _ _ _) q⟩
  · rw [if_neg hc] at e; cases e⟩
theorem und_i {g : Int → V} {h : Int → D} (hg : ∀ ad S i, Rep G ad S (g i) (h i)) : UnD G (rU g) (i1 h) := ⟨fun ad S H st x dx d Q su so rx e q => by
  cases rx <;> cases e
  exact ⟨_, rfl, Post.here su so (hg _ _ _) q⟩⟩
def dSub : D → D → Option D := i2 fun i j => some (.int (i - j))
def dLt : D → D → Option D := i2 fun i j => some (.bl (decide (i < j)))
def dLe : D → D → Option D := i2 fun i j => some (.bl (decide (i ≤ j)))
def dGt : D → D → Option D := i2 fun i j => some (.bl (decide (j < i)))
def dGe : D → D → Option D := i2 fun i j => some (.bl (decide (j ≤ i)))
def dNeg : D → Option D := i1 fun i => .int (-i)
theorem opd_sub : OpD G (rI0 fun i j => .int (i - j)) dSub := opd_i0 fun _ _ _ _ => .int _
theorem opd_lt : OpD G (rI0 fun i j => .bl (decide (i < j))) dLt := opd_i0 fun _ _ _ _ => .bl _
theorem opd_le : OpD G (rI0 fun i j => .bl (decide (i ≤ j))) dLe := opd_i0 fun _ _ _ _ => .bl _
theorem opd_gt : OpD G (rI0 fun i j => .bl (decide (j < i))) dGt := opd_i0 fun _ _ _ _ => .bl _
theorem opd_ge : OpD G (rI0 fun i j => .bl (decide (j ≤ i))) dGe := opd_i0 fun _ _ _ _ => .bl _
theorem und_neg : UnD G (rU fun i => .int (-i)) dNeg := und_i fun _ _ _ => .int _
/-- the sizes of a product -/
def MulOk (i j : Int) : Prop := i.natAbs < 2 ^ 64 ∨ j.natAbs < 2 ^ 64 ∨ i.natAbs.log2 + j.natAbs.log2 < 1000000
noncomputable instance (i j : Int) : Decidable (MulOk i j) := Classical.propDecidable _
def DivOk (i j : Int) : Prop := j ≠ 0 ∧ (j.natAbs.log2 < 9000 ∨ i.natAbs.log2 < j.natAbs.log2 + 4400)
noncomputable instance (i j : Int) : Decidable (DivOk i j) := Classical.propDecidable _
theorem noPylong_near {x y : Int} (hy : y ≠ 0) (h : x.natAbs.log2 < y.natAbs.log2 + 4400) : Builtin.divisionGoesByPylong x y = false := by
  have e1 : (if y == 0 then 0 else y.natAbs.log2 / 30 + 1) = y.natAbs.log2 / 30 + 1 := if_neg (by simpa using hy)
  have key : (if x == 0 then 0 else x.natAbs.log2 / 30 + 1) ≤ (if y == 0 then 0 else y.natAbs.log2 / 30 + 1) + 150 := by
    rw [e1]
    by_cases hx : (x == 0) = true
    · rw [if_pos hx]; omega
    · rw [if_neg hx]; omega
  show (_ && decide ((if x == 0 then 0 else x.natAbs.log2 / 30 + 1) > (if y == 0 then 0 else y.natAbs.log2 / 30 + 1) + 150)) = false
  rw [decide_eq_false (Nat.not_lt.mpr key), Bool.and_false]
theorem op_mulD : OpR X (binaryOp .Mult) (rI MulOk fun i j => .int (i * j)) := opI fun i j _ _ _ _ _ hc q => by
  refine mul_int q ?_
  rcases hc with h | h | h
  · exact (CMul.ok (i := i) (j := j) (.inl (by omega)))
  · exact (CMul.ok (i := i) (j := j) (.inr (by omega)))
  · exact CMulW.ok h
theorem op_divD : OpR X (binaryOp .FloorDiv) (rI DivOk fun i j => .int (i.fdiv j)) := opI fun i j _ _ _ _ _ hc q => floordiv_int hc.1 q (.inl (hc.2.elim PyProof.noPylong_of_log2 (noPylong_near hc.1)))
theorem op_modD : OpR X (binaryOp .Mod) (rI (fun _ j => j ≠ 0) fun i j => .int (i.fmod j)) := op_modN
noncomputable def dDiv : D → D → Option D := i2 fun i j => if DivOk i j then some (.int (i.fdiv j)) else none
def dMod : D → D → Option D := i2 fun i j => if j ≠ 0 then some (.int (i.fmod j)) else none
theorem opd_div : OpD G (rI DivOk fun i j => .int (i.fdiv j)) dDiv := opd_iC fun _ _ _ _ => .int _
theorem opd_mod : OpD G (rI (fun _ j => j ≠ 0) fun i j => .int (i.fmod j)) dMod := opd_iC (C := fun _ j => j ≠ 0) fun _ _ _ _ => .int _
instance (i j : Int) : Decidable (CPow i j) := inferInstanceAs (Decidable (_ ∧ _ ∧ _))
def dPow : D → D → Option D := i2 fun i j => if CPow i j then some (.int (i ^ j.toNat)) else none
theorem opd_pow : OpD G (rI CPow fun i j => .int (i ^ j.toNat)) dPow := opd_iC fun _ _ _ _ => .int _
/-! ### + and * -/
def dAdd : D → D → Option D
  | .int i, .int j => some (.int (i + j))
  | .str x, .str y => if x.length + y.length ≤ sizeLine then some (.str (x ++ y)) else none
  | .tup xs, .tup ys => if xs.length + ys.length ≤ sizeLine then some (.tup (xs ++ ys)) else none
  | .lst xs, .lst ys => if xs.length + ys.length ≤ sizeLine then some (.lst (xs ++ ys)) else none
  | _, _ => none
theorem op_addD : OpR X (binaryOp .Add) (fun x y H Q => rI0 (fun i j => .int (i + j)) x y H Q ∨ ((∃ i j, x = .str i ∧ y = .str j ∧ i.length + j.length ≤ sizeLine ∧ Q (.str (i ++ j)) H) ∨ (rCatA X.K x y H Q ∨ rCat x y H Q))) := op_add.or (op_add_str.or (op_catA.or op_cat))
theorem opd_add (hK : X.K = G.K) : OpD G (fun x y H Q => rI0 (fun i j => .int (i + j)) x y H Q ∨ ((∃ i j, x = .str i ∧ y = .str j ∧ i.length + j.length ≤ sizeLine ∧ Q (.str (i ++ j)) H) ∨ (rCatA X.K x y H Q ∨ rCat x y H Q))) dAdd := ⟨fun ad S H st x y dx dy d Q su so rx ry e q => by
  unfold dAdd at e
  split at e
  · cases e
    cases rx; cases ry
    exact .inl ⟨_, _, rfl, rfl, Post.here su so (.int _) q⟩
  · split at e <;> cases e
    rename_i hl
    cases rx; cases ry
    exact .inr (.inl ⟨_, _, rfl, rfl, hl, Post.here su so (.str _) q⟩)
  · split at e <;> cases e
    rename_i hl
    cases rx with
    | tup h1 r1 =>
      rename_i a vs
      cases ry with
      | tup h2 r2 =>
        rename_i c ws
        refine .inr (.inr (.inl ⟨a, c, vs, ws, rfl, rfl, hK ▸ Same.sqT su h1.sqT, hK ▸ Same.sqT su h2.sqT, by rw [r1.len, r2.len]; exact hl, fun h0 => ?_, fun h0 h0' => ?_, fun h0 h0' p hp => ?_⟩))
        · subst h0
          cases r1
          exact Post.here su so (.tup h2 r2) q
        · subst h0'
          cases r2
          exact Post.here su so (.tup h1 (by rw [List.append_nil]; exact r1)) q
        · exact Post.tup su so hp (r1.append r2) q
  · split at e <;> cases e
    rename_i hl
    cases rx with
    | lst h1 r1 =>
      rename_i a vs
      cases ry with
      | lst h2 r2 =>
        rename_i c ws
        exact .inr (.inr (.inr ⟨a, c, vs, ws, rfl, rfl, su _ _ h1, su _ _ h2, by rw [r1.len, r2.len]; exact hl, fun p hp => Post.lst su so hp (r1.append r2) q⟩))
  · cases e⟩
def repD (k : Nat) (xs : List D) : List D := (List.replicate k xs).flatten
theorem Reps.rep {ad : List Addr} {S : Hp} {vs : List V} {ds : List D} (r : Reps G ad S vs ds) : ∀ k : Nat, Reps G ad S (List.replicate k vs).flatten (repD k ds)
  | 0 => .nil
  | k + 1 => by
    unfold repD
    rw [List.replicate_succ, List.replicate_succ, List.flatten_cons, List.flatten_cons]
    exact r.append (Reps.rep r k)
noncomputable def dMul : D → D → Option D
  | .int i, .int j => if MulOk i j then some (.int (i * j)) else none
  | .lst xs, .int k => @ite _ (-(2 ^ 63) ≤ k ∧ k < 2 ^ 63 ∧ xs.length * k.toNat ≤ sizeLine) (Classical.propDecidable _) (some (.lst (repD k.toNat xs))) none
  | .tup xs, .int k => if xs ≠ [] ∧ 2 ≤ k ∧ k ≤ 1000 ∧ xs.length ≤ 1000 then some (.tup (repD k.toNat xs)) else none
  | _, _ => none
theorem op_mulD3 : OpR X (binaryOp .Mult) (fun x y H Q => rI MulOk (fun i j => .int (i * j)) x y H Q ∨ (rRep x y H Q ∨ rRepT X.K x y H Q)) := op_mulD.or (op_rep.or op_repT)
theorem opd_mul (hK : X.K = G.K) : OpD G (fun x y H Q => rI MulOk (fun i j => .int (i * j)) x y H Q ∨ (rRep x y H Q ∨ rRepT X.K x y H Q)) dMul := ⟨fun ad S H st x y dx dy d Q su so rx ry e q => by
  unfold dMul at e
  split at e
  · split at e <;> cases e
    rename_i hl
    cases rx; cases ry
    exact .inl ⟨_, _, rfl, rfl, hl, Post.here su so (.int _) q⟩
  · split at e <;> cases e
    rename_i hl
    cases rx with
    | lst h1 r1 =>
      cases ry
      exact .inr (.inl ⟨_, _, _, rfl, rfl, su _ _ h1, hl.1, hl.2.1, by rw [r1.len]; exact hl.2.2, fun p hp => Post.lst su so hp (r1.rep _) q⟩)
  · split at e <;> cases e
    rename_i hl
    cases rx with
    | tup h1 r1 =>
      cases ry
      exact .inr (.inr ⟨_, _, _, rfl, rfl, hK ▸ Same.sqT su h1.sqT, fun z => hl.1 (by subst z; cases r1; rfl), hl.2.1, hl.2.2.1, by rw [r1.len]; exact hl.2.2.2, fun p hp => Post.tup su so hp (r1.rep _) q⟩)
  · cases e⟩
/-! ### is -/
def isNonD : D → Bool
  | .non => true
  | _ => false
theorem isNon_rep {ad : List Addr} {S : Hp} {v : V} {d : D} (r : Rep G ad S v d) : decide (v = .non) = isNonD d := by cases r <;> rfl
def dIsN (x y : D) : Option D := match y with
  | .non => some (.bl (isNonD x))
  | _ => none
def dNotN (x y : D) : Option D := match y with
  | .non => some (.bl (!isNonD x))
  | _ => none
theorem opd_isN : OpD G (fun x y H Q => y = .non ∧ Q (.bl (decide (x = .non))) H) dIsN := ⟨fun ad S H st x y dx dy d Q su so rx ry e q => by
  cases ry <;> cases e
  exact ⟨rfl, by rw [isNon_rep rx]; exact Post.here su so (.bl _) q⟩⟩
theorem opd_notN : OpD G (fun x y H Q => y = .non ∧ Q (.bl (!decide (x = .non))) H) dNotN := ⟨fun ad S H st x y dx dy d Q su so rx ry e q => by
  cases ry <;> cases e
  exact ⟨rfl, by rw [isNon_rep rx]; exact Post.here su so (.bl _) q⟩⟩
def dIsB : D → D → Option D
  | .bl a, .bl b => some (.bl (decide (a = b)))
  | _, _ => none
def dNotB : D → D → Option D
  | .bl a, .bl b => some (.bl (!decide (a = b)))
  | _, _ => none
theorem opd_isB : OpD G (fun x y H Q => ∃ a b, x = .bl a ∧ y = .bl b ∧ Q (.bl (decide (a = b))) H) dIsB := ⟨fun ad S H st x y dx dy d Q su so rx ry e q => by
  cases rx <;> try cases e
  cases ry <;> cases e
  exact ⟨_, _, rfl, rfl, Post.here su so (.bl _) q⟩⟩
theorem opd_notB : OpD G (fun x y H Q => ∃ a b, x = .bl a ∧ y = .bl b ∧ Q (.bl (!decide (a = b))) H) dNotB := ⟨fun ad S H st x y dx dy d Q su so rx ry e q => by
  cases rx <;> try cases e
  cases ry <;> cases e
  exact ⟨_, _, rfl, rfl, Post.here su so (.bl _) q⟩⟩
/-! ### o[i] -/
def dIx : D → D → Option D
  | .lst xs, .int i => atI xs i
  | .rol xs, .int i => atI xs i
  | .tup xs, .int i => atI xs i
  | .str x, .int i => if x.length ≤ sizeLine then (atI x.cps.toList i).map fun c => .str ⟨#[c]⟩ else none
  | _, _ => none
theorem atI_rep {ad : List Addr} {S : Hp} {vs : List V} {ds : List D} {i : Int} {d : D} (r : Reps G ad S vs ds) (h : atI ds i = some d) : ∃ v, atI vs i = some v ∧ Rep G ad S v d := by
  unfold atI at h ⊢
  rw [r.len]
  cases e : ixN ds.length i with
  | none => rw [e] at h; cases h
  | some j =>
    rw [e] at h
    exact r.get (i := j) h
theorem opd_ix (hK : X.K = G.K) : OpD G (rIx X.K) dIx := ⟨fun ad S H st x y dx dy d Q su so rx ry e q => by
  cases ry with
  | int i =>
    cases rx with
    | str z =>
      have e : (if z.length ≤ sizeLine then (atI z.cps.toList i).map fun c => D.str ⟨#[c]⟩ else none) = some d := e
      split at e
      · rename_i hz
        cases ea : atI z.cps.toList i with
        | none => rw [ea] at e; cases e
        | some c =>
          rw [ea] at e
          cases e
          exact .inr (.inr ⟨z, i, c, rfl, rfl, hz, ea, Post.here su so (.str _) q⟩)
      · cases e
    | tup h r =>
      obtain ⟨v, h1, h2⟩ := atI_rep r e
      exact .inr (.inl ⟨_, _, _, _, rfl, rfl, hK ▸ Same.sqT su h.sqT, h1, Post.here su so h2 q⟩)
    | lst h r =>
      obtain ⟨v, h1, h2⟩ := atI_rep r e
      exact .inl ⟨_, _, _, _, rfl, rfl, SqL.of (su _ _ h), h1, Post.here su so h2 q⟩
    | rol h r =>
      obtain ⟨v, h1, h2⟩ := atI_rep r e
      exact .inl ⟨_, _, _, _, rfl, rfl, hK ▸ su.seq h, h1, Post.here su so h2 q⟩
    | _ => cases e
  | _ => cases rx <;> cases e⟩
/-! ### built-ins -/
def c1 (f : D → Option D) : List D → Option D
  | [x] => f x
  | _ => none
theorem reps1 {ad : List Addr} {S : Hp} {vs : List V} {d : D} (r : Reps G ad S vs [d]) : ∃ v, vs = [v] ∧ Rep G ad S v d := by
  cases r with
  | cons h r => cases r; exact ⟨_, rfl, h⟩
theorem reps2 {ad : List Addr} {S : Hp} {vs : List V} {d e : D} (r : Reps G ad S vs [d, e]) : ∃ v w, vs = [v, w] ∧ Rep G ad S v d ∧ Rep G ad S w e := by
  cases r with
  | cons h r =>
    obtain ⟨w, rfl, h2⟩ := reps1 r
    exact ⟨_, _, rfl, h, h2⟩
theorem c1_some {f : D → Option D} {ds : List D} {d : D} (h : c1 f ds = some d) : ∃ x, ds = [x] ∧ f x = some d := by
  match ds, h with
  | [x], h => exact ⟨x, rfl, h⟩
def dAbs : D → Option D := i1 fun i => .int (if i < 0 then -i else i)
theorem cd_abs : CallD G (fun xs H Q => ∃ i, xs = [.int i] ∧ Q (.int (if i < 0 then -i else i)) H) (c1 dAbs) := ⟨fun ad S H st xs ds d Q su so r e q => by
  obtain ⟨x, rfl, e⟩ := c1_some e
  obtain ⟨v, rfl, rv⟩ := reps1 r
  cases rv <;> cases e
  exact ⟨_, rfl, Post.here su so (.int _) q⟩⟩
def dInt1 : D → Option D
  | .int i => some (.int i)
  | .bl b => some (.int (if b then 1 else 0))
  | _ => none
theorem cd_int : CallD G (fun xs H Q => (∃ i, xs = [.int i] ∧ Q (.int i) H) ∨ ∃ k, xs = [.bl k] ∧ Q (.int (if k then 1 else 0)) H) (c1 dInt1) := ⟨fun ad S H st xs ds d Q su so r e q => by
  obtain ⟨x, rfl, e⟩ := c1_some e
  obtain ⟨v, rfl, rv⟩ := reps1 r
  cases rv <;> cases e
  · exact .inr ⟨_, rfl, Post.here su so (.int _) q⟩
  · exact .inl ⟨_, rfl, Post.here su so (.int _) q⟩⟩
def dLen : D → Option D
  | .str x => if x.length ≤ sizeLine then some (.int (x.length : Nat)) else none
  | .lst xs => some (.int (xs.length : Nat))
  | .rol xs => some (.int (xs.length : Nat))
  | .tup xs => some (.int (xs.length : Nat))
  | _ => none
theorem cd_len (hK : X.K = G.K) : CallD G (fun xs H Q => ∃ x n, xs = [x] ∧ LenV X.K x H n ∧ Q (.int n) H) (c1 dLen) := ⟨fun ad S H st xs ds d Q su so r e q => by
  obtain ⟨x, rfl, e⟩ := c1_some e
  obtain ⟨v, rfl, rv⟩ := reps1 r
  cases rv with
  | str z =>
    have e2 : (if z.length ≤ sizeLine then some (D.int (z.length : Nat)) else none) = some d := e
    by_cases hz : z.length ≤ sizeLine
    case neg => rw [if_neg hz] at e2; cases e2
    rw [if_pos hz] at e2
    cases e2
    exact ⟨_, _, rfl, ⟨hz, rfl⟩, Post.here su so (.int _) q⟩
  | tup h r1 => cases e; exact ⟨_, _, rfl, .inr ⟨_, hK ▸ Same.sqT su h.sqT, rfl⟩, by rw [r1.len]; exact Post.here su so (.int _) q⟩
  | lst h r1 => cases e; exact ⟨_, _, rfl, .inl ⟨_, SqL.of (su _ _ h), rfl⟩, by rw [r1.len]; exact Post.here su so (.int _) q⟩
  | rol h r1 => cases e; exact ⟨_, _, rfl, .inl ⟨_, hK ▸ su.seq h, rfl⟩, by rw [r1.len]; exact Post.here su so (.int _) q⟩
  | _ => cases e⟩
def c2i (f : Int → Int → D) : List D → Option D
  | [.int a, .int b] => some (f a b)
  | _ => none
theorem c2i_some {f : Int → Int → D} {ds : List D} {d : D} (h : c2i f ds = some d) : ∃ a b, ds = [.int a, .int b] ∧ d = f a b := by
  match ds, h with
  | [.int a, .int b], h => exact ⟨a, b, rfl, (Option.some.inj h).symm⟩
def dGcd : List D → Option D := c2i fun a b => .int ((Nat.gcd a.natAbs b.natAbs : Nat) : Int)
theorem cd_gcd : CallD G rGcd dGcd := ⟨fun ad S H st xs ds d Q su so r e q => by
  obtain ⟨a, b, rfl, rfl⟩ := c2i_some e
  obtain ⟨v, w, rfl, r1, r2⟩ := reps2 r
  cases r1; cases r2
  exact ⟨a, b, rfl, Post.here su so (.int _) q⟩⟩
/-- list(..), tuple(..) of a list or a tuple -/
def dList : D → Option D
  | .lst xs => some (.lst xs)
  | .rol xs => some (.lst xs)
  | .tup xs => some (.lst xs)
  | _ => none
theorem cd_list (hK : X.K = G.K) : CallD G (fun xs H Q => ∃ p ys, xs = [.ref p] ∧ (SqL X.K H p ys ∨ SqT X.K H p ys) ∧ ∀ l, H l = none → Q (.ref l) (upd H l (.lst ys))) (c1 dList) := ⟨fun ad S H st xs ds d Q su so r e q => by
  obtain ⟨x, rfl, e⟩ := c1_some e
  obtain ⟨v, rfl, rv⟩ := reps1 r
  cases rv with
  | tup h r1 => cases e; exact ⟨_, _, rfl, .inr (hK ▸ Same.sqT su h.sqT), fun l hl => Post.lst su so hl r1 q⟩
  | lst h r1 => cases e; exact ⟨_, _, rfl, .inl (SqL.of (su _ _ h)), fun l hl => Post.lst su so hl r1 q⟩
  | rol h r1 => cases e; exact ⟨_, _, rfl, .inl (hK ▸ su.seq h), fun l hl => Post.lst su so hl r1 q⟩
  | _ => cases e⟩
def dTuple : D → Option D
  | .lst xs => some (.tup xs)
  | .rol xs => some (.tup xs)
  | .tup xs => some (.tup xs)
  | _ => none
theorem cd_tuple (hK : X.K = G.K) : CallD G (fun xs H Q => ∃ p ys, xs = [.ref p] ∧ ((SqL X.K H p ys ∧ ∀ l, H l = none → Q (.ref l) (upd H l (.tup ys))) ∨ (SqT X.K H p ys ∧ Q (.ref p) H))) (c1 dTuple) := ⟨fun ad S H st xs ds d Q su so r e q => by
  obtain ⟨x, rfl, e⟩ := c1_some e
  obtain ⟨v, rfl, rv⟩ := reps1 r
  cases rv with
  | tup h r1 => cases e; exact ⟨_, _, rfl, .inr ⟨hK ▸ Same.sqT su h.sqT, Post.here su so (.tup h r1) q⟩⟩
  | lst h r1 => cases e; exact ⟨_, _, rfl, .inl ⟨SqL.of (su _ _ h), fun l hl => Post.tup su so hl r1 q⟩⟩
  | rol h r1 => cases e; exact ⟨_, _, rfl, .inl ⟨hK ▸ su.seq h, fun l hl => Post.tup su so hl r1 q⟩⟩
  | _ => cases e⟩
/-! ### isinstance -/
/-- the built-in type of a value -/
def tyN : D → Option String
  | .non => some "NoneType"
  | .bl _ => some "bool"
  | .int _ => some "int"
  | .str _ => some "str"
  | .tup _ => some "tuple"
  | .lst _ => some "list"
  | .rol _ => some "list"
  | .dic => some "dict"
  | _ => none
def subTy (a b : String) : Option Bool :=
  if a = b then some true
  else if a = "bool" ∧ b = "int" then some true
  else if (a = "NoneType" ∨ a = "bool" ∨ a = "int" ∨ a = "str" ∨ a = "tuple" ∨ a = "list" ∨ a = "dict") ∧ (b = "bool" ∨ b = "int" ∨ b = "str" ∨ b = "tuple" ∨ b = "list") then some false else none
theorem subTy_ok {K : PySem.W.Frag} {a b : String} {r : Bool} (h : subTy a b = some r) : PySem.W.kitOne K (.type a) (.type b) = some r := by
  refine kit_ty ?_
  unfold subTy at h
  split at h
  · rename_i e; subst e; cases h
    unfold kitB
    simp
  · split at h
    · rename_i e; obtain ⟨rfl, rfl⟩ := e; cases h; decide +kernel
    · split at h
      · rename_i hne hbi e
        cases h
        obtain ⟨ha, hb⟩ := e
        rcases ha with rfl | rfl | rfl | rfl | rfl | rfl | rfl <;> rcases hb with rfl | rfl | rfl | rfl | rfl <;> first | decide +kernel | exact absurd rfl hne | exact absurd (And.intro rfl rfl) hbi
      · cases h
def isiD (x c : D) : Option Bool := match tyN x, c with
  | some a, .ty b => subTy a b
  | _, _ => none
def anyIsi (x : D) : List D → Option Bool
  | [] => some false
  | c :: cs => match isiD x c, anyIsi x cs with
    | some a, some b => some (a || b)
    | _, _ => none
def dIsi : List D → Option D
  | [x, .tup (c :: cs)] => (anyIsi x (c :: cs)).map .bl
  | [x, c] => (isiD x c).map .bl
  | _ => none
theorem tyN_ok {ad : List Addr} {S H : Hp} {v : V} {d : D} {a : String} (su : Same S H) (r : Rep G ad S v d) (ea : tyN d = some a) : TyX G.K H v (.type a) := by
  cases r <;> cases ea
  · exact .base .non
  · exact .base (.bl _)
  · exact .base (.int _)
  · exact .base (.str _)
  · rename_i h r
    rcases h with h | ⟨o, its, n, h1, h2, _⟩
    · exact .base (.tup (su _ _ h))
    · exact .kTuple h1 h2
  · rename_i h r
    exact .base (.lst (su _ _ h))
  · rename_i h r
    rcases h with (h | ⟨o, h⟩) | ⟨o, its, n, h1, h2, _⟩
    · exact .base (.lst (su _ _ h))
    · exact .base (.frz (su _ _ h))
    · exact .kList h1 h2
  · rename_i h
    exact .base (.dK (su _ _ h))
theorem isi_cls {ad : List Addr} {S : Hp} {w : V} {d c : D} {k : Bool} (rc : Rep G ad S w c) (h : isiD d c = some k) : ∃ a b, tyN d = some a ∧ ClsV w (.type b) ∧ PySem.W.kitOne G.K (.type a) (.type b) = some k := by
  unfold isiD at h
  split at h
  · rename_i a b ea
    cases rc
    exact ⟨a, b, ea, .ty b, subTy_ok h⟩
  · cases h
theorem any_ok {ad : List Addr} {S : Hp} {d : D} {a : String} (ea : tyN d = some a) : ∀ {ws : List V} {cs : List D} {k : Bool}, Reps G ad S ws cs → anyIsi d cs = some k → ∃ us, Paired ClsV ws us ∧ PySem.W.kitAny G.K (.type a) us = some k
  | _, _, k, .nil, h => ⟨[], .nil, by cases h; rfl⟩
  | _, _, k, .cons (v := w) (d := c) (ds := cs) rc rr, h => by
    unfold anyIsi at h
    split at h
    · rename_i p q e1 e2
      cases h
      obtain ⟨us, hu, hk⟩ := any_ok ea rr e2
      obtain ⟨a', b, ea', hc, h1⟩ := isi_cls rc e1
      rw [ea] at ea'
      cases ea'
      refine ⟨_, .cons hc hu, kitAny_cons h1 (fun z => ?_) (fun z => ?_)⟩
      · rw [z]; exact hk
      · rw [z]; rfl
    · cases h
theorem cd_isi (hK : X.K = G.K) : CallD G (fun xs H Q => rIsi X.K xs H Q ∨ (rIsiT X.K xs H Q ∨ rIsiK X.K xs H Q)) dIsi := ⟨fun ad S H st xs ds d Q su so r e q => by
  unfold dIsi at e
  split at e
  · rename_i x c0 cs0
    obtain ⟨v, w, rfl, r1, r2⟩ := reps2 r
    obtain ⟨cs, hcs⟩ : ∃ cs, cs = c0 :: cs0 := ⟨_, rfl⟩
    rw [← hcs] at e r2
    cases ek : anyIsi x cs with
    | none => rw [ek] at e; cases e
    | some k =>
      rw [ek] at e
      cases e
      cases r2 with
      | tup h2 r2 =>
        obtain ⟨a, ea⟩ : ∃ a, tyN x = some a := by
          rw [hcs] at ek
          unfold anyIsi isiD at ek
          cases et : tyN x with
          | none => rw [et] at ek; cases ek
          | some a => exact ⟨a, rfl⟩
        obtain ⟨us, p, hk⟩ := any_ok ea r2 ek
        rcases h2 with h2 | ⟨o, its, n, h3, h4, h5, h6, h7⟩
        · exact .inr (.inl ⟨v, _, _, .type a, us, k, rfl, su _ _ h2, p, hK ▸ tyN_ok su r1 ea, hK ▸ hk, Post.here su so (.bl _) q⟩)
        · have e3 : its.toList = us := ClsV.all p h7
          obtain ⟨oc, od, dt, sl⟩ := o
          simp only at h4 h5
          subst h4 h5
          refine .inr (.inr ⟨v, _, od, us, n, sl, .type a, k, rfl, ?_, hK ▸ tyN_ok su r1 ea, hK ▸ hk, Post.here su so (.bl _) q⟩)
          rw [hK, h3, ← e3]
  · rename_i x c hne
    obtain ⟨v, w, rfl, r1, r2⟩ := reps2 r
    cases ek : isiD x c with
    | none => rw [ek] at e; cases e
    | some k =>
      rw [ek] at e
      cases e
      obtain ⟨a, b, ea, hc, h1⟩ := isi_cls r2 ek
      exact .inl ⟨v, w, .type a, .type b, k, rfl, hc, hK ▸ tyN_ok su r1 ea, hK ▸ h1, Post.here su so (.bl _) q⟩
  · cases e⟩
end
end DL

/-! DL, sixth part: truth, cells, try, comprehensions. -/
namespace DL
open PySem PySem.Spec PyProof.Rows L2

/-! ### truth of a value -/
def tru? : D → M Bool
  | .non => fun st => .ok false st
  | .bl b => fun st => .ok b st
  | .int i => fun st => .ok (i != 0) st
  | .str x => fun st => if x.length ≤ sizeLine then .ok ((x.length : Int) != 0) st else .bad
  | .lst xs => fun st => .ok (!xs.isEmpty) st
  | .rol xs => fun st => .ok (!xs.isEmpty) st
  | .tup xs => fun st => .ok (!xs.isEmpty) st
  | _ => fun _ => .bad
def mTru (ma : ME) : MT := fun env st => (ma env st).bind tru?
theorem reps_empty {G : Glb} {ad : List Addr} {S : Hp} {vs : List V} {ds : List D} (r : Reps G ad S vs ds) : vs.isEmpty = ds.isEmpty := by cases r <;> rfl
section
variable {G : Glb} {X : Cx} {W : WX} {O : Ow} {pos : Pos}
theorem dt_tru {e : Expr} {m : ME} (hK : X.K = G.K) (h : DE G X W O e m) (he : ∀ whole, isTrue e X.env whole = (do let v ← whole; standAt e.pos; holding [v] (truthy v)) := by intro _; rfl) : DT G X W O e (mTru m) := by
  obtain ⟨t, p, w⟩ := h.ex
  refine ⟨_, pt_truth p he, fun b S env st σ H Q I h => w b S env st σ H _ I (wpR_imp (wpR_bind h) (fun dx st1 h1 => ?_) fun _ _ z => z)⟩
  intro x S1 H1 x1 su1 so1 r1
  cases r1 with
  | non => exact ⟨_, rfl, h1 _ _ x1 su1 so1⟩
  | bl b => exact ⟨_, rfl, h1 _ _ x1 su1 so1⟩
  | int i => exact ⟨_, rfl, h1 _ _ x1 su1 so1⟩
  | str z =>
    have e0 : tru? (.str z) st1 = if z.length ≤ sizeLine then Res.ok ((z.length : Int) != 0) st1 else .bad := rfl
    rw [e0] at h1
    by_cases hz : z.length ≤ sizeLine
    · rw [if_pos hz] at h1
      exact ⟨_, ⟨hz, rfl⟩, h1 _ _ x1 su1 so1⟩
    · rw [if_neg hz] at h1; exact h1.elim
  | tup h r => exact ⟨_, .inr (.inl ⟨_, hK ▸ Same.sqT su1 h.sqT, rfl⟩), by rw [reps_empty r]; exact h1 _ _ x1 su1 so1⟩
  | lst h r => exact ⟨_, .inl ⟨_, SqL.of (su1 _ _ h), rfl⟩, by rw [reps_empty r]; exact h1 _ _ x1 su1 so1⟩
  | rol h r => exact ⟨_, .inl ⟨_, hK ▸ su1.seq h, rfl⟩, by rw [reps_empty r]; exact h1 _ _ x1 su1 so1⟩
  | _ => exact h1.elim

/-! ### cells -/
def ixS (x y : D) : M D := fun st => match x with
  | .tok n => match st[n]?, y with
    | some (.lst ds), .int i => ret? (atI ds i) st
    | _, _ => .bad
  | _ => ret? (dIx x y) st
theorem ixS_other {x y : D} {st : List D} (hn : ∀ n, x ≠ .tok n) : ixS x y st = ret? (dIx x y) st := by
  unfold ixS
  cases x <;> first | rfl | exact absurd rfl (hn _)
theorem ixS_tok {n : Nat} {i : Int} {st ds : List D} (h : st[n]? = some (.lst ds)) : ixS (.tok n) (.int i) st = ret? (atI ds i) st := by
  show (match st[n]?, D.int i with | some (.lst ds), .int i => ret? (atI ds i) st | _, _ => .bad) = _
  rw [h]
theorem ixS_tokI {n : Nat} {y : D} {st : List D} {ds : List D} (h : st[n]? = some (.lst ds)) (hy : ∀ i, y ≠ .int i) : ixS (.tok n) y st = .bad := by
  show (match st[n]?, y with | some (.lst ds), .int i => ret? (atI ds i) st | _, _ => .bad) = _
  rw [h]
  cases y <;> first | rfl | exact absurd rfl (hy _)
/-- o[i], o a cell or any other -/
def mIx (ma mb : ME) : ME := fun env st => (ma env st).bind fun x st1 => (mb env st1).bind fun y => ixS x y
theorem de_get {a b : Expr} {ma mb : ME} (hK : X.K = G.K) (ha : DE G X W O a ma) (hb : DE G X W O b mb) (hs : PlainIx b := by intro _ _; rfl) : DE G X W O (.Subscript a b pos) (mIx ma mb) := by
  obtain ⟨ta, tb, pa, pb, w⟩ := two_parts (k := ixS) ha hb
  refine ⟨_, pe_ix ix_seq pa pb hs, fun b S env st σ H Q I h => w b S env st σ H _ (fun x y H2 => rIx X.K x y H2 Q) I h fun x y dx dy S' H' st' e I' rx ry hk => ?_⟩
  by_cases ht : ∃ n, dx = .tok n
  · obtain ⟨n, rfl⟩ := ht
    cases rx with
    | tok ha =>
      rename_i a
      obtain ⟨h1, ds, vs, h2, h3, h4⟩ := I'.sto.at_ n a ha
      cases ry with
      | int i =>
        rw [ixS_tok h2] at hk
        obtain ⟨d, e1, q⟩ := wp_ret hk
        obtain ⟨v, e2, r2⟩ := atI_rep h4 e1
        exact .inl ⟨_, _, _, _, rfl, rfl, SqL.of h3, e2, Post.here I'.sub I'.sto r2 (Post.from_ e I'.sto q)⟩
      | _ => rw [ixS_tokI h2 (fun i z => by cases z)] at hk; exact hk.elim
  · rw [ixS_other fun n z => ht ⟨n, z⟩] at hk
    obtain ⟨d, e1, q⟩ := wp_ret hk
    exact (opd_ix hK).go b.ad S' H' st' x y dx dy d Q I'.sub I'.sto rx ry e1 (Post.from_ e I'.sto q)
theorem nodup_inj {α : Type} {l : List α} {i j : Nat} (nd : l.Nodup) (hi : i < l.length) (hj : j < l.length) (e : l[i] = l[j]) : i = j := (List.getElem_inj nd).mp e
theorem StoOk.put {ad : List Addr} {S H : Hp} {st : List D} {n j : Nat} {a : Addr} {ds : List D} {vs : List V} {v : V} {d : D} (so : StoOk G ad S st H) (ha : ad[n]? = some a) (hd : st[n]? = some (.lst ds)) (hv : H a = some (.lst vs)) (r : Rep G ad S v d) : StoOk G ad S (st.set n (.lst (ds.set j d))) (upd H a (.lst (vs.set j v))) := by
  refine ⟨by rw [List.length_set]; exact so.len, so.nd, fun m c hc => ?_⟩
  obtain ⟨h1, es, ws, h2, h3, h4⟩ := so.at_ m c hc
  by_cases hm : m = n
  · subst hm
    have e1 : a = c := Option.some.inj (ha.symm.trans hc)
    subst e1
    rw [hd] at h2; cases h2
    rw [hv] at h3; cases h3
    have hl : m < st.length := (List.getElem?_eq_some_iff.mp hd).1
    exact ⟨h1, _, _, List.getElem?_set_self hl, upd_same, h4.set j r⟩
  · have hne : c ≠ a := fun z => hm (by
      subst z
      have i1 := (List.getElem?_eq_some_iff.mp hc)
      have i2 := (List.getElem?_eq_some_iff.mp ha)
      exact nodup_inj so.nd i1.1 i2.1 (i1.2.trans i2.2.symm))
    refine ⟨h1, es, ws, ?_, ?_, h4⟩
    · rw [List.getElem?_set_ne (Ne.symm hm)]; exact h2
    · rw [upd_ne hne]; exact h3
/-- cell[k] = e -/
def mPut (i : Nat) (k : Int) (m : ME) : MS := mDo m fun d env st => match env[i]? with
  | some (some (.tok n)) => match st[n]? with
    | some (.lst ds) => match ixN ds.length k with
      | some j => .nx env (st.set n (.lst (ds.set j d)))
      | none => .bad
    | _ => .bad
  | _ => .bad
theorem ds_put {Ob : Ow} {OE : Ow → Prop} (i : Nat) {x : Str} {k : Int} {j} {p1 p2 p3 : Pos} {e : Expr} {me : ME} (he : DE G X W O e me) (hO : OE O := by first | trivial | rfl) (hN : X.N[i]? = some x := by rfl) (ho : O.has i = false := by rfl)
    (hv : Vis X.env.scope x := by first | exact Or.inl rfl | exact Or.inr (Or.inl rfl) | exact Or.inr (Or.inr rfl)) (hd : (x == ("__debug__" : Str)) = false := by decide) (hcd : (x == ("__classdict__" : Str)) = false := by decide)
    (ha : ∀ v, assign (.Subscript (.Name x p1) (.Constant (.int k) j p2) p3) X.env v = (do
      let ov ← holding [v] (eval (.Name x p1) X.env)
      let iv ← holding [v, ov] (eval (.Constant (.int k) j p2) X.env)
      standAt p3
      holding [v, ov, iv] (setItem ov iv v)
      release [v, ov, iv] []) := by intro _; rfl)
    (hs : swapsWithSole [.Subscript (.Name x p1) (.Constant (.int k) j p2) p3] e pos.line X.env = pure false := by rfl) (hw : swappedStores [.Subscript (.Name x p1) (.Constant (.int k) j p2) p3] e X.env = pure none := by rfl)
    (h1 : (assignEach [.Subscript (.Name x p1) (.Constant (.int k) j p2) p3] X.env).map (·.2) = [assign (.Subscript (.Name x p1) (.Constant (.int k) j p2) p3) X.env] := by rfl) :
    DS G X W Ob OE O (.Assign [.Subscript (.Name x p1) (.Constant (.int k) j p2) p3] e pos) O (mPut i k me) := by
  obtain ⟨t, p, w⟩ := he.ex
  refine ⟨_, ps_asg p (pg_sub (pe_var hN hv hd hcd) pe_int set_list ha) hs hw h1, fun b S env st σ H D I h => do_part hO w I h fun v d S' H' st' I' r q => ?_⟩
  cases e1 : env[i]? with
  | none => rw [e1] at q; exact q.elim
  | some o =>
    rw [e1] at q
    cases o with
    | none => exact q.elim
    | some d0 =>
      obtain ⟨v0, hv0, r0⟩ := I'.slot i d0 e1 ho
      cases r0 with
      | tok ha0 =>
        rename_i a n
        obtain ⟨g1, ds, vs, g2, g3, g4⟩ := I'.sto.at_ n a ha0
        dsimp only at q
        rw [g2] at q
        dsimp only at q
        cases e2 : ixN ds.length k with
        | none => rw [e2] at q; exact q.elim
        | some jj =>
          rw [e2] at q
          refine ⟨_, hv0, a, vs, k, jj, rfl, rfl, g3, by rw [g4.len]; exact e2, ?_⟩
          have so2 := StoOk.put (j := jj) I'.sto ha0 g2 g3 r
          refine q S' σ _ (.refl _) ⟨I'.len, fun c o hc => ?_, I'.s0, I'.new, fun c o hc hna => ?_, I'.slot, fun m d' hm hd' => ?_, I'.dist, so2, I'.exc, fun m hm => ?_⟩
          · rw [upd_ne fun z => by subst z; rw [g1] at hc; cases hc]; exact I'.sub _ _ hc
          · rw [upd_ne fun z => hna (by subst z; exact List.mem_iff_getElem?.mpr ⟨n, ha0⟩)]; exact I'.keep c o hc hna
          · obtain ⟨c, ws, es, q1, q2, q3, q4, q5, q6, q7⟩ := I'.own m d' hm hd'
            refine ⟨c, ws, es, q1, q2, ?_, q4, q5, q6, q7⟩
            rw [upd_ne fun z => q6 (by subst z; exact List.mem_iff_getElem?.mpr ⟨n, ha0⟩)]; exact q3
          · obtain ⟨c, ws, es, q1, q2, q3, q4, q5, q6, q7, q8, q9, q10, q11⟩ := I'.self_ m hm
            have na : a ∈ b.ad := List.mem_iff_getElem?.mpr ⟨n, ha0⟩
            exact ⟨c, ws, es, q1, q2, (upd_ne (show O.slv.1 ≠ a from fun z => q9 (z ▸ na))).trans q3, (upd_ne (show O.slv.2 ≠ a from fun z => q10 (z ▸ na))).trans q4, q5, q6, q7, q8, q9, q10, q11⟩
      | _ => exact q.elim
end

/-! ### try -/
abbrev W0 : WX := fun _ _ _ _ => False
theorem takesW0 {X : Cx} : Takes X W0 := takes0
/-- a reading weakened -/
theorem PSs.imp {X : Cx} {st : List Stmt} {t t' : TS} (h : PSs X st t) (hi : ∀ D σ H, t' D σ H → t D σ H) : PSs X st t' := ⟨fun pins s σ H D I q => h.run pins s σ H D I (hi _ _ _ q)⟩
theorem DI.unexc {G : Glb} {b : Act} {own : List Nat} {i : Nat} {exv : Addr × Value × Option Addr} {S H : Hp} {env : Env'} {st : List D} {σ : L2.St} (I : DI G b ⟨own, some i, exv, none, (0, 0)⟩ S env st σ H) (hi : own.elem i = false) (v : Addr × Value × Option Addr) : DI G b ⟨own, none, v, none, (0, 0)⟩ S (env.set i none) st (σ.set i none) H := by
  have hne : ∀ {j : Nat}, j ∈ own → j ≠ i := fun {j} hj z => by
    subst z
    rw [List.elem_eq_true_of_mem hj] at hi; cases hi
  have other : ∀ {j : Nat} {d' : D}, (env.set i none)[j]? = some (some d') → j ≠ i ∧ env[j]? = some (some d') := fun {j d'} h => by
    by_cases hj : j = i
    · subst hj
      by_cases hl : j < env.length
      · rw [List.getElem?_set_self hl] at h; cases h
      · rw [List.getElem?_eq_none_iff.mpr (by rw [List.length_set]; exact Nat.le_of_not_lt hl)] at h; cases h
    · rw [List.getElem?_set_ne (Ne.symm hj)] at h; exact ⟨hj, h⟩
  refine ⟨by rw [List.length_set, List.length_set]; exact I.len, I.sub, I.s0, I.new, I.keep, fun j d' h ho => ?_, fun j d' hj h => ?_, fun j k a hj hk e1 e2 q1 q2 => ?_, I.sto, fun j d' hj => (by cases hj), fun j hj => (by cases hj)⟩
  · obtain ⟨hn, h⟩ := other h
    have ho' : (Ow.mk own (some i) exv none (0, 0)).has j = false := by
      unfold Ow.has at ho ⊢
      have h1 : own.elem j = false := by
        cases e : own.elem j with
        | false => rfl
        | true => rw [show (Ow.mk own none v none (0, 0)).own.elem j = true from e] at ho; cases ho
      have h2 : ((Ow.mk own (some i) exv none (0, 0)).exi == some j) = false := by
        simpa using (Ne.symm hn)
      rw [show (Ow.mk own (some i) exv none (0, 0)).own.elem j = false from h1, h2]; rfl
    obtain ⟨w, q1, q2⟩ := I.slot j d' h ho'
    exact ⟨w, by rw [List.getElem?_set_ne (Ne.symm hn)]; exact q1, q2⟩
  · obtain ⟨hn, h⟩ := other h
    obtain ⟨a, vs, ds, q1, q2, q3⟩ := I.own j d' hj h
    exact ⟨a, vs, ds, q1, by rw [List.getElem?_set_ne (Ne.symm hn)]; exact q2, q3⟩
  · obtain ⟨d1, e1⟩ := e1
    obtain ⟨d2, e2⟩ := e2
    obtain ⟨hn1, e1⟩ := other e1
    obtain ⟨hn2, e2⟩ := other e2
    rw [List.getElem?_set_ne (Ne.symm hn1)] at q1
    rw [List.getElem?_set_ne (Ne.symm hn2)] at q2
    exact I.dist j k a hj hk ⟨d1, e1⟩ ⟨d2, e2⟩ q1 q2
theorem DI.toexc {G : Glb} {b : Act} {own : List Nat} {v : Addr × Value × Option Addr} {i : Nat} {a : Addr} {cls : Value} {dd : Option Addr} {x : Ex} {S H : Hp} {env : Env'} {st : List D} {σ : L2.St} (I : DI G b ⟨own, none, v, none, (0, 0)⟩ S env st σ H) (hi : own.elem i = false) (r : RepX G b.ad S cls dd x) : DI G b ⟨own, some i, (a, cls, dd), none, (0, 0)⟩ S (env.set i (some (exObj x))) st (σ.set i (some (.ref a))) H := by
  have hne : ∀ {j : Nat}, j ∈ own → j ≠ i := fun {j} hj z => by
    subst z
    rw [List.elem_eq_true_of_mem hj] at hi; cases hi
  have other : ∀ {j : Nat} {d' : D}, j ≠ i → (env.set i (some (exObj x)))[j]? = some (some d') → env[j]? = some (some d') := fun {j d'} hj h => by
    rw [List.getElem?_set_ne (Ne.symm hj)] at h; exact h
  refine ⟨by rw [List.length_set, List.length_set]; exact I.len, I.sub, I.s0, I.new, I.keep, fun j d' h ho => ?_, fun j d' hj h => ?_, fun j k a' hj hk e1 e2 q1 q2 => ?_, I.sto, fun j d' hj h => ?_, fun j hj => (by cases hj)⟩
  · have hn : j ≠ i := fun z => by
      subst z
      unfold Ow.has at ho
      simp at ho
    have ho' : (Ow.mk own none v none (0, 0)).has j = false := by
      unfold Ow.has at ho ⊢
      have h1 : own.elem j = false := by
        cases e : own.elem j with
        | false => rfl
        | true => rw [show (Ow.mk own (some i) (a, cls, dd) none (0, 0)).own.elem j = true from e] at ho; cases ho
      rw [show (Ow.mk own none v none (0, 0)).own.elem j = false from h1]; rfl
    obtain ⟨w, q1, q2⟩ := I.slot j d' (other hn h) ho'
    exact ⟨w, by rw [List.getElem?_set_ne (Ne.symm hn)]; exact q1, q2⟩
  · obtain ⟨a', vs, ds, q1, q2, q3⟩ := I.own j d' hj (other (hne hj) h)
    exact ⟨a', vs, ds, q1, by rw [List.getElem?_set_ne (Ne.symm (hne hj))]; exact q2, q3⟩
  · rw [List.getElem?_set_ne (Ne.symm (hne hj))] at q1
    rw [List.getElem?_set_ne (Ne.symm (hne hk))] at q2
    obtain ⟨d1, e1⟩ := e1
    obtain ⟨d2, e2⟩ := e2
    exact I.dist j k a' hj hk ⟨d1, other (hne hj) e1⟩ ⟨d2, other (hne hk) e2⟩ q1 q2
  · cases hj
    by_cases hl : i < env.length
    · rw [List.getElem?_set_self hl] at h
      have e : exObj x = d' := by simpa using h
      exact ⟨x, e.symm, by rw [List.getElem?_set_self (by rw [I.len]; exact hl)], r⟩
    · rw [List.getElem?_eq_none_iff.mpr (by rw [List.length_set]; exact Nat.le_of_not_lt hl)] at h; cases h

/-- behind a suite: slot i forgotten, no error -/
def unX (i : Nat) : Out → Out
  | .nx env st => .nx (env.set i none) st
  | .rt d st => .rt d st
  | .bk env st => .bk (env.set i none) st
  | .ct env st => .ct (env.set i none) st
  | .er _ _ _ => .bad
  | .bad => .bad
def mTryAs (cl : Nat → Option Bool) (i : Nat) (m ms : MS) : MS := fun env st => match m env st with
  | .er x env1 st1 => match cl x.c with
    | some true => unX i (ms (env1.set i (some (exObj x))) st1)
    | some false => .er x env1 st1
    | none => .bad
  | o => o
section
variable {G : Glb} {X : Cx} {W : WX} {OE : Ow → Prop} {pos pos' np : Pos} {k : Nat}
theorem XC.tr (xc : XC k G X W) {W' : WX} {pn : List (Addr × Obj)} {xe : Value → Shared → Prop} (tk : Takes (X.tr pn xe) W') (po : PassesOwn (model X.prog X.w) X.A X.env xe) : XC k G (X.tr pn xe) W' := ⟨tk, po, xc.calm, xc.hr, xc.K⟩
theorem XT.tr (t : XT X) (pn : List (Addr × Obj)) (xe : Value → Shared → Prop) : XT (X.tr pn xe) := ⟨t.stk, t.fr⟩
theorem ds_try_as {own ob : List Nat} {body suite : List Stmt} {b₀ : Stmt} {x n : Str} {cv : Value} {m ms : MS} (i : Nat) (cl : Nat → Option Bool) (xc : XC k G X W) (xt : XT X) (hN : X.N.Nodup) (hc : Names X x cv) (hcl : ∀ c b, cl c = some b → PySem.W.exmOne G.K (.ref (G.cl c)) cv = some b)
    (hb : ∀ (W' : WX) (pn : List (Addr × Obj)) (xe : Value → Shared → Prop), XC k G (X.tr pn xe) W' → XT (X.tr pn xe) → DSs G (X.tr pn xe) W' ⟨ob, none, (0, .none, none), none, (0, 0)⟩ (· = ⟨own, none, (0, .none, none), none, (0, 0)⟩) ⟨own, none, (0, .none, none), none, (0, 0)⟩ body ⟨own, none, (0, .none, none), none, (0, 0)⟩ m)
    (hsu : ∀ (a : Addr) (oe : Obj) (cls : Value) (d : Option Addr) (pn : List (Addr × Obj)), Zc cls d oe → (∃ vs, oe.data = .fields vs) → DSs G (X.suite a ((a, oe) :: pn)) W0 ⟨ob, some i, (a, cls, d), none, (0, 0)⟩ (fun _ => True) ⟨own, some i, (a, cls, d), none, (0, 0)⟩ (b₀ :: suite) ⟨own, some i, (a, cls, d), none, (0, 0)⟩ ms)
    (hO : OE ⟨own, none, (0, .none, none), none, (0, 0)⟩ := by first | trivial | rfl) (hi : X.N[i]? = some n := by rfl) (hln : X.env.kindOf n = some .local := by rfl) (hio : own.elem i = false := by rfl) (hib : ob.elem i = false := by rfl) :
    DS G X W ⟨ob, none, (0, .none, none), none, (0, 0)⟩ OE ⟨own, none, (0, .none, none), none, (0, 0)⟩ (.Try body [.ExceptHandler (some (.Name x np)) (some n) (b₀ :: suite) pos'] [] [] pos) ⟨own, none, (0, .none, none), none, (0, 0)⟩ (mTryAs cl i m ms) := by
  refine ⟨_, ps_try_as (i := i) (Wout := W)
    (tb := fun W' D σ H => ∃ b S env st, DI G b ⟨own, none, (0, .none, none), none, (0, 0)⟩ S env st σ H ∧ PostS G b ⟨ob, none, (0, .none, none), none, (0, 0)⟩ (· = ⟨own, none, (0, .none, none), none, (0, 0)⟩) W' ⟨own, none, (0, .none, none), none, (0, 0)⟩ D S (m env st))
    (ts := fun a cls d D σ H => ∃ b S env st, DI G b ⟨own, some i, (a, cls, d), none, (0, 0)⟩ S env st σ H ∧ PostS G b ⟨ob, some i, (a, cls, d), none, (0, 0)⟩ (fun _ => True) W0 ⟨own, some i, (a, cls, d), none, (0, 0)⟩ D S (ms env st))
    xt.stk xt.fr hN hi hln hc xc.tk (fun W' pn xe tk po => ?_) (fun a oe cls d pn hz hf => ?_), fun b S env st σ H D I h => ?_⟩
  · obtain ⟨t, p, w⟩ := (hb W' pn xe (xc.tr tk po) (xt.tr pn xe)).ex
    exact PSs.imp p fun D σ H ⟨b, S, env, st, I, q⟩ => w b S env st σ H D I q
  · obtain ⟨t, p, w⟩ := (hsu a oe cls d pn hz hf).ex
    exact PSs.imp p fun D σ H ⟨b, S, env, st, I, q⟩ => w b S env st σ H D I q
  · refine ⟨b, S, env, st, I, ?_⟩
    unfold mTryAs at h
    cases e : m env st with
    | nx env1 st1 => rw [e] at h; exact h
    | rt d st1 => rw [e] at h; exact h
    | bk env1 st1 => rw [e] at h; exact h
    | ct env1 st1 => rw [e] at h; exact h
    | bad => rw [e] at h; exact h
    | er x env1 st1 =>
      rw [e] at h
      dsimp only at h
      intro cls dd O' S1 σ1 H1 hO' e1 I1 rx
      subst hO'
      cases ec : cl x.c with
      | none => rw [ec] at h; exact h.elim
      | some bb =>
        rw [ec] at h
        refine ⟨bb, by rw [xc.K, rx.1]; exact hcl _ _ ec, fun hbb a ha => ?_, fun hbb => ?_⟩
        · subst hbb
          dsimp only at h
          refine ⟨b, S1, _, st1, I1.toexc hio rx, ?_⟩
          cases es : ms (env1.set i (some (exObj x))) st1 with
          | nx env2 st2 =>
            rw [es] at h
            exact fun S2 σ2 H2 e2 I2 => h S2 _ H2 (e1.trans e2) (I2.unexc hio _)
          | rt d st2 => rw [es] at h; exact h
          | bk env2 st2 =>
            rw [es] at h
            exact fun S2 σ2 H2 e2 I2 => h S2 _ H2 (e1.trans e2) (I2.unexc hib _)
          | ct env2 st2 =>
            rw [es] at h
            exact fun S2 σ2 H2 e2 I2 => h S2 _ H2 (e1.trans e2) (I2.unexc hib _)
          | er x2 env2 st2 => rw [es] at h; exact h.elim
          | bad => rw [es] at h; exact h.elim
        · subst hbb
          exact h cls dd _ S1 σ1 H1 hO e1 I1 rx
end
/-! ### isinstance of the caught error -/
def mIsX (i : Nat) (tab : Nat → D → Option Bool) (mc : ME) : ME := fun env st => match env[i]? with
  | some (some (.obj c [])) => (mc env st).bind fun d => ret? ((tab c d).map .bl)
  | _ => .bad
def clsV (G : Glb) : D → Option Value
  | .cls c => some (.ref (G.cl c))
  | .ty n => some (.type n)
  | _ => none
end DL

/-! DL, seventh part: errors in suites, comprehensions, the law's own def. -/
namespace DL
open PySem PySem.Spec PyProof.Rows L2

section
variable {G : Glb} {X : Cx} {W : WX} {pos : Pos} {k : Nat}
/-! ### isinstance of the caught error -/
theorem cls_rel {ad : List Addr} {S : Hp} {v : V} {d : D} {cv : Value} (r : Rep G ad S v d) (h : clsV G d = some cv) : ∀ u, RelV v u → u = cv := by
  intro u ru
  cases r <;> cases h
  · exact ru
  · exact ru
theorem de_isX {own : List Nat} {a : Addr} {oe : Obj} {cls : Value} {dd : Option Addr} {pn : List (Addr × Obj)} {p pe : Pos} {n : Str} {C : Expr} {mc : ME} (i : Nat) (tab : Nat → D → Option Bool) (hz : Zc cls dd oe) (hf : ∃ vs, oe.data = .fields vs) (hK : X.K = G.K) (hm : X.mg "isinstance" = none)
    (ht : ∀ c d b, tab c d = some b → ExcC G.K (G.cl c) ∧ ∃ cv, clsV G d = some cv ∧ PySem.W.kitOne G.K (.ref (G.cl c)) cv = some b) (hC : DE G (X.suite a ((a, oe) :: pn)) W0 ⟨own, some i, (a, cls, dd), none, (0, 0)⟩ C mc)
    (hi : X.N[i]? = some n := by rfl) (hg : Gl X "isinstance" := by rfl) (hv : Vis X.env.scope n := by first | exact Or.inl rfl | exact Or.inr (Or.inl rfl) | exact Or.inr (Or.inr rfl)) (hd : (n == ("__debug__" : Str)) = false := by decide) (hcd : (n == ("__classdict__" : Str)) = false := by decide)
    (he : starEach [.Name n pe, C] X.env = (false, eval (.Name n pe) X.env) :: starEach [C] X.env := by rfl) (he2 : starEach [C] X.env = (false, eval C X.env) :: starEach [] X.env := by rfl) (hpl : (backTo pos (starEach [C] X.env)).any (·.1) = false := by rfl) :
    DE G (X.suite a ((a, oe) :: pn)) W0 ⟨own, some i, (a, cls, dd), none, (0, 0)⟩ (.Call (.Name "isinstance" p) [.Name n pe, C] [] pos) (mIsX i tab mc) := by
  obtain ⟨t, pc, w⟩ := hC.ex
  have hr : CallR (X.suite a ((a, oe) :: pn)) (.builtin "isinstance") (fun xs H Q => ∃ D, cls = .ref D ∧ dd = none ∧ ExcC X.K D ∧ rIsE X.K D a xs H Q) := by
    intro pins s σ H xs us Q I r h
    obtain ⟨D, e1, e2, hCx, h⟩ := h
    subst e1; subst e2
    exact call_isE hCx hz hf pins s σ H xs us Q I r h
  refine ⟨_, pe_callB hr hg hm PyProof.Rows.boot_isinstance (pa_cons (pe_var (i := i) hi hv hd hcd) (pa_cons pc pa_nil he2) he) (by decide) (by decide) he hpl, fun b S env st σ H Q I h => ?_⟩
  unfold mIsX at h
  split at h
  · rename_i c e
    obtain ⟨x, q1, q2, q3⟩ := I.exc i _ rfl e
    have rx : cls = .ref (G.cl c) ∧ dd = none := by
      obtain ⟨c', fs⟩ := x
      cases fs with
      | none => cases q1; exact ⟨q3.1, q3.2⟩
      | some fs => cases q1
    refine ⟨_, q2, w b S env st σ H _ I (wpR_imp (wpR_bind h) (fun d st1 h1 => ?_) fun _ _ z => z)⟩
    intro v S1 H1 x1 su1 so1 r1
    cases et : tab c d with
    | none => rw [et] at h1; exact h1.elim
    | some bb =>
      rw [et] at h1
      obtain ⟨hE, cv, hcv, hk⟩ := ht c d bb et
      exact ⟨_, rx.1, rx.2, hK ▸ hE, v, cv, bb, rfl, cls_rel r1 hcv, hK ▸ hk, h1 _ _ _ x1 su1 so1 (.bl _)⟩
  · exact h.elim
end

/-! ### the parts of a comprehension -/
theorem XC.blk (xc : XC k G X W) {s : Shared} {H : Hp} {scope : Scope} {cenv : Env} {fp : List Addr} : XC k G (X.blk s H scope cenv fp) W0 := ⟨takes0, PassesOwn.never, xc.calm, xc.hr, xc.K⟩
/-- no error may fly -/
def noEr {α : Type} (r : Res α) : Res α := match r with
  | .err _ _ => .bad
  | r => r
theorem wp_noEr {α : Type} {r : Res α} {ok : α → List D → Prop} {er er' : Ex → List D → Prop} (h : wpR (noEr r) ok er) : wpR r ok er' := by
  cases r with
  | ok a st => exact h
  | err x st => exact h.elim
  | bad => exact h.elim
def wipeE (env : Env') : List Nat → Env'
  | [] => env
  | v :: vs => (wipeE env vs).set v none
theorem DI.wipe {b : Act} {O : Ow} {S H : Hp} {env : Env'} {st : List D} {σ : L2.St} (I : DI G b O S env st σ H) : ∀ {vs : List Nat}, (∀ v ∈ vs, O.has v = false) → DI G b O S (wipeE env vs) st (wipe σ vs) H
  | [], _ => I
  | v :: vs, h => (DI.wipe I fun u hu => h u (List.mem_cons_of_mem _ hu)).forget (h v List.mem_cons_self)
theorem wipe_stay {σ σ' : L2.St} {ix vs : List Nat} (h : Stay ix (wipe σ vs) σ') (hs : ∀ i ∈ ix, i ∈ vs) : wipe σ' vs = wipe σ vs := by
  have wl : ∀ (τ : L2.St) (vs : List Nat) (j : Nat), (wipe τ vs)[j]? = if j ∈ vs then (if j < τ.length then some none else none) else τ[j]? := by
    intro τ vs j
    induction vs with
    | nil => simp [wipe]
    | cons v vs ih =>
      unfold wipe
      by_cases hj : j = v
      · subst hj
        rw [if_pos List.mem_cons_self]
        by_cases hl : j < τ.length
        · rw [List.getElem?_set_self (by rw [wipe_length]; exact hl), if_pos hl]
        · rw [if_neg hl]
          exact List.getElem?_eq_none_iff.mpr (by rw [List.length_set, wipe_length]; exact Nat.le_of_not_lt hl)
      · rw [List.getElem?_set_ne (Ne.symm hj), ih]
        by_cases hm : j ∈ vs
        · rw [if_pos hm, if_pos (List.mem_cons_of_mem _ hm)]
        · rw [if_neg hm, if_neg (fun z => (List.mem_cons.mp z).elim hj hm)]
  have hl : σ'.length = σ.length := by rw [h.1, wipe_length]
  refine List.ext_getElem? fun j => ?_
  rw [wl, wl, hl]
  by_cases hm : j ∈ vs
  · rw [if_pos hm, if_pos hm]
  · rw [if_neg hm, if_neg hm, h.2 j fun z => hm (hs j z), wl, if_neg hm]
/-- the items that a comprehension makes -/
def lcD (env : Env') (g : MG) (mt : MT) (me : ME) : List D → M (List D)
  | [] => fun st => .ok [] st
  | d :: ds => fun st => match g d env with
    | none => .bad
    | some env1 => (noEr (mt env1 st)).bind fun k st1 =>
      if k = true then (noEr (me env1 st1)).bind fun y st2 => (lcD env g mt me ds st2).bind fun ys st3 => .ok (y :: ys) st3
      else lcD env g mt me ds st1
theorem lcD_noEr {env : Env'} {g : MG} {mt : MT} {me : ME} : ∀ (ds : List D) (st : List D) (x : Ex) (st' : List D), lcD env g mt me ds st ≠ .err x st' := by
  intro ds
  induction ds with
  | nil => intro st x st' h; cases h
  | cons d ds ih =>
    intro st x st' h
    unfold lcD at h
    split at h
    · cases h
    · rename_i env1 _
      cases e1 : mt env1 st with
      | err _ _ => rw [e1] at h; cases h
      | bad => rw [e1] at h; cases h
      | ok k st1 =>
        rw [e1] at h
        have h : (if k = true then (noEr (me env1 st1)).bind fun y st2 => (lcD env g mt me ds st2).bind fun ys st3 => .ok (y :: ys) st3 else lcD env g mt me ds st1) = .err x st' := h
        split at h
        · cases e2 : me env1 st1 with
          | err _ _ => rw [e2] at h; cases h
          | bad => rw [e2] at h; cases h
          | ok y st2 =>
            rw [e2] at h
            have h : ((lcD env g mt me ds st2).bind fun ys st3 => Res.ok (y :: ys) st3) = .err x st' := h
            cases e3 : lcD env g mt me ds st2 with
            | err x3 s3 => exact ih _ _ _ e3
            | bad => rw [e3] at h; cases h
            | ok ys s3 => rw [e3] at h; cases h
        · exact ih _ _ _ h
def mYes : MT := fun _ st => .ok true st
/-- [elt for target in .. if ..]; vs: the comprehension's own slots -/
def mLC (mi : MA) (vs : List Nat) (g : MG) (mt : MT) (me : ME) : ME := fun env st => (mi env st).bind fun ds st1 => (lcD (wipeE env vs) g mt me ds st1).bind lstOk
structure DTs (G : Glb) (X : Cx) (W : WX) (O : Ow) (es : List Expr) (m : MT) : Prop where
  ex : ∃ t, PTs X es t ∧ ∀ (b : Act) S env st σ H Q, DI G b O S env st σ H → wpR (m env st) (fun k st' => PostB G b.ad S H k st' Q) (fun x st' => PostX G b.ad S H x st' fun c dd H' => W c dd σ H') → t σ H Q
theorem dts_nil {O : Ow} : DTs G X W O [] mYes := ⟨_, pts_nil, fun b S env st σ H Q I h => h _ _ (.refl _ _ _) I.sub I.sto⟩
theorem dts_one {O : Ow} {e : Expr} {m : MT} (h : DT G X W O e m) : DTs G X W O [e] m := let ⟨t, p, w⟩ := h.ex; ⟨_, pts_one p, w⟩
/-- canonical readings -/
def cE (G : Glb) (W : WX) (O : Ow) (m : ME) : TE := fun σ H Q => ∃ (b : Act) (S : Hp) (env : Env') (st : List DL.D), DI G b O S env st σ H ∧ wpR (m env st) (fun d st' => Post G b.ad S H d st' Q) (fun x st' => PostX G b.ad S H x st' fun c dd H' => W c dd σ H')
def cT (G : Glb) (W : WX) (O : Ow) (m : MT) : TT := fun σ H Q => ∃ (b : Act) (S : Hp) (env : Env') (st : List DL.D), DI G b O S env st σ H ∧ wpR (m env st) (fun k st' => PostB G b.ad S H k st' Q) (fun x st' => PostX G b.ad S H x st' fun c dd H' => W c dd σ H')
def cG (G : Glb) (O : Ow) (ix : List Nat) (g : MG) : TG := fun v σ H Q => ∃ (b : Act) (S : Hp) (env : Env') (env' : Env') (st : List DL.D) (d : DL.D), DI G b O S env st σ H ∧ Rep G b.ad S v d ∧ g d env = some env' ∧ ∀ σ', Stay ix σ σ' → DI G b O S env' st σ' H → Q σ' H
theorem DE.c {O : Ow} {e : Expr} {m : ME} (h : DE G X W O e m) : PE X e (cE G W O m) := by
  obtain ⟨t, p, w⟩ := h.ex
  exact ⟨fun pins s σ H Q I ⟨b, S, env, st, J, q⟩ => p.run pins s σ H Q I (w b S env st σ H Q J q)⟩
theorem DTs.c {O : Ow} {e : List Expr} {m : MT} (h : DTs G X W O e m) : PTs X e (cT G W O m) := by
  obtain ⟨t, p, w⟩ := h.ex
  exact ⟨fun pins s σ H Q I ⟨b, S, env, st, J, q⟩ => p.run pins s σ H Q I (w b S env st σ H Q J q)⟩
theorem DG.c {O : Ow} {ix : List Nat} {e : Expr} {g : MG} (h : DG G X O ix e g) : PG X e (cG G O ix g) := by
  obtain ⟨t, p, w⟩ := h.ex
  exact ⟨fun pins s σ H v u Q I r ⟨b, S, env, env', st, d, J, rd, e, q⟩ => p.run pins s σ H v u Q I r (w b S env env' st σ H v d Q J rd e q)⟩
/-- the walk of a comprehension -/
theorem lc_go {O : Ow} {vs ix : List Nat} {g : MG} {mt : MT} {me : ME} {b : Act} {S1 H1 : Hp} {st1 : List D} {σ : L2.St} {env : Env'} {J : It} {ds : List D} {Q : VK} {D : Addr} (hv : ∀ v ∈ vs, O.has v = false) (hix : ∀ i ∈ ix, i ∈ vs) (I : DI G b O S1 env st1 σ H1) (it : IterOK G b.ad S1 J ds) (hD : H1 D = none)
    {ys : List DL.D} {st' : List DL.D} (hr : lcD (wipeE env vs) g mt me ds st1 = .ok ys st') (hl : ys.length ≤ sizeLine) (q : Post G b.ad S1 H1 (.lst ys) st' Q) :
    ∃ Wv : Nat → Nat → Hp → Prop, (∃ m, Wv 0 m (upd H1 D (.lst []))) ∧ ∀ i m H, Wv i m H →
      (J.stop i H ∧ Q (.ref D) H) ∨ (J.go i H ∧ ∃ Nx : Hp → Prop, (∀ H', Nx H' → ∃ m', m' < m ∧ Wv (i + 1) m' H') ∧ ∀ x H', J.yld i H x H' → cG G O ix g x (wipe σ vs) H' fun σ2 H2 => wipe σ2 vs = wipe σ vs ∧ cT G W0 O mt σ2 H2 fun b H3 =>
        if b = true then cE G W0 O me σ2 H3 fun y H4 => ∃ acc, H4 D = some (.lst acc) ∧ acc.length < sizeLine ∧ Nx (upd H4 D (.lst (acc ++ [y]))) else Nx H3) := by
  have hDad : D ∉ b.ad := fun z => by
    obtain ⟨_, ws, hw⟩ := I.sto.has z
    rw [hD] at hw; cases hw
  -- what stands at a turn's begin
  refine ⟨fun i m H => m = ds.length - i ∧ i ≤ ds.length ∧ ∃ S2 st2 acc es rest, Ext b.ad S1 H1 S2 H ∧ Same S2 H ∧ StoOk G b.ad S2 st2 H ∧ S2 D = none ∧ H D = some (.lst acc) ∧ Reps G b.ad S2 acc es ∧ lcD (wipeE env vs) g mt me (ds.drop i) st2 = .ok rest st' ∧ ys = es ++ rest, ⟨ds.length, ?_⟩, ?_⟩
  · have so := I.sto
    have hS : S1 D = none := I.sub.free hD
    refine ⟨by simp, Nat.zero_le _, S1, st1, [], [], ys, ⟨.refl _, fun _ _ z => .inl z, fun c o hc _ => by rw [upd_ne (ne_of_none hc hD)]; exact hc⟩, fun c o hc => by rw [upd_ne (ne_of_none hc hS)]; exact I.sub _ _ hc,
      ⟨so.len, so.nd, fun n a ha => ?_⟩, hS, upd_same, .nil, by simpa using hr, by simp⟩
    obtain ⟨g1, es, ws, g2, g3, g4⟩ := so.at_ n a ha
    exact ⟨g1, es, ws, g2, by rw [upd_ne (ne_of_none g3 hD)]; exact g3, g4⟩
  · rintro i m H ⟨rfl, hi, S2, st2, acc, es, rest, x2, su2, so2, hS2, hacc, racc, hr2, hys⟩
    by_cases hlt : i < ds.length
    · right
      obtain ⟨go, yl⟩ := (it i S2 H x2.same su2).2 _ (List.getElem?_eq_getElem hlt)
      refine ⟨go, fun H' => ∃ S3 st3 acc3 es3 rest3, Ext b.ad S1 H1 S3 H' ∧ Same S3 H' ∧ StoOk G b.ad S3 st3 H' ∧ S3 D = none ∧ H' D = some (.lst acc3) ∧ Reps G b.ad S3 acc3 es3 ∧ lcD (wipeE env vs) g mt me (ds.drop (i + 1)) st3 = .ok rest3 st' ∧ ys = es3 ++ rest3, fun H' z => ⟨ds.length - (i + 1), by omega, rfl, hlt, z⟩, fun x H' y => ?_⟩
      obtain ⟨S3, x3, su3, so3, r3⟩ := yl x H' y
      have so3' := so3 _ so2
      have I3 : DI G b O S3 (wipeE env vs) st2 (wipe σ vs) H' := DI.ext (DI.wipe (DI.ext I x2 su2 so2) hv) x3 su3 so3'
      have hD3 : H' D = some (.lst acc) := x3.keep D _ hacc hDad
      have hS3 : S3 D = none := by
        cases e : S3 D with
        | none => rfl
        | some o =>
          rcases x3.new D o e with z | z
          · rw [hS2] at z; cases z
          · rw [hacc] at z; cases z
      have x3' := x2.trans so2 x3
      rw [List.drop_eq_getElem_cons hlt] at hr2
      unfold lcD at hr2
      cases eg : g ds[i] (wipeE env vs) with
      | none => rw [eg] at hr2; cases hr2
      | some env1 =>
        rw [eg] at hr2
        refine ⟨b, S3, _, env1, st2, ds[i], I3, r3, eg, fun σ2 hs2 I4 => ⟨wipe_stay hs2 hix, b, S3, env1, st2, I4, ?_⟩⟩
        dsimp only at hr2
        cases et : mt env1 st2 with
        | err x st => rw [et] at hr2; cases hr2
        | bad => rw [et] at hr2; cases hr2
        | ok kk st4 =>
          rw [et] at hr2
          have hr2 : (if kk = true then (noEr (me env1 st4)).bind fun y st2 => (lcD (wipeE env vs) g mt me (ds.drop (i + 1)) st2).bind fun ys st3 => Res.ok (y :: ys) st3 else lcD (wipeE env vs) g mt me (ds.drop (i + 1)) st4) = .ok rest st' := hr2
          intro S5 H5 x5 su5 so5
          have hD5 : H5 D = some (.lst acc) := x5.keep D _ hD3 hDad
          have hS5 : S5 D = none := by
            cases e : S5 D with
            | none => rfl
            | some o =>
              rcases x5.new D o e with z | z
              · rw [hS3] at z; cases z
              · rw [hD3] at z; cases z
          have x5' := x3'.trans so3' x5
          cases kk with
          | false =>
            rw [if_neg Bool.false_ne_true] at hr2 ⊢
            exact ⟨S5, st4, acc, es, rest, x5', su5, so5, hS5, hD5, (racc.mono x3.same).mono x5.same, hr2, hys⟩
          | true =>
            rw [if_pos rfl] at hr2 ⊢
            refine ⟨b, S5, env1, st4, I4.ext x5 su5 so5, ?_⟩
            cases em : me env1 st4 with
            | err x st => rw [em] at hr2; cases hr2
            | bad => rw [em] at hr2; cases hr2
            | ok y0 st6 =>
              rw [em] at hr2
              have hr2 : ((lcD (wipeE env vs) g mt me (ds.drop (i + 1)) st6).bind fun ys st3 => Res.ok (y0 :: ys) st3) = .ok rest st' := hr2
              cases e6 : lcD (wipeE env vs) g mt me (ds.drop (i + 1)) st6 with
              | err x st => rw [e6] at hr2; cases hr2
              | bad => rw [e6] at hr2; cases hr2
              | ok ys6 st7 =>
                rw [e6] at hr2
                have e7 : rest = y0 :: ys6 ∧ st7 = st' := by
                  have z : Res.ok (y0 :: ys6) st7 = .ok rest st' := hr2
                  cases z; exact ⟨rfl, rfl⟩
                obtain ⟨e7, e8⟩ := e7
                subst e8
                intro v S6 H6 x6 su6 so6 r6
                have hD6 : H6 D = some (.lst acc) := x6.keep D _ hD5 hDad
                have hS6 : S6 D = none := by
                  cases e : S6 D with
                  | none => rfl
                  | some o =>
                    rcases x6.new D o e with z | z
                    · rw [hS5] at z; cases z
                    · rw [hD5] at z; cases z
                have x6' := x5'.trans so5 x6
                have racc6 := ((racc.mono x3.same).mono x5.same).mono x6.same
                have hlen : acc.length < sizeLine := by
                  have e9 : ys.length = es.length + (ys6.length + 1) := by rw [hys, e7, List.length_append, List.length_cons]
                  rw [racc6.len]; omega
                refine ⟨acc, hD6, hlen, S6, st6, acc ++ [v], es ++ [y0], ys6, ⟨x6'.same, x6'.new, fun c o hc hca => ?_⟩, fun c o hc => ?_, ⟨so6.len, so6.nd, fun n a ha => ?_⟩, hS6, upd_same, racc6.append (.cons r6 .nil), e6, by rw [hys, e7]; simp⟩
                · rw [upd_ne (ne_of_none hc hD)]; exact x6'.keep c o hc hca
                · rw [upd_ne (ne_of_none hc hS6)]; exact su6 _ _ hc
                · obtain ⟨g1, es', ws, g2, g3, g4⟩ := so6.at_ n a ha
                  exact ⟨g1, es', ws, g2, by rw [upd_ne fun z => hDad (by subst z; exact List.mem_iff_getElem?.mpr ⟨n, ha⟩)]; exact g3, g4⟩
    · left
      have hi' : i = ds.length := Nat.le_antisymm hi (Nat.le_of_not_lt hlt)
      refine ⟨(it i S2 H x2.same su2).1 hi', ?_⟩
      rw [hi', List.drop_length] at hr2
      have e1 : rest = [] ∧ st2 = st' := by
        have z : Res.ok ([] : List DL.D) st2 = .ok rest st' := hr2
        cases z; exact ⟨rfl, rfl⟩
      obtain ⟨rfl, rfl⟩ := e1
      rw [List.append_nil] at hys
      subst hys
      -- the list is still from now on
      have key : Same S2 (upd S2 D (.lst acc)) := fun c o hc => by rw [upd_ne (ne_of_none hc hS2)]; exact hc
      refine q (.ref D) (upd S2 D (.lst acc)) H ⟨x2.same.trans key, fun c o hc => ?_, x2.keep⟩ (fun c o hc => ?_) ⟨so2.len, so2.nd, fun n a ha => ?_⟩ (.lst upd_same (racc.mono key))
      · by_cases hcD : c = D
        · subst hcD; exact .inr hD
        · rw [upd_ne hcD] at hc; exact x2.new c o hc
      · by_cases hcD : c = D
        · subst hcD; rw [upd_same] at hc; cases hc; exact hacc
        · rw [upd_ne hcD] at hc; exact su2 _ _ hc
      · obtain ⟨g1, es', ws, g2, g3, g4⟩ := so2.at_ n a ha
        exact ⟨by rw [upd_ne fun z => hDad (by subst z; exact List.mem_iff_getElem?.mpr ⟨n, ha⟩)]; exact g1, es', ws, g2, g3, g4.mono key⟩
section
variable {G : Glb} {X : Cx} {W : WX} {pos : Pos} {k : Nat} {O : Ow}
theorem de_lc {elt tg iter : Expr} {ifs : List Expr} {scope : Scope} {own : List (Str × Nat)} {ix : List Nat} {mi : MA} {g : MG} {mt : MT} {me : ME} (xc : XC k G X W) (hN : X.N.Nodup) (hi : DIt G X W O tg iter mi) (ok : BlkOk X.N X.env.scope scope own)
    (hg : ∀ (s : Shared) (H : Hp) (C : Addr) (cl : List (Str × Addr)) (fp : List Addr), DG G (X.blk s H scope (compEnvC scope cl C X.env) fp) O ix tg g)
    (ht : ∀ (s : Shared) (H : Hp) (C : Addr) (cl : List (Str × Addr)) (fp : List Addr), XC k G (X.blk s H scope (compEnvC scope cl C X.env) fp) W0 → DTs G (X.blk s H scope (compEnvC scope cl C X.env) fp) W0 O ifs mt)
    (he : ∀ (s : Shared) (H : Hp) (C : Addr) (cl : List (Str × Addr)) (fp : List Addr), XC k G (X.blk s H scope (compEnvC scope cl C X.env) fp) W0 → DE G (X.blk s H scope (compEnvC scope cl C X.env) fp) W0 O elt me)
    (hv : ∀ v ∈ own.map (·.2), O.has v = false := by intro v hv; revert v; decide) (hix : ∀ i ∈ ix, i ∈ own.map (·.2) := by decide) (hs : ∀ x, foldedSetIterable iter X.env x = pure x := by intro _; rfl) :
    DE G X W O (.ListComp elt [⟨tg, iter, ifs, 0⟩] scope pos) (mLC mi (own.map (·.2)) g mt me) := by
  obtain ⟨wi, pi, wwi⟩ := hi.ex
  refine ⟨_, pe_lc xc.calm hN pi ok (fun s H C cl fp => (hg s H C cl fp).c) (fun s H C cl fp => (ht s H C cl fp xc.blk).c) (fun s H C cl fp => (he s H C cl fp xc.blk).c) hs, fun b S env st σ H Q I h => wwi b S env st σ H _ I (wpR_imp (wpR_bind h) (fun ds st1 h1 => ?_) fun _ _ z => z)⟩
  intro J S1 H1 x1 su1 so1 it D hD
  cases er : lcD (wipeE env (own.map (·.2))) g mt me ds st1 with
  | err x st2 => exact absurd er (lcD_noEr _ _ _ _)
  | bad => rw [er] at h1; exact h1.elim
  | ok ys st2 =>
    rw [er] at h1
    have h1 : wpR (lstOk ys st2) (fun d st' => Post G b.ad S H d st' Q) (fun x st' => PostX G b.ad S H x st' fun c dd H' => W c dd σ H') := h1
    unfold lstOk at h1
    split at h1
    · rename_i hl
      exact lc_go hv hix (I.ext x1 su1 so1) it hD er hl (Post.from_ x1 so1 h1)
    · exact h1.elim
/-- y = [..] -/
theorem ds_setLc {Ob : Ow} {OE : Ow → Prop} {y : Str} {py spos : Pos} {elt tg iter : Expr} {ifs : List Expr} {scope : Scope} {own : List (Str × Nat)} {ix : List Nat} {mi : MA} {g : MG} {mt : MT} {me : ME} (i : Nat) (xc : XC k G X W) (hN : X.N.Nodup) (hi : DIt G X W O tg iter mi) (ok : BlkOk X.N X.env.scope scope own)
    (hsw : swapsWith (.ListComp elt [⟨tg, iter, ifs, 0⟩] scope pos) (some (.Name y py)) spos.line X.env = pure true)
    (hg : ∀ (s : Shared) (H : Hp) (C : Addr) (cl : List (Str × Addr)) (fp : List Addr), DG G (X.blk s H scope (compEnvC scope cl C X.env) fp) O ix tg g)
    (ht : ∀ (s : Shared) (H : Hp) (C : Addr) (cl : List (Str × Addr)) (fp : List Addr), XC k G (X.blk s H scope (compEnvC scope cl C X.env) fp) W0 → DTs G (X.blk s H scope (compEnvC scope cl C X.env) fp) W0 O ifs mt)
    (he : ∀ (s : Shared) (H : Hp) (C : Addr) (cl : List (Str × Addr)) (fp : List Addr), XC k G (X.blk s H scope (compEnvC scope cl C X.env) fp) W0 → DE G (X.blk s H scope (compEnvC scope cl C X.env) fp) W0 O elt me)
    (hO : OE O := by first | trivial | rfl) (hy : X.N[i]? = some y := by rfl) (hyl : X.env.scope.names.lookup y = some .local := by rfl) (ho : O.has i = false := by rfl)
    (hv : ∀ v ∈ own.map (·.2), O.has v = false := by intro v hv; revert v; decide) (hix : ∀ i ∈ ix, i ∈ own.map (·.2) := by decide) (hs : ∀ x, foldedSetIterable iter X.env x = pure x := by intro _; rfl) :
    DS G X W Ob OE O (.Assign [.Name y py] (.ListComp elt [⟨tg, iter, ifs, 0⟩] scope pos) spos) O (mSet i (mLC mi (own.map (·.2)) g mt me)) := by
  obtain ⟨wi, pi, wwi⟩ := hi.ex
  refine ⟨_, ps_setLc (i := i) xc.calm hN hy hyl hsw pi ok (fun s H C cl fp => (hg s H C cl fp).c) (fun s H C cl fp => (ht s H C cl fp xc.blk).c) (fun s H C cl fp => (he s H C cl fp xc.blk).c) hs, fun b S env st σ H D I h => ?_⟩
  refine do_part (me := mLC mi (own.map (·.2)) g mt me) (t := tLc wi (cG G O ix g) (cT G W0 O mt) (cE G W0 O me) (own.map (·.2))) hO (fun b S env st σ H Q I h => wwi b S env st σ H _ I (wpR_imp (wpR_bind h) (fun ds st1 h1 => ?_) fun _ _ z => z)) I h fun v d S' H' st' I' r q => q _ _ _ (.refl _) (I'.set r ho)
  intro J S1 H1 x1 su1 so1 it D hD
  cases er : lcD (wipeE env (own.map (·.2))) g mt me ds st1 with
  | err x st2 => exact absurd er (lcD_noEr _ _ _ _)
  | bad => rw [er] at h1; exact h1.elim
  | ok ys st2 =>
    rw [er] at h1
    have h1 : wpR (lstOk ys st2) (fun d st' => Post G b.ad S H d st' Q) (fun x st' => PostX G b.ad S H x st' fun c dd H' => W c dd σ H') := h1
    unfold lstOk at h1
    split at h1
    · rename_i hl
      exact lc_go hv hix (I.ext x1 su1 so1) it hD er hl (Post.from_ x1 so1 h1)
    · exact h1.elim

/-! ### the law's own def -/
/-- what the script is made to -/
def handD (cells : List Int) (at_ rest total : Int) : D := .lst [.lst (cells.map .int), .int at_, .int rest, .int total]
def spLaw (K : PySem.W.Frag) : Sp := fun vs H Q _ => ∃ (a : Addr) (ns : List Int), vs = [.ref a] ∧ SqL K H a (ns.map V.int) ∧ ns.length ≤ 63 ∧ Only H ∧ ∀ H', Q (.bl true) H'
theorem reps_ints {ad : List Addr} {S : Hp} : ∀ ns : List Int, Reps G ad S (ns.map V.int) (ns.map D.int)
  | [] => .nil
  | n :: ns => .cons (.int n) (reps_ints ns)
theorem ints_of {ad : List Addr} {S : Hp} : ∀ {vs : List V} {ns : List Int}, Reps G ad S vs (ns.map D.int) → vs = ns.map V.int
  | _, [], .nil => rfl
  | _, n :: ns, .cons h r => by
    cases h
    rw [List.map_cons, ints_of r]
end
section
variable {P : Program} {w : World} {K : PySem.W.Frag} {mg : Str → Option Value} {base : Heap}
/-- the law: its script made to a hand (by fH), then the rest over that cell -/
theorem lawD {G : Glb} {x y : Str} {st : Stmt} {f fH : Addr} {fd fdH : FuncData} {N : List Str} {k j : Nat} {rest : List Stmt} {m : MS} {mH : List D → M D} {O' : Ow} {p1 p2 p3 p4 p5 : Pos} (F : Fun K "law" "law" st f fd) (Sc : FnScope N ["_law_script"] (defScope st)) (hK : K = G.K)
    (hN1 : N[1]? = some x) (hl : (defScope st).names.lookup x = some .local) (hl0 : (defScope st).names.lookup ("_law_script" : Str) = some .local) (hy : (defScope st).names.lookup y = some .globalImplicit)
    (hbd : defBody st = .Assign [.Name x p1] (.Call (.Name y p2) [.Name "_law_script" p3] [] p4) p5 :: rest)
    (FH : FnOk P w K mg base (L2.CX P w) j fH fdH ["_law_script"] (spD G 1 mH)) (hmg : mg y = some (.ref fH)) (hkp : PySem.W.keepIn K (.ref fH) = true) (hb : Binds K fdH ["_law_script"] []) (hjk : j ≤ k)
    (hH : ∀ (ns : List Int), ns.length ≤ 63 → ∃ cells t, mH [.rol (ns.map .int)] [] = .ok (handD cells 0 0 t) [] ∧
      ∃ st', m (some (.rol (ns.map .int)) :: some (.tok 0) :: List.replicate (N.length - 2) none) [handD cells 0 0 t] = .rt (.bl true) st')
    (hrest : ∀ (cdv : Value) (A : Around) (outer : List Env) (s : Shared) (H : Hp) (E : XK), XC k G (cxOf (L2.CX P w) P w K mg base N "law" (defScope st) f cdv A outer s H E) (fun cls d _ H' => E cls d H') → XT (cxOf (L2.CX P w) P w K mg base N "law" (defScope st) f cdv A outer s H E) →
      DSs G (cxOf (L2.CX P w) P w K mg base N "law" (defScope st) f cdv A outer s H E) (fun cls d _ H' => E cls d H') {} (fun _ => True) {} rest O' m)
    (hdy : (y == ("__debug__" : Str)) = false := by decide) (hnl : 2 ≤ N.length := by decide) :
    FnOk P w K mg base (L2.CX P w) (k + 1) f fd ["_law_script"] (spLaw K) := by
  refine F.okX Sc (fun vs H Q E h => ?_) fun cdv A outer s H vs Q E hr h => ?_
  · obtain ⟨_, _, rfl, _⟩ := h
    rfl
  · obtain ⟨a, ns, rfl, hS, hns, hO, hQ⟩ := h
    have xc : XC k G (cxOf (L2.CX P w) P w K mg base N "law" (defScope st) f cdv A outer s H E) (fun cls d _ H' => E cls d H') :=
      { tk := takes_of rfl rfl rfl rfl, po := passes_of rfl, calm := rfl, hr := hr, K := hK }
    obtain ⟨t, p, wt⟩ := (hrest cdv A outer s H E xc ⟨rfl, rfl⟩).ex
    rw [hbd]
    have hN0 : N[0]? = some ("_law_script" : Str) := by
      have e := Sc.pre
      cases N with
      | nil => simp at hnl
      | cons n N => simp at e; simp [e]
    obtain ⟨cells, tt, eH, st', em⟩ := hH ns hns
    refine ⟨_, pss_cons (ps_set (i := 1) Sc.nd hN1 (.inl hl) (pe_callS FH (hr.mono hjk) hy hmg hkp hb (fun σ => passAt xc.tk σ) (pa_cons (pe_var (i := 0) hN0 (.inl hl0)) pa_nil) hdy) (by rfl) (.inr hl)) p, ?_⟩
    have e0 : start N [V.ref a] = some (V.ref a) :: List.replicate (N.length - 1) none := rfl
    show tAsg (tCallS (spD G 1 mH) (WE fun cls d _ H' => E cls d H') (tCons (tVar 0) tNil)) (gName 1) _ (start N [V.ref a]) H
    refine ⟨.ref a, rfl, ?_⟩
    have hSub : Same H H := .refl _
    refine ⟨⟨H, H, []⟩, [.rol (ns.map .int)], [], rfl, rfl, hSub, ⟨rfl, .nil, fun n b hn => by simp at hn⟩, .cons (.rol (hK ▸ hS) (reps_ints ns)) .nil, ?_⟩
    rw [eH]
    intro v S' H' x1 su1 so1 r1
    -- the hand is a cell from now on
    cases r1 with
    | lst h1 r1 =>
      rename_i pa vs
      cases r1 with
      | cons r1 rr =>
        cases r1 with
        | lst hc rc =>
          rename_i pc ws
          have ew : ws = cells.map V.int := ints_of rc
          subst ew
          have hne : pc ≠ pa := fun z => by
            subst z
            rw [h1] at hc
            have := Option.some.inj hc
            cases cells with
            | nil => cases this
            | cons c cells => cases this
          have hHpa : H pa = none := by
            rcases x1.new pa _ h1 with z | z
            · replace z : H pa = some (HO.lst _) := z
              rcases hO pa with q | ⟨_, _, q⟩
              · exact q
              · rw [q] at z; cases z
            · exact z
          let S2 : Hp := fun c => if c = pa then none else S' c
          have hS2 : ∀ c, c ≠ pa → S2 c = S' c := fun c hc => if_neg hc
          have hS2p : S2 pa = none := if_pos rfl
          have sub2 : Same S2 H' := fun c o ho => by
            by_cases hcp : c = pa
            · subst hcp; rw [hS2p] at ho; cases ho
            · rw [hS2 c hcp] at ho; exact su1 _ _ ho
          have same2 : Same H S2 := fun c o ho => by
            rw [hS2 c (ne_of_none ho hHpa)]
            exact x1.same _ _ ho
          have rc2 : Rep G [pa] S2 (.ref pc) (.lst (cells.map .int)) := .lst (by rw [hS2 pc hne]; exact hc) (reps_ints cells)
          cases rr with
          | cons r2 rr =>
            cases r2
            cases rr with
            | cons r3 rr =>
              cases r3
              cases rr with
              | cons r4 rr =>
                cases r4
                cases rr
                have so2 : StoOk G [pa] S2 [handD cells 0 0 tt] H' := by
                  refine ⟨rfl, by simp, fun n b hb => ?_⟩
                  cases n with
                  | zero =>
                    have e : pa = b := by simpa using hb
                    subst e
                    exact ⟨hS2p, _, _, rfl, su1 _ _ h1, .cons rc2 (.cons (.int _) (.cons (.int _) (.cons (.int _) .nil)))⟩
                  | succ n => simp at hb
                have I : DI G ⟨S2, H', [pa]⟩ {} S2 ([D.rol (ns.map .int), D.tok 0].map some ++ List.replicate (N.length - 2) none) [handD cells 0 0 tt] ([V.ref a, V.ref pa].map some ++ List.replicate (N.length - 2) none) H' :=
                  DI.start sub2 so2 (.cons (.rol (same2.seq (hK ▸ hS)) (reps_ints ns)) (.cons (.tok rfl) .nil))
                have eσ : (start N [V.ref a]).set 1 (some (V.ref pa)) = [V.ref a, V.ref pa].map some ++ List.replicate (N.length - 2) none := by
                  obtain ⟨l, hl⟩ : ∃ l, N.length = l + 2 := ⟨N.length - 2, by omega⟩
                  show (some (V.ref a) :: List.replicate (N.length - 1) none).set 1 (some (V.ref pa)) = _
                  rw [hl]
                  rfl
                refine wt ⟨S2, H', [pa]⟩ S2 _ _ _ H' _ (eσ ▸ I) ?_
                have em' : m ([D.rol (ns.map .int), D.tok 0].map some ++ List.replicate (N.length - 2) none) [handD cells 0 0 tt] = .rt (.bl true) st' := em
                rw [em']
                intro v S3 H3 _ _ _ r3
                cases r3
                exact hQ H3
end
end DL

/-! DL, eighth part: what the printed texts name. -/
namespace DL
open PySem PySem.Spec PyProof.Rows L2
/-- a def as it stands behind the top -/
structure DefOk (K : PySem.W.Frag) (mg : Str → Option Value) (x : Str) (st : Stmt) (ps : List Str) (f : Addr) (fd : FuncData) : Prop where
  F : Fun K x x st f fd
  g : mg x = some (.ref f)
  b : Binds K fd ps []
theorem DefOk.kp {K : PySem.W.Frag} {mg : Str → Option Value} {x : Str} {st : Stmt} {ps : List Str} {f : Addr} {fd : FuncData} (d : DefOk K mg x st ps f fd) : PySem.W.keepIn K (.ref f) = true := d.F.kp
theorem DefOk.mk' {K : PySem.W.Frag} {mg : Str → Option Value} {x : Str} {st : Stmt} {ps : List Str} {f : Addr} {fd : FuncData} (F : Fun K x x st f fd) (g : mg x = some (.ref f)) (b : Binds K fd ps []) : DefOk K mg x st ps f fd := ⟨F, g, b⟩
theorem XC.u65 {k : Nat} {G : Glb} {X : Cx} {W : WX} (c : XC k G X W) : X.A.units + 65 < cLine := by
  have := c.hr.un
  omega
/-- what isinstance wants of an own error class -/
def excB (K : PySem.W.Frag) (D : Addr) : Bool :=
  decide (PySem.W.findIn K (.ref D) "__getattribute__" = some (some (.builtin "BaseException.__getattribute__"))) && (decide (PySem.W.findIn K (.ref D) "__getattr__" = some none) && (decide (PySem.W.subIn K (.ref D) (.type "BaseException") = some true) && (PySem.W.hasDictIn K D &&
    (decide (PySem.W.findIn K (.ref D) "__class__" = some (some (.builtin "object.__class__"))) && (decide (PySem.W.specialIn K (.builtin "object.__class__") "__get__" = some (some (.builtin "getset_descriptor.__get__"))) && (decide (PySem.W.takesIn K (.builtin "object.__class__") = some true) && decide (PySem.W.mroIn K D (.type "object") = some true)))))))
theorem excB_ok {K : PySem.W.Frag} {D : Addr} (h : excB K D = true) : ExcC K D := by
  unfold excB at h
  simp only [Bool.and_eq_true, decide_eq_true_eq] at h
  obtain ⟨h1, h2, h3, h4, h5, h6, h7, h8⟩ := h
  exact ⟨h1, h2, h3, h4, h5, h6, h7, h8⟩
theorem suK {G : Glb} {X : Cx} (h : X.K = G.K) {a : Addr} {pn : List (Addr × Obj)} : (X.suite a pn).K = G.K := h
theorem suU {k : Nat} {G : Glb} {X : Cx} {W : WX} (c : XC k G X W) {a : Addr} {pn : List (Addr × Obj)} : (X.suite a pn).A.units + 64 < cLine := c.hr.units
section
variable {G : Glb} {X : Cx} {W : WX} {O : Ow} {pos : Pos}
theorem de_globK {x : Str} {i : Int} (h : ∃ t, X.mg x = some (.int i t)) (hg : Gl X x := by rfl) (hd : (x == ("__debug__" : Str)) = false := by decide) : DE G X W O (.Name x pos) (mC (.int i)) := by
  obtain ⟨t, hm⟩ := h
  exact de_globI hm hg hd
end
end DL

/-! DL, ninth part: how the printed functions are reckoned (for simp only [ev]). -/
namespace DL
open PySem PySem.Spec PyProof.Rows L2
theorem bind_ok {α β : Type} (a : α) (st : List D) (f : α → M β) : (Res.ok a st).bind f = f a st := rfl
theorem bind_err {α β : Type} (x : Ex) (st : List D) (f : α → M β) : (Res.err x st : Res α).bind f = .err x st := rfl
def mkEnv : Nat → List D → Env'
  | 0, _ => []
  | n + 1, [] => none :: mkEnv n []
  | n + 1, d :: ds => some d :: mkEnv n ds
theorem mkEnv_eq : ∀ (n : Nat) (ds : List D), ds.length ≤ n → mkEnv n ds = ds.map some ++ List.replicate (n - ds.length) none
  | 0, [], _ => rfl
  | 0, _ :: _, h => by simp at h
  | n + 1, [], _ => by
    have := mkEnv_eq n [] (Nat.zero_le _)
    simp [mkEnv, this, List.replicate_succ]
  | n + 1, d :: ds, h => by
    have := mkEnv_eq n ds (Nat.le_of_succ_le_succ h)
    simp [mkEnv, this]
/-- how a body's end is a call's -/
def outR : Out → Res D
  | .nx _ st1 => .ok .non st1
  | .rt d st1 => .ok d st1
  | .er x _ st1 => .err x st1
  | _ => .bad
theorem fnM_eq {n : Nat} {m : MS} {ds : List D} {st : List D} (h : ds.length ≤ n) : fnM n m ds st = outR (m (mkEnv n ds) st) := by
  rw [mkEnv_eq n ds h]
  unfold fnM outR
  cases m (ds.map some ++ List.replicate (n - ds.length) none) st <;> rfl
def get? (env : Env') (i : Nat) : Option D := match env, i with
  | [], _ => none
  | o :: _, 0 => o
  | _ :: r, i + 1 => get? r i
theorem mVar_eq (i : Nat) (env : Env') (st : List D) : mVar i env st = ret? (get? env i) st := by
  unfold mVar ret?
  induction env generalizing i with
  | nil => rfl
  | cons o r ih =>
    cases i with
    | zero => cases o <;> rfl
    | succ i => exact ih i
theorem mSeq_eq (m n : MS) (env : Env') (st : List D) : mSeq m n env st = match m env st with
  | .nx env1 st1 => n env1 st1
  | o => o := rfl
/-- the rules of reckoning -/
theorem ev1 :
    (∀ (n : Nat) (m : MS) (st : List D), fnM n m [] st = outR (m (mkEnv n []) st)) ∧
    (∀ (n : Nat) (m : MS) (a : D) (st : List D), fnM (n + 1) m [a] st = outR (m (mkEnv (n + 1) [a]) st)) ∧
    (∀ (n : Nat) (m : MS) (a b : D) (st : List D), fnM (n + 2) m [a, b] st = outR (m (mkEnv (n + 2) [a, b]) st)) ∧
    (∀ (n : Nat) (m : MS) (a b c : D) (st : List D), fnM (n + 3) m [a, b, c] st = outR (m (mkEnv (n + 3) [a, b, c]) st)) ∧
    (∀ (n : Nat) (m : MS) (a b c d : D) (st : List D), fnM (n + 4) m [a, b, c, d] st = outR (m (mkEnv (n + 4) [a, b, c, d]) st)) ∧
    (∀ (e : Env') (st : List D), outR (.nx e st) = .ok .non st) ∧ (∀ (d : D) (st : List D), outR (.rt d st) = .ok d st) ∧ (∀ (x : Ex) (e : Env') (st : List D), outR (.er x e st) = .err x st) :=
  ⟨fun n m st => fnM_eq (Nat.zero_le _), fun n m a st => fnM_eq (Nat.le_add_left 1 n), fun n m a b st => fnM_eq (Nat.le_add_left 2 n), fun n m a b c st => fnM_eq (Nat.le_add_left 3 n), fun n m a b c d st => fnM_eq (Nat.le_add_left 4 n),
    fun _ _ => rfl, fun _ _ => rfl, fun _ _ _ => rfl⟩
theorem ev2 :
    (∀ (i : Nat) (env : Env') (st : List D), mVar i env st = ret? (get? env i) st) ∧
    (∀ (d : D) (st : List D), ret? (some d) st = .ok d st) ∧
    (∀ (d : D) (env : Env') (st : List D), mC d env st = .ok d st) ∧
    (∀ (f : D → D → Option D) (ma mb : ME) (env : Env') (st : List D), mOp f ma mb env st = (ma env st).bind fun x st1 => (mb env st1).bind fun y => ret? (f x y)) ∧
    (∀ (f : D → Option D) (ma : ME) (env : Env') (st : List D), mUn f ma env st = (ma env st).bind fun x => ret? (f x)) ∧
    (∀ (env : Env') (st : List D), mNil env st = .ok [] st) ∧
    (∀ (ma : ME) (mr : MA) (env : Env') (st : List D), mCons ma mr env st = (ma env st).bind fun x st1 => (mr env st1).bind fun xs st2 => .ok (x :: xs) st2) ∧
    (∀ (f : List D → Option D) (ma : MA) (env : Env') (st : List D), mCall1 f ma env st = (ma env st).bind fun xs => ret? (f xs)) ∧
    (∀ (f : List D → M D) (ma : MA) (env : Env') (st : List D), mCall f ma env st = (ma env st).bind f) ∧
    (∀ (ma : ME) (env : Env') (st : List D), mTest ma env st = (ma env st).bind bool?) ∧
    (∀ (ma : ME) (env : Env') (st : List D), mTru ma env st = (ma env st).bind tru?) ∧
    (∀ (t : MT) (env : Env') (st : List D), mNot t env st = (t env st).bind fun k st1 => .ok (!k) st1) ∧
    (∀ (t u : MT) (env : Env') (st : List D), mAnd t u env st = (t env st).bind fun k st1 => if k = true then u env st1 else .ok false st1) ∧
    (∀ (t u : MT) (env : Env') (st : List D), mOr t u env st = (t env st).bind fun k st1 => if k = true then .ok true st1 else u env st1) ∧
    (∀ (ma : ME) (env : Env') (st : List D), mNotV ma env st = (ma env st).bind fun x st1 => (bool? x st1).bind fun k st2 => .ok (.bl (!k)) st2) ∧
    (∀ (ma mb : ME) (env : Env') (st : List D), mAndV ma mb env st = (ma env st).bind fun x st1 => (bool? x st1).bind fun k st2 => if k = true then mb env st2 else .ok (.bl false) st2) ∧
    (∀ (ma mb : ME) (env : Env') (st : List D), mOrV ma mb env st = (ma env st).bind fun x st1 => (bool? x st1).bind fun k st2 => if k = true then .ok (.bl true) st2 else mb env st2) ∧
    (∀ (t : MT) (ma mb : ME) (env : Env') (st : List D), mIf t ma mb env st = (t env st).bind fun k st1 => if k = true then ma env st1 else mb env st1) ∧
    (∀ (ma : MA) (env : Env') (st : List D), mTup ma env st = (ma env st).bind tupOk) ∧
    (∀ (ma : MA) (env : Env') (st : List D), mLst ma env st = (ma env st).bind lstOk) ∧
    (∀ (ma mb : ME) (env : Env') (st : List D), mIx ma mb env st = (ma env st).bind fun x st1 => (mb env st1).bind fun y => ixS x y) ∧
    (∀ (b : Bool) (st : List D), bool? (.bl b) st = .ok b st) ∧ (∀ (b : Bool) (st : List D), tru? (.bl b) st = .ok b st) ∧ (∀ (i : Int) (st : List D), tru? (.int i) st = .ok (i != 0) st) ∧
    (∀ (ds : List D) (st : List D), tru? (.lst ds) st = .ok (!ds.isEmpty) st) ∧ (∀ (ds : List D) (st : List D), tru? (.tup ds) st = .ok (!ds.isEmpty) st) :=
  ⟨mVar_eq, fun _ _ => rfl, fun _ _ _ => rfl, fun _ _ _ _ _ => rfl, fun _ _ _ _ => rfl, fun _ _ => rfl, fun _ _ _ _ => rfl, fun _ _ _ _ => rfl, fun _ _ _ _ => rfl, fun _ _ _ => rfl, fun _ _ _ => rfl, fun _ _ _ => rfl, fun _ _ _ _ => rfl, fun _ _ _ _ => rfl, fun _ _ _ => rfl,
    fun _ _ _ _ => rfl, fun _ _ _ _ => rfl, fun _ _ _ _ _ => rfl, fun _ _ _ => rfl, fun _ _ _ => rfl, fun _ _ _ _ => rfl, fun _ _ => rfl, fun _ _ => rfl, fun _ _ => rfl, fun _ _ => rfl, fun _ _ => rfl⟩
theorem ev3 :
    (∀ (m n : MS) (env : Env') (st : List D), mSeq m n env st = match m env st with
      | .nx env1 st1 => n env1 st1
      | o => o) ∧
    (∀ (env : Env') (st : List D), mNx env st = .nx env st) ∧ (∀ (env : Env') (st : List D), mBrk env st = .bk env st) ∧ (∀ (env : Env') (st : List D), mCnt env st = .ct env st) ∧
    (∀ (m : ME) (env : Env') (st : List D), mRet m env st = match m env st with
      | .ok d st1 => .rt d st1
      | .err x st1 => .er x env st1
      | .bad => .bad) ∧
    (∀ (i : Nat) (m : ME) (env : Env') (st : List D), mSet i m env st = match m env st with
      | .ok d st1 => .nx (env.set i (some d)) st1
      | .err x st1 => .er x env st1
      | .bad => .bad) ∧
    (∀ (env : Env') (st : List D), mRetN env st = .rt .non st) ∧
    (∀ (m : ME) (env : Env') (st : List D), mDrop m env st = match m env st with
      | .ok d st1 => .nx env st1
      | .err x st1 => .er x env st1
      | .bad => .bad) ∧
    (∀ (t : MT) (m n : MS) (env : Env') (st : List D), mIfS t m n env st = match t env st with
      | .ok k st1 => if k = true then m env st1 else n env st1
      | .err x st1 => .er x env st1
      | .bad => .bad) ∧
    (∀ (m : ME) (g : MG) (env : Env') (st : List D), mAsg m g env st = match m env st with
      | .ok d st1 => (match g d env with
        | some env1 => .nx env1 st1
        | none => .bad)
      | .err x st1 => .er x env st1
      | .bad => .bad) ∧
    (∀ (i j : Nat) (ma : MA) (env : Env') (st : List D), mPar i j ma env st = match ma env st with
      | .ok [d, e] st1 => .nx ((env.set i (some d)).set j (some e)) st1
      | .err x st1 => .er x env st1
      | _ => .bad) ∧
    (∀ (i : Nat) (d : D) (env : Env'), gNm i d env = some (env.set i (some d))) ∧ (∀ (env : Env'), gsNil [] env = some env) ∧
    (∀ (g : MG) (r : List D → Env' → Option Env') (d : D) (ds : List D) (env : Env'), gsCons g r (d :: ds) env = (g d env).bind (r ds)) ∧
    (∀ (r : List D → Env' → Option Env') (ds : List D) (env : Env'), gTp r (.tup ds) env = r ds env) ∧
    (∀ (c : Nat) (env : Env') (st : List D), mRaise0 c env st = .er ⟨c, none⟩ env st) ∧
    (∀ (mi : MA) (g : MG) (m : MS) (env : Env') (st : List D), mFor mi g m env st = match mi env st with
      | .ok ds st1 => forD g m ds env st1
      | .err x st1 => .er x env st1
      | .bad => .bad) ∧
    (∀ (m : ME) (env : Env') (st : List D), mItems m env st = (m env st).bind items?) ∧ (∀ (ds : List D) (st : List D), items? (.lst ds) st = .ok ds st) ∧ (∀ (ds : List D) (st : List D), items? (.tup ds) st = .ok ds st) ∧ (∀ (ds : List D) (st : List D), items? (.rol ds) st = .ok ds st) ∧
    (∀ (m : MA) (f : List D → M (List D)) (env : Env') (st : List D), mThenA m f env st = (m env st).bind f) ∧
    (∀ (mi : MA) (vs : List Nat) (g : MG) (mt : MT) (me : ME) (env : Env') (st : List D), mLC mi vs g mt me env st = (mi env st).bind fun ds st1 => (lcD (wipeE env vs) g mt me ds st1).bind lstOk) ∧
    (∀ (env : Env') (st : List D), mYes env st = .ok true st) :=
  ⟨fun _ _ _ _ => rfl, fun _ _ => rfl, fun _ _ => rfl, fun _ _ => rfl, fun _ _ _ => rfl, fun _ _ _ _ => rfl, fun _ _ => rfl, fun _ _ _ => rfl, fun _ _ _ _ _ => rfl, fun _ _ _ _ => rfl, fun _ _ _ _ _ => rfl, fun _ _ _ => rfl, fun _ => rfl, fun _ _ _ _ _ => rfl, fun _ _ _ => rfl, fun _ _ _ => rfl, fun _ _ _ _ _ => rfl,
    fun _ _ _ => rfl, fun _ _ => rfl, fun _ _ => rfl, fun _ _ => rfl, fun _ _ _ _ => rfl, fun _ _ _ _ _ _ _ => rfl, fun _ _ => rfl⟩
theorem shaped_int (i : Int) : SeqAt.shaped (.int i) = true := rfl
theorem shaped_str (x : Str) (h : SeqAt.shaped (.str x) = true) : SeqAt.shaped (.str x) = true := h
theorem ev4 :
    (∀ i j : Int, dAdd (.int i) (.int j) = some (.int (i + j))) ∧ (∀ i j : Int, dSub (.int i) (.int j) = some (.int (i - j))) ∧ (∀ i j : Int, dMul (.int i) (.int j) = if MulOk i j then some (.int (i * j)) else none) ∧
    (∀ i j : Int, dDiv (.int i) (.int j) = if DivOk i j then some (.int (i.fdiv j)) else none) ∧ (∀ i j : Int, dMod (.int i) (.int j) = if j ≠ 0 then some (.int (i.fmod j)) else none) ∧
    (∀ i : Int, dNeg (.int i) = some (.int (-i))) ∧ (∀ i j : Int, dLt (.int i) (.int j) = some (.bl (decide (i < j)))) ∧ (∀ i j : Int, dLe (.int i) (.int j) = some (.bl (decide (i ≤ j)))) ∧
    (∀ i j : Int, dGt (.int i) (.int j) = some (.bl (decide (j < i)))) ∧ (∀ i j : Int, dGe (.int i) (.int j) = some (.bl (decide (j ≤ i)))) ∧
    (∀ i j : Int, dEq (.int i) (.int j) = some (.bl (decide (i = j)))) ∧ (∀ i j : Int, dNe (.int i) (.int j) = some (.bl (!decide (i = j)))) ∧
    (∀ (f : D → Option D) (x : D), c1 f [x] = f x) ∧ (∀ i : Int, dAbs (.int i) = some (.int (if i < 0 then -i else i))) ∧ (∀ i : Int, dInt1 (.int i) = some (.int i)) ∧ (∀ b : Bool, dInt1 (.bl b) = some (.int (if b then 1 else 0))) ∧
    (∀ ds : List D, dLen (.lst ds) = some (.int (ds.length : Nat))) ∧ (∀ ds : List D, dLen (.tup ds) = some (.int (ds.length : Nat))) ∧ (∀ a b : Int, dGcd [.int a, .int b] = some (.int ((Nat.gcd a.natAbs b.natAbs : Nat) : Int))) ∧
    (∀ (xs : List D), dTuple (.lst xs) = some (.tup xs)) ∧ (∀ (xs : List D), dTuple (.tup xs) = some (.tup xs)) ∧ (∀ (xs : List D), dList (.lst xs) = some (.lst xs)) ∧ (∀ (xs : List D), dList (.tup xs) = some (.lst xs)) ∧
    (∀ (x y : D) (st : List D), ixS (.lst [x]) y st = ret? (dIx (.lst [x]) y) st) :=
  ⟨fun _ _ => rfl, fun _ _ => rfl, fun _ _ => rfl, fun _ _ => rfl, fun _ _ => rfl, fun _ => rfl, fun _ _ => rfl, fun _ _ => rfl, fun _ _ => rfl, fun _ _ => rfl, fun i j => congrArg (fun b => some (D.bl b)) (Bool.beq_eq_decide_eq i j), fun i j => congrArg (fun b => some (D.bl (!b))) (Bool.beq_eq_decide_eq i j),
    fun _ _ => rfl, fun _ => rfl, fun _ => rfl, fun _ => rfl, fun _ => rfl, fun _ => rfl, fun _ _ => rfl, fun _ => rfl, fun _ => rfl, fun _ => rfl, fun _ => rfl, fun _ _ _ => rfl⟩
end DL

/-! DL, tenth part: the end of a law row whose calls let errors out. -/
namespace DL
open PySem PySem.Spec PyProof.Rows L2
theorem walk_ofC {l : PySem.W.OpenLaw} {n k : Nat} {q : Program} {loose : List Str} {XP : (Str → Option Value) → Heap → Prop} {YP : World → Heap → Prop} {d : DefRec} {K : Params → PySem.W.Frag} {x : Str}
    (hn : l.most = some n) (hn2 : n ≤ sizeLine) (hn3 : n ≤ 63) (hdf : d.params.defaults = []) (hr : Room k callerA)
    (hY : ∀ (w : World) (h : Heap), YP w h → (K w.params).In h)
    (F : ∀ (w : World) (mg : Str → Option Value) (fa : Addr) (h : Heap), (K w.params).In h → h.Ns mainGlobals mg → mg d.name = some (.ref fa) →
      ∃ fd : FuncData, (∀ (s : Shared) (u : Value), BindsTo s fd ⟨[u], []⟩ [(x, u)]) ∧
        ∀ base : Heap, (K w.params).In base → base.Ns mainGlobals mg → FnOk l.prog w (K w.params) mg base (L2.CX l.prog w) k fa fd [x] (spLaw (K w.params))) :
    PySem.W.WalkO q loose XP YP l.row.toRowW d [] (fun f vs => PySem.call f vs) :=
  L2.walk_of (K := K) (CX := fun w => L2.CX l.prog w) (sp := fun w => spLaw (K w.params)) hn hn2 hdf hr hY F
    (fun w H a ns hl hO hS => ⟨a, ns, rfl, hS, Nat.le_trans hl hn3, hO, fun _ => rfl⟩)
    fun w H s e s' h => by obtain ⟨_, _, _, _, _, _, _, _, _, _, _, _, z⟩ := h; exact z
/-! ### reckoning: sizes, the hand -/
theorem mulOk_l {i j : Int} (h : i.natAbs < 2 ^ 64) : MulOk i j := .inl h
theorem mulOk_r {i j : Int} (h : j.natAbs < 2 ^ 64) : MulOk i j := .inr (.inl h)
theorem ret_ok (d : D) (st : List D) : ret? (some d) st = .ok d st := rfl
theorem dMod_pos (i j : Int) (h : j ≠ 0) : dMod (.int i) (.int j) = some (.int (i.fmod j)) := if_pos h
theorem fmod_small {i j : Int} (hj : 0 < j) : 0 ≤ i.fmod j ∧ i.fmod j < j := ⟨Int.fmod_nonneg_of_pos i hj, Int.fmod_lt_of_pos i hj⟩
theorem ixN_nat {n j : Nat} (hj : j < n) : ixN n (j : Int) = some j := by
  unfold ixN
  simp only [show ¬ ((j : Int) < 0) by omega, show (j : Int) < n by omega]
  simp
theorem atI_nat {α : Type} {xs : List α} {k : Nat} (h : k < xs.length) : atI xs (k : Int) = some xs[k] := by
  unfold atI
  rw [ixN_nat h]
  simp [h]
theorem hix0 (c : List Int) (a r t : Int) : ixS (.tok 0) (.int 0) [handD c a r t] = .ok (.lst (c.map .int)) [handD c a r t] := rfl
theorem hix1 (c : List Int) (a r t : Int) : ixS (.tok 0) (.int 1) [handD c a r t] = .ok (.int a) [handD c a r t] := rfl
theorem hix2 (c : List Int) (a r t : Int) : ixS (.tok 0) (.int 2) [handD c a r t] = .ok (.int r) [handD c a r t] := rfl
theorem hix3 (c : List Int) (a r t : Int) : ixS (.tok 0) (.int 3) [handD c a r t] = .ok (.int t) [handD c a r t] := rfl
/-- a cell of the store written -/
def putS (n : Nat) (k : Int) (d : D) (env : Env') (st : List D) : Out := match st[n]? with
    | some (D.lst ds) => match ixN ds.length k with
      | some j => .nx env (st.set n (.lst (ds.set j d)))
      | none => .bad
    | _ => .bad
theorem mPut_eq (k : Int) (m : ME) (e : Env') (st : List D) : mPut 0 k m (some (.tok 0) :: e) st = match m (some (.tok 0) :: e) st with
  | .ok d st1 => putS 0 k d (some (.tok 0) :: e) st1
  | .err x st1 => .er x (some (.tok 0) :: e) st1
  | .bad => .bad := rfl
theorem put1 (c : List Int) (a r t x : Int) (e : Env') : putS 0 1 (.int x) e [handD c a r t] = .nx e [handD c x r t] := rfl
theorem put2 (c : List Int) (a r t x : Int) (e : Env') : putS 0 2 (.int x) e [handD c a r t] = .nx e [handD c a x t] := rfl
theorem put3 (c : List Int) (a r t x : Int) (e : Env') : putS 0 3 (.int x) e [handD c a r t] = .nx e [handD c a r x] := rfl
theorem hcell (c : List Int) (k : Nat) (h : k < c.length) (st : List D) : ixS (.lst (c.map .int)) (.int (k : Int)) st = .ok (.int c[k]) st := by
  show ret? (atI (c.map .int) (k : Int)) st = _
  rw [atI_nat (by rw [List.length_map]; exact h)]
  simp [ret?]
structure HandOk (st : List D) : Prop where
  ex : ∃ (cells : List Int) (at_ rest total : Int), st = [handD cells at_ rest total] ∧ 0 ≤ at_ ∧ 0 ≤ rest ∧ ∀ c ∈ cells, 0 ≤ c
/-! ### facts of a class, in k_is' words -/
theorem excB_mk {K : PySem.W.Frag} {D : Addr} (h1 : PySem.W.findIn K (.ref D) "__getattribute__" = some (some (.builtin "BaseException.__getattribute__"))) (h2 : PySem.W.findIn K (.ref D) "__getattr__" = some none) (h3 : PySem.W.subIn K (.ref D) (.type "BaseException") = some true) (h4 : PySem.W.hasDictIn K D = true)
    (h5 : PySem.W.findIn K (.ref D) "__class__" = some (some (.builtin "object.__class__"))) (h6 : PySem.W.specialIn K (.builtin "object.__class__") "__get__" = some (some (.builtin "getset_descriptor.__get__"))) (h7 : PySem.W.takesIn K (.builtin "object.__class__") = some true) (h8 : PySem.W.mroIn K D (.type "object") = some true) : excB K D = true := by
  unfold excB
  simp only [h1, h2, h3, h4, h5, h6, h7, h8, decide_true, Bool.and_self]
theorem kitO_ref {K : PySem.W.Frag} {t : Value} {D : Addr} (hc : PySem.W.isClsIn K D = true) (ht : PySem.W.typeIn K (.ref D) = some (.type "type")) (hs : PySem.W.subIn K t (.ref D) = some true) : PySem.W.kitOne K t (.ref D) = some true := by
  unfold PySem.W.kitOne PySem.W.kitCls
  have hc' : (PySem.W.clsIn K D).isSome = true := hc
  split
  · rfl
  · simp [hc', ht, hs]
theorem kitO_refF {K : PySem.W.Frag} {C D : Addr} (hc : PySem.W.isClsIn K D = true) (ht : PySem.W.typeIn K (.ref D) = some (.type "type")) (hs : PySem.W.subIn K (.ref C) (.ref D) = some false) (hm : PySem.W.subIn K (.ref C) (.ref C) = some true) : PySem.W.kitOne K (.ref C) (.ref D) = some false := by
  unfold PySem.W.kitOne PySem.W.kitCls
  have hc' : (PySem.W.clsIn K D).isSome = true := hc
  split
  · rename_i e
    have e' : Value.ref C = .ref D := by simpa using e
    cases e'
    rw [hs] at hm; cases hm
  · simp [hc', ht, hs]
theorem kitO_ty {K : PySem.W.Frag} {C : Addr} {T : String} {b : Bool} (hs : PySem.W.subIn K (.ref C) (.type T) = some b) (hk : PySem.W.kitMeta T = true) : PySem.W.kitOne K (.ref C) (.type T) = some b := by
  unfold PySem.W.kitOne PySem.W.kitCls
  split
  · rename_i e
    have e' : Value.ref C = .type T := by simpa using e
    cases e'
  · simp [hk, hs]
/-! ### loops reckoned -/
theorem forD_nil (g : MG) (body : MS) (env : Env') (st : List D) : forD g body [] env st = .nx env st := rfl
theorem forD_cons (g : MG) (body : MS) (d : D) (ds : List D) (env : Env') (st : List D) : forD g body (d :: ds) env st = match g d env with
    | none => .bad
    | some env1 => match body env1 st with
      | .nx e s => forD g body ds e s
      | .ct e s => forD g body ds e s
      | .bk e s => .nx e s
      | o => o := rfl
theorem mFor_eq (mi : MA) (g : MG) (body : MS) (env : Env') (st : List D) : mFor mi g body env st = match mi env st with
  | .ok ds st1 => forD g body ds env st1
  | .err x st1 => .er x env st1
  | .bad => .bad := rfl
theorem forD_inv {g : MG} {body : MS} (P : Env' → List D → Prop) (Q : D → Prop) (h : ∀ d env st, Q d → P env st → ∃ env1 env2 st2, g d env = some env1 ∧ body env1 st = .nx env2 st2 ∧ P env2 st2) :
    ∀ (ds : List D) (env : Env') (st : List D), (∀ d ∈ ds, Q d) → P env st → ∃ env' st', forD g body ds env st = .nx env' st' ∧ P env' st'
  | [], env, st, _, p => ⟨env, st, rfl, p⟩
  | d :: ds, env, st, hq, p => by
    obtain ⟨e1, e2, s2, a, b, c⟩ := h d env st (hq d List.mem_cons_self) p
    obtain ⟨e3, s3, x, y⟩ := forD_inv P Q h ds e2 s2 (fun q hh => hq q (List.mem_cons_of_mem _ hh)) c
    exact ⟨e3, s3, by rw [forD_cons, a]; simp only [b]; exact x, y⟩
theorem lcD_map {env : Env'} {g : MG} {mt : MT} {me : ME} {st : List D} (f : D → D) : ∀ ds : List D, (∀ d ∈ ds, ∃ env1, g d env = some env1 ∧ mt env1 st = .ok true st ∧ me env1 st = .ok (f d) st) → lcD env g mt me ds st = .ok (ds.map f) st
  | [], _ => rfl
  | d :: ds, h => by
    obtain ⟨e1, a, b, c⟩ := h d List.mem_cons_self
    have ih := lcD_map f ds fun q hh => h q (List.mem_cons_of_mem _ hh)
    unfold lcD
    simp only [a]
    rw [b]
    simp only [noEr, bind_ok, if_pos]
    rw [c]
    simp only [bind_ok]
    rw [ih]
    rfl
theorem numbered_mem {ds : List D} {d : D} (h : d ∈ numbered ds) : ∃ (i : Nat) (x : D), i < ds.length ∧ x ∈ ds ∧ d = .tup [.int (i : Int), x] := by
  unfold numbered at h
  rw [List.mem_mapIdx] at h
  obtain ⟨i, hi, e⟩ := h
  exact ⟨i, ds[i], hi, List.getElem_mem hi, e.symm⟩
/-! ### items of written rows -/
theorem atI_0 (a : D) (r : List D) : atI (a :: r) 0 = some a := atI_nat (xs := a :: r) (k := 0) (by simp)
theorem atI_1 (a b : D) (r : List D) : atI (a :: b :: r) 1 = some b := atI_nat (xs := a :: b :: r) (k := 1) (by simp)
theorem atI_2 (a b c : D) (r : List D) : atI (a :: b :: c :: r) 2 = some c := atI_nat (xs := a :: b :: c :: r) (k := 2) (by simp)
theorem atI_3 (a b c d : D) (r : List D) : atI (a :: b :: c :: d :: r) 3 = some d := atI_nat (xs := a :: b :: c :: d :: r) (k := 3) (by simp)
theorem ixS_tup (xs : List D) (i : Int) (st : List D) : ixS (.tup xs) (.int i) st = ret? (atI xs i) st := rfl
theorem ixS_lst (xs : List D) (i : Int) (st : List D) : ixS (.lst xs) (.int i) st = ret? (atI xs i) st := rfl
theorem ixS_rol (xs : List D) (i : Int) (st : List D) : ixS (.rol xs) (.int i) st = ret? (atI xs i) st := rfl
theorem tupOk_of {xs : List D} (h : xs.length ≤ 100) (st : List D) : tupOk xs st = .ok (.tup xs) st := by
  unfold tupOk
  rw [if_pos (Nat.le_trans h (by decide))]
theorem lstOk_of {xs : List D} (h : xs.length ≤ 100) (st : List D) : lstOk xs st = .ok (.lst xs) st := by
  unfold lstOk
  rw [if_pos (Nat.le_trans h (by decide))]
theorem ev5 :
    (∀ (a : D) (r : List D), atI (a :: r) 0 = some a) ∧ (∀ (a b : D) (r : List D), atI (a :: b :: r) 1 = some b) ∧ (∀ (a b c : D) (r : List D), atI (a :: b :: c :: r) 2 = some c) ∧ (∀ (a b c d : D) (r : List D), atI (a :: b :: c :: d :: r) 3 = some d) ∧
    (∀ (xs : List D) (i : Int) (st : List D), ixS (.tup xs) (.int i) st = ret? (atI xs i) st) ∧ (∀ (xs : List D) (i : Int) (st : List D), ixS (.lst xs) (.int i) st = ret? (atI xs i) st) ∧ (∀ (xs : List D) (i : Int) (st : List D), ixS (.rol xs) (.int i) st = ret? (atI xs i) st) ∧
    (∀ st, tupOk [] st = .ok (.tup []) st) ∧ (∀ a st, tupOk [a] st = .ok (.tup [a]) st) ∧ (∀ a b st, tupOk [a, b] st = .ok (.tup [a, b]) st) ∧ (∀ a b c st, tupOk [a, b, c] st = .ok (.tup [a, b, c]) st) ∧ (∀ a b c d st, tupOk [a, b, c, d] st = .ok (.tup [a, b, c, d]) st) ∧
    (∀ st, lstOk [] st = .ok (.lst []) st) ∧ (∀ a st, lstOk [a] st = .ok (.lst [a]) st) ∧ (∀ a b st, lstOk [a, b] st = .ok (.lst [a, b]) st) ∧ (∀ a b c st, lstOk [a, b, c] st = .ok (.lst [a, b, c]) st) ∧ (∀ a b c d st, lstOk [a, b, c, d] st = .ok (.lst [a, b, c, d]) st) :=
  ⟨atI_0, atI_1, atI_2, atI_3, fun _ _ _ => rfl, fun _ _ _ => rfl, fun _ _ _ => rfl, fun st => tupOk_of (by simp) st, fun a st => tupOk_of (by simp) st, fun a b st => tupOk_of (by simp) st, fun a b c st => tupOk_of (by simp) st, fun a b c d st => tupOk_of (by simp) st,
    fun st => lstOk_of (by simp) st, fun a st => lstOk_of (by simp) st, fun a b st => lstOk_of (by simp) st, fun a b c st => lstOk_of (by simp) st, fun a b c d st => lstOk_of (by simp) st⟩
end DL

/-! DL, eleventh part: lists that a slot owns (made, grown, given away). -/
namespace DL
open PySem PySem.Spec PyProof.Rows L2
def Ow.add (O : Ow) (i : Nat) : Ow := { O with own := i :: O.own }
def Ow.less (O : Ow) (i : Nat) : Ow := { O with own := O.own.filter fun j => !(j == i) }
theorem has_false {O : Ow} {i : Nat} (h : O.has i = false) : i ∉ O.own ∧ O.exi ≠ some i ∧ O.slf ≠ some i := by
  refine ⟨?_, ?_, ?_⟩
  · intro z
    unfold Ow.has at h
    rw [List.elem_eq_true_of_mem z] at h; cases h
  · intro z
    unfold Ow.has at h
    rw [z] at h; simp at h
  · intro z
    unfold Ow.has at h
    rw [z] at h; simp at h
theorem has_mk {O : Ow} {i : Nat} (h1 : i ∉ O.own) (h2 : O.exi ≠ some i) (h3 : O.slf ≠ some i) : O.has i = false := by
  unfold Ow.has
  rw [Bool.or_eq_false_iff, Bool.or_eq_false_iff]
  refine ⟨⟨?_, ?_⟩, ?_⟩
  · cases e : O.own.elem i with
    | false => rfl
    | true => exact absurd (List.mem_of_elem_eq_true e) h1
  · cases e : O.exi with
    | none => rfl
    | some j =>
      rw [e] at h2
      simpa using h2
  · cases e : O.slf with
    | none => rfl
    | some j =>
      rw [e] at h3
      simpa using h3
theorem mem_less {O : Ow} {i j : Nat} : j ∈ (O.less i).own ↔ j ∈ O.own ∧ j ≠ i := by
  unfold Ow.less
  simp [List.mem_filter]
theorem StoOk.grow {G : Glb} {ad : List Addr} {S H H' : Hp} {st : List D} (so : StoOk G ad S st H) (e : ∀ a o, a ∈ ad → H a = some o → H' a = some o) : StoOk G ad S st H' :=
  ⟨so.len, so.nd, fun n a h => let ⟨h1, ds, vs, h2, h3, h4⟩ := so.at_ n a h; ⟨h1, ds, vs, h2, e a _ (List.mem_of_getElem? h) h3, h4⟩⟩
theorem StoOk.known {G : Glb} {ad : List Addr} {S S' H : Hp} {st : List D} (so : StoOk G ad S st H) (e : Same S S') (n : ∀ a ∈ ad, S' a = none) : StoOk G ad S' st H :=
  ⟨so.len, so.nd, fun k a h => let ⟨_, ds, vs, h2, h3, h4⟩ := so.at_ k a h; ⟨n a (List.mem_of_getElem? h), ds, vs, h2, h3, h4.mono e⟩⟩
section
variable {G : Glb} {b : Act} {O : Ow} {S H : Hp} {env : Env'} {st : List D} {σ : L2.St}
/-- a slot takes a new list -/
theorem DI.own_new {i : Nat} {l : Addr} {vs : List V} {ds : List D} (I : DI G b O S env st σ H) (hl : H l = none) (r : Reps G b.ad S vs ds) (hi : O.has i = false) : DI G b (O.add i) S (env.set i (some (.lst ds))) st (σ.set i (some (.ref l))) (upd H l (.lst vs)) := by
  obtain ⟨h1, h2, h3⟩ := has_false hi
  have la : l ∉ b.ad := fun z => by
    obtain ⟨_, vs', hv⟩ := I.sto.has z
    rw [hl] at hv; cases hv
  have lS : S l = none := by
    cases e : S l with
    | none => rfl
    | some o => have := I.sub l o e; rw [hl] at this; cases this
  have lb : b.H l = none := by
    cases e : b.H l with
    | none => rfl
    | some o => have := I.keep l o e la; rw [hl] at this; cases this
  have up : ∀ a o, H a = some o → upd H l (.lst vs) a = some o := fun a o h => by
    rw [upd_ne (fun z => by rw [z, hl] at h; cases h)]; exact h
  have other : ∀ {j : Nat} {d' : D}, j ≠ i → (env.set i (some (.lst ds)))[j]? = some (some d') → env[j]? = some (some d') := fun {j d'} hj h => by
    rw [List.getElem?_set_ne (Ne.symm hj)] at h; exact h
  have sl : ∀ {j : Nat}, j ≠ i → (σ.set i (some (V.ref l)))[j]? = σ[j]? := fun {j} hj => List.getElem?_set_ne (Ne.symm hj)
  refine ⟨by rw [List.length_set, List.length_set]; exact I.len, fun a o h => up a o (I.sub a o h), I.s0, I.new, fun a o h ha => up a o (I.keep a o h ha), fun j d' h ho => ?_, fun j d' hj h => ?_, fun j k a hj hk e1 e2 q1 q2 => ?_, I.sto.grow fun a o _ h => up a o h, fun j d' hj h => ?_, fun j hj => ?_⟩
  · obtain ⟨g1, g2, g3⟩ := has_false ho
    have hne : j ≠ i := fun z => g1 (z ▸ List.mem_cons_self)
    obtain ⟨w, q1, q2⟩ := I.slot j d' (other hne h) (has_mk (fun z => g1 (List.mem_cons_of_mem _ z)) g2 g3)
    exact ⟨w, by rw [sl hne]; exact q1, q2⟩
  · by_cases hne : j = i
    · subst hne
      by_cases hlen : j < env.length
      · rw [List.getElem?_set_self hlen] at h
        have e : D.lst ds = d' := by simpa using h
        subst e
        exact ⟨l, vs, ds, rfl, by rw [List.getElem?_set_self (by rw [I.len]; exact hlen)], upd_same, lS, lb, la, r⟩
      · rw [List.getElem?_eq_none_iff.mpr (by rw [List.length_set]; exact Nat.le_of_not_lt hlen)] at h; cases h
    · have hj' : j ∈ O.own := by
        rcases List.mem_cons.mp hj with z | z
        · exact absurd z hne
        · exact z
      obtain ⟨a, ws, es, q1, q2, q3, q4⟩ := I.own j d' hj' (other hne h)
      exact ⟨a, ws, es, q1, by rw [sl hne]; exact q2, up a _ q3, q4⟩
  · have key : ∀ {j : Nat} {a : Addr}, j ∈ (O.add i).own → (∃ d : D, (env.set i (some (.lst ds)))[j]? = some (some d)) → (σ.set i (some (V.ref l)))[j]? = some (some (V.ref a)) → (j = i ∧ a = l) ∨ (j ≠ i ∧ j ∈ O.own ∧ (∃ d : D, env[j]? = some (some d)) ∧ σ[j]? = some (some (V.ref a)) ∧ a ≠ l) := fun {j a} hj ⟨d, e⟩ q => by
      by_cases hne : j = i
      · subst hne
        have hlen : j < σ.length := by
          have := (List.getElem?_eq_some_iff.mp q).1
          rwa [List.length_set] at this
        rw [List.getElem?_set_self hlen] at q
        have : V.ref l = .ref a := by simpa using q
        injection this with this
        exact .inl ⟨rfl, this.symm⟩
      · have hj' : j ∈ O.own := by
          rcases List.mem_cons.mp hj with z | z
          · exact absurd z hne
          · exact z
        rw [sl hne] at q
        have e' := other hne e
        obtain ⟨c, ws, es, p1, p2, p3, _⟩ := I.own j d hj' e'
        have : a = c := by
          have := q.symm.trans p2
          simpa using this
        subst this
        exact .inr ⟨hne, hj', ⟨d, e'⟩, q, fun z => by rw [z, hl] at p3; cases p3⟩
    rcases key hj e1 q1 with ⟨x1, y1⟩ | ⟨x1, y1, z1, w1, v1⟩
    · rcases key hk e2 q2 with ⟨x2, _⟩ | ⟨_, _, _, _, v2⟩
      · rw [x1, x2]
      · exact absurd y1 v2
    · rcases key hk e2 q2 with ⟨_, y2⟩ | ⟨_, y2, z2, w2, _⟩
      · exact absurd y2 v1
      · exact I.dist j k a y1 y2 z1 z2 w1 w2
  · have hne : j ≠ i := fun z => h2 (z ▸ hj)
    obtain ⟨y, q1, q2, q3⟩ := I.exc j d' hj (other hne h)
    exact ⟨y, q1, by rw [sl hne]; exact q2, q3⟩
  · have hne : j ≠ i := fun z => h3 (z ▸ hj)
    obtain ⟨c, ws, es, q1, q2, q3, q4, q5⟩ := I.self_ j hj
    exact ⟨c, ws, es, by rw [List.getElem?_set_ne (Ne.symm hne)]; exact q1, by rw [sl hne]; exact q2, up _ _ q3, up _ _ q4, q5⟩
/-- a slot's list gets other items -/
theorem DI.own_upd {i : Nat} {l : Addr} {vs' : List V} {ds' : List D} {d0 : D} (I : DI G b O S env st σ H) (hi : i ∈ O.own) (hx : O.exi ≠ some i) (hsf : O.slf ≠ some i) (he : env[i]? = some (some d0)) (hs : σ[i]? = some (some (.ref l))) (r : Reps G b.ad S vs' ds') :
    DI G b O S (env.set i (some (.lst ds'))) st σ (upd H l (.lst vs')) := by
  obtain ⟨a, ws, es, p1, p2, p3, p4, p5, p6, p7⟩ := I.own i d0 hi he
  have ea : a = l := by
    have := p2.symm.trans hs
    simpa using this
  subst ea
  have other : ∀ {j : Nat} {d' : D}, j ≠ i → (env.set i (some (.lst ds')))[j]? = some (some d') → env[j]? = some (some d') := fun {j d'} hj h => by
    rw [List.getElem?_set_ne (Ne.symm hj)] at h; exact h
  have was : ∀ {j : Nat}, (∃ d : D, (env.set i (some (.lst ds')))[j]? = some (some d)) → ∃ d : D, env[j]? = some (some d) := fun {j} ⟨d, e⟩ => by
    by_cases hj : j = i
    · subst hj; exact ⟨_, he⟩
    · exact ⟨d, other hj e⟩
  have up : ∀ c o, c ≠ a → H c = some o → upd H a (.lst vs') c = some o := fun c o hc h => by rw [upd_ne hc]; exact h
  refine ⟨by rw [List.length_set]; exact I.len, fun c o h => up c o (fun z => by rw [z, p4] at h; cases h) (I.sub c o h), I.s0, I.new, fun c o h hc => up c o (fun z => by rw [z, p5] at h; cases h) (I.keep c o h hc), fun j d' h ho => ?_, fun j d' hj h => ?_, fun j k c hj hk e1 e2 q1 q2 => I.dist j k c hj hk (was e1) (was e2) q1 q2, I.sto.grow fun c o hc h => up c o (fun z => p6 (z ▸ hc)) h, fun j d' hj h => ?_, fun j hj => ?_⟩
  · obtain ⟨g1, _⟩ := has_false ho
    exact I.slot j d' (other (fun z => g1 (z ▸ hi)) h) ho
  · by_cases hne : j = i
    · subst hne
      have hlen := (List.getElem?_eq_some_iff.mp he).1
      rw [List.getElem?_set_self hlen] at h
      have e : D.lst ds' = d' := by simpa using h
      subst e
      exact ⟨a, vs', ds', rfl, p2, upd_same, p4, p5, p6, r⟩
    · obtain ⟨c, ws', es', q1, q2, q3, q4⟩ := I.own j d' hj (other hne h)
      refine ⟨c, ws', es', q1, q2, up c _ (fun z => hne ?_) q3, q4⟩
      subst z
      exact I.dist j i c hj hi ⟨_, other hne h⟩ ⟨_, he⟩ q2 p2
  · exact I.exc j d' hj (other (fun z => hx (z ▸ hj)) h)
  · have hne : j ≠ i := fun z => hsf (z ▸ hj)
    obtain ⟨c, ws', es', q1, q2, q3, q4, q5⟩ := I.self_ j hj
    exact ⟨c, ws', es', by rw [List.getElem?_set_ne (Ne.symm hne)]; exact q1, q2, up _ _ (fun z => by rw [z, p3] at q3; cases q3) q3, up _ _ (fun z => by rw [z, p3] at q4; cases q4) q4, q5⟩
/-- a slot's list is given away: from here on nobody changes it -/
theorem DI.freeze (I : DI G b O S env st σ H) (i : Nat) (hx : O.exi ≠ some i) : ∃ S', Same S S' ∧ DI G b (O.less i) S' env st σ H := by
  have hasl : ∀ {j : Nat}, j ≠ i → (O.less i).has j = false → O.has j = false := fun {j} hj h => by
    obtain ⟨g1, g2, g3⟩ := has_false h
    exact has_mk (fun z => g1 (mem_less.mpr ⟨z, hj⟩)) g2 g3
  by_cases hi : i ∈ O.own
  · by_cases he : ∃ d0, env[i]? = some (some d0)
    · obtain ⟨d0, he⟩ := he
      obtain ⟨a, ws, es, p1, p2, p3, p4, p5, p6, p7⟩ := I.own i d0 hi he
      have sm : Same S (upd S a (.lst ws)) := fun c o h => by
        rw [upd_ne (fun z => by rw [z, p4] at h; cases h)]; exact h
      have nw : ∀ c o, upd S a (.lst ws) c = some o → (c = a ∧ o = .lst ws) ∨ S c = some o := fun c o h => by
        by_cases hc : c = a
        · subst hc; rw [upd_same] at h; exact .inl ⟨rfl, (Option.some.inj h).symm⟩
        · rw [upd_ne hc] at h; exact .inr h
      have no : ∀ c, c ≠ a → S c = none → upd S a (.lst ws) c = none := fun c hc h => by rw [upd_ne hc]; exact h
      refine ⟨upd S a (.lst ws), sm, I.len, fun c o h => ?_, I.s0.trans sm, fun c o h => ?_, I.keep, fun j d' h ho => ?_, fun j d' hj h => ?_, fun j k c hj hk e1 e2 q1 q2 => I.dist j k c (mem_less.mp hj).1 (mem_less.mp hk).1 e1 e2 q1 q2, I.sto.known sm fun c hc => no c (fun z => p6 (z ▸ hc)) (I.sto.has hc).1, fun j d' hj h => ?_, fun j hj => ?_⟩
      · rcases nw c o h with ⟨rfl, rfl⟩ | q
        · exact p3
        · exact I.sub c o q
      · rcases nw c o h with ⟨rfl, rfl⟩ | q
        · exact .inr p5
        · exact I.new c o q
      · by_cases hj : j = i
        · subst hj
          rw [he] at h
          have e : d0 = d' := by simpa using h
          subst e
          subst p1
          exact ⟨_, p2, .lst upd_same (p7.mono sm)⟩
        · obtain ⟨w, q1, q2⟩ := I.slot j d' h (hasl hj ho)
          exact ⟨w, q1, q2.mono sm⟩
      · obtain ⟨hj1, hj2⟩ := mem_less.mp hj
        obtain ⟨c, ws', es', q1, q2, q3, q4, q5, q6, q7⟩ := I.own j d' hj1 h
        exact ⟨c, ws', es', q1, q2, q3, no c (fun z => hj2 (by subst z; exact I.dist j i c hj1 hi ⟨_, h⟩ ⟨_, he⟩ q2 p2)) q4, q5, q6, q7.mono sm⟩
      · obtain ⟨y, q1, q2, q3⟩ := I.exc j d' hj h
        exact ⟨y, q1, q2, q3.mono sm⟩
      · obtain ⟨c, ws', es', q1, q2, q3, q4, q5, q6, q7, q8, q9, q10, q11⟩ := I.self_ j hj
        exact ⟨c, ws', es', q1, q2, q3, q4, no _ (show O.slv.1 ≠ a from fun z => by rw [z, p3] at q3; cases q3) q5, no _ (show O.slv.2 ≠ a from fun z => by rw [z, p3] at q4; cases q4) q6, q7, q8, q9, q10, q11.mono sm⟩
    · refine ⟨S, .refl _, I.len, I.sub, I.s0, I.new, I.keep, fun j d' h ho => ?_, fun j d' hj h => I.own j d' (mem_less.mp hj).1 h, fun j k c hj hk e1 e2 q1 q2 => I.dist j k c (mem_less.mp hj).1 (mem_less.mp hk).1 e1 e2 q1 q2, I.sto, I.exc, I.self_⟩
      exact I.slot j d' h (hasl (fun z => he ⟨d', z ▸ h⟩) ho)
  · refine ⟨S, .refl _, I.len, I.sub, I.s0, I.new, I.keep, fun j d' h ho => ?_, fun j d' hj h => I.own j d' (mem_less.mp hj).1 h, fun j k c hj hk e1 e2 q1 q2 => I.dist j k c (mem_less.mp hj).1 (mem_less.mp hk).1 e1 e2 q1 q2, I.sto, I.exc, I.self_⟩
    obtain ⟨g1, g2, g3⟩ := has_false ho
    exact I.slot j d' h (has_mk (fun z => g1 (mem_less.mpr ⟨z, fun y => hi (y ▸ z)⟩)) g2 g3)
end
section
variable {G : Glb} {X : Cx} {W : WX} {Ob : Ow} {OE : Ow → Prop} {O O1 O2 : Ow} {pos : Pos} {s : Stmt} {rest : List Stmt} {m n : MS} {e : Expr} {me : ME}
theorem dss_freeze (i : Nat) (h : DSs G X W Ob OE (O.less i) rest O2 m) (hx : O.exi ≠ some i := by decide) : DSs G X W Ob OE O rest O2 m := by
  obtain ⟨t, p, w⟩ := h.ex
  refine ⟨t, p, fun b S env st σ H D I h => ?_⟩
  obtain ⟨S', sm, I'⟩ := I.freeze i hx
  exact w b S' env st σ H D I' (h.from_ sm)
/-- a new list -/
def PostF (G : Glb) (ad : List Addr) (S H : Hp) (ds : List D) (st : List D) (Q : VK) : Prop := ∀ l vs S' H', Ext ad S H S' H' → Same S' H' → StoOk G ad S' st H' → H' l = none → Reps G ad S' vs ds → Q (.ref l) (upd H' l (.lst vs))
structure DF (G : Glb) (X : Cx) (W : WX) (O : Ow) (e : Expr) (m : MA) : Prop where
  ex : ∃ t, PE X e t ∧ ∀ (b : Act) S env st σ H Q, DI G b O S env st σ H → wpR (m env st) (fun ds st' => PostF G b.ad S H ds st' Q) (fun x st' => PostX G b.ad S H x st' fun c dd H' => W c dd σ H') → t σ H Q
def fits? (ds : List D) : M (List D) := fun st => if ds.length ≤ sizeLine then .ok ds st else .bad
theorem df_lst {es : List Expr} {mr : MA} (h : DA G X W O es mr) : DF G X W O (.List es pos) (mThenA mr fits?) := by
  obtain ⟨t, p, w⟩ := h.ex
  refine ⟨_, pe_lst p, fun b S env st σ H Q I h => w b S env st σ H _ I (wpR_imp (wpR_bind h) (fun ds st1 h1 => ?_) fun _ _ z => z)⟩
  intro xs S1 H1 x1 su1 so1 r1
  unfold fits? at h1
  split at h1
  · rename_i hz
    exact ⟨by rw [r1.len]; exact hz, fun p hp => h1 p xs S1 H1 x1 su1 so1 hp r1⟩
  · exact h1.elim
/-- x = a new list, x's own -/
def mSetF (i : Nat) (m : MA) : MS := fun env st => match m env st with
  | .ok ds st1 => .nx (env.set i (some (.lst ds))) st1
  | .err x st1 => .er x env st1
  | .bad => .bad
theorem ds_own (i : Nat) {x : Str} {pos' : Pos} {ma : MA} (hN : X.N.Nodup) (he : DF G X W O e ma) (hO : OE O := by first | trivial | rfl) (hi : X.N[i]? = some x := by rfl) (ho : O.has i = false := by rfl) (hx : Loc X.env.scope x := by first | exact Or.inl rfl | exact Or.inr rfl)
    (hs : swapsWith e (some (.Name x pos')) pos.line X.env = pure false := by rfl) (hf : X.fn x = true ∨ X.env.scope.names.lookup x = some .local := by first | exact .inl rfl | exact .inr rfl) : DS G X W Ob OE O (.Assign [.Name x pos'] e pos) (O.add i) (mSetF i ma) := by
  obtain ⟨t, p, w⟩ := he.ex
  refine ⟨_, ps_set hN hi hx p hs hf, fun b S env st σ H D I h => w b S env st σ H _ I ?_⟩
  unfold mSetF at h
  cases e1 : ma env st with
  | ok ds st1 =>
    rw [e1] at h
    intro l vs S' H' x' su so hl r
    have I' := I.ext x' su so
    exact h S' _ _ x'.same (I'.own_new hl r ho)
  | err y st1 =>
    rw [e1] at h
    intro cls dd S' H' x' su so r
    exact h cls dd O S' σ H' hO x'.same (I.ext x' su so) r
  | bad => rw [e1] at h; exact h
/-- x.append(e) -/
def mPush (i : Nat) (me : ME) : MS := fun env st => match env[i]? with
  | some (some (.lst ds)) => match me env st with
    | .ok d st1 => if ds.length < sizeLine then .nx (env.set i (some (.lst (ds ++ [d])))) st1 else .bad
    | .err x st1 => .er x env st1
    | .bad => .bad
  | _ => .bad
theorem Reps.snoc {ad : List Addr} {S : Hp} {v : V} {d : D} (r1 : Rep G ad S v d) : ∀ {vs : List V} {ds : List D}, Reps G ad S vs ds → Reps G ad S (vs ++ [v]) (ds ++ [d])
  | _, _, .nil => .cons r1 .nil
  | _, _, .cons h r => .cons h (Reps.snoc r1 r)
theorem ds_push (i : Nat) {x : Str} {p1 p2 cp : Pos} (he : DE G X W O e me) (hO : OE O := by first | trivial | rfl) (hi : X.N[i]? = some x := by rfl) (hm : i ∈ O.own := by decide) (hxi : O.exi ≠ some i := by decide) (hsf : O.slf ≠ some i := by decide) (hv : Vis X.env.scope x := by first | exact Or.inl rfl | exact Or.inr (Or.inl rfl) | exact Or.inr (Or.inr rfl))
    (hd : (x == ("__debug__" : Str)) = false := by decide) (hcd : (x == ("__classdict__" : Str)) = false := by decide)
    (hbase : attributeBase (.Name x p1) "append" X.env (eval (.Name x p1) X.env) = eval (.Name x p1) X.env := by rfl)
    (hfew : ((backTo cp (starEach [e] X.env)).all (fun x => !x.1) && (backToKw cp (keywordEach [] X.env)).all (fun x => x.1.isSome)
      && decide ([e].length + ([] : List Keyword).length + (if ([] : List Keyword).isEmpty then 0 else 1) < 30)) = true := by rfl) (hline : (p2.endLine == cp.line) = true := by rfl)
    (hst : starEach [e] X.env = (false, eval e X.env) :: starEach [] X.env := by rfl) (hpl : (backTo cp (starEach [] X.env)).any (·.1) = false := by rfl)
    (hs : swapsWith (.Call (.Attribute (.Name x p1) "append" p2) [e] [] cp) none pos.line X.env = pure false := by rfl) : DS G X W Ob OE O (.Expr (.Call (.Attribute (.Name x p1) "append" p2) [e] [] cp) pos) O (mPush i me) := by
  obtain ⟨t, p, w⟩ := he.ex
  refine ⟨_, ps_expr (pe_bm PySem.F.plainAttrs_list PySem.F.slot_list_append PySem.F.type_list_append mt_append (pe_var hi hv hd hcd) (pa_cons p pa_nil hst) hbase hfew hline hst hpl) hs, fun b S env st σ H D I h => ?_⟩
  unfold mPush at h
  cases e1 : env[i]? with
  | none => rw [e1] at h; exact h.elim
  | some o => cases o with
    | none => rw [e1] at h; exact h.elim
    | some d0 =>
      obtain ⟨a, ws, es, p1, p2, p3, p4, p5, p6, p7⟩ := I.own i d0 hm e1
      subst p1
      rw [e1] at h
      refine ⟨_, p2, Or.inl ⟨rfl, _, Or.inl (Or.inl p3)⟩, w b S env st σ H _ I ?_⟩
      cases e2 : me env st with
      | ok d st1 =>
        rw [e2] at h
        intro v S' H' x' su so r
        have I' := I.ext x' su so
        obtain ⟨a', ws', es', q1, q2, q3, q4, q5, q6, q7⟩ := I'.own i _ hm e1
        cases q1
        have ea : a' = a := by
          have := q2.symm.trans p2
          simpa using this
        subst ea
        show ∃ l xs y, _
        dsimp only at h
        split at h
        · rename_i hz
          refine ⟨a', ws', v, rfl, rfl, q3, by rw [q7.len]; exact hz, ?_⟩
          exact h S' σ _ x'.same (I'.own_upd hm hxi hsf e1 p2 (Reps.snoc r q7))
        · exact h.elim
      | err y st1 =>
        rw [e2] at h
        intro cls dd S' H' x' su so r
        exact h cls dd O S' σ H' hO x'.same (I.ext x' su so) r
      | bad => rw [e2] at h; exact h.elim
end
section
variable {G : Glb} {X : Cx} {W : WX} {O : Ow} {pos : Pos} {e : Expr} {me : ME}
/-- x[e], x a slot that owns its list -/
theorem de_getO (i : Nat) {x : Str} {p1 : Pos} {b : Expr} {mb : ME} (hb : DE G X W O b mb) (hm : i ∈ O.own := by decide) (hi : X.N[i]? = some x := by rfl) (hv : Vis X.env.scope x := by first | exact Or.inl rfl | exact Or.inr (Or.inl rfl) | exact Or.inr (Or.inr rfl))
    (hd : (x == ("__debug__" : Str)) = false := by decide) (hcd : (x == ("__classdict__" : Str)) = false := by decide) (hs : PlainIx b := by intro _ _; rfl) : DE G X W O (.Subscript (.Name x p1) b pos) (mIx (mVar i) mb) := by
  obtain ⟨tb, pb, w⟩ := hb.ex
  refine ⟨_, pe_ix ix_seq (pe_var hi hv hd hcd) pb hs, fun c S env st σ H Q I h => ?_⟩
  unfold mIx mVar at h
  cases e1 : env[i]? with
  | none => rw [e1] at h; exact h.elim
  | some o => cases o with
    | none => rw [e1] at h; exact h.elim
    | some d0 =>
      obtain ⟨a, ws, es, p1, p2, p3, p4, p5, p6, p7⟩ := I.own i d0 hm e1
      subst p1
      rw [e1] at h
      refine ⟨_, p2, w c S env st σ H _ I ?_⟩
      have h : wpR ((mb env st).bind fun y => ixS (.lst es) y) _ _ := h
      refine wpR_imp (wpR_bind h) (fun dy st1 h1 => ?_) fun _ _ z => z
      intro y S' H' x' su so r
      have I' := I.ext x' su so
      obtain ⟨a', ws', es', q1, q2, q3, q4, q5, q6, q7⟩ := I'.own i _ hm e1
      cases q1
      have ea : a' = a := by
        have := q2.symm.trans p2
        simpa using this
      subst ea
      rw [ixS_other (fun n z => by cases z)] at h1
      obtain ⟨d, e2, q⟩ := wp_ret h1
      have e3 : ∃ k, dy = .int k := by
        cases dy <;> first | exact ⟨_, rfl⟩ | cases e2
      obtain ⟨k, rfl⟩ := e3
      have e2 : atI es k = some d := e2
      cases r with
      | int k =>
        obtain ⟨v, e4, r2⟩ := atI_rep q7 e2
        exact .inl ⟨_, _, _, _, rfl, rfl, SqL.of q3, e4, Post.here su so r2 (Post.from_ x' so q)⟩
/-- len(x), x a slot that owns its list -/
theorem de_lenO (i : Nat) {x : Str} {p0 p1 : Pos} (hg : Gl X "len" := by rfl) (hmg : X.mg "len" = none) (hm : i ∈ O.own := by decide) (hi : X.N[i]? = some x := by rfl) (hv : Vis X.env.scope x := by first | exact Or.inl rfl | exact Or.inr (Or.inl rfl) | exact Or.inr (Or.inr rfl))
    (hd : (x == ("__debug__" : Str)) = false := by decide) (hcd : (x == ("__classdict__" : Str)) = false := by decide)
    (he : starEach [.Name x p1] X.env = (false, eval (.Name x p1) X.env) :: starEach [] X.env := by rfl) (hpl : (backTo pos (starEach [] X.env)).any (·.1) = false := by rfl) : DE G X W O (.Call (.Name "len" p0) [.Name x p1] [] pos) (mCall1 (c1 dLen) (mCons (mVar i) mNil)) := by
  refine ⟨_, pe_callB call_len hg hmg PySem.boot_len (pa_cons (pe_var hi hv hd hcd) pa_nil he) (by decide) (by decide) he hpl, fun c S env st σ H Q I h => ?_⟩
  unfold mCall1 mCons mVar at h
  cases e1 : env[i]? with
  | none => rw [e1] at h; exact h.elim
  | some o => cases o with
    | none => rw [e1] at h; exact h.elim
    | some d0 =>
      obtain ⟨a, ws, es, p1, p2, p3, p4, p5, p6, p7⟩ := I.own i d0 hm e1
      subst p1
      rw [e1] at h
      refine ⟨_, p2, _, ws.length, rfl, .inl ⟨_, SqL.of p3, rfl⟩, ?_⟩
      rw [p7.len]
      exact Post.here I.sub I.sto (.int _) h
end
/-! ### try with one handler, no name -/
def noErS : Out → Out
  | .er _ _ _ => .bad
  | o => o
def mTry1 (cl : Nat → Option Bool) (m ms : MS) : MS := fun env st => match m env st with
  | .er x env1 st1 => match cl x.c with
    | some true => noErS (ms env1 st1)
    | some false => .er x env1 st1
    | none => .bad
  | o => o
section
variable {G : Glb} {X : Cx} {W : WX} {OE : Ow → Prop} {pos pos' np : Pos} {k : Nat}
theorem ds_try1 {own ob : List Nat} {body suite : List Stmt} {b₀ : Stmt} {x : Str} {cv : Value} {m ms : MS} (cl : Nat → Option Bool) (xc : XC k G X W) (xt : XT X) (hc : Names X x cv) (hcl : ∀ c b, cl c = some b → PySem.W.exmOne G.K (.ref (G.cl c)) cv = some b)
    (hb : ∀ (W' : WX) (pn : List (Addr × Obj)) (xe : Value → Shared → Prop), XC k G (X.tr pn xe) W' → XT (X.tr pn xe) → DSs G (X.tr pn xe) W' ⟨ob, none, (0, .none, none), none, (0, 0)⟩ (· = ⟨own, none, (0, .none, none), none, (0, 0)⟩) ⟨own, none, (0, .none, none), none, (0, 0)⟩ body ⟨own, none, (0, .none, none), none, (0, 0)⟩ m)
    (hsu : ∀ (a : Addr) (oe : Obj) (cls : Value) (d : Option Addr) (pn : List (Addr × Obj)), Zc cls d oe → (∃ vs, oe.data = .fields vs) → DSs G (X.suite a ((a, oe) :: pn)) W0 ⟨ob, none, (0, .none, none), none, (0, 0)⟩ (fun _ => True) ⟨own, none, (0, .none, none), none, (0, 0)⟩ (b₀ :: suite) ⟨own, none, (0, .none, none), none, (0, 0)⟩ ms)
    (hO : OE ⟨own, none, (0, .none, none), none, (0, 0)⟩ := by first | trivial | rfl) :
    DS G X W ⟨ob, none, (0, .none, none), none, (0, 0)⟩ OE ⟨own, none, (0, .none, none), none, (0, 0)⟩ (.Try body [.ExceptHandler (some (.Name x np)) none (b₀ :: suite) pos'] [] [] pos) ⟨own, none, (0, .none, none), none, (0, 0)⟩ (mTry1 cl m ms) := by
  refine ⟨_, ps_try_many (Wout := W)
    (tb := fun W' D σ H => ∃ b S env st, DI G b ⟨own, none, (0, .none, none), none, (0, 0)⟩ S env st σ H ∧ PostS G b ⟨ob, none, (0, .none, none), none, (0, 0)⟩ (· = ⟨own, none, (0, .none, none), none, (0, 0)⟩) W' ⟨own, none, (0, .none, none), none, (0, 0)⟩ D S (m env st))
    (l := [(cv, fun _ _ _ D σ H => ∃ b S env st, DI G b ⟨own, none, (0, .none, none), none, (0, 0)⟩ S env st σ H ∧ PostS G b ⟨ob, none, (0, .none, none), none, (0, 0)⟩ (fun _ => True) W0 ⟨own, none, (0, .none, none), none, (0, 0)⟩ D S (ms env st))])
    xt.stk xt.fr xc.tk (fun W' pn xe tk po => ?_) (.cons hc (fun a oe cls d pn hz hf => ?_) .nil), fun b S env st σ H D I h => ?_⟩
  · obtain ⟨t, p, w⟩ := (hb W' pn xe (xc.tr tk po) (xt.tr pn xe)).ex
    exact PSs.imp p fun D σ H ⟨b, S, env, st, I, q⟩ => w b S env st σ H D I q
  · obtain ⟨t, p, w⟩ := (hsu a oe cls d pn hz hf).ex
    exact PSs.imp p fun D σ H ⟨b, S, env, st, I, q⟩ => w b S env st σ H D I q
  · refine ⟨b, S, env, st, I, ?_⟩
    unfold mTry1 at h
    cases e : m env st with
    | nx env1 st1 => rw [e] at h; exact h
    | rt d st1 => rw [e] at h; exact h
    | bk env1 st1 => rw [e] at h; exact h
    | ct env1 st1 => rw [e] at h; exact h
    | bad => rw [e] at h; exact h
    | er x env1 st1 =>
      rw [e] at h
      dsimp only at h
      intro cls dd O' S1 σ1 H1 hO' e1 I1 rx
      subst hO'
      cases ec : cl x.c with
      | none => rw [ec] at h; exact h.elim
      | some bb =>
        rw [ec] at h
        refine ⟨bb, by rw [xc.K, rx.1]; exact hcl _ _ ec, fun hbb a ha => ?_, fun hbb => ?_⟩
        · subst hbb
          dsimp only at h
          refine ⟨b, S1, _, st1, I1, ?_⟩
          cases es : ms env1 st1 with
          | nx env2 st2 =>
            rw [es] at h
            exact fun S2 σ2 H2 e2 I2 => h S2 _ H2 (e1.trans e2) I2
          | rt d st2 => rw [es] at h; exact h
          | bk env2 st2 =>
            rw [es] at h
            exact fun S2 σ2 H2 e2 I2 => h S2 _ H2 (e1.trans e2) I2
          | ct env2 st2 =>
            rw [es] at h
            exact fun S2 σ2 H2 e2 I2 => h S2 _ H2 (e1.trans e2) I2
          | er x2 env2 st2 => rw [es] at h; exact h.elim
          | bad => rw [es] at h; exact h.elim
        · subst hbb
          exact h cls dd _ S1 σ1 H1 hO e1 I1 rx
end
/-! ### slices -/
abbrev MO := Env' → List D → Res (Option Int)
structure DO (G : Glb) (X : Cx) (W : WX) (O : Ow) (e : Option Expr) (m : MO) : Prop where
  ex : ∃ t, PO X e t ∧ ∀ (b : Act) S env st σ H (Q : Option Int → Hp → Prop), DI G b O S env st σ H → wpR (m env st) (fun o st' => ∀ S' H', Ext b.ad S H S' H' → Same S' H' → StoOk G b.ad S' st' H' → Q o H') (fun x st' => PostX G b.ad S H x st' fun c dd H' => W c dd σ H') → t σ H Q
def mNo : MO := fun _ st => .ok none st
def int? (d : D) : M (Option Int) := fun st => match d with
  | .int i => .ok (some i) st
  | _ => .bad
def mPart (m : ME) : MO := fun env st => (m env st).bind int?
def cutD (xs : List D) (lo hi : Option Int) : List D := (xs.drop (HT.sIx xs.length 0 lo)).take (HT.sIx xs.length xs.length hi - HT.sIx xs.length 0 lo)
def dSl (x : D) (lo hi : Option Int) : Option D := match x with
  | .lst xs => some (.lst (cutD xs lo hi))
  | .rol xs => some (.lst (cutD xs lo hi))
  | .tup xs => some (.tup (cutD xs lo hi))
  | _ => none
def mSl (m : ME) (l h : MO) : ME := fun env st => (m env st).bind fun x st1 => (l env st1).bind fun lo st2 => (h env st2).bind fun hi => ret? (dSl x lo hi)
theorem reps_cut {G : Glb} {ad : List Addr} {S : Hp} {vs : List V} {ds : List D} (r : Reps G ad S vs ds) (lo hi : Option Int) : Reps G ad S (cutV vs lo hi) (cutD ds lo hi) := by
  unfold cutV cutD
  rw [r.len]
  exact (r.drop _).take _
theorem cut_whole {xs : List D} {lo hi : Option Int} (h : HT.sIx xs.length 0 lo = 0 ∧ HT.sIx xs.length xs.length hi = xs.length) : cutD xs lo hi = xs := by
  unfold cutD
  rw [h.1, h.2]
  simp
section
variable {G : Glb} {X : Cx} {W : WX} {O : Ow} {pos : Pos} {e : Expr} {me : ME}
theorem do_none : DO G X W O none mNo := ⟨_, po_none, fun b S env st σ H Q I h => h S H (.refl _ _ _) I.sub I.sto⟩
theorem do_some (he : DE G X W O e me) : DO G X W O (some e) (mPart me) := by
  obtain ⟨t, p, w⟩ := he.ex
  refine ⟨_, po_some p, fun b S env st σ H Q I h => w b S env st σ H _ I (wpR_imp (wpR_bind h) (fun d st1 h1 => ?_) fun _ _ z => z)⟩
  intro v S' H' x su so r
  cases r <;> first | exact h1.elim | exact ⟨_, rfl, h1 S' H' x su so⟩
theorem de_slice {lo hi : Option Expr} {ml mh : MO} {p2 : Pos} (hK : X.K = G.K) (he : DE G X W O e me) (hl : DO G X W O lo ml) (hh : DO G X W O hi mh) : DE G X W O (.Subscript e (.Slice lo hi none p2) pos) (mSl me ml mh) := by
  obtain ⟨t, p, w⟩ := he.ex
  obtain ⟨tl, pl, wl⟩ := hl.ex
  obtain ⟨th, ph, wh⟩ := hh.ex
  refine ⟨_, pe_slice (SlR.or sl_list sl_tupA) p pl ph, fun b S env st σ H Q I h => w b S env st σ H _ I (wpR_imp (wpR_bind h) (fun d st1 h1 => ?_) fun _ _ z => z)⟩
  intro v S1 H1 x1 su1 so1 r1
  have I1 := I.ext x1 su1 so1
  refine wl b S1 env st1 σ H1 _ I1 (wpR_imp (wpR_bind h1) (fun l st2 h2 => ?_) fun _ _ z => z.from_ x1 so1)
  intro S2 H2 x2 su2 so2
  have x12 := x1.trans so1 x2
  have I2 := I1.ext x2 su2 so2
  refine wh b S2 env st2 σ H2 _ I2 (wpR_imp (wpR_bind h2) (fun u st3 h3 => ?_) fun _ _ z => z.from_ x12 so2)
  intro S3 H3 x3 su3 so3
  have x13 := x12.trans so2 x3
  have r3 := (r1.mono x2.same).mono x3.same
  obtain ⟨d', e1, q⟩ := wp_ret h3
  have q' := Post.from_ x13 so3 q
  cases r3 with
  | lst h4 r4 =>
    cases e1
    exact .inl ⟨_, _, rfl, SqL.of (su3 _ _ h4), fun p hp => Post.lst su3 so3 hp (reps_cut r4 _ _) q'⟩
  | rol h4 r4 =>
    cases e1
    exact .inl ⟨_, _, rfl, hK ▸ su3.seq h4, fun p hp => Post.lst su3 so3 hp (reps_cut r4 _ _) q'⟩
  | tup h4 r4 =>
    cases e1
    refine .inr ⟨_, _, rfl, hK ▸ Same.sqT su3 h4.sqT, fun hw => ?_, fun _ p hp => Post.tup su3 so3 hp (reps_cut r4 _ _) q'⟩
    rw [r4.len] at hw
    rw [cut_whole hw] at q'
    exact Post.here su3 so3 (.tup h4 r4) q'
  | _ => cases e1
end
end DL

/-! DL, twelfth part: own classes: fields, making, methods. -/
namespace DL
open PySem PySem.Spec PyProof.Rows L2
/-- the classes' fields -/
def FldT (G : Glb) (okF : Nat → Str → Bool) : Prop := ∀ c f, okF c f = true → Cls G.K (G.cl c) ∧ NoAttr G.K (G.cl c) f
def putD (f : Str) (d : D) : List (Str × D) → List (Str × D)
  | [] => [(f, d)]
  | (g, x) :: r => if g = f then (g, d) :: r else (g, x) :: putD f d r
theorem RepF.put {G : Glb} {ad : List Addr} {S : Hp} {f : Str} {v : V} {d : D} (h : Rep G ad S v d) : ∀ {vs : List (Str × V)} {fs : List (Str × D)}, RepF G ad S vs fs → RepF G ad S (putF f v vs) (putD f d fs)
  | _, _, .nil => .cons h .nil
  | _, _, .cons (f := g) h1 r => by
    unfold putF putD
    by_cases e : g = f
    · rw [if_pos e, if_pos e]; exact .cons h r
    · rw [if_neg e, if_neg e]; exact .cons h1 (RepF.put h r)
theorem RepF.len {G : Glb} {ad : List Addr} {S : Hp} : ∀ {vs : List (Str × V)} {fs : List (Str × D)}, RepF G ad S vs fs → vs.length = fs.length
  | _, _, .nil => rfl
  | _, _, .cons _ r => congrArg (· + 1) r.len
def selfO (x dx : Addr) : Ow := { slf := some 0, slv := (x, dx) }
def dFld (okF : Nat → Str → Bool) (f : Str) (d : D) : Option D := match d with
  | .obj c fs => if okF c f = true then fs.lookup f else none
  | _ => none
def mFld (okF : Nat → Str → Bool) (f : Str) (me : ME) : ME := fun env st => (me env st).bind fun d => ret? (dFld okF f d)
def mFldS (okF : Nat → Str → Bool) (f : Str) (me : ME) : MS := mDo me fun d env st => match env[0]? with
  | some (some (D.obj c fs)) => if okF c f = true ∧ fs.length < 1000 then .nx (env.set 0 (some (.obj c (putD f d fs)))) st else .bad
  | _ => .bad
/-- __init__ from its body -/
def initM (c n : Nat) (m : MS) : List D → M D := fun ds st => match m (some (.obj c []) :: (ds.map some ++ List.replicate (n - 1 - ds.length) none)) st with
  | .nx env st1 => match env[0]? with
    | some (some d) => .ok d st1
    | _ => .bad
  | .er x _ st1 => .err x st1
  | _ => .bad
def spI (G : Glb) (c n : Nat) (m : List D → M D) : Sp := fun vs H Q E => ∃ (b : Act) (ds : List D) (st : List D) (x dx : Addr) (ws : List V), vs = .ref x :: ws ∧ H = upd (upd b.H dx (.own x)) x (.ins (G.cl c) dx []) ∧ b.H x = none ∧ b.H dx = none ∧ dx ≠ x ∧
  ws.length = n ∧ Same b.S b.H ∧ StoOk G b.ad b.S st b.H ∧ Reps G b.ad b.S ws ds ∧
  wpR (m ds st) (fun d st' => ∀ S' H', Ext b.ad b.S b.H S' H' → Same S' H' → StoOk G b.ad S' st' H' → Rep G b.ad S' (.ref x) d → Q .non H') (fun e st' => PostX G b.ad b.S b.H e st' E)
section
variable {G : Glb} {b : Act} {O : Ow} {S H : Hp} {env : Env'} {st : List D} {σ : L2.St}
/-- an object begins -/
theorem DI.born {c : Nat} {x dx : Addr} (I : DI G b {} S env st σ H) (hx : H x = none) (hd : H dx = none) (hne : dx ≠ x) (hl : 0 < env.length) :
    DI G b (selfO x dx) S (env.set 0 (some (.obj c []))) st (σ.set 0 (some (.ref x))) (upd (upd H dx (.own x)) x (.ins (G.cl c) dx [])) := by
  have up : ∀ a o, H a = some o → upd (upd H dx (.own x)) x (.ins (G.cl c) dx []) a = some o := fun a o h => by
    rw [upd_ne (fun z => by rw [z, hx] at h; cases h), upd_ne (fun z => by rw [z, hd] at h; cases h)]; exact h
  have fr : ∀ a, H a = none → S a = none ∧ b.H a = none ∧ a ∉ b.ad := fun a ha => by
    have na : a ∉ b.ad := fun z => by
      obtain ⟨_, vs', hv⟩ := I.sto.has z
      rw [ha] at hv; cases hv
    refine ⟨?_, ?_, na⟩
    · cases e : S a with
      | none => rfl
      | some o => have := I.sub a o e; rw [ha] at this; cases this
    · cases e : b.H a with
      | none => rfl
      | some o => have := I.keep a o e na; rw [ha] at this; cases this
  obtain ⟨x1, x2, x3⟩ := fr x hx
  obtain ⟨y1, y2, y3⟩ := fr dx hd
  refine ⟨by rw [List.length_set, List.length_set]; exact I.len, fun a o h => up a o (I.sub a o h), I.s0, I.new, fun a o h ha => up a o (I.keep a o h ha), fun j d' h ho => ?_, fun j d' hj => (by cases hj), fun j k a hj => (by cases hj), I.sto.grow fun a o _ h => up a o h, fun j d' hj => (by cases hj), fun j hj => ?_⟩
  · have hj : j ≠ 0 := fun z => by subst z; cases ho
    rw [List.getElem?_set_ne (Ne.symm hj)] at h
    obtain ⟨w, q1, q2⟩ := I.slot j d' h rfl
    exact ⟨w, by rw [List.getElem?_set_ne (Ne.symm hj)]; exact q1, q2⟩
  · have e : 0 = j := Option.some.inj hj
    subst e
    refine ⟨c, [], [], List.getElem?_set_self hl, List.getElem?_set_self (by rw [I.len]; exact hl), upd_same, ?_, x1, y1, x2, y2, x3, y3, .nil⟩
    exact (upd_ne hne).trans upd_same
/-- a field of the object that is being made -/
theorem DI.fld {x dx : Addr} {v : V} {d : D} {f : Str} {c : Nat} {fs : List (Str × D)} {vs : List (Str × V)} (I : DI G b (selfO x dx) S env st σ H) (he : env[0]? = some (some (.obj c fs))) (hh : H x = some (.ins (G.cl c) dx vs)) (rf : RepF G b.ad S vs fs) (r : Rep G b.ad S v d) :
    DI G b (selfO x dx) S (env.set 0 (some (.obj c (putD f d fs)))) st σ (upd H x (.ins (G.cl c) dx (putF f v vs))) := by
  obtain ⟨c', vs', fs', q1, q2, q3, q4, q5, q6, q7, q8, q9, q10, q11⟩ := I.self_ 0 rfl
  have hl : 0 < env.length := (List.getElem?_eq_some_iff.mp he).1
  have up : ∀ a o, a ≠ x → H a = some o → upd H x (.ins (G.cl c) dx (putF f v vs)) a = some o := fun a o ha h => by rw [upd_ne ha]; exact h
  have q5 : S x = none := q5
  have q7 : b.H x = none := q7
  have q9 : x ∉ b.ad := q9
  have q4 : H dx = some (.own x) := q4
  refine ⟨by rw [List.length_set]; exact I.len, fun a o h => up a o (fun z => by rw [z, q5] at h; cases h) (I.sub a o h), I.s0, I.new, fun a o h ha => up a o (fun z => by rw [z, q7] at h; cases h) (I.keep a o h ha), fun j d' h ho => ?_, fun j d' hj => (by cases hj), fun j k a hj => (by cases hj), I.sto.grow fun a o ha h => up a o (fun z => q9 (z ▸ ha)) h, fun j d' hj => (by cases hj), fun j hj => ?_⟩
  · have hj : j ≠ 0 := fun z => by subst z; cases ho
    rw [List.getElem?_set_ne (Ne.symm hj)] at h
    exact I.slot j d' h ho
  · have e : 0 = j := Option.some.inj hj
    subst e
    refine ⟨c, _, _, List.getElem?_set_self hl, q2, upd_same, up _ _ (fun z => ?_) q4, q5, q6, q7, q8, q9, q10, rf.put r⟩
    rw [show (selfO x dx).slv.2 = dx from rfl] at z
    rw [z, hh] at q4; cases q4
end
section
variable {G : Glb} {X : Cx} {W : WX} {Ob : Ow} {OE : Ow → Prop} {O : Ow} {pos pos' : Pos} {e : Expr} {me : ME} {okF : Nat → Str → Bool}
/-- e.f -/
theorem de_fld {f : Str} (hK : X.K = G.K) (T : FldT G okF) (he : DE G X W O e me) (hb : attributeBase e f X.env (eval e X.env) = eval e X.env := by rfl) : DE G X W O (.Attribute e f pos) (mFld okF f me) := by
  obtain ⟨t, p, w⟩ := he.ex
  refine ⟨_, pe_fld p hb, fun b S env st σ H Q I h => w b S env st σ H _ I (wpR_imp (wpR_bind h) (fun d st1 h1 => ?_) fun _ _ z => z)⟩
  intro v S1 H1 x1 su1 so1 r1
  obtain ⟨d', e1, q⟩ := wp_ret h1
  cases r1 with
  | obj h2 r2 =>
    rename_i a dx c vs fs
    have e1 : (if okF c f = true then fs.lookup f else none) = some d' := e1
    split at e1
    · rename_i ok
      obtain ⟨g1, g2⟩ := T c f ok
      obtain ⟨v, l, r3⟩ := r2.look e1
      exact ⟨_, _, _, _, _, rfl, su1 _ _ h2, hK ▸ g1, hK ▸ g2, l, Post.here su1 so1 r3 (Post.from_ x1 so1 q)⟩
    · cases e1
  | _ => cases e1
/-- self.f, in __init__ -/
theorem de_fldS {f : Str} {x dx : Addr} {y : Str} {p1 : Pos} (hK : X.K = G.K) (T : FldT G okF) (hi : X.N[0]? = some y := by rfl) (hv : Vis X.env.scope y := by first | exact Or.inl rfl | exact Or.inr (Or.inl rfl) | exact Or.inr (Or.inr rfl))
    (hd : (y == ("__debug__" : Str)) = false := by decide) (hcd : (y == ("__classdict__" : Str)) = false := by decide) (hb : attributeBase (.Name y p1) f X.env (eval (.Name y p1) X.env) = eval (.Name y p1) X.env := by rfl) :
    DE G X W (selfO x dx) (.Attribute (.Name y p1) f pos) (mFld okF f (mVar 0)) := by
  refine ⟨_, pe_fld (pe_var hi hv hd hcd) hb, fun b S env st σ H Q I h => ?_⟩
  obtain ⟨c, vs, fs, q1, q2, q3, q4, q5, q6, q7, q8, q9, q10, q11⟩ := I.self_ 0 rfl
  unfold mFld mVar at h
  rw [q1] at h
  have h : wpR (ret? (dFld okF f (.obj c fs)) st) _ _ := h
  obtain ⟨d', e1, q⟩ := wp_ret h
  have e1 : (if okF c f = true then fs.lookup f else none) = some d' := e1
  split at e1
  · rename_i ok
    obtain ⟨g1, g2⟩ := T c f ok
    obtain ⟨v, l, r3⟩ := q11.look e1
    exact ⟨_, q2, _, _, _, _, _, rfl, q3, hK ▸ g1, hK ▸ g2, l, Post.here I.sub I.sto r3 q⟩
  · cases e1
/-- self.f = e, in __init__ -/
theorem ds_fldS {f : Str} {x dx : Addr} {y : Str} {p1 : Pos} (hK : X.K = G.K) (T : FldT G okF) (he : DE G X W (selfO x dx) e me) (hO : OE (selfO x dx) := by first | trivial | rfl) (hi : X.N[0]? = some y := by rfl) (hv : Vis X.env.scope y := by first | exact Or.inl rfl | exact Or.inr (Or.inl rfl) | exact Or.inr (Or.inr rfl))
    (hd : (y == ("__debug__" : Str)) = false := by decide) (hcd : (y == ("__classdict__" : Str)) = false := by decide) (hs : swapsWith e (some (.Attribute (.Name y p1) f pos')) pos.line X.env = pure false := by rfl) :
    DS G X W Ob OE (selfO x dx) (.Assign [.Attribute (.Name y p1) f pos'] e pos) (selfO x dx) (mFldS okF f me) := by
  obtain ⟨t, p, w⟩ := he.ex
  refine ⟨_, ps_fld (pe_var hi hv hd hcd) p hs, fun b S env st σ H D I h => do_part hO w I h fun v d S' H' st' I' r q => ?_⟩
  obtain ⟨c, vs, fs, q1, q2, q3, q4, q5, q6, q7, q8, q9, q10, q11⟩ := I'.self_ 0 rfl
  rw [q1] at q
  dsimp only at q
  split at q
  · rename_i ok
    obtain ⟨g1, g2⟩ := T c f ok.1
    exact ⟨_, q2, _, _, _, _, rfl, q3, hK ▸ g1, hK ▸ g2, by rw [q11.len]; exact ok.2, q S' σ _ (.refl _) (I'.fld q1 q3 q11 r)⟩
  · exact q.elim
end
section
variable {P : Program} {w : World} {K : PySem.W.Frag} {mg : Str → Option Value} {base : Heap}
/-- __init__ -/
theorem fnI {G : Glb} {x0 qual : Str} {st : Stmt} {f : Addr} {fd : FuncData} {N ps : List Str} {c k n : Nat} {m : MS} (F : Fun K x0 qual st f fd) (S : FnScope N ps (defScope st)) (hK : K = G.K) (hps : ps.length = n + 1) (hN : ps.length ≤ N.length)
    (hbody : ∀ (x dx : Addr) (cdv : Value) (A : Around) (outer : List Env) (s : Shared) (H : Hp) (E : XK), XC k G (cxOf (L2.CX P w) P w K mg base N qual (defScope st) f cdv A outer s H E) (fun cls d _ H' => E cls d H') → XT (cxOf (L2.CX P w) P w K mg base N qual (defScope st) f cdv A outer s H E) →
      DSs G (cxOf (L2.CX P w) P w K mg base N qual (defScope st) f cdv A outer s H E) (fun cls d _ H' => E cls d H') (selfO x dx) (fun _ => True) (selfO x dx) (defBody st) (selfO x dx) m) :
    FnOk P w K mg base (L2.CX P w) (k + 1) f fd ps (spI G c n (initM c N.length m)) := by
  refine F.okX S (fun vs H Q E h => ?_) fun cdv A outer s H vs Q E hr h => ?_
  · obtain ⟨b, ds, st0, x, dx, ws, rfl, _, _, _, _, hl, _⟩ := h
    rw [List.length_cons, hl, hps]
  · obtain ⟨b, ds, st0, x, dx, ws, rfl, rfl, hx, hd, hne, hl, hs, so, r, h⟩ := h
    have xc : XC k G (cxOf (L2.CX P w) P w K mg base N qual (defScope st) f cdv A outer s (upd (upd b.H dx (.own x)) x (.ins (G.cl c) dx [])) E) (fun cls d _ H' => E cls d H') :=
      { tk := takes_of rfl rfl rfl rfl, po := passes_of rfl, calm := rfl, hr := hr, K := hK }
    obtain ⟨t, p, wt⟩ := (hbody x dx cdv A outer s _ E xc ⟨rfl, rfl⟩).ex
    refine ⟨t, p, ?_⟩
    have I0 := DI.start (n := N.length - 1 - ws.length) hs so (.cons (.non) r)
    have I1 := I0.born (c := c) hx hd hne (by simp)
    have e1 : N.length - 1 - ws.length = N.length - 1 - ds.length := by rw [r.len]
    have e2 : start N (V.ref x :: ws) = ((V.non :: ws).map some ++ List.replicate (N.length - 1 - ws.length) none).set 0 (some (.ref x)) := by
      show (V.ref x :: ws).map some ++ List.replicate (N.length - (V.ref x :: ws).length) none = _
      rw [List.length_cons, show N.length - (ws.length + 1) = N.length - 1 - ws.length by omega]
      rfl
    rw [e2]
    refine wt b b.S _ st0 _ _ _ I1 ?_
    have e3 : ((D.non :: ds).map some ++ List.replicate (N.length - 1 - ws.length) none).set 0 (some (.obj c [])) = some (.obj c []) :: (ds.map some ++ List.replicate (N.length - 1 - ds.length) none) := by
      rw [e1]; rfl
    rw [e3]
    unfold initM at h
    cases e : m (some (.obj c []) :: (ds.map some ++ List.replicate (N.length - 1 - ds.length) none)) st0 with
    | nx env st1 =>
      rw [e] at h
      intro S1 σ1 H1 _ I2
      obtain ⟨c', vs', fs', q1, q2, q3, q4, q5, q6, q7, q8, q9, q10, q11⟩ := I2.self_ 0 rfl
      have q3 : H1 x = some (.ins (G.cl c') dx vs') := q3
      have q5 : S1 x = none := q5
      have q7 : b.H x = none := q7
      have q9 : x ∉ b.ad := q9
      dsimp only at h
      rw [q1] at h
      have sm : Same S1 (upd S1 x (.ins (G.cl c') dx vs')) := fun a o ha => by
        rw [upd_ne (fun z => by rw [z, q5] at ha; cases ha)]; exact ha
      have nw : ∀ a o, upd S1 x (.ins (G.cl c') dx vs') a = some o → (a = x ∧ o = .ins (G.cl c') dx vs') ∨ S1 a = some o := fun a o ha => by
        by_cases hc : a = x
        · subst hc; rw [upd_same] at ha; exact .inl ⟨rfl, (Option.some.inj ha).symm⟩
        · rw [upd_ne hc] at ha; exact .inr ha
      have h : ∀ S' H', Ext b.ad b.S b.H S' H' → Same S' H' → StoOk G b.ad S' st1 H' → Rep G b.ad S' (.ref x) (.obj c' fs') → Q .non H' := h
      refine h (upd S1 x (.ins (G.cl c') dx vs')) H1 ⟨I2.s0.trans sm, fun a o ha => ?_, I2.keep⟩ (fun a o ha => ?_) (I2.sto.known sm fun a ha => ?_) (.obj upd_same (q11.mono sm))
      · rcases nw a o ha with ⟨rfl, _⟩ | z
        · exact .inr q7
        · exact I2.new a o z
      · rcases nw a o ha with ⟨rfl, rfl⟩ | z
        · exact q3
        · exact I2.sub a o z
      · rw [upd_ne (show a ≠ x from fun z => q9 (z ▸ ha))]
        exact (I2.sto.has ha).1
    | rt d st1 => rw [e] at h; exact h.elim
    | bk env st1 => rw [e] at h; exact h.elim
    | ct env st1 => rw [e] at h; exact h.elim
    | er y env st1 =>
      rw [e] at h
      intro cls dd O' S1 σ1 H1 _ _ I2 rx
      exact h cls dd S1 H1 I2.fin I2.sub I2.sto rx
    | bad => rw [e] at h; exact h.elim
end
/-! ### making, methods -/
section
variable {X : Cx} {CX : CXT} {k : Nat} {f C : Addr} {fd : FuncData} {ps : List Str} {sp : Sp} {E : L2.St → XK} {x m : Str} {p pos apos : Pos} {e o : Expr} {es : List Expr} {ta : TE} {t : TA} {ds : List Value} {dvs : List V}
theorem make_run {pins : List (Addr × Obj)} {σ : L2.St} {H : Hp} {s : Shared} {Q : VK} {us : List Value} {vs : List V} (mk : Mk X.K C f) (fo : FnOk X.prog X.w X.K X.mg X.base CX k f fd ps sp) (rm : Room (k + 1) X.A) (bn : Binds X.K fd ps ds) (dv : Vals dvs ds) (pa : PassesAt CX X σ (E σ))
    (J : Inv X pins σ H s) (rv : Vals vs us) (h : ∀ a da, H a = none → H da = none → da ≠ a → sp (.ref a :: (vs ++ dvs)) (upd (upd H da (.own a)) a (.ins C da [])) (fun v H2 => v = .non ∧ Q (.ref a) H2) (E σ)) :
    wpAny (model X.prog X.w) X.A (call (.ref C) us) (EP X pins σ Q) X.xe s := by
  obtain ⟨n, hn⟩ : ∃ n, n = s.heap.objs.size := ⟨_, rfl⟩
  have goal1 := h (n + 1) n (J.hok.fresh (by rw [hn]; exact Nat.le_succ _)) (J.hok.fresh (by rw [hn]; exact Nat.le_refl _)) (Nat.ne_of_lt (Nat.lt_succ_self n))
  subst hn
  have J2 := Inv.made (C := C) J
  have all : Vals (V.ref (s.heap.objs.size + 1) :: (vs ++ dvs)) (Value.ref (s.heap.objs.size + 1) :: (us ++ ds)) := .cons rfl (rv.append dv)
  have count : (Value.ref (s.heap.objs.size + 1) :: us ++ ds).length = ps.length := by
    rw [show Value.ref (s.heap.objs.size + 1) :: us ++ ds = Value.ref (s.heap.objs.size + 1) :: (us ++ ds) from rfl, ← all.length]
    exact fo.len _ _ _ _ goal1
  have run := fo.run _ X.stack _ _ ⟨Value.ref (s.heap.objs.size + 1) :: us, []⟩ (Value.ref (s.heap.objs.size + 1) :: (us ++ ds)) _ _ (E σ) (rm.make C us []) (J2.env0.make C us []) (bn _ (Value.ref (s.heap.objs.size + 1) :: us) J2.kIn count) all goal1
  refine wpAny_call (make_map (f := f) J.kIn mk.makes mk.init (beq_iff_eq.mp mk.fn) (codeAny_mono run fun r s' got => ?_))
  cases r with
  | error y => exact pa pins _ _ y s' J2 got
  | ok fl =>
    cases fl with
    | ret u =>
      obtain ⟨v, H', J3, r1, z, q⟩ := J2.after got
      subst z
      exact ⟨r1, ⟨V.ref (s.heap.objs.size + 1), H', J3, rfl, q⟩⟩
    | next => exact got.elim
    | brk => exact got.elim
    | cont => exact got.elim
def tMakeE (C : Addr) (sp : Sp) (dvs : List V) (E : L2.St → XK) (t : TA) : TE := fun σ H Q => t σ H fun vs H1 => ∀ a da, H1 a = none → H1 da = none → da ≠ a → sp (.ref a :: (vs ++ dvs)) (upd (upd H1 da (.own a)) a (.ins C da [])) (fun v H2 => v = .non ∧ Q (.ref a) H2) (E σ)
theorem pe_makeE (mk : Mk X.K C f) (fo : FnOk X.prog X.w X.K X.mg X.base CX k f fd ps sp) (rm : Room (k + 1) X.A) (hg : Gl X x) (hm : X.mg x = some (.ref C)) (bn : Binds X.K fd ps ds) (dv : Vals dvs ds) (pa : ∀ σ, PassesAt CX X σ (E σ))
    (ar : PA X (e :: es) t) (hdb : (x == ("__debug__" : Str)) = false := by decide) (he : starEach (e :: es) X.env = (false, eval e X.env) :: starEach es X.env := by rfl) (hpl : (backTo pos (starEach es X.env)).any (·.1) = false := by rfl) :
    PE X (.Call (.Name x p) (e :: es) [] pos) (tMakeE C sp dvs E t) :=
  ⟨fun pins s σ H Q J h => wpAny_Call_Name_kw (ld_glob J hg hm (PySem.W.callWith_K (h₀ := X.base) J.ok.mod.kin mk.kp (thn (ar.run pos pins s σ H _ J h) fun us s1 ⟨vs, H1, J1, r, q⟩ => ⟨J1.kIn, make_run mk fo rm bn dv (pa σ) J1 r q⟩) he hpl) hdb)⟩
def tMethE (C : Addr) (m : Str) (sp : Sp) (dvs : List V) (E : L2.St → XK) (ta : TE) (t : TA) : TE := fun σ H Q => ta σ H fun x H1 => ∃ a dx fs, x = .ref a ∧ H1 a = some (.ins C dx fs) ∧ fs.lookup m = none ∧ t σ H1 fun vs H2 => sp (x :: (vs ++ dvs)) H2 Q (E σ)
theorem pe_methE {pl : Sem Bool} (ho : PE X o ta) (c : Cls X.K C) (mt : Meth X.K C m f) (fo : FnOk X.prog X.w X.K X.mg X.base CX k f fd ps sp) (rm : Room k X.A) (bn : Binds X.K fd ps ds) (dv : Vals dvs ds) (pa : ∀ σ, PassesAt CX X σ (E σ)) (ar : PA X (e :: es) t)
    (hst : starEach (e :: es) X.env = (false, eval e X.env) :: starEach es X.env := by rfl) (hpl : (backTo pos (starEach es X.env)).any (·.1) = false := by rfl)
    (hev : eval (.Call (.Attribute o m apos) (e :: es) [] pos) X.env = (do
      let obj ← eval o X.env
      standAt apos.atName
      let (g, fst) ← holding [obj] (getMethod obj m pl)
      callWith pos g fst (backTo pos (starEach (e :: es) X.env)) (backToKw pos (keywordEach [] X.env))) := by rfl) : PE X (.Call (.Attribute o m apos) (e :: es) [] pos) (tMethE C m sp dvs E ta t) := by
  constructor
  intro pins s σ H Q J h
  refine PySem.W.methodCall_KW (pl := pl) (thn (ho.run pins s σ H _ J h) fun u s1 got => ?_) hev
  obtain ⟨x, H1, J1, rx, a, dx, fs, rfl, ea, l, q⟩ := got
  cases rx
  refine getmeth_ok J1 ea c mt l (PySem.W.callWith_K (first := [.ref a]) (h₀ := X.base) J.ok.mod.kin mt.kp (thn (ar.run pos pins s1 σ H1 _ J1 q) fun us s2 got => ?_) hst hpl)
  obtain ⟨vs, H2, J2, r, q2⟩ := got
  exact ⟨J2.kIn, run_fnSD (us := .ref a :: us) (vs := .ref a :: vs) fo rm bn dv (pa σ) J2 (.cons rfl r) q2⟩
theorem pe_methE0 {pl : Sem Bool} (ho : PE X o ta) (c : Cls X.K C) (mt : Meth X.K C m f) (fo : FnOk X.prog X.w X.K X.mg X.base CX k f fd ps sp) (rm : Room k X.A) (bn : Binds X.K fd ps ds) (dv : Vals dvs ds) (pa : ∀ σ, PassesAt CX X σ (E σ))
    (hev : eval (.Call (.Attribute o m apos) [] [] pos) X.env = (do
      let obj ← eval o X.env
      standAt apos.atName
      let (g, fst) ← holding [obj] (getMethod obj m pl)
      callWith pos g fst (backTo pos (starEach [] X.env)) (backToKw pos (keywordEach [] X.env))) := by rfl) : PE X (.Call (.Attribute o m apos) [] [] pos) (tMethE C m sp dvs E ta tNil) := by
  constructor
  intro pins s σ H Q J h
  refine PySem.W.methodCall_KW (pl := pl) (thn (ho.run pins s σ H _ J h) fun u s1 got => ?_) hev
  obtain ⟨x, H1, J1, rx, a, dx, fs, rfl, ea, l, q⟩ := got
  cases rx
  exact getmeth_ok J1 ea c mt l (PySem.W.callWith_K0 (first := [.ref a]) J1.kIn mt.kp (run_fnSD (us := [.ref a]) (vs := [.ref a]) fo rm bn dv (pa σ) J1 (.cons rfl .nil) q))
end
def mCallD (f : List D → M D) (dds : List D) (ma : MA) : ME := fun env st => (ma env st).bind fun ds => f (ds ++ dds)
def mMeth (ci : Nat) (name : Str) (f : List D → M D) (mo : ME) (ma : MA) : ME := fun env st => (mo env st).bind fun d st1 => match d with
  | .obj c fs => if c = ci ∧ fs.lookup name = none then (ma env st1).bind fun ds => f (d :: ds) else .bad
  | _ => .bad
section
variable {G : Glb} {X : Cx} {W : WX} {O : Ow} {pos p apos : Pos} {x name : Str} {e o : Expr} {es : List Expr} {ma : MA} {mo : ME} {k j n n' : Nat} {f : Addr} {fd : FuncData} {ps : List Str} {m : List D → M D} {ci : Nat} {dl : List Value} {dvs : List V} {dds : List D}
theorem de_make (c : XC k G X W) (mk : Mk X.K (G.cl ci) f) (F : FnOk X.prog X.w X.K X.mg X.base (L2.CX X.prog X.w) j f fd ps (spI G ci n m)) (hm : X.mg x = some (.ref (G.cl ci))) (hb : Binds X.K fd ps dl) (hd : Vals dvs dl) (rd : ∀ ad S, Reps G ad S dvs dds) (ha : DA G X W O (e :: es) ma)
    (hjk : j + 1 ≤ k := by decide) (hln : Len ma n') (hn : n' + dds.length = n := by rfl) (hg : Gl X x := by rfl) (hdb : (x == ("__debug__" : Str)) = false := by decide) (he : starEach (e :: es) X.env = (false, eval e X.env) :: starEach es X.env := by rfl) (hpl : (backTo pos (starEach es X.env)).any (·.1) = false := by rfl) :
    DE G X W O (.Call (.Name x p) (e :: es) [] pos) (mCallD m dds ma) := by
  obtain ⟨t, pa, w⟩ := ha.ex
  refine ⟨_, pe_makeE mk F (c.hr.mono hjk) hg hm hb hd (fun σ => passAt c.tk σ) pa hdb he hpl, fun b S env st σ H Q I h => w b S env st σ H _ I ?_⟩
  have h' := wpR_bind h
  cases ea : ma env st with
  | ok ds st1 =>
    rw [ea] at h'
    intro vs S1 H1 x1 su1 so1 r1 a da h1 h2 h3
    have h' : wpR (m (ds ++ dds) st1) _ _ := h'
    refine ⟨⟨S1, H1, b.ad⟩, ds ++ dds, st1, a, da, vs ++ dvs, rfl, rfl, h1, h2, h3, ?_, su1, so1, r1.append (rd _ _), wpR_imp h' (fun d st2 z S' H' x2 su2 so2 r2 => ⟨rfl, ?_⟩) fun _ _ z => z.from_ x1 so1⟩
    · rw [List.length_append, r1.len, hln env st ds st1 ea, (rd b.ad S1).len]; exact hn
    · exact (Post.from_ x1 so1 z) (.ref a) S' H' x2 su2 so2 r2
  | err x st1 => rw [ea] at h'; exact h'
  | bad => rw [ea] at h'; exact h'.elim
theorem de_meth {pl : Sem Bool} (c : XC k G X W) (hc : Cls G.K (G.cl ci)) (mt : Meth G.K (G.cl ci) name f) (F : FnOk X.prog X.w X.K X.mg X.base (L2.CX X.prog X.w) j f fd ps (spD G n m)) (hb : Binds X.K fd ps []) (ho : DE G X W O o mo) (ha : DA G X W O (e :: es) ma)
    (hjk : j ≤ k := by decide) (hln : Len ma n') (hn : n' + 1 = n := by rfl) (hst : starEach (e :: es) X.env = (false, eval e X.env) :: starEach es X.env := by rfl) (hpl : (backTo pos (starEach es X.env)).any (·.1) = false := by rfl)
    (hev : eval (.Call (.Attribute o name apos) (e :: es) [] pos) X.env = (do
      let obj ← eval o X.env
      standAt apos.atName
      let (g, fst) ← holding [obj] (getMethod obj name pl)
      callWith pos g fst (backTo pos (starEach (e :: es) X.env)) (backToKw pos (keywordEach [] X.env))) := by rfl) : DE G X W O (.Call (.Attribute o name apos) (e :: es) [] pos) (mMeth ci name m mo ma) := by
  obtain ⟨to, po, wo⟩ := ho.ex
  obtain ⟨t, pa, w⟩ := ha.ex
  have hK := c.K
  refine ⟨_, pe_methE (pl := pl) po (hK ▸ hc) (hK ▸ mt) F (c.hr.mono hjk) hb (dvs := []) .nil (fun σ => passAt c.tk σ) pa hst hpl hev, fun b S env st σ H Q I h => wo b S env st σ H _ I (wpR_imp (wpR_bind h) (fun d st1 h1 => ?_) fun _ _ z => z)⟩
  intro v S1 H1 x1 su1 so1 r1
  have I1 := I.ext x1 su1 so1
  cases r1 with
  | obj h2 r2 =>
    rename_i a dx cc vs fs
    dsimp only at h1
    split at h1
    · rename_i ok
      obtain ⟨rfl, nf⟩ := ok
      refine ⟨a, dx, vs, rfl, su1 _ _ h2, r2.none nf, w b S1 env st1 σ H1 _ I1 ?_⟩
      have h' := wpR_bind h1
      cases ea : ma env st1 with
      | ok ds st2 =>
        rw [ea] at h'
        intro ws S2 H2 x2 su2 so2 r3
        have x12 := x1.trans so1 x2
        have h' : wpR (m (_ :: ds) st2) _ _ := h'
        rw [List.append_nil]
        exact ⟨⟨S2, H2, b.ad⟩, _ :: ds, st2, rfl, by rw [List.length_cons, r3.len, hln env st1 ds st2 ea]; exact hn, su2, so2, .cons (.obj (x2.same _ _ h2) (r2.mono x2.same)) r3, wpR_imp h' (fun _ _ z => z.from_ x12 so2) fun _ _ z => z.from_ x12 so2⟩
      | err y st2 => rw [ea] at h'; intro cls dd S2 H2 x2 su2 so2 rx; exact h' cls dd S2 H2 (x1.trans so1 x2) su2 so2 rx
      | bad => rw [ea] at h'; exact h'.elim
    · exact h1.elim
  | _ => exact h1.elim
theorem de_meth0 {pl : Sem Bool} (c : XC k G X W) (hc : Cls G.K (G.cl ci)) (mt : Meth G.K (G.cl ci) name f) (F : FnOk X.prog X.w X.K X.mg X.base (L2.CX X.prog X.w) j f fd ps (spD G 1 m)) (hb : Binds X.K fd ps []) (ho : DE G X W O o mo)
    (hjk : j ≤ k := by decide)
    (hev : eval (.Call (.Attribute o name apos) [] [] pos) X.env = (do
      let obj ← eval o X.env
      standAt apos.atName
      let (g, fst) ← holding [obj] (getMethod obj name pl)
      callWith pos g fst (backTo pos (starEach [] X.env)) (backToKw pos (keywordEach [] X.env))) := by rfl) : DE G X W O (.Call (.Attribute o name apos) [] [] pos) (mMeth ci name m mo mNil) := by
  obtain ⟨to, po, wo⟩ := ho.ex
  have hK := c.K
  refine ⟨_, pe_methE0 (pl := pl) po (hK ▸ hc) (hK ▸ mt) F (c.hr.mono hjk) hb (dvs := []) .nil (fun σ => passAt c.tk σ) hev, fun b S env st σ H Q I h => wo b S env st σ H _ I (wpR_imp (wpR_bind h) (fun d st1 h1 => ?_) fun _ _ z => z)⟩
  intro v S1 H1 x1 su1 so1 r1
  cases r1 with
  | obj h2 r2 =>
    rename_i a dx cc vs fs
    dsimp only at h1
    split at h1
    · rename_i ok
      obtain ⟨rfl, nf⟩ := ok
      have h' : wpR (m [D.obj _ fs] st1) _ _ := h1
      exact ⟨a, dx, vs, rfl, su1 _ _ h2, r2.none nf, ⟨S1, H1, b.ad⟩, [D.obj _ fs], st1, rfl, rfl, su1, so1, .cons (.obj h2 r2) .nil, wpR_imp h' (fun _ _ z => z.from_ x1 so1) fun _ _ z => z.from_ x1 so1⟩
    · exact h1.elim
  | _ => exact h1.elim
end
end DL

/-! DL, thirteenth part: errors with fields. -/
namespace DL
open PySem PySem.Spec PyProof.Rows L2
/-- an error's own __init__: its fields are its arguments -/
def spX (C : Addr) (fs : List Str) : Sp := fun vs H Q _ => ∃ (a : Addr) (ws : List V), vs = .ref a :: ws ∧ ws.length = fs.length ∧ H a = some (exo a C none) ∧
  ∀ dx H2, H dx = none → dx ≠ a → H2 a = some (exo a C (some dx)) → H2 dx = some (exd dx (fs.zip ws).reverse) → (∀ b, b ≠ a → b ≠ dx → H2 b = H b) → Q .non H2
section
variable {P : Program} {w : World} {K : PySem.W.Frag} {mg : Str → Option Value} {base : Heap}
theorem fnX1 {qual : Str} {st : Stmt} {f C : Addr} {fd : FuncData} {y p1 f1 : Str} {k : Nat} {q1 q2 q3 q4 q5 q6 : Pos} (F : Fun K "__init__" qual st f fd) (S : FnScope [y, p1] [y, p1] (defScope st)) (T : OexC K C) (n1 : PySem.W.findIn K (.ref C) f1 = some none)
    (hb : defBody st = [.Assign [.Attribute (.Name y q1) f1 q2] (.Name p1 q3) q4]) (hv0 : (defScope st).names.lookup y = some .local) (hv1 : (defScope st).names.lookup p1 = some .local)
    (d0 : (y == ("__debug__" : Str)) = false := by decide) (c0 : (y == ("__classdict__" : Str)) = false := by decide) (d1 : (p1 == ("__debug__" : Str)) = false := by decide) (c1 : (p1 == ("__classdict__" : Str)) = false := by decide) :
    FnOk P w K mg base (L2.CX P w) (k + 1) f fd [y, p1] (spX C [f1]) := by
  refine F.okX S (fun vs H Q E h => ?_) fun cdv A outer s H vs Q E hr h => ?_
  · obtain ⟨a, ws, rfl, hl, _⟩ := h
    rw [List.length_cons, hl]; rfl
  · obtain ⟨a, ws, rfl, hl, ha, hq⟩ := h
    obtain ⟨v1, rfl⟩ := List.length_eq_one_iff.mp hl
    rw [hb]
    refine ⟨_, pss_one (ps_ost (X := cxOf (L2.CX P w) P w K mg base [y, p1] qual (defScope st) f cdv A outer s H E) (pe_var (i := 0) rfl (.inl hv0) d0 c0) (pe_var (i := 1) rfl (.inl hv1) d1 c1)), ?_⟩
    refine ⟨_, rfl, _, rfl, a, C, rfl, T, n1, .inl ⟨ha, fun dx h1 h2 => ?_⟩⟩
    exact hq dx _ h1 h2 upd_same ((upd_ne h2).trans upd_same) fun b hb1 hb2 => (upd_ne hb1).trans (upd_ne hb2)
theorem fnX2 {qual : Str} {st : Stmt} {f C : Addr} {fd : FuncData} {y p1 f1 p2 f2 : Str} {k : Nat} {q1 q2 q3 q4 r1 r2 r3 r4 : Pos} (F : Fun K "__init__" qual st f fd) (S : FnScope [y, p1, p2] [y, p1, p2] (defScope st)) (T : OexC K C) (n1 : PySem.W.findIn K (.ref C) f1 = some none) (n2 : PySem.W.findIn K (.ref C) f2 = some none)
    (hb : defBody st = [.Assign [.Attribute (.Name y q1) f1 q2] (.Name p1 q3) q4, .Assign [.Attribute (.Name y r1) f2 r2] (.Name p2 r3) r4]) (hv0 : (defScope st).names.lookup y = some .local) (hv1 : (defScope st).names.lookup p1 = some .local) (hv2 : (defScope st).names.lookup p2 = some .local)
    (d0 : (y == ("__debug__" : Str)) = false := by decide) (c0 : (y == ("__classdict__" : Str)) = false := by decide) (d1 : (p1 == ("__debug__" : Str)) = false := by decide) (c1 : (p1 == ("__classdict__" : Str)) = false := by decide) (d2 : (p2 == ("__debug__" : Str)) = false := by decide) (c2 : (p2 == ("__classdict__" : Str)) = false := by decide) :
    FnOk P w K mg base (L2.CX P w) (k + 1) f fd [y, p1, p2] (spX C [f1, f2]) := by
  refine F.okX S (fun vs H Q E h => ?_) fun cdv A outer s H vs Q E hr h => ?_
  · obtain ⟨a, ws, rfl, hl, _⟩ := h
    rw [List.length_cons, hl]; rfl
  · obtain ⟨a, ws, rfl, hl, ha, hq⟩ := h
    obtain ⟨v1, v2, rfl⟩ : ∃ v1 v2, ws = [v1, v2] := by
      match ws, hl with
      | [v1, v2], _ => exact ⟨_, _, rfl⟩
    rw [hb]
    refine ⟨_, pss_cons (ps_ost (X := cxOf (L2.CX P w) P w K mg base [y, p1, p2] qual (defScope st) f cdv A outer s H E) (pe_var (i := 0) rfl (.inl hv0) d0 c0) (pe_var (i := 1) rfl (.inl hv1) d1 c1))
      (pss_one (ps_ost (pe_var (i := 0) rfl (.inl hv0) d0 c0) (pe_var (i := 2) rfl (.inl hv2) d2 c2))), ?_⟩
    refine ⟨_, rfl, _, rfl, a, C, rfl, T, n1, .inl ⟨ha, fun dx h1 h2 => ?_⟩⟩
    refine ⟨_, rfl, _, rfl, a, C, rfl, T, n2, .inr ⟨dx, _, upd_same, (upd_ne h2).trans upd_same, by simp, ?_⟩⟩
    refine hq dx _ h1 h2 ((upd_ne (Ne.symm h2)).trans upd_same) upd_same fun b hb1 hb2 => (upd_ne hb2).trans ((upd_ne hb1).trans (upd_ne hb2))
end
/-- what an error class with fields has -/
structure OexT (G : Glb) (mg : Str → Option Value) (x : Str) (c : Nat) (fI : Addr) (fs : List Str) : Prop where
  oc : OexC G.K (G.cl c)
  in_ : PySem.W.findIn G.K (.ref (G.cl c)) "__init__" = some (some (.ref fI))
  tI : PySem.W.typeIn G.K (.ref fI) = some (.type "function")
  g : mg x = some (.ref (G.cl c))
  sub : PySem.W.subIn G.K (.ref (G.cl c)) (.type "BaseException") = some true
def mRaiseF (c : Nat) (fs : List Str) (ma : MA) : MS := fun env st => match ma env st with
  | .ok ds st1 => if ds.length = fs.length ∧ ds.length ≤ 100 then .er ⟨c, some (fs.zip ds).reverse⟩ env st1 else .bad
  | .err x st1 => .er x env st1
  | .bad => .bad
theorem repF_zip {G : Glb} {ad : List Addr} {S : Hp} : ∀ {vs : List V} {ds : List D} (fs : List Str), Reps G ad S vs ds → RepF G ad S (fs.zip vs) (fs.zip ds)
  | _, _, [], _ => .nil
  | _, _, _ :: _, .nil => .nil
  | _, _, f :: fs, .cons h r => .cons h (repF_zip fs r)
theorem RepF.append {G : Glb} {ad : List Addr} {S : Hp} : ∀ {vs ws : List (Str × V)} {ds es : List (Str × D)}, RepF G ad S vs ds → RepF G ad S ws es → RepF G ad S (vs ++ ws) (ds ++ es)
  | _, _, _, _, .nil, s => s
  | _, _, _, _, .cons h r, s => .cons h (RepF.append r s)
theorem RepF.rev {G : Glb} {ad : List Addr} {S : Hp} : ∀ {vs : List (Str × V)} {ds : List (Str × D)}, RepF G ad S vs ds → RepF G ad S vs.reverse ds.reverse
  | _, _, .nil => .nil
  | _, _, .cons h r => by
    rw [List.reverse_cons, List.reverse_cons]
    exact (RepF.rev r).append (.cons h .nil)
section
variable {G : Glb} {X : Cx} {W : WX} {Ob : Ow} {OE : Ow → Prop} {O O1 : Ow} {pos p pos' : Pos} {k j : Nat} {x : Str} {c : Nat} {fI : Addr} {fd : FuncData} {ps fs : List Str} {e : Expr} {es : List Expr} {ma : MA}
theorem ds_raiseF (xc : XC k G X W) (T : OexT G X.mg x c fI fs) (F : FnOk X.prog X.w X.K X.mg X.base (L2.CX X.prog X.w) j fI fd ps (spX (G.cl c) fs)) (hb : Binds X.K fd ps []) (ha : DA G X W O (e :: es) ma) (hjk : j + 1 ≤ k := by decide) (hO : OE O := by first | trivial | rfl) (hg : Gl X x := by rfl) (hdb : (x == ("__debug__" : Str)) = false := by decide)
    (he : starEach (e :: es) X.env = (false, eval e X.env) :: starEach es X.env := by rfl) (hpl : (backTo pos' (starEach es X.env)).any (·.1) = false := by rfl) :
    DS G X W Ob OE O (.Raise (some (.Call (.Name x p) (e :: es) [] pos')) none pos) O1 (mRaiseF c fs ma) := by
  obtain ⟨t, pa, w⟩ := ha.ex
  have hK := xc.K
  refine ⟨_, ps_raise xc.calm xc.tk (pmk_oex (hK ▸ T.oc) (hK ▸ T.in_) (hK ▸ T.tI) F (xc.hr.mono hjk) hb (dvs := []) .nil (fun _ _ _ _ _ _ _ z => by obtain ⟨_, _, _, _, _, _, _, _, _, _, _, _, z⟩ := z; exact z.elim) hg T.g pa hdb he hpl), fun b S env st σ H D I h => ?_⟩
  unfold mRaiseF at h
  refine w b S env st σ H _ I ?_
  cases ea : ma env st with
  | ok ds st1 =>
    rw [ea] at h
    dsimp only at h
    split at h
    case isFalse => exact h.elim
    rename_i hn
    intro vs S1 H1 x1 su1 so1 r1
    refine ⟨by rw [r1.len]; omega, fun a h1 => ⟨a, vs, by rw [List.append_nil], by rw [r1.len]; exact hn.1, upd_same, fun dx H2 g1 g2 g3 g4 g5 => ?_⟩⟩
    have g1' : H1 dx = none := by rwa [upd_ne g2] at g1
    refine ⟨rfl, dx, _, g3, g4, g1', ?_⟩
    have eH : upd (del H2 a) dx (.xd (fs.zip vs).reverse) = upd H1 dx (.xd (fs.zip vs).reverse) := by
      funext q
      by_cases hq : q = dx
      · subst hq; rw [upd_same, upd_same]
      · rw [upd_ne hq, upd_ne hq]
        by_cases hq2 : q = a
        · subst hq2; rw [del_same, h1]
        · rw [del_ne hq2, g5 q hq2 hq, upd_ne hq2]
    rw [eH]
    have I1 := I.ext x1 su1 so1
    have sS : S1 dx = none := by
      cases z : S1 dx with
      | none => rfl
      | some o => have := su1 dx o z; rw [g1'] at this; cases this
    have nad : dx ∉ b.ad := fun z => by
      obtain ⟨_, vs', hv⟩ := so1.has z
      rw [g1'] at hv; cases hv
    have sm : Same S1 (upd S1 dx (.xd (fs.zip vs).reverse)) := fun q o hq => by
      rw [upd_ne (fun z => by rw [z, sS] at hq; cases hq)]; exact hq
    have x2 : Ext b.ad S1 H1 (upd S1 dx (.xd (fs.zip vs).reverse)) (upd H1 dx (.xd (fs.zip vs).reverse)) := by
      refine ⟨sm, fun q o hq => ?_, fun q o hq _ => ?_⟩
      · by_cases z : q = dx
        · subst z; exact .inr g1'
        · rw [upd_ne z] at hq; exact .inl hq
      · rw [upd_ne (fun z => by rw [z, g1'] at hq; cases hq)]; exact hq
    have su2 : Same (upd S1 dx (.xd (fs.zip vs).reverse)) (upd H1 dx (.xd (fs.zip vs).reverse)) := fun q o hq => by
      by_cases z : q = dx
      · subst z; rw [upd_same] at hq ⊢; exact hq
      · rw [upd_ne z] at hq ⊢; exact su1 q o hq
    have so2 : StoOk G b.ad (upd S1 dx (.xd (fs.zip vs).reverse)) st1 (upd H1 dx (.xd (fs.zip vs).reverse)) :=
      (so1.grow fun q o hq hh => by rw [upd_ne (show q ≠ dx from fun z => nad (z ▸ hq))]; exact hh).known sm fun q hq => by
        rw [upd_ne (show q ≠ dx from fun z => nad (z ▸ hq))]; exact (so1.has hq).1
    exact h _ _ O _ σ _ hO (x1.same.trans x2.same) (I1.ext x2 su2 so2) ⟨rfl, dx, _, rfl, upd_same, (repF_zip fs (r1.mono sm)).rev⟩
  | err y st1 =>
    rw [ea] at h
    intro cls dd S' H' x' su so r
    exact h cls dd O S' σ H' hO x'.same (I.ext x' su so) r
  | bad => rw [ea] at h; exact h.elim
end
end DL

/-! DL, fourteenth part: try with several handlers, named and nameless ones mixed. -/
namespace DL
open PySem PySem.Spec PyProof.Rows L2
abbrev Han := Value × Option Nat × (Addr → Value → Option Addr → TS)
/-- the ends behind a named handler: its name is gone -/
def offE (i : Nat) (D : Ends) : Ends := { nx := fun τ K => D.nx (τ.set i none) K, rt := D.rt, bk := fun τ K => D.bk (τ.set i none) K, ct := fun τ K => D.ct (τ.set i none) K }
def wMix (K : PySem.W.Frag) (Wout : WX) (D : Ends) : List Han → WX
  | [] => Wout
  | (c, oi, ts) :: r => fun cls d σ H => ∃ b, PySem.W.exmOne K cls c = some b ∧ (b = false → wMix K Wout D r cls d σ H) ∧
      (b = true → ∀ ex, H ex = none → match oi with
        | none => ts ex cls d D σ H
        | some i => ts ex cls d (offE i D) (σ.set i (some (.ref ex))) H)
inductive HdM (X : Cx) : List ExceptHandler → List Han → Prop
  | nil : HdM X [] []
  | bare {x : Str} {c : Value} {ts : Addr → Value → Option Addr → TS} {b₀ : Stmt} {suite : List Stmt} {np hp : Pos} {hds : List ExceptHandler} {l : List Han} (nm : Names X x c)
      (su : ∀ (ex : Addr) (o : Obj) (cls : Value) (d : Option Addr) (pn : List (Addr × Obj)), Zc cls d o → (∃ vs, o.data = .fields vs) → PSs (X.suite ex ((ex, o) :: pn)) (b₀ :: suite) (ts ex cls d)) (rest : HdM X hds l) :
      HdM X (.ExceptHandler (some (.Name x np)) none (b₀ :: suite) hp :: hds) ((c, none, ts) :: l)
  | name {x n : Str} {i : Nat} {c : Value} {ts : Addr → Value → Option Addr → TS} {b₀ : Stmt} {suite : List Stmt} {np hp : Pos} {hds : List ExceptHandler} {l : List Han} (hi : X.N[i]? = some n) (hn : X.env.kindOf n = some .local) (nm : Names X x c)
      (su : ∀ (ex : Addr) (o : Obj) (cls : Value) (d : Option Addr) (pn : List (Addr × Obj)), Zc cls d o → (∃ vs, o.data = .fields vs) → PSs (X.suite ex ((ex, o) :: pn)) (b₀ :: suite) (ts ex cls d)) (rest : HdM X hds l) :
      HdM X (.ExceptHandler (some (.Name x np)) (some n) (b₀ :: suite) hp :: hds) ((c, some i, ts) :: l)
section
variable {X : Cx} {Wout : WX} {D : Ends} {pins : List (Addr × Obj)}
theorem hd_go (hs : X.stack = X.env :: X.outer) (hf : X.env.frame = some X.env.locals) (ndN : X.N.Nodup) (tk : Takes X Wout) (okX : X.Ok) {ex : Addr} {B : Heap} {s0 s' : Shared} {τ : L2.St} {L : Hp} {cls : Value} {d : Option Addr} {hh : Heap}
    (J : Inv X pins τ L s0) (out : ∀ b o, s0.heap.get? b = some o → b ∉ frs X.stack → B.get? b = some o) (gr : s0.heap.UpToSlots hh) (fl : HandSPX.FlyingZ B (X.env :: X.outer) ex (Zc cls d) hh) (fresh : L ex = none) (os : s'.os = s0.os) (gens : AllBare s'.gens) :
    ∀ {hds : List ExceptHandler} {l : List Han}, HdM X hds l → wMix X.K Wout D l cls d τ L → wpAny (model X.prog X.w) X.A (handleBy (.ref ex) X.env hds) (SP X pins D) X.xe { s' with heap := hh } := by
  have Jh : Inv X pins τ L { s' with heap := hh } := J.landed out fl.1 gr os gens
  obtain ⟨oh, fh, gh, zh, dh⟩ := fl.there
  have away : ex ∉ frs (X.env :: X.outer) := fun hm => by
    obtain ⟨_, o', e', hnf⟩ := fl.2.2.1.mem hm
    rw [gh] at e'; cases e'
    exact hnf _ dh
  have notL : ex ≠ X.env.locals := fun z => away (List.mem_filterMap.mpr ⟨X.env, List.mem_cons_self, by rw [hf, z]⟩)
  have notF : ex ∉ X.fs := fun hm => by
    obtain ⟨en, he, q⟩ := List.mem_filterMap.mp hm
    exact away (List.mem_filterMap.mpr ⟨en, List.mem_cons_of_mem _ he, q⟩)
  have Sh := Jh.suite gh dh fresh notL notF
  have tyL : PySem.W.Looks (model X.prog X.w) hh (typeOf (.ref ex)) cls := fun A Q E s k q => wpAny_typeOf_ref (k _ _ gh) (by rw [zh.1]; exact q)
  have asked : ∀ {x : Str} {c : Value} {np : Pos} {Q : Value → Shared → Prop} {E : Value → Shared → Prop}, Names X x c → Q c { s' with heap := hh } → wpAny (model X.prog X.w) (X.A.mark (some (.ref ex))) (eval (.Name x np) X.env) Q E { s' with heap := hh } := fun {x c np Q E} nm q => by
    obtain ⟨hg, hdb, hm | ⟨hm, hv, hnn⟩⟩ := nm
    · exact ld_glob (X := X.suite ex ((ex, oh) :: (X.pn ++ pins))) Sh hg hm q hdb
    · exact ld_blt (X := X.suite ex ((ex, oh) :: (X.pn ++ pins))) Sh hg hm hv q hnn hdb
  intro hds l hk
  induction hk with
  | nil =>
    intro wi
    refine wpAny_handleBy_nil ?_
    obtain ⟨k1, k2, k3, oe, vs, T, oT, ts', he, hz, hd, h1, hr⟩ := id fl
    have go : wpAny (model X.prog X.w) X.A (setFlight (.ref ex) X.env.frame) (fun _ sx => wpAny (model X.prog X.w) X.A (throw (.ref ex) : Sem Flow) (SP X pins D) X.xe sx) X.xe { s' with heap := hh } := by
      rw [hf]
      refine HandSPX.setFlight_upZ fl fun hx held upx => wpAny_throw (tk _ _ ?_)
      exact ⟨ex, B, s0, pins, τ, L, cls, d, rfl, J, out, gr.trans upx, .inr (.inr (by rw [hs]; exact held)), fresh, os, gens, wi⟩
    unfold PySem.passOn
    refine wpAny_bind (wpAny_field he hd h1 ?_)
    rw [if_neg (show ¬ ((Value.ref T == Value.none) = true) by simp)]
    first
      | exact wpAny_bind (wpAny_pure (wpAny_bind go))
      | exact wpAny_bind go
  | @bare x c ts b₀ suite np hp hds2 l2 nm su rest ih =>
    intro wi
    obtain ⟨b, hb1, hno, hyes⟩ := wi
    have ask := PySem.W.exm_one (M := model X.prog X.w) (Jh.kIn) tyL hb1
    refine wpAny_handleBy_cons (codeAny_handlers_test ?_) (fun q => by cases q)
    refine asked nm (ask.here ?_)
    cases b with
    | false => exact ih (hno rfl)
    | true =>
      refine codeAny_handlers_suite (HandSPX.lands_againZ fl fun hx flx upx => ?_)
      have Jx : Inv X pins τ L { s' with heap := hx } := J.landed out flx.1 (gr.trans upx) os gens
      obtain ⟨ox, fx, gx, zx, dx⟩ := flx.there
      have Sx := Jx.suite gx dx fresh notL notF
      refine wpAny_mono ((su ex ox cls d (X.pn ++ pins) zx ⟨_, dx⟩).run [] _ _ L _ Sx (hyes rfl ex fresh)) (fun f s6 hsp => ?_) (fun _ _ z => z.elim)
      cases f with
      | next => obtain ⟨τ6, L6, S6, q6⟩ := hsp; exact ⟨_, _, S6.unsuite okX, q6⟩
      | brk => obtain ⟨τ6, L6, S6, q6⟩ := hsp; exact ⟨_, _, S6.unsuite okX, q6⟩
      | cont => obtain ⟨τ6, L6, S6, q6⟩ := hsp; exact ⟨_, _, S6.unsuite okX, q6⟩
      | ret u => obtain ⟨v6, τ6, L6, S6, r6, q6⟩ := hsp; exact ⟨_, _, _, S6.unsuite okX, r6, q6⟩
  | @name x n i c ts b₀ suite np hp hds2 l2 hi hn nm su rest ih =>
    intro wi
    obtain ⟨b, hb1, hno, hyes⟩ := wi
    have ask := PySem.W.exm_one (M := model X.prog X.w) (Jh.kIn) tyL hb1
    refine wpAny_handleBy_cons (codeAny_handlers_test ?_) (fun q => by cases q)
    refine asked nm (ask.here ?_)
    cases b with
    | false => exact ih (hno rfl)
    | true =>
      refine codeAny_handlers_suite_as (HandSPX.lands_againZ fl fun hx flx upx => ?_)
      have Jx : Inv X pins τ L { s' with heap := hx } := J.landed out flx.1 (gr.trans upx) os gens
      obtain ⟨ox, fx, gx, zx, dx⟩ := flx.there
      have Sx := Jx.suite gx dx fresh notL notF
      have hl : Loc X.env.scope n := .inl hn
      refine store_ok (X := X.suite ex ((ex, ox) :: (X.pn ++ pins))) (v := .ref ex) Sx ndN hi hl rfl (fun s5 S5 => ?_) (.inr hn)
      refine wpAny_mono ((su ex ox cls d (X.pn ++ pins) zx ⟨_, dx⟩).run [] s5 _ L _ S5 (hyes rfl ex fresh)) (fun f s6 hsp => ?_) (fun _ _ z => z.elim)
      have gone : ∀ {τ6 : L2.St} {L6 : Hp} {Q : Shared → Prop}, Inv (X.suite ex ((ex, ox) :: (X.pn ++ pins))) [] τ6 L6 s6 → (∀ s7, Inv X pins (τ6.set i none) L6 s7 → Q s7) →
          wpAny (model X.prog X.w) X.A (do bindName X.env n .none; unbindBehindTheSuite X.env n hp) (fun _ s7 => Q s7) X.xe s6 := fun {τ6 L6 Q} S6 hq => gone_ok (S6.unsuite okX) ndN hi hn hq
      cases f with
      | next => obtain ⟨τ6, L6, S6, q6⟩ := hsp; exact gone S6 fun s7 J7 => ⟨_, _, J7, q6⟩
      | brk => obtain ⟨τ6, L6, S6, q6⟩ := hsp; exact gone S6 fun s7 J7 => ⟨_, _, J7, q6⟩
      | cont => obtain ⟨τ6, L6, S6, q6⟩ := hsp; exact gone S6 fun s7 J7 => ⟨_, _, J7, q6⟩
      | ret u => obtain ⟨v6, τ6, L6, S6, r6, q6⟩ := hsp; exact gone S6 fun s7 J7 => ⟨_, _, _, J7, r6, q6⟩
theorem ps_try_mix {body : List Stmt} {h₀ : ExceptHandler} {hds : List ExceptHandler} {l : List Han} {pos : Pos} {tb : WX → TS} (hs : X.stack = X.env :: X.outer) (hf : X.env.frame = some X.env.locals) (ndN : X.N.Nodup) (tk : Takes X Wout)
    (inner : ∀ (W : WX) (pn : List (Addr × Obj)) (xe : Value → Shared → Prop), Takes (X.tr pn xe) W → PassesOwn (model X.prog X.w) X.A X.env xe → PSs (X.tr pn xe) body (tb W)) (hm : HdM X (h₀ :: hds) l) :
    PS X (.Try body (h₀ :: hds) [] [] pos) (fun D σ H => tb (wMix X.K Wout D l) D σ H) := by
  constructor
  intro pins s σ H D I h
  have okX := I.ok
  have fr2 : X.A.frames = some (X.env :: X.outer) := by rw [okX.frames, hs]
  have part := inner (wMix X.K Wout D l) (X.pn ++ pins) (fun y s1 => wpAny (model X.prog X.w) X.A (noteFrame y X.env) (fun _ s2 => wpAny (model X.prog X.w) X.A (setFlight y none) (fun _ s3 =>
    wpAny (model X.prog X.w) X.A (handleBy y X.env (h₀ :: hds)) (SP X pins D) X.xe s3) X.xe s2) X.xe s1) (fun u s' air => by
      obtain ⟨ex, B, s0, pins', τ, L, cls, d, rfl, J', out, gr, sky, fresh, os, gens, wi⟩ := air
      have J : Inv X pins τ L s0 := J'.ofTry okX
      have sky2 : Sky B (X.env :: X.outer) ex (Zc cls d) X.env.locals s'.heap := by rw [← hs]; exact sky
      show wpAny (model X.prog X.w) X.A (noteFrame (.ref ex) X.env) _ _ _
      exact Sky.land Zc.steady fr2 hf sky2 fun hh fl up2 => hd_go hs hf ndN tk okX J out (gr.trans up2) fl fresh os gens hm wi) PassesOwn.looking
  refine wpAny_Try_except (wpAny_mono (part.run [] s σ H D (I.toTry _) h) (fun f s1 hsp => ?_) fun y s1 he => he)
  cases f with
  | next => obtain ⟨τ, L, J, q⟩ := hsp; exact wpAny_execs_nil ⟨τ, L, J.ofTry okX, q⟩
  | brk => obtain ⟨τ, L, J, q⟩ := hsp; exact ⟨τ, L, J.ofTry okX, q⟩
  | cont => obtain ⟨τ, L, J, q⟩ := hsp; exact ⟨τ, L, J.ofTry okX, q⟩
  | ret u => obtain ⟨v, τ, L, J, r, q⟩ := hsp; exact ⟨v, τ, L, J.ofTry okX, r, q⟩
end
abbrev HanM := (Nat → Option Bool) × Option Nat × MS
def mHands : List HanM → Ex → MS
  | [], x => fun env st => .er x env st
  | (cl, oi, ms) :: r, x => fun env st => match cl x.c with
    | some true => match oi with
      | none => noErS (ms env st)
      | some i => unX i (ms (env.set i (some (exObj x))) st)
    | some false => mHands r x env st
    | none => .bad
def mTryM (hs : List HanM) (m : MS) : MS := fun env st => match m env st with
  | .er x env1 st1 => mHands hs x env1 st1
  | o => o
inductive DHd (G : Glb) (X : Cx) (own ob : List Nat) : List ExceptHandler → List HanM → Prop
  | nil : DHd G X own ob [] []
  | bare {x : Str} {cv : Value} {b₀ : Stmt} {suite : List Stmt} {np hp : Pos} {hds : List ExceptHandler} {hs : List HanM} {cl : Nat → Option Bool} {ms : MS} (nm : Names X x cv) (hcl : ∀ c b, cl c = some b → PySem.W.exmOne G.K (.ref (G.cl c)) cv = some b)
      (su : ∀ (ex : Addr) (o : Obj) (cls : Value) (d : Option Addr) (pn : List (Addr × Obj)), Zc cls d o → (∃ vs, o.data = .fields vs) → DSs G (X.suite ex ((ex, o) :: pn)) W0 ⟨ob, none, (0, .none, none), none, (0, 0)⟩ (fun _ => True) ⟨own, none, (0, .none, none), none, (0, 0)⟩ (b₀ :: suite) ⟨own, none, (0, .none, none), none, (0, 0)⟩ ms)
      (rest : DHd G X own ob hds hs) : DHd G X own ob (.ExceptHandler (some (.Name x np)) none (b₀ :: suite) hp :: hds) ((cl, none, ms) :: hs)
  | name {x n : Str} {cv : Value} {b₀ : Stmt} {suite : List Stmt} {np hp : Pos} {hds : List ExceptHandler} {hs : List HanM} {cl : Nat → Option Bool} {ms : MS} (i : Nat) (nm : Names X x cv) (hcl : ∀ c b, cl c = some b → PySem.W.exmOne G.K (.ref (G.cl c)) cv = some b)
      (su : ∀ (ex : Addr) (o : Obj) (cls : Value) (d : Option Addr) (pn : List (Addr × Obj)), Zc cls d o → (∃ vs, o.data = .fields vs) → DSs G (X.suite ex ((ex, o) :: pn)) W0 ⟨ob, some i, (ex, cls, d), none, (0, 0)⟩ (fun _ => True) ⟨own, some i, (ex, cls, d), none, (0, 0)⟩ (b₀ :: suite) ⟨own, some i, (ex, cls, d), none, (0, 0)⟩ ms)
      (rest : DHd G X own ob hds hs) (hi : X.N[i]? = some n := by rfl) (hn : X.env.kindOf n = some .local := by rfl) (hio : own.elem i = false := by rfl) (hib : ob.elem i = false := by rfl) : DHd G X own ob (.ExceptHandler (some (.Name x np)) (some n) (b₀ :: suite) hp :: hds) ((cl, some i, ms) :: hs)
section
variable {G : Glb} {X : Cx} {W : WX} {OE : Ow → Prop} {pos : Pos} {k : Nat} {own ob : List Nat}
theorem DHd.go (hK : X.K = G.K) (hO : OE ⟨own, none, (0, .none, none), none, (0, 0)⟩) : ∀ {hds : List ExceptHandler} {hs : List HanM}, DHd G X own ob hds hs → ∃ l, HdM X hds l ∧
    ∀ (b : Act) (S S1 : Hp) (env : Env') (st : List D) (σ : L2.St) (H : Hp) (x : Ex) (cls : Value) (dd : Option Addr) (D : Ends), Same S S1 → DI G b ⟨own, none, (0, .none, none), none, (0, 0)⟩ S1 env st σ H → RepX G b.ad S1 cls dd x →
      PostS G b ⟨ob, none, (0, .none, none), none, (0, 0)⟩ OE W ⟨own, none, (0, .none, none), none, (0, 0)⟩ D S (mHands hs x env st) → wMix X.K W D l cls dd σ H := by
  intro hds hs h
  induction h with
  | nil => exact ⟨[], .nil, fun b S S1 env st σ H x cls dd D e I r h => h cls dd _ S1 σ H hO e I r⟩
  | @bare x cv b₀ suite np hp hds hs cl ms nm hcl su rest ih =>
    obtain ⟨l, hl, go⟩ := ih
    refine ⟨(cv, none, fun _ _ _ D σ H => ∃ b S env st, DI G b ⟨own, none, (0, .none, none), none, (0, 0)⟩ S env st σ H ∧ PostS G b ⟨ob, none, (0, .none, none), none, (0, 0)⟩ (fun _ => True) W0 ⟨own, none, (0, .none, none), none, (0, 0)⟩ D S (ms env st)) :: l, .bare nm (fun ex o cls d pn hz hf => ?_) hl, fun b S S1 env st σ H y cls dd D e I r h => ?_⟩
    · obtain ⟨t, p, w⟩ := (su ex o cls d pn hz hf).ex
      exact PSs.imp p fun D σ H ⟨b, S, env, st, I, q⟩ => w b S env st σ H D I q
    · unfold mHands at h
      cases ec : cl y.c with
      | none => rw [ec] at h; exact h.elim
      | some bb =>
        rw [ec] at h
        refine ⟨bb, by rw [hK, r.1]; exact hcl _ _ ec, fun hbb => ?_, fun hbb a ha => ?_⟩
        · subst hbb
          exact go b S S1 env st σ H y cls dd D e I r h
        · subst hbb
          dsimp only at h
          refine ⟨b, S1, env, st, I, ?_⟩
          cases es : ms env st with
          | nx env2 st2 => rw [es] at h; exact fun S2 σ2 H2 e2 I2 => h S2 _ H2 (e.trans e2) I2
          | rt d st2 => rw [es] at h; exact h
          | bk env2 st2 => rw [es] at h; exact fun S2 σ2 H2 e2 I2 => h S2 _ H2 (e.trans e2) I2
          | ct env2 st2 => rw [es] at h; exact fun S2 σ2 H2 e2 I2 => h S2 _ H2 (e.trans e2) I2
          | er x2 env2 st2 => rw [es] at h; exact h.elim
          | bad => rw [es] at h; exact h.elim
  | @name x n cv b₀ suite np hp hds hs cl ms i nm hcl su rest hi hn hio hib ih =>
    obtain ⟨l, hl, go⟩ := ih
    refine ⟨(cv, some i, fun a cls d D σ H => ∃ b S env st, DI G b ⟨own, some i, (a, cls, d), none, (0, 0)⟩ S env st σ H ∧ PostS G b ⟨ob, some i, (a, cls, d), none, (0, 0)⟩ (fun _ => True) W0 ⟨own, some i, (a, cls, d), none, (0, 0)⟩ D S (ms env st)) :: l, .name hi hn nm (fun ex o cls d pn hz hf => ?_) hl, fun b S S1 env st σ H y cls dd D e I r h => ?_⟩
    · obtain ⟨t, p, w⟩ := (su ex o cls d pn hz hf).ex
      exact PSs.imp p fun D σ H ⟨b, S, env, st, I, q⟩ => w b S env st σ H D I q
    · unfold mHands at h
      cases ec : cl y.c with
      | none => rw [ec] at h; exact h.elim
      | some bb =>
        rw [ec] at h
        refine ⟨bb, by rw [hK, r.1]; exact hcl _ _ ec, fun hbb => ?_, fun hbb a ha => ?_⟩
        · subst hbb
          exact go b S S1 env st σ H y cls dd D e I r h
        · subst hbb
          dsimp only at h
          refine ⟨b, S1, _, st, I.toexc hio r, ?_⟩
          cases es : ms (env.set i (some (exObj y))) st with
          | nx env2 st2 => rw [es] at h; exact fun S2 σ2 H2 e2 I2 => h S2 _ H2 (e.trans e2) (I2.unexc hio _)
          | rt d st2 => rw [es] at h; exact h
          | bk env2 st2 => rw [es] at h; exact fun S2 σ2 H2 e2 I2 => h S2 _ H2 (e.trans e2) (I2.unexc hib _)
          | ct env2 st2 => rw [es] at h; exact fun S2 σ2 H2 e2 I2 => h S2 _ H2 (e.trans e2) (I2.unexc hib _)
          | er x2 env2 st2 => rw [es] at h; exact h.elim
          | bad => rw [es] at h; exact h.elim
theorem ds_tryM {body : List Stmt} {h₀ : ExceptHandler} {hds : List ExceptHandler} {hs : List HanM} {m : MS} (xc : XC k G X W) (xt : XT X) (ndN : X.N.Nodup)
    (hb : ∀ (W' : WX) (pn : List (Addr × Obj)) (xe : Value → Shared → Prop), XC k G (X.tr pn xe) W' → XT (X.tr pn xe) → DSs G (X.tr pn xe) W' ⟨ob, none, (0, .none, none), none, (0, 0)⟩ (· = ⟨own, none, (0, .none, none), none, (0, 0)⟩) ⟨own, none, (0, .none, none), none, (0, 0)⟩ body ⟨own, none, (0, .none, none), none, (0, 0)⟩ m)
    (hh : DHd G X own ob (h₀ :: hds) hs) (hO : OE ⟨own, none, (0, .none, none), none, (0, 0)⟩ := by first | trivial | rfl) :
    DS G X W ⟨ob, none, (0, .none, none), none, (0, 0)⟩ OE ⟨own, none, (0, .none, none), none, (0, 0)⟩ (.Try body (h₀ :: hds) [] [] pos) ⟨own, none, (0, .none, none), none, (0, 0)⟩ (mTryM hs m) := by
  obtain ⟨l, hl, go⟩ := hh.go (W := W) xc.K hO
  refine ⟨_, ps_try_mix (Wout := W) (tb := fun W' D σ H => ∃ b S env st, DI G b ⟨own, none, (0, .none, none), none, (0, 0)⟩ S env st σ H ∧ PostS G b ⟨ob, none, (0, .none, none), none, (0, 0)⟩ (· = ⟨own, none, (0, .none, none), none, (0, 0)⟩) W' ⟨own, none, (0, .none, none), none, (0, 0)⟩ D S (m env st))
    xt.stk xt.fr ndN xc.tk (fun W' pn xe tk po => ?_) hl, fun b S env st σ H D I h => ?_⟩
  · obtain ⟨t, p, w⟩ := (hb W' pn xe (xc.tr tk po) (xt.tr pn xe)).ex
    exact PSs.imp p fun D σ H ⟨b, S, env, st, I, q⟩ => w b S env st σ H D I q
  · refine ⟨b, S, env, st, I, ?_⟩
    unfold mTryM at h
    cases e : m env st with
    | nx env1 st1 => rw [e] at h; exact h
    | rt d st1 => rw [e] at h; exact h
    | bk env1 st1 => rw [e] at h; exact h
    | ct env1 st1 => rw [e] at h; exact h
    | bad => rw [e] at h; exact h
    | er x env1 st1 =>
      rw [e] at h
      intro cls dd O' S1 σ1 H1 hO' e1 I1 rx
      subst hO'
      exact go b S S1 env1 st1 σ1 H1 x cls dd D e1 I1 rx h
end
end DL

/-! DL, fifteenth part: isinstance by own classes, their ==, chained comparisons, fields of a caught error. -/
namespace DL
open PySem PySem.Spec PyProof.Rows L2
/-- what a value is, for isinstance: a built-in type's name or an own class -/
inductive Tag where
  | ty (n : String) | cl (c : Nat)
deriving DecidableEq
def tagD (okI : Nat → Bool) (d : D) : Option Tag := match d with
  | .obj c _ => if okI c = true then some (.cl c) else none
  | d => (tyN d).map .ty
def tagV (G : Glb) : Tag → Value
  | .ty n => .type n
  | .cl c => .ref (G.cl c)
/-- what isinstance wants of an own class's objects -/
structure InsT (G : Glb) (c : Nat) : Prop where
  cls : Cls G.K (G.cl c)
  ha : PySem.W.findIn G.K (.ref (G.cl c)) "__class__" = some (some (.builtin "object.__class__"))
  hn : PySem.W.specialIn G.K (.builtin "object.__class__") "__get__" = some (some (.builtin "getset_descriptor.__get__"))
  ht : PySem.W.takesIn G.K (.builtin "object.__class__") = some true
  hm : PySem.W.mroIn G.K (G.cl c) (.type "object") = some true
section
variable {G : Glb} {X : Cx}
theorem tag_ok {okI : Nat → Bool} (T : ∀ c, okI c = true → InsT G c) {ad : List Addr} {S H : Hp} {v : V} {d : D} {t : Tag} (su : Same S H) (r : Rep G ad S v d) (e : tagD okI d = some t) : TyX G.K H v (tagV G t) := by
  cases r with
  | obj h r2 =>
    rename_i a dx c vs fs
    have e : (if okI c = true then some (Tag.cl c) else none) = some t := e
    split at e
    · rename_i ok
      cases e
      obtain ⟨t1, t2, t3, t4, t5⟩ := T c ok
      exact .base (.ins (su _ _ h) t1 t2 t3 t4 t5)
    · cases e
  | non => cases e; exact tyN_ok (ad := ad) su .non rfl
  | bl b => cases e; exact tyN_ok (ad := ad) su (.bl b) rfl
  | int i => cases e; exact tyN_ok (ad := ad) su (.int i) rfl
  | str x => cases e; exact tyN_ok (ad := ad) su (.str x) rfl
  | tup h r2 => cases e; exact tyN_ok su (.tup h r2) rfl
  | lst h r2 => cases e; exact tyN_ok su (.lst h r2) rfl
  | rol h r2 => cases e; exact tyN_ok su (.rol h r2) rfl
  | ty n => cases e
  | cls c => cases e
  | tok h => cases e
  | dic h => cases e; exact tyN_ok (ad := ad) su (.dic h) rfl
/-- isinstance(x, an own class) -/
def dIsC (okI : Nat → Bool) (tab : Tag → Nat → Option Bool) : List D → Option D := fun ds => match ds with
  | [x, .cls c] => (tagD okI x).bind fun t => (tab t c).map .bl
  | _ => none
theorem cd_isC {okI : Nat → Bool} {tab : Tag → Nat → Option Bool} (hK : X.K = G.K) (T : ∀ c, okI c = true → InsT G c) (ht : ∀ t c b, tab t c = some b → PySem.W.kitOne G.K (tagV G t) (.ref (G.cl c)) = some b) : CallD G (rIsi X.K) (dIsC okI tab) := ⟨fun ad S H st xs ds d Q su so r e q => by
  unfold dIsC at e
  split at e
  · rename_i x c
    obtain ⟨v, w, rfl, r1, r2⟩ := reps2 r
    cases r2
    cases et : tagD okI x with
    | none => rw [et] at e; cases e
    | some t =>
      rw [et] at e
      have e : (tab t c).map D.bl = some d := e
      cases eb : tab t c with
      | none => rw [eb] at e; cases e
      | some b =>
        rw [eb] at e
        cases e
        exact ⟨v, _, _, _, b, rfl, .own _, hK ▸ tag_ok T su r1 et, hK ▸ ht t c b eb, Post.here su so (.bl _) q⟩
  · cases e⟩
end
/-! ### x == y by x's own __eq__ -/
section
variable {X : Cx} {CX : CXT} {n : Nat} {C f : Addr} {fd : FuncData} {ps : List Str} {sp : Sp}
def rOwn (K : PySem.W.Frag) (C : Addr) (sp : Sp) : R2 := fun x y H Q => ∃ (a dx : Addr) (fs : List (Str × V)) (tb : Value), x = .ref a ∧ H a = some (.ins C dx fs) ∧ TyX K H y tb ∧ PySem.W.notFirst K C tb = true ∧ sp [x, y] H (fun v H' => (∃ k, v = .bl k) ∧ Q v H') (fun _ _ _ => False)
theorem op_own (F : FnOk X.prog X.w X.K X.mg X.base (L2.CX X.prog X.w) n f fd ps sp) (rm : Room n X.A) (at_ : PySem.W.findIn X.K (.ref C) "__eq__" = some (some (.ref f))) (isf : PySem.W.isFn X.K (.ref f) = true) (bn : Binds X.K fd ps []) : OpR X (compareOp .Eq) (rOwn X.K C sp) := by
  intro pins s σ H x y v u Q I rx ry h
  obtain ⟨a, dx, fs, tb, rfl, ha, ty, nf, go⟩ := h
  cases rx
  show wpAny (model X.prog X.w) X.A (richCompare .Eq (.ref a) u) (EP X pins σ Q) X.xe s
  obtain ⟨mA, J, _⟩ := ins_get I.hok ha
  obtain ⟨od, J, _⟩ := J.look
  obtain ⟨m, hF⟩ := I.fr
  obtain ⟨P, kx, pP, _⟩ := kit_of I ry ty
  refine PySem.W.cmp_K (op := .Eq) (tb := tb) rm.units0 hF I.ok.mod.kin J (kx.ty _ _ I.kIn pP) nf at_ isf ?_
  refine wpAny_mono (run_fnSD (E := fun _ _ _ _ => False) (us := [.ref a, u]) (vs := [.ref a, y]) F rm bn (dvs := []) .nil (fun pins H s e s' _ z => by obtain ⟨_, _, _, _, _, _, _, _, _, _, _, _, z⟩ := z; exact z.elim) I (.cons rfl (.cons ry .nil)) (by rw [List.append_nil]; exact go)) (fun r s' z => ?_) fun _ _ z => z
  obtain ⟨w, H', I', rw_, ⟨k, ek⟩, q⟩ := z
  subst ek
  cases rw_
  exact ⟨.bl k, H', I', rfl, q⟩
end
def mEqO (okI : Nat → Bool) (okT : Tag → Bool) (ci : Nat) (m : List D → M D) (ma mb : ME) : ME := fun env st => (ma env st).bind fun x st1 => (mb env st1).bind fun y st2 => match x with
  | .obj c fs => if c = ci ∧ ((tagD okI y).any okT) = true then (noEr (m [x, y] st2)).bind fun d st3 => match d with
      | .bl k => .ok (.bl k) st3
      | _ => .bad
    else .bad
  | x => ret? (dEq x y) st2
section
variable {G : Glb} {X : Cx} {W : WX} {O : Ow} {pos : Pos} {a b : Expr} {ma mb : ME} {k j : Nat} {f : Addr} {fd : FuncData} {ps : List Str} {m : List D → M D} {ci : Nat} {okI : Nat → Bool} {okT : Tag → Bool}
theorem de_eqO (c : XC k G X W) (T : ∀ c, okI c = true → InsT G c) (nf : ∀ t, okT t = true → PySem.W.notFirst G.K (G.cl ci) (tagV G t) = true) (F : FnOk X.prog X.w X.K X.mg X.base (L2.CX X.prog X.w) j f fd ps (spD G 2 m)) (at_ : PySem.W.findIn G.K (.ref (G.cl ci)) "__eq__" = some (some (.ref f))) (isf : PySem.W.isFn G.K (.ref f) = true) (bn : Binds X.K fd ps [])
    (ha : DE G X W O a ma) (hb : DE G X W O b mb) (hjk : j ≤ k := by decide) (hm : behindInMarks .Eq b = false := by first | exact nomark _ | rfl) : DE G X W O (.Compare a [.Eq] [b] pos) (mEqO okI okT ci m ma mb) := by
  have hK := c.K
  obtain ⟨ta, tb, pa, pb, w⟩ := two_parts (k := fun x y => fun st2 => match x with
    | .obj c fs => if c = ci ∧ ((tagD okI y).any okT) = true then (noEr (m [x, y] st2)).bind fun d st3 => match d with
        | .bl k => Res.ok (D.bl k) st3
        | _ => .bad
      else .bad
    | x => ret? (dEq x y) st2) ha hb
  refine ⟨_, pe_cmpR (OpR.or (op_own (C := G.cl ci) F (c.hr.mono hjk) (hK ▸ at_) (hK ▸ isf) bn) (op_eqD c.hr.units)) pa pb hm, fun b S env st σ H Q I h => w b S env st σ H _ (fun x y H2 => rOwn X.K (G.cl ci) _ x y H2 Q ∨ rEqD X.K x y H2 Q) I h fun x y dx dy S' H' st' e I' rx ry hk => ?_⟩
  by_cases ho : ∃ c fs, dx = .obj c fs
  · obtain ⟨cc, fs, rfl⟩ := ho
    dsimp only at hk
    split at hk
    case isFalse => exact hk.elim
    rename_i ok
    obtain ⟨rfl, okt⟩ := ok
    cases et : tagD okI dy with
    | none => rw [et] at okt; cases okt
    | some t =>
      rw [et] at okt
      have okt : okT t = true := okt
      cases rx with
      | obj h2 r2 =>
        rename_i aa dx vs
        refine .inl ⟨aa, dx, vs, tagV G t, rfl, I'.sub _ _ h2, hK ▸ tag_ok T I'.sub ry et, hK ▸ nf t okt, ⟨⟨S', H', b.ad⟩, _, st', rfl, rfl, I'.sub, I'.sto, .cons (.obj h2 r2) (.cons ry .nil), ?_⟩⟩
        have hk2 := wpR_bind hk
        refine wpR_imp (wp_noEr hk2) (fun d st3 z => ?_) fun _ _ z => z
        intro v S3 H3 x3 su3 so3 r3
        cases r3 with
        | bl kk => exact ⟨⟨kk, rfl⟩, (Post.from_ e I'.sto z) (.bl kk) S3 H3 x3 su3 so3 (.bl kk)⟩
        | _ => exact z.elim
  · have hk' : wpR (ret? (dEq dx dy) st') (fun d st' => Post G b.ad S H d st' Q) (fun x st' => PostX G b.ad S H x st' fun c dd H' => W c dd σ H') := by
      cases dx <;> first | exact hk | exact absurd ⟨_, _, rfl⟩ ho
    obtain ⟨d, e1, q⟩ := wp_ret hk'
    exact .inr ((opd_eq hK).go b.ad S' H' st' x y dx dy d Q I'.sub I'.sto rx ry e1 (Post.from_ e I'.sto q))
end
end DL

/-! DL, sixteenth part: chained comparisons, fields of a caught error, sum, lcm. -/
namespace DL
open PySem PySem.Spec PyProof.Rows L2
/-- a < b < c -/
def mChain (f g : D → D → Option D) (ma mb mc : ME) : ME := fun env st => (ma env st).bind fun x st1 => (mb env st1).bind fun y st2 => match f x y with
  | some (.bl true) => (mc env st2).bind fun z => ret? (g y z)
  | some (.bl false) => .ok (.bl false) st2
  | _ => .bad
section
variable {G : Glb} {X : Cx} {W : WX} {O : Ow} {pos : Pos} {a b c : Expr} {ma mb mc : ME} {op op' : CmpOp} {r r' : R2} {f g : D → D → Option D}
theorem de_chain (ho : OpR X (compareOp op) r) (hf : OpD G r f) (ho' : OpR X (compareOp op') r') (hg : OpD G r' g) (ha : DE G X W O a ma) (hb : DE G X W O b mb) (hc : DE G X W O c mc) (hm : lastMarks [op, op'] [b, c] = false := by with_unfolding_all rfl) : DE G X W O (.Compare a [op, op'] [b, c] pos) (mChain f g ma mb mc) := by
  obtain ⟨ta, pa, wa⟩ := ha.ex
  obtain ⟨tb, pb, wb⟩ := hb.ex
  obtain ⟨tc, pc, wc⟩ := hc.ex
  refine ⟨_, pe_chain ho ho' pa pb pc hm, fun b S env st σ H Q I h => wa b S env st σ H _ I (wpR_imp (wpR_bind h) (fun dx st1 h1 => ?_) fun _ _ z => z)⟩
  intro x S1 H1 x1 su1 so1 r1
  have I1 := I.ext x1 su1 so1
  refine wb b S1 env st1 σ H1 _ I1 (wpR_imp (wpR_bind h1) (fun dy st2 h2 => ?_) fun _ _ z => z.from_ x1 so1)
  intro y S2 H2 x2 su2 so2 r2
  have x12 := x1.trans so1 x2
  have I2 := I1.ext x2 su2 so2
  cases ef : f dx dy with
  | none => rw [ef] at h2; exact h2.elim
  | some d =>
    rw [ef] at h2
    refine hf.go b.ad S2 H2 st2 x y dx dy d _ su2 so2 (r1.mono x2.same) r2 ef ?_
    intro v S3 H3 x3 su3 so3 r3
    have x13 := x12.trans so2 x3
    have I3 := I2.ext x3 su3 so3
    cases r3 with
    | bl k =>
      refine ⟨k, rfl, ?_⟩
      cases k with
      | false =>
        have h2 : Post G b.ad S H (.bl false) st2 Q := h2
        exact h2 (.bl false) S3 H3 x13 su3 so3 (.bl false)
      | true =>
        have h2 : wpR ((mc env st2).bind fun z => ret? (g dy z)) (fun d st' => Post G b.ad S H d st' Q) (fun x st' => PostX G b.ad S H x st' fun c dd H' => W c dd σ H') := h2
        refine wc b S3 env st2 σ H3 _ I3 (wpR_imp (wpR_bind h2) (fun dz st3 h3 => ?_) fun _ _ z => z.from_ x13 so3)
        intro z S4 H4 x4 su4 so4 r4
        obtain ⟨d', e1, q⟩ := wp_ret h3
        exact hg.go b.ad S4 H4 st3 y z dy dz d' Q su4 so4 ((r2.mono x3.same).mono x4.same) r4 e1 (Post.from_ (x13.trans so3 x4) so4 q)
    | _ => exact h2.elim
end
/-! ### e.f, e a caught error -/
def mXf (okX : Nat → Str → Bool) (i : Nat) (f : Str) : ME := fun env st => match env[i]? with
  | some (some (D.obj c (_ :: fs))) => if okX c f = true then ret? (fs.lookup f) st else .bad
  | _ => .bad
section
variable {G : Glb} {X : Cx} {pos : Pos}
theorem de_xf {own : List Nat} {ex : Addr} {oe : Obj} {cls : Value} {dd : Option Addr} {pn : List (Addr × Obj)} {n f : Str} {p1 : Pos} {okX : Nat → Str → Bool} (i : Nat) (hz : Zc cls dd oe) (hf : ∃ vs, oe.data = .fields vs) (hK : X.K = G.K)
    (T : ∀ c g, okX c g = true → XfC G.K (G.cl c) ∧ PySem.W.findIn G.K (.ref (G.cl c)) g = some none) (hi : X.N[i]? = some n := by rfl) (hv : Vis X.env.scope n := by first | exact Or.inl rfl | exact Or.inr (Or.inl rfl) | exact Or.inr (Or.inr rfl))
    (hd : (n == ("__debug__" : Str)) = false := by decide) (hcd : (n == ("__classdict__" : Str)) = false := by decide) (hb : attributeBase (.Name n p1) f X.env (eval (.Name n p1) X.env) = eval (.Name n p1) X.env := by rfl) :
    DE G (X.suite ex ((ex, oe) :: pn)) W0 ⟨own, some i, (ex, cls, dd), none, (0, 0)⟩ (.Attribute (.Name n p1) f pos) (mXf okX i f) := by
  by_cases hC : ∃ c, cls = .ref (G.cl c) ∧ okX c f = true
  · obtain ⟨c, hc, ok⟩ := hC
    obtain ⟨t1, t2⟩ := T c f ok
    refine ⟨_, pe_xf (hK ▸ t1) (hK ▸ t2) hz hf (pe_var (i := i) hi hv hd hcd) hb, fun b S env st σ H Q I h => ?_⟩
    unfold mXf at h
    split at h
    · rename_i c' u fs e
      obtain ⟨x, q1, q2, q3⟩ := I.exc i _ rfl e
      split at h
      · obtain ⟨xc, xfs⟩ := x
        cases xfs with
        | none => cases q1
        | some fs' =>
          cases q1
          obtain ⟨g1, ad', vs, g2, g3, g4⟩ := q3
          obtain ⟨d', e1, q⟩ := wp_ret h
          obtain ⟨v, l, r⟩ := g4.look e1
          exact ⟨_, q2, rfl, hc, ad', vs, v, g2, I.sub _ _ g3, l, Post.here I.sub I.sto r q⟩
      · exact h.elim
    · exact h.elim
  · refine ⟨fun _ _ _ => False, ⟨fun pins s σ H Q I h => h.elim⟩, fun b S env st σ H Q I h => ?_⟩
    unfold mXf at h
    split at h
    · rename_i c' u fs e
      obtain ⟨x, q1, q2, q3⟩ := I.exc i _ rfl e
      split at h
      · rename_i ok
        obtain ⟨xc, xfs⟩ := x
        cases xfs with
        | none => cases q1
        | some fs' => cases q1; exact hC ⟨_, q3.1, ok⟩
      · exact h.elim
    · exact h.elim
end
/-! ### lcm -/
def LcmOk (a b : Int) : Prop := a.natAbs < 2 ^ 64 ∧ b.natAbs < 2 ^ 64
noncomputable instance (a b : Int) : Decidable (LcmOk a b) := Classical.propDecidable _
def rLcm : List V → Hp → VK → Prop := fun xs H Q => ∃ a b : Int, xs = [.int a, .int b] ∧ LcmOk a b ∧ Q (.int ((a.natAbs.lcm b.natAbs : Nat) : Int)) H
theorem cr_lcm {X : Cx} : CallR X (.builtin "math.lcm") rLcm := by
  intro pins s σ H vs us Q I r h
  obtain ⟨a, b, rfl, ⟨ha, hb⟩, q⟩ := h
  obtain ⟨t, u, rfl⟩ := Vals.int2 r
  exact PySem.W.mc_lcm ha hb fun _ => ⟨.int _, H, I.tok _, ⟨_, rfl⟩, q⟩
noncomputable def dLcm : List D → Option D := fun ds => match ds with
  | [.int a, .int b] => if LcmOk a b then some (.int ((a.natAbs.lcm b.natAbs : Nat) : Int)) else none
  | _ => none
theorem cd_lcm {G : Glb} : CallD G rLcm dLcm := ⟨fun ad S H st xs ds d Q su so r e q => by
  unfold dLcm at e
  split at e
  · rename_i a b
    split at e
    · rename_i ok
      cases e
      obtain ⟨v, w, rfl, r1, r2⟩ := reps2 r
      cases r1; cases r2
      exact ⟨a, b, rfl, ok, Post.here su so (.int _) q⟩
    · cases e
  · cases e⟩
end DL

/-! DL, seventeenth part: zip of two tuples. -/
namespace DL
open PySem PySem.Spec PyProof.Rows L2 RZ
section
variable {G : Glb} {ad : List Addr} {S : Hp}
theorem iter_zipT {a c : Addr} {vs ws : List V} {ds es : List D} (h : SqT G.K S a vs) (r : Reps G ad S vs ds) (h2 : SqT G.K S c ws) (r2 : Reps G ad S ws es) : IterOK G ad S (ItzT G.K a c) (List.zipWith (fun x y => .tup [x, y]) ds es) := by
  intro i S' H' e su
  have h' := Same.sqT (e.trans su) h
  have h2' := Same.sqT (e.trans su) h2
  refine ⟨fun hi => ⟨vs, ws, h', h2', ?_⟩, fun d hd => ?_⟩
  · rw [List.length_zipWith] at hi
    rw [r.len, r2.len]
    omega
  · rw [List.getElem?_zipWith] at hd
    cases q1 : ds[i]? with
    | none => rw [q1] at hd; simp at hd
    | some d1 =>
      cases q2 : es[i]? with
      | none => rw [q1, q2] at hd; simp at hd
      | some d2 =>
        rw [q1, q2] at hd
        have e0 : D.tup [d1, d2] = d := by simpa using hd
        subst e0
        obtain ⟨v, hv, rv⟩ := r.get q1
        obtain ⟨u, hu, ru⟩ := r2.get q2
        refine ⟨⟨vs, ws, v, u, h', h2', hv, hu⟩, fun x H'' ⟨T, y, z, e1, hT, e2, e3, e4⟩ => ?_⟩
        subst e1; subst e2
        have e5 : v = y := Option.some.inj (hv.symm.trans (e3 vs h'))
        have e6 : u = z := Option.some.inj (hu.symm.trans (e4 ws h2'))
        subst e5; subst e6
        exact pair_new su hT (rv.mono e) (ru.mono e)
end
def zipA? : List D → M (List D) := fun ds st => match ds with
  | [.lst xs, .lst ys] => .ok (List.zipWith (fun x y => .tup [x, y]) xs ys) st
  | [.tup xs, .tup ys] => .ok (List.zipWith (fun x y => .tup [x, y]) xs ys) st
  | _ => .bad
section
variable {G : Glb} {X : Cx} {W : WX} {O : Ow} {pos p : Pos} {a a2 : Expr} {ma : MA}
theorem di_zipA {elts : List Expr} {kk : Nat} {tpos : Pos} (hK : X.K = G.K) (hm : X.mg "zip" = none) (ha : DA G X W O [a, a2] ma) (hg : Gl X "zip" := by rfl)
    (hs : starEach [a, a2] X.env = (false, eval a X.env) :: starEach [a2] X.env := by rfl) (hpl : (backTo pos (starEach [a2] X.env)).any (·.1) = false := by rfl) :
    DIt G X W O (.Tuple elts kk tpos) (.Call (.Name "zip" p) [a, a2] [] pos) (mThenA ma zipA?) := by
  obtain ⟨t, pa, w⟩ := ha.ex
  refine ⟨_, pi_zipA hg hm pa hs hpl, fun b S env st σ H R I h => args_walk (es := [a]) w I h fun vs ds S1 H1 st1 x1 su1 so1 r1 h1 => ?_⟩
  unfold zipA? at h1
  split at h1
  · cases r1 with
    | cons r rr =>
      cases rr with
      | cons r' rr =>
        cases rr
        cases r with
        | lst h2 h3 =>
          cases r' with
          | lst h4 h5 => exact ⟨_, _, _, _, rfl, .inl ⟨SqL.of (su1 _ _ h2), SqL.of (su1 _ _ h4), hK ▸ h1 _ _ _ x1 su1 so1 (iter_zip (SqL.of h2) h3 (SqL.of h4) h5)⟩⟩
  · cases r1 with
    | cons r rr =>
      cases rr with
      | cons r' rr =>
        cases rr
        cases r with
        | tup h2 h3 =>
          cases r' with
          | tup h4 h5 => exact ⟨_, _, _, _, rfl, .inr ⟨hK ▸ Same.sqT su1 h2.sqT, hK ▸ Same.sqT su1 h4.sqT, hK ▸ h1 _ _ _ x1 su1 so1 (iter_zipT h2.sqT h3 h4.sqT h5)⟩⟩
  · exact h1.elim
end
end DL

/-! DL, eighteenth part: max and min of a tuple of ints. -/
namespace DL
open PySem PySem.Spec PyProof.Rows L2
def ints? : List D → Option (List Int)
  | [] => some []
  | .int i :: ds => (ints? ds).map (i :: ·)
  | _ :: _ => none
theorem ints_ok {G : Glb} {ad : List Addr} {S : Hp} : ∀ {vs : List V} {ds : List D} {ns : List Int}, Reps G ad S vs ds → ints? ds = some ns → vs = ns.map V.int
  | _, _, ns, .nil, e => by cases e; rfl
  | _, _, ns, .cons (ds := ds) h r, e => by
    cases h with
    | int i =>
      unfold ints? at e
      cases e2 : ints? ds with
      | none => rw [e2] at e; cases e
      | some ms =>
        rw [e2] at e
        cases e
        rw [ints_ok r e2]
        rfl
    | _ => cases e
theorem hold_ints {h : Heap} : ∀ {ns : List Int} {its : List Value}, Vals (ns.map V.int) its → PySem.W.HoldAll h its ns
  | [], _, .nil => PySem.W.HoldAll.nil
  | n :: ns, _, .cons r rs => by
    obtain ⟨t, e⟩ := r
    subst e
    exact PySem.W.HoldAll.cons (PySem.W.holds_int n t) (hold_ints rs)
def maxI (n : Int) (ns : List Int) : Int := ns.foldl (fun a y => if a < y then y else a) n
def rMaxT (K : PySem.W.Frag) : List V → Hp → VK → Prop := fun xs H Q => ∃ (a : Addr) (n : Int) (ns : List Int), xs = [.ref a] ∧ SqT K H a ((n :: ns).map V.int) ∧ Q (.int (PySem.W.maxOf n ns)) H
def rMinT (K : PySem.W.Frag) : List V → Hp → VK → Prop := fun xs H Q => ∃ (a : Addr) (n : Int) (ns : List Int), xs = [.ref a] ∧ SqT K H a ((n :: ns).map V.int) ∧ Q (.int (PySem.W.minOf n ns)) H
section
variable {X : Cx}
theorem cr_maxT (hc : X.calm = true) (hu : X.A.units + 64 < cLine) : CallR X (.builtin "max") (rMaxT X.K) := by
  intro pins s σ H vs us Q I r h
  obtain ⟨a, n, ns, rfl, hs, q⟩ := h
  obtain ⟨its, rv, hl, _⟩ := I.tuple hs
  rw [Vals.ref1 r]
  refine PySem.W.max_tuple_datum (α := Int) (x := n) (xs := ns) (I.ok.hd hc) hl (hold_ints rv) (Nat.lt_of_le_of_lt (by show X.A.units + 1 + 0 ≤ _; omega) hu) fun i v h' tk _ hv hk => ?_
  obtain ⟨as, rd⟩ := hv
  cases rd
  exact ⟨.int _, H, I.kept hk, ⟨_, rfl⟩, q⟩
theorem cr_minT (hc : X.calm = true) (hu : X.A.units + 64 < cLine) : CallR X (.builtin "min") (rMinT X.K) := by
  intro pins s σ H vs us Q I r h
  obtain ⟨a, n, ns, rfl, hs, q⟩ := h
  obtain ⟨its, rv, hl, _⟩ := I.tuple hs
  rw [Vals.ref1 r]
  refine PySem.W.min_tuple_datum (α := Int) (x := n) (xs := ns) (I.ok.hd hc) hl (hold_ints rv) (Nat.lt_of_le_of_lt (by show X.A.units + 1 + 0 ≤ _; omega) hu) fun i v h' tk _ hv hk => ?_
  obtain ⟨as, rd⟩ := hv
  cases rd
  exact ⟨.int _, H, I.kept hk, ⟨_, rfl⟩, q⟩
end
def dMaxT (f : Int → List Int → Int) : List D → Option D := fun ds => match ds with
  | [.tup ds] => match ints? ds with
    | some (n :: ns) => some (.int (f n ns))
    | _ => none
  | _ => none
theorem cd_maxT {G : Glb} {X : Cx} (hK : X.K = G.K) : CallD G (rMaxT X.K) (dMaxT PySem.W.maxOf) := ⟨fun ad S H st xs ds d Q su so r e q => by
  unfold dMaxT at e
  split at e
  · rename_i ys
    obtain ⟨v, rfl, rv⟩ := reps1 r
    split at e
    · rename_i n ns en
      cases e
      cases rv with
      | tup h2 r2 =>
        rename_i a vs
        have ev := ints_ok r2 en
        subst ev
        exact ⟨a, n, ns, rfl, hK ▸ Same.sqT su h2.sqT, Post.here su so (.int _) q⟩
    · cases e
  · cases e⟩
theorem cd_minT {G : Glb} {X : Cx} (hK : X.K = G.K) : CallD G (rMinT X.K) (dMaxT PySem.W.minOf) := ⟨fun ad S H st xs ds d Q su so r e q => by
  unfold dMaxT at e
  split at e
  · rename_i ys
    obtain ⟨v, rfl, rv⟩ := reps1 r
    split at e
    · rename_i n ns en
      cases e
      cases rv with
      | tup h2 r2 =>
        rename_i a vs
        have ev := ints_ok r2 en
        subst ev
        exact ⟨a, n, ns, rfl, hK ▸ Same.sqT su h2.sqT, Post.here su so (.int _) q⟩
    · cases e
  · cases e⟩
end DL

/-! DL, nineteenth part: tuple(range(a, b)), sum of a list. -/
namespace DL
open PySem PySem.Spec PyProof.Rows L2
noncomputable instance (a b : Int) : Decidable (RgOk a b) := Classical.propDecidable _
noncomputable def dTupRg (x y : D) : Option D := match x, y with
  | .int a, .int b => if RgOk a b then some (.tup (rangeD a (b - a).toNat)) else none
  | _, _ => none
theorem reps_rg {G : Glb} {ad : List Addr} {S : Hp} (a : Int) (n : Nat) : Reps G ad S ((List.range n).map fun i => V.int (a + (i : Nat))) (rangeD a n) := by
  unfold rangeD
  generalize List.range n = l
  induction l with
  | nil => exact .nil
  | cons i l ih => exact .cons (.int _) ih
section
variable {G : Glb} {X : Cx} {W : WX} {O : Ow} {p p2 pos pos2 : Pos} {a b : Expr} {ma mb : ME}
theorem de_tupRg (hc : X.calm = true) (ht : X.mg "tuple" = none) (hr : X.mg "range" = none) (ha : DE G X W O a ma) (hb : DE G X W O b mb) (hg : Gl X "tuple" := by rfl) (hg2 : Gl X "range" := by rfl)
    (na : starEach [.Call (.Name "range" p2) [a, b] [] pos2] X.env = (false, eval (.Call (.Name "range" p2) [a, b] [] pos2) X.env) :: starEach [] X.env := by rfl)
    (nr : starEach [a, b] X.env = (false, eval a X.env) :: starEach [b] X.env := by rfl) (nb : starEach [b] X.env = (false, eval b X.env) :: starEach [] X.env := by rfl) (hp : (backTo pos2 (starEach [b] X.env)).any (·.1) = false := by rfl) :
    DE G X W O (.Call (.Name "tuple" p) [.Call (.Name "range" p2) [a, b] [] pos2] [] pos) (mOp dTupRg ma mb) := by
  obtain ⟨ta, tb, pa, pb, w⟩ := two_parts (k := fun x y => ret? (dTupRg x y)) ha hb
  refine ⟨_, pe_tupRg hc hg ht (prg_2 hg2 hr pa pb nr nb hp) na, fun b S env st σ H Q I h => w b S env st σ H _ (fun x y H2 => ∃ i j, x = .int i ∧ y = .int j ∧ RgOk i j ∧ ∀ q, H2 q = none → Q (.ref q) (upd H2 q (.tup (rgV i j)))) I h fun x y dx dy S' H' st' e I' rx ry hk => ?_⟩
  obtain ⟨d, e1, q⟩ := wp_ret hk
  cases rx with
  | int i =>
    cases ry with
    | int j =>
      have e1 : (if RgOk i j then some (D.tup (rangeD i (j - i).toNat)) else none) = some d := e1
      split at e1
      · rename_i ok
        cases e1
        exact ⟨i, j, rfl, rfl, ok, fun z hz => Post.tup I'.sub I'.sto hz (reps_rg i (j - i).toNat) (Post.from_ e I'.sto q)⟩
      · cases e1
    | _ => cases e1
  | _ => cases e1
end
def dSumL : List D → Option D := fun ds => match ds with
  | [.lst ds] => (ints? ds).map fun ns => .int ns.sum
  | _ => none
theorem cd_sumL {G : Glb} {X : Cx} (hK : X.K = G.K) : CallD G (rSum X.K) dSumL := ⟨fun ad S H st xs ds d Q su so r e q => by
  unfold dSumL at e
  split at e
  · rename_i ys
    obtain ⟨v, rfl, rv⟩ := reps1 r
    cases en : ints? ys with
    | none => rw [en] at e; cases e
    | some ns =>
      rw [en] at e
      cases e
      cases rv with
      | lst h2 r2 =>
        rename_i a vs
        have ev := ints_ok r2 en
        subst ev
        exact ⟨a, ns, rfl, SqL.of (su _ _ h2), Post.here su so (.int _) q⟩
  · cases e⟩
end DL

/-! DL, twentieth part: __init__ with defaults, own == by a table of classes. -/
namespace DL
open PySem PySem.Spec PyProof.Rows L2
theorem funToD {K : PySem.W.Frag} {x qual : Str} {st : Stmt} {f : Addr} {fd : FuncData} (F : Fun K x qual st f fd) : FunD K x qual (defArgs st) (defBody st) (defScope st) [] [] f fd := by
  obtain ⟨oc, od, kV, doc, pm, an, cdv, ct, osl, e, l, c⟩ := F.ex
  exact ⟨⟨oc, od, .none, kV, doc, pm, an, cdv, ct, osl, e, l, c, .inl ⟨rfl, rfl⟩, .inl rfl⟩, F.kp⟩
theorem funD_mk {K : PySem.W.Frag} {x qual : Str} {st : Stmt} {f T : Addr} {oc : Value} {od an : Option Addr} {osl : Array (Option Value)} {kV doc pm cdv ct : Value} {to : Obj} {its : List Value} {n : Nat} {dvs : List V}
    (l : K.lookup f = some ⟨oc, od, .func (PySem.W.fnOf x qual (defArgs st) (defBody st) (defScope st) (.ref T) kV doc pm an cdv ct), osl⟩) (c : PySem.W.codeIn K cdv qual = true) (k : PySem.W.keepIn K (.ref f) = true)
    (lT : K.lookup T = some to) (dT : to.data = .seq its.toArray n) (hd : dvs ≠ []) (hv : Vals dvs its) : FunD K x qual (defArgs st) (defBody st) (defScope st) dvs [] f (PySem.W.fnOf x qual (defArgs st) (defBody st) (defScope st) (.ref T) kV doc pm an cdv ct) :=
  ⟨⟨oc, od, .ref T, kV, doc, pm, an, cdv, ct, osl, rfl, l, c, .inr ⟨hd, T, to, its, n, rfl, lT, dT, hv⟩, .inl rfl⟩, k⟩
section
variable {P : Program} {w : World} {K : PySem.W.Frag} {mg : Str → Option Value} {base : Heap}
/-- __init__ -/
theorem fnID {G : Glb} {x0 qual : Str} {st : Stmt} {dvs : List V} {kws : List (Str × V)} {f : Addr} {fd : FuncData} {N ps : List Str} {c k n : Nat} {m : MS} (F : FunD K x0 qual (defArgs st) (defBody st) (defScope st) dvs kws f fd) (S : FnScope N ps (defScope st)) (hK : K = G.K) (hps : ps.length = n + 1) (hN : ps.length ≤ N.length)
    (hbody : ∀ (x dx : Addr) (cdv : Value) (A : Around) (outer : List Env) (s : Shared) (H : Hp) (E : XK), XC k G (cxOf (L2.CX P w) P w K mg base N qual (defScope st) f cdv A outer s H E) (fun cls d _ H' => E cls d H') → XT (cxOf (L2.CX P w) P w K mg base N qual (defScope st) f cdv A outer s H E) →
      DSs G (cxOf (L2.CX P w) P w K mg base N qual (defScope st) f cdv A outer s H E) (fun cls d _ H' => E cls d H') (selfO x dx) (fun _ => True) (selfO x dx) (defBody st) (selfO x dx) m) :
    FnOk P w K mg base (L2.CX P w) (k + 1) f fd ps (spI G c n (initM c N.length m)) := by
  refine F.ok S (fun vs H Q E h => ?_) fun cdv A outer s H vs Q E hr h => ?_
  · obtain ⟨b, ds, st0, x, dx, ws, rfl, _, _, _, _, hl, _⟩ := h
    rw [List.length_cons, hl, hps]
  · obtain ⟨b, ds, st0, x, dx, ws, rfl, rfl, hx, hd, hne, hl, hs, so, r, h⟩ := h
    have xc : XC k G (cxOf (L2.CX P w) P w K mg base N qual (defScope st) f cdv A outer s (upd (upd b.H dx (.own x)) x (.ins (G.cl c) dx [])) E) (fun cls d _ H' => E cls d H') :=
      { tk := takes_of rfl rfl rfl rfl, po := passes_of rfl, calm := rfl, hr := hr, K := hK }
    obtain ⟨t, p, wt⟩ := (hbody x dx cdv A outer s _ E xc ⟨rfl, rfl⟩).ex
    refine ⟨t, p, ?_⟩
    have I0 := DI.start (n := N.length - 1 - ws.length) hs so (.cons (.non) r)
    have I1 := I0.born (c := c) hx hd hne (by simp)
    have e1 : N.length - 1 - ws.length = N.length - 1 - ds.length := by rw [r.len]
    have e2 : start N (V.ref x :: ws) = ((V.non :: ws).map some ++ List.replicate (N.length - 1 - ws.length) none).set 0 (some (.ref x)) := by
      show (V.ref x :: ws).map some ++ List.replicate (N.length - (V.ref x :: ws).length) none = _
      rw [List.length_cons, show N.length - (ws.length + 1) = N.length - 1 - ws.length by omega]
      rfl
    rw [e2]
    refine wt b b.S _ st0 _ _ _ I1 ?_
    have e3 : ((D.non :: ds).map some ++ List.replicate (N.length - 1 - ws.length) none).set 0 (some (.obj c [])) = some (.obj c []) :: (ds.map some ++ List.replicate (N.length - 1 - ds.length) none) := by
      rw [e1]; rfl
    rw [e3]
    unfold initM at h
    cases e : m (some (.obj c []) :: (ds.map some ++ List.replicate (N.length - 1 - ds.length) none)) st0 with
    | nx env st1 =>
      rw [e] at h
      intro S1 σ1 H1 _ I2
      obtain ⟨c', vs', fs', q1, q2, q3, q4, q5, q6, q7, q8, q9, q10, q11⟩ := I2.self_ 0 rfl
      have q3 : H1 x = some (.ins (G.cl c') dx vs') := q3
      have q5 : S1 x = none := q5
      have q7 : b.H x = none := q7
      have q9 : x ∉ b.ad := q9
      dsimp only at h
      rw [q1] at h
      have sm : Same S1 (upd S1 x (.ins (G.cl c') dx vs')) := fun a o ha => by
        rw [upd_ne (fun z => by rw [z, q5] at ha; cases ha)]; exact ha
      have nw : ∀ a o, upd S1 x (.ins (G.cl c') dx vs') a = some o → (a = x ∧ o = .ins (G.cl c') dx vs') ∨ S1 a = some o := fun a o ha => by
        by_cases hc : a = x
        · subst hc; rw [upd_same] at ha; exact .inl ⟨rfl, (Option.some.inj ha).symm⟩
        · rw [upd_ne hc] at ha; exact .inr ha
      have h : ∀ S' H', Ext b.ad b.S b.H S' H' → Same S' H' → StoOk G b.ad S' st1 H' → Rep G b.ad S' (.ref x) (.obj c' fs') → Q .non H' := h
      refine h (upd S1 x (.ins (G.cl c') dx vs')) H1 ⟨I2.s0.trans sm, fun a o ha => ?_, I2.keep⟩ (fun a o ha => ?_) (I2.sto.known sm fun a ha => ?_) (.obj upd_same (q11.mono sm))
      · rcases nw a o ha with ⟨rfl, _⟩ | z
        · exact .inr q7
        · exact I2.new a o z
      · rcases nw a o ha with ⟨rfl, rfl⟩ | z
        · exact q3
        · exact I2.sub a o z
      · rw [upd_ne (show a ≠ x from fun z => q9 (z ▸ ha))]
        exact (I2.sto.has ha).1
    | rt d st1 => rw [e] at h; exact h.elim
    | bk env st1 => rw [e] at h; exact h.elim
    | ct env st1 => rw [e] at h; exact h.elim
    | er y env st1 =>
      rw [e] at h
      intro cls dd O' S1 σ1 H1 _ _ I2 rx
      exact h cls dd S1 H1 I2.fin I2.sub I2.sto rx
    | bad => rw [e] at h; exact h.elim
end
/-! ### what the printed texts name -/
/-- a method as it stands behind the top -/
structure MetOk (K : PySem.W.Frag) (x qual : Str) (st : Stmt) (ps : List Str) (f : Addr) (fd : FuncData) : Prop where
  F : Fun K x qual st f fd
  b : Binds K fd ps []
/-- a class's __init__, with its defaults -/
structure IniOk (G : Glb) (mg : Str → Option Value) (cn qual : Str) (st : Stmt) (ps : List Str) (dvs : List V) (c : Nat) (f : Addr) (fd : FuncData) : Prop where
  F : FunD G.K "__init__" qual (defArgs st) (defBody st) (defScope st) dvs [] f fd
  g : mg cn = some (.ref (G.cl c))
  mkC : Mk G.K (G.cl c) f
  b : ∀ j, j ≤ dvs.length → ∃ ds, Vals (dvs.drop j) ds ∧ Binds G.K fd ps ds
theorem IniOk.plain {G : Glb} {mg : Str → Option Value} {cn qual : Str} {st : Stmt} {ps : List Str} {c : Nat} {f : Addr} {fd : FuncData} (F : Fun G.K "__init__" qual st f fd) (g : mg cn = some (.ref (G.cl c))) (mk : Mk G.K (G.cl c) f) (b : Binds G.K fd ps []) : IniOk G mg cn qual st ps [] c f fd :=
  ⟨funToD F, g, mk, fun j hj => ⟨[], by rw [List.drop_nil]; exact .nil, b⟩⟩
section
variable {G : Glb} {X : Cx} {W : WX} {O : Ow} {pos p : Pos} {x : Str} {e : Expr} {es : List Expr} {ma : MA} {k j n n' : Nat} {f : Addr} {fd : FuncData} {ps : List Str} {m : List D → M D} {ci : Nat} {dvs : List V} {dds : List D}
theorem de_makeD (c : XC k G X W) (mk : Mk G.K (G.cl ci) f) (F : FnOk X.prog X.w X.K X.mg X.base (L2.CX X.prog X.w) j f fd ps (spI G ci n m)) (hm : X.mg x = some (.ref (G.cl ci))) (hb : ∃ ds, Vals dvs ds ∧ Binds G.K fd ps ds) (rd : ∀ ad S, Reps G ad S dvs dds) (ha : DA G X W O (e :: es) ma)
    (hln : Len ma n') (hjk : j + 1 ≤ k := by decide) (hn : n' + dds.length = n := by rfl) (hg : Gl X x := by rfl) (hdb : (x == ("__debug__" : Str)) = false := by decide) (he : starEach (e :: es) X.env = (false, eval e X.env) :: starEach es X.env := by rfl) (hpl : (backTo pos (starEach es X.env)).any (·.1) = false := by rfl) :
    DE G X W O (.Call (.Name x p) (e :: es) [] pos) (mCallD m dds ma) := by
  obtain ⟨dl, hd, hb⟩ := hb
  exact de_make c (c.K ▸ mk) F hm (c.K ▸ hb) hd rd ha hjk hln hn hg hdb he hpl
end
/-! ### == by a table -/
/-- the __eq__ of the class c -/
structure EqAt (P : Program) (w : World) (G : Glb) (K : PySem.W.Frag) (mg : Str → Option Value) (base : Heap) (k : Nat) (okT : Tag → Bool) (c : Nat) (m : List D → M D) : Prop where
  ex : ∃ j f fd ps, j ≤ k ∧ FnOk P w K mg base (L2.CX P w) j f fd ps (spD G 2 m) ∧ PySem.W.findIn G.K (.ref (G.cl c)) "__eq__" = some (some (.ref f)) ∧ PySem.W.isFn G.K (.ref f) = true ∧ Binds G.K fd ps []
  nf : ∀ t, okT t = true → PySem.W.notFirst G.K (G.cl c) (tagV G t) = true
def rOwnT (G : Glb) (K : PySem.W.Frag) (eqs : Nat → Option (List D → M D)) : R2 := fun x y H Q => ∃ c m, eqs c = some m ∧ rOwn K (G.cl c) (spD G 2 m) x y H Q
theorem op_ownT {G : Glb} {X : Cx} {k kk : Nat} {okT : Tag → Bool} {eqs : Nat → Option (List D → M D)} (hK : X.K = G.K) (hr : Room kk X.A) (hk : k ≤ kk) (E : ∀ c m, eqs c = some m → EqAt X.prog X.w G X.K X.mg X.base k okT c m) : OpR X (compareOp .Eq) (rOwnT G X.K eqs) := by
  intro pins s σ H x y v u Q I rx ry h
  obtain ⟨c, m, e, h⟩ := h
  obtain ⟨j, f, fd, ps, hj, F, at_, isf, bn⟩ := (E c m e).ex
  exact op_own F (hr.mono (Nat.le_trans hj hk)) (hK ▸ at_) (hK ▸ isf) (hK ▸ bn) pins s σ H x y v u Q I rx ry h
/-- what == of two values is -/
def eqT (okI : Nat → Bool) (okT : Tag → Bool) (eqs : Nat → Option (List D → M D)) (x y : D) : M D := fun st => match x with
  | .obj c _ => match eqs c with
    | some m => if ((tagD okI y).any okT) = true then (noEr (m [x, y] st)).bind fun d st3 => match d with
      | .bl k => .ok (.bl k) st3
      | _ => .bad
      else .bad
    | none => .bad
  | x => ret? (dEq x y) st
def mEqT (okI : Nat → Bool) (okT : Tag → Bool) (eqs : Nat → Option (List D → M D)) (ma mb : ME) : ME := fun env st => (ma env st).bind fun x st1 => (mb env st1).bind fun y => eqT okI okT eqs x y
section
variable {G : Glb} {X : Cx} {W : WX} {O : Ow} {pos : Pos} {a b : Expr} {ma mb : ME} {k kk : Nat} {okI : Nat → Bool} {okT : Tag → Bool} {eqs : Nat → Option (List D → M D)}
theorem eqT_go (c : XC kk G X W) (T : ∀ c, okI c = true → InsT G c) (E : ∀ c m, eqs c = some m → EqAt X.prog X.w G X.K X.mg X.base k okT c m)
    {ad : List Addr} {S H : Hp} {st : List D} {x y : V} {dx dy : D} {Q : VK} {er : Ex → List D → Prop} (su : Same S H) (so : StoOk G ad S st H) (rx : Rep G ad S x dx) (ry : Rep G ad S y dy) (h : wpR (eqT okI okT eqs dx dy st) (fun d st' => ∃ k, d = .bl k ∧ Post G ad S H d st' Q) er) :
    rOwnT G X.K eqs x y H Q ∨ rEqD X.K x y H Q := by
  by_cases ho : ∃ c fs, dx = .obj c fs
  · obtain ⟨cc, fs, rfl⟩ := ho
    have h : wpR (match eqs cc with
      | some m => if ((tagD okI dy).any okT) = true then (noEr (m [.obj cc fs, dy] st)).bind fun d st3 => match d with
        | .bl k => Res.ok (D.bl k) st3
        | _ => .bad
        else .bad
      | none => .bad) (fun d st' => ∃ k, d = .bl k ∧ Post G ad S H d st' Q) er := h
    cases em : eqs cc with
    | none => rw [em] at h; exact h.elim
    | some m =>
      rw [em] at h
      dsimp only at h
      split at h
      case isFalse => exact h.elim
      rename_i okt
      cases et : tagD okI dy with
      | none => rw [et] at okt; cases okt
      | some t =>
        rw [et] at okt
        have okt : okT t = true := okt
        cases rx with
        | obj h2 r2 =>
          rename_i aa dx vs
          refine .inl ⟨cc, m, em, aa, dx, vs, tagV G t, rfl, su _ _ h2, c.K ▸ tag_ok T su ry et, c.K ▸ (E cc m em).nf t okt, ⟨⟨S, H, ad⟩, _, st, rfl, rfl, su, so, .cons (.obj h2 r2) (.cons ry .nil), ?_⟩⟩
          have hk2 := wpR_bind h
          refine wpR_imp (wp_noEr hk2) (fun d st3 z => ?_) fun _ _ z => z
          intro v S3 H3 x3 su3 so3 r3
          cases r3 with
          | bl kq =>
            have z : ∃ k, D.bl kq = .bl k ∧ Post G ad S H (.bl kq) st3 Q := z
            obtain ⟨_, _, z⟩ := z
            exact ⟨⟨kq, rfl⟩, z (.bl kq) S3 H3 x3 su3 so3 (.bl kq)⟩
          | _ => exact z.elim
  · have hk' : wpR (ret? (dEq dx dy) st) (fun d st' => ∃ k, d = .bl k ∧ Post G ad S H d st' Q) er := by
      cases dx <;> first | exact h | exact absurd ⟨_, _, rfl⟩ ho
    obtain ⟨d, e1, k, _, q⟩ := wp_ret hk'
    exact .inr ((opd_eq c.K).go ad S H st x y dx dy d Q su so rx ry e1 q)
theorem eqT_bl {st : List D} {dx dy : D} {ok : D → List D → Prop} {er : Ex → List D → Prop} (h : wpR (eqT okI okT eqs dx dy st) ok er) : wpR (eqT okI okT eqs dx dy st) (fun d st' => ∃ k, d = .bl k ∧ ok d st') er := by
  cases e : eqT okI okT eqs dx dy st with
  | err x st1 => rw [e] at h; exact h
  | bad => rw [e] at h; exact h
  | ok d st1 =>
    rw [e] at h
    have h : ok d st1 := h
    suffices q : ∃ k, d = .bl k from (show ∃ k, d = .bl k ∧ ok d st1 from let ⟨k, hk⟩ := q; ⟨k, hk, h⟩)
    by_cases ho : ∃ c fs, dx = .obj c fs
    · obtain ⟨cc, fs, rfl⟩ := ho
      have e : (match eqs cc with
        | some m => if ((tagD okI dy).any okT) = true then (noEr (m [.obj cc fs, dy] st)).bind fun d st3 => match d with
          | .bl k => Res.ok (D.bl k) st3
          | _ => .bad
          else .bad
        | none => .bad) = .ok d st1 := e
      cases em : eqs cc with
      | none => rw [em] at e; cases e
      | some m =>
        rw [em] at e
        dsimp only at e
        split at e
        case isFalse => cases e
        cases e2 : noEr (m [.obj cc fs, dy] st) with
        | err x st2 => rw [e2] at e; cases e
        | bad => rw [e2] at e; cases e
        | ok d2 st2 =>
          rw [e2] at e
          have e : (match d2 with
            | .bl k => Res.ok (D.bl k) st2
            | _ => .bad) = .ok d st1 := e
          split at e
          · cases e; exact ⟨_, rfl⟩
          · cases e
    · have e' : ret? (dEq dx dy) st = .ok d st1 := by
        cases dx <;> first | exact e | exact absurd ⟨_, _, rfl⟩ ho
      unfold dEq at e'
      cases e3 : eqD dx dy with
      | none => rw [e3] at e'; cases e'
      | some b => rw [e3] at e'; cases e'; exact ⟨_, rfl⟩
theorem de_eqT (c : XC kk G X W) (T : ∀ c, okI c = true → InsT G c) (E : ∀ c m, eqs c = some m → EqAt X.prog X.w G X.K X.mg X.base k okT c m) (ha : DE G X W O a ma) (hb : DE G X W O b mb)
    (hk : k ≤ kk := by decide) (hm : behindInMarks .Eq b = false := by first | exact nomark _ | rfl) : DE G X W O (.Compare a [.Eq] [b] pos) (mEqT okI okT eqs ma mb) := by
  obtain ⟨ta, tb, pa, pb, w⟩ := two_parts (k := fun x y => eqT okI okT eqs x y) ha hb
  refine ⟨_, pe_cmpR (OpR.or (op_ownT c.K c.hr hk E) (op_eqD c.hr.units)) pa pb hm, fun b S env st σ H Q I h => w b S env st σ H _ (fun x y H2 => rOwnT G X.K eqs x y H2 Q ∨ rEqD X.K x y H2 Q) I h fun x y dx dy S' H' st' e I' rx ry hk => ?_⟩
  refine eqT_go c T E I'.sub I'.sto rx ry (wpR_imp (eqT_bl hk) (fun d st3 z => ?_) fun _ _ z => z)
  exact let ⟨k, e1, z⟩ := z; ⟨k, e1, Post.from_ e I'.sto z⟩
theorem dt_eqT (c : XC kk G X W) (T : ∀ c, okI c = true → InsT G c) (E : ∀ c m, eqs c = some m → EqAt X.prog X.w G X.K X.mg X.base k okT c m) (ha : DE G X W O a ma) (hb : DE G X W O b mb)
    (hk : k ≤ kk := by decide) (hm : behindInMarks .Eq b = false := by first | exact nomark _ | rfl) : DT G X W O (.Compare a [.Eq] [b] pos) (mTest (mEqT okI okT eqs ma mb)) := by
  obtain ⟨ta, pa, wa⟩ := ha.ex
  obtain ⟨tb, pb, wb⟩ := hb.ex
  refine ⟨_, pt_cmpR (OpR.or (op_ownT c.K c.hr hk E) (op_eqD c.hr.units)) pa pb hm, fun b S env st σ H Q I h => ?_⟩
  have h' := wpR_bind h
  refine wa b S env st σ H _ I (wpR_imp (wpR_bind h') (fun dx st1 h1 => ?_) fun _ _ z => z)
  intro x S1 H1 x1 su1 so1 r1
  have I1 := I.ext x1 su1 so1
  refine wb b S1 env st1 σ H1 _ I1 (wpR_imp (wpR_bind h1) (fun dy st2 h2 => ?_) fun _ _ z => z.from_ x1 so1)
  intro y S2 H2 x2 su2 so2 r2
  have h2 := eqT_bl h2
  refine eqT_go c T E su2 so2 (r1.mono x2.same) r2 (wpR_imp h2 (fun d st3 z => ?_) fun _ _ z => z)
  obtain ⟨kq, e1, q⟩ := z
  subst e1
  refine ⟨kq, rfl, ?_⟩
  intro v S3 H3 x3 su3 so3 r3
  cases r3
  exact ⟨_, rfl, q _ _ ((x1.trans so1 x2).trans so2 x3) su3 so3⟩
end
theorem all_cons {α : Type} {P : α → Prop} {a : α} {l : List α} (h : P a) (r : ∀ f, f ∈ l → P f) : ∀ f, f ∈ a :: l → P f := fun f hf => (List.mem_cons.mp hf).elim (fun e => e ▸ h) (r f)
theorem elem_all {α : Type} [BEq α] [LawfulBEq α] {P : α → Prop} {l : List α} (h : ∀ f, f ∈ l → P f) {f : α} (hf : l.elem f = true) : P f := h f (List.mem_of_elem_eq_true hf)
/-! ### facts, in k_is' words -/
theorem kitO_any {K : PySem.W.Frag} {n : String} {D : Addr} {b : Bool} (hc : PySem.W.isClsIn K D = true) (ht : PySem.W.typeIn K (.ref D) = some (.type "type")) (hs : PySem.W.subIn K (.type n) (.ref D) = some b) : PySem.W.kitOne K (.type n) (.ref D) = some b := by
  unfold PySem.W.kitOne PySem.W.kitCls
  have hc' : (PySem.W.clsIn K D).isSome = true := hc
  split
  · rename_i e
    have e' : Value.type n = .ref D := by simpa using e
    cases e'
  · simp [hc', ht, hs]
end DL

/-! DL, 21st part: enumerate of a tuple. -/
namespace DL
open PySem PySem.Spec PyProof.Rows L2
theorem meets_enumerate_new1 {v : Value} {o : Obj} {H : Heap → Prop} (B : Begins v o H) :
    Meets (Builtin.«enumerate.__new__» ⟨[.type "enumerate", v], []⟩) (fun _ R s => H s.heap ∧
      R (.ok (.ret (.ref (s.heap.push o).objs.size))) { s with heap := (s.heap.push o).push { cls := .type "enumerate", data := .fields #[.none, .bool false, .ref s.heap.objs.size, rawInt 0, .none, .none] } }) :=
  .of_wp fun prog w A R s h => by
    obtain ⟨hp, g, d, tk, os⟩ := s; obtain ⟨h1, h⟩ := h
    have hsub := sub_enumerate
    have q1 : ∀ {A' : Around} {E : Value → Shared → Prop} {Q : Value → Shared → Prop}, Q (.ref hp.objs.size) ⟨hp.push o, g, d, tk, os⟩ → wpAny (model prog w) A' (pyIter v) Q E ⟨hp, g, d, tk, os⟩ :=
      fun q => B.iter prog w _ _ ⟨hp, g, d, tk, os⟩ _ h1 q
    wp_walk using q1
    refine wpAny_stack_any fun st => wpAny_pure ?_
    split
    · rename_i c _ _ _ _ _
      cases (c == Value.type "enumerate")
      · wp_walk using q1
        exact ⟨_, rfl, h⟩
      · wp_walk using q1
        exact ⟨_, rfl, h⟩
    · wp_walk using q1
      exact ⟨_, rfl, h⟩
section
variable {prog : Program} {w : World} {A : Around} {E : Value → Shared → Prop} {s : Shared}
theorem enum_begins1 {v : Value} {o : Obj} {H : Heap → Prop} {Q : Value → Shared → Prop} (B : Begins v o H) (h1 : H s.heap)
    (h : ∀ h', IsEnum h' (s.heap.objs.size + 1) s.heap.objs.size 0 .none → h'.get? s.heap.objs.size = some o → h'.objs.size = s.heap.objs.size + 2 →
      (∀ b o, s.heap.get? b = some o → h'.get? b = some o) → Q (.ref (s.heap.objs.size + 1)) { s with heap := h' }) :
    wpAny (model prog w) A (call (.type "enumerate") [v]) Q E s := by
  refine callType_new F.called_enumerate (by decide) (F.typeCall_enumerate_1 _) (F.newCall_enumerate_1 _) (fun obj => F.args_object_init_2 obj _) F.entry_enumerate_new
    (meets_enumerate_new1 B) ⟨h1, ?_⟩
  have hz : (s.heap.push o).objs.size = s.heap.objs.size + 1 := Heap.size_push ..
  show _ ∧ _
  rw [hz]
  have he : IsEnum ((s.heap.push o).push { cls := .type "enumerate", data := .fields #[.none, .bool false, .ref s.heap.objs.size, rawInt 0, .none, .none] }) (s.heap.objs.size + 1) s.heap.objs.size 0 .none := by
    have := Heap.get?_push_size (s.heap.push o)
      (o := { cls := .type "enumerate", data := .fields #[.none, .bool false, .ref s.heap.objs.size, rawInt 0, .none, .none] }) rfl
    rw [hz] at this; exact this
  refine ⟨⟨_, he, rfl⟩, h _ he (Heap.get?_push_of_some _ (Heap.get?_push_size _ B.free)) (by rw [Heap.size_push, hz]) fun b o x => Heap.get?_push_of_some _ (Heap.get?_push_of_some _ x)⟩
end
def IteT (K : PySem.W.Frag) (a : Addr) : It :=
  ⟨fun i H => ∃ (xs : List V) (x : V), SqT K H a xs ∧ xs[i]? = some x, fun i H v H' => ∃ T x, v = .ref T ∧ H T = none ∧ H' = upd H T (.tup [.int (i : Nat), x]) ∧ ∀ xs, SqT K H a xs → xs[i]? = some x, fun i H => ∃ xs : List V, SqT K H a xs ∧ xs.length = i⟩
theorem turn_enumT {P : Program} {w : World} {K : PySem.W.Frag} {elts : List Expr} {kk : Nat} {tpos : Pos} (a e it : Addr) (hae : a ≠ e) (hai : a ≠ it) :
    Turn P w K (.Tuple elts kk tpos) (IteT K a) [e, it] e (fun i h => (∃ old, IsEnum h e it ((i : Nat) : Int) old) ∧ h.IsTupleIter it a i ∧ e ≠ it) where
  mem := by simp
  obj := fun i h st b hb => by
    obtain ⟨⟨old, he⟩, ⟨o, ho, hc, hd⟩, _⟩ := st
    have e' : b = e ∨ b = it := by simpa using hb
    rcases e' with z | z
    · rw [z]; exact ⟨_, he, fun v q => nomatch q⟩
    · rw [z]; exact ⟨o, ho, fun v q => by rw [hd] at q; cases q⟩
  keep := fun i h h' st k => let ⟨⟨old, he⟩, hi, hne⟩ := st; ⟨⟨old, k e (by simp) _ he⟩, hi.at fun o q => k it (by simp) o q, hne⟩
  item := by
    intro X hP hw hK hc i pins s σ H E I hf st hg
    subst hP hw hK
    obtain ⟨⟨old, he⟩, hit, hne⟩ := st
    obtain ⟨xs, x, hq, hx⟩ := hg
    obtain ⟨its, rv, p, hz⟩ := I.tuple hq
    have p : s.heap.IsTuple a its.toArray := p
    obtain ⟨u, hu, ru⟩ := rv.get hx
    have hel : e < s.heap.objs.size := Heap.lt_size he
    have hil : it < s.heap.objs.size := by obtain ⟨_, q, _⟩ := hit; exact Heap.lt_size q
    have hlt : i < its.toArray.size := by
      rw [List.size_toArray]
      exact (List.getElem?_eq_some_iff.mp hu).1
    have D := Draws.tuple (prog := X.prog) (w := X.w) (A := X.A.in1) (I.ok.hd hc) it a hai its.toArray
    refine wpAny_pyNext_enum_itemD D he ⟨hit, p⟩ hlt hne (by simp [hne, Ne.symm hae]) fun x' h' tk hP ho hs' hT hsz hk => ?_
    have ex : x' = u := by
      have : its.toArray[i]? = some u := by simpa using hu
      rw [this] at hP
      exact (Option.some.inj hP).symm
    subst ex
    refine ⟨_, rfl, wpAny_letOwnedTupleGo_enum (s := { s with heap := h', toks := tk + 1 }) ho fun h'' he' sb => ?_⟩
    have hT2 : h''.get? s.heap.objs.size = some { cls := .type "tuple", data := .seq #[.int i tk, x'] } := (sb.2 _ (Nat.ne_of_gt hel)).trans hT
    have new : ObjOk X.prog X.w (upd H s.heap.objs.size (.tup [.int (i : Nat), x])) h'' s.heap.objs.size (.tup [.int (i : Nat), x]) :=
      ⟨by show 2 ≤ sizeLine; decide, [.int i tk, x'], .cons ⟨_, rfl⟩ (.cons ru .nil), ⟨_, hT2, rfl, _, rfl⟩⟩
    have I1 : Inv X pins σ (upd H s.heap.objs.size (.tup [.int (i : Nat), x])) { s with heap := h'', toks := tk + 1 } :=
      I.turnedNew (ch := [e, it]) (fun b ob hb q => (sb.2 b (fun z => hb (by simp [z]))).trans (hk b ob (fun z => hb (by simp [z])) (fun z => hb (by simp [z])) q)) hf (Nat.le_refl _) new
    refine ⟨.ref s.heap.objs.size, _, I1, rfl, ⟨_, x, rfl, I.hok.fresh (Nat.le_refl _), rfl, fun ys hy => by rw [I.tuple_inj hy hq]; exact hx⟩, ⟨⟨x', ?_⟩, hs'.1.at fun o q => (sb.2 it (Ne.symm hne)).trans q, hne⟩, fun b hb => ?_⟩
    · have e1 : ((i + 1 : Nat) : Int) = (i : Int) + 1 := by omega
      rw [e1]; exact he'
    · have hb' : b < s.heap.objs.size := by
        have e' : b = e ∨ b = it := by simpa using hb
        rcases e' with z | z
        · rw [z]; exact hel
        · rw [z]; exact hil
      rw [upd_ne (Nat.ne_of_lt hb')]
      exact (hf b hb).1
  done := by
    intro X hP hw hK hc i pins s σ H E I hf st hg
    subst hP hw hK
    obtain ⟨⟨old, he⟩, hit, hne⟩ := st
    obtain ⟨xs, hq, hx⟩ := hg
    obtain ⟨its, rv, p, hz⟩ := I.tuple hq
    have p : s.heap.IsTuple a its.toArray := p
    obtain ⟨f0, f1, f2, f3, f4, f5⟩ := hf it (by simp)
    have hl := rv.length
    have D := Draws.tuple (prog := X.prog) (w := X.w) (A := X.A.in1) (I.ok.hd hc) it a hai its.toArray
    have en : its.toArray.size = i := by rw [List.size_toArray, ← hl, hx]
    exact wpAny_pyNext_enum_endD D he ⟨by rw [en]; exact hit, p⟩ fun h' eb => ⟨rfl, I.turned (t' := s.toks) (fun b o hb q => eb b o hb q) f0 f1 f3 f4 f5⟩
  self := fun A i s Q E st h => let ⟨⟨_, he⟩, _⟩ := st; wpAny_pyIter_enum he h
def iEnumA (K : PySem.W.Frag) (ta : TA) : TI := fun σ H R => ta σ H fun vs H1 => ∃ a, vs = [.ref a] ∧ ((∃ xs, SqL K H1 a xs ∧ R (Ite K a) H1) ∨ ∃ xs, SqT K H1 a xs ∧ R (IteT K a) H1)
theorem pi_enumA {X : Cx} {e : Expr} {ta : TA} {p pos tpos : Pos} {elts : List Expr} {kk : Nat} (hg : Gl X "enumerate") (hm : X.mg "enumerate" = none) (ha : PA X [e] ta) (hs : starEach [e] X.env = [(false, eval e X.env)] := by rfl) :
    PI X (.Tuple elts kk tpos) (.Call (.Name "enumerate" p) [e] [] pos) (iEnumA X.K ta) := by
  refine ⟨fun pins s σ H R I h => ?_⟩
  refine Call_ (ld_blt I hg hm boot_enumerate (PyProof.Rows.callWith_type1 (thn (ha.run pos pins s σ H _ I h) fun us s1 ⟨vs, H1, I1, r1, q1⟩ => ?_) hs rfl))
  obtain ⟨a, ex, q1⟩ := q1
  subst ex
  cases r1 with
  | cons r rr =>
    cases rr
    cases r
    have fp : ∀ b ∈ [s1.heap.objs.size + 1, s1.heap.objs.size], FpOk X pins H1 b := fun b hb => by
      have e' : b = s1.heap.objs.size + 1 ∨ b = s1.heap.objs.size := by simpa using hb
      have hle : s1.heap.objs.size ≤ b := by
        rcases e' with z | z
        · rw [z]; exact Nat.le_add_right _ _
        · rw [z]; exact Nat.le_refl _
      exact I1.fpOk hle (I1.hok.fresh hle)
    rcases q1 with ⟨xs, hq, q⟩ | ⟨xs, hq, q⟩
    · obtain ⟨its, rv, p', hz⟩ := I1.list hq
      refine call_enumerate_list p'.isList fun h' he hit hsz hk => wpAny_pyIter_enum he ?_
      have I2 : Inv X pins σ H1 { s1 with heap := h' } := I1.kept (t' := s1.toks) hk
      exact ⟨s1.heap.objs.size + 1, [s1.heap.objs.size + 1, s1.heap.objs.size], _, _, H1, rfl, I2, turn_enum a (s1.heap.objs.size + 1) s1.heap.objs.size, ⟨⟨.none, he⟩, hit, Nat.succ_ne_self _⟩, fp, q⟩
    · obtain ⟨its, rv, p', hz⟩ := I1.tuple hq
      have p' : s1.heap.IsTuple a its.toArray := p'
      have hal : a < s1.heap.objs.size := by obtain ⟨_, q, _⟩ := p'; exact Heap.lt_size q
      refine enum_begins1 (begins_tuple a its.toArray) p' fun h' he hit hsz hk => wpAny_pyIter_enum he ?_
      have I2 : Inv X pins σ H1 { s1 with heap := h' } := I1.kept (t' := s1.toks) hk
      exact ⟨s1.heap.objs.size + 1, [s1.heap.objs.size + 1, s1.heap.objs.size], _, _, H1, rfl, I2, turn_enumT a (s1.heap.objs.size + 1) s1.heap.objs.size (Nat.ne_of_lt (Nat.lt_succ_of_lt hal)) (Nat.ne_of_lt hal), ⟨⟨.none, he⟩, ⟨_, hit, rfl, rfl⟩, Nat.succ_ne_self _⟩, fp, q⟩
section
variable {G : Glb} {ad : List Addr} {S : Hp}
theorem iter_enumT {a : Addr} {vs : List V} {ds : List D} (h : SqT G.K S a vs) (r : Reps G ad S vs ds) : IterOK G ad S (IteT G.K a) (numbered ds) := by
  intro i S' H' e su
  have h' := Same.sqT (e.trans su) h
  refine ⟨fun hi => ⟨vs, h', by rw [r.len, hi]; simp [numbered]⟩, fun d hd => ?_⟩
  obtain ⟨d0, hd0, rfl⟩ := numbered_get hd
  obtain ⟨v, hv, rv⟩ := r.get hd0
  refine ⟨⟨vs, v, h', hv⟩, fun x H'' ⟨T, y, e1, hT, e2, e3⟩ => ?_⟩
  subst e1; subst e2
  have e4 : v = y := Option.some.inj (hv.symm.trans (e3 vs h'))
  subst e4
  exact pair_new su hT (.int _) (rv.mono e)
end
def enumA? : List D → M (List D) := fun ds st => match ds with
  | [.lst ds] => .ok (numbered ds) st
  | [.rol ds] => .ok (numbered ds) st
  | [.tup ds] => .ok (numbered ds) st
  | _ => .bad
section
variable {G : Glb} {X : Cx} {W : WX} {O : Ow} {p pos : Pos} {a : Expr} {ma : MA}
theorem di_enumA {elts : List Expr} {kk : Nat} {tpos : Pos} (hK : X.K = G.K) (hm : X.mg "enumerate" = none) (ha : DA G X W O [a] ma) (hg : Gl X "enumerate" := by rfl) (hs : starEach [a] X.env = [(false, eval a X.env)] := by rfl) :
    DIt G X W O (.Tuple elts kk tpos) (.Call (.Name "enumerate" p) [a] [] pos) (mThenA ma enumA?) := by
  obtain ⟨t, pa, w⟩ := ha.ex
  refine ⟨_, pi_enumA hg hm pa hs, fun b S env st σ H R I h => args_walk (es := [a]) w I h fun vs ds S1 H1 st1 x1 su1 so1 r1 h1 => ?_⟩
  unfold enumA? at h1
  split at h1
  · cases r1 with
    | cons r rr =>
      cases rr
      cases r with
      | lst h2 h3 => exact ⟨_, rfl, .inl ⟨_, SqL.of (su1 _ _ h2), hK ▸ h1 _ _ _ x1 su1 so1 (iter_enum (SqL.of h2) h3)⟩⟩
  · cases r1 with
    | cons r rr =>
      cases rr
      cases r with
      | rol h2 h3 => exact ⟨_, rfl, .inl ⟨_, hK ▸ su1.seq h2, hK ▸ h1 _ _ _ x1 su1 so1 (iter_enum h2 h3)⟩⟩
  · cases r1 with
    | cons r rr =>
      cases rr
      cases r with
      | tup h2 h3 => exact ⟨_, rfl, .inr ⟨_, hK ▸ Same.sqT su1 h2.sqT, hK ▸ h1 _ _ _ x1 su1 so1 (iter_enumT h2.sqT h3)⟩⟩
  · exact h1.elim
end
end DL

/-! DL, 22nd part: a chained comparison as a test, lists joined and owned, xs[::-1] of a tuple, sum of a tuple. -/
namespace DL
open PySem PySem.Spec PyProof.Rows L2
theorem self_hv {x dx : Addr} {vs : List Nat} (h : 0 ∉ vs) : ∀ v ∈ vs, (selfO x dx).has v = false := fun v hv => by
  have : v ≠ 0 := fun z => h (z ▸ hv)
  exact has_mk (fun z => by cases z) (fun z => by cases z) (fun z => this (Option.some.inj z).symm)
section
variable {G : Glb} {X : Cx} {W : WX} {O : Ow} {pos : Pos} {a b c : Expr} {ma mb mc : ME} {op op' : CmpOp} {r r' : R2} {f g : D → D → Option D}
theorem dt_chain (ho : OpR X (compareOp op) r) (hf : OpD G r f) (ho' : OpR X (compareOp op') r') (hg : OpD G r' g) (ha : DE G X W O a ma) (hb : DE G X W O b mb) (hc : DE G X W O c mc) (hm : lastMarks [op, op'] [b, c] = false := by with_unfolding_all rfl) : DT G X W O (.Compare a [op, op'] [b, c] pos) (mTest (mChain f g ma mb mc)) := by
  obtain ⟨ta, pa, wa⟩ := ha.ex
  obtain ⟨tb, pb, wb⟩ := hb.ex
  obtain ⟨tc, pc, wc⟩ := hc.ex
  refine ⟨_, pt_chain ho ho' pa pb pc hm, fun b S env st σ H Q I h => ?_⟩
  have h' := wpR_bind h
  refine wa b S env st σ H _ I (wpR_imp (wpR_bind h') (fun dx st1 h1 => ?_) fun _ _ z => z)
  intro x S1 H1 x1 su1 so1 r1
  have I1 := I.ext x1 su1 so1
  refine wb b S1 env st1 σ H1 _ I1 (wpR_imp (wpR_bind h1) (fun dy st2 h2 => ?_) fun _ _ z => z.from_ x1 so1)
  intro y S2 H2 x2 su2 so2 r2
  have x12 := x1.trans so1 x2
  have I2 := I1.ext x2 su2 so2
  cases ef : f dx dy with
  | none => rw [ef] at h2; exact h2.elim
  | some d =>
    rw [ef] at h2
    refine hf.go b.ad S2 H2 st2 x y dx dy d _ su2 so2 (r1.mono x2.same) r2 ef ?_
    intro v S3 H3 x3 su3 so3 r3
    have x13 := x12.trans so2 x3
    have I3 := I2.ext x3 su3 so3
    cases r3 with
    | bl k =>
      refine ⟨k, rfl, ?_⟩
      cases k with
      | false => exact ⟨false, rfl, h2 S3 H3 x13 su3 so3⟩
      | true =>
        have h2 : wpR ((mc env st2).bind fun z => ret? (g dy z)) _ _ := h2
        refine wc b S3 env st2 σ H3 _ I3 (wpR_imp (wpR_bind h2) (fun dz st3 h3 => ?_) fun _ _ z => z.from_ x13 so3)
        intro z S4 H4 x4 su4 so4 r4
        obtain ⟨d', e1, q⟩ := wp_ret h3
        refine hg.go b.ad S4 H4 st3 y z dy dz d' _ su4 so4 ((r2.mono x3.same).mono x4.same) r4 e1 fun v S5 H5 x5 su5 so5 r5 => ?_
        cases r5 <;> first | exact q.elim | exact ⟨_, rfl, q _ _ ((x13.trans so3 x4).trans so4 x5) su5 so5⟩
    | _ => exact h2.elim
/-- a + b, lists, as a new list -/
def cat? (x y : D) : M (List D) := fun st => match x, y with
  | .lst xs, .lst ys => if xs.length + ys.length ≤ sizeLine then .ok (xs ++ ys) st else .bad
  | _, _ => .bad
def mCat (ma mb : ME) : MA := fun env st => (ma env st).bind fun x st1 => (mb env st1).bind fun y => cat? x y
theorem df_cat (ha : DE G X W O a ma) (hb : DE G X W O b mb) : DF G X W O (.BinOp a .Add b pos) (mCat ma mb) := by
  obtain ⟨ta, tb, pa, pb, w⟩ := two_parts (k := fun x y => cat? x y) ha hb
  refine ⟨_, pe_op op_cat pa pb, fun b S env st σ H Q I h => w b S env st σ H (fun ds st' => PostF G b.ad S H ds st' Q) (fun x y H2 => rCat x y H2 Q) I h fun x y dx dy S' H' st' e I' rx ry hk => ?_⟩
  unfold cat? at hk
  split at hk
  · split at hk
    · rename_i hl
      cases rx with
      | lst h1 r1 =>
        rename_i p vs
        cases ry with
        | lst h2 r2 =>
          rename_i q ws
          have hk : PostF G b.ad S H _ st' Q := hk
          exact ⟨p, q, vs, ws, rfl, rfl, I'.sub _ _ h1, I'.sub _ _ h2, by rw [r1.len, r2.len]; exact hl, fun l hl' => hk l _ S' H' e I'.sub I'.sto hl' (r1.append r2)⟩
    · exact hk.elim
  · exact hk.elim
end
section
variable {P : Program} {w : World} {K : PySem.W.Frag} {mg : Str → Option Value} {base : Heap}
/-- the law: its script made to a hand (by fH), then the rest over that cell -/
theorem lawD2 {G : Glb} {x y : Str} {st : Stmt} {f fH : Addr} {fd fdH : FuncData} {N : List Str} {k j : Nat} {rest : List Stmt} {m : MS} {mH : List D → M D} {O' : Ow} {p1 p2 p3 p4 p5 : Pos} (F : Fun K "law" "law" st f fd) (Sc : FnScope N ["_law_script"] (defScope st)) (hK : K = G.K)
    (hN1 : N[1]? = some x) (hl : Loc (defScope st) x) (hl0 : (defScope st).names.lookup ("_law_script" : Str) = some .local) (hy : (defScope st).names.lookup y = some .globalImplicit)
    (hbd : defBody st = .Assign [.Name x p1] (.Call (.Name y p2) [.Name "_law_script" p3] [] p4) p5 :: rest)
    (FH : FnOk P w K mg base (L2.CX P w) j fH fdH ["_law_script"] (spD G 1 mH)) (hmg : mg y = some (.ref fH)) (hkp : PySem.W.keepIn K (.ref fH) = true) (hb : Binds K fdH ["_law_script"] []) (hjk : j ≤ k)
    (hH : ∀ (ns : List Int), ns.length ≤ 63 → ∃ cells t, mH [.rol (ns.map .int)] [] = .ok (handD cells 0 0 t) [] ∧
      ∃ st', m (some (.rol (ns.map .int)) :: some (.tok 0) :: List.replicate (N.length - 2) none) [handD cells 0 0 t] = .rt (.bl true) st')
    (hrest : ∀ (cdv : Value) (A : Around) (outer : List Env) (s : Shared) (H : Hp) (E : XK), XC k G (cxOf (L2.CX P w) P w K mg base N "law" (defScope st) f cdv A outer s H E) (fun cls d _ H' => E cls d H') → XT (cxOf (L2.CX P w) P w K mg base N "law" (defScope st) f cdv A outer s H E) →
      DSs G (cxOf (L2.CX P w) P w K mg base N "law" (defScope st) f cdv A outer s H E) (fun cls d _ H' => E cls d H') {} (fun _ => True) {} rest O' m)
    (hfx : ∀ (cdv : Value) (A : Around) (outer : List Env) (s : Shared) (H : Hp) (E : XK), (cxOf (L2.CX P w) P w K mg base N "law" (defScope st) f cdv A outer s H E).fn x = true ∨ (defScope st).names.lookup x = some .local) (hdy : (y == ("__debug__" : Str)) = false := by decide) (hnl : 2 ≤ N.length := by decide) :
    FnOk P w K mg base (L2.CX P w) (k + 1) f fd ["_law_script"] (spLaw K) := by
  refine F.okX Sc (fun vs H Q E h => ?_) fun cdv A outer s H vs Q E hr h => ?_
  · obtain ⟨_, _, rfl, _⟩ := h
    rfl
  · obtain ⟨a, ns, rfl, hS, hns, hO, hQ⟩ := h
    have xc : XC k G (cxOf (L2.CX P w) P w K mg base N "law" (defScope st) f cdv A outer s H E) (fun cls d _ H' => E cls d H') :=
      { tk := takes_of rfl rfl rfl rfl, po := passes_of rfl, calm := rfl, hr := hr, K := hK }
    obtain ⟨t, p, wt⟩ := (hrest cdv A outer s H E xc ⟨rfl, rfl⟩).ex
    rw [hbd]
    have hN0 : N[0]? = some ("_law_script" : Str) := by
      have e := Sc.pre
      cases N with
      | nil => simp at hnl
      | cons n N => simp at e; simp [e]
    obtain ⟨cells, tt, eH, st', em⟩ := hH ns hns
    refine ⟨_, pss_cons (ps_set (i := 1) Sc.nd hN1 hl (pe_callS FH (hr.mono hjk) hy hmg hkp hb (fun σ => passAt xc.tk σ) (pa_cons (pe_var (i := 0) hN0 (.inl hl0)) pa_nil) hdy) (by rfl) (hfx cdv A outer s H E)) p, ?_⟩
    have e0 : start N [V.ref a] = some (V.ref a) :: List.replicate (N.length - 1) none := rfl
    show tAsg (tCallS (spD G 1 mH) (WE fun cls d _ H' => E cls d H') (tCons (tVar 0) tNil)) (gName 1) _ (start N [V.ref a]) H
    refine ⟨.ref a, rfl, ?_⟩
    have hSub : Same H H := .refl _
    refine ⟨⟨H, H, []⟩, [.rol (ns.map .int)], [], rfl, rfl, hSub, ⟨rfl, .nil, fun n b hn => by simp at hn⟩, .cons (.rol (hK ▸ hS) (reps_ints ns)) .nil, ?_⟩
    rw [eH]
    intro v S' H' x1 su1 so1 r1
    -- the hand is a cell from now on
    cases r1 with
    | lst h1 r1 =>
      rename_i pa vs
      cases r1 with
      | cons r1 rr =>
        cases r1 with
        | lst hc rc =>
          rename_i pc ws
          have ew : ws = cells.map V.int := ints_of rc
          subst ew
          have hne : pc ≠ pa := fun z => by
            subst z
            rw [h1] at hc
            have := Option.some.inj hc
            cases cells with
            | nil => cases this
            | cons c cells => cases this
          have hHpa : H pa = none := by
            rcases x1.new pa _ h1 with z | z
            · replace z : H pa = some (HO.lst _) := z
              rcases hO pa with q | ⟨_, _, q⟩
              · exact q
              · rw [q] at z; cases z
            · exact z
          let S2 : Hp := fun c => if c = pa then none else S' c
          have hS2 : ∀ c, c ≠ pa → S2 c = S' c := fun c hc => if_neg hc
          have hS2p : S2 pa = none := if_pos rfl
          have sub2 : Same S2 H' := fun c o ho => by
            by_cases hcp : c = pa
            · subst hcp; rw [hS2p] at ho; cases ho
            · rw [hS2 c hcp] at ho; exact su1 _ _ ho
          have same2 : Same H S2 := fun c o ho => by
            rw [hS2 c (ne_of_none ho hHpa)]
            exact x1.same _ _ ho
          have rc2 : Rep G [pa] S2 (.ref pc) (.lst (cells.map .int)) := .lst (by rw [hS2 pc hne]; exact hc) (reps_ints cells)
          cases rr with
          | cons r2 rr =>
            cases r2
            cases rr with
            | cons r3 rr =>
              cases r3
              cases rr with
              | cons r4 rr =>
                cases r4
                cases rr
                have so2 : StoOk G [pa] S2 [handD cells 0 0 tt] H' := by
                  refine ⟨rfl, by simp, fun n b hb => ?_⟩
                  cases n with
                  | zero =>
                    have e : pa = b := by simpa using hb
                    subst e
                    exact ⟨hS2p, _, _, rfl, su1 _ _ h1, .cons rc2 (.cons (.int _) (.cons (.int _) (.cons (.int _) .nil)))⟩
                  | succ n => simp at hb
                have I : DI G ⟨S2, H', [pa]⟩ {} S2 ([D.rol (ns.map .int), D.tok 0].map some ++ List.replicate (N.length - 2) none) [handD cells 0 0 tt] ([V.ref a, V.ref pa].map some ++ List.replicate (N.length - 2) none) H' :=
                  DI.start sub2 so2 (.cons (.rol (same2.seq (hK ▸ hS)) (reps_ints ns)) (.cons (.tok rfl) .nil))
                have eσ : (start N [V.ref a]).set 1 (some (V.ref pa)) = [V.ref a, V.ref pa].map some ++ List.replicate (N.length - 2) none := by
                  obtain ⟨l, hl⟩ : ∃ l, N.length = l + 2 := ⟨N.length - 2, by omega⟩
                  show (some (V.ref a) :: List.replicate (N.length - 1) none).set 1 (some (V.ref pa)) = _
                  rw [hl]
                  rfl
                refine wt ⟨S2, H', [pa]⟩ S2 _ _ _ H' _ (eσ ▸ I) ?_
                have em' : m ([D.rol (ns.map .int), D.tok 0].map some ++ List.replicate (N.length - 2) none) [handD cells 0 0 tt] = .rt (.bl true) st' := em
                rw [em']
                intro v S3 H3 _ _ _ r3
                cases r3
                exact hQ H3
end
end DL

/-! DL, 23rd part: xs[::-1] of a list or a tuple, sum of a tuple. -/
namespace HT
open PySem PySem.Spec PyProof.Rows
section
variable {prog : Program} {w : World} {A : Around} {E : Value → Shared → Prop} {s : Shared}
theorem adjust_rev (n : Nat) : Builtin.Slice.sliceAdjust none none (-1) (n : Int) = ((n : Int) - 1, -1) := by
  unfold Builtin.Slice.sliceAdjust
  simp
theorem places_rev (n : Nat) : Builtin.Slice.slicePlaces ((n : Int) - 1) (-1) (-1) = n := by
  unfold Builtin.Slice.slicePlaces
  by_cases h : (n : Int) - 1 > -1
  · simp only [show ¬ ((-1 : Int) > 0) by decide, if_false, h, if_true, show (- -1 : Int) = 1 by decide, Int.ediv_one]
    omega
  · simp only [show ¬ ((-1 : Int) > 0) by decide, if_false, h]
    omega
theorem sliceApplied_rev {sl : Addr} {vl vu vs : Value} {n : Nat} {Q : Int × Int × Nat → Shared → Prop} (hs : s.heap.IsSliceOf sl vl vu vs) (pl : IsPart vl none) (pu : IsPart vu none) (ps : IsPart vs (some (-1)))
    (h : Q ((n : Int) - 1, -1, n) s) : wpAny (model prog w) A (Builtin.Slice.sliceApplied (.ref sl) (pure (n : Int))) Q E s := by
  obtain ⟨os, hos, hcs, hds⟩ := id hs
  unfold Builtin.Slice.sliceApplied Builtin.Slice.sliceFields
  refine wpAny_bind (wpAny_bind (wpAny_field hos hds (x := vl) rfl (wpAny_bind (wpAny_field hos hds (x := vu) rfl (wpAny_bind (wpAny_field hos hds (x := vs) rfl (wpAny_pure ?_)))))))
  refine wpAny_bind (slicePart_ ps ?_)
  show wpAny _ _ (if ((-1 : Int) == 0) = true then _ else _) _ _ s
  rw [if_neg (by decide)]
  refine wpAny_bind (slicePart_ pl (wpAny_bind (slicePart_ pu (wpAny_bind (wpAny_pure ?_)))))
  show wpAny _ _ (match Builtin.Slice.sliceAdjust none none (-1) (n : Int) with | (lo, hi) => pure (lo, (-1 : Int), Builtin.Slice.slicePlaces lo hi (-1))) _ _ s
  rw [adjust_rev n]
  show wpAny _ _ (pure ((n : Int) - 1, (-1 : Int), Builtin.Slice.slicePlaces ((n : Int) - 1) (-1) (-1))) _ _ s
  rw [places_rev]
  exact wpAny_pure h
theorem pick_rev (xs : Array Value) : ((List.range xs.size).filterMap fun (m : Nat) => xs[(((xs.size : Int) - 1) + (m : Int) * (-1)).toNat]?).toArray = xs.toList.reverse.toArray := by
  congr 1
  have e : ∀ n, n ≤ xs.size → (List.range n).filterMap (fun (m : Nat) => xs[(((xs.size : Int) - 1) + (m : Int) * (-1)).toNat]?) = xs.toList.reverse.take n := by
    intro n
    induction n with
    | zero => intro _; rfl
    | succ n ih =>
      intro hn
      rw [List.range_succ, List.filterMap_append, ih (by omega), List.take_succ]
      have e1 : (((xs.size : Int) - 1) + (n : Int) * (-1)).toNat = xs.size - 1 - n := by omega
      have h2 : xs.size - 1 - n < xs.size := by omega
      have h3 : xs.toList.reverse[n]? = some (xs[xs.size - 1 - n]'h2) := by
        rw [List.getElem?_reverse (by rw [Array.length_toList]; exact hn)]
        simp [h2]
      rw [h3]
      simp only [List.filterMap_cons, List.filterMap_nil, e1, Array.getElem?_eq_getElem h2]
      rfl
  rw [e xs.size (Nat.le_refl _), List.take_of_length_le (by simp)]
theorem getItem_tuple_rev {t sl : Addr} {items : Array Value} {vl vu vs : Value} {Q : Value → Shared → Prop} (ht : IsTup s.heap t items) (hs : s.heap.IsSliceOf sl vl vu vs) (pl : IsPart vl none) (pu : IsPart vu none) (ps : IsPart vs (some (-1)))
    (h : Q (.ref s.heap.objs.size) { s with heap := s.heap.push { cls := .type "tuple", data := .seq items.toList.reverse.toArray } })
    (hsz : items.size ≤ sizeLine) : wpAny (model prog w) A (getItem (.ref t) (.ref sl)) Q E s := by
  have htake : sizeOk (.seq items.toList.reverse.toArray) := by
    show items.toList.reverse.toArray.size ≤ sizeLine
    rw [List.size_toArray, List.length_reverse, Array.length_toList]
    exact hsz
  obtain ⟨os, hos, hcs, hds⟩ := id hs
  have hTs : s.TypeIs (.ref sl) "slice" := ⟨os, hos, hcs⟩
  unfold getItem
  try with_reducible refine wpAny_holding ?_
  first | refine wpAny_bind (wpAny_pure ?_) | skip
  refine wpAny_bind (wpAny_sequenceKey ht.typeIs (by decide) ?_)
  refine wpAny_bind (wpAny_callSpecial?_slot (name := Str.ofString "__getitem__") ht.typeIs PyProof.Rows.slot_tuple_getitem
    (wpAny_call_entry PyProof.Rows.slot_tuple_getitem ht.typeIs entry_tuple_getitem ?_ (args_tuple_getitem _ _)))
  show wpAny _ _ (Builtin.Tuple.tupleItemsOf (.ref t) >>= _) _ _ s
  refine wpAny_bind (tupleItemsOf_ ht ?_)
  refine wpAny_bind (wpAny_typeOf hTs ?_)
  rw [if_pos (by decide)]
  refine wpAny_bind (sliceApplied_rev hs pl pu ps ?_)
  have hno : ¬ ((((items.size : Int) - 1) == 0 && (-1 : Int) == 1 && items.size == items.size) = true) := by
    intro q
    rw [Bool.and_eq_true, Bool.and_eq_true] at q
    have q1 : (-1 : Int) = 1 := eq_of_beq q.1.2
    omega
  show wpAny _ _ (if ((((items.size : Int) - 1) == 0 && (-1 : Int) == 1 && items.size == items.size) = true) then _ else _) _ _ s
  rw [if_neg hno, pick_rev]
  first
    | exact wpAny_bind (m := Builtin.Tuple.tupleExact _) (wpAny_newObj_type (wpAny_pure ⟨_, rfl, wpAny_pure h⟩) htake)
    | exact wpAny_bind (m := Builtin.Tuple.tupleExact _) (wpAny_newObj_type (wpAny_bind (wpAny_pure (wpAny_pure ⟨_, rfl, wpAny_pure h⟩))) htake)
    | exact wpAny_bind (wpAny_bind (m := Builtin.Tuple.tupleExact _) (wpAny_newObj_type (wpAny_pure (wpAny_pure ⟨_, rfl, wpAny_pure h⟩)) htake))
    | exact wpAny_bind (wpAny_bind (m := Builtin.Tuple.tupleExact _) (wpAny_newObj_type (wpAny_pure ⟨_, rfl, wpAny_pure h⟩) htake))
end
end HT
namespace DL
open PySem PySem.Spec PyProof.Rows L2
section
variable {X : Cx}
def tRevA (K : PySem.W.Frag) (te : TE) : TE := fun σ H Q => te σ H fun x H1 => ∃ a xs, x = .ref a ∧ ((SqL K H1 a xs ∧ ∀ p, H1 p = none → Q (.ref p) (upd H1 p (.lst xs.reverse))) ∨ (SqT K H1 a xs ∧ ∀ p, H1 p = none → Q (.ref p) (upd H1 p (.tup xs.reverse))))
theorem pe_revA {e : Expr} {te : TE} {k : Nat} {p1 p2 p3 pos : Pos} (he : PE X e te) : PE X (.Subscript e (.Slice none none (some (.UnaryOp .USub (.Constant (.int 1) k p1) p2)) p3) pos) (tRevA X.K te) := by
  refine ⟨fun pins s σ H Q I h => ?_⟩
  refine Subscript_ (thn (he.run pins s σ H _ I h) fun v s1 ⟨x, H1, I1, r1, q1⟩ => ?_)
  obtain ⟨a, xs, ex, q1⟩ := q1
  subst ex
  cases r1
  have hst : PO X (some (.UnaryOp .USub (.Constant (.int 1) k p1) p2)) (tPart (tUn (rU fun i => .int (-i)) (tC (.int 1)))) := po_some (pe_un un_neg pe_int)
  refine wpAny_Slice (thn (po_none.run pins s1 σ H1 (fun o H2 => o = none ∧ H2 = H1) I1 ⟨rfl, rfl⟩) fun vl s2 ⟨l, H2, I2, pl, el, e2⟩ => ?_)
  subst el e2
  refine thn (po_none.run pins s2 σ H2 (fun o H3 => o = none ∧ H3 = H2) I2 ⟨rfl, rfl⟩) fun vu s3 ⟨u, H3, I3, pu, eu, e3⟩ => ?_
  subst eu e3
  refine thn (hst.run pins s3 σ H3 (fun o H4 => o = some (-1) ∧ H4 = H3) I3 ⟨1, rfl, -1, rfl, rfl, rfl⟩) fun vs s4 ⟨o, H4, I4, ps, eo, e4⟩ => ?_
  subst eo e4
  have I5 : Inv X pins σ H4 { s4 with heap := s4.heap.push { cls := .type "slice", data := .fields #[vl, vu, vs] } } := I4.kept (t' := s4.toks) fun b ob q => Heap.get?_push_of_some _ q
  rcases q1 with ⟨hx, q⟩ | ⟨hx, q⟩
  · obtain ⟨its, r, ht, hz⟩ := I5.list hx
    have hlen := r.length
    show wpAny (model X.prog X.w) X.A (subscriptTail e (.Slice none none (some (.UnaryOp .USub (.Constant (.int 1) k p1) p2)) p3) (.ref a) (.ref s4.heap.objs.size)) (EP X pins σ Q) X.xe { s4 with heap := s4.heap.push { cls := .type "slice", data := .fields #[vl, vu, vs] } }
    refine tail_any (ops := [.ref a, .ref s4.heap.objs.size]) ht.isList.typeIs (PySem.slot_list_getitem.lookup) ?_ (by with_unfolding_all rfl)
    refine wpAny_getItem_list_slice ht.isList (Heap.IsSliceOf.new _ vl vu vs) pl pu ps (by decide) ?_ (by rw [List.size_toArray]; omega)
    rw [PySem.W.krv_pick]
    refine ⟨.ref _, _, I5.laid (t' := s4.toks) (o := .lst xs.reverse) (fun b ob q => Heap.get?_push_of_some _ q) (Nat.le_refl _) ?_, rfl, q _ (I5.hok.fresh (Nat.le_refl _))⟩
    exact ⟨by rw [List.length_reverse]; exact hz, _, 0, r.reverse, Heap.get?_push_size _ rfl⟩
  · obtain ⟨its, r, ht, hz⟩ := I5.tuple hx
    have hlen := r.length
    show wpAny (model X.prog X.w) X.A (subscriptTail e (.Slice none none (some (.UnaryOp .USub (.Constant (.int 1) k p1) p2)) p3) (.ref a) (.ref s4.heap.objs.size)) (EP X pins σ Q) X.xe { s4 with heap := s4.heap.push { cls := .type "slice", data := .fields #[vl, vu, vs] } }
    refine tail_any (ops := [.ref a, .ref s4.heap.objs.size]) ht.typeIs (PyProof.Rows.slot_tuple_getitem.lookup) ?_ (by with_unfolding_all rfl)
    refine HT.getItem_tuple_rev ht (Heap.IsSliceOf.new _ vl vu vs) pl pu ps ?_ (by rw [List.size_toArray]; omega)
    refine ⟨.ref _, _, I5.laid (t' := s4.toks) (o := .tup xs.reverse) (fun b ob q => Heap.get?_push_of_some _ q) (Nat.le_refl _) ?_, rfl, q _ (I5.hok.fresh (Nat.le_refl _))⟩
    exact ⟨by rw [List.length_reverse]; exact hz, _, r.reverse, IsTup.new _ _⟩
def rSumT (K : PySem.W.Frag) : List V → Hp → VK → Prop := fun vs H Q => ∃ (a : Addr) (ns : List Int), vs = [V.ref a] ∧ SqT K H a (ns.map V.int) ∧ Q (.int ns.sum) H
theorem cr_sumT (hc : X.calm = true) : CallR X (.builtin "sum") (rSumT X.K) := by
  intro pins s σ H vs us Q I r h
  obtain ⟨a, ns, rfl, hs, q⟩ := h
  obtain ⟨its, rv, hl, _⟩ := I.tuple hs
  have hl : s.heap.IsTuple a its.toArray := hl
  rw [Vals.ref1 r]
  have hi : IntsAre its ns := intsAre_of rv
  obtain ⟨xs, hx⟩ := (show IntsAre its.toArray.toList ns from hi).allInts.items
  have hn : numsOf its.toArray.toList = ns := by rw [show its.toArray.toList = its from rfl, hi.numsOf]
  rw [hx] at hl hn
  rw [nums_intItems] at hn
  refine PySem.W.ktm_sumG (I.ok.hd hc) hl fun h' tk t' hk => ?_
  have e : preSum (numAt xs) xs.size = ns.sum := by
    rw [preSum_eq, List.take_of_length_le (by simp), hn]
  rw [e]
  exact ⟨.int _, H, I.kept hk, ⟨_, rfl⟩, q⟩
end
def dSumA : List D → Option D := fun ds => match ds with
  | [.lst ds] => (ints? ds).map fun ns => .int ns.sum
  | [.tup ds] => (ints? ds).map fun ns => .int ns.sum
  | _ => none
theorem cd_sumA {G : Glb} {X : Cx} (hK : X.K = G.K) : CallD G (fun xs H Q => rSum X.K xs H Q ∨ rSumT X.K xs H Q) dSumA := ⟨fun ad S H st xs ds d Q su so r e q => by
  unfold dSumA at e
  split at e
  · rename_i ys
    obtain ⟨v, rfl, rv⟩ := reps1 r
    cases en : ints? ys with
    | none => rw [en] at e; cases e
    | some ns =>
      rw [en] at e
      cases e
      cases rv with
      | lst h2 r2 =>
        rename_i a vs
        have ev := ints_ok r2 en
        subst ev
        exact .inl ⟨a, ns, rfl, SqL.of (su _ _ h2), Post.here su so (.int _) q⟩
  · rename_i ys
    obtain ⟨v, rfl, rv⟩ := reps1 r
    cases en : ints? ys with
    | none => rw [en] at e; cases e
    | some ns =>
      rw [en] at e
      cases e
      cases rv with
      | tup h2 r2 =>
        rename_i a vs
        have ev := ints_ok r2 en
        subst ev
        exact .inr ⟨a, ns, rfl, hK ▸ Same.sqT su h2.sqT, Post.here su so (.int _) q⟩
  · cases e⟩
theorem Reps.reverse {G : Glb} {ad : List Addr} {S : Hp} : ∀ {vs : List V} {ds : List D}, Reps G ad S vs ds → Reps G ad S vs.reverse ds.reverse
  | _, _, .nil => .nil
  | _, _, .cons h r => by
    rw [List.reverse_cons, List.reverse_cons]
    exact (Reps.reverse r).append (.cons h .nil)
def dRev : D → Option D
  | .lst xs => some (.lst xs.reverse)
  | .tup xs => some (.tup xs.reverse)
  | _ => none
section
variable {G : Glb} {X : Cx} {W : WX} {O : Ow} {pos : Pos} {e : Expr} {me : ME}
theorem de_rev {k : Nat} {p1 p2 p3 : Pos} (hK : X.K = G.K) (he : DE G X W O e me) : DE G X W O (.Subscript e (.Slice none none (some (.UnaryOp .USub (.Constant (.int 1) k p1) p2)) p3) pos) (mUn dRev me) := by
  obtain ⟨t, p, w⟩ := he.ex
  refine ⟨_, pe_revA p, fun b S env st σ H Q I h => w b S env st σ H _ I (wpR_imp (wpR_bind h) (fun dx st1 h1 => ?_) fun _ _ z => z)⟩
  intro x S1 H1 x1 su1 so1 r1
  obtain ⟨d, e1, q⟩ := wp_ret h1
  have q' := Post.from_ x1 so1 q
  cases r1 with
  | lst h2 r2 => cases e1; exact ⟨_, _, rfl, .inl ⟨SqL.of (su1 _ _ h2), fun z hz => Post.lst su1 so1 hz r2.reverse q'⟩⟩
  | tup h2 r2 => cases e1; exact ⟨_, _, rfl, .inr ⟨hK ▸ Same.sqT su1 h2.sqT, fun z hz => Post.tup su1 so1 hz r2.reverse q'⟩⟩
  | _ => cases e1
end
end DL

/-! DL, 24th part: reckoning with objects, owned lists, errors with fields. -/
namespace DL
open PySem PySem.Spec PyProof.Rows L2
theorem envGet (env : Env') (i : Nat) : (match env[i]? with | some (some d) => some d | _ => none) = get? env i := by
  induction env generalizing i with
  | nil => rfl
  | cons o r ih =>
    cases i with
    | zero => cases o <;> rfl
    | succ i => exact ih i
/-- how an __init__'s end is a call's -/
def initR : Out → Res D
  | .nx (some d :: _) st1 => .ok d st1
  | .er x _ st1 => .err x st1
  | _ => .bad
theorem initM_eq {c n : Nat} {m : MS} {ds : List D} {st : List D} (h : ds.length ≤ n - 1) : initM c n m ds st = initR (m (some (.obj c []) :: mkEnv (n - 1) ds) st) := by
  rw [mkEnv_eq (n - 1) ds h]
  unfold initM initR
  cases m (some (.obj c []) :: (ds.map some ++ List.replicate (n - 1 - ds.length) none)) st with
  | nx e s => cases e with
    | nil => rfl
    | cons o e => cases o <;> rfl
  | _ => rfl
def pushR (i : Nat) (o : Option D) (r : Res D) (env : Env') : Out := match o with
  | some (.lst ds) => match r with
    | .ok d st1 => if ds.length < sizeLine then .nx (env.set i (some (.lst (ds ++ [d])))) st1 else .bad
    | .err x st1 => .er x env st1
    | .bad => .bad
  | _ => .bad
theorem mPush_eq (i : Nat) (me : ME) (env : Env') (st : List D) : mPush i me env st = pushR i (get? env i) (me env st) env := by
  unfold mPush pushR
  rw [← envGet]
  cases env[i]? with
  | none => rfl
  | some o => cases o with
    | none => rfl
    | some d => cases d <;> rfl
theorem pushR_ok (i : Nat) (ds : List D) (d : D) (st1 : List D) (env : Env') (h : ds.length < 100000) : pushR i (some (.lst ds)) (.ok d st1) env = .nx (env.set i (some (.lst (ds ++ [d])))) st1 := by
  show (if ds.length < sizeLine then Out.nx (env.set i (some (.lst (ds ++ [d])))) st1 else .bad) = _
  rw [if_pos (Nat.lt_of_lt_of_le h (by decide))]
/-- a method's call, the object known -/
def methR (ci : Nat) (name : Str) (f : List D → M D) (ma : List D → Res (List D)) (d : D) : M D := fun st1 => match d with
  | .obj c fs => if c = ci ∧ fs.lookup name = none then (ma st1).bind fun ds => f (d :: ds) else .bad
  | _ => .bad
def fldSR (okF : Nat → Str → Bool) (f : Str) (c : Nat) (fs : List (Str × D)) (env : Env') (r : Res D) : Out := match r with
  | .ok d st1 => if okF c f = true ∧ fs.length < 1000 then .nx (some (.obj c (putD f d fs)) :: env) st1 else .bad
  | .err x st1 => .er x (some (.obj c fs) :: env) st1
  | .bad => .bad
def raiseR (c : Nat) (fs : List Str) (env : Env') (r : Res (List D)) : Out := match r with
  | .ok ds st1 => if ds.length = fs.length ∧ ds.length ≤ 100 then .er ⟨c, some (fs.zip ds).reverse⟩ env st1 else .bad
  | .err x st1 => .er x env st1
  | .bad => .bad
def chainR (f g : D → D → Option D) (mc : List D → Res D) (x y : D) : M D := fun st2 => match f x y with
  | some (.bl true) => (mc st2).bind fun z => ret? (g y z)
  | some (.bl false) => .ok (.bl false) st2
  | _ => .bad
theorem ev6 :
    (∀ (okF : Nat → Str → Bool) (f : Str) (me : ME) (env : Env') (st : List D), mFld okF f me env st = (me env st).bind fun d => ret? (dFld okF f d)) ∧
    (∀ (f : List D → M D) (dds : List D) (ma : MA) (env : Env') (st : List D), mCallD f dds ma env st = (ma env st).bind fun ds => f (ds ++ dds)) ∧
    (∀ (ci : Nat) (name : Str) (f : List D → M D) (mo : ME) (ma : MA) (env : Env') (st : List D), mMeth ci name f mo ma env st = (mo env st).bind fun d => methR ci name f (ma env) d) ∧
    (∀ (okF : Nat → Str → Bool) (f : Str) (me : ME) (c : Nat) (fs : List (Str × D)) (env : Env') (st : List D), mFldS okF f me (some (.obj c fs) :: env) st = fldSR okF f c fs env (me (some (.obj c fs) :: env) st)) ∧
    (∀ (c : Nat) (fs : List Str) (ma : MA) (env : Env') (st : List D), mRaiseF c fs ma env st = raiseR c fs env (ma env st)) ∧
    (∀ (f g : D → D → Option D) (ma mb mc : ME) (env : Env') (st : List D), mChain f g ma mb mc env st = (ma env st).bind fun x st1 => (mb env st1).bind fun y => chainR f g (mc env) x y) ∧
    (∀ (i : Nat) (m : MA) (env : Env') (st : List D), mSetF i m env st = match m env st with
      | .ok ds st1 => .nx (env.set i (some (.lst ds))) st1
      | .err x st1 => .er x env st1
      | .bad => .bad) ∧
    (∀ (ma mb : ME) (env : Env') (st : List D), mCat ma mb env st = (ma env st).bind fun x st1 => (mb env st1).bind fun y => cat? x y) ∧
    (∀ (i : Nat) (me : ME) (env : Env') (st : List D), mPush i me env st = pushR i (get? env i) (me env st) env) ∧
    (∀ (okI : Nat → Bool) (okT : Tag → Bool) (eqs : Nat → Option (List D → M D)) (ma mb : ME) (env : Env') (st : List D), mEqT okI okT eqs ma mb env st = (ma env st).bind fun x st1 => (mb env st1).bind fun y => eqT okI okT eqs x y) ∧
    (∀ (e : Env') (d : D) (st : List D), initR (.nx (some d :: e) st) = .ok d st) ∧ (∀ (x : Ex) (e : Env') (st : List D), initR (.er x e st) = .err x st) :=
  ⟨fun _ _ _ _ _ => rfl, fun _ _ _ _ _ => rfl, fun _ _ _ _ _ _ _ => rfl, fun _ _ _ _ _ _ _ => rfl, fun _ _ _ _ _ => rfl, fun _ _ _ _ _ _ _ => rfl, fun _ _ _ _ => rfl, fun _ _ _ _ => rfl, mPush_eq, fun _ _ _ _ _ _ _ => rfl, fun _ _ _ => rfl, fun _ _ _ => rfl⟩
theorem ev7 :
    (∀ (i : Nat) (st : List D), fits? [] st = .ok [] st) ∧
    (∀ (xs : List D), dTuple (.lst xs) = some (.tup xs)) ∧ (∀ (xs : List D), dRev (.tup xs) = some (.tup xs.reverse)) ∧ (∀ (xs : List D), dRev (.lst xs) = some (.lst xs.reverse)) ∧
    (∀ (f : D → D → Option D) (g : D → D → Option D) (mc : List D → Res D) (x y : D) (st : List D) (b : Bool), f x y = some (.bl b) → chainR f g mc x y st = if b = true then (mc st).bind fun z => ret? (g y z) else .ok (.bl false) st) ∧
    (∀ (a b : Bool), dIsB (.bl a) (.bl b) = some (.bl (decide (a = b)))) ∧ (∀ (a b : Bool), dNotB (.bl a) (.bl b) = some (.bl (!decide (a = b)))) ∧
    (∀ (x y : D), zipA? [x, y] = zipA? [x, y]) :=
  ⟨fun _ _ => rfl, fun _ => rfl, fun _ => rfl, fun _ => rfl, fun f g mc x y st b h => by unfold chainR; rw [h]; cases b <;> rfl, fun _ _ => rfl, fun _ _ => rfl, fun _ _ => rfl⟩
theorem ev : type_of% ev1 ∧ type_of% ev2 ∧ type_of% ev3 ∧ type_of% ev4 ∧ type_of% ev5 ∧ type_of% ev6 := ⟨ev1, ev2, ev3, ev4, ev5, ev6⟩
/-- a comprehension whose items draw -/
theorem lcD_inv {env : Env'} {g : MG} {me : ME} (P : List D → Prop) (Q : D → Prop) (R : D → Prop) (h : ∀ d st, Q d → P st → ∃ env1 y st', g d env = some env1 ∧ me env1 st = .ok y st' ∧ P st' ∧ R y) :
    ∀ (ds : List D) (st : List D), (∀ d ∈ ds, Q d) → P st → ∃ ys st', lcD env g mYes me ds st = .ok ys st' ∧ P st' ∧ ys.length = ds.length ∧ ∀ y ∈ ys, R y
  | [], st, _, p => ⟨[], st, rfl, p, rfl, fun y hy => by cases hy⟩
  | d :: ds, st, hq, p => by
    obtain ⟨e1, y, s1, a, b, p1, r⟩ := h d st (hq d List.mem_cons_self) p
    obtain ⟨ys, s2, c, p2, l, rs⟩ := lcD_inv P Q R h ds s1 (fun q hh => hq q (List.mem_cons_of_mem _ hh)) p1
    refine ⟨y :: ys, s2, ?_, p2, by simp [l], fun z hz => (List.mem_cons.mp hz).elim (fun e => e ▸ r) (rs z)⟩
    unfold lcD
    simp only [a, mYes, noEr, bind_ok, if_true]
    rw [b]
    simp only [noEr, bind_ok, c]
/-- a comprehension by the items' values -/
theorem lcD_mapL {env : Env'} {g : MG} {mt : MT} {me : ME} {st : List D} {α β : Type} (u : α → D) (v : β → D) (f : α → β) (l : List α) (h : ∀ a ∈ l, ∃ env1, g (u a) env = some env1 ∧ mt env1 st = .ok true st ∧ me env1 st = .ok (v (f a)) st) : lcD env g mt me (l.map u) st = .ok ((l.map f).map v) st := by
  induction l with
  | nil => rfl
  | cons a l ih =>
    obtain ⟨e1, h1, h2, h3⟩ := h a List.mem_cons_self
    have ih := ih fun b hb => h b (List.mem_cons_of_mem _ hb)
    rw [List.map_cons]
    unfold lcD
    simp only [h1]
    rw [h2]
    simp only [noEr, bind_ok, if_pos]
    rw [h3]
    simp only [bind_ok]
    rw [ih]
    rfl
/-- a loop by steps -/
theorem forD_fold {g : MG} {body : MS} {α β : Type} (u : α → D) (E : β → Env' → Prop) (f : β → α → β) {st : List D} (Q : β → List α → Prop) (hQ : ∀ b a l, Q b (a :: l) → Q (f b a) l) :
    ∀ (l : List α) (b : β) (env : Env'), (∀ b a l env, Q b (a :: l) → E b env → ∃ env1 env2, g (u a) env = some env1 ∧ body env1 st = .nx env2 st ∧ E (f b a) env2) → Q b l → E b env → ∃ env', forD g body (l.map u) env st = .nx env' st ∧ E (l.foldl f b) env'
  | [], b, env, _, _, e => ⟨env, rfl, e⟩
  | a :: l, b, env, h, q, e => by
    obtain ⟨e1, e2, h1, h2, h3⟩ := h b a l env q e
    obtain ⟨e3, h4, h5⟩ := forD_fold u E f Q hQ l (f b a) e2 h (hQ b a l q) h3
    refine ⟨e3, ?_, h5⟩
    rw [List.map_cons, forD_cons, h1]
    simp only [h2]
    exact h4
theorem mFor_of {mi : MA} {g : MG} {body : MS} {env : Env'} {st st1 : List D} {ds : List D} {o : Out} (h : mi env st = .ok ds st1) (k : forD g body ds env st1 = o) : mFor mi g body env st = o := by unfold mFor; rw [h]; exact k
theorem mThenA_of {ma : MA} {f : List D → M (List D)} {env : Env'} {st st1 : List D} {xs : List D} {r : Res (List D)} (h : ma env st = .ok xs st1) (k : f xs st1 = r) : mThenA ma f env st = r := by unfold mThenA; rw [h]; exact k
theorem mItems_of {me : ME} {env : Env'} {st st1 : List D} {x : D} {r : Res (List D)} (h : me env st = .ok x st1) (k : items? x st1 = r) : mItems me env st = r := by unfold mItems; rw [h]; exact k
theorem mLC_of {mi : MA} {vs : List Nat} {g : MG} {mt : MT} {me : ME} {env : Env'} {st st1 st2 : List D} {ds ys : List D} (h : mi env st = .ok ds st1) (k : lcD (wipeE env vs) g mt me ds st1 = .ok ys st2) (hl : ys.length ≤ 100000) : mLC mi vs g mt me env st = .ok (.lst ys) st2 := by
  unfold mLC; rw [h, bind_ok, k, bind_ok]
  unfold lstOk
  rw [if_pos (Nat.le_trans hl (by decide))]
theorem mSeq_of {a b : MS} {env e : Env'} {st s : List D} (h : a env st = .nx e s) : mSeq a b env st = b e s := by unfold mSeq; rw [h]
theorem mSet_of {i : Nat} {m : ME} {env : Env'} {st s : List D} {d : D} (h : m env st = .ok d s) : mSet i m env st = .nx (env.set i (some d)) s := by unfold mSet mDo; rw [h]
theorem putD_same (f : Str) (d x : D) (r : List (Str × D)) : putD f d ((f, x) :: r) = (f, d) :: r := by
  unfold putD; rw [if_pos rfl]
theorem putD_ne {f g : Str} (h : g ≠ f) (d x : D) (r : List (Str × D)) : putD f d ((g, x) :: r) = (g, x) :: putD f d r := by
  conv => lhs; unfold putD
  rw [if_neg h]
theorem look_same (f : Str) (x : D) (r : List (Str × D)) : List.lookup f ((f, x) :: r) = some x := by
  rw [List.lookup_cons]; simp
theorem look_ne {f g : Str} (h : f ≠ g) (x : D) (r : List (Str × D)) : List.lookup f ((g, x) :: r) = List.lookup f r := by
  rw [List.lookup_cons]
  have : (f == g) = false := by simpa using h
  rw [this]
end DL

/-! x[i] = e of an owned list -/
namespace DL
open PySem PySem.Spec PyProof.Rows L2
def setIR (i : Nat) (d : D) (ds : List D) (env : Env') : Res D → Out
  | .ok (.int k) st1 => match ixN ds.length k with
    | some j => .nx (env.set i (some (.lst (ds.set j d)))) st1
    | none => .bad
  | .err x st1 => .er x env st1
  | _ => .bad
def mSetI (i : Nat) (mi m : ME) : MS := mDo m fun d env st => match env[i]? with
  | some (some (.lst ds)) => setIR i d ds env (mi env st)
  | _ => .bad
section
variable {G : Glb} {X : Cx} {W : WX} {O Ob : Ow} {OE : Ow → Prop} {pos : Pos}
theorem ds_setI (i : Nat) {x : Str} {p1 p3 : Pos} {ei e : Expr} {mi me : ME} (he : DE G X W O e me) (hx : DE G X W O ei mi) (hO : OE O := by first | trivial | rfl) (hN : X.N[i]? = some x := by rfl) (hm : i ∈ O.own := by decide) (hxi : O.exi ≠ some i := by decide) (hsf : O.slf ≠ some i := by decide)
    (hv : Vis X.env.scope x := by first | exact Or.inl rfl | exact Or.inr (Or.inl rfl) | exact Or.inr (Or.inr rfl)) (hd : (x == ("__debug__" : Str)) = false := by decide) (hcd : (x == ("__classdict__" : Str)) = false := by decide)
    (ha : ∀ v, assign (.Subscript (.Name x p1) ei p3) X.env v = (do
      let ov ← holding [v] (eval (.Name x p1) X.env)
      let iv ← holding [v, ov] (eval ei X.env)
      standAt p3
      holding [v, ov, iv] (setItem ov iv v)
      release [v, ov, iv] []) := by intro _; rfl)
    (hs : swapsWithSole [.Subscript (.Name x p1) ei p3] e pos.line X.env = pure false := by rfl) (hw : swappedStores [.Subscript (.Name x p1) ei p3] e X.env = pure none := by rfl)
    (h1 : (assignEach [.Subscript (.Name x p1) ei p3] X.env).map (·.2) = [assign (.Subscript (.Name x p1) ei p3) X.env] := by rfl) :
    DS G X W Ob OE O (.Assign [.Subscript (.Name x p1) ei p3] e pos) O (mSetI i mi me) := by
  obtain ⟨t, p, w⟩ := he.ex
  obtain ⟨t2, p2, w2⟩ := hx.ex
  refine ⟨_, ps_asg p (pg_sub (pe_var hN hv hd hcd) p2 set_list ha) hs hw h1, fun b S env st σ H D I h => do_part hO w I h fun v d S' H' st' I' r q => ?_⟩
  cases e1 : env[i]? with
  | none => rw [e1] at q; exact q.elim
  | some o =>
    rw [e1] at q
    cases o with
    | none => exact q.elim
    | some d0 =>
      obtain ⟨a, ws, es, q1, q2, q3, q4, q5, q6, q7⟩ := I'.own i d0 hm e1
      subst q1
      dsimp only at q
      refine ⟨_, q2, w2 b S' env st' σ H' _ I' ?_⟩
      cases e2 : mi env st' with
      | ok di st1 =>
        rw [e2] at q
        intro vi S2 H2 x2 su2 so2 r2
        cases di with
        | int k =>
          cases r2
          have I2 := I'.ext x2 su2 so2
          obtain ⟨a', ws', es', y1, y2, y3, y4, y5, y6, y7⟩ := I2.own i _ hm e1
          cases y1
          have ea : a' = a := by
            have := y2.symm.trans q2
            simpa using this
          subst ea
          unfold setIR at q
          dsimp only at q
          cases ej : ixN es.length k with
          | none => rw [ej] at q; exact q.elim
          | some j =>
            rw [ej] at q
            exact ⟨a', ws', k, j, rfl, rfl, y3, by rw [y7.len]; exact ej, q S2 σ _ x2.same (I2.own_upd hm hxi hsf e1 q2 (Reps.set j y7 (Rep.mono x2.same r)))⟩
        | _ => exact q.elim
      | err y st1 =>
        rw [e2] at q
        intro cls dd S2 H2 x2 su2 so2 r2
        exact q cls dd O S2 σ H2 hO x2.same (I'.ext x2 su2 so2) r2
      | bad => rw [e2] at q; exact q.elim
/-- x = list(y), x's own -/
def lst1? (xs : List D) : M (List D) := fun st => match c1 dList xs with
  | some (.lst ds) => .ok ds st
  | _ => .bad
theorem df_list {x : Str} {p : Pos} {e : Expr} {es : List Expr} {ma' : MA} (hK : X.K = G.K) (hm : X.mg x = none) (hv : bootBuiltins x = some (.type "list")) (ha : DA G X W O (e :: es) ma') (hg : Gl X x := by rfl)
    (hn : x ≠ "__name__" := by decide) (hdb : (x == ("__debug__" : Str)) = false := by decide)
    (he : starEach (e :: es) X.env = (false, eval e X.env) :: starEach es X.env := by rfl) (hpl : (backTo pos (starEach es X.env)).any (·.1) = false := by rfl) : DF G X W O (.Call (.Name x p) (e :: es) [] pos) (mThenA ma' lst1?) := by
  obtain ⟨t, pa, w⟩ := ha.ex
  refine ⟨_, pe_callTy call_list_of hg hm hv pa hn hdb he hpl, fun b S env st σ H Q I h => w b S env st σ H _ I (wpR_imp (wpR_bind h) (fun ds st1 h1 => ?_) fun _ _ z => z)⟩
  intro xs S1 H1 x1 su1 so1 r1
  unfold lst1? at h1
  split at h1
  · rename_i es e
    obtain ⟨y, rfl, e⟩ := c1_some e
    obtain ⟨v, rfl, rv⟩ := reps1 r1
    cases rv with
    | tup h r2 => cases e; exact ⟨_, _, rfl, .inr (hK ▸ Same.sqT su1 h.sqT), fun l hl => h1 l _ S1 H1 x1 su1 so1 hl r2⟩
    | lst h r2 => cases e; exact ⟨_, _, rfl, .inl (SqL.of (su1 _ _ h)), fun l hl => h1 l _ S1 H1 x1 su1 so1 hl r2⟩
    | rol h r2 => cases e; exact ⟨_, _, rfl, .inl (hK ▸ su1.seq h), fun l hl => h1 l _ S1 H1 x1 su1 so1 hl r2⟩
    | _ => cases e
  · exact h1.elim
end
end DL

/-! x.remove(e) of an owned list of data -/
namespace DL
open PySem PySem.Spec PyProof.Rows L2
def rRemD (K : PySem.W.Frag) : V → List V → Hp → VK → Prop := fun x xs H Q => ∃ (l : Addr) (ws : List V) (y : V) (ps : List PyData) (d : PyData) (j : Nat), x = .ref l ∧ xs = [y] ∧ H l = some (.lst ws) ∧ DpAll K H ws ps ∧ Dp K H y d ∧
  PyData.plainAll ps = true ∧ d.plain = true ∧ PyData.depthAll ps ≤ 60 ∧ SeqAt.dataPlace ps d = some j ∧ Q .non (upd H l (.lst (ws.eraseIdx j)))
theorem mt_remD {X : Cx} (hu : X.A.units + 64 < cLine) : MtM X "list.remove" (rRemD X.K) := by
  intro pins s σ H x xs v us Q I rx rxs h
  obtain ⟨l, ws, y, ps, d, j, rfl, rfl, hH, ha, hd, hp, hpd, hde, hj, q⟩ := h
  cases rx
  obtain ⟨u, rfl, ru⟩ := rxs.one
  obtain ⟨z, its, n, r, hl, e⟩ := I.lstM hH
  obtain ⟨as, r1⟩ := Dp.readsAll I ps ws its ha r
  obtain ⟨bs, r2⟩ := Dp.reads I d y u hd ru
  refine SeqAt.remove_list_data (vs := its.toArray) ⟨_, e, rfl, n, rfl⟩ (by simpa using r1) r2 hp hpd (by omega) hj (by rw [List.size_toArray, ← hl]; exact z) ?_
  have rr := r.eraseIdx j
  refine ⟨.non, _, I.lset (its' := its.eraseIdx j) (t' := s.toks) hH e ?_ rr ?_, rfl, q⟩
  · show its.toArray.eraseIdxIfInBounds j = (its.eraseIdx j).toArray
    rw [List.eraseIdxIfInBounds_toArray]
  · have := List.length_eraseIdx_le ws j
    omega
def remD (xs : List D) (d : D) : Option (List D) := if PyData.canLayAll0 (toPs xs) = true ∧ (toP d).canLay0 = true ∧ PyData.plainAll (toPs xs) = true ∧ (toP d).plain = true ∧ PyData.depthAll (toPs xs) ≤ 60 then (SeqAt.dataPlace (toPs xs) (toP d)).map fun j => xs.eraseIdx j else none
def remR (i : Nat) (ds : List D) (env : Env') : Res D → Out
  | .ok d st1 => match remD ds d with
    | some ys => .nx (env.set i (some (.lst ys))) st1
    | none => .bad
  | .err x st1 => .er x env st1
  | .bad => .bad
def mRem (i : Nat) (m : ME) : MS := fun env st => match env[i]? with
  | some (some (.lst ds)) => remR i ds env (m env st)
  | _ => .bad
theorem Reps.eraseIdx {G : Glb} {ad : List Addr} {S : Hp} : ∀ {vs : List V} {ds : List D} (j : Nat), Reps G ad S vs ds → Reps G ad S (vs.eraseIdx j) (ds.eraseIdx j)
  | _, _, _, .nil => .nil
  | _, _, 0, .cons h r => r
  | _, _, j + 1, .cons h r => .cons h (Reps.eraseIdx j r)
section
variable {G : Glb} {X : Cx} {W : WX} {O Ob : Ow} {OE : Ow → Prop} {pos : Pos} {e : Expr} {me : ME}
theorem ds_rem (i : Nat) {x : Str} {p1 p2 cp : Pos} (hK : X.K = G.K) (hu : X.A.units + 64 < cLine) (he : DE G X W O e me) (hO : OE O := by first | trivial | rfl) (hi : X.N[i]? = some x := by rfl) (hm : i ∈ O.own := by decide) (hxi : O.exi ≠ some i := by decide) (hsf : O.slf ≠ some i := by decide) (hv : Vis X.env.scope x := by first | exact Or.inl rfl | exact Or.inr (Or.inl rfl) | exact Or.inr (Or.inr rfl))
    (hd : (x == ("__debug__" : Str)) = false := by decide) (hcd : (x == ("__classdict__" : Str)) = false := by decide)
    (hbase : attributeBase (.Name x p1) "remove" X.env (eval (.Name x p1) X.env) = eval (.Name x p1) X.env := by rfl)
    (hfew : ((backTo cp (starEach [e] X.env)).all (fun x => !x.1) && (backToKw cp (keywordEach [] X.env)).all (fun x => x.1.isSome)
      && decide ([e].length + ([] : List Keyword).length + (if ([] : List Keyword).isEmpty then 0 else 1) < 30)) = true := by rfl) (hline : (p2.endLine == cp.line) = true := by rfl)
    (hst : starEach [e] X.env = (false, eval e X.env) :: starEach [] X.env := by rfl) (hpl : (backTo cp (starEach [] X.env)).any (·.1) = false := by rfl)
    (hs : swapsWith (.Call (.Attribute (.Name x p1) "remove" p2) [e] [] cp) none pos.line X.env = pure false := by rfl) : DS G X W Ob OE O (.Expr (.Call (.Attribute (.Name x p1) "remove" p2) [e] [] cp) pos) O (mRem i me) := by
  obtain ⟨t, p, w⟩ := he.ex
  refine ⟨_, ps_expr (pe_bm PySem.F.plainAttrs_list PySem.F.slot_list_remove PySem.F.type_list_remove (mt_remD hu) (pe_var hi hv hd hcd) (pa_cons p pa_nil hst) hbase hfew hline hst hpl) hs, fun b S env st σ H D I h => ?_⟩
  unfold mRem at h
  cases e1 : env[i]? with
  | none => rw [e1] at h; exact h.elim
  | some o => cases o with
    | none => rw [e1] at h; exact h.elim
    | some d0 =>
      obtain ⟨a, ws, es, p1, p2, p3, p4, p5, p6, p7⟩ := I.own i d0 hm e1
      subst p1
      rw [e1] at h
      refine ⟨_, p2, Or.inl ⟨rfl, _, Or.inl (Or.inl p3)⟩, w b S env st σ H _ I ?_⟩
      cases e2 : me env st with
      | ok d st1 =>
        dsimp only at h
        rw [e2] at h
        intro v S' H' x' su so r
        have I' := I.ext x' su so
        obtain ⟨a', ws', es', q1, q2, q3, q4, q5, q6, q7⟩ := I'.own i _ hm e1
        cases q1
        have ea : a' = a := by
          have := q2.symm.trans p2
          simpa using this
        subst ea
        unfold remR at h
        dsimp only at h
        cases er : remD es d with
        | none => rw [er] at h; exact h.elim
        | some ys =>
          rw [er] at h
          unfold remD at er
          split at er
          · rename_i hc
            obtain ⟨c1, c2, c3, c4, c5⟩ := hc
            cases ej : SeqAt.dataPlace (toPs es) (toP d) with
            | none => rw [ej] at er; cases er
            | some j =>
              rw [ej] at er
              cases er
              exact ⟨a', ws', v, toPs es, toP d, j, rfl, rfl, q3, hK ▸ Reps.dp su q7 c1, hK ▸ Rep.dp su r c2, c3, c4, c5, ej, h S' σ _ x'.same (I'.own_upd hm hxi hsf e1 p2 (Reps.eraseIdx j q7))⟩
          · cases er
      | err y st1 =>
        dsimp only at h
        rw [e2] at h
        intro cls dd S' H' x' su so r
        exact h cls dd O S' σ H' hO x'.same (I.ext x' su so) r
      | bad =>
        dsimp only at h
        rw [e2] at h
        exact h.elim
end
/-! isinstance of a caught error, with fields or without -/
section
open PySem.W
variable {P : Program} {w : World} {A : Around} {E : Value → Shared → Prop} {K : Frag} {x D : Addr} {ob : Obj} {od : Option Obj}
theorem obj_descr {n : Str} {at_ get : Value} (c : hasDictIn K D = true) (f : findIn K (.ref D) n = some (some at_)) (g : specialIn K at_ "__get__" = some (some get)) (t : takesIn K at_ = some true) : findObj K D od n = some (.bind get at_) := by
  obtain ⟨cd, e, _⟩ := any_some c
  unfold findObj
  simp [e, f, g, t]
set_option maxHeartbeats 1000000 in
/-- e.__class__ of an error e of an own class, whatever its dict -/
theorem err_class {s : Shared} {Q : Option Value → Shared → Prop} (c : ExcC K D) (kin : K.In s.heap) (i : InstAt s.heap x ob D od) (q : Q (some (.ref D)) { s with toks := s.toks + 1 }) : wpAny (model P w) A (getAttr? (.ref x) "__class__") Q E s := by
  obtain ⟨h, gl, dd, tk, os⟩ := s
  have ty := i.type (M := model P w)
  have own := looks_findIn (M := model P w) kin c.hg
  have late := looks_findIn (M := model P w) kin c.hk
  have found := looks_find (M := model P w) kin i (obj_descr (od := od) c.hd c.ha c.hn c.ht)
  have isE : Looks (model P w) h (isInstance (.ref x) (.type "BaseException")) true := ty.andThen (looks_subIn kin c.hs)
  have notO : (onTheHeap (Value.ref D) && Value.builtin "BaseException.__getattribute__" == Value.builtin "object.__getattribute__") = false := by
    have : (Value.builtin "BaseException.__getattribute__" == Value.builtin "object.__getattribute__") = false := by decide +kernel
    rw [this]; rfl
  unfold getAttr? getAttrBy? getAttrBy
  refine wpAny_bind (wpAny_mkText (wpAny_bind (wpAny_attempt (wpAny_holding (wpAny_bind (ty.at (wpAny_bind (own.at ?_))))))))
  show wpAny _ _ (if (onTheHeap (Value.ref D) && Value.builtin "BaseException.__getattribute__" == Value.builtin "object.__getattribute__") = true then _ else _) _ _ _
  rw [notO]
  simp only [Bool.false_eq_true, if_false]
  unfold getAttrByItsOwn hookBefore
  refine wpAny_bind ?_
  rw [if_pos (show onTheHeap (Value.ref D) = true from rfl)]
  refine late.at (wpAny_bind (wpAny_attempt (wpAny_holding ?_)))
  unfold callGetattribute
  rw [show (false && onTheHeap (Value.builtin "BaseException.__getattribute__")) = false from rfl]
  simp only [Bool.false_eq_true, if_false]
  unfold boundAndCalled
  rw [PySem.F.excAttr_ValueError.ga.bind (.ref x)]
  refine wpAny_bind (wpAny_pure ?_)
  show wpAny (model P w) _ (call (Value.builtin "BaseException.__getattribute__") [Value.ref x, Value.str "__class__" tk]) _ _ _
  refine wpAny_call (codeAny_call_builtin PySem.F.excAttr_ValueError.ga.plain PySem.F.entry_bexc_ga ?_)
  refine @check_slot (model P w) _ _ (⟨h, gl, dd, tk + 1, os⟩ : Shared) "BaseException.__getattribute__" "BaseException" "__getattribute__" (Value.ref x) [Value.str "__class__" tk] [] _ (by decide +kernel) (by decide +kernel) isE (PySem.F.args_bexc_ga (Value.ref x) (Value.str "__class__" tk)) ?_
  unfold Builtin.«object.__getattribute__»
  refine wpAny_bind (wpAny_of_eq (a := ((Value.ref x : Value), [Value.str "__class__" tk])) (by first | rfl | (simp only [slotArgs]; rfl)) (wpAny_bind (wpAny_pure (wpAny_bind (ty.at (wpAny_bind (found.at ?_)))))))
  refine wpAny_bind (wpAny_holding (wpAny_call (class_get (s := ⟨h, gl, dd, tk + 1, os⟩) (ox := ob) (od := od) kin i c.hm (wpAny_pure ?_))))
  show wpAny _ _ (handedOut (.ref D)) _ _ _
  rw [handedOut_of (v := .ref D) rfl]
  first
    | exact wpAny_pure (wpAny_pure q)
    | exact wpAny_pure q
    | exact wpAny_pure (wpAny_bind (wpAny_pure (wpAny_pure q)))
end
section
open PySem.W
variable {K : Frag} {x D : Addr} {ob : Obj} {od : Option Obj}
theorem err_kit (c : ExcC K D) : KitX K (.ref x) (.ref D) (fun h => InstAt h x ob D od) where
  ty := fun _ _ _ j => j.type
  it := fun _ _ kin _ => by
    obtain ⟨_, e, _⟩ := any_some c.hd
    unfold clsIn at e
    split at e
    · rename_i part
      intro _ _ _ _ there q
      unfold isType loadHead
      exact wpAny_bind (wpAny_loadPart (there _ _ (kin _ _ part)) (wpAny_pure q))
    · cases e
  ne := (handS_kitx_exc (x := x) (ox := ob) c.hg c.hk c.hs c.hd c.ha c.hn c.ht c.hm).ne
  ca := fun kin j q => err_class c kin j q
end
section
variable {G : Glb} {X : Cx} {W : WX} {pos : Pos}
/-- the dict of a caught error, where it has one -/
def DictAt (H : Hp) : Option Addr → Prop
  | none => True
  | some a => ∃ fs, H a = some (.xd fs)
theorem call_isEF {a D : Addr} {dd : Option Addr} {oe : Obj} {pn : List (Addr × Obj)} (C : ExcC X.K D) (hz : Zc (.ref D) dd oe) (hf : ∃ vs, oe.data = .fields vs) : CallR (X.suite a ((a, oe) :: pn)) (.builtin "isinstance") (fun xs H Q => DictAt H dd ∧ rIsE X.K D a xs H Q) := by
  intro pins s σ H xs us Q I r h
  obtain ⟨hd, c, cv, b, rfl, hcv, e, q⟩ := h
  cases r with
  | cons rx rr =>
    cases rr with
    | cons rt rr =>
      cases rr
      cases rx
      have ec := hcv _ rt
      subst ec
      obtain ⟨at_, _⟩ := I.pin (a, oe) (List.mem_append.mpr (.inl List.mem_cons_self))
      obtain ⟨vs, data⟩ := hf
      have no : PySem.W.notCls oe = true := by unfold PySem.W.notCls; rw [data]
      obtain ⟨od, J⟩ : ∃ od, PySem.W.InstAt s.heap a oe D od := by
        cases dd with
        | none => exact ⟨none, at_, hz.1, no, by rw [hz.2]; trivial⟩
        | some dx =>
          obtain ⟨fs, hx⟩ := hd
          obtain ⟨mA, hns, _⟩ := (show ObjOk X.prog X.w H s.heap dx (.xd fs) from I.hok dx _ hx)
          obtain ⟨od, ho, _⟩ := lookIn_ns hns
          exact ⟨some od, at_, hz.1, no, by rw [hz.2]; exact ho⟩
      exact PySem.W.kia_one (err_kit C) I.kIn J e (fun z => nomatch z) fun tk => ⟨.bl b, H, I.kept (t' := tk) fun _ _ z => z, rfl, q⟩
def mIsXF (i : Nat) (tab : Nat → D → Option Bool) (mc : ME) : ME := fun env st => match env[i]? with
  | some (some (.obj c _)) => (mc env st).bind fun d => ret? ((tab c d).map .bl)
  | _ => .bad
theorem de_isXF {own : List Nat} {a : Addr} {oe : Obj} {cls : Value} {dd : Option Addr} {pn : List (Addr × Obj)} {p pe : Pos} {n : Str} {C : Expr} {mc : ME} (i : Nat) (tab : Nat → D → Option Bool) (hz : Zc cls dd oe) (hf : ∃ vs, oe.data = .fields vs) (hK : X.K = G.K) (hm : X.mg "isinstance" = none)
    (ht : ∀ c d b, tab c d = some b → ExcC G.K (G.cl c) ∧ ∃ cv, clsV G d = some cv ∧ PySem.W.kitOne G.K (.ref (G.cl c)) cv = some b) (hC : DE G (X.suite a ((a, oe) :: pn)) W0 ⟨own, some i, (a, cls, dd), none, (0, 0)⟩ C mc)
    (hi : X.N[i]? = some n := by rfl) (hg : Gl X "isinstance" := by rfl) (hv : Vis X.env.scope n := by first | exact Or.inl rfl | exact Or.inr (Or.inl rfl) | exact Or.inr (Or.inr rfl)) (hd : (n == ("__debug__" : Str)) = false := by decide) (hcd : (n == ("__classdict__" : Str)) = false := by decide)
    (he : starEach [.Name n pe, C] X.env = (false, eval (.Name n pe) X.env) :: starEach [C] X.env := by rfl) (he2 : starEach [C] X.env = (false, eval C X.env) :: starEach [] X.env := by rfl) (hpl : (backTo pos (starEach [C] X.env)).any (·.1) = false := by rfl) :
    DE G (X.suite a ((a, oe) :: pn)) W0 ⟨own, some i, (a, cls, dd), none, (0, 0)⟩ (.Call (.Name "isinstance" p) [.Name n pe, C] [] pos) (mIsXF i tab mc) := by
  obtain ⟨t, pc, w⟩ := hC.ex
  have hr : CallR (X.suite a ((a, oe) :: pn)) (.builtin "isinstance") (fun xs H Q => ∃ D, cls = .ref D ∧ ExcC X.K D ∧ DictAt H dd ∧ rIsE X.K D a xs H Q) := by
    intro pins s σ H xs us Q I r h
    obtain ⟨D, e1, hCx, h⟩ := h
    subst e1
    exact call_isEF hCx hz hf pins s σ H xs us Q I r h
  refine ⟨_, pe_callB hr hg hm PyProof.Rows.boot_isinstance (pa_cons (pe_var (i := i) hi hv hd hcd) (pa_cons pc pa_nil he2) he) (by decide) (by decide) he hpl, fun b S env st σ H Q I h => ?_⟩
  unfold mIsXF at h
  split at h
  · rename_i c u e
    obtain ⟨x, q1, q2, q3⟩ := I.exc i _ rfl e
    have rx : cls = .ref (G.cl c) ∧ DictAt S dd := by
      obtain ⟨c', fs⟩ := x
      cases fs with
      | none =>
        cases q1
        have z : dd = none := q3.2
        exact ⟨q3.1, by rw [z]; trivial⟩
      | some fs =>
        cases q1
        obtain ⟨g1, ad', vs, g2, g3, g4⟩ := q3
        have z : dd = some ad' := g2
        exact ⟨g1, by rw [z]; exact ⟨vs, g3⟩⟩
    refine ⟨_, q2, w b S env st σ H _ I (wpR_imp (wpR_bind h) (fun d st1 h1 => ?_) fun _ _ z => z)⟩
    intro v S1 H1 x1 su1 so1 r1
    cases et : tab c d with
    | none => rw [et] at h1; exact h1.elim
    | some bb =>
      rw [et] at h1
      obtain ⟨hE, cv, hcv, hk⟩ := ht c d bb et
      have hdd : DictAt H1 dd := by
        cases dd with
        | none => trivial
        | some ax => obtain ⟨fs, hx⟩ := rx.2; exact ⟨fs, su1 _ _ (x1.same _ _ hx)⟩
      exact ⟨_, rx.1, hK ▸ hE, hdd, v, cv, bb, rfl, cls_rel r1 hcv, hK ▸ hk, h1 _ _ _ x1 su1 so1 (.bl _)⟩
  · exact h.elim
end
/-! a string times a number -/
def rMulS : R2 := fun x y H Q => ∃ (z : Str) (n : Int), x = .str z ∧ y = .int n ∧ PySem.MulOk z n ∧ Q (.str (PySem.Txt.mul z n)) H
theorem op_mulS {X : Cx} : OpR X (binaryOp .Mult) rMulS := by
  intro pins s σ H x y v u Q I rx ry h
  obtain ⟨z, n, rfl, rfl, ok, q⟩ := h
  obtain ⟨t, rfl⟩ := rx
  obtain ⟨t', rfl⟩ := ry
  exact PySem.SB.mul ok fun tk k => ⟨.str (PySem.Txt.mul z n), H, I.kept (t' := k) fun _ _ z => z, ⟨tk, rfl⟩, q⟩
noncomputable def dMulS : D → D → Option D
  | .str z, .int n => @ite _ (PySem.MulOk z n) (Classical.propDecidable _) (some (.str (PySem.Txt.mul z n))) none
  | _, _ => none
theorem opd_mulS {G : Glb} : OpD G rMulS dMulS := ⟨fun ad S H st x y dx dy d Q su so rx ry e q => by
  unfold dMulS at e
  split at e
  · split at e
    · rename_i ok
      cases e
      cases rx; cases ry
      exact ⟨_, _, rfl, rfl, ok, Post.here su so (.str _) q⟩
    · cases e
  · cases e⟩
/-! len(x) by x's own __len__ -/
section
variable {X : Cx} {CX : CXT} {n : Nat} {C f : Addr} {fd : FuncData} {ps : List Str} {sp : Sp}
def rLenO (C : Addr) (sp : Sp) : List V → Hp → VK → Prop := fun xs H Q => ∃ (a dx : Addr) (fs : List (Str × V)), xs = [.ref a] ∧ H a = some (.ins C dx fs) ∧ sp [.ref a] H (fun v H' => (∃ k : Int, v = .int k ∧ 0 ≤ k ∧ k < 2 ^ 63) ∧ Q v H') (fun _ _ _ => False)
theorem call_lenO (F : FnOk X.prog X.w X.K X.mg X.base (L2.CX X.prog X.w) n f fd ps sp) (rm : Room (n + 1) X.A) (at_ : PySem.W.findIn X.K (.ref C) "__len__" = some (some (.ref f))) (isf : PySem.W.isFn X.K (.ref f) = true) (bn : Binds X.K fd ps []) : CallR X (.builtin "len") (rLenO C sp) := by
  intro pins s σ H xs us Q I r h
  obtain ⟨a, dx, fs, rfl, ha, go⟩ := h
  cases r with
  | cons rx rr =>
    cases rr
    cases rx
    obtain ⟨mA, J, _⟩ := ins_get I.hok ha
    obtain ⟨od, J, _⟩ := J.look
    obtain ⟨m, hF⟩ := I.fr
    refine PySem.W.len_K hF I.ok.mod.kin J at_ isf ?_
    have hl : ([Value.ref a] ++ [] : List Value).length = ps.length := F.len [V.ref a] _ _ _ go
    refine wpAny_call (codeAny_mono (F.run X.A.in1 X.stack s H ⟨[Value.ref a], []⟩ ([Value.ref a] ++ []) [V.ref a] _ _ rm.in1 I.env0.in1 (bn s [Value.ref a] I.kIn hl) (show Vals [V.ref a] ([Value.ref a] ++ []) from .cons rfl .nil) go) fun r s' hq => ?_)
    cases r with
    | error e => obtain ⟨_, _, _, _, _, _, _, _, _, _, _, _, z⟩ := hq; exact z.elim
    | ok fl =>
      cases fl with
      | next => exact False.elim hq
      | brk => exact False.elim hq
      | cont => exact False.elim hq
      | ret u =>
        obtain ⟨w, H', I', rw_, ⟨k, ek, k0, k1⟩, q⟩ := I.after hq
        subst ek
        obtain ⟨t, rfl⟩ := rw_
        exact ⟨⟨k0, k1⟩, .int k, H', I'.tok _, ⟨_, rfl⟩, q⟩
end
noncomputable def lenBack : D → M D
  | .int k => @ite _ (0 ≤ k ∧ k < 2 ^ 63) (Classical.propDecidable _) (fun st => .ok (.int k) st) (fun _ => .bad)
  | _ => fun _ => .bad
noncomputable def lenM (ci : Nat) (m : List D → M D) : D → M D := fun x st1 => match x with
  | .obj c fs => if c = ci then (noEr (m [.obj c fs] st1)).bind fun d => lenBack d else .bad
  | _ => .bad
noncomputable def mLenM (ci : Nat) (m : List D → M D) (me : ME) : ME := fun env st => (me env st).bind fun x => lenM ci m x
section
variable {G : Glb} {X : Cx} {W : WX} {O : Ow} {pos p : Pos} {e : Expr} {me : ME} {k j : Nat} {f : Addr} {fd : FuncData} {ps : List Str} {m : List D → M D} {ci : Nat}
theorem de_lenM (c : XC k G X W) (F : FnOk X.prog X.w X.K X.mg X.base (L2.CX X.prog X.w) j f fd ps (spD G 1 m)) (at_ : PySem.W.findIn G.K (.ref (G.cl ci)) "__len__" = some (some (.ref f))) (isf : PySem.W.isFn G.K (.ref f) = true) (bn : Binds X.K fd ps []) (hm : X.mg "len" = none)
    (he : DE G X W O e me) (hjk : j + 1 ≤ k := by decide) (hg : Gl X "len" := by rfl) (hst : starEach [e] X.env = (false, eval e X.env) :: starEach [] X.env := by rfl) (hpl : (backTo pos (starEach [] X.env)).any (·.1) = false := by rfl) : DE G X W O (.Call (.Name "len" p) [e] [] pos) (mLenM ci m me) := by
  have hK := c.K
  obtain ⟨t, pe, w⟩ := he.ex
  refine ⟨_, pe_callB (call_lenO (C := G.cl ci) F (c.hr.mono hjk) (hK ▸ at_) (hK ▸ isf) bn) hg hm PySem.boot_len (pa_cons pe pa_nil hst) (by decide) (by decide) hst hpl, fun b S env st σ H Q I h => w b S env st σ H _ I (wpR_imp (wpR_bind h) (fun dx st1 h1 => ?_) fun _ _ z => z)⟩
  intro x S1 H1 x1 su1 so1 r1
  unfold lenM at h1
  split at h1
  case h_2 => exact h1.elim
  rename_i cc fs
  split at h1
  case isFalse => exact h1.elim
  rename_i ok
  subst ok
  cases r1 with
  | obj h2 r2 =>
    rename_i aa dd vs
    refine ⟨aa, dd, vs, rfl, su1 _ _ h2, ⟨⟨S1, H1, b.ad⟩, _, st1, rfl, rfl, su1, so1, .cons (.obj h2 r2) .nil, ?_⟩⟩
    have hk2 := wpR_bind h1
    refine wpR_imp (wp_noEr hk2) (fun d st3 z => ?_) fun _ _ z => z
    intro v S3 H3 x3 su3 so3 r3
    unfold lenBack at z
    cases r3 with
    | int i =>
      dsimp only at z
      split at z
      · rename_i bd
        exact ⟨⟨i, rfl, bd.1, bd.2⟩, (Post.from_ x1 so1 z) (.int i) S3 H3 x3 su3 so3 (.int i)⟩
      · exact z.elim
    | _ => exact z.elim
end
/-! {}: only its type is known -/
theorem de_dic {G : Glb} {X : Cx} {W : WX} {O : Ow} {pos : Pos} : DE G X W O (.Dict [] [] pos) (mC .dic) :=
  ⟨_, pe_dnewK, fun b S env st σ H Q I h p hp => Post.new (st := st) I.sub I.sto hp (.dic upd_same) h⟩
end DL

open PySem PySem.W PyProof.Rows
set_option maxHeartbeats 0 in
open_top hd for PySem.Challenge.rw_untoldgaps_k05_gaps_moments_balls_and_wi
namespace My
open PySem PySem.Spec PyProof.Rows L2 DL
abbrev c_GapError : Nat := 0
abbrev c_BadRatio : Nat := 1
abbrev c_BadRow : Nat := 2
abbrev c_BadGaps : Nat := 3
abbrev c_BadMoment : Nat := 4
abbrev c_NoBall : Nat := 5
abbrev c_Wide : Nat := 6
abbrev c_Row : Nat := 7
def clX_BadGaps : Nat → Option Bool := fun c => match c with
  | 1 => some false
  | 2 => some false
  | 3 => some true
  | 4 => some false
  | 5 => some false
  | 6 => some false
  | _ => none
def clX_BadMoment : Nat → Option Bool := fun c => match c with
  | 1 => some false
  | 2 => some false
  | 3 => some false
  | 4 => some true
  | 5 => some false
  | 6 => some false
  | _ => none
def clX_NoBall : Nat → Option Bool := fun c => match c with
  | 1 => some false
  | 2 => some false
  | 3 => some false
  | 4 => some false
  | 5 => some true
  | 6 => some false
  | _ => none
def clX_Wide : Nat → Option Bool := fun c => match c with
  | 1 => some false
  | 2 => some false
  | 3 => some false
  | 4 => some false
  | 5 => some false
  | 6 => some true
  | _ => none
def tabX : Nat → D → Option Bool := fun c d => match c, d with
  | 3, .cls 0 => some true
  | 4, .cls 0 => some true
  | 5, .cls 0 => some true
  | 6, .cls 0 => some true
  | 3, .ty n => if n = "ValueError" then some true else none
  | 4, .ty n => if n = "ValueError" then some true else none
  | 5, .ty n => if n = "ValueError" then some true else none
  | 6, .ty n => if n = "ValueError" then some true else none
  | _, _ => none
def okF : Nat → Str → Bool := fun c f => match c with
  | 7 => (["weights", "speeds", "wall", "pairs", "gap_count", "is_like", "first_sum", "second_sum"] : List Str).elem f
  | _ => false
def okI : Nat → Bool := fun c => match c with
  | 7 => true
  | _ => false
def okT : Tag → Bool := fun t => match t with
  | .ty n => (["NoneType", "bool", "int", "str", "tuple", "list"] : List String).elem n
  | .cl c => okI c
def tabC : Tag → Nat → Option Bool := fun t c => match t, c with
  | .ty n, 7 => if (["NoneType", "bool", "int", "str", "tuple", "list"] : List String).elem n then some false else none
  | .cl 7, 7 => some true
  | _, _ => none
def okX : Nat → Str → Bool := fun c f => match c with
  | 2 => (["index", "what"] : List Str).elem f
  | 3 => (["what"] : List Str).elem f
  | 4 => (["moment"] : List Str).elem f
  | 5 => (["ball"] : List Str).elem f
  | _ => false
noncomputable def b_Row___len__ : MS :=
    mRet (mCall1 (c1 dLen) (mCons (mFld okF "weights" (mVar 0)) (mNil)))
noncomputable def m_Row___len__ : List D → M D := fnM 1 b_Row___len__
noncomputable def b__law_hand : MS :=
    mSeq (mSet 1 (mC (.int 0)))
    (mSeq ((mFor (mThenA (mCons (mVar 0) (mNil)) enum?) (gTp (gsCons (gNm 2) (gsCons (gNm 3) (gsNil)))) (mSet 1 (mOp dMod (mCall1 (c1 dInt1) (mCons (mOp dAdd (mOp dMul (mVar 1) (mC (.int 31))) (mOp dMul (mCall1 (c1 dInt1) (mCons (mVar 3) (mNil))) (mOp dAdd (mVar 2) (mC (.int 7))))) (mNil))) (mC (.int 2147483629))))))
    (mRet (mLst (mCons ((mLC (mItems (mVar 0)) [3] (gNm 3) (mYes) (mCall1 (c1 dAbs) (mCons (mCall1 (c1 dInt1) (mCons (mVar 3) (mNil))) (mNil))))) (mCons (mC (.int 0)) (mCons (mC (.int 0)) (mCons (mVar 1) (mNil))))))))
noncomputable def m__law_hand : List D → M D := fnM 4 b__law_hand
noncomputable def b__law_low : MS :=
    mSeq (mSet 2 (mCall1 (c1 dAbs) (mCons (mVar 0) (mNil))))
    (mSeq (mSet 3 (mCall1 (c1 dAbs) (mCons (mVar 1) (mNil))))
    (mSeq (mWhile (mTru (mVar 3)) (mPar 2 3 (mCons (mVar 3) (mCons (mOp dMod (mCall1 (c1 dInt1) (mCons (mVar 2) (mNil))) (mVar 3)) (mNil)))))
    (mSeq (mIfS (mTest (mOp dLt (mVar 1) (mC (.int 0)))) (mSet 2 (mUn dNeg (mVar 2))) (mNx))
    (mRet (mTup (mCons (mOp dDiv (mVar 0) (mVar 2)) (mCons (mOp dDiv (mVar 1) (mVar 2)) (mNil))))))))
noncomputable def m__law_low : List D → M D := fnM 4 b__law_low
noncomputable def b__law_mix : MS :=
    mSeq (mSet 2 (mOp dMod (mCall1 (c1 dInt1) (mCons (mOp dAdd (mOp dAdd (mOp dMul (mVar 0) (mC (.int 48271))) (mOp dMul (mVar 1) (mC (.int 16807)))) (mC (.int 11))) (mNil))) (mC (.int 2147483647))))
    (mSeq (mSet 3 (mOp dMod (mCall1 (c1 dInt1) (mCons (mOp dAdd (mOp dAdd (mOp dMul (mVar 2) (mVar 2)) (mOp dMul (mOp dDiv (mVar 2) (mC (.int 127))) (mC (.int 40692)))) (mOp dMul (mVar 1) (mC (.int 69621)))) (mNil))) (mC (.int 2147483399))))
    (mRet (mOp dDiv (mOp dMod (mCall1 (c1 dInt1) (mCons (mOp dAdd (mOp dDiv (mOp dMul (mVar 3) (mVar 3)) (mC (.int 1009))) (mVar 2)) (mNil))) (mC (.int 2147483563))) (mC (.int 16)))))
noncomputable def m__law_mix : List D → M D := fnM 4 b__law_mix
noncomputable def b_check_narrow : MS :=
    mIfS (mTest (mOp dGt (mFld okF "gap_count" (mVar 0)) (mC (.int 3)))) (mRaise0 6) (mNx)
noncomputable def m_check_narrow : List D → M D := fnM 1 b_check_narrow
noncomputable def b_is_whole : MS :=
    mRet (mAndV (mCall1 dIsi (mCons (mVar 0) (mCons (mC (.ty "int")) (mNil)))) (mNotV (mCall1 dIsi (mCons (mVar 0) (mCons (mC (.ty "bool")) (mNil))))))
noncomputable def m_is_whole : List D → M D := fnM 1 b_is_whole
noncomputable def b_lowest_terms : MS :=
    mSeq (mSet 2 (mCall1 dGcd (mCons (mVar 0) (mCons (mVar 1) (mNil)))))
    (mSeq (mIfS (mTest (mOp dLt (mVar 1) (mC (.int 0)))) (mSet 2 (mUn dNeg (mVar 2))) (mNx))
    (mRet (mTup (mCons (mOp dDiv (mVar 0) (mVar 2)) (mCons (mOp dDiv (mVar 1) (mVar 2)) (mNil))))))
noncomputable def m_lowest_terms : List D → M D := fnM 3 b_lowest_terms
noncomputable def b__law_draw : MS :=
    mSeq (mIfS (mAnd (mTest (mOp dEq (mIx (mVar 0) (mC (.int 2))) (mC (.int 0)))) (mTest (mOp dLt (mIx (mVar 0) (mC (.int 1))) (mCall1 (c1 dLen) (mCons (mIx (mVar 0) (mC (.int 0))) (mNil)))))) (mSeq (mSet 2 (mIx (mIx (mVar 0) (mC (.int 0))) (mIx (mVar 0) (mC (.int 1)))))
    (mSeq (mPut 0 1 (mOp dAdd (mIx (mVar 0) (mC (.int 1))) (mC (.int 1))))
    (mSeq (mIfS (mTest (mOp dLt (mVar 2) (mOp dPow (mC (.int 10)) (mC (.int 18))))) (mRet (mOp dMod (mCall1 (c1 dInt1) (mCons (mCall m__law_mix (mCons (mOp dMod (mCall1 (c1 dInt1) (mCons (mVar 2) (mNil))) (mC (.int 2147483647))) (mCons (mIx (mVar 0) (mC (.int 1))) (mNil)))) (mNil))) (mVar 1))) (mNx))
    (mPut 0 2 (mVar 2))))) (mNx))
    (mSeq (mIfS (mTest (mOp dGt (mIx (mVar 0) (mC (.int 2))) (mC (.int 0)))) (mSeq (mSet 3 (mIx (mVar 0) (mC (.int 2))))
    (mSeq (mPut 0 2 (mOp dDiv (mVar 3) (mVar 1)))
    (mRet (mOp dMod (mCall1 (c1 dInt1) (mCons (mVar 3) (mNil))) (mVar 1))))) (mNx))
    (mSeq (mPut 0 3 (mOp dMod (mCall1 (c1 dInt1) (mCons (mOp dAdd (mIx (mVar 0) (mC (.int 3))) (mC (.int 1))) (mNil))) (mC (.int 2147483629))))
    (mRet (mOp dMod (mCall1 (c1 dInt1) (mCons (mCall m__law_mix (mCons (mIx (mVar 0) (mC (.int 3))) (mCons (mIx (mVar 0) (mC (.int 1))) (mNil)))) (mNil))) (mVar 1)))))
noncomputable def m__law_draw : List D → M D := fnM 4 b__law_draw
noncomputable def ty_law_narrow_1 : MS :=
    mRet (mCall m_check_narrow (mCons (mVar 0) (mNil)))
noncomputable def b__law_narrow : MS :=
    mTryAs clX_Wide 1 (ty_law_narrow_1) (mRet (mAndV (mIsXF 1 tabX (mC (.cls 0))) (mIsXF 1 tabX (mC (.ty "ValueError")))))
noncomputable def m__law_narrow : List D → M D := fnM 2 b__law_narrow
noncomputable def b__law_told : MS :=
    mRet (mIf (mTru (mCall1 dIsi (mCons (mVar 0) (mCons (mC (.ty "tuple")) (mNil))))) (mCall m__law_low (mCons (mIx (mVar 0) (mC (.int 0))) (mCons (mIx (mVar 0) (mC (.int 1))) (mNil)))) (mTup (mCons (mVar 0) (mCons (mC (.int 1)) (mNil)))))
noncomputable def m__law_told : List D → M D := fnM 1 b__law_told
noncomputable def b_is_ratio : MS :=
    mSeq (mIfS (mTru (mCall1 dIsi (mCons (mVar 0) (mCons (mC (.ty "tuple")) (mNil))))) (mRet (mAndV (mOp dEq (mCall1 (c1 dLen) (mCons (mVar 0) (mNil))) (mC (.int 2))) (mAndV (mCall m_is_whole (mCons (mIx (mVar 0) (mC (.int 0))) (mNil))) (mAndV (mCall m_is_whole (mCons (mIx (mVar 0) (mC (.int 1))) (mNil))) (mOp dGt (mIx (mVar 0) (mC (.int 1))) (mC (.int 0))))))) (mNx))
    (mRet (mCall m_is_whole (mCons (mVar 0) (mNil))))
noncomputable def m_is_ratio : List D → M D := fnM 1 b_is_ratio
noncomputable def b__law_gap : MS :=
    mSeq (mSet 1 (mIf (mTest (mOp dEq (mCall m__law_draw (mCons (mVar 0) (mCons (mC (.int 2)) (mNil)))) (mC (.int 0)))) (mC (.int 5)) (mOp dPow (mC (.int 10)) (mC (.int 30)))))
    (mSeq (mSet 2 (mOp dAdd (mC (.int 1)) (mCall m__law_draw (mCons (mVar 0) (mCons (mVar 1) (mNil))))))
    (mSeq (mIfS (mTest (mOp dEq (mCall m__law_draw (mCons (mVar 0) (mCons (mC (.int 2)) (mNil)))) (mC (.int 0)))) (mRet (mVar 2)) (mNx))
    (mRet (mTup (mCons (mOp dMul (mC (.int 3)) (mVar 2)) (mCons (mOp dMul (mC (.int 3)) (mOp dAdd (mC (.int 1)) (mCall m__law_draw (mCons (mVar 0) (mCons (mVar 1) (mNil)))))) (mNil)))))))
noncomputable def m__law_gap : List D → M D := fnM 3 b__law_gap
noncomputable def b__law_odd : MS :=
    mRet (mIx (mLst (mCons (mUn dNeg (mVar 1)) (mCons (mTup (mCons (mUn dNeg (mC (.int 1))) (mCons (mVar 1) (mNil)))) (mCons (mC .non) (mCons (mC (.bl true)) (mCons (mC (.str "1")) (mCons (mTup (mCons (mVar 1) (mCons (mC (.int 0)) (mNil)))) (mCons (mLst (mCons (mVar 1) (mCons (mC (.int 1)) (mNil)))) (mCons (mTup (mCons (mC (.int 1)) (mCons (mUn dNeg (mVar 1)) (mNil)))) (mCons (mTup (mCons (mVar 1) (mNil))) (mNil))))))))))) (mCall m__law_draw (mCons (mVar 0) (mCons (mC (.int 9)) (mNil)))))
noncomputable def m__law_odd : List D → M D := fnM 2 b__law_odd
noncomputable def b_check_ball : MS :=
    mSeq (mIfS (mOr (mNot (mTru (mCall m_is_whole (mCons (mVar 1) (mNil))))) (mNot (mTest (mChain dLe dLt (mC (.int 0)) (mVar 1) (mLenM 7 m_Row___len__ (mVar 0)))))) (mRaiseF 5 ["ball"] (mCons (mVar 1) (mNil))) (mNx))
    (mRet (mVar 1))
noncomputable def m_check_ball : List D → M D := fnM 2 b_check_ball
noncomputable def bd_check_balls_1 : MS :=
    mSeq (mIfS (mOr (mNot (mTru (mCall m_is_whole (mCons (mIx (mVar 0) (mVar 4)) (mNil))))) (mNot (mTest (mChain dLe dLe (mC (.int 1)) (mIx (mVar 0) (mVar 4)) (mC (.int 9)))))) (mRaiseF 2 ["index", "what"] (mCons (mVar 4) (mCons (mC (.str "weight")) (mNil)))) (mNx))
    (mIfS (mNot (mTru (mCall m_is_ratio (mCons (mIx (mVar 1) (mVar 4)) (mNil))))) (mRaiseF 2 ["index", "what"] (mCons (mVar 4) (mCons (mC (.str "speed")) (mNil)))) (mNx))
noncomputable def F_check_balls_1 : MS :=
    mFor (mThenA (mCons (mCall1 (c1 dLen) (mCons (mVar 0) (mNil))) (mNil)) rng1?) (gNm 4) bd_check_balls_1
noncomputable def b_check_balls : MS :=
    mSeq (mIfS (mNot (mTru (mCall1 dIsi (mCons (mVar 2) (mCons (mC (.ty "bool")) (mNil)))))) (mRaiseF 2 ["index", "what"] (mCons (mC (.int 0)) (mCons (mC (.str "wall")) (mNil)))) (mNx))
    (mSeq (mSet 3 (mIf (mTru (mVar 2)) (mC (.int 1)) (mC (.int 2))))
    (mSeq (mIfS (mOr (mNot (mTru (mCall1 dIsi (mCons (mVar 0) (mCons (mTup (mCons (mC (.ty "list")) (mCons (mC (.ty "tuple")) (mNil)))) (mNil)))))) (mNot (mTest (mChain dLe dLe (mVar 3) (mCall1 (c1 dLen) (mCons (mVar 0) (mNil))) (mC (.int 40)))))) (mRaiseF 2 ["index", "what"] (mCons (mC (.int 0)) (mCons (mC (.str "many")) (mNil)))) (mNx))
    (mSeq (mIfS (mOr (mNot (mTru (mCall1 dIsi (mCons (mVar 1) (mCons (mTup (mCons (mC (.ty "list")) (mCons (mC (.ty "tuple")) (mNil)))) (mNil)))))) (mTest (mOp dNe (mCall1 (c1 dLen) (mCons (mVar 1) (mNil))) (mCall1 (c1 dLen) (mCons (mVar 0) (mNil)))))) (mRaiseF 2 ["index", "what"] (mCons (mC (.int 0)) (mCons (mC (.str "length")) (mNil)))) (mNx))
    (F_check_balls_1))))
noncomputable def m_check_balls : List D → M D := fnM 5 b_check_balls
noncomputable def b_ratio_of : MS :=
    mSeq (mIfS (mNot (mTru (mCall m_is_ratio (mCons (mVar 0) (mNil))))) (mRaise0 1) (mNx))
    (mSeq (mIfS (mNot (mTru (mCall1 dIsi (mCons (mVar 0) (mCons (mC (.ty "tuple")) (mNil)))))) (mRet (mTup (mCons (mVar 0) (mCons (mC (.int 1)) (mNil))))) (mNx))
    (mRet (mCall m_lowest_terms (mCons (mIx (mVar 0) (mC (.int 0))) (mCons (mIx (mVar 0) (mC (.int 1))) (mNil))))))
noncomputable def m_ratio_of : List D → M D := fnM 1 b_ratio_of
noncomputable def ty_law_ball_1 : MS :=
    mRet (mCall m_check_ball (mCons (mVar 0) (mCons (mVar 1) (mNil))))
noncomputable def b__law_ball : MS :=
    mTryAs clX_NoBall 2 (ty_law_ball_1) (mRet (mIf (mAnd (mTru (mIsXF 2 tabX (mC (.cls 0)))) (mTru (mIsXF 2 tabX (mC (.ty "ValueError"))))) (mLst (mCons (mC (.str "bad")) (mCons (mXf okX 2 "ball") (mNil)))) (mC .non)))
noncomputable def m__law_ball : List D → M D := fnM 3 b__law_ball
noncomputable def b_compare : MS :=
    mSeq (mAsg (mCall m_ratio_of (mCons (mVar 0) (mNil))) (gTp (gsCons (gNm 2) (gsCons (gNm 3) (gsNil)))))
    (mSeq (mAsg (mCall m_ratio_of (mCons (mVar 1) (mNil))) (gTp (gsCons (gNm 4) (gsCons (gNm 5) (gsNil)))))
    (mSeq (mSet 6 (mOp dMul (mVar 2) (mVar 5)))
    (mSeq (mSet 7 (mOp dMul (mVar 4) (mVar 3)))
    (mSeq (mIfS (mTest (mOp dLt (mVar 6) (mVar 7))) (mRet (mUn dNeg (mC (.int 1)))) (mNx))
    (mRet (mIf (mTest (mOp dGt (mVar 6) (mVar 7))) (mC (.int 1)) (mC (.int 0))))))))
noncomputable def m_compare : List D → M D := fnM 8 b_compare
noncomputable def b_plus : MS :=
    mSeq (mAsg (mCall m_ratio_of (mCons (mVar 0) (mNil))) (gTp (gsCons (gNm 2) (gsCons (gNm 3) (gsNil)))))
    (mSeq (mAsg (mCall m_ratio_of (mCons (mVar 1) (mNil))) (gTp (gsCons (gNm 4) (gsCons (gNm 5) (gsNil)))))
    (mRet (mCall m_lowest_terms (mCons (mOp dAdd (mOp dMul (mVar 2) (mVar 5)) (mOp dMul (mVar 4) (mVar 3))) (mCons (mOp dMul (mVar 3) (mVar 5)) (mNil))))))
noncomputable def m_plus : List D → M D := fnM 6 b_plus
noncomputable def b_times : MS :=
    mSeq (mAsg (mCall m_ratio_of (mCons (mVar 0) (mNil))) (gTp (gsCons (gNm 2) (gsCons (gNm 3) (gsNil)))))
    (mSeq (mAsg (mCall m_ratio_of (mCons (mVar 1) (mNil))) (gTp (gsCons (gNm 4) (gsCons (gNm 5) (gsNil)))))
    (mRet (mCall m_lowest_terms (mCons (mOp dMul (mVar 2) (mVar 4)) (mCons (mOp dMul (mVar 3) (mVar 5)) (mNil))))))
noncomputable def m_times : List D → M D := fnM 6 b_times
noncomputable def el_Row___init___1 : ME :=
    mCall m_ratio_of (mCons (mVar 8) (mNil))
noncomputable def L_Row___init___1 : ME :=
    mLC (mItems (mVar 2)) [8] (gNm 8) (mYes) el_Row___init___1
noncomputable def bd_Row___init___2 : MS :=
    mSeq (mSet 5 (mCall m_plus (mCons (mVar 5) (mCons (mCall m_times (mCons (mVar 7) (mCons (mVar 8) (mNil)))) (mNil)))))
    (mSet 6 (mCall m_plus (mCons (mVar 6) (mCons (mCall m_times (mCons (mVar 7) (mCons (mCall m_times (mCons (mVar 8) (mCons (mVar 8) (mNil)))) (mNil)))) (mNil)))))
noncomputable def F_Row___init___2 : MS :=
    mFor (mThenA (mCons (mFld okF "weights" (mVar 0)) (mCons (mFld okF "speeds" (mVar 0)) (mNil))) zipA?) (gTp (gsCons (gNm 7) (gsCons (gNm 8) (gsNil)))) bd_Row___init___2
noncomputable def b_Row___init__ : MS :=
    mSeq (mDrop (mCall m_check_balls (mCons (mVar 1) (mCons (mVar 2) (mCons (mVar 3) (mNil))))))
    (mSeq (mFldS okF "weights" (mCall1 (c1 dTuple) (mCons (mVar 1) (mNil))))
    (mSeq (mFldS okF "speeds" (mCall1 (c1 dTuple) (mCons (L_Row___init___1) (mNil))))
    (mSeq (mFldS okF "wall" (mVar 3))
    (mSeq (mSet 4 (mIf (mTru (mVar 3)) (mUn dNeg (mC (.int 1))) (mC (.int 0))))
    (mSeq (mFldS okF "pairs" (mOp dTupRg (mVar 4) (mOp dSub (mCall1 (c1 dLen) (mCons (mVar 1) (mNil))) (mC (.int 1)))))
    (mSeq (mFldS okF "gap_count" (mCall1 (c1 dLen) (mCons (mFld okF "pairs" (mVar 0)) (mNil))))
    (mSeq (mFldS okF "is_like" (mOp dEq (mCall1 (dMaxT PySem.W.maxOf) (mCons (mFld okF "weights" (mVar 0)) (mNil))) (mCall1 (dMaxT PySem.W.minOf) (mCons (mFld okF "weights" (mVar 0)) (mNil)))))
    (mSeq (mSet 5 (mTup (mCons (mC (.int 0)) (mCons (mC (.int 1)) (mNil)))))
    (mSeq (mSet 6 (mTup (mCons (mC (.int 0)) (mCons (mC (.int 1)) (mNil)))))
    (mSeq (F_Row___init___2)
    (mSeq (mFldS okF "first_sum" (mVar 5))
    (mFldS okF "second_sum" (mVar 6)))))))))))))
noncomputable def m_Row___init__ : List D → M D := initM 7 9 b_Row___init__
noncomputable def bd_check_gaps_1 : MS :=
    mSeq (mIfS (mOr (mNot (mTru (mCall m_is_ratio (mCons (mVar 3) (mNil))))) (mTest (mOp dLe (mCall m_compare (mCons (mVar 3) (mCons (mC (.int 0)) (mNil)))) (mC (.int 0))))) (mRaiseF 3 ["what"] (mCons (mC (.str "gap")) (mNil))) (mNx))
    (mPush 2 (mCall m_ratio_of (mCons (mVar 3) (mNil))))
noncomputable def F_check_gaps_1 : MS :=
    mFor (mItems (mVar 1)) (gNm 3) bd_check_gaps_1
noncomputable def b_check_gaps : MS :=
    mSeq (mIfS (mOr (mNot (mTru (mCall1 dIsi (mCons (mVar 1) (mCons (mTup (mCons (mC (.ty "list")) (mCons (mC (.ty "tuple")) (mNil)))) (mNil)))))) (mTest (mOp dNe (mCall1 (c1 dLen) (mCons (mVar 1) (mNil))) (mFld okF "gap_count" (mVar 0))))) (mRaiseF 3 ["what"] (mCons (mC (.str "length")) (mNil))) (mNx))
    (mSeq (mSetF 2 (mThenA (mNil) fits?))
    (mSeq (F_check_gaps_1)
    (mRet (mCall1 (c1 dTuple) (mCons (mVar 2) (mNil))))))
noncomputable def m_check_gaps : List D → M D := fnM 4 b_check_gaps
noncomputable def b_check_moment : MS :=
    mSeq (mIfS (mOr (mNot (mTru (mCall m_is_ratio (mCons (mVar 0) (mNil))))) (mTest (mOp dLt (mCall m_compare (mCons (mVar 0) (mCons (mC (.int 0)) (mNil)))) (mC (.int 0))))) (mRaiseF 4 ["moment"] (mCons (mVar 0) (mNil))) (mNx))
    (mRet (mCall m_ratio_of (mCons (mVar 0) (mNil))))
noncomputable def m_check_moment : List D → M D := fnM 1 b_check_moment
noncomputable def ty_law_gaps_1 : MS :=
    mRet (mCall m_check_gaps (mCons (mVar 0) (mCons (mVar 1) (mNil))))
noncomputable def b__law_gaps : MS :=
    mTryAs clX_BadGaps 2 (ty_law_gaps_1) (mRet (mIf (mAnd (mTru (mIsXF 2 tabX (mC (.cls 0)))) (mTru (mIsXF 2 tabX (mC (.ty "ValueError"))))) (mXf okX 2 "what") (mC .non)))
noncomputable def m__law_gaps : List D → M D := fnM 3 b__law_gaps
noncomputable def ty_law_moment_1 : MS :=
    mRet (mCall m_check_moment (mCons (mVar 0) (mNil)))
noncomputable def b__law_moment : MS :=
    mTryAs clX_BadMoment 1 (ty_law_moment_1) (mRet (mIf (mAnd (mTru (mIsXF 1 tabX (mC (.cls 0)))) (mTru (mIsXF 1 tabX (mC (.ty "ValueError"))))) (mLst (mCons (mC (.str "bad")) (mCons (mXf okX 1 "moment") (mNil)))) (mC .non)))
noncomputable def m__law_moment : List D → M D := fnM 2 b__law_moment
noncomputable def el_law_one_1 : ME :=
    mCall m__law_told (mCons (mVar 13) (mNil))
noncomputable def L_law_one_1 : ME :=
    mLC (mItems (mVar 6)) [13] (gNm 13) (mYes) el_law_one_1
noncomputable def bd_law_one_2 : MS :=
    mIfS (mTest (mOp dNe (mCall m__law_gaps (mCons (mVar 0) (mCons (mVar 8) (mNil)))) (mC (.str "length")))) (mRet (mC (.bl false))) (mNx)
noncomputable def F_law_one_2 : MS :=
    mFor (mItems (mLst (mCons (mC .non) (mCons (mOp dMulS (mC (.str "1")) (mVar 1)) (mCons (mVar 1) (mCons (mC .dic) (mCons (mOp dMul (mLst (mCons (mVar 3) (mNil))) (mOp dAdd (mVar 1) (mC (.int 1)))) (mNil)))))))) (gNm 8) bd_law_one_2
noncomputable def bd_law_one_3 : MS :=
    mIfS (mTest (mOp dNe (mCall m__law_gaps (mCons (mVar 0) (mCons (mOp dAdd (mOp dAdd (mSl (mVar 6) (mNo) (mPart (mVar 4))) (mLst (mCons (mVar 9) (mNil)))) (mSl (mVar 6) (mPart (mOp dAdd (mVar 4) (mC (.int 1)))) (mNo))) (mNil)))) (mC (.str "gap")))) (mRet (mC (.bl false))) (mNx)
noncomputable def F_law_one_3 : MS :=
    mFor (mItems (mLst (mCons (mVar 3) (mCons (mC (.int 0)) (mCons (mTup (mCons (mC (.int 0)) (mCons (mVar 5) (mNil)))) (mNil)))))) (gNm 9) bd_law_one_3
noncomputable def bd_law_one_4 : MS :=
    mSeq (mSet 12 (mCall m__law_ball (mCons (mVar 0) (mCons (mVar 11) (mNil)))))
    (mIfS (mOr (mTest (mOp dNe (mVar 12) (mVar 11))) (mTru (mCall1 dIsi (mCons (mVar 12) (mCons (mC (.ty "bool")) (mNil)))))) (mRet (mC (.bl false))) (mNx))
noncomputable def F_law_one_4 : MS :=
    mFor (mThenA (mCons (mVar 10) (mNil)) rng1?) (gNm 11) bd_law_one_4
noncomputable def bd_law_one_5 : MS :=
    mIfS (mTest (mOp dNe (mCall m__law_ball (mCons (mVar 0) (mCons (mVar 11) (mNil)))) (mLst (mCons (mC (.str "bad")) (mCons (mVar 11) (mNil)))))) (mRet (mC (.bl false))) (mNx)
noncomputable def F_law_one_5 : MS :=
    mFor (mItems (mLst (mCons (mUn dNeg (mC (.int 1))) (mCons (mVar 10) (mCons (mOp dAdd (mVar 10) (mVar 5)) (mCons (mUn dNeg (mVar 5)) (mCons (mC .non) (mCons (mC (.str "0")) (mCons (mTup (mCons (mC (.int 0)) (mCons (mC (.int 1)) (mNil)))) (mNil)))))))))) (gNm 11) bd_law_one_5
noncomputable def b__law_one : MS :=
    mSeq (mIfS (mTest (mOp dNe (mFld okF "gap_count" (mVar 0)) (mVar 1))) (mRet (mC (.bl false))) (mNx))
    (mSeq (mSet 6 (mSl (mVar 2) (mNo) (mPart (mVar 1))))
    (mSeq (mSet 7 (mCall1 (c1 dTuple) (mCons (L_law_one_1) (mNil))))
    (mSeq (mIfS (mOr (mTest (mOp dNe (mCall m__law_gaps (mCons (mVar 0) (mCons (mVar 6) (mNil)))) (mVar 7))) (mOr (mTest (mOp dNe (mCall m__law_gaps (mCons (mVar 0) (mCons (mCall1 (c1 dTuple) (mCons (mVar 6) (mNil))) (mNil)))) (mVar 7))) (mTest (mOp dNe (mVar 6) (mSl (mVar 2) (mNo) (mPart (mVar 1))))))) (mRet (mC (.bl false))) (mNx))
    (mSeq (mIfS (mOr (mTest (mOp dNe (mCall m__law_gaps (mCons (mVar 0) (mCons (mSl (mVar 2) (mNo) (mPart (mOp dAdd (mVar 1) (mC (.int 1))))) (mNil)))) (mC (.str "length")))) (mTest (mOp dNe (mCall m__law_gaps (mCons (mVar 0) (mCons (mSl (mVar 6) (mNo) (mPart (mUn dNeg (mC (.int 1))))) (mNil)))) (mC (.str "length"))))) (mRet (mC (.bl false))) (mNx))
    (mSeq (F_law_one_2)
    (mSeq (F_law_one_3)
    (mSeq (mSet 10 (mLenM 7 m_Row___len__ (mVar 0)))
    (mSeq (F_law_one_4)
    (mSeq (F_law_one_5)
    (mSeq (mSet 12 (mCall m__law_ball (mCons (mVar 0) (mCons (mC (.bl true)) (mNil)))))
    (mSeq (mIfS (mOr (mNot (mTru (mCall1 dIsi (mCons (mVar 12) (mCons (mC (.ty "list")) (mNil)))))) (mTest (mOp dNotB (mIx (mVar 12) (mC (.int 1))) (mC (.bl true))))) (mRet (mC (.bl false))) (mNx))
    (mRet (mOp dEq (mCall m__law_narrow (mCons (mVar 0) (mNil))) (mIf (mTest (mOp dGt (mVar 1) (mC (.int 3)))) (mC (.bl true)) (mC .non)))))))))))))))
noncomputable def m__law_one : List D → M D := fnM 14 b__law_one
noncomputable def el_law_row_1 : ME :=
    mOp dSub (mCall m__law_draw (mCons (mVar 0) (mCons (mC (.int 7)) (mNil)))) (mC (.int 3))
noncomputable def L_law_row_1 : ME :=
    mLC (mThenA (mCons (mVar 2) (mNil)) rng1?) [3] (gNm 3) (mYes) el_law_row_1
noncomputable def el_law_row_2 : ME :=
    mOp dAdd (mC (.int 1)) (mCall m__law_draw (mCons (mVar 0) (mCons (mC (.int 9)) (mNil))))
noncomputable def L_law_row_2 : ME :=
    mLC (mThenA (mCons (mVar 2) (mNil)) rng1?) [3] (gNm 3) (mYes) el_law_row_2
noncomputable def b__law_row : MS :=
    mSeq (mSet 1 (mOp dEq (mCall m__law_draw (mCons (mVar 0) (mCons (mC (.int 2)) (mNil)))) (mC (.int 0))))
    (mSeq (mSet 2 (mOp dAdd (mIf (mTru (mVar 1)) (mC (.int 1)) (mC (.int 2))) (mCall m__law_draw (mCons (mVar 0) (mCons (mC (.int 6)) (mNil))))))
    (mSeq (mIfS (mTest (mOp dEq (mCall m__law_draw (mCons (mVar 0) (mCons (mC (.int 8)) (mNil)))) (mC (.int 0)))) (mSet 2 (mC (.int 40))) (mNx))
    (mRet (mCallD m_Row___init__ [] (mCons (L_law_row_2) (mCons (L_law_row_1) (mCons (mVar 1) (mNil))))))))
noncomputable def m__law_row : List D → M D := fnM 4 b__law_row
noncomputable def el_law_1 : ME :=
    mCall m__law_gap (mCons (mVar 1) (mNil))
noncomputable def L_law_1 : ME :=
    mLC (mThenA (mCons (mC (.int 41)) (mNil)) rng1?) [11] (gNm 11) (mYes) el_law_1
noncomputable def bd_law_2 : MS :=
    mSeq (mIfS (mNot (mTru (mCall m__law_one (mCons (mVar 2) (mCons (mVar 7) (mCons (mVar 4) (mCons (mVar 6) (mCons (mCall m__law_draw (mCons (mVar 1) (mCons (mVar 7) (mNil)))) (mCons (mVar 5) (mNil)))))))))) (mRet (mC (.bl false))) (mNx))
    (mIfS (mNot (mTru (mCall m__law_one (mCons (mVar 3) (mCons (mVar 8) (mCons (mVar 4) (mCons (mVar 6) (mCons (mCall m__law_draw (mCons (mVar 1) (mCons (mVar 8) (mNil)))) (mCons (mVar 5) (mNil)))))))))) (mRet (mC (.bl false))) (mNx))
noncomputable def F_law_2 : MS :=
    mFor (mThenA (mCons (mC (.int 2)) (mNil)) rng1?) (gNm 9) bd_law_2
noncomputable def bd_law_3 : MS :=
    mIfS (mTest (mOp dNe (mCall m__law_moment (mCons (mVar 10) (mNil))) (mCall m__law_told (mCons (mVar 10) (mNil))))) (mRet (mC (.bl false))) (mNx)
noncomputable def F_law_3 : MS :=
    mFor (mItems (mLst (mCons (mIx (mVar 4) (mC (.int 0))) (mCons (mC (.int 0)) (mCons (mTup (mCons (mC (.int 0)) (mCons (mVar 5) (mNil)))) (mCons (mVar 5) (mCons (mIx (mVar 4) (mC (.int 40))) (mNil)))))))) (gNm 10) bd_law_3
noncomputable def b_law : MS :=
    mSeq (mSet 2 (mCall m__law_row (mCons (mVar 1) (mNil))))
    (mSeq (mSet 3 (mCall m__law_row (mCons (mVar 1) (mNil))))
    (mSeq (mSet 4 (L_law_1))
    (mSeq (mSet 5 (mOp dAdd (mC (.int 1)) (mCall m__law_draw (mCons (mVar 1) (mCons (mOp dPow (mC (.int 10)) (mC (.int 20))) (mNil))))))
    (mSeq (mSet 6 (mCall m__law_odd (mCons (mVar 1) (mCons (mVar 5) (mNil)))))
    (mSeq (mSet 7 (mIf (mTru (mFld okF "wall" (mVar 2))) (mCall1 (c1 dLen) (mCons (mFld okF "weights" (mVar 2)) (mNil))) (mOp dSub (mCall1 (c1 dLen) (mCons (mFld okF "weights" (mVar 2)) (mNil))) (mC (.int 1)))))
    (mSeq (mSet 8 (mIf (mTru (mFld okF "wall" (mVar 3))) (mCall1 (c1 dLen) (mCons (mFld okF "weights" (mVar 3)) (mNil))) (mOp dSub (mCall1 (c1 dLen) (mCons (mFld okF "weights" (mVar 3)) (mNil))) (mC (.int 1)))))
    (mSeq (F_law_2)
    (mSeq (F_law_3)
    (mRet (mAndV (mOp dEq (mCall m__law_moment (mCons (mVar 6) (mNil))) (mLst (mCons (mC (.str "bad")) (mCons (mVar 6) (mNil))))) (mOp dEq (mCall m__law_moment (mCons (mTup (mCons (mUn dNeg (mVar 5)) (mCons (mC (.int 1)) (mNil)))) (mNil))) (mLst (mCons (mC (.str "bad")) (mCons (mTup (mCons (mUn dNeg (mVar 5)) (mCons (mC (.int 1)) (mNil)))) (mNil)))))))))))))))
end My

namespace My
open PySem PySem.Spec PyProof.Rows L2 DL
def topS (i : Nat) : Stmt := PySem.Challenge.pw_untoldgaps_k05_gaps_moments_balls_and_wi.main.body.getD i (.Pass ⟨0, 0, 0, 0⟩)
abbrev s_BadGaps___init__ : Stmt := inClass (topS 6) 0
abbrev n_BadGaps___init__ : List Str := ["self", "what"]
theorem sc_BadGaps___init__ : FnScope n_BadGaps___init__ ["self", "what"] (defScope s_BadGaps___init__) := ⟨rfl, rfl, rfl, by decide +kernel, rfl, by decide +kernel, by decide +kernel⟩
abbrev s_BadMoment___init__ : Stmt := inClass (topS 7) 0
abbrev n_BadMoment___init__ : List Str := ["self", "moment"]
theorem sc_BadMoment___init__ : FnScope n_BadMoment___init__ ["self", "moment"] (defScope s_BadMoment___init__) := ⟨rfl, rfl, rfl, by decide +kernel, rfl, by decide +kernel, by decide +kernel⟩
abbrev s_BadRow___init__ : Stmt := inClass (topS 5) 0
abbrev n_BadRow___init__ : List Str := ["self", "index", "what"]
theorem sc_BadRow___init__ : FnScope n_BadRow___init__ ["self", "index", "what"] (defScope s_BadRow___init__) := ⟨rfl, rfl, rfl, by decide +kernel, rfl, by decide +kernel, by decide +kernel⟩
abbrev s_NoBall___init__ : Stmt := inClass (topS 8) 0
abbrev n_NoBall___init__ : List Str := ["self", "ball"]
theorem sc_NoBall___init__ : FnScope n_NoBall___init__ ["self", "ball"] (defScope s_NoBall___init__) := ⟨rfl, rfl, rfl, by decide +kernel, rfl, by decide +kernel, by decide +kernel⟩
abbrev s_Row___len__ : Stmt := inClass (topS 22) 1
abbrev n_Row___len__ : List Str := ["self"]
theorem sc_Row___len__ : FnScope n_Row___len__ ["self"] (defScope s_Row___len__) := ⟨rfl, rfl, rfl, by decide +kernel, rfl, by decide +kernel, by decide +kernel⟩
abbrev s__law_hand : Stmt := topS 29
abbrev n__law_hand : List Str := ["_law_script", "_law_total", "_law_k", "_law_cell"]
theorem sc__law_hand : FnScope n__law_hand ["_law_script"] (defScope s__law_hand) := ⟨rfl, rfl, rfl, by decide +kernel, rfl, by decide +kernel, by decide +kernel⟩
abbrev s__law_low : Stmt := topS 31
abbrev n__law_low : List Str := ["_law_top", "_law_bottom", "_law_one_here", "_law_other"]
theorem sc__law_low : FnScope n__law_low ["_law_top", "_law_bottom"] (defScope s__law_low) := ⟨rfl, rfl, rfl, by decide +kernel, rfl, by decide +kernel, by decide +kernel⟩
abbrev s__law_mix : Stmt := topS 28
abbrev n__law_mix : List Str := ["_law_number", "_law_turn", "_law_once", "_law_twice"]
theorem sc__law_mix : FnScope n__law_mix ["_law_number", "_law_turn"] (defScope s__law_mix) := ⟨rfl, rfl, rfl, by decide +kernel, rfl, by decide +kernel, by decide +kernel⟩
abbrev s_check_narrow : Stmt := topS 26
abbrev n_check_narrow : List Str := ["row"]
theorem sc_check_narrow : FnScope n_check_narrow ["row"] (defScope s_check_narrow) := ⟨rfl, rfl, rfl, by decide +kernel, rfl, by decide +kernel, by decide +kernel⟩
abbrev s_is_whole : Stmt := topS 11
abbrev n_is_whole : List Str := ["thing"]
theorem sc_is_whole : FnScope n_is_whole ["thing"] (defScope s_is_whole) := ⟨rfl, rfl, rfl, by decide +kernel, rfl, by decide +kernel, by decide +kernel⟩
abbrev s_lowest_terms : Stmt := topS 14
abbrev n_lowest_terms : List Str := ["top", "bottom", "common"]
theorem sc_lowest_terms : FnScope n_lowest_terms ["top", "bottom"] (defScope s_lowest_terms) := ⟨rfl, rfl, rfl, by decide +kernel, rfl, by decide +kernel, by decide +kernel⟩
abbrev s__law_draw : Stmt := topS 30
abbrev n__law_draw : List Str := ["_law_hand_here", "_law_many", "_law_cell", "_law_rest"]
theorem sc__law_draw : FnScope n__law_draw ["_law_hand_here", "_law_many"] (defScope s__law_draw) := ⟨rfl, rfl, rfl, by decide +kernel, rfl, by decide +kernel, by decide +kernel⟩
abbrev s__law_narrow : Stmt := topS 39
abbrev n__law_narrow : List Str := ["_law_row_here", "e"]
theorem sc__law_narrow : FnScope n__law_narrow ["_law_row_here"] (defScope s__law_narrow) := ⟨rfl, rfl, rfl, by decide +kernel, rfl, by decide +kernel, by decide +kernel⟩
abbrev s__law_told : Stmt := topS 34
abbrev n__law_told : List Str := ["_law_x"]
theorem sc__law_told : FnScope n__law_told ["_law_x"] (defScope s__law_told) := ⟨rfl, rfl, rfl, by decide +kernel, rfl, by decide +kernel, by decide +kernel⟩
abbrev s_is_ratio : Stmt := topS 12
abbrev n_is_ratio : List Str := ["thing"]
theorem sc_is_ratio : FnScope n_is_ratio ["thing"] (defScope s_is_ratio) := ⟨rfl, rfl, rfl, by decide +kernel, rfl, by decide +kernel, by decide +kernel⟩
abbrev s__law_gap : Stmt := topS 33
abbrev n__law_gap : List Str := ["_law_hand_here", "_law_far", "_law_top"]
theorem sc__law_gap : FnScope n__law_gap ["_law_hand_here"] (defScope s__law_gap) := ⟨rfl, rfl, rfl, by decide +kernel, rfl, by decide +kernel, by decide +kernel⟩
abbrev s__law_odd : Stmt := topS 35
abbrev n__law_odd : List Str := ["_law_hand_here", "_law_near"]
theorem sc__law_odd : FnScope n__law_odd ["_law_hand_here", "_law_near"] (defScope s__law_odd) := ⟨rfl, rfl, rfl, by decide +kernel, rfl, by decide +kernel, by decide +kernel⟩
abbrev s_check_ball : Stmt := topS 25
abbrev n_check_ball : List Str := ["row", "ball"]
theorem sc_check_ball : FnScope n_check_ball ["row", "ball"] (defScope s_check_ball) := ⟨rfl, rfl, rfl, by decide +kernel, rfl, by decide +kernel, by decide +kernel⟩
abbrev s_check_balls : Stmt := topS 21
abbrev n_check_balls : List Str := ["weights", "speeds", "wall", "least", "ball"]
theorem sc_check_balls : FnScope n_check_balls ["weights", "speeds", "wall"] (defScope s_check_balls) := ⟨rfl, rfl, rfl, by decide +kernel, rfl, by decide +kernel, by decide +kernel⟩
abbrev s_ratio_of : Stmt := topS 13
abbrev n_ratio_of : List Str := ["thing"]
theorem sc_ratio_of : FnScope n_ratio_of ["thing"] (defScope s_ratio_of) := ⟨rfl, rfl, rfl, by decide +kernel, rfl, by decide +kernel, by decide +kernel⟩
abbrev s__law_ball : Stmt := topS 38
abbrev n__law_ball : List Str := ["_law_row_here", "_law_ball_here", "e"]
theorem sc__law_ball : FnScope n__law_ball ["_law_row_here", "_law_ball_here"] (defScope s__law_ball) := ⟨rfl, rfl, rfl, by decide +kernel, rfl, by decide +kernel, by decide +kernel⟩
abbrev s_compare : Stmt := topS 17
abbrev n_compare : List Str := ["one", "other", "a", "b", "c", "d", "left", "right"]
theorem sc_compare : FnScope n_compare ["one", "other"] (defScope s_compare) := ⟨rfl, rfl, rfl, by decide +kernel, rfl, by decide +kernel, by decide +kernel⟩
abbrev s_plus : Stmt := topS 15
abbrev n_plus : List Str := ["one", "other", "a", "b", "c", "d"]
theorem sc_plus : FnScope n_plus ["one", "other"] (defScope s_plus) := ⟨rfl, rfl, rfl, by decide +kernel, rfl, by decide +kernel, by decide +kernel⟩
abbrev s_times : Stmt := topS 16
abbrev n_times : List Str := ["one", "other", "a", "b", "c", "d"]
theorem sc_times : FnScope n_times ["one", "other"] (defScope s_times) := ⟨rfl, rfl, rfl, by decide +kernel, rfl, by decide +kernel, by decide +kernel⟩
abbrev s_Row___init__ : Stmt := inClass (topS 22) 0
abbrev n_Row___init__ : List Str := ["self", "weights", "speeds", "wall", "first", "once", "twice", "weight", "speed"]
theorem sc_Row___init__ : FnScope n_Row___init__ ["self", "weights", "speeds", "wall"] (defScope s_Row___init__) := ⟨rfl, rfl, rfl, by decide +kernel, rfl, by decide +kernel, by decide +kernel⟩
abbrev s_check_gaps : Stmt := topS 23
abbrev n_check_gaps : List Str := ["row", "gaps", "made", "gap"]
theorem sc_check_gaps : FnScope n_check_gaps ["row", "gaps"] (defScope s_check_gaps) := ⟨rfl, rfl, rfl, by decide +kernel, rfl, by decide +kernel, by decide +kernel⟩
abbrev s_check_moment : Stmt := topS 24
abbrev n_check_moment : List Str := ["moment"]
theorem sc_check_moment : FnScope n_check_moment ["moment"] (defScope s_check_moment) := ⟨rfl, rfl, rfl, by decide +kernel, rfl, by decide +kernel, by decide +kernel⟩
abbrev s__law_gaps : Stmt := topS 36
abbrev n__law_gaps : List Str := ["_law_row_here", "_law_gaps_here", "e"]
theorem sc__law_gaps : FnScope n__law_gaps ["_law_row_here", "_law_gaps_here"] (defScope s__law_gaps) := ⟨rfl, rfl, rfl, by decide +kernel, rfl, by decide +kernel, by decide +kernel⟩
abbrev s__law_moment : Stmt := topS 37
abbrev n__law_moment : List Str := ["_law_moment_here", "e"]
theorem sc__law_moment : FnScope n__law_moment ["_law_moment_here"] (defScope s__law_moment) := ⟨rfl, rfl, rfl, by decide +kernel, rfl, by decide +kernel, by decide +kernel⟩
abbrev s__law_one : Stmt := topS 40
abbrev n__law_one : List Str := ["_law_row_here", "_law_many", "_law_good", "_law_odd_here", "_law_at", "_law_near", "_law_mine", "_law_due", "_law_thing", "_law_bad", "_law_balls", "_law_ball_here", "_law_told_here", "_law_x"]
theorem sc__law_one : FnScope n__law_one ["_law_row_here", "_law_many", "_law_good", "_law_odd_here", "_law_at", "_law_near"] (defScope s__law_one) := ⟨rfl, rfl, rfl, by decide +kernel, rfl, by decide +kernel, by decide +kernel⟩
abbrev s__law_row : Stmt := topS 32
abbrev n__law_row : List Str := ["_law_hand_here", "_law_shut", "_law_many", "_law_k"]
theorem sc__law_row : FnScope n__law_row ["_law_hand_here"] (defScope s__law_row) := ⟨rfl, rfl, rfl, by decide +kernel, rfl, by decide +kernel, by decide +kernel⟩
abbrev s_law : Stmt := topS 41
abbrev n_law : List Str := ["_law_script", "_law_hand_here", "_law_one_here", "_law_two", "_law_good", "_law_near", "_law_odd_here", "_law_first", "_law_second", "_law_turn", "_law_moment_here", "_law_k"]
theorem sc_law : FnScope n_law ["_law_script"] (defScope s_law) := ⟨rfl, rfl, rfl, by decide +kernel, rfl, by decide +kernel, by decide +kernel⟩
structure Txt (G : Glb) (mg : Str → Option Value) (fa : Nat → Addr) (fd : Nat → FuncData) : Prop where
  g_GapError : mg "GapError" = some (.ref (G.cl 0))
  g_BadRatio : mg "BadRatio" = some (.ref (G.cl 1))
  g_BadRow : mg "BadRow" = some (.ref (G.cl 2))
  g_BadGaps : mg "BadGaps" = some (.ref (G.cl 3))
  g_BadMoment : mg "BadMoment" = some (.ref (G.cl 4))
  g_NoBall : mg "NoBall" = some (.ref (G.cl 5))
  g_Wide : mg "Wide" = some (.ref (G.cl 6))
  g_Row : mg "Row" = some (.ref (G.cl 7))
  d_BadGaps___init__ : MetOk G.K "__init__" "BadGaps.__init__" s_BadGaps___init__ ["self", "what"] (fa 0) (fd 0)
  d_BadMoment___init__ : MetOk G.K "__init__" "BadMoment.__init__" s_BadMoment___init__ ["self", "moment"] (fa 1) (fd 1)
  d_BadRow___init__ : MetOk G.K "__init__" "BadRow.__init__" s_BadRow___init__ ["self", "index", "what"] (fa 2) (fd 2)
  d_NoBall___init__ : MetOk G.K "__init__" "NoBall.__init__" s_NoBall___init__ ["self", "ball"] (fa 3) (fd 3)
  d_Row___len__ : MetOk G.K "__len__" "Row.__len__" s_Row___len__ ["self"] (fa 4) (fd 4)
  mt_Row___len__ : Meth G.K (G.cl 7) "__len__" (fa 4)
  d__law_hand : DefOk G.K mg "_law_hand" s__law_hand ["_law_script"] (fa 5) (fd 5)
  d__law_low : DefOk G.K mg "_law_low" s__law_low ["_law_top", "_law_bottom"] (fa 6) (fd 6)
  d__law_mix : DefOk G.K mg "_law_mix" s__law_mix ["_law_number", "_law_turn"] (fa 7) (fd 7)
  d_check_narrow : DefOk G.K mg "check_narrow" s_check_narrow ["row"] (fa 8) (fd 8)
  d_is_whole : DefOk G.K mg "is_whole" s_is_whole ["thing"] (fa 9) (fd 9)
  d_lowest_terms : DefOk G.K mg "lowest_terms" s_lowest_terms ["top", "bottom"] (fa 10) (fd 10)
  d__law_draw : DefOk G.K mg "_law_draw" s__law_draw ["_law_hand_here", "_law_many"] (fa 11) (fd 11)
  d__law_narrow : DefOk G.K mg "_law_narrow" s__law_narrow ["_law_row_here"] (fa 12) (fd 12)
  d__law_told : DefOk G.K mg "_law_told" s__law_told ["_law_x"] (fa 13) (fd 13)
  d_is_ratio : DefOk G.K mg "is_ratio" s_is_ratio ["thing"] (fa 14) (fd 14)
  d__law_gap : DefOk G.K mg "_law_gap" s__law_gap ["_law_hand_here"] (fa 15) (fd 15)
  d__law_odd : DefOk G.K mg "_law_odd" s__law_odd ["_law_hand_here", "_law_near"] (fa 16) (fd 16)
  d_check_ball : DefOk G.K mg "check_ball" s_check_ball ["row", "ball"] (fa 17) (fd 17)
  d_check_balls : DefOk G.K mg "check_balls" s_check_balls ["weights", "speeds", "wall"] (fa 18) (fd 18)
  d_ratio_of : DefOk G.K mg "ratio_of" s_ratio_of ["thing"] (fa 19) (fd 19)
  d__law_ball : DefOk G.K mg "_law_ball" s__law_ball ["_law_row_here", "_law_ball_here"] (fa 20) (fd 20)
  d_compare : DefOk G.K mg "compare" s_compare ["one", "other"] (fa 21) (fd 21)
  d_plus : DefOk G.K mg "plus" s_plus ["one", "other"] (fa 22) (fd 22)
  d_times : DefOk G.K mg "times" s_times ["one", "other"] (fa 23) (fd 23)
  d_Row___init__ : IniOk G mg "Row" "Row.__init__" s_Row___init__ ["self", "weights", "speeds", "wall"] [.bl false] 7 (fa 24) (fd 24)
  d_check_gaps : DefOk G.K mg "check_gaps" s_check_gaps ["row", "gaps"] (fa 25) (fd 25)
  d_check_moment : DefOk G.K mg "check_moment" s_check_moment ["moment"] (fa 26) (fd 26)
  d__law_gaps : DefOk G.K mg "_law_gaps" s__law_gaps ["_law_row_here", "_law_gaps_here"] (fa 27) (fd 27)
  d__law_moment : DefOk G.K mg "_law_moment" s__law_moment ["_law_moment_here"] (fa 28) (fd 28)
  d__law_one : DefOk G.K mg "_law_one" s__law_one ["_law_row_here", "_law_many", "_law_good", "_law_odd_here", "_law_at", "_law_near"] (fa 29) (fd 29)
  d__law_row : DefOk G.K mg "_law_row" s__law_row ["_law_hand_here"] (fa 30) (fd 30)
  d_law : DefOk G.K mg "law" s_law ["_law_script"] (fa 31) (fd 31)
  n_ValueError : mg "ValueError" = none
  n_abs : mg "abs" = none
  n_bool : mg "bool" = none
  n_enumerate : mg "enumerate" = none
  n_int : mg "int" = none
  n_isinstance : mg "isinstance" = none
  n_len : mg "len" = none
  n_list : mg "list" = none
  n_max : mg "max" = none
  n_min : mg "min" = none
  n_range : mg "range" = none
  n_tuple : mg "tuple" = none
  n_zip : mg "zip" = none
  m_gcd : mg "gcd" = some (.builtin "math.gcd")
  k_MOST_BALLS : ∃ t, mg "MOST_BALLS" = some (.int 40 t)
  k_MOST_WEIGHT : ∃ t, mg "MOST_WEIGHT" = some (.int 9 t)
  e_BadRatio : ErrC G mg "BadRatio" 1
  e_Wide : ErrC G mg "Wide" 6
  x_BadRow : OexT G mg "BadRow" 2 (fa 2) ["index", "what"]
  x_BadGaps : OexT G mg "BadGaps" 3 (fa 0) ["what"]
  x_BadMoment : OexT G mg "BadMoment" 4 (fa 1) ["moment"]
  x_NoBall : OexT G mg "NoBall" 5 (fa 3) ["ball"]
  okX : ∀ c f, okX c f = true → XfC G.K (G.cl c) ∧ PySem.W.findIn G.K (.ref (G.cl c)) f = some none
  clX_BadGaps : ∀ c b, clX_BadGaps c = some b → PySem.W.exmOne G.K (.ref (G.cl c)) (.ref (G.cl 3)) = some b
  clX_BadMoment : ∀ c b, clX_BadMoment c = some b → PySem.W.exmOne G.K (.ref (G.cl c)) (.ref (G.cl 4)) = some b
  clX_NoBall : ∀ c b, clX_NoBall c = some b → PySem.W.exmOne G.K (.ref (G.cl c)) (.ref (G.cl 5)) = some b
  clX_Wide : ∀ c b, clX_Wide c = some b → PySem.W.exmOne G.K (.ref (G.cl c)) (.ref (G.cl 6)) = some b
  tabX : ∀ c d b, tabX c d = some b → ExcC G.K (G.cl c) ∧ ∃ cv, clsV G d = some cv ∧ PySem.W.kitOne G.K (.ref (G.cl c)) cv = some b
  fld : FldT G okF
  ins : ∀ c, okI c = true → InsT G c
  tabC : ∀ t c b, tabC t c = some b → PySem.W.kitOne G.K (tagV G t) (.ref (G.cl c)) = some b
  cls_Row : Cls G.K (G.cl 7)
section
variable {P : Program} {w : World} {G : Glb} {mg : Str → Option Value} {base : Heap} {fa : Nat → Addr} {fd : Nat → FuncData}
theorem ok_BadGaps___init__ (T : Txt G mg fa fd) : FnOk P w G.K mg base (L2.CX P w) 1 (fa 0) (fd 0) ["self", "what"] (spX (G.cl 3) ["what"]) :=
  fnX1 (P := P) (w := w) (mg := mg) (base := base) (k := 0) (q5 := ⟨0, 0, 0, 0⟩) (q6 := ⟨0, 0, 0, 0⟩) T.d_BadGaps___init__.F sc_BadGaps___init__ T.x_BadGaps.oc (T.okX 3 "what" (by decide +kernel)).2 rfl rfl rfl
theorem ok_BadMoment___init__ (T : Txt G mg fa fd) : FnOk P w G.K mg base (L2.CX P w) 1 (fa 1) (fd 1) ["self", "moment"] (spX (G.cl 4) ["moment"]) :=
  fnX1 (P := P) (w := w) (mg := mg) (base := base) (k := 0) (q5 := ⟨0, 0, 0, 0⟩) (q6 := ⟨0, 0, 0, 0⟩) T.d_BadMoment___init__.F sc_BadMoment___init__ T.x_BadMoment.oc (T.okX 4 "moment" (by decide +kernel)).2 rfl rfl rfl
theorem ok_BadRow___init__ (T : Txt G mg fa fd) : FnOk P w G.K mg base (L2.CX P w) 1 (fa 2) (fd 2) ["self", "index", "what"] (spX (G.cl 2) ["index", "what"]) :=
  fnX2 (P := P) (w := w) (mg := mg) (base := base) (k := 0) T.d_BadRow___init__.F sc_BadRow___init__ T.x_BadRow.oc (T.okX 2 "index" (by decide +kernel)).2 (T.okX 2 "what" (by decide +kernel)).2 rfl rfl rfl rfl
theorem ok_NoBall___init__ (T : Txt G mg fa fd) : FnOk P w G.K mg base (L2.CX P w) 1 (fa 3) (fd 3) ["self", "ball"] (spX (G.cl 5) ["ball"]) :=
  fnX1 (P := P) (w := w) (mg := mg) (base := base) (k := 0) (q5 := ⟨0, 0, 0, 0⟩) (q6 := ⟨0, 0, 0, 0⟩) T.d_NoBall___init__.F sc_NoBall___init__ T.x_NoBall.oc (T.okX 5 "ball" (by decide +kernel)).2 rfl rfl rfl
theorem ok_Row___len__ (T : Txt G mg fa fd) : FnOk P w G.K mg base (L2.CX P w) 1 (fa 4) (fd 4) ["self"] (spD G 1 m_Row___len__) :=
  have h := fnD (P := P) (w := w) (mg := mg) (base := base) (G := G) (N := n_Row___len__) (ps := ["self"]) (k := 0) (m := b_Row___len__) (O' := {}) T.d_Row___len__.F sc_Row___len__ rfl fun cdv A outer s H E c xt =>
    (dss_one (ds_ret (de_callB call_len (cd_len c.K) T.n_len PySem.boot_len (da_cons (de_fld c.K T.fld (de_var 0)) da_nil))))
  h
theorem ok__law_hand (T : Txt G mg fa fd) : FnOk P w G.K mg base (L2.CX P w) 1 (fa 5) (fd 5) ["_law_script"] (spD G 1 m__law_hand) :=
  have h := fnD (P := P) (w := w) (mg := mg) (base := base) (G := G) (N := n__law_hand) (ps := ["_law_script"]) (k := 0) (m := b__law_hand) (O' := {}) T.d__law_hand.F sc__law_hand rfl fun cdv A outer s H E c xt =>
    (dss_cons (ds_set 1 sc__law_hand.nd de_int)
    (dss_cons (ds_for c (di_enum c.K T.n_enumerate (da_cons (de_var 0) da_nil)) (dg_tup c.calm c.K (dgs_cons (dg_name 2 sc__law_hand.nd) (dgs_cons (dg_name 3 sc__law_hand.nd) dgs_nil)) (gsCons_len (gsCons_len gsNil_len))) (dss_one (ds_set 1 sc__law_hand.nd (de_op op_modD opd_mod (de_callTy call_int1 cd_int T.n_int PyProof.Rows.boot_int (da_cons (de_op op_addD (opd_add c.K) (de_op op_mulD3 (opd_mul c.K) (de_var 1) de_int) (de_op op_mulD3 (opd_mul c.K) (de_callTy call_int1 cd_int T.n_int PyProof.Rows.boot_int (da_cons (de_var 3) da_nil)) (de_op op_addD (opd_add c.K) (de_var 2) de_int))) da_nil)) de_int))))
    (dss_one (ds_ret (de_lst (da_cons (de_lc c sc__law_hand.nd (di_seq c.K (de_var 0)) (blkOk_by (own := [("_law_cell", 3)]) (N := n__law_hand) (sc := defScope s__law_hand) (by decide +kernel)) (fun _ _ _ _ _ => (dg_name 3 sc__law_hand.nd)) (fun _ _ _ _ _ cb => dts_nil) (fun _ _ _ _ _ cb => (de_callB call_abs cd_abs T.n_abs PyProof.Rows.boot_abs (da_cons (de_callTy call_int1 cd_int T.n_int PyProof.Rows.boot_int (da_cons (de_var 3) da_nil)) da_nil)))) (da_cons de_int (da_cons de_int (da_cons (de_var 1) da_nil)))))))))
  h
theorem ok__law_low (T : Txt G mg fa fd) : FnOk P w G.K mg base (L2.CX P w) 1 (fa 6) (fd 6) ["_law_top", "_law_bottom"] (spD G 2 m__law_low) :=
  have h := fnD (P := P) (w := w) (mg := mg) (base := base) (G := G) (N := n__law_low) (ps := ["_law_top", "_law_bottom"]) (k := 0) (m := b__law_low) (O' := {}) T.d__law_low.F sc__law_low rfl fun cdv A outer s H E c xt =>
    (dss_cons (ds_set 2 sc__law_low.nd (de_callB call_abs cd_abs T.n_abs PyProof.Rows.boot_abs (da_cons (de_var 0) da_nil)))
    (dss_cons (ds_set 3 sc__law_low.nd (de_callB call_abs cd_abs T.n_abs PyProof.Rows.boot_abs (da_cons (de_var 1) da_nil)))
    (dss_cons (ds_while c (dt_tru c.K (de_var 3)) (dss_one (ds_par 2 3 c.calm sc__law_low.nd (da_cons (de_var 3) (da_cons (de_op op_modD opd_mod (de_callTy call_int1 cd_int T.n_int PyProof.Rows.boot_int (da_cons (de_var 2) da_nil)) (de_var 3)) da_nil)))))
    (dss_cons (ds_if (dt_cmp op_lt opd_lt (de_var 1) de_int) (dss_one (ds_set 2 sc__law_low.nd (de_un un_neg und_neg (de_var 2)))) dss_nil)
    (dss_one (ds_ret (de_tup (da_cons (de_op op_divD opd_div (de_var 0) (de_var 2)) (da_cons (de_op op_divD opd_div (de_var 1) (de_var 2)) da_nil)))))))))
  h
theorem ok__law_mix (T : Txt G mg fa fd) : FnOk P w G.K mg base (L2.CX P w) 1 (fa 7) (fd 7) ["_law_number", "_law_turn"] (spD G 2 m__law_mix) :=
  have h := fnD (P := P) (w := w) (mg := mg) (base := base) (G := G) (N := n__law_mix) (ps := ["_law_number", "_law_turn"]) (k := 0) (m := b__law_mix) (O' := {}) T.d__law_mix.F sc__law_mix rfl fun cdv A outer s H E c xt =>
    (dss_cons (ds_set 2 sc__law_mix.nd (de_op op_modD opd_mod (de_callTy call_int1 cd_int T.n_int PyProof.Rows.boot_int (da_cons (de_op op_addD (opd_add c.K) (de_op op_addD (opd_add c.K) (de_op op_mulD3 (opd_mul c.K) (de_var 0) de_int) (de_op op_mulD3 (opd_mul c.K) (de_var 1) de_int)) de_int) da_nil)) de_int))
    (dss_cons (ds_set 3 sc__law_mix.nd (de_op op_modD opd_mod (de_callTy call_int1 cd_int T.n_int PyProof.Rows.boot_int (da_cons (de_op op_addD (opd_add c.K) (de_op op_addD (opd_add c.K) (de_op op_mulD3 (opd_mul c.K) (de_var 2) (de_var 2)) (de_op op_mulD3 (opd_mul c.K) (de_op op_divD opd_div (de_var 2) de_int) de_int)) (de_op op_mulD3 (opd_mul c.K) (de_var 1) de_int)) da_nil)) de_int))
    (dss_one (ds_ret (de_op op_divD opd_div (de_op op_modD opd_mod (de_callTy call_int1 cd_int T.n_int PyProof.Rows.boot_int (da_cons (de_op op_addD (opd_add c.K) (de_op op_divD opd_div (de_op op_mulD3 (opd_mul c.K) (de_var 3) (de_var 3)) de_int) (de_var 2)) da_nil)) de_int) de_int)))))
  h
theorem ok_check_narrow (T : Txt G mg fa fd) : FnOk P w G.K mg base (L2.CX P w) 1 (fa 8) (fd 8) ["row"] (spD G 1 m_check_narrow) :=
  have h := fnD (P := P) (w := w) (mg := mg) (base := base) (G := G) (N := n_check_narrow) (ps := ["row"]) (k := 0) (m := b_check_narrow) (O' := {}) T.d_check_narrow.F sc_check_narrow rfl fun cdv A outer s H E c xt =>
    (dss_one (ds_if (dt_cmp op_gt opd_gt (de_fld c.K T.fld (de_var 0)) de_int) (dss_one (ds_raise0 c T.e_Wide)) dss_nil))
  h
theorem ok_is_whole (T : Txt G mg fa fd) : FnOk P w G.K mg base (L2.CX P w) 1 (fa 9) (fd 9) ["thing"] (spD G 1 m_is_whole) :=
  have h := fnD (P := P) (w := w) (mg := mg) (base := base) (G := G) (N := n_is_whole) (ps := ["thing"]) (k := 0) (m := b_is_whole) (O' := {}) T.d_is_whole.F sc_is_whole rfl fun cdv A outer s H E c xt =>
    (dss_one (ds_ret (de_and (de_callB (CallR.or call_isi (CallR.or call_isiT call_isiK)) (cd_isi c.K) T.n_isinstance PyProof.Rows.boot_isinstance (da_cons (de_var 0) (da_cons (de_globT "int" T.n_int boot_int) da_nil))) (de_one (de_not (de_callB (CallR.or call_isi (CallR.or call_isiT call_isiK)) (cd_isi c.K) T.n_isinstance PyProof.Rows.boot_isinstance (da_cons (de_var 0) (da_cons (de_globT "bool" T.n_bool (by decide +kernel)) da_nil))))))))
  h
theorem ok_lowest_terms (T : Txt G mg fa fd) : FnOk P w G.K mg base (L2.CX P w) 1 (fa 10) (fd 10) ["top", "bottom"] (spD G 2 m_lowest_terms) :=
  have h := fnD (P := P) (w := w) (mg := mg) (base := base) (G := G) (N := n_lowest_terms) (ps := ["top", "bottom"]) (k := 0) (m := b_lowest_terms) (O' := {}) T.d_lowest_terms.F sc_lowest_terms rfl fun cdv A outer s H E c xt =>
    (dss_cons (ds_set 2 sc_lowest_terms.nd (de_callG cr_gcd cd_gcd T.m_gcd (da_cons (de_var 0) (da_cons (de_var 1) da_nil))))
    (dss_cons (ds_if (dt_cmp op_lt opd_lt (de_var 1) de_int) (dss_one (ds_set 2 sc_lowest_terms.nd (de_un un_neg und_neg (de_var 2)))) dss_nil)
    (dss_one (ds_ret (de_tup (da_cons (de_op op_divD opd_div (de_var 0) (de_var 2)) (da_cons (de_op op_divD opd_div (de_var 1) (de_var 2)) da_nil)))))))
  h
theorem ok__law_draw (T : Txt G mg fa fd) : FnOk P w G.K mg base (L2.CX P w) 2 (fa 11) (fd 11) ["_law_hand_here", "_law_many"] (spD G 2 m__law_draw) :=
  have h := fnD (P := P) (w := w) (mg := mg) (base := base) (G := G) (N := n__law_draw) (ps := ["_law_hand_here", "_law_many"]) (k := 1) (m := b__law_draw) (O' := {}) T.d__law_draw.F sc__law_draw rfl fun cdv A outer s H E c xt =>
    (dss_cons (ds_if (dw_and (dt_cmp (op_eqD c.hr.units) (opd_eq c.K) (de_get c.K (de_var 0) de_int) de_int) (dw_and1 (dt_cmp op_lt opd_lt (de_get c.K (de_var 0) de_int) (de_callB call_len (cd_len c.K) T.n_len PySem.boot_len (da_cons (de_get c.K (de_var 0) de_int) da_nil))))).dt (dss_cons (ds_set 2 sc__law_draw.nd (de_get c.K (de_get c.K (de_var 0) de_int) (de_get c.K (de_var 0) de_int)))
    (dss_cons (ds_put 0 (de_op op_addD (opd_add c.K) (de_get c.K (de_var 0) de_int) de_int))
    (dss_cons (ds_if (dt_cmp op_lt opd_lt (de_var 2) (de_op op_pow opd_pow de_int de_int)) (dss_one (ds_ret (de_op op_modD opd_mod (de_callTy call_int1 cd_int T.n_int PyProof.Rows.boot_int (da_cons (de_call c (ok__law_mix T) T.d__law_mix.g T.d__law_mix.kp T.d__law_mix.b (da_cons (de_op op_modD opd_mod (de_callTy call_int1 cd_int T.n_int PyProof.Rows.boot_int (da_cons (de_var 2) da_nil)) de_int) (da_cons (de_get c.K (de_var 0) de_int) da_nil)) (by decide) (len_cons (len_cons len_nil))) da_nil)) (de_var 1)))) dss_nil)
    (dss_one (ds_put 0 (de_var 2)))))) dss_nil)
    (dss_cons (ds_if (dt_cmp op_gt opd_gt (de_get c.K (de_var 0) de_int) de_int) (dss_cons (ds_set 3 sc__law_draw.nd (de_get c.K (de_var 0) de_int))
    (dss_cons (ds_put 0 (de_op op_divD opd_div (de_var 3) (de_var 1)))
    (dss_one (ds_ret (de_op op_modD opd_mod (de_callTy call_int1 cd_int T.n_int PyProof.Rows.boot_int (da_cons (de_var 3) da_nil)) (de_var 1)))))) dss_nil)
    (dss_cons (ds_put 0 (de_op op_modD opd_mod (de_callTy call_int1 cd_int T.n_int PyProof.Rows.boot_int (da_cons (de_op op_addD (opd_add c.K) (de_get c.K (de_var 0) de_int) de_int) da_nil)) de_int))
    (dss_one (ds_ret (de_op op_modD opd_mod (de_callTy call_int1 cd_int T.n_int PyProof.Rows.boot_int (da_cons (de_call c (ok__law_mix T) T.d__law_mix.g T.d__law_mix.kp T.d__law_mix.b (da_cons (de_get c.K (de_var 0) de_int) (da_cons (de_get c.K (de_var 0) de_int) da_nil)) (by decide) (len_cons (len_cons len_nil))) da_nil)) (de_var 1)))))))
  h
theorem ok__law_narrow (T : Txt G mg fa fd) : FnOk P w G.K mg base (L2.CX P w) 2 (fa 12) (fd 12) ["_law_row_here"] (spD G 1 m__law_narrow) :=
  have h := fnD (P := P) (w := w) (mg := mg) (base := base) (G := G) (N := n__law_narrow) (ps := ["_law_row_here"]) (k := 1) (m := b__law_narrow) (O' := {}) T.d__law_narrow.F sc__law_narrow rfl fun cdv A outer s H E c xt =>
    (dss_one (ds_try_as 1 clX_Wide c xt sc__law_narrow.nd ⟨rfl, by decide, .inl T.g_Wide⟩ T.clX_Wide (fun _ _ _ ct xtt => (dss_one (ds_ret (de_call ct (ok_check_narrow T) T.d_check_narrow.g T.d_check_narrow.kp T.d_check_narrow.b (da_cons (de_var 0) da_nil) (by decide) (len_cons len_nil))))) (fun _ _ _ _ _ hz hf => (dss_one (ds_ret (de_and (de_isXF 1 tabX hz hf c.K T.n_isinstance T.tabX (de_globC 0 T.g_GapError)) (de_one (de_isXF 1 tabX hz hf c.K T.n_isinstance T.tabX (de_globT "ValueError" T.n_ValueError (by decide +kernel))))))))))
  h
theorem ok__law_told (T : Txt G mg fa fd) : FnOk P w G.K mg base (L2.CX P w) 2 (fa 13) (fd 13) ["_law_x"] (spD G 1 m__law_told) :=
  have h := fnD (P := P) (w := w) (mg := mg) (base := base) (G := G) (N := n__law_told) (ps := ["_law_x"]) (k := 1) (m := b__law_told) (O' := {}) T.d__law_told.F sc__law_told rfl fun cdv A outer s H E c xt =>
    (dss_one (ds_ret (de_if (dt_tru c.K (de_callB (CallR.or call_isi (CallR.or call_isiT call_isiK)) (cd_isi c.K) T.n_isinstance PyProof.Rows.boot_isinstance (da_cons (de_var 0) (da_cons (de_globT "tuple" T.n_tuple boot_tuple) da_nil)))) (de_call c (ok__law_low T) T.d__law_low.g T.d__law_low.kp T.d__law_low.b (da_cons (de_get c.K (de_var 0) de_int) (da_cons (de_get c.K (de_var 0) de_int) da_nil)) (by decide) (len_cons (len_cons len_nil))) (de_tup (da_cons (de_var 0) (da_cons de_int da_nil))))))
  h
theorem ok_is_ratio (T : Txt G mg fa fd) : FnOk P w G.K mg base (L2.CX P w) 2 (fa 14) (fd 14) ["thing"] (spD G 1 m_is_ratio) :=
  have h := fnD (P := P) (w := w) (mg := mg) (base := base) (G := G) (N := n_is_ratio) (ps := ["thing"]) (k := 1) (m := b_is_ratio) (O' := {}) T.d_is_ratio.F sc_is_ratio rfl fun cdv A outer s H E c xt =>
    (dss_cons (ds_if (dt_tru c.K (de_callB (CallR.or call_isi (CallR.or call_isiT call_isiK)) (cd_isi c.K) T.n_isinstance PyProof.Rows.boot_isinstance (da_cons (de_var 0) (da_cons (de_globT "tuple" T.n_tuple boot_tuple) da_nil)))) (dss_one (ds_ret (de_and (de_cmp (op_eqD c.hr.units) (opd_eq c.K) (de_callB call_len (cd_len c.K) T.n_len PySem.boot_len (da_cons (de_var 0) da_nil)) de_int) (de_and (de_call c (ok_is_whole T) T.d_is_whole.g T.d_is_whole.kp T.d_is_whole.b (da_cons (de_get c.K (de_var 0) de_int) da_nil) (by decide) (len_cons len_nil)) (de_and (de_call c (ok_is_whole T) T.d_is_whole.g T.d_is_whole.kp T.d_is_whole.b (da_cons (de_get c.K (de_var 0) de_int) da_nil) (by decide) (len_cons len_nil)) (de_one (de_cmp op_gt opd_gt (de_get c.K (de_var 0) de_int) de_int))))))) dss_nil)
    (dss_one (ds_ret (de_call c (ok_is_whole T) T.d_is_whole.g T.d_is_whole.kp T.d_is_whole.b (da_cons (de_var 0) da_nil) (by decide) (len_cons len_nil)))))
  h
theorem ok__law_gap (T : Txt G mg fa fd) : FnOk P w G.K mg base (L2.CX P w) 3 (fa 15) (fd 15) ["_law_hand_here"] (spD G 1 m__law_gap) :=
  have h := fnD (P := P) (w := w) (mg := mg) (base := base) (G := G) (N := n__law_gap) (ps := ["_law_hand_here"]) (k := 2) (m := b__law_gap) (O' := {}) T.d__law_gap.F sc__law_gap rfl fun cdv A outer s H E c xt =>
    (dss_cons (ds_set 1 sc__law_gap.nd (de_if (dt_cmp (op_eqD c.hr.units) (opd_eq c.K) (de_call c (ok__law_draw T) T.d__law_draw.g T.d__law_draw.kp T.d__law_draw.b (da_cons (de_var 0) (da_cons de_int da_nil)) (by decide) (len_cons (len_cons len_nil))) de_int) de_int (de_op op_pow opd_pow de_int de_int)))
    (dss_cons (ds_set 2 sc__law_gap.nd (de_op op_addD (opd_add c.K) de_int (de_call c (ok__law_draw T) T.d__law_draw.g T.d__law_draw.kp T.d__law_draw.b (da_cons (de_var 0) (da_cons (de_var 1) da_nil)) (by decide) (len_cons (len_cons len_nil)))))
    (dss_cons (ds_if (dt_cmp (op_eqD c.hr.units) (opd_eq c.K) (de_call c (ok__law_draw T) T.d__law_draw.g T.d__law_draw.kp T.d__law_draw.b (da_cons (de_var 0) (da_cons de_int da_nil)) (by decide) (len_cons (len_cons len_nil))) de_int) (dss_one (ds_ret (de_var 2))) dss_nil)
    (dss_one (ds_ret (de_tup (da_cons (de_op op_mulD3 (opd_mul c.K) de_int (de_var 2)) (da_cons (de_op op_mulD3 (opd_mul c.K) de_int (de_op op_addD (opd_add c.K) de_int (de_call c (ok__law_draw T) T.d__law_draw.g T.d__law_draw.kp T.d__law_draw.b (da_cons (de_var 0) (da_cons (de_var 1) da_nil)) (by decide) (len_cons (len_cons len_nil))))) da_nil))))))))
  h
theorem ok__law_odd (T : Txt G mg fa fd) : FnOk P w G.K mg base (L2.CX P w) 3 (fa 16) (fd 16) ["_law_hand_here", "_law_near"] (spD G 2 m__law_odd) :=
  have h := fnD (P := P) (w := w) (mg := mg) (base := base) (G := G) (N := n__law_odd) (ps := ["_law_hand_here", "_law_near"]) (k := 2) (m := b__law_odd) (O' := {}) T.d__law_odd.F sc__law_odd rfl fun cdv A outer s H E c xt =>
    (dss_one (ds_ret (de_get c.K (de_lst (da_cons (de_un un_neg und_neg (de_var 1)) (da_cons (de_tup (da_cons (de_un un_neg und_neg de_int) (da_cons (de_var 1) da_nil))) (da_cons de_non (da_cons de_bl (da_cons de_str (da_cons (de_tup (da_cons (de_var 1) (da_cons de_int da_nil))) (da_cons (de_lst (da_cons (de_var 1) (da_cons de_int da_nil))) (da_cons (de_tup (da_cons de_int (da_cons (de_un un_neg und_neg (de_var 1)) da_nil))) (da_cons (de_tup (da_cons (de_var 1) da_nil)) da_nil)))))))))) (de_call c (ok__law_draw T) T.d__law_draw.g T.d__law_draw.kp T.d__law_draw.b (da_cons (de_var 0) (da_cons de_int da_nil)) (by decide) (len_cons (len_cons len_nil))))))
  h
theorem ok_check_ball (T : Txt G mg fa fd) : FnOk P w G.K mg base (L2.CX P w) 3 (fa 17) (fd 17) ["row", "ball"] (spD G 2 m_check_ball) :=
  have h := fnD (P := P) (w := w) (mg := mg) (base := base) (G := G) (N := n_check_ball) (ps := ["row", "ball"]) (k := 2) (m := b_check_ball) (O' := {}) T.d_check_ball.F sc_check_ball rfl fun cdv A outer s H E c xt =>
    (dss_cons (ds_if (dw_or (dt_not (dt_tru c.K (de_call c (ok_is_whole T) T.d_is_whole.g T.d_is_whole.kp T.d_is_whole.b (da_cons (de_var 1) da_nil) (by decide) (len_cons len_nil)))) (dw_or1 (dt_not (dt_chain op_le opd_le op_lt opd_lt de_int (de_var 1) (de_lenM c (ok_Row___len__ T) T.mt_Row___len__.at_ T.mt_Row___len__.fn T.d_Row___len__.b T.n_len (de_var 0)))))).dt (dss_one (ds_raiseF c T.x_NoBall (ok_NoBall___init__ T) T.d_NoBall___init__.b (da_cons (de_var 1) da_nil))) dss_nil)
    (dss_one (ds_ret (de_var 1))))
  h
theorem ok_check_balls (T : Txt G mg fa fd) : FnOk P w G.K mg base (L2.CX P w) 3 (fa 18) (fd 18) ["weights", "speeds", "wall"] (spD G 3 m_check_balls) :=
  have h := fnD (P := P) (w := w) (mg := mg) (base := base) (G := G) (N := n_check_balls) (ps := ["weights", "speeds", "wall"]) (k := 2) (m := b_check_balls) (O' := {}) T.d_check_balls.F sc_check_balls rfl fun cdv A outer s H E c xt =>
    (dss_cons (ds_if (dt_not (dt_tru c.K (de_callB (CallR.or call_isi (CallR.or call_isiT call_isiK)) (cd_isi c.K) T.n_isinstance PyProof.Rows.boot_isinstance (da_cons (de_var 2) (da_cons (de_globT "bool" T.n_bool (by decide +kernel)) da_nil))))) (dss_one (ds_raiseF c T.x_BadRow (ok_BadRow___init__ T) T.d_BadRow___init__.b (da_cons de_int (da_cons de_str da_nil)))) dss_nil)
    (dss_cons (ds_set 3 sc_check_balls.nd (de_if (dt_tru c.K (de_var 2)) de_int de_int))
    (dss_cons (ds_if (dw_or (dt_not (dt_tru c.K (de_callB (CallR.or call_isi (CallR.or call_isiT call_isiK)) (cd_isi c.K) T.n_isinstance PyProof.Rows.boot_isinstance (da_cons (de_var 0) (da_cons (de_tup (da_cons (de_globT "list" T.n_list boot_list) (da_cons (de_globT "tuple" T.n_tuple boot_tuple) da_nil))) da_nil))))) (dw_or1 (dt_not (dt_chain op_le opd_le op_le opd_le (de_var 3) (de_callB call_len (cd_len c.K) T.n_len PySem.boot_len (da_cons (de_var 0) da_nil)) (de_globK T.k_MOST_BALLS))))).dt (dss_one (ds_raiseF c T.x_BadRow (ok_BadRow___init__ T) T.d_BadRow___init__.b (da_cons de_int (da_cons de_str da_nil)))) dss_nil)
    (dss_cons (ds_if (dw_or (dt_not (dt_tru c.K (de_callB (CallR.or call_isi (CallR.or call_isiT call_isiK)) (cd_isi c.K) T.n_isinstance PyProof.Rows.boot_isinstance (da_cons (de_var 1) (da_cons (de_tup (da_cons (de_globT "list" T.n_list boot_list) (da_cons (de_globT "tuple" T.n_tuple boot_tuple) da_nil))) da_nil))))) (dw_or1 (dt_cmp (op_neD c.hr.units) (opd_ne c.K) (de_callB call_len (cd_len c.K) T.n_len PySem.boot_len (da_cons (de_var 1) da_nil)) (de_callB call_len (cd_len c.K) T.n_len PySem.boot_len (da_cons (de_var 0) da_nil))))).dt (dss_one (ds_raiseF c T.x_BadRow (ok_BadRow___init__ T) T.d_BadRow___init__.b (da_cons de_int (da_cons de_str da_nil)))) dss_nil)
    (dss_one (ds_for c (di_range1 T.n_range (da_cons (de_callB call_len (cd_len c.K) T.n_len PySem.boot_len (da_cons (de_var 0) da_nil)) da_nil)) (dg_name 4 sc_check_balls.nd) (dss_cons (ds_if (dw_or (dt_not (dt_tru c.K (de_call c (ok_is_whole T) T.d_is_whole.g T.d_is_whole.kp T.d_is_whole.b (da_cons (de_get c.K (de_var 0) (de_var 4)) da_nil) (by decide) (len_cons len_nil)))) (dw_or1 (dt_not (dt_chain op_le opd_le op_le opd_le de_int (de_get c.K (de_var 0) (de_var 4)) (de_globK T.k_MOST_WEIGHT))))).dt (dss_one (ds_raiseF c T.x_BadRow (ok_BadRow___init__ T) T.d_BadRow___init__.b (da_cons (de_var 4) (da_cons de_str da_nil)))) dss_nil)
    (dss_one (ds_if (dt_not (dt_tru c.K (de_call c (ok_is_ratio T) T.d_is_ratio.g T.d_is_ratio.kp T.d_is_ratio.b (da_cons (de_get c.K (de_var 1) (de_var 4)) da_nil) (by decide) (len_cons len_nil)))) (dss_one (ds_raiseF c T.x_BadRow (ok_BadRow___init__ T) T.d_BadRow___init__.b (da_cons (de_var 4) (da_cons de_str da_nil)))) dss_nil)))))))))
  h
theorem ok_ratio_of (T : Txt G mg fa fd) : FnOk P w G.K mg base (L2.CX P w) 3 (fa 19) (fd 19) ["thing"] (spD G 1 m_ratio_of) :=
  have h := fnD (P := P) (w := w) (mg := mg) (base := base) (G := G) (N := n_ratio_of) (ps := ["thing"]) (k := 2) (m := b_ratio_of) (O' := {}) T.d_ratio_of.F sc_ratio_of rfl fun cdv A outer s H E c xt =>
    (dss_cons (ds_if (dt_not (dt_tru c.K (de_call c (ok_is_ratio T) T.d_is_ratio.g T.d_is_ratio.kp T.d_is_ratio.b (da_cons (de_var 0) da_nil) (by decide) (len_cons len_nil)))) (dss_one (ds_raise0 c T.e_BadRatio)) dss_nil)
    (dss_cons (ds_if (dt_not (dt_tru c.K (de_callB (CallR.or call_isi (CallR.or call_isiT call_isiK)) (cd_isi c.K) T.n_isinstance PyProof.Rows.boot_isinstance (da_cons (de_var 0) (da_cons (de_globT "tuple" T.n_tuple boot_tuple) da_nil))))) (dss_one (ds_ret (de_tup (da_cons (de_var 0) (da_cons de_int da_nil))))) dss_nil)
    (dss_one (ds_ret (de_call c (ok_lowest_terms T) T.d_lowest_terms.g T.d_lowest_terms.kp T.d_lowest_terms.b (da_cons (de_get c.K (de_var 0) de_int) (da_cons (de_get c.K (de_var 0) de_int) da_nil)) (by decide) (len_cons (len_cons len_nil)))))))
  h
theorem ok__law_ball (T : Txt G mg fa fd) : FnOk P w G.K mg base (L2.CX P w) 4 (fa 20) (fd 20) ["_law_row_here", "_law_ball_here"] (spD G 2 m__law_ball) :=
  have h := fnD (P := P) (w := w) (mg := mg) (base := base) (G := G) (N := n__law_ball) (ps := ["_law_row_here", "_law_ball_here"]) (k := 3) (m := b__law_ball) (O' := {}) T.d__law_ball.F sc__law_ball rfl fun cdv A outer s H E c xt =>
    (dss_one (ds_try_as 2 clX_NoBall c xt sc__law_ball.nd ⟨rfl, by decide, .inl T.g_NoBall⟩ T.clX_NoBall (fun _ _ _ ct xtt => (dss_one (ds_ret (de_call ct (ok_check_ball T) T.d_check_ball.g T.d_check_ball.kp T.d_check_ball.b (da_cons (de_var 0) (da_cons (de_var 1) da_nil)) (by decide) (len_cons (len_cons len_nil)))))) (fun _ _ _ _ _ hz hf => (dss_one (ds_ret (de_if (dw_and (dt_tru (suK c.K) (de_isXF 2 tabX hz hf c.K T.n_isinstance T.tabX (de_globC 0 T.g_GapError))) (dw_and1 (dt_tru (suK c.K) (de_isXF 2 tabX hz hf c.K T.n_isinstance T.tabX (de_globT "ValueError" T.n_ValueError (by decide +kernel)))))).dt (de_lst (da_cons de_str (da_cons (de_xf 2 hz hf c.K T.okX) da_nil))) de_non))))))
  h
theorem ok_compare (T : Txt G mg fa fd) : FnOk P w G.K mg base (L2.CX P w) 4 (fa 21) (fd 21) ["one", "other"] (spD G 2 m_compare) :=
  have h := fnD (P := P) (w := w) (mg := mg) (base := base) (G := G) (N := n_compare) (ps := ["one", "other"]) (k := 3) (m := b_compare) (O' := {}) T.d_compare.F sc_compare rfl fun cdv A outer s H E c xt =>
    (dss_cons (ds_asg (de_call c (ok_ratio_of T) T.d_ratio_of.g T.d_ratio_of.kp T.d_ratio_of.b (da_cons (de_var 0) da_nil) (by decide) (len_cons len_nil)) (dg_tup c.calm c.K (dgs_cons (dg_name 2 sc_compare.nd) (dgs_cons (dg_name 3 sc_compare.nd) dgs_nil)) (gsCons_len (gsCons_len gsNil_len))))
    (dss_cons (ds_asg (de_call c (ok_ratio_of T) T.d_ratio_of.g T.d_ratio_of.kp T.d_ratio_of.b (da_cons (de_var 1) da_nil) (by decide) (len_cons len_nil)) (dg_tup c.calm c.K (dgs_cons (dg_name 4 sc_compare.nd) (dgs_cons (dg_name 5 sc_compare.nd) dgs_nil)) (gsCons_len (gsCons_len gsNil_len))))
    (dss_cons (ds_set 6 sc_compare.nd (de_op op_mulD3 (opd_mul c.K) (de_var 2) (de_var 5)))
    (dss_cons (ds_set 7 sc_compare.nd (de_op op_mulD3 (opd_mul c.K) (de_var 4) (de_var 3)))
    (dss_cons (ds_if (dt_cmp op_lt opd_lt (de_var 6) (de_var 7)) (dss_one (ds_ret (de_un un_neg und_neg de_int))) dss_nil)
    (dss_one (ds_ret (de_if (dt_cmp op_gt opd_gt (de_var 6) (de_var 7)) de_int de_int))))))))
  h
theorem ok_plus (T : Txt G mg fa fd) : FnOk P w G.K mg base (L2.CX P w) 4 (fa 22) (fd 22) ["one", "other"] (spD G 2 m_plus) :=
  have h := fnD (P := P) (w := w) (mg := mg) (base := base) (G := G) (N := n_plus) (ps := ["one", "other"]) (k := 3) (m := b_plus) (O' := {}) T.d_plus.F sc_plus rfl fun cdv A outer s H E c xt =>
    (dss_cons (ds_asg (de_call c (ok_ratio_of T) T.d_ratio_of.g T.d_ratio_of.kp T.d_ratio_of.b (da_cons (de_var 0) da_nil) (by decide) (len_cons len_nil)) (dg_tup c.calm c.K (dgs_cons (dg_name 2 sc_plus.nd) (dgs_cons (dg_name 3 sc_plus.nd) dgs_nil)) (gsCons_len (gsCons_len gsNil_len))))
    (dss_cons (ds_asg (de_call c (ok_ratio_of T) T.d_ratio_of.g T.d_ratio_of.kp T.d_ratio_of.b (da_cons (de_var 1) da_nil) (by decide) (len_cons len_nil)) (dg_tup c.calm c.K (dgs_cons (dg_name 4 sc_plus.nd) (dgs_cons (dg_name 5 sc_plus.nd) dgs_nil)) (gsCons_len (gsCons_len gsNil_len))))
    (dss_one (ds_ret (de_call c (ok_lowest_terms T) T.d_lowest_terms.g T.d_lowest_terms.kp T.d_lowest_terms.b (da_cons (de_op op_addD (opd_add c.K) (de_op op_mulD3 (opd_mul c.K) (de_var 2) (de_var 5)) (de_op op_mulD3 (opd_mul c.K) (de_var 4) (de_var 3))) (da_cons (de_op op_mulD3 (opd_mul c.K) (de_var 3) (de_var 5)) da_nil)) (by decide) (len_cons (len_cons len_nil)))))))
  h
theorem ok_times (T : Txt G mg fa fd) : FnOk P w G.K mg base (L2.CX P w) 4 (fa 23) (fd 23) ["one", "other"] (spD G 2 m_times) :=
  have h := fnD (P := P) (w := w) (mg := mg) (base := base) (G := G) (N := n_times) (ps := ["one", "other"]) (k := 3) (m := b_times) (O' := {}) T.d_times.F sc_times rfl fun cdv A outer s H E c xt =>
    (dss_cons (ds_asg (de_call c (ok_ratio_of T) T.d_ratio_of.g T.d_ratio_of.kp T.d_ratio_of.b (da_cons (de_var 0) da_nil) (by decide) (len_cons len_nil)) (dg_tup c.calm c.K (dgs_cons (dg_name 2 sc_times.nd) (dgs_cons (dg_name 3 sc_times.nd) dgs_nil)) (gsCons_len (gsCons_len gsNil_len))))
    (dss_cons (ds_asg (de_call c (ok_ratio_of T) T.d_ratio_of.g T.d_ratio_of.kp T.d_ratio_of.b (da_cons (de_var 1) da_nil) (by decide) (len_cons len_nil)) (dg_tup c.calm c.K (dgs_cons (dg_name 4 sc_times.nd) (dgs_cons (dg_name 5 sc_times.nd) dgs_nil)) (gsCons_len (gsCons_len gsNil_len))))
    (dss_one (ds_ret (de_call c (ok_lowest_terms T) T.d_lowest_terms.g T.d_lowest_terms.kp T.d_lowest_terms.b (da_cons (de_op op_mulD3 (opd_mul c.K) (de_var 2) (de_var 4)) (da_cons (de_op op_mulD3 (opd_mul c.K) (de_var 3) (de_var 5)) da_nil)) (by decide) (len_cons (len_cons len_nil)))))))
  h
theorem ok_Row___init__ (T : Txt G mg fa fd) : FnOk P w G.K mg base (L2.CX P w) 5 (fa 24) (fd 24) ["self", "weights", "speeds", "wall"] (spI G 7 3 m_Row___init__) :=
  have h := fnID (P := P) (w := w) (mg := mg) (base := base) (G := G) (N := n_Row___init__) (ps := ["self", "weights", "speeds", "wall"]) (c := 7) (k := 4) (n := 3) (m := b_Row___init__) T.d_Row___init__.F sc_Row___init__ rfl rfl (by decide) fun sx sdx cdv A outer s H E c xt =>
    (dss_cons (ds_expr (de_call c (ok_check_balls T) T.d_check_balls.g T.d_check_balls.kp T.d_check_balls.b (da_cons (de_var 1) (da_cons (de_var 2) (da_cons (de_var 3) da_nil))) (by decide) (len_cons (len_cons (len_cons len_nil)))))
    (dss_cons (ds_fldS c.K T.fld (de_callTy call_tuple_of (cd_tuple c.K) T.n_tuple PyProof.Rows.boot_tuple (da_cons (de_var 1) da_nil)))
    (dss_cons (ds_fldS c.K T.fld (de_callTy call_tuple_of (cd_tuple c.K) T.n_tuple PyProof.Rows.boot_tuple (da_cons (de_lc c sc_Row___init__.nd (di_seq c.K (de_var 2)) (blkOk_by (own := [("speed", 8)]) (N := n_Row___init__) (sc := defScope s_Row___init__) (by decide +kernel)) (fun _ _ _ _ _ => (dg_name 8 sc_Row___init__.nd)) (fun _ _ _ _ _ cb => dts_nil) (fun _ _ _ _ _ cb => (de_call cb (ok_ratio_of T) T.d_ratio_of.g T.d_ratio_of.kp T.d_ratio_of.b (da_cons (de_var 8) da_nil) (by decide) (len_cons len_nil))) (hv := self_hv (by decide))) da_nil)))
    (dss_cons (ds_fldS c.K T.fld (de_var 3))
    (dss_cons (ds_set 4 sc_Row___init__.nd (de_if (dt_tru c.K (de_var 3)) (de_un un_neg und_neg de_int) de_int))
    (dss_cons (ds_fldS c.K T.fld (de_tupRg c.calm T.n_tuple T.n_range (de_var 4) (de_op op_sub opd_sub (de_callB call_len (cd_len c.K) T.n_len PySem.boot_len (da_cons (de_var 1) da_nil)) de_int)))
    (dss_cons (ds_fldS c.K T.fld (de_callB call_len (cd_len c.K) T.n_len PySem.boot_len (da_cons (de_fldS c.K T.fld) da_nil)))
    (dss_cons (ds_fldS c.K T.fld (de_cmp (op_eqD c.hr.units) (opd_eq c.K) (de_callB (cr_maxT c.calm c.hr.units) (cd_maxT c.K) T.n_max PyProof.Rows.boot_max (da_cons (de_fldS c.K T.fld) da_nil)) (de_callB (cr_minT c.calm c.hr.units) (cd_minT c.K) T.n_min PyProof.Rows.boot_min (da_cons (de_fldS c.K T.fld) da_nil))))
    (dss_cons (ds_set 5 sc_Row___init__.nd (de_tup (da_cons de_int (da_cons de_int da_nil))))
    (dss_cons (ds_set 6 sc_Row___init__.nd (de_tup (da_cons de_int (da_cons de_int da_nil))))
    (dss_cons (ds_for c (di_zipA c.K T.n_zip (da_cons (de_fldS c.K T.fld) (da_cons (de_fldS c.K T.fld) da_nil))) (dg_tup c.calm c.K (dgs_cons (dg_name 7 sc_Row___init__.nd) (dgs_cons (dg_name 8 sc_Row___init__.nd) dgs_nil)) (gsCons_len (gsCons_len gsNil_len))) (dss_cons (ds_set 5 sc_Row___init__.nd (de_call c (ok_plus T) T.d_plus.g T.d_plus.kp T.d_plus.b (da_cons (de_var 5) (da_cons (de_call c (ok_times T) T.d_times.g T.d_times.kp T.d_times.b (da_cons (de_var 7) (da_cons (de_var 8) da_nil)) (by decide) (len_cons (len_cons len_nil))) da_nil)) (by decide) (len_cons (len_cons len_nil))))
    (dss_one (ds_set 6 sc_Row___init__.nd (de_call c (ok_plus T) T.d_plus.g T.d_plus.kp T.d_plus.b (da_cons (de_var 6) (da_cons (de_call c (ok_times T) T.d_times.g T.d_times.kp T.d_times.b (da_cons (de_var 7) (da_cons (de_call c (ok_times T) T.d_times.g T.d_times.kp T.d_times.b (da_cons (de_var 8) (da_cons (de_var 8) da_nil)) (by decide) (len_cons (len_cons len_nil))) da_nil)) (by decide) (len_cons (len_cons len_nil))) da_nil)) (by decide) (len_cons (len_cons len_nil)))))))
    (dss_cons (ds_fldS c.K T.fld (de_var 5))
    (dss_one (ds_fldS c.K T.fld (de_var 6)))))))))))))))
  h
theorem ok_check_gaps (T : Txt G mg fa fd) : FnOk P w G.K mg base (L2.CX P w) 5 (fa 25) (fd 25) ["row", "gaps"] (spD G 2 m_check_gaps) :=
  have h := fnD (P := P) (w := w) (mg := mg) (base := base) (G := G) (N := n_check_gaps) (ps := ["row", "gaps"]) (k := 4) (m := b_check_gaps) (O' := {}) T.d_check_gaps.F sc_check_gaps rfl fun cdv A outer s H E c xt =>
    (dss_cons (ds_if (dw_or (dt_not (dt_tru c.K (de_callB (CallR.or call_isi (CallR.or call_isiT call_isiK)) (cd_isi c.K) T.n_isinstance PyProof.Rows.boot_isinstance (da_cons (de_var 1) (da_cons (de_tup (da_cons (de_globT "list" T.n_list boot_list) (da_cons (de_globT "tuple" T.n_tuple boot_tuple) da_nil))) da_nil))))) (dw_or1 (dt_cmp (op_neD c.hr.units) (opd_ne c.K) (de_callB call_len (cd_len c.K) T.n_len PySem.boot_len (da_cons (de_var 1) da_nil)) (de_fld c.K T.fld (de_var 0))))).dt (dss_one (ds_raiseF c T.x_BadGaps (ok_BadGaps___init__ T) T.d_BadGaps___init__.b (da_cons de_str da_nil))) dss_nil)
    (dss_cons (ds_own 2 sc_check_gaps.nd (df_lst da_nil))
    (dss_cons (ds_for c (di_seq c.K (de_var 1)) (dg_name 3 sc_check_gaps.nd) (dss_cons (ds_if (dw_or (dt_not (dt_tru c.K (de_call c (ok_is_ratio T) T.d_is_ratio.g T.d_is_ratio.kp T.d_is_ratio.b (da_cons (de_var 3) da_nil) (by decide) (len_cons len_nil)))) (dw_or1 (dt_cmp op_le opd_le (de_call c (ok_compare T) T.d_compare.g T.d_compare.kp T.d_compare.b (da_cons (de_var 3) (da_cons de_int da_nil)) (by decide) (len_cons (len_cons len_nil))) de_int))).dt (dss_one (ds_raiseF c T.x_BadGaps (ok_BadGaps___init__ T) T.d_BadGaps___init__.b (da_cons de_str da_nil))) dss_nil)
    (dss_one (ds_push 2 (de_call c (ok_ratio_of T) T.d_ratio_of.g T.d_ratio_of.kp T.d_ratio_of.b (da_cons (de_var 3) da_nil) (by decide) (len_cons len_nil))))))
    (dss_freeze 2 (dss_one (ds_ret (de_callTy call_tuple_of (cd_tuple c.K) T.n_tuple PyProof.Rows.boot_tuple (da_cons (de_var 2) da_nil))))))))
  h
theorem ok_check_moment (T : Txt G mg fa fd) : FnOk P w G.K mg base (L2.CX P w) 5 (fa 26) (fd 26) ["moment"] (spD G 1 m_check_moment) :=
  have h := fnD (P := P) (w := w) (mg := mg) (base := base) (G := G) (N := n_check_moment) (ps := ["moment"]) (k := 4) (m := b_check_moment) (O' := {}) T.d_check_moment.F sc_check_moment rfl fun cdv A outer s H E c xt =>
    (dss_cons (ds_if (dw_or (dt_not (dt_tru c.K (de_call c (ok_is_ratio T) T.d_is_ratio.g T.d_is_ratio.kp T.d_is_ratio.b (da_cons (de_var 0) da_nil) (by decide) (len_cons len_nil)))) (dw_or1 (dt_cmp op_lt opd_lt (de_call c (ok_compare T) T.d_compare.g T.d_compare.kp T.d_compare.b (da_cons (de_var 0) (da_cons de_int da_nil)) (by decide) (len_cons (len_cons len_nil))) de_int))).dt (dss_one (ds_raiseF c T.x_BadMoment (ok_BadMoment___init__ T) T.d_BadMoment___init__.b (da_cons (de_var 0) da_nil))) dss_nil)
    (dss_one (ds_ret (de_call c (ok_ratio_of T) T.d_ratio_of.g T.d_ratio_of.kp T.d_ratio_of.b (da_cons (de_var 0) da_nil) (by decide) (len_cons len_nil)))))
  h
theorem ok__law_gaps (T : Txt G mg fa fd) : FnOk P w G.K mg base (L2.CX P w) 6 (fa 27) (fd 27) ["_law_row_here", "_law_gaps_here"] (spD G 2 m__law_gaps) :=
  have h := fnD (P := P) (w := w) (mg := mg) (base := base) (G := G) (N := n__law_gaps) (ps := ["_law_row_here", "_law_gaps_here"]) (k := 5) (m := b__law_gaps) (O' := {}) T.d__law_gaps.F sc__law_gaps rfl fun cdv A outer s H E c xt =>
    (dss_one (ds_try_as 2 clX_BadGaps c xt sc__law_gaps.nd ⟨rfl, by decide, .inl T.g_BadGaps⟩ T.clX_BadGaps (fun _ _ _ ct xtt => (dss_one (ds_ret (de_call ct (ok_check_gaps T) T.d_check_gaps.g T.d_check_gaps.kp T.d_check_gaps.b (da_cons (de_var 0) (da_cons (de_var 1) da_nil)) (by decide) (len_cons (len_cons len_nil)))))) (fun _ _ _ _ _ hz hf => (dss_one (ds_ret (de_if (dw_and (dt_tru (suK c.K) (de_isXF 2 tabX hz hf c.K T.n_isinstance T.tabX (de_globC 0 T.g_GapError))) (dw_and1 (dt_tru (suK c.K) (de_isXF 2 tabX hz hf c.K T.n_isinstance T.tabX (de_globT "ValueError" T.n_ValueError (by decide +kernel)))))).dt (de_xf 2 hz hf c.K T.okX) de_non))))))
  h
theorem ok__law_moment (T : Txt G mg fa fd) : FnOk P w G.K mg base (L2.CX P w) 6 (fa 28) (fd 28) ["_law_moment_here"] (spD G 1 m__law_moment) :=
  have h := fnD (P := P) (w := w) (mg := mg) (base := base) (G := G) (N := n__law_moment) (ps := ["_law_moment_here"]) (k := 5) (m := b__law_moment) (O' := {}) T.d__law_moment.F sc__law_moment rfl fun cdv A outer s H E c xt =>
    (dss_one (ds_try_as 1 clX_BadMoment c xt sc__law_moment.nd ⟨rfl, by decide, .inl T.g_BadMoment⟩ T.clX_BadMoment (fun _ _ _ ct xtt => (dss_one (ds_ret (de_call ct (ok_check_moment T) T.d_check_moment.g T.d_check_moment.kp T.d_check_moment.b (da_cons (de_var 0) da_nil) (by decide) (len_cons len_nil))))) (fun _ _ _ _ _ hz hf => (dss_one (ds_ret (de_if (dw_and (dt_tru (suK c.K) (de_isXF 1 tabX hz hf c.K T.n_isinstance T.tabX (de_globC 0 T.g_GapError))) (dw_and1 (dt_tru (suK c.K) (de_isXF 1 tabX hz hf c.K T.n_isinstance T.tabX (de_globT "ValueError" T.n_ValueError (by decide +kernel)))))).dt (de_lst (da_cons de_str (da_cons (de_xf 1 hz hf c.K T.okX) da_nil))) de_non))))))
  h
theorem ok__law_one (T : Txt G mg fa fd) : FnOk P w G.K mg base (L2.CX P w) 7 (fa 29) (fd 29) ["_law_row_here", "_law_many", "_law_good", "_law_odd_here", "_law_at", "_law_near"] (spD G 6 m__law_one) :=
  have h := fnD (P := P) (w := w) (mg := mg) (base := base) (G := G) (N := n__law_one) (ps := ["_law_row_here", "_law_many", "_law_good", "_law_odd_here", "_law_at", "_law_near"]) (k := 6) (m := b__law_one) (O' := {}) T.d__law_one.F sc__law_one rfl fun cdv A outer s H E c xt =>
    (dss_cons (ds_if (dt_cmp (op_neD c.hr.units) (opd_ne c.K) (de_fld c.K T.fld (de_var 0)) (de_var 1)) (dss_one (ds_ret de_bl)) dss_nil)
    (dss_cons (ds_set 6 sc__law_one.nd (de_slice c.K (de_var 2) do_none (do_some (de_var 1))))
    (dss_cons (ds_set 7 sc__law_one.nd (de_callTy call_tuple_of (cd_tuple c.K) T.n_tuple PyProof.Rows.boot_tuple (da_cons (de_lc c sc__law_one.nd (di_seq c.K (de_var 6)) (blkOk_by (own := [("_law_x", 13)]) (N := n__law_one) (sc := defScope s__law_one) (by decide +kernel)) (fun _ _ _ _ _ => (dg_name 13 sc__law_one.nd)) (fun _ _ _ _ _ cb => dts_nil) (fun _ _ _ _ _ cb => (de_call cb (ok__law_told T) T.d__law_told.g T.d__law_told.kp T.d__law_told.b (da_cons (de_var 13) da_nil) (by decide) (len_cons len_nil)))) da_nil)))
    (dss_cons (ds_if (dw_or (dt_cmp (op_neD c.hr.units) (opd_ne c.K) (de_call c (ok__law_gaps T) T.d__law_gaps.g T.d__law_gaps.kp T.d__law_gaps.b (da_cons (de_var 0) (da_cons (de_var 6) da_nil)) (by decide) (len_cons (len_cons len_nil))) (de_var 7)) (dw_or (dt_cmp (op_neD c.hr.units) (opd_ne c.K) (de_call c (ok__law_gaps T) T.d__law_gaps.g T.d__law_gaps.kp T.d__law_gaps.b (da_cons (de_var 0) (da_cons (de_callTy call_tuple_of (cd_tuple c.K) T.n_tuple PyProof.Rows.boot_tuple (da_cons (de_var 6) da_nil)) da_nil)) (by decide) (len_cons (len_cons len_nil))) (de_var 7)) (dw_or1 (dt_cmp (op_neD c.hr.units) (opd_ne c.K) (de_var 6) (de_slice c.K (de_var 2) do_none (do_some (de_var 1))))))).dt (dss_one (ds_ret de_bl)) dss_nil)
    (dss_cons (ds_if (dw_or (dt_cmp (op_neD c.hr.units) (opd_ne c.K) (de_call c (ok__law_gaps T) T.d__law_gaps.g T.d__law_gaps.kp T.d__law_gaps.b (da_cons (de_var 0) (da_cons (de_slice c.K (de_var 2) do_none (do_some (de_op op_addD (opd_add c.K) (de_var 1) de_int))) da_nil)) (by decide) (len_cons (len_cons len_nil))) de_str) (dw_or1 (dt_cmp (op_neD c.hr.units) (opd_ne c.K) (de_call c (ok__law_gaps T) T.d__law_gaps.g T.d__law_gaps.kp T.d__law_gaps.b (da_cons (de_var 0) (da_cons (de_slice c.K (de_var 6) do_none (do_some (de_un un_neg und_neg de_int))) da_nil)) (by decide) (len_cons (len_cons len_nil))) de_str))).dt (dss_one (ds_ret de_bl)) dss_nil)
    (dss_cons (ds_for c (di_seq c.K (de_lst (da_cons de_non (da_cons (de_op op_mulS opd_mulS de_str (de_var 1)) (da_cons (de_var 1) (da_cons de_dic (da_cons (de_op op_mulD3 (opd_mul c.K) (de_lst (da_cons (de_var 3) da_nil)) (de_op op_addD (opd_add c.K) (de_var 1) de_int)) da_nil))))))) (dg_name 8 sc__law_one.nd) (dss_one (ds_if (dt_cmp (op_neD c.hr.units) (opd_ne c.K) (de_call c (ok__law_gaps T) T.d__law_gaps.g T.d__law_gaps.kp T.d__law_gaps.b (da_cons (de_var 0) (da_cons (de_var 8) da_nil)) (by decide) (len_cons (len_cons len_nil))) de_str) (dss_one (ds_ret de_bl)) dss_nil)))
    (dss_cons (ds_for c (di_seq c.K (de_lst (da_cons (de_var 3) (da_cons de_int (da_cons (de_tup (da_cons de_int (da_cons (de_var 5) da_nil))) da_nil))))) (dg_name 9 sc__law_one.nd) (dss_one (ds_if (dt_cmp (op_neD c.hr.units) (opd_ne c.K) (de_call c (ok__law_gaps T) T.d__law_gaps.g T.d__law_gaps.kp T.d__law_gaps.b (da_cons (de_var 0) (da_cons (de_op op_addD (opd_add c.K) (de_op op_addD (opd_add c.K) (de_slice c.K (de_var 6) do_none (do_some (de_var 4))) (de_lst (da_cons (de_var 9) da_nil))) (de_slice c.K (de_var 6) (do_some (de_op op_addD (opd_add c.K) (de_var 4) de_int)) do_none)) da_nil)) (by decide) (len_cons (len_cons len_nil))) de_str) (dss_one (ds_ret de_bl)) dss_nil)))
    (dss_cons (ds_set 10 sc__law_one.nd (de_lenM c (ok_Row___len__ T) T.mt_Row___len__.at_ T.mt_Row___len__.fn T.d_Row___len__.b T.n_len (de_var 0)))
    (dss_cons (ds_for c (di_range1 T.n_range (da_cons (de_var 10) da_nil)) (dg_name 11 sc__law_one.nd) (dss_cons (ds_set 12 sc__law_one.nd (de_call c (ok__law_ball T) T.d__law_ball.g T.d__law_ball.kp T.d__law_ball.b (da_cons (de_var 0) (da_cons (de_var 11) da_nil)) (by decide) (len_cons (len_cons len_nil))))
    (dss_one (ds_if (dw_or (dt_cmp (op_neD c.hr.units) (opd_ne c.K) (de_var 12) (de_var 11)) (dw_or1 (dt_tru c.K (de_callB (CallR.or call_isi (CallR.or call_isiT call_isiK)) (cd_isi c.K) T.n_isinstance PyProof.Rows.boot_isinstance (da_cons (de_var 12) (da_cons (de_globT "bool" T.n_bool (by decide +kernel)) da_nil)))))).dt (dss_one (ds_ret de_bl)) dss_nil))))
    (dss_cons (ds_for c (di_seq c.K (de_lst (da_cons (de_un un_neg und_neg de_int) (da_cons (de_var 10) (da_cons (de_op op_addD (opd_add c.K) (de_var 10) (de_var 5)) (da_cons (de_un un_neg und_neg (de_var 5)) (da_cons de_non (da_cons de_str (da_cons (de_tup (da_cons de_int (da_cons de_int da_nil))) da_nil))))))))) (dg_name 11 sc__law_one.nd) (dss_one (ds_if (dt_cmp (op_neD c.hr.units) (opd_ne c.K) (de_call c (ok__law_ball T) T.d__law_ball.g T.d__law_ball.kp T.d__law_ball.b (da_cons (de_var 0) (da_cons (de_var 11) da_nil)) (by decide) (len_cons (len_cons len_nil))) (de_lst (da_cons de_str (da_cons (de_var 11) da_nil)))) (dss_one (ds_ret de_bl)) dss_nil)))
    (dss_cons (ds_set 12 sc__law_one.nd (de_call c (ok__law_ball T) T.d__law_ball.g T.d__law_ball.kp T.d__law_ball.b (da_cons (de_var 0) (da_cons de_bl da_nil)) (by decide) (len_cons (len_cons len_nil))))
    (dss_cons (ds_if (dw_or (dt_not (dt_tru c.K (de_callB (CallR.or call_isi (CallR.or call_isiT call_isiK)) (cd_isi c.K) T.n_isinstance PyProof.Rows.boot_isinstance (da_cons (de_var 12) (da_cons (de_globT "list" T.n_list boot_list) da_nil))))) (dw_or1 (dt_cmp op_isnot_bl opd_notB (de_get c.K (de_var 12) de_int) de_bl))).dt (dss_one (ds_ret de_bl)) dss_nil)
    (dss_one (ds_ret (de_cmp (op_eqD c.hr.units) (opd_eq c.K) (de_call c (ok__law_narrow T) T.d__law_narrow.g T.d__law_narrow.kp T.d__law_narrow.b (da_cons (de_var 0) da_nil) (by decide) (len_cons len_nil)) (de_if (dt_cmp op_gt opd_gt (de_var 1) de_int) de_bl de_non))))))))))))))))
  h
theorem ok__law_row (T : Txt G mg fa fd) : FnOk P w G.K mg base (L2.CX P w) 7 (fa 30) (fd 30) ["_law_hand_here"] (spD G 1 m__law_row) :=
  have h := fnD (P := P) (w := w) (mg := mg) (base := base) (G := G) (N := n__law_row) (ps := ["_law_hand_here"]) (k := 6) (m := b__law_row) (O' := {}) T.d__law_row.F sc__law_row rfl fun cdv A outer s H E c xt =>
    (dss_cons (ds_set 1 sc__law_row.nd (de_cmp (op_eqD c.hr.units) (opd_eq c.K) (de_call c (ok__law_draw T) T.d__law_draw.g T.d__law_draw.kp T.d__law_draw.b (da_cons (de_var 0) (da_cons de_int da_nil)) (by decide) (len_cons (len_cons len_nil))) de_int))
    (dss_cons (ds_set 2 sc__law_row.nd (de_op op_addD (opd_add c.K) (de_if (dt_tru c.K (de_var 1)) de_int de_int) (de_call c (ok__law_draw T) T.d__law_draw.g T.d__law_draw.kp T.d__law_draw.b (da_cons (de_var 0) (da_cons de_int da_nil)) (by decide) (len_cons (len_cons len_nil)))))
    (dss_cons (ds_if (dt_cmp (op_eqD c.hr.units) (opd_eq c.K) (de_call c (ok__law_draw T) T.d__law_draw.g T.d__law_draw.kp T.d__law_draw.b (da_cons (de_var 0) (da_cons de_int da_nil)) (by decide) (len_cons (len_cons len_nil))) de_int) (dss_one (ds_set 2 sc__law_row.nd de_int)) dss_nil)
    (dss_one (ds_ret (de_makeD c T.d_Row___init__.mkC (ok_Row___init__ T) T.d_Row___init__.g (T.d_Row___init__.b 1 (by decide)) (fun _ _ => .nil) (da_cons (de_lc c sc__law_row.nd (di_range1 T.n_range (da_cons (de_var 2) da_nil)) (blkOk_by (own := [("_law_k", 3)]) (N := n__law_row) (sc := defScope s__law_row) (by decide +kernel)) (fun _ _ _ _ _ => (dg_name 3 sc__law_row.nd)) (fun _ _ _ _ _ cb => dts_nil) (fun _ _ _ _ _ cb => (de_op op_addD (opd_add cb.K) de_int (de_call cb (ok__law_draw T) T.d__law_draw.g T.d__law_draw.kp T.d__law_draw.b (da_cons (de_var 0) (da_cons de_int da_nil)) (by decide) (len_cons (len_cons len_nil)))))) (da_cons (de_lc c sc__law_row.nd (di_range1 T.n_range (da_cons (de_var 2) da_nil)) (blkOk_by (own := [("_law_k", 3)]) (N := n__law_row) (sc := defScope s__law_row) (by decide +kernel)) (fun _ _ _ _ _ => (dg_name 3 sc__law_row.nd)) (fun _ _ _ _ _ cb => dts_nil) (fun _ _ _ _ _ cb => (de_op op_sub opd_sub (de_call cb (ok__law_draw T) T.d__law_draw.g T.d__law_draw.kp T.d__law_draw.b (da_cons (de_var 0) (da_cons de_int da_nil)) (by decide) (len_cons (len_cons len_nil))) de_int))) (da_cons (de_var 1) da_nil))) (len_cons (len_cons (len_cons len_nil)))))))))
  h
theorem ok_law (T : Txt G mg fa fd) (hH : ∀ (ns : List Int), ns.length ≤ 63 → ∃ cells t, m__law_hand [.rol (ns.map .int)] [] = .ok (handD cells 0 0 t) [] ∧ ∃ st', b_law (some (.rol (ns.map .int)) :: some (.tok 0) :: List.replicate 10 none) [handD cells 0 0 t] = .rt (.bl true) st') : FnOk P w G.K mg base (L2.CX P w) 8 (fa 31) (fd 31) ["_law_script"] (spLaw G.K) :=
  have h := lawD2 (P := P) (w := w) (mg := mg) (base := base) (G := G) (N := n_law) (k := 7) (m := b_law) (O' := {}) T.d_law.F sc_law rfl rfl (by first | exact .inl rfl | exact .inr rfl) rfl rfl rfl (ok__law_hand T) T.d__law_hand.g T.d__law_hand.kp T.d__law_hand.b (by decide) hH (hfx := fun _ _ _ _ _ _ => by first | exact .inl rfl | exact .inr rfl) fun cdv A outer s H E c xt =>
    (dss_cons (ds_set 2 sc_law.nd (de_call c (ok__law_row T) T.d__law_row.g T.d__law_row.kp T.d__law_row.b (da_cons (de_var 1) da_nil) (by decide) (len_cons len_nil)))
    (dss_cons (ds_set 3 sc_law.nd (de_call c (ok__law_row T) T.d__law_row.g T.d__law_row.kp T.d__law_row.b (da_cons (de_var 1) da_nil) (by decide) (len_cons len_nil)))
    (dss_cons (ds_setLc 4 c sc_law.nd (di_range1 T.n_range (da_cons de_int da_nil)) (blkOk_by (own := [("_law_k", 11)]) (N := n_law) (sc := defScope s_law) (by decide +kernel)) (sw_true rfl rfl rfl (by decide +kernel)) (fun _ _ _ _ _ => (dg_name 11 sc_law.nd)) (fun _ _ _ _ _ cb => dts_nil) (fun _ _ _ _ _ cb => (de_call cb (ok__law_gap T) T.d__law_gap.g T.d__law_gap.kp T.d__law_gap.b (da_cons (de_var 1) da_nil) (by decide) (len_cons len_nil))))
    (dss_cons (ds_set 5 sc_law.nd (de_op op_addD (opd_add c.K) de_int (de_call c (ok__law_draw T) T.d__law_draw.g T.d__law_draw.kp T.d__law_draw.b (da_cons (de_var 1) (da_cons (de_op op_pow opd_pow de_int de_int) da_nil)) (by decide) (len_cons (len_cons len_nil)))))
    (dss_cons (ds_set 6 sc_law.nd (de_call c (ok__law_odd T) T.d__law_odd.g T.d__law_odd.kp T.d__law_odd.b (da_cons (de_var 1) (da_cons (de_var 5) da_nil)) (by decide) (len_cons (len_cons len_nil))))
    (dss_cons (ds_set 7 sc_law.nd (de_if (dt_tru c.K (de_fld c.K T.fld (de_var 2))) (de_callB call_len (cd_len c.K) T.n_len PySem.boot_len (da_cons (de_fld c.K T.fld (de_var 2)) da_nil)) (de_op op_sub opd_sub (de_callB call_len (cd_len c.K) T.n_len PySem.boot_len (da_cons (de_fld c.K T.fld (de_var 2)) da_nil)) de_int)))
    (dss_cons (ds_set 8 sc_law.nd (de_if (dt_tru c.K (de_fld c.K T.fld (de_var 3))) (de_callB call_len (cd_len c.K) T.n_len PySem.boot_len (da_cons (de_fld c.K T.fld (de_var 3)) da_nil)) (de_op op_sub opd_sub (de_callB call_len (cd_len c.K) T.n_len PySem.boot_len (da_cons (de_fld c.K T.fld (de_var 3)) da_nil)) de_int)))
    (dss_cons (ds_for c (di_range1 T.n_range (da_cons de_int da_nil)) (dg_name 9 sc_law.nd) (dss_cons (ds_if (dt_not (dt_tru c.K (de_call c (ok__law_one T) T.d__law_one.g T.d__law_one.kp T.d__law_one.b (da_cons (de_var 2) (da_cons (de_var 7) (da_cons (de_var 4) (da_cons (de_var 6) (da_cons (de_call c (ok__law_draw T) T.d__law_draw.g T.d__law_draw.kp T.d__law_draw.b (da_cons (de_var 1) (da_cons (de_var 7) da_nil)) (by decide) (len_cons (len_cons len_nil))) (da_cons (de_var 5) da_nil)))))) (by decide) (len_cons (len_cons (len_cons (len_cons (len_cons (len_cons len_nil))))))))) (dss_one (ds_ret de_bl)) dss_nil)
    (dss_one (ds_if (dt_not (dt_tru c.K (de_call c (ok__law_one T) T.d__law_one.g T.d__law_one.kp T.d__law_one.b (da_cons (de_var 3) (da_cons (de_var 8) (da_cons (de_var 4) (da_cons (de_var 6) (da_cons (de_call c (ok__law_draw T) T.d__law_draw.g T.d__law_draw.kp T.d__law_draw.b (da_cons (de_var 1) (da_cons (de_var 8) da_nil)) (by decide) (len_cons (len_cons len_nil))) (da_cons (de_var 5) da_nil)))))) (by decide) (len_cons (len_cons (len_cons (len_cons (len_cons (len_cons len_nil))))))))) (dss_one (ds_ret de_bl)) dss_nil))))
    (dss_cons (ds_for c (di_seq c.K (de_lst (da_cons (de_get c.K (de_var 4) de_int) (da_cons de_int (da_cons (de_tup (da_cons de_int (da_cons (de_var 5) da_nil))) (da_cons (de_var 5) (da_cons (de_get c.K (de_var 4) de_int) da_nil))))))) (dg_name 10 sc_law.nd) (dss_one (ds_if (dt_cmp (op_neD c.hr.units) (opd_ne c.K) (de_call c (ok__law_moment T) T.d__law_moment.g T.d__law_moment.kp T.d__law_moment.b (da_cons (de_var 10) da_nil) (by decide) (len_cons len_nil)) (de_call c (ok__law_told T) T.d__law_told.g T.d__law_told.kp T.d__law_told.b (da_cons (de_var 10) da_nil) (by decide) (len_cons len_nil))) (dss_one (ds_ret de_bl)) dss_nil)))
    (dss_one (ds_ret (de_and (de_cmp (op_eqD c.hr.units) (opd_eq c.K) (de_call c (ok__law_moment T) T.d__law_moment.g T.d__law_moment.kp T.d__law_moment.b (da_cons (de_var 6) da_nil) (by decide) (len_cons len_nil)) (de_lst (da_cons de_str (da_cons (de_var 6) da_nil)))) (de_one (de_cmp (op_eqD c.hr.units) (opd_eq c.K) (de_call c (ok__law_moment T) T.d__law_moment.g T.d__law_moment.kp T.d__law_moment.b (da_cons (de_tup (da_cons (de_un un_neg und_neg (de_var 5)) (da_cons de_int da_nil))) da_nil) (by decide) (len_cons len_nil)) (de_lst (da_cons de_str (da_cons (de_tup (da_cons (de_un un_neg und_neg (de_var 5)) (da_cons de_int da_nil))) da_nil)))))))))))))))))
  h
end
theorem all_mk {l : PySem.W.OpenLaw} {w : World} {K : PySem.W.Frag} {h : Heap} {mg : Str → Option Value} {la : Addr}
    {C0 : Addr}
    {C1 : Addr}
    {C2 : Addr}
    {C3 : Addr}
    {C4 : Addr}
    {C5 : Addr}
    {C6 : Addr}
    {C7 : Addr}
    {f0 : Addr} {od0 an0 : Option Addr} {sl0 : Array (Option Value)} {oc0 kV0 dc0 pm0 cd0 ct0 : Value}
    {f1 : Addr} {od1 an1 : Option Addr} {sl1 : Array (Option Value)} {oc1 kV1 dc1 pm1 cd1 ct1 : Value}
    {f2 : Addr} {od2 an2 : Option Addr} {sl2 : Array (Option Value)} {oc2 kV2 dc2 pm2 cd2 ct2 : Value}
    {f3 : Addr} {od3 an3 : Option Addr} {sl3 : Array (Option Value)} {oc3 kV3 dc3 pm3 cd3 ct3 : Value}
    {f4 : Addr} {od4 an4 : Option Addr} {sl4 : Array (Option Value)} {oc4 kV4 dc4 pm4 cd4 ct4 : Value}
    {f5 : Addr} {od5 an5 : Option Addr} {sl5 : Array (Option Value)} {oc5 kV5 dc5 pm5 cd5 ct5 : Value}
    {f6 : Addr} {od6 an6 : Option Addr} {sl6 : Array (Option Value)} {oc6 kV6 dc6 pm6 cd6 ct6 : Value}
    {f7 : Addr} {od7 an7 : Option Addr} {sl7 : Array (Option Value)} {oc7 kV7 dc7 pm7 cd7 ct7 : Value}
    {f8 : Addr} {od8 an8 : Option Addr} {sl8 : Array (Option Value)} {oc8 kV8 dc8 pm8 cd8 ct8 : Value}
    {f9 : Addr} {od9 an9 : Option Addr} {sl9 : Array (Option Value)} {oc9 kV9 dc9 pm9 cd9 ct9 : Value}
    {f10 : Addr} {od10 an10 : Option Addr} {sl10 : Array (Option Value)} {oc10 kV10 dc10 pm10 cd10 ct10 : Value}
    {f11 : Addr} {od11 an11 : Option Addr} {sl11 : Array (Option Value)} {oc11 kV11 dc11 pm11 cd11 ct11 : Value}
    {f12 : Addr} {od12 an12 : Option Addr} {sl12 : Array (Option Value)} {oc12 kV12 dc12 pm12 cd12 ct12 : Value}
    {f13 : Addr} {od13 an13 : Option Addr} {sl13 : Array (Option Value)} {oc13 kV13 dc13 pm13 cd13 ct13 : Value}
    {f14 : Addr} {od14 an14 : Option Addr} {sl14 : Array (Option Value)} {oc14 kV14 dc14 pm14 cd14 ct14 : Value}
    {f15 : Addr} {od15 an15 : Option Addr} {sl15 : Array (Option Value)} {oc15 kV15 dc15 pm15 cd15 ct15 : Value}
    {f16 : Addr} {od16 an16 : Option Addr} {sl16 : Array (Option Value)} {oc16 kV16 dc16 pm16 cd16 ct16 : Value}
    {f17 : Addr} {od17 an17 : Option Addr} {sl17 : Array (Option Value)} {oc17 kV17 dc17 pm17 cd17 ct17 : Value}
    {f18 : Addr} {od18 an18 : Option Addr} {sl18 : Array (Option Value)} {oc18 kV18 dc18 pm18 cd18 ct18 : Value}
    {f19 : Addr} {od19 an19 : Option Addr} {sl19 : Array (Option Value)} {oc19 kV19 dc19 pm19 cd19 ct19 : Value}
    {f20 : Addr} {od20 an20 : Option Addr} {sl20 : Array (Option Value)} {oc20 kV20 dc20 pm20 cd20 ct20 : Value}
    {f21 : Addr} {od21 an21 : Option Addr} {sl21 : Array (Option Value)} {oc21 kV21 dc21 pm21 cd21 ct21 : Value}
    {f22 : Addr} {od22 an22 : Option Addr} {sl22 : Array (Option Value)} {oc22 kV22 dc22 pm22 cd22 ct22 : Value}
    {f23 : Addr} {od23 an23 : Option Addr} {sl23 : Array (Option Value)} {oc23 kV23 dc23 pm23 cd23 ct23 : Value}
    {f24 : Addr} {od24 an24 : Option Addr} {sl24 : Array (Option Value)} {oc24 kV24 dc24 pm24 cd24 ct24 : Value}
    {Td24 : Addr} {td24 : Option Addr} {tc24 : Value} {tn24 : Nat} {ts24 : Array (Option Value)}
    {f25 : Addr} {od25 an25 : Option Addr} {sl25 : Array (Option Value)} {oc25 kV25 dc25 pm25 cd25 ct25 : Value}
    {f26 : Addr} {od26 an26 : Option Addr} {sl26 : Array (Option Value)} {oc26 kV26 dc26 pm26 cd26 ct26 : Value}
    {f27 : Addr} {od27 an27 : Option Addr} {sl27 : Array (Option Value)} {oc27 kV27 dc27 pm27 cd27 ct27 : Value}
    {f28 : Addr} {od28 an28 : Option Addr} {sl28 : Array (Option Value)} {oc28 kV28 dc28 pm28 cd28 ct28 : Value}
    {f29 : Addr} {od29 an29 : Option Addr} {sl29 : Array (Option Value)} {oc29 kV29 dc29 pm29 cd29 ct29 : Value}
    {f30 : Addr} {od30 an30 : Option Addr} {sl30 : Array (Option Value)} {oc30 kV30 dc30 pm30 cd30 ct30 : Value}
    {f31 : Addr} {od31 an31 : Option Addr} {sl31 : Array (Option Value)} {oc31 kV31 dc31 pm31 cd31 ct31 : Value}
    {t_MOST_BALLS : Tok}
    {t_MOST_WEIGHT : Tok}
    {nm2 qn2 : String} {Nx2 : Addr} {bs2 sb2 : List Value} {sn2 : List Str} {ab2 : Bool} {co2 : Option Bool} {dd2 : Option Addr} {m0_2 m1_2 m2_2 m3_2 m5_2 : Option Value}
    {nm3 qn3 : String} {Nx3 : Addr} {bs3 sb3 : List Value} {sn3 : List Str} {ab3 : Bool} {co3 : Option Bool} {dd3 : Option Addr} {m0_3 m1_3 m2_3 m3_3 m5_3 : Option Value}
    {nm4 qn4 : String} {Nx4 : Addr} {bs4 sb4 : List Value} {sn4 : List Str} {ab4 : Bool} {co4 : Option Bool} {dd4 : Option Addr} {m0_4 m1_4 m2_4 m3_4 m5_4 : Option Value}
    {nm5 qn5 : String} {Nx5 : Addr} {bs5 sb5 : List Value} {sn5 : List Str} {ab5 : Bool} {co5 : Option Bool} {dd5 : Option Addr} {m0_5 m1_5 m2_5 m3_5 m5_5 : Option Value}
    (X : K.In h) (Gn : h.Ns mainGlobals mg) (hfa : mg "law" = some (.ref la))
    (hH : ∀ (ns : List Int), ns.length ≤ 63 → ∃ cells t, m__law_hand [.rol (ns.map .int)] [] = .ok (handD cells 0 0 t) [] ∧ ∃ st', b_law (some (.rol (ns.map .int)) :: some (.tok 0) :: List.replicate 10 none) [handD cells 0 0 t] = .rt (.bl true) st')
    (ca0 : PySem.W.nsIn K mainGlobals "GapError" = some (some (.ref C0)))
    (ca1 : PySem.W.nsIn K mainGlobals "BadRatio" = some (some (.ref C1)))
    (ca2 : PySem.W.nsIn K mainGlobals "BadRow" = some (some (.ref C2)))
    (ca3 : PySem.W.nsIn K mainGlobals "BadGaps" = some (some (.ref C3)))
    (ca4 : PySem.W.nsIn K mainGlobals "BadMoment" = some (some (.ref C4)))
    (ca5 : PySem.W.nsIn K mainGlobals "NoBall" = some (some (.ref C5)))
    (ca6 : PySem.W.nsIn K mainGlobals "Wide" = some (some (.ref C6)))
    (ca7 : PySem.W.nsIn K mainGlobals "Row" = some (some (.ref C7)))
    (a0 : PySem.W.findIn K (.ref C3) "__init__" = some (some (.ref f0)))
    (l0 : K.lookup f0 = some ⟨oc0, od0, .func (PySem.W.fnOf "__init__" "BadGaps.__init__" (defArgs s_BadGaps___init__) (defBody s_BadGaps___init__) (defScope s_BadGaps___init__) .none kV0 dc0 pm0 an0 cd0 ct0), sl0⟩)
    (c0 : PySem.W.codeIn K cd0 "BadGaps.__init__" = true)
    (k0 : PySem.W.keepIn K (.ref f0) = true)
    (tI0 : PySem.W.typeIn K (.ref f0) = some (.type "function"))
    (a1 : PySem.W.findIn K (.ref C4) "__init__" = some (some (.ref f1)))
    (l1 : K.lookup f1 = some ⟨oc1, od1, .func (PySem.W.fnOf "__init__" "BadMoment.__init__" (defArgs s_BadMoment___init__) (defBody s_BadMoment___init__) (defScope s_BadMoment___init__) .none kV1 dc1 pm1 an1 cd1 ct1), sl1⟩)
    (c1 : PySem.W.codeIn K cd1 "BadMoment.__init__" = true)
    (k1 : PySem.W.keepIn K (.ref f1) = true)
    (tI1 : PySem.W.typeIn K (.ref f1) = some (.type "function"))
    (a2 : PySem.W.findIn K (.ref C2) "__init__" = some (some (.ref f2)))
    (l2 : K.lookup f2 = some ⟨oc2, od2, .func (PySem.W.fnOf "__init__" "BadRow.__init__" (defArgs s_BadRow___init__) (defBody s_BadRow___init__) (defScope s_BadRow___init__) .none kV2 dc2 pm2 an2 cd2 ct2), sl2⟩)
    (c2 : PySem.W.codeIn K cd2 "BadRow.__init__" = true)
    (k2 : PySem.W.keepIn K (.ref f2) = true)
    (tI2 : PySem.W.typeIn K (.ref f2) = some (.type "function"))
    (a3 : PySem.W.findIn K (.ref C5) "__init__" = some (some (.ref f3)))
    (l3 : K.lookup f3 = some ⟨oc3, od3, .func (PySem.W.fnOf "__init__" "NoBall.__init__" (defArgs s_NoBall___init__) (defBody s_NoBall___init__) (defScope s_NoBall___init__) .none kV3 dc3 pm3 an3 cd3 ct3), sl3⟩)
    (c3 : PySem.W.codeIn K cd3 "NoBall.__init__" = true)
    (k3 : PySem.W.keepIn K (.ref f3) = true)
    (tI3 : PySem.W.typeIn K (.ref f3) = some (.type "function"))
    (a4 : PySem.W.findIn K (.ref C7) "__len__" = some (some (.ref f4)))
    (l4 : K.lookup f4 = some ⟨oc4, od4, .func (PySem.W.fnOf "__len__" "Row.__len__" (defArgs s_Row___len__) (defBody s_Row___len__) (defScope s_Row___len__) .none kV4 dc4 pm4 an4 cd4 ct4), sl4⟩)
    (c4 : PySem.W.codeIn K cd4 "Row.__len__" = true)
    (k4 : PySem.W.keepIn K (.ref f4) = true)
    (isf4 : PySem.W.isFn K (.ref f4) = true)
    (a5 : PySem.W.nsIn K mainGlobals "_law_hand" = some (some (.ref f5)))
    (l5 : K.lookup f5 = some ⟨oc5, od5, .func (PySem.W.fnOf "_law_hand" "_law_hand" (defArgs s__law_hand) (defBody s__law_hand) (defScope s__law_hand) .none kV5 dc5 pm5 an5 cd5 ct5), sl5⟩)
    (c5 : PySem.W.codeIn K cd5 "_law_hand" = true)
    (k5 : PySem.W.keepIn K (.ref f5) = true)
    (a6 : PySem.W.nsIn K mainGlobals "_law_low" = some (some (.ref f6)))
    (l6 : K.lookup f6 = some ⟨oc6, od6, .func (PySem.W.fnOf "_law_low" "_law_low" (defArgs s__law_low) (defBody s__law_low) (defScope s__law_low) .none kV6 dc6 pm6 an6 cd6 ct6), sl6⟩)
    (c6 : PySem.W.codeIn K cd6 "_law_low" = true)
    (k6 : PySem.W.keepIn K (.ref f6) = true)
    (a7 : PySem.W.nsIn K mainGlobals "_law_mix" = some (some (.ref f7)))
    (l7 : K.lookup f7 = some ⟨oc7, od7, .func (PySem.W.fnOf "_law_mix" "_law_mix" (defArgs s__law_mix) (defBody s__law_mix) (defScope s__law_mix) .none kV7 dc7 pm7 an7 cd7 ct7), sl7⟩)
    (c7 : PySem.W.codeIn K cd7 "_law_mix" = true)
    (k7 : PySem.W.keepIn K (.ref f7) = true)
    (a8 : PySem.W.nsIn K mainGlobals "check_narrow" = some (some (.ref f8)))
    (l8 : K.lookup f8 = some ⟨oc8, od8, .func (PySem.W.fnOf "check_narrow" "check_narrow" (defArgs s_check_narrow) (defBody s_check_narrow) (defScope s_check_narrow) .none kV8 dc8 pm8 an8 cd8 ct8), sl8⟩)
    (c8 : PySem.W.codeIn K cd8 "check_narrow" = true)
    (k8 : PySem.W.keepIn K (.ref f8) = true)
    (a9 : PySem.W.nsIn K mainGlobals "is_whole" = some (some (.ref f9)))
    (l9 : K.lookup f9 = some ⟨oc9, od9, .func (PySem.W.fnOf "is_whole" "is_whole" (defArgs s_is_whole) (defBody s_is_whole) (defScope s_is_whole) .none kV9 dc9 pm9 an9 cd9 ct9), sl9⟩)
    (c9 : PySem.W.codeIn K cd9 "is_whole" = true)
    (k9 : PySem.W.keepIn K (.ref f9) = true)
    (a10 : PySem.W.nsIn K mainGlobals "lowest_terms" = some (some (.ref f10)))
    (l10 : K.lookup f10 = some ⟨oc10, od10, .func (PySem.W.fnOf "lowest_terms" "lowest_terms" (defArgs s_lowest_terms) (defBody s_lowest_terms) (defScope s_lowest_terms) .none kV10 dc10 pm10 an10 cd10 ct10), sl10⟩)
    (c10 : PySem.W.codeIn K cd10 "lowest_terms" = true)
    (k10 : PySem.W.keepIn K (.ref f10) = true)
    (a11 : PySem.W.nsIn K mainGlobals "_law_draw" = some (some (.ref f11)))
    (l11 : K.lookup f11 = some ⟨oc11, od11, .func (PySem.W.fnOf "_law_draw" "_law_draw" (defArgs s__law_draw) (defBody s__law_draw) (defScope s__law_draw) .none kV11 dc11 pm11 an11 cd11 ct11), sl11⟩)
    (c11 : PySem.W.codeIn K cd11 "_law_draw" = true)
    (k11 : PySem.W.keepIn K (.ref f11) = true)
    (a12 : PySem.W.nsIn K mainGlobals "_law_narrow" = some (some (.ref f12)))
    (l12 : K.lookup f12 = some ⟨oc12, od12, .func (PySem.W.fnOf "_law_narrow" "_law_narrow" (defArgs s__law_narrow) (defBody s__law_narrow) (defScope s__law_narrow) .none kV12 dc12 pm12 an12 cd12 ct12), sl12⟩)
    (c12 : PySem.W.codeIn K cd12 "_law_narrow" = true)
    (k12 : PySem.W.keepIn K (.ref f12) = true)
    (a13 : PySem.W.nsIn K mainGlobals "_law_told" = some (some (.ref f13)))
    (l13 : K.lookup f13 = some ⟨oc13, od13, .func (PySem.W.fnOf "_law_told" "_law_told" (defArgs s__law_told) (defBody s__law_told) (defScope s__law_told) .none kV13 dc13 pm13 an13 cd13 ct13), sl13⟩)
    (c13 : PySem.W.codeIn K cd13 "_law_told" = true)
    (k13 : PySem.W.keepIn K (.ref f13) = true)
    (a14 : PySem.W.nsIn K mainGlobals "is_ratio" = some (some (.ref f14)))
    (l14 : K.lookup f14 = some ⟨oc14, od14, .func (PySem.W.fnOf "is_ratio" "is_ratio" (defArgs s_is_ratio) (defBody s_is_ratio) (defScope s_is_ratio) .none kV14 dc14 pm14 an14 cd14 ct14), sl14⟩)
    (c14 : PySem.W.codeIn K cd14 "is_ratio" = true)
    (k14 : PySem.W.keepIn K (.ref f14) = true)
    (a15 : PySem.W.nsIn K mainGlobals "_law_gap" = some (some (.ref f15)))
    (l15 : K.lookup f15 = some ⟨oc15, od15, .func (PySem.W.fnOf "_law_gap" "_law_gap" (defArgs s__law_gap) (defBody s__law_gap) (defScope s__law_gap) .none kV15 dc15 pm15 an15 cd15 ct15), sl15⟩)
    (c15 : PySem.W.codeIn K cd15 "_law_gap" = true)
    (k15 : PySem.W.keepIn K (.ref f15) = true)
    (a16 : PySem.W.nsIn K mainGlobals "_law_odd" = some (some (.ref f16)))
    (l16 : K.lookup f16 = some ⟨oc16, od16, .func (PySem.W.fnOf "_law_odd" "_law_odd" (defArgs s__law_odd) (defBody s__law_odd) (defScope s__law_odd) .none kV16 dc16 pm16 an16 cd16 ct16), sl16⟩)
    (c16 : PySem.W.codeIn K cd16 "_law_odd" = true)
    (k16 : PySem.W.keepIn K (.ref f16) = true)
    (a17 : PySem.W.nsIn K mainGlobals "check_ball" = some (some (.ref f17)))
    (l17 : K.lookup f17 = some ⟨oc17, od17, .func (PySem.W.fnOf "check_ball" "check_ball" (defArgs s_check_ball) (defBody s_check_ball) (defScope s_check_ball) .none kV17 dc17 pm17 an17 cd17 ct17), sl17⟩)
    (c17 : PySem.W.codeIn K cd17 "check_ball" = true)
    (k17 : PySem.W.keepIn K (.ref f17) = true)
    (a18 : PySem.W.nsIn K mainGlobals "check_balls" = some (some (.ref f18)))
    (l18 : K.lookup f18 = some ⟨oc18, od18, .func (PySem.W.fnOf "check_balls" "check_balls" (defArgs s_check_balls) (defBody s_check_balls) (defScope s_check_balls) .none kV18 dc18 pm18 an18 cd18 ct18), sl18⟩)
    (c18 : PySem.W.codeIn K cd18 "check_balls" = true)
    (k18 : PySem.W.keepIn K (.ref f18) = true)
    (a19 : PySem.W.nsIn K mainGlobals "ratio_of" = some (some (.ref f19)))
    (l19 : K.lookup f19 = some ⟨oc19, od19, .func (PySem.W.fnOf "ratio_of" "ratio_of" (defArgs s_ratio_of) (defBody s_ratio_of) (defScope s_ratio_of) .none kV19 dc19 pm19 an19 cd19 ct19), sl19⟩)
    (c19 : PySem.W.codeIn K cd19 "ratio_of" = true)
    (k19 : PySem.W.keepIn K (.ref f19) = true)
    (a20 : PySem.W.nsIn K mainGlobals "_law_ball" = some (some (.ref f20)))
    (l20 : K.lookup f20 = some ⟨oc20, od20, .func (PySem.W.fnOf "_law_ball" "_law_ball" (defArgs s__law_ball) (defBody s__law_ball) (defScope s__law_ball) .none kV20 dc20 pm20 an20 cd20 ct20), sl20⟩)
    (c20 : PySem.W.codeIn K cd20 "_law_ball" = true)
    (k20 : PySem.W.keepIn K (.ref f20) = true)
    (a21 : PySem.W.nsIn K mainGlobals "compare" = some (some (.ref f21)))
    (l21 : K.lookup f21 = some ⟨oc21, od21, .func (PySem.W.fnOf "compare" "compare" (defArgs s_compare) (defBody s_compare) (defScope s_compare) .none kV21 dc21 pm21 an21 cd21 ct21), sl21⟩)
    (c21 : PySem.W.codeIn K cd21 "compare" = true)
    (k21 : PySem.W.keepIn K (.ref f21) = true)
    (a22 : PySem.W.nsIn K mainGlobals "plus" = some (some (.ref f22)))
    (l22 : K.lookup f22 = some ⟨oc22, od22, .func (PySem.W.fnOf "plus" "plus" (defArgs s_plus) (defBody s_plus) (defScope s_plus) .none kV22 dc22 pm22 an22 cd22 ct22), sl22⟩)
    (c22 : PySem.W.codeIn K cd22 "plus" = true)
    (k22 : PySem.W.keepIn K (.ref f22) = true)
    (a23 : PySem.W.nsIn K mainGlobals "times" = some (some (.ref f23)))
    (l23 : K.lookup f23 = some ⟨oc23, od23, .func (PySem.W.fnOf "times" "times" (defArgs s_times) (defBody s_times) (defScope s_times) .none kV23 dc23 pm23 an23 cd23 ct23), sl23⟩)
    (c23 : PySem.W.codeIn K cd23 "times" = true)
    (k23 : PySem.W.keepIn K (.ref f23) = true)
    (a24 : PySem.W.findIn K (.ref C7) "__init__" = some (some (.ref f24)))
    (l24 : K.lookup f24 = some ⟨oc24, od24, .func (PySem.W.fnOf "__init__" "Row.__init__" (defArgs s_Row___init__) (defBody s_Row___init__) (defScope s_Row___init__) (.ref Td24) kV24 dc24 pm24 an24 cd24 ct24), sl24⟩)
    (c24 : PySem.W.codeIn K cd24 "Row.__init__" = true)
    (k24 : PySem.W.keepIn K (.ref f24) = true)
    (lT24 : K.lookup Td24 = some ⟨tc24, td24, .seq #[.bool false] tn24, ts24⟩)
    (isf24 : PySem.W.isFn K (.ref f24) = true)
    (a25 : PySem.W.nsIn K mainGlobals "check_gaps" = some (some (.ref f25)))
    (l25 : K.lookup f25 = some ⟨oc25, od25, .func (PySem.W.fnOf "check_gaps" "check_gaps" (defArgs s_check_gaps) (defBody s_check_gaps) (defScope s_check_gaps) .none kV25 dc25 pm25 an25 cd25 ct25), sl25⟩)
    (c25 : PySem.W.codeIn K cd25 "check_gaps" = true)
    (k25 : PySem.W.keepIn K (.ref f25) = true)
    (a26 : PySem.W.nsIn K mainGlobals "check_moment" = some (some (.ref f26)))
    (l26 : K.lookup f26 = some ⟨oc26, od26, .func (PySem.W.fnOf "check_moment" "check_moment" (defArgs s_check_moment) (defBody s_check_moment) (defScope s_check_moment) .none kV26 dc26 pm26 an26 cd26 ct26), sl26⟩)
    (c26 : PySem.W.codeIn K cd26 "check_moment" = true)
    (k26 : PySem.W.keepIn K (.ref f26) = true)
    (a27 : PySem.W.nsIn K mainGlobals "_law_gaps" = some (some (.ref f27)))
    (l27 : K.lookup f27 = some ⟨oc27, od27, .func (PySem.W.fnOf "_law_gaps" "_law_gaps" (defArgs s__law_gaps) (defBody s__law_gaps) (defScope s__law_gaps) .none kV27 dc27 pm27 an27 cd27 ct27), sl27⟩)
    (c27 : PySem.W.codeIn K cd27 "_law_gaps" = true)
    (k27 : PySem.W.keepIn K (.ref f27) = true)
    (a28 : PySem.W.nsIn K mainGlobals "_law_moment" = some (some (.ref f28)))
    (l28 : K.lookup f28 = some ⟨oc28, od28, .func (PySem.W.fnOf "_law_moment" "_law_moment" (defArgs s__law_moment) (defBody s__law_moment) (defScope s__law_moment) .none kV28 dc28 pm28 an28 cd28 ct28), sl28⟩)
    (c28 : PySem.W.codeIn K cd28 "_law_moment" = true)
    (k28 : PySem.W.keepIn K (.ref f28) = true)
    (a29 : PySem.W.nsIn K mainGlobals "_law_one" = some (some (.ref f29)))
    (l29 : K.lookup f29 = some ⟨oc29, od29, .func (PySem.W.fnOf "_law_one" "_law_one" (defArgs s__law_one) (defBody s__law_one) (defScope s__law_one) .none kV29 dc29 pm29 an29 cd29 ct29), sl29⟩)
    (c29 : PySem.W.codeIn K cd29 "_law_one" = true)
    (k29 : PySem.W.keepIn K (.ref f29) = true)
    (a30 : PySem.W.nsIn K mainGlobals "_law_row" = some (some (.ref f30)))
    (l30 : K.lookup f30 = some ⟨oc30, od30, .func (PySem.W.fnOf "_law_row" "_law_row" (defArgs s__law_row) (defBody s__law_row) (defScope s__law_row) .none kV30 dc30 pm30 an30 cd30 ct30), sl30⟩)
    (c30 : PySem.W.codeIn K cd30 "_law_row" = true)
    (k30 : PySem.W.keepIn K (.ref f30) = true)
    (a31 : PySem.W.nsIn K mainGlobals "law" = some (some (.ref f31)))
    (l31 : K.lookup f31 = some ⟨oc31, od31, .func (PySem.W.fnOf "law" "law" (defArgs s_law) (defBody s_law) (defScope s_law) .none kV31 dc31 pm31 an31 cd31 ct31), sl31⟩)
    (c31 : PySem.W.codeIn K cd31 "law" = true)
    (k31 : PySem.W.keepIn K (.ref f31) = true)
    (z_ValueError : PySem.W.nsIn K mainGlobals "ValueError" = some none)
    (z_abs : PySem.W.nsIn K mainGlobals "abs" = some none)
    (z_bool : PySem.W.nsIn K mainGlobals "bool" = some none)
    (z_enumerate : PySem.W.nsIn K mainGlobals "enumerate" = some none)
    (z_int : PySem.W.nsIn K mainGlobals "int" = some none)
    (z_isinstance : PySem.W.nsIn K mainGlobals "isinstance" = some none)
    (z_len : PySem.W.nsIn K mainGlobals "len" = some none)
    (z_list : PySem.W.nsIn K mainGlobals "list" = some none)
    (z_max : PySem.W.nsIn K mainGlobals "max" = some none)
    (z_min : PySem.W.nsIn K mainGlobals "min" = some none)
    (z_range : PySem.W.nsIn K mainGlobals "range" = some none)
    (z_tuple : PySem.W.nsIn K mainGlobals "tuple" = some none)
    (z_zip : PySem.W.nsIn K mainGlobals "zip" = some none)
    (i_gcd : PySem.W.nsIn K mainGlobals "gcd" = some (some (.builtin "math.gcd")))
    (g_MOST_BALLS : PySem.W.nsIn K mainGlobals "MOST_BALLS" = some (some (.int 40 t_MOST_BALLS)))
    (g_MOST_WEIGHT : PySem.W.nsIn K mainGlobals "MOST_WEIGHT" = some (some (.int 9 t_MOST_WEIGHT)))
    (cs0 : PySem.W.subIn K (.ref C0) (.type "BaseException") = some true)
    (ct0_ : PySem.W.typeIn K (.ref C0) = some (.type "type"))
    (ck0 : PySem.W.keepIn K (.ref C0) = true)
    (cd0_ : PySem.W.hasDictIn K C0 = true)
    (cs1 : PySem.W.subIn K (.ref C1) (.type "BaseException") = some true)
    (ct1_ : PySem.W.typeIn K (.ref C1) = some (.type "type"))
    (ck1 : PySem.W.keepIn K (.ref C1) = true)
    (cd1_ : PySem.W.hasDictIn K C1 = true)
    (cs2 : PySem.W.subIn K (.ref C2) (.type "BaseException") = some true)
    (ct2_ : PySem.W.typeIn K (.ref C2) = some (.type "type"))
    (ck2 : PySem.W.keepIn K (.ref C2) = true)
    (cd2_ : PySem.W.hasDictIn K C2 = true)
    (cs3 : PySem.W.subIn K (.ref C3) (.type "BaseException") = some true)
    (ct3_ : PySem.W.typeIn K (.ref C3) = some (.type "type"))
    (ck3 : PySem.W.keepIn K (.ref C3) = true)
    (cd3_ : PySem.W.hasDictIn K C3 = true)
    (cs4 : PySem.W.subIn K (.ref C4) (.type "BaseException") = some true)
    (ct4_ : PySem.W.typeIn K (.ref C4) = some (.type "type"))
    (ck4 : PySem.W.keepIn K (.ref C4) = true)
    (cd4_ : PySem.W.hasDictIn K C4 = true)
    (cs5 : PySem.W.subIn K (.ref C5) (.type "BaseException") = some true)
    (ct5_ : PySem.W.typeIn K (.ref C5) = some (.type "type"))
    (ck5 : PySem.W.keepIn K (.ref C5) = true)
    (cd5_ : PySem.W.hasDictIn K C5 = true)
    (cs6 : PySem.W.subIn K (.ref C6) (.type "BaseException") = some true)
    (ct6_ : PySem.W.typeIn K (.ref C6) = some (.type "type"))
    (ck6 : PySem.W.keepIn K (.ref C6) = true)
    (cd6_ : PySem.W.hasDictIn K C6 = true)
    (cx1 : PySem.W.excIn K C1 [.type "ValueError", .type "Exception", .type "BaseException", .type "object"] "ValueError.__new__" = true)
    (cx6 : PySem.W.excIn K C6 [.type "ValueError", .type "Exception", .type "BaseException", .type "object"] "ValueError.__new__" = true)
    (xL2 : K.lookup C2 = some (excClassObj nm2 qn2 C2 Nx2 bs2 [.ref C0, .type "ValueError", .type "Exception", .type "BaseException", .type "object"] true sn2 sb2 ab2 co2 dd2 m0_2 m1_2 m2_2 m3_2 m5_2 "ValueError.__new__"))
    (xs2 : PySem.W.findIn K (.ref C2) "__setattr__" = some (some (.builtin "object.__setattr__")))
    (xg2 : PySem.W.findIn K (.ref C2) "__getattribute__" = some (some (.builtin "BaseException.__getattribute__")))
    (xh2 : PySem.W.findIn K (.ref C2) "__getattr__" = some none)
    (xn2_0 : PySem.W.findIn K (.ref C2) "index" = some none)
    (xn2_1 : PySem.W.findIn K (.ref C2) "what" = some none)
    (xL3 : K.lookup C3 = some (excClassObj nm3 qn3 C3 Nx3 bs3 [.ref C0, .type "ValueError", .type "Exception", .type "BaseException", .type "object"] true sn3 sb3 ab3 co3 dd3 m0_3 m1_3 m2_3 m3_3 m5_3 "ValueError.__new__"))
    (xs3 : PySem.W.findIn K (.ref C3) "__setattr__" = some (some (.builtin "object.__setattr__")))
    (xg3 : PySem.W.findIn K (.ref C3) "__getattribute__" = some (some (.builtin "BaseException.__getattribute__")))
    (xh3 : PySem.W.findIn K (.ref C3) "__getattr__" = some none)
    (xn3_0 : PySem.W.findIn K (.ref C3) "what" = some none)
    (xL4 : K.lookup C4 = some (excClassObj nm4 qn4 C4 Nx4 bs4 [.ref C0, .type "ValueError", .type "Exception", .type "BaseException", .type "object"] true sn4 sb4 ab4 co4 dd4 m0_4 m1_4 m2_4 m3_4 m5_4 "ValueError.__new__"))
    (xs4 : PySem.W.findIn K (.ref C4) "__setattr__" = some (some (.builtin "object.__setattr__")))
    (xg4 : PySem.W.findIn K (.ref C4) "__getattribute__" = some (some (.builtin "BaseException.__getattribute__")))
    (xh4 : PySem.W.findIn K (.ref C4) "__getattr__" = some none)
    (xn4_0 : PySem.W.findIn K (.ref C4) "moment" = some none)
    (xL5 : K.lookup C5 = some (excClassObj nm5 qn5 C5 Nx5 bs5 [.ref C0, .type "ValueError", .type "Exception", .type "BaseException", .type "object"] true sn5 sb5 ab5 co5 dd5 m0_5 m1_5 m2_5 m3_5 m5_5 "ValueError.__new__"))
    (xs5 : PySem.W.findIn K (.ref C5) "__setattr__" = some (some (.builtin "object.__setattr__")))
    (xg5 : PySem.W.findIn K (.ref C5) "__getattribute__" = some (some (.builtin "BaseException.__getattribute__")))
    (xh5 : PySem.W.findIn K (.ref C5) "__getattr__" = some none)
    (xn5_0 : PySem.W.findIn K (.ref C5) "ball" = some none)
    (s1_3 : PySem.W.subIn K (.ref C1) (.ref C3) = some false)
    (s2_3 : PySem.W.subIn K (.ref C2) (.ref C3) = some false)
    (s3_3 : PySem.W.subIn K (.ref C3) (.ref C3) = some true)
    (s4_3 : PySem.W.subIn K (.ref C4) (.ref C3) = some false)
    (s5_3 : PySem.W.subIn K (.ref C5) (.ref C3) = some false)
    (s6_3 : PySem.W.subIn K (.ref C6) (.ref C3) = some false)
    (s1_4 : PySem.W.subIn K (.ref C1) (.ref C4) = some false)
    (s2_4 : PySem.W.subIn K (.ref C2) (.ref C4) = some false)
    (s3_4 : PySem.W.subIn K (.ref C3) (.ref C4) = some false)
    (s4_4 : PySem.W.subIn K (.ref C4) (.ref C4) = some true)
    (s5_4 : PySem.W.subIn K (.ref C5) (.ref C4) = some false)
    (s6_4 : PySem.W.subIn K (.ref C6) (.ref C4) = some false)
    (s1_5 : PySem.W.subIn K (.ref C1) (.ref C5) = some false)
    (s2_5 : PySem.W.subIn K (.ref C2) (.ref C5) = some false)
    (s3_5 : PySem.W.subIn K (.ref C3) (.ref C5) = some false)
    (s4_5 : PySem.W.subIn K (.ref C4) (.ref C5) = some false)
    (s5_5 : PySem.W.subIn K (.ref C5) (.ref C5) = some true)
    (s6_5 : PySem.W.subIn K (.ref C6) (.ref C5) = some false)
    (s1_6 : PySem.W.subIn K (.ref C1) (.ref C6) = some false)
    (s2_6 : PySem.W.subIn K (.ref C2) (.ref C6) = some false)
    (s3_6 : PySem.W.subIn K (.ref C3) (.ref C6) = some false)
    (s4_6 : PySem.W.subIn K (.ref C4) (.ref C6) = some false)
    (s5_6 : PySem.W.subIn K (.ref C5) (.ref C6) = some false)
    (s6_6 : PySem.W.subIn K (.ref C6) (.ref C6) = some true)
    (xc3 : DL.excB K C3 = true)
    (xk3_0 : PySem.W.kitOne K (.ref C3) (.ref C0) = some true)
    (xk3_V : PySem.W.kitOne K (.ref C3) (.type "ValueError") = some true)
    (xc4 : DL.excB K C4 = true)
    (xk4_0 : PySem.W.kitOne K (.ref C4) (.ref C0) = some true)
    (xk4_V : PySem.W.kitOne K (.ref C4) (.type "ValueError") = some true)
    (xc5 : DL.excB K C5 = true)
    (xk5_0 : PySem.W.kitOne K (.ref C5) (.ref C0) = some true)
    (xk5_V : PySem.W.kitOne K (.ref C5) (.type "ValueError") = some true)
    (xc6 : DL.excB K C6 = true)
    (xk6_0 : PySem.W.kitOne K (.ref C6) (.ref C0) = some true)
    (xk6_V : PySem.W.kitOne K (.ref C6) (.type "ValueError") = some true)
    (wS : PySem.W.specialIn K (.builtin "object.__class__") "__get__" = some (some (.builtin "getset_descriptor.__get__")))
    (wT : PySem.W.takesIn K (.builtin "object.__class__") = some true)
    (wg7 : PySem.W.plainGet K C7 Str.empty = true)
    (wd7 : PySem.W.hasDictIn K C7 = true)
    (wo7 : PySem.W.plainOver K C7 = true)
    (wa7 : PySem.W.findIn K (.ref C7) "__setattr__" = some (some (.builtin "object.__setattr__")))
    (wm7 : PySem.W.makesIn K C7 = true)
    (wk7 : PySem.W.keepIn K (.ref C7) = true)
    (wc7 : PySem.W.findIn K (.ref C7) "__class__" = some (some (.builtin "object.__class__")))
    (wr7 : PySem.W.mroIn K C7 (.type "object") = some true)
    (wi7 : PySem.W.isClsIn K C7 = true)
    (wy7 : PySem.W.typeIn K (.ref C7) = some (.type "type"))
    (wn7_0 : PySem.W.findIn K (.ref C7) "weights" = some none)
    (wn7_1 : PySem.W.findIn K (.ref C7) "speeds" = some none)
    (wn7_2 : PySem.W.findIn K (.ref C7) "wall" = some none)
    (wn7_3 : PySem.W.findIn K (.ref C7) "pairs" = some none)
    (wn7_4 : PySem.W.findIn K (.ref C7) "gap_count" = some none)
    (wn7_5 : PySem.W.findIn K (.ref C7) "is_like" = some none)
    (wn7_6 : PySem.W.findIn K (.ref C7) "first_sum" = some none)
    (wn7_7 : PySem.W.findIn K (.ref C7) "second_sum" = some none)
    (wt7_NoneType : PySem.W.subIn K (.type "NoneType") (.ref C7) = some false)
    (wt7_bool : PySem.W.subIn K (.type "bool") (.ref C7) = some false)
    (wt7_int : PySem.W.subIn K (.type "int") (.ref C7) = some false)
    (wt7_str : PySem.W.subIn K (.type "str") (.ref C7) = some false)
    (wt7_tuple : PySem.W.subIn K (.type "tuple") (.ref C7) = some false)
    (wt7_list : PySem.W.subIn K (.type "list") (.ref C7) = some false)
    (wt7_7 : PySem.W.subIn K (.ref C7) (.ref C7) = some true) :
    ∃ fd : FuncData, (∀ (s : Shared) (v : Value), BindsTo s fd ⟨[v], []⟩ [("_law_script", v)]) ∧ ∀ base : Heap, K.In base → base.Ns mainGlobals mg → FnOk l.prog w K mg base (L2.CX l.prog w) 8 la fd ["_law_script"] (spLaw K) := by
  have e := hfa.symm.trans (PySem.W.mg_of X Gn a31)
  have ela : la = f31 := by injection (Option.some.inj e)
  obtain ⟨G, hG⟩ : ∃ G : Glb, G = ⟨K, fun n => match n with | 0 => C0 | 1 => C1 | 2 => C2 | 3 => C3 | 4 => C4 | 5 => C5 | 6 => C6 | 7 => C7 | _ => 0⟩ := ⟨_, rfl⟩
  obtain ⟨fa, hfa'⟩ : ∃ fa : Nat → Addr, fa = fun n => match n with | 0 => f0 | 1 => f1 | 2 => f2 | 3 => f3 | 4 => f4 | 5 => f5 | 6 => f6 | 7 => f7 | 8 => f8 | 9 => f9 | 10 => f10 | 11 => f11 | 12 => f12 | 13 => f13 | 14 => f14 | 15 => f15 | 16 => f16 | 17 => f17 | 18 => f18 | 19 => f19 | 20 => f20 | 21 => f21 | 22 => f22 | 23 => f23 | 24 => f24 | 25 => f25 | 26 => f26 | 27 => f27 | 28 => f28 | 29 => f29 | 30 => f30 | 31 => f31 | _ => 0 := ⟨_, rfl⟩
  obtain ⟨fd, hfd⟩ : ∃ fd : Nat → FuncData, fd = fun n => match n with | 0 => PySem.W.fnOf "__init__" "BadGaps.__init__" (defArgs s_BadGaps___init__) (defBody s_BadGaps___init__) (defScope s_BadGaps___init__) .none kV0 dc0 pm0 an0 cd0 ct0 | 1 => PySem.W.fnOf "__init__" "BadMoment.__init__" (defArgs s_BadMoment___init__) (defBody s_BadMoment___init__) (defScope s_BadMoment___init__) .none kV1 dc1 pm1 an1 cd1 ct1 | 2 => PySem.W.fnOf "__init__" "BadRow.__init__" (defArgs s_BadRow___init__) (defBody s_BadRow___init__) (defScope s_BadRow___init__) .none kV2 dc2 pm2 an2 cd2 ct2 | 3 => PySem.W.fnOf "__init__" "NoBall.__init__" (defArgs s_NoBall___init__) (defBody s_NoBall___init__) (defScope s_NoBall___init__) .none kV3 dc3 pm3 an3 cd3 ct3 | 4 => PySem.W.fnOf "__len__" "Row.__len__" (defArgs s_Row___len__) (defBody s_Row___len__) (defScope s_Row___len__) .none kV4 dc4 pm4 an4 cd4 ct4 | 5 => PySem.W.fnOf "_law_hand" "_law_hand" (defArgs s__law_hand) (defBody s__law_hand) (defScope s__law_hand) .none kV5 dc5 pm5 an5 cd5 ct5 | 6 => PySem.W.fnOf "_law_low" "_law_low" (defArgs s__law_low) (defBody s__law_low) (defScope s__law_low) .none kV6 dc6 pm6 an6 cd6 ct6 | 7 => PySem.W.fnOf "_law_mix" "_law_mix" (defArgs s__law_mix) (defBody s__law_mix) (defScope s__law_mix) .none kV7 dc7 pm7 an7 cd7 ct7 | 8 => PySem.W.fnOf "check_narrow" "check_narrow" (defArgs s_check_narrow) (defBody s_check_narrow) (defScope s_check_narrow) .none kV8 dc8 pm8 an8 cd8 ct8 | 9 => PySem.W.fnOf "is_whole" "is_whole" (defArgs s_is_whole) (defBody s_is_whole) (defScope s_is_whole) .none kV9 dc9 pm9 an9 cd9 ct9 | 10 => PySem.W.fnOf "lowest_terms" "lowest_terms" (defArgs s_lowest_terms) (defBody s_lowest_terms) (defScope s_lowest_terms) .none kV10 dc10 pm10 an10 cd10 ct10 | 11 => PySem.W.fnOf "_law_draw" "_law_draw" (defArgs s__law_draw) (defBody s__law_draw) (defScope s__law_draw) .none kV11 dc11 pm11 an11 cd11 ct11 | 12 => PySem.W.fnOf "_law_narrow" "_law_narrow" (defArgs s__law_narrow) (defBody s__law_narrow) (defScope s__law_narrow) .none kV12 dc12 pm12 an12 cd12 ct12 | 13 => PySem.W.fnOf "_law_told" "_law_told" (defArgs s__law_told) (defBody s__law_told) (defScope s__law_told) .none kV13 dc13 pm13 an13 cd13 ct13 | 14 => PySem.W.fnOf "is_ratio" "is_ratio" (defArgs s_is_ratio) (defBody s_is_ratio) (defScope s_is_ratio) .none kV14 dc14 pm14 an14 cd14 ct14 | 15 => PySem.W.fnOf "_law_gap" "_law_gap" (defArgs s__law_gap) (defBody s__law_gap) (defScope s__law_gap) .none kV15 dc15 pm15 an15 cd15 ct15 | 16 => PySem.W.fnOf "_law_odd" "_law_odd" (defArgs s__law_odd) (defBody s__law_odd) (defScope s__law_odd) .none kV16 dc16 pm16 an16 cd16 ct16 | 17 => PySem.W.fnOf "check_ball" "check_ball" (defArgs s_check_ball) (defBody s_check_ball) (defScope s_check_ball) .none kV17 dc17 pm17 an17 cd17 ct17 | 18 => PySem.W.fnOf "check_balls" "check_balls" (defArgs s_check_balls) (defBody s_check_balls) (defScope s_check_balls) .none kV18 dc18 pm18 an18 cd18 ct18 | 19 => PySem.W.fnOf "ratio_of" "ratio_of" (defArgs s_ratio_of) (defBody s_ratio_of) (defScope s_ratio_of) .none kV19 dc19 pm19 an19 cd19 ct19 | 20 => PySem.W.fnOf "_law_ball" "_law_ball" (defArgs s__law_ball) (defBody s__law_ball) (defScope s__law_ball) .none kV20 dc20 pm20 an20 cd20 ct20 | 21 => PySem.W.fnOf "compare" "compare" (defArgs s_compare) (defBody s_compare) (defScope s_compare) .none kV21 dc21 pm21 an21 cd21 ct21 | 22 => PySem.W.fnOf "plus" "plus" (defArgs s_plus) (defBody s_plus) (defScope s_plus) .none kV22 dc22 pm22 an22 cd22 ct22 | 23 => PySem.W.fnOf "times" "times" (defArgs s_times) (defBody s_times) (defScope s_times) .none kV23 dc23 pm23 an23 cd23 ct23 | 24 => PySem.W.fnOf "__init__" "Row.__init__" (defArgs s_Row___init__) (defBody s_Row___init__) (defScope s_Row___init__) (.ref Td24) kV24 dc24 pm24 an24 cd24 ct24 | 25 => PySem.W.fnOf "check_gaps" "check_gaps" (defArgs s_check_gaps) (defBody s_check_gaps) (defScope s_check_gaps) .none kV25 dc25 pm25 an25 cd25 ct25 | 26 => PySem.W.fnOf "check_moment" "check_moment" (defArgs s_check_moment) (defBody s_check_moment) (defScope s_check_moment) .none kV26 dc26 pm26 an26 cd26 ct26 | 27 => PySem.W.fnOf "_law_gaps" "_law_gaps" (defArgs s__law_gaps) (defBody s__law_gaps) (defScope s__law_gaps) .none kV27 dc27 pm27 an27 cd27 ct27 | 28 => PySem.W.fnOf "_law_moment" "_law_moment" (defArgs s__law_moment) (defBody s__law_moment) (defScope s__law_moment) .none kV28 dc28 pm28 an28 cd28 ct28 | 29 => PySem.W.fnOf "_law_one" "_law_one" (defArgs s__law_one) (defBody s__law_one) (defScope s__law_one) .none kV29 dc29 pm29 an29 cd29 ct29 | 30 => PySem.W.fnOf "_law_row" "_law_row" (defArgs s__law_row) (defBody s__law_row) (defScope s__law_row) .none kV30 dc30 pm30 an30 cd30 ct30 | 31 => PySem.W.fnOf "law" "law" (defArgs s_law) (defBody s_law) (defScope s_law) .none kV31 dc31 pm31 an31 cd31 ct31 | _ => PySem.W.fnOf "__init__" "BadGaps.__init__" (defArgs s_BadGaps___init__) (defBody s_BadGaps___init__) (defScope s_BadGaps___init__) .none kV0 dc0 pm0 an0 cd0 ct0 := ⟨_, rfl⟩
  have T : Txt G mg fa fd := by
    subst hG hfa' hfd
    exact
      { g_GapError := PySem.W.mg_of X Gn ca0,
        g_BadRatio := PySem.W.mg_of X Gn ca1,
        g_BadRow := PySem.W.mg_of X Gn ca2,
        g_BadGaps := PySem.W.mg_of X Gn ca3,
        g_BadMoment := PySem.W.mg_of X Gn ca4,
        g_NoBall := PySem.W.mg_of X Gn ca5,
        g_Wide := PySem.W.mg_of X Gn ca6,
        g_Row := PySem.W.mg_of X Gn ca7,
        d_BadGaps___init__ := ⟨(fun_mk (st := s_BadGaps___init__) l0 c0 k0), (Fun.binds (fun_mk (st := s_BadGaps___init__) l0 c0 k0) fun _ _ _ _ _ _ us hl => match us, hl with | [_, _], _ => rfl)⟩,
        d_BadMoment___init__ := ⟨(fun_mk (st := s_BadMoment___init__) l1 c1 k1), (Fun.binds (fun_mk (st := s_BadMoment___init__) l1 c1 k1) fun _ _ _ _ _ _ us hl => match us, hl with | [_, _], _ => rfl)⟩,
        d_BadRow___init__ := ⟨(fun_mk (st := s_BadRow___init__) l2 c2 k2), (Fun.binds (fun_mk (st := s_BadRow___init__) l2 c2 k2) fun _ _ _ _ _ _ us hl => match us, hl with | [_, _, _], _ => rfl)⟩,
        d_NoBall___init__ := ⟨(fun_mk (st := s_NoBall___init__) l3 c3 k3), (Fun.binds (fun_mk (st := s_NoBall___init__) l3 c3 k3) fun _ _ _ _ _ _ us hl => match us, hl with | [_, _], _ => rfl)⟩,
        d_Row___len__ := ⟨(fun_mk (st := s_Row___len__) l4 c4 k4), (Fun.binds (fun_mk (st := s_Row___len__) l4 c4 k4) fun _ _ _ _ _ _ us hl => match us, hl with | [_], _ => rfl)⟩,
        mt_Row___len__ := ⟨a4, isf4, k4⟩,
        d__law_hand := DefOk.mk' (fun_mk (st := s__law_hand) l5 c5 k5) (PySem.W.mg_of X Gn a5) (Fun.binds (fun_mk (st := s__law_hand) l5 c5 k5) fun _ _ _ _ _ _ us hl => match us, hl with | [_], _ => rfl),
        d__law_low := DefOk.mk' (fun_mk (st := s__law_low) l6 c6 k6) (PySem.W.mg_of X Gn a6) (Fun.binds (fun_mk (st := s__law_low) l6 c6 k6) fun _ _ _ _ _ _ us hl => match us, hl with | [_, _], _ => rfl),
        d__law_mix := DefOk.mk' (fun_mk (st := s__law_mix) l7 c7 k7) (PySem.W.mg_of X Gn a7) (Fun.binds (fun_mk (st := s__law_mix) l7 c7 k7) fun _ _ _ _ _ _ us hl => match us, hl with | [_, _], _ => rfl),
        d_check_narrow := DefOk.mk' (fun_mk (st := s_check_narrow) l8 c8 k8) (PySem.W.mg_of X Gn a8) (Fun.binds (fun_mk (st := s_check_narrow) l8 c8 k8) fun _ _ _ _ _ _ us hl => match us, hl with | [_], _ => rfl),
        d_is_whole := DefOk.mk' (fun_mk (st := s_is_whole) l9 c9 k9) (PySem.W.mg_of X Gn a9) (Fun.binds (fun_mk (st := s_is_whole) l9 c9 k9) fun _ _ _ _ _ _ us hl => match us, hl with | [_], _ => rfl),
        d_lowest_terms := DefOk.mk' (fun_mk (st := s_lowest_terms) l10 c10 k10) (PySem.W.mg_of X Gn a10) (Fun.binds (fun_mk (st := s_lowest_terms) l10 c10 k10) fun _ _ _ _ _ _ us hl => match us, hl with | [_, _], _ => rfl),
        d__law_draw := DefOk.mk' (fun_mk (st := s__law_draw) l11 c11 k11) (PySem.W.mg_of X Gn a11) (Fun.binds (fun_mk (st := s__law_draw) l11 c11 k11) fun _ _ _ _ _ _ us hl => match us, hl with | [_, _], _ => rfl),
        d__law_narrow := DefOk.mk' (fun_mk (st := s__law_narrow) l12 c12 k12) (PySem.W.mg_of X Gn a12) (Fun.binds (fun_mk (st := s__law_narrow) l12 c12 k12) fun _ _ _ _ _ _ us hl => match us, hl with | [_], _ => rfl),
        d__law_told := DefOk.mk' (fun_mk (st := s__law_told) l13 c13 k13) (PySem.W.mg_of X Gn a13) (Fun.binds (fun_mk (st := s__law_told) l13 c13 k13) fun _ _ _ _ _ _ us hl => match us, hl with | [_], _ => rfl),
        d_is_ratio := DefOk.mk' (fun_mk (st := s_is_ratio) l14 c14 k14) (PySem.W.mg_of X Gn a14) (Fun.binds (fun_mk (st := s_is_ratio) l14 c14 k14) fun _ _ _ _ _ _ us hl => match us, hl with | [_], _ => rfl),
        d__law_gap := DefOk.mk' (fun_mk (st := s__law_gap) l15 c15 k15) (PySem.W.mg_of X Gn a15) (Fun.binds (fun_mk (st := s__law_gap) l15 c15 k15) fun _ _ _ _ _ _ us hl => match us, hl with | [_], _ => rfl),
        d__law_odd := DefOk.mk' (fun_mk (st := s__law_odd) l16 c16 k16) (PySem.W.mg_of X Gn a16) (Fun.binds (fun_mk (st := s__law_odd) l16 c16 k16) fun _ _ _ _ _ _ us hl => match us, hl with | [_, _], _ => rfl),
        d_check_ball := DefOk.mk' (fun_mk (st := s_check_ball) l17 c17 k17) (PySem.W.mg_of X Gn a17) (Fun.binds (fun_mk (st := s_check_ball) l17 c17 k17) fun _ _ _ _ _ _ us hl => match us, hl with | [_, _], _ => rfl),
        d_check_balls := DefOk.mk' (fun_mk (st := s_check_balls) l18 c18 k18) (PySem.W.mg_of X Gn a18) (Fun.binds (fun_mk (st := s_check_balls) l18 c18 k18) fun _ _ _ _ _ _ us hl => match us, hl with | [_, _, _], _ => rfl),
        d_ratio_of := DefOk.mk' (fun_mk (st := s_ratio_of) l19 c19 k19) (PySem.W.mg_of X Gn a19) (Fun.binds (fun_mk (st := s_ratio_of) l19 c19 k19) fun _ _ _ _ _ _ us hl => match us, hl with | [_], _ => rfl),
        d__law_ball := DefOk.mk' (fun_mk (st := s__law_ball) l20 c20 k20) (PySem.W.mg_of X Gn a20) (Fun.binds (fun_mk (st := s__law_ball) l20 c20 k20) fun _ _ _ _ _ _ us hl => match us, hl with | [_, _], _ => rfl),
        d_compare := DefOk.mk' (fun_mk (st := s_compare) l21 c21 k21) (PySem.W.mg_of X Gn a21) (Fun.binds (fun_mk (st := s_compare) l21 c21 k21) fun _ _ _ _ _ _ us hl => match us, hl with | [_, _], _ => rfl),
        d_plus := DefOk.mk' (fun_mk (st := s_plus) l22 c22 k22) (PySem.W.mg_of X Gn a22) (Fun.binds (fun_mk (st := s_plus) l22 c22 k22) fun _ _ _ _ _ _ us hl => match us, hl with | [_, _], _ => rfl),
        d_times := DefOk.mk' (fun_mk (st := s_times) l23 c23 k23) (PySem.W.mg_of X Gn a23) (Fun.binds (fun_mk (st := s_times) l23 c23 k23) fun _ _ _ _ _ _ us hl => match us, hl with | [_, _], _ => rfl),
        d_Row___init__ := ⟨(funD_mk (st := s_Row___init__) (dvs := [.bl false]) (its := [_]) l24 c24 k24 lT24 rfl (by simp) (.cons rfl .nil)), PySem.W.mg_of X Gn ca7, ⟨wm7, a24, isf24, wk7⟩, fun j hj => match j, hj with | 0, _ => (FunD.binds1 (funD_mk (st := s_Row___init__) (dvs := [.bl false]) (its := [_]) l24 c24 k24 lT24 rfl (by simp) (.cons rfl .nil)) 3 0 (by simp) rfl fun _ _ _ _ _ _ _ us its h1 h2 => match us, h1, its, h2 with | [_, _, _], _, [_], _ => ⟨_, rfl, rfl⟩) | 1, _ => (FunD.binds1 (funD_mk (st := s_Row___init__) (dvs := [.bl false]) (its := [_]) l24 c24 k24 lT24 rfl (by simp) (.cons rfl .nil)) 4 1 (by simp) rfl fun _ _ _ _ _ _ _ us its h1 h2 => match us, h1, its, h2 with | [_, _, _, _], _, [_], _ => ⟨_, rfl, rfl⟩)⟩,
        d_check_gaps := DefOk.mk' (fun_mk (st := s_check_gaps) l25 c25 k25) (PySem.W.mg_of X Gn a25) (Fun.binds (fun_mk (st := s_check_gaps) l25 c25 k25) fun _ _ _ _ _ _ us hl => match us, hl with | [_, _], _ => rfl),
        d_check_moment := DefOk.mk' (fun_mk (st := s_check_moment) l26 c26 k26) (PySem.W.mg_of X Gn a26) (Fun.binds (fun_mk (st := s_check_moment) l26 c26 k26) fun _ _ _ _ _ _ us hl => match us, hl with | [_], _ => rfl),
        d__law_gaps := DefOk.mk' (fun_mk (st := s__law_gaps) l27 c27 k27) (PySem.W.mg_of X Gn a27) (Fun.binds (fun_mk (st := s__law_gaps) l27 c27 k27) fun _ _ _ _ _ _ us hl => match us, hl with | [_, _], _ => rfl),
        d__law_moment := DefOk.mk' (fun_mk (st := s__law_moment) l28 c28 k28) (PySem.W.mg_of X Gn a28) (Fun.binds (fun_mk (st := s__law_moment) l28 c28 k28) fun _ _ _ _ _ _ us hl => match us, hl with | [_], _ => rfl),
        d__law_one := DefOk.mk' (fun_mk (st := s__law_one) l29 c29 k29) (PySem.W.mg_of X Gn a29) (Fun.binds (fun_mk (st := s__law_one) l29 c29 k29) fun _ _ _ _ _ _ us hl => match us, hl with | [_, _, _, _, _, _], _ => rfl),
        d__law_row := DefOk.mk' (fun_mk (st := s__law_row) l30 c30 k30) (PySem.W.mg_of X Gn a30) (Fun.binds (fun_mk (st := s__law_row) l30 c30 k30) fun _ _ _ _ _ _ us hl => match us, hl with | [_], _ => rfl),
        d_law := DefOk.mk' (fun_mk (st := s_law) l31 c31 k31) (PySem.W.mg_of X Gn a31) (Fun.binds (fun_mk (st := s_law) l31 c31 k31) fun _ _ _ _ _ _ us hl => match us, hl with | [_], _ => rfl),
        n_ValueError := PySem.W.mg_none_of X Gn z_ValueError,
        n_abs := PySem.W.mg_none_of X Gn z_abs,
        n_bool := PySem.W.mg_none_of X Gn z_bool,
        n_enumerate := PySem.W.mg_none_of X Gn z_enumerate,
        n_int := PySem.W.mg_none_of X Gn z_int,
        n_isinstance := PySem.W.mg_none_of X Gn z_isinstance,
        n_len := PySem.W.mg_none_of X Gn z_len,
        n_list := PySem.W.mg_none_of X Gn z_list,
        n_max := PySem.W.mg_none_of X Gn z_max,
        n_min := PySem.W.mg_none_of X Gn z_min,
        n_range := PySem.W.mg_none_of X Gn z_range,
        n_tuple := PySem.W.mg_none_of X Gn z_tuple,
        n_zip := PySem.W.mg_none_of X Gn z_zip,
        m_gcd := PySem.W.mg_of X Gn i_gcd,
        k_MOST_BALLS := ⟨_, PySem.W.mg_of X Gn g_MOST_BALLS⟩,
        k_MOST_WEIGHT := ⟨_, PySem.W.mg_of X Gn g_MOST_WEIGHT⟩,
        e_BadRatio := ⟨PySem.W.mg_of X Gn ca1, cx1, ck1, cs1, ct1_⟩,
        e_Wide := ⟨PySem.W.mg_of X Gn ca6, cx6, ck6, cs6, ct6_⟩,
        x_BadRow := ⟨⟨⟨_, _, _, _, _, _, _, _, _, _, _, _, _, _, _, xL2, by first | rfl | decide +kernel⟩, xs2, cs2, ct2_, ck2⟩, a2, tI2, PySem.W.mg_of X Gn ca2, cs2⟩,
        x_BadGaps := ⟨⟨⟨_, _, _, _, _, _, _, _, _, _, _, _, _, _, _, xL3, by first | rfl | decide +kernel⟩, xs3, cs3, ct3_, ck3⟩, a0, tI0, PySem.W.mg_of X Gn ca3, cs3⟩,
        x_BadMoment := ⟨⟨⟨_, _, _, _, _, _, _, _, _, _, _, _, _, _, _, xL4, by first | rfl | decide +kernel⟩, xs4, cs4, ct4_, ck4⟩, a1, tI1, PySem.W.mg_of X Gn ca4, cs4⟩,
        x_NoBall := ⟨⟨⟨_, _, _, _, _, _, _, _, _, _, _, _, _, _, _, xL5, by first | rfl | decide +kernel⟩, xs5, cs5, ct5_, ck5⟩, a3, tI3, PySem.W.mg_of X Gn ca5, cs5⟩,
        okX := fun c f hb => (by
            unfold okX at hb
            split at hb
            · exact ⟨⟨xg2, xh2, cs2, cd2_⟩, DL.elem_all (P := fun f => PySem.W.findIn K (.ref C2) f = some none) (DL.all_cons xn2_0 (DL.all_cons xn2_1 (fun _ h => absurd h List.not_mem_nil))) hb⟩
            · exact ⟨⟨xg3, xh3, cs3, cd3_⟩, DL.elem_all (P := fun f => PySem.W.findIn K (.ref C3) f = some none) (DL.all_cons xn3_0 (fun _ h => absurd h List.not_mem_nil)) hb⟩
            · exact ⟨⟨xg4, xh4, cs4, cd4_⟩, DL.elem_all (P := fun f => PySem.W.findIn K (.ref C4) f = some none) (DL.all_cons xn4_0 (fun _ h => absurd h List.not_mem_nil)) hb⟩
            · exact ⟨⟨xg5, xh5, cs5, cd5_⟩, DL.elem_all (P := fun f => PySem.W.findIn K (.ref C5) f = some none) (DL.all_cons xn5_0 (fun _ h => absurd h List.not_mem_nil)) hb⟩
            · cases hb),
        clX_BadGaps := fun c b hb => (by
            unfold clX_BadGaps at hb
            split at hb
            · cases hb; exact PySem.W.exm_ref cs3 cd3_ ct3_ s1_3
            · cases hb; exact PySem.W.exm_ref cs3 cd3_ ct3_ s2_3
            · cases hb; exact PySem.W.exm_ref cs3 cd3_ ct3_ s3_3
            · cases hb; exact PySem.W.exm_ref cs3 cd3_ ct3_ s4_3
            · cases hb; exact PySem.W.exm_ref cs3 cd3_ ct3_ s5_3
            · cases hb; exact PySem.W.exm_ref cs3 cd3_ ct3_ s6_3
            · cases hb),
        clX_BadMoment := fun c b hb => (by
            unfold clX_BadMoment at hb
            split at hb
            · cases hb; exact PySem.W.exm_ref cs4 cd4_ ct4_ s1_4
            · cases hb; exact PySem.W.exm_ref cs4 cd4_ ct4_ s2_4
            · cases hb; exact PySem.W.exm_ref cs4 cd4_ ct4_ s3_4
            · cases hb; exact PySem.W.exm_ref cs4 cd4_ ct4_ s4_4
            · cases hb; exact PySem.W.exm_ref cs4 cd4_ ct4_ s5_4
            · cases hb; exact PySem.W.exm_ref cs4 cd4_ ct4_ s6_4
            · cases hb),
        clX_NoBall := fun c b hb => (by
            unfold clX_NoBall at hb
            split at hb
            · cases hb; exact PySem.W.exm_ref cs5 cd5_ ct5_ s1_5
            · cases hb; exact PySem.W.exm_ref cs5 cd5_ ct5_ s2_5
            · cases hb; exact PySem.W.exm_ref cs5 cd5_ ct5_ s3_5
            · cases hb; exact PySem.W.exm_ref cs5 cd5_ ct5_ s4_5
            · cases hb; exact PySem.W.exm_ref cs5 cd5_ ct5_ s5_5
            · cases hb; exact PySem.W.exm_ref cs5 cd5_ ct5_ s6_5
            · cases hb),
        clX_Wide := fun c b hb => (by
            unfold clX_Wide at hb
            split at hb
            · cases hb; exact PySem.W.exm_ref cs6 cd6_ ct6_ s1_6
            · cases hb; exact PySem.W.exm_ref cs6 cd6_ ct6_ s2_6
            · cases hb; exact PySem.W.exm_ref cs6 cd6_ ct6_ s3_6
            · cases hb; exact PySem.W.exm_ref cs6 cd6_ ct6_ s4_6
            · cases hb; exact PySem.W.exm_ref cs6 cd6_ ct6_ s5_6
            · cases hb; exact PySem.W.exm_ref cs6 cd6_ ct6_ s6_6
            · cases hb),
        tabX := fun c d b hb => (by
            unfold tabX at hb
            split at hb
            · cases hb; exact ⟨DL.excB_ok xc3, _, rfl, xk3_0⟩
            · cases hb; exact ⟨DL.excB_ok xc4, _, rfl, xk4_0⟩
            · cases hb; exact ⟨DL.excB_ok xc5, _, rfl, xk5_0⟩
            · cases hb; exact ⟨DL.excB_ok xc6, _, rfl, xk6_0⟩
            · split at hb
              · rename_i e; subst e; cases hb; exact ⟨DL.excB_ok xc3, _, rfl, xk3_V⟩
              · cases hb
            · split at hb
              · rename_i e; subst e; cases hb; exact ⟨DL.excB_ok xc4, _, rfl, xk4_V⟩
              · cases hb
            · split at hb
              · rename_i e; subst e; cases hb; exact ⟨DL.excB_ok xc5, _, rfl, xk5_V⟩
              · cases hb
            · split at hb
              · rename_i e; subst e; cases hb; exact ⟨DL.excB_ok xc6, _, rfl, xk6_V⟩
              · cases hb
            · cases hb),
        fld := fun c f hb => (by
            unfold okF at hb
            split at hb
            · exact ⟨⟨wg7, wd7, wo7, wa7⟩, DL.elem_all (P := fun f => PySem.W.findIn K (.ref C7) f = some none) (DL.all_cons wn7_0 (DL.all_cons wn7_1 (DL.all_cons wn7_2 (DL.all_cons wn7_3 (DL.all_cons wn7_4 (DL.all_cons wn7_5 (DL.all_cons wn7_6 (DL.all_cons wn7_7 (fun _ h => absurd h List.not_mem_nil))))))))) hb⟩
            · cases hb),
        ins := fun c hb => (by
            unfold okI at hb
            split at hb
            · exact ⟨⟨wg7, wd7, wo7, wa7⟩, wc7, wS, wT, wr7⟩
            · cases hb),
        tabC := fun t c b hb => (by
            unfold tabC at hb
            split at hb
            · split at hb
              · rename_i he; cases hb; exact DL.elem_all (P := fun n => PySem.W.kitOne K (.type n) (.ref C7) = some false) (DL.all_cons (DL.kitO_any wi7 wy7 wt7_NoneType) (DL.all_cons (DL.kitO_any wi7 wy7 wt7_bool) (DL.all_cons (DL.kitO_any wi7 wy7 wt7_int) (DL.all_cons (DL.kitO_any wi7 wy7 wt7_str) (DL.all_cons (DL.kitO_any wi7 wy7 wt7_tuple) (DL.all_cons (DL.kitO_any wi7 wy7 wt7_list) (fun _ h => absurd h List.not_mem_nil))))))) he
              · cases hb
            · cases hb; exact DL.kitO_ref wi7 wy7 wt7_7
            · cases hb),
        cls_Row := ⟨wg7, wd7, wo7, wa7⟩ }
  have eK : G.K = K := congrArg Glb.K hG
  have ea : fa 31 = f31 := congrFun hfa' 31
  refine ⟨fd 31, fun s v => ?_, fun base _ _ => ?_⟩
  · rw [hfd]; exact .of_eq rfl
  · have r := ok_law (P := l.prog) (w := w) (base := base) T hH
    rw [eK, ea, ← ela] at r
    exact r
end My

namespace My
open PySem PySem.Spec PyProof.Rows L2 DL
theorem e_mix (a b : Int) (st : List D) : ∃ r : Int, 0 ≤ r ∧ m__law_mix [.int a, .int b] st = .ok (.int r) st := by
  obtain ⟨s0, hs⟩ : ∃ s, s = (a * 48271 + b * 16807 + 11).fmod 2147483647 := ⟨_, rfl⟩
  obtain ⟨t0, ht⟩ : ∃ s, s = (s0 * s0 + s0.fdiv 127 * 40692 + b * 69621).fmod 2147483399 := ⟨_, rfl⟩
  have h1 := fmod_small (i := a * 48271 + b * 16807 + 11) (j := 2147483647) (by decide)
  have h2 := fmod_small (i := s0 * s0 + s0.fdiv 127 * 40692 + b * 69621) (j := 2147483399) (by decide)
  rw [← hs] at h1
  rw [← ht] at h2
  have m1 : DL.MulOk a 48271 := mulOk_r (by decide)
  have m2 : DL.MulOk b 16807 := mulOk_r (by decide)
  have m3 : DL.MulOk s0 s0 := mulOk_l (by omega)
  have m4 : DL.MulOk (s0.fdiv 127) 40692 := mulOk_r (by decide)
  have m5 : DL.MulOk b 69621 := mulOk_r (by decide)
  have m6 : DL.MulOk t0 t0 := mulOk_l (by omega)
  have d1 : DivOk s0 127 := ⟨by decide, .inl (by decide)⟩
  have d2 : DivOk (t0 * t0) 1009 := ⟨by decide, .inl (by decide)⟩
  have d3 : ∀ i, DivOk i 16 := fun i => ⟨by decide, .inl (by decide)⟩
  refine ⟨((t0 * t0).fdiv 1009 + s0).fmod 2147483563 |>.fdiv 16, ?_, ?_⟩
  · have h3 := fmod_small (i := (t0 * t0).fdiv 1009 + s0) (j := 2147483563) (by decide)
    exact Int.fdiv_nonneg h3.1 (by decide)
  · unfold m__law_mix b__law_mix
    simp [ev1, ev2, ev3, ev4, bind_ok, mkEnv, get?, ret_ok, m1, m2, m3, m4, m5, m6, d1, d2, d3, ← hs, ← ht]
theorem e_draw (n : Int) (hn : 0 < n) (hn2 : n.natAbs.log2 < 9000) (st : List D) (hs : HandOk st) : ∃ (r : Int) (st' : List D), 0 ≤ r ∧ r < n ∧ HandOk st' ∧ m__law_draw [.tok 0, .int n] st = .ok (.int r) st' := by
  obtain ⟨cells, at_, rest, total, rfl, ha, hr, hc⟩ := hs.ex
  have hn0 : n ≠ 0 := by omega
  have dn : ∀ i, DivOk i n := fun i => ⟨hn0, .inl hn2⟩
  have hpow : dPow (.int 10) (.int 18) = some (.int 1000000000000000000) := by rfl
  have red : ∀ i : Int, 0 ≤ i.fmod n ∧ i.fmod n < n := fun i => fmod_small hn
  have hmod : ∀ i : Int, dMod (.int i) (.int n) = some (.int (i.fmod n)) := fun i => dMod_pos i n hn0
  obtain ⟨k0, hk0⟩ : ∃ k : Nat, at_ = k := ⟨at_.toNat, by omega⟩
  subst hk0
  unfold m__law_draw b__law_draw
  have mk : ∀ (at' rest' total' : Int), 0 ≤ at' → 0 ≤ rest' → HandOk [handD cells at' rest' total'] := fun a b c h1 h2 => ⟨cells, a, b, c, rfl, h1, h2, hc⟩
  have tail : ∀ (a b t : Int), 0 ≤ a → ∃ r', 0 ≤ r' ∧ m__law_mix [.int t, .int a] [handD cells a b t] = .ok (.int r') [handD cells a b t] := fun a b t _ => e_mix t a _
  have hm8 : ∀ i : Int, dMod (.int i) (.int 2147483629) = some (.int (i.fmod 2147483629)) := fun i => dMod_pos i _ (by decide)
  by_cases h0 : rest = 0
  · subst h0
    by_cases h1 : k0 < cells.length
    · have hcp : 0 ≤ cells[k0] := hc _ (List.getElem_mem h1)
      by_cases h2 : cells[k0] < 1000000000000000000
      · obtain ⟨q, hq, eq⟩ := e_mix (cells[k0].fmod 2147483647) (k0 + 1) [handD cells (k0 + 1) 0 total]
        refine ⟨q.fmod n, _, (red q).1, (red q).2, mk (k0 + 1) 0 total (by omega) (by omega), ?_⟩
        simp [ev1, ev2, ev3, ev4, bind_ok, mkEnv, get?, ret_ok, hix0, hix1, hix2, hix3, mPut_eq, put1, put2, put3, hpow, hmod, dMod_pos, dn, h1, h2, hcell cells k0 h1, eq]
      · have h3 : ¬ cells[k0] = 0 := by omega
        have h4 : 0 < cells[k0] := by omega
        refine ⟨cells[k0].fmod n, _, (red _).1, (red _).2, mk (k0 + 1) (cells[k0].fdiv n) total (by omega) (Int.fdiv_nonneg hcp (by omega)), ?_⟩
        simp [ev1, ev2, ev3, ev4, bind_ok, mkEnv, get?, ret_ok, hix0, hix1, hix2, hix3, mPut_eq, put1, put2, put3, hpow, hmod, dMod_pos, dn, h1, h2, h3, h4, hcell cells k0 h1]
    · obtain ⟨q, hq, eq⟩ := e_mix ((total + 1).fmod 2147483629) k0 [handD cells k0 0 ((total + 1).fmod 2147483629)]
      refine ⟨q.fmod n, _, (red q).1, (red q).2, mk k0 0 ((total + 1).fmod 2147483629) (by omega) (by omega), ?_⟩
      simp [ev1, ev2, ev3, ev4, bind_ok, mkEnv, get?, ret_ok, hix0, hix1, hix2, hix3, mPut_eq, put1, put2, put3, hpow, hmod, dMod_pos, dn, h1, hm8, eq]
  · have h4 : 0 < rest := by omega
    refine ⟨rest.fmod n, _, (red _).1, (red _).2, mk k0 (rest.fdiv n) total (by omega) (Int.fdiv_nonneg hr (by omega)), ?_⟩
    simp [ev1, ev2, ev3, ev4, bind_ok, mkEnv, get?, ret_ok, hix0, hix1, hix2, hix3, mPut_eq, put1, put2, put3, hpow, hmod, dMod_pos, dn, h0, h4]
end My

namespace My
open PySem PySem.Spec PyProof.Rows L2 DL
theorem e_hand (ns : List Int) (hl : ns.length ≤ 63) : ∃ (cells : List Int) (t : Int), (∀ c ∈ cells, 0 ≤ c) ∧ m__law_hand [.rol (ns.map .int)] [] = .ok (handD cells 0 0 t) [] := by
  obtain ⟨env', st', hf, t, x, y, rfl, rfl⟩ := forD_inv (g := gTp (gsCons (gNm 2) (gsCons (gNm 3) (gsNil)))) (body := mSet 1 (mOp dMod (mCall1 (c1 dInt1) (mCons (mOp dAdd (mOp dMul (mVar 1) (mC (.int 31))) (mOp dMul (mCall1 (c1 dInt1) (mCons (mVar 3) (mNil))) (mOp dAdd (mVar 2) (mC (.int 7))))) (mNil))) (mC (.int 2147483629))))
    (fun env st => ∃ (t : Int) (x y : Option D), env = [some (.rol (ns.map .int)), some (.int t), x, y] ∧ st = []) (fun d => ∃ (i : Nat) (v : Int), i < 63 ∧ d = .tup [.int (i : Int), .int v])
    (by
      rintro d env st ⟨i, v, hi, rfl⟩ ⟨t, x, y, rfl, rfl⟩
      refine ⟨_, [some (.rol (ns.map .int)), some (.int ((t * 31 + v * (i + 7)).fmod 2147483629)), some (.int i), some (.int v)], [], rfl, ?_, _, _, _, rfl, rfl⟩
      have m1 : DL.MulOk t 31 := mulOk_r (by decide)
      have m2 : DL.MulOk v (i + 7) := mulOk_r (by omega)
      simp [ev1, ev2, ev3, ev4, bind_ok, mkEnv, get?, ret_ok, dMod_pos, m1, m2]) (numbered (ns.map .int)) [some (.rol (ns.map .int)), some (.int 0), none, none] []
    (by
      intro d hd
      obtain ⟨i, x, h1, h2, rfl⟩ := numbered_mem hd
      obtain ⟨v, _, rfl⟩ := List.mem_map.mp h2
      exact ⟨i, v, by rw [List.length_map] at h1; omega, rfl⟩) ⟨0, _, _, rfl, rfl⟩
  refine ⟨ns.map fun n => if n < 0 then -n else n, t, ?_, ?_⟩
  · intro c hc
    rw [List.mem_map] at hc
    obtain ⟨n, _, rfl⟩ := hc
    split <;> omega
  · have hc := lcD_map (env := [some (.rol (ns.map .int)), some (.int t), x, none]) (g := gNm 3) (mt := mYes) (me := mCall1 (c1 dAbs) (mCons (mCall1 (c1 dInt1) (mCons (mVar 3) (mNil))) (mNil))) (st := []) (fun d => match d with | .int n => .int (if n < 0 then -n else n) | d => d) (ns.map .int) (by
      intro d hd
      obtain ⟨v, _, rfl⟩ := List.mem_map.mp hd
      refine ⟨_, rfl, rfl, ?_⟩
      simp [ev1, ev2, ev3, ev4, bind_ok, mkEnv, get?, ret_ok])
    have hz : ns.length ≤ sizeLine := Nat.le_trans hl (by decide)
    unfold m__law_hand b__law_hand
    simp [ev1, ev2, ev3, ev4, bind_ok, mkEnv, get?, ret_ok, mFor_eq, enum?, hf, handD, mItems, DL.items?, wipeE]
    rw [hc]
    simp [ev1, ev2, ev3, ev4, bind_ok, mkEnv, get?, ret_ok, lstOk, hz]
    rw [if_pos (by decide)]
    rfl
end My

namespace My
open PySem PySem.Spec PyProof.Rows L2 DL
/-- a told ratio -/
def rD (q : Rat) : D := .tup [.int q.num, .int (q.den : Int)]
/-- its sizes -/
def Sm (n : Nat) (q : Rat) : Prop := q.num.natAbs < 2 ^ n ∧ q.den < 2 ^ n
theorem fdiv_ediv {a b : Int} (hb : 0 ≤ b) : a.fdiv b = a / b := Int.fdiv_eq_ediv_of_nonneg a hb
theorem e_is_whole_int (i : Int) (st : List D) : m_is_whole [.int i] st = .ok (.bl true) st := by
  unfold m_is_whole b_is_whole
  simp [ev1, ev2, ev3, ev4, ev5, bind_ok, mkEnv, get?, ret_ok, dIsi, isiD, tyN, subTy]
theorem divs (t b : Int) (hb : b ≠ 0) : (Rat.divInt t b).num = (if b < 0 then (t.fdiv (-(Int.gcd t b : Int))) else t.fdiv (Int.gcd t b)) ∧ ((Rat.divInt t b).den : Int) = (if b < 0 then (b.fdiv (-(Int.gcd t b : Int))) else b.fdiv (Int.gcd t b)) := by
  have hg : (Int.gcd t b : Int) ∣ t := Int.gcd_dvd_left ..
  have hg2 : (Int.gcd t b : Int) ∣ b := Int.gcd_dvd_right ..
  have hg0 : (Int.gcd t b : Int) ≠ 0 := by
    intro h
    have : Int.gcd t b = 0 := by omega
    rw [Int.gcd_eq_zero_iff] at this
    exact hb this.2
  rw [Rat.num_divInt, Rat.den_divInt, Int.gcd_comm b t, if_neg hb]
  obtain ⟨u, hu⟩ := hg
  obtain ⟨v, hv⟩ := hg2
  have hgn : (0 : Int) ≤ (Int.gcd t b : Int) := by omega
  have hcast : ((b.natAbs / Int.gcd t b : Nat) : Int) = (b.natAbs : Int) / (Int.gcd t b : Int) := Int.natCast_ediv _ _
  rw [hcast]
  generalize (Int.gcd t b : Int) = g at *
  have f1 : (-g) ∣ t := ⟨-u, by rw [hu]; grind⟩
  have f2 : (-g) ∣ b := ⟨-v, by rw [hv]; grind⟩
  by_cases hn : b < 0
  · rw [if_pos hn, if_pos hn, Int.fdiv_eq_ediv_of_dvd f1, Int.fdiv_eq_ediv_of_dvd f2, Int.sign_eq_neg_one_of_neg hn]
    have : (b.natAbs : Int) = -b := by omega
    rw [this, Int.ediv_neg, Int.ediv_neg]
    refine ⟨?_, ?_⟩
    · rw [hu, show -1 * (g * u) = g * (-u) by grind, Int.mul_ediv_cancel_left _ hg0, Int.mul_ediv_cancel_left _ hg0]
    · rw [hv, show -(g * v) = g * (-v) by grind, Int.mul_ediv_cancel_left _ hg0, Int.mul_ediv_cancel_left _ hg0]
  · rw [if_neg hn, if_neg hn, Int.fdiv_eq_ediv_of_nonneg _ hgn, Int.fdiv_eq_ediv_of_nonneg _ hgn, Int.sign_eq_one_of_pos (by omega)]
    have : (b.natAbs : Int) = b := by omega
    rw [this, Int.one_mul]
    exact ⟨rfl, rfl⟩
theorem e_lowest (t b : Int) (hb : b ≠ 0) (hb2 : b.natAbs < 2 ^ 8000) (st : List D) : m_lowest_terms [.int t, .int b] st = .ok (rD (Rat.divInt t b)) st := by
  have hgl : Nat.gcd t.natAbs b.natAbs ≤ b.natAbs := Nat.gcd_le_right _ (by omega)
  have hgp : 0 < Nat.gcd t.natAbs b.natAbs := Nat.gcd_pos_of_pos_right _ (by omega)
  have hlog : (Nat.gcd t.natAbs b.natAbs).log2 < 9000 := by
    have := (Nat.log2_lt (n := Nat.gcd t.natAbs b.natAbs) (k := 8000) (by omega)).mpr (by omega)
    omega
  have d1 : ∀ i, DivOk i ((Nat.gcd t.natAbs b.natAbs : Nat) : Int) := fun i => ⟨by omega, .inl (by simpa using hlog)⟩
  have d2 : ∀ i, DivOk i (-((Nat.gcd t.natAbs b.natAbs : Nat) : Int)) := fun i => ⟨by omega, .inl (by simpa using hlog)⟩
  obtain ⟨h1, h2⟩ := divs t b hb
  unfold m_lowest_terms b_lowest_terms
  by_cases hn : b < 0
  · simp [ev1, ev2, ev3, ev4, ev5, bind_ok, mkEnv, get?, ret_ok, hn, d1, d2]
    simp only [rD, h1, h2, if_pos hn]
    rfl
  · simp [ev1, ev2, ev3, ev4, ev5, bind_ok, mkEnv, get?, ret_ok, hn, d1, d2]
    simp only [rD, h1, h2, if_neg hn]
    rfl
/-- x tells the ratio q, within n bits -/
inductive Tells (n : Nat) : D → Rat → Prop
  | one (i : Int) (hn : 1 ≤ n) (h : i.natAbs < 2 ^ n) : Tells n (.int i) (i : Rat)
  | two (t b : Int) (hb : 0 < b) (h1 : t.natAbs < 2 ^ n) (h2 : b.natAbs < 2 ^ n) : Tells n (.tup [.int t, .int b]) (Rat.divInt t b)
theorem Tells.rat {n : Nat} {q : Rat} (h : Sm n q) : Tells n (rD q) q := by
  have := Tells.two (n := n) q.num (q.den : Int) (by have := q.den_pos; omega) h.1 (by simpa using h.2)
  rw [Rat.num_divInt_den] at this
  exact this
theorem sm_divInt {n : Nat} {t b : Int} (hb : b ≠ 0) (h1 : t.natAbs < 2 ^ n) (h2 : b.natAbs < 2 ^ n) : Sm n (Rat.divInt t b) := by
  constructor
  · rw [Rat.num_divInt]
    refine Nat.lt_of_le_of_lt (Int.natAbs_ediv_le_natAbs _ _) ?_
    rw [Int.natAbs_mul, Int.natAbs_sign_of_ne_zero hb]
    omega
  · rw [Rat.den_divInt, if_neg hb]
    exact Nat.lt_of_le_of_lt (Nat.div_le_self _ _) h2
theorem Tells.sm {n : Nat} {x : D} {q : Rat} (h : Tells n x q) : Sm n q := by
  cases h with
  | one i hn h => exact ⟨h, by show 1 < 2 ^ n; have := Nat.pow_le_pow_right (n := 2) (by omega) hn; omega⟩
  | two t b hb h1 h2 => exact sm_divInt (by omega) h1 h2
theorem e_is_ratio {n : Nat} {x : D} {q : Rat} (h : Tells n x q) (st : List D) : m_is_ratio [x] st = .ok (.bl true) st := by
  cases h with
  | one i _ h =>
    unfold m_is_ratio b_is_ratio
    simp [ev1, ev2, ev3, ev4, ev5, bind_ok, mkEnv, get?, ret_ok, dIsi, isiD, tyN, subTy, e_is_whole_int]
  | two t b hb h1 h2 =>
    unfold m_is_ratio b_is_ratio
    simp [ev1, ev2, ev3, ev4, ev5, bind_ok, mkEnv, get?, ret_ok, dIsi, isiD, tyN, subTy, e_is_whole_int, hb]
theorem e_ratio_of {n : Nat} {x : D} {q : Rat} (h : Tells n x q) (hn : n ≤ 8000) (st : List D) : m_ratio_of [x] st = .ok (rD q) st := by
  have hr := e_is_ratio h st
  cases h with
  | one i _ h =>
    unfold m_ratio_of b_ratio_of
    simp [ev1, ev2, ev3, ev4, ev5, bind_ok, mkEnv, get?, ret_ok, dIsi, isiD, tyN, subTy, hr, rD]
  | two t b hb h1 h2 =>
    have := Nat.pow_le_pow_right (n := 2) (by omega) hn
    have hl := e_lowest t b (by omega) (by omega) st
    unfold m_ratio_of b_ratio_of
    simp [ev1, ev2, ev3, ev4, ev5, bind_ok, mkEnv, get?, ret_ok, dIsi, isiD, tyN, subTy, hr, hl]
theorem log_le {a n : Nat} (h : a < 2 ^ n) : a.log2 ≤ n := by
  by_cases h0 : a = 0
  · subst h0; simp
  · exact Nat.le_of_lt ((Nat.log2_lt h0).mpr h)
theorem mulOk_sm {i j : Int} {n m : Nat} (h1 : i.natAbs < 2 ^ n) (h2 : j.natAbs < 2 ^ m) (h : n + m ≤ 8000) : DL.MulOk i j := by
  have := log_le h1
  have := log_le h2
  exact .inr (.inr (by omega))
theorem mul_sm {i j : Int} {n m : Nat} (h1 : i.natAbs < 2 ^ n) (h2 : j.natAbs < 2 ^ m) : (i * j).natAbs < 2 ^ (n + m) := by
  rw [Int.natAbs_mul, Nat.pow_add]
  exact Nat.mul_lt_mul'' h1 h2
theorem add_sm {i j : Int} {n : Nat} (h1 : i.natAbs < 2 ^ n) (h2 : j.natAbs < 2 ^ n) : (i + j).natAbs < 2 ^ (n + 1) := by
  rw [Nat.pow_succ]; omega
theorem sub_sm {i j : Int} {n : Nat} (h1 : i.natAbs < 2 ^ n) (h2 : j.natAbs < 2 ^ n) : (i - j).natAbs < 2 ^ (n + 1) := by
  rw [Nat.pow_succ]; omega
theorem sm_mono {i : Int} {n m : Nat} (h : i.natAbs < 2 ^ n) (hm : n ≤ m) : i.natAbs < 2 ^ m := Nat.lt_of_lt_of_le h (Nat.pow_le_pow_right (by omega) hm)
theorem Sm.den' {n : Nat} {q : Rat} (h : Sm n q) : (q.den : Int).natAbs < 2 ^ n := by simpa using h.2
theorem den0 (q : Rat) : (q.den : Int) ≠ 0 := by have := q.den_pos; omega
theorem add_as (p q : Rat) : p + q = Rat.divInt (p.num * q.den + q.num * p.den) (p.den * q.den) := by
  have h := Rat.divInt_add_divInt p.num q.num (den0 p) (den0 q)
  rwa [Rat.num_divInt_den, Rat.num_divInt_den] at h
theorem sub_as (p q : Rat) : p - q = Rat.divInt (p.num * q.den - q.num * p.den) (p.den * q.den) := by
  have h := Rat.divInt_sub_divInt p.num q.num (den0 p) (den0 q)
  rwa [Rat.num_divInt_den, Rat.num_divInt_den] at h
theorem mul_as (p q : Rat) : p * q = Rat.divInt (p.num * q.num) (p.den * q.den) := by
  have h := Rat.divInt_mul_divInt p.num q.num (d₁ := p.den) (d₂ := q.den)
  rwa [Rat.num_divInt_den, Rat.num_divInt_den] at h
theorem div_as (p q : Rat) : p / q = Rat.divInt (p.num * q.den) (p.den * q.num) := by
  have h := Rat.divInt_mul_divInt p.num q.den (d₁ := p.den) (d₂ := q.num)
  rw [Rat.num_divInt_den, ← Rat.inv_divInt, Rat.num_divInt_den] at h
  rw [Rat.div_def, h]
theorem mul_ne {a b : Int} (h : a ≠ 0) (k : b ≠ 0) : a * b ≠ 0 := Int.mul_ne_zero h k
theorem sm_add {n m : Nat} {p q : Rat} (h : Sm n p) (k : Sm m q) : Sm (n + m + 1) (p + q) := by
  rw [add_as]
  refine sm_divInt (mul_ne (den0 p) (den0 q)) (add_sm (mul_sm h.1 k.den') ?_) (sm_mono (mul_sm h.den' k.den') (by omega))
  rw [Nat.add_comm n m]
  exact mul_sm k.1 h.den'
theorem sm_sub {n m : Nat} {p q : Rat} (h : Sm n p) (k : Sm m q) : Sm (n + m + 1) (p - q) := by
  rw [sub_as]
  refine sm_divInt (mul_ne (den0 p) (den0 q)) (sub_sm (mul_sm h.1 k.den') ?_) (sm_mono (mul_sm h.den' k.den') (by omega))
  rw [Nat.add_comm n m]
  exact mul_sm k.1 h.den'
theorem sm_mul {n m : Nat} {p q : Rat} (h : Sm n p) (k : Sm m q) : Sm (n + m) (p * q) := by
  rw [mul_as]
  exact sm_divInt (mul_ne (den0 p) (den0 q)) (mul_sm h.1 k.1) (mul_sm h.den' k.den')
theorem e_plus {n m : Nat} {x y : D} {p q : Rat} (h : Tells n x p) (k : Tells m y q) (hz : n + m ≤ 7000) (st : List D) : m_plus [x, y] st = .ok (rD (p + q)) st := by
  have h1 := e_ratio_of h (by omega) st
  have h2 := e_ratio_of k (by omega) st
  have m1 : DL.MulOk p.num q.den := mulOk_sm h.sm.1 k.sm.den' (by omega)
  have m2 : DL.MulOk q.num p.den := mulOk_sm k.sm.1 h.sm.den' (by omega)
  have m3 : DL.MulOk p.den q.den := mulOk_sm h.sm.den' k.sm.den' (by omega)
  have m4 : DL.MulOk p.num q.num := mulOk_sm h.sm.1 k.sm.1 (by omega)
  have hl := e_lowest (p.num * q.den + q.num * p.den) (p.den * q.den) (mul_ne (den0 p) (den0 q)) (sm_mono (mul_sm h.sm.den' k.sm.den') (by omega)) st
  rw [← add_as] at hl
  unfold m_plus b_plus
  simp [ev1, ev2, ev3, ev4, ev5, bind_ok, mkEnv, get?, ret_ok, h1, h2, m1, m2, m3, m4, rD, hl]
theorem e_times {n m : Nat} {x y : D} {p q : Rat} (h : Tells n x p) (k : Tells m y q) (hz : n + m ≤ 7000) (st : List D) : m_times [x, y] st = .ok (rD (p * q)) st := by
  have h1 := e_ratio_of h (by omega) st
  have h2 := e_ratio_of k (by omega) st
  have m1 : DL.MulOk p.num q.den := mulOk_sm h.sm.1 k.sm.den' (by omega)
  have m2 : DL.MulOk q.num p.den := mulOk_sm k.sm.1 h.sm.den' (by omega)
  have m3 : DL.MulOk p.den q.den := mulOk_sm h.sm.den' k.sm.den' (by omega)
  have m4 : DL.MulOk p.num q.num := mulOk_sm h.sm.1 k.sm.1 (by omega)
  have hl := e_lowest (p.num * q.num) (p.den * q.den) (mul_ne (den0 p) (den0 q)) (sm_mono (mul_sm h.sm.den' k.sm.den') (by omega)) st
  rw [← mul_as] at hl
  unfold m_times b_times
  simp [ev1, ev2, ev3, ev4, ev5, bind_ok, mkEnv, get?, ret_ok, h1, h2, m1, m2, m3, m4, rD, hl]
/-- -1, 0, 1 -/
def cmpR (p q : Rat) : Int := if p < q then -1 else if q < p then 1 else 0
theorem e_compare {n m : Nat} {x y : D} {p q : Rat} (h : Tells n x p) (k : Tells m y q) (hz : n + m ≤ 7000) (st : List D) : m_compare [x, y] st = .ok (.int (cmpR p q)) st := by
  have h1 := e_ratio_of h (by omega) st
  have h2 := e_ratio_of k (by omega) st
  have m1 : DL.MulOk p.num q.den := mulOk_sm h.sm.1 k.sm.den' (by omega)
  have m2 : DL.MulOk q.num p.den := mulOk_sm k.sm.1 h.sm.den' (by omega)
  unfold m_compare b_compare cmpR
  by_cases c1 : p < q
  · have d1 := (Rat.lt_iff p q).mp c1
    simp [ev1, ev2, ev3, ev4, ev5, bind_ok, mkEnv, get?, ret_ok, h1, h2, m1, m2, rD, d1, c1]
  · have d1 : ¬ (p.num * q.den < q.num * p.den) := fun z => c1 ((Rat.lt_iff p q).mpr z)
    by_cases c2 : q < p
    · have d2 := (Rat.lt_iff q p).mp c2
      simp [ev1, ev2, ev3, ev4, ev5, bind_ok, mkEnv, get?, ret_ok, h1, h2, m1, m2, rD, d1, d2, c1, c2]
    · have d2 : ¬ (q.num * p.den < p.num * q.den) := fun z => c2 ((Rat.lt_iff q p).mpr z)
      simp [ev1, ev2, ev3, ev4, ev5, bind_ok, mkEnv, get?, ret_ok, h1, h2, m1, m2, rD, d1, d2, c1, c2]
/-! the law's own words -/
theorem low_loop : ∀ (b a : Nat) (t u : D) (st : List D), mWhile (mTru (mVar 3)) (mPar 2 3 (mCons (mVar 3) (mCons (mOp dMod (mCall1 (c1 dInt1) (mCons (mVar 2) (mNil))) (mVar 3)) (mNil)))) [some t, some u, some (.int a), some (.int b)] st = .nx [some t, some u, some (.int (Nat.gcd a b : Nat)), some (.int 0)] st := by
  intro b
  induction b using Nat.strongRecOn with
  | _ b ih =>
    intro a t u st
    rw [mWhile_eq]
    by_cases hb : b = 0
    · subst hb
      simp [ev1, ev2, ev3, ev4, ev5, bind_ok, mkEnv, get?, ret_ok, rD]
    · have hr := ih (a % b) (Nat.mod_lt _ (by omega)) b t u st
      have hb' : (b : Int) ≠ 0 := by omega
      have hm : dMod (.int a) (.int b) = some (.int ((a % b : Nat) : Int)) := by
        rw [dMod_pos _ _ hb', Int.fmod_eq_emod_of_nonneg _ (by omega)]
        rfl
      simp [ev1, ev2, ev3, ev4, ev5, bind_ok, mkEnv, get?, ret_ok, hm, hb, hr]
      rw [Int.natCast_emod] at hr
      rw [hr, Nat.gcd_comm b (a % b), ← Nat.gcd_rec, Nat.gcd_comm]
theorem e_law_low (t b : Int) (hb : b ≠ 0) (hb2 : b.natAbs < 2 ^ 8000) (st : List D) : m__law_low [.int t, .int b] st = .ok (rD (Rat.divInt t b)) st := by
  have hgl : Nat.gcd t.natAbs b.natAbs ≤ b.natAbs := Nat.gcd_le_right _ (by omega)
  have hgp : 0 < Nat.gcd t.natAbs b.natAbs := Nat.gcd_pos_of_pos_right _ (by omega)
  have hlog : (Nat.gcd t.natAbs b.natAbs).log2 < 9000 := by
    have := (Nat.log2_lt (n := Nat.gcd t.natAbs b.natAbs) (k := 8000) (by omega)).mpr (by omega)
    omega
  have d1 : ∀ i, DivOk i ((Nat.gcd t.natAbs b.natAbs : Nat) : Int) := fun i => ⟨by omega, .inl (by simpa using hlog)⟩
  have d2 : ∀ i, DivOk i (-((Nat.gcd t.natAbs b.natAbs : Nat) : Int)) := fun i => ⟨by omega, .inl (by simpa using hlog)⟩
  obtain ⟨h1, h2⟩ := divs t b hb
  have at_ : dAbs (.int t) = some (.int (t.natAbs : Nat)) := congrArg (fun i => some (D.int i)) (by split <;> omega)
  have ab_ : dAbs (.int b) = some (.int (b.natAbs : Nat)) := congrArg (fun i => some (D.int i)) (by split <;> omega)
  have hw := low_loop b.natAbs t.natAbs (.int t) (.int b) st
  unfold m__law_low b__law_low
  by_cases hn : b < 0
  · simp only [ev1, ev2, ev3, bind_ok, mkEnv, get?, ret_ok, List.set_cons_zero, List.set_cons_succ, ev4.2.2.2.2.2.2.2.2.2.2.2.2.1, at_, ab_, hw]
    simp [ev1, ev2, ev3, ev4, ev5, bind_ok, get?, ret_ok, hn, d1, d2]
    simp only [rD, h1, h2, if_pos hn]
    rfl
  · simp only [ev1, ev2, ev3, bind_ok, mkEnv, get?, ret_ok, List.set_cons_zero, List.set_cons_succ, ev4.2.2.2.2.2.2.2.2.2.2.2.2.1, at_, ab_, hw]
    simp [ev1, ev2, ev3, ev4, ev5, bind_ok, get?, ret_ok, hn, d1, d2]
    simp only [rD, h1, h2, if_neg hn]
    rfl
theorem dEq_pair (a b c d : Int) : dEq (.tup [.int a, .int b]) (.tup [.int c, .int d]) = some (.bl (decide (a = c) && decide (b = d))) := by
  have e : dEq (.tup [.int a, .int b]) (.tup [.int c, .int d]) = some (.bl ((a == c) && ((b == d) && true))) := rfl
  rw [e, Bool.and_true, Bool.beq_eq_decide_eq, Bool.beq_eq_decide_eq]
theorem dEq_rD (p q : Rat) : dEq (rD p) (rD q) = some (.bl (decide (p = q))) := by
  unfold rD
  rw [dEq_pair]
  congr 2
  rw [← Bool.decide_and, decide_eq_decide]
  refine ⟨fun ⟨a, b⟩ => Rat.ext a (by omega), fun h => by rw [h]; exact ⟨rfl, rfl⟩⟩
theorem dNe_rD (p q : Rat) : dNe (rD p) (rD q) = some (.bl (!decide (p = q))) := by
  have h := dEq_rD p q
  unfold dEq at h
  unfold dNe
  cases e : eqD (rD p) (rD q) with
  | none => rw [e] at h; cases h
  | some b => rw [e] at h; have := Option.some.inj h; injection this with this; simp [this]
end My

namespace My
open PySem PySem.Spec PyProof.Rows L2 DL
/-! sizes of sums -/
def IM (M : Nat) (q : Rat) : Prop := ∃ z : Int, q * (M : Rat) = (z : Rat)
def Bd (c : Int) (q : Rat) : Prop := -(c : Rat) ≤ q ∧ q ≤ (c : Rat)
theorem IM.zero (M : Nat) : IM M 0 := ⟨0, by simp⟩
theorem IM.add {M : Nat} {p q : Rat} : IM M p → IM M q → IM M (p + q) := fun ⟨a, h⟩ ⟨b, k⟩ => ⟨a + b, by rw [Rat.add_mul, h, k, Rat.intCast_add]⟩
theorem IM.imul {M : Nat} {q : Rat} (w : Int) : IM M q → IM M ((w : Rat) * q) := fun ⟨a, h⟩ => ⟨w * a, by rw [Rat.mul_assoc, h, Rat.intCast_mul]⟩
theorem Bd.zero : Bd 0 0 := ⟨by decide, by decide⟩
theorem Bd.add {c d : Int} {p q : Rat} (h : Bd c p) (k : Bd d q) : Bd (c + d) (p + q) := by
  obtain ⟨a, b⟩ := h
  obtain ⟨e, f⟩ := k
  constructor
  · rw [Rat.intCast_add]; grind
  · rw [Rat.intCast_add]; grind
theorem Bd.mono {c d : Int} {q : Rat} (h : Bd c q) (hcd : c ≤ d) : Bd d q := by
  obtain ⟨a, b⟩ := h
  have : (c : Rat) ≤ (d : Rat) := Rat.intCast_le_intCast.mpr hcd
  constructor <;> grind
theorem Bd.mul {c d : Int} {p q : Rat} (h : Bd c p) (k : Bd d q) : Bd (c * d) (p * q) := by
  obtain ⟨a, b⟩ := h
  obtain ⟨e, f⟩ := k
  have h1 := Rat.mul_nonneg (a := (c : Rat) - p) (b := (d : Rat) + q) (by grind) (by grind)
  have h2 := Rat.mul_nonneg (a := (c : Rat) + p) (b := (d : Rat) - q) (by grind) (by grind)
  have h3 := Rat.mul_nonneg (a := (c : Rat) - p) (b := (d : Rat) - q) (by grind) (by grind)
  have h4 := Rat.mul_nonneg (a := (c : Rat) + p) (b := (d : Rat) + q) (by grind) (by grind)
  constructor
  · rw [Rat.intCast_mul]; grind
  · rw [Rat.intCast_mul]; grind
theorem Bd.int {w : Int} {c : Int} (h : w.natAbs ≤ c.toNat) (hc : 0 ≤ c) : Bd c (w : Rat) := by
  have h1 : w ≤ c := by omega
  have h2 : -c ≤ w := by omega
  refine ⟨?_, Rat.intCast_le_intCast.mpr h1⟩
  have := Rat.intCast_le_intCast.mpr h2
  rwa [Rat.intCast_neg] at this
theorem Bd.num {c : Int} {q : Rat} (h : Bd c q) : q.num.natAbs ≤ c.toNat * q.den := by
  obtain ⟨a, b⟩ := h
  have b' := (Rat.le_iff _ _).mp b
  have a' : ((-c : Int) : Rat) ≤ q := by rw [Rat.intCast_neg]; exact a
  have a' := (Rat.le_iff _ _).mp a'
  simp only [Rat.num_intCast, Rat.den_intCast] at a' b'
  have hd := q.den_pos
  have hc : 0 ≤ c := by
    rcases Int.lt_or_le c 0 with z | z
    · exfalso
      have h1 : c * (q.den : Int) < 0 := Int.mul_neg_of_neg_of_pos z (by omega)
      have h2 : -c * (q.den : Int) = -(c * (q.den : Int)) := Int.neg_mul ..
      omega
    · exact z
  have hcast : ((c.toNat * q.den : Nat) : Int) = c * (q.den : Int) := by
    rw [Int.natCast_mul, Int.toNat_of_nonneg hc]
  have h2 : -c * (q.den : Int) = -(c * (q.den : Int)) := Int.neg_mul ..
  omega
theorem IM.eq {M : Nat} {q : Rat} (hM : 0 < M) : IM M q → ∃ z : Int, q = Rat.divInt z M := fun ⟨z, h⟩ => ⟨z, by
  have hM' : (M : Rat) ≠ 0 := by
    intro e
    have := (Rat.natCast_inj (a := M) (b := 0)).mp (by simpa using e)
    omega
  rw [Rat.divInt_eq_div]
  have : ((M : Int) : Rat) = (M : Rat) := rfl
  rw [this, ← h]
  grind⟩
theorem IM.den {M : Nat} {q : Rat} (hM : 0 < M) (h : IM M q) : q.den ≤ M := by
  obtain ⟨z, rfl⟩ := h.eq hM
  rw [Rat.den_divInt, if_neg (by omega)]
  exact Nat.le_trans (Nat.div_le_self _ _) (by simp)
theorem sm_of {M m a : Nat} {q : Rat} (hM : 0 < M) (hm : M < 2 ^ m) (h : IM M q) (b : Bd (2 ^ a : Nat) q) : Sm (a + m) q := by
  have h1 := h.den hM
  have h2 := b.num
  have h3 : q.den < 2 ^ m := by omega
  have h4 : (2 ^ a : Nat) * q.den < 2 ^ (a + m) := by
    rw [Nat.pow_add]
    exact (Nat.mul_lt_mul_left (Nat.two_pow_pos a)).mpr h3
  have h5 : ((2 ^ a : Nat) : Int).toNat = 2 ^ a := Int.toNat_natCast _
  rw [h5] at h2
  refine ⟨by omega, Nat.lt_of_lt_of_le h3 (Nat.pow_le_pow_right (by omega) (by omega))⟩
theorem IM.of_den {q : Rat} {M : Nat} (h : q.den ∣ M) : IM M q := by
  obtain ⟨k, rfl⟩ := h
  refine ⟨q.num * k, ?_⟩
  have e : q * ((q.den : Nat) : Rat) = (q.num : Rat) := by
    have h0 := Rat.num_divInt_den q
    rw [Rat.divInt_eq_div] at h0
    have h1 : ((q.den : Int) : Rat) = (q.den : Rat) := rfl
    rw [h1] at h0
    have h2 : (q.den : Rat) ≠ 0 := by
      intro e
      have := (Rat.natCast_inj (a := q.den) (b := 0)).mp (by simpa using e)
      exact absurd this (Nat.pos_iff_ne_zero.mp q.den_pos)
    grind
  rw [Rat.natCast_mul, ← Rat.mul_assoc, e, Rat.intCast_mul]
  rfl
theorem IM.mul {M N : Nat} {p q : Rat} : IM M p → IM N q → IM (M * N) (p * q) := fun ⟨a, h⟩ ⟨b, k⟩ => ⟨a * b, by
  rw [Rat.natCast_mul, Rat.intCast_mul, ← h, ← k]
  grind⟩
theorem IM.more {M N : Nat} {q : Rat} : IM M q → IM (M * N) q := fun ⟨a, h⟩ => ⟨a * N, by
  rw [Rat.natCast_mul, Rat.intCast_mul, ← h, ← Rat.mul_assoc]
  rfl⟩
end My

namespace My
open PySem PySem.Spec PyProof.Rows L2 DL
/-! rows -/
theorem chain_le {mc : List D → Res D} {a b c : Int} {st : List D} (h : mc st = .ok (.int c) st) : chainR dLe dLe mc (.int a) (.int b) st = .ok (.bl (decide (a ≤ b) && decide (b ≤ c))) st := by
  unfold chainR
  have e : dLe (.int a) (.int b) = some (.bl (decide (a ≤ b))) := rfl
  rw [e]
  by_cases hab : a ≤ b
  · simp only [hab, decide_true, h, bind_ok, Bool.true_and]; rfl
  · simp only [hab, decide_false, Bool.false_and]
theorem chain_leC (a b c : Int) (env : Env') (st : List D) : chainR dLe dLe (mC (.int c) env) (.int a) (.int b) st = .ok (.bl (decide (a ≤ b) && decide (b ≤ c))) st := chain_le rfl
theorem ix_lst {xs : List D} {i : Nat} (h : i < xs.length) (st : List D) : ixS (.lst xs) (.int (i : Int)) st = .ok xs[i] st := by
  rw [ev5.2.2.2.2.2.1, atI_nat h]; rfl
theorem ix_tup {xs : List D} {i : Nat} (h : i < xs.length) (st : List D) : ixS (.tup xs) (.int (i : Int)) st = .ok xs[i] st := by
  rw [ev5.2.2.2.2.1, atI_nat h]; rfl
def S1 : List Int → List Rat → Rat
  | w :: ws, v :: vs => (w : Rat) * v + S1 ws vs
  | _, _ => 0
def S2 : List Int → List Rat → Rat
  | w :: ws, v :: vs => (w : Rat) * (v * v) + S2 ws vs
  | _, _ => 0
/-- all speeds fit: s bits each, together over one bottom of m bits, below 2 ^ a -/
structure Fit (s a m : Nat) (vs : List Rat) : Prop where
  ex : ∃ M : Nat, 0 < M ∧ M < 2 ^ m ∧ ∀ v ∈ vs, Sm s v ∧ IM M v ∧ IM M (v * v) ∧ Bd (2 ^ a : Nat) v
  ok : 2 * a + m + 2 * s + 30 ≤ 7000
theorem Fit.sm {s a m : Nat} {vs : List Rat} (f : Fit s a m vs) : ∀ v ∈ vs, Sm s v := fun v hv => let ⟨_, _, _, h⟩ := f.ex; (h v hv).1
inductive TL (n : Nat) : List D → List Rat → Prop
  | nil : TL n [] []
  | cons {x : D} {v : Rat} {xs : List D} {vs : List Rat} : Tells n x v → TL n xs vs → TL n (x :: xs) (v :: vs)
theorem TL.len {n : Nat} : ∀ {xs : List D} {vs : List Rat}, TL n xs vs → xs.length = vs.length
  | _, _, .nil => rfl
  | _, _, .cons _ r => congrArg (· + 1) r.len
theorem TL.rat {n : Nat} : ∀ {vs : List Rat}, (∀ v ∈ vs, Sm n v) → TL n (vs.map rD) vs
  | [], _ => .nil
  | v :: vs, h => .cons (.rat (h v List.mem_cons_self)) (TL.rat fun u hu => h u (List.mem_cons_of_mem _ hu))
theorem TL.get {n : Nat} : ∀ {xs : List D} {vs : List Rat}, TL n xs vs → ∀ (i : Nat) (h : i < xs.length), ∃ v, Tells n xs[i] v
  | _, _, .cons h _, 0, _ => ⟨_, h⟩
  | _, _, .cons _ r, i + 1, h => r.get i (Nat.lt_of_succ_lt_succ h)
theorem tells_int {w : Int} (h : 1 ≤ w ∧ w ≤ 9) : Tells 4 (.int w) (w : Rat) := .one w (by omega) (by omega)
theorem bd_w {w : Int} (h : 1 ≤ w ∧ w ≤ 9) : Bd 9 (w : Rat) := Bd.int (by omega) (by omega)
theorem row_loop {s a m M : Nat} (hM : 0 < M) (hm : M < 2 ^ m) (hz : 2 * a + m + 2 * s + 30 ≤ 7000) (e0 e1 e2 e3 e4 : Option D) (st : List D) :
    ∀ (ws : List Int) (vs : List Rat) (k : Nat) (p q : Rat) (x y : Option D), (∀ w ∈ ws, 1 ≤ w ∧ w ≤ 9) → (∀ v ∈ vs, Sm s v ∧ IM M v ∧ IM M (v * v) ∧ Bd (2 ^ a : Nat) v) → k + ws.length ≤ 40 → ws.length = vs.length → IM M p → IM M q → Bd (k * (9 * (2 ^ a : Nat))) p → Bd (k * (9 * ((2 ^ a : Nat) * (2 ^ a : Nat)))) q →
      ∃ x' y', forD (gTp (gsCons (gNm 7) (gsCons (gNm 8) (gsNil)))) bd_Row___init___2
        (List.zipWith (fun x y => .tup [x, y]) (ws.map .int) (vs.map rD)) [e0, e1, e2, e3, e4, some (rD p), some (rD q), x, y] st = .nx [e0, e1, e2, e3, e4, some (rD (p + S1 ws vs)), some (rD (q + S2 ws vs)), x', y'] st
  | [], [], k, p, q, x, y, _, _, _, _, _, _, _, _ => ⟨x, y, by
      have e1 : p + S1 [] [] = p := Rat.add_zero p
      have e2 : q + S2 [] [] = q := Rat.add_zero q
      rw [e1, e2]; rfl⟩
  | w :: ws, v :: vs, k, p, q, x, y, hw, hv, hk, hl, ip, iq, bp, bq => by
    have hk : k + (ws.length + 1) ≤ 40 := hk
    have hl : ws.length + 1 = vs.length + 1 := hl
    obtain ⟨v1, v2, v3, v4⟩ := hv v List.mem_cons_self
    have w1 := hw w List.mem_cons_self
    have tw := tells_int w1
    have tv : Tells s (rD v) v := .rat v1
    have twv := sm_mul tw.sm v1
    have tvv := sm_mul v1 v1
    have twvv := sm_mul tw.sm tvv
    have b9 : ∀ (c : Nat) (r : Rat), Bd (k * (9 * (c : Int))) r → Bd ((2 ^ 9 * c : Nat) : Int) r := fun c r h => h.mono (by
      have h1 : (k : Int) * (9 * (c : Int)) = ((k * (9 * c) : Nat) : Int) := by simp
      rw [h1]
      have h2 : k * (9 * c) ≤ 39 * (9 * c) := Nat.mul_le_mul_right _ (by omega)
      omega)
    have sp : Sm (9 + a + m) p := sm_of hM hm ip (by
      have := b9 (2 ^ a) p bp
      rwa [← Nat.pow_add] at this)
    have sq : Sm (9 + (a + a) + m) q := sm_of hM hm iq (by
      have bq' : Bd (k * (9 * ((2 ^ a * 2 ^ a : Nat) : Int))) q := by rw [Int.natCast_mul]; exact bq
      have := b9 (2 ^ a * 2 ^ a) q bq'
      rwa [← Nat.pow_add, ← Nat.pow_add] at this)
    have f1 := e_times tw tv (by omega) st
    have f2 := e_plus (Tells.rat sp) (Tells.rat twv) (by omega) st
    have f3 := e_times tv tv (by omega) st
    have f4 := e_times tw (Tells.rat tvv) (by omega) st
    have f5 := e_plus (Tells.rat sq) (Tells.rat twvv) (by omega) st
    have c1 : ((k + 1 : Nat) : Int) * (9 * ((2 ^ a : Nat) : Int)) = k * (9 * (2 ^ a : Nat)) + 9 * (2 ^ a : Nat) := by rw [Int.natCast_add, Int.add_mul]; simp
    have c2 : ((k + 1 : Nat) : Int) * (9 * (((2 ^ a : Nat) : Int) * (2 ^ a : Nat))) = k * (9 * ((2 ^ a : Nat) * (2 ^ a : Nat))) + 9 * ((2 ^ a : Nat) * (2 ^ a : Nat)) := by rw [Int.natCast_add, Int.add_mul]; simp
    obtain ⟨x', y', ih⟩ := row_loop hM hm hz e0 e1 e2 e3 e4 st ws vs (k + 1) (p + (w : Rat) * v) (q + (w : Rat) * (v * v)) (some (.int w)) (some (rD v)) (fun u hu => hw u (List.mem_cons_of_mem _ hu)) (fun u hu => hv u (List.mem_cons_of_mem _ hu)) (by omega) (by omega) (ip.add (v2.imul w)) (iq.add (v3.imul w)) (by rw [c1]; exact bp.add ((bd_w w1).mul v4)) (by rw [c2]; exact bq.add ((bd_w w1).mul (v4.mul v4)))
    refine ⟨x', y', ?_⟩
    have r1 : p + S1 (w :: ws) (v :: vs) = p + (w : Rat) * v + S1 ws vs := by
      show p + ((w : Rat) * v + S1 ws vs) = _
      rw [Rat.add_assoc]
    have r2 : q + S2 (w :: ws) (v :: vs) = q + (w : Rat) * (v * v) + S2 ws vs := by
      show q + ((w : Rat) * (v * v) + S2 ws vs) = _
      rw [Rat.add_assoc]
    rw [r1, r2, ← ih]
    simp only [List.map_cons, List.zipWith_cons_cons, forD_cons]
    unfold bd_Row___init___2
    simp only [ev1, ev2, ev3, gNm, bind_ok, Option.bind_some, get?, ret_ok, List.set_cons_zero, List.set_cons_succ, f1, f2, f3, f4, f5]
def gc (n : Nat) (wall : Bool) : Nat := if wall then n else n - 1
def likeB : List Int → Bool
  | [] => true
  | w :: ws => decide (PySem.W.maxOf w ws = PySem.W.minOf w ws)
def rowF (ws : List Int) (vs : List Rat) (wall : Bool) : List (Str × D) := [("weights", .tup (ws.map .int)), ("speeds", .tup (vs.map rD)), ("wall", .bl wall), ("pairs", .tup (rangeD (if wall then -1 else 0) (gc ws.length wall))), ("gap_count", .int (gc ws.length wall : Nat)), ("is_like", .bl (likeB ws)), ("first_sum", rD (S1 ws vs)), ("second_sum", rD (S2 ws vs))]
def rowD (ws : List Int) (vs : List Rat) (wall : Bool) : D := .obj c_Row (rowF ws vs wall)
/-- a list or a tuple -/
def SeqD (d : D) (xs : List D) : Prop := d = .lst xs ∨ d = .tup xs
theorem SeqD.len {d : D} {xs : List D} (h : SeqD d xs) : c1 dLen [d] = some (.int (xs.length : Nat)) := by rcases h with rfl | rfl <;> rfl
theorem SeqD.ix {d : D} {xs : List D} (h : SeqD d xs) {i : Nat} (hi : i < xs.length) (st : List D) : ixS d (.int (i : Int)) st = .ok xs[i] st := by
  rcases h with rfl | rfl
  · exact ix_lst hi st
  · exact ix_tup hi st
theorem SeqD.isi {d : D} {xs : List D} (h : SeqD d xs) : dIsi [d, .tup [.ty "list", .ty "tuple"]] = some (.bl true) := by
  rcases h with rfl | rfl <;> rfl
theorem SeqD.tup {d : D} {xs : List D} (h : SeqD d xs) : c1 dTuple [d] = some (.tup xs) := by rcases h with rfl | rfl <;> rfl
theorem SeqD.items {d : D} {xs : List D} (h : SeqD d xs) (st : List D) : DL.items? d st = .ok xs st := by rcases h with rfl | rfl <;> rfl
theorem rng1_nat {n : Nat} (h : n ≤ 1000) (st : List D) : rng1? [.int (n : Int)] st = .ok (rangeD 0 n) st := by
  have h2 : (n : Int) ≤ (1000 : Int) := Int.ofNat_le.mpr h
  have hc : -(2 ^ 62) ≤ (n : Int) ∧ (n : Int) < 2 ^ 62 := ⟨Int.le_trans (by decide : -(2 ^ 62) ≤ (0 : Int)) (Int.natCast_nonneg n), Int.lt_of_le_of_lt h2 (by decide)⟩
  have e : rng1? [.int (n : Int)] st = @ite _ (-(2 ^ 62) ≤ (n : Int) ∧ (n : Int) < 2 ^ 62) (Classical.propDecidable _) (.ok (rangeD 0 (n : Int).toNat) st) .bad := rfl
  rw [e, if_pos hc, Int.toNat_natCast]
theorem rangeD_cons (lo : Int) (n : Nat) : rangeD lo (n + 1) = .int lo :: rangeD (lo + 1) n := by
  unfold rangeD
  rw [List.range_succ_eq_map, List.map_cons, List.map_map]
  congr 1
  · simp
  · refine List.map_congr_left fun i _ => ?_
    show D.int (lo + ((i + 1 : Nat) : Int)) = _
    congr 1
    omega
theorem cb_loop {W V : D} {ws : List Int} {xs : List D} {vs : List Rat} {n : Nat} {e2 e3 : Option D} (hW : SeqD W (ws.map .int)) (hV : SeqD V xs) (hx : TL n xs vs) (hl : ws.length = vs.length) (hw : ∀ w ∈ ws, 1 ≤ w ∧ w ≤ 9) (st : List D) :
    ∃ x, forD (gNm 4) bd_check_balls_1 (rangeD 0 ws.length) [some W, some V, e2, e3, none] st = .nx [some W, some V, e2, e3, x] st := by
  have hlx : xs.length = ws.length := by rw [hx.len, hl]
  obtain ⟨env', st', hf, x, rfl, rfl⟩ := forD_inv (g := gNm 4) (body := bd_check_balls_1)
    (fun env st' => ∃ x, env = [some W, some V, e2, e3, x] ∧ st' = st) (fun d => ∃ i : Nat, i < ws.length ∧ d = .int (i : Int))
    (by
      rintro d env st' ⟨i, hi, rfl⟩ ⟨x, rfl, rfl⟩
      have a1 := hW.ix (i := i) (by rw [List.length_map]; exact hi) st'
      have a2 := hV.ix (i := i) (by omega) st'
      rw [List.getElem_map] at a1
      obtain ⟨v, hv⟩ := hx.get i (by omega)
      have a3 := e_is_ratio hv st'
      have a4 := e_is_whole_int ws[i] st'
      obtain ⟨b1, b2⟩ := hw _ (List.getElem_mem hi)
      refine ⟨_, [some W, some V, e2, e3, some (.int (i : Int))], st', rfl, ?_, _, rfl, rfl⟩
      unfold bd_check_balls_1
      simp [ev, bind_ok, mkEnv, get?, ret_ok, a1, a2, a3, a4, chain_le, b1, b2])
    (rangeD 0 ws.length) [some W, some V, e2, e3, none] st
    (fun d hd => by
      unfold rangeD at hd
      obtain ⟨i, hi, rfl⟩ := List.mem_map.mp hd
      exact ⟨i, List.mem_range.mp hi, by simp⟩) ⟨none, rfl, rfl⟩
  exact ⟨x, hf⟩
theorem e_check_balls {W V : D} {ws : List Int} {xs : List D} {vs : List Rat} {n : Nat} {wall : Bool} (hW : SeqD W (ws.map .int)) (hV : SeqD V xs) (hx : TL n xs vs) (hl : ws.length = vs.length) (h1 : (if wall then 1 else 2) ≤ ws.length) (h2 : ws.length ≤ 40) (hw : ∀ w ∈ ws, 1 ≤ w ∧ w ≤ 9) (st : List D) :
    m_check_balls [W, V, .bl wall] st = .ok .non st := by
  have hlx : xs.length = ws.length := by rw [hx.len, hl]
  have lw := hW.len
  have lv := hV.len
  have iw := hW.isi
  have iv := hV.isi
  rw [List.length_map] at lw
  have rg := rng1_nat (n := ws.length) (by omega) st
  have hb : dIsi [.bl wall, .ty "bool"] = some (.bl true) := rfl
  have h2' : (ws.length : Int) ≤ 40 := by omega
  unfold m_check_balls b_check_balls
  have hff : ∀ e2 e3, ∃ x, F_check_balls_1 [some W, some V, e2, e3, none] st = .nx [some W, some V, e2, e3, x] st := fun e2 e3 => by
    obtain ⟨x, hf⟩ := cb_loop (e2 := e2) (e3 := e3) hW hV hx hl hw st
    exact ⟨x, mFor_of (mThenA_of (xs := [.int (ws.length : Int)]) (st1 := st) (by simp only [ev, bind_ok, get?, ret_ok, lw]) rg) hf⟩
  cases wall
  · have h1' : (2 : Int) ≤ ws.length := by simp at h1; omega
    obtain ⟨x, hf⟩ := hff (some (.bl false)) (some (.int 2))
    simp only [ev, bind_ok, mkEnv, get?, ret_ok, hb, lw, lv, iw, iv, hlx, chain_leC, h1', h2', decide_true, Bool.and_self, if_true, if_false, Bool.not_true, Bool.not_false, Bool.false_eq_true, List.set_cons_zero, List.set_cons_succ, hf]
  · have h1' : (1 : Int) ≤ ws.length := by simp at h1; omega
    obtain ⟨x, hf⟩ := hff (some (.bl true)) (some (.int 1))
    simp only [ev, bind_ok, mkEnv, get?, ret_ok, hb, lw, lv, iw, iv, hlx, chain_leC, h1', h2', decide_true, Bool.and_self, if_true, if_false, Bool.not_true, Bool.not_false, Bool.false_eq_true, List.set_cons_zero, List.set_cons_succ, hf]
theorem lc_ratio {n : Nat} (hn : n ≤ 8000) (env : Env') (st : List D) : ∀ {xs : List D} {vs : List Rat}, TL n xs vs → 8 < env.length → lcD env (gNm 8) mYes el_Row___init___1 xs st = .ok (vs.map rD) st
  | _, _, .nil, _ => rfl
  | _, _, .cons (x := x) (v := v) h r, he => by
    have ih := lc_ratio hn env st r he
    have h1 := e_ratio_of h hn st
    have hv : mVar 8 (env.set 8 (some x)) st = .ok x st := by
      unfold mVar
      rw [List.getElem?_set_self he]
    unfold lcD
    simp only [gNm, mYes, noEr, bind_ok, if_true, List.map_cons]
    unfold el_Row___init___1
    simp only [ev, bind_ok]
    rw [mVar_eq] at hv
    rw [hv]
    simp only [bind_ok, h1]
    rw [show lcD env (gNm 8) mYes (mCall m_ratio_of (mCons (mVar 8) mNil)) _ st = _ from ih]
    rfl
end My

namespace My
open PySem PySem.Spec PyProof.Rows L2 DL
theorem fldSR_ok {okF : Nat → Str → Bool} {f : Str} {c : Nat} {fs : List (Str × D)} {env : Env'} {d : D} {st : List D} (h : okF c f = true) (hl : fs.length < 1000) : fldSR okF f c fs env (.ok d st) = .nx (some (.obj c (putD f d fs)) :: env) st := by
  show (if okF c f = true ∧ fs.length < 1000 then _ else _) = _
  rw [if_pos ⟨h, hl⟩]
theorem putD_new {f : Str} {d : D} {names : List Str} : ∀ {fs : List (Str × D)}, fs.map (·.1) = names → (∀ n ∈ names, n ≠ f) → putD f d fs = fs ++ [(f, d)]
  | [], _, _ => rfl
  | (g, x) :: r, e, h => by
    subst e
    rw [putD_ne (h g List.mem_cons_self), putD_new rfl fun n hn => h n (List.mem_cons_of_mem _ hn)]
    rfl
theorem mFldS_of {f : Str} {me : ME} {fs fs' : List (Str × D)} {env : Env'} {st st1 : List D} {d : D} (names : List Str) (h : me (some (.obj c_Row fs) :: env) st = .ok d st1) (ok : okF c_Row f = true) (hn : fs.map (·.1) = names) (hl : names.length < 1000) (nf : ∀ n ∈ names, n ≠ f) (e : fs ++ [(f, d)] = fs') :
    mFldS okF f me (some (.obj c_Row fs) :: env) st = .nx (some (.obj c_Row fs') :: env) st1 := by
  rw [ev6.2.2.2.1, h, fldSR_ok ok (by rw [← hn, List.length_map] at hl; exact hl), putD_new hn nf, e]
theorem ok_row : okF c_Row "weights" = true ∧ okF c_Row "speeds" = true ∧ okF c_Row "wall" = true ∧ okF c_Row "pairs" = true ∧ okF c_Row "gap_count" = true ∧ okF c_Row "is_like" = true ∧ okF c_Row "first_sum" = true ∧ okF c_Row "second_sum" = true := by decide +kernel
theorem dFld_of {okF : Nat → Str → Bool} {f : Str} {c : Nat} {fs : List (Str × D)} {d : D} (h : okF c f = true) (k : fs.lookup f = some d) : dFld okF f (.obj c fs) = some d := by
  show (if okF c f = true then fs.lookup f else none) = _
  rw [if_pos h, k]
theorem tupRg_nat {wall : Bool} {n : Nat} (h : n ≤ 1000) (h1 : 1 ≤ n) : dTupRg (.int (if wall then -1 else 0)) (.int ((n : Int) - 1)) = some (.tup (rangeD (if wall then -1 else 0) (gc n wall))) := by
  have e : dTupRg (.int (if wall then -1 else 0)) (.int ((n : Int) - 1)) = if RgOk (if wall then -1 else 0) ((n : Int) - 1) then some (D.tup (rangeD (if wall then -1 else 0) (((n : Int) - 1) - (if wall then -1 else 0)).toNat)) else none := rfl
  have hr : RgOk (if wall then -1 else 0) ((n : Int) - 1) := by
    unfold RgOk
    have hz : (1000 : Int) ≤ sizeLine := by decide
    have h62 : (1000 : Int) < 2 ^ 62 := by decide
    have h62' : -(2 ^ 62) ≤ (-1 : Int) := by decide
    generalize (2 : Int) ^ 62 = B at *
    cases wall <;> simp only [Bool.false_eq_true, if_false, if_true] <;> refine ⟨?_, ?_, ?_, ?_, ?_⟩ <;> omega
  rw [e, if_pos hr]
  have : (((n : Int) - 1) - (if wall then -1 else 0)).toNat = gc n wall := by
    unfold gc
    cases wall <;> simp <;> omega
  rw [this]
theorem ints_map : ∀ ws : List Int, ints? (ws.map D.int) = some ws
  | [] => rfl
  | w :: ws => by
    show (ints? (ws.map D.int)).map (w :: ·) = _
    rw [ints_map ws]; rfl
theorem max_map {f : Int → List Int → Int} {w : Int} {ws : List Int} : dMaxT f [.tup ((w :: ws).map D.int)] = some (.int (f w ws)) := by
  have h := ints_map (w :: ws)
  show (match ints? ((w :: ws).map D.int) with | some (n :: ns) => some (D.int (f n ns)) | _ => none) = _
  rw [h]
theorem dTup_lst (xs : List D) : c1 dTuple [.lst xs] = some (.tup xs) := rfl
theorem e_Row {W V : D} {ws : List Int} {xs : List D} {vs : List Rat} {n s a m : Nat} {wall : Bool} (hW : SeqD W (ws.map .int)) (hV : SeqD V xs) (hx : TL n xs vs) (hn : n ≤ 8000) (hl : ws.length = vs.length) (h1 : (if wall then 1 else 2) ≤ ws.length) (h2 : ws.length ≤ 40) (hw : ∀ w ∈ ws, 1 ≤ w ∧ w ≤ 9) (ft : Fit s a m vs) (st : List D) :
    m_Row___init__ [W, V, .bl wall] st = .ok (rowD ws vs wall) st := by
  have cb := e_check_balls hW hV hx hl h1 h2 hw st
  obtain ⟨M, hM, hm, hv⟩ := ft.ex
  have hlen : 1 ≤ ws.length := by cases wall <;> simp at h1 <;> omega
  have tW := hW.tup
  have lW := hW.len
  rw [List.length_map] at lW
  obtain ⟨k1, k2, k3, k4, k5, k6, k7, k8⟩ := ok_row
  obtain ⟨x', y', lp⟩ := row_loop hM hm ft.ok (some (.obj c_Row [("weights", .tup (ws.map .int)), ("speeds", .tup (vs.map rD)), ("wall", .bl wall), ("pairs", .tup (rangeD (if wall then -1 else 0) (gc ws.length wall))), ("gap_count", .int (gc ws.length wall : Nat)), ("is_like", .bl (likeB ws))])) (some W) (some V) (some (.bl wall)) (some (.int (if wall then -1 else 0))) st ws vs 0 0 0 none none hw hv (by omega) hl (IM.zero M) (IM.zero M) (by simpa using Bd.zero) (by simpa using Bd.zero)
  have r0 : rD 0 = .tup [.int 0, .int 1] := rfl
  rw [Rat.zero_add, Rat.zero_add, r0] at lp
  unfold m_Row___init__
  rw [initM_eq (by simp)]
  unfold b_Row___init__
  have s1 : mDrop (mCall m_check_balls (mCons (mVar 1) (mCons (mVar 2) (mCons (mVar 3) (mNil))))) (some (.obj c_Row []) :: mkEnv 8 [W, V, .bl wall]) st = .nx (some (.obj c_Row []) :: mkEnv 8 [W, V, .bl wall]) st := by
    simp only [ev, bind_ok, mkEnv, get?, ret_ok, cb]
  show initR (mSeq _ _ (some (.obj c_Row []) :: mkEnv 8 [W, V, .bl wall]) st) = _
  rw [mSeq_of s1]
  rw [mSeq_of (mFldS_of (st1 := st) (d := .tup (ws.map .int)) [] (by simp only [ev, bind_ok, mkEnv, get?, ret_ok, tW]) k1 rfl (by decide) (by decide) rfl)]
  have lc : L_Row___init___1 (some (.obj c_Row [("weights", .tup (ws.map .int))]) :: mkEnv 8 [W, V, .bl wall]) st = .ok (.lst (vs.map rD)) st := by
    unfold L_Row___init___1
    refine mLC_of (mItems_of (me := mVar 2) (x := V) (st1 := st) (by simp only [ev, mkEnv, get?]) (hV.items st)) (lc_ratio hn _ st hx (by simp [mkEnv, wipeE])) (by rw [List.length_map]; omega)
  rw [mSeq_of (mFldS_of (st1 := st) (d := .tup (vs.map rD)) ["weights"] (by simp only [ev, bind_ok, List.nil_append, lc, ret_ok, dTup_lst]) k2 rfl (by decide) (by decide +kernel) rfl)]
  rw [mSeq_of (mFldS_of (st1 := st) (d := .bl wall) ["weights", "speeds"] (by simp only [ev, mkEnv, get?]) k3 rfl (by decide) (by decide +kernel) rfl)]
  rw [mSeq_of (mSet_of (i := 4) (st := st) (d := .int (if wall then -1 else 0)) (s := st) (by cases wall <;> simp only [ev, bind_ok, mkEnv, get?, ret_ok, if_true, if_false, Bool.false_eq_true])) ]
  have tr := tupRg_nat (wall := wall) (n := ws.length) (by omega) hlen
  simp only [mkEnv, List.cons_append, List.nil_append, List.set_cons_succ, List.set_cons_zero]
  rw [mSeq_of (mFldS_of (st1 := st) (d := .tup (rangeD (if wall then -1 else 0) (gc ws.length wall))) ["weights", "speeds", "wall"] (by simp only [ev, bind_ok, get?, ret_ok, lW, tr]) k4 rfl (by decide) (by decide +kernel) rfl)]
  simp only [List.cons_append, List.nil_append]
  have hp : dFld okF "pairs" (.obj c_Row [("weights", .tup (ws.map .int)), ("speeds", .tup (vs.map rD)), ("wall", .bl wall), ("pairs", .tup (rangeD (if wall then -1 else 0) (gc ws.length wall)))]) = some (.tup (rangeD (if wall then -1 else 0) (gc ws.length wall))) := dFld_of k4 (by rw [DL.look_ne (by decide +kernel), DL.look_ne (by decide +kernel), DL.look_ne (by decide +kernel), DL.look_same])
  have rl : ∀ lo n, (rangeD lo n).length = n := rangeD_len
  rw [mSeq_of (mFldS_of (st1 := st) (d := .int (gc ws.length wall : Nat)) ["weights", "speeds", "wall", "pairs"] (by simp only [ev, bind_ok, get?, ret_ok, hp, rl]) k5 rfl (by decide) (by decide +kernel) rfl)]
  simp only [List.cons_append, List.nil_append]
  have lk : (mOp dEq (mCall1 (dMaxT PySem.W.maxOf) (mCons (mFld okF "weights" (mVar 0)) (mNil))) (mCall1 (dMaxT PySem.W.minOf) (mCons (mFld okF "weights" (mVar 0)) (mNil)))) (some (.obj c_Row [("weights", .tup (ws.map .int)), ("speeds", .tup (vs.map rD)), ("wall", .bl wall), ("pairs", .tup (rangeD (if wall then -1 else 0) (gc ws.length wall))), ("gap_count", .int (gc ws.length wall : Nat))]) :: [some W, some V, some (.bl wall), some (.int (if wall then -1 else 0)), none, none, none, none]) st = .ok (.bl (likeB ws)) st := by
    have hd : ∀ fs, dFld okF "weights" (.obj c_Row (("weights", .tup (ws.map .int)) :: fs)) = some (.tup (ws.map .int)) := fun fs => dFld_of k1 (DL.look_same _ _ _)
    cases ws with
    | nil => simp at hlen
    | cons w ws =>
      simp only [ev, bind_ok, get?, ret_ok, hd, max_map]
      rfl
  rw [mSeq_of (mFldS_of ["weights", "speeds", "wall", "pairs", "gap_count"] lk k6 rfl (by decide) (by decide +kernel) rfl)]
  simp only [List.cons_append, List.nil_append]
  rw [mSeq_of (mSet_of (i := 5) (st := st) (d := .tup [.int 0, .int 1]) (s := st) (by simp only [ev, bind_ok]))]
  rw [mSeq_of (mSet_of (i := 6) (st := st) (d := .tup [.int 0, .int 1]) (s := st) (by simp only [ev, bind_ok]))]
  simp only [List.set_cons_succ, List.set_cons_zero]
  have hd1 : ∀ fs, dFld okF "weights" (.obj c_Row (("weights", .tup (ws.map .int)) :: fs)) = some (.tup (ws.map .int)) := fun fs => dFld_of k1 (DL.look_same _ _ _)
  have hd2 : ∀ x fs, dFld okF "speeds" (.obj c_Row (("weights", x) :: ("speeds", .tup (vs.map rD)) :: fs)) = some (.tup (vs.map rD)) := fun x fs => dFld_of k2 (by rw [DL.look_ne (by decide +kernel), DL.look_same])
  have fr := mFor_of (st := st) (mi := mThenA (mCons (mFld okF "weights" (mVar 0)) (mCons (mFld okF "speeds" (mVar 0)) (mNil))) zipA?) (mThenA_of (xs := [.tup (ws.map .int), .tup (vs.map rD)]) (st1 := st) (by simp only [ev, bind_ok, get?, ret_ok, hd1, hd2]) rfl) lp
  have fr : F_Row___init___2 _ st = _ := fr
  rw [mSeq_of fr]
  rw [mSeq_of (mFldS_of (st1 := st) (d := rD (S1 ws vs)) ["weights", "speeds", "wall", "pairs", "gap_count", "is_like"] (by simp only [ev, get?]) k7 rfl (by decide) (by decide +kernel) rfl)]
  simp only [List.cons_append, List.nil_append]
  rw [mFldS_of (st1 := st) (d := rD (S2 ws vs)) ["weights", "speeds", "wall", "pairs", "gap_count", "is_like", "first_sum"] (by simp only [ev, get?]) k8 rfl (by decide) (by decide +kernel) rfl]
  rfl
end My

namespace My
open PySem PySem.Spec PyProof.Rows L2 DL
/-! equality of data -/
def Sh (k : Nat) (d : D) : Prop := (toP d).canLay0 = true ∧ (toP d).depth ≤ k
def ShA (k : Nat) (ds : List D) : Prop := PyData.canLayAll0 (toPs ds) = true ∧ PyData.depthAll (toPs ds) ≤ k
theorem ShA.nil {k : Nat} : ShA k [] := ⟨rfl, Nat.zero_le _⟩
theorem ShA.cons {k : Nat} {d : D} {ds : List D} (h : Sh k d) (r : ShA k ds) : ShA k (d :: ds) := by
  obtain ⟨a, b⟩ := h
  obtain ⟨c, e⟩ := r
  constructor
  · show PyData.canLayAll0 (toP d :: toPs ds) = true
    unfold PyData.canLayAll0
    rw [a, c]; rfl
  · show PyData.depthAll (toP d :: toPs ds) ≤ k
    unfold PyData.depthAll
    omega
theorem ShA.map {α : Type} {k : Nat} {f : α → D} (h : ∀ a, Sh k (f a)) : ∀ l : List α, ShA k (l.map f)
  | [] => .nil
  | a :: l => .cons (h a) (ShA.map h l)
theorem Sh.tup {k : Nat} {ds : List D} (h : ShA k ds) : Sh (k + 1) (.tup ds) := by
  obtain ⟨a, b⟩ := h
  refine ⟨?_, ?_⟩
  · show PyData.canLay0 (.tuple (toPs ds)) = true
    unfold PyData.canLay0; exact a
  · show PyData.depth (.tuple (toPs ds)) ≤ k + 1
    unfold PyData.depth; omega
theorem Sh.lst {k : Nat} {ds : List D} (h : ShA k ds) : Sh (k + 1) (.lst ds) := by
  obtain ⟨a, b⟩ := h
  refine ⟨?_, ?_⟩
  · show PyData.canLay0 (.list (toPs ds)) = true
    unfold PyData.canLay0; exact a
  · show PyData.depth (.list (toPs ds)) ≤ k + 1
    unfold PyData.depth; omega
theorem Sh.int (k : Nat) (i : Int) : Sh k (.int i) := ⟨rfl, Nat.zero_le _⟩
theorem Sh.bl (k : Nat) (b : Bool) : Sh k (.bl b) := ⟨rfl, Nat.zero_le _⟩
theorem Sh.non (k : Nat) : Sh k .non := ⟨rfl, Nat.zero_le _⟩
theorem Sh.str (k : Nat) {x : Str} (h : (toP (.str x)).canLay0 = true) : Sh k (.str x) := ⟨h, Nat.zero_le _⟩
theorem Sh.mono {k l : Nat} {d : D} (h : Sh k d) (hk : k ≤ l) : Sh l d := ⟨h.1, Nat.le_trans h.2 hk⟩
def eqv (x y : D) : Bool := PyData.eqv (toP x) (toP y)
def eqvL (xs ys : List D) : Bool := PyData.eqvAll (toPs xs) (toPs ys)
theorem Sh.shaped {k : Nat} {d : D} (h : Sh k d) (hk : k ≤ 64) : SeqAt.shaped (toP d) = true := by
  unfold SeqAt.shaped
  rw [h.1, decide_eq_true (Nat.le_trans h.2 hk)]
  rfl
theorem eqD_of {k l : Nat} {x y : D} (h : Sh k x) (g : Sh l y) (hk : k ≤ 64) (hl : l ≤ 64) : eqD x y = some (eqv x y) := by
  unfold eqD
  rw [if_pos ⟨h.shaped hk, g.shaped hl⟩]
  rfl
theorem dEq_of {k l : Nat} {x y : D} (h : Sh k x) (g : Sh l y) (hk : k ≤ 64 := by decide) (hl : l ≤ 64 := by decide) : dEq x y = some (.bl (eqv x y)) := by
  unfold dEq; rw [eqD_of h g hk hl]; rfl
theorem dNe_of {k l : Nat} {x y : D} (h : Sh k x) (g : Sh l y) (hk : k ≤ 64 := by decide) (hl : l ≤ 64 := by decide) : dNe x y = some (.bl (!eqv x y)) := by
  unfold dNe; rw [eqD_of h g hk hl]; rfl
theorem eqv_tup (xs ys : List D) : eqv (.tup xs) (.tup ys) = eqvL xs ys := by
  show PyData.eqv (.tuple (toPs xs)) (.tuple (toPs ys)) = _
  unfold PyData.eqv; rfl
theorem eqv_lst (xs ys : List D) : eqv (.lst xs) (.lst ys) = eqvL xs ys := by
  show PyData.eqv (.list (toPs xs)) (.list (toPs ys)) = _
  unfold PyData.eqv; rfl
theorem eqvL_cons (x y : D) (xs ys : List D) : eqvL (x :: xs) (y :: ys) = (eqv x y && eqvL xs ys) := by
  show PyData.eqvAll (toP x :: toPs xs) (toP y :: toPs ys) = _
  unfold PyData.eqvAll; rfl
theorem eqvL_nil : eqvL [] [] = true := rfl
theorem eqvL_nc (x : D) (xs : List D) : eqvL [] (x :: xs) = false := rfl
theorem eqvL_cn (x : D) (xs : List D) : eqvL (x :: xs) [] = false := rfl
theorem eqv_int (i j : Int) : eqv (.int i) (.int j) = decide (i = j) := Bool.beq_eq_decide_eq i j
theorem eqv_bl (a b : Bool) : eqv (.bl a) (.bl b) = decide (a = b) := by cases a <;> cases b <;> rfl
theorem eqv_str (x y : Str) : eqv (.str x) (.str y) = (x == y) := rfl
theorem eqv_rD (p q : Rat) : eqv (rD p) (rD q) = decide (p = q) := by
  unfold rD
  rw [eqv_tup, eqvL_cons, eqvL_cons, eqvL_nil, eqv_int, eqv_int, Bool.and_true]
  rw [← Bool.decide_and, decide_eq_decide]
  exact ⟨fun ⟨a, b⟩ => Rat.ext a (by omega), fun h => by rw [h]; exact ⟨rfl, rfl⟩⟩
theorem eqvL_map {α : Type} [DecidableEq α] {f : α → D} (h : ∀ a b, eqv (f a) (f b) = decide (a = b)) : ∀ xs ys : List α, eqvL (xs.map f) (ys.map f) = decide (xs = ys)
  | [], [] => rfl
  | [], _ :: _ => by rw [List.map_nil, List.map_cons, eqvL_nc]; simp
  | _ :: _, [] => by rw [List.map_nil, List.map_cons, eqvL_cn]; simp
  | x :: xs, y :: ys => by
    rw [List.map_cons, List.map_cons, eqvL_cons, h, eqvL_map h xs ys, ← Bool.decide_and, decide_eq_decide]
    simp
theorem eqvL_rat (xs ys : List Rat) : eqvL (xs.map rD) (ys.map rD) = decide (xs = ys) := eqvL_map eqv_rD xs ys
theorem eqvL_ints (xs ys : List Int) : eqvL (xs.map .int) (ys.map .int) = decide (xs = ys) := eqvL_map eqv_int xs ys
theorem sh_rD (q : Rat) : Sh 1 (rD q) := .tup (.cons (.int 0 _) (.cons (.int 0 _) .nil))
theorem sh_rats (vs : List Rat) : Sh 2 (.tup (vs.map rD)) := .tup (.map sh_rD vs)
theorem sh_ints (ws : List Int) : Sh 1 (.tup (ws.map .int)) := .tup (.map (.int 0) ws)
/-! rows: fields and == -/
theorem f_weights (ws : List Int) (vs : List Rat) (wall : Bool) : dFld okF "weights" (rowD ws vs wall) = some (.tup (ws.map .int)) := dFld_of ok_row.1 (DL.look_same _ _ _)
theorem f_speeds (ws : List Int) (vs : List Rat) (wall : Bool) : dFld okF "speeds" (rowD ws vs wall) = some (.tup (vs.map rD)) := dFld_of ok_row.2.1 (by unfold rowF; rw [DL.look_ne (by decide +kernel), DL.look_same])
theorem f_wall (ws : List Int) (vs : List Rat) (wall : Bool) : dFld okF "wall" (rowD ws vs wall) = some (.bl wall) := dFld_of ok_row.2.2.1 (by unfold rowF; rw [DL.look_ne (by decide +kernel), DL.look_ne (by decide +kernel), DL.look_same])
theorem f_pairs (ws : List Int) (vs : List Rat) (wall : Bool) : dFld okF "pairs" (rowD ws vs wall) = some (.tup (rangeD (if wall then -1 else 0) (gc ws.length wall))) := dFld_of ok_row.2.2.2.1 (by unfold rowF; rw [DL.look_ne (by decide +kernel), DL.look_ne (by decide +kernel), DL.look_ne (by decide +kernel), DL.look_same])
theorem f_gap_count (ws : List Int) (vs : List Rat) (wall : Bool) : dFld okF "gap_count" (rowD ws vs wall) = some (.int (gc ws.length wall : Nat)) := dFld_of ok_row.2.2.2.2.1 (by unfold rowF; rw [DL.look_ne (by decide +kernel), DL.look_ne (by decide +kernel), DL.look_ne (by decide +kernel), DL.look_ne (by decide +kernel), DL.look_same])
theorem f_first_sum (ws : List Int) (vs : List Rat) (wall : Bool) : dFld okF "first_sum" (rowD ws vs wall) = some (rD (S1 ws vs)) := dFld_of ok_row.2.2.2.2.2.2.1 (by unfold rowF; rw [DL.look_ne (by decide +kernel), DL.look_ne (by decide +kernel), DL.look_ne (by decide +kernel), DL.look_ne (by decide +kernel), DL.look_ne (by decide +kernel), DL.look_ne (by decide +kernel), DL.look_same])
theorem f_second_sum (ws : List Int) (vs : List Rat) (wall : Bool) : dFld okF "second_sum" (rowD ws vs wall) = some (rD (S2 ws vs)) := dFld_of ok_row.2.2.2.2.2.2.2 (by unfold rowF; rw [DL.look_ne (by decide +kernel), DL.look_ne (by decide +kernel), DL.look_ne (by decide +kernel), DL.look_ne (by decide +kernel), DL.look_ne (by decide +kernel), DL.look_ne (by decide +kernel), DL.look_ne (by decide +kernel), DL.look_same])
end My

namespace My
open PySem PySem.Spec PyProof.Rows L2 DL
/-! rows that are refused -/
theorem dEq_str {x y : Str} (hx : (toP (.str x)).canLay0 = true) (hy : (toP (.str y)).canLay0 = true) : dEq (.str x) (.str y) = some (.bl (x == y)) := by
  rw [dEq_of (.str 0 hx) (.str 0 hy), eqv_str]
/-- what is no ratio -/
def NoRat (d : D) : Prop := ∀ st, m_is_ratio [d] st = .ok (.bl false) st
theorem nr_non : NoRat .non := fun st => by
  have hw : ∀ st, m_is_whole [.non] st = .ok (.bl false) st := fun st => by
    unfold m_is_whole b_is_whole
    simp [ev1, ev2, ev3, ev4, ev5, bind_ok, mkEnv, get?, ret_ok, dIsi, isiD, tyN, subTy]
  unfold m_is_ratio b_is_ratio
  simp [ev1, ev2, ev3, ev4, ev5, bind_ok, mkEnv, get?, ret_ok, dIsi, isiD, tyN, subTy, hw]
theorem nr_bl (b : Bool) : NoRat (.bl b) := fun st => by
  have hw : ∀ st, m_is_whole [.bl b] st = .ok (.bl false) st := fun st => by
    unfold m_is_whole b_is_whole
    simp [ev1, ev2, ev3, ev4, ev5, bind_ok, mkEnv, get?, ret_ok, dIsi, isiD, tyN, subTy]
  unfold m_is_ratio b_is_ratio
  simp [ev1, ev2, ev3, ev4, ev5, bind_ok, mkEnv, get?, ret_ok, dIsi, isiD, tyN, subTy, hw]
theorem nr_str (x : Str) : NoRat (.str x) := fun st => by
  have hw : ∀ st, m_is_whole [.str x] st = .ok (.bl false) st := fun st => by
    unfold m_is_whole b_is_whole
    simp [ev1, ev2, ev3, ev4, ev5, bind_ok, mkEnv, get?, ret_ok, dIsi, isiD, tyN, subTy]
  unfold m_is_ratio b_is_ratio
  simp [ev1, ev2, ev3, ev4, ev5, bind_ok, mkEnv, get?, ret_ok, dIsi, isiD, tyN, subTy, hw]
theorem nr_lst (x : List D) : NoRat (.lst x) := fun st => by
  have hw : ∀ st, m_is_whole [.lst x] st = .ok (.bl false) st := fun st => by
    unfold m_is_whole b_is_whole
    simp [ev1, ev2, ev3, ev4, ev5, bind_ok, mkEnv, get?, ret_ok, dIsi, isiD, tyN, subTy]
  unfold m_is_ratio b_is_ratio
  simp [ev1, ev2, ev3, ev4, ev5, bind_ok, mkEnv, get?, ret_ok, dIsi, isiD, tyN, subTy, hw]
theorem nr_two (a b : Int) (hb : b ≤ 0) : NoRat (.tup [.int a, .int b]) := fun st => by
  have hb' : ¬ (0 < b) := by omega
  unfold m_is_ratio b_is_ratio
  simp [ev1, ev2, ev3, ev4, ev5, bind_ok, mkEnv, get?, ret_ok, dIsi, isiD, tyN, subTy, e_is_whole_int, hb']
theorem nr_one (d : D) : NoRat (.tup [d]) := fun st => by
  unfold m_is_ratio b_is_ratio
  simp [ev1, ev2, ev3, ev4, ev5, bind_ok, mkEnv, get?, ret_ok, dIsi, isiD, tyN, subTy]
theorem e_ratio_bad {d : D} (h : NoRat d) (st : List D) : m_ratio_of [d] st = .err ⟨c_BadRatio, none⟩ st := by
  have h := h st
  unfold m_ratio_of b_ratio_of
  simp only [ev, bind_ok, mkEnv, get?, ret_ok, h, Bool.not_false, if_true]
def exRow (j : Nat) (x : Str) : Ex := ⟨c_BadRow, some [("what", .str x), ("index", .int (j : Int))]⟩
theorem cb_bad {W V : D} {ws : List Int} {xs : List D} {e2 e3 : Option D} {j : Nat} (hW : SeqD W (ws.map .int)) (hV : SeqD V xs) (hlx : xs.length = ws.length) (hj : j < ws.length) (good : ∀ (i : Nat) (h : i < xs.length), i < j → ∃ n v, Tells n xs[i] v) (bad : NoRat (xs[j]'(by omega))) (hw : ∀ w ∈ ws, 1 ≤ w ∧ w ≤ 9) (st : List D) :
    ∀ (d k : Nat) (x : Option D), k + d = j → ∃ e, forD (gNm 4) bd_check_balls_1 (rangeD (k : Nat) (ws.length - k)) [some W, some V, e2, e3, x] st = .er (exRow j "speed") e st := by
  intro d
  induction d with
  | zero =>
    intro k x hk
    have hk : k = j := by omega
    subst hk
    obtain ⟨r, hr⟩ : ∃ r, ws.length - k = r + 1 := ⟨ws.length - k - 1, by omega⟩
    have a1 := hW.ix (i := k) (by rw [List.length_map]; omega) st
    have a2 := hV.ix (i := k) (by omega) st
    rw [List.getElem_map] at a1
    have a4 := e_is_whole_int ws[k] st
    obtain ⟨b1, b2⟩ := hw _ (List.getElem_mem hj)
    have a3 := bad st
    refine ⟨[some W, some V, e2, e3, some (.int (k : Int))], ?_⟩
    rw [hr, rangeD_cons, forD_cons]
    have step : bd_check_balls_1 [some W, some V, e2, e3, some (.int (k : Int))] st = .er (exRow k "speed") [some W, some V, e2, e3, some (.int (k : Int))] st := by
      unfold bd_check_balls_1
      simp only [ev, bind_ok, mkEnv, get?, ret_ok, a1, a2, a3, a4, chain_leC, b1, b2, decide_true, Bool.and_self, Bool.not_true, Bool.not_false, Bool.false_eq_true, if_true, if_false]
      rfl
    simp only [gNm, List.set_cons_zero, List.set_cons_succ, step]
  | succ d ih =>
    intro k x hk
    obtain ⟨r, hr⟩ : ∃ r, ws.length - k = r + 1 := ⟨ws.length - k - 1, by omega⟩
    have hk' : k < ws.length := by omega
    have a1 := hW.ix (i := k) (by rw [List.length_map]; omega) st
    have a2 := hV.ix (i := k) (by omega) st
    rw [List.getElem_map] at a1
    have a4 := e_is_whole_int ws[k] st
    obtain ⟨b1, b2⟩ := hw _ (List.getElem_mem hk')
    obtain ⟨n, v, hv⟩ := good k (by omega) (by omega)
    have a3 := e_is_ratio hv st
    obtain ⟨e, he⟩ := ih (k + 1) (some (.int (k : Int))) (by omega)
    refine ⟨e, ?_⟩
    rw [hr, rangeD_cons, forD_cons]
    have step : bd_check_balls_1 [some W, some V, e2, e3, some (.int (k : Int))] st = .nx [some W, some V, e2, e3, some (.int (k : Int))] st := by
      unfold bd_check_balls_1
      simp only [ev, bind_ok, mkEnv, get?, ret_ok, a1, a2, a3, a4, chain_leC, b1, b2, decide_true, Bool.and_self, Bool.not_true, Bool.not_false, Bool.false_eq_true, if_true, if_false]
    have hr2 : ws.length - (k + 1) = r := by omega
    rw [hr2] at he
    simp only [gNm, List.set_cons_zero, List.set_cons_succ, step]
    exact he
theorem e_check_bad {W V : D} {ws : List Int} {xs : List D} {j : Nat} {wall : Bool} (hW : SeqD W (ws.map .int)) (hV : SeqD V xs) (hlx : xs.length = ws.length) (hj : j < ws.length) (good : ∀ (i : Nat) (h : i < xs.length), i < j → ∃ n v, Tells n xs[i] v) (bad : NoRat (xs[j]'(by omega))) (h1 : (if wall then 1 else 2) ≤ ws.length) (h2 : ws.length ≤ 40) (hw : ∀ w ∈ ws, 1 ≤ w ∧ w ≤ 9) (st : List D) :
    m_check_balls [W, V, .bl wall] st = .err (exRow j "speed") st := by
  have lw := hW.len
  have lv := hV.len
  have iw := hW.isi
  have iv := hV.isi
  rw [List.length_map] at lw
  have rg := rng1_nat (n := ws.length) (by omega) st
  have hff : ∀ e2 e3, ∃ e, F_check_balls_1 [some W, some V, e2, e3, none] st = .er (exRow j "speed") e st := fun e2 e3 => by
    obtain ⟨e, hf⟩ := cb_bad (e2 := e2) (e3 := e3) hW hV hlx hj good bad hw st j 0 none (by omega)
    exact ⟨e, mFor_of (mThenA_of (xs := [.int (ws.length : Int)]) (st1 := st) (by simp only [ev, bind_ok, get?, ret_ok, lw]) rg) hf⟩
  have hb : dIsi [.bl wall, .ty "bool"] = some (.bl true) := rfl
  have h2' : (ws.length : Int) ≤ 40 := by omega
  unfold m_check_balls b_check_balls
  cases wall
  · have h1' : (2 : Int) ≤ ws.length := by simp at h1; omega
    obtain ⟨x, hf⟩ := hff (some (.bl false)) (some (.int 2))
    simp only [ev, bind_ok, mkEnv, get?, ret_ok, hb, lw, lv, iw, iv, hlx, chain_leC, h1', h2', decide_true, Bool.and_self, if_true, if_false, Bool.not_true, Bool.not_false, Bool.false_eq_true, List.set_cons_zero, List.set_cons_succ, hf]
  · have h1' : (1 : Int) ≤ ws.length := by simp at h1; omega
    obtain ⟨x, hf⟩ := hff (some (.bl true)) (some (.int 1))
    simp only [ev, bind_ok, mkEnv, get?, ret_ok, hb, lw, lv, iw, iv, hlx, chain_leC, h1', h2', decide_true, Bool.and_self, if_true, if_false, Bool.not_true, Bool.not_false, Bool.false_eq_true, List.set_cons_zero, List.set_cons_succ, hf]
theorem e_check_len {W V : D} {ws : List Int} {xs : List D} {wall : Bool} (hW : SeqD W (ws.map .int)) (hV : SeqD V xs) (hlx : xs.length ≠ ws.length) (h1 : (if wall then 1 else 2) ≤ ws.length) (h2 : ws.length ≤ 40) (st : List D) :
    m_check_balls [W, V, .bl wall] st = .err (exRow 0 "length") st := by
  have lw := hW.len
  have lv := hV.len
  have iw := hW.isi
  have iv := hV.isi
  rw [List.length_map] at lw
  have hb : dIsi [.bl wall, .ty "bool"] = some (.bl true) := rfl
  have h2' : (ws.length : Int) ≤ 40 := by omega
  have h3 : decide ((xs.length : Int) = (ws.length : Int)) = false := decide_eq_false (by omega)
  unfold m_check_balls b_check_balls
  cases wall
  · have h1' : (2 : Int) ≤ ws.length := by simp at h1; omega
    simp only [ev, bind_ok, mkEnv, get?, ret_ok, hb, lw, lv, iw, iv, h3, chain_leC, h1', h2', decide_true, Bool.and_self, if_true, if_false, Bool.not_true, Bool.not_false, Bool.false_eq_true, List.set_cons_zero, List.set_cons_succ]
    rfl
  · have h1' : (1 : Int) ≤ ws.length := by simp at h1; omega
    simp only [ev, bind_ok, mkEnv, get?, ret_ok, hb, lw, lv, iw, iv, h3, chain_leC, h1', h2', decide_true, Bool.and_self, if_true, if_false, Bool.not_true, Bool.not_false, Bool.false_eq_true, List.set_cons_zero, List.set_cons_succ]
    rfl
theorem row_err {W V B : D} {x : Ex} {st : List D} (h : m_check_balls [W, V, B] st = .err x st) : m_Row___init__ [W, V, B] st = .err x st := by
  unfold m_Row___init__
  rw [initM_eq (by simp)]
  unfold b_Row___init__
  have s1 : mDrop (mCall m_check_balls (mCons (mVar 1) (mCons (mVar 2) (mCons (mVar 3) (mNil))))) (some (.obj c_Row []) :: mkEnv 8 [W, V, B]) st = .er x (some (.obj c_Row []) :: mkEnv 8 [W, V, B]) st := by
    simp only [ev, bind_ok, bind_err, mkEnv, get?, ret_ok, h]
  show initR (mSeq _ _ (some (.obj c_Row []) :: mkEnv 8 [W, V, B]) st) = _
  unfold mSeq
  rw [s1]
  rfl
theorem methR_row {ws : List Int} {vs : List Rat} {wall : Bool} {name : Str} {f : List D → M D} {ma : List D → Res (List D)} {st : List D} (h : ∀ n ∈ (["weights", "speeds", "wall", "pairs", "gap_count", "is_like", "first_sum", "second_sum"] : List Str), name ≠ n) :
    methR c_Row name f ma (rowD ws vs wall) st = (ma st).bind fun ds => f (rowD ws vs wall :: ds) := by
  have hl : (rowF ws vs wall).lookup name = none := by
    unfold rowF
    rw [DL.look_ne (h _ (by simp)), DL.look_ne (h _ (by simp)), DL.look_ne (h _ (by simp)), DL.look_ne (h _ (by simp)), DL.look_ne (h _ (by simp)), DL.look_ne (h _ (by simp)), DL.look_ne (h _ (by simp)), DL.look_ne (h _ (by simp))]
    rfl
  show (if c_Row = c_Row ∧ (rowF ws vs wall).lookup name = none then _ else _) = _
  rw [if_pos ⟨rfl, hl⟩]
end My

namespace My
open PySem PySem.Spec PyProof.Rows L2 DL
/-! stepping through a body, statement by statement, without writing the slots -/
def seqK (o : Out) (b : MS) : Out := match o with
  | .nx e s => b e s
  | o => o
theorem mSeq_k (a b : MS) (env : Env') (st : List D) : mSeq a b env st = seqK (a env st) b := by
  unfold mSeq seqK
  cases a env st <;> rfl
theorem seqK_nx (e : Env') (s : List D) (b : MS) : seqK (.nx e s) b = b e s := rfl
theorem seqK_rt (d : D) (s : List D) (b : MS) : seqK (.rt d s) b = .rt d s := rfl
theorem seqK_er (x : Ex) (e : Env') (s : List D) (b : MS) : seqK (.er x e s) b = .er x e s := rfl
/-- the law's end -/
def RetT (o : Out) : Prop := ∃ s, o = .rt (.bl true) s
theorem RetT.mk (s : List D) : RetT (.rt (.bl true) s) := ⟨s, rfl⟩
/-- a function's end, the state left open -/
def Ends (o : Out) (P : D → List D → Prop) : Prop := ∃ d s, o = .rt d s ∧ P d s
end My

namespace My
open PySem PySem.Spec PyProof.Rows L2 DL
/-! k05: gaps, moments, balls -/
theorem cmp_pos {q : Rat} (h : 0 < q) : cmpR q ((0 : Int) : Rat) = 1 := by
  unfold cmpR
  have e : ((0 : Int) : Rat) = 0 := rfl
  rw [e, if_neg (by grind), if_pos h]
theorem cmp_neg {q : Rat} (h : q < 0) : cmpR q ((0 : Int) : Rat) = -1 := by
  unfold cmpR
  have e : ((0 : Int) : Rat) = 0 := rfl
  rw [e, if_pos h]
theorem cmp_le {q : Rat} (h : q ≤ 0) : cmpR q ((0 : Int) : Rat) ≤ 0 := by
  unfold cmpR
  have e : ((0 : Int) : Rat) = 0 := rfl
  rw [e]
  by_cases h1 : q < 0
  · rw [if_pos h1]; decide
  · rw [if_neg h1, if_neg (by grind)]; decide
theorem cmp_ge {q : Rat} (h : 0 ≤ q) : 0 ≤ cmpR q ((0 : Int) : Rat) := by
  unfold cmpR
  have e : ((0 : Int) : Rat) = 0 := rfl
  rw [e, if_neg (by grind)]
  split <;> decide
theorem tells0 : Tells 1 (.int 0) ((0 : Int) : Rat) := .one 0 (by decide) (by decide)
def NoGap (d : D) : Prop := NoRat d ∨ ∃ n q, n ≤ 6000 ∧ Tells n d q ∧ q ≤ 0
def NoMom (d : D) : Prop := NoRat d ∨ ∃ n q, n ≤ 6000 ∧ Tells n d q ∧ q < 0
theorem NoMom.gap {d : D} : NoMom d → NoGap d
  | .inl h => .inl h
  | .inr ⟨n, q, a, b, c⟩ => .inr ⟨n, q, a, b, by grind⟩
def exGaps (w : Str) : Ex := ⟨c_BadGaps, some [("what", .str w)]⟩
theorem raise1 (c : Nat) (f : Str) (d : D) (env : Env') (st : List D) : raiseR c [f] env (.ok [d] st) = .er ⟨c, some [(f, d)]⟩ env st := rfl
theorem gap_step {n : Nat} {d : D} {q : Rat} {a b : Option D} {l : List D} (h : Tells n d q) (hn : n ≤ 6000) (hq : 0 < q) (hl : l.length < 100000) (st : List D) : bd_check_gaps_1 [a, b, some (.lst l), some d] st = .nx [a, b, some (.lst (l ++ [rD q])), some d] st := by
  have h1 := e_is_ratio h st
  have h2 := e_compare h tells0 (by omega) st
  rw [cmp_pos hq] at h2
  have h3 := e_ratio_of h (by omega) st
  have h4 : decide ((1 : Int) ≤ 0) = false := by decide
  unfold bd_check_gaps_1
  simp only [ev, bind_ok, bind_err, get?, ret_ok, List.set_cons_zero, List.set_cons_succ, if_true, if_false, ite_true, ite_false, Bool.false_eq_true, Bool.not_true, Bool.not_false, Bool.and_true, Bool.true_and, Bool.and_false, Bool.false_and, decide_true, decide_false, not_true_eq_false, not_false_eq_true, h1, h2, h3, h4, pushR_ok _ _ _ _ _ hl]
theorem gap_bad {d : D} {a b c : Option D} (h : NoGap d) (st : List D) : bd_check_gaps_1 [a, b, c, some d] st = .er (exGaps "gap") [a, b, c, some d] st := by
  unfold bd_check_gaps_1 exGaps
  rcases h with h | ⟨n, q, hn, ht, hq⟩
  · have h1 := h st
    simp only [ev, bind_ok, bind_err, get?, ret_ok, List.set_cons_zero, List.set_cons_succ, if_true, if_false, ite_true, ite_false, Bool.false_eq_true, Bool.not_true, Bool.not_false, Bool.and_true, Bool.true_and, Bool.and_false, Bool.false_and, decide_true, decide_false, not_true_eq_false, not_false_eq_true, h1, raise1]
  · have h1 := e_is_ratio ht st
    have h2 := e_compare ht tells0 (by omega) st
    have h4 : decide (cmpR q ((0 : Int) : Rat) ≤ 0) = true := decide_eq_true (cmp_le hq)
    simp only [ev, bind_ok, bind_err, get?, ret_ok, List.set_cons_zero, List.set_cons_succ, if_true, if_false, ite_true, ite_false, Bool.false_eq_true, Bool.not_true, Bool.not_false, Bool.and_true, Bool.true_and, Bool.and_false, Bool.false_and, decide_true, decide_false, not_true_eq_false, not_false_eq_true, h1, h2, h4, raise1]
theorem gaps_loop {n : Nat} (hn : n ≤ 6000) {a b : Option D} (st : List D) (r : List D) : ∀ (xs : List D) (qs : List Rat) (l : List D) (x : Option D), TL n xs qs → (∀ q ∈ qs, 0 < q) → l.length + xs.length < 1000 → ∃ y, forD (gNm 3) bd_check_gaps_1 (xs ++ r) [a, b, some (.lst l), x] st = forD (gNm 3) bd_check_gaps_1 r [a, b, some (.lst (l ++ qs.map rD)), y] st
  | _, _, l, x, .nil, _, _ => ⟨x, by simp⟩
  | _, _, l, x, .cons (x := d) (v := q) (xs := xs) (vs := qs) h t, hq, hl => by
    have hl : l.length + (xs.length + 1) < 1000 := hl
    obtain ⟨y, ih⟩ := gaps_loop hn st r xs qs (l ++ [rD q]) (some d) t (fun p hp => hq p (List.mem_cons_of_mem _ hp)) (by rw [List.length_append, List.length_singleton]; omega)
    refine ⟨y, ?_⟩
    have s1 := gap_step (a := a) (b := b) h hn (hq q List.mem_cons_self) (show l.length < 100000 by omega) st
    rw [List.cons_append, forD_cons]
    simp only [gNm, List.set_cons_zero, List.set_cons_succ, s1]
    rw [ih, List.append_assoc]
    rfl
theorem gaps_good {G : D} {xs : List D} {qs : List Rat} {n : Nat} {a : Option D} (hG : SeqD G xs) (ht : TL n xs qs) (hn : n ≤ 6000) (hq : ∀ q ∈ qs, 0 < q) (hl : xs.length < 1000) (st : List D) : ∃ y, F_check_gaps_1 [a, some G, some (.lst []), none] st = .nx [a, some G, some (.lst (qs.map rD)), y] st := by
  obtain ⟨y, h⟩ := gaps_loop (a := a) (b := some G) hn st [] xs qs [] none ht hq (by simpa using hl)
  refine ⟨y, mFor_of (mItems_of (me := mVar 1) (x := G) (st1 := st) (by simp only [ev, bind_ok, bind_err, get?, ret_ok, List.set_cons_zero, List.set_cons_succ, if_true, if_false, ite_true, ite_false, Bool.false_eq_true, Bool.not_true, Bool.not_false, Bool.and_true, Bool.true_and, Bool.and_false, Bool.false_and, decide_true, decide_false, not_true_eq_false, not_false_eq_true]) (hG.items st)) ?_⟩
  rw [List.append_nil] at h
  rw [h]; rfl
theorem gaps_badF {G : D} {xs r : List D} {d : D} {qs : List Rat} {n : Nat} {a : Option D} (hG : SeqD G (xs ++ d :: r)) (ht : TL n xs qs) (hn : n ≤ 6000) (hq : ∀ q ∈ qs, 0 < q) (hl : xs.length < 1000) (hd : NoGap d) (st : List D) : ∃ e, F_check_gaps_1 [a, some G, some (.lst []), none] st = .er (exGaps "gap") e st := by
  obtain ⟨y, h⟩ := gaps_loop (a := a) (b := some G) hn st (d :: r) xs qs [] none ht hq (by simpa using hl)
  refine ⟨[a, some G, some (.lst ([] ++ qs.map rD)), some d], mFor_of (mItems_of (me := mVar 1) (x := G) (st1 := st) (by simp only [ev, bind_ok, bind_err, get?, ret_ok, List.set_cons_zero, List.set_cons_succ, if_true, if_false, ite_true, ite_false, Bool.false_eq_true, Bool.not_true, Bool.not_false, Bool.and_true, Bool.true_and, Bool.and_false, Bool.false_and, decide_true, decide_false, not_true_eq_false, not_false_eq_true]) (hG.items st)) ?_⟩
  rw [h, forD_cons]
  have s1 := gap_bad (a := a) (b := some G) (c := some (.lst ([] ++ qs.map rD))) hd st
  simp only [gNm, List.set_cons_zero, List.set_cons_succ, s1]
section
variable {ws : List Int} {vs : List Rat} {wall : Bool}
theorem e_gaps_ok {G : D} {xs : List D} {qs : List Rat} {n : Nat} (hG : SeqD G xs) (ht : TL n xs qs) (hn : n ≤ 6000) (hq : ∀ q ∈ qs, 0 < q) (hl : xs.length < 1000) (hg : xs.length = gc ws.length wall) (st : List D) : m_check_gaps [rowD ws vs wall, G] st = .ok (.tup (qs.map rD)) st := by
  obtain ⟨y, hF⟩ := gaps_good (a := some (rowD ws vs wall)) hG ht hn hq hl st
  have iw := hG.isi
  have lw := hG.len
  have hg' : decide ((xs.length : Int) = ((gc ws.length wall : Nat) : Int)) = true := decide_eq_true (by omega)
  unfold m_check_gaps b_check_gaps
  simp only [ev, bind_ok, bind_err, get?, ret_ok, List.set_cons_zero, List.set_cons_succ, if_true, if_false, ite_true, ite_false, Bool.false_eq_true, Bool.not_true, Bool.not_false, Bool.and_true, Bool.true_and, Bool.and_false, Bool.false_and, decide_true, decide_false, not_true_eq_false, not_false_eq_true, mkEnv, iw, lw, f_gap_count, hg', show fits? [] st = .ok [] st from rfl, mThenA, hF, dTup_lst]
theorem e_gaps_len {G : D} (h : dIsi [G, .tup [.ty "list", .ty "tuple"]] = some (.bl false) ∨ ∃ xs, SeqD G xs ∧ xs.length ≠ gc ws.length wall) (st : List D) : m_check_gaps [rowD ws vs wall, G] st = .err (exGaps "length") st := by
  unfold m_check_gaps b_check_gaps exGaps
  rcases h with h | ⟨xs, hG, hne⟩
  · simp only [ev, bind_ok, bind_err, get?, ret_ok, List.set_cons_zero, List.set_cons_succ, if_true, if_false, ite_true, ite_false, Bool.false_eq_true, Bool.not_true, Bool.not_false, Bool.and_true, Bool.true_and, Bool.and_false, Bool.false_and, decide_true, decide_false, not_true_eq_false, not_false_eq_true, mkEnv, h, raise1]
  · have iw := hG.isi
    have lw := hG.len
    have hg' : decide ((xs.length : Int) = ((gc ws.length wall : Nat) : Int)) = false := decide_eq_false (by omega)
    simp only [ev, bind_ok, bind_err, get?, ret_ok, List.set_cons_zero, List.set_cons_succ, if_true, if_false, ite_true, ite_false, Bool.false_eq_true, Bool.not_true, Bool.not_false, Bool.and_true, Bool.true_and, Bool.and_false, Bool.false_and, decide_true, decide_false, not_true_eq_false, not_false_eq_true, mkEnv, iw, lw, f_gap_count, hg', raise1]
theorem e_gaps_bad {G : D} {xs r : List D} {d : D} {qs : List Rat} {n : Nat} (hG : SeqD G (xs ++ d :: r)) (ht : TL n xs qs) (hn : n ≤ 6000) (hq : ∀ q ∈ qs, 0 < q) (hl : (xs ++ d :: r).length < 1000) (hg : (xs ++ d :: r).length = gc ws.length wall) (hd : NoGap d) (st : List D) : m_check_gaps [rowD ws vs wall, G] st = .err (exGaps "gap") st := by
  obtain ⟨y, hF⟩ := gaps_badF (a := some (rowD ws vs wall)) hG ht hn hq (by rw [List.length_append] at hl; omega) hd st
  have iw := hG.isi
  have lw := hG.len
  have hg' : decide (((xs ++ d :: r).length : Int) = ((gc ws.length wall : Nat) : Int)) = true := decide_eq_true (by omega)
  unfold m_check_gaps b_check_gaps
  simp only [ev, bind_ok, bind_err, get?, ret_ok, List.set_cons_zero, List.set_cons_succ, if_true, if_false, ite_true, ite_false, Bool.false_eq_true, Bool.not_true, Bool.not_false, Bool.and_true, Bool.true_and, Bool.and_false, Bool.false_and, decide_true, decide_false, not_true_eq_false, not_false_eq_true, mkEnv, iw, lw, f_gap_count, hg', show fits? [] st = .ok [] st from rfl, mThenA, hF]
theorem xf_of {c : Nat} {fs : List (Str × D)} {env : Env'} {i : Nat} {d : D} {b : Bool} {st : List D} (he : env[i]? = some (some (.obj c fs))) (ht : tabX c d = some b) : mIsXF i tabX (mC d) env st = .ok (.bl b) st := by
  unfold mIsXF
  rw [he]
  show ret? ((tabX c d).map .bl) st = _
  rw [ht]; rfl
theorem fn3 {m : MS} {a b : D} {st : List D} : fnM 3 m [a, b] st = outR (m [some a, some b, none] st) := fnM_eq (by simp)
theorem fn2 {m : MS} {a : D} {st : List D} : fnM 2 m [a] st = outR (m [some a, none] st) := fnM_eq (by simp)
theorem tabs : tabX c_BadGaps (.cls 0) = some true ∧ tabX c_BadGaps (.ty "ValueError") = some true ∧ tabX c_BadMoment (.cls 0) = some true ∧ tabX c_BadMoment (.ty "ValueError") = some true ∧ tabX c_NoBall (.cls 0) = some true ∧ tabX c_NoBall (.ty "ValueError") = some true ∧ tabX c_Wide (.cls 0) = some true ∧ tabX c_Wide (.ty "ValueError") = some true :=
  ⟨rfl, by simp [tabX], rfl, by simp [tabX], rfl, by simp [tabX], rfl, by simp [tabX]⟩
theorem okXs : okX c_BadGaps "what" = true ∧ okX c_BadMoment "moment" = true ∧ okX c_NoBall "ball" = true := by decide +kernel
theorem xfld {c : Nat} {f : Str} {d : D} {fs : List (Str × D)} {env : Env'} {i : Nat} {st : List D} (he : env[i]? = some (some (.obj c (("", .non) :: (f, d) :: fs)))) (ok : okX c f = true) : mXf okX i f env st = .ok d st := by
  unfold mXf
  rw [he]
  show (if okX c f = true then ret? (((f, d) :: fs).lookup f) st else .bad) = _
  rw [if_pos ok, DL.look_same]; rfl
theorem law_gaps_ok {a b d : D} {st : List D} (h : m_check_gaps [a, b] st = .ok d st) : m__law_gaps [a, b] st = .ok d st := by
  have t : ty_law_gaps_1 [some a, some b, none] st = .rt d st := by
    unfold ty_law_gaps_1
    simp only [ev, bind_ok, bind_err, get?, ret_ok, List.set_cons_zero, List.set_cons_succ, if_true, if_false, ite_true, ite_false, Bool.false_eq_true, Bool.not_true, Bool.not_false, Bool.and_true, Bool.true_and, Bool.and_false, Bool.false_and, decide_true, decide_false, not_true_eq_false, not_false_eq_true, h]
  unfold m__law_gaps b__law_gaps
  rw [fn3]
  unfold mTryAs
  rw [t]; rfl
theorem law_gaps_er {a b : D} {w : Str} {st : List D} (h : m_check_gaps [a, b] st = .err (exGaps w) st) : m__law_gaps [a, b] st = .ok (.str w) st := by
  have t : ty_law_gaps_1 [some a, some b, none] st = .er (exGaps w) [some a, some b, none] st := by
    unfold ty_law_gaps_1
    simp only [ev, bind_ok, bind_err, get?, ret_ok, List.set_cons_zero, List.set_cons_succ, if_true, if_false, ite_true, ite_false, Bool.false_eq_true, Bool.not_true, Bool.not_false, Bool.and_true, Bool.true_and, Bool.and_false, Bool.false_and, decide_true, decide_false, not_true_eq_false, not_false_eq_true, h]
  have i1 := xf_of (env := [some a, some b, some (exObj (exGaps w))]) (i := 2) (st := st) rfl tabs.1
  have i2 := xf_of (env := [some a, some b, some (exObj (exGaps w))]) (i := 2) (st := st) rfl tabs.2.1
  have i3 := xfld (env := [some a, some b, some (exObj (exGaps w))]) (i := 2) (st := st) rfl okXs.1
  have ms : mRet (mIf (mAnd (mTru (mIsXF 2 tabX (mC (.cls 0)))) (mTru (mIsXF 2 tabX (mC (.ty "ValueError"))))) (mXf okX 2 "what") (mC .non)) [some a, some b, some (exObj (exGaps w))] st = .rt (.str w) st := by
    simp only [ev, bind_ok, bind_err, get?, ret_ok, List.set_cons_zero, List.set_cons_succ, if_true, if_false, ite_true, ite_false, Bool.false_eq_true, Bool.not_true, Bool.not_false, Bool.and_true, Bool.true_and, Bool.and_false, Bool.false_and, decide_true, decide_false, not_true_eq_false, not_false_eq_true, i1, i2, i3]
  unfold m__law_gaps b__law_gaps
  rw [fn3]
  unfold mTryAs
  rw [t]
  show outR (unX 2 (mRet (mIf (mAnd (mTru (mIsXF 2 tabX (mC (.cls 0)))) (mTru (mIsXF 2 tabX (mC (.ty "ValueError"))))) (mXf okX 2 "what") (mC .non)) [some a, some b, some (exObj (exGaps w))] st)) = _
  rw [ms]; rfl
/-! moments -/
theorem e_moment_ok {n : Nat} {d : D} {q : Rat} (h : Tells n d q) (hn : n ≤ 6000) (hq : 0 ≤ q) (st : List D) : m_check_moment [d] st = .ok (rD q) st := by
  have h1 := e_is_ratio h st
  have h2 := e_compare h tells0 (by omega) st
  have h3 := e_ratio_of h (by omega) st
  have h4 : decide (cmpR q ((0 : Int) : Rat) < 0) = false := decide_eq_false (by have := cmp_ge hq; omega)
  unfold m_check_moment b_check_moment
  simp only [ev, bind_ok, bind_err, get?, ret_ok, List.set_cons_zero, List.set_cons_succ, if_true, if_false, ite_true, ite_false, Bool.false_eq_true, Bool.not_true, Bool.not_false, Bool.and_true, Bool.true_and, Bool.and_false, Bool.false_and, decide_true, decide_false, not_true_eq_false, not_false_eq_true, mkEnv, h1, h2, h3, h4]
def exMom (d : D) : Ex := ⟨c_BadMoment, some [("moment", d)]⟩
theorem e_moment_bad {d : D} (h : NoMom d) (st : List D) : m_check_moment [d] st = .err (exMom d) st := by
  unfold m_check_moment b_check_moment exMom
  rcases h with h | ⟨n, q, hn, ht, hq⟩
  · have h1 := h st
    simp only [ev, bind_ok, bind_err, get?, ret_ok, List.set_cons_zero, List.set_cons_succ, if_true, if_false, ite_true, ite_false, Bool.false_eq_true, Bool.not_true, Bool.not_false, Bool.and_true, Bool.true_and, Bool.and_false, Bool.false_and, decide_true, decide_false, not_true_eq_false, not_false_eq_true, mkEnv, h1, raise1]
  · have h1 := e_is_ratio ht st
    have h2 := e_compare ht tells0 (by omega) st
    rw [cmp_neg hq] at h2
    have h4 : decide ((-1 : Int) < 0) = true := by decide
    simp only [ev, bind_ok, bind_err, get?, ret_ok, List.set_cons_zero, List.set_cons_succ, if_true, if_false, ite_true, ite_false, Bool.false_eq_true, Bool.not_true, Bool.not_false, Bool.and_true, Bool.true_and, Bool.and_false, Bool.false_and, decide_true, decide_false, not_true_eq_false, not_false_eq_true, mkEnv, h1, h2, h4, raise1]
theorem law_moment_ok {a d : D} {st : List D} (h : m_check_moment [a] st = .ok d st) : m__law_moment [a] st = .ok d st := by
  have t : ty_law_moment_1 [some a, none] st = .rt d st := by
    unfold ty_law_moment_1
    simp only [ev, bind_ok, bind_err, get?, ret_ok, List.set_cons_zero, List.set_cons_succ, if_true, if_false, ite_true, ite_false, Bool.false_eq_true, Bool.not_true, Bool.not_false, Bool.and_true, Bool.true_and, Bool.and_false, Bool.false_and, decide_true, decide_false, not_true_eq_false, not_false_eq_true, h]
  unfold m__law_moment b__law_moment
  rw [fn2]
  unfold mTryAs
  rw [t]; rfl
theorem law_moment_er {a : D} {st : List D} (h : m_check_moment [a] st = .err (exMom a) st) : m__law_moment [a] st = .ok (.lst [.str "bad", a]) st := by
  have t : ty_law_moment_1 [some a, none] st = .er (exMom a) [some a, none] st := by
    unfold ty_law_moment_1
    simp only [ev, bind_ok, bind_err, get?, ret_ok, List.set_cons_zero, List.set_cons_succ, if_true, if_false, ite_true, ite_false, Bool.false_eq_true, Bool.not_true, Bool.not_false, Bool.and_true, Bool.true_and, Bool.and_false, Bool.false_and, decide_true, decide_false, not_true_eq_false, not_false_eq_true, h]
  have i1 := xf_of (env := [some a, some (exObj (exMom a))]) (i := 1) (st := st) rfl tabs.2.2.1
  have i2 := xf_of (env := [some a, some (exObj (exMom a))]) (i := 1) (st := st) rfl tabs.2.2.2.1
  have i3 := xfld (env := [some a, some (exObj (exMom a))]) (i := 1) (st := st) rfl okXs.2.1
  have l2 : lstOk [.str "bad", a] st = .ok (.lst [.str "bad", a]) st := lstOk_of (by simp) st
  have ms : mRet (mIf (mAnd (mTru (mIsXF 1 tabX (mC (.cls 0)))) (mTru (mIsXF 1 tabX (mC (.ty "ValueError"))))) (mLst (mCons (mC (.str "bad")) (mCons (mXf okX 1 "moment") (mNil)))) (mC .non)) [some a, some (exObj (exMom a))] st = .rt (.lst [.str "bad", a]) st := by
    simp only [ev, bind_ok, bind_err, get?, ret_ok, List.set_cons_zero, List.set_cons_succ, if_true, if_false, ite_true, ite_false, Bool.false_eq_true, Bool.not_true, Bool.not_false, Bool.and_true, Bool.true_and, Bool.and_false, Bool.false_and, decide_true, decide_false, not_true_eq_false, not_false_eq_true, i1, i2, i3, l2]
  unfold m__law_moment b__law_moment
  rw [fn2]
  unfold mTryAs
  rw [t]
  show outR (unX 1 (mRet (mIf (mAnd (mTru (mIsXF 1 tabX (mC (.cls 0)))) (mTru (mIsXF 1 tabX (mC (.ty "ValueError"))))) (mLst (mCons (mC (.str "bad")) (mCons (mXf okX 1 "moment") (mNil)))) (mC .non)) [some a, some (exObj (exMom a))] st)) = _
  rw [ms]; rfl
/-! balls -/
def NoWhole (d : D) : Prop := ∀ st, m_is_whole [d] st = .ok (.bl false) st
theorem nw_of {d : D} (h : dIsi [d, .ty "int"] = some (.bl false) ∨ dIsi [d, .ty "bool"] = some (.bl true)) (h2 : ∃ b, dIsi [d, .ty "int"] = some (.bl b)) : NoWhole d := fun st => by
  unfold m_is_whole b_is_whole
  obtain ⟨b, hb⟩ := h2
  rcases h with h | h
  · simp only [ev, bind_ok, bind_err, get?, ret_ok, List.set_cons_zero, List.set_cons_succ, if_true, if_false, ite_true, ite_false, Bool.false_eq_true, Bool.not_true, Bool.not_false, Bool.and_true, Bool.true_and, Bool.and_false, Bool.false_and, decide_true, decide_false, not_true_eq_false, not_false_eq_true, mkEnv, h]
  · cases b
    · simp only [ev, bind_ok, bind_err, get?, ret_ok, List.set_cons_zero, List.set_cons_succ, if_true, if_false, ite_true, ite_false, Bool.false_eq_true, Bool.not_true, Bool.not_false, Bool.and_true, Bool.true_and, Bool.and_false, Bool.false_and, decide_true, decide_false, not_true_eq_false, not_false_eq_true, mkEnv, h, hb]
    · simp only [ev, bind_ok, bind_err, get?, ret_ok, List.set_cons_zero, List.set_cons_succ, if_true, if_false, ite_true, ite_false, Bool.false_eq_true, Bool.not_true, Bool.not_false, Bool.and_true, Bool.true_and, Bool.and_false, Bool.false_and, decide_true, decide_false, not_true_eq_false, not_false_eq_true, mkEnv, h, hb]
theorem row_len (st : List D) : m_Row___len__ [rowD ws vs wall] st = .ok (.int (ws.length : Nat)) st := by
  have e : c1 dLen [.tup (ws.map D.int)] = some (.int (ws.length : Nat)) := by
    show some (D.int ((ws.map D.int).length : Nat)) = _
    rw [List.length_map]
  unfold m_Row___len__ b_Row___len__
  simp only [ev, bind_ok, bind_err, get?, ret_ok, List.set_cons_zero, List.set_cons_succ, if_true, if_false, ite_true, ite_false, Bool.false_eq_true, Bool.not_true, Bool.not_false, Bool.and_true, Bool.true_and, Bool.and_false, Bool.false_and, decide_true, decide_false, not_true_eq_false, not_false_eq_true, mkEnv, f_weights, e]
theorem lenBack_ok {k : Nat} (h : k ≤ 1000) (st : List D) : lenBack (.int (k : Int)) st = .ok (.int (k : Int)) st := by
  have h2 : (k : Int) ≤ (1000 : Int) := Int.ofNat_le.mpr h
  have hc : 0 ≤ (k : Int) ∧ (k : Int) < 2 ^ 63 := ⟨Int.natCast_nonneg k, Int.lt_of_le_of_lt h2 (by decide)⟩
  have e : lenBack (.int (k : Int)) = @ite _ (0 ≤ (k : Int) ∧ (k : Int) < 2 ^ 63) (Classical.propDecidable _) (fun st => .ok (.int (k : Int)) st) (fun _ => .bad) := rfl
  rw [e, if_pos hc]
theorem mLen_row {me : ME} {env : Env'} {st s1 : List D} (h : me env st = .ok (rowD ws vs wall) s1) (hl : ws.length ≤ 1000) : mLenM 7 m_Row___len__ me env st = .ok (.int (ws.length : Nat)) s1 := by
  unfold mLenM
  rw [h, bind_ok]
  show (if c_Row = 7 then (noEr (m_Row___len__ [rowD ws vs wall] s1)).bind fun d => lenBack d else .bad) = _
  rw [if_pos rfl, row_len]
  simp only [noEr, bind_ok]
  exact lenBack_ok hl s1
theorem chain_lt {mc : List D → Res D} {a b c : Int} {st : List D} (h : mc st = .ok (.int c) st) : chainR dLe dLt mc (.int a) (.int b) st = .ok (.bl (decide (a ≤ b) && decide (b < c))) st := by
  unfold chainR
  have e : dLe (.int a) (.int b) = some (.bl (decide (a ≤ b))) := rfl
  rw [e]
  by_cases hab : a ≤ b
  · simp only [hab, decide_true, h, bind_ok, Bool.true_and]; rfl
  · simp only [hab, decide_false, Bool.false_and]
theorem e_ball_ok {i : Int} (hl : ws.length ≤ 1000) (h0 : 0 ≤ i) (h1 : i < ws.length) (st : List D) : m_check_ball [rowD ws vs wall, .int i] st = .ok (.int i) st := by
  have w := e_is_whole_int i st
  have c := chain_lt (a := 0) (b := i) (mLen_row (ws := ws) (vs := vs) (wall := wall) (me := mVar 0) (env := [some (rowD ws vs wall), some (.int i)]) (st := st) (s1 := st) (by simp only [ev, bind_ok, bind_err, get?, ret_ok, List.set_cons_zero, List.set_cons_succ, if_true, if_false, ite_true, ite_false, Bool.false_eq_true, Bool.not_true, Bool.not_false, Bool.and_true, Bool.true_and, Bool.and_false, Bool.false_and, decide_true, decide_false, not_true_eq_false, not_false_eq_true]) hl)
  rw [decide_eq_true h0, decide_eq_true h1] at c
  unfold m_check_ball b_check_ball
  simp only [ev, bind_ok, bind_err, get?, ret_ok, List.set_cons_zero, List.set_cons_succ, if_true, if_false, ite_true, ite_false, Bool.false_eq_true, Bool.not_true, Bool.not_false, Bool.and_true, Bool.true_and, Bool.and_false, Bool.false_and, decide_true, decide_false, not_true_eq_false, not_false_eq_true, mkEnv, w, c]
def exBall (d : D) : Ex := ⟨c_NoBall, some [("ball", d)]⟩
theorem e_ball_bad {d : D} (hl : ws.length ≤ 1000) (h : NoWhole d ∨ ∃ i, d = .int i ∧ (i < 0 ∨ (ws.length : Int) ≤ i)) (st : List D) : m_check_ball [rowD ws vs wall, d] st = .err (exBall d) st := by
  unfold m_check_ball b_check_ball exBall
  rcases h with h | ⟨i, rfl, hi⟩
  · have w := h st
    simp only [ev, bind_ok, bind_err, get?, ret_ok, List.set_cons_zero, List.set_cons_succ, if_true, if_false, ite_true, ite_false, Bool.false_eq_true, Bool.not_true, Bool.not_false, Bool.and_true, Bool.true_and, Bool.and_false, Bool.false_and, decide_true, decide_false, not_true_eq_false, not_false_eq_true, mkEnv, w, raise1]
  · have w := e_is_whole_int i st
    have c := chain_lt (a := 0) (b := i) (mLen_row (ws := ws) (vs := vs) (wall := wall) (me := mVar 0) (env := [some (rowD ws vs wall), some (.int i)]) (st := st) (s1 := st) (by simp only [ev, bind_ok, bind_err, get?, ret_ok, List.set_cons_zero, List.set_cons_succ, if_true, if_false, ite_true, ite_false, Bool.false_eq_true, Bool.not_true, Bool.not_false, Bool.and_true, Bool.true_and, Bool.and_false, Bool.false_and, decide_true, decide_false, not_true_eq_false, not_false_eq_true]) hl)
    have f : (decide (0 ≤ i) && decide (i < (ws.length : Int))) = false := by
      rw [← Bool.decide_and]; exact decide_eq_false (by omega)
    rw [f] at c
    simp only [ev, bind_ok, bind_err, get?, ret_ok, List.set_cons_zero, List.set_cons_succ, if_true, if_false, ite_true, ite_false, Bool.false_eq_true, Bool.not_true, Bool.not_false, Bool.and_true, Bool.true_and, Bool.and_false, Bool.false_and, decide_true, decide_false, not_true_eq_false, not_false_eq_true, mkEnv, w, c, raise1]
theorem law_ball_ok {a b d : D} {st : List D} (h : m_check_ball [a, b] st = .ok d st) : m__law_ball [a, b] st = .ok d st := by
  have t : ty_law_ball_1 [some a, some b, none] st = .rt d st := by
    unfold ty_law_ball_1
    simp only [ev, bind_ok, bind_err, get?, ret_ok, List.set_cons_zero, List.set_cons_succ, if_true, if_false, ite_true, ite_false, Bool.false_eq_true, Bool.not_true, Bool.not_false, Bool.and_true, Bool.true_and, Bool.and_false, Bool.false_and, decide_true, decide_false, not_true_eq_false, not_false_eq_true, h]
  unfold m__law_ball b__law_ball
  rw [fn3]
  unfold mTryAs
  rw [t]; rfl
theorem law_ball_er {a b : D} {st : List D} (h : m_check_ball [a, b] st = .err (exBall b) st) : m__law_ball [a, b] st = .ok (.lst [.str "bad", b]) st := by
  have t : ty_law_ball_1 [some a, some b, none] st = .er (exBall b) [some a, some b, none] st := by
    unfold ty_law_ball_1
    simp only [ev, bind_ok, bind_err, get?, ret_ok, List.set_cons_zero, List.set_cons_succ, if_true, if_false, ite_true, ite_false, Bool.false_eq_true, Bool.not_true, Bool.not_false, Bool.and_true, Bool.true_and, Bool.and_false, Bool.false_and, decide_true, decide_false, not_true_eq_false, not_false_eq_true, h]
  have i1 := xf_of (env := [some a, some b, some (exObj (exBall b))]) (i := 2) (st := st) rfl tabs.2.2.2.2.1
  have i2 := xf_of (env := [some a, some b, some (exObj (exBall b))]) (i := 2) (st := st) rfl tabs.2.2.2.2.2.1
  have i3 := xfld (env := [some a, some b, some (exObj (exBall b))]) (i := 2) (st := st) rfl okXs.2.2
  have l2 : lstOk [.str "bad", b] st = .ok (.lst [.str "bad", b]) st := lstOk_of (by simp) st
  have ms : mRet (mIf (mAnd (mTru (mIsXF 2 tabX (mC (.cls 0)))) (mTru (mIsXF 2 tabX (mC (.ty "ValueError"))))) (mLst (mCons (mC (.str "bad")) (mCons (mXf okX 2 "ball") (mNil)))) (mC .non)) [some a, some b, some (exObj (exBall b))] st = .rt (.lst [.str "bad", b]) st := by
    simp only [ev, bind_ok, bind_err, get?, ret_ok, List.set_cons_zero, List.set_cons_succ, if_true, if_false, ite_true, ite_false, Bool.false_eq_true, Bool.not_true, Bool.not_false, Bool.and_true, Bool.true_and, Bool.and_false, Bool.false_and, decide_true, decide_false, not_true_eq_false, not_false_eq_true, i1, i2, i3, l2]
  unfold m__law_ball b__law_ball
  rw [fn3]
  unfold mTryAs
  rw [t]
  show outR (unX 2 (mRet (mIf (mAnd (mTru (mIsXF 2 tabX (mC (.cls 0)))) (mTru (mIsXF 2 tabX (mC (.ty "ValueError"))))) (mLst (mCons (mC (.str "bad")) (mCons (mXf okX 2 "ball") (mNil)))) (mC .non)) [some a, some b, some (exObj (exBall b))] st)) = _
  rw [ms]; rfl
/-! wide rows -/
theorem law_narrow (st : List D) : m__law_narrow [rowD ws vs wall] st = .ok (if 3 < gc ws.length wall then .bl true else .non) st := by
  unfold m__law_narrow b__law_narrow
  rw [fn2]
  by_cases h : 3 < gc ws.length wall
  · rw [if_pos h]
    have h' : decide ((3 : Int) < ((gc ws.length wall : Nat) : Int)) = true := decide_eq_true (by omega)
    have e : m_check_narrow [rowD ws vs wall] st = .err ⟨c_Wide, none⟩ st := by
      unfold m_check_narrow b_check_narrow
      simp only [ev, bind_ok, bind_err, get?, ret_ok, List.set_cons_zero, List.set_cons_succ, if_true, if_false, ite_true, ite_false, Bool.false_eq_true, Bool.not_true, Bool.not_false, Bool.and_true, Bool.true_and, Bool.and_false, Bool.false_and, decide_true, decide_false, not_true_eq_false, not_false_eq_true, mkEnv, f_gap_count, h', mRaise0]
    have t : ty_law_narrow_1 [some (rowD ws vs wall), none] st = .er ⟨c_Wide, none⟩ [some (rowD ws vs wall), none] st := by
      unfold ty_law_narrow_1
      simp only [ev, bind_ok, bind_err, get?, ret_ok, List.set_cons_zero, List.set_cons_succ, if_true, if_false, ite_true, ite_false, Bool.false_eq_true, Bool.not_true, Bool.not_false, Bool.and_true, Bool.true_and, Bool.and_false, Bool.false_and, decide_true, decide_false, not_true_eq_false, not_false_eq_true, e]
    have i1 := xf_of (env := [some (rowD ws vs wall), some (exObj ⟨c_Wide, none⟩)]) (i := 1) (st := st) rfl tabs.2.2.2.2.2.2.1
    have i2 := xf_of (env := [some (rowD ws vs wall), some (exObj ⟨c_Wide, none⟩)]) (i := 1) (st := st) rfl tabs.2.2.2.2.2.2.2
    have ms : mRet (mAndV (mIsXF 1 tabX (mC (.cls 0))) (mIsXF 1 tabX (mC (.ty "ValueError")))) [some (rowD ws vs wall), some (exObj ⟨c_Wide, none⟩)] st = .rt (.bl true) st := by
      simp only [ev, bind_ok, bind_err, get?, ret_ok, List.set_cons_zero, List.set_cons_succ, if_true, if_false, ite_true, ite_false, Bool.false_eq_true, Bool.not_true, Bool.not_false, Bool.and_true, Bool.true_and, Bool.and_false, Bool.false_and, decide_true, decide_false, not_true_eq_false, not_false_eq_true, i1, i2]
    unfold mTryAs
    rw [t]
    show outR (unX 1 (mRet (mAndV (mIsXF 1 tabX (mC (.cls 0))) (mIsXF 1 tabX (mC (.ty "ValueError")))) [some (rowD ws vs wall), some (exObj ⟨c_Wide, none⟩)] st)) = _
    rw [ms]; rfl
  · rw [if_neg h]
    have h' : decide ((3 : Int) < ((gc ws.length wall : Nat) : Int)) = false := decide_eq_false (by omega)
    have e : m_check_narrow [rowD ws vs wall] st = .ok .non st := by
      unfold m_check_narrow b_check_narrow
      simp only [ev, bind_ok, bind_err, get?, ret_ok, List.set_cons_zero, List.set_cons_succ, if_true, if_false, ite_true, ite_false, Bool.false_eq_true, Bool.not_true, Bool.not_false, Bool.and_true, Bool.true_and, Bool.and_false, Bool.false_and, decide_true, decide_false, not_true_eq_false, not_false_eq_true, mkEnv, f_gap_count, h']
    have t : ty_law_narrow_1 [some (rowD ws vs wall), none] st = .rt .non st := by
      unfold ty_law_narrow_1
      simp only [ev, bind_ok, bind_err, get?, ret_ok, List.set_cons_zero, List.set_cons_succ, if_true, if_false, ite_true, ite_false, Bool.false_eq_true, Bool.not_true, Bool.not_false, Bool.and_true, Bool.true_and, Bool.and_false, Bool.false_and, decide_true, decide_false, not_true_eq_false, not_false_eq_true, e]
    unfold mTryAs
    rw [t]; rfl
end
end My

namespace My
open PySem PySem.Spec PyProof.Rows L2 DL
/-! k05: draws -/
theorem log2_lt' {n k : Nat} (h0 : n ≠ 0) (h : n < 2 ^ k) : n.log2 < k := (Nat.log2_lt h0).mpr h
theorem drB (n : Int) (k : Nat) (h0 : 0 < n) (h1 : n.natAbs < 2 ^ k) (hk : k ≤ 9000) (st : List D) (hs : HandOk st) : ∃ (r : Int) (st' : List D), 0 ≤ r ∧ r < n ∧ HandOk st' ∧ m__law_draw [.tok 0, .int n] st = .ok (.int r) st' :=
  e_draw n h0 (by have := log2_lt' (n := n.natAbs) (k := k) (by omega) h1; omega) st hs
theorem div_pos' {a b : Rat} (ha : 0 < a) (hb : 0 < b) : 0 < a / b := by
  rw [Rat.div_def]
  exact Rat.mul_pos ha (Rat.inv_pos.mpr hb)
theorem divInt_pos {t b : Int} (ht : 1 ≤ t) (hb : 1 ≤ b) : 0 < Rat.divInt t b := by
  rw [Rat.divInt_eq_div]
  have p : ∀ i : Int, 1 ≤ i → (0 : Rat) < (i : Rat) := fun i hi => by
    have : ((0 : Int) : Rat) < (i : Rat) := Rat.intCast_lt_intCast.mpr (by omega)
    simpa using this
  exact div_pos' (p t ht) (p b hb)
theorem divInt_neg {t b : Int} (ht : t ≤ -1) (hb : 1 ≤ b) : Rat.divInt t b < 0 := by
  have h := divInt_pos (t := -t) (by omega) hb
  have e : Rat.divInt t b = -Rat.divInt (-t) b := by rw [Rat.neg_divInt, Int.neg_neg]
  rw [e]; grind
theorem int_neg {t : Int} (ht : t ≤ -1) : ((t : Int) : Rat) < 0 := by
  have : (t : Rat) < ((0 : Int) : Rat) := Rat.intCast_lt_intCast.mpr (by omega)
  simpa using this
theorem int_pos {t : Int} (ht : 1 ≤ t) : 0 < ((t : Int) : Rat) := by
  have : ((0 : Int) : Rat) < (t : Rat) := Rat.intCast_lt_intCast.mpr (by omega)
  simpa using this
/-- flat data: equal to itself, and == answers -/
def Rf (d : D) : Prop := Sh 2 d ∧ eqv d d = true
def RfL (ds : List D) : Prop := ShA 2 ds ∧ eqvL ds ds = true
theorem Rf.int (i : Int) : Rf (.int i) := ⟨.int 2 i, by rw [eqv_int, decide_eq_true rfl]⟩
theorem Rf.pair (a b : Int) : Rf (.tup [.int a, .int b]) := ⟨(Sh.tup (k := 0) (.cons (.int 0 a) (.cons (.int 0 b) .nil))).mono (by decide), by rw [eqv_tup, eqvL_cons, eqvL_cons, eqvL_nil, eqv_int, eqv_int]; simp⟩
theorem Rf.tells {n : Nat} {d : D} {q : Rat} (h : Tells n d q) : Rf d := by
  cases h with
  | one i => exact .int i
  | two t b => exact .pair t b
theorem RfL.nil : RfL [] := ⟨.nil, rfl⟩
theorem RfL.cons {d : D} {ds : List D} (h : Rf d) (r : RfL ds) : RfL (d :: ds) := ⟨.cons h.1 r.1, by rw [eqvL_cons, h.2, r.2]; rfl⟩
theorem RfL.tl {n : Nat} : ∀ {xs : List D} {qs : List Rat}, TL n xs qs → RfL xs
  | _, _, .nil => .nil
  | _, _, .cons h r => .cons (.tells h) (RfL.tl r)
theorem RfL.dNe {xs : List D} (h : RfL xs) : dNe (.lst xs) (.lst xs) = some (.bl false) := by
  rw [dNe_of (Sh.lst h.1) (Sh.lst h.1), eqv_lst, h.2]; rfl
theorem RfL.dEq {xs : List D} (h : RfL xs) : dEq (.lst xs) (.lst xs) = some (.bl true) := by
  rw [dEq_of (Sh.lst h.1) (Sh.lst h.1), eqv_lst, h.2]
theorem Rf.str {x : Str} (h : (toP (.str x)).canLay0 = true) : Rf (.str x) := ⟨.str 2 h, by rw [eqv_str]; simp⟩
theorem cl_bad : (toP (.str "bad")).canLay0 = true := by decide +kernel
theorem cl_length : (toP (.str "length")).canLay0 = true := by decide +kernel
theorem cl_gap : (toP (.str "gap")).canLay0 = true := by decide +kernel
theorem cl_one : (toP (.str "1")).canLay0 = true := by decide +kernel
theorem cl_zero : (toP (.str "0")).canLay0 = true := by decide +kernel
theorem bad_eq {d : D} (h : Rf d) : dEq (.lst [.str "bad", d]) (.lst [.str "bad", d]) = some (.bl true) := (RfL.cons (.str cl_bad) (.cons h .nil)).dEq
theorem bad_ne {d : D} (h : Rf d) : dNe (.lst [.str "bad", d]) (.lst [.str "bad", d]) = some (.bl false) := (RfL.cons (.str cl_bad) (.cons h .nil)).dNe
theorem ne_length : dNe (.str "length") (.str "length") = some (.bl false) := by
  rw [dNe_of (.str 0 cl_length) (.str 0 cl_length), eqv_str]; simp
theorem ne_gap : dNe (.str "gap") (.str "gap") = some (.bl false) := by
  rw [dNe_of (.str 0 cl_gap) (.str 0 cl_gap), eqv_str]; simp
theorem dNe_rats (qs : List Rat) : dNe (.tup (qs.map rD)) (.tup (qs.map rD)) = some (.bl false) := by
  rw [dNe_of (sh_rats qs) (sh_rats qs), eqv_tup, eqvL_rat, decide_eq_true rfl]; rfl
/-- what the law tells of a ratio -/
theorem e_told {n : Nat} {x : D} {q : Rat} (h : Tells n x q) (hn : n ≤ 8000) (st : List D) : m__law_told [x] st = .ok (rD q) st := by
  have hp := Nat.pow_le_pow_right (n := 2) (by omega) hn
  unfold m__law_told b__law_told
  cases h with
  | one i _ h =>
    have i1 : dIsi [.int i, .ty "tuple"] = some (.bl false) := rfl
    simp only [ev, bind_ok, bind_err, get?, ret_ok, List.set_cons_zero, List.set_cons_succ, if_true, if_false, ite_true, ite_false, Bool.false_eq_true, Bool.not_true, Bool.not_false, Bool.and_true, Bool.true_and, Bool.and_false, Bool.false_and, decide_true, decide_false, not_true_eq_false, not_false_eq_true, mkEnv, i1]
    rfl
  | two t b hb h1 h2 =>
    have i1 : dIsi [.tup [.int t, .int b], .ty "tuple"] = some (.bl true) := rfl
    have e := e_law_low t b (by omega) (by omega) st
    simp only [ev, bind_ok, bind_err, get?, ret_ok, List.set_cons_zero, List.set_cons_succ, if_true, if_false, ite_true, ite_false, Bool.false_eq_true, Bool.not_true, Bool.not_false, Bool.and_true, Bool.true_and, Bool.and_false, Bool.false_and, decide_true, decide_false, not_true_eq_false, not_false_eq_true, mkEnv, i1, e]
theorem p30 : dPow (.int 10) (.int 30) = some (.int 1000000000000000000000000000000) := by rfl
theorem p20 : dPow (.int 10) (.int 20) = some (.int 100000000000000000000) := by rfl
/-- a drawn gap -/
def GapD (d : D) : Prop := ∃ q, Tells 102 d q ∧ 0 < q
theorem e_gap (st : List D) (hs : HandOk st) : ∃ d st', m__law_gap [.tok 0] st = .ok d st' ∧ HandOk st' ∧ GapD d := by
  obtain ⟨r1, s1, a1, b1, k1, e1⟩ := drB 2 2 (by decide) (by decide) (by decide) st hs
  obtain ⟨far, hf1, hf2, hfar⟩ : ∃ far : Int, 1 ≤ far ∧ far.natAbs < 2 ^ 100 ∧ (if r1 = 0 then (5 : Int) else 1000000000000000000000000000000) = far := ⟨_, by split <;> decide, by split <;> decide, rfl⟩
  obtain ⟨r2, s2, a2, b2, k2, e2⟩ := drB far 100 (by omega) hf2 (by decide) s1 k1
  obtain ⟨r3, s3, a3, b3, k3, e3⟩ := drB 2 2 (by decide) (by decide) (by decide) s2 k2
  have f1 : (mSet 1 (mIf (mTest (mOp dEq (mCall m__law_draw (mCons (mVar 0) (mCons (mC (.int 2)) (mNil)))) (mC (.int 0)))) (mC (.int 5)) (mOp dPow (mC (.int 10)) (mC (.int 30))))) [some (.tok 0), none, none] st = .nx [some (.tok 0), some (.int far), none] s1 := mSet_of (by
    by_cases h : r1 = 0
    · rw [if_pos h] at hfar
      rw [← hfar]
      simp only [ev, bind_ok, bind_err, get?, ret_ok, List.set_cons_zero, List.set_cons_succ, if_true, if_false, ite_true, ite_false, Bool.false_eq_true, Bool.not_true, Bool.not_false, Bool.and_true, Bool.true_and, Bool.and_false, Bool.false_and, decide_true, decide_false, not_true_eq_false, not_false_eq_true, e1, h]
    · rw [if_neg h] at hfar
      rw [← hfar]
      simp only [ev, bind_ok, bind_err, get?, ret_ok, List.set_cons_zero, List.set_cons_succ, if_true, if_false, ite_true, ite_false, Bool.false_eq_true, Bool.not_true, Bool.not_false, Bool.and_true, Bool.true_and, Bool.and_false, Bool.false_and, decide_true, decide_false, not_true_eq_false, not_false_eq_true, e1, h, p30])
  unfold m__law_gap b__law_gap
  rw [show fnM 3 _ [D.tok 0] st = outR (_) from fnM_eq (by simp)]
  simp only [mkEnv]
  rw [mSeq_of f1]
  have m3 : DL.MulOk 3 (1 + r2) := mulOk_l (by decide)
  have lt : (1 + r2).natAbs < 2 ^ 100 := by omega
  have pw : (2 : Nat) ^ 102 = 4 * 2 ^ 100 := by decide
  by_cases h : r3 = 0
  · refine ⟨.int (1 + r2), s3, ?_, k3, _, .one (1 + r2) (by decide) (by omega), int_pos (by omega)⟩
    simp only [ev, bind_ok, bind_err, get?, ret_ok, List.set_cons_zero, List.set_cons_succ, if_true, if_false, ite_true, ite_false, Bool.false_eq_true, Bool.not_true, Bool.not_false, Bool.and_true, Bool.true_and, Bool.and_false, Bool.false_and, decide_true, decide_false, not_true_eq_false, not_false_eq_true, e2, e3, h]
  · obtain ⟨r4, s4, a4, b4, k4, e4⟩ := drB far 100 (by omega) hf2 (by decide) s3 k3
    have m4 : DL.MulOk 3 (1 + r4) := mulOk_l (by decide)
    refine ⟨.tup [.int (3 * (1 + r2)), .int (3 * (1 + r4))], s4, ?_, k4, _, .two _ _ (by omega) (by omega) (by omega), divInt_pos (by omega) (by omega)⟩
    simp only [ev, bind_ok, bind_err, get?, ret_ok, List.set_cons_zero, List.set_cons_succ, if_true, if_false, ite_true, ite_false, Bool.false_eq_true, Bool.not_true, Bool.not_false, Bool.and_true, Bool.true_and, Bool.and_false, Bool.false_and, decide_true, decide_false, not_true_eq_false, not_false_eq_true, e2, e3, e4, h, m3, m4, ev5]
theorem gaps_tl : ∀ ds : List D, (∀ d ∈ ds, GapD d) → ∃ qs, TL 102 ds qs ∧ ∀ q ∈ qs, 0 < q
  | [], _ => ⟨[], .nil, fun q hq => by cases hq⟩
  | d :: ds, h => by
    obtain ⟨q, t, p⟩ := h d List.mem_cons_self
    obtain ⟨qs, ts, ps⟩ := gaps_tl ds fun x hx => h x (List.mem_cons_of_mem _ hx)
    exact ⟨q :: qs, .cons t ts, fun x hx => (List.mem_cons.mp hx).elim (fun e => e ▸ p) (ps x)⟩
/-- what is no moment, drawn -/
theorem e_odd (near : Int) (h1 : 1 ≤ near) (h2 : near.natAbs < 2 ^ 70) (st : List D) (hs : HandOk st) : ∃ d st', m__law_odd [.tok 0, .int near] st = .ok d st' ∧ HandOk st' ∧ NoMom d ∧ Rf d := by
  obtain ⟨r, s1, a1, b1, k1, e1⟩ := drB 9 4 (by decide) (by decide) (by decide) st hs
  have lo : ∀ st, lstOk [.int (-near), .tup [.int (-1), .int near], .non, .bl true, .str "1", .tup [.int near, .int 0], .lst [.int near, .int 1], .tup [.int 1, .int (-near)], .tup [.int near]] st = .ok (.lst _) st := fun st => lstOk_of (by simp) st
  have go : ∀ d, atI [.int (-near), .tup [.int (-1), .int near], .non, .bl true, .str "1", .tup [.int near, .int 0], .lst [.int near, .int 1], .tup [.int 1, .int (-near)], .tup [.int near]] r = some d → m__law_odd [.tok 0, .int near] st = .ok d s1 := fun d hd => by
    unfold m__law_odd b__law_odd
    simp only [ev, bind_ok, bind_err, get?, ret_ok, List.set_cons_zero, List.set_cons_succ, if_true, if_false, ite_true, ite_false, Bool.false_eq_true, Bool.not_true, Bool.not_false, Bool.and_true, Bool.true_and, Bool.and_false, Bool.false_and, decide_true, decide_false, not_true_eq_false, not_false_eq_true, mkEnv, ev5, lo, e1, hd]
  have hr : r = 0 ∨ r = 1 ∨ r = 2 ∨ r = 3 ∨ r = 4 ∨ r = 5 ∨ r = 6 ∨ r = 7 ∨ r = 8 := by omega
  rcases hr with rfl | rfl | rfl | rfl | rfl | rfl | rfl | rfl | rfl
  · exact ⟨_, s1, go _ rfl, k1, .inr ⟨70, _, by decide, .one (-near) (by decide) (by omega), int_neg (by omega)⟩, .int _⟩
  · exact ⟨_, s1, go _ rfl, k1, .inr ⟨70, _, by decide, .two (-1) near (by omega) (by decide) h2, divInt_neg (by omega) (by omega)⟩, .pair _ _⟩
  · exact ⟨_, s1, go _ rfl, k1, .inl nr_non, ⟨.non 2, rfl⟩⟩
  · exact ⟨_, s1, go _ rfl, k1, .inl (nr_bl true), ⟨.bl 2 true, rfl⟩⟩
  · exact ⟨_, s1, go _ rfl, k1, .inl (nr_str _), .str cl_one⟩
  · exact ⟨_, s1, go _ rfl, k1, .inl (nr_two _ _ (by decide)), .pair _ _⟩
  · exact ⟨_, s1, go _ rfl, k1, .inl (nr_lst _), ⟨(Sh.lst (k := 0) (.cons (.int 0 near) (.cons (.int 0 1) .nil))).mono (by decide), by rw [eqv_lst, eqvL_cons, eqvL_cons, eqvL_nil, eqv_int, eqv_int]; simp⟩⟩
  · exact ⟨_, s1, go _ rfl, k1, .inl (nr_two _ _ (by omega)), .pair _ _⟩
  · exact ⟨_, s1, go _ rfl, k1, .inl (nr_one _), ⟨(Sh.tup (k := 0) (.cons (.int 0 near) .nil)).mono (by decide), by rw [eqv_tup, eqvL_cons, eqvL_nil, eqv_int]; simp⟩⟩
/-! a drawn row -/
theorem ints_of' {P : Int → Prop} : ∀ ys : List D, (∀ y ∈ ys, ∃ w, P w ∧ y = .int w) → ∃ ws : List Int, ys = ws.map .int ∧ ∀ w ∈ ws, P w
  | [], _ => ⟨[], rfl, fun w hw => by cases hw⟩
  | y :: ys, h => by
    obtain ⟨w, p, rfl⟩ := h y List.mem_cons_self
    obtain ⟨ws, rfl, ps⟩ := ints_of' ys fun x hx => h x (List.mem_cons_of_mem _ hx)
    exact ⟨w :: ws, rfl, fun x hx => (List.mem_cons.mp hx).elim (fun e => e ▸ p) (ps x)⟩
theorem lc_ws {n : Nat} (hn : n ≤ 40) {e1 : Option D} (st : List D) (hs : HandOk st) : ∃ (ws : List Int) (st' : List D), L_law_row_2 [some (.tok 0), e1, some (.int n), none] st = .ok (.lst (ws.map .int)) st' ∧ HandOk st' ∧ ws.length = n ∧ ∀ w ∈ ws, 1 ≤ w ∧ w ≤ 9 := by
  obtain ⟨ys, st', h, p, l, r⟩ := lcD_inv (env := [some (.tok 0), e1, some (.int n), none]) (g := gNm 3) (me := el_law_row_2) HandOk (fun _ => True) (fun y => ∃ w : Int, (1 ≤ w ∧ w ≤ 9) ∧ y = .int w) (by
    intro d st _ hs
    obtain ⟨r, s, a, b, k, e⟩ := drB 9 4 (by decide) (by decide) (by decide) st hs
    refine ⟨_, .int (1 + r), s, rfl, ?_, k, 1 + r, by omega, rfl⟩
    unfold el_law_row_2
    simp only [ev, bind_ok, bind_err, get?, ret_ok, List.set_cons_zero, List.set_cons_succ, if_true, if_false, ite_true, ite_false, Bool.false_eq_true, Bool.not_true, Bool.not_false, Bool.and_true, Bool.true_and, Bool.and_false, Bool.false_and, decide_true, decide_false, not_true_eq_false, not_false_eq_true, e]) (rangeD 0 n) st (fun _ _ => trivial) hs
  obtain ⟨ws, rfl, hw⟩ := ints_of' ys r
  rw [List.length_map, rangeD_len] at l
  refine ⟨ws, st', mLC_of (mThenA_of (xs := [.int (n : Int)]) (st1 := st) (by simp only [ev, bind_ok, bind_err, get?, ret_ok, List.set_cons_zero, List.set_cons_succ, if_true, if_false, ite_true, ite_false, Bool.false_eq_true, Bool.not_true, Bool.not_false, Bool.and_true, Bool.true_and, Bool.and_false, Bool.false_and, decide_true, decide_false, not_true_eq_false, not_false_eq_true]) (rng1_nat (by omega) st)) h (by rw [List.length_map]; omega), p, l, hw⟩
theorem lc_vs {n : Nat} (hn : n ≤ 40) {e1 : Option D} (st : List D) (hs : HandOk st) : ∃ (ws : List Int) (st' : List D), L_law_row_1 [some (.tok 0), e1, some (.int n), none] st = .ok (.lst (ws.map .int)) st' ∧ HandOk st' ∧ ws.length = n ∧ ∀ w ∈ ws, -3 ≤ w ∧ w ≤ 3 := by
  obtain ⟨ys, st', h, p, l, r⟩ := lcD_inv (env := [some (.tok 0), e1, some (.int n), none]) (g := gNm 3) (me := el_law_row_1) HandOk (fun _ => True) (fun y => ∃ w : Int, (-3 ≤ w ∧ w ≤ 3) ∧ y = .int w) (by
    intro d st _ hs
    obtain ⟨r, s, a, b, k, e⟩ := drB 7 4 (by decide) (by decide) (by decide) st hs
    refine ⟨_, .int (r - 3), s, rfl, ?_, k, r - 3, by omega, rfl⟩
    unfold el_law_row_1
    simp only [ev, bind_ok, bind_err, get?, ret_ok, List.set_cons_zero, List.set_cons_succ, if_true, if_false, ite_true, ite_false, Bool.false_eq_true, Bool.not_true, Bool.not_false, Bool.and_true, Bool.true_and, Bool.and_false, Bool.false_and, decide_true, decide_false, not_true_eq_false, not_false_eq_true, e]) (rangeD 0 n) st (fun _ _ => trivial) hs
  obtain ⟨ws, rfl, hw⟩ := ints_of' ys r
  rw [List.length_map, rangeD_len] at l
  refine ⟨ws, st', mLC_of (mThenA_of (xs := [.int (n : Int)]) (st1 := st) (by simp only [ev, bind_ok, bind_err, get?, ret_ok, List.set_cons_zero, List.set_cons_succ, if_true, if_false, ite_true, ite_false, Bool.false_eq_true, Bool.not_true, Bool.not_false, Bool.and_true, Bool.true_and, Bool.and_false, Bool.false_and, decide_true, decide_false, not_true_eq_false, not_false_eq_true]) (rng1_nat (by omega) st)) h (by rw [List.length_map]; omega), p, l, hw⟩
def castI (t : List Int) : List Rat := t.map fun (a : Int) => (a : Rat)
theorem tl_ints : ∀ zs : List Int, (∀ z ∈ zs, -3 ≤ z ∧ z ≤ 3) → TL 3 (zs.map .int) (castI zs)
  | [], _ => .nil
  | z :: zs, h => .cons (.one z (by decide) (by have := h z List.mem_cons_self; omega)) (tl_ints zs fun x hx => h x (List.mem_cons_of_mem _ hx))
theorem fit_ints {zs : List Int} (h : ∀ z ∈ zs, -3 ≤ z ∧ z ≤ 3) : Fit 3 2 1 (castI zs) := ⟨⟨1, by decide, by decide, fun v hv => by
  unfold castI at hv
  obtain ⟨z, hz, rfl⟩ := List.mem_map.mp hv
  obtain ⟨a, b⟩ := h z hz
  refine ⟨⟨?_, (by show 1 < 2 ^ 3; decide)⟩, ⟨z, ?_⟩, ⟨z * z, ?_⟩, Bd.int (by omega) (by decide)⟩
  · show ((z : Rat)).num.natAbs < _
    rw [Rat.num_intCast]; omega
  · show (z : Rat) * 1 = _
    rw [Rat.mul_one]
  · show (z : Rat) * (z : Rat) * 1 = _
    rw [Rat.mul_one, Rat.intCast_mul]⟩, by decide⟩
theorem e_row (st : List D) (hs : HandOk st) : ∃ (ws : List Int) (vs : List Rat) (wall : Bool) (st' : List D), m__law_row [.tok 0] st = .ok (rowD ws vs wall) st' ∧ HandOk st' ∧ ws.length = vs.length ∧ (if wall then 1 else 2) ≤ ws.length ∧ ws.length ≤ 40 := by
  obtain ⟨r1, s1, a1, b1, k1, e1⟩ := drB 2 2 (by decide) (by decide) (by decide) st hs
  obtain ⟨r2, s2, a2, b2, k2, e2⟩ := drB 6 3 (by decide) (by decide) (by decide) s1 k1
  obtain ⟨r3, s3, a3, b3, k3, e3⟩ := drB 8 4 (by decide) (by decide) (by decide) s2 k2
  obtain ⟨wall, hw⟩ : ∃ b, b = decide (r1 = 0) := ⟨_, rfl⟩
  obtain ⟨n, hn, h1, h2⟩ : ∃ n : Nat, (n : Int) = (if r3 = 0 then 40 else (if wall then 1 else 2) + r2) ∧ (if wall then 1 else 2) ≤ n ∧ n ≤ 40 := by
    refine ⟨(if r3 = 0 then (40 : Int) else (if wall then 1 else 2) + r2).toNat, ?_, ?_, ?_⟩ <;> by_cases h3 : r3 = 0 <;> cases wall <;> simp only [h3, if_true, if_false, Bool.false_eq_true] <;> omega
  obtain ⟨ws, s4, e4, k4, l4, w4⟩ := lc_ws h2 (e1 := some (.bl wall)) s3 k3
  obtain ⟨zs, s5, e5, k5, l5, w5⟩ := lc_vs h2 (e1 := some (.bl wall)) s4 k4
  have er := e_Row (W := .lst (ws.map .int)) (V := .lst (zs.map .int)) (wall := wall) (.inl rfl) (.inl rfl) (tl_ints zs w5) (by decide) (by unfold castI; rw [List.length_map, l4, l5]) (by rw [l4]; exact h1) (by omega) w4 (fit_ints w5) s5
  refine ⟨ws, castI zs, wall, s5, ?_, k5, by unfold castI; rw [List.length_map, l4, l5], by rw [l4]; exact h1, by omega⟩
  have f1 : (mSet 1 (mOp dEq (mCall m__law_draw (mCons (mVar 0) (mCons (mC (.int 2)) (mNil)))) (mC (.int 0)))) [some (.tok 0), none, none, none] st = .nx [some (.tok 0), some (.bl wall), none, none] s1 := mSet_of (by simp only [ev, bind_ok, bind_err, get?, ret_ok, List.set_cons_zero, List.set_cons_succ, if_true, if_false, ite_true, ite_false, Bool.false_eq_true, Bool.not_true, Bool.not_false, Bool.and_true, Bool.true_and, Bool.and_false, Bool.false_and, decide_true, decide_false, not_true_eq_false, not_false_eq_true, e1, hw])
  have f2 : (mSet 2 (mOp dAdd (mIf (mTru (mVar 1)) (mC (.int 1)) (mC (.int 2))) (mCall m__law_draw (mCons (mVar 0) (mCons (mC (.int 6)) (mNil)))))) [some (.tok 0), some (.bl wall), none, none] s1 = .nx [some (.tok 0), some (.bl wall), some (.int ((if wall then 1 else 2) + r2)), none] s2 := mSet_of (by cases wall <;> simp only [ev, bind_ok, bind_err, get?, ret_ok, List.set_cons_zero, List.set_cons_succ, if_true, if_false, ite_true, ite_false, Bool.false_eq_true, Bool.not_true, Bool.not_false, Bool.and_true, Bool.true_and, Bool.and_false, Bool.false_and, decide_true, decide_false, not_true_eq_false, not_false_eq_true, e2])
  have f3 : (mIfS (mTest (mOp dEq (mCall m__law_draw (mCons (mVar 0) (mCons (mC (.int 8)) (mNil)))) (mC (.int 0)))) (mSet 2 (mC (.int 40))) (mNx)) [some (.tok 0), some (.bl wall), some (.int ((if wall then 1 else 2) + r2)), none] s2 = .nx [some (.tok 0), some (.bl wall), some (.int n), none] s3 := by
    rw [hn]
    by_cases h : r3 = 0
    · simp only [ev, bind_ok, bind_err, get?, ret_ok, List.set_cons_zero, List.set_cons_succ, if_true, if_false, ite_true, ite_false, Bool.false_eq_true, Bool.not_true, Bool.not_false, Bool.and_true, Bool.true_and, Bool.and_false, Bool.false_and, decide_true, decide_false, not_true_eq_false, not_false_eq_true, e3, h]
    · simp only [ev, bind_ok, bind_err, get?, ret_ok, List.set_cons_zero, List.set_cons_succ, if_true, if_false, ite_true, ite_false, Bool.false_eq_true, Bool.not_true, Bool.not_false, Bool.and_true, Bool.true_and, Bool.and_false, Bool.false_and, decide_true, decide_false, not_true_eq_false, not_false_eq_true, e3, h]
  unfold m__law_row b__law_row
  rw [show fnM 4 _ [D.tok 0] st = outR (_) from fnM_eq (by simp)]
  simp only [mkEnv]
  rw [mSeq_of f1, mSeq_of f2, mSeq_of f3]
  simp only [ev, bind_ok, bind_err, get?, ret_ok, List.set_cons_zero, List.set_cons_succ, if_true, if_false, ite_true, ite_false, Bool.false_eq_true, Bool.not_true, Bool.not_false, Bool.and_true, Bool.true_and, Bool.and_false, Bool.false_and, decide_true, decide_false, not_true_eq_false, not_false_eq_true, e4, e5, List.append_nil, er]
end My

namespace My
open PySem PySem.Spec PyProof.Rows L2 DL
/-! k05: one row's questions -/
theorem cut_take (xs : List D) (k : Nat) : DL.cutD xs none (some (k : Int)) = xs.take k := by
  unfold DL.cutD
  rw [HT.sIx_none, HT.sIx_nat]
  simp [List.take_eq_take_iff]
theorem cut_drop (xs : List D) (k : Nat) : DL.cutD xs (some (k : Int)) none = xs.drop k := by
  unfold DL.cutD
  rw [HT.sIx_none, HT.sIx_nat]
  by_cases h : k ≤ xs.length
  · rw [Nat.min_eq_left h, List.take_of_length_le (by simp)]
  · rw [Nat.min_eq_right (by omega), List.drop_of_length_le (Nat.le_refl _), List.drop_of_length_le (by omega)]; simp
theorem cut_last (xs : List D) : DL.cutD xs none (some (-1)) = xs.take (xs.length - 1) := by
  unfold DL.cutD
  have h1 : HT.sIx xs.length 0 none = 0 := rfl
  have h2 : HT.sIx xs.length xs.length (some (-1)) = xs.length - 1 := by
    show (if (-1 : Int) < 0 then ((-1 : Int) + (xs.length : Int)).toNat else min (-1 : Int).toNat xs.length) = _
    rw [if_pos (by decide)]
    omega
  rw [h1, h2]; simp
theorem addL (a b : List D) (h : a.length + b.length ≤ 100) : dAdd (.lst a) (.lst b) = some (.lst (a ++ b)) := by
  show (if a.length + b.length ≤ sizeLine then _ else _) = _
  rw [if_pos (Nat.le_trans h (by decide))]
theorem TL.take {n : Nat} : ∀ (k : Nat) {xs : List D} {vs : List Rat}, TL n xs vs → TL n (xs.take k) (vs.take k)
  | 0, _, _, _ => by simp; exact .nil
  | k + 1, _, _, .nil => .nil
  | k + 1, _, _, .cons h r => .cons h (TL.take k r)
theorem TL.drop {n : Nat} : ∀ (k : Nat) {xs : List D} {vs : List Rat}, TL n xs vs → TL n (xs.drop k) (vs.drop k)
  | 0, _, _, h => h
  | k + 1, _, _, .nil => .nil
  | k + 1, _, _, .cons h r => TL.drop k r
theorem mSl_of {m : ME} {l h : MO} {env : Env'} {st s1 s2 s3 : List D} {xs : List D} {lo hi : Option Int} (hm : m env st = .ok (.lst xs) s1) (hl : l env s1 = .ok lo s2) (hh : h env s2 = .ok hi s3) : mSl m l h env st = .ok (.lst (DL.cutD xs lo hi)) s3 := by
  unfold mSl
  rw [hm, bind_ok, hl, bind_ok, hh, bind_ok]; rfl
theorem mPart_of {m : ME} {env : Env'} {st s1 : List D} {i : Int} (hm : m env st = .ok (.int i) s1) : mPart m env st = .ok (some i) s1 := by
  unfold mPart
  rw [hm]; rfl
theorem mNo_of {env : Env'} {st : List D} : mNo env st = .ok none st := rfl
theorem mulOk_str {x : Str} {n : Int} (h1 : 2 ≤ n) (h2 : n ≤ 1000) (hx : x.length ≤ 10) : PySem.MulOk x n := by
  have h62 : (1000 : Int) < 2 ^ 63 := by decide
  have h62' : (-(2 ^ 63) : Int) ≤ 0 := by decide
  refine ⟨?_, fun _ _ => ?_, fun _ _ => ?_⟩
  · have a : ¬ n < -(2 ^ 63 : Int) := by omega
    have b : ¬ n ≥ (2 ^ 63 : Int) := by omega
    rw [decide_eq_false a, decide_eq_false b]; rfl
  · have h : (1000 : Int) ≤ (2 ^ 63 - 1) / 1000 := by decide
    have h3 : (2 ^ 63 - 1) / (1000 : Int) ≤ (2 ^ 63 - 1) / n := by
      refine Int.le_ediv_of_mul_le (by omega) ?_
      have := Int.mul_ediv_self_le (x := (2 ^ 63 - 1 : Int)) (k := 1000) (by decide)
      have h4 : (2 ^ 63 - 1) / (1000 : Int) * n ≤ (2 ^ 63 - 1) / (1000 : Int) * 1000 := Int.mul_le_mul_of_nonneg_left h2 (by decide)
      have h5 : (2 ^ 63 - 1) / (1000 : Int) * 1000 = 1000 * ((2 ^ 63 - 1) / (1000 : Int)) := Int.mul_comm _ _
      omega
    omega
  · have h : x.length * n.toNat ≤ 10 * 1000 := Nat.mul_le_mul hx (by omega)
    have hz : (10 * 1000 : Nat) ≤ sizeLine := by decide
    unfold Builtin.Str.tooLong
    first
      | exact decide_eq_false (by omega)
      | (simp; omega)
theorem mulS_one {n : Int} (h1 : 1 ≤ n) (h2 : n ≤ 1000) : ∃ y, dMulS (.str "1") (.int n) = some (.str y) := by
  refine ⟨PySem.Txt.mul "1" n, ?_⟩
  have e : dMulS (.str "1") (.int n) = @ite _ (PySem.MulOk "1" n) (Classical.propDecidable _) (some (.str (PySem.Txt.mul "1" n))) none := rfl
  rw [e, if_pos]
  by_cases h : n = 1
  · subst h
    refine ⟨by decide, fun _ z => ?_, fun _ z => ?_⟩ <;> simp at z
  · exact mulOk_str (by omega) h2 (by decide)
theorem repL {d : D} {k : Nat} (h : k ≤ 1000) : dMul (.lst [d]) (.int (k : Int)) = some (.lst (repD k [d])) := by
  have h2 : (k : Int) ≤ (1000 : Int) := Int.ofNat_le.mpr h
  have hz : (1000 : Nat) ≤ sizeLine := by decide
  have hc : -(2 ^ 63) ≤ (k : Int) ∧ (k : Int) < 2 ^ 63 ∧ [d].length * (k : Int).toNat ≤ sizeLine := ⟨Int.le_trans (by decide : -(2 ^ 63) ≤ (0 : Int)) (Int.natCast_nonneg k), Int.lt_of_le_of_lt h2 (by decide), by rw [Int.toNat_natCast, List.length_singleton]; omega⟩
  have e : dMul (.lst [d]) (.int (k : Int)) = @ite _ (-(2 ^ 63) ≤ (k : Int) ∧ (k : Int) < 2 ^ 63 ∧ [d].length * (k : Int).toNat ≤ sizeLine) (Classical.propDecidable _) (some (.lst (repD (k : Int).toNat [d]))) none := rfl
  rw [e, if_pos hc, Int.toNat_natCast]
theorem rep_len (d : D) (k : Nat) : (repD k [d]).length = k := by
  unfold repD
  rw [List.length_flatten, List.map_replicate, List.sum_replicate_nat, List.length_singleton, Nat.mul_one]
theorem forD_rt {g : MG} {body : MS} {d : D} {ds : List D} {env e1 e2 : Env'} {st s1 : List D} (hg : g d env = some e1) (hb : body e1 st = .nx e2 s1) : forD g body (d :: ds) env st = forD g body ds e2 s1 := by
  rw [forD_cons, hg]
  simp only [hb]
section
variable {ws : List Int} {vs : List Rat} {wall : Bool} {G : List D} {qs : List Rat} {odd : D} {a k : Nat} {near : Int} {a6 a7 a8 a9 a10 a11 a12 a13 : Option D}
/-- what is asked of -/
structure One (ws : List Int) (wall : Bool) (G : List D) (qs : List Rat) (odd : D) (k a : Nat) (near : Int) : Prop where
  hi : ws.length ≤ 40
  ke : k = gc ws.length wall
  k1 : 1 ≤ k
  k40 : k ≤ 40
  al : a < k
  gl : G.length = 41
  t : TL 102 G qs
  p : ∀ q ∈ qs, 0 < q
  om : NoMom odd
  rf : Rf odd
  n1 : 1 ≤ near
  n2 : near.natAbs < 2 ^ 70
theorem One.gaps_bad (o : One ws wall G qs odd k a near) {d : D} (hd : NoGap d) (st : List D) : m__law_gaps [rowD ws vs wall, .lst ((G.take k).take a ++ [d] ++ (G.take k).drop (a + 1))] st = .ok (.str "gap") st := by
  have e : (G.take k).take a ++ [d] ++ (G.take k).drop (a + 1) = (G.take k).take a ++ d :: (G.take k).drop (a + 1) := by rw [List.append_assoc, List.singleton_append]
  have l : ((G.take k).take a ++ d :: (G.take k).drop (a + 1)).length = k := by
    have := o.al; have := o.k40; have := o.gl
    rw [List.length_append, List.length_cons, List.length_take, List.length_take, List.length_drop, List.length_take]
    omega
  rw [e]
  exact law_gaps_er (e_gaps_bad (.inl rfl) ((o.t.take k).take a) (by decide) (fun q hq => o.p q (List.mem_of_mem_take (List.mem_of_mem_take hq))) (by rw [l]; have := o.k40; omega) (by rw [l]; exact o.ke) hd st)
theorem One.gaps_len (_o : One ws wall G qs odd k a near) {d : D} (h : dIsi [d, .tup [.ty "list", .ty "tuple"]] = some (.bl false) ∨ ∃ xs, SeqD d xs ∧ xs.length ≠ gc ws.length wall) (st : List D) : m__law_gaps [rowD ws vs wall, d] st = .ok (.str "length") st := law_gaps_er (e_gaps_len h st)
theorem One.loop2 (o : One ws wall G qs odd k a near) (st : List D) : ∃ y, F_law_one_2 [some (rowD ws vs wall), some (.int k), some (.lst G), some odd, some (.int a), some (.int near), a6, a7, a8, a9, a10, a11, a12, a13] st = .nx [some (rowD ws vs wall), some (.int k), some (.lst G), some odd, some (.int a), some (.int near), a6, a7, y, a9, a10, a11, a12, a13] st := by
  have hk := o.ke
  have hk40 := o.k40
  have hk1 := o.k1
  obtain ⟨y, hy⟩ := mulS_one (n := (k : Int)) (by omega) (by omega)
  have hr := repL (d := odd) (k := k + 1) (by omega)
  rw [show ((k + 1 : Nat) : Int) = (k : Int) + 1 from rfl] at hr
  have st1 : ∀ (d : D) (x8 : Option D), (dIsi [d, .tup [.ty "list", .ty "tuple"]] = some (.bl false) ∨ ∃ xs, SeqD d xs ∧ xs.length ≠ gc ws.length wall) → bd_law_one_2 [some (rowD ws vs wall), some (.int k), some (.lst G), some odd, some (.int a), some (.int near), a6, a7, some d, a9, a10, a11, a12, a13] st = .nx [some (rowD ws vs wall), some (.int k), some (.lst G), some odd, some (.int a), some (.int near), a6, a7, some d, a9, a10, a11, a12, a13] st := fun d x8 h => by
    have e := o.gaps_len (vs := vs) h st
    unfold bd_law_one_2
    simp only [ev, bind_ok, bind_err, get?, ret_ok, List.set_cons_zero, List.set_cons_succ, if_true, if_false, ite_true, ite_false, Bool.false_eq_true, Bool.not_true, Bool.not_false, Bool.and_true, Bool.true_and, Bool.and_false, Bool.false_and, decide_true, decide_false, not_true_eq_false, not_false_eq_true, e, ne_length]
  have l5 : lstOk [.non, .str y, .int k, .dic, .lst (repD (k + 1) [odd])] st = .ok (.lst [.non, .str y, .int k, .dic, .lst (repD (k + 1) [odd])]) st := lstOk_of (by simp) st
  refine ⟨some (.lst (repD (k + 1) [odd])), mFor_of (mItems_of (x := .lst [.non, .str y, .int k, .dic, .lst (repD (k + 1) [odd])]) (st1 := st) (by simp only [ev, bind_ok, bind_err, get?, ret_ok, List.set_cons_zero, List.set_cons_succ, if_true, if_false, ite_true, ite_false, Bool.false_eq_true, Bool.not_true, Bool.not_false, Bool.and_true, Bool.true_and, Bool.and_false, Bool.false_and, decide_true, decide_false, not_true_eq_false, not_false_eq_true, ev5, hy, hr, l5]) rfl) ?_⟩
  rw [forD_rt rfl (st1 _ none (.inl rfl)), forD_rt rfl (st1 _ none (.inl rfl)), forD_rt rfl (st1 _ none (.inl rfl)), forD_rt rfl (st1 _ none (.inl rfl)), forD_rt rfl (st1 _ none (.inr ⟨_, .inl rfl, by rw [rep_len]; omega⟩))]
  rfl
theorem One.loop3 (o : One ws wall G qs odd k a near) (st : List D) : ∃ y, F_law_one_3 [some (rowD ws vs wall), some (.int k), some (.lst G), some odd, some (.int a), some (.int near), some (.lst (G.take k)), a7, a8, a9, a10, a11, a12, a13] st = .nx [some (rowD ws vs wall), some (.int k), some (.lst G), some odd, some (.int a), some (.int near), some (.lst (G.take k)), a7, a8, y, a10, a11, a12, a13] st := by
  have hk40 := o.k40
  have gl := o.gl
  have ha := o.al
  have st1 : ∀ (d : D), NoGap d → bd_law_one_3 [some (rowD ws vs wall), some (.int k), some (.lst G), some odd, some (.int a), some (.int near), some (.lst (G.take k)), a7, a8, some d, a10, a11, a12, a13] st = .nx [some (rowD ws vs wall), some (.int k), some (.lst G), some odd, some (.int a), some (.int near), some (.lst (G.take k)), a7, a8, some d, a10, a11, a12, a13] st := fun d h => by
    have e := o.gaps_bad (vs := vs) h st
    have s1 : mSl (mVar 6) mNo (mPart (mVar 4)) [some (rowD ws vs wall), some (.int k), some (.lst G), some odd, some (.int a), some (.int near), some (.lst (G.take k)), a7, a8, some d, a10, a11, a12, a13] st = .ok (.lst ((G.take k).take a)) st := by
      rw [mSl_of (xs := G.take k) (s1 := st) (by simp only [ev, bind_ok, bind_err, get?, ret_ok, List.set_cons_zero, List.set_cons_succ, if_true, if_false, ite_true, ite_false, Bool.false_eq_true, Bool.not_true, Bool.not_false, Bool.and_true, Bool.true_and, Bool.and_false, Bool.false_and, decide_true, decide_false, not_true_eq_false, not_false_eq_true]) mNo_of (mPart_of (i := a) (s1 := st) (by simp only [ev, bind_ok, bind_err, get?, ret_ok, List.set_cons_zero, List.set_cons_succ, if_true, if_false, ite_true, ite_false, Bool.false_eq_true, Bool.not_true, Bool.not_false, Bool.and_true, Bool.true_and, Bool.and_false, Bool.false_and, decide_true, decide_false, not_true_eq_false, not_false_eq_true])), cut_take]
    have s2 : mSl (mVar 6) (mPart (mOp dAdd (mVar 4) (mC (.int 1)))) mNo [some (rowD ws vs wall), some (.int k), some (.lst G), some odd, some (.int a), some (.int near), some (.lst (G.take k)), a7, a8, some d, a10, a11, a12, a13] st = .ok (.lst ((G.take k).drop (a + 1))) st := by
      rw [mSl_of (xs := G.take k) (s1 := st) (by simp only [ev, bind_ok, bind_err, get?, ret_ok, List.set_cons_zero, List.set_cons_succ, if_true, if_false, ite_true, ite_false, Bool.false_eq_true, Bool.not_true, Bool.not_false, Bool.and_true, Bool.true_and, Bool.and_false, Bool.false_and, decide_true, decide_false, not_true_eq_false, not_false_eq_true]) (mPart_of (i := (a : Int) + 1) (s1 := st) (by simp only [ev, bind_ok, bind_err, get?, ret_ok, List.set_cons_zero, List.set_cons_succ, if_true, if_false, ite_true, ite_false, Bool.false_eq_true, Bool.not_true, Bool.not_false, Bool.and_true, Bool.true_and, Bool.and_false, Bool.false_and, decide_true, decide_false, not_true_eq_false, not_false_eq_true])) mNo_of, show ((a : Int) + 1) = ((a + 1 : Nat) : Int) from rfl, cut_drop]
    have d1 := addL ((G.take k).take a) [d] (by rw [List.length_take, List.length_take, List.length_singleton]; omega)
    have d2 := addL ((G.take k).take a ++ [d]) ((G.take k).drop (a + 1)) (by rw [List.length_append, List.length_take, List.length_take, List.length_singleton, List.length_drop, List.length_take]; omega)
    unfold bd_law_one_3
    simp only [ev, bind_ok, bind_err, get?, ret_ok, List.set_cons_zero, List.set_cons_succ, if_true, if_false, ite_true, ite_false, Bool.false_eq_true, Bool.not_true, Bool.not_false, Bool.and_true, Bool.true_and, Bool.and_false, Bool.false_and, decide_true, decide_false, not_true_eq_false, not_false_eq_true, s1, s2, ev5, d1, d2, e, ne_gap]
  have l3 : lstOk [odd, .int 0, .tup [.int 0, .int near]] st = .ok (.lst [odd, .int 0, .tup [.int 0, .int near]]) st := lstOk_of (by simp) st
  have z : Rat.divInt 0 near = 0 := Rat.zero_divInt near
  refine ⟨some (.tup [.int 0, .int near]), mFor_of (mItems_of (x := .lst [odd, .int 0, .tup [.int 0, .int near]]) (st1 := st) (by simp only [ev, bind_ok, bind_err, get?, ret_ok, List.set_cons_zero, List.set_cons_succ, if_true, if_false, ite_true, ite_false, Bool.false_eq_true, Bool.not_true, Bool.not_false, Bool.and_true, Bool.true_and, Bool.and_false, Bool.false_and, decide_true, decide_false, not_true_eq_false, not_false_eq_true, ev5, l3]) rfl) ?_⟩
  rw [forD_rt rfl (st1 _ o.om.gap), forD_rt rfl (st1 _ (.inr ⟨1, _, by decide, tells0, by show ((0 : Int) : Rat) ≤ 0; exact Rat.le_refl⟩)), forD_rt rfl (st1 _ (.inr ⟨70, _, by decide, .two 0 near (by have := o.n1; omega) (by decide) o.n2, by rw [z]; exact Rat.le_refl⟩))]
  rfl
theorem One.loop4 (o : One ws wall G qs odd k a near) (st : List D) : ∃ y z, F_law_one_4 [some (rowD ws vs wall), some (.int k), some (.lst G), some odd, some (.int a), some (.int near), a6, a7, a8, a9, some (.int ws.length), a11, a12, a13] st = .nx [some (rowD ws vs wall), some (.int k), some (.lst G), some odd, some (.int a), some (.int near), a6, a7, a8, a9, some (.int ws.length), y, z, a13] st := by
  have hi := o.hi
  obtain ⟨env', st', hf, ⟨x, y, rfl⟩, rfl⟩ := forD_inv (g := gNm 11) (body := bd_law_one_4)
    (fun env st' => (∃ x y, env = [some (rowD ws vs wall), some (.int k), some (.lst G), some odd, some (.int a), some (.int near), a6, a7, a8, a9, some (.int ws.length), x, y, a13]) ∧ st' = st) (fun d => ∃ i : Nat, i < ws.length ∧ d = .int (i : Int))
    (by
      rintro d env st' ⟨i, hi', rfl⟩ ⟨⟨x, y, rfl⟩, rfl⟩
      have e := law_ball_ok (e_ball_ok (ws := ws) (vs := vs) (wall := wall) (i := (i : Int)) (by omega) (by omega) (by omega) st')
      have ib : dIsi [.int (i : Int), .ty "bool"] = some (.bl false) := rfl
      refine ⟨_, [some (rowD ws vs wall), some (.int k), some (.lst G), some odd, some (.int a), some (.int near), a6, a7, a8, a9, some (.int ws.length), some (.int (i : Int)), some (.int (i : Int)), a13], st', rfl, ?_, ⟨_, _, rfl⟩, rfl⟩
      unfold bd_law_one_4
      simp only [ev, bind_ok, bind_err, get?, ret_ok, List.set_cons_zero, List.set_cons_succ, if_true, if_false, ite_true, ite_false, Bool.false_eq_true, Bool.not_true, Bool.not_false, Bool.and_true, Bool.true_and, Bool.and_false, Bool.false_and, decide_true, decide_false, not_true_eq_false, not_false_eq_true, e, ib])
    (rangeD 0 ws.length) [some (rowD ws vs wall), some (.int k), some (.lst G), some odd, some (.int a), some (.int near), a6, a7, a8, a9, some (.int ws.length), a11, a12, a13] st
    (fun d hd => by
      unfold rangeD at hd
      obtain ⟨i, hi, rfl⟩ := List.mem_map.mp hd
      exact ⟨i, List.mem_range.mp hi, by simp⟩) ⟨⟨_, _, rfl⟩, rfl⟩
  exact ⟨x, y, mFor_of (mThenA_of (xs := [.int (ws.length : Int)]) (st1 := st') (by simp only [ev, bind_ok, bind_err, get?, ret_ok, List.set_cons_zero, List.set_cons_succ, if_true, if_false, ite_true, ite_false, Bool.false_eq_true, Bool.not_true, Bool.not_false, Bool.and_true, Bool.true_and, Bool.and_false, Bool.false_and, decide_true, decide_false, not_true_eq_false, not_false_eq_true]) (rng1_nat (by omega) st')) hf⟩
theorem One.loop5 (o : One ws wall G qs odd k a near) (st : List D) : ∃ y, F_law_one_5 [some (rowD ws vs wall), some (.int k), some (.lst G), some odd, some (.int a), some (.int near), a6, a7, a8, a9, some (.int ws.length), a11, a12, a13] st = .nx [some (rowD ws vs wall), some (.int k), some (.lst G), some odd, some (.int a), some (.int near), a6, a7, a8, a9, some (.int ws.length), y, a12, a13] st := by
  have hi := o.hi
  have n1 := o.n1
  have st1 : ∀ (d : D), (NoWhole d ∨ ∃ i, d = .int i ∧ (i < 0 ∨ (ws.length : Int) ≤ i)) → Rf d → bd_law_one_5 [some (rowD ws vs wall), some (.int k), some (.lst G), some odd, some (.int a), some (.int near), a6, a7, a8, a9, some (.int ws.length), some d, a12, a13] st = .nx [some (rowD ws vs wall), some (.int k), some (.lst G), some odd, some (.int a), some (.int near), a6, a7, a8, a9, some (.int ws.length), some d, a12, a13] st := fun d h rf => by
    have e := law_ball_er (e_ball_bad (ws := ws) (vs := vs) (wall := wall) (by omega) h st)
    unfold bd_law_one_5
    simp only [ev, bind_ok, bind_err, get?, ret_ok, List.set_cons_zero, List.set_cons_succ, if_true, if_false, ite_true, ite_false, Bool.false_eq_true, Bool.not_true, Bool.not_false, Bool.and_true, Bool.true_and, Bool.and_false, Bool.false_and, decide_true, decide_false, not_true_eq_false, not_false_eq_true, e, ev5, bad_ne rf]
  have l7 : lstOk [.int (-1), .int ws.length, .int (ws.length + near), .int (-near), .non, .str "0", .tup [.int 0, .int 1]] st = .ok (.lst [.int (-1), .int ws.length, .int (ws.length + near), .int (-near), .non, .str "0", .tup [.int 0, .int 1]]) st := lstOk_of (by simp) st
  refine ⟨some (.tup [.int 0, .int 1]), mFor_of (mItems_of (x := .lst [.int (-1), .int ws.length, .int (ws.length + near), .int (-near), .non, .str "0", .tup [.int 0, .int 1]]) (st1 := st) (by simp only [ev, bind_ok, bind_err, get?, ret_ok, List.set_cons_zero, List.set_cons_succ, if_true, if_false, ite_true, ite_false, Bool.false_eq_true, Bool.not_true, Bool.not_false, Bool.and_true, Bool.true_and, Bool.and_false, Bool.false_and, decide_true, decide_false, not_true_eq_false, not_false_eq_true, ev5, l7]) rfl) ?_⟩
  rw [forD_rt rfl (st1 _ (.inr ⟨_, rfl, by omega⟩) (.int _)), forD_rt rfl (st1 _ (.inr ⟨_, rfl, by omega⟩) (.int _)), forD_rt rfl (st1 _ (.inr ⟨_, rfl, by omega⟩) (.int _)), forD_rt rfl (st1 _ (.inr ⟨_, rfl, by omega⟩) (.int _)), forD_rt rfl (st1 _ (.inl (nw_of (.inl rfl) ⟨_, rfl⟩)) ⟨.non 2, rfl⟩), forD_rt rfl (st1 _ (.inl (nw_of (.inl rfl) ⟨_, rfl⟩)) (.str cl_zero)), forD_rt rfl (st1 _ (.inl (nw_of (.inl rfl) ⟨_, rfl⟩)) (.pair 0 1))]
  rfl
theorem lc_told {n : Nat} (hn : n ≤ 8000) (env : Env') (st : List D) : ∀ {xs : List D} {vs : List Rat}, TL n xs vs → 13 < env.length → lcD env (gNm 13) mYes el_law_one_1 xs st = .ok (vs.map rD) st
  | _, _, .nil, _ => rfl
  | _, _, .cons (x := x) (v := v) h r, he => by
    have ih := lc_told hn env st r he
    have h1 := e_told h hn st
    have hv : mVar 13 (env.set 13 (some x)) st = .ok x st := by
      unfold mVar
      rw [List.getElem?_set_self he]
    unfold lcD
    simp only [gNm, mYes, noEr, bind_ok, if_true, List.map_cons]
    unfold el_law_one_1
    simp only [ev, bind_ok]
    rw [mVar_eq] at hv
    rw [hv]
    simp only [bind_ok, h1]
    rw [show lcD env (gNm 13) mYes (mCall m__law_told (mCons (mVar 13) mNil)) _ st = _ from ih]
    rfl
theorem TL.len2 {n : Nat} {xs : List D} {qs : List Rat} (h : TL n xs qs) : qs.length = xs.length := h.len.symm
theorem One.run (o : One ws wall G qs odd k a near) (st : List D) : m__law_one [rowD ws vs wall, .int k, .lst G, odd, .int a, .int near] st = .ok (.bl true) st := by
  have hk := o.ke
  have hk40 := o.k40
  have hk1 := o.k1
  have gl := o.gl
  have hi := o.hi
  have tk := o.t.take k
  have pk : ∀ q ∈ qs.take k, 0 < q := fun q hq => o.p q (List.mem_of_mem_take hq)
  have lk : (G.take k).length = k := by rw [List.length_take]; omega
  have kk : decide (((gc ws.length wall : Nat) : Int) = (k : Int)) = true := decide_eq_true (by omega)
  have sl : ∀ a6 a7 a8 a9 a10 a11 a12 a13, mSl (mVar 2) mNo (mPart (mVar 1)) [some (rowD ws vs wall), some (.int k), some (.lst G), some odd, some (.int a), some (.int near), a6, a7, a8, a9, a10, a11, a12, a13] st = .ok (.lst (G.take k)) st := fun _ _ _ _ _ _ _ _ => by
    rw [mSl_of (xs := G) (s1 := st) (by simp only [ev, bind_ok, bind_err, get?, ret_ok, List.set_cons_zero, List.set_cons_succ, if_true, if_false, ite_true, ite_false, Bool.false_eq_true, Bool.not_true, Bool.not_false, Bool.and_true, Bool.true_and, Bool.and_false, Bool.false_and, decide_true, decide_false, not_true_eq_false, not_false_eq_true]) mNo_of (mPart_of (i := k) (s1 := st) (by simp only [ev, bind_ok, bind_err, get?, ret_ok, List.set_cons_zero, List.set_cons_succ, if_true, if_false, ite_true, ite_false, Bool.false_eq_true, Bool.not_true, Bool.not_false, Bool.and_true, Bool.true_and, Bool.and_false, Bool.false_and, decide_true, decide_false, not_true_eq_false, not_false_eq_true])), cut_take]
  have lc : ∀ a7 a8 a9 a10 a11 a12, L_law_one_1 [some (rowD ws vs wall), some (.int k), some (.lst G), some odd, some (.int a), some (.int near), some (.lst (G.take k)), a7, a8, a9, a10, a11, a12, none] st = .ok (.lst ((qs.take k).map rD)) st := fun _ _ _ _ _ _ =>
    mLC_of (mItems_of (me := mVar 6) (x := .lst (G.take k)) (st1 := st) (by simp only [ev, bind_ok, bind_err, get?, ret_ok, List.set_cons_zero, List.set_cons_succ, if_true, if_false, ite_true, ite_false, Bool.false_eq_true, Bool.not_true, Bool.not_false, Bool.and_true, Bool.true_and, Bool.and_false, Bool.false_and, decide_true, decide_false, not_true_eq_false, not_false_eq_true]) rfl) (lc_told (by decide) _ st tk (by simp [wipeE])) (by rw [List.length_map, tk.len2, lk]; omega)
  have g1 := law_gaps_ok (e_gaps_ok (ws := ws) (vs := vs) (wall := wall) (G := .lst (G.take k)) (.inl rfl) tk (by decide) pk (by omega) (by omega) st)
  have g2 := law_gaps_ok (e_gaps_ok (ws := ws) (vs := vs) (wall := wall) (G := .tup (G.take k)) (.inr rfl) tk (by decide) pk (by omega) (by omega) st)
  have g3 := o.gaps_len (vs := vs) (d := .lst (G.take (k + 1))) (.inr ⟨_, .inl rfl, by rw [List.length_take]; omega⟩) st
  have g4 := o.gaps_len (vs := vs) (d := .lst ((G.take k).take ((G.take k).length - 1))) (.inr ⟨_, .inl rfl, by rw [List.length_take, lk]; omega⟩) st
  have sl3 : ∀ a6 a7 a8 a9 a10 a11 a12 a13, mSl (mVar 2) mNo (mPart (mOp dAdd (mVar 1) (mC (.int 1)))) [some (rowD ws vs wall), some (.int k), some (.lst G), some odd, some (.int a), some (.int near), a6, a7, a8, a9, a10, a11, a12, a13] st = .ok (.lst (G.take (k + 1))) st := fun _ _ _ _ _ _ _ _ => by
    rw [mSl_of (xs := G) (s1 := st) (by simp only [ev, bind_ok, bind_err, get?, ret_ok, List.set_cons_zero, List.set_cons_succ, if_true, if_false, ite_true, ite_false, Bool.false_eq_true, Bool.not_true, Bool.not_false, Bool.and_true, Bool.true_and, Bool.and_false, Bool.false_and, decide_true, decide_false, not_true_eq_false, not_false_eq_true]) mNo_of (mPart_of (i := (k : Int) + 1) (s1 := st) (by simp only [ev, bind_ok, bind_err, get?, ret_ok, List.set_cons_zero, List.set_cons_succ, if_true, if_false, ite_true, ite_false, Bool.false_eq_true, Bool.not_true, Bool.not_false, Bool.and_true, Bool.true_and, Bool.and_false, Bool.false_and, decide_true, decide_false, not_true_eq_false, not_false_eq_true])), show ((k : Int) + 1) = ((k + 1 : Nat) : Int) from rfl, cut_take]
  have sl4 : ∀ a7 a8 a9 a10 a11 a12 a13, mSl (mVar 6) mNo (mPart (mUn dNeg (mC (.int 1)))) [some (rowD ws vs wall), some (.int k), some (.lst G), some odd, some (.int a), some (.int near), some (.lst (G.take k)), a7, a8, a9, a10, a11, a12, a13] st = .ok (.lst ((G.take k).take ((G.take k).length - 1))) st := fun _ _ _ _ _ _ _ => by
    rw [mSl_of (xs := G.take k) (s1 := st) (by simp only [ev, bind_ok, bind_err, get?, ret_ok, List.set_cons_zero, List.set_cons_succ, if_true, if_false, ite_true, ite_false, Bool.false_eq_true, Bool.not_true, Bool.not_false, Bool.and_true, Bool.true_and, Bool.and_false, Bool.false_and, decide_true, decide_false, not_true_eq_false, not_false_eq_true]) mNo_of (mPart_of (i := -1) (s1 := st) (by simp only [ev, bind_ok, bind_err, get?, ret_ok, List.set_cons_zero, List.set_cons_succ, if_true, if_false, ite_true, ite_false, Bool.false_eq_true, Bool.not_true, Bool.not_false, Bool.and_true, Bool.true_and, Bool.and_false, Bool.false_and, decide_true, decide_false, not_true_eq_false, not_false_eq_true])), cut_last]
  have rfl1 : dNe (.lst (G.take k)) (.lst (G.take k)) = some (.bl false) := (RfL.tl tk).dNe
  have tu : dTuple (.lst (G.take k)) = some (.tup (G.take k)) := rfl
  obtain ⟨y2, l2⟩ := o.loop2 (vs := vs) (a6 := some (.lst (G.take k))) (a7 := some (.tup ((qs.take k).map rD))) (a8 := none) (a9 := none) (a10 := none) (a11 := none) (a12 := none) (a13 := none) st
  obtain ⟨y3, l3⟩ := o.loop3 (vs := vs) (a7 := some (.tup ((qs.take k).map rD))) (a8 := y2) (a9 := none) (a10 := none) (a11 := none) (a12 := none) (a13 := none) st
  have ll : mLenM 7 m_Row___len__ (mVar 0) [some (rowD ws vs wall), some (.int k), some (.lst G), some odd, some (.int a), some (.int near), some (.lst (G.take k)), some (.tup ((qs.take k).map rD)), y2, y3, none, none, none, none] st = .ok (.int ws.length) st := mLen_row (ws := ws) (vs := vs) (wall := wall) (by simp only [ev, bind_ok, bind_err, get?, ret_ok, List.set_cons_zero, List.set_cons_succ, if_true, if_false, ite_true, ite_false, Bool.false_eq_true, Bool.not_true, Bool.not_false, Bool.and_true, Bool.true_and, Bool.and_false, Bool.false_and, decide_true, decide_false, not_true_eq_false, not_false_eq_true]) (by omega)
  obtain ⟨y4, z4, l4⟩ := o.loop4 (vs := vs) (a6 := some (.lst (G.take k))) (a7 := some (.tup ((qs.take k).map rD))) (a8 := y2) (a9 := y3) (a11 := none) (a12 := none) (a13 := none) st
  obtain ⟨y5, l5⟩ := o.loop5 (vs := vs) (a6 := some (.lst (G.take k))) (a7 := some (.tup ((qs.take k).map rD))) (a8 := y2) (a9 := y3) (a11 := y4) (a12 := z4) (a13 := none) st
  have bt := law_ball_er (e_ball_bad (ws := ws) (vs := vs) (wall := wall) (d := .bl true) (by omega) (.inl (nw_of (.inr rfl) ⟨_, rfl⟩)) st)
  have il : dIsi [.lst [.str "bad", .bl true], .ty "list"] = some (.bl true) := rfl
  have ix : atI [D.str "bad", .bl true] 1 = some (.bl true) := rfl
  have nb : dNotB (.bl true) (.bl true) = some (.bl false) := rfl
  have nr := law_narrow (ws := ws) (vs := vs) (wall := wall) st
  unfold m__law_one b__law_one
  rw [show fnM 14 _ [rowD ws vs wall, .int k, .lst G, odd, .int a, .int near] st = outR (_) from fnM_eq (by simp)]
  simp only [mkEnv]
  (rw [mSeq_k]; (conv => (lhs; arg 1; arg 1; simp only [ev, bind_ok, bind_err, get?, ret_ok, List.set_cons_zero, List.set_cons_succ, if_true, if_false, ite_true, ite_false, Bool.false_eq_true, Bool.not_true, Bool.not_false, Bool.and_true, Bool.true_and, Bool.and_false, Bool.false_and, decide_true, decide_false, not_true_eq_false, not_false_eq_true, f_gap_count, kk])); rw [seqK_nx])
  (rw [mSeq_k]; (conv => (lhs; arg 1; arg 1; simp only [ev, bind_ok, bind_err, get?, ret_ok, List.set_cons_zero, List.set_cons_succ, if_true, if_false, ite_true, ite_false, Bool.false_eq_true, Bool.not_true, Bool.not_false, Bool.and_true, Bool.true_and, Bool.and_false, Bool.false_and, decide_true, decide_false, not_true_eq_false, not_false_eq_true, sl])); rw [seqK_nx])
  (rw [mSeq_k]; (conv => (lhs; arg 1; arg 1; simp only [ev, bind_ok, bind_err, get?, ret_ok, List.set_cons_zero, List.set_cons_succ, if_true, if_false, ite_true, ite_false, Bool.false_eq_true, Bool.not_true, Bool.not_false, Bool.and_true, Bool.true_and, Bool.and_false, Bool.false_and, decide_true, decide_false, not_true_eq_false, not_false_eq_true, lc, dTup_lst])); rw [seqK_nx])
  (rw [mSeq_k]; (conv => (lhs; arg 1; arg 1; simp only [ev, bind_ok, bind_err, get?, ret_ok, List.set_cons_zero, List.set_cons_succ, if_true, if_false, ite_true, ite_false, Bool.false_eq_true, Bool.not_true, Bool.not_false, Bool.and_true, Bool.true_and, Bool.and_false, Bool.false_and, decide_true, decide_false, not_true_eq_false, not_false_eq_true, g1, g2, sl, tu, dNe_rats, rfl1])); rw [seqK_nx])
  (rw [mSeq_k]; (conv => (lhs; arg 1; arg 1; simp only [ev, bind_ok, bind_err, get?, ret_ok, List.set_cons_zero, List.set_cons_succ, if_true, if_false, ite_true, ite_false, Bool.false_eq_true, Bool.not_true, Bool.not_false, Bool.and_true, Bool.true_and, Bool.and_false, Bool.false_and, decide_true, decide_false, not_true_eq_false, not_false_eq_true, sl3, sl4, g3, g4, ne_length])); rw [seqK_nx])
  (rw [mSeq_k]; (conv => (lhs; arg 1; arg 1; simp only [ev, bind_ok, bind_err, get?, ret_ok, List.set_cons_zero, List.set_cons_succ, if_true, if_false, ite_true, ite_false, Bool.false_eq_true, Bool.not_true, Bool.not_false, Bool.and_true, Bool.true_and, Bool.and_false, Bool.false_and, decide_true, decide_false, not_true_eq_false, not_false_eq_true, l2])); rw [seqK_nx])
  (rw [mSeq_k]; (conv => (lhs; arg 1; arg 1; simp only [ev, bind_ok, bind_err, get?, ret_ok, List.set_cons_zero, List.set_cons_succ, if_true, if_false, ite_true, ite_false, Bool.false_eq_true, Bool.not_true, Bool.not_false, Bool.and_true, Bool.true_and, Bool.and_false, Bool.false_and, decide_true, decide_false, not_true_eq_false, not_false_eq_true, l3])); rw [seqK_nx])
  (rw [mSeq_k]; (conv => (lhs; arg 1; arg 1; simp only [ev, bind_ok, bind_err, get?, ret_ok, List.set_cons_zero, List.set_cons_succ, if_true, if_false, ite_true, ite_false, Bool.false_eq_true, Bool.not_true, Bool.not_false, Bool.and_true, Bool.true_and, Bool.and_false, Bool.false_and, decide_true, decide_false, not_true_eq_false, not_false_eq_true, ll])); rw [seqK_nx])
  (rw [mSeq_k]; (conv => (lhs; arg 1; arg 1; simp only [ev, bind_ok, bind_err, get?, ret_ok, List.set_cons_zero, List.set_cons_succ, if_true, if_false, ite_true, ite_false, Bool.false_eq_true, Bool.not_true, Bool.not_false, Bool.and_true, Bool.true_and, Bool.and_false, Bool.false_and, decide_true, decide_false, not_true_eq_false, not_false_eq_true, l4])); rw [seqK_nx])
  (rw [mSeq_k]; (conv => (lhs; arg 1; arg 1; simp only [ev, bind_ok, bind_err, get?, ret_ok, List.set_cons_zero, List.set_cons_succ, if_true, if_false, ite_true, ite_false, Bool.false_eq_true, Bool.not_true, Bool.not_false, Bool.and_true, Bool.true_and, Bool.and_false, Bool.false_and, decide_true, decide_false, not_true_eq_false, not_false_eq_true, l5])); rw [seqK_nx])
  (rw [mSeq_k]; (conv => (lhs; arg 1; arg 1; simp only [ev, bind_ok, bind_err, get?, ret_ok, List.set_cons_zero, List.set_cons_succ, if_true, if_false, ite_true, ite_false, Bool.false_eq_true, Bool.not_true, Bool.not_false, Bool.and_true, Bool.true_and, Bool.and_false, Bool.false_and, decide_true, decide_false, not_true_eq_false, not_false_eq_true, bt])); rw [seqK_nx])
  (rw [mSeq_k]; (conv => (lhs; arg 1; arg 1; simp only [ev, bind_ok, bind_err, get?, ret_ok, List.set_cons_zero, List.set_cons_succ, if_true, if_false, ite_true, ite_false, Bool.false_eq_true, Bool.not_true, Bool.not_false, Bool.and_true, Bool.true_and, Bool.and_false, Bool.false_and, decide_true, decide_false, not_true_eq_false, not_false_eq_true, il, ev5, ix, nb])); rw [seqK_nx])
  by_cases h3 : 3 < gc ws.length wall
  · rw [if_pos h3] at nr
    have h3' : decide ((3 : Int) < (k : Int)) = true := decide_eq_true (by omega)
    have e : dEq (.bl true) (.bl true) = some (.bl true) := by rw [dEq_of (.bl 0 true) (.bl 0 true), eqv_bl]; rfl
    simp only [ev, bind_ok, bind_err, get?, ret_ok, List.set_cons_zero, List.set_cons_succ, if_true, if_false, ite_true, ite_false, Bool.false_eq_true, Bool.not_true, Bool.not_false, Bool.and_true, Bool.true_and, Bool.and_false, Bool.false_and, decide_true, decide_false, not_true_eq_false, not_false_eq_true, nr, h3', e]
  · rw [if_neg h3] at nr
    have h3' : decide ((3 : Int) < (k : Int)) = false := decide_eq_false (by omega)
    have e : dEq .non .non = some (.bl true) := by rw [dEq_of (.non 0) (.non 0)]; rfl
    simp only [ev, bind_ok, bind_err, get?, ret_ok, List.set_cons_zero, List.set_cons_succ, if_true, if_false, ite_true, ite_false, Bool.false_eq_true, Bool.not_true, Bool.not_false, Bool.and_true, Bool.true_and, Bool.and_false, Bool.false_and, decide_true, decide_false, not_true_eq_false, not_false_eq_true, nr, h3', e]
end
end My

namespace My
open PySem PySem.Spec PyProof.Rows L2 DL
theorem lc_gaps {e0 e2 e3 : Option D} {x5 x6 x7 x8 x9 x10 : Option D} (st : List D) (hs : HandOk st) : ∃ (G : List D) (st' : List D), L_law_1 [e0, some (.tok 0), e2, e3, none, x5, x6, x7, x8, x9, x10, none] st = .ok (.lst G) st' ∧ HandOk st' ∧ G.length = 41 ∧ ∀ d ∈ G, GapD d := by
  obtain ⟨ys, st', h, p, l, r⟩ := lcD_inv (env := [e0, some (.tok 0), e2, e3, none, x5, x6, x7, x8, x9, x10, none]) (g := gNm 11) (me := el_law_1) HandOk (fun _ => True) GapD (by
    intro d st _ hs
    obtain ⟨g, s, e, k, gd⟩ := e_gap st hs
    refine ⟨_, g, s, rfl, ?_, k, gd⟩
    unfold el_law_1
    simp only [ev, bind_ok, bind_err, get?, ret_ok, List.set_cons_zero, List.set_cons_succ, if_true, if_false, ite_true, ite_false, Bool.false_eq_true, Bool.not_true, Bool.not_false, Bool.and_true, Bool.true_and, Bool.and_false, Bool.false_and, decide_true, decide_false, not_true_eq_false, not_false_eq_true, e]) (rangeD 0 41) st (fun _ _ => trivial) hs
  rw [rangeD_len] at l
  exact ⟨ys, st', mLC_of (mThenA_of (xs := [.int (41 : Nat)]) (st1 := st) (by simp only [ev, bind_ok, bind_err, get?, ret_ok, List.set_cons_zero, List.set_cons_succ, if_true, if_false, ite_true, ite_false, Bool.false_eq_true, Bool.not_true, Bool.not_false, Bool.and_true, Bool.true_and, Bool.and_false, Bool.false_and, decide_true, decide_false, not_true_eq_false, not_false_eq_true]; rfl) (rng1_nat (by decide) st)) h (by omega), p, l, r⟩
theorem first_eq (ws : List Int) (vs : List Rat) (wall : Bool) (h : 1 ≤ ws.length) : (if wall then ((ws.length : Nat) : Int) else (ws.length : Int) - 1) = ((gc ws.length wall : Nat) : Int) := by
  unfold gc
  cases wall <;> simp <;> omega
theorem drK {n : Nat} (h0 : 1 ≤ n) (h1 : n ≤ 40) (st : List D) (hs : HandOk st) : ∃ (r : Nat) (st' : List D), r < n ∧ HandOk st' ∧ m__law_draw [.tok 0, .int (n : Int)] st = .ok (.int (r : Int)) st' := by
  obtain ⟨r, s, a, b, k, e⟩ := drB (n : Int) 6 (by omega) (by omega) (by decide) st hs
  obtain ⟨r', rfl⟩ : ∃ r' : Nat, r = r' := ⟨r.toNat, by omega⟩
  exact ⟨r', s, by omega, k, e⟩
theorem hH : ∀ (ns : List Int), ns.length ≤ 63 → ∃ cells t, m__law_hand [.rol (ns.map .int)] [] = .ok (handD cells 0 0 t) [] ∧ ∃ st', b_law (some (.rol (ns.map .int)) :: some (.tok 0) :: List.replicate 10 none) [handD cells 0 0 t] = .rt (.bl true) st' := by
  intro ns hl
  obtain ⟨cells, t, hc, eh⟩ := e_hand ns hl
  refine ⟨cells, t, eh, ?_⟩
  have hs0 : HandOk [handD cells 0 0 t] := ⟨cells, 0, 0, t, rfl, by decide, by decide, hc⟩
  generalize [handD cells 0 0 t] = s0 at hs0 ⊢
  generalize some (D.rol (ns.map .int)) = e0
  show RetT _
  obtain ⟨ws, vs, wall, s1, e1, k1, l1, lo1, hi1⟩ := e_row s0 hs0
  obtain ⟨us, xs, wall2, s2, e2, k2, l2, lo2, hi2⟩ := e_row s1 k1
  obtain ⟨G, s3, e3, k3, gl, gg⟩ := lc_gaps (e0 := e0) (e2 := some (rowD ws vs wall)) (e3 := some (rowD us xs wall2)) (x5 := none) (x6 := none) (x7 := none) (x8 := none) (x9 := none) (x10 := none) s2 k2
  obtain ⟨qs, tl, pos⟩ := gaps_tl G gg
  obtain ⟨r4, s4, a4, b4, k4, e4⟩ := drB 100000000000000000000 67 (by decide) (by decide) (by decide) s3 k3
  obtain ⟨near, hn⟩ : ∃ near, near = 1 + r4 := ⟨_, rfl⟩
  have n1 : 1 ≤ near := by omega
  have n2 : near.natAbs < 2 ^ 70 := Nat.lt_of_le_of_lt (show near.natAbs ≤ 100000000000000000000 by omega) (by decide)
  obtain ⟨odd, s5, e5, k5, om, rf⟩ := e_odd near n1 n2 s4 k4
  have h1 : 1 ≤ ws.length := by cases wall <;> simp at lo1 <;> omega
  have h2 : 1 ≤ us.length := by cases wall2 <;> simp at lo2 <;> omega
  have g1 : 1 ≤ gc ws.length wall := by unfold gc; cases wall <;> simp at lo1 ⊢ <;> omega
  have g2 : 1 ≤ gc us.length wall2 := by unfold gc; cases wall2 <;> simp at lo2 ⊢ <;> omega
  have g3 : gc ws.length wall ≤ 40 := by unfold gc; cases wall <;> simp <;> omega
  have g4 : gc us.length wall2 ≤ 40 := by unfold gc; cases wall2 <;> simp <;> omega
  have q1 := first_eq ws vs wall h1
  have q2 := first_eq us xs wall2 h2
  have len1 : c1 dLen [.tup (ws.map D.int)] = some (.int (ws.length : Nat)) := by
    show some (D.int ((ws.map D.int).length : Nat)) = _
    rw [List.length_map]
  have len2 : c1 dLen [.tup (us.map D.int)] = some (.int (us.length : Nat)) := by
    show some (D.int ((us.map D.int).length : Nat)) = _
    rw [List.length_map]
  have f7 : mSet 7 (mIf (mTru (mFld okF "wall" (mVar 2))) (mCall1 (c1 dLen) (mCons (mFld okF "weights" (mVar 2)) (mNil))) (mOp dSub (mCall1 (c1 dLen) (mCons (mFld okF "weights" (mVar 2)) (mNil))) (mC (.int 1)))) [e0, some (.tok 0), some (rowD ws vs wall), some (rowD us xs wall2), some (.lst G), some (.int near), some odd, none, none, none, none, none] s5 = .nx [e0, some (.tok 0), some (rowD ws vs wall), some (rowD us xs wall2), some (.lst G), some (.int near), some odd, some (.int (gc ws.length wall : Nat)), none, none, none, none] s5 := mSet_of (by
    rw [← q1]
    cases wall <;> simp only [ev, bind_ok, bind_err, get?, ret_ok, List.set_cons_zero, List.set_cons_succ, if_true, if_false, ite_true, ite_false, Bool.false_eq_true, Bool.not_true, Bool.not_false, Bool.and_true, Bool.true_and, Bool.and_false, Bool.false_and, decide_true, decide_false, not_true_eq_false, not_false_eq_true, f_wall, f_weights, len1])
  have f8 : mSet 8 (mIf (mTru (mFld okF "wall" (mVar 3))) (mCall1 (c1 dLen) (mCons (mFld okF "weights" (mVar 3)) (mNil))) (mOp dSub (mCall1 (c1 dLen) (mCons (mFld okF "weights" (mVar 3)) (mNil))) (mC (.int 1)))) [e0, some (.tok 0), some (rowD ws vs wall), some (rowD us xs wall2), some (.lst G), some (.int near), some odd, some (.int (gc ws.length wall : Nat)), none, none, none, none] s5 = .nx [e0, some (.tok 0), some (rowD ws vs wall), some (rowD us xs wall2), some (.lst G), some (.int near), some odd, some (.int (gc ws.length wall : Nat)), some (.int (gc us.length wall2 : Nat)), none, none, none] s5 := mSet_of (by
    rw [← q2]
    cases wall2 <;> simp only [ev, bind_ok, bind_err, get?, ret_ok, List.set_cons_zero, List.set_cons_succ, if_true, if_false, ite_true, ite_false, Bool.false_eq_true, Bool.not_true, Bool.not_false, Bool.and_true, Bool.true_and, Bool.and_false, Bool.false_and, decide_true, decide_false, not_true_eq_false, not_false_eq_true, f_wall, f_weights, len2])
  obtain ⟨env', s6, hF2, ⟨x9, he⟩, k6⟩ := forD_inv (g := gNm 9) (body := bd_law_2)
    (fun env st => (∃ x, env = [e0, some (.tok 0), some (rowD ws vs wall), some (rowD us xs wall2), some (.lst G), some (.int near), some odd, some (.int (gc ws.length wall : Nat)), some (.int (gc us.length wall2 : Nat)), x, none, none]) ∧ HandOk st) (fun _ => True)
    (by
      rintro d env st - ⟨⟨x, rfl⟩, hs⟩
      obtain ⟨ra, sa, ba, ka, ea⟩ := drK g1 g3 st hs
      obtain ⟨rb, sb, bb, kb, eb⟩ := drK g2 g4 sa ka
      have o1 : One ws wall G qs odd (gc ws.length wall) ra near := ⟨hi1, rfl, g1, g3, ba, gl, tl, pos, om, rf, n1, n2⟩
      have o2 : One us wall2 G qs odd (gc us.length wall2) rb near := ⟨hi2, rfl, g2, g4, bb, gl, tl, pos, om, rf, n1, n2⟩
      have t1 := o1.run (vs := vs) sa
      have t2 := o2.run (vs := xs) sb
      refine ⟨_, [e0, some (.tok 0), some (rowD ws vs wall), some (rowD us xs wall2), some (.lst G), some (.int near), some odd, some (.int (gc ws.length wall : Nat)), some (.int (gc us.length wall2 : Nat)), some d, none, none], sb, rfl, ?_, ⟨_, rfl⟩, kb⟩
      unfold bd_law_2
      simp only [ev, bind_ok, bind_err, get?, ret_ok, List.set_cons_zero, List.set_cons_succ, if_true, if_false, ite_true, ite_false, Bool.false_eq_true, Bool.not_true, Bool.not_false, Bool.and_true, Bool.true_and, Bool.and_false, Bool.false_and, decide_true, decide_false, not_true_eq_false, not_false_eq_true, ea, eb, t1, t2])
    (rangeD 0 2) [e0, some (.tok 0), some (rowD ws vs wall), some (rowD us xs wall2), some (.lst G), some (.int near), some odd, some (.int (gc ws.length wall : Nat)), some (.int (gc us.length wall2 : Nat)), none, none, none] s5 (fun _ _ => trivial) ⟨⟨_, rfl⟩, k5⟩
  subst he
  have F2 : F_law_2 [e0, some (.tok 0), some (rowD ws vs wall), some (rowD us xs wall2), some (.lst G), some (.int near), some odd, some (.int (gc ws.length wall : Nat)), some (.int (gc us.length wall2 : Nat)), none, none, none] s5 = .nx [e0, some (.tok 0), some (rowD ws vs wall), some (rowD us xs wall2), some (.lst G), some (.int near), some odd, some (.int (gc ws.length wall : Nat)), some (.int (gc us.length wall2 : Nat)), x9, none, none] s6 :=
    mFor_of (mThenA_of (xs := [.int (2 : Nat)]) (st1 := s5) (by simp only [ev, bind_ok, bind_err, get?, ret_ok, List.set_cons_zero, List.set_cons_succ, if_true, if_false, ite_true, ite_false, Bool.false_eq_true, Bool.not_true, Bool.not_false, Bool.and_true, Bool.true_and, Bool.and_false, Bool.false_and, decide_true, decide_false, not_true_eq_false, not_false_eq_true]; rfl) (rng1_nat (by decide) s5)) hF2
  have a0 : atI G 0 = some (G[0]'(by omega)) := DL.atI_nat (k := 0) (by omega)
  have a40 : atI G 40 = some (G[40]'(by omega)) := DL.atI_nat (k := 40) (by omega)
  obtain ⟨p0, t0, z0⟩ := gg _ (List.getElem_mem (show 0 < G.length by omega))
  obtain ⟨p40, t40, z40⟩ := gg _ (List.getElem_mem (show 40 < G.length by omega))
  have st1 : ∀ (x : Option D) (d : D) (n : Nat) (q : Rat), n ≤ 6000 → Tells n d q → 0 ≤ q → bd_law_3 [e0, some (.tok 0), some (rowD ws vs wall), some (rowD us xs wall2), some (.lst G), some (.int near), some odd, some (.int (gc ws.length wall : Nat)), some (.int (gc us.length wall2 : Nat)), x9, some d, none] s6 = .nx [e0, some (.tok 0), some (rowD ws vs wall), some (rowD us xs wall2), some (.lst G), some (.int near), some odd, some (.int (gc ws.length wall : Nat)), some (.int (gc us.length wall2 : Nat)), x9, some d, none] s6 := fun x d n q hn ht hq => by
    have m := law_moment_ok (e_moment_ok ht hn hq s6)
    have t := e_told ht (by omega) s6
    have e : dNe (rD q) (rD q) = some (.bl false) := by rw [dNe_rD, decide_eq_true rfl]; rfl
    unfold bd_law_3
    simp only [ev, bind_ok, bind_err, get?, ret_ok, List.set_cons_zero, List.set_cons_succ, if_true, if_false, ite_true, ite_false, Bool.false_eq_true, Bool.not_true, Bool.not_false, Bool.and_true, Bool.true_and, Bool.and_false, Bool.false_and, decide_true, decide_false, not_true_eq_false, not_false_eq_true, m, t, e]
  have l5 : lstOk [G[0]'(by omega), .int 0, .tup [.int 0, .int near], .int near, G[40]'(by omega)] s6 = .ok (.lst [G[0]'(by omega), .int 0, .tup [.int 0, .int near], .int near, G[40]'(by omega)]) s6 := lstOk_of (by simp) s6
  have F3 : F_law_3 [e0, some (.tok 0), some (rowD ws vs wall), some (rowD us xs wall2), some (.lst G), some (.int near), some odd, some (.int (gc ws.length wall : Nat)), some (.int (gc us.length wall2 : Nat)), x9, none, none] s6 = .nx [e0, some (.tok 0), some (rowD ws vs wall), some (rowD us xs wall2), some (.lst G), some (.int near), some odd, some (.int (gc ws.length wall : Nat)), some (.int (gc us.length wall2 : Nat)), x9, some (G[40]'(by omega)), none] s6 := by
    refine mFor_of (mItems_of (x := .lst [G[0]'(by omega), .int 0, .tup [.int 0, .int near], .int near, G[40]'(by omega)]) (st1 := s6) (by simp only [ev, bind_ok, bind_err, get?, ret_ok, List.set_cons_zero, List.set_cons_succ, if_true, if_false, ite_true, ite_false, Bool.false_eq_true, Bool.not_true, Bool.not_false, Bool.and_true, Bool.true_and, Bool.and_false, Bool.false_and, decide_true, decide_false, not_true_eq_false, not_false_eq_true, ev5, a0, a40, l5]) rfl) ?_
    have z : Rat.divInt 0 near = 0 := Rat.zero_divInt near
    rw [forD_rt rfl (st1 none _ 102 p0 (by decide) t0 (Rat.le_of_lt z0)), forD_rt rfl (st1 none _ 1 _ (by decide) tells0 (by show (0 : Rat) ≤ ((0 : Int) : Rat); exact Rat.le_refl)), forD_rt rfl (st1 none _ 70 _ (by decide) (.two 0 near (by omega) (by decide) n2) (by rw [z]; exact Rat.le_refl)), forD_rt rfl (st1 none _ 70 _ (by decide) (.one near (by decide) n2) (Rat.le_of_lt (int_pos n1))), forD_rt rfl (st1 none _ 102 p40 (by decide) t40 (Rat.le_of_lt z40))]
    rfl
  have mo := law_moment_er (e_moment_bad om s6)
  have mn := law_moment_er (a := .tup [.int (-near), .int 1]) (e_moment_bad (.inr ⟨70, _, by decide, .two (-near) 1 (by decide) (by omega) (by decide), divInt_neg (by omega) (by decide)⟩) s6)
  have b1 := bad_eq rf
  have b2 := bad_eq (Rf.pair (-near) 1)
  show RetT (b_law [e0, some (.tok 0), none, none, none, none, none, none, none, none, none, none] s0)
  unfold b_law
  (rw [mSeq_k]; (conv => (arg 1; arg 1; simp only [ev, bind_ok, bind_err, get?, ret_ok, List.set_cons_zero, List.set_cons_succ, if_true, if_false, ite_true, ite_false, Bool.false_eq_true, Bool.not_true, Bool.not_false, Bool.and_true, Bool.true_and, Bool.and_false, Bool.false_and, decide_true, decide_false, not_true_eq_false, not_false_eq_true, e1])); rw [seqK_nx])
  (rw [mSeq_k]; (conv => (arg 1; arg 1; simp only [ev, bind_ok, bind_err, get?, ret_ok, List.set_cons_zero, List.set_cons_succ, if_true, if_false, ite_true, ite_false, Bool.false_eq_true, Bool.not_true, Bool.not_false, Bool.and_true, Bool.true_and, Bool.and_false, Bool.false_and, decide_true, decide_false, not_true_eq_false, not_false_eq_true, e2])); rw [seqK_nx])
  (rw [mSeq_k]; (conv => (arg 1; arg 1; simp only [ev, bind_ok, bind_err, get?, ret_ok, List.set_cons_zero, List.set_cons_succ, if_true, if_false, ite_true, ite_false, Bool.false_eq_true, Bool.not_true, Bool.not_false, Bool.and_true, Bool.true_and, Bool.and_false, Bool.false_and, decide_true, decide_false, not_true_eq_false, not_false_eq_true, e3])); rw [seqK_nx])
  (rw [mSeq_k]; (conv => (arg 1; arg 1; simp only [ev, bind_ok, bind_err, get?, ret_ok, List.set_cons_zero, List.set_cons_succ, if_true, if_false, ite_true, ite_false, Bool.false_eq_true, Bool.not_true, Bool.not_false, Bool.and_true, Bool.true_and, Bool.and_false, Bool.false_and, decide_true, decide_false, not_true_eq_false, not_false_eq_true, p20, e4, ← hn])); rw [seqK_nx])
  (rw [mSeq_k]; (conv => (arg 1; arg 1; simp only [ev, bind_ok, bind_err, get?, ret_ok, List.set_cons_zero, List.set_cons_succ, if_true, if_false, ite_true, ite_false, Bool.false_eq_true, Bool.not_true, Bool.not_false, Bool.and_true, Bool.true_and, Bool.and_false, Bool.false_and, decide_true, decide_false, not_true_eq_false, not_false_eq_true, e5])); rw [seqK_nx])
  rw [mSeq_of f7, mSeq_of f8]
  (rw [mSeq_k]; (conv => (arg 1; arg 1; simp only [ev, bind_ok, bind_err, get?, ret_ok, List.set_cons_zero, List.set_cons_succ, if_true, if_false, ite_true, ite_false, Bool.false_eq_true, Bool.not_true, Bool.not_false, Bool.and_true, Bool.true_and, Bool.and_false, Bool.false_and, decide_true, decide_false, not_true_eq_false, not_false_eq_true, F2])); rw [seqK_nx])
  (rw [mSeq_k]; (conv => (arg 1; arg 1; simp only [ev, bind_ok, bind_err, get?, ret_ok, List.set_cons_zero, List.set_cons_succ, if_true, if_false, ite_true, ite_false, Bool.false_eq_true, Bool.not_true, Bool.not_false, Bool.and_true, Bool.true_and, Bool.and_false, Bool.false_and, decide_true, decide_false, not_true_eq_false, not_false_eq_true, F3])); rw [seqK_nx])
  simp only [ev, bind_ok, bind_err, get?, ret_ok, List.set_cons_zero, List.set_cons_succ, if_true, if_false, ite_true, ite_false, Bool.false_eq_true, Bool.not_true, Bool.not_false, Bool.and_true, Bool.true_and, Bool.and_false, Bool.false_and, decide_true, decide_false, not_true_eq_false, not_false_eq_true, ev5, mo, mn, b1, b2]
  exact .mk s6
end My

open PySem PySem.W PyProof.Rows
set_option maxHeartbeats 0 in
theorem PySem.Challenge.cw_untoldgaps_k05_gaps_moments_balls_and_wi_holds : PySem.Challenge.rw_untoldgaps_k05_gaps_moments_balls_and_wi.Holds :=
  hd (by
    k_fill
    refine DL.walk_ofC (l := PySem.Challenge.rw_untoldgaps_k05_gaps_moments_balls_and_wi) (n := 63) (k := 8) (x := "_law_script") rfl (by decide) (by decide) rfl ⟨rfl, by decide, by decide⟩ (fun w h Y => PySem.W.kIn_of Y) ?F
    case F =>
      intro w mg la h KX G hmg
      refine' My.all_mk KX G hmg My.hH ?ca0 ?ca1 ?ca2 ?ca3 ?ca4 ?ca5 ?ca6 ?ca7 ?a0 ?l0 ?c0 ?k0 ?tI0 ?a1 ?l1 ?c1 ?k1 ?tI1 ?a2 ?l2 ?c2 ?k2 ?tI2 ?a3 ?l3 ?c3 ?k3 ?tI3 ?a4 ?l4 ?c4 ?k4 ?isf4 ?a5 ?l5 ?c5 ?k5 ?a6 ?l6 ?c6 ?k6 ?a7 ?l7 ?c7 ?k7 ?a8 ?l8 ?c8 ?k8 ?a9 ?l9 ?c9 ?k9 ?a10 ?l10 ?c10 ?k10 ?a11 ?l11 ?c11 ?k11 ?a12 ?l12 ?c12 ?k12 ?a13 ?l13 ?c13 ?k13 ?a14 ?l14 ?c14 ?k14 ?a15 ?l15 ?c15 ?k15 ?a16 ?l16 ?c16 ?k16 ?a17 ?l17 ?c17 ?k17 ?a18 ?l18 ?c18 ?k18 ?a19 ?l19 ?c19 ?k19 ?a20 ?l20 ?c20 ?k20 ?a21 ?l21 ?c21 ?k21 ?a22 ?l22 ?c22 ?k22 ?a23 ?l23 ?c23 ?k23 ?a24 ?l24 ?c24 ?k24 ?lT24 ?isf24 ?a25 ?l25 ?c25 ?k25 ?a26 ?l26 ?c26 ?k26 ?a27 ?l27 ?c27 ?k27 ?a28 ?l28 ?c28 ?k28 ?a29 ?l29 ?c29 ?k29 ?a30 ?l30 ?c30 ?k30 ?a31 ?l31 ?c31 ?k31 ?z_ValueError ?z_abs ?z_bool ?z_enumerate ?z_int ?z_isinstance ?z_len ?z_list ?z_max ?z_min ?z_range ?z_tuple ?z_zip ?i_gcd ?g_MOST_BALLS ?g_MOST_WEIGHT ?cs0 ?ct0_ ?ck0 ?cd0_ ?cs1 ?ct1_ ?ck1 ?cd1_ ?cs2 ?ct2_ ?ck2 ?cd2_ ?cs3 ?ct3_ ?ck3 ?cd3_ ?cs4 ?ct4_ ?ck4 ?cd4_ ?cs5 ?ct5_ ?ck5 ?cd5_ ?cs6 ?ct6_ ?ck6 ?cd6_ ?cx1 ?cx6 ?xL2 ?xs2 ?xg2 ?xh2 ?xn2_0 ?xn2_1 ?xL3 ?xs3 ?xg3 ?xh3 ?xn3_0 ?xL4 ?xs4 ?xg4 ?xh4 ?xn4_0 ?xL5 ?xs5 ?xg5 ?xh5 ?xn5_0 ?s1_3 ?s2_3 ?s3_3 ?s4_3 ?s5_3 ?s6_3 ?s1_4 ?s2_4 ?s3_4 ?s4_4 ?s5_4 ?s6_4 ?s1_5 ?s2_5 ?s3_5 ?s4_5 ?s5_5 ?s6_5 ?s1_6 ?s2_6 ?s3_6 ?s4_6 ?s5_6 ?s6_6 ?xc3 ?xk3_0 ?xk3_V ?xc4 ?xk4_0 ?xk4_V ?xc5 ?xk5_0 ?xk5_V ?xc6 ?xk6_0 ?xk6_V ?wS ?wT ?wg7 ?wd7 ?wo7 ?wa7 ?wm7 ?wk7 ?wc7 ?wr7 ?wi7 ?wy7 ?wn7_0 ?wn7_1 ?wn7_2 ?wn7_3 ?wn7_4 ?wn7_5 ?wn7_6 ?wn7_7 ?wt7_NoneType ?wt7_bool ?wt7_int ?wt7_str ?wt7_tuple ?wt7_list ?wt7_7
      (case ca0 => k_is)
      (case ca1 => k_is)
      (case ca2 => k_is)
      (case ca3 => k_is)
      (case ca4 => k_is)
      (case ca5 => k_is)
      (case ca6 => k_is)
      (case ca7 => k_is)
      (case a0 => k_is)
      (case l0 => k_is)
      (case c0 => k_is)
      (case k0 => k_is)
      (case tI0 => k_is)
      (case a1 => k_is)
      (case l1 => k_is)
      (case c1 => k_is)
      (case k1 => k_is)
      (case tI1 => k_is)
      (case a2 => k_is)
      (case l2 => k_is)
      (case c2 => k_is)
      (case k2 => k_is)
      (case tI2 => k_is)
      (case a3 => k_is)
      (case l3 => k_is)
      (case c3 => k_is)
      (case k3 => k_is)
      (case tI3 => k_is)
      (case a4 => k_is)
      (case l4 => k_is)
      (case c4 => k_is)
      (case k4 => k_is)
      (case isf4 => k_is)
      (case a5 => k_is)
      (case l5 => k_is)
      (case c5 => k_is)
      (case k5 => k_is)
      (case a6 => k_is)
      (case l6 => k_is)
      (case c6 => k_is)
      (case k6 => k_is)
      (case a7 => k_is)
      (case l7 => k_is)
      (case c7 => k_is)
      (case k7 => k_is)
      (case a8 => k_is)
      (case l8 => k_is)
      (case c8 => k_is)
      (case k8 => k_is)
      (case a9 => k_is)
      (case l9 => k_is)
      (case c9 => k_is)
      (case k9 => k_is)
      (case a10 => k_is)
      (case l10 => k_is)
      (case c10 => k_is)
      (case k10 => k_is)
      (case a11 => k_is)
      (case l11 => k_is)
      (case c11 => k_is)
      (case k11 => k_is)
      (case a12 => k_is)
      (case l12 => k_is)
      (case c12 => k_is)
      (case k12 => k_is)
      (case a13 => k_is)
      (case l13 => k_is)
      (case c13 => k_is)
      (case k13 => k_is)
      (case a14 => k_is)
      (case l14 => k_is)
      (case c14 => k_is)
      (case k14 => k_is)
      (case a15 => k_is)
      (case l15 => k_is)
      (case c15 => k_is)
      (case k15 => k_is)
      (case a16 => k_is)
      (case l16 => k_is)
      (case c16 => k_is)
      (case k16 => k_is)
      (case a17 => k_is)
      (case l17 => k_is)
      (case c17 => k_is)
      (case k17 => k_is)
      (case a18 => k_is)
      (case l18 => k_is)
      (case c18 => k_is)
      (case k18 => k_is)
      (case a19 => k_is)
      (case l19 => k_is)
      (case c19 => k_is)
      (case k19 => k_is)
      (case a20 => k_is)
      (case l20 => k_is)
      (case c20 => k_is)
      (case k20 => k_is)
      (case a21 => k_is)
      (case l21 => k_is)
      (case c21 => k_is)
      (case k21 => k_is)
      (case a22 => k_is)
      (case l22 => k_is)
      (case c22 => k_is)
      (case k22 => k_is)
      (case a23 => k_is)
      (case l23 => k_is)
      (case c23 => k_is)
      (case k23 => k_is)
      (case a24 => k_is)
      (case l24 => k_is)
      (case c24 => k_is)
      (case k24 => k_is)
      (case lT24 => k_is)
      (case isf24 => k_is)
      (case a25 => k_is)
      (case l25 => k_is)
      (case c25 => k_is)
      (case k25 => k_is)
      (case a26 => k_is)
      (case l26 => k_is)
      (case c26 => k_is)
      (case k26 => k_is)
      (case a27 => k_is)
      (case l27 => k_is)
      (case c27 => k_is)
      (case k27 => k_is)
      (case a28 => k_is)
      (case l28 => k_is)
      (case c28 => k_is)
      (case k28 => k_is)
      (case a29 => k_is)
      (case l29 => k_is)
      (case c29 => k_is)
      (case k29 => k_is)
      (case a30 => k_is)
      (case l30 => k_is)
      (case c30 => k_is)
      (case k30 => k_is)
      (case a31 => k_is)
      (case l31 => k_is)
      (case c31 => k_is)
      (case k31 => k_is)
      (case z_ValueError => k_is)
      (case z_abs => k_is)
      (case z_bool => k_is)
      (case z_enumerate => k_is)
      (case z_int => k_is)
      (case z_isinstance => k_is)
      (case z_len => k_is)
      (case z_list => k_is)
      (case z_max => k_is)
      (case z_min => k_is)
      (case z_range => k_is)
      (case z_tuple => k_is)
      (case z_zip => k_is)
      (case i_gcd => k_is)
      (case g_MOST_BALLS => k_is)
      (case g_MOST_WEIGHT => k_is)
      (case cs0 => k_is)
      (case ct0_ => k_is)
      (case ck0 => k_is)
      (case cd0_ => k_is)
      (case cs1 => k_is)
      (case ct1_ => k_is)
      (case ck1 => k_is)
      (case cd1_ => k_is)
      (case cs2 => k_is)
      (case ct2_ => k_is)
      (case ck2 => k_is)
      (case cd2_ => k_is)
      (case cs3 => k_is)
      (case ct3_ => k_is)
      (case ck3 => k_is)
      (case cd3_ => k_is)
      (case cs4 => k_is)
      (case ct4_ => k_is)
      (case ck4 => k_is)
      (case cd4_ => k_is)
      (case cs5 => k_is)
      (case ct5_ => k_is)
      (case ck5 => k_is)
      (case cd5_ => k_is)
      (case cs6 => k_is)
      (case ct6_ => k_is)
      (case ck6 => k_is)
      (case cd6_ => k_is)
      (case cx1 => k_exc)
      (case cx6 => k_exc)
      (case xL2 => k_is)
      (case xs2 => k_is)
      (case xg2 => k_is)
      (case xh2 => k_is)
      (case xn2_0 => k_is)
      (case xn2_1 => k_is)
      (case xL3 => k_is)
      (case xs3 => k_is)
      (case xg3 => k_is)
      (case xh3 => k_is)
      (case xn3_0 => k_is)
      (case xL4 => k_is)
      (case xs4 => k_is)
      (case xg4 => k_is)
      (case xh4 => k_is)
      (case xn4_0 => k_is)
      (case xL5 => k_is)
      (case xs5 => k_is)
      (case xg5 => k_is)
      (case xh5 => k_is)
      (case xn5_0 => k_is)
      (case s1_3 => k_is)
      (case s2_3 => k_is)
      (case s3_3 => k_is)
      (case s4_3 => k_is)
      (case s5_3 => k_is)
      (case s6_3 => k_is)
      (case s1_4 => k_is)
      (case s2_4 => k_is)
      (case s3_4 => k_is)
      (case s4_4 => k_is)
      (case s5_4 => k_is)
      (case s6_4 => k_is)
      (case s1_5 => k_is)
      (case s2_5 => k_is)
      (case s3_5 => k_is)
      (case s4_5 => k_is)
      (case s5_5 => k_is)
      (case s6_5 => k_is)
      (case s1_6 => k_is)
      (case s2_6 => k_is)
      (case s3_6 => k_is)
      (case s4_6 => k_is)
      (case s5_6 => k_is)
      (case s6_6 => k_is)
      (case xc3 => exact DL.excB_mk (by k_is) (by k_is) (by k_is) (by k_is) (by k_is) (by k_is) (by k_is) (by k_is))
      (case xk3_0 => exact DL.kitO_ref (by k_is) (by k_is) (by k_is))
      (case xk3_V => exact DL.kitO_ty (by k_is) (by rfl))
      (case xc4 => exact DL.excB_mk (by k_is) (by k_is) (by k_is) (by k_is) (by k_is) (by k_is) (by k_is) (by k_is))
      (case xk4_0 => exact DL.kitO_ref (by k_is) (by k_is) (by k_is))
      (case xk4_V => exact DL.kitO_ty (by k_is) (by rfl))
      (case xc5 => exact DL.excB_mk (by k_is) (by k_is) (by k_is) (by k_is) (by k_is) (by k_is) (by k_is) (by k_is))
      (case xk5_0 => exact DL.kitO_ref (by k_is) (by k_is) (by k_is))
      (case xk5_V => exact DL.kitO_ty (by k_is) (by rfl))
      (case xc6 => exact DL.excB_mk (by k_is) (by k_is) (by k_is) (by k_is) (by k_is) (by k_is) (by k_is) (by k_is))
      (case xk6_0 => exact DL.kitO_ref (by k_is) (by k_is) (by k_is))
      (case xk6_V => exact DL.kitO_ty (by k_is) (by rfl))
      (case wS => k_is)
      (case wT => k_is)
      (case wg7 => k_is)
      (case wd7 => k_is)
      (case wo7 => k_is)
      (case wa7 => k_is)
      (case wm7 => k_is)
      (case wk7 => k_is)
      (case wc7 => k_is)
      (case wr7 => k_is)
      (case wi7 => k_is)
      (case wy7 => k_is)
      (case wn7_0 => k_is)
      (case wn7_1 => k_is)
      (case wn7_2 => k_is)
      (case wn7_3 => k_is)
      (case wn7_4 => k_is)
      (case wn7_5 => k_is)
      (case wn7_6 => k_is)
      (case wn7_7 => k_is)
      (case wt7_NoneType => k_is)
      (case wt7_bool => k_is)
      (case wt7_int => k_is)
      (case wt7_str => k_is)
      (case wt7_tuple => k_is)
      (case wt7_list => k_is)
      (case wt7_7 => k_is))
