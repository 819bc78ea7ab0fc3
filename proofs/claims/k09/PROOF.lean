import PyProof.Rows.All
import HandS.ForMost
import HandS.ForExc
import HandS.Iter
import HandS.IsInst
import HandS.Gcd
import HandS.Wide
import HandS.ExcInit
import HandS.ExcField
import HandS.Small
import HandS.TupAny
import HandS.Deep
import HandS.Conv
import HandS.TupLe
import HandS.Style
import HandS.TupMul
import HandS.ExcIs
import HandS.List
import HandS.TryMany
import HandS.CallSlots
import HandS.OwnEq
import HandS.Zip
import KE.DatumOrd
import HandS.Defaults
import KE.GoesEnum
import KE.KTupSum
import KE.DataFind
import HandS.Dict
import KE.KExcSuper
import HandS.ExcSuper
import HandS.FStr
import PySem.Challenge.RW_untoldgaps_k09_whole_clashes_of_all_rows
set_option Elab.async false
set_option linter.all false
set_option maxRecDepth 100000
set_option maxHeartbeats 4000000
set_option exponentiation.threshold 10000
/-! DL: a heap-free layer of our own over HandS. Values as data (D), a body as a function of the slots' data and of a few
cells that may change (St), one relation (DI) between this and HandS's slots and abstract heap. -/
namespace DL
open PySem PySem.Spec PyProof.Rows L2

/-- what a value is worth, whole -/
inductive D where
  | non | bl (b : Bool) | int (i : Int) | str (x : Str) | ty (n : String)
  | tup (xs : List D) | lst (xs : List D) | rol (xs : List D)
  | obj (c : Nat) (fs : List (Str × D)) | cls (c : Nat) | tok (n : Nat) | dic

/-- what is fixed: the written part, the addresses of the text's own classes -/
structure Glb where
  K : PySem.W.Frag
  cl : Nat → Addr

/-- a tuple: tracked, or of the written part -/
def TupAt (K : PySem.W.Frag) (S : Hp) (a : Addr) (vs : List V) : Prop :=
  S a = some (.tup vs) ∨ ∃ (o : Obj) (its : Array Value) (n : Nat), K.lookup a = some o ∧ o.cls = .type "tuple" ∧ o.data = .seq its n ∧ its.size ≤ sizeLine ∧ Vals vs its.toList
theorem TupAt.sqT {K : PySem.W.Frag} {S : Hp} {a : Addr} {vs : List V} (h : TupAt K S a vs) : SqT K S a vs := h.elim (fun z => .inl (.inl z)) .inr
theorem TupAt.mono {K : PySem.W.Frag} {S S' : Hp} {a : Addr} {vs : List V} (e : Same S S') (h : TupAt K S a vs) : TupAt K S' a vs := h.imp (e _ _) fun z => z
mutual
inductive Rep (G : Glb) (ad : List Addr) (S : Hp) : V → D → Prop
  | non : Rep G ad S .non .non
  | bl (b : Bool) : Rep G ad S (.bl b) (.bl b)
  | int (i : Int) : Rep G ad S (.int i) (.int i)
  | str (x : Str) : Rep G ad S (.str x) (.str x)
  | ty (n : String) : Rep G ad S (.ty n) (.ty n)
  | tup {a : Addr} {vs : List V} {ds : List D} : TupAt G.K S a vs → Reps G ad S vs ds → Rep G ad S (.ref a) (.tup ds)
  | lst {a : Addr} {vs : List V} {ds : List D} : S a = some (.lst vs) → Reps G ad S vs ds → Rep G ad S (.ref a) (.lst ds)
  | rol {a : Addr} {vs : List V} {ds : List D} : SqL G.K S a vs → Reps G ad S vs ds → Rep G ad S (.ref a) (.rol ds)
  | obj {a dx : Addr} {c : Nat} {vs : List (Str × V)} {fs : List (Str × D)} : S a = some (.ins (G.cl c) dx vs) → RepF G ad S vs fs → Rep G ad S (.ref a) (.obj c fs)
  | cls (c : Nat) : Rep G ad S (.ref (G.cl c)) (.cls c)
  | tok {a : Addr} {n : Nat} : ad[n]? = some a → Rep G ad S (.ref a) (.tok n)
  | dic {a : Addr} : S a = some (.dK []) → Rep G ad S (.ref a) .dic
inductive Reps (G : Glb) (ad : List Addr) (S : Hp) : List V → List D → Prop
  | nil : Reps G ad S [] []
  | cons {v : V} {d : D} {vs : List V} {ds : List D} : Rep G ad S v d → Reps G ad S vs ds → Reps G ad S (v :: vs) (d :: ds)
inductive RepF (G : Glb) (ad : List Addr) (S : Hp) : List (Str × V) → List (Str × D) → Prop
  | nil : RepF G ad S [] []
  | cons {f : Str} {v : V} {d : D} {vs : List (Str × V)} {ds : List (Str × D)} : Rep G ad S v d → RepF G ad S vs ds → RepF G ad S ((f, v) :: vs) ((f, d) :: ds)
end

theorem Same.sqT {K : PySem.W.Frag} {H H' : Hp} {a : Addr} {xs : List V} (e : Same H H') (h : SqT K H a xs) : SqT K H' a xs := by
  rcases h with (h | ⟨o, h⟩) | h
  · exact .inl (.inl (e _ _ h))
  · exact .inl (.inr ⟨o, e _ _ h⟩)
  · exact .inr h

section
variable {G : Glb} {ad : List Addr} {S S' : Hp}
mutual
theorem Rep.mono (e : Same S S') : ∀ {v : V} {d : D}, Rep G ad S v d → Rep G ad S' v d
  | _, _, .non => .non
  | _, _, .bl b => .bl b
  | _, _, .int i => .int i
  | _, _, .str x => .str x
  | _, _, .ty n => .ty n
  | _, _, .tup h r => .tup (TupAt.mono e h) (Reps.mono e r)
  | _, _, .lst h r => .lst (e _ _ h) (Reps.mono e r)
  | _, _, .rol h r => .rol (e.seq h) (Reps.mono e r)
  | _, _, .obj h r => .obj (e _ _ h) (RepF.mono e r)
  | _, _, .cls c => .cls c
  | _, _, .tok h => .tok h
  | _, _, .dic h => .dic (e _ _ h)
theorem Reps.mono (e : Same S S') : ∀ {vs : List V} {ds : List D}, Reps G ad S vs ds → Reps G ad S' vs ds
  | _, _, .nil => .nil
  | _, _, .cons h r => .cons (Rep.mono e h) (Reps.mono e r)
theorem RepF.mono (e : Same S S') : ∀ {vs : List (Str × V)} {ds : List (Str × D)}, RepF G ad S vs ds → RepF G ad S' vs ds
  | _, _, .nil => .nil
  | _, _, .cons h r => .cons (Rep.mono e h) (RepF.mono e r)
end
theorem Reps.len : ∀ {vs : List V} {ds : List D}, Reps G ad S vs ds → vs.length = ds.length
  | _, _, .nil => rfl
  | _, _, .cons _ r => congrArg (· + 1) (Reps.len r)
theorem Reps.get : ∀ {vs : List V} {ds : List D} {i : Nat} {d : D}, Reps G ad S vs ds → ds[i]? = some d → ∃ v, vs[i]? = some v ∧ Rep G ad S v d
  | _, _, 0, _, .cons h _, e => ⟨_, rfl, by cases e; exact h⟩
  | _, _, i + 1, _, .cons _ r, e => Reps.get (i := i) r e
theorem Reps.getV : ∀ {vs : List V} {ds : List D} {i : Nat} {v : V}, Reps G ad S vs ds → vs[i]? = some v → ∃ d, ds[i]? = some d ∧ Rep G ad S v d
  | _, _, 0, _, .cons h _, e => ⟨_, rfl, by cases e; exact h⟩
  | _, _, i + 1, _, .cons _ r, e => Reps.getV (i := i) r e
theorem Reps.append : ∀ {vs : List V} {ds : List D} {ws : List V} {es : List D}, Reps G ad S vs ds → Reps G ad S ws es → Reps G ad S (vs ++ ws) (ds ++ es)
  | _, _, _, _, .nil, s => s
  | _, _, _, _, .cons h r, s => .cons h (Reps.append r s)
theorem Reps.set : ∀ {vs : List V} {ds : List D} {v : V} {d : D} (i : Nat), Reps G ad S vs ds → Rep G ad S v d → Reps G ad S (vs.set i v) (ds.set i d)
  | _, _, _, _, _, .nil, _ => .nil
  | _, _, _, _, 0, .cons _ r, h => .cons h r
  | _, _, _, _, i + 1, .cons h r, k => .cons h (Reps.set i r k)
theorem Reps.take : ∀ {vs : List V} {ds : List D} (n : Nat), Reps G ad S vs ds → Reps G ad S (vs.take n) (ds.take n)
  | _, _, 0, _ => .nil
  | _, _, _ + 1, .nil => .nil
  | _, _, n + 1, .cons h r => .cons h (Reps.take n r)
theorem Reps.drop : ∀ {vs : List V} {ds : List D} (n : Nat), Reps G ad S vs ds → Reps G ad S (vs.drop n) (ds.drop n)
  | _, _, 0, r => r
  | _, _, _ + 1, .nil => .nil
  | _, _, n + 1, .cons _ r => Reps.drop n r
theorem RepF.look : ∀ {vs : List (Str × V)} {ds : List (Str × D)} {f : Str} {d : D}, RepF G ad S vs ds → ds.lookup f = some d → ∃ v, vs.lookup f = some v ∧ Rep G ad S v d
  | _, _, f, d, .cons (f := g) (v := v) (d := d') h r, e => by
    rw [List.lookup_cons] at e ⊢
    split at e
    · cases e; exact ⟨_, rfl, h⟩
    · exact RepF.look r e
theorem RepF.none : ∀ {vs : List (Str × V)} {ds : List (Str × D)} {f : Str}, RepF G ad S vs ds → ds.lookup f = Option.none → vs.lookup f = Option.none
  | _, _, f, .nil, e => rfl
  | _, _, f, .cons (f := g) (v := v) (d := d') h r, e => by
    rw [List.lookup_cons] at e ⊢
    split at e
    · cases e
    · exact RepF.none r e
end

/-! ### what runs: data, the cells, the errors -/
structure Ex where
  c : Nat
  fs : Option (List (Str × D))
inductive Res (α : Type) where
  | ok (a : α) (st : List D)
  | err (x : Ex) (st : List D)
  | bad
abbrev M (α : Type) := List D → Res α
def Res.bind {α β : Type} (r : Res α) (f : α → M β) : Res β := match r with
  | .ok a st => f a st
  | .err x st => .err x st
  | .bad => .bad
abbrev Env' := List (Option D)
/-- an expression, an argument list, a test -/
abbrev ME := Env' → M D
abbrev MA := Env' → M (List D)
abbrev MT := Env' → M Bool
inductive Fl0 where
  | nx (e : Env') | rt (d : D) | bk (e : Env') | ct (e : Env')


def RepX (G : Glb) (ad : List Addr) (S : Hp) (cls : Value) (d : Option Addr) (x : Ex) : Prop :=
  cls = .ref (G.cl x.c) ∧ match x.fs with
    | none => d = none
    | some fs => ∃ a vs, d = some a ∧ S a = some (.xd vs) ∧ RepF G ad S vs fs
theorem RepX.mono {G : Glb} {ad : List Addr} {S S' : Hp} {cls : Value} {d : Option Addr} {x : Ex} (e : Same S S') (h : RepX G ad S cls d x) : RepX G ad S' cls d x := by
  obtain ⟨c, fs⟩ := x
  cases fs with
  | none => exact h
  | some fs =>
    obtain ⟨h1, a, vs, h2, h3, h4⟩ := h
    exact ⟨h1, a, vs, h2, e _ _ h3, h4.mono e⟩

/-- the cells that may change: each a list -/
structure StoOk (G : Glb) (ad : List Addr) (S : Hp) (st : List D) (H : Hp) : Prop where
  len : ad.length = st.length
  nd : ad.Nodup
  at_ : ∀ (n : Nat) (a : Addr), ad[n]? = some a → S a = none ∧ ∃ (ds : List D) (vs : List V), st[n]? = some (D.lst ds) ∧ H a = some (HO.lst vs) ∧ Reps G ad S vs ds
theorem StoOk.has {G : Glb} {ad : List Addr} {S : Hp} {st : List D} {H : Hp} (s : StoOk G ad S st H) {a : Addr} (h : a ∈ ad) : S a = none ∧ ∃ vs : List V, H a = some (HO.lst vs) := by
  obtain ⟨n, hn, e⟩ := List.mem_iff_getElem.mp h
  obtain ⟨h1, ds, vs, _, h2, _⟩ := s.at_ n a (by rw [List.getElem?_eq_getElem hn, e])
  exact ⟨h1, vs, h2⟩

/-- from one heap to the next: the still part grows by new objects alone, all but the cells is as it was -/
structure Ext (ad : List Addr) (S H S' H' : Hp) : Prop where
  same : Same S S'
  new : ∀ a o, S' a = some o → S a = some o ∨ H a = none
  keep : ∀ a o, H a = some o → a ∉ ad → H' a = some o
theorem Ext.refl (ad : List Addr) (S H : Hp) : Ext ad S H S H := ⟨Same.refl _, fun _ _ h => .inl h, fun _ _ h _ => h⟩
theorem Ext.trans {G : Glb} {ad : List Addr} {S H S1 H1 S2 H2 : Hp} {st : List D} (a : Ext ad S H S1 H1) (s : StoOk G ad S1 st H1) (b : Ext ad S1 H1 S2 H2) : Ext ad S H S2 H2 := by
  refine ⟨a.same.trans b.same, fun c o h => ?_, fun c o h hc => b.keep c o (a.keep c o h hc) hc⟩
  rcases b.new c o h with h1 | h1
  · exact a.new c o h1
  · by_cases hc : c ∈ ad
    · obtain ⟨_, vs, hv⟩ := s.has hc
      rw [h1] at hv; cases hv
    · cases e : H c with
      | none => exact .inr rfl
      | some u =>
        have := a.keep c u e hc
        rw [h1] at this; cases this

/-- an activation: the still part and the heap at its entry, the cells -/
structure Act where
  S : Hp
  H : Hp
  ad : List Addr

/-- a caught error as an object: without fields of its own, with such (behind a mark) -/
def exObj (x : Ex) : D := match x.fs with
  | none => .obj x.c []
  | some fs => .obj x.c (("", .non) :: fs)
/-- the slots that own a list; the slot of a caught error, the error's object, its class, its dict -/
structure Ow where
  own : List Nat := []
  exi : Option Nat := none
  exv : Addr × Value × Option Addr := (0, .none, none)
  slf : Option Nat := none
  slv : Addr × Addr := (0, 0)
def Ow.has (O : Ow) (i : Nat) : Bool := O.own.elem i || O.exi == some i || O.slf == some i
/-- the object that is being made: it and its dict are nobody else's -/
def SelfAt (G : Glb) (b : Act) (p : Addr × Addr) (S H : Hp) (o : Option (Option D)) (u : Option (Option V)) : Prop :=
  ∃ (c : Nat) (vs : List (Str × V)) (fs : List (Str × D)), o = some (some (.obj c fs)) ∧ u = some (some (.ref p.1)) ∧ H p.1 = some (.ins (G.cl c) p.2 vs) ∧ H p.2 = some (.own p.1) ∧
    S p.1 = none ∧ S p.2 = none ∧ b.H p.1 = none ∧ b.H p.2 = none ∧ p.1 ∉ b.ad ∧ p.2 ∉ b.ad ∧ RepF G b.ad S vs fs

structure DI (G : Glb) (b : Act) (O : Ow) (S : Hp) (env : Env') (st : List D) (σ : L2.St) (H : Hp) : Prop where
  len : σ.length = env.length
  sub : Same S H
  s0 : Same b.S S
  new : ∀ a o, S a = some o → b.S a = some o ∨ b.H a = none
  keep : ∀ a o, b.H a = some o → a ∉ b.ad → H a = some o
  slot : ∀ (i : Nat) (d : D), env[i]? = some (some d) → O.has i = false → ∃ v, σ[i]? = some (some v) ∧ Rep G b.ad S v d
  own : ∀ (i : Nat) (d : D), i ∈ O.own → env[i]? = some (some d) → ∃ (a : Addr) (vs : List V) (ds : List D), d = D.lst ds ∧ σ[i]? = some (some (V.ref a)) ∧ H a = some (HO.lst vs) ∧ S a = none ∧ b.H a = none ∧ a ∉ b.ad ∧ Reps G b.ad S vs ds
  dist : ∀ (i j : Nat) (a : Addr), i ∈ O.own → j ∈ O.own → (∃ d : D, env[i]? = some (some d)) → (∃ d : D, env[j]? = some (some d)) → σ[i]? = some (some (V.ref a)) → σ[j]? = some (some (V.ref a)) → i = j
  sto : StoOk G b.ad S st H
  exc : ∀ (i : Nat) (d : D), O.exi = some i → env[i]? = some (some d) → ∃ x, d = exObj x ∧ σ[i]? = some (some (V.ref O.exv.1)) ∧ RepX G b.ad S O.exv.2.1 O.exv.2.2 x
  self_ : ∀ i : Nat, O.slf = some i → SelfAt G b O.slv S H env[i]? σ[i]?

/-- behind an expression: the frame as it was -/
theorem DI.ext {G : Glb} {b : Act} {O : Ow} {S : Hp} {env : Env'} {st st' : List D} {σ : L2.St} {H S' H' : Hp} (I : DI G b O S env st σ H) (x : Ext b.ad S H S' H') (su : Same S' H') (s : StoOk G b.ad S' st' H') : DI G b O S' env st' σ H' := by
  have hn : ∀ a o, S' a = some o → S a = some o ∨ (b.H a = none ∧ H a = none) := fun a o h => by
    rcases x.new a o h with h1 | h1
    · exact .inl h1
    · refine .inr ⟨?_, h1⟩
      cases e : b.H a with
      | none => rfl
      | some u =>
        by_cases ha : a ∈ b.ad
        · obtain ⟨_, vs, hv⟩ := I.sto.has ha
          rw [h1] at hv; cases hv
        · have := I.keep a u e ha
          rw [h1] at this; cases this
  have nad : ∀ a, S a = none → (∃ vs : List V, H a = some (HO.lst vs)) → S' a = none := fun a h1 ⟨vs, h2⟩ => by
    cases e : S' a with
    | none => rfl
    | some o =>
      rcases hn a o e with q | ⟨_, q⟩
      · rw [h1] at q; cases q
      · rw [h2] at q; cases q
  have nad2 : ∀ a o, S a = none → H a = some o → S' a = none := fun a o h1 h2 => by
    cases e : S' a with
    | none => rfl
    | some o' =>
      rcases hn a o' e with q | ⟨_, q⟩
      · rw [h1] at q; cases q
      · rw [h2] at q; cases q
  refine ⟨I.len, su, I.s0.trans x.same, fun a o h => ?_, fun a o h ha => x.keep a o (I.keep a o h ha) ha, fun i d h ho => ?_, fun i d hi h => ?_, I.dist, s, fun i d hi h => ?_, fun i hi => ?_⟩
  · rcases hn a o h with q | ⟨q, _⟩
    · exact I.new a o q
    · exact .inr q
  · obtain ⟨v, h1, h2⟩ := I.slot i d h ho
    exact ⟨v, h1, h2.mono x.same⟩
  · obtain ⟨a, vs, ds, h1, h2, h3, h4, h5, ha, h6⟩ := I.own i d hi h
    exact ⟨a, vs, ds, h1, h2, x.keep a _ h3 ha, nad a h4 ⟨vs, h3⟩, h5, ha, h6.mono x.same⟩
  · obtain ⟨y, h1, h2, h3⟩ := I.exc i d hi h
    exact ⟨y, h1, h2, h3.mono x.same⟩
  · obtain ⟨c, vs, fs, h1, h2, h3, h4, h5, h6, h7, h8, h9, h10, h11⟩ := I.self_ i hi
    exact ⟨c, vs, fs, h1, h2, x.keep _ _ h3 h9, x.keep _ _ h4 h10, nad2 _ _ h5 h3, nad2 _ _ h6 h4, h7, h8, h9, h10, h11.mono x.same⟩

/-! ### what is wanted behind a part -/
def wpR {α : Type} (r : Res α) (ok : α → List D → Prop) (err : Ex → List D → Prop) : Prop := match r with
  | .ok a st => ok a st
  | .err x st => err x st
  | .bad => False
theorem wpR_bind {α β : Type} {r : Res α} {f : α → M β} {ok : β → List D → Prop} {err : Ex → List D → Prop} (h : wpR (r.bind f) ok err) : wpR r (fun a st => wpR (f a st) ok err) err := by
  cases r <;> exact h
theorem wpR_imp {α : Type} {r : Res α} {ok ok' : α → List D → Prop} {err err' : Ex → List D → Prop} (h : wpR r ok err) (h1 : ∀ a st, ok a st → ok' a st) (h2 : ∀ x st, err x st → err' x st) : wpR r ok' err' := by
  cases r with
  | ok a st => exact h1 _ _ h
  | err x st => exact h2 _ _ h
  | bad => exact h

def Post (G : Glb) (ad : List Addr) (S H : Hp) (d : D) (st : List D) (Q : VK) : Prop := ∀ v S' H', Ext ad S H S' H' → Same S' H' → StoOk G ad S' st H' → Rep G ad S' v d → Q v H'
def PostA (G : Glb) (ad : List Addr) (S H : Hp) (ds : List D) (st : List D) (Q : List V → Hp → Prop) : Prop := ∀ vs S' H', Ext ad S H S' H' → Same S' H' → StoOk G ad S' st H' → Reps G ad S' vs ds → Q vs H'
def PostB (G : Glb) (ad : List Addr) (S H : Hp) (k : Bool) (st : List D) (Q : Bool → Hp → Prop) : Prop := ∀ S' H', Ext ad S H S' H' → Same S' H' → StoOk G ad S' st H' → Q k H'
def PostX (G : Glb) (ad : List Addr) (S H : Hp) (x : Ex) (st : List D) (R : Value → Option Addr → Hp → Prop) : Prop := ∀ cls dd S' H', Ext ad S H S' H' → Same S' H' → StoOk G ad S' st H' → RepX G ad S' cls dd x → R cls dd H'
section
variable {G : Glb} {ad : List Addr} {S H S1 H1 : Hp} {st st1 : List D}
theorem Post.from_ {d : D} {Q : VK} (x : Ext ad S H S1 H1) (s : StoOk G ad S1 st1 H1) (h : Post G ad S H d st Q) : Post G ad S1 H1 d st Q := fun v S' H' x' => h v S' H' (x.trans s x')
theorem PostA.from_ {ds : List D} {Q : List V → Hp → Prop} (x : Ext ad S H S1 H1) (s : StoOk G ad S1 st1 H1) (h : PostA G ad S H ds st Q) : PostA G ad S1 H1 ds st Q := fun v S' H' x' => h v S' H' (x.trans s x')
theorem PostB.from_ {k : Bool} {Q : Bool → Hp → Prop} (x : Ext ad S H S1 H1) (s : StoOk G ad S1 st1 H1) (h : PostB G ad S H k st Q) : PostB G ad S1 H1 k st Q := fun S' H' x' => h S' H' (x.trans s x')
theorem PostX.from_ {e : Ex} {R : Value → Option Addr → Hp → Prop} (x : Ext ad S H S1 H1) (s : StoOk G ad S1 st1 H1) (h : PostX G ad S H e st R) : PostX G ad S1 H1 e st R := fun c dd S' H' x' => h c dd S' H' (x.trans s x')
end

/-! ### judgements -/
structure DE (G : Glb) (X : Cx) (W : WX) (O : Ow) (e : Expr) (m : ME) : Prop where
  ex : ∃ t, PE X e t ∧ ∀ (b : Act) S env st σ H Q, DI G b O S env st σ H → wpR (m env st) (fun d st' => Post G b.ad S H d st' Q) (fun x st' => PostX G b.ad S H x st' fun c dd H' => W c dd σ H') → t σ H Q
structure DT (G : Glb) (X : Cx) (W : WX) (O : Ow) (e : Expr) (m : MT) : Prop where
  ex : ∃ t, PT X e t ∧ ∀ (b : Act) S env st σ H Q, DI G b O S env st σ H → wpR (m env st) (fun k st' => PostB G b.ad S H k st' Q) (fun x st' => PostX G b.ad S H x st' fun c dd H' => W c dd σ H') → t σ H Q
structure DW (G : Glb) (X : Cx) (W : WX) (O : Ow) (e : Expr) (m : MT) : Prop where
  ex : ∃ t, PW X e t ∧ ∀ (b : Act) S env st σ H Q, DI G b O S env st σ H → wpR (m env st) (fun k st' => PostB G b.ad S H k st' Q) (fun x st' => PostX G b.ad S H x st' fun c dd H' => W c dd σ H') → t σ H Q
structure DA (G : Glb) (X : Cx) (W : WX) (O : Ow) (es : List Expr) (m : MA) : Prop where
  ex : ∃ t, PA X es t ∧ ∀ (b : Act) S env st σ H Q, DI G b O S env st σ H → wpR (m env st) (fun ds st' => PostA G b.ad S H ds st' Q) (fun x st' => PostX G b.ad S H x st' fun c dd H' => W c dd σ H') → t σ H Q

/-- how a block ends -/
inductive Out where
  | nx (env : Env') (st : List D)
  | rt (d : D) (st : List D)
  | bk (env : Env') (st : List D)
  | ct (env : Env') (st : List D)
  | er (x : Ex) (env : Env') (st : List D)
  | bad
abbrev MS := Env' → List D → Out
/-- Ob: what is owned where the loop is left or turned; OE: what may be owned where an error flies -/
def PostS (G : Glb) (b : Act) (Ob : Ow) (OE : Ow → Prop) (W : WX) (O : Ow) (D : Ends) (S : Hp) : Out → Prop
  | .nx env st => ∀ S' σ H, Same S S' → DI G b O S' env st σ H → D.nx σ H
  | .rt d st => ∀ v S' H, Ext b.ad b.S b.H S' H → Same S' H → StoOk G b.ad S' st H → Rep G b.ad S' v d → D.rt v H
  | .bk env st => ∀ S' σ H, Same S S' → DI G b Ob S' env st σ H → D.bk σ H
  | .ct env st => ∀ S' σ H, Same S S' → DI G b Ob S' env st σ H → D.ct σ H
  | .er x env st => ∀ cls dd O' S' σ H, OE O' → Same S S' → DI G b O' S' env st σ H → RepX G b.ad S' cls dd x → W cls dd σ H
  | .bad => False
theorem PostS.from_ {G : Glb} {b : Act} {Ob : Ow} {OE : Ow → Prop} {W : WX} {O : Ow} {D : Ends} {S S1 : Hp} {o : Out} (e : Same S S1) (h : PostS G b Ob OE W O D S o) : PostS G b Ob OE W O D S1 o := by
  cases o with
  | nx env st => exact fun S' σ H x => h S' σ H (e.trans x)
  | rt d st => exact h
  | bk env st => exact fun S' σ H x => h S' σ H (e.trans x)
  | ct env st => exact fun S' σ H x => h S' σ H (e.trans x)
  | er x env st => exact fun cls dd O' S' σ H q x => h cls dd O' S' σ H q (e.trans x)
  | bad => exact h
structure DS (G : Glb) (X : Cx) (W : WX) (Ob : Ow) (OE : Ow → Prop) (O : Ow) (s : Stmt) (O' : Ow) (m : MS) : Prop where
  ex : ∃ t, PS X s t ∧ ∀ (b : Act) S env st σ H D, DI G b O S env st σ H → PostS G b Ob OE W O' D S (m env st) → t D σ H
structure DSs (G : Glb) (X : Cx) (W : WX) (Ob : Ow) (OE : Ow → Prop) (O : Ow) (s : List Stmt) (O' : Ow) (m : MS) : Prop where
  ex : ∃ t, PSs X s t ∧ ∀ (b : Act) S env st σ H D, DI G b O S env st σ H → PostS G b Ob OE W O' D S (m env st) → t D σ H

/-- what an activation has made so far -/
theorem DI.fin {G : Glb} {b : Act} {O : Ow} {S : Hp} {env : Env'} {st : List D} {σ : L2.St} {H : Hp} (I : DI G b O S env st σ H) : Ext b.ad b.S b.H S H := ⟨I.s0, I.new, I.keep⟩
/-- where an activation begins -/
theorem DI.start {G : Glb} {b : Act} {n : Nat} {vs : List V} {ds : List D} {st : List D} (hs : Same b.S b.H) (so : StoOk G b.ad b.S st b.H) (r : Reps G b.ad b.S vs ds) :
    DI G b {} b.S (ds.map some ++ List.replicate n none) st (vs.map some ++ List.replicate n none) b.H := by
  refine ⟨by simp [r.len], hs, Same.refl _, fun _ _ h => .inl h, fun _ _ h _ => h, fun i d h _ => ?_, fun i d hi => by simp at hi, fun i j a hi => by simp at hi, so, fun i d hi => (by cases hi), fun i hi => (by cases hi)⟩
  by_cases hi : i < ds.length
  · rw [List.getElem?_append_left (by simpa using hi), List.getElem?_map] at h
    cases e : ds[i]? with
    | none => rw [e] at h; cases h
    | some d' =>
      rw [e] at h
      have e2 : d' = d := by simpa using h
      subst e2
      obtain ⟨v, h1, h2⟩ := r.get e
      refine ⟨v, ?_, h2⟩
      rw [List.getElem?_append_left (by simpa [r.len] using hi), List.getElem?_map, h1]
      rfl
  · rw [List.getElem?_append_right (by simpa using Nat.le_of_not_lt hi)] at h
    rw [List.getElem?_replicate] at h
    split at h <;> cases h
end DL

/-! DL, second part: expressions. -/
namespace DL
open PySem PySem.Spec PyProof.Rows L2

section
variable {G : Glb} {ad : List Addr} {S H : Hp} {st : List D}
/-- a new object, still from now on -/
theorem new_still {p : Addr} {o : HO} (su : Same S H) (so : StoOk G ad S st H) (hp : H p = none) :
    Ext ad S H (upd S p o) (upd H p o) ∧ Same (upd S p o) (upd H p o) ∧ StoOk G ad (upd S p o) st (upd H p o) := by
  have hs : S p = none := su.free hp
  have e : Same S (upd S p o) := fun b u h => by
    rw [upd_ne (ne_of_none h hs)]; exact h
  refine ⟨⟨e, fun b u h => ?_, fun b u h _ => ?_⟩, fun b u h => ?_, so.len, so.nd, fun n a hn => ?_⟩
  · by_cases hb : b = p
    · subst hb; exact .inr hp
    · rw [upd_ne hb] at h; exact .inl h
  · rw [upd_ne (ne_of_none h hp)]; exact h
  · by_cases hb : b = p
    · subst hb; rw [upd_same] at h ⊢; exact h
    · rw [upd_ne hb] at h ⊢; exact su _ _ h
  · obtain ⟨h1, ds, vs, h2, h3, h4⟩ := so.at_ n a hn
    have ne : a ≠ p := ne_of_none h3 hp
    exact ⟨by rw [upd_ne ne]; exact h1, ds, vs, h2, by rw [upd_ne ne]; exact h3, h4.mono e⟩
theorem Post.here {v : V} {d : D} {Q : VK} (su : Same S H) (so : StoOk G ad S st H) (r : Rep G ad S v d) (h : Post G ad S H d st Q) : Q v H := h v S H (.refl _ _ _) su so r
theorem Post.new {p : Addr} {o : HO} {d : D} {Q : VK} (su : Same S H) (so : StoOk G ad S st H) (hp : H p = none) (r : Rep G ad (upd S p o) (.ref p) d) (h : Post G ad S H d st Q) : Q (.ref p) (upd H p o) := by
  obtain ⟨x, y, z⟩ := new_still (o := o) su so hp
  exact h _ _ _ x y z r
theorem Rep.tupNew {p : Addr} {vs : List V} {ds : List D} (su : Same S H) (hp : H p = none) (r : Reps G ad S vs ds) : Rep G ad (upd S p (.tup vs)) (.ref p) (.tup ds) :=
  .tup (.inl upd_same) (r.mono fun b u h => by rw [upd_ne (ne_of_none h (su.free hp))]; exact h)
theorem Rep.lstNew {p : Addr} {vs : List V} {ds : List D} (su : Same S H) (hp : H p = none) (r : Reps G ad S vs ds) : Rep G ad (upd S p (.lst vs)) (.ref p) (.lst ds) :=
  .lst upd_same (r.mono fun b u h => by rw [upd_ne (ne_of_none h (su.free hp))]; exact h)
theorem Post.tup {p : Addr} {vs : List V} {ds : List D} {Q : VK} (su : Same S H) (so : StoOk G ad S st H) (hp : H p = none) (r : Reps G ad S vs ds) (h : Post G ad S H (.tup ds) st Q) : Q (.ref p) (upd H p (.tup vs)) := h.new su so hp (.tupNew su hp r)
theorem Post.lst {p : Addr} {vs : List V} {ds : List D} {Q : VK} (su : Same S H) (so : StoOk G ad S st H) (hp : H p = none) (r : Reps G ad S vs ds) (h : Post G ad S H (.lst ds) st Q) : Q (.ref p) (upd H p (.lst vs)) := h.new su so hp (.lstNew su hp r)
end

/-! ### operators by data -/
structure OpD (G : Glb) (r : R2) (f : D → D → Option D) : Prop where
  go : ∀ ad S H st x y dx dy d Q, Same S H → StoOk G ad S st H → Rep G ad S x dx → Rep G ad S y dy → f dx dy = some d → Post G ad S H d st Q → r x y H Q
structure UnD (G : Glb) (r : V → Hp → VK → Prop) (f : D → Option D) : Prop where
  go : ∀ ad S H st x dx d Q, Same S H → StoOk G ad S st H → Rep G ad S x dx → f dx = some d → Post G ad S H d st Q → r x H Q
structure CallD (G : Glb) (r : List V → Hp → VK → Prop) (f : List D → Option D) : Prop where
  go : ∀ ad S H st xs ds d Q, Same S H → StoOk G ad S st H → Reps G ad S xs ds → f ds = some d → Post G ad S H d st Q → r xs H Q

def ret? (o : Option D) : M D := fun st => match o with
  | some d => .ok d st
  | none => .bad
def mVar (i : Nat) : ME := fun env st => match env[i]? with
  | some (some d) => .ok d st
  | _ => .bad
def mC (d : D) : ME := fun _ st => .ok d st
def mOp (f : D → D → Option D) (ma mb : ME) : ME := fun env st => (ma env st).bind fun x st1 => (mb env st1).bind fun y => ret? (f x y)
def mUn (f : D → Option D) (ma : ME) : ME := fun env st => (ma env st).bind fun x => ret? (f x)
def mNil : MA := fun _ st => .ok [] st
def mCons (ma : ME) (mr : MA) : MA := fun env st => (ma env st).bind fun x st1 => (mr env st1).bind fun xs st2 => .ok (x :: xs) st2
def mCall1 (f : List D → Option D) (ma : MA) : ME := fun env st => (ma env st).bind fun xs => ret? (f xs)
/-- a value that is a truth -/
def bool? : D → M Bool
  | .bl b => fun st => .ok b st
  | _ => fun _ => .bad
def mTest (ma : ME) : MT := fun env st => (ma env st).bind bool?
def mNot (t : MT) : MT := fun env st => (t env st).bind fun k st1 => .ok (!k) st1
def mAnd (t u : MT) : MT := fun env st => (t env st).bind fun k st1 => if k = true then u env st1 else .ok false st1
def mOr (t u : MT) : MT := fun env st => (t env st).bind fun k st1 => if k = true then .ok true st1 else u env st1
def mNotV (ma : ME) : ME := fun env st => (ma env st).bind fun x st1 => (bool? x st1).bind fun k st2 => .ok (.bl (!k)) st2
def mAndV (ma mb : ME) : ME := fun env st => (ma env st).bind fun x st1 => (bool? x st1).bind fun k st2 => if k = true then mb env st2 else .ok (.bl false) st2
def mOrV (ma mb : ME) : ME := fun env st => (ma env st).bind fun x st1 => (bool? x st1).bind fun k st2 => if k = true then .ok (.bl true) st2 else mb env st2
def mIf (t : MT) (ma mb : ME) : ME := fun env st => (t env st).bind fun k st1 => if k = true then ma env st1 else mb env st1
def tupOk (ds : List D) : M D := fun st => if ds.length ≤ sizeLine then .ok (.tup ds) st else .bad
def lstOk (ds : List D) : M D := fun st => if ds.length ≤ sizeLine then .ok (.lst ds) st else .bad
def mTup (ma : MA) : ME := fun env st => (ma env st).bind tupOk
def mLst (ma : MA) : ME := fun env st => (ma env st).bind lstOk

section
variable {G : Glb} {X : Cx} {W : WX} {O : Ow} {pos : Pos}
theorem de_var (i : Nat) {x : Str} (hN : X.N[i]? = some x := by rfl) (ho : O.has i = false := by rfl) (hv : Vis X.env.scope x := by first | exact Or.inl rfl | exact Or.inr (Or.inl rfl) | exact Or.inr (Or.inr rfl))
    (hd : (x == ("__debug__" : Str)) = false := by decide) (hcd : (x == ("__classdict__" : Str)) = false := by decide) : DE G X W O (.Name x pos) (mVar i) := by
  refine ⟨tVar i, pe_var hN hv hd hcd, fun b S env st σ H Q I h => ?_⟩
  unfold mVar at h
  split at h
  · rename_i d e
    obtain ⟨v, h1, h2⟩ := I.slot i d e ho
    exact ⟨v, h1, Post.here I.sub I.sto h2 h⟩
  · exact h.elim
theorem de_const {e : Expr} {v : V} {d : D} (h : PE X e (tC v)) (r : ∀ ad S, Rep G ad S v d) : DE G X W O e (mC d) :=
  ⟨_, h, fun b S env st σ H Q I q => Post.here I.sub I.sto (r _ _) q⟩
theorem de_int {i : Int} {j} : DE G X W O (.Constant (.int i) j pos) (mC (.int i)) := de_const pe_int fun _ _ => .int i
theorem de_bl {b : Bool} {j} : DE G X W O (.Constant (.bool b) j pos) (mC (.bl b)) := de_const pe_bl fun _ _ => .bl b
theorem de_non {j} : DE G X W O (.Constant .none j pos) (mC .non) := de_const pe_non fun _ _ => .non
theorem de_str {x : Str} {j} : DE G X W O (.Constant (.str x) j pos) (mC (.str x)) := de_const pe_str fun _ _ => .str x
/-- a module's constant, an int or a text -/
theorem de_globI {x : Str} {i : Int} {t : Tok} (hm : X.mg x = some (.int i t)) (hg : Gl X x := by rfl) (hd : (x == ("__debug__" : Str)) = false := by decide) : DE G X W O (.Name x pos) (mC (.int i)) := de_const (v := .int i) (pe_glob hg hm ⟨_, rfl⟩ hd) fun _ _ => .int i
/-- an own class as a value -/
theorem de_globC {x : Str} (c : Nat) (hm : X.mg x = some (.ref (G.cl c))) (hg : Gl X x := by rfl) (hd : (x == ("__debug__" : Str)) = false := by decide) : DE G X W O (.Name x pos) (mC (.cls c)) := de_const (v := .ref (G.cl c)) (pe_glob hg hm rfl hd) fun _ _ => .cls c
/-- a built-in class as a value -/
theorem de_globT {x : Str} (n : String) (hm : X.mg x = none) (hv : bootBuiltins x = some (.type n)) (hg : Gl X x := by rfl) (hn : x ≠ "__name__" := by decide) (hd : (x == ("__debug__" : Str)) = false := by decide) : DE G X W O (.Name x pos) (mC (.ty n)) := de_const (v := .ty n) (pe_bltn hg hm hv rfl hn hd) fun _ _ => .ty n

/-- the two parts of an operator -/
theorem two_parts {a b : Expr} {ma mb : ME} {β : Type} {k : D → D → M β} (ha : DE G X W O a ma) (hb : DE G X W O b mb) : ∃ ta tb, PE X a ta ∧ PE X b tb ∧
    ∀ (b : Act) S env st σ H (ok : β → List D → Prop) (R : V → V → Hp → Prop), DI G b O S env st σ H →
      wpR ((ma env st).bind fun x st1 => (mb env st1).bind fun y => k x y) ok (fun x st' => PostX G b.ad S H x st' fun c dd H' => W c dd σ H') →
      (∀ x y dx dy S' H' st', Ext b.ad S H S' H' → DI G b O S' env st' σ H' → Rep G b.ad S' x dx → Rep G b.ad S' y dy → wpR (k dx dy st') ok (fun x st' => PostX G b.ad S H x st' fun c dd H' => W c dd σ H') → R x y H') →
      ta σ H fun x H1 => tb σ H1 fun y H2 => R x y H2 := by
  obtain ⟨ta, pa, wa⟩ := ha.ex
  obtain ⟨tb, pb, wb⟩ := hb.ex
  refine ⟨ta, tb, pa, pb, fun b S env st σ H ok R I h q => ?_⟩
  refine wa b S env st σ H _ I (wpR_imp (wpR_bind h) (fun dx st1 h1 => ?_) fun _ _ z => z)
  intro x S1 H1 x1 su1 so1 r1
  have I1 := I.ext x1 su1 so1
  refine wb b S1 env st1 σ H1 _ I1 (wpR_imp (wpR_bind h1) (fun dy st2 h2 => ?_) fun _ _ z => z.from_ x1 so1)
  intro y S2 H2 x2 su2 so2 r2
  exact q x y dx dy S2 H2 st2 (x1.trans so1 x2) (I1.ext x2 su2 so2) (r1.mono x2.same) r2 h2

theorem wp_ret {o : Option D} {st : List D} {ok : D → List D → Prop} {er : Ex → List D → Prop} (h : wpR (ret? o st) ok er) : ∃ d, o = some d ∧ ok d st := by
  cases o with
  | none => exact h.elim
  | some d => exact ⟨d, rfl, h⟩
theorem de_op {op : Operator} {a b : Expr} {ma mb : ME} {r : R2} {f : D → D → Option D} (ho : OpR X (binaryOp op) r) (hf : OpD G r f) (ha : DE G X W O a ma) (hb : DE G X W O b mb) : DE G X W O (.BinOp a op b pos) (mOp f ma mb) := by
  obtain ⟨ta, tb, pa, pb, w⟩ := two_parts (k := fun x y => ret? (f x y)) ha hb
  refine ⟨_, pe_op ho pa pb, fun b S env st σ H Q I h => w b S env st σ H _ (fun x y H2 => r x y H2 Q) I h fun x y dx dy S' H' st' e I' rx ry hk => ?_⟩
  obtain ⟨d, e1, q⟩ := wp_ret hk
  exact hf.go b.ad S' H' st' x y dx dy d Q I'.sub I'.sto rx ry e1 (Post.from_ e I'.sto q)
theorem de_cmp {op : CmpOp} {a b : Expr} {ma mb : ME} {r : R2} {f : D → D → Option D} (ho : OpR X (compareOp op) r) (hf : OpD G r f) (ha : DE G X W O a ma) (hb : DE G X W O b mb) (hm : behindInMarks op b = false := by first | exact nomark _ | rfl) : DE G X W O (.Compare a [op] [b] pos) (mOp f ma mb) := by
  obtain ⟨ta, tb, pa, pb, w⟩ := two_parts (k := fun x y => ret? (f x y)) ha hb
  refine ⟨_, pe_cmpR ho pa pb hm, fun b S env st σ H Q I h => w b S env st σ H _ (fun x y H2 => r x y H2 Q) I h fun x y dx dy S' H' st' e I' rx ry hk => ?_⟩
  obtain ⟨d, e1, q⟩ := wp_ret hk
  exact hf.go b.ad S' H' st' x y dx dy d Q I'.sub I'.sto rx ry e1 (Post.from_ e I'.sto q)
theorem de_un {op : UnaryOp} {a : Expr} {ma : ME} {r : V → Hp → VK → Prop} {f : D → Option D} (ho : UnR X (unaryOp op) r) (hf : UnD G r f) (ha : DE G X W O a ma) : DE G X W O (.UnaryOp op a pos) (mUn f ma) := by
  obtain ⟨ta, pa, wa⟩ := ha.ex
  refine ⟨_, pe_un ho pa, fun b S env st σ H Q I h => wa b S env st σ H _ I (wpR_imp (wpR_bind h) (fun dx st1 h1 => ?_) fun _ _ z => z)⟩
  intro x S1 H1 x1 su1 so1 r1
  obtain ⟨d, e1, q⟩ := wp_ret h1
  exact hf.go b.ad S1 H1 st1 x dx d Q su1 so1 r1 e1 (Post.from_ x1 so1 q)
/-- an expression as a test -/
theorem dt_val {e : Expr} {m : ME} (h : DE G X W O e m) (he : ∀ whole, isTrue e X.env whole = (do let v ← whole; standAt e.pos; holding [v] (truthy v)) := by intro _; rfl) : DT G X W O e (mTest m) := by
  obtain ⟨t, p, w⟩ := h.ex
  refine ⟨_, pt_val p he, fun b S env st σ H Q I h => w b S env st σ H _ I (wpR_imp (wpR_bind h) (fun dx st1 h1 => ?_) fun _ _ z => z)⟩
  intro x S1 H1 x1 su1 so1 r1
  cases r1 <;> first | exact h1.elim | exact ⟨_, rfl, h1 _ _ x1 su1 so1⟩
theorem dt_cmp {op : CmpOp} {a b : Expr} {ma mb : ME} {r : R2} {f : D → D → Option D} (ho : OpR X (compareOp op) r) (hf : OpD G r f) (ha : DE G X W O a ma) (hb : DE G X W O b mb) (hm : behindInMarks op b = false := by first | exact nomark _ | rfl) : DT G X W O (.Compare a [op] [b] pos) (mTest (mOp f ma mb)) := by
  obtain ⟨ta, pa, wa⟩ := ha.ex
  obtain ⟨tb, pb, wb⟩ := hb.ex
  refine ⟨_, pt_cmpR ho pa pb hm, fun b S env st σ H Q I h => ?_⟩
  have w := (de_cmp (pos := pos) (W := W) ho hf ha hb hm).ex
  have h' := wpR_bind h
  refine wa b S env st σ H _ I (wpR_imp (wpR_bind h') (fun dx st1 h1 => ?_) fun _ _ z => z)
  intro x S1 H1 x1 su1 so1 r1
  have I1 := I.ext x1 su1 so1
  refine wb b S1 env st1 σ H1 _ I1 (wpR_imp (wpR_bind h1) (fun dy st2 h2 => ?_) fun _ _ z => z.from_ x1 so1)
  intro y S2 H2 x2 su2 so2 r2
  obtain ⟨d, e1, q⟩ := wp_ret h2
  refine hf.go b.ad S2 H2 st2 x y dx dy d _ su2 so2 (r1.mono x2.same) r2 e1 fun v S3 H3 x3 su3 so3 r3 => ?_
  cases r3 <;> first | exact q.elim | exact ⟨_, rfl, q _ _ ((x1.trans so1 x2).trans so2 x3) su3 so3⟩

/-! ### and, or, not, if -/
theorem DW.dt {e : Expr} {m : MT} (h : DW G X W O e m) : DT G X W O e m := let ⟨t, p, w⟩ := h.ex; ⟨t, p.pt, w⟩
variable {a b : Expr} {rest : List Expr} {ma mb : ME} {t u : MT}
theorem dw_and1 (ha : DT G X W O a t) : DW G X W O (.BoolOp .And [a] pos) t := let ⟨t, p, w⟩ := ha.ex; ⟨t, pw_and1 p, w⟩
theorem dw_or1 (ha : DT G X W O a t) : DW G X W O (.BoolOp .Or [a] pos) t := let ⟨t, p, w⟩ := ha.ex; ⟨t, pw_or1 p, w⟩
theorem dw_and (ha : DT G X W O a t) (hb : DW G X W O (.BoolOp .And (b :: rest) pos) u) : DW G X W O (.BoolOp .And (a :: b :: rest) pos) (mAnd t u) := by
  obtain ⟨ta, pa, wa⟩ := ha.ex
  obtain ⟨tb, pb, wb⟩ := hb.ex
  refine ⟨_, pw_and pa pb, fun b S env st σ H Q I h => wa b S env st σ H _ I (wpR_imp (wpR_bind h) (fun k st1 h1 => ?_) fun _ _ z => z)⟩
  intro S1 H1 x1 su1 so1
  cases k with
  | true => exact wb b S1 env st1 σ H1 Q (I.ext x1 su1 so1) (wpR_imp h1 (fun _ _ z => z.from_ x1 so1) fun _ _ z => z.from_ x1 so1)
  | false => exact h1 _ _ x1 su1 so1
theorem dw_or (ha : DT G X W O a t) (hb : DW G X W O (.BoolOp .Or (b :: rest) pos) u) : DW G X W O (.BoolOp .Or (a :: b :: rest) pos) (mOr t u) := by
  obtain ⟨ta, pa, wa⟩ := ha.ex
  obtain ⟨tb, pb, wb⟩ := hb.ex
  refine ⟨_, pw_or pa pb, fun b S env st σ H Q I h => wa b S env st σ H _ I (wpR_imp (wpR_bind h) (fun k st1 h1 => ?_) fun _ _ z => z)⟩
  intro S1 H1 x1 su1 so1
  cases k with
  | false => exact wb b S1 env st1 σ H1 Q (I.ext x1 su1 so1) (wpR_imp h1 (fun _ _ z => z.from_ x1 so1) fun _ _ z => z.from_ x1 so1)
  | true => exact h1 _ _ x1 su1 so1
theorem dt_not (ha : DT G X W O a t) : DT G X W O (.UnaryOp .Not a pos) (mNot t) := by
  obtain ⟨ta, pa, wa⟩ := ha.ex
  refine ⟨_, pt_not pa, fun b S env st σ H Q I h => wa b S env st σ H _ I (wpR_imp (wpR_bind h) (fun k st1 h1 => ?_) fun _ _ z => z)⟩
  exact h1
theorem de_one {op} (h : DE G X W O a ma) : DE G X W O (.BoolOp op [a] pos) ma := let ⟨t, p, w⟩ := h.ex; ⟨t, pe_one p, w⟩
theorem bool_of {x : V} {dx : D} {ad : List Addr} {S : Hp} {st : List D} {β : Type} {k : Bool → M β} {ok : β → List D → Prop} {er : Ex → List D → Prop} (r : Rep G ad S x dx) (h : wpR ((bool? dx st).bind k) ok er) : ∃ c, x = .bl c ∧ dx = .bl c ∧ wpR (k c st) ok er := by
  cases r <;> first | exact h.elim | exact ⟨_, rfl, rfl, h⟩
theorem de_and (ha : DE G X W O a ma) (hb : DE G X W O (.BoolOp .And (b :: rest) pos) mb) : DE G X W O (.BoolOp .And (a :: b :: rest) pos) (mAndV ma mb) := by
  obtain ⟨ta, pa, wa⟩ := ha.ex
  obtain ⟨tb, pb, wb⟩ := hb.ex
  refine ⟨_, pe_and pa pb, fun b S env st σ H Q I h => wa b S env st σ H _ I (wpR_imp (wpR_bind h) (fun dx st1 h1 => ?_) fun _ _ z => z)⟩
  intro x S1 H1 x1 su1 so1 r1
  obtain ⟨c, e, e2, h2⟩ := bool_of r1 h1
  refine ⟨c, e, ?_⟩
  cases c with
  | true => exact wb b S1 env st1 σ H1 Q (I.ext x1 su1 so1) (wpR_imp h2 (fun _ _ z => z.from_ x1 so1) fun _ _ z => z.from_ x1 so1)
  | false => exact h2 _ _ _ x1 su1 so1 (.bl false)
theorem de_or (ha : DE G X W O a ma) (hb : DE G X W O (.BoolOp .Or (b :: rest) pos) mb) : DE G X W O (.BoolOp .Or (a :: b :: rest) pos) (mOrV ma mb) := by
  obtain ⟨ta, pa, wa⟩ := ha.ex
  obtain ⟨tb, pb, wb⟩ := hb.ex
  refine ⟨_, pe_or pa pb, fun b S env st σ H Q I h => wa b S env st σ H _ I (wpR_imp (wpR_bind h) (fun dx st1 h1 => ?_) fun _ _ z => z)⟩
  intro x S1 H1 x1 su1 so1 r1
  obtain ⟨c, e, e2, h2⟩ := bool_of r1 h1
  refine ⟨c, e, ?_⟩
  cases c with
  | false => exact wb b S1 env st1 σ H1 Q (I.ext x1 su1 so1) (wpR_imp h2 (fun _ _ z => z.from_ x1 so1) fun _ _ z => z.from_ x1 so1)
  | true => exact h2 _ _ _ x1 su1 so1 (.bl true)
theorem de_not (ha : DE G X W O a ma) : DE G X W O (.UnaryOp .Not a pos) (mNotV ma) := by
  obtain ⟨ta, pa, wa⟩ := ha.ex
  refine ⟨_, pe_not pa, fun b S env st σ H Q I h => wa b S env st σ H _ I (wpR_imp (wpR_bind h) (fun dx st1 h1 => ?_) fun _ _ z => z)⟩
  intro x S1 H1 x1 su1 so1 r1
  obtain ⟨c, e, e2, h2⟩ := bool_of r1 h1
  exact ⟨c, e, h2 _ _ _ x1 su1 so1 (.bl _)⟩
theorem de_if {c : Expr} (hc : DT G X W O c t) (ha : DE G X W O a ma) (hb : DE G X W O b mb) : DE G X W O (.IfExp c a b pos) (mIf t ma mb) := by
  obtain ⟨tc, pc, wc⟩ := hc.ex
  obtain ⟨ta, pa, wa⟩ := ha.ex
  obtain ⟨tb, pb, wb⟩ := hb.ex
  refine ⟨_, pe_ifExp pc pa pb, fun b S env st σ H Q I h => wc b S env st σ H _ I (wpR_imp (wpR_bind h) (fun k st1 h1 => ?_) fun _ _ z => z)⟩
  intro S1 H1 x1 su1 so1
  cases k with
  | true => exact wa b S1 env st1 σ H1 Q (I.ext x1 su1 so1) (wpR_imp h1 (fun _ _ z => z.from_ x1 so1) fun _ _ z => z.from_ x1 so1)
  | false => exact wb b S1 env st1 σ H1 Q (I.ext x1 su1 so1) (wpR_imp h1 (fun _ _ z => z.from_ x1 so1) fun _ _ z => z.from_ x1 so1)

/-! ### arguments, displays -/
theorem da_nil : DA G X W O [] mNil := ⟨_, pa_nil, fun b S env st σ H Q I h => h _ _ _ (.refl _ _ _) I.sub I.sto .nil⟩
theorem da_cons {e : Expr} {es : List Expr} {mr : MA} (ha : DE G X W O e ma) (hr : DA G X W O es mr) (hs : starEach (e :: es) X.env = (false, eval e X.env) :: starEach es X.env := by rfl) : DA G X W O (e :: es) (mCons ma mr) := by
  obtain ⟨ta, pa, wa⟩ := ha.ex
  obtain ⟨tb, pb, wb⟩ := hr.ex
  refine ⟨_, pa_cons pa pb hs, fun b S env st σ H Q I h => wa b S env st σ H _ I (wpR_imp (wpR_bind h) (fun dx st1 h1 => ?_) fun _ _ z => z)⟩
  intro x S1 H1 x1 su1 so1 r1
  refine wb b S1 env st1 σ H1 _ (I.ext x1 su1 so1) (wpR_imp (wpR_bind h1) (fun ds st2 h2 => ?_) fun _ _ z => z.from_ x1 so1)
  intro xs S2 H2 x2 su2 so2 r2
  exact h2 _ _ _ (x1.trans so1 x2) su2 so2 (.cons (r1.mono x2.same) r2)
variable {es : List Expr} {mr : MA}
theorem de_tup {k} (h : DA G X W O es mr) : DE G X W O (.Tuple es k pos) (mTup mr) := by
  obtain ⟨t, p, w⟩ := h.ex
  refine ⟨_, pe_tup p, fun b S env st σ H Q I h => w b S env st σ H _ I (wpR_imp (wpR_bind h) (fun ds st1 h1 => ?_) fun _ _ z => z)⟩
  intro xs S1 H1 x1 su1 so1 r1
  unfold tupOk at h1
  split at h1
  · rename_i hz
    exact ⟨by rw [r1.len]; exact hz, fun p hp => Post.tup su1 so1 hp r1 (Post.from_ x1 so1 h1)⟩
  · exact h1.elim
theorem de_lst (h : DA G X W O es mr) : DE G X W O (.List es pos) (mLst mr) := by
  obtain ⟨t, p, w⟩ := h.ex
  refine ⟨_, pe_lst p, fun b S env st σ H Q I h => w b S env st σ H _ I (wpR_imp (wpR_bind h) (fun ds st1 h1 => ?_) fun _ _ z => z)⟩
  intro xs S1 H1 x1 su1 so1 r1
  unfold lstOk at h1
  split at h1
  · rename_i hz
    exact ⟨by rw [r1.len]; exact hz, fun p hp => Post.lst su1 so1 hp r1 (Post.from_ x1 so1 h1)⟩
  · exact h1.elim
/-! ### calls of built-ins -/
theorem args_then {ta : TA} {ma : MA} {f : List D → Option D} {r : List V → Hp → VK → Prop} (hf : CallD G r f) {b : Act} {S : Hp} {env : Env'} {st : List D} {σ : L2.St} {H : Hp} {Q : VK}
    (w : ∀ (b : Act) S env st σ H Q, DI G b O S env st σ H → wpR (ma env st) (fun ds st' => PostA G b.ad S H ds st' Q) (fun x st' => PostX G b.ad S H x st' fun c dd H' => W c dd σ H') → ta σ H Q) (I : DI G b O S env st σ H)
    (h : wpR (mCall1 f ma env st) (fun d st' => Post G b.ad S H d st' Q) (fun x st' => PostX G b.ad S H x st' fun c dd H' => W c dd σ H')) : ta σ H fun xs H1 => r xs H1 Q := by
  refine w b S env st σ H _ I (wpR_imp (wpR_bind h) (fun ds st1 h1 => ?_) fun _ _ z => z)
  intro xs S1 H1 x1 su1 so1 r1
  obtain ⟨d, e1, q⟩ := wp_ret h1
  exact hf.go b.ad S1 H1 st1 xs ds d Q su1 so1 r1 e1 (Post.from_ x1 so1 q)
variable {x : Str} {p : Pos} {e : Expr} {ma' : MA}
theorem de_callB {id : String} {r : List V → Hp → VK → Prop} {f : List D → Option D} (hc : CallR X (.builtin id) r) (hf : CallD G r f) (hm : X.mg x = none) (hv : bootBuiltins x = some (.builtin id)) (ha : DA G X W O (e :: es) ma') (hg : Gl X x := by rfl)
    (hn : x ≠ "__name__" := by decide) (hdb : (x == ("__debug__" : Str)) = false := by decide)
    (he : starEach (e :: es) X.env = (false, eval e X.env) :: starEach es X.env := by rfl) (hpl : (backTo pos (starEach es X.env)).any (·.1) = false := by rfl) : DE G X W O (.Call (.Name x p) (e :: es) [] pos) (mCall1 f ma') := by
  obtain ⟨t, pa, w⟩ := ha.ex
  exact ⟨_, pe_callB hc hg hm hv pa hn hdb he hpl, fun b S env st σ H Q I h => args_then hf w I h⟩
theorem de_callTy {T : String} {r : List V → Hp → VK → Prop} {f : List D → Option D} (hc : CallR X (.type T) r) (hf : CallD G r f) (hm : X.mg x = none) (hv : bootBuiltins x = some (.type T)) (ha : DA G X W O (e :: es) ma') (hg : Gl X x := by rfl)
    (hn : x ≠ "__name__" := by decide) (hdb : (x == ("__debug__" : Str)) = false := by decide)
    (he : starEach (e :: es) X.env = (false, eval e X.env) :: starEach es X.env := by rfl) (hpl : (backTo pos (starEach es X.env)).any (·.1) = false := by rfl) : DE G X W O (.Call (.Name x p) (e :: es) [] pos) (mCall1 f ma') := by
  obtain ⟨t, pa, w⟩ := ha.ex
  exact ⟨_, pe_callTy hc hg hm hv pa hn hdb he hpl, fun b S env st σ H Q I h => args_then hf w I h⟩
/-- a built-in function that stands in the module under a name -/
theorem de_callG {id : String} {r : List V → Hp → VK → Prop} {f : List D → Option D} (hc : CallR X (.builtin id) r) (hf : CallD G r f) (hm : X.mg x = some (.builtin id)) (ha : DA G X W O (e :: es) ma') (hg : Gl X x := by rfl)
    (hdb : (x == ("__debug__" : Str)) = false := by decide)
    (he : starEach (e :: es) X.env = (false, eval e X.env) :: starEach es X.env := by rfl) (hpl : (backTo pos (starEach es X.env)).any (·.1) = false := by rfl) : DE G X W O (.Call (.Name x p) (e :: es) [] pos) (mCall1 f ma') := by
  obtain ⟨t, pa, w⟩ := ha.ex
  exact ⟨_, pe_callBfun hc hg hm pa hdb he hpl, fun b S env st σ H Q I h => args_then hf w I h⟩
/-- o[i] -/
theorem de_ix {r : R2} {f : D → D → Option D} (hr : IxR X r) (hf : OpD G r f) (ha : DE G X W O a ma) (hb : DE G X W O b mb) (hs : PlainIx b := by intro _ _; rfl) : DE G X W O (.Subscript a b pos) (mOp f ma mb) := by
  obtain ⟨ta, tb, pa, pb, w⟩ := two_parts (k := fun x y => ret? (f x y)) ha hb
  refine ⟨_, pe_ix hr pa pb hs, fun b S env st σ H Q I h => w b S env st σ H _ (fun x y H2 => r x y H2 Q) I h fun x y dx dy S' H' st' e I' rx ry hk => ?_⟩
  obtain ⟨d, e1, q⟩ := wp_ret hk
  exact hf.go b.ad S' H' st' x y dx dy d Q I'.sub I'.sto rx ry e1 (Post.from_ e I'.sto q)
end
end DL

/-! DL, third part: statements, defs and their calls, errors, loops. -/
namespace DL
open PySem PySem.Spec PyProof.Rows L2

theorem DE.conv {G : Glb} {X : Cx} {W : WX} {O : Ow} {e : Expr} {m m' : ME} (h : DE G X W O e m) (q : m = m') : DE G X W O e m' := q ▸ h

/-! ### stores into slots -/
section
variable {G : Glb} {b : Act} {O : Ow} {S H : Hp} {env : Env'} {st : List D} {σ : L2.St}
theorem DI.set {i : Nat} {v : V} {d : D} (I : DI G b O S env st σ H) (r : Rep G b.ad S v d) (hi : O.has i = false) : DI G b O S (env.set i (some d)) st (σ.set i (some v)) H := by
  have h1 : i ∉ O.own := fun z => by
    unfold Ow.has at hi
    rw [List.elem_eq_true_of_mem z] at hi; cases hi
  have h2 : O.exi ≠ some i := fun z => by
    unfold Ow.has at hi
    rw [z] at hi; simp at hi
  have h3 : O.slf ≠ some i := fun z => by
    unfold Ow.has at hi
    rw [z] at hi; simp at hi
  have other : ∀ {j : Nat} {d' : D}, j ≠ i → (env.set i (some d))[j]? = some (some d') → env[j]? = some (some d') := fun {j d'} hj h => by
    rw [List.getElem?_set_ne (Ne.symm hj)] at h; exact h
  refine ⟨by rw [List.length_set, List.length_set]; exact I.len, I.sub, I.s0, I.new, I.keep, fun j d' h ho => ?_, fun j d' hj h => ?_, fun j k a hj hk e1 e2 q1 q2 => ?_, I.sto, fun j d' hj h => ?_, fun j hj => ?_⟩
  · by_cases hj : j = i
    · subst hj
      by_cases hl : j < env.length
      · rw [List.getElem?_set_self hl] at h
        have e : d = d' := by simpa using h
        subst e
        exact ⟨v, by rw [List.getElem?_set_self (by rw [I.len]; exact hl)], r⟩
      · rw [List.getElem?_eq_none_iff.mpr (by rw [List.length_set]; exact Nat.le_of_not_lt hl)] at h; cases h
    · obtain ⟨w, q1, q2⟩ := I.slot j d' (other hj h) ho
      exact ⟨w, by rw [List.getElem?_set_ne (Ne.symm hj)]; exact q1, q2⟩
  · have hne : j ≠ i := fun z => h1 (z ▸ hj)
    obtain ⟨a, vs, ds, q1, q2, q3⟩ := I.own j d' hj (other hne h)
    exact ⟨a, vs, ds, q1, by rw [List.getElem?_set_ne (Ne.symm hne)]; exact q2, q3⟩
  · have hne1 : j ≠ i := fun z => h1 (z ▸ hj)
    have hne2 : k ≠ i := fun z => h1 (z ▸ hk)
    rw [List.getElem?_set_ne (Ne.symm hne1)] at q1
    rw [List.getElem?_set_ne (Ne.symm hne2)] at q2
    obtain ⟨d1, e1⟩ := e1
    obtain ⟨d2, e2⟩ := e2
    exact I.dist j k a hj hk ⟨d1, other hne1 e1⟩ ⟨d2, other hne2 e2⟩ q1 q2
  · have hne : j ≠ i := fun z => h2 (z ▸ hj)
    obtain ⟨y, q1, q2, q3⟩ := I.exc j d' hj (other hne h)
    exact ⟨y, q1, by rw [List.getElem?_set_ne (Ne.symm hne)]; exact q2, q3⟩
  · have hne : j ≠ i := fun z => h3 (z ▸ hj)
    rw [List.getElem?_set_ne (Ne.symm hne), List.getElem?_set_ne (Ne.symm hne)]
    exact I.self_ j hj
/-- a slot forgotten -/
theorem DI.forget {i : Nat} (I : DI G b O S env st σ H) (hi : O.has i = false) : DI G b O S (env.set i none) st (σ.set i none) H := by
  have other : ∀ {j : Nat} {d' : D}, (env.set i none)[j]? = some (some d') → j ≠ i ∧ env[j]? = some (some d') := fun {j d'} h => by
    by_cases hj : j = i
    · subst hj
      by_cases hl : j < env.length
      · rw [List.getElem?_set_self hl] at h; cases h
      · rw [List.getElem?_eq_none_iff.mpr (by rw [List.length_set]; exact Nat.le_of_not_lt hl)] at h; cases h
    · rw [List.getElem?_set_ne (Ne.symm hj)] at h; exact ⟨hj, h⟩
  refine ⟨by rw [List.length_set, List.length_set]; exact I.len, I.sub, I.s0, I.new, I.keep, fun j d' h ho => ?_, fun j d' hj h => ?_, fun j k a hj hk e1 e2 q1 q2 => ?_, I.sto, fun j d' hj h => ?_, fun j hj => ?_⟩
  · obtain ⟨hne, h⟩ := other h
    obtain ⟨w, q1, q2⟩ := I.slot j d' h ho
    exact ⟨w, by rw [List.getElem?_set_ne (Ne.symm hne)]; exact q1, q2⟩
  · obtain ⟨hne, h⟩ := other h
    obtain ⟨a, vs, ds, q1, q2, q3⟩ := I.own j d' hj h
    exact ⟨a, vs, ds, q1, by rw [List.getElem?_set_ne (Ne.symm hne)]; exact q2, q3⟩
  · obtain ⟨d1, e1⟩ := e1
    obtain ⟨d2, e2⟩ := e2
    obtain ⟨hne1, e1⟩ := other e1
    obtain ⟨hne2, e2⟩ := other e2
    rw [List.getElem?_set_ne (Ne.symm hne1)] at q1
    rw [List.getElem?_set_ne (Ne.symm hne2)] at q2
    exact I.dist j k a hj hk ⟨d1, e1⟩ ⟨d2, e2⟩ q1 q2
  · obtain ⟨hne, h⟩ := other h
    obtain ⟨y, q1, q2, q3⟩ := I.exc j d' hj h
    exact ⟨y, q1, by rw [List.getElem?_set_ne (Ne.symm hne)]; exact q2, q3⟩
  · have hne : j ≠ i := fun z => by
      subst z
      unfold Ow.has at hi
      rw [hj] at hi; simp at hi
    rw [List.getElem?_set_ne (Ne.symm hne), List.getElem?_set_ne (Ne.symm hne)]
    exact I.self_ j hj
end

/-! ### statements -/
/-- from an expression to a statement -/
def mDo (m : ME) (k : D → MS) : MS := fun env st => match m env st with
  | .ok d st1 => k d env st1
  | .err x st1 => .er x env st1
  | .bad => .bad
def mSeq (m n : MS) : MS := fun env st => match m env st with
  | .nx env1 st1 => n env1 st1
  | o => o
def mNx : MS := fun env st => .nx env st
def mBrk : MS := fun env st => .bk env st
def mCnt : MS := fun env st => .ct env st
def mSet (i : Nat) (m : ME) : MS := mDo m fun d env st => .nx (env.set i (some d)) st
def mRet (m : ME) : MS := mDo m fun d _ st => .rt d st
def mRetN : MS := fun _ st => .rt .non st
def mDrop (m : ME) : MS := mDo m fun _ env st => .nx env st
def mIfS (t : MT) (m n : MS) : MS := fun env st => match t env st with
  | .ok k st1 => if k = true then m env st1 else n env st1
  | .err x st1 => .er x env st1
  | .bad => .bad
/-- a target -/
abbrev MG := D → Env' → Option Env'
def gNm (i : Nat) : MG := fun d env => some (env.set i (some d))
def gsNil : List D → Env' → Option Env' := fun ds env => match ds with
  | [] => some env
  | _ => none
def gsCons (g : MG) (r : List D → Env' → Option Env') : List D → Env' → Option Env' := fun ds env => match ds with
  | d :: ds => (g d env).bind (r ds)
  | [] => none
def gTp (r : List D → Env' → Option Env') : MG := fun d env => match d with
  | .tup ds => r ds env
  | _ => none
def mAsg (m : ME) (g : MG) : MS := mDo m fun d env st => match g d env with
  | some env1 => .nx env1 st
  | none => .bad

section
variable {G : Glb} {X : Cx} {W : WX} {Ob : Ow} {OE : Ow → Prop} {O O1 O2 : Ow} {pos : Pos} {s : Stmt} {rest : List Stmt} {m n : MS} {e : Expr} {me : ME}
theorem dss_nil : DSs G X W Ob OE O [] O mNx := ⟨_, pss_nil, fun b S env st σ H D I h => h S σ H (.refl _) I⟩
theorem dss_cons (h1 : DS G X W Ob OE O s O1 m) (h2 : DSs G X W Ob OE O1 rest O2 n) : DSs G X W Ob OE O (s :: rest) O2 (mSeq m n) := by
  obtain ⟨t, p, w⟩ := h1.ex
  obtain ⟨u, q, w2⟩ := h2.ex
  refine ⟨_, pss_cons p q, fun b S env st σ H D I h => w b S env st σ H _ I ?_⟩
  unfold mSeq at h
  cases e : m env st with
  | nx env1 st1 =>
    rw [e] at h
    intro S1 σ1 H1 x1 I1
    exact w2 b S1 env1 st1 σ1 H1 D I1 (h.from_ x1)
  | rt d st1 => rw [e] at h; exact h
  | bk env1 st1 => rw [e] at h; exact h
  | ct env1 st1 => rw [e] at h; exact h
  | er x env1 st1 => rw [e] at h; exact h
  | bad => rw [e] at h; exact h
theorem dss_one (h1 : DS G X W Ob OE O s O1 m) : DSs G X W Ob OE O [s] O1 m := let ⟨t, p, w⟩ := h1.ex; ⟨t, pss_one p, w⟩
/-- an expression first -/
theorem do_part {k : D → MS} {t : TE} {b : Act} {S : Hp} {env : Env'} {st : List D} {σ : L2.St} {H : Hp} {D : Ends} {Q : VK} (hO : OE O)
    (w : ∀ (b : Act) S env st σ H Q, DI G b O S env st σ H → wpR (me env st) (fun d st' => Post G b.ad S H d st' Q) (fun x st' => PostX G b.ad S H x st' fun c dd H' => W c dd σ H') → t σ H Q) (I : DI G b O S env st σ H)
    (h : PostS G b Ob OE W O1 D S (mDo me k env st))
    (q : ∀ v d S' H' st', DI G b O S' env st' σ H' → Rep G b.ad S' v d → PostS G b Ob OE W O1 D S' (k d env st') → Q v H') : t σ H Q := by
  refine w b S env st σ H Q I ?_
  unfold mDo at h
  cases e : me env st with
  | ok d st1 =>
    rw [e] at h
    intro v S' H' x su so r
    exact q v d S' H' st1 (I.ext x su so) r (h.from_ x.same)
  | err x st1 =>
    rw [e] at h
    intro cls dd S' H' x su so r
    exact h cls dd O S' σ H' hO x.same (I.ext x su so) r
  | bad => rw [e] at h; exact h.elim
theorem ds_set (i : Nat) {x : Str} {pos' : Pos} (hN : X.N.Nodup) (he : DE G X W O e me) (hO : OE O := by first | trivial | rfl) (hi : X.N[i]? = some x := by rfl) (ho : O.has i = false := by rfl) (hx : Loc X.env.scope x := by first | exact Or.inl rfl | exact Or.inr rfl)
    (hs : swapsWith e (some (.Name x pos')) pos.line X.env = pure false := by rfl) (hf : X.fn x = true ∨ X.env.scope.names.lookup x = some .local := by first | exact .inl rfl | exact .inr rfl) : DS G X W Ob OE O (.Assign [.Name x pos'] e pos) O (mSet i me) := by
  obtain ⟨t, p, w⟩ := he.ex
  exact ⟨_, ps_set hN hi hx p hs hf, fun b S env st σ H D I h => do_part hO w I h fun v d S' H' st' I' r q => q _ _ _ (.refl _) (I'.set r ho)⟩
theorem ds_ret (he : DE G X W O e me) (hO : OE O := by first | trivial | rfl) : DS G X W Ob OE O (.Return (some e) pos) O1 (mRet me) := by
  obtain ⟨t, p, w⟩ := he.ex
  exact ⟨_, ps_ret p, fun b S env st σ H D I h => do_part hO w I h fun v d S' H' st' I' r q => q v S' H' I'.fin I'.sub I'.sto r⟩
theorem ds_retN : DS G X W Ob OE O (.Return none pos) O1 mRetN := ⟨_, ps_retN, fun b S env st σ H D I h => h .non S H I.fin I.sub I.sto .non⟩
theorem ds_expr (he : DE G X W O e me) (hO : OE O := by first | trivial | rfl) (hs : swapsWith e none pos.line X.env = pure false := by rfl) : DS G X W Ob OE O (.Expr e pos) O (mDrop me) := by
  obtain ⟨t, p, w⟩ := he.ex
  exact ⟨_, ps_expr p hs, fun b S env st σ H D I h => do_part hO w I h fun v d S' H' st' I' r q => q S' σ H' (.refl _) I'⟩
theorem ds_pass : DS G X W Ob OE O (.Pass pos) O mNx := ⟨_, ps_pass, fun b S env st σ H D I h => h S σ H (.refl _) I⟩
theorem ds_break : DS G X W O OE O (.Break pos) O1 mBrk := ⟨_, ps_break, fun b S env st σ H D I h => h S σ H (.refl _) I⟩
theorem ds_cont : DS G X W O OE O (.Continue pos) O1 mCnt := ⟨_, ps_continue, fun b S env st σ H D I h => h S σ H (.refl _) I⟩
theorem ds_if {c : Expr} {a b : List Stmt} {t : MT} (hc : DT G X W O c t) (ha : DSs G X W Ob OE O a O1 m) (hb : DSs G X W Ob OE O b O1 n) (hO : OE O := by first | trivial | rfl) : DS G X W Ob OE O (.If c a b pos) O1 (mIfS t m n) := by
  obtain ⟨tc, pc, wc⟩ := hc.ex
  obtain ⟨ta, pa, wa⟩ := ha.ex
  obtain ⟨tb, pb, wb⟩ := hb.ex
  refine ⟨_, ps_if pc pa pb, fun b S env st σ H D I h => wc b S env st σ H _ I ?_⟩
  unfold mIfS at h
  cases e : t env st with
  | ok k st1 =>
    rw [e] at h
    intro S' H' x su so
    cases k with
    | true => exact wa b S' env st1 σ H' D (I.ext x su so) (h.from_ x.same)
    | false => exact wb b S' env st1 σ H' D (I.ext x su so) (h.from_ x.same)
  | err x st1 =>
    rw [e] at h
    intro cls dd S' H' x su so r
    exact h cls dd O S' σ H' hO x.same (I.ext x su so) r
  | bad => rw [e] at h; exact h.elim

/-! ### targets -/
/-- the slots out of ix stay -/
def Stay (ix : List Nat) (σ σ' : L2.St) : Prop := σ'.length = σ.length ∧ ∀ j, j ∉ ix → σ'[j]? = σ[j]?
structure DG (G : Glb) (X : Cx) (O : Ow) (ix : List Nat) (tg : Expr) (g : MG) : Prop where
  ex : ∃ t, PG X tg t ∧ ∀ (b : Act) S env env' st σ H v d Q, DI G b O S env st σ H → Rep G b.ad S v d → g d env = some env' → (∀ σ', Stay ix σ σ' → DI G b O S env' st σ' H → Q σ' H) → t v σ H Q
structure DGs (G : Glb) (X : Cx) (O : Ow) (ix : List Nat) (ts : List Expr) (g : List D → Env' → Option Env') : Prop where
  ex : ∃ t, PGs X ts t ∧ ∀ (b : Act) S env env' st σ H vs ds Q, DI G b O S env st σ H → Reps G b.ad S vs ds → g ds env = some env' → (∀ σ', Stay ix σ σ' → DI G b O S env' st σ' H → Q σ' H) → t vs σ H Q
theorem dg_name (i : Nat) {x : Str} (hN : X.N.Nodup) (hi : X.N[i]? = some x := by rfl) (ho : O.has i = false := by rfl) (hx : Loc X.env.scope x := by first | exact Or.inl rfl | exact Or.inr rfl) (hf : X.fn x = true ∨ X.env.scope.names.lookup x = some .local := by first | exact .inl rfl | exact .inr rfl) : DG G X O [i] (.Name x pos) (gNm i) := by
  refine ⟨_, pg_name hN hi hx hf, fun b S env env' st σ H v d Q I r e q => ?_⟩
  cases e
  exact q _ ⟨List.length_set, fun j hj => List.getElem?_set_ne (fun z => hj (by rw [z]; exact List.mem_singleton.mpr rfl))⟩ (I.set r ho)
theorem dgs_nil : DGs G X O [] [] gsNil := by
  refine ⟨_, pgs_nil, fun b S env env' st σ H vs ds Q I r e q => ?_⟩
  cases r with
  | nil => cases e; exact ⟨rfl, q σ ⟨rfl, fun _ _ => rfl⟩ I⟩
  | cons _ _ => cases e
theorem dgs_cons {ix jx : List Nat} {t : Expr} {ts : List Expr} {g : MG} {gs : List D → Env' → Option Env'} (h1 : DG G X O ix t g) (h2 : DGs G X O jx ts gs) (hs : (assignEach (t :: ts) X.env).map (·.2) = assign t X.env :: (assignEach ts X.env).map (·.2) := by rfl) : DGs G X O (ix ++ jx) (t :: ts) (gsCons g gs) := by
  obtain ⟨t1, p1, w1⟩ := h1.ex
  obtain ⟨t2, p2, w2⟩ := h2.ex
  refine ⟨_, pgs_cons p1 p2 hs, fun b S env env' st σ H vs ds Q I r e q => ?_⟩
  cases r with
  | nil => cases e
  | cons r rr =>
    rename_i v d vs ds
    have e' : (g d env).bind (gs ds) = some env' := e
    cases e1 : g d env with
    | none => rw [e1] at e'; cases e'
    | some env1 =>
      rw [e1] at e'
      exact ⟨_, _, rfl, w1 b S env env1 st σ H v d _ I r e1 fun σ1 y1 I1 => w2 b S env1 env' st σ1 H _ ds Q I1 rr e' fun σ2 y2 I2 => q σ2 ⟨y2.1.trans y1.1, fun j hj => (y2.2 j fun z => hj (List.mem_append_right _ z)).trans (y1.2 j fun z => hj (List.mem_append_left _ z))⟩ I2⟩
theorem dg_tup {ix : List Nat} {es : List Expr} {k : Nat} {gs : List D → Env' → Option Env'} {l : Nat} (hc : X.calm = true) (hK : X.K = G.K) (h : DGs G X O ix es gs) (hlen : ∀ ds env env', gs ds env = some env' → ds.length = l) (hn : (assignEach es X.env).length = l := by rfl) (hst : (assignEach es X.env).findIdx? (·.1) = none := by rfl) : DG G X O ix (.Tuple es k pos) (gTp gs) := by
  obtain ⟨t, p, w⟩ := h.ex
  refine ⟨_, pg_tup hc p hn hst, fun b S env env' st σ H v d Q I rv e q => ?_⟩
  cases rv <;> try cases e
  rename_i a vs ds h1 h2
  have e' : gs ds env = some env' := e
  refine ⟨a, vs, rfl, hK ▸ Same.sqT I.sub h1.sqT, ?_, w b S env env' st σ H vs ds Q I h2 e' q⟩
  rw [h2.len]
  exact hlen _ _ _ e'
theorem gsNil_len : ∀ ds env env', gsNil ds env = some env' → ds.length = 0 := fun ds env env' h => by
  cases ds with
  | nil => rfl
  | cons _ _ => cases h
theorem gsCons_len {g : MG} {r : List D → Env' → Option Env'} {l : Nat} (h : ∀ ds env env', r ds env = some env' → ds.length = l) : ∀ ds env env', gsCons g r ds env = some env' → ds.length = l + 1 := fun ds env env' e => by
  cases ds with
  | nil => cases e
  | cons d ds =>
    have e' : (g d env).bind (r ds) = some env' := e
    cases e1 : g d env with
    | none => rw [e1] at e'; cases e'
    | some env1 =>
      rw [e1] at e'
      exact congrArg (· + 1) (h _ _ _ e')
theorem ds_asg {ix : List Nat} {tg : Expr} {g : MG} (he : DE G X W O e me) (hg : DG G X O ix tg g) (hO : OE O := by first | trivial | rfl) (hs : swapsWithSole [tg] e pos.line X.env = pure false := by rfl) (hw : swappedStores [tg] e X.env = pure none := by rfl)
    (h1 : (assignEach [tg] X.env).map (·.2) = [assign tg X.env] := by rfl) : DS G X W Ob OE O (.Assign [tg] e pos) O (mAsg me g) := by
  obtain ⟨t, p, w⟩ := he.ex
  obtain ⟨tg', pg, wg⟩ := hg.ex
  refine ⟨_, ps_asg p pg hs hw h1, fun b S env st σ H D I h => do_part hO w I h fun v d S' H' st' I' r q => ?_⟩
  cases e1 : g d env with
  | none => rw [e1] at q; exact q.elim
  | some env1 =>
    rw [e1] at q
    exact wg b S' env env1 st' σ H' v d _ I' r e1 fun σ' _ I1 => q _ _ _ (.refl _) I1
/-- a, b = x, y, plain local names -/
def mPar (i j : Nat) (ma : MA) : MS := fun env st => match ma env st with
  | .ok [d, e] st1 => .nx ((env.set i (some d)).set j (some e)) st1
  | .err x st1 => .er x env st1
  | _ => .bad
theorem ds_par (i j : Nat) {x y : Str} {a b : Expr} {ma : MA} {px py pt : Pos} {kt k2 pt2} (hc : X.calm = true) (hN : X.N.Nodup) (ha : DA G X W O [a, b] ma) (hO : OE O := by first | trivial | rfl) (hi : X.N[i]? = some x := by rfl) (hj : X.N[j]? = some y := by rfl) (hij : i ≠ j := by decide)
    (hoi : O.has i = false := by rfl) (hoj : O.has j = false := by rfl)
    (hx : X.env.scope.names.lookup x = some .local := by rfl) (hy : X.env.scope.names.lookup y = some .local := by rfl)
    (hw : swappedStores [.Tuple [.Name x px, .Name y py] kt pt] (.Tuple [a, b] k2 pt2) X.env = pure (some [x, y]) := by rfl)
    (hs : swapsWithSole [.Tuple [.Name x px, .Name y py] kt pt] (.Tuple [a, b] k2 pt2) pos.line X.env = pure false := by rfl) :
    DS G X W Ob OE O (.Assign [.Tuple [.Name x px, .Name y py] kt pt] (.Tuple [a, b] k2 pt2) pos) O (mPar i j ma) := by
  obtain ⟨t, p, w⟩ := ha.ex
  refine ⟨_, ps_par hc hN hi hj hij hx hy p hw hs, fun b S env st σ H D I h => w b S env st σ H _ I ?_⟩
  unfold mPar at h
  cases e : ma env st with
  | ok ds st1 =>
    rw [e] at h
    intro vs S' H' x su so r
    match ds, r, h with
    | [d1, d2], .cons r1 (.cons r2 .nil), h =>
      refine ⟨_, _, rfl, h _ _ _ x.same (DI.set (DI.set (I.ext x su so) r1 hoi) r2 hoj)⟩
    | [], _, h => exact h.elim
    | [_], _, h => exact h.elim
    | _ :: _ :: _ :: _, _, h => exact h.elim
  | err x st1 =>
    rw [e] at h
    intro cls dd S' H' x su so r
    exact h cls dd O S' σ H' hO x.same (I.ext x su so) r
  | bad => rw [e] at h; exact h.elim
end

/-! ### defs -/
/-- a body as a function of the arguments' data -/
def fnM (n : Nat) (m : MS) (ds : List D) : M D := fun st => match m (ds.map some ++ List.replicate (n - ds.length) none) st with
  | .nx _ st1 => .ok .non st1
  | .rt d st1 => .ok d st1
  | .er x _ st1 => .err x st1
  | _ => .bad
/-- a def's promise -/
def spD (G : Glb) (n : Nat) (m : List D → M D) : Sp := fun vs H Q E => ∃ (b : Act) (ds : List D) (st : List D), b.H = H ∧ vs.length = n ∧ Same b.S b.H ∧ StoOk G b.ad b.S st b.H ∧ Reps G b.ad b.S vs ds ∧
  wpR (m ds st) (fun d st' => Post G b.ad b.S b.H d st' Q) (fun x st' => PostX G b.ad b.S b.H x st' E)
/-- what holds in a body (or in a part of it) -/
structure XC (k : Nat) (G : Glb) (X : Cx) (W : WX) : Prop where
  tk : Takes X W
  po : PassesOwn (model X.prog X.w) X.A X.env X.xe
  calm : X.calm = true
  hr : Room k X.A
  K : X.K = G.K
/-- .. of a whole body, for a try -/
structure XT (X : Cx) : Prop where
  stk : X.stack = X.env :: X.outer
  fr : X.env.frame = some X.env.locals

section
variable {P : Program} {w : World} {K : PySem.W.Frag} {mg : Str → Option Value} {base : Heap}
theorem fnD {G : Glb} {x qual : Str} {st : Stmt} {f : Addr} {fd : FuncData} {N ps : List Str} {k : Nat} {m : MS} {O' : Ow} (F : Fun K x qual st f fd) (S : FnScope N ps (defScope st)) (hK : K = G.K)
    (hbody : ∀ (cdv : Value) (A : Around) (outer : List Env) (s : Shared) (H : Hp) (E : XK), XC k G (cxOf (L2.CX P w) P w K mg base N qual (defScope st) f cdv A outer s H E) (fun cls d _ H' => E cls d H') → XT (cxOf (L2.CX P w) P w K mg base N qual (defScope st) f cdv A outer s H E) →
      DSs G (cxOf (L2.CX P w) P w K mg base N qual (defScope st) f cdv A outer s H E) (fun cls d _ H' => E cls d H') {} (fun _ => True) {} (defBody st) O' m) :
    FnOk P w K mg base (L2.CX P w) (k + 1) f fd ps (spD G ps.length (fnM N.length m)) := by
  refine F.okX S (fun vs H Q E h => ?_) fun cdv A outer s H vs Q E hr h => ?_
  · obtain ⟨_, _, _, _, hl, _⟩ := h
    exact hl
  · obtain ⟨b, ds, st0, rfl, hl, hs, so, r, h⟩ := h
    have xc : XC k G (cxOf (L2.CX P w) P w K mg base N qual (defScope st) f cdv A outer s b.H E) (fun cls d _ H' => E cls d H') :=
      { tk := takes_of rfl rfl rfl rfl, po := passes_of rfl, calm := rfl, hr := hr, K := hK }
    obtain ⟨t, p, wt⟩ := (hbody cdv A outer s b.H E xc ⟨rfl, rfl⟩).ex
    refine ⟨t, p, ?_⟩
    have I := DI.start (n := N.length - vs.length) hs so r
    refine wt b b.S _ st0 _ b.H _ I ?_
    have hn : N.length - vs.length = N.length - ds.length := by rw [r.len]
    rw [hn]
    unfold fnM at h
    cases e : m (ds.map some ++ List.replicate (N.length - ds.length) none) st0 with
    | nx env st1 =>
      rw [e] at h
      intro S1 σ1 H1 _ I1
      exact h .non S1 H1 I1.fin I1.sub I1.sto .non
    | rt d st1 =>
      rw [e] at h
      intro v S1 H1 x1 su1 so1 r1
      exact h v S1 H1 x1 su1 so1 r1
    | bk env st1 => rw [e] at h; exact h.elim
    | ct env st1 => rw [e] at h; exact h.elim
    | er x env st1 =>
      rw [e] at h
      intro cls dd O' S1 σ1 H1 _ _ I1 rx
      exact h cls dd S1 H1 I1.fin I1.sub I1.sto rx
    | bad => rw [e] at h; exact h.elim
end

def Len (ma : MA) (n : Nat) : Prop := ∀ env st ds st', ma env st = .ok ds st' → ds.length = n
theorem len_nil : Len mNil 0 := fun env st ds st' h => by cases h; rfl
theorem len_cons {me : ME} {ma : MA} {n : Nat} (h : Len ma n) : Len (mCons me ma) (n + 1) := fun env st ds st' e => by
  unfold mCons at e
  cases e1 : me env st with
  | ok d st1 =>
    rw [e1] at e
    have e' : (ma env st1).bind (fun xs st2 => Res.ok (d :: xs) st2) = .ok ds st' := e
    cases e2 : ma env st1 with
    | ok ds2 st2 =>
      rw [e2] at e'
      have e3 : Res.ok (d :: ds2) st2 = .ok ds st' := e'
      cases e3
      exact congrArg (· + 1) (h _ _ _ _ e2)
    | err x s => rw [e2] at e'; cases e'
    | bad => rw [e2] at e'; cases e'
  | err x s => rw [e1] at e; cases e
  | bad => rw [e1] at e; cases e
def mCall (f : List D → M D) (ma : MA) : ME := fun env st => (ma env st).bind f
section
variable {G : Glb} {X : Cx} {W : WX} {O : Ow} {pos p : Pos} {x : Str} {e : Expr} {es : List Expr} {ma : MA} {k j n : Nat} {f : Addr} {fd : FuncData} {ps : List Str} {m : List D → M D}
theorem de_call (c : XC k G X W) (F : FnOk X.prog X.w X.K X.mg X.base (L2.CX X.prog X.w) j f fd ps (spD G n m)) (hm : X.mg x = some (.ref f)) (hk : PySem.W.keepIn X.K (.ref f) = true) (hb : Binds X.K fd ps []) (ha : DA G X W O (e :: es) ma)
    (hjk : j ≤ k := by decide) (hln : Len ma n) (hg : Gl X x := by rfl) (hdb : (x == ("__debug__" : Str)) = false := by decide) (he : starEach (e :: es) X.env = (false, eval e X.env) :: starEach es X.env := by rfl) (hpl : (backTo pos (starEach es X.env)).any (·.1) = false := by rfl) :
    DE G X W O (.Call (.Name x p) (e :: es) [] pos) (mCall m ma) := by
  obtain ⟨t, pa, w⟩ := ha.ex
  refine ⟨_, pe_callS F (c.hr.mono hjk) hg hm hk hb (fun σ => passAt c.tk σ) pa hdb he hpl, fun b S env st σ H Q I h => w b S env st σ H _ I ?_⟩
  have h' := wpR_bind h
  cases ea : ma env st with
  | ok ds st1 =>
    rw [ea] at h'
    intro vs S1 H1 x1 su1 so1 r1
    exact ⟨⟨S1, H1, b.ad⟩, ds, st1, rfl, by rw [r1.len]; exact hln env st ds st1 ea, su1, so1, r1, wpR_imp h' (fun _ _ z => z.from_ x1 so1) fun _ _ z => z.from_ x1 so1⟩
  | err x st1 => rw [ea] at h'; exact h'
  | bad => rw [ea] at h'; exact h'.elim
end
end DL

/-! DL, fourth part: errors, loops, comprehensions. -/
namespace DL
open PySem PySem.Spec PyProof.Rows L2

/-! ### errors without fields -/
/-- an own class without __init__, called without arguments -/
theorem pmk_none {X : Cx} {C : Addr} {bmB : List Value} {B newId initId : String} {x : Str} {p pos : Pos} (F : ExcBaseFacts B newId initId bmB) (q : PySem.W.excIn X.K C bmB newId = true) (gC : X.mg x = some (.ref C))
    (kC : PySem.W.keepIn X.K (.ref C) = true) (r : Raises X (.ref C)) (hg : Gl X x) (hdb : (x == ("__debug__" : Str)) = false := by decide) : PMk X (.Call (.Name x p) [] [] pos) (fun _ H Q => Q (.ref C) none H) := by
  intro pins s σ H Q I h
  refine wpAny_Call_Name_kw (ld_glob I hg gC ?_ hdb)
  refine PySem.W.callWith_K0 I.kIn kC ?_
  show wpAny _ _ (call (.ref C) []) _ _ _
  obtain ⟨bm, N, nm, qn, bs, hdct, sn, sub, ab, col, dd, k0, k1, k2, k3, k5, mN, hC, hN, hni, T⟩ := exc_obj I.kIn q
  exact wpAny_call_exc_subT F T hC hN hni (fun h' e hm => mk_of I hm r h (I.hok.gone hm.new)) (Nat.zero_le _)
/-- what an own error class without __init__ must have -/
structure ErrC (G : Glb) (mg : Str → Option Value) (x : Str) (c : Nat) : Prop where
  g : mg x = some (.ref (G.cl c))
  ex : PySem.W.excIn G.K (G.cl c) [.type "ValueError", .type "Exception", .type "BaseException", .type "object"] "ValueError.__new__" = true
  kp : PySem.W.keepIn G.K (.ref (G.cl c)) = true
  sub : PySem.W.subIn G.K (.ref (G.cl c)) (.type "BaseException") = some true
  ty : PySem.W.typeIn G.K (.ref (G.cl c)) = some (.type "type")
def mRaise0 (c : Nat) : MS := fun env st => .er ⟨c, none⟩ env st
section
variable {G : Glb} {X : Cx} {W : WX} {Ob : Ow} {OE : Ow → Prop} {O O1 : Ow} {pos : Pos} {k : Nat}
theorem ds_raise0 {x : Str} {c : Nat} {p pos' : Pos} (xc : XC k G X W) (T : ErrC G X.mg x c) (hO : OE O := by first | trivial | rfl) (hg : Gl X x := by rfl) (hdb : (x == ("__debug__" : Str)) = false := by decide) :
    DS G X W Ob OE O (.Raise (some (.Call (.Name x p) [] [] pos')) none pos) O1 (mRaise0 c) := by
  refine ⟨_, ps_raise xc.calm xc.tk (pmk_none PySem.F.excBase_ValueError (by rw [xc.K]; exact T.ex) T.g (by rw [xc.K]; exact T.kp) (raises_own (by rw [xc.K]; exact T.sub) (by rw [xc.K]; exact T.ty)) hg hdb), fun b S env st σ H D I h => ?_⟩
  exact h _ _ O S σ H hO (.refl _) I ⟨rfl, rfl⟩
end

/-! ### what is walked -/
def IterOK (G : Glb) (ad : List Addr) (S : Hp) (J : It) (ds : List D) : Prop :=
  ∀ (i : Nat) (S' H' : Hp), Same S S' → Same S' H' → (i = ds.length → J.stop i H') ∧ ∀ d, ds[i]? = some d → J.go i H' ∧
    ∀ x H'', J.yld i H' x H'' → ∃ S'', Ext ad S' H' S'' H'' ∧ Same S'' H'' ∧ (∀ st, StoOk G ad S' st H' → StoOk G ad S'' st H'') ∧ Rep G ad S'' x d
structure DIt (G : Glb) (X : Cx) (W : WX) (O : Ow) (tg iter : Expr) (m : MA) : Prop where
  ex : ∃ wi, PI X tg iter wi ∧ ∀ (b : Act) S env st σ H R, DI G b O S env st σ H →
    wpR (m env st) (fun ds st' => ∀ J S' H', Ext b.ad S H S' H' → Same S' H' → StoOk G b.ad S' st' H' → IterOK G b.ad S' J ds → R J H') (fun x st' => PostX G b.ad S H x st' fun c dd H' => W c dd σ H') → wi σ H R

/-- a list or a tuple -/
def items? : D → M (List D) := fun d st => match d with
  | .lst ds => .ok ds st
  | .rol ds => .ok ds st
  | .tup ds => .ok ds st
  | _ => .bad
def mItems (m : ME) : MA := fun env st => (m env st).bind items?
def rangeD (lo : Int) (n : Nat) : List D := (List.range n).map fun i => .int (lo + (i : Nat))
noncomputable def rng1? : List D → M (List D) := fun ds st => match ds with
  | [.int j] => @ite _ (-(2 ^ 62) ≤ j ∧ j < 2 ^ 62) (Classical.propDecidable _) (.ok (rangeD 0 j.toNat) st) .bad
  | _ => .bad
noncomputable def rng2? : List D → M (List D) := fun ds st => match ds with
  | [.int i, .int j] => @ite _ (-(2 ^ 62) ≤ i ∧ i < 2 ^ 62 ∧ -(2 ^ 62) ≤ j ∧ j < 2 ^ 62) (Classical.propDecidable _) (.ok (rangeD i (j - i).toNat) st) .bad
  | _ => .bad
def mThenA (m : MA) (f : List D → M (List D)) : MA := fun env st => (m env st).bind f
def numbered (ds : List D) : List D := ds.mapIdx fun i d => .tup [.int (i : Nat), d]
def enum? : List D → M (List D) := fun ds st => match ds with
  | [.lst ds] => .ok (numbered ds) st
  | [.rol ds] => .ok (numbered ds) st
  | _ => .bad
def zip? : List D → M (List D) := fun ds st => match ds with
  | [.lst xs, .lst ys] => .ok (List.zipWith (fun x y => .tup [x, y]) xs ys) st
  | _ => .bad

/-- a value walked: a list or a tuple -/
def iSeq (K : PySem.W.Frag) (tl : TE) : TI := fun σ H R => tl σ H fun x H1 => ∃ a, x = .ref a ∧ ((∃ xs, SqL K H1 a xs ∧ R (Itl K a) H1) ∨ (∃ xs, SqT K H1 a xs ∧ R (Itt K a) H1))
theorem pi_seq {X : Cx} {tg l : Expr} {tl : TE} (hl : PE X l tl) : PI X tg l (iSeq X.K tl) := by
  refine ⟨fun pins s σ H R I h => ?_⟩
  refine thn (hl.run pins s σ H _ I h) fun v s1 ⟨x, H1, I1, r1, q1⟩ => ?_
  obtain ⟨a, e, q1⟩ := q1
  subst e
  cases r1
  rcases q1 with ⟨xs, hq, q⟩ | ⟨xs, hq, q⟩
  · obtain ⟨its, rv, p, hz⟩ := I1.list hq
    refine wpAny_pyIter_list p.isList ?_
    exact pi_one (tk := s1.toks) I1 _ (turn_list a _) ⟨_, Heap.get?_push_size _ rfl, rfl, rfl⟩ q
  · obtain ⟨its, rv, p, hz⟩ := I1.tuple hq
    refine wpAny_pyIter_tuple (show s1.heap.IsTuple a its.toArray from p) ?_
    exact pi_one (tk := s1.toks) I1 _ (turn_tuple a _) ⟨_, Heap.get?_push_size _ rfl, rfl, rfl⟩ q

section
variable {G : Glb} {ad : List Addr} {S : Hp}
theorem Same.sqL {K : PySem.W.Frag} {H H' : Hp} {a : Addr} {xs : List V} (e : Same H H') (h : SqL K H a xs) : SqL K H' a xs := e.seq h
/-- no new object -/
theorem still {H' : Hp} {S' : Hp} {x : V} {d : D} (su : Same S' H') (r : Rep G ad S' x d) : ∃ S'', Ext ad S' H' S'' H' ∧ Same S'' H' ∧ (∀ st, StoOk G ad S' st H' → StoOk G ad S'' st H') ∧ Rep G ad S'' x d :=
  ⟨S', .refl _ _ _, su, fun _ z => z, r⟩
theorem iter_list {a : Addr} {vs : List V} {ds : List D} (h : SqL G.K S a vs) (r : Reps G ad S vs ds) : IterOK G ad S (Itl G.K a) ds := by
  intro i S' H' e su
  have h' := (e.trans su).seq h
  refine ⟨fun hi => ⟨vs, h', by rw [r.len, hi]; exact Nat.le_refl _⟩, fun d hd => ?_⟩
  obtain ⟨v, hv, rv⟩ := r.get hd
  refine ⟨⟨vs, v, h', hv⟩, fun x H'' ⟨e1, e2⟩ => ?_⟩
  subst e1
  have e3 : v = x := Option.some.inj (hv.symm.trans (e2 vs h'))
  subst e3
  exact still su (rv.mono e)
theorem iter_tup {a : Addr} {vs : List V} {ds : List D} (h : SqT G.K S a vs) (r : Reps G ad S vs ds) : IterOK G ad S (Itt G.K a) ds := by
  intro i S' H' e su
  have h' := Same.sqT (e.trans su) h
  refine ⟨fun hi => ⟨vs, h', by rw [r.len, hi]; exact Nat.le_refl _⟩, fun d hd => ?_⟩
  obtain ⟨v, hv, rv⟩ := r.get hd
  refine ⟨⟨vs, v, h', hv⟩, fun x H'' ⟨e1, e2⟩ => ?_⟩
  subst e1
  have e3 : v = x := Option.some.inj (hv.symm.trans (e2 vs h'))
  subst e3
  exact still su (rv.mono e)
theorem rangeD_len (lo : Int) (n : Nat) : (rangeD lo n).length = n := by simp [rangeD]
theorem rangeD_get {lo : Int} {n i : Nat} {d : D} (h : (rangeD lo n)[i]? = some d) : i < n ∧ d = .int (lo + (i : Nat)) := by
  have hi : i < n := by
    have := (List.getElem?_eq_some_iff.mp h).1
    rwa [rangeD_len] at this
  refine ⟨hi, ?_⟩
  simp [rangeD, List.getElem?_map, List.getElem?_range hi] at h
  exact h.symm
theorem iter_range (lo : Int) (n : Nat) : IterOK G ad S (Itr lo n) (rangeD lo n) := by
  intro i S' H' e su
  refine ⟨fun hi => ?_, fun d hd => ?_⟩
  · rw [rangeD_len] at hi
    exact Nat.le_of_eq hi.symm
  · obtain ⟨hi, rfl⟩ := rangeD_get hd
    exact ⟨hi, fun x H'' ⟨e1, e2⟩ => by subst e1; subst e2; exact still su (.int _)⟩
theorem pair_new {H' S' : Hp} {T : Addr} {u v : V} {d e : D} (su : Same S' H') (hT : H' T = none) (r1 : Rep G ad S' u d) (r2 : Rep G ad S' v e) :
    ∃ S'', Ext ad S' H' S'' (upd H' T (.tup [u, v])) ∧ Same S'' (upd H' T (.tup [u, v])) ∧ (∀ st, StoOk G ad S' st H' → StoOk G ad S'' st (upd H' T (.tup [u, v]))) ∧ Rep G ad S'' (.ref T) (.tup [d, e]) := by
  refine ⟨upd S' T (.tup [u, v]), ?_, ?_, fun st so => (new_still su so hT).2.2, Rep.tupNew su hT (.cons r1 (.cons r2 .nil))⟩
  · have hs : S' T = none := su.free hT
    refine ⟨fun b o h => by rw [upd_ne (ne_of_none h hs)]; exact h, fun b o h => ?_, fun b o h _ => by rw [upd_ne (ne_of_none h hT)]; exact h⟩
    by_cases hb : b = T
    · subst hb; exact .inr hT
    · rw [upd_ne hb] at h; exact .inl h
  · intro b o h
    by_cases hb : b = T
    · subst hb; rw [upd_same] at h ⊢; exact h
    · rw [upd_ne hb] at h ⊢; exact su _ _ h
theorem numbered_get {ds : List D} {i : Nat} {d : D} (h : (numbered ds)[i]? = some d) : ∃ e, ds[i]? = some e ∧ d = .tup [.int (i : Nat), e] := by
  unfold numbered at h
  rw [List.getElem?_mapIdx] at h
  cases q : ds[i]? with
  | none => rw [q] at h; cases h
  | some e => rw [q] at h; exact ⟨e, rfl, (Option.some.inj h).symm⟩
theorem iter_enum {a : Addr} {vs : List V} {ds : List D} (h : SqL G.K S a vs) (r : Reps G ad S vs ds) : IterOK G ad S (Ite G.K a) (numbered ds) := by
  intro i S' H' e su
  have h' := (e.trans su).seq h
  refine ⟨fun hi => ⟨vs, h', by rw [r.len, hi]; simp [numbered]⟩, fun d hd => ?_⟩
  obtain ⟨d0, hd0, rfl⟩ := numbered_get hd
  obtain ⟨v, hv, rv⟩ := r.get hd0
  refine ⟨⟨vs, v, h', hv⟩, fun x H'' ⟨T, y, e1, hT, e2, e3⟩ => ?_⟩
  subst e1; subst e2
  have e4 : v = y := Option.some.inj (hv.symm.trans (e3 vs h'))
  subst e4
  exact pair_new su hT (.int _) (rv.mono e)
theorem iter_zip {a c : Addr} {vs ws : List V} {ds es : List D} (h : SqL G.K S a vs) (r : Reps G ad S vs ds) (h2 : SqL G.K S c ws) (r2 : Reps G ad S ws es) : IterOK G ad S (Itz G.K a c) (List.zipWith (fun x y => .tup [x, y]) ds es) := by
  intro i S' H' e su
  have h' := (e.trans su).seq h
  have h2' := (e.trans su).seq h2
  refine ⟨fun hi => ⟨vs, ws, h', h2', ?_⟩, fun d hd => ?_⟩
  · rw [List.length_zipWith] at hi
    rw [r.len, r2.len]
    omega
  · rw [List.getElem?_zipWith] at hd
    cases q1 : ds[i]? with
    | none => rw [q1] at hd; simp at hd
    | some d1 =>
      cases q2 : es[i]? with
      | none => rw [q1, q2] at hd; simp at hd
      | some d2 =>
        rw [q1, q2] at hd
        have e0 : D.tup [d1, d2] = d := by simpa using hd
        subst e0
        obtain ⟨v, hv, rv⟩ := r.get q1
        obtain ⟨u, hu, ru⟩ := r2.get q2
        refine ⟨⟨vs, ws, v, u, h', h2', hv, hu⟩, fun x H'' ⟨T, y, z, e1, hT, e2, e3, e4⟩ => ?_⟩
        subst e1; subst e2
        have e5 : v = y := Option.some.inj (hv.symm.trans (e3 vs h'))
        have e6 : u = z := Option.some.inj (hu.symm.trans (e4 ws h2'))
        subst e5; subst e6
        exact pair_new su hT (rv.mono e) (ru.mono e)
end
section
variable {G : Glb} {X : Cx} {W : WX} {O : Ow} {tg e : Expr} {m : ME} {p pos : Pos}
theorem di_seq (hK : X.K = G.K) (h : DE G X W O e m) : DIt G X W O tg e (mItems m) := by
  obtain ⟨t, pe, w⟩ := h.ex
  refine ⟨_, pi_seq pe, fun b S env st σ H R I h => w b S env st σ H _ I (wpR_imp (wpR_bind h) (fun d st1 h1 => ?_) fun _ _ z => z)⟩
  intro v S1 H1 x1 su1 so1 r1
  cases r1 <;> try exact h1.elim
  · rename_i a vs ds h2 h3
    exact ⟨a, rfl, .inr ⟨vs, hK ▸ Same.sqT su1 h2.sqT, hK ▸ h1 _ _ _ x1 su1 so1 (iter_tup h2.sqT h3)⟩⟩
  · rename_i a vs ds h2 h3
    exact ⟨a, rfl, .inl ⟨vs, SqL.of (su1 _ _ h2), hK ▸ h1 _ _ _ x1 su1 so1 (iter_list (SqL.of h2) h3)⟩⟩
  · rename_i a vs ds h2 h3
    exact ⟨a, rfl, .inl ⟨vs, hK ▸ su1.seq h2, hK ▸ h1 _ _ _ x1 su1 so1 (iter_list h2 h3)⟩⟩
theorem args_walk {ta : TA} {ma : MA} {f : List D → M (List D)} {es : List Expr} {b : Act} {S : Hp} {env : Env'} {st : List D} {σ : L2.St} {H : Hp} {R : It → Hp → Prop} {q : List V → Hp → Prop}
    (w : ∀ (b : Act) S env st σ H Q, DI G b O S env st σ H → wpR (ma env st) (fun ds st' => PostA G b.ad S H ds st' Q) (fun x st' => PostX G b.ad S H x st' fun c dd H' => W c dd σ H') → ta σ H Q) (I : DI G b O S env st σ H)
    (h : wpR (mThenA ma f env st) (fun ds st' => ∀ J S' H', Ext b.ad S H S' H' → Same S' H' → StoOk G b.ad S' st' H' → IterOK G b.ad S' J ds → R J H') (fun x st' => PostX G b.ad S H x st' fun c dd H' => W c dd σ H'))
    (k : ∀ vs ds S' H' st', Ext b.ad S H S' H' → Same S' H' → StoOk G b.ad S' st' H' → Reps G b.ad S' vs ds →
      wpR (f ds st') (fun ds st' => ∀ J S2 H2, Ext b.ad S H S2 H2 → Same S2 H2 → StoOk G b.ad S2 st' H2 → IterOK G b.ad S2 J ds → R J H2) (fun x st' => PostX G b.ad S H x st' fun c dd H' => W c dd σ H') → q vs H') : ta σ H q := by
  refine w b S env st σ H _ I (wpR_imp (wpR_bind h) (fun ds st1 h1 => ?_) fun _ _ z => z)
  intro vs S1 H1 x1 su1 so1 r1
  exact k vs ds S1 H1 st1 x1 su1 so1 r1 h1
variable {a a2 : Expr} {ma : MA}
theorem di_range1 (hm : X.mg "range" = none) (ha : DA G X W O [a] ma) (hg : Gl X "range" := by rfl) (hs : starEach [a] X.env = [(false, eval a X.env)] := by rfl) : DIt G X W O tg (.Call (.Name "range" p) [a] [] pos) (mThenA ma rng1?) := by
  obtain ⟨t, pa, w⟩ := ha.ex
  refine ⟨_, pi_range1 hg hm pa hs, fun b S env st σ H R I h => args_walk (es := [a]) w I h fun vs ds S1 H1 st1 x1 su1 so1 r1 h1 => ?_⟩
  unfold rng1? at h1
  split at h1
  · rename_i j
    split at h1
    · rename_i hj
      cases r1 with
      | cons r rr => cases r; cases rr; exact ⟨j, rfl, hj.1, hj.2, h1 _ _ _ x1 su1 so1 (iter_range 0 _)⟩
    · exact h1.elim
  · exact h1.elim
theorem di_range2 (hm : X.mg "range" = none) (ha : DA G X W O [a, a2] ma) (hg : Gl X "range" := by rfl) (hs : starEach [a, a2] X.env = [(false, eval a X.env), (false, eval a2 X.env)] := by rfl) (hs2 : starEach [a2] X.env = [(false, eval a2 X.env)] := by rfl) :
    DIt G X W O tg (.Call (.Name "range" p) [a, a2] [] pos) (mThenA ma rng2?) := by
  obtain ⟨t, pa, w⟩ := ha.ex
  refine ⟨_, pi_range2 hg hm pa hs hs2, fun b S env st σ H R I h => args_walk (es := [a]) w I h fun vs ds S1 H1 st1 x1 su1 so1 r1 h1 => ?_⟩
  unfold rng2? at h1
  split at h1
  · rename_i i j
    split at h1
    · rename_i hj
      cases r1 with
      | cons r rr =>
        cases r
        cases rr with
        | cons r' rr => cases r'; cases rr; exact ⟨i, j, rfl, hj, h1 _ _ _ x1 su1 so1 (iter_range i _)⟩
    · exact h1.elim
  · exact h1.elim
theorem di_enum {elts : List Expr} {kk : Nat} {tpos : Pos} (hK : X.K = G.K) (hm : X.mg "enumerate" = none) (ha : DA G X W O [a] ma) (hg : Gl X "enumerate" := by rfl) (hs : starEach [a] X.env = [(false, eval a X.env)] := by rfl) :
    DIt G X W O (.Tuple elts kk tpos) (.Call (.Name "enumerate" p) [a] [] pos) (mThenA ma enum?) := by
  obtain ⟨t, pa, w⟩ := ha.ex
  refine ⟨_, pi_enum hg hm pa hs, fun b S env st σ H R I h => args_walk (es := [a]) w I h fun vs ds S1 H1 st1 x1 su1 so1 r1 h1 => ?_⟩
  unfold enum? at h1
  split at h1
  · cases r1 with
    | cons r rr =>
      cases rr
      cases r with
      | lst h2 h3 => exact ⟨_, _, rfl, SqL.of (su1 _ _ h2), hK ▸ h1 _ _ _ x1 su1 so1 (iter_enum (SqL.of h2) h3)⟩
  · cases r1 with
    | cons r rr =>
      cases rr
      cases r with
      | rol h2 h3 => exact ⟨_, _, rfl, hK ▸ su1.seq h2, hK ▸ h1 _ _ _ x1 su1 so1 (iter_enum h2 h3)⟩
  · exact h1.elim
theorem di_zip {elts : List Expr} {kk : Nat} {tpos : Pos} (hK : X.K = G.K) (hm : X.mg "zip" = none) (ha : DA G X W O [a, a2] ma) (hg : Gl X "zip" := by rfl)
    (hs : starEach [a, a2] X.env = (false, eval a X.env) :: starEach [a2] X.env := by rfl) (hpl : (backTo pos (starEach [a2] X.env)).any (·.1) = false := by rfl) :
    DIt G X W O (.Tuple elts kk tpos) (.Call (.Name "zip" p) [a, a2] [] pos) (mThenA ma zip?) := by
  obtain ⟨t, pa, w⟩ := ha.ex
  refine ⟨_, pi_zip hg hm pa hs hpl, fun b S env st σ H R I h => args_walk (es := [a]) w I h fun vs ds S1 H1 st1 x1 su1 so1 r1 h1 => ?_⟩
  unfold zip? at h1
  split at h1
  · cases r1 with
    | cons r rr =>
      cases rr with
      | cons r' rr =>
        cases rr
        cases r with
        | lst h2 h3 =>
          cases r' with
          | lst h4 h5 => exact ⟨_, _, _, _, rfl, SqL.of (su1 _ _ h2), SqL.of (su1 _ _ h4), hK ▸ h1 _ _ _ x1 su1 so1 (iter_zip (SqL.of h2) h3 (SqL.of h4) h5)⟩
  · exact h1.elim
end

/-! ### for -/
def forD (g : MG) (body : MS) : List D → MS
  | [] => fun env st => .nx env st
  | d :: ds => fun env st => match g d env with
    | none => .bad
    | some env1 => match body env1 st with
      | .nx e s => forD g body ds e s
      | .ct e s => forD g body ds e s
      | .bk e s => .nx e s
      | o => o
def mFor (mi : MA) (g : MG) (body : MS) : MS := fun env st => match mi env st with
  | .ok ds st1 => forD g body ds env st1
  | .err x st1 => .er x env st1
  | .bad => .bad
section
variable {G : Glb} {X : Cx} {W : WX} {Ob : Ow} {OE : Ow → Prop} {O O1 : Ow} {pos : Pos} {k : Nat}
theorem ds_for {ix : List Nat} {tg iter : Expr} {body : List Stmt} {mi : MA} {g : MG} {m : MS} (xc : XC k G X W) (hi : DIt G X W O tg iter mi) (hg : DG G X O ix tg g) (hb : DSs G X W O OE O body O m) (hO : OE O := by first | trivial | rfl)
    (hs : ∀ x, foldedSetIterable iter X.env x = pure x := by intro _; rfl) : DS G X W Ob OE O (.For tg iter body [] pos) O (mFor mi g m) := by
  obtain ⟨wi, pi, wwi⟩ := hi.ex
  obtain ⟨tg', pg, wg⟩ := hg.ex
  obtain ⟨tb, pb, wb⟩ := hb.ex
  refine ⟨_, ps_for xc.po xc.calm pi pg pb hs, fun b S env st σ H D I h => wwi b S env st σ H _ I ?_⟩
  unfold mFor at h
  cases e : mi env st with
  | bad => rw [e] at h; exact h.elim
  | err x st1 =>
    rw [e] at h
    intro cls dd S' H' x su so r
    exact h cls dd O S' σ H' hO x.same (I.ext x su so) r
  | ok ds st1 =>
    rw [e] at h
    intro J S1 H1 x1 su1 so1 it
    refine ⟨fun i n σ' H' => n = ds.length - i ∧ i ≤ ds.length ∧ ∃ S' env' st', Same S1 S' ∧ DI G b O S' env' st' σ' H' ∧ PostS G b Ob OE W O D S' (forD g m (ds.drop i) env' st'), ⟨ds.length, by simp, Nat.zero_le _, S1, env, st1, .refl _, I.ext x1 su1 so1, h.from_ x1.same⟩, ?_⟩
    rintro i n σ' H' ⟨rfl, hi, S', env', st', e1, I', h'⟩
    by_cases hlt : i < ds.length
    · right
      have hd : ds[i]? = some ds[i] := List.getElem?_eq_getElem hlt
      obtain ⟨go, yl⟩ := (it i S' H' e1 I'.sub).2 _ hd
      refine ⟨go, fun σ2 H2 => ds.length - (i + 1) < ds.length - i ∧ ∃ S2 env2 st2, Same S1 S2 ∧ DI G b O S2 env2 st2 σ2 H2 ∧ PostS G b Ob OE W O D S2 (forD g m (ds.drop (i + 1)) env2 st2), fun σ2 H2 ⟨hl, z⟩ => ⟨ds.length - (i + 1), hl, rfl, hlt, z⟩, fun x H'' y => ?_⟩
      obtain ⟨S2, x2, su2, so2, r2⟩ := yl x H'' y
      have I2 : DI G b O S2 env' st' σ' H'' := I'.ext x2 su2 (so2 _ I'.sto)
      rw [List.drop_eq_getElem_cons hlt] at h'
      unfold forD at h'
      cases e2 : g ds[i] env' with
      | none => rw [e2] at h'; exact h'.elim
      | some env1 =>
        rw [e2] at h'
        refine wg b S2 env' env1 st' σ' H'' x ds[i] _ I2 r2 e2 fun σ3 _ I3 => wb b S2 env1 st' σ3 H'' _ I3 ?_
        have lt : ds.length - (i + 1) < ds.length - i := by omega
        dsimp only at h'
        cases e3 : m env1 st' with
        | nx env4 st4 =>
          rw [e3] at h'
          intro S4 σ4 H4 y4 I4
          exact ⟨lt, S4, env4, st4, e1.trans (x2.same.trans y4), I4, h'.from_ (x2.same.trans y4)⟩
        | ct env4 st4 =>
          rw [e3] at h'
          intro S4 σ4 H4 y4 I4
          exact ⟨lt, S4, env4, st4, e1.trans (x2.same.trans y4), I4, h'.from_ (x2.same.trans y4)⟩
        | bk env4 st4 =>
          rw [e3] at h'
          intro S4 σ4 H4 y4 I4
          exact h' S4 σ4 H4 (x2.same.trans y4) I4
        | rt d st4 => rw [e3] at h'; exact h'
        | er x st4 => rw [e3] at h'; exact PostS.from_ x2.same h'
        | bad => rw [e3] at h'; exact h'
    · left
      have hi' : i = ds.length := Nat.le_antisymm hi (Nat.le_of_not_lt hlt)
      refine ⟨(it i S' H' e1 I'.sub).1 hi', ?_⟩
      rw [hi', List.drop_length] at h'
      exact h' S' σ' H' (.refl _) I'
theorem ds_doc {x : Str} {j} {pos' : Pos} : DS G X W Ob OE O (.Expr (.Constant (.str x) j pos) pos') O mNx := ⟨_, ps_doc, fun b S env st σ H D I h => h S σ H (.refl _) I⟩
end

/-! ### while -/
def whileN (c : MT) (m : MS) : Nat → MS
  | 0 => fun _ _ => .bad
  | n + 1 => fun env st => match c env st with
    | .ok k st1 => if k = true then (match m env st1 with
        | .nx e s => whileN c m n e s
        | .ct e s => whileN c m n e s
        | .bk e s => .nx e s
        | o => o) else .nx env st1
    | .err x st1 => .er x env st1
    | .bad => .bad
theorem whileN_more {c : MT} {m : MS} : ∀ (n : Nat) (env : Env') (st : List D), whileN c m n env st ≠ .bad → whileN c m (n + 1) env st = whileN c m n env st := by
  intro n
  induction n with
  | zero => intro env st h; exact absurd rfl h
  | succ n ih =>
    intro env st h
    unfold whileN at h ⊢
    cases e : c env st with
    | bad => rfl
    | err x st1 => rfl
    | ok k st1 =>
      rw [e] at h
      dsimp only at h ⊢
      by_cases hk : k = true
      · rw [if_pos hk] at h ⊢
        rw [if_pos hk]
        cases e2 : m env st1 with
        | nx e s => rw [e2] at h; exact ih e s h
        | ct e s => rw [e2] at h; exact ih e s h
        | bk e s => rfl
        | rt d s => rfl
        | er x e s => rfl
        | bad => rfl
      · rw [if_neg hk, if_neg hk]
theorem whileN_le {c : MT} {m : MS} {n k : Nat} {env : Env'} {st : List D} (h : whileN c m n env st ≠ .bad) (hk : n ≤ k) : whileN c m k env st = whileN c m n env st := by
  induction hk with
  | refl => rfl
  | step _ ih => rw [whileN_more _ _ _ (by rw [ih]; exact h), ih]
open Classical in
/-- a while: the end that it has after enough turns -/
noncomputable def mWhile (c : MT) (m : MS) : MS := fun env st => if h : ∃ n, whileN c m n env st ≠ .bad then whileN c m h.choose env st else .bad
theorem mWhile_of {c : MT} {m : MS} {n : Nat} {env : Env'} {st : List D} {o : Out} (h : whileN c m n env st = o) (ho : o ≠ .bad) : mWhile c m env st = o := by
  have hx : ∃ n, whileN c m n env st ≠ .bad := ⟨n, by rw [h]; exact ho⟩
  unfold mWhile
  rw [dif_pos hx]
  rcases Nat.le_total n hx.choose with q | q
  · rw [whileN_le (by rw [h]; exact ho) q, h]
  · rw [← whileN_le hx.choose_spec q, h]
theorem mWhile_bad {c : MT} {m : MS} {env : Env'} {st : List D} (h : ∀ n, whileN c m n env st = .bad) : mWhile c m env st = .bad := by
  unfold mWhile
  rw [dif_neg fun ⟨n, q⟩ => q (h n)]
/-- one turn -/
theorem mWhile_eq (c : MT) (m : MS) (env : Env') (st : List D) : mWhile c m env st = match c env st with
    | .ok k st1 => if k = true then (match m env st1 with
        | .nx e s => mWhile c m e s
        | .ct e s => mWhile c m e s
        | .bk e s => .nx e s
        | o => o) else .nx env st1
    | .err x st1 => .er x env st1
    | .bad => .bad := by
  by_cases hx : ∃ n, whileN c m n env st ≠ .bad
  · obtain ⟨n, hn⟩ := hx
    rw [mWhile_of rfl hn]
    cases n with
    | zero => exact absurd rfl hn
    | succ n =>
      unfold whileN at hn ⊢
      cases e : c env st with
      | bad => rfl
      | err x st1 => rfl
      | ok k st1 =>
        rw [e] at hn
        dsimp only at hn ⊢
        by_cases hk : k = true
        · rw [if_pos hk] at hn ⊢
          rw [if_pos hk]
          cases e2 : m env st1 with
          | nx e s => rw [e2] at hn; exact (mWhile_of rfl hn).symm
          | ct e s => rw [e2] at hn; exact (mWhile_of rfl hn).symm
          | bk e s => rfl
          | rt d s => rfl
          | er x e s => rfl
          | bad => rfl
        · rw [if_neg hk, if_neg hk]
  · have hx' : ∀ n, whileN c m n env st = .bad := fun n => Classical.byContradiction fun q => hx ⟨n, q⟩
    rw [mWhile_bad hx']
    cases e : c env st with
    | bad => rfl
    | err x st1 =>
      have := hx' 1
      unfold whileN at this
      rw [e] at this; cases this
    | ok k st1 =>
      dsimp only
      by_cases hk : k = true
      · rw [if_pos hk]
        have key : ∀ n, (match m env st1 with
            | .nx e s => whileN c m n e s
            | .ct e s => whileN c m n e s
            | .bk e s => .nx e s
            | o => o) = .bad := fun n => by
          have := hx' (n + 1)
          unfold whileN at this
          rw [e] at this
          dsimp only at this
          rw [if_pos hk] at this
          exact this
        cases e2 : m env st1 with
        | nx e s => rw [e2] at key; exact (mWhile_bad key).symm
        | ct e s => rw [e2] at key; exact (mWhile_bad key).symm
        | bk e s => have := key 0; rw [e2] at this; cases this
        | rt d s => have := key 0; rw [e2] at this; cases this
        | er x e s => have := key 0; rw [e2] at this; cases this
        | bad => rfl
      · have := hx' 1
        unfold whileN at this
        rw [e] at this
        dsimp only at this
        rw [if_neg hk] at this; cases this
section
variable {G : Glb} {X : Cx} {W : WX} {Ob : Ow} {OE : Ow → Prop} {O O1 : Ow} {pos : Pos} {k : Nat}
theorem ds_while {c : Expr} {body : List Stmt} {t : MT} {m : MS} (xc : XC k G X W) (hc : DT G X W O c t) (hb : DSs G X W O OE O body O m) (hO : OE O := by first | trivial | rfl) : DS G X W Ob OE O (.While c body [] pos) O (mWhile t m) := by
  obtain ⟨tc, pc, wc⟩ := hc.ex
  obtain ⟨tb, pb, wb⟩ := hb.ex
  refine ⟨_, ps_while xc.po pc pb, fun b S env st σ H D I h => ?_⟩
  by_cases hx : ∃ n, whileN t m n env st ≠ .bad
  · obtain ⟨n, hn⟩ := hx
    rw [mWhile_of rfl hn] at h
    refine ⟨fun n σ' H' => ∃ S' env' st', DI G b O S' env' st' σ' H' ∧ PostS G b Ob OE W O D S' (whileN t m n env' st'), ⟨n, S, env, st, I, h⟩, ?_⟩
    rintro n σ' H' ⟨S', env', st', I', h'⟩
    refine wc b S' env' st' σ' H' _ I' ?_
    cases n with
    | zero => exact h'.elim
    | succ n =>
      unfold whileN at h'
      cases e : t env' st' with
      | bad => rw [e] at h'; exact h'.elim
      | err x st1 =>
        rw [e] at h'
        intro cls dd S1 H1 x1 su so r
        exact h' cls dd O S1 σ' H1 hO x1.same (I'.ext x1 su so) r
      | ok k st1 =>
        rw [e] at h'
        intro S1 H1 x1 su1 so1
        have I1 := I'.ext x1 su1 so1
        dsimp only at h'
        cases k with
        | false =>
          rw [if_neg Bool.false_ne_true] at h'
          rw [if_neg Bool.false_ne_true]
          exact h' S1 σ' H1 x1.same I1
        | true =>
          rw [if_pos rfl] at h'
          rw [if_pos rfl]
          refine ⟨fun σ2 H2 => ∃ S2 env2 st2, DI G b O S2 env2 st2 σ2 H2 ∧ PostS G b Ob OE W O D S2 (whileN t m n env2 st2), fun σ2 H2 z => ⟨n, Nat.lt_succ_self n, z⟩, wb b S1 env' st1 σ' H1 _ I1 ?_⟩
          cases e2 : m env' st1 with
          | nx e s => rw [e2] at h'; exact fun S2 σ2 H2 y2 I2 => ⟨S2, e, s, I2, h'.from_ (x1.same.trans y2)⟩
          | ct e s => rw [e2] at h'; exact fun S2 σ2 H2 y2 I2 => ⟨S2, e, s, I2, h'.from_ (x1.same.trans y2)⟩
          | bk e s => rw [e2] at h'; exact fun S2 σ2 H2 y2 I2 => h' S2 σ2 H2 (x1.same.trans y2) I2
          | rt d s => rw [e2] at h'; exact h'
          | er x e s => rw [e2] at h'; exact PostS.from_ x1.same h'
          | bad => rw [e2] at h'; exact h'
  · exact absurd h (by rw [mWhile_bad fun n => Classical.byContradiction fun q => hx ⟨n, q⟩]; exact id)
end
end DL

/-! DL, fifth part: operators and built-ins by data. -/
namespace DL
open PySem PySem.Spec PyProof.Rows L2

/-! ### data as the library's data -/
mutual
def toP : D → PyData
  | .non => .none
  | .bl b => .bool b
  | .int i => .int i
  | .str x => .str x
  | .tup xs => .tuple (toPs xs)
  | .lst xs => .list (toPs xs)
  | .rol xs => .list (toPs xs)
  | .ty _ => .dict []
  | .obj _ _ => .dict []
  | .cls _ => .dict []
  | .tok _ => .dict []
  | .dic => .dict []
def toPs : List D → List PyData
  | [] => []
  | x :: xs => toP x :: toPs xs
end
theorem toPs_map : ∀ xs : List D, toPs xs = xs.map toP
  | [] => rfl
  | x :: xs => by rw [toPs, toPs_map xs]; rfl
theorem canAll {x : PyData} {xs : List PyData} (h : PyData.canLayAll0 (x :: xs) = true) : x.canLay0 = true ∧ PyData.canLayAll0 xs = true := by
  have h' : (x.canLay0 && PyData.canLayAll0 xs) = true := by simpa [PyData.canLayAll0] using h
  simpa using h'
section
variable {G : Glb} {ad : List Addr} {S H : Hp}
mutual
theorem Rep.dp (su : Same S H) : ∀ {v : V} {d : D}, Rep G ad S v d → (toP d).canLay0 = true → Dp G.K H v (toP d)
  | _, _, .non, _ => .non
  | _, _, .bl b, _ => .bl b
  | _, _, .int i, _ => .int i
  | _, _, .str x, _ => .str x
  | _, _, .tup h r, c => .tup (Same.sqT su h.sqT) (Reps.dp su r (by simpa [toP, PyData.canLay0] using c))
  | _, _, .lst h r, c => .lst (SqL.of (su _ _ h)) (Reps.dp su r (by simpa [toP, PyData.canLay0] using c))
  | _, _, .rol h r, c => .lst (su.seq h) (Reps.dp su r (by simpa [toP, PyData.canLay0] using c))
  | _, _, .ty _, c => by simp [toP, PyData.canLay0] at c
  | _, _, .obj _ _, c => by simp [toP, PyData.canLay0] at c
  | _, _, .cls _, c => by simp [toP, PyData.canLay0] at c
  | _, _, .tok _, c => by simp [toP, PyData.canLay0] at c
  | _, _, .dic _, c => by simp [toP, PyData.canLay0] at c
theorem Reps.dp (su : Same S H) : ∀ {vs : List V} {ds : List D}, Reps G ad S vs ds → PyData.canLayAll0 (toPs ds) = true → DpAll G.K H vs (toPs ds)
  | _, _, .nil, _ => .nil
  | _, _, .cons h r, c => by
    have c' := canAll c
    exact .cons (Rep.dp su h c'.1) (Reps.dp su r c'.2)
end
end
def eqD (x y : D) : Option Bool := if SeqAt.shaped (toP x) = true ∧ SeqAt.shaped (toP y) = true then some (PyData.eqv (toP x) (toP y)) else none
def dEq (x y : D) : Option D := (eqD x y).map .bl
def dNe (x y : D) : Option D := (eqD x y).map fun b => .bl (!b)
section
variable {G : Glb} {X : Cx}
theorem opd_eq (hK : X.K = G.K) : OpD G (rEqD X.K) dEq := ⟨fun ad S H st x y dx dy d Q su so rx ry e q => by
  unfold dEq eqD at e
  split at e
  · rename_i hs
    have e' : D.bl (PyData.eqv (toP dx) (toP dy)) = d := Option.some.inj e
    subst e'
    exact ⟨_, _, hK ▸ rx.dp su (SeqAt.canLay_of_shaped hs.1), hK ▸ ry.dp su (SeqAt.canLay_of_shaped hs.2), hs.1, hs.2, Post.here su so (.bl _) q⟩
  · cases e⟩
theorem opd_ne (hK : X.K = G.K) : OpD G (rNeD X.K) dNe := ⟨fun ad S H st x y dx dy d Q su so rx ry e q => by
  unfold dNe eqD at e
  split at e
  · rename_i hs
    have e' : D.bl (!PyData.eqv (toP dx) (toP dy)) = d := Option.some.inj e
    subst e'
    exact ⟨_, _, hK ▸ rx.dp su (SeqAt.canLay_of_shaped hs.1), hK ▸ ry.dp su (SeqAt.canLay_of_shaped hs.2), hs.1, hs.2, Post.here su so (.bl _) q⟩
  · cases e⟩
/-- in, not in: a list, a tuple of data -/
def inD (x y : D) : Option Bool := match y with
  | .lst ds => if SeqAt.shaped (toP x) = true ∧ SeqAt.shaped (.list (toPs ds)) = true then some ((toPs ds).any fun z => PyData.eqv z (toP x)) else none
  | .rol ds => if SeqAt.shaped (toP x) = true ∧ SeqAt.shaped (.list (toPs ds)) = true then some ((toPs ds).any fun z => PyData.eqv z (toP x)) else none
  | _ => none
def dIn (x y : D) : Option D := (inD x y).map .bl
def dNotIn (x y : D) : Option D := (inD x y).map fun b => .bl (!b)
theorem opd_in (hK : X.K = G.K) : OpD G (rInD X.K) dIn := ⟨fun ad S H st x y dx dy d Q su so rx ry e q => by
  unfold dIn inD at e
  cases ry <;> try cases e
  all_goals
    rename_i h r
    dsimp only at e
    split at e
    · rename_i hs
      have e' := Option.some.inj e
      subst e'
      have hl := SeqAt.canLay_of_shaped hs.2
      refine ⟨_, _, hK ▸ rx.dp su (SeqAt.canLay_of_shaped hs.1), ?_, hs.1, hs.2, Post.here su so (.bl _) q⟩
      first
        | exact hK ▸ .lst (SqL.of (su _ _ h)) (Reps.dp su r (by simpa [PyData.canLay0] using hl))
        | exact hK ▸ .lst (su.seq h) (Reps.dp su r (by simpa [PyData.canLay0] using hl))
    · cases e⟩
theorem opd_notIn (hK : X.K = G.K) : OpD G (rNotInD X.K) dNotIn := ⟨fun ad S H st x y dx dy d Q su so rx ry e q => by
  unfold dNotIn inD at e
  cases ry <;> try cases e
  all_goals
    rename_i h r
    dsimp only at e
    split at e
    · rename_i hs
      have e' := Option.some.inj e
      subst e'
      have hl := SeqAt.canLay_of_shaped hs.2
      refine ⟨_, _, hK ▸ rx.dp su (SeqAt.canLay_of_shaped hs.1), ?_, hs.1, hs.2, Post.here su so (.bl _) q⟩
      first
        | exact hK ▸ .lst (SqL.of (su _ _ h)) (Reps.dp su r (by simpa [PyData.canLay0] using hl))
        | exact hK ▸ .lst (su.seq h) (Reps.dp su r (by simpa [PyData.canLay0] using hl))
    · cases e⟩

/-! ### ints -/
/-- both sides whole numbers -/
def i2 (f : Int → Int → Option D) : D → D → Option D
  | .int i, .int j => f i j
  | _, _ => none
def i1 (f : Int → D) : D → Option D
  | .int i => some (f i)
  | _ => none
theorem opd_i0 {g : Int → Int → V} {h : Int → Int → D} (hg : ∀ ad S i j, Rep G ad S (g i j) (h i j)) : OpD G (rI0 g) (i2 fun i j => some (h i j)) := ⟨fun ad S H st x y dx dy d Q su so rx ry e q => by
  cases rx <;> try cases e
  cases ry <;> cases e
  exact ⟨_, _, rfl, rfl, Post.here su so (hg _ _ _ _) q⟩⟩
theorem opd_iC {C : Int → Int → Prop} [∀ i j, Decidable (C i j)] {g : Int → Int → V} {h : Int → Int → D} (hg : ∀ ad S i j, Rep G ad S (g i j) (h i j)) : OpD G (rI C g) (i2 fun i j => if C i j then some (h i j) else none) := ⟨fun ad S H st x y dx dy d Q su so rx ry e q => by
  cases rx <;> try cases e
  cases ry <;> try cases e
  rename_i i j
  have e : (if C i j then some (h i j) else none) = some d := e
  by_cases hc : C i j
  · rw [if_pos hc] at e
    cases e
    exact ⟨_, _, rfl, rfl, hc, Post.here su so (hg _ _ _ _) q⟩
  · rw [if_neg hc] at e; cases e⟩
theorem und_i {g : Int → V} {h : Int → D} (hg : ∀ ad S i, Rep G ad S (g i) (h i)) : UnD G (rU g) (i1 h) := ⟨fun ad S H st x dx d Q su so rx e q => by
  cases rx <;> cases e
  exact ⟨_, rfl, Post.here su so (hg _ _ _) q⟩⟩
def dSub : D → D → Option D := i2 fun i j => some (.int (i - j))
def dLt : D → D → Option D := i2 fun i j => some (.bl (decide (i < j)))
def dLe : D → D → Option D := i2 fun i j => some (.bl (decide (i ≤ j)))
def dGt : D → D → Option D := i2 fun i j => some (.bl (decide (j < i)))
def dGe : D → D → Option D := i2 fun i j => some (.bl (decide (j ≤ i)))
def dNeg : D → Option D := i1 fun i => .int (-i)
theorem opd_sub : OpD G (rI0 fun i j => .int (i - j)) dSub := opd_i0 fun _ _ _ _ => .int _
theorem opd_lt : OpD G (rI0 fun i j => .bl (decide (i < j))) dLt := opd_i0 fun _ _ _ _ => .bl _
theorem opd_le : OpD G (rI0 fun i j => .bl (decide (i ≤ j))) dLe := opd_i0 fun _ _ _ _ => .bl _
theorem opd_gt : OpD G (rI0 fun i j => .bl (decide (j < i))) dGt := opd_i0 fun _ _ _ _ => .bl _
theorem opd_ge : OpD G (rI0 fun i j => .bl (decide (j ≤ i))) dGe := opd_i0 fun _ _ _ _ => .bl _
theorem und_neg : UnD G (rU fun i => .int (-i)) dNeg := und_i fun _ _ _ => .int _
/-- the sizes of a product -/
def MulOk (i j : Int) : Prop := i.natAbs < 2 ^ 64 ∨ j.natAbs < 2 ^ 64 ∨ i.natAbs.log2 + j.natAbs.log2 < 1000000
noncomputable instance (i j : Int) : Decidable (MulOk i j) := Classical.propDecidable _
def DivOk (i j : Int) : Prop := j ≠ 0 ∧ (j.natAbs.log2 < 9000 ∨ i.natAbs.log2 < j.natAbs.log2 + 4400)
noncomputable instance (i j : Int) : Decidable (DivOk i j) := Classical.propDecidable _
theorem noPylong_near {x y : Int} (hy : y ≠ 0) (h : x.natAbs.log2 < y.natAbs.log2 + 4400) : Builtin.divisionGoesByPylong x y = false := by
  have e1 : (if y == 0 then 0 else y.natAbs.log2 / 30 + 1) = y.natAbs.log2 / 30 + 1 := if_neg (by simpa using hy)
  have key : (if x == 0 then 0 else x.natAbs.log2 / 30 + 1) ≤ (if y == 0 then 0 else y.natAbs.log2 / 30 + 1) + 150 := by
    rw [e1]
    by_cases hx : (x == 0) = true
    · rw [if_pos hx]; omega
    · rw [if_neg hx]; omega
  show (_ && decide ((if x == 0 then 0 else x.natAbs.log2 / 30 + 1) > (if y == 0 then 0 else y.natAbs.log2 / 30 + 1) + 150)) = false
  rw [decide_eq_false (Nat.not_lt.mpr key), Bool.and_false]
theorem op_mulD : OpR X (binaryOp .Mult) (rI MulOk fun i j => .int (i * j)) := opI fun i j _ _ _ _ _ hc q => by
  refine mul_int q ?_
  rcases hc with h | h | h
  · exact (CMul.ok (i := i) (j := j) (.inl (by omega)))
  · exact (CMul.ok (i := i) (j := j) (.inr (by omega)))
  · exact CMulW.ok h
theorem op_divD : OpR X (binaryOp .FloorDiv) (rI DivOk fun i j => .int (i.fdiv j)) := opI fun i j _ _ _ _ _ hc q => floordiv_int hc.1 q (.inl (hc.2.elim PyProof.noPylong_of_log2 (noPylong_near hc.1)))
theorem op_modD : OpR X (binaryOp .Mod) (rI (fun _ j => j ≠ 0) fun i j => .int (i.fmod j)) := op_modN
noncomputable def dDiv : D → D → Option D := i2 fun i j => if DivOk i j then some (.int (i.fdiv j)) else none
def dMod : D → D → Option D := i2 fun i j => if j ≠ 0 then some (.int (i.fmod j)) else none
theorem opd_div : OpD G (rI DivOk fun i j => .int (i.fdiv j)) dDiv := opd_iC fun _ _ _ _ => .int _
theorem opd_mod : OpD G (rI (fun _ j => j ≠ 0) fun i j => .int (i.fmod j)) dMod := opd_iC (C := fun _ j => j ≠ 0) fun _ _ _ _ => .int _
instance (i j : Int) : Decidable (CPow i j) := inferInstanceAs (Decidable (_ ∧ _ ∧ _))
def dPow : D → D → Option D := i2 fun i j => if CPow i j then some (.int (i ^ j.toNat)) else none
theorem opd_pow : OpD G (rI CPow fun i j => .int (i ^ j.toNat)) dPow := opd_iC fun _ _ _ _ => .int _
/-! ### + and * -/
def dAdd : D → D → Option D
  | .int i, .int j => some (.int (i + j))
  | .str x, .str y => if x.length + y.length ≤ sizeLine then some (.str (x ++ y)) else none
  | .tup xs, .tup ys => if xs.length + ys.length ≤ sizeLine then some (.tup (xs ++ ys)) else none
  | .lst xs, .lst ys => if xs.length + ys.length ≤ sizeLine then some (.lst (xs ++ ys)) else none
  | _, _ => none
theorem op_addD : OpR X (binaryOp .Add) (fun x y H Q => rI0 (fun i j => .int (i + j)) x y H Q ∨ ((∃ i j, x = .str i ∧ y = .str j ∧ i.length + j.length ≤ sizeLine ∧ Q (.str (i ++ j)) H) ∨ (rCatA X.K x y H Q ∨ rCat x y H Q))) := op_add.or (op_add_str.or (op_catA.or op_cat))
theorem opd_add (hK : X.K = G.K) : OpD G (fun x y H Q => rI0 (fun i j => .int (i + j)) x y H Q ∨ ((∃ i j, x = .str i ∧ y = .str j ∧ i.length + j.length ≤ sizeLine ∧ Q (.str (i ++ j)) H) ∨ (rCatA X.K x y H Q ∨ rCat x y H Q))) dAdd := ⟨fun ad S H st x y dx dy d Q su so rx ry e q => by
  unfold dAdd at e
  split at e
  · cases e
    cases rx; cases ry
    exact .inl ⟨_, _, rfl, rfl, Post.here su so (.int _) q⟩
  · split at e <;> cases e
    rename_i hl
    cases rx; cases ry
    exact .inr (.inl ⟨_, _, rfl, rfl, hl, Post.here su so (.str _) q⟩)
  · split at e <;> cases e
    rename_i hl
    cases rx with
    | tup h1 r1 =>
      rename_i a vs
      cases ry with
      | tup h2 r2 =>
        rename_i c ws
        refine .inr (.inr (.inl ⟨a, c, vs, ws, rfl, rfl, hK ▸ Same.sqT su h1.sqT, hK ▸ Same.sqT su h2.sqT, by rw [r1.len, r2.len]; exact hl, fun h0 => ?_, fun h0 h0' => ?_, fun h0 h0' p hp => ?_⟩))
        · subst h0
          cases r1
          exact Post.here su so (.tup h2 r2) q
        · subst h0'
          cases r2
          exact Post.here su so (.tup h1 (by rw [List.append_nil]; exact r1)) q
        · exact Post.tup su so hp (r1.append r2) q
  · split at e <;> cases e
    rename_i hl
    cases rx with
    | lst h1 r1 =>
      rename_i a vs
      cases ry with
      | lst h2 r2 =>
        rename_i c ws
        exact .inr (.inr (.inr ⟨a, c, vs, ws, rfl, rfl, su _ _ h1, su _ _ h2, by rw [r1.len, r2.len]; exact hl, fun p hp => Post.lst su so hp (r1.append r2) q⟩))
  · cases e⟩
def repD (k : Nat) (xs : List D) : List D := (List.replicate k xs).flatten
theorem Reps.rep {ad : List Addr} {S : Hp} {vs : List V} {ds : List D} (r : Reps G ad S vs ds) : ∀ k : Nat, Reps G ad S (List.replicate k vs).flatten (repD k ds)
  | 0 => .nil
  | k + 1 => by
    unfold repD
    rw [List.replicate_succ, List.replicate_succ, List.flatten_cons, List.flatten_cons]
    exact r.append (Reps.rep r k)
noncomputable def dMul : D → D → Option D
  | .int i, .int j => if MulOk i j then some (.int (i * j)) else none
  | .lst xs, .int k => @ite _ (-(2 ^ 63) ≤ k ∧ k < 2 ^ 63 ∧ xs.length * k.toNat ≤ sizeLine) (Classical.propDecidable _) (some (.lst (repD k.toNat xs))) none
  | .tup xs, .int k => if xs ≠ [] ∧ 2 ≤ k ∧ k ≤ 1000 ∧ xs.length ≤ 1000 then some (.tup (repD k.toNat xs)) else none
  | _, _ => none
theorem op_mulD3 : OpR X (binaryOp .Mult) (fun x y H Q => rI MulOk (fun i j => .int (i * j)) x y H Q ∨ (rRep x y H Q ∨ rRepT X.K x y H Q)) := op_mulD.or (op_rep.or op_repT)
theorem opd_mul (hK : X.K = G.K) : OpD G (fun x y H Q => rI MulOk (fun i j => .int (i * j)) x y H Q ∨ (rRep x y H Q ∨ rRepT X.K x y H Q)) dMul := ⟨fun ad S H st x y dx dy d Q su so rx ry e q => by
  unfold dMul at e
  split at e
  · split at e <;> cases e
    rename_i hl
    cases rx; cases ry
    exact .inl ⟨_, _, rfl, rfl, hl, Post.here su so (.int _) q⟩
  · split at e <;> cases e
    rename_i hl
    cases rx with
    | lst h1 r1 =>
      cases ry
      exact .inr (.inl ⟨_, _, _, rfl, rfl, su _ _ h1, hl.1, hl.2.1, by rw [r1.len]; exact hl.2.2, fun p hp => Post.lst su so hp (r1.rep _) q⟩)
  · split at e <;> cases e
    rename_i hl
    cases rx with
    | tup h1 r1 =>
      cases ry
      exact .inr (.inr ⟨_, _, _, rfl, rfl, hK ▸ Same.sqT su h1.sqT, fun z => hl.1 (by subst z; cases r1; rfl), hl.2.1, hl.2.2.1, by rw [r1.len]; exact hl.2.2.2, fun p hp => Post.tup su so hp (r1.rep _) q⟩)
  · cases e⟩
/-! ### is -/
def isNonD : D → Bool
  | .non => true
  | _ => false
theorem isNon_rep {ad : List Addr} {S : Hp} {v : V} {d : D} (r : Rep G ad S v d) : decide (v = .non) = isNonD d := by cases r <;> rfl
def dIsN (x y : D) : Option D := match y with
  | .non => some (.bl (isNonD x))
  | _ => none
def dNotN (x y : D) : Option D := match y with
  | .non => some (.bl (!isNonD x))
  | _ => none
theorem opd_isN : OpD G (fun x y H Q => y = .non ∧ Q (.bl (decide (x = .non))) H) dIsN := ⟨fun ad S H st x y dx dy d Q su so rx ry e q => by
  cases ry <;> cases e
  exact ⟨rfl, by rw [isNon_rep rx]; exact Post.here su so (.bl _) q⟩⟩
theorem opd_notN : OpD G (fun x y H Q => y = .non ∧ Q (.bl (!decide (x = .non))) H) dNotN := ⟨fun ad S H st x y dx dy d Q su so rx ry e q => by
  cases ry <;> cases e
  exact ⟨rfl, by rw [isNon_rep rx]; exact Post.here su so (.bl _) q⟩⟩
def dIsB : D → D → Option D
  | .bl a, .bl b => some (.bl (decide (a = b)))
  | _, _ => none
def dNotB : D → D → Option D
  | .bl a, .bl b => some (.bl (!decide (a = b)))
  | _, _ => none
theorem opd_isB : OpD G (fun x y H Q => ∃ a b, x = .bl a ∧ y = .bl b ∧ Q (.bl (decide (a = b))) H) dIsB := ⟨fun ad S H st x y dx dy d Q su so rx ry e q => by
  cases rx <;> try cases e
  cases ry <;> cases e
  exact ⟨_, _, rfl, rfl, Post.here su so (.bl _) q⟩⟩
theorem opd_notB : OpD G (fun x y H Q => ∃ a b, x = .bl a ∧ y = .bl b ∧ Q (.bl (!decide (a = b))) H) dNotB := ⟨fun ad S H st x y dx dy d Q su so rx ry e q => by
  cases rx <;> try cases e
  cases ry <;> cases e
  exact ⟨_, _, rfl, rfl, Post.here su so (.bl _) q⟩⟩
/-! ### o[i] -/
def dIx : D → D → Option D
  | .lst xs, .int i => atI xs i
  | .rol xs, .int i => atI xs i
  | .tup xs, .int i => atI xs i
  | .str x, .int i => if x.length ≤ sizeLine then (atI x.cps.toList i).map fun c => .str ⟨#[c]⟩ else none
  | _, _ => none
theorem atI_rep {ad : List Addr} {S : Hp} {vs : List V} {ds : List D} {i : Int} {d : D} (r : Reps G ad S vs ds) (h : atI ds i = some d) : ∃ v, atI vs i = some v ∧ Rep G ad S v d := by
  unfold atI at h ⊢
  rw [r.len]
  cases e : ixN ds.length i with
  | none => rw [e] at h; cases h
  | some j =>
    rw [e] at h
    exact r.get (i := j) h
theorem opd_ix (hK : X.K = G.K) : OpD G (rIx X.K) dIx := ⟨fun ad S H st x y dx dy d Q su so rx ry e q => by
  cases ry with
  | int i =>
    cases rx with
    | str z =>
      have e : (if z.length ≤ sizeLine then (atI z.cps.toList i).map fun c => D.str ⟨#[c]⟩ else none) = some d := e
      split at e
      · rename_i hz
        cases ea : atI z.cps.toList i with
        | none => rw [ea] at e; cases e
        | some c =>
          rw [ea] at e
          cases e
          exact .inr (.inr ⟨z, i, c, rfl, rfl, hz, ea, Post.here su so (.str _) q⟩)
      · cases e
    | tup h r =>
      obtain ⟨v, h1, h2⟩ := atI_rep r e
      exact .inr (.inl ⟨_, _, _, _, rfl, rfl, hK ▸ Same.sqT su h.sqT, h1, Post.here su so h2 q⟩)
    | lst h r =>
      obtain ⟨v, h1, h2⟩ := atI_rep r e
      exact .inl ⟨_, _, _, _, rfl, rfl, SqL.of (su _ _ h), h1, Post.here su so h2 q⟩
    | rol h r =>
      obtain ⟨v, h1, h2⟩ := atI_rep r e
      exact .inl ⟨_, _, _, _, rfl, rfl, hK ▸ su.seq h, h1, Post.here su so h2 q⟩
    | _ => cases e
  | _ => cases rx <;> cases e⟩
/-! ### built-ins -/
def c1 (f : D → Option D) : List D → Option D
  | [x] => f x
  | _ => none
theorem reps1 {ad : List Addr} {S : Hp} {vs : List V} {d : D} (r : Reps G ad S vs [d]) : ∃ v, vs = [v] ∧ Rep G ad S v d := by
  cases r with
  | cons h r => cases r; exact ⟨_, rfl, h⟩
theorem reps2 {ad : List Addr} {S : Hp} {vs : List V} {d e : D} (r : Reps G ad S vs [d, e]) : ∃ v w, vs = [v, w] ∧ Rep G ad S v d ∧ Rep G ad S w e := by
  cases r with
  | cons h r =>
    obtain ⟨w, rfl, h2⟩ := reps1 r
    exact ⟨_, _, rfl, h, h2⟩
theorem c1_some {f : D → Option D} {ds : List D} {d : D} (h : c1 f ds = some d) : ∃ x, ds = [x] ∧ f x = some d := by
  match ds, h with
  | [x], h => exact ⟨x, rfl, h⟩
def dAbs : D → Option D := i1 fun i => .int (if i < 0 then -i else i)
theorem cd_abs : CallD G (fun xs H Q => ∃ i, xs = [.int i] ∧ Q (.int (if i < 0 then -i else i)) H) (c1 dAbs) := ⟨fun ad S H st xs ds d Q su so r e q => by
  obtain ⟨x, rfl, e⟩ := c1_some e
  obtain ⟨v, rfl, rv⟩ := reps1 r
  cases rv <;> cases e
  exact ⟨_, rfl, Post.here su so (.int _) q⟩⟩
def dInt1 : D → Option D
  | .int i => some (.int i)
  | .bl b => some (.int (if b then 1 else 0))
  | _ => none
theorem cd_int : CallD G (fun xs H Q => (∃ i, xs = [.int i] ∧ Q (.int i) H) ∨ ∃ k, xs = [.bl k] ∧ Q (.int (if k then 1 else 0)) H) (c1 dInt1) := ⟨fun ad S H st xs ds d Q su so r e q => by
  obtain ⟨x, rfl, e⟩ := c1_some e
  obtain ⟨v, rfl, rv⟩ := reps1 r
  cases rv <;> cases e
  · exact .inr ⟨_, rfl, Post.here su so (.int _) q⟩
  · exact .inl ⟨_, rfl, Post.here su so (.int _) q⟩⟩
def dLen : D → Option D
  | .str x => if x.length ≤ sizeLine then some (.int (x.length : Nat)) else none
  | .lst xs => some (.int (xs.length : Nat))
  | .rol xs => some (.int (xs.length : Nat))
  | .tup xs => some (.int (xs.length : Nat))
  | _ => none
theorem cd_len (hK : X.K = G.K) : CallD G (fun xs H Q => ∃ x n, xs = [x] ∧ LenV X.K x H n ∧ Q (.int n) H) (c1 dLen) := ⟨fun ad S H st xs ds d Q su so r e q => by
  obtain ⟨x, rfl, e⟩ := c1_some e
  obtain ⟨v, rfl, rv⟩ := reps1 r
  cases rv with
  | str z =>
    have e2 : (if z.length ≤ sizeLine then some (D.int (z.length : Nat)) else none) = some d := e
    by_cases hz : z.length ≤ sizeLine
    case neg => rw [if_neg hz] at e2; cases e2
    rw [if_pos hz] at e2
    cases e2
    exact ⟨_, _, rfl, ⟨hz, rfl⟩, Post.here su so (.int _) q⟩
  | tup h r1 => cases e; exact ⟨_, _, rfl, .inr ⟨_, hK ▸ Same.sqT su h.sqT, rfl⟩, by rw [r1.len]; exact Post.here su so (.int _) q⟩
  | lst h r1 => cases e; exact ⟨_, _, rfl, .inl ⟨_, SqL.of (su _ _ h), rfl⟩, by rw [r1.len]; exact Post.here su so (.int _) q⟩
  | rol h r1 => cases e; exact ⟨_, _, rfl, .inl ⟨_, hK ▸ su.seq h, rfl⟩, by rw [r1.len]; exact Post.here su so (.int _) q⟩
  | _ => cases e⟩
def c2i (f : Int → Int → D) : List D → Option D
  | [.int a, .int b] => some (f a b)
  | _ => none
theorem c2i_some {f : Int → Int → D} {ds : List D} {d : D} (h : c2i f ds = some d) : ∃ a b, ds = [.int a, .int b] ∧ d = f a b := by
  match ds, h with
  | [.int a, .int b], h => exact ⟨a, b, rfl, (Option.some.inj h).symm⟩
def dGcd : List D → Option D := c2i fun a b => .int ((Nat.gcd a.natAbs b.natAbs : Nat) : Int)
theorem cd_gcd : CallD G rGcd dGcd := ⟨fun ad S H st xs ds d Q su so r e q => by
  obtain ⟨a, b, rfl, rfl⟩ := c2i_some e
  obtain ⟨v, w, rfl, r1, r2⟩ := reps2 r
  cases r1; cases r2
  exact ⟨a, b, rfl, Post.here su so (.int _) q⟩⟩
/-- list(..), tuple(..) of a list or a tuple -/
def dList : D → Option D
  | .lst xs => some (.lst xs)
  | .rol xs => some (.lst xs)
  | .tup xs => some (.lst xs)
  | _ => none
theorem cd_list (hK : X.K = G.K) : CallD G (fun xs H Q => ∃ p ys, xs = [.ref p] ∧ (SqL X.K H p ys ∨ SqT X.K H p ys) ∧ ∀ l, H l = none → Q (.ref l) (upd H l (.lst ys))) (c1 dList) := ⟨fun ad S H st xs ds d Q su so r e q => by
  obtain ⟨x, rfl, e⟩ := c1_some e
  obtain ⟨v, rfl, rv⟩ := reps1 r
  cases rv with
  | tup h r1 => cases e; exact ⟨_, _, rfl, .inr (hK ▸ Same.sqT su h.sqT), fun l hl => Post.lst su so hl r1 q⟩
  | lst h r1 => cases e; exact ⟨_, _, rfl, .inl (SqL.of (su _ _ h)), fun l hl => Post.lst su so hl r1 q⟩
  | rol h r1 => cases e; exact ⟨_, _, rfl, .inl (hK ▸ su.seq h), fun l hl => Post.lst su so hl r1 q⟩
  | _ => cases e⟩
def dTuple : D → Option D
  | .lst xs => some (.tup xs)
  | .rol xs => some (.tup xs)
  | .tup xs => some (.tup xs)
  | _ => none
theorem cd_tuple (hK : X.K = G.K) : CallD G (fun xs H Q => ∃ p ys, xs = [.ref p] ∧ ((SqL X.K H p ys ∧ ∀ l, H l = none → Q (.ref l) (upd H l (.tup ys))) ∨ (SqT X.K H p ys ∧ Q (.ref p) H))) (c1 dTuple) := ⟨fun ad S H st xs ds d Q su so r e q => by
  obtain ⟨x, rfl, e⟩ := c1_some e
  obtain ⟨v, rfl, rv⟩ := reps1 r
  cases rv with
  | tup h r1 => cases e; exact ⟨_, _, rfl, .inr ⟨hK ▸ Same.sqT su h.sqT, Post.here su so (.tup h r1) q⟩⟩
  | lst h r1 => cases e; exact ⟨_, _, rfl, .inl ⟨SqL.of (su _ _ h), fun l hl => Post.tup su so hl r1 q⟩⟩
  | rol h r1 => cases e; exact ⟨_, _, rfl, .inl ⟨hK ▸ su.seq h, fun l hl => Post.tup su so hl r1 q⟩⟩
  | _ => cases e⟩
/-! ### isinstance -/
/-- the built-in type of a value -/
def tyN : D → Option String
  | .non => some "NoneType"
  | .bl _ => some "bool"
  | .int _ => some "int"
  | .str _ => some "str"
  | .tup _ => some "tuple"
  | .lst _ => some "list"
  | .rol _ => some "list"
  | .dic => some "dict"
  | _ => none
def subTy (a b : String) : Option Bool :=
  if a = b then some true
  else if a = "bool" ∧ b = "int" then some true
  else if (a = "NoneType" ∨ a = "bool" ∨ a = "int" ∨ a = "str" ∨ a = "tuple" ∨ a = "list" ∨ a = "dict") ∧ (b = "bool" ∨ b = "int" ∨ b = "str" ∨ b = "tuple" ∨ b = "list") then some false else none
theorem subTy_ok {K : PySem.W.Frag} {a b : String} {r : Bool} (h : subTy a b = some r) : PySem.W.kitOne K (.type a) (.type b) = some r := by
  refine kit_ty ?_
  unfold subTy at h
  split at h
  · rename_i e; subst e; cases h
    unfold kitB
    simp
  · split at h
    · rename_i e; obtain ⟨rfl, rfl⟩ := e; cases h; decide +kernel
    · split at h
      · rename_i hne hbi e
        cases h
        obtain ⟨ha, hb⟩ := e
        rcases ha with rfl | rfl | rfl | rfl | rfl | rfl | rfl <;> rcases hb with rfl | rfl | rfl | rfl | rfl <;> first | decide +kernel | exact absurd rfl hne | exact absurd (And.intro rfl rfl) hbi
      · cases h
def isiD (x c : D) : Option Bool := match tyN x, c with
  | some a, .ty b => subTy a b
  | _, _ => none
def anyIsi (x : D) : List D → Option Bool
  | [] => some false
  | c :: cs => match isiD x c, anyIsi x cs with
    | some a, some b => some (a || b)
    | _, _ => none
def dIsi : List D → Option D
  | [x, .tup (c :: cs)] => (anyIsi x (c :: cs)).map .bl
  | [x, c] => (isiD x c).map .bl
  | _ => none
theorem tyN_ok {ad : List Addr} {S H : Hp} {v : V} {d : D} {a : String} (su : Same S H) (r : Rep G ad S v d) (ea : tyN d = some a) : TyX G.K H v (.type a) := by
  cases r <;> cases ea
  · exact .base .non
  · exact .base (.bl _)
  · exact .base (.int _)
  · exact .base (.str _)
  · rename_i h r
    rcases h with h | ⟨o, its, n, h1, h2, _⟩
    · exact .base (.tup (su _ _ h))
    · exact .kTuple h1 h2
  · rename_i h r
    exact .base (.lst (su _ _ h))
  · rename_i h r
    rcases h with (h | ⟨o, h⟩) | ⟨o, its, n, h1, h2, _⟩
    · exact .base (.lst (su _ _ h))
    · exact .base (.frz (su _ _ h))
    · exact .kList h1 h2
  · rename_i h
    exact .base (.dK (su _ _ h))
theorem isi_cls {ad : List Addr} {S : Hp} {w : V} {d c : D} {k : Bool} (rc : Rep G ad S w c) (h : isiD d c = some k) : ∃ a b, tyN d = some a ∧ ClsV w (.type b) ∧ PySem.W.kitOne G.K (.type a) (.type b) = some k := by
  unfold isiD at h
  split at h
  · rename_i a b ea
    cases rc
    exact ⟨a, b, ea, .ty b, subTy_ok h⟩
  · cases h
theorem any_ok {ad : List Addr} {S : Hp} {d : D} {a : String} (ea : tyN d = some a) : ∀ {ws : List V} {cs : List D} {k : Bool}, Reps G ad S ws cs → anyIsi d cs = some k → ∃ us, Paired ClsV ws us ∧ PySem.W.kitAny G.K (.type a) us = some k
  | _, _, k, .nil, h => ⟨[], .nil, by cases h; rfl⟩
  | _, _, k, .cons (v := w) (d := c) (ds := cs) rc rr, h => by
    unfold anyIsi at h
    split at h
    · rename_i p q e1 e2
      cases h
      obtain ⟨us, hu, hk⟩ := any_ok ea rr e2
      obtain ⟨a', b, ea', hc, h1⟩ := isi_cls rc e1
      rw [ea] at ea'
      cases ea'
      refine ⟨_, .cons hc hu, kitAny_cons h1 (fun z => ?_) (fun z => ?_)⟩
      · rw [z]; exact hk
      · rw [z]; rfl
    · cases h
theorem cd_isi (hK : X.K = G.K) : CallD G (fun xs H Q => rIsi X.K xs H Q ∨ (rIsiT X.K xs H Q ∨ rIsiK X.K xs H Q)) dIsi := ⟨fun ad S H st xs ds d Q su so r e q => by
  unfold dIsi at e
  split at e
  · rename_i x c0 cs0
    obtain ⟨v, w, rfl, r1, r2⟩ := reps2 r
    obtain ⟨cs, hcs⟩ : ∃ cs, cs = c0 :: cs0 := ⟨_, rfl⟩
    rw [← hcs] at e r2
    cases ek : anyIsi x cs with
    | none => rw [ek] at e; cases e
    | some k =>
      rw [ek] at e
      cases e
      cases r2 with
      | tup h2 r2 =>
        obtain ⟨a, ea⟩ : ∃ a, tyN x = some a := by
          rw [hcs] at ek
          unfold anyIsi isiD at ek
          cases et : tyN x with
          | none => rw [et] at ek; cases ek
          | some a => exact ⟨a, rfl⟩
        obtain ⟨us, p, hk⟩ := any_ok ea r2 ek
        rcases h2 with h2 | ⟨o, its, n, h3, h4, h5, h6, h7⟩
        · exact .inr (.inl ⟨v, _, _, .type a, us, k, rfl, su _ _ h2, p, hK ▸ tyN_ok su r1 ea, hK ▸ hk, Post.here su so (.bl _) q⟩)
        · have e3 : its.toList = us := ClsV.all p h7
          obtain ⟨oc, od, dt, sl⟩ := o
          simp only at h4 h5
          subst h4 h5
          refine .inr (.inr ⟨v, _, od, us, n, sl, .type a, k, rfl, ?_, hK ▸ tyN_ok su r1 ea, hK ▸ hk, Post.here su so (.bl _) q⟩)
          rw [hK, h3, ← e3]
  · rename_i x c hne
    obtain ⟨v, w, rfl, r1, r2⟩ := reps2 r
    cases ek : isiD x c with
    | none => rw [ek] at e; cases e
    | some k =>
      rw [ek] at e
      cases e
      obtain ⟨a, b, ea, hc, h1⟩ := isi_cls r2 ek
      exact .inl ⟨v, w, .type a, .type b, k, rfl, hc, hK ▸ tyN_ok su r1 ea, hK ▸ h1, Post.here su so (.bl _) q⟩
  · cases e⟩
end
end DL

/-! DL, sixth part: truth, cells, try, comprehensions. -/
namespace DL
open PySem PySem.Spec PyProof.Rows L2

/-! ### truth of a value -/
def tru? : D → M Bool
  | .non => fun st => .ok false st
  | .bl b => fun st => .ok b st
  | .int i => fun st => .ok (i != 0) st
  | .str x => fun st => if x.length ≤ sizeLine then .ok ((x.length : Int) != 0) st else .bad
  | .lst xs => fun st => .ok (!xs.isEmpty) st
  | .rol xs => fun st => .ok (!xs.isEmpty) st
  | .tup xs => fun st => .ok (!xs.isEmpty) st
  | _ => fun _ => .bad
def mTru (ma : ME) : MT := fun env st => (ma env st).bind tru?
theorem reps_empty {G : Glb} {ad : List Addr} {S : Hp} {vs : List V} {ds : List D} (r : Reps G ad S vs ds) : vs.isEmpty = ds.isEmpty := by cases r <;> rfl
section
variable {G : Glb} {X : Cx} {W : WX} {O : Ow} {pos : Pos}
theorem dt_tru {e : Expr} {m : ME} (hK : X.K = G.K) (h : DE G X W O e m) (he : ∀ whole, isTrue e X.env whole = (do let v ← whole; standAt e.pos; holding [v] (truthy v)) := by intro _; rfl) : DT G X W O e (mTru m) := by
  obtain ⟨t, p, w⟩ := h.ex
  refine ⟨_, pt_truth p he, fun b S env st σ H Q I h => w b S env st σ H _ I (wpR_imp (wpR_bind h) (fun dx st1 h1 => ?_) fun _ _ z => z)⟩
  intro x S1 H1 x1 su1 so1 r1
  cases r1 with
  | non => exact ⟨_, rfl, h1 _ _ x1 su1 so1⟩
  | bl b => exact ⟨_, rfl, h1 _ _ x1 su1 so1⟩
  | int i => exact ⟨_, rfl, h1 _ _ x1 su1 so1⟩
  | str z =>
    have e0 : tru? (.str z) st1 = if z.length ≤ sizeLine then Res.ok ((z.length : Int) != 0) st1 else .bad := rfl
    rw [e0] at h1
    by_cases hz : z.length ≤ sizeLine
    · rw [if_pos hz] at h1
      exact ⟨_, ⟨hz, rfl⟩, h1 _ _ x1 su1 so1⟩
    · rw [if_neg hz] at h1; exact h1.elim
  | tup h r => exact ⟨_, .inr (.inl ⟨_, hK ▸ Same.sqT su1 h.sqT, rfl⟩), by rw [reps_empty r]; exact h1 _ _ x1 su1 so1⟩
  | lst h r => exact ⟨_, .inl ⟨_, SqL.of (su1 _ _ h), rfl⟩, by rw [reps_empty r]; exact h1 _ _ x1 su1 so1⟩
  | rol h r => exact ⟨_, .inl ⟨_, hK ▸ su1.seq h, rfl⟩, by rw [reps_empty r]; exact h1 _ _ x1 su1 so1⟩
  | _ => exact h1.elim

/-! ### cells -/
def ixS (x y : D) : M D := fun st => match x with
  | .tok n => match st[n]?, y with
    | some (.lst ds), .int i => ret? (atI ds i) st
    | _, _ => .bad
  | _ => ret? (dIx x y) st
theorem ixS_other {x y : D} {st : List D} (hn : ∀ n, x ≠ .tok n) : ixS x y st = ret? (dIx x y) st := by
  unfold ixS
  cases x <;> first | rfl | exact absurd rfl (hn _)
theorem ixS_tok {n : Nat} {i : Int} {st ds : List D} (h : st[n]? = some (.lst ds)) : ixS (.tok n) (.int i) st = ret? (atI ds i) st := by
  show (match st[n]?, D.int i with | some (.lst ds), .int i => ret? (atI ds i) st | _, _ => .bad) = _
  rw [h]
theorem ixS_tokI {n : Nat} {y : D} {st : List D} {ds : List D} (h : st[n]? = some (.lst ds)) (hy : ∀ i, y ≠ .int i) : ixS (.tok n) y st = .bad := by
  show (match st[n]?, y with | some (.lst ds), .int i => ret? (atI ds i) st | _, _ => .bad) = _
  rw [h]
  cases y <;> first | rfl | exact absurd rfl (hy _)
/-- o[i], o a cell or any other -/
def mIx (ma mb : ME) : ME := fun env st => (ma env st).bind fun x st1 => (mb env st1).bind fun y => ixS x y
theorem de_get {a b : Expr} {ma mb : ME} (hK : X.K = G.K) (ha : DE G X W O a ma) (hb : DE G X W O b mb) (hs : PlainIx b := by intro _ _; rfl) : DE G X W O (.Subscript a b pos) (mIx ma mb) := by
  obtain ⟨ta, tb, pa, pb, w⟩ := two_parts (k := ixS) ha hb
  refine ⟨_, pe_ix ix_seq pa pb hs, fun b S env st σ H Q I h => w b S env st σ H _ (fun x y H2 => rIx X.K x y H2 Q) I h fun x y dx dy S' H' st' e I' rx ry hk => ?_⟩
  by_cases ht : ∃ n, dx = .tok n
  · obtain ⟨n, rfl⟩ := ht
    cases rx with
    | tok ha =>
      rename_i a
      obtain ⟨h1, ds, vs, h2, h3, h4⟩ := I'.sto.at_ n a ha
      cases ry with
      | int i =>
        rw [ixS_tok h2] at hk
        obtain ⟨d, e1, q⟩ := wp_ret hk
        obtain ⟨v, e2, r2⟩ := atI_rep h4 e1
        exact .inl ⟨_, _, _, _, rfl, rfl, SqL.of h3, e2, Post.here I'.sub I'.sto r2 (Post.from_ e I'.sto q)⟩
      | _ => rw [ixS_tokI h2 (fun i z => by cases z)] at hk; exact hk.elim
  · rw [ixS_other fun n z => ht ⟨n, z⟩] at hk
    obtain ⟨d, e1, q⟩ := wp_ret hk
    exact (opd_ix hK).go b.ad S' H' st' x y dx dy d Q I'.sub I'.sto rx ry e1 (Post.from_ e I'.sto q)
theorem nodup_inj {α : Type} {l : List α} {i j : Nat} (nd : l.Nodup) (hi : i < l.length) (hj : j < l.length) (e : l[i] = l[j]) : i = j := (List.getElem_inj nd).mp e
theorem StoOk.put {ad : List Addr} {S H : Hp} {st : List D} {n j : Nat} {a : Addr} {ds : List D} {vs : List V} {v : V} {d : D} (so : StoOk G ad S st H) (ha : ad[n]? = some a) (hd : st[n]? = some (.lst ds)) (hv : H a = some (.lst vs)) (r : Rep G ad S v d) : StoOk G ad S (st.set n (.lst (ds.set j d))) (upd H a (.lst (vs.set j v))) := by
  refine ⟨by rw [List.length_set]; exact so.len, so.nd, fun m c hc => ?_⟩
  obtain ⟨h1, es, ws, h2, h3, h4⟩ := so.at_ m c hc
  by_cases hm : m = n
  · subst hm
    have e1 : a = c := Option.some.inj (ha.symm.trans hc)
    subst e1
    rw [hd] at h2; cases h2
    rw [hv] at h3; cases h3
    have hl : m < st.length := (List.getElem?_eq_some_iff.mp hd).1
    exact ⟨h1, _, _, List.getElem?_set_self hl, upd_same, h4.set j r⟩
  · have hne : c ≠ a := fun z => hm (by
      subst z
      have i1 := (List.getElem?_eq_some_iff.mp hc)
      have i2 := (List.getElem?_eq_some_iff.mp ha)
      exact nodup_inj so.nd i1.1 i2.1 (i1.2.trans i2.2.symm))
    refine ⟨h1, es, ws, ?_, ?_, h4⟩
    · rw [List.getElem?_set_ne (Ne.symm hm)]; exact h2
    · rw [upd_ne hne]; exact h3
/-- cell[k] = e -/
def mPut (i : Nat) (k : Int) (m : ME) : MS := mDo m fun d env st => match env[i]? with
  | some (some (.tok n)) => match st[n]? with
    | some (.lst ds) => match ixN ds.length k with
      | some j => .nx env (st.set n (.lst (ds.set j d)))
      | none => .bad
    | _ => .bad
  | _ => .bad
theorem ds_put {Ob : Ow} {OE : Ow → Prop} (i : Nat) {x : Str} {k : Int} {j} {p1 p2 p3 : Pos} {e : Expr} {me : ME} (he : DE G X W O e me) (hO : OE O := by first | trivial | rfl) (hN : X.N[i]? = some x := by rfl) (ho : O.has i = false := by rfl)
    (hv : Vis X.env.scope x := by first | exact Or.inl rfl | exact Or.inr (Or.inl rfl) | exact Or.inr (Or.inr rfl)) (hd : (x == ("__debug__" : Str)) = false := by decide) (hcd : (x == ("__classdict__" : Str)) = false := by decide)
    (ha : ∀ v, assign (.Subscript (.Name x p1) (.Constant (.int k) j p2) p3) X.env v = (do
      let ov ← holding [v] (eval (.Name x p1) X.env)
      let iv ← holding [v, ov] (eval (.Constant (.int k) j p2) X.env)
      standAt p3
      holding [v, ov, iv] (setItem ov iv v)
      release [v, ov, iv] []) := by intro _; rfl)
    (hs : swapsWithSole [.Subscript (.Name x p1) (.Constant (.int k) j p2) p3] e pos.line X.env = pure false := by rfl) (hw : swappedStores [.Subscript (.Name x p1) (.Constant (.int k) j p2) p3] e X.env = pure none := by rfl)
    (h1 : (assignEach [.Subscript (.Name x p1) (.Constant (.int k) j p2) p3] X.env).map (·.2) = [assign (.Subscript (.Name x p1) (.Constant (.int k) j p2) p3) X.env] := by rfl) :
    DS G X W Ob OE O (.Assign [.Subscript (.Name x p1) (.Constant (.int k) j p2) p3] e pos) O (mPut i k me) := by
  obtain ⟨t, p, w⟩ := he.ex
  refine ⟨_, ps_asg p (pg_sub (pe_var hN hv hd hcd) pe_int set_list ha) hs hw h1, fun b S env st σ H D I h => do_part hO w I h fun v d S' H' st' I' r q => ?_⟩
  cases e1 : env[i]? with
  | none => rw [e1] at q; exact q.elim
  | some o =>
    rw [e1] at q
    cases o with
    | none => exact q.elim
    | some d0 =>
      obtain ⟨v0, hv0, r0⟩ := I'.slot i d0 e1 ho
      cases r0 with
      | tok ha0 =>
        rename_i a n
        obtain ⟨g1, ds, vs, g2, g3, g4⟩ := I'.sto.at_ n a ha0
        dsimp only at q
        rw [g2] at q
        dsimp only at q
        cases e2 : ixN ds.length k with
        | none => rw [e2] at q; exact q.elim
        | some jj =>
          rw [e2] at q
          refine ⟨_, hv0, a, vs, k, jj, rfl, rfl, g3, by rw [g4.len]; exact e2, ?_⟩
          have so2 := StoOk.put (j := jj) I'.sto ha0 g2 g3 r
          refine q S' σ _ (.refl _) ⟨I'.len, fun c o hc => ?_, I'.s0, I'.new, fun c o hc hna => ?_, I'.slot, fun m d' hm hd' => ?_, I'.dist, so2, I'.exc, fun m hm => ?_⟩
          · rw [upd_ne fun z => by subst z; rw [g1] at hc; cases hc]; exact I'.sub _ _ hc
          · rw [upd_ne fun z => hna (by subst z; exact List.mem_iff_getElem?.mpr ⟨n, ha0⟩)]; exact I'.keep c o hc hna
          · obtain ⟨c, ws, es, q1, q2, q3, q4, q5, q6, q7⟩ := I'.own m d' hm hd'
            refine ⟨c, ws, es, q1, q2, ?_, q4, q5, q6, q7⟩
            rw [upd_ne fun z => q6 (by subst z; exact List.mem_iff_getElem?.mpr ⟨n, ha0⟩)]; exact q3
          · obtain ⟨c, ws, es, q1, q2, q3, q4, q5, q6, q7, q8, q9, q10, q11⟩ := I'.self_ m hm
            have na : a ∈ b.ad := List.mem_iff_getElem?.mpr ⟨n, ha0⟩
            exact ⟨c, ws, es, q1, q2, (upd_ne (show O.slv.1 ≠ a from fun z => q9 (z ▸ na))).trans q3, (upd_ne (show O.slv.2 ≠ a from fun z => q10 (z ▸ na))).trans q4, q5, q6, q7, q8, q9, q10, q11⟩
      | _ => exact q.elim
end

/-! ### try -/
abbrev W0 : WX := fun _ _ _ _ => False
theorem takesW0 {X : Cx} : Takes X W0 := takes0
/-- a reading weakened -/
theorem PSs.imp {X : Cx} {st : List Stmt} {t t' : TS} (h : PSs X st t) (hi : ∀ D σ H, t' D σ H → t D σ H) : PSs X st t' := ⟨fun pins s σ H D I q => h.run pins s σ H D I (hi _ _ _ q)⟩
theorem DI.unexc {G : Glb} {b : Act} {own : List Nat} {i : Nat} {exv : Addr × Value × Option Addr} {S H : Hp} {env : Env'} {st : List D} {σ : L2.St} (I : DI G b ⟨own, some i, exv, none, (0, 0)⟩ S env st σ H) (hi : own.elem i = false) (v : Addr × Value × Option Addr) : DI G b ⟨own, none, v, none, (0, 0)⟩ S (env.set i none) st (σ.set i none) H := by
  have hne : ∀ {j : Nat}, j ∈ own → j ≠ i := fun {j} hj z => by
    subst z
    rw [List.elem_eq_true_of_mem hj] at hi; cases hi
  have other : ∀ {j : Nat} {d' : D}, (env.set i none)[j]? = some (some d') → j ≠ i ∧ env[j]? = some (some d') := fun {j d'} h => by
    by_cases hj : j = i
    · subst hj
      by_cases hl : j < env.length
      · rw [List.getElem?_set_self hl] at h; cases h
      · rw [List.getElem?_eq_none_iff.mpr (by rw [List.length_set]; exact Nat.le_of_not_lt hl)] at h; cases h
    · rw [List.getElem?_set_ne (Ne.symm hj)] at h; exact ⟨hj, h⟩
  refine ⟨by rw [List.length_set, List.length_set]; exact I.len, I.sub, I.s0, I.new, I.keep, fun j d' h ho => ?_, fun j d' hj h => ?_, fun j k a hj hk e1 e2 q1 q2 => ?_, I.sto, fun j d' hj => (by cases hj), fun j hj => (by cases hj)⟩
  · obtain ⟨hn, h⟩ := other h
    have ho' : (Ow.mk own (some i) exv none (0, 0)).has j = false := by
      unfold Ow.has at ho ⊢
      have h1 : own.elem j = false := by
        cases e : own.elem j with
        | false => rfl
        | true => rw [show (Ow.mk own none v none (0, 0)).own.elem j = true from e] at ho; cases ho
      have h2 : ((Ow.mk own (some i) exv none (0, 0)).exi == some j) = false := by
        simpa using (Ne.symm hn)
      rw [show (Ow.mk own (some i) exv none (0, 0)).own.elem j = false from h1, h2]; rfl
    obtain ⟨w, q1, q2⟩ := I.slot j d' h ho'
    exact ⟨w, by rw [List.getElem?_set_ne (Ne.symm hn)]; exact q1, q2⟩
  · obtain ⟨hn, h⟩ := other h
    obtain ⟨a, vs, ds, q1, q2, q3⟩ := I.own j d' hj h
    exact ⟨a, vs, ds, q1, by rw [List.getElem?_set_ne (Ne.symm hn)]; exact q2, q3⟩
  · obtain ⟨d1, e1⟩ := e1
    obtain ⟨d2, e2⟩ := e2
    obtain ⟨hn1, e1⟩ := other e1
    obtain ⟨hn2, e2⟩ := other e2
    rw [List.getElem?_set_ne (Ne.symm hn1)] at q1
    rw [List.getElem?_set_ne (Ne.symm hn2)] at q2
    exact I.dist j k a hj hk ⟨d1, e1⟩ ⟨d2, e2⟩ q1 q2
theorem DI.toexc {G : Glb} {b : Act} {own : List Nat} {v : Addr × Value × Option Addr} {i : Nat} {a : Addr} {cls : Value} {dd : Option Addr} {x : Ex} {S H : Hp} {env : Env'} {st : List D} {σ : L2.St} (I : DI G b ⟨own, none, v, none, (0, 0)⟩ S env st σ H) (hi : own.elem i = false) (r : RepX G b.ad S cls dd x) : DI G b ⟨own, some i, (a, cls, dd), none, (0, 0)⟩ S (env.set i (some (exObj x))) st (σ.set i (some (.ref a))) H := by
  have hne : ∀ {j : Nat}, j ∈ own → j ≠ i := fun {j} hj z => by
    subst z
    rw [List.elem_eq_true_of_mem hj] at hi; cases hi
  have other : ∀ {j : Nat} {d' : D}, j ≠ i → (env.set i (some (exObj x)))[j]? = some (some d') → env[j]? = some (some d') := fun {j d'} hj h => by
    rw [List.getElem?_set_ne (Ne.symm hj)] at h; exact h
  refine ⟨by rw [List.length_set, List.length_set]; exact I.len, I.sub, I.s0, I.new, I.keep, fun j d' h ho => ?_, fun j d' hj h => ?_, fun j k a' hj hk e1 e2 q1 q2 => ?_, I.sto, fun j d' hj h => ?_, fun j hj => (by cases hj)⟩
  · have hn : j ≠ i := fun z => by
      subst z
      unfold Ow.has at ho
      simp at ho
    have ho' : (Ow.mk own none v none (0, 0)).has j = false := by
      unfold Ow.has at ho ⊢
      have h1 : own.elem j = false := by
        cases e : own.elem j with
        | false => rfl
        | true => rw [show (Ow.mk own (some i) (a, cls, dd) none (0, 0)).own.elem j = true from e] at ho; cases ho
      rw [show (Ow.mk own none v none (0, 0)).own.elem j = false from h1]; rfl
    obtain ⟨w, q1, q2⟩ := I.slot j d' (other hn h) ho'
    exact ⟨w, by rw [List.getElem?_set_ne (Ne.symm hn)]; exact q1, q2⟩
  · obtain ⟨a', vs, ds, q1, q2, q3⟩ := I.own j d' hj (other (hne hj) h)
    exact ⟨a', vs, ds, q1, by rw [List.getElem?_set_ne (Ne.symm (hne hj))]; exact q2, q3⟩
  · rw [List.getElem?_set_ne (Ne.symm (hne hj))] at q1
    rw [List.getElem?_set_ne (Ne.symm (hne hk))] at q2
    obtain ⟨d1, e1⟩ := e1
    obtain ⟨d2, e2⟩ := e2
    exact I.dist j k a' hj hk ⟨d1, other (hne hj) e1⟩ ⟨d2, other (hne hk) e2⟩ q1 q2
  · cases hj
    by_cases hl : i < env.length
    · rw [List.getElem?_set_self hl] at h
      have e : exObj x = d' := by simpa using h
      exact ⟨x, e.symm, by rw [List.getElem?_set_self (by rw [I.len]; exact hl)], r⟩
    · rw [List.getElem?_eq_none_iff.mpr (by rw [List.length_set]; exact Nat.le_of_not_lt hl)] at h; cases h

/-- behind a suite: slot i forgotten, no error -/
def unX (i : Nat) : Out → Out
  | .nx env st => .nx (env.set i none) st
  | .rt d st => .rt d st
  | .bk env st => .bk (env.set i none) st
  | .ct env st => .ct (env.set i none) st
  | .er _ _ _ => .bad
  | .bad => .bad
def mTryAs (cl : Nat → Option Bool) (i : Nat) (m ms : MS) : MS := fun env st => match m env st with
  | .er x env1 st1 => match cl x.c with
    | some true => unX i (ms (env1.set i (some (exObj x))) st1)
    | some false => .er x env1 st1
    | none => .bad
  | o => o
section
variable {G : Glb} {X : Cx} {W : WX} {OE : Ow → Prop} {pos pos' np : Pos} {k : Nat}
theorem XC.tr (xc : XC k G X W) {W' : WX} {pn : List (Addr × Obj)} {xe : Value → Shared → Prop} (tk : Takes (X.tr pn xe) W') (po : PassesOwn (model X.prog X.w) X.A X.env xe) : XC k G (X.tr pn xe) W' := ⟨tk, po, xc.calm, xc.hr, xc.K⟩
theorem XT.tr (t : XT X) (pn : List (Addr × Obj)) (xe : Value → Shared → Prop) : XT (X.tr pn xe) := ⟨t.stk, t.fr⟩
theorem ds_try_as {own ob : List Nat} {body suite : List Stmt} {b₀ : Stmt} {x n : Str} {cv : Value} {m ms : MS} (i : Nat) (cl : Nat → Option Bool) (xc : XC k G X W) (xt : XT X) (hN : X.N.Nodup) (hc : Names X x cv) (hcl : ∀ c b, cl c = some b → PySem.W.exmOne G.K (.ref (G.cl c)) cv = some b)
    (hb : ∀ (W' : WX) (pn : List (Addr × Obj)) (xe : Value → Shared → Prop), XC k G (X.tr pn xe) W' → XT (X.tr pn xe) → DSs G (X.tr pn xe) W' ⟨ob, none, (0, .none, none), none, (0, 0)⟩ (· = ⟨own, none, (0, .none, none), none, (0, 0)⟩) ⟨own, none, (0, .none, none), none, (0, 0)⟩ body ⟨own, none, (0, .none, none), none, (0, 0)⟩ m)
    (hsu : ∀ (a : Addr) (oe : Obj) (cls : Value) (d : Option Addr) (pn : List (Addr × Obj)), Zc cls d oe → (∃ vs, oe.data = .fields vs) → DSs G (X.suite a ((a, oe) :: pn)) W0 ⟨ob, some i, (a, cls, d), none, (0, 0)⟩ (fun _ => True) ⟨own, some i, (a, cls, d), none, (0, 0)⟩ (b₀ :: suite) ⟨own, some i, (a, cls, d), none, (0, 0)⟩ ms)
    (hO : OE ⟨own, none, (0, .none, none), none, (0, 0)⟩ := by first | trivial | rfl) (hi : X.N[i]? = some n := by rfl) (hln : X.env.kindOf n = some .local := by rfl) (hio : own.elem i = false := by rfl) (hib : ob.elem i = false := by rfl) :
    DS G X W ⟨ob, none, (0, .none, none), none, (0, 0)⟩ OE ⟨own, none, (0, .none, none), none, (0, 0)⟩ (.Try body [.ExceptHandler (some (.Name x np)) (some n) (b₀ :: suite) pos'] [] [] pos) ⟨own, none, (0, .none, none), none, (0, 0)⟩ (mTryAs cl i m ms) := by
  refine ⟨_, ps_try_as (i := i) (Wout := W)
    (tb := fun W' D σ H => ∃ b S env st, DI G b ⟨own, none, (0, .none, none), none, (0, 0)⟩ S env st σ H ∧ PostS G b ⟨ob, none, (0, .none, none), none, (0, 0)⟩ (· = ⟨own, none, (0, .none, none), none, (0, 0)⟩) W' ⟨own, none, (0, .none, none), none, (0, 0)⟩ D S (m env st))
    (ts := fun a cls d D σ H => ∃ b S env st, DI G b ⟨own, some i, (a, cls, d), none, (0, 0)⟩ S env st σ H ∧ PostS G b ⟨ob, some i, (a, cls, d), none, (0, 0)⟩ (fun _ => True) W0 ⟨own, some i, (a, cls, d), none, (0, 0)⟩ D S (ms env st))
    xt.stk xt.fr hN hi hln hc xc.tk (fun W' pn xe tk po => ?_) (fun a oe cls d pn hz hf => ?_), fun b S env st σ H D I h => ?_⟩
  · obtain ⟨t, p, w⟩ := (hb W' pn xe (xc.tr tk po) (xt.tr pn xe)).ex
    exact PSs.imp p fun D σ H ⟨b, S, env, st, I, q⟩ => w b S env st σ H D I q
  · obtain ⟨t, p, w⟩ := (hsu a oe cls d pn hz hf).ex
    exact PSs.imp p fun D σ H ⟨b, S, env, st, I, q⟩ => w b S env st σ H D I q
  · refine ⟨b, S, env, st, I, ?_⟩
    unfold mTryAs at h
    cases e : m env st with
    | nx env1 st1 => rw [e] at h; exact h
    | rt d st1 => rw [e] at h; exact h
    | bk env1 st1 => rw [e] at h; exact h
    | ct env1 st1 => rw [e] at h; exact h
    | bad => rw [e] at h; exact h
    | er x env1 st1 =>
      rw [e] at h
      dsimp only at h
      intro cls dd O' S1 σ1 H1 hO' e1 I1 rx
      subst hO'
      cases ec : cl x.c with
      | none => rw [ec] at h; exact h.elim
      | some bb =>
        rw [ec] at h
        refine ⟨bb, by rw [xc.K, rx.1]; exact hcl _ _ ec, fun hbb a ha => ?_, fun hbb => ?_⟩
        · subst hbb
          dsimp only at h
          refine ⟨b, S1, _, st1, I1.toexc hio rx, ?_⟩
          cases es : ms (env1.set i (some (exObj x))) st1 with
          | nx env2 st2 =>
            rw [es] at h
            exact fun S2 σ2 H2 e2 I2 => h S2 _ H2 (e1.trans e2) (I2.unexc hio _)
          | rt d st2 => rw [es] at h; exact h
          | bk env2 st2 =>
            rw [es] at h
            exact fun S2 σ2 H2 e2 I2 => h S2 _ H2 (e1.trans e2) (I2.unexc hib _)
          | ct env2 st2 =>
            rw [es] at h
            exact fun S2 σ2 H2 e2 I2 => h S2 _ H2 (e1.trans e2) (I2.unexc hib _)
          | er x2 env2 st2 => rw [es] at h; exact h.elim
          | bad => rw [es] at h; exact h.elim
        · subst hbb
          exact h cls dd _ S1 σ1 H1 hO e1 I1 rx
end
/-! ### isinstance of the caught error -/
def mIsX (i : Nat) (tab : Nat → D → Option Bool) (mc : ME) : ME := fun env st => match env[i]? with
  | some (some (.obj c [])) => (mc env st).bind fun d => ret? ((tab c d).map .bl)
  | _ => .bad
def clsV (G : Glb) : D → Option Value
  | .cls c => some (.ref (G.cl c))
  | .ty n => some (.type n)
  | _ => none
end DL

/-! DL, seventh part: errors in suites, comprehensions, the law's own def. -/
namespace DL
open PySem PySem.Spec PyProof.Rows L2

section
variable {G : Glb} {X : Cx} {W : WX} {pos : Pos} {k : Nat}
/-! ### isinstance of the caught error -/
theorem cls_rel {ad : List Addr} {S : Hp} {v : V} {d : D} {cv : Value} (r : Rep G ad S v d) (h : clsV G d = some cv) : ∀ u, RelV v u → u = cv := by
  intro u ru
  cases r <;> cases h
  · exact ru
  · exact ru
theorem de_isX {own : List Nat} {a : Addr} {oe : Obj} {cls : Value} {dd : Option Addr} {pn : List (Addr × Obj)} {p pe : Pos} {n : Str} {C : Expr} {mc : ME} (i : Nat) (tab : Nat → D → Option Bool) (hz : Zc cls dd oe) (hf : ∃ vs, oe.data = .fields vs) (hK : X.K = G.K) (hm : X.mg "isinstance" = none)
    (ht : ∀ c d b, tab c d = some b → ExcC G.K (G.cl c) ∧ ∃ cv, clsV G d = some cv ∧ PySem.W.kitOne G.K (.ref (G.cl c)) cv = some b) (hC : DE G (X.suite a ((a, oe) :: pn)) W0 ⟨own, some i, (a, cls, dd), none, (0, 0)⟩ C mc)
    (hi : X.N[i]? = some n := by rfl) (hg : Gl X "isinstance" := by rfl) (hv : Vis X.env.scope n := by first | exact Or.inl rfl | exact Or.inr (Or.inl rfl) | exact Or.inr (Or.inr rfl)) (hd : (n == ("__debug__" : Str)) = false := by decide) (hcd : (n == ("__classdict__" : Str)) = false := by decide)
    (he : starEach [.Name n pe, C] X.env = (false, eval (.Name n pe) X.env) :: starEach [C] X.env := by rfl) (he2 : starEach [C] X.env = (false, eval C X.env) :: starEach [] X.env := by rfl) (hpl : (backTo pos (starEach [C] X.env)).any (·.1) = false := by rfl) :
    DE G (X.suite a ((a, oe) :: pn)) W0 ⟨own, some i, (a, cls, dd), none, (0, 0)⟩ (.Call (.Name "isinstance" p) [.Name n pe, C] [] pos) (mIsX i tab mc) := by
  obtain ⟨t, pc, w⟩ := hC.ex
  have hr : CallR (X.suite a ((a, oe) :: pn)) (.builtin "isinstance") (fun xs H Q => ∃ D, cls = .ref D ∧ dd = none ∧ ExcC X.K D ∧ rIsE X.K D a xs H Q) := by
    intro pins s σ H xs us Q I r h
    obtain ⟨D, e1, e2, hCx, h⟩ := h
    subst e1; subst e2
    exact call_isE hCx hz hf pins s σ H xs us Q I r h
  refine ⟨_, pe_callB hr hg hm PyProof.Rows.boot_isinstance (pa_cons (pe_var (i := i) hi hv hd hcd) (pa_cons pc pa_nil he2) he) (by decide) (by decide) he hpl, fun b S env st σ H Q I h => ?_⟩
  unfold mIsX at h
  split at h
  · rename_i c e
    obtain ⟨x, q1, q2, q3⟩ := I.exc i _ rfl e
    have rx : cls = .ref (G.cl c) ∧ dd = none := by
      obtain ⟨c', fs⟩ := x
      cases fs with
      | none => cases q1; exact ⟨q3.1, q3.2⟩
      | some fs => cases q1
    refine ⟨_, q2, w b S env st σ H _ I (wpR_imp (wpR_bind h) (fun d st1 h1 => ?_) fun _ _ z => z)⟩
    intro v S1 H1 x1 su1 so1 r1
    cases et : tab c d with
    | none => rw [et] at h1; exact h1.elim
    | some bb =>
      rw [et] at h1
      obtain ⟨hE, cv, hcv, hk⟩ := ht c d bb et
      exact ⟨_, rx.1, rx.2, hK ▸ hE, v, cv, bb, rfl, cls_rel r1 hcv, hK ▸ hk, h1 _ _ _ x1 su1 so1 (.bl _)⟩
  · exact h.elim
end

/-! ### the parts of a comprehension -/
theorem XC.blk (xc : XC k G X W) {s : Shared} {H : Hp} {scope : Scope} {cenv : Env} {fp : List Addr} : XC k G (X.blk s H scope cenv fp) W0 := ⟨takes0, PassesOwn.never, xc.calm, xc.hr, xc.K⟩
/-- no error may fly -/
def noEr {α : Type} (r : Res α) : Res α := match r with
  | .err _ _ => .bad
  | r => r
theorem wp_noEr {α : Type} {r : Res α} {ok : α → List D → Prop} {er er' : Ex → List D → Prop} (h : wpR (noEr r) ok er) : wpR r ok er' := by
  cases r with
  | ok a st => exact h
  | err x st => exact h.elim
  | bad => exact h.elim
def wipeE (env : Env') : List Nat → Env'
  | [] => env
  | v :: vs => (wipeE env vs).set v none
theorem DI.wipe {b : Act} {O : Ow} {S H : Hp} {env : Env'} {st : List D} {σ : L2.St} (I : DI G b O S env st σ H) : ∀ {vs : List Nat}, (∀ v ∈ vs, O.has v = false) → DI G b O S (wipeE env vs) st (wipe σ vs) H
  | [], _ => I
  | v :: vs, h => (DI.wipe I fun u hu => h u (List.mem_cons_of_mem _ hu)).forget (h v List.mem_cons_self)
theorem wipe_stay {σ σ' : L2.St} {ix vs : List Nat} (h : Stay ix (wipe σ vs) σ') (hs : ∀ i ∈ ix, i ∈ vs) : wipe σ' vs = wipe σ vs := by
  have wl : ∀ (τ : L2.St) (vs : List Nat) (j : Nat), (wipe τ vs)[j]? = if j ∈ vs then (if j < τ.length then some none else none) else τ[j]? := by
    intro τ vs j
    induction vs with
    | nil => simp [wipe]
    | cons v vs ih =>
      unfold wipe
      by_cases hj : j = v
      · subst hj
        rw [if_pos List.mem_cons_self]
        by_cases hl : j < τ.length
        · rw [List.getElem?_set_self (by rw [wipe_length]; exact hl), if_pos hl]
        · rw [if_neg hl]
          exact List.getElem?_eq_none_iff.mpr (by rw [List.length_set, wipe_length]; exact Nat.le_of_not_lt hl)
      · rw [List.getElem?_set_ne (Ne.symm hj), ih]
        by_cases hm : j ∈ vs
        · rw [if_pos hm, if_pos (List.mem_cons_of_mem _ hm)]
        · rw [if_neg hm, if_neg (fun z => (List.mem_cons.mp z).elim hj hm)]
  have hl : σ'.length = σ.length := by rw [h.1, wipe_length]
  refine List.ext_getElem? fun j => ?_
  rw [wl, wl, hl]
  by_cases hm : j ∈ vs
  · rw [if_pos hm, if_pos hm]
  · rw [if_neg hm, if_neg hm, h.2 j fun z => hm (hs j z), wl, if_neg hm]
/-- the items that a comprehension makes -/
def lcD (env : Env') (g : MG) (mt : MT) (me : ME) : List D → M (List D)
  | [] => fun st => .ok [] st
  | d :: ds => fun st => match g d env with
    | none => .bad
    | some env1 => (noEr (mt env1 st)).bind fun k st1 =>
      if k = true then (noEr (me env1 st1)).bind fun y st2 => (lcD env g mt me ds st2).bind fun ys st3 => .ok (y :: ys) st3
      else lcD env g mt me ds st1
theorem lcD_noEr {env : Env'} {g : MG} {mt : MT} {me : ME} : ∀ (ds : List D) (st : List D) (x : Ex) (st' : List D), lcD env g mt me ds st ≠ .err x st' := by
  intro ds
  induction ds with
  | nil => intro st x st' h; cases h
  | cons d ds ih =>
    intro st x st' h
    unfold lcD at h
    split at h
    · cases h
    · rename_i env1 _
      cases e1 : mt env1 st with
      | err _ _ => rw [e1] at h; cases h
      | bad => rw [e1] at h; cases h
      | ok k st1 =>
        rw [e1] at h
        have h : (if k = true then (noEr (me env1 st1)).bind fun y st2 => (lcD env g mt me ds st2).bind fun ys st3 => .ok (y :: ys) st3 else lcD env g mt me ds st1) = .err x st' := h
        split at h
        · cases e2 : me env1 st1 with
          | err _ _ => rw [e2] at h; cases h
          | bad => rw [e2] at h; cases h
          | ok y st2 =>
            rw [e2] at h
            have h : ((lcD env g mt me ds st2).bind fun ys st3 => Res.ok (y :: ys) st3) = .err x st' := h
            cases e3 : lcD env g mt me ds st2 with
            | err x3 s3 => exact ih _ _ _ e3
            | bad => rw [e3] at h; cases h
            | ok ys s3 => rw [e3] at h; cases h
        · exact ih _ _ _ h
def mYes : MT := fun _ st => .ok true st
/-- [elt for target in .. if ..]; vs: the comprehension's own slots -/
def mLC (mi : MA) (vs : List Nat) (g : MG) (mt : MT) (me : ME) : ME := fun env st => (mi env st).bind fun ds st1 => (lcD (wipeE env vs) g mt me ds st1).bind lstOk
structure DTs (G : Glb) (X : Cx) (W : WX) (O : Ow) (es : List Expr) (m : MT) : Prop where
  ex : ∃ t, PTs X es t ∧ ∀ (b : Act) S env st σ H Q, DI G b O S env st σ H → wpR (m env st) (fun k st' => PostB G b.ad S H k st' Q) (fun x st' => PostX G b.ad S H x st' fun c dd H' => W c dd σ H') → t σ H Q
theorem dts_nil {O : Ow} : DTs G X W O [] mYes := ⟨_, pts_nil, fun b S env st σ H Q I h => h _ _ (.refl _ _ _) I.sub I.sto⟩
theorem dts_one {O : Ow} {e : Expr} {m : MT} (h : DT G X W O e m) : DTs G X W O [e] m := let ⟨t, p, w⟩ := h.ex; ⟨_, pts_one p, w⟩
/-- canonical readings -/
def cE (G : Glb) (W : WX) (O : Ow) (m : ME) : TE := fun σ H Q => ∃ (b : Act) (S : Hp) (env : Env') (st : List DL.D), DI G b O S env st σ H ∧ wpR (m env st) (fun d st' => Post G b.ad S H d st' Q) (fun x st' => PostX G b.ad S H x st' fun c dd H' => W c dd σ H')
def cT (G : Glb) (W : WX) (O : Ow) (m : MT) : TT := fun σ H Q => ∃ (b : Act) (S : Hp) (env : Env') (st : List DL.D), DI G b O S env st σ H ∧ wpR (m env st) (fun k st' => PostB G b.ad S H k st' Q) (fun x st' => PostX G b.ad S H x st' fun c dd H' => W c dd σ H')
def cG (G : Glb) (O : Ow) (ix : List Nat) (g : MG) : TG := fun v σ H Q => ∃ (b : Act) (S : Hp) (env : Env') (env' : Env') (st : List DL.D) (d : DL.D), DI G b O S env st σ H ∧ Rep G b.ad S v d ∧ g d env = some env' ∧ ∀ σ', Stay ix σ σ' → DI G b O S env' st σ' H → Q σ' H
theorem DE.c {O : Ow} {e : Expr} {m : ME} (h : DE G X W O e m) : PE X e (cE G W O m) := by
  obtain ⟨t, p, w⟩ := h.ex
  exact ⟨fun pins s σ H Q I ⟨b, S, env, st, J, q⟩ => p.run pins s σ H Q I (w b S env st σ H Q J q)⟩
theorem DTs.c {O : Ow} {e : List Expr} {m : MT} (h : DTs G X W O e m) : PTs X e (cT G W O m) := by
  obtain ⟨t, p, w⟩ := h.ex
  exact ⟨fun pins s σ H Q I ⟨b, S, env, st, J, q⟩ => p.run pins s σ H Q I (w b S env st σ H Q J q)⟩
theorem DG.c {O : Ow} {ix : List Nat} {e : Expr} {g : MG} (h : DG G X O ix e g) : PG X e (cG G O ix g) := by
  obtain ⟨t, p, w⟩ := h.ex
  exact ⟨fun pins s σ H v u Q I r ⟨b, S, env, env', st, d, J, rd, e, q⟩ => p.run pins s σ H v u Q I r (w b S env env' st σ H v d Q J rd e q)⟩
/-- the walk of a comprehension -/
theorem lc_go {O : Ow} {vs ix : List Nat} {g : MG} {mt : MT} {me : ME} {b : Act} {S1 H1 : Hp} {st1 : List D} {σ : L2.St} {env : Env'} {J : It} {ds : List D} {Q : VK} {D : Addr} (hv : ∀ v ∈ vs, O.has v = false) (hix : ∀ i ∈ ix, i ∈ vs) (I : DI G b O S1 env st1 σ H1) (it : IterOK G b.ad S1 J ds) (hD : H1 D = none)
    {ys : List DL.D} {st' : List DL.D} (hr : lcD (wipeE env vs) g mt me ds st1 = .ok ys st') (hl : ys.length ≤ sizeLine) (q : Post G b.ad S1 H1 (.lst ys) st' Q) :
    ∃ Wv : Nat → Nat → Hp → Prop, (∃ m, Wv 0 m (upd H1 D (.lst []))) ∧ ∀ i m H, Wv i m H →
      (J.stop i H ∧ Q (.ref D) H) ∨ (J.go i H ∧ ∃ Nx : Hp → Prop, (∀ H', Nx H' → ∃ m', m' < m ∧ Wv (i + 1) m' H') ∧ ∀ x H', J.yld i H x H' → cG G O ix g x (wipe σ vs) H' fun σ2 H2 => wipe σ2 vs = wipe σ vs ∧ cT G W0 O mt σ2 H2 fun b H3 =>
        if b = true then cE G W0 O me σ2 H3 fun y H4 => ∃ acc, H4 D = some (.lst acc) ∧ acc.length < sizeLine ∧ Nx (upd H4 D (.lst (acc ++ [y]))) else Nx H3) := by
  have hDad : D ∉ b.ad := fun z => by
    obtain ⟨_, ws, hw⟩ := I.sto.has z
    rw [hD] at hw; cases hw
  -- what stands at a turn's begin
  refine ⟨fun i m H => m = ds.length - i ∧ i ≤ ds.length ∧ ∃ S2 st2 acc es rest, Ext b.ad S1 H1 S2 H ∧ Same S2 H ∧ StoOk G b.ad S2 st2 H ∧ S2 D = none ∧ H D = some (.lst acc) ∧ Reps G b.ad S2 acc es ∧ lcD (wipeE env vs) g mt me (ds.drop i) st2 = .ok rest st' ∧ ys = es ++ rest, ⟨ds.length, ?_⟩, ?_⟩
  · have so := I.sto
    have hS : S1 D = none := I.sub.free hD
    refine ⟨by simp, Nat.zero_le _, S1, st1, [], [], ys, ⟨.refl _, fun _ _ z => .inl z, fun c o hc _ => by rw [upd_ne (ne_of_none hc hD)]; exact hc⟩, fun c o hc => by rw [upd_ne (ne_of_none hc hS)]; exact I.sub _ _ hc,
      ⟨so.len, so.nd, fun n a ha => ?_⟩, hS, upd_same, .nil, by simpa using hr, by simp⟩
    obtain ⟨g1, es, ws, g2, g3, g4⟩ := so.at_ n a ha
    exact ⟨g1, es, ws, g2, by rw [upd_ne (ne_of_none g3 hD)]; exact g3, g4⟩
  · rintro i m H ⟨rfl, hi, S2, st2, acc, es, rest, x2, su2, so2, hS2, hacc, racc, hr2, hys⟩
    by_cases hlt : i < ds.length
    · right
      obtain ⟨go, yl⟩ := (it i S2 H x2.same su2).2 _ (List.getElem?_eq_getElem hlt)
      refine ⟨go, fun H' => ∃ S3 st3 acc3 es3 rest3, Ext b.ad S1 H1 S3 H' ∧ Same S3 H' ∧ StoOk G b.ad S3 st3 H' ∧ S3 D = none ∧ H' D = some (.lst acc3) ∧ Reps G b.ad S3 acc3 es3 ∧ lcD (wipeE env vs) g mt me (ds.drop (i + 1)) st3 = .ok rest3 st' ∧ ys = es3 ++ rest3, fun H' z => ⟨ds.length - (i + 1), by omega, rfl, hlt, z⟩, fun x H' y => ?_⟩
      obtain ⟨S3, x3, su3, so3, r3⟩ := yl x H' y
      have so3' := so3 _ so2
      have I3 : DI G b O S3 (wipeE env vs) st2 (wipe σ vs) H' := DI.ext (DI.wipe (DI.ext I x2 su2 so2) hv) x3 su3 so3'
      have hD3 : H' D = some (.lst acc) := x3.keep D _ hacc hDad
      have hS3 : S3 D = none := by
        cases e : S3 D with
        | none => rfl
        | some o =>
          rcases x3.new D o e with z | z
          · rw [hS2] at z; cases z
          · rw [hacc] at z; cases z
      have x3' := x2.trans so2 x3
      rw [List.drop_eq_getElem_cons hlt] at hr2
      unfold lcD at hr2
      cases eg : g ds[i] (wipeE env vs) with
      | none => rw [eg] at hr2; cases hr2
      | some env1 =>
        rw [eg] at hr2
        refine ⟨b, S3, _, env1, st2, ds[i], I3, r3, eg, fun σ2 hs2 I4 => ⟨wipe_stay hs2 hix, b, S3, env1, st2, I4, ?_⟩⟩
        dsimp only at hr2
        cases et : mt env1 st2 with
        | err x st => rw [et] at hr2; cases hr2
        | bad => rw [et] at hr2; cases hr2
        | ok kk st4 =>
          rw [et] at hr2
          have hr2 : (if kk = true then (noEr (me env1 st4)).bind fun y st2 => (lcD (wipeE env vs) g mt me (ds.drop (i + 1)) st2).bind fun ys st3 => Res.ok (y :: ys) st3 else lcD (wipeE env vs) g mt me (ds.drop (i + 1)) st4) = .ok rest st' := hr2
          intro S5 H5 x5 su5 so5
          have hD5 : H5 D = some (.lst acc) := x5.keep D _ hD3 hDad
          have hS5 : S5 D = none := by
            cases e : S5 D with
            | none => rfl
            | some o =>
              rcases x5.new D o e with z | z
              · rw [hS3] at z; cases z
              · rw [hD3] at z; cases z
          have x5' := x3'.trans so3' x5
          cases kk with
          | false =>
            rw [if_neg Bool.false_ne_true] at hr2 ⊢
            exact ⟨S5, st4, acc, es, rest, x5', su5, so5, hS5, hD5, (racc.mono x3.same).mono x5.same, hr2, hys⟩
          | true =>
            rw [if_pos rfl] at hr2 ⊢
            refine ⟨b, S5, env1, st4, I4.ext x5 su5 so5, ?_⟩
            cases em : me env1 st4 with
            | err x st => rw [em] at hr2; cases hr2
            | bad => rw [em] at hr2; cases hr2
            | ok y0 st6 =>
              rw [em] at hr2
              have hr2 : ((lcD (wipeE env vs) g mt me (ds.drop (i + 1)) st6).bind fun ys st3 => Res.ok (y0 :: ys) st3) = .ok rest st' := hr2
              cases e6 : lcD (wipeE env vs) g mt me (ds.drop (i + 1)) st6 with
              | err x st => rw [e6] at hr2; cases hr2
              | bad => rw [e6] at hr2; cases hr2
              | ok ys6 st7 =>
                rw [e6] at hr2
                have e7 : rest = y0 :: ys6 ∧ st7 = st' := by
                  have z : Res.ok (y0 :: ys6) st7 = .ok rest st' := hr2
                  cases z; exact ⟨rfl, rfl⟩
                obtain ⟨e7, e8⟩ := e7
                subst e8
                intro v S6 H6 x6 su6 so6 r6
                have hD6 : H6 D = some (.lst acc) := x6.keep D _ hD5 hDad
                have hS6 : S6 D = none := by
                  cases e : S6 D with
                  | none => rfl
                  | some o =>
                    rcases x6.new D o e with z | z
                    · rw [hS5] at z; cases z
                    · rw [hD5] at z; cases z
                have x6' := x5'.trans so5 x6
                have racc6 := ((racc.mono x3.same).mono x5.same).mono x6.same
                have hlen : acc.length < sizeLine := by
                  have e9 : ys.length = es.length + (ys6.length + 1) := by rw [hys, e7, List.length_append, List.length_cons]
                  rw [racc6.len]; omega
                refine ⟨acc, hD6, hlen, S6, st6, acc ++ [v], es ++ [y0], ys6, ⟨x6'.same, x6'.new, fun c o hc hca => ?_⟩, fun c o hc => ?_, ⟨so6.len, so6.nd, fun n a ha => ?_⟩, hS6, upd_same, racc6.append (.cons r6 .nil), e6, by rw [hys, e7]; simp⟩
                · rw [upd_ne (ne_of_none hc hD)]; exact x6'.keep c o hc hca
                · rw [upd_ne (ne_of_none hc hS6)]; exact su6 _ _ hc
                · obtain ⟨g1, es', ws, g2, g3, g4⟩ := so6.at_ n a ha
                  exact ⟨g1, es', ws, g2, by rw [upd_ne fun z => hDad (by subst z; exact List.mem_iff_getElem?.mpr ⟨n, ha⟩)]; exact g3, g4⟩
    · left
      have hi' : i = ds.length := Nat.le_antisymm hi (Nat.le_of_not_lt hlt)
      refine ⟨(it i S2 H x2.same su2).1 hi', ?_⟩
      rw [hi', List.drop_length] at hr2
      have e1 : rest = [] ∧ st2 = st' := by
        have z : Res.ok ([] : List DL.D) st2 = .ok rest st' := hr2
        cases z; exact ⟨rfl, rfl⟩
      obtain ⟨rfl, rfl⟩ := e1
      rw [List.append_nil] at hys
      subst hys
      -- the list is still from now on
      have key : Same S2 (upd S2 D (.lst acc)) := fun c o hc => by rw [upd_ne (ne_of_none hc hS2)]; exact hc
      refine q (.ref D) (upd S2 D (.lst acc)) H ⟨x2.same.trans key, fun c o hc => ?_, x2.keep⟩ (fun c o hc => ?_) ⟨so2.len, so2.nd, fun n a ha => ?_⟩ (.lst upd_same (racc.mono key))
      · by_cases hcD : c = D
        · subst hcD; exact .inr hD
        · rw [upd_ne hcD] at hc; exact x2.new c o hc
      · by_cases hcD : c = D
        · subst hcD; rw [upd_same] at hc; cases hc; exact hacc
        · rw [upd_ne hcD] at hc; exact su2 _ _ hc
      · obtain ⟨g1, es', ws, g2, g3, g4⟩ := so2.at_ n a ha
        exact ⟨by rw [upd_ne fun z => hDad (by subst z; exact List.mem_iff_getElem?.mpr ⟨n, ha⟩)]; exact g1, es', ws, g2, g3, g4.mono key⟩
section
variable {G : Glb} {X : Cx} {W : WX} {pos : Pos} {k : Nat} {O : Ow}
theorem de_lc {elt tg iter : Expr} {ifs : List Expr} {scope : Scope} {own : List (Str × Nat)} {ix : List Nat} {mi : MA} {g : MG} {mt : MT} {me : ME} (xc : XC k G X W) (hN : X.N.Nodup) (hi : DIt G X W O tg iter mi) (ok : BlkOk X.N X.env.scope scope own)
    (hg : ∀ (s : Shared) (H : Hp) (C : Addr) (cl : List (Str × Addr)) (fp : List Addr), DG G (X.blk s H scope (compEnvC scope cl C X.env) fp) O ix tg g)
    (ht : ∀ (s : Shared) (H : Hp) (C : Addr) (cl : List (Str × Addr)) (fp : List Addr), XC k G (X.blk s H scope (compEnvC scope cl C X.env) fp) W0 → DTs G (X.blk s H scope (compEnvC scope cl C X.env) fp) W0 O ifs mt)
    (he : ∀ (s : Shared) (H : Hp) (C : Addr) (cl : List (Str × Addr)) (fp : List Addr), XC k G (X.blk s H scope (compEnvC scope cl C X.env) fp) W0 → DE G (X.blk s H scope (compEnvC scope cl C X.env) fp) W0 O elt me)
    (hv : ∀ v ∈ own.map (·.2), O.has v = false := by intro v hv; revert v; decide) (hix : ∀ i ∈ ix, i ∈ own.map (·.2) := by decide) (hs : ∀ x, foldedSetIterable iter X.env x = pure x := by intro _; rfl) :
    DE G X W O (.ListComp elt [⟨tg, iter, ifs, 0⟩] scope pos) (mLC mi (own.map (·.2)) g mt me) := by
  obtain ⟨wi, pi, wwi⟩ := hi.ex
  refine ⟨_, pe_lc xc.calm hN pi ok (fun s H C cl fp => (hg s H C cl fp).c) (fun s H C cl fp => (ht s H C cl fp xc.blk).c) (fun s H C cl fp => (he s H C cl fp xc.blk).c) hs, fun b S env st σ H Q I h => wwi b S env st σ H _ I (wpR_imp (wpR_bind h) (fun ds st1 h1 => ?_) fun _ _ z => z)⟩
  intro J S1 H1 x1 su1 so1 it D hD
  cases er : lcD (wipeE env (own.map (·.2))) g mt me ds st1 with
  | err x st2 => exact absurd er (lcD_noEr _ _ _ _)
  | bad => rw [er] at h1; exact h1.elim
  | ok ys st2 =>
    rw [er] at h1
    have h1 : wpR (lstOk ys st2) (fun d st' => Post G b.ad S H d st' Q) (fun x st' => PostX G b.ad S H x st' fun c dd H' => W c dd σ H') := h1
    unfold lstOk at h1
    split at h1
    · rename_i hl
      exact lc_go hv hix (I.ext x1 su1 so1) it hD er hl (Post.from_ x1 so1 h1)
    · exact h1.elim
/-- y = [..] -/
theorem ds_setLc {Ob : Ow} {OE : Ow → Prop} {y : Str} {py spos : Pos} {elt tg iter : Expr} {ifs : List Expr} {scope : Scope} {own : List (Str × Nat)} {ix : List Nat} {mi : MA} {g : MG} {mt : MT} {me : ME} (i : Nat) (xc : XC k G X W) (hN : X.N.Nodup) (hi : DIt G X W O tg iter mi) (ok : BlkOk X.N X.env.scope scope own)
    (hsw : swapsWith (.ListComp elt [⟨tg, iter, ifs, 0⟩] scope pos) (some (.Name y py)) spos.line X.env = pure true)
    (hg : ∀ (s : Shared) (H : Hp) (C : Addr) (cl : List (Str × Addr)) (fp : List Addr), DG G (X.blk s H scope (compEnvC scope cl C X.env) fp) O ix tg g)
    (ht : ∀ (s : Shared) (H : Hp) (C : Addr) (cl : List (Str × Addr)) (fp : List Addr), XC k G (X.blk s H scope (compEnvC scope cl C X.env) fp) W0 → DTs G (X.blk s H scope (compEnvC scope cl C X.env) fp) W0 O ifs mt)
    (he : ∀ (s : Shared) (H : Hp) (C : Addr) (cl : List (Str × Addr)) (fp : List Addr), XC k G (X.blk s H scope (compEnvC scope cl C X.env) fp) W0 → DE G (X.blk s H scope (compEnvC scope cl C X.env) fp) W0 O elt me)
    (hO : OE O := by first | trivial | rfl) (hy : X.N[i]? = some y := by rfl) (hyl : X.env.scope.names.lookup y = some .local := by rfl) (ho : O.has i = false := by rfl)
    (hv : ∀ v ∈ own.map (·.2), O.has v = false := by intro v hv; revert v; decide) (hix : ∀ i ∈ ix, i ∈ own.map (·.2) := by decide) (hs : ∀ x, foldedSetIterable iter X.env x = pure x := by intro _; rfl) :
    DS G X W Ob OE O (.Assign [.Name y py] (.ListComp elt [⟨tg, iter, ifs, 0⟩] scope pos) spos) O (mSet i (mLC mi (own.map (·.2)) g mt me)) := by
  obtain ⟨wi, pi, wwi⟩ := hi.ex
  refine ⟨_, ps_setLc (i := i) xc.calm hN hy hyl hsw pi ok (fun s H C cl fp => (hg s H C cl fp).c) (fun s H C cl fp => (ht s H C cl fp xc.blk).c) (fun s H C cl fp => (he s H C cl fp xc.blk).c) hs, fun b S env st σ H D I h => ?_⟩
  refine do_part (me := mLC mi (own.map (·.2)) g mt me) (t := tLc wi (cG G O ix g) (cT G W0 O mt) (cE G W0 O me) (own.map (·.2))) hO (fun b S env st σ H Q I h => wwi b S env st σ H _ I (wpR_imp (wpR_bind h) (fun ds st1 h1 => ?_) fun _ _ z => z)) I h fun v d S' H' st' I' r q => q _ _ _ (.refl _) (I'.set r ho)
  intro J S1 H1 x1 su1 so1 it D hD
  cases er : lcD (wipeE env (own.map (·.2))) g mt me ds st1 with
  | err x st2 => exact absurd er (lcD_noEr _ _ _ _)
  | bad => rw [er] at h1; exact h1.elim
  | ok ys st2 =>
    rw [er] at h1
    have h1 : wpR (lstOk ys st2) (fun d st' => Post G b.ad S H d st' Q) (fun x st' => PostX G b.ad S H x st' fun c dd H' => W c dd σ H') := h1
    unfold lstOk at h1
    split at h1
    · rename_i hl
      exact lc_go hv hix (I.ext x1 su1 so1) it hD er hl (Post.from_ x1 so1 h1)
    · exact h1.elim

/-! ### the law's own def -/
/-- what the script is made to -/
def handD (cells : List Int) (at_ rest total : Int) : D := .lst [.lst (cells.map .int), .int at_, .int rest, .int total]
def spLaw (K : PySem.W.Frag) : Sp := fun vs H Q _ => ∃ (a : Addr) (ns : List Int), vs = [.ref a] ∧ SqL K H a (ns.map V.int) ∧ ns.length ≤ 63 ∧ Only H ∧ ∀ H', Q (.bl true) H'
theorem reps_ints {ad : List Addr} {S : Hp} : ∀ ns : List Int, Reps G ad S (ns.map V.int) (ns.map D.int)
  | [] => .nil
  | n :: ns => .cons (.int n) (reps_ints ns)
theorem ints_of {ad : List Addr} {S : Hp} : ∀ {vs : List V} {ns : List Int}, Reps G ad S vs (ns.map D.int) → vs = ns.map V.int
  | _, [], .nil => rfl
  | _, n :: ns, .cons h r => by
    cases h
    rw [List.map_cons, ints_of r]
end
section
variable {P : Program} {w : World} {K : PySem.W.Frag} {mg : Str → Option Value} {base : Heap}
/-- the law: its script made to a hand (by fH), then the rest over that cell -/
theorem lawD {G : Glb} {x y : Str} {st : Stmt} {f fH : Addr} {fd fdH : FuncData} {N : List Str} {k j : Nat} {rest : List Stmt} {m : MS} {mH : List D → M D} {O' : Ow} {p1 p2 p3 p4 p5 : Pos} (F : Fun K "law" "law" st f fd) (Sc : FnScope N ["_law_script"] (defScope st)) (hK : K = G.K)
    (hN1 : N[1]? = some x) (hl : (defScope st).names.lookup x = some .local) (hl0 : (defScope st).names.lookup ("_law_script" : Str) = some .local) (hy : (defScope st).names.lookup y = some .globalImplicit)
    (hbd : defBody st = .Assign [.Name x p1] (.Call (.Name y p2) [.Name "_law_script" p3] [] p4) p5 :: rest)
    (FH : FnOk P w K mg base (L2.CX P w) j fH fdH ["_law_script"] (spD G 1 mH)) (hmg : mg y = some (.ref fH)) (hkp : PySem.W.keepIn K (.ref fH) = true) (hb : Binds K fdH ["_law_script"] []) (hjk : j ≤ k)
    (hH : ∀ (ns : List Int), ns.length ≤ 63 → ∃ cells t, mH [.rol (ns.map .int)] [] = .ok (handD cells 0 0 t) [] ∧
      ∃ st', m (some (.rol (ns.map .int)) :: some (.tok 0) :: List.replicate (N.length - 2) none) [handD cells 0 0 t] = .rt (.bl true) st')
    (hrest : ∀ (cdv : Value) (A : Around) (outer : List Env) (s : Shared) (H : Hp) (E : XK), XC k G (cxOf (L2.CX P w) P w K mg base N "law" (defScope st) f cdv A outer s H E) (fun cls d _ H' => E cls d H') → XT (cxOf (L2.CX P w) P w K mg base N "law" (defScope st) f cdv A outer s H E) →
      DSs G (cxOf (L2.CX P w) P w K mg base N "law" (defScope st) f cdv A outer s H E) (fun cls d _ H' => E cls d H') {} (fun _ => True) {} rest O' m)
    (hdy : (y == ("__debug__" : Str)) = false := by decide) (hnl : 2 ≤ N.length := by decide) :
    FnOk P w K mg base (L2.CX P w) (k + 1) f fd ["_law_script"] (spLaw K) := by
  refine F.okX Sc (fun vs H Q E h => ?_) fun cdv A outer s H vs Q E hr h => ?_
  · obtain ⟨_, _, rfl, _⟩ := h
    rfl
  · obtain ⟨a, ns, rfl, hS, hns, hO, hQ⟩ := h
    have xc : XC k G (cxOf (L2.CX P w) P w K mg base N "law" (defScope st) f cdv A outer s H E) (fun cls d _ H' => E cls d H') :=
      { tk := takes_of rfl rfl rfl rfl, po := passes_of rfl, calm := rfl, hr := hr, K := hK }
    obtain ⟨t, p, wt⟩ := (hrest cdv A outer s H E xc ⟨rfl, rfl⟩).ex
    rw [hbd]
    have hN0 : N[0]? = some ("_law_script" : Str) := by
      have e := Sc.pre
      cases N with
      | nil => simp at hnl
      | cons n N => simp at e; simp [e]
    obtain ⟨cells, tt, eH, st', em⟩ := hH ns hns
    refine ⟨_, pss_cons (ps_set (i := 1) Sc.nd hN1 (.inl hl) (pe_callS FH (hr.mono hjk) hy hmg hkp hb (fun σ => passAt xc.tk σ) (pa_cons (pe_var (i := 0) hN0 (.inl hl0)) pa_nil) hdy) (by rfl) (.inr hl)) p, ?_⟩
    have e0 : start N [V.ref a] = some (V.ref a) :: List.replicate (N.length - 1) none := rfl
    show tAsg (tCallS (spD G 1 mH) (WE fun cls d _ H' => E cls d H') (tCons (tVar 0) tNil)) (gName 1) _ (start N [V.ref a]) H
    refine ⟨.ref a, rfl, ?_⟩
    have hSub : Same H H := .refl _
    refine ⟨⟨H, H, []⟩, [.rol (ns.map .int)], [], rfl, rfl, hSub, ⟨rfl, .nil, fun n b hn => by simp at hn⟩, .cons (.rol (hK ▸ hS) (reps_ints ns)) .nil, ?_⟩
    rw [eH]
    intro v S' H' x1 su1 so1 r1
    -- the hand is a cell from now on
    cases r1 with
    | lst h1 r1 =>
      rename_i pa vs
      cases r1 with
      | cons r1 rr =>
        cases r1 with
        | lst hc rc =>
          rename_i pc ws
          have ew : ws = cells.map V.int := ints_of rc
          subst ew
          have hne : pc ≠ pa := fun z => by
            subst z
            rw [h1] at hc
            have := Option.some.inj hc
            cases cells with
            | nil => cases this
            | cons c cells => cases this
          have hHpa : H pa = none := by
            rcases x1.new pa _ h1 with z | z
            · replace z : H pa = some (HO.lst _) := z
              rcases hO pa with q | ⟨_, _, q⟩
              · exact q
              · rw [q] at z; cases z
            · exact z
          let S2 : Hp := fun c => if c = pa then none else S' c
          have hS2 : ∀ c, c ≠ pa → S2 c = S' c := fun c hc => if_neg hc
          have hS2p : S2 pa = none := if_pos rfl
          have sub2 : Same S2 H' := fun c o ho => by
            by_cases hcp : c = pa
            · subst hcp; rw [hS2p] at ho; cases ho
            · rw [hS2 c hcp] at ho; exact su1 _ _ ho
          have same2 : Same H S2 := fun c o ho => by
            rw [hS2 c (ne_of_none ho hHpa)]
            exact x1.same _ _ ho
          have rc2 : Rep G [pa] S2 (.ref pc) (.lst (cells.map .int)) := .lst (by rw [hS2 pc hne]; exact hc) (reps_ints cells)
          cases rr with
          | cons r2 rr =>
            cases r2
            cases rr with
            | cons r3 rr =>
              cases r3
              cases rr with
              | cons r4 rr =>
                cases r4
                cases rr
                have so2 : StoOk G [pa] S2 [handD cells 0 0 tt] H' := by
                  refine ⟨rfl, by simp, fun n b hb => ?_⟩
                  cases n with
                  | zero =>
                    have e : pa = b := by simpa using hb
                    subst e
                    exact ⟨hS2p, _, _, rfl, su1 _ _ h1, .cons rc2 (.cons (.int _) (.cons (.int _) (.cons (.int _) .nil)))⟩
                  | succ n => simp at hb
                have I : DI G ⟨S2, H', [pa]⟩ {} S2 ([D.rol (ns.map .int), D.tok 0].map some ++ List.replicate (N.length - 2) none) [handD cells 0 0 tt] ([V.ref a, V.ref pa].map some ++ List.replicate (N.length - 2) none) H' :=
                  DI.start sub2 so2 (.cons (.rol (same2.seq (hK ▸ hS)) (reps_ints ns)) (.cons (.tok rfl) .nil))
                have eσ : (start N [V.ref a]).set 1 (some (V.ref pa)) = [V.ref a, V.ref pa].map some ++ List.replicate (N.length - 2) none := by
                  obtain ⟨l, hl⟩ : ∃ l, N.length = l + 2 := ⟨N.length - 2, by omega⟩
                  show (some (V.ref a) :: List.replicate (N.length - 1) none).set 1 (some (V.ref pa)) = _
                  rw [hl]
                  rfl
                refine wt ⟨S2, H', [pa]⟩ S2 _ _ _ H' _ (eσ ▸ I) ?_
                have em' : m ([D.rol (ns.map .int), D.tok 0].map some ++ List.replicate (N.length - 2) none) [handD cells 0 0 tt] = .rt (.bl true) st' := em
                rw [em']
                intro v S3 H3 _ _ _ r3
                cases r3
                exact hQ H3
end
end DL

/-! DL, eighth part: what the printed texts name. -/
namespace DL
open PySem PySem.Spec PyProof.Rows L2
/-- a def as it stands behind the top -/
structure DefOk (K : PySem.W.Frag) (mg : Str → Option Value) (x : Str) (st : Stmt) (ps : List Str) (f : Addr) (fd : FuncData) : Prop where
  F : Fun K x x st f fd
  g : mg x = some (.ref f)
  b : Binds K fd ps []
theorem DefOk.kp {K : PySem.W.Frag} {mg : Str → Option Value} {x : Str} {st : Stmt} {ps : List Str} {f : Addr} {fd : FuncData} (d : DefOk K mg x st ps f fd) : PySem.W.keepIn K (.ref f) = true := d.F.kp
theorem DefOk.mk' {K : PySem.W.Frag} {mg : Str → Option Value} {x : Str} {st : Stmt} {ps : List Str} {f : Addr} {fd : FuncData} (F : Fun K x x st f fd) (g : mg x = some (.ref f)) (b : Binds K fd ps []) : DefOk K mg x st ps f fd := ⟨F, g, b⟩
theorem XC.u65 {k : Nat} {G : Glb} {X : Cx} {W : WX} (c : XC k G X W) : X.A.units + 65 < cLine := by
  have := c.hr.un
  omega
/-- what isinstance wants of an own error class -/
def excB (K : PySem.W.Frag) (D : Addr) : Bool :=
  decide (PySem.W.findIn K (.ref D) "__getattribute__" = some (some (.builtin "BaseException.__getattribute__"))) && (decide (PySem.W.findIn K (.ref D) "__getattr__" = some none) && (decide (PySem.W.subIn K (.ref D) (.type "BaseException") = some true) && (PySem.W.hasDictIn K D &&
    (decide (PySem.W.findIn K (.ref D) "__class__" = some (some (.builtin "object.__class__"))) && (decide (PySem.W.specialIn K (.builtin "object.__class__") "__get__" = some (some (.builtin "getset_descriptor.__get__"))) && (decide (PySem.W.takesIn K (.builtin "object.__class__") = some true) && decide (PySem.W.mroIn K D (.type "object") = some true)))))))
theorem excB_ok {K : PySem.W.Frag} {D : Addr} (h : excB K D = true) : ExcC K D := by
  unfold excB at h
  simp only [Bool.and_eq_true, decide_eq_true_eq] at h
  obtain ⟨h1, h2, h3, h4, h5, h6, h7, h8⟩ := h
  exact ⟨h1, h2, h3, h4, h5, h6, h7, h8⟩
theorem suK {G : Glb} {X : Cx} (h : X.K = G.K) {a : Addr} {pn : List (Addr × Obj)} : (X.suite a pn).K = G.K := h
theorem suU {k : Nat} {G : Glb} {X : Cx} {W : WX} (c : XC k G X W) {a : Addr} {pn : List (Addr × Obj)} : (X.suite a pn).A.units + 64 < cLine := c.hr.units
section
variable {G : Glb} {X : Cx} {W : WX} {O : Ow} {pos : Pos}
theorem de_globK {x : Str} {i : Int} (h : ∃ t, X.mg x = some (.int i t)) (hg : Gl X x := by rfl) (hd : (x == ("__debug__" : Str)) = false := by decide) : DE G X W O (.Name x pos) (mC (.int i)) := by
  obtain ⟨t, hm⟩ := h
  exact de_globI hm hg hd
end
end DL

/-! DL, ninth part: how the printed functions are reckoned (for simp only [ev]). -/
namespace DL
open PySem PySem.Spec PyProof.Rows L2
theorem bind_ok {α β : Type} (a : α) (st : List D) (f : α → M β) : (Res.ok a st).bind f = f a st := rfl
theorem bind_err {α β : Type} (x : Ex) (st : List D) (f : α → M β) : (Res.err x st : Res α).bind f = .err x st := rfl
def mkEnv : Nat → List D → Env'
  | 0, _ => []
  | n + 1, [] => none :: mkEnv n []
  | n + 1, d :: ds => some d :: mkEnv n ds
theorem mkEnv_eq : ∀ (n : Nat) (ds : List D), ds.length ≤ n → mkEnv n ds = ds.map some ++ List.replicate (n - ds.length) none
  | 0, [], _ => rfl
  | 0, _ :: _, h => by simp at h
  | n + 1, [], _ => by
    have := mkEnv_eq n [] (Nat.zero_le _)
    simp [mkEnv, this, List.replicate_succ]
  | n + 1, d :: ds, h => by
    have := mkEnv_eq n ds (Nat.le_of_succ_le_succ h)
    simp [mkEnv, this]
/-- how a body's end is a call's -/
def outR : Out → Res D
  | .nx _ st1 => .ok .non st1
  | .rt d st1 => .ok d st1
  | .er x _ st1 => .err x st1
  | _ => .bad
theorem fnM_eq {n : Nat} {m : MS} {ds : List D} {st : List D} (h : ds.length ≤ n) : fnM n m ds st = outR (m (mkEnv n ds) st) := by
  rw [mkEnv_eq n ds h]
  unfold fnM outR
  cases m (ds.map some ++ List.replicate (n - ds.length) none) st <;> rfl
def get? (env : Env') (i : Nat) : Option D := match env, i with
  | [], _ => none
  | o :: _, 0 => o
  | _ :: r, i + 1 => get? r i
theorem mVar_eq (i : Nat) (env : Env') (st : List D) : mVar i env st = ret? (get? env i) st := by
  unfold mVar ret?
  induction env generalizing i with
  | nil => rfl
  | cons o r ih =>
    cases i with
    | zero => cases o <;> rfl
    | succ i => exact ih i
theorem mSeq_eq (m n : MS) (env : Env') (st : List D) : mSeq m n env st = match m env st with
  | .nx env1 st1 => n env1 st1
  | o => o := rfl
/-- the rules of reckoning -/
theorem ev1 :
    (∀ (n : Nat) (m : MS) (st : List D), fnM n m [] st = outR (m (mkEnv n []) st)) ∧
    (∀ (n : Nat) (m : MS) (a : D) (st : List D), fnM (n + 1) m [a] st = outR (m (mkEnv (n + 1) [a]) st)) ∧
    (∀ (n : Nat) (m : MS) (a b : D) (st : List D), fnM (n + 2) m [a, b] st = outR (m (mkEnv (n + 2) [a, b]) st)) ∧
    (∀ (n : Nat) (m : MS) (a b c : D) (st : List D), fnM (n + 3) m [a, b, c] st = outR (m (mkEnv (n + 3) [a, b, c]) st)) ∧
    (∀ (n : Nat) (m : MS) (a b c d : D) (st : List D), fnM (n + 4) m [a, b, c, d] st = outR (m (mkEnv (n + 4) [a, b, c, d]) st)) ∧
    (∀ (e : Env') (st : List D), outR (.nx e st) = .ok .non st) ∧ (∀ (d : D) (st : List D), outR (.rt d st) = .ok d st) ∧ (∀ (x : Ex) (e : Env') (st : List D), outR (.er x e st) = .err x st) :=
  ⟨fun n m st => fnM_eq (Nat.zero_le _), fun n m a st => fnM_eq (Nat.le_add_left 1 n), fun n m a b st => fnM_eq (Nat.le_add_left 2 n), fun n m a b c st => fnM_eq (Nat.le_add_left 3 n), fun n m a b c d st => fnM_eq (Nat.le_add_left 4 n),
    fun _ _ => rfl, fun _ _ => rfl, fun _ _ _ => rfl⟩
theorem ev2 :
    (∀ (i : Nat) (env : Env') (st : List D), mVar i env st = ret? (get? env i) st) ∧
    (∀ (d : D) (st : List D), ret? (some d) st = .ok d st) ∧
    (∀ (d : D) (env : Env') (st : List D), mC d env st = .ok d st) ∧
    (∀ (f : D → D → Option D) (ma mb : ME) (env : Env') (st : List D), mOp f ma mb env st = (ma env st).bind fun x st1 => (mb env st1).bind fun y => ret? (f x y)) ∧
    (∀ (f : D → Option D) (ma : ME) (env : Env') (st : List D), mUn f ma env st = (ma env st).bind fun x => ret? (f x)) ∧
    (∀ (env : Env') (st : List D), mNil env st = .ok [] st) ∧
    (∀ (ma : ME) (mr : MA) (env : Env') (st : List D), mCons ma mr env st = (ma env st).bind fun x st1 => (mr env st1).bind fun xs st2 => .ok (x :: xs) st2) ∧
    (∀ (f : List D → Option D) (ma : MA) (env : Env') (st : List D), mCall1 f ma env st = (ma env st).bind fun xs => ret? (f xs)) ∧
    (∀ (f : List D → M D) (ma : MA) (env : Env') (st : List D), mCall f ma env st = (ma env st).bind f) ∧
    (∀ (ma : ME) (env : Env') (st : List D), mTest ma env st = (ma env st).bind bool?) ∧
    (∀ (ma : ME) (env : Env') (st : List D), mTru ma env st = (ma env st).bind tru?) ∧
    (∀ (t : MT) (env : Env') (st : List D), mNot t env st = (t env st).bind fun k st1 => .ok (!k) st1) ∧
    (∀ (t u : MT) (env : Env') (st : List D), mAnd t u env st = (t env st).bind fun k st1 => if k = true then u env st1 else .ok false st1) ∧
    (∀ (t u : MT) (env : Env') (st : List D), mOr t u env st = (t env st).bind fun k st1 => if k = true then .ok true st1 else u env st1) ∧
    (∀ (ma : ME) (env : Env') (st : List D), mNotV ma env st = (ma env st).bind fun x st1 => (bool? x st1).bind fun k st2 => .ok (.bl (!k)) st2) ∧
    (∀ (ma mb : ME) (env : Env') (st : List D), mAndV ma mb env st = (ma env st).bind fun x st1 => (bool? x st1).bind fun k st2 => if k = true then mb env st2 else .ok (.bl false) st2) ∧
    (∀ (ma mb : ME) (env : Env') (st : List D), mOrV ma mb env st = (ma env st).bind fun x st1 => (bool? x st1).bind fun k st2 => if k = true then .ok (.bl true) st2 else mb env st2) ∧
    (∀ (t : MT) (ma mb : ME) (env : Env') (st : List D), mIf t ma mb env st = (t env st).bind fun k st1 => if k = true then ma env st1 else mb env st1) ∧
    (∀ (ma : MA) (env : Env') (st : List D), mTup ma env st = (ma env st).bind tupOk) ∧
    (∀ (ma : MA) (env : Env') (st : List D), mLst ma env st = (ma env st).bind lstOk) ∧
    (∀ (ma mb : ME) (env : Env') (st : List D), mIx ma mb env st = (ma env st).bind fun x st1 => (mb env st1).bind fun y => ixS x y) ∧
    (∀ (b : Bool) (st : List D), bool? (.bl b) st = .ok b st) ∧ (∀ (b : Bool) (st : List D), tru? (.bl b) st = .ok b st) ∧ (∀ (i : Int) (st : List D), tru? (.int i) st = .ok (i != 0) st) ∧
    (∀ (ds : List D) (st : List D), tru? (.lst ds) st = .ok (!ds.isEmpty) st) ∧ (∀ (ds : List D) (st : List D), tru? (.tup ds) st = .ok (!ds.isEmpty) st) :=
  ⟨mVar_eq, fun _ _ => rfl, fun _ _ _ => rfl, fun _ _ _ _ _ => rfl, fun _ _ _ _ => rfl, fun _ _ => rfl, fun _ _ _ _ => rfl, fun _ _ _ _ => rfl, fun _ _ _ _ => rfl, fun _ _ _ => rfl, fun _ _ _ => rfl, fun _ _ _ => rfl, fun _ _ _ _ => rfl, fun _ _ _ _ => rfl, fun _ _ _ => rfl,
    fun _ _ _ _ => rfl, fun _ _ _ _ => rfl, fun _ _ _ _ _ => rfl, fun _ _ _ => rfl, fun _ _ _ => rfl, fun _ _ _ _ => rfl, fun _ _ => rfl, fun _ _ => rfl, fun _ _ => rfl, fun _ _ => rfl, fun _ _ => rfl⟩
theorem ev3 :
    (∀ (m n : MS) (env : Env') (st : List D), mSeq m n env st = match m env st with
      | .nx env1 st1 => n env1 st1
      | o => o) ∧
    (∀ (env : Env') (st : List D), mNx env st = .nx env st) ∧ (∀ (env : Env') (st : List D), mBrk env st = .bk env st) ∧ (∀ (env : Env') (st : List D), mCnt env st = .ct env st) ∧
    (∀ (m : ME) (env : Env') (st : List D), mRet m env st = match m env st with
      | .ok d st1 => .rt d st1
      | .err x st1 => .er x env st1
      | .bad => .bad) ∧
    (∀ (i : Nat) (m : ME) (env : Env') (st : List D), mSet i m env st = match m env st with
      | .ok d st1 => .nx (env.set i (some d)) st1
      | .err x st1 => .er x env st1
      | .bad => .bad) ∧
    (∀ (env : Env') (st : List D), mRetN env st = .rt .non st) ∧
    (∀ (m : ME) (env : Env') (st : List D), mDrop m env st = match m env st with
      | .ok d st1 => .nx env st1
      | .err x st1 => .er x env st1
      | .bad => .bad) ∧
    (∀ (t : MT) (m n : MS) (env : Env') (st : List D), mIfS t m n env st = match t env st with
      | .ok k st1 => if k = true then m env st1 else n env st1
      | .err x st1 => .er x env st1
      | .bad => .bad) ∧
    (∀ (m : ME) (g : MG) (env : Env') (st : List D), mAsg m g env st = match m env st with
      | .ok d st1 => (match g d env with
        | some env1 => .nx env1 st1
        | none => .bad)
      | .err x st1 => .er x env st1
      | .bad => .bad) ∧
    (∀ (i j : Nat) (ma : MA) (env : Env') (st : List D), mPar i j ma env st = match ma env st with
      | .ok [d, e] st1 => .nx ((env.set i (some d)).set j (some e)) st1
      | .err x st1 => .er x env st1
      | _ => .bad) ∧
    (∀ (i : Nat) (d : D) (env : Env'), gNm i d env = some (env.set i (some d))) ∧ (∀ (env : Env'), gsNil [] env = some env) ∧
    (∀ (g : MG) (r : List D → Env' → Option Env') (d : D) (ds : List D) (env : Env'), gsCons g r (d :: ds) env = (g d env).bind (r ds)) ∧
    (∀ (r : List D → Env' → Option Env') (ds : List D) (env : Env'), gTp r (.tup ds) env = r ds env) ∧
    (∀ (c : Nat) (env : Env') (st : List D), mRaise0 c env st = .er ⟨c, none⟩ env st) ∧
    (∀ (mi : MA) (g : MG) (m : MS) (env : Env') (st : List D), mFor mi g m env st = match mi env st with
      | .ok ds st1 => forD g m ds env st1
      | .err x st1 => .er x env st1
      | .bad => .bad) ∧
    (∀ (m : ME) (env : Env') (st : List D), mItems m env st = (m env st).bind items?) ∧ (∀ (ds : List D) (st : List D), items? (.lst ds) st = .ok ds st) ∧ (∀ (ds : List D) (st : List D), items? (.tup ds) st = .ok ds st) ∧ (∀ (ds : List D) (st : List D), items? (.rol ds) st = .ok ds st) ∧
    (∀ (m : MA) (f : List D → M (List D)) (env : Env') (st : List D), mThenA m f env st = (m env st).bind f) ∧
    (∀ (mi : MA) (vs : List Nat) (g : MG) (mt : MT) (me : ME) (env : Env') (st : List D), mLC mi vs g mt me env st = (mi env st).bind fun ds st1 => (lcD (wipeE env vs) g mt me ds st1).bind lstOk) ∧
    (∀ (env : Env') (st : List D), mYes env st = .ok true st) :=
  ⟨fun _ _ _ _ => rfl, fun _ _ => rfl, fun _ _ => rfl, fun _ _ => rfl, fun _ _ _ => rfl, fun _ _ _ _ => rfl, fun _ _ => rfl, fun _ _ _ => rfl, fun _ _ _ _ _ => rfl, fun _ _ _ _ => rfl, fun _ _ _ _ _ => rfl, fun _ _ _ => rfl, fun _ => rfl, fun _ _ _ _ _ => rfl, fun _ _ _ => rfl, fun _ _ _ => rfl, fun _ _ _ _ _ => rfl,
    fun _ _ _ => rfl, fun _ _ => rfl, fun _ _ => rfl, fun _ _ => rfl, fun _ _ _ _ => rfl, fun _ _ _ _ _ _ _ => rfl, fun _ _ => rfl⟩
theorem shaped_int (i : Int) : SeqAt.shaped (.int i) = true := rfl
theorem shaped_str (x : Str) (h : SeqAt.shaped (.str x) = true) : SeqAt.shaped (.str x) = true := h
theorem ev4 :
    (∀ i j : Int, dAdd (.int i) (.int j) = some (.int (i + j))) ∧ (∀ i j : Int, dSub (.int i) (.int j) = some (.int (i - j))) ∧ (∀ i j : Int, dMul (.int i) (.int j) = if MulOk i j then some (.int (i * j)) else none) ∧
    (∀ i j : Int, dDiv (.int i) (.int j) = if DivOk i j then some (.int (i.fdiv j)) else none) ∧ (∀ i j : Int, dMod (.int i) (.int j) = if j ≠ 0 then some (.int (i.fmod j)) else none) ∧
    (∀ i : Int, dNeg (.int i) = some (.int (-i))) ∧ (∀ i j : Int, dLt (.int i) (.int j) = some (.bl (decide (i < j)))) ∧ (∀ i j : Int, dLe (.int i) (.int j) = some (.bl (decide (i ≤ j)))) ∧
    (∀ i j : Int, dGt (.int i) (.int j) = some (.bl (decide (j < i)))) ∧ (∀ i j : Int, dGe (.int i) (.int j) = some (.bl (decide (j ≤ i)))) ∧
    (∀ i j : Int, dEq (.int i) (.int j) = some (.bl (decide (i = j)))) ∧ (∀ i j : Int, dNe (.int i) (.int j) = some (.bl (!decide (i = j)))) ∧
    (∀ (f : D → Option D) (x : D), c1 f [x] = f x) ∧ (∀ i : Int, dAbs (.int i) = some (.int (if i < 0 then -i else i))) ∧ (∀ i : Int, dInt1 (.int i) = some (.int i)) ∧ (∀ b : Bool, dInt1 (.bl b) = some (.int (if b then 1 else 0))) ∧
    (∀ ds : List D, dLen (.lst ds) = some (.int (ds.length : Nat))) ∧ (∀ ds : List D, dLen (.tup ds) = some (.int (ds.length : Nat))) ∧ (∀ a b : Int, dGcd [.int a, .int b] = some (.int ((Nat.gcd a.natAbs b.natAbs : Nat) : Int))) ∧
    (∀ (xs : List D), dTuple (.lst xs) = some (.tup xs)) ∧ (∀ (xs : List D), dTuple (.tup xs) = some (.tup xs)) ∧ (∀ (xs : List D), dList (.lst xs) = some (.lst xs)) ∧ (∀ (xs : List D), dList (.tup xs) = some (.lst xs)) ∧
    (∀ (x y : D) (st : List D), ixS (.lst [x]) y st = ret? (dIx (.lst [x]) y) st) :=
  ⟨fun _ _ => rfl, fun _ _ => rfl, fun _ _ => rfl, fun _ _ => rfl, fun _ _ => rfl, fun _ => rfl, fun _ _ => rfl, fun _ _ => rfl, fun _ _ => rfl, fun _ _ => rfl, fun i j => congrArg (fun b => some (D.bl b)) (Bool.beq_eq_decide_eq i j), fun i j => congrArg (fun b => some (D.bl (!b))) (Bool.beq_eq_decide_eq i j),
    fun _ _ => rfl, fun _ => rfl, fun _ => rfl, fun _ => rfl, fun _ => rfl, fun _ => rfl, fun _ _ => rfl, fun _ => rfl, fun _ => rfl, fun _ => rfl, fun _ => rfl, fun _ _ _ => rfl⟩
end DL

/-! DL, tenth part: the end of a law row whose calls let errors out. -/
namespace DL
open PySem PySem.Spec PyProof.Rows L2
theorem walk_ofC {l : PySem.W.OpenLaw} {n k : Nat} {q : Program} {loose : List Str} {XP : (Str → Option Value) → Heap → Prop} {YP : World → Heap → Prop} {d : DefRec} {K : Params → PySem.W.Frag} {x : Str}
    (hn : l.most = some n) (hn2 : n ≤ sizeLine) (hn3 : n ≤ 63) (hdf : d.params.defaults = []) (hr : Room k callerA)
    (hY : ∀ (w : World) (h : Heap), YP w h → (K w.params).In h)
    (F : ∀ (w : World) (mg : Str → Option Value) (fa : Addr) (h : Heap), (K w.params).In h → h.Ns mainGlobals mg → mg d.name = some (.ref fa) →
      ∃ fd : FuncData, (∀ (s : Shared) (u : Value), BindsTo s fd ⟨[u], []⟩ [(x, u)]) ∧
        ∀ base : Heap, (K w.params).In base → base.Ns mainGlobals mg → FnOk l.prog w (K w.params) mg base (L2.CX l.prog w) k fa fd [x] (spLaw (K w.params))) :
    PySem.W.WalkO q loose XP YP l.row.toRowW d [] (fun f vs => PySem.call f vs) :=
  L2.walk_of (K := K) (CX := fun w => L2.CX l.prog w) (sp := fun w => spLaw (K w.params)) hn hn2 hdf hr hY F
    (fun w H a ns hl hO hS => ⟨a, ns, rfl, hS, Nat.le_trans hl hn3, hO, fun _ => rfl⟩)
    fun w H s e s' h => by obtain ⟨_, _, _, _, _, _, _, _, _, _, _, _, z⟩ := h; exact z
/-! ### reckoning: sizes, the hand -/
theorem mulOk_l {i j : Int} (h : i.natAbs < 2 ^ 64) : MulOk i j := .inl h
theorem mulOk_r {i j : Int} (h : j.natAbs < 2 ^ 64) : MulOk i j := .inr (.inl h)
theorem ret_ok (d : D) (st : List D) : ret? (some d) st = .ok d st := rfl
theorem dMod_pos (i j : Int) (h : j ≠ 0) : dMod (.int i) (.int j) = some (.int (i.fmod j)) := if_pos h
theorem fmod_small {i j : Int} (hj : 0 < j) : 0 ≤ i.fmod j ∧ i.fmod j < j := ⟨Int.fmod_nonneg_of_pos i hj, Int.fmod_lt_of_pos i hj⟩
theorem ixN_nat {n j : Nat} (hj : j < n) : ixN n (j : Int) = some j := by
  unfold ixN
  simp only [show ¬ ((j : Int) < 0) by omega, show (j : Int) < n by omega]
  simp
theorem atI_nat {α : Type} {xs : List α} {k : Nat} (h : k < xs.length) : atI xs (k : Int) = some xs[k] := by
  unfold atI
  rw [ixN_nat h]
  simp [h]
theorem hix0 (c : List Int) (a r t : Int) : ixS (.tok 0) (.int 0) [handD c a r t] = .ok (.lst (c.map .int)) [handD c a r t] := rfl
theorem hix1 (c : List Int) (a r t : Int) : ixS (.tok 0) (.int 1) [handD c a r t] = .ok (.int a) [handD c a r t] := rfl
theorem hix2 (c : List Int) (a r t : Int) : ixS (.tok 0) (.int 2) [handD c a r t] = .ok (.int r) [handD c a r t] := rfl
theorem hix3 (c : List Int) (a r t : Int) : ixS (.tok 0) (.int 3) [handD c a r t] = .ok (.int t) [handD c a r t] := rfl
/-- a cell of the store written -/
def putS (n : Nat) (k : Int) (d : D) (env : Env') (st : List D) : Out := match st[n]? with
    | some (D.lst ds) => match ixN ds.length k with
      | some j => .nx env (st.set n (.lst (ds.set j d)))
      | none => .bad
    | _ => .bad
theorem mPut_eq (k : Int) (m : ME) (e : Env') (st : List D) : mPut 0 k m (some (.tok 0) :: e) st = match m (some (.tok 0) :: e) st with
  | .ok d st1 => putS 0 k d (some (.tok 0) :: e) st1
  | .err x st1 => .er x (some (.tok 0) :: e) st1
  | .bad => .bad := rfl
theorem put1 (c : List Int) (a r t x : Int) (e : Env') : putS 0 1 (.int x) e [handD c a r t] = .nx e [handD c x r t] := rfl
theorem put2 (c : List Int) (a r t x : Int) (e : Env') : putS 0 2 (.int x) e [handD c a r t] = .nx e [handD c a x t] := rfl
theorem put3 (c : List Int) (a r t x : Int) (e : Env') : putS 0 3 (.int x) e [handD c a r t] = .nx e [handD c a r x] := rfl
theorem hcell (c : List Int) (k : Nat) (h : k < c.length) (st : List D) : ixS (.lst (c.map .int)) (.int (k : Int)) st = .ok (.int c[k]) st := by
  show ret? (atI (c.map .int) (k : Int)) st = _
  rw [atI_nat (by rw [List.length_map]; exact h)]
  simp [ret?]
structure HandOk (st : List D) : Prop where
  ex : ∃ (cells : List Int) (at_ rest total : Int), st = [handD cells at_ rest total] ∧ 0 ≤ at_ ∧ 0 ≤ rest ∧ ∀ c ∈ cells, 0 ≤ c
/-! ### facts of a class, in k_is' words -/
theorem excB_mk {K : PySem.W.Frag} {D : Addr} (h1 : PySem.W.findIn K (.ref D) "__getattribute__" = some (some (.builtin "BaseException.__getattribute__"))) (h2 : PySem.W.findIn K (.ref D) "__getattr__" = some none) (h3 : PySem.W.subIn K (.ref D) (.type "BaseException") = some true) (h4 : PySem.W.hasDictIn K D = true)
    (h5 : PySem.W.findIn K (.ref D) "__class__" = some (some (.builtin "object.__class__"))) (h6 : PySem.W.specialIn K (.builtin "object.__class__") "__get__" = some (some (.builtin "getset_descriptor.__get__"))) (h7 : PySem.W.takesIn K (.builtin "object.__class__") = some true) (h8 : PySem.W.mroIn K D (.type "object") = some true) : excB K D = true := by
  unfold excB
  simp only [h1, h2, h3, h4, h5, h6, h7, h8, decide_true, Bool.and_self]
theorem kitO_ref {K : PySem.W.Frag} {t : Value} {D : Addr} (hc : PySem.W.isClsIn K D = true) (ht : PySem.W.typeIn K (.ref D) = some (.type "type")) (hs : PySem.W.subIn K t (.ref D) = some true) : PySem.W.kitOne K t (.ref D) = some true := by
  unfold PySem.W.kitOne PySem.W.kitCls
  have hc' : (PySem.W.clsIn K D).isSome = true := hc
  split
  · rfl
  · simp [hc', ht, hs]
theorem kitO_refF {K : PySem.W.Frag} {C D : Addr} (hc : PySem.W.isClsIn K D = true) (ht : PySem.W.typeIn K (.ref D) = some (.type "type")) (hs : PySem.W.subIn K (.ref C) (.ref D) = some false) (hm : PySem.W.subIn K (.ref C) (.ref C) = some true) : PySem.W.kitOne K (.ref C) (.ref D) = some false := by
  unfold PySem.W.kitOne PySem.W.kitCls
  have hc' : (PySem.W.clsIn K D).isSome = true := hc
  split
  · rename_i e
    have e' : Value.ref C = .ref D := by simpa using e
    cases e'
    rw [hs] at hm; cases hm
  · simp [hc', ht, hs]
theorem kitO_ty {K : PySem.W.Frag} {C : Addr} {T : String} {b : Bool} (hs : PySem.W.subIn K (.ref C) (.type T) = some b) (hk : PySem.W.kitMeta T = true) : PySem.W.kitOne K (.ref C) (.type T) = some b := by
  unfold PySem.W.kitOne PySem.W.kitCls
  split
  · rename_i e
    have e' : Value.ref C = .type T := by simpa using e
    cases e'
  · simp [hk, hs]
/-! ### loops reckoned -/
theorem forD_nil (g : MG) (body : MS) (env : Env') (st : List D) : forD g body [] env st = .nx env st := rfl
theorem forD_cons (g : MG) (body : MS) (d : D) (ds : List D) (env : Env') (st : List D) : forD g body (d :: ds) env st = match g d env with
    | none => .bad
    | some env1 => match body env1 st with
      | .nx e s => forD g body ds e s
      | .ct e s => forD g body ds e s
      | .bk e s => .nx e s
      | o => o := rfl
theorem mFor_eq (mi : MA) (g : MG) (body : MS) (env : Env') (st : List D) : mFor mi g body env st = match mi env st with
  | .ok ds st1 => forD g body ds env st1
  | .err x st1 => .er x env st1
  | .bad => .bad := rfl
theorem forD_inv {g : MG} {body : MS} (P : Env' → List D → Prop) (Q : D → Prop) (h : ∀ d env st, Q d → P env st → ∃ env1 env2 st2, g d env = some env1 ∧ body env1 st = .nx env2 st2 ∧ P env2 st2) :
    ∀ (ds : List D) (env : Env') (st : List D), (∀ d ∈ ds, Q d) → P env st → ∃ env' st', forD g body ds env st = .nx env' st' ∧ P env' st'
  | [], env, st, _, p => ⟨env, st, rfl, p⟩
  | d :: ds, env, st, hq, p => by
    obtain ⟨e1, e2, s2, a, b, c⟩ := h d env st (hq d List.mem_cons_self) p
    obtain ⟨e3, s3, x, y⟩ := forD_inv P Q h ds e2 s2 (fun q hh => hq q (List.mem_cons_of_mem _ hh)) c
    exact ⟨e3, s3, by rw [forD_cons, a]; simp only [b]; exact x, y⟩
theorem lcD_map {env : Env'} {g : MG} {mt : MT} {me : ME} {st : List D} (f : D → D) : ∀ ds : List D, (∀ d ∈ ds, ∃ env1, g d env = some env1 ∧ mt env1 st = .ok true st ∧ me env1 st = .ok (f d) st) → lcD env g mt me ds st = .ok (ds.map f) st
  | [], _ => rfl
  | d :: ds, h => by
    obtain ⟨e1, a, b, c⟩ := h d List.mem_cons_self
    have ih := lcD_map f ds fun q hh => h q (List.mem_cons_of_mem _ hh)
    unfold lcD
    simp only [a]
    rw [b]
    simp only [noEr, bind_ok, if_pos]
    rw [c]
    simp only [bind_ok]
    rw [ih]
    rfl
theorem numbered_mem {ds : List D} {d : D} (h : d ∈ numbered ds) : ∃ (i : Nat) (x : D), i < ds.length ∧ x ∈ ds ∧ d = .tup [.int (i : Int), x] := by
  unfold numbered at h
  rw [List.mem_mapIdx] at h
  obtain ⟨i, hi, e⟩ := h
  exact ⟨i, ds[i], hi, List.getElem_mem hi, e.symm⟩
/-! ### items of written rows -/
theorem atI_0 (a : D) (r : List D) : atI (a :: r) 0 = some a := atI_nat (xs := a :: r) (k := 0) (by simp)
theorem atI_1 (a b : D) (r : List D) : atI (a :: b :: r) 1 = some b := atI_nat (xs := a :: b :: r) (k := 1) (by simp)
theorem atI_2 (a b c : D) (r : List D) : atI (a :: b :: c :: r) 2 = some c := atI_nat (xs := a :: b :: c :: r) (k := 2) (by simp)
theorem atI_3 (a b c d : D) (r : List D) : atI (a :: b :: c :: d :: r) 3 = some d := atI_nat (xs := a :: b :: c :: d :: r) (k := 3) (by simp)
theorem ixS_tup (xs : List D) (i : Int) (st : List D) : ixS (.tup xs) (.int i) st = ret? (atI xs i) st := rfl
theorem ixS_lst (xs : List D) (i : Int) (st : List D) : ixS (.lst xs) (.int i) st = ret? (atI xs i) st := rfl
theorem ixS_rol (xs : List D) (i : Int) (st : List D) : ixS (.rol xs) (.int i) st = ret? (atI xs i) st := rfl
theorem tupOk_of {xs : List D} (h : xs.length ≤ 100) (st : List D) : tupOk xs st = .ok (.tup xs) st := by
  unfold tupOk
  rw [if_pos (Nat.le_trans h (by decide))]
theorem lstOk_of {xs : List D} (h : xs.length ≤ 100) (st : List D) : lstOk xs st = .ok (.lst xs) st := by
  unfold lstOk
  rw [if_pos (Nat.le_trans h (by decide))]
theorem ev5 :
    (∀ (a : D) (r : List D), atI (a :: r) 0 = some a) ∧ (∀ (a b : D) (r : List D), atI (a :: b :: r) 1 = some b) ∧ (∀ (a b c : D) (r : List D), atI (a :: b :: c :: r) 2 = some c) ∧ (∀ (a b c d : D) (r : List D), atI (a :: b :: c :: d :: r) 3 = some d) ∧
    (∀ (xs : List D) (i : Int) (st : List D), ixS (.tup xs) (.int i) st = ret? (atI xs i) st) ∧ (∀ (xs : List D) (i : Int) (st : List D), ixS (.lst xs) (.int i) st = ret? (atI xs i) st) ∧ (∀ (xs : List D) (i : Int) (st : List D), ixS (.rol xs) (.int i) st = ret? (atI xs i) st) ∧
    (∀ st, tupOk [] st = .ok (.tup []) st) ∧ (∀ a st, tupOk [a] st = .ok (.tup [a]) st) ∧ (∀ a b st, tupOk [a, b] st = .ok (.tup [a, b]) st) ∧ (∀ a b c st, tupOk [a, b, c] st = .ok (.tup [a, b, c]) st) ∧ (∀ a b c d st, tupOk [a, b, c, d] st = .ok (.tup [a, b, c, d]) st) ∧
    (∀ st, lstOk [] st = .ok (.lst []) st) ∧ (∀ a st, lstOk [a] st = .ok (.lst [a]) st) ∧ (∀ a b st, lstOk [a, b] st = .ok (.lst [a, b]) st) ∧ (∀ a b c st, lstOk [a, b, c] st = .ok (.lst [a, b, c]) st) ∧ (∀ a b c d st, lstOk [a, b, c, d] st = .ok (.lst [a, b, c, d]) st) :=
  ⟨atI_0, atI_1, atI_2, atI_3, fun _ _ _ => rfl, fun _ _ _ => rfl, fun _ _ _ => rfl, fun st => tupOk_of (by simp) st, fun a st => tupOk_of (by simp) st, fun a b st => tupOk_of (by simp) st, fun a b c st => tupOk_of (by simp) st, fun a b c d st => tupOk_of (by simp) st,
    fun st => lstOk_of (by simp) st, fun a st => lstOk_of (by simp) st, fun a b st => lstOk_of (by simp) st, fun a b c st => lstOk_of (by simp) st, fun a b c d st => lstOk_of (by simp) st⟩
end DL

/-! DL, eleventh part: lists that a slot owns (made, grown, given away). -/
namespace DL
open PySem PySem.Spec PyProof.Rows L2
def Ow.add (O : Ow) (i : Nat) : Ow := { O with own := i :: O.own }
def Ow.less (O : Ow) (i : Nat) : Ow := { O with own := O.own.filter fun j => !(j == i) }
theorem has_false {O : Ow} {i : Nat} (h : O.has i = false) : i ∉ O.own ∧ O.exi ≠ some i ∧ O.slf ≠ some i := by
  refine ⟨?_, ?_, ?_⟩
  · intro z
    unfold Ow.has at h
    rw [List.elem_eq_true_of_mem z] at h; cases h
  · intro z
    unfold Ow.has at h
    rw [z] at h; simp at h
  · intro z
    unfold Ow.has at h
    rw [z] at h; simp at h
theorem has_mk {O : Ow} {i : Nat} (h1 : i ∉ O.own) (h2 : O.exi ≠ some i) (h3 : O.slf ≠ some i) : O.has i = false := by
  unfold Ow.has
  rw [Bool.or_eq_false_iff, Bool.or_eq_false_iff]
  refine ⟨⟨?_, ?_⟩, ?_⟩
  · cases e : O.own.elem i with
    | false => rfl
    | true => exact absurd (List.mem_of_elem_eq_true e) h1
  · cases e : O.exi with
    | none => rfl
    | some j =>
      rw [e] at h2
      simpa using h2
  · cases e : O.slf with
    | none => rfl
    | some j =>
      rw [e] at h3
      simpa using h3
theorem mem_less {O : Ow} {i j : Nat} : j ∈ (O.less i).own ↔ j ∈ O.own ∧ j ≠ i := by
  unfold Ow.less
  simp [List.mem_filter]
theorem StoOk.grow {G : Glb} {ad : List Addr} {S H H' : Hp} {st : List D} (so : StoOk G ad S st H) (e : ∀ a o, a ∈ ad → H a = some o → H' a = some o) : StoOk G ad S st H' :=
  ⟨so.len, so.nd, fun n a h => let ⟨h1, ds, vs, h2, h3, h4⟩ := so.at_ n a h; ⟨h1, ds, vs, h2, e a _ (List.mem_of_getElem? h) h3, h4⟩⟩
theorem StoOk.known {G : Glb} {ad : List Addr} {S S' H : Hp} {st : List D} (so : StoOk G ad S st H) (e : Same S S') (n : ∀ a ∈ ad, S' a = none) : StoOk G ad S' st H :=
  ⟨so.len, so.nd, fun k a h => let ⟨_, ds, vs, h2, h3, h4⟩ := so.at_ k a h; ⟨n a (List.mem_of_getElem? h), ds, vs, h2, h3, h4.mono e⟩⟩
section
variable {G : Glb} {b : Act} {O : Ow} {S H : Hp} {env : Env'} {st : List D} {σ : L2.St}
/-- a slot takes a new list -/
theorem DI.own_new {i : Nat} {l : Addr} {vs : List V} {ds : List D} (I : DI G b O S env st σ H) (hl : H l = none) (r : Reps G b.ad S vs ds) (hi : O.has i = false) : DI G b (O.add i) S (env.set i (some (.lst ds))) st (σ.set i (some (.ref l))) (upd H l (.lst vs)) := by
  obtain ⟨h1, h2, h3⟩ := has_false hi
  have la : l ∉ b.ad := fun z => by
    obtain ⟨_, vs', hv⟩ := I.sto.has z
    rw [hl] at hv; cases hv
  have lS : S l = none := by
    cases e : S l with
    | none => rfl
    | some o => have := I.sub l o e; rw [hl] at this; cases this
  have lb : b.H l = none := by
    cases e : b.H l with
    | none => rfl
    | some o => have := I.keep l o e la; rw [hl] at this; cases this
  have up : ∀ a o, H a = some o → upd H l (.lst vs) a = some o := fun a o h => by
    rw [upd_ne (fun z => by rw [z, hl] at h; cases h)]; exact h
  have other : ∀ {j : Nat} {d' : D}, j ≠ i → (env.set i (some (.lst ds)))[j]? = some (some d') → env[j]? = some (some d') := fun {j d'} hj h => by
    rw [List.getElem?_set_ne (Ne.symm hj)] at h; exact h
  have sl : ∀ {j : Nat}, j ≠ i → (σ.set i (some (V.ref l)))[j]? = σ[j]? := fun {j} hj => List.getElem?_set_ne (Ne.symm hj)
  refine ⟨by rw [List.length_set, List.length_set]; exact I.len, fun a o h => up a o (I.sub a o h), I.s0, I.new, fun a o h ha => up a o (I.keep a o h ha), fun j d' h ho => ?_, fun j d' hj h => ?_, fun j k a hj hk e1 e2 q1 q2 => ?_, I.sto.grow fun a o _ h => up a o h, fun j d' hj h => ?_, fun j hj => ?_⟩
  · obtain ⟨g1, g2, g3⟩ := has_false ho
    have hne : j ≠ i := fun z => g1 (z ▸ List.mem_cons_self)
    obtain ⟨w, q1, q2⟩ := I.slot j d' (other hne h) (has_mk (fun z => g1 (List.mem_cons_of_mem _ z)) g2 g3)
    exact ⟨w, by rw [sl hne]; exact q1, q2⟩
  · by_cases hne : j = i
    · subst hne
      by_cases hlen : j < env.length
      · rw [List.getElem?_set_self hlen] at h
        have e : D.lst ds = d' := by simpa using h
        subst e
        exact ⟨l, vs, ds, rfl, by rw [List.getElem?_set_self (by rw [I.len]; exact hlen)], upd_same, lS, lb, la, r⟩
      · rw [List.getElem?_eq_none_iff.mpr (by rw [List.length_set]; exact Nat.le_of_not_lt hlen)] at h; cases h
    · have hj' : j ∈ O.own := by
        rcases List.mem_cons.mp hj with z | z
        · exact absurd z hne
        · exact z
      obtain ⟨a, ws, es, q1, q2, q3, q4⟩ := I.own j d' hj' (other hne h)
      exact ⟨a, ws, es, q1, by rw [sl hne]; exact q2, up a _ q3, q4⟩
  · have key : ∀ {j : Nat} {a : Addr}, j ∈ (O.add i).own → (∃ d : D, (env.set i (some (.lst ds)))[j]? = some (some d)) → (σ.set i (some (V.ref l)))[j]? = some (some (V.ref a)) → (j = i ∧ a = l) ∨ (j ≠ i ∧ j ∈ O.own ∧ (∃ d : D, env[j]? = some (some d)) ∧ σ[j]? = some (some (V.ref a)) ∧ a ≠ l) := fun {j a} hj ⟨d, e⟩ q => by
      by_cases hne : j = i
      · subst hne
        have hlen : j < σ.length := by
          have := (List.getElem?_eq_some_iff.mp q).1
          rwa [List.length_set] at this
        rw [List.getElem?_set_self hlen] at q
        have : V.ref l = .ref a := by simpa using q
        injection this with this
        exact .inl ⟨rfl, this.symm⟩
      · have hj' : j ∈ O.own := by
          rcases List.mem_cons.mp hj with z | z
          · exact absurd z hne
          · exact z
        rw [sl hne] at q
        have e' := other hne e
        obtain ⟨c, ws, es, p1, p2, p3, _⟩ := I.own j d hj' e'
        have : a = c := by
          have := q.symm.trans p2
          simpa using this
        subst this
        exact .inr ⟨hne, hj', ⟨d, e'⟩, q, fun z => by rw [z, hl] at p3; cases p3⟩
    rcases key hj e1 q1 with ⟨x1, y1⟩ | ⟨x1, y1, z1, w1, v1⟩
    · rcases key hk e2 q2 with ⟨x2, _⟩ | ⟨_, _, _, _, v2⟩
      · rw [x1, x2]
      · exact absurd y1 v2
    · rcases key hk e2 q2 with ⟨_, y2⟩ | ⟨_, y2, z2, w2, _⟩
      · exact absurd y2 v1
      · exact I.dist j k a y1 y2 z1 z2 w1 w2
  · have hne : j ≠ i := fun z => h2 (z ▸ hj)
    obtain ⟨y, q1, q2, q3⟩ := I.exc j d' hj (other hne h)
    exact ⟨y, q1, by rw [sl hne]; exact q2, q3⟩
  · have hne : j ≠ i := fun z => h3 (z ▸ hj)
    obtain ⟨c, ws, es, q1, q2, q3, q4, q5⟩ := I.self_ j hj
    exact ⟨c, ws, es, by rw [List.getElem?_set_ne (Ne.symm hne)]; exact q1, by rw [sl hne]; exact q2, up _ _ q3, up _ _ q4, q5⟩
/-- a slot's list gets other items -/
theorem DI.own_upd {i : Nat} {l : Addr} {vs' : List V} {ds' : List D} {d0 : D} (I : DI G b O S env st σ H) (hi : i ∈ O.own) (hx : O.exi ≠ some i) (hsf : O.slf ≠ some i) (he : env[i]? = some (some d0)) (hs : σ[i]? = some (some (.ref l))) (r : Reps G b.ad S vs' ds') :
    DI G b O S (env.set i (some (.lst ds'))) st σ (upd H l (.lst vs')) := by
  obtain ⟨a, ws, es, p1, p2, p3, p4, p5, p6, p7⟩ := I.own i d0 hi he
  have ea : a = l := by
    have := p2.symm.trans hs
    simpa using this
  subst ea
  have other : ∀ {j : Nat} {d' : D}, j ≠ i → (env.set i (some (.lst ds')))[j]? = some (some d') → env[j]? = some (some d') := fun {j d'} hj h => by
    rw [List.getElem?_set_ne (Ne.symm hj)] at h; exact h
  have was : ∀ {j : Nat}, (∃ d : D, (env.set i (some (.lst ds')))[j]? = some (some d)) → ∃ d : D, env[j]? = some (some d) := fun {j} ⟨d, e⟩ => by
    by_cases hj : j = i
    · subst hj; exact ⟨_, he⟩
    · exact ⟨d, other hj e⟩
  have up : ∀ c o, c ≠ a → H c = some o → upd H a (.lst vs') c = some o := fun c o hc h => by rw [upd_ne hc]; exact h
  refine ⟨by rw [List.length_set]; exact I.len, fun c o h => up c o (fun z => by rw [z, p4] at h; cases h) (I.sub c o h), I.s0, I.new, fun c o h hc => up c o (fun z => by rw [z, p5] at h; cases h) (I.keep c o h hc), fun j d' h ho => ?_, fun j d' hj h => ?_, fun j k c hj hk e1 e2 q1 q2 => I.dist j k c hj hk (was e1) (was e2) q1 q2, I.sto.grow fun c o hc h => up c o (fun z => p6 (z ▸ hc)) h, fun j d' hj h => ?_, fun j hj => ?_⟩
  · obtain ⟨g1, _⟩ := has_false ho
    exact I.slot j d' (other (fun z => g1 (z ▸ hi)) h) ho
  · by_cases hne : j = i
    · subst hne
      have hlen := (List.getElem?_eq_some_iff.mp he).1
      rw [List.getElem?_set_self hlen] at h
      have e : D.lst ds' = d' := by simpa using h
      subst e
      exact ⟨a, vs', ds', rfl, p2, upd_same, p4, p5, p6, r⟩
    · obtain ⟨c, ws', es', q1, q2, q3, q4⟩ := I.own j d' hj (other hne h)
      refine ⟨c, ws', es', q1, q2, up c _ (fun z => hne ?_) q3, q4⟩
      subst z
      exact I.dist j i c hj hi ⟨_, other hne h⟩ ⟨_, he⟩ q2 p2
  · exact I.exc j d' hj (other (fun z => hx (z ▸ hj)) h)
  · have hne : j ≠ i := fun z => hsf (z ▸ hj)
    obtain ⟨c, ws', es', q1, q2, q3, q4, q5⟩ := I.self_ j hj
    exact ⟨c, ws', es', by rw [List.getElem?_set_ne (Ne.symm hne)]; exact q1, q2, up _ _ (fun z => by rw [z, p3] at q3; cases q3) q3, up _ _ (fun z => by rw [z, p3] at q4; cases q4) q4, q5⟩
/-- a slot's list is given away: from here on nobody changes it -/
theorem DI.freeze (I : DI G b O S env st σ H) (i : Nat) (hx : O.exi ≠ some i) : ∃ S', Same S S' ∧ DI G b (O.less i) S' env st σ H := by
  have hasl : ∀ {j : Nat}, j ≠ i → (O.less i).has j = false → O.has j = false := fun {j} hj h => by
    obtain ⟨g1, g2, g3⟩ := has_false h
    exact has_mk (fun z => g1 (mem_less.mpr ⟨z, hj⟩)) g2 g3
  by_cases hi : i ∈ O.own
  · by_cases he : ∃ d0, env[i]? = some (some d0)
    · obtain ⟨d0, he⟩ := he
      obtain ⟨a, ws, es, p1, p2, p3, p4, p5, p6, p7⟩ := I.own i d0 hi he
      have sm : Same S (upd S a (.lst ws)) := fun c o h => by
        rw [upd_ne (fun z => by rw [z, p4] at h; cases h)]; exact h
      have nw : ∀ c o, upd S a (.lst ws) c = some o → (c = a ∧ o = .lst ws) ∨ S c = some o := fun c o h => by
        by_cases hc : c = a
        · subst hc; rw [upd_same] at h; exact .inl ⟨rfl, (Option.some.inj h).symm⟩
        · rw [upd_ne hc] at h; exact .inr h
      have no : ∀ c, c ≠ a → S c = none → upd S a (.lst ws) c = none := fun c hc h => by rw [upd_ne hc]; exact h
      refine ⟨upd S a (.lst ws), sm, I.len, fun c o h => ?_, I.s0.trans sm, fun c o h => ?_, I.keep, fun j d' h ho => ?_, fun j d' hj h => ?_, fun j k c hj hk e1 e2 q1 q2 => I.dist j k c (mem_less.mp hj).1 (mem_less.mp hk).1 e1 e2 q1 q2, I.sto.known sm fun c hc => no c (fun z => p6 (z ▸ hc)) (I.sto.has hc).1, fun j d' hj h => ?_, fun j hj => ?_⟩
      · rcases nw c o h with ⟨rfl, rfl⟩ | q
        · exact p3
        · exact I.sub c o q
      · rcases nw c o h with ⟨rfl, rfl⟩ | q
        · exact .inr p5
        · exact I.new c o q
      · by_cases hj : j = i
        · subst hj
          rw [he] at h
          have e : d0 = d' := by simpa using h
          subst e
          subst p1
          exact ⟨_, p2, .lst upd_same (p7.mono sm)⟩
        · obtain ⟨w, q1, q2⟩ := I.slot j d' h (hasl hj ho)
          exact ⟨w, q1, q2.mono sm⟩
      · obtain ⟨hj1, hj2⟩ := mem_less.mp hj
        obtain ⟨c, ws', es', q1, q2, q3, q4, q5, q6, q7⟩ := I.own j d' hj1 h
        exact ⟨c, ws', es', q1, q2, q3, no c (fun z => hj2 (by subst z; exact I.dist j i c hj1 hi ⟨_, h⟩ ⟨_, he⟩ q2 p2)) q4, q5, q6, q7.mono sm⟩
      · obtain ⟨y, q1, q2, q3⟩ := I.exc j d' hj h
        exact ⟨y, q1, q2, q3.mono sm⟩
      · obtain ⟨c, ws', es', q1, q2, q3, q4, q5, q6, q7, q8, q9, q10, q11⟩ := I.self_ j hj
        exact ⟨c, ws', es', q1, q2, q3, q4, no _ (show O.slv.1 ≠ a from fun z => by rw [z, p3] at q3; cases q3) q5, no _ (show O.slv.2 ≠ a from fun z => by rw [z, p3] at q4; cases q4) q6, q7, q8, q9, q10, q11.mono sm⟩
    · refine ⟨S, .refl _, I.len, I.sub, I.s0, I.new, I.keep, fun j d' h ho => ?_, fun j d' hj h => I.own j d' (mem_less.mp hj).1 h, fun j k c hj hk e1 e2 q1 q2 => I.dist j k c (mem_less.mp hj).1 (mem_less.mp hk).1 e1 e2 q1 q2, I.sto, I.exc, I.self_⟩
      exact I.slot j d' h (hasl (fun z => he ⟨d', z ▸ h⟩) ho)
  · refine ⟨S, .refl _, I.len, I.sub, I.s0, I.new, I.keep, fun j d' h ho => ?_, fun j d' hj h => I.own j d' (mem_less.mp hj).1 h, fun j k c hj hk e1 e2 q1 q2 => I.dist j k c (mem_less.mp hj).1 (mem_less.mp hk).1 e1 e2 q1 q2, I.sto, I.exc, I.self_⟩
    obtain ⟨g1, g2, g3⟩ := has_false ho
    exact I.slot j d' h (has_mk (fun z => g1 (mem_less.mpr ⟨z, fun y => hi (y ▸ z)⟩)) g2 g3)
end
section
variable {G : Glb} {X : Cx} {W : WX} {Ob : Ow} {OE : Ow → Prop} {O O1 O2 : Ow} {pos : Pos} {s : Stmt} {rest : List Stmt} {m n : MS} {e : Expr} {me : ME}
theorem dss_freeze (i : Nat) (h : DSs G X W Ob OE (O.less i) rest O2 m) (hx : O.exi ≠ some i := by decide) : DSs G X W Ob OE O rest O2 m := by
  obtain ⟨t, p, w⟩ := h.ex
  refine ⟨t, p, fun b S env st σ H D I h => ?_⟩
  obtain ⟨S', sm, I'⟩ := I.freeze i hx
  exact w b S' env st σ H D I' (h.from_ sm)
/-- a new list -/
def PostF (G : Glb) (ad : List Addr) (S H : Hp) (ds : List D) (st : List D) (Q : VK) : Prop := ∀ l vs S' H', Ext ad S H S' H' → Same S' H' → StoOk G ad S' st H' → H' l = none → Reps G ad S' vs ds → Q (.ref l) (upd H' l (.lst vs))
structure DF (G : Glb) (X : Cx) (W : WX) (O : Ow) (e : Expr) (m : MA) : Prop where
  ex : ∃ t, PE X e t ∧ ∀ (b : Act) S env st σ H Q, DI G b O S env st σ H → wpR (m env st) (fun ds st' => PostF G b.ad S H ds st' Q) (fun x st' => PostX G b.ad S H x st' fun c dd H' => W c dd σ H') → t σ H Q
def fits? (ds : List D) : M (List D) := fun st => if ds.length ≤ sizeLine then .ok ds st else .bad
theorem df_lst {es : List Expr} {mr : MA} (h : DA G X W O es mr) : DF G X W O (.List es pos) (mThenA mr fits?) := by
  obtain ⟨t, p, w⟩ := h.ex
  refine ⟨_, pe_lst p, fun b S env st σ H Q I h => w b S env st σ H _ I (wpR_imp (wpR_bind h) (fun ds st1 h1 => ?_) fun _ _ z => z)⟩
  intro xs S1 H1 x1 su1 so1 r1
  unfold fits? at h1
  split at h1
  · rename_i hz
    exact ⟨by rw [r1.len]; exact hz, fun p hp => h1 p xs S1 H1 x1 su1 so1 hp r1⟩
  · exact h1.elim
/-- x = a new list, x's own -/
def mSetF (i : Nat) (m : MA) : MS := fun env st => match m env st with
  | .ok ds st1 => .nx (env.set i (some (.lst ds))) st1
  | .err x st1 => .er x env st1
  | .bad => .bad
theorem ds_own (i : Nat) {x : Str} {pos' : Pos} {ma : MA} (hN : X.N.Nodup) (he : DF G X W O e ma) (hO : OE O := by first | trivial | rfl) (hi : X.N[i]? = some x := by rfl) (ho : O.has i = false := by rfl) (hx : Loc X.env.scope x := by first | exact Or.inl rfl | exact Or.inr rfl)
    (hs : swapsWith e (some (.Name x pos')) pos.line X.env = pure false := by rfl) (hf : X.fn x = true ∨ X.env.scope.names.lookup x = some .local := by first | exact .inl rfl | exact .inr rfl) : DS G X W Ob OE O (.Assign [.Name x pos'] e pos) (O.add i) (mSetF i ma) := by
  obtain ⟨t, p, w⟩ := he.ex
  refine ⟨_, ps_set hN hi hx p hs hf, fun b S env st σ H D I h => w b S env st σ H _ I ?_⟩
  unfold mSetF at h
  cases e1 : ma env st with
  | ok ds st1 =>
    rw [e1] at h
    intro l vs S' H' x' su so hl r
    have I' := I.ext x' su so
    exact h S' _ _ x'.same (I'.own_new hl r ho)
  | err y st1 =>
    rw [e1] at h
    intro cls dd S' H' x' su so r
    exact h cls dd O S' σ H' hO x'.same (I.ext x' su so) r
  | bad => rw [e1] at h; exact h
/-- x.append(e) -/
def mPush (i : Nat) (me : ME) : MS := fun env st => match env[i]? with
  | some (some (.lst ds)) => match me env st with
    | .ok d st1 => if ds.length < sizeLine then .nx (env.set i (some (.lst (ds ++ [d])))) st1 else .bad
    | .err x st1 => .er x env st1
    | .bad => .bad
  | _ => .bad
theorem Reps.snoc {ad : List Addr} {S : Hp} {v : V} {d : D} (r1 : Rep G ad S v d) : ∀ {vs : List V} {ds : List D}, Reps G ad S vs ds → Reps G ad S (vs ++ [v]) (ds ++ [d])
  | _, _, .nil => .cons r1 .nil
  | _, _, .cons h r => .cons h (Reps.snoc r1 r)
theorem ds_push (i : Nat) {x : Str} {p1 p2 cp : Pos} (he : DE G X W O e me) (hO : OE O := by first | trivial | rfl) (hi : X.N[i]? = some x := by rfl) (hm : i ∈ O.own := by decide) (hxi : O.exi ≠ some i := by decide) (hsf : O.slf ≠ some i := by decide) (hv : Vis X.env.scope x := by first | exact Or.inl rfl | exact Or.inr (Or.inl rfl) | exact Or.inr (Or.inr rfl))
    (hd : (x == ("__debug__" : Str)) = false := by decide) (hcd : (x == ("__classdict__" : Str)) = false := by decide)
    (hbase : attributeBase (.Name x p1) "append" X.env (eval (.Name x p1) X.env) = eval (.Name x p1) X.env := by rfl)
    (hfew : ((backTo cp (starEach [e] X.env)).all (fun x => !x.1) && (backToKw cp (keywordEach [] X.env)).all (fun x => x.1.isSome)
      && decide ([e].length + ([] : List Keyword).length + (if ([] : List Keyword).isEmpty then 0 else 1) < 30)) = true := by rfl) (hline : (p2.endLine == cp.line) = true := by rfl)
    (hst : starEach [e] X.env = (false, eval e X.env) :: starEach [] X.env := by rfl) (hpl : (backTo cp (starEach [] X.env)).any (·.1) = false := by rfl)
    (hs : swapsWith (.Call (.Attribute (.Name x p1) "append" p2) [e] [] cp) none pos.line X.env = pure false := by rfl) : DS G X W Ob OE O (.Expr (.Call (.Attribute (.Name x p1) "append" p2) [e] [] cp) pos) O (mPush i me) := by
  obtain ⟨t, p, w⟩ := he.ex
  refine ⟨_, ps_expr (pe_bm PySem.F.plainAttrs_list PySem.F.slot_list_append PySem.F.type_list_append mt_append (pe_var hi hv hd hcd) (pa_cons p pa_nil hst) hbase hfew hline hst hpl) hs, fun b S env st σ H D I h => ?_⟩
  unfold mPush at h
  cases e1 : env[i]? with
  | none => rw [e1] at h; exact h.elim
  | some o => cases o with
    | none => rw [e1] at h; exact h.elim
    | some d0 =>
      obtain ⟨a, ws, es, p1, p2, p3, p4, p5, p6, p7⟩ := I.own i d0 hm e1
      subst p1
      rw [e1] at h
      refine ⟨_, p2, Or.inl ⟨rfl, _, Or.inl (Or.inl p3)⟩, w b S env st σ H _ I ?_⟩
      cases e2 : me env st with
      | ok d st1 =>
        rw [e2] at h
        intro v S' H' x' su so r
        have I' := I.ext x' su so
        obtain ⟨a', ws', es', q1, q2, q3, q4, q5, q6, q7⟩ := I'.own i _ hm e1
        cases q1
        have ea : a' = a := by
          have := q2.symm.trans p2
          simpa using this
        subst ea
        show ∃ l xs y, _
        dsimp only at h
        split at h
        · rename_i hz
          refine ⟨a', ws', v, rfl, rfl, q3, by rw [q7.len]; exact hz, ?_⟩
          exact h S' σ _ x'.same (I'.own_upd hm hxi hsf e1 p2 (Reps.snoc r q7))
        · exact h.elim
      | err y st1 =>
        rw [e2] at h
        intro cls dd S' H' x' su so r
        exact h cls dd O S' σ H' hO x'.same (I.ext x' su so) r
      | bad => rw [e2] at h; exact h.elim
end
section
variable {G : Glb} {X : Cx} {W : WX} {O : Ow} {pos : Pos} {e : Expr} {me : ME}
/-- x[e], x a slot that owns its list -/
theorem de_getO (i : Nat) {x : Str} {p1 : Pos} {b : Expr} {mb : ME} (hb : DE G X W O b mb) (hm : i ∈ O.own := by decide) (hi : X.N[i]? = some x := by rfl) (hv : Vis X.env.scope x := by first | exact Or.inl rfl | exact Or.inr (Or.inl rfl) | exact Or.inr (Or.inr rfl))
    (hd : (x == ("__debug__" : Str)) = false := by decide) (hcd : (x == ("__classdict__" : Str)) = false := by decide) (hs : PlainIx b := by intro _ _; rfl) : DE G X W O (.Subscript (.Name x p1) b pos) (mIx (mVar i) mb) := by
  obtain ⟨tb, pb, w⟩ := hb.ex
  refine ⟨_, pe_ix ix_seq (pe_var hi hv hd hcd) pb hs, fun c S env st σ H Q I h => ?_⟩
  unfold mIx mVar at h
  cases e1 : env[i]? with
  | none => rw [e1] at h; exact h.elim
  | some o => cases o with
    | none => rw [e1] at h; exact h.elim
    | some d0 =>
      obtain ⟨a, ws, es, p1, p2, p3, p4, p5, p6, p7⟩ := I.own i d0 hm e1
      subst p1
      rw [e1] at h
      refine ⟨_, p2, w c S env st σ H _ I ?_⟩
      have h : wpR ((mb env st).bind fun y => ixS (.lst es) y) _ _ := h
      refine wpR_imp (wpR_bind h) (fun dy st1 h1 => ?_) fun _ _ z => z
      intro y S' H' x' su so r
      have I' := I.ext x' su so
      obtain ⟨a', ws', es', q1, q2, q3, q4, q5, q6, q7⟩ := I'.own i _ hm e1
      cases q1
      have ea : a' = a := by
        have := q2.symm.trans p2
        simpa using this
      subst ea
      rw [ixS_other (fun n z => by cases z)] at h1
      obtain ⟨d, e2, q⟩ := wp_ret h1
      have e3 : ∃ k, dy = .int k := by
        cases dy <;> first | exact ⟨_, rfl⟩ | cases e2
      obtain ⟨k, rfl⟩ := e3
      have e2 : atI es k = some d := e2
      cases r with
      | int k =>
        obtain ⟨v, e4, r2⟩ := atI_rep q7 e2
        exact .inl ⟨_, _, _, _, rfl, rfl, SqL.of q3, e4, Post.here su so r2 (Post.from_ x' so q)⟩
/-- len(x), x a slot that owns its list -/
theorem de_lenO (i : Nat) {x : Str} {p0 p1 : Pos} (hg : Gl X "len" := by rfl) (hmg : X.mg "len" = none) (hm : i ∈ O.own := by decide) (hi : X.N[i]? = some x := by rfl) (hv : Vis X.env.scope x := by first | exact Or.inl rfl | exact Or.inr (Or.inl rfl) | exact Or.inr (Or.inr rfl))
    (hd : (x == ("__debug__" : Str)) = false := by decide) (hcd : (x == ("__classdict__" : Str)) = false := by decide)
    (he : starEach [.Name x p1] X.env = (false, eval (.Name x p1) X.env) :: starEach [] X.env := by rfl) (hpl : (backTo pos (starEach [] X.env)).any (·.1) = false := by rfl) : DE G X W O (.Call (.Name "len" p0) [.Name x p1] [] pos) (mCall1 (c1 dLen) (mCons (mVar i) mNil)) := by
  refine ⟨_, pe_callB call_len hg hmg PySem.boot_len (pa_cons (pe_var hi hv hd hcd) pa_nil he) (by decide) (by decide) he hpl, fun c S env st σ H Q I h => ?_⟩
  unfold mCall1 mCons mVar at h
  cases e1 : env[i]? with
  | none => rw [e1] at h; exact h.elim
  | some o => cases o with
    | none => rw [e1] at h; exact h.elim
    | some d0 =>
      obtain ⟨a, ws, es, p1, p2, p3, p4, p5, p6, p7⟩ := I.own i d0 hm e1
      subst p1
      rw [e1] at h
      refine ⟨_, p2, _, ws.length, rfl, .inl ⟨_, SqL.of p3, rfl⟩, ?_⟩
      rw [p7.len]
      exact Post.here I.sub I.sto (.int _) h
end
/-! ### try with one handler, no name -/
def noErS : Out → Out
  | .er _ _ _ => .bad
  | o => o
def mTry1 (cl : Nat → Option Bool) (m ms : MS) : MS := fun env st => match m env st with
  | .er x env1 st1 => match cl x.c with
    | some true => noErS (ms env1 st1)
    | some false => .er x env1 st1
    | none => .bad
  | o => o
section
variable {G : Glb} {X : Cx} {W : WX} {OE : Ow → Prop} {pos pos' np : Pos} {k : Nat}
theorem ds_try1 {own ob : List Nat} {body suite : List Stmt} {b₀ : Stmt} {x : Str} {cv : Value} {m ms : MS} (cl : Nat → Option Bool) (xc : XC k G X W) (xt : XT X) (hc : Names X x cv) (hcl : ∀ c b, cl c = some b → PySem.W.exmOne G.K (.ref (G.cl c)) cv = some b)
    (hb : ∀ (W' : WX) (pn : List (Addr × Obj)) (xe : Value → Shared → Prop), XC k G (X.tr pn xe) W' → XT (X.tr pn xe) → DSs G (X.tr pn xe) W' ⟨ob, none, (0, .none, none), none, (0, 0)⟩ (· = ⟨own, none, (0, .none, none), none, (0, 0)⟩) ⟨own, none, (0, .none, none), none, (0, 0)⟩ body ⟨own, none, (0, .none, none), none, (0, 0)⟩ m)
    (hsu : ∀ (a : Addr) (oe : Obj) (cls : Value) (d : Option Addr) (pn : List (Addr × Obj)), Zc cls d oe → (∃ vs, oe.data = .fields vs) → DSs G (X.suite a ((a, oe) :: pn)) W0 ⟨ob, none, (0, .none, none), none, (0, 0)⟩ (fun _ => True) ⟨own, none, (0, .none, none), none, (0, 0)⟩ (b₀ :: suite) ⟨own, none, (0, .none, none), none, (0, 0)⟩ ms)
    (hO : OE ⟨own, none, (0, .none, none), none, (0, 0)⟩ := by first | trivial | rfl) :
    DS G X W ⟨ob, none, (0, .none, none), none, (0, 0)⟩ OE ⟨own, none, (0, .none, none), none, (0, 0)⟩ (.Try body [.ExceptHandler (some (.Name x np)) none (b₀ :: suite) pos'] [] [] pos) ⟨own, none, (0, .none, none), none, (0, 0)⟩ (mTry1 cl m ms) := by
  refine ⟨_, ps_try_many (Wout := W)
    (tb := fun W' D σ H => ∃ b S env st, DI G b ⟨own, none, (0, .none, none), none, (0, 0)⟩ S env st σ H ∧ PostS G b ⟨ob, none, (0, .none, none), none, (0, 0)⟩ (· = ⟨own, none, (0, .none, none), none, (0, 0)⟩) W' ⟨own, none, (0, .none, none), none, (0, 0)⟩ D S (m env st))
    (l := [(cv, fun _ _ _ D σ H => ∃ b S env st, DI G b ⟨own, none, (0, .none, none), none, (0, 0)⟩ S env st σ H ∧ PostS G b ⟨ob, none, (0, .none, none), none, (0, 0)⟩ (fun _ => True) W0 ⟨own, none, (0, .none, none), none, (0, 0)⟩ D S (ms env st))])
    xt.stk xt.fr xc.tk (fun W' pn xe tk po => ?_) (.cons hc (fun a oe cls d pn hz hf => ?_) .nil), fun b S env st σ H D I h => ?_⟩
  · obtain ⟨t, p, w⟩ := (hb W' pn xe (xc.tr tk po) (xt.tr pn xe)).ex
    exact PSs.imp p fun D σ H ⟨b, S, env, st, I, q⟩ => w b S env st σ H D I q
  · obtain ⟨t, p, w⟩ := (hsu a oe cls d pn hz hf).ex
    exact PSs.imp p fun D σ H ⟨b, S, env, st, I, q⟩ => w b S env st σ H D I q
  · refine ⟨b, S, env, st, I, ?_⟩
    unfold mTry1 at h
    cases e : m env st with
    | nx env1 st1 => rw [e] at h; exact h
    | rt d st1 => rw [e] at h; exact h
    | bk env1 st1 => rw [e] at h; exact h
    | ct env1 st1 => rw [e] at h; exact h
    | bad => rw [e] at h; exact h
    | er x env1 st1 =>
      rw [e] at h
      dsimp only at h
      intro cls dd O' S1 σ1 H1 hO' e1 I1 rx
      subst hO'
      cases ec : cl x.c with
      | none => rw [ec] at h; exact h.elim
      | some bb =>
        rw [ec] at h
        refine ⟨bb, by rw [xc.K, rx.1]; exact hcl _ _ ec, fun hbb a ha => ?_, fun hbb => ?_⟩
        · subst hbb
          dsimp only at h
          refine ⟨b, S1, _, st1, I1, ?_⟩
          cases es : ms env1 st1 with
          | nx env2 st2 =>
            rw [es] at h
            exact fun S2 σ2 H2 e2 I2 => h S2 _ H2 (e1.trans e2) I2
          | rt d st2 => rw [es] at h; exact h
          | bk env2 st2 =>
            rw [es] at h
            exact fun S2 σ2 H2 e2 I2 => h S2 _ H2 (e1.trans e2) I2
          | ct env2 st2 =>
            rw [es] at h
            exact fun S2 σ2 H2 e2 I2 => h S2 _ H2 (e1.trans e2) I2
          | er x2 env2 st2 => rw [es] at h; exact h.elim
          | bad => rw [es] at h; exact h.elim
        · subst hbb
          exact h cls dd _ S1 σ1 H1 hO e1 I1 rx
end
/-! ### slices -/
abbrev MO := Env' → List D → Res (Option Int)
structure DO (G : Glb) (X : Cx) (W : WX) (O : Ow) (e : Option Expr) (m : MO) : Prop where
  ex : ∃ t, PO X e t ∧ ∀ (b : Act) S env st σ H (Q : Option Int → Hp → Prop), DI G b O S env st σ H → wpR (m env st) (fun o st' => ∀ S' H', Ext b.ad S H S' H' → Same S' H' → StoOk G b.ad S' st' H' → Q o H') (fun x st' => PostX G b.ad S H x st' fun c dd H' => W c dd σ H') → t σ H Q
def mNo : MO := fun _ st => .ok none st
def int? (d : D) : M (Option Int) := fun st => match d with
  | .int i => .ok (some i) st
  | _ => .bad
def mPart (m : ME) : MO := fun env st => (m env st).bind int?
def cutD (xs : List D) (lo hi : Option Int) : List D := (xs.drop (HT.sIx xs.length 0 lo)).take (HT.sIx xs.length xs.length hi - HT.sIx xs.length 0 lo)
def dSl (x : D) (lo hi : Option Int) : Option D := match x with
  | .lst xs => some (.lst (cutD xs lo hi))
  | .rol xs => some (.lst (cutD xs lo hi))
  | .tup xs => some (.tup (cutD xs lo hi))
  | _ => none
def mSl (m : ME) (l h : MO) : ME := fun env st => (m env st).bind fun x st1 => (l env st1).bind fun lo st2 => (h env st2).bind fun hi => ret? (dSl x lo hi)
theorem reps_cut {G : Glb} {ad : List Addr} {S : Hp} {vs : List V} {ds : List D} (r : Reps G ad S vs ds) (lo hi : Option Int) : Reps G ad S (cutV vs lo hi) (cutD ds lo hi) := by
  unfold cutV cutD
  rw [r.len]
  exact (r.drop _).take _
theorem cut_whole {xs : List D} {lo hi : Option Int} (h : HT.sIx xs.length 0 lo = 0 ∧ HT.sIx xs.length xs.length hi = xs.length) : cutD xs lo hi = xs := by
  unfold cutD
  rw [h.1, h.2]
  simp
section
variable {G : Glb} {X : Cx} {W : WX} {O : Ow} {pos : Pos} {e : Expr} {me : ME}
theorem do_none : DO G X W O none mNo := ⟨_, po_none, fun b S env st σ H Q I h => h S H (.refl _ _ _) I.sub I.sto⟩
theorem do_some (he : DE G X W O e me) : DO G X W O (some e) (mPart me) := by
  obtain ⟨t, p, w⟩ := he.ex
  refine ⟨_, po_some p, fun b S env st σ H Q I h => w b S env st σ H _ I (wpR_imp (wpR_bind h) (fun d st1 h1 => ?_) fun _ _ z => z)⟩
  intro v S' H' x su so r
  cases r <;> first | exact h1.elim | exact ⟨_, rfl, h1 S' H' x su so⟩
theorem de_slice {lo hi : Option Expr} {ml mh : MO} {p2 : Pos} (hK : X.K = G.K) (he : DE G X W O e me) (hl : DO G X W O lo ml) (hh : DO G X W O hi mh) : DE G X W O (.Subscript e (.Slice lo hi none p2) pos) (mSl me ml mh) := by
  obtain ⟨t, p, w⟩ := he.ex
  obtain ⟨tl, pl, wl⟩ := hl.ex
  obtain ⟨th, ph, wh⟩ := hh.ex
  refine ⟨_, pe_slice (SlR.or sl_list sl_tupA) p pl ph, fun b S env st σ H Q I h => w b S env st σ H _ I (wpR_imp (wpR_bind h) (fun d st1 h1 => ?_) fun _ _ z => z)⟩
  intro v S1 H1 x1 su1 so1 r1
  have I1 := I.ext x1 su1 so1
  refine wl b S1 env st1 σ H1 _ I1 (wpR_imp (wpR_bind h1) (fun l st2 h2 => ?_) fun _ _ z => z.from_ x1 so1)
  intro S2 H2 x2 su2 so2
  have x12 := x1.trans so1 x2
  have I2 := I1.ext x2 su2 so2
  refine wh b S2 env st2 σ H2 _ I2 (wpR_imp (wpR_bind h2) (fun u st3 h3 => ?_) fun _ _ z => z.from_ x12 so2)
  intro S3 H3 x3 su3 so3
  have x13 := x12.trans so2 x3
  have r3 := (r1.mono x2.same).mono x3.same
  obtain ⟨d', e1, q⟩ := wp_ret h3
  have q' := Post.from_ x13 so3 q
  cases r3 with
  | lst h4 r4 =>
    cases e1
    exact .inl ⟨_, _, rfl, SqL.of (su3 _ _ h4), fun p hp => Post.lst su3 so3 hp (reps_cut r4 _ _) q'⟩
  | rol h4 r4 =>
    cases e1
    exact .inl ⟨_, _, rfl, hK ▸ su3.seq h4, fun p hp => Post.lst su3 so3 hp (reps_cut r4 _ _) q'⟩
  | tup h4 r4 =>
    cases e1
    refine .inr ⟨_, _, rfl, hK ▸ Same.sqT su3 h4.sqT, fun hw => ?_, fun _ p hp => Post.tup su3 so3 hp (reps_cut r4 _ _) q'⟩
    rw [r4.len] at hw
    rw [cut_whole hw] at q'
    exact Post.here su3 so3 (.tup h4 r4) q'
  | _ => cases e1
end
end DL

/-! DL, twelfth part: own classes: fields, making, methods. -/
namespace DL
open PySem PySem.Spec PyProof.Rows L2
/-- the classes' fields -/
def FldT (G : Glb) (okF : Nat → Str → Bool) : Prop := ∀ c f, okF c f = true → Cls G.K (G.cl c) ∧ NoAttr G.K (G.cl c) f
def putD (f : Str) (d : D) : List (Str × D) → List (Str × D)
  | [] => [(f, d)]
  | (g, x) :: r => if g = f then (g, d) :: r else (g, x) :: putD f d r
theorem RepF.put {G : Glb} {ad : List Addr} {S : Hp} {f : Str} {v : V} {d : D} (h : Rep G ad S v d) : ∀ {vs : List (Str × V)} {fs : List (Str × D)}, RepF G ad S vs fs → RepF G ad S (putF f v vs) (putD f d fs)
  | _, _, .nil => .cons h .nil
  | _, _, .cons (f := g) h1 r => by
    unfold putF putD
    by_cases e : g = f
    · rw [if_pos e, if_pos e]; exact .cons h r
    · rw [if_neg e, if_neg e]; exact .cons h1 (RepF.put h r)
theorem RepF.len {G : Glb} {ad : List Addr} {S : Hp} : ∀ {vs : List (Str × V)} {fs : List (Str × D)}, RepF G ad S vs fs → vs.length = fs.length
  | _, _, .nil => rfl
  | _, _, .cons _ r => congrArg (· + 1) r.len
def selfO (x dx : Addr) : Ow := { slf := some 0, slv := (x, dx) }
def dFld (okF : Nat → Str → Bool) (f : Str) (d : D) : Option D := match d with
  | .obj c fs => if okF c f = true then fs.lookup f else none
  | _ => none
def mFld (okF : Nat → Str → Bool) (f : Str) (me : ME) : ME := fun env st => (me env st).bind fun d => ret? (dFld okF f d)
def mFldS (okF : Nat → Str → Bool) (f : Str) (me : ME) : MS := mDo me fun d env st => match env[0]? with
  | some (some (D.obj c fs)) => if okF c f = true ∧ fs.length < 1000 then .nx (env.set 0 (some (.obj c (putD f d fs)))) st else .bad
  | _ => .bad
/-- __init__ from its body -/
def initM (c n : Nat) (m : MS) : List D → M D := fun ds st => match m (some (.obj c []) :: (ds.map some ++ List.replicate (n - 1 - ds.length) none)) st with
  | .nx env st1 => match env[0]? with
    | some (some d) => .ok d st1
    | _ => .bad
  | .er x _ st1 => .err x st1
  | _ => .bad
def spI (G : Glb) (c n : Nat) (m : List D → M D) : Sp := fun vs H Q E => ∃ (b : Act) (ds : List D) (st : List D) (x dx : Addr) (ws : List V), vs = .ref x :: ws ∧ H = upd (upd b.H dx (.own x)) x (.ins (G.cl c) dx []) ∧ b.H x = none ∧ b.H dx = none ∧ dx ≠ x ∧
  ws.length = n ∧ Same b.S b.H ∧ StoOk G b.ad b.S st b.H ∧ Reps G b.ad b.S ws ds ∧
  wpR (m ds st) (fun d st' => ∀ S' H', Ext b.ad b.S b.H S' H' → Same S' H' → StoOk G b.ad S' st' H' → Rep G b.ad S' (.ref x) d → Q .non H') (fun e st' => PostX G b.ad b.S b.H e st' E)
section
variable {G : Glb} {b : Act} {O : Ow} {S H : Hp} {env : Env'} {st : List D} {σ : L2.St}
/-- an object begins -/
theorem DI.born {c : Nat} {x dx : Addr} (I : DI G b {} S env st σ H) (hx : H x = none) (hd : H dx = none) (hne : dx ≠ x) (hl : 0 < env.length) :
    DI G b (selfO x dx) S (env.set 0 (some (.obj c []))) st (σ.set 0 (some (.ref x))) (upd (upd H dx (.own x)) x (.ins (G.cl c) dx [])) := by
  have up : ∀ a o, H a = some o → upd (upd H dx (.own x)) x (.ins (G.cl c) dx []) a = some o := fun a o h => by
    rw [upd_ne (fun z => by rw [z, hx] at h; cases h), upd_ne (fun z => by rw [z, hd] at h; cases h)]; exact h
  have fr : ∀ a, H a = none → S a = none ∧ b.H a = none ∧ a ∉ b.ad := fun a ha => by
    have na : a ∉ b.ad := fun z => by
      obtain ⟨_, vs', hv⟩ := I.sto.has z
      rw [ha] at hv; cases hv
    refine ⟨?_, ?_, na⟩
    · cases e : S a with
      | none => rfl
      | some o => have := I.sub a o e; rw [ha] at this; cases this
    · cases e : b.H a with
      | none => rfl
      | some o => have := I.keep a o e na; rw [ha] at this; cases this
  obtain ⟨x1, x2, x3⟩ := fr x hx
  obtain ⟨y1, y2, y3⟩ := fr dx hd
  refine ⟨by rw [List.length_set, List.length_set]; exact I.len, fun a o h => up a o (I.sub a o h), I.s0, I.new, fun a o h ha => up a o (I.keep a o h ha), fun j d' h ho => ?_, fun j d' hj => (by cases hj), fun j k a hj => (by cases hj), I.sto.grow fun a o _ h => up a o h, fun j d' hj => (by cases hj), fun j hj => ?_⟩
  · have hj : j ≠ 0 := fun z => by subst z; cases ho
    rw [List.getElem?_set_ne (Ne.symm hj)] at h
    obtain ⟨w, q1, q2⟩ := I.slot j d' h rfl
    exact ⟨w, by rw [List.getElem?_set_ne (Ne.symm hj)]; exact q1, q2⟩
  · have e : 0 = j := Option.some.inj hj
    subst e
    refine ⟨c, [], [], List.getElem?_set_self hl, List.getElem?_set_self (by rw [I.len]; exact hl), upd_same, ?_, x1, y1, x2, y2, x3, y3, .nil⟩
    exact (upd_ne hne).trans upd_same
/-- a field of the object that is being made -/
theorem DI.fld {x dx : Addr} {v : V} {d : D} {f : Str} {c : Nat} {fs : List (Str × D)} {vs : List (Str × V)} (I : DI G b (selfO x dx) S env st σ H) (he : env[0]? = some (some (.obj c fs))) (hh : H x = some (.ins (G.cl c) dx vs)) (rf : RepF G b.ad S vs fs) (r : Rep G b.ad S v d) :
    DI G b (selfO x dx) S (env.set 0 (some (.obj c (putD f d fs)))) st σ (upd H x (.ins (G.cl c) dx (putF f v vs))) := by
  obtain ⟨c', vs', fs', q1, q2, q3, q4, q5, q6, q7, q8, q9, q10, q11⟩ := I.self_ 0 rfl
  have hl : 0 < env.length := (List.getElem?_eq_some_iff.mp he).1
  have up : ∀ a o, a ≠ x → H a = some o → upd H x (.ins (G.cl c) dx (putF f v vs)) a = some o := fun a o ha h => by rw [upd_ne ha]; exact h
  have q5 : S x = none := q5
  have q7 : b.H x = none := q7
  have q9 : x ∉ b.ad := q9
  have q4 : H dx = some (.own x) := q4
  refine ⟨by rw [List.length_set]; exact I.len, fun a o h => up a o (fun z => by rw [z, q5] at h; cases h) (I.sub a o h), I.s0, I.new, fun a o h ha => up a o (fun z => by rw [z, q7] at h; cases h) (I.keep a o h ha), fun j d' h ho => ?_, fun j d' hj => (by cases hj), fun j k a hj => (by cases hj), I.sto.grow fun a o ha h => up a o (fun z => q9 (z ▸ ha)) h, fun j d' hj => (by cases hj), fun j hj => ?_⟩
  · have hj : j ≠ 0 := fun z => by subst z; cases ho
    rw [List.getElem?_set_ne (Ne.symm hj)] at h
    exact I.slot j d' h ho
  · have e : 0 = j := Option.some.inj hj
    subst e
    refine ⟨c, _, _, List.getElem?_set_self hl, q2, upd_same, up _ _ (fun z => ?_) q4, q5, q6, q7, q8, q9, q10, rf.put r⟩
    rw [show (selfO x dx).slv.2 = dx from rfl] at z
    rw [z, hh] at q4; cases q4
end
section
variable {G : Glb} {X : Cx} {W : WX} {Ob : Ow} {OE : Ow → Prop} {O : Ow} {pos pos' : Pos} {e : Expr} {me : ME} {okF : Nat → Str → Bool}
/-- e.f -/
theorem de_fld {f : Str} (hK : X.K = G.K) (T : FldT G okF) (he : DE G X W O e me) (hb : attributeBase e f X.env (eval e X.env) = eval e X.env := by rfl) : DE G X W O (.Attribute e f pos) (mFld okF f me) := by
  obtain ⟨t, p, w⟩ := he.ex
  refine ⟨_, pe_fld p hb, fun b S env st σ H Q I h => w b S env st σ H _ I (wpR_imp (wpR_bind h) (fun d st1 h1 => ?_) fun _ _ z => z)⟩
  intro v S1 H1 x1 su1 so1 r1
  obtain ⟨d', e1, q⟩ := wp_ret h1
  cases r1 with
  | obj h2 r2 =>
    rename_i a dx c vs fs
    have e1 : (if okF c f = true then fs.lookup f else none) = some d' := e1
    split at e1
    · rename_i ok
      obtain ⟨g1, g2⟩ := T c f ok
      obtain ⟨v, l, r3⟩ := r2.look e1
      exact ⟨_, _, _, _, _, rfl, su1 _ _ h2, hK ▸ g1, hK ▸ g2, l, Post.here su1 so1 r3 (Post.from_ x1 so1 q)⟩
    · cases e1
  | _ => cases e1
/-- self.f, in __init__ -/
theorem de_fldS {f : Str} {x dx : Addr} {y : Str} {p1 : Pos} (hK : X.K = G.K) (T : FldT G okF) (hi : X.N[0]? = some y := by rfl) (hv : Vis X.env.scope y := by first | exact Or.inl rfl | exact Or.inr (Or.inl rfl) | exact Or.inr (Or.inr rfl))
    (hd : (y == ("__debug__" : Str)) = false := by decide) (hcd : (y == ("__classdict__" : Str)) = false := by decide) (hb : attributeBase (.Name y p1) f X.env (eval (.Name y p1) X.env) = eval (.Name y p1) X.env := by rfl) :
    DE G X W (selfO x dx) (.Attribute (.Name y p1) f pos) (mFld okF f (mVar 0)) := by
  refine ⟨_, pe_fld (pe_var hi hv hd hcd) hb, fun b S env st σ H Q I h => ?_⟩
  obtain ⟨c, vs, fs, q1, q2, q3, q4, q5, q6, q7, q8, q9, q10, q11⟩ := I.self_ 0 rfl
  unfold mFld mVar at h
  rw [q1] at h
  have h : wpR (ret? (dFld okF f (.obj c fs)) st) _ _ := h
  obtain ⟨d', e1, q⟩ := wp_ret h
  have e1 : (if okF c f = true then fs.lookup f else none) = some d' := e1
  split at e1
  · rename_i ok
    obtain ⟨g1, g2⟩ := T c f ok
    obtain ⟨v, l, r3⟩ := q11.look e1
    exact ⟨_, q2, _, _, _, _, _, rfl, q3, hK ▸ g1, hK ▸ g2, l, Post.here I.sub I.sto r3 q⟩
  · cases e1
/-- self.f = e, in __init__ -/
theorem ds_fldS {f : Str} {x dx : Addr} {y : Str} {p1 : Pos} (hK : X.K = G.K) (T : FldT G okF) (he : DE G X W (selfO x dx) e me) (hO : OE (selfO x dx) := by first | trivial | rfl) (hi : X.N[0]? = some y := by rfl) (hv : Vis X.env.scope y := by first | exact Or.inl rfl | exact Or.inr (Or.inl rfl) | exact Or.inr (Or.inr rfl))
    (hd : (y == ("__debug__" : Str)) = false := by decide) (hcd : (y == ("__classdict__" : Str)) = false := by decide) (hs : swapsWith e (some (.Attribute (.Name y p1) f pos')) pos.line X.env = pure false := by rfl) :
    DS G X W Ob OE (selfO x dx) (.Assign [.Attribute (.Name y p1) f pos'] e pos) (selfO x dx) (mFldS okF f me) := by
  obtain ⟨t, p, w⟩ := he.ex
  refine ⟨_, ps_fld (pe_var hi hv hd hcd) p hs, fun b S env st σ H D I h => do_part hO w I h fun v d S' H' st' I' r q => ?_⟩
  obtain ⟨c, vs, fs, q1, q2, q3, q4, q5, q6, q7, q8, q9, q10, q11⟩ := I'.self_ 0 rfl
  rw [q1] at q
  dsimp only at q
  split at q
  · rename_i ok
    obtain ⟨g1, g2⟩ := T c f ok.1
    exact ⟨_, q2, _, _, _, _, rfl, q3, hK ▸ g1, hK ▸ g2, by rw [q11.len]; exact ok.2, q S' σ _ (.refl _) (I'.fld q1 q3 q11 r)⟩
  · exact q.elim
end
section
variable {P : Program} {w : World} {K : PySem.W.Frag} {mg : Str → Option Value} {base : Heap}
/-- __init__ -/
theorem fnI {G : Glb} {x0 qual : Str} {st : Stmt} {f : Addr} {fd : FuncData} {N ps : List Str} {c k n : Nat} {m : MS} (F : Fun K x0 qual st f fd) (S : FnScope N ps (defScope st)) (hK : K = G.K) (hps : ps.length = n + 1) (hN : ps.length ≤ N.length)
    (hbody : ∀ (x dx : Addr) (cdv : Value) (A : Around) (outer : List Env) (s : Shared) (H : Hp) (E : XK), XC k G (cxOf (L2.CX P w) P w K mg base N qual (defScope st) f cdv A outer s H E) (fun cls d _ H' => E cls d H') → XT (cxOf (L2.CX P w) P w K mg base N qual (defScope st) f cdv A outer s H E) →
      DSs G (cxOf (L2.CX P w) P w K mg base N qual (defScope st) f cdv A outer s H E) (fun cls d _ H' => E cls d H') (selfO x dx) (fun _ => True) (selfO x dx) (defBody st) (selfO x dx) m) :
    FnOk P w K mg base (L2.CX P w) (k + 1) f fd ps (spI G c n (initM c N.length m)) := by
  refine F.okX S (fun vs H Q E h => ?_) fun cdv A outer s H vs Q E hr h => ?_
  · obtain ⟨b, ds, st0, x, dx, ws, rfl, _, _, _, _, hl, _⟩ := h
    rw [List.length_cons, hl, hps]
  · obtain ⟨b, ds, st0, x, dx, ws, rfl, rfl, hx, hd, hne, hl, hs, so, r, h⟩ := h
    have xc : XC k G (cxOf (L2.CX P w) P w K mg base N qual (defScope st) f cdv A outer s (upd (upd b.H dx (.own x)) x (.ins (G.cl c) dx [])) E) (fun cls d _ H' => E cls d H') :=
      { tk := takes_of rfl rfl rfl rfl, po := passes_of rfl, calm := rfl, hr := hr, K := hK }
    obtain ⟨t, p, wt⟩ := (hbody x dx cdv A outer s _ E xc ⟨rfl, rfl⟩).ex
    refine ⟨t, p, ?_⟩
    have I0 := DI.start (n := N.length - 1 - ws.length) hs so (.cons (.non) r)
    have I1 := I0.born (c := c) hx hd hne (by simp)
    have e1 : N.length - 1 - ws.length = N.length - 1 - ds.length := by rw [r.len]
    have e2 : start N (V.ref x :: ws) = ((V.non :: ws).map some ++ List.replicate (N.length - 1 - ws.length) none).set 0 (some (.ref x)) := by
      show (V.ref x :: ws).map some ++ List.replicate (N.length - (V.ref x :: ws).length) none = _
      rw [List.length_cons, show N.length - (ws.length + 1) = N.length - 1 - ws.length by omega]
      rfl
    rw [e2]
    refine wt b b.S _ st0 _ _ _ I1 ?_
    have e3 : ((D.non :: ds).map some ++ List.replicate (N.length - 1 - ws.length) none).set 0 (some (.obj c [])) = some (.obj c []) :: (ds.map some ++ List.replicate (N.length - 1 - ds.length) none) := by
      rw [e1]; rfl
    rw [e3]
    unfold initM at h
    cases e : m (some (.obj c []) :: (ds.map some ++ List.replicate (N.length - 1 - ds.length) none)) st0 with
    | nx env st1 =>
      rw [e] at h
      intro S1 σ1 H1 _ I2
      obtain ⟨c', vs', fs', q1, q2, q3, q4, q5, q6, q7, q8, q9, q10, q11⟩ := I2.self_ 0 rfl
      have q3 : H1 x = some (.ins (G.cl c') dx vs') := q3
      have q5 : S1 x = none := q5
      have q7 : b.H x = none := q7
      have q9 : x ∉ b.ad := q9
      dsimp only at h
      rw [q1] at h
      have sm : Same S1 (upd S1 x (.ins (G.cl c') dx vs')) := fun a o ha => by
        rw [upd_ne (fun z => by rw [z, q5] at ha; cases ha)]; exact ha
      have nw : ∀ a o, upd S1 x (.ins (G.cl c') dx vs') a = some o → (a = x ∧ o = .ins (G.cl c') dx vs') ∨ S1 a = some o := fun a o ha => by
        by_cases hc : a = x
        · subst hc; rw [upd_same] at ha; exact .inl ⟨rfl, (Option.some.inj ha).symm⟩
        · rw [upd_ne hc] at ha; exact .inr ha
      have h : ∀ S' H', Ext b.ad b.S b.H S' H' → Same S' H' → StoOk G b.ad S' st1 H' → Rep G b.ad S' (.ref x) (.obj c' fs') → Q .non H' := h
      refine h (upd S1 x (.ins (G.cl c') dx vs')) H1 ⟨I2.s0.trans sm, fun a o ha => ?_, I2.keep⟩ (fun a o ha => ?_) (I2.sto.known sm fun a ha => ?_) (.obj upd_same (q11.mono sm))
      · rcases nw a o ha with ⟨rfl, _⟩ | z
        · exact .inr q7
        · exact I2.new a o z
      · rcases nw a o ha with ⟨rfl, rfl⟩ | z
        · exact q3
        · exact I2.sub a o z
      · rw [upd_ne (show a ≠ x from fun z => q9 (z ▸ ha))]
        exact (I2.sto.has ha).1
    | rt d st1 => rw [e] at h; exact h.elim
    | bk env st1 => rw [e] at h; exact h.elim
    | ct env st1 => rw [e] at h; exact h.elim
    | er y env st1 =>
      rw [e] at h
      intro cls dd O' S1 σ1 H1 _ _ I2 rx
      exact h cls dd S1 H1 I2.fin I2.sub I2.sto rx
    | bad => rw [e] at h; exact h.elim
end
/-! ### making, methods -/
section
variable {X : Cx} {CX : CXT} {k : Nat} {f C : Addr} {fd : FuncData} {ps : List Str} {sp : Sp} {E : L2.St → XK} {x m : Str} {p pos apos : Pos} {e o : Expr} {es : List Expr} {ta : TE} {t : TA} {ds : List Value} {dvs : List V}
theorem make_run {pins : List (Addr × Obj)} {σ : L2.St} {H : Hp} {s : Shared} {Q : VK} {us : List Value} {vs : List V} (mk : Mk X.K C f) (fo : FnOk X.prog X.w X.K X.mg X.base CX k f fd ps sp) (rm : Room (k + 1) X.A) (bn : Binds X.K fd ps ds) (dv : Vals dvs ds) (pa : PassesAt CX X σ (E σ))
    (J : Inv X pins σ H s) (rv : Vals vs us) (h : ∀ a da, H a = none → H da = none → da ≠ a → sp (.ref a :: (vs ++ dvs)) (upd (upd H da (.own a)) a (.ins C da [])) (fun v H2 => v = .non ∧ Q (.ref a) H2) (E σ)) :
    wpAny (model X.prog X.w) X.A (call (.ref C) us) (EP X pins σ Q) X.xe s := by
  obtain ⟨n, hn⟩ : ∃ n, n = s.heap.objs.size := ⟨_, rfl⟩
  have goal1 := h (n + 1) n (J.hok.fresh (by rw [hn]; exact Nat.le_succ _)) (J.hok.fresh (by rw [hn]; exact Nat.le_refl _)) (Nat.ne_of_lt (Nat.lt_succ_self n))
  subst hn
  have J2 := Inv.made (C := C) J
  have all : Vals (V.ref (s.heap.objs.size + 1) :: (vs ++ dvs)) (Value.ref (s.heap.objs.size + 1) :: (us ++ ds)) := .cons rfl (rv.append dv)
  have count : (Value.ref (s.heap.objs.size + 1) :: us ++ ds).length = ps.length := by
    rw [show Value.ref (s.heap.objs.size + 1) :: us ++ ds = Value.ref (s.heap.objs.size + 1) :: (us ++ ds) from rfl, ← all.length]
    exact fo.len _ _ _ _ goal1
  have run := fo.run _ X.stack _ _ ⟨Value.ref (s.heap.objs.size + 1) :: us, []⟩ (Value.ref (s.heap.objs.size + 1) :: (us ++ ds)) _ _ (E σ) (rm.make C us []) (J2.env0.make C us []) (bn _ (Value.ref (s.heap.objs.size + 1) :: us) J2.kIn count) all goal1
  refine wpAny_call (make_map (f := f) J.kIn mk.makes mk.init (beq_iff_eq.mp mk.fn) (codeAny_mono run fun r s' got => ?_))
  cases r with
  | error y => exact pa pins _ _ y s' J2 got
  | ok fl =>
    cases fl with
    | ret u =>
      obtain ⟨v, H', J3, r1, z, q⟩ := J2.after got
      subst z
      exact ⟨r1, ⟨V.ref (s.heap.objs.size + 1), H', J3, rfl, q⟩⟩
    | next => exact got.elim
    | brk => exact got.elim
    | cont => exact got.elim
def tMakeE (C : Addr) (sp : Sp) (dvs : List V) (E : L2.St → XK) (t : TA) : TE := fun σ H Q => t σ H fun vs H1 => ∀ a da, H1 a = none → H1 da = none → da ≠ a → sp (.ref a :: (vs ++ dvs)) (upd (upd H1 da (.own a)) a (.ins C da [])) (fun v H2 => v = .non ∧ Q (.ref a) H2) (E σ)
theorem pe_makeE (mk : Mk X.K C f) (fo : FnOk X.prog X.w X.K X.mg X.base CX k f fd ps sp) (rm : Room (k + 1) X.A) (hg : Gl X x) (hm : X.mg x = some (.ref C)) (bn : Binds X.K fd ps ds) (dv : Vals dvs ds) (pa : ∀ σ, PassesAt CX X σ (E σ))
    (ar : PA X (e :: es) t) (hdb : (x == ("__debug__" : Str)) = false := by decide) (he : starEach (e :: es) X.env = (false, eval e X.env) :: starEach es X.env := by rfl) (hpl : (backTo pos (starEach es X.env)).any (·.1) = false := by rfl) :
    PE X (.Call (.Name x p) (e :: es) [] pos) (tMakeE C sp dvs E t) :=
  ⟨fun pins s σ H Q J h => wpAny_Call_Name_kw (ld_glob J hg hm (PySem.W.callWith_K (h₀ := X.base) J.ok.mod.kin mk.kp (thn (ar.run pos pins s σ H _ J h) fun us s1 ⟨vs, H1, J1, r, q⟩ => ⟨J1.kIn, make_run mk fo rm bn dv (pa σ) J1 r q⟩) he hpl) hdb)⟩
def tMethE (C : Addr) (m : Str) (sp : Sp) (dvs : List V) (E : L2.St → XK) (ta : TE) (t : TA) : TE := fun σ H Q => ta σ H fun x H1 => ∃ a dx fs, x = .ref a ∧ H1 a = some (.ins C dx fs) ∧ fs.lookup m = none ∧ t σ H1 fun vs H2 => sp (x :: (vs ++ dvs)) H2 Q (E σ)
theorem pe_methE {pl : Sem Bool} (ho : PE X o ta) (c : Cls X.K C) (mt : Meth X.K C m f) (fo : FnOk X.prog X.w X.K X.mg X.base CX k f fd ps sp) (rm : Room k X.A) (bn : Binds X.K fd ps ds) (dv : Vals dvs ds) (pa : ∀ σ, PassesAt CX X σ (E σ)) (ar : PA X (e :: es) t)
    (hst : starEach (e :: es) X.env = (false, eval e X.env) :: starEach es X.env := by rfl) (hpl : (backTo pos (starEach es X.env)).any (·.1) = false := by rfl)
    (hev : eval (.Call (.Attribute o m apos) (e :: es) [] pos) X.env = (do
      let obj ← eval o X.env
      standAt apos.atName
      let (g, fst) ← holding [obj] (getMethod obj m pl)
      callWith pos g fst (backTo pos (starEach (e :: es) X.env)) (backToKw pos (keywordEach [] X.env))) := by rfl) : PE X (.Call (.Attribute o m apos) (e :: es) [] pos) (tMethE C m sp dvs E ta t) := by
  constructor
  intro pins s σ H Q J h
  refine PySem.W.methodCall_KW (pl := pl) (thn (ho.run pins s σ H _ J h) fun u s1 got => ?_) hev
  obtain ⟨x, H1, J1, rx, a, dx, fs, rfl, ea, l, q⟩ := got
  cases rx
  refine getmeth_ok J1 ea c mt l (PySem.W.callWith_K (first := [.ref a]) (h₀ := X.base) J.ok.mod.kin mt.kp (thn (ar.run pos pins s1 σ H1 _ J1 q) fun us s2 got => ?_) hst hpl)
  obtain ⟨vs, H2, J2, r, q2⟩ := got
  exact ⟨J2.kIn, run_fnSD (us := .ref a :: us) (vs := .ref a :: vs) fo rm bn dv (pa σ) J2 (.cons rfl r) q2⟩
theorem pe_methE0 {pl : Sem Bool} (ho : PE X o ta) (c : Cls X.K C) (mt : Meth X.K C m f) (fo : FnOk X.prog X.w X.K X.mg X.base CX k f fd ps sp) (rm : Room k X.A) (bn : Binds X.K fd ps ds) (dv : Vals dvs ds) (pa : ∀ σ, PassesAt CX X σ (E σ))
    (hev : eval (.Call (.Attribute o m apos) [] [] pos) X.env = (do
      let obj ← eval o X.env
      standAt apos.atName
      let (g, fst) ← holding [obj] (getMethod obj m pl)
      callWith pos g fst (backTo pos (starEach [] X.env)) (backToKw pos (keywordEach [] X.env))) := by rfl) : PE X (.Call (.Attribute o m apos) [] [] pos) (tMethE C m sp dvs E ta tNil) := by
  constructor
  intro pins s σ H Q J h
  refine PySem.W.methodCall_KW (pl := pl) (thn (ho.run pins s σ H _ J h) fun u s1 got => ?_) hev
  obtain ⟨x, H1, J1, rx, a, dx, fs, rfl, ea, l, q⟩ := got
  cases rx
  exact getmeth_ok J1 ea c mt l (PySem.W.callWith_K0 (first := [.ref a]) J1.kIn mt.kp (run_fnSD (us := [.ref a]) (vs := [.ref a]) fo rm bn dv (pa σ) J1 (.cons rfl .nil) q))
end
def mCallD (f : List D → M D) (dds : List D) (ma : MA) : ME := fun env st => (ma env st).bind fun ds => f (ds ++ dds)
def mMeth (ci : Nat) (name : Str) (f : List D → M D) (mo : ME) (ma : MA) : ME := fun env st => (mo env st).bind fun d st1 => match d with
  | .obj c fs => if c = ci ∧ fs.lookup name = none then (ma env st1).bind fun ds => f (d :: ds) else .bad
  | _ => .bad
section
variable {G : Glb} {X : Cx} {W : WX} {O : Ow} {pos p apos : Pos} {x name : Str} {e o : Expr} {es : List Expr} {ma : MA} {mo : ME} {k j n n' : Nat} {f : Addr} {fd : FuncData} {ps : List Str} {m : List D → M D} {ci : Nat} {dl : List Value} {dvs : List V} {dds : List D}
theorem de_make (c : XC k G X W) (mk : Mk X.K (G.cl ci) f) (F : FnOk X.prog X.w X.K X.mg X.base (L2.CX X.prog X.w) j f fd ps (spI G ci n m)) (hm : X.mg x = some (.ref (G.cl ci))) (hb : Binds X.K fd ps dl) (hd : Vals dvs dl) (rd : ∀ ad S, Reps G ad S dvs dds) (ha : DA G X W O (e :: es) ma)
    (hjk : j + 1 ≤ k := by decide) (hln : Len ma n') (hn : n' + dds.length = n := by rfl) (hg : Gl X x := by rfl) (hdb : (x == ("__debug__" : Str)) = false := by decide) (he : starEach (e :: es) X.env = (false, eval e X.env) :: starEach es X.env := by rfl) (hpl : (backTo pos (starEach es X.env)).any (·.1) = false := by rfl) :
    DE G X W O (.Call (.Name x p) (e :: es) [] pos) (mCallD m dds ma) := by
  obtain ⟨t, pa, w⟩ := ha.ex
  refine ⟨_, pe_makeE mk F (c.hr.mono hjk) hg hm hb hd (fun σ => passAt c.tk σ) pa hdb he hpl, fun b S env st σ H Q I h => w b S env st σ H _ I ?_⟩
  have h' := wpR_bind h
  cases ea : ma env st with
  | ok ds st1 =>
    rw [ea] at h'
    intro vs S1 H1 x1 su1 so1 r1 a da h1 h2 h3
    have h' : wpR (m (ds ++ dds) st1) _ _ := h'
    refine ⟨⟨S1, H1, b.ad⟩, ds ++ dds, st1, a, da, vs ++ dvs, rfl, rfl, h1, h2, h3, ?_, su1, so1, r1.append (rd _ _), wpR_imp h' (fun d st2 z S' H' x2 su2 so2 r2 => ⟨rfl, ?_⟩) fun _ _ z => z.from_ x1 so1⟩
    · rw [List.length_append, r1.len, hln env st ds st1 ea, (rd b.ad S1).len]; exact hn
    · exact (Post.from_ x1 so1 z) (.ref a) S' H' x2 su2 so2 r2
  | err x st1 => rw [ea] at h'; exact h'
  | bad => rw [ea] at h'; exact h'.elim
theorem de_meth {pl : Sem Bool} (c : XC k G X W) (hc : Cls G.K (G.cl ci)) (mt : Meth G.K (G.cl ci) name f) (F : FnOk X.prog X.w X.K X.mg X.base (L2.CX X.prog X.w) j f fd ps (spD G n m)) (hb : Binds X.K fd ps []) (ho : DE G X W O o mo) (ha : DA G X W O (e :: es) ma)
    (hjk : j ≤ k := by decide) (hln : Len ma n') (hn : n' + 1 = n := by rfl) (hst : starEach (e :: es) X.env = (false, eval e X.env) :: starEach es X.env := by rfl) (hpl : (backTo pos (starEach es X.env)).any (·.1) = false := by rfl)
    (hev : eval (.Call (.Attribute o name apos) (e :: es) [] pos) X.env = (do
      let obj ← eval o X.env
      standAt apos.atName
      let (g, fst) ← holding [obj] (getMethod obj name pl)
      callWith pos g fst (backTo pos (starEach (e :: es) X.env)) (backToKw pos (keywordEach [] X.env))) := by rfl) : DE G X W O (.Call (.Attribute o name apos) (e :: es) [] pos) (mMeth ci name m mo ma) := by
  obtain ⟨to, po, wo⟩ := ho.ex
  obtain ⟨t, pa, w⟩ := ha.ex
  have hK := c.K
  refine ⟨_, pe_methE (pl := pl) po (hK ▸ hc) (hK ▸ mt) F (c.hr.mono hjk) hb (dvs := []) .nil (fun σ => passAt c.tk σ) pa hst hpl hev, fun b S env st σ H Q I h => wo b S env st σ H _ I (wpR_imp (wpR_bind h) (fun d st1 h1 => ?_) fun _ _ z => z)⟩
  intro v S1 H1 x1 su1 so1 r1
  have I1 := I.ext x1 su1 so1
  cases r1 with
  | obj h2 r2 =>
    rename_i a dx cc vs fs
    dsimp only at h1
    split at h1
    · rename_i ok
      obtain ⟨rfl, nf⟩ := ok
      refine ⟨a, dx, vs, rfl, su1 _ _ h2, r2.none nf, w b S1 env st1 σ H1 _ I1 ?_⟩
      have h' := wpR_bind h1
      cases ea : ma env st1 with
      | ok ds st2 =>
        rw [ea] at h'
        intro ws S2 H2 x2 su2 so2 r3
        have x12 := x1.trans so1 x2
        have h' : wpR (m (_ :: ds) st2) _ _ := h'
        rw [List.append_nil]
        exact ⟨⟨S2, H2, b.ad⟩, _ :: ds, st2, rfl, by rw [List.length_cons, r3.len, hln env st1 ds st2 ea]; exact hn, su2, so2, .cons (.obj (x2.same _ _ h2) (r2.mono x2.same)) r3, wpR_imp h' (fun _ _ z => z.from_ x12 so2) fun _ _ z => z.from_ x12 so2⟩
      | err y st2 => rw [ea] at h'; intro cls dd S2 H2 x2 su2 so2 rx; exact h' cls dd S2 H2 (x1.trans so1 x2) su2 so2 rx
      | bad => rw [ea] at h'; exact h'.elim
    · exact h1.elim
  | _ => exact h1.elim
theorem de_meth0 {pl : Sem Bool} (c : XC k G X W) (hc : Cls G.K (G.cl ci)) (mt : Meth G.K (G.cl ci) name f) (F : FnOk X.prog X.w X.K X.mg X.base (L2.CX X.prog X.w) j f fd ps (spD G 1 m)) (hb : Binds X.K fd ps []) (ho : DE G X W O o mo)
    (hjk : j ≤ k := by decide)
    (hev : eval (.Call (.Attribute o name apos) [] [] pos) X.env = (do
      let obj ← eval o X.env
      standAt apos.atName
      let (g, fst) ← holding [obj] (getMethod obj name pl)
      callWith pos g fst (backTo pos (starEach [] X.env)) (backToKw pos (keywordEach [] X.env))) := by rfl) : DE G X W O (.Call (.Attribute o name apos) [] [] pos) (mMeth ci name m mo mNil) := by
  obtain ⟨to, po, wo⟩ := ho.ex
  have hK := c.K
  refine ⟨_, pe_methE0 (pl := pl) po (hK ▸ hc) (hK ▸ mt) F (c.hr.mono hjk) hb (dvs := []) .nil (fun σ => passAt c.tk σ) hev, fun b S env st σ H Q I h => wo b S env st σ H _ I (wpR_imp (wpR_bind h) (fun d st1 h1 => ?_) fun _ _ z => z)⟩
  intro v S1 H1 x1 su1 so1 r1
  cases r1 with
  | obj h2 r2 =>
    rename_i a dx cc vs fs
    dsimp only at h1
    split at h1
    · rename_i ok
      obtain ⟨rfl, nf⟩ := ok
      have h' : wpR (m [D.obj _ fs] st1) _ _ := h1
      exact ⟨a, dx, vs, rfl, su1 _ _ h2, r2.none nf, ⟨S1, H1, b.ad⟩, [D.obj _ fs], st1, rfl, rfl, su1, so1, .cons (.obj h2 r2) .nil, wpR_imp h' (fun _ _ z => z.from_ x1 so1) fun _ _ z => z.from_ x1 so1⟩
    · exact h1.elim
  | _ => exact h1.elim
end
end DL

/-! DL, thirteenth part: errors with fields. -/
namespace DL
open PySem PySem.Spec PyProof.Rows L2
/-- an error's own __init__: its fields are its arguments -/
def spX (C : Addr) (fs : List Str) : Sp := fun vs H Q _ => ∃ (a : Addr) (ws : List V), vs = .ref a :: ws ∧ ws.length = fs.length ∧ H a = some (exo a C none) ∧
  ∀ dx H2, H dx = none → dx ≠ a → H2 a = some (exo a C (some dx)) → H2 dx = some (exd dx (fs.zip ws).reverse) → (∀ b, b ≠ a → b ≠ dx → H2 b = H b) → Q .non H2
section
variable {P : Program} {w : World} {K : PySem.W.Frag} {mg : Str → Option Value} {base : Heap}
theorem fnX1 {qual : Str} {st : Stmt} {f C : Addr} {fd : FuncData} {y p1 f1 : Str} {k : Nat} {q1 q2 q3 q4 q5 q6 : Pos} (F : Fun K "__init__" qual st f fd) (S : FnScope [y, p1] [y, p1] (defScope st)) (T : OexC K C) (n1 : PySem.W.findIn K (.ref C) f1 = some none)
    (hb : defBody st = [.Assign [.Attribute (.Name y q1) f1 q2] (.Name p1 q3) q4]) (hv0 : (defScope st).names.lookup y = some .local) (hv1 : (defScope st).names.lookup p1 = some .local)
    (d0 : (y == ("__debug__" : Str)) = false := by decide) (c0 : (y == ("__classdict__" : Str)) = false := by decide) (d1 : (p1 == ("__debug__" : Str)) = false := by decide) (c1 : (p1 == ("__classdict__" : Str)) = false := by decide) :
    FnOk P w K mg base (L2.CX P w) (k + 1) f fd [y, p1] (spX C [f1]) := by
  refine F.okX S (fun vs H Q E h => ?_) fun cdv A outer s H vs Q E hr h => ?_
  · obtain ⟨a, ws, rfl, hl, _⟩ := h
    rw [List.length_cons, hl]; rfl
  · obtain ⟨a, ws, rfl, hl, ha, hq⟩ := h
    obtain ⟨v1, rfl⟩ := List.length_eq_one_iff.mp hl
    rw [hb]
    refine ⟨_, pss_one (ps_ost (X := cxOf (L2.CX P w) P w K mg base [y, p1] qual (defScope st) f cdv A outer s H E) (pe_var (i := 0) rfl (.inl hv0) d0 c0) (pe_var (i := 1) rfl (.inl hv1) d1 c1)), ?_⟩
    refine ⟨_, rfl, _, rfl, a, C, rfl, T, n1, .inl ⟨ha, fun dx h1 h2 => ?_⟩⟩
    exact hq dx _ h1 h2 upd_same ((upd_ne h2).trans upd_same) fun b hb1 hb2 => (upd_ne hb1).trans (upd_ne hb2)
theorem fnX2 {qual : Str} {st : Stmt} {f C : Addr} {fd : FuncData} {y p1 f1 p2 f2 : Str} {k : Nat} {q1 q2 q3 q4 r1 r2 r3 r4 : Pos} (F : Fun K "__init__" qual st f fd) (S : FnScope [y, p1, p2] [y, p1, p2] (defScope st)) (T : OexC K C) (n1 : PySem.W.findIn K (.ref C) f1 = some none) (n2 : PySem.W.findIn K (.ref C) f2 = some none)
    (hb : defBody st = [.Assign [.Attribute (.Name y q1) f1 q2] (.Name p1 q3) q4, .Assign [.Attribute (.Name y r1) f2 r2] (.Name p2 r3) r4]) (hv0 : (defScope st).names.lookup y = some .local) (hv1 : (defScope st).names.lookup p1 = some .local) (hv2 : (defScope st).names.lookup p2 = some .local)
    (d0 : (y == ("__debug__" : Str)) = false := by decide) (c0 : (y == ("__classdict__" : Str)) = false := by decide) (d1 : (p1 == ("__debug__" : Str)) = false := by decide) (c1 : (p1 == ("__classdict__" : Str)) = false := by decide) (d2 : (p2 == ("__debug__" : Str)) = false := by decide) (c2 : (p2 == ("__classdict__" : Str)) = false := by decide) :
    FnOk P w K mg base (L2.CX P w) (k + 1) f fd [y, p1, p2] (spX C [f1, f2]) := by
  refine F.okX S (fun vs H Q E h => ?_) fun cdv A outer s H vs Q E hr h => ?_
  · obtain ⟨a, ws, rfl, hl, _⟩ := h
    rw [List.length_cons, hl]; rfl
  · obtain ⟨a, ws, rfl, hl, ha, hq⟩ := h
    obtain ⟨v1, v2, rfl⟩ : ∃ v1 v2, ws = [v1, v2] := by
      match ws, hl with
      | [v1, v2], _ => exact ⟨_, _, rfl⟩
    rw [hb]
    refine ⟨_, pss_cons (ps_ost (X := cxOf (L2.CX P w) P w K mg base [y, p1, p2] qual (defScope st) f cdv A outer s H E) (pe_var (i := 0) rfl (.inl hv0) d0 c0) (pe_var (i := 1) rfl (.inl hv1) d1 c1))
      (pss_one (ps_ost (pe_var (i := 0) rfl (.inl hv0) d0 c0) (pe_var (i := 2) rfl (.inl hv2) d2 c2))), ?_⟩
    refine ⟨_, rfl, _, rfl, a, C, rfl, T, n1, .inl ⟨ha, fun dx h1 h2 => ?_⟩⟩
    refine ⟨_, rfl, _, rfl, a, C, rfl, T, n2, .inr ⟨dx, _, upd_same, (upd_ne h2).trans upd_same, by simp, ?_⟩⟩
    refine hq dx _ h1 h2 ((upd_ne (Ne.symm h2)).trans upd_same) upd_same fun b hb1 hb2 => (upd_ne hb2).trans ((upd_ne hb1).trans (upd_ne hb2))
end
/-- what an error class with fields has -/
structure OexT (G : Glb) (mg : Str → Option Value) (x : Str) (c : Nat) (fI : Addr) (fs : List Str) : Prop where
  oc : OexC G.K (G.cl c)
  in_ : PySem.W.findIn G.K (.ref (G.cl c)) "__init__" = some (some (.ref fI))
  tI : PySem.W.typeIn G.K (.ref fI) = some (.type "function")
  g : mg x = some (.ref (G.cl c))
  sub : PySem.W.subIn G.K (.ref (G.cl c)) (.type "BaseException") = some true
def mRaiseF (c : Nat) (fs : List Str) (ma : MA) : MS := fun env st => match ma env st with
  | .ok ds st1 => if ds.length = fs.length ∧ ds.length ≤ 100 then .er ⟨c, some (fs.zip ds).reverse⟩ env st1 else .bad
  | .err x st1 => .er x env st1
  | .bad => .bad
theorem repF_zip {G : Glb} {ad : List Addr} {S : Hp} : ∀ {vs : List V} {ds : List D} (fs : List Str), Reps G ad S vs ds → RepF G ad S (fs.zip vs) (fs.zip ds)
  | _, _, [], _ => .nil
  | _, _, _ :: _, .nil => .nil
  | _, _, f :: fs, .cons h r => .cons h (repF_zip fs r)
theorem RepF.append {G : Glb} {ad : List Addr} {S : Hp} : ∀ {vs ws : List (Str × V)} {ds es : List (Str × D)}, RepF G ad S vs ds → RepF G ad S ws es → RepF G ad S (vs ++ ws) (ds ++ es)
  | _, _, _, _, .nil, s => s
  | _, _, _, _, .cons h r, s => .cons h (RepF.append r s)
theorem RepF.rev {G : Glb} {ad : List Addr} {S : Hp} : ∀ {vs : List (Str × V)} {ds : List (Str × D)}, RepF G ad S vs ds → RepF G ad S vs.reverse ds.reverse
  | _, _, .nil => .nil
  | _, _, .cons h r => by
    rw [List.reverse_cons, List.reverse_cons]
    exact (RepF.rev r).append (.cons h .nil)
section
variable {G : Glb} {X : Cx} {W : WX} {Ob : Ow} {OE : Ow → Prop} {O O1 : Ow} {pos p pos' : Pos} {k j : Nat} {x : Str} {c : Nat} {fI : Addr} {fd : FuncData} {ps fs : List Str} {e : Expr} {es : List Expr} {ma : MA}
theorem ds_raiseF (xc : XC k G X W) (T : OexT G X.mg x c fI fs) (F : FnOk X.prog X.w X.K X.mg X.base (L2.CX X.prog X.w) j fI fd ps (spX (G.cl c) fs)) (hb : Binds X.K fd ps []) (ha : DA G X W O (e :: es) ma) (hjk : j + 1 ≤ k := by decide) (hO : OE O := by first | trivial | rfl) (hg : Gl X x := by rfl) (hdb : (x == ("__debug__" : Str)) = false := by decide)
    (he : starEach (e :: es) X.env = (false, eval e X.env) :: starEach es X.env := by rfl) (hpl : (backTo pos' (starEach es X.env)).any (·.1) = false := by rfl) :
    DS G X W Ob OE O (.Raise (some (.Call (.Name x p) (e :: es) [] pos')) none pos) O1 (mRaiseF c fs ma) := by
  obtain ⟨t, pa, w⟩ := ha.ex
  have hK := xc.K
  refine ⟨_, ps_raise xc.calm xc.tk (pmk_oex (hK ▸ T.oc) (hK ▸ T.in_) (hK ▸ T.tI) F (xc.hr.mono hjk) hb (dvs := []) .nil (fun _ _ _ _ _ _ _ z => by obtain ⟨_, _, _, _, _, _, _, _, _, _, _, _, z⟩ := z; exact z.elim) hg T.g pa hdb he hpl), fun b S env st σ H D I h => ?_⟩
  unfold mRaiseF at h
  refine w b S env st σ H _ I ?_
  cases ea : ma env st with
  | ok ds st1 =>
    rw [ea] at h
    dsimp only at h
    split at h
    case isFalse => exact h.elim
    rename_i hn
    intro vs S1 H1 x1 su1 so1 r1
    refine ⟨by rw [r1.len]; omega, fun a h1 => ⟨a, vs, by rw [List.append_nil], by rw [r1.len]; exact hn.1, upd_same, fun dx H2 g1 g2 g3 g4 g5 => ?_⟩⟩
    have g1' : H1 dx = none := by rwa [upd_ne g2] at g1
    refine ⟨rfl, dx, _, g3, g4, g1', ?_⟩
    have eH : upd (del H2 a) dx (.xd (fs.zip vs).reverse) = upd H1 dx (.xd (fs.zip vs).reverse) := by
      funext q
      by_cases hq : q = dx
      · subst hq; rw [upd_same, upd_same]
      · rw [upd_ne hq, upd_ne hq]
        by_cases hq2 : q = a
        · subst hq2; rw [del_same, h1]
        · rw [del_ne hq2, g5 q hq2 hq, upd_ne hq2]
    rw [eH]
    have I1 := I.ext x1 su1 so1
    have sS : S1 dx = none := by
      cases z : S1 dx with
      | none => rfl
      | some o => have := su1 dx o z; rw [g1'] at this; cases this
    have nad : dx ∉ b.ad := fun z => by
      obtain ⟨_, vs', hv⟩ := so1.has z
      rw [g1'] at hv; cases hv
    have sm : Same S1 (upd S1 dx (.xd (fs.zip vs).reverse)) := fun q o hq => by
      rw [upd_ne (fun z => by rw [z, sS] at hq; cases hq)]; exact hq
    have x2 : Ext b.ad S1 H1 (upd S1 dx (.xd (fs.zip vs).reverse)) (upd H1 dx (.xd (fs.zip vs).reverse)) := by
      refine ⟨sm, fun q o hq => ?_, fun q o hq _ => ?_⟩
      · by_cases z : q = dx
        · subst z; exact .inr g1'
        · rw [upd_ne z] at hq; exact .inl hq
      · rw [upd_ne (fun z => by rw [z, g1'] at hq; cases hq)]; exact hq
    have su2 : Same (upd S1 dx (.xd (fs.zip vs).reverse)) (upd H1 dx (.xd (fs.zip vs).reverse)) := fun q o hq => by
      by_cases z : q = dx
      · subst z; rw [upd_same] at hq ⊢; exact hq
      · rw [upd_ne z] at hq ⊢; exact su1 q o hq
    have so2 : StoOk G b.ad (upd S1 dx (.xd (fs.zip vs).reverse)) st1 (upd H1 dx (.xd (fs.zip vs).reverse)) :=
      (so1.grow fun q o hq hh => by rw [upd_ne (show q ≠ dx from fun z => nad (z ▸ hq))]; exact hh).known sm fun q hq => by
        rw [upd_ne (show q ≠ dx from fun z => nad (z ▸ hq))]; exact (so1.has hq).1
    exact h _ _ O _ σ _ hO (x1.same.trans x2.same) (I1.ext x2 su2 so2) ⟨rfl, dx, _, rfl, upd_same, (repF_zip fs (r1.mono sm)).rev⟩
  | err y st1 =>
    rw [ea] at h
    intro cls dd S' H' x' su so r
    exact h cls dd O S' σ H' hO x'.same (I.ext x' su so) r
  | bad => rw [ea] at h; exact h.elim
end
end DL

/-! DL, fourteenth part: try with several handlers, named and nameless ones mixed. -/
namespace DL
open PySem PySem.Spec PyProof.Rows L2
abbrev Han := Value × Option Nat × (Addr → Value → Option Addr → TS)
/-- the ends behind a named handler: its name is gone -/
def offE (i : Nat) (D : Ends) : Ends := { nx := fun τ K => D.nx (τ.set i none) K, rt := D.rt, bk := fun τ K => D.bk (τ.set i none) K, ct := fun τ K => D.ct (τ.set i none) K }
def wMix (K : PySem.W.Frag) (Wout : WX) (D : Ends) : List Han → WX
  | [] => Wout
  | (c, oi, ts) :: r => fun cls d σ H => ∃ b, PySem.W.exmOne K cls c = some b ∧ (b = false → wMix K Wout D r cls d σ H) ∧
      (b = true → ∀ ex, H ex = none → match oi with
        | none => ts ex cls d D σ H
        | some i => ts ex cls d (offE i D) (σ.set i (some (.ref ex))) H)
inductive HdM (X : Cx) : List ExceptHandler → List Han → Prop
  | nil : HdM X [] []
  | bare {x : Str} {c : Value} {ts : Addr → Value → Option Addr → TS} {b₀ : Stmt} {suite : List Stmt} {np hp : Pos} {hds : List ExceptHandler} {l : List Han} (nm : Names X x c)
      (su : ∀ (ex : Addr) (o : Obj) (cls : Value) (d : Option Addr) (pn : List (Addr × Obj)), Zc cls d o → (∃ vs, o.data = .fields vs) → PSs (X.suite ex ((ex, o) :: pn)) (b₀ :: suite) (ts ex cls d)) (rest : HdM X hds l) :
      HdM X (.ExceptHandler (some (.Name x np)) none (b₀ :: suite) hp :: hds) ((c, none, ts) :: l)
  | name {x n : Str} {i : Nat} {c : Value} {ts : Addr → Value → Option Addr → TS} {b₀ : Stmt} {suite : List Stmt} {np hp : Pos} {hds : List ExceptHandler} {l : List Han} (hi : X.N[i]? = some n) (hn : X.env.kindOf n = some .local) (nm : Names X x c)
      (su : ∀ (ex : Addr) (o : Obj) (cls : Value) (d : Option Addr) (pn : List (Addr × Obj)), Zc cls d o → (∃ vs, o.data = .fields vs) → PSs (X.suite ex ((ex, o) :: pn)) (b₀ :: suite) (ts ex cls d)) (rest : HdM X hds l) :
      HdM X (.ExceptHandler (some (.Name x np)) (some n) (b₀ :: suite) hp :: hds) ((c, some i, ts) :: l)
section
variable {X : Cx} {Wout : WX} {D : Ends} {pins : List (Addr × Obj)}
theorem hd_go (hs : X.stack = X.env :: X.outer) (hf : X.env.frame = some X.env.locals) (ndN : X.N.Nodup) (tk : Takes X Wout) (okX : X.Ok) {ex : Addr} {B : Heap} {s0 s' : Shared} {τ : L2.St} {L : Hp} {cls : Value} {d : Option Addr} {hh : Heap}
    (J : Inv X pins τ L s0) (out : ∀ b o, s0.heap.get? b = some o → b ∉ frs X.stack → B.get? b = some o) (gr : s0.heap.UpToSlots hh) (fl : HandSPX.FlyingZ B (X.env :: X.outer) ex (Zc cls d) hh) (fresh : L ex = none) (os : s'.os = s0.os) (gens : AllBare s'.gens) :
    ∀ {hds : List ExceptHandler} {l : List Han}, HdM X hds l → wMix X.K Wout D l cls d τ L → wpAny (model X.prog X.w) X.A (handleBy (.ref ex) X.env hds) (SP X pins D) X.xe { s' with heap := hh } := by
  have Jh : Inv X pins τ L { s' with heap := hh } := J.landed out fl.1 gr os gens
  obtain ⟨oh, fh, gh, zh, dh⟩ := fl.there
  have away : ex ∉ frs (X.env :: X.outer) := fun hm => by
    obtain ⟨_, o', e', hnf⟩ := fl.2.2.1.mem hm
    rw [gh] at e'; cases e'
    exact hnf _ dh
  have notL : ex ≠ X.env.locals := fun z => away (List.mem_filterMap.mpr ⟨X.env, List.mem_cons_self, by rw [hf, z]⟩)
  have notF : ex ∉ X.fs := fun hm => by
    obtain ⟨en, he, q⟩ := List.mem_filterMap.mp hm
    exact away (List.mem_filterMap.mpr ⟨en, List.mem_cons_of_mem _ he, q⟩)
  have Sh := Jh.suite gh dh fresh notL notF
  have tyL : PySem.W.Looks (model X.prog X.w) hh (typeOf (.ref ex)) cls := fun A Q E s k q => wpAny_typeOf_ref (k _ _ gh) (by rw [zh.1]; exact q)
  have asked : ∀ {x : Str} {c : Value} {np : Pos} {Q : Value → Shared → Prop} {E : Value → Shared → Prop}, Names X x c → Q c { s' with heap := hh } → wpAny (model X.prog X.w) (X.A.mark (some (.ref ex))) (eval (.Name x np) X.env) Q E { s' with heap := hh } := fun {x c np Q E} nm q => by
    obtain ⟨hg, hdb, hm | ⟨hm, hv, hnn⟩⟩ := nm
    · exact ld_glob (X := X.suite ex ((ex, oh) :: (X.pn ++ pins))) Sh hg hm q hdb
    · exact ld_blt (X := X.suite ex ((ex, oh) :: (X.pn ++ pins))) Sh hg hm hv q hnn hdb
  intro hds l hk
  induction hk with
  | nil =>
    intro wi
    refine wpAny_handleBy_nil ?_
    obtain ⟨k1, k2, k3, oe, vs, T, oT, ts', he, hz, hd, h1, hr⟩ := id fl
    have go : wpAny (model X.prog X.w) X.A (setFlight (.ref ex) X.env.frame) (fun _ sx => wpAny (model X.prog X.w) X.A (throw (.ref ex) : Sem Flow) (SP X pins D) X.xe sx) X.xe { s' with heap := hh } := by
      rw [hf]
      refine HandSPX.setFlight_upZ fl fun hx held upx => wpAny_throw (tk _ _ ?_)
      exact ⟨ex, B, s0, pins, τ, L, cls, d, rfl, J, out, gr.trans upx, .inr (.inr (by rw [hs]; exact held)), fresh, os, gens, wi⟩
    unfold PySem.passOn
    refine wpAny_bind (wpAny_field he hd h1 ?_)
    rw [if_neg (show ¬ ((Value.ref T == Value.none) = true) by simp)]
    first
      | exact wpAny_bind (wpAny_pure (wpAny_bind go))
      | exact wpAny_bind go
  | @bare x c ts b₀ suite np hp hds2 l2 nm su rest ih =>
    intro wi
    obtain ⟨b, hb1, hno, hyes⟩ := wi
    have ask := PySem.W.exm_one (M := model X.prog X.w) (Jh.kIn) tyL hb1
    refine wpAny_handleBy_cons (codeAny_handlers_test ?_) (fun q => by cases q)
    refine asked nm (ask.here ?_)
    cases b with
    | false => exact ih (hno rfl)
    | true =>
      refine codeAny_handlers_suite (HandSPX.lands_againZ fl fun hx flx upx => ?_)
      have Jx : Inv X pins τ L { s' with heap := hx } := J.landed out flx.1 (gr.trans upx) os gens
      obtain ⟨ox, fx, gx, zx, dx⟩ := flx.there
      have Sx := Jx.suite gx dx fresh notL notF
      refine wpAny_mono ((su ex ox cls d (X.pn ++ pins) zx ⟨_, dx⟩).run [] _ _ L _ Sx (hyes rfl ex fresh)) (fun f s6 hsp => ?_) (fun _ _ z => z.elim)
      cases f with
      | next => obtain ⟨τ6, L6, S6, q6⟩ := hsp; exact ⟨_, _, S6.unsuite okX, q6⟩
      | brk => obtain ⟨τ6, L6, S6, q6⟩ := hsp; exact ⟨_, _, S6.unsuite okX, q6⟩
      | cont => obtain ⟨τ6, L6, S6, q6⟩ := hsp; exact ⟨_, _, S6.unsuite okX, q6⟩
      | ret u => obtain ⟨v6, τ6, L6, S6, r6, q6⟩ := hsp; exact ⟨_, _, _, S6.unsuite okX, r6, q6⟩
  | @name x n i c ts b₀ suite np hp hds2 l2 hi hn nm su rest ih =>
    intro wi
    obtain ⟨b, hb1, hno, hyes⟩ := wi
    have ask := PySem.W.exm_one (M := model X.prog X.w) (Jh.kIn) tyL hb1
    refine wpAny_handleBy_cons (codeAny_handlers_test ?_) (fun q => by cases q)
    refine asked nm (ask.here ?_)
    cases b with
    | false => exact ih (hno rfl)
    | true =>
      refine codeAny_handlers_suite_as (HandSPX.lands_againZ fl fun hx flx upx => ?_)
      have Jx : Inv X pins τ L { s' with heap := hx } := J.landed out flx.1 (gr.trans upx) os gens
      obtain ⟨ox, fx, gx, zx, dx⟩ := flx.there
      have Sx := Jx.suite gx dx fresh notL notF
      have hl : Loc X.env.scope n := .inl hn
      refine store_ok (X := X.suite ex ((ex, ox) :: (X.pn ++ pins))) (v := .ref ex) Sx ndN hi hl rfl (fun s5 S5 => ?_) (.inr hn)
      refine wpAny_mono ((su ex ox cls d (X.pn ++ pins) zx ⟨_, dx⟩).run [] s5 _ L _ S5 (hyes rfl ex fresh)) (fun f s6 hsp => ?_) (fun _ _ z => z.elim)
      have gone : ∀ {τ6 : L2.St} {L6 : Hp} {Q : Shared → Prop}, Inv (X.suite ex ((ex, ox) :: (X.pn ++ pins))) [] τ6 L6 s6 → (∀ s7, Inv X pins (τ6.set i none) L6 s7 → Q s7) →
          wpAny (model X.prog X.w) X.A (do bindName X.env n .none; unbindBehindTheSuite X.env n hp) (fun _ s7 => Q s7) X.xe s6 := fun {τ6 L6 Q} S6 hq => gone_ok (S6.unsuite okX) ndN hi hn hq
      cases f with
      | next => obtain ⟨τ6, L6, S6, q6⟩ := hsp; exact gone S6 fun s7 J7 => ⟨_, _, J7, q6⟩
      | brk => obtain ⟨τ6, L6, S6, q6⟩ := hsp; exact gone S6 fun s7 J7 => ⟨_, _, J7, q6⟩
      | cont => obtain ⟨τ6, L6, S6, q6⟩ := hsp; exact gone S6 fun s7 J7 => ⟨_, _, J7, q6⟩
      | ret u => obtain ⟨v6, τ6, L6, S6, r6, q6⟩ := hsp; exact gone S6 fun s7 J7 => ⟨_, _, _, J7, r6, q6⟩
theorem ps_try_mix {body : List Stmt} {h₀ : ExceptHandler} {hds : List ExceptHandler} {l : List Han} {pos : Pos} {tb : WX → TS} (hs : X.stack = X.env :: X.outer) (hf : X.env.frame = some X.env.locals) (ndN : X.N.Nodup) (tk : Takes X Wout)
    (inner : ∀ (W : WX) (pn : List (Addr × Obj)) (xe : Value → Shared → Prop), Takes (X.tr pn xe) W → PassesOwn (model X.prog X.w) X.A X.env xe → PSs (X.tr pn xe) body (tb W)) (hm : HdM X (h₀ :: hds) l) :
    PS X (.Try body (h₀ :: hds) [] [] pos) (fun D σ H => tb (wMix X.K Wout D l) D σ H) := by
  constructor
  intro pins s σ H D I h
  have okX := I.ok
  have fr2 : X.A.frames = some (X.env :: X.outer) := by rw [okX.frames, hs]
  have part := inner (wMix X.K Wout D l) (X.pn ++ pins) (fun y s1 => wpAny (model X.prog X.w) X.A (noteFrame y X.env) (fun _ s2 => wpAny (model X.prog X.w) X.A (setFlight y none) (fun _ s3 =>
    wpAny (model X.prog X.w) X.A (handleBy y X.env (h₀ :: hds)) (SP X pins D) X.xe s3) X.xe s2) X.xe s1) (fun u s' air => by
      obtain ⟨ex, B, s0, pins', τ, L, cls, d, rfl, J', out, gr, sky, fresh, os, gens, wi⟩ := air
      have J : Inv X pins τ L s0 := J'.ofTry okX
      have sky2 : Sky B (X.env :: X.outer) ex (Zc cls d) X.env.locals s'.heap := by rw [← hs]; exact sky
      show wpAny (model X.prog X.w) X.A (noteFrame (.ref ex) X.env) _ _ _
      exact Sky.land Zc.steady fr2 hf sky2 fun hh fl up2 => hd_go hs hf ndN tk okX J out (gr.trans up2) fl fresh os gens hm wi) PassesOwn.looking
  refine wpAny_Try_except (wpAny_mono (part.run [] s σ H D (I.toTry _) h) (fun f s1 hsp => ?_) fun y s1 he => he)
  cases f with
  | next => obtain ⟨τ, L, J, q⟩ := hsp; exact wpAny_execs_nil ⟨τ, L, J.ofTry okX, q⟩
  | brk => obtain ⟨τ, L, J, q⟩ := hsp; exact ⟨τ, L, J.ofTry okX, q⟩
  | cont => obtain ⟨τ, L, J, q⟩ := hsp; exact ⟨τ, L, J.ofTry okX, q⟩
  | ret u => obtain ⟨v, τ, L, J, r, q⟩ := hsp; exact ⟨v, τ, L, J.ofTry okX, r, q⟩
end
abbrev HanM := (Nat → Option Bool) × Option Nat × MS
def mHands : List HanM → Ex → MS
  | [], x => fun env st => .er x env st
  | (cl, oi, ms) :: r, x => fun env st => match cl x.c with
    | some true => match oi with
      | none => noErS (ms env st)
      | some i => unX i (ms (env.set i (some (exObj x))) st)
    | some false => mHands r x env st
    | none => .bad
def mTryM (hs : List HanM) (m : MS) : MS := fun env st => match m env st with
  | .er x env1 st1 => mHands hs x env1 st1
  | o => o
inductive DHd (G : Glb) (X : Cx) (own ob : List Nat) : List ExceptHandler → List HanM → Prop
  | nil : DHd G X own ob [] []
  | bare {x : Str} {cv : Value} {b₀ : Stmt} {suite : List Stmt} {np hp : Pos} {hds : List ExceptHandler} {hs : List HanM} {cl : Nat → Option Bool} {ms : MS} (nm : Names X x cv) (hcl : ∀ c b, cl c = some b → PySem.W.exmOne G.K (.ref (G.cl c)) cv = some b)
      (su : ∀ (ex : Addr) (o : Obj) (cls : Value) (d : Option Addr) (pn : List (Addr × Obj)), Zc cls d o → (∃ vs, o.data = .fields vs) → DSs G (X.suite ex ((ex, o) :: pn)) W0 ⟨ob, none, (0, .none, none), none, (0, 0)⟩ (fun _ => True) ⟨own, none, (0, .none, none), none, (0, 0)⟩ (b₀ :: suite) ⟨own, none, (0, .none, none), none, (0, 0)⟩ ms)
      (rest : DHd G X own ob hds hs) : DHd G X own ob (.ExceptHandler (some (.Name x np)) none (b₀ :: suite) hp :: hds) ((cl, none, ms) :: hs)
  | name {x n : Str} {cv : Value} {b₀ : Stmt} {suite : List Stmt} {np hp : Pos} {hds : List ExceptHandler} {hs : List HanM} {cl : Nat → Option Bool} {ms : MS} (i : Nat) (nm : Names X x cv) (hcl : ∀ c b, cl c = some b → PySem.W.exmOne G.K (.ref (G.cl c)) cv = some b)
      (su : ∀ (ex : Addr) (o : Obj) (cls : Value) (d : Option Addr) (pn : List (Addr × Obj)), Zc cls d o → (∃ vs, o.data = .fields vs) → DSs G (X.suite ex ((ex, o) :: pn)) W0 ⟨ob, some i, (ex, cls, d), none, (0, 0)⟩ (fun _ => True) ⟨own, some i, (ex, cls, d), none, (0, 0)⟩ (b₀ :: suite) ⟨own, some i, (ex, cls, d), none, (0, 0)⟩ ms)
      (rest : DHd G X own ob hds hs) (hi : X.N[i]? = some n := by rfl) (hn : X.env.kindOf n = some .local := by rfl) (hio : own.elem i = false := by rfl) (hib : ob.elem i = false := by rfl) : DHd G X own ob (.ExceptHandler (some (.Name x np)) (some n) (b₀ :: suite) hp :: hds) ((cl, some i, ms) :: hs)
section
variable {G : Glb} {X : Cx} {W : WX} {OE : Ow → Prop} {pos : Pos} {k : Nat} {own ob : List Nat}
theorem DHd.go (hK : X.K = G.K) (hO : OE ⟨own, none, (0, .none, none), none, (0, 0)⟩) : ∀ {hds : List ExceptHandler} {hs : List HanM}, DHd G X own ob hds hs → ∃ l, HdM X hds l ∧
    ∀ (b : Act) (S S1 : Hp) (env : Env') (st : List D) (σ : L2.St) (H : Hp) (x : Ex) (cls : Value) (dd : Option Addr) (D : Ends), Same S S1 → DI G b ⟨own, none, (0, .none, none), none, (0, 0)⟩ S1 env st σ H → RepX G b.ad S1 cls dd x →
      PostS G b ⟨ob, none, (0, .none, none), none, (0, 0)⟩ OE W ⟨own, none, (0, .none, none), none, (0, 0)⟩ D S (mHands hs x env st) → wMix X.K W D l cls dd σ H := by
  intro hds hs h
  induction h with
  | nil => exact ⟨[], .nil, fun b S S1 env st σ H x cls dd D e I r h => h cls dd _ S1 σ H hO e I r⟩
  | @bare x cv b₀ suite np hp hds hs cl ms nm hcl su rest ih =>
    obtain ⟨l, hl, go⟩ := ih
    refine ⟨(cv, none, fun _ _ _ D σ H => ∃ b S env st, DI G b ⟨own, none, (0, .none, none), none, (0, 0)⟩ S env st σ H ∧ PostS G b ⟨ob, none, (0, .none, none), none, (0, 0)⟩ (fun _ => True) W0 ⟨own, none, (0, .none, none), none, (0, 0)⟩ D S (ms env st)) :: l, .bare nm (fun ex o cls d pn hz hf => ?_) hl, fun b S S1 env st σ H y cls dd D e I r h => ?_⟩
    · obtain ⟨t, p, w⟩ := (su ex o cls d pn hz hf).ex
      exact PSs.imp p fun D σ H ⟨b, S, env, st, I, q⟩ => w b S env st σ H D I q
    · unfold mHands at h
      cases ec : cl y.c with
      | none => rw [ec] at h; exact h.elim
      | some bb =>
        rw [ec] at h
        refine ⟨bb, by rw [hK, r.1]; exact hcl _ _ ec, fun hbb => ?_, fun hbb a ha => ?_⟩
        · subst hbb
          exact go b S S1 env st σ H y cls dd D e I r h
        · subst hbb
          dsimp only at h
          refine ⟨b, S1, env, st, I, ?_⟩
          cases es : ms env st with
          | nx env2 st2 => rw [es] at h; exact fun S2 σ2 H2 e2 I2 => h S2 _ H2 (e.trans e2) I2
          | rt d st2 => rw [es] at h; exact h
          | bk env2 st2 => rw [es] at h; exact fun S2 σ2 H2 e2 I2 => h S2 _ H2 (e.trans e2) I2
          | ct env2 st2 => rw [es] at h; exact fun S2 σ2 H2 e2 I2 => h S2 _ H2 (e.trans e2) I2
          | er x2 env2 st2 => rw [es] at h; exact h.elim
          | bad => rw [es] at h; exact h.elim
  | @name x n cv b₀ suite np hp hds hs cl ms i nm hcl su rest hi hn hio hib ih =>
    obtain ⟨l, hl, go⟩ := ih
    refine ⟨(cv, some i, fun a cls d D σ H => ∃ b S env st, DI G b ⟨own, some i, (a, cls, d), none, (0, 0)⟩ S env st σ H ∧ PostS G b ⟨ob, some i, (a, cls, d), none, (0, 0)⟩ (fun _ => True) W0 ⟨own, some i, (a, cls, d), none, (0, 0)⟩ D S (ms env st)) :: l, .name hi hn nm (fun ex o cls d pn hz hf => ?_) hl, fun b S S1 env st σ H y cls dd D e I r h => ?_⟩
    · obtain ⟨t, p, w⟩ := (su ex o cls d pn hz hf).ex
      exact PSs.imp p fun D σ H ⟨b, S, env, st, I, q⟩ => w b S env st σ H D I q
    · unfold mHands at h
      cases ec : cl y.c with
      | none => rw [ec] at h; exact h.elim
      | some bb =>
        rw [ec] at h
        refine ⟨bb, by rw [hK, r.1]; exact hcl _ _ ec, fun hbb => ?_, fun hbb a ha => ?_⟩
        · subst hbb
          exact go b S S1 env st σ H y cls dd D e I r h
        · subst hbb
          dsimp only at h
          refine ⟨b, S1, _, st, I.toexc hio r, ?_⟩
          cases es : ms (env.set i (some (exObj y))) st with
          | nx env2 st2 => rw [es] at h; exact fun S2 σ2 H2 e2 I2 => h S2 _ H2 (e.trans e2) (I2.unexc hio _)
          | rt d st2 => rw [es] at h; exact h
          | bk env2 st2 => rw [es] at h; exact fun S2 σ2 H2 e2 I2 => h S2 _ H2 (e.trans e2) (I2.unexc hib _)
          | ct env2 st2 => rw [es] at h; exact fun S2 σ2 H2 e2 I2 => h S2 _ H2 (e.trans e2) (I2.unexc hib _)
          | er x2 env2 st2 => rw [es] at h; exact h.elim
          | bad => rw [es] at h; exact h.elim
theorem ds_tryM {body : List Stmt} {h₀ : ExceptHandler} {hds : List ExceptHandler} {hs : List HanM} {m : MS} (xc : XC k G X W) (xt : XT X) (ndN : X.N.Nodup)
    (hb : ∀ (W' : WX) (pn : List (Addr × Obj)) (xe : Value → Shared → Prop), XC k G (X.tr pn xe) W' → XT (X.tr pn xe) → DSs G (X.tr pn xe) W' ⟨ob, none, (0, .none, none), none, (0, 0)⟩ (· = ⟨own, none, (0, .none, none), none, (0, 0)⟩) ⟨own, none, (0, .none, none), none, (0, 0)⟩ body ⟨own, none, (0, .none, none), none, (0, 0)⟩ m)
    (hh : DHd G X own ob (h₀ :: hds) hs) (hO : OE ⟨own, none, (0, .none, none), none, (0, 0)⟩ := by first | trivial | rfl) :
    DS G X W ⟨ob, none, (0, .none, none), none, (0, 0)⟩ OE ⟨own, none, (0, .none, none), none, (0, 0)⟩ (.Try body (h₀ :: hds) [] [] pos) ⟨own, none, (0, .none, none), none, (0, 0)⟩ (mTryM hs m) := by
  obtain ⟨l, hl, go⟩ := hh.go (W := W) xc.K hO
  refine ⟨_, ps_try_mix (Wout := W) (tb := fun W' D σ H => ∃ b S env st, DI G b ⟨own, none, (0, .none, none), none, (0, 0)⟩ S env st σ H ∧ PostS G b ⟨ob, none, (0, .none, none), none, (0, 0)⟩ (· = ⟨own, none, (0, .none, none), none, (0, 0)⟩) W' ⟨own, none, (0, .none, none), none, (0, 0)⟩ D S (m env st))
    xt.stk xt.fr ndN xc.tk (fun W' pn xe tk po => ?_) hl, fun b S env st σ H D I h => ?_⟩
  · obtain ⟨t, p, w⟩ := (hb W' pn xe (xc.tr tk po) (xt.tr pn xe)).ex
    exact PSs.imp p fun D σ H ⟨b, S, env, st, I, q⟩ => w b S env st σ H D I q
  · refine ⟨b, S, env, st, I, ?_⟩
    unfold mTryM at h
    cases e : m env st with
    | nx env1 st1 => rw [e] at h; exact h
    | rt d st1 => rw [e] at h; exact h
    | bk env1 st1 => rw [e] at h; exact h
    | ct env1 st1 => rw [e] at h; exact h
    | bad => rw [e] at h; exact h
    | er x env1 st1 =>
      rw [e] at h
      intro cls dd O' S1 σ1 H1 hO' e1 I1 rx
      subst hO'
      exact go b S S1 env1 st1 σ1 H1 x cls dd D e1 I1 rx h
end
end DL

/-! DL, fifteenth part: isinstance by own classes, their ==, chained comparisons, fields of a caught error. -/
namespace DL
open PySem PySem.Spec PyProof.Rows L2
/-- what a value is, for isinstance: a built-in type's name or an own class -/
inductive Tag where
  | ty (n : String) | cl (c : Nat)
deriving DecidableEq
def tagD (okI : Nat → Bool) (d : D) : Option Tag := match d with
  | .obj c _ => if okI c = true then some (.cl c) else none
  | d => (tyN d).map .ty
def tagV (G : Glb) : Tag → Value
  | .ty n => .type n
  | .cl c => .ref (G.cl c)
/-- what isinstance wants of an own class's objects -/
structure InsT (G : Glb) (c : Nat) : Prop where
  cls : Cls G.K (G.cl c)
  ha : PySem.W.findIn G.K (.ref (G.cl c)) "__class__" = some (some (.builtin "object.__class__"))
  hn : PySem.W.specialIn G.K (.builtin "object.__class__") "__get__" = some (some (.builtin "getset_descriptor.__get__"))
  ht : PySem.W.takesIn G.K (.builtin "object.__class__") = some true
  hm : PySem.W.mroIn G.K (G.cl c) (.type "object") = some true
section
variable {G : Glb} {X : Cx}
theorem tag_ok {okI : Nat → Bool} (T : ∀ c, okI c = true → InsT G c) {ad : List Addr} {S H : Hp} {v : V} {d : D} {t : Tag} (su : Same S H) (r : Rep G ad S v d) (e : tagD okI d = some t) : TyX G.K H v (tagV G t) := by
  cases r with
  | obj h r2 =>
    rename_i a dx c vs fs
    have e : (if okI c = true then some (Tag.cl c) else none) = some t := e
    split at e
    · rename_i ok
      cases e
      obtain ⟨t1, t2, t3, t4, t5⟩ := T c ok
      exact .base (.ins (su _ _ h) t1 t2 t3 t4 t5)
    · cases e
  | non => cases e; exact tyN_ok (ad := ad) su .non rfl
  | bl b => cases e; exact tyN_ok (ad := ad) su (.bl b) rfl
  | int i => cases e; exact tyN_ok (ad := ad) su (.int i) rfl
  | str x => cases e; exact tyN_ok (ad := ad) su (.str x) rfl
  | tup h r2 => cases e; exact tyN_ok su (.tup h r2) rfl
  | lst h r2 => cases e; exact tyN_ok su (.lst h r2) rfl
  | rol h r2 => cases e; exact tyN_ok su (.rol h r2) rfl
  | ty n => cases e
  | cls c => cases e
  | tok h => cases e
  | dic h => cases e; exact tyN_ok (ad := ad) su (.dic h) rfl
/-- isinstance(x, an own class) -/
def dIsC (okI : Nat → Bool) (tab : Tag → Nat → Option Bool) : List D → Option D := fun ds => match ds with
  | [x, .cls c] => (tagD okI x).bind fun t => (tab t c).map .bl
  | _ => none
theorem cd_isC {okI : Nat → Bool} {tab : Tag → Nat → Option Bool} (hK : X.K = G.K) (T : ∀ c, okI c = true → InsT G c) (ht : ∀ t c b, tab t c = some b → PySem.W.kitOne G.K (tagV G t) (.ref (G.cl c)) = some b) : CallD G (rIsi X.K) (dIsC okI tab) := ⟨fun ad S H st xs ds d Q su so r e q => by
  unfold dIsC at e
  split at e
  · rename_i x c
    obtain ⟨v, w, rfl, r1, r2⟩ := reps2 r
    cases r2
    cases et : tagD okI x with
    | none => rw [et] at e; cases e
    | some t =>
      rw [et] at e
      have e : (tab t c).map D.bl = some d := e
      cases eb : tab t c with
      | none => rw [eb] at e; cases e
      | some b =>
        rw [eb] at e
        cases e
        exact ⟨v, _, _, _, b, rfl, .own _, hK ▸ tag_ok T su r1 et, hK ▸ ht t c b eb, Post.here su so (.bl _) q⟩
  · cases e⟩
end
/-! ### x == y by x's own __eq__ -/
section
variable {X : Cx} {CX : CXT} {n : Nat} {C f : Addr} {fd : FuncData} {ps : List Str} {sp : Sp}
def rOwn (K : PySem.W.Frag) (C : Addr) (sp : Sp) : R2 := fun x y H Q => ∃ (a dx : Addr) (fs : List (Str × V)) (tb : Value), x = .ref a ∧ H a = some (.ins C dx fs) ∧ TyX K H y tb ∧ PySem.W.notFirst K C tb = true ∧ sp [x, y] H (fun v H' => (∃ k, v = .bl k) ∧ Q v H') (fun _ _ _ => False)
theorem op_own (F : FnOk X.prog X.w X.K X.mg X.base (L2.CX X.prog X.w) n f fd ps sp) (rm : Room n X.A) (at_ : PySem.W.findIn X.K (.ref C) "__eq__" = some (some (.ref f))) (isf : PySem.W.isFn X.K (.ref f) = true) (bn : Binds X.K fd ps []) : OpR X (compareOp .Eq) (rOwn X.K C sp) := by
  intro pins s σ H x y v u Q I rx ry h
  obtain ⟨a, dx, fs, tb, rfl, ha, ty, nf, go⟩ := h
  cases rx
  show wpAny (model X.prog X.w) X.A (richCompare .Eq (.ref a) u) (EP X pins σ Q) X.xe s
  obtain ⟨mA, J, _⟩ := ins_get I.hok ha
  obtain ⟨od, J, _⟩ := J.look
  obtain ⟨m, hF⟩ := I.fr
  obtain ⟨P, kx, pP, _⟩ := kit_of I ry ty
  refine PySem.W.cmp_K (op := .Eq) (tb := tb) rm.units0 hF I.ok.mod.kin J (kx.ty _ _ I.kIn pP) nf at_ isf ?_
  refine wpAny_mono (run_fnSD (E := fun _ _ _ _ => False) (us := [.ref a, u]) (vs := [.ref a, y]) F rm bn (dvs := []) .nil (fun pins H s e s' _ z => by obtain ⟨_, _, _, _, _, _, _, _, _, _, _, _, z⟩ := z; exact z.elim) I (.cons rfl (.cons ry .nil)) (by rw [List.append_nil]; exact go)) (fun r s' z => ?_) fun _ _ z => z
  obtain ⟨w, H', I', rw_, ⟨k, ek⟩, q⟩ := z
  subst ek
  cases rw_
  exact ⟨.bl k, H', I', rfl, q⟩
end
def mEqO (okI : Nat → Bool) (okT : Tag → Bool) (ci : Nat) (m : List D → M D) (ma mb : ME) : ME := fun env st => (ma env st).bind fun x st1 => (mb env st1).bind fun y st2 => match x with
  | .obj c fs => if c = ci ∧ ((tagD okI y).any okT) = true then (noEr (m [x, y] st2)).bind fun d st3 => match d with
      | .bl k => .ok (.bl k) st3
      | _ => .bad
    else .bad
  | x => ret? (dEq x y) st2
section
variable {G : Glb} {X : Cx} {W : WX} {O : Ow} {pos : Pos} {a b : Expr} {ma mb : ME} {k j : Nat} {f : Addr} {fd : FuncData} {ps : List Str} {m : List D → M D} {ci : Nat} {okI : Nat → Bool} {okT : Tag → Bool}
theorem de_eqO (c : XC k G X W) (T : ∀ c, okI c = true → InsT G c) (nf : ∀ t, okT t = true → PySem.W.notFirst G.K (G.cl ci) (tagV G t) = true) (F : FnOk X.prog X.w X.K X.mg X.base (L2.CX X.prog X.w) j f fd ps (spD G 2 m)) (at_ : PySem.W.findIn G.K (.ref (G.cl ci)) "__eq__" = some (some (.ref f))) (isf : PySem.W.isFn G.K (.ref f) = true) (bn : Binds X.K fd ps [])
    (ha : DE G X W O a ma) (hb : DE G X W O b mb) (hjk : j ≤ k := by decide) (hm : behindInMarks .Eq b = false := by first | exact nomark _ | rfl) : DE G X W O (.Compare a [.Eq] [b] pos) (mEqO okI okT ci m ma mb) := by
  have hK := c.K
  obtain ⟨ta, tb, pa, pb, w⟩ := two_parts (k := fun x y => fun st2 => match x with
    | .obj c fs => if c = ci ∧ ((tagD okI y).any okT) = true then (noEr (m [x, y] st2)).bind fun d st3 => match d with
        | .bl k => Res.ok (D.bl k) st3
        | _ => .bad
      else .bad
    | x => ret? (dEq x y) st2) ha hb
  refine ⟨_, pe_cmpR (OpR.or (op_own (C := G.cl ci) F (c.hr.mono hjk) (hK ▸ at_) (hK ▸ isf) bn) (op_eqD c.hr.units)) pa pb hm, fun b S env st σ H Q I h => w b S env st σ H _ (fun x y H2 => rOwn X.K (G.cl ci) _ x y H2 Q ∨ rEqD X.K x y H2 Q) I h fun x y dx dy S' H' st' e I' rx ry hk => ?_⟩
  by_cases ho : ∃ c fs, dx = .obj c fs
  · obtain ⟨cc, fs, rfl⟩ := ho
    dsimp only at hk
    split at hk
    case isFalse => exact hk.elim
    rename_i ok
    obtain ⟨rfl, okt⟩ := ok
    cases et : tagD okI dy with
    | none => rw [et] at okt; cases okt
    | some t =>
      rw [et] at okt
      have okt : okT t = true := okt
      cases rx with
      | obj h2 r2 =>
        rename_i aa dx vs
        refine .inl ⟨aa, dx, vs, tagV G t, rfl, I'.sub _ _ h2, hK ▸ tag_ok T I'.sub ry et, hK ▸ nf t okt, ⟨⟨S', H', b.ad⟩, _, st', rfl, rfl, I'.sub, I'.sto, .cons (.obj h2 r2) (.cons ry .nil), ?_⟩⟩
        have hk2 := wpR_bind hk
        refine wpR_imp (wp_noEr hk2) (fun d st3 z => ?_) fun _ _ z => z
        intro v S3 H3 x3 su3 so3 r3
        cases r3 with
        | bl kk => exact ⟨⟨kk, rfl⟩, (Post.from_ e I'.sto z) (.bl kk) S3 H3 x3 su3 so3 (.bl kk)⟩
        | _ => exact z.elim
  · have hk' : wpR (ret? (dEq dx dy) st') (fun d st' => Post G b.ad S H d st' Q) (fun x st' => PostX G b.ad S H x st' fun c dd H' => W c dd σ H') := by
      cases dx <;> first | exact hk | exact absurd ⟨_, _, rfl⟩ ho
    obtain ⟨d, e1, q⟩ := wp_ret hk'
    exact .inr ((opd_eq hK).go b.ad S' H' st' x y dx dy d Q I'.sub I'.sto rx ry e1 (Post.from_ e I'.sto q))
end
end DL

/-! DL, sixteenth part: chained comparisons, fields of a caught error, sum, lcm. -/
namespace DL
open PySem PySem.Spec PyProof.Rows L2
/-- a < b < c -/
def mChain (f g : D → D → Option D) (ma mb mc : ME) : ME := fun env st => (ma env st).bind fun x st1 => (mb env st1).bind fun y st2 => match f x y with
  | some (.bl true) => (mc env st2).bind fun z => ret? (g y z)
  | some (.bl false) => .ok (.bl false) st2
  | _ => .bad
section
variable {G : Glb} {X : Cx} {W : WX} {O : Ow} {pos : Pos} {a b c : Expr} {ma mb mc : ME} {op op' : CmpOp} {r r' : R2} {f g : D → D → Option D}
theorem de_chain (ho : OpR X (compareOp op) r) (hf : OpD G r f) (ho' : OpR X (compareOp op') r') (hg : OpD G r' g) (ha : DE G X W O a ma) (hb : DE G X W O b mb) (hc : DE G X W O c mc) (hm : lastMarks [op, op'] [b, c] = false := by with_unfolding_all rfl) : DE G X W O (.Compare a [op, op'] [b, c] pos) (mChain f g ma mb mc) := by
  obtain ⟨ta, pa, wa⟩ := ha.ex
  obtain ⟨tb, pb, wb⟩ := hb.ex
  obtain ⟨tc, pc, wc⟩ := hc.ex
  refine ⟨_, pe_chain ho ho' pa pb pc hm, fun b S env st σ H Q I h => wa b S env st σ H _ I (wpR_imp (wpR_bind h) (fun dx st1 h1 => ?_) fun _ _ z => z)⟩
  intro x S1 H1 x1 su1 so1 r1
  have I1 := I.ext x1 su1 so1
  refine wb b S1 env st1 σ H1 _ I1 (wpR_imp (wpR_bind h1) (fun dy st2 h2 => ?_) fun _ _ z => z.from_ x1 so1)
  intro y S2 H2 x2 su2 so2 r2
  have x12 := x1.trans so1 x2
  have I2 := I1.ext x2 su2 so2
  cases ef : f dx dy with
  | none => rw [ef] at h2; exact h2.elim
  | some d =>
    rw [ef] at h2
    refine hf.go b.ad S2 H2 st2 x y dx dy d _ su2 so2 (r1.mono x2.same) r2 ef ?_
    intro v S3 H3 x3 su3 so3 r3
    have x13 := x12.trans so2 x3
    have I3 := I2.ext x3 su3 so3
    cases r3 with
    | bl k =>
      refine ⟨k, rfl, ?_⟩
      cases k with
      | false =>
        have h2 : Post G b.ad S H (.bl false) st2 Q := h2
        exact h2 (.bl false) S3 H3 x13 su3 so3 (.bl false)
      | true =>
        have h2 : wpR ((mc env st2).bind fun z => ret? (g dy z)) (fun d st' => Post G b.ad S H d st' Q) (fun x st' => PostX G b.ad S H x st' fun c dd H' => W c dd σ H') := h2
        refine wc b S3 env st2 σ H3 _ I3 (wpR_imp (wpR_bind h2) (fun dz st3 h3 => ?_) fun _ _ z => z.from_ x13 so3)
        intro z S4 H4 x4 su4 so4 r4
        obtain ⟨d', e1, q⟩ := wp_ret h3
        exact hg.go b.ad S4 H4 st3 y z dy dz d' Q su4 so4 ((r2.mono x3.same).mono x4.same) r4 e1 (Post.from_ (x13.trans so3 x4) so4 q)
    | _ => exact h2.elim
end
/-! ### e.f, e a caught error -/
def mXf (okX : Nat → Str → Bool) (i : Nat) (f : Str) : ME := fun env st => match env[i]? with
  | some (some (D.obj c (_ :: fs))) => if okX c f = true then ret? (fs.lookup f) st else .bad
  | _ => .bad
section
variable {G : Glb} {X : Cx} {pos : Pos}
theorem de_xf {own : List Nat} {ex : Addr} {oe : Obj} {cls : Value} {dd : Option Addr} {pn : List (Addr × Obj)} {n f : Str} {p1 : Pos} {okX : Nat → Str → Bool} (i : Nat) (hz : Zc cls dd oe) (hf : ∃ vs, oe.data = .fields vs) (hK : X.K = G.K)
    (T : ∀ c g, okX c g = true → XfC G.K (G.cl c) ∧ PySem.W.findIn G.K (.ref (G.cl c)) g = some none) (hi : X.N[i]? = some n := by rfl) (hv : Vis X.env.scope n := by first | exact Or.inl rfl | exact Or.inr (Or.inl rfl) | exact Or.inr (Or.inr rfl))
    (hd : (n == ("__debug__" : Str)) = false := by decide) (hcd : (n == ("__classdict__" : Str)) = false := by decide) (hb : attributeBase (.Name n p1) f X.env (eval (.Name n p1) X.env) = eval (.Name n p1) X.env := by rfl) :
    DE G (X.suite ex ((ex, oe) :: pn)) W0 ⟨own, some i, (ex, cls, dd), none, (0, 0)⟩ (.Attribute (.Name n p1) f pos) (mXf okX i f) := by
  by_cases hC : ∃ c, cls = .ref (G.cl c) ∧ okX c f = true
  · obtain ⟨c, hc, ok⟩ := hC
    obtain ⟨t1, t2⟩ := T c f ok
    refine ⟨_, pe_xf (hK ▸ t1) (hK ▸ t2) hz hf (pe_var (i := i) hi hv hd hcd) hb, fun b S env st σ H Q I h => ?_⟩
    unfold mXf at h
    split at h
    · rename_i c' u fs e
      obtain ⟨x, q1, q2, q3⟩ := I.exc i _ rfl e
      split at h
      · obtain ⟨xc, xfs⟩ := x
        cases xfs with
        | none => cases q1
        | some fs' =>
          cases q1
          obtain ⟨g1, ad', vs, g2, g3, g4⟩ := q3
          obtain ⟨d', e1, q⟩ := wp_ret h
          obtain ⟨v, l, r⟩ := g4.look e1
          exact ⟨_, q2, rfl, hc, ad', vs, v, g2, I.sub _ _ g3, l, Post.here I.sub I.sto r q⟩
      · exact h.elim
    · exact h.elim
  · refine ⟨fun _ _ _ => False, ⟨fun pins s σ H Q I h => h.elim⟩, fun b S env st σ H Q I h => ?_⟩
    unfold mXf at h
    split at h
    · rename_i c' u fs e
      obtain ⟨x, q1, q2, q3⟩ := I.exc i _ rfl e
      split at h
      · rename_i ok
        obtain ⟨xc, xfs⟩ := x
        cases xfs with
        | none => cases q1
        | some fs' => cases q1; exact hC ⟨_, q3.1, ok⟩
      · exact h.elim
    · exact h.elim
end
/-! ### lcm -/
def LcmOk (a b : Int) : Prop := a.natAbs < 2 ^ 64 ∧ b.natAbs < 2 ^ 64
noncomputable instance (a b : Int) : Decidable (LcmOk a b) := Classical.propDecidable _
def rLcm : List V → Hp → VK → Prop := fun xs H Q => ∃ a b : Int, xs = [.int a, .int b] ∧ LcmOk a b ∧ Q (.int ((a.natAbs.lcm b.natAbs : Nat) : Int)) H
theorem cr_lcm {X : Cx} : CallR X (.builtin "math.lcm") rLcm := by
  intro pins s σ H vs us Q I r h
  obtain ⟨a, b, rfl, ⟨ha, hb⟩, q⟩ := h
  obtain ⟨t, u, rfl⟩ := Vals.int2 r
  exact PySem.W.mc_lcm ha hb fun _ => ⟨.int _, H, I.tok _, ⟨_, rfl⟩, q⟩
noncomputable def dLcm : List D → Option D := fun ds => match ds with
  | [.int a, .int b] => if LcmOk a b then some (.int ((a.natAbs.lcm b.natAbs : Nat) : Int)) else none
  | _ => none
theorem cd_lcm {G : Glb} : CallD G rLcm dLcm := ⟨fun ad S H st xs ds d Q su so r e q => by
  unfold dLcm at e
  split at e
  · rename_i a b
    split at e
    · rename_i ok
      cases e
      obtain ⟨v, w, rfl, r1, r2⟩ := reps2 r
      cases r1; cases r2
      exact ⟨a, b, rfl, ok, Post.here su so (.int _) q⟩
    · cases e
  · cases e⟩
end DL

/-! DL, seventeenth part: zip of two tuples. -/
namespace DL
open PySem PySem.Spec PyProof.Rows L2 RZ
section
variable {G : Glb} {ad : List Addr} {S : Hp}
theorem iter_zipT {a c : Addr} {vs ws : List V} {ds es : List D} (h : SqT G.K S a vs) (r : Reps G ad S vs ds) (h2 : SqT G.K S c ws) (r2 : Reps G ad S ws es) : IterOK G ad S (ItzT G.K a c) (List.zipWith (fun x y => .tup [x, y]) ds es) := by
  intro i S' H' e su
  have h' := Same.sqT (e.trans su) h
  have h2' := Same.sqT (e.trans su) h2
  refine ⟨fun hi => ⟨vs, ws, h', h2', ?_⟩, fun d hd => ?_⟩
  · rw [List.length_zipWith] at hi
    rw [r.len, r2.len]
    omega
  · rw [List.getElem?_zipWith] at hd
    cases q1 : ds[i]? with
    | none => rw [q1] at hd; simp at hd
    | some d1 =>
      cases q2 : es[i]? with
      | none => rw [q1, q2] at hd; simp at hd
      | some d2 =>
        rw [q1, q2] at hd
        have e0 : D.tup [d1, d2] = d := by simpa using hd
        subst e0
        obtain ⟨v, hv, rv⟩ := r.get q1
        obtain ⟨u, hu, ru⟩ := r2.get q2
        refine ⟨⟨vs, ws, v, u, h', h2', hv, hu⟩, fun x H'' ⟨T, y, z, e1, hT, e2, e3, e4⟩ => ?_⟩
        subst e1; subst e2
        have e5 : v = y := Option.some.inj (hv.symm.trans (e3 vs h'))
        have e6 : u = z := Option.some.inj (hu.symm.trans (e4 ws h2'))
        subst e5; subst e6
        exact pair_new su hT (rv.mono e) (ru.mono e)
end
def zipA? : List D → M (List D) := fun ds st => match ds with
  | [.lst xs, .lst ys] => .ok (List.zipWith (fun x y => .tup [x, y]) xs ys) st
  | [.tup xs, .tup ys] => .ok (List.zipWith (fun x y => .tup [x, y]) xs ys) st
  | _ => .bad
section
variable {G : Glb} {X : Cx} {W : WX} {O : Ow} {pos p : Pos} {a a2 : Expr} {ma : MA}
theorem di_zipA {elts : List Expr} {kk : Nat} {tpos : Pos} (hK : X.K = G.K) (hm : X.mg "zip" = none) (ha : DA G X W O [a, a2] ma) (hg : Gl X "zip" := by rfl)
    (hs : starEach [a, a2] X.env = (false, eval a X.env) :: starEach [a2] X.env := by rfl) (hpl : (backTo pos (starEach [a2] X.env)).any (·.1) = false := by rfl) :
    DIt G X W O (.Tuple elts kk tpos) (.Call (.Name "zip" p) [a, a2] [] pos) (mThenA ma zipA?) := by
  obtain ⟨t, pa, w⟩ := ha.ex
  refine ⟨_, pi_zipA hg hm pa hs hpl, fun b S env st σ H R I h => args_walk (es := [a]) w I h fun vs ds S1 H1 st1 x1 su1 so1 r1 h1 => ?_⟩
  unfold zipA? at h1
  split at h1
  · cases r1 with
    | cons r rr =>
      cases rr with
      | cons r' rr =>
        cases rr
        cases r with
        | lst h2 h3 =>
          cases r' with
          | lst h4 h5 => exact ⟨_, _, _, _, rfl, .inl ⟨SqL.of (su1 _ _ h2), SqL.of (su1 _ _ h4), hK ▸ h1 _ _ _ x1 su1 so1 (iter_zip (SqL.of h2) h3 (SqL.of h4) h5)⟩⟩
  · cases r1 with
    | cons r rr =>
      cases rr with
      | cons r' rr =>
        cases rr
        cases r with
        | tup h2 h3 =>
          cases r' with
          | tup h4 h5 => exact ⟨_, _, _, _, rfl, .inr ⟨hK ▸ Same.sqT su1 h2.sqT, hK ▸ Same.sqT su1 h4.sqT, hK ▸ h1 _ _ _ x1 su1 so1 (iter_zipT h2.sqT h3 h4.sqT h5)⟩⟩
  · exact h1.elim
end
end DL

/-! DL, eighteenth part: max and min of a tuple of ints. -/
namespace DL
open PySem PySem.Spec PyProof.Rows L2
def ints? : List D → Option (List Int)
  | [] => some []
  | .int i :: ds => (ints? ds).map (i :: ·)
  | _ :: _ => none
theorem ints_ok {G : Glb} {ad : List Addr} {S : Hp} : ∀ {vs : List V} {ds : List D} {ns : List Int}, Reps G ad S vs ds → ints? ds = some ns → vs = ns.map V.int
  | _, _, ns, .nil, e => by cases e; rfl
  | _, _, ns, .cons (ds := ds) h r, e => by
    cases h with
    | int i =>
      unfold ints? at e
      cases e2 : ints? ds with
      | none => rw [e2] at e; cases e
      | some ms =>
        rw [e2] at e
        cases e
        rw [ints_ok r e2]
        rfl
    | _ => cases e
theorem hold_ints {h : Heap} : ∀ {ns : List Int} {its : List Value}, Vals (ns.map V.int) its → PySem.W.HoldAll h its ns
  | [], _, .nil => PySem.W.HoldAll.nil
  | n :: ns, _, .cons r rs => by
    obtain ⟨t, e⟩ := r
    subst e
    exact PySem.W.HoldAll.cons (PySem.W.holds_int n t) (hold_ints rs)
def maxI (n : Int) (ns : List Int) : Int := ns.foldl (fun a y => if a < y then y else a) n
def rMaxT (K : PySem.W.Frag) : List V → Hp → VK → Prop := fun xs H Q => ∃ (a : Addr) (n : Int) (ns : List Int), xs = [.ref a] ∧ SqT K H a ((n :: ns).map V.int) ∧ Q (.int (PySem.W.maxOf n ns)) H
def rMinT (K : PySem.W.Frag) : List V → Hp → VK → Prop := fun xs H Q => ∃ (a : Addr) (n : Int) (ns : List Int), xs = [.ref a] ∧ SqT K H a ((n :: ns).map V.int) ∧ Q (.int (PySem.W.minOf n ns)) H
section
variable {X : Cx}
theorem cr_maxT (hc : X.calm = true) (hu : X.A.units + 64 < cLine) : CallR X (.builtin "max") (rMaxT X.K) := by
  intro pins s σ H vs us Q I r h
  obtain ⟨a, n, ns, rfl, hs, q⟩ := h
  obtain ⟨its, rv, hl, _⟩ := I.tuple hs
  rw [Vals.ref1 r]
  refine PySem.W.max_tuple_datum (α := Int) (x := n) (xs := ns) (I.ok.hd hc) hl (hold_ints rv) (Nat.lt_of_le_of_lt (by show X.A.units + 1 + 0 ≤ _; omega) hu) fun i v h' tk _ hv hk => ?_
  obtain ⟨as, rd⟩ := hv
  cases rd
  exact ⟨.int _, H, I.kept hk, ⟨_, rfl⟩, q⟩
theorem cr_minT (hc : X.calm = true) (hu : X.A.units + 64 < cLine) : CallR X (.builtin "min") (rMinT X.K) := by
  intro pins s σ H vs us Q I r h
  obtain ⟨a, n, ns, rfl, hs, q⟩ := h
  obtain ⟨its, rv, hl, _⟩ := I.tuple hs
  rw [Vals.ref1 r]
  refine PySem.W.min_tuple_datum (α := Int) (x := n) (xs := ns) (I.ok.hd hc) hl (hold_ints rv) (Nat.lt_of_le_of_lt (by show X.A.units + 1 + 0 ≤ _; omega) hu) fun i v h' tk _ hv hk => ?_
  obtain ⟨as, rd⟩ := hv
  cases rd
  exact ⟨.int _, H, I.kept hk, ⟨_, rfl⟩, q⟩
end
def dMaxT (f : Int → List Int → Int) : List D → Option D := fun ds => match ds with
  | [.tup ds] => match ints? ds with
    | some (n :: ns) => some (.int (f n ns))
    | _ => none
  | _ => none
theorem cd_maxT {G : Glb} {X : Cx} (hK : X.K = G.K) : CallD G (rMaxT X.K) (dMaxT PySem.W.maxOf) := ⟨fun ad S H st xs ds d Q su so r e q => by
  unfold dMaxT at e
  split at e
  · rename_i ys
    obtain ⟨v, rfl, rv⟩ := reps1 r
    split at e
    · rename_i n ns en
      cases e
      cases rv with
      | tup h2 r2 =>
        rename_i a vs
        have ev := ints_ok r2 en
        subst ev
        exact ⟨a, n, ns, rfl, hK ▸ Same.sqT su h2.sqT, Post.here su so (.int _) q⟩
    · cases e
  · cases e⟩
theorem cd_minT {G : Glb} {X : Cx} (hK : X.K = G.K) : CallD G (rMinT X.K) (dMaxT PySem.W.minOf) := ⟨fun ad S H st xs ds d Q su so r e q => by
  unfold dMaxT at e
  split at e
  · rename_i ys
    obtain ⟨v, rfl, rv⟩ := reps1 r
    split at e
    · rename_i n ns en
      cases e
      cases rv with
      | tup h2 r2 =>
        rename_i a vs
        have ev := ints_ok r2 en
        subst ev
        exact ⟨a, n, ns, rfl, hK ▸ Same.sqT su h2.sqT, Post.here su so (.int _) q⟩
    · cases e
  · cases e⟩
end DL

/-! DL, nineteenth part: tuple(range(a, b)), sum of a list. -/
namespace DL
open PySem PySem.Spec PyProof.Rows L2
noncomputable instance (a b : Int) : Decidable (RgOk a b) := Classical.propDecidable _
noncomputable def dTupRg (x y : D) : Option D := match x, y with
  | .int a, .int b => if RgOk a b then some (.tup (rangeD a (b - a).toNat)) else none
  | _, _ => none
theorem reps_rg {G : Glb} {ad : List Addr} {S : Hp} (a : Int) (n : Nat) : Reps G ad S ((List.range n).map fun i => V.int (a + (i : Nat))) (rangeD a n) := by
  unfold rangeD
  generalize List.range n = l
  induction l with
  | nil => exact .nil
  | cons i l ih => exact .cons (.int _) ih
section
variable {G : Glb} {X : Cx} {W : WX} {O : Ow} {p p2 pos pos2 : Pos} {a b : Expr} {ma mb : ME}
theorem de_tupRg (hc : X.calm = true) (ht : X.mg "tuple" = none) (hr : X.mg "range" = none) (ha : DE G X W O a ma) (hb : DE G X W O b mb) (hg : Gl X "tuple" := by rfl) (hg2 : Gl X "range" := by rfl)
    (na : starEach [.Call (.Name "range" p2) [a, b] [] pos2] X.env = (false, eval (.Call (.Name "range" p2) [a, b] [] pos2) X.env) :: starEach [] X.env := by rfl)
    (nr : starEach [a, b] X.env = (false, eval a X.env) :: starEach [b] X.env := by rfl) (nb : starEach [b] X.env = (false, eval b X.env) :: starEach [] X.env := by rfl) (hp : (backTo pos2 (starEach [b] X.env)).any (·.1) = false := by rfl) :
    DE G X W O (.Call (.Name "tuple" p) [.Call (.Name "range" p2) [a, b] [] pos2] [] pos) (mOp dTupRg ma mb) := by
  obtain ⟨ta, tb, pa, pb, w⟩ := two_parts (k := fun x y => ret? (dTupRg x y)) ha hb
  refine ⟨_, pe_tupRg hc hg ht (prg_2 hg2 hr pa pb nr nb hp) na, fun b S env st σ H Q I h => w b S env st σ H _ (fun x y H2 => ∃ i j, x = .int i ∧ y = .int j ∧ RgOk i j ∧ ∀ q, H2 q = none → Q (.ref q) (upd H2 q (.tup (rgV i j)))) I h fun x y dx dy S' H' st' e I' rx ry hk => ?_⟩
  obtain ⟨d, e1, q⟩ := wp_ret hk
  cases rx with
  | int i =>
    cases ry with
    | int j =>
      have e1 : (if RgOk i j then some (D.tup (rangeD i (j - i).toNat)) else none) = some d := e1
      split at e1
      · rename_i ok
        cases e1
        exact ⟨i, j, rfl, rfl, ok, fun z hz => Post.tup I'.sub I'.sto hz (reps_rg i (j - i).toNat) (Post.from_ e I'.sto q)⟩
      · cases e1
    | _ => cases e1
  | _ => cases e1
end
def dSumL : List D → Option D := fun ds => match ds with
  | [.lst ds] => (ints? ds).map fun ns => .int ns.sum
  | _ => none
theorem cd_sumL {G : Glb} {X : Cx} (hK : X.K = G.K) : CallD G (rSum X.K) dSumL := ⟨fun ad S H st xs ds d Q su so r e q => by
  unfold dSumL at e
  split at e
  · rename_i ys
    obtain ⟨v, rfl, rv⟩ := reps1 r
    cases en : ints? ys with
    | none => rw [en] at e; cases e
    | some ns =>
      rw [en] at e
      cases e
      cases rv with
      | lst h2 r2 =>
        rename_i a vs
        have ev := ints_ok r2 en
        subst ev
        exact ⟨a, ns, rfl, SqL.of (su _ _ h2), Post.here su so (.int _) q⟩
  · cases e⟩
end DL

/-! DL, twentieth part: __init__ with defaults, own == by a table of classes. -/
namespace DL
open PySem PySem.Spec PyProof.Rows L2
theorem funToD {K : PySem.W.Frag} {x qual : Str} {st : Stmt} {f : Addr} {fd : FuncData} (F : Fun K x qual st f fd) : FunD K x qual (defArgs st) (defBody st) (defScope st) [] [] f fd := by
  obtain ⟨oc, od, kV, doc, pm, an, cdv, ct, osl, e, l, c⟩ := F.ex
  exact ⟨⟨oc, od, .none, kV, doc, pm, an, cdv, ct, osl, e, l, c, .inl ⟨rfl, rfl⟩, .inl rfl⟩, F.kp⟩
theorem funD_mk {K : PySem.W.Frag} {x qual : Str} {st : Stmt} {f T : Addr} {oc : Value} {od an : Option Addr} {osl : Array (Option Value)} {kV doc pm cdv ct : Value} {to : Obj} {its : List Value} {n : Nat} {dvs : List V}
    (l : K.lookup f = some ⟨oc, od, .func (PySem.W.fnOf x qual (defArgs st) (defBody st) (defScope st) (.ref T) kV doc pm an cdv ct), osl⟩) (c : PySem.W.codeIn K cdv qual = true) (k : PySem.W.keepIn K (.ref f) = true)
    (lT : K.lookup T = some to) (dT : to.data = .seq its.toArray n) (hd : dvs ≠ []) (hv : Vals dvs its) : FunD K x qual (defArgs st) (defBody st) (defScope st) dvs [] f (PySem.W.fnOf x qual (defArgs st) (defBody st) (defScope st) (.ref T) kV doc pm an cdv ct) :=
  ⟨⟨oc, od, .ref T, kV, doc, pm, an, cdv, ct, osl, rfl, l, c, .inr ⟨hd, T, to, its, n, rfl, lT, dT, hv⟩, .inl rfl⟩, k⟩
section
variable {P : Program} {w : World} {K : PySem.W.Frag} {mg : Str → Option Value} {base : Heap}
/-- __init__ -/
theorem fnID {G : Glb} {x0 qual : Str} {st : Stmt} {dvs : List V} {kws : List (Str × V)} {f : Addr} {fd : FuncData} {N ps : List Str} {c k n : Nat} {m : MS} (F : FunD K x0 qual (defArgs st) (defBody st) (defScope st) dvs kws f fd) (S : FnScope N ps (defScope st)) (hK : K = G.K) (hps : ps.length = n + 1) (hN : ps.length ≤ N.length)
    (hbody : ∀ (x dx : Addr) (cdv : Value) (A : Around) (outer : List Env) (s : Shared) (H : Hp) (E : XK), XC k G (cxOf (L2.CX P w) P w K mg base N qual (defScope st) f cdv A outer s H E) (fun cls d _ H' => E cls d H') → XT (cxOf (L2.CX P w) P w K mg base N qual (defScope st) f cdv A outer s H E) →
      DSs G (cxOf (L2.CX P w) P w K mg base N qual (defScope st) f cdv A outer s H E) (fun cls d _ H' => E cls d H') (selfO x dx) (fun _ => True) (selfO x dx) (defBody st) (selfO x dx) m) :
    FnOk P w K mg base (L2.CX P w) (k + 1) f fd ps (spI G c n (initM c N.length m)) := by
  refine F.ok S (fun vs H Q E h => ?_) fun cdv A outer s H vs Q E hr h => ?_
  · obtain ⟨b, ds, st0, x, dx, ws, rfl, _, _, _, _, hl, _⟩ := h
    rw [List.length_cons, hl, hps]
  · obtain ⟨b, ds, st0, x, dx, ws, rfl, rfl, hx, hd, hne, hl, hs, so, r, h⟩ := h
    have xc : XC k G (cxOf (L2.CX P w) P w K mg base N qual (defScope st) f cdv A outer s (upd (upd b.H dx (.own x)) x (.ins (G.cl c) dx [])) E) (fun cls d _ H' => E cls d H') :=
      { tk := takes_of rfl rfl rfl rfl, po := passes_of rfl, calm := rfl, hr := hr, K := hK }
    obtain ⟨t, p, wt⟩ := (hbody x dx cdv A outer s _ E xc ⟨rfl, rfl⟩).ex
    refine ⟨t, p, ?_⟩
    have I0 := DI.start (n := N.length - 1 - ws.length) hs so (.cons (.non) r)
    have I1 := I0.born (c := c) hx hd hne (by simp)
    have e1 : N.length - 1 - ws.length = N.length - 1 - ds.length := by rw [r.len]
    have e2 : start N (V.ref x :: ws) = ((V.non :: ws).map some ++ List.replicate (N.length - 1 - ws.length) none).set 0 (some (.ref x)) := by
      show (V.ref x :: ws).map some ++ List.replicate (N.length - (V.ref x :: ws).length) none = _
      rw [List.length_cons, show N.length - (ws.length + 1) = N.length - 1 - ws.length by omega]
      rfl
    rw [e2]
    refine wt b b.S _ st0 _ _ _ I1 ?_
    have e3 : ((D.non :: ds).map some ++ List.replicate (N.length - 1 - ws.length) none).set 0 (some (.obj c [])) = some (.obj c []) :: (ds.map some ++ List.replicate (N.length - 1 - ds.length) none) := by
      rw [e1]; rfl
    rw [e3]
    unfold initM at h
    cases e : m (some (.obj c []) :: (ds.map some ++ List.replicate (N.length - 1 - ds.length) none)) st0 with
    | nx env st1 =>
      rw [e] at h
      intro S1 σ1 H1 _ I2
      obtain ⟨c', vs', fs', q1, q2, q3, q4, q5, q6, q7, q8, q9, q10, q11⟩ := I2.self_ 0 rfl
      have q3 : H1 x = some (.ins (G.cl c') dx vs') := q3
      have q5 : S1 x = none := q5
      have q7 : b.H x = none := q7
      have q9 : x ∉ b.ad := q9
      dsimp only at h
      rw [q1] at h
      have sm : Same S1 (upd S1 x (.ins (G.cl c') dx vs')) := fun a o ha => by
        rw [upd_ne (fun z => by rw [z, q5] at ha; cases ha)]; exact ha
      have nw : ∀ a o, upd S1 x (.ins (G.cl c') dx vs') a = some o → (a = x ∧ o = .ins (G.cl c') dx vs') ∨ S1 a = some o := fun a o ha => by
        by_cases hc : a = x
        · subst hc; rw [upd_same] at ha; exact .inl ⟨rfl, (Option.some.inj ha).symm⟩
        · rw [upd_ne hc] at ha; exact .inr ha
      have h : ∀ S' H', Ext b.ad b.S b.H S' H' → Same S' H' → StoOk G b.ad S' st1 H' → Rep G b.ad S' (.ref x) (.obj c' fs') → Q .non H' := h
      refine h (upd S1 x (.ins (G.cl c') dx vs')) H1 ⟨I2.s0.trans sm, fun a o ha => ?_, I2.keep⟩ (fun a o ha => ?_) (I2.sto.known sm fun a ha => ?_) (.obj upd_same (q11.mono sm))
      · rcases nw a o ha with ⟨rfl, _⟩ | z
        · exact .inr q7
        · exact I2.new a o z
      · rcases nw a o ha with ⟨rfl, rfl⟩ | z
        · exact q3
        · exact I2.sub a o z
      · rw [upd_ne (show a ≠ x from fun z => q9 (z ▸ ha))]
        exact (I2.sto.has ha).1
    | rt d st1 => rw [e] at h; exact h.elim
    | bk env st1 => rw [e] at h; exact h.elim
    | ct env st1 => rw [e] at h; exact h.elim
    | er y env st1 =>
      rw [e] at h
      intro cls dd O' S1 σ1 H1 _ _ I2 rx
      exact h cls dd S1 H1 I2.fin I2.sub I2.sto rx
    | bad => rw [e] at h; exact h.elim
end
/-! ### what the printed texts name -/
/-- a method as it stands behind the top -/
structure MetOk (K : PySem.W.Frag) (x qual : Str) (st : Stmt) (ps : List Str) (f : Addr) (fd : FuncData) : Prop where
  F : Fun K x qual st f fd
  b : Binds K fd ps []
/-- a class's __init__, with its defaults -/
structure IniOk (G : Glb) (mg : Str → Option Value) (cn qual : Str) (st : Stmt) (ps : List Str) (dvs : List V) (c : Nat) (f : Addr) (fd : FuncData) : Prop where
  F : FunD G.K "__init__" qual (defArgs st) (defBody st) (defScope st) dvs [] f fd
  g : mg cn = some (.ref (G.cl c))
  mkC : Mk G.K (G.cl c) f
  b : ∀ j, j ≤ dvs.length → ∃ ds, Vals (dvs.drop j) ds ∧ Binds G.K fd ps ds
theorem IniOk.plain {G : Glb} {mg : Str → Option Value} {cn qual : Str} {st : Stmt} {ps : List Str} {c : Nat} {f : Addr} {fd : FuncData} (F : Fun G.K "__init__" qual st f fd) (g : mg cn = some (.ref (G.cl c))) (mk : Mk G.K (G.cl c) f) (b : Binds G.K fd ps []) : IniOk G mg cn qual st ps [] c f fd :=
  ⟨funToD F, g, mk, fun j hj => ⟨[], by rw [List.drop_nil]; exact .nil, b⟩⟩
section
variable {G : Glb} {X : Cx} {W : WX} {O : Ow} {pos p : Pos} {x : Str} {e : Expr} {es : List Expr} {ma : MA} {k j n n' : Nat} {f : Addr} {fd : FuncData} {ps : List Str} {m : List D → M D} {ci : Nat} {dvs : List V} {dds : List D}
theorem de_makeD (c : XC k G X W) (mk : Mk G.K (G.cl ci) f) (F : FnOk X.prog X.w X.K X.mg X.base (L2.CX X.prog X.w) j f fd ps (spI G ci n m)) (hm : X.mg x = some (.ref (G.cl ci))) (hb : ∃ ds, Vals dvs ds ∧ Binds G.K fd ps ds) (rd : ∀ ad S, Reps G ad S dvs dds) (ha : DA G X W O (e :: es) ma)
    (hln : Len ma n') (hjk : j + 1 ≤ k := by decide) (hn : n' + dds.length = n := by rfl) (hg : Gl X x := by rfl) (hdb : (x == ("__debug__" : Str)) = false := by decide) (he : starEach (e :: es) X.env = (false, eval e X.env) :: starEach es X.env := by rfl) (hpl : (backTo pos (starEach es X.env)).any (·.1) = false := by rfl) :
    DE G X W O (.Call (.Name x p) (e :: es) [] pos) (mCallD m dds ma) := by
  obtain ⟨dl, hd, hb⟩ := hb
  exact de_make c (c.K ▸ mk) F hm (c.K ▸ hb) hd rd ha hjk hln hn hg hdb he hpl
end
/-! ### == by a table -/
/-- the __eq__ of the class c -/
structure EqAt (P : Program) (w : World) (G : Glb) (K : PySem.W.Frag) (mg : Str → Option Value) (base : Heap) (k : Nat) (okT : Tag → Bool) (c : Nat) (m : List D → M D) : Prop where
  ex : ∃ j f fd ps, j ≤ k ∧ FnOk P w K mg base (L2.CX P w) j f fd ps (spD G 2 m) ∧ PySem.W.findIn G.K (.ref (G.cl c)) "__eq__" = some (some (.ref f)) ∧ PySem.W.isFn G.K (.ref f) = true ∧ Binds G.K fd ps []
  nf : ∀ t, okT t = true → PySem.W.notFirst G.K (G.cl c) (tagV G t) = true
def rOwnT (G : Glb) (K : PySem.W.Frag) (eqs : Nat → Option (List D → M D)) : R2 := fun x y H Q => ∃ c m, eqs c = some m ∧ rOwn K (G.cl c) (spD G 2 m) x y H Q
theorem op_ownT {G : Glb} {X : Cx} {k kk : Nat} {okT : Tag → Bool} {eqs : Nat → Option (List D → M D)} (hK : X.K = G.K) (hr : Room kk X.A) (hk : k ≤ kk) (E : ∀ c m, eqs c = some m → EqAt X.prog X.w G X.K X.mg X.base k okT c m) : OpR X (compareOp .Eq) (rOwnT G X.K eqs) := by
  intro pins s σ H x y v u Q I rx ry h
  obtain ⟨c, m, e, h⟩ := h
  obtain ⟨j, f, fd, ps, hj, F, at_, isf, bn⟩ := (E c m e).ex
  exact op_own F (hr.mono (Nat.le_trans hj hk)) (hK ▸ at_) (hK ▸ isf) (hK ▸ bn) pins s σ H x y v u Q I rx ry h
/-- what == of two values is -/
def eqT (okI : Nat → Bool) (okT : Tag → Bool) (eqs : Nat → Option (List D → M D)) (x y : D) : M D := fun st => match x with
  | .obj c _ => match eqs c with
    | some m => if ((tagD okI y).any okT) = true then (noEr (m [x, y] st)).bind fun d st3 => match d with
      | .bl k => .ok (.bl k) st3
      | _ => .bad
      else .bad
    | none => .bad
  | x => ret? (dEq x y) st
def mEqT (okI : Nat → Bool) (okT : Tag → Bool) (eqs : Nat → Option (List D → M D)) (ma mb : ME) : ME := fun env st => (ma env st).bind fun x st1 => (mb env st1).bind fun y => eqT okI okT eqs x y
section
variable {G : Glb} {X : Cx} {W : WX} {O : Ow} {pos : Pos} {a b : Expr} {ma mb : ME} {k kk : Nat} {okI : Nat → Bool} {okT : Tag → Bool} {eqs : Nat → Option (List D → M D)}
theorem eqT_go (c : XC kk G X W) (T : ∀ c, okI c = true → InsT G c) (E : ∀ c m, eqs c = some m → EqAt X.prog X.w G X.K X.mg X.base k okT c m)
    {ad : List Addr} {S H : Hp} {st : List D} {x y : V} {dx dy : D} {Q : VK} {er : Ex → List D → Prop} (su : Same S H) (so : StoOk G ad S st H) (rx : Rep G ad S x dx) (ry : Rep G ad S y dy) (h : wpR (eqT okI okT eqs dx dy st) (fun d st' => ∃ k, d = .bl k ∧ Post G ad S H d st' Q) er) :
    rOwnT G X.K eqs x y H Q ∨ rEqD X.K x y H Q := by
  by_cases ho : ∃ c fs, dx = .obj c fs
  · obtain ⟨cc, fs, rfl⟩ := ho
    have h : wpR (match eqs cc with
      | some m => if ((tagD okI dy).any okT) = true then (noEr (m [.obj cc fs, dy] st)).bind fun d st3 => match d with
        | .bl k => Res.ok (D.bl k) st3
        | _ => .bad
        else .bad
      | none => .bad) (fun d st' => ∃ k, d = .bl k ∧ Post G ad S H d st' Q) er := h
    cases em : eqs cc with
    | none => rw [em] at h; exact h.elim
    | some m =>
      rw [em] at h
      dsimp only at h
      split at h
      case isFalse => exact h.elim
      rename_i okt
      cases et : tagD okI dy with
      | none => rw [et] at okt; cases okt
      | some t =>
        rw [et] at okt
        have okt : okT t = true := okt
        cases rx with
        | obj h2 r2 =>
          rename_i aa dx vs
          refine .inl ⟨cc, m, em, aa, dx, vs, tagV G t, rfl, su _ _ h2, c.K ▸ tag_ok T su ry et, c.K ▸ (E cc m em).nf t okt, ⟨⟨S, H, ad⟩, _, st, rfl, rfl, su, so, .cons (.obj h2 r2) (.cons ry .nil), ?_⟩⟩
          have hk2 := wpR_bind h
          refine wpR_imp (wp_noEr hk2) (fun d st3 z => ?_) fun _ _ z => z
          intro v S3 H3 x3 su3 so3 r3
          cases r3 with
          | bl kq =>
            have z : ∃ k, D.bl kq = .bl k ∧ Post G ad S H (.bl kq) st3 Q := z
            obtain ⟨_, _, z⟩ := z
            exact ⟨⟨kq, rfl⟩, z (.bl kq) S3 H3 x3 su3 so3 (.bl kq)⟩
          | _ => exact z.elim
  · have hk' : wpR (ret? (dEq dx dy) st) (fun d st' => ∃ k, d = .bl k ∧ Post G ad S H d st' Q) er := by
      cases dx <;> first | exact h | exact absurd ⟨_, _, rfl⟩ ho
    obtain ⟨d, e1, k, _, q⟩ := wp_ret hk'
    exact .inr ((opd_eq c.K).go ad S H st x y dx dy d Q su so rx ry e1 q)
theorem eqT_bl {st : List D} {dx dy : D} {ok : D → List D → Prop} {er : Ex → List D → Prop} (h : wpR (eqT okI okT eqs dx dy st) ok er) : wpR (eqT okI okT eqs dx dy st) (fun d st' => ∃ k, d = .bl k ∧ ok d st') er := by
  cases e : eqT okI okT eqs dx dy st with
  | err x st1 => rw [e] at h; exact h
  | bad => rw [e] at h; exact h
  | ok d st1 =>
    rw [e] at h
    have h : ok d st1 := h
    suffices q : ∃ k, d = .bl k from (show ∃ k, d = .bl k ∧ ok d st1 from let ⟨k, hk⟩ := q; ⟨k, hk, h⟩)
    by_cases ho : ∃ c fs, dx = .obj c fs
    · obtain ⟨cc, fs, rfl⟩ := ho
      have e : (match eqs cc with
        | some m => if ((tagD okI dy).any okT) = true then (noEr (m [.obj cc fs, dy] st)).bind fun d st3 => match d with
          | .bl k => Res.ok (D.bl k) st3
          | _ => .bad
          else .bad
        | none => .bad) = .ok d st1 := e
      cases em : eqs cc with
      | none => rw [em] at e; cases e
      | some m =>
        rw [em] at e
        dsimp only at e
        split at e
        case isFalse => cases e
        cases e2 : noEr (m [.obj cc fs, dy] st) with
        | err x st2 => rw [e2] at e; cases e
        | bad => rw [e2] at e; cases e
        | ok d2 st2 =>
          rw [e2] at e
          have e : (match d2 with
            | .bl k => Res.ok (D.bl k) st2
            | _ => .bad) = .ok d st1 := e
          split at e
          · cases e; exact ⟨_, rfl⟩
          · cases e
    · have e' : ret? (dEq dx dy) st = .ok d st1 := by
        cases dx <;> first | exact e | exact absurd ⟨_, _, rfl⟩ ho
      unfold dEq at e'
      cases e3 : eqD dx dy with
      | none => rw [e3] at e'; cases e'
      | some b => rw [e3] at e'; cases e'; exact ⟨_, rfl⟩
theorem de_eqT (c : XC kk G X W) (T : ∀ c, okI c = true → InsT G c) (E : ∀ c m, eqs c = some m → EqAt X.prog X.w G X.K X.mg X.base k okT c m) (ha : DE G X W O a ma) (hb : DE G X W O b mb)
    (hk : k ≤ kk := by decide) (hm : behindInMarks .Eq b = false := by first | exact nomark _ | rfl) : DE G X W O (.Compare a [.Eq] [b] pos) (mEqT okI okT eqs ma mb) := by
  obtain ⟨ta, tb, pa, pb, w⟩ := two_parts (k := fun x y => eqT okI okT eqs x y) ha hb
  refine ⟨_, pe_cmpR (OpR.or (op_ownT c.K c.hr hk E) (op_eqD c.hr.units)) pa pb hm, fun b S env st σ H Q I h => w b S env st σ H _ (fun x y H2 => rOwnT G X.K eqs x y H2 Q ∨ rEqD X.K x y H2 Q) I h fun x y dx dy S' H' st' e I' rx ry hk => ?_⟩
  refine eqT_go c T E I'.sub I'.sto rx ry (wpR_imp (eqT_bl hk) (fun d st3 z => ?_) fun _ _ z => z)
  exact let ⟨k, e1, z⟩ := z; ⟨k, e1, Post.from_ e I'.sto z⟩
theorem dt_eqT (c : XC kk G X W) (T : ∀ c, okI c = true → InsT G c) (E : ∀ c m, eqs c = some m → EqAt X.prog X.w G X.K X.mg X.base k okT c m) (ha : DE G X W O a ma) (hb : DE G X W O b mb)
    (hk : k ≤ kk := by decide) (hm : behindInMarks .Eq b = false := by first | exact nomark _ | rfl) : DT G X W O (.Compare a [.Eq] [b] pos) (mTest (mEqT okI okT eqs ma mb)) := by
  obtain ⟨ta, pa, wa⟩ := ha.ex
  obtain ⟨tb, pb, wb⟩ := hb.ex
  refine ⟨_, pt_cmpR (OpR.or (op_ownT c.K c.hr hk E) (op_eqD c.hr.units)) pa pb hm, fun b S env st σ H Q I h => ?_⟩
  have h' := wpR_bind h
  refine wa b S env st σ H _ I (wpR_imp (wpR_bind h') (fun dx st1 h1 => ?_) fun _ _ z => z)
  intro x S1 H1 x1 su1 so1 r1
  have I1 := I.ext x1 su1 so1
  refine wb b S1 env st1 σ H1 _ I1 (wpR_imp (wpR_bind h1) (fun dy st2 h2 => ?_) fun _ _ z => z.from_ x1 so1)
  intro y S2 H2 x2 su2 so2 r2
  have h2 := eqT_bl h2
  refine eqT_go c T E su2 so2 (r1.mono x2.same) r2 (wpR_imp h2 (fun d st3 z => ?_) fun _ _ z => z)
  obtain ⟨kq, e1, q⟩ := z
  subst e1
  refine ⟨kq, rfl, ?_⟩
  intro v S3 H3 x3 su3 so3 r3
  cases r3
  exact ⟨_, rfl, q _ _ ((x1.trans so1 x2).trans so2 x3) su3 so3⟩
end
theorem all_cons {α : Type} {P : α → Prop} {a : α} {l : List α} (h : P a) (r : ∀ f, f ∈ l → P f) : ∀ f, f ∈ a :: l → P f := fun f hf => (List.mem_cons.mp hf).elim (fun e => e ▸ h) (r f)
theorem elem_all {α : Type} [BEq α] [LawfulBEq α] {P : α → Prop} {l : List α} (h : ∀ f, f ∈ l → P f) {f : α} (hf : l.elem f = true) : P f := h f (List.mem_of_elem_eq_true hf)
/-! ### facts, in k_is' words -/
theorem kitO_any {K : PySem.W.Frag} {n : String} {D : Addr} {b : Bool} (hc : PySem.W.isClsIn K D = true) (ht : PySem.W.typeIn K (.ref D) = some (.type "type")) (hs : PySem.W.subIn K (.type n) (.ref D) = some b) : PySem.W.kitOne K (.type n) (.ref D) = some b := by
  unfold PySem.W.kitOne PySem.W.kitCls
  have hc' : (PySem.W.clsIn K D).isSome = true := hc
  split
  · rename_i e
    have e' : Value.type n = .ref D := by simpa using e
    cases e'
  · simp [hc', ht, hs]
end DL

/-! DL, 21st part: enumerate of a tuple. -/
namespace DL
open PySem PySem.Spec PyProof.Rows L2
theorem meets_enumerate_new1 {v : Value} {o : Obj} {H : Heap → Prop} (B : Begins v o H) :
    Meets (Builtin.«enumerate.__new__» ⟨[.type "enumerate", v], []⟩) (fun _ R s => H s.heap ∧
      R (.ok (.ret (.ref (s.heap.push o).objs.size))) { s with heap := (s.heap.push o).push { cls := .type "enumerate", data := .fields #[.none, .bool false, .ref s.heap.objs.size, rawInt 0, .none, .none] } }) :=
  .of_wp fun prog w A R s h => by
    obtain ⟨hp, g, d, tk, os⟩ := s; obtain ⟨h1, h⟩ := h
    have hsub := sub_enumerate
    have q1 : ∀ {A' : Around} {E : Value → Shared → Prop} {Q : Value → Shared → Prop}, Q (.ref hp.objs.size) ⟨hp.push o, g, d, tk, os⟩ → wpAny (model prog w) A' (pyIter v) Q E ⟨hp, g, d, tk, os⟩ :=
      fun q => B.iter prog w _ _ ⟨hp, g, d, tk, os⟩ _ h1 q
    wp_walk using q1
    refine wpAny_stack_any fun st => wpAny_pure ?_
    split
    · rename_i c _ _ _ _ _
      cases (c == Value.type "enumerate")
      · wp_walk using q1
        exact ⟨_, rfl, h⟩
      · wp_walk using q1
        exact ⟨_, rfl, h⟩
    · wp_walk using q1
      exact ⟨_, rfl, h⟩
section
variable {prog : Program} {w : World} {A : Around} {E : Value → Shared → Prop} {s : Shared}
theorem enum_begins1 {v : Value} {o : Obj} {H : Heap → Prop} {Q : Value → Shared → Prop} (B : Begins v o H) (h1 : H s.heap)
    (h : ∀ h', IsEnum h' (s.heap.objs.size + 1) s.heap.objs.size 0 .none → h'.get? s.heap.objs.size = some o → h'.objs.size = s.heap.objs.size + 2 →
      (∀ b o, s.heap.get? b = some o → h'.get? b = some o) → Q (.ref (s.heap.objs.size + 1)) { s with heap := h' }) :
    wpAny (model prog w) A (call (.type "enumerate") [v]) Q E s := by
  refine callType_new F.called_enumerate (by decide) (F.typeCall_enumerate_1 _) (F.newCall_enumerate_1 _) (fun obj => F.args_object_init_2 obj _) F.entry_enumerate_new
    (meets_enumerate_new1 B) ⟨h1, ?_⟩
  have hz : (s.heap.push o).objs.size = s.heap.objs.size + 1 := Heap.size_push ..
  show _ ∧ _
  rw [hz]
  have he : IsEnum ((s.heap.push o).push { cls := .type "enumerate", data := .fields #[.none, .bool false, .ref s.heap.objs.size, rawInt 0, .none, .none] }) (s.heap.objs.size + 1) s.heap.objs.size 0 .none := by
    have := Heap.get?_push_size (s.heap.push o)
      (o := { cls := .type "enumerate", data := .fields #[.none, .bool false, .ref s.heap.objs.size, rawInt 0, .none, .none] }) rfl
    rw [hz] at this; exact this
  refine ⟨⟨_, he, rfl⟩, h _ he (Heap.get?_push_of_some _ (Heap.get?_push_size _ B.free)) (by rw [Heap.size_push, hz]) fun b o x => Heap.get?_push_of_some _ (Heap.get?_push_of_some _ x)⟩
end
def IteT (K : PySem.W.Frag) (a : Addr) : It :=
  ⟨fun i H => ∃ (xs : List V) (x : V), SqT K H a xs ∧ xs[i]? = some x, fun i H v H' => ∃ T x, v = .ref T ∧ H T = none ∧ H' = upd H T (.tup [.int (i : Nat), x]) ∧ ∀ xs, SqT K H a xs → xs[i]? = some x, fun i H => ∃ xs : List V, SqT K H a xs ∧ xs.length = i⟩
theorem turn_enumT {P : Program} {w : World} {K : PySem.W.Frag} {elts : List Expr} {kk : Nat} {tpos : Pos} (a e it : Addr) (hae : a ≠ e) (hai : a ≠ it) :
    Turn P w K (.Tuple elts kk tpos) (IteT K a) [e, it] e (fun i h => (∃ old, IsEnum h e it ((i : Nat) : Int) old) ∧ h.IsTupleIter it a i ∧ e ≠ it) where
  mem := by simp
  obj := fun i h st b hb => by
    obtain ⟨⟨old, he⟩, ⟨o, ho, hc, hd⟩, _⟩ := st
    have e' : b = e ∨ b = it := by simpa using hb
    rcases e' with z | z
    · rw [z]; exact ⟨_, he, fun v q => nomatch q⟩
    · rw [z]; exact ⟨o, ho, fun v q => by rw [hd] at q; cases q⟩
  keep := fun i h h' st k => let ⟨⟨old, he⟩, hi, hne⟩ := st; ⟨⟨old, k e (by simp) _ he⟩, hi.at fun o q => k it (by simp) o q, hne⟩
  item := by
    intro X hP hw hK hc i pins s σ H E I hf st hg
    subst hP hw hK
    obtain ⟨⟨old, he⟩, hit, hne⟩ := st
    obtain ⟨xs, x, hq, hx⟩ := hg
    obtain ⟨its, rv, p, hz⟩ := I.tuple hq
    have p : s.heap.IsTuple a its.toArray := p
    obtain ⟨u, hu, ru⟩ := rv.get hx
    have hel : e < s.heap.objs.size := Heap.lt_size he
    have hil : it < s.heap.objs.size := by obtain ⟨_, q, _⟩ := hit; exact Heap.lt_size q
    have hlt : i < its.toArray.size := by
      rw [List.size_toArray]
      exact (List.getElem?_eq_some_iff.mp hu).1
    have D := Draws.tuple (prog := X.prog) (w := X.w) (A := X.A.in1) (I.ok.hd hc) it a hai its.toArray
    refine wpAny_pyNext_enum_itemD D he ⟨hit, p⟩ hlt hne (by simp [hne, Ne.symm hae]) fun x' h' tk hP ho hs' hT hsz hk => ?_
    have ex : x' = u := by
      have : its.toArray[i]? = some u := by simpa using hu
      rw [this] at hP
      exact (Option.some.inj hP).symm
    subst ex
    refine ⟨_, rfl, wpAny_letOwnedTupleGo_enum (s := { s with heap := h', toks := tk + 1 }) ho fun h'' he' sb => ?_⟩
    have hT2 : h''.get? s.heap.objs.size = some { cls := .type "tuple", data := .seq #[.int i tk, x'] } := (sb.2 _ (Nat.ne_of_gt hel)).trans hT
    have new : ObjOk X.prog X.w (upd H s.heap.objs.size (.tup [.int (i : Nat), x])) h'' s.heap.objs.size (.tup [.int (i : Nat), x]) :=
      ⟨by show 2 ≤ sizeLine; decide, [.int i tk, x'], .cons ⟨_, rfl⟩ (.cons ru .nil), ⟨_, hT2, rfl, _, rfl⟩⟩
    have I1 : Inv X pins σ (upd H s.heap.objs.size (.tup [.int (i : Nat), x])) { s with heap := h'', toks := tk + 1 } :=
      I.turnedNew (ch := [e, it]) (fun b ob hb q => (sb.2 b (fun z => hb (by simp [z]))).trans (hk b ob (fun z => hb (by simp [z])) (fun z => hb (by simp [z])) q)) hf (Nat.le_refl _) new
    refine ⟨.ref s.heap.objs.size, _, I1, rfl, ⟨_, x, rfl, I.hok.fresh (Nat.le_refl _), rfl, fun ys hy => by rw [I.tuple_inj hy hq]; exact hx⟩, ⟨⟨x', ?_⟩, hs'.1.at fun o q => (sb.2 it (Ne.symm hne)).trans q, hne⟩, fun b hb => ?_⟩
    · have e1 : ((i + 1 : Nat) : Int) = (i : Int) + 1 := by omega
      rw [e1]; exact he'
    · have hb' : b < s.heap.objs.size := by
        have e' : b = e ∨ b = it := by simpa using hb
        rcases e' with z | z
        · rw [z]; exact hel
        · rw [z]; exact hil
      rw [upd_ne (Nat.ne_of_lt hb')]
      exact (hf b hb).1
  done := by
    intro X hP hw hK hc i pins s σ H E I hf st hg
    subst hP hw hK
    obtain ⟨⟨old, he⟩, hit, hne⟩ := st
    obtain ⟨xs, hq, hx⟩ := hg
    obtain ⟨its, rv, p, hz⟩ := I.tuple hq
    have p : s.heap.IsTuple a its.toArray := p
    obtain ⟨f0, f1, f2, f3, f4, f5⟩ := hf it (by simp)
    have hl := rv.length
    have D := Draws.tuple (prog := X.prog) (w := X.w) (A := X.A.in1) (I.ok.hd hc) it a hai its.toArray
    have en : its.toArray.size = i := by rw [List.size_toArray, ← hl, hx]
    exact wpAny_pyNext_enum_endD D he ⟨by rw [en]; exact hit, p⟩ fun h' eb => ⟨rfl, I.turned (t' := s.toks) (fun b o hb q => eb b o hb q) f0 f1 f3 f4 f5⟩
  self := fun A i s Q E st h => let ⟨⟨_, he⟩, _⟩ := st; wpAny_pyIter_enum he h
def iEnumA (K : PySem.W.Frag) (ta : TA) : TI := fun σ H R => ta σ H fun vs H1 => ∃ a, vs = [.ref a] ∧ ((∃ xs, SqL K H1 a xs ∧ R (Ite K a) H1) ∨ ∃ xs, SqT K H1 a xs ∧ R (IteT K a) H1)
theorem pi_enumA {X : Cx} {e : Expr} {ta : TA} {p pos tpos : Pos} {elts : List Expr} {kk : Nat} (hg : Gl X "enumerate") (hm : X.mg "enumerate" = none) (ha : PA X [e] ta) (hs : starEach [e] X.env = [(false, eval e X.env)] := by rfl) :
    PI X (.Tuple elts kk tpos) (.Call (.Name "enumerate" p) [e] [] pos) (iEnumA X.K ta) := by
  refine ⟨fun pins s σ H R I h => ?_⟩
  refine Call_ (ld_blt I hg hm boot_enumerate (PyProof.Rows.callWith_type1 (thn (ha.run pos pins s σ H _ I h) fun us s1 ⟨vs, H1, I1, r1, q1⟩ => ?_) hs rfl))
  obtain ⟨a, ex, q1⟩ := q1
  subst ex
  cases r1 with
  | cons r rr =>
    cases rr
    cases r
    have fp : ∀ b ∈ [s1.heap.objs.size + 1, s1.heap.objs.size], FpOk X pins H1 b := fun b hb => by
      have e' : b = s1.heap.objs.size + 1 ∨ b = s1.heap.objs.size := by simpa using hb
      have hle : s1.heap.objs.size ≤ b := by
        rcases e' with z | z
        · rw [z]; exact Nat.le_add_right _ _
        · rw [z]; exact Nat.le_refl _
      exact I1.fpOk hle (I1.hok.fresh hle)
    rcases q1 with ⟨xs, hq, q⟩ | ⟨xs, hq, q⟩
    · obtain ⟨its, rv, p', hz⟩ := I1.list hq
      refine call_enumerate_list p'.isList fun h' he hit hsz hk => wpAny_pyIter_enum he ?_
      have I2 : Inv X pins σ H1 { s1 with heap := h' } := I1.kept (t' := s1.toks) hk
      exact ⟨s1.heap.objs.size + 1, [s1.heap.objs.size + 1, s1.heap.objs.size], _, _, H1, rfl, I2, turn_enum a (s1.heap.objs.size + 1) s1.heap.objs.size, ⟨⟨.none, he⟩, hit, Nat.succ_ne_self _⟩, fp, q⟩
    · obtain ⟨its, rv, p', hz⟩ := I1.tuple hq
      have p' : s1.heap.IsTuple a its.toArray := p'
      have hal : a < s1.heap.objs.size := by obtain ⟨_, q, _⟩ := p'; exact Heap.lt_size q
      refine enum_begins1 (begins_tuple a its.toArray) p' fun h' he hit hsz hk => wpAny_pyIter_enum he ?_
      have I2 : Inv X pins σ H1 { s1 with heap := h' } := I1.kept (t' := s1.toks) hk
      exact ⟨s1.heap.objs.size + 1, [s1.heap.objs.size + 1, s1.heap.objs.size], _, _, H1, rfl, I2, turn_enumT a (s1.heap.objs.size + 1) s1.heap.objs.size (Nat.ne_of_lt (Nat.lt_succ_of_lt hal)) (Nat.ne_of_lt hal), ⟨⟨.none, he⟩, ⟨_, hit, rfl, rfl⟩, Nat.succ_ne_self _⟩, fp, q⟩
section
variable {G : Glb} {ad : List Addr} {S : Hp}
theorem iter_enumT {a : Addr} {vs : List V} {ds : List D} (h : SqT G.K S a vs) (r : Reps G ad S vs ds) : IterOK G ad S (IteT G.K a) (numbered ds) := by
  intro i S' H' e su
  have h' := Same.sqT (e.trans su) h
  refine ⟨fun hi => ⟨vs, h', by rw [r.len, hi]; simp [numbered]⟩, fun d hd => ?_⟩
  obtain ⟨d0, hd0, rfl⟩ := numbered_get hd
  obtain ⟨v, hv, rv⟩ := r.get hd0
  refine ⟨⟨vs, v, h', hv⟩, fun x H'' ⟨T, y, e1, hT, e2, e3⟩ => ?_⟩
  subst e1; subst e2
  have e4 : v = y := Option.some.inj (hv.symm.trans (e3 vs h'))
  subst e4
  exact pair_new su hT (.int _) (rv.mono e)
end
def enumA? : List D → M (List D) := fun ds st => match ds with
  | [.lst ds] => .ok (numbered ds) st
  | [.rol ds] => .ok (numbered ds) st
  | [.tup ds] => .ok (numbered ds) st
  | _ => .bad
section
variable {G : Glb} {X : Cx} {W : WX} {O : Ow} {p pos : Pos} {a : Expr} {ma : MA}
theorem di_enumA {elts : List Expr} {kk : Nat} {tpos : Pos} (hK : X.K = G.K) (hm : X.mg "enumerate" = none) (ha : DA G X W O [a] ma) (hg : Gl X "enumerate" := by rfl) (hs : starEach [a] X.env = [(false, eval a X.env)] := by rfl) :
    DIt G X W O (.Tuple elts kk tpos) (.Call (.Name "enumerate" p) [a] [] pos) (mThenA ma enumA?) := by
  obtain ⟨t, pa, w⟩ := ha.ex
  refine ⟨_, pi_enumA hg hm pa hs, fun b S env st σ H R I h => args_walk (es := [a]) w I h fun vs ds S1 H1 st1 x1 su1 so1 r1 h1 => ?_⟩
  unfold enumA? at h1
  split at h1
  · cases r1 with
    | cons r rr =>
      cases rr
      cases r with
      | lst h2 h3 => exact ⟨_, rfl, .inl ⟨_, SqL.of (su1 _ _ h2), hK ▸ h1 _ _ _ x1 su1 so1 (iter_enum (SqL.of h2) h3)⟩⟩
  · cases r1 with
    | cons r rr =>
      cases rr
      cases r with
      | rol h2 h3 => exact ⟨_, rfl, .inl ⟨_, hK ▸ su1.seq h2, hK ▸ h1 _ _ _ x1 su1 so1 (iter_enum h2 h3)⟩⟩
  · cases r1 with
    | cons r rr =>
      cases rr
      cases r with
      | tup h2 h3 => exact ⟨_, rfl, .inr ⟨_, hK ▸ Same.sqT su1 h2.sqT, hK ▸ h1 _ _ _ x1 su1 so1 (iter_enumT h2.sqT h3)⟩⟩
  · exact h1.elim
end
end DL

/-! DL, 22nd part: a chained comparison as a test, lists joined and owned, xs[::-1] of a tuple, sum of a tuple. -/
namespace DL
open PySem PySem.Spec PyProof.Rows L2
theorem self_hv {x dx : Addr} {vs : List Nat} (h : 0 ∉ vs) : ∀ v ∈ vs, (selfO x dx).has v = false := fun v hv => by
  have : v ≠ 0 := fun z => h (z ▸ hv)
  exact has_mk (fun z => by cases z) (fun z => by cases z) (fun z => this (Option.some.inj z).symm)
section
variable {G : Glb} {X : Cx} {W : WX} {O : Ow} {pos : Pos} {a b c : Expr} {ma mb mc : ME} {op op' : CmpOp} {r r' : R2} {f g : D → D → Option D}
theorem dt_chain (ho : OpR X (compareOp op) r) (hf : OpD G r f) (ho' : OpR X (compareOp op') r') (hg : OpD G r' g) (ha : DE G X W O a ma) (hb : DE G X W O b mb) (hc : DE G X W O c mc) (hm : lastMarks [op, op'] [b, c] = false := by with_unfolding_all rfl) : DT G X W O (.Compare a [op, op'] [b, c] pos) (mTest (mChain f g ma mb mc)) := by
  obtain ⟨ta, pa, wa⟩ := ha.ex
  obtain ⟨tb, pb, wb⟩ := hb.ex
  obtain ⟨tc, pc, wc⟩ := hc.ex
  refine ⟨_, pt_chain ho ho' pa pb pc hm, fun b S env st σ H Q I h => ?_⟩
  have h' := wpR_bind h
  refine wa b S env st σ H _ I (wpR_imp (wpR_bind h') (fun dx st1 h1 => ?_) fun _ _ z => z)
  intro x S1 H1 x1 su1 so1 r1
  have I1 := I.ext x1 su1 so1
  refine wb b S1 env st1 σ H1 _ I1 (wpR_imp (wpR_bind h1) (fun dy st2 h2 => ?_) fun _ _ z => z.from_ x1 so1)
  intro y S2 H2 x2 su2 so2 r2
  have x12 := x1.trans so1 x2
  have I2 := I1.ext x2 su2 so2
  cases ef : f dx dy with
  | none => rw [ef] at h2; exact h2.elim
  | some d =>
    rw [ef] at h2
    refine hf.go b.ad S2 H2 st2 x y dx dy d _ su2 so2 (r1.mono x2.same) r2 ef ?_
    intro v S3 H3 x3 su3 so3 r3
    have x13 := x12.trans so2 x3
    have I3 := I2.ext x3 su3 so3
    cases r3 with
    | bl k =>
      refine ⟨k, rfl, ?_⟩
      cases k with
      | false => exact ⟨false, rfl, h2 S3 H3 x13 su3 so3⟩
      | true =>
        have h2 : wpR ((mc env st2).bind fun z => ret? (g dy z)) _ _ := h2
        refine wc b S3 env st2 σ H3 _ I3 (wpR_imp (wpR_bind h2) (fun dz st3 h3 => ?_) fun _ _ z => z.from_ x13 so3)
        intro z S4 H4 x4 su4 so4 r4
        obtain ⟨d', e1, q⟩ := wp_ret h3
        refine hg.go b.ad S4 H4 st3 y z dy dz d' _ su4 so4 ((r2.mono x3.same).mono x4.same) r4 e1 fun v S5 H5 x5 su5 so5 r5 => ?_
        cases r5 <;> first | exact q.elim | exact ⟨_, rfl, q _ _ ((x13.trans so3 x4).trans so4 x5) su5 so5⟩
    | _ => exact h2.elim
/-- a + b, lists, as a new list -/
def cat? (x y : D) : M (List D) := fun st => match x, y with
  | .lst xs, .lst ys => if xs.length + ys.length ≤ sizeLine then .ok (xs ++ ys) st else .bad
  | _, _ => .bad
def mCat (ma mb : ME) : MA := fun env st => (ma env st).bind fun x st1 => (mb env st1).bind fun y => cat? x y
theorem df_cat (ha : DE G X W O a ma) (hb : DE G X W O b mb) : DF G X W O (.BinOp a .Add b pos) (mCat ma mb) := by
  obtain ⟨ta, tb, pa, pb, w⟩ := two_parts (k := fun x y => cat? x y) ha hb
  refine ⟨_, pe_op op_cat pa pb, fun b S env st σ H Q I h => w b S env st σ H (fun ds st' => PostF G b.ad S H ds st' Q) (fun x y H2 => rCat x y H2 Q) I h fun x y dx dy S' H' st' e I' rx ry hk => ?_⟩
  unfold cat? at hk
  split at hk
  · split at hk
    · rename_i hl
      cases rx with
      | lst h1 r1 =>
        rename_i p vs
        cases ry with
        | lst h2 r2 =>
          rename_i q ws
          have hk : PostF G b.ad S H _ st' Q := hk
          exact ⟨p, q, vs, ws, rfl, rfl, I'.sub _ _ h1, I'.sub _ _ h2, by rw [r1.len, r2.len]; exact hl, fun l hl' => hk l _ S' H' e I'.sub I'.sto hl' (r1.append r2)⟩
    · exact hk.elim
  · exact hk.elim
end
section
variable {P : Program} {w : World} {K : PySem.W.Frag} {mg : Str → Option Value} {base : Heap}
/-- the law: its script made to a hand (by fH), then the rest over that cell -/
theorem lawD2 {G : Glb} {x y : Str} {st : Stmt} {f fH : Addr} {fd fdH : FuncData} {N : List Str} {k j : Nat} {rest : List Stmt} {m : MS} {mH : List D → M D} {O' : Ow} {p1 p2 p3 p4 p5 : Pos} (F : Fun K "law" "law" st f fd) (Sc : FnScope N ["_law_script"] (defScope st)) (hK : K = G.K)
    (hN1 : N[1]? = some x) (hl : Loc (defScope st) x) (hl0 : (defScope st).names.lookup ("_law_script" : Str) = some .local) (hy : (defScope st).names.lookup y = some .globalImplicit)
    (hbd : defBody st = .Assign [.Name x p1] (.Call (.Name y p2) [.Name "_law_script" p3] [] p4) p5 :: rest)
    (FH : FnOk P w K mg base (L2.CX P w) j fH fdH ["_law_script"] (spD G 1 mH)) (hmg : mg y = some (.ref fH)) (hkp : PySem.W.keepIn K (.ref fH) = true) (hb : Binds K fdH ["_law_script"] []) (hjk : j ≤ k)
    (hH : ∀ (ns : List Int), ns.length ≤ 63 → ∃ cells t, mH [.rol (ns.map .int)] [] = .ok (handD cells 0 0 t) [] ∧
      ∃ st', m (some (.rol (ns.map .int)) :: some (.tok 0) :: List.replicate (N.length - 2) none) [handD cells 0 0 t] = .rt (.bl true) st')
    (hrest : ∀ (cdv : Value) (A : Around) (outer : List Env) (s : Shared) (H : Hp) (E : XK), XC k G (cxOf (L2.CX P w) P w K mg base N "law" (defScope st) f cdv A outer s H E) (fun cls d _ H' => E cls d H') → XT (cxOf (L2.CX P w) P w K mg base N "law" (defScope st) f cdv A outer s H E) →
      DSs G (cxOf (L2.CX P w) P w K mg base N "law" (defScope st) f cdv A outer s H E) (fun cls d _ H' => E cls d H') {} (fun _ => True) {} rest O' m)
    (hfx : ∀ (cdv : Value) (A : Around) (outer : List Env) (s : Shared) (H : Hp) (E : XK), (cxOf (L2.CX P w) P w K mg base N "law" (defScope st) f cdv A outer s H E).fn x = true ∨ (defScope st).names.lookup x = some .local) (hdy : (y == ("__debug__" : Str)) = false := by decide) (hnl : 2 ≤ N.length := by decide) :
    FnOk P w K mg base (L2.CX P w) (k + 1) f fd ["_law_script"] (spLaw K) := by
  refine F.okX Sc (fun vs H Q E h => ?_) fun cdv A outer s H vs Q E hr h => ?_
  · obtain ⟨_, _, rfl, _⟩ := h
    rfl
  · obtain ⟨a, ns, rfl, hS, hns, hO, hQ⟩ := h
    have xc : XC k G (cxOf (L2.CX P w) P w K mg base N "law" (defScope st) f cdv A outer s H E) (fun cls d _ H' => E cls d H') :=
      { tk := takes_of rfl rfl rfl rfl, po := passes_of rfl, calm := rfl, hr := hr, K := hK }
    obtain ⟨t, p, wt⟩ := (hrest cdv A outer s H E xc ⟨rfl, rfl⟩).ex
    rw [hbd]
    have hN0 : N[0]? = some ("_law_script" : Str) := by
      have e := Sc.pre
      cases N with
      | nil => simp at hnl
      | cons n N => simp at e; simp [e]
    obtain ⟨cells, tt, eH, st', em⟩ := hH ns hns
    refine ⟨_, pss_cons (ps_set (i := 1) Sc.nd hN1 hl (pe_callS FH (hr.mono hjk) hy hmg hkp hb (fun σ => passAt xc.tk σ) (pa_cons (pe_var (i := 0) hN0 (.inl hl0)) pa_nil) hdy) (by rfl) (hfx cdv A outer s H E)) p, ?_⟩
    have e0 : start N [V.ref a] = some (V.ref a) :: List.replicate (N.length - 1) none := rfl
    show tAsg (tCallS (spD G 1 mH) (WE fun cls d _ H' => E cls d H') (tCons (tVar 0) tNil)) (gName 1) _ (start N [V.ref a]) H
    refine ⟨.ref a, rfl, ?_⟩
    have hSub : Same H H := .refl _
    refine ⟨⟨H, H, []⟩, [.rol (ns.map .int)], [], rfl, rfl, hSub, ⟨rfl, .nil, fun n b hn => by simp at hn⟩, .cons (.rol (hK ▸ hS) (reps_ints ns)) .nil, ?_⟩
    rw [eH]
    intro v S' H' x1 su1 so1 r1
    -- the hand is a cell from now on
    cases r1 with
    | lst h1 r1 =>
      rename_i pa vs
      cases r1 with
      | cons r1 rr =>
        cases r1 with
        | lst hc rc =>
          rename_i pc ws
          have ew : ws = cells.map V.int := ints_of rc
          subst ew
          have hne : pc ≠ pa := fun z => by
            subst z
            rw [h1] at hc
            have := Option.some.inj hc
            cases cells with
            | nil => cases this
            | cons c cells => cases this
          have hHpa : H pa = none := by
            rcases x1.new pa _ h1 with z | z
            · replace z : H pa = some (HO.lst _) := z
              rcases hO pa with q | ⟨_, _, q⟩
              · exact q
              · rw [q] at z; cases z
            · exact z
          let S2 : Hp := fun c => if c = pa then none else S' c
          have hS2 : ∀ c, c ≠ pa → S2 c = S' c := fun c hc => if_neg hc
          have hS2p : S2 pa = none := if_pos rfl
          have sub2 : Same S2 H' := fun c o ho => by
            by_cases hcp : c = pa
            · subst hcp; rw [hS2p] at ho; cases ho
            · rw [hS2 c hcp] at ho; exact su1 _ _ ho
          have same2 : Same H S2 := fun c o ho => by
            rw [hS2 c (ne_of_none ho hHpa)]
            exact x1.same _ _ ho
          have rc2 : Rep G [pa] S2 (.ref pc) (.lst (cells.map .int)) := .lst (by rw [hS2 pc hne]; exact hc) (reps_ints cells)
          cases rr with
          | cons r2 rr =>
            cases r2
            cases rr with
            | cons r3 rr =>
              cases r3
              cases rr with
              | cons r4 rr =>
                cases r4
                cases rr
                have so2 : StoOk G [pa] S2 [handD cells 0 0 tt] H' := by
                  refine ⟨rfl, by simp, fun n b hb => ?_⟩
                  cases n with
                  | zero =>
                    have e : pa = b := by simpa using hb
                    subst e
                    exact ⟨hS2p, _, _, rfl, su1 _ _ h1, .cons rc2 (.cons (.int _) (.cons (.int _) (.cons (.int _) .nil)))⟩
                  | succ n => simp at hb
                have I : DI G ⟨S2, H', [pa]⟩ {} S2 ([D.rol (ns.map .int), D.tok 0].map some ++ List.replicate (N.length - 2) none) [handD cells 0 0 tt] ([V.ref a, V.ref pa].map some ++ List.replicate (N.length - 2) none) H' :=
                  DI.start sub2 so2 (.cons (.rol (same2.seq (hK ▸ hS)) (reps_ints ns)) (.cons (.tok rfl) .nil))
                have eσ : (start N [V.ref a]).set 1 (some (V.ref pa)) = [V.ref a, V.ref pa].map some ++ List.replicate (N.length - 2) none := by
                  obtain ⟨l, hl⟩ : ∃ l, N.length = l + 2 := ⟨N.length - 2, by omega⟩
                  show (some (V.ref a) :: List.replicate (N.length - 1) none).set 1 (some (V.ref pa)) = _
                  rw [hl]
                  rfl
                refine wt ⟨S2, H', [pa]⟩ S2 _ _ _ H' _ (eσ ▸ I) ?_
                have em' : m ([D.rol (ns.map .int), D.tok 0].map some ++ List.replicate (N.length - 2) none) [handD cells 0 0 tt] = .rt (.bl true) st' := em
                rw [em']
                intro v S3 H3 _ _ _ r3
                cases r3
                exact hQ H3
end
end DL

/-! DL, 23rd part: xs[::-1] of a list or a tuple, sum of a tuple. -/
namespace HT
open PySem PySem.Spec PyProof.Rows
section
variable {prog : Program} {w : World} {A : Around} {E : Value → Shared → Prop} {s : Shared}
theorem adjust_rev (n : Nat) : Builtin.Slice.sliceAdjust none none (-1) (n : Int) = ((n : Int) - 1, -1) := by
  unfold Builtin.Slice.sliceAdjust
  simp
theorem places_rev (n : Nat) : Builtin.Slice.slicePlaces ((n : Int) - 1) (-1) (-1) = n := by
  unfold Builtin.Slice.slicePlaces
  by_cases h : (n : Int) - 1 > -1
  · simp only [show ¬ ((-1 : Int) > 0) by decide, if_false, h, if_true, show (- -1 : Int) = 1 by decide, Int.ediv_one]
    omega
  · simp only [show ¬ ((-1 : Int) > 0) by decide, if_false, h]
    omega
theorem sliceApplied_rev {sl : Addr} {vl vu vs : Value} {n : Nat} {Q : Int × Int × Nat → Shared → Prop} (hs : s.heap.IsSliceOf sl vl vu vs) (pl : IsPart vl none) (pu : IsPart vu none) (ps : IsPart vs (some (-1)))
    (h : Q ((n : Int) - 1, -1, n) s) : wpAny (model prog w) A (Builtin.Slice.sliceApplied (.ref sl) (pure (n : Int))) Q E s := by
  obtain ⟨os, hos, hcs, hds⟩ := id hs
  unfold Builtin.Slice.sliceApplied Builtin.Slice.sliceFields
  refine wpAny_bind (wpAny_bind (wpAny_field hos hds (x := vl) rfl (wpAny_bind (wpAny_field hos hds (x := vu) rfl (wpAny_bind (wpAny_field hos hds (x := vs) rfl (wpAny_pure ?_)))))))
  refine wpAny_bind (slicePart_ ps ?_)
  show wpAny _ _ (if ((-1 : Int) == 0) = true then _ else _) _ _ s
  rw [if_neg (by decide)]
  refine wpAny_bind (slicePart_ pl (wpAny_bind (slicePart_ pu (wpAny_bind (wpAny_pure ?_)))))
  show wpAny _ _ (match Builtin.Slice.sliceAdjust none none (-1) (n : Int) with | (lo, hi) => pure (lo, (-1 : Int), Builtin.Slice.slicePlaces lo hi (-1))) _ _ s
  rw [adjust_rev n]
  show wpAny _ _ (pure ((n : Int) - 1, (-1 : Int), Builtin.Slice.slicePlaces ((n : Int) - 1) (-1) (-1))) _ _ s
  rw [places_rev]
  exact wpAny_pure h
theorem pick_rev (xs : Array Value) : ((List.range xs.size).filterMap fun (m : Nat) => xs[(((xs.size : Int) - 1) + (m : Int) * (-1)).toNat]?).toArray = xs.toList.reverse.toArray := by
  congr 1
  have e : ∀ n, n ≤ xs.size → (List.range n).filterMap (fun (m : Nat) => xs[(((xs.size : Int) - 1) + (m : Int) * (-1)).toNat]?) = xs.toList.reverse.take n := by
    intro n
    induction n with
    | zero => intro _; rfl
    | succ n ih =>
      intro hn
      rw [List.range_succ, List.filterMap_append, ih (by omega), List.take_succ]
      have e1 : (((xs.size : Int) - 1) + (n : Int) * (-1)).toNat = xs.size - 1 - n := by omega
      have h2 : xs.size - 1 - n < xs.size := by omega
      have h3 : xs.toList.reverse[n]? = some (xs[xs.size - 1 - n]'h2) := by
        rw [List.getElem?_reverse (by rw [Array.length_toList]; exact hn)]
        simp [h2]
      rw [h3]
      simp only [List.filterMap_cons, List.filterMap_nil, e1, Array.getElem?_eq_getElem h2]
      rfl
  rw [e xs.size (Nat.le_refl _), List.take_of_length_le (by simp)]
theorem getItem_tuple_rev {t sl : Addr} {items : Array Value} {vl vu vs : Value} {Q : Value → Shared → Prop} (ht : IsTup s.heap t items) (hs : s.heap.IsSliceOf sl vl vu vs) (pl : IsPart vl none) (pu : IsPart vu none) (ps : IsPart vs (some (-1)))
    (h : Q (.ref s.heap.objs.size) { s with heap := s.heap.push { cls := .type "tuple", data := .seq items.toList.reverse.toArray } })
    (hsz : items.size ≤ sizeLine) : wpAny (model prog w) A (getItem (.ref t) (.ref sl)) Q E s := by
  have htake : sizeOk (.seq items.toList.reverse.toArray) := by
    show items.toList.reverse.toArray.size ≤ sizeLine
    rw [List.size_toArray, List.length_reverse, Array.length_toList]
    exact hsz
  obtain ⟨os, hos, hcs, hds⟩ := id hs
  have hTs : s.TypeIs (.ref sl) "slice" := ⟨os, hos, hcs⟩
  unfold getItem
  try with_reducible refine wpAny_holding ?_
  first | refine wpAny_bind (wpAny_pure ?_) | skip
  refine wpAny_bind (wpAny_sequenceKey ht.typeIs (by decide) ?_)
  refine wpAny_bind (wpAny_callSpecial?_slot (name := Str.ofString "__getitem__") ht.typeIs PyProof.Rows.slot_tuple_getitem
    (wpAny_call_entry PyProof.Rows.slot_tuple_getitem ht.typeIs entry_tuple_getitem ?_ (args_tuple_getitem _ _)))
  show wpAny _ _ (Builtin.Tuple.tupleItemsOf (.ref t) >>= _) _ _ s
  refine wpAny_bind (tupleItemsOf_ ht ?_)
  refine wpAny_bind (wpAny_typeOf hTs ?_)
  rw [if_pos (by decide)]
  refine wpAny_bind (sliceApplied_rev hs pl pu ps ?_)
  have hno : ¬ ((((items.size : Int) - 1) == 0 && (-1 : Int) == 1 && items.size == items.size) = true) := by
    intro q
    rw [Bool.and_eq_true, Bool.and_eq_true] at q
    have q1 : (-1 : Int) = 1 := eq_of_beq q.1.2
    omega
  show wpAny _ _ (if ((((items.size : Int) - 1) == 0 && (-1 : Int) == 1 && items.size == items.size) = true) then _ else _) _ _ s
  rw [if_neg hno, pick_rev]
  first
    | exact wpAny_bind (m := Builtin.Tuple.tupleExact _) (wpAny_newObj_type (wpAny_pure ⟨_, rfl, wpAny_pure h⟩) htake)
    | exact wpAny_bind (m := Builtin.Tuple.tupleExact _) (wpAny_newObj_type (wpAny_bind (wpAny_pure (wpAny_pure ⟨_, rfl, wpAny_pure h⟩))) htake)
    | exact wpAny_bind (wpAny_bind (m := Builtin.Tuple.tupleExact _) (wpAny_newObj_type (wpAny_pure (wpAny_pure ⟨_, rfl, wpAny_pure h⟩)) htake))
    | exact wpAny_bind (wpAny_bind (m := Builtin.Tuple.tupleExact _) (wpAny_newObj_type (wpAny_pure ⟨_, rfl, wpAny_pure h⟩) htake))
end
end HT
namespace DL
open PySem PySem.Spec PyProof.Rows L2
section
variable {X : Cx}
def tRevA (K : PySem.W.Frag) (te : TE) : TE := fun σ H Q => te σ H fun x H1 => ∃ a xs, x = .ref a ∧ ((SqL K H1 a xs ∧ ∀ p, H1 p = none → Q (.ref p) (upd H1 p (.lst xs.reverse))) ∨ (SqT K H1 a xs ∧ ∀ p, H1 p = none → Q (.ref p) (upd H1 p (.tup xs.reverse))))
theorem pe_revA {e : Expr} {te : TE} {k : Nat} {p1 p2 p3 pos : Pos} (he : PE X e te) : PE X (.Subscript e (.Slice none none (some (.UnaryOp .USub (.Constant (.int 1) k p1) p2)) p3) pos) (tRevA X.K te) := by
  refine ⟨fun pins s σ H Q I h => ?_⟩
  refine Subscript_ (thn (he.run pins s σ H _ I h) fun v s1 ⟨x, H1, I1, r1, q1⟩ => ?_)
  obtain ⟨a, xs, ex, q1⟩ := q1
  subst ex
  cases r1
  have hst : PO X (some (.UnaryOp .USub (.Constant (.int 1) k p1) p2)) (tPart (tUn (rU fun i => .int (-i)) (tC (.int 1)))) := po_some (pe_un un_neg pe_int)
  refine wpAny_Slice (thn (po_none.run pins s1 σ H1 (fun o H2 => o = none ∧ H2 = H1) I1 ⟨rfl, rfl⟩) fun vl s2 ⟨l, H2, I2, pl, el, e2⟩ => ?_)
  subst el e2
  refine thn (po_none.run pins s2 σ H2 (fun o H3 => o = none ∧ H3 = H2) I2 ⟨rfl, rfl⟩) fun vu s3 ⟨u, H3, I3, pu, eu, e3⟩ => ?_
  subst eu e3
  refine thn (hst.run pins s3 σ H3 (fun o H4 => o = some (-1) ∧ H4 = H3) I3 ⟨1, rfl, -1, rfl, rfl, rfl⟩) fun vs s4 ⟨o, H4, I4, ps, eo, e4⟩ => ?_
  subst eo e4
  have I5 : Inv X pins σ H4 { s4 with heap := s4.heap.push { cls := .type "slice", data := .fields #[vl, vu, vs] } } := I4.kept (t' := s4.toks) fun b ob q => Heap.get?_push_of_some _ q
  rcases q1 with ⟨hx, q⟩ | ⟨hx, q⟩
  · obtain ⟨its, r, ht, hz⟩ := I5.list hx
    have hlen := r.length
    show wpAny (model X.prog X.w) X.A (subscriptTail e (.Slice none none (some (.UnaryOp .USub (.Constant (.int 1) k p1) p2)) p3) (.ref a) (.ref s4.heap.objs.size)) (EP X pins σ Q) X.xe { s4 with heap := s4.heap.push { cls := .type "slice", data := .fields #[vl, vu, vs] } }
    refine tail_any (ops := [.ref a, .ref s4.heap.objs.size]) ht.isList.typeIs (PySem.slot_list_getitem.lookup) ?_ (by with_unfolding_all rfl)
    refine wpAny_getItem_list_slice ht.isList (Heap.IsSliceOf.new _ vl vu vs) pl pu ps (by decide) ?_ (by rw [List.size_toArray]; omega)
    rw [PySem.W.krv_pick]
    refine ⟨.ref _, _, I5.laid (t' := s4.toks) (o := .lst xs.reverse) (fun b ob q => Heap.get?_push_of_some _ q) (Nat.le_refl _) ?_, rfl, q _ (I5.hok.fresh (Nat.le_refl _))⟩
    exact ⟨by rw [List.length_reverse]; exact hz, _, 0, r.reverse, Heap.get?_push_size _ rfl⟩
  · obtain ⟨its, r, ht, hz⟩ := I5.tuple hx
    have hlen := r.length
    show wpAny (model X.prog X.w) X.A (subscriptTail e (.Slice none none (some (.UnaryOp .USub (.Constant (.int 1) k p1) p2)) p3) (.ref a) (.ref s4.heap.objs.size)) (EP X pins σ Q) X.xe { s4 with heap := s4.heap.push { cls := .type "slice", data := .fields #[vl, vu, vs] } }
    refine tail_any (ops := [.ref a, .ref s4.heap.objs.size]) ht.typeIs (PyProof.Rows.slot_tuple_getitem.lookup) ?_ (by with_unfolding_all rfl)
    refine HT.getItem_tuple_rev ht (Heap.IsSliceOf.new _ vl vu vs) pl pu ps ?_ (by rw [List.size_toArray]; omega)
    refine ⟨.ref _, _, I5.laid (t' := s4.toks) (o := .tup xs.reverse) (fun b ob q => Heap.get?_push_of_some _ q) (Nat.le_refl _) ?_, rfl, q _ (I5.hok.fresh (Nat.le_refl _))⟩
    exact ⟨by rw [List.length_reverse]; exact hz, _, r.reverse, IsTup.new _ _⟩
def rSumT (K : PySem.W.Frag) : List V → Hp → VK → Prop := fun vs H Q => ∃ (a : Addr) (ns : List Int), vs = [V.ref a] ∧ SqT K H a (ns.map V.int) ∧ Q (.int ns.sum) H
theorem cr_sumT (hc : X.calm = true) : CallR X (.builtin "sum") (rSumT X.K) := by
  intro pins s σ H vs us Q I r h
  obtain ⟨a, ns, rfl, hs, q⟩ := h
  obtain ⟨its, rv, hl, _⟩ := I.tuple hs
  have hl : s.heap.IsTuple a its.toArray := hl
  rw [Vals.ref1 r]
  have hi : IntsAre its ns := intsAre_of rv
  obtain ⟨xs, hx⟩ := (show IntsAre its.toArray.toList ns from hi).allInts.items
  have hn : numsOf its.toArray.toList = ns := by rw [show its.toArray.toList = its from rfl, hi.numsOf]
  rw [hx] at hl hn
  rw [nums_intItems] at hn
  refine PySem.W.ktm_sumG (I.ok.hd hc) hl fun h' tk t' hk => ?_
  have e : preSum (numAt xs) xs.size = ns.sum := by
    rw [preSum_eq, List.take_of_length_le (by simp), hn]
  rw [e]
  exact ⟨.int _, H, I.kept hk, ⟨_, rfl⟩, q⟩
end
def dSumA : List D → Option D := fun ds => match ds with
  | [.lst ds] => (ints? ds).map fun ns => .int ns.sum
  | [.tup ds] => (ints? ds).map fun ns => .int ns.sum
  | _ => none
theorem cd_sumA {G : Glb} {X : Cx} (hK : X.K = G.K) : CallD G (fun xs H Q => rSum X.K xs H Q ∨ rSumT X.K xs H Q) dSumA := ⟨fun ad S H st xs ds d Q su so r e q => by
  unfold dSumA at e
  split at e
  · rename_i ys
    obtain ⟨v, rfl, rv⟩ := reps1 r
    cases en : ints? ys with
    | none => rw [en] at e; cases e
    | some ns =>
      rw [en] at e
      cases e
      cases rv with
      | lst h2 r2 =>
        rename_i a vs
        have ev := ints_ok r2 en
        subst ev
        exact .inl ⟨a, ns, rfl, SqL.of (su _ _ h2), Post.here su so (.int _) q⟩
  · rename_i ys
    obtain ⟨v, rfl, rv⟩ := reps1 r
    cases en : ints? ys with
    | none => rw [en] at e; cases e
    | some ns =>
      rw [en] at e
      cases e
      cases rv with
      | tup h2 r2 =>
        rename_i a vs
        have ev := ints_ok r2 en
        subst ev
        exact .inr ⟨a, ns, rfl, hK ▸ Same.sqT su h2.sqT, Post.here su so (.int _) q⟩
  · cases e⟩
theorem Reps.reverse {G : Glb} {ad : List Addr} {S : Hp} : ∀ {vs : List V} {ds : List D}, Reps G ad S vs ds → Reps G ad S vs.reverse ds.reverse
  | _, _, .nil => .nil
  | _, _, .cons h r => by
    rw [List.reverse_cons, List.reverse_cons]
    exact (Reps.reverse r).append (.cons h .nil)
def dRev : D → Option D
  | .lst xs => some (.lst xs.reverse)
  | .tup xs => some (.tup xs.reverse)
  | _ => none
section
variable {G : Glb} {X : Cx} {W : WX} {O : Ow} {pos : Pos} {e : Expr} {me : ME}
theorem de_rev {k : Nat} {p1 p2 p3 : Pos} (hK : X.K = G.K) (he : DE G X W O e me) : DE G X W O (.Subscript e (.Slice none none (some (.UnaryOp .USub (.Constant (.int 1) k p1) p2)) p3) pos) (mUn dRev me) := by
  obtain ⟨t, p, w⟩ := he.ex
  refine ⟨_, pe_revA p, fun b S env st σ H Q I h => w b S env st σ H _ I (wpR_imp (wpR_bind h) (fun dx st1 h1 => ?_) fun _ _ z => z)⟩
  intro x S1 H1 x1 su1 so1 r1
  obtain ⟨d, e1, q⟩ := wp_ret h1
  have q' := Post.from_ x1 so1 q
  cases r1 with
  | lst h2 r2 => cases e1; exact ⟨_, _, rfl, .inl ⟨SqL.of (su1 _ _ h2), fun z hz => Post.lst su1 so1 hz r2.reverse q'⟩⟩
  | tup h2 r2 => cases e1; exact ⟨_, _, rfl, .inr ⟨hK ▸ Same.sqT su1 h2.sqT, fun z hz => Post.tup su1 so1 hz r2.reverse q'⟩⟩
  | _ => cases e1
end
end DL

/-! DL, 24th part: reckoning with objects, owned lists, errors with fields. -/
namespace DL
open PySem PySem.Spec PyProof.Rows L2
theorem envGet (env : Env') (i : Nat) : (match env[i]? with | some (some d) => some d | _ => none) = get? env i := by
  induction env generalizing i with
  | nil => rfl
  | cons o r ih =>
    cases i with
    | zero => cases o <;> rfl
    | succ i => exact ih i
/-- how an __init__'s end is a call's -/
def initR : Out → Res D
  | .nx (some d :: _) st1 => .ok d st1
  | .er x _ st1 => .err x st1
  | _ => .bad
theorem initM_eq {c n : Nat} {m : MS} {ds : List D} {st : List D} (h : ds.length ≤ n - 1) : initM c n m ds st = initR (m (some (.obj c []) :: mkEnv (n - 1) ds) st) := by
  rw [mkEnv_eq (n - 1) ds h]
  unfold initM initR
  cases m (some (.obj c []) :: (ds.map some ++ List.replicate (n - 1 - ds.length) none)) st with
  | nx e s => cases e with
    | nil => rfl
    | cons o e => cases o <;> rfl
  | _ => rfl
def pushR (i : Nat) (o : Option D) (r : Res D) (env : Env') : Out := match o with
  | some (.lst ds) => match r with
    | .ok d st1 => if ds.length < sizeLine then .nx (env.set i (some (.lst (ds ++ [d])))) st1 else .bad
    | .err x st1 => .er x env st1
    | .bad => .bad
  | _ => .bad
theorem mPush_eq (i : Nat) (me : ME) (env : Env') (st : List D) : mPush i me env st = pushR i (get? env i) (me env st) env := by
  unfold mPush pushR
  rw [← envGet]
  cases env[i]? with
  | none => rfl
  | some o => cases o with
    | none => rfl
    | some d => cases d <;> rfl
theorem pushR_ok (i : Nat) (ds : List D) (d : D) (st1 : List D) (env : Env') (h : ds.length < 100000) : pushR i (some (.lst ds)) (.ok d st1) env = .nx (env.set i (some (.lst (ds ++ [d])))) st1 := by
  show (if ds.length < sizeLine then Out.nx (env.set i (some (.lst (ds ++ [d])))) st1 else .bad) = _
  rw [if_pos (Nat.lt_of_lt_of_le h (by decide))]
/-- a method's call, the object known -/
def methR (ci : Nat) (name : Str) (f : List D → M D) (ma : List D → Res (List D)) (d : D) : M D := fun st1 => match d with
  | .obj c fs => if c = ci ∧ fs.lookup name = none then (ma st1).bind fun ds => f (d :: ds) else .bad
  | _ => .bad
def fldSR (okF : Nat → Str → Bool) (f : Str) (c : Nat) (fs : List (Str × D)) (env : Env') (r : Res D) : Out := match r with
  | .ok d st1 => if okF c f = true ∧ fs.length < 1000 then .nx (some (.obj c (putD f d fs)) :: env) st1 else .bad
  | .err x st1 => .er x (some (.obj c fs) :: env) st1
  | .bad => .bad
def raiseR (c : Nat) (fs : List Str) (env : Env') (r : Res (List D)) : Out := match r with
  | .ok ds st1 => if ds.length = fs.length ∧ ds.length ≤ 100 then .er ⟨c, some (fs.zip ds).reverse⟩ env st1 else .bad
  | .err x st1 => .er x env st1
  | .bad => .bad
def chainR (f g : D → D → Option D) (mc : List D → Res D) (x y : D) : M D := fun st2 => match f x y with
  | some (.bl true) => (mc st2).bind fun z => ret? (g y z)
  | some (.bl false) => .ok (.bl false) st2
  | _ => .bad
theorem ev6 :
    (∀ (okF : Nat → Str → Bool) (f : Str) (me : ME) (env : Env') (st : List D), mFld okF f me env st = (me env st).bind fun d => ret? (dFld okF f d)) ∧
    (∀ (f : List D → M D) (dds : List D) (ma : MA) (env : Env') (st : List D), mCallD f dds ma env st = (ma env st).bind fun ds => f (ds ++ dds)) ∧
    (∀ (ci : Nat) (name : Str) (f : List D → M D) (mo : ME) (ma : MA) (env : Env') (st : List D), mMeth ci name f mo ma env st = (mo env st).bind fun d => methR ci name f (ma env) d) ∧
    (∀ (okF : Nat → Str → Bool) (f : Str) (me : ME) (c : Nat) (fs : List (Str × D)) (env : Env') (st : List D), mFldS okF f me (some (.obj c fs) :: env) st = fldSR okF f c fs env (me (some (.obj c fs) :: env) st)) ∧
    (∀ (c : Nat) (fs : List Str) (ma : MA) (env : Env') (st : List D), mRaiseF c fs ma env st = raiseR c fs env (ma env st)) ∧
    (∀ (f g : D → D → Option D) (ma mb mc : ME) (env : Env') (st : List D), mChain f g ma mb mc env st = (ma env st).bind fun x st1 => (mb env st1).bind fun y => chainR f g (mc env) x y) ∧
    (∀ (i : Nat) (m : MA) (env : Env') (st : List D), mSetF i m env st = match m env st with
      | .ok ds st1 => .nx (env.set i (some (.lst ds))) st1
      | .err x st1 => .er x env st1
      | .bad => .bad) ∧
    (∀ (ma mb : ME) (env : Env') (st : List D), mCat ma mb env st = (ma env st).bind fun x st1 => (mb env st1).bind fun y => cat? x y) ∧
    (∀ (i : Nat) (me : ME) (env : Env') (st : List D), mPush i me env st = pushR i (get? env i) (me env st) env) ∧
    (∀ (okI : Nat → Bool) (okT : Tag → Bool) (eqs : Nat → Option (List D → M D)) (ma mb : ME) (env : Env') (st : List D), mEqT okI okT eqs ma mb env st = (ma env st).bind fun x st1 => (mb env st1).bind fun y => eqT okI okT eqs x y) ∧
    (∀ (e : Env') (d : D) (st : List D), initR (.nx (some d :: e) st) = .ok d st) ∧ (∀ (x : Ex) (e : Env') (st : List D), initR (.er x e st) = .err x st) :=
  ⟨fun _ _ _ _ _ => rfl, fun _ _ _ _ _ => rfl, fun _ _ _ _ _ _ _ => rfl, fun _ _ _ _ _ _ _ => rfl, fun _ _ _ _ _ => rfl, fun _ _ _ _ _ _ _ => rfl, fun _ _ _ _ => rfl, fun _ _ _ _ => rfl, mPush_eq, fun _ _ _ _ _ _ _ => rfl, fun _ _ _ => rfl, fun _ _ _ => rfl⟩
theorem ev7 :
    (∀ (i : Nat) (st : List D), fits? [] st = .ok [] st) ∧
    (∀ (xs : List D), dTuple (.lst xs) = some (.tup xs)) ∧ (∀ (xs : List D), dRev (.tup xs) = some (.tup xs.reverse)) ∧ (∀ (xs : List D), dRev (.lst xs) = some (.lst xs.reverse)) ∧
    (∀ (f : D → D → Option D) (g : D → D → Option D) (mc : List D → Res D) (x y : D) (st : List D) (b : Bool), f x y = some (.bl b) → chainR f g mc x y st = if b = true then (mc st).bind fun z => ret? (g y z) else .ok (.bl false) st) ∧
    (∀ (a b : Bool), dIsB (.bl a) (.bl b) = some (.bl (decide (a = b)))) ∧ (∀ (a b : Bool), dNotB (.bl a) (.bl b) = some (.bl (!decide (a = b)))) ∧
    (∀ (x y : D), zipA? [x, y] = zipA? [x, y]) :=
  ⟨fun _ _ => rfl, fun _ => rfl, fun _ => rfl, fun _ => rfl, fun f g mc x y st b h => by unfold chainR; rw [h]; cases b <;> rfl, fun _ _ => rfl, fun _ _ => rfl, fun _ _ => rfl⟩
theorem ev : type_of% ev1 ∧ type_of% ev2 ∧ type_of% ev3 ∧ type_of% ev4 ∧ type_of% ev5 ∧ type_of% ev6 := ⟨ev1, ev2, ev3, ev4, ev5, ev6⟩
/-- a comprehension whose items draw -/
theorem lcD_inv {env : Env'} {g : MG} {me : ME} (P : List D → Prop) (Q : D → Prop) (R : D → Prop) (h : ∀ d st, Q d → P st → ∃ env1 y st', g d env = some env1 ∧ me env1 st = .ok y st' ∧ P st' ∧ R y) :
    ∀ (ds : List D) (st : List D), (∀ d ∈ ds, Q d) → P st → ∃ ys st', lcD env g mYes me ds st = .ok ys st' ∧ P st' ∧ ys.length = ds.length ∧ ∀ y ∈ ys, R y
  | [], st, _, p => ⟨[], st, rfl, p, rfl, fun y hy => by cases hy⟩
  | d :: ds, st, hq, p => by
    obtain ⟨e1, y, s1, a, b, p1, r⟩ := h d st (hq d List.mem_cons_self) p
    obtain ⟨ys, s2, c, p2, l, rs⟩ := lcD_inv P Q R h ds s1 (fun q hh => hq q (List.mem_cons_of_mem _ hh)) p1
    refine ⟨y :: ys, s2, ?_, p2, by simp [l], fun z hz => (List.mem_cons.mp hz).elim (fun e => e ▸ r) (rs z)⟩
    unfold lcD
    simp only [a, mYes, noEr, bind_ok, if_true]
    rw [b]
    simp only [noEr, bind_ok, c]
/-- a comprehension by the items' values -/
theorem lcD_mapL {env : Env'} {g : MG} {mt : MT} {me : ME} {st : List D} {α β : Type} (u : α → D) (v : β → D) (f : α → β) (l : List α) (h : ∀ a ∈ l, ∃ env1, g (u a) env = some env1 ∧ mt env1 st = .ok true st ∧ me env1 st = .ok (v (f a)) st) : lcD env g mt me (l.map u) st = .ok ((l.map f).map v) st := by
  induction l with
  | nil => rfl
  | cons a l ih =>
    obtain ⟨e1, h1, h2, h3⟩ := h a List.mem_cons_self
    have ih := ih fun b hb => h b (List.mem_cons_of_mem _ hb)
    rw [List.map_cons]
    unfold lcD
    simp only [h1]
    rw [h2]
    simp only [noEr, bind_ok, if_pos]
    rw [h3]
    simp only [bind_ok]
    rw [ih]
    rfl
/-- a loop by steps -/
theorem forD_fold {g : MG} {body : MS} {α β : Type} (u : α → D) (E : β → Env' → Prop) (f : β → α → β) {st : List D} (Q : β → List α → Prop) (hQ : ∀ b a l, Q b (a :: l) → Q (f b a) l) :
    ∀ (l : List α) (b : β) (env : Env'), (∀ b a l env, Q b (a :: l) → E b env → ∃ env1 env2, g (u a) env = some env1 ∧ body env1 st = .nx env2 st ∧ E (f b a) env2) → Q b l → E b env → ∃ env', forD g body (l.map u) env st = .nx env' st ∧ E (l.foldl f b) env'
  | [], b, env, _, _, e => ⟨env, rfl, e⟩
  | a :: l, b, env, h, q, e => by
    obtain ⟨e1, e2, h1, h2, h3⟩ := h b a l env q e
    obtain ⟨e3, h4, h5⟩ := forD_fold u E f Q hQ l (f b a) e2 h (hQ b a l q) h3
    refine ⟨e3, ?_, h5⟩
    rw [List.map_cons, forD_cons, h1]
    simp only [h2]
    exact h4
theorem mFor_of {mi : MA} {g : MG} {body : MS} {env : Env'} {st st1 : List D} {ds : List D} {o : Out} (h : mi env st = .ok ds st1) (k : forD g body ds env st1 = o) : mFor mi g body env st = o := by unfold mFor; rw [h]; exact k
theorem mThenA_of {ma : MA} {f : List D → M (List D)} {env : Env'} {st st1 : List D} {xs : List D} {r : Res (List D)} (h : ma env st = .ok xs st1) (k : f xs st1 = r) : mThenA ma f env st = r := by unfold mThenA; rw [h]; exact k
theorem mItems_of {me : ME} {env : Env'} {st st1 : List D} {x : D} {r : Res (List D)} (h : me env st = .ok x st1) (k : items? x st1 = r) : mItems me env st = r := by unfold mItems; rw [h]; exact k
theorem mLC_of {mi : MA} {vs : List Nat} {g : MG} {mt : MT} {me : ME} {env : Env'} {st st1 st2 : List D} {ds ys : List D} (h : mi env st = .ok ds st1) (k : lcD (wipeE env vs) g mt me ds st1 = .ok ys st2) (hl : ys.length ≤ 100000) : mLC mi vs g mt me env st = .ok (.lst ys) st2 := by
  unfold mLC; rw [h, bind_ok, k, bind_ok]
  unfold lstOk
  rw [if_pos (Nat.le_trans hl (by decide))]
theorem mSeq_of {a b : MS} {env e : Env'} {st s : List D} (h : a env st = .nx e s) : mSeq a b env st = b e s := by unfold mSeq; rw [h]
theorem mSet_of {i : Nat} {m : ME} {env : Env'} {st s : List D} {d : D} (h : m env st = .ok d s) : mSet i m env st = .nx (env.set i (some d)) s := by unfold mSet mDo; rw [h]
theorem putD_same (f : Str) (d x : D) (r : List (Str × D)) : putD f d ((f, x) :: r) = (f, d) :: r := by
  unfold putD; rw [if_pos rfl]
theorem putD_ne {f g : Str} (h : g ≠ f) (d x : D) (r : List (Str × D)) : putD f d ((g, x) :: r) = (g, x) :: putD f d r := by
  conv => lhs; unfold putD
  rw [if_neg h]
theorem look_same (f : Str) (x : D) (r : List (Str × D)) : List.lookup f ((f, x) :: r) = some x := by
  rw [List.lookup_cons]; simp
theorem look_ne {f g : Str} (h : f ≠ g) (x : D) (r : List (Str × D)) : List.lookup f ((g, x) :: r) = List.lookup f r := by
  rw [List.lookup_cons]
  have : (f == g) = false := by simpa using h
  rw [this]
end DL

/-! x[i] = e of an owned list -/
namespace DL
open PySem PySem.Spec PyProof.Rows L2
def setIR (i : Nat) (d : D) (ds : List D) (env : Env') : Res D → Out
  | .ok (.int k) st1 => match ixN ds.length k with
    | some j => .nx (env.set i (some (.lst (ds.set j d)))) st1
    | none => .bad
  | .err x st1 => .er x env st1
  | _ => .bad
def mSetI (i : Nat) (mi m : ME) : MS := mDo m fun d env st => match env[i]? with
  | some (some (.lst ds)) => setIR i d ds env (mi env st)
  | _ => .bad
section
variable {G : Glb} {X : Cx} {W : WX} {O Ob : Ow} {OE : Ow → Prop} {pos : Pos}
theorem ds_setI (i : Nat) {x : Str} {p1 p3 : Pos} {ei e : Expr} {mi me : ME} (he : DE G X W O e me) (hx : DE G X W O ei mi) (hO : OE O := by first | trivial | rfl) (hN : X.N[i]? = some x := by rfl) (hm : i ∈ O.own := by decide) (hxi : O.exi ≠ some i := by decide) (hsf : O.slf ≠ some i := by decide)
    (hv : Vis X.env.scope x := by first | exact Or.inl rfl | exact Or.inr (Or.inl rfl) | exact Or.inr (Or.inr rfl)) (hd : (x == ("__debug__" : Str)) = false := by decide) (hcd : (x == ("__classdict__" : Str)) = false := by decide)
    (ha : ∀ v, assign (.Subscript (.Name x p1) ei p3) X.env v = (do
      let ov ← holding [v] (eval (.Name x p1) X.env)
      let iv ← holding [v, ov] (eval ei X.env)
      standAt p3
      holding [v, ov, iv] (setItem ov iv v)
      release [v, ov, iv] []) := by intro _; rfl)
    (hs : swapsWithSole [.Subscript (.Name x p1) ei p3] e pos.line X.env = pure false := by rfl) (hw : swappedStores [.Subscript (.Name x p1) ei p3] e X.env = pure none := by rfl)
    (h1 : (assignEach [.Subscript (.Name x p1) ei p3] X.env).map (·.2) = [assign (.Subscript (.Name x p1) ei p3) X.env] := by rfl) :
    DS G X W Ob OE O (.Assign [.Subscript (.Name x p1) ei p3] e pos) O (mSetI i mi me) := by
  obtain ⟨t, p, w⟩ := he.ex
  obtain ⟨t2, p2, w2⟩ := hx.ex
  refine ⟨_, ps_asg p (pg_sub (pe_var hN hv hd hcd) p2 set_list ha) hs hw h1, fun b S env st σ H D I h => do_part hO w I h fun v d S' H' st' I' r q => ?_⟩
  cases e1 : env[i]? with
  | none => rw [e1] at q; exact q.elim
  | some o =>
    rw [e1] at q
    cases o with
    | none => exact q.elim
    | some d0 =>
      obtain ⟨a, ws, es, q1, q2, q3, q4, q5, q6, q7⟩ := I'.own i d0 hm e1
      subst q1
      dsimp only at q
      refine ⟨_, q2, w2 b S' env st' σ H' _ I' ?_⟩
      cases e2 : mi env st' with
      | ok di st1 =>
        rw [e2] at q
        intro vi S2 H2 x2 su2 so2 r2
        cases di with
        | int k =>
          cases r2
          have I2 := I'.ext x2 su2 so2
          obtain ⟨a', ws', es', y1, y2, y3, y4, y5, y6, y7⟩ := I2.own i _ hm e1
          cases y1
          have ea : a' = a := by
            have := y2.symm.trans q2
            simpa using this
          subst ea
          unfold setIR at q
          dsimp only at q
          cases ej : ixN es.length k with
          | none => rw [ej] at q; exact q.elim
          | some j =>
            rw [ej] at q
            exact ⟨a', ws', k, j, rfl, rfl, y3, by rw [y7.len]; exact ej, q S2 σ _ x2.same (I2.own_upd hm hxi hsf e1 q2 (Reps.set j y7 (Rep.mono x2.same r)))⟩
        | _ => exact q.elim
      | err y st1 =>
        rw [e2] at q
        intro cls dd S2 H2 x2 su2 so2 r2
        exact q cls dd O S2 σ H2 hO x2.same (I'.ext x2 su2 so2) r2
      | bad => rw [e2] at q; exact q.elim
/-- x = list(y), x's own -/
def lst1? (xs : List D) : M (List D) := fun st => match c1 dList xs with
  | some (.lst ds) => .ok ds st
  | _ => .bad
theorem df_list {x : Str} {p : Pos} {e : Expr} {es : List Expr} {ma' : MA} (hK : X.K = G.K) (hm : X.mg x = none) (hv : bootBuiltins x = some (.type "list")) (ha : DA G X W O (e :: es) ma') (hg : Gl X x := by rfl)
    (hn : x ≠ "__name__" := by decide) (hdb : (x == ("__debug__" : Str)) = false := by decide)
    (he : starEach (e :: es) X.env = (false, eval e X.env) :: starEach es X.env := by rfl) (hpl : (backTo pos (starEach es X.env)).any (·.1) = false := by rfl) : DF G X W O (.Call (.Name x p) (e :: es) [] pos) (mThenA ma' lst1?) := by
  obtain ⟨t, pa, w⟩ := ha.ex
  refine ⟨_, pe_callTy call_list_of hg hm hv pa hn hdb he hpl, fun b S env st σ H Q I h => w b S env st σ H _ I (wpR_imp (wpR_bind h) (fun ds st1 h1 => ?_) fun _ _ z => z)⟩
  intro xs S1 H1 x1 su1 so1 r1
  unfold lst1? at h1
  split at h1
  · rename_i es e
    obtain ⟨y, rfl, e⟩ := c1_some e
    obtain ⟨v, rfl, rv⟩ := reps1 r1
    cases rv with
    | tup h r2 => cases e; exact ⟨_, _, rfl, .inr (hK ▸ Same.sqT su1 h.sqT), fun l hl => h1 l _ S1 H1 x1 su1 so1 hl r2⟩
    | lst h r2 => cases e; exact ⟨_, _, rfl, .inl (SqL.of (su1 _ _ h)), fun l hl => h1 l _ S1 H1 x1 su1 so1 hl r2⟩
    | rol h r2 => cases e; exact ⟨_, _, rfl, .inl (hK ▸ su1.seq h), fun l hl => h1 l _ S1 H1 x1 su1 so1 hl r2⟩
    | _ => cases e
  · exact h1.elim
end
end DL

/-! x.remove(e) of an owned list of data -/
namespace DL
open PySem PySem.Spec PyProof.Rows L2
def rRemD (K : PySem.W.Frag) : V → List V → Hp → VK → Prop := fun x xs H Q => ∃ (l : Addr) (ws : List V) (y : V) (ps : List PyData) (d : PyData) (j : Nat), x = .ref l ∧ xs = [y] ∧ H l = some (.lst ws) ∧ DpAll K H ws ps ∧ Dp K H y d ∧
  PyData.plainAll ps = true ∧ d.plain = true ∧ PyData.depthAll ps ≤ 60 ∧ SeqAt.dataPlace ps d = some j ∧ Q .non (upd H l (.lst (ws.eraseIdx j)))
theorem mt_remD {X : Cx} (hu : X.A.units + 64 < cLine) : MtM X "list.remove" (rRemD X.K) := by
  intro pins s σ H x xs v us Q I rx rxs h
  obtain ⟨l, ws, y, ps, d, j, rfl, rfl, hH, ha, hd, hp, hpd, hde, hj, q⟩ := h
  cases rx
  obtain ⟨u, rfl, ru⟩ := rxs.one
  obtain ⟨z, its, n, r, hl, e⟩ := I.lstM hH
  obtain ⟨as, r1⟩ := Dp.readsAll I ps ws its ha r
  obtain ⟨bs, r2⟩ := Dp.reads I d y u hd ru
  refine SeqAt.remove_list_data (vs := its.toArray) ⟨_, e, rfl, n, rfl⟩ (by simpa using r1) r2 hp hpd (by omega) hj (by rw [List.size_toArray, ← hl]; exact z) ?_
  have rr := r.eraseIdx j
  refine ⟨.non, _, I.lset (its' := its.eraseIdx j) (t' := s.toks) hH e ?_ rr ?_, rfl, q⟩
  · show its.toArray.eraseIdxIfInBounds j = (its.eraseIdx j).toArray
    rw [List.eraseIdxIfInBounds_toArray]
  · have := List.length_eraseIdx_le ws j
    omega
def remD (xs : List D) (d : D) : Option (List D) := if PyData.canLayAll0 (toPs xs) = true ∧ (toP d).canLay0 = true ∧ PyData.plainAll (toPs xs) = true ∧ (toP d).plain = true ∧ PyData.depthAll (toPs xs) ≤ 60 then (SeqAt.dataPlace (toPs xs) (toP d)).map fun j => xs.eraseIdx j else none
def remR (i : Nat) (ds : List D) (env : Env') : Res D → Out
  | .ok d st1 => match remD ds d with
    | some ys => .nx (env.set i (some (.lst ys))) st1
    | none => .bad
  | .err x st1 => .er x env st1
  | .bad => .bad
def mRem (i : Nat) (m : ME) : MS := fun env st => match env[i]? with
  | some (some (.lst ds)) => remR i ds env (m env st)
  | _ => .bad
theorem Reps.eraseIdx {G : Glb} {ad : List Addr} {S : Hp} : ∀ {vs : List V} {ds : List D} (j : Nat), Reps G ad S vs ds → Reps G ad S (vs.eraseIdx j) (ds.eraseIdx j)
  | _, _, _, .nil => .nil
  | _, _, 0, .cons h r => r
  | _, _, j + 1, .cons h r => .cons h (Reps.eraseIdx j r)
section
variable {G : Glb} {X : Cx} {W : WX} {O Ob : Ow} {OE : Ow → Prop} {pos : Pos} {e : Expr} {me : ME}
theorem ds_rem (i : Nat) {x : Str} {p1 p2 cp : Pos} (hK : X.K = G.K) (hu : X.A.units + 64 < cLine) (he : DE G X W O e me) (hO : OE O := by first | trivial | rfl) (hi : X.N[i]? = some x := by rfl) (hm : i ∈ O.own := by decide) (hxi : O.exi ≠ some i := by decide) (hsf : O.slf ≠ some i := by decide) (hv : Vis X.env.scope x := by first | exact Or.inl rfl | exact Or.inr (Or.inl rfl) | exact Or.inr (Or.inr rfl))
    (hd : (x == ("__debug__" : Str)) = false := by decide) (hcd : (x == ("__classdict__" : Str)) = false := by decide)
    (hbase : attributeBase (.Name x p1) "remove" X.env (eval (.Name x p1) X.env) = eval (.Name x p1) X.env := by rfl)
    (hfew : ((backTo cp (starEach [e] X.env)).all (fun x => !x.1) && (backToKw cp (keywordEach [] X.env)).all (fun x => x.1.isSome)
      && decide ([e].length + ([] : List Keyword).length + (if ([] : List Keyword).isEmpty then 0 else 1) < 30)) = true := by rfl) (hline : (p2.endLine == cp.line) = true := by rfl)
    (hst : starEach [e] X.env = (false, eval e X.env) :: starEach [] X.env := by rfl) (hpl : (backTo cp (starEach [] X.env)).any (·.1) = false := by rfl)
    (hs : swapsWith (.Call (.Attribute (.Name x p1) "remove" p2) [e] [] cp) none pos.line X.env = pure false := by rfl) : DS G X W Ob OE O (.Expr (.Call (.Attribute (.Name x p1) "remove" p2) [e] [] cp) pos) O (mRem i me) := by
  obtain ⟨t, p, w⟩ := he.ex
  refine ⟨_, ps_expr (pe_bm PySem.F.plainAttrs_list PySem.F.slot_list_remove PySem.F.type_list_remove (mt_remD hu) (pe_var hi hv hd hcd) (pa_cons p pa_nil hst) hbase hfew hline hst hpl) hs, fun b S env st σ H D I h => ?_⟩
  unfold mRem at h
  cases e1 : env[i]? with
  | none => rw [e1] at h; exact h.elim
  | some o => cases o with
    | none => rw [e1] at h; exact h.elim
    | some d0 =>
      obtain ⟨a, ws, es, p1, p2, p3, p4, p5, p6, p7⟩ := I.own i d0 hm e1
      subst p1
      rw [e1] at h
      refine ⟨_, p2, Or.inl ⟨rfl, _, Or.inl (Or.inl p3)⟩, w b S env st σ H _ I ?_⟩
      cases e2 : me env st with
      | ok d st1 =>
        dsimp only at h
        rw [e2] at h
        intro v S' H' x' su so r
        have I' := I.ext x' su so
        obtain ⟨a', ws', es', q1, q2, q3, q4, q5, q6, q7⟩ := I'.own i _ hm e1
        cases q1
        have ea : a' = a := by
          have := q2.symm.trans p2
          simpa using this
        subst ea
        unfold remR at h
        dsimp only at h
        cases er : remD es d with
        | none => rw [er] at h; exact h.elim
        | some ys =>
          rw [er] at h
          unfold remD at er
          split at er
          · rename_i hc
            obtain ⟨c1, c2, c3, c4, c5⟩ := hc
            cases ej : SeqAt.dataPlace (toPs es) (toP d) with
            | none => rw [ej] at er; cases er
            | some j =>
              rw [ej] at er
              cases er
              exact ⟨a', ws', v, toPs es, toP d, j, rfl, rfl, q3, hK ▸ Reps.dp su q7 c1, hK ▸ Rep.dp su r c2, c3, c4, c5, ej, h S' σ _ x'.same (I'.own_upd hm hxi hsf e1 p2 (Reps.eraseIdx j q7))⟩
          · cases er
      | err y st1 =>
        dsimp only at h
        rw [e2] at h
        intro cls dd S' H' x' su so r
        exact h cls dd O S' σ H' hO x'.same (I.ext x' su so) r
      | bad =>
        dsimp only at h
        rw [e2] at h
        exact h.elim
end
/-! isinstance of a caught error, with fields or without -/
section
open PySem.W
variable {P : Program} {w : World} {A : Around} {E : Value → Shared → Prop} {K : Frag} {x D : Addr} {ob : Obj} {od : Option Obj}
theorem obj_descr {n : Str} {at_ get : Value} (c : hasDictIn K D = true) (f : findIn K (.ref D) n = some (some at_)) (g : specialIn K at_ "__get__" = some (some get)) (t : takesIn K at_ = some true) : findObj K D od n = some (.bind get at_) := by
  obtain ⟨cd, e, _⟩ := any_some c
  unfold findObj
  simp [e, f, g, t]
set_option maxHeartbeats 1000000 in
/-- e.__class__ of an error e of an own class, whatever its dict -/
theorem err_class {s : Shared} {Q : Option Value → Shared → Prop} (c : ExcC K D) (kin : K.In s.heap) (i : InstAt s.heap x ob D od) (q : Q (some (.ref D)) { s with toks := s.toks + 1 }) : wpAny (model P w) A (getAttr? (.ref x) "__class__") Q E s := by
  obtain ⟨h, gl, dd, tk, os⟩ := s
  have ty := i.type (M := model P w)
  have own := looks_findIn (M := model P w) kin c.hg
  have late := looks_findIn (M := model P w) kin c.hk
  have found := looks_find (M := model P w) kin i (obj_descr (od := od) c.hd c.ha c.hn c.ht)
  have isE : Looks (model P w) h (isInstance (.ref x) (.type "BaseException")) true := ty.andThen (looks_subIn kin c.hs)
  have notO : (onTheHeap (Value.ref D) && Value.builtin "BaseException.__getattribute__" == Value.builtin "object.__getattribute__") = false := by
    have : (Value.builtin "BaseException.__getattribute__" == Value.builtin "object.__getattribute__") = false := by decide +kernel
    rw [this]; rfl
  unfold getAttr? getAttrBy? getAttrBy
  refine wpAny_bind (wpAny_mkText (wpAny_bind (wpAny_attempt (wpAny_holding (wpAny_bind (ty.at (wpAny_bind (own.at ?_))))))))
  show wpAny _ _ (if (onTheHeap (Value.ref D) && Value.builtin "BaseException.__getattribute__" == Value.builtin "object.__getattribute__") = true then _ else _) _ _ _
  rw [notO]
  simp only [Bool.false_eq_true, if_false]
  unfold getAttrByItsOwn hookBefore
  refine wpAny_bind ?_
  rw [if_pos (show onTheHeap (Value.ref D) = true from rfl)]
  refine late.at (wpAny_bind (wpAny_attempt (wpAny_holding ?_)))
  unfold callGetattribute
  rw [show (false && onTheHeap (Value.builtin "BaseException.__getattribute__")) = false from rfl]
  simp only [Bool.false_eq_true, if_false]
  unfold boundAndCalled
  rw [PySem.F.excAttr_ValueError.ga.bind (.ref x)]
  refine wpAny_bind (wpAny_pure ?_)
  show wpAny (model P w) _ (call (Value.builtin "BaseException.__getattribute__") [Value.ref x, Value.str "__class__" tk]) _ _ _
  refine wpAny_call (codeAny_call_builtin PySem.F.excAttr_ValueError.ga.plain PySem.F.entry_bexc_ga ?_)
  refine @check_slot (model P w) _ _ (⟨h, gl, dd, tk + 1, os⟩ : Shared) "BaseException.__getattribute__" "BaseException" "__getattribute__" (Value.ref x) [Value.str "__class__" tk] [] _ (by decide +kernel) (by decide +kernel) isE (PySem.F.args_bexc_ga (Value.ref x) (Value.str "__class__" tk)) ?_
  unfold Builtin.«object.__getattribute__»
  refine wpAny_bind (wpAny_of_eq (a := ((Value.ref x : Value), [Value.str "__class__" tk])) (by first | rfl | (simp only [slotArgs]; rfl)) (wpAny_bind (wpAny_pure (wpAny_bind (ty.at (wpAny_bind (found.at ?_)))))))
  refine wpAny_bind (wpAny_holding (wpAny_call (class_get (s := ⟨h, gl, dd, tk + 1, os⟩) (ox := ob) (od := od) kin i c.hm (wpAny_pure ?_))))
  show wpAny _ _ (handedOut (.ref D)) _ _ _
  rw [handedOut_of (v := .ref D) rfl]
  first
    | exact wpAny_pure (wpAny_pure q)
    | exact wpAny_pure q
    | exact wpAny_pure (wpAny_bind (wpAny_pure (wpAny_pure q)))
end
section
open PySem.W
variable {K : Frag} {x D : Addr} {ob : Obj} {od : Option Obj}
theorem err_kit (c : ExcC K D) : KitX K (.ref x) (.ref D) (fun h => InstAt h x ob D od) where
  ty := fun _ _ _ j => j.type
  it := fun _ _ kin _ => by
    obtain ⟨_, e, _⟩ := any_some c.hd
    unfold clsIn at e
    split at e
    · rename_i part
      intro _ _ _ _ there q
      unfold isType loadHead
      exact wpAny_bind (wpAny_loadPart (there _ _ (kin _ _ part)) (wpAny_pure q))
    · cases e
  ne := (handS_kitx_exc (x := x) (ox := ob) c.hg c.hk c.hs c.hd c.ha c.hn c.ht c.hm).ne
  ca := fun kin j q => err_class c kin j q
end
section
variable {G : Glb} {X : Cx} {W : WX} {pos : Pos}
/-- the dict of a caught error, where it has one -/
def DictAt (H : Hp) : Option Addr → Prop
  | none => True
  | some a => ∃ fs, H a = some (.xd fs)
theorem call_isEF {a D : Addr} {dd : Option Addr} {oe : Obj} {pn : List (Addr × Obj)} (C : ExcC X.K D) (hz : Zc (.ref D) dd oe) (hf : ∃ vs, oe.data = .fields vs) : CallR (X.suite a ((a, oe) :: pn)) (.builtin "isinstance") (fun xs H Q => DictAt H dd ∧ rIsE X.K D a xs H Q) := by
  intro pins s σ H xs us Q I r h
  obtain ⟨hd, c, cv, b, rfl, hcv, e, q⟩ := h
  cases r with
  | cons rx rr =>
    cases rr with
    | cons rt rr =>
      cases rr
      cases rx
      have ec := hcv _ rt
      subst ec
      obtain ⟨at_, _⟩ := I.pin (a, oe) (List.mem_append.mpr (.inl List.mem_cons_self))
      obtain ⟨vs, data⟩ := hf
      have no : PySem.W.notCls oe = true := by unfold PySem.W.notCls; rw [data]
      obtain ⟨od, J⟩ : ∃ od, PySem.W.InstAt s.heap a oe D od := by
        cases dd with
        | none => exact ⟨none, at_, hz.1, no, by rw [hz.2]; trivial⟩
        | some dx =>
          obtain ⟨fs, hx⟩ := hd
          obtain ⟨mA, hns, _⟩ := (show ObjOk X.prog X.w H s.heap dx (.xd fs) from I.hok dx _ hx)
          obtain ⟨od, ho, _⟩ := lookIn_ns hns
          exact ⟨some od, at_, hz.1, no, by rw [hz.2]; exact ho⟩
      exact PySem.W.kia_one (err_kit C) I.kIn J e (fun z => nomatch z) fun tk => ⟨.bl b, H, I.kept (t' := tk) fun _ _ z => z, rfl, q⟩
def mIsXF (i : Nat) (tab : Nat → D → Option Bool) (mc : ME) : ME := fun env st => match env[i]? with
  | some (some (.obj c _)) => (mc env st).bind fun d => ret? ((tab c d).map .bl)
  | _ => .bad
theorem de_isXF {own : List Nat} {a : Addr} {oe : Obj} {cls : Value} {dd : Option Addr} {pn : List (Addr × Obj)} {p pe : Pos} {n : Str} {C : Expr} {mc : ME} (i : Nat) (tab : Nat → D → Option Bool) (hz : Zc cls dd oe) (hf : ∃ vs, oe.data = .fields vs) (hK : X.K = G.K) (hm : X.mg "isinstance" = none)
    (ht : ∀ c d b, tab c d = some b → ExcC G.K (G.cl c) ∧ ∃ cv, clsV G d = some cv ∧ PySem.W.kitOne G.K (.ref (G.cl c)) cv = some b) (hC : DE G (X.suite a ((a, oe) :: pn)) W0 ⟨own, some i, (a, cls, dd), none, (0, 0)⟩ C mc)
    (hi : X.N[i]? = some n := by rfl) (hg : Gl X "isinstance" := by rfl) (hv : Vis X.env.scope n := by first | exact Or.inl rfl | exact Or.inr (Or.inl rfl) | exact Or.inr (Or.inr rfl)) (hd : (n == ("__debug__" : Str)) = false := by decide) (hcd : (n == ("__classdict__" : Str)) = false := by decide)
    (he : starEach [.Name n pe, C] X.env = (false, eval (.Name n pe) X.env) :: starEach [C] X.env := by rfl) (he2 : starEach [C] X.env = (false, eval C X.env) :: starEach [] X.env := by rfl) (hpl : (backTo pos (starEach [C] X.env)).any (·.1) = false := by rfl) :
    DE G (X.suite a ((a, oe) :: pn)) W0 ⟨own, some i, (a, cls, dd), none, (0, 0)⟩ (.Call (.Name "isinstance" p) [.Name n pe, C] [] pos) (mIsXF i tab mc) := by
  obtain ⟨t, pc, w⟩ := hC.ex
  have hr : CallR (X.suite a ((a, oe) :: pn)) (.builtin "isinstance") (fun xs H Q => ∃ D, cls = .ref D ∧ ExcC X.K D ∧ DictAt H dd ∧ rIsE X.K D a xs H Q) := by
    intro pins s σ H xs us Q I r h
    obtain ⟨D, e1, hCx, h⟩ := h
    subst e1
    exact call_isEF hCx hz hf pins s σ H xs us Q I r h
  refine ⟨_, pe_callB hr hg hm PyProof.Rows.boot_isinstance (pa_cons (pe_var (i := i) hi hv hd hcd) (pa_cons pc pa_nil he2) he) (by decide) (by decide) he hpl, fun b S env st σ H Q I h => ?_⟩
  unfold mIsXF at h
  split at h
  · rename_i c u e
    obtain ⟨x, q1, q2, q3⟩ := I.exc i _ rfl e
    have rx : cls = .ref (G.cl c) ∧ DictAt S dd := by
      obtain ⟨c', fs⟩ := x
      cases fs with
      | none =>
        cases q1
        have z : dd = none := q3.2
        exact ⟨q3.1, by rw [z]; trivial⟩
      | some fs =>
        cases q1
        obtain ⟨g1, ad', vs, g2, g3, g4⟩ := q3
        have z : dd = some ad' := g2
        exact ⟨g1, by rw [z]; exact ⟨vs, g3⟩⟩
    refine ⟨_, q2, w b S env st σ H _ I (wpR_imp (wpR_bind h) (fun d st1 h1 => ?_) fun _ _ z => z)⟩
    intro v S1 H1 x1 su1 so1 r1
    cases et : tab c d with
    | none => rw [et] at h1; exact h1.elim
    | some bb =>
      rw [et] at h1
      obtain ⟨hE, cv, hcv, hk⟩ := ht c d bb et
      have hdd : DictAt H1 dd := by
        cases dd with
        | none => trivial
        | some ax => obtain ⟨fs, hx⟩ := rx.2; exact ⟨fs, su1 _ _ (x1.same _ _ hx)⟩
      exact ⟨_, rx.1, hK ▸ hE, hdd, v, cv, bb, rfl, cls_rel r1 hcv, hK ▸ hk, h1 _ _ _ x1 su1 so1 (.bl _)⟩
  · exact h.elim
end
/-! a string times a number -/
def rMulS : R2 := fun x y H Q => ∃ (z : Str) (n : Int), x = .str z ∧ y = .int n ∧ PySem.MulOk z n ∧ Q (.str (PySem.Txt.mul z n)) H
theorem op_mulS {X : Cx} : OpR X (binaryOp .Mult) rMulS := by
  intro pins s σ H x y v u Q I rx ry h
  obtain ⟨z, n, rfl, rfl, ok, q⟩ := h
  obtain ⟨t, rfl⟩ := rx
  obtain ⟨t', rfl⟩ := ry
  exact PySem.SB.mul ok fun tk k => ⟨.str (PySem.Txt.mul z n), H, I.kept (t' := k) fun _ _ z => z, ⟨tk, rfl⟩, q⟩
noncomputable def dMulS : D → D → Option D
  | .str z, .int n => @ite _ (PySem.MulOk z n) (Classical.propDecidable _) (some (.str (PySem.Txt.mul z n))) none
  | _, _ => none
theorem opd_mulS {G : Glb} : OpD G rMulS dMulS := ⟨fun ad S H st x y dx dy d Q su so rx ry e q => by
  unfold dMulS at e
  split at e
  · split at e
    · rename_i ok
      cases e
      cases rx; cases ry
      exact ⟨_, _, rfl, rfl, ok, Post.here su so (.str _) q⟩
    · cases e
  · cases e⟩
/-! len(x) by x's own __len__ -/
section
variable {X : Cx} {CX : CXT} {n : Nat} {C f : Addr} {fd : FuncData} {ps : List Str} {sp : Sp}
def rLenO (C : Addr) (sp : Sp) : List V → Hp → VK → Prop := fun xs H Q => ∃ (a dx : Addr) (fs : List (Str × V)), xs = [.ref a] ∧ H a = some (.ins C dx fs) ∧ sp [.ref a] H (fun v H' => (∃ k : Int, v = .int k ∧ 0 ≤ k ∧ k < 2 ^ 63) ∧ Q v H') (fun _ _ _ => False)
theorem call_lenO (F : FnOk X.prog X.w X.K X.mg X.base (L2.CX X.prog X.w) n f fd ps sp) (rm : Room (n + 1) X.A) (at_ : PySem.W.findIn X.K (.ref C) "__len__" = some (some (.ref f))) (isf : PySem.W.isFn X.K (.ref f) = true) (bn : Binds X.K fd ps []) : CallR X (.builtin "len") (rLenO C sp) := by
  intro pins s σ H xs us Q I r h
  obtain ⟨a, dx, fs, rfl, ha, go⟩ := h
  cases r with
  | cons rx rr =>
    cases rr
    cases rx
    obtain ⟨mA, J, _⟩ := ins_get I.hok ha
    obtain ⟨od, J, _⟩ := J.look
    obtain ⟨m, hF⟩ := I.fr
    refine PySem.W.len_K hF I.ok.mod.kin J at_ isf ?_
    have hl : ([Value.ref a] ++ [] : List Value).length = ps.length := F.len [V.ref a] _ _ _ go
    refine wpAny_call (codeAny_mono (F.run X.A.in1 X.stack s H ⟨[Value.ref a], []⟩ ([Value.ref a] ++ []) [V.ref a] _ _ rm.in1 I.env0.in1 (bn s [Value.ref a] I.kIn hl) (show Vals [V.ref a] ([Value.ref a] ++ []) from .cons rfl .nil) go) fun r s' hq => ?_)
    cases r with
    | error e => obtain ⟨_, _, _, _, _, _, _, _, _, _, _, _, z⟩ := hq; exact z.elim
    | ok fl =>
      cases fl with
      | next => exact False.elim hq
      | brk => exact False.elim hq
      | cont => exact False.elim hq
      | ret u =>
        obtain ⟨w, H', I', rw_, ⟨k, ek, k0, k1⟩, q⟩ := I.after hq
        subst ek
        obtain ⟨t, rfl⟩ := rw_
        exact ⟨⟨k0, k1⟩, .int k, H', I'.tok _, ⟨_, rfl⟩, q⟩
end
noncomputable def lenBack : D → M D
  | .int k => @ite _ (0 ≤ k ∧ k < 2 ^ 63) (Classical.propDecidable _) (fun st => .ok (.int k) st) (fun _ => .bad)
  | _ => fun _ => .bad
noncomputable def lenM (ci : Nat) (m : List D → M D) : D → M D := fun x st1 => match x with
  | .obj c fs => if c = ci then (noEr (m [.obj c fs] st1)).bind fun d => lenBack d else .bad
  | _ => .bad
noncomputable def mLenM (ci : Nat) (m : List D → M D) (me : ME) : ME := fun env st => (me env st).bind fun x => lenM ci m x
section
variable {G : Glb} {X : Cx} {W : WX} {O : Ow} {pos p : Pos} {e : Expr} {me : ME} {k j : Nat} {f : Addr} {fd : FuncData} {ps : List Str} {m : List D → M D} {ci : Nat}
theorem de_lenM (c : XC k G X W) (F : FnOk X.prog X.w X.K X.mg X.base (L2.CX X.prog X.w) j f fd ps (spD G 1 m)) (at_ : PySem.W.findIn G.K (.ref (G.cl ci)) "__len__" = some (some (.ref f))) (isf : PySem.W.isFn G.K (.ref f) = true) (bn : Binds X.K fd ps []) (hm : X.mg "len" = none)
    (he : DE G X W O e me) (hjk : j + 1 ≤ k := by decide) (hg : Gl X "len" := by rfl) (hst : starEach [e] X.env = (false, eval e X.env) :: starEach [] X.env := by rfl) (hpl : (backTo pos (starEach [] X.env)).any (·.1) = false := by rfl) : DE G X W O (.Call (.Name "len" p) [e] [] pos) (mLenM ci m me) := by
  have hK := c.K
  obtain ⟨t, pe, w⟩ := he.ex
  refine ⟨_, pe_callB (call_lenO (C := G.cl ci) F (c.hr.mono hjk) (hK ▸ at_) (hK ▸ isf) bn) hg hm PySem.boot_len (pa_cons pe pa_nil hst) (by decide) (by decide) hst hpl, fun b S env st σ H Q I h => w b S env st σ H _ I (wpR_imp (wpR_bind h) (fun dx st1 h1 => ?_) fun _ _ z => z)⟩
  intro x S1 H1 x1 su1 so1 r1
  unfold lenM at h1
  split at h1
  case h_2 => exact h1.elim
  rename_i cc fs
  split at h1
  case isFalse => exact h1.elim
  rename_i ok
  subst ok
  cases r1 with
  | obj h2 r2 =>
    rename_i aa dd vs
    refine ⟨aa, dd, vs, rfl, su1 _ _ h2, ⟨⟨S1, H1, b.ad⟩, _, st1, rfl, rfl, su1, so1, .cons (.obj h2 r2) .nil, ?_⟩⟩
    have hk2 := wpR_bind h1
    refine wpR_imp (wp_noEr hk2) (fun d st3 z => ?_) fun _ _ z => z
    intro v S3 H3 x3 su3 so3 r3
    unfold lenBack at z
    cases r3 with
    | int i =>
      dsimp only at z
      split at z
      · rename_i bd
        exact ⟨⟨i, rfl, bd.1, bd.2⟩, (Post.from_ x1 so1 z) (.int i) S3 H3 x3 su3 so3 (.int i)⟩
      · exact z.elim
    | _ => exact z.elim
end
/-! {}: only its type is known -/
theorem de_dic {G : Glb} {X : Cx} {W : WX} {O : Ow} {pos : Pos} : DE G X W O (.Dict [] [] pos) (mC .dic) :=
  ⟨_, pe_dnewK, fun b S env st σ H Q I h p hp => Post.new (st := st) I.sub I.sto hp (.dic upd_same) h⟩
end DL

/-! DL, 27th part: an error's __init__ that says super().__init__(..) first. -/
namespace DL
open PySem PySem.Spec PyProof.Rows L2
/-! ### the bound __init__ called -/
theorem call_mw {prog : Program} {w : World} {A : Around} {E : Value → Shared → Prop} {h : Heap} {g : Array GenState} {d : Drawn} {t : Nat} {os : OsState} {nm q : Str} {C N u e t0 : Addr} {bs bm : List Value} {hdct : Bool} {sn : List Str} {sub : List Value} {ab : Bool} {col : Option Bool} {dd : Option Addr} {k0 k1 k2 k3 k5 : Option Value} {rest : List Value} {Q : Value → Shared → Prop}
    (hC : h.get? C = some (excClassObj nm q C N bs bm hdct sn sub ab col dd k0 k1 k2 k3 k5 "ValueError.__new__")) (he : h.get? e = some (PySem.HandSPX.excO C t0)) (hu : h.get? u = some (PySem.W.kxs_mw "ValueError.__init__" e)) (hz : rest.length ≤ sizeLine)
    (hq : ∀ h' t1, (∀ b o, b ≠ e → h.get? b = some o → h'.get? b = some o) → h'.get? e = some (PySem.HandSPX.excO C t1) → Q .none ⟨h', g, d, t, os⟩) : wpAny (model prog w) A (call (.ref u) rest) Q E ⟨h, g, d, t, os⟩ := by
  have m1 : (Value.type "method-wrapper" == Value.type "method" || Value.type "method-wrapper" == Value.type "builtin_function_or_method" || Value.type "method-wrapper" == Value.type "method-wrapper") = true := by decide
  have fb := PySem.F.excBase_ValueError
  refine wpAny_call (codeAny_of_tree (show wpAny _ A.in1 (callAny (.ref u) ⟨rest, []⟩) _ _ _ from ?_))
  simp only [callAny]
  refine wpAny_bind (wpAny_load hu (show wpAny _ _ (if _ then _ else _) _ _ _ from ?_))
  refine PySem.W.KFB.if_so m1 (wpAny_bind (ESX.check_bound fb hC he rfl (wpAny_bind (wpAny_pure (wpAny_pure ⟨PySem.plainId_quiet fb.init.plain _, codeAny_builtin fb.initEntry ?_⟩)))))
  exact PySem.W.exc_init_tree (cls := .ref C) (t0 := t0) (dv := none) (c2 := .none) (c3 := .none) (b4 := .bool false) he hz fun h' k e' _ => hq h' _ k e'
/-! ### the def's scope and context -/
structure ScS (ps : List Str) (sc : Scope) : Prop where
  kind : sc.kind = .function
  co : sc.isCoroutine = false
  gen : sc.isGenerator = false
  nd : ps.Nodup
  par : ∀ x ∈ ps, sc.names.lookup x = some .local
  nocell : ∀ y ∈ sc.names, y.2 ≠ .cell
  onefree : ∀ y ∈ sc.names, y.2 = .free → y.1 = "__class__"
  cls : sc.names.lookup ("__class__" : Str) = some .free
  sup : sc.names.lookup ("super" : Str) = some .globalImplicit
def cxS (P : Program) (w : World) (K : PySem.W.Frag) (mg : Str → Option Value) (base : Heap) (ps : List Str) (qual : Str) (scope : Scope) (f : Addr) (cd : Value) (cc : Addr) (A : Around) (outer : List Env) (s : Shared) (H : Hp) (E : XK) : Cx :=
  let env := PySem.W.ksEnv qual scope s.heap.objs.size f cd cc
  ⟨P, w, K, mg, base, A.deeper env, ps, s, H, env, outer, env :: outer, [], fun _ => false, true, [], fun e s' => wpAny (model P w) (A.deeper env) (leaving env e) (fun _ s2 => L2.CX P w outer H s E e s2) (fun e' s2 => L2.CX P w outer H s E e' s2) s'⟩
theorem look_mem {l : List (Str × Value)} {x : Str} {v : Value} : (l.map (·.1)).Nodup → (x, v) ∈ l → l.lookup x = some v := by
  induction l with
  | nil => intro _ h; cases h
  | cons p l ih =>
    obtain ⟨y, u⟩ := p
    intro nd h
    rw [List.map_cons, List.nodup_cons] at nd
    rw [List.lookup_cons]
    rcases List.mem_cons.mp h with e | h
    · cases e; simp
    · have ne : (x == y) = false := by
        rw [beq_eq_false_iff_ne]
        intro z
        exact nd.1 (z ▸ List.mem_map.mpr ⟨_, h, rfl⟩)
      rw [ne]
      exact ih nd.2 h
theorem look_zip {ps : List Str} {us : List Value} {i : Nat} {x : Str} {v : Value} (nd : ps.Nodup) (hl : us.length = ps.length) (hx : ps[i]? = some x) (hv : us[i]? = some v) : (ps.zip us).reverse.lookup x = some v := by
  refine look_mem ?_ ?_
  · rw [List.map_reverse, List.map_fst_zip (by omega)]
    unfold List.Nodup
    rw [List.pairwise_reverse]
    exact nd.imp fun z => z.symm
  · rw [List.mem_reverse]
    have : (ps.zip us)[i]? = some (x, v) := by
      rw [List.getElem?_zip_eq_some]; exact ⟨hx, hv⟩
    exact List.mem_of_getElem? this
section
variable {P : Program} {w : World} {K : PySem.W.Frag} {mg : Str → Option Value} {base : Heap} {ps : List Str} {qual : Str} {scope : Scope} {f cc : Addr} {cd : Value} {A : Around} {outer : List Env} {s : Shared} {H : Hp} {E : XK}
theorem inv_startS {us : List Value} {vs : List V} {h₀ : Heap} {n : Nat} {cl : Value} {cld : Option Addr} {csl : Array (Option Value)} {D : Addr} (S : ScS ps scope) (hd : A.handled = none) (e0 : Env0 P w K mg base A outer s H) (hl : vs.length = ps.length) (r : Vals vs us)
    (lc : K.lookup cc = some ⟨cl, cld, .cell (some (.ref D)), csl⟩) (hk : ∀ b o, s.heap.get? b = some o → h₀.get? b = some o) (hn : h₀.Ns s.heap.objs.size fun x => (ps.zip us).reverse.lookup x) :
    Inv (cxS P w K mg base ps qual scope f cd cc A outer s H E) [] (start ps vs) H { s with heap := h₀, toks := s.toks + n } := by
  have noA : ∀ b : Addr, b ∉ (cxS P w K mg base ps qual scope f cd cc A outer s H E).ex := fun b z => absurd (show b ∈ ([] : List Addr) from z) (by simp)
  have one : ∀ x c, (cxS P w K mg base ps qual scope f cd cc A outer s H E).env.cells.lookup x = some c → x = "__class__" ∧ c = cc := fun x c h => by
    have h : List.lookup x [(("__class__" : Str), cc)] = some c := h
    rw [List.lookup_cons] at h
    split at h
    · rename_i e
      cases h
      exact ⟨by simpa using e, rfl⟩
    · cases h
  have bcc := e0.bs cc _ (e0.mod.kin _ _ lc)
  have lus : us.length = ps.length := by rw [← Paired.length r, hl]
  refine ⟨⟨e0.mod, S.kind, rfl, rfl, Nat.le_refl _, fun y z c h1 h2 => (one y c h1).1.trans (one z c h2).1.symm, fun y hy => ?_, fun y c z _ => Bool.noConfusion z, fun _ => hd, Around.frames_deeper e0.frames, .inr ⟨rfl, rfl⟩, fun b z => absurd z (noA b), e0.bs, e0.bsz, fun b _ _ => noA b, fun b z => absurd z (noA b), e0.funs, e0.frf⟩,
    rfl, e0.bare, Un.kept hk, ⟨_, hn, fun i y v h1 h2 h3 => ?_⟩, fun y c h => ⟨_, _, hk _ _ ((one y c h).2 ▸ bcc.1), rfl⟩, e0.hok.fresh (Nat.le_refl _), fun y c h => (one y c h).2 ▸ bcc.2, fun p hp => absurd (show p ∈ ([] : List (Addr × Obj)) from hp) (by simp), e0.hok.kept hk, ?_⟩
  · have hy : scope.names.lookup y = some .cell ∨ scope.names.lookup y = some .free := hy
    rcases hy with hy | hy
    · exact absurd rfl (S.nocell _ (PySem.mem_of_lookup hy))
    · have e := S.onefree _ (PySem.mem_of_lookup hy) rfl
      refine ⟨cc, ?_⟩
      show List.lookup y [(("__class__" : Str), cc)] = some cc
      rw [show y = "__class__" from e, List.lookup_cons]; simp
  · have ha : vs[i]? = some v := by
      unfold L2.start at h2
      by_cases hi : i < vs.length
      · rw [List.getElem?_append_left (by simpa using hi), List.getElem?_map] at h2
        cases e : vs[i]? with
        | none => rw [e] at h2; cases h2
        | some a => rw [e] at h2; cases h2; rfl
      · rw [List.getElem?_append_right (by simpa using hi), List.getElem?_replicate] at h2
        split at h2 <;> cases h2
    obtain ⟨u, hu, rv⟩ := r.get ha
    exact ⟨u, rv, .inl ⟨S.par y (List.mem_of_getElem? h1), look_zip S.nd lus h1 hu⟩⟩
  · unfold L2.start
    show _ = ps.length
    rw [List.length_append, List.length_map, List.length_replicate]
    omega
end
theorem Inv.with {X : Cx} {σ : L2.St} {H : Hp} {s : Shared} (I : Inv X [] σ H s) {p : Addr × Obj} (h1 : s.heap.get? p.1 = some p.2) (h2 : H p.1 = none) (h3 : p.1 ≠ X.env.locals) (h4 : p.1 ∉ X.fs) (h5 : ∀ v, p.2.data ≠ .cell v) : Inv X [p] σ H s :=
  ⟨I.ok, I.os, I.bare, I.base, I.loc, I.cell, I.free, I.freeC, fun q hq => by
    rcases List.mem_append.mp hq with z | z
    · exact I.pin q (List.mem_append_left _ z)
    · have e := List.mem_singleton.mp z
      subst e
      exact ⟨h1, h2, h3, h4, h5⟩, I.hok, I.len⟩
/-- another tuple of arguments in an error that is being made -/
theorem Inv.reargs {X : Cx} {pins : List (Addr × Obj)} {σ : L2.St} {H : Hp} {s : Shared} {h' : Heap} {t' : Nat} {a C t1 : Addr} (I : Inv X pins σ H s) (ha : H a = some (exo a C none)) (k : ∀ b o, b ≠ a → s.heap.get? b = some o → h'.get? b = some o) (e' : h'.get? a = some (PySem.HandSPX.excO C t1)) : Inv X pins σ H { s with heap := h', toks := t' } := by
  have na : ∀ {b : Addr}, H b = none → b ≠ a := fun {b} n z => by rw [z, ha] at n; cases n
  refine I.un { keep := fun b o q n _ _ => k b o (na n) q, slot := fun b o q n _ _ => ⟨o.slots, k b o (na n) q⟩, free := fun b o q n _ => n, there := fun b o q _ => ?_, tups := fun b xs q => q, frzs := fun b o v q => q, tbls := fun b ps q => ⟨#[], by rw [q]; simp⟩ } fun b o q => ?_
  · by_cases hb : b = a
    · exact ⟨_, hb ▸ e'⟩
    · exact ⟨o, k b o hb q⟩
  · by_cases hb : b = a
    · subst hb
      rw [ha] at q
      cases q
      exact exo_ok e'
    · exact (I.hok b o q).stay (fun c v hc z => k c v (by
        rcases hc with hc | hc
        · rw [hc]; exact hb
        · exact at_ne ha hc exo_own) z) (fun c hc => hc) (fun c xs hc => hc)
/-- a def of a class's body that says super() -/
structure FunS (P : Program) (K : PySem.W.Frag) (x qual : Str) (st : Stmt) (C : Addr) (f : Addr) (fd : FuncData) : Prop where
  ex : ∃ (oc : Value) (od : Option Addr) (kV doc pm : Value) (an : Option Addr) (cda cc : Addr) (ct : Value) (osl : Array (Option Value)) (cl ccl : Value) (cld cdd : Option Addr) (csl ccs : Array (Option Value)) (vs : Array Value) (file : Str) (tf : Tok),
    fd = PySem.W.ksFn x qual (defArgs st) (defBody st) (defScope st) .none kV doc pm an (.ref cda) ct cc ∧ K.lookup f = some ⟨oc, od, .func fd, osl⟩ ∧ PySem.W.codeIn K (.ref cda) qual = true ∧ K.lookup cc = some ⟨cl, cld, .cell (some (.ref C)), csl⟩ ∧ K.lookup cda = some ⟨ccl, cdd, .fields vs, ccs⟩ ∧ vs[2]? = some (.str file tf) ∧ ((P.main.file : Str) == file) = true
  kp : PySem.W.keepIn K (.ref f) = true
/-- what the written part says of the class, for super() -/
structure SupT (P : Program) (K : PySem.W.Frag) (mg : Str → Option Value) (C : Addr) : Prop where
  oc : OexC K C
  along : PySem.W.ks_superIn K C C "__init__" = some (some (.builtin "ValueError.__init__"))
  ve : PySem.W.subIn K (.ref C) (.type "ValueError") = some true
  own : PySem.W.mroIn K C (.ref C) = some true
  opq : PySem.W.nsIn K PySem.cStatics "thirdparty.any" = some none
  sup : mg "super" = none
  top : (P.main.scope.names.lookup ("super" : Str)).isSome = false
section
variable {P : Program} {w : World} {K : PySem.W.Frag} {mg : Str → Option Value} {base : Heap}
theorem fnSup {x qual : Str} {st : Stmt} {f C : Addr} {fd : FuncData} {y : Arg} {ps : List Str} {sp : Sp} {k : Nat} {e : Expr} {es : List Expr} {rest : List Stmt} {p0 p1 p2 p3 p4 : Pos} (F : FunS P K x qual st C f fd) (S : ScS ps (defScope st)) (T : SupT P K mg C)
    (hb : defBody st = .Expr (.Call (.Attribute (.Call (.Name "super" p0) [] [] p1) "__init__" p2) (e :: es) [] p3) p4 :: rest) (hy : ((defArgs st).posonlyargs ++ (defArgs st).args).head? = some y) (hy0 : ps[0]? = some y.arg)
    (len : ∀ vs H Q E, sp vs H Q E → vs.length = ps.length ∧ ∃ a ws, vs = .ref a :: ws ∧ H a = some (exo a C none))
    (hrun : ∀ (cd : Value) (cc : Addr) (A : Around) (outer : List Env) (s : Shared) (H : Hp) (vs : List V) (Q : VK) (E : XK), Room k (A.deeper (PySem.W.ksEnv qual (defScope st) s.heap.objs.size f cd cc)) → sp vs H Q E →
      ∃ ta t, PA (cxS P w K mg base ps qual (defScope st) f cd cc A outer s H E) (e :: es) ta ∧ PSs (cxS P w K mg base ps qual (defScope st) f cd cc A outer s H E) rest t ∧ ∀ QA : List V → Hp → Prop, (∀ us : List V, us.length ≤ 100 → QA us H) → ta (start ps vs) H QA ∧ t { nx := fun _ H' => Q .non H', rt := Q } (start ps vs) H)
    (he : ∀ env : Env, starEach (e :: es) env = (false, eval e env) :: starEach es env := by intros; rfl) (hpl : ∀ env : Env, (backTo p3 (starEach es env)).any (·.1) = false := by intros; rfl)
    (hi : ∀ env : Env, swapsWith (.Call (.Attribute (.Call (.Name "super" p0) [] [] p1) "__init__" p2) (e :: es) [] p3) none p4.line env = pure false := by intros; rfl)
    (hm : ∀ env : Env, eval (.Call (.Attribute (.Call (.Name "super" p0) [] [] p1) "__init__" p2) (e :: es) [] p3) env = (do
      let ov ← attributeBase (.Call (.Name "super" p0) [] [] p1) "__init__" env (eval (.Call (.Name "super" p0) [] [] p1) env)
      standAt p2.atName
      let (f, first) ← holding [ov] (getMethod ov "__init__" (pure false))
      callWith p3 f first (backTo p3 (starEach (e :: es) env)) []) := by intros; rfl) : FnOk P w K mg base (L2.CX P w) (k + 1) f fd ps sp := by
  obtain ⟨oc, od, kV, doc, pm, an, cda, cc, ct, osl, cl, ccl, cld, cdd, csl, ccs, fvs, file, tf, rfl, lk, hcd, lc, lcd, hvs, hfile⟩ := F.ex
  refine ⟨fun vs H Q E h => (len vs H Q E h).1, fun A outer s H args us vs Q E hr e0 hbd r hsp => ?_⟩
  obtain ⟨hl, a, ws, rfl, ha⟩ := len _ _ _ _ hsp
  have KX : K.In s.heap := e0.mod.kin.keeps fun b o q => (e0.bs b o q).1
  have lim : s.heap.NoLimit := e0.mod.nolimit.keeps fun b o q => (e0.bs b o q).1
  have hkind : ∀ z ∈ ps.zip us, (defScope st).names.lookup z.1 = some .local := fun ⟨n, v⟩ hz => S.par n (List.of_mem_zip hz).1
  refine PySem.ks_codeAny_call_defAt (fd := PySem.W.ksFn x qual (defArgs st) (defBody st) (defScope st) .none kV doc pm an (.ref cda) ct cc) (body := defBody st) (binds := ps.zip us) hr.depth (KX _ _ lk) rfl lim (PySem.W.codeRec_of KX hcd) rfl hbd S.nocell hkind (fun h₀ hns hk => ?_) S.co S.gen S.kind
  obtain ⟨ta, t, hpa, hps, hq⟩ := hrun (.ref cda) cc A outer s H _ Q E (hr.deeper _) hsp
  have I : Inv (cxS P w K mg base ps qual (defScope st) f (.ref cda) cc A outer s H E) [] (L2.start ps (.ref a :: ws)) H { s with heap := h₀, toks := s.toks + (ps.zip us).length } := inv_startS S hr.hd e0 hl r lc hk hns
  obtain ⟨hp, g, d, tk, os⟩ := s
  obtain ⟨nm, q, N, bs, bm, sn, sub, ab, col, dd, k0, k1, k2, k3, k5, hC, hbm⟩ := T.oc.cls
  have hcl : PySem.W.clsIn K C = some { name := nm, bases := bs, mro := .ref C :: bm, ns := N, qualname := q, hasDict := true, slotNames := sn, subclasses := sub, abstract := ab, collection := col, hasDel := false } := by unfold PySem.W.clsIn; rw [hC] <;> rfl
  obtain ⟨t0, hoa⟩ := exo_at I.hok ha
  have iA : PySem.W.InstAt h₀ a (PySem.HandSPX.excO C t0) C none := ⟨hoa, rfl, rfl, trivial⟩
  have hal := T.along
  unfold PySem.W.ks_superIn at hal
  rw [hcl] at hal
  have my : (fun z => (ps.zip us).reverse.lookup z) y.arg = some (Value.ref a) := by
    cases r with
    | cons rx rr => cases rx; exact look_zip S.nd (by have := Paired.length rr; simp only [List.length_cons] at hl ⊢; omega) hy0 rfl
  obtain ⟨mb, hb1, hb2⟩ := I.mod.blt
  rw [hb]
  refine PySem.ks_wpAt_execs_cons (PySem.ks_wpAt_Expr_any (PySem.ks_wpAt_MethodCall ?_ (hm _)) (by show ((defScope st).kind == .module && _) = false; rw [S.kind]; rfl) (hi _))
  refine PySem.ks_wpAt_super_base (f := f) (cc := cda) S.sup S.cls (by decide) rfl (I.kIn _ _ lk) rfl hy rfl (I.kIn _ _ lcd) rfl hvs hfile T.top ?_
  refine PySem.W.ks_loadName_global S.kind S.sup (PySem.Calls.loadGlobal_builtin (I.mod.glob.keeps I.bk) T.sup (hb1.keeps I.bk) ((hb2 _ (by decide)).trans (show bootBuiltins "super" = some (.type "super") by decide +kernel)) ⟨rfl, ?_⟩)
  refine wpAny_loadName_free S.kind S.cls rfl ⟨_, I.kIn _ _ lc, rfl⟩ ?_
  refine wpAny_loadName_local S.kind (S.par _ (List.mem_of_getElem? hy0)) hns my ?_
  refine PySem.ks_wpAny_isType_cls (I.kIn _ _ hC) rfl ⟨rfl, ?_⟩
  refine PySem.ks_wpAny_call_super (I.kIn _ _ hC) rfl hoa rfl (fun c z => by cases z) (PySem.W.looks_mroIn I.kIn T.own) (fun h1 e1 kk1 => ?_)
  have I1 := I.kept (t' := tk + (ps.zip (us)).length) kk1
  have hoa1 := kk1 _ _ hoa
  have iB : PySem.W.InstAt h1 a (PySem.HandSPX.excO C t0) C none := ⟨hoa1, rfl, rfl, trivial⟩
  refine PySem.W.kxs_getMethod PySem.W.kxs_ValueError e1 (PySem.W.looks_opaque I1.kIn T.opq) (l₀ := .ref C :: bm) ((PySem.W.looks_clsIn I1.kIn hcl).andThen .now) rfl I1.kIn hal ((PySem.W.InstAt.type iB).andThen (PySem.W.looks_subIn I1.kIn T.ve)) (PySem.W.ks_ne I1.kIn iB hcl) (by decide) ?_
  have gu : (h1.push (PySem.W.kxs_mw "ValueError.__init__" a)).get? h1.objs.size = some (PySem.W.kxs_mw "ValueError.__init__" a) := Heap.get?_push_at rfl rfl
  have kk2 : ∀ b o, h1.get? b = some o → (h1.push (PySem.W.kxs_mw "ValueError.__init__" a)).get? b = some o := fun b o z => Heap.get?_push_of_some _ z
  have I2 := Inv.with (I1.kept (t' := tk + (ps.zip (us)).length + 1) kk2) (p := (h1.objs.size, PySem.W.kxs_mw "ValueError.__init__" a)) gu (I1.hok.fresh (Nat.le_refl _)) (Nat.ne_of_gt I1.lt) (I1.nofs (Nat.le_refl _)) (fun v z => by cases z)
  have hz2 := (hq (fun us H1 => H1 = H ∧ us.length ≤ 100) fun us hu => ⟨rfl, hu⟩).1
  have ht2 := (hq (fun us H1 => H1 = H ∧ us.length ≤ 100) fun us hu => ⟨rfl, hu⟩).2
  have hev := hpa.run p3 _ _ _ H _ I2 hz2
  rw [he] at hev ⊢
  refine PySem.W.kxs_callWith (i := "ValueError.__init__") (x := a) (show (false || (backTo p3 (starEach es _)).any (·.1)) = false from (Bool.false_or _).trans (hpl _)) (PySem.Calls.evalArgs_plain (thn hev fun us2 s2 ⟨vs2, H2, I3, rv, eH, hz⟩ => ?_))
  subst eH
  refine ⟨(I3.pin _ (List.mem_append_right _ (List.mem_singleton.mpr rfl))).1, ?_⟩
  obtain ⟨t3, hoa3⟩ := exo_at I3.hok ha
  have hu3 := (I3.pin _ (List.mem_append_right _ (List.mem_singleton.mpr rfl))).1
  obtain ⟨h3, g3, d3, tk3, os3⟩ := s2
  refine call_mw (I3.kIn _ _ hC) hoa3 hu3 (by show us2.length ≤ sizeLine; have := Paired.length rv; rw [← this]; exact Nat.le_trans hz (by decide)) (fun h4 t4 k4 e4 => ?_)
  have I4 := DL.Inv.reargs (t' := tk3) I3 ha k4 e4
  refine wpAt_of_wpAny (wpAny_mono (hps.run _ _ _ _ _ I4 ht2) (fun fl s' hs => ?_) fun er s' hs => hs)
  cases fl with
  | ret u =>
    obtain ⟨v, σ', H', J, rv', q'⟩ := hs
    exact ⟨v, H', J.os, J.bare, J.base, J.hok, rv', q'⟩
  | next =>
    obtain ⟨σ', H', J, q'⟩ := hs
    exact ⟨V.non, H', J.os, J.bare, J.base, J.hok, rfl, q'⟩
  | brk => exact hs.choose_spec.choose_spec.2.elim
  | cont => exact hs.choose_spec.choose_spec.2.elim
end
end DL

/-! DL, 28th part: errors whose __init__ says super().__init__(..), raised. -/
namespace DL
open PySem PySem.Spec PyProof.Rows L2
/-- an expression that is some value, the heap as it was -/
def EvOk (X : Cx) (σ : L2.St) (H : Hp) (e : Expr) : Prop := ∃ te, PE X e te ∧ ∀ Q : VK, (∀ v, Q v H) → te σ H Q
def ArOk (X : Cx) (σ : L2.St) (H : Hp) (es : List Expr) : Prop := ∃ ta, PA X es ta ∧ ∀ Q : List V → Hp → Prop, (∀ us : List V, us.length = es.length → Q us H) → ta σ H Q
section
variable {X : Cx} {σ : L2.St} {H : Hp} {e : Expr} {es : List Expr} {pos p : Pos}
theorem ao_nil : ArOk X σ H [] := ⟨_, pa_nil, fun Q h => h [] rfl⟩
theorem ao_cons (he : EvOk X σ H e) (hr : ArOk X σ H es) (hs : starEach (e :: es) X.env = (false, eval e X.env) :: starEach es X.env := by rfl) : ArOk X σ H (e :: es) := by
  obtain ⟨te, pe, we⟩ := he
  obtain ⟨ta, pa, wa⟩ := hr
  exact ⟨_, pa_cons pe pa hs, fun Q h => we _ fun v => wa _ fun us hu => h (v :: us) (by simp [hu])⟩
theorem eo_str {x : Str} {j : Nat} : EvOk X σ H (.Constant (.str x) j pos) := ⟨_, pe_str, fun Q h => h _⟩
theorem eo_var {x : Str} {v : V} (i : Nat) (hσ : σ[i]? = some (some v)) (hN : X.N[i]? = some x) (hv : Vis X.env.scope x) (hd : (x == ("__debug__" : Str)) = false := by decide) (hcd : (x == ("__classdict__" : Str)) = false := by decide) : EvOk X σ H (.Name x pos) :=
  ⟨_, pe_var (i := i) hN hv hd hcd, fun Q h => ⟨v, hσ, h v⟩⟩
theorem eo_strInt {x : Str} {n : Int} (i : Nat) (hσ : σ[i]? = some (some (.int n))) (hz : n.natAbs.log2 < 1920) (hg : Gl X "str") (hm : X.mg "str" = none) (hN : X.N[i]? = some x) (hv : Vis X.env.scope x) {p2 : Pos} (hd : (x == ("__debug__" : Str)) = false := by decide) (hcd : (x == ("__classdict__" : Str)) = false := by decide)
    (he : starEach [.Name x p2] X.env = (false, eval (.Name x p2) X.env) :: starEach [] X.env := by rfl) (hpl : (backTo pos (starEach [] X.env)).any (·.1) = false := by rfl) : EvOk X σ H (.Call (.Name "str" p) [.Name x p2] [] pos) :=
  ⟨_, pe_callTy call_str_int hg hm (show bootBuiltins "str" = some (.type "str") by decide +kernel) (pa_cons (pe_var (i := i) hN hv hd hcd) pa_nil he) (by decide) (by decide) he hpl, fun Q h => ⟨_, hσ, n, rfl, hz, h _⟩⟩
theorem eo_fInt {x a b : Str} {n : Int} {j1 j2 : Nat} {c1 c2 c3 c4 : Pos} (i : Nat) (hσ : σ[i]? = some (some (.int n))) (hz : n.natAbs.log2 < 1920) (hab : a.length + b.length ≤ 1000) (hN : X.N[i]? = some x) (hv : Vis X.env.scope x) (hd : (x == ("__debug__" : Str)) = false := by decide) (hcd : (x == ("__classdict__" : Str)) = false := by decide) :
    EvOk X σ H (.JoinedStr [.Constant (.str a) j1 c1, .FormattedValue (.Name x c2) (-1) none c3, .Constant (.str b) j2 c4] pos) := by
  have z : ∀ y z : Str, (y ++ z).length = y.length + z.length := fun y z => by
    show (y ++ z).cps.size = y.cps.size + z.cps.size
    exact Array.size_append
  have zi : (Str.ofString (toString n)).length ≤ 2000 := by
    have q := int_text_length_le (k := 1920) (by decide) hz
    rw [PySem.ofString_length]; omega
  have ze : Str.empty.length = 0 := rfl
  have zs : (3000 : Nat) ≤ sizeLine := by decide
  have pc : ∀ {x : Str} {j : Nat} {c : Pos}, PE X (.Constant (.str x) j c) (tC (.str x)) := fun {x j c} => pe_str
  refine ⟨_, pe_joined (.cons pc (.cons (pe_fmt (pe_var (i := i) hN hv hd hcd)) (.cons pc .nil))), fun Q h => ?_⟩
  refine ⟨a, rfl, by rw [z, ze]; omega, ⟨_, hσ, .inr ⟨n, rfl, hz, _, rfl, ?_, b, rfl, ?_, h _⟩⟩⟩
  · rw [z, z, ze]
    show _ + (Str.ofString (toString n)).length ≤ _
    omega
  · rw [z, z, z, ze]
    show _ + (Str.ofString (toString n)).length + _ ≤ _
    omega
end
section
variable {P : Program} {K : PySem.W.Frag} {x qual : Str} {st : Stmt} {C f : Addr} {fd : FuncData}
theorem funS_mk {oc : Value} {od an : Option Addr} {kV doc pm ct : Value} {cda cc : Addr} {osl : Array (Option Value)} {cl ccl : Value} {cld cdd : Option Addr} {csl ccs : Array (Option Value)} {vs : Array Value} {file : Str} {tf : Tok}
    (l : K.lookup f = some ⟨oc, od, .func (PySem.W.ksFn x qual (defArgs st) (defBody st) (defScope st) .none kV doc pm an (.ref cda) ct cc), osl⟩) (c : PySem.W.codeIn K (.ref cda) qual = true) (k : PySem.W.keepIn K (.ref f) = true) (lc : K.lookup cc = some ⟨cl, cld, .cell (some (.ref C)), csl⟩) (ld : K.lookup cda = some ⟨ccl, cdd, .fields vs, ccs⟩) (hv : vs[2]? = some (.str file tf)) (hf : ((P.main.file : Str) == file) = true) :
    FunS P K x qual st C f (PySem.W.ksFn x qual (defArgs st) (defBody st) (defScope st) .none kV doc pm an (.ref cda) ct cc) :=
  ⟨⟨oc, od, kV, doc, pm, an, cda, cc, ct, osl, cl, ccl, cld, cdd, csl, ccs, vs, file, tf, rfl, l, c, lc, ld, hv, hf⟩, k⟩
theorem FunS.binds {ps : List Str} (F : FunS P K x qual st C f fd) (h : ∀ (kV doc pm : Value) (an : Option Addr) (cda ct : Value) (cc : Addr) (us : List Value), us.length = ps.length → bindArgs (PySem.W.ksFn x qual (defArgs st) (defBody st) (defScope st) .none kV doc pm an cda ct cc) ⟨us, []⟩ = pure (ps.zip us)) : Binds K fd ps [] := by
  obtain ⟨oc, od, kV, doc, pm, an, cda, cc, ct, osl, cl, ccl, cld, cdd, csl, ccs, vs, file, tf, rfl, _⟩ := F.ex
  exact .all (h kV doc pm an (.ref cda) ct cc)
structure MetS (P : Program) (K : PySem.W.Frag) (x qual : Str) (st : Stmt) (ps : List Str) (C f : Addr) (fd : FuncData) : Prop where
  F : FunS P K x qual st C f fd
  b : Binds K fd ps []
end
/-- the fields of an error, its arguments asked for something -/
def spXP (C : Addr) (fs : List Str) (ok : List V → Prop) : Sp := fun vs H Q E => spX C fs vs H Q E ∧ ∃ (a : Addr) (ws : List V), vs = .ref a :: ws ∧ ok ws
section
variable {P : Program} {w : World} {K : PySem.W.Frag} {mg : Str → Option Value} {base : Heap}
theorem fnSup1 {qual : Str} {st : Stmt} {f C : Addr} {fd : FuncData} {y p1 f1 : Str} {ya : Arg} {k : Nat} {e : Expr} {es : List Expr} {p0 c1 p2 p3 p4 q1 q2 q3 q4 : Pos} (ok : List V → Prop) (F : FunS P K "__init__" qual st C f fd) (S : ScS [y, p1] (defScope st)) (T : SupT P K mg C) (n1 : PySem.W.findIn K (.ref C) f1 = some none)
    (hb : defBody st = [.Expr (.Call (.Attribute (.Call (.Name "super" p0) [] [] c1) "__init__" p2) (e :: es) [] p3) p4, .Assign [.Attribute (.Name y q1) f1 q2] (.Name p1 q3) q4])
    (hy : ((defArgs st).posonlyargs ++ (defArgs st).args).head? = some ya) (hya : ya.arg = y)
    (har : ∀ (X : Cx) (a : Addr) (v : V) (H : Hp), X.N = [y, p1] → X.env.scope = defScope st → X.mg = mg → ok [v] → ArOk X [some (.ref a), some v] H (e :: es)) (hlen : (e :: es).length ≤ 100)
    (he : ∀ env : Env, starEach (e :: es) env = (false, eval e env) :: starEach es env := by intros; rfl) (hpl : ∀ env : Env, (backTo p3 (starEach es env)).any (·.1) = false := by intros; rfl)
    (hi : ∀ env : Env, swapsWith (.Call (.Attribute (.Call (.Name "super" p0) [] [] c1) "__init__" p2) (e :: es) [] p3) none p4.line env = pure false := by intros; rfl)
    (hm : ∀ env : Env, eval (.Call (.Attribute (.Call (.Name "super" p0) [] [] c1) "__init__" p2) (e :: es) [] p3) env = (do
      let ov ← attributeBase (.Call (.Name "super" p0) [] [] c1) "__init__" env (eval (.Call (.Name "super" p0) [] [] c1) env)
      standAt p2.atName
      let (f, first) ← holding [ov] (getMethod ov "__init__" (pure false))
      callWith p3 f first (backTo p3 (starEach (e :: es) env)) []) := by intros; rfl)
    (d0 : (y == ("__debug__" : Str)) = false := by decide) (c0 : (y == ("__classdict__" : Str)) = false := by decide) (d1 : (p1 == ("__debug__" : Str)) = false := by decide) (cl1 : (p1 == ("__classdict__" : Str)) = false := by decide) : FnOk P w K mg base (L2.CX P w) (k + 1) f fd [y, p1] (spXP C [f1] ok) := by
  refine fnSup (y := ya) F S T hb hy (by rw [hya]; rfl) (fun vs H Q E h => ?_) (fun cd cc A outer s H vs Q E hr h => ?_) he hpl hi hm
  · obtain ⟨⟨a, ws, rfl, hl, ha, _⟩, _⟩ := h
    exact ⟨by rw [List.length_cons, hl]; rfl, a, ws, rfl, ha⟩
  · obtain ⟨⟨a, ws, rfl, hl, ha, hq⟩, a', ws', e', hok⟩ := h
    cases e'
    obtain ⟨v1, rfl⟩ := List.length_eq_one_iff.mp hl
    obtain ⟨ta, pa, wa⟩ := har (cxS P w K mg base [y, p1] qual (defScope st) f cd cc A outer s H E) a v1 H rfl rfl rfl hok
    refine ⟨ta, _, pa, pss_one (ps_ost (pe_var (i := 0) rfl (.inl (S.par _ (by simp))) d0 c0) (pe_var (i := 1) rfl (.inl (S.par _ (by simp))) d1 cl1)), fun QA hQ => ⟨wa _ fun us hu => hQ us (by omega), ?_⟩⟩
    exact ⟨_, rfl, _, rfl, a, C, rfl, T.oc, n1, .inl ⟨ha, fun dx h1 h2 => hq dx _ h1 h2 upd_same ((upd_ne h2).trans upd_same) fun b hb1 hb2 => (upd_ne hb1).trans (upd_ne hb2)⟩⟩
theorem fnSup2 {qual : Str} {st : Stmt} {f C : Addr} {fd : FuncData} {y p1 f1 pb f2 : Str} {ya : Arg} {k : Nat} {e : Expr} {es : List Expr} {p0 c1 p2 p3 p4 q1 q2 q3 q4 r1 r2 r3 r4 : Pos} (ok : List V → Prop) (F : FunS P K "__init__" qual st C f fd) (S : ScS [y, p1, pb] (defScope st)) (T : SupT P K mg C) (n1 : PySem.W.findIn K (.ref C) f1 = some none) (n2 : PySem.W.findIn K (.ref C) f2 = some none)
    (hb : defBody st = [.Expr (.Call (.Attribute (.Call (.Name "super" p0) [] [] c1) "__init__" p2) (e :: es) [] p3) p4, .Assign [.Attribute (.Name y q1) f1 q2] (.Name p1 q3) q4, .Assign [.Attribute (.Name y r1) f2 r2] (.Name pb r3) r4])
    (hy : ((defArgs st).posonlyargs ++ (defArgs st).args).head? = some ya) (hya : ya.arg = y)
    (har : ∀ (X : Cx) (a : Addr) (v u : V) (H : Hp), X.N = [y, p1, pb] → X.env.scope = defScope st → X.mg = mg → ok [v, u] → ArOk X [some (.ref a), some v, some u] H (e :: es)) (hlen : (e :: es).length ≤ 100)
    (he : ∀ env : Env, starEach (e :: es) env = (false, eval e env) :: starEach es env := by intros; rfl) (hpl : ∀ env : Env, (backTo p3 (starEach es env)).any (·.1) = false := by intros; rfl)
    (hi : ∀ env : Env, swapsWith (.Call (.Attribute (.Call (.Name "super" p0) [] [] c1) "__init__" p2) (e :: es) [] p3) none p4.line env = pure false := by intros; rfl)
    (hm : ∀ env : Env, eval (.Call (.Attribute (.Call (.Name "super" p0) [] [] c1) "__init__" p2) (e :: es) [] p3) env = (do
      let ov ← attributeBase (.Call (.Name "super" p0) [] [] c1) "__init__" env (eval (.Call (.Name "super" p0) [] [] c1) env)
      standAt p2.atName
      let (f, first) ← holding [ov] (getMethod ov "__init__" (pure false))
      callWith p3 f first (backTo p3 (starEach (e :: es) env)) []) := by intros; rfl)
    (d0 : (y == ("__debug__" : Str)) = false := by decide) (c0 : (y == ("__classdict__" : Str)) = false := by decide) (d1 : (p1 == ("__debug__" : Str)) = false := by decide) (cl1 : (p1 == ("__classdict__" : Str)) = false := by decide) (d2 : (pb == ("__debug__" : Str)) = false := by decide) (cl2 : (pb == ("__classdict__" : Str)) = false := by decide) : FnOk P w K mg base (L2.CX P w) (k + 1) f fd [y, p1, pb] (spXP C [f1, f2] ok) := by
  refine fnSup (y := ya) F S T hb hy (by rw [hya]; rfl) (fun vs H Q E h => ?_) (fun cd cc A outer s H vs Q E hr h => ?_) he hpl hi hm
  · obtain ⟨⟨a, ws, rfl, hl, ha, _⟩, _⟩ := h
    exact ⟨by rw [List.length_cons, hl]; rfl, a, ws, rfl, ha⟩
  · obtain ⟨⟨a, ws, rfl, hl, ha, hq⟩, a', ws', e', hok⟩ := h
    cases e'
    obtain ⟨v1, v2, rfl⟩ : ∃ v1 v2, ws = [v1, v2] := by
      match ws, hl with
      | [v1, v2], _ => exact ⟨_, _, rfl⟩
    obtain ⟨ta, pa, wa⟩ := har (cxS P w K mg base [y, p1, pb] qual (defScope st) f cd cc A outer s H E) a v1 v2 H rfl rfl rfl hok
    refine ⟨ta, _, pa, pss_cons (ps_ost (pe_var (i := 0) rfl (.inl (S.par _ (by simp))) d0 c0) (pe_var (i := 1) rfl (.inl (S.par _ (by simp))) d1 cl1)) (pss_one (ps_ost (pe_var (i := 0) rfl (.inl (S.par _ (by simp))) d0 c0) (pe_var (i := 2) rfl (.inl (S.par _ (by simp))) d2 cl2))), fun QA hQ => ⟨wa _ fun us hu => hQ us (by omega), ?_⟩⟩
    refine ⟨_, rfl, _, rfl, a, C, rfl, T.oc, n1, .inl ⟨ha, fun dx h1 h2 => ?_⟩⟩
    refine ⟨_, rfl, _, rfl, a, C, rfl, T.oc, n2, .inr ⟨dx, _, upd_same, (upd_ne h2).trans upd_same, by simp, ?_⟩⟩
    exact hq dx _ h1 h2 ((upd_ne (Ne.symm h2)).trans upd_same) upd_same fun b hb1 hb2 => (upd_ne hb2).trans ((upd_ne hb1).trans (upd_ne hb2))
end
/-- raised, its arguments looked at -/
def mRaiseG (c : Nat) (fs : List Str) (okD : List D → Bool) (ma : MA) : MS := fun env st => match ma env st with
  | .ok ds st1 => if ds.length = fs.length ∧ ds.length ≤ 100 ∧ okD ds = true then .er ⟨c, some (fs.zip ds).reverse⟩ env st1 else .bad
  | .err x st1 => .er x env st1
  | .bad => .bad
section
variable {G : Glb} {X : Cx} {W : WX} {Ob : Ow} {OE : Ow → Prop} {O O1 : Ow} {pos p pos' : Pos} {k j : Nat} {x : Str} {c : Nat} {fI : Addr} {fd : FuncData} {ps fs : List Str} {e : Expr} {es : List Expr} {ma : MA} {okV : List V → Prop} {okD : List D → Bool}
theorem ds_raiseG (xc : XC k G X W) (T : OexT G X.mg x c fI fs) (F : FnOk X.prog X.w X.K X.mg X.base (L2.CX X.prog X.w) j fI fd ps (spXP (G.cl c) fs okV)) (hk : ∀ (ad : List Addr) (S : Hp) (vs : List V) (ds : List D), Reps G ad S vs ds → okD ds = true → okV vs) (hb : Binds X.K fd ps []) (ha : DA G X W O (e :: es) ma) (hjk : j + 1 ≤ k := by decide) (hO : OE O := by first | trivial | rfl) (hg : Gl X x := by rfl) (hdb : (x == ("__debug__" : Str)) = false := by decide)
    (he : starEach (e :: es) X.env = (false, eval e X.env) :: starEach es X.env := by rfl) (hpl : (backTo pos' (starEach es X.env)).any (·.1) = false := by rfl) :
    DS G X W Ob OE O (.Raise (some (.Call (.Name x p) (e :: es) [] pos')) none pos) O1 (mRaiseG c fs okD ma) := by
  obtain ⟨t, pa, w⟩ := ha.ex
  have hK := xc.K
  refine ⟨_, ps_raise xc.calm xc.tk (pmk_oex (hK ▸ T.oc) (hK ▸ T.in_) (hK ▸ T.tI) F (xc.hr.mono hjk) hb (dvs := []) .nil (fun _ _ _ _ _ _ _ z => by obtain ⟨_, _, _, _, _, _, _, _, _, _, _, _, z⟩ := z; exact z.elim) hg T.g pa hdb he hpl), fun b S env st σ H D I h => ?_⟩
  unfold mRaiseG at h
  refine w b S env st σ H _ I ?_
  cases ea : ma env st with
  | ok ds st1 =>
    rw [ea] at h
    dsimp only at h
    split at h
    case isFalse => exact h.elim
    rename_i hn
    intro vs S1 H1 x1 su1 so1 r1
    refine ⟨by rw [r1.len]; omega, fun a h1 => ⟨⟨a, vs, by rw [List.append_nil], by rw [r1.len]; exact hn.1, upd_same, fun dx H2 g1 g2 g3 g4 g5 => ?_⟩, a, vs, by rw [List.append_nil], hk _ _ _ _ r1 hn.2.2⟩⟩
    have g1' : H1 dx = none := by rwa [upd_ne g2] at g1
    refine ⟨rfl, dx, _, g3, g4, g1', ?_⟩
    have eH : upd (del H2 a) dx (.xd (fs.zip vs).reverse) = upd H1 dx (.xd (fs.zip vs).reverse) := by
      funext q
      by_cases hq : q = dx
      · subst hq; rw [upd_same, upd_same]
      · rw [upd_ne hq, upd_ne hq]
        by_cases hq2 : q = a
        · subst hq2; rw [del_same, h1]
        · rw [del_ne hq2, g5 q hq2 hq, upd_ne hq2]
    rw [eH]
    have I1 := I.ext x1 su1 so1
    have sS : S1 dx = none := by
      cases z : S1 dx with
      | none => rfl
      | some o => have := su1 dx o z; rw [g1'] at this; cases this
    have nad : dx ∉ b.ad := fun z => by
      obtain ⟨_, vs', hv⟩ := so1.has z
      rw [g1'] at hv; cases hv
    have sm : Same S1 (upd S1 dx (.xd (fs.zip vs).reverse)) := fun q o hq => by
      rw [upd_ne (fun z => by rw [z, sS] at hq; cases hq)]; exact hq
    have x2 : Ext b.ad S1 H1 (upd S1 dx (.xd (fs.zip vs).reverse)) (upd H1 dx (.xd (fs.zip vs).reverse)) := by
      refine ⟨sm, fun q o hq => ?_, fun q o hq _ => ?_⟩
      · by_cases z : q = dx
        · subst z; exact .inr g1'
        · rw [upd_ne z] at hq; exact .inl hq
      · rw [upd_ne (fun z => by rw [z, g1'] at hq; cases hq)]; exact hq
    have su2 : Same (upd S1 dx (.xd (fs.zip vs).reverse)) (upd H1 dx (.xd (fs.zip vs).reverse)) := fun q o hq => by
      by_cases z : q = dx
      · subst z; rw [upd_same] at hq ⊢; exact hq
      · rw [upd_ne z] at hq ⊢; exact su1 q o hq
    have so2 : StoOk G b.ad (upd S1 dx (.xd (fs.zip vs).reverse)) st1 (upd H1 dx (.xd (fs.zip vs).reverse)) :=
      (so1.grow fun q o hq hh => by rw [upd_ne (show q ≠ dx from fun z => nad (z ▸ hq))]; exact hh).known sm fun q hq => by
        rw [upd_ne (show q ≠ dx from fun z => nad (z ▸ hq))]; exact (so1.has hq).1
    exact h _ _ O _ σ _ hO (x1.same.trans x2.same) (I1.ext x2 su2 so2) ⟨rfl, dx, _, rfl, upd_same, (repF_zip fs (r1.mono sm)).rev⟩
  | err y st1 =>
    rw [ea] at h
    intro cls dd S' H' x' su so r
    exact h cls dd O S' σ H' hO x'.same (I.ext x' su so) r
  | bad => rw [ea] at h; exact h.elim
end
/-- any arguments -/
def okAny : List D → Bool := fun _ => true
def okAnyV : List V → Prop := fun _ => True
theorem hk_any (ad : List Addr) (S : Hp) (vs : List V) (ds : List D) {G : Glb} (_ : Reps G ad S vs ds) (_ : okAny ds = true) : okAnyV vs := trivial
/-- the first is a number, not too long -/
def okInt0 : List D → Bool
  | .int i :: _ => decide (i.natAbs.log2 < 1920)
  | _ => false
def okInt0V : List V → Prop := fun vs => ∃ (i : Int) (r : List V), vs = .int i :: r ∧ i.natAbs.log2 < 1920
theorem hk_int0 (ad : List Addr) (S : Hp) (vs : List V) (ds : List D) {G : Glb} (r : Reps G ad S vs ds) (h : okInt0 ds = true) : okInt0V vs := by
  cases r with
  | nil => cases h
  | cons a r =>
    cases a with
    | int i => exact ⟨i, _, rfl, by simpa [okInt0] using h⟩
    | _ => cases h
theorem ev8 : ∀ (c : Nat) (fs : List Str) (okD : List D → Bool) (ma : MA) (env : Env') (st : List D), mRaiseG c fs okD ma env st = match ma env st with
  | .ok ds st1 => if ds.length = fs.length ∧ ds.length ≤ 100 ∧ okD ds = true then .er ⟨c, some (fs.zip ds).reverse⟩ env st1 else .bad
  | .err x st1 => .er x env st1
  | .bad => .bad := fun _ _ _ _ _ _ => rfl
end DL

/-! DL, 29th part: a walk over an owned list that stays owned (a cell meanwhile); list(range(a, b)). -/
namespace DL
open PySem PySem.Spec PyProof.Rows L2
mutual
/-- no token from n on -/
def tokLt (n : Nat) : D → Bool
  | .tok k => decide (k < n)
  | .tup xs => tokLts n xs
  | .lst xs => tokLts n xs
  | .rol xs => tokLts n xs
  | .obj _ fs => tokLtF n fs
  | .non => true
  | .bl _ => true
  | .int _ => true
  | .str _ => true
  | .ty _ => true
  | .cls _ => true
  | .dic => true
def tokLts (n : Nat) : List D → Bool
  | [] => true
  | d :: ds => tokLt n d && tokLts n ds
def tokLtF (n : Nat) : List (Str × D) → Bool
  | [] => true
  | p :: r => tokLt n p.2 && tokLtF n r
end
section
variable {G : Glb} {ad : List Addr} {a : Addr} {S : Hp}
mutual
theorem Rep.more : ∀ {v : V} {d : D}, Rep G ad S v d → Rep G (ad ++ [a]) S v d
  | _, _, .non => .non
  | _, _, .bl b => .bl b
  | _, _, .int i => .int i
  | _, _, .str x => .str x
  | _, _, .ty n => .ty n
  | _, _, .tup h r => .tup h (Reps.more r)
  | _, _, .lst h r => .lst h (Reps.more r)
  | _, _, .rol h r => .rol h (Reps.more r)
  | _, _, .obj h r => .obj h (RepF.more r)
  | _, _, .cls c => .cls c
  | _, _, .tok h => .tok (by rw [List.getElem?_append_left (List.getElem?_eq_some_iff.mp h).1]; exact h)
  | _, _, .dic h => .dic h
theorem Reps.more : ∀ {vs : List V} {ds : List D}, Reps G ad S vs ds → Reps G (ad ++ [a]) S vs ds
  | _, _, .nil => .nil
  | _, _, .cons h r => .cons (Rep.more h) (Reps.more r)
theorem RepF.more : ∀ {vs : List (Str × V)} {ds : List (Str × D)}, RepF G ad S vs ds → RepF G (ad ++ [a]) S vs ds
  | _, _, .nil => .nil
  | _, _, .cons h r => .cons (Rep.more h) (RepF.more r)
end
mutual
theorem Rep.less : ∀ {v : V} {d : D}, Rep G (ad ++ [a]) S v d → tokLt ad.length d = true → Rep G ad S v d
  | _, _, .non, _ => .non
  | _, _, .bl b, _ => .bl b
  | _, _, .int i, _ => .int i
  | _, _, .str x, _ => .str x
  | _, _, .ty n, _ => .ty n
  | _, _, .tup h r, k => .tup h (Reps.less r (by unfold tokLt at k; exact k))
  | _, _, .lst h r, k => .lst h (Reps.less r (by unfold tokLt at k; exact k))
  | _, _, .rol h r, k => .rol h (Reps.less r (by unfold tokLt at k; exact k))
  | _, _, .obj h r, k => .obj h (RepF.less r (by unfold tokLt at k; exact k))
  | _, _, .cls c, _ => .cls c
  | _, _, .tok h, k => .tok (by
      unfold tokLt at k
      rw [List.getElem?_append_left (by simpa using k)] at h
      exact h)
  | _, _, .dic h, _ => .dic h
theorem Reps.less : ∀ {vs : List V} {ds : List D}, Reps G (ad ++ [a]) S vs ds → tokLts ad.length ds = true → Reps G ad S vs ds
  | _, _, .nil, _ => .nil
  | _, _, .cons h r, k => by
    unfold tokLts at k
    rw [Bool.and_eq_true] at k
    exact .cons (Rep.less h k.1) (Reps.less r k.2)
theorem RepF.less : ∀ {vs : List (Str × V)} {ds : List (Str × D)}, RepF G (ad ++ [a]) S vs ds → tokLtF ad.length ds = true → RepF G ad S vs ds
  | _, _, .nil, _ => .nil
  | _, _, .cons h r, k => by
    unfold tokLtF at k
    rw [Bool.and_eq_true] at k
    exact .cons (Rep.less h k.1) (RepF.less r k.2)
end
end
/-- an owned list as a cell -/
theorem DI.cell {G : Glb} {b : Act} {O O' : Ow} {S : Hp} {env : Env'} {st : List D} {σ : L2.St} {H : Hp} {i : Nat} {ds : List D} (I : DI G b O S env st σ H) (hi : i ∈ O.own) (e : env[i]? = some (some (.lst ds))) (hx : O.exi = none) (hs : O.slf = none) (hx' : O'.exi = none) (hs' : O'.slf = none) (sub : ∀ j ∈ O'.own, j ∈ O.own ∧ j ≠ i) (sup : ∀ j ∈ O.own, j ≠ i → j ∈ O'.own) :
    ∃ a, σ[i]? = some (some (.ref a)) ∧ S a = none ∧ b.H a = none ∧ a ∉ b.ad ∧ DI G ⟨b.S, b.H, b.ad ++ [a]⟩ O' S (env.set i (some (.tok st.length))) (st ++ [.lst ds]) σ H := by
  obtain ⟨a, vs, ds', q1, q2, q3, q4, q5, q6, q7⟩ := I.own i _ hi e
  cases q1
  have hil : i < env.length := (List.getElem?_eq_some_iff.mp e).1
  have hln := I.sto.len
  have keepj : ∀ {j : Nat} {d : D}, j ≠ i → (env.set i (some (.tok st.length)))[j]? = some (some d) → env[j]? = some (some d) := fun {j d} hj h => by rwa [List.getElem?_set_ne (Ne.symm hj)] at h
  refine ⟨a, q2, q4, q5, q6, ⟨by rw [I.len, List.length_set], I.sub, I.s0, I.new, fun c o h hc => I.keep c o h fun z => hc (List.mem_append_left _ z), fun j d h ho => ?_, fun j d hj h => ?_, fun j k c hj hk e1 e2 => ?_, ⟨by simp [hln], ?_, fun n c hn => ?_⟩, fun j d h _ => (by rw [hx'] at h; cases h), fun j h => (by rw [hs'] at h; cases h)⟩⟩
  · by_cases hj : j = i
    · subst hj
      rw [List.getElem?_set_self hil] at h
      cases h
      exact ⟨_, q2, .tok (by rw [List.getElem?_append_right (by omega), hln]; simp)⟩
    · have ho2 : O.has j = false := by
        unfold Ow.has at ho ⊢
        rw [hx, hs]
        have : O.own.elem j = false := by
          cases z : O.own.elem j with
          | false => rfl
          | true =>
            have m := sup j (List.elem_iff.mp z) hj
            rw [show O'.own.elem j = true from List.elem_iff.mpr m] at ho
            simp at ho
        rw [this]; rfl
      obtain ⟨v, h1, h2⟩ := I.slot j d (keepj hj h) ho2
      exact ⟨v, h1, h2.more⟩
  · obtain ⟨m, ne⟩ := sub j hj
    obtain ⟨c, ws, es, p1, p2, p3, p4, p5, p6, p7⟩ := I.own j d m (keepj ne h)
    refine ⟨c, ws, es, p1, p2, p3, p4, p5, fun z => ?_, p7.more⟩
    rcases List.mem_append.mp z with z | z
    · exact p6 z
    · have z := List.mem_singleton.mp z
      subst z
      exact ne (I.dist j i c m hi ⟨_, keepj ne h⟩ ⟨_, e⟩ p2 q2)
  · obtain ⟨m1, n1⟩ := sub j hj
    obtain ⟨m2, n2⟩ := sub k hk
    obtain ⟨d1, e1⟩ := e1
    obtain ⟨d2, e2⟩ := e2
    exact I.dist j k c m1 m2 ⟨_, keepj n1 e1⟩ ⟨_, keepj n2 e2⟩
  · rw [List.nodup_append]
    refine ⟨I.sto.nd, by simp, fun x hx y hy => ?_⟩
    have hy := List.mem_singleton.mp hy
    subst hy
    exact fun z => q6 (z ▸ hx)
  · by_cases hc : n < b.ad.length
    · rw [List.getElem?_append_left hc] at hn
      obtain ⟨z1, es, ws, z2, z3, z4⟩ := I.sto.at_ n c hn
      exact ⟨z1, es, ws, by rw [List.getElem?_append_left (by omega)]; exact z2, z3, z4.more⟩
    · have hn' := (List.getElem?_eq_some_iff.mp hn).1
      rw [List.length_append, List.length_singleton] at hn'
      have en : n = b.ad.length := by omega
      subst en
      rw [List.getElem?_append_right (Nat.le_refl _)] at hn
      simp at hn
      subst hn
      exact ⟨q4, ds, vs, by rw [List.getElem?_append_right (by omega), hln]; simp, q3, q7.more⟩
/-- .. and back -/
theorem DI.uncell {G : Glb} {b : Act} {O O' : Ow} {S : Hp} {env : Env'} {st : List D} {σ : L2.St} {H : Hp} {i : Nat} {a : Addr} {ds : List D} (I : DI G ⟨b.S, b.H, b.ad ++ [a]⟩ O' S env st σ H) (h1 : b.H a = none) (h2 : a ∉ b.ad) (hi : i ∈ O.own) (hx : O.exi = none) (hs : O.slf = none) (hx' : O'.exi = none) (hs' : O'.slf = none) (sub : ∀ j ∈ O'.own, j ∈ O.own ∧ j ≠ i) (sup : ∀ j ∈ O.own, j ≠ i → j ∈ O'.own)
    (e : env[i]? = some (some (.tok b.ad.length))) (e2 : st[b.ad.length]? = some (.lst ds)) (t0 : tokLts b.ad.length ds = true) (t1 : ∀ (j : Nat) (d : D), j ≠ i → env[j]? = some (some d) → tokLt b.ad.length d = true) (t2 : ∀ (k : Nat) (d : D), k < b.ad.length → st[k]? = some d → tokLt b.ad.length d = true) :
    DI G b O S (env.set i (some (.lst ds))) (st.take b.ad.length) σ H := by
  have hil : i < env.length := (List.getElem?_eq_some_iff.mp e).1
  have hno : O'.has i = false := by
    unfold Ow.has
    rw [hx', hs']
    have : O'.own.elem i = false := by
      cases z : O'.own.elem i with
      | false => rfl
      | true => exact absurd rfl (sub i (List.elem_iff.mp z)).2
    rw [this]; rfl
  obtain ⟨v, hv, rv⟩ := I.slot i _ e hno
  have hl : st.length = b.ad.length + 1 := by
    have := I.sto.len
    rw [List.length_append, List.length_singleton] at this
    omega
  have ev : v = .ref a := by
    cases rv with
    | tok h => rw [List.getElem?_append_right (Nat.le_refl _)] at h; simp at h; rw [h]
  subst ev
  obtain ⟨sA, es, vs, y1, y2, y3⟩ := I.sto.at_ b.ad.length a (by rw [List.getElem?_append_right (Nat.le_refl _)]; simp)
  have ees : es = ds := by
    have := y1.symm.trans e2
    simpa using this
  subst ees
  have keepj : ∀ {j : Nat} {d : D}, j ≠ i → (env.set i (some (.lst es)))[j]? = some (some d) → env[j]? = some (some d) := fun {j d} hj h => by rwa [List.getElem?_set_ne (Ne.symm hj)] at h
  have ownne : ∀ {j : Nat} {d : D}, j ∈ O'.own → env[j]? = some (some d) → ∃ (c : Addr) (ws : List V) (xs : List D), d = D.lst xs ∧ σ[j]? = some (some (V.ref c)) ∧ H c = some (HO.lst ws) ∧ S c = none ∧ b.H c = none ∧ c ∉ b.ad ∧ c ≠ a ∧ Reps G b.ad S ws xs := fun {j d} hj h => by
    obtain ⟨c, ws, xs, p1, p2, p3, p4, p5, p6, p7⟩ := I.own j d hj h
    have tt := t1 j d (sub j hj).2 h
    subst p1
    unfold tokLt at tt
    exact ⟨c, ws, xs, rfl, p2, p3, p4, p5, fun z => p6 (List.mem_append_left _ z), fun z => p6 (List.mem_append_right _ (List.mem_singleton.mpr z)), p7.less tt⟩
  refine ⟨by rw [I.len, List.length_set], I.sub, I.s0, I.new, fun c o h hc => I.keep c o h fun z => ?_, fun j d h ho => ?_, fun j d hj h => ?_, fun j k c hj hk x1 x2 s1 s2 => ?_, ⟨by rw [List.length_take]; omega, ?_, fun n c hn => ?_⟩, fun j d h _ => (by rw [hx] at h; cases h), fun j h => (by rw [hs] at h; cases h)⟩
  · rcases List.mem_append.mp z with z | z
    · exact hc z
    · have z := List.mem_singleton.mp z
      subst z
      have h : b.H c = some o := h
      rw [h1] at h; cases h
  · have hj : j ≠ i := fun z => by
      subst z
      unfold Ow.has at ho
      rw [show O.own.elem j = true from List.elem_iff.mpr hi] at ho
      simp at ho
    have ho2 : O'.has j = false := by
      unfold Ow.has
      rw [hx', hs']
      have : O'.own.elem j = false := by
        cases z : O'.own.elem j with
        | false => rfl
        | true =>
          unfold Ow.has at ho
          rw [show O.own.elem j = true from List.elem_iff.mpr (sub j (List.elem_iff.mp z)).1] at ho
          simp at ho
      rw [this]; rfl
    obtain ⟨u, g1, g2⟩ := I.slot j d (keepj hj h) ho2
    exact ⟨u, g1, g2.less (t1 j d hj (keepj hj h))⟩
  · by_cases hji : j = i
    · subst hji
      rw [List.getElem?_set_self hil] at h
      cases h
      exact ⟨a, vs, es, rfl, hv, y2, sA, h1, h2, y3.less t0⟩
    · obtain ⟨c, ws, xs, p1, p2, p3, p4, p5, p6, p7, p8⟩ := ownne (sup j hj hji) (keepj hji h)
      exact ⟨c, ws, xs, p1, p2, p3, p4, p5, p6, p8⟩
  · obtain ⟨d1, x1⟩ := x1
    obtain ⟨d2, x2⟩ := x2
    by_cases hji : j = i
    · subst hji
      by_cases hki : k = j
      · exact hki.symm
      · obtain ⟨c', ws, xs, p1, p2, p3, p4, p5, p6, p7, p8⟩ := ownne (sup k hk hki) (keepj hki x2)
        exfalso
        have ea : c = a := by
          have := s1.symm.trans hv
          simpa using this
        have ec : c' = c := by
          have := p2.symm.trans s2
          simpa using this
        exact p7 (ec.trans ea)
    · by_cases hki : k = i
      · subst hki
        obtain ⟨c', ws, xs, p1, p2, p3, p4, p5, p6, p7, p8⟩ := ownne (sup j hj hji) (keepj hji x1)
        exfalso
        have ea : c = a := by
          have := s2.symm.trans hv
          simpa using this
        have ec : c' = c := by
          have := p2.symm.trans s1
          simpa using this
        exact p7 (ec.trans ea)
      · exact I.dist j k c (sup j hj hji) (sup k hk hki) ⟨_, keepj hji x1⟩ ⟨_, keepj hki x2⟩ s1 s2
  · have nd := I.sto.nd
    exact (List.nodup_append.mp nd).1
  · have hc : n < b.ad.length := (List.getElem?_eq_some_iff.mp hn).1
    obtain ⟨z1, xs, ws, z2, z3, z4⟩ := I.sto.at_ n c (by rw [List.getElem?_append_left hc]; exact hn)
    have tt := t2 n _ hc z2
    unfold tokLt at tt
    exact ⟨z1, xs, ws, by rw [List.getElem?_take_of_lt hc]; exact z2, z3, z4.less tt⟩
/-! ### the walk -/
noncomputable def closeC (i n : Nat) (all : List D) (env : Env') (st : List D) : Out :=
  @ite _ (env[i]? = some (some (.tok n)) ∧ st[n]? = some (.lst all) ∧ tokLts n all = true ∧ (∀ (j : Nat) (d : D), j ≠ i → env[j]? = some (some d) → tokLt n d = true) ∧ (∀ (k : Nat) (d : D), k < n → st[k]? = some d → tokLt n d = true)) (Classical.propDecidable _) (.nx (env.set i (some (.lst all))) (st.take n)) .bad
noncomputable def forC (g : MG) (m : MS) (i n : Nat) (all : List D) : List D → MS
  | [] => closeC i n all
  | d :: ds => fun env st => match g d env with
    | none => .bad
    | some env1 => match m env1 st with
      | .nx e s => @ite _ (s[n]? = some (.lst all)) (Classical.propDecidable _) (forC g m i n all ds e s) .bad
      | .ct e s => @ite _ (s[n]? = some (.lst all)) (Classical.propDecidable _) (forC g m i n all ds e s) .bad
      | .bk e s => closeC i n all e s
      | _ => .bad
noncomputable def mForO (i : Nat) (g : MG) (m : MS) : MS := fun env st => match env[i]? with
  | some (some (.lst ds)) => forC g m i st.length ds ds (env.set i (some (.tok st.length))) (st ++ [.lst ds])
  | _ => .bad
section
variable {G : Glb} {X : Cx} {W : WX} {Ob : Ow} {OE : Ow → Prop} {O O' : Ow} {pos : Pos} {k : Nat}
theorem ds_forO (i : Nat) {x : Str} {p1 : Pos} {ix : List Nat} {tg : Expr} {body : List Stmt} {g : MG} {m : MS} (xc : XC k G X W) (hg : DG G X O' ix tg g) (hb : DSs G X W O' (fun _ => True) O' body O' m) (hN : X.N[i]? = some x := by rfl) (hi : i ∈ O.own := by decide) (hx : O.exi = none := by rfl) (hs : O.slf = none := by rfl) (hx' : O'.exi = none := by rfl) (hs' : O'.slf = none := by rfl) (sub : ∀ j ∈ O'.own, j ∈ O.own ∧ j ≠ i := by decide) (sup : ∀ j ∈ O.own, j ≠ i → j ∈ O'.own := by decide)
    (hv : Vis X.env.scope x := by first | exact Or.inl rfl | exact Or.inr (Or.inl rfl) | exact Or.inr (Or.inr rfl)) (hd : (x == ("__debug__" : Str)) = false := by decide) (hcd : (x == ("__classdict__" : Str)) = false := by decide)
    (hfs : ∀ y, foldedSetIterable (.Name x p1) X.env y = pure y := by intro _; rfl) : DS G X W Ob OE O (.For tg (.Name x p1) body [] pos) O (mForO i g m) := by
  obtain ⟨tg', pg, wg⟩ := hg.ex
  obtain ⟨tb, pb, wb⟩ := hb.ex
  have hK := xc.K
  refine ⟨_, ps_for xc.po xc.calm (pi_list (pe_var (i := i) hN hv hd hcd)) pg pb hfs, fun b S env st σ H En I h => ?_⟩
  unfold mForO at h
  cases e : env[i]? with
  | none => rw [e] at h; exact h.elim
  | some o => cases o with
    | none => rw [e] at h; exact h.elim
    | some d0 =>
      obtain ⟨a0, vs0, all, q1, q2, q3, -, -, -, -⟩ := I.own i d0 hi e
      subst q1
      rw [e] at h
      obtain ⟨a, hσ, sA, hA, nA, I1⟩ := I.cell hi e hx hs hx' hs' sub sup
      have ea : a0 = a := by
        have := q2.symm.trans hσ
        simpa using this
      subst ea
      have hn := I.sto.len
      have close : ∀ {S' : Hp} {env' : Env'} {st' : List D} {σ' : L2.St} {H' : Hp}, Same S S' → DI G ⟨b.S, b.H, b.ad ++ [a0]⟩ O' S' env' st' σ' H' → PostS G b Ob OE W O En S' (closeC i st.length all env' st') → En.nx σ' H' := fun {S' env' st' σ' H'} e1 J hc => by
        unfold closeC at hc
        split at hc
        · rename_i cond
          obtain ⟨c1, c2, c3, c4, c5⟩ := cond
          rw [← hn] at c1 c2 c3 c4 c5 hc
          exact hc S' σ' H' (.refl _) (J.uncell hA nA hi hx hs hx' hs' sub sup c1 c2 c3 c4 c5)
        · exact hc.elim
      refine ⟨_, q2, a0, rfl, ⟨vs0, SqL.of q3⟩, fun j n σ' H' => n = all.length - j ∧ j ≤ all.length ∧ ∃ S' env' st', Same S S' ∧ DI G ⟨b.S, b.H, b.ad ++ [a0]⟩ O' S' env' st' σ' H' ∧ st'[st.length]? = some (.lst all) ∧ PostS G b Ob OE W O En S' (forC g m i st.length all (all.drop j) env' st'), ⟨all.length, by simp, Nat.zero_le _, S, _, _, .refl _, I1, by simp, h⟩, ?_⟩
      rintro j n σ' H' ⟨rfl, hj, S', env', st', e1, I', hc, h'⟩
      obtain ⟨sA', es, vs, y1, y2, y3⟩ := I'.sto.at_ b.ad.length a0 (by show (b.ad ++ [a0])[b.ad.length]? = _; rw [List.getElem?_append_right (Nat.le_refl _)]; simp)
      rw [hn, hc] at y1
      cases y1
      have sq : SqL X.K H' a0 vs := SqL.of y2
      by_cases hlt : j < all.length
      · right
        have hd : all[j]? = some all[j] := List.getElem?_eq_getElem hlt
        obtain ⟨v, hv1, rv⟩ := y3.get hd
        refine ⟨⟨vs, v, sq, hv1⟩, fun σ2 H2 => all.length - (j + 1) < all.length - j ∧ ∃ S2 env2 st2, Same S S2 ∧ DI G ⟨b.S, b.H, b.ad ++ [a0]⟩ O' S2 env2 st2 σ2 H2 ∧ st2[st.length]? = some (.lst all) ∧ PostS G b Ob OE W O En S2 (forC g m i st.length all (all.drop (j + 1)) env2 st2), fun σ2 H2 ⟨hl, z⟩ => ⟨all.length - (j + 1), hl, rfl, hlt, z⟩, fun y H'' yy => ?_⟩
        obtain ⟨rfl, yx⟩ := yy
        have ey : v = y := Option.some.inj (hv1.symm.trans (yx vs sq))
        subst ey
        rw [List.drop_eq_getElem_cons hlt] at h'
        unfold forC at h'
        cases e2 : g all[j] env' with
        | none => rw [e2] at h'; exact h'.elim
        | some env1 =>
          rw [e2] at h'
          refine wg _ S' env' env1 st' σ' H'' v all[j] _ I' rv e2 fun σ3 _ I3 => wb _ S' env1 st' σ3 H'' _ I3 ?_
          have lt : all.length - (j + 1) < all.length - j := by omega
          dsimp only at h'
          cases e3 : m env1 st' with
          | nx env4 st4 =>
            rw [e3] at h'
            intro S4 σ4 H4 y4 I4
            dsimp only at h'
            split at h'
            · rename_i cc
              exact ⟨lt, S4, env4, st4, e1.trans y4, I4, cc, h'.from_ y4⟩
            · exact h'.elim
          | ct env4 st4 =>
            rw [e3] at h'
            intro S4 σ4 H4 y4 I4
            dsimp only at h'
            split at h'
            · rename_i cc
              exact ⟨lt, S4, env4, st4, e1.trans y4, I4, cc, h'.from_ y4⟩
            · exact h'.elim
          | bk env4 st4 =>
            rw [e3] at h'
            intro S4 σ4 H4 y4 I4
            exact close (e1.trans y4) I4 (h'.from_ y4)
          | rt d st4 => rw [e3] at h'; exact h'.elim
          | er x st4 => rw [e3] at h'; exact h'.elim
          | bad => rw [e3] at h'; exact h'.elim
      · left
        have hj' : j = all.length := Nat.le_antisymm hj (Nat.le_of_not_lt hlt)
        refine ⟨⟨vs, sq, by rw [y3.len, hj']; exact Nat.le_refl _⟩, ?_⟩
        rw [hj', List.drop_length] at h'
        exact close e1 I' h'
end
/-! ### list(range(a, b)) -/
noncomputable def dLstRg (x y : D) : Option D := match x, y with
  | .int a, .int b => if RgOk a b then some (.lst (rangeD a (b - a).toNat)) else none
  | _, _ => none
section
variable {G : Glb} {X : Cx} {W : WX} {O : Ow} {p p2 pos pos2 : Pos} {a b : Expr} {ma mb : ME}
theorem de_lstRg (hc : X.calm = true) (ht : X.mg "list" = none) (hr : X.mg "range" = none) (ha : DE G X W O a ma) (hb : DE G X W O b mb) (hg : Gl X "list" := by rfl) (hg2 : Gl X "range" := by rfl)
    (na : starEach [.Call (.Name "range" p2) [a, b] [] pos2] X.env = (false, eval (.Call (.Name "range" p2) [a, b] [] pos2) X.env) :: starEach [] X.env := by rfl)
    (nr : starEach [a, b] X.env = (false, eval a X.env) :: starEach [b] X.env := by rfl) (nb : starEach [b] X.env = (false, eval b X.env) :: starEach [] X.env := by rfl) (hp : (backTo pos2 (starEach [b] X.env)).any (·.1) = false := by rfl) :
    DE G X W O (.Call (.Name "list" p) [.Call (.Name "range" p2) [a, b] [] pos2] [] pos) (mOp dLstRg ma mb) := by
  obtain ⟨ta, tb, pa, pb, w⟩ := two_parts (k := fun x y => ret? (dLstRg x y)) ha hb
  refine ⟨_, pe_listRg hc hg ht (prg_2 hg2 hr pa pb nr nb hp) na, fun b S env st σ H Q I h => w b S env st σ H _ (fun x y H2 => ∃ i j, x = .int i ∧ y = .int j ∧ RgOk i j ∧ ∀ q, H2 q = none → Q (.ref q) (upd H2 q (.lst (rgV i j)))) I h fun x y dx dy S' H' st' e I' rx ry hk => ?_⟩
  obtain ⟨d, e1, q⟩ := wp_ret hk
  cases rx with
  | int i =>
    cases ry with
    | int j =>
      have e1 : (if RgOk i j then some (D.lst (rangeD i (j - i).toNat)) else none) = some d := e1
      split at e1
      · rename_i ok
        cases e1
        exact ⟨i, j, rfl, rfl, ok, fun z hz => Post.lst I'.sub I'.sto hz (reps_rg i (j - i).toNat) (Post.from_ e I'.sto q)⟩
      · cases e1
    | _ => cases e1
  | _ => cases e1
end
end DL

/-! DL, 30th part: x in t, t a tuple of data. -/
namespace DL
open PySem PySem.Spec PyProof.Rows L2
def rInT (K : PySem.W.Frag) (f : Bool → Bool) : R2 := fun x y H Q => ∃ d ds, Dp K H x d ∧ Dp K H y (.tuple ds) ∧ PyData.plainAll ds = true ∧ d.plain = true ∧ PyData.depthAll ds ≤ 60 ∧ Q (.bl (f (ds.any fun z => PyData.eqv z d))) H
section
variable {G : Glb} {X : Cx}
theorem op_inT (hu : X.A.units + 65 < cLine) : OpR X (compareOp .In) (rInT X.K id) := by
  intro pins s σ H x y v u Q I rx ry ⟨d, ds, hd, he, p1, p2, dp, q⟩
  obtain ⟨as, r1⟩ := Dp.reads I d x v hd rx
  obtain ⟨bs, r2⟩ := Dp.reads I (.tuple ds) y u he ry
  exact SeqAt.in_tuple_data r2 r1 p1 p2 (by omega) ⟨.bl _, H, I, rfl, q⟩
theorem op_notInT (hu : X.A.units + 65 < cLine) : OpR X (compareOp .NotIn) (rInT X.K not) := by
  intro pins s σ H x y v u Q I rx ry ⟨d, ds, hd, he, p1, p2, dp, q⟩
  obtain ⟨as, r1⟩ := Dp.reads I d x v hd rx
  obtain ⟨bs, r2⟩ := Dp.reads I (.tuple ds) y u he ry
  exact SeqAt.notIn_tuple_data r2 r1 p1 p2 (by omega) ⟨.bl _, H, I, rfl, q⟩
def inT (x : D) (ds : List D) : Option Bool := if (toP x).canLay0 = true ∧ PyData.canLayAll0 (toPs ds) = true ∧ PyData.plainAll (toPs ds) = true ∧ PyData.depthAll (toPs ds) ≤ 60 then some ((toPs ds).any fun z => PyData.eqv z (toP x)) else none
def dInA (x y : D) : Option D := match y with
  | .tup ds => (inT x ds).map fun b => .bl (id b)
  | _ => dIn x y
def dNotInA (x y : D) : Option D := match y with
  | .tup ds => (inT x ds).map fun b => .bl (not b)
  | _ => dNotIn x y
theorem inT_go {f : Bool → Bool} {ad : List Addr} {S H : Hp} {st : List D} {x y : V} {dx d : D} {ds : List D} {Q : VK} (hK : X.K = G.K) (su : Same S H) (so : StoOk G ad S st H) (rx : Rep G ad S x dx) (ry : Rep G ad S y (.tup ds)) (e : (inT dx ds).map (fun b => D.bl (f b)) = some d) (q : Post G ad S H d st Q) : rInT X.K f x y H Q := by
  unfold inT at e
  split at e
  · rename_i h
    obtain ⟨h1, h2, h3, h4⟩ := h
    cases e
    exact ⟨_, _, hK ▸ rx.dp su h1, hK ▸ ry.dp su (by simpa [toP, PyData.canLay0] using h2), h3, PyData.plain_of_canLay0 _ h1, h4, Post.here su so (.bl _) q⟩
  · cases e
theorem opd_inA (hK : X.K = G.K) : OpD G (fun x y H Q => rInD X.K x y H Q ∨ rInT X.K id x y H Q) dInA := ⟨fun ad S H st x y dx dy d Q su so rx ry e q => by
  unfold dInA at e
  split at e
  · exact .inr (inT_go hK su so rx ry e q)
  · exact .inl ((opd_in hK).go ad S H st x y dx dy d Q su so rx ry e q)⟩
theorem opd_notInA (hK : X.K = G.K) : OpD G (fun x y H Q => rNotInD X.K x y H Q ∨ rInT X.K not x y H Q) dNotInA := ⟨fun ad S H st x y dx dy d Q su so rx ry e q => by
  unfold dNotInA at e
  split at e
  · exact .inr (inT_go hK su so rx ry e q)
  · exact .inl ((opd_notIn hK).go ad S H st x y dx dy d Q su so rx ry e q)⟩
end
end DL

open PySem PySem.W PyProof.Rows
set_option maxHeartbeats 0 in
open_top hd for PySem.Challenge.rw_untoldgaps_k09_whole_clashes_of_all_rows
namespace My
open PySem PySem.Spec PyProof.Rows L2 DL
abbrev c_GapError : Nat := 0
abbrev c_BadRatio : Nat := 1
abbrev c_BadRow : Nat := 2
abbrev c_NoPair : Nat := 3
abbrev c_BadWord : Nat := 4
abbrev c_Row : Nat := 5
def clX_BadWord : Nat → Option Bool := fun c => match c with
  | 1 => some false
  | 2 => some false
  | 3 => some false
  | 4 => some true
  | _ => none
def clX_NoPair : Nat → Option Bool := fun c => match c with
  | 1 => some false
  | 2 => some false
  | 3 => some true
  | 4 => some false
  | _ => none
def tabX : Nat → D → Option Bool := fun c d => match c, d with
  | 4, .cls 0 => some true
  | 4, .cls 3 => some false
  | 3, .cls 4 => some false
  | 3, .cls 0 => some true
  | _, _ => none
def okF : Nat → Str → Bool := fun c f => match c with
  | 5 => (["weights", "speeds", "wall", "pairs", "gap_count", "is_like", "first_sum", "second_sum"] : List Str).elem f
  | _ => false
def okI : Nat → Bool := fun c => match c with
  | 5 => true
  | _ => false
def okT : Tag → Bool := fun t => match t with
  | .ty n => (["NoneType", "bool", "int", "str", "tuple", "list"] : List String).elem n
  | .cl c => okI c
def tabC : Tag → Nat → Option Bool := fun t c => match t, c with
  | .ty n, 5 => if (["NoneType", "bool", "int", "str", "tuple", "list"] : List String).elem n then some false else none
  | .cl 5, 5 => some true
  | _, _ => none
def okX : Nat → Str → Bool := fun c f => match c with
  | 2 => (["index", "what"] : List Str).elem f
  | 3 => (["pair"] : List Str).elem f
  | 4 => (["index", "what"] : List Str).elem f
  | _ => false
noncomputable def b__law_hand : MS :=
    mSeq (mSet 1 (mC (.int 0)))
    (mSeq ((mFor (mThenA (mCons (mVar 0) (mNil)) enum?) (gTp (gsCons (gNm 2) (gsCons (gNm 3) (gsNil)))) (mSet 1 (mOp dMod (mCall1 (c1 dInt1) (mCons (mOp dAdd (mOp dMul (mVar 1) (mC (.int 31))) (mOp dMul (mCall1 (c1 dInt1) (mCons (mVar 3) (mNil))) (mOp dAdd (mVar 2) (mC (.int 7))))) (mNil))) (mC (.int 2147483629))))))
    (mRet (mLst (mCons ((mLC (mItems (mVar 0)) [3] (gNm 3) (mYes) (mCall1 (c1 dAbs) (mCons (mCall1 (c1 dInt1) (mCons (mVar 3) (mNil))) (mNil))))) (mCons (mC (.int 0)) (mCons (mC (.int 0)) (mCons (mVar 1) (mNil))))))))
noncomputable def m__law_hand : List D → M D := fnM 4 b__law_hand
noncomputable def b__law_is_row : MS :=
    mSeq (mIfS (mOr (mNot (mTru (mCall1 (dIsC okI tabC) (mCons (mVar 0) (mCons (mC (.cls 5)) (mNil)))))) (mOr (mTest (mOp dNe (mFld okF "weights" (mVar 0)) (mCall1 (c1 dTuple) (mCons (mIx (mVar 1) (mC (.int 0))) (mNil))))) (mTest (mOp dNe (mFld okF "wall" (mVar 0)) (mIx (mVar 1) (mC (.int 2))))))) (mRet (mC (.bl false))) (mNx))
    (mRet (mAndV (mCall1 dIsi (mCons (mFld okF "wall" (mVar 0)) (mCons (mC (.ty "bool")) (mNil)))) (mAndV (mCall1 dIsi (mCons (mFld okF "speeds" (mVar 0)) (mCons (mC (.ty "tuple")) (mNil)))) (mOp dEq (mFld okF "speeds" (mVar 0)) (mCall1 (c1 dTuple) (mCons (mVar 2) (mNil)))))))
noncomputable def m__law_is_row : List D → M D := fnM 3 b__law_is_row
noncomputable def b__law_less : MS :=
    mRet (mOp dLt (mOp dMul (mIx (mVar 0) (mC (.int 0))) (mIx (mVar 1) (mC (.int 1)))) (mOp dMul (mIx (mVar 1) (mC (.int 0))) (mIx (mVar 0) (mC (.int 1)))))
noncomputable def m__law_less : List D → M D := fnM 2 b__law_less
noncomputable def b__law_low : MS :=
    mSeq (mSet 2 (mCall1 (c1 dAbs) (mCons (mVar 0) (mNil))))
    (mSeq (mSet 3 (mCall1 (c1 dAbs) (mCons (mVar 1) (mNil))))
    (mSeq (mWhile (mTru (mVar 3)) (mPar 2 3 (mCons (mVar 3) (mCons (mOp dMod (mCall1 (c1 dInt1) (mCons (mVar 2) (mNil))) (mVar 3)) (mNil)))))
    (mSeq (mIfS (mTest (mOp dLt (mVar 1) (mC (.int 0)))) (mSet 2 (mUn dNeg (mVar 2))) (mNx))
    (mRet (mTup (mCons (mOp dDiv (mVar 0) (mVar 2)) (mCons (mOp dDiv (mVar 1) (mVar 2)) (mNil))))))))
noncomputable def m__law_low : List D → M D := fnM 4 b__law_low
noncomputable def b__law_mix : MS :=
    mSeq (mSet 2 (mOp dMod (mCall1 (c1 dInt1) (mCons (mOp dAdd (mOp dAdd (mOp dMul (mVar 0) (mC (.int 48271))) (mOp dMul (mVar 1) (mC (.int 16807)))) (mC (.int 11))) (mNil))) (mC (.int 2147483647))))
    (mSeq (mSet 3 (mOp dMod (mCall1 (c1 dInt1) (mCons (mOp dAdd (mOp dAdd (mOp dMul (mVar 2) (mVar 2)) (mOp dMul (mOp dDiv (mVar 2) (mC (.int 127))) (mC (.int 40692)))) (mOp dMul (mVar 1) (mC (.int 69621)))) (mNil))) (mC (.int 2147483399))))
    (mRet (mOp dDiv (mOp dMod (mCall1 (c1 dInt1) (mCons (mOp dAdd (mOp dDiv (mOp dMul (mVar 3) (mVar 3)) (mC (.int 1009))) (mVar 2)) (mNil))) (mC (.int 2147483563))) (mC (.int 16)))))
noncomputable def m__law_mix : List D → M D := fnM 4 b__law_mix
noncomputable def b__law_pairs : MS :=
    mRet (mOp dLstRg (mIf (mTru (mIx (mVar 0) (mC (.int 2)))) (mUn dNeg (mC (.int 1))) (mC (.int 0))) (mOp dSub (mCall1 (c1 dLen) (mCons (mIx (mVar 0) (mC (.int 0))) (mNil))) (mC (.int 1))))
noncomputable def m__law_pairs : List D → M D := fnM 1 b__law_pairs
noncomputable def b_is_whole : MS :=
    mRet (mAndV (mCall1 dIsi (mCons (mVar 0) (mCons (mC (.ty "int")) (mNil)))) (mNotV (mCall1 dIsi (mCons (mVar 0) (mCons (mC (.ty "bool")) (mNil))))))
noncomputable def m_is_whole : List D → M D := fnM 1 b_is_whole
noncomputable def b_lowest_terms : MS :=
    mSeq (mSet 2 (mCall1 dGcd (mCons (mVar 0) (mCons (mVar 1) (mNil)))))
    (mSeq (mIfS (mTest (mOp dLt (mVar 1) (mC (.int 0)))) (mSet 2 (mUn dNeg (mVar 2))) (mNx))
    (mRet (mTup (mCons (mOp dDiv (mVar 0) (mVar 2)) (mCons (mOp dDiv (mVar 1) (mVar 2)) (mNil))))))
noncomputable def m_lowest_terms : List D → M D := fnM 3 b_lowest_terms
noncomputable def b__law_add : MS :=
    mRet (mCall m__law_low (mCons (mOp dAdd (mOp dMul (mIx (mVar 0) (mC (.int 0))) (mIx (mVar 1) (mC (.int 1)))) (mOp dMul (mIx (mVar 1) (mC (.int 0))) (mIx (mVar 0) (mC (.int 1))))) (mCons (mOp dMul (mIx (mVar 0) (mC (.int 1))) (mIx (mVar 1) (mC (.int 1)))) (mNil))))
noncomputable def m__law_add : List D → M D := fnM 2 b__law_add
noncomputable def b__law_div : MS :=
    mRet (mCall m__law_low (mCons (mOp dMul (mIx (mVar 0) (mC (.int 0))) (mIx (mVar 1) (mC (.int 1)))) (mCons (mOp dMul (mIx (mVar 0) (mC (.int 1))) (mIx (mVar 1) (mC (.int 0)))) (mNil))))
noncomputable def m__law_div : List D → M D := fnM 2 b__law_div
noncomputable def b__law_draw : MS :=
    mSeq (mIfS (mAnd (mTest (mOp dEq (mIx (mVar 0) (mC (.int 2))) (mC (.int 0)))) (mTest (mOp dLt (mIx (mVar 0) (mC (.int 1))) (mCall1 (c1 dLen) (mCons (mIx (mVar 0) (mC (.int 0))) (mNil)))))) (mSeq (mSet 2 (mIx (mIx (mVar 0) (mC (.int 0))) (mIx (mVar 0) (mC (.int 1)))))
    (mSeq (mPut 0 1 (mOp dAdd (mIx (mVar 0) (mC (.int 1))) (mC (.int 1))))
    (mSeq (mIfS (mTest (mOp dLt (mVar 2) (mOp dPow (mC (.int 10)) (mC (.int 18))))) (mRet (mOp dMod (mCall1 (c1 dInt1) (mCons (mCall m__law_mix (mCons (mOp dMod (mCall1 (c1 dInt1) (mCons (mVar 2) (mNil))) (mC (.int 2147483647))) (mCons (mIx (mVar 0) (mC (.int 1))) (mNil)))) (mNil))) (mVar 1))) (mNx))
    (mPut 0 2 (mVar 2))))) (mNx))
    (mSeq (mIfS (mTest (mOp dGt (mIx (mVar 0) (mC (.int 2))) (mC (.int 0)))) (mSeq (mSet 3 (mIx (mVar 0) (mC (.int 2))))
    (mSeq (mPut 0 2 (mOp dDiv (mVar 3) (mVar 1)))
    (mRet (mOp dMod (mCall1 (c1 dInt1) (mCons (mVar 3) (mNil))) (mVar 1))))) (mNx))
    (mSeq (mPut 0 3 (mOp dMod (mCall1 (c1 dInt1) (mCons (mOp dAdd (mIx (mVar 0) (mC (.int 3))) (mC (.int 1))) (mNil))) (mC (.int 2147483629))))
    (mRet (mOp dMod (mCall1 (c1 dInt1) (mCons (mCall m__law_mix (mCons (mIx (mVar 0) (mC (.int 3))) (mCons (mIx (mVar 0) (mC (.int 1))) (mNil)))) (mNil))) (mVar 1)))))
noncomputable def m__law_draw : List D → M D := fnM 4 b__law_draw
noncomputable def bd_law_falling_1 : MS :=
    mIfS (mTru (mCall m__law_less (mCons (mVar 4) (mCons (mVar 5) (mNil))))) (mSet 4 (mVar 5)) (mNx)
noncomputable def F_law_falling_1 : MS :=
    mForO 1 (gNm 5) bd_law_falling_1
noncomputable def bd_law_falling_2 : MS :=
    mSeq (mSet 4 (mIx (mVar 1) (mC (.int 0))))
    (mSeq (F_law_falling_1)
    (mSeq (mRem 1 (mVar 4))
    (mPush 2 (mVar 4))))
noncomputable def F_law_falling_2 : MS :=
    mFor (mThenA (mCons (mCall1 (c1 dLen) (mCons (mVar 0) (mNil))) (mNil)) rng1?) (gNm 3) bd_law_falling_2
noncomputable def b__law_falling : MS :=
    mSeq (mSetF 1 (mThenA (mCons (mVar 0) (mNil)) lst1?))
    (mSeq (mSetF 2 (mThenA (mNil) fits?))
    (mSeq (F_law_falling_2)
    (mRet (mVar 2))))
noncomputable def m__law_falling : List D → M D := fnM 6 b__law_falling
noncomputable def bd_law_is_ratio_1 : MS :=
    mIfS (mOr (mNot (mTru (mCall1 dIsi (mCons (mVar 1) (mCons (mC (.ty "int")) (mNil)))))) (mTru (mCall1 dIsi (mCons (mVar 1) (mCons (mC (.ty "bool")) (mNil)))))) (mRet (mC (.bl false))) (mNx)
noncomputable def F_law_is_ratio_1 : MS :=
    mFor (mItems (mVar 0)) (gNm 1) bd_law_is_ratio_1
noncomputable def b__law_is_ratio : MS :=
    mSeq (mIfS (mOr (mNot (mTru (mCall1 dIsi (mCons (mVar 0) (mCons (mC (.ty "tuple")) (mNil)))))) (mTest (mOp dNe (mCall1 (c1 dLen) (mCons (mVar 0) (mNil))) (mC (.int 2))))) (mRet (mC (.bl false))) (mNx))
    (mSeq (F_law_is_ratio_1)
    (mRet (mAndV (mOp dGt (mIx (mVar 0) (mC (.int 1))) (mC (.int 0))) (mOp dEq (mCall m__law_low (mCons (mIx (mVar 0) (mC (.int 0))) (mCons (mIx (mVar 0) (mC (.int 1))) (mNil)))) (mVar 0)))))
noncomputable def m__law_is_ratio : List D → M D := fnM 2 b__law_is_ratio
noncomputable def b__law_mul : MS :=
    mRet (mCall m__law_low (mCons (mOp dMul (mIx (mVar 0) (mC (.int 0))) (mIx (mVar 1) (mC (.int 0)))) (mCons (mOp dMul (mIx (mVar 0) (mC (.int 1))) (mIx (mVar 1) (mC (.int 1)))) (mNil))))
noncomputable def m__law_mul : List D → M D := fnM 2 b__law_mul
noncomputable def b__law_sub : MS :=
    mRet (mCall m__law_low (mCons (mOp dSub (mOp dMul (mIx (mVar 0) (mC (.int 0))) (mIx (mVar 1) (mC (.int 1)))) (mOp dMul (mIx (mVar 1) (mC (.int 0))) (mIx (mVar 0) (mC (.int 1))))) (mCons (mOp dMul (mIx (mVar 0) (mC (.int 1))) (mIx (mVar 1) (mC (.int 1)))) (mNil))))
noncomputable def m__law_sub : List D → M D := fnM 2 b__law_sub
noncomputable def b_is_ratio : MS :=
    mSeq (mIfS (mTru (mCall1 dIsi (mCons (mVar 0) (mCons (mC (.ty "tuple")) (mNil))))) (mRet (mAndV (mOp dEq (mCall1 (c1 dLen) (mCons (mVar 0) (mNil))) (mC (.int 2))) (mAndV (mCall m_is_whole (mCons (mIx (mVar 0) (mC (.int 0))) (mNil))) (mAndV (mCall m_is_whole (mCons (mIx (mVar 0) (mC (.int 1))) (mNil))) (mOp dGt (mIx (mVar 0) (mC (.int 1))) (mC (.int 0))))))) (mNx))
    (mRet (mCall m_is_whole (mCons (mVar 0) (mNil))))
noncomputable def m_is_ratio : List D → M D := fnM 1 b_is_ratio
noncomputable def b__law_clash : MS :=
    mSeq (mSetF 3 (mThenA (mCons (mVar 1) (mNil)) lst1?))
    (mSeq (mIfS (mTest (mOp dEq (mVar 2) (mUn dNeg (mC (.int 1))))) (mSeq (mSetI 3 (mC (.int 0)) (mTup (mCons (mUn dNeg (mIx (mIx (mVar 1) (mC (.int 0))) (mC (.int 0)))) (mCons (mIx (mIx (mVar 1) (mC (.int 0))) (mC (.int 1))) (mNil)))))
    (mRet (mVar 3))) (mNx))
    (mSeq (mSet 4 (mIx (mVar 0) (mVar 2)))
    (mSeq (mSet 5 (mIx (mVar 0) (mOp dAdd (mVar 2) (mC (.int 1)))))
    (mSeq (mSet 6 (mIx (mVar 1) (mVar 2)))
    (mSeq (mSet 7 (mIx (mVar 1) (mOp dAdd (mVar 2) (mC (.int 1)))))
    (mSeq (mSetI 3 (mVar 2) (mCall m__law_div (mCons (mCall m__law_add (mCons (mCall m__law_mul (mCons (mTup (mCons (mOp dSub (mVar 4) (mVar 5)) (mCons (mC (.int 1)) (mNil)))) (mCons (mVar 6) (mNil)))) (mCons (mCall m__law_mul (mCons (mTup (mCons (mOp dMul (mC (.int 2)) (mVar 5)) (mCons (mC (.int 1)) (mNil)))) (mCons (mVar 7) (mNil)))) (mNil)))) (mCons (mTup (mCons (mOp dAdd (mVar 4) (mVar 5)) (mCons (mC (.int 1)) (mNil)))) (mNil)))))
    (mSeq (mSetI 3 (mOp dAdd (mVar 2) (mC (.int 1))) (mCall m__law_div (mCons (mCall m__law_add (mCons (mCall m__law_mul (mCons (mTup (mCons (mOp dSub (mVar 5) (mVar 4)) (mCons (mC (.int 1)) (mNil)))) (mCons (mVar 7) (mNil)))) (mCons (mCall m__law_mul (mCons (mTup (mCons (mOp dMul (mC (.int 2)) (mVar 4)) (mCons (mC (.int 1)) (mNil)))) (mCons (mVar 6) (mNil)))) (mNil)))) (mCons (mTup (mCons (mOp dAdd (mVar 4) (mVar 5)) (mCons (mC (.int 1)) (mNil)))) (mNil)))))
    (mRet (mVar 3)))))))))
noncomputable def m__law_clash : List D → M D := fnM 8 b__law_clash
noncomputable def b__law_closing : MS :=
    mSeq (mIfS (mTest (mOp dEq (mVar 1) (mUn dNeg (mC (.int 1))))) (mRet (mTup (mCons (mUn dNeg (mIx (mIx (mVar 0) (mC (.int 0))) (mC (.int 0)))) (mCons (mIx (mIx (mVar 0) (mC (.int 0))) (mC (.int 1))) (mNil))))) (mNx))
    (mRet (mCall m__law_sub (mCons (mIx (mVar 0) (mVar 1)) (mCons (mIx (mVar 0) (mOp dAdd (mVar 1) (mC (.int 1)))) (mNil)))))
noncomputable def m__law_closing : List D → M D := fnM 2 b__law_closing
noncomputable def b__law_pick : MS :=
    mRet (mIx (mVar 1) (mCall m__law_draw (mCons (mVar 0) (mCons (mCall1 (c1 dLen) (mCons (mVar 1) (mNil))) (mNil)))))
noncomputable def m__law_pick : List D → M D := fnM 2 b__law_pick
noncomputable def b__law_speed : MS :=
    mSeq (mSet 2 (mIf (mTru (mVar 1)) (mC (.int 20)) (mC (.int 3))))
    (mSeq (mSet 3 (mOp dSub (mCall m__law_draw (mCons (mVar 0) (mCons (mOp dAdd (mOp dMul (mC (.int 2)) (mVar 2)) (mC (.int 1))) (mNil)))) (mVar 2)))
    (mSeq (mSet 4 (mC (.int 1)))
    (mSeq (mIfS (mTest (mOp dEq (mCall m__law_draw (mCons (mVar 0) (mCons (mC (.int 4)) (mNil)))) (mC (.int 0)))) (mSet 4 (mOp dAdd (mC (.int 2)) (mCall m__law_draw (mCons (mVar 0) (mCons (mC (.int 2)) (mNil)))))) (mNx))
    (mRet (mCall m__law_low (mCons (mVar 3) (mCons (mVar 4) (mNil))))))))
noncomputable def m__law_speed : List D → M D := fnM 5 b__law_speed
noncomputable def bd_law_sums_1 : MS :=
    mSeq (mSet 2 (mCall m__law_add (mCons (mVar 2) (mCons (mCall m__law_mul (mCons (mTup (mCons (mVar 4) (mCons (mC (.int 1)) (mNil)))) (mCons (mVar 5) (mNil)))) (mNil)))))
    (mSet 3 (mCall m__law_add (mCons (mVar 3) (mCons (mCall m__law_mul (mCons (mTup (mCons (mVar 4) (mCons (mC (.int 1)) (mNil)))) (mCons (mCall m__law_mul (mCons (mVar 5) (mCons (mVar 5) (mNil)))) (mNil)))) (mNil)))))
noncomputable def F_law_sums_1 : MS :=
    mFor (mThenA (mCons (mIx (mVar 0) (mC (.int 0))) (mCons (mVar 1) (mNil))) zipA?) (gTp (gsCons (gNm 4) (gsCons (gNm 5) (gsNil)))) bd_law_sums_1
noncomputable def b__law_sums : MS :=
    mSeq (mSet 2 (mTup (mCons (mC (.int 0)) (mCons (mC (.int 1)) (mNil)))))
    (mSeq (mSet 3 (mTup (mCons (mC (.int 0)) (mCons (mC (.int 1)) (mNil)))))
    (mSeq (F_law_sums_1)
    (mRet (mLst (mCons (mVar 2) (mCons (mVar 3) (mNil)))))))
noncomputable def m__law_sums : List D → M D := fnM 6 b__law_sums
noncomputable def el_law_word_1 : ME :=
    mIx (mVar 1) (mCall m__law_draw (mCons (mVar 0) (mCons (mCall1 (c1 dLen) (mCons (mVar 1) (mNil))) (mNil))))
noncomputable def L_law_word_1 : ME :=
    mLC (mThenA (mCons (mCall m__law_draw (mCons (mVar 0) (mCons (mOp dAdd (mVar 2) (mC (.int 1))) (mNil)))) (mNil)) rng1?) [3] (gNm 3) (mYes) el_law_word_1
noncomputable def b__law_word : MS :=
    mRet (L_law_word_1)
noncomputable def m__law_word : List D → M D := fnM 4 b__law_word
noncomputable def bd_check_balls_1 : MS :=
    mSeq (mIfS (mOr (mNot (mTru (mCall m_is_whole (mCons (mIx (mVar 0) (mVar 4)) (mNil))))) (mNot (mTest (mChain dLe dLe (mC (.int 1)) (mIx (mVar 0) (mVar 4)) (mC (.int 9)))))) (mRaiseF 2 ["index", "what"] (mCons (mVar 4) (mCons (mC (.str "weight")) (mNil)))) (mNx))
    (mIfS (mNot (mTru (mCall m_is_ratio (mCons (mIx (mVar 1) (mVar 4)) (mNil))))) (mRaiseF 2 ["index", "what"] (mCons (mVar 4) (mCons (mC (.str "speed")) (mNil)))) (mNx))
noncomputable def F_check_balls_1 : MS :=
    mFor (mThenA (mCons (mCall1 (c1 dLen) (mCons (mVar 0) (mNil))) (mNil)) rng1?) (gNm 4) bd_check_balls_1
noncomputable def b_check_balls : MS :=
    mSeq (mIfS (mNot (mTru (mCall1 dIsi (mCons (mVar 2) (mCons (mC (.ty "bool")) (mNil)))))) (mRaiseF 2 ["index", "what"] (mCons (mC (.int 0)) (mCons (mC (.str "wall")) (mNil)))) (mNx))
    (mSeq (mSet 3 (mIf (mTru (mVar 2)) (mC (.int 1)) (mC (.int 2))))
    (mSeq (mIfS (mOr (mNot (mTru (mCall1 dIsi (mCons (mVar 0) (mCons (mTup (mCons (mC (.ty "list")) (mCons (mC (.ty "tuple")) (mNil)))) (mNil)))))) (mNot (mTest (mChain dLe dLe (mVar 3) (mCall1 (c1 dLen) (mCons (mVar 0) (mNil))) (mC (.int 40)))))) (mRaiseF 2 ["index", "what"] (mCons (mC (.int 0)) (mCons (mC (.str "many")) (mNil)))) (mNx))
    (mSeq (mIfS (mOr (mNot (mTru (mCall1 dIsi (mCons (mVar 1) (mCons (mTup (mCons (mC (.ty "list")) (mCons (mC (.ty "tuple")) (mNil)))) (mNil)))))) (mTest (mOp dNe (mCall1 (c1 dLen) (mCons (mVar 1) (mNil))) (mCall1 (c1 dLen) (mCons (mVar 0) (mNil)))))) (mRaiseF 2 ["index", "what"] (mCons (mC (.int 0)) (mCons (mC (.str "length")) (mNil)))) (mNx))
    (F_check_balls_1))))
noncomputable def m_check_balls : List D → M D := fnM 5 b_check_balls
noncomputable def b_check_pair : MS :=
    mIfS (mOr (mNot (mTru (mCall m_is_whole (mCons (mVar 1) (mNil))))) (mTest (mOp dNotInA (mVar 1) (mFld okF "pairs" (mVar 0))))) (mRaiseG 3 ["pair"] okAny (mCons (mVar 1) (mNil))) (mNx)
noncomputable def m_check_pair : List D → M D := fnM 2 b_check_pair
noncomputable def b_ratio_of : MS :=
    mSeq (mIfS (mNot (mTru (mCall m_is_ratio (mCons (mVar 0) (mNil))))) (mRaise0 1) (mNx))
    (mSeq (mIfS (mNot (mTru (mCall1 dIsi (mCons (mVar 0) (mCons (mC (.ty "tuple")) (mNil)))))) (mRet (mTup (mCons (mVar 0) (mCons (mC (.int 1)) (mNil))))) (mNx))
    (mRet (mCall m_lowest_terms (mCons (mIx (mVar 0) (mC (.int 0))) (mCons (mIx (mVar 0) (mC (.int 1))) (mNil))))))
noncomputable def m_ratio_of : List D → M D := fnM 1 b_ratio_of
noncomputable def el_law_balls_1 : ME :=
    mOp dAdd (mC (.int 1)) (mCall m__law_draw (mCons (mVar 0) (mCons (mVar 3) (mNil))))
noncomputable def L_law_balls_1 : ME :=
    mLC (mThenA (mCons (mVar 1) (mNil)) rng1?) [7] (gNm 7) (mYes) el_law_balls_1
noncomputable def el_law_balls_2 : ME :=
    mCall m__law_speed (mCons (mVar 0) (mCons (mVar 4) (mNil)))
noncomputable def L_law_balls_2 : ME :=
    mLC (mThenA (mCons (mVar 1) (mNil)) rng1?) [7] (gNm 7) (mYes) el_law_balls_2
noncomputable def b__law_balls : MS :=
    mSeq (mSet 3 (mIf (mTest (mOp dEq (mCall m__law_draw (mCons (mVar 0) (mCons (mC (.int 8)) (mNil)))) (mC (.int 0)))) (mC (.int 9)) (mC (.int 3))))
    (mSeq (mSet 4 (mOp dEq (mCall m__law_draw (mCons (mVar 0) (mCons (mC (.int 8)) (mNil)))) (mC (.int 0))))
    (mSeq (mSet 5 (L_law_balls_1))
    (mSeq (mSet 6 (L_law_balls_2))
    (mSeq (mIfS (mTest (mOp dEq (mCall m__law_draw (mCons (mVar 0) (mCons (mC (.int 2)) (mNil)))) (mC (.int 0)))) (mSet 6 (mCall m__law_falling (mCons (mVar 6) (mNil)))) (mNx))
    (mRet (mTup (mCons (mVar 5) (mCons (mVar 6) (mCons (mVar 2) (mNil))))))))))
noncomputable def m__law_balls : List D → M D := fnM 8 b__law_balls
noncomputable def el_law_comers_1 : ME :=
    mVar 2
noncomputable def L_law_comers_1 : ME :=
    mLC (mItems (mCall m__law_pairs (mCons (mVar 0) (mNil)))) [2] (gNm 2) (mTest (mOp dGt (mIx (mCall m__law_closing (mCons (mVar 1) (mCons (mVar 2) (mNil)))) (mC (.int 0))) (mC (.int 0)))) el_law_comers_1
noncomputable def b__law_comers : MS :=
    mRet (mCall1 (c1 dTuple) (mCons (L_law_comers_1) (mNil)))
noncomputable def m__law_comers : List D → M D := fnM 3 b__law_comers
noncomputable def bd_check_word_1 : MS :=
    mDrop (mCall m_check_pair (mCons (mVar 0) (mCons (mVar 2) (mNil))))
noncomputable def F_check_word_1 : MS :=
    mFor (mItems (mVar 1)) (gNm 2) bd_check_word_1
noncomputable def b_check_word : MS :=
    mSeq (mIfS (mOr (mNot (mTru (mCall1 dIsi (mCons (mVar 1) (mCons (mTup (mCons (mC (.ty "list")) (mCons (mC (.ty "tuple")) (mNil)))) (mNil)))))) (mTest (mOp dGt (mCall1 (c1 dLen) (mCons (mVar 1) (mNil))) (mC (.int 800))))) (mRaiseG 4 ["index", "what"] okInt0 (mCons (mC (.int 0)) (mCons (mC (.str "word")) (mNil)))) (mNx))
    (mSeq (F_check_word_1)
    (mRet (mCall1 (c1 dTuple) (mCons (mVar 1) (mNil)))))
noncomputable def m_check_word : List D → M D := fnM 3 b_check_word
noncomputable def b_minus : MS :=
    mSeq (mAsg (mCall m_ratio_of (mCons (mVar 0) (mNil))) (gTp (gsCons (gNm 2) (gsCons (gNm 3) (gsNil)))))
    (mSeq (mAsg (mCall m_ratio_of (mCons (mVar 1) (mNil))) (gTp (gsCons (gNm 4) (gsCons (gNm 5) (gsNil)))))
    (mRet (mCall m_lowest_terms (mCons (mOp dSub (mOp dMul (mVar 2) (mVar 5)) (mOp dMul (mVar 4) (mVar 3))) (mCons (mOp dMul (mVar 3) (mVar 5)) (mNil))))))
noncomputable def m_minus : List D → M D := fnM 6 b_minus
noncomputable def b_mixed_ratio : MS :=
    mSeq (mSet 5 (mOp dAdd (mOp dMul (mOp dMul (mVar 0) (mIx (mVar 1) (mC (.int 0)))) (mIx (mVar 3) (mC (.int 1)))) (mOp dMul (mOp dMul (mVar 2) (mIx (mVar 3) (mC (.int 0)))) (mIx (mVar 1) (mC (.int 1))))))
    (mRet (mCall m_ratio_of (mCons (mTup (mCons (mVar 5) (mCons (mOp dMul (mOp dMul (mVar 4) (mIx (mVar 1) (mC (.int 1)))) (mIx (mVar 3) (mC (.int 1)))) (mNil)))) (mNil))))
noncomputable def m_mixed_ratio : List D → M D := fnM 6 b_mixed_ratio
noncomputable def b_plus : MS :=
    mSeq (mAsg (mCall m_ratio_of (mCons (mVar 0) (mNil))) (gTp (gsCons (gNm 2) (gsCons (gNm 3) (gsNil)))))
    (mSeq (mAsg (mCall m_ratio_of (mCons (mVar 1) (mNil))) (gTp (gsCons (gNm 4) (gsCons (gNm 5) (gsNil)))))
    (mRet (mCall m_lowest_terms (mCons (mOp dAdd (mOp dMul (mVar 2) (mVar 5)) (mOp dMul (mVar 4) (mVar 3))) (mCons (mOp dMul (mVar 3) (mVar 5)) (mNil))))))
noncomputable def m_plus : List D → M D := fnM 6 b_plus
noncomputable def b_times : MS :=
    mSeq (mAsg (mCall m_ratio_of (mCons (mVar 0) (mNil))) (gTp (gsCons (gNm 2) (gsCons (gNm 3) (gsNil)))))
    (mSeq (mAsg (mCall m_ratio_of (mCons (mVar 1) (mNil))) (gTp (gsCons (gNm 4) (gsCons (gNm 5) (gsNil)))))
    (mRet (mCall m_lowest_terms (mCons (mOp dMul (mVar 2) (mVar 4)) (mCons (mOp dMul (mVar 3) (mVar 5)) (mNil))))))
noncomputable def m_times : List D → M D := fnM 6 b_times
noncomputable def el_Row___init___1 : ME :=
    mCall m_ratio_of (mCons (mVar 8) (mNil))
noncomputable def L_Row___init___1 : ME :=
    mLC (mItems (mVar 2)) [8] (gNm 8) (mYes) el_Row___init___1
noncomputable def bd_Row___init___2 : MS :=
    mSeq (mSet 5 (mCall m_plus (mCons (mVar 5) (mCons (mCall m_times (mCons (mVar 7) (mCons (mVar 8) (mNil)))) (mNil)))))
    (mSet 6 (mCall m_plus (mCons (mVar 6) (mCons (mCall m_times (mCons (mVar 7) (mCons (mCall m_times (mCons (mVar 8) (mCons (mVar 8) (mNil)))) (mNil)))) (mNil)))))
noncomputable def F_Row___init___2 : MS :=
    mFor (mThenA (mCons (mFld okF "weights" (mVar 0)) (mCons (mFld okF "speeds" (mVar 0)) (mNil))) zipA?) (gTp (gsCons (gNm 7) (gsCons (gNm 8) (gsNil)))) bd_Row___init___2
noncomputable def b_Row___init__ : MS :=
    mSeq (mDrop (mCall m_check_balls (mCons (mVar 1) (mCons (mVar 2) (mCons (mVar 3) (mNil))))))
    (mSeq (mFldS okF "weights" (mCall1 (c1 dTuple) (mCons (mVar 1) (mNil))))
    (mSeq (mFldS okF "speeds" (mCall1 (c1 dTuple) (mCons (L_Row___init___1) (mNil))))
    (mSeq (mFldS okF "wall" (mVar 3))
    (mSeq (mSet 4 (mIf (mTru (mVar 3)) (mUn dNeg (mC (.int 1))) (mC (.int 0))))
    (mSeq (mFldS okF "pairs" (mOp dTupRg (mVar 4) (mOp dSub (mCall1 (c1 dLen) (mCons (mVar 1) (mNil))) (mC (.int 1)))))
    (mSeq (mFldS okF "gap_count" (mCall1 (c1 dLen) (mCons (mFld okF "pairs" (mVar 0)) (mNil))))
    (mSeq (mFldS okF "is_like" (mOp dEq (mCall1 (dMaxT PySem.W.maxOf) (mCons (mFld okF "weights" (mVar 0)) (mNil))) (mCall1 (dMaxT PySem.W.minOf) (mCons (mFld okF "weights" (mVar 0)) (mNil)))))
    (mSeq (mSet 5 (mTup (mCons (mC (.int 0)) (mCons (mC (.int 1)) (mNil)))))
    (mSeq (mSet 6 (mTup (mCons (mC (.int 0)) (mCons (mC (.int 1)) (mNil)))))
    (mSeq (F_Row___init___2)
    (mSeq (mFldS okF "first_sum" (mVar 5))
    (mFldS okF "second_sum" (mVar 6)))))))))))))
noncomputable def m_Row___init__ : List D → M D := initM 5 9 b_Row___init__
noncomputable def b__law_any_balls : MS :=
    mSeq (mSet 1 (mCall m__law_draw (mCons (mVar 0) (mCons (mC (.int 8)) (mNil)))))
    (mSeq (mIfS (mTest (mOp dEq (mVar 1) (mC (.int 7)))) (mRet (mCall m__law_balls (mCons (mVar 0) (mCons (mC (.int 4)) (mCons (mC (.bl false)) (mNil)))))) (mNx))
    (mSeq (mIfS (mTest (mOp dEq (mVar 1) (mC (.int 6)))) (mRet (mCall m__law_balls (mCons (mVar 0) (mCons (mC (.int 3)) (mCons (mC (.bl true)) (mNil)))))) (mNx))
    (mSeq (mIfS (mTest (mOp dEq (mVar 1) (mC (.int 5)))) (mRet (mCall m__law_balls (mCons (mVar 0) (mCons (mC (.int 2)) (mCons (mC (.bl true)) (mNil)))))) (mNx))
    (mRet (mCall m__law_balls (mCons (mVar 0) (mCons (mC (.int 3)) (mCons (mC (.bl false)) (mNil)))))))))
noncomputable def m__law_any_balls : List D → M D := fnM 2 b__law_any_balls
noncomputable def b_clashed : MS :=
    mSeq (mSetF 3 (mThenA (mCons (mVar 1) (mNil)) lst1?))
    (mSeq (mIfS (mTest (mOp dEq (mVar 2) (mUn dNeg (mC (.int 1))))) (mSeq (mSetI 3 (mC (.int 0)) (mTup (mCons (mUn dNeg (mIx (mIx (mVar 1) (mC (.int 0))) (mC (.int 0)))) (mCons (mIx (mIx (mVar 1) (mC (.int 0))) (mC (.int 1))) (mNil)))))
    (mRet (mVar 3))) (mNx))
    (mSeq (mPar 4 5 (mCons (mIx (mVar 0) (mVar 2)) (mCons (mIx (mVar 0) (mOp dAdd (mVar 2) (mC (.int 1)))) (mNil))))
    (mSeq (mPar 6 7 (mCons (mIx (mVar 1) (mVar 2)) (mCons (mIx (mVar 1) (mOp dAdd (mVar 2) (mC (.int 1)))) (mNil))))
    (mSeq (mSet 8 (mOp dAdd (mVar 4) (mVar 5)))
    (mSeq (mSetI 3 (mVar 2) (mCall m_mixed_ratio (mCons (mOp dSub (mVar 4) (mVar 5)) (mCons (mVar 6) (mCons (mOp dMul (mC (.int 2)) (mVar 5)) (mCons (mVar 7) (mCons (mVar 8) (mNil))))))))
    (mSeq (mSetI 3 (mOp dAdd (mVar 2) (mC (.int 1))) (mCall m_mixed_ratio (mCons (mOp dMul (mC (.int 2)) (mVar 4)) (mCons (mVar 6) (mCons (mOp dSub (mVar 5) (mVar 4)) (mCons (mVar 7) (mCons (mVar 8) (mNil))))))))
    (mRet (mVar 3))))))))
noncomputable def m_clashed : List D → M D := fnM 9 b_clashed
noncomputable def b_closing_of : MS :=
    mSeq (mIfS (mTest (mOp dEq (mVar 1) (mUn dNeg (mC (.int 1))))) (mRet (mTup (mCons (mUn dNeg (mIx (mIx (mVar 0) (mC (.int 0))) (mC (.int 0)))) (mCons (mIx (mIx (mVar 0) (mC (.int 0))) (mC (.int 1))) (mNil))))) (mNx))
    (mRet (mCall m_minus (mCons (mIx (mVar 0) (mVar 1)) (mCons (mIx (mVar 0) (mOp dAdd (mVar 1) (mC (.int 1)))) (mNil)))))
noncomputable def m_closing_of : List D → M D := fnM 2 b_closing_of
noncomputable def b__law_most_balls : MS :=
    mSeq (mSet 1 (mCall m__law_draw (mCons (mVar 0) (mCons (mC (.int 16)) (mNil)))))
    (mSeq (mIfS (mTest (mOp dLt (mVar 1) (mC (.int 12)))) (mRet (mCall m__law_any_balls (mCons (mVar 0) (mNil)))) (mNx))
    (mSeq (mIfS (mTest (mOp dEq (mVar 1) (mC (.int 12)))) (mRet (mCall m__law_balls (mCons (mVar 0) (mCons (mOp dAdd (mC (.int 1)) (mCall m__law_draw (mCons (mVar 0) (mCons (mC (.int 2)) (mNil))))) (mCons (mC (.bl true)) (mNil)))))) (mNx))
    (mSeq (mIfS (mTest (mOp dEq (mVar 1) (mC (.int 13)))) (mRet (mCall m__law_balls (mCons (mVar 0) (mCons (mC (.int 2)) (mCons (mC (.bl false)) (mNil)))))) (mNx))
    (mSeq (mSet 2 (mIf (mAnd (mTest (mOp dEq (mVar 1) (mC (.int 15)))) (mTest (mOp dEq (mCall m__law_draw (mCons (mVar 0) (mCons (mC (.int 4)) (mNil)))) (mC (.int 0))))) (mC (.int 40)) (mOp dAdd (mC (.int 5)) (mCall m__law_draw (mCons (mVar 0) (mCons (mC (.int 8)) (mNil)))))))
    (mRet (mCall m__law_balls (mCons (mVar 0) (mCons (mVar 2) (mCons (mOp dEq (mCall m__law_draw (mCons (mVar 0) (mCons (mC (.int 2)) (mNil)))) (mC (.int 1))) (mNil))))))))))
noncomputable def m__law_most_balls : List D → M D := fnM 3 b__law_most_balls
noncomputable def b_closing_speed : MS :=
    mSeq (mDrop (mCall m_check_pair (mCons (mVar 0) (mCons (mVar 1) (mNil)))))
    (mRet (mCall m_closing_of (mCons (mFld okF "speeds" (mVar 0)) (mCons (mVar 1) (mNil)))))
noncomputable def m_closing_speed : List D → M D := fnM 2 b_closing_speed
noncomputable def el_coming_pairs_1 : ME :=
    mVar 1
noncomputable def L_coming_pairs_1 : ME :=
    mLC (mItems (mFld okF "pairs" (mVar 0))) [1] (gNm 1) (mTest (mOp dGt (mIx (mCall m_closing_of (mCons (mFld okF "speeds" (mVar 0)) (mCons (mVar 1) (mNil)))) (mC (.int 0))) (mC (.int 0)))) el_coming_pairs_1
noncomputable def b_coming_pairs : MS :=
    mRet (mCall1 (c1 dTuple) (mCons (L_coming_pairs_1) (mNil)))
noncomputable def m_coming_pairs : List D → M D := fnM 2 b_coming_pairs
noncomputable def bd_first_not_coming_1 : MS :=
    mSeq (mIfS (mTest (mOp dLe (mIx (mCall m_closing_of (mCons (mVar 2) (mCons (mVar 4) (mNil)))) (mC (.int 0))) (mC (.int 0)))) (mRet (mVar 3)) (mNx))
    (mSet 2 (mCall m_clashed (mCons (mFld okF "weights" (mVar 0)) (mCons (mVar 2) (mCons (mVar 4) (mNil))))))
noncomputable def F_first_not_coming_1 : MS :=
    mFor (mThenA (mCons (mCall m_check_word (mCons (mVar 0) (mCons (mVar 1) (mNil)))) (mNil)) enumA?) (gTp (gsCons (gNm 3) (gsCons (gNm 4) (gsNil)))) bd_first_not_coming_1
noncomputable def b_first_not_coming : MS :=
    mSeq (mSet 2 (mFld okF "speeds" (mVar 0)))
    (mSeq (F_first_not_coming_1)
    (mRet (mC .non)))
noncomputable def m_first_not_coming : List D → M D := fnM 5 b_first_not_coming
noncomputable def b_Row_with_speeds : MS :=
    mRet (mCallD m_Row___init__ [] (mCons (mFld okF "weights" (mVar 0)) (mCons (mVar 1) (mCons (mFld okF "wall" (mVar 0)) (mNil)))))
noncomputable def m_Row_with_speeds : List D → M D := fnM 2 b_Row_with_speeds
noncomputable def b_after_clash : MS :=
    mSeq (mDrop (mCall m_check_pair (mCons (mVar 0) (mCons (mVar 1) (mNil)))))
    (mRet (mMeth 5 "with_speeds" m_Row_with_speeds (mVar 0) (mCons (mCall m_clashed (mCons (mFld okF "weights" (mVar 0)) (mCons (mFld okF "speeds" (mVar 0)) (mCons (mVar 1) (mNil))))) (mNil))))
noncomputable def m_after_clash : List D → M D := fnM 2 b_after_clash
noncomputable def bd_after_word_1 : MS :=
    mSet 2 (mCall m_clashed (mCons (mFld okF "weights" (mVar 0)) (mCons (mVar 2) (mCons (mVar 3) (mNil)))))
noncomputable def F_after_word_1 : MS :=
    mFor (mItems (mCall m_check_word (mCons (mVar 0) (mCons (mVar 1) (mNil))))) (gNm 3) bd_after_word_1
noncomputable def b_after_word : MS :=
    mSeq (mSet 2 (mFld okF "speeds" (mVar 0)))
    (mSeq (F_after_word_1)
    (mRet (mMeth 5 "with_speeds" m_Row_with_speeds (mVar 0) (mCons (mVar 2) (mNil)))))
noncomputable def m_after_word : List D → M D := fnM 4 b_after_word
noncomputable def ty_law_fault_1 : MS :=
    mIfS (mTest (mOp dEq (mVar 0) (mC (.int 0)))) (mDrop (mCall m_after_clash (mCons (mVar 1) (mCons (mVar 2) (mNil))))) (mIfS (mTest (mOp dEq (mVar 0) (mC (.int 1)))) (mDrop (mCall m_closing_speed (mCons (mVar 1) (mCons (mVar 2) (mNil))))) (mIfS (mTest (mOp dEq (mVar 0) (mC (.int 2)))) (mDrop (mCall m_after_word (mCons (mVar 1) (mCons (mVar 2) (mNil))))) (mIfS (mTest (mOp dEq (mVar 0) (mC (.int 3)))) (mDrop (mCall m_first_not_coming (mCons (mVar 1) (mCons (mVar 2) (mNil))))) (mDrop (mCall m_check_word (mCons (mVar 1) (mCons (mVar 2) (mNil))))))))
noncomputable def b__law_fault : MS :=
    mSeq (mTryM [(clX_NoPair, some 3, mRet (mTup (mCons (mC (.str "pair")) (mCons (mXf okX 3 "pair") (mCons (mIsXF 3 tabX (mC (.cls 0))) (mCons (mIsXF 3 tabX (mC (.cls 4))) (mNil))))))), (clX_BadWord, some 3, mRet (mTup (mCons (mC (.str "word")) (mCons (mXf okX 3 "index") (mCons (mXf okX 3 "what") (mCons (mIsXF 3 tabX (mC (.cls 0))) (mCons (mIsXF 3 tabX (mC (.cls 3))) (mNil))))))))] (ty_law_fault_1))
    (mRet (mC .non))
noncomputable def m__law_fault : List D → M D := fnM 4 b__law_fault
noncomputable def b__law_step_right : MS :=
    mSeq (mSet 4 (mCall m__law_clash (mCons (mIx (mVar 0) (mC (.int 0))) (mCons (mVar 2) (mCons (mVar 3) (mNil))))))
    (mSeq (mSet 5 (mCall m_after_clash (mCons (mVar 1) (mCons (mVar 3) (mNil)))))
    (mSeq (mIfS (mOr (mNot (mTru (mCall m__law_is_row (mCons (mVar 5) (mCons (mVar 0) (mCons (mVar 4) (mNil))))))) (mNot (mTru (mCall m__law_is_row (mCons (mVar 1) (mCons (mVar 0) (mCons (mVar 2) (mNil)))))))) (mRet (mC (.bl false))) (mNx))
    (mSeq (mSet 6 (mCall m_closing_speed (mCons (mVar 1) (mCons (mVar 3) (mNil)))))
    (mSeq (mIfS (mOr (mNot (mTru (mCall m__law_is_ratio (mCons (mVar 6) (mNil))))) (mOr (mTest (mOp dNe (mVar 6) (mCall m__law_closing (mCons (mVar 2) (mCons (mVar 3) (mNil)))))) (mTest (mOp dNe (mCall m_closing_speed (mCons (mVar 5) (mCons (mVar 3) (mNil)))) (mTup (mCons (mUn dNeg (mIx (mVar 6) (mC (.int 0)))) (mCons (mIx (mVar 6) (mC (.int 1))) (mNil)))))))) (mRet (mC (.bl false))) (mNx))
    (mSeq (mSet 7 (mCall m__law_sums (mCons (mVar 0) (mCons (mVar 4) (mNil)))))
    (mSeq (mIfS (mOr (mTest (mOp dNe (mFld okF "second_sum" (mVar 5)) (mIx (mVar 7) (mC (.int 1))))) (mOr (mTest (mOp dNe (mFld okF "second_sum" (mVar 1)) (mIx (mVar 7) (mC (.int 1))))) (mTest (mOp dNe (mFld okF "first_sum" (mVar 5)) (mIx (mVar 7) (mC (.int 0))))))) (mRet (mC (.bl false))) (mNx))
    (mSeq (mIfS (mAnd (mTest (mOp dNe (mVar 3) (mUn dNeg (mC (.int 1))))) (mTest (mOp dNe (mFld okF "first_sum" (mVar 1)) (mIx (mVar 7) (mC (.int 0)))))) (mRet (mC (.bl false))) (mNx))
    (mRet (mCall m__law_is_row (mCons (mCall m_after_clash (mCons (mVar 5) (mCons (mVar 3) (mNil)))) (mCons (mVar 0) (mCons (mVar 2) (mNil)))))))))))))
noncomputable def m__law_step_right : List D → M D := fnM 8 b__law_step_right
noncomputable def bd_law_refusals_right_1 : MS :=
    mIfS (mOr (mTest (mOp dNe (mCall m__law_fault (mCons (mVar 5) (mCons (mVar 1) (mCons (mVar 4) (mNil))))) (mTup (mCons (mC (.str "pair")) (mCons (mVar 4) (mCons (mC (.bl true)) (mCons (mC (.bl false)) (mNil)))))))) (mTest (mOp dNotN (mCall m__law_fault (mCons (mVar 5) (mCons (mVar 1) (mCons (mIx (mVar 2) (mC (.int 0))) (mNil))))) (mC .non)))) (mRet (mC (.bl false))) (mNx)
noncomputable def F_law_refusals_right_1 : MS :=
    mFor (mThenA (mCons (mC (.int 2)) (mNil)) rng1?) (gNm 5) bd_law_refusals_right_1
noncomputable def bd_law_refusals_right_2 : MS :=
    mIfS (mTest (mOp dNe (mCall m__law_fault (mCons (mVar 5) (mCons (mVar 1) (mCons (mVar 7) (mNil))))) (mTup (mCons (mC (.str "word")) (mCons (mC (.int 0)) (mCons (mC (.str "word")) (mCons (mC (.bl true)) (mCons (mC (.bl false)) (mNil))))))))) (mRet (mC (.bl false))) (mNx)
noncomputable def F_law_refusals_right_2 : MS :=
    mFor (mItems (mLst (mCons (mC .non) (mCons (mC (.str "0")) (mCons (mC (.int 0)) (mCons (mOp dMul (mLst (mCons (mIx (mVar 2) (mC (.int 0))) (mNil))) (mC (.int 801))) (mNil))))))) (gNm 7) bd_law_refusals_right_2
noncomputable def bd_law_refusals_right_3 : MS :=
    mSeq (mIfS (mTest (mOp dNe (mCall m__law_fault (mCons (mVar 5) (mCons (mVar 1) (mCons (mOp dAdd (mOp dAdd (mOp dAdd (mSl (mVar 3) (mNo) (mPart (mVar 6))) (mLst (mCons (mVar 4) (mNil)))) (mSl (mVar 3) (mPart (mVar 6)) (mNo))) (mLst (mCons (mC .non) (mNil)))) (mNil))))) (mTup (mCons (mC (.str "pair")) (mCons (mVar 4) (mCons (mC (.bl true)) (mCons (mC (.bl false)) (mNil)))))))) (mRet (mC (.bl false))) (mNx))
    (mSeq (F_law_refusals_right_2)
    (mIfS (mTest (mOp dNotN (mCall m__law_fault (mCons (mVar 5) (mCons (mVar 1) (mCons (mVar 3) (mNil))))) (mC .non))) (mRet (mC (.bl false))) (mNx)))
noncomputable def F_law_refusals_right_3 : MS :=
    mFor (mThenA (mCons (mC (.int 2)) (mCons (mC (.int 5)) (mNil))) rng2?) (gNm 5) bd_law_refusals_right_3
noncomputable def b__law_refusals_right : MS :=
    mSeq (mSet 4 (mCall m__law_pick (mCons (mVar 0) (mCons (mLst (mCons (mUn dNeg (mC (.int 2))) (mCons (mOp dAdd (mIx (mVar 2) (mUn dNeg (mC (.int 1)))) (mC (.int 1))) (mCons (mC .non) (mCons (mC (.str "0")) (mCons (mC (.bl true)) (mCons (mC (.bl false)) (mCons (mOp dPow (mC (.int 10)) (mC (.int 20))) (mCons (mUn dNeg (mOp dPow (mC (.int 10)) (mC (.int 20)))) (mNil)))))))))) (mNil)))))
    (mSeq (F_law_refusals_right_1)
    (mSeq (mSet 6 (mCall m__law_draw (mCons (mVar 0) (mCons (mOp dAdd (mCall1 (c1 dLen) (mCons (mVar 3) (mNil))) (mC (.int 1))) (mNil)))))
    (mSeq (F_law_refusals_right_3)
    (mRet (mOp dEq (mCall m_check_word (mCons (mVar 1) (mCons (mOp dMul (mLst (mCons (mIx (mVar 2) (mUn dNeg (mC (.int 1)))) (mNil))) (mC (.int 800))) (mNil)))) (mCall1 (c1 dTuple) (mCons (mOp dMul (mLst (mCons (mIx (mVar 2) (mUn dNeg (mC (.int 1)))) (mNil))) (mC (.int 800))) (mNil))))))))
noncomputable def m__law_refusals_right : List D → M D := fnM 8 b__law_refusals_right
noncomputable def bd_law_1 : MS :=
    mSeq (mSet 11 (mCall m_coming_pairs (mCons (mVar 7) (mNil))))
    (mSeq (mIfS (mOr (mNot (mTru (mCall1 dIsi (mCons (mVar 11) (mCons (mC (.ty "tuple")) (mNil)))))) (mOr (mTest (mOp dNe (mVar 11) (mCall m__law_comers (mCons (mVar 2) (mCons (mVar 6) (mNil)))))) (mNot (mTru (mCall m__law_step_right (mCons (mVar 2) (mCons (mVar 7) (mCons (mVar 6) (mCons (mVar 10) (mNil)))))))))) (mRet (mC (.bl false))) (mNx))
    (mSeq (mIfS (mAnd (mTest (mOp dIsN (mVar 8) (mC .non))) (mTest (mOp dLe (mIx (mCall m__law_closing (mCons (mVar 6) (mCons (mVar 10) (mNil)))) (mC (.int 0))) (mC (.int 0))))) (mSet 8 (mVar 9)) (mNx))
    (mSeq (mSet 6 (mCall m__law_clash (mCons (mIx (mVar 2) (mC (.int 0))) (mCons (mVar 6) (mCons (mVar 10) (mNil))))))
    (mSet 7 (mCall m_after_clash (mCons (mVar 7) (mCons (mVar 10) (mNil))))))))
noncomputable def F_law_1 : MS :=
    mFor (mThenA (mCons (mVar 5) (mNil)) enumA?) (gTp (gsCons (gNm 9) (gsCons (gNm 10) (gsNil)))) bd_law_1
noncomputable def b_law : MS :=
    mSeq (mSet 2 (mCall m__law_most_balls (mCons (mVar 1) (mNil))))
    (mSeq (mSet 3 (mCallD m_Row___init__ [] (mCons (mIx (mVar 2) (mC (.int 0))) (mCons (mIx (mVar 2) (mC (.int 1))) (mCons (mIx (mVar 2) (mC (.int 2))) (mNil))))))
    (mSeq (mSet 4 (mCall m__law_pairs (mCons (mVar 2) (mNil))))
    (mSeq (mSet 5 (mCall m__law_word (mCons (mVar 1) (mCons (mVar 4) (mCons (mIf (mTest (mOp dEq (mCall m__law_draw (mCons (mVar 1) (mCons (mC (.int 8)) (mNil)))) (mC (.int 0)))) (mC (.int 30)) (mC (.int 7))) (mNil))))))
    (mSeq (mSet 6 (mCall1 (c1 dList) (mCons (mIx (mVar 2) (mC (.int 1))) (mNil))))
    (mSeq (mSet 7 (mVar 3))
    (mSeq (mSet 8 (mC .non))
    (mSeq (F_law_1)
    (mSeq (mSet 12 (mCall1 (c1 dList) (mCons (mVar 5) (mNil))))
    (mSeq (mSet 13 (mIf (mTest (mOp dEq (mCall m__law_draw (mCons (mVar 1) (mCons (mC (.int 2)) (mNil)))) (mC (.int 0)))) (mVar 5) (mCall1 (c1 dTuple) (mCons (mVar 5) (mNil)))))
    (mSeq (mSet 14 (mCall m_after_word (mCons (mVar 3) (mCons (mVar 13) (mNil)))))
    (mSeq (mIfS (mOr (mNot (mTru (mCall m__law_is_row (mCons (mVar 14) (mCons (mVar 2) (mCons (mVar 6) (mNil))))))) (mTest (mOp dNe (mCall m_coming_pairs (mCons (mVar 14) (mNil))) (mCall m__law_comers (mCons (mVar 2) (mCons (mVar 6) (mNil))))))) (mRet (mC (.bl false))) (mNx))
    (mSeq (mSet 15 (mCall m_first_not_coming (mCons (mVar 3) (mCons (mVar 13) (mNil)))))
    (mSeq (mIfS (mOr (mTest (mOp dNe (mVar 15) (mVar 8))) (mOr (mTru (mCall1 dIsi (mCons (mVar 15) (mCons (mC (.ty "bool")) (mNil))))) (mAnd (mTest (mOp dNotN (mVar 15) (mC .non))) (mNot (mTru (mCall1 dIsi (mCons (mVar 15) (mCons (mC (.ty "int")) (mNil))))))))) (mRet (mC (.bl false))) (mNx))
    (mSeq (mSet 16 (mCall m_check_word (mCons (mVar 3) (mCons (mVar 13) (mNil)))))
    (mSeq (mIfS (mOr (mNot (mTru (mCall1 dIsi (mCons (mVar 16) (mCons (mC (.ty "tuple")) (mNil)))))) (mOr (mTest (mOp dNe (mVar 16) (mCall1 (c1 dTuple) (mCons (mVar 12) (mNil))))) (mTest (mOp dNe (mCall1 (c1 dList) (mCons (mVar 13) (mNil))) (mVar 12))))) (mRet (mC (.bl false))) (mNx))
    (mSeq (mIfS (mOr (mNot (mTru (mCall m__law_is_row (mCons (mCall m_after_word (mCons (mVar 14) (mCons (mUn dRev (mVar 5)) (mNil)))) (mCons (mVar 2) (mCons (mIx (mVar 2) (mC (.int 1))) (mNil))))))) (mNot (mTru (mCall m__law_is_row (mCons (mVar 3) (mCons (mVar 2) (mCons (mIx (mVar 2) (mC (.int 1))) (mNil)))))))) (mRet (mC (.bl false))) (mNx))
    (mRet (mCall m__law_refusals_right (mCons (mVar 1) (mCons (mVar 3) (mCons (mVar 4) (mCons (mVar 5) (mNil)))))))))))))))))))))))
end My

namespace My
open PySem PySem.Spec PyProof.Rows L2 DL
def topS (i : Nat) : Stmt := PySem.Challenge.pw_untoldgaps_k09_whole_clashes_of_all_rows.main.body.getD i (.Pass ⟨0, 0, 0, 0⟩)
abbrev s_BadRow___init__ : Stmt := inClass (topS 5) 0
abbrev n_BadRow___init__ : List Str := ["self", "index", "what"]
theorem sc_BadRow___init__ : FnScope n_BadRow___init__ ["self", "index", "what"] (defScope s_BadRow___init__) := ⟨rfl, rfl, rfl, by decide +kernel, rfl, by decide +kernel, by decide +kernel⟩
abbrev s_BadWord___init__ : Stmt := inClass (topS 7) 0
abbrev n_BadWord___init__ : List Str := ["self", "index", "what"]
theorem sc_BadWord___init__ : ScS ["self", "index", "what"] (defScope s_BadWord___init__) := ⟨rfl, rfl, rfl, by decide +kernel, by decide +kernel, by decide +kernel, by decide +kernel, rfl, rfl⟩
abbrev s_NoPair___init__ : Stmt := inClass (topS 6) 0
abbrev n_NoPair___init__ : List Str := ["self", "pair"]
theorem sc_NoPair___init__ : ScS ["self", "pair"] (defScope s_NoPair___init__) := ⟨rfl, rfl, rfl, by decide +kernel, by decide +kernel, by decide +kernel, by decide +kernel, rfl, rfl⟩
abbrev s__law_hand : Stmt := topS 35
abbrev n__law_hand : List Str := ["_law_script", "_law_total", "_law_k", "_law_cell"]
theorem sc__law_hand : FnScope n__law_hand ["_law_script"] (defScope s__law_hand) := ⟨rfl, rfl, rfl, by decide +kernel, rfl, by decide +kernel, by decide +kernel⟩
abbrev s__law_is_row : Stmt := topS 54
abbrev n__law_is_row : List Str := ["_law_told", "_law_balls_here", "_law_speeds"]
theorem sc__law_is_row : FnScope n__law_is_row ["_law_told", "_law_balls_here", "_law_speeds"] (defScope s__law_is_row) := ⟨rfl, rfl, rfl, by decide +kernel, rfl, by decide +kernel, by decide +kernel⟩
abbrev s__law_less : Stmt := topS 42
abbrev n__law_less : List Str := ["_law_a", "_law_b"]
theorem sc__law_less : FnScope n__law_less ["_law_a", "_law_b"] (defScope s__law_less) := ⟨rfl, rfl, rfl, by decide +kernel, rfl, by decide +kernel, by decide +kernel⟩
abbrev s__law_low : Stmt := topS 37
abbrev n__law_low : List Str := ["_law_top", "_law_bottom", "_law_one", "_law_other"]
theorem sc__law_low : FnScope n__law_low ["_law_top", "_law_bottom"] (defScope s__law_low) := ⟨rfl, rfl, rfl, by decide +kernel, rfl, by decide +kernel, by decide +kernel⟩
abbrev s__law_mix : Stmt := topS 34
abbrev n__law_mix : List Str := ["_law_number", "_law_turn", "_law_once", "_law_twice"]
theorem sc__law_mix : FnScope n__law_mix ["_law_number", "_law_turn"] (defScope s__law_mix) := ⟨rfl, rfl, rfl, by decide +kernel, rfl, by decide +kernel, by decide +kernel⟩
abbrev s__law_pairs : Stmt := topS 48
abbrev n__law_pairs : List Str := ["_law_balls_here"]
theorem sc__law_pairs : FnScope n__law_pairs ["_law_balls_here"] (defScope s__law_pairs) := ⟨rfl, rfl, rfl, by decide +kernel, rfl, by decide +kernel, by decide +kernel⟩
abbrev s_is_whole : Stmt := topS 9
abbrev n_is_whole : List Str := ["thing"]
theorem sc_is_whole : FnScope n_is_whole ["thing"] (defScope s_is_whole) := ⟨rfl, rfl, rfl, by decide +kernel, rfl, by decide +kernel, by decide +kernel⟩
abbrev s_lowest_terms : Stmt := topS 12
abbrev n_lowest_terms : List Str := ["top", "bottom", "common"]
theorem sc_lowest_terms : FnScope n_lowest_terms ["top", "bottom"] (defScope s_lowest_terms) := ⟨rfl, rfl, rfl, by decide +kernel, rfl, by decide +kernel, by decide +kernel⟩
abbrev s__law_add : Stmt := topS 38
abbrev n__law_add : List Str := ["_law_a", "_law_b"]
theorem sc__law_add : FnScope n__law_add ["_law_a", "_law_b"] (defScope s__law_add) := ⟨rfl, rfl, rfl, by decide +kernel, rfl, by decide +kernel, by decide +kernel⟩
abbrev s__law_div : Stmt := topS 41
abbrev n__law_div : List Str := ["_law_a", "_law_b"]
theorem sc__law_div : FnScope n__law_div ["_law_a", "_law_b"] (defScope s__law_div) := ⟨rfl, rfl, rfl, by decide +kernel, rfl, by decide +kernel, by decide +kernel⟩
abbrev s__law_draw : Stmt := topS 36
abbrev n__law_draw : List Str := ["_law_hand_here", "_law_many", "_law_cell", "_law_rest"]
theorem sc__law_draw : FnScope n__law_draw ["_law_hand_here", "_law_many"] (defScope s__law_draw) := ⟨rfl, rfl, rfl, by decide +kernel, rfl, by decide +kernel, by decide +kernel⟩
abbrev s__law_falling : Stmt := topS 45
abbrev n__law_falling : List Str := ["_law_speeds", "_law_left", "_law_made", "_law_k", "_law_best", "_law_speed_here"]
theorem sc__law_falling : FnScope n__law_falling ["_law_speeds"] (defScope s__law_falling) := ⟨rfl, rfl, rfl, by decide +kernel, rfl, by decide +kernel, by decide +kernel⟩
abbrev s__law_is_ratio : Stmt := topS 43
abbrev n__law_is_ratio : List Str := ["_law_x", "_law_n"]
theorem sc__law_is_ratio : FnScope n__law_is_ratio ["_law_x"] (defScope s__law_is_ratio) := ⟨rfl, rfl, rfl, by decide +kernel, rfl, by decide +kernel, by decide +kernel⟩
abbrev s__law_mul : Stmt := topS 40
abbrev n__law_mul : List Str := ["_law_a", "_law_b"]
theorem sc__law_mul : FnScope n__law_mul ["_law_a", "_law_b"] (defScope s__law_mul) := ⟨rfl, rfl, rfl, by decide +kernel, rfl, by decide +kernel, by decide +kernel⟩
abbrev s__law_sub : Stmt := topS 39
abbrev n__law_sub : List Str := ["_law_a", "_law_b"]
theorem sc__law_sub : FnScope n__law_sub ["_law_a", "_law_b"] (defScope s__law_sub) := ⟨rfl, rfl, rfl, by decide +kernel, rfl, by decide +kernel, by decide +kernel⟩
abbrev s_is_ratio : Stmt := topS 10
abbrev n_is_ratio : List Str := ["thing"]
theorem sc_is_ratio : FnScope n_is_ratio ["thing"] (defScope s_is_ratio) := ⟨rfl, rfl, rfl, by decide +kernel, rfl, by decide +kernel, by decide +kernel⟩
abbrev s__law_clash : Stmt := topS 50
abbrev n__law_clash : List Str := ["_law_weights", "_law_speeds", "_law_pair", "_law_made", "_law_a", "_law_b", "_law_u", "_law_v"]
theorem sc__law_clash : FnScope n__law_clash ["_law_weights", "_law_speeds", "_law_pair"] (defScope s__law_clash) := ⟨rfl, rfl, rfl, by decide +kernel, rfl, by decide +kernel, by decide +kernel⟩
abbrev s__law_closing : Stmt := topS 49
abbrev n__law_closing : List Str := ["_law_speeds", "_law_pair"]
theorem sc__law_closing : FnScope n__law_closing ["_law_speeds", "_law_pair"] (defScope s__law_closing) := ⟨rfl, rfl, rfl, by decide +kernel, rfl, by decide +kernel, by decide +kernel⟩
abbrev s__law_pick : Stmt := topS 51
abbrev n__law_pick : List Str := ["_law_hand_here", "_law_some"]
theorem sc__law_pick : FnScope n__law_pick ["_law_hand_here", "_law_some"] (defScope s__law_pick) := ⟨rfl, rfl, rfl, by decide +kernel, rfl, by decide +kernel, by decide +kernel⟩
abbrev s__law_speed : Stmt := topS 44
abbrev n__law_speed : List Str := ["_law_hand_here", "_law_wide", "_law_far", "_law_top", "_law_bottom"]
theorem sc__law_speed : FnScope n__law_speed ["_law_hand_here", "_law_wide"] (defScope s__law_speed) := ⟨rfl, rfl, rfl, by decide +kernel, rfl, by decide +kernel, by decide +kernel⟩
abbrev s__law_sums : Stmt := topS 55
abbrev n__law_sums : List Str := ["_law_balls_here", "_law_speeds", "_law_once", "_law_twice", "_law_weight", "_law_speed_here"]
theorem sc__law_sums : FnScope n__law_sums ["_law_balls_here", "_law_speeds"] (defScope s__law_sums) := ⟨rfl, rfl, rfl, by decide +kernel, rfl, by decide +kernel, by decide +kernel⟩
abbrev s__law_word : Stmt := topS 53
abbrev n__law_word : List Str := ["_law_hand_here", "_law_pairs_here", "_law_most", "_law_k"]
theorem sc__law_word : FnScope n__law_word ["_law_hand_here", "_law_pairs_here", "_law_most"] (defScope s__law_word) := ⟨rfl, rfl, rfl, by decide +kernel, rfl, by decide +kernel, by decide +kernel⟩
abbrev s_check_balls : Stmt := topS 31
abbrev n_check_balls : List Str := ["weights", "speeds", "wall", "least", "ball"]
theorem sc_check_balls : FnScope n_check_balls ["weights", "speeds", "wall"] (defScope s_check_balls) := ⟨rfl, rfl, rfl, by decide +kernel, rfl, by decide +kernel, by decide +kernel⟩
abbrev s_check_pair : Stmt := topS 21
abbrev n_check_pair : List Str := ["row", "pair"]
theorem sc_check_pair : FnScope n_check_pair ["row", "pair"] (defScope s_check_pair) := ⟨rfl, rfl, rfl, by decide +kernel, rfl, by decide +kernel, by decide +kernel⟩
abbrev s_ratio_of : Stmt := topS 11
abbrev n_ratio_of : List Str := ["thing"]
theorem sc_ratio_of : FnScope n_ratio_of ["thing"] (defScope s_ratio_of) := ⟨rfl, rfl, rfl, by decide +kernel, rfl, by decide +kernel, by decide +kernel⟩
abbrev s__law_balls : Stmt := topS 46
abbrev n__law_balls : List Str := ["_law_hand_here", "_law_many", "_law_shut_here", "_law_heavy", "_law_wide", "_law_weights", "_law_speeds", "_law_k"]
theorem sc__law_balls : FnScope n__law_balls ["_law_hand_here", "_law_many", "_law_shut_here"] (defScope s__law_balls) := ⟨rfl, rfl, rfl, by decide +kernel, rfl, by decide +kernel, by decide +kernel⟩
abbrev s__law_comers : Stmt := topS 56
abbrev n__law_comers : List Str := ["_law_balls_here", "_law_speeds", "_law_p"]
theorem sc__law_comers : FnScope n__law_comers ["_law_balls_here", "_law_speeds"] (defScope s__law_comers) := ⟨rfl, rfl, rfl, by decide +kernel, rfl, by decide +kernel, by decide +kernel⟩
abbrev s_check_word : Stmt := topS 22
abbrev n_check_word : List Str := ["row", "word", "pair"]
theorem sc_check_word : FnScope n_check_word ["row", "word"] (defScope s_check_word) := ⟨rfl, rfl, rfl, by decide +kernel, rfl, by decide +kernel, by decide +kernel⟩
abbrev s_minus : Stmt := topS 14
abbrev n_minus : List Str := ["one", "other", "a", "b", "c", "d"]
theorem sc_minus : FnScope n_minus ["one", "other"] (defScope s_minus) := ⟨rfl, rfl, rfl, by decide +kernel, rfl, by decide +kernel, by decide +kernel⟩
abbrev s_mixed_ratio : Stmt := topS 18
abbrev n_mixed_ratio : List Str := ["one", "first", "other", "second", "divisor", "top"]
theorem sc_mixed_ratio : FnScope n_mixed_ratio ["one", "first", "other", "second", "divisor"] (defScope s_mixed_ratio) := ⟨rfl, rfl, rfl, by decide +kernel, rfl, by decide +kernel, by decide +kernel⟩
abbrev s_plus : Stmt := topS 13
abbrev n_plus : List Str := ["one", "other", "a", "b", "c", "d"]
theorem sc_plus : FnScope n_plus ["one", "other"] (defScope s_plus) := ⟨rfl, rfl, rfl, by decide +kernel, rfl, by decide +kernel, by decide +kernel⟩
abbrev s_times : Stmt := topS 15
abbrev n_times : List Str := ["one", "other", "a", "b", "c", "d"]
theorem sc_times : FnScope n_times ["one", "other"] (defScope s_times) := ⟨rfl, rfl, rfl, by decide +kernel, rfl, by decide +kernel, by decide +kernel⟩
abbrev s_Row___init__ : Stmt := inClass (topS 32) 0
abbrev n_Row___init__ : List Str := ["self", "weights", "speeds", "wall", "first", "once", "twice", "weight", "speed"]
theorem sc_Row___init__ : FnScope n_Row___init__ ["self", "weights", "speeds", "wall"] (defScope s_Row___init__) := ⟨rfl, rfl, rfl, by decide +kernel, rfl, by decide +kernel, by decide +kernel⟩
abbrev s__law_any_balls : Stmt := topS 47
abbrev n__law_any_balls : List Str := ["_law_hand_here", "_law_kind"]
theorem sc__law_any_balls : FnScope n__law_any_balls ["_law_hand_here"] (defScope s__law_any_balls) := ⟨rfl, rfl, rfl, by decide +kernel, rfl, by decide +kernel, by decide +kernel⟩
abbrev s_clashed : Stmt := topS 19
abbrev n_clashed : List Str := ["weights", "rates", "pair", "fresh", "left", "right", "one", "other", "both"]
theorem sc_clashed : FnScope n_clashed ["weights", "rates", "pair"] (defScope s_clashed) := ⟨rfl, rfl, rfl, by decide +kernel, rfl, by decide +kernel, by decide +kernel⟩
abbrev s_closing_of : Stmt := topS 20
abbrev n_closing_of : List Str := ["rates", "pair"]
theorem sc_closing_of : FnScope n_closing_of ["rates", "pair"] (defScope s_closing_of) := ⟨rfl, rfl, rfl, by decide +kernel, rfl, by decide +kernel, by decide +kernel⟩
abbrev s__law_most_balls : Stmt := topS 52
abbrev n__law_most_balls : List Str := ["_law_hand_here", "_law_kind", "_law_many"]
theorem sc__law_most_balls : FnScope n__law_most_balls ["_law_hand_here"] (defScope s__law_most_balls) := ⟨rfl, rfl, rfl, by decide +kernel, rfl, by decide +kernel, by decide +kernel⟩
abbrev s_closing_speed : Stmt := topS 25
abbrev n_closing_speed : List Str := ["row", "pair"]
theorem sc_closing_speed : FnScope n_closing_speed ["row", "pair"] (defScope s_closing_speed) := ⟨rfl, rfl, rfl, by decide +kernel, rfl, by decide +kernel, by decide +kernel⟩
abbrev s_coming_pairs : Stmt := topS 26
abbrev n_coming_pairs : List Str := ["row", "pair"]
theorem sc_coming_pairs : FnScope n_coming_pairs ["row"] (defScope s_coming_pairs) := ⟨rfl, rfl, rfl, by decide +kernel, rfl, by decide +kernel, by decide +kernel⟩
abbrev s_first_not_coming : Stmt := topS 27
abbrev n_first_not_coming : List Str := ["row", "word", "rates", "at", "pair"]
theorem sc_first_not_coming : FnScope n_first_not_coming ["row", "word"] (defScope s_first_not_coming) := ⟨rfl, rfl, rfl, by decide +kernel, rfl, by decide +kernel, by decide +kernel⟩
abbrev s_Row_with_speeds : Stmt := inClass (topS 32) 3
abbrev n_Row_with_speeds : List Str := ["self", "speeds"]
theorem sc_Row_with_speeds : FnScope n_Row_with_speeds ["self", "speeds"] (defScope s_Row_with_speeds) := ⟨rfl, rfl, rfl, by decide +kernel, rfl, by decide +kernel, by decide +kernel⟩
abbrev s_after_clash : Stmt := topS 23
abbrev n_after_clash : List Str := ["row", "pair"]
theorem sc_after_clash : FnScope n_after_clash ["row", "pair"] (defScope s_after_clash) := ⟨rfl, rfl, rfl, by decide +kernel, rfl, by decide +kernel, by decide +kernel⟩
abbrev s_after_word : Stmt := topS 24
abbrev n_after_word : List Str := ["row", "word", "rates", "pair"]
theorem sc_after_word : FnScope n_after_word ["row", "word"] (defScope s_after_word) := ⟨rfl, rfl, rfl, by decide +kernel, rfl, by decide +kernel, by decide +kernel⟩
abbrev s__law_fault : Stmt := topS 58
abbrev n__law_fault : List Str := ["_law_way", "_law_row", "_law_thing", "e"]
theorem sc__law_fault : FnScope n__law_fault ["_law_way", "_law_row", "_law_thing"] (defScope s__law_fault) := ⟨rfl, rfl, rfl, by decide +kernel, rfl, by decide +kernel, by decide +kernel⟩
abbrev s__law_step_right : Stmt := topS 57
abbrev n__law_step_right : List Str := ["_law_balls_here", "_law_row", "_law_speeds", "_law_pair", "_law_behind", "_law_told", "_law_shut", "_law_due"]
theorem sc__law_step_right : FnScope n__law_step_right ["_law_balls_here", "_law_row", "_law_speeds", "_law_pair"] (defScope s__law_step_right) := ⟨rfl, rfl, rfl, by decide +kernel, rfl, by decide +kernel, by decide +kernel⟩
abbrev s__law_refusals_right : Stmt := topS 59
abbrev n__law_refusals_right : List Str := ["_law_hand_here", "_law_row", "_law_pairs_here", "_law_word_here", "_law_odd", "_law_way", "_law_place", "_law_bad"]
theorem sc__law_refusals_right : FnScope n__law_refusals_right ["_law_hand_here", "_law_row", "_law_pairs_here", "_law_word_here"] (defScope s__law_refusals_right) := ⟨rfl, rfl, rfl, by decide +kernel, rfl, by decide +kernel, by decide +kernel⟩
abbrev s_law : Stmt := topS 60
abbrev n_law : List Str := ["_law_script", "_law_hand_here", "_law_balls_here", "_law_row", "_law_pairs_here", "_law_word_here", "_law_speeds", "_law_current", "_law_due", "_law_at", "_law_pair", "_law_told", "_law_kept", "_law_given", "_law_whole", "_law_found", "_law_plain"]
theorem sc_law : FnScope n_law ["_law_script"] (defScope s_law) := ⟨rfl, rfl, rfl, by decide +kernel, rfl, by decide +kernel, by decide +kernel⟩
structure Txt (P : Program) (G : Glb) (mg : Str → Option Value) (fa : Nat → Addr) (fd : Nat → FuncData) : Prop where
  g_GapError : mg "GapError" = some (.ref (G.cl 0))
  g_BadRatio : mg "BadRatio" = some (.ref (G.cl 1))
  g_BadRow : mg "BadRow" = some (.ref (G.cl 2))
  g_NoPair : mg "NoPair" = some (.ref (G.cl 3))
  g_BadWord : mg "BadWord" = some (.ref (G.cl 4))
  g_Row : mg "Row" = some (.ref (G.cl 5))
  d_BadRow___init__ : MetOk G.K "__init__" "BadRow.__init__" s_BadRow___init__ ["self", "index", "what"] (fa 0) (fd 0)
  d_BadWord___init__ : MetS P G.K "__init__" "BadWord.__init__" s_BadWord___init__ ["self", "index", "what"] (G.cl 4) (fa 1) (fd 1)
  u_BadWord : SupT P G.K mg (G.cl 4)
  d_NoPair___init__ : MetS P G.K "__init__" "NoPair.__init__" s_NoPair___init__ ["self", "pair"] (G.cl 3) (fa 2) (fd 2)
  u_NoPair : SupT P G.K mg (G.cl 3)
  d__law_hand : DefOk G.K mg "_law_hand" s__law_hand ["_law_script"] (fa 3) (fd 3)
  d__law_is_row : DefOk G.K mg "_law_is_row" s__law_is_row ["_law_told", "_law_balls_here", "_law_speeds"] (fa 4) (fd 4)
  d__law_less : DefOk G.K mg "_law_less" s__law_less ["_law_a", "_law_b"] (fa 5) (fd 5)
  d__law_low : DefOk G.K mg "_law_low" s__law_low ["_law_top", "_law_bottom"] (fa 6) (fd 6)
  d__law_mix : DefOk G.K mg "_law_mix" s__law_mix ["_law_number", "_law_turn"] (fa 7) (fd 7)
  d__law_pairs : DefOk G.K mg "_law_pairs" s__law_pairs ["_law_balls_here"] (fa 8) (fd 8)
  d_is_whole : DefOk G.K mg "is_whole" s_is_whole ["thing"] (fa 9) (fd 9)
  d_lowest_terms : DefOk G.K mg "lowest_terms" s_lowest_terms ["top", "bottom"] (fa 10) (fd 10)
  d__law_add : DefOk G.K mg "_law_add" s__law_add ["_law_a", "_law_b"] (fa 11) (fd 11)
  d__law_div : DefOk G.K mg "_law_div" s__law_div ["_law_a", "_law_b"] (fa 12) (fd 12)
  d__law_draw : DefOk G.K mg "_law_draw" s__law_draw ["_law_hand_here", "_law_many"] (fa 13) (fd 13)
  d__law_falling : DefOk G.K mg "_law_falling" s__law_falling ["_law_speeds"] (fa 14) (fd 14)
  d__law_is_ratio : DefOk G.K mg "_law_is_ratio" s__law_is_ratio ["_law_x"] (fa 15) (fd 15)
  d__law_mul : DefOk G.K mg "_law_mul" s__law_mul ["_law_a", "_law_b"] (fa 16) (fd 16)
  d__law_sub : DefOk G.K mg "_law_sub" s__law_sub ["_law_a", "_law_b"] (fa 17) (fd 17)
  d_is_ratio : DefOk G.K mg "is_ratio" s_is_ratio ["thing"] (fa 18) (fd 18)
  d__law_clash : DefOk G.K mg "_law_clash" s__law_clash ["_law_weights", "_law_speeds", "_law_pair"] (fa 19) (fd 19)
  d__law_closing : DefOk G.K mg "_law_closing" s__law_closing ["_law_speeds", "_law_pair"] (fa 20) (fd 20)
  d__law_pick : DefOk G.K mg "_law_pick" s__law_pick ["_law_hand_here", "_law_some"] (fa 21) (fd 21)
  d__law_speed : DefOk G.K mg "_law_speed" s__law_speed ["_law_hand_here", "_law_wide"] (fa 22) (fd 22)
  d__law_sums : DefOk G.K mg "_law_sums" s__law_sums ["_law_balls_here", "_law_speeds"] (fa 23) (fd 23)
  d__law_word : DefOk G.K mg "_law_word" s__law_word ["_law_hand_here", "_law_pairs_here", "_law_most"] (fa 24) (fd 24)
  d_check_balls : DefOk G.K mg "check_balls" s_check_balls ["weights", "speeds", "wall"] (fa 25) (fd 25)
  d_check_pair : DefOk G.K mg "check_pair" s_check_pair ["row", "pair"] (fa 26) (fd 26)
  d_ratio_of : DefOk G.K mg "ratio_of" s_ratio_of ["thing"] (fa 27) (fd 27)
  d__law_balls : DefOk G.K mg "_law_balls" s__law_balls ["_law_hand_here", "_law_many", "_law_shut_here"] (fa 28) (fd 28)
  d__law_comers : DefOk G.K mg "_law_comers" s__law_comers ["_law_balls_here", "_law_speeds"] (fa 29) (fd 29)
  d_check_word : DefOk G.K mg "check_word" s_check_word ["row", "word"] (fa 30) (fd 30)
  d_minus : DefOk G.K mg "minus" s_minus ["one", "other"] (fa 31) (fd 31)
  d_mixed_ratio : DefOk G.K mg "mixed_ratio" s_mixed_ratio ["one", "first", "other", "second", "divisor"] (fa 32) (fd 32)
  d_plus : DefOk G.K mg "plus" s_plus ["one", "other"] (fa 33) (fd 33)
  d_times : DefOk G.K mg "times" s_times ["one", "other"] (fa 34) (fd 34)
  d_Row___init__ : IniOk G mg "Row" "Row.__init__" s_Row___init__ ["self", "weights", "speeds", "wall"] [.bl false] 5 (fa 35) (fd 35)
  d__law_any_balls : DefOk G.K mg "_law_any_balls" s__law_any_balls ["_law_hand_here"] (fa 36) (fd 36)
  d_clashed : DefOk G.K mg "clashed" s_clashed ["weights", "rates", "pair"] (fa 37) (fd 37)
  d_closing_of : DefOk G.K mg "closing_of" s_closing_of ["rates", "pair"] (fa 38) (fd 38)
  d__law_most_balls : DefOk G.K mg "_law_most_balls" s__law_most_balls ["_law_hand_here"] (fa 39) (fd 39)
  d_closing_speed : DefOk G.K mg "closing_speed" s_closing_speed ["row", "pair"] (fa 40) (fd 40)
  d_coming_pairs : DefOk G.K mg "coming_pairs" s_coming_pairs ["row"] (fa 41) (fd 41)
  d_first_not_coming : DefOk G.K mg "first_not_coming" s_first_not_coming ["row", "word"] (fa 42) (fd 42)
  d_Row_with_speeds : MetOk G.K "with_speeds" "Row.with_speeds" s_Row_with_speeds ["self", "speeds"] (fa 43) (fd 43)
  mt_Row_with_speeds : Meth G.K (G.cl 5) "with_speeds" (fa 43)
  d_after_clash : DefOk G.K mg "after_clash" s_after_clash ["row", "pair"] (fa 44) (fd 44)
  d_after_word : DefOk G.K mg "after_word" s_after_word ["row", "word"] (fa 45) (fd 45)
  d__law_fault : DefOk G.K mg "_law_fault" s__law_fault ["_law_way", "_law_row", "_law_thing"] (fa 46) (fd 46)
  d__law_step_right : DefOk G.K mg "_law_step_right" s__law_step_right ["_law_balls_here", "_law_row", "_law_speeds", "_law_pair"] (fa 47) (fd 47)
  d__law_refusals_right : DefOk G.K mg "_law_refusals_right" s__law_refusals_right ["_law_hand_here", "_law_row", "_law_pairs_here", "_law_word_here"] (fa 48) (fd 48)
  d_law : DefOk G.K mg "law" s_law ["_law_script"] (fa 49) (fd 49)
  n_abs : mg "abs" = none
  n_bool : mg "bool" = none
  n_enumerate : mg "enumerate" = none
  n_int : mg "int" = none
  n_isinstance : mg "isinstance" = none
  n_len : mg "len" = none
  n_list : mg "list" = none
  n_max : mg "max" = none
  n_min : mg "min" = none
  n_range : mg "range" = none
  n_str : mg "str" = none
  n_super : mg "super" = none
  n_tuple : mg "tuple" = none
  n_zip : mg "zip" = none
  m_gcd : mg "gcd" = some (.builtin "math.gcd")
  k_MOST_WORD : ∃ t, mg "MOST_WORD" = some (.int 800 t)
  k_MOST_BALLS : ∃ t, mg "MOST_BALLS" = some (.int 40 t)
  k_MOST_WEIGHT : ∃ t, mg "MOST_WEIGHT" = some (.int 9 t)
  e_BadRatio : ErrC G mg "BadRatio" 1
  x_BadRow : OexT G mg "BadRow" 2 (fa 0) ["index", "what"]
  x_NoPair : OexT G mg "NoPair" 3 (fa 2) ["pair"]
  x_BadWord : OexT G mg "BadWord" 4 (fa 1) ["index", "what"]
  okX : ∀ c f, okX c f = true → XfC G.K (G.cl c) ∧ PySem.W.findIn G.K (.ref (G.cl c)) f = some none
  clX_BadWord : ∀ c b, clX_BadWord c = some b → PySem.W.exmOne G.K (.ref (G.cl c)) (.ref (G.cl 4)) = some b
  clX_NoPair : ∀ c b, clX_NoPair c = some b → PySem.W.exmOne G.K (.ref (G.cl c)) (.ref (G.cl 3)) = some b
  tabX : ∀ c d b, tabX c d = some b → ExcC G.K (G.cl c) ∧ ∃ cv, clsV G d = some cv ∧ PySem.W.kitOne G.K (.ref (G.cl c)) cv = some b
  fld : FldT G okF
  ins : ∀ c, okI c = true → InsT G c
  tabC : ∀ t c b, tabC t c = some b → PySem.W.kitOne G.K (tagV G t) (.ref (G.cl c)) = some b
  cls_Row : Cls G.K (G.cl 5)
section
variable {P : Program} {w : World} {G : Glb} {mg : Str → Option Value} {base : Heap} {fa : Nat → Addr} {fd : Nat → FuncData}
theorem ok_BadRow___init__ (T : Txt P G mg fa fd) : FnOk P w G.K mg base (L2.CX P w) 1 (fa 0) (fd 0) ["self", "index", "what"] (spX (G.cl 2) ["index", "what"]) :=
  fnX2 (P := P) (w := w) (mg := mg) (base := base) (k := 0) T.d_BadRow___init__.F sc_BadRow___init__ T.x_BadRow.oc (T.okX 2 "index" (by decide +kernel)).2 (T.okX 2 "what" (by decide +kernel)).2 rfl rfl rfl rfl
theorem ok_BadWord___init__ (T : Txt P G mg fa fd) : FnOk P w G.K mg base (L2.CX P w) 1 (fa 1) (fd 1) ["self", "index", "what"] (spXP (G.cl 4) ["index", "what"] okInt0V) :=
  fnSup2 (P := P) (w := w) (mg := mg) (base := base) (k := 0) okInt0V T.d_BadWord___init__.F sc_BadWord___init__ T.u_BadWord (T.okX 4 "index" (by decide +kernel)).2 (T.okX 4 "what" (by decide +kernel)).2 rfl rfl rfl (fun X a v u H eN esc emg hok => (by obtain ⟨i0, r0, e0, hz⟩ := hok; cases e0; exact (ao_cons eo_str (ao_cons (eo_strInt 1 rfl hz (by show X.env.scope.names.lookup ("str" : Str) = _; rw [esc]; rfl) (by rw [emg]; exact T.n_str) (by rw [eN]; rfl) (.inl (by rw [esc]; rfl))) (ao_cons (eo_var 2 rfl (by rw [eN]; rfl) (.inl (by rw [esc]; rfl))) ao_nil))))) (by decide)
theorem ok_NoPair___init__ (T : Txt P G mg fa fd) : FnOk P w G.K mg base (L2.CX P w) 1 (fa 2) (fd 2) ["self", "pair"] (spXP (G.cl 3) ["pair"] okAnyV) :=
  fnSup1 (P := P) (w := w) (mg := mg) (base := base) (k := 0) okAnyV T.d_NoPair___init__.F sc_NoPair___init__ T.u_NoPair (T.okX 3 "pair" (by decide +kernel)).2 rfl rfl rfl (fun X a v H eN esc emg hok => (ao_cons eo_str ao_nil)) (by decide)
theorem ok__law_hand (T : Txt P G mg fa fd) : FnOk P w G.K mg base (L2.CX P w) 1 (fa 3) (fd 3) ["_law_script"] (spD G 1 m__law_hand) :=
  have h := fnD (P := P) (w := w) (mg := mg) (base := base) (G := G) (N := n__law_hand) (ps := ["_law_script"]) (k := 0) (m := b__law_hand) (O' := {}) T.d__law_hand.F sc__law_hand rfl fun cdv A outer s H E c xt =>
    (dss_cons (ds_set 1 sc__law_hand.nd de_int)
    (dss_cons (ds_for c (di_enum c.K T.n_enumerate (da_cons (de_var 0) da_nil)) (dg_tup c.calm c.K (dgs_cons (dg_name 2 sc__law_hand.nd) (dgs_cons (dg_name 3 sc__law_hand.nd) dgs_nil)) (gsCons_len (gsCons_len gsNil_len))) (dss_one (ds_set 1 sc__law_hand.nd (de_op op_modD opd_mod (de_callTy call_int1 cd_int T.n_int PyProof.Rows.boot_int (da_cons (de_op op_addD (opd_add c.K) (de_op op_mulD3 (opd_mul c.K) (de_var 1) de_int) (de_op op_mulD3 (opd_mul c.K) (de_callTy call_int1 cd_int T.n_int PyProof.Rows.boot_int (da_cons (de_var 3) da_nil)) (de_op op_addD (opd_add c.K) (de_var 2) de_int))) da_nil)) de_int))))
    (dss_one (ds_ret (de_lst (da_cons (de_lc c sc__law_hand.nd (di_seq c.K (de_var 0)) (blkOk_by (own := [("_law_cell", 3)]) (N := n__law_hand) (sc := defScope s__law_hand) (by decide +kernel)) (fun _ _ _ _ _ => (dg_name 3 sc__law_hand.nd)) (fun _ _ _ _ _ cb => dts_nil) (fun _ _ _ _ _ cb => (de_callB call_abs cd_abs T.n_abs PyProof.Rows.boot_abs (da_cons (de_callTy call_int1 cd_int T.n_int PyProof.Rows.boot_int (da_cons (de_var 3) da_nil)) da_nil)))) (da_cons de_int (da_cons de_int (da_cons (de_var 1) da_nil)))))))))
  h
theorem ok__law_is_row (T : Txt P G mg fa fd) : FnOk P w G.K mg base (L2.CX P w) 1 (fa 4) (fd 4) ["_law_told", "_law_balls_here", "_law_speeds"] (spD G 3 m__law_is_row) :=
  have h := fnD (P := P) (w := w) (mg := mg) (base := base) (G := G) (N := n__law_is_row) (ps := ["_law_told", "_law_balls_here", "_law_speeds"]) (k := 0) (m := b__law_is_row) (O' := {}) T.d__law_is_row.F sc__law_is_row rfl fun cdv A outer s H E c xt =>
    (dss_cons (ds_if (dw_or (dt_not (dt_tru c.K (de_callB call_isi (cd_isC c.K T.ins T.tabC) T.n_isinstance PyProof.Rows.boot_isinstance (da_cons (de_var 0) (da_cons (de_globC 5 T.g_Row) da_nil))))) (dw_or (dt_cmp (op_neD c.hr.units) (opd_ne c.K) (de_fld c.K T.fld (de_var 0)) (de_callTy call_tuple_of (cd_tuple c.K) T.n_tuple PyProof.Rows.boot_tuple (da_cons (de_get c.K (de_var 1) de_int) da_nil))) (dw_or1 (dt_cmp (op_neD c.hr.units) (opd_ne c.K) (de_fld c.K T.fld (de_var 0)) (de_get c.K (de_var 1) de_int))))).dt (dss_one (ds_ret de_bl)) dss_nil)
    (dss_one (ds_ret (de_and (de_callB (CallR.or call_isi (CallR.or call_isiT call_isiK)) (cd_isi c.K) T.n_isinstance PyProof.Rows.boot_isinstance (da_cons (de_fld c.K T.fld (de_var 0)) (da_cons (de_globT "bool" T.n_bool (by decide +kernel)) da_nil))) (de_and (de_callB (CallR.or call_isi (CallR.or call_isiT call_isiK)) (cd_isi c.K) T.n_isinstance PyProof.Rows.boot_isinstance (da_cons (de_fld c.K T.fld (de_var 0)) (da_cons (de_globT "tuple" T.n_tuple boot_tuple) da_nil))) (de_one (de_cmp (op_eqD c.hr.units) (opd_eq c.K) (de_fld c.K T.fld (de_var 0)) (de_callTy call_tuple_of (cd_tuple c.K) T.n_tuple PyProof.Rows.boot_tuple (da_cons (de_var 2) da_nil)))))))))
  h
theorem ok__law_less (T : Txt P G mg fa fd) : FnOk P w G.K mg base (L2.CX P w) 1 (fa 5) (fd 5) ["_law_a", "_law_b"] (spD G 2 m__law_less) :=
  have h := fnD (P := P) (w := w) (mg := mg) (base := base) (G := G) (N := n__law_less) (ps := ["_law_a", "_law_b"]) (k := 0) (m := b__law_less) (O' := {}) T.d__law_less.F sc__law_less rfl fun cdv A outer s H E c xt =>
    (dss_one (ds_ret (de_cmp op_lt opd_lt (de_op op_mulD3 (opd_mul c.K) (de_get c.K (de_var 0) de_int) (de_get c.K (de_var 1) de_int)) (de_op op_mulD3 (opd_mul c.K) (de_get c.K (de_var 1) de_int) (de_get c.K (de_var 0) de_int)))))
  h
theorem ok__law_low (T : Txt P G mg fa fd) : FnOk P w G.K mg base (L2.CX P w) 1 (fa 6) (fd 6) ["_law_top", "_law_bottom"] (spD G 2 m__law_low) :=
  have h := fnD (P := P) (w := w) (mg := mg) (base := base) (G := G) (N := n__law_low) (ps := ["_law_top", "_law_bottom"]) (k := 0) (m := b__law_low) (O' := {}) T.d__law_low.F sc__law_low rfl fun cdv A outer s H E c xt =>
    (dss_cons (ds_set 2 sc__law_low.nd (de_callB call_abs cd_abs T.n_abs PyProof.Rows.boot_abs (da_cons (de_var 0) da_nil)))
    (dss_cons (ds_set 3 sc__law_low.nd (de_callB call_abs cd_abs T.n_abs PyProof.Rows.boot_abs (da_cons (de_var 1) da_nil)))
    (dss_cons (ds_while c (dt_tru c.K (de_var 3)) (dss_one (ds_par 2 3 c.calm sc__law_low.nd (da_cons (de_var 3) (da_cons (de_op op_modD opd_mod (de_callTy call_int1 cd_int T.n_int PyProof.Rows.boot_int (da_cons (de_var 2) da_nil)) (de_var 3)) da_nil)))))
    (dss_cons (ds_if (dt_cmp op_lt opd_lt (de_var 1) de_int) (dss_one (ds_set 2 sc__law_low.nd (de_un un_neg und_neg (de_var 2)))) dss_nil)
    (dss_one (ds_ret (de_tup (da_cons (de_op op_divD opd_div (de_var 0) (de_var 2)) (da_cons (de_op op_divD opd_div (de_var 1) (de_var 2)) da_nil)))))))))
  h
theorem ok__law_mix (T : Txt P G mg fa fd) : FnOk P w G.K mg base (L2.CX P w) 1 (fa 7) (fd 7) ["_law_number", "_law_turn"] (spD G 2 m__law_mix) :=
  have h := fnD (P := P) (w := w) (mg := mg) (base := base) (G := G) (N := n__law_mix) (ps := ["_law_number", "_law_turn"]) (k := 0) (m := b__law_mix) (O' := {}) T.d__law_mix.F sc__law_mix rfl fun cdv A outer s H E c xt =>
    (dss_cons (ds_set 2 sc__law_mix.nd (de_op op_modD opd_mod (de_callTy call_int1 cd_int T.n_int PyProof.Rows.boot_int (da_cons (de_op op_addD (opd_add c.K) (de_op op_addD (opd_add c.K) (de_op op_mulD3 (opd_mul c.K) (de_var 0) de_int) (de_op op_mulD3 (opd_mul c.K) (de_var 1) de_int)) de_int) da_nil)) de_int))
    (dss_cons (ds_set 3 sc__law_mix.nd (de_op op_modD opd_mod (de_callTy call_int1 cd_int T.n_int PyProof.Rows.boot_int (da_cons (de_op op_addD (opd_add c.K) (de_op op_addD (opd_add c.K) (de_op op_mulD3 (opd_mul c.K) (de_var 2) (de_var 2)) (de_op op_mulD3 (opd_mul c.K) (de_op op_divD opd_div (de_var 2) de_int) de_int)) (de_op op_mulD3 (opd_mul c.K) (de_var 1) de_int)) da_nil)) de_int))
    (dss_one (ds_ret (de_op op_divD opd_div (de_op op_modD opd_mod (de_callTy call_int1 cd_int T.n_int PyProof.Rows.boot_int (da_cons (de_op op_addD (opd_add c.K) (de_op op_divD opd_div (de_op op_mulD3 (opd_mul c.K) (de_var 3) (de_var 3)) de_int) (de_var 2)) da_nil)) de_int) de_int)))))
  h
theorem ok__law_pairs (T : Txt P G mg fa fd) : FnOk P w G.K mg base (L2.CX P w) 1 (fa 8) (fd 8) ["_law_balls_here"] (spD G 1 m__law_pairs) :=
  have h := fnD (P := P) (w := w) (mg := mg) (base := base) (G := G) (N := n__law_pairs) (ps := ["_law_balls_here"]) (k := 0) (m := b__law_pairs) (O' := {}) T.d__law_pairs.F sc__law_pairs rfl fun cdv A outer s H E c xt =>
    (dss_one (ds_ret (de_lstRg c.calm T.n_list T.n_range (de_if (dt_tru c.K (de_get c.K (de_var 0) de_int)) (de_un un_neg und_neg de_int) de_int) (de_op op_sub opd_sub (de_callB call_len (cd_len c.K) T.n_len PySem.boot_len (da_cons (de_get c.K (de_var 0) de_int) da_nil)) de_int))))
  h
theorem ok_is_whole (T : Txt P G mg fa fd) : FnOk P w G.K mg base (L2.CX P w) 1 (fa 9) (fd 9) ["thing"] (spD G 1 m_is_whole) :=
  have h := fnD (P := P) (w := w) (mg := mg) (base := base) (G := G) (N := n_is_whole) (ps := ["thing"]) (k := 0) (m := b_is_whole) (O' := {}) T.d_is_whole.F sc_is_whole rfl fun cdv A outer s H E c xt =>
    (dss_one (ds_ret (de_and (de_callB (CallR.or call_isi (CallR.or call_isiT call_isiK)) (cd_isi c.K) T.n_isinstance PyProof.Rows.boot_isinstance (da_cons (de_var 0) (da_cons (de_globT "int" T.n_int boot_int) da_nil))) (de_one (de_not (de_callB (CallR.or call_isi (CallR.or call_isiT call_isiK)) (cd_isi c.K) T.n_isinstance PyProof.Rows.boot_isinstance (da_cons (de_var 0) (da_cons (de_globT "bool" T.n_bool (by decide +kernel)) da_nil))))))))
  h
theorem ok_lowest_terms (T : Txt P G mg fa fd) : FnOk P w G.K mg base (L2.CX P w) 1 (fa 10) (fd 10) ["top", "bottom"] (spD G 2 m_lowest_terms) :=
  have h := fnD (P := P) (w := w) (mg := mg) (base := base) (G := G) (N := n_lowest_terms) (ps := ["top", "bottom"]) (k := 0) (m := b_lowest_terms) (O' := {}) T.d_lowest_terms.F sc_lowest_terms rfl fun cdv A outer s H E c xt =>
    (dss_cons (ds_set 2 sc_lowest_terms.nd (de_callG cr_gcd cd_gcd T.m_gcd (da_cons (de_var 0) (da_cons (de_var 1) da_nil))))
    (dss_cons (ds_if (dt_cmp op_lt opd_lt (de_var 1) de_int) (dss_one (ds_set 2 sc_lowest_terms.nd (de_un un_neg und_neg (de_var 2)))) dss_nil)
    (dss_one (ds_ret (de_tup (da_cons (de_op op_divD opd_div (de_var 0) (de_var 2)) (da_cons (de_op op_divD opd_div (de_var 1) (de_var 2)) da_nil)))))))
  h
theorem ok__law_add (T : Txt P G mg fa fd) : FnOk P w G.K mg base (L2.CX P w) 2 (fa 11) (fd 11) ["_law_a", "_law_b"] (spD G 2 m__law_add) :=
  have h := fnD (P := P) (w := w) (mg := mg) (base := base) (G := G) (N := n__law_add) (ps := ["_law_a", "_law_b"]) (k := 1) (m := b__law_add) (O' := {}) T.d__law_add.F sc__law_add rfl fun cdv A outer s H E c xt =>
    (dss_one (ds_ret (de_call c (ok__law_low T) T.d__law_low.g T.d__law_low.kp T.d__law_low.b (da_cons (de_op op_addD (opd_add c.K) (de_op op_mulD3 (opd_mul c.K) (de_get c.K (de_var 0) de_int) (de_get c.K (de_var 1) de_int)) (de_op op_mulD3 (opd_mul c.K) (de_get c.K (de_var 1) de_int) (de_get c.K (de_var 0) de_int))) (da_cons (de_op op_mulD3 (opd_mul c.K) (de_get c.K (de_var 0) de_int) (de_get c.K (de_var 1) de_int)) da_nil)) (by decide) (len_cons (len_cons len_nil)))))
  h
theorem ok__law_div (T : Txt P G mg fa fd) : FnOk P w G.K mg base (L2.CX P w) 2 (fa 12) (fd 12) ["_law_a", "_law_b"] (spD G 2 m__law_div) :=
  have h := fnD (P := P) (w := w) (mg := mg) (base := base) (G := G) (N := n__law_div) (ps := ["_law_a", "_law_b"]) (k := 1) (m := b__law_div) (O' := {}) T.d__law_div.F sc__law_div rfl fun cdv A outer s H E c xt =>
    (dss_one (ds_ret (de_call c (ok__law_low T) T.d__law_low.g T.d__law_low.kp T.d__law_low.b (da_cons (de_op op_mulD3 (opd_mul c.K) (de_get c.K (de_var 0) de_int) (de_get c.K (de_var 1) de_int)) (da_cons (de_op op_mulD3 (opd_mul c.K) (de_get c.K (de_var 0) de_int) (de_get c.K (de_var 1) de_int)) da_nil)) (by decide) (len_cons (len_cons len_nil)))))
  h
theorem ok__law_draw (T : Txt P G mg fa fd) : FnOk P w G.K mg base (L2.CX P w) 2 (fa 13) (fd 13) ["_law_hand_here", "_law_many"] (spD G 2 m__law_draw) :=
  have h := fnD (P := P) (w := w) (mg := mg) (base := base) (G := G) (N := n__law_draw) (ps := ["_law_hand_here", "_law_many"]) (k := 1) (m := b__law_draw) (O' := {}) T.d__law_draw.F sc__law_draw rfl fun cdv A outer s H E c xt =>
    (dss_cons (ds_if (dw_and (dt_cmp (op_eqD c.hr.units) (opd_eq c.K) (de_get c.K (de_var 0) de_int) de_int) (dw_and1 (dt_cmp op_lt opd_lt (de_get c.K (de_var 0) de_int) (de_callB call_len (cd_len c.K) T.n_len PySem.boot_len (da_cons (de_get c.K (de_var 0) de_int) da_nil))))).dt (dss_cons (ds_set 2 sc__law_draw.nd (de_get c.K (de_get c.K (de_var 0) de_int) (de_get c.K (de_var 0) de_int)))
    (dss_cons (ds_put 0 (de_op op_addD (opd_add c.K) (de_get c.K (de_var 0) de_int) de_int))
    (dss_cons (ds_if (dt_cmp op_lt opd_lt (de_var 2) (de_op op_pow opd_pow de_int de_int)) (dss_one (ds_ret (de_op op_modD opd_mod (de_callTy call_int1 cd_int T.n_int PyProof.Rows.boot_int (da_cons (de_call c (ok__law_mix T) T.d__law_mix.g T.d__law_mix.kp T.d__law_mix.b (da_cons (de_op op_modD opd_mod (de_callTy call_int1 cd_int T.n_int PyProof.Rows.boot_int (da_cons (de_var 2) da_nil)) de_int) (da_cons (de_get c.K (de_var 0) de_int) da_nil)) (by decide) (len_cons (len_cons len_nil))) da_nil)) (de_var 1)))) dss_nil)
    (dss_one (ds_put 0 (de_var 2)))))) dss_nil)
    (dss_cons (ds_if (dt_cmp op_gt opd_gt (de_get c.K (de_var 0) de_int) de_int) (dss_cons (ds_set 3 sc__law_draw.nd (de_get c.K (de_var 0) de_int))
    (dss_cons (ds_put 0 (de_op op_divD opd_div (de_var 3) (de_var 1)))
    (dss_one (ds_ret (de_op op_modD opd_mod (de_callTy call_int1 cd_int T.n_int PyProof.Rows.boot_int (da_cons (de_var 3) da_nil)) (de_var 1)))))) dss_nil)
    (dss_cons (ds_put 0 (de_op op_modD opd_mod (de_callTy call_int1 cd_int T.n_int PyProof.Rows.boot_int (da_cons (de_op op_addD (opd_add c.K) (de_get c.K (de_var 0) de_int) de_int) da_nil)) de_int))
    (dss_one (ds_ret (de_op op_modD opd_mod (de_callTy call_int1 cd_int T.n_int PyProof.Rows.boot_int (da_cons (de_call c (ok__law_mix T) T.d__law_mix.g T.d__law_mix.kp T.d__law_mix.b (da_cons (de_get c.K (de_var 0) de_int) (da_cons (de_get c.K (de_var 0) de_int) da_nil)) (by decide) (len_cons (len_cons len_nil))) da_nil)) (de_var 1)))))))
  h
theorem ok__law_falling (T : Txt P G mg fa fd) : FnOk P w G.K mg base (L2.CX P w) 2 (fa 14) (fd 14) ["_law_speeds"] (spD G 1 m__law_falling) :=
  have h := fnD (P := P) (w := w) (mg := mg) (base := base) (G := G) (N := n__law_falling) (ps := ["_law_speeds"]) (k := 1) (m := b__law_falling) (O' := {}) T.d__law_falling.F sc__law_falling rfl fun cdv A outer s H E c xt =>
    (dss_cons (ds_own 1 sc__law_falling.nd (df_list c.K T.n_list PyProof.Rows.boot_list (da_cons (de_var 0) da_nil)))
    (dss_cons (ds_own 2 sc__law_falling.nd (df_lst da_nil))
    (dss_cons (ds_for c (di_range1 T.n_range (da_cons (de_callB call_len (cd_len c.K) T.n_len PySem.boot_len (da_cons (de_var 0) da_nil)) da_nil)) (dg_name 3 sc__law_falling.nd) (dss_cons (ds_set 4 sc__law_falling.nd (de_getO 1 de_int))
    (dss_cons (ds_forO (O' := ⟨[2], none, (0, .none, none), none, (0, 0)⟩) 1 c (dg_name 5 sc__law_falling.nd) (dss_one (ds_if (dt_tru c.K (de_call c (ok__law_less T) T.d__law_less.g T.d__law_less.kp T.d__law_less.b (da_cons (de_var 4) (da_cons (de_var 5) da_nil)) (by decide) (len_cons (len_cons len_nil)))) (dss_one (ds_set 4 sc__law_falling.nd (de_var 5))) dss_nil)))
    (dss_cons (ds_rem 1 c.K c.hr.units (de_var 4))
    (dss_one (ds_push 2 (de_var 4)))))))
    (dss_freeze 2 (dss_one (ds_ret (de_var 2)))))))
  h
theorem ok__law_is_ratio (T : Txt P G mg fa fd) : FnOk P w G.K mg base (L2.CX P w) 2 (fa 15) (fd 15) ["_law_x"] (spD G 1 m__law_is_ratio) :=
  have h := fnD (P := P) (w := w) (mg := mg) (base := base) (G := G) (N := n__law_is_ratio) (ps := ["_law_x"]) (k := 1) (m := b__law_is_ratio) (O' := {}) T.d__law_is_ratio.F sc__law_is_ratio rfl fun cdv A outer s H E c xt =>
    (dss_cons (ds_if (dw_or (dt_not (dt_tru c.K (de_callB (CallR.or call_isi (CallR.or call_isiT call_isiK)) (cd_isi c.K) T.n_isinstance PyProof.Rows.boot_isinstance (da_cons (de_var 0) (da_cons (de_globT "tuple" T.n_tuple boot_tuple) da_nil))))) (dw_or1 (dt_cmp (op_neD c.hr.units) (opd_ne c.K) (de_callB call_len (cd_len c.K) T.n_len PySem.boot_len (da_cons (de_var 0) da_nil)) de_int))).dt (dss_one (ds_ret de_bl)) dss_nil)
    (dss_cons (ds_for c (di_seq c.K (de_var 0)) (dg_name 1 sc__law_is_ratio.nd) (dss_one (ds_if (dw_or (dt_not (dt_tru c.K (de_callB (CallR.or call_isi (CallR.or call_isiT call_isiK)) (cd_isi c.K) T.n_isinstance PyProof.Rows.boot_isinstance (da_cons (de_var 1) (da_cons (de_globT "int" T.n_int boot_int) da_nil))))) (dw_or1 (dt_tru c.K (de_callB (CallR.or call_isi (CallR.or call_isiT call_isiK)) (cd_isi c.K) T.n_isinstance PyProof.Rows.boot_isinstance (da_cons (de_var 1) (da_cons (de_globT "bool" T.n_bool (by decide +kernel)) da_nil)))))).dt (dss_one (ds_ret de_bl)) dss_nil)))
    (dss_one (ds_ret (de_and (de_cmp op_gt opd_gt (de_get c.K (de_var 0) de_int) de_int) (de_one (de_cmp (op_eqD c.hr.units) (opd_eq c.K) (de_call c (ok__law_low T) T.d__law_low.g T.d__law_low.kp T.d__law_low.b (da_cons (de_get c.K (de_var 0) de_int) (da_cons (de_get c.K (de_var 0) de_int) da_nil)) (by decide) (len_cons (len_cons len_nil))) (de_var 0))))))))
  h
theorem ok__law_mul (T : Txt P G mg fa fd) : FnOk P w G.K mg base (L2.CX P w) 2 (fa 16) (fd 16) ["_law_a", "_law_b"] (spD G 2 m__law_mul) :=
  have h := fnD (P := P) (w := w) (mg := mg) (base := base) (G := G) (N := n__law_mul) (ps := ["_law_a", "_law_b"]) (k := 1) (m := b__law_mul) (O' := {}) T.d__law_mul.F sc__law_mul rfl fun cdv A outer s H E c xt =>
    (dss_one (ds_ret (de_call c (ok__law_low T) T.d__law_low.g T.d__law_low.kp T.d__law_low.b (da_cons (de_op op_mulD3 (opd_mul c.K) (de_get c.K (de_var 0) de_int) (de_get c.K (de_var 1) de_int)) (da_cons (de_op op_mulD3 (opd_mul c.K) (de_get c.K (de_var 0) de_int) (de_get c.K (de_var 1) de_int)) da_nil)) (by decide) (len_cons (len_cons len_nil)))))
  h
theorem ok__law_sub (T : Txt P G mg fa fd) : FnOk P w G.K mg base (L2.CX P w) 2 (fa 17) (fd 17) ["_law_a", "_law_b"] (spD G 2 m__law_sub) :=
  have h := fnD (P := P) (w := w) (mg := mg) (base := base) (G := G) (N := n__law_sub) (ps := ["_law_a", "_law_b"]) (k := 1) (m := b__law_sub) (O' := {}) T.d__law_sub.F sc__law_sub rfl fun cdv A outer s H E c xt =>
    (dss_one (ds_ret (de_call c (ok__law_low T) T.d__law_low.g T.d__law_low.kp T.d__law_low.b (da_cons (de_op op_sub opd_sub (de_op op_mulD3 (opd_mul c.K) (de_get c.K (de_var 0) de_int) (de_get c.K (de_var 1) de_int)) (de_op op_mulD3 (opd_mul c.K) (de_get c.K (de_var 1) de_int) (de_get c.K (de_var 0) de_int))) (da_cons (de_op op_mulD3 (opd_mul c.K) (de_get c.K (de_var 0) de_int) (de_get c.K (de_var 1) de_int)) da_nil)) (by decide) (len_cons (len_cons len_nil)))))
  h
theorem ok_is_ratio (T : Txt P G mg fa fd) : FnOk P w G.K mg base (L2.CX P w) 2 (fa 18) (fd 18) ["thing"] (spD G 1 m_is_ratio) :=
  have h := fnD (P := P) (w := w) (mg := mg) (base := base) (G := G) (N := n_is_ratio) (ps := ["thing"]) (k := 1) (m := b_is_ratio) (O' := {}) T.d_is_ratio.F sc_is_ratio rfl fun cdv A outer s H E c xt =>
    (dss_cons (ds_if (dt_tru c.K (de_callB (CallR.or call_isi (CallR.or call_isiT call_isiK)) (cd_isi c.K) T.n_isinstance PyProof.Rows.boot_isinstance (da_cons (de_var 0) (da_cons (de_globT "tuple" T.n_tuple boot_tuple) da_nil)))) (dss_one (ds_ret (de_and (de_cmp (op_eqD c.hr.units) (opd_eq c.K) (de_callB call_len (cd_len c.K) T.n_len PySem.boot_len (da_cons (de_var 0) da_nil)) de_int) (de_and (de_call c (ok_is_whole T) T.d_is_whole.g T.d_is_whole.kp T.d_is_whole.b (da_cons (de_get c.K (de_var 0) de_int) da_nil) (by decide) (len_cons len_nil)) (de_and (de_call c (ok_is_whole T) T.d_is_whole.g T.d_is_whole.kp T.d_is_whole.b (da_cons (de_get c.K (de_var 0) de_int) da_nil) (by decide) (len_cons len_nil)) (de_one (de_cmp op_gt opd_gt (de_get c.K (de_var 0) de_int) de_int))))))) dss_nil)
    (dss_one (ds_ret (de_call c (ok_is_whole T) T.d_is_whole.g T.d_is_whole.kp T.d_is_whole.b (da_cons (de_var 0) da_nil) (by decide) (len_cons len_nil)))))
  h
theorem ok__law_clash (T : Txt P G mg fa fd) : FnOk P w G.K mg base (L2.CX P w) 3 (fa 19) (fd 19) ["_law_weights", "_law_speeds", "_law_pair"] (spD G 3 m__law_clash) :=
  have h := fnD (P := P) (w := w) (mg := mg) (base := base) (G := G) (N := n__law_clash) (ps := ["_law_weights", "_law_speeds", "_law_pair"]) (k := 2) (m := b__law_clash) (O' := {}) T.d__law_clash.F sc__law_clash rfl fun cdv A outer s H E c xt =>
    (dss_cons (ds_own 3 sc__law_clash.nd (df_list c.K T.n_list PyProof.Rows.boot_list (da_cons (de_var 1) da_nil)))
    (dss_cons (ds_if (dt_cmp (op_eqD c.hr.units) (opd_eq c.K) (de_var 2) (de_un un_neg und_neg de_int)) (dss_cons (ds_setI 3 (de_tup (da_cons (de_un un_neg und_neg (de_get c.K (de_get c.K (de_var 1) de_int) de_int)) (da_cons (de_get c.K (de_get c.K (de_var 1) de_int) de_int) da_nil))) de_int)
    (dss_freeze 3 (dss_one (ds_ret (de_var 3))))) dss_nil)
    (dss_cons (ds_set 4 sc__law_clash.nd (de_get c.K (de_var 0) (de_var 2)))
    (dss_cons (ds_set 5 sc__law_clash.nd (de_get c.K (de_var 0) (de_op op_addD (opd_add c.K) (de_var 2) de_int)))
    (dss_cons (ds_set 6 sc__law_clash.nd (de_get c.K (de_var 1) (de_var 2)))
    (dss_cons (ds_set 7 sc__law_clash.nd (de_get c.K (de_var 1) (de_op op_addD (opd_add c.K) (de_var 2) de_int)))
    (dss_cons (ds_setI 3 (de_call c (ok__law_div T) T.d__law_div.g T.d__law_div.kp T.d__law_div.b (da_cons (de_call c (ok__law_add T) T.d__law_add.g T.d__law_add.kp T.d__law_add.b (da_cons (de_call c (ok__law_mul T) T.d__law_mul.g T.d__law_mul.kp T.d__law_mul.b (da_cons (de_tup (da_cons (de_op op_sub opd_sub (de_var 4) (de_var 5)) (da_cons de_int da_nil))) (da_cons (de_var 6) da_nil)) (by decide) (len_cons (len_cons len_nil))) (da_cons (de_call c (ok__law_mul T) T.d__law_mul.g T.d__law_mul.kp T.d__law_mul.b (da_cons (de_tup (da_cons (de_op op_mulD3 (opd_mul c.K) de_int (de_var 5)) (da_cons de_int da_nil))) (da_cons (de_var 7) da_nil)) (by decide) (len_cons (len_cons len_nil))) da_nil)) (by decide) (len_cons (len_cons len_nil))) (da_cons (de_tup (da_cons (de_op op_addD (opd_add c.K) (de_var 4) (de_var 5)) (da_cons de_int da_nil))) da_nil)) (by decide) (len_cons (len_cons len_nil))) (de_var 2))
    (dss_cons (ds_setI 3 (de_call c (ok__law_div T) T.d__law_div.g T.d__law_div.kp T.d__law_div.b (da_cons (de_call c (ok__law_add T) T.d__law_add.g T.d__law_add.kp T.d__law_add.b (da_cons (de_call c (ok__law_mul T) T.d__law_mul.g T.d__law_mul.kp T.d__law_mul.b (da_cons (de_tup (da_cons (de_op op_sub opd_sub (de_var 5) (de_var 4)) (da_cons de_int da_nil))) (da_cons (de_var 7) da_nil)) (by decide) (len_cons (len_cons len_nil))) (da_cons (de_call c (ok__law_mul T) T.d__law_mul.g T.d__law_mul.kp T.d__law_mul.b (da_cons (de_tup (da_cons (de_op op_mulD3 (opd_mul c.K) de_int (de_var 4)) (da_cons de_int da_nil))) (da_cons (de_var 6) da_nil)) (by decide) (len_cons (len_cons len_nil))) da_nil)) (by decide) (len_cons (len_cons len_nil))) (da_cons (de_tup (da_cons (de_op op_addD (opd_add c.K) (de_var 4) (de_var 5)) (da_cons de_int da_nil))) da_nil)) (by decide) (len_cons (len_cons len_nil))) (de_op op_addD (opd_add c.K) (de_var 2) de_int))
    (dss_freeze 3 (dss_one (ds_ret (de_var 3))))))))))))
  h
theorem ok__law_closing (T : Txt P G mg fa fd) : FnOk P w G.K mg base (L2.CX P w) 3 (fa 20) (fd 20) ["_law_speeds", "_law_pair"] (spD G 2 m__law_closing) :=
  have h := fnD (P := P) (w := w) (mg := mg) (base := base) (G := G) (N := n__law_closing) (ps := ["_law_speeds", "_law_pair"]) (k := 2) (m := b__law_closing) (O' := {}) T.d__law_closing.F sc__law_closing rfl fun cdv A outer s H E c xt =>
    (dss_cons (ds_if (dt_cmp (op_eqD c.hr.units) (opd_eq c.K) (de_var 1) (de_un un_neg und_neg de_int)) (dss_one (ds_ret (de_tup (da_cons (de_un un_neg und_neg (de_get c.K (de_get c.K (de_var 0) de_int) de_int)) (da_cons (de_get c.K (de_get c.K (de_var 0) de_int) de_int) da_nil))))) dss_nil)
    (dss_one (ds_ret (de_call c (ok__law_sub T) T.d__law_sub.g T.d__law_sub.kp T.d__law_sub.b (da_cons (de_get c.K (de_var 0) (de_var 1)) (da_cons (de_get c.K (de_var 0) (de_op op_addD (opd_add c.K) (de_var 1) de_int)) da_nil)) (by decide) (len_cons (len_cons len_nil))))))
  h
theorem ok__law_pick (T : Txt P G mg fa fd) : FnOk P w G.K mg base (L2.CX P w) 3 (fa 21) (fd 21) ["_law_hand_here", "_law_some"] (spD G 2 m__law_pick) :=
  have h := fnD (P := P) (w := w) (mg := mg) (base := base) (G := G) (N := n__law_pick) (ps := ["_law_hand_here", "_law_some"]) (k := 2) (m := b__law_pick) (O' := {}) T.d__law_pick.F sc__law_pick rfl fun cdv A outer s H E c xt =>
    (dss_one (ds_ret (de_get c.K (de_var 1) (de_call c (ok__law_draw T) T.d__law_draw.g T.d__law_draw.kp T.d__law_draw.b (da_cons (de_var 0) (da_cons (de_callB call_len (cd_len c.K) T.n_len PySem.boot_len (da_cons (de_var 1) da_nil)) da_nil)) (by decide) (len_cons (len_cons len_nil))))))
  h
theorem ok__law_speed (T : Txt P G mg fa fd) : FnOk P w G.K mg base (L2.CX P w) 3 (fa 22) (fd 22) ["_law_hand_here", "_law_wide"] (spD G 2 m__law_speed) :=
  have h := fnD (P := P) (w := w) (mg := mg) (base := base) (G := G) (N := n__law_speed) (ps := ["_law_hand_here", "_law_wide"]) (k := 2) (m := b__law_speed) (O' := {}) T.d__law_speed.F sc__law_speed rfl fun cdv A outer s H E c xt =>
    (dss_cons (ds_set 2 sc__law_speed.nd (de_if (dt_tru c.K (de_var 1)) de_int de_int))
    (dss_cons (ds_set 3 sc__law_speed.nd (de_op op_sub opd_sub (de_call c (ok__law_draw T) T.d__law_draw.g T.d__law_draw.kp T.d__law_draw.b (da_cons (de_var 0) (da_cons (de_op op_addD (opd_add c.K) (de_op op_mulD3 (opd_mul c.K) de_int (de_var 2)) de_int) da_nil)) (by decide) (len_cons (len_cons len_nil))) (de_var 2)))
    (dss_cons (ds_set 4 sc__law_speed.nd de_int)
    (dss_cons (ds_if (dt_cmp (op_eqD c.hr.units) (opd_eq c.K) (de_call c (ok__law_draw T) T.d__law_draw.g T.d__law_draw.kp T.d__law_draw.b (da_cons (de_var 0) (da_cons de_int da_nil)) (by decide) (len_cons (len_cons len_nil))) de_int) (dss_one (ds_set 4 sc__law_speed.nd (de_op op_addD (opd_add c.K) de_int (de_call c (ok__law_draw T) T.d__law_draw.g T.d__law_draw.kp T.d__law_draw.b (da_cons (de_var 0) (da_cons de_int da_nil)) (by decide) (len_cons (len_cons len_nil)))))) dss_nil)
    (dss_one (ds_ret (de_call c (ok__law_low T) T.d__law_low.g T.d__law_low.kp T.d__law_low.b (da_cons (de_var 3) (da_cons (de_var 4) da_nil)) (by decide) (len_cons (len_cons len_nil)))))))))
  h
theorem ok__law_sums (T : Txt P G mg fa fd) : FnOk P w G.K mg base (L2.CX P w) 3 (fa 23) (fd 23) ["_law_balls_here", "_law_speeds"] (spD G 2 m__law_sums) :=
  have h := fnD (P := P) (w := w) (mg := mg) (base := base) (G := G) (N := n__law_sums) (ps := ["_law_balls_here", "_law_speeds"]) (k := 2) (m := b__law_sums) (O' := {}) T.d__law_sums.F sc__law_sums rfl fun cdv A outer s H E c xt =>
    (dss_cons (ds_set 2 sc__law_sums.nd (de_tup (da_cons de_int (da_cons de_int da_nil))))
    (dss_cons (ds_set 3 sc__law_sums.nd (de_tup (da_cons de_int (da_cons de_int da_nil))))
    (dss_cons (ds_for c (di_zipA c.K T.n_zip (da_cons (de_get c.K (de_var 0) de_int) (da_cons (de_var 1) da_nil))) (dg_tup c.calm c.K (dgs_cons (dg_name 4 sc__law_sums.nd) (dgs_cons (dg_name 5 sc__law_sums.nd) dgs_nil)) (gsCons_len (gsCons_len gsNil_len))) (dss_cons (ds_set 2 sc__law_sums.nd (de_call c (ok__law_add T) T.d__law_add.g T.d__law_add.kp T.d__law_add.b (da_cons (de_var 2) (da_cons (de_call c (ok__law_mul T) T.d__law_mul.g T.d__law_mul.kp T.d__law_mul.b (da_cons (de_tup (da_cons (de_var 4) (da_cons de_int da_nil))) (da_cons (de_var 5) da_nil)) (by decide) (len_cons (len_cons len_nil))) da_nil)) (by decide) (len_cons (len_cons len_nil))))
    (dss_one (ds_set 3 sc__law_sums.nd (de_call c (ok__law_add T) T.d__law_add.g T.d__law_add.kp T.d__law_add.b (da_cons (de_var 3) (da_cons (de_call c (ok__law_mul T) T.d__law_mul.g T.d__law_mul.kp T.d__law_mul.b (da_cons (de_tup (da_cons (de_var 4) (da_cons de_int da_nil))) (da_cons (de_call c (ok__law_mul T) T.d__law_mul.g T.d__law_mul.kp T.d__law_mul.b (da_cons (de_var 5) (da_cons (de_var 5) da_nil)) (by decide) (len_cons (len_cons len_nil))) da_nil)) (by decide) (len_cons (len_cons len_nil))) da_nil)) (by decide) (len_cons (len_cons len_nil)))))))
    (dss_one (ds_ret (de_lst (da_cons (de_var 2) (da_cons (de_var 3) da_nil))))))))
  h
theorem ok__law_word (T : Txt P G mg fa fd) : FnOk P w G.K mg base (L2.CX P w) 3 (fa 24) (fd 24) ["_law_hand_here", "_law_pairs_here", "_law_most"] (spD G 3 m__law_word) :=
  have h := fnD (P := P) (w := w) (mg := mg) (base := base) (G := G) (N := n__law_word) (ps := ["_law_hand_here", "_law_pairs_here", "_law_most"]) (k := 2) (m := b__law_word) (O' := {}) T.d__law_word.F sc__law_word rfl fun cdv A outer s H E c xt =>
    (dss_one (ds_ret (de_lc c sc__law_word.nd (di_range1 T.n_range (da_cons (de_call c (ok__law_draw T) T.d__law_draw.g T.d__law_draw.kp T.d__law_draw.b (da_cons (de_var 0) (da_cons (de_op op_addD (opd_add c.K) (de_var 2) de_int) da_nil)) (by decide) (len_cons (len_cons len_nil))) da_nil)) (blkOk_by (own := [("_law_k", 3)]) (N := n__law_word) (sc := defScope s__law_word) (by decide +kernel)) (fun _ _ _ _ _ => (dg_name 3 sc__law_word.nd)) (fun _ _ _ _ _ cb => dts_nil) (fun _ _ _ _ _ cb => (de_get cb.K (de_var 1) (de_call cb (ok__law_draw T) T.d__law_draw.g T.d__law_draw.kp T.d__law_draw.b (da_cons (de_var 0) (da_cons (de_callB call_len (cd_len cb.K) T.n_len PySem.boot_len (da_cons (de_var 1) da_nil)) da_nil)) (by decide) (len_cons (len_cons len_nil))))))))
  h
theorem ok_check_balls (T : Txt P G mg fa fd) : FnOk P w G.K mg base (L2.CX P w) 3 (fa 25) (fd 25) ["weights", "speeds", "wall"] (spD G 3 m_check_balls) :=
  have h := fnD (P := P) (w := w) (mg := mg) (base := base) (G := G) (N := n_check_balls) (ps := ["weights", "speeds", "wall"]) (k := 2) (m := b_check_balls) (O' := {}) T.d_check_balls.F sc_check_balls rfl fun cdv A outer s H E c xt =>
    (dss_cons (ds_if (dt_not (dt_tru c.K (de_callB (CallR.or call_isi (CallR.or call_isiT call_isiK)) (cd_isi c.K) T.n_isinstance PyProof.Rows.boot_isinstance (da_cons (de_var 2) (da_cons (de_globT "bool" T.n_bool (by decide +kernel)) da_nil))))) (dss_one (ds_raiseF c T.x_BadRow (ok_BadRow___init__ T) T.d_BadRow___init__.b (da_cons de_int (da_cons de_str da_nil)))) dss_nil)
    (dss_cons (ds_set 3 sc_check_balls.nd (de_if (dt_tru c.K (de_var 2)) de_int de_int))
    (dss_cons (ds_if (dw_or (dt_not (dt_tru c.K (de_callB (CallR.or call_isi (CallR.or call_isiT call_isiK)) (cd_isi c.K) T.n_isinstance PyProof.Rows.boot_isinstance (da_cons (de_var 0) (da_cons (de_tup (da_cons (de_globT "list" T.n_list boot_list) (da_cons (de_globT "tuple" T.n_tuple boot_tuple) da_nil))) da_nil))))) (dw_or1 (dt_not (dt_chain op_le opd_le op_le opd_le (de_var 3) (de_callB call_len (cd_len c.K) T.n_len PySem.boot_len (da_cons (de_var 0) da_nil)) (de_globK T.k_MOST_BALLS))))).dt (dss_one (ds_raiseF c T.x_BadRow (ok_BadRow___init__ T) T.d_BadRow___init__.b (da_cons de_int (da_cons de_str da_nil)))) dss_nil)
    (dss_cons (ds_if (dw_or (dt_not (dt_tru c.K (de_callB (CallR.or call_isi (CallR.or call_isiT call_isiK)) (cd_isi c.K) T.n_isinstance PyProof.Rows.boot_isinstance (da_cons (de_var 1) (da_cons (de_tup (da_cons (de_globT "list" T.n_list boot_list) (da_cons (de_globT "tuple" T.n_tuple boot_tuple) da_nil))) da_nil))))) (dw_or1 (dt_cmp (op_neD c.hr.units) (opd_ne c.K) (de_callB call_len (cd_len c.K) T.n_len PySem.boot_len (da_cons (de_var 1) da_nil)) (de_callB call_len (cd_len c.K) T.n_len PySem.boot_len (da_cons (de_var 0) da_nil))))).dt (dss_one (ds_raiseF c T.x_BadRow (ok_BadRow___init__ T) T.d_BadRow___init__.b (da_cons de_int (da_cons de_str da_nil)))) dss_nil)
    (dss_one (ds_for c (di_range1 T.n_range (da_cons (de_callB call_len (cd_len c.K) T.n_len PySem.boot_len (da_cons (de_var 0) da_nil)) da_nil)) (dg_name 4 sc_check_balls.nd) (dss_cons (ds_if (dw_or (dt_not (dt_tru c.K (de_call c (ok_is_whole T) T.d_is_whole.g T.d_is_whole.kp T.d_is_whole.b (da_cons (de_get c.K (de_var 0) (de_var 4)) da_nil) (by decide) (len_cons len_nil)))) (dw_or1 (dt_not (dt_chain op_le opd_le op_le opd_le de_int (de_get c.K (de_var 0) (de_var 4)) (de_globK T.k_MOST_WEIGHT))))).dt (dss_one (ds_raiseF c T.x_BadRow (ok_BadRow___init__ T) T.d_BadRow___init__.b (da_cons (de_var 4) (da_cons de_str da_nil)))) dss_nil)
    (dss_one (ds_if (dt_not (dt_tru c.K (de_call c (ok_is_ratio T) T.d_is_ratio.g T.d_is_ratio.kp T.d_is_ratio.b (da_cons (de_get c.K (de_var 1) (de_var 4)) da_nil) (by decide) (len_cons len_nil)))) (dss_one (ds_raiseF c T.x_BadRow (ok_BadRow___init__ T) T.d_BadRow___init__.b (da_cons (de_var 4) (da_cons de_str da_nil)))) dss_nil)))))))))
  h
theorem ok_check_pair (T : Txt P G mg fa fd) : FnOk P w G.K mg base (L2.CX P w) 3 (fa 26) (fd 26) ["row", "pair"] (spD G 2 m_check_pair) :=
  have h := fnD (P := P) (w := w) (mg := mg) (base := base) (G := G) (N := n_check_pair) (ps := ["row", "pair"]) (k := 2) (m := b_check_pair) (O' := {}) T.d_check_pair.F sc_check_pair rfl fun cdv A outer s H E c xt =>
    (dss_one (ds_if (dw_or (dt_not (dt_tru c.K (de_call c (ok_is_whole T) T.d_is_whole.g T.d_is_whole.kp T.d_is_whole.b (da_cons (de_var 1) da_nil) (by decide) (len_cons len_nil)))) (dw_or1 (dt_cmp (OpR.or (op_notInD c.u65) (op_notInT c.u65)) (opd_notInA c.K) (de_var 1) (de_fld c.K T.fld (de_var 0))))).dt (dss_one (ds_raiseG c T.x_NoPair (ok_NoPair___init__ T) (fun ad S vs ds => hk_any ad S vs ds) T.d_NoPair___init__.b (da_cons (de_var 1) da_nil))) dss_nil))
  h
theorem ok_ratio_of (T : Txt P G mg fa fd) : FnOk P w G.K mg base (L2.CX P w) 3 (fa 27) (fd 27) ["thing"] (spD G 1 m_ratio_of) :=
  have h := fnD (P := P) (w := w) (mg := mg) (base := base) (G := G) (N := n_ratio_of) (ps := ["thing"]) (k := 2) (m := b_ratio_of) (O' := {}) T.d_ratio_of.F sc_ratio_of rfl fun cdv A outer s H E c xt =>
    (dss_cons (ds_if (dt_not (dt_tru c.K (de_call c (ok_is_ratio T) T.d_is_ratio.g T.d_is_ratio.kp T.d_is_ratio.b (da_cons (de_var 0) da_nil) (by decide) (len_cons len_nil)))) (dss_one (ds_raise0 c T.e_BadRatio)) dss_nil)
    (dss_cons (ds_if (dt_not (dt_tru c.K (de_callB (CallR.or call_isi (CallR.or call_isiT call_isiK)) (cd_isi c.K) T.n_isinstance PyProof.Rows.boot_isinstance (da_cons (de_var 0) (da_cons (de_globT "tuple" T.n_tuple boot_tuple) da_nil))))) (dss_one (ds_ret (de_tup (da_cons (de_var 0) (da_cons de_int da_nil))))) dss_nil)
    (dss_one (ds_ret (de_call c (ok_lowest_terms T) T.d_lowest_terms.g T.d_lowest_terms.kp T.d_lowest_terms.b (da_cons (de_get c.K (de_var 0) de_int) (da_cons (de_get c.K (de_var 0) de_int) da_nil)) (by decide) (len_cons (len_cons len_nil)))))))
  h
theorem ok__law_balls (T : Txt P G mg fa fd) : FnOk P w G.K mg base (L2.CX P w) 4 (fa 28) (fd 28) ["_law_hand_here", "_law_many", "_law_shut_here"] (spD G 3 m__law_balls) :=
  have h := fnD (P := P) (w := w) (mg := mg) (base := base) (G := G) (N := n__law_balls) (ps := ["_law_hand_here", "_law_many", "_law_shut_here"]) (k := 3) (m := b__law_balls) (O' := {}) T.d__law_balls.F sc__law_balls rfl fun cdv A outer s H E c xt =>
    (dss_cons (ds_set 3 sc__law_balls.nd (de_if (dt_cmp (op_eqD c.hr.units) (opd_eq c.K) (de_call c (ok__law_draw T) T.d__law_draw.g T.d__law_draw.kp T.d__law_draw.b (da_cons (de_var 0) (da_cons de_int da_nil)) (by decide) (len_cons (len_cons len_nil))) de_int) de_int de_int))
    (dss_cons (ds_set 4 sc__law_balls.nd (de_cmp (op_eqD c.hr.units) (opd_eq c.K) (de_call c (ok__law_draw T) T.d__law_draw.g T.d__law_draw.kp T.d__law_draw.b (da_cons (de_var 0) (da_cons de_int da_nil)) (by decide) (len_cons (len_cons len_nil))) de_int))
    (dss_cons (ds_setLc 5 c sc__law_balls.nd (di_range1 T.n_range (da_cons (de_var 1) da_nil)) (blkOk_by (own := [("_law_k", 7)]) (N := n__law_balls) (sc := defScope s__law_balls) (by decide +kernel)) (sw_true rfl rfl rfl (by decide +kernel)) (fun _ _ _ _ _ => (dg_name 7 sc__law_balls.nd)) (fun _ _ _ _ _ cb => dts_nil) (fun _ _ _ _ _ cb => (de_op op_addD (opd_add cb.K) de_int (de_call cb (ok__law_draw T) T.d__law_draw.g T.d__law_draw.kp T.d__law_draw.b (da_cons (de_var 0) (da_cons (de_var 3) da_nil)) (by decide) (len_cons (len_cons len_nil))))))
    (dss_cons (ds_setLc 6 c sc__law_balls.nd (di_range1 T.n_range (da_cons (de_var 1) da_nil)) (blkOk_by (own := [("_law_k", 7)]) (N := n__law_balls) (sc := defScope s__law_balls) (by decide +kernel)) (sw_true rfl rfl rfl (by decide +kernel)) (fun _ _ _ _ _ => (dg_name 7 sc__law_balls.nd)) (fun _ _ _ _ _ cb => dts_nil) (fun _ _ _ _ _ cb => (de_call cb (ok__law_speed T) T.d__law_speed.g T.d__law_speed.kp T.d__law_speed.b (da_cons (de_var 0) (da_cons (de_var 4) da_nil)) (by decide) (len_cons (len_cons len_nil)))))
    (dss_cons (ds_if (dt_cmp (op_eqD c.hr.units) (opd_eq c.K) (de_call c (ok__law_draw T) T.d__law_draw.g T.d__law_draw.kp T.d__law_draw.b (da_cons (de_var 0) (da_cons de_int da_nil)) (by decide) (len_cons (len_cons len_nil))) de_int) (dss_one (ds_set 6 sc__law_balls.nd (de_call c (ok__law_falling T) T.d__law_falling.g T.d__law_falling.kp T.d__law_falling.b (da_cons (de_var 6) da_nil) (by decide) (len_cons len_nil)))) dss_nil)
    (dss_one (ds_ret (de_tup (da_cons (de_var 5) (da_cons (de_var 6) (da_cons (de_var 2) da_nil)))))))))))
  h
theorem ok__law_comers (T : Txt P G mg fa fd) : FnOk P w G.K mg base (L2.CX P w) 4 (fa 29) (fd 29) ["_law_balls_here", "_law_speeds"] (spD G 2 m__law_comers) :=
  have h := fnD (P := P) (w := w) (mg := mg) (base := base) (G := G) (N := n__law_comers) (ps := ["_law_balls_here", "_law_speeds"]) (k := 3) (m := b__law_comers) (O' := {}) T.d__law_comers.F sc__law_comers rfl fun cdv A outer s H E c xt =>
    (dss_one (ds_ret (de_callTy call_tuple_of (cd_tuple c.K) T.n_tuple PyProof.Rows.boot_tuple (da_cons (de_lc c sc__law_comers.nd (di_seq c.K (de_call c (ok__law_pairs T) T.d__law_pairs.g T.d__law_pairs.kp T.d__law_pairs.b (da_cons (de_var 0) da_nil) (by decide) (len_cons len_nil))) (blkOk_by (own := [("_law_p", 2)]) (N := n__law_comers) (sc := defScope s__law_comers) (by decide +kernel)) (fun _ _ _ _ _ => (dg_name 2 sc__law_comers.nd)) (fun _ _ _ _ _ cb => (dts_one (dt_cmp op_gt opd_gt (de_get cb.K (de_call cb (ok__law_closing T) T.d__law_closing.g T.d__law_closing.kp T.d__law_closing.b (da_cons (de_var 1) (da_cons (de_var 2) da_nil)) (by decide) (len_cons (len_cons len_nil))) de_int) de_int))) (fun _ _ _ _ _ cb => (de_var 2))) da_nil))))
  h
theorem ok_check_word (T : Txt P G mg fa fd) : FnOk P w G.K mg base (L2.CX P w) 4 (fa 30) (fd 30) ["row", "word"] (spD G 2 m_check_word) :=
  have h := fnD (P := P) (w := w) (mg := mg) (base := base) (G := G) (N := n_check_word) (ps := ["row", "word"]) (k := 3) (m := b_check_word) (O' := {}) T.d_check_word.F sc_check_word rfl fun cdv A outer s H E c xt =>
    (dss_cons (ds_if (dw_or (dt_not (dt_tru c.K (de_callB (CallR.or call_isi (CallR.or call_isiT call_isiK)) (cd_isi c.K) T.n_isinstance PyProof.Rows.boot_isinstance (da_cons (de_var 1) (da_cons (de_tup (da_cons (de_globT "list" T.n_list boot_list) (da_cons (de_globT "tuple" T.n_tuple boot_tuple) da_nil))) da_nil))))) (dw_or1 (dt_cmp op_gt opd_gt (de_callB call_len (cd_len c.K) T.n_len PySem.boot_len (da_cons (de_var 1) da_nil)) (de_globK T.k_MOST_WORD)))).dt (dss_one (ds_raiseG c T.x_BadWord (ok_BadWord___init__ T) (fun ad S vs ds => hk_int0 ad S vs ds) T.d_BadWord___init__.b (da_cons de_int (da_cons de_str da_nil)))) dss_nil)
    (dss_cons (ds_for c (di_seq c.K (de_var 1)) (dg_name 2 sc_check_word.nd) (dss_one (ds_expr (de_call c (ok_check_pair T) T.d_check_pair.g T.d_check_pair.kp T.d_check_pair.b (da_cons (de_var 0) (da_cons (de_var 2) da_nil)) (by decide) (len_cons (len_cons len_nil))))))
    (dss_one (ds_ret (de_callTy call_tuple_of (cd_tuple c.K) T.n_tuple PyProof.Rows.boot_tuple (da_cons (de_var 1) da_nil))))))
  h
theorem ok_minus (T : Txt P G mg fa fd) : FnOk P w G.K mg base (L2.CX P w) 4 (fa 31) (fd 31) ["one", "other"] (spD G 2 m_minus) :=
  have h := fnD (P := P) (w := w) (mg := mg) (base := base) (G := G) (N := n_minus) (ps := ["one", "other"]) (k := 3) (m := b_minus) (O' := {}) T.d_minus.F sc_minus rfl fun cdv A outer s H E c xt =>
    (dss_cons (ds_asg (de_call c (ok_ratio_of T) T.d_ratio_of.g T.d_ratio_of.kp T.d_ratio_of.b (da_cons (de_var 0) da_nil) (by decide) (len_cons len_nil)) (dg_tup c.calm c.K (dgs_cons (dg_name 2 sc_minus.nd) (dgs_cons (dg_name 3 sc_minus.nd) dgs_nil)) (gsCons_len (gsCons_len gsNil_len))))
    (dss_cons (ds_asg (de_call c (ok_ratio_of T) T.d_ratio_of.g T.d_ratio_of.kp T.d_ratio_of.b (da_cons (de_var 1) da_nil) (by decide) (len_cons len_nil)) (dg_tup c.calm c.K (dgs_cons (dg_name 4 sc_minus.nd) (dgs_cons (dg_name 5 sc_minus.nd) dgs_nil)) (gsCons_len (gsCons_len gsNil_len))))
    (dss_one (ds_ret (de_call c (ok_lowest_terms T) T.d_lowest_terms.g T.d_lowest_terms.kp T.d_lowest_terms.b (da_cons (de_op op_sub opd_sub (de_op op_mulD3 (opd_mul c.K) (de_var 2) (de_var 5)) (de_op op_mulD3 (opd_mul c.K) (de_var 4) (de_var 3))) (da_cons (de_op op_mulD3 (opd_mul c.K) (de_var 3) (de_var 5)) da_nil)) (by decide) (len_cons (len_cons len_nil)))))))
  h
theorem ok_mixed_ratio (T : Txt P G mg fa fd) : FnOk P w G.K mg base (L2.CX P w) 4 (fa 32) (fd 32) ["one", "first", "other", "second", "divisor"] (spD G 5 m_mixed_ratio) :=
  have h := fnD (P := P) (w := w) (mg := mg) (base := base) (G := G) (N := n_mixed_ratio) (ps := ["one", "first", "other", "second", "divisor"]) (k := 3) (m := b_mixed_ratio) (O' := {}) T.d_mixed_ratio.F sc_mixed_ratio rfl fun cdv A outer s H E c xt =>
    (dss_cons (ds_set 5 sc_mixed_ratio.nd (de_op op_addD (opd_add c.K) (de_op op_mulD3 (opd_mul c.K) (de_op op_mulD3 (opd_mul c.K) (de_var 0) (de_get c.K (de_var 1) de_int)) (de_get c.K (de_var 3) de_int)) (de_op op_mulD3 (opd_mul c.K) (de_op op_mulD3 (opd_mul c.K) (de_var 2) (de_get c.K (de_var 3) de_int)) (de_get c.K (de_var 1) de_int))))
    (dss_one (ds_ret (de_call c (ok_ratio_of T) T.d_ratio_of.g T.d_ratio_of.kp T.d_ratio_of.b (da_cons (de_tup (da_cons (de_var 5) (da_cons (de_op op_mulD3 (opd_mul c.K) (de_op op_mulD3 (opd_mul c.K) (de_var 4) (de_get c.K (de_var 1) de_int)) (de_get c.K (de_var 3) de_int)) da_nil))) da_nil) (by decide) (len_cons len_nil)))))
  h
theorem ok_plus (T : Txt P G mg fa fd) : FnOk P w G.K mg base (L2.CX P w) 4 (fa 33) (fd 33) ["one", "other"] (spD G 2 m_plus) :=
  have h := fnD (P := P) (w := w) (mg := mg) (base := base) (G := G) (N := n_plus) (ps := ["one", "other"]) (k := 3) (m := b_plus) (O' := {}) T.d_plus.F sc_plus rfl fun cdv A outer s H E c xt =>
    (dss_cons (ds_asg (de_call c (ok_ratio_of T) T.d_ratio_of.g T.d_ratio_of.kp T.d_ratio_of.b (da_cons (de_var 0) da_nil) (by decide) (len_cons len_nil)) (dg_tup c.calm c.K (dgs_cons (dg_name 2 sc_plus.nd) (dgs_cons (dg_name 3 sc_plus.nd) dgs_nil)) (gsCons_len (gsCons_len gsNil_len))))
    (dss_cons (ds_asg (de_call c (ok_ratio_of T) T.d_ratio_of.g T.d_ratio_of.kp T.d_ratio_of.b (da_cons (de_var 1) da_nil) (by decide) (len_cons len_nil)) (dg_tup c.calm c.K (dgs_cons (dg_name 4 sc_plus.nd) (dgs_cons (dg_name 5 sc_plus.nd) dgs_nil)) (gsCons_len (gsCons_len gsNil_len))))
    (dss_one (ds_ret (de_call c (ok_lowest_terms T) T.d_lowest_terms.g T.d_lowest_terms.kp T.d_lowest_terms.b (da_cons (de_op op_addD (opd_add c.K) (de_op op_mulD3 (opd_mul c.K) (de_var 2) (de_var 5)) (de_op op_mulD3 (opd_mul c.K) (de_var 4) (de_var 3))) (da_cons (de_op op_mulD3 (opd_mul c.K) (de_var 3) (de_var 5)) da_nil)) (by decide) (len_cons (len_cons len_nil)))))))
  h
theorem ok_times (T : Txt P G mg fa fd) : FnOk P w G.K mg base (L2.CX P w) 4 (fa 34) (fd 34) ["one", "other"] (spD G 2 m_times) :=
  have h := fnD (P := P) (w := w) (mg := mg) (base := base) (G := G) (N := n_times) (ps := ["one", "other"]) (k := 3) (m := b_times) (O' := {}) T.d_times.F sc_times rfl fun cdv A outer s H E c xt =>
    (dss_cons (ds_asg (de_call c (ok_ratio_of T) T.d_ratio_of.g T.d_ratio_of.kp T.d_ratio_of.b (da_cons (de_var 0) da_nil) (by decide) (len_cons len_nil)) (dg_tup c.calm c.K (dgs_cons (dg_name 2 sc_times.nd) (dgs_cons (dg_name 3 sc_times.nd) dgs_nil)) (gsCons_len (gsCons_len gsNil_len))))
    (dss_cons (ds_asg (de_call c (ok_ratio_of T) T.d_ratio_of.g T.d_ratio_of.kp T.d_ratio_of.b (da_cons (de_var 1) da_nil) (by decide) (len_cons len_nil)) (dg_tup c.calm c.K (dgs_cons (dg_name 4 sc_times.nd) (dgs_cons (dg_name 5 sc_times.nd) dgs_nil)) (gsCons_len (gsCons_len gsNil_len))))
    (dss_one (ds_ret (de_call c (ok_lowest_terms T) T.d_lowest_terms.g T.d_lowest_terms.kp T.d_lowest_terms.b (da_cons (de_op op_mulD3 (opd_mul c.K) (de_var 2) (de_var 4)) (da_cons (de_op op_mulD3 (opd_mul c.K) (de_var 3) (de_var 5)) da_nil)) (by decide) (len_cons (len_cons len_nil)))))))
  h
theorem ok_Row___init__ (T : Txt P G mg fa fd) : FnOk P w G.K mg base (L2.CX P w) 5 (fa 35) (fd 35) ["self", "weights", "speeds", "wall"] (spI G 5 3 m_Row___init__) :=
  have h := fnID (P := P) (w := w) (mg := mg) (base := base) (G := G) (N := n_Row___init__) (ps := ["self", "weights", "speeds", "wall"]) (c := 5) (k := 4) (n := 3) (m := b_Row___init__) T.d_Row___init__.F sc_Row___init__ rfl rfl (by decide) fun sx sdx cdv A outer s H E c xt =>
    (dss_cons (ds_expr (de_call c (ok_check_balls T) T.d_check_balls.g T.d_check_balls.kp T.d_check_balls.b (da_cons (de_var 1) (da_cons (de_var 2) (da_cons (de_var 3) da_nil))) (by decide) (len_cons (len_cons (len_cons len_nil)))))
    (dss_cons (ds_fldS c.K T.fld (de_callTy call_tuple_of (cd_tuple c.K) T.n_tuple PyProof.Rows.boot_tuple (da_cons (de_var 1) da_nil)))
    (dss_cons (ds_fldS c.K T.fld (de_callTy call_tuple_of (cd_tuple c.K) T.n_tuple PyProof.Rows.boot_tuple (da_cons (de_lc c sc_Row___init__.nd (di_seq c.K (de_var 2)) (blkOk_by (own := [("speed", 8)]) (N := n_Row___init__) (sc := defScope s_Row___init__) (by decide +kernel)) (fun _ _ _ _ _ => (dg_name 8 sc_Row___init__.nd)) (fun _ _ _ _ _ cb => dts_nil) (fun _ _ _ _ _ cb => (de_call cb (ok_ratio_of T) T.d_ratio_of.g T.d_ratio_of.kp T.d_ratio_of.b (da_cons (de_var 8) da_nil) (by decide) (len_cons len_nil))) (hv := self_hv (by decide))) da_nil)))
    (dss_cons (ds_fldS c.K T.fld (de_var 3))
    (dss_cons (ds_set 4 sc_Row___init__.nd (de_if (dt_tru c.K (de_var 3)) (de_un un_neg und_neg de_int) de_int))
    (dss_cons (ds_fldS c.K T.fld (de_tupRg c.calm T.n_tuple T.n_range (de_var 4) (de_op op_sub opd_sub (de_callB call_len (cd_len c.K) T.n_len PySem.boot_len (da_cons (de_var 1) da_nil)) de_int)))
    (dss_cons (ds_fldS c.K T.fld (de_callB call_len (cd_len c.K) T.n_len PySem.boot_len (da_cons (de_fldS c.K T.fld) da_nil)))
    (dss_cons (ds_fldS c.K T.fld (de_cmp (op_eqD c.hr.units) (opd_eq c.K) (de_callB (cr_maxT c.calm c.hr.units) (cd_maxT c.K) T.n_max PyProof.Rows.boot_max (da_cons (de_fldS c.K T.fld) da_nil)) (de_callB (cr_minT c.calm c.hr.units) (cd_minT c.K) T.n_min PyProof.Rows.boot_min (da_cons (de_fldS c.K T.fld) da_nil))))
    (dss_cons (ds_set 5 sc_Row___init__.nd (de_tup (da_cons de_int (da_cons de_int da_nil))))
    (dss_cons (ds_set 6 sc_Row___init__.nd (de_tup (da_cons de_int (da_cons de_int da_nil))))
    (dss_cons (ds_for c (di_zipA c.K T.n_zip (da_cons (de_fldS c.K T.fld) (da_cons (de_fldS c.K T.fld) da_nil))) (dg_tup c.calm c.K (dgs_cons (dg_name 7 sc_Row___init__.nd) (dgs_cons (dg_name 8 sc_Row___init__.nd) dgs_nil)) (gsCons_len (gsCons_len gsNil_len))) (dss_cons (ds_set 5 sc_Row___init__.nd (de_call c (ok_plus T) T.d_plus.g T.d_plus.kp T.d_plus.b (da_cons (de_var 5) (da_cons (de_call c (ok_times T) T.d_times.g T.d_times.kp T.d_times.b (da_cons (de_var 7) (da_cons (de_var 8) da_nil)) (by decide) (len_cons (len_cons len_nil))) da_nil)) (by decide) (len_cons (len_cons len_nil))))
    (dss_one (ds_set 6 sc_Row___init__.nd (de_call c (ok_plus T) T.d_plus.g T.d_plus.kp T.d_plus.b (da_cons (de_var 6) (da_cons (de_call c (ok_times T) T.d_times.g T.d_times.kp T.d_times.b (da_cons (de_var 7) (da_cons (de_call c (ok_times T) T.d_times.g T.d_times.kp T.d_times.b (da_cons (de_var 8) (da_cons (de_var 8) da_nil)) (by decide) (len_cons (len_cons len_nil))) da_nil)) (by decide) (len_cons (len_cons len_nil))) da_nil)) (by decide) (len_cons (len_cons len_nil)))))))
    (dss_cons (ds_fldS c.K T.fld (de_var 5))
    (dss_one (ds_fldS c.K T.fld (de_var 6)))))))))))))))
  h
theorem ok__law_any_balls (T : Txt P G mg fa fd) : FnOk P w G.K mg base (L2.CX P w) 5 (fa 36) (fd 36) ["_law_hand_here"] (spD G 1 m__law_any_balls) :=
  have h := fnD (P := P) (w := w) (mg := mg) (base := base) (G := G) (N := n__law_any_balls) (ps := ["_law_hand_here"]) (k := 4) (m := b__law_any_balls) (O' := {}) T.d__law_any_balls.F sc__law_any_balls rfl fun cdv A outer s H E c xt =>
    (dss_cons (ds_set 1 sc__law_any_balls.nd (de_call c (ok__law_draw T) T.d__law_draw.g T.d__law_draw.kp T.d__law_draw.b (da_cons (de_var 0) (da_cons de_int da_nil)) (by decide) (len_cons (len_cons len_nil))))
    (dss_cons (ds_if (dt_cmp (op_eqD c.hr.units) (opd_eq c.K) (de_var 1) de_int) (dss_one (ds_ret (de_call c (ok__law_balls T) T.d__law_balls.g T.d__law_balls.kp T.d__law_balls.b (da_cons (de_var 0) (da_cons de_int (da_cons de_bl da_nil))) (by decide) (len_cons (len_cons (len_cons len_nil)))))) dss_nil)
    (dss_cons (ds_if (dt_cmp (op_eqD c.hr.units) (opd_eq c.K) (de_var 1) de_int) (dss_one (ds_ret (de_call c (ok__law_balls T) T.d__law_balls.g T.d__law_balls.kp T.d__law_balls.b (da_cons (de_var 0) (da_cons de_int (da_cons de_bl da_nil))) (by decide) (len_cons (len_cons (len_cons len_nil)))))) dss_nil)
    (dss_cons (ds_if (dt_cmp (op_eqD c.hr.units) (opd_eq c.K) (de_var 1) de_int) (dss_one (ds_ret (de_call c (ok__law_balls T) T.d__law_balls.g T.d__law_balls.kp T.d__law_balls.b (da_cons (de_var 0) (da_cons de_int (da_cons de_bl da_nil))) (by decide) (len_cons (len_cons (len_cons len_nil)))))) dss_nil)
    (dss_one (ds_ret (de_call c (ok__law_balls T) T.d__law_balls.g T.d__law_balls.kp T.d__law_balls.b (da_cons (de_var 0) (da_cons de_int (da_cons de_bl da_nil))) (by decide) (len_cons (len_cons (len_cons len_nil))))))))))
  h
theorem ok_clashed (T : Txt P G mg fa fd) : FnOk P w G.K mg base (L2.CX P w) 5 (fa 37) (fd 37) ["weights", "rates", "pair"] (spD G 3 m_clashed) :=
  have h := fnD (P := P) (w := w) (mg := mg) (base := base) (G := G) (N := n_clashed) (ps := ["weights", "rates", "pair"]) (k := 4) (m := b_clashed) (O' := {}) T.d_clashed.F sc_clashed rfl fun cdv A outer s H E c xt =>
    (dss_cons (ds_own 3 sc_clashed.nd (df_list c.K T.n_list PyProof.Rows.boot_list (da_cons (de_var 1) da_nil)))
    (dss_cons (ds_if (dt_cmp (op_eqD c.hr.units) (opd_eq c.K) (de_var 2) (de_un un_neg und_neg de_int)) (dss_cons (ds_setI 3 (de_tup (da_cons (de_un un_neg und_neg (de_get c.K (de_get c.K (de_var 1) de_int) de_int)) (da_cons (de_get c.K (de_get c.K (de_var 1) de_int) de_int) da_nil))) de_int)
    (dss_freeze 3 (dss_one (ds_ret (de_var 3))))) dss_nil)
    (dss_cons (ds_par 4 5 c.calm sc_clashed.nd (da_cons (de_get c.K (de_var 0) (de_var 2)) (da_cons (de_get c.K (de_var 0) (de_op op_addD (opd_add c.K) (de_var 2) de_int)) da_nil)))
    (dss_cons (ds_par 6 7 c.calm sc_clashed.nd (da_cons (de_get c.K (de_var 1) (de_var 2)) (da_cons (de_get c.K (de_var 1) (de_op op_addD (opd_add c.K) (de_var 2) de_int)) da_nil)))
    (dss_cons (ds_set 8 sc_clashed.nd (de_op op_addD (opd_add c.K) (de_var 4) (de_var 5)))
    (dss_cons (ds_setI 3 (de_call c (ok_mixed_ratio T) T.d_mixed_ratio.g T.d_mixed_ratio.kp T.d_mixed_ratio.b (da_cons (de_op op_sub opd_sub (de_var 4) (de_var 5)) (da_cons (de_var 6) (da_cons (de_op op_mulD3 (opd_mul c.K) de_int (de_var 5)) (da_cons (de_var 7) (da_cons (de_var 8) da_nil))))) (by decide) (len_cons (len_cons (len_cons (len_cons (len_cons len_nil)))))) (de_var 2))
    (dss_cons (ds_setI 3 (de_call c (ok_mixed_ratio T) T.d_mixed_ratio.g T.d_mixed_ratio.kp T.d_mixed_ratio.b (da_cons (de_op op_mulD3 (opd_mul c.K) de_int (de_var 4)) (da_cons (de_var 6) (da_cons (de_op op_sub opd_sub (de_var 5) (de_var 4)) (da_cons (de_var 7) (da_cons (de_var 8) da_nil))))) (by decide) (len_cons (len_cons (len_cons (len_cons (len_cons len_nil)))))) (de_op op_addD (opd_add c.K) (de_var 2) de_int))
    (dss_freeze 3 (dss_one (ds_ret (de_var 3)))))))))))
  h
theorem ok_closing_of (T : Txt P G mg fa fd) : FnOk P w G.K mg base (L2.CX P w) 5 (fa 38) (fd 38) ["rates", "pair"] (spD G 2 m_closing_of) :=
  have h := fnD (P := P) (w := w) (mg := mg) (base := base) (G := G) (N := n_closing_of) (ps := ["rates", "pair"]) (k := 4) (m := b_closing_of) (O' := {}) T.d_closing_of.F sc_closing_of rfl fun cdv A outer s H E c xt =>
    (dss_cons (ds_if (dt_cmp (op_eqD c.hr.units) (opd_eq c.K) (de_var 1) (de_un un_neg und_neg de_int)) (dss_one (ds_ret (de_tup (da_cons (de_un un_neg und_neg (de_get c.K (de_get c.K (de_var 0) de_int) de_int)) (da_cons (de_get c.K (de_get c.K (de_var 0) de_int) de_int) da_nil))))) dss_nil)
    (dss_one (ds_ret (de_call c (ok_minus T) T.d_minus.g T.d_minus.kp T.d_minus.b (da_cons (de_get c.K (de_var 0) (de_var 1)) (da_cons (de_get c.K (de_var 0) (de_op op_addD (opd_add c.K) (de_var 1) de_int)) da_nil)) (by decide) (len_cons (len_cons len_nil))))))
  h
theorem ok__law_most_balls (T : Txt P G mg fa fd) : FnOk P w G.K mg base (L2.CX P w) 6 (fa 39) (fd 39) ["_law_hand_here"] (spD G 1 m__law_most_balls) :=
  have h := fnD (P := P) (w := w) (mg := mg) (base := base) (G := G) (N := n__law_most_balls) (ps := ["_law_hand_here"]) (k := 5) (m := b__law_most_balls) (O' := {}) T.d__law_most_balls.F sc__law_most_balls rfl fun cdv A outer s H E c xt =>
    (dss_cons (ds_set 1 sc__law_most_balls.nd (de_call c (ok__law_draw T) T.d__law_draw.g T.d__law_draw.kp T.d__law_draw.b (da_cons (de_var 0) (da_cons de_int da_nil)) (by decide) (len_cons (len_cons len_nil))))
    (dss_cons (ds_if (dt_cmp op_lt opd_lt (de_var 1) de_int) (dss_one (ds_ret (de_call c (ok__law_any_balls T) T.d__law_any_balls.g T.d__law_any_balls.kp T.d__law_any_balls.b (da_cons (de_var 0) da_nil) (by decide) (len_cons len_nil)))) dss_nil)
    (dss_cons (ds_if (dt_cmp (op_eqD c.hr.units) (opd_eq c.K) (de_var 1) de_int) (dss_one (ds_ret (de_call c (ok__law_balls T) T.d__law_balls.g T.d__law_balls.kp T.d__law_balls.b (da_cons (de_var 0) (da_cons (de_op op_addD (opd_add c.K) de_int (de_call c (ok__law_draw T) T.d__law_draw.g T.d__law_draw.kp T.d__law_draw.b (da_cons (de_var 0) (da_cons de_int da_nil)) (by decide) (len_cons (len_cons len_nil)))) (da_cons de_bl da_nil))) (by decide) (len_cons (len_cons (len_cons len_nil)))))) dss_nil)
    (dss_cons (ds_if (dt_cmp (op_eqD c.hr.units) (opd_eq c.K) (de_var 1) de_int) (dss_one (ds_ret (de_call c (ok__law_balls T) T.d__law_balls.g T.d__law_balls.kp T.d__law_balls.b (da_cons (de_var 0) (da_cons de_int (da_cons de_bl da_nil))) (by decide) (len_cons (len_cons (len_cons len_nil)))))) dss_nil)
    (dss_cons (ds_set 2 sc__law_most_balls.nd (de_if (dw_and (dt_cmp (op_eqD c.hr.units) (opd_eq c.K) (de_var 1) de_int) (dw_and1 (dt_cmp (op_eqD c.hr.units) (opd_eq c.K) (de_call c (ok__law_draw T) T.d__law_draw.g T.d__law_draw.kp T.d__law_draw.b (da_cons (de_var 0) (da_cons de_int da_nil)) (by decide) (len_cons (len_cons len_nil))) de_int))).dt de_int (de_op op_addD (opd_add c.K) de_int (de_call c (ok__law_draw T) T.d__law_draw.g T.d__law_draw.kp T.d__law_draw.b (da_cons (de_var 0) (da_cons de_int da_nil)) (by decide) (len_cons (len_cons len_nil))))))
    (dss_one (ds_ret (de_call c (ok__law_balls T) T.d__law_balls.g T.d__law_balls.kp T.d__law_balls.b (da_cons (de_var 0) (da_cons (de_var 2) (da_cons (de_cmp (op_eqD c.hr.units) (opd_eq c.K) (de_call c (ok__law_draw T) T.d__law_draw.g T.d__law_draw.kp T.d__law_draw.b (da_cons (de_var 0) (da_cons de_int da_nil)) (by decide) (len_cons (len_cons len_nil))) de_int) da_nil))) (by decide) (len_cons (len_cons (len_cons len_nil)))))))))))
  h
theorem ok_closing_speed (T : Txt P G mg fa fd) : FnOk P w G.K mg base (L2.CX P w) 6 (fa 40) (fd 40) ["row", "pair"] (spD G 2 m_closing_speed) :=
  have h := fnD (P := P) (w := w) (mg := mg) (base := base) (G := G) (N := n_closing_speed) (ps := ["row", "pair"]) (k := 5) (m := b_closing_speed) (O' := {}) T.d_closing_speed.F sc_closing_speed rfl fun cdv A outer s H E c xt =>
    (dss_cons (ds_expr (de_call c (ok_check_pair T) T.d_check_pair.g T.d_check_pair.kp T.d_check_pair.b (da_cons (de_var 0) (da_cons (de_var 1) da_nil)) (by decide) (len_cons (len_cons len_nil))))
    (dss_one (ds_ret (de_call c (ok_closing_of T) T.d_closing_of.g T.d_closing_of.kp T.d_closing_of.b (da_cons (de_fld c.K T.fld (de_var 0)) (da_cons (de_var 1) da_nil)) (by decide) (len_cons (len_cons len_nil))))))
  h
theorem ok_coming_pairs (T : Txt P G mg fa fd) : FnOk P w G.K mg base (L2.CX P w) 6 (fa 41) (fd 41) ["row"] (spD G 1 m_coming_pairs) :=
  have h := fnD (P := P) (w := w) (mg := mg) (base := base) (G := G) (N := n_coming_pairs) (ps := ["row"]) (k := 5) (m := b_coming_pairs) (O' := {}) T.d_coming_pairs.F sc_coming_pairs rfl fun cdv A outer s H E c xt =>
    (dss_one (ds_ret (de_callTy call_tuple_of (cd_tuple c.K) T.n_tuple PyProof.Rows.boot_tuple (da_cons (de_lc c sc_coming_pairs.nd (di_seq c.K (de_fld c.K T.fld (de_var 0))) (blkOk_by (own := [("pair", 1)]) (N := n_coming_pairs) (sc := defScope s_coming_pairs) (by decide +kernel)) (fun _ _ _ _ _ => (dg_name 1 sc_coming_pairs.nd)) (fun _ _ _ _ _ cb => (dts_one (dt_cmp op_gt opd_gt (de_get cb.K (de_call cb (ok_closing_of T) T.d_closing_of.g T.d_closing_of.kp T.d_closing_of.b (da_cons (de_fld cb.K T.fld (de_var 0)) (da_cons (de_var 1) da_nil)) (by decide) (len_cons (len_cons len_nil))) de_int) de_int))) (fun _ _ _ _ _ cb => (de_var 1))) da_nil))))
  h
theorem ok_first_not_coming (T : Txt P G mg fa fd) : FnOk P w G.K mg base (L2.CX P w) 6 (fa 42) (fd 42) ["row", "word"] (spD G 2 m_first_not_coming) :=
  have h := fnD (P := P) (w := w) (mg := mg) (base := base) (G := G) (N := n_first_not_coming) (ps := ["row", "word"]) (k := 5) (m := b_first_not_coming) (O' := {}) T.d_first_not_coming.F sc_first_not_coming rfl fun cdv A outer s H E c xt =>
    (dss_cons (ds_set 2 sc_first_not_coming.nd (de_fld c.K T.fld (de_var 0)))
    (dss_cons (ds_for c (di_enumA c.K T.n_enumerate (da_cons (de_call c (ok_check_word T) T.d_check_word.g T.d_check_word.kp T.d_check_word.b (da_cons (de_var 0) (da_cons (de_var 1) da_nil)) (by decide) (len_cons (len_cons len_nil))) da_nil)) (dg_tup c.calm c.K (dgs_cons (dg_name 3 sc_first_not_coming.nd) (dgs_cons (dg_name 4 sc_first_not_coming.nd) dgs_nil)) (gsCons_len (gsCons_len gsNil_len))) (dss_cons (ds_if (dt_cmp op_le opd_le (de_get c.K (de_call c (ok_closing_of T) T.d_closing_of.g T.d_closing_of.kp T.d_closing_of.b (da_cons (de_var 2) (da_cons (de_var 4) da_nil)) (by decide) (len_cons (len_cons len_nil))) de_int) de_int) (dss_one (ds_ret (de_var 3))) dss_nil)
    (dss_one (ds_set 2 sc_first_not_coming.nd (de_call c (ok_clashed T) T.d_clashed.g T.d_clashed.kp T.d_clashed.b (da_cons (de_fld c.K T.fld (de_var 0)) (da_cons (de_var 2) (da_cons (de_var 4) da_nil))) (by decide) (len_cons (len_cons (len_cons len_nil))))))))
    (dss_one (ds_ret de_non))))
  h
theorem ok_Row_with_speeds (T : Txt P G mg fa fd) : FnOk P w G.K mg base (L2.CX P w) 7 (fa 43) (fd 43) ["self", "speeds"] (spD G 2 m_Row_with_speeds) :=
  have h := fnD (P := P) (w := w) (mg := mg) (base := base) (G := G) (N := n_Row_with_speeds) (ps := ["self", "speeds"]) (k := 6) (m := b_Row_with_speeds) (O' := {}) T.d_Row_with_speeds.F sc_Row_with_speeds rfl fun cdv A outer s H E c xt =>
    (dss_one (ds_ret (de_makeD c T.d_Row___init__.mkC (ok_Row___init__ T) T.d_Row___init__.g (T.d_Row___init__.b 1 (by decide)) (fun _ _ => .nil) (da_cons (de_fld c.K T.fld (de_var 0)) (da_cons (de_var 1) (da_cons (de_fld c.K T.fld (de_var 0)) da_nil))) (len_cons (len_cons (len_cons len_nil))))))
  h
theorem ok_after_clash (T : Txt P G mg fa fd) : FnOk P w G.K mg base (L2.CX P w) 8 (fa 44) (fd 44) ["row", "pair"] (spD G 2 m_after_clash) :=
  have h := fnD (P := P) (w := w) (mg := mg) (base := base) (G := G) (N := n_after_clash) (ps := ["row", "pair"]) (k := 7) (m := b_after_clash) (O' := {}) T.d_after_clash.F sc_after_clash rfl fun cdv A outer s H E c xt =>
    (dss_cons (ds_expr (de_call c (ok_check_pair T) T.d_check_pair.g T.d_check_pair.kp T.d_check_pair.b (da_cons (de_var 0) (da_cons (de_var 1) da_nil)) (by decide) (len_cons (len_cons len_nil))))
    (dss_one (ds_ret (de_meth c T.cls_Row T.mt_Row_with_speeds (ok_Row_with_speeds T) T.d_Row_with_speeds.b (de_var 0) (da_cons (de_call c (ok_clashed T) T.d_clashed.g T.d_clashed.kp T.d_clashed.b (da_cons (de_fld c.K T.fld (de_var 0)) (da_cons (de_fld c.K T.fld (de_var 0)) (da_cons (de_var 1) da_nil))) (by decide) (len_cons (len_cons (len_cons len_nil)))) da_nil) (by decide) (len_cons len_nil)))))
  h
theorem ok_after_word (T : Txt P G mg fa fd) : FnOk P w G.K mg base (L2.CX P w) 8 (fa 45) (fd 45) ["row", "word"] (spD G 2 m_after_word) :=
  have h := fnD (P := P) (w := w) (mg := mg) (base := base) (G := G) (N := n_after_word) (ps := ["row", "word"]) (k := 7) (m := b_after_word) (O' := {}) T.d_after_word.F sc_after_word rfl fun cdv A outer s H E c xt =>
    (dss_cons (ds_set 2 sc_after_word.nd (de_fld c.K T.fld (de_var 0)))
    (dss_cons (ds_for c (di_seq c.K (de_call c (ok_check_word T) T.d_check_word.g T.d_check_word.kp T.d_check_word.b (da_cons (de_var 0) (da_cons (de_var 1) da_nil)) (by decide) (len_cons (len_cons len_nil)))) (dg_name 3 sc_after_word.nd) (dss_one (ds_set 2 sc_after_word.nd (de_call c (ok_clashed T) T.d_clashed.g T.d_clashed.kp T.d_clashed.b (da_cons (de_fld c.K T.fld (de_var 0)) (da_cons (de_var 2) (da_cons (de_var 3) da_nil))) (by decide) (len_cons (len_cons (len_cons len_nil)))))))
    (dss_one (ds_ret (de_meth c T.cls_Row T.mt_Row_with_speeds (ok_Row_with_speeds T) T.d_Row_with_speeds.b (de_var 0) (da_cons (de_var 2) da_nil) (by decide) (len_cons len_nil))))))
  h
theorem ok__law_fault (T : Txt P G mg fa fd) : FnOk P w G.K mg base (L2.CX P w) 9 (fa 46) (fd 46) ["_law_way", "_law_row", "_law_thing"] (spD G 3 m__law_fault) :=
  have h := fnD (P := P) (w := w) (mg := mg) (base := base) (G := G) (N := n__law_fault) (ps := ["_law_way", "_law_row", "_law_thing"]) (k := 8) (m := b__law_fault) (O' := {}) T.d__law_fault.F sc__law_fault rfl fun cdv A outer s H E c xt =>
    (dss_cons (ds_tryM c xt sc__law_fault.nd (fun _ _ _ ct xtt => (dss_one (ds_if (dt_cmp (op_eqD ct.hr.units) (opd_eq ct.K) (de_var 0) de_int) (dss_one (ds_expr (de_call ct (ok_after_clash T) T.d_after_clash.g T.d_after_clash.kp T.d_after_clash.b (da_cons (de_var 1) (da_cons (de_var 2) da_nil)) (by decide) (len_cons (len_cons len_nil))))) (dss_one (ds_if (dt_cmp (op_eqD ct.hr.units) (opd_eq ct.K) (de_var 0) de_int) (dss_one (ds_expr (de_call ct (ok_closing_speed T) T.d_closing_speed.g T.d_closing_speed.kp T.d_closing_speed.b (da_cons (de_var 1) (da_cons (de_var 2) da_nil)) (by decide) (len_cons (len_cons len_nil))))) (dss_one (ds_if (dt_cmp (op_eqD ct.hr.units) (opd_eq ct.K) (de_var 0) de_int) (dss_one (ds_expr (de_call ct (ok_after_word T) T.d_after_word.g T.d_after_word.kp T.d_after_word.b (da_cons (de_var 1) (da_cons (de_var 2) da_nil)) (by decide) (len_cons (len_cons len_nil))))) (dss_one (ds_if (dt_cmp (op_eqD ct.hr.units) (opd_eq ct.K) (de_var 0) de_int) (dss_one (ds_expr (de_call ct (ok_first_not_coming T) T.d_first_not_coming.g T.d_first_not_coming.kp T.d_first_not_coming.b (da_cons (de_var 1) (da_cons (de_var 2) da_nil)) (by decide) (len_cons (len_cons len_nil))))) (dss_one (ds_expr (de_call ct (ok_check_word T) T.d_check_word.g T.d_check_word.kp T.d_check_word.b (da_cons (de_var 1) (da_cons (de_var 2) da_nil)) (by decide) (len_cons (len_cons len_nil)))))))))))))) (.name 3 ⟨rfl, by decide, .inl T.g_NoPair⟩ T.clX_NoPair (fun _ _ _ _ _ hz hf => (dss_one (ds_ret (de_tup (da_cons de_str (da_cons (de_xf 3 hz hf c.K T.okX) (da_cons (de_isXF 3 tabX hz hf c.K T.n_isinstance T.tabX (de_globC 0 T.g_GapError)) (da_cons (de_isXF 3 tabX hz hf c.K T.n_isinstance T.tabX (de_globC 4 T.g_BadWord)) da_nil)))))))) (.name 3 ⟨rfl, by decide, .inl T.g_BadWord⟩ T.clX_BadWord (fun _ _ _ _ _ hz hf => (dss_one (ds_ret (de_tup (da_cons de_str (da_cons (de_xf 3 hz hf c.K T.okX) (da_cons (de_xf 3 hz hf c.K T.okX) (da_cons (de_isXF 3 tabX hz hf c.K T.n_isinstance T.tabX (de_globC 0 T.g_GapError)) (da_cons (de_isXF 3 tabX hz hf c.K T.n_isinstance T.tabX (de_globC 3 T.g_NoPair)) da_nil))))))))) .nil)))
    (dss_one (ds_ret de_non)))
  h
theorem ok__law_step_right (T : Txt P G mg fa fd) : FnOk P w G.K mg base (L2.CX P w) 9 (fa 47) (fd 47) ["_law_balls_here", "_law_row", "_law_speeds", "_law_pair"] (spD G 4 m__law_step_right) :=
  have h := fnD (P := P) (w := w) (mg := mg) (base := base) (G := G) (N := n__law_step_right) (ps := ["_law_balls_here", "_law_row", "_law_speeds", "_law_pair"]) (k := 8) (m := b__law_step_right) (O' := {}) T.d__law_step_right.F sc__law_step_right rfl fun cdv A outer s H E c xt =>
    (dss_cons (ds_set 4 sc__law_step_right.nd (de_call c (ok__law_clash T) T.d__law_clash.g T.d__law_clash.kp T.d__law_clash.b (da_cons (de_get c.K (de_var 0) de_int) (da_cons (de_var 2) (da_cons (de_var 3) da_nil))) (by decide) (len_cons (len_cons (len_cons len_nil)))))
    (dss_cons (ds_set 5 sc__law_step_right.nd (de_call c (ok_after_clash T) T.d_after_clash.g T.d_after_clash.kp T.d_after_clash.b (da_cons (de_var 1) (da_cons (de_var 3) da_nil)) (by decide) (len_cons (len_cons len_nil))))
    (dss_cons (ds_if (dw_or (dt_not (dt_tru c.K (de_call c (ok__law_is_row T) T.d__law_is_row.g T.d__law_is_row.kp T.d__law_is_row.b (da_cons (de_var 5) (da_cons (de_var 0) (da_cons (de_var 4) da_nil))) (by decide) (len_cons (len_cons (len_cons len_nil)))))) (dw_or1 (dt_not (dt_tru c.K (de_call c (ok__law_is_row T) T.d__law_is_row.g T.d__law_is_row.kp T.d__law_is_row.b (da_cons (de_var 1) (da_cons (de_var 0) (da_cons (de_var 2) da_nil))) (by decide) (len_cons (len_cons (len_cons len_nil)))))))).dt (dss_one (ds_ret de_bl)) dss_nil)
    (dss_cons (ds_set 6 sc__law_step_right.nd (de_call c (ok_closing_speed T) T.d_closing_speed.g T.d_closing_speed.kp T.d_closing_speed.b (da_cons (de_var 1) (da_cons (de_var 3) da_nil)) (by decide) (len_cons (len_cons len_nil))))
    (dss_cons (ds_if (dw_or (dt_not (dt_tru c.K (de_call c (ok__law_is_ratio T) T.d__law_is_ratio.g T.d__law_is_ratio.kp T.d__law_is_ratio.b (da_cons (de_var 6) da_nil) (by decide) (len_cons len_nil)))) (dw_or (dt_cmp (op_neD c.hr.units) (opd_ne c.K) (de_var 6) (de_call c (ok__law_closing T) T.d__law_closing.g T.d__law_closing.kp T.d__law_closing.b (da_cons (de_var 2) (da_cons (de_var 3) da_nil)) (by decide) (len_cons (len_cons len_nil)))) (dw_or1 (dt_cmp (op_neD c.hr.units) (opd_ne c.K) (de_call c (ok_closing_speed T) T.d_closing_speed.g T.d_closing_speed.kp T.d_closing_speed.b (da_cons (de_var 5) (da_cons (de_var 3) da_nil)) (by decide) (len_cons (len_cons len_nil))) (de_tup (da_cons (de_un un_neg und_neg (de_get c.K (de_var 6) de_int)) (da_cons (de_get c.K (de_var 6) de_int) da_nil))))))).dt (dss_one (ds_ret de_bl)) dss_nil)
    (dss_cons (ds_set 7 sc__law_step_right.nd (de_call c (ok__law_sums T) T.d__law_sums.g T.d__law_sums.kp T.d__law_sums.b (da_cons (de_var 0) (da_cons (de_var 4) da_nil)) (by decide) (len_cons (len_cons len_nil))))
    (dss_cons (ds_if (dw_or (dt_cmp (op_neD c.hr.units) (opd_ne c.K) (de_fld c.K T.fld (de_var 5)) (de_get c.K (de_var 7) de_int)) (dw_or (dt_cmp (op_neD c.hr.units) (opd_ne c.K) (de_fld c.K T.fld (de_var 1)) (de_get c.K (de_var 7) de_int)) (dw_or1 (dt_cmp (op_neD c.hr.units) (opd_ne c.K) (de_fld c.K T.fld (de_var 5)) (de_get c.K (de_var 7) de_int))))).dt (dss_one (ds_ret de_bl)) dss_nil)
    (dss_cons (ds_if (dw_and (dt_cmp (op_neD c.hr.units) (opd_ne c.K) (de_var 3) (de_un un_neg und_neg de_int)) (dw_and1 (dt_cmp (op_neD c.hr.units) (opd_ne c.K) (de_fld c.K T.fld (de_var 1)) (de_get c.K (de_var 7) de_int)))).dt (dss_one (ds_ret de_bl)) dss_nil)
    (dss_one (ds_ret (de_call c (ok__law_is_row T) T.d__law_is_row.g T.d__law_is_row.kp T.d__law_is_row.b (da_cons (de_call c (ok_after_clash T) T.d_after_clash.g T.d_after_clash.kp T.d_after_clash.b (da_cons (de_var 5) (da_cons (de_var 3) da_nil)) (by decide) (len_cons (len_cons len_nil))) (da_cons (de_var 0) (da_cons (de_var 2) da_nil))) (by decide) (len_cons (len_cons (len_cons len_nil))))))))))))))
  h
theorem ok__law_refusals_right (T : Txt P G mg fa fd) : FnOk P w G.K mg base (L2.CX P w) 10 (fa 48) (fd 48) ["_law_hand_here", "_law_row", "_law_pairs_here", "_law_word_here"] (spD G 4 m__law_refusals_right) :=
  have h := fnD (P := P) (w := w) (mg := mg) (base := base) (G := G) (N := n__law_refusals_right) (ps := ["_law_hand_here", "_law_row", "_law_pairs_here", "_law_word_here"]) (k := 9) (m := b__law_refusals_right) (O' := {}) T.d__law_refusals_right.F sc__law_refusals_right rfl fun cdv A outer s H E c xt =>
    (dss_cons (ds_set 4 sc__law_refusals_right.nd (de_call c (ok__law_pick T) T.d__law_pick.g T.d__law_pick.kp T.d__law_pick.b (da_cons (de_var 0) (da_cons (de_lst (da_cons (de_un un_neg und_neg de_int) (da_cons (de_op op_addD (opd_add c.K) (de_get c.K (de_var 2) (de_un un_neg und_neg de_int)) de_int) (da_cons de_non (da_cons de_str (da_cons de_bl (da_cons de_bl (da_cons (de_op op_pow opd_pow de_int de_int) (da_cons (de_un un_neg und_neg (de_op op_pow opd_pow de_int de_int)) da_nil))))))))) da_nil)) (by decide) (len_cons (len_cons len_nil))))
    (dss_cons (ds_for c (di_range1 T.n_range (da_cons de_int da_nil)) (dg_name 5 sc__law_refusals_right.nd) (dss_one (ds_if (dw_or (dt_cmp (op_neD c.hr.units) (opd_ne c.K) (de_call c (ok__law_fault T) T.d__law_fault.g T.d__law_fault.kp T.d__law_fault.b (da_cons (de_var 5) (da_cons (de_var 1) (da_cons (de_var 4) da_nil))) (by decide) (len_cons (len_cons (len_cons len_nil)))) (de_tup (da_cons de_str (da_cons (de_var 4) (da_cons de_bl (da_cons de_bl da_nil)))))) (dw_or1 (dt_cmp op_notN opd_notN (de_call c (ok__law_fault T) T.d__law_fault.g T.d__law_fault.kp T.d__law_fault.b (da_cons (de_var 5) (da_cons (de_var 1) (da_cons (de_get c.K (de_var 2) de_int) da_nil))) (by decide) (len_cons (len_cons (len_cons len_nil)))) de_non))).dt (dss_one (ds_ret de_bl)) dss_nil)))
    (dss_cons (ds_set 6 sc__law_refusals_right.nd (de_call c (ok__law_draw T) T.d__law_draw.g T.d__law_draw.kp T.d__law_draw.b (da_cons (de_var 0) (da_cons (de_op op_addD (opd_add c.K) (de_callB call_len (cd_len c.K) T.n_len PySem.boot_len (da_cons (de_var 3) da_nil)) de_int) da_nil)) (by decide) (len_cons (len_cons len_nil))))
    (dss_cons (ds_for c (di_range2 T.n_range (da_cons de_int (da_cons de_int da_nil))) (dg_name 5 sc__law_refusals_right.nd) (dss_cons (ds_if (dt_cmp (op_neD c.hr.units) (opd_ne c.K) (de_call c (ok__law_fault T) T.d__law_fault.g T.d__law_fault.kp T.d__law_fault.b (da_cons (de_var 5) (da_cons (de_var 1) (da_cons (de_op op_addD (opd_add c.K) (de_op op_addD (opd_add c.K) (de_op op_addD (opd_add c.K) (de_slice c.K (de_var 3) do_none (do_some (de_var 6))) (de_lst (da_cons (de_var 4) da_nil))) (de_slice c.K (de_var 3) (do_some (de_var 6)) do_none)) (de_lst (da_cons de_non da_nil))) da_nil))) (by decide) (len_cons (len_cons (len_cons len_nil)))) (de_tup (da_cons de_str (da_cons (de_var 4) (da_cons de_bl (da_cons de_bl da_nil)))))) (dss_one (ds_ret de_bl)) dss_nil)
    (dss_cons (ds_for c (di_seq c.K (de_lst (da_cons de_non (da_cons de_str (da_cons de_int (da_cons (de_op op_mulD3 (opd_mul c.K) (de_lst (da_cons (de_get c.K (de_var 2) de_int) da_nil)) de_int) da_nil)))))) (dg_name 7 sc__law_refusals_right.nd) (dss_one (ds_if (dt_cmp (op_neD c.hr.units) (opd_ne c.K) (de_call c (ok__law_fault T) T.d__law_fault.g T.d__law_fault.kp T.d__law_fault.b (da_cons (de_var 5) (da_cons (de_var 1) (da_cons (de_var 7) da_nil))) (by decide) (len_cons (len_cons (len_cons len_nil)))) (de_tup (da_cons de_str (da_cons de_int (da_cons de_str (da_cons de_bl (da_cons de_bl da_nil))))))) (dss_one (ds_ret de_bl)) dss_nil)))
    (dss_one (ds_if (dt_cmp op_notN opd_notN (de_call c (ok__law_fault T) T.d__law_fault.g T.d__law_fault.kp T.d__law_fault.b (da_cons (de_var 5) (da_cons (de_var 1) (da_cons (de_var 3) da_nil))) (by decide) (len_cons (len_cons (len_cons len_nil)))) de_non) (dss_one (ds_ret de_bl)) dss_nil)))))
    (dss_one (ds_ret (de_cmp (op_eqD c.hr.units) (opd_eq c.K) (de_call c (ok_check_word T) T.d_check_word.g T.d_check_word.kp T.d_check_word.b (da_cons (de_var 1) (da_cons (de_op op_mulD3 (opd_mul c.K) (de_lst (da_cons (de_get c.K (de_var 2) (de_un un_neg und_neg de_int)) da_nil)) de_int) da_nil)) (by decide) (len_cons (len_cons len_nil))) (de_callTy call_tuple_of (cd_tuple c.K) T.n_tuple PyProof.Rows.boot_tuple (da_cons (de_op op_mulD3 (opd_mul c.K) (de_lst (da_cons (de_get c.K (de_var 2) (de_un un_neg und_neg de_int)) da_nil)) de_int) da_nil)))))))))
  h
theorem ok_law (T : Txt P G mg fa fd) (hH : ∀ (ns : List Int), ns.length ≤ 63 → ∃ cells t, m__law_hand [.rol (ns.map .int)] [] = .ok (handD cells 0 0 t) [] ∧ ∃ st', b_law (some (.rol (ns.map .int)) :: some (.tok 0) :: List.replicate 15 none) [handD cells 0 0 t] = .rt (.bl true) st') : FnOk P w G.K mg base (L2.CX P w) 11 (fa 49) (fd 49) ["_law_script"] (spLaw G.K) :=
  have h := lawD2 (P := P) (w := w) (mg := mg) (base := base) (G := G) (N := n_law) (k := 10) (m := b_law) (O' := {}) T.d_law.F sc_law rfl rfl (by first | exact .inl rfl | exact .inr rfl) rfl rfl rfl (ok__law_hand T) T.d__law_hand.g T.d__law_hand.kp T.d__law_hand.b (by decide) hH (hfx := fun _ _ _ _ _ _ => by first | exact .inl rfl | exact .inr rfl) fun cdv A outer s H E c xt =>
    (dss_cons (ds_set 2 sc_law.nd (de_call c (ok__law_most_balls T) T.d__law_most_balls.g T.d__law_most_balls.kp T.d__law_most_balls.b (da_cons (de_var 1) da_nil) (by decide) (len_cons len_nil)))
    (dss_cons (ds_set 3 sc_law.nd (de_makeD c T.d_Row___init__.mkC (ok_Row___init__ T) T.d_Row___init__.g (T.d_Row___init__.b 1 (by decide)) (fun _ _ => .nil) (da_cons (de_get c.K (de_var 2) de_int) (da_cons (de_get c.K (de_var 2) de_int) (da_cons (de_get c.K (de_var 2) de_int) da_nil))) (len_cons (len_cons (len_cons len_nil)))))
    (dss_cons (ds_set 4 sc_law.nd (de_call c (ok__law_pairs T) T.d__law_pairs.g T.d__law_pairs.kp T.d__law_pairs.b (da_cons (de_var 2) da_nil) (by decide) (len_cons len_nil)))
    (dss_cons (ds_set 5 sc_law.nd (de_call c (ok__law_word T) T.d__law_word.g T.d__law_word.kp T.d__law_word.b (da_cons (de_var 1) (da_cons (de_var 4) (da_cons (de_if (dt_cmp (op_eqD c.hr.units) (opd_eq c.K) (de_call c (ok__law_draw T) T.d__law_draw.g T.d__law_draw.kp T.d__law_draw.b (da_cons (de_var 1) (da_cons de_int da_nil)) (by decide) (len_cons (len_cons len_nil))) de_int) de_int de_int) da_nil))) (by decide) (len_cons (len_cons (len_cons len_nil)))))
    (dss_cons (ds_set 6 sc_law.nd (de_callTy call_list_of (cd_list c.K) T.n_list PyProof.Rows.boot_list (da_cons (de_get c.K (de_var 2) de_int) da_nil)))
    (dss_cons (ds_set 7 sc_law.nd (de_var 3))
    (dss_cons (ds_set 8 sc_law.nd de_non)
    (dss_cons (ds_for c (di_enumA c.K T.n_enumerate (da_cons (de_var 5) da_nil)) (dg_tup c.calm c.K (dgs_cons (dg_name 9 sc_law.nd) (dgs_cons (dg_name 10 sc_law.nd) dgs_nil)) (gsCons_len (gsCons_len gsNil_len))) (dss_cons (ds_set 11 sc_law.nd (de_call c (ok_coming_pairs T) T.d_coming_pairs.g T.d_coming_pairs.kp T.d_coming_pairs.b (da_cons (de_var 7) da_nil) (by decide) (len_cons len_nil)))
    (dss_cons (ds_if (dw_or (dt_not (dt_tru c.K (de_callB (CallR.or call_isi (CallR.or call_isiT call_isiK)) (cd_isi c.K) T.n_isinstance PyProof.Rows.boot_isinstance (da_cons (de_var 11) (da_cons (de_globT "tuple" T.n_tuple boot_tuple) da_nil))))) (dw_or (dt_cmp (op_neD c.hr.units) (opd_ne c.K) (de_var 11) (de_call c (ok__law_comers T) T.d__law_comers.g T.d__law_comers.kp T.d__law_comers.b (da_cons (de_var 2) (da_cons (de_var 6) da_nil)) (by decide) (len_cons (len_cons len_nil)))) (dw_or1 (dt_not (dt_tru c.K (de_call c (ok__law_step_right T) T.d__law_step_right.g T.d__law_step_right.kp T.d__law_step_right.b (da_cons (de_var 2) (da_cons (de_var 7) (da_cons (de_var 6) (da_cons (de_var 10) da_nil)))) (by decide) (len_cons (len_cons (len_cons (len_cons len_nil)))))))))).dt (dss_one (ds_ret de_bl)) dss_nil)
    (dss_cons (ds_if (dw_and (dt_cmp op_isN opd_isN (de_var 8) de_non) (dw_and1 (dt_cmp op_le opd_le (de_get c.K (de_call c (ok__law_closing T) T.d__law_closing.g T.d__law_closing.kp T.d__law_closing.b (da_cons (de_var 6) (da_cons (de_var 10) da_nil)) (by decide) (len_cons (len_cons len_nil))) de_int) de_int))).dt (dss_one (ds_set 8 sc_law.nd (de_var 9))) dss_nil)
    (dss_cons (ds_set 6 sc_law.nd (de_call c (ok__law_clash T) T.d__law_clash.g T.d__law_clash.kp T.d__law_clash.b (da_cons (de_get c.K (de_var 2) de_int) (da_cons (de_var 6) (da_cons (de_var 10) da_nil))) (by decide) (len_cons (len_cons (len_cons len_nil)))))
    (dss_one (ds_set 7 sc_law.nd (de_call c (ok_after_clash T) T.d_after_clash.g T.d_after_clash.kp T.d_after_clash.b (da_cons (de_var 7) (da_cons (de_var 10) da_nil)) (by decide) (len_cons (len_cons len_nil))))))))))
    (dss_cons (ds_set 12 sc_law.nd (de_callTy call_list_of (cd_list c.K) T.n_list PyProof.Rows.boot_list (da_cons (de_var 5) da_nil)))
    (dss_cons (ds_set 13 sc_law.nd (de_if (dt_cmp (op_eqD c.hr.units) (opd_eq c.K) (de_call c (ok__law_draw T) T.d__law_draw.g T.d__law_draw.kp T.d__law_draw.b (da_cons (de_var 1) (da_cons de_int da_nil)) (by decide) (len_cons (len_cons len_nil))) de_int) (de_var 5) (de_callTy call_tuple_of (cd_tuple c.K) T.n_tuple PyProof.Rows.boot_tuple (da_cons (de_var 5) da_nil))))
    (dss_cons (ds_set 14 sc_law.nd (de_call c (ok_after_word T) T.d_after_word.g T.d_after_word.kp T.d_after_word.b (da_cons (de_var 3) (da_cons (de_var 13) da_nil)) (by decide) (len_cons (len_cons len_nil))))
    (dss_cons (ds_if (dw_or (dt_not (dt_tru c.K (de_call c (ok__law_is_row T) T.d__law_is_row.g T.d__law_is_row.kp T.d__law_is_row.b (da_cons (de_var 14) (da_cons (de_var 2) (da_cons (de_var 6) da_nil))) (by decide) (len_cons (len_cons (len_cons len_nil)))))) (dw_or1 (dt_cmp (op_neD c.hr.units) (opd_ne c.K) (de_call c (ok_coming_pairs T) T.d_coming_pairs.g T.d_coming_pairs.kp T.d_coming_pairs.b (da_cons (de_var 14) da_nil) (by decide) (len_cons len_nil)) (de_call c (ok__law_comers T) T.d__law_comers.g T.d__law_comers.kp T.d__law_comers.b (da_cons (de_var 2) (da_cons (de_var 6) da_nil)) (by decide) (len_cons (len_cons len_nil)))))).dt (dss_one (ds_ret de_bl)) dss_nil)
    (dss_cons (ds_set 15 sc_law.nd (de_call c (ok_first_not_coming T) T.d_first_not_coming.g T.d_first_not_coming.kp T.d_first_not_coming.b (da_cons (de_var 3) (da_cons (de_var 13) da_nil)) (by decide) (len_cons (len_cons len_nil))))
    (dss_cons (ds_if (dw_or (dt_cmp (op_neD c.hr.units) (opd_ne c.K) (de_var 15) (de_var 8)) (dw_or (dt_tru c.K (de_callB (CallR.or call_isi (CallR.or call_isiT call_isiK)) (cd_isi c.K) T.n_isinstance PyProof.Rows.boot_isinstance (da_cons (de_var 15) (da_cons (de_globT "bool" T.n_bool (by decide +kernel)) da_nil)))) (dw_or1 (dw_and (dt_cmp op_notN opd_notN (de_var 15) de_non) (dw_and1 (dt_not (dt_tru c.K (de_callB (CallR.or call_isi (CallR.or call_isiT call_isiK)) (cd_isi c.K) T.n_isinstance PyProof.Rows.boot_isinstance (da_cons (de_var 15) (da_cons (de_globT "int" T.n_int boot_int) da_nil))))))).dt))).dt (dss_one (ds_ret de_bl)) dss_nil)
    (dss_cons (ds_set 16 sc_law.nd (de_call c (ok_check_word T) T.d_check_word.g T.d_check_word.kp T.d_check_word.b (da_cons (de_var 3) (da_cons (de_var 13) da_nil)) (by decide) (len_cons (len_cons len_nil))))
    (dss_cons (ds_if (dw_or (dt_not (dt_tru c.K (de_callB (CallR.or call_isi (CallR.or call_isiT call_isiK)) (cd_isi c.K) T.n_isinstance PyProof.Rows.boot_isinstance (da_cons (de_var 16) (da_cons (de_globT "tuple" T.n_tuple boot_tuple) da_nil))))) (dw_or (dt_cmp (op_neD c.hr.units) (opd_ne c.K) (de_var 16) (de_callTy call_tuple_of (cd_tuple c.K) T.n_tuple PyProof.Rows.boot_tuple (da_cons (de_var 12) da_nil))) (dw_or1 (dt_cmp (op_neD c.hr.units) (opd_ne c.K) (de_callTy call_list_of (cd_list c.K) T.n_list PyProof.Rows.boot_list (da_cons (de_var 13) da_nil)) (de_var 12))))).dt (dss_one (ds_ret de_bl)) dss_nil)
    (dss_cons (ds_if (dw_or (dt_not (dt_tru c.K (de_call c (ok__law_is_row T) T.d__law_is_row.g T.d__law_is_row.kp T.d__law_is_row.b (da_cons (de_call c (ok_after_word T) T.d_after_word.g T.d_after_word.kp T.d_after_word.b (da_cons (de_var 14) (da_cons (de_rev c.K (de_var 5)) da_nil)) (by decide) (len_cons (len_cons len_nil))) (da_cons (de_var 2) (da_cons (de_get c.K (de_var 2) de_int) da_nil))) (by decide) (len_cons (len_cons (len_cons len_nil)))))) (dw_or1 (dt_not (dt_tru c.K (de_call c (ok__law_is_row T) T.d__law_is_row.g T.d__law_is_row.kp T.d__law_is_row.b (da_cons (de_var 3) (da_cons (de_var 2) (da_cons (de_get c.K (de_var 2) de_int) da_nil))) (by decide) (len_cons (len_cons (len_cons len_nil)))))))).dt (dss_one (ds_ret de_bl)) dss_nil)
    (dss_one (ds_ret (de_call c (ok__law_refusals_right T) T.d__law_refusals_right.g T.d__law_refusals_right.kp T.d__law_refusals_right.b (da_cons (de_var 1) (da_cons (de_var 3) (da_cons (de_var 4) (da_cons (de_var 5) da_nil)))) (by decide) (len_cons (len_cons (len_cons (len_cons len_nil))))))))))))))))))))))))
  h
end
theorem all_mk {l : PySem.W.OpenLaw} {w : World} {K : PySem.W.Frag} {h : Heap} {mg : Str → Option Value} {la : Addr}
    {C0 : Addr}
    {C1 : Addr}
    {C2 : Addr}
    {C3 : Addr}
    {C4 : Addr}
    {C5 : Addr}
    {f0 : Addr} {od0 an0 : Option Addr} {sl0 : Array (Option Value)} {oc0 kV0 dc0 pm0 cd0 ct0 : Value}
    {f1 : Addr} {od1 an1 : Option Addr} {sl1 : Array (Option Value)} {oc1 kV1 dc1 pm1 ct1 : Value}
    {cc1 da1 : Addr} {cl1 dl1 : Value} {cld1 dld1 : Option Addr} {csl1 dsl1 : Array (Option Value)} {fv1 : Array Value} {ff1 : Str} {ft1 : Tok}
    {f2 : Addr} {od2 an2 : Option Addr} {sl2 : Array (Option Value)} {oc2 kV2 dc2 pm2 ct2 : Value}
    {cc2 da2 : Addr} {cl2 dl2 : Value} {cld2 dld2 : Option Addr} {csl2 dsl2 : Array (Option Value)} {fv2 : Array Value} {ff2 : Str} {ft2 : Tok}
    {f3 : Addr} {od3 an3 : Option Addr} {sl3 : Array (Option Value)} {oc3 kV3 dc3 pm3 cd3 ct3 : Value}
    {f4 : Addr} {od4 an4 : Option Addr} {sl4 : Array (Option Value)} {oc4 kV4 dc4 pm4 cd4 ct4 : Value}
    {f5 : Addr} {od5 an5 : Option Addr} {sl5 : Array (Option Value)} {oc5 kV5 dc5 pm5 cd5 ct5 : Value}
    {f6 : Addr} {od6 an6 : Option Addr} {sl6 : Array (Option Value)} {oc6 kV6 dc6 pm6 cd6 ct6 : Value}
    {f7 : Addr} {od7 an7 : Option Addr} {sl7 : Array (Option Value)} {oc7 kV7 dc7 pm7 cd7 ct7 : Value}
    {f8 : Addr} {od8 an8 : Option Addr} {sl8 : Array (Option Value)} {oc8 kV8 dc8 pm8 cd8 ct8 : Value}
    {f9 : Addr} {od9 an9 : Option Addr} {sl9 : Array (Option Value)} {oc9 kV9 dc9 pm9 cd9 ct9 : Value}
    {f10 : Addr} {od10 an10 : Option Addr} {sl10 : Array (Option Value)} {oc10 kV10 dc10 pm10 cd10 ct10 : Value}
    {f11 : Addr} {od11 an11 : Option Addr} {sl11 : Array (Option Value)} {oc11 kV11 dc11 pm11 cd11 ct11 : Value}
    {f12 : Addr} {od12 an12 : Option Addr} {sl12 : Array (Option Value)} {oc12 kV12 dc12 pm12 cd12 ct12 : Value}
    {f13 : Addr} {od13 an13 : Option Addr} {sl13 : Array (Option Value)} {oc13 kV13 dc13 pm13 cd13 ct13 : Value}
    {f14 : Addr} {od14 an14 : Option Addr} {sl14 : Array (Option Value)} {oc14 kV14 dc14 pm14 cd14 ct14 : Value}
    {f15 : Addr} {od15 an15 : Option Addr} {sl15 : Array (Option Value)} {oc15 kV15 dc15 pm15 cd15 ct15 : Value}
    {f16 : Addr} {od16 an16 : Option Addr} {sl16 : Array (Option Value)} {oc16 kV16 dc16 pm16 cd16 ct16 : Value}
    {f17 : Addr} {od17 an17 : Option Addr} {sl17 : Array (Option Value)} {oc17 kV17 dc17 pm17 cd17 ct17 : Value}
    {f18 : Addr} {od18 an18 : Option Addr} {sl18 : Array (Option Value)} {oc18 kV18 dc18 pm18 cd18 ct18 : Value}
    {f19 : Addr} {od19 an19 : Option Addr} {sl19 : Array (Option Value)} {oc19 kV19 dc19 pm19 cd19 ct19 : Value}
    {f20 : Addr} {od20 an20 : Option Addr} {sl20 : Array (Option Value)} {oc20 kV20 dc20 pm20 cd20 ct20 : Value}
    {f21 : Addr} {od21 an21 : Option Addr} {sl21 : Array (Option Value)} {oc21 kV21 dc21 pm21 cd21 ct21 : Value}
    {f22 : Addr} {od22 an22 : Option Addr} {sl22 : Array (Option Value)} {oc22 kV22 dc22 pm22 cd22 ct22 : Value}
    {f23 : Addr} {od23 an23 : Option Addr} {sl23 : Array (Option Value)} {oc23 kV23 dc23 pm23 cd23 ct23 : Value}
    {f24 : Addr} {od24 an24 : Option Addr} {sl24 : Array (Option Value)} {oc24 kV24 dc24 pm24 cd24 ct24 : Value}
    {f25 : Addr} {od25 an25 : Option Addr} {sl25 : Array (Option Value)} {oc25 kV25 dc25 pm25 cd25 ct25 : Value}
    {f26 : Addr} {od26 an26 : Option Addr} {sl26 : Array (Option Value)} {oc26 kV26 dc26 pm26 cd26 ct26 : Value}
    {f27 : Addr} {od27 an27 : Option Addr} {sl27 : Array (Option Value)} {oc27 kV27 dc27 pm27 cd27 ct27 : Value}
    {f28 : Addr} {od28 an28 : Option Addr} {sl28 : Array (Option Value)} {oc28 kV28 dc28 pm28 cd28 ct28 : Value}
    {f29 : Addr} {od29 an29 : Option Addr} {sl29 : Array (Option Value)} {oc29 kV29 dc29 pm29 cd29 ct29 : Value}
    {f30 : Addr} {od30 an30 : Option Addr} {sl30 : Array (Option Value)} {oc30 kV30 dc30 pm30 cd30 ct30 : Value}
    {f31 : Addr} {od31 an31 : Option Addr} {sl31 : Array (Option Value)} {oc31 kV31 dc31 pm31 cd31 ct31 : Value}
    {f32 : Addr} {od32 an32 : Option Addr} {sl32 : Array (Option Value)} {oc32 kV32 dc32 pm32 cd32 ct32 : Value}
    {f33 : Addr} {od33 an33 : Option Addr} {sl33 : Array (Option Value)} {oc33 kV33 dc33 pm33 cd33 ct33 : Value}
    {f34 : Addr} {od34 an34 : Option Addr} {sl34 : Array (Option Value)} {oc34 kV34 dc34 pm34 cd34 ct34 : Value}
    {f35 : Addr} {od35 an35 : Option Addr} {sl35 : Array (Option Value)} {oc35 kV35 dc35 pm35 cd35 ct35 : Value}
    {Td35 : Addr} {td35 : Option Addr} {tc35 : Value} {tn35 : Nat} {ts35 : Array (Option Value)}
    {f36 : Addr} {od36 an36 : Option Addr} {sl36 : Array (Option Value)} {oc36 kV36 dc36 pm36 cd36 ct36 : Value}
    {f37 : Addr} {od37 an37 : Option Addr} {sl37 : Array (Option Value)} {oc37 kV37 dc37 pm37 cd37 ct37 : Value}
    {f38 : Addr} {od38 an38 : Option Addr} {sl38 : Array (Option Value)} {oc38 kV38 dc38 pm38 cd38 ct38 : Value}
    {f39 : Addr} {od39 an39 : Option Addr} {sl39 : Array (Option Value)} {oc39 kV39 dc39 pm39 cd39 ct39 : Value}
    {f40 : Addr} {od40 an40 : Option Addr} {sl40 : Array (Option Value)} {oc40 kV40 dc40 pm40 cd40 ct40 : Value}
    {f41 : Addr} {od41 an41 : Option Addr} {sl41 : Array (Option Value)} {oc41 kV41 dc41 pm41 cd41 ct41 : Value}
    {f42 : Addr} {od42 an42 : Option Addr} {sl42 : Array (Option Value)} {oc42 kV42 dc42 pm42 cd42 ct42 : Value}
    {f43 : Addr} {od43 an43 : Option Addr} {sl43 : Array (Option Value)} {oc43 kV43 dc43 pm43 cd43 ct43 : Value}
    {f44 : Addr} {od44 an44 : Option Addr} {sl44 : Array (Option Value)} {oc44 kV44 dc44 pm44 cd44 ct44 : Value}
    {f45 : Addr} {od45 an45 : Option Addr} {sl45 : Array (Option Value)} {oc45 kV45 dc45 pm45 cd45 ct45 : Value}
    {f46 : Addr} {od46 an46 : Option Addr} {sl46 : Array (Option Value)} {oc46 kV46 dc46 pm46 cd46 ct46 : Value}
    {f47 : Addr} {od47 an47 : Option Addr} {sl47 : Array (Option Value)} {oc47 kV47 dc47 pm47 cd47 ct47 : Value}
    {f48 : Addr} {od48 an48 : Option Addr} {sl48 : Array (Option Value)} {oc48 kV48 dc48 pm48 cd48 ct48 : Value}
    {f49 : Addr} {od49 an49 : Option Addr} {sl49 : Array (Option Value)} {oc49 kV49 dc49 pm49 cd49 ct49 : Value}
    {t_MOST_WORD : Tok}
    {t_MOST_BALLS : Tok}
    {t_MOST_WEIGHT : Tok}
    {nm2 qn2 : String} {Nx2 : Addr} {bs2 sb2 : List Value} {sn2 : List Str} {ab2 : Bool} {co2 : Option Bool} {dd2 : Option Addr} {m0_2 m1_2 m2_2 m3_2 m5_2 : Option Value}
    {nm3 qn3 : String} {Nx3 : Addr} {bs3 sb3 : List Value} {sn3 : List Str} {ab3 : Bool} {co3 : Option Bool} {dd3 : Option Addr} {m0_3 m1_3 m2_3 m3_3 m5_3 : Option Value}
    {nm4 qn4 : String} {Nx4 : Addr} {bs4 sb4 : List Value} {sn4 : List Str} {ab4 : Bool} {co4 : Option Bool} {dd4 : Option Addr} {m0_4 m1_4 m2_4 m3_4 m5_4 : Option Value}
    (X : K.In h) (Gn : h.Ns mainGlobals mg) (hfa : mg "law" = some (.ref la))
    (hH : ∀ (ns : List Int), ns.length ≤ 63 → ∃ cells t, m__law_hand [.rol (ns.map .int)] [] = .ok (handD cells 0 0 t) [] ∧ ∃ st', b_law (some (.rol (ns.map .int)) :: some (.tok 0) :: List.replicate 15 none) [handD cells 0 0 t] = .rt (.bl true) st')
    (ca0 : PySem.W.nsIn K mainGlobals "GapError" = some (some (.ref C0)))
    (ca1 : PySem.W.nsIn K mainGlobals "BadRatio" = some (some (.ref C1)))
    (ca2 : PySem.W.nsIn K mainGlobals "BadRow" = some (some (.ref C2)))
    (ca3 : PySem.W.nsIn K mainGlobals "NoPair" = some (some (.ref C3)))
    (ca4 : PySem.W.nsIn K mainGlobals "BadWord" = some (some (.ref C4)))
    (ca5 : PySem.W.nsIn K mainGlobals "Row" = some (some (.ref C5)))
    (a0 : PySem.W.findIn K (.ref C2) "__init__" = some (some (.ref f0)))
    (l0 : K.lookup f0 = some ⟨oc0, od0, .func (PySem.W.fnOf "__init__" "BadRow.__init__" (defArgs s_BadRow___init__) (defBody s_BadRow___init__) (defScope s_BadRow___init__) .none kV0 dc0 pm0 an0 cd0 ct0), sl0⟩)
    (c0 : PySem.W.codeIn K cd0 "BadRow.__init__" = true)
    (k0 : PySem.W.keepIn K (.ref f0) = true)
    (tI0 : PySem.W.typeIn K (.ref f0) = some (.type "function"))
    (a1 : PySem.W.findIn K (.ref C4) "__init__" = some (some (.ref f1)))
    (l1 : K.lookup f1 = some ⟨oc1, od1, .func (PySem.W.ksFn "__init__" "BadWord.__init__" (defArgs s_BadWord___init__) (defBody s_BadWord___init__) (defScope s_BadWord___init__) .none kV1 dc1 pm1 an1 (.ref da1) ct1 cc1), sl1⟩)
    (c1 : PySem.W.codeIn K (.ref da1) "BadWord.__init__" = true)
    (k1 : PySem.W.keepIn K (.ref f1) = true)
    (tI1 : PySem.W.typeIn K (.ref f1) = some (.type "function"))
    (lc1 : K.lookup cc1 = some ⟨cl1, cld1, .cell (some (.ref C4)), csl1⟩)
    (ld1 : K.lookup da1 = some ⟨dl1, dld1, .fields fv1, dsl1⟩)
    (hv1 : fv1[2]? = some (.str ff1 ft1))
    (hf1 : ((l.prog.main.file : Str) == ff1) = true)
    (al1 : PySem.W.ks_superIn K C4 C4 "__init__" = some (some (.builtin "ValueError.__init__")))
    (ve1 : PySem.W.subIn K (.ref C4) (.type "ValueError") = some true)
    (mr1 : PySem.W.mroIn K C4 (.ref C4) = some true)
    (oq : PySem.W.nsIn K PySem.cStatics "thirdparty.any" = some none)
    (tp : (l.prog.main.scope.names.lookup ("super" : Str)).isSome = false)
    (a2 : PySem.W.findIn K (.ref C3) "__init__" = some (some (.ref f2)))
    (l2 : K.lookup f2 = some ⟨oc2, od2, .func (PySem.W.ksFn "__init__" "NoPair.__init__" (defArgs s_NoPair___init__) (defBody s_NoPair___init__) (defScope s_NoPair___init__) .none kV2 dc2 pm2 an2 (.ref da2) ct2 cc2), sl2⟩)
    (c2 : PySem.W.codeIn K (.ref da2) "NoPair.__init__" = true)
    (k2 : PySem.W.keepIn K (.ref f2) = true)
    (tI2 : PySem.W.typeIn K (.ref f2) = some (.type "function"))
    (lc2 : K.lookup cc2 = some ⟨cl2, cld2, .cell (some (.ref C3)), csl2⟩)
    (ld2 : K.lookup da2 = some ⟨dl2, dld2, .fields fv2, dsl2⟩)
    (hv2 : fv2[2]? = some (.str ff2 ft2))
    (hf2 : ((l.prog.main.file : Str) == ff2) = true)
    (al2 : PySem.W.ks_superIn K C3 C3 "__init__" = some (some (.builtin "ValueError.__init__")))
    (ve2 : PySem.W.subIn K (.ref C3) (.type "ValueError") = some true)
    (mr2 : PySem.W.mroIn K C3 (.ref C3) = some true)
    (a3 : PySem.W.nsIn K mainGlobals "_law_hand" = some (some (.ref f3)))
    (l3 : K.lookup f3 = some ⟨oc3, od3, .func (PySem.W.fnOf "_law_hand" "_law_hand" (defArgs s__law_hand) (defBody s__law_hand) (defScope s__law_hand) .none kV3 dc3 pm3 an3 cd3 ct3), sl3⟩)
    (c3 : PySem.W.codeIn K cd3 "_law_hand" = true)
    (k3 : PySem.W.keepIn K (.ref f3) = true)
    (a4 : PySem.W.nsIn K mainGlobals "_law_is_row" = some (some (.ref f4)))
    (l4 : K.lookup f4 = some ⟨oc4, od4, .func (PySem.W.fnOf "_law_is_row" "_law_is_row" (defArgs s__law_is_row) (defBody s__law_is_row) (defScope s__law_is_row) .none kV4 dc4 pm4 an4 cd4 ct4), sl4⟩)
    (c4 : PySem.W.codeIn K cd4 "_law_is_row" = true)
    (k4 : PySem.W.keepIn K (.ref f4) = true)
    (a5 : PySem.W.nsIn K mainGlobals "_law_less" = some (some (.ref f5)))
    (l5 : K.lookup f5 = some ⟨oc5, od5, .func (PySem.W.fnOf "_law_less" "_law_less" (defArgs s__law_less) (defBody s__law_less) (defScope s__law_less) .none kV5 dc5 pm5 an5 cd5 ct5), sl5⟩)
    (c5 : PySem.W.codeIn K cd5 "_law_less" = true)
    (k5 : PySem.W.keepIn K (.ref f5) = true)
    (a6 : PySem.W.nsIn K mainGlobals "_law_low" = some (some (.ref f6)))
    (l6 : K.lookup f6 = some ⟨oc6, od6, .func (PySem.W.fnOf "_law_low" "_law_low" (defArgs s__law_low) (defBody s__law_low) (defScope s__law_low) .none kV6 dc6 pm6 an6 cd6 ct6), sl6⟩)
    (c6 : PySem.W.codeIn K cd6 "_law_low" = true)
    (k6 : PySem.W.keepIn K (.ref f6) = true)
    (a7 : PySem.W.nsIn K mainGlobals "_law_mix" = some (some (.ref f7)))
    (l7 : K.lookup f7 = some ⟨oc7, od7, .func (PySem.W.fnOf "_law_mix" "_law_mix" (defArgs s__law_mix) (defBody s__law_mix) (defScope s__law_mix) .none kV7 dc7 pm7 an7 cd7 ct7), sl7⟩)
    (c7 : PySem.W.codeIn K cd7 "_law_mix" = true)
    (k7 : PySem.W.keepIn K (.ref f7) = true)
    (a8 : PySem.W.nsIn K mainGlobals "_law_pairs" = some (some (.ref f8)))
    (l8 : K.lookup f8 = some ⟨oc8, od8, .func (PySem.W.fnOf "_law_pairs" "_law_pairs" (defArgs s__law_pairs) (defBody s__law_pairs) (defScope s__law_pairs) .none kV8 dc8 pm8 an8 cd8 ct8), sl8⟩)
    (c8 : PySem.W.codeIn K cd8 "_law_pairs" = true)
    (k8 : PySem.W.keepIn K (.ref f8) = true)
    (a9 : PySem.W.nsIn K mainGlobals "is_whole" = some (some (.ref f9)))
    (l9 : K.lookup f9 = some ⟨oc9, od9, .func (PySem.W.fnOf "is_whole" "is_whole" (defArgs s_is_whole) (defBody s_is_whole) (defScope s_is_whole) .none kV9 dc9 pm9 an9 cd9 ct9), sl9⟩)
    (c9 : PySem.W.codeIn K cd9 "is_whole" = true)
    (k9 : PySem.W.keepIn K (.ref f9) = true)
    (a10 : PySem.W.nsIn K mainGlobals "lowest_terms" = some (some (.ref f10)))
    (l10 : K.lookup f10 = some ⟨oc10, od10, .func (PySem.W.fnOf "lowest_terms" "lowest_terms" (defArgs s_lowest_terms) (defBody s_lowest_terms) (defScope s_lowest_terms) .none kV10 dc10 pm10 an10 cd10 ct10), sl10⟩)
    (c10 : PySem.W.codeIn K cd10 "lowest_terms" = true)
    (k10 : PySem.W.keepIn K (.ref f10) = true)
    (a11 : PySem.W.nsIn K mainGlobals "_law_add" = some (some (.ref f11)))
    (l11 : K.lookup f11 = some ⟨oc11, od11, .func (PySem.W.fnOf "_law_add" "_law_add" (defArgs s__law_add) (defBody s__law_add) (defScope s__law_add) .none kV11 dc11 pm11 an11 cd11 ct11), sl11⟩)
    (c11 : PySem.W.codeIn K cd11 "_law_add" = true)
    (k11 : PySem.W.keepIn K (.ref f11) = true)
    (a12 : PySem.W.nsIn K mainGlobals "_law_div" = some (some (.ref f12)))
    (l12 : K.lookup f12 = some ⟨oc12, od12, .func (PySem.W.fnOf "_law_div" "_law_div" (defArgs s__law_div) (defBody s__law_div) (defScope s__law_div) .none kV12 dc12 pm12 an12 cd12 ct12), sl12⟩)
    (c12 : PySem.W.codeIn K cd12 "_law_div" = true)
    (k12 : PySem.W.keepIn K (.ref f12) = true)
    (a13 : PySem.W.nsIn K mainGlobals "_law_draw" = some (some (.ref f13)))
    (l13 : K.lookup f13 = some ⟨oc13, od13, .func (PySem.W.fnOf "_law_draw" "_law_draw" (defArgs s__law_draw) (defBody s__law_draw) (defScope s__law_draw) .none kV13 dc13 pm13 an13 cd13 ct13), sl13⟩)
    (c13 : PySem.W.codeIn K cd13 "_law_draw" = true)
    (k13 : PySem.W.keepIn K (.ref f13) = true)
    (a14 : PySem.W.nsIn K mainGlobals "_law_falling" = some (some (.ref f14)))
    (l14 : K.lookup f14 = some ⟨oc14, od14, .func (PySem.W.fnOf "_law_falling" "_law_falling" (defArgs s__law_falling) (defBody s__law_falling) (defScope s__law_falling) .none kV14 dc14 pm14 an14 cd14 ct14), sl14⟩)
    (c14 : PySem.W.codeIn K cd14 "_law_falling" = true)
    (k14 : PySem.W.keepIn K (.ref f14) = true)
    (a15 : PySem.W.nsIn K mainGlobals "_law_is_ratio" = some (some (.ref f15)))
    (l15 : K.lookup f15 = some ⟨oc15, od15, .func (PySem.W.fnOf "_law_is_ratio" "_law_is_ratio" (defArgs s__law_is_ratio) (defBody s__law_is_ratio) (defScope s__law_is_ratio) .none kV15 dc15 pm15 an15 cd15 ct15), sl15⟩)
    (c15 : PySem.W.codeIn K cd15 "_law_is_ratio" = true)
    (k15 : PySem.W.keepIn K (.ref f15) = true)
    (a16 : PySem.W.nsIn K mainGlobals "_law_mul" = some (some (.ref f16)))
    (l16 : K.lookup f16 = some ⟨oc16, od16, .func (PySem.W.fnOf "_law_mul" "_law_mul" (defArgs s__law_mul) (defBody s__law_mul) (defScope s__law_mul) .none kV16 dc16 pm16 an16 cd16 ct16), sl16⟩)
    (c16 : PySem.W.codeIn K cd16 "_law_mul" = true)
    (k16 : PySem.W.keepIn K (.ref f16) = true)
    (a17 : PySem.W.nsIn K mainGlobals "_law_sub" = some (some (.ref f17)))
    (l17 : K.lookup f17 = some ⟨oc17, od17, .func (PySem.W.fnOf "_law_sub" "_law_sub" (defArgs s__law_sub) (defBody s__law_sub) (defScope s__law_sub) .none kV17 dc17 pm17 an17 cd17 ct17), sl17⟩)
    (c17 : PySem.W.codeIn K cd17 "_law_sub" = true)
    (k17 : PySem.W.keepIn K (.ref f17) = true)
    (a18 : PySem.W.nsIn K mainGlobals "is_ratio" = some (some (.ref f18)))
    (l18 : K.lookup f18 = some ⟨oc18, od18, .func (PySem.W.fnOf "is_ratio" "is_ratio" (defArgs s_is_ratio) (defBody s_is_ratio) (defScope s_is_ratio) .none kV18 dc18 pm18 an18 cd18 ct18), sl18⟩)
    (c18 : PySem.W.codeIn K cd18 "is_ratio" = true)
    (k18 : PySem.W.keepIn K (.ref f18) = true)
    (a19 : PySem.W.nsIn K mainGlobals "_law_clash" = some (some (.ref f19)))
    (l19 : K.lookup f19 = some ⟨oc19, od19, .func (PySem.W.fnOf "_law_clash" "_law_clash" (defArgs s__law_clash) (defBody s__law_clash) (defScope s__law_clash) .none kV19 dc19 pm19 an19 cd19 ct19), sl19⟩)
    (c19 : PySem.W.codeIn K cd19 "_law_clash" = true)
    (k19 : PySem.W.keepIn K (.ref f19) = true)
    (a20 : PySem.W.nsIn K mainGlobals "_law_closing" = some (some (.ref f20)))
    (l20 : K.lookup f20 = some ⟨oc20, od20, .func (PySem.W.fnOf "_law_closing" "_law_closing" (defArgs s__law_closing) (defBody s__law_closing) (defScope s__law_closing) .none kV20 dc20 pm20 an20 cd20 ct20), sl20⟩)
    (c20 : PySem.W.codeIn K cd20 "_law_closing" = true)
    (k20 : PySem.W.keepIn K (.ref f20) = true)
    (a21 : PySem.W.nsIn K mainGlobals "_law_pick" = some (some (.ref f21)))
    (l21 : K.lookup f21 = some ⟨oc21, od21, .func (PySem.W.fnOf "_law_pick" "_law_pick" (defArgs s__law_pick) (defBody s__law_pick) (defScope s__law_pick) .none kV21 dc21 pm21 an21 cd21 ct21), sl21⟩)
    (c21 : PySem.W.codeIn K cd21 "_law_pick" = true)
    (k21 : PySem.W.keepIn K (.ref f21) = true)
    (a22 : PySem.W.nsIn K mainGlobals "_law_speed" = some (some (.ref f22)))
    (l22 : K.lookup f22 = some ⟨oc22, od22, .func (PySem.W.fnOf "_law_speed" "_law_speed" (defArgs s__law_speed) (defBody s__law_speed) (defScope s__law_speed) .none kV22 dc22 pm22 an22 cd22 ct22), sl22⟩)
    (c22 : PySem.W.codeIn K cd22 "_law_speed" = true)
    (k22 : PySem.W.keepIn K (.ref f22) = true)
    (a23 : PySem.W.nsIn K mainGlobals "_law_sums" = some (some (.ref f23)))
    (l23 : K.lookup f23 = some ⟨oc23, od23, .func (PySem.W.fnOf "_law_sums" "_law_sums" (defArgs s__law_sums) (defBody s__law_sums) (defScope s__law_sums) .none kV23 dc23 pm23 an23 cd23 ct23), sl23⟩)
    (c23 : PySem.W.codeIn K cd23 "_law_sums" = true)
    (k23 : PySem.W.keepIn K (.ref f23) = true)
    (a24 : PySem.W.nsIn K mainGlobals "_law_word" = some (some (.ref f24)))
    (l24 : K.lookup f24 = some ⟨oc24, od24, .func (PySem.W.fnOf "_law_word" "_law_word" (defArgs s__law_word) (defBody s__law_word) (defScope s__law_word) .none kV24 dc24 pm24 an24 cd24 ct24), sl24⟩)
    (c24 : PySem.W.codeIn K cd24 "_law_word" = true)
    (k24 : PySem.W.keepIn K (.ref f24) = true)
    (a25 : PySem.W.nsIn K mainGlobals "check_balls" = some (some (.ref f25)))
    (l25 : K.lookup f25 = some ⟨oc25, od25, .func (PySem.W.fnOf "check_balls" "check_balls" (defArgs s_check_balls) (defBody s_check_balls) (defScope s_check_balls) .none kV25 dc25 pm25 an25 cd25 ct25), sl25⟩)
    (c25 : PySem.W.codeIn K cd25 "check_balls" = true)
    (k25 : PySem.W.keepIn K (.ref f25) = true)
    (a26 : PySem.W.nsIn K mainGlobals "check_pair" = some (some (.ref f26)))
    (l26 : K.lookup f26 = some ⟨oc26, od26, .func (PySem.W.fnOf "check_pair" "check_pair" (defArgs s_check_pair) (defBody s_check_pair) (defScope s_check_pair) .none kV26 dc26 pm26 an26 cd26 ct26), sl26⟩)
    (c26 : PySem.W.codeIn K cd26 "check_pair" = true)
    (k26 : PySem.W.keepIn K (.ref f26) = true)
    (a27 : PySem.W.nsIn K mainGlobals "ratio_of" = some (some (.ref f27)))
    (l27 : K.lookup f27 = some ⟨oc27, od27, .func (PySem.W.fnOf "ratio_of" "ratio_of" (defArgs s_ratio_of) (defBody s_ratio_of) (defScope s_ratio_of) .none kV27 dc27 pm27 an27 cd27 ct27), sl27⟩)
    (c27 : PySem.W.codeIn K cd27 "ratio_of" = true)
    (k27 : PySem.W.keepIn K (.ref f27) = true)
    (a28 : PySem.W.nsIn K mainGlobals "_law_balls" = some (some (.ref f28)))
    (l28 : K.lookup f28 = some ⟨oc28, od28, .func (PySem.W.fnOf "_law_balls" "_law_balls" (defArgs s__law_balls) (defBody s__law_balls) (defScope s__law_balls) .none kV28 dc28 pm28 an28 cd28 ct28), sl28⟩)
    (c28 : PySem.W.codeIn K cd28 "_law_balls" = true)
    (k28 : PySem.W.keepIn K (.ref f28) = true)
    (a29 : PySem.W.nsIn K mainGlobals "_law_comers" = some (some (.ref f29)))
    (l29 : K.lookup f29 = some ⟨oc29, od29, .func (PySem.W.fnOf "_law_comers" "_law_comers" (defArgs s__law_comers) (defBody s__law_comers) (defScope s__law_comers) .none kV29 dc29 pm29 an29 cd29 ct29), sl29⟩)
    (c29 : PySem.W.codeIn K cd29 "_law_comers" = true)
    (k29 : PySem.W.keepIn K (.ref f29) = true)
    (a30 : PySem.W.nsIn K mainGlobals "check_word" = some (some (.ref f30)))
    (l30 : K.lookup f30 = some ⟨oc30, od30, .func (PySem.W.fnOf "check_word" "check_word" (defArgs s_check_word) (defBody s_check_word) (defScope s_check_word) .none kV30 dc30 pm30 an30 cd30 ct30), sl30⟩)
    (c30 : PySem.W.codeIn K cd30 "check_word" = true)
    (k30 : PySem.W.keepIn K (.ref f30) = true)
    (a31 : PySem.W.nsIn K mainGlobals "minus" = some (some (.ref f31)))
    (l31 : K.lookup f31 = some ⟨oc31, od31, .func (PySem.W.fnOf "minus" "minus" (defArgs s_minus) (defBody s_minus) (defScope s_minus) .none kV31 dc31 pm31 an31 cd31 ct31), sl31⟩)
    (c31 : PySem.W.codeIn K cd31 "minus" = true)
    (k31 : PySem.W.keepIn K (.ref f31) = true)
    (a32 : PySem.W.nsIn K mainGlobals "mixed_ratio" = some (some (.ref f32)))
    (l32 : K.lookup f32 = some ⟨oc32, od32, .func (PySem.W.fnOf "mixed_ratio" "mixed_ratio" (defArgs s_mixed_ratio) (defBody s_mixed_ratio) (defScope s_mixed_ratio) .none kV32 dc32 pm32 an32 cd32 ct32), sl32⟩)
    (c32 : PySem.W.codeIn K cd32 "mixed_ratio" = true)
    (k32 : PySem.W.keepIn K (.ref f32) = true)
    (a33 : PySem.W.nsIn K mainGlobals "plus" = some (some (.ref f33)))
    (l33 : K.lookup f33 = some ⟨oc33, od33, .func (PySem.W.fnOf "plus" "plus" (defArgs s_plus) (defBody s_plus) (defScope s_plus) .none kV33 dc33 pm33 an33 cd33 ct33), sl33⟩)
    (c33 : PySem.W.codeIn K cd33 "plus" = true)
    (k33 : PySem.W.keepIn K (.ref f33) = true)
    (a34 : PySem.W.nsIn K mainGlobals "times" = some (some (.ref f34)))
    (l34 : K.lookup f34 = some ⟨oc34, od34, .func (PySem.W.fnOf "times" "times" (defArgs s_times) (defBody s_times) (defScope s_times) .none kV34 dc34 pm34 an34 cd34 ct34), sl34⟩)
    (c34 : PySem.W.codeIn K cd34 "times" = true)
    (k34 : PySem.W.keepIn K (.ref f34) = true)
    (a35 : PySem.W.findIn K (.ref C5) "__init__" = some (some (.ref f35)))
    (l35 : K.lookup f35 = some ⟨oc35, od35, .func (PySem.W.fnOf "__init__" "Row.__init__" (defArgs s_Row___init__) (defBody s_Row___init__) (defScope s_Row___init__) (.ref Td35) kV35 dc35 pm35 an35 cd35 ct35), sl35⟩)
    (c35 : PySem.W.codeIn K cd35 "Row.__init__" = true)
    (k35 : PySem.W.keepIn K (.ref f35) = true)
    (lT35 : K.lookup Td35 = some ⟨tc35, td35, .seq #[.bool false] tn35, ts35⟩)
    (isf35 : PySem.W.isFn K (.ref f35) = true)
    (a36 : PySem.W.nsIn K mainGlobals "_law_any_balls" = some (some (.ref f36)))
    (l36 : K.lookup f36 = some ⟨oc36, od36, .func (PySem.W.fnOf "_law_any_balls" "_law_any_balls" (defArgs s__law_any_balls) (defBody s__law_any_balls) (defScope s__law_any_balls) .none kV36 dc36 pm36 an36 cd36 ct36), sl36⟩)
    (c36 : PySem.W.codeIn K cd36 "_law_any_balls" = true)
    (k36 : PySem.W.keepIn K (.ref f36) = true)
    (a37 : PySem.W.nsIn K mainGlobals "clashed" = some (some (.ref f37)))
    (l37 : K.lookup f37 = some ⟨oc37, od37, .func (PySem.W.fnOf "clashed" "clashed" (defArgs s_clashed) (defBody s_clashed) (defScope s_clashed) .none kV37 dc37 pm37 an37 cd37 ct37), sl37⟩)
    (c37 : PySem.W.codeIn K cd37 "clashed" = true)
    (k37 : PySem.W.keepIn K (.ref f37) = true)
    (a38 : PySem.W.nsIn K mainGlobals "closing_of" = some (some (.ref f38)))
    (l38 : K.lookup f38 = some ⟨oc38, od38, .func (PySem.W.fnOf "closing_of" "closing_of" (defArgs s_closing_of) (defBody s_closing_of) (defScope s_closing_of) .none kV38 dc38 pm38 an38 cd38 ct38), sl38⟩)
    (c38 : PySem.W.codeIn K cd38 "closing_of" = true)
    (k38 : PySem.W.keepIn K (.ref f38) = true)
    (a39 : PySem.W.nsIn K mainGlobals "_law_most_balls" = some (some (.ref f39)))
    (l39 : K.lookup f39 = some ⟨oc39, od39, .func (PySem.W.fnOf "_law_most_balls" "_law_most_balls" (defArgs s__law_most_balls) (defBody s__law_most_balls) (defScope s__law_most_balls) .none kV39 dc39 pm39 an39 cd39 ct39), sl39⟩)
    (c39 : PySem.W.codeIn K cd39 "_law_most_balls" = true)
    (k39 : PySem.W.keepIn K (.ref f39) = true)
    (a40 : PySem.W.nsIn K mainGlobals "closing_speed" = some (some (.ref f40)))
    (l40 : K.lookup f40 = some ⟨oc40, od40, .func (PySem.W.fnOf "closing_speed" "closing_speed" (defArgs s_closing_speed) (defBody s_closing_speed) (defScope s_closing_speed) .none kV40 dc40 pm40 an40 cd40 ct40), sl40⟩)
    (c40 : PySem.W.codeIn K cd40 "closing_speed" = true)
    (k40 : PySem.W.keepIn K (.ref f40) = true)
    (a41 : PySem.W.nsIn K mainGlobals "coming_pairs" = some (some (.ref f41)))
    (l41 : K.lookup f41 = some ⟨oc41, od41, .func (PySem.W.fnOf "coming_pairs" "coming_pairs" (defArgs s_coming_pairs) (defBody s_coming_pairs) (defScope s_coming_pairs) .none kV41 dc41 pm41 an41 cd41 ct41), sl41⟩)
    (c41 : PySem.W.codeIn K cd41 "coming_pairs" = true)
    (k41 : PySem.W.keepIn K (.ref f41) = true)
    (a42 : PySem.W.nsIn K mainGlobals "first_not_coming" = some (some (.ref f42)))
    (l42 : K.lookup f42 = some ⟨oc42, od42, .func (PySem.W.fnOf "first_not_coming" "first_not_coming" (defArgs s_first_not_coming) (defBody s_first_not_coming) (defScope s_first_not_coming) .none kV42 dc42 pm42 an42 cd42 ct42), sl42⟩)
    (c42 : PySem.W.codeIn K cd42 "first_not_coming" = true)
    (k42 : PySem.W.keepIn K (.ref f42) = true)
    (a43 : PySem.W.findIn K (.ref C5) "with_speeds" = some (some (.ref f43)))
    (l43 : K.lookup f43 = some ⟨oc43, od43, .func (PySem.W.fnOf "with_speeds" "Row.with_speeds" (defArgs s_Row_with_speeds) (defBody s_Row_with_speeds) (defScope s_Row_with_speeds) .none kV43 dc43 pm43 an43 cd43 ct43), sl43⟩)
    (c43 : PySem.W.codeIn K cd43 "Row.with_speeds" = true)
    (k43 : PySem.W.keepIn K (.ref f43) = true)
    (isf43 : PySem.W.isFn K (.ref f43) = true)
    (a44 : PySem.W.nsIn K mainGlobals "after_clash" = some (some (.ref f44)))
    (l44 : K.lookup f44 = some ⟨oc44, od44, .func (PySem.W.fnOf "after_clash" "after_clash" (defArgs s_after_clash) (defBody s_after_clash) (defScope s_after_clash) .none kV44 dc44 pm44 an44 cd44 ct44), sl44⟩)
    (c44 : PySem.W.codeIn K cd44 "after_clash" = true)
    (k44 : PySem.W.keepIn K (.ref f44) = true)
    (a45 : PySem.W.nsIn K mainGlobals "after_word" = some (some (.ref f45)))
    (l45 : K.lookup f45 = some ⟨oc45, od45, .func (PySem.W.fnOf "after_word" "after_word" (defArgs s_after_word) (defBody s_after_word) (defScope s_after_word) .none kV45 dc45 pm45 an45 cd45 ct45), sl45⟩)
    (c45 : PySem.W.codeIn K cd45 "after_word" = true)
    (k45 : PySem.W.keepIn K (.ref f45) = true)
    (a46 : PySem.W.nsIn K mainGlobals "_law_fault" = some (some (.ref f46)))
    (l46 : K.lookup f46 = some ⟨oc46, od46, .func (PySem.W.fnOf "_law_fault" "_law_fault" (defArgs s__law_fault) (defBody s__law_fault) (defScope s__law_fault) .none kV46 dc46 pm46 an46 cd46 ct46), sl46⟩)
    (c46 : PySem.W.codeIn K cd46 "_law_fault" = true)
    (k46 : PySem.W.keepIn K (.ref f46) = true)
    (a47 : PySem.W.nsIn K mainGlobals "_law_step_right" = some (some (.ref f47)))
    (l47 : K.lookup f47 = some ⟨oc47, od47, .func (PySem.W.fnOf "_law_step_right" "_law_step_right" (defArgs s__law_step_right) (defBody s__law_step_right) (defScope s__law_step_right) .none kV47 dc47 pm47 an47 cd47 ct47), sl47⟩)
    (c47 : PySem.W.codeIn K cd47 "_law_step_right" = true)
    (k47 : PySem.W.keepIn K (.ref f47) = true)
    (a48 : PySem.W.nsIn K mainGlobals "_law_refusals_right" = some (some (.ref f48)))
    (l48 : K.lookup f48 = some ⟨oc48, od48, .func (PySem.W.fnOf "_law_refusals_right" "_law_refusals_right" (defArgs s__law_refusals_right) (defBody s__law_refusals_right) (defScope s__law_refusals_right) .none kV48 dc48 pm48 an48 cd48 ct48), sl48⟩)
    (c48 : PySem.W.codeIn K cd48 "_law_refusals_right" = true)
    (k48 : PySem.W.keepIn K (.ref f48) = true)
    (a49 : PySem.W.nsIn K mainGlobals "law" = some (some (.ref f49)))
    (l49 : K.lookup f49 = some ⟨oc49, od49, .func (PySem.W.fnOf "law" "law" (defArgs s_law) (defBody s_law) (defScope s_law) .none kV49 dc49 pm49 an49 cd49 ct49), sl49⟩)
    (c49 : PySem.W.codeIn K cd49 "law" = true)
    (k49 : PySem.W.keepIn K (.ref f49) = true)
    (z_abs : PySem.W.nsIn K mainGlobals "abs" = some none)
    (z_bool : PySem.W.nsIn K mainGlobals "bool" = some none)
    (z_enumerate : PySem.W.nsIn K mainGlobals "enumerate" = some none)
    (z_int : PySem.W.nsIn K mainGlobals "int" = some none)
    (z_isinstance : PySem.W.nsIn K mainGlobals "isinstance" = some none)
    (z_len : PySem.W.nsIn K mainGlobals "len" = some none)
    (z_list : PySem.W.nsIn K mainGlobals "list" = some none)
    (z_max : PySem.W.nsIn K mainGlobals "max" = some none)
    (z_min : PySem.W.nsIn K mainGlobals "min" = some none)
    (z_range : PySem.W.nsIn K mainGlobals "range" = some none)
    (z_str : PySem.W.nsIn K mainGlobals "str" = some none)
    (z_super : PySem.W.nsIn K mainGlobals "super" = some none)
    (z_tuple : PySem.W.nsIn K mainGlobals "tuple" = some none)
    (z_zip : PySem.W.nsIn K mainGlobals "zip" = some none)
    (i_gcd : PySem.W.nsIn K mainGlobals "gcd" = some (some (.builtin "math.gcd")))
    (g_MOST_WORD : PySem.W.nsIn K mainGlobals "MOST_WORD" = some (some (.int 800 t_MOST_WORD)))
    (g_MOST_BALLS : PySem.W.nsIn K mainGlobals "MOST_BALLS" = some (some (.int 40 t_MOST_BALLS)))
    (g_MOST_WEIGHT : PySem.W.nsIn K mainGlobals "MOST_WEIGHT" = some (some (.int 9 t_MOST_WEIGHT)))
    (cs0 : PySem.W.subIn K (.ref C0) (.type "BaseException") = some true)
    (ct0_ : PySem.W.typeIn K (.ref C0) = some (.type "type"))
    (ck0 : PySem.W.keepIn K (.ref C0) = true)
    (cd0_ : PySem.W.hasDictIn K C0 = true)
    (cs1 : PySem.W.subIn K (.ref C1) (.type "BaseException") = some true)
    (ct1_ : PySem.W.typeIn K (.ref C1) = some (.type "type"))
    (ck1 : PySem.W.keepIn K (.ref C1) = true)
    (cd1_ : PySem.W.hasDictIn K C1 = true)
    (cs2 : PySem.W.subIn K (.ref C2) (.type "BaseException") = some true)
    (ct2_ : PySem.W.typeIn K (.ref C2) = some (.type "type"))
    (ck2 : PySem.W.keepIn K (.ref C2) = true)
    (cd2_ : PySem.W.hasDictIn K C2 = true)
    (cs3 : PySem.W.subIn K (.ref C3) (.type "BaseException") = some true)
    (ct3_ : PySem.W.typeIn K (.ref C3) = some (.type "type"))
    (ck3 : PySem.W.keepIn K (.ref C3) = true)
    (cd3_ : PySem.W.hasDictIn K C3 = true)
    (cs4 : PySem.W.subIn K (.ref C4) (.type "BaseException") = some true)
    (ct4_ : PySem.W.typeIn K (.ref C4) = some (.type "type"))
    (ck4 : PySem.W.keepIn K (.ref C4) = true)
    (cd4_ : PySem.W.hasDictIn K C4 = true)
    (cx1 : PySem.W.excIn K C1 [.type "ValueError", .type "Exception", .type "BaseException", .type "object"] "ValueError.__new__" = true)
    (xL2 : K.lookup C2 = some (excClassObj nm2 qn2 C2 Nx2 bs2 [.ref C0, .type "ValueError", .type "Exception", .type "BaseException", .type "object"] true sn2 sb2 ab2 co2 dd2 m0_2 m1_2 m2_2 m3_2 m5_2 "ValueError.__new__"))
    (xs2 : PySem.W.findIn K (.ref C2) "__setattr__" = some (some (.builtin "object.__setattr__")))
    (xg2 : PySem.W.findIn K (.ref C2) "__getattribute__" = some (some (.builtin "BaseException.__getattribute__")))
    (xh2 : PySem.W.findIn K (.ref C2) "__getattr__" = some none)
    (xn2_0 : PySem.W.findIn K (.ref C2) "index" = some none)
    (xn2_1 : PySem.W.findIn K (.ref C2) "what" = some none)
    (xL3 : K.lookup C3 = some (excClassObj nm3 qn3 C3 Nx3 bs3 [.ref C0, .type "ValueError", .type "Exception", .type "BaseException", .type "object"] true sn3 sb3 ab3 co3 dd3 m0_3 m1_3 m2_3 m3_3 m5_3 "ValueError.__new__"))
    (xs3 : PySem.W.findIn K (.ref C3) "__setattr__" = some (some (.builtin "object.__setattr__")))
    (xg3 : PySem.W.findIn K (.ref C3) "__getattribute__" = some (some (.builtin "BaseException.__getattribute__")))
    (xh3 : PySem.W.findIn K (.ref C3) "__getattr__" = some none)
    (xn3_0 : PySem.W.findIn K (.ref C3) "pair" = some none)
    (xL4 : K.lookup C4 = some (excClassObj nm4 qn4 C4 Nx4 bs4 [.ref C0, .type "ValueError", .type "Exception", .type "BaseException", .type "object"] true sn4 sb4 ab4 co4 dd4 m0_4 m1_4 m2_4 m3_4 m5_4 "ValueError.__new__"))
    (xs4 : PySem.W.findIn K (.ref C4) "__setattr__" = some (some (.builtin "object.__setattr__")))
    (xg4 : PySem.W.findIn K (.ref C4) "__getattribute__" = some (some (.builtin "BaseException.__getattribute__")))
    (xh4 : PySem.W.findIn K (.ref C4) "__getattr__" = some none)
    (xn4_0 : PySem.W.findIn K (.ref C4) "index" = some none)
    (xn4_1 : PySem.W.findIn K (.ref C4) "what" = some none)
    (s1_4 : PySem.W.subIn K (.ref C1) (.ref C4) = some false)
    (s2_4 : PySem.W.subIn K (.ref C2) (.ref C4) = some false)
    (s3_4 : PySem.W.subIn K (.ref C3) (.ref C4) = some false)
    (s4_4 : PySem.W.subIn K (.ref C4) (.ref C4) = some true)
    (s1_3 : PySem.W.subIn K (.ref C1) (.ref C3) = some false)
    (s2_3 : PySem.W.subIn K (.ref C2) (.ref C3) = some false)
    (s3_3 : PySem.W.subIn K (.ref C3) (.ref C3) = some true)
    (s4_3 : PySem.W.subIn K (.ref C4) (.ref C3) = some false)
    (xc4 : DL.excB K C4 = true)
    (xk4_0 : PySem.W.kitOne K (.ref C4) (.ref C0) = some true)
    (xk4_3F : PySem.W.kitOne K (.ref C4) (.ref C3) = some false)
    (xc3 : DL.excB K C3 = true)
    (xk3_4F : PySem.W.kitOne K (.ref C3) (.ref C4) = some false)
    (xk3_0 : PySem.W.kitOne K (.ref C3) (.ref C0) = some true)
    (wS : PySem.W.specialIn K (.builtin "object.__class__") "__get__" = some (some (.builtin "getset_descriptor.__get__")))
    (wT : PySem.W.takesIn K (.builtin "object.__class__") = some true)
    (wg5 : PySem.W.plainGet K C5 Str.empty = true)
    (wd5 : PySem.W.hasDictIn K C5 = true)
    (wo5 : PySem.W.plainOver K C5 = true)
    (wa5 : PySem.W.findIn K (.ref C5) "__setattr__" = some (some (.builtin "object.__setattr__")))
    (wm5 : PySem.W.makesIn K C5 = true)
    (wk5 : PySem.W.keepIn K (.ref C5) = true)
    (wc5 : PySem.W.findIn K (.ref C5) "__class__" = some (some (.builtin "object.__class__")))
    (wr5 : PySem.W.mroIn K C5 (.type "object") = some true)
    (wi5 : PySem.W.isClsIn K C5 = true)
    (wy5 : PySem.W.typeIn K (.ref C5) = some (.type "type"))
    (wn5_0 : PySem.W.findIn K (.ref C5) "weights" = some none)
    (wn5_1 : PySem.W.findIn K (.ref C5) "speeds" = some none)
    (wn5_2 : PySem.W.findIn K (.ref C5) "wall" = some none)
    (wn5_3 : PySem.W.findIn K (.ref C5) "pairs" = some none)
    (wn5_4 : PySem.W.findIn K (.ref C5) "gap_count" = some none)
    (wn5_5 : PySem.W.findIn K (.ref C5) "is_like" = some none)
    (wn5_6 : PySem.W.findIn K (.ref C5) "first_sum" = some none)
    (wn5_7 : PySem.W.findIn K (.ref C5) "second_sum" = some none)
    (wt5_NoneType : PySem.W.subIn K (.type "NoneType") (.ref C5) = some false)
    (wt5_bool : PySem.W.subIn K (.type "bool") (.ref C5) = some false)
    (wt5_int : PySem.W.subIn K (.type "int") (.ref C5) = some false)
    (wt5_str : PySem.W.subIn K (.type "str") (.ref C5) = some false)
    (wt5_tuple : PySem.W.subIn K (.type "tuple") (.ref C5) = some false)
    (wt5_list : PySem.W.subIn K (.type "list") (.ref C5) = some false)
    (wt5_5 : PySem.W.subIn K (.ref C5) (.ref C5) = some true) :
    ∃ fd : FuncData, (∀ (s : Shared) (v : Value), BindsTo s fd ⟨[v], []⟩ [("_law_script", v)]) ∧ ∀ base : Heap, K.In base → base.Ns mainGlobals mg → FnOk l.prog w K mg base (L2.CX l.prog w) 11 la fd ["_law_script"] (spLaw K) := by
  have e := hfa.symm.trans (PySem.W.mg_of X Gn a49)
  have ela : la = f49 := by injection (Option.some.inj e)
  obtain ⟨G, hG⟩ : ∃ G : Glb, G = ⟨K, fun n => match n with | 0 => C0 | 1 => C1 | 2 => C2 | 3 => C3 | 4 => C4 | 5 => C5 | _ => 0⟩ := ⟨_, rfl⟩
  obtain ⟨fa, hfa'⟩ : ∃ fa : Nat → Addr, fa = fun n => match n with | 0 => f0 | 1 => f1 | 2 => f2 | 3 => f3 | 4 => f4 | 5 => f5 | 6 => f6 | 7 => f7 | 8 => f8 | 9 => f9 | 10 => f10 | 11 => f11 | 12 => f12 | 13 => f13 | 14 => f14 | 15 => f15 | 16 => f16 | 17 => f17 | 18 => f18 | 19 => f19 | 20 => f20 | 21 => f21 | 22 => f22 | 23 => f23 | 24 => f24 | 25 => f25 | 26 => f26 | 27 => f27 | 28 => f28 | 29 => f29 | 30 => f30 | 31 => f31 | 32 => f32 | 33 => f33 | 34 => f34 | 35 => f35 | 36 => f36 | 37 => f37 | 38 => f38 | 39 => f39 | 40 => f40 | 41 => f41 | 42 => f42 | 43 => f43 | 44 => f44 | 45 => f45 | 46 => f46 | 47 => f47 | 48 => f48 | 49 => f49 | _ => 0 := ⟨_, rfl⟩
  obtain ⟨fd, hfd⟩ : ∃ fd : Nat → FuncData, fd = fun n => match n with | 0 => PySem.W.fnOf "__init__" "BadRow.__init__" (defArgs s_BadRow___init__) (defBody s_BadRow___init__) (defScope s_BadRow___init__) .none kV0 dc0 pm0 an0 cd0 ct0 | 1 => PySem.W.ksFn "__init__" "BadWord.__init__" (defArgs s_BadWord___init__) (defBody s_BadWord___init__) (defScope s_BadWord___init__) .none kV1 dc1 pm1 an1 (.ref da1) ct1 cc1 | 2 => PySem.W.ksFn "__init__" "NoPair.__init__" (defArgs s_NoPair___init__) (defBody s_NoPair___init__) (defScope s_NoPair___init__) .none kV2 dc2 pm2 an2 (.ref da2) ct2 cc2 | 3 => PySem.W.fnOf "_law_hand" "_law_hand" (defArgs s__law_hand) (defBody s__law_hand) (defScope s__law_hand) .none kV3 dc3 pm3 an3 cd3 ct3 | 4 => PySem.W.fnOf "_law_is_row" "_law_is_row" (defArgs s__law_is_row) (defBody s__law_is_row) (defScope s__law_is_row) .none kV4 dc4 pm4 an4 cd4 ct4 | 5 => PySem.W.fnOf "_law_less" "_law_less" (defArgs s__law_less) (defBody s__law_less) (defScope s__law_less) .none kV5 dc5 pm5 an5 cd5 ct5 | 6 => PySem.W.fnOf "_law_low" "_law_low" (defArgs s__law_low) (defBody s__law_low) (defScope s__law_low) .none kV6 dc6 pm6 an6 cd6 ct6 | 7 => PySem.W.fnOf "_law_mix" "_law_mix" (defArgs s__law_mix) (defBody s__law_mix) (defScope s__law_mix) .none kV7 dc7 pm7 an7 cd7 ct7 | 8 => PySem.W.fnOf "_law_pairs" "_law_pairs" (defArgs s__law_pairs) (defBody s__law_pairs) (defScope s__law_pairs) .none kV8 dc8 pm8 an8 cd8 ct8 | 9 => PySem.W.fnOf "is_whole" "is_whole" (defArgs s_is_whole) (defBody s_is_whole) (defScope s_is_whole) .none kV9 dc9 pm9 an9 cd9 ct9 | 10 => PySem.W.fnOf "lowest_terms" "lowest_terms" (defArgs s_lowest_terms) (defBody s_lowest_terms) (defScope s_lowest_terms) .none kV10 dc10 pm10 an10 cd10 ct10 | 11 => PySem.W.fnOf "_law_add" "_law_add" (defArgs s__law_add) (defBody s__law_add) (defScope s__law_add) .none kV11 dc11 pm11 an11 cd11 ct11 | 12 => PySem.W.fnOf "_law_div" "_law_div" (defArgs s__law_div) (defBody s__law_div) (defScope s__law_div) .none kV12 dc12 pm12 an12 cd12 ct12 | 13 => PySem.W.fnOf "_law_draw" "_law_draw" (defArgs s__law_draw) (defBody s__law_draw) (defScope s__law_draw) .none kV13 dc13 pm13 an13 cd13 ct13 | 14 => PySem.W.fnOf "_law_falling" "_law_falling" (defArgs s__law_falling) (defBody s__law_falling) (defScope s__law_falling) .none kV14 dc14 pm14 an14 cd14 ct14 | 15 => PySem.W.fnOf "_law_is_ratio" "_law_is_ratio" (defArgs s__law_is_ratio) (defBody s__law_is_ratio) (defScope s__law_is_ratio) .none kV15 dc15 pm15 an15 cd15 ct15 | 16 => PySem.W.fnOf "_law_mul" "_law_mul" (defArgs s__law_mul) (defBody s__law_mul) (defScope s__law_mul) .none kV16 dc16 pm16 an16 cd16 ct16 | 17 => PySem.W.fnOf "_law_sub" "_law_sub" (defArgs s__law_sub) (defBody s__law_sub) (defScope s__law_sub) .none kV17 dc17 pm17 an17 cd17 ct17 | 18 => PySem.W.fnOf "is_ratio" "is_ratio" (defArgs s_is_ratio) (defBody s_is_ratio) (defScope s_is_ratio) .none kV18 dc18 pm18 an18 cd18 ct18 | 19 => PySem.W.fnOf "_law_clash" "_law_clash" (defArgs s__law_clash) (defBody s__law_clash) (defScope s__law_clash) .none kV19 dc19 pm19 an19 cd19 ct19 | 20 => PySem.W.fnOf "_law_closing" "_law_closing" (defArgs s__law_closing) (defBody s__law_closing) (defScope s__law_closing) .none kV20 dc20 pm20 an20 cd20 ct20 | 21 => PySem.W.fnOf "_law_pick" "_law_pick" (defArgs s__law_pick) (defBody s__law_pick) (defScope s__law_pick) .none kV21 dc21 pm21 an21 cd21 ct21 | 22 => PySem.W.fnOf "_law_speed" "_law_speed" (defArgs s__law_speed) (defBody s__law_speed) (defScope s__law_speed) .none kV22 dc22 pm22 an22 cd22 ct22 | 23 => PySem.W.fnOf "_law_sums" "_law_sums" (defArgs s__law_sums) (defBody s__law_sums) (defScope s__law_sums) .none kV23 dc23 pm23 an23 cd23 ct23 | 24 => PySem.W.fnOf "_law_word" "_law_word" (defArgs s__law_word) (defBody s__law_word) (defScope s__law_word) .none kV24 dc24 pm24 an24 cd24 ct24 | 25 => PySem.W.fnOf "check_balls" "check_balls" (defArgs s_check_balls) (defBody s_check_balls) (defScope s_check_balls) .none kV25 dc25 pm25 an25 cd25 ct25 | 26 => PySem.W.fnOf "check_pair" "check_pair" (defArgs s_check_pair) (defBody s_check_pair) (defScope s_check_pair) .none kV26 dc26 pm26 an26 cd26 ct26 | 27 => PySem.W.fnOf "ratio_of" "ratio_of" (defArgs s_ratio_of) (defBody s_ratio_of) (defScope s_ratio_of) .none kV27 dc27 pm27 an27 cd27 ct27 | 28 => PySem.W.fnOf "_law_balls" "_law_balls" (defArgs s__law_balls) (defBody s__law_balls) (defScope s__law_balls) .none kV28 dc28 pm28 an28 cd28 ct28 | 29 => PySem.W.fnOf "_law_comers" "_law_comers" (defArgs s__law_comers) (defBody s__law_comers) (defScope s__law_comers) .none kV29 dc29 pm29 an29 cd29 ct29 | 30 => PySem.W.fnOf "check_word" "check_word" (defArgs s_check_word) (defBody s_check_word) (defScope s_check_word) .none kV30 dc30 pm30 an30 cd30 ct30 | 31 => PySem.W.fnOf "minus" "minus" (defArgs s_minus) (defBody s_minus) (defScope s_minus) .none kV31 dc31 pm31 an31 cd31 ct31 | 32 => PySem.W.fnOf "mixed_ratio" "mixed_ratio" (defArgs s_mixed_ratio) (defBody s_mixed_ratio) (defScope s_mixed_ratio) .none kV32 dc32 pm32 an32 cd32 ct32 | 33 => PySem.W.fnOf "plus" "plus" (defArgs s_plus) (defBody s_plus) (defScope s_plus) .none kV33 dc33 pm33 an33 cd33 ct33 | 34 => PySem.W.fnOf "times" "times" (defArgs s_times) (defBody s_times) (defScope s_times) .none kV34 dc34 pm34 an34 cd34 ct34 | 35 => PySem.W.fnOf "__init__" "Row.__init__" (defArgs s_Row___init__) (defBody s_Row___init__) (defScope s_Row___init__) (.ref Td35) kV35 dc35 pm35 an35 cd35 ct35 | 36 => PySem.W.fnOf "_law_any_balls" "_law_any_balls" (defArgs s__law_any_balls) (defBody s__law_any_balls) (defScope s__law_any_balls) .none kV36 dc36 pm36 an36 cd36 ct36 | 37 => PySem.W.fnOf "clashed" "clashed" (defArgs s_clashed) (defBody s_clashed) (defScope s_clashed) .none kV37 dc37 pm37 an37 cd37 ct37 | 38 => PySem.W.fnOf "closing_of" "closing_of" (defArgs s_closing_of) (defBody s_closing_of) (defScope s_closing_of) .none kV38 dc38 pm38 an38 cd38 ct38 | 39 => PySem.W.fnOf "_law_most_balls" "_law_most_balls" (defArgs s__law_most_balls) (defBody s__law_most_balls) (defScope s__law_most_balls) .none kV39 dc39 pm39 an39 cd39 ct39 | 40 => PySem.W.fnOf "closing_speed" "closing_speed" (defArgs s_closing_speed) (defBody s_closing_speed) (defScope s_closing_speed) .none kV40 dc40 pm40 an40 cd40 ct40 | 41 => PySem.W.fnOf "coming_pairs" "coming_pairs" (defArgs s_coming_pairs) (defBody s_coming_pairs) (defScope s_coming_pairs) .none kV41 dc41 pm41 an41 cd41 ct41 | 42 => PySem.W.fnOf "first_not_coming" "first_not_coming" (defArgs s_first_not_coming) (defBody s_first_not_coming) (defScope s_first_not_coming) .none kV42 dc42 pm42 an42 cd42 ct42 | 43 => PySem.W.fnOf "with_speeds" "Row.with_speeds" (defArgs s_Row_with_speeds) (defBody s_Row_with_speeds) (defScope s_Row_with_speeds) .none kV43 dc43 pm43 an43 cd43 ct43 | 44 => PySem.W.fnOf "after_clash" "after_clash" (defArgs s_after_clash) (defBody s_after_clash) (defScope s_after_clash) .none kV44 dc44 pm44 an44 cd44 ct44 | 45 => PySem.W.fnOf "after_word" "after_word" (defArgs s_after_word) (defBody s_after_word) (defScope s_after_word) .none kV45 dc45 pm45 an45 cd45 ct45 | 46 => PySem.W.fnOf "_law_fault" "_law_fault" (defArgs s__law_fault) (defBody s__law_fault) (defScope s__law_fault) .none kV46 dc46 pm46 an46 cd46 ct46 | 47 => PySem.W.fnOf "_law_step_right" "_law_step_right" (defArgs s__law_step_right) (defBody s__law_step_right) (defScope s__law_step_right) .none kV47 dc47 pm47 an47 cd47 ct47 | 48 => PySem.W.fnOf "_law_refusals_right" "_law_refusals_right" (defArgs s__law_refusals_right) (defBody s__law_refusals_right) (defScope s__law_refusals_right) .none kV48 dc48 pm48 an48 cd48 ct48 | 49 => PySem.W.fnOf "law" "law" (defArgs s_law) (defBody s_law) (defScope s_law) .none kV49 dc49 pm49 an49 cd49 ct49 | _ => PySem.W.fnOf "__init__" "BadRow.__init__" (defArgs s_BadRow___init__) (defBody s_BadRow___init__) (defScope s_BadRow___init__) .none kV0 dc0 pm0 an0 cd0 ct0 := ⟨_, rfl⟩
  have T : Txt l.prog G mg fa fd := by
    subst hG hfa' hfd
    exact
      { g_GapError := PySem.W.mg_of X Gn ca0,
        g_BadRatio := PySem.W.mg_of X Gn ca1,
        g_BadRow := PySem.W.mg_of X Gn ca2,
        g_NoPair := PySem.W.mg_of X Gn ca3,
        g_BadWord := PySem.W.mg_of X Gn ca4,
        g_Row := PySem.W.mg_of X Gn ca5,
        d_BadRow___init__ := ⟨(fun_mk (st := s_BadRow___init__) l0 c0 k0), (Fun.binds (fun_mk (st := s_BadRow___init__) l0 c0 k0) fun _ _ _ _ _ _ us hl => match us, hl with | [_, _, _], _ => rfl)⟩,
        d_BadWord___init__ := ⟨(funS_mk (st := s_BadWord___init__) l1 c1 k1 lc1 ld1 hv1 hf1), FunS.binds (funS_mk (st := s_BadWord___init__) l1 c1 k1 lc1 ld1 hv1 hf1) fun _ _ _ _ _ _ _ us hl => match us, hl with | [_, _, _], _ => rfl⟩,
        u_BadWord := ⟨⟨⟨_, _, _, _, _, _, _, _, _, _, _, _, _, _, _, xL4, by first | rfl | decide +kernel⟩, xs4, cs4, ct4_, ck4⟩, al1, ve1, mr1, oq, PySem.W.mg_none_of X Gn z_super, tp⟩,
        d_NoPair___init__ := ⟨(funS_mk (st := s_NoPair___init__) l2 c2 k2 lc2 ld2 hv2 hf2), FunS.binds (funS_mk (st := s_NoPair___init__) l2 c2 k2 lc2 ld2 hv2 hf2) fun _ _ _ _ _ _ _ us hl => match us, hl with | [_, _], _ => rfl⟩,
        u_NoPair := ⟨⟨⟨_, _, _, _, _, _, _, _, _, _, _, _, _, _, _, xL3, by first | rfl | decide +kernel⟩, xs3, cs3, ct3_, ck3⟩, al2, ve2, mr2, oq, PySem.W.mg_none_of X Gn z_super, tp⟩,
        d__law_hand := DefOk.mk' (fun_mk (st := s__law_hand) l3 c3 k3) (PySem.W.mg_of X Gn a3) (Fun.binds (fun_mk (st := s__law_hand) l3 c3 k3) fun _ _ _ _ _ _ us hl => match us, hl with | [_], _ => rfl),
        d__law_is_row := DefOk.mk' (fun_mk (st := s__law_is_row) l4 c4 k4) (PySem.W.mg_of X Gn a4) (Fun.binds (fun_mk (st := s__law_is_row) l4 c4 k4) fun _ _ _ _ _ _ us hl => match us, hl with | [_, _, _], _ => rfl),
        d__law_less := DefOk.mk' (fun_mk (st := s__law_less) l5 c5 k5) (PySem.W.mg_of X Gn a5) (Fun.binds (fun_mk (st := s__law_less) l5 c5 k5) fun _ _ _ _ _ _ us hl => match us, hl with | [_, _], _ => rfl),
        d__law_low := DefOk.mk' (fun_mk (st := s__law_low) l6 c6 k6) (PySem.W.mg_of X Gn a6) (Fun.binds (fun_mk (st := s__law_low) l6 c6 k6) fun _ _ _ _ _ _ us hl => match us, hl with | [_, _], _ => rfl),
        d__law_mix := DefOk.mk' (fun_mk (st := s__law_mix) l7 c7 k7) (PySem.W.mg_of X Gn a7) (Fun.binds (fun_mk (st := s__law_mix) l7 c7 k7) fun _ _ _ _ _ _ us hl => match us, hl with | [_, _], _ => rfl),
        d__law_pairs := DefOk.mk' (fun_mk (st := s__law_pairs) l8 c8 k8) (PySem.W.mg_of X Gn a8) (Fun.binds (fun_mk (st := s__law_pairs) l8 c8 k8) fun _ _ _ _ _ _ us hl => match us, hl with | [_], _ => rfl),
        d_is_whole := DefOk.mk' (fun_mk (st := s_is_whole) l9 c9 k9) (PySem.W.mg_of X Gn a9) (Fun.binds (fun_mk (st := s_is_whole) l9 c9 k9) fun _ _ _ _ _ _ us hl => match us, hl with | [_], _ => rfl),
        d_lowest_terms := DefOk.mk' (fun_mk (st := s_lowest_terms) l10 c10 k10) (PySem.W.mg_of X Gn a10) (Fun.binds (fun_mk (st := s_lowest_terms) l10 c10 k10) fun _ _ _ _ _ _ us hl => match us, hl with | [_, _], _ => rfl),
        d__law_add := DefOk.mk' (fun_mk (st := s__law_add) l11 c11 k11) (PySem.W.mg_of X Gn a11) (Fun.binds (fun_mk (st := s__law_add) l11 c11 k11) fun _ _ _ _ _ _ us hl => match us, hl with | [_, _], _ => rfl),
        d__law_div := DefOk.mk' (fun_mk (st := s__law_div) l12 c12 k12) (PySem.W.mg_of X Gn a12) (Fun.binds (fun_mk (st := s__law_div) l12 c12 k12) fun _ _ _ _ _ _ us hl => match us, hl with | [_, _], _ => rfl),
        d__law_draw := DefOk.mk' (fun_mk (st := s__law_draw) l13 c13 k13) (PySem.W.mg_of X Gn a13) (Fun.binds (fun_mk (st := s__law_draw) l13 c13 k13) fun _ _ _ _ _ _ us hl => match us, hl with | [_, _], _ => rfl),
        d__law_falling := DefOk.mk' (fun_mk (st := s__law_falling) l14 c14 k14) (PySem.W.mg_of X Gn a14) (Fun.binds (fun_mk (st := s__law_falling) l14 c14 k14) fun _ _ _ _ _ _ us hl => match us, hl with | [_], _ => rfl),
        d__law_is_ratio := DefOk.mk' (fun_mk (st := s__law_is_ratio) l15 c15 k15) (PySem.W.mg_of X Gn a15) (Fun.binds (fun_mk (st := s__law_is_ratio) l15 c15 k15) fun _ _ _ _ _ _ us hl => match us, hl with | [_], _ => rfl),
        d__law_mul := DefOk.mk' (fun_mk (st := s__law_mul) l16 c16 k16) (PySem.W.mg_of X Gn a16) (Fun.binds (fun_mk (st := s__law_mul) l16 c16 k16) fun _ _ _ _ _ _ us hl => match us, hl with | [_, _], _ => rfl),
        d__law_sub := DefOk.mk' (fun_mk (st := s__law_sub) l17 c17 k17) (PySem.W.mg_of X Gn a17) (Fun.binds (fun_mk (st := s__law_sub) l17 c17 k17) fun _ _ _ _ _ _ us hl => match us, hl with | [_, _], _ => rfl),
        d_is_ratio := DefOk.mk' (fun_mk (st := s_is_ratio) l18 c18 k18) (PySem.W.mg_of X Gn a18) (Fun.binds (fun_mk (st := s_is_ratio) l18 c18 k18) fun _ _ _ _ _ _ us hl => match us, hl with | [_], _ => rfl),
        d__law_clash := DefOk.mk' (fun_mk (st := s__law_clash) l19 c19 k19) (PySem.W.mg_of X Gn a19) (Fun.binds (fun_mk (st := s__law_clash) l19 c19 k19) fun _ _ _ _ _ _ us hl => match us, hl with | [_, _, _], _ => rfl),
        d__law_closing := DefOk.mk' (fun_mk (st := s__law_closing) l20 c20 k20) (PySem.W.mg_of X Gn a20) (Fun.binds (fun_mk (st := s__law_closing) l20 c20 k20) fun _ _ _ _ _ _ us hl => match us, hl with | [_, _], _ => rfl),
        d__law_pick := DefOk.mk' (fun_mk (st := s__law_pick) l21 c21 k21) (PySem.W.mg_of X Gn a21) (Fun.binds (fun_mk (st := s__law_pick) l21 c21 k21) fun _ _ _ _ _ _ us hl => match us, hl with | [_, _], _ => rfl),
        d__law_speed := DefOk.mk' (fun_mk (st := s__law_speed) l22 c22 k22) (PySem.W.mg_of X Gn a22) (Fun.binds (fun_mk (st := s__law_speed) l22 c22 k22) fun _ _ _ _ _ _ us hl => match us, hl with | [_, _], _ => rfl),
        d__law_sums := DefOk.mk' (fun_mk (st := s__law_sums) l23 c23 k23) (PySem.W.mg_of X Gn a23) (Fun.binds (fun_mk (st := s__law_sums) l23 c23 k23) fun _ _ _ _ _ _ us hl => match us, hl with | [_, _], _ => rfl),
        d__law_word := DefOk.mk' (fun_mk (st := s__law_word) l24 c24 k24) (PySem.W.mg_of X Gn a24) (Fun.binds (fun_mk (st := s__law_word) l24 c24 k24) fun _ _ _ _ _ _ us hl => match us, hl with | [_, _, _], _ => rfl),
        d_check_balls := DefOk.mk' (fun_mk (st := s_check_balls) l25 c25 k25) (PySem.W.mg_of X Gn a25) (Fun.binds (fun_mk (st := s_check_balls) l25 c25 k25) fun _ _ _ _ _ _ us hl => match us, hl with | [_, _, _], _ => rfl),
        d_check_pair := DefOk.mk' (fun_mk (st := s_check_pair) l26 c26 k26) (PySem.W.mg_of X Gn a26) (Fun.binds (fun_mk (st := s_check_pair) l26 c26 k26) fun _ _ _ _ _ _ us hl => match us, hl with | [_, _], _ => rfl),
        d_ratio_of := DefOk.mk' (fun_mk (st := s_ratio_of) l27 c27 k27) (PySem.W.mg_of X Gn a27) (Fun.binds (fun_mk (st := s_ratio_of) l27 c27 k27) fun _ _ _ _ _ _ us hl => match us, hl with | [_], _ => rfl),
        d__law_balls := DefOk.mk' (fun_mk (st := s__law_balls) l28 c28 k28) (PySem.W.mg_of X Gn a28) (Fun.binds (fun_mk (st := s__law_balls) l28 c28 k28) fun _ _ _ _ _ _ us hl => match us, hl with | [_, _, _], _ => rfl),
        d__law_comers := DefOk.mk' (fun_mk (st := s__law_comers) l29 c29 k29) (PySem.W.mg_of X Gn a29) (Fun.binds (fun_mk (st := s__law_comers) l29 c29 k29) fun _ _ _ _ _ _ us hl => match us, hl with | [_, _], _ => rfl),
        d_check_word := DefOk.mk' (fun_mk (st := s_check_word) l30 c30 k30) (PySem.W.mg_of X Gn a30) (Fun.binds (fun_mk (st := s_check_word) l30 c30 k30) fun _ _ _ _ _ _ us hl => match us, hl with | [_, _], _ => rfl),
        d_minus := DefOk.mk' (fun_mk (st := s_minus) l31 c31 k31) (PySem.W.mg_of X Gn a31) (Fun.binds (fun_mk (st := s_minus) l31 c31 k31) fun _ _ _ _ _ _ us hl => match us, hl with | [_, _], _ => rfl),
        d_mixed_ratio := DefOk.mk' (fun_mk (st := s_mixed_ratio) l32 c32 k32) (PySem.W.mg_of X Gn a32) (Fun.binds (fun_mk (st := s_mixed_ratio) l32 c32 k32) fun _ _ _ _ _ _ us hl => match us, hl with | [_, _, _, _, _], _ => rfl),
        d_plus := DefOk.mk' (fun_mk (st := s_plus) l33 c33 k33) (PySem.W.mg_of X Gn a33) (Fun.binds (fun_mk (st := s_plus) l33 c33 k33) fun _ _ _ _ _ _ us hl => match us, hl with | [_, _], _ => rfl),
        d_times := DefOk.mk' (fun_mk (st := s_times) l34 c34 k34) (PySem.W.mg_of X Gn a34) (Fun.binds (fun_mk (st := s_times) l34 c34 k34) fun _ _ _ _ _ _ us hl => match us, hl with | [_, _], _ => rfl),
        d_Row___init__ := ⟨(funD_mk (st := s_Row___init__) (dvs := [.bl false]) (its := [_]) l35 c35 k35 lT35 rfl (by simp) (.cons rfl .nil)), PySem.W.mg_of X Gn ca5, ⟨wm5, a35, isf35, wk5⟩, fun j hj => match j, hj with | 0, _ => (FunD.binds1 (funD_mk (st := s_Row___init__) (dvs := [.bl false]) (its := [_]) l35 c35 k35 lT35 rfl (by simp) (.cons rfl .nil)) 3 0 (by simp) rfl fun _ _ _ _ _ _ _ us its h1 h2 => match us, h1, its, h2 with | [_, _, _], _, [_], _ => ⟨_, rfl, rfl⟩) | 1, _ => (FunD.binds1 (funD_mk (st := s_Row___init__) (dvs := [.bl false]) (its := [_]) l35 c35 k35 lT35 rfl (by simp) (.cons rfl .nil)) 4 1 (by simp) rfl fun _ _ _ _ _ _ _ us its h1 h2 => match us, h1, its, h2 with | [_, _, _, _], _, [_], _ => ⟨_, rfl, rfl⟩)⟩,
        d__law_any_balls := DefOk.mk' (fun_mk (st := s__law_any_balls) l36 c36 k36) (PySem.W.mg_of X Gn a36) (Fun.binds (fun_mk (st := s__law_any_balls) l36 c36 k36) fun _ _ _ _ _ _ us hl => match us, hl with | [_], _ => rfl),
        d_clashed := DefOk.mk' (fun_mk (st := s_clashed) l37 c37 k37) (PySem.W.mg_of X Gn a37) (Fun.binds (fun_mk (st := s_clashed) l37 c37 k37) fun _ _ _ _ _ _ us hl => match us, hl with | [_, _, _], _ => rfl),
        d_closing_of := DefOk.mk' (fun_mk (st := s_closing_of) l38 c38 k38) (PySem.W.mg_of X Gn a38) (Fun.binds (fun_mk (st := s_closing_of) l38 c38 k38) fun _ _ _ _ _ _ us hl => match us, hl with | [_, _], _ => rfl),
        d__law_most_balls := DefOk.mk' (fun_mk (st := s__law_most_balls) l39 c39 k39) (PySem.W.mg_of X Gn a39) (Fun.binds (fun_mk (st := s__law_most_balls) l39 c39 k39) fun _ _ _ _ _ _ us hl => match us, hl with | [_], _ => rfl),
        d_closing_speed := DefOk.mk' (fun_mk (st := s_closing_speed) l40 c40 k40) (PySem.W.mg_of X Gn a40) (Fun.binds (fun_mk (st := s_closing_speed) l40 c40 k40) fun _ _ _ _ _ _ us hl => match us, hl with | [_, _], _ => rfl),
        d_coming_pairs := DefOk.mk' (fun_mk (st := s_coming_pairs) l41 c41 k41) (PySem.W.mg_of X Gn a41) (Fun.binds (fun_mk (st := s_coming_pairs) l41 c41 k41) fun _ _ _ _ _ _ us hl => match us, hl with | [_], _ => rfl),
        d_first_not_coming := DefOk.mk' (fun_mk (st := s_first_not_coming) l42 c42 k42) (PySem.W.mg_of X Gn a42) (Fun.binds (fun_mk (st := s_first_not_coming) l42 c42 k42) fun _ _ _ _ _ _ us hl => match us, hl with | [_, _], _ => rfl),
        d_Row_with_speeds := ⟨(fun_mk (st := s_Row_with_speeds) l43 c43 k43), (Fun.binds (fun_mk (st := s_Row_with_speeds) l43 c43 k43) fun _ _ _ _ _ _ us hl => match us, hl with | [_, _], _ => rfl)⟩,
        mt_Row_with_speeds := ⟨a43, isf43, k43⟩,
        d_after_clash := DefOk.mk' (fun_mk (st := s_after_clash) l44 c44 k44) (PySem.W.mg_of X Gn a44) (Fun.binds (fun_mk (st := s_after_clash) l44 c44 k44) fun _ _ _ _ _ _ us hl => match us, hl with | [_, _], _ => rfl),
        d_after_word := DefOk.mk' (fun_mk (st := s_after_word) l45 c45 k45) (PySem.W.mg_of X Gn a45) (Fun.binds (fun_mk (st := s_after_word) l45 c45 k45) fun _ _ _ _ _ _ us hl => match us, hl with | [_, _], _ => rfl),
        d__law_fault := DefOk.mk' (fun_mk (st := s__law_fault) l46 c46 k46) (PySem.W.mg_of X Gn a46) (Fun.binds (fun_mk (st := s__law_fault) l46 c46 k46) fun _ _ _ _ _ _ us hl => match us, hl with | [_, _, _], _ => rfl),
        d__law_step_right := DefOk.mk' (fun_mk (st := s__law_step_right) l47 c47 k47) (PySem.W.mg_of X Gn a47) (Fun.binds (fun_mk (st := s__law_step_right) l47 c47 k47) fun _ _ _ _ _ _ us hl => match us, hl with | [_, _, _, _], _ => rfl),
        d__law_refusals_right := DefOk.mk' (fun_mk (st := s__law_refusals_right) l48 c48 k48) (PySem.W.mg_of X Gn a48) (Fun.binds (fun_mk (st := s__law_refusals_right) l48 c48 k48) fun _ _ _ _ _ _ us hl => match us, hl with | [_, _, _, _], _ => rfl),
        d_law := DefOk.mk' (fun_mk (st := s_law) l49 c49 k49) (PySem.W.mg_of X Gn a49) (Fun.binds (fun_mk (st := s_law) l49 c49 k49) fun _ _ _ _ _ _ us hl => match us, hl with | [_], _ => rfl),
        n_abs := PySem.W.mg_none_of X Gn z_abs,
        n_bool := PySem.W.mg_none_of X Gn z_bool,
        n_enumerate := PySem.W.mg_none_of X Gn z_enumerate,
        n_int := PySem.W.mg_none_of X Gn z_int,
        n_isinstance := PySem.W.mg_none_of X Gn z_isinstance,
        n_len := PySem.W.mg_none_of X Gn z_len,
        n_list := PySem.W.mg_none_of X Gn z_list,
        n_max := PySem.W.mg_none_of X Gn z_max,
        n_min := PySem.W.mg_none_of X Gn z_min,
        n_range := PySem.W.mg_none_of X Gn z_range,
        n_str := PySem.W.mg_none_of X Gn z_str,
        n_super := PySem.W.mg_none_of X Gn z_super,
        n_tuple := PySem.W.mg_none_of X Gn z_tuple,
        n_zip := PySem.W.mg_none_of X Gn z_zip,
        m_gcd := PySem.W.mg_of X Gn i_gcd,
        k_MOST_WORD := ⟨_, PySem.W.mg_of X Gn g_MOST_WORD⟩,
        k_MOST_BALLS := ⟨_, PySem.W.mg_of X Gn g_MOST_BALLS⟩,
        k_MOST_WEIGHT := ⟨_, PySem.W.mg_of X Gn g_MOST_WEIGHT⟩,
        e_BadRatio := ⟨PySem.W.mg_of X Gn ca1, cx1, ck1, cs1, ct1_⟩,
        x_BadRow := ⟨⟨⟨_, _, _, _, _, _, _, _, _, _, _, _, _, _, _, xL2, by first | rfl | decide +kernel⟩, xs2, cs2, ct2_, ck2⟩, a0, tI0, PySem.W.mg_of X Gn ca2, cs2⟩,
        x_NoPair := ⟨⟨⟨_, _, _, _, _, _, _, _, _, _, _, _, _, _, _, xL3, by first | rfl | decide +kernel⟩, xs3, cs3, ct3_, ck3⟩, a2, tI2, PySem.W.mg_of X Gn ca3, cs3⟩,
        x_BadWord := ⟨⟨⟨_, _, _, _, _, _, _, _, _, _, _, _, _, _, _, xL4, by first | rfl | decide +kernel⟩, xs4, cs4, ct4_, ck4⟩, a1, tI1, PySem.W.mg_of X Gn ca4, cs4⟩,
        okX := fun c f hb => (by
            unfold okX at hb
            split at hb
            · exact ⟨⟨xg2, xh2, cs2, cd2_⟩, DL.elem_all (P := fun f => PySem.W.findIn K (.ref C2) f = some none) (DL.all_cons xn2_0 (DL.all_cons xn2_1 (fun _ h => absurd h List.not_mem_nil))) hb⟩
            · exact ⟨⟨xg3, xh3, cs3, cd3_⟩, DL.elem_all (P := fun f => PySem.W.findIn K (.ref C3) f = some none) (DL.all_cons xn3_0 (fun _ h => absurd h List.not_mem_nil)) hb⟩
            · exact ⟨⟨xg4, xh4, cs4, cd4_⟩, DL.elem_all (P := fun f => PySem.W.findIn K (.ref C4) f = some none) (DL.all_cons xn4_0 (DL.all_cons xn4_1 (fun _ h => absurd h List.not_mem_nil))) hb⟩
            · cases hb),
        clX_BadWord := fun c b hb => (by
            unfold clX_BadWord at hb
            split at hb
            · cases hb; exact PySem.W.exm_ref cs4 cd4_ ct4_ s1_4
            · cases hb; exact PySem.W.exm_ref cs4 cd4_ ct4_ s2_4
            · cases hb; exact PySem.W.exm_ref cs4 cd4_ ct4_ s3_4
            · cases hb; exact PySem.W.exm_ref cs4 cd4_ ct4_ s4_4
            · cases hb),
        clX_NoPair := fun c b hb => (by
            unfold clX_NoPair at hb
            split at hb
            · cases hb; exact PySem.W.exm_ref cs3 cd3_ ct3_ s1_3
            · cases hb; exact PySem.W.exm_ref cs3 cd3_ ct3_ s2_3
            · cases hb; exact PySem.W.exm_ref cs3 cd3_ ct3_ s3_3
            · cases hb; exact PySem.W.exm_ref cs3 cd3_ ct3_ s4_3
            · cases hb),
        tabX := fun c d b hb => (by
            unfold tabX at hb
            split at hb
            · cases hb; exact ⟨DL.excB_ok xc4, _, rfl, xk4_0⟩
            · cases hb; exact ⟨DL.excB_ok xc4, _, rfl, xk4_3F⟩
            · cases hb; exact ⟨DL.excB_ok xc3, _, rfl, xk3_4F⟩
            · cases hb; exact ⟨DL.excB_ok xc3, _, rfl, xk3_0⟩
            · cases hb),
        fld := fun c f hb => (by
            unfold okF at hb
            split at hb
            · exact ⟨⟨wg5, wd5, wo5, wa5⟩, DL.elem_all (P := fun f => PySem.W.findIn K (.ref C5) f = some none) (DL.all_cons wn5_0 (DL.all_cons wn5_1 (DL.all_cons wn5_2 (DL.all_cons wn5_3 (DL.all_cons wn5_4 (DL.all_cons wn5_5 (DL.all_cons wn5_6 (DL.all_cons wn5_7 (fun _ h => absurd h List.not_mem_nil))))))))) hb⟩
            · cases hb),
        ins := fun c hb => (by
            unfold okI at hb
            split at hb
            · exact ⟨⟨wg5, wd5, wo5, wa5⟩, wc5, wS, wT, wr5⟩
            · cases hb),
        tabC := fun t c b hb => (by
            unfold tabC at hb
            split at hb
            · split at hb
              · rename_i he; cases hb; exact DL.elem_all (P := fun n => PySem.W.kitOne K (.type n) (.ref C5) = some false) (DL.all_cons (DL.kitO_any wi5 wy5 wt5_NoneType) (DL.all_cons (DL.kitO_any wi5 wy5 wt5_bool) (DL.all_cons (DL.kitO_any wi5 wy5 wt5_int) (DL.all_cons (DL.kitO_any wi5 wy5 wt5_str) (DL.all_cons (DL.kitO_any wi5 wy5 wt5_tuple) (DL.all_cons (DL.kitO_any wi5 wy5 wt5_list) (fun _ h => absurd h List.not_mem_nil))))))) he
              · cases hb
            · cases hb; exact DL.kitO_ref wi5 wy5 wt5_5
            · cases hb),
        cls_Row := ⟨wg5, wd5, wo5, wa5⟩ }
  have eK : G.K = K := congrArg Glb.K hG
  have ea : fa 49 = f49 := congrFun hfa' 49
  refine ⟨fd 49, fun s v => ?_, fun base _ _ => ?_⟩
  · rw [hfd]; exact .of_eq rfl
  · have r := ok_law (P := l.prog) (w := w) (base := base) T hH
    rw [eK, ea, ← ela] at r
    exact r
end My

namespace My
open PySem PySem.Spec PyProof.Rows L2 DL
theorem e_mix (a b : Int) (st : List D) : ∃ r : Int, 0 ≤ r ∧ m__law_mix [.int a, .int b] st = .ok (.int r) st := by
  obtain ⟨s0, hs⟩ : ∃ s, s = (a * 48271 + b * 16807 + 11).fmod 2147483647 := ⟨_, rfl⟩
  obtain ⟨t0, ht⟩ : ∃ s, s = (s0 * s0 + s0.fdiv 127 * 40692 + b * 69621).fmod 2147483399 := ⟨_, rfl⟩
  have h1 := fmod_small (i := a * 48271 + b * 16807 + 11) (j := 2147483647) (by decide)
  have h2 := fmod_small (i := s0 * s0 + s0.fdiv 127 * 40692 + b * 69621) (j := 2147483399) (by decide)
  rw [← hs] at h1
  rw [← ht] at h2
  have m1 : DL.MulOk a 48271 := mulOk_r (by decide)
  have m2 : DL.MulOk b 16807 := mulOk_r (by decide)
  have m3 : DL.MulOk s0 s0 := mulOk_l (by omega)
  have m4 : DL.MulOk (s0.fdiv 127) 40692 := mulOk_r (by decide)
  have m5 : DL.MulOk b 69621 := mulOk_r (by decide)
  have m6 : DL.MulOk t0 t0 := mulOk_l (by omega)
  have d1 : DivOk s0 127 := ⟨by decide, .inl (by decide)⟩
  have d2 : DivOk (t0 * t0) 1009 := ⟨by decide, .inl (by decide)⟩
  have d3 : ∀ i, DivOk i 16 := fun i => ⟨by decide, .inl (by decide)⟩
  refine ⟨((t0 * t0).fdiv 1009 + s0).fmod 2147483563 |>.fdiv 16, ?_, ?_⟩
  · have h3 := fmod_small (i := (t0 * t0).fdiv 1009 + s0) (j := 2147483563) (by decide)
    exact Int.fdiv_nonneg h3.1 (by decide)
  · unfold m__law_mix b__law_mix
    simp [ev1, ev2, ev3, ev4, bind_ok, mkEnv, get?, ret_ok, m1, m2, m3, m4, m5, m6, d1, d2, d3, ← hs, ← ht]
theorem e_draw (n : Int) (hn : 0 < n) (hn2 : n.natAbs.log2 < 9000) (st : List D) (hs : HandOk st) : ∃ (r : Int) (st' : List D), 0 ≤ r ∧ r < n ∧ HandOk st' ∧ m__law_draw [.tok 0, .int n] st = .ok (.int r) st' := by
  obtain ⟨cells, at_, rest, total, rfl, ha, hr, hc⟩ := hs.ex
  have hn0 : n ≠ 0 := by omega
  have dn : ∀ i, DivOk i n := fun i => ⟨hn0, .inl hn2⟩
  have hpow : dPow (.int 10) (.int 18) = some (.int 1000000000000000000) := by rfl
  have red : ∀ i : Int, 0 ≤ i.fmod n ∧ i.fmod n < n := fun i => fmod_small hn
  have hmod : ∀ i : Int, dMod (.int i) (.int n) = some (.int (i.fmod n)) := fun i => dMod_pos i n hn0
  obtain ⟨k0, hk0⟩ : ∃ k : Nat, at_ = k := ⟨at_.toNat, by omega⟩
  subst hk0
  unfold m__law_draw b__law_draw
  have mk : ∀ (at' rest' total' : Int), 0 ≤ at' → 0 ≤ rest' → HandOk [handD cells at' rest' total'] := fun a b c h1 h2 => ⟨cells, a, b, c, rfl, h1, h2, hc⟩
  have tail : ∀ (a b t : Int), 0 ≤ a → ∃ r', 0 ≤ r' ∧ m__law_mix [.int t, .int a] [handD cells a b t] = .ok (.int r') [handD cells a b t] := fun a b t _ => e_mix t a _
  have hm8 : ∀ i : Int, dMod (.int i) (.int 2147483629) = some (.int (i.fmod 2147483629)) := fun i => dMod_pos i _ (by decide)
  by_cases h0 : rest = 0
  · subst h0
    by_cases h1 : k0 < cells.length
    · have hcp : 0 ≤ cells[k0] := hc _ (List.getElem_mem h1)
      by_cases h2 : cells[k0] < 1000000000000000000
      · obtain ⟨q, hq, eq⟩ := e_mix (cells[k0].fmod 2147483647) (k0 + 1) [handD cells (k0 + 1) 0 total]
        refine ⟨q.fmod n, _, (red q).1, (red q).2, mk (k0 + 1) 0 total (by omega) (by omega), ?_⟩
        simp [ev1, ev2, ev3, ev4, bind_ok, mkEnv, get?, ret_ok, hix0, hix1, hix2, hix3, mPut_eq, put1, put2, put3, hpow, hmod, dMod_pos, dn, h1, h2, hcell cells k0 h1, eq]
      · have h3 : ¬ cells[k0] = 0 := by omega
        have h4 : 0 < cells[k0] := by omega
        refine ⟨cells[k0].fmod n, _, (red _).1, (red _).2, mk (k0 + 1) (cells[k0].fdiv n) total (by omega) (Int.fdiv_nonneg hcp (by omega)), ?_⟩
        simp [ev1, ev2, ev3, ev4, bind_ok, mkEnv, get?, ret_ok, hix0, hix1, hix2, hix3, mPut_eq, put1, put2, put3, hpow, hmod, dMod_pos, dn, h1, h2, h3, h4, hcell cells k0 h1]
    · obtain ⟨q, hq, eq⟩ := e_mix ((total + 1).fmod 2147483629) k0 [handD cells k0 0 ((total + 1).fmod 2147483629)]
      refine ⟨q.fmod n, _, (red q).1, (red q).2, mk k0 0 ((total + 1).fmod 2147483629) (by omega) (by omega), ?_⟩
      simp [ev1, ev2, ev3, ev4, bind_ok, mkEnv, get?, ret_ok, hix0, hix1, hix2, hix3, mPut_eq, put1, put2, put3, hpow, hmod, dMod_pos, dn, h1, hm8, eq]
  · have h4 : 0 < rest := by omega
    refine ⟨rest.fmod n, _, (red _).1, (red _).2, mk k0 (rest.fdiv n) total (by omega) (Int.fdiv_nonneg hr (by omega)), ?_⟩
    simp [ev1, ev2, ev3, ev4, bind_ok, mkEnv, get?, ret_ok, hix0, hix1, hix2, hix3, mPut_eq, put1, put2, put3, hpow, hmod, dMod_pos, dn, h0, h4]
end My

namespace My
open PySem PySem.Spec PyProof.Rows L2 DL
theorem e_hand (ns : List Int) (hl : ns.length ≤ 63) : ∃ (cells : List Int) (t : Int), (∀ c ∈ cells, 0 ≤ c) ∧ m__law_hand [.rol (ns.map .int)] [] = .ok (handD cells 0 0 t) [] := by
  obtain ⟨env', st', hf, t, x, y, rfl, rfl⟩ := forD_inv (g := gTp (gsCons (gNm 2) (gsCons (gNm 3) (gsNil)))) (body := mSet 1 (mOp dMod (mCall1 (c1 dInt1) (mCons (mOp dAdd (mOp dMul (mVar 1) (mC (.int 31))) (mOp dMul (mCall1 (c1 dInt1) (mCons (mVar 3) (mNil))) (mOp dAdd (mVar 2) (mC (.int 7))))) (mNil))) (mC (.int 2147483629))))
    (fun env st => ∃ (t : Int) (x y : Option D), env = [some (.rol (ns.map .int)), some (.int t), x, y] ∧ st = []) (fun d => ∃ (i : Nat) (v : Int), i < 63 ∧ d = .tup [.int (i : Int), .int v])
    (by
      rintro d env st ⟨i, v, hi, rfl⟩ ⟨t, x, y, rfl, rfl⟩
      refine ⟨_, [some (.rol (ns.map .int)), some (.int ((t * 31 + v * (i + 7)).fmod 2147483629)), some (.int i), some (.int v)], [], rfl, ?_, _, _, _, rfl, rfl⟩
      have m1 : DL.MulOk t 31 := mulOk_r (by decide)
      have m2 : DL.MulOk v (i + 7) := mulOk_r (by omega)
      simp [ev1, ev2, ev3, ev4, bind_ok, mkEnv, get?, ret_ok, dMod_pos, m1, m2]) (numbered (ns.map .int)) [some (.rol (ns.map .int)), some (.int 0), none, none] []
    (by
      intro d hd
      obtain ⟨i, x, h1, h2, rfl⟩ := numbered_mem hd
      obtain ⟨v, _, rfl⟩ := List.mem_map.mp h2
      exact ⟨i, v, by rw [List.length_map] at h1; omega, rfl⟩) ⟨0, _, _, rfl, rfl⟩
  refine ⟨ns.map fun n => if n < 0 then -n else n, t, ?_, ?_⟩
  · intro c hc
    rw [List.mem_map] at hc
    obtain ⟨n, _, rfl⟩ := hc
    split <;> omega
  · have hc := lcD_map (env := [some (.rol (ns.map .int)), some (.int t), x, none]) (g := gNm 3) (mt := mYes) (me := mCall1 (c1 dAbs) (mCons (mCall1 (c1 dInt1) (mCons (mVar 3) (mNil))) (mNil))) (st := []) (fun d => match d with | .int n => .int (if n < 0 then -n else n) | d => d) (ns.map .int) (by
      intro d hd
      obtain ⟨v, _, rfl⟩ := List.mem_map.mp hd
      refine ⟨_, rfl, rfl, ?_⟩
      simp [ev1, ev2, ev3, ev4, bind_ok, mkEnv, get?, ret_ok])
    have hz : ns.length ≤ sizeLine := Nat.le_trans hl (by decide)
    unfold m__law_hand b__law_hand
    simp [ev1, ev2, ev3, ev4, bind_ok, mkEnv, get?, ret_ok, mFor_eq, enum?, hf, handD, mItems, DL.items?, wipeE]
    rw [hc]
    simp [ev1, ev2, ev3, ev4, bind_ok, mkEnv, get?, ret_ok, lstOk, hz]
    rw [if_pos (by decide)]
    rfl
end My

namespace My
open PySem PySem.Spec PyProof.Rows L2 DL
/-- a told ratio -/
def rD (q : Rat) : D := .tup [.int q.num, .int (q.den : Int)]
/-- its sizes -/
def Sm (n : Nat) (q : Rat) : Prop := q.num.natAbs < 2 ^ n ∧ q.den < 2 ^ n
theorem fdiv_ediv {a b : Int} (hb : 0 ≤ b) : a.fdiv b = a / b := Int.fdiv_eq_ediv_of_nonneg a hb
theorem e_is_whole_int (i : Int) (st : List D) : m_is_whole [.int i] st = .ok (.bl true) st := by
  unfold m_is_whole b_is_whole
  simp [ev1, ev2, ev3, ev4, ev5, bind_ok, mkEnv, get?, ret_ok, dIsi, isiD, tyN, subTy]
theorem divs (t b : Int) (hb : b ≠ 0) : (Rat.divInt t b).num = (if b < 0 then (t.fdiv (-(Int.gcd t b : Int))) else t.fdiv (Int.gcd t b)) ∧ ((Rat.divInt t b).den : Int) = (if b < 0 then (b.fdiv (-(Int.gcd t b : Int))) else b.fdiv (Int.gcd t b)) := by
  have hg : (Int.gcd t b : Int) ∣ t := Int.gcd_dvd_left ..
  have hg2 : (Int.gcd t b : Int) ∣ b := Int.gcd_dvd_right ..
  have hg0 : (Int.gcd t b : Int) ≠ 0 := by
    intro h
    have : Int.gcd t b = 0 := by omega
    rw [Int.gcd_eq_zero_iff] at this
    exact hb this.2
  rw [Rat.num_divInt, Rat.den_divInt, Int.gcd_comm b t, if_neg hb]
  obtain ⟨u, hu⟩ := hg
  obtain ⟨v, hv⟩ := hg2
  have hgn : (0 : Int) ≤ (Int.gcd t b : Int) := by omega
  have hcast : ((b.natAbs / Int.gcd t b : Nat) : Int) = (b.natAbs : Int) / (Int.gcd t b : Int) := Int.natCast_ediv _ _
  rw [hcast]
  generalize (Int.gcd t b : Int) = g at *
  have f1 : (-g) ∣ t := ⟨-u, by rw [hu]; grind⟩
  have f2 : (-g) ∣ b := ⟨-v, by rw [hv]; grind⟩
  by_cases hn : b < 0
  · rw [if_pos hn, if_pos hn, Int.fdiv_eq_ediv_of_dvd f1, Int.fdiv_eq_ediv_of_dvd f2, Int.sign_eq_neg_one_of_neg hn]
    have : (b.natAbs : Int) = -b := by omega
    rw [this, Int.ediv_neg, Int.ediv_neg]
    refine ⟨?_, ?_⟩
    · rw [hu, show -1 * (g * u) = g * (-u) by grind, Int.mul_ediv_cancel_left _ hg0, Int.mul_ediv_cancel_left _ hg0]
    · rw [hv, show -(g * v) = g * (-v) by grind, Int.mul_ediv_cancel_left _ hg0, Int.mul_ediv_cancel_left _ hg0]
  · rw [if_neg hn, if_neg hn, Int.fdiv_eq_ediv_of_nonneg _ hgn, Int.fdiv_eq_ediv_of_nonneg _ hgn, Int.sign_eq_one_of_pos (by omega)]
    have : (b.natAbs : Int) = b := by omega
    rw [this, Int.one_mul]
    exact ⟨rfl, rfl⟩
theorem e_lowest (t b : Int) (hb : b ≠ 0) (hb2 : b.natAbs < 2 ^ 8000) (st : List D) : m_lowest_terms [.int t, .int b] st = .ok (rD (Rat.divInt t b)) st := by
  have hgl : Nat.gcd t.natAbs b.natAbs ≤ b.natAbs := Nat.gcd_le_right _ (by omega)
  have hgp : 0 < Nat.gcd t.natAbs b.natAbs := Nat.gcd_pos_of_pos_right _ (by omega)
  have hlog : (Nat.gcd t.natAbs b.natAbs).log2 < 9000 := by
    have := (Nat.log2_lt (n := Nat.gcd t.natAbs b.natAbs) (k := 8000) (by omega)).mpr (by omega)
    omega
  have d1 : ∀ i, DivOk i ((Nat.gcd t.natAbs b.natAbs : Nat) : Int) := fun i => ⟨by omega, .inl (by simpa using hlog)⟩
  have d2 : ∀ i, DivOk i (-((Nat.gcd t.natAbs b.natAbs : Nat) : Int)) := fun i => ⟨by omega, .inl (by simpa using hlog)⟩
  obtain ⟨h1, h2⟩ := divs t b hb
  unfold m_lowest_terms b_lowest_terms
  by_cases hn : b < 0
  · simp [ev1, ev2, ev3, ev4, ev5, bind_ok, mkEnv, get?, ret_ok, hn, d1, d2]
    simp only [rD, h1, h2, if_pos hn]
    rfl
  · simp [ev1, ev2, ev3, ev4, ev5, bind_ok, mkEnv, get?, ret_ok, hn, d1, d2]
    simp only [rD, h1, h2, if_neg hn]
    rfl
/-- x tells the ratio q, within n bits -/
inductive Tells (n : Nat) : D → Rat → Prop
  | one (i : Int) (hn : 1 ≤ n) (h : i.natAbs < 2 ^ n) : Tells n (.int i) (i : Rat)
  | two (t b : Int) (hb : 0 < b) (h1 : t.natAbs < 2 ^ n) (h2 : b.natAbs < 2 ^ n) : Tells n (.tup [.int t, .int b]) (Rat.divInt t b)
theorem Tells.rat {n : Nat} {q : Rat} (h : Sm n q) : Tells n (rD q) q := by
  have := Tells.two (n := n) q.num (q.den : Int) (by have := q.den_pos; omega) h.1 (by simpa using h.2)
  rw [Rat.num_divInt_den] at this
  exact this
theorem sm_divInt {n : Nat} {t b : Int} (hb : b ≠ 0) (h1 : t.natAbs < 2 ^ n) (h2 : b.natAbs < 2 ^ n) : Sm n (Rat.divInt t b) := by
  constructor
  · rw [Rat.num_divInt]
    refine Nat.lt_of_le_of_lt (Int.natAbs_ediv_le_natAbs _ _) ?_
    rw [Int.natAbs_mul, Int.natAbs_sign_of_ne_zero hb]
    omega
  · rw [Rat.den_divInt, if_neg hb]
    exact Nat.lt_of_le_of_lt (Nat.div_le_self _ _) h2
theorem Tells.sm {n : Nat} {x : D} {q : Rat} (h : Tells n x q) : Sm n q := by
  cases h with
  | one i hn h => exact ⟨h, by show 1 < 2 ^ n; have := Nat.pow_le_pow_right (n := 2) (by omega) hn; omega⟩
  | two t b hb h1 h2 => exact sm_divInt (by omega) h1 h2
theorem e_is_ratio {n : Nat} {x : D} {q : Rat} (h : Tells n x q) (st : List D) : m_is_ratio [x] st = .ok (.bl true) st := by
  cases h with
  | one i _ h =>
    unfold m_is_ratio b_is_ratio
    simp [ev1, ev2, ev3, ev4, ev5, bind_ok, mkEnv, get?, ret_ok, dIsi, isiD, tyN, subTy, e_is_whole_int]
  | two t b hb h1 h2 =>
    unfold m_is_ratio b_is_ratio
    simp [ev1, ev2, ev3, ev4, ev5, bind_ok, mkEnv, get?, ret_ok, dIsi, isiD, tyN, subTy, e_is_whole_int, hb]
theorem e_ratio_of {n : Nat} {x : D} {q : Rat} (h : Tells n x q) (hn : n ≤ 8000) (st : List D) : m_ratio_of [x] st = .ok (rD q) st := by
  have hr := e_is_ratio h st
  cases h with
  | one i _ h =>
    unfold m_ratio_of b_ratio_of
    simp [ev1, ev2, ev3, ev4, ev5, bind_ok, mkEnv, get?, ret_ok, dIsi, isiD, tyN, subTy, hr, rD]
  | two t b hb h1 h2 =>
    have := Nat.pow_le_pow_right (n := 2) (by omega) hn
    have hl := e_lowest t b (by omega) (by omega) st
    unfold m_ratio_of b_ratio_of
    simp [ev1, ev2, ev3, ev4, ev5, bind_ok, mkEnv, get?, ret_ok, dIsi, isiD, tyN, subTy, hr, hl]
theorem log_le {a n : Nat} (h : a < 2 ^ n) : a.log2 ≤ n := by
  by_cases h0 : a = 0
  · subst h0; simp
  · exact Nat.le_of_lt ((Nat.log2_lt h0).mpr h)
theorem mulOk_sm {i j : Int} {n m : Nat} (h1 : i.natAbs < 2 ^ n) (h2 : j.natAbs < 2 ^ m) (h : n + m ≤ 8000) : DL.MulOk i j := by
  have := log_le h1
  have := log_le h2
  exact .inr (.inr (by omega))
theorem mul_sm {i j : Int} {n m : Nat} (h1 : i.natAbs < 2 ^ n) (h2 : j.natAbs < 2 ^ m) : (i * j).natAbs < 2 ^ (n + m) := by
  rw [Int.natAbs_mul, Nat.pow_add]
  exact Nat.mul_lt_mul'' h1 h2
theorem add_sm {i j : Int} {n : Nat} (h1 : i.natAbs < 2 ^ n) (h2 : j.natAbs < 2 ^ n) : (i + j).natAbs < 2 ^ (n + 1) := by
  rw [Nat.pow_succ]; omega
theorem sub_sm {i j : Int} {n : Nat} (h1 : i.natAbs < 2 ^ n) (h2 : j.natAbs < 2 ^ n) : (i - j).natAbs < 2 ^ (n + 1) := by
  rw [Nat.pow_succ]; omega
theorem sm_mono {i : Int} {n m : Nat} (h : i.natAbs < 2 ^ n) (hm : n ≤ m) : i.natAbs < 2 ^ m := Nat.lt_of_lt_of_le h (Nat.pow_le_pow_right (by omega) hm)
theorem Sm.den' {n : Nat} {q : Rat} (h : Sm n q) : (q.den : Int).natAbs < 2 ^ n := by simpa using h.2
theorem den0 (q : Rat) : (q.den : Int) ≠ 0 := by have := q.den_pos; omega
theorem add_as (p q : Rat) : p + q = Rat.divInt (p.num * q.den + q.num * p.den) (p.den * q.den) := by
  have h := Rat.divInt_add_divInt p.num q.num (den0 p) (den0 q)
  rwa [Rat.num_divInt_den, Rat.num_divInt_den] at h
theorem sub_as (p q : Rat) : p - q = Rat.divInt (p.num * q.den - q.num * p.den) (p.den * q.den) := by
  have h := Rat.divInt_sub_divInt p.num q.num (den0 p) (den0 q)
  rwa [Rat.num_divInt_den, Rat.num_divInt_den] at h
theorem mul_as (p q : Rat) : p * q = Rat.divInt (p.num * q.num) (p.den * q.den) := by
  have h := Rat.divInt_mul_divInt p.num q.num (d₁ := p.den) (d₂ := q.den)
  rwa [Rat.num_divInt_den, Rat.num_divInt_den] at h
theorem div_as (p q : Rat) : p / q = Rat.divInt (p.num * q.den) (p.den * q.num) := by
  have h := Rat.divInt_mul_divInt p.num q.den (d₁ := p.den) (d₂ := q.num)
  rw [Rat.num_divInt_den, ← Rat.inv_divInt, Rat.num_divInt_den] at h
  rw [Rat.div_def, h]
theorem mul_ne {a b : Int} (h : a ≠ 0) (k : b ≠ 0) : a * b ≠ 0 := Int.mul_ne_zero h k
theorem sm_add {n m : Nat} {p q : Rat} (h : Sm n p) (k : Sm m q) : Sm (n + m + 1) (p + q) := by
  rw [add_as]
  refine sm_divInt (mul_ne (den0 p) (den0 q)) (add_sm (mul_sm h.1 k.den') ?_) (sm_mono (mul_sm h.den' k.den') (by omega))
  rw [Nat.add_comm n m]
  exact mul_sm k.1 h.den'
theorem sm_sub {n m : Nat} {p q : Rat} (h : Sm n p) (k : Sm m q) : Sm (n + m + 1) (p - q) := by
  rw [sub_as]
  refine sm_divInt (mul_ne (den0 p) (den0 q)) (sub_sm (mul_sm h.1 k.den') ?_) (sm_mono (mul_sm h.den' k.den') (by omega))
  rw [Nat.add_comm n m]
  exact mul_sm k.1 h.den'
theorem sm_mul {n m : Nat} {p q : Rat} (h : Sm n p) (k : Sm m q) : Sm (n + m) (p * q) := by
  rw [mul_as]
  exact sm_divInt (mul_ne (den0 p) (den0 q)) (mul_sm h.1 k.1) (mul_sm h.den' k.den')
theorem e_plus {n m : Nat} {x y : D} {p q : Rat} (h : Tells n x p) (k : Tells m y q) (hz : n + m ≤ 7000) (st : List D) : m_plus [x, y] st = .ok (rD (p + q)) st := by
  have h1 := e_ratio_of h (by omega) st
  have h2 := e_ratio_of k (by omega) st
  have m1 : DL.MulOk p.num q.den := mulOk_sm h.sm.1 k.sm.den' (by omega)
  have m2 : DL.MulOk q.num p.den := mulOk_sm k.sm.1 h.sm.den' (by omega)
  have m3 : DL.MulOk p.den q.den := mulOk_sm h.sm.den' k.sm.den' (by omega)
  have m4 : DL.MulOk p.num q.num := mulOk_sm h.sm.1 k.sm.1 (by omega)
  have hl := e_lowest (p.num * q.den + q.num * p.den) (p.den * q.den) (mul_ne (den0 p) (den0 q)) (sm_mono (mul_sm h.sm.den' k.sm.den') (by omega)) st
  rw [← add_as] at hl
  unfold m_plus b_plus
  simp [ev1, ev2, ev3, ev4, ev5, bind_ok, mkEnv, get?, ret_ok, h1, h2, m1, m2, m3, m4, rD, hl]
theorem e_minus {n m : Nat} {x y : D} {p q : Rat} (h : Tells n x p) (k : Tells m y q) (hz : n + m ≤ 7000) (st : List D) : m_minus [x, y] st = .ok (rD (p - q)) st := by
  have h1 := e_ratio_of h (by omega) st
  have h2 := e_ratio_of k (by omega) st
  have m1 : DL.MulOk p.num q.den := mulOk_sm h.sm.1 k.sm.den' (by omega)
  have m2 : DL.MulOk q.num p.den := mulOk_sm k.sm.1 h.sm.den' (by omega)
  have m3 : DL.MulOk p.den q.den := mulOk_sm h.sm.den' k.sm.den' (by omega)
  have m4 : DL.MulOk p.num q.num := mulOk_sm h.sm.1 k.sm.1 (by omega)
  have hl := e_lowest (p.num * q.den - q.num * p.den) (p.den * q.den) (mul_ne (den0 p) (den0 q)) (sm_mono (mul_sm h.sm.den' k.sm.den') (by omega)) st
  rw [← sub_as] at hl
  unfold m_minus b_minus
  simp [ev1, ev2, ev3, ev4, ev5, bind_ok, mkEnv, get?, ret_ok, h1, h2, m1, m2, m3, m4, rD, hl]
theorem e_times {n m : Nat} {x y : D} {p q : Rat} (h : Tells n x p) (k : Tells m y q) (hz : n + m ≤ 7000) (st : List D) : m_times [x, y] st = .ok (rD (p * q)) st := by
  have h1 := e_ratio_of h (by omega) st
  have h2 := e_ratio_of k (by omega) st
  have m1 : DL.MulOk p.num q.den := mulOk_sm h.sm.1 k.sm.den' (by omega)
  have m2 : DL.MulOk q.num p.den := mulOk_sm k.sm.1 h.sm.den' (by omega)
  have m3 : DL.MulOk p.den q.den := mulOk_sm h.sm.den' k.sm.den' (by omega)
  have m4 : DL.MulOk p.num q.num := mulOk_sm h.sm.1 k.sm.1 (by omega)
  have hl := e_lowest (p.num * q.num) (p.den * q.den) (mul_ne (den0 p) (den0 q)) (sm_mono (mul_sm h.sm.den' k.sm.den') (by omega)) st
  rw [← mul_as] at hl
  unfold m_times b_times
  simp [ev1, ev2, ev3, ev4, ev5, bind_ok, mkEnv, get?, ret_ok, h1, h2, m1, m2, m3, m4, rD, hl]
/-- -1, 0, 1 -/
def cmpR (p q : Rat) : Int := if p < q then -1 else if q < p then 1 else 0
/-! the law's own words -/
theorem low_loop : ∀ (b a : Nat) (t u : D) (st : List D), mWhile (mTru (mVar 3)) (mPar 2 3 (mCons (mVar 3) (mCons (mOp dMod (mCall1 (c1 dInt1) (mCons (mVar 2) (mNil))) (mVar 3)) (mNil)))) [some t, some u, some (.int a), some (.int b)] st = .nx [some t, some u, some (.int (Nat.gcd a b : Nat)), some (.int 0)] st := by
  intro b
  induction b using Nat.strongRecOn with
  | _ b ih =>
    intro a t u st
    rw [mWhile_eq]
    by_cases hb : b = 0
    · subst hb
      simp [ev1, ev2, ev3, ev4, ev5, bind_ok, mkEnv, get?, ret_ok, rD]
    · have hr := ih (a % b) (Nat.mod_lt _ (by omega)) b t u st
      have hb' : (b : Int) ≠ 0 := by omega
      have hm : dMod (.int a) (.int b) = some (.int ((a % b : Nat) : Int)) := by
        rw [dMod_pos _ _ hb', Int.fmod_eq_emod_of_nonneg _ (by omega)]
        rfl
      simp [ev1, ev2, ev3, ev4, ev5, bind_ok, mkEnv, get?, ret_ok, hm, hb, hr]
      rw [Int.natCast_emod] at hr
      rw [hr, Nat.gcd_comm b (a % b), ← Nat.gcd_rec, Nat.gcd_comm]
theorem e_law_low (t b : Int) (hb : b ≠ 0) (hb2 : b.natAbs < 2 ^ 8000) (st : List D) : m__law_low [.int t, .int b] st = .ok (rD (Rat.divInt t b)) st := by
  have hgl : Nat.gcd t.natAbs b.natAbs ≤ b.natAbs := Nat.gcd_le_right _ (by omega)
  have hgp : 0 < Nat.gcd t.natAbs b.natAbs := Nat.gcd_pos_of_pos_right _ (by omega)
  have hlog : (Nat.gcd t.natAbs b.natAbs).log2 < 9000 := by
    have := (Nat.log2_lt (n := Nat.gcd t.natAbs b.natAbs) (k := 8000) (by omega)).mpr (by omega)
    omega
  have d1 : ∀ i, DivOk i ((Nat.gcd t.natAbs b.natAbs : Nat) : Int) := fun i => ⟨by omega, .inl (by simpa using hlog)⟩
  have d2 : ∀ i, DivOk i (-((Nat.gcd t.natAbs b.natAbs : Nat) : Int)) := fun i => ⟨by omega, .inl (by simpa using hlog)⟩
  obtain ⟨h1, h2⟩ := divs t b hb
  have at_ : dAbs (.int t) = some (.int (t.natAbs : Nat)) := congrArg (fun i => some (D.int i)) (by split <;> omega)
  have ab_ : dAbs (.int b) = some (.int (b.natAbs : Nat)) := congrArg (fun i => some (D.int i)) (by split <;> omega)
  have hw := low_loop b.natAbs t.natAbs (.int t) (.int b) st
  unfold m__law_low b__law_low
  by_cases hn : b < 0
  · simp only [ev1, ev2, ev3, bind_ok, mkEnv, get?, ret_ok, List.set_cons_zero, List.set_cons_succ, ev4.2.2.2.2.2.2.2.2.2.2.2.2.1, at_, ab_, hw]
    simp [ev1, ev2, ev3, ev4, ev5, bind_ok, get?, ret_ok, hn, d1, d2]
    simp only [rD, h1, h2, if_pos hn]
    rfl
  · simp only [ev1, ev2, ev3, bind_ok, mkEnv, get?, ret_ok, List.set_cons_zero, List.set_cons_succ, ev4.2.2.2.2.2.2.2.2.2.2.2.2.1, at_, ab_, hw]
    simp [ev1, ev2, ev3, ev4, ev5, bind_ok, get?, ret_ok, hn, d1, d2]
    simp only [rD, h1, h2, if_neg hn]
    rfl
theorem dEq_pair (a b c d : Int) : dEq (.tup [.int a, .int b]) (.tup [.int c, .int d]) = some (.bl (decide (a = c) && decide (b = d))) := by
  have e : dEq (.tup [.int a, .int b]) (.tup [.int c, .int d]) = some (.bl ((a == c) && ((b == d) && true))) := rfl
  rw [e, Bool.and_true, Bool.beq_eq_decide_eq, Bool.beq_eq_decide_eq]
theorem dEq_rD (p q : Rat) : dEq (rD p) (rD q) = some (.bl (decide (p = q))) := by
  unfold rD
  rw [dEq_pair]
  congr 2
  rw [← Bool.decide_and, decide_eq_decide]
  refine ⟨fun ⟨a, b⟩ => Rat.ext a (by omega), fun h => by rw [h]; exact ⟨rfl, rfl⟩⟩
theorem dNe_rD (p q : Rat) : dNe (rD p) (rD q) = some (.bl (!decide (p = q))) := by
  have h := dEq_rD p q
  unfold dEq at h
  unfold dNe
  cases e : eqD (rD p) (rD q) with
  | none => rw [e] at h; cases h
  | some b => rw [e] at h; have := Option.some.inj h; injection this with this; simp [this]
theorem e_law_is_ratio {n : Nat} {q : Rat} (h : Sm n q) (hn : n ≤ 8000) (st : List D) : m__law_is_ratio [rD q] st = .ok (.bl true) st := by
  have := Nat.pow_le_pow_right (n := 2) (by omega) hn
  have hl := e_law_low q.num q.den (den0 q) (Nat.lt_of_lt_of_le h.den' this) st
  have hp := q.den_pos
  rw [Rat.num_divInt_den] at hl
  have he := dEq_rD q q
  unfold rD at hl he
  unfold m__law_is_ratio b__law_is_ratio F_law_is_ratio_1 bd_law_is_ratio_1 rD
  simp [ev1, ev2, ev3, ev4, ev5, bind_ok, mkEnv, get?, ret_ok, dIsi, isiD, tyN, subTy, mFor_eq, forD_cons, forD_nil, mItems, DL.items?, hl, hp, he]
end My

namespace My
open PySem PySem.Spec PyProof.Rows L2 DL
/-! sizes of sums -/
def IM (M : Nat) (q : Rat) : Prop := ∃ z : Int, q * (M : Rat) = (z : Rat)
def Bd (c : Int) (q : Rat) : Prop := -(c : Rat) ≤ q ∧ q ≤ (c : Rat)
theorem IM.zero (M : Nat) : IM M 0 := ⟨0, by simp⟩
theorem IM.add {M : Nat} {p q : Rat} : IM M p → IM M q → IM M (p + q) := fun ⟨a, h⟩ ⟨b, k⟩ => ⟨a + b, by rw [Rat.add_mul, h, k, Rat.intCast_add]⟩
theorem IM.imul {M : Nat} {q : Rat} (w : Int) : IM M q → IM M ((w : Rat) * q) := fun ⟨a, h⟩ => ⟨w * a, by rw [Rat.mul_assoc, h, Rat.intCast_mul]⟩
theorem Bd.zero : Bd 0 0 := ⟨by decide, by decide⟩
theorem Bd.add {c d : Int} {p q : Rat} (h : Bd c p) (k : Bd d q) : Bd (c + d) (p + q) := by
  obtain ⟨a, b⟩ := h
  obtain ⟨e, f⟩ := k
  constructor
  · rw [Rat.intCast_add]; grind
  · rw [Rat.intCast_add]; grind
theorem Bd.mono {c d : Int} {q : Rat} (h : Bd c q) (hcd : c ≤ d) : Bd d q := by
  obtain ⟨a, b⟩ := h
  have : (c : Rat) ≤ (d : Rat) := Rat.intCast_le_intCast.mpr hcd
  constructor <;> grind
theorem Bd.mul {c d : Int} {p q : Rat} (h : Bd c p) (k : Bd d q) : Bd (c * d) (p * q) := by
  obtain ⟨a, b⟩ := h
  obtain ⟨e, f⟩ := k
  have h1 := Rat.mul_nonneg (a := (c : Rat) - p) (b := (d : Rat) + q) (by grind) (by grind)
  have h2 := Rat.mul_nonneg (a := (c : Rat) + p) (b := (d : Rat) - q) (by grind) (by grind)
  have h3 := Rat.mul_nonneg (a := (c : Rat) - p) (b := (d : Rat) - q) (by grind) (by grind)
  have h4 := Rat.mul_nonneg (a := (c : Rat) + p) (b := (d : Rat) + q) (by grind) (by grind)
  constructor
  · rw [Rat.intCast_mul]; grind
  · rw [Rat.intCast_mul]; grind
theorem Bd.int {w : Int} {c : Int} (h : w.natAbs ≤ c.toNat) (hc : 0 ≤ c) : Bd c (w : Rat) := by
  have h1 : w ≤ c := by omega
  have h2 : -c ≤ w := by omega
  refine ⟨?_, Rat.intCast_le_intCast.mpr h1⟩
  have := Rat.intCast_le_intCast.mpr h2
  rwa [Rat.intCast_neg] at this
theorem Bd.num {c : Int} {q : Rat} (h : Bd c q) : q.num.natAbs ≤ c.toNat * q.den := by
  obtain ⟨a, b⟩ := h
  have b' := (Rat.le_iff _ _).mp b
  have a' : ((-c : Int) : Rat) ≤ q := by rw [Rat.intCast_neg]; exact a
  have a' := (Rat.le_iff _ _).mp a'
  simp only [Rat.num_intCast, Rat.den_intCast] at a' b'
  have hd := q.den_pos
  have hc : 0 ≤ c := by
    rcases Int.lt_or_le c 0 with z | z
    · exfalso
      have h1 : c * (q.den : Int) < 0 := Int.mul_neg_of_neg_of_pos z (by omega)
      have h2 : -c * (q.den : Int) = -(c * (q.den : Int)) := Int.neg_mul ..
      omega
    · exact z
  have hcast : ((c.toNat * q.den : Nat) : Int) = c * (q.den : Int) := by
    rw [Int.natCast_mul, Int.toNat_of_nonneg hc]
  have h2 : -c * (q.den : Int) = -(c * (q.den : Int)) := Int.neg_mul ..
  omega
theorem IM.eq {M : Nat} {q : Rat} (hM : 0 < M) : IM M q → ∃ z : Int, q = Rat.divInt z M := fun ⟨z, h⟩ => ⟨z, by
  have hM' : (M : Rat) ≠ 0 := by
    intro e
    have := (Rat.natCast_inj (a := M) (b := 0)).mp (by simpa using e)
    omega
  rw [Rat.divInt_eq_div]
  have : ((M : Int) : Rat) = (M : Rat) := rfl
  rw [this, ← h]
  grind⟩
theorem IM.den {M : Nat} {q : Rat} (hM : 0 < M) (h : IM M q) : q.den ≤ M := by
  obtain ⟨z, rfl⟩ := h.eq hM
  rw [Rat.den_divInt, if_neg (by omega)]
  exact Nat.le_trans (Nat.div_le_self _ _) (by simp)
theorem sm_of {M m a : Nat} {q : Rat} (hM : 0 < M) (hm : M < 2 ^ m) (h : IM M q) (b : Bd (2 ^ a : Nat) q) : Sm (a + m) q := by
  have h1 := h.den hM
  have h2 := b.num
  have h3 : q.den < 2 ^ m := by omega
  have h4 : (2 ^ a : Nat) * q.den < 2 ^ (a + m) := by
    rw [Nat.pow_add]
    exact (Nat.mul_lt_mul_left (Nat.two_pow_pos a)).mpr h3
  have h5 : ((2 ^ a : Nat) : Int).toNat = 2 ^ a := Int.toNat_natCast _
  rw [h5] at h2
  refine ⟨by omega, Nat.lt_of_lt_of_le h3 (Nat.pow_le_pow_right (by omega) (by omega))⟩
theorem IM.of_den {q : Rat} {M : Nat} (h : q.den ∣ M) : IM M q := by
  obtain ⟨k, rfl⟩ := h
  refine ⟨q.num * k, ?_⟩
  have e : q * ((q.den : Nat) : Rat) = (q.num : Rat) := by
    have h0 := Rat.num_divInt_den q
    rw [Rat.divInt_eq_div] at h0
    have h1 : ((q.den : Int) : Rat) = (q.den : Rat) := rfl
    rw [h1] at h0
    have h2 : (q.den : Rat) ≠ 0 := by
      intro e
      have := (Rat.natCast_inj (a := q.den) (b := 0)).mp (by simpa using e)
      exact absurd this (Nat.pos_iff_ne_zero.mp q.den_pos)
    grind
  rw [Rat.natCast_mul, ← Rat.mul_assoc, e, Rat.intCast_mul]
  rfl
theorem IM.mul {M N : Nat} {p q : Rat} : IM M p → IM N q → IM (M * N) (p * q) := fun ⟨a, h⟩ ⟨b, k⟩ => ⟨a * b, by
  rw [Rat.natCast_mul, Rat.intCast_mul, ← h, ← k]
  grind⟩
theorem IM.more {M N : Nat} {q : Rat} : IM M q → IM (M * N) q := fun ⟨a, h⟩ => ⟨a * N, by
  rw [Rat.natCast_mul, Rat.intCast_mul, ← h, ← Rat.mul_assoc]
  rfl⟩
end My

namespace My
open PySem PySem.Spec PyProof.Rows L2 DL
/-! rows -/
theorem chain_le {mc : List D → Res D} {a b c : Int} {st : List D} (h : mc st = .ok (.int c) st) : chainR dLe dLe mc (.int a) (.int b) st = .ok (.bl (decide (a ≤ b) && decide (b ≤ c))) st := by
  unfold chainR
  have e : dLe (.int a) (.int b) = some (.bl (decide (a ≤ b))) := rfl
  rw [e]
  by_cases hab : a ≤ b
  · simp only [hab, decide_true, h, bind_ok, Bool.true_and]; rfl
  · simp only [hab, decide_false, Bool.false_and]
theorem chain_leC (a b c : Int) (env : Env') (st : List D) : chainR dLe dLe (mC (.int c) env) (.int a) (.int b) st = .ok (.bl (decide (a ≤ b) && decide (b ≤ c))) st := chain_le rfl
theorem ix_lst {xs : List D} {i : Nat} (h : i < xs.length) (st : List D) : ixS (.lst xs) (.int (i : Int)) st = .ok xs[i] st := by
  rw [ev5.2.2.2.2.2.1, atI_nat h]; rfl
theorem ix_tup {xs : List D} {i : Nat} (h : i < xs.length) (st : List D) : ixS (.tup xs) (.int (i : Int)) st = .ok xs[i] st := by
  rw [ev5.2.2.2.2.1, atI_nat h]; rfl
def S1 : List Int → List Rat → Rat
  | w :: ws, v :: vs => (w : Rat) * v + S1 ws vs
  | _, _ => 0
def S2 : List Int → List Rat → Rat
  | w :: ws, v :: vs => (w : Rat) * (v * v) + S2 ws vs
  | _, _ => 0
/-- all speeds fit: s bits each, together over one bottom of m bits, below 2 ^ a -/
structure Fit (s a m : Nat) (vs : List Rat) : Prop where
  ex : ∃ M : Nat, 0 < M ∧ M < 2 ^ m ∧ ∀ v ∈ vs, Sm s v ∧ IM M v ∧ IM M (v * v) ∧ Bd (2 ^ a : Nat) v
  ok : 2 * a + m + 2 * s + 30 ≤ 7000
theorem Fit.sm {s a m : Nat} {vs : List Rat} (f : Fit s a m vs) : ∀ v ∈ vs, Sm s v := fun v hv => let ⟨_, _, _, h⟩ := f.ex; (h v hv).1
inductive TL (n : Nat) : List D → List Rat → Prop
  | nil : TL n [] []
  | cons {x : D} {v : Rat} {xs : List D} {vs : List Rat} : Tells n x v → TL n xs vs → TL n (x :: xs) (v :: vs)
theorem TL.len {n : Nat} : ∀ {xs : List D} {vs : List Rat}, TL n xs vs → xs.length = vs.length
  | _, _, .nil => rfl
  | _, _, .cons _ r => congrArg (· + 1) r.len
theorem TL.rat {n : Nat} : ∀ {vs : List Rat}, (∀ v ∈ vs, Sm n v) → TL n (vs.map rD) vs
  | [], _ => .nil
  | v :: vs, h => .cons (.rat (h v List.mem_cons_self)) (TL.rat fun u hu => h u (List.mem_cons_of_mem _ hu))
theorem TL.get {n : Nat} : ∀ {xs : List D} {vs : List Rat}, TL n xs vs → ∀ (i : Nat) (h : i < xs.length), ∃ v, Tells n xs[i] v
  | _, _, .cons h _, 0, _ => ⟨_, h⟩
  | _, _, .cons _ r, i + 1, h => r.get i (Nat.lt_of_succ_lt_succ h)
theorem tells_int {w : Int} (h : 1 ≤ w ∧ w ≤ 9) : Tells 4 (.int w) (w : Rat) := .one w (by omega) (by omega)
theorem bd_w {w : Int} (h : 1 ≤ w ∧ w ≤ 9) : Bd 9 (w : Rat) := Bd.int (by omega) (by omega)
theorem row_loop {s a m M : Nat} (hM : 0 < M) (hm : M < 2 ^ m) (hz : 2 * a + m + 2 * s + 30 ≤ 7000) (e0 e1 e2 e3 e4 : Option D) (st : List D) :
    ∀ (ws : List Int) (vs : List Rat) (k : Nat) (p q : Rat) (x y : Option D), (∀ w ∈ ws, 1 ≤ w ∧ w ≤ 9) → (∀ v ∈ vs, Sm s v ∧ IM M v ∧ IM M (v * v) ∧ Bd (2 ^ a : Nat) v) → k + ws.length ≤ 40 → ws.length = vs.length → IM M p → IM M q → Bd (k * (9 * (2 ^ a : Nat))) p → Bd (k * (9 * ((2 ^ a : Nat) * (2 ^ a : Nat)))) q →
      ∃ x' y', forD (gTp (gsCons (gNm 7) (gsCons (gNm 8) (gsNil)))) bd_Row___init___2
        (List.zipWith (fun x y => .tup [x, y]) (ws.map .int) (vs.map rD)) [e0, e1, e2, e3, e4, some (rD p), some (rD q), x, y] st = .nx [e0, e1, e2, e3, e4, some (rD (p + S1 ws vs)), some (rD (q + S2 ws vs)), x', y'] st
  | [], [], k, p, q, x, y, _, _, _, _, _, _, _, _ => ⟨x, y, by
      have e1 : p + S1 [] [] = p := Rat.add_zero p
      have e2 : q + S2 [] [] = q := Rat.add_zero q
      rw [e1, e2]; rfl⟩
  | w :: ws, v :: vs, k, p, q, x, y, hw, hv, hk, hl, ip, iq, bp, bq => by
    have hk : k + (ws.length + 1) ≤ 40 := hk
    have hl : ws.length + 1 = vs.length + 1 := hl
    obtain ⟨v1, v2, v3, v4⟩ := hv v List.mem_cons_self
    have w1 := hw w List.mem_cons_self
    have tw := tells_int w1
    have tv : Tells s (rD v) v := .rat v1
    have twv := sm_mul tw.sm v1
    have tvv := sm_mul v1 v1
    have twvv := sm_mul tw.sm tvv
    have b9 : ∀ (c : Nat) (r : Rat), Bd (k * (9 * (c : Int))) r → Bd ((2 ^ 9 * c : Nat) : Int) r := fun c r h => h.mono (by
      have h1 : (k : Int) * (9 * (c : Int)) = ((k * (9 * c) : Nat) : Int) := by simp
      rw [h1]
      have h2 : k * (9 * c) ≤ 39 * (9 * c) := Nat.mul_le_mul_right _ (by omega)
      omega)
    have sp : Sm (9 + a + m) p := sm_of hM hm ip (by
      have := b9 (2 ^ a) p bp
      rwa [← Nat.pow_add] at this)
    have sq : Sm (9 + (a + a) + m) q := sm_of hM hm iq (by
      have bq' : Bd (k * (9 * ((2 ^ a * 2 ^ a : Nat) : Int))) q := by rw [Int.natCast_mul]; exact bq
      have := b9 (2 ^ a * 2 ^ a) q bq'
      rwa [← Nat.pow_add, ← Nat.pow_add] at this)
    have f1 := e_times tw tv (by omega) st
    have f2 := e_plus (Tells.rat sp) (Tells.rat twv) (by omega) st
    have f3 := e_times tv tv (by omega) st
    have f4 := e_times tw (Tells.rat tvv) (by omega) st
    have f5 := e_plus (Tells.rat sq) (Tells.rat twvv) (by omega) st
    have c1 : ((k + 1 : Nat) : Int) * (9 * ((2 ^ a : Nat) : Int)) = k * (9 * (2 ^ a : Nat)) + 9 * (2 ^ a : Nat) := by rw [Int.natCast_add, Int.add_mul]; simp
    have c2 : ((k + 1 : Nat) : Int) * (9 * (((2 ^ a : Nat) : Int) * (2 ^ a : Nat))) = k * (9 * ((2 ^ a : Nat) * (2 ^ a : Nat))) + 9 * ((2 ^ a : Nat) * (2 ^ a : Nat)) := by rw [Int.natCast_add, Int.add_mul]; simp
    obtain ⟨x', y', ih⟩ := row_loop hM hm hz e0 e1 e2 e3 e4 st ws vs (k + 1) (p + (w : Rat) * v) (q + (w : Rat) * (v * v)) (some (.int w)) (some (rD v)) (fun u hu => hw u (List.mem_cons_of_mem _ hu)) (fun u hu => hv u (List.mem_cons_of_mem _ hu)) (by omega) (by omega) (ip.add (v2.imul w)) (iq.add (v3.imul w)) (by rw [c1]; exact bp.add ((bd_w w1).mul v4)) (by rw [c2]; exact bq.add ((bd_w w1).mul (v4.mul v4)))
    refine ⟨x', y', ?_⟩
    have r1 : p + S1 (w :: ws) (v :: vs) = p + (w : Rat) * v + S1 ws vs := by
      show p + ((w : Rat) * v + S1 ws vs) = _
      rw [Rat.add_assoc]
    have r2 : q + S2 (w :: ws) (v :: vs) = q + (w : Rat) * (v * v) + S2 ws vs := by
      show q + ((w : Rat) * (v * v) + S2 ws vs) = _
      rw [Rat.add_assoc]
    rw [r1, r2, ← ih]
    simp only [List.map_cons, List.zipWith_cons_cons, forD_cons]
    unfold bd_Row___init___2
    simp only [ev1, ev2, ev3, gNm, bind_ok, Option.bind_some, get?, ret_ok, List.set_cons_zero, List.set_cons_succ, f1, f2, f3, f4, f5]
def gc (n : Nat) (wall : Bool) : Nat := if wall then n else n - 1
def likeB : List Int → Bool
  | [] => true
  | w :: ws => decide (PySem.W.maxOf w ws = PySem.W.minOf w ws)
def rowF (ws : List Int) (vs : List Rat) (wall : Bool) : List (Str × D) := [("weights", .tup (ws.map .int)), ("speeds", .tup (vs.map rD)), ("wall", .bl wall), ("pairs", .tup (rangeD (if wall then -1 else 0) (gc ws.length wall))), ("gap_count", .int (gc ws.length wall : Nat)), ("is_like", .bl (likeB ws)), ("first_sum", rD (S1 ws vs)), ("second_sum", rD (S2 ws vs))]
def rowD (ws : List Int) (vs : List Rat) (wall : Bool) : D := .obj c_Row (rowF ws vs wall)
/-- a list or a tuple -/
def SeqD (d : D) (xs : List D) : Prop := d = .lst xs ∨ d = .tup xs
theorem SeqD.len {d : D} {xs : List D} (h : SeqD d xs) : c1 dLen [d] = some (.int (xs.length : Nat)) := by rcases h with rfl | rfl <;> rfl
theorem SeqD.ix {d : D} {xs : List D} (h : SeqD d xs) {i : Nat} (hi : i < xs.length) (st : List D) : ixS d (.int (i : Int)) st = .ok xs[i] st := by
  rcases h with rfl | rfl
  · exact ix_lst hi st
  · exact ix_tup hi st
theorem SeqD.isi {d : D} {xs : List D} (h : SeqD d xs) : dIsi [d, .tup [.ty "list", .ty "tuple"]] = some (.bl true) := by
  rcases h with rfl | rfl <;> rfl
theorem SeqD.tup {d : D} {xs : List D} (h : SeqD d xs) : c1 dTuple [d] = some (.tup xs) := by rcases h with rfl | rfl <;> rfl
theorem SeqD.items {d : D} {xs : List D} (h : SeqD d xs) (st : List D) : DL.items? d st = .ok xs st := by rcases h with rfl | rfl <;> rfl
theorem rng1_nat {n : Nat} (h : n ≤ 1000) (st : List D) : rng1? [.int (n : Int)] st = .ok (rangeD 0 n) st := by
  have h2 : (n : Int) ≤ (1000 : Int) := Int.ofNat_le.mpr h
  have hc : -(2 ^ 62) ≤ (n : Int) ∧ (n : Int) < 2 ^ 62 := ⟨Int.le_trans (by decide : -(2 ^ 62) ≤ (0 : Int)) (Int.natCast_nonneg n), Int.lt_of_le_of_lt h2 (by decide)⟩
  have e : rng1? [.int (n : Int)] st = @ite _ (-(2 ^ 62) ≤ (n : Int) ∧ (n : Int) < 2 ^ 62) (Classical.propDecidable _) (.ok (rangeD 0 (n : Int).toNat) st) .bad := rfl
  rw [e, if_pos hc, Int.toNat_natCast]
theorem rangeD_cons (lo : Int) (n : Nat) : rangeD lo (n + 1) = .int lo :: rangeD (lo + 1) n := by
  unfold rangeD
  rw [List.range_succ_eq_map, List.map_cons, List.map_map]
  congr 1
  · simp
  · refine List.map_congr_left fun i _ => ?_
    show D.int (lo + ((i + 1 : Nat) : Int)) = _
    congr 1
    omega
theorem cb_loop {W V : D} {ws : List Int} {xs : List D} {vs : List Rat} {n : Nat} {e2 e3 : Option D} (hW : SeqD W (ws.map .int)) (hV : SeqD V xs) (hx : TL n xs vs) (hl : ws.length = vs.length) (hw : ∀ w ∈ ws, 1 ≤ w ∧ w ≤ 9) (st : List D) :
    ∃ x, forD (gNm 4) bd_check_balls_1 (rangeD 0 ws.length) [some W, some V, e2, e3, none] st = .nx [some W, some V, e2, e3, x] st := by
  have hlx : xs.length = ws.length := by rw [hx.len, hl]
  obtain ⟨env', st', hf, x, rfl, rfl⟩ := forD_inv (g := gNm 4) (body := bd_check_balls_1)
    (fun env st' => ∃ x, env = [some W, some V, e2, e3, x] ∧ st' = st) (fun d => ∃ i : Nat, i < ws.length ∧ d = .int (i : Int))
    (by
      rintro d env st' ⟨i, hi, rfl⟩ ⟨x, rfl, rfl⟩
      have a1 := hW.ix (i := i) (by rw [List.length_map]; exact hi) st'
      have a2 := hV.ix (i := i) (by omega) st'
      rw [List.getElem_map] at a1
      obtain ⟨v, hv⟩ := hx.get i (by omega)
      have a3 := e_is_ratio hv st'
      have a4 := e_is_whole_int ws[i] st'
      obtain ⟨b1, b2⟩ := hw _ (List.getElem_mem hi)
      refine ⟨_, [some W, some V, e2, e3, some (.int (i : Int))], st', rfl, ?_, _, rfl, rfl⟩
      unfold bd_check_balls_1
      simp [ev, bind_ok, mkEnv, get?, ret_ok, a1, a2, a3, a4, chain_le, b1, b2])
    (rangeD 0 ws.length) [some W, some V, e2, e3, none] st
    (fun d hd => by
      unfold rangeD at hd
      obtain ⟨i, hi, rfl⟩ := List.mem_map.mp hd
      exact ⟨i, List.mem_range.mp hi, by simp⟩) ⟨none, rfl, rfl⟩
  exact ⟨x, hf⟩
theorem e_check_balls {W V : D} {ws : List Int} {xs : List D} {vs : List Rat} {n : Nat} {wall : Bool} (hW : SeqD W (ws.map .int)) (hV : SeqD V xs) (hx : TL n xs vs) (hl : ws.length = vs.length) (h1 : (if wall then 1 else 2) ≤ ws.length) (h2 : ws.length ≤ 40) (hw : ∀ w ∈ ws, 1 ≤ w ∧ w ≤ 9) (st : List D) :
    m_check_balls [W, V, .bl wall] st = .ok .non st := by
  have hlx : xs.length = ws.length := by rw [hx.len, hl]
  have lw := hW.len
  have lv := hV.len
  have iw := hW.isi
  have iv := hV.isi
  rw [List.length_map] at lw
  have rg := rng1_nat (n := ws.length) (by omega) st
  have hb : dIsi [.bl wall, .ty "bool"] = some (.bl true) := rfl
  have h2' : (ws.length : Int) ≤ 40 := by omega
  unfold m_check_balls b_check_balls
  have hff : ∀ e2 e3, ∃ x, F_check_balls_1 [some W, some V, e2, e3, none] st = .nx [some W, some V, e2, e3, x] st := fun e2 e3 => by
    obtain ⟨x, hf⟩ := cb_loop (e2 := e2) (e3 := e3) hW hV hx hl hw st
    exact ⟨x, mFor_of (mThenA_of (xs := [.int (ws.length : Int)]) (st1 := st) (by simp only [ev, bind_ok, get?, ret_ok, lw]) rg) hf⟩
  cases wall
  · have h1' : (2 : Int) ≤ ws.length := by simp at h1; omega
    obtain ⟨x, hf⟩ := hff (some (.bl false)) (some (.int 2))
    simp only [ev, bind_ok, mkEnv, get?, ret_ok, hb, lw, lv, iw, iv, hlx, chain_leC, h1', h2', decide_true, Bool.and_self, if_true, if_false, Bool.not_true, Bool.not_false, Bool.false_eq_true, List.set_cons_zero, List.set_cons_succ, hf]
  · have h1' : (1 : Int) ≤ ws.length := by simp at h1; omega
    obtain ⟨x, hf⟩ := hff (some (.bl true)) (some (.int 1))
    simp only [ev, bind_ok, mkEnv, get?, ret_ok, hb, lw, lv, iw, iv, hlx, chain_leC, h1', h2', decide_true, Bool.and_self, if_true, if_false, Bool.not_true, Bool.not_false, Bool.false_eq_true, List.set_cons_zero, List.set_cons_succ, hf]
theorem lc_ratio {n : Nat} (hn : n ≤ 8000) (env : Env') (st : List D) : ∀ {xs : List D} {vs : List Rat}, TL n xs vs → 8 < env.length → lcD env (gNm 8) mYes el_Row___init___1 xs st = .ok (vs.map rD) st
  | _, _, .nil, _ => rfl
  | _, _, .cons (x := x) (v := v) h r, he => by
    have ih := lc_ratio hn env st r he
    have h1 := e_ratio_of h hn st
    have hv : mVar 8 (env.set 8 (some x)) st = .ok x st := by
      unfold mVar
      rw [List.getElem?_set_self he]
    unfold lcD
    simp only [gNm, mYes, noEr, bind_ok, if_true, List.map_cons]
    unfold el_Row___init___1
    simp only [ev, bind_ok]
    rw [mVar_eq] at hv
    rw [hv]
    simp only [bind_ok, h1]
    rw [show lcD env (gNm 8) mYes (mCall m_ratio_of (mCons (mVar 8) mNil)) _ st = _ from ih]
    rfl
end My

namespace My
open PySem PySem.Spec PyProof.Rows L2 DL
theorem fldSR_ok {okF : Nat → Str → Bool} {f : Str} {c : Nat} {fs : List (Str × D)} {env : Env'} {d : D} {st : List D} (h : okF c f = true) (hl : fs.length < 1000) : fldSR okF f c fs env (.ok d st) = .nx (some (.obj c (putD f d fs)) :: env) st := by
  show (if okF c f = true ∧ fs.length < 1000 then _ else _) = _
  rw [if_pos ⟨h, hl⟩]
theorem putD_new {f : Str} {d : D} {names : List Str} : ∀ {fs : List (Str × D)}, fs.map (·.1) = names → (∀ n ∈ names, n ≠ f) → putD f d fs = fs ++ [(f, d)]
  | [], _, _ => rfl
  | (g, x) :: r, e, h => by
    subst e
    rw [putD_ne (h g List.mem_cons_self), putD_new rfl fun n hn => h n (List.mem_cons_of_mem _ hn)]
    rfl
theorem mFldS_of {f : Str} {me : ME} {fs fs' : List (Str × D)} {env : Env'} {st st1 : List D} {d : D} (names : List Str) (h : me (some (.obj c_Row fs) :: env) st = .ok d st1) (ok : okF c_Row f = true) (hn : fs.map (·.1) = names) (hl : names.length < 1000) (nf : ∀ n ∈ names, n ≠ f) (e : fs ++ [(f, d)] = fs') :
    mFldS okF f me (some (.obj c_Row fs) :: env) st = .nx (some (.obj c_Row fs') :: env) st1 := by
  rw [ev6.2.2.2.1, h, fldSR_ok ok (by rw [← hn, List.length_map] at hl; exact hl), putD_new hn nf, e]
theorem ok_row : okF c_Row "weights" = true ∧ okF c_Row "speeds" = true ∧ okF c_Row "wall" = true ∧ okF c_Row "pairs" = true ∧ okF c_Row "gap_count" = true ∧ okF c_Row "is_like" = true ∧ okF c_Row "first_sum" = true ∧ okF c_Row "second_sum" = true := by decide +kernel
theorem dFld_of {okF : Nat → Str → Bool} {f : Str} {c : Nat} {fs : List (Str × D)} {d : D} (h : okF c f = true) (k : fs.lookup f = some d) : dFld okF f (.obj c fs) = some d := by
  show (if okF c f = true then fs.lookup f else none) = _
  rw [if_pos h, k]
theorem tupRg_nat {wall : Bool} {n : Nat} (h : n ≤ 1000) (h1 : 1 ≤ n) : dTupRg (.int (if wall then -1 else 0)) (.int ((n : Int) - 1)) = some (.tup (rangeD (if wall then -1 else 0) (gc n wall))) := by
  have e : dTupRg (.int (if wall then -1 else 0)) (.int ((n : Int) - 1)) = if RgOk (if wall then -1 else 0) ((n : Int) - 1) then some (D.tup (rangeD (if wall then -1 else 0) (((n : Int) - 1) - (if wall then -1 else 0)).toNat)) else none := rfl
  have hr : RgOk (if wall then -1 else 0) ((n : Int) - 1) := by
    unfold RgOk
    have hz : (1000 : Int) ≤ sizeLine := by decide
    have h62 : (1000 : Int) < 2 ^ 62 := by decide
    have h62' : -(2 ^ 62) ≤ (-1 : Int) := by decide
    generalize (2 : Int) ^ 62 = B at *
    cases wall <;> simp only [Bool.false_eq_true, if_false, if_true] <;> refine ⟨?_, ?_, ?_, ?_, ?_⟩ <;> omega
  rw [e, if_pos hr]
  have : (((n : Int) - 1) - (if wall then -1 else 0)).toNat = gc n wall := by
    unfold gc
    cases wall <;> simp <;> omega
  rw [this]
theorem ints_map : ∀ ws : List Int, ints? (ws.map D.int) = some ws
  | [] => rfl
  | w :: ws => by
    show (ints? (ws.map D.int)).map (w :: ·) = _
    rw [ints_map ws]; rfl
theorem max_map {f : Int → List Int → Int} {w : Int} {ws : List Int} : dMaxT f [.tup ((w :: ws).map D.int)] = some (.int (f w ws)) := by
  have h := ints_map (w :: ws)
  show (match ints? ((w :: ws).map D.int) with | some (n :: ns) => some (D.int (f n ns)) | _ => none) = _
  rw [h]
theorem dTup_lst (xs : List D) : c1 dTuple [.lst xs] = some (.tup xs) := rfl
theorem e_Row {W V : D} {ws : List Int} {xs : List D} {vs : List Rat} {n s a m : Nat} {wall : Bool} (hW : SeqD W (ws.map .int)) (hV : SeqD V xs) (hx : TL n xs vs) (hn : n ≤ 8000) (hl : ws.length = vs.length) (h1 : (if wall then 1 else 2) ≤ ws.length) (h2 : ws.length ≤ 40) (hw : ∀ w ∈ ws, 1 ≤ w ∧ w ≤ 9) (ft : Fit s a m vs) (st : List D) :
    m_Row___init__ [W, V, .bl wall] st = .ok (rowD ws vs wall) st := by
  have cb := e_check_balls hW hV hx hl h1 h2 hw st
  obtain ⟨M, hM, hm, hv⟩ := ft.ex
  have hlen : 1 ≤ ws.length := by cases wall <;> simp at h1 <;> omega
  have tW := hW.tup
  have lW := hW.len
  rw [List.length_map] at lW
  obtain ⟨k1, k2, k3, k4, k5, k6, k7, k8⟩ := ok_row
  obtain ⟨x', y', lp⟩ := row_loop hM hm ft.ok (some (.obj c_Row [("weights", .tup (ws.map .int)), ("speeds", .tup (vs.map rD)), ("wall", .bl wall), ("pairs", .tup (rangeD (if wall then -1 else 0) (gc ws.length wall))), ("gap_count", .int (gc ws.length wall : Nat)), ("is_like", .bl (likeB ws))])) (some W) (some V) (some (.bl wall)) (some (.int (if wall then -1 else 0))) st ws vs 0 0 0 none none hw hv (by omega) hl (IM.zero M) (IM.zero M) (by simpa using Bd.zero) (by simpa using Bd.zero)
  have r0 : rD 0 = .tup [.int 0, .int 1] := rfl
  rw [Rat.zero_add, Rat.zero_add, r0] at lp
  unfold m_Row___init__
  rw [initM_eq (by simp)]
  unfold b_Row___init__
  have s1 : mDrop (mCall m_check_balls (mCons (mVar 1) (mCons (mVar 2) (mCons (mVar 3) (mNil))))) (some (.obj c_Row []) :: mkEnv 8 [W, V, .bl wall]) st = .nx (some (.obj c_Row []) :: mkEnv 8 [W, V, .bl wall]) st := by
    simp only [ev, bind_ok, mkEnv, get?, ret_ok, cb]
  show initR (mSeq _ _ (some (.obj c_Row []) :: mkEnv 8 [W, V, .bl wall]) st) = _
  rw [mSeq_of s1]
  rw [mSeq_of (mFldS_of (st1 := st) (d := .tup (ws.map .int)) [] (by simp only [ev, bind_ok, mkEnv, get?, ret_ok, tW]) k1 rfl (by decide) (by decide) rfl)]
  have lc : L_Row___init___1 (some (.obj c_Row [("weights", .tup (ws.map .int))]) :: mkEnv 8 [W, V, .bl wall]) st = .ok (.lst (vs.map rD)) st := by
    unfold L_Row___init___1
    refine mLC_of (mItems_of (me := mVar 2) (x := V) (st1 := st) (by simp only [ev, mkEnv, get?]) (hV.items st)) (lc_ratio hn _ st hx (by simp [mkEnv, wipeE])) (by rw [List.length_map]; omega)
  rw [mSeq_of (mFldS_of (st1 := st) (d := .tup (vs.map rD)) ["weights"] (by simp only [ev, bind_ok, List.nil_append, lc, ret_ok, dTup_lst]) k2 rfl (by decide) (by decide +kernel) rfl)]
  rw [mSeq_of (mFldS_of (st1 := st) (d := .bl wall) ["weights", "speeds"] (by simp only [ev, mkEnv, get?]) k3 rfl (by decide) (by decide +kernel) rfl)]
  rw [mSeq_of (mSet_of (i := 4) (st := st) (d := .int (if wall then -1 else 0)) (s := st) (by cases wall <;> simp only [ev, bind_ok, mkEnv, get?, ret_ok, if_true, if_false, Bool.false_eq_true])) ]
  have tr := tupRg_nat (wall := wall) (n := ws.length) (by omega) hlen
  simp only [mkEnv, List.cons_append, List.nil_append, List.set_cons_succ, List.set_cons_zero]
  rw [mSeq_of (mFldS_of (st1 := st) (d := .tup (rangeD (if wall then -1 else 0) (gc ws.length wall))) ["weights", "speeds", "wall"] (by simp only [ev, bind_ok, get?, ret_ok, lW, tr]) k4 rfl (by decide) (by decide +kernel) rfl)]
  simp only [List.cons_append, List.nil_append]
  have hp : dFld okF "pairs" (.obj c_Row [("weights", .tup (ws.map .int)), ("speeds", .tup (vs.map rD)), ("wall", .bl wall), ("pairs", .tup (rangeD (if wall then -1 else 0) (gc ws.length wall)))]) = some (.tup (rangeD (if wall then -1 else 0) (gc ws.length wall))) := dFld_of k4 (by rw [DL.look_ne (by decide +kernel), DL.look_ne (by decide +kernel), DL.look_ne (by decide +kernel), DL.look_same])
  have rl : ∀ lo n, (rangeD lo n).length = n := rangeD_len
  rw [mSeq_of (mFldS_of (st1 := st) (d := .int (gc ws.length wall : Nat)) ["weights", "speeds", "wall", "pairs"] (by simp only [ev, bind_ok, get?, ret_ok, hp, rl]) k5 rfl (by decide) (by decide +kernel) rfl)]
  simp only [List.cons_append, List.nil_append]
  have lk : (mOp dEq (mCall1 (dMaxT PySem.W.maxOf) (mCons (mFld okF "weights" (mVar 0)) (mNil))) (mCall1 (dMaxT PySem.W.minOf) (mCons (mFld okF "weights" (mVar 0)) (mNil)))) (some (.obj c_Row [("weights", .tup (ws.map .int)), ("speeds", .tup (vs.map rD)), ("wall", .bl wall), ("pairs", .tup (rangeD (if wall then -1 else 0) (gc ws.length wall))), ("gap_count", .int (gc ws.length wall : Nat))]) :: [some W, some V, some (.bl wall), some (.int (if wall then -1 else 0)), none, none, none, none]) st = .ok (.bl (likeB ws)) st := by
    have hd : ∀ fs, dFld okF "weights" (.obj c_Row (("weights", .tup (ws.map .int)) :: fs)) = some (.tup (ws.map .int)) := fun fs => dFld_of k1 (DL.look_same _ _ _)
    cases ws with
    | nil => simp at hlen
    | cons w ws =>
      simp only [ev, bind_ok, get?, ret_ok, hd, max_map]
      rfl
  rw [mSeq_of (mFldS_of ["weights", "speeds", "wall", "pairs", "gap_count"] lk k6 rfl (by decide) (by decide +kernel) rfl)]
  simp only [List.cons_append, List.nil_append]
  rw [mSeq_of (mSet_of (i := 5) (st := st) (d := .tup [.int 0, .int 1]) (s := st) (by simp only [ev, bind_ok]))]
  rw [mSeq_of (mSet_of (i := 6) (st := st) (d := .tup [.int 0, .int 1]) (s := st) (by simp only [ev, bind_ok]))]
  simp only [List.set_cons_succ, List.set_cons_zero]
  have hd1 : ∀ fs, dFld okF "weights" (.obj c_Row (("weights", .tup (ws.map .int)) :: fs)) = some (.tup (ws.map .int)) := fun fs => dFld_of k1 (DL.look_same _ _ _)
  have hd2 : ∀ x fs, dFld okF "speeds" (.obj c_Row (("weights", x) :: ("speeds", .tup (vs.map rD)) :: fs)) = some (.tup (vs.map rD)) := fun x fs => dFld_of k2 (by rw [DL.look_ne (by decide +kernel), DL.look_same])
  have fr := mFor_of (st := st) (mi := mThenA (mCons (mFld okF "weights" (mVar 0)) (mCons (mFld okF "speeds" (mVar 0)) (mNil))) zipA?) (mThenA_of (xs := [.tup (ws.map .int), .tup (vs.map rD)]) (st1 := st) (by simp only [ev, bind_ok, get?, ret_ok, hd1, hd2]) rfl) lp
  have fr : F_Row___init___2 _ st = _ := fr
  rw [mSeq_of fr]
  rw [mSeq_of (mFldS_of (st1 := st) (d := rD (S1 ws vs)) ["weights", "speeds", "wall", "pairs", "gap_count", "is_like"] (by simp only [ev, get?]) k7 rfl (by decide) (by decide +kernel) rfl)]
  simp only [List.cons_append, List.nil_append]
  rw [mFldS_of (st1 := st) (d := rD (S2 ws vs)) ["weights", "speeds", "wall", "pairs", "gap_count", "is_like", "first_sum"] (by simp only [ev, get?]) k8 rfl (by decide) (by decide +kernel) rfl]
  rfl
end My

namespace My
open PySem PySem.Spec PyProof.Rows L2 DL
/-! equality of data -/
def Sh (k : Nat) (d : D) : Prop := (toP d).canLay0 = true ∧ (toP d).depth ≤ k
def ShA (k : Nat) (ds : List D) : Prop := PyData.canLayAll0 (toPs ds) = true ∧ PyData.depthAll (toPs ds) ≤ k
theorem ShA.nil {k : Nat} : ShA k [] := ⟨rfl, Nat.zero_le _⟩
theorem ShA.cons {k : Nat} {d : D} {ds : List D} (h : Sh k d) (r : ShA k ds) : ShA k (d :: ds) := by
  obtain ⟨a, b⟩ := h
  obtain ⟨c, e⟩ := r
  constructor
  · show PyData.canLayAll0 (toP d :: toPs ds) = true
    unfold PyData.canLayAll0
    rw [a, c]; rfl
  · show PyData.depthAll (toP d :: toPs ds) ≤ k
    unfold PyData.depthAll
    omega
theorem ShA.map {α : Type} {k : Nat} {f : α → D} (h : ∀ a, Sh k (f a)) : ∀ l : List α, ShA k (l.map f)
  | [] => .nil
  | a :: l => .cons (h a) (ShA.map h l)
theorem Sh.tup {k : Nat} {ds : List D} (h : ShA k ds) : Sh (k + 1) (.tup ds) := by
  obtain ⟨a, b⟩ := h
  refine ⟨?_, ?_⟩
  · show PyData.canLay0 (.tuple (toPs ds)) = true
    unfold PyData.canLay0; exact a
  · show PyData.depth (.tuple (toPs ds)) ≤ k + 1
    unfold PyData.depth; omega
theorem Sh.lst {k : Nat} {ds : List D} (h : ShA k ds) : Sh (k + 1) (.lst ds) := by
  obtain ⟨a, b⟩ := h
  refine ⟨?_, ?_⟩
  · show PyData.canLay0 (.list (toPs ds)) = true
    unfold PyData.canLay0; exact a
  · show PyData.depth (.list (toPs ds)) ≤ k + 1
    unfold PyData.depth; omega
theorem Sh.int (k : Nat) (i : Int) : Sh k (.int i) := ⟨rfl, Nat.zero_le _⟩
theorem Sh.bl (k : Nat) (b : Bool) : Sh k (.bl b) := ⟨rfl, Nat.zero_le _⟩
theorem Sh.non (k : Nat) : Sh k .non := ⟨rfl, Nat.zero_le _⟩
theorem Sh.str (k : Nat) {x : Str} (h : (toP (.str x)).canLay0 = true) : Sh k (.str x) := ⟨h, Nat.zero_le _⟩
theorem Sh.mono {k l : Nat} {d : D} (h : Sh k d) (hk : k ≤ l) : Sh l d := ⟨h.1, Nat.le_trans h.2 hk⟩
def eqv (x y : D) : Bool := PyData.eqv (toP x) (toP y)
def eqvL (xs ys : List D) : Bool := PyData.eqvAll (toPs xs) (toPs ys)
theorem Sh.shaped {k : Nat} {d : D} (h : Sh k d) (hk : k ≤ 64) : SeqAt.shaped (toP d) = true := by
  unfold SeqAt.shaped
  rw [h.1, decide_eq_true (Nat.le_trans h.2 hk)]
  rfl
theorem eqD_of {k l : Nat} {x y : D} (h : Sh k x) (g : Sh l y) (hk : k ≤ 64) (hl : l ≤ 64) : eqD x y = some (eqv x y) := by
  unfold eqD
  rw [if_pos ⟨h.shaped hk, g.shaped hl⟩]
  rfl
theorem dEq_of {k l : Nat} {x y : D} (h : Sh k x) (g : Sh l y) (hk : k ≤ 64 := by decide) (hl : l ≤ 64 := by decide) : dEq x y = some (.bl (eqv x y)) := by
  unfold dEq; rw [eqD_of h g hk hl]; rfl
theorem dNe_of {k l : Nat} {x y : D} (h : Sh k x) (g : Sh l y) (hk : k ≤ 64 := by decide) (hl : l ≤ 64 := by decide) : dNe x y = some (.bl (!eqv x y)) := by
  unfold dNe; rw [eqD_of h g hk hl]; rfl
theorem eqv_tup (xs ys : List D) : eqv (.tup xs) (.tup ys) = eqvL xs ys := by
  show PyData.eqv (.tuple (toPs xs)) (.tuple (toPs ys)) = _
  unfold PyData.eqv; rfl
theorem eqv_lst (xs ys : List D) : eqv (.lst xs) (.lst ys) = eqvL xs ys := by
  show PyData.eqv (.list (toPs xs)) (.list (toPs ys)) = _
  unfold PyData.eqv; rfl
theorem eqvL_cons (x y : D) (xs ys : List D) : eqvL (x :: xs) (y :: ys) = (eqv x y && eqvL xs ys) := by
  show PyData.eqvAll (toP x :: toPs xs) (toP y :: toPs ys) = _
  unfold PyData.eqvAll; rfl
theorem eqvL_nil : eqvL [] [] = true := rfl
theorem eqvL_nc (x : D) (xs : List D) : eqvL [] (x :: xs) = false := rfl
theorem eqvL_cn (x : D) (xs : List D) : eqvL (x :: xs) [] = false := rfl
theorem eqv_int (i j : Int) : eqv (.int i) (.int j) = decide (i = j) := Bool.beq_eq_decide_eq i j
theorem eqv_bl (a b : Bool) : eqv (.bl a) (.bl b) = decide (a = b) := by cases a <;> cases b <;> rfl
theorem eqv_str (x y : Str) : eqv (.str x) (.str y) = (x == y) := rfl
theorem eqv_rD (p q : Rat) : eqv (rD p) (rD q) = decide (p = q) := by
  unfold rD
  rw [eqv_tup, eqvL_cons, eqvL_cons, eqvL_nil, eqv_int, eqv_int, Bool.and_true]
  rw [← Bool.decide_and, decide_eq_decide]
  exact ⟨fun ⟨a, b⟩ => Rat.ext a (by omega), fun h => by rw [h]; exact ⟨rfl, rfl⟩⟩
theorem eqvL_map {α : Type} [DecidableEq α] {f : α → D} (h : ∀ a b, eqv (f a) (f b) = decide (a = b)) : ∀ xs ys : List α, eqvL (xs.map f) (ys.map f) = decide (xs = ys)
  | [], [] => rfl
  | [], _ :: _ => by rw [List.map_nil, List.map_cons, eqvL_nc]; simp
  | _ :: _, [] => by rw [List.map_nil, List.map_cons, eqvL_cn]; simp
  | x :: xs, y :: ys => by
    rw [List.map_cons, List.map_cons, eqvL_cons, h, eqvL_map h xs ys, ← Bool.decide_and, decide_eq_decide]
    simp
theorem eqvL_rat (xs ys : List Rat) : eqvL (xs.map rD) (ys.map rD) = decide (xs = ys) := eqvL_map eqv_rD xs ys
theorem eqvL_ints (xs ys : List Int) : eqvL (xs.map .int) (ys.map .int) = decide (xs = ys) := eqvL_map eqv_int xs ys
theorem sh_rD (q : Rat) : Sh 1 (rD q) := .tup (.cons (.int 0 _) (.cons (.int 0 _) .nil))
theorem sh_rats (vs : List Rat) : Sh 2 (.tup (vs.map rD)) := .tup (.map sh_rD vs)
theorem sh_ints (ws : List Int) : Sh 1 (.tup (ws.map .int)) := .tup (.map (.int 0) ws)
/-! rows: fields and == -/
theorem f_weights (ws : List Int) (vs : List Rat) (wall : Bool) : dFld okF "weights" (rowD ws vs wall) = some (.tup (ws.map .int)) := dFld_of ok_row.1 (DL.look_same _ _ _)
theorem f_speeds (ws : List Int) (vs : List Rat) (wall : Bool) : dFld okF "speeds" (rowD ws vs wall) = some (.tup (vs.map rD)) := dFld_of ok_row.2.1 (by unfold rowF; rw [DL.look_ne (by decide +kernel), DL.look_same])
theorem f_wall (ws : List Int) (vs : List Rat) (wall : Bool) : dFld okF "wall" (rowD ws vs wall) = some (.bl wall) := dFld_of ok_row.2.2.1 (by unfold rowF; rw [DL.look_ne (by decide +kernel), DL.look_ne (by decide +kernel), DL.look_same])
theorem f_pairs (ws : List Int) (vs : List Rat) (wall : Bool) : dFld okF "pairs" (rowD ws vs wall) = some (.tup (rangeD (if wall then -1 else 0) (gc ws.length wall))) := dFld_of ok_row.2.2.2.1 (by unfold rowF; rw [DL.look_ne (by decide +kernel), DL.look_ne (by decide +kernel), DL.look_ne (by decide +kernel), DL.look_same])
theorem f_gap_count (ws : List Int) (vs : List Rat) (wall : Bool) : dFld okF "gap_count" (rowD ws vs wall) = some (.int (gc ws.length wall : Nat)) := dFld_of ok_row.2.2.2.2.1 (by unfold rowF; rw [DL.look_ne (by decide +kernel), DL.look_ne (by decide +kernel), DL.look_ne (by decide +kernel), DL.look_ne (by decide +kernel), DL.look_same])
theorem f_first_sum (ws : List Int) (vs : List Rat) (wall : Bool) : dFld okF "first_sum" (rowD ws vs wall) = some (rD (S1 ws vs)) := dFld_of ok_row.2.2.2.2.2.2.1 (by unfold rowF; rw [DL.look_ne (by decide +kernel), DL.look_ne (by decide +kernel), DL.look_ne (by decide +kernel), DL.look_ne (by decide +kernel), DL.look_ne (by decide +kernel), DL.look_ne (by decide +kernel), DL.look_same])
theorem f_second_sum (ws : List Int) (vs : List Rat) (wall : Bool) : dFld okF "second_sum" (rowD ws vs wall) = some (rD (S2 ws vs)) := dFld_of ok_row.2.2.2.2.2.2.2 (by unfold rowF; rw [DL.look_ne (by decide +kernel), DL.look_ne (by decide +kernel), DL.look_ne (by decide +kernel), DL.look_ne (by decide +kernel), DL.look_ne (by decide +kernel), DL.look_ne (by decide +kernel), DL.look_ne (by decide +kernel), DL.look_same])
theorem isC_row (ws : List Int) (vs : List Rat) (wall : Bool) : dIsC okI tabC [rowD ws vs wall, .cls c_Row] = some (.bl true) := rfl
end My

namespace My
open PySem PySem.Spec PyProof.Rows L2 DL
/-! the methods of rows -/
structure RowOk (ws : List Int) (vs : List Rat) (wall : Bool) : Prop where
  len : ws.length = vs.length
  lo : (if wall then 1 else 2) ≤ ws.length
  hi : ws.length ≤ 40
  w : ∀ w ∈ ws, 1 ≤ w ∧ w ≤ 9
theorem RowOk.map {ws : List Int} {vs : List Rat} {wall : Bool} (R : RowOk ws vs wall) (f : Rat → Rat) : RowOk ws (vs.map f) wall := ⟨by rw [List.length_map]; exact R.len, R.lo, R.hi, R.w⟩
theorem RowOk.speeds {ws : List Int} {vs : List Rat} {wall : Bool} (R : RowOk ws vs wall) {us : List Rat} (h : us.length = vs.length) : RowOk ws us wall := ⟨by rw [h]; exact R.len, R.lo, R.hi, R.w⟩
theorem mk_row {W V : D} {ws : List Int} {us : List Rat} {s a m : Nat} {wall : Bool} (hW : SeqD W (ws.map .int)) (hV : SeqD V (us.map rD)) (R : RowOk ws us wall) (f : Fit s a m us) (st : List D) : m_Row___init__ [W, V, .bl wall] st = .ok (rowD ws us wall) st :=
  e_Row hW hV (TL.rat f.sm) (by have := f.ok; omega) R.len R.lo R.hi R.w f st
theorem neg_sm {n : Nat} {q : Rat} (h : Sm n q) : Sm n (-q) := by
  obtain ⟨a, b⟩ := h
  exact ⟨by rw [Rat.neg_num]; omega, by rw [Rat.neg_den]; exact b⟩
theorem zero_sub (v : Rat) : 0 - v = -v := by grind
theorem e_with_speeds {ws : List Int} {vs us : List Rat} {wall : Bool} {V : D} {xs : List D} {n s a m : Nat} (R : RowOk ws vs wall) (hV : SeqD V xs) (hx : TL n xs us) (hn : n ≤ 8000) (hl : us.length = vs.length) (f : Fit s a m us) (st : List D) :
    m_Row_with_speeds [rowD ws vs wall, V] st = .ok (rowD ws us wall) st := by
  have mk := e_Row (W := .tup (ws.map .int)) (wall := wall) (.inr rfl) hV hx hn (by rw [hl]; exact R.len) R.lo R.hi R.w f st
  unfold m_Row_with_speeds b_Row_with_speeds
  simp only [ev, bind_ok, mkEnv, get?, ret_ok, f_weights, f_wall, List.append_nil, mk]
end My

namespace My
open PySem PySem.Spec PyProof.Rows L2 DL
/-! the law's own ratios; weights times a ratio -/
theorem rD_int (w : Int) : rD (w : Rat) = .tup [.int w, .int 1] := rfl
theorem sm_int {w : Int} {n : Nat} (h : w.natAbs < 2 ^ n) (hn : 1 ≤ n) : Sm n (w : Rat) := (Tells.one w hn h).sm
theorem ixr0 (q : Rat) (st : List D) : ixS (rD q) (.int 0) st = .ok (.int q.num) st := by unfold rD; simp only [ev5, ret_ok]
theorem ixr1 (q : Rat) (st : List D) : ixS (rD q) (.int 1) st = .ok (.int q.den) st := by unfold rD; simp only [ev5, ret_ok]
theorem e_law_add {n m : Nat} {p q : Rat} (h : Sm n p) (k : Sm m q) (hz : n + m ≤ 7000) (st : List D) : m__law_add [rD p, rD q] st = .ok (rD (p + q)) st := by
  have m1 : DL.MulOk p.num q.den := mulOk_sm h.1 k.den' (by omega)
  have m2 : DL.MulOk q.num p.den := mulOk_sm k.1 h.den' (by omega)
  have m3 : DL.MulOk p.den q.den := mulOk_sm h.den' k.den' (by omega)
  have hl := e_law_low (p.num * q.den + q.num * p.den) (p.den * q.den) (mul_ne (den0 p) (den0 q)) (sm_mono (mul_sm h.den' k.den') (by omega)) st
  rw [← add_as] at hl
  unfold m__law_add b__law_add
  simp only [ev, bind_ok, mkEnv, get?, ret_ok, ixr0, ixr1, m1, m2, m3, if_true, hl]
theorem e_law_sub {n m : Nat} {p q : Rat} (h : Sm n p) (k : Sm m q) (hz : n + m ≤ 7000) (st : List D) : m__law_sub [rD p, rD q] st = .ok (rD (p - q)) st := by
  have m1 : DL.MulOk p.num q.den := mulOk_sm h.1 k.den' (by omega)
  have m2 : DL.MulOk q.num p.den := mulOk_sm k.1 h.den' (by omega)
  have m3 : DL.MulOk p.den q.den := mulOk_sm h.den' k.den' (by omega)
  have hl := e_law_low (p.num * q.den - q.num * p.den) (p.den * q.den) (mul_ne (den0 p) (den0 q)) (sm_mono (mul_sm h.den' k.den') (by omega)) st
  rw [← sub_as] at hl
  unfold m__law_sub b__law_sub
  simp only [ev, bind_ok, mkEnv, get?, ret_ok, ixr0, ixr1, m1, m2, m3, if_true, hl]
theorem e_law_mul {n m : Nat} {p q : Rat} (h : Sm n p) (k : Sm m q) (hz : n + m ≤ 7000) (st : List D) : m__law_mul [rD p, rD q] st = .ok (rD (p * q)) st := by
  have m1 : DL.MulOk p.num q.num := mulOk_sm h.1 k.1 (by omega)
  have m3 : DL.MulOk p.den q.den := mulOk_sm h.den' k.den' (by omega)
  have hl := e_law_low (p.num * q.num) (p.den * q.den) (mul_ne (den0 p) (den0 q)) (sm_mono (mul_sm h.den' k.den') (by omega)) st
  rw [← mul_as] at hl
  unfold m__law_mul b__law_mul
  simp only [ev, bind_ok, mkEnv, get?, ret_ok, ixr0, ixr1, m1, m3, if_true, hl]
def okW (r : Rat) : Bool := decide (r.den = 1) && (decide (1 ≤ r.num) && decide (r.num ≤ 9))
def firstBad (q : Rat) : Nat → List Int → Option Nat
  | _, [] => none
  | k, w :: ws => if okW ((w : Rat) * q) then firstBad q (k + 1) ws else some k
def newW (q : Rat) (ws : List Int) : List Int := ws.map fun (w : Int) => ((w : Rat) * q).num
theorem newW_ok {q : Rat} : ∀ {ws : List Int} {k : Nat}, firstBad q k ws = none → ∀ w ∈ newW q ws, 1 ≤ w ∧ w ≤ 9
  | [], _, _, w, hw => by cases hw
  | u :: ws, k, h, w, hw => by
    unfold firstBad at h
    split at h
    · rename_i ho
      rcases List.mem_cons.mp hw with rfl | hw
      · unfold okW at ho
        simp at ho
        exact ho.2
      · exact newW_ok h w hw
    · cases h
theorem at_mid {α : Type} (f : α → D) (pre : List α) (a : α) (r : List α) (st : List D) : ixS (.tup ((pre ++ a :: r).map f)) (.int (pre.length : Int)) st = .ok (f a) st := by
  rw [ix_tup (by simp)]
  simp
theorem dNe_int (i j : Int) : dNe (.int i) (.int j) = some (.bl (!decide (i = j))) := ev4.2.2.2.2.2.2.2.2.2.2.2.1 i j
end My

namespace My
open PySem PySem.Spec PyProof.Rows L2 DL
/-! sums of rows, led along -/
def V1 (M : Nat) (v : Rat) : Prop := Sm 140 v ∧ IM M v ∧ IM M (v * v) ∧ Bd (2 ^ 140 : Nat) v
def FM (M : Nat) (vs : List Rat) : Prop := ∀ v ∈ vs, V1 M v
theorem FM.fit {M : Nat} {vs : List Rat} (h : FM M vs) (h0 : 0 < M) (h1 : M < 2 ^ 5500) : Fit 140 140 5500 vs := ⟨⟨M, h0, h1, h⟩, by decide⟩
theorem FM.rev {M : Nat} {vs : List Rat} (h : FM M vs) : FM M vs.reverse := fun v hv => h v (List.mem_reverse.mp hv)
theorem FM.map {M : Nat} {vs : List Rat} {f : Rat → Rat} (h : ∀ v ∈ vs, V1 M (f v)) : FM M (vs.map f) := fun u hu => by
  obtain ⟨v, hv, rfl⟩ := List.mem_map.mp hu
  exact h v hv
theorem IM.neg {M : Nat} {q : Rat} : IM M q → IM M (-q) := fun ⟨a, h⟩ => ⟨-a, by rw [Rat.intCast_neg, ← h]; grind⟩
theorem Bd.neg {c : Int} {q : Rat} (h : Bd c q) : Bd c (-q) := by
  obtain ⟨a, b⟩ := h
  constructor <;> grind
theorem V1.neg {M : Nat} {v : Rat} (h : V1 M v) : V1 M (-v) := by
  obtain ⟨a, b, c, d⟩ := h
  refine ⟨neg_sm a, b.neg, ?_, d.neg⟩
  have : -v * -v = v * v := by grind
  rw [this]; exact c
theorem IM.dvd {M N : Nat} {q : Rat} (h : IM M q) (d : M ∣ N) : IM N q := by
  obtain ⟨k, rfl⟩ := d
  exact h.more
theorem Bd.of_num {c : Nat} {q : Rat} (h : q.num.natAbs ≤ c) : Bd c q := by
  have hd := q.den_pos
  have h1 : (c : Int) * 1 ≤ (c : Int) * (q.den : Int) := Int.mul_le_mul_of_nonneg_left (by omega) (by omega)
  constructor
  · have : ((-(c : Int) : Int) : Rat) ≤ q := by
      rw [Rat.le_iff]
      simp only [Rat.num_intCast, Rat.den_intCast]
      have h2 : -(c : Int) * (q.den : Int) = -((c : Int) * (q.den : Int)) := Int.neg_mul ..
      omega
    rw [Rat.intCast_neg] at this
    exact this
  · rw [Rat.le_iff]
    simp only [Rat.num_intCast, Rat.den_intCast]
    omega
theorem Sm.mono {n m : Nat} {q : Rat} (h : Sm n q) (hm : n ≤ m) : Sm m q := ⟨Nat.lt_of_lt_of_le h.1 (Nat.pow_le_pow_right (by omega) hm), Nat.lt_of_lt_of_le h.2 (Nat.pow_le_pow_right (by omega) hm)⟩
theorem Sm.bd {n : Nat} {q : Rat} (h : Sm n q) : Bd (2 ^ n : Nat) q := Bd.of_num (Nat.le_of_lt h.1)
theorem bd_pow {a b : Nat} {q : Rat} (h : Bd (2 ^ a : Nat) q) (hab : a ≤ b) : Bd (2 ^ b : Nat) q := h.mono (Int.ofNat_le.mpr (Nat.pow_le_pow_right (by omega) hab))
/-- the squares of the bottoms, all of them -/
def prodD : List Rat → Nat
  | [] => 1
  | v :: vs => v.den * v.den * prodD vs
theorem prodD_pos : ∀ vs : List Rat, 0 < prodD vs
  | [] => by decide
  | v :: vs => Nat.mul_pos (Nat.mul_pos v.den_pos v.den_pos) (prodD_pos vs)
theorem prodD_dvd : ∀ {vs : List Rat} {v : Rat}, v ∈ vs → v.den * v.den ∣ prodD vs
  | u :: vs, v, h => by
    rcases List.mem_cons.mp h with rfl | h
    · exact ⟨prodD vs, rfl⟩
    · obtain ⟨k, hk⟩ := prodD_dvd h
      exact ⟨u.den * u.den * k, by
        show u.den * u.den * prodD vs = _
        rw [hk, Nat.mul_left_comm]⟩
theorem prodD_lt {s : Nat} : ∀ {vs : List Rat}, (∀ v ∈ vs, Sm s v) → prodD vs ≤ 2 ^ (2 * s * vs.length)
  | [], _ => by simp [prodD]
  | v :: vs, h => by
    have h1 := (h v List.mem_cons_self).2
    have ih := prodD_lt fun u hu => h u (List.mem_cons_of_mem _ hu)
    show v.den * v.den * prodD vs ≤ _
    have e : 2 ^ (2 * s * (v :: vs).length) = 2 ^ s * 2 ^ s * 2 ^ (2 * s * vs.length) := by
      rw [← Nat.pow_add, ← Nat.pow_add, List.length_cons]
      congr 1
      rw [Nat.mul_add]; omega
    rw [e]
    exact Nat.mul_le_mul (Nat.mul_le_mul (Nat.le_of_lt h1) (Nat.le_of_lt h1)) ih
/-- .. and of one more -/
def prodX (vs : List Rat) (x : Rat) : Nat := prodD vs * (x.den * x.den)
theorem prodX_pos (vs : List Rat) (x : Rat) : 0 < prodX vs x := Nat.mul_pos (prodD_pos vs) (Nat.mul_pos x.den_pos x.den_pos)
theorem prodX_lt {vs : List Rat} {x : Rat} (h : ∀ v ∈ vs, Sm 67 v) (hx : Sm 67 x) (hl : vs.length ≤ 40) : prodX vs x < 2 ^ 5500 := by
  have h1 := prodD_lt h
  have h2 : x.den * x.den ≤ 2 ^ 67 * 2 ^ 67 := Nat.mul_le_mul (Nat.le_of_lt hx.2) (Nat.le_of_lt hx.2)
  have h3 : prodX vs x ≤ 2 ^ (2 * 67 * vs.length) * (2 ^ 67 * 2 ^ 67) := Nat.mul_le_mul h1 h2
  have h4 : 2 ^ (2 * 67 * vs.length) * (2 ^ 67 * 2 ^ 67) = 2 ^ (2 * 67 * vs.length + (67 + 67)) := by rw [← Nat.pow_add, ← Nat.pow_add]
  rw [h4] at h3
  exact Nat.lt_of_le_of_lt h3 (Nat.pow_lt_pow_right (by decide) (by omega))
section
variable {vs : List Rat} {v x : Rat}
theorem x_dvd (hv : v ∈ vs) : v.den * v.den * (x.den * x.den) ∣ prodX vs x := Nat.mul_dvd_mul (prodD_dvd hv) (Nat.dvd_refl _)
theorem imv (hv : v ∈ vs) : IM (prodX vs x) v := (IM.of_den (Nat.dvd_refl _)).dvd (Nat.dvd_trans (Nat.dvd_trans (Nat.dvd_mul_right v.den v.den) (Nat.dvd_mul_right _ _)) (x_dvd hv))
theorem imvv (hv : v ∈ vs) : IM (prodX vs x) (v * v) := (IM.mul (IM.of_den (Nat.dvd_refl _)) (IM.of_den (Nat.dvd_refl _))).dvd (Nat.dvd_trans (Nat.dvd_mul_right _ _) (x_dvd hv))
theorem imx (vs : List Rat) (x : Rat) : IM (prodX vs x) x := (IM.of_den (Nat.dvd_refl _)).dvd (Nat.dvd_trans (Nat.dvd_mul_right x.den x.den) (Nat.dvd_mul_left _ _))
theorem imxx (vs : List Rat) (x : Rat) : IM (prodX vs x) (x * x) := (IM.mul (IM.of_den (Nat.dvd_refl _)) (IM.of_den (Nat.dvd_refl _))).dvd (Nat.dvd_mul_left _ _)
theorem imvx (hv : v ∈ vs) : IM (prodX vs x) (v * x) := (IM.mul (IM.of_den (Nat.dvd_refl _)) (IM.of_den (Nat.dvd_refl _))).dvd (Nat.dvd_trans (Nat.mul_dvd_mul (Nat.dvd_mul_right _ _) (Nat.dvd_mul_right _ _)) (x_dvd hv))
theorem imvxx (hv : v ∈ vs) : IM (prodX vs x) ((v * x) * (v * x)) := by
  have h := (IM.mul (IM.mul (IM.of_den (q := v) (Nat.dvd_refl _)) (IM.of_den (q := v) (Nat.dvd_refl _))) (IM.mul (IM.of_den (q := x) (Nat.dvd_refl _)) (IM.of_den (q := x) (Nat.dvd_refl _)))).dvd (x_dvd hv)
  have e : v * v * (x * x) = (v * x) * (v * x) := by grind
  rwa [e] at h
theorem v1_base (hv : v ∈ vs) (h : Sm 67 v) : V1 (prodX vs x) v := ⟨h.mono (by decide), imv hv, imvv hv, bd_pow h.bd (by decide)⟩
theorem v1_mul (hv : v ∈ vs) (h : Sm 67 v) (hx : Sm 67 x) : V1 (prodX vs x) (v * x) := ⟨(sm_mul h hx).mono (by decide), imvx hv, imvxx hv, bd_pow (sm_mul h hx).bd (by decide)⟩
theorem v1_add (hv : v ∈ vs) (h : Sm 67 v) (hx : Sm 67 x) : V1 (prodX vs x) (v + x) := by
  refine ⟨(sm_add h hx).mono (by decide), (imv hv).add (imx vs x), ?_, bd_pow (sm_add h hx).bd (by decide)⟩
  have e : (v + x) * (v + x) = v * v + ((2 : Int) : Rat) * (v * x) + x * x := by
    have : ((2 : Int) : Rat) = 2 := rfl
    rw [this]; grind
  rw [e]
  exact ((imvv hv).add ((imvx hv).imul 2)).add (imxx vs x)
theorem v1_imul (hv : v ∈ vs) (h : Sm 67 v) {i : Int} (hi : Sm 67 (i : Rat)) : V1 (prodX vs x) (v * i) := by
  refine ⟨(sm_mul h hi).mono (by decide), ?_, ?_, bd_pow (sm_mul h hi).bd (by decide)⟩
  · rw [Rat.mul_comm]; exact (imv hv).imul i
  · have e : v * (i : Rat) * (v * (i : Rat)) = ((i * i : Int) : Rat) * (v * v) := by rw [Rat.intCast_mul]; grind
    rw [e]; exact (imvv hv).imul _
theorem IM.int {M : Nat} (i : Int) : IM M (i : Rat) := ⟨i * M, by rw [Rat.intCast_mul]; rfl⟩
theorem v1_iadd (hv : v ∈ vs) (h : Sm 67 v) {i : Int} (hi : Sm 67 (i : Rat)) : V1 (prodX vs x) (v + i) := by
  refine ⟨(sm_add h hi).mono (by decide), (imv hv).add (.int i), ?_, bd_pow (sm_add h hi).bd (by decide)⟩
  have e : (v + (i : Rat)) * (v + i) = v * v + ((2 * i : Int) : Rat) * v + ((i * i : Int) : Rat) := by
    rw [Rat.intCast_mul, Rat.intCast_mul]
    have : ((2 : Int) : Rat) = 2 := rfl
    rw [this]; grind
  rw [e]
  exact ((imvv hv).add ((imv hv).imul _)).add (.int _)
end
/-! the sums themselves -/
def W1 : List Int → Int
  | [] => 0
  | w :: ws => w + W1 ws
theorem W1_sum : ∀ ws : List Int, ws.sum = W1 ws
  | [] => rfl
  | w :: ws => by rw [List.sum_cons, W1_sum ws]; rfl
theorem S1_neg : ∀ (ws : List Int) (vs : List Rat), S1 ws (vs.map fun v => -v) = -S1 ws vs
  | [], _ => by simp [S1]
  | _ :: _, [] => by simp [S1]
  | w :: ws, v :: vs => by
    show (w : Rat) * -v + S1 ws (vs.map fun v => -v) = -((w : Rat) * v + S1 ws vs)
    rw [S1_neg ws vs]; grind
theorem S2_neg : ∀ (ws : List Int) (vs : List Rat), S2 ws (vs.map fun v => -v) = S2 ws vs
  | [], _ => by simp [S2]
  | _ :: _, [] => by simp [S2]
  | w :: ws, v :: vs => by
    show (w : Rat) * (-v * -v) + S2 ws (vs.map fun v => -v) = (w : Rat) * (v * v) + S2 ws vs
    rw [S2_neg ws vs]; grind
theorem S1_mul (x : Rat) : ∀ (ws : List Int) (vs : List Rat), S1 ws (vs.map fun v => v * x) = S1 ws vs * x
  | [], _ => by simp [S1]
  | _ :: _, [] => by simp [S1]
  | w :: ws, v :: vs => by
    show (w : Rat) * (v * x) + S1 ws (vs.map fun v => v * x) = ((w : Rat) * v + S1 ws vs) * x
    rw [S1_mul x ws vs]; grind
theorem S2_mul (x : Rat) : ∀ (ws : List Int) (vs : List Rat), S2 ws (vs.map fun v => v * x) = S2 ws vs * (x * x)
  | [], _ => by simp [S2]
  | _ :: _, [] => by simp [S2]
  | w :: ws, v :: vs => by
    show (w : Rat) * (v * x * (v * x)) + S2 ws (vs.map fun v => v * x) = ((w : Rat) * (v * v) + S2 ws vs) * (x * x)
    rw [S2_mul x ws vs]; grind
theorem S1_add (x : Rat) : ∀ (ws : List Int) (vs : List Rat), ws.length = vs.length → S1 ws (vs.map fun v => v + x) = S1 ws vs + (W1 ws : Rat) * x
  | [], [], _ => by simp [S1, W1]; grind
  | w :: ws, v :: vs, h => by
    show (w : Rat) * (v + x) + S1 ws (vs.map fun v => v + x) = ((w : Rat) * v + S1 ws vs) + ((w + W1 ws : Int) : Rat) * x
    rw [S1_add x ws vs (Nat.succ.inj h), Rat.intCast_add]; grind
theorem S2_add (x : Rat) : ∀ (ws : List Int) (vs : List Rat), ws.length = vs.length → S2 ws (vs.map fun v => v + x) = S2 ws vs + (2 * (S1 ws vs * x) + (W1 ws : Rat) * (x * x))
  | [], [], _ => by simp [S1, S2, W1]; grind
  | w :: ws, v :: vs, h => by
    show (w : Rat) * ((v + x) * (v + x)) + S2 ws (vs.map fun v => v + x) = ((w : Rat) * (v * v) + S2 ws vs) + (2 * (((w : Rat) * v + S1 ws vs) * x) + ((w + W1 ws : Int) : Rat) * (x * x))
    rw [S2_add x ws vs (Nat.succ.inj h), Rat.intCast_add]; grind
theorem S1_snoc (w : Int) (v : Rat) : ∀ (ws : List Int) (vs : List Rat), ws.length = vs.length → S1 (ws ++ [w]) (vs ++ [v]) = S1 ws vs + (w : Rat) * v
  | [], [], _ => by simp [S1]; grind
  | u :: ws, x :: vs, h => by
    show (u : Rat) * x + S1 (ws ++ [w]) (vs ++ [v]) = (u : Rat) * x + S1 ws vs + (w : Rat) * v
    rw [S1_snoc w v ws vs (Nat.succ.inj h)]; grind
theorem S2_snoc (w : Int) (v : Rat) : ∀ (ws : List Int) (vs : List Rat), ws.length = vs.length → S2 (ws ++ [w]) (vs ++ [v]) = S2 ws vs + (w : Rat) * (v * v)
  | [], [], _ => by simp [S2]; grind
  | u :: ws, x :: vs, h => by
    show (u : Rat) * (x * x) + S2 (ws ++ [w]) (vs ++ [v]) = (u : Rat) * (x * x) + S2 ws vs + (w : Rat) * (v * v)
    rw [S2_snoc w v ws vs (Nat.succ.inj h)]; grind
theorem S1_rev : ∀ (ws : List Int) (vs : List Rat), ws.length = vs.length → S1 ws.reverse vs.reverse = S1 ws vs
  | [], [], _ => rfl
  | w :: ws, v :: vs, h => by
    rw [List.reverse_cons, List.reverse_cons, S1_snoc _ _ _ _ (by simpa using h), S1_rev ws vs (Nat.succ.inj h)]
    show S1 ws vs + (w : Rat) * v = (w : Rat) * v + S1 ws vs
    grind
theorem S2_rev : ∀ (ws : List Int) (vs : List Rat), ws.length = vs.length → S2 ws.reverse vs.reverse = S2 ws vs
  | [], [], _ => rfl
  | w :: ws, v :: vs, h => by
    rw [List.reverse_cons, List.reverse_cons, S2_snoc _ _ _ _ (by simpa using h), S2_rev ws vs (Nat.succ.inj h)]
    show S2 ws vs + (w : Rat) * (v * v) = (w : Rat) * (v * v) + S2 ws vs
    grind
/-- sizes of the sums -/
theorem S_sm {M : Nat} (hM : 0 < M) (hm : M < 2 ^ 5500) : ∀ (ws : List Int) (vs : List Rat), (∀ w ∈ ws, 1 ≤ w ∧ w ≤ 9) → FM M vs → IM M (S1 ws vs) ∧ IM M (S2 ws vs) ∧ Bd (ws.length * (9 * (2 ^ 140 : Nat))) (S1 ws vs) ∧ Bd (ws.length * (9 * ((2 ^ 140 : Nat) * (2 ^ 140 : Nat)))) (S2 ws vs)
  | [], vs, _, _ => by
    have e1 : S1 [] vs = 0 := by cases vs <;> rfl
    have e2 : S2 [] vs = 0 := by cases vs <;> rfl
    rw [e1, e2]
    exact ⟨.zero M, .zero M, by simpa using Bd.zero, by simpa using Bd.zero⟩
  | w :: ws, [], _, _ => by
    have e1 : S1 (w :: ws) [] = 0 := rfl
    have e2 : S2 (w :: ws) [] = 0 := rfl
    rw [e1, e2]
    refine ⟨.zero M, .zero M, Bd.zero.mono ?_, Bd.zero.mono ?_⟩ <;> exact Int.mul_nonneg (Int.natCast_nonneg _) (by decide)
  | w :: ws, v :: vs, hw, hv => by
    obtain ⟨a, b, c, d⟩ := S_sm hM hm ws vs (fun u hu => hw u (List.mem_cons_of_mem _ hu)) fun u hu => hv u (List.mem_cons_of_mem _ hu)
    obtain ⟨v1, v2, v3, v4⟩ := hv v List.mem_cons_self
    have w1 := bd_w (hw w List.mem_cons_self)
    have c1 : (((w :: ws).length : Nat) : Int) * (9 * ((2 ^ 140 : Nat) : Int)) = 9 * (2 ^ 140 : Nat) + ws.length * (9 * (2 ^ 140 : Nat)) := by rw [List.length_cons, Int.natCast_add, Int.add_mul, Int.add_comm]; simp
    have c2 : (((w :: ws).length : Nat) : Int) * (9 * (((2 ^ 140 : Nat) : Int) * (2 ^ 140 : Nat))) = 9 * ((2 ^ 140 : Nat) * (2 ^ 140 : Nat)) + ws.length * (9 * ((2 ^ 140 : Nat) * (2 ^ 140 : Nat))) := by rw [List.length_cons, Int.natCast_add, Int.add_mul, Int.add_comm]; simp
    refine ⟨(v2.imul w).add a, (v3.imul w).add b, ?_, ?_⟩
    · rw [c1]; exact (w1.mul v4).add c
    · rw [c2]; exact (w1.mul (v4.mul v4)).add d
theorem S1_sm {M : Nat} {ws : List Int} {vs : List Rat} (hM : 0 < M) (hm : M < 2 ^ 5500) (hw : ∀ w ∈ ws, 1 ≤ w ∧ w ≤ 9) (hv : FM M vs) (hl : ws.length ≤ 40) : Sm (149 + 5500) (S1 ws vs) := by
  obtain ⟨a, b, c, d⟩ := S_sm hM hm ws vs hw hv
  refine sm_of hM hm a (c.mono ?_)
  have : (ws.length : Int) * (9 * ((2 ^ 140 : Nat) : Int)) ≤ 40 * (9 * ((2 ^ 140 : Nat) : Int)) := Int.mul_le_mul_of_nonneg_right (by omega) (by decide)
  exact Int.le_trans this (by decide)
theorem S2_sm {M : Nat} {ws : List Int} {vs : List Rat} (hM : 0 < M) (hm : M < 2 ^ 5500) (hw : ∀ w ∈ ws, 1 ≤ w ∧ w ≤ 9) (hv : FM M vs) (hl : ws.length ≤ 40) : Sm (289 + 5500) (S2 ws vs) := by
  obtain ⟨a, b, c, d⟩ := S_sm hM hm ws vs hw hv
  refine sm_of hM hm b (d.mono ?_)
  have : (ws.length : Int) * (9 * (((2 ^ 140 : Nat) : Int) * (2 ^ 140 : Nat))) ≤ 40 * (9 * (((2 ^ 140 : Nat) : Int) * (2 ^ 140 : Nat))) := Int.mul_le_mul_of_nonneg_right (by omega) (by decide)
  exact Int.le_trans this (by decide)
end My

namespace My
open PySem PySem.Spec PyProof.Rows L2 DL
/-! rows that are refused -/
theorem dEq_str {x y : Str} (hx : (toP (.str x)).canLay0 = true) (hy : (toP (.str y)).canLay0 = true) : dEq (.str x) (.str y) = some (.bl (x == y)) := by
  rw [dEq_of (.str 0 hx) (.str 0 hy), eqv_str]
/-- what is no ratio -/
def NoRat (d : D) : Prop := ∀ st, m_is_ratio [d] st = .ok (.bl false) st
theorem nr_non : NoRat .non := fun st => by
  have hw : ∀ st, m_is_whole [.non] st = .ok (.bl false) st := fun st => by
    unfold m_is_whole b_is_whole
    simp [ev1, ev2, ev3, ev4, ev5, bind_ok, mkEnv, get?, ret_ok, dIsi, isiD, tyN, subTy]
  unfold m_is_ratio b_is_ratio
  simp [ev1, ev2, ev3, ev4, ev5, bind_ok, mkEnv, get?, ret_ok, dIsi, isiD, tyN, subTy, hw]
theorem nr_bl (b : Bool) : NoRat (.bl b) := fun st => by
  have hw : ∀ st, m_is_whole [.bl b] st = .ok (.bl false) st := fun st => by
    unfold m_is_whole b_is_whole
    simp [ev1, ev2, ev3, ev4, ev5, bind_ok, mkEnv, get?, ret_ok, dIsi, isiD, tyN, subTy]
  unfold m_is_ratio b_is_ratio
  simp [ev1, ev2, ev3, ev4, ev5, bind_ok, mkEnv, get?, ret_ok, dIsi, isiD, tyN, subTy, hw]
theorem nr_str (x : Str) : NoRat (.str x) := fun st => by
  have hw : ∀ st, m_is_whole [.str x] st = .ok (.bl false) st := fun st => by
    unfold m_is_whole b_is_whole
    simp [ev1, ev2, ev3, ev4, ev5, bind_ok, mkEnv, get?, ret_ok, dIsi, isiD, tyN, subTy]
  unfold m_is_ratio b_is_ratio
  simp [ev1, ev2, ev3, ev4, ev5, bind_ok, mkEnv, get?, ret_ok, dIsi, isiD, tyN, subTy, hw]
theorem nr_lst (x : List D) : NoRat (.lst x) := fun st => by
  have hw : ∀ st, m_is_whole [.lst x] st = .ok (.bl false) st := fun st => by
    unfold m_is_whole b_is_whole
    simp [ev1, ev2, ev3, ev4, ev5, bind_ok, mkEnv, get?, ret_ok, dIsi, isiD, tyN, subTy]
  unfold m_is_ratio b_is_ratio
  simp [ev1, ev2, ev3, ev4, ev5, bind_ok, mkEnv, get?, ret_ok, dIsi, isiD, tyN, subTy, hw]
theorem nr_two (a b : Int) (hb : b ≤ 0) : NoRat (.tup [.int a, .int b]) := fun st => by
  have hb' : ¬ (0 < b) := by omega
  unfold m_is_ratio b_is_ratio
  simp [ev1, ev2, ev3, ev4, ev5, bind_ok, mkEnv, get?, ret_ok, dIsi, isiD, tyN, subTy, e_is_whole_int, hb']
theorem nr_one (d : D) : NoRat (.tup [d]) := fun st => by
  unfold m_is_ratio b_is_ratio
  simp [ev1, ev2, ev3, ev4, ev5, bind_ok, mkEnv, get?, ret_ok, dIsi, isiD, tyN, subTy]
theorem e_ratio_bad {d : D} (h : NoRat d) (st : List D) : m_ratio_of [d] st = .err ⟨c_BadRatio, none⟩ st := by
  have h := h st
  unfold m_ratio_of b_ratio_of
  simp only [ev, bind_ok, mkEnv, get?, ret_ok, h, Bool.not_false, if_true]
def exRow (j : Nat) (x : Str) : Ex := ⟨c_BadRow, some [("what", .str x), ("index", .int (j : Int))]⟩
theorem cb_bad {W V : D} {ws : List Int} {xs : List D} {e2 e3 : Option D} {j : Nat} (hW : SeqD W (ws.map .int)) (hV : SeqD V xs) (hlx : xs.length = ws.length) (hj : j < ws.length) (good : ∀ (i : Nat) (h : i < xs.length), i < j → ∃ n v, Tells n xs[i] v) (bad : NoRat (xs[j]'(by omega))) (hw : ∀ w ∈ ws, 1 ≤ w ∧ w ≤ 9) (st : List D) :
    ∀ (d k : Nat) (x : Option D), k + d = j → ∃ e, forD (gNm 4) bd_check_balls_1 (rangeD (k : Nat) (ws.length - k)) [some W, some V, e2, e3, x] st = .er (exRow j "speed") e st := by
  intro d
  induction d with
  | zero =>
    intro k x hk
    have hk : k = j := by omega
    subst hk
    obtain ⟨r, hr⟩ : ∃ r, ws.length - k = r + 1 := ⟨ws.length - k - 1, by omega⟩
    have a1 := hW.ix (i := k) (by rw [List.length_map]; omega) st
    have a2 := hV.ix (i := k) (by omega) st
    rw [List.getElem_map] at a1
    have a4 := e_is_whole_int ws[k] st
    obtain ⟨b1, b2⟩ := hw _ (List.getElem_mem hj)
    have a3 := bad st
    refine ⟨[some W, some V, e2, e3, some (.int (k : Int))], ?_⟩
    rw [hr, rangeD_cons, forD_cons]
    have step : bd_check_balls_1 [some W, some V, e2, e3, some (.int (k : Int))] st = .er (exRow k "speed") [some W, some V, e2, e3, some (.int (k : Int))] st := by
      unfold bd_check_balls_1
      simp only [ev, bind_ok, mkEnv, get?, ret_ok, a1, a2, a3, a4, chain_leC, b1, b2, decide_true, Bool.and_self, Bool.not_true, Bool.not_false, Bool.false_eq_true, if_true, if_false]
      rfl
    simp only [gNm, List.set_cons_zero, List.set_cons_succ, step]
  | succ d ih =>
    intro k x hk
    obtain ⟨r, hr⟩ : ∃ r, ws.length - k = r + 1 := ⟨ws.length - k - 1, by omega⟩
    have hk' : k < ws.length := by omega
    have a1 := hW.ix (i := k) (by rw [List.length_map]; omega) st
    have a2 := hV.ix (i := k) (by omega) st
    rw [List.getElem_map] at a1
    have a4 := e_is_whole_int ws[k] st
    obtain ⟨b1, b2⟩ := hw _ (List.getElem_mem hk')
    obtain ⟨n, v, hv⟩ := good k (by omega) (by omega)
    have a3 := e_is_ratio hv st
    obtain ⟨e, he⟩ := ih (k + 1) (some (.int (k : Int))) (by omega)
    refine ⟨e, ?_⟩
    rw [hr, rangeD_cons, forD_cons]
    have step : bd_check_balls_1 [some W, some V, e2, e3, some (.int (k : Int))] st = .nx [some W, some V, e2, e3, some (.int (k : Int))] st := by
      unfold bd_check_balls_1
      simp only [ev, bind_ok, mkEnv, get?, ret_ok, a1, a2, a3, a4, chain_leC, b1, b2, decide_true, Bool.and_self, Bool.not_true, Bool.not_false, Bool.false_eq_true, if_true, if_false]
    have hr2 : ws.length - (k + 1) = r := by omega
    rw [hr2] at he
    simp only [gNm, List.set_cons_zero, List.set_cons_succ, step]
    exact he
theorem e_check_bad {W V : D} {ws : List Int} {xs : List D} {j : Nat} {wall : Bool} (hW : SeqD W (ws.map .int)) (hV : SeqD V xs) (hlx : xs.length = ws.length) (hj : j < ws.length) (good : ∀ (i : Nat) (h : i < xs.length), i < j → ∃ n v, Tells n xs[i] v) (bad : NoRat (xs[j]'(by omega))) (h1 : (if wall then 1 else 2) ≤ ws.length) (h2 : ws.length ≤ 40) (hw : ∀ w ∈ ws, 1 ≤ w ∧ w ≤ 9) (st : List D) :
    m_check_balls [W, V, .bl wall] st = .err (exRow j "speed") st := by
  have lw := hW.len
  have lv := hV.len
  have iw := hW.isi
  have iv := hV.isi
  rw [List.length_map] at lw
  have rg := rng1_nat (n := ws.length) (by omega) st
  have hff : ∀ e2 e3, ∃ e, F_check_balls_1 [some W, some V, e2, e3, none] st = .er (exRow j "speed") e st := fun e2 e3 => by
    obtain ⟨e, hf⟩ := cb_bad (e2 := e2) (e3 := e3) hW hV hlx hj good bad hw st j 0 none (by omega)
    exact ⟨e, mFor_of (mThenA_of (xs := [.int (ws.length : Int)]) (st1 := st) (by simp only [ev, bind_ok, get?, ret_ok, lw]) rg) hf⟩
  have hb : dIsi [.bl wall, .ty "bool"] = some (.bl true) := rfl
  have h2' : (ws.length : Int) ≤ 40 := by omega
  unfold m_check_balls b_check_balls
  cases wall
  · have h1' : (2 : Int) ≤ ws.length := by simp at h1; omega
    obtain ⟨x, hf⟩ := hff (some (.bl false)) (some (.int 2))
    simp only [ev, bind_ok, mkEnv, get?, ret_ok, hb, lw, lv, iw, iv, hlx, chain_leC, h1', h2', decide_true, Bool.and_self, if_true, if_false, Bool.not_true, Bool.not_false, Bool.false_eq_true, List.set_cons_zero, List.set_cons_succ, hf]
  · have h1' : (1 : Int) ≤ ws.length := by simp at h1; omega
    obtain ⟨x, hf⟩ := hff (some (.bl true)) (some (.int 1))
    simp only [ev, bind_ok, mkEnv, get?, ret_ok, hb, lw, lv, iw, iv, hlx, chain_leC, h1', h2', decide_true, Bool.and_self, if_true, if_false, Bool.not_true, Bool.not_false, Bool.false_eq_true, List.set_cons_zero, List.set_cons_succ, hf]
theorem e_check_len {W V : D} {ws : List Int} {xs : List D} {wall : Bool} (hW : SeqD W (ws.map .int)) (hV : SeqD V xs) (hlx : xs.length ≠ ws.length) (h1 : (if wall then 1 else 2) ≤ ws.length) (h2 : ws.length ≤ 40) (st : List D) :
    m_check_balls [W, V, .bl wall] st = .err (exRow 0 "length") st := by
  have lw := hW.len
  have lv := hV.len
  have iw := hW.isi
  have iv := hV.isi
  rw [List.length_map] at lw
  have hb : dIsi [.bl wall, .ty "bool"] = some (.bl true) := rfl
  have h2' : (ws.length : Int) ≤ 40 := by omega
  have h3 : decide ((xs.length : Int) = (ws.length : Int)) = false := decide_eq_false (by omega)
  unfold m_check_balls b_check_balls
  cases wall
  · have h1' : (2 : Int) ≤ ws.length := by simp at h1; omega
    simp only [ev, bind_ok, mkEnv, get?, ret_ok, hb, lw, lv, iw, iv, h3, chain_leC, h1', h2', decide_true, Bool.and_self, if_true, if_false, Bool.not_true, Bool.not_false, Bool.false_eq_true, List.set_cons_zero, List.set_cons_succ]
    rfl
  · have h1' : (1 : Int) ≤ ws.length := by simp at h1; omega
    simp only [ev, bind_ok, mkEnv, get?, ret_ok, hb, lw, lv, iw, iv, h3, chain_leC, h1', h2', decide_true, Bool.and_self, if_true, if_false, Bool.not_true, Bool.not_false, Bool.false_eq_true, List.set_cons_zero, List.set_cons_succ]
    rfl
theorem row_err {W V B : D} {x : Ex} {st : List D} (h : m_check_balls [W, V, B] st = .err x st) : m_Row___init__ [W, V, B] st = .err x st := by
  unfold m_Row___init__
  rw [initM_eq (by simp)]
  unfold b_Row___init__
  have s1 : mDrop (mCall m_check_balls (mCons (mVar 1) (mCons (mVar 2) (mCons (mVar 3) (mNil))))) (some (.obj c_Row []) :: mkEnv 8 [W, V, B]) st = .er x (some (.obj c_Row []) :: mkEnv 8 [W, V, B]) st := by
    simp only [ev, bind_ok, bind_err, mkEnv, get?, ret_ok, h]
  show initR (mSeq _ _ (some (.obj c_Row []) :: mkEnv 8 [W, V, B]) st) = _
  unfold mSeq
  rw [s1]
  rfl
theorem methR_row {ws : List Int} {vs : List Rat} {wall : Bool} {name : Str} {f : List D → M D} {ma : List D → Res (List D)} {st : List D} (h : ∀ n ∈ (["weights", "speeds", "wall", "pairs", "gap_count", "is_like", "first_sum", "second_sum"] : List Str), name ≠ n) :
    methR c_Row name f ma (rowD ws vs wall) st = (ma st).bind fun ds => f (rowD ws vs wall :: ds) := by
  have hl : (rowF ws vs wall).lookup name = none := by
    unfold rowF
    rw [DL.look_ne (h _ (by simp)), DL.look_ne (h _ (by simp)), DL.look_ne (h _ (by simp)), DL.look_ne (h _ (by simp)), DL.look_ne (h _ (by simp)), DL.look_ne (h _ (by simp)), DL.look_ne (h _ (by simp)), DL.look_ne (h _ (by simp))]
    rfl
  show (if c_Row = c_Row ∧ (rowF ws vs wall).lookup name = none then _ else _) = _
  rw [if_pos ⟨rfl, hl⟩]
end My

namespace My
open PySem PySem.Spec PyProof.Rows L2 DL
/-! stepping through a body, statement by statement, without writing the slots -/
def seqK (o : Out) (b : MS) : Out := match o with
  | .nx e s => b e s
  | o => o
theorem mSeq_k (a b : MS) (env : Env') (st : List D) : mSeq a b env st = seqK (a env st) b := by
  unfold mSeq seqK
  cases a env st <;> rfl
theorem seqK_nx (e : Env') (s : List D) (b : MS) : seqK (.nx e s) b = b e s := rfl
theorem seqK_rt (d : D) (s : List D) (b : MS) : seqK (.rt d s) b = .rt d s := rfl
theorem seqK_er (x : Ex) (e : Env') (s : List D) (b : MS) : seqK (.er x e s) b = .er x e s := rfl
/-- the law's end -/
def RetT (o : Out) : Prop := ∃ s, o = .rt (.bl true) s
theorem RetT.mk (s : List D) : RetT (.rt (.bl true) s) := ⟨s, rfl⟩
/-- a function's end, the state left open -/
def Ends (o : Out) (P : D → List D → Prop) : Prop := ∃ d s, o = .rt d s ∧ P d s
end My

namespace My
open PySem PySem.Spec PyProof.Rows L2 DL
/-! clashes: plain law -/
theorem num_den (q : Rat) : (q.num : Rat) = q * (q.den : Rat) := by
  have h0 := Rat.num_divInt_den q
  rw [Rat.divInt_eq_div] at h0
  have h1 : ((q.den : Int) : Rat) = (q.den : Rat) := rfl
  rw [h1] at h0
  have h2 : (q.den : Rat) ≠ 0 := by
    intro e
    have := (Rat.natCast_inj (a := q.den) (b := 0)).mp (by simpa using e)
    exact absurd this (Nat.pos_iff_ne_zero.mp q.den_pos)
  grind
theorem den_ne (q : Rat) : (q.den : Rat) ≠ 0 := by
  intro e
  have := (Rat.natCast_inj (a := q.den) (b := 0)).mp (by simpa using e)
  exact absurd this (Nat.pos_iff_ne_zero.mp q.den_pos)
theorem int_ne {i : Int} (h : i ≠ 0) : (i : Rat) ≠ 0 := fun e => h (by
  have : (i : Rat) = ((0 : Int) : Rat) := e
  exact Rat.intCast_inj.mp this)
def clL (a b : Int) (u v : Rat) : Rat := (((a - b : Int) : Rat) * u + ((2 * b : Int) : Rat) * v) / ((a + b : Int) : Rat)
def clR (a b : Int) (u v : Rat) : Rat := (((b - a : Int) : Rat) * v + ((2 * a : Int) : Rat) * u) / ((a + b : Int) : Rat)
theorem mixed_as {x y d : Int} (hd : d ≠ 0) (u v : Rat) : Rat.divInt (x * u.num * v.den + y * v.num * u.den) (d * u.den * v.den) = ((x : Rat) * u + (y : Rat) * v) / (d : Rat) := by
  have e1 : ((u.den : Int) : Rat) = (u.den : Rat) := rfl
  have e2 : ((v.den : Int) : Rat) = (v.den : Rat) := rfl
  rw [Rat.divInt_eq_div]
  simp only [Rat.intCast_add, Rat.intCast_mul, e1, e2, num_den]
  have h1 := den_ne u
  have h2 := den_ne v
  have h3 := int_ne hd
  generalize (u.den : Rat) = p at *
  generalize (v.den : Rat) = q at *
  generalize (d : Rat) = r at *
  grind
theorem clR_as (a b : Int) (u v : Rat) : clR a b u v = (((2 * a : Int) : Rat) * u + ((b - a : Int) : Rat) * v) / ((a + b : Int) : Rat) := by unfold clR; grind
/-- a pair of a row of n balls -/
def PairOk (n : Nat) (wall : Bool) (p : Int) : Prop := (p = -1 ∧ wall = true ∧ 1 ≤ n) ∨ (0 ≤ p ∧ p + 1 < n)
theorem PairOk.cases {n : Nat} {wall : Bool} {p : Int} (h : PairOk n wall p) : (p = -1 ∧ wall = true ∧ 1 ≤ n) ∨ ∃ k : Nat, p = k ∧ k + 1 < n := by
  rcases h with h | ⟨h1, h2⟩
  · exact .inl h
  · exact .inr ⟨p.toNat, by omega, by omega⟩
def clashR (ws : List Int) (vs : List Rat) (p : Int) : List Rat :=
  if p = -1 then vs.set 0 (-(vs.getD 0 0)) else (vs.set p.toNat (clL (ws.getD p.toNat 0) (ws.getD (p.toNat + 1) 0) (vs.getD p.toNat 0) (vs.getD (p.toNat + 1) 0))).set (p.toNat + 1) (clR (ws.getD p.toNat 0) (ws.getD (p.toNat + 1) 0) (vs.getD p.toNat 0) (vs.getD (p.toNat + 1) 0))
def closR (vs : List Rat) (p : Int) : Rat := if p = -1 then -(vs.getD 0 0) else vs.getD p.toNat 0 - vs.getD (p.toNat + 1) 0
theorem clash_m1 (ws : List Int) (vs : List Rat) : clashR ws vs (-1) = vs.set 0 (-(vs.getD 0 0)) := if_pos rfl
theorem clash_k (ws : List Int) (vs : List Rat) (k : Nat) : clashR ws vs (k : Int) = (vs.set k (clL (ws.getD k 0) (ws.getD (k + 1) 0) (vs.getD k 0) (vs.getD (k + 1) 0))).set (k + 1) (clR (ws.getD k 0) (ws.getD (k + 1) 0) (vs.getD k 0) (vs.getD (k + 1) 0)) := by
  unfold clashR
  rw [if_neg (by omega), Int.toNat_natCast]
theorem clos_m1 (vs : List Rat) : closR vs (-1) = -(vs.getD 0 0) := if_pos rfl
theorem clos_k (vs : List Rat) (k : Nat) : closR vs (k : Int) = vs.getD k 0 - vs.getD (k + 1) 0 := by
  unfold closR
  rw [if_neg (by omega), Int.toNat_natCast]
theorem clash_len (ws : List Int) (vs : List Rat) (p : Int) : (clashR ws vs p).length = vs.length := by
  unfold clashR
  split <;> simp
theorem getD_at {α : Type} {xs : List α} {d : α} {k : Nat} (h : k < xs.length) : xs.getD k d = xs[k] := by
  rw [List.getD_eq_getElem?_getD, List.getElem?_eq_getElem h]; rfl
theorem getD_set_same {α : Type} {xs : List α} {d x : α} {k : Nat} (h : k < xs.length) : (xs.set k x).getD k d = x := by
  rw [List.getD_eq_getElem?_getD, List.getElem?_set_self h]; rfl
theorem getD_set_ne {α : Type} {xs : List α} {d x : α} {k j : Nat} (h : k ≠ j) : (xs.set k x).getD j d = xs.getD j d := by
  rw [List.getD_eq_getElem?_getD, List.getElem?_set_ne h, ← List.getD_eq_getElem?_getD]
theorem w_at {ws : List Int} (hw : ∀ w ∈ ws, 1 ≤ w ∧ w ≤ 9) {k : Nat} (h : k < ws.length) : 1 ≤ ws.getD k 0 ∧ ws.getD k 0 ≤ 9 := by
  rw [getD_at h]; exact hw _ (List.getElem_mem h)
theorem set_back {xs : List Rat} {k : Nat} {x y : Rat} (h : k + 1 < xs.length) : (((xs.set k x).set (k + 1) y).set k (xs.getD k 0)).set (k + 1) (xs.getD (k + 1) 0) = xs := by
  refine List.ext_getElem (by simp) fun i h1 h2 => ?_
  have e0 : xs.getD k 0 = xs[k]'(by omega) := getD_at (by omega)
  have e1 : xs.getD (k + 1) 0 = xs[k + 1] := getD_at h
  simp only [List.getElem_set, e0, e1]
  split
  · rename_i e; subst e; rfl
  · split
    · rename_i e; subst e; rfl
    · rfl
theorem clash_at0 {ws : List Int} {vs : List Rat} {k : Nat} (h : k + 1 < vs.length) : (clashR ws vs (k : Int)).getD k 0 = clL (ws.getD k 0) (ws.getD (k + 1) 0) (vs.getD k 0) (vs.getD (k + 1) 0) := by
  rw [clash_k, getD_set_ne (by omega), getD_set_same (by omega)]
theorem clash_at1 {ws : List Int} {vs : List Rat} {k : Nat} (h : k + 1 < vs.length) : (clashR ws vs (k : Int)).getD (k + 1) 0 = clR (ws.getD k 0) (ws.getD (k + 1) 0) (vs.getD k 0) (vs.getD (k + 1) 0) := by
  rw [clash_k, getD_set_same (by rw [List.length_set]; omega)]
theorem sum_ne {a b : Int} (ha : 1 ≤ a) (hb : 1 ≤ b) : (a : Rat) + (b : Rat) ≠ 0 := by
  have := int_ne (i := a + b) (by omega)
  rwa [Rat.intCast_add] at this
theorem cl_alg {a b : Int} (ha : 1 ≤ a) (hb : 1 ≤ b) (u v : Rat) : clL a b (clL a b u v) (clR a b u v) = u ∧ clR a b (clL a b u v) (clR a b u v) = v ∧ clL a b u v - clR a b u v = -(u - v) ∧
    (a : Rat) * (clL a b u v - u) + (b : Rat) * (clR a b u v - v) = 0 ∧ (a : Rat) * (clL a b u v * clL a b u v - u * u) + (b : Rat) * (clR a b u v * clR a b u v - v * v) = 0 := by
  have h := sum_ne ha hb
  have t2 : ((2 : Int) : Rat) = 2 := rfl
  unfold clL clR
  simp only [Rat.intCast_add, Rat.intCast_sub, Rat.intCast_mul, t2]
  generalize (a : Rat) = p at *
  generalize (b : Rat) = q at *
  obtain ⟨s, hs⟩ : ∃ s, s = p + q := ⟨_, rfl⟩
  have eq : q = s - p := by grind
  subst eq
  have e : p + (s - p) = s := by grind
  rw [e] at h ⊢
  refine ⟨?_, ?_, ?_, ?_, ?_⟩ <;> grind
theorem clash_back {ws : List Int} {vs : List Rat} {wall : Bool} {p : Int} (hl : ws.length = vs.length) (hw : ∀ w ∈ ws, 1 ≤ w ∧ w ≤ 9) (hp : PairOk ws.length wall p) : clashR ws (clashR ws vs p) p = vs := by
  rcases hp.cases with ⟨rfl, -, h1⟩ | ⟨k, rfl, hk⟩
  · rw [clash_m1, clash_m1, getD_set_same (by omega)]
    refine List.ext_getElem (by simp) fun i h1 h2 => ?_
    simp only [List.getElem_set]
    split
    · rename_i e; subst e; rw [getD_at (by omega)]; grind
    · rfl
  · have hk' : k + 1 < vs.length := by omega
    obtain ⟨e1, e2, -, -, -⟩ := cl_alg (w_at hw (show k < ws.length by omega)).1 (w_at hw hk).1 (vs.getD k 0) (vs.getD (k + 1) 0)
    rw [clash_k ws (clashR ws vs k), clash_at0 hk', clash_at1 hk', e1, e2, clash_k]
    exact set_back hk'
theorem clash_clos {ws : List Int} {vs : List Rat} {wall : Bool} {p : Int} (hl : ws.length = vs.length) (hw : ∀ w ∈ ws, 1 ≤ w ∧ w ≤ 9) (hp : PairOk ws.length wall p) : closR (clashR ws vs p) p = -closR vs p := by
  rcases hp.cases with ⟨rfl, -, h1⟩ | ⟨k, rfl, hk⟩
  · rw [clos_m1, clos_m1, clash_m1, getD_set_same (by omega)]
  · have hk' : k + 1 < vs.length := by omega
    obtain ⟨-, -, e3, -, -⟩ := cl_alg (w_at hw (show k < ws.length by omega)).1 (w_at hw hk).1 (vs.getD k 0) (vs.getD (k + 1) 0)
    rw [clos_k, clos_k, clash_at0 hk', clash_at1 hk', e3]
theorem S1_set : ∀ {ws : List Int} {vs : List Rat} {k : Nat} {x : Rat}, k < ws.length → k < vs.length → S1 ws (vs.set k x) = S1 ws vs + (ws.getD k 0 : Rat) * (x - vs.getD k 0)
  | w :: ws, v :: vs, 0, x, _, _ => by
    show (w : Rat) * x + S1 ws vs = (w : Rat) * v + S1 ws vs + (w : Rat) * (x - v)
    grind
  | w :: ws, v :: vs, k + 1, x, h1, h2 => by
    have ih := S1_set (ws := ws) (vs := vs) (k := k) (x := x) (Nat.lt_of_succ_lt_succ h1) (Nat.lt_of_succ_lt_succ h2)
    show (w : Rat) * v + S1 ws (vs.set k x) = (w : Rat) * v + S1 ws vs + (ws.getD k 0 : Rat) * (x - vs.getD k 0)
    rw [ih]; grind
theorem S2_set : ∀ {ws : List Int} {vs : List Rat} {k : Nat} {x : Rat}, k < ws.length → k < vs.length → S2 ws (vs.set k x) = S2 ws vs + (ws.getD k 0 : Rat) * (x * x - vs.getD k 0 * vs.getD k 0)
  | w :: ws, v :: vs, 0, x, _, _ => by
    show (w : Rat) * (x * x) + S2 ws vs = (w : Rat) * (v * v) + S2 ws vs + (w : Rat) * (x * x - v * v)
    grind
  | w :: ws, v :: vs, k + 1, x, h1, h2 => by
    have ih := S2_set (ws := ws) (vs := vs) (k := k) (x := x) (Nat.lt_of_succ_lt_succ h1) (Nat.lt_of_succ_lt_succ h2)
    show (w : Rat) * (v * v) + S2 ws (vs.set k x) = (w : Rat) * (v * v) + S2 ws vs + (ws.getD k 0 : Rat) * (x * x - vs.getD k 0 * vs.getD k 0)
    rw [ih]; grind
theorem clash_S1 {ws : List Int} {vs : List Rat} {wall : Bool} {p : Int} (hl : ws.length = vs.length) (hw : ∀ w ∈ ws, 1 ≤ w ∧ w ≤ 9) (hp : PairOk ws.length wall p) (h : p ≠ -1) : S1 ws (clashR ws vs p) = S1 ws vs := by
  rcases hp.cases with ⟨rfl, -, h1⟩ | ⟨k, rfl, hk⟩
  · exact absurd rfl h
  · have hk' : k + 1 < vs.length := by omega
    obtain ⟨-, -, -, e4, -⟩ := cl_alg (w_at hw (show k < ws.length by omega)).1 (w_at hw hk).1 (vs.getD k 0) (vs.getD (k + 1) 0)
    rw [clash_k, S1_set hk (by rw [List.length_set]; exact hk'), S1_set (by omega) (by omega), getD_set_ne (by omega), Rat.add_assoc, e4]
    grind
theorem clash_S2 {ws : List Int} {vs : List Rat} {wall : Bool} {p : Int} (hl : ws.length = vs.length) (hw : ∀ w ∈ ws, 1 ≤ w ∧ w ≤ 9) (hp : PairOk ws.length wall p) : S2 ws (clashR ws vs p) = S2 ws vs := by
  rcases hp.cases with ⟨rfl, -, h1⟩ | ⟨k, rfl, hk⟩
  · rw [clash_m1, S2_set (by omega) (by omega)]; grind
  · have hk' : k + 1 < vs.length := by omega
    obtain ⟨-, -, -, -, e5⟩ := cl_alg (w_at hw (show k < ws.length by omega)).1 (w_at hw hk).1 (vs.getD k 0) (vs.getD (k + 1) 0)
    rw [clash_k, S2_set hk (by rw [List.length_set]; exact hk'), S2_set (by omega) (by omega), getD_set_ne (by omega), Rat.add_assoc, e5]
    grind
/-! sizes -/
def Spd (n : Nat) (vs : List Rat) : Prop := ∃ M : Nat, 0 < M ∧ M < 2 ^ (3 + 5 * n) ∧ ∀ v ∈ vs, IM M v ∧ Bd (2 ^ (5 + 5 * n) : Nat) v
theorem Spd.sm {n : Nat} {vs : List Rat} (h : Spd n vs) : ∀ v ∈ vs, Sm (8 + 10 * n) v := fun v hv => by
  obtain ⟨M, h0, h1, h2⟩ := h
  exact (sm_of h0 h1 (h2 v hv).1 (h2 v hv).2).mono (by omega)
theorem Spd.fit {n : Nat} {vs : List Rat} (h : Spd n vs) (hn : n ≤ 64) : Fit (8 + 10 * n) (5 + 5 * n) (6 + 10 * n) vs := ⟨by
  have hs := h.sm
  obtain ⟨M, h0, h1, h2⟩ := h
  refine ⟨M * M, Nat.mul_pos h0 h0, ?_, fun v hv => ⟨hs v hv, (h2 v hv).1.more, (h2 v hv).1.mul (h2 v hv).1, (h2 v hv).2⟩⟩
  have e : 6 + 10 * n = (3 + 5 * n) + (3 + 5 * n) := by omega
  rw [e, Nat.pow_add]
  exact Nat.mul_lt_mul'' h1 h1, by omega⟩
theorem Spd.mono {n m : Nat} {vs : List Rat} (h : Spd n vs) (hm : n ≤ m) : Spd m vs := by
  obtain ⟨M, h0, h1, h2⟩ := h
  exact ⟨M, h0, Nat.lt_of_lt_of_le h1 (Nat.pow_le_pow_right (by omega) (by omega)), fun v hv => ⟨(h2 v hv).1, bd_pow (h2 v hv).2 (by omega)⟩⟩
theorem IM.div {M : Nat} {s : Int} {q : Rat} (hs : 1 ≤ s) (h : IM M q) : IM (M * s.toNat) (q / (s : Rat)) := by
  obtain ⟨z, h⟩ := h
  refine ⟨z, ?_⟩
  have e : ((s.toNat : Nat) : Rat) = (s : Rat) := by
    have : ((s.toNat : Int) : Rat) = (s : Rat) := by rw [Int.toNat_of_nonneg (by omega)]
    exact this
  have hne := int_ne (i := s) (by omega)
  rw [Rat.natCast_mul, e, ← h]
  grind
theorem Bd.div {c : Nat} {s : Int} {q : Rat} (hs : 1 ≤ s) (h : Bd c q) : Bd c (q / (s : Rat)) := by
  obtain ⟨a, b⟩ := h
  have hne := int_ne (i := s) (by omega)
  have s1 : (1 : Rat) ≤ (s : Rat) := Rat.intCast_le_intCast.mpr hs
  have c0 : (0 : Rat) ≤ ((c : Int) : Rat) := Rat.intCast_le_intCast.mpr (by omega : (0 : Int) ≤ (c : Int))
  have e : q = q / (s : Rat) * (s : Rat) := by grind
  have hc := Rat.mul_nonneg c0 (show (0 : Rat) ≤ (s : Rat) - 1 by grind)
  constructor
  · refine Classical.byContradiction fun z => ?_
    have z' : q / (s : Rat) < -((c : Int) : Rat) := by grind
    have k := Rat.mul_lt_mul_of_pos_right z' (show (0 : Rat) < (s : Rat) by grind)
    grind
  · refine Classical.byContradiction fun z => ?_
    have z' : ((c : Int) : Rat) < q / (s : Rat) := by grind
    have k := Rat.mul_lt_mul_of_pos_right z' (show (0 : Rat) < (s : Rat) by grind)
    grind
theorem cl_spd {M A : Nat} {x y s : Int} {u v : Rat} (hx : x.natAbs ≤ 8) (hy : y.natAbs ≤ 18) (hs : 1 ≤ s) (h1 : IM M u) (h2 : IM M v) (b1 : Bd A u) (b2 : Bd A v) : IM (M * s.toNat) (((x : Rat) * u + (y : Rat) * v) / (s : Rat)) ∧ Bd (32 * A : Nat) (((x : Rat) * u + (y : Rat) * v) / (s : Rat)) := by
  refine ⟨((h1.imul x).add (h2.imul y)).div hs, Bd.div hs ?_⟩
  refine (((Bd.int (c := 8) (by omega) (by decide)).mul b1).add ((Bd.int (c := 18) (by omega) (by decide)).mul b2)).mono ?_
  omega
theorem Spd.clash {n : Nat} {ws : List Int} {vs : List Rat} {wall : Bool} {p : Int} (h : Spd n vs) (hl : ws.length = vs.length) (hw : ∀ w ∈ ws, 1 ≤ w ∧ w ≤ 9) (hp : PairOk ws.length wall p) : Spd (n + 1) (clashR ws vs p) := by
  obtain ⟨M, h0, h1, h2⟩ := h
  have pw : 2 ^ (3 + 5 * (n + 1)) = 2 ^ (3 + 5 * n) * 32 := by rw [show 3 + 5 * (n + 1) = 3 + 5 * n + 5 by omega, Nat.pow_add]
  have pa : 2 ^ (5 + 5 * (n + 1)) = 32 * 2 ^ (5 + 5 * n) := by rw [show 5 + 5 * (n + 1) = 5 + (5 + 5 * n) by omega, Nat.pow_add 2 5]
  have bm : ∀ {q : Rat}, Bd (2 ^ (5 + 5 * n) : Nat) q → Bd (2 ^ (5 + 5 * (n + 1)) : Nat) q := fun h => bd_pow h (by omega)
  have at_ : ∀ k, k < vs.length → IM M (vs.getD k 0) ∧ Bd (2 ^ (5 + 5 * n) : Nat) (vs.getD k 0) := fun k hk => by rw [getD_at hk]; exact h2 _ (List.getElem_mem hk)
  rcases hp.cases with ⟨rfl, -, hn1⟩ | ⟨k, rfl, hk⟩
  · refine ⟨M, h0, by rw [pw]; omega, fun v hv => ?_⟩
    rw [clash_m1] at hv
    rcases List.mem_or_eq_of_mem_set hv with hv | rfl
    · exact ⟨(h2 v hv).1, bm (h2 v hv).2⟩
    · obtain ⟨i1, i2⟩ := at_ 0 (by omega)
      exact ⟨i1.neg, bm i2.neg⟩
  · obtain ⟨a1, a9⟩ := w_at hw (show k < ws.length by omega)
    obtain ⟨b1, b9⟩ := w_at hw hk
    obtain ⟨iu, bu⟩ := at_ k (by omega)
    obtain ⟨iv, bv⟩ := at_ (k + 1) (by omega)
    obtain ⟨a, ha⟩ : ∃ a, a = ws.getD k 0 := ⟨_, rfl⟩
    obtain ⟨b, hb⟩ : ∃ b, b = ws.getD (k + 1) 0 := ⟨_, rfl⟩
    rw [← ha] at a1 a9
    rw [← hb] at b1 b9
    have hs : (a + b).toNat ≤ 18 := by omega
    have hs1 : 1 ≤ (a + b).toNat := by omega
    refine ⟨M * (a + b).toNat, Nat.mul_pos h0 hs1, ?_, fun v hv => ?_⟩
    · rw [pw]
      exact Nat.mul_lt_mul'' h1 (by omega)
    · rw [clash_k, ← ha, ← hb] at hv
      rcases List.mem_or_eq_of_mem_set hv with hv | rfl
      · rcases List.mem_or_eq_of_mem_set hv with hv | rfl
        · exact ⟨(h2 v hv).1.more, bm (h2 v hv).2⟩
        · have r := cl_spd (x := a - b) (y := 2 * b) (s := a + b) (by omega) (by omega) (by omega) iu iv bu bv
          rw [← pa] at r
          exact ⟨r.1, r.2⟩
      · have r := cl_spd (x := b - a) (y := 2 * a) (s := a + b) (by omega) (by omega) (by omega) iv iu bv bu
        rw [← pa] at r
        exact ⟨r.1, r.2⟩
end My

namespace My
open PySem PySem.Spec PyProof.Rows L2 DL
/-! clashes: the program's and the law's own -/
theorem mSetI_of {i k : Nat} {mi m : ME} {env : Env'} {st s1 s2 : List D} {d : D} {ds : List D} (hm : m env st = .ok d s1) (hl : env[i]? = some (some (.lst ds))) (hi : mi env s1 = .ok (.int (k : Int)) s2) (hk : k < ds.length) : mSetI i mi m env st = .nx (env.set i (some (.lst (ds.set k d)))) s2 := by
  unfold mSetI mDo
  rw [hm]
  simp only [hl]
  unfold setIR
  rw [hi]
  simp only [DL.ixN_nat hk]
theorem lst1_of {V : D} {xs : List D} (h : SeqD V xs) (st : List D) : lst1? [V] st = .ok xs st := by rcases h with rfl | rfl <;> rfl
theorem vIx {V : D} {vs : List Rat} (hV : SeqD V (vs.map rD)) {k : Nat} (hk : k < vs.length) (st : List D) : ixS V (.int (k : Int)) st = .ok (rD (vs.getD k 0)) st := by
  rw [hV.ix (by rw [List.length_map]; exact hk), List.getElem_map, getD_at hk]
theorem vIx1 {V : D} {vs : List Rat} (hV : SeqD V (vs.map rD)) {k : Nat} (hk : k + 1 < vs.length) (st : List D) : ixS V (.int ((k : Int) + 1)) st = .ok (rD (vs.getD (k + 1) 0)) st := vIx hV hk st
theorem wIx {W : D} {ws : List Int} (hW : SeqD W (ws.map .int)) {k : Nat} (hk : k < ws.length) (st : List D) : ixS W (.int (k : Int)) st = .ok (.int (ws.getD k 0)) st := by
  rw [hW.ix (by rw [List.length_map]; exact hk), List.getElem_map, getD_at hk]
theorem wIx1 {W : D} {ws : List Int} (hW : SeqD W (ws.map .int)) {k : Nat} (hk : k + 1 < ws.length) (st : List D) : ixS W (.int ((k : Int) + 1)) st = .ok (.int (ws.getD (k + 1) 0)) st := wIx hW hk st
theorem rD_neg (q : Rat) : D.tup [.int (-q.num), .int (q.den : Int)] = rD (-q) := by
  unfold rD
  rw [Rat.neg_num, Rat.neg_den]
theorem mulOk_small {i j : Int} (h : i.natAbs < 2 ^ 60) : DL.MulOk i j := mulOk_l (by
  have : (2 : Nat) ^ 60 < 2 ^ 62 := by decide
  omega)
theorem e_mixed {s : Nat} {x y d : Int} {u v : Rat} (hu : Sm s u) (hv : Sm s v) (hs : s ≤ 700) (hx : x.natAbs < 2 ^ 5) (hy : y.natAbs < 2 ^ 5) (hd : 1 ≤ d) (hd2 : d.natAbs < 2 ^ 5) (st : List D) : m_mixed_ratio [.int x, rD u, .int y, rD v, .int d] st = .ok (rD (((x : Rat) * u + (y : Rat) * v) / (d : Rat))) st := by
  have p60 : (2 : Nat) ^ 5 < 2 ^ 60 := by decide
  have a1 : DL.MulOk x u.num := mulOk_small (by omega)
  have a2 : DL.MulOk y v.num := mulOk_small (by omega)
  have a3 : DL.MulOk d u.den := mulOk_small (by omega)
  have b1 := mul_sm hx hu.1
  have b2 := mul_sm hy hv.1
  have b3 := mul_sm hd2 hu.den'
  have c1 : DL.MulOk (x * u.num) v.den := mulOk_sm b1 hv.den' (by omega)
  have c2 : DL.MulOk (y * v.num) u.den := mulOk_sm b2 hu.den' (by omega)
  have c3 : DL.MulOk (d * u.den) v.den := mulOk_sm b3 hv.den' (by omega)
  have up := u.den_pos
  have vp := v.den_pos
  have t := Tells.two (n := 5 + s + s + 1) (x * u.num * v.den + y * v.num * u.den) (d * u.den * v.den) (Int.mul_pos (Int.mul_pos (by omega) (by omega)) (by omega)) (add_sm (mul_sm b1 hv.den') (mul_sm b2 hu.den')) (sm_mono (mul_sm b3 hv.den') (by omega))
  rw [mixed_as (by omega)] at t
  have r := e_ratio_of t (by omega) st
  unfold m_mixed_ratio b_mixed_ratio
  rw [show fnM 6 _ [D.int x, rD u, .int y, rD v, .int d] st = outR (_) from fnM_eq (by simp)]
  simp only [ev, bind_ok, bind_err, get?, ret_ok, List.set_cons_zero, List.set_cons_succ, if_true, if_false, ite_true, ite_false, Bool.false_eq_true, Bool.not_true, Bool.not_false, Bool.and_true, Bool.true_and, Bool.and_false, Bool.false_and, decide_true, decide_false, not_true_eq_false, not_false_eq_true, mkEnv, ixr0, ixr1, a1, a2, a3, c1, c2, c3, ev5, r]
section
variable {W V : D} {ws : List Int} {vs : List Rat} {wall : Bool} {p : Int} {s : Nat}
theorem sm_at (h : ∀ v ∈ vs, Sm s v) {k : Nat} (hk : k < vs.length) : Sm s (vs.getD k 0) := by rw [getD_at hk]; exact h _ (List.getElem_mem hk)
theorem m11 : decide ((-1 : Int) = -1) = true := rfl
theorem k_ne (k : Nat) : decide ((k : Int) = -1) = false := decide_eq_false (by omega)
theorem e_clashed (hW : SeqD W (ws.map .int)) (hV : SeqD V (vs.map rD)) (hl : ws.length = vs.length) (hw : ∀ w ∈ ws, 1 ≤ w ∧ w ≤ 9) (hp : PairOk ws.length wall p) (hs : ∀ v ∈ vs, Sm s v) (h7 : s ≤ 700) (st : List D) : m_clashed [W, V, .int p] st = .ok (.lst ((clashR ws vs p).map rD)) st := by
  have l1 := lst1_of hV st
  unfold m_clashed b_clashed
  rw [show fnM 9 _ [W, V, .int p] st = outR (_) from fnM_eq (by simp)]
  simp only [mkEnv]
  (rw [mSeq_k]; (conv => (lhs; arg 1; arg 1; simp only [ev, bind_ok, bind_err, get?, ret_ok, List.set_cons_zero, List.set_cons_succ, if_true, if_false, ite_true, ite_false, Bool.false_eq_true, Bool.not_true, Bool.not_false, Bool.and_true, Bool.true_and, Bool.and_false, Bool.false_and, decide_true, decide_false, not_true_eq_false, not_false_eq_true, mThenA, l1])); rw [seqK_nx])
  rcases hp.cases with ⟨rfl, -, h1⟩ | ⟨k, rfl, hk⟩
  · have v0 := vIx hV (k := 0) (by omega) st
    have v0 : ixS V (.int 0) st = .ok (rD (vs.getD 0 0)) st := v0
    have hset : mSetI 3 (mC (.int 0)) (mTup (mCons (mUn dNeg (mIx (mIx (mVar 1) (mC (.int 0))) (mC (.int 0)))) (mCons (mIx (mIx (mVar 1) (mC (.int 0))) (mC (.int 1))) (mNil)))) [some W, some V, some (.int (-1)), some (.lst (vs.map rD)), none, none, none, none, none] st = .nx [some W, some V, some (.int (-1)), some (.lst ((clashR ws vs (-1)).map rD)), none, none, none, none, none] st := by
      rw [mSetI_of (k := 0) (s1 := st) (s2 := st) (d := rD (-(vs.getD 0 0))) (ds := vs.map rD) (by simp only [ev, bind_ok, bind_err, get?, ret_ok, List.set_cons_zero, List.set_cons_succ, if_true, if_false, ite_true, ite_false, Bool.false_eq_true, Bool.not_true, Bool.not_false, Bool.and_true, Bool.true_and, Bool.and_false, Bool.false_and, decide_true, decide_false, not_true_eq_false, not_false_eq_true, v0, ixr0, ixr1, ev5, rD_neg]) rfl (by simp only [ev, bind_ok, bind_err, get?, ret_ok, List.set_cons_zero, List.set_cons_succ, if_true, if_false, ite_true, ite_false, Bool.false_eq_true, Bool.not_true, Bool.not_false, Bool.and_true, Bool.true_and, Bool.and_false, Bool.false_and, decide_true, decide_false, not_true_eq_false, not_false_eq_true]; rfl) (by rw [List.length_map]; omega)]
      rw [clash_m1, List.map_set]; rfl
    simp only [ev, bind_ok, bind_err, get?, ret_ok, List.set_cons_zero, List.set_cons_succ, if_true, if_false, ite_true, ite_false, Bool.false_eq_true, Bool.not_true, Bool.not_false, Bool.and_true, Bool.true_and, Bool.and_false, Bool.false_and, decide_true, decide_false, not_true_eq_false, not_false_eq_true, m11, hset]
  · have u0 := vIx hV (k := k) (by omega) st
    have u1 := vIx1 hV (k := k) (by omega) st
    have a0 := wIx hW (k := k) (by omega) st
    have a1 := wIx1 hW (k := k) (by omega) st
    obtain ⟨x1, x9⟩ := w_at hw (show k < ws.length by omega)
    obtain ⟨y1, y9⟩ := w_at hw hk
    have su := sm_at hs (k := k) (by omega)
    have sv := sm_at hs (k := k + 1) (by omega)
    have ck := clash_k ws vs k
    generalize ws.getD k 0 = a at *
    generalize ws.getD (k + 1) 0 = b at *
    have f1 := e_mixed (x := a - b) (y := 2 * b) (d := a + b) su sv h7 (by omega) (by omega) (by omega) (by omega) st
    have f2 := e_mixed (x := 2 * a) (y := b - a) (d := a + b) su sv h7 (by omega) (by omega) (by omega) (by omega) st
    have e1 : (((a - b : Int) : Rat) * vs.getD k 0 + ((2 * b : Int) : Rat) * vs.getD (k + 1) 0) / ((a + b : Int) : Rat) = clL a b (vs.getD k 0) (vs.getD (k + 1) 0) := rfl
    rw [e1] at f1
    rw [← clR_as] at f2
    generalize vs.getD k 0 = u at *
    generalize vs.getD (k + 1) 0 = v at *
    have t1 : DL.MulOk 2 b := mulOk_l (by decide)
    have t2 : DL.MulOk 2 a := mulOk_l (by decide)
    have hset : ∀ (ds : List D) (j : Nat) (i : Int) (q : Rat) (mi m : ME), i = (j : Int) → j < ds.length → mi [some W, some V, some (.int k), some (.lst ds), some (.int a), some (.int b), some (rD u), some (rD v), some (.int (a + b))] st = .ok (.int i) st → m [some W, some V, some (.int k), some (.lst ds), some (.int a), some (.int b), some (rD u), some (rD v), some (.int (a + b))] st = .ok (rD q) st → mSetI 3 mi m [some W, some V, some (.int k), some (.lst ds), some (.int a), some (.int b), some (rD u), some (rD v), some (.int (a + b))] st = .nx [some W, some V, some (.int k), some (.lst (ds.set j (rD q))), some (.int a), some (.int b), some (rD u), some (rD v), some (.int (a + b))] st := fun ds j i q mi m hi hj h1 h2 => by
      subst hi
      rw [mSetI_of h2 rfl h1 hj]; rfl
    (rw [mSeq_k]; (conv => (lhs; arg 1; arg 1; simp only [ev, bind_ok, bind_err, get?, ret_ok, List.set_cons_zero, List.set_cons_succ, if_true, if_false, ite_true, ite_false, Bool.false_eq_true, Bool.not_true, Bool.not_false, Bool.and_true, Bool.true_and, Bool.and_false, Bool.false_and, decide_true, decide_false, not_true_eq_false, not_false_eq_true, k_ne])); rw [seqK_nx])
    (rw [mSeq_k]; (conv => (lhs; arg 1; arg 1; simp only [ev, bind_ok, bind_err, get?, ret_ok, List.set_cons_zero, List.set_cons_succ, if_true, if_false, ite_true, ite_false, Bool.false_eq_true, Bool.not_true, Bool.not_false, Bool.and_true, Bool.true_and, Bool.and_false, Bool.false_and, decide_true, decide_false, not_true_eq_false, not_false_eq_true, a0, a1])); rw [seqK_nx])
    (rw [mSeq_k]; (conv => (lhs; arg 1; arg 1; simp only [ev, bind_ok, bind_err, get?, ret_ok, List.set_cons_zero, List.set_cons_succ, if_true, if_false, ite_true, ite_false, Bool.false_eq_true, Bool.not_true, Bool.not_false, Bool.and_true, Bool.true_and, Bool.and_false, Bool.false_and, decide_true, decide_false, not_true_eq_false, not_false_eq_true, u0, u1])); rw [seqK_nx])
    (rw [mSeq_k]; (conv => (lhs; arg 1; arg 1; simp only [ev, bind_ok, bind_err, get?, ret_ok, List.set_cons_zero, List.set_cons_succ, if_true, if_false, ite_true, ite_false, Bool.false_eq_true, Bool.not_true, Bool.not_false, Bool.and_true, Bool.true_and, Bool.and_false, Bool.false_and, decide_true, decide_false, not_true_eq_false, not_false_eq_true])); rw [seqK_nx])
    rw [mSeq_of (hset (vs.map rD) k k (clL a b u v) _ _ rfl (by rw [List.length_map]; omega) (by simp only [ev, bind_ok, bind_err, get?, ret_ok, List.set_cons_zero, List.set_cons_succ, if_true, if_false, ite_true, ite_false, Bool.false_eq_true, Bool.not_true, Bool.not_false, Bool.and_true, Bool.true_and, Bool.and_false, Bool.false_and, decide_true, decide_false, not_true_eq_false, not_false_eq_true]) (by simp only [ev, bind_ok, bind_err, get?, ret_ok, List.set_cons_zero, List.set_cons_succ, if_true, if_false, ite_true, ite_false, Bool.false_eq_true, Bool.not_true, Bool.not_false, Bool.and_true, Bool.true_and, Bool.and_false, Bool.false_and, decide_true, decide_false, not_true_eq_false, not_false_eq_true, t1, t2, f1]))]
    rw [mSeq_of (hset _ (k + 1) ((k : Int) + 1) (clR a b u v) _ _ rfl (by rw [List.length_set, List.length_map]; omega) (by simp only [ev, bind_ok, bind_err, get?, ret_ok, List.set_cons_zero, List.set_cons_succ, if_true, if_false, ite_true, ite_false, Bool.false_eq_true, Bool.not_true, Bool.not_false, Bool.and_true, Bool.true_and, Bool.and_false, Bool.false_and, decide_true, decide_false, not_true_eq_false, not_false_eq_true]) (by simp only [ev, bind_ok, bind_err, get?, ret_ok, List.set_cons_zero, List.set_cons_succ, if_true, if_false, ite_true, ite_false, Bool.false_eq_true, Bool.not_true, Bool.not_false, Bool.and_true, Bool.true_and, Bool.and_false, Bool.false_and, decide_true, decide_false, not_true_eq_false, not_false_eq_true, t1, t2, f2]))]
    simp only [ev, bind_ok, bind_err, get?, ret_ok, List.set_cons_zero, List.set_cons_succ, if_true, if_false, ite_true, ite_false, Bool.false_eq_true, Bool.not_true, Bool.not_false, Bool.and_true, Bool.true_and, Bool.and_false, Bool.false_and, decide_true, decide_false, not_true_eq_false, not_false_eq_true]
    rw [ck, List.map_set, List.map_set]
theorem e_closing_of (hV : SeqD V (vs.map rD)) (hp : PairOk vs.length wall p) (hs : ∀ v ∈ vs, Sm s v) (h7 : s ≤ 700) (st : List D) : m_closing_of [V, .int p] st = .ok (rD (closR vs p)) st := by
  unfold m_closing_of b_closing_of
  rcases hp.cases with ⟨rfl, -, h1⟩ | ⟨k, rfl, hk⟩
  · have v0 := vIx hV (k := 0) (by omega) st
    have v0 : ixS V (.int 0) st = .ok (rD (vs.getD 0 0)) st := v0
    rw [clos_m1]
    simp only [ev, bind_ok, bind_err, get?, ret_ok, List.set_cons_zero, List.set_cons_succ, if_true, if_false, ite_true, ite_false, Bool.false_eq_true, Bool.not_true, Bool.not_false, Bool.and_true, Bool.true_and, Bool.and_false, Bool.false_and, decide_true, decide_false, not_true_eq_false, not_false_eq_true, mkEnv, m11, v0, ixr0, ixr1, ev5, rD_neg]
  · have u0 := vIx hV (k := k) (by omega) st
    have u1 := vIx1 hV (k := k) (by omega) st
    have f := e_minus (Tells.rat (sm_at hs (k := k) (by omega))) (Tells.rat (sm_at hs (k := k + 1) (by omega))) (by omega) st
    rw [clos_k]
    simp only [ev, bind_ok, bind_err, get?, ret_ok, List.set_cons_zero, List.set_cons_succ, if_true, if_false, ite_true, ite_false, Bool.false_eq_true, Bool.not_true, Bool.not_false, Bool.and_true, Bool.true_and, Bool.and_false, Bool.false_and, decide_true, decide_false, not_true_eq_false, not_false_eq_true, mkEnv, k_ne, u0, u1, f]
theorem e_law_div {n m : Nat} {p q : Rat} (h : Sm n p) (k : Sm m q) (hq : q ≠ 0) (hz : n + m ≤ 7000) (st : List D) : m__law_div [rD p, rD q] st = .ok (rD (p / q)) st := by
  have hq0 : q.num ≠ 0 := fun z => hq (Rat.num_eq_zero.mp z)
  have m1 : DL.MulOk p.num q.den := mulOk_sm h.1 k.den' (by omega)
  have m2 : DL.MulOk p.den q.num := mulOk_sm h.den' k.1 (by omega)
  have hl := e_law_low (p.num * q.den) (p.den * q.num) (mul_ne (den0 p) hq0) (sm_mono (mul_sm h.den' k.1) (by omega)) st
  rw [← div_as] at hl
  unfold m__law_div b__law_div
  simp only [ev, bind_ok, bind_err, get?, ret_ok, List.set_cons_zero, List.set_cons_succ, if_true, if_false, ite_true, ite_false, Bool.false_eq_true, Bool.not_true, Bool.not_false, Bool.and_true, Bool.true_and, Bool.and_false, Bool.false_and, decide_true, decide_false, not_true_eq_false, not_false_eq_true, mkEnv, ixr0, ixr1, m1, m2, hl]
theorem e_law_closing (hV : SeqD V (vs.map rD)) (hp : PairOk vs.length wall p) (hs : ∀ v ∈ vs, Sm s v) (h7 : s ≤ 700) (st : List D) : m__law_closing [V, .int p] st = .ok (rD (closR vs p)) st := by
  unfold m__law_closing b__law_closing
  rcases hp.cases with ⟨rfl, -, h1⟩ | ⟨k, rfl, hk⟩
  · have v0 := vIx hV (k := 0) (by omega) st
    have v0 : ixS V (.int 0) st = .ok (rD (vs.getD 0 0)) st := v0
    rw [clos_m1]
    simp only [ev, bind_ok, bind_err, get?, ret_ok, List.set_cons_zero, List.set_cons_succ, if_true, if_false, ite_true, ite_false, Bool.false_eq_true, Bool.not_true, Bool.not_false, Bool.and_true, Bool.true_and, Bool.and_false, Bool.false_and, decide_true, decide_false, not_true_eq_false, not_false_eq_true, mkEnv, m11, v0, ixr0, ixr1, ev5, rD_neg]
  · have u0 := vIx hV (k := k) (by omega) st
    have u1 := vIx1 hV (k := k) (by omega) st
    have f := e_law_sub (sm_at hs (k := k) (by omega)) (sm_at hs (k := k + 1) (by omega)) (by omega) st
    rw [clos_k]
    simp only [ev, bind_ok, bind_err, get?, ret_ok, List.set_cons_zero, List.set_cons_succ, if_true, if_false, ite_true, ite_false, Bool.false_eq_true, Bool.not_true, Bool.not_false, Bool.and_true, Bool.true_and, Bool.and_false, Bool.false_and, decide_true, decide_false, not_true_eq_false, not_false_eq_true, mkEnv, k_ne, u0, u1, f]
theorem e_law_clash (hW : SeqD W (ws.map .int)) (hV : SeqD V (vs.map rD)) (hl : ws.length = vs.length) (hw : ∀ w ∈ ws, 1 ≤ w ∧ w ≤ 9) (hp : PairOk ws.length wall p) (hs : ∀ v ∈ vs, Sm s v) (h7 : s ≤ 700) (st : List D) : m__law_clash [W, V, .int p] st = .ok (.lst ((clashR ws vs p).map rD)) st := by
  have l1 := lst1_of hV st
  unfold m__law_clash b__law_clash
  rw [show fnM 8 _ [W, V, .int p] st = outR (_) from fnM_eq (by simp)]
  simp only [mkEnv]
  (rw [mSeq_k]; (conv => (lhs; arg 1; arg 1; simp only [ev, bind_ok, bind_err, get?, ret_ok, List.set_cons_zero, List.set_cons_succ, if_true, if_false, ite_true, ite_false, Bool.false_eq_true, Bool.not_true, Bool.not_false, Bool.and_true, Bool.true_and, Bool.and_false, Bool.false_and, decide_true, decide_false, not_true_eq_false, not_false_eq_true, mThenA, l1])); rw [seqK_nx])
  rcases hp.cases with ⟨rfl, -, h1⟩ | ⟨k, rfl, hk⟩
  · have v0 := vIx hV (k := 0) (by omega) st
    have v0 : ixS V (.int 0) st = .ok (rD (vs.getD 0 0)) st := v0
    have hset : mSetI 3 (mC (.int 0)) (mTup (mCons (mUn dNeg (mIx (mIx (mVar 1) (mC (.int 0))) (mC (.int 0)))) (mCons (mIx (mIx (mVar 1) (mC (.int 0))) (mC (.int 1))) (mNil)))) [some W, some V, some (.int (-1)), some (.lst (vs.map rD)), none, none, none, none] st = .nx [some W, some V, some (.int (-1)), some (.lst ((clashR ws vs (-1)).map rD)), none, none, none, none] st := by
      rw [mSetI_of (k := 0) (s1 := st) (s2 := st) (d := rD (-(vs.getD 0 0))) (ds := vs.map rD) (by simp only [ev, bind_ok, bind_err, get?, ret_ok, List.set_cons_zero, List.set_cons_succ, if_true, if_false, ite_true, ite_false, Bool.false_eq_true, Bool.not_true, Bool.not_false, Bool.and_true, Bool.true_and, Bool.and_false, Bool.false_and, decide_true, decide_false, not_true_eq_false, not_false_eq_true, v0, ixr0, ixr1, ev5, rD_neg]) rfl (by simp only [ev, bind_ok, bind_err, get?, ret_ok, List.set_cons_zero, List.set_cons_succ, if_true, if_false, ite_true, ite_false, Bool.false_eq_true, Bool.not_true, Bool.not_false, Bool.and_true, Bool.true_and, Bool.and_false, Bool.false_and, decide_true, decide_false, not_true_eq_false, not_false_eq_true]; rfl) (by rw [List.length_map]; omega)]
      rw [clash_m1, List.map_set]; rfl
    simp only [ev, bind_ok, bind_err, get?, ret_ok, List.set_cons_zero, List.set_cons_succ, if_true, if_false, ite_true, ite_false, Bool.false_eq_true, Bool.not_true, Bool.not_false, Bool.and_true, Bool.true_and, Bool.and_false, Bool.false_and, decide_true, decide_false, not_true_eq_false, not_false_eq_true, m11, hset]
  · have u0 := vIx hV (k := k) (by omega) st
    have u1 := vIx1 hV (k := k) (by omega) st
    have a0 := wIx hW (k := k) (by omega) st
    have a1 := wIx1 hW (k := k) (by omega) st
    obtain ⟨x1, x9⟩ := w_at hw (show k < ws.length by omega)
    obtain ⟨y1, y9⟩ := w_at hw hk
    have su := sm_at hs (k := k) (by omega)
    have sv := sm_at hs (k := k + 1) (by omega)
    have ck := clash_k ws vs k
    generalize ws.getD k 0 = a at *
    generalize ws.getD (k + 1) 0 = b at *
    generalize vs.getD k 0 = u at *
    generalize vs.getD (k + 1) 0 = v at *
    have si : ∀ i : Int, i.natAbs < 2 ^ 5 → Sm 5 (i : Rat) := fun i hi => sm_int hi (by decide)
    have i1 := si (a - b) (by omega)
    have i2 := si (2 * b) (by omega)
    have i3 := si (b - a) (by omega)
    have i4 := si (2 * a) (by omega)
    have i5 := si (a + b) (by omega)
    have ne := int_ne (i := a + b) (by omega)
    have f1 := e_law_mul i1 su (by omega) st
    have f2 := e_law_mul i2 sv (by omega) st
    have f3 := e_law_add (sm_mul i1 su) (sm_mul i2 sv) (by omega) st
    have f4 := e_law_div (sm_add (sm_mul i1 su) (sm_mul i2 sv)) i5 ne (by omega) st
    have g1 := e_law_mul i3 sv (by omega) st
    have g2 := e_law_mul i4 su (by omega) st
    have g3 := e_law_add (sm_mul i3 sv) (sm_mul i4 su) (by omega) st
    have g4 := e_law_div (sm_add (sm_mul i3 sv) (sm_mul i4 su)) i5 ne (by omega) st
    have e1 : (((a - b : Int) : Rat) * u + ((2 * b : Int) : Rat) * v) / ((a + b : Int) : Rat) = clL a b u v := rfl
    have e2 : (((b - a : Int) : Rat) * v + ((2 * a : Int) : Rat) * u) / ((a + b : Int) : Rat) = clR a b u v := rfl
    rw [e1] at f4
    rw [e2] at g4
    simp only [rD_int] at f1 f2 f4 g1 g2 g4
    have t1 : DL.MulOk 2 b := mulOk_l (by decide)
    have t2 : DL.MulOk 2 a := mulOk_l (by decide)
    have hset : ∀ (ds : List D) (j : Nat) (i : Int) (q : Rat) (mi m : ME), i = (j : Int) → j < ds.length → mi [some W, some V, some (.int k), some (.lst ds), some (.int a), some (.int b), some (rD u), some (rD v)] st = .ok (.int i) st → m [some W, some V, some (.int k), some (.lst ds), some (.int a), some (.int b), some (rD u), some (rD v)] st = .ok (rD q) st → mSetI 3 mi m [some W, some V, some (.int k), some (.lst ds), some (.int a), some (.int b), some (rD u), some (rD v)] st = .nx [some W, some V, some (.int k), some (.lst (ds.set j (rD q))), some (.int a), some (.int b), some (rD u), some (rD v)] st := fun ds j i q mi m hi hj h1 h2 => by
      subst hi
      rw [mSetI_of h2 rfl h1 hj]; rfl
    (rw [mSeq_k]; (conv => (lhs; arg 1; arg 1; simp only [ev, bind_ok, bind_err, get?, ret_ok, List.set_cons_zero, List.set_cons_succ, if_true, if_false, ite_true, ite_false, Bool.false_eq_true, Bool.not_true, Bool.not_false, Bool.and_true, Bool.true_and, Bool.and_false, Bool.false_and, decide_true, decide_false, not_true_eq_false, not_false_eq_true, k_ne])); rw [seqK_nx])
    (rw [mSeq_k]; (conv => (lhs; arg 1; arg 1; simp only [ev, bind_ok, bind_err, get?, ret_ok, List.set_cons_zero, List.set_cons_succ, if_true, if_false, ite_true, ite_false, Bool.false_eq_true, Bool.not_true, Bool.not_false, Bool.and_true, Bool.true_and, Bool.and_false, Bool.false_and, decide_true, decide_false, not_true_eq_false, not_false_eq_true, a0])); rw [seqK_nx])
    (rw [mSeq_k]; (conv => (lhs; arg 1; arg 1; simp only [ev, bind_ok, bind_err, get?, ret_ok, List.set_cons_zero, List.set_cons_succ, if_true, if_false, ite_true, ite_false, Bool.false_eq_true, Bool.not_true, Bool.not_false, Bool.and_true, Bool.true_and, Bool.and_false, Bool.false_and, decide_true, decide_false, not_true_eq_false, not_false_eq_true, a1])); rw [seqK_nx])
    (rw [mSeq_k]; (conv => (lhs; arg 1; arg 1; simp only [ev, bind_ok, bind_err, get?, ret_ok, List.set_cons_zero, List.set_cons_succ, if_true, if_false, ite_true, ite_false, Bool.false_eq_true, Bool.not_true, Bool.not_false, Bool.and_true, Bool.true_and, Bool.and_false, Bool.false_and, decide_true, decide_false, not_true_eq_false, not_false_eq_true, u0])); rw [seqK_nx])
    (rw [mSeq_k]; (conv => (lhs; arg 1; arg 1; simp only [ev, bind_ok, bind_err, get?, ret_ok, List.set_cons_zero, List.set_cons_succ, if_true, if_false, ite_true, ite_false, Bool.false_eq_true, Bool.not_true, Bool.not_false, Bool.and_true, Bool.true_and, Bool.and_false, Bool.false_and, decide_true, decide_false, not_true_eq_false, not_false_eq_true, u1])); rw [seqK_nx])
    rw [mSeq_of (hset (vs.map rD) k k (clL a b u v) _ _ rfl (by rw [List.length_map]; omega) (by simp only [ev, bind_ok, bind_err, get?, ret_ok, List.set_cons_zero, List.set_cons_succ, if_true, if_false, ite_true, ite_false, Bool.false_eq_true, Bool.not_true, Bool.not_false, Bool.and_true, Bool.true_and, Bool.and_false, Bool.false_and, decide_true, decide_false, not_true_eq_false, not_false_eq_true]) (by simp only [ev, bind_ok, bind_err, get?, ret_ok, List.set_cons_zero, List.set_cons_succ, if_true, if_false, ite_true, ite_false, Bool.false_eq_true, Bool.not_true, Bool.not_false, Bool.and_true, Bool.true_and, Bool.and_false, Bool.false_and, decide_true, decide_false, not_true_eq_false, not_false_eq_true, t1, t2, ev5, f1, f2, f3, f4]))]
    rw [mSeq_of (hset _ (k + 1) ((k : Int) + 1) (clR a b u v) _ _ rfl (by rw [List.length_set, List.length_map]; omega) (by simp only [ev, bind_ok, bind_err, get?, ret_ok, List.set_cons_zero, List.set_cons_succ, if_true, if_false, ite_true, ite_false, Bool.false_eq_true, Bool.not_true, Bool.not_false, Bool.and_true, Bool.true_and, Bool.and_false, Bool.false_and, decide_true, decide_false, not_true_eq_false, not_false_eq_true]) (by simp only [ev, bind_ok, bind_err, get?, ret_ok, List.set_cons_zero, List.set_cons_succ, if_true, if_false, ite_true, ite_false, Bool.false_eq_true, Bool.not_true, Bool.not_false, Bool.and_true, Bool.true_and, Bool.and_false, Bool.false_and, decide_true, decide_false, not_true_eq_false, not_false_eq_true, t1, t2, ev5, g1, g2, g3, g4]))]
    simp only [ev, bind_ok, bind_err, get?, ret_ok, List.set_cons_zero, List.set_cons_succ, if_true, if_false, ite_true, ite_false, Bool.false_eq_true, Bool.not_true, Bool.not_false, Bool.and_true, Bool.true_and, Bool.and_false, Bool.false_and, decide_true, decide_false, not_true_eq_false, not_false_eq_true]
    rw [ck, List.map_set, List.map_set]
end
end My

namespace My
open PySem PySem.Spec PyProof.Rows L2 DL
/-! words that serve any law -/
def NoWhole (d : D) : Prop := ∀ st, m_is_whole [d] st = .ok (.bl false) st
theorem nw_of {d : D} (h : dIsi [d, .ty "int"] = some (.bl false) ∨ dIsi [d, .ty "bool"] = some (.bl true)) (h2 : ∃ b, dIsi [d, .ty "int"] = some (.bl b)) : NoWhole d := fun st => by
  unfold m_is_whole b_is_whole
  obtain ⟨b, hb⟩ := h2
  rcases h with h | h
  · simp only [ev, bind_ok, bind_err, get?, ret_ok, List.set_cons_zero, List.set_cons_succ, if_true, if_false, ite_true, ite_false, Bool.false_eq_true, Bool.not_true, Bool.not_false, Bool.and_true, Bool.true_and, Bool.and_false, Bool.false_and, decide_true, decide_false, not_true_eq_false, not_false_eq_true, mkEnv, h]
  · cases b
    · simp only [ev, bind_ok, bind_err, get?, ret_ok, List.set_cons_zero, List.set_cons_succ, if_true, if_false, ite_true, ite_false, Bool.false_eq_true, Bool.not_true, Bool.not_false, Bool.and_true, Bool.true_and, Bool.and_false, Bool.false_and, decide_true, decide_false, not_true_eq_false, not_false_eq_true, mkEnv, h, hb]
    · simp only [ev, bind_ok, bind_err, get?, ret_ok, List.set_cons_zero, List.set_cons_succ, if_true, if_false, ite_true, ite_false, Bool.false_eq_true, Bool.not_true, Bool.not_false, Bool.and_true, Bool.true_and, Bool.and_false, Bool.false_and, decide_true, decide_false, not_true_eq_false, not_false_eq_true, mkEnv, h, hb]
theorem raise1 (c : Nat) (f : Str) (d : D) (env : Env') (st : List D) : raiseR c [f] env (.ok [d] st) = .er ⟨c, some [(f, d)]⟩ env st := rfl
theorem fn3 {m : MS} {a b : D} {st : List D} : fnM 3 m [a, b] st = outR (m [some a, some b, none] st) := fnM_eq (by simp)
theorem fn2 {m : MS} {a : D} {st : List D} : fnM 2 m [a] st = outR (m [some a, none] st) := fnM_eq (by simp)
theorem chain_lt {mc : List D → Res D} {a b c : Int} {st : List D} (h : mc st = .ok (.int c) st) : chainR dLe dLt mc (.int a) (.int b) st = .ok (.bl (decide (a ≤ b) && decide (b < c))) st := by
  unfold chainR
  have e : dLe (.int a) (.int b) = some (.bl (decide (a ≤ b))) := rfl
  rw [e]
  by_cases hab : a ≤ b
  · simp only [hab, decide_true, h, bind_ok, Bool.true_and]; rfl
  · simp only [hab, decide_false, Bool.false_and]
theorem log2_lt' {n k : Nat} (h0 : n ≠ 0) (h : n < 2 ^ k) : n.log2 < k := (Nat.log2_lt h0).mpr h
theorem drB (n : Int) (k : Nat) (h0 : 0 < n) (h1 : n.natAbs < 2 ^ k) (hk : k ≤ 9000) (st : List D) (hs : HandOk st) : ∃ (r : Int) (st' : List D), 0 ≤ r ∧ r < n ∧ HandOk st' ∧ m__law_draw [.tok 0, .int n] st = .ok (.int r) st' :=
  e_draw n h0 (by have := log2_lt' (n := n.natAbs) (k := k) (by omega) h1; omega) st hs
/-- flat data: equal to itself, and == answers -/
def Rf (d : D) : Prop := Sh 2 d ∧ eqv d d = true
def RfL (ds : List D) : Prop := ShA 2 ds ∧ eqvL ds ds = true
theorem Rf.int (i : Int) : Rf (.int i) := ⟨.int 2 i, by rw [eqv_int, decide_eq_true rfl]⟩
theorem Rf.pair (a b : Int) : Rf (.tup [.int a, .int b]) := ⟨(Sh.tup (k := 0) (.cons (.int 0 a) (.cons (.int 0 b) .nil))).mono (by decide), by rw [eqv_tup, eqvL_cons, eqvL_cons, eqvL_nil, eqv_int, eqv_int]; simp⟩
theorem Rf.tells {n : Nat} {d : D} {q : Rat} (h : Tells n d q) : Rf d := by
  cases h with
  | one i => exact .int i
  | two t b => exact .pair t b
theorem RfL.nil : RfL [] := ⟨.nil, rfl⟩
theorem RfL.cons {d : D} {ds : List D} (h : Rf d) (r : RfL ds) : RfL (d :: ds) := ⟨.cons h.1 r.1, by rw [eqvL_cons, h.2, r.2]; rfl⟩
theorem RfL.tl {n : Nat} : ∀ {xs : List D} {qs : List Rat}, TL n xs qs → RfL xs
  | _, _, .nil => .nil
  | _, _, .cons h r => .cons (.tells h) (RfL.tl r)
theorem RfL.dNe {xs : List D} (h : RfL xs) : dNe (.lst xs) (.lst xs) = some (.bl false) := by
  rw [dNe_of (Sh.lst h.1) (Sh.lst h.1), eqv_lst, h.2]; rfl
theorem RfL.dEq {xs : List D} (h : RfL xs) : dEq (.lst xs) (.lst xs) = some (.bl true) := by
  rw [dEq_of (Sh.lst h.1) (Sh.lst h.1), eqv_lst, h.2]
theorem Rf.str {x : Str} (h : (toP (.str x)).canLay0 = true) : Rf (.str x) := ⟨.str 2 h, by rw [eqv_str]; simp⟩
theorem dNe_rats (qs : List Rat) : dNe (.tup (qs.map rD)) (.tup (qs.map rD)) = some (.bl false) := by
  rw [dNe_of (sh_rats qs) (sh_rats qs), eqv_tup, eqvL_rat, decide_eq_true rfl]; rfl
theorem ints_of' {P : Int → Prop} : ∀ ys : List D, (∀ y ∈ ys, ∃ w, P w ∧ y = .int w) → ∃ ws : List Int, ys = ws.map .int ∧ ∀ w ∈ ws, P w
  | [], _ => ⟨[], rfl, fun w hw => by cases hw⟩
  | y :: ys, h => by
    obtain ⟨w, p, rfl⟩ := h y List.mem_cons_self
    obtain ⟨ws, rfl, ps⟩ := ints_of' ys fun x hx => h x (List.mem_cons_of_mem _ hx)
    exact ⟨w :: ws, rfl, fun x hx => (List.mem_cons.mp hx).elim (fun e => e ▸ p) (ps x)⟩
theorem cut_take (xs : List D) (k : Nat) : DL.cutD xs none (some (k : Int)) = xs.take k := by
  unfold DL.cutD
  rw [HT.sIx_none, HT.sIx_nat]
  simp [List.take_eq_take_iff]
theorem cut_drop (xs : List D) (k : Nat) : DL.cutD xs (some (k : Int)) none = xs.drop k := by
  unfold DL.cutD
  rw [HT.sIx_none, HT.sIx_nat]
  by_cases h : k ≤ xs.length
  · rw [Nat.min_eq_left h, List.take_of_length_le (by simp)]
  · rw [Nat.min_eq_right (by omega), List.drop_of_length_le (Nat.le_refl _), List.drop_of_length_le (by omega)]; simp
theorem cut_last (xs : List D) : DL.cutD xs none (some (-1)) = xs.take (xs.length - 1) := by
  unfold DL.cutD
  have h1 : HT.sIx xs.length 0 none = 0 := rfl
  have h2 : HT.sIx xs.length xs.length (some (-1)) = xs.length - 1 := by
    show (if (-1 : Int) < 0 then ((-1 : Int) + (xs.length : Int)).toNat else min (-1 : Int).toNat xs.length) = _
    rw [if_pos (by decide)]
    omega
  rw [h1, h2]; simp
theorem addL (a b : List D) (h : a.length + b.length ≤ 100) : dAdd (.lst a) (.lst b) = some (.lst (a ++ b)) := by
  show (if a.length + b.length ≤ sizeLine then _ else _) = _
  rw [if_pos (Nat.le_trans h (by decide))]
theorem TL.take {n : Nat} : ∀ (k : Nat) {xs : List D} {vs : List Rat}, TL n xs vs → TL n (xs.take k) (vs.take k)
  | 0, _, _, _ => by simp; exact .nil
  | k + 1, _, _, .nil => .nil
  | k + 1, _, _, .cons h r => .cons h (TL.take k r)
theorem TL.drop {n : Nat} : ∀ (k : Nat) {xs : List D} {vs : List Rat}, TL n xs vs → TL n (xs.drop k) (vs.drop k)
  | 0, _, _, h => h
  | k + 1, _, _, .nil => .nil
  | k + 1, _, _, .cons h r => TL.drop k r
theorem mSl_of {m : ME} {l h : MO} {env : Env'} {st s1 s2 s3 : List D} {xs : List D} {lo hi : Option Int} (hm : m env st = .ok (.lst xs) s1) (hl : l env s1 = .ok lo s2) (hh : h env s2 = .ok hi s3) : mSl m l h env st = .ok (.lst (DL.cutD xs lo hi)) s3 := by
  unfold mSl
  rw [hm, bind_ok, hl, bind_ok, hh, bind_ok]; rfl
theorem mPart_of {m : ME} {env : Env'} {st s1 : List D} {i : Int} (hm : m env st = .ok (.int i) s1) : mPart m env st = .ok (some i) s1 := by
  unfold mPart
  rw [hm]; rfl
theorem mNo_of {env : Env'} {st : List D} : mNo env st = .ok none st := rfl
theorem repL {d : D} {k : Nat} (h : k ≤ 1000) : dMul (.lst [d]) (.int (k : Int)) = some (.lst (repD k [d])) := by
  have h2 : (k : Int) ≤ (1000 : Int) := Int.ofNat_le.mpr h
  have hz : (1000 : Nat) ≤ sizeLine := by decide
  have hc : -(2 ^ 63) ≤ (k : Int) ∧ (k : Int) < 2 ^ 63 ∧ [d].length * (k : Int).toNat ≤ sizeLine := ⟨Int.le_trans (by decide : -(2 ^ 63) ≤ (0 : Int)) (Int.natCast_nonneg k), Int.lt_of_le_of_lt h2 (by decide), by rw [Int.toNat_natCast, List.length_singleton]; omega⟩
  have e : dMul (.lst [d]) (.int (k : Int)) = @ite _ (-(2 ^ 63) ≤ (k : Int) ∧ (k : Int) < 2 ^ 63 ∧ [d].length * (k : Int).toNat ≤ sizeLine) (Classical.propDecidable _) (some (.lst (repD (k : Int).toNat [d]))) none := rfl
  rw [e, if_pos hc, Int.toNat_natCast]
theorem rep_len (d : D) (k : Nat) : (repD k [d]).length = k := by
  unfold repD
  rw [List.length_flatten, List.map_replicate, List.sum_replicate_nat, List.length_singleton, Nat.mul_one]
theorem forD_rt {g : MG} {body : MS} {d : D} {ds : List D} {env e1 e2 : Env'} {st s1 : List D} (hg : g d env = some e1) (hb : body e1 st = .nx e2 s1) : forD g body (d :: ds) env st = forD g body ds e2 s1 := by
  rw [forD_cons, hg]
  simp only [hb]
theorem xf_of {c : Nat} {fs : List (Str × D)} {env : Env'} {i : Nat} {d : D} {b : Bool} {st : List D} (he : env[i]? = some (some (.obj c fs))) (ht : tabX c d = some b) : mIsXF i tabX (mC d) env st = .ok (.bl b) st := by
  unfold mIsXF
  rw [he]
  show ret? ((tabX c d).map .bl) st = _
  rw [ht]; rfl
theorem xfld {c : Nat} {f : Str} {d : D} {fs : List (Str × D)} {env : Env'} {i : Nat} {st : List D} (he : env[i]? = some (some (.obj c (("", .non) :: (f, d) :: fs)))) (ok : okX c f = true) : mXf okX i f env st = .ok d st := by
  unfold mXf
  rw [he]
  show (if okX c f = true then ret? (((f, d) :: fs).lookup f) st else .bad) = _
  rw [if_pos ok, DL.look_same]; rfl
theorem drK {n : Nat} (h0 : 1 ≤ n) (h1 : n ≤ 40) (st : List D) (hs : HandOk st) : ∃ (r : Nat) (st' : List D), r < n ∧ HandOk st' ∧ m__law_draw [.tok 0, .int (n : Int)] st = .ok (.int (r : Int)) st' := by
  obtain ⟨r, s, a, b, k, e⟩ := drB (n : Int) 6 (by omega) (by omega) (by decide) st hs
  obtain ⟨r', rfl⟩ : ∃ r' : Nat, r = r' := ⟨r.toNat, by omega⟩
  exact ⟨r', s, by omega, k, e⟩
theorem lcD_filterL {env : Env'} {g : MG} {mt : MT} {me : ME} {st : List D} {α : Type} (u : α → D) (c : α → Bool) (l : List α) (h : ∀ a ∈ l, ∃ env1, g (u a) env = some env1 ∧ mt env1 st = .ok (c a) st ∧ me env1 st = .ok (u a) st) : lcD env g mt me (l.map u) st = .ok ((l.filter c).map u) st := by
  induction l with
  | nil => rfl
  | cons a l ih =>
    obtain ⟨e1, h1, h2, h3⟩ := h a List.mem_cons_self
    have ih := ih fun b hb => h b (List.mem_cons_of_mem _ hb)
    rw [List.map_cons]
    unfold lcD
    simp only [h1]
    rw [h2]
    simp only [noEr, bind_ok]
    by_cases hc : c a = true
    · rw [if_pos hc, h3, List.filter_cons_of_pos hc]
      simp only [bind_ok]
      rw [ih]
      rfl
    · rw [if_neg hc, List.filter_cons_of_neg hc, ih]
end My

namespace My
open PySem PySem.Spec PyProof.Rows L2 DL
/-! pairs and words -/
def loP (wall : Bool) : Int := if wall then -1 else 0
theorem pairOk_iff {n : Nat} {wall : Bool} {p : Int} (h1 : (if wall then 1 else 2) ≤ n) : PairOk n wall p ↔ loP wall ≤ p ∧ p < loP wall + (gc n wall : Nat) := by
  unfold PairOk loP gc
  cases wall <;> simp at h1 ⊢ <;> omega
def pairsL (n : Nat) (wall : Bool) : List Int := (List.range (gc n wall)).map fun i => loP wall + (i : Nat)
theorem pairs_rg (n : Nat) (wall : Bool) : rangeD (loP wall) (gc n wall) = (pairsL n wall).map .int := by
  unfold rangeD pairsL
  rw [List.map_map]; rfl
theorem mem_pairs {n : Nat} {wall : Bool} {p : Int} (h1 : (if wall then 1 else 2) ≤ n) : p ∈ pairsL n wall ↔ PairOk n wall p := by
  rw [pairOk_iff h1]
  unfold pairsL
  rw [List.mem_map]
  constructor
  · rintro ⟨i, hi, rfl⟩
    have := List.mem_range.mp hi
    omega
  · rintro ⟨a, b⟩
    exact ⟨(p - loP wall).toNat, List.mem_range.mpr (by omega), by omega⟩
theorem f_pairs' (ws : List Int) (vs : List Rat) (wall : Bool) : dFld okF "pairs" (rowD ws vs wall) = some (.tup ((pairsL ws.length wall).map .int)) := by
  rw [f_pairs, ← pairs_rg]; rfl
theorem inT_of {k l : Nat} {x : D} {ds : List D} (hx : Sh k x) (hd : ShA l ds) (hl : l ≤ 60) : inT x ds = some ((toPs ds).any fun z => PyData.eqv z (toP x)) := by
  unfold inT
  rw [if_pos ⟨hx.1, hd.1, PyData.plainAll_of_canLay0 _ hd.1, Nat.le_trans hd.2 hl⟩]
theorem any_ints (p : Int) : ∀ l : List Int, ((toPs (l.map D.int)).any fun z => PyData.eqv z (toP (.int p))) = decide (p ∈ l)
  | [] => by simp [toPs]
  | q :: l => by
    have ih := any_ints p l
    show (PyData.eqv (toP (.int q)) (toP (.int p)) || ((toPs (l.map D.int)).any fun z => PyData.eqv z (toP (.int p)))) = _
    rw [ih, show PyData.eqv (toP (.int q)) (toP (.int p)) = decide (q = p) from eqv_int q p, ← Bool.decide_or, decide_eq_decide, List.mem_cons]
    exact or_congr eq_comm Iff.rfl
theorem notIn_ints (p : Int) (l : List Int) : dNotInA (.int p) (.tup (l.map .int)) = some (.bl (!decide (p ∈ l))) := by
  show (inT (.int p) (l.map D.int)).map (fun b => D.bl (not b)) = _
  rw [inT_of (.int 0 p) (ShA.map (k := 0) (.int 0) l) (by decide), any_ints]; rfl
theorem raiseG_pair (m : ME) (env : Env') (st s1 : List D) (d : D) (h : m env st = .ok d s1) : mRaiseG 3 ["pair"] okAny (mCons m (mNil)) env st = .er ⟨3, some [("pair", d)]⟩ env s1 := by
  rw [ev8, ev2.2.2.2.2.2.2.1, h]
  rfl
def exPair (d : D) : Ex := ⟨c_NoPair, some [("pair", d)]⟩
def exWord : Ex := ⟨c_BadWord, some [("what", .str "word"), ("index", .int 0)]⟩
theorem raiseG_word (env : Env') (st : List D) : mRaiseG 4 ["index", "what"] okInt0 (mCons (mC (.int 0)) (mCons (mC (.str "word")) (mNil))) env st = .er exWord env st := by
  have h : okInt0 [D.int 0, .str "word"] = true := by decide +kernel
  rw [ev8]
  simp only [ev, bind_ok]
  rw [if_pos ⟨rfl, by simp, h⟩]
  rfl
section
variable {ws : List Int} {vs : List Rat} {wall : Bool} {p : Int} {d : D}
theorem e_pair_ok (h1 : (if wall then 1 else 2) ≤ ws.length) (hp : PairOk ws.length wall p) (st : List D) : m_check_pair [rowD ws vs wall, .int p] st = .ok .non st := by
  have w := e_is_whole_int p st
  have n := notIn_ints p (pairsL ws.length wall)
  rw [decide_eq_true ((mem_pairs h1).mpr hp)] at n
  unfold m_check_pair b_check_pair
  simp only [ev, bind_ok, bind_err, get?, ret_ok, List.set_cons_zero, List.set_cons_succ, if_true, if_false, ite_true, ite_false, Bool.false_eq_true, Bool.not_true, Bool.not_false, Bool.and_true, Bool.true_and, Bool.and_false, Bool.false_and, decide_true, decide_false, not_true_eq_false, not_false_eq_true, mkEnv, w, f_pairs', n]
def BadPair (n : Nat) (wall : Bool) (d : D) : Prop := NoWhole d ∨ ∃ i, d = .int i ∧ ¬ PairOk n wall i
theorem e_pair_bad (h1 : (if wall then 1 else 2) ≤ ws.length) (hp : BadPair ws.length wall d) (st : List D) : m_check_pair [rowD ws vs wall, d] st = .err (exPair d) st := by
  have r := raiseG_pair (mVar 1) [some (rowD ws vs wall), some d] st st d (by simp only [ev, bind_ok, bind_err, get?, ret_ok, List.set_cons_zero, List.set_cons_succ, if_true, if_false, ite_true, ite_false, Bool.false_eq_true, Bool.not_true, Bool.not_false, Bool.and_true, Bool.true_and, Bool.and_false, Bool.false_and, decide_true, decide_false, not_true_eq_false, not_false_eq_true])
  unfold m_check_pair b_check_pair
  rcases hp with h | ⟨i, rfl, h⟩
  · have w := h st
    simp only [ev, bind_ok, bind_err, get?, ret_ok, List.set_cons_zero, List.set_cons_succ, if_true, if_false, ite_true, ite_false, Bool.false_eq_true, Bool.not_true, Bool.not_false, Bool.and_true, Bool.true_and, Bool.and_false, Bool.false_and, decide_true, decide_false, not_true_eq_false, not_false_eq_true, mkEnv, w, r]
    rfl
  · have w := e_is_whole_int i st
    have n := notIn_ints i (pairsL ws.length wall)
    rw [decide_eq_false (fun z => h ((mem_pairs h1).mp z))] at n
    simp only [ev, bind_ok, bind_err, get?, ret_ok, List.set_cons_zero, List.set_cons_succ, if_true, if_false, ite_true, ite_false, Bool.false_eq_true, Bool.not_true, Bool.not_false, Bool.and_true, Bool.true_and, Bool.and_false, Bool.false_and, decide_true, decide_false, not_true_eq_false, not_false_eq_true, mkEnv, w, f_pairs', n, r]
    rfl
/-! words -/
theorem word_loop (h1 : (if wall then 1 else 2) ≤ ws.length) (st : List D) (w : Option D) (r : List D) : ∀ (ps : List Int) (x : Option D), (∀ p ∈ ps, PairOk ws.length wall p) → ∃ y, forD (gNm 2) bd_check_word_1 (ps.map .int ++ r) [some (rowD ws vs wall), w, x] st = forD (gNm 2) bd_check_word_1 r [some (rowD ws vs wall), w, y] st
  | [], x, _ => ⟨x, rfl⟩
  | p :: ps, x, hp => by
    obtain ⟨y, ih⟩ := word_loop h1 st w r ps (some (.int p)) fun q hq => hp q (List.mem_cons_of_mem _ hq)
    have c := e_pair_ok (vs := vs) h1 (hp p List.mem_cons_self) st
    refine ⟨y, ?_⟩
    rw [List.map_cons, List.cons_append, forD_rt rfl (e2 := [some (rowD ws vs wall), w, some (.int p)]) (s1 := st) (by
      unfold bd_check_word_1
      simp only [ev, bind_ok, bind_err, get?, ret_ok, List.set_cons_zero, List.set_cons_succ, if_true, if_false, ite_true, ite_false, Bool.false_eq_true, Bool.not_true, Bool.not_false, Bool.and_true, Bool.true_and, Bool.and_false, Bool.false_and, decide_true, decide_false, not_true_eq_false, not_false_eq_true, c])]
    exact ih
theorem e_word_ok {G : D} {ps : List Int} (h1 : (if wall then 1 else 2) ≤ ws.length) (hG : SeqD G (ps.map .int)) (hl : ps.length ≤ 800) (hp : ∀ p ∈ ps, PairOk ws.length wall p) (st : List D) : m_check_word [rowD ws vs wall, G] st = .ok (.tup (ps.map .int)) st := by
  obtain ⟨y, h⟩ := word_loop (vs := vs) h1 st (some G) [] ps none hp
  rw [List.append_nil, forD_nil] at h
  have hF : F_check_word_1 [some (rowD ws vs wall), some G, none] st = .nx [some (rowD ws vs wall), some G, y] st := mFor_of (mItems_of (me := mVar 1) (x := G) (st1 := st) (by simp only [ev, bind_ok, bind_err, get?, ret_ok, List.set_cons_zero, List.set_cons_succ, if_true, if_false, ite_true, ite_false, Bool.false_eq_true, Bool.not_true, Bool.not_false, Bool.and_true, Bool.true_and, Bool.and_false, Bool.false_and, decide_true, decide_false, not_true_eq_false, not_false_eq_true]) (hG.items st)) h
  have iw := hG.isi
  have lw := hG.len
  rw [List.length_map] at lw
  have g : decide ((800 : Int) < (ps.length : Int)) = false := decide_eq_false (by omega)
  have tp := hG.tup
  unfold m_check_word b_check_word
  rw [show fnM 3 _ [rowD ws vs wall, G] st = outR (_) from fnM_eq (by simp)]
  simp only [mkEnv]
  (rw [mSeq_k]; (conv => (lhs; arg 1; arg 1; simp only [ev, bind_ok, bind_err, get?, ret_ok, List.set_cons_zero, List.set_cons_succ, if_true, if_false, ite_true, ite_false, Bool.false_eq_true, Bool.not_true, Bool.not_false, Bool.and_true, Bool.true_and, Bool.and_false, Bool.false_and, decide_true, decide_false, not_true_eq_false, not_false_eq_true, iw, lw, g])); rw [seqK_nx])
  (rw [mSeq_k]; (conv => (lhs; arg 1; arg 1; simp only [ev, bind_ok, bind_err, get?, ret_ok, List.set_cons_zero, List.set_cons_succ, if_true, if_false, ite_true, ite_false, Bool.false_eq_true, Bool.not_true, Bool.not_false, Bool.and_true, Bool.true_and, Bool.and_false, Bool.false_and, decide_true, decide_false, not_true_eq_false, not_false_eq_true, hF])); rw [seqK_nx])
  simp only [ev, bind_ok, bind_err, get?, ret_ok, List.set_cons_zero, List.set_cons_succ, if_true, if_false, ite_true, ite_false, Bool.false_eq_true, Bool.not_true, Bool.not_false, Bool.and_true, Bool.true_and, Bool.and_false, Bool.false_and, decide_true, decide_false, not_true_eq_false, not_false_eq_true, tp]
theorem e_word_bad {G : D} (h : dIsi [G, .tup [.ty "list", .ty "tuple"]] = some (.bl false) ∨ ∃ xs, SeqD G xs ∧ 800 < xs.length) (st : List D) : m_check_word [rowD ws vs wall, G] st = .err exWord st := by
  unfold m_check_word b_check_word
  rw [show fnM 3 _ [rowD ws vs wall, G] st = outR (_) from fnM_eq (by simp)]
  simp only [mkEnv]
  rcases h with h | ⟨xs, hG, hl⟩
  · simp only [ev, bind_ok, bind_err, get?, ret_ok, List.set_cons_zero, List.set_cons_succ, if_true, if_false, ite_true, ite_false, Bool.false_eq_true, Bool.not_true, Bool.not_false, Bool.and_true, Bool.true_and, Bool.and_false, Bool.false_and, decide_true, decide_false, not_true_eq_false, not_false_eq_true, h, raiseG_word]
  · have iw := hG.isi
    have lw := hG.len
    have g : decide ((800 : Int) < (xs.length : Int)) = true := decide_eq_true (by omega)
    simp only [ev, bind_ok, bind_err, get?, ret_ok, List.set_cons_zero, List.set_cons_succ, if_true, if_false, ite_true, ite_false, Bool.false_eq_true, Bool.not_true, Bool.not_false, Bool.and_true, Bool.true_and, Bool.and_false, Bool.false_and, decide_true, decide_false, not_true_eq_false, not_false_eq_true, iw, lw, g, raiseG_word]
theorem e_word_pair {G : D} {ps : List Int} {r : List D} (h1 : (if wall then 1 else 2) ≤ ws.length) (hG : SeqD G (ps.map .int ++ d :: r)) (hl : (ps.map D.int ++ d :: r).length ≤ 800) (hp : ∀ p ∈ ps, PairOk ws.length wall p) (hd : BadPair ws.length wall d) (st : List D) : m_check_word [rowD ws vs wall, G] st = .err (exPair d) st := by
  obtain ⟨y, h⟩ := word_loop (vs := vs) h1 st (some G) (d :: r) ps none hp
  have c := e_pair_bad (vs := vs) h1 hd st
  have hb : bd_check_word_1 [some (rowD ws vs wall), some G, some d] st = .er (exPair d) [some (rowD ws vs wall), some G, some d] st := by
    unfold bd_check_word_1
    simp only [ev, bind_ok, bind_err, get?, ret_ok, List.set_cons_zero, List.set_cons_succ, if_true, if_false, ite_true, ite_false, Bool.false_eq_true, Bool.not_true, Bool.not_false, Bool.and_true, Bool.true_and, Bool.and_false, Bool.false_and, decide_true, decide_false, not_true_eq_false, not_false_eq_true, c]
  have hF : F_check_word_1 [some (rowD ws vs wall), some G, none] st = .er (exPair d) [some (rowD ws vs wall), some G, some d] st := by
    refine mFor_of (mItems_of (me := mVar 1) (x := G) (st1 := st) (by simp only [ev, bind_ok, bind_err, get?, ret_ok, List.set_cons_zero, List.set_cons_succ, if_true, if_false, ite_true, ite_false, Bool.false_eq_true, Bool.not_true, Bool.not_false, Bool.and_true, Bool.true_and, Bool.and_false, Bool.false_and, decide_true, decide_false, not_true_eq_false, not_false_eq_true]) (hG.items st)) ?_
    rw [h, forD_cons]
    simp only [gNm, List.set_cons_zero, List.set_cons_succ, hb]
  have iw := hG.isi
  have lw := hG.len
  have g : decide ((800 : Int) < ((ps.map D.int ++ d :: r).length : Int)) = false := decide_eq_false (by omega)
  unfold m_check_word b_check_word
  rw [show fnM 3 _ [rowD ws vs wall, G] st = outR (_) from fnM_eq (by simp)]
  simp only [mkEnv]
  (rw [mSeq_k]; (conv => (lhs; arg 1; arg 1; simp only [ev, bind_ok, bind_err, get?, ret_ok, List.set_cons_zero, List.set_cons_succ, if_true, if_false, ite_true, ite_false, Bool.false_eq_true, Bool.not_true, Bool.not_false, Bool.and_true, Bool.true_and, Bool.and_false, Bool.false_and, decide_true, decide_false, not_true_eq_false, not_false_eq_true, iw, lw, g])); rw [seqK_nx])
  simp only [ev, bind_ok, bind_err, get?, ret_ok, List.set_cons_zero, List.set_cons_succ, if_true, if_false, ite_true, ite_false, Bool.false_eq_true, Bool.not_true, Bool.not_false, Bool.and_true, Bool.true_and, Bool.and_false, Bool.false_and, decide_true, decide_false, not_true_eq_false, not_false_eq_true, hF]
/-! clashes of rows -/
theorem methW {f : List D → M D} {ma : List D → Res (List D)} {st : List D} : methR c_Row "with_speeds" f ma (rowD ws vs wall) st = (ma st).bind fun ds => f (rowD ws vs wall :: ds) := methR_row (by decide +kernel)
theorem RowOk.clash (R : RowOk ws vs wall) : RowOk ws (clashR ws vs p) wall := R.speeds (clash_len ws vs p)
theorem row_with {V : D} {us : List Rat} {n : Nat} (R : RowOk ws vs wall) (hV : SeqD V (us.map rD)) (hl : us.length = vs.length) (h : Spd n us) (hn : n ≤ 64) (st : List D) : m_Row_with_speeds [rowD ws vs wall, V] st = .ok (rowD ws us wall) st :=
  e_with_speeds R hV (TL.rat h.sm) (by omega) hl (h.fit hn) st
theorem e_after_clash {n : Nat} (R : RowOk ws vs wall) (hp : PairOk ws.length wall p) (h : Spd n vs) (hn : n < 64) (st : List D) : m_after_clash [rowD ws vs wall, .int p] st = .ok (rowD ws (clashR ws vs p) wall) st := by
  have c := e_pair_ok (vs := vs) R.lo hp st
  have cl := e_clashed (W := .tup (ws.map .int)) (V := .tup (vs.map rD)) (.inr rfl) (.inr rfl) R.len R.w hp h.sm (by omega) st
  have wv := row_with R (V := .lst ((clashR ws vs p).map rD)) (.inl rfl) (clash_len ws vs p) (h.clash R.len R.w hp) (by omega) st
  unfold m_after_clash b_after_clash
  simp only [ev, bind_ok, bind_err, get?, ret_ok, List.set_cons_zero, List.set_cons_succ, if_true, if_false, ite_true, ite_false, Bool.false_eq_true, Bool.not_true, Bool.not_false, Bool.and_true, Bool.true_and, Bool.and_false, Bool.false_and, decide_true, decide_false, not_true_eq_false, not_false_eq_true, mkEnv, c, f_weights, f_speeds, cl, methW, wv]
theorem e_after_clash_bad (h1 : (if wall then 1 else 2) ≤ ws.length) (hp : BadPair ws.length wall d) (st : List D) : m_after_clash [rowD ws vs wall, d] st = .err (exPair d) st := by
  have c := e_pair_bad (vs := vs) h1 hp st
  unfold m_after_clash b_after_clash
  simp only [ev, bind_ok, bind_err, get?, ret_ok, List.set_cons_zero, List.set_cons_succ, if_true, if_false, ite_true, ite_false, Bool.false_eq_true, Bool.not_true, Bool.not_false, Bool.and_true, Bool.true_and, Bool.and_false, Bool.false_and, decide_true, decide_false, not_true_eq_false, not_false_eq_true, mkEnv, c]
theorem e_closing_speed {n : Nat} (R : RowOk ws vs wall) (hp : PairOk ws.length wall p) (h : Spd n vs) (hn : n ≤ 64) (st : List D) : m_closing_speed [rowD ws vs wall, .int p] st = .ok (rD (closR vs p)) st := by
  have c := e_pair_ok (vs := vs) R.lo hp st
  have cl := e_closing_of (V := .tup (vs.map rD)) (.inr rfl) (R.len ▸ hp) h.sm (by omega) st
  unfold m_closing_speed b_closing_speed
  simp only [ev, bind_ok, bind_err, get?, ret_ok, List.set_cons_zero, List.set_cons_succ, if_true, if_false, ite_true, ite_false, Bool.false_eq_true, Bool.not_true, Bool.not_false, Bool.and_true, Bool.true_and, Bool.and_false, Bool.false_and, decide_true, decide_false, not_true_eq_false, not_false_eq_true, mkEnv, c, f_speeds, cl]
theorem e_closing_speed_bad (h1 : (if wall then 1 else 2) ≤ ws.length) (hp : BadPair ws.length wall d) (st : List D) : m_closing_speed [rowD ws vs wall, d] st = .err (exPair d) st := by
  have c := e_pair_bad (vs := vs) h1 hp st
  unfold m_closing_speed b_closing_speed
  simp only [ev, bind_ok, bind_err, get?, ret_ok, List.set_cons_zero, List.set_cons_succ, if_true, if_false, ite_true, ite_false, Bool.false_eq_true, Bool.not_true, Bool.not_false, Bool.and_true, Bool.true_and, Bool.and_false, Bool.false_and, decide_true, decide_false, not_true_eq_false, not_false_eq_true, mkEnv, c]
def wordR (ws : List Int) (vs : List Rat) (ps : List Int) : List Rat := ps.foldl (clashR ws) vs
theorem word_len (ws : List Int) : ∀ (ps : List Int) (vs : List Rat), (wordR ws vs ps).length = vs.length
  | [], _ => rfl
  | p :: ps, vs => (word_len ws ps (clashR ws vs p)).trans (clash_len ws vs p)
theorem word_spd {ws : List Int} {wall : Bool} (hw : ∀ w ∈ ws, 1 ≤ w ∧ w ≤ 9) : ∀ (ps : List Int) {vs : List Rat} {n : Nat}, Spd n vs → ws.length = vs.length → (∀ p ∈ ps, PairOk ws.length wall p) → Spd (n + ps.length) (wordR ws vs ps)
  | [], _, _, h, _, _ => h
  | p :: ps, vs, n, h, hl, hp => by
    have := word_spd hw ps (h.clash hl hw (hp p List.mem_cons_self)) (by rw [clash_len]; exact hl) fun q hq => hp q (List.mem_cons_of_mem _ hq)
    rw [List.length_cons, show n + (ps.length + 1) = n + 1 + ps.length by omega]
    exact this
theorem word_back {ws : List Int} {wall : Bool} (hw : ∀ w ∈ ws, 1 ≤ w ∧ w ≤ 9) : ∀ (ps : List Int) {vs : List Rat}, ws.length = vs.length → (∀ p ∈ ps, PairOk ws.length wall p) → wordR ws (wordR ws vs ps) ps.reverse = vs
  | [], _, _, _ => rfl
  | p :: ps, vs, hl, hp => by
    have ih := word_back hw ps (vs := clashR ws vs p) (by rw [clash_len]; exact hl) fun q hq => hp q (List.mem_cons_of_mem _ hq)
    have e1 : wordR ws vs (p :: ps) = wordR ws (clashR ws vs p) ps := rfl
    rw [e1, List.reverse_cons]
    unfold wordR at ih ⊢
    rw [List.foldl_append, ih]
    exact clash_back hl hw (hp p List.mem_cons_self)
theorem after_loop {w : Option D} (hw : ∀ w ∈ ws, 1 ≤ w ∧ w ≤ 9) (st : List D) : ∀ (ps : List Int) (us : List Rat) (V : D) (n : Nat) (x : Option D), SeqD V (us.map rD) → ws.length = us.length → Spd n us → n + ps.length ≤ 64 → (∀ p ∈ ps, PairOk ws.length wall p) →
    ∃ V' y, SeqD V' ((wordR ws us ps).map rD) ∧ forD (gNm 3) bd_after_word_1 (ps.map .int) [some (rowD ws vs wall), w, some V, x] st = .nx [some (rowD ws vs wall), w, some V', y] st
  | [], us, V, n, x, hV, _, _, _, _ => ⟨V, x, hV, rfl⟩
  | p :: ps, us, V, n, x, hV, hl, h, hn, hp => by
    have hn : n + (ps.length + 1) ≤ 64 := hn
    have cl := e_clashed (W := .tup (ws.map .int)) (V := V) (.inr rfl) hV hl hw (hp p List.mem_cons_self) h.sm (by omega) st
    obtain ⟨V', y, h1, h2⟩ := after_loop hw st ps (clashR ws us p) (.lst ((clashR ws us p).map rD)) (n + 1) (some (.int p)) (.inl rfl) (by rw [clash_len]; exact hl) (h.clash hl hw (hp p List.mem_cons_self)) (by omega) fun q hq => hp q (List.mem_cons_of_mem _ hq)
    refine ⟨V', y, h1, ?_⟩
    rw [List.map_cons, forD_rt rfl (e2 := [some (rowD ws vs wall), w, some (.lst ((clashR ws us p).map rD)), some (.int p)]) (s1 := st) (by
      unfold bd_after_word_1
      simp only [ev, bind_ok, bind_err, get?, ret_ok, List.set_cons_zero, List.set_cons_succ, if_true, if_false, ite_true, ite_false, Bool.false_eq_true, Bool.not_true, Bool.not_false, Bool.and_true, Bool.true_and, Bool.and_false, Bool.false_and, decide_true, decide_false, not_true_eq_false, not_false_eq_true, f_weights, cl])]
    exact h2
theorem e_after_word {G : D} {ps : List Int} {n : Nat} (R : RowOk ws vs wall) (hG : SeqD G (ps.map .int)) (h : Spd n vs) (hn : n + ps.length ≤ 64) (hp : ∀ p ∈ ps, PairOk ws.length wall p) (st : List D) : m_after_word [rowD ws vs wall, G] st = .ok (rowD ws (wordR ws vs ps) wall) st := by
  have cw := e_word_ok (vs := vs) R.lo hG (by omega) hp st
  obtain ⟨V', y, h1, h2⟩ := after_loop (ws := ws) (vs := vs) (wall := wall) (w := some G) R.w st ps vs (.tup (vs.map rD)) n none (.inr rfl) R.len h hn hp
  have hF : F_after_word_1 [some (rowD ws vs wall), some G, some (.tup (vs.map rD)), none] st = .nx [some (rowD ws vs wall), some G, some V', y] st := mFor_of (mItems_of (x := .tup (ps.map .int)) (st1 := st) (by simp only [ev, bind_ok, bind_err, get?, ret_ok, List.set_cons_zero, List.set_cons_succ, if_true, if_false, ite_true, ite_false, Bool.false_eq_true, Bool.not_true, Bool.not_false, Bool.and_true, Bool.true_and, Bool.and_false, Bool.false_and, decide_true, decide_false, not_true_eq_false, not_false_eq_true, cw]) rfl) h2
  have wv := row_with R h1 (word_len ws ps vs) (word_spd R.w ps h R.len hp) hn st
  unfold m_after_word b_after_word
  rw [show fnM 4 _ [rowD ws vs wall, G] st = outR (_) from fnM_eq (by simp)]
  simp only [mkEnv]
  (rw [mSeq_k]; (conv => (lhs; arg 1; arg 1; simp only [ev, bind_ok, bind_err, get?, ret_ok, List.set_cons_zero, List.set_cons_succ, if_true, if_false, ite_true, ite_false, Bool.false_eq_true, Bool.not_true, Bool.not_false, Bool.and_true, Bool.true_and, Bool.and_false, Bool.false_and, decide_true, decide_false, not_true_eq_false, not_false_eq_true, f_speeds])); rw [seqK_nx])
  (rw [mSeq_k]; (conv => (lhs; arg 1; arg 1; simp only [ev, bind_ok, bind_err, get?, ret_ok, List.set_cons_zero, List.set_cons_succ, if_true, if_false, ite_true, ite_false, Bool.false_eq_true, Bool.not_true, Bool.not_false, Bool.and_true, Bool.true_and, Bool.and_false, Bool.false_and, decide_true, decide_false, not_true_eq_false, not_false_eq_true, hF])); rw [seqK_nx])
  simp only [ev, bind_ok, bind_err, get?, ret_ok, List.set_cons_zero, List.set_cons_succ, if_true, if_false, ite_true, ite_false, Bool.false_eq_true, Bool.not_true, Bool.not_false, Bool.and_true, Bool.true_and, Bool.and_false, Bool.false_and, decide_true, decide_false, not_true_eq_false, not_false_eq_true, methW, wv]
theorem e_after_word_err {G : D} {x : Ex} (h : ∀ st, m_check_word [rowD ws vs wall, G] st = .err x st) (st : List D) : m_after_word [rowD ws vs wall, G] st = .err x st := by
  have c := h st
  have hF : F_after_word_1 [some (rowD ws vs wall), some G, some (.tup (vs.map rD)), none] st = .er x [some (rowD ws vs wall), some G, some (.tup (vs.map rD)), none] st := by
    unfold F_after_word_1 mFor mItems
    simp only [ev, bind_ok, bind_err, get?, ret_ok, List.set_cons_zero, List.set_cons_succ, if_true, if_false, ite_true, ite_false, Bool.false_eq_true, Bool.not_true, Bool.not_false, Bool.and_true, Bool.true_and, Bool.and_false, Bool.false_and, decide_true, decide_false, not_true_eq_false, not_false_eq_true, c]
  unfold m_after_word b_after_word
  rw [show fnM 4 _ [rowD ws vs wall, G] st = outR (_) from fnM_eq (by simp)]
  simp only [mkEnv]
  (rw [mSeq_k]; (conv => (lhs; arg 1; arg 1; simp only [ev, bind_ok, bind_err, get?, ret_ok, List.set_cons_zero, List.set_cons_succ, if_true, if_false, ite_true, ite_false, Bool.false_eq_true, Bool.not_true, Bool.not_false, Bool.and_true, Bool.true_and, Bool.and_false, Bool.false_and, decide_true, decide_false, not_true_eq_false, not_false_eq_true, f_speeds])); rw [seqK_nx])
  simp only [ev, bind_ok, bind_err, get?, ret_ok, List.set_cons_zero, List.set_cons_succ, if_true, if_false, ite_true, ite_false, Bool.false_eq_true, Bool.not_true, Bool.not_false, Bool.and_true, Bool.true_and, Bool.and_false, Bool.false_and, decide_true, decide_false, not_true_eq_false, not_false_eq_true, hF]
/-! who comes -/
def comes (vs : List Rat) (p : Int) : Bool := decide (0 < (closR vs p).num)
def comers (n : Nat) (wall : Bool) (vs : List Rat) : List Int := (pairsL n wall).filter (comes vs)
theorem pairs_len (n : Nat) (wall : Bool) : (pairsL n wall).length = gc n wall := by unfold pairsL; simp
theorem gc_le {n : Nat} (wall : Bool) (h : n ≤ 40) : gc n wall ≤ 40 := by unfold gc; cases wall <;> simp <;> omega
theorem e_coming {n : Nat} (R : RowOk ws vs wall) (h : Spd n vs) (hn : n ≤ 64) (st : List D) : m_coming_pairs [rowD ws vs wall] st = .ok (.tup ((comers ws.length wall vs).map .int)) st := by
  have hL : L_coming_pairs_1 [some (rowD ws vs wall), none] st = .ok (.lst ((comers ws.length wall vs).map .int)) st := by
    unfold L_coming_pairs_1
    refine mLC_of (mItems_of (x := .tup ((pairsL ws.length wall).map .int)) (st1 := st) (by simp only [ev, bind_ok, bind_err, get?, ret_ok, List.set_cons_zero, List.set_cons_succ, if_true, if_false, ite_true, ite_false, Bool.false_eq_true, Bool.not_true, Bool.not_false, Bool.and_true, Bool.true_and, Bool.and_false, Bool.false_and, decide_true, decide_false, not_true_eq_false, not_false_eq_true, f_pairs']) rfl) (lcD_filterL D.int (comes vs) (pairsL ws.length wall) fun p hp => ⟨_, rfl, ?_, ?_⟩) (by
      rw [List.length_map]
      have a := List.length_filter_le (comes vs) (pairsL ws.length wall)
      have b := gc_le wall R.hi
      rw [pairs_len] at a
      unfold comers
      omega)
    · have cl := e_closing_of (V := .tup (vs.map rD)) (.inr rfl) (R.len ▸ (mem_pairs R.lo).mp hp) h.sm (by omega) st
      simp only [ev, bind_ok, bind_err, get?, ret_ok, List.set_cons_zero, List.set_cons_succ, if_true, if_false, ite_true, ite_false, Bool.false_eq_true, Bool.not_true, Bool.not_false, Bool.and_true, Bool.true_and, Bool.and_false, Bool.false_and, decide_true, decide_false, not_true_eq_false, not_false_eq_true, wipeE, f_speeds, cl, ixr0]
      rfl
    · unfold el_coming_pairs_1
      simp only [ev, bind_ok, bind_err, get?, ret_ok, List.set_cons_zero, List.set_cons_succ, if_true, if_false, ite_true, ite_false, Bool.false_eq_true, Bool.not_true, Bool.not_false, Bool.and_true, Bool.true_and, Bool.and_false, Bool.false_and, decide_true, decide_false, not_true_eq_false, not_false_eq_true, wipeE]
  unfold m_coming_pairs b_coming_pairs
  simp only [ev, bind_ok, bind_err, get?, ret_ok, List.set_cons_zero, List.set_cons_succ, if_true, if_false, ite_true, ite_false, Bool.false_eq_true, Bool.not_true, Bool.not_false, Bool.and_true, Bool.true_and, Bool.and_false, Bool.false_and, decide_true, decide_false, not_true_eq_false, not_false_eq_true, mkEnv, hL, dTup_lst]
/-! the first that does not come -/
def firstNC (ws : List Int) : List Rat → List Int → Nat → Option Nat
  | _, [], _ => none
  | vs, p :: ps, k => if (closR vs p).num ≤ 0 then some k else firstNC ws (clashR ws vs p) ps (k + 1)
def optN : Option Nat → D
  | none => .non
  | some k => .int (k : Int)
def numF : Nat → List Int → List D
  | _, [] => []
  | k, p :: ps => .tup [.int (k : Int), .int p] :: numF (k + 1) ps
theorem numF_eq : ∀ (ps : List Int) (k : Nat), (ps.map D.int).mapIdx (fun i d => D.tup [.int ((i + k : Nat) : Int), d]) = numF k ps
  | [], _ => rfl
  | p :: ps, k => by
    rw [List.map_cons, List.mapIdx_cons]
    show _ :: _ = D.tup [.int (k : Int), .int p] :: numF (k + 1) ps
    rw [← numF_eq ps (k + 1), Nat.zero_add]
    congr 1
    exact congrArg (fun f => List.mapIdx f (ps.map D.int)) (funext fun i => funext fun d => by rw [show i + 1 + k = i + (k + 1) by omega])
theorem numbered_eq (ps : List Int) : numbered (ps.map D.int) = numF 0 ps := numF_eq ps 0
theorem nc_loop {w : Option D} (hw : ∀ w ∈ ws, 1 ≤ w ∧ w ≤ 9) (st : List D) : ∀ (ps : List Int) (us : List Rat) (V : D) (n k : Nat) (x y : Option D), SeqD V (us.map rD) → ws.length = us.length → Spd n us → n + ps.length ≤ 64 → (∀ p ∈ ps, PairOk ws.length wall p) →
    (∃ j, firstNC ws us ps k = some j ∧ forD (gTp (gsCons (gNm 3) (gsCons (gNm 4) (gsNil)))) bd_first_not_coming_1 (numF k ps) [some (rowD ws vs wall), w, some V, x, y] st = .rt (.int (j : Int)) st) ∨ (firstNC ws us ps k = none ∧ ∃ e, forD (gTp (gsCons (gNm 3) (gsCons (gNm 4) (gsNil)))) bd_first_not_coming_1 (numF k ps) [some (rowD ws vs wall), w, some V, x, y] st = .nx e st)
  | [], us, V, n, k, x, y, hV, _, _, _, _ => .inr ⟨rfl, _, rfl⟩
  | p :: ps, us, V, n, k, x, y, hV, hl, h, hn, hp => by
    have hn : n + (ps.length + 1) ≤ 64 := hn
    have hp1 := hp p List.mem_cons_self
    have co := e_closing_of (V := V) hV (hl ▸ hp1) h.sm (by omega) st
    have cl := e_clashed (W := .tup (ws.map .int)) (V := V) (.inr rfl) hV hl hw hp1 h.sm (by omega) st
    have ih := nc_loop (w := w) hw st ps (clashR ws us p) (.lst ((clashR ws us p).map rD)) (n + 1) (k + 1) (some (.int (k : Int))) (some (.int p)) (.inl rfl) (by rw [clash_len]; exact hl) (h.clash hl hw hp1) (by omega) fun q hq => hp q (List.mem_cons_of_mem _ hq)
    have g : gTp (gsCons (gNm 3) (gsCons (gNm 4) (gsNil))) (D.tup [.int (k : Int), .int p]) [some (rowD ws vs wall), w, some V, x, y] = some [some (rowD ws vs wall), w, some V, some (.int (k : Int)), some (.int p)] := rfl
    have un : firstNC ws us (p :: ps) k = if (closR us p).num ≤ 0 then some k else firstNC ws (clashR ws us p) ps (k + 1) := rfl
    have nf : numF k (p :: ps) = .tup [.int (k : Int), .int p] :: numF (k + 1) ps := rfl
    rw [un, nf]
    by_cases hc : (closR us p).num ≤ 0
    · left
      refine ⟨k, if_pos hc, ?_⟩
      have hb : bd_first_not_coming_1 [some (rowD ws vs wall), w, some V, some (.int (k : Int)), some (.int p)] st = .rt (.int (k : Int)) st := by
        unfold bd_first_not_coming_1
        simp only [ev, bind_ok, bind_err, get?, ret_ok, List.set_cons_zero, List.set_cons_succ, if_true, if_false, ite_true, ite_false, Bool.false_eq_true, Bool.not_true, Bool.not_false, Bool.and_true, Bool.true_and, Bool.and_false, Bool.false_and, decide_true, decide_false, not_true_eq_false, not_false_eq_true, co, ixr0, decide_eq_true hc]
      rw [forD_cons, g]
      simp only [hb]
    · have hb : bd_first_not_coming_1 [some (rowD ws vs wall), w, some V, some (.int (k : Int)), some (.int p)] st = .nx [some (rowD ws vs wall), w, some (.lst ((clashR ws us p).map rD)), some (.int (k : Int)), some (.int p)] st := by
        unfold bd_first_not_coming_1
        simp only [ev, bind_ok, bind_err, get?, ret_ok, List.set_cons_zero, List.set_cons_succ, if_true, if_false, ite_true, ite_false, Bool.false_eq_true, Bool.not_true, Bool.not_false, Bool.and_true, Bool.true_and, Bool.and_false, Bool.false_and, decide_true, decide_false, not_true_eq_false, not_false_eq_true, co, ixr0, decide_eq_false hc, f_weights, cl]
      rw [if_neg hc, forD_rt g hb]
      exact ih
theorem e_first_nc {G : D} {ps : List Int} {n : Nat} (R : RowOk ws vs wall) (hG : SeqD G (ps.map .int)) (h : Spd n vs) (hn : n + ps.length ≤ 64) (hp : ∀ p ∈ ps, PairOk ws.length wall p) (st : List D) : m_first_not_coming [rowD ws vs wall, G] st = .ok (optN (firstNC ws vs ps 0)) st := by
  have cw := e_word_ok (vs := vs) R.lo hG (by omega) hp st
  have en : enumA? [.tup (ps.map D.int)] st = .ok (numF 0 ps) st := by
    rw [← numbered_eq]; rfl
  have it : (mThenA (mCons (mCall m_check_word (mCons (mVar 0) (mCons (mVar 1) (mNil)))) (mNil)) enumA?) [some (rowD ws vs wall), some G, some (.tup (vs.map rD)), none, none] st = .ok (numF 0 ps) st := mThenA_of (xs := [.tup (ps.map .int)]) (st1 := st) (by simp only [ev, bind_ok, bind_err, get?, ret_ok, List.set_cons_zero, List.set_cons_succ, if_true, if_false, ite_true, ite_false, Bool.false_eq_true, Bool.not_true, Bool.not_false, Bool.and_true, Bool.true_and, Bool.and_false, Bool.false_and, decide_true, decide_false, not_true_eq_false, not_false_eq_true, cw]) en
  unfold m_first_not_coming b_first_not_coming
  rw [show fnM 5 _ [rowD ws vs wall, G] st = outR (_) from fnM_eq (by simp)]
  simp only [mkEnv]
  (rw [mSeq_k]; (conv => (lhs; arg 1; arg 1; simp only [ev, bind_ok, bind_err, get?, ret_ok, List.set_cons_zero, List.set_cons_succ, if_true, if_false, ite_true, ite_false, Bool.false_eq_true, Bool.not_true, Bool.not_false, Bool.and_true, Bool.true_and, Bool.and_false, Bool.false_and, decide_true, decide_false, not_true_eq_false, not_false_eq_true, f_speeds])); rw [seqK_nx])
  rcases nc_loop (vs := vs) (wall := wall) (w := some G) R.w st ps vs (.tup (vs.map rD)) n 0 none none (.inr rfl) R.len h hn hp with ⟨j, e1, e2⟩ | ⟨e1, e, e2⟩
  · have hF : F_first_not_coming_1 [some (rowD ws vs wall), some G, some (.tup (vs.map rD)), none, none] st = .rt (.int (j : Int)) st := mFor_of it e2
    rw [e1]
    simp only [ev, bind_ok, bind_err, get?, ret_ok, List.set_cons_zero, List.set_cons_succ, if_true, if_false, ite_true, ite_false, Bool.false_eq_true, Bool.not_true, Bool.not_false, Bool.and_true, Bool.true_and, Bool.and_false, Bool.false_and, decide_true, decide_false, not_true_eq_false, not_false_eq_true, hF]
    rfl
  · have hF : F_first_not_coming_1 [some (rowD ws vs wall), some G, some (.tup (vs.map rD)), none, none] st = .nx e st := mFor_of it e2
    rw [e1]
    simp only [ev, bind_ok, bind_err, get?, ret_ok, List.set_cons_zero, List.set_cons_succ, if_true, if_false, ite_true, ite_false, Bool.false_eq_true, Bool.not_true, Bool.not_false, Bool.and_true, Bool.true_and, Bool.and_false, Bool.false_and, decide_true, decide_false, not_true_eq_false, not_false_eq_true, hF]
    rfl
theorem e_first_nc_err {G : D} {x : Ex} (h : ∀ st, m_check_word [rowD ws vs wall, G] st = .err x st) (st : List D) : m_first_not_coming [rowD ws vs wall, G] st = .err x st := by
  have c := h st
  have hF : F_first_not_coming_1 [some (rowD ws vs wall), some G, some (.tup (vs.map rD)), none, none] st = .er x [some (rowD ws vs wall), some G, some (.tup (vs.map rD)), none, none] st := by
    unfold F_first_not_coming_1 mFor mThenA
    simp only [ev, bind_ok, bind_err, get?, ret_ok, List.set_cons_zero, List.set_cons_succ, if_true, if_false, ite_true, ite_false, Bool.false_eq_true, Bool.not_true, Bool.not_false, Bool.and_true, Bool.true_and, Bool.and_false, Bool.false_and, decide_true, decide_false, not_true_eq_false, not_false_eq_true, c]
  unfold m_first_not_coming b_first_not_coming
  rw [show fnM 5 _ [rowD ws vs wall, G] st = outR (_) from fnM_eq (by simp)]
  simp only [mkEnv]
  (rw [mSeq_k]; (conv => (lhs; arg 1; arg 1; simp only [ev, bind_ok, bind_err, get?, ret_ok, List.set_cons_zero, List.set_cons_succ, if_true, if_false, ite_true, ite_false, Bool.false_eq_true, Bool.not_true, Bool.not_false, Bool.and_true, Bool.true_and, Bool.and_false, Bool.false_and, decide_true, decide_false, not_true_eq_false, not_false_eq_true, f_speeds])); rw [seqK_nx])
  simp only [ev, bind_ok, bind_err, get?, ret_ok, List.set_cons_zero, List.set_cons_succ, if_true, if_false, ite_true, ite_false, Bool.false_eq_true, Bool.not_true, Bool.not_false, Bool.and_true, Bool.true_and, Bool.and_false, Bool.false_and, decide_true, decide_false, not_true_eq_false, not_false_eq_true, hF]
end
end My

namespace My
open PySem PySem.Spec PyProof.Rows L2 DL
/-! the law's own words about rows and clashes -/
def ballsD (ws : List Int) (vs : List Rat) (wall : Bool) : D := .tup [.lst (ws.map .int), .lst (vs.map rD), .bl wall]
theorem bx0 (ws : List Int) (vs : List Rat) (wall : Bool) (st : List D) : ixS (ballsD ws vs wall) (.int 0) st = .ok (.lst (ws.map .int)) st := by unfold ballsD; simp only [ev5, ret_ok]
theorem bx1 (ws : List Int) (vs : List Rat) (wall : Bool) (st : List D) : ixS (ballsD ws vs wall) (.int 1) st = .ok (.lst (vs.map rD)) st := by unfold ballsD; simp only [ev5, ret_ok]
theorem bx2 (ws : List Int) (vs : List Rat) (wall : Bool) (st : List D) : ixS (ballsD ws vs wall) (.int 2) st = .ok (.bl wall) st := by unfold ballsD; simp only [ev5, ret_ok]
theorem dNe_ints (ws : List Int) : dNe (.tup (ws.map D.int)) (.tup (ws.map D.int)) = some (.bl false) := by
  rw [dNe_of (sh_ints ws) (sh_ints ws), eqv_tup, eqvL_ints, decide_eq_true rfl]; rfl
theorem dEq_ints (ws : List Int) : dEq (.tup (ws.map D.int)) (.tup (ws.map D.int)) = some (.bl true) := by
  rw [dEq_of (sh_ints ws) (sh_ints ws), eqv_tup, eqvL_ints, decide_eq_true rfl]
theorem dNe_intsL (ws : List Int) : dNe (.lst (ws.map D.int)) (.lst (ws.map D.int)) = some (.bl false) := by
  rw [dNe_of (Sh.lst (ShA.map (k := 0) (.int 0) ws)) (Sh.lst (ShA.map (k := 0) (.int 0) ws)), eqv_lst, eqvL_ints, decide_eq_true rfl]; rfl
theorem dEq_rats (vs : List Rat) : dEq (.tup (vs.map rD)) (.tup (vs.map rD)) = some (.bl true) := by
  rw [dEq_of (sh_rats vs) (sh_rats vs), eqv_tup, eqvL_rat, decide_eq_true rfl]
theorem dNe_bl (b : Bool) : dNe (.bl b) (.bl b) = some (.bl false) := by
  rw [dNe_of (.bl 0 b) (.bl 0 b), eqv_bl, decide_eq_true rfl]; rfl
theorem dNe_q (q : Rat) : dNe (rD q) (rD q) = some (.bl false) := by rw [dNe_rD, decide_eq_true rfl]; rfl
section
variable {ws : List Int} {vs us : List Rat} {wall : Bool} {p : Int} {V : D}
theorem e_is_row (hV : SeqD V (us.map rD)) (st : List D) : m__law_is_row [rowD ws us wall, ballsD ws vs wall, V] st = .ok (.bl true) st := by
  have c := isC_row ws us wall
  have i1 : dIsi [.bl wall, .ty "bool"] = some (.bl true) := rfl
  have i2 : dIsi [.tup (us.map rD), .ty "tuple"] = some (.bl true) := rfl
  have tp := hV.tup
  unfold m__law_is_row b__law_is_row
  simp only [ev, bind_ok, bind_err, get?, ret_ok, List.set_cons_zero, List.set_cons_succ, if_true, if_false, ite_true, ite_false, Bool.false_eq_true, Bool.not_true, Bool.not_false, Bool.and_true, Bool.true_and, Bool.and_false, Bool.false_and, decide_true, decide_false, not_true_eq_false, not_false_eq_true, mkEnv, c, f_weights, f_wall, f_speeds, bx0, bx2, dTup_lst, dNe_ints, dNe_bl, i1, i2, tp, dEq_rats]
theorem sums_loop' {s a m M : Nat} (hM : 0 < M) (hm : M < 2 ^ m) (hz : 2 * a + m + 2 * s + 30 ≤ 7000) (e0 e1 : Option D) (st : List D) :
    ∀ (ws : List Int) (vs : List Rat) (k : Nat) (p q : Rat) (x y : Option D), (∀ w ∈ ws, 1 ≤ w ∧ w ≤ 9) → (∀ v ∈ vs, Sm s v ∧ IM M v ∧ IM M (v * v) ∧ Bd (2 ^ a : Nat) v) → k + ws.length ≤ 40 → ws.length = vs.length → IM M p → IM M q → Bd (k * (9 * (2 ^ a : Nat))) p → Bd (k * (9 * ((2 ^ a : Nat) * (2 ^ a : Nat)))) q →
      ∃ x' y', forD (gTp (gsCons (gNm 4) (gsCons (gNm 5) (gsNil)))) bd_law_sums_1
        (List.zipWith (fun x y => .tup [x, y]) (ws.map .int) (vs.map rD)) [e0, e1, some (rD p), some (rD q), x, y] st = .nx [e0, e1, some (rD (p + S1 ws vs)), some (rD (q + S2 ws vs)), x', y'] st
  | [], [], k, p, q, x, y, _, _, _, _, _, _, _, _ => ⟨x, y, by
      have e1 : p + S1 [] [] = p := Rat.add_zero p
      have e2 : q + S2 [] [] = q := Rat.add_zero q
      rw [e1, e2]; rfl⟩
  | w :: ws, v :: vs, k, p, q, x, y, hw, hv, hk, hl, ip, iq, bp, bq => by
    have hk : k + (ws.length + 1) ≤ 40 := hk
    have hl : ws.length + 1 = vs.length + 1 := hl
    obtain ⟨v1, v2, v3, v4⟩ := hv v List.mem_cons_self
    have w1 := hw w List.mem_cons_self
    have sw := (tells_int w1).sm
    have twv := sm_mul sw v1
    have tvv := sm_mul v1 v1
    have twvv := sm_mul sw tvv
    have b9 : ∀ (c : Nat) (r : Rat), Bd (k * (9 * (c : Int))) r → Bd ((2 ^ 9 * c : Nat) : Int) r := fun c r h => h.mono (by
      have h1 : (k : Int) * (9 * (c : Int)) = ((k * (9 * c) : Nat) : Int) := by simp
      rw [h1]
      have h2 : k * (9 * c) ≤ 39 * (9 * c) := Nat.mul_le_mul_right _ (by omega)
      omega)
    have sp : Sm (9 + a + m) p := sm_of hM hm ip (by
      have := b9 (2 ^ a) p bp
      rwa [← Nat.pow_add] at this)
    have sq : Sm (9 + (a + a) + m) q := sm_of hM hm iq (by
      have bq' : Bd (k * (9 * ((2 ^ a * 2 ^ a : Nat) : Int))) q := by rw [Int.natCast_mul]; exact bq
      have := b9 (2 ^ a * 2 ^ a) q bq'
      rwa [← Nat.pow_add, ← Nat.pow_add] at this)
    have f1 := e_law_mul sw v1 (by omega) st
    have f2 := e_law_add sp twv (by omega) st
    have f3 := e_law_mul v1 v1 (by omega) st
    have f4 := e_law_mul sw tvv (by omega) st
    have f5 := e_law_add sq twvv (by omega) st
    rw [rD_int] at f1 f4
    have c1 : ((k + 1 : Nat) : Int) * (9 * ((2 ^ a : Nat) : Int)) = k * (9 * (2 ^ a : Nat)) + 9 * (2 ^ a : Nat) := by rw [Int.natCast_add, Int.add_mul]; simp
    have c2 : ((k + 1 : Nat) : Int) * (9 * (((2 ^ a : Nat) : Int) * (2 ^ a : Nat))) = k * (9 * ((2 ^ a : Nat) * (2 ^ a : Nat))) + 9 * ((2 ^ a : Nat) * (2 ^ a : Nat)) := by rw [Int.natCast_add, Int.add_mul]; simp
    obtain ⟨x', y', ih⟩ := sums_loop' hM hm hz e0 e1 st ws vs (k + 1) (p + (w : Rat) * v) (q + (w : Rat) * (v * v)) (some (.int w)) (some (rD v)) (fun u hu => hw u (List.mem_cons_of_mem _ hu)) (fun u hu => hv u (List.mem_cons_of_mem _ hu)) (by omega) (by omega) (ip.add (v2.imul w)) (iq.add (v3.imul w)) (by rw [c1]; exact bp.add ((bd_w w1).mul v4)) (by rw [c2]; exact bq.add ((bd_w w1).mul (v4.mul v4)))
    refine ⟨x', y', ?_⟩
    have r1 : p + S1 (w :: ws) (v :: vs) = p + (w : Rat) * v + S1 ws vs := by
      show p + ((w : Rat) * v + S1 ws vs) = _
      rw [Rat.add_assoc]
    have r2 : q + S2 (w :: ws) (v :: vs) = q + (w : Rat) * (v * v) + S2 ws vs := by
      show q + ((w : Rat) * (v * v) + S2 ws vs) = _
      rw [Rat.add_assoc]
    rw [r1, r2, ← ih]
    simp only [List.map_cons, List.zipWith_cons_cons, forD_cons]
    unfold bd_law_sums_1
    simp only [ev, bind_ok, bind_err, get?, ret_ok, List.set_cons_zero, List.set_cons_succ, if_true, if_false, ite_true, ite_false, Bool.false_eq_true, Bool.not_true, Bool.not_false, Bool.and_true, Bool.true_and, Bool.and_false, Bool.false_and, decide_true, decide_false, not_true_eq_false, not_false_eq_true, gNm, Option.bind_some, ev5, f1, f2, f3, f4, f5]
theorem e_law_sums' {n : Nat} (R : RowOk ws us wall) (h : Spd n us) (hn : n ≤ 64) (st : List D) : m__law_sums [ballsD ws vs wall, .lst (us.map rD)] st = .ok (.lst [rD (S1 ws us), rD (S2 ws us)]) st := by
  have ft := h.fit hn
  obtain ⟨M, hM, hm, hv⟩ := ft.ex
  obtain ⟨x', y', lp⟩ := sums_loop' hM hm ft.ok (some (ballsD ws vs wall)) (some (.lst (us.map rD))) st ws us 0 0 0 none none R.w hv (by have := R.hi; omega) R.len (.zero M) (.zero M) (by simpa using Bd.zero) (by simpa using Bd.zero)
  rw [Rat.zero_add, Rat.zero_add] at lp
  have r0 : rD 0 = .tup [.int 0, .int 1] := rfl
  have hF : F_law_sums_1 [some (ballsD ws vs wall), some (.lst (us.map rD)), some (rD 0), some (rD 0), none, none] st = .nx [some (ballsD ws vs wall), some (.lst (us.map rD)), some (rD (S1 ws us)), some (rD (S2 ws us)), x', y'] st :=
    mFor_of (mThenA_of (xs := [.lst (ws.map .int), .lst (us.map rD)]) (st1 := st) (by simp only [ev, bind_ok, bind_err, get?, ret_ok, List.set_cons_zero, List.set_cons_succ, if_true, if_false, ite_true, ite_false, Bool.false_eq_true, Bool.not_true, Bool.not_false, Bool.and_true, Bool.true_and, Bool.and_false, Bool.false_and, decide_true, decide_false, not_true_eq_false, not_false_eq_true, bx0]) rfl) lp
  rw [r0] at hF
  have l2 : lstOk [rD (S1 ws us), rD (S2 ws us)] st = .ok (.lst [rD (S1 ws us), rD (S2 ws us)]) st := lstOk_of (by simp) st
  unfold m__law_sums b__law_sums
  rw [show fnM 6 _ [ballsD ws vs wall, .lst (us.map rD)] st = outR (_) from fnM_eq (by simp)]
  simp only [mkEnv]
  (rw [mSeq_k]; (conv => (lhs; arg 1; arg 1; simp only [ev, bind_ok, bind_err, get?, ret_ok, List.set_cons_zero, List.set_cons_succ, if_true, if_false, ite_true, ite_false, Bool.false_eq_true, Bool.not_true, Bool.not_false, Bool.and_true, Bool.true_and, Bool.and_false, Bool.false_and, decide_true, decide_false, not_true_eq_false, not_false_eq_true, ev5])); rw [seqK_nx])
  (rw [mSeq_k]; (conv => (lhs; arg 1; arg 1; simp only [ev, bind_ok, bind_err, get?, ret_ok, List.set_cons_zero, List.set_cons_succ, if_true, if_false, ite_true, ite_false, Bool.false_eq_true, Bool.not_true, Bool.not_false, Bool.and_true, Bool.true_and, Bool.and_false, Bool.false_and, decide_true, decide_false, not_true_eq_false, not_false_eq_true, ev5])); rw [seqK_nx])
  (rw [mSeq_k]; (conv => (lhs; arg 1; arg 1; simp only [ev, bind_ok, bind_err, get?, ret_ok, List.set_cons_zero, List.set_cons_succ, if_true, if_false, ite_true, ite_false, Bool.false_eq_true, Bool.not_true, Bool.not_false, Bool.and_true, Bool.true_and, Bool.and_false, Bool.false_and, decide_true, decide_false, not_true_eq_false, not_false_eq_true, hF])); rw [seqK_nx])
  simp only [ev, bind_ok, bind_err, get?, ret_ok, List.set_cons_zero, List.set_cons_succ, if_true, if_false, ite_true, ite_false, Bool.false_eq_true, Bool.not_true, Bool.not_false, Bool.and_true, Bool.true_and, Bool.and_false, Bool.false_and, decide_true, decide_false, not_true_eq_false, not_false_eq_true, l2]
/-! pairs -/
theorem rgOk_nat {wall : Bool} {n : Nat} (h : n ≤ 1000) (h1 : 1 ≤ n) : RgOk (loP wall) ((n : Int) - 1) := by
  unfold RgOk loP
  have hz : (1000 : Int) ≤ sizeLine := by decide
  have h62 : (1000 : Int) < 2 ^ 62 := by decide
  have h62' : -(2 ^ 62) ≤ (-1 : Int) := by decide
  generalize (2 : Int) ^ 62 = B at *
  cases wall <;> simp only [Bool.false_eq_true, if_false, if_true] <;> refine ⟨?_, ?_, ?_, ?_, ?_⟩ <;> omega
theorem lstRg_nat {wall : Bool} {n : Nat} (h : n ≤ 1000) (h1 : 1 ≤ n) : dLstRg (.int (loP wall)) (.int ((n : Int) - 1)) = some (.lst ((pairsL n wall).map .int)) := by
  have e : dLstRg (.int (loP wall)) (.int ((n : Int) - 1)) = if RgOk (loP wall) ((n : Int) - 1) then some (D.lst (rangeD (loP wall) (((n : Int) - 1) - (loP wall)).toNat)) else none := rfl
  rw [e, if_pos (rgOk_nat h h1)]
  have : (((n : Int) - 1) - loP wall).toNat = gc n wall := by
    unfold gc loP
    cases wall <;> simp <;> omega
  rw [this, pairs_rg]
theorem lenB (ws : List Int) : c1 dLen [.lst (ws.map D.int)] = some (.int (ws.length : Nat)) := by
  show some (D.int ((ws.map D.int).length : Nat)) = _
  rw [List.length_map]
theorem e_law_pairs (h : ws.length ≤ 1000) (h1 : 1 ≤ ws.length) (st : List D) : m__law_pairs [ballsD ws vs wall] st = .ok (.lst ((pairsL ws.length wall).map .int)) st := by
  have l := lstRg_nat (wall := wall) h h1
  unfold m__law_pairs b__law_pairs
  cases wall
  · have l : dLstRg (.int 0) (.int ((ws.length : Int) - 1)) = some (.lst ((pairsL ws.length false).map .int)) := l
    simp only [ev, bind_ok, bind_err, get?, ret_ok, List.set_cons_zero, List.set_cons_succ, if_true, if_false, ite_true, ite_false, Bool.false_eq_true, Bool.not_true, Bool.not_false, Bool.and_true, Bool.true_and, Bool.and_false, Bool.false_and, decide_true, decide_false, not_true_eq_false, not_false_eq_true, mkEnv, bx0, bx2, List.length_map, l]
  · have l : dLstRg (.int (-1)) (.int ((ws.length : Int) - 1)) = some (.lst ((pairsL ws.length true).map .int)) := l
    simp only [ev, bind_ok, bind_err, get?, ret_ok, List.set_cons_zero, List.set_cons_succ, if_true, if_false, ite_true, ite_false, Bool.false_eq_true, Bool.not_true, Bool.not_false, Bool.and_true, Bool.true_and, Bool.and_false, Bool.false_and, decide_true, decide_false, not_true_eq_false, not_false_eq_true, mkEnv, bx0, bx2, List.length_map, l]
theorem e_law_comers {n : Nat} (R : RowOk ws us wall) (h : Spd n us) (hn : n ≤ 64) (st : List D) : m__law_comers [ballsD ws vs wall, .lst (us.map rD)] st = .ok (.tup ((comers ws.length wall us).map .int)) st := by
  have h1 : 1 ≤ ws.length := by have := R.lo; cases wall <;> simp at this <;> omega
  have pr := e_law_pairs (vs := vs) (wall := wall) (show ws.length ≤ 1000 by have := R.hi; omega) h1 st
  have hL : L_law_comers_1 [some (ballsD ws vs wall), some (.lst (us.map rD)), none] st = .ok (.lst ((comers ws.length wall us).map .int)) st := by
    unfold L_law_comers_1
    refine mLC_of (mItems_of (x := .lst ((pairsL ws.length wall).map .int)) (st1 := st) (by simp only [ev, bind_ok, bind_err, get?, ret_ok, List.set_cons_zero, List.set_cons_succ, if_true, if_false, ite_true, ite_false, Bool.false_eq_true, Bool.not_true, Bool.not_false, Bool.and_true, Bool.true_and, Bool.and_false, Bool.false_and, decide_true, decide_false, not_true_eq_false, not_false_eq_true, pr]) rfl) (lcD_filterL D.int (comes us) (pairsL ws.length wall) fun p hp => ⟨_, rfl, ?_, ?_⟩) (by
      rw [List.length_map]
      have a := List.length_filter_le (comes us) (pairsL ws.length wall)
      have b := gc_le wall R.hi
      rw [pairs_len] at a
      unfold comers
      omega)
    · have cl := e_law_closing (V := .lst (us.map rD)) (.inl rfl) (R.len ▸ (mem_pairs R.lo).mp hp) h.sm (by omega) st
      simp only [ev, bind_ok, bind_err, get?, ret_ok, List.set_cons_zero, List.set_cons_succ, if_true, if_false, ite_true, ite_false, Bool.false_eq_true, Bool.not_true, Bool.not_false, Bool.and_true, Bool.true_and, Bool.and_false, Bool.false_and, decide_true, decide_false, not_true_eq_false, not_false_eq_true, wipeE, cl, ixr0]
      rfl
    · unfold el_law_comers_1
      simp only [ev, bind_ok, bind_err, get?, ret_ok, List.set_cons_zero, List.set_cons_succ, if_true, if_false, ite_true, ite_false, Bool.false_eq_true, Bool.not_true, Bool.not_false, Bool.and_true, Bool.true_and, Bool.and_false, Bool.false_and, decide_true, decide_false, not_true_eq_false, not_false_eq_true, wipeE]
  unfold m__law_comers b__law_comers
  simp only [ev, bind_ok, bind_err, get?, ret_ok, List.set_cons_zero, List.set_cons_succ, if_true, if_false, ite_true, ite_false, Bool.false_eq_true, Bool.not_true, Bool.not_false, Bool.and_true, Bool.true_and, Bool.and_false, Bool.false_and, decide_true, decide_false, not_true_eq_false, not_false_eq_true, mkEnv, hL, dTup_lst]
theorem e_step_right {n : Nat} (R : RowOk ws us wall) (hp : PairOk ws.length wall p) (h : Spd n us) (hn : n + 2 ≤ 64) (st : List D) : m__law_step_right [ballsD ws vs wall, rowD ws us wall, .lst (us.map rD), .int p] st = .ok (.bl true) st := by
  have sc := h.clash R.len R.w hp
  have lc := e_law_clash (W := .lst (ws.map .int)) (V := .lst (us.map rD)) (.inl rfl) (.inl rfl) R.len R.w hp h.sm (by omega) st
  have ac := e_after_clash R hp h (by omega) st
  have R2 := R.clash (p := p)
  have r1 := e_is_row (ws := ws) (us := clashR ws us p) (vs := vs) (wall := wall) (V := .lst ((clashR ws us p).map rD)) (.inl rfl) st
  have r2 := e_is_row (ws := ws) (us := us) (vs := vs) (wall := wall) (V := .lst (us.map rD)) (.inl rfl) st
  have cs := e_closing_speed R hp h (by omega) st
  have sq : Sm (8 + 10 * n + (8 + 10 * n) + 1) (closR us p) := by
    rcases hp.cases with ⟨rfl, -, h1⟩ | ⟨k, rfl, hk⟩
    · rw [clos_m1]
      exact (neg_sm (sm_at h.sm (k := 0) (by rw [← R.len]; omega))).mono (by omega)
    · rw [clos_k]
      exact sm_sub (sm_at h.sm (k := k) (by rw [← R.len]; omega)) (sm_at h.sm (k := k + 1) (by rw [← R.len]; omega))
  have ir := e_law_is_ratio sq (by omega) st
  have lcl := e_law_closing (V := .lst (us.map rD)) (.inl rfl) (R.len ▸ hp) h.sm (by omega) st
  have cs2 := e_closing_speed R2 hp sc (by omega) st
  rw [clash_clos R.len R.w hp] at cs2
  have su := e_law_sums' (vs := vs) R2 sc (by omega) st
  have e1 : S2 ws (clashR ws us p) = S2 ws us := clash_S2 R.len R.w hp
  have ac2 := e_after_clash R2 hp sc (by omega) st
  rw [clash_back R.len R.w hp] at ac2
  have x0 : atI [rD (S1 ws (clashR ws us p)), rD (S2 ws us)] 0 = some (rD (S1 ws (clashR ws us p))) := rfl
  have x1 : atI [rD (S1 ws (clashR ws us p)), rD (S2 ws us)] 1 = some (rD (S2 ws us)) := rfl
  rw [e1] at su
  have f2 := f_second_sum ws (clashR ws us p) wall
  rw [e1] at f2
  have f1 := f_first_sum ws (clashR ws us p) wall
  have g2 := f_second_sum ws us wall
  have g1 := f_first_sum ws us wall
  unfold m__law_step_right b__law_step_right
  rw [show fnM 8 _ [ballsD ws vs wall, rowD ws us wall, .lst (us.map rD), .int p] st = outR (_) from fnM_eq (by simp)]
  simp only [mkEnv]
  (rw [mSeq_k]; (conv => (lhs; arg 1; arg 1; simp only [ev, bind_ok, bind_err, get?, ret_ok, List.set_cons_zero, List.set_cons_succ, if_true, if_false, ite_true, ite_false, Bool.false_eq_true, Bool.not_true, Bool.not_false, Bool.and_true, Bool.true_and, Bool.and_false, Bool.false_and, decide_true, decide_false, not_true_eq_false, not_false_eq_true, bx0, lc])); rw [seqK_nx])
  (rw [mSeq_k]; (conv => (lhs; arg 1; arg 1; simp only [ev, bind_ok, bind_err, get?, ret_ok, List.set_cons_zero, List.set_cons_succ, if_true, if_false, ite_true, ite_false, Bool.false_eq_true, Bool.not_true, Bool.not_false, Bool.and_true, Bool.true_and, Bool.and_false, Bool.false_and, decide_true, decide_false, not_true_eq_false, not_false_eq_true, ac])); rw [seqK_nx])
  (rw [mSeq_k]; (conv => (lhs; arg 1; arg 1; simp only [ev, bind_ok, bind_err, get?, ret_ok, List.set_cons_zero, List.set_cons_succ, if_true, if_false, ite_true, ite_false, Bool.false_eq_true, Bool.not_true, Bool.not_false, Bool.and_true, Bool.true_and, Bool.and_false, Bool.false_and, decide_true, decide_false, not_true_eq_false, not_false_eq_true, r1, r2])); rw [seqK_nx])
  (rw [mSeq_k]; (conv => (lhs; arg 1; arg 1; simp only [ev, bind_ok, bind_err, get?, ret_ok, List.set_cons_zero, List.set_cons_succ, if_true, if_false, ite_true, ite_false, Bool.false_eq_true, Bool.not_true, Bool.not_false, Bool.and_true, Bool.true_and, Bool.and_false, Bool.false_and, decide_true, decide_false, not_true_eq_false, not_false_eq_true, cs])); rw [seqK_nx])
  (rw [mSeq_k]; (conv => (lhs; arg 1; arg 1; simp only [ev, bind_ok, bind_err, get?, ret_ok, List.set_cons_zero, List.set_cons_succ, if_true, if_false, ite_true, ite_false, Bool.false_eq_true, Bool.not_true, Bool.not_false, Bool.and_true, Bool.true_and, Bool.and_false, Bool.false_and, decide_true, decide_false, not_true_eq_false, not_false_eq_true, ir, lcl, dNe_q, cs2, ixr0, ixr1, ev5, rD_neg])); rw [seqK_nx])
  (rw [mSeq_k]; (conv => (lhs; arg 1; arg 1; simp only [ev, bind_ok, bind_err, get?, ret_ok, List.set_cons_zero, List.set_cons_succ, if_true, if_false, ite_true, ite_false, Bool.false_eq_true, Bool.not_true, Bool.not_false, Bool.and_true, Bool.true_and, Bool.and_false, Bool.false_and, decide_true, decide_false, not_true_eq_false, not_false_eq_true, su])); rw [seqK_nx])
  (rw [mSeq_k]; (conv => (lhs; arg 1; arg 1; simp only [ev, bind_ok, bind_err, get?, ret_ok, List.set_cons_zero, List.set_cons_succ, if_true, if_false, ite_true, ite_false, Bool.false_eq_true, Bool.not_true, Bool.not_false, Bool.and_true, Bool.true_and, Bool.and_false, Bool.false_and, decide_true, decide_false, not_true_eq_false, not_false_eq_true, f2, g2, f1, ev5, x0, x1, dNe_q])); rw [seqK_nx])
  by_cases hp1 : p = -1
  · have d1 : decide (p = -1) = true := decide_eq_true hp1
    (rw [mSeq_k]; (conv => (lhs; arg 1; arg 1; simp only [ev, bind_ok, bind_err, get?, ret_ok, List.set_cons_zero, List.set_cons_succ, if_true, if_false, ite_true, ite_false, Bool.false_eq_true, Bool.not_true, Bool.not_false, Bool.and_true, Bool.true_and, Bool.and_false, Bool.false_and, decide_true, decide_false, not_true_eq_false, not_false_eq_true, d1])); rw [seqK_nx])
    simp only [ev, bind_ok, bind_err, get?, ret_ok, List.set_cons_zero, List.set_cons_succ, if_true, if_false, ite_true, ite_false, Bool.false_eq_true, Bool.not_true, Bool.not_false, Bool.and_true, Bool.true_and, Bool.and_false, Bool.false_and, decide_true, decide_false, not_true_eq_false, not_false_eq_true, ac2, r2]
  · have d1 : decide (p = -1) = false := decide_eq_false hp1
    have e0 := clash_S1 R.len R.w hp hp1
    rw [e0] at x0
    (rw [mSeq_k]; (conv => (lhs; arg 1; arg 1; simp only [ev, bind_ok, bind_err, get?, ret_ok, List.set_cons_zero, List.set_cons_succ, if_true, if_false, ite_true, ite_false, Bool.false_eq_true, Bool.not_true, Bool.not_false, Bool.and_true, Bool.true_and, Bool.and_false, Bool.false_and, decide_true, decide_false, not_true_eq_false, not_false_eq_true, d1, g1, ev5, e0, x0, dNe_q])); rw [seqK_nx])
    simp only [ev, bind_ok, bind_err, get?, ret_ok, List.set_cons_zero, List.set_cons_succ, if_true, if_false, ite_true, ite_false, Bool.false_eq_true, Bool.not_true, Bool.not_false, Bool.and_true, Bool.true_and, Bool.and_false, Bool.false_and, decide_true, decide_false, not_true_eq_false, not_false_eq_true, ac2, r2]
end
end My

namespace My
open PySem PySem.Spec PyProof.Rows L2 DL
/-! draws: speeds, falling rows, balls, words -/
def Drawn (q : Rat) : Prop := IM 6 q ∧ Bd (2 ^ 5 : Nat) q ∧ Sm 6 q
theorem im6 {t : Int} {b : Int} (hb : b = 1 ∨ b = 2 ∨ b = 3) : IM 6 (Rat.divInt t b) := by
  refine IM.of_den ?_
  rw [Rat.den_divInt, if_neg (by omega)]
  have h1 : b.natAbs / b.gcd t ∣ b.natAbs := Nat.div_dvd_of_dvd (Int.gcd_dvd_natAbs_left b t)
  refine Nat.dvd_trans h1 ?_
  rcases hb with rfl | rfl | rfl <;> decide
theorem drawn_of {t b : Int} (ht : t.natAbs ≤ 20) (hb : b = 1 ∨ b = 2 ∨ b = 3) : Drawn (Rat.divInt t b) := by
  have s : Sm 5 (Rat.divInt t b) := sm_divInt (by omega) (by omega) (by omega)
  exact ⟨im6 hb, s.bd, s.mono (by decide)⟩
theorem spd0 {vs : List Rat} (h : ∀ v ∈ vs, Drawn v) : Spd 0 vs := ⟨6, by decide, by decide, fun v hv => ⟨(h v hv).1, (h v hv).2.1⟩⟩
theorem e_law_speed (wide : Bool) (st : List D) (hs : HandOk st) : ∃ q st', m__law_speed [.tok 0, .bl wide] st = .ok (rD q) st' ∧ HandOk st' ∧ Drawn q := by
  obtain ⟨far, hfar, hf1, hf2⟩ : ∃ far : Int, far = (if wide then 20 else 3) ∧ 3 ≤ far ∧ far ≤ 20 := ⟨_, rfl, by split <;> decide, by split <;> decide⟩
  obtain ⟨r, s1, a1, b1, k1, e1⟩ := drB (2 * far + 1) 6 (by omega) (by omega) (by decide) st hs
  obtain ⟨r2, s2, a2, b2, k2, e2⟩ := drB 4 3 (by decide) (by decide) (by decide) s1 k1
  have m2 : DL.MulOk 2 far := mulOk_l (by decide)
  have f1 : (mSet 2 (mIf (mTru (mVar 1)) (mC (.int 20)) (mC (.int 3)))) [some (.tok 0), some (.bl wide), none, none, none] st = .nx [some (.tok 0), some (.bl wide), some (.int far), none, none] st := mSet_of (by subst hfar; cases wide <;> simp only [ev, bind_ok, bind_err, get?, ret_ok, List.set_cons_zero, List.set_cons_succ, if_true, if_false, ite_true, ite_false, Bool.false_eq_true, Bool.not_true, Bool.not_false, Bool.and_true, Bool.true_and, Bool.and_false, Bool.false_and, decide_true, decide_false, not_true_eq_false, not_false_eq_true])
  by_cases h : r2 = 0
  · obtain ⟨r3, s3, a3, b3, k3, e3⟩ := drB 2 2 (by decide) (by decide) (by decide) s2 k2
    have lo := e_law_low (r - far) (2 + r3) (by omega) (Nat.lt_of_le_of_lt (show (2 + r3).natAbs ≤ 3 by omega) (by decide)) s3
    refine ⟨_, s3, ?_, k3, drawn_of (t := r - far) (b := 2 + r3) (by omega) (by omega)⟩
    unfold m__law_speed b__law_speed
    rw [show fnM 5 _ [D.tok 0, .bl wide] st = outR (_) from fnM_eq (by simp)]
    simp only [mkEnv]
    rw [mSeq_of f1]
    (rw [mSeq_k]; (conv => (lhs; arg 1; arg 1; simp only [ev, bind_ok, bind_err, get?, ret_ok, List.set_cons_zero, List.set_cons_succ, if_true, if_false, ite_true, ite_false, Bool.false_eq_true, Bool.not_true, Bool.not_false, Bool.and_true, Bool.true_and, Bool.and_false, Bool.false_and, decide_true, decide_false, not_true_eq_false, not_false_eq_true, m2, e1])); rw [seqK_nx])
    (rw [mSeq_k]; (conv => (lhs; arg 1; arg 1; simp only [ev, bind_ok, bind_err, get?, ret_ok, List.set_cons_zero, List.set_cons_succ, if_true, if_false, ite_true, ite_false, Bool.false_eq_true, Bool.not_true, Bool.not_false, Bool.and_true, Bool.true_and, Bool.and_false, Bool.false_and, decide_true, decide_false, not_true_eq_false, not_false_eq_true])); rw [seqK_nx])
    (rw [mSeq_k]; (conv => (lhs; arg 1; arg 1; simp only [ev, bind_ok, bind_err, get?, ret_ok, List.set_cons_zero, List.set_cons_succ, if_true, if_false, ite_true, ite_false, Bool.false_eq_true, Bool.not_true, Bool.not_false, Bool.and_true, Bool.true_and, Bool.and_false, Bool.false_and, decide_true, decide_false, not_true_eq_false, not_false_eq_true, e2, h, e3])); rw [seqK_nx])
    simp only [ev, bind_ok, bind_err, get?, ret_ok, List.set_cons_zero, List.set_cons_succ, if_true, if_false, ite_true, ite_false, Bool.false_eq_true, Bool.not_true, Bool.not_false, Bool.and_true, Bool.true_and, Bool.and_false, Bool.false_and, decide_true, decide_false, not_true_eq_false, not_false_eq_true, lo]
  · have lo := e_law_low (r - far) 1 (by decide) (by decide) s2
    refine ⟨_, s2, ?_, k2, drawn_of (t := r - far) (b := 1) (by omega) (by omega)⟩
    unfold m__law_speed b__law_speed
    rw [show fnM 5 _ [D.tok 0, .bl wide] st = outR (_) from fnM_eq (by simp)]
    simp only [mkEnv]
    rw [mSeq_of f1]
    (rw [mSeq_k]; (conv => (lhs; arg 1; arg 1; simp only [ev, bind_ok, bind_err, get?, ret_ok, List.set_cons_zero, List.set_cons_succ, if_true, if_false, ite_true, ite_false, Bool.false_eq_true, Bool.not_true, Bool.not_false, Bool.and_true, Bool.true_and, Bool.and_false, Bool.false_and, decide_true, decide_false, not_true_eq_false, not_false_eq_true, m2, e1])); rw [seqK_nx])
    (rw [mSeq_k]; (conv => (lhs; arg 1; arg 1; simp only [ev, bind_ok, bind_err, get?, ret_ok, List.set_cons_zero, List.set_cons_succ, if_true, if_false, ite_true, ite_false, Bool.false_eq_true, Bool.not_true, Bool.not_false, Bool.and_true, Bool.true_and, Bool.and_false, Bool.false_and, decide_true, decide_false, not_true_eq_false, not_false_eq_true])); rw [seqK_nx])
    (rw [mSeq_k]; (conv => (lhs; arg 1; arg 1; simp only [ev, bind_ok, bind_err, get?, ret_ok, List.set_cons_zero, List.set_cons_succ, if_true, if_false, ite_true, ite_false, Bool.false_eq_true, Bool.not_true, Bool.not_false, Bool.and_true, Bool.true_and, Bool.and_false, Bool.false_and, decide_true, decide_false, not_true_eq_false, not_false_eq_true, e2, h])); rw [seqK_nx])
    simp only [ev, bind_ok, bind_err, get?, ret_ok, List.set_cons_zero, List.set_cons_succ, if_true, if_false, ite_true, ite_false, Bool.false_eq_true, Bool.not_true, Bool.not_false, Bool.and_true, Bool.true_and, Bool.and_false, Bool.false_and, decide_true, decide_false, not_true_eq_false, not_false_eq_true, lo]
/-! falling rows: only that nothing is new -/
theorem e_law_less {s : Nat} {p q : Rat} (h : Sm s p) (k : Sm s q) (hs : s ≤ 3000) (st : List D) : m__law_less [rD p, rD q] st = .ok (.bl (decide (p.num * q.den < q.num * p.den))) st := by
  have m1 : DL.MulOk p.num q.den := mulOk_sm h.1 k.den' (by omega)
  have m2 : DL.MulOk q.num p.den := mulOk_sm k.1 h.den' (by omega)
  unfold m__law_less b__law_less
  simp only [ev, bind_ok, bind_err, get?, ret_ok, List.set_cons_zero, List.set_cons_succ, if_true, if_false, ite_true, ite_false, Bool.false_eq_true, Bool.not_true, Bool.not_false, Bool.and_true, Bool.true_and, Bool.and_false, Bool.false_and, decide_true, decide_false, not_true_eq_false, not_false_eq_true, mkEnv, ixr0, ixr1, m1, m2]
theorem tok_rD (n : Nat) (q : Rat) : tokLt n (rD q) = true := by
  unfold rD tokLt
  simp [tokLts, tokLt]
theorem tok_rats (n : Nat) : ∀ vs : List Rat, tokLts n (vs.map rD) = true
  | [] => by simp [tokLts]
  | v :: vs => by
    rw [List.map_cons]
    unfold tokLts
    rw [tok_rD, tok_rats n vs]; rfl
theorem tok_lrats (n : Nat) (vs : List Rat) : tokLt n (.lst (vs.map rD)) = true := by
  unfold tokLt
  exact tok_rats n vs
theorem tok_ints (n : Nat) : ∀ vs : List Int, tokLts n (vs.map .int) = true
  | [] => by simp [tokLts]
  | v :: vs => by
    rw [List.map_cons]
    unfold tokLts
    rw [tok_ints n vs]
    simp [tokLt]
/-- no cell holds a token -/
def Plain (st : List D) : Prop := ∀ (k : Nat) (d : D), st[k]? = some d → ∀ n, tokLt n d = true
theorem HandOk.plain {st : List D} (h : HandOk st) : Plain st := by
  obtain ⟨cells, a, r, t, rfl, -, -, -⟩ := h.ex
  intro k d hd n
  match k, hd with
  | 0, hd =>
    cases hd
    unfold handD tokLt
    simp [tokLts, tokLt, tok_ints]
  | k + 1, hd => simp at hd
theorem best_loop {s : Nat} (hs : s ≤ 3000) {e0 e2 e3 : Option D} {st : List D} (pl : Plain st) (all : List Rat) (ha : ∀ v ∈ all, Sm s v) (t0 : ∀ d, e0 = some d → ∀ n, tokLt n d = true) (t2 : ∀ d, e2 = some d → ∀ n, tokLt n d = true) (t3 : ∀ d, e3 = some d → ∀ n, tokLt n d = true) :
    ∀ (l : List Rat) (b : Rat) (x : Option D), (∀ v ∈ l, v ∈ all) → b ∈ all → (∀ d, x = some d → ∀ n, tokLt n d = true) → ∃ b' x', b' ∈ all ∧ (∀ d, x' = some d → ∀ n, tokLt n d = true) ∧ forC (gNm 5) bd_law_falling_1 1 st.length (all.map rD) (l.map rD) [e0, some (.tok st.length), e2, e3, some (rD b), x] (st ++ [.lst (all.map rD)]) = .nx [e0, some (.lst (all.map rD)), e2, e3, some (rD b'), x'] st
  | [], b, x, _, hb, hx => by
    refine ⟨b, x, hb, hx, ?_⟩
    show closeC 1 st.length (all.map rD) _ _ = _
    unfold closeC
    rw [if_pos]
    · simp
    · refine ⟨rfl, by simp, tok_rats _ _, fun j d hj h => ?_, fun k d hk h => ?_⟩
      · match j, hj, h with
        | 0, _, h => exact t0 d (by simpa using h) _
        | 1, hj, _ => exact absurd rfl hj
        | 2, _, h => exact t2 d (by simpa using h) _
        | 3, _, h => exact t3 d (by simpa using h) _
        | 4, _, h => cases h; exact tok_rD _ _
        | 5, _, h => exact hx d (by simpa using h) _
        | j + 6, _, h => simp at h
      · rw [List.getElem?_append_left hk] at h
        exact pl k d h _
  | v :: l, b, x, hl, hb, hx => by
    have hv := hl v List.mem_cons_self
    have le := e_law_less (ha b hb) (ha v hv) hs (st ++ [.lst (all.map rD)])
    have hl' : ∀ u ∈ l, u ∈ all := fun u hu => hl u (List.mem_cons_of_mem _ hu)
    have tv : ∀ d, some (rD v) = some d → ∀ n, tokLt n d = true := fun d h n => by cases h; exact tok_rD n v
    have un : forC (gNm 5) bd_law_falling_1 1 st.length (all.map rD) ((v :: l).map rD) [e0, some (.tok st.length), e2, e3, some (rD b), x] (st ++ [.lst (all.map rD)]) = match bd_law_falling_1 [e0, some (.tok st.length), e2, e3, some (rD b), some (rD v)] (st ++ [.lst (all.map rD)]) with
      | .nx e s => @ite _ (s[st.length]? = some (.lst (all.map rD))) (Classical.propDecidable _) (forC (gNm 5) bd_law_falling_1 1 st.length (all.map rD) (l.map rD) e s) .bad
      | .ct e s => @ite _ (s[st.length]? = some (.lst (all.map rD))) (Classical.propDecidable _) (forC (gNm 5) bd_law_falling_1 1 st.length (all.map rD) (l.map rD) e s) .bad
      | .bk e s => closeC 1 st.length (all.map rD) e s
      | _ => .bad := by
      rw [List.map_cons]
      conv => lhs; unfold forC
      rfl
    have hc : (st ++ [D.lst (all.map rD)])[st.length]? = some (.lst (all.map rD)) := by simp
    by_cases h : b.num * v.den < v.num * b.den
    · have hb1 : bd_law_falling_1 [e0, some (.tok st.length), e2, e3, some (rD b), some (rD v)] (st ++ [.lst (all.map rD)]) = .nx [e0, some (.tok st.length), e2, e3, some (rD v), some (rD v)] (st ++ [.lst (all.map rD)]) := by
        rw [decide_eq_true h] at le
        unfold bd_law_falling_1
        simp only [ev, bind_ok, bind_err, get?, ret_ok, List.set_cons_zero, List.set_cons_succ, if_true, if_false, ite_true, ite_false, Bool.false_eq_true, Bool.not_true, Bool.not_false, Bool.and_true, Bool.true_and, Bool.and_false, Bool.false_and, decide_true, decide_false, not_true_eq_false, not_false_eq_true, le]
      obtain ⟨b', x', h1, h2, h3⟩ := best_loop hs pl all ha t0 t2 t3 l v (some (rD v)) hl' hv tv
      refine ⟨b', x', h1, h2, ?_⟩
      rw [un, hb1]
      dsimp only
      rw [if_pos hc]
      exact h3
    · have hb1 : bd_law_falling_1 [e0, some (.tok st.length), e2, e3, some (rD b), some (rD v)] (st ++ [.lst (all.map rD)]) = .nx [e0, some (.tok st.length), e2, e3, some (rD b), some (rD v)] (st ++ [.lst (all.map rD)]) := by
        rw [decide_eq_false h] at le
        unfold bd_law_falling_1
        simp only [ev, bind_ok, bind_err, get?, ret_ok, List.set_cons_zero, List.set_cons_succ, if_true, if_false, ite_true, ite_false, Bool.false_eq_true, Bool.not_true, Bool.not_false, Bool.and_true, Bool.true_and, Bool.and_false, Bool.false_and, decide_true, decide_false, not_true_eq_false, not_false_eq_true, le]
      obtain ⟨b', x', h1, h2, h3⟩ := best_loop hs pl all ha t0 t2 t3 l b (some (rD v)) hl' hb tv
      refine ⟨b', x', h1, h2, ?_⟩
      rw [un, hb1]
      dsimp only
      rw [if_pos hc]
      exact h3
theorem dp_rats (vs : List Rat) : ShA 1 (vs.map rD) := ShA.map sh_rD vs
theorem place_rD {b : Rat} : ∀ {l : List Rat}, b ∈ l → ∃ j, SeqAt.dataPlace (toPs (l.map rD)) (toP (rD b)) = some j ∧ j < l.length
  | v :: l, h => by
    unfold SeqAt.dataPlace
    rw [List.map_cons]
    show ∃ j, List.findIdx? (fun y => PyData.eqv y (toP (rD b))) (toP (rD v) :: toPs (l.map rD)) = some j ∧ _
    rw [List.findIdx?_cons]
    have e : PyData.eqv (toP (rD v)) (toP (rD b)) = decide (v = b) := eqv_rD v b
    rw [e]
    by_cases hv : v = b
    · rw [decide_eq_true hv]
      exact ⟨0, rfl, by simp⟩
    · rw [decide_eq_false hv]
      have hb : b ∈ l := by
        rcases List.mem_cons.mp h with z | z
        · exact absurd z.symm hv
        · exact z
      obtain ⟨j, h1, h2⟩ := place_rD hb
      unfold SeqAt.dataPlace at h1
      rw [h1]
      exact ⟨j + 1, rfl, by simp; omega⟩
theorem erase_map {α β : Type} (f : α → β) : ∀ (l : List α) (j : Nat), (l.map f).eraseIdx j = (l.eraseIdx j).map f
  | [], _ => rfl
  | _ :: _, 0 => rfl
  | a :: l, j + 1 => congrArg (f a :: ·) (erase_map f l j)
theorem rem_rD {b : Rat} {l : List Rat} (h : b ∈ l) : ∃ j, j < l.length ∧ remD (l.map rD) (rD b) = some ((l.eraseIdx j).map rD) := by
  obtain ⟨j, h1, h2⟩ := place_rD h
  refine ⟨j, h2, ?_⟩
  unfold remD
  have sl := dp_rats l
  have sb := sh_rD b
  rw [if_pos ⟨sl.1, sb.1, PyData.plainAll_of_canLay0 _ sl.1, PyData.plain_of_canLay0 _ sb.1, Nat.le_trans sl.2 (by decide)⟩, h1]
  show some ((l.map rD).eraseIdx j) = _
  rw [erase_map]
theorem mRem_of {i : Nat} {m : ME} {env : Env'} {st s1 : List D} {d : D} {ds ys : List D} (hl : env[i]? = some (some (.lst ds))) (hm : m env st = .ok d s1) (hr : remD ds d = some ys) : mRem i m env st = .nx (env.set i (some (.lst ys))) s1 := by
  unfold mRem
  rw [hl]
  dsimp only
  rw [hm]
  unfold remR
  dsimp only
  rw [hr]
theorem fall_loop {s : Nat} (hs : s ≤ 3000) {V : D} {st : List D} (pl : Plain st) (hV : ∀ n, tokLt n V = true) : ∀ (n : Nat) (left made : List Rat) (k : Nat) (x4 x5 : Option D), left.length = n → (∀ v ∈ left, Sm s v) → made.length + n ≤ 100 → (∀ d, x4 = some d → ∀ n, tokLt n d = true) → (∀ d, x5 = some d → ∀ n, tokLt n d = true) →
    ∀ x3 : Option D, ∃ (left' : List D) (made' : List Rat) (y3 y4 y5 : Option D), (∀ v ∈ made', v ∈ made ∨ v ∈ left) ∧ made'.length = made.length + n ∧ forD (gNm 3) bd_law_falling_2 (rangeD (k : Nat) n) [some V, some (.lst (left.map rD)), some (.lst (made.map rD)), x3, x4, x5] st = .nx [some V, some (.lst left'), some (.lst (made'.map rD)), y3, y4, y5] st
  | 0, left, made, k, x4, x5, _, _, _, _, _, x3 => ⟨left.map rD, made, x3, x4, x5, fun v hv => .inl hv, rfl, rfl⟩
  | n + 1, left, made, k, x4, x5, hl, hsm, hm, h4, h5, x3 => by
    have h0 : 0 < left.length := by omega
    have hb0 : left[0] ∈ left := List.getElem_mem h0
    have ix : atI (left.map rD) 0 = some (rD left[0]) := by
      have := DL.atI_nat (xs := left.map rD) (k := 0) (by rw [List.length_map]; exact h0)
      rw [List.getElem_map] at this
      exact this
    obtain ⟨b, x, b1, b2, b3⟩ := best_loop (e0 := some V) (e2 := some (.lst (made.map rD))) (e3 := some (.int (k : Int))) hs pl left hsm (fun d h n => by cases h; exact hV n) (fun d h n => by cases h; exact tok_lrats n made) (fun d h n => by cases h; simp [tokLt]) left left[0] x5 (fun v hv => hv) hb0 h5
    obtain ⟨j, j1, j2⟩ := rem_rD b1
    have fF : F_law_falling_1 [some V, some (.lst (left.map rD)), some (.lst (made.map rD)), some (.int (k : Int)), some (rD left[0]), x5] st = .nx [some V, some (.lst (left.map rD)), some (.lst (made.map rD)), some (.int (k : Int)), some (rD b), x] st := b3
    have fR : mRem 1 (mVar 4) [some V, some (.lst (left.map rD)), some (.lst (made.map rD)), some (.int (k : Int)), some (rD b), x] st = .nx [some V, some (.lst ((left.eraseIdx j).map rD)), some (.lst (made.map rD)), some (.int (k : Int)), some (rD b), x] st := mRem_of rfl (by simp only [ev, bind_ok, bind_err, get?, ret_ok, List.set_cons_zero, List.set_cons_succ, if_true, if_false, ite_true, ite_false, Bool.false_eq_true, Bool.not_true, Bool.not_false, Bool.and_true, Bool.true_and, Bool.and_false, Bool.false_and, decide_true, decide_false, not_true_eq_false, not_false_eq_true]) j2
    have body : bd_law_falling_2 [some V, some (.lst (left.map rD)), some (.lst (made.map rD)), some (.int (k : Int)), x4, x5] st = .nx [some V, some (.lst ((left.eraseIdx j).map rD)), some (.lst ((made ++ [b]).map rD)), some (.int (k : Int)), some (rD b), x] st := by
      unfold bd_law_falling_2
      (rw [mSeq_k]; (conv => (lhs; arg 1; simp only [ev, bind_ok, bind_err, get?, ret_ok, List.set_cons_zero, List.set_cons_succ, if_true, if_false, ite_true, ite_false, Bool.false_eq_true, Bool.not_true, Bool.not_false, Bool.and_true, Bool.true_and, Bool.and_false, Bool.false_and, decide_true, decide_false, not_true_eq_false, not_false_eq_true, ev5, ix])); rw [seqK_nx])
      (rw [mSeq_k]; (conv => (lhs; arg 1; simp only [ev, bind_ok, bind_err, get?, ret_ok, List.set_cons_zero, List.set_cons_succ, if_true, if_false, ite_true, ite_false, Bool.false_eq_true, Bool.not_true, Bool.not_false, Bool.and_true, Bool.true_and, Bool.and_false, Bool.false_and, decide_true, decide_false, not_true_eq_false, not_false_eq_true, fF])); rw [seqK_nx])
      (rw [mSeq_k]; (conv => (lhs; arg 1; simp only [ev, bind_ok, bind_err, get?, ret_ok, List.set_cons_zero, List.set_cons_succ, if_true, if_false, ite_true, ite_false, Bool.false_eq_true, Bool.not_true, Bool.not_false, Bool.and_true, Bool.true_and, Bool.and_false, Bool.false_and, decide_true, decide_false, not_true_eq_false, not_false_eq_true, fR])); rw [seqK_nx])
      rw [ev6.2.2.2.2.2.2.2.2.1]
      simp only [ev, get?, ret_ok]
      rw [pushR_ok _ _ _ _ _ (by rw [List.length_map]; omega)]
      rw [List.map_append]; rfl
    obtain ⟨left', made', y3, y4, y5, i1, i2, i3⟩ := fall_loop hs pl hV n (left.eraseIdx j) (made ++ [b]) (k + 1) (some (rD b)) x (by rw [List.length_eraseIdx, if_pos j1]; omega) (fun v hv => hsm v (List.mem_of_mem_eraseIdx hv)) (by rw [List.length_append, List.length_singleton]; omega) (fun d h n => by cases h; exact tok_rD n b) b2 (some (.int (k : Int)))
    refine ⟨left', made', y3, y4, y5, fun v hv => ?_, by rw [i2, List.length_append, List.length_singleton]; omega, ?_⟩
    · rcases i1 v hv with h | h
      · rcases List.mem_append.mp h with h | h
        · exact .inl h
        · exact .inr (List.mem_singleton.mp h ▸ b1)
      · exact .inr (List.mem_of_mem_eraseIdx h)
    · rw [rangeD_cons, forD_rt rfl body]
      exact i3
theorem e_law_falling {s : Nat} {vs : List Rat} (hs : s ≤ 3000) (h : ∀ v ∈ vs, Sm s v) (hl : vs.length ≤ 100) {st : List D} (pl : Plain st) : ∃ us : List Rat, m__law_falling [.lst (vs.map rD)] st = .ok (.lst (us.map rD)) st ∧ us.length = vs.length ∧ ∀ u ∈ us, u ∈ vs := by
  obtain ⟨left', made', y3, y4, y5, i1, i2, i3⟩ := fall_loop hs (V := .lst (vs.map rD)) pl (fun n => tok_lrats n vs) vs.length vs [] 0 none none rfl h (by simpa using hl) (fun d h => by cases h) (fun d h => by cases h) none
  refine ⟨made', ?_, by simpa using i2, fun u hu => (i1 u hu).elim (fun z => by cases z) id⟩
  have l1 : lst1? [.lst (vs.map rD)] st = .ok (vs.map rD) st := rfl
  have ln : c1 dLen [.lst (vs.map rD)] = some (.int (vs.length : Nat)) := by
    show some (D.int ((vs.map rD).length : Nat)) = _
    rw [List.length_map]
  have hF : F_law_falling_2 [some (.lst (vs.map rD)), some (.lst (vs.map rD)), some (.lst []), none, none, none] st = .nx [some (.lst (vs.map rD)), some (.lst left'), some (.lst (made'.map rD)), y3, y4, y5] st := mFor_of (mThenA_of (xs := [.int (vs.length : Int)]) (st1 := st) (by simp only [ev, bind_ok, bind_err, get?, ret_ok, List.set_cons_zero, List.set_cons_succ, if_true, if_false, ite_true, ite_false, Bool.false_eq_true, Bool.not_true, Bool.not_false, Bool.and_true, Bool.true_and, Bool.and_false, Bool.false_and, decide_true, decide_false, not_true_eq_false, not_false_eq_true, List.length_map]) (rng1_nat (by omega) st)) i3
  have ff : fits? [] st = .ok [] st := rfl
  unfold m__law_falling b__law_falling
  rw [show fnM 6 _ [D.lst (vs.map rD)] st = outR (_) from fnM_eq (by simp)]
  simp only [mkEnv]
  (rw [mSeq_k]; (conv => (lhs; arg 1; arg 1; simp only [ev, bind_ok, bind_err, get?, ret_ok, List.set_cons_zero, List.set_cons_succ, if_true, if_false, ite_true, ite_false, Bool.false_eq_true, Bool.not_true, Bool.not_false, Bool.and_true, Bool.true_and, Bool.and_false, Bool.false_and, decide_true, decide_false, not_true_eq_false, not_false_eq_true, mThenA, l1])); rw [seqK_nx])
  (rw [mSeq_k]; (conv => (lhs; arg 1; arg 1; simp only [ev, bind_ok, bind_err, get?, ret_ok, List.set_cons_zero, List.set_cons_succ, if_true, if_false, ite_true, ite_false, Bool.false_eq_true, Bool.not_true, Bool.not_false, Bool.and_true, Bool.true_and, Bool.and_false, Bool.false_and, decide_true, decide_false, not_true_eq_false, not_false_eq_true, mThenA, ff])); rw [seqK_nx])
  (rw [mSeq_k]; (conv => (lhs; arg 1; arg 1; simp only [ev, bind_ok, bind_err, get?, ret_ok, List.set_cons_zero, List.set_cons_succ, if_true, if_false, ite_true, ite_false, Bool.false_eq_true, Bool.not_true, Bool.not_false, Bool.and_true, Bool.true_and, Bool.and_false, Bool.false_and, decide_true, decide_false, not_true_eq_false, not_false_eq_true, hF])); rw [seqK_nx])
  simp only [ev, bind_ok, bind_err, get?, ret_ok, List.set_cons_zero, List.set_cons_succ, if_true, if_false, ite_true, ite_false, Bool.false_eq_true, Bool.not_true, Bool.not_false, Bool.and_true, Bool.true_and, Bool.and_false, Bool.false_and, decide_true, decide_false, not_true_eq_false, not_false_eq_true]
end My

namespace My
open PySem PySem.Spec PyProof.Rows L2 DL
/-! drawn balls and words -/
def BallsOk (b : D) : Prop := ∃ (ws : List Int) (vs : List Rat) (wall : Bool), b = ballsD ws vs wall ∧ RowOk ws vs wall ∧ ∀ v ∈ vs, Drawn v
theorem rats_of {P : Rat → Prop} : ∀ ys : List D, (∀ y ∈ ys, ∃ q, P q ∧ y = rD q) → ∃ vs : List Rat, ys = vs.map rD ∧ ∀ v ∈ vs, P v
  | [], _ => ⟨[], rfl, fun w hw => by cases hw⟩
  | y :: ys, h => by
    obtain ⟨w, p, rfl⟩ := h y List.mem_cons_self
    obtain ⟨ws, rfl, ps⟩ := rats_of ys fun x hx => h x (List.mem_cons_of_mem _ hx)
    exact ⟨w :: ws, rfl, fun x hx => (List.mem_cons.mp hx).elim (fun e => e ▸ p) (ps x)⟩
theorem e_law_balls (n : Nat) (shut : Bool) (h1 : (if shut then 1 else 2) ≤ n) (h40 : n ≤ 40) (st : List D) (hs : HandOk st) : ∃ (ws : List Int) (vs : List Rat) (st' : List D), m__law_balls [.tok 0, .int (n : Int), .bl shut] st = .ok (ballsD ws vs shut) st' ∧ HandOk st' ∧ RowOk ws vs shut ∧ ws.length = n ∧ ∀ v ∈ vs, Drawn v := by
  obtain ⟨r1, s1, a1, b1, k1, e1⟩ := drB 8 4 (by decide) (by decide) (by decide) st hs
  obtain ⟨r2, s2, a2, b2, k2, e2⟩ := drB 8 4 (by decide) (by decide) (by decide) s1 k1
  obtain ⟨hv, hhv, hv3, hv9⟩ : ∃ hv : Int, hv = (if r1 = 0 then 9 else 3) ∧ 1 ≤ hv ∧ hv ≤ 9 := ⟨_, rfl, by split <;> decide, by split <;> decide⟩
  obtain ⟨wide, hwide⟩ : ∃ b, b = decide (r2 = 0) := ⟨_, rfl⟩
  have f3 : (mSet 3 (mIf (mTest (mOp dEq (mCall m__law_draw (mCons (mVar 0) (mCons (mC (.int 8)) (mNil)))) (mC (.int 0)))) (mC (.int 9)) (mC (.int 3)))) [some (.tok 0), some (.int (n : Int)), some (.bl shut), none, none, none, none, none] st = .nx [some (.tok 0), some (.int (n : Int)), some (.bl shut), some (.int hv), none, none, none, none] s1 := mSet_of (by
    rw [hhv]
    by_cases h : r1 = 0
    · simp only [ev, bind_ok, bind_err, get?, ret_ok, List.set_cons_zero, List.set_cons_succ, if_true, if_false, ite_true, ite_false, Bool.false_eq_true, Bool.not_true, Bool.not_false, Bool.and_true, Bool.true_and, Bool.and_false, Bool.false_and, decide_true, decide_false, not_true_eq_false, not_false_eq_true, e1, h]
    · simp only [ev, bind_ok, bind_err, get?, ret_ok, List.set_cons_zero, List.set_cons_succ, if_true, if_false, ite_true, ite_false, Bool.false_eq_true, Bool.not_true, Bool.not_false, Bool.and_true, Bool.true_and, Bool.and_false, Bool.false_and, decide_true, decide_false, not_true_eq_false, not_false_eq_true, e1, h])
  have f4 : (mSet 4 (mOp dEq (mCall m__law_draw (mCons (mVar 0) (mCons (mC (.int 8)) (mNil)))) (mC (.int 0)))) [some (.tok 0), some (.int (n : Int)), some (.bl shut), some (.int hv), none, none, none, none] s1 = .nx [some (.tok 0), some (.int (n : Int)), some (.bl shut), some (.int hv), some (.bl wide), none, none, none] s2 := mSet_of (by simp only [ev, bind_ok, bind_err, get?, ret_ok, List.set_cons_zero, List.set_cons_succ, if_true, if_false, ite_true, ite_false, Bool.false_eq_true, Bool.not_true, Bool.not_false, Bool.and_true, Bool.true_and, Bool.and_false, Bool.false_and, decide_true, decide_false, not_true_eq_false, not_false_eq_true, e2, hwide])
  obtain ⟨ys, s3, c1, k3, l3, r3⟩ := lcD_inv (env := [some (.tok 0), some (.int (n : Int)), some (.bl shut), some (.int hv), some (.bl wide), none, none, none]) (g := gNm 7) (me := el_law_balls_1) HandOk (fun _ => True) (fun y => ∃ w : Int, (1 ≤ w ∧ w ≤ 9) ∧ y = .int w) (by
    intro d st _ hs
    obtain ⟨r, s, a, b, k, e⟩ := drB hv 4 (by omega) (by omega) (by decide) st hs
    refine ⟨_, .int (1 + r), s, rfl, ?_, k, 1 + r, by omega, rfl⟩
    unfold el_law_balls_1
    simp only [ev, bind_ok, bind_err, get?, ret_ok, List.set_cons_zero, List.set_cons_succ, if_true, if_false, ite_true, ite_false, Bool.false_eq_true, Bool.not_true, Bool.not_false, Bool.and_true, Bool.true_and, Bool.and_false, Bool.false_and, decide_true, decide_false, not_true_eq_false, not_false_eq_true, e]) (rangeD 0 n) s2 (fun _ _ => trivial) k2
  obtain ⟨ws, rfl, hw⟩ := ints_of' ys r3
  rw [List.length_map, rangeD_len] at l3
  have f5 : L_law_balls_1 [some (.tok 0), some (.int (n : Int)), some (.bl shut), some (.int hv), some (.bl wide), none, none, none] s2 = .ok (.lst (ws.map .int)) s3 := mLC_of (mThenA_of (xs := [.int (n : Int)]) (st1 := s2) (by simp only [ev, bind_ok, bind_err, get?, ret_ok, List.set_cons_zero, List.set_cons_succ, if_true, if_false, ite_true, ite_false, Bool.false_eq_true, Bool.not_true, Bool.not_false, Bool.and_true, Bool.true_and, Bool.and_false, Bool.false_and, decide_true, decide_false, not_true_eq_false, not_false_eq_true]) (rng1_nat (by omega) s2)) c1 (by rw [List.length_map]; omega)
  obtain ⟨zs, s4, c2, k4, l4, r4⟩ := lcD_inv (env := [some (.tok 0), some (.int (n : Int)), some (.bl shut), some (.int hv), some (.bl wide), some (.lst (ws.map .int)), none, none]) (g := gNm 7) (me := el_law_balls_2) HandOk (fun _ => True) (fun y => ∃ q : Rat, Drawn q ∧ y = rD q) (by
    intro d st _ hs
    obtain ⟨q, s, e, k, dq⟩ := e_law_speed wide st hs
    refine ⟨_, rD q, s, rfl, ?_, k, q, dq, rfl⟩
    unfold el_law_balls_2
    simp only [ev, bind_ok, bind_err, get?, ret_ok, List.set_cons_zero, List.set_cons_succ, if_true, if_false, ite_true, ite_false, Bool.false_eq_true, Bool.not_true, Bool.not_false, Bool.and_true, Bool.true_and, Bool.and_false, Bool.false_and, decide_true, decide_false, not_true_eq_false, not_false_eq_true, e]) (rangeD 0 n) s3 (fun _ _ => trivial) k3
  obtain ⟨vs, rfl, hv2⟩ := rats_of zs r4
  rw [List.length_map, rangeD_len] at l4
  have f6 : L_law_balls_2 [some (.tok 0), some (.int (n : Int)), some (.bl shut), some (.int hv), some (.bl wide), some (.lst (ws.map .int)), none, none] s3 = .ok (.lst (vs.map rD)) s4 := mLC_of (mThenA_of (xs := [.int (n : Int)]) (st1 := s3) (by simp only [ev, bind_ok, bind_err, get?, ret_ok, List.set_cons_zero, List.set_cons_succ, if_true, if_false, ite_true, ite_false, Bool.false_eq_true, Bool.not_true, Bool.not_false, Bool.and_true, Bool.true_and, Bool.and_false, Bool.false_and, decide_true, decide_false, not_true_eq_false, not_false_eq_true]) (rng1_nat (by omega) s3)) c2 (by rw [List.length_map]; omega)
  obtain ⟨r5, s5, a5, b5, k5, e5⟩ := drB 2 2 (by decide) (by decide) (by decide) s4 k4
  obtain ⟨us, hfall, lus, hus⟩ := e_law_falling (s := 6) (by decide) (fun v hv => (hv2 v hv).2.2) (by omega) (My.HandOk.plain k5)
  have fin : ∀ (xs : List Rat), xs.length = n → ∀ st, tupOk [.lst (ws.map .int), .lst (xs.map rD), .bl shut] st = .ok (ballsD ws xs shut) st := fun xs _ st => tupOk_of (by simp) st
  have go : ∀ (xs : List Rat), xs.length = n → (mIfS (mTest (mOp dEq (mCall m__law_draw (mCons (mVar 0) (mCons (mC (.int 2)) (mNil)))) (mC (.int 0)))) (mSet 6 (mCall m__law_falling (mCons (mVar 6) (mNil)))) (mNx)) [some (.tok 0), some (.int (n : Int)), some (.bl shut), some (.int hv), some (.bl wide), some (.lst (ws.map .int)), some (.lst (vs.map rD)), none] s4 = .nx [some (.tok 0), some (.int (n : Int)), some (.bl shut), some (.int hv), some (.bl wide), some (.lst (ws.map .int)), some (.lst (xs.map rD)), none] s5 → m__law_balls [.tok 0, .int (n : Int), .bl shut] st = .ok (ballsD ws xs shut) s5 := fun xs hx hst => by
    unfold m__law_balls b__law_balls
    rw [show fnM 8 _ [D.tok 0, .int (n : Int), .bl shut] st = outR (_) from fnM_eq (by simp)]
    simp only [mkEnv]
    rw [mSeq_of f3, mSeq_of f4]
    (rw [mSeq_k]; (conv => (lhs; arg 1; arg 1; simp only [ev, bind_ok, bind_err, get?, ret_ok, List.set_cons_zero, List.set_cons_succ, if_true, if_false, ite_true, ite_false, Bool.false_eq_true, Bool.not_true, Bool.not_false, Bool.and_true, Bool.true_and, Bool.and_false, Bool.false_and, decide_true, decide_false, not_true_eq_false, not_false_eq_true, f5])); rw [seqK_nx])
    (rw [mSeq_k]; (conv => (lhs; arg 1; arg 1; simp only [ev, bind_ok, bind_err, get?, ret_ok, List.set_cons_zero, List.set_cons_succ, if_true, if_false, ite_true, ite_false, Bool.false_eq_true, Bool.not_true, Bool.not_false, Bool.and_true, Bool.true_and, Bool.and_false, Bool.false_and, decide_true, decide_false, not_true_eq_false, not_false_eq_true, f6])); rw [seqK_nx])
    rw [mSeq_of hst]
    simp only [ev, bind_ok, bind_err, get?, ret_ok, List.set_cons_zero, List.set_cons_succ, if_true, if_false, ite_true, ite_false, Bool.false_eq_true, Bool.not_true, Bool.not_false, Bool.and_true, Bool.true_and, Bool.and_false, Bool.false_and, decide_true, decide_false, not_true_eq_false, not_false_eq_true, fin xs hx]
  by_cases h : r5 = 0
  · refine ⟨ws, us, s5, go us (by omega) (by simp only [ev, bind_ok, bind_err, get?, ret_ok, List.set_cons_zero, List.set_cons_succ, if_true, if_false, ite_true, ite_false, Bool.false_eq_true, Bool.not_true, Bool.not_false, Bool.and_true, Bool.true_and, Bool.and_false, Bool.false_and, decide_true, decide_false, not_true_eq_false, not_false_eq_true, e5, h, hfall]), k5, ⟨by omega, by rw [l3]; exact h1, by omega, hw⟩, l3, fun v hv => hv2 v (hus v hv)⟩
  · refine ⟨ws, vs, s5, go vs (by omega) (by simp only [ev, bind_ok, bind_err, get?, ret_ok, List.set_cons_zero, List.set_cons_succ, if_true, if_false, ite_true, ite_false, Bool.false_eq_true, Bool.not_true, Bool.not_false, Bool.and_true, Bool.true_and, Bool.and_false, Bool.false_and, decide_true, decide_false, not_true_eq_false, not_false_eq_true, e5, h]), k5, ⟨by omega, by rw [l3]; exact h1, by omega, hw⟩, l3, hv2⟩
theorem balls_ok (n : Nat) (i : Int) (hi : i = (n : Int)) (shut : Bool) (h1 : (if shut then 1 else 2) ≤ n) (h40 : n ≤ 40) (st : List D) (hs : HandOk st) : ∃ b st', m__law_balls [.tok 0, .int i, .bl shut] st = .ok b st' ∧ HandOk st' ∧ BallsOk b := by
  subst hi
  obtain ⟨ws, vs, s, e, k, R, _, d⟩ := e_law_balls n shut h1 h40 st hs
  exact ⟨_, s, e, k, ws, vs, shut, rfl, R, d⟩
theorem e_any_balls (st : List D) (hs : HandOk st) : ∃ b st', m__law_any_balls [.tok 0] st = .ok b st' ∧ HandOk st' ∧ BallsOk b := by
  obtain ⟨r, s1, a1, b1, k1, e1⟩ := drB 8 4 (by decide) (by decide) (by decide) st hs
  unfold m__law_any_balls b__law_any_balls
  rw [show fnM 2 _ [D.tok 0] st = outR (_) from fnM_eq (by simp)]
  simp only [mkEnv]
  have f1 : (mSet 1 (mCall m__law_draw (mCons (mVar 0) (mCons (mC (.int 8)) (mNil))))) [some (.tok 0), none] st = .nx [some (.tok 0), some (.int r)] s1 := mSet_of (by simp only [ev, bind_ok, bind_err, get?, ret_ok, List.set_cons_zero, List.set_cons_succ, if_true, if_false, ite_true, ite_false, Bool.false_eq_true, Bool.not_true, Bool.not_false, Bool.and_true, Bool.true_and, Bool.and_false, Bool.false_and, decide_true, decide_false, not_true_eq_false, not_false_eq_true, e1])
  rw [mSeq_of f1]
  by_cases h7 : r = 7
  · obtain ⟨b, s2, e, k, o⟩ := balls_ok 4 4 rfl false (by decide) (by decide) s1 k1
    refine ⟨b, s2, ?_, k, o⟩
    simp only [ev, bind_ok, bind_err, get?, ret_ok, List.set_cons_zero, List.set_cons_succ, if_true, if_false, ite_true, ite_false, Bool.false_eq_true, Bool.not_true, Bool.not_false, Bool.and_true, Bool.true_and, Bool.and_false, Bool.false_and, decide_true, decide_false, not_true_eq_false, not_false_eq_true, h7, e]
  · by_cases h6 : r = 6
    · obtain ⟨b, s2, e, k, o⟩ := balls_ok 3 3 rfl true (by decide) (by decide) s1 k1
      refine ⟨b, s2, ?_, k, o⟩
      simp only [ev, bind_ok, bind_err, get?, ret_ok, List.set_cons_zero, List.set_cons_succ, if_true, if_false, ite_true, ite_false, Bool.false_eq_true, Bool.not_true, Bool.not_false, Bool.and_true, Bool.true_and, Bool.and_false, Bool.false_and, decide_true, decide_false, not_true_eq_false, not_false_eq_true, h7, h6, show decide ((6 : Int) = 7) = false from rfl, e]
    · by_cases h5 : r = 5
      · obtain ⟨b, s2, e, k, o⟩ := balls_ok 2 2 rfl true (by decide) (by decide) s1 k1
        refine ⟨b, s2, ?_, k, o⟩
        simp only [ev, bind_ok, bind_err, get?, ret_ok, List.set_cons_zero, List.set_cons_succ, if_true, if_false, ite_true, ite_false, Bool.false_eq_true, Bool.not_true, Bool.not_false, Bool.and_true, Bool.true_and, Bool.and_false, Bool.false_and, decide_true, decide_false, not_true_eq_false, not_false_eq_true, h7, h6, h5, show decide ((5 : Int) = 7) = false from rfl, show decide ((5 : Int) = 6) = false from rfl, e]
      · obtain ⟨b, s2, e, k, o⟩ := balls_ok 3 3 rfl false (by decide) (by decide) s1 k1
        refine ⟨b, s2, ?_, k, o⟩
        simp only [ev, bind_ok, bind_err, get?, ret_ok, List.set_cons_zero, List.set_cons_succ, if_true, if_false, ite_true, ite_false, Bool.false_eq_true, Bool.not_true, Bool.not_false, Bool.and_true, Bool.true_and, Bool.and_false, Bool.false_and, decide_true, decide_false, not_true_eq_false, not_false_eq_true, h7, h6, h5, e]
theorem e_most_balls (st : List D) (hs : HandOk st) : ∃ b st', m__law_most_balls [.tok 0] st = .ok b st' ∧ HandOk st' ∧ BallsOk b := by
  obtain ⟨r, s1, a1, b1, k1, e1⟩ := drB 16 5 (by decide) (by decide) (by decide) st hs
  unfold m__law_most_balls b__law_most_balls
  rw [show fnM 3 _ [D.tok 0] st = outR (_) from fnM_eq (by simp)]
  simp only [mkEnv]
  have f1 : (mSet 1 (mCall m__law_draw (mCons (mVar 0) (mCons (mC (.int 16)) (mNil))))) [some (.tok 0), none, none] st = .nx [some (.tok 0), some (.int r), none] s1 := mSet_of (by simp only [ev, bind_ok, bind_err, get?, ret_ok, List.set_cons_zero, List.set_cons_succ, if_true, if_false, ite_true, ite_false, Bool.false_eq_true, Bool.not_true, Bool.not_false, Bool.and_true, Bool.true_and, Bool.and_false, Bool.false_and, decide_true, decide_false, not_true_eq_false, not_false_eq_true, e1])
  rw [mSeq_of f1]
  by_cases hlt : r < 12
  · obtain ⟨b, s2, e, k, o⟩ := e_any_balls s1 k1
    refine ⟨b, s2, ?_, k, o⟩
    simp only [ev, bind_ok, bind_err, get?, ret_ok, List.set_cons_zero, List.set_cons_succ, if_true, if_false, ite_true, ite_false, Bool.false_eq_true, Bool.not_true, Bool.not_false, Bool.and_true, Bool.true_and, Bool.and_false, Bool.false_and, decide_true, decide_false, not_true_eq_false, not_false_eq_true, hlt, e]
  · have d12 : decide (r < 12) = false := decide_eq_false hlt
    by_cases h12 : r = 12
    · obtain ⟨r2, s2, a2, b2, k2, e2⟩ := drB 2 2 (by decide) (by decide) (by decide) s1 k1
      obtain ⟨b, s3, e, k, o⟩ := balls_ok (1 + r2).toNat (1 + r2) (by omega) true (by simp; omega) (by omega) s2 k2
      refine ⟨b, s3, ?_, k, o⟩
      have q : decide (r = 12) = true := decide_eq_true h12
      simp only [ev, bind_ok, bind_err, get?, ret_ok, List.set_cons_zero, List.set_cons_succ, if_true, if_false, ite_true, ite_false, Bool.false_eq_true, Bool.not_true, Bool.not_false, Bool.and_true, Bool.true_and, Bool.and_false, Bool.false_and, decide_true, decide_false, not_true_eq_false, not_false_eq_true, d12, q, e2, e]
    · have q12 : decide (r = 12) = false := decide_eq_false h12
      by_cases h13 : r = 13
      · obtain ⟨b, s3, e, k, o⟩ := balls_ok 2 2 rfl false (by decide) (by decide) s1 k1
        refine ⟨b, s3, ?_, k, o⟩
        have q : decide (r = 13) = true := decide_eq_true h13
        simp only [ev, bind_ok, bind_err, get?, ret_ok, List.set_cons_zero, List.set_cons_succ, if_true, if_false, ite_true, ite_false, Bool.false_eq_true, Bool.not_true, Bool.not_false, Bool.and_true, Bool.true_and, Bool.and_false, Bool.false_and, decide_true, decide_false, not_true_eq_false, not_false_eq_true, d12, q12, q, e]
      · have q13 : decide (r = 13) = false := decide_eq_false h13
        obtain ⟨m, s2, hm1, hm2, k2, f2⟩ : ∃ (m : Nat) (s2 : List D), 2 ≤ m ∧ m ≤ 40 ∧ HandOk s2 ∧ (mSet 2 (mIf (mAnd (mTest (mOp dEq (mVar 1) (mC (.int 15)))) (mTest (mOp dEq (mCall m__law_draw (mCons (mVar 0) (mCons (mC (.int 4)) (mNil)))) (mC (.int 0))))) (mC (.int 40)) (mOp dAdd (mC (.int 5)) (mCall m__law_draw (mCons (mVar 0) (mCons (mC (.int 8)) (mNil))))))) [some (.tok 0), some (.int r), none] s1 = .nx [some (.tok 0), some (.int r), some (.int (m : Int))] s2 := by
          by_cases h15 : r = 15
          · have q15 : decide (r = 15) = true := decide_eq_true h15
            obtain ⟨r4, s4, a4, b4, k4, e4⟩ := drB 4 3 (by decide) (by decide) (by decide) s1 k1
            by_cases h0 : r4 = 0
            · exact ⟨40, s4, by decide, by decide, k4, mSet_of (by simp only [ev, bind_ok, bind_err, get?, ret_ok, List.set_cons_zero, List.set_cons_succ, if_true, if_false, ite_true, ite_false, Bool.false_eq_true, Bool.not_true, Bool.not_false, Bool.and_true, Bool.true_and, Bool.and_false, Bool.false_and, decide_true, decide_false, not_true_eq_false, not_false_eq_true, q15, e4, h0]; rfl)⟩
            · obtain ⟨r8, s8, a8, b8, k8, e8⟩ := drB 8 4 (by decide) (by decide) (by decide) s4 k4
              refine ⟨(5 + r8).toNat, s8, by omega, by omega, k8, mSet_of ?_⟩
              rw [Int.toNat_of_nonneg (by omega)]
              simp only [ev, bind_ok, bind_err, get?, ret_ok, List.set_cons_zero, List.set_cons_succ, if_true, if_false, ite_true, ite_false, Bool.false_eq_true, Bool.not_true, Bool.not_false, Bool.and_true, Bool.true_and, Bool.and_false, Bool.false_and, decide_true, decide_false, not_true_eq_false, not_false_eq_true, q15, e4, h0, e8]
          · have q15 : decide (r = 15) = false := decide_eq_false h15
            obtain ⟨r8, s8, a8, b8, k8, e8⟩ := drB 8 4 (by decide) (by decide) (by decide) s1 k1
            refine ⟨(5 + r8).toNat, s8, by omega, by omega, k8, mSet_of ?_⟩
            rw [Int.toNat_of_nonneg (by omega)]
            simp only [ev, bind_ok, bind_err, get?, ret_ok, List.set_cons_zero, List.set_cons_succ, if_true, if_false, ite_true, ite_false, Bool.false_eq_true, Bool.not_true, Bool.not_false, Bool.and_true, Bool.true_and, Bool.and_false, Bool.false_and, decide_true, decide_false, not_true_eq_false, not_false_eq_true, q15, e8]
        obtain ⟨r3, s3, a3, b3, k3, e3⟩ := drB 2 2 (by decide) (by decide) (by decide) s2 k2
        obtain ⟨b, s4, e, k, o⟩ := balls_ok m (m : Int) rfl (decide (r3 = 1)) (by split <;> omega) hm2 s3 k3
        refine ⟨b, s4, ?_, k, o⟩
        (rw [mSeq_k]; (conv => (lhs; arg 1; arg 1; simp only [ev, bind_ok, bind_err, get?, ret_ok, List.set_cons_zero, List.set_cons_succ, if_true, if_false, ite_true, ite_false, Bool.false_eq_true, Bool.not_true, Bool.not_false, Bool.and_true, Bool.true_and, Bool.and_false, Bool.false_and, decide_true, decide_false, not_true_eq_false, not_false_eq_true, d12])); rw [seqK_nx])
        (rw [mSeq_k]; (conv => (lhs; arg 1; arg 1; simp only [ev, bind_ok, bind_err, get?, ret_ok, List.set_cons_zero, List.set_cons_succ, if_true, if_false, ite_true, ite_false, Bool.false_eq_true, Bool.not_true, Bool.not_false, Bool.and_true, Bool.true_and, Bool.and_false, Bool.false_and, decide_true, decide_false, not_true_eq_false, not_false_eq_true, q12])); rw [seqK_nx])
        (rw [mSeq_k]; (conv => (lhs; arg 1; arg 1; simp only [ev, bind_ok, bind_err, get?, ret_ok, List.set_cons_zero, List.set_cons_succ, if_true, if_false, ite_true, ite_false, Bool.false_eq_true, Bool.not_true, Bool.not_false, Bool.and_true, Bool.true_and, Bool.and_false, Bool.false_and, decide_true, decide_false, not_true_eq_false, not_false_eq_true, q13])); rw [seqK_nx])
        rw [mSeq_of f2]
        simp only [ev, bind_ok, bind_err, get?, ret_ok, List.set_cons_zero, List.set_cons_succ, if_true, if_false, ite_true, ite_false, Bool.false_eq_true, Bool.not_true, Bool.not_false, Bool.and_true, Bool.true_and, Bool.and_false, Bool.false_and, decide_true, decide_false, not_true_eq_false, not_false_eq_true, e3, e]
theorem e_law_word {ps : List Int} {most : Int} (h1 : 1 ≤ ps.length) (h2 : ps.length ≤ 100) (hm0 : 0 ≤ most) (hm : most ≤ 30) (st : List D) (hs : HandOk st) : ∃ (qs : List Int) (st' : List D), m__law_word [.tok 0, .lst (ps.map .int), .int most] st = .ok (.lst (qs.map .int)) st' ∧ HandOk st' ∧ qs.length ≤ 30 ∧ ∀ q ∈ qs, q ∈ ps := by
  obtain ⟨r, s1, a1, b1, k1, e1⟩ := drB (most + 1) 6 (by omega) (by omega) (by decide) st hs
  obtain ⟨r', hr'⟩ : ∃ r' : Nat, r = (r' : Int) := ⟨r.toNat, by omega⟩
  subst hr'
  have ln : c1 dLen [.lst (ps.map D.int)] = some (.int (ps.length : Nat)) := lenB ps
  obtain ⟨ys, s2, c1, k2, l2, r2⟩ := lcD_inv (env := [some (.tok 0), some (.lst (ps.map .int)), some (.int most), none]) (g := gNm 3) (me := el_law_word_1) HandOk (fun _ => True) (fun y => ∃ q : Int, q ∈ ps ∧ y = .int q) (by
    intro d st _ hs
    obtain ⟨j, s, b, k, e⟩ : ∃ (j : Nat) (s : List D), j < ps.length ∧ HandOk s ∧ m__law_draw [.tok 0, .int (ps.length : Int)] st = .ok (.int (j : Int)) s := by
      obtain ⟨r, s, a, b, k, e⟩ := drB (ps.length : Int) 8 (by omega) (by omega) (by decide) st hs
      obtain ⟨r', rfl⟩ : ∃ r' : Nat, r = (r' : Int) := ⟨r.toNat, by omega⟩
      exact ⟨r', s, by omega, k, e⟩
    have ix : atI (ps.map D.int) (j : Int) = some (.int ps[j]) := by
      rw [DL.atI_nat (by rw [List.length_map]; exact b), List.getElem_map]
    refine ⟨_, .int ps[j], s, rfl, ?_, k, ps[j], List.getElem_mem b, rfl⟩
    unfold el_law_word_1
    simp only [ev, bind_ok, bind_err, get?, ret_ok, List.set_cons_zero, List.set_cons_succ, if_true, if_false, ite_true, ite_false, Bool.false_eq_true, Bool.not_true, Bool.not_false, Bool.and_true, Bool.true_and, Bool.and_false, Bool.false_and, decide_true, decide_false, not_true_eq_false, not_false_eq_true, List.length_map, e, ev5, ix]) (rangeD 0 r') s1 (fun _ _ => trivial) k1
  obtain ⟨qs, rfl, hq⟩ := ints_of' ys r2
  rw [List.length_map, rangeD_len] at l2
  have f : L_law_word_1 [some (.tok 0), some (.lst (ps.map .int)), some (.int most), none] st = .ok (.lst (qs.map .int)) s2 := mLC_of (mThenA_of (xs := [.int (r' : Int)]) (st1 := s1) (by simp only [ev, bind_ok, bind_err, get?, ret_ok, List.set_cons_zero, List.set_cons_succ, if_true, if_false, ite_true, ite_false, Bool.false_eq_true, Bool.not_true, Bool.not_false, Bool.and_true, Bool.true_and, Bool.and_false, Bool.false_and, decide_true, decide_false, not_true_eq_false, not_false_eq_true, e1]) (rng1_nat (by omega) s1)) c1 (by rw [List.length_map]; omega)
  refine ⟨qs, s2, ?_, k2, by omega, hq⟩
  unfold m__law_word b__law_word
  simp only [ev, bind_ok, bind_err, get?, ret_ok, List.set_cons_zero, List.set_cons_succ, if_true, if_false, ite_true, ite_false, Bool.false_eq_true, Bool.not_true, Bool.not_false, Bool.and_true, Bool.true_and, Bool.and_false, Bool.false_and, decide_true, decide_false, not_true_eq_false, not_false_eq_true, mkEnv, f]
theorem e_law_pick {xs : List D} (h1 : 1 ≤ xs.length) (h2 : xs.length ≤ 100) (st : List D) (hs : HandOk st) : ∃ (j : Nat) (h : j < xs.length) (st' : List D), m__law_pick [.tok 0, .lst xs] st = .ok xs[j] st' ∧ HandOk st' := by
  obtain ⟨r, s, a, b, k, e⟩ := drB (xs.length : Int) 8 (by omega) (by omega) (by decide) st hs
  obtain ⟨j, rfl⟩ : ∃ r' : Nat, r = (r' : Int) := ⟨r.toNat, by omega⟩
  have hj : j < xs.length := by omega
  have ix := DL.atI_nat (xs := xs) hj
  refine ⟨j, hj, s, ?_, k⟩
  unfold m__law_pick b__law_pick
  simp only [ev, bind_ok, bind_err, get?, ret_ok, List.set_cons_zero, List.set_cons_succ, if_true, if_false, ite_true, ite_false, Bool.false_eq_true, Bool.not_true, Bool.not_false, Bool.and_true, Bool.true_and, Bool.and_false, Bool.false_and, decide_true, decide_false, not_true_eq_false, not_false_eq_true, mkEnv, e, ev5, ix]
end My

namespace My
open PySem PySem.Spec PyProof.Rows L2 DL
/-! refusals -/
noncomputable def callW (w : Int) : List D → M D := if w = 0 then m_after_clash else if w = 1 then m_closing_speed else if w = 2 then m_after_word else if w = 3 then m_first_not_coming else m_check_word
def dropR (env : Env') : Res D → Out
  | .ok _ s => .nx env s
  | .err x s => .er x env s
  | .bad => .bad
theorem mDrop_R (m : ME) (env : Env') (st : List D) : mDrop m env st = dropR env (m env st) := by
  unfold mDrop mDo dropR
  cases m env st <;> rfl
theorem mIfS_t {t : MT} {m n : MS} {env : Env'} {st : List D} {b : Bool} (h : t env st = .ok b st) : mIfS t m n env st = if b = true then m env st else n env st := by
  unfold mIfS
  rw [h]
theorem ty_eq (w : Int) (a b : D) (st : List D) : ty_law_fault_1 [some (.int w), some a, some b, none] st = dropR [some (.int w), some a, some b, none] (callW w [a, b] st) := by
  have call : ∀ (f : List D → M D), mCall f (mCons (mVar 1) (mCons (mVar 2) (mNil))) [some (.int w), some a, some b, none] st = f [a, b] st := fun f => by simp only [ev, bind_ok, bind_err, get?, ret_ok, List.set_cons_zero, List.set_cons_succ, if_true, if_false, ite_true, ite_false, Bool.false_eq_true, Bool.not_true, Bool.not_false, Bool.and_true, Bool.true_and, Bool.and_false, Bool.false_and, decide_true, decide_false, not_true_eq_false, not_false_eq_true]
  have tst : ∀ k : Int, mTest (mOp dEq (mVar 0) (mC (.int k))) [some (.int w), some a, some b, none] st = .ok (decide (w = k)) st := fun k => by simp only [ev, bind_ok, bind_err, get?, ret_ok, List.set_cons_zero, List.set_cons_succ, if_true, if_false, ite_true, ite_false, Bool.false_eq_true, Bool.not_true, Bool.not_false, Bool.and_true, Bool.true_and, Bool.and_false, Bool.false_and, decide_true, decide_false, not_true_eq_false, not_false_eq_true]
  unfold ty_law_fault_1 callW
  rw [mIfS_t (tst 0), mIfS_t (tst 1), mIfS_t (tst 2), mIfS_t (tst 3)]
  simp only [mDrop_R, call, decide_eq_true_eq]
  by_cases h0 : w = 0
  · rw [if_pos h0, if_pos h0]
  rw [if_neg h0, if_neg h0]
  by_cases h1 : w = 1
  · rw [if_pos h1, if_pos h1]
  rw [if_neg h1, if_neg h1]
  by_cases h2 : w = 2
  · rw [if_pos h2, if_pos h2]
  rw [if_neg h2, if_neg h2]
  by_cases h3 : w = 3
  · rw [if_pos h3, if_pos h3]
  rw [if_neg h3, if_neg h3]
theorem tabs' : tabX c_NoPair (.cls 0) = some true ∧ tabX c_NoPair (.cls 4) = some false ∧ tabX c_BadWord (.cls 0) = some true ∧ tabX c_BadWord (.cls 3) = some false := ⟨rfl, rfl, rfl, rfl⟩
theorem okXs' : okX c_NoPair "pair" = true ∧ okX c_BadWord "index" = true ∧ okX c_BadWord "what" = true := by decide +kernel
theorem xfl2 {c : Nat} {f : Str} {d : D} {fs : List (Str × D)} {env : Env'} {i : Nat} {st : List D} (he : env[i]? = some (some (.obj c (("", .non) :: fs)))) (ok : okX c f = true) (hf : fs.lookup f = some d) : mXf okX i f env st = .ok d st := by
  unfold mXf
  rw [he]
  show (if okX c f = true then ret? (fs.lookup f) st else .bad) = _
  rw [if_pos ok, hf]; rfl
def pairT (d : D) : D := .tup [.str "pair", d, .bl true, .bl false]
def wordT : D := .tup [.str "word", .int 0, .str "word", .bl true, .bl false]
theorem fault_ok {w : Int} {a b d : D} {st : List D} (h : callW w [a, b] st = .ok d st) : m__law_fault [.int w, a, b] st = .ok .non st := by
  have t := ty_eq w a b st
  rw [h] at t
  unfold m__law_fault b__law_fault
  rw [show fnM 4 _ [D.int w, a, b] st = outR (_) from fnM_eq (by simp)]
  simp only [mkEnv]
  rw [mSeq_k]
  unfold mTryM
  rw [t]
  show outR (seqK (.nx [some (.int w), some a, some b, none] st) _) = _
  rw [seqK_nx]
  simp only [ev, bind_ok, bind_err, get?, ret_ok, List.set_cons_zero, List.set_cons_succ, if_true, if_false, ite_true, ite_false, Bool.false_eq_true, Bool.not_true, Bool.not_false, Bool.and_true, Bool.true_and, Bool.and_false, Bool.false_and, decide_true, decide_false, not_true_eq_false, not_false_eq_true]
theorem fault_pair {w : Int} {a b d : D} {st : List D} (h : callW w [a, b] st = .err (exPair d) st) : m__law_fault [.int w, a, b] st = .ok (pairT d) st := by
  have t := ty_eq w a b st
  rw [h] at t
  have i1 := xf_of (env := [some (.int w), some a, some b, some (exObj (exPair d))]) (i := 3) (st := st) rfl tabs'.1
  have i2 := xf_of (env := [some (.int w), some a, some b, some (exObj (exPair d))]) (i := 3) (st := st) rfl tabs'.2.1
  have i3 := xfld (env := [some (.int w), some a, some b, some (exObj (exPair d))]) (i := 3) (st := st) rfl okXs'.1
  have t4 : tupOk [.str "pair", d, .bl true, .bl false] st = .ok (pairT d) st := tupOk_of (by simp) st
  have ms : mRet (mTup (mCons (mC (.str "pair")) (mCons (mXf okX 3 "pair") (mCons (mIsXF 3 tabX (mC (.cls 0))) (mCons (mIsXF 3 tabX (mC (.cls 4))) (mNil)))))) [some (.int w), some a, some b, some (exObj (exPair d))] st = .rt (pairT d) st := by
    simp only [ev, bind_ok, bind_err, get?, ret_ok, List.set_cons_zero, List.set_cons_succ, if_true, if_false, ite_true, ite_false, Bool.false_eq_true, Bool.not_true, Bool.not_false, Bool.and_true, Bool.true_and, Bool.and_false, Bool.false_and, decide_true, decide_false, not_true_eq_false, not_false_eq_true, i1, i2, i3, t4]
  unfold m__law_fault b__law_fault
  rw [show fnM 4 _ [D.int w, a, b] st = outR (_) from fnM_eq (by simp)]
  simp only [mkEnv]
  rw [mSeq_k]
  unfold mTryM
  rw [t]
  show outR (seqK (unX 3 (mRet (mTup (mCons (mC (.str "pair")) (mCons (mXf okX 3 "pair") (mCons (mIsXF 3 tabX (mC (.cls 0))) (mCons (mIsXF 3 tabX (mC (.cls 4))) (mNil)))))) [some (.int w), some a, some b, some (exObj (exPair d))] st)) _) = _
  rw [ms]; rfl
theorem fault_word {w : Int} {a b : D} {st : List D} (h : callW w [a, b] st = .err exWord st) : m__law_fault [.int w, a, b] st = .ok wordT st := by
  have t := ty_eq w a b st
  rw [h] at t
  have i1 := xf_of (env := [some (.int w), some a, some b, some (exObj exWord)]) (i := 3) (st := st) rfl tabs'.2.2.1
  have i2 := xf_of (env := [some (.int w), some a, some b, some (exObj exWord)]) (i := 3) (st := st) rfl tabs'.2.2.2
  have i3 := xfl2 (env := [some (.int w), some a, some b, some (exObj exWord)]) (i := 3) (st := st) (f := "index") (d := .int 0) rfl okXs'.2.1 (by rw [DL.look_ne (by decide +kernel), DL.look_same])
  have i4 := xfl2 (env := [some (.int w), some a, some b, some (exObj exWord)]) (i := 3) (st := st) (f := "what") (d := .str "word") rfl okXs'.2.2 (DL.look_same _ _ _)
  have t5 : tupOk [.str "word", .int 0, .str "word", .bl true, .bl false] st = .ok wordT st := tupOk_of (by simp) st
  have ms : mRet (mTup (mCons (mC (.str "word")) (mCons (mXf okX 3 "index") (mCons (mXf okX 3 "what") (mCons (mIsXF 3 tabX (mC (.cls 0))) (mCons (mIsXF 3 tabX (mC (.cls 3))) (mNil))))))) [some (.int w), some a, some b, some (exObj exWord)] st = .rt wordT st := by
    simp only [ev, bind_ok, bind_err, get?, ret_ok, List.set_cons_zero, List.set_cons_succ, if_true, if_false, ite_true, ite_false, Bool.false_eq_true, Bool.not_true, Bool.not_false, Bool.and_true, Bool.true_and, Bool.and_false, Bool.false_and, decide_true, decide_false, not_true_eq_false, not_false_eq_true, i1, i2, i3, i4, t5]
  unfold m__law_fault b__law_fault
  rw [show fnM 4 _ [D.int w, a, b] st = outR (_) from fnM_eq (by simp)]
  simp only [mkEnv]
  rw [mSeq_k]
  unfold mTryM
  rw [t]
  show outR (seqK (unX 3 (mRet (mTup (mCons (mC (.str "word")) (mCons (mXf okX 3 "index") (mCons (mXf okX 3 "what") (mCons (mIsXF 3 tabX (mC (.cls 0))) (mCons (mIsXF 3 tabX (mC (.cls 3))) (mNil))))))) [some (.int w), some a, some b, some (exObj exWord)] st)) _) = _
  rw [ms]; rfl
theorem cl_pair : (toP (.str "pair")).canLay0 = true := by decide +kernel
theorem cl_word : (toP (.str "word")).canLay0 = true := by decide +kernel
theorem cl_0 : (toP (.str "0")).canLay0 = true := by decide +kernel
theorem rf_dNeT {xs : List D} (h : RfL xs) : dNe (D.tup xs) (D.tup xs) = some (.bl false) := by
  rw [dNe_of (Sh.tup h.1) (Sh.tup h.1), eqv_tup, h.2]; rfl
theorem ne_pairT {d : D} (h : Rf d) : dNe (pairT d) (pairT d) = some (.bl false) := rf_dNeT (RfL.cons (.str cl_pair) (.cons h (.cons ⟨.bl 2 true, by rw [eqv_bl]; rfl⟩ (.cons ⟨.bl 2 false, by rw [eqv_bl]; rfl⟩ .nil))))
theorem ne_wordT : dNe wordT wordT = some (.bl false) := rf_dNeT (RfL.cons (.str cl_word) (.cons (.int 0) (.cons (.str cl_word) (.cons ⟨.bl 2 true, by rw [eqv_bl]; rfl⟩ (.cons ⟨.bl 2 false, by rw [eqv_bl]; rfl⟩ .nil)))))
theorem at_last {xs : List D} (h : 1 ≤ xs.length) : atI xs (-1) = some (xs[xs.length - 1]'(by omega)) := by
  unfold atI ixN
  rw [if_neg (by decide), if_pos (by omega)]
  have : ((-1 : Int) + (xs.length : Int)).toNat = xs.length - 1 := by omega
  rw [this]
  show xs[xs.length - 1]? = _
  rw [List.getElem?_eq_getElem (by omega)]
theorem rep_map (k : Nat) (p : Int) : repD k [D.int p] = (List.replicate k p).map .int := by
  unfold repD
  rw [List.map_replicate]
  induction k with
  | zero => rfl
  | succ k ih => rw [List.replicate_succ, List.flatten_cons, ih, List.replicate_succ]; rfl
theorem p20' : dPow (.int 10) (.int 20) = some (.int 100000000000000000000) := by rfl
section
variable {ws : List Int} {vs : List Rat} {wall : Bool} {qs : List Int} {odd : D}
structure Ref (ws : List Int) (vs : List Rat) (wall : Bool) (qs : List Int) : Prop where
  R : RowOk ws vs wall
  S : Spd 0 vs
  q : ∀ q ∈ qs, PairOk ws.length wall q
  l : qs.length ≤ 30
theorem one_ball (R : RowOk ws vs wall) : 1 ≤ ws.length ∧ 1 ≤ gc ws.length wall := by
  have := R.lo
  unfold gc
  cases wall <;> simp at this ⊢ <;> omega
def lastP (n : Nat) : Int := (n : Int) - 2
theorem pairs_last (R : RowOk ws vs wall) : atI ((pairsL ws.length wall).map D.int) (-1) = some (.int (lastP ws.length)) ∧ PairOk ws.length wall (lastP ws.length) := by
  obtain ⟨h1, h2⟩ := one_ball R
  have l : ((pairsL ws.length wall).map D.int).length = gc ws.length wall := by rw [List.length_map, pairs_len]
  have hlo := R.lo
  have e : loP wall + ((gc ws.length wall - 1 : Nat) : Int) = lastP ws.length := by
    unfold loP gc lastP
    unfold gc at h2
    cases wall <;> simp at h2 hlo ⊢ <;> omega
  refine ⟨?_, ?_⟩
  · rw [at_last (by omega), List.getElem_map]
    congr 2
    unfold pairsL
    rw [List.getElem_map, List.getElem_range]
    rw [← e]
    congr 2
    rw [List.length_map, List.length_map, List.length_range]
  · unfold lastP
    unfold PairOk
    cases wall <;> simp at hlo ⊢ <;> omega
theorem pairs_first (R : RowOk ws vs wall) : ∃ p, atI ((pairsL ws.length wall).map D.int) 0 = some (.int p) ∧ PairOk ws.length wall p := by
  obtain ⟨h1, h2⟩ := one_ball R
  have l : 0 < (pairsL ws.length wall).length := by rw [pairs_len]; omega
  refine ⟨(pairsL ws.length wall)[0], ?_, (mem_pairs R.lo).mp (List.getElem_mem l)⟩
  have := DL.atI_nat (xs := (pairsL ws.length wall).map D.int) (k := 0) (by rw [List.length_map]; exact l)
  rw [List.getElem_map] at this
  exact this
theorem not_pair_big {i : Int} (R : RowOk ws vs wall) (h : i ≤ -2 ∨ (ws.length : Int) - 1 ≤ i) : ¬ PairOk ws.length wall i := by
  obtain ⟨h1, _⟩ := one_ball R
  unfold PairOk
  omega
theorem bad_odds (R : RowOk ws vs wall) : ∀ d ∈ [D.int (-2), .int (lastP ws.length + 1), .non, .str "0", .bl true, .bl false, .int 100000000000000000000, .int (-100000000000000000000)], BadPair ws.length wall d ∧ Rf d := by
  have hi := R.hi
  intro d hd
  simp only [List.mem_cons, List.not_mem_nil, or_false] at hd
  rcases hd with rfl | rfl | rfl | rfl | rfl | rfl | rfl | rfl
  · exact ⟨.inr ⟨_, rfl, not_pair_big R (.inl (by decide))⟩, .int _⟩
  · exact ⟨.inr ⟨_, rfl, not_pair_big R (.inr (by unfold lastP; omega))⟩, .int _⟩
  · exact ⟨.inl (nw_of (.inl rfl) ⟨_, rfl⟩), ⟨.non 2, rfl⟩⟩
  · exact ⟨.inl (nw_of (.inl rfl) ⟨_, rfl⟩), .str cl_0⟩
  · exact ⟨.inl (nw_of (.inr rfl) ⟨_, rfl⟩), ⟨.bl 2 true, by rw [eqv_bl]; rfl⟩⟩
  · exact ⟨.inl (nw_of (.inr rfl) ⟨_, rfl⟩), ⟨.bl 2 false, by rw [eqv_bl]; rfl⟩⟩
  · exact ⟨.inr ⟨_, rfl, not_pair_big R (.inr (by omega))⟩, .int _⟩
  · exact ⟨.inr ⟨_, rfl, not_pair_big R (.inl (by omega))⟩, .int _⟩
theorem Ref.pair_bad (r : Ref ws vs wall qs) (w : Int) (hw : w = 0 ∨ w = 1) (h : BadPair ws.length wall odd) (st : List D) : m__law_fault [.int w, rowD ws vs wall, odd] st = .ok (pairT odd) st := by
  refine fault_pair ?_
  rcases hw with rfl | rfl
  · exact e_after_clash_bad r.R.lo h st
  · exact e_closing_speed_bad r.R.lo h st
theorem Ref.pair_good (r : Ref ws vs wall qs) (w : Int) (hw : w = 0 ∨ w = 1) {p : Int} (h : PairOk ws.length wall p) (st : List D) : m__law_fault [.int w, rowD ws vs wall, .int p] st = .ok .non st := by
  rcases hw with rfl | rfl
  · exact fault_ok (w := 0) (e_after_clash r.R h r.S (by decide) st)
  · exact fault_ok (w := 1) (e_closing_speed r.R h r.S (by decide) st)
theorem callW_err {w : Int} (hw : w = 2 ∨ w = 3 ∨ w = 4) {G : D} {x : Ex} (h : ∀ st, m_check_word [rowD ws vs wall, G] st = .err x st) (st : List D) : callW w [rowD ws vs wall, G] st = .err x st := by
  rcases hw with rfl | rfl | rfl
  · exact e_after_word_err h st
  · exact e_first_nc_err h st
  · exact h st
theorem Ref.word_good (r : Ref ws vs wall qs) {w : Int} (hw : w = 2 ∨ w = 3 ∨ w = 4) (st : List D) : m__law_fault [.int w, rowD ws vs wall, .lst (qs.map .int)] st = .ok .non st := by
  have hl := r.l
  rcases hw with rfl | rfl | rfl
  · exact fault_ok (w := 2) (e_after_word r.R (.inl rfl) r.S (by omega) r.q st)
  · exact fault_ok (w := 3) (e_first_nc r.R (.inl rfl) r.S (by omega) r.q st)
  · exact fault_ok (w := 4) (e_word_ok r.R.lo (.inl rfl) (by omega) r.q st)
theorem rng25 (st : List D) : rng2? [.int 2, .int 5] st = .ok (rangeD 2 3) st := by
  show @ite _ (-(2 ^ 62) ≤ (2 : Int) ∧ (2 : Int) < 2 ^ 62 ∧ -(2 ^ 62) ≤ (5 : Int) ∧ (5 : Int) < 2 ^ 62) (Classical.propDecidable _) (Res.ok (rangeD 2 ((5 : Int) - 2).toNat) st) .bad = _
  rw [if_pos ⟨by decide, by decide, by decide, by decide⟩]
  rfl
theorem Ref.run (r : Ref ws vs wall qs) (st : List D) (hs : HandOk st) : ∃ st', m__law_refusals_right [.tok 0, rowD ws vs wall, .lst ((pairsL ws.length wall).map .int), .lst (qs.map .int)] st = .ok (.bl true) st' := by
  obtain ⟨l1, l2⟩ := pairs_last r.R
  obtain ⟨p0, f1, f2⟩ := pairs_first r.R
  have hl := r.l
  obtain ⟨j, hj, s1, e1, k1⟩ := e_law_pick (xs := [D.int (-2), .int (lastP ws.length + 1), .non, .str "0", .bl true, .bl false, .int 100000000000000000000, .int (-100000000000000000000)]) (by simp) (by simp) st hs
  obtain ⟨b1, b2⟩ := bad_odds r.R _ (List.getElem_mem hj)
  generalize [D.int (-2), .int (lastP ws.length + 1), .non, .str "0", .bl true, .bl false, .int 100000000000000000000, .int (-100000000000000000000)][j] = odd at e1 b1 b2
  have l8 : lstOk [D.int (-2), .int (lastP ws.length + 1), .non, .str "0", .bl true, .bl false, .int 100000000000000000000, .int (-100000000000000000000)] st = .ok (.lst [D.int (-2), .int (lastP ws.length + 1), .non, .str "0", .bl true, .bl false, .int 100000000000000000000, .int (-100000000000000000000)]) st := lstOk_of (by simp) st
  obtain ⟨r2, s2, a2, b2', k2, e2⟩ := drB ((qs.length : Int) + 1) 6 (by omega) (by omega) (by decide) s1 k1
  obtain ⟨pl, rfl⟩ : ∃ p : Nat, r2 = (p : Int) := ⟨r2.toNat, by omega⟩
  have lnq : c1 dLen [.lst (qs.map D.int)] = some (.int (qs.length : Nat)) := lenB qs
  have F1 : ∃ y, F_law_refusals_right_1 [some (.tok 0), some (rowD ws vs wall), some (.lst ((pairsL ws.length wall).map .int)), some (.lst (qs.map .int)), some odd, none, none, none] s1 = .nx [some (.tok 0), some (rowD ws vs wall), some (.lst ((pairsL ws.length wall).map .int)), some (.lst (qs.map .int)), some odd, y, none, none] s1 := by
    have body : ∀ w : Int, w = 0 ∨ w = 1 → bd_law_refusals_right_1 [some (.tok 0), some (rowD ws vs wall), some (.lst ((pairsL ws.length wall).map .int)), some (.lst (qs.map .int)), some odd, some (.int w), none, none] s1 = .nx [some (.tok 0), some (rowD ws vs wall), some (.lst ((pairsL ws.length wall).map .int)), some (.lst (qs.map .int)), some odd, some (.int w), none, none] s1 := fun w hw => by
      have g1 := r.pair_bad w hw b1 s1
      have g2 := r.pair_good w hw f2 s1
      have t4 : tupOk [.str "pair", odd, .bl true, .bl false] s1 = .ok (pairT odd) s1 := tupOk_of (by simp) s1
      have nn : dNotN .non .non = some (.bl false) := rfl
      have np : dNe (pairT odd) (.tup [.str "pair", odd, .bl true, .bl false]) = some (.bl false) := ne_pairT b2
      unfold bd_law_refusals_right_1
      simp only [ev, bind_ok, bind_err, get?, ret_ok, List.set_cons_zero, List.set_cons_succ, if_true, if_false, ite_true, ite_false, Bool.false_eq_true, Bool.not_true, Bool.not_false, Bool.and_true, Bool.true_and, Bool.and_false, Bool.false_and, decide_true, decide_false, not_true_eq_false, not_false_eq_true, g1, g2, ev5, f1, np, nn]
    refine ⟨some (.int 1), mFor_of (mThenA_of (xs := [.int (2 : Nat)]) (st1 := s1) (by simp only [ev, bind_ok, bind_err, get?, ret_ok, List.set_cons_zero, List.set_cons_succ, if_true, if_false, ite_true, ite_false, Bool.false_eq_true, Bool.not_true, Bool.not_false, Bool.and_true, Bool.true_and, Bool.and_false, Bool.false_and, decide_true, decide_false, not_true_eq_false, not_false_eq_true]; rfl) (rng1_nat (by decide) s1)) ?_⟩
    have e : rangeD 0 2 = [.int 0, .int 1] := rfl
    rw [e, forD_rt rfl (body 0 (.inl rfl)), forD_rt rfl (body 1 (.inr rfl))]
    rfl
  obtain ⟨y5, F1⟩ := F1
  have F3 : ∃ y z, F_law_refusals_right_3 [some (.tok 0), some (rowD ws vs wall), some (.lst ((pairsL ws.length wall).map .int)), some (.lst (qs.map .int)), some odd, y5, some (.int (pl : Int)), none] s2 = .nx [some (.tok 0), some (rowD ws vs wall), some (.lst ((pairsL ws.length wall).map .int)), some (.lst (qs.map .int)), some odd, y, some (.int (pl : Int)), z] s2 := by
    have q801 : dMul (.lst [.int p0]) (.int 801) = some (.lst (repD 801 [.int p0])) := repL (k := 801) (by decide)
    have inner : ∀ (w : Int) (x : Option D), w = 2 ∨ w = 3 ∨ w = 4 → ∃ z, F_law_refusals_right_2 [some (.tok 0), some (rowD ws vs wall), some (.lst ((pairsL ws.length wall).map .int)), some (.lst (qs.map .int)), some odd, some (.int w), some (.int (pl : Int)), x] s2 = .nx [some (.tok 0), some (rowD ws vs wall), some (.lst ((pairsL ws.length wall).map .int)), some (.lst (qs.map .int)), some odd, some (.int w), some (.int (pl : Int)), z] s2 := fun w x hw => by
      have body : ∀ d, (dIsi [d, .tup [.ty "list", .ty "tuple"]] = some (.bl false) ∨ ∃ xs, SeqD d xs ∧ 800 < xs.length) → bd_law_refusals_right_2 [some (.tok 0), some (rowD ws vs wall), some (.lst ((pairsL ws.length wall).map .int)), some (.lst (qs.map .int)), some odd, some (.int w), some (.int (pl : Int)), some d] s2 = .nx [some (.tok 0), some (rowD ws vs wall), some (.lst ((pairsL ws.length wall).map .int)), some (.lst (qs.map .int)), some odd, some (.int w), some (.int (pl : Int)), some d] s2 := fun d hd => by
        have g := fault_word (callW_err hw (fun st => e_word_bad (ws := ws) (vs := vs) (wall := wall) hd st) s2)
        have t5 : tupOk [.str "word", .int 0, .str "word", .bl true, .bl false] s2 = .ok wordT s2 := tupOk_of (by simp) s2
        unfold bd_law_refusals_right_2
        simp only [ev, bind_ok, bind_err, get?, ret_ok, List.set_cons_zero, List.set_cons_succ, if_true, if_false, ite_true, ite_false, Bool.false_eq_true, Bool.not_true, Bool.not_false, Bool.and_true, Bool.true_and, Bool.and_false, Bool.false_and, decide_true, decide_false, not_true_eq_false, not_false_eq_true, g, t5, ne_wordT]
      have l4 : lstOk [.non, .str "0", .int 0, .lst (repD 801 [.int p0])] s2 = .ok (.lst [.non, .str "0", .int 0, .lst (repD 801 [.int p0])]) s2 := lstOk_of (by simp) s2
      refine ⟨some (.lst (repD 801 [.int p0])), mFor_of (mItems_of (x := .lst [.non, .str "0", .int 0, .lst (repD 801 [.int p0])]) (st1 := s2) (by simp only [ev, bind_ok, bind_err, get?, ret_ok, List.set_cons_zero, List.set_cons_succ, if_true, if_false, ite_true, ite_false, Bool.false_eq_true, Bool.not_true, Bool.not_false, Bool.and_true, Bool.true_and, Bool.and_false, Bool.false_and, decide_true, decide_false, not_true_eq_false, not_false_eq_true, ev5, f1, q801, l4]) rfl) ?_⟩
      rw [forD_rt rfl (body _ (.inl rfl)), forD_rt rfl (body _ (.inl rfl)), forD_rt rfl (body _ (.inl rfl)), forD_rt rfl (body _ (.inr ⟨_, .inl rfl, by rw [rep_len]; decide⟩))]
      rfl
    have body : ∀ (w : Int) (x5 x7 : Option D), w = 2 ∨ w = 3 ∨ w = 4 → ∃ z, bd_law_refusals_right_3 [some (.tok 0), some (rowD ws vs wall), some (.lst ((pairsL ws.length wall).map .int)), some (.lst (qs.map .int)), some odd, some (.int w), some (.int (pl : Int)), x7] s2 = .nx [some (.tok 0), some (rowD ws vs wall), some (.lst ((pairsL ws.length wall).map .int)), some (.lst (qs.map .int)), some odd, some (.int w), some (.int (pl : Int)), z] s2 := fun w x5 x7 hw => by
      obtain ⟨z, hz⟩ := inner w x7 hw
      have eG : ((qs.map D.int).take pl ++ [odd] ++ (qs.map D.int).drop pl) ++ [D.non] = (qs.take pl).map .int ++ odd :: ((qs.drop pl).map .int ++ [.non]) := by
        rw [List.map_take, List.map_drop]; simp
      have lt : ((qs.map D.int).take pl).length ≤ 30 := by rw [List.length_take, List.length_map]; omega
      have ld : ((qs.map D.int).drop pl).length ≤ 30 := by rw [List.length_drop, List.length_map]; omega
      have g := fault_pair (callW_err hw (fun st => e_word_pair (ws := ws) (vs := vs) (wall := wall) (ps := qs.take pl) (r := (qs.drop pl).map .int ++ [.non]) r.R.lo (.inl rfl) (by
        rw [← eG]; simp only [List.length_append, List.length_singleton]; omega) (fun p hp => r.q p (List.mem_of_mem_take hp)) b1 st) s2)
      rw [← eG] at g
      have s3 : mSl (mVar 3) mNo (mPart (mVar 6)) [some (.tok 0), some (rowD ws vs wall), some (.lst ((pairsL ws.length wall).map .int)), some (.lst (qs.map .int)), some odd, some (.int w), some (.int (pl : Int)), x7] s2 = .ok (.lst ((qs.map D.int).take pl)) s2 := by
        rw [mSl_of (xs := qs.map D.int) (s1 := s2) (by simp only [ev, bind_ok, bind_err, get?, ret_ok, List.set_cons_zero, List.set_cons_succ, if_true, if_false, ite_true, ite_false, Bool.false_eq_true, Bool.not_true, Bool.not_false, Bool.and_true, Bool.true_and, Bool.and_false, Bool.false_and, decide_true, decide_false, not_true_eq_false, not_false_eq_true]) mNo_of (mPart_of (i := (pl : Int)) (s1 := s2) (by simp only [ev, bind_ok, bind_err, get?, ret_ok, List.set_cons_zero, List.set_cons_succ, if_true, if_false, ite_true, ite_false, Bool.false_eq_true, Bool.not_true, Bool.not_false, Bool.and_true, Bool.true_and, Bool.and_false, Bool.false_and, decide_true, decide_false, not_true_eq_false, not_false_eq_true])), cut_take]
      have s4 : mSl (mVar 3) (mPart (mVar 6)) mNo [some (.tok 0), some (rowD ws vs wall), some (.lst ((pairsL ws.length wall).map .int)), some (.lst (qs.map .int)), some odd, some (.int w), some (.int (pl : Int)), x7] s2 = .ok (.lst ((qs.map D.int).drop pl)) s2 := by
        rw [mSl_of (xs := qs.map D.int) (s1 := s2) (by simp only [ev, bind_ok, bind_err, get?, ret_ok, List.set_cons_zero, List.set_cons_succ, if_true, if_false, ite_true, ite_false, Bool.false_eq_true, Bool.not_true, Bool.not_false, Bool.and_true, Bool.true_and, Bool.and_false, Bool.false_and, decide_true, decide_false, not_true_eq_false, not_false_eq_true]) (mPart_of (i := (pl : Int)) (s1 := s2) (by simp only [ev, bind_ok, bind_err, get?, ret_ok, List.set_cons_zero, List.set_cons_succ, if_true, if_false, ite_true, ite_false, Bool.false_eq_true, Bool.not_true, Bool.not_false, Bool.and_true, Bool.true_and, Bool.and_false, Bool.false_and, decide_true, decide_false, not_true_eq_false, not_false_eq_true])) mNo_of, cut_drop]
      have d1 := addL ((qs.map D.int).take pl) [odd] (by rw [List.length_singleton]; omega)
      have d2 := addL ((qs.map D.int).take pl ++ [odd]) ((qs.map D.int).drop pl) (by rw [List.length_append, List.length_singleton]; omega)
      have d3 := addL ((qs.map D.int).take pl ++ [odd] ++ (qs.map D.int).drop pl) [D.non] (by simp only [List.length_append, List.length_singleton]; omega)
      have t4 : tupOk [.str "pair", odd, .bl true, .bl false] s2 = .ok (pairT odd) s2 := tupOk_of (by simp) s2
      have wg := r.word_good hw s2
      have nn : dNotN .non .non = some (.bl false) := rfl
      have np : dNe (pairT odd) (.tup [.str "pair", odd, .bl true, .bl false]) = some (.bl false) := ne_pairT b2
      refine ⟨z, ?_⟩
      unfold bd_law_refusals_right_3
      (rw [mSeq_k]; (conv => (lhs; arg 1; simp only [ev, bind_ok, bind_err, get?, ret_ok, List.set_cons_zero, List.set_cons_succ, if_true, if_false, ite_true, ite_false, Bool.false_eq_true, Bool.not_true, Bool.not_false, Bool.and_true, Bool.true_and, Bool.and_false, Bool.false_and, decide_true, decide_false, not_true_eq_false, not_false_eq_true, s3, s4, ev5, d1, d2, d3, g, np])); rw [seqK_nx])
      (rw [mSeq_k]; (conv => (lhs; arg 1; simp only [ev, bind_ok, bind_err, get?, ret_ok, List.set_cons_zero, List.set_cons_succ, if_true, if_false, ite_true, ite_false, Bool.false_eq_true, Bool.not_true, Bool.not_false, Bool.and_true, Bool.true_and, Bool.and_false, Bool.false_and, decide_true, decide_false, not_true_eq_false, not_false_eq_true, hz])); rw [seqK_nx])
      simp only [ev, bind_ok, bind_err, get?, ret_ok, List.set_cons_zero, List.set_cons_succ, if_true, if_false, ite_true, ite_false, Bool.false_eq_true, Bool.not_true, Bool.not_false, Bool.and_true, Bool.true_and, Bool.and_false, Bool.false_and, decide_true, decide_false, not_true_eq_false, not_false_eq_true, wg, nn]
    obtain ⟨z2, h2⟩ := body 2 y5 none (.inl rfl)
    obtain ⟨z3, h3⟩ := body 3 y5 z2 (.inr (.inl rfl))
    obtain ⟨z4, h4⟩ := body 4 y5 z3 (.inr (.inr rfl))
    refine ⟨some (.int 4), z4, mFor_of (mThenA_of (xs := [.int 2, .int 5]) (st1 := s2) (by simp only [ev, bind_ok, bind_err, get?, ret_ok, List.set_cons_zero, List.set_cons_succ, if_true, if_false, ite_true, ite_false, Bool.false_eq_true, Bool.not_true, Bool.not_false, Bool.and_true, Bool.true_and, Bool.and_false, Bool.false_and, decide_true, decide_false, not_true_eq_false, not_false_eq_true]) (rng25 s2)) ?_⟩
    have e : rangeD 2 3 = [.int 2, .int 3, .int 4] := rfl
    rw [e, forD_rt rfl h2, forD_rt rfl h3, forD_rt rfl h4]
    rfl
  obtain ⟨y, z, F3⟩ := F3
  have q800 : dMul (.lst [.int (lastP ws.length)]) (.int 800) = some (.lst (repD 800 [.int (lastP ws.length)])) := repL (k := 800) (by decide)
  have cw := e_word_ok (vs := vs) (G := .lst (repD 800 [.int (lastP ws.length)])) (ps := List.replicate 800 (lastP ws.length)) r.R.lo (.inl (by rw [rep_map])) (by simp) (fun p hp => by rw [(List.mem_replicate.mp hp).2]; exact l2) s2
  have tq : dTuple (.lst (repD 800 [.int (lastP ws.length)])) = some (.tup ((List.replicate 800 (lastP ws.length)).map .int)) := by rw [rep_map]; rfl
  refine ⟨s2, ?_⟩
  unfold m__law_refusals_right b__law_refusals_right
  rw [show fnM 8 _ [D.tok 0, rowD ws vs wall, .lst ((pairsL ws.length wall).map .int), .lst (qs.map .int)] st = outR (_) from fnM_eq (by simp)]
  simp only [mkEnv]
  (rw [mSeq_k]; (conv => (lhs; arg 1; arg 1; simp only [ev, bind_ok, bind_err, get?, ret_ok, List.set_cons_zero, List.set_cons_succ, if_true, if_false, ite_true, ite_false, Bool.false_eq_true, Bool.not_true, Bool.not_false, Bool.and_true, Bool.true_and, Bool.and_false, Bool.false_and, decide_true, decide_false, not_true_eq_false, not_false_eq_true, ev5, l1, p20', l8, e1])); rw [seqK_nx])
  (rw [mSeq_k]; (conv => (lhs; arg 1; arg 1; simp only [ev, bind_ok, bind_err, get?, ret_ok, List.set_cons_zero, List.set_cons_succ, if_true, if_false, ite_true, ite_false, Bool.false_eq_true, Bool.not_true, Bool.not_false, Bool.and_true, Bool.true_and, Bool.and_false, Bool.false_and, decide_true, decide_false, not_true_eq_false, not_false_eq_true, F1])); rw [seqK_nx])
  (rw [mSeq_k]; (conv => (lhs; arg 1; arg 1; simp only [ev, bind_ok, bind_err, get?, ret_ok, List.set_cons_zero, List.set_cons_succ, if_true, if_false, ite_true, ite_false, Bool.false_eq_true, Bool.not_true, Bool.not_false, Bool.and_true, Bool.true_and, Bool.and_false, Bool.false_and, decide_true, decide_false, not_true_eq_false, not_false_eq_true, List.length_map, e2])); rw [seqK_nx])
  (rw [mSeq_k]; (conv => (lhs; arg 1; arg 1; simp only [ev, bind_ok, bind_err, get?, ret_ok, List.set_cons_zero, List.set_cons_succ, if_true, if_false, ite_true, ite_false, Bool.false_eq_true, Bool.not_true, Bool.not_false, Bool.and_true, Bool.true_and, Bool.and_false, Bool.false_and, decide_true, decide_false, not_true_eq_false, not_false_eq_true, F3])); rw [seqK_nx])
  simp only [ev, bind_ok, bind_err, get?, ret_ok, List.set_cons_zero, List.set_cons_succ, if_true, if_false, ite_true, ite_false, Bool.false_eq_true, Bool.not_true, Bool.not_false, Bool.and_true, Bool.true_and, Bool.and_false, Bool.false_and, decide_true, decide_false, not_true_eq_false, not_false_eq_true, ev5, l1, q800, cw, tq, dEq_ints]
end
end My

namespace My
open PySem PySem.Spec PyProof.Rows L2 DL
/-! the law -/
def orO : Option Nat → Option Nat → Option Nat
  | some j, _ => some j
  | none, o => o
theorem isN_opt (o : Option Nat) : dIsN (optN o) .non = some (.bl o.isNone) := by cases o <;> rfl
theorem num_le {vs : List Rat} {p : Int} : (decide ((closR vs p).num ≤ 0)) = !comes vs p := by
  unfold comes
  by_cases h : (closR vs p).num ≤ 0
  · rw [decide_eq_true h, decide_eq_false (by omega)]; rfl
  · rw [decide_eq_false h, decide_eq_true (by omega)]; rfl
section
variable {ws : List Int} {vs : List Rat} {wall : Bool} {e0 s3 s4 s5 : Option D} {a12 a13 a14 a15 a16 : Option D}
theorem law_body {us : List Rat} {n : Nat} {p : Int} {k : Nat} {o : Option Nat} {x11 : Option D} (R : RowOk ws us wall) (hp : PairOk ws.length wall p) (h : Spd n us) (hn : n + 2 ≤ 64) (st : List D) :
    ∃ o', (o' = if o.isNone = true ∧ (closR us p).num ≤ 0 then some k else o) ∧ ∃ y, bd_law_1 [e0, some (.tok 0), some (ballsD ws vs wall), s3, s4, s5, some (.lst (us.map rD)), some (rowD ws us wall), some (optN o), some (.int (k : Int)), some (.int p), x11, a12, a13, a14, a15, a16] st = .nx [e0, some (.tok 0), some (ballsD ws vs wall), s3, s4, s5, some (.lst ((clashR ws us p).map rD)), some (rowD ws (clashR ws us p) wall), some (optN o'), some (.int (k : Int)), some (.int p), y, a12, a13, a14, a15, a16] st := by
  have c1 := e_coming R h (by omega) st
  have c2 := e_law_comers (vs := vs) R h (by omega) st
  have sr := e_step_right (vs := vs) R hp h hn st
  have i1 : dIsi [.tup ((comers ws.length wall us).map .int), .ty "tuple"] = some (.bl true) := rfl
  have lc := e_law_closing (V := .lst (us.map rD)) (.inl rfl) (R.len ▸ hp) h.sm (by omega) st
  have cl := e_law_clash (W := .lst (ws.map .int)) (V := .lst (us.map rD)) (.inl rfl) (.inl rfl) R.len R.w hp h.sm (by omega) st
  have ac := e_after_clash R hp h (by omega) st
  refine ⟨_, rfl, some (.tup ((comers ws.length wall us).map .int)), ?_⟩
  unfold bd_law_1
  (rw [mSeq_k]; (conv => (lhs; arg 1; simp only [ev, bind_ok, bind_err, get?, ret_ok, List.set_cons_zero, List.set_cons_succ, if_true, if_false, ite_true, ite_false, Bool.false_eq_true, Bool.not_true, Bool.not_false, Bool.and_true, Bool.true_and, Bool.and_false, Bool.false_and, decide_true, decide_false, not_true_eq_false, not_false_eq_true, c1])); rw [seqK_nx])
  (rw [mSeq_k]; (conv => (lhs; arg 1; simp only [ev, bind_ok, bind_err, get?, ret_ok, List.set_cons_zero, List.set_cons_succ, if_true, if_false, ite_true, ite_false, Bool.false_eq_true, Bool.not_true, Bool.not_false, Bool.and_true, Bool.true_and, Bool.and_false, Bool.false_and, decide_true, decide_false, not_true_eq_false, not_false_eq_true, i1, c2, dNe_ints, sr])); rw [seqK_nx])
  have f3 : (mIfS (mAnd (mTest (mOp dIsN (mVar 8) (mC .non))) (mTest (mOp dLe (mIx (mCall m__law_closing (mCons (mVar 6) (mCons (mVar 10) (mNil)))) (mC (.int 0))) (mC (.int 0))))) (mSet 8 (mVar 9)) (mNx)) [e0, some (.tok 0), some (ballsD ws vs wall), s3, s4, s5, some (.lst (us.map rD)), some (rowD ws us wall), some (optN o), some (.int (k : Int)), some (.int p), some (.tup ((comers ws.length wall us).map .int)), a12, a13, a14, a15, a16] st = .nx [e0, some (.tok 0), some (ballsD ws vs wall), s3, s4, s5, some (.lst (us.map rD)), some (rowD ws us wall), some (optN (if o.isNone = true ∧ (closR us p).num ≤ 0 then some k else o)), some (.int (k : Int)), some (.int p), some (.tup ((comers ws.length wall us).map .int)), a12, a13, a14, a15, a16] st := by
    cases o with
    | some j =>
      have i : dIsN (optN (some j)) .non = some (.bl false) := rfl
      rw [if_neg (by simp)]
      simp only [ev, bind_ok, bind_err, get?, ret_ok, List.set_cons_zero, List.set_cons_succ, if_true, if_false, ite_true, ite_false, Bool.false_eq_true, Bool.not_true, Bool.not_false, Bool.and_true, Bool.true_and, Bool.and_false, Bool.false_and, decide_true, decide_false, not_true_eq_false, not_false_eq_true, i]
    | none =>
      have i : dIsN (optN none) .non = some (.bl true) := rfl
      by_cases hc : (closR us p).num ≤ 0
      · rw [if_pos ⟨rfl, hc⟩]
        simp only [ev, bind_ok, bind_err, get?, ret_ok, List.set_cons_zero, List.set_cons_succ, if_true, if_false, ite_true, ite_false, Bool.false_eq_true, Bool.not_true, Bool.not_false, Bool.and_true, Bool.true_and, Bool.and_false, Bool.false_and, decide_true, decide_false, not_true_eq_false, not_false_eq_true, i, lc, ixr0, decide_eq_true hc]
        rfl
      · rw [if_neg (fun z => hc z.2)]
        simp only [ev, bind_ok, bind_err, get?, ret_ok, List.set_cons_zero, List.set_cons_succ, if_true, if_false, ite_true, ite_false, Bool.false_eq_true, Bool.not_true, Bool.not_false, Bool.and_true, Bool.true_and, Bool.and_false, Bool.false_and, decide_true, decide_false, not_true_eq_false, not_false_eq_true, i, lc, ixr0, decide_eq_false hc]
  rw [mSeq_of f3]
  (rw [mSeq_k]; (conv => (lhs; arg 1; simp only [ev, bind_ok, bind_err, get?, ret_ok, List.set_cons_zero, List.set_cons_succ, if_true, if_false, ite_true, ite_false, Bool.false_eq_true, Bool.not_true, Bool.not_false, Bool.and_true, Bool.true_and, Bool.and_false, Bool.false_and, decide_true, decide_false, not_true_eq_false, not_false_eq_true, bx0, cl])); rw [seqK_nx])
  simp only [ev, bind_ok, bind_err, get?, ret_ok, List.set_cons_zero, List.set_cons_succ, if_true, if_false, ite_true, ite_false, Bool.false_eq_true, Bool.not_true, Bool.not_false, Bool.and_true, Bool.true_and, Bool.and_false, Bool.false_and, decide_true, decide_false, not_true_eq_false, not_false_eq_true, ac]
theorem law_loop (hw : ∀ w ∈ ws, 1 ≤ w ∧ w ≤ 9) (st : List D) : ∀ (ps : List Int) (us : List Rat) (n k : Nat) (o : Option Nat) (x9 x10 x11 : Option D), RowOk ws us wall → Spd n us → n + ps.length + 1 ≤ 64 → (∀ p ∈ ps, PairOk ws.length wall p) →
    ∃ y9 y10 y11, forD (gTp (gsCons (gNm 9) (gsCons (gNm 10) (gsNil)))) bd_law_1 (numF k ps) [e0, some (.tok 0), some (ballsD ws vs wall), s3, s4, s5, some (.lst (us.map rD)), some (rowD ws us wall), some (optN o), x9, x10, x11, a12, a13, a14, a15, a16] st = .nx [e0, some (.tok 0), some (ballsD ws vs wall), s3, s4, s5, some (.lst ((wordR ws us ps).map rD)), some (rowD ws (wordR ws us ps) wall), some (optN (orO o (firstNC ws us ps k))), y9, y10, y11, a12, a13, a14, a15, a16] st
  | [], us, n, k, o, x9, x10, x11, _, _, _, _ => ⟨x9, x10, x11, by
      have e : orO o (firstNC ws us [] k) = o := by cases o <;> rfl
      rw [e]; rfl⟩
  | p :: ps, us, n, k, o, x9, x10, x11, R, h, hn, hp => by
    have hn : n + (ps.length + 1) + 1 ≤ 64 := hn
    have hp1 := hp p List.mem_cons_self
    obtain ⟨o', ho', y, hb⟩ := law_body (vs := vs) (e0 := e0) (s3 := s3) (s4 := s4) (s5 := s5) (a12 := a12) (a13 := a13) (a14 := a14) (a15 := a15) (a16 := a16) (k := k) (o := o) (x11 := x11) R hp1 h (by omega) st
    obtain ⟨y9, y10, y11, ih⟩ := law_loop hw st ps (clashR ws us p) (n + 1) (k + 1) o' (some (.int (k : Int))) (some (.int p)) y R.clash (h.clash R.len R.w hp1) (by omega) fun q hq => hp q (List.mem_cons_of_mem _ hq)
    refine ⟨y9, y10, y11, ?_⟩
    have nf : numF k (p :: ps) = .tup [.int (k : Int), .int p] :: numF (k + 1) ps := rfl
    have g : gTp (gsCons (gNm 9) (gsCons (gNm 10) (gsNil))) (D.tup [.int (k : Int), .int p]) [e0, some (.tok 0), some (ballsD ws vs wall), s3, s4, s5, some (.lst (us.map rD)), some (rowD ws us wall), some (optN o), x9, x10, x11, a12, a13, a14, a15, a16] = some [e0, some (.tok 0), some (ballsD ws vs wall), s3, s4, s5, some (.lst (us.map rD)), some (rowD ws us wall), some (optN o), some (.int (k : Int)), some (.int p), x11, a12, a13, a14, a15, a16] := rfl
    rw [nf, forD_rt g hb, ih]
    have e1 : wordR ws us (p :: ps) = wordR ws (clashR ws us p) ps := rfl
    have e2 : orO o (firstNC ws us (p :: ps) k) = orO o' (firstNC ws (clashR ws us p) ps (k + 1)) := by
      have un : firstNC ws us (p :: ps) k = if (closR us p).num ≤ 0 then some k else firstNC ws (clashR ws us p) ps (k + 1) := rfl
      rw [un, ho']
      cases o with
      | some j => simp [orO]
      | none =>
        by_cases hc : (closR us p).num ≤ 0
        · rw [if_pos hc, if_pos ⟨rfl, hc⟩]; rfl
        · rw [if_neg hc, if_neg (fun z => hc z.2)]
    rw [e1, e2]
theorem ne_opt (o : Option Nat) : dNe (optN o) (optN o) = some (.bl false) := by
  cases o with
  | none => rfl
  | some j => show dNe (.int (j : Int)) (.int (j : Int)) = _; rw [dNe_int, decide_eq_true rfl]; rfl
theorem isb_opt (o : Option Nat) : dIsi [optN o, .ty "bool"] = some (.bl false) := by cases o <;> rfl
theorem isi_opt (o : Option Nat) : ∃ b c, dNotN (optN o) .non = some (.bl b) ∧ dIsi [optN o, .ty "int"] = some (.bl c) ∧ (b = true → c = true) := by
  cases o with
  | none => exact ⟨false, false, rfl, rfl, fun h => h⟩
  | some j => exact ⟨true, true, rfl, rfl, fun _ => rfl⟩
end
theorem lenBk (ws : List Int) : dList (.lst (ws.map D.int)) = some (.lst (ws.map .int)) := rfl
theorem hH : ∀ (ns : List Int), ns.length ≤ 63 → ∃ cells t, m__law_hand [.rol (ns.map .int)] [] = .ok (handD cells 0 0 t) [] ∧ ∃ st', b_law (some (.rol (ns.map .int)) :: some (.tok 0) :: List.replicate 15 none) [handD cells 0 0 t] = .rt (.bl true) st' := by
  intro ns hl
  obtain ⟨cells, t, hc, eh⟩ := e_hand ns hl
  refine ⟨cells, t, eh, ?_⟩
  have hs0 : HandOk [handD cells 0 0 t] := ⟨cells, 0, 0, t, rfl, by decide, by decide, hc⟩
  generalize [handD cells 0 0 t] = s0 at hs0 ⊢
  generalize some (D.rol (ns.map .int)) = e0
  show RetT _
  obtain ⟨b, s1, e1, k1, ws, vs, wall, rfl, R, dv⟩ := e_most_balls s0 hs0
  have S := spd0 dv
  obtain ⟨o1, o2⟩ := one_ball R
  have row := e_Row (W := .lst (ws.map .int)) (V := .lst (vs.map rD)) (wall := wall) (.inl rfl) (.inl rfl) (TL.rat S.sm) (by decide) R.len R.lo R.hi R.w (S.fit (by decide)) s1
  have prs := e_law_pairs (vs := vs) (wall := wall) (show ws.length ≤ 1000 by have := R.hi; omega) o1 s1
  obtain ⟨r2, s2, a2, b2, k2, e2⟩ := drB 8 4 (by decide) (by decide) (by decide) s1 k1
  have g40 := gc_le wall R.hi
  obtain ⟨most, hmost, m0, m30⟩ : ∃ m : Int, m = (if r2 = 0 then 30 else 7) ∧ 0 ≤ m ∧ m ≤ 30 := ⟨_, rfl, by split <;> decide, by split <;> decide⟩
  obtain ⟨qs, s3, e3, k3, lq, mq⟩ := e_law_word (ps := pairsL ws.length wall) (most := most) (by rw [pairs_len]; exact o2) (by rw [pairs_len]; omega) m0 m30 s2 k2
  have okq : ∀ q ∈ qs, PairOk ws.length wall q := fun q hq => (mem_pairs R.lo).mp (mq q hq)
  obtain ⟨r4, s4, a4, b4, k4, e4⟩ := drB 2 2 (by decide) (by decide) (by decide) s3 k3
  obtain ⟨V, hV, hVe⟩ : ∃ V, SeqD V (qs.map .int) ∧ V = (if r4 = 0 then .lst (qs.map .int) else .tup (qs.map .int)) := ⟨_, by split <;> first | exact .inl rfl | exact .inr rfl, rfl⟩
  have f4 : mIf (mTest (mOp dEq (mCall m__law_draw (mCons (mVar 1) (mCons (mC (.int 8)) (mNil)))) (mC (.int 0)))) (mC (.int 30)) (mC (.int 7)) [e0, some (.tok 0), some (ballsD ws vs wall), some (rowD ws vs wall), some (.lst ((pairsL ws.length wall).map .int)), none, none, none, none, none, none, none, none, none, none, none, none] s1 = .ok (.int most) s2 := by
    rw [hmost]
    by_cases h : r2 = 0
    · simp only [ev, bind_ok, bind_err, get?, ret_ok, List.set_cons_zero, List.set_cons_succ, if_true, if_false, ite_true, ite_false, Bool.false_eq_true, Bool.not_true, Bool.not_false, Bool.and_true, Bool.true_and, Bool.and_false, Bool.false_and, decide_true, decide_false, not_true_eq_false, not_false_eq_true, e2, h]
    · simp only [ev, bind_ok, bind_err, get?, ret_ok, List.set_cons_zero, List.set_cons_succ, if_true, if_false, ite_true, ite_false, Bool.false_eq_true, Bool.not_true, Bool.not_false, Bool.and_true, Bool.true_and, Bool.and_false, Bool.false_and, decide_true, decide_false, not_true_eq_false, not_false_eq_true, e2, h]
  have f5 : (mSet 5 (mCall m__law_word (mCons (mVar 1) (mCons (mVar 4) (mCons (mIf (mTest (mOp dEq (mCall m__law_draw (mCons (mVar 1) (mCons (mC (.int 8)) (mNil)))) (mC (.int 0)))) (mC (.int 30)) (mC (.int 7))) (mNil)))))) [e0, some (.tok 0), some (ballsD ws vs wall), some (rowD ws vs wall), some (.lst ((pairsL ws.length wall).map .int)), none, none, none, none, none, none, none, none, none, none, none, none] s1 = .nx [e0, some (.tok 0), some (ballsD ws vs wall), some (rowD ws vs wall), some (.lst ((pairsL ws.length wall).map .int)), some (.lst (qs.map .int)), none, none, none, none, none, none, none, none, none, none, none] s3 := mSet_of (by
    rw [ev2.2.2.2.2.2.2.2.2.1, ev2.2.2.2.2.2.2.1, ev2.1]
    simp only [get?, ret_ok, bind_ok]
    rw [ev2.2.2.2.2.2.2.1, ev2.1]
    simp only [get?, ret_ok, bind_ok]
    rw [ev2.2.2.2.2.2.2.1, f4]
    simp only [ev, bind_ok, e3])
  have en : enumA? [.lst (qs.map D.int)] s3 = .ok (numF 0 qs) s3 := by
    rw [← numbered_eq]; rfl
  obtain ⟨y9, y10, y11, lp⟩ := law_loop (vs := vs) (wall := wall) (e0 := e0) (s3 := some (rowD ws vs wall)) (s4 := some (.lst ((pairsL ws.length wall).map .int))) (s5 := some (.lst (qs.map .int))) (a12 := none) (a13 := none) (a14 := none) (a15 := none) (a16 := none) R.w s3 qs vs 0 0 none none none none R S (by omega) okq
  have F1 : F_law_1 [e0, some (.tok 0), some (ballsD ws vs wall), some (rowD ws vs wall), some (.lst ((pairsL ws.length wall).map .int)), some (.lst (qs.map .int)), some (.lst (vs.map rD)), some (rowD ws vs wall), some .non, none, none, none, none, none, none, none, none] s3 = .nx [e0, some (.tok 0), some (ballsD ws vs wall), some (rowD ws vs wall), some (.lst ((pairsL ws.length wall).map .int)), some (.lst (qs.map .int)), some (.lst ((wordR ws vs qs).map rD)), some (rowD ws (wordR ws vs qs) wall), some (optN (firstNC ws vs qs 0)), y9, y10, y11, none, none, none, none, none] s3 :=
    mFor_of (mThenA_of (xs := [.lst (qs.map .int)]) (st1 := s3) (by simp only [ev, bind_ok, bind_err, get?, ret_ok, List.set_cons_zero, List.set_cons_succ, if_true, if_false, ite_true, ite_false, Bool.false_eq_true, Bool.not_true, Bool.not_false, Bool.and_true, Bool.true_and, Bool.and_false, Bool.false_and, decide_true, decide_false, not_true_eq_false, not_false_eq_true]) en) lp
  have f13 : (mSet 13 (mIf (mTest (mOp dEq (mCall m__law_draw (mCons (mVar 1) (mCons (mC (.int 2)) (mNil)))) (mC (.int 0)))) (mVar 5) (mCall1 (c1 dTuple) (mCons (mVar 5) (mNil))))) [e0, some (.tok 0), some (ballsD ws vs wall), some (rowD ws vs wall), some (.lst ((pairsL ws.length wall).map .int)), some (.lst (qs.map .int)), some (.lst ((wordR ws vs qs).map rD)), some (rowD ws (wordR ws vs qs) wall), some (optN (firstNC ws vs qs 0)), y9, y10, y11, some (.lst (qs.map .int)), none, none, none, none] s3 = .nx [e0, some (.tok 0), some (ballsD ws vs wall), some (rowD ws vs wall), some (.lst ((pairsL ws.length wall).map .int)), some (.lst (qs.map .int)), some (.lst ((wordR ws vs qs).map rD)), some (rowD ws (wordR ws vs qs) wall), some (optN (firstNC ws vs qs 0)), y9, y10, y11, some (.lst (qs.map .int)), some V, none, none, none] s4 := mSet_of (by
    rw [hVe]
    by_cases h : r4 = 0
    · simp only [ev, bind_ok, bind_err, get?, ret_ok, List.set_cons_zero, List.set_cons_succ, if_true, if_false, ite_true, ite_false, Bool.false_eq_true, Bool.not_true, Bool.not_false, Bool.and_true, Bool.true_and, Bool.and_false, Bool.false_and, decide_true, decide_false, not_true_eq_false, not_false_eq_true, e4, h]
    · simp only [ev, bind_ok, bind_err, get?, ret_ok, List.set_cons_zero, List.set_cons_succ, if_true, if_false, ite_true, ite_false, Bool.false_eq_true, Bool.not_true, Bool.not_false, Bool.and_true, Bool.true_and, Bool.and_false, Bool.false_and, decide_true, decide_false, not_true_eq_false, not_false_eq_true, e4, h, dTup_lst])
  have Sw : Spd (0 + qs.length) (wordR ws vs qs) := word_spd R.w qs S R.len okq
  have Rw : RowOk ws (wordR ws vs qs) wall := R.speeds (word_len ws qs vs)
  have aw := e_after_word R hV S (by omega) okq s4
  have ir1 := e_is_row (ws := ws) (us := wordR ws vs qs) (vs := vs) (wall := wall) (V := .lst ((wordR ws vs qs).map rD)) (.inl rfl) s4
  have cm1 := e_coming Rw Sw (by omega) s4
  have cm2 := e_law_comers (vs := vs) Rw Sw (by omega) s4
  have fn := e_first_nc R hV S (by omega) okq s4
  obtain ⟨bb, cc, n1, n2, n3⟩ := isi_opt (firstNC ws vs qs 0)
  have cw := e_word_ok (vs := vs) R.lo hV (by omega) okq s4
  have it : dIsi [.tup (qs.map .int), .ty "tuple"] = some (.bl true) := rfl
  have dl : dList V = some (.lst (qs.map .int)) := by rcases hV with rfl | rfl <;> rfl
  have okr : ∀ q ∈ qs.reverse, PairOk ws.length wall q := fun q hq => okq q (List.mem_reverse.mp hq)
  have aw2 := e_after_word (G := .lst ((qs.map D.int).reverse)) (ps := qs.reverse) Rw (.inl (by rw [List.map_reverse])) Sw (by rw [List.length_reverse]; omega) okr s4
  rw [word_back R.w qs R.len okq] at aw2
  have ir2 := e_is_row (ws := ws) (us := vs) (vs := vs) (wall := wall) (V := .lst (vs.map rD)) (.inl rfl) s4
  have ref : Ref ws vs wall qs := ⟨R, S, okq, lq⟩
  obtain ⟨s5, fin⟩ := ref.run s4 k4
  show RetT (b_law [e0, some (.tok 0), none, none, none, none, none, none, none, none, none, none, none, none, none, none, none] s0)
  unfold b_law
  (rw [mSeq_k]; (conv => (arg 1; arg 1; simp only [ev, bind_ok, bind_err, get?, ret_ok, List.set_cons_zero, List.set_cons_succ, if_true, if_false, ite_true, ite_false, Bool.false_eq_true, Bool.not_true, Bool.not_false, Bool.and_true, Bool.true_and, Bool.and_false, Bool.false_and, decide_true, decide_false, not_true_eq_false, not_false_eq_true, e1])); rw [seqK_nx])
  (rw [mSeq_k]; (conv => (arg 1; arg 1; simp only [ev, bind_ok, bind_err, get?, ret_ok, List.set_cons_zero, List.set_cons_succ, if_true, if_false, ite_true, ite_false, Bool.false_eq_true, Bool.not_true, Bool.not_false, Bool.and_true, Bool.true_and, Bool.and_false, Bool.false_and, decide_true, decide_false, not_true_eq_false, not_false_eq_true, bx0, bx1, bx2, List.append_nil, row])); rw [seqK_nx])
  (rw [mSeq_k]; (conv => (arg 1; arg 1; simp only [ev, bind_ok, bind_err, get?, ret_ok, List.set_cons_zero, List.set_cons_succ, if_true, if_false, ite_true, ite_false, Bool.false_eq_true, Bool.not_true, Bool.not_false, Bool.and_true, Bool.true_and, Bool.and_false, Bool.false_and, decide_true, decide_false, not_true_eq_false, not_false_eq_true, prs])); rw [seqK_nx])
  rw [mSeq_of f5]
  (rw [mSeq_k]; (conv => (arg 1; arg 1; simp only [ev, bind_ok, bind_err, get?, ret_ok, List.set_cons_zero, List.set_cons_succ, if_true, if_false, ite_true, ite_false, Bool.false_eq_true, Bool.not_true, Bool.not_false, Bool.and_true, Bool.true_and, Bool.and_false, Bool.false_and, decide_true, decide_false, not_true_eq_false, not_false_eq_true, bx1, show dList (.lst (vs.map rD)) = some (.lst (vs.map rD)) from rfl])); rw [seqK_nx])
  (rw [mSeq_k]; (conv => (arg 1; arg 1; simp only [ev, bind_ok, bind_err, get?, ret_ok, List.set_cons_zero, List.set_cons_succ, if_true, if_false, ite_true, ite_false, Bool.false_eq_true, Bool.not_true, Bool.not_false, Bool.and_true, Bool.true_and, Bool.and_false, Bool.false_and, decide_true, decide_false, not_true_eq_false, not_false_eq_true])); rw [seqK_nx])
  (rw [mSeq_k]; (conv => (arg 1; arg 1; simp only [ev, bind_ok, bind_err, get?, ret_ok, List.set_cons_zero, List.set_cons_succ, if_true, if_false, ite_true, ite_false, Bool.false_eq_true, Bool.not_true, Bool.not_false, Bool.and_true, Bool.true_and, Bool.and_false, Bool.false_and, decide_true, decide_false, not_true_eq_false, not_false_eq_true])); rw [seqK_nx])
  rw [mSeq_of F1]
  (rw [mSeq_k]; (conv => (arg 1; arg 1; simp only [ev, bind_ok, bind_err, get?, ret_ok, List.set_cons_zero, List.set_cons_succ, if_true, if_false, ite_true, ite_false, Bool.false_eq_true, Bool.not_true, Bool.not_false, Bool.and_true, Bool.true_and, Bool.and_false, Bool.false_and, decide_true, decide_false, not_true_eq_false, not_false_eq_true, lenBk])); rw [seqK_nx])
  rw [mSeq_of f13]
  (rw [mSeq_k]; (conv => (arg 1; arg 1; simp only [ev, bind_ok, bind_err, get?, ret_ok, List.set_cons_zero, List.set_cons_succ, if_true, if_false, ite_true, ite_false, Bool.false_eq_true, Bool.not_true, Bool.not_false, Bool.and_true, Bool.true_and, Bool.and_false, Bool.false_and, decide_true, decide_false, not_true_eq_false, not_false_eq_true, aw])); rw [seqK_nx])
  (rw [mSeq_k]; (conv => (arg 1; arg 1; simp only [ev, bind_ok, bind_err, get?, ret_ok, List.set_cons_zero, List.set_cons_succ, if_true, if_false, ite_true, ite_false, Bool.false_eq_true, Bool.not_true, Bool.not_false, Bool.and_true, Bool.true_and, Bool.and_false, Bool.false_and, decide_true, decide_false, not_true_eq_false, not_false_eq_true, ir1, cm1, cm2, dNe_ints])); rw [seqK_nx])
  (rw [mSeq_k]; (conv => (arg 1; arg 1; simp only [ev, bind_ok, bind_err, get?, ret_ok, List.set_cons_zero, List.set_cons_succ, if_true, if_false, ite_true, ite_false, Bool.false_eq_true, Bool.not_true, Bool.not_false, Bool.and_true, Bool.true_and, Bool.and_false, Bool.false_and, decide_true, decide_false, not_true_eq_false, not_false_eq_true, fn])); rw [seqK_nx])
  have f15 : (mIfS (mOr (mTest (mOp dNe (mVar 15) (mVar 8))) (mOr (mTru (mCall1 dIsi (mCons (mVar 15) (mCons (mC (.ty "bool")) (mNil))))) (mAnd (mTest (mOp dNotN (mVar 15) (mC .non))) (mNot (mTru (mCall1 dIsi (mCons (mVar 15) (mCons (mC (.ty "int")) (mNil))))))))) (mRet (mC (.bl false))) (mNx)) [e0, some (.tok 0), some (ballsD ws vs wall), some (rowD ws vs wall), some (.lst ((pairsL ws.length wall).map .int)), some (.lst (qs.map .int)), some (.lst ((wordR ws vs qs).map rD)), some (rowD ws (wordR ws vs qs) wall), some (optN (firstNC ws vs qs 0)), y9, y10, y11, some (.lst (qs.map .int)), some V, some (rowD ws (wordR ws vs qs) wall), some (optN (firstNC ws vs qs 0)), none] s4 = .nx [e0, some (.tok 0), some (ballsD ws vs wall), some (rowD ws vs wall), some (.lst ((pairsL ws.length wall).map .int)), some (.lst (qs.map .int)), some (.lst ((wordR ws vs qs).map rD)), some (rowD ws (wordR ws vs qs) wall), some (optN (firstNC ws vs qs 0)), y9, y10, y11, some (.lst (qs.map .int)), some V, some (rowD ws (wordR ws vs qs) wall), some (optN (firstNC ws vs qs 0)), none] s4 := by
    cases bb with
    | false => simp only [ev, bind_ok, bind_err, get?, ret_ok, List.set_cons_zero, List.set_cons_succ, if_true, if_false, ite_true, ite_false, Bool.false_eq_true, Bool.not_true, Bool.not_false, Bool.and_true, Bool.true_and, Bool.and_false, Bool.false_and, decide_true, decide_false, not_true_eq_false, not_false_eq_true, ne_opt, isb_opt, n1]
    | true => simp only [ev, bind_ok, bind_err, get?, ret_ok, List.set_cons_zero, List.set_cons_succ, if_true, if_false, ite_true, ite_false, Bool.false_eq_true, Bool.not_true, Bool.not_false, Bool.and_true, Bool.true_and, Bool.and_false, Bool.false_and, decide_true, decide_false, not_true_eq_false, not_false_eq_true, ne_opt, isb_opt, n1, n2, n3 rfl]
  rw [mSeq_of f15]
  (rw [mSeq_k]; (conv => (arg 1; arg 1; simp only [ev, bind_ok, bind_err, get?, ret_ok, List.set_cons_zero, List.set_cons_succ, if_true, if_false, ite_true, ite_false, Bool.false_eq_true, Bool.not_true, Bool.not_false, Bool.and_true, Bool.true_and, Bool.and_false, Bool.false_and, decide_true, decide_false, not_true_eq_false, not_false_eq_true, cw])); rw [seqK_nx])
  (rw [mSeq_k]; (conv => (arg 1; arg 1; simp only [ev, bind_ok, bind_err, get?, ret_ok, List.set_cons_zero, List.set_cons_succ, if_true, if_false, ite_true, ite_false, Bool.false_eq_true, Bool.not_true, Bool.not_false, Bool.and_true, Bool.true_and, Bool.and_false, Bool.false_and, decide_true, decide_false, not_true_eq_false, not_false_eq_true, it, dTup_lst, dNe_ints, dl, dNe_intsL])); rw [seqK_nx])
  (rw [mSeq_k]; (conv => (arg 1; arg 1; simp only [ev, bind_ok, bind_err, get?, ret_ok, List.set_cons_zero, List.set_cons_succ, if_true, if_false, ite_true, ite_false, Bool.false_eq_true, Bool.not_true, Bool.not_false, Bool.and_true, Bool.true_and, Bool.and_false, Bool.false_and, decide_true, decide_false, not_true_eq_false, not_false_eq_true, ev7, aw2, bx1, ir2])); rw [seqK_nx])
  simp only [ev, bind_ok, bind_err, get?, ret_ok, List.set_cons_zero, List.set_cons_succ, if_true, if_false, ite_true, ite_false, Bool.false_eq_true, Bool.not_true, Bool.not_false, Bool.and_true, Bool.true_and, Bool.and_false, Bool.false_and, decide_true, decide_false, not_true_eq_false, not_false_eq_true, fin]
  exact .mk s5
end My

open PySem PySem.W PyProof.Rows
set_option maxHeartbeats 0 in
theorem PySem.Challenge.cw_untoldgaps_k09_whole_clashes_of_all_rows_holds : PySem.Challenge.rw_untoldgaps_k09_whole_clashes_of_all_rows.Holds :=
  hd (by
    k_fill
    refine DL.walk_ofC (l := PySem.Challenge.rw_untoldgaps_k09_whole_clashes_of_all_rows) (n := 63) (k := 11) (x := "_law_script") rfl (by decide) (by decide) rfl ⟨rfl, by decide, by decide⟩ (fun w h Y => PySem.W.kIn_of Y) ?F
    case F =>
      intro w mg la h KX G hmg
      refine' My.all_mk KX G hmg My.hH ?ca0 ?ca1 ?ca2 ?ca3 ?ca4 ?ca5 ?a0 ?l0 ?c0 ?k0 ?tI0 ?a1 ?l1 ?c1 ?k1 ?tI1 ?lc1 ?ld1 ?hv1 ?hf1 ?al1 ?ve1 ?mr1 ?oq ?tp ?a2 ?l2 ?c2 ?k2 ?tI2 ?lc2 ?ld2 ?hv2 ?hf2 ?al2 ?ve2 ?mr2 ?a3 ?l3 ?c3 ?k3 ?a4 ?l4 ?c4 ?k4 ?a5 ?l5 ?c5 ?k5 ?a6 ?l6 ?c6 ?k6 ?a7 ?l7 ?c7 ?k7 ?a8 ?l8 ?c8 ?k8 ?a9 ?l9 ?c9 ?k9 ?a10 ?l10 ?c10 ?k10 ?a11 ?l11 ?c11 ?k11 ?a12 ?l12 ?c12 ?k12 ?a13 ?l13 ?c13 ?k13 ?a14 ?l14 ?c14 ?k14 ?a15 ?l15 ?c15 ?k15 ?a16 ?l16 ?c16 ?k16 ?a17 ?l17 ?c17 ?k17 ?a18 ?l18 ?c18 ?k18 ?a19 ?l19 ?c19 ?k19 ?a20 ?l20 ?c20 ?k20 ?a21 ?l21 ?c21 ?k21 ?a22 ?l22 ?c22 ?k22 ?a23 ?l23 ?c23 ?k23 ?a24 ?l24 ?c24 ?k24 ?a25 ?l25 ?c25 ?k25 ?a26 ?l26 ?c26 ?k26 ?a27 ?l27 ?c27 ?k27 ?a28 ?l28 ?c28 ?k28 ?a29 ?l29 ?c29 ?k29 ?a30 ?l30 ?c30 ?k30 ?a31 ?l31 ?c31 ?k31 ?a32 ?l32 ?c32 ?k32 ?a33 ?l33 ?c33 ?k33 ?a34 ?l34 ?c34 ?k34 ?a35 ?l35 ?c35 ?k35 ?lT35 ?isf35 ?a36 ?l36 ?c36 ?k36 ?a37 ?l37 ?c37 ?k37 ?a38 ?l38 ?c38 ?k38 ?a39 ?l39 ?c39 ?k39 ?a40 ?l40 ?c40 ?k40 ?a41 ?l41 ?c41 ?k41 ?a42 ?l42 ?c42 ?k42 ?a43 ?l43 ?c43 ?k43 ?isf43 ?a44 ?l44 ?c44 ?k44 ?a45 ?l45 ?c45 ?k45 ?a46 ?l46 ?c46 ?k46 ?a47 ?l47 ?c47 ?k47 ?a48 ?l48 ?c48 ?k48 ?a49 ?l49 ?c49 ?k49 ?z_abs ?z_bool ?z_enumerate ?z_int ?z_isinstance ?z_len ?z_list ?z_max ?z_min ?z_range ?z_str ?z_super ?z_tuple ?z_zip ?i_gcd ?g_MOST_WORD ?g_MOST_BALLS ?g_MOST_WEIGHT ?cs0 ?ct0_ ?ck0 ?cd0_ ?cs1 ?ct1_ ?ck1 ?cd1_ ?cs2 ?ct2_ ?ck2 ?cd2_ ?cs3 ?ct3_ ?ck3 ?cd3_ ?cs4 ?ct4_ ?ck4 ?cd4_ ?cx1 ?xL2 ?xs2 ?xg2 ?xh2 ?xn2_0 ?xn2_1 ?xL3 ?xs3 ?xg3 ?xh3 ?xn3_0 ?xL4 ?xs4 ?xg4 ?xh4 ?xn4_0 ?xn4_1 ?s1_4 ?s2_4 ?s3_4 ?s4_4 ?s1_3 ?s2_3 ?s3_3 ?s4_3 ?xc4 ?xk4_0 ?xk4_3F ?xc3 ?xk3_4F ?xk3_0 ?wS ?wT ?wg5 ?wd5 ?wo5 ?wa5 ?wm5 ?wk5 ?wc5 ?wr5 ?wi5 ?wy5 ?wn5_0 ?wn5_1 ?wn5_2 ?wn5_3 ?wn5_4 ?wn5_5 ?wn5_6 ?wn5_7 ?wt5_NoneType ?wt5_bool ?wt5_int ?wt5_str ?wt5_tuple ?wt5_list ?wt5_5
      (case ca0 => k_is)
      (case ca1 => k_is)
      (case ca2 => k_is)
      (case ca3 => k_is)
      (case ca4 => k_is)
      (case ca5 => k_is)
      (case a0 => k_is)
      (case l0 => k_is)
      (case c0 => k_is)
      (case k0 => k_is)
      (case tI0 => k_is)
      (case a1 => k_is)
      (case l1 => k_is)
      (case c1 => k_is)
      (case k1 => k_is)
      (case tI1 => k_is)
      (case lc1 => k_is)
      (case ld1 => k_is)
      (case hv1 => rfl)
      (case hf1 => first | rfl | decide +kernel)
      (case al1 => ks_is)
      (case ve1 => k_is)
      (case mr1 => k_is)
      (case oq => k_is)
      (case tp => first | rfl | decide +kernel)
      (case a2 => k_is)
      (case l2 => k_is)
      (case c2 => k_is)
      (case k2 => k_is)
      (case tI2 => k_is)
      (case lc2 => k_is)
      (case ld2 => k_is)
      (case hv2 => rfl)
      (case hf2 => first | rfl | decide +kernel)
      (case al2 => ks_is)
      (case ve2 => k_is)
      (case mr2 => k_is)
      (case a3 => k_is)
      (case l3 => k_is)
      (case c3 => k_is)
      (case k3 => k_is)
      (case a4 => k_is)
      (case l4 => k_is)
      (case c4 => k_is)
      (case k4 => k_is)
      (case a5 => k_is)
      (case l5 => k_is)
      (case c5 => k_is)
      (case k5 => k_is)
      (case a6 => k_is)
      (case l6 => k_is)
      (case c6 => k_is)
      (case k6 => k_is)
      (case a7 => k_is)
      (case l7 => k_is)
      (case c7 => k_is)
      (case k7 => k_is)
      (case a8 => k_is)
      (case l8 => k_is)
      (case c8 => k_is)
      (case k8 => k_is)
      (case a9 => k_is)
      (case l9 => k_is)
      (case c9 => k_is)
      (case k9 => k_is)
      (case a10 => k_is)
      (case l10 => k_is)
      (case c10 => k_is)
      (case k10 => k_is)
      (case a11 => k_is)
      (case l11 => k_is)
      (case c11 => k_is)
      (case k11 => k_is)
      (case a12 => k_is)
      (case l12 => k_is)
      (case c12 => k_is)
      (case k12 => k_is)
      (case a13 => k_is)
      (case l13 => k_is)
      (case c13 => k_is)
      (case k13 => k_is)
      (case a14 => k_is)
      (case l14 => k_is)
      (case c14 => k_is)
      (case k14 => k_is)
      (case a15 => k_is)
      (case l15 => k_is)
      (case c15 => k_is)
      (case k15 => k_is)
      (case a16 => k_is)
      (case l16 => k_is)
      (case c16 => k_is)
      (case k16 => k_is)
      (case a17 => k_is)
      (case l17 => k_is)
      (case c17 => k_is)
      (case k17 => k_is)
      (case a18 => k_is)
      (case l18 => k_is)
      (case c18 => k_is)
      (case k18 => k_is)
      (case a19 => k_is)
      (case l19 => k_is)
      (case c19 => k_is)
      (case k19 => k_is)
      (case a20 => k_is)
      (case l20 => k_is)
      (case c20 => k_is)
      (case k20 => k_is)
      (case a21 => k_is)
      (case l21 => k_is)
      (case c21 => k_is)
      (case k21 => k_is)
      (case a22 => k_is)
      (case l22 => k_is)
      (case c22 => k_is)
      (case k22 => k_is)
      (case a23 => k_is)
      (case l23 => k_is)
      (case c23 => k_is)
      (case k23 => k_is)
      (case a24 => k_is)
      (case l24 => k_is)
      (case c24 => k_is)
      (case k24 => k_is)
      (case a25 => k_is)
      (case l25 => k_is)
      (case c25 => k_is)
      (case k25 => k_is)
      (case a26 => k_is)
      (case l26 => k_is)
      (case c26 => k_is)
      (case k26 => k_is)
      (case a27 => k_is)
      (case l27 => k_is)
      (case c27 => k_is)
      (case k27 => k_is)
      (case a28 => k_is)
      (case l28 => k_is)
      (case c28 => k_is)
      (case k28 => k_is)
      (case a29 => k_is)
      (case l29 => k_is)
      (case c29 => k_is)
      (case k29 => k_is)
      (case a30 => k_is)
      (case l30 => k_is)
      (case c30 => k_is)
      (case k30 => k_is)
      (case a31 => k_is)
      (case l31 => k_is)
      (case c31 => k_is)
      (case k31 => k_is)
      (case a32 => k_is)
      (case l32 => k_is)
      (case c32 => k_is)
      (case k32 => k_is)
      (case a33 => k_is)
      (case l33 => k_is)
      (case c33 => k_is)
      (case k33 => k_is)
      (case a34 => k_is)
      (case l34 => k_is)
      (case c34 => k_is)
      (case k34 => k_is)
      (case a35 => k_is)
      (case l35 => k_is)
      (case c35 => k_is)
      (case k35 => k_is)
      (case lT35 => k_is)
      (case isf35 => k_is)
      (case a36 => k_is)
      (case l36 => k_is)
      (case c36 => k_is)
      (case k36 => k_is)
      (case a37 => k_is)
      (case l37 => k_is)
      (case c37 => k_is)
      (case k37 => k_is)
      (case a38 => k_is)
      (case l38 => k_is)
      (case c38 => k_is)
      (case k38 => k_is)
      (case a39 => k_is)
      (case l39 => k_is)
      (case c39 => k_is)
      (case k39 => k_is)
      (case a40 => k_is)
      (case l40 => k_is)
      (case c40 => k_is)
      (case k40 => k_is)
      (case a41 => k_is)
      (case l41 => k_is)
      (case c41 => k_is)
      (case k41 => k_is)
      (case a42 => k_is)
      (case l42 => k_is)
      (case c42 => k_is)
      (case k42 => k_is)
      (case a43 => k_is)
      (case l43 => k_is)
      (case c43 => k_is)
      (case k43 => k_is)
      (case isf43 => k_is)
      (case a44 => k_is)
      (case l44 => k_is)
      (case c44 => k_is)
      (case k44 => k_is)
      (case a45 => k_is)
      (case l45 => k_is)
      (case c45 => k_is)
      (case k45 => k_is)
      (case a46 => k_is)
      (case l46 => k_is)
      (case c46 => k_is)
      (case k46 => k_is)
      (case a47 => k_is)
      (case l47 => k_is)
      (case c47 => k_is)
      (case k47 => k_is)
      (case a48 => k_is)
      (case l48 => k_is)
      (case c48 => k_is)
      (case k48 => k_is)
      (case a49 => k_is)
      (case l49 => k_is)
      (case c49 => k_is)
      (case k49 => k_is)
      (case z_abs => k_is)
      (case z_bool => k_is)
      (case z_enumerate => k_is)
      (case z_int => k_is)
      (case z_isinstance => k_is)
      (case z_len => k_is)
      (case z_list => k_is)
      (case z_max => k_is)
      (case z_min => k_is)
      (case z_range => k_is)
      (case z_str => k_is)
      (case z_super => k_is)
      (case z_tuple => k_is)
      (case z_zip => k_is)
      (case i_gcd => k_is)
      (case g_MOST_WORD => k_is)
      (case g_MOST_BALLS => k_is)
      (case g_MOST_WEIGHT => k_is)
      (case cs0 => k_is)
      (case ct0_ => k_is)
      (case ck0 => k_is)
      (case cd0_ => k_is)
      (case cs1 => k_is)
      (case ct1_ => k_is)
      (case ck1 => k_is)
      (case cd1_ => k_is)
      (case cs2 => k_is)
      (case ct2_ => k_is)
      (case ck2 => k_is)
      (case cd2_ => k_is)
      (case cs3 => k_is)
      (case ct3_ => k_is)
      (case ck3 => k_is)
      (case cd3_ => k_is)
      (case cs4 => k_is)
      (case ct4_ => k_is)
      (case ck4 => k_is)
      (case cd4_ => k_is)
      (case cx1 => k_exc)
      (case xL2 => k_is)
      (case xs2 => k_is)
      (case xg2 => k_is)
      (case xh2 => k_is)
      (case xn2_0 => k_is)
      (case xn2_1 => k_is)
      (case xL3 => k_is)
      (case xs3 => k_is)
      (case xg3 => k_is)
      (case xh3 => k_is)
      (case xn3_0 => k_is)
      (case xL4 => k_is)
      (case xs4 => k_is)
      (case xg4 => k_is)
      (case xh4 => k_is)
      (case xn4_0 => k_is)
      (case xn4_1 => k_is)
      (case s1_4 => k_is)
      (case s2_4 => k_is)
      (case s3_4 => k_is)
      (case s4_4 => k_is)
      (case s1_3 => k_is)
      (case s2_3 => k_is)
      (case s3_3 => k_is)
      (case s4_3 => k_is)
      (case xc4 => exact DL.excB_mk (by k_is) (by k_is) (by k_is) (by k_is) (by k_is) (by k_is) (by k_is) (by k_is))
      (case xk4_0 => exact DL.kitO_ref (by k_is) (by k_is) (by k_is))
      (case xk4_3F => exact DL.kitO_refF (by k_is) (by k_is) (by k_is) (by k_is))
      (case xc3 => exact DL.excB_mk (by k_is) (by k_is) (by k_is) (by k_is) (by k_is) (by k_is) (by k_is) (by k_is))
      (case xk3_4F => exact DL.kitO_refF (by k_is) (by k_is) (by k_is) (by k_is))
      (case xk3_0 => exact DL.kitO_ref (by k_is) (by k_is) (by k_is))
      (case wS => k_is)
      (case wT => k_is)
      (case wg5 => k_is)
      (case wd5 => k_is)
      (case wo5 => k_is)
      (case wa5 => k_is)
      (case wm5 => k_is)
      (case wk5 => k_is)
      (case wc5 => k_is)
      (case wr5 => k_is)
      (case wi5 => k_is)
      (case wy5 => k_is)
      (case wn5_0 => k_is)
      (case wn5_1 => k_is)
      (case wn5_2 => k_is)
      (case wn5_3 => k_is)
      (case wn5_4 => k_is)
      (case wn5_5 => k_is)
      (case wn5_6 => k_is)
      (case wn5_7 => k_is)
      (case wt5_NoneType => k_is)
      (case wt5_bool => k_is)
      (case wt5_int => k_is)
      (case wt5_str => k_is)
      (case wt5_tuple => k_is)
      (case wt5_list => k_is)
      (case wt5_5 => k_is))
