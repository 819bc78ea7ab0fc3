import PyProof.Rows.All
import HandS.ForMost
import HandS.ForExc
import HandS.Iter
import HandS.IsInst
import HandS.Gcd
import HandS.Wide
import HandS.ExcInit
import HandS.ExcField
import HandS.Small
import HandS.TupAny
import HandS.Deep
import HandS.Conv
import HandS.TupLe
import HandS.Style
import HandS.TupMul
import HandS.ExcIs
import PySem.Challenge.RW_untoldgaps_k01_ratios_added_and_divided
set_option Elab.async false
set_option linter.all false
set_option maxRecDepth 100000
set_option maxHeartbeats 4000000
set_option exponentiation.threshold 10000
/-! DL: a heap-free layer of our own over HandS. Values as data (D), a body as a function of the slots' data and of a few
cells that may change (St), one relation (DI) between this and HandS's slots and abstract heap. -/
namespace DL
open PySem PySem.Spec PyProof.Rows L2

/-- what a value is worth, whole -/
inductive D where
  | non | bl (b : Bool) | int (i : Int) | str (x : Str) | ty (n : String)
  | tup (xs : List D) | lst (xs : List D) | rol (xs : List D)
  | obj (c : Nat) (fs : List (Str × D)) | cls (c : Nat) | tok (n : Nat)

/-- what is fixed: the written part, the addresses of the text's own classes -/
structure Glb where
  K : PySem.W.Frag
  cl : Nat → Addr

/-- a tuple: tracked, or of the written part -/
def TupAt (K : PySem.W.Frag) (S : Hp) (a : Addr) (vs : List V) : Prop :=
  S a = some (.tup vs) ∨ ∃ (o : Obj) (its : Array Value) (n : Nat), K.lookup a = some o ∧ o.cls = .type "tuple" ∧ o.data = .seq its n ∧ its.size ≤ sizeLine ∧ Vals vs its.toList
theorem TupAt.sqT {K : PySem.W.Frag} {S : Hp} {a : Addr} {vs : List V} (h : TupAt K S a vs) : SqT K S a vs := h.elim (fun z => .inl (.inl z)) .inr
theorem TupAt.mono {K : PySem.W.Frag} {S S' : Hp} {a : Addr} {vs : List V} (e : Same S S') (h : TupAt K S a vs) : TupAt K S' a vs := h.imp (e _ _) fun z => z
mutual
inductive Rep (G : Glb) (ad : List Addr) (S : Hp) : V → D → Prop
  | non : Rep G ad S .non .non
  | bl (b : Bool) : Rep G ad S (.bl b) (.bl b)
  | int (i : Int) : Rep G ad S (.int i) (.int i)
  | str (x : Str) : Rep G ad S (.str x) (.str x)
  | ty (n : String) : Rep G ad S (.ty n) (.ty n)
  | tup {a : Addr} {vs : List V} {ds : List D} : TupAt G.K S a vs → Reps G ad S vs ds → Rep G ad S (.ref a) (.tup ds)
  | lst {a : Addr} {vs : List V} {ds : List D} : S a = some (.lst vs) → Reps G ad S vs ds → Rep G ad S (.ref a) (.lst ds)
  | rol {a : Addr} {vs : List V} {ds : List D} : SqL G.K S a vs → Reps G ad S vs ds → Rep G ad S (.ref a) (.rol ds)
  | obj {a dx : Addr} {c : Nat} {vs : List (Str × V)} {fs : List (Str × D)} : S a = some (.ins (G.cl c) dx vs) → RepF G ad S vs fs → Rep G ad S (.ref a) (.obj c fs)
  | cls (c : Nat) : Rep G ad S (.ref (G.cl c)) (.cls c)
  | tok {a : Addr} {n : Nat} : ad[n]? = some a → Rep G ad S (.ref a) (.tok n)
inductive Reps (G : Glb) (ad : List Addr) (S : Hp) : List V → List D → Prop
  | nil : Reps G ad S [] []
  | cons {v : V} {d : D} {vs : List V} {ds : List D} : Rep G ad S v d → Reps G ad S vs ds → Reps G ad S (v :: vs) (d :: ds)
inductive RepF (G : Glb) (ad : List Addr) (S : Hp) : List (Str × V) → List (Str × D) → Prop
  | nil : RepF G ad S [] []
  | cons {f : Str} {v : V} {d : D} {vs : List (Str × V)} {ds : List (Str × D)} : Rep G ad S v d → RepF G ad S vs ds → RepF G ad S ((f, v) :: vs) ((f, d) :: ds)
end

theorem Same.sqT {K : PySem.W.Frag} {H H' : Hp} {a : Addr} {xs : List V} (e : Same H H') (h : SqT K H a xs) : SqT K H' a xs := by
  rcases h with (h | ⟨o, h⟩) | h
  · exact .inl (.inl (e _ _ h))
  · exact .inl (.inr ⟨o, e _ _ h⟩)
  · exact .inr h

section
variable {G : Glb} {ad : List Addr} {S S' : Hp}
mutual
theorem Rep.mono (e : Same S S') : ∀ {v : V} {d : D}, Rep G ad S v d → Rep G ad S' v d
  | _, _, .non => .non
  | _, _, .bl b => .bl b
  | _, _, .int i => .int i
  | _, _, .str x => .str x
  | _, _, .ty n => .ty n
  | _, _, .tup h r => .tup (TupAt.mono e h) (Reps.mono e r)
  | _, _, .lst h r => .lst (e _ _ h) (Reps.mono e r)
  | _, _, .rol h r => .rol (e.seq h) (Reps.mono e r)
  | _, _, .obj h r => .obj (e _ _ h) (RepF.mono e r)
  | _, _, .cls c => .cls c
  | _, _, .tok h => .tok h
theorem Reps.mono (e : Same S S') : ∀ {vs : List V} {ds : List D}, Reps G ad S vs ds → Reps G ad S' vs ds
  | _, _, .nil => .nil
  | _, _, .cons h r => .cons (Rep.mono e h) (Reps.mono e r)
theorem RepF.mono (e : Same S S') : ∀ {vs : List (Str × V)} {ds : List (Str × D)}, RepF G ad S vs ds → RepF G ad S' vs ds
  | _, _, .nil => .nil
  | _, _, .cons h r => .cons (Rep.mono e h) (RepF.mono e r)
end
theorem Reps.len : ∀ {vs : List V} {ds : List D}, Reps G ad S vs ds → vs.length = ds.length
  | _, _, .nil => rfl
  | _, _, .cons _ r => congrArg (· + 1) (Reps.len r)
theorem Reps.get : ∀ {vs : List V} {ds : List D} {i : Nat} {d : D}, Reps G ad S vs ds → ds[i]? = some d → ∃ v, vs[i]? = some v ∧ Rep G ad S v d
  | _, _, 0, _, .cons h _, e => ⟨_, rfl, by cases e; exact h⟩
  | _, _, i + 1, _, .cons _ r, e => Reps.get (i := i) r e
theorem Reps.getV : ∀ {vs : List V} {ds : List D} {i : Nat} {v : V}, Reps G ad S vs ds → vs[i]? = some v → ∃ d, ds[i]? = some d ∧ Rep G ad S v d
  | _, _, 0, _, .cons h _, e => ⟨_, rfl, by cases e; exact h⟩
  | _, _, i + 1, _, .cons _ r, e => Reps.getV (i := i) r e
theorem Reps.append : ∀ {vs : List V} {ds : List D} {ws : List V} {es : List D}, Reps G ad S vs ds → Reps G ad S ws es → Reps G ad S (vs ++ ws) (ds ++ es)
  | _, _, _, _, .nil, s => s
  | _, _, _, _, .cons h r, s => .cons h (Reps.append r s)
theorem Reps.set : ∀ {vs : List V} {ds : List D} {v : V} {d : D} (i : Nat), Reps G ad S vs ds → Rep G ad S v d → Reps G ad S (vs.set i v) (ds.set i d)
  | _, _, _, _, _, .nil, _ => .nil
  | _, _, _, _, 0, .cons _ r, h => .cons h r
  | _, _, _, _, i + 1, .cons h r, k => .cons h (Reps.set i r k)
theorem Reps.take : ∀ {vs : List V} {ds : List D} (n : Nat), Reps G ad S vs ds → Reps G ad S (vs.take n) (ds.take n)
  | _, _, 0, _ => .nil
  | _, _, _ + 1, .nil => .nil
  | _, _, n + 1, .cons h r => .cons h (Reps.take n r)
theorem Reps.drop : ∀ {vs : List V} {ds : List D} (n : Nat), Reps G ad S vs ds → Reps G ad S (vs.drop n) (ds.drop n)
  | _, _, 0, r => r
  | _, _, _ + 1, .nil => .nil
  | _, _, n + 1, .cons _ r => Reps.drop n r
theorem RepF.look : ∀ {vs : List (Str × V)} {ds : List (Str × D)} {f : Str} {d : D}, RepF G ad S vs ds → ds.lookup f = some d → ∃ v, vs.lookup f = some v ∧ Rep G ad S v d
  | _, _, f, d, .cons (f := g) (v := v) (d := d') h r, e => by
    rw [List.lookup_cons] at e ⊢
    split at e
    · cases e; exact ⟨_, rfl, h⟩
    · exact RepF.look r e
theorem RepF.none : ∀ {vs : List (Str × V)} {ds : List (Str × D)} {f : Str}, RepF G ad S vs ds → ds.lookup f = Option.none → vs.lookup f = Option.none
  | _, _, f, .nil, e => rfl
  | _, _, f, .cons (f := g) (v := v) (d := d') h r, e => by
    rw [List.lookup_cons] at e ⊢
    split at e
    · cases e
    · exact RepF.none r e
end

/-! ### what runs: data, the cells, the errors -/
structure Ex where
  c : Nat
  fs : Option (List (Str × D))
inductive Res (α : Type) where
  | ok (a : α) (st : List D)
  | err (x : Ex) (st : List D)
  | bad
abbrev M (α : Type) := List D → Res α
def Res.bind {α β : Type} (r : Res α) (f : α → M β) : Res β := match r with
  | .ok a st => f a st
  | .err x st => .err x st
  | .bad => .bad
abbrev Env' := List (Option D)
/-- an expression, an argument list, a test -/
abbrev ME := Env' → M D
abbrev MA := Env' → M (List D)
abbrev MT := Env' → M Bool
inductive Fl0 where
  | nx (e : Env') | rt (d : D) | bk (e : Env') | ct (e : Env')


def RepX (G : Glb) (ad : List Addr) (S : Hp) (cls : Value) (d : Option Addr) (x : Ex) : Prop :=
  cls = .ref (G.cl x.c) ∧ match x.fs with
    | none => d = none
    | some fs => ∃ a vs, d = some a ∧ S a = some (.xd vs) ∧ RepF G ad S vs fs
theorem RepX.mono {G : Glb} {ad : List Addr} {S S' : Hp} {cls : Value} {d : Option Addr} {x : Ex} (e : Same S S') (h : RepX G ad S cls d x) : RepX G ad S' cls d x := by
  obtain ⟨c, fs⟩ := x
  cases fs with
  | none => exact h
  | some fs =>
    obtain ⟨h1, a, vs, h2, h3, h4⟩ := h
    exact ⟨h1, a, vs, h2, e _ _ h3, h4.mono e⟩

/-- the cells that may change: each a list -/
structure StoOk (G : Glb) (ad : List Addr) (S : Hp) (st : List D) (H : Hp) : Prop where
  len : ad.length = st.length
  nd : ad.Nodup
  at_ : ∀ (n : Nat) (a : Addr), ad[n]? = some a → S a = none ∧ ∃ (ds : List D) (vs : List V), st[n]? = some (D.lst ds) ∧ H a = some (HO.lst vs) ∧ Reps G ad S vs ds
theorem StoOk.has {G : Glb} {ad : List Addr} {S : Hp} {st : List D} {H : Hp} (s : StoOk G ad S st H) {a : Addr} (h : a ∈ ad) : S a = none ∧ ∃ vs : List V, H a = some (HO.lst vs) := by
  obtain ⟨n, hn, e⟩ := List.mem_iff_getElem.mp h
  obtain ⟨h1, ds, vs, _, h2, _⟩ := s.at_ n a (by rw [List.getElem?_eq_getElem hn, e])
  exact ⟨h1, vs, h2⟩

/-- from one heap to the next: the still part grows by new objects alone, all but the cells is as it was -/
structure Ext (ad : List Addr) (S H S' H' : Hp) : Prop where
  same : Same S S'
  new : ∀ a o, S' a = some o → S a = some o ∨ H a = none
  keep : ∀ a o, H a = some o → a ∉ ad → H' a = some o
theorem Ext.refl (ad : List Addr) (S H : Hp) : Ext ad S H S H := ⟨Same.refl _, fun _ _ h => .inl h, fun _ _ h _ => h⟩
theorem Ext.trans {G : Glb} {ad : List Addr} {S H S1 H1 S2 H2 : Hp} {st : List D} (a : Ext ad S H S1 H1) (s : StoOk G ad S1 st H1) (b : Ext ad S1 H1 S2 H2) : Ext ad S H S2 H2 := by
  refine ⟨a.same.trans b.same, fun c o h => ?_, fun c o h hc => b.keep c o (a.keep c o h hc) hc⟩
  rcases b.new c o h with h1 | h1
  · exact a.new c o h1
  · by_cases hc : c ∈ ad
    · obtain ⟨_, vs, hv⟩ := s.has hc
      rw [h1] at hv; cases hv
    · cases e : H c with
      | none => exact .inr rfl
      | some u =>
        have := a.keep c u e hc
        rw [h1] at this; cases this

/-- an activation: the still part and the heap at its entry, the cells -/
structure Act where
  S : Hp
  H : Hp
  ad : List Addr

/-- a caught error as an object: without fields of its own, with such (behind a mark) -/
def exObj (x : Ex) : D := match x.fs with
  | none => .obj x.c []
  | some fs => .obj x.c (("", .non) :: fs)
/-- the slots that own a list; the slot of a caught error, the error's object, its class, its dict -/
structure Ow where
  own : List Nat := []
  exi : Option Nat := none
  exv : Addr × Value × Option Addr := (0, .none, none)
def Ow.has (O : Ow) (i : Nat) : Bool := O.own.elem i || O.exi == some i

structure DI (G : Glb) (b : Act) (O : Ow) (S : Hp) (env : Env') (st : List D) (σ : L2.St) (H : Hp) : Prop where
  len : σ.length = env.length
  sub : Same S H
  s0 : Same b.S S
  new : ∀ a o, S a = some o → b.S a = some o ∨ b.H a = none
  keep : ∀ a o, b.H a = some o → a ∉ b.ad → H a = some o
  slot : ∀ (i : Nat) (d : D), env[i]? = some (some d) → O.has i = false → ∃ v, σ[i]? = some (some v) ∧ Rep G b.ad S v d
  own : ∀ (i : Nat) (d : D), i ∈ O.own → env[i]? = some (some d) → ∃ (a : Addr) (vs : List V) (ds : List D), d = D.lst ds ∧ σ[i]? = some (some (V.ref a)) ∧ H a = some (HO.lst vs) ∧ S a = none ∧ b.H a = none ∧ a ∉ b.ad ∧ Reps G b.ad S vs ds
  dist : ∀ (i j : Nat) (a : Addr), i ∈ O.own → j ∈ O.own → (∃ d : D, env[i]? = some (some d)) → (∃ d : D, env[j]? = some (some d)) → σ[i]? = some (some (V.ref a)) → σ[j]? = some (some (V.ref a)) → i = j
  sto : StoOk G b.ad S st H
  exc : ∀ (i : Nat) (d : D), O.exi = some i → env[i]? = some (some d) → ∃ x, d = exObj x ∧ σ[i]? = some (some (V.ref O.exv.1)) ∧ RepX G b.ad S O.exv.2.1 O.exv.2.2 x

/-- behind an expression: the frame as it was -/
theorem DI.ext {G : Glb} {b : Act} {O : Ow} {S : Hp} {env : Env'} {st st' : List D} {σ : L2.St} {H S' H' : Hp} (I : DI G b O S env st σ H) (x : Ext b.ad S H S' H') (su : Same S' H') (s : StoOk G b.ad S' st' H') : DI G b O S' env st' σ H' := by
  have hn : ∀ a o, S' a = some o → S a = some o ∨ (b.H a = none ∧ H a = none) := fun a o h => by
    rcases x.new a o h with h1 | h1
    · exact .inl h1
    · refine .inr ⟨?_, h1⟩
      cases e : b.H a with
      | none => rfl
      | some u =>
        by_cases ha : a ∈ b.ad
        · obtain ⟨_, vs, hv⟩ := I.sto.has ha
          rw [h1] at hv; cases hv
        · have := I.keep a u e ha
          rw [h1] at this; cases this
  have nad : ∀ a, S a = none → (∃ vs : List V, H a = some (HO.lst vs)) → S' a = none := fun a h1 ⟨vs, h2⟩ => by
    cases e : S' a with
    | none => rfl
    | some o =>
      rcases hn a o e with q | ⟨_, q⟩
      · rw [h1] at q; cases q
      · rw [h2] at q; cases q
  refine ⟨I.len, su, I.s0.trans x.same, fun a o h => ?_, fun a o h ha => x.keep a o (I.keep a o h ha) ha, fun i d h ho => ?_, fun i d hi h => ?_, I.dist, s, fun i d hi h => ?_⟩
  · rcases hn a o h with q | ⟨q, _⟩
    · exact I.new a o q
    · exact .inr q
  · obtain ⟨v, h1, h2⟩ := I.slot i d h ho
    exact ⟨v, h1, h2.mono x.same⟩
  · obtain ⟨a, vs, ds, h1, h2, h3, h4, h5, ha, h6⟩ := I.own i d hi h
    exact ⟨a, vs, ds, h1, h2, x.keep a _ h3 ha, nad a h4 ⟨vs, h3⟩, h5, ha, h6.mono x.same⟩
  · obtain ⟨y, h1, h2, h3⟩ := I.exc i d hi h
    exact ⟨y, h1, h2, h3.mono x.same⟩

/-! ### what is wanted behind a part -/
def wpR {α : Type} (r : Res α) (ok : α → List D → Prop) (err : Ex → List D → Prop) : Prop := match r with
  | .ok a st => ok a st
  | .err x st => err x st
  | .bad => False
theorem wpR_bind {α β : Type} {r : Res α} {f : α → M β} {ok : β → List D → Prop} {err : Ex → List D → Prop} (h : wpR (r.bind f) ok err) : wpR r (fun a st => wpR (f a st) ok err) err := by
  cases r <;> exact h
theorem wpR_imp {α : Type} {r : Res α} {ok ok' : α → List D → Prop} {err err' : Ex → List D → Prop} (h : wpR r ok err) (h1 : ∀ a st, ok a st → ok' a st) (h2 : ∀ x st, err x st → err' x st) : wpR r ok' err' := by
  cases r with
  | ok a st => exact h1 _ _ h
  | err x st => exact h2 _ _ h
  | bad => exact h

def Post (G : Glb) (ad : List Addr) (S H : Hp) (d : D) (st : List D) (Q : VK) : Prop := ∀ v S' H', Ext ad S H S' H' → Same S' H' → StoOk G ad S' st H' → Rep G ad S' v d → Q v H'
def PostA (G : Glb) (ad : List Addr) (S H : Hp) (ds : List D) (st : List D) (Q : List V → Hp → Prop) : Prop := ∀ vs S' H', Ext ad S H S' H' → Same S' H' → StoOk G ad S' st H' → Reps G ad S' vs ds → Q vs H'
def PostB (G : Glb) (ad : List Addr) (S H : Hp) (k : Bool) (st : List D) (Q : Bool → Hp → Prop) : Prop := ∀ S' H', Ext ad S H S' H' → Same S' H' → StoOk G ad S' st H' → Q k H'
def PostX (G : Glb) (ad : List Addr) (S H : Hp) (x : Ex) (st : List D) (R : Value → Option Addr → Hp → Prop) : Prop := ∀ cls dd S' H', Ext ad S H S' H' → Same S' H' → StoOk G ad S' st H' → RepX G ad S' cls dd x → R cls dd H'
section
variable {G : Glb} {ad : List Addr} {S H S1 H1 : Hp} {st st1 : List D}
theorem Post.from_ {d : D} {Q : VK} (x : Ext ad S H S1 H1) (s : StoOk G ad S1 st1 H1) (h : Post G ad S H d st Q) : Post G ad S1 H1 d st Q := fun v S' H' x' => h v S' H' (x.trans s x')
theorem PostA.from_ {ds : List D} {Q : List V → Hp → Prop} (x : Ext ad S H S1 H1) (s : StoOk G ad S1 st1 H1) (h : PostA G ad S H ds st Q) : PostA G ad S1 H1 ds st Q := fun v S' H' x' => h v S' H' (x.trans s x')
theorem PostB.from_ {k : Bool} {Q : Bool → Hp → Prop} (x : Ext ad S H S1 H1) (s : StoOk G ad S1 st1 H1) (h : PostB G ad S H k st Q) : PostB G ad S1 H1 k st Q := fun S' H' x' => h S' H' (x.trans s x')
theorem PostX.from_ {e : Ex} {R : Value → Option Addr → Hp → Prop} (x : Ext ad S H S1 H1) (s : StoOk G ad S1 st1 H1) (h : PostX G ad S H e st R) : PostX G ad S1 H1 e st R := fun c dd S' H' x' => h c dd S' H' (x.trans s x')
end

/-! ### judgements -/
structure DE (G : Glb) (X : Cx) (W : WX) (O : Ow) (e : Expr) (m : ME) : Prop where
  ex : ∃ t, PE X e t ∧ ∀ (b : Act) S env st σ H Q, DI G b O S env st σ H → wpR (m env st) (fun d st' => Post G b.ad S H d st' Q) (fun x st' => PostX G b.ad S H x st' fun c dd H' => W c dd σ H') → t σ H Q
structure DT (G : Glb) (X : Cx) (W : WX) (O : Ow) (e : Expr) (m : MT) : Prop where
  ex : ∃ t, PT X e t ∧ ∀ (b : Act) S env st σ H Q, DI G b O S env st σ H → wpR (m env st) (fun k st' => PostB G b.ad S H k st' Q) (fun x st' => PostX G b.ad S H x st' fun c dd H' => W c dd σ H') → t σ H Q
structure DW (G : Glb) (X : Cx) (W : WX) (O : Ow) (e : Expr) (m : MT) : Prop where
  ex : ∃ t, PW X e t ∧ ∀ (b : Act) S env st σ H Q, DI G b O S env st σ H → wpR (m env st) (fun k st' => PostB G b.ad S H k st' Q) (fun x st' => PostX G b.ad S H x st' fun c dd H' => W c dd σ H') → t σ H Q
structure DA (G : Glb) (X : Cx) (W : WX) (O : Ow) (es : List Expr) (m : MA) : Prop where
  ex : ∃ t, PA X es t ∧ ∀ (b : Act) S env st σ H Q, DI G b O S env st σ H → wpR (m env st) (fun ds st' => PostA G b.ad S H ds st' Q) (fun x st' => PostX G b.ad S H x st' fun c dd H' => W c dd σ H') → t σ H Q

/-- how a block ends -/
inductive Out where
  | nx (env : Env') (st : List D)
  | rt (d : D) (st : List D)
  | bk (env : Env') (st : List D)
  | ct (env : Env') (st : List D)
  | er (x : Ex) (env : Env') (st : List D)
  | bad
abbrev MS := Env' → List D → Out
/-- Ob: what is owned where the loop is left or turned; OE: what may be owned where an error flies -/
def PostS (G : Glb) (b : Act) (Ob : Ow) (OE : Ow → Prop) (W : WX) (O : Ow) (D : Ends) (S : Hp) : Out → Prop
  | .nx env st => ∀ S' σ H, Same S S' → DI G b O S' env st σ H → D.nx σ H
  | .rt d st => ∀ v S' H, Ext b.ad b.S b.H S' H → Same S' H → StoOk G b.ad S' st H → Rep G b.ad S' v d → D.rt v H
  | .bk env st => ∀ S' σ H, Same S S' → DI G b Ob S' env st σ H → D.bk σ H
  | .ct env st => ∀ S' σ H, Same S S' → DI G b Ob S' env st σ H → D.ct σ H
  | .er x env st => ∀ cls dd O' S' σ H, OE O' → Same S S' → DI G b O' S' env st σ H → RepX G b.ad S' cls dd x → W cls dd σ H
  | .bad => False
theorem PostS.from_ {G : Glb} {b : Act} {Ob : Ow} {OE : Ow → Prop} {W : WX} {O : Ow} {D : Ends} {S S1 : Hp} {o : Out} (e : Same S S1) (h : PostS G b Ob OE W O D S o) : PostS G b Ob OE W O D S1 o := by
  cases o with
  | nx env st => exact fun S' σ H x => h S' σ H (e.trans x)
  | rt d st => exact h
  | bk env st => exact fun S' σ H x => h S' σ H (e.trans x)
  | ct env st => exact fun S' σ H x => h S' σ H (e.trans x)
  | er x env st => exact fun cls dd O' S' σ H q x => h cls dd O' S' σ H q (e.trans x)
  | bad => exact h
structure DS (G : Glb) (X : Cx) (W : WX) (Ob : Ow) (OE : Ow → Prop) (O : Ow) (s : Stmt) (O' : Ow) (m : MS) : Prop where
  ex : ∃ t, PS X s t ∧ ∀ (b : Act) S env st σ H D, DI G b O S env st σ H → PostS G b Ob OE W O' D S (m env st) → t D σ H
structure DSs (G : Glb) (X : Cx) (W : WX) (Ob : Ow) (OE : Ow → Prop) (O : Ow) (s : List Stmt) (O' : Ow) (m : MS) : Prop where
  ex : ∃ t, PSs X s t ∧ ∀ (b : Act) S env st σ H D, DI G b O S env st σ H → PostS G b Ob OE W O' D S (m env st) → t D σ H

/-- what an activation has made so far -/
theorem DI.fin {G : Glb} {b : Act} {O : Ow} {S : Hp} {env : Env'} {st : List D} {σ : L2.St} {H : Hp} (I : DI G b O S env st σ H) : Ext b.ad b.S b.H S H := ⟨I.s0, I.new, I.keep⟩
/-- where an activation begins -/
theorem DI.start {G : Glb} {b : Act} {n : Nat} {vs : List V} {ds : List D} {st : List D} (hs : Same b.S b.H) (so : StoOk G b.ad b.S st b.H) (r : Reps G b.ad b.S vs ds) :
    DI G b {} b.S (ds.map some ++ List.replicate n none) st (vs.map some ++ List.replicate n none) b.H := by
  refine ⟨by simp [r.len], hs, Same.refl _, fun _ _ h => .inl h, fun _ _ h _ => h, fun i d h _ => ?_, fun i d hi => by simp at hi, fun i j a hi => by simp at hi, so, fun i d hi => by cases hi⟩
  by_cases hi : i < ds.length
  · rw [List.getElem?_append_left (by simpa using hi), List.getElem?_map] at h
    cases e : ds[i]? with
    | none => rw [e] at h; cases h
    | some d' =>
      rw [e] at h
      have e2 : d' = d := by simpa using h
      subst e2
      obtain ⟨v, h1, h2⟩ := r.get e
      refine ⟨v, ?_, h2⟩
      rw [List.getElem?_append_left (by simpa [r.len] using hi), List.getElem?_map, h1]
      rfl
  · rw [List.getElem?_append_right (by simpa using Nat.le_of_not_lt hi)] at h
    rw [List.getElem?_replicate] at h
    split at h <;> cases h
end DL

/-! DL, second part: expressions. -/
namespace DL
open PySem PySem.Spec PyProof.Rows L2

section
variable {G : Glb} {ad : List Addr} {S H : Hp} {st : List D}
/-- a new object, still from now on -/
theorem new_still {p : Addr} {o : HO} (su : Same S H) (so : StoOk G ad S st H) (hp : H p = none) :
    Ext ad S H (upd S p o) (upd H p o) ∧ Same (upd S p o) (upd H p o) ∧ StoOk G ad (upd S p o) st (upd H p o) := by
  have hs : S p = none := su.free hp
  have e : Same S (upd S p o) := fun b u h => by
    rw [upd_ne (ne_of_none h hs)]; exact h
  refine ⟨⟨e, fun b u h => ?_, fun b u h _ => ?_⟩, fun b u h => ?_, so.len, so.nd, fun n a hn => ?_⟩
  · by_cases hb : b = p
    · subst hb; exact .inr hp
    · rw [upd_ne hb] at h; exact .inl h
  · rw [upd_ne (ne_of_none h hp)]; exact h
  · by_cases hb : b = p
    · subst hb; rw [upd_same] at h ⊢; exact h
    · rw [upd_ne hb] at h ⊢; exact su _ _ h
  · obtain ⟨h1, ds, vs, h2, h3, h4⟩ := so.at_ n a hn
    have ne : a ≠ p := ne_of_none h3 hp
    exact ⟨by rw [upd_ne ne]; exact h1, ds, vs, h2, by rw [upd_ne ne]; exact h3, h4.mono e⟩
theorem Post.here {v : V} {d : D} {Q : VK} (su : Same S H) (so : StoOk G ad S st H) (r : Rep G ad S v d) (h : Post G ad S H d st Q) : Q v H := h v S H (.refl _ _ _) su so r
theorem Post.new {p : Addr} {o : HO} {d : D} {Q : VK} (su : Same S H) (so : StoOk G ad S st H) (hp : H p = none) (r : Rep G ad (upd S p o) (.ref p) d) (h : Post G ad S H d st Q) : Q (.ref p) (upd H p o) := by
  obtain ⟨x, y, z⟩ := new_still (o := o) su so hp
  exact h _ _ _ x y z r
theorem Rep.tupNew {p : Addr} {vs : List V} {ds : List D} (su : Same S H) (hp : H p = none) (r : Reps G ad S vs ds) : Rep G ad (upd S p (.tup vs)) (.ref p) (.tup ds) :=
  .tup (.inl upd_same) (r.mono fun b u h => by rw [upd_ne (ne_of_none h (su.free hp))]; exact h)
theorem Rep.lstNew {p : Addr} {vs : List V} {ds : List D} (su : Same S H) (hp : H p = none) (r : Reps G ad S vs ds) : Rep G ad (upd S p (.lst vs)) (.ref p) (.lst ds) :=
  .lst upd_same (r.mono fun b u h => by rw [upd_ne (ne_of_none h (su.free hp))]; exact h)
theorem Post.tup {p : Addr} {vs : List V} {ds : List D} {Q : VK} (su : Same S H) (so : StoOk G ad S st H) (hp : H p = none) (r : Reps G ad S vs ds) (h : Post G ad S H (.tup ds) st Q) : Q (.ref p) (upd H p (.tup vs)) := h.new su so hp (.tupNew su hp r)
theorem Post.lst {p : Addr} {vs : List V} {ds : List D} {Q : VK} (su : Same S H) (so : StoOk G ad S st H) (hp : H p = none) (r : Reps G ad S vs ds) (h : Post G ad S H (.lst ds) st Q) : Q (.ref p) (upd H p (.lst vs)) := h.new su so hp (.lstNew su hp r)
end

/-! ### operators by data -/
structure OpD (G : Glb) (r : R2) (f : D → D → Option D) : Prop where
  go : ∀ ad S H st x y dx dy d Q, Same S H → StoOk G ad S st H → Rep G ad S x dx → Rep G ad S y dy → f dx dy = some d → Post G ad S H d st Q → r x y H Q
structure UnD (G : Glb) (r : V → Hp → VK → Prop) (f : D → Option D) : Prop where
  go : ∀ ad S H st x dx d Q, Same S H → StoOk G ad S st H → Rep G ad S x dx → f dx = some d → Post G ad S H d st Q → r x H Q
structure CallD (G : Glb) (r : List V → Hp → VK → Prop) (f : List D → Option D) : Prop where
  go : ∀ ad S H st xs ds d Q, Same S H → StoOk G ad S st H → Reps G ad S xs ds → f ds = some d → Post G ad S H d st Q → r xs H Q

def ret? (o : Option D) : M D := fun st => match o with
  | some d => .ok d st
  | none => .bad
def mVar (i : Nat) : ME := fun env st => match env[i]? with
  | some (some d) => .ok d st
  | _ => .bad
def mC (d : D) : ME := fun _ st => .ok d st
def mOp (f : D → D → Option D) (ma mb : ME) : ME := fun env st => (ma env st).bind fun x st1 => (mb env st1).bind fun y => ret? (f x y)
def mUn (f : D → Option D) (ma : ME) : ME := fun env st => (ma env st).bind fun x => ret? (f x)
def mNil : MA := fun _ st => .ok [] st
def mCons (ma : ME) (mr : MA) : MA := fun env st => (ma env st).bind fun x st1 => (mr env st1).bind fun xs st2 => .ok (x :: xs) st2
def mCall1 (f : List D → Option D) (ma : MA) : ME := fun env st => (ma env st).bind fun xs => ret? (f xs)
/-- a value that is a truth -/
def bool? : D → M Bool
  | .bl b => fun st => .ok b st
  | _ => fun _ => .bad
def mTest (ma : ME) : MT := fun env st => (ma env st).bind bool?
def mNot (t : MT) : MT := fun env st => (t env st).bind fun k st1 => .ok (!k) st1
def mAnd (t u : MT) : MT := fun env st => (t env st).bind fun k st1 => if k = true then u env st1 else .ok false st1
def mOr (t u : MT) : MT := fun env st => (t env st).bind fun k st1 => if k = true then .ok true st1 else u env st1
def mNotV (ma : ME) : ME := fun env st => (ma env st).bind fun x st1 => (bool? x st1).bind fun k st2 => .ok (.bl (!k)) st2
def mAndV (ma mb : ME) : ME := fun env st => (ma env st).bind fun x st1 => (bool? x st1).bind fun k st2 => if k = true then mb env st2 else .ok (.bl false) st2
def mOrV (ma mb : ME) : ME := fun env st => (ma env st).bind fun x st1 => (bool? x st1).bind fun k st2 => if k = true then .ok (.bl true) st2 else mb env st2
def mIf (t : MT) (ma mb : ME) : ME := fun env st => (t env st).bind fun k st1 => if k = true then ma env st1 else mb env st1
def tupOk (ds : List D) : M D := fun st => if ds.length ≤ sizeLine then .ok (.tup ds) st else .bad
def lstOk (ds : List D) : M D := fun st => if ds.length ≤ sizeLine then .ok (.lst ds) st else .bad
def mTup (ma : MA) : ME := fun env st => (ma env st).bind tupOk
def mLst (ma : MA) : ME := fun env st => (ma env st).bind lstOk

section
variable {G : Glb} {X : Cx} {W : WX} {O : Ow} {pos : Pos}
theorem de_var (i : Nat) {x : Str} (hN : X.N[i]? = some x := by rfl) (ho : O.has i = false := by rfl) (hv : Vis X.env.scope x := by first | exact Or.inl rfl | exact Or.inr (Or.inl rfl) | exact Or.inr (Or.inr rfl))
    (hd : (x == ("__debug__" : Str)) = false := by decide) (hcd : (x == ("__classdict__" : Str)) = false := by decide) : DE G X W O (.Name x pos) (mVar i) := by
  refine ⟨tVar i, pe_var hN hv hd hcd, fun b S env st σ H Q I h => ?_⟩
  unfold mVar at h
  split at h
  · rename_i d e
    obtain ⟨v, h1, h2⟩ := I.slot i d e ho
    exact ⟨v, h1, Post.here I.sub I.sto h2 h⟩
  · exact h.elim
theorem de_const {e : Expr} {v : V} {d : D} (h : PE X e (tC v)) (r : ∀ ad S, Rep G ad S v d) : DE G X W O e (mC d) :=
  ⟨_, h, fun b S env st σ H Q I q => Post.here I.sub I.sto (r _ _) q⟩
theorem de_int {i : Int} {j} : DE G X W O (.Constant (.int i) j pos) (mC (.int i)) := de_const pe_int fun _ _ => .int i
theorem de_bl {b : Bool} {j} : DE G X W O (.Constant (.bool b) j pos) (mC (.bl b)) := de_const pe_bl fun _ _ => .bl b
theorem de_non {j} : DE G X W O (.Constant .none j pos) (mC .non) := de_const pe_non fun _ _ => .non
theorem de_str {x : Str} {j} : DE G X W O (.Constant (.str x) j pos) (mC (.str x)) := de_const pe_str fun _ _ => .str x
/-- a module's constant, an int or a text -/
theorem de_globI {x : Str} {i : Int} {t : Tok} (hm : X.mg x = some (.int i t)) (hg : Gl X x := by rfl) (hd : (x == ("__debug__" : Str)) = false := by decide) : DE G X W O (.Name x pos) (mC (.int i)) := de_const (v := .int i) (pe_glob hg hm ⟨_, rfl⟩ hd) fun _ _ => .int i
/-- an own class as a value -/
theorem de_globC {x : Str} (c : Nat) (hm : X.mg x = some (.ref (G.cl c))) (hg : Gl X x := by rfl) (hd : (x == ("__debug__" : Str)) = false := by decide) : DE G X W O (.Name x pos) (mC (.cls c)) := de_const (v := .ref (G.cl c)) (pe_glob hg hm rfl hd) fun _ _ => .cls c
/-- a built-in class as a value -/
theorem de_globT {x : Str} (n : String) (hm : X.mg x = none) (hv : bootBuiltins x = some (.type n)) (hg : Gl X x := by rfl) (hn : x ≠ "__name__" := by decide) (hd : (x == ("__debug__" : Str)) = false := by decide) : DE G X W O (.Name x pos) (mC (.ty n)) := de_const (v := .ty n) (pe_bltn hg hm hv rfl hn hd) fun _ _ => .ty n

/-- the two parts of an operator -/
theorem two_parts {a b : Expr} {ma mb : ME} {β : Type} {k : D → D → M β} (ha : DE G X W O a ma) (hb : DE G X W O b mb) : ∃ ta tb, PE X a ta ∧ PE X b tb ∧
    ∀ (b : Act) S env st σ H (ok : β → List D → Prop) (R : V → V → Hp → Prop), DI G b O S env st σ H →
      wpR ((ma env st).bind fun x st1 => (mb env st1).bind fun y => k x y) ok (fun x st' => PostX G b.ad S H x st' fun c dd H' => W c dd σ H') →
      (∀ x y dx dy S' H' st', Ext b.ad S H S' H' → DI G b O S' env st' σ H' → Rep G b.ad S' x dx → Rep G b.ad S' y dy → wpR (k dx dy st') ok (fun x st' => PostX G b.ad S H x st' fun c dd H' => W c dd σ H') → R x y H') →
      ta σ H fun x H1 => tb σ H1 fun y H2 => R x y H2 := by
  obtain ⟨ta, pa, wa⟩ := ha.ex
  obtain ⟨tb, pb, wb⟩ := hb.ex
  refine ⟨ta, tb, pa, pb, fun b S env st σ H ok R I h q => ?_⟩
  refine wa b S env st σ H _ I (wpR_imp (wpR_bind h) (fun dx st1 h1 => ?_) fun _ _ z => z)
  intro x S1 H1 x1 su1 so1 r1
  have I1 := I.ext x1 su1 so1
  refine wb b S1 env st1 σ H1 _ I1 (wpR_imp (wpR_bind h1) (fun dy st2 h2 => ?_) fun _ _ z => z.from_ x1 so1)
  intro y S2 H2 x2 su2 so2 r2
  exact q x y dx dy S2 H2 st2 (x1.trans so1 x2) (I1.ext x2 su2 so2) (r1.mono x2.same) r2 h2

theorem wp_ret {o : Option D} {st : List D} {ok : D → List D → Prop} {er : Ex → List D → Prop} (h : wpR (ret? o st) ok er) : ∃ d, o = some d ∧ ok d st := by
  cases o with
  | none => exact h.elim
  | some d => exact ⟨d, rfl, h⟩
theorem de_op {op : Operator} {a b : Expr} {ma mb : ME} {r : R2} {f : D → D → Option D} (ho : OpR X (binaryOp op) r) (hf : OpD G r f) (ha : DE G X W O a ma) (hb : DE G X W O b mb) : DE G X W O (.BinOp a op b pos) (mOp f ma mb) := by
  obtain ⟨ta, tb, pa, pb, w⟩ := two_parts (k := fun x y => ret? (f x y)) ha hb
  refine ⟨_, pe_op ho pa pb, fun b S env st σ H Q I h => w b S env st σ H _ (fun x y H2 => r x y H2 Q) I h fun x y dx dy S' H' st' e I' rx ry hk => ?_⟩
  obtain ⟨d, e1, q⟩ := wp_ret hk
  exact hf.go b.ad S' H' st' x y dx dy d Q I'.sub I'.sto rx ry e1 (Post.from_ e I'.sto q)
theorem de_cmp {op : CmpOp} {a b : Expr} {ma mb : ME} {r : R2} {f : D → D → Option D} (ho : OpR X (compareOp op) r) (hf : OpD G r f) (ha : DE G X W O a ma) (hb : DE G X W O b mb) (hm : behindInMarks op b = false := by first | exact nomark _ | rfl) : DE G X W O (.Compare a [op] [b] pos) (mOp f ma mb) := by
  obtain ⟨ta, tb, pa, pb, w⟩ := two_parts (k := fun x y => ret? (f x y)) ha hb
  refine ⟨_, pe_cmpR ho pa pb hm, fun b S env st σ H Q I h => w b S env st σ H _ (fun x y H2 => r x y H2 Q) I h fun x y dx dy S' H' st' e I' rx ry hk => ?_⟩
  obtain ⟨d, e1, q⟩ := wp_ret hk
  exact hf.go b.ad S' H' st' x y dx dy d Q I'.sub I'.sto rx ry e1 (Post.from_ e I'.sto q)
theorem de_un {op : UnaryOp} {a : Expr} {ma : ME} {r : V → Hp → VK → Prop} {f : D → Option D} (ho : UnR X (unaryOp op) r) (hf : UnD G r f) (ha : DE G X W O a ma) : DE G X W O (.UnaryOp op a pos) (mUn f ma) := by
  obtain ⟨ta, pa, wa⟩ := ha.ex
  refine ⟨_, pe_un ho pa, fun b S env st σ H Q I h => wa b S env st σ H _ I (wpR_imp (wpR_bind h) (fun dx st1 h1 => ?_) fun _ _ z => z)⟩
  intro x S1 H1 x1 su1 so1 r1
  obtain ⟨d, e1, q⟩ := wp_ret h1
  exact hf.go b.ad S1 H1 st1 x dx d Q su1 so1 r1 e1 (Post.from_ x1 so1 q)
/-- an expression as a test -/
theorem dt_val {e : Expr} {m : ME} (h : DE G X W O e m) (he : ∀ whole, isTrue e X.env whole = (do let v ← whole; standAt e.pos; holding [v] (truthy v)) := by intro _; rfl) : DT G X W O e (mTest m) := by
  obtain ⟨t, p, w⟩ := h.ex
  refine ⟨_, pt_val p he, fun b S env st σ H Q I h => w b S env st σ H _ I (wpR_imp (wpR_bind h) (fun dx st1 h1 => ?_) fun _ _ z => z)⟩
  intro x S1 H1 x1 su1 so1 r1
  cases r1 <;> first | exact h1.elim | exact ⟨_, rfl, h1 _ _ x1 su1 so1⟩
theorem dt_cmp {op : CmpOp} {a b : Expr} {ma mb : ME} {r : R2} {f : D → D → Option D} (ho : OpR X (compareOp op) r) (hf : OpD G r f) (ha : DE G X W O a ma) (hb : DE G X W O b mb) (hm : behindInMarks op b = false := by first | exact nomark _ | rfl) : DT G X W O (.Compare a [op] [b] pos) (mTest (mOp f ma mb)) := by
  obtain ⟨ta, pa, wa⟩ := ha.ex
  obtain ⟨tb, pb, wb⟩ := hb.ex
  refine ⟨_, pt_cmpR ho pa pb hm, fun b S env st σ H Q I h => ?_⟩
  have w := (de_cmp (pos := pos) (W := W) ho hf ha hb hm).ex
  have h' := wpR_bind h
  refine wa b S env st σ H _ I (wpR_imp (wpR_bind h') (fun dx st1 h1 => ?_) fun _ _ z => z)
  intro x S1 H1 x1 su1 so1 r1
  have I1 := I.ext x1 su1 so1
  refine wb b S1 env st1 σ H1 _ I1 (wpR_imp (wpR_bind h1) (fun dy st2 h2 => ?_) fun _ _ z => z.from_ x1 so1)
  intro y S2 H2 x2 su2 so2 r2
  obtain ⟨d, e1, q⟩ := wp_ret h2
  refine hf.go b.ad S2 H2 st2 x y dx dy d _ su2 so2 (r1.mono x2.same) r2 e1 fun v S3 H3 x3 su3 so3 r3 => ?_
  cases r3 <;> first | exact q.elim | exact ⟨_, rfl, q _ _ ((x1.trans so1 x2).trans so2 x3) su3 so3⟩

/-! ### and, or, not, if -/
theorem DW.dt {e : Expr} {m : MT} (h : DW G X W O e m) : DT G X W O e m := let ⟨t, p, w⟩ := h.ex; ⟨t, p.pt, w⟩
variable {a b : Expr} {rest : List Expr} {ma mb : ME} {t u : MT}
theorem dw_and1 (ha : DT G X W O a t) : DW G X W O (.BoolOp .And [a] pos) t := let ⟨t, p, w⟩ := ha.ex; ⟨t, pw_and1 p, w⟩
theorem dw_or1 (ha : DT G X W O a t) : DW G X W O (.BoolOp .Or [a] pos) t := let ⟨t, p, w⟩ := ha.ex; ⟨t, pw_or1 p, w⟩
theorem dw_and (ha : DT G X W O a t) (hb : DW G X W O (.BoolOp .And (b :: rest) pos) u) : DW G X W O (.BoolOp .And (a :: b :: rest) pos) (mAnd t u) := by
  obtain ⟨ta, pa, wa⟩ := ha.ex
  obtain ⟨tb, pb, wb⟩ := hb.ex
  refine ⟨_, pw_and pa pb, fun b S env st σ H Q I h => wa b S env st σ H _ I (wpR_imp (wpR_bind h) (fun k st1 h1 => ?_) fun _ _ z => z)⟩
  intro S1 H1 x1 su1 so1
  cases k with
  | true => exact wb b S1 env st1 σ H1 Q (I.ext x1 su1 so1) (wpR_imp h1 (fun _ _ z => z.from_ x1 so1) fun _ _ z => z.from_ x1 so1)
  | false => exact h1 _ _ x1 su1 so1
theorem dw_or (ha : DT G X W O a t) (hb : DW G X W O (.BoolOp .Or (b :: rest) pos) u) : DW G X W O (.BoolOp .Or (a :: b :: rest) pos) (mOr t u) := by
  obtain ⟨ta, pa, wa⟩ := ha.ex
  obtain ⟨tb, pb, wb⟩ := hb.ex
  refine ⟨_, pw_or pa pb, fun b S env st σ H Q I h => wa b S env st σ H _ I (wpR_imp (wpR_bind h) (fun k st1 h1 => ?_) fun _ _ z => z)⟩
  intro S1 H1 x1 su1 so1
  cases k with
  | false => exact wb b S1 env st1 σ H1 Q (I.ext x1 su1 so1) (wpR_imp h1 (fun _ _ z => z.from_ x1 so1) fun _ _ z => z.from_ x1 so1)
  | true => exact h1 _ _ x1 su1 so1
theorem dt_not (ha : DT G X W O a t) : DT G X W O (.UnaryOp .Not a pos) (mNot t) := by
  obtain ⟨ta, pa, wa⟩ := ha.ex
  refine ⟨_, pt_not pa, fun b S env st σ H Q I h => wa b S env st σ H _ I (wpR_imp (wpR_bind h) (fun k st1 h1 => ?_) fun _ _ z => z)⟩
  exact h1
theorem de_one {op} (h : DE G X W O a ma) : DE G X W O (.BoolOp op [a] pos) ma := let ⟨t, p, w⟩ := h.ex; ⟨t, pe_one p, w⟩
theorem bool_of {x : V} {dx : D} {ad : List Addr} {S : Hp} {st : List D} {β : Type} {k : Bool → M β} {ok : β → List D → Prop} {er : Ex → List D → Prop} (r : Rep G ad S x dx) (h : wpR ((bool? dx st).bind k) ok er) : ∃ c, x = .bl c ∧ dx = .bl c ∧ wpR (k c st) ok er := by
  cases r <;> first | exact h.elim | exact ⟨_, rfl, rfl, h⟩
theorem de_and (ha : DE G X W O a ma) (hb : DE G X W O (.BoolOp .And (b :: rest) pos) mb) : DE G X W O (.BoolOp .And (a :: b :: rest) pos) (mAndV ma mb) := by
  obtain ⟨ta, pa, wa⟩ := ha.ex
  obtain ⟨tb, pb, wb⟩ := hb.ex
  refine ⟨_, pe_and pa pb, fun b S env st σ H Q I h => wa b S env st σ H _ I (wpR_imp (wpR_bind h) (fun dx st1 h1 => ?_) fun _ _ z => z)⟩
  intro x S1 H1 x1 su1 so1 r1
  obtain ⟨c, e, e2, h2⟩ := bool_of r1 h1
  refine ⟨c, e, ?_⟩
  cases c with
  | true => exact wb b S1 env st1 σ H1 Q (I.ext x1 su1 so1) (wpR_imp h2 (fun _ _ z => z.from_ x1 so1) fun _ _ z => z.from_ x1 so1)
  | false => exact h2 _ _ _ x1 su1 so1 (.bl false)
theorem de_or (ha : DE G X W O a ma) (hb : DE G X W O (.BoolOp .Or (b :: rest) pos) mb) : DE G X W O (.BoolOp .Or (a :: b :: rest) pos) (mOrV ma mb) := by
  obtain ⟨ta, pa, wa⟩ := ha.ex
  obtain ⟨tb, pb, wb⟩ := hb.ex
  refine ⟨_, pe_or pa pb, fun b S env st σ H Q I h => wa b S env st σ H _ I (wpR_imp (wpR_bind h) (fun dx st1 h1 => ?_) fun _ _ z => z)⟩
  intro x S1 H1 x1 su1 so1 r1
  obtain ⟨c, e, e2, h2⟩ := bool_of r1 h1
  refine ⟨c, e, ?_⟩
  cases c with
  | false => exact wb b S1 env st1 σ H1 Q (I.ext x1 su1 so1) (wpR_imp h2 (fun _ _ z => z.from_ x1 so1) fun _ _ z => z.from_ x1 so1)
  | true => exact h2 _ _ _ x1 su1 so1 (.bl true)
theorem de_not (ha : DE G X W O a ma) : DE G X W O (.UnaryOp .Not a pos) (mNotV ma) := by
  obtain ⟨ta, pa, wa⟩ := ha.ex
  refine ⟨_, pe_not pa, fun b S env st σ H Q I h => wa b S env st σ H _ I (wpR_imp (wpR_bind h) (fun dx st1 h1 => ?_) fun _ _ z => z)⟩
  intro x S1 H1 x1 su1 so1 r1
  obtain ⟨c, e, e2, h2⟩ := bool_of r1 h1
  exact ⟨c, e, h2 _ _ _ x1 su1 so1 (.bl _)⟩
theorem de_if {c : Expr} (hc : DT G X W O c t) (ha : DE G X W O a ma) (hb : DE G X W O b mb) : DE G X W O (.IfExp c a b pos) (mIf t ma mb) := by
  obtain ⟨tc, pc, wc⟩ := hc.ex
  obtain ⟨ta, pa, wa⟩ := ha.ex
  obtain ⟨tb, pb, wb⟩ := hb.ex
  refine ⟨_, pe_ifExp pc pa pb, fun b S env st σ H Q I h => wc b S env st σ H _ I (wpR_imp (wpR_bind h) (fun k st1 h1 => ?_) fun _ _ z => z)⟩
  intro S1 H1 x1 su1 so1
  cases k with
  | true => exact wa b S1 env st1 σ H1 Q (I.ext x1 su1 so1) (wpR_imp h1 (fun _ _ z => z.from_ x1 so1) fun _ _ z => z.from_ x1 so1)
  | false => exact wb b S1 env st1 σ H1 Q (I.ext x1 su1 so1) (wpR_imp h1 (fun _ _ z => z.from_ x1 so1) fun _ _ z => z.from_ x1 so1)

/-! ### arguments, displays -/
theorem da_nil : DA G X W O [] mNil := ⟨_, pa_nil, fun b S env st σ H Q I h => h _ _ _ (.refl _ _ _) I.sub I.sto .nil⟩
theorem da_cons {e : Expr} {es : List Expr} {mr : MA} (ha : DE G X W O e ma) (hr : DA G X W O es mr) (hs : starEach (e :: es) X.env = (false, eval e X.env) :: starEach es X.env := by rfl) : DA G X W O (e :: es) (mCons ma mr) := by
  obtain ⟨ta, pa, wa⟩ := ha.ex
  obtain ⟨tb, pb, wb⟩ := hr.ex
  refine ⟨_, pa_cons pa pb hs, fun b S env st σ H Q I h => wa b S env st σ H _ I (wpR_imp (wpR_bind h) (fun dx st1 h1 => ?_) fun _ _ z => z)⟩
  intro x S1 H1 x1 su1 so1 r1
  refine wb b S1 env st1 σ H1 _ (I.ext x1 su1 so1) (wpR_imp (wpR_bind h1) (fun ds st2 h2 => ?_) fun _ _ z => z.from_ x1 so1)
  intro xs S2 H2 x2 su2 so2 r2
  exact h2 _ _ _ (x1.trans so1 x2) su2 so2 (.cons (r1.mono x2.same) r2)
variable {es : List Expr} {mr : MA}
theorem de_tup {k} (h : DA G X W O es mr) : DE G X W O (.Tuple es k pos) (mTup mr) := by
  obtain ⟨t, p, w⟩ := h.ex
  refine ⟨_, pe_tup p, fun b S env st σ H Q I h => w b S env st σ H _ I (wpR_imp (wpR_bind h) (fun ds st1 h1 => ?_) fun _ _ z => z)⟩
  intro xs S1 H1 x1 su1 so1 r1
  unfold tupOk at h1
  split at h1
  · rename_i hz
    exact ⟨by rw [r1.len]; exact hz, fun p hp => Post.tup su1 so1 hp r1 (Post.from_ x1 so1 h1)⟩
  · exact h1.elim
theorem de_lst (h : DA G X W O es mr) : DE G X W O (.List es pos) (mLst mr) := by
  obtain ⟨t, p, w⟩ := h.ex
  refine ⟨_, pe_lst p, fun b S env st σ H Q I h => w b S env st σ H _ I (wpR_imp (wpR_bind h) (fun ds st1 h1 => ?_) fun _ _ z => z)⟩
  intro xs S1 H1 x1 su1 so1 r1
  unfold lstOk at h1
  split at h1
  · rename_i hz
    exact ⟨by rw [r1.len]; exact hz, fun p hp => Post.lst su1 so1 hp r1 (Post.from_ x1 so1 h1)⟩
  · exact h1.elim
/-! ### calls of built-ins -/
theorem args_then {ta : TA} {ma : MA} {f : List D → Option D} {r : List V → Hp → VK → Prop} (hf : CallD G r f) {b : Act} {S : Hp} {env : Env'} {st : List D} {σ : L2.St} {H : Hp} {Q : VK}
    (w : ∀ (b : Act) S env st σ H Q, DI G b O S env st σ H → wpR (ma env st) (fun ds st' => PostA G b.ad S H ds st' Q) (fun x st' => PostX G b.ad S H x st' fun c dd H' => W c dd σ H') → ta σ H Q) (I : DI G b O S env st σ H)
    (h : wpR (mCall1 f ma env st) (fun d st' => Post G b.ad S H d st' Q) (fun x st' => PostX G b.ad S H x st' fun c dd H' => W c dd σ H')) : ta σ H fun xs H1 => r xs H1 Q := by
  refine w b S env st σ H _ I (wpR_imp (wpR_bind h) (fun ds st1 h1 => ?_) fun _ _ z => z)
  intro xs S1 H1 x1 su1 so1 r1
  obtain ⟨d, e1, q⟩ := wp_ret h1
  exact hf.go b.ad S1 H1 st1 xs ds d Q su1 so1 r1 e1 (Post.from_ x1 so1 q)
variable {x : Str} {p : Pos} {e : Expr} {ma' : MA}
theorem de_callB {id : String} {r : List V → Hp → VK → Prop} {f : List D → Option D} (hc : CallR X (.builtin id) r) (hf : CallD G r f) (hm : X.mg x = none) (hv : bootBuiltins x = some (.builtin id)) (ha : DA G X W O (e :: es) ma') (hg : Gl X x := by rfl)
    (hn : x ≠ "__name__" := by decide) (hdb : (x == ("__debug__" : Str)) = false := by decide)
    (he : starEach (e :: es) X.env = (false, eval e X.env) :: starEach es X.env := by rfl) (hpl : (backTo pos (starEach es X.env)).any (·.1) = false := by rfl) : DE G X W O (.Call (.Name x p) (e :: es) [] pos) (mCall1 f ma') := by
  obtain ⟨t, pa, w⟩ := ha.ex
  exact ⟨_, pe_callB hc hg hm hv pa hn hdb he hpl, fun b S env st σ H Q I h => args_then hf w I h⟩
theorem de_callTy {T : String} {r : List V → Hp → VK → Prop} {f : List D → Option D} (hc : CallR X (.type T) r) (hf : CallD G r f) (hm : X.mg x = none) (hv : bootBuiltins x = some (.type T)) (ha : DA G X W O (e :: es) ma') (hg : Gl X x := by rfl)
    (hn : x ≠ "__name__" := by decide) (hdb : (x == ("__debug__" : Str)) = false := by decide)
    (he : starEach (e :: es) X.env = (false, eval e X.env) :: starEach es X.env := by rfl) (hpl : (backTo pos (starEach es X.env)).any (·.1) = false := by rfl) : DE G X W O (.Call (.Name x p) (e :: es) [] pos) (mCall1 f ma') := by
  obtain ⟨t, pa, w⟩ := ha.ex
  exact ⟨_, pe_callTy hc hg hm hv pa hn hdb he hpl, fun b S env st σ H Q I h => args_then hf w I h⟩
/-- a built-in function that stands in the module under a name -/
theorem de_callG {id : String} {r : List V → Hp → VK → Prop} {f : List D → Option D} (hc : CallR X (.builtin id) r) (hf : CallD G r f) (hm : X.mg x = some (.builtin id)) (ha : DA G X W O (e :: es) ma') (hg : Gl X x := by rfl)
    (hdb : (x == ("__debug__" : Str)) = false := by decide)
    (he : starEach (e :: es) X.env = (false, eval e X.env) :: starEach es X.env := by rfl) (hpl : (backTo pos (starEach es X.env)).any (·.1) = false := by rfl) : DE G X W O (.Call (.Name x p) (e :: es) [] pos) (mCall1 f ma') := by
  obtain ⟨t, pa, w⟩ := ha.ex
  exact ⟨_, pe_callBfun hc hg hm pa hdb he hpl, fun b S env st σ H Q I h => args_then hf w I h⟩
/-- o[i] -/
theorem de_ix {r : R2} {f : D → D → Option D} (hr : IxR X r) (hf : OpD G r f) (ha : DE G X W O a ma) (hb : DE G X W O b mb) (hs : PlainIx b := by intro _ _; rfl) : DE G X W O (.Subscript a b pos) (mOp f ma mb) := by
  obtain ⟨ta, tb, pa, pb, w⟩ := two_parts (k := fun x y => ret? (f x y)) ha hb
  refine ⟨_, pe_ix hr pa pb hs, fun b S env st σ H Q I h => w b S env st σ H _ (fun x y H2 => r x y H2 Q) I h fun x y dx dy S' H' st' e I' rx ry hk => ?_⟩
  obtain ⟨d, e1, q⟩ := wp_ret hk
  exact hf.go b.ad S' H' st' x y dx dy d Q I'.sub I'.sto rx ry e1 (Post.from_ e I'.sto q)
end
end DL

/-! DL, third part: statements, defs and their calls, errors, loops. -/
namespace DL
open PySem PySem.Spec PyProof.Rows L2

theorem DE.conv {G : Glb} {X : Cx} {W : WX} {O : Ow} {e : Expr} {m m' : ME} (h : DE G X W O e m) (q : m = m') : DE G X W O e m' := q ▸ h

/-! ### stores into slots -/
section
variable {G : Glb} {b : Act} {O : Ow} {S H : Hp} {env : Env'} {st : List D} {σ : L2.St}
theorem DI.set {i : Nat} {v : V} {d : D} (I : DI G b O S env st σ H) (r : Rep G b.ad S v d) (hi : O.has i = false) : DI G b O S (env.set i (some d)) st (σ.set i (some v)) H := by
  have h1 : i ∉ O.own := fun z => by
    unfold Ow.has at hi
    rw [List.elem_eq_true_of_mem z] at hi; cases hi
  have h2 : O.exi ≠ some i := fun z => by
    unfold Ow.has at hi
    rw [z] at hi; simp at hi
  have other : ∀ {j : Nat} {d' : D}, j ≠ i → (env.set i (some d))[j]? = some (some d') → env[j]? = some (some d') := fun {j d'} hj h => by
    rw [List.getElem?_set_ne (Ne.symm hj)] at h; exact h
  refine ⟨by rw [List.length_set, List.length_set]; exact I.len, I.sub, I.s0, I.new, I.keep, fun j d' h ho => ?_, fun j d' hj h => ?_, fun j k a hj hk e1 e2 q1 q2 => ?_, I.sto, fun j d' hj h => ?_⟩
  · by_cases hj : j = i
    · subst hj
      by_cases hl : j < env.length
      · rw [List.getElem?_set_self hl] at h
        have e : d = d' := by simpa using h
        subst e
        exact ⟨v, by rw [List.getElem?_set_self (by rw [I.len]; exact hl)], r⟩
      · rw [List.getElem?_eq_none_iff.mpr (by rw [List.length_set]; exact Nat.le_of_not_lt hl)] at h; cases h
    · obtain ⟨w, q1, q2⟩ := I.slot j d' (other hj h) ho
      exact ⟨w, by rw [List.getElem?_set_ne (Ne.symm hj)]; exact q1, q2⟩
  · have hne : j ≠ i := fun z => h1 (z ▸ hj)
    obtain ⟨a, vs, ds, q1, q2, q3⟩ := I.own j d' hj (other hne h)
    exact ⟨a, vs, ds, q1, by rw [List.getElem?_set_ne (Ne.symm hne)]; exact q2, q3⟩
  · have hne1 : j ≠ i := fun z => h1 (z ▸ hj)
    have hne2 : k ≠ i := fun z => h1 (z ▸ hk)
    rw [List.getElem?_set_ne (Ne.symm hne1)] at q1
    rw [List.getElem?_set_ne (Ne.symm hne2)] at q2
    obtain ⟨d1, e1⟩ := e1
    obtain ⟨d2, e2⟩ := e2
    exact I.dist j k a hj hk ⟨d1, other hne1 e1⟩ ⟨d2, other hne2 e2⟩ q1 q2
  · have hne : j ≠ i := fun z => h2 (z ▸ hj)
    obtain ⟨y, q1, q2, q3⟩ := I.exc j d' hj (other hne h)
    exact ⟨y, q1, by rw [List.getElem?_set_ne (Ne.symm hne)]; exact q2, q3⟩
/-- a slot forgotten -/
theorem DI.forget {i : Nat} (I : DI G b O S env st σ H) (hi : O.has i = false) : DI G b O S (env.set i none) st (σ.set i none) H := by
  have other : ∀ {j : Nat} {d' : D}, (env.set i none)[j]? = some (some d') → j ≠ i ∧ env[j]? = some (some d') := fun {j d'} h => by
    by_cases hj : j = i
    · subst hj
      by_cases hl : j < env.length
      · rw [List.getElem?_set_self hl] at h; cases h
      · rw [List.getElem?_eq_none_iff.mpr (by rw [List.length_set]; exact Nat.le_of_not_lt hl)] at h; cases h
    · rw [List.getElem?_set_ne (Ne.symm hj)] at h; exact ⟨hj, h⟩
  refine ⟨by rw [List.length_set, List.length_set]; exact I.len, I.sub, I.s0, I.new, I.keep, fun j d' h ho => ?_, fun j d' hj h => ?_, fun j k a hj hk e1 e2 q1 q2 => ?_, I.sto, fun j d' hj h => ?_⟩
  · obtain ⟨hne, h⟩ := other h
    obtain ⟨w, q1, q2⟩ := I.slot j d' h ho
    exact ⟨w, by rw [List.getElem?_set_ne (Ne.symm hne)]; exact q1, q2⟩
  · obtain ⟨hne, h⟩ := other h
    obtain ⟨a, vs, ds, q1, q2, q3⟩ := I.own j d' hj h
    exact ⟨a, vs, ds, q1, by rw [List.getElem?_set_ne (Ne.symm hne)]; exact q2, q3⟩
  · obtain ⟨d1, e1⟩ := e1
    obtain ⟨d2, e2⟩ := e2
    obtain ⟨hne1, e1⟩ := other e1
    obtain ⟨hne2, e2⟩ := other e2
    rw [List.getElem?_set_ne (Ne.symm hne1)] at q1
    rw [List.getElem?_set_ne (Ne.symm hne2)] at q2
    exact I.dist j k a hj hk ⟨d1, e1⟩ ⟨d2, e2⟩ q1 q2
  · obtain ⟨hne, h⟩ := other h
    obtain ⟨y, q1, q2, q3⟩ := I.exc j d' hj h
    exact ⟨y, q1, by rw [List.getElem?_set_ne (Ne.symm hne)]; exact q2, q3⟩
end

/-! ### statements -/
/-- from an expression to a statement -/
def mDo (m : ME) (k : D → MS) : MS := fun env st => match m env st with
  | .ok d st1 => k d env st1
  | .err x st1 => .er x env st1
  | .bad => .bad
def mSeq (m n : MS) : MS := fun env st => match m env st with
  | .nx env1 st1 => n env1 st1
  | o => o
def mNx : MS := fun env st => .nx env st
def mBrk : MS := fun env st => .bk env st
def mCnt : MS := fun env st => .ct env st
def mSet (i : Nat) (m : ME) : MS := mDo m fun d env st => .nx (env.set i (some d)) st
def mRet (m : ME) : MS := mDo m fun d _ st => .rt d st
def mRetN : MS := fun _ st => .rt .non st
def mDrop (m : ME) : MS := mDo m fun _ env st => .nx env st
def mIfS (t : MT) (m n : MS) : MS := fun env st => match t env st with
  | .ok k st1 => if k = true then m env st1 else n env st1
  | .err x st1 => .er x env st1
  | .bad => .bad
/-- a target -/
abbrev MG := D → Env' → Option Env'
def gNm (i : Nat) : MG := fun d env => some (env.set i (some d))
def gsNil : List D → Env' → Option Env' := fun ds env => match ds with
  | [] => some env
  | _ => none
def gsCons (g : MG) (r : List D → Env' → Option Env') : List D → Env' → Option Env' := fun ds env => match ds with
  | d :: ds => (g d env).bind (r ds)
  | [] => none
def gTp (r : List D → Env' → Option Env') : MG := fun d env => match d with
  | .tup ds => r ds env
  | _ => none
def mAsg (m : ME) (g : MG) : MS := mDo m fun d env st => match g d env with
  | some env1 => .nx env1 st
  | none => .bad

section
variable {G : Glb} {X : Cx} {W : WX} {Ob : Ow} {OE : Ow → Prop} {O O1 O2 : Ow} {pos : Pos} {s : Stmt} {rest : List Stmt} {m n : MS} {e : Expr} {me : ME}
theorem dss_nil : DSs G X W Ob OE O [] O mNx := ⟨_, pss_nil, fun b S env st σ H D I h => h S σ H (.refl _) I⟩
theorem dss_cons (h1 : DS G X W Ob OE O s O1 m) (h2 : DSs G X W Ob OE O1 rest O2 n) : DSs G X W Ob OE O (s :: rest) O2 (mSeq m n) := by
  obtain ⟨t, p, w⟩ := h1.ex
  obtain ⟨u, q, w2⟩ := h2.ex
  refine ⟨_, pss_cons p q, fun b S env st σ H D I h => w b S env st σ H _ I ?_⟩
  unfold mSeq at h
  cases e : m env st with
  | nx env1 st1 =>
    rw [e] at h
    intro S1 σ1 H1 x1 I1
    exact w2 b S1 env1 st1 σ1 H1 D I1 (h.from_ x1)
  | rt d st1 => rw [e] at h; exact h
  | bk env1 st1 => rw [e] at h; exact h
  | ct env1 st1 => rw [e] at h; exact h
  | er x env1 st1 => rw [e] at h; exact h
  | bad => rw [e] at h; exact h
theorem dss_one (h1 : DS G X W Ob OE O s O1 m) : DSs G X W Ob OE O [s] O1 m := let ⟨t, p, w⟩ := h1.ex; ⟨t, pss_one p, w⟩
/-- an expression first -/
theorem do_part {k : D → MS} {t : TE} {b : Act} {S : Hp} {env : Env'} {st : List D} {σ : L2.St} {H : Hp} {D : Ends} {Q : VK} (hO : OE O)
    (w : ∀ (b : Act) S env st σ H Q, DI G b O S env st σ H → wpR (me env st) (fun d st' => Post G b.ad S H d st' Q) (fun x st' => PostX G b.ad S H x st' fun c dd H' => W c dd σ H') → t σ H Q) (I : DI G b O S env st σ H)
    (h : PostS G b Ob OE W O1 D S (mDo me k env st))
    (q : ∀ v d S' H' st', DI G b O S' env st' σ H' → Rep G b.ad S' v d → PostS G b Ob OE W O1 D S' (k d env st') → Q v H') : t σ H Q := by
  refine w b S env st σ H Q I ?_
  unfold mDo at h
  cases e : me env st with
  | ok d st1 =>
    rw [e] at h
    intro v S' H' x su so r
    exact q v d S' H' st1 (I.ext x su so) r (h.from_ x.same)
  | err x st1 =>
    rw [e] at h
    intro cls dd S' H' x su so r
    exact h cls dd O S' σ H' hO x.same (I.ext x su so) r
  | bad => rw [e] at h; exact h.elim
theorem ds_set (i : Nat) {x : Str} {pos' : Pos} (hN : X.N.Nodup) (he : DE G X W O e me) (hO : OE O := by first | trivial | rfl) (hi : X.N[i]? = some x := by rfl) (ho : O.has i = false := by rfl) (hx : Loc X.env.scope x := by first | exact Or.inl rfl | exact Or.inr rfl)
    (hs : swapsWith e (some (.Name x pos')) pos.line X.env = pure false := by rfl) (hf : X.fn x = true ∨ X.env.scope.names.lookup x = some .local := by first | exact .inl rfl | exact .inr rfl) : DS G X W Ob OE O (.Assign [.Name x pos'] e pos) O (mSet i me) := by
  obtain ⟨t, p, w⟩ := he.ex
  exact ⟨_, ps_set hN hi hx p hs hf, fun b S env st σ H D I h => do_part hO w I h fun v d S' H' st' I' r q => q _ _ _ (.refl _) (I'.set r ho)⟩
theorem ds_ret (he : DE G X W O e me) (hO : OE O := by first | trivial | rfl) : DS G X W Ob OE O (.Return (some e) pos) O1 (mRet me) := by
  obtain ⟨t, p, w⟩ := he.ex
  exact ⟨_, ps_ret p, fun b S env st σ H D I h => do_part hO w I h fun v d S' H' st' I' r q => q v S' H' I'.fin I'.sub I'.sto r⟩
theorem ds_retN : DS G X W Ob OE O (.Return none pos) O1 mRetN := ⟨_, ps_retN, fun b S env st σ H D I h => h .non S H I.fin I.sub I.sto .non⟩
theorem ds_expr (he : DE G X W O e me) (hO : OE O := by first | trivial | rfl) (hs : swapsWith e none pos.line X.env = pure false := by rfl) : DS G X W Ob OE O (.Expr e pos) O (mDrop me) := by
  obtain ⟨t, p, w⟩ := he.ex
  exact ⟨_, ps_expr p hs, fun b S env st σ H D I h => do_part hO w I h fun v d S' H' st' I' r q => q S' σ H' (.refl _) I'⟩
theorem ds_pass : DS G X W Ob OE O (.Pass pos) O mNx := ⟨_, ps_pass, fun b S env st σ H D I h => h S σ H (.refl _) I⟩
theorem ds_break : DS G X W O OE O (.Break pos) O1 mBrk := ⟨_, ps_break, fun b S env st σ H D I h => h S σ H (.refl _) I⟩
theorem ds_cont : DS G X W O OE O (.Continue pos) O1 mCnt := ⟨_, ps_continue, fun b S env st σ H D I h => h S σ H (.refl _) I⟩
theorem ds_if {c : Expr} {a b : List Stmt} {t : MT} (hc : DT G X W O c t) (ha : DSs G X W Ob OE O a O1 m) (hb : DSs G X W Ob OE O b O1 n) (hO : OE O := by first | trivial | rfl) : DS G X W Ob OE O (.If c a b pos) O1 (mIfS t m n) := by
  obtain ⟨tc, pc, wc⟩ := hc.ex
  obtain ⟨ta, pa, wa⟩ := ha.ex
  obtain ⟨tb, pb, wb⟩ := hb.ex
  refine ⟨_, ps_if pc pa pb, fun b S env st σ H D I h => wc b S env st σ H _ I ?_⟩
  unfold mIfS at h
  cases e : t env st with
  | ok k st1 =>
    rw [e] at h
    intro S' H' x su so
    cases k with
    | true => exact wa b S' env st1 σ H' D (I.ext x su so) (h.from_ x.same)
    | false => exact wb b S' env st1 σ H' D (I.ext x su so) (h.from_ x.same)
  | err x st1 =>
    rw [e] at h
    intro cls dd S' H' x su so r
    exact h cls dd O S' σ H' hO x.same (I.ext x su so) r
  | bad => rw [e] at h; exact h.elim

/-! ### targets -/
/-- the slots out of ix stay -/
def Stay (ix : List Nat) (σ σ' : L2.St) : Prop := σ'.length = σ.length ∧ ∀ j, j ∉ ix → σ'[j]? = σ[j]?
structure DG (G : Glb) (X : Cx) (O : Ow) (ix : List Nat) (tg : Expr) (g : MG) : Prop where
  ex : ∃ t, PG X tg t ∧ ∀ (b : Act) S env env' st σ H v d Q, DI G b O S env st σ H → Rep G b.ad S v d → g d env = some env' → (∀ σ', Stay ix σ σ' → DI G b O S env' st σ' H → Q σ' H) → t v σ H Q
structure DGs (G : Glb) (X : Cx) (O : Ow) (ix : List Nat) (ts : List Expr) (g : List D → Env' → Option Env') : Prop where
  ex : ∃ t, PGs X ts t ∧ ∀ (b : Act) S env env' st σ H vs ds Q, DI G b O S env st σ H → Reps G b.ad S vs ds → g ds env = some env' → (∀ σ', Stay ix σ σ' → DI G b O S env' st σ' H → Q σ' H) → t vs σ H Q
theorem dg_name (i : Nat) {x : Str} (hN : X.N.Nodup) (hi : X.N[i]? = some x := by rfl) (ho : O.has i = false := by rfl) (hx : Loc X.env.scope x := by first | exact Or.inl rfl | exact Or.inr rfl) (hf : X.fn x = true ∨ X.env.scope.names.lookup x = some .local := by first | exact .inl rfl | exact .inr rfl) : DG G X O [i] (.Name x pos) (gNm i) := by
  refine ⟨_, pg_name hN hi hx hf, fun b S env env' st σ H v d Q I r e q => ?_⟩
  cases e
  exact q _ ⟨List.length_set, fun j hj => List.getElem?_set_ne (fun z => hj (by rw [z]; exact List.mem_singleton.mpr rfl))⟩ (I.set r ho)
theorem dgs_nil : DGs G X O [] [] gsNil := by
  refine ⟨_, pgs_nil, fun b S env env' st σ H vs ds Q I r e q => ?_⟩
  cases r with
  | nil => cases e; exact ⟨rfl, q σ ⟨rfl, fun _ _ => rfl⟩ I⟩
  | cons _ _ => cases e
theorem dgs_cons {ix jx : List Nat} {t : Expr} {ts : List Expr} {g : MG} {gs : List D → Env' → Option Env'} (h1 : DG G X O ix t g) (h2 : DGs G X O jx ts gs) (hs : (assignEach (t :: ts) X.env).map (·.2) = assign t X.env :: (assignEach ts X.env).map (·.2) := by rfl) : DGs G X O (ix ++ jx) (t :: ts) (gsCons g gs) := by
  obtain ⟨t1, p1, w1⟩ := h1.ex
  obtain ⟨t2, p2, w2⟩ := h2.ex
  refine ⟨_, pgs_cons p1 p2 hs, fun b S env env' st σ H vs ds Q I r e q => ?_⟩
  cases r with
  | nil => cases e
  | cons r rr =>
    rename_i v d vs ds
    have e' : (g d env).bind (gs ds) = some env' := e
    cases e1 : g d env with
    | none => rw [e1] at e'; cases e'
    | some env1 =>
      rw [e1] at e'
      exact ⟨_, _, rfl, w1 b S env env1 st σ H v d _ I r e1 fun σ1 y1 I1 => w2 b S env1 env' st σ1 H _ ds Q I1 rr e' fun σ2 y2 I2 => q σ2 ⟨y2.1.trans y1.1, fun j hj => (y2.2 j fun z => hj (List.mem_append_right _ z)).trans (y1.2 j fun z => hj (List.mem_append_left _ z))⟩ I2⟩
theorem dg_tup {ix : List Nat} {es : List Expr} {k : Nat} {gs : List D → Env' → Option Env'} {l : Nat} (hc : X.calm = true) (hK : X.K = G.K) (h : DGs G X O ix es gs) (hlen : ∀ ds env env', gs ds env = some env' → ds.length = l) (hn : (assignEach es X.env).length = l := by rfl) (hst : (assignEach es X.env).findIdx? (·.1) = none := by rfl) : DG G X O ix (.Tuple es k pos) (gTp gs) := by
  obtain ⟨t, p, w⟩ := h.ex
  refine ⟨_, pg_tup hc p hn hst, fun b S env env' st σ H v d Q I rv e q => ?_⟩
  cases rv <;> try cases e
  rename_i a vs ds h1 h2
  have e' : gs ds env = some env' := e
  refine ⟨a, vs, rfl, hK ▸ Same.sqT I.sub h1.sqT, ?_, w b S env env' st σ H vs ds Q I h2 e' q⟩
  rw [h2.len]
  exact hlen _ _ _ e'
theorem gsNil_len : ∀ ds env env', gsNil ds env = some env' → ds.length = 0 := fun ds env env' h => by
  cases ds with
  | nil => rfl
  | cons _ _ => cases h
theorem gsCons_len {g : MG} {r : List D → Env' → Option Env'} {l : Nat} (h : ∀ ds env env', r ds env = some env' → ds.length = l) : ∀ ds env env', gsCons g r ds env = some env' → ds.length = l + 1 := fun ds env env' e => by
  cases ds with
  | nil => cases e
  | cons d ds =>
    have e' : (g d env).bind (r ds) = some env' := e
    cases e1 : g d env with
    | none => rw [e1] at e'; cases e'
    | some env1 =>
      rw [e1] at e'
      exact congrArg (· + 1) (h _ _ _ e')
theorem ds_asg {ix : List Nat} {tg : Expr} {g : MG} (he : DE G X W O e me) (hg : DG G X O ix tg g) (hO : OE O := by first | trivial | rfl) (hs : swapsWithSole [tg] e pos.line X.env = pure false := by rfl) (hw : swappedStores [tg] e X.env = pure none := by rfl)
    (h1 : (assignEach [tg] X.env).map (·.2) = [assign tg X.env] := by rfl) : DS G X W Ob OE O (.Assign [tg] e pos) O (mAsg me g) := by
  obtain ⟨t, p, w⟩ := he.ex
  obtain ⟨tg', pg, wg⟩ := hg.ex
  refine ⟨_, ps_asg p pg hs hw h1, fun b S env st σ H D I h => do_part hO w I h fun v d S' H' st' I' r q => ?_⟩
  cases e1 : g d env with
  | none => rw [e1] at q; exact q.elim
  | some env1 =>
    rw [e1] at q
    exact wg b S' env env1 st' σ H' v d _ I' r e1 fun σ' _ I1 => q _ _ _ (.refl _) I1
/-- a, b = x, y, plain local names -/
def mPar (i j : Nat) (ma : MA) : MS := fun env st => match ma env st with
  | .ok [d, e] st1 => .nx ((env.set i (some d)).set j (some e)) st1
  | .err x st1 => .er x env st1
  | _ => .bad
theorem ds_par (i j : Nat) {x y : Str} {a b : Expr} {ma : MA} {px py pt : Pos} {kt k2 pt2} (hc : X.calm = true) (hN : X.N.Nodup) (ha : DA G X W O [a, b] ma) (hO : OE O := by first | trivial | rfl) (hi : X.N[i]? = some x := by rfl) (hj : X.N[j]? = some y := by rfl) (hij : i ≠ j := by decide)
    (hoi : O.has i = false := by rfl) (hoj : O.has j = false := by rfl)
    (hx : X.env.scope.names.lookup x = some .local := by rfl) (hy : X.env.scope.names.lookup y = some .local := by rfl)
    (hw : swappedStores [.Tuple [.Name x px, .Name y py] kt pt] (.Tuple [a, b] k2 pt2) X.env = pure (some [x, y]) := by rfl)
    (hs : swapsWithSole [.Tuple [.Name x px, .Name y py] kt pt] (.Tuple [a, b] k2 pt2) pos.line X.env = pure false := by rfl) :
    DS G X W Ob OE O (.Assign [.Tuple [.Name x px, .Name y py] kt pt] (.Tuple [a, b] k2 pt2) pos) O (mPar i j ma) := by
  obtain ⟨t, p, w⟩ := ha.ex
  refine ⟨_, ps_par hc hN hi hj hij hx hy p hw hs, fun b S env st σ H D I h => w b S env st σ H _ I ?_⟩
  unfold mPar at h
  cases e : ma env st with
  | ok ds st1 =>
    rw [e] at h
    intro vs S' H' x su so r
    match ds, r, h with
    | [d1, d2], .cons r1 (.cons r2 .nil), h =>
      refine ⟨_, _, rfl, h _ _ _ x.same (DI.set (DI.set (I.ext x su so) r1 hoi) r2 hoj)⟩
    | [], _, h => exact h.elim
    | [_], _, h => exact h.elim
    | _ :: _ :: _ :: _, _, h => exact h.elim
  | err x st1 =>
    rw [e] at h
    intro cls dd S' H' x su so r
    exact h cls dd O S' σ H' hO x.same (I.ext x su so) r
  | bad => rw [e] at h; exact h.elim
end

/-! ### defs -/
/-- a body as a function of the arguments' data -/
def fnM (n : Nat) (m : MS) (ds : List D) : M D := fun st => match m (ds.map some ++ List.replicate (n - ds.length) none) st with
  | .nx _ st1 => .ok .non st1
  | .rt d st1 => .ok d st1
  | .er x _ st1 => .err x st1
  | _ => .bad
/-- a def's promise -/
def spD (G : Glb) (n : Nat) (m : List D → M D) : Sp := fun vs H Q E => ∃ (b : Act) (ds : List D) (st : List D), b.H = H ∧ vs.length = n ∧ Same b.S b.H ∧ StoOk G b.ad b.S st b.H ∧ Reps G b.ad b.S vs ds ∧
  wpR (m ds st) (fun d st' => Post G b.ad b.S b.H d st' Q) (fun x st' => PostX G b.ad b.S b.H x st' E)
/-- what holds in a body (or in a part of it) -/
structure XC (k : Nat) (G : Glb) (X : Cx) (W : WX) : Prop where
  tk : Takes X W
  po : PassesOwn (model X.prog X.w) X.A X.env X.xe
  calm : X.calm = true
  hr : Room k X.A
  K : X.K = G.K
/-- .. of a whole body, for a try -/
structure XT (X : Cx) : Prop where
  stk : X.stack = X.env :: X.outer
  fr : X.env.frame = some X.env.locals

section
variable {P : Program} {w : World} {K : PySem.W.Frag} {mg : Str → Option Value} {base : Heap}
theorem fnD {G : Glb} {x qual : Str} {st : Stmt} {f : Addr} {fd : FuncData} {N ps : List Str} {k : Nat} {m : MS} {O' : Ow} (F : Fun K x qual st f fd) (S : FnScope N ps (defScope st)) (hK : K = G.K)
    (hbody : ∀ (cdv : Value) (A : Around) (outer : List Env) (s : Shared) (H : Hp) (E : XK), XC k G (cxOf (L2.CX P w) P w K mg base N qual (defScope st) f cdv A outer s H E) (fun cls d _ H' => E cls d H') → XT (cxOf (L2.CX P w) P w K mg base N qual (defScope st) f cdv A outer s H E) →
      DSs G (cxOf (L2.CX P w) P w K mg base N qual (defScope st) f cdv A outer s H E) (fun cls d _ H' => E cls d H') {} (fun _ => True) {} (defBody st) O' m) :
    FnOk P w K mg base (L2.CX P w) (k + 1) f fd ps (spD G ps.length (fnM N.length m)) := by
  refine F.okX S (fun vs H Q E h => ?_) fun cdv A outer s H vs Q E hr h => ?_
  · obtain ⟨_, _, _, _, hl, _⟩ := h
    exact hl
  · obtain ⟨b, ds, st0, rfl, hl, hs, so, r, h⟩ := h
    have xc : XC k G (cxOf (L2.CX P w) P w K mg base N qual (defScope st) f cdv A outer s b.H E) (fun cls d _ H' => E cls d H') :=
      { tk := takes_of rfl rfl rfl rfl, po := passes_of rfl, calm := rfl, hr := hr, K := hK }
    obtain ⟨t, p, wt⟩ := (hbody cdv A outer s b.H E xc ⟨rfl, rfl⟩).ex
    refine ⟨t, p, ?_⟩
    have I := DI.start (n := N.length - vs.length) hs so r
    refine wt b b.S _ st0 _ b.H _ I ?_
    have hn : N.length - vs.length = N.length - ds.length := by rw [r.len]
    rw [hn]
    unfold fnM at h
    cases e : m (ds.map some ++ List.replicate (N.length - ds.length) none) st0 with
    | nx env st1 =>
      rw [e] at h
      intro S1 σ1 H1 _ I1
      exact h .non S1 H1 I1.fin I1.sub I1.sto .non
    | rt d st1 =>
      rw [e] at h
      intro v S1 H1 x1 su1 so1 r1
      exact h v S1 H1 x1 su1 so1 r1
    | bk env st1 => rw [e] at h; exact h.elim
    | ct env st1 => rw [e] at h; exact h.elim
    | er x env st1 =>
      rw [e] at h
      intro cls dd O' S1 σ1 H1 _ _ I1 rx
      exact h cls dd S1 H1 I1.fin I1.sub I1.sto rx
    | bad => rw [e] at h; exact h.elim
end

def Len (ma : MA) (n : Nat) : Prop := ∀ env st ds st', ma env st = .ok ds st' → ds.length = n
theorem len_nil : Len mNil 0 := fun env st ds st' h => by cases h; rfl
theorem len_cons {me : ME} {ma : MA} {n : Nat} (h : Len ma n) : Len (mCons me ma) (n + 1) := fun env st ds st' e => by
  unfold mCons at e
  cases e1 : me env st with
  | ok d st1 =>
    rw [e1] at e
    have e' : (ma env st1).bind (fun xs st2 => Res.ok (d :: xs) st2) = .ok ds st' := e
    cases e2 : ma env st1 with
    | ok ds2 st2 =>
      rw [e2] at e'
      have e3 : Res.ok (d :: ds2) st2 = .ok ds st' := e'
      cases e3
      exact congrArg (· + 1) (h _ _ _ _ e2)
    | err x s => rw [e2] at e'; cases e'
    | bad => rw [e2] at e'; cases e'
  | err x s => rw [e1] at e; cases e
  | bad => rw [e1] at e; cases e
def mCall (f : List D → M D) (ma : MA) : ME := fun env st => (ma env st).bind f
section
variable {G : Glb} {X : Cx} {W : WX} {O : Ow} {pos p : Pos} {x : Str} {e : Expr} {es : List Expr} {ma : MA} {k j n : Nat} {f : Addr} {fd : FuncData} {ps : List Str} {m : List D → M D}
theorem de_call (c : XC k G X W) (F : FnOk X.prog X.w X.K X.mg X.base (L2.CX X.prog X.w) j f fd ps (spD G n m)) (hm : X.mg x = some (.ref f)) (hk : PySem.W.keepIn X.K (.ref f) = true) (hb : Binds X.K fd ps []) (ha : DA G X W O (e :: es) ma)
    (hjk : j ≤ k := by decide) (hln : Len ma n) (hg : Gl X x := by rfl) (hdb : (x == ("__debug__" : Str)) = false := by decide) (he : starEach (e :: es) X.env = (false, eval e X.env) :: starEach es X.env := by rfl) (hpl : (backTo pos (starEach es X.env)).any (·.1) = false := by rfl) :
    DE G X W O (.Call (.Name x p) (e :: es) [] pos) (mCall m ma) := by
  obtain ⟨t, pa, w⟩ := ha.ex
  refine ⟨_, pe_callS F (c.hr.mono hjk) hg hm hk hb (fun σ => passAt c.tk σ) pa hdb he hpl, fun b S env st σ H Q I h => w b S env st σ H _ I ?_⟩
  have h' := wpR_bind h
  cases ea : ma env st with
  | ok ds st1 =>
    rw [ea] at h'
    intro vs S1 H1 x1 su1 so1 r1
    exact ⟨⟨S1, H1, b.ad⟩, ds, st1, rfl, by rw [r1.len]; exact hln env st ds st1 ea, su1, so1, r1, wpR_imp h' (fun _ _ z => z.from_ x1 so1) fun _ _ z => z.from_ x1 so1⟩
  | err x st1 => rw [ea] at h'; exact h'
  | bad => rw [ea] at h'; exact h'.elim
end
end DL

/-! DL, fourth part: errors, loops, comprehensions. -/
namespace DL
open PySem PySem.Spec PyProof.Rows L2

/-! ### errors without fields -/
/-- an own class without __init__, called without arguments -/
theorem pmk_none {X : Cx} {C : Addr} {bmB : List Value} {B newId initId : String} {x : Str} {p pos : Pos} (F : ExcBaseFacts B newId initId bmB) (q : PySem.W.excIn X.K C bmB newId = true) (gC : X.mg x = some (.ref C))
    (kC : PySem.W.keepIn X.K (.ref C) = true) (r : Raises X (.ref C)) (hg : Gl X x) (hdb : (x == ("__debug__" : Str)) = false := by decide) : PMk X (.Call (.Name x p) [] [] pos) (fun _ H Q => Q (.ref C) none H) := by
  intro pins s σ H Q I h
  refine wpAny_Call_Name_kw (ld_glob I hg gC ?_ hdb)
  refine PySem.W.callWith_K0 I.kIn kC ?_
  show wpAny _ _ (call (.ref C) []) _ _ _
  obtain ⟨bm, N, nm, qn, bs, hdct, sn, sub, ab, col, dd, k0, k1, k2, k3, k5, mN, hC, hN, hni, T⟩ := exc_obj I.kIn q
  exact wpAny_call_exc_subT F T hC hN hni (fun h' e hm => mk_of I hm r h (I.hok.gone hm.new)) (Nat.zero_le _)
/-- what an own error class without __init__ must have -/
structure ErrC (G : Glb) (mg : Str → Option Value) (x : Str) (c : Nat) : Prop where
  g : mg x = some (.ref (G.cl c))
  ex : PySem.W.excIn G.K (G.cl c) [.type "ValueError", .type "Exception", .type "BaseException", .type "object"] "ValueError.__new__" = true
  kp : PySem.W.keepIn G.K (.ref (G.cl c)) = true
  sub : PySem.W.subIn G.K (.ref (G.cl c)) (.type "BaseException") = some true
  ty : PySem.W.typeIn G.K (.ref (G.cl c)) = some (.type "type")
def mRaise0 (c : Nat) : MS := fun env st => .er ⟨c, none⟩ env st
section
variable {G : Glb} {X : Cx} {W : WX} {Ob : Ow} {OE : Ow → Prop} {O O1 : Ow} {pos : Pos} {k : Nat}
theorem ds_raise0 {x : Str} {c : Nat} {p pos' : Pos} (xc : XC k G X W) (T : ErrC G X.mg x c) (hO : OE O := by first | trivial | rfl) (hg : Gl X x := by rfl) (hdb : (x == ("__debug__" : Str)) = false := by decide) :
    DS G X W Ob OE O (.Raise (some (.Call (.Name x p) [] [] pos')) none pos) O1 (mRaise0 c) := by
  refine ⟨_, ps_raise xc.calm xc.tk (pmk_none PySem.F.excBase_ValueError (by rw [xc.K]; exact T.ex) T.g (by rw [xc.K]; exact T.kp) (raises_own (by rw [xc.K]; exact T.sub) (by rw [xc.K]; exact T.ty)) hg hdb), fun b S env st σ H D I h => ?_⟩
  exact h _ _ O S σ H hO (.refl _) I ⟨rfl, rfl⟩
end

/-! ### what is walked -/
def IterOK (G : Glb) (ad : List Addr) (S : Hp) (J : It) (ds : List D) : Prop :=
  ∀ (i : Nat) (S' H' : Hp), Same S S' → Same S' H' → (i = ds.length → J.stop i H') ∧ ∀ d, ds[i]? = some d → J.go i H' ∧
    ∀ x H'', J.yld i H' x H'' → ∃ S'', Ext ad S' H' S'' H'' ∧ Same S'' H'' ∧ (∀ st, StoOk G ad S' st H' → StoOk G ad S'' st H'') ∧ Rep G ad S'' x d
structure DIt (G : Glb) (X : Cx) (W : WX) (O : Ow) (tg iter : Expr) (m : MA) : Prop where
  ex : ∃ wi, PI X tg iter wi ∧ ∀ (b : Act) S env st σ H R, DI G b O S env st σ H →
    wpR (m env st) (fun ds st' => ∀ J S' H', Ext b.ad S H S' H' → Same S' H' → StoOk G b.ad S' st' H' → IterOK G b.ad S' J ds → R J H') (fun x st' => PostX G b.ad S H x st' fun c dd H' => W c dd σ H') → wi σ H R

/-- a list or a tuple -/
def items? : D → M (List D) := fun d st => match d with
  | .lst ds => .ok ds st
  | .rol ds => .ok ds st
  | .tup ds => .ok ds st
  | _ => .bad
def mItems (m : ME) : MA := fun env st => (m env st).bind items?
def rangeD (lo : Int) (n : Nat) : List D := (List.range n).map fun i => .int (lo + (i : Nat))
def rng1? : List D → M (List D) := fun ds st => match ds with
  | [.int j] => if -(2 ^ 62) ≤ j ∧ j < 2 ^ 62 then .ok (rangeD 0 j.toNat) st else .bad
  | _ => .bad
def rng2? : List D → M (List D) := fun ds st => match ds with
  | [.int i, .int j] => if -(2 ^ 62) ≤ i ∧ i < 2 ^ 62 ∧ -(2 ^ 62) ≤ j ∧ j < 2 ^ 62 then .ok (rangeD i (j - i).toNat) st else .bad
  | _ => .bad
def mThenA (m : MA) (f : List D → M (List D)) : MA := fun env st => (m env st).bind f
def numbered (ds : List D) : List D := ds.mapIdx fun i d => .tup [.int (i : Nat), d]
def enum? : List D → M (List D) := fun ds st => match ds with
  | [.lst ds] => .ok (numbered ds) st
  | [.rol ds] => .ok (numbered ds) st
  | _ => .bad
def zip? : List D → M (List D) := fun ds st => match ds with
  | [.lst xs, .lst ys] => .ok (List.zipWith (fun x y => .tup [x, y]) xs ys) st
  | _ => .bad

/-- a value walked: a list or a tuple -/
def iSeq (K : PySem.W.Frag) (tl : TE) : TI := fun σ H R => tl σ H fun x H1 => ∃ a, x = .ref a ∧ ((∃ xs, SqL K H1 a xs ∧ R (Itl K a) H1) ∨ (∃ xs, SqT K H1 a xs ∧ R (Itt K a) H1))
theorem pi_seq {X : Cx} {tg l : Expr} {tl : TE} (hl : PE X l tl) : PI X tg l (iSeq X.K tl) := by
  refine ⟨fun pins s σ H R I h => ?_⟩
  refine thn (hl.run pins s σ H _ I h) fun v s1 ⟨x, H1, I1, r1, q1⟩ => ?_
  obtain ⟨a, e, q1⟩ := q1
  subst e
  cases r1
  rcases q1 with ⟨xs, hq, q⟩ | ⟨xs, hq, q⟩
  · obtain ⟨its, rv, p, hz⟩ := I1.list hq
    refine wpAny_pyIter_list p.isList ?_
    exact pi_one (tk := s1.toks) I1 _ (turn_list a _) ⟨_, Heap.get?_push_size _ rfl, rfl, rfl⟩ q
  · obtain ⟨its, rv, p, hz⟩ := I1.tuple hq
    refine wpAny_pyIter_tuple (show s1.heap.IsTuple a its.toArray from p) ?_
    exact pi_one (tk := s1.toks) I1 _ (turn_tuple a _) ⟨_, Heap.get?_push_size _ rfl, rfl, rfl⟩ q

section
variable {G : Glb} {ad : List Addr} {S : Hp}
theorem Same.sqL {K : PySem.W.Frag} {H H' : Hp} {a : Addr} {xs : List V} (e : Same H H') (h : SqL K H a xs) : SqL K H' a xs := e.seq h
/-- no new object -/
theorem still {H' : Hp} {S' : Hp} {x : V} {d : D} (su : Same S' H') (r : Rep G ad S' x d) : ∃ S'', Ext ad S' H' S'' H' ∧ Same S'' H' ∧ (∀ st, StoOk G ad S' st H' → StoOk G ad S'' st H') ∧ Rep G ad S'' x d :=
  ⟨S', .refl _ _ _, su, fun _ z => z, r⟩
theorem iter_list {a : Addr} {vs : List V} {ds : List D} (h : SqL G.K S a vs) (r : Reps G ad S vs ds) : IterOK G ad S (Itl G.K a) ds := by
  intro i S' H' e su
  have h' := (e.trans su).seq h
  refine ⟨fun hi => ⟨vs, h', by rw [r.len, hi]; exact Nat.le_refl _⟩, fun d hd => ?_⟩
  obtain ⟨v, hv, rv⟩ := r.get hd
  refine ⟨⟨vs, v, h', hv⟩, fun x H'' ⟨e1, e2⟩ => ?_⟩
  subst e1
  have e3 : v = x := Option.some.inj (hv.symm.trans (e2 vs h'))
  subst e3
  exact still su (rv.mono e)
theorem iter_tup {a : Addr} {vs : List V} {ds : List D} (h : SqT G.K S a vs) (r : Reps G ad S vs ds) : IterOK G ad S (Itt G.K a) ds := by
  intro i S' H' e su
  have h' := Same.sqT (e.trans su) h
  refine ⟨fun hi => ⟨vs, h', by rw [r.len, hi]; exact Nat.le_refl _⟩, fun d hd => ?_⟩
  obtain ⟨v, hv, rv⟩ := r.get hd
  refine ⟨⟨vs, v, h', hv⟩, fun x H'' ⟨e1, e2⟩ => ?_⟩
  subst e1
  have e3 : v = x := Option.some.inj (hv.symm.trans (e2 vs h'))
  subst e3
  exact still su (rv.mono e)
theorem rangeD_len (lo : Int) (n : Nat) : (rangeD lo n).length = n := by simp [rangeD]
theorem rangeD_get {lo : Int} {n i : Nat} {d : D} (h : (rangeD lo n)[i]? = some d) : i < n ∧ d = .int (lo + (i : Nat)) := by
  have hi : i < n := by
    have := (List.getElem?_eq_some_iff.mp h).1
    rwa [rangeD_len] at this
  refine ⟨hi, ?_⟩
  simp [rangeD, List.getElem?_map, List.getElem?_range hi] at h
  exact h.symm
theorem iter_range (lo : Int) (n : Nat) : IterOK G ad S (Itr lo n) (rangeD lo n) := by
  intro i S' H' e su
  refine ⟨fun hi => ?_, fun d hd => ?_⟩
  · rw [rangeD_len] at hi
    exact Nat.le_of_eq hi.symm
  · obtain ⟨hi, rfl⟩ := rangeD_get hd
    exact ⟨hi, fun x H'' ⟨e1, e2⟩ => by subst e1; subst e2; exact still su (.int _)⟩
theorem pair_new {H' S' : Hp} {T : Addr} {u v : V} {d e : D} (su : Same S' H') (hT : H' T = none) (r1 : Rep G ad S' u d) (r2 : Rep G ad S' v e) :
    ∃ S'', Ext ad S' H' S'' (upd H' T (.tup [u, v])) ∧ Same S'' (upd H' T (.tup [u, v])) ∧ (∀ st, StoOk G ad S' st H' → StoOk G ad S'' st (upd H' T (.tup [u, v]))) ∧ Rep G ad S'' (.ref T) (.tup [d, e]) := by
  refine ⟨upd S' T (.tup [u, v]), ?_, ?_, fun st so => (new_still su so hT).2.2, Rep.tupNew su hT (.cons r1 (.cons r2 .nil))⟩
  · have hs : S' T = none := su.free hT
    refine ⟨fun b o h => by rw [upd_ne (ne_of_none h hs)]; exact h, fun b o h => ?_, fun b o h _ => by rw [upd_ne (ne_of_none h hT)]; exact h⟩
    by_cases hb : b = T
    · subst hb; exact .inr hT
    · rw [upd_ne hb] at h; exact .inl h
  · intro b o h
    by_cases hb : b = T
    · subst hb; rw [upd_same] at h ⊢; exact h
    · rw [upd_ne hb] at h ⊢; exact su _ _ h
theorem numbered_get {ds : List D} {i : Nat} {d : D} (h : (numbered ds)[i]? = some d) : ∃ e, ds[i]? = some e ∧ d = .tup [.int (i : Nat), e] := by
  unfold numbered at h
  rw [List.getElem?_mapIdx] at h
  cases q : ds[i]? with
  | none => rw [q] at h; cases h
  | some e => rw [q] at h; exact ⟨e, rfl, (Option.some.inj h).symm⟩
theorem iter_enum {a : Addr} {vs : List V} {ds : List D} (h : SqL G.K S a vs) (r : Reps G ad S vs ds) : IterOK G ad S (Ite G.K a) (numbered ds) := by
  intro i S' H' e su
  have h' := (e.trans su).seq h
  refine ⟨fun hi => ⟨vs, h', by rw [r.len, hi]; simp [numbered]⟩, fun d hd => ?_⟩
  obtain ⟨d0, hd0, rfl⟩ := numbered_get hd
  obtain ⟨v, hv, rv⟩ := r.get hd0
  refine ⟨⟨vs, v, h', hv⟩, fun x H'' ⟨T, y, e1, hT, e2, e3⟩ => ?_⟩
  subst e1; subst e2
  have e4 : v = y := Option.some.inj (hv.symm.trans (e3 vs h'))
  subst e4
  exact pair_new su hT (.int _) (rv.mono e)
theorem iter_zip {a c : Addr} {vs ws : List V} {ds es : List D} (h : SqL G.K S a vs) (r : Reps G ad S vs ds) (h2 : SqL G.K S c ws) (r2 : Reps G ad S ws es) : IterOK G ad S (Itz G.K a c) (List.zipWith (fun x y => .tup [x, y]) ds es) := by
  intro i S' H' e su
  have h' := (e.trans su).seq h
  have h2' := (e.trans su).seq h2
  refine ⟨fun hi => ⟨vs, ws, h', h2', ?_⟩, fun d hd => ?_⟩
  · rw [List.length_zipWith] at hi
    rw [r.len, r2.len]
    omega
  · rw [List.getElem?_zipWith] at hd
    cases q1 : ds[i]? with
    | none => rw [q1] at hd; simp at hd
    | some d1 =>
      cases q2 : es[i]? with
      | none => rw [q1, q2] at hd; simp at hd
      | some d2 =>
        rw [q1, q2] at hd
        have e0 : D.tup [d1, d2] = d := by simpa using hd
        subst e0
        obtain ⟨v, hv, rv⟩ := r.get q1
        obtain ⟨u, hu, ru⟩ := r2.get q2
        refine ⟨⟨vs, ws, v, u, h', h2', hv, hu⟩, fun x H'' ⟨T, y, z, e1, hT, e2, e3, e4⟩ => ?_⟩
        subst e1; subst e2
        have e5 : v = y := Option.some.inj (hv.symm.trans (e3 vs h'))
        have e6 : u = z := Option.some.inj (hu.symm.trans (e4 ws h2'))
        subst e5; subst e6
        exact pair_new su hT (rv.mono e) (ru.mono e)
end
section
variable {G : Glb} {X : Cx} {W : WX} {O : Ow} {tg e : Expr} {m : ME} {p pos : Pos}
theorem di_seq (hK : X.K = G.K) (h : DE G X W O e m) : DIt G X W O tg e (mItems m) := by
  obtain ⟨t, pe, w⟩ := h.ex
  refine ⟨_, pi_seq pe, fun b S env st σ H R I h => w b S env st σ H _ I (wpR_imp (wpR_bind h) (fun d st1 h1 => ?_) fun _ _ z => z)⟩
  intro v S1 H1 x1 su1 so1 r1
  cases r1 <;> try exact h1.elim
  · rename_i a vs ds h2 h3
    exact ⟨a, rfl, .inr ⟨vs, hK ▸ Same.sqT su1 h2.sqT, hK ▸ h1 _ _ _ x1 su1 so1 (iter_tup h2.sqT h3)⟩⟩
  · rename_i a vs ds h2 h3
    exact ⟨a, rfl, .inl ⟨vs, SqL.of (su1 _ _ h2), hK ▸ h1 _ _ _ x1 su1 so1 (iter_list (SqL.of h2) h3)⟩⟩
  · rename_i a vs ds h2 h3
    exact ⟨a, rfl, .inl ⟨vs, hK ▸ su1.seq h2, hK ▸ h1 _ _ _ x1 su1 so1 (iter_list h2 h3)⟩⟩
theorem args_walk {ta : TA} {ma : MA} {f : List D → M (List D)} {es : List Expr} {b : Act} {S : Hp} {env : Env'} {st : List D} {σ : L2.St} {H : Hp} {R : It → Hp → Prop} {q : List V → Hp → Prop}
    (w : ∀ (b : Act) S env st σ H Q, DI G b O S env st σ H → wpR (ma env st) (fun ds st' => PostA G b.ad S H ds st' Q) (fun x st' => PostX G b.ad S H x st' fun c dd H' => W c dd σ H') → ta σ H Q) (I : DI G b O S env st σ H)
    (h : wpR (mThenA ma f env st) (fun ds st' => ∀ J S' H', Ext b.ad S H S' H' → Same S' H' → StoOk G b.ad S' st' H' → IterOK G b.ad S' J ds → R J H') (fun x st' => PostX G b.ad S H x st' fun c dd H' => W c dd σ H'))
    (k : ∀ vs ds S' H' st', Ext b.ad S H S' H' → Same S' H' → StoOk G b.ad S' st' H' → Reps G b.ad S' vs ds →
      wpR (f ds st') (fun ds st' => ∀ J S2 H2, Ext b.ad S H S2 H2 → Same S2 H2 → StoOk G b.ad S2 st' H2 → IterOK G b.ad S2 J ds → R J H2) (fun x st' => PostX G b.ad S H x st' fun c dd H' => W c dd σ H') → q vs H') : ta σ H q := by
  refine w b S env st σ H _ I (wpR_imp (wpR_bind h) (fun ds st1 h1 => ?_) fun _ _ z => z)
  intro vs S1 H1 x1 su1 so1 r1
  exact k vs ds S1 H1 st1 x1 su1 so1 r1 h1
variable {a a2 : Expr} {ma : MA}
theorem di_range1 (hm : X.mg "range" = none) (ha : DA G X W O [a] ma) (hg : Gl X "range" := by rfl) (hs : starEach [a] X.env = [(false, eval a X.env)] := by rfl) : DIt G X W O tg (.Call (.Name "range" p) [a] [] pos) (mThenA ma rng1?) := by
  obtain ⟨t, pa, w⟩ := ha.ex
  refine ⟨_, pi_range1 hg hm pa hs, fun b S env st σ H R I h => args_walk (es := [a]) w I h fun vs ds S1 H1 st1 x1 su1 so1 r1 h1 => ?_⟩
  unfold rng1? at h1
  split at h1
  · rename_i j
    split at h1
    · rename_i hj
      cases r1 with
      | cons r rr => cases r; cases rr; exact ⟨j, rfl, hj.1, hj.2, h1 _ _ _ x1 su1 so1 (iter_range 0 _)⟩
    · exact h1.elim
  · exact h1.elim
theorem di_range2 (hm : X.mg "range" = none) (ha : DA G X W O [a, a2] ma) (hg : Gl X "range" := by rfl) (hs : starEach [a, a2] X.env = [(false, eval a X.env), (false, eval a2 X.env)] := by rfl) (hs2 : starEach [a2] X.env = [(false, eval a2 X.env)] := by rfl) :
    DIt G X W O tg (.Call (.Name "range" p) [a, a2] [] pos) (mThenA ma rng2?) := by
  obtain ⟨t, pa, w⟩ := ha.ex
  refine ⟨_, pi_range2 hg hm pa hs hs2, fun b S env st σ H R I h => args_walk (es := [a]) w I h fun vs ds S1 H1 st1 x1 su1 so1 r1 h1 => ?_⟩
  unfold rng2? at h1
  split at h1
  · rename_i i j
    split at h1
    · rename_i hj
      cases r1 with
      | cons r rr =>
        cases r
        cases rr with
        | cons r' rr => cases r'; cases rr; exact ⟨i, j, rfl, hj, h1 _ _ _ x1 su1 so1 (iter_range i _)⟩
    · exact h1.elim
  · exact h1.elim
theorem di_enum {elts : List Expr} {kk : Nat} {tpos : Pos} (hK : X.K = G.K) (hm : X.mg "enumerate" = none) (ha : DA G X W O [a] ma) (hg : Gl X "enumerate" := by rfl) (hs : starEach [a] X.env = [(false, eval a X.env)] := by rfl) :
    DIt G X W O (.Tuple elts kk tpos) (.Call (.Name "enumerate" p) [a] [] pos) (mThenA ma enum?) := by
  obtain ⟨t, pa, w⟩ := ha.ex
  refine ⟨_, pi_enum hg hm pa hs, fun b S env st σ H R I h => args_walk (es := [a]) w I h fun vs ds S1 H1 st1 x1 su1 so1 r1 h1 => ?_⟩
  unfold enum? at h1
  split at h1
  · cases r1 with
    | cons r rr =>
      cases rr
      cases r with
      | lst h2 h3 => exact ⟨_, _, rfl, SqL.of (su1 _ _ h2), hK ▸ h1 _ _ _ x1 su1 so1 (iter_enum (SqL.of h2) h3)⟩
  · cases r1 with
    | cons r rr =>
      cases rr
      cases r with
      | rol h2 h3 => exact ⟨_, _, rfl, hK ▸ su1.seq h2, hK ▸ h1 _ _ _ x1 su1 so1 (iter_enum h2 h3)⟩
  · exact h1.elim
theorem di_zip {elts : List Expr} {kk : Nat} {tpos : Pos} (hK : X.K = G.K) (hm : X.mg "zip" = none) (ha : DA G X W O [a, a2] ma) (hg : Gl X "zip" := by rfl)
    (hs : starEach [a, a2] X.env = (false, eval a X.env) :: starEach [a2] X.env := by rfl) (hpl : (backTo pos (starEach [a2] X.env)).any (·.1) = false := by rfl) :
    DIt G X W O (.Tuple elts kk tpos) (.Call (.Name "zip" p) [a, a2] [] pos) (mThenA ma zip?) := by
  obtain ⟨t, pa, w⟩ := ha.ex
  refine ⟨_, pi_zip hg hm pa hs hpl, fun b S env st σ H R I h => args_walk (es := [a]) w I h fun vs ds S1 H1 st1 x1 su1 so1 r1 h1 => ?_⟩
  unfold zip? at h1
  split at h1
  · cases r1 with
    | cons r rr =>
      cases rr with
      | cons r' rr =>
        cases rr
        cases r with
        | lst h2 h3 =>
          cases r' with
          | lst h4 h5 => exact ⟨_, _, _, _, rfl, SqL.of (su1 _ _ h2), SqL.of (su1 _ _ h4), hK ▸ h1 _ _ _ x1 su1 so1 (iter_zip (SqL.of h2) h3 (SqL.of h4) h5)⟩
  · exact h1.elim
end

/-! ### for -/
def forD (g : MG) (body : MS) : List D → MS
  | [] => fun env st => .nx env st
  | d :: ds => fun env st => match g d env with
    | none => .bad
    | some env1 => match body env1 st with
      | .nx e s => forD g body ds e s
      | .ct e s => forD g body ds e s
      | .bk e s => .nx e s
      | o => o
def mFor (mi : MA) (g : MG) (body : MS) : MS := fun env st => match mi env st with
  | .ok ds st1 => forD g body ds env st1
  | .err x st1 => .er x env st1
  | .bad => .bad
section
variable {G : Glb} {X : Cx} {W : WX} {Ob : Ow} {OE : Ow → Prop} {O O1 : Ow} {pos : Pos} {k : Nat}
theorem ds_for {ix : List Nat} {tg iter : Expr} {body : List Stmt} {mi : MA} {g : MG} {m : MS} (xc : XC k G X W) (hi : DIt G X W O tg iter mi) (hg : DG G X O ix tg g) (hb : DSs G X W O OE O body O m) (hO : OE O := by first | trivial | rfl)
    (hs : ∀ x, foldedSetIterable iter X.env x = pure x := by intro _; rfl) : DS G X W Ob OE O (.For tg iter body [] pos) O (mFor mi g m) := by
  obtain ⟨wi, pi, wwi⟩ := hi.ex
  obtain ⟨tg', pg, wg⟩ := hg.ex
  obtain ⟨tb, pb, wb⟩ := hb.ex
  refine ⟨_, ps_for xc.po xc.calm pi pg pb hs, fun b S env st σ H D I h => wwi b S env st σ H _ I ?_⟩
  unfold mFor at h
  cases e : mi env st with
  | bad => rw [e] at h; exact h.elim
  | err x st1 =>
    rw [e] at h
    intro cls dd S' H' x su so r
    exact h cls dd O S' σ H' hO x.same (I.ext x su so) r
  | ok ds st1 =>
    rw [e] at h
    intro J S1 H1 x1 su1 so1 it
    refine ⟨fun i n σ' H' => n = ds.length - i ∧ i ≤ ds.length ∧ ∃ S' env' st', Same S1 S' ∧ DI G b O S' env' st' σ' H' ∧ PostS G b Ob OE W O D S' (forD g m (ds.drop i) env' st'), ⟨ds.length, by simp, Nat.zero_le _, S1, env, st1, .refl _, I.ext x1 su1 so1, h.from_ x1.same⟩, ?_⟩
    rintro i n σ' H' ⟨rfl, hi, S', env', st', e1, I', h'⟩
    by_cases hlt : i < ds.length
    · right
      have hd : ds[i]? = some ds[i] := List.getElem?_eq_getElem hlt
      obtain ⟨go, yl⟩ := (it i S' H' e1 I'.sub).2 _ hd
      refine ⟨go, fun σ2 H2 => ds.length - (i + 1) < ds.length - i ∧ ∃ S2 env2 st2, Same S1 S2 ∧ DI G b O S2 env2 st2 σ2 H2 ∧ PostS G b Ob OE W O D S2 (forD g m (ds.drop (i + 1)) env2 st2), fun σ2 H2 ⟨hl, z⟩ => ⟨ds.length - (i + 1), hl, rfl, hlt, z⟩, fun x H'' y => ?_⟩
      obtain ⟨S2, x2, su2, so2, r2⟩ := yl x H'' y
      have I2 : DI G b O S2 env' st' σ' H'' := I'.ext x2 su2 (so2 _ I'.sto)
      rw [List.drop_eq_getElem_cons hlt] at h'
      unfold forD at h'
      cases e2 : g ds[i] env' with
      | none => rw [e2] at h'; exact h'.elim
      | some env1 =>
        rw [e2] at h'
        refine wg b S2 env' env1 st' σ' H'' x ds[i] _ I2 r2 e2 fun σ3 _ I3 => wb b S2 env1 st' σ3 H'' _ I3 ?_
        have lt : ds.length - (i + 1) < ds.length - i := by omega
        dsimp only at h'
        cases e3 : m env1 st' with
        | nx env4 st4 =>
          rw [e3] at h'
          intro S4 σ4 H4 y4 I4
          exact ⟨lt, S4, env4, st4, e1.trans (x2.same.trans y4), I4, h'.from_ (x2.same.trans y4)⟩
        | ct env4 st4 =>
          rw [e3] at h'
          intro S4 σ4 H4 y4 I4
          exact ⟨lt, S4, env4, st4, e1.trans (x2.same.trans y4), I4, h'.from_ (x2.same.trans y4)⟩
        | bk env4 st4 =>
          rw [e3] at h'
          intro S4 σ4 H4 y4 I4
          exact h' S4 σ4 H4 (x2.same.trans y4) I4
        | rt d st4 => rw [e3] at h'; exact h'
        | er x st4 => rw [e3] at h'; exact PostS.from_ x2.same h'
        | bad => rw [e3] at h'; exact h'
    · left
      have hi' : i = ds.length := Nat.le_antisymm hi (Nat.le_of_not_lt hlt)
      refine ⟨(it i S' H' e1 I'.sub).1 hi', ?_⟩
      rw [hi', List.drop_length] at h'
      exact h' S' σ' H' (.refl _) I'
theorem ds_doc {x : Str} {j} {pos' : Pos} : DS G X W Ob OE O (.Expr (.Constant (.str x) j pos) pos') O mNx := ⟨_, ps_doc, fun b S env st σ H D I h => h S σ H (.refl _) I⟩
end

/-! ### while -/
def whileN (c : MT) (m : MS) : Nat → MS
  | 0 => fun _ _ => .bad
  | n + 1 => fun env st => match c env st with
    | .ok k st1 => if k = true then (match m env st1 with
        | .nx e s => whileN c m n e s
        | .ct e s => whileN c m n e s
        | .bk e s => .nx e s
        | o => o) else .nx env st1
    | .err x st1 => .er x env st1
    | .bad => .bad
theorem whileN_more {c : MT} {m : MS} : ∀ (n : Nat) (env : Env') (st : List D), whileN c m n env st ≠ .bad → whileN c m (n + 1) env st = whileN c m n env st := by
  intro n
  induction n with
  | zero => intro env st h; exact absurd rfl h
  | succ n ih =>
    intro env st h
    unfold whileN at h ⊢
    cases e : c env st with
    | bad => rfl
    | err x st1 => rfl
    | ok k st1 =>
      rw [e] at h
      dsimp only at h ⊢
      by_cases hk : k = true
      · rw [if_pos hk] at h ⊢
        rw [if_pos hk]
        cases e2 : m env st1 with
        | nx e s => rw [e2] at h; exact ih e s h
        | ct e s => rw [e2] at h; exact ih e s h
        | bk e s => rfl
        | rt d s => rfl
        | er x e s => rfl
        | bad => rfl
      · rw [if_neg hk, if_neg hk]
theorem whileN_le {c : MT} {m : MS} {n k : Nat} {env : Env'} {st : List D} (h : whileN c m n env st ≠ .bad) (hk : n ≤ k) : whileN c m k env st = whileN c m n env st := by
  induction hk with
  | refl => rfl
  | step _ ih => rw [whileN_more _ _ _ (by rw [ih]; exact h), ih]
open Classical in
/-- a while: the end that it has after enough turns -/
noncomputable def mWhile (c : MT) (m : MS) : MS := fun env st => if h : ∃ n, whileN c m n env st ≠ .bad then whileN c m h.choose env st else .bad
theorem mWhile_of {c : MT} {m : MS} {n : Nat} {env : Env'} {st : List D} {o : Out} (h : whileN c m n env st = o) (ho : o ≠ .bad) : mWhile c m env st = o := by
  have hx : ∃ n, whileN c m n env st ≠ .bad := ⟨n, by rw [h]; exact ho⟩
  unfold mWhile
  rw [dif_pos hx]
  rcases Nat.le_total n hx.choose with q | q
  · rw [whileN_le (by rw [h]; exact ho) q, h]
  · rw [← whileN_le hx.choose_spec q, h]
theorem mWhile_bad {c : MT} {m : MS} {env : Env'} {st : List D} (h : ∀ n, whileN c m n env st = .bad) : mWhile c m env st = .bad := by
  unfold mWhile
  rw [dif_neg fun ⟨n, q⟩ => q (h n)]
/-- one turn -/
theorem mWhile_eq (c : MT) (m : MS) (env : Env') (st : List D) : mWhile c m env st = match c env st with
    | .ok k st1 => if k = true then (match m env st1 with
        | .nx e s => mWhile c m e s
        | .ct e s => mWhile c m e s
        | .bk e s => .nx e s
        | o => o) else .nx env st1
    | .err x st1 => .er x env st1
    | .bad => .bad := by
  by_cases hx : ∃ n, whileN c m n env st ≠ .bad
  · obtain ⟨n, hn⟩ := hx
    rw [mWhile_of rfl hn]
    cases n with
    | zero => exact absurd rfl hn
    | succ n =>
      unfold whileN at hn ⊢
      cases e : c env st with
      | bad => rfl
      | err x st1 => rfl
      | ok k st1 =>
        rw [e] at hn
        dsimp only at hn ⊢
        by_cases hk : k = true
        · rw [if_pos hk] at hn ⊢
          rw [if_pos hk]
          cases e2 : m env st1 with
          | nx e s => rw [e2] at hn; exact (mWhile_of rfl hn).symm
          | ct e s => rw [e2] at hn; exact (mWhile_of rfl hn).symm
          | bk e s => rfl
          | rt d s => rfl
          | er x e s => rfl
          | bad => rfl
        · rw [if_neg hk, if_neg hk]
  · have hx' : ∀ n, whileN c m n env st = .bad := fun n => Classical.byContradiction fun q => hx ⟨n, q⟩
    rw [mWhile_bad hx']
    cases e : c env st with
    | bad => rfl
    | err x st1 =>
      have := hx' 1
      unfold whileN at this
      rw [e] at this; cases this
    | ok k st1 =>
      dsimp only
      by_cases hk : k = true
      · rw [if_pos hk]
        have key : ∀ n, (match m env st1 with
            | .nx e s => whileN c m n e s
            | .ct e s => whileN c m n e s
            | .bk e s => .nx e s
            | o => o) = .bad := fun n => by
          have := hx' (n + 1)
          unfold whileN at this
          rw [e] at this
          dsimp only at this
          rw [if_pos hk] at this
          exact this
        cases e2 : m env st1 with
        | nx e s => rw [e2] at key; exact (mWhile_bad key).symm
        | ct e s => rw [e2] at key; exact (mWhile_bad key).symm
        | bk e s => have := key 0; rw [e2] at this; cases this
        | rt d s => have := key 0; rw [e2] at this; cases this
        | er x e s => have := key 0; rw [e2] at this; cases this
        | bad => rfl
      · have := hx' 1
        unfold whileN at this
        rw [e] at this
        dsimp only at this
        rw [if_neg hk] at this; cases this
section
variable {G : Glb} {X : Cx} {W : WX} {Ob : Ow} {OE : Ow → Prop} {O O1 : Ow} {pos : Pos} {k : Nat}
theorem ds_while {c : Expr} {body : List Stmt} {t : MT} {m : MS} (xc : XC k G X W) (hc : DT G X W O c t) (hb : DSs G X W O OE O body O m) (hO : OE O := by first | trivial | rfl) : DS G X W Ob OE O (.While c body [] pos) O (mWhile t m) := by
  obtain ⟨tc, pc, wc⟩ := hc.ex
  obtain ⟨tb, pb, wb⟩ := hb.ex
  refine ⟨_, ps_while xc.po pc pb, fun b S env st σ H D I h => ?_⟩
  by_cases hx : ∃ n, whileN t m n env st ≠ .bad
  · obtain ⟨n, hn⟩ := hx
    rw [mWhile_of rfl hn] at h
    refine ⟨fun n σ' H' => ∃ S' env' st', DI G b O S' env' st' σ' H' ∧ PostS G b Ob OE W O D S' (whileN t m n env' st'), ⟨n, S, env, st, I, h⟩, ?_⟩
    rintro n σ' H' ⟨S', env', st', I', h'⟩
    refine wc b S' env' st' σ' H' _ I' ?_
    cases n with
    | zero => exact h'.elim
    | succ n =>
      unfold whileN at h'
      cases e : t env' st' with
      | bad => rw [e] at h'; exact h'.elim
      | err x st1 =>
        rw [e] at h'
        intro cls dd S1 H1 x1 su so r
        exact h' cls dd O S1 σ' H1 hO x1.same (I'.ext x1 su so) r
      | ok k st1 =>
        rw [e] at h'
        intro S1 H1 x1 su1 so1
        have I1 := I'.ext x1 su1 so1
        dsimp only at h'
        cases k with
        | false =>
          rw [if_neg Bool.false_ne_true] at h'
          rw [if_neg Bool.false_ne_true]
          exact h' S1 σ' H1 x1.same I1
        | true =>
          rw [if_pos rfl] at h'
          rw [if_pos rfl]
          refine ⟨fun σ2 H2 => ∃ S2 env2 st2, DI G b O S2 env2 st2 σ2 H2 ∧ PostS G b Ob OE W O D S2 (whileN t m n env2 st2), fun σ2 H2 z => ⟨n, Nat.lt_succ_self n, z⟩, wb b S1 env' st1 σ' H1 _ I1 ?_⟩
          cases e2 : m env' st1 with
          | nx e s => rw [e2] at h'; exact fun S2 σ2 H2 y2 I2 => ⟨S2, e, s, I2, h'.from_ (x1.same.trans y2)⟩
          | ct e s => rw [e2] at h'; exact fun S2 σ2 H2 y2 I2 => ⟨S2, e, s, I2, h'.from_ (x1.same.trans y2)⟩
          | bk e s => rw [e2] at h'; exact fun S2 σ2 H2 y2 I2 => h' S2 σ2 H2 (x1.same.trans y2) I2
          | rt d s => rw [e2] at h'; exact h'
          | er x e s => rw [e2] at h'; exact PostS.from_ x1.same h'
          | bad => rw [e2] at h'; exact h'
  · exact absurd h (by rw [mWhile_bad fun n => Classical.byContradiction fun q => hx ⟨n, q⟩]; exact id)
end
end DL

/-! DL, fifth part: operators and built-ins by data. -/
namespace DL
open PySem PySem.Spec PyProof.Rows L2

/-! ### data as the library's data -/
mutual
def toP : D → PyData
  | .non => .none
  | .bl b => .bool b
  | .int i => .int i
  | .str x => .str x
  | .tup xs => .tuple (toPs xs)
  | .lst xs => .list (toPs xs)
  | .rol xs => .list (toPs xs)
  | .ty _ => .dict []
  | .obj _ _ => .dict []
  | .cls _ => .dict []
  | .tok _ => .dict []
def toPs : List D → List PyData
  | [] => []
  | x :: xs => toP x :: toPs xs
end
theorem toPs_map : ∀ xs : List D, toPs xs = xs.map toP
  | [] => rfl
  | x :: xs => by rw [toPs, toPs_map xs]; rfl
theorem canAll {x : PyData} {xs : List PyData} (h : PyData.canLayAll0 (x :: xs) = true) : x.canLay0 = true ∧ PyData.canLayAll0 xs = true := by
  have h' : (x.canLay0 && PyData.canLayAll0 xs) = true := by simpa [PyData.canLayAll0] using h
  simpa using h'
section
variable {G : Glb} {ad : List Addr} {S H : Hp}
mutual
theorem Rep.dp (su : Same S H) : ∀ {v : V} {d : D}, Rep G ad S v d → (toP d).canLay0 = true → Dp G.K H v (toP d)
  | _, _, .non, _ => .non
  | _, _, .bl b, _ => .bl b
  | _, _, .int i, _ => .int i
  | _, _, .str x, _ => .str x
  | _, _, .tup h r, c => .tup (Same.sqT su h.sqT) (Reps.dp su r (by simpa [toP, PyData.canLay0] using c))
  | _, _, .lst h r, c => .lst (SqL.of (su _ _ h)) (Reps.dp su r (by simpa [toP, PyData.canLay0] using c))
  | _, _, .rol h r, c => .lst (su.seq h) (Reps.dp su r (by simpa [toP, PyData.canLay0] using c))
  | _, _, .ty _, c => by simp [toP, PyData.canLay0] at c
  | _, _, .obj _ _, c => by simp [toP, PyData.canLay0] at c
  | _, _, .cls _, c => by simp [toP, PyData.canLay0] at c
  | _, _, .tok _, c => by simp [toP, PyData.canLay0] at c
theorem Reps.dp (su : Same S H) : ∀ {vs : List V} {ds : List D}, Reps G ad S vs ds → PyData.canLayAll0 (toPs ds) = true → DpAll G.K H vs (toPs ds)
  | _, _, .nil, _ => .nil
  | _, _, .cons h r, c => by
    have c' := canAll c
    exact .cons (Rep.dp su h c'.1) (Reps.dp su r c'.2)
end
end
def eqD (x y : D) : Option Bool := if SeqAt.shaped (toP x) = true ∧ SeqAt.shaped (toP y) = true then some (PyData.eqv (toP x) (toP y)) else none
def dEq (x y : D) : Option D := (eqD x y).map .bl
def dNe (x y : D) : Option D := (eqD x y).map fun b => .bl (!b)
section
variable {G : Glb} {X : Cx}
theorem opd_eq (hK : X.K = G.K) : OpD G (rEqD X.K) dEq := ⟨fun ad S H st x y dx dy d Q su so rx ry e q => by
  unfold dEq eqD at e
  split at e
  · rename_i hs
    have e' : D.bl (PyData.eqv (toP dx) (toP dy)) = d := Option.some.inj e
    subst e'
    exact ⟨_, _, hK ▸ rx.dp su (SeqAt.canLay_of_shaped hs.1), hK ▸ ry.dp su (SeqAt.canLay_of_shaped hs.2), hs.1, hs.2, Post.here su so (.bl _) q⟩
  · cases e⟩
theorem opd_ne (hK : X.K = G.K) : OpD G (rNeD X.K) dNe := ⟨fun ad S H st x y dx dy d Q su so rx ry e q => by
  unfold dNe eqD at e
  split at e
  · rename_i hs
    have e' : D.bl (!PyData.eqv (toP dx) (toP dy)) = d := Option.some.inj e
    subst e'
    exact ⟨_, _, hK ▸ rx.dp su (SeqAt.canLay_of_shaped hs.1), hK ▸ ry.dp su (SeqAt.canLay_of_shaped hs.2), hs.1, hs.2, Post.here su so (.bl _) q⟩
  · cases e⟩
/-- in, not in: a list, a tuple of data -/
def inD (x y : D) : Option Bool := match y with
  | .lst ds => if SeqAt.shaped (toP x) = true ∧ SeqAt.shaped (.list (toPs ds)) = true then some ((toPs ds).any fun z => PyData.eqv z (toP x)) else none
  | .rol ds => if SeqAt.shaped (toP x) = true ∧ SeqAt.shaped (.list (toPs ds)) = true then some ((toPs ds).any fun z => PyData.eqv z (toP x)) else none
  | _ => none
def dIn (x y : D) : Option D := (inD x y).map .bl
def dNotIn (x y : D) : Option D := (inD x y).map fun b => .bl (!b)
theorem opd_in (hK : X.K = G.K) : OpD G (rInD X.K) dIn := ⟨fun ad S H st x y dx dy d Q su so rx ry e q => by
  unfold dIn inD at e
  cases ry <;> try cases e
  all_goals
    rename_i h r
    dsimp only at e
    split at e
    · rename_i hs
      have e' := Option.some.inj e
      subst e'
      have hl := SeqAt.canLay_of_shaped hs.2
      refine ⟨_, _, hK ▸ rx.dp su (SeqAt.canLay_of_shaped hs.1), ?_, hs.1, hs.2, Post.here su so (.bl _) q⟩
      first
        | exact hK ▸ .lst (SqL.of (su _ _ h)) (Reps.dp su r (by simpa [PyData.canLay0] using hl))
        | exact hK ▸ .lst (su.seq h) (Reps.dp su r (by simpa [PyData.canLay0] using hl))
    · cases e⟩
theorem opd_notIn (hK : X.K = G.K) : OpD G (rNotInD X.K) dNotIn := ⟨fun ad S H st x y dx dy d Q su so rx ry e q => by
  unfold dNotIn inD at e
  cases ry <;> try cases e
  all_goals
    rename_i h r
    dsimp only at e
    split at e
    · rename_i hs
      have e' := Option.some.inj e
      subst e'
      have hl := SeqAt.canLay_of_shaped hs.2
      refine ⟨_, _, hK ▸ rx.dp su (SeqAt.canLay_of_shaped hs.1), ?_, hs.1, hs.2, Post.here su so (.bl _) q⟩
      first
        | exact hK ▸ .lst (SqL.of (su _ _ h)) (Reps.dp su r (by simpa [PyData.canLay0] using hl))
        | exact hK ▸ .lst (su.seq h) (Reps.dp su r (by simpa [PyData.canLay0] using hl))
    · cases e⟩

/-! ### ints -/
/-- both sides whole numbers -/
def i2 (f : Int → Int → Option D) : D → D → Option D
  | .int i, .int j => f i j
  | _, _ => none
def i1 (f : Int → D) : D → Option D
  | .int i => some (f i)
  | _ => none
theorem opd_i0 {g : Int → Int → V} {h : Int → Int → D} (hg : ∀ ad S i j, Rep G ad S (g i j) (h i j)) : OpD G (rI0 g) (i2 fun i j => some (h i j)) := ⟨fun ad S H st x y dx dy d Q su so rx ry e q => by
  cases rx <;> try cases e
  cases ry <;> cases e
  exact ⟨_, _, rfl, rfl, Post.here su so (hg _ _ _ _) q⟩⟩
theorem opd_iC {C : Int → Int → Prop} [∀ i j, Decidable (C i j)] {g : Int → Int → V} {h : Int → Int → D} (hg : ∀ ad S i j, Rep G ad S (g i j) (h i j)) : OpD G (rI C g) (i2 fun i j => if C i j then some (h i j) else none) := ⟨fun ad S H st x y dx dy d Q su so rx ry e q => by
  cases rx <;> try cases e
  cases ry <;> try cases e
  rename_i i j
  have e : (if C i j then some (h i j) else none) = some d := e
  by_cases hc : C i j
  · rw [if_pos hc] at e
    cases e
    exact ⟨_, _, rfl, rfl, hc, Post.here su so (hg _ _ _ _) q⟩
  · rw [if_neg hc] at e; cases e⟩
theorem und_i {g : Int → V} {h : Int → D} (hg : ∀ ad S i, Rep G ad S (g i) (h i)) : UnD G (rU g) (i1 h) := ⟨fun ad S H st x dx d Q su so rx e q => by
  cases rx <;> cases e
  exact ⟨_, rfl, Post.here su so (hg _ _ _) q⟩⟩
def dSub : D → D → Option D := i2 fun i j => some (.int (i - j))
def dLt : D → D → Option D := i2 fun i j => some (.bl (decide (i < j)))
def dLe : D → D → Option D := i2 fun i j => some (.bl (decide (i ≤ j)))
def dGt : D → D → Option D := i2 fun i j => some (.bl (decide (j < i)))
def dGe : D → D → Option D := i2 fun i j => some (.bl (decide (j ≤ i)))
def dNeg : D → Option D := i1 fun i => .int (-i)
theorem opd_sub : OpD G (rI0 fun i j => .int (i - j)) dSub := opd_i0 fun _ _ _ _ => .int _
theorem opd_lt : OpD G (rI0 fun i j => .bl (decide (i < j))) dLt := opd_i0 fun _ _ _ _ => .bl _
theorem opd_le : OpD G (rI0 fun i j => .bl (decide (i ≤ j))) dLe := opd_i0 fun _ _ _ _ => .bl _
theorem opd_gt : OpD G (rI0 fun i j => .bl (decide (j < i))) dGt := opd_i0 fun _ _ _ _ => .bl _
theorem opd_ge : OpD G (rI0 fun i j => .bl (decide (j ≤ i))) dGe := opd_i0 fun _ _ _ _ => .bl _
theorem und_neg : UnD G (rU fun i => .int (-i)) dNeg := und_i fun _ _ _ => .int _
/-- the sizes of a product -/
def MulOk (i j : Int) : Prop := i.natAbs < 2 ^ 64 ∨ j.natAbs < 2 ^ 64 ∨ i.natAbs.log2 + j.natAbs.log2 < 1000000
instance (i j : Int) : Decidable (MulOk i j) := inferInstanceAs (Decidable (_ ∨ _ ∨ _))
def DivOk (_ j : Int) : Prop := j ≠ 0 ∧ j.natAbs.log2 < 9000
instance (i j : Int) : Decidable (DivOk i j) := inferInstanceAs (Decidable (_ ∧ _))
theorem op_mulD : OpR X (binaryOp .Mult) (rI MulOk fun i j => .int (i * j)) := opI fun i j _ _ _ _ _ hc q => by
  refine mul_int q ?_
  rcases hc with h | h | h
  · exact (CMul.ok (i := i) (j := j) (.inl (by omega)))
  · exact (CMul.ok (i := i) (j := j) (.inr (by omega)))
  · exact CMulW.ok h
theorem op_divD : OpR X (binaryOp .FloorDiv) (rI DivOk fun i j => .int (i.fdiv j)) := opI fun i j _ _ _ _ _ hc q => floordiv_int hc.1 q (.inl (PyProof.noPylong_of_log2 hc.2))
theorem op_modD : OpR X (binaryOp .Mod) (rI (fun _ j => j ≠ 0) fun i j => .int (i.fmod j)) := op_modN
def dDiv : D → D → Option D := i2 fun i j => if DivOk i j then some (.int (i.fdiv j)) else none
def dMod : D → D → Option D := i2 fun i j => if j ≠ 0 then some (.int (i.fmod j)) else none
theorem opd_div : OpD G (rI DivOk fun i j => .int (i.fdiv j)) dDiv := opd_iC fun _ _ _ _ => .int _
theorem opd_mod : OpD G (rI (fun _ j => j ≠ 0) fun i j => .int (i.fmod j)) dMod := opd_iC (C := fun _ j => j ≠ 0) fun _ _ _ _ => .int _
instance (i j : Int) : Decidable (CPow i j) := inferInstanceAs (Decidable (_ ∧ _ ∧ _))
def dPow : D → D → Option D := i2 fun i j => if CPow i j then some (.int (i ^ j.toNat)) else none
theorem opd_pow : OpD G (rI CPow fun i j => .int (i ^ j.toNat)) dPow := opd_iC fun _ _ _ _ => .int _
/-! ### + and * -/
def dAdd : D → D → Option D
  | .int i, .int j => some (.int (i + j))
  | .str x, .str y => if x.length + y.length ≤ sizeLine then some (.str (x ++ y)) else none
  | .tup xs, .tup ys => if xs.length + ys.length ≤ sizeLine then some (.tup (xs ++ ys)) else none
  | .lst xs, .lst ys => if xs.length + ys.length ≤ sizeLine then some (.lst (xs ++ ys)) else none
  | _, _ => none
theorem op_addD : OpR X (binaryOp .Add) (fun x y H Q => rI0 (fun i j => .int (i + j)) x y H Q ∨ ((∃ i j, x = .str i ∧ y = .str j ∧ i.length + j.length ≤ sizeLine ∧ Q (.str (i ++ j)) H) ∨ (rCatA X.K x y H Q ∨ rCat x y H Q))) := op_add.or (op_add_str.or (op_catA.or op_cat))
theorem opd_add (hK : X.K = G.K) : OpD G (fun x y H Q => rI0 (fun i j => .int (i + j)) x y H Q ∨ ((∃ i j, x = .str i ∧ y = .str j ∧ i.length + j.length ≤ sizeLine ∧ Q (.str (i ++ j)) H) ∨ (rCatA X.K x y H Q ∨ rCat x y H Q))) dAdd := ⟨fun ad S H st x y dx dy d Q su so rx ry e q => by
  unfold dAdd at e
  split at e
  · cases e
    cases rx; cases ry
    exact .inl ⟨_, _, rfl, rfl, Post.here su so (.int _) q⟩
  · split at e <;> cases e
    rename_i hl
    cases rx; cases ry
    exact .inr (.inl ⟨_, _, rfl, rfl, hl, Post.here su so (.str _) q⟩)
  · split at e <;> cases e
    rename_i hl
    cases rx with
    | tup h1 r1 =>
      rename_i a vs
      cases ry with
      | tup h2 r2 =>
        rename_i c ws
        refine .inr (.inr (.inl ⟨a, c, vs, ws, rfl, rfl, hK ▸ Same.sqT su h1.sqT, hK ▸ Same.sqT su h2.sqT, by rw [r1.len, r2.len]; exact hl, fun h0 => ?_, fun h0 h0' => ?_, fun h0 h0' p hp => ?_⟩))
        · subst h0
          cases r1
          exact Post.here su so (.tup h2 r2) q
        · subst h0'
          cases r2
          exact Post.here su so (.tup h1 (by rw [List.append_nil]; exact r1)) q
        · exact Post.tup su so hp (r1.append r2) q
  · split at e <;> cases e
    rename_i hl
    cases rx with
    | lst h1 r1 =>
      rename_i a vs
      cases ry with
      | lst h2 r2 =>
        rename_i c ws
        exact .inr (.inr (.inr ⟨a, c, vs, ws, rfl, rfl, su _ _ h1, su _ _ h2, by rw [r1.len, r2.len]; exact hl, fun p hp => Post.lst su so hp (r1.append r2) q⟩))
  · cases e⟩
def repD (k : Nat) (xs : List D) : List D := (List.replicate k xs).flatten
theorem Reps.rep {ad : List Addr} {S : Hp} {vs : List V} {ds : List D} (r : Reps G ad S vs ds) : ∀ k : Nat, Reps G ad S (List.replicate k vs).flatten (repD k ds)
  | 0 => .nil
  | k + 1 => by
    unfold repD
    rw [List.replicate_succ, List.replicate_succ, List.flatten_cons, List.flatten_cons]
    exact r.append (Reps.rep r k)
def dMul : D → D → Option D
  | .int i, .int j => if MulOk i j then some (.int (i * j)) else none
  | .lst xs, .int k => if -(2 ^ 63) ≤ k ∧ k < 2 ^ 63 ∧ xs.length * k.toNat ≤ sizeLine then some (.lst (repD k.toNat xs)) else none
  | .tup xs, .int k => if xs ≠ [] ∧ 2 ≤ k ∧ k ≤ 1000 ∧ xs.length ≤ 1000 then some (.tup (repD k.toNat xs)) else none
  | _, _ => none
theorem op_mulD3 : OpR X (binaryOp .Mult) (fun x y H Q => rI MulOk (fun i j => .int (i * j)) x y H Q ∨ (rRep x y H Q ∨ rRepT X.K x y H Q)) := op_mulD.or (op_rep.or op_repT)
theorem opd_mul (hK : X.K = G.K) : OpD G (fun x y H Q => rI MulOk (fun i j => .int (i * j)) x y H Q ∨ (rRep x y H Q ∨ rRepT X.K x y H Q)) dMul := ⟨fun ad S H st x y dx dy d Q su so rx ry e q => by
  unfold dMul at e
  split at e
  · split at e <;> cases e
    rename_i hl
    cases rx; cases ry
    exact .inl ⟨_, _, rfl, rfl, hl, Post.here su so (.int _) q⟩
  · split at e <;> cases e
    rename_i hl
    cases rx with
    | lst h1 r1 =>
      cases ry
      exact .inr (.inl ⟨_, _, _, rfl, rfl, su _ _ h1, hl.1, hl.2.1, by rw [r1.len]; exact hl.2.2, fun p hp => Post.lst su so hp (r1.rep _) q⟩)
  · split at e <;> cases e
    rename_i hl
    cases rx with
    | tup h1 r1 =>
      cases ry
      exact .inr (.inr ⟨_, _, _, rfl, rfl, hK ▸ Same.sqT su h1.sqT, fun z => hl.1 (by subst z; cases r1; rfl), hl.2.1, hl.2.2.1, by rw [r1.len]; exact hl.2.2.2, fun p hp => Post.tup su so hp (r1.rep _) q⟩)
  · cases e⟩
/-! ### is -/
def isNonD : D → Bool
  | .non => true
  | _ => false
theorem isNon_rep {ad : List Addr} {S : Hp} {v : V} {d : D} (r : Rep G ad S v d) : decide (v = .non) = isNonD d := by cases r <;> rfl
def dIsN (x y : D) : Option D := match y with
  | .non => some (.bl (isNonD x))
  | _ => none
def dNotN (x y : D) : Option D := match y with
  | .non => some (.bl (!isNonD x))
  | _ => none
theorem opd_isN : OpD G (fun x y H Q => y = .non ∧ Q (.bl (decide (x = .non))) H) dIsN := ⟨fun ad S H st x y dx dy d Q su so rx ry e q => by
  cases ry <;> cases e
  exact ⟨rfl, by rw [isNon_rep rx]; exact Post.here su so (.bl _) q⟩⟩
theorem opd_notN : OpD G (fun x y H Q => y = .non ∧ Q (.bl (!decide (x = .non))) H) dNotN := ⟨fun ad S H st x y dx dy d Q su so rx ry e q => by
  cases ry <;> cases e
  exact ⟨rfl, by rw [isNon_rep rx]; exact Post.here su so (.bl _) q⟩⟩
def dIsB : D → D → Option D
  | .bl a, .bl b => some (.bl (decide (a = b)))
  | _, _ => none
def dNotB : D → D → Option D
  | .bl a, .bl b => some (.bl (!decide (a = b)))
  | _, _ => none
theorem opd_isB : OpD G (fun x y H Q => ∃ a b, x = .bl a ∧ y = .bl b ∧ Q (.bl (decide (a = b))) H) dIsB := ⟨fun ad S H st x y dx dy d Q su so rx ry e q => by
  cases rx <;> try cases e
  cases ry <;> cases e
  exact ⟨_, _, rfl, rfl, Post.here su so (.bl _) q⟩⟩
theorem opd_notB : OpD G (fun x y H Q => ∃ a b, x = .bl a ∧ y = .bl b ∧ Q (.bl (!decide (a = b))) H) dNotB := ⟨fun ad S H st x y dx dy d Q su so rx ry e q => by
  cases rx <;> try cases e
  cases ry <;> cases e
  exact ⟨_, _, rfl, rfl, Post.here su so (.bl _) q⟩⟩
/-! ### o[i] -/
def dIx : D → D → Option D
  | .lst xs, .int i => atI xs i
  | .rol xs, .int i => atI xs i
  | .tup xs, .int i => atI xs i
  | .str x, .int i => if x.length ≤ sizeLine then (atI x.cps.toList i).map fun c => .str ⟨#[c]⟩ else none
  | _, _ => none
theorem atI_rep {ad : List Addr} {S : Hp} {vs : List V} {ds : List D} {i : Int} {d : D} (r : Reps G ad S vs ds) (h : atI ds i = some d) : ∃ v, atI vs i = some v ∧ Rep G ad S v d := by
  unfold atI at h ⊢
  rw [r.len]
  cases e : ixN ds.length i with
  | none => rw [e] at h; cases h
  | some j =>
    rw [e] at h
    exact r.get (i := j) h
theorem opd_ix (hK : X.K = G.K) : OpD G (rIx X.K) dIx := ⟨fun ad S H st x y dx dy d Q su so rx ry e q => by
  cases ry with
  | int i =>
    cases rx with
    | str z =>
      have e : (if z.length ≤ sizeLine then (atI z.cps.toList i).map fun c => D.str ⟨#[c]⟩ else none) = some d := e
      split at e
      · rename_i hz
        cases ea : atI z.cps.toList i with
        | none => rw [ea] at e; cases e
        | some c =>
          rw [ea] at e
          cases e
          exact .inr (.inr ⟨z, i, c, rfl, rfl, hz, ea, Post.here su so (.str _) q⟩)
      · cases e
    | tup h r =>
      obtain ⟨v, h1, h2⟩ := atI_rep r e
      exact .inr (.inl ⟨_, _, _, _, rfl, rfl, hK ▸ Same.sqT su h.sqT, h1, Post.here su so h2 q⟩)
    | lst h r =>
      obtain ⟨v, h1, h2⟩ := atI_rep r e
      exact .inl ⟨_, _, _, _, rfl, rfl, SqL.of (su _ _ h), h1, Post.here su so h2 q⟩
    | rol h r =>
      obtain ⟨v, h1, h2⟩ := atI_rep r e
      exact .inl ⟨_, _, _, _, rfl, rfl, hK ▸ su.seq h, h1, Post.here su so h2 q⟩
    | _ => cases e
  | _ => cases rx <;> cases e⟩
/-! ### built-ins -/
def c1 (f : D → Option D) : List D → Option D
  | [x] => f x
  | _ => none
theorem reps1 {ad : List Addr} {S : Hp} {vs : List V} {d : D} (r : Reps G ad S vs [d]) : ∃ v, vs = [v] ∧ Rep G ad S v d := by
  cases r with
  | cons h r => cases r; exact ⟨_, rfl, h⟩
theorem reps2 {ad : List Addr} {S : Hp} {vs : List V} {d e : D} (r : Reps G ad S vs [d, e]) : ∃ v w, vs = [v, w] ∧ Rep G ad S v d ∧ Rep G ad S w e := by
  cases r with
  | cons h r =>
    obtain ⟨w, rfl, h2⟩ := reps1 r
    exact ⟨_, _, rfl, h, h2⟩
theorem c1_some {f : D → Option D} {ds : List D} {d : D} (h : c1 f ds = some d) : ∃ x, ds = [x] ∧ f x = some d := by
  match ds, h with
  | [x], h => exact ⟨x, rfl, h⟩
def dAbs : D → Option D := i1 fun i => .int (if i < 0 then -i else i)
theorem cd_abs : CallD G (fun xs H Q => ∃ i, xs = [.int i] ∧ Q (.int (if i < 0 then -i else i)) H) (c1 dAbs) := ⟨fun ad S H st xs ds d Q su so r e q => by
  obtain ⟨x, rfl, e⟩ := c1_some e
  obtain ⟨v, rfl, rv⟩ := reps1 r
  cases rv <;> cases e
  exact ⟨_, rfl, Post.here su so (.int _) q⟩⟩
def dInt1 : D → Option D
  | .int i => some (.int i)
  | .bl b => some (.int (if b then 1 else 0))
  | _ => none
theorem cd_int : CallD G (fun xs H Q => (∃ i, xs = [.int i] ∧ Q (.int i) H) ∨ ∃ k, xs = [.bl k] ∧ Q (.int (if k then 1 else 0)) H) (c1 dInt1) := ⟨fun ad S H st xs ds d Q su so r e q => by
  obtain ⟨x, rfl, e⟩ := c1_some e
  obtain ⟨v, rfl, rv⟩ := reps1 r
  cases rv <;> cases e
  · exact .inr ⟨_, rfl, Post.here su so (.int _) q⟩
  · exact .inl ⟨_, rfl, Post.here su so (.int _) q⟩⟩
def dLen : D → Option D
  | .str x => if x.length ≤ sizeLine then some (.int (x.length : Nat)) else none
  | .lst xs => some (.int (xs.length : Nat))
  | .rol xs => some (.int (xs.length : Nat))
  | .tup xs => some (.int (xs.length : Nat))
  | _ => none
theorem cd_len (hK : X.K = G.K) : CallD G (fun xs H Q => ∃ x n, xs = [x] ∧ LenV X.K x H n ∧ Q (.int n) H) (c1 dLen) := ⟨fun ad S H st xs ds d Q su so r e q => by
  obtain ⟨x, rfl, e⟩ := c1_some e
  obtain ⟨v, rfl, rv⟩ := reps1 r
  cases rv with
  | str z =>
    have e2 : (if z.length ≤ sizeLine then some (D.int (z.length : Nat)) else none) = some d := e
    by_cases hz : z.length ≤ sizeLine
    case neg => rw [if_neg hz] at e2; cases e2
    rw [if_pos hz] at e2
    cases e2
    exact ⟨_, _, rfl, ⟨hz, rfl⟩, Post.here su so (.int _) q⟩
  | tup h r1 => cases e; exact ⟨_, _, rfl, .inr ⟨_, hK ▸ Same.sqT su h.sqT, rfl⟩, by rw [r1.len]; exact Post.here su so (.int _) q⟩
  | lst h r1 => cases e; exact ⟨_, _, rfl, .inl ⟨_, SqL.of (su _ _ h), rfl⟩, by rw [r1.len]; exact Post.here su so (.int _) q⟩
  | rol h r1 => cases e; exact ⟨_, _, rfl, .inl ⟨_, hK ▸ su.seq h, rfl⟩, by rw [r1.len]; exact Post.here su so (.int _) q⟩
  | _ => cases e⟩
def c2i (f : Int → Int → D) : List D → Option D
  | [.int a, .int b] => some (f a b)
  | _ => none
theorem c2i_some {f : Int → Int → D} {ds : List D} {d : D} (h : c2i f ds = some d) : ∃ a b, ds = [.int a, .int b] ∧ d = f a b := by
  match ds, h with
  | [.int a, .int b], h => exact ⟨a, b, rfl, (Option.some.inj h).symm⟩
def dGcd : List D → Option D := c2i fun a b => .int ((Nat.gcd a.natAbs b.natAbs : Nat) : Int)
theorem cd_gcd : CallD G rGcd dGcd := ⟨fun ad S H st xs ds d Q su so r e q => by
  obtain ⟨a, b, rfl, rfl⟩ := c2i_some e
  obtain ⟨v, w, rfl, r1, r2⟩ := reps2 r
  cases r1; cases r2
  exact ⟨a, b, rfl, Post.here su so (.int _) q⟩⟩
/-- list(..), tuple(..) of a list or a tuple -/
def dList : D → Option D
  | .lst xs => some (.lst xs)
  | .rol xs => some (.lst xs)
  | .tup xs => some (.lst xs)
  | _ => none
theorem cd_list (hK : X.K = G.K) : CallD G (fun xs H Q => ∃ p ys, xs = [.ref p] ∧ (SqL X.K H p ys ∨ SqT X.K H p ys) ∧ ∀ l, H l = none → Q (.ref l) (upd H l (.lst ys))) (c1 dList) := ⟨fun ad S H st xs ds d Q su so r e q => by
  obtain ⟨x, rfl, e⟩ := c1_some e
  obtain ⟨v, rfl, rv⟩ := reps1 r
  cases rv with
  | tup h r1 => cases e; exact ⟨_, _, rfl, .inr (hK ▸ Same.sqT su h.sqT), fun l hl => Post.lst su so hl r1 q⟩
  | lst h r1 => cases e; exact ⟨_, _, rfl, .inl (SqL.of (su _ _ h)), fun l hl => Post.lst su so hl r1 q⟩
  | rol h r1 => cases e; exact ⟨_, _, rfl, .inl (hK ▸ su.seq h), fun l hl => Post.lst su so hl r1 q⟩
  | _ => cases e⟩
def dTuple : D → Option D
  | .lst xs => some (.tup xs)
  | .rol xs => some (.tup xs)
  | .tup xs => some (.tup xs)
  | _ => none
theorem cd_tuple (hK : X.K = G.K) : CallD G (fun xs H Q => ∃ p ys, xs = [.ref p] ∧ ((SqL X.K H p ys ∧ ∀ l, H l = none → Q (.ref l) (upd H l (.tup ys))) ∨ (SqT X.K H p ys ∧ Q (.ref p) H))) (c1 dTuple) := ⟨fun ad S H st xs ds d Q su so r e q => by
  obtain ⟨x, rfl, e⟩ := c1_some e
  obtain ⟨v, rfl, rv⟩ := reps1 r
  cases rv with
  | tup h r1 => cases e; exact ⟨_, _, rfl, .inr ⟨hK ▸ Same.sqT su h.sqT, Post.here su so (.tup h r1) q⟩⟩
  | lst h r1 => cases e; exact ⟨_, _, rfl, .inl ⟨SqL.of (su _ _ h), fun l hl => Post.tup su so hl r1 q⟩⟩
  | rol h r1 => cases e; exact ⟨_, _, rfl, .inl ⟨hK ▸ su.seq h, fun l hl => Post.tup su so hl r1 q⟩⟩
  | _ => cases e⟩
/-! ### isinstance -/
/-- the built-in type of a value -/
def tyN : D → Option String
  | .non => some "NoneType"
  | .bl _ => some "bool"
  | .int _ => some "int"
  | .str _ => some "str"
  | .tup _ => some "tuple"
  | .lst _ => some "list"
  | .rol _ => some "list"
  | _ => none
def subTy (a b : String) : Option Bool :=
  if a = b then some true
  else if a = "bool" ∧ b = "int" then some true
  else if (a = "NoneType" ∨ a = "bool" ∨ a = "int" ∨ a = "str" ∨ a = "tuple" ∨ a = "list") ∧ (b = "bool" ∨ b = "int" ∨ b = "str" ∨ b = "tuple" ∨ b = "list") then some false else none
theorem subTy_ok {K : PySem.W.Frag} {a b : String} {r : Bool} (h : subTy a b = some r) : PySem.W.kitOne K (.type a) (.type b) = some r := by
  refine kit_ty ?_
  unfold subTy at h
  split at h
  · rename_i e; subst e; cases h
    unfold kitB
    simp
  · split at h
    · rename_i e; obtain ⟨rfl, rfl⟩ := e; cases h; decide +kernel
    · split at h
      · rename_i hne hbi e
        cases h
        obtain ⟨ha, hb⟩ := e
        rcases ha with rfl | rfl | rfl | rfl | rfl | rfl <;> rcases hb with rfl | rfl | rfl | rfl | rfl <;> first | decide +kernel | exact absurd rfl hne | exact absurd (And.intro rfl rfl) hbi
      · cases h
def isiD (x c : D) : Option Bool := match tyN x, c with
  | some a, .ty b => subTy a b
  | _, _ => none
def anyIsi (x : D) : List D → Option Bool
  | [] => some false
  | c :: cs => match isiD x c, anyIsi x cs with
    | some a, some b => some (a || b)
    | _, _ => none
def dIsi : List D → Option D
  | [x, .tup (c :: cs)] => (anyIsi x (c :: cs)).map .bl
  | [x, c] => (isiD x c).map .bl
  | _ => none
theorem tyN_ok {ad : List Addr} {S H : Hp} {v : V} {d : D} {a : String} (su : Same S H) (r : Rep G ad S v d) (ea : tyN d = some a) : TyX G.K H v (.type a) := by
  cases r <;> cases ea
  · exact .base .non
  · exact .base (.bl _)
  · exact .base (.int _)
  · exact .base (.str _)
  · rename_i h r
    rcases h with h | ⟨o, its, n, h1, h2, _⟩
    · exact .base (.tup (su _ _ h))
    · exact .kTuple h1 h2
  · rename_i h r
    exact .base (.lst (su _ _ h))
  · rename_i h r
    rcases h with (h | ⟨o, h⟩) | ⟨o, its, n, h1, h2, _⟩
    · exact .base (.lst (su _ _ h))
    · exact .base (.frz (su _ _ h))
    · exact .kList h1 h2
theorem isi_cls {ad : List Addr} {S : Hp} {w : V} {d c : D} {k : Bool} (rc : Rep G ad S w c) (h : isiD d c = some k) : ∃ a b, tyN d = some a ∧ ClsV w (.type b) ∧ PySem.W.kitOne G.K (.type a) (.type b) = some k := by
  unfold isiD at h
  split at h
  · rename_i a b ea
    cases rc
    exact ⟨a, b, ea, .ty b, subTy_ok h⟩
  · cases h
theorem any_ok {ad : List Addr} {S : Hp} {d : D} {a : String} (ea : tyN d = some a) : ∀ {ws : List V} {cs : List D} {k : Bool}, Reps G ad S ws cs → anyIsi d cs = some k → ∃ us, Paired ClsV ws us ∧ PySem.W.kitAny G.K (.type a) us = some k
  | _, _, k, .nil, h => ⟨[], .nil, by cases h; rfl⟩
  | _, _, k, .cons (v := w) (d := c) (ds := cs) rc rr, h => by
    unfold anyIsi at h
    split at h
    · rename_i p q e1 e2
      cases h
      obtain ⟨us, hu, hk⟩ := any_ok ea rr e2
      obtain ⟨a', b, ea', hc, h1⟩ := isi_cls rc e1
      rw [ea] at ea'
      cases ea'
      refine ⟨_, .cons hc hu, kitAny_cons h1 (fun z => ?_) (fun z => ?_)⟩
      · rw [z]; exact hk
      · rw [z]; rfl
    · cases h
theorem cd_isi (hK : X.K = G.K) : CallD G (fun xs H Q => rIsi X.K xs H Q ∨ (rIsiT X.K xs H Q ∨ rIsiK X.K xs H Q)) dIsi := ⟨fun ad S H st xs ds d Q su so r e q => by
  unfold dIsi at e
  split at e
  · rename_i x c0 cs0
    obtain ⟨v, w, rfl, r1, r2⟩ := reps2 r
    obtain ⟨cs, hcs⟩ : ∃ cs, cs = c0 :: cs0 := ⟨_, rfl⟩
    rw [← hcs] at e r2
    cases ek : anyIsi x cs with
    | none => rw [ek] at e; cases e
    | some k =>
      rw [ek] at e
      cases e
      cases r2 with
      | tup h2 r2 =>
        obtain ⟨a, ea⟩ : ∃ a, tyN x = some a := by
          rw [hcs] at ek
          unfold anyIsi isiD at ek
          cases et : tyN x with
          | none => rw [et] at ek; cases ek
          | some a => exact ⟨a, rfl⟩
        obtain ⟨us, p, hk⟩ := any_ok ea r2 ek
        rcases h2 with h2 | ⟨o, its, n, h3, h4, h5, h6, h7⟩
        · exact .inr (.inl ⟨v, _, _, .type a, us, k, rfl, su _ _ h2, p, hK ▸ tyN_ok su r1 ea, hK ▸ hk, Post.here su so (.bl _) q⟩)
        · have e3 : its.toList = us := ClsV.all p h7
          obtain ⟨oc, od, dt, sl⟩ := o
          simp only at h4 h5
          subst h4 h5
          refine .inr (.inr ⟨v, _, od, us, n, sl, .type a, k, rfl, ?_, hK ▸ tyN_ok su r1 ea, hK ▸ hk, Post.here su so (.bl _) q⟩)
          rw [hK, h3, ← e3]
  · rename_i x c hne
    obtain ⟨v, w, rfl, r1, r2⟩ := reps2 r
    cases ek : isiD x c with
    | none => rw [ek] at e; cases e
    | some k =>
      rw [ek] at e
      cases e
      obtain ⟨a, b, ea, hc, h1⟩ := isi_cls r2 ek
      exact .inl ⟨v, w, .type a, .type b, k, rfl, hc, hK ▸ tyN_ok su r1 ea, hK ▸ h1, Post.here su so (.bl _) q⟩
  · cases e⟩
end
end DL

/-! DL, sixth part: truth, cells, try, comprehensions. -/
namespace DL
open PySem PySem.Spec PyProof.Rows L2

/-! ### truth of a value -/
def tru? : D → M Bool
  | .non => fun st => .ok false st
  | .bl b => fun st => .ok b st
  | .int i => fun st => .ok (i != 0) st
  | .str x => fun st => if x.length ≤ sizeLine then .ok ((x.length : Int) != 0) st else .bad
  | .lst xs => fun st => .ok (!xs.isEmpty) st
  | .rol xs => fun st => .ok (!xs.isEmpty) st
  | .tup xs => fun st => .ok (!xs.isEmpty) st
  | _ => fun _ => .bad
def mTru (ma : ME) : MT := fun env st => (ma env st).bind tru?
theorem reps_empty {G : Glb} {ad : List Addr} {S : Hp} {vs : List V} {ds : List D} (r : Reps G ad S vs ds) : vs.isEmpty = ds.isEmpty := by cases r <;> rfl
section
variable {G : Glb} {X : Cx} {W : WX} {O : Ow} {pos : Pos}
theorem dt_tru {e : Expr} {m : ME} (hK : X.K = G.K) (h : DE G X W O e m) (he : ∀ whole, isTrue e X.env whole = (do let v ← whole; standAt e.pos; holding [v] (truthy v)) := by intro _; rfl) : DT G X W O e (mTru m) := by
  obtain ⟨t, p, w⟩ := h.ex
  refine ⟨_, pt_truth p he, fun b S env st σ H Q I h => w b S env st σ H _ I (wpR_imp (wpR_bind h) (fun dx st1 h1 => ?_) fun _ _ z => z)⟩
  intro x S1 H1 x1 su1 so1 r1
  cases r1 with
  | non => exact ⟨_, rfl, h1 _ _ x1 su1 so1⟩
  | bl b => exact ⟨_, rfl, h1 _ _ x1 su1 so1⟩
  | int i => exact ⟨_, rfl, h1 _ _ x1 su1 so1⟩
  | str z =>
    have e0 : tru? (.str z) st1 = if z.length ≤ sizeLine then Res.ok ((z.length : Int) != 0) st1 else .bad := rfl
    rw [e0] at h1
    by_cases hz : z.length ≤ sizeLine
    · rw [if_pos hz] at h1
      exact ⟨_, ⟨hz, rfl⟩, h1 _ _ x1 su1 so1⟩
    · rw [if_neg hz] at h1; exact h1.elim
  | tup h r => exact ⟨_, .inr (.inl ⟨_, hK ▸ Same.sqT su1 h.sqT, rfl⟩), by rw [reps_empty r]; exact h1 _ _ x1 su1 so1⟩
  | lst h r => exact ⟨_, .inl ⟨_, SqL.of (su1 _ _ h), rfl⟩, by rw [reps_empty r]; exact h1 _ _ x1 su1 so1⟩
  | rol h r => exact ⟨_, .inl ⟨_, hK ▸ su1.seq h, rfl⟩, by rw [reps_empty r]; exact h1 _ _ x1 su1 so1⟩
  | _ => exact h1.elim

/-! ### cells -/
def ixS (x y : D) : M D := fun st => match x with
  | .tok n => match st[n]?, y with
    | some (.lst ds), .int i => ret? (atI ds i) st
    | _, _ => .bad
  | _ => ret? (dIx x y) st
theorem ixS_other {x y : D} {st : List D} (hn : ∀ n, x ≠ .tok n) : ixS x y st = ret? (dIx x y) st := by
  unfold ixS
  cases x <;> first | rfl | exact absurd rfl (hn _)
theorem ixS_tok {n : Nat} {i : Int} {st ds : List D} (h : st[n]? = some (.lst ds)) : ixS (.tok n) (.int i) st = ret? (atI ds i) st := by
  show (match st[n]?, D.int i with | some (.lst ds), .int i => ret? (atI ds i) st | _, _ => .bad) = _
  rw [h]
theorem ixS_tokI {n : Nat} {y : D} {st : List D} {ds : List D} (h : st[n]? = some (.lst ds)) (hy : ∀ i, y ≠ .int i) : ixS (.tok n) y st = .bad := by
  show (match st[n]?, y with | some (.lst ds), .int i => ret? (atI ds i) st | _, _ => .bad) = _
  rw [h]
  cases y <;> first | rfl | exact absurd rfl (hy _)
/-- o[i], o a cell or any other -/
def mIx (ma mb : ME) : ME := fun env st => (ma env st).bind fun x st1 => (mb env st1).bind fun y => ixS x y
theorem de_get {a b : Expr} {ma mb : ME} (hK : X.K = G.K) (ha : DE G X W O a ma) (hb : DE G X W O b mb) (hs : PlainIx b := by intro _ _; rfl) : DE G X W O (.Subscript a b pos) (mIx ma mb) := by
  obtain ⟨ta, tb, pa, pb, w⟩ := two_parts (k := ixS) ha hb
  refine ⟨_, pe_ix ix_seq pa pb hs, fun b S env st σ H Q I h => w b S env st σ H _ (fun x y H2 => rIx X.K x y H2 Q) I h fun x y dx dy S' H' st' e I' rx ry hk => ?_⟩
  by_cases ht : ∃ n, dx = .tok n
  · obtain ⟨n, rfl⟩ := ht
    cases rx with
    | tok ha =>
      rename_i a
      obtain ⟨h1, ds, vs, h2, h3, h4⟩ := I'.sto.at_ n a ha
      cases ry with
      | int i =>
        rw [ixS_tok h2] at hk
        obtain ⟨d, e1, q⟩ := wp_ret hk
        obtain ⟨v, e2, r2⟩ := atI_rep h4 e1
        exact .inl ⟨_, _, _, _, rfl, rfl, SqL.of h3, e2, Post.here I'.sub I'.sto r2 (Post.from_ e I'.sto q)⟩
      | _ => rw [ixS_tokI h2 (fun i z => by cases z)] at hk; exact hk.elim
  · rw [ixS_other fun n z => ht ⟨n, z⟩] at hk
    obtain ⟨d, e1, q⟩ := wp_ret hk
    exact (opd_ix hK).go b.ad S' H' st' x y dx dy d Q I'.sub I'.sto rx ry e1 (Post.from_ e I'.sto q)
theorem nodup_inj {α : Type} {l : List α} {i j : Nat} (nd : l.Nodup) (hi : i < l.length) (hj : j < l.length) (e : l[i] = l[j]) : i = j := (List.getElem_inj nd).mp e
theorem StoOk.put {ad : List Addr} {S H : Hp} {st : List D} {n j : Nat} {a : Addr} {ds : List D} {vs : List V} {v : V} {d : D} (so : StoOk G ad S st H) (ha : ad[n]? = some a) (hd : st[n]? = some (.lst ds)) (hv : H a = some (.lst vs)) (r : Rep G ad S v d) : StoOk G ad S (st.set n (.lst (ds.set j d))) (upd H a (.lst (vs.set j v))) := by
  refine ⟨by rw [List.length_set]; exact so.len, so.nd, fun m c hc => ?_⟩
  obtain ⟨h1, es, ws, h2, h3, h4⟩ := so.at_ m c hc
  by_cases hm : m = n
  · subst hm
    have e1 : a = c := Option.some.inj (ha.symm.trans hc)
    subst e1
    rw [hd] at h2; cases h2
    rw [hv] at h3; cases h3
    have hl : m < st.length := (List.getElem?_eq_some_iff.mp hd).1
    exact ⟨h1, _, _, List.getElem?_set_self hl, upd_same, h4.set j r⟩
  · have hne : c ≠ a := fun z => hm (by
      subst z
      have i1 := (List.getElem?_eq_some_iff.mp hc)
      have i2 := (List.getElem?_eq_some_iff.mp ha)
      exact nodup_inj so.nd i1.1 i2.1 (i1.2.trans i2.2.symm))
    refine ⟨h1, es, ws, ?_, ?_, h4⟩
    · rw [List.getElem?_set_ne (Ne.symm hm)]; exact h2
    · rw [upd_ne hne]; exact h3
/-- cell[k] = e -/
def mPut (i : Nat) (k : Int) (m : ME) : MS := mDo m fun d env st => match env[i]? with
  | some (some (.tok n)) => match st[n]? with
    | some (.lst ds) => match ixN ds.length k with
      | some j => .nx env (st.set n (.lst (ds.set j d)))
      | none => .bad
    | _ => .bad
  | _ => .bad
theorem ds_put {Ob : Ow} {OE : Ow → Prop} (i : Nat) {x : Str} {k : Int} {j} {p1 p2 p3 : Pos} {e : Expr} {me : ME} (he : DE G X W O e me) (hO : OE O := by first | trivial | rfl) (hN : X.N[i]? = some x := by rfl) (ho : O.has i = false := by rfl)
    (hv : Vis X.env.scope x := by first | exact Or.inl rfl | exact Or.inr (Or.inl rfl) | exact Or.inr (Or.inr rfl)) (hd : (x == ("__debug__" : Str)) = false := by decide) (hcd : (x == ("__classdict__" : Str)) = false := by decide)
    (ha : ∀ v, assign (.Subscript (.Name x p1) (.Constant (.int k) j p2) p3) X.env v = (do
      let ov ← holding [v] (eval (.Name x p1) X.env)
      let iv ← holding [v, ov] (eval (.Constant (.int k) j p2) X.env)
      standAt p3
      holding [v, ov, iv] (setItem ov iv v)
      release [v, ov, iv] []) := by intro _; rfl)
    (hs : swapsWithSole [.Subscript (.Name x p1) (.Constant (.int k) j p2) p3] e pos.line X.env = pure false := by rfl) (hw : swappedStores [.Subscript (.Name x p1) (.Constant (.int k) j p2) p3] e X.env = pure none := by rfl)
    (h1 : (assignEach [.Subscript (.Name x p1) (.Constant (.int k) j p2) p3] X.env).map (·.2) = [assign (.Subscript (.Name x p1) (.Constant (.int k) j p2) p3) X.env] := by rfl) :
    DS G X W Ob OE O (.Assign [.Subscript (.Name x p1) (.Constant (.int k) j p2) p3] e pos) O (mPut i k me) := by
  obtain ⟨t, p, w⟩ := he.ex
  refine ⟨_, ps_asg p (pg_sub (pe_var hN hv hd hcd) pe_int set_list ha) hs hw h1, fun b S env st σ H D I h => do_part hO w I h fun v d S' H' st' I' r q => ?_⟩
  cases e1 : env[i]? with
  | none => rw [e1] at q; exact q.elim
  | some o =>
    rw [e1] at q
    cases o with
    | none => exact q.elim
    | some d0 =>
      obtain ⟨v0, hv0, r0⟩ := I'.slot i d0 e1 ho
      cases r0 with
      | tok ha0 =>
        rename_i a n
        obtain ⟨g1, ds, vs, g2, g3, g4⟩ := I'.sto.at_ n a ha0
        dsimp only at q
        rw [g2] at q
        dsimp only at q
        cases e2 : ixN ds.length k with
        | none => rw [e2] at q; exact q.elim
        | some jj =>
          rw [e2] at q
          refine ⟨_, hv0, a, vs, k, jj, rfl, rfl, g3, by rw [g4.len]; exact e2, ?_⟩
          have so2 := StoOk.put (j := jj) I'.sto ha0 g2 g3 r
          refine q S' σ _ (.refl _) ⟨I'.len, fun c o hc => ?_, I'.s0, I'.new, fun c o hc hna => ?_, I'.slot, fun m d' hm hd' => ?_, I'.dist, so2, I'.exc⟩
          · rw [upd_ne fun z => by subst z; rw [g1] at hc; cases hc]; exact I'.sub _ _ hc
          · rw [upd_ne fun z => hna (by subst z; exact List.mem_iff_getElem?.mpr ⟨n, ha0⟩)]; exact I'.keep c o hc hna
          · obtain ⟨c, ws, es, q1, q2, q3, q4, q5, q6, q7⟩ := I'.own m d' hm hd'
            refine ⟨c, ws, es, q1, q2, ?_, q4, q5, q6, q7⟩
            rw [upd_ne fun z => q6 (by subst z; exact List.mem_iff_getElem?.mpr ⟨n, ha0⟩)]; exact q3
      | _ => exact q.elim
end

/-! ### try -/
abbrev W0 : WX := fun _ _ _ _ => False
theorem takesW0 {X : Cx} : Takes X W0 := takes0
/-- a reading weakened -/
theorem PSs.imp {X : Cx} {st : List Stmt} {t t' : TS} (h : PSs X st t) (hi : ∀ D σ H, t' D σ H → t D σ H) : PSs X st t' := ⟨fun pins s σ H D I q => h.run pins s σ H D I (hi _ _ _ q)⟩
theorem DI.unexc {G : Glb} {b : Act} {own : List Nat} {i : Nat} {exv : Addr × Value × Option Addr} {S H : Hp} {env : Env'} {st : List D} {σ : L2.St} (I : DI G b ⟨own, some i, exv⟩ S env st σ H) (hi : own.elem i = false) (v : Addr × Value × Option Addr) : DI G b ⟨own, none, v⟩ S (env.set i none) st (σ.set i none) H := by
  have hne : ∀ {j : Nat}, j ∈ own → j ≠ i := fun {j} hj z => by
    subst z
    rw [List.elem_eq_true_of_mem hj] at hi; cases hi
  have other : ∀ {j : Nat} {d' : D}, (env.set i none)[j]? = some (some d') → j ≠ i ∧ env[j]? = some (some d') := fun {j d'} h => by
    by_cases hj : j = i
    · subst hj
      by_cases hl : j < env.length
      · rw [List.getElem?_set_self hl] at h; cases h
      · rw [List.getElem?_eq_none_iff.mpr (by rw [List.length_set]; exact Nat.le_of_not_lt hl)] at h; cases h
    · rw [List.getElem?_set_ne (Ne.symm hj)] at h; exact ⟨hj, h⟩
  refine ⟨by rw [List.length_set, List.length_set]; exact I.len, I.sub, I.s0, I.new, I.keep, fun j d' h ho => ?_, fun j d' hj h => ?_, fun j k a hj hk e1 e2 q1 q2 => ?_, I.sto, fun j d' hj => by cases hj⟩
  · obtain ⟨hn, h⟩ := other h
    have ho' : (Ow.mk own (some i) exv).has j = false := by
      unfold Ow.has at ho ⊢
      have h1 : own.elem j = false := by
        cases e : own.elem j with
        | false => rfl
        | true => rw [show (Ow.mk own none v).own.elem j = true from e] at ho; cases ho
      have h2 : ((Ow.mk own (some i) exv).exi == some j) = false := by
        simpa using (Ne.symm hn)
      rw [show (Ow.mk own (some i) exv).own.elem j = false from h1, h2]; rfl
    obtain ⟨w, q1, q2⟩ := I.slot j d' h ho'
    exact ⟨w, by rw [List.getElem?_set_ne (Ne.symm hn)]; exact q1, q2⟩
  · obtain ⟨hn, h⟩ := other h
    obtain ⟨a, vs, ds, q1, q2, q3⟩ := I.own j d' hj h
    exact ⟨a, vs, ds, q1, by rw [List.getElem?_set_ne (Ne.symm hn)]; exact q2, q3⟩
  · obtain ⟨d1, e1⟩ := e1
    obtain ⟨d2, e2⟩ := e2
    obtain ⟨hn1, e1⟩ := other e1
    obtain ⟨hn2, e2⟩ := other e2
    rw [List.getElem?_set_ne (Ne.symm hn1)] at q1
    rw [List.getElem?_set_ne (Ne.symm hn2)] at q2
    exact I.dist j k a hj hk ⟨d1, e1⟩ ⟨d2, e2⟩ q1 q2
theorem DI.toexc {G : Glb} {b : Act} {own : List Nat} {v : Addr × Value × Option Addr} {i : Nat} {a : Addr} {cls : Value} {dd : Option Addr} {x : Ex} {S H : Hp} {env : Env'} {st : List D} {σ : L2.St} (I : DI G b ⟨own, none, v⟩ S env st σ H) (hi : own.elem i = false) (r : RepX G b.ad S cls dd x) : DI G b ⟨own, some i, (a, cls, dd)⟩ S (env.set i (some (exObj x))) st (σ.set i (some (.ref a))) H := by
  have hne : ∀ {j : Nat}, j ∈ own → j ≠ i := fun {j} hj z => by
    subst z
    rw [List.elem_eq_true_of_mem hj] at hi; cases hi
  have other : ∀ {j : Nat} {d' : D}, j ≠ i → (env.set i (some (exObj x)))[j]? = some (some d') → env[j]? = some (some d') := fun {j d'} hj h => by
    rw [List.getElem?_set_ne (Ne.symm hj)] at h; exact h
  refine ⟨by rw [List.length_set, List.length_set]; exact I.len, I.sub, I.s0, I.new, I.keep, fun j d' h ho => ?_, fun j d' hj h => ?_, fun j k a' hj hk e1 e2 q1 q2 => ?_, I.sto, fun j d' hj h => ?_⟩
  · have hn : j ≠ i := fun z => by
      subst z
      unfold Ow.has at ho
      simp at ho
    have ho' : (Ow.mk own none v).has j = false := by
      unfold Ow.has at ho ⊢
      have h1 : own.elem j = false := by
        cases e : own.elem j with
        | false => rfl
        | true => rw [show (Ow.mk own (some i) (a, cls, dd)).own.elem j = true from e] at ho; cases ho
      rw [show (Ow.mk own none v).own.elem j = false from h1]; rfl
    obtain ⟨w, q1, q2⟩ := I.slot j d' (other hn h) ho'
    exact ⟨w, by rw [List.getElem?_set_ne (Ne.symm hn)]; exact q1, q2⟩
  · obtain ⟨a', vs, ds, q1, q2, q3⟩ := I.own j d' hj (other (hne hj) h)
    exact ⟨a', vs, ds, q1, by rw [List.getElem?_set_ne (Ne.symm (hne hj))]; exact q2, q3⟩
  · rw [List.getElem?_set_ne (Ne.symm (hne hj))] at q1
    rw [List.getElem?_set_ne (Ne.symm (hne hk))] at q2
    obtain ⟨d1, e1⟩ := e1
    obtain ⟨d2, e2⟩ := e2
    exact I.dist j k a' hj hk ⟨d1, other (hne hj) e1⟩ ⟨d2, other (hne hk) e2⟩ q1 q2
  · cases hj
    by_cases hl : i < env.length
    · rw [List.getElem?_set_self hl] at h
      have e : exObj x = d' := by simpa using h
      exact ⟨x, e.symm, by rw [List.getElem?_set_self (by rw [I.len]; exact hl)], r⟩
    · rw [List.getElem?_eq_none_iff.mpr (by rw [List.length_set]; exact Nat.le_of_not_lt hl)] at h; cases h

/-- behind a suite: slot i forgotten, no error -/
def unX (i : Nat) : Out → Out
  | .nx env st => .nx (env.set i none) st
  | .rt d st => .rt d st
  | .bk env st => .bk (env.set i none) st
  | .ct env st => .ct (env.set i none) st
  | .er _ _ _ => .bad
  | .bad => .bad
def mTryAs (cl : Nat → Option Bool) (i : Nat) (m ms : MS) : MS := fun env st => match m env st with
  | .er x env1 st1 => match cl x.c with
    | some true => unX i (ms (env1.set i (some (exObj x))) st1)
    | some false => .er x env1 st1
    | none => .bad
  | o => o
section
variable {G : Glb} {X : Cx} {W : WX} {OE : Ow → Prop} {pos pos' np : Pos} {k : Nat}
theorem XC.tr (xc : XC k G X W) {W' : WX} {pn : List (Addr × Obj)} {xe : Value → Shared → Prop} (tk : Takes (X.tr pn xe) W') (po : PassesOwn (model X.prog X.w) X.A X.env xe) : XC k G (X.tr pn xe) W' := ⟨tk, po, xc.calm, xc.hr, xc.K⟩
theorem XT.tr (t : XT X) (pn : List (Addr × Obj)) (xe : Value → Shared → Prop) : XT (X.tr pn xe) := ⟨t.stk, t.fr⟩
theorem ds_try_as {own ob : List Nat} {body suite : List Stmt} {b₀ : Stmt} {x n : Str} {cv : Value} {m ms : MS} (i : Nat) (cl : Nat → Option Bool) (xc : XC k G X W) (xt : XT X) (hN : X.N.Nodup) (hc : Names X x cv) (hcl : ∀ c b, cl c = some b → PySem.W.exmOne G.K (.ref (G.cl c)) cv = some b)
    (hb : ∀ (W' : WX) (pn : List (Addr × Obj)) (xe : Value → Shared → Prop), XC k G (X.tr pn xe) W' → XT (X.tr pn xe) → DSs G (X.tr pn xe) W' ⟨ob, none, (0, .none, none)⟩ (· = ⟨own, none, (0, .none, none)⟩) ⟨own, none, (0, .none, none)⟩ body ⟨own, none, (0, .none, none)⟩ m)
    (hsu : ∀ (a : Addr) (oe : Obj) (cls : Value) (d : Option Addr) (pn : List (Addr × Obj)), Zc cls d oe → (∃ vs, oe.data = .fields vs) → DSs G (X.suite a ((a, oe) :: pn)) W0 ⟨ob, some i, (a, cls, d)⟩ (fun _ => True) ⟨own, some i, (a, cls, d)⟩ (b₀ :: suite) ⟨own, some i, (a, cls, d)⟩ ms)
    (hO : OE ⟨own, none, (0, .none, none)⟩ := by first | trivial | rfl) (hi : X.N[i]? = some n := by rfl) (hln : X.env.kindOf n = some .local := by rfl) (hio : own.elem i = false := by rfl) (hib : ob.elem i = false := by rfl) :
    DS G X W ⟨ob, none, (0, .none, none)⟩ OE ⟨own, none, (0, .none, none)⟩ (.Try body [.ExceptHandler (some (.Name x np)) (some n) (b₀ :: suite) pos'] [] [] pos) ⟨own, none, (0, .none, none)⟩ (mTryAs cl i m ms) := by
  refine ⟨_, ps_try_as (i := i) (Wout := W)
    (tb := fun W' D σ H => ∃ b S env st, DI G b ⟨own, none, (0, .none, none)⟩ S env st σ H ∧ PostS G b ⟨ob, none, (0, .none, none)⟩ (· = ⟨own, none, (0, .none, none)⟩) W' ⟨own, none, (0, .none, none)⟩ D S (m env st))
    (ts := fun a cls d D σ H => ∃ b S env st, DI G b ⟨own, some i, (a, cls, d)⟩ S env st σ H ∧ PostS G b ⟨ob, some i, (a, cls, d)⟩ (fun _ => True) W0 ⟨own, some i, (a, cls, d)⟩ D S (ms env st))
    xt.stk xt.fr hN hi hln hc xc.tk (fun W' pn xe tk po => ?_) (fun a oe cls d pn hz hf => ?_), fun b S env st σ H D I h => ?_⟩
  · obtain ⟨t, p, w⟩ := (hb W' pn xe (xc.tr tk po) (xt.tr pn xe)).ex
    exact PSs.imp p fun D σ H ⟨b, S, env, st, I, q⟩ => w b S env st σ H D I q
  · obtain ⟨t, p, w⟩ := (hsu a oe cls d pn hz hf).ex
    exact PSs.imp p fun D σ H ⟨b, S, env, st, I, q⟩ => w b S env st σ H D I q
  · refine ⟨b, S, env, st, I, ?_⟩
    unfold mTryAs at h
    cases e : m env st with
    | nx env1 st1 => rw [e] at h; exact h
    | rt d st1 => rw [e] at h; exact h
    | bk env1 st1 => rw [e] at h; exact h
    | ct env1 st1 => rw [e] at h; exact h
    | bad => rw [e] at h; exact h
    | er x env1 st1 =>
      rw [e] at h
      dsimp only at h
      intro cls dd O' S1 σ1 H1 hO' e1 I1 rx
      subst hO'
      cases ec : cl x.c with
      | none => rw [ec] at h; exact h.elim
      | some bb =>
        rw [ec] at h
        refine ⟨bb, by rw [xc.K, rx.1]; exact hcl _ _ ec, fun hbb a ha => ?_, fun hbb => ?_⟩
        · subst hbb
          dsimp only at h
          refine ⟨b, S1, _, st1, I1.toexc hio rx, ?_⟩
          cases es : ms (env1.set i (some (exObj x))) st1 with
          | nx env2 st2 =>
            rw [es] at h
            exact fun S2 σ2 H2 e2 I2 => h S2 _ H2 (e1.trans e2) (I2.unexc hio _)
          | rt d st2 => rw [es] at h; exact h
          | bk env2 st2 =>
            rw [es] at h
            exact fun S2 σ2 H2 e2 I2 => h S2 _ H2 (e1.trans e2) (I2.unexc hib _)
          | ct env2 st2 =>
            rw [es] at h
            exact fun S2 σ2 H2 e2 I2 => h S2 _ H2 (e1.trans e2) (I2.unexc hib _)
          | er x2 env2 st2 => rw [es] at h; exact h.elim
          | bad => rw [es] at h; exact h.elim
        · subst hbb
          exact h cls dd _ S1 σ1 H1 hO e1 I1 rx
end
/-! ### isinstance of the caught error -/
def mIsX (i : Nat) (tab : Nat → D → Option Bool) (mc : ME) : ME := fun env st => match env[i]? with
  | some (some (.obj c [])) => (mc env st).bind fun d => ret? ((tab c d).map .bl)
  | _ => .bad
def clsV (G : Glb) : D → Option Value
  | .cls c => some (.ref (G.cl c))
  | .ty n => some (.type n)
  | _ => none
end DL

/-! DL, seventh part: errors in suites, comprehensions, the law's own def. -/
namespace DL
open PySem PySem.Spec PyProof.Rows L2

section
variable {G : Glb} {X : Cx} {W : WX} {pos : Pos} {k : Nat}
/-! ### isinstance of the caught error -/
theorem cls_rel {ad : List Addr} {S : Hp} {v : V} {d : D} {cv : Value} (r : Rep G ad S v d) (h : clsV G d = some cv) : ∀ u, RelV v u → u = cv := by
  intro u ru
  cases r <;> cases h
  · exact ru
  · exact ru
theorem de_isX {own : List Nat} {a : Addr} {oe : Obj} {cls : Value} {dd : Option Addr} {pn : List (Addr × Obj)} {p pe : Pos} {n : Str} {C : Expr} {mc : ME} (i : Nat) (tab : Nat → D → Option Bool) (hz : Zc cls dd oe) (hf : ∃ vs, oe.data = .fields vs) (hK : X.K = G.K) (hm : X.mg "isinstance" = none)
    (ht : ∀ c d b, tab c d = some b → ExcC G.K (G.cl c) ∧ ∃ cv, clsV G d = some cv ∧ PySem.W.kitOne G.K (.ref (G.cl c)) cv = some b) (hC : DE G (X.suite a ((a, oe) :: pn)) W0 ⟨own, some i, (a, cls, dd)⟩ C mc)
    (hi : X.N[i]? = some n := by rfl) (hg : Gl X "isinstance" := by rfl) (hv : Vis X.env.scope n := by first | exact Or.inl rfl | exact Or.inr (Or.inl rfl) | exact Or.inr (Or.inr rfl)) (hd : (n == ("__debug__" : Str)) = false := by decide) (hcd : (n == ("__classdict__" : Str)) = false := by decide)
    (he : starEach [.Name n pe, C] X.env = (false, eval (.Name n pe) X.env) :: starEach [C] X.env := by rfl) (he2 : starEach [C] X.env = (false, eval C X.env) :: starEach [] X.env := by rfl) (hpl : (backTo pos (starEach [C] X.env)).any (·.1) = false := by rfl) :
    DE G (X.suite a ((a, oe) :: pn)) W0 ⟨own, some i, (a, cls, dd)⟩ (.Call (.Name "isinstance" p) [.Name n pe, C] [] pos) (mIsX i tab mc) := by
  obtain ⟨t, pc, w⟩ := hC.ex
  have hr : CallR (X.suite a ((a, oe) :: pn)) (.builtin "isinstance") (fun xs H Q => ∃ D, cls = .ref D ∧ dd = none ∧ ExcC X.K D ∧ rIsE X.K D a xs H Q) := by
    intro pins s σ H xs us Q I r h
    obtain ⟨D, e1, e2, hCx, h⟩ := h
    subst e1; subst e2
    exact call_isE hCx hz hf pins s σ H xs us Q I r h
  refine ⟨_, pe_callB hr hg hm PyProof.Rows.boot_isinstance (pa_cons (pe_var (i := i) hi hv hd hcd) (pa_cons pc pa_nil he2) he) (by decide) (by decide) he hpl, fun b S env st σ H Q I h => ?_⟩
  unfold mIsX at h
  split at h
  · rename_i c e
    obtain ⟨x, q1, q2, q3⟩ := I.exc i _ rfl e
    have rx : cls = .ref (G.cl c) ∧ dd = none := by
      obtain ⟨c', fs⟩ := x
      cases fs with
      | none => cases q1; exact ⟨q3.1, q3.2⟩
      | some fs => cases q1
    refine ⟨_, q2, w b S env st σ H _ I (wpR_imp (wpR_bind h) (fun d st1 h1 => ?_) fun _ _ z => z)⟩
    intro v S1 H1 x1 su1 so1 r1
    cases et : tab c d with
    | none => rw [et] at h1; exact h1.elim
    | some bb =>
      rw [et] at h1
      obtain ⟨hE, cv, hcv, hk⟩ := ht c d bb et
      exact ⟨_, rx.1, rx.2, hK ▸ hE, v, cv, bb, rfl, cls_rel r1 hcv, hK ▸ hk, h1 _ _ _ x1 su1 so1 (.bl _)⟩
  · exact h.elim
end

/-! ### the parts of a comprehension -/
theorem XC.blk (xc : XC k G X W) {s : Shared} {H : Hp} {scope : Scope} {cenv : Env} {fp : List Addr} : XC k G (X.blk s H scope cenv fp) W0 := ⟨takes0, PassesOwn.never, xc.calm, xc.hr, xc.K⟩
/-- no error may fly -/
def noEr {α : Type} (r : Res α) : Res α := match r with
  | .err _ _ => .bad
  | r => r
theorem wp_noEr {α : Type} {r : Res α} {ok : α → List D → Prop} {er er' : Ex → List D → Prop} (h : wpR (noEr r) ok er) : wpR r ok er' := by
  cases r with
  | ok a st => exact h
  | err x st => exact h.elim
  | bad => exact h.elim
def wipeE (env : Env') : List Nat → Env'
  | [] => env
  | v :: vs => (wipeE env vs).set v none
theorem DI.wipe {b : Act} {O : Ow} {S H : Hp} {env : Env'} {st : List D} {σ : L2.St} (I : DI G b O S env st σ H) : ∀ {vs : List Nat}, (∀ v ∈ vs, O.has v = false) → DI G b O S (wipeE env vs) st (wipe σ vs) H
  | [], _ => I
  | v :: vs, h => (DI.wipe I fun u hu => h u (List.mem_cons_of_mem _ hu)).forget (h v List.mem_cons_self)
theorem wipe_stay {σ σ' : L2.St} {ix vs : List Nat} (h : Stay ix (wipe σ vs) σ') (hs : ∀ i ∈ ix, i ∈ vs) : wipe σ' vs = wipe σ vs := by
  have wl : ∀ (τ : L2.St) (vs : List Nat) (j : Nat), (wipe τ vs)[j]? = if j ∈ vs then (if j < τ.length then some none else none) else τ[j]? := by
    intro τ vs j
    induction vs with
    | nil => simp [wipe]
    | cons v vs ih =>
      unfold wipe
      by_cases hj : j = v
      · subst hj
        rw [if_pos List.mem_cons_self]
        by_cases hl : j < τ.length
        · rw [List.getElem?_set_self (by rw [wipe_length]; exact hl), if_pos hl]
        · rw [if_neg hl]
          exact List.getElem?_eq_none_iff.mpr (by rw [List.length_set, wipe_length]; exact Nat.le_of_not_lt hl)
      · rw [List.getElem?_set_ne (Ne.symm hj), ih]
        by_cases hm : j ∈ vs
        · rw [if_pos hm, if_pos (List.mem_cons_of_mem _ hm)]
        · rw [if_neg hm, if_neg (fun z => (List.mem_cons.mp z).elim hj hm)]
  have hl : σ'.length = σ.length := by rw [h.1, wipe_length]
  refine List.ext_getElem? fun j => ?_
  rw [wl, wl, hl]
  by_cases hm : j ∈ vs
  · rw [if_pos hm, if_pos hm]
  · rw [if_neg hm, if_neg hm, h.2 j fun z => hm (hs j z), wl, if_neg hm]
/-- the items that a comprehension makes -/
def lcD (env : Env') (g : MG) (mt : MT) (me : ME) : List D → M (List D)
  | [] => fun st => .ok [] st
  | d :: ds => fun st => match g d env with
    | none => .bad
    | some env1 => (noEr (mt env1 st)).bind fun k st1 =>
      if k = true then (noEr (me env1 st1)).bind fun y st2 => (lcD env g mt me ds st2).bind fun ys st3 => .ok (y :: ys) st3
      else lcD env g mt me ds st1
theorem lcD_noEr {env : Env'} {g : MG} {mt : MT} {me : ME} : ∀ (ds : List D) (st : List D) (x : Ex) (st' : List D), lcD env g mt me ds st ≠ .err x st' := by
  intro ds
  induction ds with
  | nil => intro st x st' h; cases h
  | cons d ds ih =>
    intro st x st' h
    unfold lcD at h
    split at h
    · cases h
    · rename_i env1 _
      cases e1 : mt env1 st with
      | err _ _ => rw [e1] at h; cases h
      | bad => rw [e1] at h; cases h
      | ok k st1 =>
        rw [e1] at h
        have h : (if k = true then (noEr (me env1 st1)).bind fun y st2 => (lcD env g mt me ds st2).bind fun ys st3 => .ok (y :: ys) st3 else lcD env g mt me ds st1) = .err x st' := h
        split at h
        · cases e2 : me env1 st1 with
          | err _ _ => rw [e2] at h; cases h
          | bad => rw [e2] at h; cases h
          | ok y st2 =>
            rw [e2] at h
            have h : ((lcD env g mt me ds st2).bind fun ys st3 => Res.ok (y :: ys) st3) = .err x st' := h
            cases e3 : lcD env g mt me ds st2 with
            | err x3 s3 => exact ih _ _ _ e3
            | bad => rw [e3] at h; cases h
            | ok ys s3 => rw [e3] at h; cases h
        · exact ih _ _ _ h
def mYes : MT := fun _ st => .ok true st
/-- [elt for target in .. if ..]; vs: the comprehension's own slots -/
def mLC (mi : MA) (vs : List Nat) (g : MG) (mt : MT) (me : ME) : ME := fun env st => (mi env st).bind fun ds st1 => (lcD (wipeE env vs) g mt me ds st1).bind lstOk
structure DTs (G : Glb) (X : Cx) (W : WX) (O : Ow) (es : List Expr) (m : MT) : Prop where
  ex : ∃ t, PTs X es t ∧ ∀ (b : Act) S env st σ H Q, DI G b O S env st σ H → wpR (m env st) (fun k st' => PostB G b.ad S H k st' Q) (fun x st' => PostX G b.ad S H x st' fun c dd H' => W c dd σ H') → t σ H Q
theorem dts_nil {O : Ow} : DTs G X W O [] mYes := ⟨_, pts_nil, fun b S env st σ H Q I h => h _ _ (.refl _ _ _) I.sub I.sto⟩
theorem dts_one {O : Ow} {e : Expr} {m : MT} (h : DT G X W O e m) : DTs G X W O [e] m := let ⟨t, p, w⟩ := h.ex; ⟨_, pts_one p, w⟩
/-- canonical readings -/
def cE (G : Glb) (W : WX) (O : Ow) (m : ME) : TE := fun σ H Q => ∃ (b : Act) (S : Hp) (env : Env') (st : List DL.D), DI G b O S env st σ H ∧ wpR (m env st) (fun d st' => Post G b.ad S H d st' Q) (fun x st' => PostX G b.ad S H x st' fun c dd H' => W c dd σ H')
def cT (G : Glb) (W : WX) (O : Ow) (m : MT) : TT := fun σ H Q => ∃ (b : Act) (S : Hp) (env : Env') (st : List DL.D), DI G b O S env st σ H ∧ wpR (m env st) (fun k st' => PostB G b.ad S H k st' Q) (fun x st' => PostX G b.ad S H x st' fun c dd H' => W c dd σ H')
def cG (G : Glb) (O : Ow) (ix : List Nat) (g : MG) : TG := fun v σ H Q => ∃ (b : Act) (S : Hp) (env : Env') (env' : Env') (st : List DL.D) (d : DL.D), DI G b O S env st σ H ∧ Rep G b.ad S v d ∧ g d env = some env' ∧ ∀ σ', Stay ix σ σ' → DI G b O S env' st σ' H → Q σ' H
theorem DE.c {O : Ow} {e : Expr} {m : ME} (h : DE G X W O e m) : PE X e (cE G W O m) := by
  obtain ⟨t, p, w⟩ := h.ex
  exact ⟨fun pins s σ H Q I ⟨b, S, env, st, J, q⟩ => p.run pins s σ H Q I (w b S env st σ H Q J q)⟩
theorem DTs.c {O : Ow} {e : List Expr} {m : MT} (h : DTs G X W O e m) : PTs X e (cT G W O m) := by
  obtain ⟨t, p, w⟩ := h.ex
  exact ⟨fun pins s σ H Q I ⟨b, S, env, st, J, q⟩ => p.run pins s σ H Q I (w b S env st σ H Q J q)⟩
theorem DG.c {O : Ow} {ix : List Nat} {e : Expr} {g : MG} (h : DG G X O ix e g) : PG X e (cG G O ix g) := by
  obtain ⟨t, p, w⟩ := h.ex
  exact ⟨fun pins s σ H v u Q I r ⟨b, S, env, env', st, d, J, rd, e, q⟩ => p.run pins s σ H v u Q I r (w b S env env' st σ H v d Q J rd e q)⟩
/-- the walk of a comprehension -/
theorem lc_go {O : Ow} {vs ix : List Nat} {g : MG} {mt : MT} {me : ME} {b : Act} {S1 H1 : Hp} {st1 : List D} {σ : L2.St} {env : Env'} {J : It} {ds : List D} {Q : VK} {D : Addr} (hv : ∀ v ∈ vs, O.has v = false) (hix : ∀ i ∈ ix, i ∈ vs) (I : DI G b O S1 env st1 σ H1) (it : IterOK G b.ad S1 J ds) (hD : H1 D = none)
    {ys : List DL.D} {st' : List DL.D} (hr : lcD (wipeE env vs) g mt me ds st1 = .ok ys st') (hl : ys.length ≤ sizeLine) (q : Post G b.ad S1 H1 (.lst ys) st' Q) :
    ∃ Wv : Nat → Nat → Hp → Prop, (∃ m, Wv 0 m (upd H1 D (.lst []))) ∧ ∀ i m H, Wv i m H →
      (J.stop i H ∧ Q (.ref D) H) ∨ (J.go i H ∧ ∃ Nx : Hp → Prop, (∀ H', Nx H' → ∃ m', m' < m ∧ Wv (i + 1) m' H') ∧ ∀ x H', J.yld i H x H' → cG G O ix g x (wipe σ vs) H' fun σ2 H2 => wipe σ2 vs = wipe σ vs ∧ cT G W0 O mt σ2 H2 fun b H3 =>
        if b = true then cE G W0 O me σ2 H3 fun y H4 => ∃ acc, H4 D = some (.lst acc) ∧ acc.length < sizeLine ∧ Nx (upd H4 D (.lst (acc ++ [y]))) else Nx H3) := by
  have hDad : D ∉ b.ad := fun z => by
    obtain ⟨_, ws, hw⟩ := I.sto.has z
    rw [hD] at hw; cases hw
  -- what stands at a turn's begin
  refine ⟨fun i m H => m = ds.length - i ∧ i ≤ ds.length ∧ ∃ S2 st2 acc es rest, Ext b.ad S1 H1 S2 H ∧ Same S2 H ∧ StoOk G b.ad S2 st2 H ∧ S2 D = none ∧ H D = some (.lst acc) ∧ Reps G b.ad S2 acc es ∧ lcD (wipeE env vs) g mt me (ds.drop i) st2 = .ok rest st' ∧ ys = es ++ rest, ⟨ds.length, ?_⟩, ?_⟩
  · have so := I.sto
    have hS : S1 D = none := I.sub.free hD
    refine ⟨by simp, Nat.zero_le _, S1, st1, [], [], ys, ⟨.refl _, fun _ _ z => .inl z, fun c o hc _ => by rw [upd_ne (ne_of_none hc hD)]; exact hc⟩, fun c o hc => by rw [upd_ne (ne_of_none hc hS)]; exact I.sub _ _ hc,
      ⟨so.len, so.nd, fun n a ha => ?_⟩, hS, upd_same, .nil, by simpa using hr, by simp⟩
    obtain ⟨g1, es, ws, g2, g3, g4⟩ := so.at_ n a ha
    exact ⟨g1, es, ws, g2, by rw [upd_ne (ne_of_none g3 hD)]; exact g3, g4⟩
  · rintro i m H ⟨rfl, hi, S2, st2, acc, es, rest, x2, su2, so2, hS2, hacc, racc, hr2, hys⟩
    by_cases hlt : i < ds.length
    · right
      obtain ⟨go, yl⟩ := (it i S2 H x2.same su2).2 _ (List.getElem?_eq_getElem hlt)
      refine ⟨go, fun H' => ∃ S3 st3 acc3 es3 rest3, Ext b.ad S1 H1 S3 H' ∧ Same S3 H' ∧ StoOk G b.ad S3 st3 H' ∧ S3 D = none ∧ H' D = some (.lst acc3) ∧ Reps G b.ad S3 acc3 es3 ∧ lcD (wipeE env vs) g mt me (ds.drop (i + 1)) st3 = .ok rest3 st' ∧ ys = es3 ++ rest3, fun H' z => ⟨ds.length - (i + 1), by omega, rfl, hlt, z⟩, fun x H' y => ?_⟩
      obtain ⟨S3, x3, su3, so3, r3⟩ := yl x H' y
      have so3' := so3 _ so2
      have I3 : DI G b O S3 (wipeE env vs) st2 (wipe σ vs) H' := DI.ext (DI.wipe (DI.ext I x2 su2 so2) hv) x3 su3 so3'
      have hD3 : H' D = some (.lst acc) := x3.keep D _ hacc hDad
      have hS3 : S3 D = none := by
        cases e : S3 D with
        | none => rfl
        | some o =>
          rcases x3.new D o e with z | z
          · rw [hS2] at z; cases z
          · rw [hacc] at z; cases z
      have x3' := x2.trans so2 x3
      rw [List.drop_eq_getElem_cons hlt] at hr2
      unfold lcD at hr2
      cases eg : g ds[i] (wipeE env vs) with
      | none => rw [eg] at hr2; cases hr2
      | some env1 =>
        rw [eg] at hr2
        refine ⟨b, S3, _, env1, st2, ds[i], I3, r3, eg, fun σ2 hs2 I4 => ⟨wipe_stay hs2 hix, b, S3, env1, st2, I4, ?_⟩⟩
        dsimp only at hr2
        cases et : mt env1 st2 with
        | err x st => rw [et] at hr2; cases hr2
        | bad => rw [et] at hr2; cases hr2
        | ok kk st4 =>
          rw [et] at hr2
          have hr2 : (if kk = true then (noEr (me env1 st4)).bind fun y st2 => (lcD (wipeE env vs) g mt me (ds.drop (i + 1)) st2).bind fun ys st3 => Res.ok (y :: ys) st3 else lcD (wipeE env vs) g mt me (ds.drop (i + 1)) st4) = .ok rest st' := hr2
          intro S5 H5 x5 su5 so5
          have hD5 : H5 D = some (.lst acc) := x5.keep D _ hD3 hDad
          have hS5 : S5 D = none := by
            cases e : S5 D with
            | none => rfl
            | some o =>
              rcases x5.new D o e with z | z
              · rw [hS3] at z; cases z
              · rw [hD3] at z; cases z
          have x5' := x3'.trans so3' x5
          cases kk with
          | false =>
            rw [if_neg Bool.false_ne_true] at hr2 ⊢
            exact ⟨S5, st4, acc, es, rest, x5', su5, so5, hS5, hD5, (racc.mono x3.same).mono x5.same, hr2, hys⟩
          | true =>
            rw [if_pos rfl] at hr2 ⊢
            refine ⟨b, S5, env1, st4, I4.ext x5 su5 so5, ?_⟩
            cases em : me env1 st4 with
            | err x st => rw [em] at hr2; cases hr2
            | bad => rw [em] at hr2; cases hr2
            | ok y0 st6 =>
              rw [em] at hr2
              have hr2 : ((lcD (wipeE env vs) g mt me (ds.drop (i + 1)) st6).bind fun ys st3 => Res.ok (y0 :: ys) st3) = .ok rest st' := hr2
              cases e6 : lcD (wipeE env vs) g mt me (ds.drop (i + 1)) st6 with
              | err x st => rw [e6] at hr2; cases hr2
              | bad => rw [e6] at hr2; cases hr2
              | ok ys6 st7 =>
                rw [e6] at hr2
                have e7 : rest = y0 :: ys6 ∧ st7 = st' := by
                  have z : Res.ok (y0 :: ys6) st7 = .ok rest st' := hr2
                  cases z; exact ⟨rfl, rfl⟩
                obtain ⟨e7, e8⟩ := e7
                subst e8
                intro v S6 H6 x6 su6 so6 r6
                have hD6 : H6 D = some (.lst acc) := x6.keep D _ hD5 hDad
                have hS6 : S6 D = none := by
                  cases e : S6 D with
                  | none => rfl
                  | some o =>
                    rcases x6.new D o e with z | z
                    · rw [hS5] at z; cases z
                    · rw [hD5] at z; cases z
                have x6' := x5'.trans so5 x6
                have racc6 := ((racc.mono x3.same).mono x5.same).mono x6.same
                have hlen : acc.length < sizeLine := by
                  have e9 : ys.length = es.length + (ys6.length + 1) := by rw [hys, e7, List.length_append, List.length_cons]
                  rw [racc6.len]; omega
                refine ⟨acc, hD6, hlen, S6, st6, acc ++ [v], es ++ [y0], ys6, ⟨x6'.same, x6'.new, fun c o hc hca => ?_⟩, fun c o hc => ?_, ⟨so6.len, so6.nd, fun n a ha => ?_⟩, hS6, upd_same, racc6.append (.cons r6 .nil), e6, by rw [hys, e7]; simp⟩
                · rw [upd_ne (ne_of_none hc hD)]; exact x6'.keep c o hc hca
                · rw [upd_ne (ne_of_none hc hS6)]; exact su6 _ _ hc
                · obtain ⟨g1, es', ws, g2, g3, g4⟩ := so6.at_ n a ha
                  exact ⟨g1, es', ws, g2, by rw [upd_ne fun z => hDad (by subst z; exact List.mem_iff_getElem?.mpr ⟨n, ha⟩)]; exact g3, g4⟩
    · left
      have hi' : i = ds.length := Nat.le_antisymm hi (Nat.le_of_not_lt hlt)
      refine ⟨(it i S2 H x2.same su2).1 hi', ?_⟩
      rw [hi', List.drop_length] at hr2
      have e1 : rest = [] ∧ st2 = st' := by
        have z : Res.ok ([] : List DL.D) st2 = .ok rest st' := hr2
        cases z; exact ⟨rfl, rfl⟩
      obtain ⟨rfl, rfl⟩ := e1
      rw [List.append_nil] at hys
      subst hys
      -- the list is still from now on
      have key : Same S2 (upd S2 D (.lst acc)) := fun c o hc => by rw [upd_ne (ne_of_none hc hS2)]; exact hc
      refine q (.ref D) (upd S2 D (.lst acc)) H ⟨x2.same.trans key, fun c o hc => ?_, x2.keep⟩ (fun c o hc => ?_) ⟨so2.len, so2.nd, fun n a ha => ?_⟩ (.lst upd_same (racc.mono key))
      · by_cases hcD : c = D
        · subst hcD; exact .inr hD
        · rw [upd_ne hcD] at hc; exact x2.new c o hc
      · by_cases hcD : c = D
        · subst hcD; rw [upd_same] at hc; cases hc; exact hacc
        · rw [upd_ne hcD] at hc; exact su2 _ _ hc
      · obtain ⟨g1, es', ws, g2, g3, g4⟩ := so2.at_ n a ha
        exact ⟨by rw [upd_ne fun z => hDad (by subst z; exact List.mem_iff_getElem?.mpr ⟨n, ha⟩)]; exact g1, es', ws, g2, g3, g4.mono key⟩
section
variable {G : Glb} {X : Cx} {W : WX} {pos : Pos} {k : Nat} {O : Ow}
theorem de_lc {elt tg iter : Expr} {ifs : List Expr} {scope : Scope} {own : List (Str × Nat)} {ix : List Nat} {mi : MA} {g : MG} {mt : MT} {me : ME} (xc : XC k G X W) (hN : X.N.Nodup) (hi : DIt G X W O tg iter mi) (ok : BlkOk X.N X.env.scope scope own)
    (hg : ∀ (s : Shared) (H : Hp) (C : Addr) (cl : List (Str × Addr)) (fp : List Addr), DG G (X.blk s H scope (compEnvC scope cl C X.env) fp) O ix tg g)
    (ht : ∀ (s : Shared) (H : Hp) (C : Addr) (cl : List (Str × Addr)) (fp : List Addr), XC k G (X.blk s H scope (compEnvC scope cl C X.env) fp) W0 → DTs G (X.blk s H scope (compEnvC scope cl C X.env) fp) W0 O ifs mt)
    (he : ∀ (s : Shared) (H : Hp) (C : Addr) (cl : List (Str × Addr)) (fp : List Addr), XC k G (X.blk s H scope (compEnvC scope cl C X.env) fp) W0 → DE G (X.blk s H scope (compEnvC scope cl C X.env) fp) W0 O elt me)
    (hv : ∀ v ∈ own.map (·.2), O.has v = false := by intro v hv; revert v; decide) (hix : ∀ i ∈ ix, i ∈ own.map (·.2) := by decide) (hs : ∀ x, foldedSetIterable iter X.env x = pure x := by intro _; rfl) :
    DE G X W O (.ListComp elt [⟨tg, iter, ifs, 0⟩] scope pos) (mLC mi (own.map (·.2)) g mt me) := by
  obtain ⟨wi, pi, wwi⟩ := hi.ex
  refine ⟨_, pe_lc xc.calm hN pi ok (fun s H C cl fp => (hg s H C cl fp).c) (fun s H C cl fp => (ht s H C cl fp xc.blk).c) (fun s H C cl fp => (he s H C cl fp xc.blk).c) hs, fun b S env st σ H Q I h => wwi b S env st σ H _ I (wpR_imp (wpR_bind h) (fun ds st1 h1 => ?_) fun _ _ z => z)⟩
  intro J S1 H1 x1 su1 so1 it D hD
  cases er : lcD (wipeE env (own.map (·.2))) g mt me ds st1 with
  | err x st2 => exact absurd er (lcD_noEr _ _ _ _)
  | bad => rw [er] at h1; exact h1.elim
  | ok ys st2 =>
    rw [er] at h1
    have h1 : wpR (lstOk ys st2) (fun d st' => Post G b.ad S H d st' Q) (fun x st' => PostX G b.ad S H x st' fun c dd H' => W c dd σ H') := h1
    unfold lstOk at h1
    split at h1
    · rename_i hl
      exact lc_go hv hix (I.ext x1 su1 so1) it hD er hl (Post.from_ x1 so1 h1)
    · exact h1.elim
/-- y = [..] -/
theorem ds_setLc {Ob : Ow} {OE : Ow → Prop} {y : Str} {py spos : Pos} {elt tg iter : Expr} {ifs : List Expr} {scope : Scope} {own : List (Str × Nat)} {ix : List Nat} {mi : MA} {g : MG} {mt : MT} {me : ME} (i : Nat) (xc : XC k G X W) (hN : X.N.Nodup) (hi : DIt G X W O tg iter mi) (ok : BlkOk X.N X.env.scope scope own)
    (hsw : swapsWith (.ListComp elt [⟨tg, iter, ifs, 0⟩] scope pos) (some (.Name y py)) spos.line X.env = pure true)
    (hg : ∀ (s : Shared) (H : Hp) (C : Addr) (cl : List (Str × Addr)) (fp : List Addr), DG G (X.blk s H scope (compEnvC scope cl C X.env) fp) O ix tg g)
    (ht : ∀ (s : Shared) (H : Hp) (C : Addr) (cl : List (Str × Addr)) (fp : List Addr), XC k G (X.blk s H scope (compEnvC scope cl C X.env) fp) W0 → DTs G (X.blk s H scope (compEnvC scope cl C X.env) fp) W0 O ifs mt)
    (he : ∀ (s : Shared) (H : Hp) (C : Addr) (cl : List (Str × Addr)) (fp : List Addr), XC k G (X.blk s H scope (compEnvC scope cl C X.env) fp) W0 → DE G (X.blk s H scope (compEnvC scope cl C X.env) fp) W0 O elt me)
    (hO : OE O := by first | trivial | rfl) (hy : X.N[i]? = some y := by rfl) (hyl : X.env.scope.names.lookup y = some .local := by rfl) (ho : O.has i = false := by rfl)
    (hv : ∀ v ∈ own.map (·.2), O.has v = false := by intro v hv; revert v; decide) (hix : ∀ i ∈ ix, i ∈ own.map (·.2) := by decide) (hs : ∀ x, foldedSetIterable iter X.env x = pure x := by intro _; rfl) :
    DS G X W Ob OE O (.Assign [.Name y py] (.ListComp elt [⟨tg, iter, ifs, 0⟩] scope pos) spos) O (mSet i (mLC mi (own.map (·.2)) g mt me)) := by
  obtain ⟨wi, pi, wwi⟩ := hi.ex
  refine ⟨_, ps_setLc (i := i) xc.calm hN hy hyl hsw pi ok (fun s H C cl fp => (hg s H C cl fp).c) (fun s H C cl fp => (ht s H C cl fp xc.blk).c) (fun s H C cl fp => (he s H C cl fp xc.blk).c) hs, fun b S env st σ H D I h => ?_⟩
  refine do_part (me := mLC mi (own.map (·.2)) g mt me) (t := tLc wi (cG G O ix g) (cT G W0 O mt) (cE G W0 O me) (own.map (·.2))) hO (fun b S env st σ H Q I h => wwi b S env st σ H _ I (wpR_imp (wpR_bind h) (fun ds st1 h1 => ?_) fun _ _ z => z)) I h fun v d S' H' st' I' r q => q _ _ _ (.refl _) (I'.set r ho)
  intro J S1 H1 x1 su1 so1 it D hD
  cases er : lcD (wipeE env (own.map (·.2))) g mt me ds st1 with
  | err x st2 => exact absurd er (lcD_noEr _ _ _ _)
  | bad => rw [er] at h1; exact h1.elim
  | ok ys st2 =>
    rw [er] at h1
    have h1 : wpR (lstOk ys st2) (fun d st' => Post G b.ad S H d st' Q) (fun x st' => PostX G b.ad S H x st' fun c dd H' => W c dd σ H') := h1
    unfold lstOk at h1
    split at h1
    · rename_i hl
      exact lc_go hv hix (I.ext x1 su1 so1) it hD er hl (Post.from_ x1 so1 h1)
    · exact h1.elim

/-! ### the law's own def -/
/-- what the script is made to -/
def handD (cells : List Int) (at_ rest total : Int) : D := .lst [.lst (cells.map .int), .int at_, .int rest, .int total]
def spLaw (K : PySem.W.Frag) : Sp := fun vs H Q _ => ∃ (a : Addr) (ns : List Int), vs = [.ref a] ∧ SqL K H a (ns.map V.int) ∧ ns.length ≤ 63 ∧ Only H ∧ ∀ H', Q (.bl true) H'
theorem reps_ints {ad : List Addr} {S : Hp} : ∀ ns : List Int, Reps G ad S (ns.map V.int) (ns.map D.int)
  | [] => .nil
  | n :: ns => .cons (.int n) (reps_ints ns)
theorem ints_of {ad : List Addr} {S : Hp} : ∀ {vs : List V} {ns : List Int}, Reps G ad S vs (ns.map D.int) → vs = ns.map V.int
  | _, [], .nil => rfl
  | _, n :: ns, .cons h r => by
    cases h
    rw [List.map_cons, ints_of r]
end
section
variable {P : Program} {w : World} {K : PySem.W.Frag} {mg : Str → Option Value} {base : Heap}
/-- the law: its script made to a hand (by fH), then the rest over that cell -/
theorem lawD {G : Glb} {x y : Str} {st : Stmt} {f fH : Addr} {fd fdH : FuncData} {N : List Str} {k j : Nat} {rest : List Stmt} {m : MS} {mH : List D → M D} {O' : Ow} {p1 p2 p3 p4 p5 : Pos} (F : Fun K "law" "law" st f fd) (Sc : FnScope N ["_law_script"] (defScope st)) (hK : K = G.K)
    (hN1 : N[1]? = some x) (hl : (defScope st).names.lookup x = some .local) (hl0 : (defScope st).names.lookup ("_law_script" : Str) = some .local) (hy : (defScope st).names.lookup y = some .globalImplicit)
    (hbd : defBody st = .Assign [.Name x p1] (.Call (.Name y p2) [.Name "_law_script" p3] [] p4) p5 :: rest)
    (FH : FnOk P w K mg base (L2.CX P w) j fH fdH ["_law_script"] (spD G 1 mH)) (hmg : mg y = some (.ref fH)) (hkp : PySem.W.keepIn K (.ref fH) = true) (hb : Binds K fdH ["_law_script"] []) (hjk : j ≤ k)
    (hH : ∀ (ns : List Int), ns.length ≤ 63 → ∃ cells t, mH [.rol (ns.map .int)] [] = .ok (handD cells 0 0 t) [] ∧
      ∃ st', m (some (.rol (ns.map .int)) :: some (.tok 0) :: List.replicate (N.length - 2) none) [handD cells 0 0 t] = .rt (.bl true) st')
    (hrest : ∀ (cdv : Value) (A : Around) (outer : List Env) (s : Shared) (H : Hp) (E : XK), XC k G (cxOf (L2.CX P w) P w K mg base N "law" (defScope st) f cdv A outer s H E) (fun cls d _ H' => E cls d H') → XT (cxOf (L2.CX P w) P w K mg base N "law" (defScope st) f cdv A outer s H E) →
      DSs G (cxOf (L2.CX P w) P w K mg base N "law" (defScope st) f cdv A outer s H E) (fun cls d _ H' => E cls d H') {} (fun _ => True) {} rest O' m)
    (hdy : (y == ("__debug__" : Str)) = false := by decide) (hnl : 2 ≤ N.length := by decide) :
    FnOk P w K mg base (L2.CX P w) (k + 1) f fd ["_law_script"] (spLaw K) := by
  refine F.okX Sc (fun vs H Q E h => ?_) fun cdv A outer s H vs Q E hr h => ?_
  · obtain ⟨_, _, rfl, _⟩ := h
    rfl
  · obtain ⟨a, ns, rfl, hS, hns, hO, hQ⟩ := h
    have xc : XC k G (cxOf (L2.CX P w) P w K mg base N "law" (defScope st) f cdv A outer s H E) (fun cls d _ H' => E cls d H') :=
      { tk := takes_of rfl rfl rfl rfl, po := passes_of rfl, calm := rfl, hr := hr, K := hK }
    obtain ⟨t, p, wt⟩ := (hrest cdv A outer s H E xc ⟨rfl, rfl⟩).ex
    rw [hbd]
    have hN0 : N[0]? = some ("_law_script" : Str) := by
      have e := Sc.pre
      cases N with
      | nil => simp at hnl
      | cons n N => simp at e; simp [e]
    obtain ⟨cells, tt, eH, st', em⟩ := hH ns hns
    refine ⟨_, pss_cons (ps_set (i := 1) Sc.nd hN1 (.inl hl) (pe_callS FH (hr.mono hjk) hy hmg hkp hb (fun σ => passAt xc.tk σ) (pa_cons (pe_var (i := 0) hN0 (.inl hl0)) pa_nil) hdy) (by rfl) (.inr hl)) p, ?_⟩
    have e0 : start N [V.ref a] = some (V.ref a) :: List.replicate (N.length - 1) none := rfl
    show tAsg (tCallS (spD G 1 mH) (WE fun cls d _ H' => E cls d H') (tCons (tVar 0) tNil)) (gName 1) _ (start N [V.ref a]) H
    refine ⟨.ref a, rfl, ?_⟩
    have hSub : Same H H := .refl _
    refine ⟨⟨H, H, []⟩, [.rol (ns.map .int)], [], rfl, rfl, hSub, ⟨rfl, .nil, fun n b hn => by simp at hn⟩, .cons (.rol (hK ▸ hS) (reps_ints ns)) .nil, ?_⟩
    rw [eH]
    intro v S' H' x1 su1 so1 r1
    -- the hand is a cell from now on
    cases r1 with
    | lst h1 r1 =>
      rename_i pa vs
      cases r1 with
      | cons r1 rr =>
        cases r1 with
        | lst hc rc =>
          rename_i pc ws
          have ew : ws = cells.map V.int := ints_of rc
          subst ew
          have hne : pc ≠ pa := fun z => by
            subst z
            rw [h1] at hc
            have := Option.some.inj hc
            cases cells with
            | nil => cases this
            | cons c cells => cases this
          have hHpa : H pa = none := by
            rcases x1.new pa _ h1 with z | z
            · replace z : H pa = some (HO.lst _) := z
              rcases hO pa with q | ⟨_, _, q⟩
              · exact q
              · rw [q] at z; cases z
            · exact z
          let S2 : Hp := fun c => if c = pa then none else S' c
          have hS2 : ∀ c, c ≠ pa → S2 c = S' c := fun c hc => if_neg hc
          have hS2p : S2 pa = none := if_pos rfl
          have sub2 : Same S2 H' := fun c o ho => by
            by_cases hcp : c = pa
            · subst hcp; rw [hS2p] at ho; cases ho
            · rw [hS2 c hcp] at ho; exact su1 _ _ ho
          have same2 : Same H S2 := fun c o ho => by
            rw [hS2 c (ne_of_none ho hHpa)]
            exact x1.same _ _ ho
          have rc2 : Rep G [pa] S2 (.ref pc) (.lst (cells.map .int)) := .lst (by rw [hS2 pc hne]; exact hc) (reps_ints cells)
          cases rr with
          | cons r2 rr =>
            cases r2
            cases rr with
            | cons r3 rr =>
              cases r3
              cases rr with
              | cons r4 rr =>
                cases r4
                cases rr
                have so2 : StoOk G [pa] S2 [handD cells 0 0 tt] H' := by
                  refine ⟨rfl, by simp, fun n b hb => ?_⟩
                  cases n with
                  | zero =>
                    have e : pa = b := by simpa using hb
                    subst e
                    exact ⟨hS2p, _, _, rfl, su1 _ _ h1, .cons rc2 (.cons (.int _) (.cons (.int _) (.cons (.int _) .nil)))⟩
                  | succ n => simp at hb
                have I : DI G ⟨S2, H', [pa]⟩ {} S2 ([D.rol (ns.map .int), D.tok 0].map some ++ List.replicate (N.length - 2) none) [handD cells 0 0 tt] ([V.ref a, V.ref pa].map some ++ List.replicate (N.length - 2) none) H' :=
                  DI.start sub2 so2 (.cons (.rol (same2.seq (hK ▸ hS)) (reps_ints ns)) (.cons (.tok rfl) .nil))
                have eσ : (start N [V.ref a]).set 1 (some (V.ref pa)) = [V.ref a, V.ref pa].map some ++ List.replicate (N.length - 2) none := by
                  obtain ⟨l, hl⟩ : ∃ l, N.length = l + 2 := ⟨N.length - 2, by omega⟩
                  show (some (V.ref a) :: List.replicate (N.length - 1) none).set 1 (some (V.ref pa)) = _
                  rw [hl]
                  rfl
                refine wt ⟨S2, H', [pa]⟩ S2 _ _ _ H' _ (eσ ▸ I) ?_
                have em' : m ([D.rol (ns.map .int), D.tok 0].map some ++ List.replicate (N.length - 2) none) [handD cells 0 0 tt] = .rt (.bl true) st' := em
                rw [em']
                intro v S3 H3 _ _ _ r3
                cases r3
                exact hQ H3
end
end DL

/-! DL, eighth part: what the printed texts name. -/
namespace DL
open PySem PySem.Spec PyProof.Rows L2
/-- a def as it stands behind the top -/
structure DefOk (K : PySem.W.Frag) (mg : Str → Option Value) (x : Str) (st : Stmt) (ps : List Str) (f : Addr) (fd : FuncData) : Prop where
  F : Fun K x x st f fd
  g : mg x = some (.ref f)
  b : Binds K fd ps []
theorem DefOk.kp {K : PySem.W.Frag} {mg : Str → Option Value} {x : Str} {st : Stmt} {ps : List Str} {f : Addr} {fd : FuncData} (d : DefOk K mg x st ps f fd) : PySem.W.keepIn K (.ref f) = true := d.F.kp
theorem DefOk.mk' {K : PySem.W.Frag} {mg : Str → Option Value} {x : Str} {st : Stmt} {ps : List Str} {f : Addr} {fd : FuncData} (F : Fun K x x st f fd) (g : mg x = some (.ref f)) (b : Binds K fd ps []) : DefOk K mg x st ps f fd := ⟨F, g, b⟩
theorem XC.u65 {k : Nat} {G : Glb} {X : Cx} {W : WX} (c : XC k G X W) : X.A.units + 65 < cLine := by
  have := c.hr.un
  omega
/-- what isinstance wants of an own error class -/
def excB (K : PySem.W.Frag) (D : Addr) : Bool :=
  decide (PySem.W.findIn K (.ref D) "__getattribute__" = some (some (.builtin "BaseException.__getattribute__"))) && (decide (PySem.W.findIn K (.ref D) "__getattr__" = some none) && (decide (PySem.W.subIn K (.ref D) (.type "BaseException") = some true) && (PySem.W.hasDictIn K D &&
    (decide (PySem.W.findIn K (.ref D) "__class__" = some (some (.builtin "object.__class__"))) && (decide (PySem.W.specialIn K (.builtin "object.__class__") "__get__" = some (some (.builtin "getset_descriptor.__get__"))) && (decide (PySem.W.takesIn K (.builtin "object.__class__") = some true) && decide (PySem.W.mroIn K D (.type "object") = some true)))))))
theorem excB_ok {K : PySem.W.Frag} {D : Addr} (h : excB K D = true) : ExcC K D := by
  unfold excB at h
  simp only [Bool.and_eq_true, decide_eq_true_eq] at h
  obtain ⟨h1, h2, h3, h4, h5, h6, h7, h8⟩ := h
  exact ⟨h1, h2, h3, h4, h5, h6, h7, h8⟩
theorem suK {G : Glb} {X : Cx} (h : X.K = G.K) {a : Addr} {pn : List (Addr × Obj)} : (X.suite a pn).K = G.K := h
theorem suU {k : Nat} {G : Glb} {X : Cx} {W : WX} (c : XC k G X W) {a : Addr} {pn : List (Addr × Obj)} : (X.suite a pn).A.units + 64 < cLine := c.hr.units
section
variable {G : Glb} {X : Cx} {W : WX} {O : Ow} {pos : Pos}
theorem de_globK {x : Str} {i : Int} (h : ∃ t, X.mg x = some (.int i t)) (hg : Gl X x := by rfl) (hd : (x == ("__debug__" : Str)) = false := by decide) : DE G X W O (.Name x pos) (mC (.int i)) := by
  obtain ⟨t, hm⟩ := h
  exact de_globI hm hg hd
end
end DL

/-! DL, ninth part: how the printed functions are reckoned (for simp only [ev]). -/
namespace DL
open PySem PySem.Spec PyProof.Rows L2
theorem bind_ok {α β : Type} (a : α) (st : List D) (f : α → M β) : (Res.ok a st).bind f = f a st := rfl
theorem bind_err {α β : Type} (x : Ex) (st : List D) (f : α → M β) : (Res.err x st : Res α).bind f = .err x st := rfl
def mkEnv : Nat → List D → Env'
  | 0, _ => []
  | n + 1, [] => none :: mkEnv n []
  | n + 1, d :: ds => some d :: mkEnv n ds
theorem mkEnv_eq : ∀ (n : Nat) (ds : List D), ds.length ≤ n → mkEnv n ds = ds.map some ++ List.replicate (n - ds.length) none
  | 0, [], _ => rfl
  | 0, _ :: _, h => by simp at h
  | n + 1, [], _ => by
    have := mkEnv_eq n [] (Nat.zero_le _)
    simp [mkEnv, this, List.replicate_succ]
  | n + 1, d :: ds, h => by
    have := mkEnv_eq n ds (Nat.le_of_succ_le_succ h)
    simp [mkEnv, this]
/-- how a body's end is a call's -/
def outR : Out → Res D
  | .nx _ st1 => .ok .non st1
  | .rt d st1 => .ok d st1
  | .er x _ st1 => .err x st1
  | _ => .bad
theorem fnM_eq {n : Nat} {m : MS} {ds : List D} {st : List D} (h : ds.length ≤ n) : fnM n m ds st = outR (m (mkEnv n ds) st) := by
  rw [mkEnv_eq n ds h]
  unfold fnM outR
  cases m (ds.map some ++ List.replicate (n - ds.length) none) st <;> rfl
def get? (env : Env') (i : Nat) : Option D := match env, i with
  | [], _ => none
  | o :: _, 0 => o
  | _ :: r, i + 1 => get? r i
theorem mVar_eq (i : Nat) (env : Env') (st : List D) : mVar i env st = ret? (get? env i) st := by
  unfold mVar ret?
  induction env generalizing i with
  | nil => rfl
  | cons o r ih =>
    cases i with
    | zero => cases o <;> rfl
    | succ i => exact ih i
theorem mSeq_eq (m n : MS) (env : Env') (st : List D) : mSeq m n env st = match m env st with
  | .nx env1 st1 => n env1 st1
  | o => o := rfl
/-- the rules of reckoning -/
theorem ev1 :
    (∀ (n : Nat) (m : MS) (st : List D), fnM n m [] st = outR (m (mkEnv n []) st)) ∧
    (∀ (n : Nat) (m : MS) (a : D) (st : List D), fnM (n + 1) m [a] st = outR (m (mkEnv (n + 1) [a]) st)) ∧
    (∀ (n : Nat) (m : MS) (a b : D) (st : List D), fnM (n + 2) m [a, b] st = outR (m (mkEnv (n + 2) [a, b]) st)) ∧
    (∀ (n : Nat) (m : MS) (a b c : D) (st : List D), fnM (n + 3) m [a, b, c] st = outR (m (mkEnv (n + 3) [a, b, c]) st)) ∧
    (∀ (n : Nat) (m : MS) (a b c d : D) (st : List D), fnM (n + 4) m [a, b, c, d] st = outR (m (mkEnv (n + 4) [a, b, c, d]) st)) ∧
    (∀ (e : Env') (st : List D), outR (.nx e st) = .ok .non st) ∧ (∀ (d : D) (st : List D), outR (.rt d st) = .ok d st) ∧ (∀ (x : Ex) (e : Env') (st : List D), outR (.er x e st) = .err x st) :=
  ⟨fun n m st => fnM_eq (Nat.zero_le _), fun n m a st => fnM_eq (Nat.le_add_left 1 n), fun n m a b st => fnM_eq (Nat.le_add_left 2 n), fun n m a b c st => fnM_eq (Nat.le_add_left 3 n), fun n m a b c d st => fnM_eq (Nat.le_add_left 4 n),
    fun _ _ => rfl, fun _ _ => rfl, fun _ _ _ => rfl⟩
theorem ev2 :
    (∀ (i : Nat) (env : Env') (st : List D), mVar i env st = ret? (get? env i) st) ∧
    (∀ (d : D) (st : List D), ret? (some d) st = .ok d st) ∧
    (∀ (d : D) (env : Env') (st : List D), mC d env st = .ok d st) ∧
    (∀ (f : D → D → Option D) (ma mb : ME) (env : Env') (st : List D), mOp f ma mb env st = (ma env st).bind fun x st1 => (mb env st1).bind fun y => ret? (f x y)) ∧
    (∀ (f : D → Option D) (ma : ME) (env : Env') (st : List D), mUn f ma env st = (ma env st).bind fun x => ret? (f x)) ∧
    (∀ (env : Env') (st : List D), mNil env st = .ok [] st) ∧
    (∀ (ma : ME) (mr : MA) (env : Env') (st : List D), mCons ma mr env st = (ma env st).bind fun x st1 => (mr env st1).bind fun xs st2 => .ok (x :: xs) st2) ∧
    (∀ (f : List D → Option D) (ma : MA) (env : Env') (st : List D), mCall1 f ma env st = (ma env st).bind fun xs => ret? (f xs)) ∧
    (∀ (f : List D → M D) (ma : MA) (env : Env') (st : List D), mCall f ma env st = (ma env st).bind f) ∧
    (∀ (ma : ME) (env : Env') (st : List D), mTest ma env st = (ma env st).bind bool?) ∧
    (∀ (ma : ME) (env : Env') (st : List D), mTru ma env st = (ma env st).bind tru?) ∧
    (∀ (t : MT) (env : Env') (st : List D), mNot t env st = (t env st).bind fun k st1 => .ok (!k) st1) ∧
    (∀ (t u : MT) (env : Env') (st : List D), mAnd t u env st = (t env st).bind fun k st1 => if k = true then u env st1 else .ok false st1) ∧
    (∀ (t u : MT) (env : Env') (st : List D), mOr t u env st = (t env st).bind fun k st1 => if k = true then .ok true st1 else u env st1) ∧
    (∀ (ma : ME) (env : Env') (st : List D), mNotV ma env st = (ma env st).bind fun x st1 => (bool? x st1).bind fun k st2 => .ok (.bl (!k)) st2) ∧
    (∀ (ma mb : ME) (env : Env') (st : List D), mAndV ma mb env st = (ma env st).bind fun x st1 => (bool? x st1).bind fun k st2 => if k = true then mb env st2 else .ok (.bl false) st2) ∧
    (∀ (ma mb : ME) (env : Env') (st : List D), mOrV ma mb env st = (ma env st).bind fun x st1 => (bool? x st1).bind fun k st2 => if k = true then .ok (.bl true) st2 else mb env st2) ∧
    (∀ (t : MT) (ma mb : ME) (env : Env') (st : List D), mIf t ma mb env st = (t env st).bind fun k st1 => if k = true then ma env st1 else mb env st1) ∧
    (∀ (ma : MA) (env : Env') (st : List D), mTup ma env st = (ma env st).bind tupOk) ∧
    (∀ (ma : MA) (env : Env') (st : List D), mLst ma env st = (ma env st).bind lstOk) ∧
    (∀ (ma mb : ME) (env : Env') (st : List D), mIx ma mb env st = (ma env st).bind fun x st1 => (mb env st1).bind fun y => ixS x y) ∧
    (∀ (b : Bool) (st : List D), bool? (.bl b) st = .ok b st) ∧ (∀ (b : Bool) (st : List D), tru? (.bl b) st = .ok b st) ∧ (∀ (i : Int) (st : List D), tru? (.int i) st = .ok (i != 0) st) ∧
    (∀ (ds : List D) (st : List D), tru? (.lst ds) st = .ok (!ds.isEmpty) st) ∧ (∀ (ds : List D) (st : List D), tru? (.tup ds) st = .ok (!ds.isEmpty) st) :=
  ⟨mVar_eq, fun _ _ => rfl, fun _ _ _ => rfl, fun _ _ _ _ _ => rfl, fun _ _ _ _ => rfl, fun _ _ => rfl, fun _ _ _ _ => rfl, fun _ _ _ _ => rfl, fun _ _ _ _ => rfl, fun _ _ _ => rfl, fun _ _ _ => rfl, fun _ _ _ => rfl, fun _ _ _ _ => rfl, fun _ _ _ _ => rfl, fun _ _ _ => rfl,
    fun _ _ _ _ => rfl, fun _ _ _ _ => rfl, fun _ _ _ _ _ => rfl, fun _ _ _ => rfl, fun _ _ _ => rfl, fun _ _ _ _ => rfl, fun _ _ => rfl, fun _ _ => rfl, fun _ _ => rfl, fun _ _ => rfl, fun _ _ => rfl⟩
theorem ev3 :
    (∀ (m n : MS) (env : Env') (st : List D), mSeq m n env st = match m env st with
      | .nx env1 st1 => n env1 st1
      | o => o) ∧
    (∀ (env : Env') (st : List D), mNx env st = .nx env st) ∧ (∀ (env : Env') (st : List D), mBrk env st = .bk env st) ∧ (∀ (env : Env') (st : List D), mCnt env st = .ct env st) ∧
    (∀ (m : ME) (env : Env') (st : List D), mRet m env st = match m env st with
      | .ok d st1 => .rt d st1
      | .err x st1 => .er x env st1
      | .bad => .bad) ∧
    (∀ (i : Nat) (m : ME) (env : Env') (st : List D), mSet i m env st = match m env st with
      | .ok d st1 => .nx (env.set i (some d)) st1
      | .err x st1 => .er x env st1
      | .bad => .bad) ∧
    (∀ (env : Env') (st : List D), mRetN env st = .rt .non st) ∧
    (∀ (m : ME) (env : Env') (st : List D), mDrop m env st = match m env st with
      | .ok d st1 => .nx env st1
      | .err x st1 => .er x env st1
      | .bad => .bad) ∧
    (∀ (t : MT) (m n : MS) (env : Env') (st : List D), mIfS t m n env st = match t env st with
      | .ok k st1 => if k = true then m env st1 else n env st1
      | .err x st1 => .er x env st1
      | .bad => .bad) ∧
    (∀ (m : ME) (g : MG) (env : Env') (st : List D), mAsg m g env st = match m env st with
      | .ok d st1 => (match g d env with
        | some env1 => .nx env1 st1
        | none => .bad)
      | .err x st1 => .er x env st1
      | .bad => .bad) ∧
    (∀ (i j : Nat) (ma : MA) (env : Env') (st : List D), mPar i j ma env st = match ma env st with
      | .ok [d, e] st1 => .nx ((env.set i (some d)).set j (some e)) st1
      | .err x st1 => .er x env st1
      | _ => .bad) ∧
    (∀ (i : Nat) (d : D) (env : Env'), gNm i d env = some (env.set i (some d))) ∧ (∀ (env : Env'), gsNil [] env = some env) ∧
    (∀ (g : MG) (r : List D → Env' → Option Env') (d : D) (ds : List D) (env : Env'), gsCons g r (d :: ds) env = (g d env).bind (r ds)) ∧
    (∀ (r : List D → Env' → Option Env') (ds : List D) (env : Env'), gTp r (.tup ds) env = r ds env) ∧
    (∀ (c : Nat) (env : Env') (st : List D), mRaise0 c env st = .er ⟨c, none⟩ env st) ∧
    (∀ (mi : MA) (g : MG) (m : MS) (env : Env') (st : List D), mFor mi g m env st = match mi env st with
      | .ok ds st1 => forD g m ds env st1
      | .err x st1 => .er x env st1
      | .bad => .bad) ∧
    (∀ (m : ME) (env : Env') (st : List D), mItems m env st = (m env st).bind items?) ∧ (∀ (ds : List D) (st : List D), items? (.lst ds) st = .ok ds st) ∧ (∀ (ds : List D) (st : List D), items? (.tup ds) st = .ok ds st) ∧ (∀ (ds : List D) (st : List D), items? (.rol ds) st = .ok ds st) ∧
    (∀ (m : MA) (f : List D → M (List D)) (env : Env') (st : List D), mThenA m f env st = (m env st).bind f) ∧
    (∀ (mi : MA) (vs : List Nat) (g : MG) (mt : MT) (me : ME) (env : Env') (st : List D), mLC mi vs g mt me env st = (mi env st).bind fun ds st1 => (lcD (wipeE env vs) g mt me ds st1).bind lstOk) ∧
    (∀ (env : Env') (st : List D), mYes env st = .ok true st) :=
  ⟨fun _ _ _ _ => rfl, fun _ _ => rfl, fun _ _ => rfl, fun _ _ => rfl, fun _ _ _ => rfl, fun _ _ _ _ => rfl, fun _ _ => rfl, fun _ _ _ => rfl, fun _ _ _ _ _ => rfl, fun _ _ _ _ => rfl, fun _ _ _ _ _ => rfl, fun _ _ _ => rfl, fun _ => rfl, fun _ _ _ _ _ => rfl, fun _ _ _ => rfl, fun _ _ _ => rfl, fun _ _ _ _ _ => rfl,
    fun _ _ _ => rfl, fun _ _ => rfl, fun _ _ => rfl, fun _ _ => rfl, fun _ _ _ _ => rfl, fun _ _ _ _ _ _ _ => rfl, fun _ _ => rfl⟩
theorem shaped_int (i : Int) : SeqAt.shaped (.int i) = true := rfl
theorem shaped_str (x : Str) (h : SeqAt.shaped (.str x) = true) : SeqAt.shaped (.str x) = true := h
theorem ev4 :
    (∀ i j : Int, dAdd (.int i) (.int j) = some (.int (i + j))) ∧ (∀ i j : Int, dSub (.int i) (.int j) = some (.int (i - j))) ∧ (∀ i j : Int, dMul (.int i) (.int j) = if MulOk i j then some (.int (i * j)) else none) ∧
    (∀ i j : Int, dDiv (.int i) (.int j) = if DivOk i j then some (.int (i.fdiv j)) else none) ∧ (∀ i j : Int, dMod (.int i) (.int j) = if j ≠ 0 then some (.int (i.fmod j)) else none) ∧
    (∀ i : Int, dNeg (.int i) = some (.int (-i))) ∧ (∀ i j : Int, dLt (.int i) (.int j) = some (.bl (decide (i < j)))) ∧ (∀ i j : Int, dLe (.int i) (.int j) = some (.bl (decide (i ≤ j)))) ∧
    (∀ i j : Int, dGt (.int i) (.int j) = some (.bl (decide (j < i)))) ∧ (∀ i j : Int, dGe (.int i) (.int j) = some (.bl (decide (j ≤ i)))) ∧
    (∀ i j : Int, dEq (.int i) (.int j) = some (.bl (decide (i = j)))) ∧ (∀ i j : Int, dNe (.int i) (.int j) = some (.bl (!decide (i = j)))) ∧
    (∀ (f : D → Option D) (x : D), c1 f [x] = f x) ∧ (∀ i : Int, dAbs (.int i) = some (.int (if i < 0 then -i else i))) ∧ (∀ i : Int, dInt1 (.int i) = some (.int i)) ∧ (∀ b : Bool, dInt1 (.bl b) = some (.int (if b then 1 else 0))) ∧
    (∀ ds : List D, dLen (.lst ds) = some (.int (ds.length : Nat))) ∧ (∀ ds : List D, dLen (.tup ds) = some (.int (ds.length : Nat))) ∧ (∀ a b : Int, dGcd [.int a, .int b] = some (.int ((Nat.gcd a.natAbs b.natAbs : Nat) : Int))) ∧
    (∀ (xs : List D), dTuple (.lst xs) = some (.tup xs)) ∧ (∀ (xs : List D), dTuple (.tup xs) = some (.tup xs)) ∧ (∀ (xs : List D), dList (.lst xs) = some (.lst xs)) ∧ (∀ (xs : List D), dList (.tup xs) = some (.lst xs)) ∧
    (∀ (x y : D) (st : List D), ixS (.lst [x]) y st = ret? (dIx (.lst [x]) y) st) :=
  ⟨fun _ _ => rfl, fun _ _ => rfl, fun _ _ => rfl, fun _ _ => rfl, fun _ _ => rfl, fun _ => rfl, fun _ _ => rfl, fun _ _ => rfl, fun _ _ => rfl, fun _ _ => rfl, fun i j => congrArg (fun b => some (D.bl b)) (Bool.beq_eq_decide_eq i j), fun i j => congrArg (fun b => some (D.bl (!b))) (Bool.beq_eq_decide_eq i j),
    fun _ _ => rfl, fun _ => rfl, fun _ => rfl, fun _ => rfl, fun _ => rfl, fun _ => rfl, fun _ _ => rfl, fun _ => rfl, fun _ => rfl, fun _ => rfl, fun _ => rfl, fun _ _ _ => rfl⟩
end DL

/-! DL, tenth part: the end of a law row whose calls let errors out. -/
namespace DL
open PySem PySem.Spec PyProof.Rows L2
theorem walk_ofC {l : PySem.W.OpenLaw} {n k : Nat} {q : Program} {loose : List Str} {XP : (Str → Option Value) → Heap → Prop} {YP : World → Heap → Prop} {d : DefRec} {K : Params → PySem.W.Frag} {x : Str}
    (hn : l.most = some n) (hn2 : n ≤ sizeLine) (hn3 : n ≤ 63) (hdf : d.params.defaults = []) (hr : Room k callerA)
    (hY : ∀ (w : World) (h : Heap), YP w h → (K w.params).In h)
    (F : ∀ (w : World) (mg : Str → Option Value) (fa : Addr) (h : Heap), (K w.params).In h → h.Ns mainGlobals mg → mg d.name = some (.ref fa) →
      ∃ fd : FuncData, (∀ (s : Shared) (u : Value), BindsTo s fd ⟨[u], []⟩ [(x, u)]) ∧
        ∀ base : Heap, (K w.params).In base → base.Ns mainGlobals mg → FnOk l.prog w (K w.params) mg base (L2.CX l.prog w) k fa fd [x] (spLaw (K w.params))) :
    PySem.W.WalkO q loose XP YP l.row.toRowW d [] (fun f vs => PySem.call f vs) :=
  L2.walk_of (K := K) (CX := fun w => L2.CX l.prog w) (sp := fun w => spLaw (K w.params)) hn hn2 hdf hr hY F
    (fun w H a ns hl hO hS => ⟨a, ns, rfl, hS, Nat.le_trans hl hn3, hO, fun _ => rfl⟩)
    fun w H s e s' h => by obtain ⟨_, _, _, _, _, _, _, _, _, _, _, _, z⟩ := h; exact z
/-! ### reckoning: sizes, the hand -/
theorem mulOk_l {i j : Int} (h : i.natAbs < 2 ^ 64) : MulOk i j := .inl h
theorem mulOk_r {i j : Int} (h : j.natAbs < 2 ^ 64) : MulOk i j := .inr (.inl h)
theorem ret_ok (d : D) (st : List D) : ret? (some d) st = .ok d st := rfl
theorem dMod_pos (i j : Int) (h : j ≠ 0) : dMod (.int i) (.int j) = some (.int (i.fmod j)) := if_pos h
theorem fmod_small {i j : Int} (hj : 0 < j) : 0 ≤ i.fmod j ∧ i.fmod j < j := ⟨Int.fmod_nonneg_of_pos i hj, Int.fmod_lt_of_pos i hj⟩
theorem ixN_nat {n j : Nat} (hj : j < n) : ixN n (j : Int) = some j := by
  unfold ixN
  simp only [show ¬ ((j : Int) < 0) by omega, show (j : Int) < n by omega]
  simp
theorem atI_nat {α : Type} {xs : List α} {k : Nat} (h : k < xs.length) : atI xs (k : Int) = some xs[k] := by
  unfold atI
  rw [ixN_nat h]
  simp [h]
theorem hix0 (c : List Int) (a r t : Int) : ixS (.tok 0) (.int 0) [handD c a r t] = .ok (.lst (c.map .int)) [handD c a r t] := rfl
theorem hix1 (c : List Int) (a r t : Int) : ixS (.tok 0) (.int 1) [handD c a r t] = .ok (.int a) [handD c a r t] := rfl
theorem hix2 (c : List Int) (a r t : Int) : ixS (.tok 0) (.int 2) [handD c a r t] = .ok (.int r) [handD c a r t] := rfl
theorem hix3 (c : List Int) (a r t : Int) : ixS (.tok 0) (.int 3) [handD c a r t] = .ok (.int t) [handD c a r t] := rfl
/-- a cell of the store written -/
def putS (n : Nat) (k : Int) (d : D) (env : Env') (st : List D) : Out := match st[n]? with
    | some (D.lst ds) => match ixN ds.length k with
      | some j => .nx env (st.set n (.lst (ds.set j d)))
      | none => .bad
    | _ => .bad
theorem mPut_eq (k : Int) (m : ME) (e : Env') (st : List D) : mPut 0 k m (some (.tok 0) :: e) st = match m (some (.tok 0) :: e) st with
  | .ok d st1 => putS 0 k d (some (.tok 0) :: e) st1
  | .err x st1 => .er x (some (.tok 0) :: e) st1
  | .bad => .bad := rfl
theorem put1 (c : List Int) (a r t x : Int) (e : Env') : putS 0 1 (.int x) e [handD c a r t] = .nx e [handD c x r t] := rfl
theorem put2 (c : List Int) (a r t x : Int) (e : Env') : putS 0 2 (.int x) e [handD c a r t] = .nx e [handD c a x t] := rfl
theorem put3 (c : List Int) (a r t x : Int) (e : Env') : putS 0 3 (.int x) e [handD c a r t] = .nx e [handD c a r x] := rfl
theorem hcell (c : List Int) (k : Nat) (h : k < c.length) (st : List D) : ixS (.lst (c.map .int)) (.int (k : Int)) st = .ok (.int c[k]) st := by
  show ret? (atI (c.map .int) (k : Int)) st = _
  rw [atI_nat (by rw [List.length_map]; exact h)]
  simp [ret?]
structure HandOk (st : List D) : Prop where
  ex : ∃ (cells : List Int) (at_ rest total : Int), st = [handD cells at_ rest total] ∧ 0 ≤ at_ ∧ 0 ≤ rest ∧ ∀ c ∈ cells, 0 ≤ c
/-! ### facts of a class, in k_is' words -/
theorem excB_mk {K : PySem.W.Frag} {D : Addr} (h1 : PySem.W.findIn K (.ref D) "__getattribute__" = some (some (.builtin "BaseException.__getattribute__"))) (h2 : PySem.W.findIn K (.ref D) "__getattr__" = some none) (h3 : PySem.W.subIn K (.ref D) (.type "BaseException") = some true) (h4 : PySem.W.hasDictIn K D = true)
    (h5 : PySem.W.findIn K (.ref D) "__class__" = some (some (.builtin "object.__class__"))) (h6 : PySem.W.specialIn K (.builtin "object.__class__") "__get__" = some (some (.builtin "getset_descriptor.__get__"))) (h7 : PySem.W.takesIn K (.builtin "object.__class__") = some true) (h8 : PySem.W.mroIn K D (.type "object") = some true) : excB K D = true := by
  unfold excB
  simp only [h1, h2, h3, h4, h5, h6, h7, h8, decide_true, Bool.and_self]
theorem kitO_ref {K : PySem.W.Frag} {t : Value} {D : Addr} (hc : PySem.W.isClsIn K D = true) (ht : PySem.W.typeIn K (.ref D) = some (.type "type")) (hs : PySem.W.subIn K t (.ref D) = some true) : PySem.W.kitOne K t (.ref D) = some true := by
  unfold PySem.W.kitOne PySem.W.kitCls
  have hc' : (PySem.W.clsIn K D).isSome = true := hc
  split
  · rfl
  · simp [hc', ht, hs]
theorem kitO_refF {K : PySem.W.Frag} {C D : Addr} (hc : PySem.W.isClsIn K D = true) (ht : PySem.W.typeIn K (.ref D) = some (.type "type")) (hs : PySem.W.subIn K (.ref C) (.ref D) = some false) (hm : PySem.W.subIn K (.ref C) (.ref C) = some true) : PySem.W.kitOne K (.ref C) (.ref D) = some false := by
  unfold PySem.W.kitOne PySem.W.kitCls
  have hc' : (PySem.W.clsIn K D).isSome = true := hc
  split
  · rename_i e
    have e' : Value.ref C = .ref D := by simpa using e
    cases e'
    rw [hs] at hm; cases hm
  · simp [hc', ht, hs]
theorem kitO_ty {K : PySem.W.Frag} {C : Addr} {T : String} {b : Bool} (hs : PySem.W.subIn K (.ref C) (.type T) = some b) (hk : PySem.W.kitMeta T = true) : PySem.W.kitOne K (.ref C) (.type T) = some b := by
  unfold PySem.W.kitOne PySem.W.kitCls
  split
  · rename_i e
    have e' : Value.ref C = .type T := by simpa using e
    cases e'
  · simp [hk, hs]
/-! ### loops reckoned -/
theorem forD_nil (g : MG) (body : MS) (env : Env') (st : List D) : forD g body [] env st = .nx env st := rfl
theorem forD_cons (g : MG) (body : MS) (d : D) (ds : List D) (env : Env') (st : List D) : forD g body (d :: ds) env st = match g d env with
    | none => .bad
    | some env1 => match body env1 st with
      | .nx e s => forD g body ds e s
      | .ct e s => forD g body ds e s
      | .bk e s => .nx e s
      | o => o := rfl
theorem mFor_eq (mi : MA) (g : MG) (body : MS) (env : Env') (st : List D) : mFor mi g body env st = match mi env st with
  | .ok ds st1 => forD g body ds env st1
  | .err x st1 => .er x env st1
  | .bad => .bad := rfl
theorem forD_inv {g : MG} {body : MS} (P : Env' → List D → Prop) (Q : D → Prop) (h : ∀ d env st, Q d → P env st → ∃ env1 env2 st2, g d env = some env1 ∧ body env1 st = .nx env2 st2 ∧ P env2 st2) :
    ∀ (ds : List D) (env : Env') (st : List D), (∀ d ∈ ds, Q d) → P env st → ∃ env' st', forD g body ds env st = .nx env' st' ∧ P env' st'
  | [], env, st, _, p => ⟨env, st, rfl, p⟩
  | d :: ds, env, st, hq, p => by
    obtain ⟨e1, e2, s2, a, b, c⟩ := h d env st (hq d List.mem_cons_self) p
    obtain ⟨e3, s3, x, y⟩ := forD_inv P Q h ds e2 s2 (fun q hh => hq q (List.mem_cons_of_mem _ hh)) c
    exact ⟨e3, s3, by rw [forD_cons, a]; simp only [b]; exact x, y⟩
theorem lcD_map {env : Env'} {g : MG} {mt : MT} {me : ME} {st : List D} (f : D → D) : ∀ ds : List D, (∀ d ∈ ds, ∃ env1, g d env = some env1 ∧ mt env1 st = .ok true st ∧ me env1 st = .ok (f d) st) → lcD env g mt me ds st = .ok (ds.map f) st
  | [], _ => rfl
  | d :: ds, h => by
    obtain ⟨e1, a, b, c⟩ := h d List.mem_cons_self
    have ih := lcD_map f ds fun q hh => h q (List.mem_cons_of_mem _ hh)
    unfold lcD
    simp only [a]
    rw [b]
    simp only [noEr, bind_ok, if_pos]
    rw [c]
    simp only [bind_ok]
    rw [ih]
    rfl
theorem numbered_mem {ds : List D} {d : D} (h : d ∈ numbered ds) : ∃ (i : Nat) (x : D), i < ds.length ∧ x ∈ ds ∧ d = .tup [.int (i : Int), x] := by
  unfold numbered at h
  rw [List.mem_mapIdx] at h
  obtain ⟨i, hi, e⟩ := h
  exact ⟨i, ds[i], hi, List.getElem_mem hi, e.symm⟩
/-! ### items of written rows -/
theorem atI_0 (a : D) (r : List D) : atI (a :: r) 0 = some a := atI_nat (xs := a :: r) (k := 0) (by simp)
theorem atI_1 (a b : D) (r : List D) : atI (a :: b :: r) 1 = some b := atI_nat (xs := a :: b :: r) (k := 1) (by simp)
theorem atI_2 (a b c : D) (r : List D) : atI (a :: b :: c :: r) 2 = some c := atI_nat (xs := a :: b :: c :: r) (k := 2) (by simp)
theorem atI_3 (a b c d : D) (r : List D) : atI (a :: b :: c :: d :: r) 3 = some d := atI_nat (xs := a :: b :: c :: d :: r) (k := 3) (by simp)
theorem ixS_tup (xs : List D) (i : Int) (st : List D) : ixS (.tup xs) (.int i) st = ret? (atI xs i) st := rfl
theorem ixS_lst (xs : List D) (i : Int) (st : List D) : ixS (.lst xs) (.int i) st = ret? (atI xs i) st := rfl
theorem ixS_rol (xs : List D) (i : Int) (st : List D) : ixS (.rol xs) (.int i) st = ret? (atI xs i) st := rfl
theorem tupOk_of {xs : List D} (h : xs.length ≤ 100) (st : List D) : tupOk xs st = .ok (.tup xs) st := by
  unfold tupOk
  rw [if_pos (Nat.le_trans h (by decide))]
theorem lstOk_of {xs : List D} (h : xs.length ≤ 100) (st : List D) : lstOk xs st = .ok (.lst xs) st := by
  unfold lstOk
  rw [if_pos (Nat.le_trans h (by decide))]
theorem ev5 :
    (∀ (a : D) (r : List D), atI (a :: r) 0 = some a) ∧ (∀ (a b : D) (r : List D), atI (a :: b :: r) 1 = some b) ∧ (∀ (a b c : D) (r : List D), atI (a :: b :: c :: r) 2 = some c) ∧ (∀ (a b c d : D) (r : List D), atI (a :: b :: c :: d :: r) 3 = some d) ∧
    (∀ (xs : List D) (i : Int) (st : List D), ixS (.tup xs) (.int i) st = ret? (atI xs i) st) ∧ (∀ (xs : List D) (i : Int) (st : List D), ixS (.lst xs) (.int i) st = ret? (atI xs i) st) ∧ (∀ (xs : List D) (i : Int) (st : List D), ixS (.rol xs) (.int i) st = ret? (atI xs i) st) ∧
    (∀ st, tupOk [] st = .ok (.tup []) st) ∧ (∀ a st, tupOk [a] st = .ok (.tup [a]) st) ∧ (∀ a b st, tupOk [a, b] st = .ok (.tup [a, b]) st) ∧ (∀ a b c st, tupOk [a, b, c] st = .ok (.tup [a, b, c]) st) ∧ (∀ a b c d st, tupOk [a, b, c, d] st = .ok (.tup [a, b, c, d]) st) ∧
    (∀ st, lstOk [] st = .ok (.lst []) st) ∧ (∀ a st, lstOk [a] st = .ok (.lst [a]) st) ∧ (∀ a b st, lstOk [a, b] st = .ok (.lst [a, b]) st) ∧ (∀ a b c st, lstOk [a, b, c] st = .ok (.lst [a, b, c]) st) ∧ (∀ a b c d st, lstOk [a, b, c, d] st = .ok (.lst [a, b, c, d]) st) :=
  ⟨atI_0, atI_1, atI_2, atI_3, fun _ _ _ => rfl, fun _ _ _ => rfl, fun _ _ _ => rfl, fun st => tupOk_of (by simp) st, fun a st => tupOk_of (by simp) st, fun a b st => tupOk_of (by simp) st, fun a b c st => tupOk_of (by simp) st, fun a b c d st => tupOk_of (by simp) st,
    fun st => lstOk_of (by simp) st, fun a st => lstOk_of (by simp) st, fun a b st => lstOk_of (by simp) st, fun a b c st => lstOk_of (by simp) st, fun a b c d st => lstOk_of (by simp) st⟩
end DL

open PySem PySem.W PyProof.Rows
set_option maxHeartbeats 0 in
open_top hd for PySem.Challenge.rw_untoldgaps_k01_ratios_added_and_divided
namespace My
open PySem PySem.Spec PyProof.Rows L2 DL
def clX_BadRatio : Nat → Option Bool := fun c => match c with
  | 0 => some false
  | 1 => some true
  | _ => none
def tabX : Nat → D → Option Bool := fun c d => match c, d with
  | 1, .cls 0 => some true
  | 1, .ty n => if n = "ValueError" then some true else none
  | _, _ => none
noncomputable def b_is_whole : MS :=
    mRet (mAndV (mCall1 dIsi (mCons (mVar 0) (mCons (mC (.ty "int")) (mNil)))) (mNotV (mCall1 dIsi (mCons (mVar 0) (mCons (mC (.ty "bool")) (mNil))))))
noncomputable def m_is_whole : List D → M D := fnM 1 b_is_whole
noncomputable def b_lowest_terms : MS :=
    mSeq (mSet 2 (mCall1 dGcd (mCons (mVar 0) (mCons (mVar 1) (mNil)))))
    (mSeq (mIfS (mTest (mOp dLt (mVar 1) (mC (.int 0)))) (mSet 2 (mUn dNeg (mVar 2))) (mNx))
    (mRet (mTup (mCons (mOp dDiv (mVar 0) (mVar 2)) (mCons (mOp dDiv (mVar 1) (mVar 2)) (mNil))))))
noncomputable def m_lowest_terms : List D → M D := fnM 3 b_lowest_terms
noncomputable def b__law_mix : MS :=
    mSeq (mSet 2 (mOp dMod (mCall1 (c1 dInt1) (mCons (mOp dAdd (mOp dAdd (mOp dMul (mVar 0) (mC (.int 48271))) (mOp dMul (mVar 1) (mC (.int 16807)))) (mC (.int 11))) (mNil))) (mC (.int 2147483647))))
    (mSeq (mSet 3 (mOp dMod (mCall1 (c1 dInt1) (mCons (mOp dAdd (mOp dAdd (mOp dMul (mVar 2) (mVar 2)) (mOp dMul (mOp dDiv (mVar 2) (mC (.int 127))) (mC (.int 40692)))) (mOp dMul (mVar 1) (mC (.int 69621)))) (mNil))) (mC (.int 2147483399))))
    (mRet (mOp dDiv (mOp dMod (mCall1 (c1 dInt1) (mCons (mOp dAdd (mOp dDiv (mOp dMul (mVar 3) (mVar 3)) (mC (.int 1009))) (mVar 2)) (mNil))) (mC (.int 2147483563))) (mC (.int 16)))))
noncomputable def m__law_mix : List D → M D := fnM 4 b__law_mix
noncomputable def b__law_hand : MS :=
    mSeq (mSet 1 (mC (.int 0)))
    (mSeq (mFor (mThenA (mCons (mVar 0) (mNil)) enum?) (gTp (gsCons (gNm 2) (gsCons (gNm 3) (gsNil)))) (mSet 1 (mOp dMod (mCall1 (c1 dInt1) (mCons (mOp dAdd (mOp dMul (mVar 1) (mC (.int 31))) (mOp dMul (mCall1 (c1 dInt1) (mCons (mVar 3) (mNil))) (mOp dAdd (mVar 2) (mC (.int 7))))) (mNil))) (mC (.int 2147483629)))))
    (mRet (mLst (mCons (mLC (mItems (mVar 0)) [3] (gNm 3) (mYes) (mCall1 (c1 dAbs) (mCons (mCall1 (c1 dInt1) (mCons (mVar 3) (mNil))) (mNil)))) (mCons (mC (.int 0)) (mCons (mC (.int 0)) (mCons (mVar 1) (mNil))))))))
noncomputable def m__law_hand : List D → M D := fnM 4 b__law_hand
noncomputable def b__law_low : MS :=
    mSeq (mSet 2 (mCall1 (c1 dAbs) (mCons (mVar 0) (mNil))))
    (mSeq (mSet 3 (mCall1 (c1 dAbs) (mCons (mVar 1) (mNil))))
    (mSeq (mWhile (mTru (mVar 3)) (mPar 2 3 (mCons (mVar 3) (mCons (mOp dMod (mCall1 (c1 dInt1) (mCons (mVar 2) (mNil))) (mVar 3)) (mNil)))))
    (mSeq (mIfS (mTest (mOp dLt (mVar 1) (mC (.int 0)))) (mSet 2 (mUn dNeg (mVar 2))) (mNx))
    (mRet (mTup (mCons (mOp dDiv (mVar 0) (mVar 2)) (mCons (mOp dDiv (mVar 1) (mVar 2)) (mNil))))))))
noncomputable def m__law_low : List D → M D := fnM 4 b__law_low
noncomputable def b__law_order : MS :=
    mSeq (mIfS (mTest (mOp dLt (mVar 0) (mVar 1))) (mRet (mUn dNeg (mC (.int 1)))) (mNx))
    (mRet (mIf (mTest (mOp dGt (mVar 0) (mVar 1))) (mC (.int 1)) (mC (.int 0))))
noncomputable def m__law_order : List D → M D := fnM 2 b__law_order
noncomputable def b_is_ratio : MS :=
    mSeq (mIfS (mTru (mCall1 dIsi (mCons (mVar 0) (mCons (mC (.ty "tuple")) (mNil))))) (mRet (mAndV (mOp dEq (mCall1 (c1 dLen) (mCons (mVar 0) (mNil))) (mC (.int 2))) (mAndV (mCall m_is_whole (mCons (mIx (mVar 0) (mC (.int 0))) (mNil))) (mAndV (mCall m_is_whole (mCons (mIx (mVar 0) (mC (.int 1))) (mNil))) (mOp dGt (mIx (mVar 0) (mC (.int 1))) (mC (.int 0))))))) (mNx))
    (mRet (mCall m_is_whole (mCons (mVar 0) (mNil))))
noncomputable def m_is_ratio : List D → M D := fnM 1 b_is_ratio
noncomputable def b__law_draw : MS :=
    mSeq (mIfS (mAnd (mTest (mOp dEq (mIx (mVar 0) (mC (.int 2))) (mC (.int 0)))) (mTest (mOp dLt (mIx (mVar 0) (mC (.int 1))) (mCall1 (c1 dLen) (mCons (mIx (mVar 0) (mC (.int 0))) (mNil)))))) (mSeq (mSet 2 (mIx (mIx (mVar 0) (mC (.int 0))) (mIx (mVar 0) (mC (.int 1)))))
    (mSeq (mPut 0 1 (mOp dAdd (mIx (mVar 0) (mC (.int 1))) (mC (.int 1))))
    (mSeq (mIfS (mTest (mOp dLt (mVar 2) (mOp dPow (mC (.int 10)) (mC (.int 18))))) (mRet (mOp dMod (mCall1 (c1 dInt1) (mCons (mCall m__law_mix (mCons (mOp dMod (mCall1 (c1 dInt1) (mCons (mVar 2) (mNil))) (mC (.int 2147483647))) (mCons (mIx (mVar 0) (mC (.int 1))) (mNil)))) (mNil))) (mVar 1))) (mNx))
    (mPut 0 2 (mVar 2))))) (mNx))
    (mSeq (mIfS (mTest (mOp dGt (mIx (mVar 0) (mC (.int 2))) (mC (.int 0)))) (mSeq (mSet 3 (mIx (mVar 0) (mC (.int 2))))
    (mSeq (mPut 0 2 (mOp dDiv (mVar 3) (mVar 1)))
    (mRet (mOp dMod (mCall1 (c1 dInt1) (mCons (mVar 3) (mNil))) (mVar 1))))) (mNx))
    (mSeq (mPut 0 3 (mOp dMod (mCall1 (c1 dInt1) (mCons (mOp dAdd (mIx (mVar 0) (mC (.int 3))) (mC (.int 1))) (mNil))) (mC (.int 2147483629))))
    (mRet (mOp dMod (mCall1 (c1 dInt1) (mCons (mCall m__law_mix (mCons (mIx (mVar 0) (mC (.int 3))) (mCons (mIx (mVar 0) (mC (.int 1))) (mNil)))) (mNil))) (mVar 1)))))
noncomputable def m__law_draw : List D → M D := fnM 4 b__law_draw
noncomputable def b__law_is_ratio : MS :=
    mSeq (mIfS (mOr (mNot (mTru (mCall1 dIsi (mCons (mVar 0) (mCons (mC (.ty "tuple")) (mNil)))))) (mTest (mOp dNe (mCall1 (c1 dLen) (mCons (mVar 0) (mNil))) (mC (.int 2))))) (mRet (mC (.bl false))) (mNx))
    (mSeq (mFor (mItems (mVar 0)) (gNm 1) (mIfS (mOr (mNot (mTru (mCall1 dIsi (mCons (mVar 1) (mCons (mC (.ty "int")) (mNil)))))) (mTru (mCall1 dIsi (mCons (mVar 1) (mCons (mC (.ty "bool")) (mNil)))))) (mRet (mC (.bl false))) (mNx)))
    (mRet (mAndV (mOp dGt (mIx (mVar 0) (mC (.int 1))) (mC (.int 0))) (mOp dEq (mCall m__law_low (mCons (mIx (mVar 0) (mC (.int 0))) (mCons (mIx (mVar 0) (mC (.int 1))) (mNil)))) (mVar 0)))))
noncomputable def m__law_is_ratio : List D → M D := fnM 2 b__law_is_ratio
noncomputable def b_ratio_of : MS :=
    mSeq (mIfS (mNot (mTru (mCall m_is_ratio (mCons (mVar 0) (mNil))))) (mRaise0 1) (mNx))
    (mSeq (mIfS (mNot (mTru (mCall1 dIsi (mCons (mVar 0) (mCons (mC (.ty "tuple")) (mNil)))))) (mRet (mTup (mCons (mVar 0) (mCons (mC (.int 1)) (mNil))))) (mNx))
    (mRet (mCall m_lowest_terms (mCons (mIx (mVar 0) (mC (.int 0))) (mCons (mIx (mVar 0) (mC (.int 1))) (mNil))))))
noncomputable def m_ratio_of : List D → M D := fnM 1 b_ratio_of
noncomputable def b__law_thing : MS :=
    mSeq (mSet 1 (mIf (mTest (mOp dEq (mCall m__law_draw (mCons (mVar 0) (mCons (mC (.int 2)) (mNil)))) (mC (.int 0)))) (mC (.int 4)) (mOp dPow (mC (.int 10)) (mC (.int 40)))))
    (mSeq (mSet 2 (mOp dSub (mCall m__law_draw (mCons (mVar 0) (mCons (mOp dAdd (mOp dMul (mC (.int 2)) (mVar 1)) (mC (.int 1))) (mNil)))) (mVar 1)))
    (mSeq (mIfS (mTest (mOp dEq (mCall m__law_draw (mCons (mVar 0) (mCons (mC (.int 8)) (mNil)))) (mC (.int 0)))) (mSet 2 (mC (.int 0))) (mNx))
    (mSeq (mSet 3 (mCall m__law_draw (mCons (mVar 0) (mCons (mC (.int 4)) (mNil)))))
    (mSeq (mIfS (mTest (mOp dEq (mVar 3) (mC (.int 0)))) (mRet (mLst (mCons (mVar 2) (mCons (mVar 2) (mCons (mC (.int 1)) (mNil)))))) (mNx))
    (mSeq (mSet 4 (mOp dAdd (mC (.int 1)) (mCall m__law_draw (mCons (mVar 0) (mCons (mVar 1) (mNil))))))
    (mSeq (mSet 5 (mC (.int 1)))
    (mSeq (mIfS (mTest (mOp dEq (mVar 3) (mC (.int 1)))) (mSet 5 (mOp dAdd (mC (.int 1)) (mCall m__law_draw (mCons (mVar 0) (mCons (mC (.int 12)) (mNil)))))) (mNx))
    (mRet (mLst (mCons (mTup (mCons (mOp dMul (mVar 2) (mVar 5)) (mCons (mOp dMul (mVar 4) (mVar 5)) (mNil)))) (mCons (mVar 2) (mCons (mVar 4) (mNil)))))))))))))
noncomputable def m__law_thing : List D → M D := fnM 6 b__law_thing
noncomputable def b__law_same : MS :=
    mRet (mAndV (mCall m__law_is_ratio (mCons (mVar 0) (mNil))) (mOp dEq (mVar 0) (mCall m__law_low (mCons (mVar 1) (mCons (mVar 2) (mNil))))))
noncomputable def m__law_same : List D → M D := fnM 3 b__law_same
noncomputable def b_plus : MS :=
    mSeq (mAsg (mCall m_ratio_of (mCons (mVar 0) (mNil))) (gTp (gsCons (gNm 2) (gsCons (gNm 3) (gsNil)))))
    (mSeq (mAsg (mCall m_ratio_of (mCons (mVar 1) (mNil))) (gTp (gsCons (gNm 4) (gsCons (gNm 5) (gsNil)))))
    (mRet (mCall m_lowest_terms (mCons (mOp dAdd (mOp dMul (mVar 2) (mVar 5)) (mOp dMul (mVar 4) (mVar 3))) (mCons (mOp dMul (mVar 3) (mVar 5)) (mNil))))))
noncomputable def m_plus : List D → M D := fnM 6 b_plus
noncomputable def b_minus : MS :=
    mSeq (mAsg (mCall m_ratio_of (mCons (mVar 0) (mNil))) (gTp (gsCons (gNm 2) (gsCons (gNm 3) (gsNil)))))
    (mSeq (mAsg (mCall m_ratio_of (mCons (mVar 1) (mNil))) (gTp (gsCons (gNm 4) (gsCons (gNm 5) (gsNil)))))
    (mRet (mCall m_lowest_terms (mCons (mOp dSub (mOp dMul (mVar 2) (mVar 5)) (mOp dMul (mVar 4) (mVar 3))) (mCons (mOp dMul (mVar 3) (mVar 5)) (mNil))))))
noncomputable def m_minus : List D → M D := fnM 6 b_minus
noncomputable def b_times : MS :=
    mSeq (mAsg (mCall m_ratio_of (mCons (mVar 0) (mNil))) (gTp (gsCons (gNm 2) (gsCons (gNm 3) (gsNil)))))
    (mSeq (mAsg (mCall m_ratio_of (mCons (mVar 1) (mNil))) (gTp (gsCons (gNm 4) (gsCons (gNm 5) (gsNil)))))
    (mRet (mCall m_lowest_terms (mCons (mOp dMul (mVar 2) (mVar 4)) (mCons (mOp dMul (mVar 3) (mVar 5)) (mNil))))))
noncomputable def m_times : List D → M D := fnM 6 b_times
noncomputable def b_over : MS :=
    mSeq (mAsg (mCall m_ratio_of (mCons (mVar 0) (mNil))) (gTp (gsCons (gNm 2) (gsCons (gNm 3) (gsNil)))))
    (mSeq (mAsg (mCall m_ratio_of (mCons (mVar 1) (mNil))) (gTp (gsCons (gNm 4) (gsCons (gNm 5) (gsNil)))))
    (mSeq (mIfS (mTest (mOp dEq (mVar 4) (mC (.int 0)))) (mRaise0 1) (mNx))
    (mRet (mCall m_lowest_terms (mCons (mOp dMul (mVar 2) (mVar 5)) (mCons (mOp dMul (mVar 3) (mVar 4)) (mNil)))))))
noncomputable def m_over : List D → M D := fnM 6 b_over
noncomputable def b_compare : MS :=
    mSeq (mAsg (mCall m_ratio_of (mCons (mVar 0) (mNil))) (gTp (gsCons (gNm 2) (gsCons (gNm 3) (gsNil)))))
    (mSeq (mAsg (mCall m_ratio_of (mCons (mVar 1) (mNil))) (gTp (gsCons (gNm 4) (gsCons (gNm 5) (gsNil)))))
    (mSeq (mSet 6 (mOp dMul (mVar 2) (mVar 5)))
    (mSeq (mSet 7 (mOp dMul (mVar 4) (mVar 3)))
    (mSeq (mIfS (mTest (mOp dLt (mVar 6) (mVar 7))) (mRet (mUn dNeg (mC (.int 1)))) (mNx))
    (mRet (mIf (mTest (mOp dGt (mVar 6) (mVar 7))) (mC (.int 1)) (mC (.int 0))))))))
noncomputable def m_compare : List D → M D := fnM 8 b_compare
noncomputable def b__law_over : MS :=
    mTryAs clX_BadRatio 2 (mRet (mCall m_over (mCons (mVar 0) (mCons (mVar 1) (mNil))))) (mRet (mIf (mAnd (mTru (mIsX 2 tabX (mC (.cls 0)))) (mTru (mIsX 2 tabX (mC (.ty "ValueError"))))) (mC (.str "none")) (mC (.str "other"))))
noncomputable def m__law_over : List D → M D := fnM 3 b__law_over
noncomputable def b__law_two : MS :=
    mSeq (mAsg (mTup (mCons (mIx (mVar 0) (mC (.int 1))) (mCons (mIx (mVar 0) (mC (.int 2))) (mCons (mIx (mVar 1) (mC (.int 1))) (mCons (mIx (mVar 1) (mC (.int 2))) (mNil)))))) (gTp (gsCons (gNm 2) (gsCons (gNm 3) (gsCons (gNm 4) (gsCons (gNm 5) (gsNil)))))))
    (mSeq (mPar 6 7 (mCons (mIx (mVar 0) (mC (.int 0))) (mCons (mIx (mVar 1) (mC (.int 0))) (mNil))))
    (mSeq (mIfS (mOr (mNot (mTru (mCall m__law_same (mCons (mCall m_ratio_of (mCons (mVar 6) (mNil))) (mCons (mVar 2) (mCons (mVar 3) (mNil))))))) (mNot (mTru (mCall m__law_same (mCons (mCall m_lowest_terms (mCons (mOp dMul (mVar 2) (mC (.int 6))) (mCons (mOp dMul (mUn dNeg (mVar 3)) (mC (.int 6))) (mNil)))) (mCons (mUn dNeg (mVar 2)) (mCons (mVar 3) (mNil)))))))) (mRet (mC (.bl false))) (mNx))
    (mSeq (mIfS (mOr (mNot (mTru (mCall m__law_same (mCons (mCall m_plus (mCons (mVar 6) (mCons (mVar 7) (mNil)))) (mCons (mOp dAdd (mOp dMul (mVar 2) (mVar 5)) (mOp dMul (mVar 4) (mVar 3))) (mCons (mOp dMul (mVar 3) (mVar 5)) (mNil))))))) (mNot (mTru (mCall m__law_same (mCons (mCall m_minus (mCons (mVar 6) (mCons (mVar 7) (mNil)))) (mCons (mOp dSub (mOp dMul (mVar 2) (mVar 5)) (mOp dMul (mVar 4) (mVar 3))) (mCons (mOp dMul (mVar 3) (mVar 5)) (mNil)))))))) (mRet (mC (.bl false))) (mNx))
    (mSeq (mIfS (mNot (mTru (mCall m__law_same (mCons (mCall m_times (mCons (mVar 6) (mCons (mVar 7) (mNil)))) (mCons (mOp dMul (mVar 2) (mVar 4)) (mCons (mOp dMul (mVar 3) (mVar 5)) (mNil))))))) (mRet (mC (.bl false))) (mNx))
    (mSeq (mSet 8 (mCall m_compare (mCons (mVar 6) (mCons (mVar 7) (mNil)))))
    (mSeq (mIfS (mOr (mTru (mCall1 dIsi (mCons (mVar 8) (mCons (mC (.ty "bool")) (mNil))))) (mOr (mTest (mOp dNe (mVar 8) (mCall m__law_order (mCons (mOp dMul (mVar 2) (mVar 5)) (mCons (mOp dMul (mVar 4) (mVar 3)) (mNil)))))) (mTest (mOp dNe (mCall m_compare (mCons (mVar 7) (mCons (mVar 6) (mNil)))) (mUn dNeg (mVar 8)))))) (mRet (mC (.bl false))) (mNx))
    (mSeq (mIfS (mTest (mOp dEq (mVar 4) (mC (.int 0)))) (mRet (mOp dEq (mCall m__law_over (mCons (mVar 6) (mCons (mVar 7) (mNil)))) (mC (.str "none")))) (mNx))
    (mRet (mCall m__law_same (mCons (mCall m__law_over (mCons (mVar 6) (mCons (mVar 7) (mNil)))) (mCons (mOp dMul (mVar 2) (mVar 5)) (mCons (mOp dMul (mVar 3) (mVar 4)) (mNil)))))))))))))
noncomputable def m__law_two : List D → M D := fnM 9 b__law_two
noncomputable def b_law : MS :=
    mSeq (mSet 2 (mCall m__law_thing (mCons (mVar 1) (mNil))))
    (mSeq (mSet 3 (mCall m__law_thing (mCons (mVar 1) (mNil))))
    (mSeq (mSet 4 (mCall m__law_thing (mCons (mVar 1) (mNil))))
    (mSeq (mSet 5 (mLst (mCons (mTup (mCons (mOp dMul (mUn dNeg (mC (.int 3))) (mIx (mVar 2) (mC (.int 1)))) (mCons (mOp dMul (mC (.int 3)) (mIx (mVar 2) (mC (.int 2)))) (mNil)))) (mCons (mUn dNeg (mIx (mVar 2) (mC (.int 1)))) (mCons (mIx (mVar 2) (mC (.int 2))) (mNil))))))
    (mSeq (mFor (mItems (mLst (mCons (mVar 2) (mCons (mVar 3) (mCons (mVar 4) (mCons (mVar 5) (mNil))))))) (gNm 6) (mFor (mItems (mLst (mCons (mVar 2) (mCons (mVar 3) (mCons (mVar 4) (mCons (mVar 5) (mNil))))))) (gNm 7) (mIfS (mNot (mTru (mCall m__law_two (mCons (mVar 6) (mCons (mVar 7) (mNil)))))) (mRet (mC (.bl false))) (mNx))))
    (mSeq (mSet 8 (mCall m_plus (mCons (mIx (mVar 2) (mC (.int 0))) (mCons (mCall m_plus (mCons (mIx (mVar 3) (mC (.int 0))) (mCons (mIx (mVar 4) (mC (.int 0))) (mNil)))) (mNil)))))
    (mSeq (mIfS (mOr (mTest (mOp dNe (mVar 8) (mCall m_plus (mCons (mCall m_plus (mCons (mIx (mVar 2) (mC (.int 0))) (mCons (mIx (mVar 3) (mC (.int 0))) (mNil)))) (mCons (mIx (mVar 4) (mC (.int 0))) (mNil)))))) (mTest (mOp dNe (mCall m_minus (mCons (mVar 8) (mCons (mIx (mVar 4) (mC (.int 0))) (mNil)))) (mCall m_plus (mCons (mIx (mVar 3) (mC (.int 0))) (mCons (mIx (mVar 2) (mC (.int 0))) (mNil))))))) (mRet (mC (.bl false))) (mNx))
    (mSeq (mIfS (mTest (mOp dNe (mCall m_times (mCons (mIx (mVar 2) (mC (.int 0))) (mCons (mCall m_plus (mCons (mIx (mVar 3) (mC (.int 0))) (mCons (mIx (mVar 4) (mC (.int 0))) (mNil)))) (mNil)))) (mCall m_plus (mCons (mCall m_times (mCons (mIx (mVar 2) (mC (.int 0))) (mCons (mIx (mVar 3) (mC (.int 0))) (mNil)))) (mCons (mCall m_times (mCons (mIx (mVar 4) (mC (.int 0))) (mCons (mIx (mVar 2) (mC (.int 0))) (mNil)))) (mNil)))))) (mRet (mC (.bl false))) (mNx))
    (mSeq (mIfS (mOr (mTest (mOp dNe (mCall m_plus (mCons (mIx (mVar 2) (mC (.int 0))) (mCons (mIx (mVar 5) (mC (.int 0))) (mNil)))) (mTup (mCons (mC (.int 0)) (mCons (mC (.int 1)) (mNil)))))) (mTest (mOp dNe (mCall m_compare (mCons (mCall m_minus (mCons (mIx (mVar 3) (mC (.int 0))) (mCons (mIx (mVar 3) (mC (.int 0))) (mNil)))) (mCons (mC (.int 0)) (mNil)))) (mC (.int 0))))) (mRet (mC (.bl false))) (mNx))
    (mSeq (mIfS (mAnd (mTest (mOp dNe (mIx (mVar 4) (mC (.int 1))) (mC (.int 0)))) (mTest (mOp dNe (mCall m_over (mCons (mCall m_times (mCons (mIx (mVar 3) (mC (.int 0))) (mCons (mIx (mVar 4) (mC (.int 0))) (mNil)))) (mCons (mIx (mVar 4) (mC (.int 0))) (mNil)))) (mCall m_ratio_of (mCons (mIx (mVar 3) (mC (.int 0))) (mNil)))))) (mRet (mC (.bl false))) (mNx))
    (mRet (mOp dEq (mCall m_compare (mCons (mCall m_plus (mCons (mIx (mVar 2) (mC (.int 0))) (mCons (mIx (mVar 4) (mC (.int 0))) (mNil)))) (mCons (mCall m_plus (mCons (mIx (mVar 3) (mC (.int 0))) (mCons (mIx (mVar 4) (mC (.int 0))) (mNil)))) (mNil)))) (mCall m_compare (mCons (mIx (mVar 2) (mC (.int 0))) (mCons (mIx (mVar 3) (mC (.int 0))) (mNil)))))))))))))))
end My

namespace My
open PySem PySem.Spec PyProof.Rows L2 DL
def topS (i : Nat) : Stmt := PySem.Challenge.pw_untoldgaps_k01_ratios_added_and_divided.main.body.getD i (.Pass ⟨0, 0, 0, 0⟩)
abbrev s_is_whole : Stmt := topS 5
abbrev n_is_whole : List Str := ["thing"]
theorem sc_is_whole : FnScope n_is_whole ["thing"] (defScope s_is_whole) := ⟨rfl, rfl, rfl, by decide +kernel, rfl, by decide +kernel, by decide +kernel⟩
abbrev s_lowest_terms : Stmt := topS 8
abbrev n_lowest_terms : List Str := ["top", "bottom", "common"]
theorem sc_lowest_terms : FnScope n_lowest_terms ["top", "bottom"] (defScope s_lowest_terms) := ⟨rfl, rfl, rfl, by decide +kernel, rfl, by decide +kernel, by decide +kernel⟩
abbrev s__law_mix : Stmt := topS 15
abbrev n__law_mix : List Str := ["_law_number", "_law_turn", "_law_once", "_law_twice"]
theorem sc__law_mix : FnScope n__law_mix ["_law_number", "_law_turn"] (defScope s__law_mix) := ⟨rfl, rfl, rfl, by decide +kernel, rfl, by decide +kernel, by decide +kernel⟩
abbrev s__law_hand : Stmt := topS 16
abbrev n__law_hand : List Str := ["_law_script", "_law_total", "_law_k", "_law_cell"]
theorem sc__law_hand : FnScope n__law_hand ["_law_script"] (defScope s__law_hand) := ⟨rfl, rfl, rfl, by decide +kernel, rfl, by decide +kernel, by decide +kernel⟩
abbrev s__law_low : Stmt := topS 18
abbrev n__law_low : List Str := ["_law_top", "_law_bottom", "_law_one", "_law_other"]
theorem sc__law_low : FnScope n__law_low ["_law_top", "_law_bottom"] (defScope s__law_low) := ⟨rfl, rfl, rfl, by decide +kernel, rfl, by decide +kernel, by decide +kernel⟩
abbrev s__law_order : Stmt := topS 22
abbrev n__law_order : List Str := ["_law_left", "_law_right"]
theorem sc__law_order : FnScope n__law_order ["_law_left", "_law_right"] (defScope s__law_order) := ⟨rfl, rfl, rfl, by decide +kernel, rfl, by decide +kernel, by decide +kernel⟩
abbrev s_is_ratio : Stmt := topS 6
abbrev n_is_ratio : List Str := ["thing"]
theorem sc_is_ratio : FnScope n_is_ratio ["thing"] (defScope s_is_ratio) := ⟨rfl, rfl, rfl, by decide +kernel, rfl, by decide +kernel, by decide +kernel⟩
abbrev s__law_draw : Stmt := topS 17
abbrev n__law_draw : List Str := ["_law_hand_here", "_law_many", "_law_cell", "_law_rest"]
theorem sc__law_draw : FnScope n__law_draw ["_law_hand_here", "_law_many"] (defScope s__law_draw) := ⟨rfl, rfl, rfl, by decide +kernel, rfl, by decide +kernel, by decide +kernel⟩
abbrev s__law_is_ratio : Stmt := topS 19
abbrev n__law_is_ratio : List Str := ["_law_x", "_law_n"]
theorem sc__law_is_ratio : FnScope n__law_is_ratio ["_law_x"] (defScope s__law_is_ratio) := ⟨rfl, rfl, rfl, by decide +kernel, rfl, by decide +kernel, by decide +kernel⟩
abbrev s_ratio_of : Stmt := topS 7
abbrev n_ratio_of : List Str := ["thing"]
theorem sc_ratio_of : FnScope n_ratio_of ["thing"] (defScope s_ratio_of) := ⟨rfl, rfl, rfl, by decide +kernel, rfl, by decide +kernel, by decide +kernel⟩
abbrev s__law_thing : Stmt := topS 20
abbrev n__law_thing : List Str := ["_law_hand_here", "_law_far", "_law_top", "_law_kind", "_law_bottom", "_law_size"]
theorem sc__law_thing : FnScope n__law_thing ["_law_hand_here"] (defScope s__law_thing) := ⟨rfl, rfl, rfl, by decide +kernel, rfl, by decide +kernel, by decide +kernel⟩
abbrev s__law_same : Stmt := topS 21
abbrev n__law_same : List Str := ["_law_told", "_law_top", "_law_bottom"]
theorem sc__law_same : FnScope n__law_same ["_law_told", "_law_top", "_law_bottom"] (defScope s__law_same) := ⟨rfl, rfl, rfl, by decide +kernel, rfl, by decide +kernel, by decide +kernel⟩
abbrev s_plus : Stmt := topS 9
abbrev n_plus : List Str := ["one", "other", "a", "b", "c", "d"]
theorem sc_plus : FnScope n_plus ["one", "other"] (defScope s_plus) := ⟨rfl, rfl, rfl, by decide +kernel, rfl, by decide +kernel, by decide +kernel⟩
abbrev s_minus : Stmt := topS 10
abbrev n_minus : List Str := ["one", "other", "a", "b", "c", "d"]
theorem sc_minus : FnScope n_minus ["one", "other"] (defScope s_minus) := ⟨rfl, rfl, rfl, by decide +kernel, rfl, by decide +kernel, by decide +kernel⟩
abbrev s_times : Stmt := topS 11
abbrev n_times : List Str := ["one", "other", "a", "b", "c", "d"]
theorem sc_times : FnScope n_times ["one", "other"] (defScope s_times) := ⟨rfl, rfl, rfl, by decide +kernel, rfl, by decide +kernel, by decide +kernel⟩
abbrev s_over : Stmt := topS 12
abbrev n_over : List Str := ["one", "other", "a", "b", "c", "d"]
theorem sc_over : FnScope n_over ["one", "other"] (defScope s_over) := ⟨rfl, rfl, rfl, by decide +kernel, rfl, by decide +kernel, by decide +kernel⟩
abbrev s_compare : Stmt := topS 13
abbrev n_compare : List Str := ["one", "other", "a", "b", "c", "d", "left", "right"]
theorem sc_compare : FnScope n_compare ["one", "other"] (defScope s_compare) := ⟨rfl, rfl, rfl, by decide +kernel, rfl, by decide +kernel, by decide +kernel⟩
abbrev s__law_over : Stmt := topS 23
abbrev n__law_over : List Str := ["_law_one", "_law_other", "e"]
theorem sc__law_over : FnScope n__law_over ["_law_one", "_law_other"] (defScope s__law_over) := ⟨rfl, rfl, rfl, by decide +kernel, rfl, by decide +kernel, by decide +kernel⟩
abbrev s__law_two : Stmt := topS 24
abbrev n__law_two : List Str := ["_law_x", "_law_y", "_law_a", "_law_b", "_law_c", "_law_d", "_law_one", "_law_other", "_law_told"]
theorem sc__law_two : FnScope n__law_two ["_law_x", "_law_y"] (defScope s__law_two) := ⟨rfl, rfl, rfl, by decide +kernel, rfl, by decide +kernel, by decide +kernel⟩
abbrev s_law : Stmt := topS 25
abbrev n_law : List Str := ["_law_script", "_law_hand_here", "_law_x", "_law_y", "_law_z", "_law_back", "_law_one", "_law_other", "_law_whole"]
theorem sc_law : FnScope n_law ["_law_script"] (defScope s_law) := ⟨rfl, rfl, rfl, by decide +kernel, rfl, by decide +kernel, by decide +kernel⟩
structure Txt (G : Glb) (mg : Str → Option Value) (fa : Nat → Addr) (fd : Nat → FuncData) : Prop where
  d_is_whole : DefOk G.K mg "is_whole" s_is_whole ["thing"] (fa 0) (fd 0)
  d_lowest_terms : DefOk G.K mg "lowest_terms" s_lowest_terms ["top", "bottom"] (fa 1) (fd 1)
  d__law_mix : DefOk G.K mg "_law_mix" s__law_mix ["_law_number", "_law_turn"] (fa 2) (fd 2)
  d__law_hand : DefOk G.K mg "_law_hand" s__law_hand ["_law_script"] (fa 3) (fd 3)
  d__law_low : DefOk G.K mg "_law_low" s__law_low ["_law_top", "_law_bottom"] (fa 4) (fd 4)
  d__law_order : DefOk G.K mg "_law_order" s__law_order ["_law_left", "_law_right"] (fa 5) (fd 5)
  d_is_ratio : DefOk G.K mg "is_ratio" s_is_ratio ["thing"] (fa 6) (fd 6)
  d__law_draw : DefOk G.K mg "_law_draw" s__law_draw ["_law_hand_here", "_law_many"] (fa 7) (fd 7)
  d__law_is_ratio : DefOk G.K mg "_law_is_ratio" s__law_is_ratio ["_law_x"] (fa 8) (fd 8)
  d_ratio_of : DefOk G.K mg "ratio_of" s_ratio_of ["thing"] (fa 9) (fd 9)
  d__law_thing : DefOk G.K mg "_law_thing" s__law_thing ["_law_hand_here"] (fa 10) (fd 10)
  d__law_same : DefOk G.K mg "_law_same" s__law_same ["_law_told", "_law_top", "_law_bottom"] (fa 11) (fd 11)
  d_plus : DefOk G.K mg "plus" s_plus ["one", "other"] (fa 12) (fd 12)
  d_minus : DefOk G.K mg "minus" s_minus ["one", "other"] (fa 13) (fd 13)
  d_times : DefOk G.K mg "times" s_times ["one", "other"] (fa 14) (fd 14)
  d_over : DefOk G.K mg "over" s_over ["one", "other"] (fa 15) (fd 15)
  d_compare : DefOk G.K mg "compare" s_compare ["one", "other"] (fa 16) (fd 16)
  d__law_over : DefOk G.K mg "_law_over" s__law_over ["_law_one", "_law_other"] (fa 17) (fd 17)
  d__law_two : DefOk G.K mg "_law_two" s__law_two ["_law_x", "_law_y"] (fa 18) (fd 18)
  d_law : DefOk G.K mg "law" s_law ["_law_script"] (fa 19) (fd 19)
  n_ValueError : mg "ValueError" = none
  n_abs : mg "abs" = none
  n_bool : mg "bool" = none
  n_enumerate : mg "enumerate" = none
  n_int : mg "int" = none
  n_isinstance : mg "isinstance" = none
  n_len : mg "len" = none
  n_tuple : mg "tuple" = none
  m_gcd : mg "gcd" = some (.builtin "math.gcd")
  e_GapError : ErrC G mg "GapError" 0
  e_BadRatio : ErrC G mg "BadRatio" 1
  clX_BadRatio : ∀ c b, clX_BadRatio c = some b → PySem.W.exmOne G.K (.ref (G.cl c)) (.ref (G.cl 1)) = some b
  tabX : ∀ c d b, tabX c d = some b → ExcC G.K (G.cl c) ∧ ∃ cv, clsV G d = some cv ∧ PySem.W.kitOne G.K (.ref (G.cl c)) cv = some b
section
variable {P : Program} {w : World} {G : Glb} {mg : Str → Option Value} {base : Heap} {fa : Nat → Addr} {fd : Nat → FuncData}
theorem ok_is_whole (T : Txt G mg fa fd) : FnOk P w G.K mg base (L2.CX P w) 1 (fa 0) (fd 0) ["thing"] (spD G 1 m_is_whole) :=
  have h := fnD (P := P) (w := w) (mg := mg) (base := base) (G := G) (N := n_is_whole) (ps := ["thing"]) (k := 0) (m := b_is_whole) (O' := {}) T.d_is_whole.F sc_is_whole rfl fun cdv A outer s H E c xt =>
    (dss_one (ds_ret (de_and (de_callB (CallR.or call_isi (CallR.or call_isiT call_isiK)) (cd_isi c.K) T.n_isinstance PyProof.Rows.boot_isinstance (da_cons (de_var 0) (da_cons (de_globT "int" T.n_int boot_int) da_nil))) (de_one (de_not (de_callB (CallR.or call_isi (CallR.or call_isiT call_isiK)) (cd_isi c.K) T.n_isinstance PyProof.Rows.boot_isinstance (da_cons (de_var 0) (da_cons (de_globT "bool" T.n_bool (by decide +kernel)) da_nil))))))))
  h
theorem ok_lowest_terms (T : Txt G mg fa fd) : FnOk P w G.K mg base (L2.CX P w) 1 (fa 1) (fd 1) ["top", "bottom"] (spD G 2 m_lowest_terms) :=
  have h := fnD (P := P) (w := w) (mg := mg) (base := base) (G := G) (N := n_lowest_terms) (ps := ["top", "bottom"]) (k := 0) (m := b_lowest_terms) (O' := {}) T.d_lowest_terms.F sc_lowest_terms rfl fun cdv A outer s H E c xt =>
    (dss_cons (ds_set 2 sc_lowest_terms.nd (de_callG cr_gcd cd_gcd T.m_gcd (da_cons (de_var 0) (da_cons (de_var 1) da_nil))))
    (dss_cons (ds_if (dt_cmp op_lt opd_lt (de_var 1) de_int) (dss_one (ds_set 2 sc_lowest_terms.nd (de_un un_neg und_neg (de_var 2)))) dss_nil)
    (dss_one (ds_ret (de_tup (da_cons (de_op op_divD opd_div (de_var 0) (de_var 2)) (da_cons (de_op op_divD opd_div (de_var 1) (de_var 2)) da_nil)))))))
  h
theorem ok__law_mix (T : Txt G mg fa fd) : FnOk P w G.K mg base (L2.CX P w) 1 (fa 2) (fd 2) ["_law_number", "_law_turn"] (spD G 2 m__law_mix) :=
  have h := fnD (P := P) (w := w) (mg := mg) (base := base) (G := G) (N := n__law_mix) (ps := ["_law_number", "_law_turn"]) (k := 0) (m := b__law_mix) (O' := {}) T.d__law_mix.F sc__law_mix rfl fun cdv A outer s H E c xt =>
    (dss_cons (ds_set 2 sc__law_mix.nd (de_op op_modD opd_mod (de_callTy call_int1 cd_int T.n_int PyProof.Rows.boot_int (da_cons (de_op op_addD (opd_add c.K) (de_op op_addD (opd_add c.K) (de_op op_mulD3 (opd_mul c.K) (de_var 0) de_int) (de_op op_mulD3 (opd_mul c.K) (de_var 1) de_int)) de_int) da_nil)) de_int))
    (dss_cons (ds_set 3 sc__law_mix.nd (de_op op_modD opd_mod (de_callTy call_int1 cd_int T.n_int PyProof.Rows.boot_int (da_cons (de_op op_addD (opd_add c.K) (de_op op_addD (opd_add c.K) (de_op op_mulD3 (opd_mul c.K) (de_var 2) (de_var 2)) (de_op op_mulD3 (opd_mul c.K) (de_op op_divD opd_div (de_var 2) de_int) de_int)) (de_op op_mulD3 (opd_mul c.K) (de_var 1) de_int)) da_nil)) de_int))
    (dss_one (ds_ret (de_op op_divD opd_div (de_op op_modD opd_mod (de_callTy call_int1 cd_int T.n_int PyProof.Rows.boot_int (da_cons (de_op op_addD (opd_add c.K) (de_op op_divD opd_div (de_op op_mulD3 (opd_mul c.K) (de_var 3) (de_var 3)) de_int) (de_var 2)) da_nil)) de_int) de_int)))))
  h
theorem ok__law_hand (T : Txt G mg fa fd) : FnOk P w G.K mg base (L2.CX P w) 1 (fa 3) (fd 3) ["_law_script"] (spD G 1 m__law_hand) :=
  have h := fnD (P := P) (w := w) (mg := mg) (base := base) (G := G) (N := n__law_hand) (ps := ["_law_script"]) (k := 0) (m := b__law_hand) (O' := {}) T.d__law_hand.F sc__law_hand rfl fun cdv A outer s H E c xt =>
    (dss_cons (ds_set 1 sc__law_hand.nd de_int)
    (dss_cons (ds_for c (di_enum c.K T.n_enumerate (da_cons (de_var 0) da_nil)) (dg_tup c.calm c.K (dgs_cons (dg_name 2 sc__law_hand.nd) (dgs_cons (dg_name 3 sc__law_hand.nd) dgs_nil)) (gsCons_len (gsCons_len gsNil_len))) (dss_one (ds_set 1 sc__law_hand.nd (de_op op_modD opd_mod (de_callTy call_int1 cd_int T.n_int PyProof.Rows.boot_int (da_cons (de_op op_addD (opd_add c.K) (de_op op_mulD3 (opd_mul c.K) (de_var 1) de_int) (de_op op_mulD3 (opd_mul c.K) (de_callTy call_int1 cd_int T.n_int PyProof.Rows.boot_int (da_cons (de_var 3) da_nil)) (de_op op_addD (opd_add c.K) (de_var 2) de_int))) da_nil)) de_int))))
    (dss_one (ds_ret (de_lst (da_cons (de_lc c sc__law_hand.nd (di_seq c.K (de_var 0)) (blkOk_by (own := [("_law_cell", 3)]) (N := n__law_hand) (sc := defScope s__law_hand) (by decide +kernel)) (fun _ _ _ _ _ => (dg_name 3 sc__law_hand.nd)) (fun _ _ _ _ _ cb => dts_nil) (fun _ _ _ _ _ cb => (de_callB call_abs cd_abs T.n_abs PyProof.Rows.boot_abs (da_cons (de_callTy call_int1 cd_int T.n_int PyProof.Rows.boot_int (da_cons (de_var 3) da_nil)) da_nil)))) (da_cons de_int (da_cons de_int (da_cons (de_var 1) da_nil)))))))))
  h
theorem ok__law_low (T : Txt G mg fa fd) : FnOk P w G.K mg base (L2.CX P w) 1 (fa 4) (fd 4) ["_law_top", "_law_bottom"] (spD G 2 m__law_low) :=
  have h := fnD (P := P) (w := w) (mg := mg) (base := base) (G := G) (N := n__law_low) (ps := ["_law_top", "_law_bottom"]) (k := 0) (m := b__law_low) (O' := {}) T.d__law_low.F sc__law_low rfl fun cdv A outer s H E c xt =>
    (dss_cons (ds_set 2 sc__law_low.nd (de_callB call_abs cd_abs T.n_abs PyProof.Rows.boot_abs (da_cons (de_var 0) da_nil)))
    (dss_cons (ds_set 3 sc__law_low.nd (de_callB call_abs cd_abs T.n_abs PyProof.Rows.boot_abs (da_cons (de_var 1) da_nil)))
    (dss_cons (ds_while c (dt_tru c.K (de_var 3)) (dss_one (ds_par 2 3 c.calm sc__law_low.nd (da_cons (de_var 3) (da_cons (de_op op_modD opd_mod (de_callTy call_int1 cd_int T.n_int PyProof.Rows.boot_int (da_cons (de_var 2) da_nil)) (de_var 3)) da_nil)))))
    (dss_cons (ds_if (dt_cmp op_lt opd_lt (de_var 1) de_int) (dss_one (ds_set 2 sc__law_low.nd (de_un un_neg und_neg (de_var 2)))) dss_nil)
    (dss_one (ds_ret (de_tup (da_cons (de_op op_divD opd_div (de_var 0) (de_var 2)) (da_cons (de_op op_divD opd_div (de_var 1) (de_var 2)) da_nil)))))))))
  h
theorem ok__law_order (T : Txt G mg fa fd) : FnOk P w G.K mg base (L2.CX P w) 1 (fa 5) (fd 5) ["_law_left", "_law_right"] (spD G 2 m__law_order) :=
  have h := fnD (P := P) (w := w) (mg := mg) (base := base) (G := G) (N := n__law_order) (ps := ["_law_left", "_law_right"]) (k := 0) (m := b__law_order) (O' := {}) T.d__law_order.F sc__law_order rfl fun cdv A outer s H E c xt =>
    (dss_cons (ds_if (dt_cmp op_lt opd_lt (de_var 0) (de_var 1)) (dss_one (ds_ret (de_un un_neg und_neg de_int))) dss_nil)
    (dss_one (ds_ret (de_if (dt_cmp op_gt opd_gt (de_var 0) (de_var 1)) de_int de_int))))
  h
theorem ok_is_ratio (T : Txt G mg fa fd) : FnOk P w G.K mg base (L2.CX P w) 2 (fa 6) (fd 6) ["thing"] (spD G 1 m_is_ratio) :=
  have h := fnD (P := P) (w := w) (mg := mg) (base := base) (G := G) (N := n_is_ratio) (ps := ["thing"]) (k := 1) (m := b_is_ratio) (O' := {}) T.d_is_ratio.F sc_is_ratio rfl fun cdv A outer s H E c xt =>
    (dss_cons (ds_if (dt_tru c.K (de_callB (CallR.or call_isi (CallR.or call_isiT call_isiK)) (cd_isi c.K) T.n_isinstance PyProof.Rows.boot_isinstance (da_cons (de_var 0) (da_cons (de_globT "tuple" T.n_tuple boot_tuple) da_nil)))) (dss_one (ds_ret (de_and (de_cmp (op_eqD c.hr.units) (opd_eq c.K) (de_callB call_len (cd_len c.K) T.n_len PySem.boot_len (da_cons (de_var 0) da_nil)) de_int) (de_and (de_call c (ok_is_whole T) T.d_is_whole.g T.d_is_whole.kp T.d_is_whole.b (da_cons (de_get c.K (de_var 0) de_int) da_nil) (by decide) (len_cons len_nil)) (de_and (de_call c (ok_is_whole T) T.d_is_whole.g T.d_is_whole.kp T.d_is_whole.b (da_cons (de_get c.K (de_var 0) de_int) da_nil) (by decide) (len_cons len_nil)) (de_one (de_cmp op_gt opd_gt (de_get c.K (de_var 0) de_int) de_int))))))) dss_nil)
    (dss_one (ds_ret (de_call c (ok_is_whole T) T.d_is_whole.g T.d_is_whole.kp T.d_is_whole.b (da_cons (de_var 0) da_nil) (by decide) (len_cons len_nil)))))
  h
theorem ok__law_draw (T : Txt G mg fa fd) : FnOk P w G.K mg base (L2.CX P w) 2 (fa 7) (fd 7) ["_law_hand_here", "_law_many"] (spD G 2 m__law_draw) :=
  have h := fnD (P := P) (w := w) (mg := mg) (base := base) (G := G) (N := n__law_draw) (ps := ["_law_hand_here", "_law_many"]) (k := 1) (m := b__law_draw) (O' := {}) T.d__law_draw.F sc__law_draw rfl fun cdv A outer s H E c xt =>
    (dss_cons (ds_if (dw_and (dt_cmp (op_eqD c.hr.units) (opd_eq c.K) (de_get c.K (de_var 0) de_int) de_int) (dw_and1 (dt_cmp op_lt opd_lt (de_get c.K (de_var 0) de_int) (de_callB call_len (cd_len c.K) T.n_len PySem.boot_len (da_cons (de_get c.K (de_var 0) de_int) da_nil))))).dt (dss_cons (ds_set 2 sc__law_draw.nd (de_get c.K (de_get c.K (de_var 0) de_int) (de_get c.K (de_var 0) de_int)))
    (dss_cons (ds_put 0 (de_op op_addD (opd_add c.K) (de_get c.K (de_var 0) de_int) de_int))
    (dss_cons (ds_if (dt_cmp op_lt opd_lt (de_var 2) (de_op op_pow opd_pow de_int de_int)) (dss_one (ds_ret (de_op op_modD opd_mod (de_callTy call_int1 cd_int T.n_int PyProof.Rows.boot_int (da_cons (de_call c (ok__law_mix T) T.d__law_mix.g T.d__law_mix.kp T.d__law_mix.b (da_cons (de_op op_modD opd_mod (de_callTy call_int1 cd_int T.n_int PyProof.Rows.boot_int (da_cons (de_var 2) da_nil)) de_int) (da_cons (de_get c.K (de_var 0) de_int) da_nil)) (by decide) (len_cons (len_cons len_nil))) da_nil)) (de_var 1)))) dss_nil)
    (dss_one (ds_put 0 (de_var 2)))))) dss_nil)
    (dss_cons (ds_if (dt_cmp op_gt opd_gt (de_get c.K (de_var 0) de_int) de_int) (dss_cons (ds_set 3 sc__law_draw.nd (de_get c.K (de_var 0) de_int))
    (dss_cons (ds_put 0 (de_op op_divD opd_div (de_var 3) (de_var 1)))
    (dss_one (ds_ret (de_op op_modD opd_mod (de_callTy call_int1 cd_int T.n_int PyProof.Rows.boot_int (da_cons (de_var 3) da_nil)) (de_var 1)))))) dss_nil)
    (dss_cons (ds_put 0 (de_op op_modD opd_mod (de_callTy call_int1 cd_int T.n_int PyProof.Rows.boot_int (da_cons (de_op op_addD (opd_add c.K) (de_get c.K (de_var 0) de_int) de_int) da_nil)) de_int))
    (dss_one (ds_ret (de_op op_modD opd_mod (de_callTy call_int1 cd_int T.n_int PyProof.Rows.boot_int (da_cons (de_call c (ok__law_mix T) T.d__law_mix.g T.d__law_mix.kp T.d__law_mix.b (da_cons (de_get c.K (de_var 0) de_int) (da_cons (de_get c.K (de_var 0) de_int) da_nil)) (by decide) (len_cons (len_cons len_nil))) da_nil)) (de_var 1)))))))
  h
theorem ok__law_is_ratio (T : Txt G mg fa fd) : FnOk P w G.K mg base (L2.CX P w) 2 (fa 8) (fd 8) ["_law_x"] (spD G 1 m__law_is_ratio) :=
  have h := fnD (P := P) (w := w) (mg := mg) (base := base) (G := G) (N := n__law_is_ratio) (ps := ["_law_x"]) (k := 1) (m := b__law_is_ratio) (O' := {}) T.d__law_is_ratio.F sc__law_is_ratio rfl fun cdv A outer s H E c xt =>
    (dss_cons (ds_if (dw_or (dt_not (dt_tru c.K (de_callB (CallR.or call_isi (CallR.or call_isiT call_isiK)) (cd_isi c.K) T.n_isinstance PyProof.Rows.boot_isinstance (da_cons (de_var 0) (da_cons (de_globT "tuple" T.n_tuple boot_tuple) da_nil))))) (dw_or1 (dt_cmp (op_neD c.hr.units) (opd_ne c.K) (de_callB call_len (cd_len c.K) T.n_len PySem.boot_len (da_cons (de_var 0) da_nil)) de_int))).dt (dss_one (ds_ret de_bl)) dss_nil)
    (dss_cons (ds_for c (di_seq c.K (de_var 0)) (dg_name 1 sc__law_is_ratio.nd) (dss_one (ds_if (dw_or (dt_not (dt_tru c.K (de_callB (CallR.or call_isi (CallR.or call_isiT call_isiK)) (cd_isi c.K) T.n_isinstance PyProof.Rows.boot_isinstance (da_cons (de_var 1) (da_cons (de_globT "int" T.n_int boot_int) da_nil))))) (dw_or1 (dt_tru c.K (de_callB (CallR.or call_isi (CallR.or call_isiT call_isiK)) (cd_isi c.K) T.n_isinstance PyProof.Rows.boot_isinstance (da_cons (de_var 1) (da_cons (de_globT "bool" T.n_bool (by decide +kernel)) da_nil)))))).dt (dss_one (ds_ret de_bl)) dss_nil)))
    (dss_one (ds_ret (de_and (de_cmp op_gt opd_gt (de_get c.K (de_var 0) de_int) de_int) (de_one (de_cmp (op_eqD c.hr.units) (opd_eq c.K) (de_call c (ok__law_low T) T.d__law_low.g T.d__law_low.kp T.d__law_low.b (da_cons (de_get c.K (de_var 0) de_int) (da_cons (de_get c.K (de_var 0) de_int) da_nil)) (by decide) (len_cons (len_cons len_nil))) (de_var 0))))))))
  h
theorem ok_ratio_of (T : Txt G mg fa fd) : FnOk P w G.K mg base (L2.CX P w) 3 (fa 9) (fd 9) ["thing"] (spD G 1 m_ratio_of) :=
  have h := fnD (P := P) (w := w) (mg := mg) (base := base) (G := G) (N := n_ratio_of) (ps := ["thing"]) (k := 2) (m := b_ratio_of) (O' := {}) T.d_ratio_of.F sc_ratio_of rfl fun cdv A outer s H E c xt =>
    (dss_cons (ds_if (dt_not (dt_tru c.K (de_call c (ok_is_ratio T) T.d_is_ratio.g T.d_is_ratio.kp T.d_is_ratio.b (da_cons (de_var 0) da_nil) (by decide) (len_cons len_nil)))) (dss_one (ds_raise0 c T.e_BadRatio)) dss_nil)
    (dss_cons (ds_if (dt_not (dt_tru c.K (de_callB (CallR.or call_isi (CallR.or call_isiT call_isiK)) (cd_isi c.K) T.n_isinstance PyProof.Rows.boot_isinstance (da_cons (de_var 0) (da_cons (de_globT "tuple" T.n_tuple boot_tuple) da_nil))))) (dss_one (ds_ret (de_tup (da_cons (de_var 0) (da_cons de_int da_nil))))) dss_nil)
    (dss_one (ds_ret (de_call c (ok_lowest_terms T) T.d_lowest_terms.g T.d_lowest_terms.kp T.d_lowest_terms.b (da_cons (de_get c.K (de_var 0) de_int) (da_cons (de_get c.K (de_var 0) de_int) da_nil)) (by decide) (len_cons (len_cons len_nil)))))))
  h
theorem ok__law_thing (T : Txt G mg fa fd) : FnOk P w G.K mg base (L2.CX P w) 3 (fa 10) (fd 10) ["_law_hand_here"] (spD G 1 m__law_thing) :=
  have h := fnD (P := P) (w := w) (mg := mg) (base := base) (G := G) (N := n__law_thing) (ps := ["_law_hand_here"]) (k := 2) (m := b__law_thing) (O' := {}) T.d__law_thing.F sc__law_thing rfl fun cdv A outer s H E c xt =>
    (dss_cons (ds_set 1 sc__law_thing.nd (de_if (dt_cmp (op_eqD c.hr.units) (opd_eq c.K) (de_call c (ok__law_draw T) T.d__law_draw.g T.d__law_draw.kp T.d__law_draw.b (da_cons (de_var 0) (da_cons de_int da_nil)) (by decide) (len_cons (len_cons len_nil))) de_int) de_int (de_op op_pow opd_pow de_int de_int)))
    (dss_cons (ds_set 2 sc__law_thing.nd (de_op op_sub opd_sub (de_call c (ok__law_draw T) T.d__law_draw.g T.d__law_draw.kp T.d__law_draw.b (da_cons (de_var 0) (da_cons (de_op op_addD (opd_add c.K) (de_op op_mulD3 (opd_mul c.K) de_int (de_var 1)) de_int) da_nil)) (by decide) (len_cons (len_cons len_nil))) (de_var 1)))
    (dss_cons (ds_if (dt_cmp (op_eqD c.hr.units) (opd_eq c.K) (de_call c (ok__law_draw T) T.d__law_draw.g T.d__law_draw.kp T.d__law_draw.b (da_cons (de_var 0) (da_cons de_int da_nil)) (by decide) (len_cons (len_cons len_nil))) de_int) (dss_one (ds_set 2 sc__law_thing.nd de_int)) dss_nil)
    (dss_cons (ds_set 3 sc__law_thing.nd (de_call c (ok__law_draw T) T.d__law_draw.g T.d__law_draw.kp T.d__law_draw.b (da_cons (de_var 0) (da_cons de_int da_nil)) (by decide) (len_cons (len_cons len_nil))))
    (dss_cons (ds_if (dt_cmp (op_eqD c.hr.units) (opd_eq c.K) (de_var 3) de_int) (dss_one (ds_ret (de_lst (da_cons (de_var 2) (da_cons (de_var 2) (da_cons de_int da_nil)))))) dss_nil)
    (dss_cons (ds_set 4 sc__law_thing.nd (de_op op_addD (opd_add c.K) de_int (de_call c (ok__law_draw T) T.d__law_draw.g T.d__law_draw.kp T.d__law_draw.b (da_cons (de_var 0) (da_cons (de_var 1) da_nil)) (by decide) (len_cons (len_cons len_nil)))))
    (dss_cons (ds_set 5 sc__law_thing.nd de_int)
    (dss_cons (ds_if (dt_cmp (op_eqD c.hr.units) (opd_eq c.K) (de_var 3) de_int) (dss_one (ds_set 5 sc__law_thing.nd (de_op op_addD (opd_add c.K) de_int (de_call c (ok__law_draw T) T.d__law_draw.g T.d__law_draw.kp T.d__law_draw.b (da_cons (de_var 0) (da_cons de_int da_nil)) (by decide) (len_cons (len_cons len_nil)))))) dss_nil)
    (dss_one (ds_ret (de_lst (da_cons (de_tup (da_cons (de_op op_mulD3 (opd_mul c.K) (de_var 2) (de_var 5)) (da_cons (de_op op_mulD3 (opd_mul c.K) (de_var 4) (de_var 5)) da_nil))) (da_cons (de_var 2) (da_cons (de_var 4) da_nil))))))))))))))
  h
theorem ok__law_same (T : Txt G mg fa fd) : FnOk P w G.K mg base (L2.CX P w) 3 (fa 11) (fd 11) ["_law_told", "_law_top", "_law_bottom"] (spD G 3 m__law_same) :=
  have h := fnD (P := P) (w := w) (mg := mg) (base := base) (G := G) (N := n__law_same) (ps := ["_law_told", "_law_top", "_law_bottom"]) (k := 2) (m := b__law_same) (O' := {}) T.d__law_same.F sc__law_same rfl fun cdv A outer s H E c xt =>
    (dss_one (ds_ret (de_and (de_call c (ok__law_is_ratio T) T.d__law_is_ratio.g T.d__law_is_ratio.kp T.d__law_is_ratio.b (da_cons (de_var 0) da_nil) (by decide) (len_cons len_nil)) (de_one (de_cmp (op_eqD c.hr.units) (opd_eq c.K) (de_var 0) (de_call c (ok__law_low T) T.d__law_low.g T.d__law_low.kp T.d__law_low.b (da_cons (de_var 1) (da_cons (de_var 2) da_nil)) (by decide) (len_cons (len_cons len_nil))))))))
  h
theorem ok_plus (T : Txt G mg fa fd) : FnOk P w G.K mg base (L2.CX P w) 4 (fa 12) (fd 12) ["one", "other"] (spD G 2 m_plus) :=
  have h := fnD (P := P) (w := w) (mg := mg) (base := base) (G := G) (N := n_plus) (ps := ["one", "other"]) (k := 3) (m := b_plus) (O' := {}) T.d_plus.F sc_plus rfl fun cdv A outer s H E c xt =>
    (dss_cons (ds_asg (de_call c (ok_ratio_of T) T.d_ratio_of.g T.d_ratio_of.kp T.d_ratio_of.b (da_cons (de_var 0) da_nil) (by decide) (len_cons len_nil)) (dg_tup c.calm c.K (dgs_cons (dg_name 2 sc_plus.nd) (dgs_cons (dg_name 3 sc_plus.nd) dgs_nil)) (gsCons_len (gsCons_len gsNil_len))))
    (dss_cons (ds_asg (de_call c (ok_ratio_of T) T.d_ratio_of.g T.d_ratio_of.kp T.d_ratio_of.b (da_cons (de_var 1) da_nil) (by decide) (len_cons len_nil)) (dg_tup c.calm c.K (dgs_cons (dg_name 4 sc_plus.nd) (dgs_cons (dg_name 5 sc_plus.nd) dgs_nil)) (gsCons_len (gsCons_len gsNil_len))))
    (dss_one (ds_ret (de_call c (ok_lowest_terms T) T.d_lowest_terms.g T.d_lowest_terms.kp T.d_lowest_terms.b (da_cons (de_op op_addD (opd_add c.K) (de_op op_mulD3 (opd_mul c.K) (de_var 2) (de_var 5)) (de_op op_mulD3 (opd_mul c.K) (de_var 4) (de_var 3))) (da_cons (de_op op_mulD3 (opd_mul c.K) (de_var 3) (de_var 5)) da_nil)) (by decide) (len_cons (len_cons len_nil)))))))
  h
theorem ok_minus (T : Txt G mg fa fd) : FnOk P w G.K mg base (L2.CX P w) 4 (fa 13) (fd 13) ["one", "other"] (spD G 2 m_minus) :=
  have h := fnD (P := P) (w := w) (mg := mg) (base := base) (G := G) (N := n_minus) (ps := ["one", "other"]) (k := 3) (m := b_minus) (O' := {}) T.d_minus.F sc_minus rfl fun cdv A outer s H E c xt =>
    (dss_cons (ds_asg (de_call c (ok_ratio_of T) T.d_ratio_of.g T.d_ratio_of.kp T.d_ratio_of.b (da_cons (de_var 0) da_nil) (by decide) (len_cons len_nil)) (dg_tup c.calm c.K (dgs_cons (dg_name 2 sc_minus.nd) (dgs_cons (dg_name 3 sc_minus.nd) dgs_nil)) (gsCons_len (gsCons_len gsNil_len))))
    (dss_cons (ds_asg (de_call c (ok_ratio_of T) T.d_ratio_of.g T.d_ratio_of.kp T.d_ratio_of.b (da_cons (de_var 1) da_nil) (by decide) (len_cons len_nil)) (dg_tup c.calm c.K (dgs_cons (dg_name 4 sc_minus.nd) (dgs_cons (dg_name 5 sc_minus.nd) dgs_nil)) (gsCons_len (gsCons_len gsNil_len))))
    (dss_one (ds_ret (de_call c (ok_lowest_terms T) T.d_lowest_terms.g T.d_lowest_terms.kp T.d_lowest_terms.b (da_cons (de_op op_sub opd_sub (de_op op_mulD3 (opd_mul c.K) (de_var 2) (de_var 5)) (de_op op_mulD3 (opd_mul c.K) (de_var 4) (de_var 3))) (da_cons (de_op op_mulD3 (opd_mul c.K) (de_var 3) (de_var 5)) da_nil)) (by decide) (len_cons (len_cons len_nil)))))))
  h
theorem ok_times (T : Txt G mg fa fd) : FnOk P w G.K mg base (L2.CX P w) 4 (fa 14) (fd 14) ["one", "other"] (spD G 2 m_times) :=
  have h := fnD (P := P) (w := w) (mg := mg) (base := base) (G := G) (N := n_times) (ps := ["one", "other"]) (k := 3) (m := b_times) (O' := {}) T.d_times.F sc_times rfl fun cdv A outer s H E c xt =>
    (dss_cons (ds_asg (de_call c (ok_ratio_of T) T.d_ratio_of.g T.d_ratio_of.kp T.d_ratio_of.b (da_cons (de_var 0) da_nil) (by decide) (len_cons len_nil)) (dg_tup c.calm c.K (dgs_cons (dg_name 2 sc_times.nd) (dgs_cons (dg_name 3 sc_times.nd) dgs_nil)) (gsCons_len (gsCons_len gsNil_len))))
    (dss_cons (ds_asg (de_call c (ok_ratio_of T) T.d_ratio_of.g T.d_ratio_of.kp T.d_ratio_of.b (da_cons (de_var 1) da_nil) (by decide) (len_cons len_nil)) (dg_tup c.calm c.K (dgs_cons (dg_name 4 sc_times.nd) (dgs_cons (dg_name 5 sc_times.nd) dgs_nil)) (gsCons_len (gsCons_len gsNil_len))))
    (dss_one (ds_ret (de_call c (ok_lowest_terms T) T.d_lowest_terms.g T.d_lowest_terms.kp T.d_lowest_terms.b (da_cons (de_op op_mulD3 (opd_mul c.K) (de_var 2) (de_var 4)) (da_cons (de_op op_mulD3 (opd_mul c.K) (de_var 3) (de_var 5)) da_nil)) (by decide) (len_cons (len_cons len_nil)))))))
  h
theorem ok_over (T : Txt G mg fa fd) : FnOk P w G.K mg base (L2.CX P w) 4 (fa 15) (fd 15) ["one", "other"] (spD G 2 m_over) :=
  have h := fnD (P := P) (w := w) (mg := mg) (base := base) (G := G) (N := n_over) (ps := ["one", "other"]) (k := 3) (m := b_over) (O' := {}) T.d_over.F sc_over rfl fun cdv A outer s H E c xt =>
    (dss_cons (ds_asg (de_call c (ok_ratio_of T) T.d_ratio_of.g T.d_ratio_of.kp T.d_ratio_of.b (da_cons (de_var 0) da_nil) (by decide) (len_cons len_nil)) (dg_tup c.calm c.K (dgs_cons (dg_name 2 sc_over.nd) (dgs_cons (dg_name 3 sc_over.nd) dgs_nil)) (gsCons_len (gsCons_len gsNil_len))))
    (dss_cons (ds_asg (de_call c (ok_ratio_of T) T.d_ratio_of.g T.d_ratio_of.kp T.d_ratio_of.b (da_cons (de_var 1) da_nil) (by decide) (len_cons len_nil)) (dg_tup c.calm c.K (dgs_cons (dg_name 4 sc_over.nd) (dgs_cons (dg_name 5 sc_over.nd) dgs_nil)) (gsCons_len (gsCons_len gsNil_len))))
    (dss_cons (ds_if (dt_cmp (op_eqD c.hr.units) (opd_eq c.K) (de_var 4) de_int) (dss_one (ds_raise0 c T.e_BadRatio)) dss_nil)
    (dss_one (ds_ret (de_call c (ok_lowest_terms T) T.d_lowest_terms.g T.d_lowest_terms.kp T.d_lowest_terms.b (da_cons (de_op op_mulD3 (opd_mul c.K) (de_var 2) (de_var 5)) (da_cons (de_op op_mulD3 (opd_mul c.K) (de_var 3) (de_var 4)) da_nil)) (by decide) (len_cons (len_cons len_nil))))))))
  h
theorem ok_compare (T : Txt G mg fa fd) : FnOk P w G.K mg base (L2.CX P w) 4 (fa 16) (fd 16) ["one", "other"] (spD G 2 m_compare) :=
  have h := fnD (P := P) (w := w) (mg := mg) (base := base) (G := G) (N := n_compare) (ps := ["one", "other"]) (k := 3) (m := b_compare) (O' := {}) T.d_compare.F sc_compare rfl fun cdv A outer s H E c xt =>
    (dss_cons (ds_asg (de_call c (ok_ratio_of T) T.d_ratio_of.g T.d_ratio_of.kp T.d_ratio_of.b (da_cons (de_var 0) da_nil) (by decide) (len_cons len_nil)) (dg_tup c.calm c.K (dgs_cons (dg_name 2 sc_compare.nd) (dgs_cons (dg_name 3 sc_compare.nd) dgs_nil)) (gsCons_len (gsCons_len gsNil_len))))
    (dss_cons (ds_asg (de_call c (ok_ratio_of T) T.d_ratio_of.g T.d_ratio_of.kp T.d_ratio_of.b (da_cons (de_var 1) da_nil) (by decide) (len_cons len_nil)) (dg_tup c.calm c.K (dgs_cons (dg_name 4 sc_compare.nd) (dgs_cons (dg_name 5 sc_compare.nd) dgs_nil)) (gsCons_len (gsCons_len gsNil_len))))
    (dss_cons (ds_set 6 sc_compare.nd (de_op op_mulD3 (opd_mul c.K) (de_var 2) (de_var 5)))
    (dss_cons (ds_set 7 sc_compare.nd (de_op op_mulD3 (opd_mul c.K) (de_var 4) (de_var 3)))
    (dss_cons (ds_if (dt_cmp op_lt opd_lt (de_var 6) (de_var 7)) (dss_one (ds_ret (de_un un_neg und_neg de_int))) dss_nil)
    (dss_one (ds_ret (de_if (dt_cmp op_gt opd_gt (de_var 6) (de_var 7)) de_int de_int))))))))
  h
theorem ok__law_over (T : Txt G mg fa fd) : FnOk P w G.K mg base (L2.CX P w) 5 (fa 17) (fd 17) ["_law_one", "_law_other"] (spD G 2 m__law_over) :=
  have h := fnD (P := P) (w := w) (mg := mg) (base := base) (G := G) (N := n__law_over) (ps := ["_law_one", "_law_other"]) (k := 4) (m := b__law_over) (O' := {}) T.d__law_over.F sc__law_over rfl fun cdv A outer s H E c xt =>
    (dss_one (ds_try_as 2 clX_BadRatio c xt sc__law_over.nd ⟨rfl, by decide, .inl T.e_BadRatio.g⟩ T.clX_BadRatio (fun _ _ _ ct xtt => (dss_one (ds_ret (de_call ct (ok_over T) T.d_over.g T.d_over.kp T.d_over.b (da_cons (de_var 0) (da_cons (de_var 1) da_nil)) (by decide) (len_cons (len_cons len_nil)))))) (fun _ _ _ _ _ hz hf => (dss_one (ds_ret (de_if (dw_and (dt_tru (suK c.K) (de_isX 2 tabX hz hf c.K T.n_isinstance T.tabX (de_globC 0 T.e_GapError.g))) (dw_and1 (dt_tru (suK c.K) (de_isX 2 tabX hz hf c.K T.n_isinstance T.tabX (de_globT "ValueError" T.n_ValueError (by decide +kernel)))))).dt de_str de_str))))))
  h
theorem ok__law_two (T : Txt G mg fa fd) : FnOk P w G.K mg base (L2.CX P w) 6 (fa 18) (fd 18) ["_law_x", "_law_y"] (spD G 2 m__law_two) :=
  have h := fnD (P := P) (w := w) (mg := mg) (base := base) (G := G) (N := n__law_two) (ps := ["_law_x", "_law_y"]) (k := 5) (m := b__law_two) (O' := {}) T.d__law_two.F sc__law_two rfl fun cdv A outer s H E c xt =>
    (dss_cons (ds_asg (de_tup (da_cons (de_get c.K (de_var 0) de_int) (da_cons (de_get c.K (de_var 0) de_int) (da_cons (de_get c.K (de_var 1) de_int) (da_cons (de_get c.K (de_var 1) de_int) da_nil))))) (dg_tup c.calm c.K (dgs_cons (dg_name 2 sc__law_two.nd) (dgs_cons (dg_name 3 sc__law_two.nd) (dgs_cons (dg_name 4 sc__law_two.nd) (dgs_cons (dg_name 5 sc__law_two.nd) dgs_nil)))) (gsCons_len (gsCons_len (gsCons_len (gsCons_len gsNil_len))))))
    (dss_cons (ds_par 6 7 c.calm sc__law_two.nd (da_cons (de_get c.K (de_var 0) de_int) (da_cons (de_get c.K (de_var 1) de_int) da_nil)))
    (dss_cons (ds_if (dw_or (dt_not (dt_tru c.K (de_call c (ok__law_same T) T.d__law_same.g T.d__law_same.kp T.d__law_same.b (da_cons (de_call c (ok_ratio_of T) T.d_ratio_of.g T.d_ratio_of.kp T.d_ratio_of.b (da_cons (de_var 6) da_nil) (by decide) (len_cons len_nil)) (da_cons (de_var 2) (da_cons (de_var 3) da_nil))) (by decide) (len_cons (len_cons (len_cons len_nil)))))) (dw_or1 (dt_not (dt_tru c.K (de_call c (ok__law_same T) T.d__law_same.g T.d__law_same.kp T.d__law_same.b (da_cons (de_call c (ok_lowest_terms T) T.d_lowest_terms.g T.d_lowest_terms.kp T.d_lowest_terms.b (da_cons (de_op op_mulD3 (opd_mul c.K) (de_var 2) de_int) (da_cons (de_op op_mulD3 (opd_mul c.K) (de_un un_neg und_neg (de_var 3)) de_int) da_nil)) (by decide) (len_cons (len_cons len_nil))) (da_cons (de_un un_neg und_neg (de_var 2)) (da_cons (de_var 3) da_nil))) (by decide) (len_cons (len_cons (len_cons len_nil)))))))).dt (dss_one (ds_ret de_bl)) dss_nil)
    (dss_cons (ds_if (dw_or (dt_not (dt_tru c.K (de_call c (ok__law_same T) T.d__law_same.g T.d__law_same.kp T.d__law_same.b (da_cons (de_call c (ok_plus T) T.d_plus.g T.d_plus.kp T.d_plus.b (da_cons (de_var 6) (da_cons (de_var 7) da_nil)) (by decide) (len_cons (len_cons len_nil))) (da_cons (de_op op_addD (opd_add c.K) (de_op op_mulD3 (opd_mul c.K) (de_var 2) (de_var 5)) (de_op op_mulD3 (opd_mul c.K) (de_var 4) (de_var 3))) (da_cons (de_op op_mulD3 (opd_mul c.K) (de_var 3) (de_var 5)) da_nil))) (by decide) (len_cons (len_cons (len_cons len_nil)))))) (dw_or1 (dt_not (dt_tru c.K (de_call c (ok__law_same T) T.d__law_same.g T.d__law_same.kp T.d__law_same.b (da_cons (de_call c (ok_minus T) T.d_minus.g T.d_minus.kp T.d_minus.b (da_cons (de_var 6) (da_cons (de_var 7) da_nil)) (by decide) (len_cons (len_cons len_nil))) (da_cons (de_op op_sub opd_sub (de_op op_mulD3 (opd_mul c.K) (de_var 2) (de_var 5)) (de_op op_mulD3 (opd_mul c.K) (de_var 4) (de_var 3))) (da_cons (de_op op_mulD3 (opd_mul c.K) (de_var 3) (de_var 5)) da_nil))) (by decide) (len_cons (len_cons (len_cons len_nil)))))))).dt (dss_one (ds_ret de_bl)) dss_nil)
    (dss_cons (ds_if (dt_not (dt_tru c.K (de_call c (ok__law_same T) T.d__law_same.g T.d__law_same.kp T.d__law_same.b (da_cons (de_call c (ok_times T) T.d_times.g T.d_times.kp T.d_times.b (da_cons (de_var 6) (da_cons (de_var 7) da_nil)) (by decide) (len_cons (len_cons len_nil))) (da_cons (de_op op_mulD3 (opd_mul c.K) (de_var 2) (de_var 4)) (da_cons (de_op op_mulD3 (opd_mul c.K) (de_var 3) (de_var 5)) da_nil))) (by decide) (len_cons (len_cons (len_cons len_nil)))))) (dss_one (ds_ret de_bl)) dss_nil)
    (dss_cons (ds_set 8 sc__law_two.nd (de_call c (ok_compare T) T.d_compare.g T.d_compare.kp T.d_compare.b (da_cons (de_var 6) (da_cons (de_var 7) da_nil)) (by decide) (len_cons (len_cons len_nil))))
    (dss_cons (ds_if (dw_or (dt_tru c.K (de_callB (CallR.or call_isi (CallR.or call_isiT call_isiK)) (cd_isi c.K) T.n_isinstance PyProof.Rows.boot_isinstance (da_cons (de_var 8) (da_cons (de_globT "bool" T.n_bool (by decide +kernel)) da_nil)))) (dw_or (dt_cmp (op_neD c.hr.units) (opd_ne c.K) (de_var 8) (de_call c (ok__law_order T) T.d__law_order.g T.d__law_order.kp T.d__law_order.b (da_cons (de_op op_mulD3 (opd_mul c.K) (de_var 2) (de_var 5)) (da_cons (de_op op_mulD3 (opd_mul c.K) (de_var 4) (de_var 3)) da_nil)) (by decide) (len_cons (len_cons len_nil)))) (dw_or1 (dt_cmp (op_neD c.hr.units) (opd_ne c.K) (de_call c (ok_compare T) T.d_compare.g T.d_compare.kp T.d_compare.b (da_cons (de_var 7) (da_cons (de_var 6) da_nil)) (by decide) (len_cons (len_cons len_nil))) (de_un un_neg und_neg (de_var 8)))))).dt (dss_one (ds_ret de_bl)) dss_nil)
    (dss_cons (ds_if (dt_cmp (op_eqD c.hr.units) (opd_eq c.K) (de_var 4) de_int) (dss_one (ds_ret (de_cmp (op_eqD c.hr.units) (opd_eq c.K) (de_call c (ok__law_over T) T.d__law_over.g T.d__law_over.kp T.d__law_over.b (da_cons (de_var 6) (da_cons (de_var 7) da_nil)) (by decide) (len_cons (len_cons len_nil))) de_str))) dss_nil)
    (dss_one (ds_ret (de_call c (ok__law_same T) T.d__law_same.g T.d__law_same.kp T.d__law_same.b (da_cons (de_call c (ok__law_over T) T.d__law_over.g T.d__law_over.kp T.d__law_over.b (da_cons (de_var 6) (da_cons (de_var 7) da_nil)) (by decide) (len_cons (len_cons len_nil))) (da_cons (de_op op_mulD3 (opd_mul c.K) (de_var 2) (de_var 5)) (da_cons (de_op op_mulD3 (opd_mul c.K) (de_var 3) (de_var 4)) da_nil))) (by decide) (len_cons (len_cons (len_cons len_nil))))))))))))))
  h
theorem ok_law (T : Txt G mg fa fd) (hH : ∀ (ns : List Int), ns.length ≤ 63 → ∃ cells t, m__law_hand [.rol (ns.map .int)] [] = .ok (handD cells 0 0 t) [] ∧ ∃ st', b_law (some (.rol (ns.map .int)) :: some (.tok 0) :: List.replicate 7 none) [handD cells 0 0 t] = .rt (.bl true) st') : FnOk P w G.K mg base (L2.CX P w) 7 (fa 19) (fd 19) ["_law_script"] (spLaw G.K) :=
  have h := lawD (P := P) (w := w) (mg := mg) (base := base) (G := G) (N := n_law) (k := 6) (m := b_law) (O' := {}) T.d_law.F sc_law rfl rfl rfl rfl rfl rfl (ok__law_hand T) T.d__law_hand.g T.d__law_hand.kp T.d__law_hand.b (by decide) hH fun cdv A outer s H E c xt =>
    (dss_cons (ds_set 2 sc_law.nd (de_call c (ok__law_thing T) T.d__law_thing.g T.d__law_thing.kp T.d__law_thing.b (da_cons (de_var 1) da_nil) (by decide) (len_cons len_nil)))
    (dss_cons (ds_set 3 sc_law.nd (de_call c (ok__law_thing T) T.d__law_thing.g T.d__law_thing.kp T.d__law_thing.b (da_cons (de_var 1) da_nil) (by decide) (len_cons len_nil)))
    (dss_cons (ds_set 4 sc_law.nd (de_call c (ok__law_thing T) T.d__law_thing.g T.d__law_thing.kp T.d__law_thing.b (da_cons (de_var 1) da_nil) (by decide) (len_cons len_nil)))
    (dss_cons (ds_set 5 sc_law.nd (de_lst (da_cons (de_tup (da_cons (de_op op_mulD3 (opd_mul c.K) (de_un un_neg und_neg de_int) (de_get c.K (de_var 2) de_int)) (da_cons (de_op op_mulD3 (opd_mul c.K) de_int (de_get c.K (de_var 2) de_int)) da_nil))) (da_cons (de_un un_neg und_neg (de_get c.K (de_var 2) de_int)) (da_cons (de_get c.K (de_var 2) de_int) da_nil)))))
    (dss_cons (ds_for c (di_seq c.K (de_lst (da_cons (de_var 2) (da_cons (de_var 3) (da_cons (de_var 4) (da_cons (de_var 5) da_nil)))))) (dg_name 6 sc_law.nd) (dss_one (ds_for c (di_seq c.K (de_lst (da_cons (de_var 2) (da_cons (de_var 3) (da_cons (de_var 4) (da_cons (de_var 5) da_nil)))))) (dg_name 7 sc_law.nd) (dss_one (ds_if (dt_not (dt_tru c.K (de_call c (ok__law_two T) T.d__law_two.g T.d__law_two.kp T.d__law_two.b (da_cons (de_var 6) (da_cons (de_var 7) da_nil)) (by decide) (len_cons (len_cons len_nil))))) (dss_one (ds_ret de_bl)) dss_nil)))))
    (dss_cons (ds_set 8 sc_law.nd (de_call c (ok_plus T) T.d_plus.g T.d_plus.kp T.d_plus.b (da_cons (de_get c.K (de_var 2) de_int) (da_cons (de_call c (ok_plus T) T.d_plus.g T.d_plus.kp T.d_plus.b (da_cons (de_get c.K (de_var 3) de_int) (da_cons (de_get c.K (de_var 4) de_int) da_nil)) (by decide) (len_cons (len_cons len_nil))) da_nil)) (by decide) (len_cons (len_cons len_nil))))
    (dss_cons (ds_if (dw_or (dt_cmp (op_neD c.hr.units) (opd_ne c.K) (de_var 8) (de_call c (ok_plus T) T.d_plus.g T.d_plus.kp T.d_plus.b (da_cons (de_call c (ok_plus T) T.d_plus.g T.d_plus.kp T.d_plus.b (da_cons (de_get c.K (de_var 2) de_int) (da_cons (de_get c.K (de_var 3) de_int) da_nil)) (by decide) (len_cons (len_cons len_nil))) (da_cons (de_get c.K (de_var 4) de_int) da_nil)) (by decide) (len_cons (len_cons len_nil)))) (dw_or1 (dt_cmp (op_neD c.hr.units) (opd_ne c.K) (de_call c (ok_minus T) T.d_minus.g T.d_minus.kp T.d_minus.b (da_cons (de_var 8) (da_cons (de_get c.K (de_var 4) de_int) da_nil)) (by decide) (len_cons (len_cons len_nil))) (de_call c (ok_plus T) T.d_plus.g T.d_plus.kp T.d_plus.b (da_cons (de_get c.K (de_var 3) de_int) (da_cons (de_get c.K (de_var 2) de_int) da_nil)) (by decide) (len_cons (len_cons len_nil)))))).dt (dss_one (ds_ret de_bl)) dss_nil)
    (dss_cons (ds_if (dt_cmp (op_neD c.hr.units) (opd_ne c.K) (de_call c (ok_times T) T.d_times.g T.d_times.kp T.d_times.b (da_cons (de_get c.K (de_var 2) de_int) (da_cons (de_call c (ok_plus T) T.d_plus.g T.d_plus.kp T.d_plus.b (da_cons (de_get c.K (de_var 3) de_int) (da_cons (de_get c.K (de_var 4) de_int) da_nil)) (by decide) (len_cons (len_cons len_nil))) da_nil)) (by decide) (len_cons (len_cons len_nil))) (de_call c (ok_plus T) T.d_plus.g T.d_plus.kp T.d_plus.b (da_cons (de_call c (ok_times T) T.d_times.g T.d_times.kp T.d_times.b (da_cons (de_get c.K (de_var 2) de_int) (da_cons (de_get c.K (de_var 3) de_int) da_nil)) (by decide) (len_cons (len_cons len_nil))) (da_cons (de_call c (ok_times T) T.d_times.g T.d_times.kp T.d_times.b (da_cons (de_get c.K (de_var 4) de_int) (da_cons (de_get c.K (de_var 2) de_int) da_nil)) (by decide) (len_cons (len_cons len_nil))) da_nil)) (by decide) (len_cons (len_cons len_nil)))) (dss_one (ds_ret de_bl)) dss_nil)
    (dss_cons (ds_if (dw_or (dt_cmp (op_neD c.hr.units) (opd_ne c.K) (de_call c (ok_plus T) T.d_plus.g T.d_plus.kp T.d_plus.b (da_cons (de_get c.K (de_var 2) de_int) (da_cons (de_get c.K (de_var 5) de_int) da_nil)) (by decide) (len_cons (len_cons len_nil))) (de_tup (da_cons de_int (da_cons de_int da_nil)))) (dw_or1 (dt_cmp (op_neD c.hr.units) (opd_ne c.K) (de_call c (ok_compare T) T.d_compare.g T.d_compare.kp T.d_compare.b (da_cons (de_call c (ok_minus T) T.d_minus.g T.d_minus.kp T.d_minus.b (da_cons (de_get c.K (de_var 3) de_int) (da_cons (de_get c.K (de_var 3) de_int) da_nil)) (by decide) (len_cons (len_cons len_nil))) (da_cons de_int da_nil)) (by decide) (len_cons (len_cons len_nil))) de_int))).dt (dss_one (ds_ret de_bl)) dss_nil)
    (dss_cons (ds_if (dw_and (dt_cmp (op_neD c.hr.units) (opd_ne c.K) (de_get c.K (de_var 4) de_int) de_int) (dw_and1 (dt_cmp (op_neD c.hr.units) (opd_ne c.K) (de_call c (ok_over T) T.d_over.g T.d_over.kp T.d_over.b (da_cons (de_call c (ok_times T) T.d_times.g T.d_times.kp T.d_times.b (da_cons (de_get c.K (de_var 3) de_int) (da_cons (de_get c.K (de_var 4) de_int) da_nil)) (by decide) (len_cons (len_cons len_nil))) (da_cons (de_get c.K (de_var 4) de_int) da_nil)) (by decide) (len_cons (len_cons len_nil))) (de_call c (ok_ratio_of T) T.d_ratio_of.g T.d_ratio_of.kp T.d_ratio_of.b (da_cons (de_get c.K (de_var 3) de_int) da_nil) (by decide) (len_cons len_nil))))).dt (dss_one (ds_ret de_bl)) dss_nil)
    (dss_one (ds_ret (de_cmp (op_eqD c.hr.units) (opd_eq c.K) (de_call c (ok_compare T) T.d_compare.g T.d_compare.kp T.d_compare.b (da_cons (de_call c (ok_plus T) T.d_plus.g T.d_plus.kp T.d_plus.b (da_cons (de_get c.K (de_var 2) de_int) (da_cons (de_get c.K (de_var 4) de_int) da_nil)) (by decide) (len_cons (len_cons len_nil))) (da_cons (de_call c (ok_plus T) T.d_plus.g T.d_plus.kp T.d_plus.b (da_cons (de_get c.K (de_var 3) de_int) (da_cons (de_get c.K (de_var 4) de_int) da_nil)) (by decide) (len_cons (len_cons len_nil))) da_nil)) (by decide) (len_cons (len_cons len_nil))) (de_call c (ok_compare T) T.d_compare.g T.d_compare.kp T.d_compare.b (da_cons (de_get c.K (de_var 2) de_int) (da_cons (de_get c.K (de_var 3) de_int) da_nil)) (by decide) (len_cons (len_cons len_nil))))))))))))))))
  h
end
theorem all_mk {l : PySem.W.OpenLaw} {w : World} {K : PySem.W.Frag} {h : Heap} {mg : Str → Option Value} {la : Addr}
    {f0 : Addr} {od0 an0 : Option Addr} {sl0 : Array (Option Value)} {oc0 kV0 dc0 pm0 cd0 ct0 : Value}
    {f1 : Addr} {od1 an1 : Option Addr} {sl1 : Array (Option Value)} {oc1 kV1 dc1 pm1 cd1 ct1 : Value}
    {f2 : Addr} {od2 an2 : Option Addr} {sl2 : Array (Option Value)} {oc2 kV2 dc2 pm2 cd2 ct2 : Value}
    {f3 : Addr} {od3 an3 : Option Addr} {sl3 : Array (Option Value)} {oc3 kV3 dc3 pm3 cd3 ct3 : Value}
    {f4 : Addr} {od4 an4 : Option Addr} {sl4 : Array (Option Value)} {oc4 kV4 dc4 pm4 cd4 ct4 : Value}
    {f5 : Addr} {od5 an5 : Option Addr} {sl5 : Array (Option Value)} {oc5 kV5 dc5 pm5 cd5 ct5 : Value}
    {f6 : Addr} {od6 an6 : Option Addr} {sl6 : Array (Option Value)} {oc6 kV6 dc6 pm6 cd6 ct6 : Value}
    {f7 : Addr} {od7 an7 : Option Addr} {sl7 : Array (Option Value)} {oc7 kV7 dc7 pm7 cd7 ct7 : Value}
    {f8 : Addr} {od8 an8 : Option Addr} {sl8 : Array (Option Value)} {oc8 kV8 dc8 pm8 cd8 ct8 : Value}
    {f9 : Addr} {od9 an9 : Option Addr} {sl9 : Array (Option Value)} {oc9 kV9 dc9 pm9 cd9 ct9 : Value}
    {f10 : Addr} {od10 an10 : Option Addr} {sl10 : Array (Option Value)} {oc10 kV10 dc10 pm10 cd10 ct10 : Value}
    {f11 : Addr} {od11 an11 : Option Addr} {sl11 : Array (Option Value)} {oc11 kV11 dc11 pm11 cd11 ct11 : Value}
    {f12 : Addr} {od12 an12 : Option Addr} {sl12 : Array (Option Value)} {oc12 kV12 dc12 pm12 cd12 ct12 : Value}
    {f13 : Addr} {od13 an13 : Option Addr} {sl13 : Array (Option Value)} {oc13 kV13 dc13 pm13 cd13 ct13 : Value}
    {f14 : Addr} {od14 an14 : Option Addr} {sl14 : Array (Option Value)} {oc14 kV14 dc14 pm14 cd14 ct14 : Value}
    {f15 : Addr} {od15 an15 : Option Addr} {sl15 : Array (Option Value)} {oc15 kV15 dc15 pm15 cd15 ct15 : Value}
    {f16 : Addr} {od16 an16 : Option Addr} {sl16 : Array (Option Value)} {oc16 kV16 dc16 pm16 cd16 ct16 : Value}
    {f17 : Addr} {od17 an17 : Option Addr} {sl17 : Array (Option Value)} {oc17 kV17 dc17 pm17 cd17 ct17 : Value}
    {f18 : Addr} {od18 an18 : Option Addr} {sl18 : Array (Option Value)} {oc18 kV18 dc18 pm18 cd18 ct18 : Value}
    {f19 : Addr} {od19 an19 : Option Addr} {sl19 : Array (Option Value)} {oc19 kV19 dc19 pm19 cd19 ct19 : Value}
    {C0 : Addr}
    {C1 : Addr}
    (X : K.In h) (Gn : h.Ns mainGlobals mg) (hfa : mg "law" = some (.ref la))
    (hH : ∀ (ns : List Int), ns.length ≤ 63 → ∃ cells t, m__law_hand [.rol (ns.map .int)] [] = .ok (handD cells 0 0 t) [] ∧ ∃ st', b_law (some (.rol (ns.map .int)) :: some (.tok 0) :: List.replicate 7 none) [handD cells 0 0 t] = .rt (.bl true) st')
    (a0 : PySem.W.nsIn K mainGlobals "is_whole" = some (some (.ref f0))) (l0 : K.lookup f0 = some ⟨oc0, od0, .func (PySem.W.fnOf "is_whole" "is_whole" (defArgs s_is_whole) (defBody s_is_whole) (defScope s_is_whole) .none kV0 dc0 pm0 an0 cd0 ct0), sl0⟩) (c0 : PySem.W.codeIn K cd0 "is_whole" = true) (k0 : PySem.W.keepIn K (.ref f0) = true)
    (a1 : PySem.W.nsIn K mainGlobals "lowest_terms" = some (some (.ref f1))) (l1 : K.lookup f1 = some ⟨oc1, od1, .func (PySem.W.fnOf "lowest_terms" "lowest_terms" (defArgs s_lowest_terms) (defBody s_lowest_terms) (defScope s_lowest_terms) .none kV1 dc1 pm1 an1 cd1 ct1), sl1⟩) (c1 : PySem.W.codeIn K cd1 "lowest_terms" = true) (k1 : PySem.W.keepIn K (.ref f1) = true)
    (a2 : PySem.W.nsIn K mainGlobals "_law_mix" = some (some (.ref f2))) (l2 : K.lookup f2 = some ⟨oc2, od2, .func (PySem.W.fnOf "_law_mix" "_law_mix" (defArgs s__law_mix) (defBody s__law_mix) (defScope s__law_mix) .none kV2 dc2 pm2 an2 cd2 ct2), sl2⟩) (c2 : PySem.W.codeIn K cd2 "_law_mix" = true) (k2 : PySem.W.keepIn K (.ref f2) = true)
    (a3 : PySem.W.nsIn K mainGlobals "_law_hand" = some (some (.ref f3))) (l3 : K.lookup f3 = some ⟨oc3, od3, .func (PySem.W.fnOf "_law_hand" "_law_hand" (defArgs s__law_hand) (defBody s__law_hand) (defScope s__law_hand) .none kV3 dc3 pm3 an3 cd3 ct3), sl3⟩) (c3 : PySem.W.codeIn K cd3 "_law_hand" = true) (k3 : PySem.W.keepIn K (.ref f3) = true)
    (a4 : PySem.W.nsIn K mainGlobals "_law_low" = some (some (.ref f4))) (l4 : K.lookup f4 = some ⟨oc4, od4, .func (PySem.W.fnOf "_law_low" "_law_low" (defArgs s__law_low) (defBody s__law_low) (defScope s__law_low) .none kV4 dc4 pm4 an4 cd4 ct4), sl4⟩) (c4 : PySem.W.codeIn K cd4 "_law_low" = true) (k4 : PySem.W.keepIn K (.ref f4) = true)
    (a5 : PySem.W.nsIn K mainGlobals "_law_order" = some (some (.ref f5))) (l5 : K.lookup f5 = some ⟨oc5, od5, .func (PySem.W.fnOf "_law_order" "_law_order" (defArgs s__law_order) (defBody s__law_order) (defScope s__law_order) .none kV5 dc5 pm5 an5 cd5 ct5), sl5⟩) (c5 : PySem.W.codeIn K cd5 "_law_order" = true) (k5 : PySem.W.keepIn K (.ref f5) = true)
    (a6 : PySem.W.nsIn K mainGlobals "is_ratio" = some (some (.ref f6))) (l6 : K.lookup f6 = some ⟨oc6, od6, .func (PySem.W.fnOf "is_ratio" "is_ratio" (defArgs s_is_ratio) (defBody s_is_ratio) (defScope s_is_ratio) .none kV6 dc6 pm6 an6 cd6 ct6), sl6⟩) (c6 : PySem.W.codeIn K cd6 "is_ratio" = true) (k6 : PySem.W.keepIn K (.ref f6) = true)
    (a7 : PySem.W.nsIn K mainGlobals "_law_draw" = some (some (.ref f7))) (l7 : K.lookup f7 = some ⟨oc7, od7, .func (PySem.W.fnOf "_law_draw" "_law_draw" (defArgs s__law_draw) (defBody s__law_draw) (defScope s__law_draw) .none kV7 dc7 pm7 an7 cd7 ct7), sl7⟩) (c7 : PySem.W.codeIn K cd7 "_law_draw" = true) (k7 : PySem.W.keepIn K (.ref f7) = true)
    (a8 : PySem.W.nsIn K mainGlobals "_law_is_ratio" = some (some (.ref f8))) (l8 : K.lookup f8 = some ⟨oc8, od8, .func (PySem.W.fnOf "_law_is_ratio" "_law_is_ratio" (defArgs s__law_is_ratio) (defBody s__law_is_ratio) (defScope s__law_is_ratio) .none kV8 dc8 pm8 an8 cd8 ct8), sl8⟩) (c8 : PySem.W.codeIn K cd8 "_law_is_ratio" = true) (k8 : PySem.W.keepIn K (.ref f8) = true)
    (a9 : PySem.W.nsIn K mainGlobals "ratio_of" = some (some (.ref f9))) (l9 : K.lookup f9 = some ⟨oc9, od9, .func (PySem.W.fnOf "ratio_of" "ratio_of" (defArgs s_ratio_of) (defBody s_ratio_of) (defScope s_ratio_of) .none kV9 dc9 pm9 an9 cd9 ct9), sl9⟩) (c9 : PySem.W.codeIn K cd9 "ratio_of" = true) (k9 : PySem.W.keepIn K (.ref f9) = true)
    (a10 : PySem.W.nsIn K mainGlobals "_law_thing" = some (some (.ref f10))) (l10 : K.lookup f10 = some ⟨oc10, od10, .func (PySem.W.fnOf "_law_thing" "_law_thing" (defArgs s__law_thing) (defBody s__law_thing) (defScope s__law_thing) .none kV10 dc10 pm10 an10 cd10 ct10), sl10⟩) (c10 : PySem.W.codeIn K cd10 "_law_thing" = true) (k10 : PySem.W.keepIn K (.ref f10) = true)
    (a11 : PySem.W.nsIn K mainGlobals "_law_same" = some (some (.ref f11))) (l11 : K.lookup f11 = some ⟨oc11, od11, .func (PySem.W.fnOf "_law_same" "_law_same" (defArgs s__law_same) (defBody s__law_same) (defScope s__law_same) .none kV11 dc11 pm11 an11 cd11 ct11), sl11⟩) (c11 : PySem.W.codeIn K cd11 "_law_same" = true) (k11 : PySem.W.keepIn K (.ref f11) = true)
    (a12 : PySem.W.nsIn K mainGlobals "plus" = some (some (.ref f12))) (l12 : K.lookup f12 = some ⟨oc12, od12, .func (PySem.W.fnOf "plus" "plus" (defArgs s_plus) (defBody s_plus) (defScope s_plus) .none kV12 dc12 pm12 an12 cd12 ct12), sl12⟩) (c12 : PySem.W.codeIn K cd12 "plus" = true) (k12 : PySem.W.keepIn K (.ref f12) = true)
    (a13 : PySem.W.nsIn K mainGlobals "minus" = some (some (.ref f13))) (l13 : K.lookup f13 = some ⟨oc13, od13, .func (PySem.W.fnOf "minus" "minus" (defArgs s_minus) (defBody s_minus) (defScope s_minus) .none kV13 dc13 pm13 an13 cd13 ct13), sl13⟩) (c13 : PySem.W.codeIn K cd13 "minus" = true) (k13 : PySem.W.keepIn K (.ref f13) = true)
    (a14 : PySem.W.nsIn K mainGlobals "times" = some (some (.ref f14))) (l14 : K.lookup f14 = some ⟨oc14, od14, .func (PySem.W.fnOf "times" "times" (defArgs s_times) (defBody s_times) (defScope s_times) .none kV14 dc14 pm14 an14 cd14 ct14), sl14⟩) (c14 : PySem.W.codeIn K cd14 "times" = true) (k14 : PySem.W.keepIn K (.ref f14) = true)
    (a15 : PySem.W.nsIn K mainGlobals "over" = some (some (.ref f15))) (l15 : K.lookup f15 = some ⟨oc15, od15, .func (PySem.W.fnOf "over" "over" (defArgs s_over) (defBody s_over) (defScope s_over) .none kV15 dc15 pm15 an15 cd15 ct15), sl15⟩) (c15 : PySem.W.codeIn K cd15 "over" = true) (k15 : PySem.W.keepIn K (.ref f15) = true)
    (a16 : PySem.W.nsIn K mainGlobals "compare" = some (some (.ref f16))) (l16 : K.lookup f16 = some ⟨oc16, od16, .func (PySem.W.fnOf "compare" "compare" (defArgs s_compare) (defBody s_compare) (defScope s_compare) .none kV16 dc16 pm16 an16 cd16 ct16), sl16⟩) (c16 : PySem.W.codeIn K cd16 "compare" = true) (k16 : PySem.W.keepIn K (.ref f16) = true)
    (a17 : PySem.W.nsIn K mainGlobals "_law_over" = some (some (.ref f17))) (l17 : K.lookup f17 = some ⟨oc17, od17, .func (PySem.W.fnOf "_law_over" "_law_over" (defArgs s__law_over) (defBody s__law_over) (defScope s__law_over) .none kV17 dc17 pm17 an17 cd17 ct17), sl17⟩) (c17 : PySem.W.codeIn K cd17 "_law_over" = true) (k17 : PySem.W.keepIn K (.ref f17) = true)
    (a18 : PySem.W.nsIn K mainGlobals "_law_two" = some (some (.ref f18))) (l18 : K.lookup f18 = some ⟨oc18, od18, .func (PySem.W.fnOf "_law_two" "_law_two" (defArgs s__law_two) (defBody s__law_two) (defScope s__law_two) .none kV18 dc18 pm18 an18 cd18 ct18), sl18⟩) (c18 : PySem.W.codeIn K cd18 "_law_two" = true) (k18 : PySem.W.keepIn K (.ref f18) = true)
    (a19 : PySem.W.nsIn K mainGlobals "law" = some (some (.ref f19))) (l19 : K.lookup f19 = some ⟨oc19, od19, .func (PySem.W.fnOf "law" "law" (defArgs s_law) (defBody s_law) (defScope s_law) .none kV19 dc19 pm19 an19 cd19 ct19), sl19⟩) (c19 : PySem.W.codeIn K cd19 "law" = true) (k19 : PySem.W.keepIn K (.ref f19) = true)
    (z_ValueError : PySem.W.nsIn K mainGlobals "ValueError" = some none)
    (z_abs : PySem.W.nsIn K mainGlobals "abs" = some none)
    (z_bool : PySem.W.nsIn K mainGlobals "bool" = some none)
    (z_enumerate : PySem.W.nsIn K mainGlobals "enumerate" = some none)
    (z_int : PySem.W.nsIn K mainGlobals "int" = some none)
    (z_isinstance : PySem.W.nsIn K mainGlobals "isinstance" = some none)
    (z_len : PySem.W.nsIn K mainGlobals "len" = some none)
    (z_tuple : PySem.W.nsIn K mainGlobals "tuple" = some none)
    (i_gcd : PySem.W.nsIn K mainGlobals "gcd" = some (some (.builtin "math.gcd")))
    (ca0 : PySem.W.nsIn K mainGlobals "GapError" = some (some (.ref C0)))
    (ca1 : PySem.W.nsIn K mainGlobals "BadRatio" = some (some (.ref C1)))
    (cs0 : PySem.W.subIn K (.ref C0) (.type "BaseException") = some true) (ct0_ : PySem.W.typeIn K (.ref C0) = some (.type "type")) (ck0 : PySem.W.keepIn K (.ref C0) = true) (cd0_ : PySem.W.hasDictIn K C0 = true)
    (cs1 : PySem.W.subIn K (.ref C1) (.type "BaseException") = some true) (ct1_ : PySem.W.typeIn K (.ref C1) = some (.type "type")) (ck1 : PySem.W.keepIn K (.ref C1) = true) (cd1_ : PySem.W.hasDictIn K C1 = true)
    (cx0 : PySem.W.excIn K C0 [.type "ValueError", .type "Exception", .type "BaseException", .type "object"] "ValueError.__new__" = true)
    (cx1 : PySem.W.excIn K C1 [.type "ValueError", .type "Exception", .type "BaseException", .type "object"] "ValueError.__new__" = true)
    (s0_1 : PySem.W.subIn K (.ref C0) (.ref C1) = some false)
    (s1_1 : PySem.W.subIn K (.ref C1) (.ref C1) = some true)
    (xc1 : DL.excB K C1 = true)
    (xk1_0 : PySem.W.kitOne K (.ref C1) (.ref C0) = some true)
    (xk1_V : PySem.W.kitOne K (.ref C1) (.type "ValueError") = some true) :
    ∃ fd : FuncData, (∀ (s : Shared) (v : Value), BindsTo s fd ⟨[v], []⟩ [("_law_script", v)]) ∧ ∀ base : Heap, K.In base → base.Ns mainGlobals mg → FnOk l.prog w K mg base (L2.CX l.prog w) 7 la fd ["_law_script"] (spLaw K) := by
  have e := hfa.symm.trans (PySem.W.mg_of X Gn a19)
  have ela : la = f19 := by injection (Option.some.inj e)
  obtain ⟨G, hG⟩ : ∃ G : Glb, G = ⟨K, fun n => match n with | 0 => C0 | 1 => C1 | _ => 0⟩ := ⟨_, rfl⟩
  obtain ⟨fa, hfa'⟩ : ∃ fa : Nat → Addr, fa = fun n => match n with | 0 => f0 | 1 => f1 | 2 => f2 | 3 => f3 | 4 => f4 | 5 => f5 | 6 => f6 | 7 => f7 | 8 => f8 | 9 => f9 | 10 => f10 | 11 => f11 | 12 => f12 | 13 => f13 | 14 => f14 | 15 => f15 | 16 => f16 | 17 => f17 | 18 => f18 | 19 => f19 | _ => 0 := ⟨_, rfl⟩
  obtain ⟨fd, hfd⟩ : ∃ fd : Nat → FuncData, fd = fun n => match n with | 0 => PySem.W.fnOf "is_whole" "is_whole" (defArgs s_is_whole) (defBody s_is_whole) (defScope s_is_whole) .none kV0 dc0 pm0 an0 cd0 ct0 | 1 => PySem.W.fnOf "lowest_terms" "lowest_terms" (defArgs s_lowest_terms) (defBody s_lowest_terms) (defScope s_lowest_terms) .none kV1 dc1 pm1 an1 cd1 ct1 | 2 => PySem.W.fnOf "_law_mix" "_law_mix" (defArgs s__law_mix) (defBody s__law_mix) (defScope s__law_mix) .none kV2 dc2 pm2 an2 cd2 ct2 | 3 => PySem.W.fnOf "_law_hand" "_law_hand" (defArgs s__law_hand) (defBody s__law_hand) (defScope s__law_hand) .none kV3 dc3 pm3 an3 cd3 ct3 | 4 => PySem.W.fnOf "_law_low" "_law_low" (defArgs s__law_low) (defBody s__law_low) (defScope s__law_low) .none kV4 dc4 pm4 an4 cd4 ct4 | 5 => PySem.W.fnOf "_law_order" "_law_order" (defArgs s__law_order) (defBody s__law_order) (defScope s__law_order) .none kV5 dc5 pm5 an5 cd5 ct5 | 6 => PySem.W.fnOf "is_ratio" "is_ratio" (defArgs s_is_ratio) (defBody s_is_ratio) (defScope s_is_ratio) .none kV6 dc6 pm6 an6 cd6 ct6 | 7 => PySem.W.fnOf "_law_draw" "_law_draw" (defArgs s__law_draw) (defBody s__law_draw) (defScope s__law_draw) .none kV7 dc7 pm7 an7 cd7 ct7 | 8 => PySem.W.fnOf "_law_is_ratio" "_law_is_ratio" (defArgs s__law_is_ratio) (defBody s__law_is_ratio) (defScope s__law_is_ratio) .none kV8 dc8 pm8 an8 cd8 ct8 | 9 => PySem.W.fnOf "ratio_of" "ratio_of" (defArgs s_ratio_of) (defBody s_ratio_of) (defScope s_ratio_of) .none kV9 dc9 pm9 an9 cd9 ct9 | 10 => PySem.W.fnOf "_law_thing" "_law_thing" (defArgs s__law_thing) (defBody s__law_thing) (defScope s__law_thing) .none kV10 dc10 pm10 an10 cd10 ct10 | 11 => PySem.W.fnOf "_law_same" "_law_same" (defArgs s__law_same) (defBody s__law_same) (defScope s__law_same) .none kV11 dc11 pm11 an11 cd11 ct11 | 12 => PySem.W.fnOf "plus" "plus" (defArgs s_plus) (defBody s_plus) (defScope s_plus) .none kV12 dc12 pm12 an12 cd12 ct12 | 13 => PySem.W.fnOf "minus" "minus" (defArgs s_minus) (defBody s_minus) (defScope s_minus) .none kV13 dc13 pm13 an13 cd13 ct13 | 14 => PySem.W.fnOf "times" "times" (defArgs s_times) (defBody s_times) (defScope s_times) .none kV14 dc14 pm14 an14 cd14 ct14 | 15 => PySem.W.fnOf "over" "over" (defArgs s_over) (defBody s_over) (defScope s_over) .none kV15 dc15 pm15 an15 cd15 ct15 | 16 => PySem.W.fnOf "compare" "compare" (defArgs s_compare) (defBody s_compare) (defScope s_compare) .none kV16 dc16 pm16 an16 cd16 ct16 | 17 => PySem.W.fnOf "_law_over" "_law_over" (defArgs s__law_over) (defBody s__law_over) (defScope s__law_over) .none kV17 dc17 pm17 an17 cd17 ct17 | 18 => PySem.W.fnOf "_law_two" "_law_two" (defArgs s__law_two) (defBody s__law_two) (defScope s__law_two) .none kV18 dc18 pm18 an18 cd18 ct18 | 19 => PySem.W.fnOf "law" "law" (defArgs s_law) (defBody s_law) (defScope s_law) .none kV19 dc19 pm19 an19 cd19 ct19 | _ => PySem.W.fnOf "is_whole" "is_whole" (defArgs s_is_whole) (defBody s_is_whole) (defScope s_is_whole) .none kV0 dc0 pm0 an0 cd0 ct0 := ⟨_, rfl⟩
  have T : Txt G mg fa fd := by
    subst hG hfa' hfd
    exact
      { d_is_whole := DefOk.mk' (fun_mk (st := s_is_whole) l0 c0 k0) (PySem.W.mg_of X Gn a0) (Fun.binds (fun_mk (st := s_is_whole) l0 c0 k0) fun _ _ _ _ _ _ us hl => match us, hl with | [_], _ => rfl),
        d_lowest_terms := DefOk.mk' (fun_mk (st := s_lowest_terms) l1 c1 k1) (PySem.W.mg_of X Gn a1) (Fun.binds (fun_mk (st := s_lowest_terms) l1 c1 k1) fun _ _ _ _ _ _ us hl => match us, hl with | [_, _], _ => rfl),
        d__law_mix := DefOk.mk' (fun_mk (st := s__law_mix) l2 c2 k2) (PySem.W.mg_of X Gn a2) (Fun.binds (fun_mk (st := s__law_mix) l2 c2 k2) fun _ _ _ _ _ _ us hl => match us, hl with | [_, _], _ => rfl),
        d__law_hand := DefOk.mk' (fun_mk (st := s__law_hand) l3 c3 k3) (PySem.W.mg_of X Gn a3) (Fun.binds (fun_mk (st := s__law_hand) l3 c3 k3) fun _ _ _ _ _ _ us hl => match us, hl with | [_], _ => rfl),
        d__law_low := DefOk.mk' (fun_mk (st := s__law_low) l4 c4 k4) (PySem.W.mg_of X Gn a4) (Fun.binds (fun_mk (st := s__law_low) l4 c4 k4) fun _ _ _ _ _ _ us hl => match us, hl with | [_, _], _ => rfl),
        d__law_order := DefOk.mk' (fun_mk (st := s__law_order) l5 c5 k5) (PySem.W.mg_of X Gn a5) (Fun.binds (fun_mk (st := s__law_order) l5 c5 k5) fun _ _ _ _ _ _ us hl => match us, hl with | [_, _], _ => rfl),
        d_is_ratio := DefOk.mk' (fun_mk (st := s_is_ratio) l6 c6 k6) (PySem.W.mg_of X Gn a6) (Fun.binds (fun_mk (st := s_is_ratio) l6 c6 k6) fun _ _ _ _ _ _ us hl => match us, hl with | [_], _ => rfl),
        d__law_draw := DefOk.mk' (fun_mk (st := s__law_draw) l7 c7 k7) (PySem.W.mg_of X Gn a7) (Fun.binds (fun_mk (st := s__law_draw) l7 c7 k7) fun _ _ _ _ _ _ us hl => match us, hl with | [_, _], _ => rfl),
        d__law_is_ratio := DefOk.mk' (fun_mk (st := s__law_is_ratio) l8 c8 k8) (PySem.W.mg_of X Gn a8) (Fun.binds (fun_mk (st := s__law_is_ratio) l8 c8 k8) fun _ _ _ _ _ _ us hl => match us, hl with | [_], _ => rfl),
        d_ratio_of := DefOk.mk' (fun_mk (st := s_ratio_of) l9 c9 k9) (PySem.W.mg_of X Gn a9) (Fun.binds (fun_mk (st := s_ratio_of) l9 c9 k9) fun _ _ _ _ _ _ us hl => match us, hl with | [_], _ => rfl),
        d__law_thing := DefOk.mk' (fun_mk (st := s__law_thing) l10 c10 k10) (PySem.W.mg_of X Gn a10) (Fun.binds (fun_mk (st := s__law_thing) l10 c10 k10) fun _ _ _ _ _ _ us hl => match us, hl with | [_], _ => rfl),
        d__law_same := DefOk.mk' (fun_mk (st := s__law_same) l11 c11 k11) (PySem.W.mg_of X Gn a11) (Fun.binds (fun_mk (st := s__law_same) l11 c11 k11) fun _ _ _ _ _ _ us hl => match us, hl with | [_, _, _], _ => rfl),
        d_plus := DefOk.mk' (fun_mk (st := s_plus) l12 c12 k12) (PySem.W.mg_of X Gn a12) (Fun.binds (fun_mk (st := s_plus) l12 c12 k12) fun _ _ _ _ _ _ us hl => match us, hl with | [_, _], _ => rfl),
        d_minus := DefOk.mk' (fun_mk (st := s_minus) l13 c13 k13) (PySem.W.mg_of X Gn a13) (Fun.binds (fun_mk (st := s_minus) l13 c13 k13) fun _ _ _ _ _ _ us hl => match us, hl with | [_, _], _ => rfl),
        d_times := DefOk.mk' (fun_mk (st := s_times) l14 c14 k14) (PySem.W.mg_of X Gn a14) (Fun.binds (fun_mk (st := s_times) l14 c14 k14) fun _ _ _ _ _ _ us hl => match us, hl with | [_, _], _ => rfl),
        d_over := DefOk.mk' (fun_mk (st := s_over) l15 c15 k15) (PySem.W.mg_of X Gn a15) (Fun.binds (fun_mk (st := s_over) l15 c15 k15) fun _ _ _ _ _ _ us hl => match us, hl with | [_, _], _ => rfl),
        d_compare := DefOk.mk' (fun_mk (st := s_compare) l16 c16 k16) (PySem.W.mg_of X Gn a16) (Fun.binds (fun_mk (st := s_compare) l16 c16 k16) fun _ _ _ _ _ _ us hl => match us, hl with | [_, _], _ => rfl),
        d__law_over := DefOk.mk' (fun_mk (st := s__law_over) l17 c17 k17) (PySem.W.mg_of X Gn a17) (Fun.binds (fun_mk (st := s__law_over) l17 c17 k17) fun _ _ _ _ _ _ us hl => match us, hl with | [_, _], _ => rfl),
        d__law_two := DefOk.mk' (fun_mk (st := s__law_two) l18 c18 k18) (PySem.W.mg_of X Gn a18) (Fun.binds (fun_mk (st := s__law_two) l18 c18 k18) fun _ _ _ _ _ _ us hl => match us, hl with | [_, _], _ => rfl),
        d_law := DefOk.mk' (fun_mk (st := s_law) l19 c19 k19) (PySem.W.mg_of X Gn a19) (Fun.binds (fun_mk (st := s_law) l19 c19 k19) fun _ _ _ _ _ _ us hl => match us, hl with | [_], _ => rfl),
        n_ValueError := PySem.W.mg_none_of X Gn z_ValueError,
        n_abs := PySem.W.mg_none_of X Gn z_abs,
        n_bool := PySem.W.mg_none_of X Gn z_bool,
        n_enumerate := PySem.W.mg_none_of X Gn z_enumerate,
        n_int := PySem.W.mg_none_of X Gn z_int,
        n_isinstance := PySem.W.mg_none_of X Gn z_isinstance,
        n_len := PySem.W.mg_none_of X Gn z_len,
        n_tuple := PySem.W.mg_none_of X Gn z_tuple,
        m_gcd := PySem.W.mg_of X Gn i_gcd,
        e_GapError := ⟨PySem.W.mg_of X Gn ca0, cx0, ck0, cs0, ct0_⟩,
        e_BadRatio := ⟨PySem.W.mg_of X Gn ca1, cx1, ck1, cs1, ct1_⟩,
        clX_BadRatio := fun c b hb => (by
            unfold clX_BadRatio at hb
            split at hb
            · cases hb; exact PySem.W.exm_ref cs1 cd1_ ct1_ s0_1
            · cases hb; exact PySem.W.exm_ref cs1 cd1_ ct1_ s1_1
            · cases hb),
        tabX := fun c d b hb => (by
            unfold tabX at hb
            split at hb
            · cases hb; exact ⟨DL.excB_ok xc1, _, rfl, xk1_0⟩
            · split at hb
              · rename_i e; subst e; cases hb; exact ⟨DL.excB_ok xc1, _, rfl, xk1_V⟩
              · cases hb
            · cases hb) }
  have eK : G.K = K := congrArg Glb.K hG
  have ea : fa 19 = f19 := congrFun hfa' 19
  refine ⟨fd 19, fun s v => ?_, fun base _ _ => ?_⟩
  · rw [hfd]; exact .of_eq rfl
  · have r := ok_law (P := l.prog) (w := w) (base := base) T hH
    rw [eK, ea, ← ela] at r
    exact r
end My

namespace My
open PySem PySem.Spec PyProof.Rows L2 DL
theorem e_mix (a b : Int) (st : List D) : ∃ r : Int, 0 ≤ r ∧ m__law_mix [.int a, .int b] st = .ok (.int r) st := by
  obtain ⟨s0, hs⟩ : ∃ s, s = (a * 48271 + b * 16807 + 11).fmod 2147483647 := ⟨_, rfl⟩
  obtain ⟨t0, ht⟩ : ∃ s, s = (s0 * s0 + s0.fdiv 127 * 40692 + b * 69621).fmod 2147483399 := ⟨_, rfl⟩
  have h1 := fmod_small (i := a * 48271 + b * 16807 + 11) (j := 2147483647) (by decide)
  have h2 := fmod_small (i := s0 * s0 + s0.fdiv 127 * 40692 + b * 69621) (j := 2147483399) (by decide)
  rw [← hs] at h1
  rw [← ht] at h2
  have m1 : DL.MulOk a 48271 := mulOk_r (by decide)
  have m2 : DL.MulOk b 16807 := mulOk_r (by decide)
  have m3 : DL.MulOk s0 s0 := mulOk_l (by omega)
  have m4 : DL.MulOk (s0.fdiv 127) 40692 := mulOk_r (by decide)
  have m5 : DL.MulOk b 69621 := mulOk_r (by decide)
  have m6 : DL.MulOk t0 t0 := mulOk_l (by omega)
  have d1 : DivOk s0 127 := by unfold DivOk; decide
  have d2 : DivOk (t0 * t0) 1009 := by unfold DivOk; decide
  have d3 : ∀ i, DivOk i 16 := fun i => by unfold DivOk; decide
  refine ⟨((t0 * t0).fdiv 1009 + s0).fmod 2147483563 |>.fdiv 16, ?_, ?_⟩
  · have h3 := fmod_small (i := (t0 * t0).fdiv 1009 + s0) (j := 2147483563) (by decide)
    exact Int.fdiv_nonneg h3.1 (by decide)
  · unfold m__law_mix b__law_mix
    simp [ev1, ev2, ev3, ev4, bind_ok, mkEnv, get?, ret_ok, m1, m2, m3, m4, m5, m6, d1, d2, d3, ← hs, ← ht]
theorem e_draw (n : Int) (hn : 0 < n) (hn2 : n.natAbs.log2 < 9000) (st : List D) (hs : HandOk st) : ∃ (r : Int) (st' : List D), 0 ≤ r ∧ r < n ∧ HandOk st' ∧ m__law_draw [.tok 0, .int n] st = .ok (.int r) st' := by
  obtain ⟨cells, at_, rest, total, rfl, ha, hr, hc⟩ := hs.ex
  have hn0 : n ≠ 0 := by omega
  have dn : ∀ i, DivOk i n := fun i => ⟨hn0, hn2⟩
  have hpow : dPow (.int 10) (.int 18) = some (.int 1000000000000000000) := by rfl
  have red : ∀ i : Int, 0 ≤ i.fmod n ∧ i.fmod n < n := fun i => fmod_small hn
  have hmod : ∀ i : Int, dMod (.int i) (.int n) = some (.int (i.fmod n)) := fun i => dMod_pos i n hn0
  obtain ⟨k0, hk0⟩ : ∃ k : Nat, at_ = k := ⟨at_.toNat, by omega⟩
  subst hk0
  unfold m__law_draw b__law_draw
  have mk : ∀ (at' rest' total' : Int), 0 ≤ at' → 0 ≤ rest' → HandOk [handD cells at' rest' total'] := fun a b c h1 h2 => ⟨cells, a, b, c, rfl, h1, h2, hc⟩
  have tail : ∀ (a b t : Int), 0 ≤ a → ∃ r', 0 ≤ r' ∧ m__law_mix [.int t, .int a] [handD cells a b t] = .ok (.int r') [handD cells a b t] := fun a b t _ => e_mix t a _
  have hm8 : ∀ i : Int, dMod (.int i) (.int 2147483629) = some (.int (i.fmod 2147483629)) := fun i => dMod_pos i _ (by decide)
  by_cases h0 : rest = 0
  · subst h0
    by_cases h1 : k0 < cells.length
    · have hcp : 0 ≤ cells[k0] := hc _ (List.getElem_mem h1)
      by_cases h2 : cells[k0] < 1000000000000000000
      · obtain ⟨q, hq, eq⟩ := e_mix (cells[k0].fmod 2147483647) (k0 + 1) [handD cells (k0 + 1) 0 total]
        refine ⟨q.fmod n, _, (red q).1, (red q).2, mk (k0 + 1) 0 total (by omega) (by omega), ?_⟩
        simp [ev1, ev2, ev3, ev4, bind_ok, mkEnv, get?, ret_ok, hix0, hix1, hix2, hix3, mPut_eq, put1, put2, put3, hpow, hmod, dMod_pos, dn, h1, h2, hcell cells k0 h1, eq]
      · have h3 : ¬ cells[k0] = 0 := by omega
        have h4 : 0 < cells[k0] := by omega
        refine ⟨cells[k0].fmod n, _, (red _).1, (red _).2, mk (k0 + 1) (cells[k0].fdiv n) total (by omega) (Int.fdiv_nonneg hcp (by omega)), ?_⟩
        simp [ev1, ev2, ev3, ev4, bind_ok, mkEnv, get?, ret_ok, hix0, hix1, hix2, hix3, mPut_eq, put1, put2, put3, hpow, hmod, dMod_pos, dn, h1, h2, h3, h4, hcell cells k0 h1]
    · obtain ⟨q, hq, eq⟩ := e_mix ((total + 1).fmod 2147483629) k0 [handD cells k0 0 ((total + 1).fmod 2147483629)]
      refine ⟨q.fmod n, _, (red q).1, (red q).2, mk k0 0 ((total + 1).fmod 2147483629) (by omega) (by omega), ?_⟩
      simp [ev1, ev2, ev3, ev4, bind_ok, mkEnv, get?, ret_ok, hix0, hix1, hix2, hix3, mPut_eq, put1, put2, put3, hpow, hmod, dMod_pos, dn, h1, hm8, eq]
  · have h4 : 0 < rest := by omega
    refine ⟨rest.fmod n, _, (red _).1, (red _).2, mk k0 (rest.fdiv n) total (by omega) (Int.fdiv_nonneg hr (by omega)), ?_⟩
    simp [ev1, ev2, ev3, ev4, bind_ok, mkEnv, get?, ret_ok, hix0, hix1, hix2, hix3, mPut_eq, put1, put2, put3, hpow, hmod, dMod_pos, dn, h0, h4]
end My

namespace My
open PySem PySem.Spec PyProof.Rows L2 DL
theorem e_hand (ns : List Int) (hl : ns.length ≤ 63) : ∃ (cells : List Int) (t : Int), (∀ c ∈ cells, 0 ≤ c) ∧ m__law_hand [.rol (ns.map .int)] [] = .ok (handD cells 0 0 t) [] := by
  obtain ⟨env', st', hf, t, x, y, rfl, rfl⟩ := forD_inv (g := gTp (gsCons (gNm 2) (gsCons (gNm 3) (gsNil)))) (body := mSet 1 (mOp dMod (mCall1 (c1 dInt1) (mCons (mOp dAdd (mOp dMul (mVar 1) (mC (.int 31))) (mOp dMul (mCall1 (c1 dInt1) (mCons (mVar 3) (mNil))) (mOp dAdd (mVar 2) (mC (.int 7))))) (mNil))) (mC (.int 2147483629))))
    (fun env st => ∃ (t : Int) (x y : Option D), env = [some (.rol (ns.map .int)), some (.int t), x, y] ∧ st = []) (fun d => ∃ (i : Nat) (v : Int), i < 63 ∧ d = .tup [.int (i : Int), .int v])
    (by
      rintro d env st ⟨i, v, hi, rfl⟩ ⟨t, x, y, rfl, rfl⟩
      refine ⟨_, [some (.rol (ns.map .int)), some (.int ((t * 31 + v * (i + 7)).fmod 2147483629)), some (.int i), some (.int v)], [], rfl, ?_, _, _, _, rfl, rfl⟩
      have m1 : DL.MulOk t 31 := mulOk_r (by decide)
      have m2 : DL.MulOk v (i + 7) := mulOk_r (by omega)
      simp [ev1, ev2, ev3, ev4, bind_ok, mkEnv, get?, ret_ok, dMod_pos, m1, m2]) (numbered (ns.map .int)) [some (.rol (ns.map .int)), some (.int 0), none, none] []
    (by
      intro d hd
      obtain ⟨i, x, h1, h2, rfl⟩ := numbered_mem hd
      obtain ⟨v, _, rfl⟩ := List.mem_map.mp h2
      exact ⟨i, v, by rw [List.length_map] at h1; omega, rfl⟩) ⟨0, _, _, rfl, rfl⟩
  refine ⟨ns.map fun n => if n < 0 then -n else n, t, ?_, ?_⟩
  · intro c hc
    rw [List.mem_map] at hc
    obtain ⟨n, _, rfl⟩ := hc
    split <;> omega
  · have hc := lcD_map (env := [some (.rol (ns.map .int)), some (.int t), x, none]) (g := gNm 3) (mt := mYes) (me := mCall1 (c1 dAbs) (mCons (mCall1 (c1 dInt1) (mCons (mVar 3) (mNil))) (mNil))) (st := []) (fun d => match d with | .int n => .int (if n < 0 then -n else n) | d => d) (ns.map .int) (by
      intro d hd
      obtain ⟨v, _, rfl⟩ := List.mem_map.mp hd
      refine ⟨_, rfl, rfl, ?_⟩
      simp [ev1, ev2, ev3, ev4, bind_ok, mkEnv, get?, ret_ok])
    have hz : ns.length ≤ sizeLine := Nat.le_trans hl (by decide)
    unfold m__law_hand b__law_hand
    simp [ev1, ev2, ev3, ev4, bind_ok, mkEnv, get?, ret_ok, mFor_eq, enum?, hf, handD, mItems, DL.items?, wipeE]
    rw [hc]
    simp [ev1, ev2, ev3, ev4, bind_ok, mkEnv, get?, ret_ok, lstOk, hz]
    rw [if_pos (by decide)]
    rfl
end My

namespace My
open PySem PySem.Spec PyProof.Rows L2 DL
/-- a told ratio -/
def rD (q : Rat) : D := .tup [.int q.num, .int (q.den : Int)]
/-- its sizes -/
def Sm (n : Nat) (q : Rat) : Prop := q.num.natAbs < 2 ^ n ∧ q.den < 2 ^ n
theorem fdiv_ediv {a b : Int} (hb : 0 ≤ b) : a.fdiv b = a / b := Int.fdiv_eq_ediv_of_nonneg a hb
theorem e_is_whole_int (i : Int) (st : List D) : m_is_whole [.int i] st = .ok (.bl true) st := by
  unfold m_is_whole b_is_whole
  simp [ev1, ev2, ev3, ev4, ev5, bind_ok, mkEnv, get?, ret_ok, dIsi, isiD, tyN, subTy]
theorem divs (t b : Int) (hb : b ≠ 0) : (Rat.divInt t b).num = (if b < 0 then (t.fdiv (-(Int.gcd t b : Int))) else t.fdiv (Int.gcd t b)) ∧ ((Rat.divInt t b).den : Int) = (if b < 0 then (b.fdiv (-(Int.gcd t b : Int))) else b.fdiv (Int.gcd t b)) := by
  have hg : (Int.gcd t b : Int) ∣ t := Int.gcd_dvd_left ..
  have hg2 : (Int.gcd t b : Int) ∣ b := Int.gcd_dvd_right ..
  have hg0 : (Int.gcd t b : Int) ≠ 0 := by
    intro h
    have : Int.gcd t b = 0 := by omega
    rw [Int.gcd_eq_zero_iff] at this
    exact hb this.2
  rw [Rat.num_divInt, Rat.den_divInt, Int.gcd_comm b t, if_neg hb]
  obtain ⟨u, hu⟩ := hg
  obtain ⟨v, hv⟩ := hg2
  have hgn : (0 : Int) ≤ (Int.gcd t b : Int) := by omega
  have hcast : ((b.natAbs / Int.gcd t b : Nat) : Int) = (b.natAbs : Int) / (Int.gcd t b : Int) := Int.natCast_ediv _ _
  rw [hcast]
  generalize (Int.gcd t b : Int) = g at *
  have f1 : (-g) ∣ t := ⟨-u, by rw [hu]; grind⟩
  have f2 : (-g) ∣ b := ⟨-v, by rw [hv]; grind⟩
  by_cases hn : b < 0
  · rw [if_pos hn, if_pos hn, Int.fdiv_eq_ediv_of_dvd f1, Int.fdiv_eq_ediv_of_dvd f2, Int.sign_eq_neg_one_of_neg hn]
    have : (b.natAbs : Int) = -b := by omega
    rw [this, Int.ediv_neg, Int.ediv_neg]
    refine ⟨?_, ?_⟩
    · rw [hu, show -1 * (g * u) = g * (-u) by grind, Int.mul_ediv_cancel_left _ hg0, Int.mul_ediv_cancel_left _ hg0]
    · rw [hv, show -(g * v) = g * (-v) by grind, Int.mul_ediv_cancel_left _ hg0, Int.mul_ediv_cancel_left _ hg0]
  · rw [if_neg hn, if_neg hn, Int.fdiv_eq_ediv_of_nonneg _ hgn, Int.fdiv_eq_ediv_of_nonneg _ hgn, Int.sign_eq_one_of_pos (by omega)]
    have : (b.natAbs : Int) = b := by omega
    rw [this, Int.one_mul]
    exact ⟨rfl, rfl⟩
theorem e_lowest (t b : Int) (hb : b ≠ 0) (hb2 : b.natAbs < 2 ^ 8000) (st : List D) : m_lowest_terms [.int t, .int b] st = .ok (rD (Rat.divInt t b)) st := by
  have hgl : Nat.gcd t.natAbs b.natAbs ≤ b.natAbs := Nat.gcd_le_right _ (by omega)
  have hgp : 0 < Nat.gcd t.natAbs b.natAbs := Nat.gcd_pos_of_pos_right _ (by omega)
  have hlog : (Nat.gcd t.natAbs b.natAbs).log2 < 9000 := by
    have := (Nat.log2_lt (n := Nat.gcd t.natAbs b.natAbs) (k := 8000) (by omega)).mpr (by omega)
    omega
  have d1 : ∀ i, DivOk i ((Nat.gcd t.natAbs b.natAbs : Nat) : Int) := fun i => ⟨by omega, by simpa using hlog⟩
  have d2 : ∀ i, DivOk i (-((Nat.gcd t.natAbs b.natAbs : Nat) : Int)) := fun i => ⟨by omega, by simpa using hlog⟩
  obtain ⟨h1, h2⟩ := divs t b hb
  unfold m_lowest_terms b_lowest_terms
  by_cases hn : b < 0
  · simp [ev1, ev2, ev3, ev4, ev5, bind_ok, mkEnv, get?, ret_ok, hn, d1, d2]
    simp only [rD, h1, h2, if_pos hn]
    rfl
  · simp [ev1, ev2, ev3, ev4, ev5, bind_ok, mkEnv, get?, ret_ok, hn, d1, d2]
    simp only [rD, h1, h2, if_neg hn]
    rfl
/-- x tells the ratio q, within n bits -/
inductive Tells (n : Nat) : D → Rat → Prop
  | one (i : Int) (hn : 1 ≤ n) (h : i.natAbs < 2 ^ n) : Tells n (.int i) (i : Rat)
  | two (t b : Int) (hb : 0 < b) (h1 : t.natAbs < 2 ^ n) (h2 : b.natAbs < 2 ^ n) : Tells n (.tup [.int t, .int b]) (Rat.divInt t b)
theorem Tells.rat {n : Nat} {q : Rat} (h : Sm n q) : Tells n (rD q) q := by
  have := Tells.two (n := n) q.num (q.den : Int) (by have := q.den_pos; omega) h.1 (by simpa using h.2)
  rw [Rat.num_divInt_den] at this
  exact this
theorem sm_divInt {n : Nat} {t b : Int} (hb : b ≠ 0) (h1 : t.natAbs < 2 ^ n) (h2 : b.natAbs < 2 ^ n) : Sm n (Rat.divInt t b) := by
  constructor
  · rw [Rat.num_divInt]
    refine Nat.lt_of_le_of_lt (Int.natAbs_ediv_le_natAbs _ _) ?_
    rw [Int.natAbs_mul, Int.natAbs_sign_of_ne_zero hb]
    omega
  · rw [Rat.den_divInt, if_neg hb]
    exact Nat.lt_of_le_of_lt (Nat.div_le_self _ _) h2
theorem Tells.sm {n : Nat} {x : D} {q : Rat} (h : Tells n x q) : Sm n q := by
  cases h with
  | one i hn h => exact ⟨h, by show 1 < 2 ^ n; have := Nat.pow_le_pow_right (n := 2) (by omega) hn; omega⟩
  | two t b hb h1 h2 => exact sm_divInt (by omega) h1 h2
theorem e_is_ratio {n : Nat} {x : D} {q : Rat} (h : Tells n x q) (st : List D) : m_is_ratio [x] st = .ok (.bl true) st := by
  cases h with
  | one i _ h =>
    unfold m_is_ratio b_is_ratio
    simp [ev1, ev2, ev3, ev4, ev5, bind_ok, mkEnv, get?, ret_ok, dIsi, isiD, tyN, subTy, e_is_whole_int]
  | two t b hb h1 h2 =>
    unfold m_is_ratio b_is_ratio
    simp [ev1, ev2, ev3, ev4, ev5, bind_ok, mkEnv, get?, ret_ok, dIsi, isiD, tyN, subTy, e_is_whole_int, hb]
theorem e_ratio_of {n : Nat} {x : D} {q : Rat} (h : Tells n x q) (hn : n ≤ 8000) (st : List D) : m_ratio_of [x] st = .ok (rD q) st := by
  have hr := e_is_ratio h st
  cases h with
  | one i _ h =>
    unfold m_ratio_of b_ratio_of
    simp [ev1, ev2, ev3, ev4, ev5, bind_ok, mkEnv, get?, ret_ok, dIsi, isiD, tyN, subTy, hr, rD]
  | two t b hb h1 h2 =>
    have := Nat.pow_le_pow_right (n := 2) (by omega) hn
    have hl := e_lowest t b (by omega) (by omega) st
    unfold m_ratio_of b_ratio_of
    simp [ev1, ev2, ev3, ev4, ev5, bind_ok, mkEnv, get?, ret_ok, dIsi, isiD, tyN, subTy, hr, hl]
theorem log_le {a n : Nat} (h : a < 2 ^ n) : a.log2 ≤ n := by
  by_cases h0 : a = 0
  · subst h0; simp
  · exact Nat.le_of_lt ((Nat.log2_lt h0).mpr h)
theorem mulOk_sm {i j : Int} {n m : Nat} (h1 : i.natAbs < 2 ^ n) (h2 : j.natAbs < 2 ^ m) (h : n + m ≤ 8000) : DL.MulOk i j := by
  have := log_le h1
  have := log_le h2
  exact .inr (.inr (by omega))
theorem mul_sm {i j : Int} {n m : Nat} (h1 : i.natAbs < 2 ^ n) (h2 : j.natAbs < 2 ^ m) : (i * j).natAbs < 2 ^ (n + m) := by
  rw [Int.natAbs_mul, Nat.pow_add]
  exact Nat.mul_lt_mul'' h1 h2
theorem add_sm {i j : Int} {n : Nat} (h1 : i.natAbs < 2 ^ n) (h2 : j.natAbs < 2 ^ n) : (i + j).natAbs < 2 ^ (n + 1) := by
  rw [Nat.pow_succ]; omega
theorem sub_sm {i j : Int} {n : Nat} (h1 : i.natAbs < 2 ^ n) (h2 : j.natAbs < 2 ^ n) : (i - j).natAbs < 2 ^ (n + 1) := by
  rw [Nat.pow_succ]; omega
theorem sm_mono {i : Int} {n m : Nat} (h : i.natAbs < 2 ^ n) (hm : n ≤ m) : i.natAbs < 2 ^ m := Nat.lt_of_lt_of_le h (Nat.pow_le_pow_right (by omega) hm)
theorem Sm.den' {n : Nat} {q : Rat} (h : Sm n q) : (q.den : Int).natAbs < 2 ^ n := by simpa using h.2
theorem den0 (q : Rat) : (q.den : Int) ≠ 0 := by have := q.den_pos; omega
theorem add_as (p q : Rat) : p + q = Rat.divInt (p.num * q.den + q.num * p.den) (p.den * q.den) := by
  have h := Rat.divInt_add_divInt p.num q.num (den0 p) (den0 q)
  rwa [Rat.num_divInt_den, Rat.num_divInt_den] at h
theorem sub_as (p q : Rat) : p - q = Rat.divInt (p.num * q.den - q.num * p.den) (p.den * q.den) := by
  have h := Rat.divInt_sub_divInt p.num q.num (den0 p) (den0 q)
  rwa [Rat.num_divInt_den, Rat.num_divInt_den] at h
theorem mul_as (p q : Rat) : p * q = Rat.divInt (p.num * q.num) (p.den * q.den) := by
  have h := Rat.divInt_mul_divInt p.num q.num (d₁ := p.den) (d₂ := q.den)
  rwa [Rat.num_divInt_den, Rat.num_divInt_den] at h
theorem div_as (p q : Rat) : p / q = Rat.divInt (p.num * q.den) (p.den * q.num) := by
  have h := Rat.divInt_mul_divInt p.num q.den (d₁ := p.den) (d₂ := q.num)
  rw [Rat.num_divInt_den, ← Rat.inv_divInt, Rat.num_divInt_den] at h
  rw [Rat.div_def, h]
theorem mul_ne {a b : Int} (h : a ≠ 0) (k : b ≠ 0) : a * b ≠ 0 := Int.mul_ne_zero h k
theorem sm_add {n m : Nat} {p q : Rat} (h : Sm n p) (k : Sm m q) : Sm (n + m + 1) (p + q) := by
  rw [add_as]
  refine sm_divInt (mul_ne (den0 p) (den0 q)) (add_sm (mul_sm h.1 k.den') ?_) (sm_mono (mul_sm h.den' k.den') (by omega))
  rw [Nat.add_comm n m]
  exact mul_sm k.1 h.den'
theorem sm_sub {n m : Nat} {p q : Rat} (h : Sm n p) (k : Sm m q) : Sm (n + m + 1) (p - q) := by
  rw [sub_as]
  refine sm_divInt (mul_ne (den0 p) (den0 q)) (sub_sm (mul_sm h.1 k.den') ?_) (sm_mono (mul_sm h.den' k.den') (by omega))
  rw [Nat.add_comm n m]
  exact mul_sm k.1 h.den'
theorem sm_mul {n m : Nat} {p q : Rat} (h : Sm n p) (k : Sm m q) : Sm (n + m) (p * q) := by
  rw [mul_as]
  exact sm_divInt (mul_ne (den0 p) (den0 q)) (mul_sm h.1 k.1) (mul_sm h.den' k.den')
theorem e_plus {n m : Nat} {x y : D} {p q : Rat} (h : Tells n x p) (k : Tells m y q) (hz : n + m ≤ 7000) (st : List D) : m_plus [x, y] st = .ok (rD (p + q)) st := by
  have h1 := e_ratio_of h (by omega) st
  have h2 := e_ratio_of k (by omega) st
  have m1 : DL.MulOk p.num q.den := mulOk_sm h.sm.1 k.sm.den' (by omega)
  have m2 : DL.MulOk q.num p.den := mulOk_sm k.sm.1 h.sm.den' (by omega)
  have m3 : DL.MulOk p.den q.den := mulOk_sm h.sm.den' k.sm.den' (by omega)
  have m4 : DL.MulOk p.num q.num := mulOk_sm h.sm.1 k.sm.1 (by omega)
  have hl := e_lowest (p.num * q.den + q.num * p.den) (p.den * q.den) (mul_ne (den0 p) (den0 q)) (sm_mono (mul_sm h.sm.den' k.sm.den') (by omega)) st
  rw [← add_as] at hl
  unfold m_plus b_plus
  simp [ev1, ev2, ev3, ev4, ev5, bind_ok, mkEnv, get?, ret_ok, h1, h2, m1, m2, m3, m4, rD, hl]
theorem e_minus {n m : Nat} {x y : D} {p q : Rat} (h : Tells n x p) (k : Tells m y q) (hz : n + m ≤ 7000) (st : List D) : m_minus [x, y] st = .ok (rD (p - q)) st := by
  have h1 := e_ratio_of h (by omega) st
  have h2 := e_ratio_of k (by omega) st
  have m1 : DL.MulOk p.num q.den := mulOk_sm h.sm.1 k.sm.den' (by omega)
  have m2 : DL.MulOk q.num p.den := mulOk_sm k.sm.1 h.sm.den' (by omega)
  have m3 : DL.MulOk p.den q.den := mulOk_sm h.sm.den' k.sm.den' (by omega)
  have m4 : DL.MulOk p.num q.num := mulOk_sm h.sm.1 k.sm.1 (by omega)
  have hl := e_lowest (p.num * q.den - q.num * p.den) (p.den * q.den) (mul_ne (den0 p) (den0 q)) (sm_mono (mul_sm h.sm.den' k.sm.den') (by omega)) st
  rw [← sub_as] at hl
  unfold m_minus b_minus
  simp [ev1, ev2, ev3, ev4, ev5, bind_ok, mkEnv, get?, ret_ok, h1, h2, m1, m2, m3, m4, rD, hl]
theorem e_times {n m : Nat} {x y : D} {p q : Rat} (h : Tells n x p) (k : Tells m y q) (hz : n + m ≤ 7000) (st : List D) : m_times [x, y] st = .ok (rD (p * q)) st := by
  have h1 := e_ratio_of h (by omega) st
  have h2 := e_ratio_of k (by omega) st
  have m1 : DL.MulOk p.num q.den := mulOk_sm h.sm.1 k.sm.den' (by omega)
  have m2 : DL.MulOk q.num p.den := mulOk_sm k.sm.1 h.sm.den' (by omega)
  have m3 : DL.MulOk p.den q.den := mulOk_sm h.sm.den' k.sm.den' (by omega)
  have m4 : DL.MulOk p.num q.num := mulOk_sm h.sm.1 k.sm.1 (by omega)
  have hl := e_lowest (p.num * q.num) (p.den * q.den) (mul_ne (den0 p) (den0 q)) (sm_mono (mul_sm h.sm.den' k.sm.den') (by omega)) st
  rw [← mul_as] at hl
  unfold m_times b_times
  simp [ev1, ev2, ev3, ev4, ev5, bind_ok, mkEnv, get?, ret_ok, h1, h2, m1, m2, m3, m4, rD, hl]
theorem e_over {n m : Nat} {x y : D} {p q : Rat} (h : Tells n x p) (k : Tells m y q) (hz : n + m ≤ 7000) (hq : q ≠ 0) (st : List D) : m_over [x, y] st = .ok (rD (p / q)) st := by
  have h1 := e_ratio_of h (by omega) st
  have h2 := e_ratio_of k (by omega) st
  have hq0 : q.num ≠ 0 := fun z => hq (Rat.num_eq_zero.mp z)
  have m1 : DL.MulOk p.num q.den := mulOk_sm h.sm.1 k.sm.den' (by omega)
  have m2 : DL.MulOk p.den q.num := mulOk_sm h.sm.den' k.sm.1 (by omega)
  have hl := e_lowest (p.num * q.den) (p.den * q.num) (mul_ne (den0 p) hq0) (sm_mono (mul_sm h.sm.den' k.sm.1) (by omega)) st
  rw [← div_as] at hl
  unfold m_over b_over
  simp [ev1, ev2, ev3, ev4, ev5, bind_ok, mkEnv, get?, ret_ok, h1, h2, m1, m2, rD, hl, hq0]
theorem e_over0 {n m : Nat} {x y : D} {p : Rat} (h : Tells n x p) (k : Tells m y 0) (hz : n + m ≤ 7000) (st : List D) : m_over [x, y] st = .err ⟨1, none⟩ st := by
  have h1 := e_ratio_of h (by omega) st
  have h2 := e_ratio_of k (by omega) st
  unfold m_over b_over
  simp [ev1, ev2, ev3, ev4, ev5, bind_ok, mkEnv, get?, ret_ok, h1, h2, rD, mRaise0]
/-- -1, 0, 1 -/
def cmpR (p q : Rat) : Int := if p < q then -1 else if q < p then 1 else 0
theorem e_compare {n m : Nat} {x y : D} {p q : Rat} (h : Tells n x p) (k : Tells m y q) (hz : n + m ≤ 7000) (st : List D) : m_compare [x, y] st = .ok (.int (cmpR p q)) st := by
  have h1 := e_ratio_of h (by omega) st
  have h2 := e_ratio_of k (by omega) st
  have m1 : DL.MulOk p.num q.den := mulOk_sm h.sm.1 k.sm.den' (by omega)
  have m2 : DL.MulOk q.num p.den := mulOk_sm k.sm.1 h.sm.den' (by omega)
  unfold m_compare b_compare cmpR
  by_cases c1 : p < q
  · have d1 := (Rat.lt_iff p q).mp c1
    simp [ev1, ev2, ev3, ev4, ev5, bind_ok, mkEnv, get?, ret_ok, h1, h2, m1, m2, rD, d1, c1]
  · have d1 : ¬ (p.num * q.den < q.num * p.den) := fun z => c1 ((Rat.lt_iff p q).mpr z)
    by_cases c2 : q < p
    · have d2 := (Rat.lt_iff q p).mp c2
      simp [ev1, ev2, ev3, ev4, ev5, bind_ok, mkEnv, get?, ret_ok, h1, h2, m1, m2, rD, d1, d2, c1, c2]
    · have d2 : ¬ (q.num * p.den < p.num * q.den) := fun z => c2 ((Rat.lt_iff q p).mpr z)
      simp [ev1, ev2, ev3, ev4, ev5, bind_ok, mkEnv, get?, ret_ok, h1, h2, m1, m2, rD, d1, d2, c1, c2]
/-! the law's own words -/
theorem low_loop : ∀ (b a : Nat) (t u : D) (st : List D), mWhile (mTru (mVar 3)) (mPar 2 3 (mCons (mVar 3) (mCons (mOp dMod (mCall1 (c1 dInt1) (mCons (mVar 2) (mNil))) (mVar 3)) (mNil)))) [some t, some u, some (.int a), some (.int b)] st = .nx [some t, some u, some (.int (Nat.gcd a b : Nat)), some (.int 0)] st := by
  intro b
  induction b using Nat.strongRecOn with
  | _ b ih =>
    intro a t u st
    rw [mWhile_eq]
    by_cases hb : b = 0
    · subst hb
      simp [ev1, ev2, ev3, ev4, ev5, bind_ok, mkEnv, get?, ret_ok, rD]
    · have hr := ih (a % b) (Nat.mod_lt _ (by omega)) b t u st
      have hb' : (b : Int) ≠ 0 := by omega
      have hm : dMod (.int a) (.int b) = some (.int ((a % b : Nat) : Int)) := by
        rw [dMod_pos _ _ hb', Int.fmod_eq_emod_of_nonneg _ (by omega)]
        rfl
      simp [ev1, ev2, ev3, ev4, ev5, bind_ok, mkEnv, get?, ret_ok, hm, hb, hr]
      rw [Int.natCast_emod] at hr
      rw [hr, Nat.gcd_comm b (a % b), ← Nat.gcd_rec, Nat.gcd_comm]
theorem e_law_low (t b : Int) (hb : b ≠ 0) (hb2 : b.natAbs < 2 ^ 8000) (st : List D) : m__law_low [.int t, .int b] st = .ok (rD (Rat.divInt t b)) st := by
  have hgl : Nat.gcd t.natAbs b.natAbs ≤ b.natAbs := Nat.gcd_le_right _ (by omega)
  have hgp : 0 < Nat.gcd t.natAbs b.natAbs := Nat.gcd_pos_of_pos_right _ (by omega)
  have hlog : (Nat.gcd t.natAbs b.natAbs).log2 < 9000 := by
    have := (Nat.log2_lt (n := Nat.gcd t.natAbs b.natAbs) (k := 8000) (by omega)).mpr (by omega)
    omega
  have d1 : ∀ i, DivOk i ((Nat.gcd t.natAbs b.natAbs : Nat) : Int) := fun i => ⟨by omega, by simpa using hlog⟩
  have d2 : ∀ i, DivOk i (-((Nat.gcd t.natAbs b.natAbs : Nat) : Int)) := fun i => ⟨by omega, by simpa using hlog⟩
  obtain ⟨h1, h2⟩ := divs t b hb
  have at_ : dAbs (.int t) = some (.int (t.natAbs : Nat)) := congrArg (fun i => some (D.int i)) (by split <;> omega)
  have ab_ : dAbs (.int b) = some (.int (b.natAbs : Nat)) := congrArg (fun i => some (D.int i)) (by split <;> omega)
  have hw := low_loop b.natAbs t.natAbs (.int t) (.int b) st
  unfold m__law_low b__law_low
  by_cases hn : b < 0
  · simp only [ev1, ev2, ev3, bind_ok, mkEnv, get?, ret_ok, List.set_cons_zero, List.set_cons_succ, ev4.2.2.2.2.2.2.2.2.2.2.2.2.1, at_, ab_, hw]
    simp [ev1, ev2, ev3, ev4, ev5, bind_ok, get?, ret_ok, hn, d1, d2]
    simp only [rD, h1, h2, if_pos hn]
    rfl
  · simp only [ev1, ev2, ev3, bind_ok, mkEnv, get?, ret_ok, List.set_cons_zero, List.set_cons_succ, ev4.2.2.2.2.2.2.2.2.2.2.2.2.1, at_, ab_, hw]
    simp [ev1, ev2, ev3, ev4, ev5, bind_ok, get?, ret_ok, hn, d1, d2]
    simp only [rD, h1, h2, if_neg hn]
    rfl
theorem dEq_pair (a b c d : Int) : dEq (.tup [.int a, .int b]) (.tup [.int c, .int d]) = some (.bl (decide (a = c) && decide (b = d))) := by
  have e : dEq (.tup [.int a, .int b]) (.tup [.int c, .int d]) = some (.bl ((a == c) && ((b == d) && true))) := rfl
  rw [e, Bool.and_true, Bool.beq_eq_decide_eq, Bool.beq_eq_decide_eq]
theorem dEq_rD (p q : Rat) : dEq (rD p) (rD q) = some (.bl (decide (p = q))) := by
  unfold rD
  rw [dEq_pair]
  congr 2
  rw [← Bool.decide_and, decide_eq_decide]
  refine ⟨fun ⟨a, b⟩ => Rat.ext a (by omega), fun h => by rw [h]; exact ⟨rfl, rfl⟩⟩
theorem dNe_rD (p q : Rat) : dNe (rD p) (rD q) = some (.bl (!decide (p = q))) := by
  have h := dEq_rD p q
  unfold dEq at h
  unfold dNe
  cases e : eqD (rD p) (rD q) with
  | none => rw [e] at h; cases h
  | some b => rw [e] at h; have := Option.some.inj h; injection this with this; simp [this]
theorem e_law_is_ratio {n : Nat} {q : Rat} (h : Sm n q) (hn : n ≤ 8000) (st : List D) : m__law_is_ratio [rD q] st = .ok (.bl true) st := by
  have := Nat.pow_le_pow_right (n := 2) (by omega) hn
  have hl := e_law_low q.num q.den (den0 q) (Nat.lt_of_lt_of_le h.den' this) st
  have hp := q.den_pos
  rw [Rat.num_divInt_den] at hl
  have he := dEq_rD q q
  unfold rD at hl he
  unfold m__law_is_ratio b__law_is_ratio rD
  simp [ev1, ev2, ev3, ev4, ev5, bind_ok, mkEnv, get?, ret_ok, dIsi, isiD, tyN, subTy, mFor_eq, forD_cons, forD_nil, mItems, DL.items?, hl, hp, he]
theorem e_same {n m : Nat} {q : Rat} (h : Sm n q) (hn : n ≤ 8000) (t b : Int) (hb : b ≠ 0) (hb2 : b.natAbs < 2 ^ m) (hm : m ≤ 8000) (st : List D) : m__law_same [rD q, .int t, .int b] st = .ok (.bl (decide (q = Rat.divInt t b))) st := by
  have := Nat.pow_le_pow_right (n := 2) (by omega) hm
  have h1 := e_law_is_ratio h hn st
  have h2 := e_law_low t b hb (by omega) st
  have h3 := dEq_rD q (Rat.divInt t b)
  unfold m__law_same b__law_same
  simp [ev1, ev2, ev3, ev4, ev5, bind_ok, mkEnv, get?, ret_ok, h1, h2, h3]
theorem e_law_over {n m : Nat} {x y : D} {p q : Rat} (h : Tells n x p) (k : Tells m y q) (hz : n + m ≤ 7000) (st : List D) : m__law_over [x, y] st = .ok (if q = 0 then .str "none" else rD (p / q)) st := by
  by_cases hq : q = 0
  · subst hq
    have h1 := e_over0 h k hz st
    unfold m__law_over b__law_over
    simp [ev1, ev2, ev3, ev4, ev5, bind_ok, mkEnv, get?, ret_ok, h1, mTryAs, mIsX, clX_BadRatio, exObj, tabX, unX]
  · have h1 := e_over h k hz hq st
    unfold m__law_over b__law_over
    simp [ev1, ev2, ev3, ev4, ev5, bind_ok, mkEnv, get?, ret_ok, h1, hq, mTryAs]
end My

namespace My
open PySem PySem.Spec PyProof.Rows L2 DL
structure Th (d : D) (p : Rat) : Prop where
  ex : ∃ (x : D) (u v : Int), d = .lst [x, .int u, .int v] ∧ Tells 140 x p ∧ 0 < v ∧ u.natAbs < 2 ^ 134 ∧ v.natAbs < 2 ^ 134 ∧ p = Rat.divInt u v
theorem lt_divInt {a b c d : Int} (hb : 0 < b) (hd : 0 < d) : Rat.divInt a b < Rat.divInt c d ↔ a * d < c * b := by
  have h : Rat.divInt c d ≤ Rat.divInt a b ↔ c * b ≤ a * d := by
    rw [Rat.le_iff_sub_nonneg, Rat.divInt_sub_divInt _ _ (by omega) (by omega), Rat.divInt_nonneg_iff_of_pos_right (Int.mul_pos hb hd)]
    omega
  rw [← Rat.not_le, h, Int.not_le]
theorem e_order (i j : Int) (st : List D) : m__law_order [.int i, .int j] st = .ok (.int (if i < j then -1 else if j < i then 1 else 0)) st := by
  unfold m__law_order b__law_order
  by_cases h1 : i < j
  · simp [ev1, ev2, ev3, ev4, ev5, bind_ok, mkEnv, get?, ret_ok, h1]
  · by_cases h2 : j < i
    · simp [ev1, ev2, ev3, ev4, ev5, bind_ok, mkEnv, get?, ret_ok, h1, h2]
    · simp [ev1, ev2, ev3, ev4, ev5, bind_ok, mkEnv, get?, ret_ok, h1, h2]
theorem cmp_divInt {a b c d : Int} (hb : 0 < b) (hd : 0 < d) : cmpR (Rat.divInt a b) (Rat.divInt c d) = if a * d < c * b then -1 else if c * b < a * d then 1 else 0 := by
  unfold cmpR
  simp only [lt_divInt hb hd, lt_divInt hd hb]
theorem cmp_flip (p q : Rat) : cmpR q p = - cmpR p q := by
  unfold cmpR
  have : p < q → ¬ q < p := fun h k => by grind
  split
  · rename_i h
    have : ¬ p < q := fun k => by grind
    simp [this]
  · split <;> rfl
theorem e_two {a b : D} {p q : Rat} (ha : Th a p) (hb : Th b q) (st : List D) : m__law_two [a, b] st = .ok (.bl true) st := by
  obtain ⟨x, u, v, rfl, hx, hv, hu2, hv2, hp⟩ := ha.ex
  obtain ⟨y, w, z, rfl, hy, hz, hw2, hz2, hq⟩ := hb.ex
  have hv0 : v ≠ 0 := by omega
  have hz0 : z ≠ 0 := by omega
  have S1 : m__law_same [rD p, .int u, .int v] st = .ok (.bl true) st := by
    rw [e_same hx.sm (by omega) u v hv0 hv2 (by omega) st, decide_eq_true hp]
  have S2 : m__law_same [rD (Rat.divInt (u * 6) (-v * 6)), .int (-u), .int v] st = .ok (.bl true) st := by
    have e : Rat.divInt (u * 6) (-v * 6) = Rat.divInt (-u) v := by rw [Rat.divInt_mul_right (by decide), Rat.divInt_neg']
    rw [e, e_same (n := 140) (sm_divInt hv0 (by rw [Int.natAbs_neg]; exact sm_mono hu2 (by decide)) (sm_mono hv2 (by decide))) (by omega) _ _ hv0 hv2 (by omega) st]
    simp
  have S3 : m__law_same [rD (p + q), .int (u * z + w * v), .int (v * z)] st = .ok (.bl true) st := by
    rw [e_same (sm_add hx.sm hy.sm) (by omega) _ _ (mul_ne hv0 hz0) (mul_sm hv2 hz2) (by omega) st, hp, hq, Rat.divInt_add_divInt _ _ hv0 hz0]
    simp
  have S4 : m__law_same [rD (p - q), .int (u * z - w * v), .int (v * z)] st = .ok (.bl true) st := by
    rw [e_same (sm_sub hx.sm hy.sm) (by omega) _ _ (mul_ne hv0 hz0) (mul_sm hv2 hz2) (by omega) st, hp, hq, Rat.divInt_sub_divInt _ _ hv0 hz0]
    simp
  have S5 : m__law_same [rD (p * q), .int (u * w), .int (v * z)] st = .ok (.bl true) st := by
    rw [e_same (sm_mul hx.sm hy.sm) (by omega) _ _ (mul_ne hv0 hz0) (mul_sm hv2 hz2) (by omega) st, hp, hq, Rat.divInt_mul_divInt _ _]
    simp
  have O1 : m__law_order [.int (u * z), .int (w * v)] st = .ok (.int (cmpR p q)) st := by
    rw [e_order, hp, hq, cmp_divInt hv hz]
  have C1 := e_compare hx hy (by omega) st
  have C2 := e_compare hy hx (by omega) st
  rw [cmp_flip] at C2
  have P := e_plus hx hy (by omega) st
  have M := e_minus hx hy (by omega) st
  have T := e_times hx hy (by omega) st
  have R := e_ratio_of hx (by omega) st
  have V := e_law_over hx hy (by omega) st
  have m1 : DL.MulOk u 6 := mulOk_r (by decide)
  have m2 : DL.MulOk (-v) 6 := mulOk_r (by decide)
  have m3 : DL.MulOk u z := mulOk_sm hu2 hz2 (by omega)
  have m4 : DL.MulOk w v := mulOk_sm hw2 hv2 (by omega)
  have m5 : DL.MulOk v z := mulOk_sm hv2 hz2 (by omega)
  have m6 : DL.MulOk u w := mulOk_sm hu2 hw2 (by omega)
  have m7 : DL.MulOk v w := mulOk_sm hv2 hw2 (by omega)
  have L := e_lowest (u * 6) (-v * 6) (by omega) (by omega) st
  unfold m__law_two b__law_two
  have I8 : ∀ i : Int, dIsi [.int i, .ty "bool"] = some (.bl false) := fun i => rfl
  have N1 : dNe (.int (cmpR p q)) (.int (cmpR p q)) = some (.bl false) := by rw [ev4.2.2.2.2.2.2.2.2.2.2.2.1]; simp
  have N2 : dNe (.int (-cmpR p q)) (.int (-cmpR p q)) = some (.bl false) := by rw [ev4.2.2.2.2.2.2.2.2.2.2.2.1]; simp
  have NN : dEq (.str "none") (.str "none") = some (.bl true) := by
    show (eqD (.str "none") (.str "none")).map D.bl = _
    rw [show eqD (.str "none") (.str "none") = some true by decide +kernel]
    rfl
  by_cases hw : w = 0
  · have hq0 : q = 0 := by rw [hq, hw]; simp
    have hd : decide (w = 0) = true := decide_eq_true hw
    rw [if_pos hq0] at V
    simp only [ev1, ev2, ev3, ev4, ev5, bind_ok, Option.bind_some, Option.map_some, mkEnv, get?, ret_ok, List.set_cons_zero, List.set_cons_succ, if_true, if_false, Bool.not_true, Bool.not_false, Bool.false_eq_true, reduceCtorEq, S1, S2, S3, S4, S5, O1, C1, C2, P, M, T, R, V, m1, m2, m3, m4, m5, m6, L, I8, tru?, bool?, N1, N2, hd, NN]
  · have hd : decide (w = 0) = false := decide_eq_false hw
    have hq0 : q ≠ 0 := fun z => hw (by
      have := (Rat.divInt_eq_divInt_iff hz0 (d₂ := 1) (n₂ := 0) (by decide)).mp (hq.symm.trans (z.trans (by simp)))
      omega)
    rw [if_neg hq0] at V
    have S6 : m__law_same [rD (p / q), .int (u * z), .int (v * w)] st = .ok (.bl true) st := by
      have sm : Sm 280 (p / q) := by
        rw [div_as]
        exact sm_divInt (mul_ne (den0 p) (fun z => hq0 (Rat.num_eq_zero.mp z))) (mul_sm (n := 140) (m := 140) hx.sm.1 hy.sm.den') (mul_sm (n := 140) (m := 140) hx.sm.den' hy.sm.1)
      rw [e_same sm (by omega) _ _ (mul_ne hv0 hw) (mul_sm hv2 hw2) (by omega) st, hp, hq, Rat.div_def, Rat.inv_divInt, Rat.divInt_mul_divInt]
      simp
    simp only [ev1, ev2, ev3, ev4, ev5, bind_ok, Option.bind_some, Option.map_some, mkEnv, get?, ret_ok, List.set_cons_zero, List.set_cons_succ, if_true, if_false, Bool.not_true, Bool.not_false, Bool.false_eq_true, reduceCtorEq, S1, S2, S3, S4, S5, O1, C1, C2, P, M, T, R, V, m1, m2, m3, m4, m5, m6, L, I8, tru?, bool?, N1, N2, hd, S6, m7]

/-- one drawn thing, its size once drawn -/
theorem e_thing2 (big : Int) (hb0 : 0 < big) (hb1 : big.natAbs < 2 ^ 133) (st : List D) (hs : HandOk st) : ∃ (d : D) (p : Rat) (st' : List D), Th d p ∧ HandOk st' ∧ ∀ r1 s0, m__law_draw [.tok 0, .int 2] s0 = .ok (.int r1) st → big = (if r1 = 0 then 4 else 10000000000000000000000000000000000000000) → m__law_thing [.tok 0] s0 = .ok d st' := by
  have hb2 : (2 * big + 1).natAbs < 2 ^ 135 := by omega
  obtain ⟨r2, s2, a2, b2, h2, e2⟩ := e_draw (2 * big + 1) (by omega) (by have := log_le hb2; omega) st hs
  obtain ⟨r3, s3, a3, b3, h3, e3⟩ := e_draw 8 (by decide) (by decide) s2 h2
  obtain ⟨up, hup⟩ : ∃ b : Int, b = (if r3 = 0 then 0 else r2 - big) := ⟨_, rfl⟩
  have hu : up.natAbs < 2 ^ 134 := by rw [hup]; split <;> omega
  obtain ⟨r4, s4, a4, b4, h4, e4⟩ := e_draw 4 (by decide) (by decide) s3 h3
  have hpow : dPow (.int 10) (.int 40) = some (.int 10000000000000000000000000000000000000000) := by rfl
  have m2 : DL.MulOk 2 big := mulOk_l (by decide)
  by_cases c4 : r4 = 0
  · refine ⟨.lst [.int up, .int up, .int 1], up, s4, ⟨_, _, _, rfl, .one up (by decide) (by omega), by decide, by omega, by decide, ?_⟩, h4, fun r1 s0 e1 hbig => ?_⟩
    · rw [Rat.divInt_eq_div]; simp; grind
    · unfold m__law_thing b__law_thing
      have d4 : decide (r4 = 0) = true := decide_eq_true c4
      by_cases c1 : r1 = 0
      · rw [if_pos c1] at hbig
        have d1 : decide (r1 = 0) = true := decide_eq_true c1
        by_cases c3 : r3 = 0
        · have d3 : decide (r3 = 0) = true := decide_eq_true c3
          rw [if_pos c3] at hup
          subst hbig hup
          simp only [ev1, ev2, ev3, ev4, ev5, bind_ok, Option.bind_some, Option.map_some, mkEnv, get?, ret_ok, List.set_cons_zero, List.set_cons_succ, if_true, if_false, Bool.not_true, Bool.not_false, Bool.false_eq_true, reduceCtorEq, bool?, hpow, e1, e2, e3, e4, d1, d3, d4, m2]
        · have d3 : decide (r3 = 0) = false := decide_eq_false c3
          rw [if_neg c3] at hup
          subst hbig hup
          simp only [ev1, ev2, ev3, ev4, ev5, bind_ok, Option.bind_some, Option.map_some, mkEnv, get?, ret_ok, List.set_cons_zero, List.set_cons_succ, if_true, if_false, Bool.not_true, Bool.not_false, Bool.false_eq_true, reduceCtorEq, bool?, hpow, e1, e2, e3, e4, d1, d3, d4, m2]
      · rw [if_neg c1] at hbig
        have d1 : decide (r1 = 0) = false := decide_eq_false c1
        by_cases c3 : r3 = 0
        · have d3 : decide (r3 = 0) = true := decide_eq_true c3
          rw [if_pos c3] at hup
          subst hbig hup
          simp only [ev1, ev2, ev3, ev4, ev5, bind_ok, Option.bind_some, Option.map_some, mkEnv, get?, ret_ok, List.set_cons_zero, List.set_cons_succ, if_true, if_false, Bool.not_true, Bool.not_false, Bool.false_eq_true, reduceCtorEq, bool?, hpow, e1, e2, e3, e4, d1, d3, d4, m2]
        · have d3 : decide (r3 = 0) = false := decide_eq_false c3
          rw [if_neg c3] at hup
          subst hbig hup
          simp only [ev1, ev2, ev3, ev4, ev5, bind_ok, Option.bind_some, Option.map_some, mkEnv, get?, ret_ok, List.set_cons_zero, List.set_cons_succ, if_true, if_false, Bool.not_true, Bool.not_false, Bool.false_eq_true, reduceCtorEq, bool?, hpow, e1, e2, e3, e4, d1, d3, d4, m2]
  · obtain ⟨r5, s5, a5, b5, h5, e5⟩ := e_draw big hb0 (by have := log_le hb1; omega) s4 h4
    have d4 : decide (r4 = 0) = false := decide_eq_false c4
    by_cases c5 : r4 = 1
    · have d5 : decide (r4 = 1) = true := decide_eq_true c5
      obtain ⟨r6, s6, a6, b6, h6, e6⟩ := e_draw 12 (by decide) (by decide) s5 h5
      have m3 : DL.MulOk up (1 + r6) := mulOk_r (by omega)
      have m4 : DL.MulOk (1 + r5) (1 + r6) := mulOk_r (by omega)
      have z1 : (up * (1 + r6)).natAbs < 2 ^ 140 := sm_mono (mul_sm (m := 5) hu (by omega)) (by omega)
      have z2 : ((1 + r5) * (1 + r6)).natAbs < 2 ^ 140 := sm_mono (mul_sm (n := 134) (m := 5) (by omega) (by omega)) (by omega)
      refine ⟨.lst [.tup [.int (up * (1 + r6)), .int ((1 + r5) * (1 + r6))], .int up, .int (1 + r5)], _, s6, ⟨_, _, _, rfl, .two _ _ (Int.mul_pos (by omega) (by omega)) z1 z2, by omega, by omega, by omega, Rat.divInt_mul_right (by omega)⟩, h6, fun r1 s0 e1 hbig => ?_⟩
      unfold m__law_thing b__law_thing
      by_cases c1 : r1 = 0
      · rw [if_pos c1] at hbig
        have d1 : decide (r1 = 0) = true := decide_eq_true c1
        by_cases c3 : r3 = 0
        · have d3 : decide (r3 = 0) = true := decide_eq_true c3
          rw [if_pos c3] at hup
          subst hbig hup
          simp only [ev1, ev2, ev3, ev4, ev5, bind_ok, Option.bind_some, Option.map_some, mkEnv, get?, ret_ok, List.set_cons_zero, List.set_cons_succ, if_true, if_false, Bool.not_true, Bool.not_false, Bool.false_eq_true, reduceCtorEq, bool?, hpow, e1, e2, e3, e4, e5, e6, d1, d3, d4, d5, m2, m3, m4]
        · have d3 : decide (r3 = 0) = false := decide_eq_false c3
          rw [if_neg c3] at hup
          subst hbig hup
          simp only [ev1, ev2, ev3, ev4, ev5, bind_ok, Option.bind_some, Option.map_some, mkEnv, get?, ret_ok, List.set_cons_zero, List.set_cons_succ, if_true, if_false, Bool.not_true, Bool.not_false, Bool.false_eq_true, reduceCtorEq, bool?, hpow, e1, e2, e3, e4, e5, e6, d1, d3, d4, d5, m2, m3, m4]
      · rw [if_neg c1] at hbig
        have d1 : decide (r1 = 0) = false := decide_eq_false c1
        by_cases c3 : r3 = 0
        · have d3 : decide (r3 = 0) = true := decide_eq_true c3
          rw [if_pos c3] at hup
          subst hbig hup
          simp only [ev1, ev2, ev3, ev4, ev5, bind_ok, Option.bind_some, Option.map_some, mkEnv, get?, ret_ok, List.set_cons_zero, List.set_cons_succ, if_true, if_false, Bool.not_true, Bool.not_false, Bool.false_eq_true, reduceCtorEq, bool?, hpow, e1, e2, e3, e4, e5, e6, d1, d3, d4, d5, m2, m3, m4]
        · have d3 : decide (r3 = 0) = false := decide_eq_false c3
          rw [if_neg c3] at hup
          subst hbig hup
          simp only [ev1, ev2, ev3, ev4, ev5, bind_ok, Option.bind_some, Option.map_some, mkEnv, get?, ret_ok, List.set_cons_zero, List.set_cons_succ, if_true, if_false, Bool.not_true, Bool.not_false, Bool.false_eq_true, reduceCtorEq, bool?, hpow, e1, e2, e3, e4, e5, e6, d1, d3, d4, d5, m2, m3, m4]
    · have d5 : decide (r4 = 1) = false := decide_eq_false c5
      have m3 : DL.MulOk up 1 := mulOk_r (by omega)
      have m4 : DL.MulOk (1 + r5) 1 := mulOk_r (by omega)
      refine ⟨.lst [.tup [.int (up * 1), .int ((1 + r5) * 1)], .int up, .int (1 + r5)], _, s5, ⟨_, _, _, rfl, .two _ _ (Int.mul_pos (by omega) (by omega)) (by omega) (by omega), by omega, by omega, by omega, Rat.divInt_mul_right (by omega)⟩, h5, fun r1 s0 e1 hbig => ?_⟩
      unfold m__law_thing b__law_thing
      by_cases c1 : r1 = 0
      · rw [if_pos c1] at hbig
        have d1 : decide (r1 = 0) = true := decide_eq_true c1
        by_cases c3 : r3 = 0
        · have d3 : decide (r3 = 0) = true := decide_eq_true c3
          rw [if_pos c3] at hup
          subst hbig hup
          simp only [ev1, ev2, ev3, ev4, ev5, bind_ok, Option.bind_some, Option.map_some, mkEnv, get?, ret_ok, List.set_cons_zero, List.set_cons_succ, if_true, if_false, Bool.not_true, Bool.not_false, Bool.false_eq_true, reduceCtorEq, bool?, hpow, e1, e2, e3, e4, e5, d1, d3, d4, d5, m2, m3, m4]
        · have d3 : decide (r3 = 0) = false := decide_eq_false c3
          rw [if_neg c3] at hup
          subst hbig hup
          simp only [ev1, ev2, ev3, ev4, ev5, bind_ok, Option.bind_some, Option.map_some, mkEnv, get?, ret_ok, List.set_cons_zero, List.set_cons_succ, if_true, if_false, Bool.not_true, Bool.not_false, Bool.false_eq_true, reduceCtorEq, bool?, hpow, e1, e2, e3, e4, e5, d1, d3, d4, d5, m2, m3, m4]
      · rw [if_neg c1] at hbig
        have d1 : decide (r1 = 0) = false := decide_eq_false c1
        by_cases c3 : r3 = 0
        · have d3 : decide (r3 = 0) = true := decide_eq_true c3
          rw [if_pos c3] at hup
          subst hbig hup
          simp only [ev1, ev2, ev3, ev4, ev5, bind_ok, Option.bind_some, Option.map_some, mkEnv, get?, ret_ok, List.set_cons_zero, List.set_cons_succ, if_true, if_false, Bool.not_true, Bool.not_false, Bool.false_eq_true, reduceCtorEq, bool?, hpow, e1, e2, e3, e4, e5, d1, d3, d4, d5, m2, m3, m4]
        · have d3 : decide (r3 = 0) = false := decide_eq_false c3
          rw [if_neg c3] at hup
          subst hbig hup
          simp only [ev1, ev2, ev3, ev4, ev5, bind_ok, Option.bind_some, Option.map_some, mkEnv, get?, ret_ok, List.set_cons_zero, List.set_cons_succ, if_true, if_false, Bool.not_true, Bool.not_false, Bool.false_eq_true, reduceCtorEq, bool?, hpow, e1, e2, e3, e4, e5, d1, d3, d4, d5, m2, m3, m4]
theorem e_thing (st : List D) (hs : HandOk st) : ∃ (d : D) (p : Rat) (st' : List D), Th d p ∧ HandOk st' ∧ m__law_thing [.tok 0] st = .ok d st' := by
  obtain ⟨r1, s1, a1, b1, h1, e1⟩ := e_draw 2 (by decide) (by decide) st hs
  obtain ⟨big, hbig⟩ : ∃ b : Int, b = (if r1 = 0 then 4 else 10000000000000000000000000000000000000000) := ⟨_, rfl⟩
  obtain ⟨d, p, s2, h2, h3, h4⟩ := e_thing2 big (by rw [hbig]; split <;> omega) (by rw [hbig]; split <;> omega) s1 h1
  exact ⟨d, p, s2, h2, h3, h4 r1 st e1 hbig⟩

theorem Th.neg {u v : Int} {p : Rat} (hp : p = Rat.divInt u v) (hv : 0 < v) (hu2 : u.natAbs < 2 ^ 134) (hv2 : v.natAbs < 2 ^ 134) : Th (.lst [.tup [.int (-3 * u), .int (3 * v)], .int (-u), .int v]) (-p) := by
  refine ⟨_, _, _, rfl, ?_, hv, by omega, by omega, ?_⟩
  · have t := Tells.two (n := 140) (-3 * u) (3 * v) (by omega) (by omega) (by omega)
    have e : Rat.divInt (-3 * u) (3 * v) = -p := by rw [show -3 * u = 3 * (-u) by omega, Rat.divInt_mul_left (by decide), ← Rat.neg_divInt, ← hp]
    rwa [e] at t
  · rw [← Rat.neg_divInt, ← hp]
theorem hH : ∀ (ns : List Int), ns.length ≤ 63 → ∃ cells t, My.m__law_hand [.rol (ns.map .int)] [] = .ok (DL.handD cells 0 0 t) [] ∧ ∃ st', My.b_law (some (.rol (ns.map .int)) :: some (.tok 0) :: List.replicate 7 none) [DL.handD cells 0 0 t] = .rt (.bl true) st' := by
  intro ns hl
  obtain ⟨cells, t, hc, eh⟩ := e_hand ns hl
  refine ⟨cells, t, eh, ?_⟩
  obtain ⟨a, p, s1, ta, h1, ea⟩ := e_thing [DL.handD cells 0 0 t] ⟨cells, 0, 0, t, rfl, by decide, by decide, hc⟩
  obtain ⟨b, q, s2, tb, h2, eb⟩ := e_thing s1 h1
  obtain ⟨c, r, s3, tc, h3, ec⟩ := e_thing s2 h2
  obtain ⟨x, u, v, ha, hx, hv, hu2, hv2, hp⟩ := ta.ex
  obtain ⟨y, w, z, hb, hy, hz, hw2, hz2, hq⟩ := tb.ex
  obtain ⟨o, k, l, hcc, ho, hl0, hk2, hl2, hr⟩ := tc.ex
  have td := Th.neg hp hv hu2 hv2
  obtain ⟨d, hd⟩ : ∃ d, d = D.tup [.int (-3 * u), .int (3 * v)] := ⟨_, rfl⟩
  rw [← hd] at td
  have hdt : Tells 140 d (-p) := by
    obtain ⟨d', _, _, e, h, _⟩ := td.ex
    injection e with e
    injection e with e1 e2
    rw [e1]; exact h
  have W : ∀ {a b : D} {p q : Rat}, Th a p → Th b q → m__law_two [a, b] s3 = .ok (.bl true) s3 := fun h k => e_two h k s3
  have W1 := W ta ta; have W2 := W ta tb; have W3 := W ta tc; have W4 := W ta td
  have W5 := W tb ta; have W6 := W tb tb; have W7 := W tb tc; have W8 := W tb td
  have W9 := W tc ta; have W10 := W tc tb; have W11 := W tc tc; have W12 := W tc td
  have W13 := W td ta; have W14 := W td tb; have W15 := W td tc; have W16 := W td td
  have G1 := e_plus hy ho (by omega) s3
  have G2 := e_plus hx (.rat (sm_add hy.sm ho.sm)) (by omega) s3
  have G3 := e_plus hx hy (by omega) s3
  have G4 := e_plus (.rat (sm_add hx.sm hy.sm)) ho (by omega) s3
  have G5 := e_minus (.rat (sm_add hx.sm (sm_add hy.sm ho.sm))) ho (by omega) s3
  have G6 := e_plus hy hx (by omega) s3
  have G7 := e_times hx (.rat (sm_add hy.sm ho.sm)) (by omega) s3
  have G8 := e_times hx hy (by omega) s3
  have G9 := e_times ho hx (by omega) s3
  have G10 := e_plus (.rat (sm_mul hx.sm hy.sm)) (.rat (sm_mul ho.sm hx.sm)) (by omega) s3
  have G11 := e_plus hx hdt (by omega) s3
  have G12 := e_minus hy hy (by omega) s3
  have G13 := e_compare (.rat (sm_sub hy.sm hy.sm)) (.one (n := 1) 0 (by decide) (by decide)) (by omega) s3
  have G14 := e_times hy ho (by omega) s3
  have G15 := e_ratio_of hy (by omega) s3
  have G16 := e_plus hx ho (by omega) s3
  have G17 := e_compare (.rat (sm_add hx.sm ho.sm)) (.rat (sm_add hy.sm ho.sm)) (by omega) s3
  have G18 := e_compare hx hy (by omega) s3
  have A1 : dNe (rD (p + (q + r))) (rD (p + q + r)) = some (.bl false) := by rw [dNe_rD, decide_eq_true (by grind)]; rfl
  have A2 : dNe (rD (p + (q + r) - r)) (rD (q + p)) = some (.bl false) := by rw [dNe_rD, decide_eq_true (by grind)]; rfl
  have A3 : dNe (rD (p * (q + r))) (rD (p * q + r * p)) = some (.bl false) := by rw [dNe_rD, decide_eq_true (by grind)]; rfl
  have A4 : dNe (rD (p + -p)) (.tup [.int 0, .int 1]) = some (.bl false) := by
    rw [show D.tup [.int 0, .int 1] = rD 0 from rfl, dNe_rD, decide_eq_true (by grind)]; rfl
  have A5 : cmpR (q - q) ((0 : Int) : Rat) = 0 := by
    rw [show q - q = 0 by grind]; rfl
  have A6 : cmpR (p + r) (q + r) = cmpR p q := by
    unfold cmpR
    have e1 : p + r < q + r ↔ p < q := by grind
    have e2 : q + r < p + r ↔ q < p := by grind
    simp only [e1, e2]
  rw [A5] at G13
  rw [A6] at G17
  have m1 : DL.MulOk (-3) u := mulOk_l (by decide)
  have m2 : DL.MulOk 3 v := mulOk_l (by decide)
  have Ix : ixS a (.int 0) s3 = .ok x s3 := by rw [ha]; rfl
  have Ix1 : ixS a (.int 1) s3 = .ok (.int u) s3 := by rw [ha]; rfl
  have Ix2 : ixS a (.int 2) s3 = .ok (.int v) s3 := by rw [ha]; rfl
  have Iy : ixS b (.int 0) s3 = .ok y s3 := by rw [hb]; rfl
  have Io : ixS c (.int 0) s3 = .ok o s3 := by rw [hcc]; rfl
  have Io1 : ixS c (.int 1) s3 = .ok (.int k) s3 := by rw [hcc]; rfl
  have E0 : dNe (.int 0) (.int 0) = some (.bl false) := rfl
  have E1 : dEq (.int (cmpR p q)) (.int (cmpR p q)) = some (.bl true) := by rw [ev4.2.2.2.2.2.2.2.2.2.2.1]; simp
  have Ek : dNe (.int k) (.int 0) = some (.bl (!decide (k = 0))) := ev4.2.2.2.2.2.2.2.2.2.2.2.1 k 0
  unfold b_law
  by_cases hk : k = 0
  · have dk : decide (k = 0) = true := decide_eq_true hk
    refine ⟨s3, ?_⟩
    simp only [ev1, ev2, ev3, ev4, ev5, bind_ok, Option.bind_some, Option.map_some, mkEnv, get?, ret_ok, List.set_cons_zero, List.set_cons_succ, List.replicate, if_true, if_false, Bool.not_true, Bool.not_false, Bool.false_eq_true, reduceCtorEq, bool?, tru?, mFor_eq, forD_cons, forD_nil, mItems, DL.items?, gNm, ea, eb, ec, Ix, Ix1, Ix2, Iy, Io, Io1, m1, m2, ← hd, W1, W2, W3, W4, W5, W6, W7, W8, W9, W10, W11, W12, W13, W14, W15, W16, G1, G2, G3, G4, G5, G6, G7, G8, G9, G10, G11, G12, G13, G14, G15, G16, G17, G18, A1, A2, A3, A4, E0, E1, Ek, dk]
  · have dk : decide (k = 0) = false := decide_eq_false hk
    have hr0 : r ≠ 0 := fun z => hk (by
      have := (Rat.divInt_eq_divInt_iff (show l ≠ 0 by omega) (d₂ := 1) (n₂ := 0) (by decide)).mp (hr.symm.trans (z.trans (by simp)))
      omega)
    have G19 := e_over (.rat (sm_mul hy.sm ho.sm)) ho (by omega) hr0 s3
    rw [show q * r / r = q by grind] at G19
    have A7 : dNe (rD q) (rD q) = some (.bl false) := by rw [dNe_rD, decide_eq_true rfl]; rfl
    refine ⟨s3, ?_⟩
    simp only [ev1, ev2, ev3, ev4, ev5, bind_ok, Option.bind_some, Option.map_some, mkEnv, get?, ret_ok, List.set_cons_zero, List.set_cons_succ, List.replicate, if_true, if_false, Bool.not_true, Bool.not_false, Bool.false_eq_true, reduceCtorEq, bool?, tru?, mFor_eq, forD_cons, forD_nil, mItems, DL.items?, gNm, ea, eb, ec, Ix, Ix1, Ix2, Iy, Io, Io1, m1, m2, ← hd, W1, W2, W3, W4, W5, W6, W7, W8, W9, W10, W11, W12, W13, W14, W15, W16, G1, G2, G3, G4, G5, G6, G7, G8, G9, G10, G11, G12, G13, G14, G15, G16, G17, G18, A1, A2, A3, A4, E0, E1, Ek, dk, G19, A7]
end My

open PySem PySem.W PyProof.Rows
set_option maxHeartbeats 0 in
theorem PySem.Challenge.cw_untoldgaps_k01_ratios_added_and_divided_holds : PySem.Challenge.rw_untoldgaps_k01_ratios_added_and_divided.Holds :=
  hd (by
    k_fill
    refine DL.walk_ofC (l := PySem.Challenge.rw_untoldgaps_k01_ratios_added_and_divided) (n := 63) (k := 7) (x := "_law_script") rfl (by decide) (by decide) rfl ⟨rfl, by decide, by decide⟩ (fun w h Y => PySem.W.kIn_of Y) ?F
    case F =>
      intro w mg la h KX G hmg
      refine' My.all_mk KX G hmg My.hH ?a0 ?l0 ?c0 ?k0 ?a1 ?l1 ?c1 ?k1 ?a2 ?l2 ?c2 ?k2 ?a3 ?l3 ?c3 ?k3 ?a4 ?l4 ?c4 ?k4 ?a5 ?l5 ?c5 ?k5 ?a6 ?l6 ?c6 ?k6 ?a7 ?l7 ?c7 ?k7 ?a8 ?l8 ?c8 ?k8 ?a9 ?l9 ?c9 ?k9 ?a10 ?l10 ?c10 ?k10 ?a11 ?l11 ?c11 ?k11 ?a12 ?l12 ?c12 ?k12 ?a13 ?l13 ?c13 ?k13 ?a14 ?l14 ?c14 ?k14 ?a15 ?l15 ?c15 ?k15 ?a16 ?l16 ?c16 ?k16 ?a17 ?l17 ?c17 ?k17 ?a18 ?l18 ?c18 ?k18 ?a19 ?l19 ?c19 ?k19 ?z_ValueError ?z_abs ?z_bool ?z_enumerate ?z_int ?z_isinstance ?z_len ?z_tuple ?i_gcd ?ca0 ?ca1 ?cs0 ?ct0_ ?ck0 ?cd0_ ?cs1 ?ct1_ ?ck1 ?cd1_ ?cx0 ?cx1 ?s0_1 ?s1_1 ?xc1 ?xk1_0 ?xk1_V
      (case a0 => k_is)
      (case l0 => k_is)
      (case c0 => k_is)
      (case k0 => k_is)
      (case a1 => k_is)
      (case l1 => k_is)
      (case c1 => k_is)
      (case k1 => k_is)
      (case a2 => k_is)
      (case l2 => k_is)
      (case c2 => k_is)
      (case k2 => k_is)
      (case a3 => k_is)
      (case l3 => k_is)
      (case c3 => k_is)
      (case k3 => k_is)
      (case a4 => k_is)
      (case l4 => k_is)
      (case c4 => k_is)
      (case k4 => k_is)
      (case a5 => k_is)
      (case l5 => k_is)
      (case c5 => k_is)
      (case k5 => k_is)
      (case a6 => k_is)
      (case l6 => k_is)
      (case c6 => k_is)
      (case k6 => k_is)
      (case a7 => k_is)
      (case l7 => k_is)
      (case c7 => k_is)
      (case k7 => k_is)
      (case a8 => k_is)
      (case l8 => k_is)
      (case c8 => k_is)
      (case k8 => k_is)
      (case a9 => k_is)
      (case l9 => k_is)
      (case c9 => k_is)
      (case k9 => k_is)
      (case a10 => k_is)
      (case l10 => k_is)
      (case c10 => k_is)
      (case k10 => k_is)
      (case a11 => k_is)
      (case l11 => k_is)
      (case c11 => k_is)
      (case k11 => k_is)
      (case a12 => k_is)
      (case l12 => k_is)
      (case c12 => k_is)
      (case k12 => k_is)
      (case a13 => k_is)
      (case l13 => k_is)
      (case c13 => k_is)
      (case k13 => k_is)
      (case a14 => k_is)
      (case l14 => k_is)
      (case c14 => k_is)
      (case k14 => k_is)
      (case a15 => k_is)
      (case l15 => k_is)
      (case c15 => k_is)
      (case k15 => k_is)
      (case a16 => k_is)
      (case l16 => k_is)
      (case c16 => k_is)
      (case k16 => k_is)
      (case a17 => k_is)
      (case l17 => k_is)
      (case c17 => k_is)
      (case k17 => k_is)
      (case a18 => k_is)
      (case l18 => k_is)
      (case c18 => k_is)
      (case k18 => k_is)
      (case a19 => k_is)
      (case l19 => k_is)
      (case c19 => k_is)
      (case k19 => k_is)
      (case z_ValueError => k_is)
      (case z_abs => k_is)
      (case z_bool => k_is)
      (case z_enumerate => k_is)
      (case z_int => k_is)
      (case z_isinstance => k_is)
      (case z_len => k_is)
      (case z_tuple => k_is)
      (case i_gcd => k_is)
      (case ca0 => k_is)
      (case ca1 => k_is)
      (case cs0 => k_is)
      (case ct0_ => k_is)
      (case ck0 => k_is)
      (case cd0_ => k_is)
      (case cs1 => k_is)
      (case ct1_ => k_is)
      (case ck1 => k_is)
      (case cd1_ => k_is)
      (case cx0 => k_exc)
      (case cx1 => k_exc)
      (case s0_1 => k_is)
      (case s1_1 => k_is)
      (case xc1 => exact DL.excB_mk (by k_is) (by k_is) (by k_is) (by k_is) (by k_is) (by k_is) (by k_is) (by k_is))
      (case xk1_0 => exact DL.kitO_ref (by k_is) (by k_is) (by k_is))
      (case xk1_V => exact DL.kitO_ty (by k_is) (by rfl)))
