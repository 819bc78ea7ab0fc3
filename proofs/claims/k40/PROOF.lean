import PyProof.Rows.All
import HandS.ForMost
import HandS.ForExc
import HandS.Iter
import HandS.IsInst
import HandS.Gcd
import HandS.Wide
import HandS.ExcInit
import HandS.ExcField
import HandS.Small
import HandS.TupAny
import HandS.Deep
import HandS.Conv
import HandS.Lambda
import HandS.TupLe
import HandS.Style
import HandS.TupMul
import HandS.ExcIs
import HandS.List
import HandS.TryMany
import HandS.CallSlots
import HandS.OwnEq
import HandS.Zip
import KE.DatumOrd
import HandS.Defaults
import KE.GoesEnum
import KE.KTupSum
import KE.DataFind
import HandS.Dict
import KE.KExcSuper
import HandS.ExcSuper
import HandS.FStr
import KE.KOpsOwn
import KE.GoesZip
import KE.GoesMore
import PyProof.SeqIndex
import HandS.MakeKw
import HandS.More
import HandS.SetFor
import HandS.EndOwn
import PyProof.ReprRoads
import PyProof.ReprBulk
import PyProof.CallFns
import PyProof.Rows.FactsT3
import HandS.SortInts
import KE.DataMinMax
import PySem.Challenge.RW_untoldgaps_k40_whole_words_of_one_histor
set_option Elab.async false
set_option linter.all false
set_option maxRecDepth 100000
set_option maxHeartbeats 4000000
set_option exponentiation.threshold 10000
/-! DL: a heap-free layer of our own over HandS. Values as data (D), a body as a function of the slots' data and of a few
cells that may change (St), one relation (DI) between this and HandS's slots and abstract heap. -/
namespace DL
open PySem PySem.Spec PyProof.Rows L2

/-- what a value is worth, whole -/
inductive D where
  | non | bl (b : Bool) | int (i : Int) | str (x : Str) | ty (n : String)
  | tup (xs : List D) | lst (xs : List D) | rol (xs : List D)
  | obj (c : Nat) (fs : List (Str × D)) | cls (c : Nat) | tok (n : Nat) | dic
  /-- a tuple whose object is known whole: it has no dict, so its methods can be called -/
  | tpx (xs : List D)

/-- what is fixed: the written part, the addresses of the text's own classes -/
structure Glb where
  K : PySem.W.Frag
  cl : Nat → Addr
  /-- tables of code objects that lambdas are written into, with the lambdas' name -/
  tb : List (Addr × Str) := []

/-- a tuple: tracked, or of the written part -/
def TupAt (K : PySem.W.Frag) (S : Hp) (a : Addr) (vs : List V) : Prop :=
  S a = some (.tup vs) ∨ (∃ (o : Obj) (its : Array Value) (n : Nat), K.lookup a = some o ∧ o.cls = .type "tuple" ∧ o.data = .seq its n ∧ its.size ≤ sizeLine ∧ Vals vs its.toList) ∨ ∃ (o : Obj) (ns : List Int), vs = ns.map V.int ∧ S a = some (.frz o (.tup vs))
theorem TupAt.sqT {K : PySem.W.Frag} {S : Hp} {a : Addr} {vs : List V} (h : TupAt K S a vs) : SqT K S a vs := h.elim (fun z => .inl (.inl z)) fun z => z.elim .inr fun ⟨o, _, _, y⟩ => .inl (.inr ⟨o, y⟩)
theorem TupAt.mono {K : PySem.W.Frag} {S S' : Hp} {a : Addr} {vs : List V} (e : Same S S') (h : TupAt K S a vs) : TupAt K S' a vs := h.imp (e _ _) fun z => z.imp (fun y => y) fun ⟨o, ns, q, y⟩ => ⟨o, ns, q, e _ _ y⟩
mutual
inductive Rep (G : Glb) (ad : List Addr) (S : Hp) : V → D → Prop
  | non : Rep G ad S .non .non
  | bl (b : Bool) : Rep G ad S (.bl b) (.bl b)
  | int (i : Int) : Rep G ad S (.int i) (.int i)
  | str (x : Str) : Rep G ad S (.str x) (.str x)
  | ty (n : String) : Rep G ad S (.ty n) (.ty n)
  | tup {a : Addr} {vs : List V} {ds : List D} : TupAt G.K S a vs → Reps G ad S vs ds → Rep G ad S (.ref a) (.tup ds)
  | lst {a : Addr} {vs : List V} {ds : List D} : S a = some (.lst vs) → Reps G ad S vs ds → Rep G ad S (.ref a) (.lst ds)
  | rol {a : Addr} {vs : List V} {ds : List D} : SqL G.K S a vs → Reps G ad S vs ds → Rep G ad S (.ref a) (.rol ds)
  | obj {a dx : Addr} {c : Nat} {vs : List (Str × V)} {fs : List (Str × D)} : S a = some (.ins (G.cl c) dx vs) → RepF G ad S vs fs → Rep G ad S (.ref a) (.obj c fs)
  | cls (c : Nat) : Rep G ad S (.ref (G.cl c)) (.cls c)
  | tok {a : Addr} {n : Nat} : ad[n]? = some a → Rep G ad S (.ref a) (.tok n)
  | dic {a : Addr} {kvs : List (Key × V)} : S a = some (.dK kvs) → Rep G ad S (.ref a) .dic
  | tpx {a : Addr} {o : Obj} {ns : List Int} {vs : List V} {ds : List D} : vs = ns.map V.int → S a = some (.frz o (.tup vs)) → o.dict = Option.none → Reps G ad S vs ds → Rep G ad S (.ref a) (.tpx ds)
inductive Reps (G : Glb) (ad : List Addr) (S : Hp) : List V → List D → Prop
  | nil : Reps G ad S [] []
  | cons {v : V} {d : D} {vs : List V} {ds : List D} : Rep G ad S v d → Reps G ad S vs ds → Reps G ad S (v :: vs) (d :: ds)
inductive RepF (G : Glb) (ad : List Addr) (S : Hp) : List (Str × V) → List (Str × D) → Prop
  | nil : RepF G ad S [] []
  | cons {f : Str} {v : V} {d : D} {vs : List (Str × V)} {ds : List (Str × D)} : Rep G ad S v d → RepF G ad S vs ds → RepF G ad S ((f, v) :: vs) ((f, d) :: ds)
end

theorem Same.sqT {K : PySem.W.Frag} {H H' : Hp} {a : Addr} {xs : List V} (e : Same H H') (h : SqT K H a xs) : SqT K H' a xs := by
  rcases h with (h | ⟨o, h⟩) | h
  · exact .inl (.inl (e _ _ h))
  · exact .inl (.inr ⟨o, e _ _ h⟩)
  · exact .inr h

section
variable {G : Glb} {ad : List Addr} {S S' : Hp}
mutual
theorem Rep.mono (e : Same S S') : ∀ {v : V} {d : D}, Rep G ad S v d → Rep G ad S' v d
  | _, _, .non => .non
  | _, _, .bl b => .bl b
  | _, _, .int i => .int i
  | _, _, .str x => .str x
  | _, _, .ty n => .ty n
  | _, _, .tup h r => .tup (TupAt.mono e h) (Reps.mono e r)
  | _, _, .lst h r => .lst (e _ _ h) (Reps.mono e r)
  | _, _, .rol h r => .rol (e.seq h) (Reps.mono e r)
  | _, _, .obj h r => .obj (e _ _ h) (RepF.mono e r)
  | _, _, .cls c => .cls c
  | _, _, .tok h => .tok h
  | _, _, .dic h => .dic (e _ _ h)
  | _, _, .tpx q h n r => .tpx q (e _ _ h) n (Reps.mono e r)
theorem Reps.mono (e : Same S S') : ∀ {vs : List V} {ds : List D}, Reps G ad S vs ds → Reps G ad S' vs ds
  | _, _, .nil => .nil
  | _, _, .cons h r => .cons (Rep.mono e h) (Reps.mono e r)
theorem RepF.mono (e : Same S S') : ∀ {vs : List (Str × V)} {ds : List (Str × D)}, RepF G ad S vs ds → RepF G ad S' vs ds
  | _, _, .nil => .nil
  | _, _, .cons h r => .cons (Rep.mono e h) (RepF.mono e r)
end
theorem Reps.len : ∀ {vs : List V} {ds : List D}, Reps G ad S vs ds → vs.length = ds.length
  | _, _, .nil => rfl
  | _, _, .cons _ r => congrArg (· + 1) (Reps.len r)
theorem Reps.get : ∀ {vs : List V} {ds : List D} {i : Nat} {d : D}, Reps G ad S vs ds → ds[i]? = some d → ∃ v, vs[i]? = some v ∧ Rep G ad S v d
  | _, _, 0, _, .cons h _, e => ⟨_, rfl, by cases e; exact h⟩
  | _, _, i + 1, _, .cons _ r, e => Reps.get (i := i) r e
theorem Reps.getV : ∀ {vs : List V} {ds : List D} {i : Nat} {v : V}, Reps G ad S vs ds → vs[i]? = some v → ∃ d, ds[i]? = some d ∧ Rep G ad S v d
  | _, _, 0, _, .cons h _, e => ⟨_, rfl, by cases e; exact h⟩
  | _, _, i + 1, _, .cons _ r, e => Reps.getV (i := i) r e
theorem Reps.append : ∀ {vs : List V} {ds : List D} {ws : List V} {es : List D}, Reps G ad S vs ds → Reps G ad S ws es → Reps G ad S (vs ++ ws) (ds ++ es)
  | _, _, _, _, .nil, s => s
  | _, _, _, _, .cons h r, s => .cons h (Reps.append r s)
theorem Reps.set : ∀ {vs : List V} {ds : List D} {v : V} {d : D} (i : Nat), Reps G ad S vs ds → Rep G ad S v d → Reps G ad S (vs.set i v) (ds.set i d)
  | _, _, _, _, _, .nil, _ => .nil
  | _, _, _, _, 0, .cons _ r, h => .cons h r
  | _, _, _, _, i + 1, .cons h r, k => .cons h (Reps.set i r k)
theorem Reps.take : ∀ {vs : List V} {ds : List D} (n : Nat), Reps G ad S vs ds → Reps G ad S (vs.take n) (ds.take n)
  | _, _, 0, _ => .nil
  | _, _, _ + 1, .nil => .nil
  | _, _, n + 1, .cons h r => .cons h (Reps.take n r)
theorem Reps.drop : ∀ {vs : List V} {ds : List D} (n : Nat), Reps G ad S vs ds → Reps G ad S (vs.drop n) (ds.drop n)
  | _, _, 0, r => r
  | _, _, _ + 1, .nil => .nil
  | _, _, n + 1, .cons _ r => Reps.drop n r
theorem RepF.look : ∀ {vs : List (Str × V)} {ds : List (Str × D)} {f : Str} {d : D}, RepF G ad S vs ds → ds.lookup f = some d → ∃ v, vs.lookup f = some v ∧ Rep G ad S v d
  | _, _, f, d, .cons (f := g) (v := v) (d := d') h r, e => by
    rw [List.lookup_cons] at e ⊢
    split at e
    · cases e; exact ⟨_, rfl, h⟩
    · exact RepF.look r e
theorem RepF.none : ∀ {vs : List (Str × V)} {ds : List (Str × D)} {f : Str}, RepF G ad S vs ds → ds.lookup f = Option.none → vs.lookup f = Option.none
  | _, _, f, .nil, e => rfl
  | _, _, f, .cons (f := g) (v := v) (d := d') h r, e => by
    rw [List.lookup_cons] at e ⊢
    split at e
    · cases e
    · exact RepF.none r e
end

/-! ### what runs: data, the cells, the errors -/
structure Ex where
  c : Nat
  fs : Option (List (Str × D))
inductive Res (α : Type) where
  | ok (a : α) (st : List D)
  | err (x : Ex) (st : List D)
  | bad
abbrev M (α : Type) := List D → Res α
def Res.bind {α β : Type} (r : Res α) (f : α → M β) : Res β := match r with
  | .ok a st => f a st
  | .err x st => .err x st
  | .bad => .bad
abbrev Env' := List (Option D)
/-- an expression, an argument list, a test -/
abbrev ME := Env' → M D
abbrev MA := Env' → M (List D)
abbrev MT := Env' → M Bool
inductive Fl0 where
  | nx (e : Env') | rt (d : D) | bk (e : Env') | ct (e : Env')


def RepX (G : Glb) (ad : List Addr) (S : Hp) (cls : Value) (d : Option Addr) (x : Ex) : Prop :=
  cls = .ref (G.cl x.c) ∧ match x.fs with
    | none => d = none
    | some fs => ∃ a vs, d = some a ∧ S a = some (.xd vs) ∧ RepF G ad S vs fs
theorem RepX.mono {G : Glb} {ad : List Addr} {S S' : Hp} {cls : Value} {d : Option Addr} {x : Ex} (e : Same S S') (h : RepX G ad S cls d x) : RepX G ad S' cls d x := by
  obtain ⟨c, fs⟩ := x
  cases fs with
  | none => exact h
  | some fs =>
    obtain ⟨h1, a, vs, h2, h3, h4⟩ := h
    exact ⟨h1, a, vs, h2, e _ _ h3, h4.mono e⟩

/-- a table's facts stay where all but lists stay -/
def TabO (o : HO) : Prop := (∃ ps, o = .tbl ps) ∨ ∃ c q, o = LamX.CodeO c q
theorem TabO.lst {vs : List V} (h : TabO (.lst vs)) : False := by
  rcases h with ⟨_, z⟩ | ⟨_, _, z⟩
  · cases z
  · unfold LamX.CodeO at z; cases z
theorem TabO.ins {C : Addr} {dx : Addr} {fs : List (Str × V)} (h : TabO (.ins C dx fs)) : False := by
  rcases h with ⟨_, z⟩ | ⟨_, _, z⟩
  · cases z
  · unfold LamX.CodeO at z; cases z
theorem tab_keep {H H' : Hp} {P : Addr} {q : Str} (t : LamX.TabS H P q) (e : ∀ b o, H b = some o → TabO o → H' b = some o) : LamX.TabS H' P q := by
  obtain ⟨ps, h1, h2, h3⟩ := t
  refine ⟨ps, e _ _ h1 (.inl ⟨_, rfl⟩), h2, fun pos cv hc => ?_⟩
  obtain ⟨c, e1, e2⟩ := h3 pos cv hc
  exact ⟨c, e1, e _ _ e2 (.inr ⟨_, _, rfl⟩)⟩
/-- the tables: each a table, none of the still part -/
def TabN (G : Glb) (S H : Hp) : Prop := ∀ p ∈ G.tb, LamX.TabS H p.1 p.2 ∧ S p.1 = none
theorem TabN.keep {G : Glb} {S H H' : Hp} (t : TabN G S H) (e : ∀ b o, H b = some o → TabO o → H' b = some o) : TabN G S H' := fun p hp => ⟨tab_keep (t p hp).1 e, (t p hp).2⟩
theorem TabN.known {G : Glb} {S S' H : Hp} (t : TabN G S H) (e : ∀ a, (∃ ps, H a = some (.tbl ps)) → S a = none → S' a = none) : TabN G S' H := fun p hp => ⟨(t p hp).1, e p.1 (let ⟨ps, h, _⟩ := (t p hp).1; ⟨ps, h⟩) (t p hp).2⟩
theorem TabN.new {G : Glb} {S H : Hp} {p : Addr} {o : HO} (t : TabN G S H) (hp : H p = none) : TabN G (upd S p o) (upd H p o) := fun q hq => by
  obtain ⟨⟨ps, h, h2⟩, h3⟩ := t q hq
  have ne : q.1 ≠ p := ne_of_none h hp
  exact ⟨tab_keep ⟨ps, h, h2⟩ fun b u hb _ => by rw [upd_ne (ne_of_none hb hp)]; exact hb, by rw [upd_ne ne]; exact h3⟩
/-- the cells that may change: each a list -/
structure StoOk (G : Glb) (ad : List Addr) (S : Hp) (st : List D) (H : Hp) : Prop where
  len : ad.length = st.length
  nd : ad.Nodup
  at_ : ∀ (n : Nat) (a : Addr), ad[n]? = some a → S a = none ∧ ∃ (ds : List D) (vs : List V), st[n]? = some (D.lst ds) ∧ H a = some (HO.lst vs) ∧ Reps G ad S vs ds
  tab : TabN G S H
theorem StoOk.has {G : Glb} {ad : List Addr} {S : Hp} {st : List D} {H : Hp} (s : StoOk G ad S st H) {a : Addr} (h : a ∈ ad) : S a = none ∧ ∃ vs : List V, H a = some (HO.lst vs) := by
  obtain ⟨n, hn, e⟩ := List.mem_iff_getElem.mp h
  obtain ⟨h1, ds, vs, _, h2, _⟩ := s.at_ n a (by rw [List.getElem?_eq_getElem hn, e])
  exact ⟨h1, vs, h2⟩

/-- an object stays; a table may be written on -/
def KeepO (H' : Hp) (a : Addr) (o : HO) : Prop := ∃ o', H' a = some o' ∧ (o' = o ∨ ∃ ps qs, o = .tbl ps ∧ o' = .tbl qs)
theorem KeepO.refl {H' : Hp} {a : Addr} {o : HO} (h : H' a = some o) : KeepO H' a o := ⟨o, h, .inl rfl⟩
theorem KeepO.of {H' : Hp} {a : Addr} {o : HO} (h : KeepO H' a o) (n : ∀ ps, o ≠ .tbl ps) : H' a = some o := by
  obtain ⟨o', h1, h2 | ⟨ps, _, h2, _⟩⟩ := h
  · rw [h1, h2]
  · exact absurd h2 (n ps)
theorem KeepO.lst {H' : Hp} {a : Addr} {xs : List V} (h : KeepO H' a (.lst xs)) : H' a = some (.lst xs) := h.of fun _ z => by cases z
theorem KeepO.trans {H1 H2 : Hp} {a : Addr} {o : HO} (h : KeepO H1 a o) (k : ∀ o', H1 a = some o' → KeepO H2 a o') : KeepO H2 a o := by
  obtain ⟨o1, h1, h2⟩ := h
  obtain ⟨o2, k1, k2⟩ := k o1 h1
  refine ⟨o2, k1, ?_⟩
  rcases h2 with rfl | ⟨ps, qs, e1, e2⟩
  · exact k2
  · rcases k2 with rfl | ⟨ps', qs', e3, e4⟩
    · exact .inr ⟨ps, qs, e1, e2⟩
    · exact .inr ⟨ps, qs', e1, e4⟩
theorem KeepO.map {H1 H2 : Hp} {a : Addr} {o : HO} (h : KeepO H1 a o) (k : ∀ o', H1 a = some o' → H2 a = some o') : KeepO H2 a o := h.trans fun o' e => .refl (k o' e)
theorem KeepO.no {H' : Hp} {a : Addr} {o : HO} (h : KeepO H' a o) (n : H' a = none) : False := by
  obtain ⟨_, h1, _⟩ := h
  rw [n] at h1; cases h1
/-- from one heap to the next: the still part grows by new objects alone, all but the cells is as it was -/
structure Ext (ad : List Addr) (S H S' H' : Hp) : Prop where
  same : Same S S'
  new : ∀ a o, S' a = some o → S a = some o ∨ H a = none
  keep : ∀ a o, H a = some o → a ∉ ad → KeepO H' a o
theorem Ext.refl (ad : List Addr) (S H : Hp) : Ext ad S H S H := ⟨Same.refl _, fun _ _ h => .inl h, fun _ _ h _ => .refl h⟩
theorem Ext.trans {G : Glb} {ad : List Addr} {S H S1 H1 S2 H2 : Hp} {st : List D} (a : Ext ad S H S1 H1) (s : StoOk G ad S1 st H1) (b : Ext ad S1 H1 S2 H2) : Ext ad S H S2 H2 := by
  refine ⟨a.same.trans b.same, fun c o h => ?_, fun c o h hc => (a.keep c o h hc).trans fun o' h' => b.keep c o' h' hc⟩
  rcases b.new c o h with h1 | h1
  · exact a.new c o h1
  · by_cases hc : c ∈ ad
    · obtain ⟨_, vs, hv⟩ := s.has hc
      rw [h1] at hv; cases hv
    · cases e : H c with
      | none => exact .inr rfl
      | some u => exact ((a.keep c u e hc).no h1).elim

/-- an activation: the still part and the heap at its entry, the cells -/
structure Act where
  S : Hp
  H : Hp
  ad : List Addr

/-- a caught error as an object: without fields of its own, with such (behind a mark) -/
def exObj (x : Ex) : D := match x.fs with
  | none => .obj x.c []
  | some fs => .obj x.c (("", .non) :: fs)
/-- the slots that own a list; the slot of a caught error, the error's object, its class, its dict -/
structure Ow where
  own : List Nat := []
  exi : Option Nat := none
  exv : Addr × Value × Option Addr := (0, .none, none)
  slf : Option Nat := none
  slv : Addr × Addr := (0, 0)
def Ow.has (O : Ow) (i : Nat) : Bool := O.own.elem i || O.exi == some i || O.slf == some i
/-- the object that is being made: it and its dict are nobody else's -/
def SelfAt (G : Glb) (b : Act) (p : Addr × Addr) (S H : Hp) (o : Option (Option D)) (u : Option (Option V)) : Prop :=
  ∃ (c : Nat) (vs : List (Str × V)) (fs : List (Str × D)), o = some (some (.obj c fs)) ∧ u = some (some (.ref p.1)) ∧ H p.1 = some (.ins (G.cl c) p.2 vs) ∧ H p.2 = some (.own p.1) ∧
    S p.1 = none ∧ S p.2 = none ∧ b.H p.1 = none ∧ b.H p.2 = none ∧ p.1 ∉ b.ad ∧ p.2 ∉ b.ad ∧ RepF G b.ad S vs fs

structure DI (G : Glb) (b : Act) (O : Ow) (S : Hp) (env : Env') (st : List D) (σ : L2.St) (H : Hp) : Prop where
  len : σ.length = env.length
  sub : Same S H
  s0 : Same b.S S
  new : ∀ a o, S a = some o → b.S a = some o ∨ b.H a = none
  keep : ∀ a o, b.H a = some o → a ∉ b.ad → KeepO H a o
  slot : ∀ (i : Nat) (d : D), env[i]? = some (some d) → O.has i = false → ∃ v, σ[i]? = some (some v) ∧ Rep G b.ad S v d
  own : ∀ (i : Nat) (d : D), i ∈ O.own → env[i]? = some (some d) → ∃ (a : Addr) (vs : List V) (ds : List D), d = D.lst ds ∧ σ[i]? = some (some (V.ref a)) ∧ H a = some (HO.lst vs) ∧ S a = none ∧ b.H a = none ∧ a ∉ b.ad ∧ Reps G b.ad S vs ds
  dist : ∀ (i j : Nat) (a : Addr), i ∈ O.own → j ∈ O.own → (∃ d : D, env[i]? = some (some d)) → (∃ d : D, env[j]? = some (some d)) → σ[i]? = some (some (V.ref a)) → σ[j]? = some (some (V.ref a)) → i = j
  sto : StoOk G b.ad S st H
  exc : ∀ (i : Nat) (d : D), O.exi = some i → env[i]? = some (some d) → ∃ x, d = exObj x ∧ σ[i]? = some (some (V.ref O.exv.1)) ∧ RepX G b.ad S O.exv.2.1 O.exv.2.2 x
  self_ : ∀ i : Nat, O.slf = some i → SelfAt G b O.slv S H env[i]? σ[i]?

/-- behind an expression: the frame as it was -/
theorem DI.ext {G : Glb} {b : Act} {O : Ow} {S : Hp} {env : Env'} {st st' : List D} {σ : L2.St} {H S' H' : Hp} (I : DI G b O S env st σ H) (x : Ext b.ad S H S' H') (su : Same S' H') (s : StoOk G b.ad S' st' H') : DI G b O S' env st' σ H' := by
  have hn : ∀ a o, S' a = some o → S a = some o ∨ (b.H a = none ∧ H a = none) := fun a o h => by
    rcases x.new a o h with h1 | h1
    · exact .inl h1
    · refine .inr ⟨?_, h1⟩
      cases e : b.H a with
      | none => rfl
      | some u =>
        by_cases ha : a ∈ b.ad
        · obtain ⟨_, vs, hv⟩ := I.sto.has ha
          rw [h1] at hv; cases hv
        · exact ((I.keep a u e ha).no h1).elim
  have nad : ∀ a, S a = none → (∃ vs : List V, H a = some (HO.lst vs)) → S' a = none := fun a h1 ⟨vs, h2⟩ => by
    cases e : S' a with
    | none => rfl
    | some o =>
      rcases hn a o e with q | ⟨_, q⟩
      · rw [h1] at q; cases q
      · rw [h2] at q; cases q
  have nad2 : ∀ a o, S a = none → H a = some o → S' a = none := fun a o h1 h2 => by
    cases e : S' a with
    | none => rfl
    | some o' =>
      rcases hn a o' e with q | ⟨_, q⟩
      · rw [h1] at q; cases q
      · rw [h2] at q; cases q
  refine ⟨I.len, su, I.s0.trans x.same, fun a o h => ?_, fun a o h ha => (I.keep a o h ha).trans fun o' h' => x.keep a o' h' ha, fun i d h ho => ?_, fun i d hi h => ?_, I.dist, s, fun i d hi h => ?_, fun i hi => ?_⟩
  · rcases hn a o h with q | ⟨q, _⟩
    · exact I.new a o q
    · exact .inr q
  · obtain ⟨v, h1, h2⟩ := I.slot i d h ho
    exact ⟨v, h1, h2.mono x.same⟩
  · obtain ⟨a, vs, ds, h1, h2, h3, h4, h5, ha, h6⟩ := I.own i d hi h
    exact ⟨a, vs, ds, h1, h2, (x.keep a _ h3 ha).lst, nad a h4 ⟨vs, h3⟩, h5, ha, h6.mono x.same⟩
  · obtain ⟨y, h1, h2, h3⟩ := I.exc i d hi h
    exact ⟨y, h1, h2, h3.mono x.same⟩
  · obtain ⟨c, vs, fs, h1, h2, h3, h4, h5, h6, h7, h8, h9, h10, h11⟩ := I.self_ i hi
    exact ⟨c, vs, fs, h1, h2, (x.keep _ _ h3 h9).of (fun _ z => by cases z), (x.keep _ _ h4 h10).of (fun _ z => by cases z), nad2 _ _ h5 h3, nad2 _ _ h6 h4, h7, h8, h9, h10, h11.mono x.same⟩

/-! ### what is wanted behind a part -/
def wpR {α : Type} (r : Res α) (ok : α → List D → Prop) (err : Ex → List D → Prop) : Prop := match r with
  | .ok a st => ok a st
  | .err x st => err x st
  | .bad => False
theorem wpR_bind {α β : Type} {r : Res α} {f : α → M β} {ok : β → List D → Prop} {err : Ex → List D → Prop} (h : wpR (r.bind f) ok err) : wpR r (fun a st => wpR (f a st) ok err) err := by
  cases r <;> exact h
theorem wpR_imp {α : Type} {r : Res α} {ok ok' : α → List D → Prop} {err err' : Ex → List D → Prop} (h : wpR r ok err) (h1 : ∀ a st, ok a st → ok' a st) (h2 : ∀ x st, err x st → err' x st) : wpR r ok' err' := by
  cases r with
  | ok a st => exact h1 _ _ h
  | err x st => exact h2 _ _ h
  | bad => exact h

def Post (G : Glb) (ad : List Addr) (S H : Hp) (d : D) (st : List D) (Q : VK) : Prop := ∀ v S' H', Ext ad S H S' H' → Same S' H' → StoOk G ad S' st H' → Rep G ad S' v d → Q v H'
def PostA (G : Glb) (ad : List Addr) (S H : Hp) (ds : List D) (st : List D) (Q : List V → Hp → Prop) : Prop := ∀ vs S' H', Ext ad S H S' H' → Same S' H' → StoOk G ad S' st H' → Reps G ad S' vs ds → Q vs H'
def PostB (G : Glb) (ad : List Addr) (S H : Hp) (k : Bool) (st : List D) (Q : Bool → Hp → Prop) : Prop := ∀ S' H', Ext ad S H S' H' → Same S' H' → StoOk G ad S' st H' → Q k H'
def PostX (G : Glb) (ad : List Addr) (S H : Hp) (x : Ex) (st : List D) (R : Value → Option Addr → Hp → Prop) : Prop := ∀ cls dd S' H', Ext ad S H S' H' → Same S' H' → StoOk G ad S' st H' → RepX G ad S' cls dd x → R cls dd H'
section
variable {G : Glb} {ad : List Addr} {S H S1 H1 : Hp} {st st1 : List D}
theorem Post.from_ {d : D} {Q : VK} (x : Ext ad S H S1 H1) (s : StoOk G ad S1 st1 H1) (h : Post G ad S H d st Q) : Post G ad S1 H1 d st Q := fun v S' H' x' => h v S' H' (x.trans s x')
theorem PostA.from_ {ds : List D} {Q : List V → Hp → Prop} (x : Ext ad S H S1 H1) (s : StoOk G ad S1 st1 H1) (h : PostA G ad S H ds st Q) : PostA G ad S1 H1 ds st Q := fun v S' H' x' => h v S' H' (x.trans s x')
theorem PostB.from_ {k : Bool} {Q : Bool → Hp → Prop} (x : Ext ad S H S1 H1) (s : StoOk G ad S1 st1 H1) (h : PostB G ad S H k st Q) : PostB G ad S1 H1 k st Q := fun S' H' x' => h S' H' (x.trans s x')
theorem PostX.from_ {e : Ex} {R : Value → Option Addr → Hp → Prop} (x : Ext ad S H S1 H1) (s : StoOk G ad S1 st1 H1) (h : PostX G ad S H e st R) : PostX G ad S1 H1 e st R := fun c dd S' H' x' => h c dd S' H' (x.trans s x')
end

/-! ### judgements -/
structure DE (G : Glb) (X : Cx) (W : WX) (O : Ow) (e : Expr) (m : ME) : Prop where
  ex : ∃ t, PE X e t ∧ ∀ (b : Act) S env st σ H Q, DI G b O S env st σ H → wpR (m env st) (fun d st' => Post G b.ad S H d st' Q) (fun x st' => PostX G b.ad S H x st' fun c dd H' => W c dd σ H') → t σ H Q
structure DT (G : Glb) (X : Cx) (W : WX) (O : Ow) (e : Expr) (m : MT) : Prop where
  ex : ∃ t, PT X e t ∧ ∀ (b : Act) S env st σ H Q, DI G b O S env st σ H → wpR (m env st) (fun k st' => PostB G b.ad S H k st' Q) (fun x st' => PostX G b.ad S H x st' fun c dd H' => W c dd σ H') → t σ H Q
structure DW (G : Glb) (X : Cx) (W : WX) (O : Ow) (e : Expr) (m : MT) : Prop where
  ex : ∃ t, PW X e t ∧ ∀ (b : Act) S env st σ H Q, DI G b O S env st σ H → wpR (m env st) (fun k st' => PostB G b.ad S H k st' Q) (fun x st' => PostX G b.ad S H x st' fun c dd H' => W c dd σ H') → t σ H Q
structure DA (G : Glb) (X : Cx) (W : WX) (O : Ow) (es : List Expr) (m : MA) : Prop where
  ex : ∃ t, PA X es t ∧ ∀ (b : Act) S env st σ H Q, DI G b O S env st σ H → wpR (m env st) (fun ds st' => PostA G b.ad S H ds st' Q) (fun x st' => PostX G b.ad S H x st' fun c dd H' => W c dd σ H') → t σ H Q

/-- how a block ends -/
inductive Out where
  | nx (env : Env') (st : List D)
  | rt (d : D) (st : List D)
  | bk (env : Env') (st : List D)
  | ct (env : Env') (st : List D)
  | er (x : Ex) (env : Env') (st : List D)
  | bad
abbrev MS := Env' → List D → Out
/-- Ob: what is owned where the loop is left or turned; OE: what may be owned where an error flies -/
def PostS (G : Glb) (b : Act) (Ob : Ow) (OE : Ow → Prop) (W : WX) (O : Ow) (D : Ends) (S : Hp) : Out → Prop
  | .nx env st => ∀ S' σ H, Same S S' → DI G b O S' env st σ H → D.nx σ H
  | .rt d st => ∀ v S' H, Ext b.ad b.S b.H S' H → Same S' H → StoOk G b.ad S' st H → Rep G b.ad S' v d → D.rt v H
  | .bk env st => ∀ S' σ H, Same S S' → DI G b Ob S' env st σ H → D.bk σ H
  | .ct env st => ∀ S' σ H, Same S S' → DI G b Ob S' env st σ H → D.ct σ H
  | .er x env st => ∀ cls dd O' S' σ H, OE O' → Same S S' → DI G b O' S' env st σ H → RepX G b.ad S' cls dd x → W cls dd σ H
  | .bad => False
theorem PostS.from_ {G : Glb} {b : Act} {Ob : Ow} {OE : Ow → Prop} {W : WX} {O : Ow} {D : Ends} {S S1 : Hp} {o : Out} (e : Same S S1) (h : PostS G b Ob OE W O D S o) : PostS G b Ob OE W O D S1 o := by
  cases o with
  | nx env st => exact fun S' σ H x => h S' σ H (e.trans x)
  | rt d st => exact h
  | bk env st => exact fun S' σ H x => h S' σ H (e.trans x)
  | ct env st => exact fun S' σ H x => h S' σ H (e.trans x)
  | er x env st => exact fun cls dd O' S' σ H q x => h cls dd O' S' σ H q (e.trans x)
  | bad => exact h
structure DS (G : Glb) (X : Cx) (W : WX) (Ob : Ow) (OE : Ow → Prop) (O : Ow) (s : Stmt) (O' : Ow) (m : MS) : Prop where
  ex : ∃ t, PS X s t ∧ ∀ (b : Act) S env st σ H D, DI G b O S env st σ H → PostS G b Ob OE W O' D S (m env st) → t D σ H
structure DSs (G : Glb) (X : Cx) (W : WX) (Ob : Ow) (OE : Ow → Prop) (O : Ow) (s : List Stmt) (O' : Ow) (m : MS) : Prop where
  ex : ∃ t, PSs X s t ∧ ∀ (b : Act) S env st σ H D, DI G b O S env st σ H → PostS G b Ob OE W O' D S (m env st) → t D σ H

/-- what an activation has made so far -/
theorem DI.fin {G : Glb} {b : Act} {O : Ow} {S : Hp} {env : Env'} {st : List D} {σ : L2.St} {H : Hp} (I : DI G b O S env st σ H) : Ext b.ad b.S b.H S H := ⟨I.s0, I.new, I.keep⟩
/-- where an activation begins -/
theorem DI.start {G : Glb} {b : Act} {n : Nat} {vs : List V} {ds : List D} {st : List D} (hs : Same b.S b.H) (so : StoOk G b.ad b.S st b.H) (r : Reps G b.ad b.S vs ds) :
    DI G b {} b.S (ds.map some ++ List.replicate n none) st (vs.map some ++ List.replicate n none) b.H := by
  refine ⟨by simp [r.len], hs, Same.refl _, fun _ _ h => .inl h, fun _ _ h _ => .refl h, fun i d h _ => ?_, fun i d hi => by simp at hi, fun i j a hi => by simp at hi, so, fun i d hi => (by cases hi), fun i hi => (by cases hi)⟩
  by_cases hi : i < ds.length
  · rw [List.getElem?_append_left (by simpa using hi), List.getElem?_map] at h
    cases e : ds[i]? with
    | none => rw [e] at h; cases h
    | some d' =>
      rw [e] at h
      have e2 : d' = d := by simpa using h
      subst e2
      obtain ⟨v, h1, h2⟩ := r.get e
      refine ⟨v, ?_, h2⟩
      rw [List.getElem?_append_left (by simpa [r.len] using hi), List.getElem?_map, h1]
      rfl
  · rw [List.getElem?_append_right (by simpa using Nat.le_of_not_lt hi)] at h
    rw [List.getElem?_replicate] at h
    split at h <;> cases h
end DL

/-! DL, second part: expressions. -/
namespace DL
open PySem PySem.Spec PyProof.Rows L2

section
variable {G : Glb} {ad : List Addr} {S H : Hp} {st : List D}
/-- a new object, still from now on -/
theorem new_still {p : Addr} {o : HO} (su : Same S H) (so : StoOk G ad S st H) (hp : H p = none) :
    Ext ad S H (upd S p o) (upd H p o) ∧ Same (upd S p o) (upd H p o) ∧ StoOk G ad (upd S p o) st (upd H p o) := by
  have hs : S p = none := su.free hp
  have e : Same S (upd S p o) := fun b u h => by
    rw [upd_ne (ne_of_none h hs)]; exact h
  refine ⟨⟨e, fun b u h => ?_, fun b u h _ => ?_⟩, fun b u h => ?_, so.len, so.nd, fun n a hn => ?_, so.tab.new hp⟩
  · by_cases hb : b = p
    · subst hb; exact .inr hp
    · rw [upd_ne hb] at h; exact .inl h
  · exact .refl (by rw [upd_ne (ne_of_none h hp)]; exact h)
  · by_cases hb : b = p
    · subst hb; rw [upd_same] at h ⊢; exact h
    · rw [upd_ne hb] at h ⊢; exact su _ _ h
  · obtain ⟨h1, ds, vs, h2, h3, h4⟩ := so.at_ n a hn
    have ne : a ≠ p := ne_of_none h3 hp
    exact ⟨by rw [upd_ne ne]; exact h1, ds, vs, h2, by rw [upd_ne ne]; exact h3, h4.mono e⟩
theorem Post.here {v : V} {d : D} {Q : VK} (su : Same S H) (so : StoOk G ad S st H) (r : Rep G ad S v d) (h : Post G ad S H d st Q) : Q v H := h v S H (.refl _ _ _) su so r
theorem Post.new {p : Addr} {o : HO} {d : D} {Q : VK} (su : Same S H) (so : StoOk G ad S st H) (hp : H p = none) (r : Rep G ad (upd S p o) (.ref p) d) (h : Post G ad S H d st Q) : Q (.ref p) (upd H p o) := by
  obtain ⟨x, y, z⟩ := new_still (o := o) su so hp
  exact h _ _ _ x y z r
theorem Rep.tupNew {p : Addr} {vs : List V} {ds : List D} (su : Same S H) (hp : H p = none) (r : Reps G ad S vs ds) : Rep G ad (upd S p (.tup vs)) (.ref p) (.tup ds) :=
  .tup (.inl upd_same) (r.mono fun b u h => by rw [upd_ne (ne_of_none h (su.free hp))]; exact h)
theorem Rep.lstNew {p : Addr} {vs : List V} {ds : List D} (su : Same S H) (hp : H p = none) (r : Reps G ad S vs ds) : Rep G ad (upd S p (.lst vs)) (.ref p) (.lst ds) :=
  .lst upd_same (r.mono fun b u h => by rw [upd_ne (ne_of_none h (su.free hp))]; exact h)
theorem Post.tup {p : Addr} {vs : List V} {ds : List D} {Q : VK} (su : Same S H) (so : StoOk G ad S st H) (hp : H p = none) (r : Reps G ad S vs ds) (h : Post G ad S H (.tup ds) st Q) : Q (.ref p) (upd H p (.tup vs)) := h.new su so hp (.tupNew su hp r)
theorem Post.lst {p : Addr} {vs : List V} {ds : List D} {Q : VK} (su : Same S H) (so : StoOk G ad S st H) (hp : H p = none) (r : Reps G ad S vs ds) (h : Post G ad S H (.lst ds) st Q) : Q (.ref p) (upd H p (.lst vs)) := h.new su so hp (.lstNew su hp r)
end

/-! ### operators by data -/
structure OpD (G : Glb) (r : R2) (f : D → D → Option D) : Prop where
  go : ∀ ad S H st x y dx dy d Q, Same S H → StoOk G ad S st H → Rep G ad S x dx → Rep G ad S y dy → f dx dy = some d → Post G ad S H d st Q → r x y H Q
structure UnD (G : Glb) (r : V → Hp → VK → Prop) (f : D → Option D) : Prop where
  go : ∀ ad S H st x dx d Q, Same S H → StoOk G ad S st H → Rep G ad S x dx → f dx = some d → Post G ad S H d st Q → r x H Q
structure CallD (G : Glb) (r : List V → Hp → VK → Prop) (f : List D → Option D) : Prop where
  go : ∀ ad S H st xs ds d Q, Same S H → StoOk G ad S st H → Reps G ad S xs ds → f ds = some d → Post G ad S H d st Q → r xs H Q

def ret? (o : Option D) : M D := fun st => match o with
  | some d => .ok d st
  | none => .bad
def mVar (i : Nat) : ME := fun env st => match env[i]? with
  | some (some d) => .ok d st
  | _ => .bad
def mC (d : D) : ME := fun _ st => .ok d st
def mOp (f : D → D → Option D) (ma mb : ME) : ME := fun env st => (ma env st).bind fun x st1 => (mb env st1).bind fun y => ret? (f x y)
def mUn (f : D → Option D) (ma : ME) : ME := fun env st => (ma env st).bind fun x => ret? (f x)
def mNil : MA := fun _ st => .ok [] st
def mCons (ma : ME) (mr : MA) : MA := fun env st => (ma env st).bind fun x st1 => (mr env st1).bind fun xs st2 => .ok (x :: xs) st2
def mCall1 (f : List D → Option D) (ma : MA) : ME := fun env st => (ma env st).bind fun xs => ret? (f xs)
/-- a value that is a truth -/
def bool? : D → M Bool
  | .bl b => fun st => .ok b st
  | _ => fun _ => .bad
def mTest (ma : ME) : MT := fun env st => (ma env st).bind bool?
def mNot (t : MT) : MT := fun env st => (t env st).bind fun k st1 => .ok (!k) st1
def mAnd (t u : MT) : MT := fun env st => (t env st).bind fun k st1 => if k = true then u env st1 else .ok false st1
def mOr (t u : MT) : MT := fun env st => (t env st).bind fun k st1 => if k = true then .ok true st1 else u env st1
def mNotV (ma : ME) : ME := fun env st => (ma env st).bind fun x st1 => (bool? x st1).bind fun k st2 => .ok (.bl (!k)) st2
def mAndV (ma mb : ME) : ME := fun env st => (ma env st).bind fun x st1 => (bool? x st1).bind fun k st2 => if k = true then mb env st2 else .ok (.bl false) st2
def mOrV (ma mb : ME) : ME := fun env st => (ma env st).bind fun x st1 => (bool? x st1).bind fun k st2 => if k = true then .ok (.bl true) st2 else mb env st2
def mIf (t : MT) (ma mb : ME) : ME := fun env st => (t env st).bind fun k st1 => if k = true then ma env st1 else mb env st1
def tupOk (ds : List D) : M D := fun st => if ds.length ≤ sizeLine then .ok (.tup ds) st else .bad
def lstOk (ds : List D) : M D := fun st => if ds.length ≤ sizeLine then .ok (.lst ds) st else .bad
def mTup (ma : MA) : ME := fun env st => (ma env st).bind tupOk
def mLst (ma : MA) : ME := fun env st => (ma env st).bind lstOk

section
variable {G : Glb} {X : Cx} {W : WX} {O : Ow} {pos : Pos}
theorem de_var (i : Nat) {x : Str} (hN : X.N[i]? = some x := by rfl) (ho : O.has i = false := by rfl) (hv : Vis X.env.scope x := by first | exact Or.inl rfl | exact Or.inr (Or.inl rfl) | exact Or.inr (Or.inr rfl))
    (hd : (x == ("__debug__" : Str)) = false := by decide) (hcd : (x == ("__classdict__" : Str)) = false := by decide) : DE G X W O (.Name x pos) (mVar i) := by
  refine ⟨tVar i, pe_var hN hv hd hcd, fun b S env st σ H Q I h => ?_⟩
  unfold mVar at h
  split at h
  · rename_i d e
    obtain ⟨v, h1, h2⟩ := I.slot i d e ho
    exact ⟨v, h1, Post.here I.sub I.sto h2 h⟩
  · exact h.elim
theorem de_const {e : Expr} {v : V} {d : D} (h : PE X e (tC v)) (r : ∀ ad S, Rep G ad S v d) : DE G X W O e (mC d) :=
  ⟨_, h, fun b S env st σ H Q I q => Post.here I.sub I.sto (r _ _) q⟩
theorem de_int {i : Int} {j} : DE G X W O (.Constant (.int i) j pos) (mC (.int i)) := de_const pe_int fun _ _ => .int i
theorem de_bl {b : Bool} {j} : DE G X W O (.Constant (.bool b) j pos) (mC (.bl b)) := de_const pe_bl fun _ _ => .bl b
theorem de_non {j} : DE G X W O (.Constant .none j pos) (mC .non) := de_const pe_non fun _ _ => .non
theorem de_str {x : Str} {j} : DE G X W O (.Constant (.str x) j pos) (mC (.str x)) := de_const pe_str fun _ _ => .str x
/-- a module's constant, an int or a text -/
theorem de_globI {x : Str} {i : Int} {t : Tok} (hm : X.mg x = some (.int i t)) (hg : Gl X x := by rfl) (hd : (x == ("__debug__" : Str)) = false := by decide) : DE G X W O (.Name x pos) (mC (.int i)) := de_const (v := .int i) (pe_glob hg hm ⟨_, rfl⟩ hd) fun _ _ => .int i
/-- an own class as a value -/
theorem de_globC {x : Str} (c : Nat) (hm : X.mg x = some (.ref (G.cl c))) (hg : Gl X x := by rfl) (hd : (x == ("__debug__" : Str)) = false := by decide) : DE G X W O (.Name x pos) (mC (.cls c)) := de_const (v := .ref (G.cl c)) (pe_glob hg hm rfl hd) fun _ _ => .cls c
/-- a built-in class as a value -/
theorem de_globT {x : Str} (n : String) (hm : X.mg x = none) (hv : bootBuiltins x = some (.type n)) (hg : Gl X x := by rfl) (hn : x ≠ "__name__" := by decide) (hd : (x == ("__debug__" : Str)) = false := by decide) : DE G X W O (.Name x pos) (mC (.ty n)) := de_const (v := .ty n) (pe_bltn hg hm hv rfl hn hd) fun _ _ => .ty n

/-- the two parts of an operator -/
theorem two_parts {a b : Expr} {ma mb : ME} {β : Type} {k : D → D → M β} (ha : DE G X W O a ma) (hb : DE G X W O b mb) : ∃ ta tb, PE X a ta ∧ PE X b tb ∧
    ∀ (b : Act) S env st σ H (ok : β → List D → Prop) (R : V → V → Hp → Prop), DI G b O S env st σ H →
      wpR ((ma env st).bind fun x st1 => (mb env st1).bind fun y => k x y) ok (fun x st' => PostX G b.ad S H x st' fun c dd H' => W c dd σ H') →
      (∀ x y dx dy S' H' st', Ext b.ad S H S' H' → DI G b O S' env st' σ H' → Rep G b.ad S' x dx → Rep G b.ad S' y dy → wpR (k dx dy st') ok (fun x st' => PostX G b.ad S H x st' fun c dd H' => W c dd σ H') → R x y H') →
      ta σ H fun x H1 => tb σ H1 fun y H2 => R x y H2 := by
  obtain ⟨ta, pa, wa⟩ := ha.ex
  obtain ⟨tb, pb, wb⟩ := hb.ex
  refine ⟨ta, tb, pa, pb, fun b S env st σ H ok R I h q => ?_⟩
  refine wa b S env st σ H _ I (wpR_imp (wpR_bind h) (fun dx st1 h1 => ?_) fun _ _ z => z)
  intro x S1 H1 x1 su1 so1 r1
  have I1 := I.ext x1 su1 so1
  refine wb b S1 env st1 σ H1 _ I1 (wpR_imp (wpR_bind h1) (fun dy st2 h2 => ?_) fun _ _ z => z.from_ x1 so1)
  intro y S2 H2 x2 su2 so2 r2
  exact q x y dx dy S2 H2 st2 (x1.trans so1 x2) (I1.ext x2 su2 so2) (r1.mono x2.same) r2 h2

theorem wp_ret {o : Option D} {st : List D} {ok : D → List D → Prop} {er : Ex → List D → Prop} (h : wpR (ret? o st) ok er) : ∃ d, o = some d ∧ ok d st := by
  cases o with
  | none => exact h.elim
  | some d => exact ⟨d, rfl, h⟩
theorem de_op {op : Operator} {a b : Expr} {ma mb : ME} {r : R2} {f : D → D → Option D} (ho : OpR X (binaryOp op) r) (hf : OpD G r f) (ha : DE G X W O a ma) (hb : DE G X W O b mb) : DE G X W O (.BinOp a op b pos) (mOp f ma mb) := by
  obtain ⟨ta, tb, pa, pb, w⟩ := two_parts (k := fun x y => ret? (f x y)) ha hb
  refine ⟨_, pe_op ho pa pb, fun b S env st σ H Q I h => w b S env st σ H _ (fun x y H2 => r x y H2 Q) I h fun x y dx dy S' H' st' e I' rx ry hk => ?_⟩
  obtain ⟨d, e1, q⟩ := wp_ret hk
  exact hf.go b.ad S' H' st' x y dx dy d Q I'.sub I'.sto rx ry e1 (Post.from_ e I'.sto q)
theorem de_cmp {op : CmpOp} {a b : Expr} {ma mb : ME} {r : R2} {f : D → D → Option D} (ho : OpR X (compareOp op) r) (hf : OpD G r f) (ha : DE G X W O a ma) (hb : DE G X W O b mb) (hm : behindInMarks op b = false := by first | exact nomark _ | rfl) : DE G X W O (.Compare a [op] [b] pos) (mOp f ma mb) := by
  obtain ⟨ta, tb, pa, pb, w⟩ := two_parts (k := fun x y => ret? (f x y)) ha hb
  refine ⟨_, pe_cmpR ho pa pb hm, fun b S env st σ H Q I h => w b S env st σ H _ (fun x y H2 => r x y H2 Q) I h fun x y dx dy S' H' st' e I' rx ry hk => ?_⟩
  obtain ⟨d, e1, q⟩ := wp_ret hk
  exact hf.go b.ad S' H' st' x y dx dy d Q I'.sub I'.sto rx ry e1 (Post.from_ e I'.sto q)
theorem de_un {op : UnaryOp} {a : Expr} {ma : ME} {r : V → Hp → VK → Prop} {f : D → Option D} (ho : UnR X (unaryOp op) r) (hf : UnD G r f) (ha : DE G X W O a ma) : DE G X W O (.UnaryOp op a pos) (mUn f ma) := by
  obtain ⟨ta, pa, wa⟩ := ha.ex
  refine ⟨_, pe_un ho pa, fun b S env st σ H Q I h => wa b S env st σ H _ I (wpR_imp (wpR_bind h) (fun dx st1 h1 => ?_) fun _ _ z => z)⟩
  intro x S1 H1 x1 su1 so1 r1
  obtain ⟨d, e1, q⟩ := wp_ret h1
  exact hf.go b.ad S1 H1 st1 x dx d Q su1 so1 r1 e1 (Post.from_ x1 so1 q)
/-- an expression as a test -/
theorem dt_val {e : Expr} {m : ME} (h : DE G X W O e m) (he : ∀ whole, isTrue e X.env whole = (do let v ← whole; standAt e.pos; holding [v] (truthy v)) := by intro _; rfl) : DT G X W O e (mTest m) := by
  obtain ⟨t, p, w⟩ := h.ex
  refine ⟨_, pt_val p he, fun b S env st σ H Q I h => w b S env st σ H _ I (wpR_imp (wpR_bind h) (fun dx st1 h1 => ?_) fun _ _ z => z)⟩
  intro x S1 H1 x1 su1 so1 r1
  cases r1 <;> first | exact h1.elim | exact ⟨_, rfl, h1 _ _ x1 su1 so1⟩
theorem dt_cmp {op : CmpOp} {a b : Expr} {ma mb : ME} {r : R2} {f : D → D → Option D} (ho : OpR X (compareOp op) r) (hf : OpD G r f) (ha : DE G X W O a ma) (hb : DE G X W O b mb) (hm : behindInMarks op b = false := by first | exact nomark _ | rfl) : DT G X W O (.Compare a [op] [b] pos) (mTest (mOp f ma mb)) := by
  obtain ⟨ta, pa, wa⟩ := ha.ex
  obtain ⟨tb, pb, wb⟩ := hb.ex
  refine ⟨_, pt_cmpR ho pa pb hm, fun b S env st σ H Q I h => ?_⟩
  have w := (de_cmp (pos := pos) (W := W) ho hf ha hb hm).ex
  have h' := wpR_bind h
  refine wa b S env st σ H _ I (wpR_imp (wpR_bind h') (fun dx st1 h1 => ?_) fun _ _ z => z)
  intro x S1 H1 x1 su1 so1 r1
  have I1 := I.ext x1 su1 so1
  refine wb b S1 env st1 σ H1 _ I1 (wpR_imp (wpR_bind h1) (fun dy st2 h2 => ?_) fun _ _ z => z.from_ x1 so1)
  intro y S2 H2 x2 su2 so2 r2
  obtain ⟨d, e1, q⟩ := wp_ret h2
  refine hf.go b.ad S2 H2 st2 x y dx dy d _ su2 so2 (r1.mono x2.same) r2 e1 fun v S3 H3 x3 su3 so3 r3 => ?_
  cases r3 <;> first | exact q.elim | exact ⟨_, rfl, q _ _ ((x1.trans so1 x2).trans so2 x3) su3 so3⟩

/-! ### and, or, not, if -/
theorem DW.dt {e : Expr} {m : MT} (h : DW G X W O e m) : DT G X W O e m := let ⟨t, p, w⟩ := h.ex; ⟨t, p.pt, w⟩
variable {a b : Expr} {rest : List Expr} {ma mb : ME} {t u : MT}
theorem dw_and1 (ha : DT G X W O a t) : DW G X W O (.BoolOp .And [a] pos) t := let ⟨t, p, w⟩ := ha.ex; ⟨t, pw_and1 p, w⟩
theorem dw_or1 (ha : DT G X W O a t) : DW G X W O (.BoolOp .Or [a] pos) t := let ⟨t, p, w⟩ := ha.ex; ⟨t, pw_or1 p, w⟩
theorem dw_and (ha : DT G X W O a t) (hb : DW G X W O (.BoolOp .And (b :: rest) pos) u) : DW G X W O (.BoolOp .And (a :: b :: rest) pos) (mAnd t u) := by
  obtain ⟨ta, pa, wa⟩ := ha.ex
  obtain ⟨tb, pb, wb⟩ := hb.ex
  refine ⟨_, pw_and pa pb, fun b S env st σ H Q I h => wa b S env st σ H _ I (wpR_imp (wpR_bind h) (fun k st1 h1 => ?_) fun _ _ z => z)⟩
  intro S1 H1 x1 su1 so1
  cases k with
  | true => exact wb b S1 env st1 σ H1 Q (I.ext x1 su1 so1) (wpR_imp h1 (fun _ _ z => z.from_ x1 so1) fun _ _ z => z.from_ x1 so1)
  | false => exact h1 _ _ x1 su1 so1
theorem dw_or (ha : DT G X W O a t) (hb : DW G X W O (.BoolOp .Or (b :: rest) pos) u) : DW G X W O (.BoolOp .Or (a :: b :: rest) pos) (mOr t u) := by
  obtain ⟨ta, pa, wa⟩ := ha.ex
  obtain ⟨tb, pb, wb⟩ := hb.ex
  refine ⟨_, pw_or pa pb, fun b S env st σ H Q I h => wa b S env st σ H _ I (wpR_imp (wpR_bind h) (fun k st1 h1 => ?_) fun _ _ z => z)⟩
  intro S1 H1 x1 su1 so1
  cases k with
  | false => exact wb b S1 env st1 σ H1 Q (I.ext x1 su1 so1) (wpR_imp h1 (fun _ _ z => z.from_ x1 so1) fun _ _ z => z.from_ x1 so1)
  | true => exact h1 _ _ x1 su1 so1
theorem dt_not (ha : DT G X W O a t) : DT G X W O (.UnaryOp .Not a pos) (mNot t) := by
  obtain ⟨ta, pa, wa⟩ := ha.ex
  refine ⟨_, pt_not pa, fun b S env st σ H Q I h => wa b S env st σ H _ I (wpR_imp (wpR_bind h) (fun k st1 h1 => ?_) fun _ _ z => z)⟩
  exact h1
theorem de_one {op} (h : DE G X W O a ma) : DE G X W O (.BoolOp op [a] pos) ma := let ⟨t, p, w⟩ := h.ex; ⟨t, pe_one p, w⟩
theorem bool_of {x : V} {dx : D} {ad : List Addr} {S : Hp} {st : List D} {β : Type} {k : Bool → M β} {ok : β → List D → Prop} {er : Ex → List D → Prop} (r : Rep G ad S x dx) (h : wpR ((bool? dx st).bind k) ok er) : ∃ c, x = .bl c ∧ dx = .bl c ∧ wpR (k c st) ok er := by
  cases r <;> first | exact h.elim | exact ⟨_, rfl, rfl, h⟩
theorem de_and (ha : DE G X W O a ma) (hb : DE G X W O (.BoolOp .And (b :: rest) pos) mb) : DE G X W O (.BoolOp .And (a :: b :: rest) pos) (mAndV ma mb) := by
  obtain ⟨ta, pa, wa⟩ := ha.ex
  obtain ⟨tb, pb, wb⟩ := hb.ex
  refine ⟨_, pe_and pa pb, fun b S env st σ H Q I h => wa b S env st σ H _ I (wpR_imp (wpR_bind h) (fun dx st1 h1 => ?_) fun _ _ z => z)⟩
  intro x S1 H1 x1 su1 so1 r1
  obtain ⟨c, e, e2, h2⟩ := bool_of r1 h1
  refine ⟨c, e, ?_⟩
  cases c with
  | true => exact wb b S1 env st1 σ H1 Q (I.ext x1 su1 so1) (wpR_imp h2 (fun _ _ z => z.from_ x1 so1) fun _ _ z => z.from_ x1 so1)
  | false => exact h2 _ _ _ x1 su1 so1 (.bl false)
theorem de_or (ha : DE G X W O a ma) (hb : DE G X W O (.BoolOp .Or (b :: rest) pos) mb) : DE G X W O (.BoolOp .Or (a :: b :: rest) pos) (mOrV ma mb) := by
  obtain ⟨ta, pa, wa⟩ := ha.ex
  obtain ⟨tb, pb, wb⟩ := hb.ex
  refine ⟨_, pe_or pa pb, fun b S env st σ H Q I h => wa b S env st σ H _ I (wpR_imp (wpR_bind h) (fun dx st1 h1 => ?_) fun _ _ z => z)⟩
  intro x S1 H1 x1 su1 so1 r1
  obtain ⟨c, e, e2, h2⟩ := bool_of r1 h1
  refine ⟨c, e, ?_⟩
  cases c with
  | false => exact wb b S1 env st1 σ H1 Q (I.ext x1 su1 so1) (wpR_imp h2 (fun _ _ z => z.from_ x1 so1) fun _ _ z => z.from_ x1 so1)
  | true => exact h2 _ _ _ x1 su1 so1 (.bl true)
theorem de_not (ha : DE G X W O a ma) : DE G X W O (.UnaryOp .Not a pos) (mNotV ma) := by
  obtain ⟨ta, pa, wa⟩ := ha.ex
  refine ⟨_, pe_not pa, fun b S env st σ H Q I h => wa b S env st σ H _ I (wpR_imp (wpR_bind h) (fun dx st1 h1 => ?_) fun _ _ z => z)⟩
  intro x S1 H1 x1 su1 so1 r1
  obtain ⟨c, e, e2, h2⟩ := bool_of r1 h1
  exact ⟨c, e, h2 _ _ _ x1 su1 so1 (.bl _)⟩
theorem de_if {c : Expr} (hc : DT G X W O c t) (ha : DE G X W O a ma) (hb : DE G X W O b mb) : DE G X W O (.IfExp c a b pos) (mIf t ma mb) := by
  obtain ⟨tc, pc, wc⟩ := hc.ex
  obtain ⟨ta, pa, wa⟩ := ha.ex
  obtain ⟨tb, pb, wb⟩ := hb.ex
  refine ⟨_, pe_ifExp pc pa pb, fun b S env st σ H Q I h => wc b S env st σ H _ I (wpR_imp (wpR_bind h) (fun k st1 h1 => ?_) fun _ _ z => z)⟩
  intro S1 H1 x1 su1 so1
  cases k with
  | true => exact wa b S1 env st1 σ H1 Q (I.ext x1 su1 so1) (wpR_imp h1 (fun _ _ z => z.from_ x1 so1) fun _ _ z => z.from_ x1 so1)
  | false => exact wb b S1 env st1 σ H1 Q (I.ext x1 su1 so1) (wpR_imp h1 (fun _ _ z => z.from_ x1 so1) fun _ _ z => z.from_ x1 so1)

/-! ### arguments, displays -/
theorem da_nil : DA G X W O [] mNil := ⟨_, pa_nil, fun b S env st σ H Q I h => h _ _ _ (.refl _ _ _) I.sub I.sto .nil⟩
theorem da_cons {e : Expr} {es : List Expr} {mr : MA} (ha : DE G X W O e ma) (hr : DA G X W O es mr) (hs : starEach (e :: es) X.env = (false, eval e X.env) :: starEach es X.env := by rfl) : DA G X W O (e :: es) (mCons ma mr) := by
  obtain ⟨ta, pa, wa⟩ := ha.ex
  obtain ⟨tb, pb, wb⟩ := hr.ex
  refine ⟨_, pa_cons pa pb hs, fun b S env st σ H Q I h => wa b S env st σ H _ I (wpR_imp (wpR_bind h) (fun dx st1 h1 => ?_) fun _ _ z => z)⟩
  intro x S1 H1 x1 su1 so1 r1
  refine wb b S1 env st1 σ H1 _ (I.ext x1 su1 so1) (wpR_imp (wpR_bind h1) (fun ds st2 h2 => ?_) fun _ _ z => z.from_ x1 so1)
  intro xs S2 H2 x2 su2 so2 r2
  exact h2 _ _ _ (x1.trans so1 x2) su2 so2 (.cons (r1.mono x2.same) r2)
variable {es : List Expr} {mr : MA}
theorem de_tup {k} (h : DA G X W O es mr) : DE G X W O (.Tuple es k pos) (mTup mr) := by
  obtain ⟨t, p, w⟩ := h.ex
  refine ⟨_, pe_tup p, fun b S env st σ H Q I h => w b S env st σ H _ I (wpR_imp (wpR_bind h) (fun ds st1 h1 => ?_) fun _ _ z => z)⟩
  intro xs S1 H1 x1 su1 so1 r1
  unfold tupOk at h1
  split at h1
  · rename_i hz
    exact ⟨by rw [r1.len]; exact hz, fun p hp => Post.tup su1 so1 hp r1 (Post.from_ x1 so1 h1)⟩
  · exact h1.elim
theorem de_lst (h : DA G X W O es mr) : DE G X W O (.List es pos) (mLst mr) := by
  obtain ⟨t, p, w⟩ := h.ex
  refine ⟨_, pe_lst p, fun b S env st σ H Q I h => w b S env st σ H _ I (wpR_imp (wpR_bind h) (fun ds st1 h1 => ?_) fun _ _ z => z)⟩
  intro xs S1 H1 x1 su1 so1 r1
  unfold lstOk at h1
  split at h1
  · rename_i hz
    exact ⟨by rw [r1.len]; exact hz, fun p hp => Post.lst su1 so1 hp r1 (Post.from_ x1 so1 h1)⟩
  · exact h1.elim
/-! ### calls of built-ins -/
theorem args_then {ta : TA} {ma : MA} {f : List D → Option D} {r : List V → Hp → VK → Prop} (hf : CallD G r f) {b : Act} {S : Hp} {env : Env'} {st : List D} {σ : L2.St} {H : Hp} {Q : VK}
    (w : ∀ (b : Act) S env st σ H Q, DI G b O S env st σ H → wpR (ma env st) (fun ds st' => PostA G b.ad S H ds st' Q) (fun x st' => PostX G b.ad S H x st' fun c dd H' => W c dd σ H') → ta σ H Q) (I : DI G b O S env st σ H)
    (h : wpR (mCall1 f ma env st) (fun d st' => Post G b.ad S H d st' Q) (fun x st' => PostX G b.ad S H x st' fun c dd H' => W c dd σ H')) : ta σ H fun xs H1 => r xs H1 Q := by
  refine w b S env st σ H _ I (wpR_imp (wpR_bind h) (fun ds st1 h1 => ?_) fun _ _ z => z)
  intro xs S1 H1 x1 su1 so1 r1
  obtain ⟨d, e1, q⟩ := wp_ret h1
  exact hf.go b.ad S1 H1 st1 xs ds d Q su1 so1 r1 e1 (Post.from_ x1 so1 q)
variable {x : Str} {p : Pos} {e : Expr} {ma' : MA}
theorem de_callB {id : String} {r : List V → Hp → VK → Prop} {f : List D → Option D} (hc : CallR X (.builtin id) r) (hf : CallD G r f) (hm : X.mg x = none) (hv : bootBuiltins x = some (.builtin id)) (ha : DA G X W O (e :: es) ma') (hg : Gl X x := by rfl)
    (hn : x ≠ "__name__" := by decide) (hdb : (x == ("__debug__" : Str)) = false := by decide)
    (he : starEach (e :: es) X.env = (false, eval e X.env) :: starEach es X.env := by rfl) (hpl : (backTo pos (starEach es X.env)).any (·.1) = false := by rfl) : DE G X W O (.Call (.Name x p) (e :: es) [] pos) (mCall1 f ma') := by
  obtain ⟨t, pa, w⟩ := ha.ex
  exact ⟨_, pe_callB hc hg hm hv pa hn hdb he hpl, fun b S env st σ H Q I h => args_then hf w I h⟩
theorem de_callTy {T : String} {r : List V → Hp → VK → Prop} {f : List D → Option D} (hc : CallR X (.type T) r) (hf : CallD G r f) (hm : X.mg x = none) (hv : bootBuiltins x = some (.type T)) (ha : DA G X W O (e :: es) ma') (hg : Gl X x := by rfl)
    (hn : x ≠ "__name__" := by decide) (hdb : (x == ("__debug__" : Str)) = false := by decide)
    (he : starEach (e :: es) X.env = (false, eval e X.env) :: starEach es X.env := by rfl) (hpl : (backTo pos (starEach es X.env)).any (·.1) = false := by rfl) : DE G X W O (.Call (.Name x p) (e :: es) [] pos) (mCall1 f ma') := by
  obtain ⟨t, pa, w⟩ := ha.ex
  exact ⟨_, pe_callTy hc hg hm hv pa hn hdb he hpl, fun b S env st σ H Q I h => args_then hf w I h⟩
/-- a built-in function that stands in the module under a name -/
theorem de_callG {id : String} {r : List V → Hp → VK → Prop} {f : List D → Option D} (hc : CallR X (.builtin id) r) (hf : CallD G r f) (hm : X.mg x = some (.builtin id)) (ha : DA G X W O (e :: es) ma') (hg : Gl X x := by rfl)
    (hdb : (x == ("__debug__" : Str)) = false := by decide)
    (he : starEach (e :: es) X.env = (false, eval e X.env) :: starEach es X.env := by rfl) (hpl : (backTo pos (starEach es X.env)).any (·.1) = false := by rfl) : DE G X W O (.Call (.Name x p) (e :: es) [] pos) (mCall1 f ma') := by
  obtain ⟨t, pa, w⟩ := ha.ex
  exact ⟨_, pe_callBfun hc hg hm pa hdb he hpl, fun b S env st σ H Q I h => args_then hf w I h⟩
/-- o[i] -/
theorem de_ix {r : R2} {f : D → D → Option D} (hr : IxR X r) (hf : OpD G r f) (ha : DE G X W O a ma) (hb : DE G X W O b mb) (hs : PlainIx b := by intro _ _; rfl) : DE G X W O (.Subscript a b pos) (mOp f ma mb) := by
  obtain ⟨ta, tb, pa, pb, w⟩ := two_parts (k := fun x y => ret? (f x y)) ha hb
  refine ⟨_, pe_ix hr pa pb hs, fun b S env st σ H Q I h => w b S env st σ H _ (fun x y H2 => r x y H2 Q) I h fun x y dx dy S' H' st' e I' rx ry hk => ?_⟩
  obtain ⟨d, e1, q⟩ := wp_ret hk
  exact hf.go b.ad S' H' st' x y dx dy d Q I'.sub I'.sto rx ry e1 (Post.from_ e I'.sto q)
end
end DL

/-! DL, third part: statements, defs and their calls, errors, loops. -/
namespace DL
open PySem PySem.Spec PyProof.Rows L2

theorem DE.conv {G : Glb} {X : Cx} {W : WX} {O : Ow} {e : Expr} {m m' : ME} (h : DE G X W O e m) (q : m = m') : DE G X W O e m' := q ▸ h

/-! ### stores into slots -/
section
variable {G : Glb} {b : Act} {O : Ow} {S H : Hp} {env : Env'} {st : List D} {σ : L2.St}
theorem DI.set {i : Nat} {v : V} {d : D} (I : DI G b O S env st σ H) (r : Rep G b.ad S v d) (hi : O.has i = false) : DI G b O S (env.set i (some d)) st (σ.set i (some v)) H := by
  have h1 : i ∉ O.own := fun z => by
    unfold Ow.has at hi
    rw [List.elem_eq_true_of_mem z] at hi; cases hi
  have h2 : O.exi ≠ some i := fun z => by
    unfold Ow.has at hi
    rw [z] at hi; simp at hi
  have h3 : O.slf ≠ some i := fun z => by
    unfold Ow.has at hi
    rw [z] at hi; simp at hi
  have other : ∀ {j : Nat} {d' : D}, j ≠ i → (env.set i (some d))[j]? = some (some d') → env[j]? = some (some d') := fun {j d'} hj h => by
    rw [List.getElem?_set_ne (Ne.symm hj)] at h; exact h
  refine ⟨by rw [List.length_set, List.length_set]; exact I.len, I.sub, I.s0, I.new, I.keep, fun j d' h ho => ?_, fun j d' hj h => ?_, fun j k a hj hk e1 e2 q1 q2 => ?_, I.sto, fun j d' hj h => ?_, fun j hj => ?_⟩
  · by_cases hj : j = i
    · subst hj
      by_cases hl : j < env.length
      · rw [List.getElem?_set_self hl] at h
        have e : d = d' := by simpa using h
        subst e
        exact ⟨v, by rw [List.getElem?_set_self (by rw [I.len]; exact hl)], r⟩
      · rw [List.getElem?_eq_none_iff.mpr (by rw [List.length_set]; exact Nat.le_of_not_lt hl)] at h; cases h
    · obtain ⟨w, q1, q2⟩ := I.slot j d' (other hj h) ho
      exact ⟨w, by rw [List.getElem?_set_ne (Ne.symm hj)]; exact q1, q2⟩
  · have hne : j ≠ i := fun z => h1 (z ▸ hj)
    obtain ⟨a, vs, ds, q1, q2, q3⟩ := I.own j d' hj (other hne h)
    exact ⟨a, vs, ds, q1, by rw [List.getElem?_set_ne (Ne.symm hne)]; exact q2, q3⟩
  · have hne1 : j ≠ i := fun z => h1 (z ▸ hj)
    have hne2 : k ≠ i := fun z => h1 (z ▸ hk)
    rw [List.getElem?_set_ne (Ne.symm hne1)] at q1
    rw [List.getElem?_set_ne (Ne.symm hne2)] at q2
    obtain ⟨d1, e1⟩ := e1
    obtain ⟨d2, e2⟩ := e2
    exact I.dist j k a hj hk ⟨d1, other hne1 e1⟩ ⟨d2, other hne2 e2⟩ q1 q2
  · have hne : j ≠ i := fun z => h2 (z ▸ hj)
    obtain ⟨y, q1, q2, q3⟩ := I.exc j d' hj (other hne h)
    exact ⟨y, q1, by rw [List.getElem?_set_ne (Ne.symm hne)]; exact q2, q3⟩
  · have hne : j ≠ i := fun z => h3 (z ▸ hj)
    rw [List.getElem?_set_ne (Ne.symm hne), List.getElem?_set_ne (Ne.symm hne)]
    exact I.self_ j hj
/-- a slot forgotten -/
theorem DI.forget {i : Nat} (I : DI G b O S env st σ H) (hi : O.has i = false) : DI G b O S (env.set i none) st (σ.set i none) H := by
  have other : ∀ {j : Nat} {d' : D}, (env.set i none)[j]? = some (some d') → j ≠ i ∧ env[j]? = some (some d') := fun {j d'} h => by
    by_cases hj : j = i
    · subst hj
      by_cases hl : j < env.length
      · rw [List.getElem?_set_self hl] at h; cases h
      · rw [List.getElem?_eq_none_iff.mpr (by rw [List.length_set]; exact Nat.le_of_not_lt hl)] at h; cases h
    · rw [List.getElem?_set_ne (Ne.symm hj)] at h; exact ⟨hj, h⟩
  refine ⟨by rw [List.length_set, List.length_set]; exact I.len, I.sub, I.s0, I.new, I.keep, fun j d' h ho => ?_, fun j d' hj h => ?_, fun j k a hj hk e1 e2 q1 q2 => ?_, I.sto, fun j d' hj h => ?_, fun j hj => ?_⟩
  · obtain ⟨hne, h⟩ := other h
    obtain ⟨w, q1, q2⟩ := I.slot j d' h ho
    exact ⟨w, by rw [List.getElem?_set_ne (Ne.symm hne)]; exact q1, q2⟩
  · obtain ⟨hne, h⟩ := other h
    obtain ⟨a, vs, ds, q1, q2, q3⟩ := I.own j d' hj h
    exact ⟨a, vs, ds, q1, by rw [List.getElem?_set_ne (Ne.symm hne)]; exact q2, q3⟩
  · obtain ⟨d1, e1⟩ := e1
    obtain ⟨d2, e2⟩ := e2
    obtain ⟨hne1, e1⟩ := other e1
    obtain ⟨hne2, e2⟩ := other e2
    rw [List.getElem?_set_ne (Ne.symm hne1)] at q1
    rw [List.getElem?_set_ne (Ne.symm hne2)] at q2
    exact I.dist j k a hj hk ⟨d1, e1⟩ ⟨d2, e2⟩ q1 q2
  · obtain ⟨hne, h⟩ := other h
    obtain ⟨y, q1, q2, q3⟩ := I.exc j d' hj h
    exact ⟨y, q1, by rw [List.getElem?_set_ne (Ne.symm hne)]; exact q2, q3⟩
  · have hne : j ≠ i := fun z => by
      subst z
      unfold Ow.has at hi
      rw [hj] at hi; simp at hi
    rw [List.getElem?_set_ne (Ne.symm hne), List.getElem?_set_ne (Ne.symm hne)]
    exact I.self_ j hj
end

/-! ### statements -/
/-- from an expression to a statement -/
def mDo (m : ME) (k : D → MS) : MS := fun env st => match m env st with
  | .ok d st1 => k d env st1
  | .err x st1 => .er x env st1
  | .bad => .bad
def mSeq (m n : MS) : MS := fun env st => match m env st with
  | .nx env1 st1 => n env1 st1
  | o => o
def mNx : MS := fun env st => .nx env st
def mBrk : MS := fun env st => .bk env st
def mCnt : MS := fun env st => .ct env st
def mSet (i : Nat) (m : ME) : MS := mDo m fun d env st => .nx (env.set i (some d)) st
def mRet (m : ME) : MS := mDo m fun d _ st => .rt d st
def mRetN : MS := fun _ st => .rt .non st
def mDrop (m : ME) : MS := mDo m fun _ env st => .nx env st
def mIfS (t : MT) (m n : MS) : MS := fun env st => match t env st with
  | .ok k st1 => if k = true then m env st1 else n env st1
  | .err x st1 => .er x env st1
  | .bad => .bad
/-- a target -/
abbrev MG := D → Env' → Option Env'
def gNm (i : Nat) : MG := fun d env => some (env.set i (some d))
def gsNil : List D → Env' → Option Env' := fun ds env => match ds with
  | [] => some env
  | _ => none
def gsCons (g : MG) (r : List D → Env' → Option Env') : List D → Env' → Option Env' := fun ds env => match ds with
  | d :: ds => (g d env).bind (r ds)
  | [] => none
def gTp (r : List D → Env' → Option Env') : MG := fun d env => match d with
  | .tup ds => r ds env
  | _ => none
def mAsg (m : ME) (g : MG) : MS := mDo m fun d env st => match g d env with
  | some env1 => .nx env1 st
  | none => .bad

section
variable {G : Glb} {X : Cx} {W : WX} {Ob : Ow} {OE : Ow → Prop} {O O1 O2 : Ow} {pos : Pos} {s : Stmt} {rest : List Stmt} {m n : MS} {e : Expr} {me : ME}
theorem dss_nil : DSs G X W Ob OE O [] O mNx := ⟨_, pss_nil, fun b S env st σ H D I h => h S σ H (.refl _) I⟩
theorem dss_cons (h1 : DS G X W Ob OE O s O1 m) (h2 : DSs G X W Ob OE O1 rest O2 n) : DSs G X W Ob OE O (s :: rest) O2 (mSeq m n) := by
  obtain ⟨t, p, w⟩ := h1.ex
  obtain ⟨u, q, w2⟩ := h2.ex
  refine ⟨_, pss_cons p q, fun b S env st σ H D I h => w b S env st σ H _ I ?_⟩
  unfold mSeq at h
  cases e : m env st with
  | nx env1 st1 =>
    rw [e] at h
    intro S1 σ1 H1 x1 I1
    exact w2 b S1 env1 st1 σ1 H1 D I1 (h.from_ x1)
  | rt d st1 => rw [e] at h; exact h
  | bk env1 st1 => rw [e] at h; exact h
  | ct env1 st1 => rw [e] at h; exact h
  | er x env1 st1 => rw [e] at h; exact h
  | bad => rw [e] at h; exact h
theorem dss_one (h1 : DS G X W Ob OE O s O1 m) : DSs G X W Ob OE O [s] O1 m := let ⟨t, p, w⟩ := h1.ex; ⟨t, pss_one p, w⟩
/-- an expression first -/
theorem do_part {k : D → MS} {t : TE} {b : Act} {S : Hp} {env : Env'} {st : List D} {σ : L2.St} {H : Hp} {D : Ends} {Q : VK} (hO : OE O)
    (w : ∀ (b : Act) S env st σ H Q, DI G b O S env st σ H → wpR (me env st) (fun d st' => Post G b.ad S H d st' Q) (fun x st' => PostX G b.ad S H x st' fun c dd H' => W c dd σ H') → t σ H Q) (I : DI G b O S env st σ H)
    (h : PostS G b Ob OE W O1 D S (mDo me k env st))
    (q : ∀ v d S' H' st', DI G b O S' env st' σ H' → Rep G b.ad S' v d → PostS G b Ob OE W O1 D S' (k d env st') → Q v H') : t σ H Q := by
  refine w b S env st σ H Q I ?_
  unfold mDo at h
  cases e : me env st with
  | ok d st1 =>
    rw [e] at h
    intro v S' H' x su so r
    exact q v d S' H' st1 (I.ext x su so) r (h.from_ x.same)
  | err x st1 =>
    rw [e] at h
    intro cls dd S' H' x su so r
    exact h cls dd O S' σ H' hO x.same (I.ext x su so) r
  | bad => rw [e] at h; exact h.elim
theorem ds_set (i : Nat) {x : Str} {pos' : Pos} (hN : X.N.Nodup) (he : DE G X W O e me) (hO : OE O := by first | trivial | rfl) (hi : X.N[i]? = some x := by rfl) (ho : O.has i = false := by rfl) (hx : Loc X.env.scope x := by first | exact Or.inl rfl | exact Or.inr rfl)
    (hs : swapsWith e (some (.Name x pos')) pos.line X.env = pure false := by rfl) (hf : X.fn x = true ∨ X.env.scope.names.lookup x = some .local := by first | exact .inl rfl | exact .inr rfl) : DS G X W Ob OE O (.Assign [.Name x pos'] e pos) O (mSet i me) := by
  obtain ⟨t, p, w⟩ := he.ex
  exact ⟨_, ps_set hN hi hx p hs hf, fun b S env st σ H D I h => do_part hO w I h fun v d S' H' st' I' r q => q _ _ _ (.refl _) (I'.set r ho)⟩
theorem ds_ret (he : DE G X W O e me) (hO : OE O := by first | trivial | rfl) : DS G X W Ob OE O (.Return (some e) pos) O1 (mRet me) := by
  obtain ⟨t, p, w⟩ := he.ex
  exact ⟨_, ps_ret p, fun b S env st σ H D I h => do_part hO w I h fun v d S' H' st' I' r q => q v S' H' I'.fin I'.sub I'.sto r⟩
theorem ds_retN : DS G X W Ob OE O (.Return none pos) O1 mRetN := ⟨_, ps_retN, fun b S env st σ H D I h => h .non S H I.fin I.sub I.sto .non⟩
theorem ds_expr (he : DE G X W O e me) (hO : OE O := by first | trivial | rfl) (hs : swapsWith e none pos.line X.env = pure false := by rfl) : DS G X W Ob OE O (.Expr e pos) O (mDrop me) := by
  obtain ⟨t, p, w⟩ := he.ex
  exact ⟨_, ps_expr p hs, fun b S env st σ H D I h => do_part hO w I h fun v d S' H' st' I' r q => q S' σ H' (.refl _) I'⟩
theorem ds_pass : DS G X W Ob OE O (.Pass pos) O mNx := ⟨_, ps_pass, fun b S env st σ H D I h => h S σ H (.refl _) I⟩
theorem ds_break : DS G X W O OE O (.Break pos) O1 mBrk := ⟨_, ps_break, fun b S env st σ H D I h => h S σ H (.refl _) I⟩
theorem ds_cont : DS G X W O OE O (.Continue pos) O1 mCnt := ⟨_, ps_continue, fun b S env st σ H D I h => h S σ H (.refl _) I⟩
theorem ds_if {c : Expr} {a b : List Stmt} {t : MT} (hc : DT G X W O c t) (ha : DSs G X W Ob OE O a O1 m) (hb : DSs G X W Ob OE O b O1 n) (hO : OE O := by first | trivial | rfl) : DS G X W Ob OE O (.If c a b pos) O1 (mIfS t m n) := by
  obtain ⟨tc, pc, wc⟩ := hc.ex
  obtain ⟨ta, pa, wa⟩ := ha.ex
  obtain ⟨tb, pb, wb⟩ := hb.ex
  refine ⟨_, ps_if pc pa pb, fun b S env st σ H D I h => wc b S env st σ H _ I ?_⟩
  unfold mIfS at h
  cases e : t env st with
  | ok k st1 =>
    rw [e] at h
    intro S' H' x su so
    cases k with
    | true => exact wa b S' env st1 σ H' D (I.ext x su so) (h.from_ x.same)
    | false => exact wb b S' env st1 σ H' D (I.ext x su so) (h.from_ x.same)
  | err x st1 =>
    rw [e] at h
    intro cls dd S' H' x su so r
    exact h cls dd O S' σ H' hO x.same (I.ext x su so) r
  | bad => rw [e] at h; exact h.elim

/-! ### targets -/
/-- the slots out of ix stay -/
def Stay (ix : List Nat) (σ σ' : L2.St) : Prop := σ'.length = σ.length ∧ ∀ j, j ∉ ix → σ'[j]? = σ[j]?
structure DG (G : Glb) (X : Cx) (O : Ow) (ix : List Nat) (tg : Expr) (g : MG) : Prop where
  ex : ∃ t, PG X tg t ∧ ∀ (b : Act) S env env' st σ H v d Q, DI G b O S env st σ H → Rep G b.ad S v d → g d env = some env' → (∀ σ', Stay ix σ σ' → DI G b O S env' st σ' H → Q σ' H) → t v σ H Q
structure DGs (G : Glb) (X : Cx) (O : Ow) (ix : List Nat) (ts : List Expr) (g : List D → Env' → Option Env') : Prop where
  ex : ∃ t, PGs X ts t ∧ ∀ (b : Act) S env env' st σ H vs ds Q, DI G b O S env st σ H → Reps G b.ad S vs ds → g ds env = some env' → (∀ σ', Stay ix σ σ' → DI G b O S env' st σ' H → Q σ' H) → t vs σ H Q
theorem dg_name (i : Nat) {x : Str} (hN : X.N.Nodup) (hi : X.N[i]? = some x := by rfl) (ho : O.has i = false := by rfl) (hx : Loc X.env.scope x := by first | exact Or.inl rfl | exact Or.inr rfl) (hf : X.fn x = true ∨ X.env.scope.names.lookup x = some .local := by first | exact .inl rfl | exact .inr rfl) : DG G X O [i] (.Name x pos) (gNm i) := by
  refine ⟨_, pg_name hN hi hx hf, fun b S env env' st σ H v d Q I r e q => ?_⟩
  cases e
  exact q _ ⟨List.length_set, fun j hj => List.getElem?_set_ne (fun z => hj (by rw [z]; exact List.mem_singleton.mpr rfl))⟩ (I.set r ho)
theorem dgs_nil : DGs G X O [] [] gsNil := by
  refine ⟨_, pgs_nil, fun b S env env' st σ H vs ds Q I r e q => ?_⟩
  cases r with
  | nil => cases e; exact ⟨rfl, q σ ⟨rfl, fun _ _ => rfl⟩ I⟩
  | cons _ _ => cases e
theorem dgs_cons {ix jx : List Nat} {t : Expr} {ts : List Expr} {g : MG} {gs : List D → Env' → Option Env'} (h1 : DG G X O ix t g) (h2 : DGs G X O jx ts gs) (hs : (assignEach (t :: ts) X.env).map (·.2) = assign t X.env :: (assignEach ts X.env).map (·.2) := by rfl) : DGs G X O (ix ++ jx) (t :: ts) (gsCons g gs) := by
  obtain ⟨t1, p1, w1⟩ := h1.ex
  obtain ⟨t2, p2, w2⟩ := h2.ex
  refine ⟨_, pgs_cons p1 p2 hs, fun b S env env' st σ H vs ds Q I r e q => ?_⟩
  cases r with
  | nil => cases e
  | cons r rr =>
    rename_i v d vs ds
    have e' : (g d env).bind (gs ds) = some env' := e
    cases e1 : g d env with
    | none => rw [e1] at e'; cases e'
    | some env1 =>
      rw [e1] at e'
      exact ⟨_, _, rfl, w1 b S env env1 st σ H v d _ I r e1 fun σ1 y1 I1 => w2 b S env1 env' st σ1 H _ ds Q I1 rr e' fun σ2 y2 I2 => q σ2 ⟨y2.1.trans y1.1, fun j hj => (y2.2 j fun z => hj (List.mem_append_right _ z)).trans (y1.2 j fun z => hj (List.mem_append_left _ z))⟩ I2⟩
theorem dg_tup {ix : List Nat} {es : List Expr} {k : Nat} {gs : List D → Env' → Option Env'} {l : Nat} (hc : X.calm = true) (hK : X.K = G.K) (h : DGs G X O ix es gs) (hlen : ∀ ds env env', gs ds env = some env' → ds.length = l) (hn : (assignEach es X.env).length = l := by rfl) (hst : (assignEach es X.env).findIdx? (·.1) = none := by rfl) : DG G X O ix (.Tuple es k pos) (gTp gs) := by
  obtain ⟨t, p, w⟩ := h.ex
  refine ⟨_, pg_tup hc p hn hst, fun b S env env' st σ H v d Q I rv e q => ?_⟩
  cases rv <;> try cases e
  rename_i a vs ds h1 h2
  have e' : gs ds env = some env' := e
  refine ⟨a, vs, rfl, hK ▸ Same.sqT I.sub h1.sqT, ?_, w b S env env' st σ H vs ds Q I h2 e' q⟩
  rw [h2.len]
  exact hlen _ _ _ e'
theorem gsNil_len : ∀ ds env env', gsNil ds env = some env' → ds.length = 0 := fun ds env env' h => by
  cases ds with
  | nil => rfl
  | cons _ _ => cases h
theorem gsCons_len {g : MG} {r : List D → Env' → Option Env'} {l : Nat} (h : ∀ ds env env', r ds env = some env' → ds.length = l) : ∀ ds env env', gsCons g r ds env = some env' → ds.length = l + 1 := fun ds env env' e => by
  cases ds with
  | nil => cases e
  | cons d ds =>
    have e' : (g d env).bind (r ds) = some env' := e
    cases e1 : g d env with
    | none => rw [e1] at e'; cases e'
    | some env1 =>
      rw [e1] at e'
      exact congrArg (· + 1) (h _ _ _ e')
theorem ds_asg {ix : List Nat} {tg : Expr} {g : MG} (he : DE G X W O e me) (hg : DG G X O ix tg g) (hO : OE O := by first | trivial | rfl) (hs : swapsWithSole [tg] e pos.line X.env = pure false := by rfl) (hw : swappedStores [tg] e X.env = pure none := by rfl)
    (h1 : (assignEach [tg] X.env).map (·.2) = [assign tg X.env] := by rfl) : DS G X W Ob OE O (.Assign [tg] e pos) O (mAsg me g) := by
  obtain ⟨t, p, w⟩ := he.ex
  obtain ⟨tg', pg, wg⟩ := hg.ex
  refine ⟨_, ps_asg p pg hs hw h1, fun b S env st σ H D I h => do_part hO w I h fun v d S' H' st' I' r q => ?_⟩
  cases e1 : g d env with
  | none => rw [e1] at q; exact q.elim
  | some env1 =>
    rw [e1] at q
    exact wg b S' env env1 st' σ H' v d _ I' r e1 fun σ' _ I1 => q _ _ _ (.refl _) I1
/-- a, b = x, y, plain local names -/
def mPar (i j : Nat) (ma : MA) : MS := fun env st => match ma env st with
  | .ok [d, e] st1 => .nx ((env.set i (some d)).set j (some e)) st1
  | .err x st1 => .er x env st1
  | _ => .bad
theorem ds_par (i j : Nat) {x y : Str} {a b : Expr} {ma : MA} {px py pt : Pos} {kt k2 pt2} (hc : X.calm = true) (hN : X.N.Nodup) (ha : DA G X W O [a, b] ma) (hO : OE O := by first | trivial | rfl) (hi : X.N[i]? = some x := by rfl) (hj : X.N[j]? = some y := by rfl) (hij : i ≠ j := by decide)
    (hoi : O.has i = false := by rfl) (hoj : O.has j = false := by rfl)
    (hx : X.env.scope.names.lookup x = some .local := by rfl) (hy : X.env.scope.names.lookup y = some .local := by rfl)
    (hw : swappedStores [.Tuple [.Name x px, .Name y py] kt pt] (.Tuple [a, b] k2 pt2) X.env = pure (some [x, y]) := by rfl)
    (hs : swapsWithSole [.Tuple [.Name x px, .Name y py] kt pt] (.Tuple [a, b] k2 pt2) pos.line X.env = pure false := by rfl) :
    DS G X W Ob OE O (.Assign [.Tuple [.Name x px, .Name y py] kt pt] (.Tuple [a, b] k2 pt2) pos) O (mPar i j ma) := by
  obtain ⟨t, p, w⟩ := ha.ex
  refine ⟨_, ps_par hc hN hi hj hij hx hy p hw hs, fun b S env st σ H D I h => w b S env st σ H _ I ?_⟩
  unfold mPar at h
  cases e : ma env st with
  | ok ds st1 =>
    rw [e] at h
    intro vs S' H' x su so r
    match ds, r, h with
    | [d1, d2], .cons r1 (.cons r2 .nil), h =>
      refine ⟨_, _, rfl, h _ _ _ x.same (DI.set (DI.set (I.ext x su so) r1 hoi) r2 hoj)⟩
    | [], _, h => exact h.elim
    | [_], _, h => exact h.elim
    | _ :: _ :: _ :: _, _, h => exact h.elim
  | err x st1 =>
    rw [e] at h
    intro cls dd S' H' x su so r
    exact h cls dd O S' σ H' hO x.same (I.ext x su so) r
  | bad => rw [e] at h; exact h.elim
end

/-! ### defs -/
/-- a body as a function of the arguments' data -/
def fnM (n : Nat) (m : MS) (ds : List D) : M D := fun st => match m (ds.map some ++ List.replicate (n - ds.length) none) st with
  | .nx _ st1 => .ok .non st1
  | .rt d st1 => .ok d st1
  | .er x _ st1 => .err x st1
  | _ => .bad
/-- a def's promise -/
def spD (G : Glb) (n : Nat) (m : List D → M D) : Sp := fun vs H Q E => ∃ (b : Act) (ds : List D) (st : List D), b.H = H ∧ vs.length = n ∧ Same b.S b.H ∧ StoOk G b.ad b.S st b.H ∧ Reps G b.ad b.S vs ds ∧
  wpR (m ds st) (fun d st' => Post G b.ad b.S b.H d st' Q) (fun x st' => PostX G b.ad b.S b.H x st' E)
/-- what holds in a body (or in a part of it) -/
structure XC (k : Nat) (G : Glb) (X : Cx) (W : WX) : Prop where
  tk : Takes X W
  po : PassesOwn (model X.prog X.w) X.A X.env X.xe
  calm : X.calm = true
  hr : Room k X.A
  K : X.K = G.K
/-- .. of a whole body, for a try -/
structure XT (X : Cx) : Prop where
  stk : X.stack = X.env :: X.outer
  fr : X.env.frame = some X.env.locals

section
variable {P : Program} {w : World} {K : PySem.W.Frag} {mg : Str → Option Value} {base : Heap}
theorem fnD {G : Glb} {x qual : Str} {st : Stmt} {f : Addr} {fd : FuncData} {N ps : List Str} {k : Nat} {m : MS} {O' : Ow} (F : Fun K x qual st f fd) (S : FnScope N ps (defScope st)) (hK : K = G.K)
    (hbody : ∀ (cdv : Value) (A : Around) (outer : List Env) (s : Shared) (H : Hp) (E : XK), XC k G (cxOf (L2.CX P w) P w K mg base N qual (defScope st) f cdv A outer s H E) (fun cls d _ H' => E cls d H') → XT (cxOf (L2.CX P w) P w K mg base N qual (defScope st) f cdv A outer s H E) →
      DSs G (cxOf (L2.CX P w) P w K mg base N qual (defScope st) f cdv A outer s H E) (fun cls d _ H' => E cls d H') {} (fun _ => True) {} (defBody st) O' m) :
    FnOk P w K mg base (L2.CX P w) (k + 1) f fd ps (spD G ps.length (fnM N.length m)) := by
  refine F.okX S (fun vs H Q E h => ?_) fun cdv A outer s H vs Q E hr h => ?_
  · obtain ⟨_, _, _, _, hl, _⟩ := h
    exact hl
  · obtain ⟨b, ds, st0, rfl, hl, hs, so, r, h⟩ := h
    have xc : XC k G (cxOf (L2.CX P w) P w K mg base N qual (defScope st) f cdv A outer s b.H E) (fun cls d _ H' => E cls d H') :=
      { tk := takes_of rfl rfl rfl rfl, po := passes_of rfl, calm := rfl, hr := hr, K := hK }
    obtain ⟨t, p, wt⟩ := (hbody cdv A outer s b.H E xc ⟨rfl, rfl⟩).ex
    refine ⟨t, p, ?_⟩
    have I := DI.start (n := N.length - vs.length) hs so r
    refine wt b b.S _ st0 _ b.H _ I ?_
    have hn : N.length - vs.length = N.length - ds.length := by rw [r.len]
    rw [hn]
    unfold fnM at h
    cases e : m (ds.map some ++ List.replicate (N.length - ds.length) none) st0 with
    | nx env st1 =>
      rw [e] at h
      intro S1 σ1 H1 _ I1
      exact h .non S1 H1 I1.fin I1.sub I1.sto .non
    | rt d st1 =>
      rw [e] at h
      intro v S1 H1 x1 su1 so1 r1
      exact h v S1 H1 x1 su1 so1 r1
    | bk env st1 => rw [e] at h; exact h.elim
    | ct env st1 => rw [e] at h; exact h.elim
    | er x env st1 =>
      rw [e] at h
      intro cls dd O' S1 σ1 H1 _ _ I1 rx
      exact h cls dd S1 H1 I1.fin I1.sub I1.sto rx
    | bad => rw [e] at h; exact h.elim
end

def Len (ma : MA) (n : Nat) : Prop := ∀ env st ds st', ma env st = .ok ds st' → ds.length = n
theorem len_nil : Len mNil 0 := fun env st ds st' h => by cases h; rfl
theorem len_cons {me : ME} {ma : MA} {n : Nat} (h : Len ma n) : Len (mCons me ma) (n + 1) := fun env st ds st' e => by
  unfold mCons at e
  cases e1 : me env st with
  | ok d st1 =>
    rw [e1] at e
    have e' : (ma env st1).bind (fun xs st2 => Res.ok (d :: xs) st2) = .ok ds st' := e
    cases e2 : ma env st1 with
    | ok ds2 st2 =>
      rw [e2] at e'
      have e3 : Res.ok (d :: ds2) st2 = .ok ds st' := e'
      cases e3
      exact congrArg (· + 1) (h _ _ _ _ e2)
    | err x s => rw [e2] at e'; cases e'
    | bad => rw [e2] at e'; cases e'
  | err x s => rw [e1] at e; cases e
  | bad => rw [e1] at e; cases e
def mCall (f : List D → M D) (ma : MA) : ME := fun env st => (ma env st).bind f
section
variable {G : Glb} {X : Cx} {W : WX} {O : Ow} {pos p : Pos} {x : Str} {e : Expr} {es : List Expr} {ma : MA} {k j n : Nat} {f : Addr} {fd : FuncData} {ps : List Str} {m : List D → M D}
theorem de_call (c : XC k G X W) (F : FnOk X.prog X.w X.K X.mg X.base (L2.CX X.prog X.w) j f fd ps (spD G n m)) (hm : X.mg x = some (.ref f)) (hk : PySem.W.keepIn X.K (.ref f) = true) (hb : Binds X.K fd ps []) (ha : DA G X W O (e :: es) ma)
    (hjk : j ≤ k := by decide) (hln : Len ma n) (hg : Gl X x := by rfl) (hdb : (x == ("__debug__" : Str)) = false := by decide) (he : starEach (e :: es) X.env = (false, eval e X.env) :: starEach es X.env := by rfl) (hpl : (backTo pos (starEach es X.env)).any (·.1) = false := by rfl) :
    DE G X W O (.Call (.Name x p) (e :: es) [] pos) (mCall m ma) := by
  obtain ⟨t, pa, w⟩ := ha.ex
  refine ⟨_, pe_callS F (c.hr.mono hjk) hg hm hk hb (fun σ => passAt c.tk σ) pa hdb he hpl, fun b S env st σ H Q I h => w b S env st σ H _ I ?_⟩
  have h' := wpR_bind h
  cases ea : ma env st with
  | ok ds st1 =>
    rw [ea] at h'
    intro vs S1 H1 x1 su1 so1 r1
    exact ⟨⟨S1, H1, b.ad⟩, ds, st1, rfl, by rw [r1.len]; exact hln env st ds st1 ea, su1, so1, r1, wpR_imp h' (fun _ _ z => z.from_ x1 so1) fun _ _ z => z.from_ x1 so1⟩
  | err x st1 => rw [ea] at h'; exact h'
  | bad => rw [ea] at h'; exact h'.elim
end
end DL

/-! DL, fourth part: errors, loops, comprehensions. -/
namespace DL
open PySem PySem.Spec PyProof.Rows L2

/-! ### errors without fields -/
/-- an own class without __init__, called without arguments -/
theorem pmk_none {X : Cx} {C : Addr} {bmB : List Value} {B newId initId : String} {x : Str} {p pos : Pos} (F : ExcBaseFacts B newId initId bmB) (q : PySem.W.excIn X.K C bmB newId = true) (gC : X.mg x = some (.ref C))
    (kC : PySem.W.keepIn X.K (.ref C) = true) (r : Raises X (.ref C)) (hg : Gl X x) (hdb : (x == ("__debug__" : Str)) = false := by decide) : PMk X (.Call (.Name x p) [] [] pos) (fun _ H Q => Q (.ref C) none H) := by
  intro pins s σ H Q I h
  refine wpAny_Call_Name_kw (ld_glob I hg gC ?_ hdb)
  refine PySem.W.callWith_K0 I.kIn kC ?_
  show wpAny _ _ (call (.ref C) []) _ _ _
  obtain ⟨bm, N, nm, qn, bs, hdct, sn, sub, ab, col, dd, k0, k1, k2, k3, k5, mN, hC, hN, hni, T⟩ := exc_obj I.kIn q
  exact wpAny_call_exc_subT F T hC hN hni (fun h' e hm => mk_of I hm r h (I.hok.gone hm.new)) (Nat.zero_le _)
/-- what an own error class without __init__ must have -/
structure ErrC (G : Glb) (mg : Str → Option Value) (x : Str) (c : Nat) : Prop where
  g : mg x = some (.ref (G.cl c))
  ex : PySem.W.excIn G.K (G.cl c) [.type "ValueError", .type "Exception", .type "BaseException", .type "object"] "ValueError.__new__" = true
  kp : PySem.W.keepIn G.K (.ref (G.cl c)) = true
  sub : PySem.W.subIn G.K (.ref (G.cl c)) (.type "BaseException") = some true
  ty : PySem.W.typeIn G.K (.ref (G.cl c)) = some (.type "type")
def mRaise0 (c : Nat) : MS := fun env st => .er ⟨c, none⟩ env st
section
variable {G : Glb} {X : Cx} {W : WX} {Ob : Ow} {OE : Ow → Prop} {O O1 : Ow} {pos : Pos} {k : Nat}
theorem ds_raise0 {x : Str} {c : Nat} {p pos' : Pos} (xc : XC k G X W) (T : ErrC G X.mg x c) (hO : OE O := by first | trivial | rfl) (hg : Gl X x := by rfl) (hdb : (x == ("__debug__" : Str)) = false := by decide) :
    DS G X W Ob OE O (.Raise (some (.Call (.Name x p) [] [] pos')) none pos) O1 (mRaise0 c) := by
  refine ⟨_, ps_raise xc.calm xc.tk (pmk_none PySem.F.excBase_ValueError (by rw [xc.K]; exact T.ex) T.g (by rw [xc.K]; exact T.kp) (raises_own (by rw [xc.K]; exact T.sub) (by rw [xc.K]; exact T.ty)) hg hdb), fun b S env st σ H D I h => ?_⟩
  exact h _ _ O S σ H hO (.refl _) I ⟨rfl, rfl⟩
end

/-! ### what is walked -/
def IterOK (G : Glb) (ad : List Addr) (S : Hp) (J : It) (ds : List D) : Prop :=
  ∀ (i : Nat) (S' H' : Hp), Same S S' → Same S' H' → (i = ds.length → J.stop i H') ∧ ∀ d, ds[i]? = some d → J.go i H' ∧
    ∀ x H'', J.yld i H' x H'' → ∃ S'', Ext ad S' H' S'' H'' ∧ Same S'' H'' ∧ (∀ st, StoOk G ad S' st H' → StoOk G ad S'' st H'') ∧ Rep G ad S'' x d
structure DIt (G : Glb) (X : Cx) (W : WX) (O : Ow) (tg iter : Expr) (m : MA) : Prop where
  ex : ∃ wi, PI X tg iter wi ∧ ∀ (b : Act) S env st σ H R, DI G b O S env st σ H →
    wpR (m env st) (fun ds st' => ∀ J S' H', Ext b.ad S H S' H' → Same S' H' → StoOk G b.ad S' st' H' → IterOK G b.ad S' J ds → R J H') (fun x st' => PostX G b.ad S H x st' fun c dd H' => W c dd σ H') → wi σ H R

/-- a list or a tuple -/
def items? : D → M (List D) := fun d st => match d with
  | .lst ds => .ok ds st
  | .rol ds => .ok ds st
  | .tup ds => .ok ds st
  | _ => .bad
def mItems (m : ME) : MA := fun env st => (m env st).bind items?
def rangeD (lo : Int) (n : Nat) : List D := (List.range n).map fun i => .int (lo + (i : Nat))
noncomputable def rng1? : List D → M (List D) := fun ds st => match ds with
  | [.int j] => @ite _ (-(2 ^ 62) ≤ j ∧ j < 2 ^ 62) (Classical.propDecidable _) (.ok (rangeD 0 j.toNat) st) .bad
  | _ => .bad
noncomputable def rng2? : List D → M (List D) := fun ds st => match ds with
  | [.int i, .int j] => @ite _ (-(2 ^ 62) ≤ i ∧ i < 2 ^ 62 ∧ -(2 ^ 62) ≤ j ∧ j < 2 ^ 62) (Classical.propDecidable _) (.ok (rangeD i (j - i).toNat) st) .bad
  | _ => .bad
def mThenA (m : MA) (f : List D → M (List D)) : MA := fun env st => (m env st).bind f
def numbered (ds : List D) : List D := ds.mapIdx fun i d => .tup [.int (i : Nat), d]
def enum? : List D → M (List D) := fun ds st => match ds with
  | [.lst ds] => .ok (numbered ds) st
  | [.rol ds] => .ok (numbered ds) st
  | _ => .bad
def zip? : List D → M (List D) := fun ds st => match ds with
  | [.lst xs, .lst ys] => .ok (List.zipWith (fun x y => .tup [x, y]) xs ys) st
  | _ => .bad

/-- a value walked: a list or a tuple -/
def iSeq (K : PySem.W.Frag) (tl : TE) : TI := fun σ H R => tl σ H fun x H1 => ∃ a, x = .ref a ∧ ((∃ xs, SqL K H1 a xs ∧ R (Itl K a) H1) ∨ (∃ xs, SqT K H1 a xs ∧ R (Itt K a) H1))
theorem pi_seq {X : Cx} {tg l : Expr} {tl : TE} (hl : PE X l tl) : PI X tg l (iSeq X.K tl) := by
  refine ⟨fun pins s σ H R I h => ?_⟩
  refine thn (hl.run pins s σ H _ I h) fun v s1 ⟨x, H1, I1, r1, q1⟩ => ?_
  obtain ⟨a, e, q1⟩ := q1
  subst e
  cases r1
  rcases q1 with ⟨xs, hq, q⟩ | ⟨xs, hq, q⟩
  · obtain ⟨its, rv, p, hz⟩ := I1.list hq
    refine wpAny_pyIter_list p.isList ?_
    exact pi_one (tk := s1.toks) I1 _ (turn_list a _) ⟨_, Heap.get?_push_size _ rfl, rfl, rfl⟩ q
  · obtain ⟨its, rv, p, hz⟩ := I1.tuple hq
    refine wpAny_pyIter_tuple (show s1.heap.IsTuple a its.toArray from p) ?_
    exact pi_one (tk := s1.toks) I1 _ (turn_tuple a _) ⟨_, Heap.get?_push_size _ rfl, rfl, rfl⟩ q

section
variable {G : Glb} {ad : List Addr} {S : Hp}
theorem Same.sqL {K : PySem.W.Frag} {H H' : Hp} {a : Addr} {xs : List V} (e : Same H H') (h : SqL K H a xs) : SqL K H' a xs := e.seq h
/-- no new object -/
theorem still {H' : Hp} {S' : Hp} {x : V} {d : D} (su : Same S' H') (r : Rep G ad S' x d) : ∃ S'', Ext ad S' H' S'' H' ∧ Same S'' H' ∧ (∀ st, StoOk G ad S' st H' → StoOk G ad S'' st H') ∧ Rep G ad S'' x d :=
  ⟨S', .refl _ _ _, su, fun _ z => z, r⟩
theorem iter_list {a : Addr} {vs : List V} {ds : List D} (h : SqL G.K S a vs) (r : Reps G ad S vs ds) : IterOK G ad S (Itl G.K a) ds := by
  intro i S' H' e su
  have h' := (e.trans su).seq h
  refine ⟨fun hi => ⟨vs, h', by rw [r.len, hi]; exact Nat.le_refl _⟩, fun d hd => ?_⟩
  obtain ⟨v, hv, rv⟩ := r.get hd
  refine ⟨⟨vs, v, h', hv⟩, fun x H'' ⟨e1, e2⟩ => ?_⟩
  subst e1
  have e3 : v = x := Option.some.inj (hv.symm.trans (e2 vs h'))
  subst e3
  exact still su (rv.mono e)
theorem iter_tup {a : Addr} {vs : List V} {ds : List D} (h : SqT G.K S a vs) (r : Reps G ad S vs ds) : IterOK G ad S (Itt G.K a) ds := by
  intro i S' H' e su
  have h' := Same.sqT (e.trans su) h
  refine ⟨fun hi => ⟨vs, h', by rw [r.len, hi]; exact Nat.le_refl _⟩, fun d hd => ?_⟩
  obtain ⟨v, hv, rv⟩ := r.get hd
  refine ⟨⟨vs, v, h', hv⟩, fun x H'' ⟨e1, e2⟩ => ?_⟩
  subst e1
  have e3 : v = x := Option.some.inj (hv.symm.trans (e2 vs h'))
  subst e3
  exact still su (rv.mono e)
theorem rangeD_len (lo : Int) (n : Nat) : (rangeD lo n).length = n := by simp [rangeD]
theorem rangeD_get {lo : Int} {n i : Nat} {d : D} (h : (rangeD lo n)[i]? = some d) : i < n ∧ d = .int (lo + (i : Nat)) := by
  have hi : i < n := by
    have := (List.getElem?_eq_some_iff.mp h).1
    rwa [rangeD_len] at this
  refine ⟨hi, ?_⟩
  simp [rangeD, List.getElem?_map, List.getElem?_range hi] at h
  exact h.symm
theorem iter_range (lo : Int) (n : Nat) : IterOK G ad S (Itr lo n) (rangeD lo n) := by
  intro i S' H' e su
  refine ⟨fun hi => ?_, fun d hd => ?_⟩
  · rw [rangeD_len] at hi
    exact Nat.le_of_eq hi.symm
  · obtain ⟨hi, rfl⟩ := rangeD_get hd
    exact ⟨hi, fun x H'' ⟨e1, e2⟩ => by subst e1; subst e2; exact still su (.int _)⟩
theorem pair_new {H' S' : Hp} {T : Addr} {u v : V} {d e : D} (su : Same S' H') (hT : H' T = none) (r1 : Rep G ad S' u d) (r2 : Rep G ad S' v e) :
    ∃ S'', Ext ad S' H' S'' (upd H' T (.tup [u, v])) ∧ Same S'' (upd H' T (.tup [u, v])) ∧ (∀ st, StoOk G ad S' st H' → StoOk G ad S'' st (upd H' T (.tup [u, v]))) ∧ Rep G ad S'' (.ref T) (.tup [d, e]) := by
  refine ⟨upd S' T (.tup [u, v]), ?_, ?_, fun st so => (new_still su so hT).2.2, Rep.tupNew su hT (.cons r1 (.cons r2 .nil))⟩
  · have hs : S' T = none := su.free hT
    refine ⟨fun b o h => by rw [upd_ne (ne_of_none h hs)]; exact h, fun b o h => ?_, fun b o h _ => .refl (by rw [upd_ne (ne_of_none h hT)]; exact h)⟩
    by_cases hb : b = T
    · subst hb; exact .inr hT
    · rw [upd_ne hb] at h; exact .inl h
  · intro b o h
    by_cases hb : b = T
    · subst hb; rw [upd_same] at h ⊢; exact h
    · rw [upd_ne hb] at h ⊢; exact su _ _ h
theorem numbered_get {ds : List D} {i : Nat} {d : D} (h : (numbered ds)[i]? = some d) : ∃ e, ds[i]? = some e ∧ d = .tup [.int (i : Nat), e] := by
  unfold numbered at h
  rw [List.getElem?_mapIdx] at h
  cases q : ds[i]? with
  | none => rw [q] at h; cases h
  | some e => rw [q] at h; exact ⟨e, rfl, (Option.some.inj h).symm⟩
theorem iter_enum {a : Addr} {vs : List V} {ds : List D} (h : SqL G.K S a vs) (r : Reps G ad S vs ds) : IterOK G ad S (Ite G.K a) (numbered ds) := by
  intro i S' H' e su
  have h' := (e.trans su).seq h
  refine ⟨fun hi => ⟨vs, h', by rw [r.len, hi]; simp [numbered]⟩, fun d hd => ?_⟩
  obtain ⟨d0, hd0, rfl⟩ := numbered_get hd
  obtain ⟨v, hv, rv⟩ := r.get hd0
  refine ⟨⟨vs, v, h', hv⟩, fun x H'' ⟨T, y, e1, hT, e2, e3⟩ => ?_⟩
  subst e1; subst e2
  have e4 : v = y := Option.some.inj (hv.symm.trans (e3 vs h'))
  subst e4
  exact pair_new su hT (.int _) (rv.mono e)
theorem iter_zip {a c : Addr} {vs ws : List V} {ds es : List D} (h : SqL G.K S a vs) (r : Reps G ad S vs ds) (h2 : SqL G.K S c ws) (r2 : Reps G ad S ws es) : IterOK G ad S (Itz G.K a c) (List.zipWith (fun x y => .tup [x, y]) ds es) := by
  intro i S' H' e su
  have h' := (e.trans su).seq h
  have h2' := (e.trans su).seq h2
  refine ⟨fun hi => ⟨vs, ws, h', h2', ?_⟩, fun d hd => ?_⟩
  · rw [List.length_zipWith] at hi
    rw [r.len, r2.len]
    omega
  · rw [List.getElem?_zipWith] at hd
    cases q1 : ds[i]? with
    | none => rw [q1] at hd; simp at hd
    | some d1 =>
      cases q2 : es[i]? with
      | none => rw [q1, q2] at hd; simp at hd
      | some d2 =>
        rw [q1, q2] at hd
        have e0 : D.tup [d1, d2] = d := by simpa using hd
        subst e0
        obtain ⟨v, hv, rv⟩ := r.get q1
        obtain ⟨u, hu, ru⟩ := r2.get q2
        refine ⟨⟨vs, ws, v, u, h', h2', hv, hu⟩, fun x H'' ⟨T, y, z, e1, hT, e2, e3, e4⟩ => ?_⟩
        subst e1; subst e2
        have e5 : v = y := Option.some.inj (hv.symm.trans (e3 vs h'))
        have e6 : u = z := Option.some.inj (hu.symm.trans (e4 ws h2'))
        subst e5; subst e6
        exact pair_new su hT (rv.mono e) (ru.mono e)
end
section
variable {G : Glb} {X : Cx} {W : WX} {O : Ow} {tg e : Expr} {m : ME} {p pos : Pos}
theorem di_seq (hK : X.K = G.K) (h : DE G X W O e m) : DIt G X W O tg e (mItems m) := by
  obtain ⟨t, pe, w⟩ := h.ex
  refine ⟨_, pi_seq pe, fun b S env st σ H R I h => w b S env st σ H _ I (wpR_imp (wpR_bind h) (fun d st1 h1 => ?_) fun _ _ z => z)⟩
  intro v S1 H1 x1 su1 so1 r1
  cases r1 <;> try exact h1.elim
  · rename_i a vs ds h2 h3
    exact ⟨a, rfl, .inr ⟨vs, hK ▸ Same.sqT su1 h2.sqT, hK ▸ h1 _ _ _ x1 su1 so1 (iter_tup h2.sqT h3)⟩⟩
  · rename_i a vs ds h2 h3
    exact ⟨a, rfl, .inl ⟨vs, SqL.of (su1 _ _ h2), hK ▸ h1 _ _ _ x1 su1 so1 (iter_list (SqL.of h2) h3)⟩⟩
  · rename_i a vs ds h2 h3
    exact ⟨a, rfl, .inl ⟨vs, hK ▸ su1.seq h2, hK ▸ h1 _ _ _ x1 su1 so1 (iter_list h2 h3)⟩⟩
theorem args_walk {ta : TA} {ma : MA} {f : List D → M (List D)} {es : List Expr} {b : Act} {S : Hp} {env : Env'} {st : List D} {σ : L2.St} {H : Hp} {R : It → Hp → Prop} {q : List V → Hp → Prop}
    (w : ∀ (b : Act) S env st σ H Q, DI G b O S env st σ H → wpR (ma env st) (fun ds st' => PostA G b.ad S H ds st' Q) (fun x st' => PostX G b.ad S H x st' fun c dd H' => W c dd σ H') → ta σ H Q) (I : DI G b O S env st σ H)
    (h : wpR (mThenA ma f env st) (fun ds st' => ∀ J S' H', Ext b.ad S H S' H' → Same S' H' → StoOk G b.ad S' st' H' → IterOK G b.ad S' J ds → R J H') (fun x st' => PostX G b.ad S H x st' fun c dd H' => W c dd σ H'))
    (k : ∀ vs ds S' H' st', Ext b.ad S H S' H' → Same S' H' → StoOk G b.ad S' st' H' → Reps G b.ad S' vs ds →
      wpR (f ds st') (fun ds st' => ∀ J S2 H2, Ext b.ad S H S2 H2 → Same S2 H2 → StoOk G b.ad S2 st' H2 → IterOK G b.ad S2 J ds → R J H2) (fun x st' => PostX G b.ad S H x st' fun c dd H' => W c dd σ H') → q vs H') : ta σ H q := by
  refine w b S env st σ H _ I (wpR_imp (wpR_bind h) (fun ds st1 h1 => ?_) fun _ _ z => z)
  intro vs S1 H1 x1 su1 so1 r1
  exact k vs ds S1 H1 st1 x1 su1 so1 r1 h1
variable {a a2 : Expr} {ma : MA}
theorem di_range1 (hm : X.mg "range" = none) (ha : DA G X W O [a] ma) (hg : Gl X "range" := by rfl) (hs : starEach [a] X.env = [(false, eval a X.env)] := by rfl) : DIt G X W O tg (.Call (.Name "range" p) [a] [] pos) (mThenA ma rng1?) := by
  obtain ⟨t, pa, w⟩ := ha.ex
  refine ⟨_, pi_range1 hg hm pa hs, fun b S env st σ H R I h => args_walk (es := [a]) w I h fun vs ds S1 H1 st1 x1 su1 so1 r1 h1 => ?_⟩
  unfold rng1? at h1
  split at h1
  · rename_i j
    split at h1
    · rename_i hj
      cases r1 with
      | cons r rr => cases r; cases rr; exact ⟨j, rfl, hj.1, hj.2, h1 _ _ _ x1 su1 so1 (iter_range 0 _)⟩
    · exact h1.elim
  · exact h1.elim
theorem di_range2 (hm : X.mg "range" = none) (ha : DA G X W O [a, a2] ma) (hg : Gl X "range" := by rfl) (hs : starEach [a, a2] X.env = [(false, eval a X.env), (false, eval a2 X.env)] := by rfl) (hs2 : starEach [a2] X.env = [(false, eval a2 X.env)] := by rfl) :
    DIt G X W O tg (.Call (.Name "range" p) [a, a2] [] pos) (mThenA ma rng2?) := by
  obtain ⟨t, pa, w⟩ := ha.ex
  refine ⟨_, pi_range2 hg hm pa hs hs2, fun b S env st σ H R I h => args_walk (es := [a]) w I h fun vs ds S1 H1 st1 x1 su1 so1 r1 h1 => ?_⟩
  unfold rng2? at h1
  split at h1
  · rename_i i j
    split at h1
    · rename_i hj
      cases r1 with
      | cons r rr =>
        cases r
        cases rr with
        | cons r' rr => cases r'; cases rr; exact ⟨i, j, rfl, hj, h1 _ _ _ x1 su1 so1 (iter_range i _)⟩
    · exact h1.elim
  · exact h1.elim
theorem di_enum {elts : List Expr} {kk : Nat} {tpos : Pos} (hK : X.K = G.K) (hm : X.mg "enumerate" = none) (ha : DA G X W O [a] ma) (hg : Gl X "enumerate" := by rfl) (hs : starEach [a] X.env = [(false, eval a X.env)] := by rfl) :
    DIt G X W O (.Tuple elts kk tpos) (.Call (.Name "enumerate" p) [a] [] pos) (mThenA ma enum?) := by
  obtain ⟨t, pa, w⟩ := ha.ex
  refine ⟨_, pi_enum hg hm pa hs, fun b S env st σ H R I h => args_walk (es := [a]) w I h fun vs ds S1 H1 st1 x1 su1 so1 r1 h1 => ?_⟩
  unfold enum? at h1
  split at h1
  · cases r1 with
    | cons r rr =>
      cases rr
      cases r with
      | lst h2 h3 => exact ⟨_, _, rfl, SqL.of (su1 _ _ h2), hK ▸ h1 _ _ _ x1 su1 so1 (iter_enum (SqL.of h2) h3)⟩
  · cases r1 with
    | cons r rr =>
      cases rr
      cases r with
      | rol h2 h3 => exact ⟨_, _, rfl, hK ▸ su1.seq h2, hK ▸ h1 _ _ _ x1 su1 so1 (iter_enum h2 h3)⟩
  · exact h1.elim
theorem di_zip {elts : List Expr} {kk : Nat} {tpos : Pos} (hK : X.K = G.K) (hm : X.mg "zip" = none) (ha : DA G X W O [a, a2] ma) (hg : Gl X "zip" := by rfl)
    (hs : starEach [a, a2] X.env = (false, eval a X.env) :: starEach [a2] X.env := by rfl) (hpl : (backTo pos (starEach [a2] X.env)).any (·.1) = false := by rfl) :
    DIt G X W O (.Tuple elts kk tpos) (.Call (.Name "zip" p) [a, a2] [] pos) (mThenA ma zip?) := by
  obtain ⟨t, pa, w⟩ := ha.ex
  refine ⟨_, pi_zip hg hm pa hs hpl, fun b S env st σ H R I h => args_walk (es := [a]) w I h fun vs ds S1 H1 st1 x1 su1 so1 r1 h1 => ?_⟩
  unfold zip? at h1
  split at h1
  · cases r1 with
    | cons r rr =>
      cases rr with
      | cons r' rr =>
        cases rr
        cases r with
        | lst h2 h3 =>
          cases r' with
          | lst h4 h5 => exact ⟨_, _, _, _, rfl, SqL.of (su1 _ _ h2), SqL.of (su1 _ _ h4), hK ▸ h1 _ _ _ x1 su1 so1 (iter_zip (SqL.of h2) h3 (SqL.of h4) h5)⟩
  · exact h1.elim
end

/-! ### for -/
def forD (g : MG) (body : MS) : List D → MS
  | [] => fun env st => .nx env st
  | d :: ds => fun env st => match g d env with
    | none => .bad
    | some env1 => match body env1 st with
      | .nx e s => forD g body ds e s
      | .ct e s => forD g body ds e s
      | .bk e s => .nx e s
      | o => o
def mFor (mi : MA) (g : MG) (body : MS) : MS := fun env st => match mi env st with
  | .ok ds st1 => forD g body ds env st1
  | .err x st1 => .er x env st1
  | .bad => .bad
section
variable {G : Glb} {X : Cx} {W : WX} {Ob : Ow} {OE : Ow → Prop} {O O1 : Ow} {pos : Pos} {k : Nat}
theorem ds_for {ix : List Nat} {tg iter : Expr} {body : List Stmt} {mi : MA} {g : MG} {m : MS} (xc : XC k G X W) (hi : DIt G X W O tg iter mi) (hg : DG G X O ix tg g) (hb : DSs G X W O OE O body O m) (hO : OE O := by first | trivial | rfl)
    (hs : ∀ x, foldedSetIterable iter X.env x = pure x := by intro _; rfl) : DS G X W Ob OE O (.For tg iter body [] pos) O (mFor mi g m) := by
  obtain ⟨wi, pi, wwi⟩ := hi.ex
  obtain ⟨tg', pg, wg⟩ := hg.ex
  obtain ⟨tb, pb, wb⟩ := hb.ex
  refine ⟨_, ps_for xc.po xc.calm pi pg pb hs, fun b S env st σ H D I h => wwi b S env st σ H _ I ?_⟩
  unfold mFor at h
  cases e : mi env st with
  | bad => rw [e] at h; exact h.elim
  | err x st1 =>
    rw [e] at h
    intro cls dd S' H' x su so r
    exact h cls dd O S' σ H' hO x.same (I.ext x su so) r
  | ok ds st1 =>
    rw [e] at h
    intro J S1 H1 x1 su1 so1 it
    refine ⟨fun i n σ' H' => n = ds.length - i ∧ i ≤ ds.length ∧ ∃ S' env' st', Same S1 S' ∧ DI G b O S' env' st' σ' H' ∧ PostS G b Ob OE W O D S' (forD g m (ds.drop i) env' st'), ⟨ds.length, by simp, Nat.zero_le _, S1, env, st1, .refl _, I.ext x1 su1 so1, h.from_ x1.same⟩, ?_⟩
    rintro i n σ' H' ⟨rfl, hi, S', env', st', e1, I', h'⟩
    by_cases hlt : i < ds.length
    · right
      have hd : ds[i]? = some ds[i] := List.getElem?_eq_getElem hlt
      obtain ⟨go, yl⟩ := (it i S' H' e1 I'.sub).2 _ hd
      refine ⟨go, fun σ2 H2 => ds.length - (i + 1) < ds.length - i ∧ ∃ S2 env2 st2, Same S1 S2 ∧ DI G b O S2 env2 st2 σ2 H2 ∧ PostS G b Ob OE W O D S2 (forD g m (ds.drop (i + 1)) env2 st2), fun σ2 H2 ⟨hl, z⟩ => ⟨ds.length - (i + 1), hl, rfl, hlt, z⟩, fun x H'' y => ?_⟩
      obtain ⟨S2, x2, su2, so2, r2⟩ := yl x H'' y
      have I2 : DI G b O S2 env' st' σ' H'' := I'.ext x2 su2 (so2 _ I'.sto)
      rw [List.drop_eq_getElem_cons hlt] at h'
      unfold forD at h'
      cases e2 : g ds[i] env' with
      | none => rw [e2] at h'; exact h'.elim
      | some env1 =>
        rw [e2] at h'
        refine wg b S2 env' env1 st' σ' H'' x ds[i] _ I2 r2 e2 fun σ3 _ I3 => wb b S2 env1 st' σ3 H'' _ I3 ?_
        have lt : ds.length - (i + 1) < ds.length - i := by omega
        dsimp only at h'
        cases e3 : m env1 st' with
        | nx env4 st4 =>
          rw [e3] at h'
          intro S4 σ4 H4 y4 I4
          exact ⟨lt, S4, env4, st4, e1.trans (x2.same.trans y4), I4, h'.from_ (x2.same.trans y4)⟩
        | ct env4 st4 =>
          rw [e3] at h'
          intro S4 σ4 H4 y4 I4
          exact ⟨lt, S4, env4, st4, e1.trans (x2.same.trans y4), I4, h'.from_ (x2.same.trans y4)⟩
        | bk env4 st4 =>
          rw [e3] at h'
          intro S4 σ4 H4 y4 I4
          exact h' S4 σ4 H4 (x2.same.trans y4) I4
        | rt d st4 => rw [e3] at h'; exact h'
        | er x st4 => rw [e3] at h'; exact PostS.from_ x2.same h'
        | bad => rw [e3] at h'; exact h'
    · left
      have hi' : i = ds.length := Nat.le_antisymm hi (Nat.le_of_not_lt hlt)
      refine ⟨(it i S' H' e1 I'.sub).1 hi', ?_⟩
      rw [hi', List.drop_length] at h'
      exact h' S' σ' H' (.refl _) I'
theorem ds_doc {x : Str} {j} {pos' : Pos} : DS G X W Ob OE O (.Expr (.Constant (.str x) j pos) pos') O mNx := ⟨_, ps_doc, fun b S env st σ H D I h => h S σ H (.refl _) I⟩
end

/-! ### while -/
def whileN (c : MT) (m : MS) : Nat → MS
  | 0 => fun _ _ => .bad
  | n + 1 => fun env st => match c env st with
    | .ok k st1 => if k = true then (match m env st1 with
        | .nx e s => whileN c m n e s
        | .ct e s => whileN c m n e s
        | .bk e s => .nx e s
        | o => o) else .nx env st1
    | .err x st1 => .er x env st1
    | .bad => .bad
theorem whileN_more {c : MT} {m : MS} : ∀ (n : Nat) (env : Env') (st : List D), whileN c m n env st ≠ .bad → whileN c m (n + 1) env st = whileN c m n env st := by
  intro n
  induction n with
  | zero => intro env st h; exact absurd rfl h
  | succ n ih =>
    intro env st h
    unfold whileN at h ⊢
    cases e : c env st with
    | bad => rfl
    | err x st1 => rfl
    | ok k st1 =>
      rw [e] at h
      dsimp only at h ⊢
      by_cases hk : k = true
      · rw [if_pos hk] at h ⊢
        rw [if_pos hk]
        cases e2 : m env st1 with
        | nx e s => rw [e2] at h; exact ih e s h
        | ct e s => rw [e2] at h; exact ih e s h
        | bk e s => rfl
        | rt d s => rfl
        | er x e s => rfl
        | bad => rfl
      · rw [if_neg hk, if_neg hk]
theorem whileN_le {c : MT} {m : MS} {n k : Nat} {env : Env'} {st : List D} (h : whileN c m n env st ≠ .bad) (hk : n ≤ k) : whileN c m k env st = whileN c m n env st := by
  induction hk with
  | refl => rfl
  | step _ ih => rw [whileN_more _ _ _ (by rw [ih]; exact h), ih]
open Classical in
/-- a while: the end that it has after enough turns -/
noncomputable def mWhile (c : MT) (m : MS) : MS := fun env st => if h : ∃ n, whileN c m n env st ≠ .bad then whileN c m h.choose env st else .bad
theorem mWhile_of {c : MT} {m : MS} {n : Nat} {env : Env'} {st : List D} {o : Out} (h : whileN c m n env st = o) (ho : o ≠ .bad) : mWhile c m env st = o := by
  have hx : ∃ n, whileN c m n env st ≠ .bad := ⟨n, by rw [h]; exact ho⟩
  unfold mWhile
  rw [dif_pos hx]
  rcases Nat.le_total n hx.choose with q | q
  · rw [whileN_le (by rw [h]; exact ho) q, h]
  · rw [← whileN_le hx.choose_spec q, h]
theorem mWhile_bad {c : MT} {m : MS} {env : Env'} {st : List D} (h : ∀ n, whileN c m n env st = .bad) : mWhile c m env st = .bad := by
  unfold mWhile
  rw [dif_neg fun ⟨n, q⟩ => q (h n)]
/-- one turn -/
theorem mWhile_eq (c : MT) (m : MS) (env : Env') (st : List D) : mWhile c m env st = match c env st with
    | .ok k st1 => if k = true then (match m env st1 with
        | .nx e s => mWhile c m e s
        | .ct e s => mWhile c m e s
        | .bk e s => .nx e s
        | o => o) else .nx env st1
    | .err x st1 => .er x env st1
    | .bad => .bad := by
  by_cases hx : ∃ n, whileN c m n env st ≠ .bad
  · obtain ⟨n, hn⟩ := hx
    rw [mWhile_of rfl hn]
    cases n with
    | zero => exact absurd rfl hn
    | succ n =>
      unfold whileN at hn ⊢
      cases e : c env st with
      | bad => rfl
      | err x st1 => rfl
      | ok k st1 =>
        rw [e] at hn
        dsimp only at hn ⊢
        by_cases hk : k = true
        · rw [if_pos hk] at hn ⊢
          rw [if_pos hk]
          cases e2 : m env st1 with
          | nx e s => rw [e2] at hn; exact (mWhile_of rfl hn).symm
          | ct e s => rw [e2] at hn; exact (mWhile_of rfl hn).symm
          | bk e s => rfl
          | rt d s => rfl
          | er x e s => rfl
          | bad => rfl
        · rw [if_neg hk, if_neg hk]
  · have hx' : ∀ n, whileN c m n env st = .bad := fun n => Classical.byContradiction fun q => hx ⟨n, q⟩
    rw [mWhile_bad hx']
    cases e : c env st with
    | bad => rfl
    | err x st1 =>
      have := hx' 1
      unfold whileN at this
      rw [e] at this; cases this
    | ok k st1 =>
      dsimp only
      by_cases hk : k = true
      · rw [if_pos hk]
        have key : ∀ n, (match m env st1 with
            | .nx e s => whileN c m n e s
            | .ct e s => whileN c m n e s
            | .bk e s => .nx e s
            | o => o) = .bad := fun n => by
          have := hx' (n + 1)
          unfold whileN at this
          rw [e] at this
          dsimp only at this
          rw [if_pos hk] at this
          exact this
        cases e2 : m env st1 with
        | nx e s => rw [e2] at key; exact (mWhile_bad key).symm
        | ct e s => rw [e2] at key; exact (mWhile_bad key).symm
        | bk e s => have := key 0; rw [e2] at this; cases this
        | rt d s => have := key 0; rw [e2] at this; cases this
        | er x e s => have := key 0; rw [e2] at this; cases this
        | bad => rfl
      · have := hx' 1
        unfold whileN at this
        rw [e] at this
        dsimp only at this
        rw [if_neg hk] at this; cases this
section
variable {G : Glb} {X : Cx} {W : WX} {Ob : Ow} {OE : Ow → Prop} {O O1 : Ow} {pos : Pos} {k : Nat}
theorem ds_while {c : Expr} {body : List Stmt} {t : MT} {m : MS} (xc : XC k G X W) (hc : DT G X W O c t) (hb : DSs G X W O OE O body O m) (hO : OE O := by first | trivial | rfl) : DS G X W Ob OE O (.While c body [] pos) O (mWhile t m) := by
  obtain ⟨tc, pc, wc⟩ := hc.ex
  obtain ⟨tb, pb, wb⟩ := hb.ex
  refine ⟨_, ps_while xc.po pc pb, fun b S env st σ H D I h => ?_⟩
  by_cases hx : ∃ n, whileN t m n env st ≠ .bad
  · obtain ⟨n, hn⟩ := hx
    rw [mWhile_of rfl hn] at h
    refine ⟨fun n σ' H' => ∃ S' env' st', DI G b O S' env' st' σ' H' ∧ PostS G b Ob OE W O D S' (whileN t m n env' st'), ⟨n, S, env, st, I, h⟩, ?_⟩
    rintro n σ' H' ⟨S', env', st', I', h'⟩
    refine wc b S' env' st' σ' H' _ I' ?_
    cases n with
    | zero => exact h'.elim
    | succ n =>
      unfold whileN at h'
      cases e : t env' st' with
      | bad => rw [e] at h'; exact h'.elim
      | err x st1 =>
        rw [e] at h'
        intro cls dd S1 H1 x1 su so r
        exact h' cls dd O S1 σ' H1 hO x1.same (I'.ext x1 su so) r
      | ok k st1 =>
        rw [e] at h'
        intro S1 H1 x1 su1 so1
        have I1 := I'.ext x1 su1 so1
        dsimp only at h'
        cases k with
        | false =>
          rw [if_neg Bool.false_ne_true] at h'
          rw [if_neg Bool.false_ne_true]
          exact h' S1 σ' H1 x1.same I1
        | true =>
          rw [if_pos rfl] at h'
          rw [if_pos rfl]
          refine ⟨fun σ2 H2 => ∃ S2 env2 st2, DI G b O S2 env2 st2 σ2 H2 ∧ PostS G b Ob OE W O D S2 (whileN t m n env2 st2), fun σ2 H2 z => ⟨n, Nat.lt_succ_self n, z⟩, wb b S1 env' st1 σ' H1 _ I1 ?_⟩
          cases e2 : m env' st1 with
          | nx e s => rw [e2] at h'; exact fun S2 σ2 H2 y2 I2 => ⟨S2, e, s, I2, h'.from_ (x1.same.trans y2)⟩
          | ct e s => rw [e2] at h'; exact fun S2 σ2 H2 y2 I2 => ⟨S2, e, s, I2, h'.from_ (x1.same.trans y2)⟩
          | bk e s => rw [e2] at h'; exact fun S2 σ2 H2 y2 I2 => h' S2 σ2 H2 (x1.same.trans y2) I2
          | rt d s => rw [e2] at h'; exact h'
          | er x e s => rw [e2] at h'; exact PostS.from_ x1.same h'
          | bad => rw [e2] at h'; exact h'
  · exact absurd h (by rw [mWhile_bad fun n => Classical.byContradiction fun q => hx ⟨n, q⟩]; exact id)
end
end DL

/-! DL, fifth part: operators and built-ins by data. -/
namespace DL
open PySem PySem.Spec PyProof.Rows L2

/-! ### data as the library's data -/
mutual
def toP : D → PyData
  | .non => .none
  | .bl b => .bool b
  | .int i => .int i
  | .str x => .str x
  | .tup xs => .tuple (toPs xs)
  | .lst xs => .list (toPs xs)
  | .rol xs => .list (toPs xs)
  | .ty _ => .dict []
  | .obj _ _ => .dict []
  | .cls _ => .dict []
  | .tok _ => .dict []
  | .dic => .dict []
  | .tpx _ => .dict []
def toPs : List D → List PyData
  | [] => []
  | x :: xs => toP x :: toPs xs
end
theorem toPs_map : ∀ xs : List D, toPs xs = xs.map toP
  | [] => rfl
  | x :: xs => by rw [toPs, toPs_map xs]; rfl
theorem canAll {x : PyData} {xs : List PyData} (h : PyData.canLayAll0 (x :: xs) = true) : x.canLay0 = true ∧ PyData.canLayAll0 xs = true := by
  have h' : (x.canLay0 && PyData.canLayAll0 xs) = true := by simpa [PyData.canLayAll0] using h
  simpa using h'
section
variable {G : Glb} {ad : List Addr} {S H : Hp}
mutual
theorem Rep.dp (su : Same S H) : ∀ {v : V} {d : D}, Rep G ad S v d → (toP d).canLay0 = true → Dp G.K H v (toP d)
  | _, _, .non, _ => .non
  | _, _, .bl b, _ => .bl b
  | _, _, .int i, _ => .int i
  | _, _, .str x, _ => .str x
  | _, _, .tup h r, c => .tup (Same.sqT su h.sqT) (Reps.dp su r (by simpa [toP, PyData.canLay0] using c))
  | _, _, .lst h r, c => .lst (SqL.of (su _ _ h)) (Reps.dp su r (by simpa [toP, PyData.canLay0] using c))
  | _, _, .rol h r, c => .lst (su.seq h) (Reps.dp su r (by simpa [toP, PyData.canLay0] using c))
  | _, _, .ty _, c => by simp [toP, PyData.canLay0] at c
  | _, _, .obj _ _, c => by simp [toP, PyData.canLay0] at c
  | _, _, .cls _, c => by simp [toP, PyData.canLay0] at c
  | _, _, .tok _, c => by simp [toP, PyData.canLay0] at c
  | _, _, .dic _, c => by simp [toP, PyData.canLay0] at c
  | _, _, .tpx _ _ _ _, c => by simp [toP, PyData.canLay0] at c
theorem Reps.dp (su : Same S H) : ∀ {vs : List V} {ds : List D}, Reps G ad S vs ds → PyData.canLayAll0 (toPs ds) = true → DpAll G.K H vs (toPs ds)
  | _, _, .nil, _ => .nil
  | _, _, .cons h r, c => by
    have c' := canAll c
    exact .cons (Rep.dp su h c'.1) (Reps.dp su r c'.2)
end
end
def eqD (x y : D) : Option Bool := if SeqAt.shaped (toP x) = true ∧ SeqAt.shaped (toP y) = true then some (PyData.eqv (toP x) (toP y)) else none
def dEq (x y : D) : Option D := (eqD x y).map .bl
def dNe (x y : D) : Option D := (eqD x y).map fun b => .bl (!b)
section
variable {G : Glb} {X : Cx}
theorem opd_eq (hK : X.K = G.K) : OpD G (rEqD X.K) dEq := ⟨fun ad S H st x y dx dy d Q su so rx ry e q => by
  unfold dEq eqD at e
  split at e
  · rename_i hs
    have e' : D.bl (PyData.eqv (toP dx) (toP dy)) = d := Option.some.inj e
    subst e'
    exact ⟨_, _, hK ▸ rx.dp su (SeqAt.canLay_of_shaped hs.1), hK ▸ ry.dp su (SeqAt.canLay_of_shaped hs.2), hs.1, hs.2, Post.here su so (.bl _) q⟩
  · cases e⟩
theorem opd_ne (hK : X.K = G.K) : OpD G (rNeD X.K) dNe := ⟨fun ad S H st x y dx dy d Q su so rx ry e q => by
  unfold dNe eqD at e
  split at e
  · rename_i hs
    have e' : D.bl (!PyData.eqv (toP dx) (toP dy)) = d := Option.some.inj e
    subst e'
    exact ⟨_, _, hK ▸ rx.dp su (SeqAt.canLay_of_shaped hs.1), hK ▸ ry.dp su (SeqAt.canLay_of_shaped hs.2), hs.1, hs.2, Post.here su so (.bl _) q⟩
  · cases e⟩
/-- in, not in: a list, a tuple of data -/
def inD (x y : D) : Option Bool := match y with
  | .lst ds => if SeqAt.shaped (toP x) = true ∧ SeqAt.shaped (.list (toPs ds)) = true then some ((toPs ds).any fun z => PyData.eqv z (toP x)) else none
  | .rol ds => if SeqAt.shaped (toP x) = true ∧ SeqAt.shaped (.list (toPs ds)) = true then some ((toPs ds).any fun z => PyData.eqv z (toP x)) else none
  | _ => none
def dIn (x y : D) : Option D := (inD x y).map .bl
def dNotIn (x y : D) : Option D := (inD x y).map fun b => .bl (!b)
theorem opd_in (hK : X.K = G.K) : OpD G (rInD X.K) dIn := ⟨fun ad S H st x y dx dy d Q su so rx ry e q => by
  unfold dIn inD at e
  cases ry <;> try cases e
  all_goals
    rename_i h r
    dsimp only at e
    split at e
    · rename_i hs
      have e' := Option.some.inj e
      subst e'
      have hl := SeqAt.canLay_of_shaped hs.2
      refine ⟨_, _, hK ▸ rx.dp su (SeqAt.canLay_of_shaped hs.1), ?_, hs.1, hs.2, Post.here su so (.bl _) q⟩
      first
        | exact hK ▸ .lst (SqL.of (su _ _ h)) (Reps.dp su r (by simpa [PyData.canLay0] using hl))
        | exact hK ▸ .lst (su.seq h) (Reps.dp su r (by simpa [PyData.canLay0] using hl))
    · cases e⟩
theorem opd_notIn (hK : X.K = G.K) : OpD G (rNotInD X.K) dNotIn := ⟨fun ad S H st x y dx dy d Q su so rx ry e q => by
  unfold dNotIn inD at e
  cases ry <;> try cases e
  all_goals
    rename_i h r
    dsimp only at e
    split at e
    · rename_i hs
      have e' := Option.some.inj e
      subst e'
      have hl := SeqAt.canLay_of_shaped hs.2
      refine ⟨_, _, hK ▸ rx.dp su (SeqAt.canLay_of_shaped hs.1), ?_, hs.1, hs.2, Post.here su so (.bl _) q⟩
      first
        | exact hK ▸ .lst (SqL.of (su _ _ h)) (Reps.dp su r (by simpa [PyData.canLay0] using hl))
        | exact hK ▸ .lst (su.seq h) (Reps.dp su r (by simpa [PyData.canLay0] using hl))
    · cases e⟩

/-! ### ints -/
/-- both sides whole numbers -/
def i2 (f : Int → Int → Option D) : D → D → Option D
  | .int i, .int j => f i j
  | _, _ => none
def i1 (f : Int → D) : D → Option D
  | .int i => some (f i)
  | _ => none
theorem opd_i0 {g : Int → Int → V} {h : Int → Int → D} (hg : ∀ ad S i j, Rep G ad S (g i j) (h i j)) : OpD G (rI0 g) (i2 fun i j => some (h i j)) := ⟨fun ad S H st x y dx dy d Q su so rx ry e q => by
  cases rx <;> try cases e
  cases ry <;> cases e
  exact ⟨_, _, rfl, rfl, Post.here su so (hg _ _ _ _) q⟩⟩
theorem opd_iC {C : Int → Int → Prop} [∀ i j, Decidable (C i j)] {g : Int → Int → V} {h : Int → Int → D} (hg : ∀ ad S i j, Rep G ad S (g i j) (h i j)) : OpD G (rI C g) (i2 fun i j => if C i j then some (h i j) else none) := ⟨fun ad S H st x y dx dy d Q su so rx ry e q => by
  cases rx <;> try cases e
  cases ry <;> try cases e
  rename_i i j
  have e : (if C i j then some (h i j) else none) = some d := e
  by_cases hc : C i j
  · rw [if_pos hc] at e
    cases e
    exact ⟨_, _, rfl, rfl, hc, Post.here su so (hg _ _ _ _) q⟩
  · rw [if_neg hc] at e; cases e⟩
theorem und_i {g : Int → V} {h : Int → D} (hg : ∀ ad S i, Rep G ad S (g i) (h i)) : UnD G (rU g) (i1 h) := ⟨fun ad S H st x dx d Q su so rx e q => by
  cases rx <;> cases e
  exact ⟨_, rfl, Post.here su so (hg _ _ _) q⟩⟩
def dSub : D → D → Option D := i2 fun i j => some (.int (i - j))
def dLt : D → D → Option D := i2 fun i j => some (.bl (decide (i < j)))
def dLe : D → D → Option D := i2 fun i j => some (.bl (decide (i ≤ j)))
def dGt : D → D → Option D := i2 fun i j => some (.bl (decide (j < i)))
def dGe : D → D → Option D := i2 fun i j => some (.bl (decide (j ≤ i)))
def dNeg : D → Option D := i1 fun i => .int (-i)
theorem opd_sub : OpD G (rI0 fun i j => .int (i - j)) dSub := opd_i0 fun _ _ _ _ => .int _
theorem opd_lt : OpD G (rI0 fun i j => .bl (decide (i < j))) dLt := opd_i0 fun _ _ _ _ => .bl _
theorem opd_le : OpD G (rI0 fun i j => .bl (decide (i ≤ j))) dLe := opd_i0 fun _ _ _ _ => .bl _
theorem opd_gt : OpD G (rI0 fun i j => .bl (decide (j < i))) dGt := opd_i0 fun _ _ _ _ => .bl _
theorem opd_ge : OpD G (rI0 fun i j => .bl (decide (j ≤ i))) dGe := opd_i0 fun _ _ _ _ => .bl _
theorem und_neg : UnD G (rU fun i => .int (-i)) dNeg := und_i fun _ _ _ => .int _
/-- the sizes of a product -/
def MulOk (i j : Int) : Prop := i.natAbs < 2 ^ 64 ∨ j.natAbs < 2 ^ 64 ∨ i.natAbs.log2 + j.natAbs.log2 < 1000000
noncomputable instance (i j : Int) : Decidable (MulOk i j) := Classical.propDecidable _
def DivOk (i j : Int) : Prop := j ≠ 0 ∧ (j.natAbs.log2 < 9000 ∨ i.natAbs.log2 < j.natAbs.log2 + 4400)
noncomputable instance (i j : Int) : Decidable (DivOk i j) := Classical.propDecidable _
theorem noPylong_near {x y : Int} (hy : y ≠ 0) (h : x.natAbs.log2 < y.natAbs.log2 + 4400) : Builtin.divisionGoesByPylong x y = false := by
  have e1 : (if y == 0 then 0 else y.natAbs.log2 / 30 + 1) = y.natAbs.log2 / 30 + 1 := if_neg (by simpa using hy)
  have key : (if x == 0 then 0 else x.natAbs.log2 / 30 + 1) ≤ (if y == 0 then 0 else y.natAbs.log2 / 30 + 1) + 150 := by
    rw [e1]
    by_cases hx : (x == 0) = true
    · rw [if_pos hx]; omega
    · rw [if_neg hx]; omega
  show (_ && decide ((if x == 0 then 0 else x.natAbs.log2 / 30 + 1) > (if y == 0 then 0 else y.natAbs.log2 / 30 + 1) + 150)) = false
  rw [decide_eq_false (Nat.not_lt.mpr key), Bool.and_false]
theorem op_mulD : OpR X (binaryOp .Mult) (rI MulOk fun i j => .int (i * j)) := opI fun i j _ _ _ _ _ hc q => by
  refine mul_int q ?_
  rcases hc with h | h | h
  · exact (CMul.ok (i := i) (j := j) (.inl (by omega)))
  · exact (CMul.ok (i := i) (j := j) (.inr (by omega)))
  · exact CMulW.ok h
theorem op_divD : OpR X (binaryOp .FloorDiv) (rI DivOk fun i j => .int (i.fdiv j)) := opI fun i j _ _ _ _ _ hc q => floordiv_int hc.1 q (.inl (hc.2.elim PyProof.noPylong_of_log2 (noPylong_near hc.1)))
theorem op_modD : OpR X (binaryOp .Mod) (rI (fun _ j => j ≠ 0) fun i j => .int (i.fmod j)) := op_modN
noncomputable def dDiv : D → D → Option D := i2 fun i j => if DivOk i j then some (.int (i.fdiv j)) else none
def dMod : D → D → Option D := i2 fun i j => if j ≠ 0 then some (.int (i.fmod j)) else none
theorem opd_div : OpD G (rI DivOk fun i j => .int (i.fdiv j)) dDiv := opd_iC fun _ _ _ _ => .int _
theorem opd_mod : OpD G (rI (fun _ j => j ≠ 0) fun i j => .int (i.fmod j)) dMod := opd_iC (C := fun _ j => j ≠ 0) fun _ _ _ _ => .int _
instance (i j : Int) : Decidable (CPow i j) := inferInstanceAs (Decidable (_ ∧ _ ∧ _))
def dPow : D → D → Option D := i2 fun i j => if CPow i j then some (.int (i ^ j.toNat)) else none
theorem opd_pow : OpD G (rI CPow fun i j => .int (i ^ j.toNat)) dPow := opd_iC fun _ _ _ _ => .int _
/-! ### + and * -/
def dAdd : D → D → Option D
  | .int i, .int j => some (.int (i + j))
  | .str x, .str y => if x.length + y.length ≤ sizeLine then some (.str (x ++ y)) else none
  | .tup xs, .tup ys => if xs.length + ys.length ≤ sizeLine then some (.tup (xs ++ ys)) else none
  | .lst xs, .lst ys => if xs.length + ys.length ≤ sizeLine then some (.lst (xs ++ ys)) else none
  | _, _ => none
theorem op_addD : OpR X (binaryOp .Add) (fun x y H Q => rI0 (fun i j => .int (i + j)) x y H Q ∨ ((∃ i j, x = .str i ∧ y = .str j ∧ i.length + j.length ≤ sizeLine ∧ Q (.str (i ++ j)) H) ∨ (rCatA X.K x y H Q ∨ rCat x y H Q))) := op_add.or (op_add_str.or (op_catA.or op_cat))
theorem opd_add (hK : X.K = G.K) : OpD G (fun x y H Q => rI0 (fun i j => .int (i + j)) x y H Q ∨ ((∃ i j, x = .str i ∧ y = .str j ∧ i.length + j.length ≤ sizeLine ∧ Q (.str (i ++ j)) H) ∨ (rCatA X.K x y H Q ∨ rCat x y H Q))) dAdd := ⟨fun ad S H st x y dx dy d Q su so rx ry e q => by
  unfold dAdd at e
  split at e
  · cases e
    cases rx; cases ry
    exact .inl ⟨_, _, rfl, rfl, Post.here su so (.int _) q⟩
  · split at e <;> cases e
    rename_i hl
    cases rx; cases ry
    exact .inr (.inl ⟨_, _, rfl, rfl, hl, Post.here su so (.str _) q⟩)
  · split at e <;> cases e
    rename_i hl
    cases rx with
    | tup h1 r1 =>
      rename_i a vs
      cases ry with
      | tup h2 r2 =>
        rename_i c ws
        refine .inr (.inr (.inl ⟨a, c, vs, ws, rfl, rfl, hK ▸ Same.sqT su h1.sqT, hK ▸ Same.sqT su h2.sqT, by rw [r1.len, r2.len]; exact hl, fun h0 => ?_, fun h0 h0' => ?_, fun h0 h0' p hp => ?_⟩))
        · subst h0
          cases r1
          exact Post.here su so (.tup h2 r2) q
        · subst h0'
          cases r2
          exact Post.here su so (.tup h1 (by rw [List.append_nil]; exact r1)) q
        · exact Post.tup su so hp (r1.append r2) q
  · split at e <;> cases e
    rename_i hl
    cases rx with
    | lst h1 r1 =>
      rename_i a vs
      cases ry with
      | lst h2 r2 =>
        rename_i c ws
        exact .inr (.inr (.inr ⟨a, c, vs, ws, rfl, rfl, su _ _ h1, su _ _ h2, by rw [r1.len, r2.len]; exact hl, fun p hp => Post.lst su so hp (r1.append r2) q⟩))
  · cases e⟩
def repD (k : Nat) (xs : List D) : List D := (List.replicate k xs).flatten
theorem Reps.rep {ad : List Addr} {S : Hp} {vs : List V} {ds : List D} (r : Reps G ad S vs ds) : ∀ k : Nat, Reps G ad S (List.replicate k vs).flatten (repD k ds)
  | 0 => .nil
  | k + 1 => by
    unfold repD
    rw [List.replicate_succ, List.replicate_succ, List.flatten_cons, List.flatten_cons]
    exact r.append (Reps.rep r k)
noncomputable def dMul : D → D → Option D
  | .int i, .int j => if MulOk i j then some (.int (i * j)) else none
  | .lst xs, .int k => @ite _ (-(2 ^ 63) ≤ k ∧ k < 2 ^ 63 ∧ xs.length * k.toNat ≤ sizeLine) (Classical.propDecidable _) (some (.lst (repD k.toNat xs))) none
  | .tup xs, .int k => if xs ≠ [] ∧ 2 ≤ k ∧ k ≤ 1000 ∧ xs.length ≤ 1000 then some (.tup (repD k.toNat xs)) else none
  | _, _ => none
theorem op_mulD3 : OpR X (binaryOp .Mult) (fun x y H Q => rI MulOk (fun i j => .int (i * j)) x y H Q ∨ (rRep x y H Q ∨ rRepT X.K x y H Q)) := op_mulD.or (op_rep.or op_repT)
theorem opd_mul (hK : X.K = G.K) : OpD G (fun x y H Q => rI MulOk (fun i j => .int (i * j)) x y H Q ∨ (rRep x y H Q ∨ rRepT X.K x y H Q)) dMul := ⟨fun ad S H st x y dx dy d Q su so rx ry e q => by
  unfold dMul at e
  split at e
  · split at e <;> cases e
    rename_i hl
    cases rx; cases ry
    exact .inl ⟨_, _, rfl, rfl, hl, Post.here su so (.int _) q⟩
  · split at e <;> cases e
    rename_i hl
    cases rx with
    | lst h1 r1 =>
      cases ry
      exact .inr (.inl ⟨_, _, _, rfl, rfl, su _ _ h1, hl.1, hl.2.1, by rw [r1.len]; exact hl.2.2, fun p hp => Post.lst su so hp (r1.rep _) q⟩)
  · split at e <;> cases e
    rename_i hl
    cases rx with
    | tup h1 r1 =>
      cases ry
      exact .inr (.inr ⟨_, _, _, rfl, rfl, hK ▸ Same.sqT su h1.sqT, fun z => hl.1 (by subst z; cases r1; rfl), hl.2.1, hl.2.2.1, by rw [r1.len]; exact hl.2.2.2, fun p hp => Post.tup su so hp (r1.rep _) q⟩)
  · cases e⟩
/-! ### is -/
def isNonD : D → Bool
  | .non => true
  | _ => false
theorem isNon_rep {ad : List Addr} {S : Hp} {v : V} {d : D} (r : Rep G ad S v d) : decide (v = .non) = isNonD d := by cases r <;> rfl
def dIsN (x y : D) : Option D := match y with
  | .non => some (.bl (isNonD x))
  | _ => none
def dNotN (x y : D) : Option D := match y with
  | .non => some (.bl (!isNonD x))
  | _ => none
theorem opd_isN : OpD G (fun x y H Q => y = .non ∧ Q (.bl (decide (x = .non))) H) dIsN := ⟨fun ad S H st x y dx dy d Q su so rx ry e q => by
  cases ry <;> cases e
  exact ⟨rfl, by rw [isNon_rep rx]; exact Post.here su so (.bl _) q⟩⟩
theorem opd_notN : OpD G (fun x y H Q => y = .non ∧ Q (.bl (!decide (x = .non))) H) dNotN := ⟨fun ad S H st x y dx dy d Q su so rx ry e q => by
  cases ry <;> cases e
  exact ⟨rfl, by rw [isNon_rep rx]; exact Post.here su so (.bl _) q⟩⟩
def dIsB : D → D → Option D
  | .bl a, .bl b => some (.bl (decide (a = b)))
  | _, _ => none
def dNotB : D → D → Option D
  | .bl a, .bl b => some (.bl (!decide (a = b)))
  | _, _ => none
theorem opd_isB : OpD G (fun x y H Q => ∃ a b, x = .bl a ∧ y = .bl b ∧ Q (.bl (decide (a = b))) H) dIsB := ⟨fun ad S H st x y dx dy d Q su so rx ry e q => by
  cases rx <;> try cases e
  cases ry <;> cases e
  exact ⟨_, _, rfl, rfl, Post.here su so (.bl _) q⟩⟩
theorem opd_notB : OpD G (fun x y H Q => ∃ a b, x = .bl a ∧ y = .bl b ∧ Q (.bl (!decide (a = b))) H) dNotB := ⟨fun ad S H st x y dx dy d Q su so rx ry e q => by
  cases rx <;> try cases e
  cases ry <;> cases e
  exact ⟨_, _, rfl, rfl, Post.here su so (.bl _) q⟩⟩
/-! ### o[i] -/
def dIx : D → D → Option D
  | .lst xs, .int i => atI xs i
  | .rol xs, .int i => atI xs i
  | .tup xs, .int i => atI xs i
  | .str x, .int i => if x.length ≤ sizeLine then (atI x.cps.toList i).map fun c => .str ⟨#[c]⟩ else none
  | _, _ => none
theorem atI_rep {ad : List Addr} {S : Hp} {vs : List V} {ds : List D} {i : Int} {d : D} (r : Reps G ad S vs ds) (h : atI ds i = some d) : ∃ v, atI vs i = some v ∧ Rep G ad S v d := by
  unfold atI at h ⊢
  rw [r.len]
  cases e : ixN ds.length i with
  | none => rw [e] at h; cases h
  | some j =>
    rw [e] at h
    exact r.get (i := j) h
theorem opd_ix (hK : X.K = G.K) : OpD G (rIx X.K) dIx := ⟨fun ad S H st x y dx dy d Q su so rx ry e q => by
  cases ry with
  | int i =>
    cases rx with
    | str z =>
      have e : (if z.length ≤ sizeLine then (atI z.cps.toList i).map fun c => D.str ⟨#[c]⟩ else none) = some d := e
      split at e
      · rename_i hz
        cases ea : atI z.cps.toList i with
        | none => rw [ea] at e; cases e
        | some c =>
          rw [ea] at e
          cases e
          exact .inr (.inr ⟨z, i, c, rfl, rfl, hz, ea, Post.here su so (.str _) q⟩)
      · cases e
    | tup h r =>
      obtain ⟨v, h1, h2⟩ := atI_rep r e
      exact .inr (.inl ⟨_, _, _, _, rfl, rfl, hK ▸ Same.sqT su h.sqT, h1, Post.here su so h2 q⟩)
    | lst h r =>
      obtain ⟨v, h1, h2⟩ := atI_rep r e
      exact .inl ⟨_, _, _, _, rfl, rfl, SqL.of (su _ _ h), h1, Post.here su so h2 q⟩
    | rol h r =>
      obtain ⟨v, h1, h2⟩ := atI_rep r e
      exact .inl ⟨_, _, _, _, rfl, rfl, hK ▸ su.seq h, h1, Post.here su so h2 q⟩
    | _ => cases e
  | _ => cases rx <;> cases e⟩
/-! ### built-ins -/
def c1 (f : D → Option D) : List D → Option D
  | [x] => f x
  | _ => none
theorem reps1 {ad : List Addr} {S : Hp} {vs : List V} {d : D} (r : Reps G ad S vs [d]) : ∃ v, vs = [v] ∧ Rep G ad S v d := by
  cases r with
  | cons h r => cases r; exact ⟨_, rfl, h⟩
theorem reps2 {ad : List Addr} {S : Hp} {vs : List V} {d e : D} (r : Reps G ad S vs [d, e]) : ∃ v w, vs = [v, w] ∧ Rep G ad S v d ∧ Rep G ad S w e := by
  cases r with
  | cons h r =>
    obtain ⟨w, rfl, h2⟩ := reps1 r
    exact ⟨_, _, rfl, h, h2⟩
theorem c1_some {f : D → Option D} {ds : List D} {d : D} (h : c1 f ds = some d) : ∃ x, ds = [x] ∧ f x = some d := by
  match ds, h with
  | [x], h => exact ⟨x, rfl, h⟩
def dAbs : D → Option D := i1 fun i => .int (if i < 0 then -i else i)
theorem cd_abs : CallD G (fun xs H Q => ∃ i, xs = [.int i] ∧ Q (.int (if i < 0 then -i else i)) H) (c1 dAbs) := ⟨fun ad S H st xs ds d Q su so r e q => by
  obtain ⟨x, rfl, e⟩ := c1_some e
  obtain ⟨v, rfl, rv⟩ := reps1 r
  cases rv <;> cases e
  exact ⟨_, rfl, Post.here su so (.int _) q⟩⟩
def dInt1 : D → Option D
  | .int i => some (.int i)
  | .bl b => some (.int (if b then 1 else 0))
  | _ => none
theorem cd_int : CallD G (fun xs H Q => (∃ i, xs = [.int i] ∧ Q (.int i) H) ∨ ∃ k, xs = [.bl k] ∧ Q (.int (if k then 1 else 0)) H) (c1 dInt1) := ⟨fun ad S H st xs ds d Q su so r e q => by
  obtain ⟨x, rfl, e⟩ := c1_some e
  obtain ⟨v, rfl, rv⟩ := reps1 r
  cases rv <;> cases e
  · exact .inr ⟨_, rfl, Post.here su so (.int _) q⟩
  · exact .inl ⟨_, rfl, Post.here su so (.int _) q⟩⟩
def dLen : D → Option D
  | .str x => if x.length ≤ sizeLine then some (.int (x.length : Nat)) else none
  | .lst xs => some (.int (xs.length : Nat))
  | .rol xs => some (.int (xs.length : Nat))
  | .tup xs => some (.int (xs.length : Nat))
  | _ => none
theorem cd_len (hK : X.K = G.K) : CallD G (fun xs H Q => ∃ x n, xs = [x] ∧ LenV X.K x H n ∧ Q (.int n) H) (c1 dLen) := ⟨fun ad S H st xs ds d Q su so r e q => by
  obtain ⟨x, rfl, e⟩ := c1_some e
  obtain ⟨v, rfl, rv⟩ := reps1 r
  cases rv with
  | str z =>
    have e2 : (if z.length ≤ sizeLine then some (D.int (z.length : Nat)) else none) = some d := e
    by_cases hz : z.length ≤ sizeLine
    case neg => rw [if_neg hz] at e2; cases e2
    rw [if_pos hz] at e2
    cases e2
    exact ⟨_, _, rfl, ⟨hz, rfl⟩, Post.here su so (.int _) q⟩
  | tup h r1 => cases e; exact ⟨_, _, rfl, .inr ⟨_, hK ▸ Same.sqT su h.sqT, rfl⟩, by rw [r1.len]; exact Post.here su so (.int _) q⟩
  | lst h r1 => cases e; exact ⟨_, _, rfl, .inl ⟨_, SqL.of (su _ _ h), rfl⟩, by rw [r1.len]; exact Post.here su so (.int _) q⟩
  | rol h r1 => cases e; exact ⟨_, _, rfl, .inl ⟨_, hK ▸ su.seq h, rfl⟩, by rw [r1.len]; exact Post.here su so (.int _) q⟩
  | _ => cases e⟩
def c2i (f : Int → Int → D) : List D → Option D
  | [.int a, .int b] => some (f a b)
  | _ => none
theorem c2i_some {f : Int → Int → D} {ds : List D} {d : D} (h : c2i f ds = some d) : ∃ a b, ds = [.int a, .int b] ∧ d = f a b := by
  match ds, h with
  | [.int a, .int b], h => exact ⟨a, b, rfl, (Option.some.inj h).symm⟩
def dGcd : List D → Option D := c2i fun a b => .int ((Nat.gcd a.natAbs b.natAbs : Nat) : Int)
theorem cd_gcd : CallD G rGcd dGcd := ⟨fun ad S H st xs ds d Q su so r e q => by
  obtain ⟨a, b, rfl, rfl⟩ := c2i_some e
  obtain ⟨v, w, rfl, r1, r2⟩ := reps2 r
  cases r1; cases r2
  exact ⟨a, b, rfl, Post.here su so (.int _) q⟩⟩
/-- list(..), tuple(..) of a list or a tuple -/
def dList : D → Option D
  | .lst xs => some (.lst xs)
  | .rol xs => some (.lst xs)
  | .tup xs => some (.lst xs)
  | _ => none
theorem cd_list (hK : X.K = G.K) : CallD G (fun xs H Q => ∃ p ys, xs = [.ref p] ∧ (SqL X.K H p ys ∨ SqT X.K H p ys) ∧ ∀ l, H l = none → Q (.ref l) (upd H l (.lst ys))) (c1 dList) := ⟨fun ad S H st xs ds d Q su so r e q => by
  obtain ⟨x, rfl, e⟩ := c1_some e
  obtain ⟨v, rfl, rv⟩ := reps1 r
  cases rv with
  | tup h r1 => cases e; exact ⟨_, _, rfl, .inr (hK ▸ Same.sqT su h.sqT), fun l hl => Post.lst su so hl r1 q⟩
  | lst h r1 => cases e; exact ⟨_, _, rfl, .inl (SqL.of (su _ _ h)), fun l hl => Post.lst su so hl r1 q⟩
  | rol h r1 => cases e; exact ⟨_, _, rfl, .inl (hK ▸ su.seq h), fun l hl => Post.lst su so hl r1 q⟩
  | _ => cases e⟩
def dTuple : D → Option D
  | .lst xs => some (.tup xs)
  | .rol xs => some (.tup xs)
  | .tup xs => some (.tup xs)
  | _ => none
theorem cd_tuple (hK : X.K = G.K) : CallD G (fun xs H Q => ∃ p ys, xs = [.ref p] ∧ ((SqL X.K H p ys ∧ ∀ l, H l = none → Q (.ref l) (upd H l (.tup ys))) ∨ (SqT X.K H p ys ∧ Q (.ref p) H))) (c1 dTuple) := ⟨fun ad S H st xs ds d Q su so r e q => by
  obtain ⟨x, rfl, e⟩ := c1_some e
  obtain ⟨v, rfl, rv⟩ := reps1 r
  cases rv with
  | tup h r1 => cases e; exact ⟨_, _, rfl, .inr ⟨hK ▸ Same.sqT su h.sqT, Post.here su so (.tup h r1) q⟩⟩
  | lst h r1 => cases e; exact ⟨_, _, rfl, .inl ⟨SqL.of (su _ _ h), fun l hl => Post.tup su so hl r1 q⟩⟩
  | rol h r1 => cases e; exact ⟨_, _, rfl, .inl ⟨hK ▸ su.seq h, fun l hl => Post.tup su so hl r1 q⟩⟩
  | _ => cases e⟩
/-! ### isinstance -/
/-- the built-in type of a value -/
def tyN : D → Option String
  | .non => some "NoneType"
  | .bl _ => some "bool"
  | .int _ => some "int"
  | .str _ => some "str"
  | .tup _ => some "tuple"
  | .lst _ => some "list"
  | .rol _ => some "list"
  | .dic => some "dict"
  | _ => none
def subTy (a b : String) : Option Bool :=
  if a = b then some true
  else if a = "bool" ∧ b = "int" then some true
  else if (a = "NoneType" ∨ a = "bool" ∨ a = "int" ∨ a = "str" ∨ a = "tuple" ∨ a = "list" ∨ a = "dict") ∧ (b = "bool" ∨ b = "int" ∨ b = "str" ∨ b = "tuple" ∨ b = "list") then some false else none
theorem subTy_ok {K : PySem.W.Frag} {a b : String} {r : Bool} (h : subTy a b = some r) : PySem.W.kitOne K (.type a) (.type b) = some r := by
  refine kit_ty ?_
  unfold subTy at h
  split at h
  · rename_i e; subst e; cases h
    unfold kitB
    simp
  · split at h
    · rename_i e; obtain ⟨rfl, rfl⟩ := e; cases h; decide +kernel
    · split at h
      · rename_i hne hbi e
        cases h
        obtain ⟨ha, hb⟩ := e
        rcases ha with rfl | rfl | rfl | rfl | rfl | rfl | rfl <;> rcases hb with rfl | rfl | rfl | rfl | rfl <;> first | decide +kernel | exact absurd rfl hne | exact absurd (And.intro rfl rfl) hbi
      · cases h
def isiD (x c : D) : Option Bool := match tyN x, c with
  | some a, .ty b => subTy a b
  | _, _ => none
def anyIsi (x : D) : List D → Option Bool
  | [] => some false
  | c :: cs => match isiD x c, anyIsi x cs with
    | some a, some b => some (a || b)
    | _, _ => none
def dIsi : List D → Option D
  | [x, .tup (c :: cs)] => (anyIsi x (c :: cs)).map .bl
  | [x, c] => (isiD x c).map .bl
  | _ => none
theorem tyN_ok {ad : List Addr} {S H : Hp} {v : V} {d : D} {a : String} (su : Same S H) (r : Rep G ad S v d) (ea : tyN d = some a) : TyX G.K H v (.type a) := by
  cases r <;> cases ea
  · exact .base .non
  · exact .base (.bl _)
  · exact .base (.int _)
  · exact .base (.str _)
  · rename_i h r
    rcases h with h | ⟨o, its, n, h1, h2, _⟩ | ⟨o, ns, _, h⟩
    · exact .base (.tup (su _ _ h))
    · exact .kTuple h1 h2
    · exact .fTuple (su _ _ h)
  · rename_i h r
    exact .base (.lst (su _ _ h))
  · rename_i h r
    rcases h with (h | ⟨o, h⟩) | ⟨o, its, n, h1, h2, _⟩
    · exact .base (.lst (su _ _ h))
    · exact .base (.frz (su _ _ h))
    · exact .kList h1 h2
  · rename_i h
    exact .base (.dK (su _ _ h))
theorem isi_cls {ad : List Addr} {S : Hp} {w : V} {d c : D} {k : Bool} (rc : Rep G ad S w c) (h : isiD d c = some k) : ∃ a b, tyN d = some a ∧ ClsV w (.type b) ∧ PySem.W.kitOne G.K (.type a) (.type b) = some k := by
  unfold isiD at h
  split at h
  · rename_i a b ea
    cases rc
    exact ⟨a, b, ea, .ty b, subTy_ok h⟩
  · cases h
theorem any_ok {ad : List Addr} {S : Hp} {d : D} {a : String} (ea : tyN d = some a) : ∀ {ws : List V} {cs : List D} {k : Bool}, Reps G ad S ws cs → anyIsi d cs = some k → ∃ us, Paired ClsV ws us ∧ PySem.W.kitAny G.K (.type a) us = some k
  | _, _, k, .nil, h => ⟨[], .nil, by cases h; rfl⟩
  | _, _, k, .cons (v := w) (d := c) (ds := cs) rc rr, h => by
    unfold anyIsi at h
    split at h
    · rename_i p q e1 e2
      cases h
      obtain ⟨us, hu, hk⟩ := any_ok ea rr e2
      obtain ⟨a', b, ea', hc, h1⟩ := isi_cls rc e1
      rw [ea] at ea'
      cases ea'
      refine ⟨_, .cons hc hu, kitAny_cons h1 (fun z => ?_) (fun z => ?_)⟩
      · rw [z]; exact hk
      · rw [z]; rfl
    · cases h
theorem cd_isi (hK : X.K = G.K) : CallD G (fun xs H Q => rIsi X.K xs H Q ∨ (rIsiT X.K xs H Q ∨ rIsiK X.K xs H Q)) dIsi := ⟨fun ad S H st xs ds d Q su so r e q => by
  unfold dIsi at e
  split at e
  · rename_i x c0 cs0
    obtain ⟨v, w, rfl, r1, r2⟩ := reps2 r
    obtain ⟨cs, hcs⟩ : ∃ cs, cs = c0 :: cs0 := ⟨_, rfl⟩
    rw [← hcs] at e r2
    cases ek : anyIsi x cs with
    | none => rw [ek] at e; cases e
    | some k =>
      rw [ek] at e
      cases e
      cases r2 with
      | tup h2 r2 =>
        obtain ⟨a, ea⟩ : ∃ a, tyN x = some a := by
          rw [hcs] at ek
          unfold anyIsi isiD at ek
          cases et : tyN x with
          | none => rw [et] at ek; cases ek
          | some a => exact ⟨a, rfl⟩
        obtain ⟨us, p, hk⟩ := any_ok ea r2 ek
        rcases h2 with h2 | ⟨o, its, n, h3, h4, h5, h6, h7⟩ | ⟨o, ns, h3, h4⟩
        rotate_left 2
        · exfalso
          subst h3
          rw [hcs] at r2 ek
          cases ns with
          | nil => cases r2
          | cons n ns =>
            cases r2 with
            | cons r3 r4 =>
              cases r3
              unfold anyIsi isiD at ek
              cases et : tyN x with
              | none => rw [et] at ek; cases ek
              | some a => rw [et] at ek; cases ek
        · exact .inr (.inl ⟨v, _, _, .type a, us, k, rfl, su _ _ h2, p, hK ▸ tyN_ok su r1 ea, hK ▸ hk, Post.here su so (.bl _) q⟩)
        · have e3 : its.toList = us := ClsV.all p h7
          obtain ⟨oc, od, dt, sl⟩ := o
          simp only at h4 h5
          subst h4 h5
          refine .inr (.inr ⟨v, _, od, us, n, sl, .type a, k, rfl, ?_, hK ▸ tyN_ok su r1 ea, hK ▸ hk, Post.here su so (.bl _) q⟩)
          rw [hK, h3, ← e3]
  · rename_i x c hne
    obtain ⟨v, w, rfl, r1, r2⟩ := reps2 r
    cases ek : isiD x c with
    | none => rw [ek] at e; cases e
    | some k =>
      rw [ek] at e
      cases e
      obtain ⟨a, b, ea, hc, h1⟩ := isi_cls r2 ek
      exact .inl ⟨v, w, .type a, .type b, k, rfl, hc, hK ▸ tyN_ok su r1 ea, hK ▸ h1, Post.here su so (.bl _) q⟩
  · cases e⟩
end
end DL

/-! DL, sixth part: truth, cells, try, comprehensions. -/
namespace DL
open PySem PySem.Spec PyProof.Rows L2

/-! ### truth of a value -/
def tru? : D → M Bool
  | .non => fun st => .ok false st
  | .bl b => fun st => .ok b st
  | .int i => fun st => .ok (i != 0) st
  | .str x => fun st => if x.length ≤ sizeLine then .ok ((x.length : Int) != 0) st else .bad
  | .lst xs => fun st => .ok (!xs.isEmpty) st
  | .rol xs => fun st => .ok (!xs.isEmpty) st
  | .tup xs => fun st => .ok (!xs.isEmpty) st
  | _ => fun _ => .bad
def mTru (ma : ME) : MT := fun env st => (ma env st).bind tru?
theorem reps_empty {G : Glb} {ad : List Addr} {S : Hp} {vs : List V} {ds : List D} (r : Reps G ad S vs ds) : vs.isEmpty = ds.isEmpty := by cases r <;> rfl
section
variable {G : Glb} {X : Cx} {W : WX} {O : Ow} {pos : Pos}
theorem dt_tru {e : Expr} {m : ME} (hK : X.K = G.K) (h : DE G X W O e m) (he : ∀ whole, isTrue e X.env whole = (do let v ← whole; standAt e.pos; holding [v] (truthy v)) := by intro _; rfl) : DT G X W O e (mTru m) := by
  obtain ⟨t, p, w⟩ := h.ex
  refine ⟨_, pt_truth p he, fun b S env st σ H Q I h => w b S env st σ H _ I (wpR_imp (wpR_bind h) (fun dx st1 h1 => ?_) fun _ _ z => z)⟩
  intro x S1 H1 x1 su1 so1 r1
  cases r1 with
  | non => exact ⟨_, rfl, h1 _ _ x1 su1 so1⟩
  | bl b => exact ⟨_, rfl, h1 _ _ x1 su1 so1⟩
  | int i => exact ⟨_, rfl, h1 _ _ x1 su1 so1⟩
  | str z =>
    have e0 : tru? (.str z) st1 = if z.length ≤ sizeLine then Res.ok ((z.length : Int) != 0) st1 else .bad := rfl
    rw [e0] at h1
    by_cases hz : z.length ≤ sizeLine
    · rw [if_pos hz] at h1
      exact ⟨_, ⟨hz, rfl⟩, h1 _ _ x1 su1 so1⟩
    · rw [if_neg hz] at h1; exact h1.elim
  | tup h r => exact ⟨_, .inr (.inl ⟨_, hK ▸ Same.sqT su1 h.sqT, rfl⟩), by rw [reps_empty r]; exact h1 _ _ x1 su1 so1⟩
  | lst h r => exact ⟨_, .inl ⟨_, SqL.of (su1 _ _ h), rfl⟩, by rw [reps_empty r]; exact h1 _ _ x1 su1 so1⟩
  | rol h r => exact ⟨_, .inl ⟨_, hK ▸ su1.seq h, rfl⟩, by rw [reps_empty r]; exact h1 _ _ x1 su1 so1⟩
  | _ => exact h1.elim

/-! ### cells -/
def ixS (x y : D) : M D := fun st => match x with
  | .tok n => match st[n]?, y with
    | some (.lst ds), .int i => ret? (atI ds i) st
    | _, _ => .bad
  | _ => ret? (dIx x y) st
theorem ixS_other {x y : D} {st : List D} (hn : ∀ n, x ≠ .tok n) : ixS x y st = ret? (dIx x y) st := by
  unfold ixS
  cases x <;> first | rfl | exact absurd rfl (hn _)
theorem ixS_tok {n : Nat} {i : Int} {st ds : List D} (h : st[n]? = some (.lst ds)) : ixS (.tok n) (.int i) st = ret? (atI ds i) st := by
  show (match st[n]?, D.int i with | some (.lst ds), .int i => ret? (atI ds i) st | _, _ => .bad) = _
  rw [h]
theorem ixS_tokI {n : Nat} {y : D} {st : List D} {ds : List D} (h : st[n]? = some (.lst ds)) (hy : ∀ i, y ≠ .int i) : ixS (.tok n) y st = .bad := by
  show (match st[n]?, y with | some (.lst ds), .int i => ret? (atI ds i) st | _, _ => .bad) = _
  rw [h]
  cases y <;> first | rfl | exact absurd rfl (hy _)
/-- o[i], o a cell or any other -/
def mIx (ma mb : ME) : ME := fun env st => (ma env st).bind fun x st1 => (mb env st1).bind fun y => ixS x y
theorem de_get {a b : Expr} {ma mb : ME} (hK : X.K = G.K) (ha : DE G X W O a ma) (hb : DE G X W O b mb) (hs : PlainIx b := by intro _ _; rfl) : DE G X W O (.Subscript a b pos) (mIx ma mb) := by
  obtain ⟨ta, tb, pa, pb, w⟩ := two_parts (k := ixS) ha hb
  refine ⟨_, pe_ix ix_seq pa pb hs, fun b S env st σ H Q I h => w b S env st σ H _ (fun x y H2 => rIx X.K x y H2 Q) I h fun x y dx dy S' H' st' e I' rx ry hk => ?_⟩
  by_cases ht : ∃ n, dx = .tok n
  · obtain ⟨n, rfl⟩ := ht
    cases rx with
    | tok ha =>
      rename_i a
      obtain ⟨h1, ds, vs, h2, h3, h4⟩ := I'.sto.at_ n a ha
      cases ry with
      | int i =>
        rw [ixS_tok h2] at hk
        obtain ⟨d, e1, q⟩ := wp_ret hk
        obtain ⟨v, e2, r2⟩ := atI_rep h4 e1
        exact .inl ⟨_, _, _, _, rfl, rfl, SqL.of h3, e2, Post.here I'.sub I'.sto r2 (Post.from_ e I'.sto q)⟩
      | _ => rw [ixS_tokI h2 (fun i z => by cases z)] at hk; exact hk.elim
  · rw [ixS_other fun n z => ht ⟨n, z⟩] at hk
    obtain ⟨d, e1, q⟩ := wp_ret hk
    exact (opd_ix hK).go b.ad S' H' st' x y dx dy d Q I'.sub I'.sto rx ry e1 (Post.from_ e I'.sto q)
theorem nodup_inj {α : Type} {l : List α} {i j : Nat} (nd : l.Nodup) (hi : i < l.length) (hj : j < l.length) (e : l[i] = l[j]) : i = j := (List.getElem_inj nd).mp e
theorem StoOk.put {ad : List Addr} {S H : Hp} {st : List D} {n j : Nat} {a : Addr} {ds : List D} {vs : List V} {v : V} {d : D} (so : StoOk G ad S st H) (ha : ad[n]? = some a) (hd : st[n]? = some (.lst ds)) (hv : H a = some (.lst vs)) (r : Rep G ad S v d) : StoOk G ad S (st.set n (.lst (ds.set j d))) (upd H a (.lst (vs.set j v))) := by
  refine ⟨by rw [List.length_set]; exact so.len, so.nd, fun m c hc => ?_, so.tab.keep fun b u h n => by rw [upd_ne (fun z => by rw [z, hv] at h; cases h; exact n.lst)]; exact h⟩
  obtain ⟨h1, es, ws, h2, h3, h4⟩ := so.at_ m c hc
  by_cases hm : m = n
  · subst hm
    have e1 : a = c := Option.some.inj (ha.symm.trans hc)
    subst e1
    rw [hd] at h2; cases h2
    rw [hv] at h3; cases h3
    have hl : m < st.length := (List.getElem?_eq_some_iff.mp hd).1
    exact ⟨h1, _, _, List.getElem?_set_self hl, upd_same, h4.set j r⟩
  · have hne : c ≠ a := fun z => hm (by
      subst z
      have i1 := (List.getElem?_eq_some_iff.mp hc)
      have i2 := (List.getElem?_eq_some_iff.mp ha)
      exact nodup_inj so.nd i1.1 i2.1 (i1.2.trans i2.2.symm))
    refine ⟨h1, es, ws, ?_, ?_, h4⟩
    · rw [List.getElem?_set_ne (Ne.symm hm)]; exact h2
    · rw [upd_ne hne]; exact h3
/-- cell[k] = e -/
def mPut (i : Nat) (k : Int) (m : ME) : MS := mDo m fun d env st => match env[i]? with
  | some (some (.tok n)) => match st[n]? with
    | some (.lst ds) => match ixN ds.length k with
      | some j => .nx env (st.set n (.lst (ds.set j d)))
      | none => .bad
    | _ => .bad
  | _ => .bad
theorem ds_put {Ob : Ow} {OE : Ow → Prop} (i : Nat) {x : Str} {k : Int} {j} {p1 p2 p3 : Pos} {e : Expr} {me : ME} (he : DE G X W O e me) (hO : OE O := by first | trivial | rfl) (hN : X.N[i]? = some x := by rfl) (ho : O.has i = false := by rfl)
    (hv : Vis X.env.scope x := by first | exact Or.inl rfl | exact Or.inr (Or.inl rfl) | exact Or.inr (Or.inr rfl)) (hd : (x == ("__debug__" : Str)) = false := by decide) (hcd : (x == ("__classdict__" : Str)) = false := by decide)
    (ha : ∀ v, assign (.Subscript (.Name x p1) (.Constant (.int k) j p2) p3) X.env v = (do
      let ov ← holding [v] (eval (.Name x p1) X.env)
      let iv ← holding [v, ov] (eval (.Constant (.int k) j p2) X.env)
      standAt p3
      holding [v, ov, iv] (setItem ov iv v)
      release [v, ov, iv] []) := by intro _; rfl)
    (hs : swapsWithSole [.Subscript (.Name x p1) (.Constant (.int k) j p2) p3] e pos.line X.env = pure false := by rfl) (hw : swappedStores [.Subscript (.Name x p1) (.Constant (.int k) j p2) p3] e X.env = pure none := by rfl)
    (h1 : (assignEach [.Subscript (.Name x p1) (.Constant (.int k) j p2) p3] X.env).map (·.2) = [assign (.Subscript (.Name x p1) (.Constant (.int k) j p2) p3) X.env] := by rfl) :
    DS G X W Ob OE O (.Assign [.Subscript (.Name x p1) (.Constant (.int k) j p2) p3] e pos) O (mPut i k me) := by
  obtain ⟨t, p, w⟩ := he.ex
  refine ⟨_, ps_asg p (pg_sub (pe_var hN hv hd hcd) pe_int set_list ha) hs hw h1, fun b S env st σ H D I h => do_part hO w I h fun v d S' H' st' I' r q => ?_⟩
  cases e1 : env[i]? with
  | none => rw [e1] at q; exact q.elim
  | some o =>
    rw [e1] at q
    cases o with
    | none => exact q.elim
    | some d0 =>
      obtain ⟨v0, hv0, r0⟩ := I'.slot i d0 e1 ho
      cases r0 with
      | tok ha0 =>
        rename_i a n
        obtain ⟨g1, ds, vs, g2, g3, g4⟩ := I'.sto.at_ n a ha0
        dsimp only at q
        rw [g2] at q
        dsimp only at q
        cases e2 : ixN ds.length k with
        | none => rw [e2] at q; exact q.elim
        | some jj =>
          rw [e2] at q
          refine ⟨_, hv0, a, vs, k, jj, rfl, rfl, g3, by rw [g4.len]; exact e2, ?_⟩
          have so2 := StoOk.put (j := jj) I'.sto ha0 g2 g3 r
          refine q S' σ _ (.refl _) ⟨I'.len, fun c o hc => ?_, I'.s0, I'.new, fun c o hc hna => ?_, I'.slot, fun m d' hm hd' => ?_, I'.dist, so2, I'.exc, fun m hm => ?_⟩
          · rw [upd_ne fun z => by subst z; rw [g1] at hc; cases hc]; exact I'.sub _ _ hc
          · exact (I'.keep c o hc hna).map fun o' h' => by rw [upd_ne fun z => hna (by subst z; exact List.mem_iff_getElem?.mpr ⟨n, ha0⟩)]; exact h'
          · obtain ⟨c, ws, es, q1, q2, q3, q4, q5, q6, q7⟩ := I'.own m d' hm hd'
            refine ⟨c, ws, es, q1, q2, ?_, q4, q5, q6, q7⟩
            rw [upd_ne fun z => q6 (by subst z; exact List.mem_iff_getElem?.mpr ⟨n, ha0⟩)]; exact q3
          · obtain ⟨c, ws, es, q1, q2, q3, q4, q5, q6, q7, q8, q9, q10, q11⟩ := I'.self_ m hm
            have na : a ∈ b.ad := List.mem_iff_getElem?.mpr ⟨n, ha0⟩
            exact ⟨c, ws, es, q1, q2, (upd_ne (show O.slv.1 ≠ a from fun z => q9 (z ▸ na))).trans q3, (upd_ne (show O.slv.2 ≠ a from fun z => q10 (z ▸ na))).trans q4, q5, q6, q7, q8, q9, q10, q11⟩
      | _ => exact q.elim
end

/-! ### try -/
abbrev W0 : WX := fun _ _ _ _ => False
theorem takesW0 {X : Cx} : Takes X W0 := takes0
/-- a reading weakened -/
theorem PSs.imp {X : Cx} {st : List Stmt} {t t' : TS} (h : PSs X st t) (hi : ∀ D σ H, t' D σ H → t D σ H) : PSs X st t' := ⟨fun pins s σ H D I q => h.run pins s σ H D I (hi _ _ _ q)⟩
theorem DI.unexc {G : Glb} {b : Act} {own : List Nat} {i : Nat} {exv : Addr × Value × Option Addr} {S H : Hp} {env : Env'} {st : List D} {σ : L2.St} (I : DI G b ⟨own, some i, exv, none, (0, 0)⟩ S env st σ H) (hi : own.elem i = false) (v : Addr × Value × Option Addr) : DI G b ⟨own, none, v, none, (0, 0)⟩ S (env.set i none) st (σ.set i none) H := by
  have hne : ∀ {j : Nat}, j ∈ own → j ≠ i := fun {j} hj z => by
    subst z
    rw [List.elem_eq_true_of_mem hj] at hi; cases hi
  have other : ∀ {j : Nat} {d' : D}, (env.set i none)[j]? = some (some d') → j ≠ i ∧ env[j]? = some (some d') := fun {j d'} h => by
    by_cases hj : j = i
    · subst hj
      by_cases hl : j < env.length
      · rw [List.getElem?_set_self hl] at h; cases h
      · rw [List.getElem?_eq_none_iff.mpr (by rw [List.length_set]; exact Nat.le_of_not_lt hl)] at h; cases h
    · rw [List.getElem?_set_ne (Ne.symm hj)] at h; exact ⟨hj, h⟩
  refine ⟨by rw [List.length_set, List.length_set]; exact I.len, I.sub, I.s0, I.new, I.keep, fun j d' h ho => ?_, fun j d' hj h => ?_, fun j k a hj hk e1 e2 q1 q2 => ?_, I.sto, fun j d' hj => (by cases hj), fun j hj => (by cases hj)⟩
  · obtain ⟨hn, h⟩ := other h
    have ho' : (Ow.mk own (some i) exv none (0, 0)).has j = false := by
      unfold Ow.has at ho ⊢
      have h1 : own.elem j = false := by
        cases e : own.elem j with
        | false => rfl
        | true => rw [show (Ow.mk own none v none (0, 0)).own.elem j = true from e] at ho; cases ho
      have h2 : ((Ow.mk own (some i) exv none (0, 0)).exi == some j) = false := by
        simpa using (Ne.symm hn)
      rw [show (Ow.mk own (some i) exv none (0, 0)).own.elem j = false from h1, h2]; rfl
    obtain ⟨w, q1, q2⟩ := I.slot j d' h ho'
    exact ⟨w, by rw [List.getElem?_set_ne (Ne.symm hn)]; exact q1, q2⟩
  · obtain ⟨hn, h⟩ := other h
    obtain ⟨a, vs, ds, q1, q2, q3⟩ := I.own j d' hj h
    exact ⟨a, vs, ds, q1, by rw [List.getElem?_set_ne (Ne.symm hn)]; exact q2, q3⟩
  · obtain ⟨d1, e1⟩ := e1
    obtain ⟨d2, e2⟩ := e2
    obtain ⟨hn1, e1⟩ := other e1
    obtain ⟨hn2, e2⟩ := other e2
    rw [List.getElem?_set_ne (Ne.symm hn1)] at q1
    rw [List.getElem?_set_ne (Ne.symm hn2)] at q2
    exact I.dist j k a hj hk ⟨d1, e1⟩ ⟨d2, e2⟩ q1 q2
theorem DI.toexc {G : Glb} {b : Act} {own : List Nat} {v : Addr × Value × Option Addr} {i : Nat} {a : Addr} {cls : Value} {dd : Option Addr} {x : Ex} {S H : Hp} {env : Env'} {st : List D} {σ : L2.St} (I : DI G b ⟨own, none, v, none, (0, 0)⟩ S env st σ H) (hi : own.elem i = false) (r : RepX G b.ad S cls dd x) : DI G b ⟨own, some i, (a, cls, dd), none, (0, 0)⟩ S (env.set i (some (exObj x))) st (σ.set i (some (.ref a))) H := by
  have hne : ∀ {j : Nat}, j ∈ own → j ≠ i := fun {j} hj z => by
    subst z
    rw [List.elem_eq_true_of_mem hj] at hi; cases hi
  have other : ∀ {j : Nat} {d' : D}, j ≠ i → (env.set i (some (exObj x)))[j]? = some (some d') → env[j]? = some (some d') := fun {j d'} hj h => by
    rw [List.getElem?_set_ne (Ne.symm hj)] at h; exact h
  refine ⟨by rw [List.length_set, List.length_set]; exact I.len, I.sub, I.s0, I.new, I.keep, fun j d' h ho => ?_, fun j d' hj h => ?_, fun j k a' hj hk e1 e2 q1 q2 => ?_, I.sto, fun j d' hj h => ?_, fun j hj => (by cases hj)⟩
  · have hn : j ≠ i := fun z => by
      subst z
      unfold Ow.has at ho
      simp at ho
    have ho' : (Ow.mk own none v none (0, 0)).has j = false := by
      unfold Ow.has at ho ⊢
      have h1 : own.elem j = false := by
        cases e : own.elem j with
        | false => rfl
        | true => rw [show (Ow.mk own (some i) (a, cls, dd) none (0, 0)).own.elem j = true from e] at ho; cases ho
      rw [show (Ow.mk own none v none (0, 0)).own.elem j = false from h1]; rfl
    obtain ⟨w, q1, q2⟩ := I.slot j d' (other hn h) ho'
    exact ⟨w, by rw [List.getElem?_set_ne (Ne.symm hn)]; exact q1, q2⟩
  · obtain ⟨a', vs, ds, q1, q2, q3⟩ := I.own j d' hj (other (hne hj) h)
    exact ⟨a', vs, ds, q1, by rw [List.getElem?_set_ne (Ne.symm (hne hj))]; exact q2, q3⟩
  · rw [List.getElem?_set_ne (Ne.symm (hne hj))] at q1
    rw [List.getElem?_set_ne (Ne.symm (hne hk))] at q2
    obtain ⟨d1, e1⟩ := e1
    obtain ⟨d2, e2⟩ := e2
    exact I.dist j k a' hj hk ⟨d1, other (hne hj) e1⟩ ⟨d2, other (hne hk) e2⟩ q1 q2
  · cases hj
    by_cases hl : i < env.length
    · rw [List.getElem?_set_self hl] at h
      have e : exObj x = d' := by simpa using h
      exact ⟨x, e.symm, by rw [List.getElem?_set_self (by rw [I.len]; exact hl)], r⟩
    · rw [List.getElem?_eq_none_iff.mpr (by rw [List.length_set]; exact Nat.le_of_not_lt hl)] at h; cases h

/-- behind a suite: slot i forgotten, no error -/
def unX (i : Nat) : Out → Out
  | .nx env st => .nx (env.set i none) st
  | .rt d st => .rt d st
  | .bk env st => .bk (env.set i none) st
  | .ct env st => .ct (env.set i none) st
  | .er _ _ _ => .bad
  | .bad => .bad
def mTryAs (cl : Nat → Option Bool) (i : Nat) (m ms : MS) : MS := fun env st => match m env st with
  | .er x env1 st1 => match cl x.c with
    | some true => unX i (ms (env1.set i (some (exObj x))) st1)
    | some false => .er x env1 st1
    | none => .bad
  | o => o
section
variable {G : Glb} {X : Cx} {W : WX} {OE : Ow → Prop} {pos pos' np : Pos} {k : Nat}
theorem XC.tr (xc : XC k G X W) {W' : WX} {pn : List (Addr × Obj)} {xe : Value → Shared → Prop} (tk : Takes (X.tr pn xe) W') (po : PassesOwn (model X.prog X.w) X.A X.env xe) : XC k G (X.tr pn xe) W' := ⟨tk, po, xc.calm, xc.hr, xc.K⟩
theorem XT.tr (t : XT X) (pn : List (Addr × Obj)) (xe : Value → Shared → Prop) : XT (X.tr pn xe) := ⟨t.stk, t.fr⟩
theorem ds_try_as {own ob : List Nat} {body suite : List Stmt} {b₀ : Stmt} {x n : Str} {cv : Value} {m ms : MS} (i : Nat) (cl : Nat → Option Bool) (xc : XC k G X W) (xt : XT X) (hN : X.N.Nodup) (hc : Names X x cv) (hcl : ∀ c b, cl c = some b → PySem.W.exmOne G.K (.ref (G.cl c)) cv = some b)
    (hb : ∀ (W' : WX) (pn : List (Addr × Obj)) (xe : Value → Shared → Prop), XC k G (X.tr pn xe) W' → XT (X.tr pn xe) → DSs G (X.tr pn xe) W' ⟨ob, none, (0, .none, none), none, (0, 0)⟩ (· = ⟨own, none, (0, .none, none), none, (0, 0)⟩) ⟨own, none, (0, .none, none), none, (0, 0)⟩ body ⟨own, none, (0, .none, none), none, (0, 0)⟩ m)
    (hsu : ∀ (a : Addr) (oe : Obj) (cls : Value) (d : Option Addr) (pn : List (Addr × Obj)), Zc cls d oe → (∃ vs, oe.data = .fields vs) → DSs G (X.suite a ((a, oe) :: pn)) W0 ⟨ob, some i, (a, cls, d), none, (0, 0)⟩ (fun _ => True) ⟨own, some i, (a, cls, d), none, (0, 0)⟩ (b₀ :: suite) ⟨own, some i, (a, cls, d), none, (0, 0)⟩ ms)
    (hO : OE ⟨own, none, (0, .none, none), none, (0, 0)⟩ := by first | trivial | rfl) (hi : X.N[i]? = some n := by rfl) (hln : X.env.kindOf n = some .local := by rfl) (hio : own.elem i = false := by rfl) (hib : ob.elem i = false := by rfl) :
    DS G X W ⟨ob, none, (0, .none, none), none, (0, 0)⟩ OE ⟨own, none, (0, .none, none), none, (0, 0)⟩ (.Try body [.ExceptHandler (some (.Name x np)) (some n) (b₀ :: suite) pos'] [] [] pos) ⟨own, none, (0, .none, none), none, (0, 0)⟩ (mTryAs cl i m ms) := by
  refine ⟨_, ps_try_as (i := i) (Wout := W)
    (tb := fun W' D σ H => ∃ b S env st, DI G b ⟨own, none, (0, .none, none), none, (0, 0)⟩ S env st σ H ∧ PostS G b ⟨ob, none, (0, .none, none), none, (0, 0)⟩ (· = ⟨own, none, (0, .none, none), none, (0, 0)⟩) W' ⟨own, none, (0, .none, none), none, (0, 0)⟩ D S (m env st))
    (ts := fun a cls d D σ H => ∃ b S env st, DI G b ⟨own, some i, (a, cls, d), none, (0, 0)⟩ S env st σ H ∧ PostS G b ⟨ob, some i, (a, cls, d), none, (0, 0)⟩ (fun _ => True) W0 ⟨own, some i, (a, cls, d), none, (0, 0)⟩ D S (ms env st))
    xt.stk xt.fr hN hi hln hc xc.tk (fun W' pn xe tk po => ?_) (fun a oe cls d pn hz hf => ?_), fun b S env st σ H D I h => ?_⟩
  · obtain ⟨t, p, w⟩ := (hb W' pn xe (xc.tr tk po) (xt.tr pn xe)).ex
    exact PSs.imp p fun D σ H ⟨b, S, env, st, I, q⟩ => w b S env st σ H D I q
  · obtain ⟨t, p, w⟩ := (hsu a oe cls d pn hz hf).ex
    exact PSs.imp p fun D σ H ⟨b, S, env, st, I, q⟩ => w b S env st σ H D I q
  · refine ⟨b, S, env, st, I, ?_⟩
    unfold mTryAs at h
    cases e : m env st with
    | nx env1 st1 => rw [e] at h; exact h
    | rt d st1 => rw [e] at h; exact h
    | bk env1 st1 => rw [e] at h; exact h
    | ct env1 st1 => rw [e] at h; exact h
    | bad => rw [e] at h; exact h
    | er x env1 st1 =>
      rw [e] at h
      dsimp only at h
      intro cls dd O' S1 σ1 H1 hO' e1 I1 rx
      subst hO'
      cases ec : cl x.c with
      | none => rw [ec] at h; exact h.elim
      | some bb =>
        rw [ec] at h
        refine ⟨bb, by rw [xc.K, rx.1]; exact hcl _ _ ec, fun hbb a ha => ?_, fun hbb => ?_⟩
        · subst hbb
          dsimp only at h
          refine ⟨b, S1, _, st1, I1.toexc hio rx, ?_⟩
          cases es : ms (env1.set i (some (exObj x))) st1 with
          | nx env2 st2 =>
            rw [es] at h
            exact fun S2 σ2 H2 e2 I2 => h S2 _ H2 (e1.trans e2) (I2.unexc hio _)
          | rt d st2 => rw [es] at h; exact h
          | bk env2 st2 =>
            rw [es] at h
            exact fun S2 σ2 H2 e2 I2 => h S2 _ H2 (e1.trans e2) (I2.unexc hib _)
          | ct env2 st2 =>
            rw [es] at h
            exact fun S2 σ2 H2 e2 I2 => h S2 _ H2 (e1.trans e2) (I2.unexc hib _)
          | er x2 env2 st2 => rw [es] at h; exact h.elim
          | bad => rw [es] at h; exact h.elim
        · subst hbb
          exact h cls dd _ S1 σ1 H1 hO e1 I1 rx
end
/-! ### isinstance of the caught error -/
def mIsX (i : Nat) (tab : Nat → D → Option Bool) (mc : ME) : ME := fun env st => match env[i]? with
  | some (some (.obj c [])) => (mc env st).bind fun d => ret? ((tab c d).map .bl)
  | _ => .bad
def clsV (G : Glb) : D → Option Value
  | .cls c => some (.ref (G.cl c))
  | .ty n => some (.type n)
  | _ => none
end DL

/-! DL, seventh part: errors in suites, comprehensions, the law's own def. -/
namespace DL
open PySem PySem.Spec PyProof.Rows L2

section
variable {G : Glb} {X : Cx} {W : WX} {pos : Pos} {k : Nat}
/-! ### isinstance of the caught error -/
theorem cls_rel {ad : List Addr} {S : Hp} {v : V} {d : D} {cv : Value} (r : Rep G ad S v d) (h : clsV G d = some cv) : ∀ u, RelV v u → u = cv := by
  intro u ru
  cases r <;> cases h
  · exact ru
  · exact ru
theorem de_isX {own : List Nat} {a : Addr} {oe : Obj} {cls : Value} {dd : Option Addr} {pn : List (Addr × Obj)} {p pe : Pos} {n : Str} {C : Expr} {mc : ME} (i : Nat) (tab : Nat → D → Option Bool) (hz : Zc cls dd oe) (hf : ∃ vs, oe.data = .fields vs) (hK : X.K = G.K) (hm : X.mg "isinstance" = none)
    (ht : ∀ c d b, tab c d = some b → ExcC G.K (G.cl c) ∧ ∃ cv, clsV G d = some cv ∧ PySem.W.kitOne G.K (.ref (G.cl c)) cv = some b) (hC : DE G (X.suite a ((a, oe) :: pn)) W0 ⟨own, some i, (a, cls, dd), none, (0, 0)⟩ C mc)
    (hi : X.N[i]? = some n := by rfl) (hg : Gl X "isinstance" := by rfl) (hv : Vis X.env.scope n := by first | exact Or.inl rfl | exact Or.inr (Or.inl rfl) | exact Or.inr (Or.inr rfl)) (hd : (n == ("__debug__" : Str)) = false := by decide) (hcd : (n == ("__classdict__" : Str)) = false := by decide)
    (he : starEach [.Name n pe, C] X.env = (false, eval (.Name n pe) X.env) :: starEach [C] X.env := by rfl) (he2 : starEach [C] X.env = (false, eval C X.env) :: starEach [] X.env := by rfl) (hpl : (backTo pos (starEach [C] X.env)).any (·.1) = false := by rfl) :
    DE G (X.suite a ((a, oe) :: pn)) W0 ⟨own, some i, (a, cls, dd), none, (0, 0)⟩ (.Call (.Name "isinstance" p) [.Name n pe, C] [] pos) (mIsX i tab mc) := by
  obtain ⟨t, pc, w⟩ := hC.ex
  have hr : CallR (X.suite a ((a, oe) :: pn)) (.builtin "isinstance") (fun xs H Q => ∃ D, cls = .ref D ∧ dd = none ∧ ExcC X.K D ∧ rIsE X.K D a xs H Q) := by
    intro pins s σ H xs us Q I r h
    obtain ⟨D, e1, e2, hCx, h⟩ := h
    subst e1; subst e2
    exact call_isE hCx hz hf pins s σ H xs us Q I r h
  refine ⟨_, pe_callB hr hg hm PyProof.Rows.boot_isinstance (pa_cons (pe_var (i := i) hi hv hd hcd) (pa_cons pc pa_nil he2) he) (by decide) (by decide) he hpl, fun b S env st σ H Q I h => ?_⟩
  unfold mIsX at h
  split at h
  · rename_i c e
    obtain ⟨x, q1, q2, q3⟩ := I.exc i _ rfl e
    have rx : cls = .ref (G.cl c) ∧ dd = none := by
      obtain ⟨c', fs⟩ := x
      cases fs with
      | none => cases q1; exact ⟨q3.1, q3.2⟩
      | some fs => cases q1
    refine ⟨_, q2, w b S env st σ H _ I (wpR_imp (wpR_bind h) (fun d st1 h1 => ?_) fun _ _ z => z)⟩
    intro v S1 H1 x1 su1 so1 r1
    cases et : tab c d with
    | none => rw [et] at h1; exact h1.elim
    | some bb =>
      rw [et] at h1
      obtain ⟨hE, cv, hcv, hk⟩ := ht c d bb et
      exact ⟨_, rx.1, rx.2, hK ▸ hE, v, cv, bb, rfl, cls_rel r1 hcv, hK ▸ hk, h1 _ _ _ x1 su1 so1 (.bl _)⟩
  · exact h.elim
end

/-! ### the parts of a comprehension -/
theorem XC.blk (xc : XC k G X W) {s : Shared} {H : Hp} {scope : Scope} {cenv : Env} {fp : List Addr} : XC k G (X.blk s H scope cenv fp) W0 := ⟨takes0, PassesOwn.never, xc.calm, xc.hr, xc.K⟩
/-- no error may fly -/
def noEr {α : Type} (r : Res α) : Res α := match r with
  | .err _ _ => .bad
  | r => r
theorem wp_noEr {α : Type} {r : Res α} {ok : α → List D → Prop} {er er' : Ex → List D → Prop} (h : wpR (noEr r) ok er) : wpR r ok er' := by
  cases r with
  | ok a st => exact h
  | err x st => exact h.elim
  | bad => exact h.elim
def wipeE (env : Env') : List Nat → Env'
  | [] => env
  | v :: vs => (wipeE env vs).set v none
theorem DI.wipe {b : Act} {O : Ow} {S H : Hp} {env : Env'} {st : List D} {σ : L2.St} (I : DI G b O S env st σ H) : ∀ {vs : List Nat}, (∀ v ∈ vs, O.has v = false) → DI G b O S (wipeE env vs) st (wipe σ vs) H
  | [], _ => I
  | v :: vs, h => (DI.wipe I fun u hu => h u (List.mem_cons_of_mem _ hu)).forget (h v List.mem_cons_self)
theorem wipe_stay {σ σ' : L2.St} {ix vs : List Nat} (h : Stay ix (wipe σ vs) σ') (hs : ∀ i ∈ ix, i ∈ vs) : wipe σ' vs = wipe σ vs := by
  have wl : ∀ (τ : L2.St) (vs : List Nat) (j : Nat), (wipe τ vs)[j]? = if j ∈ vs then (if j < τ.length then some none else none) else τ[j]? := by
    intro τ vs j
    induction vs with
    | nil => simp [wipe]
    | cons v vs ih =>
      unfold wipe
      by_cases hj : j = v
      · subst hj
        rw [if_pos List.mem_cons_self]
        by_cases hl : j < τ.length
        · rw [List.getElem?_set_self (by rw [wipe_length]; exact hl), if_pos hl]
        · rw [if_neg hl]
          exact List.getElem?_eq_none_iff.mpr (by rw [List.length_set, wipe_length]; exact Nat.le_of_not_lt hl)
      · rw [List.getElem?_set_ne (Ne.symm hj), ih]
        by_cases hm : j ∈ vs
        · rw [if_pos hm, if_pos (List.mem_cons_of_mem _ hm)]
        · rw [if_neg hm, if_neg (fun z => (List.mem_cons.mp z).elim hj hm)]
  have hl : σ'.length = σ.length := by rw [h.1, wipe_length]
  refine List.ext_getElem? fun j => ?_
  rw [wl, wl, hl]
  by_cases hm : j ∈ vs
  · rw [if_pos hm, if_pos hm]
  · rw [if_neg hm, if_neg hm, h.2 j fun z => hm (hs j z), wl, if_neg hm]
/-- the items that a comprehension makes -/
def lcD (env : Env') (g : MG) (mt : MT) (me : ME) : List D → M (List D)
  | [] => fun st => .ok [] st
  | d :: ds => fun st => match g d env with
    | none => .bad
    | some env1 => (noEr (mt env1 st)).bind fun k st1 =>
      if k = true then (noEr (me env1 st1)).bind fun y st2 => (lcD env g mt me ds st2).bind fun ys st3 => .ok (y :: ys) st3
      else lcD env g mt me ds st1
theorem lcD_noEr {env : Env'} {g : MG} {mt : MT} {me : ME} : ∀ (ds : List D) (st : List D) (x : Ex) (st' : List D), lcD env g mt me ds st ≠ .err x st' := by
  intro ds
  induction ds with
  | nil => intro st x st' h; cases h
  | cons d ds ih =>
    intro st x st' h
    unfold lcD at h
    split at h
    · cases h
    · rename_i env1 _
      cases e1 : mt env1 st with
      | err _ _ => rw [e1] at h; cases h
      | bad => rw [e1] at h; cases h
      | ok k st1 =>
        rw [e1] at h
        have h : (if k = true then (noEr (me env1 st1)).bind fun y st2 => (lcD env g mt me ds st2).bind fun ys st3 => .ok (y :: ys) st3 else lcD env g mt me ds st1) = .err x st' := h
        split at h
        · cases e2 : me env1 st1 with
          | err _ _ => rw [e2] at h; cases h
          | bad => rw [e2] at h; cases h
          | ok y st2 =>
            rw [e2] at h
            have h : ((lcD env g mt me ds st2).bind fun ys st3 => Res.ok (y :: ys) st3) = .err x st' := h
            cases e3 : lcD env g mt me ds st2 with
            | err x3 s3 => exact ih _ _ _ e3
            | bad => rw [e3] at h; cases h
            | ok ys s3 => rw [e3] at h; cases h
        · exact ih _ _ _ h
def mYes : MT := fun _ st => .ok true st
/-- [elt for target in .. if ..]; vs: the comprehension's own slots -/
def mLC (mi : MA) (vs : List Nat) (g : MG) (mt : MT) (me : ME) : ME := fun env st => (mi env st).bind fun ds st1 => (lcD (wipeE env vs) g mt me ds st1).bind lstOk
structure DTs (G : Glb) (X : Cx) (W : WX) (O : Ow) (es : List Expr) (m : MT) : Prop where
  ex : ∃ t, PTs X es t ∧ ∀ (b : Act) S env st σ H Q, DI G b O S env st σ H → wpR (m env st) (fun k st' => PostB G b.ad S H k st' Q) (fun x st' => PostX G b.ad S H x st' fun c dd H' => W c dd σ H') → t σ H Q
theorem dts_nil {O : Ow} : DTs G X W O [] mYes := ⟨_, pts_nil, fun b S env st σ H Q I h => h _ _ (.refl _ _ _) I.sub I.sto⟩
theorem dts_one {O : Ow} {e : Expr} {m : MT} (h : DT G X W O e m) : DTs G X W O [e] m := let ⟨t, p, w⟩ := h.ex; ⟨_, pts_one p, w⟩
/-- canonical readings -/
def cE (G : Glb) (W : WX) (O : Ow) (m : ME) : TE := fun σ H Q => ∃ (b : Act) (S : Hp) (env : Env') (st : List DL.D), DI G b O S env st σ H ∧ wpR (m env st) (fun d st' => Post G b.ad S H d st' Q) (fun x st' => PostX G b.ad S H x st' fun c dd H' => W c dd σ H')
def cT (G : Glb) (W : WX) (O : Ow) (m : MT) : TT := fun σ H Q => ∃ (b : Act) (S : Hp) (env : Env') (st : List DL.D), DI G b O S env st σ H ∧ wpR (m env st) (fun k st' => PostB G b.ad S H k st' Q) (fun x st' => PostX G b.ad S H x st' fun c dd H' => W c dd σ H')
def cG (G : Glb) (O : Ow) (ix : List Nat) (g : MG) : TG := fun v σ H Q => ∃ (b : Act) (S : Hp) (env : Env') (env' : Env') (st : List DL.D) (d : DL.D), DI G b O S env st σ H ∧ Rep G b.ad S v d ∧ g d env = some env' ∧ ∀ σ', Stay ix σ σ' → DI G b O S env' st σ' H → Q σ' H
theorem DE.c {O : Ow} {e : Expr} {m : ME} (h : DE G X W O e m) : PE X e (cE G W O m) := by
  obtain ⟨t, p, w⟩ := h.ex
  exact ⟨fun pins s σ H Q I ⟨b, S, env, st, J, q⟩ => p.run pins s σ H Q I (w b S env st σ H Q J q)⟩
theorem DTs.c {O : Ow} {e : List Expr} {m : MT} (h : DTs G X W O e m) : PTs X e (cT G W O m) := by
  obtain ⟨t, p, w⟩ := h.ex
  exact ⟨fun pins s σ H Q I ⟨b, S, env, st, J, q⟩ => p.run pins s σ H Q I (w b S env st σ H Q J q)⟩
theorem DG.c {O : Ow} {ix : List Nat} {e : Expr} {g : MG} (h : DG G X O ix e g) : PG X e (cG G O ix g) := by
  obtain ⟨t, p, w⟩ := h.ex
  exact ⟨fun pins s σ H v u Q I r ⟨b, S, env, env', st, d, J, rd, e, q⟩ => p.run pins s σ H v u Q I r (w b S env env' st σ H v d Q J rd e q)⟩
/-- the walk of a comprehension -/
theorem lc_go {O : Ow} {vs ix : List Nat} {g : MG} {mt : MT} {me : ME} {b : Act} {S1 H1 : Hp} {st1 : List D} {σ : L2.St} {env : Env'} {J : It} {ds : List D} {Q : VK} {D : Addr} (hv : ∀ v ∈ vs, O.has v = false) (hix : ∀ i ∈ ix, i ∈ vs) (I : DI G b O S1 env st1 σ H1) (it : IterOK G b.ad S1 J ds) (hD : H1 D = none)
    {ys : List DL.D} {st' : List DL.D} (hr : lcD (wipeE env vs) g mt me ds st1 = .ok ys st') (hl : ys.length ≤ sizeLine) (q : Post G b.ad S1 H1 (.lst ys) st' Q) :
    ∃ Wv : Nat → Nat → Hp → Prop, (∃ m, Wv 0 m (upd H1 D (.lst []))) ∧ ∀ i m H, Wv i m H →
      (J.stop i H ∧ Q (.ref D) H) ∨ (J.go i H ∧ ∃ Nx : Hp → Prop, (∀ H', Nx H' → ∃ m', m' < m ∧ Wv (i + 1) m' H') ∧ ∀ x H', J.yld i H x H' → cG G O ix g x (wipe σ vs) H' fun σ2 H2 => wipe σ2 vs = wipe σ vs ∧ cT G W0 O mt σ2 H2 fun b H3 =>
        if b = true then cE G W0 O me σ2 H3 fun y H4 => ∃ acc, H4 D = some (.lst acc) ∧ acc.length < sizeLine ∧ Nx (upd H4 D (.lst (acc ++ [y]))) else Nx H3) := by
  have hDad : D ∉ b.ad := fun z => by
    obtain ⟨_, ws, hw⟩ := I.sto.has z
    rw [hD] at hw; cases hw
  -- what stands at a turn's begin
  refine ⟨fun i m H => m = ds.length - i ∧ i ≤ ds.length ∧ ∃ S2 st2 acc es rest, Ext b.ad S1 H1 S2 H ∧ Same S2 H ∧ StoOk G b.ad S2 st2 H ∧ S2 D = none ∧ H D = some (.lst acc) ∧ Reps G b.ad S2 acc es ∧ lcD (wipeE env vs) g mt me (ds.drop i) st2 = .ok rest st' ∧ ys = es ++ rest, ⟨ds.length, ?_⟩, ?_⟩
  · have so := I.sto
    have hS : S1 D = none := I.sub.free hD
    refine ⟨by simp, Nat.zero_le _, S1, st1, [], [], ys, ⟨.refl _, fun _ _ z => .inl z, fun c o hc _ => .refl (by rw [upd_ne (ne_of_none hc hD)]; exact hc)⟩, fun c o hc => by rw [upd_ne (ne_of_none hc hS)]; exact I.sub _ _ hc,
      ⟨so.len, so.nd, fun n a ha => ?_, so.tab.keep fun b u h _ => by rw [upd_ne (ne_of_none h hD)]; exact h⟩, hS, upd_same, .nil, by simpa using hr, by simp⟩
    obtain ⟨g1, es, ws, g2, g3, g4⟩ := so.at_ n a ha
    exact ⟨g1, es, ws, g2, by rw [upd_ne (ne_of_none g3 hD)]; exact g3, g4⟩
  · rintro i m H ⟨rfl, hi, S2, st2, acc, es, rest, x2, su2, so2, hS2, hacc, racc, hr2, hys⟩
    by_cases hlt : i < ds.length
    · right
      obtain ⟨go, yl⟩ := (it i S2 H x2.same su2).2 _ (List.getElem?_eq_getElem hlt)
      refine ⟨go, fun H' => ∃ S3 st3 acc3 es3 rest3, Ext b.ad S1 H1 S3 H' ∧ Same S3 H' ∧ StoOk G b.ad S3 st3 H' ∧ S3 D = none ∧ H' D = some (.lst acc3) ∧ Reps G b.ad S3 acc3 es3 ∧ lcD (wipeE env vs) g mt me (ds.drop (i + 1)) st3 = .ok rest3 st' ∧ ys = es3 ++ rest3, fun H' z => ⟨ds.length - (i + 1), by omega, rfl, hlt, z⟩, fun x H' y => ?_⟩
      obtain ⟨S3, x3, su3, so3, r3⟩ := yl x H' y
      have so3' := so3 _ so2
      have I3 : DI G b O S3 (wipeE env vs) st2 (wipe σ vs) H' := DI.ext (DI.wipe (DI.ext I x2 su2 so2) hv) x3 su3 so3'
      have hD3 : H' D = some (.lst acc) := (x3.keep D _ hacc hDad).lst
      have hS3 : S3 D = none := by
        cases e : S3 D with
        | none => rfl
        | some o =>
          rcases x3.new D o e with z | z
          · rw [hS2] at z; cases z
          · rw [hacc] at z; cases z
      have x3' := x2.trans so2 x3
      rw [List.drop_eq_getElem_cons hlt] at hr2
      unfold lcD at hr2
      cases eg : g ds[i] (wipeE env vs) with
      | none => rw [eg] at hr2; cases hr2
      | some env1 =>
        rw [eg] at hr2
        refine ⟨b, S3, _, env1, st2, ds[i], I3, r3, eg, fun σ2 hs2 I4 => ⟨wipe_stay hs2 hix, b, S3, env1, st2, I4, ?_⟩⟩
        dsimp only at hr2
        cases et : mt env1 st2 with
        | err x st => rw [et] at hr2; cases hr2
        | bad => rw [et] at hr2; cases hr2
        | ok kk st4 =>
          rw [et] at hr2
          have hr2 : (if kk = true then (noEr (me env1 st4)).bind fun y st2 => (lcD (wipeE env vs) g mt me (ds.drop (i + 1)) st2).bind fun ys st3 => Res.ok (y :: ys) st3 else lcD (wipeE env vs) g mt me (ds.drop (i + 1)) st4) = .ok rest st' := hr2
          intro S5 H5 x5 su5 so5
          have hD5 : H5 D = some (.lst acc) := (x5.keep D _ hD3 hDad).lst
          have hS5 : S5 D = none := by
            cases e : S5 D with
            | none => rfl
            | some o =>
              rcases x5.new D o e with z | z
              · rw [hS3] at z; cases z
              · rw [hD3] at z; cases z
          have x5' := x3'.trans so3' x5
          cases kk with
          | false =>
            rw [if_neg Bool.false_ne_true] at hr2 ⊢
            exact ⟨S5, st4, acc, es, rest, x5', su5, so5, hS5, hD5, (racc.mono x3.same).mono x5.same, hr2, hys⟩
          | true =>
            rw [if_pos rfl] at hr2 ⊢
            refine ⟨b, S5, env1, st4, I4.ext x5 su5 so5, ?_⟩
            cases em : me env1 st4 with
            | err x st => rw [em] at hr2; cases hr2
            | bad => rw [em] at hr2; cases hr2
            | ok y0 st6 =>
              rw [em] at hr2
              have hr2 : ((lcD (wipeE env vs) g mt me (ds.drop (i + 1)) st6).bind fun ys st3 => Res.ok (y0 :: ys) st3) = .ok rest st' := hr2
              cases e6 : lcD (wipeE env vs) g mt me (ds.drop (i + 1)) st6 with
              | err x st => rw [e6] at hr2; cases hr2
              | bad => rw [e6] at hr2; cases hr2
              | ok ys6 st7 =>
                rw [e6] at hr2
                have e7 : rest = y0 :: ys6 ∧ st7 = st' := by
                  have z : Res.ok (y0 :: ys6) st7 = .ok rest st' := hr2
                  cases z; exact ⟨rfl, rfl⟩
                obtain ⟨e7, e8⟩ := e7
                subst e8
                intro v S6 H6 x6 su6 so6 r6
                have hD6 : H6 D = some (.lst acc) := (x6.keep D _ hD5 hDad).lst
                have hS6 : S6 D = none := by
                  cases e : S6 D with
                  | none => rfl
                  | some o =>
                    rcases x6.new D o e with z | z
                    · rw [hS5] at z; cases z
                    · rw [hD5] at z; cases z
                have x6' := x5'.trans so5 x6
                have racc6 := ((racc.mono x3.same).mono x5.same).mono x6.same
                have hlen : acc.length < sizeLine := by
                  have e9 : ys.length = es.length + (ys6.length + 1) := by rw [hys, e7, List.length_append, List.length_cons]
                  rw [racc6.len]; omega
                refine ⟨acc, hD6, hlen, S6, st6, acc ++ [v], es ++ [y0], ys6, ⟨x6'.same, x6'.new, fun c o hc hca => ?_⟩, fun c o hc => ?_, ⟨so6.len, so6.nd, fun n a ha => ?_, so6.tab.keep fun b u h n => by rw [upd_ne (fun z => by rw [z, hD6] at h; cases h; exact n.lst)]; exact h⟩, hS6, upd_same, racc6.append (.cons r6 .nil), e6, by rw [hys, e7]; simp⟩
                · exact (x6'.keep c o hc hca).map fun o' h' => by rw [upd_ne (ne_of_none hc hD)]; exact h'
                · rw [upd_ne (ne_of_none hc hS6)]; exact su6 _ _ hc
                · obtain ⟨g1, es', ws, g2, g3, g4⟩ := so6.at_ n a ha
                  exact ⟨g1, es', ws, g2, by rw [upd_ne fun z => hDad (by subst z; exact List.mem_iff_getElem?.mpr ⟨n, ha⟩)]; exact g3, g4⟩
    · left
      have hi' : i = ds.length := Nat.le_antisymm hi (Nat.le_of_not_lt hlt)
      refine ⟨(it i S2 H x2.same su2).1 hi', ?_⟩
      rw [hi', List.drop_length] at hr2
      have e1 : rest = [] ∧ st2 = st' := by
        have z : Res.ok ([] : List DL.D) st2 = .ok rest st' := hr2
        cases z; exact ⟨rfl, rfl⟩
      obtain ⟨rfl, rfl⟩ := e1
      rw [List.append_nil] at hys
      subst hys
      -- the list is still from now on
      have key : Same S2 (upd S2 D (.lst acc)) := fun c o hc => by rw [upd_ne (ne_of_none hc hS2)]; exact hc
      refine q (.ref D) (upd S2 D (.lst acc)) H ⟨x2.same.trans key, fun c o hc => ?_, x2.keep⟩ (fun c o hc => ?_) ⟨so2.len, so2.nd, fun n a ha => ?_, so2.tab.known fun a ⟨_, hh⟩ ha => by rw [upd_ne (fun z => by rw [z, hacc] at hh; cases hh)]; exact ha⟩ (.lst upd_same (racc.mono key))
      · by_cases hcD : c = D
        · subst hcD; exact .inr hD
        · rw [upd_ne hcD] at hc; exact x2.new c o hc
      · by_cases hcD : c = D
        · subst hcD; rw [upd_same] at hc; cases hc; exact hacc
        · rw [upd_ne hcD] at hc; exact su2 _ _ hc
      · obtain ⟨g1, es', ws, g2, g3, g4⟩ := so2.at_ n a ha
        exact ⟨by rw [upd_ne fun z => hDad (by subst z; exact List.mem_iff_getElem?.mpr ⟨n, ha⟩)]; exact g1, es', ws, g2, g3, g4.mono key⟩
section
variable {G : Glb} {X : Cx} {W : WX} {pos : Pos} {k : Nat} {O : Ow}
theorem de_lc {elt tg iter : Expr} {ifs : List Expr} {scope : Scope} {own : List (Str × Nat)} {ix : List Nat} {mi : MA} {g : MG} {mt : MT} {me : ME} (xc : XC k G X W) (hN : X.N.Nodup) (hi : DIt G X W O tg iter mi) (ok : BlkOk X.N X.env.scope scope own)
    (hg : ∀ (s : Shared) (H : Hp) (C : Addr) (cl : List (Str × Addr)) (fp : List Addr), DG G (X.blk s H scope (compEnvC scope cl C X.env) fp) O ix tg g)
    (ht : ∀ (s : Shared) (H : Hp) (C : Addr) (cl : List (Str × Addr)) (fp : List Addr), XC k G (X.blk s H scope (compEnvC scope cl C X.env) fp) W0 → DTs G (X.blk s H scope (compEnvC scope cl C X.env) fp) W0 O ifs mt)
    (he : ∀ (s : Shared) (H : Hp) (C : Addr) (cl : List (Str × Addr)) (fp : List Addr), XC k G (X.blk s H scope (compEnvC scope cl C X.env) fp) W0 → DE G (X.blk s H scope (compEnvC scope cl C X.env) fp) W0 O elt me)
    (hv : ∀ v ∈ own.map (·.2), O.has v = false := by intro v hv; revert v; decide) (hix : ∀ i ∈ ix, i ∈ own.map (·.2) := by decide) (hs : ∀ x, foldedSetIterable iter X.env x = pure x := by intro _; rfl) :
    DE G X W O (.ListComp elt [⟨tg, iter, ifs, 0⟩] scope pos) (mLC mi (own.map (·.2)) g mt me) := by
  obtain ⟨wi, pi, wwi⟩ := hi.ex
  refine ⟨_, pe_lc xc.calm hN pi ok (fun s H C cl fp => (hg s H C cl fp).c) (fun s H C cl fp => (ht s H C cl fp xc.blk).c) (fun s H C cl fp => (he s H C cl fp xc.blk).c) hs, fun b S env st σ H Q I h => wwi b S env st σ H _ I (wpR_imp (wpR_bind h) (fun ds st1 h1 => ?_) fun _ _ z => z)⟩
  intro J S1 H1 x1 su1 so1 it D hD
  cases er : lcD (wipeE env (own.map (·.2))) g mt me ds st1 with
  | err x st2 => exact absurd er (lcD_noEr _ _ _ _)
  | bad => rw [er] at h1; exact h1.elim
  | ok ys st2 =>
    rw [er] at h1
    have h1 : wpR (lstOk ys st2) (fun d st' => Post G b.ad S H d st' Q) (fun x st' => PostX G b.ad S H x st' fun c dd H' => W c dd σ H') := h1
    unfold lstOk at h1
    split at h1
    · rename_i hl
      exact lc_go hv hix (I.ext x1 su1 so1) it hD er hl (Post.from_ x1 so1 h1)
    · exact h1.elim
/-- y = [..] -/
theorem ds_setLc {Ob : Ow} {OE : Ow → Prop} {y : Str} {py spos : Pos} {elt tg iter : Expr} {ifs : List Expr} {scope : Scope} {own : List (Str × Nat)} {ix : List Nat} {mi : MA} {g : MG} {mt : MT} {me : ME} (i : Nat) (xc : XC k G X W) (hN : X.N.Nodup) (hi : DIt G X W O tg iter mi) (ok : BlkOk X.N X.env.scope scope own)
    (hsw : swapsWith (.ListComp elt [⟨tg, iter, ifs, 0⟩] scope pos) (some (.Name y py)) spos.line X.env = pure true)
    (hg : ∀ (s : Shared) (H : Hp) (C : Addr) (cl : List (Str × Addr)) (fp : List Addr), DG G (X.blk s H scope (compEnvC scope cl C X.env) fp) O ix tg g)
    (ht : ∀ (s : Shared) (H : Hp) (C : Addr) (cl : List (Str × Addr)) (fp : List Addr), XC k G (X.blk s H scope (compEnvC scope cl C X.env) fp) W0 → DTs G (X.blk s H scope (compEnvC scope cl C X.env) fp) W0 O ifs mt)
    (he : ∀ (s : Shared) (H : Hp) (C : Addr) (cl : List (Str × Addr)) (fp : List Addr), XC k G (X.blk s H scope (compEnvC scope cl C X.env) fp) W0 → DE G (X.blk s H scope (compEnvC scope cl C X.env) fp) W0 O elt me)
    (hO : OE O := by first | trivial | rfl) (hy : X.N[i]? = some y := by rfl) (hyl : X.env.scope.names.lookup y = some .local := by rfl) (ho : O.has i = false := by rfl)
    (hv : ∀ v ∈ own.map (·.2), O.has v = false := by intro v hv; revert v; decide) (hix : ∀ i ∈ ix, i ∈ own.map (·.2) := by decide) (hs : ∀ x, foldedSetIterable iter X.env x = pure x := by intro _; rfl) :
    DS G X W Ob OE O (.Assign [.Name y py] (.ListComp elt [⟨tg, iter, ifs, 0⟩] scope pos) spos) O (mSet i (mLC mi (own.map (·.2)) g mt me)) := by
  obtain ⟨wi, pi, wwi⟩ := hi.ex
  refine ⟨_, ps_setLc (i := i) xc.calm hN hy hyl hsw pi ok (fun s H C cl fp => (hg s H C cl fp).c) (fun s H C cl fp => (ht s H C cl fp xc.blk).c) (fun s H C cl fp => (he s H C cl fp xc.blk).c) hs, fun b S env st σ H D I h => ?_⟩
  refine do_part (me := mLC mi (own.map (·.2)) g mt me) (t := tLc wi (cG G O ix g) (cT G W0 O mt) (cE G W0 O me) (own.map (·.2))) hO (fun b S env st σ H Q I h => wwi b S env st σ H _ I (wpR_imp (wpR_bind h) (fun ds st1 h1 => ?_) fun _ _ z => z)) I h fun v d S' H' st' I' r q => q _ _ _ (.refl _) (I'.set r ho)
  intro J S1 H1 x1 su1 so1 it D hD
  cases er : lcD (wipeE env (own.map (·.2))) g mt me ds st1 with
  | err x st2 => exact absurd er (lcD_noEr _ _ _ _)
  | bad => rw [er] at h1; exact h1.elim
  | ok ys st2 =>
    rw [er] at h1
    have h1 : wpR (lstOk ys st2) (fun d st' => Post G b.ad S H d st' Q) (fun x st' => PostX G b.ad S H x st' fun c dd H' => W c dd σ H') := h1
    unfold lstOk at h1
    split at h1
    · rename_i hl
      exact lc_go hv hix (I.ext x1 su1 so1) it hD er hl (Post.from_ x1 so1 h1)
    · exact h1.elim

/-! ### the law's own def -/
/-- what the script is made to -/
def handD (cells : List Int) (at_ rest total : Int) : D := .lst [.lst (cells.map .int), .int at_, .int rest, .int total]
def spLaw (K : PySem.W.Frag) : Sp := fun vs H Q _ => ∃ (a : Addr) (ns : List Int), vs = [.ref a] ∧ SqL K H a (ns.map V.int) ∧ ns.length ≤ 63 ∧ Only H ∧ ∀ H', Q (.bl true) H'
theorem reps_ints {ad : List Addr} {S : Hp} : ∀ ns : List Int, Reps G ad S (ns.map V.int) (ns.map D.int)
  | [] => .nil
  | n :: ns => .cons (.int n) (reps_ints ns)
theorem ints_of {ad : List Addr} {S : Hp} : ∀ {vs : List V} {ns : List Int}, Reps G ad S vs (ns.map D.int) → vs = ns.map V.int
  | _, [], .nil => rfl
  | _, n :: ns, .cons h r => by
    cases h
    rw [List.map_cons, ints_of r]
end
section
variable {P : Program} {w : World} {K : PySem.W.Frag} {mg : Str → Option Value} {base : Heap}
/-- the law: its script made to a hand (by fH), then the rest over that cell -/
theorem lawD {G : Glb} {x y : Str} {st : Stmt} {f fH : Addr} {fd fdH : FuncData} {N : List Str} {k j : Nat} {rest : List Stmt} {m : MS} {mH : List D → M D} {O' : Ow} {p1 p2 p3 p4 p5 : Pos} (F : Fun K "law" "law" st f fd) (Sc : FnScope N ["_law_script"] (defScope st)) (hK : K = G.K)
    (hN1 : N[1]? = some x) (hl : (defScope st).names.lookup x = some .local) (hl0 : (defScope st).names.lookup ("_law_script" : Str) = some .local) (hy : (defScope st).names.lookup y = some .globalImplicit)
    (hbd : defBody st = .Assign [.Name x p1] (.Call (.Name y p2) [.Name "_law_script" p3] [] p4) p5 :: rest)
    (FH : FnOk P w K mg base (L2.CX P w) j fH fdH ["_law_script"] (spD G 1 mH)) (hmg : mg y = some (.ref fH)) (hkp : PySem.W.keepIn K (.ref fH) = true) (hb : Binds K fdH ["_law_script"] []) (htb : G.tb = []) (hjk : j ≤ k)
    (hH : ∀ (ns : List Int), ns.length ≤ 63 → ∃ cells t, mH [.rol (ns.map .int)] [] = .ok (handD cells 0 0 t) [] ∧
      ∃ st', m (some (.rol (ns.map .int)) :: some (.tok 0) :: List.replicate (N.length - 2) none) [handD cells 0 0 t] = .rt (.bl true) st')
    (hrest : ∀ (cdv : Value) (A : Around) (outer : List Env) (s : Shared) (H : Hp) (E : XK), XC k G (cxOf (L2.CX P w) P w K mg base N "law" (defScope st) f cdv A outer s H E) (fun cls d _ H' => E cls d H') → XT (cxOf (L2.CX P w) P w K mg base N "law" (defScope st) f cdv A outer s H E) →
      DSs G (cxOf (L2.CX P w) P w K mg base N "law" (defScope st) f cdv A outer s H E) (fun cls d _ H' => E cls d H') {} (fun _ => True) {} rest O' m)
    (hdy : (y == ("__debug__" : Str)) = false := by decide) (hnl : 2 ≤ N.length := by decide) :
    FnOk P w K mg base (L2.CX P w) (k + 1) f fd ["_law_script"] (spLaw K) := by
  refine F.okX Sc (fun vs H Q E h => ?_) fun cdv A outer s H vs Q E hr h => ?_
  · obtain ⟨_, _, rfl, _⟩ := h
    rfl
  · obtain ⟨a, ns, rfl, hS, hns, hO, hQ⟩ := h
    have xc : XC k G (cxOf (L2.CX P w) P w K mg base N "law" (defScope st) f cdv A outer s H E) (fun cls d _ H' => E cls d H') :=
      { tk := takes_of rfl rfl rfl rfl, po := passes_of rfl, calm := rfl, hr := hr, K := hK }
    obtain ⟨t, p, wt⟩ := (hrest cdv A outer s H E xc ⟨rfl, rfl⟩).ex
    rw [hbd]
    have hN0 : N[0]? = some ("_law_script" : Str) := by
      have e := Sc.pre
      cases N with
      | nil => simp at hnl
      | cons n N => simp at e; simp [e]
    obtain ⟨cells, tt, eH, st', em⟩ := hH ns hns
    refine ⟨_, pss_cons (ps_set (i := 1) Sc.nd hN1 (.inl hl) (pe_callS FH (hr.mono hjk) hy hmg hkp hb (fun σ => passAt xc.tk σ) (pa_cons (pe_var (i := 0) hN0 (.inl hl0)) pa_nil) hdy) (by rfl) (.inr hl)) p, ?_⟩
    have e0 : start N [V.ref a] = some (V.ref a) :: List.replicate (N.length - 1) none := rfl
    show tAsg (tCallS (spD G 1 mH) (WE fun cls d _ H' => E cls d H') (tCons (tVar 0) tNil)) (gName 1) _ (start N [V.ref a]) H
    refine ⟨.ref a, rfl, ?_⟩
    have hSub : Same H H := .refl _
    refine ⟨⟨H, H, []⟩, [.rol (ns.map .int)], [], rfl, rfl, hSub, ⟨rfl, .nil, fun n b hn => by simp at hn, fun p hp => by rw [htb] at hp; cases hp⟩, .cons (.rol (hK ▸ hS) (reps_ints ns)) .nil, ?_⟩
    rw [eH]
    intro v S' H' x1 su1 so1 r1
    -- the hand is a cell from now on
    cases r1 with
    | lst h1 r1 =>
      rename_i pa vs
      cases r1 with
      | cons r1 rr =>
        cases r1 with
        | lst hc rc =>
          rename_i pc ws
          have ew : ws = cells.map V.int := ints_of rc
          subst ew
          have hne : pc ≠ pa := fun z => by
            subst z
            rw [h1] at hc
            have := Option.some.inj hc
            cases cells with
            | nil => cases this
            | cons c cells => cases this
          have hHpa : H pa = none := by
            rcases x1.new pa _ h1 with z | z
            · replace z : H pa = some (HO.lst _) := z
              rcases hO pa with q | ⟨_, _, q⟩
              · exact q
              · rw [q] at z; cases z
            · exact z
          let S2 : Hp := fun c => if c = pa then none else S' c
          have hS2 : ∀ c, c ≠ pa → S2 c = S' c := fun c hc => if_neg hc
          have hS2p : S2 pa = none := if_pos rfl
          have sub2 : Same S2 H' := fun c o ho => by
            by_cases hcp : c = pa
            · subst hcp; rw [hS2p] at ho; cases ho
            · rw [hS2 c hcp] at ho; exact su1 _ _ ho
          have same2 : Same H S2 := fun c o ho => by
            rw [hS2 c (ne_of_none ho hHpa)]
            exact x1.same _ _ ho
          have rc2 : Rep G [pa] S2 (.ref pc) (.lst (cells.map .int)) := .lst (by rw [hS2 pc hne]; exact hc) (reps_ints cells)
          cases rr with
          | cons r2 rr =>
            cases r2
            cases rr with
            | cons r3 rr =>
              cases r3
              cases rr with
              | cons r4 rr =>
                cases r4
                cases rr
                have so2 : StoOk G [pa] S2 [handD cells 0 0 tt] H' := by
                  refine ⟨rfl, by simp, fun n b hb => ?_, fun p hp => by rw [htb] at hp; cases hp⟩
                  cases n with
                  | zero =>
                    have e : pa = b := by simpa using hb
                    subst e
                    exact ⟨hS2p, _, _, rfl, su1 _ _ h1, .cons rc2 (.cons (.int _) (.cons (.int _) (.cons (.int _) .nil)))⟩
                  | succ n => simp at hb
                have I : DI G ⟨S2, H', [pa]⟩ {} S2 ([D.rol (ns.map .int), D.tok 0].map some ++ List.replicate (N.length - 2) none) [handD cells 0 0 tt] ([V.ref a, V.ref pa].map some ++ List.replicate (N.length - 2) none) H' :=
                  DI.start sub2 so2 (.cons (.rol (same2.seq (hK ▸ hS)) (reps_ints ns)) (.cons (.tok rfl) .nil))
                have eσ : (start N [V.ref a]).set 1 (some (V.ref pa)) = [V.ref a, V.ref pa].map some ++ List.replicate (N.length - 2) none := by
                  obtain ⟨l, hl⟩ : ∃ l, N.length = l + 2 := ⟨N.length - 2, by omega⟩
                  show (some (V.ref a) :: List.replicate (N.length - 1) none).set 1 (some (V.ref pa)) = _
                  rw [hl]
                  rfl
                refine wt ⟨S2, H', [pa]⟩ S2 _ _ _ H' _ (eσ ▸ I) ?_
                have em' : m ([D.rol (ns.map .int), D.tok 0].map some ++ List.replicate (N.length - 2) none) [handD cells 0 0 tt] = .rt (.bl true) st' := em
                rw [em']
                intro v S3 H3 _ _ _ r3
                cases r3
                exact hQ H3
end
end DL

/-! DL, eighth part: what the printed texts name. -/
namespace DL
open PySem PySem.Spec PyProof.Rows L2
/-- a def as it stands behind the top -/
structure DefOk (K : PySem.W.Frag) (mg : Str → Option Value) (x : Str) (st : Stmt) (ps : List Str) (f : Addr) (fd : FuncData) : Prop where
  F : Fun K x x st f fd
  g : mg x = some (.ref f)
  b : Binds K fd ps []
theorem DefOk.kp {K : PySem.W.Frag} {mg : Str → Option Value} {x : Str} {st : Stmt} {ps : List Str} {f : Addr} {fd : FuncData} (d : DefOk K mg x st ps f fd) : PySem.W.keepIn K (.ref f) = true := d.F.kp
theorem DefOk.mk' {K : PySem.W.Frag} {mg : Str → Option Value} {x : Str} {st : Stmt} {ps : List Str} {f : Addr} {fd : FuncData} (F : Fun K x x st f fd) (g : mg x = some (.ref f)) (b : Binds K fd ps []) : DefOk K mg x st ps f fd := ⟨F, g, b⟩
theorem XC.u65 {k : Nat} {G : Glb} {X : Cx} {W : WX} (c : XC k G X W) : X.A.units + 65 < cLine := by
  have := c.hr.un
  omega
/-- what isinstance wants of an own error class -/
def excB (K : PySem.W.Frag) (D : Addr) : Bool :=
  decide (PySem.W.findIn K (.ref D) "__getattribute__" = some (some (.builtin "BaseException.__getattribute__"))) && (decide (PySem.W.findIn K (.ref D) "__getattr__" = some none) && (decide (PySem.W.subIn K (.ref D) (.type "BaseException") = some true) && (PySem.W.hasDictIn K D &&
    (decide (PySem.W.findIn K (.ref D) "__class__" = some (some (.builtin "object.__class__"))) && (decide (PySem.W.specialIn K (.builtin "object.__class__") "__get__" = some (some (.builtin "getset_descriptor.__get__"))) && (decide (PySem.W.takesIn K (.builtin "object.__class__") = some true) && decide (PySem.W.mroIn K D (.type "object") = some true)))))))
theorem excB_ok {K : PySem.W.Frag} {D : Addr} (h : excB K D = true) : ExcC K D := by
  unfold excB at h
  simp only [Bool.and_eq_true, decide_eq_true_eq] at h
  obtain ⟨h1, h2, h3, h4, h5, h6, h7, h8⟩ := h
  exact ⟨h1, h2, h3, h4, h5, h6, h7, h8⟩
theorem suK {G : Glb} {X : Cx} (h : X.K = G.K) {a : Addr} {pn : List (Addr × Obj)} : (X.suite a pn).K = G.K := h
theorem suU {k : Nat} {G : Glb} {X : Cx} {W : WX} (c : XC k G X W) {a : Addr} {pn : List (Addr × Obj)} : (X.suite a pn).A.units + 64 < cLine := c.hr.units
section
variable {G : Glb} {X : Cx} {W : WX} {O : Ow} {pos : Pos}
theorem de_globK {x : Str} {i : Int} (h : ∃ t, X.mg x = some (.int i t)) (hg : Gl X x := by rfl) (hd : (x == ("__debug__" : Str)) = false := by decide) : DE G X W O (.Name x pos) (mC (.int i)) := by
  obtain ⟨t, hm⟩ := h
  exact de_globI hm hg hd
end
end DL

/-! DL, ninth part: how the printed functions are reckoned (for simp only [ev]). -/
namespace DL
open PySem PySem.Spec PyProof.Rows L2
theorem bind_ok {α β : Type} (a : α) (st : List D) (f : α → M β) : (Res.ok a st).bind f = f a st := rfl
theorem bind_err {α β : Type} (x : Ex) (st : List D) (f : α → M β) : (Res.err x st : Res α).bind f = .err x st := rfl
def mkEnv : Nat → List D → Env'
  | 0, _ => []
  | n + 1, [] => none :: mkEnv n []
  | n + 1, d :: ds => some d :: mkEnv n ds
theorem mkEnv_eq : ∀ (n : Nat) (ds : List D), ds.length ≤ n → mkEnv n ds = ds.map some ++ List.replicate (n - ds.length) none
  | 0, [], _ => rfl
  | 0, _ :: _, h => by simp at h
  | n + 1, [], _ => by
    have := mkEnv_eq n [] (Nat.zero_le _)
    simp [mkEnv, this, List.replicate_succ]
  | n + 1, d :: ds, h => by
    have := mkEnv_eq n ds (Nat.le_of_succ_le_succ h)
    simp [mkEnv, this]
/-- how a body's end is a call's -/
def outR : Out → Res D
  | .nx _ st1 => .ok .non st1
  | .rt d st1 => .ok d st1
  | .er x _ st1 => .err x st1
  | _ => .bad
theorem fnM_eq {n : Nat} {m : MS} {ds : List D} {st : List D} (h : ds.length ≤ n) : fnM n m ds st = outR (m (mkEnv n ds) st) := by
  rw [mkEnv_eq n ds h]
  unfold fnM outR
  cases m (ds.map some ++ List.replicate (n - ds.length) none) st <;> rfl
def get? (env : Env') (i : Nat) : Option D := match env, i with
  | [], _ => none
  | o :: _, 0 => o
  | _ :: r, i + 1 => get? r i
theorem mVar_eq (i : Nat) (env : Env') (st : List D) : mVar i env st = ret? (get? env i) st := by
  unfold mVar ret?
  induction env generalizing i with
  | nil => rfl
  | cons o r ih =>
    cases i with
    | zero => cases o <;> rfl
    | succ i => exact ih i
theorem mSeq_eq (m n : MS) (env : Env') (st : List D) : mSeq m n env st = match m env st with
  | .nx env1 st1 => n env1 st1
  | o => o := rfl
/-- the rules of reckoning -/
theorem ev1 :
    (∀ (n : Nat) (m : MS) (st : List D), fnM n m [] st = outR (m (mkEnv n []) st)) ∧
    (∀ (n : Nat) (m : MS) (a : D) (st : List D), fnM (n + 1) m [a] st = outR (m (mkEnv (n + 1) [a]) st)) ∧
    (∀ (n : Nat) (m : MS) (a b : D) (st : List D), fnM (n + 2) m [a, b] st = outR (m (mkEnv (n + 2) [a, b]) st)) ∧
    (∀ (n : Nat) (m : MS) (a b c : D) (st : List D), fnM (n + 3) m [a, b, c] st = outR (m (mkEnv (n + 3) [a, b, c]) st)) ∧
    (∀ (n : Nat) (m : MS) (a b c d : D) (st : List D), fnM (n + 4) m [a, b, c, d] st = outR (m (mkEnv (n + 4) [a, b, c, d]) st)) ∧
    (∀ (e : Env') (st : List D), outR (.nx e st) = .ok .non st) ∧ (∀ (d : D) (st : List D), outR (.rt d st) = .ok d st) ∧ (∀ (x : Ex) (e : Env') (st : List D), outR (.er x e st) = .err x st) :=
  ⟨fun n m st => fnM_eq (Nat.zero_le _), fun n m a st => fnM_eq (Nat.le_add_left 1 n), fun n m a b st => fnM_eq (Nat.le_add_left 2 n), fun n m a b c st => fnM_eq (Nat.le_add_left 3 n), fun n m a b c d st => fnM_eq (Nat.le_add_left 4 n),
    fun _ _ => rfl, fun _ _ => rfl, fun _ _ _ => rfl⟩
theorem ev2 :
    (∀ (i : Nat) (env : Env') (st : List D), mVar i env st = ret? (get? env i) st) ∧
    (∀ (d : D) (st : List D), ret? (some d) st = .ok d st) ∧
    (∀ (d : D) (env : Env') (st : List D), mC d env st = .ok d st) ∧
    (∀ (f : D → D → Option D) (ma mb : ME) (env : Env') (st : List D), mOp f ma mb env st = (ma env st).bind fun x st1 => (mb env st1).bind fun y => ret? (f x y)) ∧
    (∀ (f : D → Option D) (ma : ME) (env : Env') (st : List D), mUn f ma env st = (ma env st).bind fun x => ret? (f x)) ∧
    (∀ (env : Env') (st : List D), mNil env st = .ok [] st) ∧
    (∀ (ma : ME) (mr : MA) (env : Env') (st : List D), mCons ma mr env st = (ma env st).bind fun x st1 => (mr env st1).bind fun xs st2 => .ok (x :: xs) st2) ∧
    (∀ (f : List D → Option D) (ma : MA) (env : Env') (st : List D), mCall1 f ma env st = (ma env st).bind fun xs => ret? (f xs)) ∧
    (∀ (f : List D → M D) (ma : MA) (env : Env') (st : List D), mCall f ma env st = (ma env st).bind f) ∧
    (∀ (ma : ME) (env : Env') (st : List D), mTest ma env st = (ma env st).bind bool?) ∧
    (∀ (ma : ME) (env : Env') (st : List D), mTru ma env st = (ma env st).bind tru?) ∧
    (∀ (t : MT) (env : Env') (st : List D), mNot t env st = (t env st).bind fun k st1 => .ok (!k) st1) ∧
    (∀ (t u : MT) (env : Env') (st : List D), mAnd t u env st = (t env st).bind fun k st1 => if k = true then u env st1 else .ok false st1) ∧
    (∀ (t u : MT) (env : Env') (st : List D), mOr t u env st = (t env st).bind fun k st1 => if k = true then .ok true st1 else u env st1) ∧
    (∀ (ma : ME) (env : Env') (st : List D), mNotV ma env st = (ma env st).bind fun x st1 => (bool? x st1).bind fun k st2 => .ok (.bl (!k)) st2) ∧
    (∀ (ma mb : ME) (env : Env') (st : List D), mAndV ma mb env st = (ma env st).bind fun x st1 => (bool? x st1).bind fun k st2 => if k = true then mb env st2 else .ok (.bl false) st2) ∧
    (∀ (ma mb : ME) (env : Env') (st : List D), mOrV ma mb env st = (ma env st).bind fun x st1 => (bool? x st1).bind fun k st2 => if k = true then .ok (.bl true) st2 else mb env st2) ∧
    (∀ (t : MT) (ma mb : ME) (env : Env') (st : List D), mIf t ma mb env st = (t env st).bind fun k st1 => if k = true then ma env st1 else mb env st1) ∧
    (∀ (ma : MA) (env : Env') (st : List D), mTup ma env st = (ma env st).bind tupOk) ∧
    (∀ (ma : MA) (env : Env') (st : List D), mLst ma env st = (ma env st).bind lstOk) ∧
    (∀ (ma mb : ME) (env : Env') (st : List D), mIx ma mb env st = (ma env st).bind fun x st1 => (mb env st1).bind fun y => ixS x y) ∧
    (∀ (b : Bool) (st : List D), bool? (.bl b) st = .ok b st) ∧ (∀ (b : Bool) (st : List D), tru? (.bl b) st = .ok b st) ∧ (∀ (i : Int) (st : List D), tru? (.int i) st = .ok (i != 0) st) ∧
    (∀ (ds : List D) (st : List D), tru? (.lst ds) st = .ok (!ds.isEmpty) st) ∧ (∀ (ds : List D) (st : List D), tru? (.tup ds) st = .ok (!ds.isEmpty) st) :=
  ⟨mVar_eq, fun _ _ => rfl, fun _ _ _ => rfl, fun _ _ _ _ _ => rfl, fun _ _ _ _ => rfl, fun _ _ => rfl, fun _ _ _ _ => rfl, fun _ _ _ _ => rfl, fun _ _ _ _ => rfl, fun _ _ _ => rfl, fun _ _ _ => rfl, fun _ _ _ => rfl, fun _ _ _ _ => rfl, fun _ _ _ _ => rfl, fun _ _ _ => rfl,
    fun _ _ _ _ => rfl, fun _ _ _ _ => rfl, fun _ _ _ _ _ => rfl, fun _ _ _ => rfl, fun _ _ _ => rfl, fun _ _ _ _ => rfl, fun _ _ => rfl, fun _ _ => rfl, fun _ _ => rfl, fun _ _ => rfl, fun _ _ => rfl⟩
theorem ev3 :
    (∀ (m n : MS) (env : Env') (st : List D), mSeq m n env st = match m env st with
      | .nx env1 st1 => n env1 st1
      | o => o) ∧
    (∀ (env : Env') (st : List D), mNx env st = .nx env st) ∧ (∀ (env : Env') (st : List D), mBrk env st = .bk env st) ∧ (∀ (env : Env') (st : List D), mCnt env st = .ct env st) ∧
    (∀ (m : ME) (env : Env') (st : List D), mRet m env st = match m env st with
      | .ok d st1 => .rt d st1
      | .err x st1 => .er x env st1
      | .bad => .bad) ∧
    (∀ (i : Nat) (m : ME) (env : Env') (st : List D), mSet i m env st = match m env st with
      | .ok d st1 => .nx (env.set i (some d)) st1
      | .err x st1 => .er x env st1
      | .bad => .bad) ∧
    (∀ (env : Env') (st : List D), mRetN env st = .rt .non st) ∧
    (∀ (m : ME) (env : Env') (st : List D), mDrop m env st = match m env st with
      | .ok d st1 => .nx env st1
      | .err x st1 => .er x env st1
      | .bad => .bad) ∧
    (∀ (t : MT) (m n : MS) (env : Env') (st : List D), mIfS t m n env st = match t env st with
      | .ok k st1 => if k = true then m env st1 else n env st1
      | .err x st1 => .er x env st1
      | .bad => .bad) ∧
    (∀ (m : ME) (g : MG) (env : Env') (st : List D), mAsg m g env st = match m env st with
      | .ok d st1 => (match g d env with
        | some env1 => .nx env1 st1
        | none => .bad)
      | .err x st1 => .er x env st1
      | .bad => .bad) ∧
    (∀ (i j : Nat) (ma : MA) (env : Env') (st : List D), mPar i j ma env st = match ma env st with
      | .ok [d, e] st1 => .nx ((env.set i (some d)).set j (some e)) st1
      | .err x st1 => .er x env st1
      | _ => .bad) ∧
    (∀ (i : Nat) (d : D) (env : Env'), gNm i d env = some (env.set i (some d))) ∧ (∀ (env : Env'), gsNil [] env = some env) ∧
    (∀ (g : MG) (r : List D → Env' → Option Env') (d : D) (ds : List D) (env : Env'), gsCons g r (d :: ds) env = (g d env).bind (r ds)) ∧
    (∀ (r : List D → Env' → Option Env') (ds : List D) (env : Env'), gTp r (.tup ds) env = r ds env) ∧
    (∀ (c : Nat) (env : Env') (st : List D), mRaise0 c env st = .er ⟨c, none⟩ env st) ∧
    (∀ (mi : MA) (g : MG) (m : MS) (env : Env') (st : List D), mFor mi g m env st = match mi env st with
      | .ok ds st1 => forD g m ds env st1
      | .err x st1 => .er x env st1
      | .bad => .bad) ∧
    (∀ (m : ME) (env : Env') (st : List D), mItems m env st = (m env st).bind items?) ∧ (∀ (ds : List D) (st : List D), items? (.lst ds) st = .ok ds st) ∧ (∀ (ds : List D) (st : List D), items? (.tup ds) st = .ok ds st) ∧ (∀ (ds : List D) (st : List D), items? (.rol ds) st = .ok ds st) ∧
    (∀ (m : MA) (f : List D → M (List D)) (env : Env') (st : List D), mThenA m f env st = (m env st).bind f) ∧
    (∀ (mi : MA) (vs : List Nat) (g : MG) (mt : MT) (me : ME) (env : Env') (st : List D), mLC mi vs g mt me env st = (mi env st).bind fun ds st1 => (lcD (wipeE env vs) g mt me ds st1).bind lstOk) ∧
    (∀ (env : Env') (st : List D), mYes env st = .ok true st) :=
  ⟨fun _ _ _ _ => rfl, fun _ _ => rfl, fun _ _ => rfl, fun _ _ => rfl, fun _ _ _ => rfl, fun _ _ _ _ => rfl, fun _ _ => rfl, fun _ _ _ => rfl, fun _ _ _ _ _ => rfl, fun _ _ _ _ => rfl, fun _ _ _ _ _ => rfl, fun _ _ _ => rfl, fun _ => rfl, fun _ _ _ _ _ => rfl, fun _ _ _ => rfl, fun _ _ _ => rfl, fun _ _ _ _ _ => rfl,
    fun _ _ _ => rfl, fun _ _ => rfl, fun _ _ => rfl, fun _ _ => rfl, fun _ _ _ _ => rfl, fun _ _ _ _ _ _ _ => rfl, fun _ _ => rfl⟩
theorem shaped_int (i : Int) : SeqAt.shaped (.int i) = true := rfl
theorem shaped_str (x : Str) (h : SeqAt.shaped (.str x) = true) : SeqAt.shaped (.str x) = true := h
theorem ev4 :
    (∀ i j : Int, dAdd (.int i) (.int j) = some (.int (i + j))) ∧ (∀ i j : Int, dSub (.int i) (.int j) = some (.int (i - j))) ∧ (∀ i j : Int, dMul (.int i) (.int j) = if MulOk i j then some (.int (i * j)) else none) ∧
    (∀ i j : Int, dDiv (.int i) (.int j) = if DivOk i j then some (.int (i.fdiv j)) else none) ∧ (∀ i j : Int, dMod (.int i) (.int j) = if j ≠ 0 then some (.int (i.fmod j)) else none) ∧
    (∀ i : Int, dNeg (.int i) = some (.int (-i))) ∧ (∀ i j : Int, dLt (.int i) (.int j) = some (.bl (decide (i < j)))) ∧ (∀ i j : Int, dLe (.int i) (.int j) = some (.bl (decide (i ≤ j)))) ∧
    (∀ i j : Int, dGt (.int i) (.int j) = some (.bl (decide (j < i)))) ∧ (∀ i j : Int, dGe (.int i) (.int j) = some (.bl (decide (j ≤ i)))) ∧
    (∀ i j : Int, dEq (.int i) (.int j) = some (.bl (decide (i = j)))) ∧ (∀ i j : Int, dNe (.int i) (.int j) = some (.bl (!decide (i = j)))) ∧
    (∀ (f : D → Option D) (x : D), c1 f [x] = f x) ∧ (∀ i : Int, dAbs (.int i) = some (.int (if i < 0 then -i else i))) ∧ (∀ i : Int, dInt1 (.int i) = some (.int i)) ∧ (∀ b : Bool, dInt1 (.bl b) = some (.int (if b then 1 else 0))) ∧
    (∀ ds : List D, dLen (.lst ds) = some (.int (ds.length : Nat))) ∧ (∀ ds : List D, dLen (.tup ds) = some (.int (ds.length : Nat))) ∧ (∀ a b : Int, dGcd [.int a, .int b] = some (.int ((Nat.gcd a.natAbs b.natAbs : Nat) : Int))) ∧
    (∀ (xs : List D), dTuple (.lst xs) = some (.tup xs)) ∧ (∀ (xs : List D), dTuple (.tup xs) = some (.tup xs)) ∧ (∀ (xs : List D), dList (.lst xs) = some (.lst xs)) ∧ (∀ (xs : List D), dList (.tup xs) = some (.lst xs)) ∧
    (∀ (x y : D) (st : List D), ixS (.lst [x]) y st = ret? (dIx (.lst [x]) y) st) :=
  ⟨fun _ _ => rfl, fun _ _ => rfl, fun _ _ => rfl, fun _ _ => rfl, fun _ _ => rfl, fun _ => rfl, fun _ _ => rfl, fun _ _ => rfl, fun _ _ => rfl, fun _ _ => rfl, fun i j => congrArg (fun b => some (D.bl b)) (Bool.beq_eq_decide_eq i j), fun i j => congrArg (fun b => some (D.bl (!b))) (Bool.beq_eq_decide_eq i j),
    fun _ _ => rfl, fun _ => rfl, fun _ => rfl, fun _ => rfl, fun _ => rfl, fun _ => rfl, fun _ _ => rfl, fun _ => rfl, fun _ => rfl, fun _ => rfl, fun _ => rfl, fun _ _ _ => rfl⟩
end DL

/-! DL, tenth part: the end of a law row whose calls let errors out. -/
namespace DL
open PySem PySem.Spec PyProof.Rows L2
theorem walk_ofC {l : PySem.W.OpenLaw} {n k : Nat} {q : Program} {loose : List Str} {XP : (Str → Option Value) → Heap → Prop} {YP : World → Heap → Prop} {d : DefRec} {K : Params → PySem.W.Frag} {x : Str}
    (hn : l.most = some n) (hn2 : n ≤ sizeLine) (hn3 : n ≤ 63) (hdf : d.params.defaults = []) (hr : Room k callerA)
    (hY : ∀ (w : World) (h : Heap), YP w h → (K w.params).In h)
    (F : ∀ (w : World) (mg : Str → Option Value) (fa : Addr) (h : Heap), (K w.params).In h → h.Ns mainGlobals mg → mg d.name = some (.ref fa) →
      ∃ fd : FuncData, (∀ (s : Shared) (u : Value), BindsTo s fd ⟨[u], []⟩ [(x, u)]) ∧
        ∀ base : Heap, (K w.params).In base → base.Ns mainGlobals mg → FnOk l.prog w (K w.params) mg base (L2.CX l.prog w) k fa fd [x] (spLaw (K w.params))) :
    PySem.W.WalkO q loose XP YP l.row.toRowW d [] (fun f vs => PySem.call f vs) :=
  L2.walk_of (K := K) (CX := fun w => L2.CX l.prog w) (sp := fun w => spLaw (K w.params)) hn hn2 hdf hr hY F
    (fun w H a ns hl hO hS => ⟨a, ns, rfl, hS, Nat.le_trans hl hn3, hO, fun _ => rfl⟩)
    fun w H s e s' h => by obtain ⟨_, _, _, _, _, _, _, _, _, _, _, _, z⟩ := h; exact z
/-! ### reckoning: sizes, the hand -/
theorem mulOk_l {i j : Int} (h : i.natAbs < 2 ^ 64) : MulOk i j := .inl h
theorem mulOk_r {i j : Int} (h : j.natAbs < 2 ^ 64) : MulOk i j := .inr (.inl h)
theorem ret_ok (d : D) (st : List D) : ret? (some d) st = .ok d st := rfl
theorem dMod_pos (i j : Int) (h : j ≠ 0) : dMod (.int i) (.int j) = some (.int (i.fmod j)) := if_pos h
theorem fmod_small {i j : Int} (hj : 0 < j) : 0 ≤ i.fmod j ∧ i.fmod j < j := ⟨Int.fmod_nonneg_of_pos i hj, Int.fmod_lt_of_pos i hj⟩
theorem ixN_nat {n j : Nat} (hj : j < n) : ixN n (j : Int) = some j := by
  unfold ixN
  simp only [show ¬ ((j : Int) < 0) by omega, show (j : Int) < n by omega]
  simp
theorem atI_nat {α : Type} {xs : List α} {k : Nat} (h : k < xs.length) : atI xs (k : Int) = some xs[k] := by
  unfold atI
  rw [ixN_nat h]
  simp [h]
theorem hix0 (c : List Int) (a r t : Int) : ixS (.tok 0) (.int 0) [handD c a r t] = .ok (.lst (c.map .int)) [handD c a r t] := rfl
theorem hix1 (c : List Int) (a r t : Int) : ixS (.tok 0) (.int 1) [handD c a r t] = .ok (.int a) [handD c a r t] := rfl
theorem hix2 (c : List Int) (a r t : Int) : ixS (.tok 0) (.int 2) [handD c a r t] = .ok (.int r) [handD c a r t] := rfl
theorem hix3 (c : List Int) (a r t : Int) : ixS (.tok 0) (.int 3) [handD c a r t] = .ok (.int t) [handD c a r t] := rfl
/-- a cell of the store written -/
def putS (n : Nat) (k : Int) (d : D) (env : Env') (st : List D) : Out := match st[n]? with
    | some (D.lst ds) => match ixN ds.length k with
      | some j => .nx env (st.set n (.lst (ds.set j d)))
      | none => .bad
    | _ => .bad
theorem mPut_eq (k : Int) (m : ME) (e : Env') (st : List D) : mPut 0 k m (some (.tok 0) :: e) st = match m (some (.tok 0) :: e) st with
  | .ok d st1 => putS 0 k d (some (.tok 0) :: e) st1
  | .err x st1 => .er x (some (.tok 0) :: e) st1
  | .bad => .bad := rfl
theorem put1 (c : List Int) (a r t x : Int) (e : Env') : putS 0 1 (.int x) e [handD c a r t] = .nx e [handD c x r t] := rfl
theorem put2 (c : List Int) (a r t x : Int) (e : Env') : putS 0 2 (.int x) e [handD c a r t] = .nx e [handD c a x t] := rfl
theorem put3 (c : List Int) (a r t x : Int) (e : Env') : putS 0 3 (.int x) e [handD c a r t] = .nx e [handD c a r x] := rfl
theorem hcell (c : List Int) (k : Nat) (h : k < c.length) (st : List D) : ixS (.lst (c.map .int)) (.int (k : Int)) st = .ok (.int c[k]) st := by
  show ret? (atI (c.map .int) (k : Int)) st = _
  rw [atI_nat (by rw [List.length_map]; exact h)]
  simp [ret?]
structure HandOk (st : List D) : Prop where
  ex : ∃ (cells : List Int) (at_ rest total : Int), st = [handD cells at_ rest total] ∧ 0 ≤ at_ ∧ 0 ≤ rest ∧ ∀ c ∈ cells, 0 ≤ c
/-! ### facts of a class, in k_is' words -/
theorem excB_mk {K : PySem.W.Frag} {D : Addr} (h1 : PySem.W.findIn K (.ref D) "__getattribute__" = some (some (.builtin "BaseException.__getattribute__"))) (h2 : PySem.W.findIn K (.ref D) "__getattr__" = some none) (h3 : PySem.W.subIn K (.ref D) (.type "BaseException") = some true) (h4 : PySem.W.hasDictIn K D = true)
    (h5 : PySem.W.findIn K (.ref D) "__class__" = some (some (.builtin "object.__class__"))) (h6 : PySem.W.specialIn K (.builtin "object.__class__") "__get__" = some (some (.builtin "getset_descriptor.__get__"))) (h7 : PySem.W.takesIn K (.builtin "object.__class__") = some true) (h8 : PySem.W.mroIn K D (.type "object") = some true) : excB K D = true := by
  unfold excB
  simp only [h1, h2, h3, h4, h5, h6, h7, h8, decide_true, Bool.and_self]
theorem kitO_ref {K : PySem.W.Frag} {t : Value} {D : Addr} (hc : PySem.W.isClsIn K D = true) (ht : PySem.W.typeIn K (.ref D) = some (.type "type")) (hs : PySem.W.subIn K t (.ref D) = some true) : PySem.W.kitOne K t (.ref D) = some true := by
  unfold PySem.W.kitOne PySem.W.kitCls
  have hc' : (PySem.W.clsIn K D).isSome = true := hc
  split
  · rfl
  · simp [hc', ht, hs]
theorem kitO_refF {K : PySem.W.Frag} {C D : Addr} (hc : PySem.W.isClsIn K D = true) (ht : PySem.W.typeIn K (.ref D) = some (.type "type")) (hs : PySem.W.subIn K (.ref C) (.ref D) = some false) (hm : PySem.W.subIn K (.ref C) (.ref C) = some true) : PySem.W.kitOne K (.ref C) (.ref D) = some false := by
  unfold PySem.W.kitOne PySem.W.kitCls
  have hc' : (PySem.W.clsIn K D).isSome = true := hc
  split
  · rename_i e
    have e' : Value.ref C = .ref D := by simpa using e
    cases e'
    rw [hs] at hm; cases hm
  · simp [hc', ht, hs]
theorem kitO_ty {K : PySem.W.Frag} {C : Addr} {T : String} {b : Bool} (hs : PySem.W.subIn K (.ref C) (.type T) = some b) (hk : PySem.W.kitMeta T = true) : PySem.W.kitOne K (.ref C) (.type T) = some b := by
  unfold PySem.W.kitOne PySem.W.kitCls
  split
  · rename_i e
    have e' : Value.ref C = .type T := by simpa using e
    cases e'
  · simp [hk, hs]
/-! ### loops reckoned -/
theorem forD_nil (g : MG) (body : MS) (env : Env') (st : List D) : forD g body [] env st = .nx env st := rfl
theorem forD_cons (g : MG) (body : MS) (d : D) (ds : List D) (env : Env') (st : List D) : forD g body (d :: ds) env st = match g d env with
    | none => .bad
    | some env1 => match body env1 st with
      | .nx e s => forD g body ds e s
      | .ct e s => forD g body ds e s
      | .bk e s => .nx e s
      | o => o := rfl
theorem mFor_eq (mi : MA) (g : MG) (body : MS) (env : Env') (st : List D) : mFor mi g body env st = match mi env st with
  | .ok ds st1 => forD g body ds env st1
  | .err x st1 => .er x env st1
  | .bad => .bad := rfl
theorem forD_inv {g : MG} {body : MS} (P : Env' → List D → Prop) (Q : D → Prop) (h : ∀ d env st, Q d → P env st → ∃ env1 env2 st2, g d env = some env1 ∧ body env1 st = .nx env2 st2 ∧ P env2 st2) :
    ∀ (ds : List D) (env : Env') (st : List D), (∀ d ∈ ds, Q d) → P env st → ∃ env' st', forD g body ds env st = .nx env' st' ∧ P env' st'
  | [], env, st, _, p => ⟨env, st, rfl, p⟩
  | d :: ds, env, st, hq, p => by
    obtain ⟨e1, e2, s2, a, b, c⟩ := h d env st (hq d List.mem_cons_self) p
    obtain ⟨e3, s3, x, y⟩ := forD_inv P Q h ds e2 s2 (fun q hh => hq q (List.mem_cons_of_mem _ hh)) c
    exact ⟨e3, s3, by rw [forD_cons, a]; simp only [b]; exact x, y⟩
theorem lcD_map {env : Env'} {g : MG} {mt : MT} {me : ME} {st : List D} (f : D → D) : ∀ ds : List D, (∀ d ∈ ds, ∃ env1, g d env = some env1 ∧ mt env1 st = .ok true st ∧ me env1 st = .ok (f d) st) → lcD env g mt me ds st = .ok (ds.map f) st
  | [], _ => rfl
  | d :: ds, h => by
    obtain ⟨e1, a, b, c⟩ := h d List.mem_cons_self
    have ih := lcD_map f ds fun q hh => h q (List.mem_cons_of_mem _ hh)
    unfold lcD
    simp only [a]
    rw [b]
    simp only [noEr, bind_ok, if_pos]
    rw [c]
    simp only [bind_ok]
    rw [ih]
    rfl
theorem numbered_mem {ds : List D} {d : D} (h : d ∈ numbered ds) : ∃ (i : Nat) (x : D), i < ds.length ∧ x ∈ ds ∧ d = .tup [.int (i : Int), x] := by
  unfold numbered at h
  rw [List.mem_mapIdx] at h
  obtain ⟨i, hi, e⟩ := h
  exact ⟨i, ds[i], hi, List.getElem_mem hi, e.symm⟩
/-! ### items of written rows -/
theorem atI_0 (a : D) (r : List D) : atI (a :: r) 0 = some a := atI_nat (xs := a :: r) (k := 0) (by simp)
theorem atI_1 (a b : D) (r : List D) : atI (a :: b :: r) 1 = some b := atI_nat (xs := a :: b :: r) (k := 1) (by simp)
theorem atI_2 (a b c : D) (r : List D) : atI (a :: b :: c :: r) 2 = some c := atI_nat (xs := a :: b :: c :: r) (k := 2) (by simp)
theorem atI_3 (a b c d : D) (r : List D) : atI (a :: b :: c :: d :: r) 3 = some d := atI_nat (xs := a :: b :: c :: d :: r) (k := 3) (by simp)
theorem ixS_tup (xs : List D) (i : Int) (st : List D) : ixS (.tup xs) (.int i) st = ret? (atI xs i) st := rfl
theorem ixS_lst (xs : List D) (i : Int) (st : List D) : ixS (.lst xs) (.int i) st = ret? (atI xs i) st := rfl
theorem ixS_rol (xs : List D) (i : Int) (st : List D) : ixS (.rol xs) (.int i) st = ret? (atI xs i) st := rfl
theorem tupOk_of {xs : List D} (h : xs.length ≤ 100) (st : List D) : tupOk xs st = .ok (.tup xs) st := by
  unfold tupOk
  rw [if_pos (Nat.le_trans h (by decide))]
theorem lstOk_of {xs : List D} (h : xs.length ≤ 100) (st : List D) : lstOk xs st = .ok (.lst xs) st := by
  unfold lstOk
  rw [if_pos (Nat.le_trans h (by decide))]
theorem ev5 :
    (∀ (a : D) (r : List D), atI (a :: r) 0 = some a) ∧ (∀ (a b : D) (r : List D), atI (a :: b :: r) 1 = some b) ∧ (∀ (a b c : D) (r : List D), atI (a :: b :: c :: r) 2 = some c) ∧ (∀ (a b c d : D) (r : List D), atI (a :: b :: c :: d :: r) 3 = some d) ∧
    (∀ (xs : List D) (i : Int) (st : List D), ixS (.tup xs) (.int i) st = ret? (atI xs i) st) ∧ (∀ (xs : List D) (i : Int) (st : List D), ixS (.lst xs) (.int i) st = ret? (atI xs i) st) ∧ (∀ (xs : List D) (i : Int) (st : List D), ixS (.rol xs) (.int i) st = ret? (atI xs i) st) ∧
    (∀ st, tupOk [] st = .ok (.tup []) st) ∧ (∀ a st, tupOk [a] st = .ok (.tup [a]) st) ∧ (∀ a b st, tupOk [a, b] st = .ok (.tup [a, b]) st) ∧ (∀ a b c st, tupOk [a, b, c] st = .ok (.tup [a, b, c]) st) ∧ (∀ a b c d st, tupOk [a, b, c, d] st = .ok (.tup [a, b, c, d]) st) ∧
    (∀ st, lstOk [] st = .ok (.lst []) st) ∧ (∀ a st, lstOk [a] st = .ok (.lst [a]) st) ∧ (∀ a b st, lstOk [a, b] st = .ok (.lst [a, b]) st) ∧ (∀ a b c st, lstOk [a, b, c] st = .ok (.lst [a, b, c]) st) ∧ (∀ a b c d st, lstOk [a, b, c, d] st = .ok (.lst [a, b, c, d]) st) :=
  ⟨atI_0, atI_1, atI_2, atI_3, fun _ _ _ => rfl, fun _ _ _ => rfl, fun _ _ _ => rfl, fun st => tupOk_of (by simp) st, fun a st => tupOk_of (by simp) st, fun a b st => tupOk_of (by simp) st, fun a b c st => tupOk_of (by simp) st, fun a b c d st => tupOk_of (by simp) st,
    fun st => lstOk_of (by simp) st, fun a st => lstOk_of (by simp) st, fun a b st => lstOk_of (by simp) st, fun a b c st => lstOk_of (by simp) st, fun a b c d st => lstOk_of (by simp) st⟩
end DL

/-! DL, eleventh part: lists that a slot owns (made, grown, given away). -/
namespace DL
open PySem PySem.Spec PyProof.Rows L2
def Ow.add (O : Ow) (i : Nat) : Ow := { O with own := i :: O.own }
def Ow.less (O : Ow) (i : Nat) : Ow := { O with own := O.own.filter fun j => !(j == i) }
theorem has_false {O : Ow} {i : Nat} (h : O.has i = false) : i ∉ O.own ∧ O.exi ≠ some i ∧ O.slf ≠ some i := by
  refine ⟨?_, ?_, ?_⟩
  · intro z
    unfold Ow.has at h
    rw [List.elem_eq_true_of_mem z] at h; cases h
  · intro z
    unfold Ow.has at h
    rw [z] at h; simp at h
  · intro z
    unfold Ow.has at h
    rw [z] at h; simp at h
theorem has_mk {O : Ow} {i : Nat} (h1 : i ∉ O.own) (h2 : O.exi ≠ some i) (h3 : O.slf ≠ some i) : O.has i = false := by
  unfold Ow.has
  rw [Bool.or_eq_false_iff, Bool.or_eq_false_iff]
  refine ⟨⟨?_, ?_⟩, ?_⟩
  · cases e : O.own.elem i with
    | false => rfl
    | true => exact absurd (List.mem_of_elem_eq_true e) h1
  · cases e : O.exi with
    | none => rfl
    | some j =>
      rw [e] at h2
      simpa using h2
  · cases e : O.slf with
    | none => rfl
    | some j =>
      rw [e] at h3
      simpa using h3
theorem mem_less {O : Ow} {i j : Nat} : j ∈ (O.less i).own ↔ j ∈ O.own ∧ j ≠ i := by
  unfold Ow.less
  simp [List.mem_filter]
theorem StoOk.grow {G : Glb} {ad : List Addr} {S H H' : Hp} {st : List D} (so : StoOk G ad S st H) (e : ∀ a o, (a ∈ ad ∨ TabO o) → H a = some o → H' a = some o) : StoOk G ad S st H' :=
  ⟨so.len, so.nd, fun n a h => let ⟨h1, ds, vs, h2, h3, h4⟩ := so.at_ n a h; ⟨h1, ds, vs, h2, e a _ (.inl (List.mem_of_getElem? h)) h3, h4⟩, so.tab.keep fun b u h n => e b u (.inr n) h⟩
theorem StoOk.known {G : Glb} {ad : List Addr} {S S' H : Hp} {st : List D} (so : StoOk G ad S st H) (e : Same S S') (n : ∀ a ∈ ad, S' a = none) (t : ∀ a, (∃ ps, H a = some (.tbl ps)) → S a = none → S' a = none) : StoOk G ad S' st H :=
  ⟨so.len, so.nd, fun k a h => let ⟨_, ds, vs, h2, h3, h4⟩ := so.at_ k a h; ⟨n a (List.mem_of_getElem? h), ds, vs, h2, h3, h4.mono e⟩, so.tab.known t⟩
section
variable {G : Glb} {b : Act} {O : Ow} {S H : Hp} {env : Env'} {st : List D} {σ : L2.St}
/-- a slot takes a new list -/
theorem DI.own_new {i : Nat} {l : Addr} {vs : List V} {ds : List D} (I : DI G b O S env st σ H) (hl : H l = none) (r : Reps G b.ad S vs ds) (hi : O.has i = false) : DI G b (O.add i) S (env.set i (some (.lst ds))) st (σ.set i (some (.ref l))) (upd H l (.lst vs)) := by
  obtain ⟨h1, h2, h3⟩ := has_false hi
  have la : l ∉ b.ad := fun z => by
    obtain ⟨_, vs', hv⟩ := I.sto.has z
    rw [hl] at hv; cases hv
  have lS : S l = none := by
    cases e : S l with
    | none => rfl
    | some o => have := I.sub l o e; rw [hl] at this; cases this
  have lb : b.H l = none := by
    cases e : b.H l with
    | none => rfl
    | some o => exact ((I.keep l o e la).no (by assumption)).elim
  have up : ∀ a o, H a = some o → upd H l (.lst vs) a = some o := fun a o h => by
    rw [upd_ne (fun z => by rw [z, hl] at h; cases h)]; exact h
  have other : ∀ {j : Nat} {d' : D}, j ≠ i → (env.set i (some (.lst ds)))[j]? = some (some d') → env[j]? = some (some d') := fun {j d'} hj h => by
    rw [List.getElem?_set_ne (Ne.symm hj)] at h; exact h
  have sl : ∀ {j : Nat}, j ≠ i → (σ.set i (some (V.ref l)))[j]? = σ[j]? := fun {j} hj => List.getElem?_set_ne (Ne.symm hj)
  refine ⟨by rw [List.length_set, List.length_set]; exact I.len, fun a o h => up a o (I.sub a o h), I.s0, I.new, fun a o h ha => (I.keep a o h ha).map fun o' h' => up a o' h', fun j d' h ho => ?_, fun j d' hj h => ?_, fun j k a hj hk e1 e2 q1 q2 => ?_, I.sto.grow fun a o _ h => up a o h, fun j d' hj h => ?_, fun j hj => ?_⟩
  · obtain ⟨g1, g2, g3⟩ := has_false ho
    have hne : j ≠ i := fun z => g1 (z ▸ List.mem_cons_self)
    obtain ⟨w, q1, q2⟩ := I.slot j d' (other hne h) (has_mk (fun z => g1 (List.mem_cons_of_mem _ z)) g2 g3)
    exact ⟨w, by rw [sl hne]; exact q1, q2⟩
  · by_cases hne : j = i
    · subst hne
      by_cases hlen : j < env.length
      · rw [List.getElem?_set_self hlen] at h
        have e : D.lst ds = d' := by simpa using h
        subst e
        exact ⟨l, vs, ds, rfl, by rw [List.getElem?_set_self (by rw [I.len]; exact hlen)], upd_same, lS, lb, la, r⟩
      · rw [List.getElem?_eq_none_iff.mpr (by rw [List.length_set]; exact Nat.le_of_not_lt hlen)] at h; cases h
    · have hj' : j ∈ O.own := by
        rcases List.mem_cons.mp hj with z | z
        · exact absurd z hne
        · exact z
      obtain ⟨a, ws, es, q1, q2, q3, q4⟩ := I.own j d' hj' (other hne h)
      exact ⟨a, ws, es, q1, by rw [sl hne]; exact q2, up a _ q3, q4⟩
  · have key : ∀ {j : Nat} {a : Addr}, j ∈ (O.add i).own → (∃ d : D, (env.set i (some (.lst ds)))[j]? = some (some d)) → (σ.set i (some (V.ref l)))[j]? = some (some (V.ref a)) → (j = i ∧ a = l) ∨ (j ≠ i ∧ j ∈ O.own ∧ (∃ d : D, env[j]? = some (some d)) ∧ σ[j]? = some (some (V.ref a)) ∧ a ≠ l) := fun {j a} hj ⟨d, e⟩ q => by
      by_cases hne : j = i
      · subst hne
        have hlen : j < σ.length := by
          have := (List.getElem?_eq_some_iff.mp q).1
          rwa [List.length_set] at this
        rw [List.getElem?_set_self hlen] at q
        have : V.ref l = .ref a := by simpa using q
        injection this with this
        exact .inl ⟨rfl, this.symm⟩
      · have hj' : j ∈ O.own := by
          rcases List.mem_cons.mp hj with z | z
          · exact absurd z hne
          · exact z
        rw [sl hne] at q
        have e' := other hne e
        obtain ⟨c, ws, es, p1, p2, p3, _⟩ := I.own j d hj' e'
        have : a = c := by
          have := q.symm.trans p2
          simpa using this
        subst this
        exact .inr ⟨hne, hj', ⟨d, e'⟩, q, fun z => by rw [z, hl] at p3; cases p3⟩
    rcases key hj e1 q1 with ⟨x1, y1⟩ | ⟨x1, y1, z1, w1, v1⟩
    · rcases key hk e2 q2 with ⟨x2, _⟩ | ⟨_, _, _, _, v2⟩
      · rw [x1, x2]
      · exact absurd y1 v2
    · rcases key hk e2 q2 with ⟨_, y2⟩ | ⟨_, y2, z2, w2, _⟩
      · exact absurd y2 v1
      · exact I.dist j k a y1 y2 z1 z2 w1 w2
  · have hne : j ≠ i := fun z => h2 (z ▸ hj)
    obtain ⟨y, q1, q2, q3⟩ := I.exc j d' hj (other hne h)
    exact ⟨y, q1, by rw [sl hne]; exact q2, q3⟩
  · have hne : j ≠ i := fun z => h3 (z ▸ hj)
    obtain ⟨c, ws, es, q1, q2, q3, q4, q5⟩ := I.self_ j hj
    exact ⟨c, ws, es, by rw [List.getElem?_set_ne (Ne.symm hne)]; exact q1, by rw [sl hne]; exact q2, up _ _ q3, up _ _ q4, q5⟩
/-- a slot's list gets other items -/
theorem DI.own_upd {i : Nat} {l : Addr} {vs' : List V} {ds' : List D} {d0 : D} (I : DI G b O S env st σ H) (hi : i ∈ O.own) (hx : O.exi ≠ some i) (hsf : O.slf ≠ some i) (he : env[i]? = some (some d0)) (hs : σ[i]? = some (some (.ref l))) (r : Reps G b.ad S vs' ds') :
    DI G b O S (env.set i (some (.lst ds'))) st σ (upd H l (.lst vs')) := by
  obtain ⟨a, ws, es, p1, p2, p3, p4, p5, p6, p7⟩ := I.own i d0 hi he
  have ea : a = l := by
    have := p2.symm.trans hs
    simpa using this
  subst ea
  have other : ∀ {j : Nat} {d' : D}, j ≠ i → (env.set i (some (.lst ds')))[j]? = some (some d') → env[j]? = some (some d') := fun {j d'} hj h => by
    rw [List.getElem?_set_ne (Ne.symm hj)] at h; exact h
  have was : ∀ {j : Nat}, (∃ d : D, (env.set i (some (.lst ds')))[j]? = some (some d)) → ∃ d : D, env[j]? = some (some d) := fun {j} ⟨d, e⟩ => by
    by_cases hj : j = i
    · subst hj; exact ⟨_, he⟩
    · exact ⟨d, other hj e⟩
  have up : ∀ c o, c ≠ a → H c = some o → upd H a (.lst vs') c = some o := fun c o hc h => by rw [upd_ne hc]; exact h
  refine ⟨by rw [List.length_set]; exact I.len, fun c o h => up c o (fun z => by rw [z, p4] at h; cases h) (I.sub c o h), I.s0, I.new, fun c o h hc => (I.keep c o h hc).map fun o' h' => up c o' (fun z => by rw [z, p5] at h; cases h) h', fun j d' h ho => ?_, fun j d' hj h => ?_, fun j k c hj hk e1 e2 q1 q2 => I.dist j k c hj hk (was e1) (was e2) q1 q2, I.sto.grow fun c o hc h => up c o (fun z => hc.elim (fun w => p6 (z ▸ w)) fun n => by rw [z, p3] at h; cases h; exact n.lst) h, fun j d' hj h => ?_, fun j hj => ?_⟩
  · obtain ⟨g1, _⟩ := has_false ho
    exact I.slot j d' (other (fun z => g1 (z ▸ hi)) h) ho
  · by_cases hne : j = i
    · subst hne
      have hlen := (List.getElem?_eq_some_iff.mp he).1
      rw [List.getElem?_set_self hlen] at h
      have e : D.lst ds' = d' := by simpa using h
      subst e
      exact ⟨a, vs', ds', rfl, p2, upd_same, p4, p5, p6, r⟩
    · obtain ⟨c, ws', es', q1, q2, q3, q4⟩ := I.own j d' hj (other hne h)
      refine ⟨c, ws', es', q1, q2, up c _ (fun z => hne ?_) q3, q4⟩
      subst z
      exact I.dist j i c hj hi ⟨_, other hne h⟩ ⟨_, he⟩ q2 p2
  · exact I.exc j d' hj (other (fun z => hx (z ▸ hj)) h)
  · have hne : j ≠ i := fun z => hsf (z ▸ hj)
    obtain ⟨c, ws', es', q1, q2, q3, q4, q5⟩ := I.self_ j hj
    exact ⟨c, ws', es', by rw [List.getElem?_set_ne (Ne.symm hne)]; exact q1, q2, up _ _ (fun z => by rw [z, p3] at q3; cases q3) q3, up _ _ (fun z => by rw [z, p3] at q4; cases q4) q4, q5⟩
/-- a slot's list is given away: from here on nobody changes it -/
theorem DI.freeze (I : DI G b O S env st σ H) (i : Nat) (hx : O.exi ≠ some i) : ∃ S', Same S S' ∧ DI G b (O.less i) S' env st σ H := by
  have hasl : ∀ {j : Nat}, j ≠ i → (O.less i).has j = false → O.has j = false := fun {j} hj h => by
    obtain ⟨g1, g2, g3⟩ := has_false h
    exact has_mk (fun z => g1 (mem_less.mpr ⟨z, hj⟩)) g2 g3
  by_cases hi : i ∈ O.own
  · by_cases he : ∃ d0, env[i]? = some (some d0)
    · obtain ⟨d0, he⟩ := he
      obtain ⟨a, ws, es, p1, p2, p3, p4, p5, p6, p7⟩ := I.own i d0 hi he
      have sm : Same S (upd S a (.lst ws)) := fun c o h => by
        rw [upd_ne (fun z => by rw [z, p4] at h; cases h)]; exact h
      have nw : ∀ c o, upd S a (.lst ws) c = some o → (c = a ∧ o = .lst ws) ∨ S c = some o := fun c o h => by
        by_cases hc : c = a
        · subst hc; rw [upd_same] at h; exact .inl ⟨rfl, (Option.some.inj h).symm⟩
        · rw [upd_ne hc] at h; exact .inr h
      have no : ∀ c, c ≠ a → S c = none → upd S a (.lst ws) c = none := fun c hc h => by rw [upd_ne hc]; exact h
      refine ⟨upd S a (.lst ws), sm, I.len, fun c o h => ?_, I.s0.trans sm, fun c o h => ?_, I.keep, fun j d' h ho => ?_, fun j d' hj h => ?_, fun j k c hj hk e1 e2 q1 q2 => I.dist j k c (mem_less.mp hj).1 (mem_less.mp hk).1 e1 e2 q1 q2, I.sto.known sm (fun c hc => no c (fun z => p6 (z ▸ hc)) (I.sto.has hc).1) fun c ⟨_, hh⟩ h => no c (fun z => by rw [z, p3] at hh; cases hh) h, fun j d' hj h => ?_, fun j hj => ?_⟩
      · rcases nw c o h with ⟨rfl, rfl⟩ | q
        · exact p3
        · exact I.sub c o q
      · rcases nw c o h with ⟨rfl, rfl⟩ | q
        · exact .inr p5
        · exact I.new c o q
      · by_cases hj : j = i
        · subst hj
          rw [he] at h
          have e : d0 = d' := by simpa using h
          subst e
          subst p1
          exact ⟨_, p2, .lst upd_same (p7.mono sm)⟩
        · obtain ⟨w, q1, q2⟩ := I.slot j d' h (hasl hj ho)
          exact ⟨w, q1, q2.mono sm⟩
      · obtain ⟨hj1, hj2⟩ := mem_less.mp hj
        obtain ⟨c, ws', es', q1, q2, q3, q4, q5, q6, q7⟩ := I.own j d' hj1 h
        exact ⟨c, ws', es', q1, q2, q3, no c (fun z => hj2 (by subst z; exact I.dist j i c hj1 hi ⟨_, h⟩ ⟨_, he⟩ q2 p2)) q4, q5, q6, q7.mono sm⟩
      · obtain ⟨y, q1, q2, q3⟩ := I.exc j d' hj h
        exact ⟨y, q1, q2, q3.mono sm⟩
      · obtain ⟨c, ws', es', q1, q2, q3, q4, q5, q6, q7, q8, q9, q10, q11⟩ := I.self_ j hj
        exact ⟨c, ws', es', q1, q2, q3, q4, no _ (show O.slv.1 ≠ a from fun z => by rw [z, p3] at q3; cases q3) q5, no _ (show O.slv.2 ≠ a from fun z => by rw [z, p3] at q4; cases q4) q6, q7, q8, q9, q10, q11.mono sm⟩
    · refine ⟨S, .refl _, I.len, I.sub, I.s0, I.new, I.keep, fun j d' h ho => ?_, fun j d' hj h => I.own j d' (mem_less.mp hj).1 h, fun j k c hj hk e1 e2 q1 q2 => I.dist j k c (mem_less.mp hj).1 (mem_less.mp hk).1 e1 e2 q1 q2, I.sto, I.exc, I.self_⟩
      exact I.slot j d' h (hasl (fun z => he ⟨d', z ▸ h⟩) ho)
  · refine ⟨S, .refl _, I.len, I.sub, I.s0, I.new, I.keep, fun j d' h ho => ?_, fun j d' hj h => I.own j d' (mem_less.mp hj).1 h, fun j k c hj hk e1 e2 q1 q2 => I.dist j k c (mem_less.mp hj).1 (mem_less.mp hk).1 e1 e2 q1 q2, I.sto, I.exc, I.self_⟩
    obtain ⟨g1, g2, g3⟩ := has_false ho
    exact I.slot j d' h (has_mk (fun z => g1 (mem_less.mpr ⟨z, fun y => hi (y ▸ z)⟩)) g2 g3)
end
section
variable {G : Glb} {X : Cx} {W : WX} {Ob : Ow} {OE : Ow → Prop} {O O1 O2 : Ow} {pos : Pos} {s : Stmt} {rest : List Stmt} {m n : MS} {e : Expr} {me : ME}
theorem dss_freeze (i : Nat) (h : DSs G X W Ob OE (O.less i) rest O2 m) (hx : O.exi ≠ some i := by first | decide | exact of_decide_eq_true rfl) : DSs G X W Ob OE O rest O2 m := by
  obtain ⟨t, p, w⟩ := h.ex
  refine ⟨t, p, fun b S env st σ H D I h => ?_⟩
  obtain ⟨S', sm, I'⟩ := I.freeze i hx
  exact w b S' env st σ H D I' (h.from_ sm)
/-- a new list -/
def PostF (G : Glb) (ad : List Addr) (S H : Hp) (ds : List D) (st : List D) (Q : VK) : Prop := ∀ l vs S' H', Ext ad S H S' H' → Same S' H' → StoOk G ad S' st H' → H' l = none → Reps G ad S' vs ds → Q (.ref l) (upd H' l (.lst vs))
structure DF (G : Glb) (X : Cx) (W : WX) (O : Ow) (e : Expr) (m : MA) : Prop where
  ex : ∃ t, PE X e t ∧ ∀ (b : Act) S env st σ H Q, DI G b O S env st σ H → wpR (m env st) (fun ds st' => PostF G b.ad S H ds st' Q) (fun x st' => PostX G b.ad S H x st' fun c dd H' => W c dd σ H') → t σ H Q
def fits? (ds : List D) : M (List D) := fun st => if ds.length ≤ sizeLine then .ok ds st else .bad
theorem df_lst {es : List Expr} {mr : MA} (h : DA G X W O es mr) : DF G X W O (.List es pos) (mThenA mr fits?) := by
  obtain ⟨t, p, w⟩ := h.ex
  refine ⟨_, pe_lst p, fun b S env st σ H Q I h => w b S env st σ H _ I (wpR_imp (wpR_bind h) (fun ds st1 h1 => ?_) fun _ _ z => z)⟩
  intro xs S1 H1 x1 su1 so1 r1
  unfold fits? at h1
  split at h1
  · rename_i hz
    exact ⟨by rw [r1.len]; exact hz, fun p hp => h1 p xs S1 H1 x1 su1 so1 hp r1⟩
  · exact h1.elim
/-- x = a new list, x's own -/
def mSetF (i : Nat) (m : MA) : MS := fun env st => match m env st with
  | .ok ds st1 => .nx (env.set i (some (.lst ds))) st1
  | .err x st1 => .er x env st1
  | .bad => .bad
theorem ds_own (i : Nat) {x : Str} {pos' : Pos} {ma : MA} (hN : X.N.Nodup) (he : DF G X W O e ma) (hO : OE O := by first | trivial | rfl) (hi : X.N[i]? = some x := by rfl) (ho : O.has i = false := by rfl) (hx : Loc X.env.scope x := by first | exact Or.inl rfl | exact Or.inr rfl)
    (hs : swapsWith e (some (.Name x pos')) pos.line X.env = pure false := by rfl) (hf : X.fn x = true ∨ X.env.scope.names.lookup x = some .local := by first | exact .inl rfl | exact .inr rfl) : DS G X W Ob OE O (.Assign [.Name x pos'] e pos) (O.add i) (mSetF i ma) := by
  obtain ⟨t, p, w⟩ := he.ex
  refine ⟨_, ps_set hN hi hx p hs hf, fun b S env st σ H D I h => w b S env st σ H _ I ?_⟩
  unfold mSetF at h
  cases e1 : ma env st with
  | ok ds st1 =>
    rw [e1] at h
    intro l vs S' H' x' su so hl r
    have I' := I.ext x' su so
    exact h S' _ _ x'.same (I'.own_new hl r ho)
  | err y st1 =>
    rw [e1] at h
    intro cls dd S' H' x' su so r
    exact h cls dd O S' σ H' hO x'.same (I.ext x' su so) r
  | bad => rw [e1] at h; exact h
/-- x.append(e) -/
def mPush (i : Nat) (me : ME) : MS := fun env st => match env[i]? with
  | some (some (.lst ds)) => match me env st with
    | .ok d st1 => if ds.length < sizeLine then .nx (env.set i (some (.lst (ds ++ [d])))) st1 else .bad
    | .err x st1 => .er x env st1
    | .bad => .bad
  | _ => .bad
theorem Reps.snoc {ad : List Addr} {S : Hp} {v : V} {d : D} (r1 : Rep G ad S v d) : ∀ {vs : List V} {ds : List D}, Reps G ad S vs ds → Reps G ad S (vs ++ [v]) (ds ++ [d])
  | _, _, .nil => .cons r1 .nil
  | _, _, .cons h r => .cons h (Reps.snoc r1 r)
theorem ds_push (i : Nat) {x : Str} {p1 p2 cp : Pos} (he : DE G X W O e me) (hO : OE O := by first | trivial | rfl) (hi : X.N[i]? = some x := by rfl) (hm : i ∈ O.own := by first | decide | exact of_decide_eq_true rfl) (hxi : O.exi ≠ some i := by first | decide | exact of_decide_eq_true rfl) (hsf : O.slf ≠ some i := by first | decide | exact of_decide_eq_true rfl) (hv : Vis X.env.scope x := by first | exact Or.inl rfl | exact Or.inr (Or.inl rfl) | exact Or.inr (Or.inr rfl))
    (hd : (x == ("__debug__" : Str)) = false := by decide) (hcd : (x == ("__classdict__" : Str)) = false := by decide)
    (hbase : attributeBase (.Name x p1) "append" X.env (eval (.Name x p1) X.env) = eval (.Name x p1) X.env := by rfl)
    (hfew : ((backTo cp (starEach [e] X.env)).all (fun x => !x.1) && (backToKw cp (keywordEach [] X.env)).all (fun x => x.1.isSome)
      && decide ([e].length + ([] : List Keyword).length + (if ([] : List Keyword).isEmpty then 0 else 1) < 30)) = true := by rfl) (hline : (p2.endLine == cp.line) = true := by rfl)
    (hst : starEach [e] X.env = (false, eval e X.env) :: starEach [] X.env := by rfl) (hpl : (backTo cp (starEach [] X.env)).any (·.1) = false := by rfl)
    (hs : swapsWith (.Call (.Attribute (.Name x p1) "append" p2) [e] [] cp) none pos.line X.env = pure false := by rfl) : DS G X W Ob OE O (.Expr (.Call (.Attribute (.Name x p1) "append" p2) [e] [] cp) pos) O (mPush i me) := by
  obtain ⟨t, p, w⟩ := he.ex
  refine ⟨_, ps_expr (pe_bm PySem.F.plainAttrs_list PySem.F.slot_list_append PySem.F.type_list_append mt_append (pe_var hi hv hd hcd) (pa_cons p pa_nil hst) hbase hfew hline hst hpl) hs, fun b S env st σ H D I h => ?_⟩
  unfold mPush at h
  cases e1 : env[i]? with
  | none => rw [e1] at h; exact h.elim
  | some o => cases o with
    | none => rw [e1] at h; exact h.elim
    | some d0 =>
      obtain ⟨a, ws, es, p1, p2, p3, p4, p5, p6, p7⟩ := I.own i d0 hm e1
      subst p1
      rw [e1] at h
      refine ⟨_, p2, Or.inl ⟨rfl, _, Or.inl (Or.inl p3)⟩, w b S env st σ H _ I ?_⟩
      cases e2 : me env st with
      | ok d st1 =>
        rw [e2] at h
        intro v S' H' x' su so r
        have I' := I.ext x' su so
        obtain ⟨a', ws', es', q1, q2, q3, q4, q5, q6, q7⟩ := I'.own i _ hm e1
        cases q1
        have ea : a' = a := by
          have := q2.symm.trans p2
          simpa using this
        subst ea
        show ∃ l xs y, _
        dsimp only at h
        split at h
        · rename_i hz
          refine ⟨a', ws', v, rfl, rfl, q3, by rw [q7.len]; exact hz, ?_⟩
          exact h S' σ _ x'.same (I'.own_upd hm hxi hsf e1 p2 (Reps.snoc r q7))
        · exact h.elim
      | err y st1 =>
        rw [e2] at h
        intro cls dd S' H' x' su so r
        exact h cls dd O S' σ H' hO x'.same (I.ext x' su so) r
      | bad => rw [e2] at h; exact h.elim
end
section
variable {G : Glb} {X : Cx} {W : WX} {O : Ow} {pos : Pos} {e : Expr} {me : ME}
/-- x[e], x a slot that owns its list -/
theorem de_getO (i : Nat) {x : Str} {p1 : Pos} {b : Expr} {mb : ME} (hb : DE G X W O b mb) (hm : i ∈ O.own := by first | decide | exact of_decide_eq_true rfl) (hi : X.N[i]? = some x := by rfl) (hv : Vis X.env.scope x := by first | exact Or.inl rfl | exact Or.inr (Or.inl rfl) | exact Or.inr (Or.inr rfl))
    (hd : (x == ("__debug__" : Str)) = false := by decide) (hcd : (x == ("__classdict__" : Str)) = false := by decide) (hs : PlainIx b := by intro _ _; rfl) : DE G X W O (.Subscript (.Name x p1) b pos) (mIx (mVar i) mb) := by
  obtain ⟨tb, pb, w⟩ := hb.ex
  refine ⟨_, pe_ix ix_seq (pe_var hi hv hd hcd) pb hs, fun c S env st σ H Q I h => ?_⟩
  unfold mIx mVar at h
  cases e1 : env[i]? with
  | none => rw [e1] at h; exact h.elim
  | some o => cases o with
    | none => rw [e1] at h; exact h.elim
    | some d0 =>
      obtain ⟨a, ws, es, p1, p2, p3, p4, p5, p6, p7⟩ := I.own i d0 hm e1
      subst p1
      rw [e1] at h
      refine ⟨_, p2, w c S env st σ H _ I ?_⟩
      have h : wpR ((mb env st).bind fun y => ixS (.lst es) y) _ _ := h
      refine wpR_imp (wpR_bind h) (fun dy st1 h1 => ?_) fun _ _ z => z
      intro y S' H' x' su so r
      have I' := I.ext x' su so
      obtain ⟨a', ws', es', q1, q2, q3, q4, q5, q6, q7⟩ := I'.own i _ hm e1
      cases q1
      have ea : a' = a := by
        have := q2.symm.trans p2
        simpa using this
      subst ea
      rw [ixS_other (fun n z => by cases z)] at h1
      obtain ⟨d, e2, q⟩ := wp_ret h1
      have e3 : ∃ k, dy = .int k := by
        cases dy <;> first | exact ⟨_, rfl⟩ | cases e2
      obtain ⟨k, rfl⟩ := e3
      have e2 : atI es k = some d := e2
      cases r with
      | int k =>
        obtain ⟨v, e4, r2⟩ := atI_rep q7 e2
        exact .inl ⟨_, _, _, _, rfl, rfl, SqL.of q3, e4, Post.here su so r2 (Post.from_ x' so q)⟩
/-- len(x), x a slot that owns its list -/
theorem de_lenO (i : Nat) {x : Str} {p0 p1 : Pos} (hg : Gl X "len" := by rfl) (hmg : X.mg "len" = none) (hm : i ∈ O.own := by first | decide | exact of_decide_eq_true rfl) (hi : X.N[i]? = some x := by rfl) (hv : Vis X.env.scope x := by first | exact Or.inl rfl | exact Or.inr (Or.inl rfl) | exact Or.inr (Or.inr rfl))
    (hd : (x == ("__debug__" : Str)) = false := by decide) (hcd : (x == ("__classdict__" : Str)) = false := by decide)
    (he : starEach [.Name x p1] X.env = (false, eval (.Name x p1) X.env) :: starEach [] X.env := by rfl) (hpl : (backTo pos (starEach [] X.env)).any (·.1) = false := by rfl) : DE G X W O (.Call (.Name "len" p0) [.Name x p1] [] pos) (mCall1 (c1 dLen) (mCons (mVar i) mNil)) := by
  refine ⟨_, pe_callB call_len hg hmg PySem.boot_len (pa_cons (pe_var hi hv hd hcd) pa_nil he) (by decide) (by decide) he hpl, fun c S env st σ H Q I h => ?_⟩
  unfold mCall1 mCons mVar at h
  cases e1 : env[i]? with
  | none => rw [e1] at h; exact h.elim
  | some o => cases o with
    | none => rw [e1] at h; exact h.elim
    | some d0 =>
      obtain ⟨a, ws, es, p1, p2, p3, p4, p5, p6, p7⟩ := I.own i d0 hm e1
      subst p1
      rw [e1] at h
      refine ⟨_, p2, _, ws.length, rfl, .inl ⟨_, SqL.of p3, rfl⟩, ?_⟩
      rw [p7.len]
      exact Post.here I.sub I.sto (.int _) h
end
/-! ### try with one handler, no name -/
def noErS : Out → Out
  | .er _ _ _ => .bad
  | o => o
def mTry1 (cl : Nat → Option Bool) (m ms : MS) : MS := fun env st => match m env st with
  | .er x env1 st1 => match cl x.c with
    | some true => noErS (ms env1 st1)
    | some false => .er x env1 st1
    | none => .bad
  | o => o
section
variable {G : Glb} {X : Cx} {W : WX} {OE : Ow → Prop} {pos pos' np : Pos} {k : Nat}
theorem ds_try1 {own ob : List Nat} {body suite : List Stmt} {b₀ : Stmt} {x : Str} {cv : Value} {m ms : MS} (cl : Nat → Option Bool) (xc : XC k G X W) (xt : XT X) (hc : Names X x cv) (hcl : ∀ c b, cl c = some b → PySem.W.exmOne G.K (.ref (G.cl c)) cv = some b)
    (hb : ∀ (W' : WX) (pn : List (Addr × Obj)) (xe : Value → Shared → Prop), XC k G (X.tr pn xe) W' → XT (X.tr pn xe) → DSs G (X.tr pn xe) W' ⟨ob, none, (0, .none, none), none, (0, 0)⟩ (· = ⟨own, none, (0, .none, none), none, (0, 0)⟩) ⟨own, none, (0, .none, none), none, (0, 0)⟩ body ⟨own, none, (0, .none, none), none, (0, 0)⟩ m)
    (hsu : ∀ (a : Addr) (oe : Obj) (cls : Value) (d : Option Addr) (pn : List (Addr × Obj)), Zc cls d oe → (∃ vs, oe.data = .fields vs) → DSs G (X.suite a ((a, oe) :: pn)) W0 ⟨ob, none, (0, .none, none), none, (0, 0)⟩ (fun _ => True) ⟨own, none, (0, .none, none), none, (0, 0)⟩ (b₀ :: suite) ⟨own, none, (0, .none, none), none, (0, 0)⟩ ms)
    (hO : OE ⟨own, none, (0, .none, none), none, (0, 0)⟩ := by first | trivial | rfl) :
    DS G X W ⟨ob, none, (0, .none, none), none, (0, 0)⟩ OE ⟨own, none, (0, .none, none), none, (0, 0)⟩ (.Try body [.ExceptHandler (some (.Name x np)) none (b₀ :: suite) pos'] [] [] pos) ⟨own, none, (0, .none, none), none, (0, 0)⟩ (mTry1 cl m ms) := by
  refine ⟨_, ps_try_many (Wout := W)
    (tb := fun W' D σ H => ∃ b S env st, DI G b ⟨own, none, (0, .none, none), none, (0, 0)⟩ S env st σ H ∧ PostS G b ⟨ob, none, (0, .none, none), none, (0, 0)⟩ (· = ⟨own, none, (0, .none, none), none, (0, 0)⟩) W' ⟨own, none, (0, .none, none), none, (0, 0)⟩ D S (m env st))
    (l := [(cv, fun _ _ _ D σ H => ∃ b S env st, DI G b ⟨own, none, (0, .none, none), none, (0, 0)⟩ S env st σ H ∧ PostS G b ⟨ob, none, (0, .none, none), none, (0, 0)⟩ (fun _ => True) W0 ⟨own, none, (0, .none, none), none, (0, 0)⟩ D S (ms env st))])
    xt.stk xt.fr xc.tk (fun W' pn xe tk po => ?_) (.cons hc (fun a oe cls d pn hz hf => ?_) .nil), fun b S env st σ H D I h => ?_⟩
  · obtain ⟨t, p, w⟩ := (hb W' pn xe (xc.tr tk po) (xt.tr pn xe)).ex
    exact PSs.imp p fun D σ H ⟨b, S, env, st, I, q⟩ => w b S env st σ H D I q
  · obtain ⟨t, p, w⟩ := (hsu a oe cls d pn hz hf).ex
    exact PSs.imp p fun D σ H ⟨b, S, env, st, I, q⟩ => w b S env st σ H D I q
  · refine ⟨b, S, env, st, I, ?_⟩
    unfold mTry1 at h
    cases e : m env st with
    | nx env1 st1 => rw [e] at h; exact h
    | rt d st1 => rw [e] at h; exact h
    | bk env1 st1 => rw [e] at h; exact h
    | ct env1 st1 => rw [e] at h; exact h
    | bad => rw [e] at h; exact h
    | er x env1 st1 =>
      rw [e] at h
      dsimp only at h
      intro cls dd O' S1 σ1 H1 hO' e1 I1 rx
      subst hO'
      cases ec : cl x.c with
      | none => rw [ec] at h; exact h.elim
      | some bb =>
        rw [ec] at h
        refine ⟨bb, by rw [xc.K, rx.1]; exact hcl _ _ ec, fun hbb a ha => ?_, fun hbb => ?_⟩
        · subst hbb
          dsimp only at h
          refine ⟨b, S1, _, st1, I1, ?_⟩
          cases es : ms env1 st1 with
          | nx env2 st2 =>
            rw [es] at h
            exact fun S2 σ2 H2 e2 I2 => h S2 _ H2 (e1.trans e2) I2
          | rt d st2 => rw [es] at h; exact h
          | bk env2 st2 =>
            rw [es] at h
            exact fun S2 σ2 H2 e2 I2 => h S2 _ H2 (e1.trans e2) I2
          | ct env2 st2 =>
            rw [es] at h
            exact fun S2 σ2 H2 e2 I2 => h S2 _ H2 (e1.trans e2) I2
          | er x2 env2 st2 => rw [es] at h; exact h.elim
          | bad => rw [es] at h; exact h.elim
        · subst hbb
          exact h cls dd _ S1 σ1 H1 hO e1 I1 rx
end
/-! ### slices -/
abbrev MO := Env' → List D → Res (Option Int)
structure DO (G : Glb) (X : Cx) (W : WX) (O : Ow) (e : Option Expr) (m : MO) : Prop where
  ex : ∃ t, PO X e t ∧ ∀ (b : Act) S env st σ H (Q : Option Int → Hp → Prop), DI G b O S env st σ H → wpR (m env st) (fun o st' => ∀ S' H', Ext b.ad S H S' H' → Same S' H' → StoOk G b.ad S' st' H' → Q o H') (fun x st' => PostX G b.ad S H x st' fun c dd H' => W c dd σ H') → t σ H Q
def mNo : MO := fun _ st => .ok none st
def int? (d : D) : M (Option Int) := fun st => match d with
  | .int i => .ok (some i) st
  | _ => .bad
def mPart (m : ME) : MO := fun env st => (m env st).bind int?
def cutD (xs : List D) (lo hi : Option Int) : List D := (xs.drop (HT.sIx xs.length 0 lo)).take (HT.sIx xs.length xs.length hi - HT.sIx xs.length 0 lo)
def dSl (x : D) (lo hi : Option Int) : Option D := match x with
  | .lst xs => some (.lst (cutD xs lo hi))
  | .rol xs => some (.lst (cutD xs lo hi))
  | .tup xs => some (.tup (cutD xs lo hi))
  | _ => none
def mSl (m : ME) (l h : MO) : ME := fun env st => (m env st).bind fun x st1 => (l env st1).bind fun lo st2 => (h env st2).bind fun hi => ret? (dSl x lo hi)
theorem reps_cut {G : Glb} {ad : List Addr} {S : Hp} {vs : List V} {ds : List D} (r : Reps G ad S vs ds) (lo hi : Option Int) : Reps G ad S (cutV vs lo hi) (cutD ds lo hi) := by
  unfold cutV cutD
  rw [r.len]
  exact (r.drop _).take _
theorem cut_whole {xs : List D} {lo hi : Option Int} (h : HT.sIx xs.length 0 lo = 0 ∧ HT.sIx xs.length xs.length hi = xs.length) : cutD xs lo hi = xs := by
  unfold cutD
  rw [h.1, h.2]
  simp
section
variable {G : Glb} {X : Cx} {W : WX} {O : Ow} {pos : Pos} {e : Expr} {me : ME}
theorem do_none : DO G X W O none mNo := ⟨_, po_none, fun b S env st σ H Q I h => h S H (.refl _ _ _) I.sub I.sto⟩
theorem do_some (he : DE G X W O e me) : DO G X W O (some e) (mPart me) := by
  obtain ⟨t, p, w⟩ := he.ex
  refine ⟨_, po_some p, fun b S env st σ H Q I h => w b S env st σ H _ I (wpR_imp (wpR_bind h) (fun d st1 h1 => ?_) fun _ _ z => z)⟩
  intro v S' H' x su so r
  cases r <;> first | exact h1.elim | exact ⟨_, rfl, h1 S' H' x su so⟩
theorem de_slice {lo hi : Option Expr} {ml mh : MO} {p2 : Pos} (hK : X.K = G.K) (he : DE G X W O e me) (hl : DO G X W O lo ml) (hh : DO G X W O hi mh) : DE G X W O (.Subscript e (.Slice lo hi none p2) pos) (mSl me ml mh) := by
  obtain ⟨t, p, w⟩ := he.ex
  obtain ⟨tl, pl, wl⟩ := hl.ex
  obtain ⟨th, ph, wh⟩ := hh.ex
  refine ⟨_, pe_slice (SlR.or sl_list sl_tupA) p pl ph, fun b S env st σ H Q I h => w b S env st σ H _ I (wpR_imp (wpR_bind h) (fun d st1 h1 => ?_) fun _ _ z => z)⟩
  intro v S1 H1 x1 su1 so1 r1
  have I1 := I.ext x1 su1 so1
  refine wl b S1 env st1 σ H1 _ I1 (wpR_imp (wpR_bind h1) (fun l st2 h2 => ?_) fun _ _ z => z.from_ x1 so1)
  intro S2 H2 x2 su2 so2
  have x12 := x1.trans so1 x2
  have I2 := I1.ext x2 su2 so2
  refine wh b S2 env st2 σ H2 _ I2 (wpR_imp (wpR_bind h2) (fun u st3 h3 => ?_) fun _ _ z => z.from_ x12 so2)
  intro S3 H3 x3 su3 so3
  have x13 := x12.trans so2 x3
  have r3 := (r1.mono x2.same).mono x3.same
  obtain ⟨d', e1, q⟩ := wp_ret h3
  have q' := Post.from_ x13 so3 q
  cases r3 with
  | lst h4 r4 =>
    cases e1
    exact .inl ⟨_, _, rfl, SqL.of (su3 _ _ h4), fun p hp => Post.lst su3 so3 hp (reps_cut r4 _ _) q'⟩
  | rol h4 r4 =>
    cases e1
    exact .inl ⟨_, _, rfl, hK ▸ su3.seq h4, fun p hp => Post.lst su3 so3 hp (reps_cut r4 _ _) q'⟩
  | tup h4 r4 =>
    cases e1
    refine .inr ⟨_, _, rfl, hK ▸ Same.sqT su3 h4.sqT, fun hw => ?_, fun _ p hp => Post.tup su3 so3 hp (reps_cut r4 _ _) q'⟩
    rw [r4.len] at hw
    rw [cut_whole hw] at q'
    exact Post.here su3 so3 (.tup h4 r4) q'
  | _ => cases e1
end
end DL

/-! DL, twelfth part: own classes: fields, making, methods. -/
namespace DL
open PySem PySem.Spec PyProof.Rows L2
/-- the classes' fields -/
def FldT (G : Glb) (okF : Nat → Str → Bool) : Prop := ∀ c f, okF c f = true → Cls G.K (G.cl c) ∧ NoAttr G.K (G.cl c) f
def putD (f : Str) (d : D) : List (Str × D) → List (Str × D)
  | [] => [(f, d)]
  | (g, x) :: r => if g = f then (g, d) :: r else (g, x) :: putD f d r
theorem RepF.put {G : Glb} {ad : List Addr} {S : Hp} {f : Str} {v : V} {d : D} (h : Rep G ad S v d) : ∀ {vs : List (Str × V)} {fs : List (Str × D)}, RepF G ad S vs fs → RepF G ad S (putF f v vs) (putD f d fs)
  | _, _, .nil => .cons h .nil
  | _, _, .cons (f := g) h1 r => by
    unfold putF putD
    by_cases e : g = f
    · rw [if_pos e, if_pos e]; exact .cons h r
    · rw [if_neg e, if_neg e]; exact .cons h1 (RepF.put h r)
theorem RepF.len {G : Glb} {ad : List Addr} {S : Hp} : ∀ {vs : List (Str × V)} {fs : List (Str × D)}, RepF G ad S vs fs → vs.length = fs.length
  | _, _, .nil => rfl
  | _, _, .cons _ r => congrArg (· + 1) r.len
def selfO (x dx : Addr) : Ow := { slf := some 0, slv := (x, dx) }
def dFld (okF : Nat → Str → Bool) (f : Str) (d : D) : Option D := match d with
  | .obj c fs => if okF c f = true then fs.lookup f else none
  | _ => none
def mFld (okF : Nat → Str → Bool) (f : Str) (me : ME) : ME := fun env st => (me env st).bind fun d => ret? (dFld okF f d)
def mFldS (okF : Nat → Str → Bool) (f : Str) (me : ME) : MS := mDo me fun d env st => match env[0]? with
  | some (some (D.obj c fs)) => if okF c f = true ∧ fs.length < 1000 then .nx (env.set 0 (some (.obj c (putD f d fs)))) st else .bad
  | _ => .bad
/-- __init__ from its body -/
def initM (c n : Nat) (m : MS) : List D → M D := fun ds st => match m (some (.obj c []) :: (ds.map some ++ List.replicate (n - 1 - ds.length) none)) st with
  | .nx env st1 => match env[0]? with
    | some (some d) => .ok d st1
    | _ => .bad
  | .er x _ st1 => .err x st1
  | _ => .bad
def spI (G : Glb) (c n : Nat) (m : List D → M D) : Sp := fun vs H Q E => ∃ (b : Act) (ds : List D) (st : List D) (x dx : Addr) (ws : List V), vs = .ref x :: ws ∧ H = upd (upd b.H dx (.own x)) x (.ins (G.cl c) dx []) ∧ b.H x = none ∧ b.H dx = none ∧ dx ≠ x ∧
  ws.length = n ∧ Same b.S b.H ∧ StoOk G b.ad b.S st b.H ∧ Reps G b.ad b.S ws ds ∧
  wpR (m ds st) (fun d st' => ∀ S' H', Ext b.ad b.S b.H S' H' → Same S' H' → StoOk G b.ad S' st' H' → Rep G b.ad S' (.ref x) d → Q .non H') (fun e st' => PostX G b.ad b.S b.H e st' E)
section
variable {G : Glb} {b : Act} {O : Ow} {S H : Hp} {env : Env'} {st : List D} {σ : L2.St}
/-- an object begins -/
theorem DI.born {c : Nat} {x dx : Addr} (I : DI G b {} S env st σ H) (hx : H x = none) (hd : H dx = none) (hne : dx ≠ x) (hl : 0 < env.length) :
    DI G b (selfO x dx) S (env.set 0 (some (.obj c []))) st (σ.set 0 (some (.ref x))) (upd (upd H dx (.own x)) x (.ins (G.cl c) dx [])) := by
  have up : ∀ a o, H a = some o → upd (upd H dx (.own x)) x (.ins (G.cl c) dx []) a = some o := fun a o h => by
    rw [upd_ne (fun z => by rw [z, hx] at h; cases h), upd_ne (fun z => by rw [z, hd] at h; cases h)]; exact h
  have fr : ∀ a, H a = none → S a = none ∧ b.H a = none ∧ a ∉ b.ad := fun a ha => by
    have na : a ∉ b.ad := fun z => by
      obtain ⟨_, vs', hv⟩ := I.sto.has z
      rw [ha] at hv; cases hv
    refine ⟨?_, ?_, na⟩
    · cases e : S a with
      | none => rfl
      | some o => have := I.sub a o e; rw [ha] at this; cases this
    · cases e : b.H a with
      | none => rfl
      | some o => exact ((I.keep a o e na).no (by assumption)).elim
  obtain ⟨x1, x2, x3⟩ := fr x hx
  obtain ⟨y1, y2, y3⟩ := fr dx hd
  refine ⟨by rw [List.length_set, List.length_set]; exact I.len, fun a o h => up a o (I.sub a o h), I.s0, I.new, fun a o h ha => (I.keep a o h ha).map fun o' h' => up a o' h', fun j d' h ho => ?_, fun j d' hj => (by cases hj), fun j k a hj => (by cases hj), I.sto.grow fun a o _ h => up a o h, fun j d' hj => (by cases hj), fun j hj => ?_⟩
  · have hj : j ≠ 0 := fun z => by subst z; cases ho
    rw [List.getElem?_set_ne (Ne.symm hj)] at h
    obtain ⟨w, q1, q2⟩ := I.slot j d' h rfl
    exact ⟨w, by rw [List.getElem?_set_ne (Ne.symm hj)]; exact q1, q2⟩
  · have e : 0 = j := Option.some.inj hj
    subst e
    refine ⟨c, [], [], List.getElem?_set_self hl, List.getElem?_set_self (by rw [I.len]; exact hl), upd_same, ?_, x1, y1, x2, y2, x3, y3, .nil⟩
    exact (upd_ne hne).trans upd_same
/-- a field of the object that is being made -/
theorem DI.fld {x dx : Addr} {v : V} {d : D} {f : Str} {c : Nat} {fs : List (Str × D)} {vs : List (Str × V)} (I : DI G b (selfO x dx) S env st σ H) (he : env[0]? = some (some (.obj c fs))) (hh : H x = some (.ins (G.cl c) dx vs)) (rf : RepF G b.ad S vs fs) (r : Rep G b.ad S v d) :
    DI G b (selfO x dx) S (env.set 0 (some (.obj c (putD f d fs)))) st σ (upd H x (.ins (G.cl c) dx (putF f v vs))) := by
  obtain ⟨c', vs', fs', q1, q2, q3, q4, q5, q6, q7, q8, q9, q10, q11⟩ := I.self_ 0 rfl
  have hl : 0 < env.length := (List.getElem?_eq_some_iff.mp he).1
  have up : ∀ a o, a ≠ x → H a = some o → upd H x (.ins (G.cl c) dx (putF f v vs)) a = some o := fun a o ha h => by rw [upd_ne ha]; exact h
  have q5 : S x = none := q5
  have q7 : b.H x = none := q7
  have q9 : x ∉ b.ad := q9
  have q4 : H dx = some (.own x) := q4
  refine ⟨by rw [List.length_set]; exact I.len, fun a o h => up a o (fun z => by rw [z, q5] at h; cases h) (I.sub a o h), I.s0, I.new, fun a o h ha => (I.keep a o h ha).map fun o' h' => up a o' (fun z => by rw [z, q7] at h; cases h) h', fun j d' h ho => ?_, fun j d' hj => (by cases hj), fun j k a hj => (by cases hj), I.sto.grow fun a o ha h => up a o (fun z => ha.elim (fun w => q9 (z ▸ w)) fun n => by rw [z, hh] at h; cases h; exact n.ins) h, fun j d' hj => (by cases hj), fun j hj => ?_⟩
  · have hj : j ≠ 0 := fun z => by subst z; cases ho
    rw [List.getElem?_set_ne (Ne.symm hj)] at h
    exact I.slot j d' h ho
  · have e : 0 = j := Option.some.inj hj
    subst e
    refine ⟨c, _, _, List.getElem?_set_self hl, q2, upd_same, up _ _ (fun z => ?_) q4, q5, q6, q7, q8, q9, q10, rf.put r⟩
    rw [show (selfO x dx).slv.2 = dx from rfl] at z
    rw [z, hh] at q4; cases q4
end
section
variable {G : Glb} {X : Cx} {W : WX} {Ob : Ow} {OE : Ow → Prop} {O : Ow} {pos pos' : Pos} {e : Expr} {me : ME} {okF : Nat → Str → Bool}
/-- e.f -/
theorem de_fld {f : Str} (hK : X.K = G.K) (T : FldT G okF) (he : DE G X W O e me) (hb : attributeBase e f X.env (eval e X.env) = eval e X.env := by rfl) : DE G X W O (.Attribute e f pos) (mFld okF f me) := by
  obtain ⟨t, p, w⟩ := he.ex
  refine ⟨_, pe_fld p hb, fun b S env st σ H Q I h => w b S env st σ H _ I (wpR_imp (wpR_bind h) (fun d st1 h1 => ?_) fun _ _ z => z)⟩
  intro v S1 H1 x1 su1 so1 r1
  obtain ⟨d', e1, q⟩ := wp_ret h1
  cases r1 with
  | obj h2 r2 =>
    rename_i a dx c vs fs
    have e1 : (if okF c f = true then fs.lookup f else none) = some d' := e1
    split at e1
    · rename_i ok
      obtain ⟨g1, g2⟩ := T c f ok
      obtain ⟨v, l, r3⟩ := r2.look e1
      exact ⟨_, _, _, _, _, rfl, su1 _ _ h2, hK ▸ g1, hK ▸ g2, l, Post.here su1 so1 r3 (Post.from_ x1 so1 q)⟩
    · cases e1
  | _ => cases e1
/-- self.f, in __init__ -/
theorem de_fldS {f : Str} {x dx : Addr} {y : Str} {p1 : Pos} (hK : X.K = G.K) (T : FldT G okF) (hi : X.N[0]? = some y := by rfl) (hv : Vis X.env.scope y := by first | exact Or.inl rfl | exact Or.inr (Or.inl rfl) | exact Or.inr (Or.inr rfl))
    (hd : (y == ("__debug__" : Str)) = false := by decide) (hcd : (y == ("__classdict__" : Str)) = false := by decide) (hb : attributeBase (.Name y p1) f X.env (eval (.Name y p1) X.env) = eval (.Name y p1) X.env := by rfl) :
    DE G X W (selfO x dx) (.Attribute (.Name y p1) f pos) (mFld okF f (mVar 0)) := by
  refine ⟨_, pe_fld (pe_var hi hv hd hcd) hb, fun b S env st σ H Q I h => ?_⟩
  obtain ⟨c, vs, fs, q1, q2, q3, q4, q5, q6, q7, q8, q9, q10, q11⟩ := I.self_ 0 rfl
  unfold mFld mVar at h
  rw [q1] at h
  have h : wpR (ret? (dFld okF f (.obj c fs)) st) _ _ := h
  obtain ⟨d', e1, q⟩ := wp_ret h
  have e1 : (if okF c f = true then fs.lookup f else none) = some d' := e1
  split at e1
  · rename_i ok
    obtain ⟨g1, g2⟩ := T c f ok
    obtain ⟨v, l, r3⟩ := q11.look e1
    exact ⟨_, q2, _, _, _, _, _, rfl, q3, hK ▸ g1, hK ▸ g2, l, Post.here I.sub I.sto r3 q⟩
  · cases e1
/-- self.f = e, in __init__ -/
theorem ds_fldS {f : Str} {x dx : Addr} {y : Str} {p1 : Pos} (hK : X.K = G.K) (T : FldT G okF) (he : DE G X W (selfO x dx) e me) (hO : OE (selfO x dx) := by first | trivial | rfl) (hi : X.N[0]? = some y := by rfl) (hv : Vis X.env.scope y := by first | exact Or.inl rfl | exact Or.inr (Or.inl rfl) | exact Or.inr (Or.inr rfl))
    (hd : (y == ("__debug__" : Str)) = false := by decide) (hcd : (y == ("__classdict__" : Str)) = false := by decide) (hs : swapsWith e (some (.Attribute (.Name y p1) f pos')) pos.line X.env = pure false := by rfl) :
    DS G X W Ob OE (selfO x dx) (.Assign [.Attribute (.Name y p1) f pos'] e pos) (selfO x dx) (mFldS okF f me) := by
  obtain ⟨t, p, w⟩ := he.ex
  refine ⟨_, ps_fld (pe_var hi hv hd hcd) p hs, fun b S env st σ H D I h => do_part hO w I h fun v d S' H' st' I' r q => ?_⟩
  obtain ⟨c, vs, fs, q1, q2, q3, q4, q5, q6, q7, q8, q9, q10, q11⟩ := I'.self_ 0 rfl
  rw [q1] at q
  dsimp only at q
  split at q
  · rename_i ok
    obtain ⟨g1, g2⟩ := T c f ok.1
    exact ⟨_, q2, _, _, _, _, rfl, q3, hK ▸ g1, hK ▸ g2, by rw [q11.len]; exact ok.2, q S' σ _ (.refl _) (I'.fld q1 q3 q11 r)⟩
  · exact q.elim
end
section
variable {P : Program} {w : World} {K : PySem.W.Frag} {mg : Str → Option Value} {base : Heap}
/-- __init__ -/
theorem fnI {G : Glb} {x0 qual : Str} {st : Stmt} {f : Addr} {fd : FuncData} {N ps : List Str} {c k n : Nat} {m : MS} (F : Fun K x0 qual st f fd) (S : FnScope N ps (defScope st)) (hK : K = G.K) (hps : ps.length = n + 1) (hN : ps.length ≤ N.length)
    (hbody : ∀ (x dx : Addr) (cdv : Value) (A : Around) (outer : List Env) (s : Shared) (H : Hp) (E : XK), XC k G (cxOf (L2.CX P w) P w K mg base N qual (defScope st) f cdv A outer s H E) (fun cls d _ H' => E cls d H') → XT (cxOf (L2.CX P w) P w K mg base N qual (defScope st) f cdv A outer s H E) →
      DSs G (cxOf (L2.CX P w) P w K mg base N qual (defScope st) f cdv A outer s H E) (fun cls d _ H' => E cls d H') (selfO x dx) (fun _ => True) (selfO x dx) (defBody st) (selfO x dx) m) :
    FnOk P w K mg base (L2.CX P w) (k + 1) f fd ps (spI G c n (initM c N.length m)) := by
  refine F.okX S (fun vs H Q E h => ?_) fun cdv A outer s H vs Q E hr h => ?_
  · obtain ⟨b, ds, st0, x, dx, ws, rfl, _, _, _, _, hl, _⟩ := h
    rw [List.length_cons, hl, hps]
  · obtain ⟨b, ds, st0, x, dx, ws, rfl, rfl, hx, hd, hne, hl, hs, so, r, h⟩ := h
    have xc : XC k G (cxOf (L2.CX P w) P w K mg base N qual (defScope st) f cdv A outer s (upd (upd b.H dx (.own x)) x (.ins (G.cl c) dx [])) E) (fun cls d _ H' => E cls d H') :=
      { tk := takes_of rfl rfl rfl rfl, po := passes_of rfl, calm := rfl, hr := hr, K := hK }
    obtain ⟨t, p, wt⟩ := (hbody x dx cdv A outer s _ E xc ⟨rfl, rfl⟩).ex
    refine ⟨t, p, ?_⟩
    have I0 := DI.start (n := N.length - 1 - ws.length) hs so (.cons (.non) r)
    have I1 := I0.born (c := c) hx hd hne (by simp)
    have e1 : N.length - 1 - ws.length = N.length - 1 - ds.length := by rw [r.len]
    have e2 : start N (V.ref x :: ws) = ((V.non :: ws).map some ++ List.replicate (N.length - 1 - ws.length) none).set 0 (some (.ref x)) := by
      show (V.ref x :: ws).map some ++ List.replicate (N.length - (V.ref x :: ws).length) none = _
      rw [List.length_cons, show N.length - (ws.length + 1) = N.length - 1 - ws.length by omega]
      rfl
    rw [e2]
    refine wt b b.S _ st0 _ _ _ I1 ?_
    have e3 : ((D.non :: ds).map some ++ List.replicate (N.length - 1 - ws.length) none).set 0 (some (.obj c [])) = some (.obj c []) :: (ds.map some ++ List.replicate (N.length - 1 - ds.length) none) := by
      rw [e1]; rfl
    rw [e3]
    unfold initM at h
    cases e : m (some (.obj c []) :: (ds.map some ++ List.replicate (N.length - 1 - ds.length) none)) st0 with
    | nx env st1 =>
      rw [e] at h
      intro S1 σ1 H1 _ I2
      obtain ⟨c', vs', fs', q1, q2, q3, q4, q5, q6, q7, q8, q9, q10, q11⟩ := I2.self_ 0 rfl
      have q3 : H1 x = some (.ins (G.cl c') dx vs') := q3
      have q5 : S1 x = none := q5
      have q7 : b.H x = none := q7
      have q9 : x ∉ b.ad := q9
      dsimp only at h
      rw [q1] at h
      have sm : Same S1 (upd S1 x (.ins (G.cl c') dx vs')) := fun a o ha => by
        rw [upd_ne (fun z => by rw [z, q5] at ha; cases ha)]; exact ha
      have nw : ∀ a o, upd S1 x (.ins (G.cl c') dx vs') a = some o → (a = x ∧ o = .ins (G.cl c') dx vs') ∨ S1 a = some o := fun a o ha => by
        by_cases hc : a = x
        · subst hc; rw [upd_same] at ha; exact .inl ⟨rfl, (Option.some.inj ha).symm⟩
        · rw [upd_ne hc] at ha; exact .inr ha
      have h : ∀ S' H', Ext b.ad b.S b.H S' H' → Same S' H' → StoOk G b.ad S' st1 H' → Rep G b.ad S' (.ref x) (.obj c' fs') → Q .non H' := h
      refine h (upd S1 x (.ins (G.cl c') dx vs')) H1 ⟨I2.s0.trans sm, fun a o ha => ?_, I2.keep⟩ (fun a o ha => ?_) (I2.sto.known sm (fun a ha => ?_) fun a ⟨_, hh⟩ ha => by rw [upd_ne (fun z => by rw [z, q3] at hh; cases hh)]; exact ha) (.obj upd_same (q11.mono sm))
      · rcases nw a o ha with ⟨rfl, _⟩ | z
        · exact .inr q7
        · exact I2.new a o z
      · rcases nw a o ha with ⟨rfl, rfl⟩ | z
        · exact q3
        · exact I2.sub a o z
      · rw [upd_ne (show a ≠ x from fun z => q9 (z ▸ ha))]
        exact (I2.sto.has ha).1
    | rt d st1 => rw [e] at h; exact h.elim
    | bk env st1 => rw [e] at h; exact h.elim
    | ct env st1 => rw [e] at h; exact h.elim
    | er y env st1 =>
      rw [e] at h
      intro cls dd O' S1 σ1 H1 _ _ I2 rx
      exact h cls dd S1 H1 I2.fin I2.sub I2.sto rx
    | bad => rw [e] at h; exact h.elim
end
/-! ### making, methods -/
section
variable {X : Cx} {CX : CXT} {k : Nat} {f C : Addr} {fd : FuncData} {ps : List Str} {sp : Sp} {E : L2.St → XK} {x m : Str} {p pos apos : Pos} {e o : Expr} {es : List Expr} {ta : TE} {t : TA} {ds : List Value} {dvs : List V}
theorem make_run {pins : List (Addr × Obj)} {σ : L2.St} {H : Hp} {s : Shared} {Q : VK} {us : List Value} {vs : List V} (mk : Mk X.K C f) (fo : FnOk X.prog X.w X.K X.mg X.base CX k f fd ps sp) (rm : Room (k + 1) X.A) (bn : Binds X.K fd ps ds) (dv : Vals dvs ds) (pa : PassesAt CX X σ (E σ))
    (J : Inv X pins σ H s) (rv : Vals vs us) (h : ∀ a da, H a = none → H da = none → da ≠ a → sp (.ref a :: (vs ++ dvs)) (upd (upd H da (.own a)) a (.ins C da [])) (fun v H2 => v = .non ∧ Q (.ref a) H2) (E σ)) :
    wpAny (model X.prog X.w) X.A (call (.ref C) us) (EP X pins σ Q) X.xe s := by
  obtain ⟨n, hn⟩ : ∃ n, n = s.heap.objs.size := ⟨_, rfl⟩
  have goal1 := h (n + 1) n (J.hok.fresh (by rw [hn]; exact Nat.le_succ _)) (J.hok.fresh (by rw [hn]; exact Nat.le_refl _)) (Nat.ne_of_lt (Nat.lt_succ_self n))
  subst hn
  have J2 := Inv.made (C := C) J
  have all : Vals (V.ref (s.heap.objs.size + 1) :: (vs ++ dvs)) (Value.ref (s.heap.objs.size + 1) :: (us ++ ds)) := .cons rfl (rv.append dv)
  have count : (Value.ref (s.heap.objs.size + 1) :: us ++ ds).length = ps.length := by
    rw [show Value.ref (s.heap.objs.size + 1) :: us ++ ds = Value.ref (s.heap.objs.size + 1) :: (us ++ ds) from rfl, ← all.length]
    exact fo.len _ _ _ _ goal1
  have run := fo.run _ X.stack _ _ ⟨Value.ref (s.heap.objs.size + 1) :: us, []⟩ (Value.ref (s.heap.objs.size + 1) :: (us ++ ds)) _ _ (E σ) (rm.make C us []) (J2.env0.make C us []) (bn _ (Value.ref (s.heap.objs.size + 1) :: us) J2.kIn count) all goal1
  refine wpAny_call (make_map (f := f) J.kIn mk.makes mk.init (beq_iff_eq.mp mk.fn) (codeAny_mono run fun r s' got => ?_))
  cases r with
  | error y => exact pa pins _ _ y s' J2 got
  | ok fl =>
    cases fl with
    | ret u =>
      obtain ⟨v, H', J3, r1, z, q⟩ := J2.after got
      subst z
      exact ⟨r1, ⟨V.ref (s.heap.objs.size + 1), H', J3, rfl, q⟩⟩
    | next => exact got.elim
    | brk => exact got.elim
    | cont => exact got.elim
def tMakeE (C : Addr) (sp : Sp) (dvs : List V) (E : L2.St → XK) (t : TA) : TE := fun σ H Q => t σ H fun vs H1 => ∀ a da, H1 a = none → H1 da = none → da ≠ a → sp (.ref a :: (vs ++ dvs)) (upd (upd H1 da (.own a)) a (.ins C da [])) (fun v H2 => v = .non ∧ Q (.ref a) H2) (E σ)
theorem pe_makeE (mk : Mk X.K C f) (fo : FnOk X.prog X.w X.K X.mg X.base CX k f fd ps sp) (rm : Room (k + 1) X.A) (hg : Gl X x) (hm : X.mg x = some (.ref C)) (bn : Binds X.K fd ps ds) (dv : Vals dvs ds) (pa : ∀ σ, PassesAt CX X σ (E σ))
    (ar : PA X (e :: es) t) (hdb : (x == ("__debug__" : Str)) = false := by decide) (he : starEach (e :: es) X.env = (false, eval e X.env) :: starEach es X.env := by rfl) (hpl : (backTo pos (starEach es X.env)).any (·.1) = false := by rfl) :
    PE X (.Call (.Name x p) (e :: es) [] pos) (tMakeE C sp dvs E t) :=
  ⟨fun pins s σ H Q J h => wpAny_Call_Name_kw (ld_glob J hg hm (PySem.W.callWith_K (h₀ := X.base) J.ok.mod.kin mk.kp (thn (ar.run pos pins s σ H _ J h) fun us s1 ⟨vs, H1, J1, r, q⟩ => ⟨J1.kIn, make_run mk fo rm bn dv (pa σ) J1 r q⟩) he hpl) hdb)⟩
def tMethE (C : Addr) (m : Str) (sp : Sp) (dvs : List V) (E : L2.St → XK) (ta : TE) (t : TA) : TE := fun σ H Q => ta σ H fun x H1 => ∃ a dx fs, x = .ref a ∧ H1 a = some (.ins C dx fs) ∧ fs.lookup m = none ∧ t σ H1 fun vs H2 => sp (x :: (vs ++ dvs)) H2 Q (E σ)
theorem pe_methE {pl : Sem Bool} (ho : PE X o ta) (c : Cls X.K C) (mt : Meth X.K C m f) (fo : FnOk X.prog X.w X.K X.mg X.base CX k f fd ps sp) (rm : Room k X.A) (bn : Binds X.K fd ps ds) (dv : Vals dvs ds) (pa : ∀ σ, PassesAt CX X σ (E σ)) (ar : PA X (e :: es) t)
    (hst : starEach (e :: es) X.env = (false, eval e X.env) :: starEach es X.env := by rfl) (hpl : (backTo pos (starEach es X.env)).any (·.1) = false := by rfl)
    (hev : eval (.Call (.Attribute o m apos) (e :: es) [] pos) X.env = (do
      let obj ← eval o X.env
      standAt apos.atName
      let (g, fst) ← holding [obj] (getMethod obj m pl)
      callWith pos g fst (backTo pos (starEach (e :: es) X.env)) (backToKw pos (keywordEach [] X.env))) := by rfl) : PE X (.Call (.Attribute o m apos) (e :: es) [] pos) (tMethE C m sp dvs E ta t) := by
  constructor
  intro pins s σ H Q J h
  refine PySem.W.methodCall_KW (pl := pl) (thn (ho.run pins s σ H _ J h) fun u s1 got => ?_) hev
  obtain ⟨x, H1, J1, rx, a, dx, fs, rfl, ea, l, q⟩ := got
  cases rx
  refine getmeth_ok J1 ea c mt l (PySem.W.callWith_K (first := [.ref a]) (h₀ := X.base) J.ok.mod.kin mt.kp (thn (ar.run pos pins s1 σ H1 _ J1 q) fun us s2 got => ?_) hst hpl)
  obtain ⟨vs, H2, J2, r, q2⟩ := got
  exact ⟨J2.kIn, run_fnSD (us := .ref a :: us) (vs := .ref a :: vs) fo rm bn dv (pa σ) J2 (.cons rfl r) q2⟩
theorem pe_methE0 {pl : Sem Bool} (ho : PE X o ta) (c : Cls X.K C) (mt : Meth X.K C m f) (fo : FnOk X.prog X.w X.K X.mg X.base CX k f fd ps sp) (rm : Room k X.A) (bn : Binds X.K fd ps ds) (dv : Vals dvs ds) (pa : ∀ σ, PassesAt CX X σ (E σ))
    (hev : eval (.Call (.Attribute o m apos) [] [] pos) X.env = (do
      let obj ← eval o X.env
      standAt apos.atName
      let (g, fst) ← holding [obj] (getMethod obj m pl)
      callWith pos g fst (backTo pos (starEach [] X.env)) (backToKw pos (keywordEach [] X.env))) := by rfl) : PE X (.Call (.Attribute o m apos) [] [] pos) (tMethE C m sp dvs E ta tNil) := by
  constructor
  intro pins s σ H Q J h
  refine PySem.W.methodCall_KW (pl := pl) (thn (ho.run pins s σ H _ J h) fun u s1 got => ?_) hev
  obtain ⟨x, H1, J1, rx, a, dx, fs, rfl, ea, l, q⟩ := got
  cases rx
  exact getmeth_ok J1 ea c mt l (PySem.W.callWith_K0 (first := [.ref a]) J1.kIn mt.kp (run_fnSD (us := [.ref a]) (vs := [.ref a]) fo rm bn dv (pa σ) J1 (.cons rfl .nil) q))
end
def mCallD (f : List D → M D) (dds : List D) (ma : MA) : ME := fun env st => (ma env st).bind fun ds => f (ds ++ dds)
def mMeth (ci : Nat) (name : Str) (f : List D → M D) (mo : ME) (ma : MA) : ME := fun env st => (mo env st).bind fun d st1 => match d with
  | .obj c fs => if c = ci ∧ fs.lookup name = none then (ma env st1).bind fun ds => f (d :: ds) else .bad
  | _ => .bad
section
variable {G : Glb} {X : Cx} {W : WX} {O : Ow} {pos p apos : Pos} {x name : Str} {e o : Expr} {es : List Expr} {ma : MA} {mo : ME} {k j n n' : Nat} {f : Addr} {fd : FuncData} {ps : List Str} {m : List D → M D} {ci : Nat} {dl : List Value} {dvs : List V} {dds : List D}
theorem de_make (c : XC k G X W) (mk : Mk X.K (G.cl ci) f) (F : FnOk X.prog X.w X.K X.mg X.base (L2.CX X.prog X.w) j f fd ps (spI G ci n m)) (hm : X.mg x = some (.ref (G.cl ci))) (hb : Binds X.K fd ps dl) (hd : Vals dvs dl) (rd : ∀ ad S, Reps G ad S dvs dds) (ha : DA G X W O (e :: es) ma)
    (hjk : j + 1 ≤ k := by decide) (hln : Len ma n') (hn : n' + dds.length = n := by rfl) (hg : Gl X x := by rfl) (hdb : (x == ("__debug__" : Str)) = false := by decide) (he : starEach (e :: es) X.env = (false, eval e X.env) :: starEach es X.env := by rfl) (hpl : (backTo pos (starEach es X.env)).any (·.1) = false := by rfl) :
    DE G X W O (.Call (.Name x p) (e :: es) [] pos) (mCallD m dds ma) := by
  obtain ⟨t, pa, w⟩ := ha.ex
  refine ⟨_, pe_makeE mk F (c.hr.mono hjk) hg hm hb hd (fun σ => passAt c.tk σ) pa hdb he hpl, fun b S env st σ H Q I h => w b S env st σ H _ I ?_⟩
  have h' := wpR_bind h
  cases ea : ma env st with
  | ok ds st1 =>
    rw [ea] at h'
    intro vs S1 H1 x1 su1 so1 r1 a da h1 h2 h3
    have h' : wpR (m (ds ++ dds) st1) _ _ := h'
    refine ⟨⟨S1, H1, b.ad⟩, ds ++ dds, st1, a, da, vs ++ dvs, rfl, rfl, h1, h2, h3, ?_, su1, so1, r1.append (rd _ _), wpR_imp h' (fun d st2 z S' H' x2 su2 so2 r2 => ⟨rfl, ?_⟩) fun _ _ z => z.from_ x1 so1⟩
    · rw [List.length_append, r1.len, hln env st ds st1 ea, (rd b.ad S1).len]; exact hn
    · exact (Post.from_ x1 so1 z) (.ref a) S' H' x2 su2 so2 r2
  | err x st1 => rw [ea] at h'; exact h'
  | bad => rw [ea] at h'; exact h'.elim
theorem de_meth {pl : Sem Bool} (c : XC k G X W) (hc : Cls G.K (G.cl ci)) (mt : Meth G.K (G.cl ci) name f) (F : FnOk X.prog X.w X.K X.mg X.base (L2.CX X.prog X.w) j f fd ps (spD G n m)) (hb : Binds X.K fd ps []) (ho : DE G X W O o mo) (ha : DA G X W O (e :: es) ma)
    (hjk : j ≤ k := by decide) (hln : Len ma n') (hn : n' + 1 = n := by rfl) (hst : starEach (e :: es) X.env = (false, eval e X.env) :: starEach es X.env := by rfl) (hpl : (backTo pos (starEach es X.env)).any (·.1) = false := by rfl)
    (hev : eval (.Call (.Attribute o name apos) (e :: es) [] pos) X.env = (do
      let obj ← eval o X.env
      standAt apos.atName
      let (g, fst) ← holding [obj] (getMethod obj name pl)
      callWith pos g fst (backTo pos (starEach (e :: es) X.env)) (backToKw pos (keywordEach [] X.env))) := by rfl) : DE G X W O (.Call (.Attribute o name apos) (e :: es) [] pos) (mMeth ci name m mo ma) := by
  obtain ⟨to, po, wo⟩ := ho.ex
  obtain ⟨t, pa, w⟩ := ha.ex
  have hK := c.K
  refine ⟨_, pe_methE (pl := pl) po (hK ▸ hc) (hK ▸ mt) F (c.hr.mono hjk) hb (dvs := []) .nil (fun σ => passAt c.tk σ) pa hst hpl hev, fun b S env st σ H Q I h => wo b S env st σ H _ I (wpR_imp (wpR_bind h) (fun d st1 h1 => ?_) fun _ _ z => z)⟩
  intro v S1 H1 x1 su1 so1 r1
  have I1 := I.ext x1 su1 so1
  cases r1 with
  | obj h2 r2 =>
    rename_i a dx cc vs fs
    dsimp only at h1
    split at h1
    · rename_i ok
      obtain ⟨rfl, nf⟩ := ok
      refine ⟨a, dx, vs, rfl, su1 _ _ h2, r2.none nf, w b S1 env st1 σ H1 _ I1 ?_⟩
      have h' := wpR_bind h1
      cases ea : ma env st1 with
      | ok ds st2 =>
        rw [ea] at h'
        intro ws S2 H2 x2 su2 so2 r3
        have x12 := x1.trans so1 x2
        have h' : wpR (m (_ :: ds) st2) _ _ := h'
        rw [List.append_nil]
        exact ⟨⟨S2, H2, b.ad⟩, _ :: ds, st2, rfl, by rw [List.length_cons, r3.len, hln env st1 ds st2 ea]; exact hn, su2, so2, .cons (.obj (x2.same _ _ h2) (r2.mono x2.same)) r3, wpR_imp h' (fun _ _ z => z.from_ x12 so2) fun _ _ z => z.from_ x12 so2⟩
      | err y st2 => rw [ea] at h'; intro cls dd S2 H2 x2 su2 so2 rx; exact h' cls dd S2 H2 (x1.trans so1 x2) su2 so2 rx
      | bad => rw [ea] at h'; exact h'.elim
    · exact h1.elim
  | _ => exact h1.elim
theorem de_meth0 {pl : Sem Bool} (c : XC k G X W) (hc : Cls G.K (G.cl ci)) (mt : Meth G.K (G.cl ci) name f) (F : FnOk X.prog X.w X.K X.mg X.base (L2.CX X.prog X.w) j f fd ps (spD G 1 m)) (hb : Binds X.K fd ps []) (ho : DE G X W O o mo)
    (hjk : j ≤ k := by decide)
    (hev : eval (.Call (.Attribute o name apos) [] [] pos) X.env = (do
      let obj ← eval o X.env
      standAt apos.atName
      let (g, fst) ← holding [obj] (getMethod obj name pl)
      callWith pos g fst (backTo pos (starEach [] X.env)) (backToKw pos (keywordEach [] X.env))) := by rfl) : DE G X W O (.Call (.Attribute o name apos) [] [] pos) (mMeth ci name m mo mNil) := by
  obtain ⟨to, po, wo⟩ := ho.ex
  have hK := c.K
  refine ⟨_, pe_methE0 (pl := pl) po (hK ▸ hc) (hK ▸ mt) F (c.hr.mono hjk) hb (dvs := []) .nil (fun σ => passAt c.tk σ) hev, fun b S env st σ H Q I h => wo b S env st σ H _ I (wpR_imp (wpR_bind h) (fun d st1 h1 => ?_) fun _ _ z => z)⟩
  intro v S1 H1 x1 su1 so1 r1
  cases r1 with
  | obj h2 r2 =>
    rename_i a dx cc vs fs
    dsimp only at h1
    split at h1
    · rename_i ok
      obtain ⟨rfl, nf⟩ := ok
      have h' : wpR (m [D.obj _ fs] st1) _ _ := h1
      exact ⟨a, dx, vs, rfl, su1 _ _ h2, r2.none nf, ⟨S1, H1, b.ad⟩, [D.obj _ fs], st1, rfl, rfl, su1, so1, .cons (.obj h2 r2) .nil, wpR_imp h' (fun _ _ z => z.from_ x1 so1) fun _ _ z => z.from_ x1 so1⟩
    · exact h1.elim
  | _ => exact h1.elim
end
end DL

/-! DL, thirteenth part: errors with fields. -/
namespace DL
open PySem PySem.Spec PyProof.Rows L2
/-- an error's own __init__: its fields are its arguments -/
def spX (C : Addr) (fs : List Str) : Sp := fun vs H Q _ => ∃ (a : Addr) (ws : List V), vs = .ref a :: ws ∧ ws.length = fs.length ∧ H a = some (exo a C none) ∧
  ∀ dx H2, H dx = none → dx ≠ a → H2 a = some (exo a C (some dx)) → H2 dx = some (exd dx (fs.zip ws).reverse) → (∀ b, b ≠ a → b ≠ dx → H2 b = H b) → Q .non H2
section
variable {P : Program} {w : World} {K : PySem.W.Frag} {mg : Str → Option Value} {base : Heap}
theorem fnX1 {qual : Str} {st : Stmt} {f C : Addr} {fd : FuncData} {y p1 f1 : Str} {k : Nat} {q1 q2 q3 q4 q5 q6 : Pos} (F : Fun K "__init__" qual st f fd) (S : FnScope [y, p1] [y, p1] (defScope st)) (T : OexC K C) (n1 : PySem.W.findIn K (.ref C) f1 = some none)
    (hb : defBody st = [.Assign [.Attribute (.Name y q1) f1 q2] (.Name p1 q3) q4]) (hv0 : (defScope st).names.lookup y = some .local) (hv1 : (defScope st).names.lookup p1 = some .local)
    (d0 : (y == ("__debug__" : Str)) = false := by decide) (c0 : (y == ("__classdict__" : Str)) = false := by decide) (d1 : (p1 == ("__debug__" : Str)) = false := by decide) (c1 : (p1 == ("__classdict__" : Str)) = false := by decide) :
    FnOk P w K mg base (L2.CX P w) (k + 1) f fd [y, p1] (spX C [f1]) := by
  refine F.okX S (fun vs H Q E h => ?_) fun cdv A outer s H vs Q E hr h => ?_
  · obtain ⟨a, ws, rfl, hl, _⟩ := h
    rw [List.length_cons, hl]; rfl
  · obtain ⟨a, ws, rfl, hl, ha, hq⟩ := h
    obtain ⟨v1, rfl⟩ := List.length_eq_one_iff.mp hl
    rw [hb]
    refine ⟨_, pss_one (ps_ost (X := cxOf (L2.CX P w) P w K mg base [y, p1] qual (defScope st) f cdv A outer s H E) (pe_var (i := 0) rfl (.inl hv0) d0 c0) (pe_var (i := 1) rfl (.inl hv1) d1 c1)), ?_⟩
    refine ⟨_, rfl, _, rfl, a, C, rfl, T, n1, .inl ⟨ha, fun dx h1 h2 => ?_⟩⟩
    exact hq dx _ h1 h2 upd_same ((upd_ne h2).trans upd_same) fun b hb1 hb2 => (upd_ne hb1).trans (upd_ne hb2)
theorem fnX2 {qual : Str} {st : Stmt} {f C : Addr} {fd : FuncData} {y p1 f1 p2 f2 : Str} {k : Nat} {q1 q2 q3 q4 r1 r2 r3 r4 : Pos} (F : Fun K "__init__" qual st f fd) (S : FnScope [y, p1, p2] [y, p1, p2] (defScope st)) (T : OexC K C) (n1 : PySem.W.findIn K (.ref C) f1 = some none) (n2 : PySem.W.findIn K (.ref C) f2 = some none)
    (hb : defBody st = [.Assign [.Attribute (.Name y q1) f1 q2] (.Name p1 q3) q4, .Assign [.Attribute (.Name y r1) f2 r2] (.Name p2 r3) r4]) (hv0 : (defScope st).names.lookup y = some .local) (hv1 : (defScope st).names.lookup p1 = some .local) (hv2 : (defScope st).names.lookup p2 = some .local)
    (d0 : (y == ("__debug__" : Str)) = false := by decide) (c0 : (y == ("__classdict__" : Str)) = false := by decide) (d1 : (p1 == ("__debug__" : Str)) = false := by decide) (c1 : (p1 == ("__classdict__" : Str)) = false := by decide) (d2 : (p2 == ("__debug__" : Str)) = false := by decide) (c2 : (p2 == ("__classdict__" : Str)) = false := by decide) :
    FnOk P w K mg base (L2.CX P w) (k + 1) f fd [y, p1, p2] (spX C [f1, f2]) := by
  refine F.okX S (fun vs H Q E h => ?_) fun cdv A outer s H vs Q E hr h => ?_
  · obtain ⟨a, ws, rfl, hl, _⟩ := h
    rw [List.length_cons, hl]; rfl
  · obtain ⟨a, ws, rfl, hl, ha, hq⟩ := h
    obtain ⟨v1, v2, rfl⟩ : ∃ v1 v2, ws = [v1, v2] := by
      match ws, hl with
      | [v1, v2], _ => exact ⟨_, _, rfl⟩
    rw [hb]
    refine ⟨_, pss_cons (ps_ost (X := cxOf (L2.CX P w) P w K mg base [y, p1, p2] qual (defScope st) f cdv A outer s H E) (pe_var (i := 0) rfl (.inl hv0) d0 c0) (pe_var (i := 1) rfl (.inl hv1) d1 c1))
      (pss_one (ps_ost (pe_var (i := 0) rfl (.inl hv0) d0 c0) (pe_var (i := 2) rfl (.inl hv2) d2 c2))), ?_⟩
    refine ⟨_, rfl, _, rfl, a, C, rfl, T, n1, .inl ⟨ha, fun dx h1 h2 => ?_⟩⟩
    refine ⟨_, rfl, _, rfl, a, C, rfl, T, n2, .inr ⟨dx, _, upd_same, (upd_ne h2).trans upd_same, by simp, ?_⟩⟩
    refine hq dx _ h1 h2 ((upd_ne (Ne.symm h2)).trans upd_same) upd_same fun b hb1 hb2 => (upd_ne hb2).trans ((upd_ne hb1).trans (upd_ne hb2))
end
/-- what an error class with fields has -/
structure OexT (G : Glb) (mg : Str → Option Value) (x : Str) (c : Nat) (fI : Addr) (fs : List Str) : Prop where
  oc : OexC G.K (G.cl c)
  in_ : PySem.W.findIn G.K (.ref (G.cl c)) "__init__" = some (some (.ref fI))
  tI : PySem.W.typeIn G.K (.ref fI) = some (.type "function")
  g : mg x = some (.ref (G.cl c))
  sub : PySem.W.subIn G.K (.ref (G.cl c)) (.type "BaseException") = some true
def mRaiseF (c : Nat) (fs : List Str) (ma : MA) : MS := fun env st => match ma env st with
  | .ok ds st1 => if ds.length = fs.length ∧ ds.length ≤ 100 then .er ⟨c, some (fs.zip ds).reverse⟩ env st1 else .bad
  | .err x st1 => .er x env st1
  | .bad => .bad
theorem repF_zip {G : Glb} {ad : List Addr} {S : Hp} : ∀ {vs : List V} {ds : List D} (fs : List Str), Reps G ad S vs ds → RepF G ad S (fs.zip vs) (fs.zip ds)
  | _, _, [], _ => .nil
  | _, _, _ :: _, .nil => .nil
  | _, _, f :: fs, .cons h r => .cons h (repF_zip fs r)
theorem RepF.append {G : Glb} {ad : List Addr} {S : Hp} : ∀ {vs ws : List (Str × V)} {ds es : List (Str × D)}, RepF G ad S vs ds → RepF G ad S ws es → RepF G ad S (vs ++ ws) (ds ++ es)
  | _, _, _, _, .nil, s => s
  | _, _, _, _, .cons h r, s => .cons h (RepF.append r s)
theorem RepF.rev {G : Glb} {ad : List Addr} {S : Hp} : ∀ {vs : List (Str × V)} {ds : List (Str × D)}, RepF G ad S vs ds → RepF G ad S vs.reverse ds.reverse
  | _, _, .nil => .nil
  | _, _, .cons h r => by
    rw [List.reverse_cons, List.reverse_cons]
    exact (RepF.rev r).append (.cons h .nil)
section
variable {G : Glb} {X : Cx} {W : WX} {Ob : Ow} {OE : Ow → Prop} {O O1 : Ow} {pos p pos' : Pos} {k j : Nat} {x : Str} {c : Nat} {fI : Addr} {fd : FuncData} {ps fs : List Str} {e : Expr} {es : List Expr} {ma : MA}
theorem ds_raiseF (xc : XC k G X W) (T : OexT G X.mg x c fI fs) (F : FnOk X.prog X.w X.K X.mg X.base (L2.CX X.prog X.w) j fI fd ps (spX (G.cl c) fs)) (hb : Binds X.K fd ps []) (ha : DA G X W O (e :: es) ma) (hjk : j + 1 ≤ k := by decide) (hO : OE O := by first | trivial | rfl) (hg : Gl X x := by rfl) (hdb : (x == ("__debug__" : Str)) = false := by decide)
    (he : starEach (e :: es) X.env = (false, eval e X.env) :: starEach es X.env := by rfl) (hpl : (backTo pos' (starEach es X.env)).any (·.1) = false := by rfl) :
    DS G X W Ob OE O (.Raise (some (.Call (.Name x p) (e :: es) [] pos')) none pos) O1 (mRaiseF c fs ma) := by
  obtain ⟨t, pa, w⟩ := ha.ex
  have hK := xc.K
  refine ⟨_, ps_raise xc.calm xc.tk (pmk_oex (hK ▸ T.oc) (hK ▸ T.in_) (hK ▸ T.tI) F (xc.hr.mono hjk) hb (dvs := []) .nil (fun _ _ _ _ _ _ _ z => by obtain ⟨_, _, _, _, _, _, _, _, _, _, _, _, z⟩ := z; exact z.elim) hg T.g pa hdb he hpl), fun b S env st σ H D I h => ?_⟩
  unfold mRaiseF at h
  refine w b S env st σ H _ I ?_
  cases ea : ma env st with
  | ok ds st1 =>
    rw [ea] at h
    dsimp only at h
    split at h
    case isFalse => exact h.elim
    rename_i hn
    intro vs S1 H1 x1 su1 so1 r1
    refine ⟨by rw [r1.len]; omega, fun a h1 => ⟨a, vs, by rw [List.append_nil], by rw [r1.len]; exact hn.1, upd_same, fun dx H2 g1 g2 g3 g4 g5 => ?_⟩⟩
    have g1' : H1 dx = none := by rwa [upd_ne g2] at g1
    refine ⟨rfl, dx, _, g3, g4, g1', ?_⟩
    have eH : upd (del H2 a) dx (.xd (fs.zip vs).reverse) = upd H1 dx (.xd (fs.zip vs).reverse) := by
      funext q
      by_cases hq : q = dx
      · subst hq; rw [upd_same, upd_same]
      · rw [upd_ne hq, upd_ne hq]
        by_cases hq2 : q = a
        · subst hq2; rw [del_same, h1]
        · rw [del_ne hq2, g5 q hq2 hq, upd_ne hq2]
    rw [eH]
    have I1 := I.ext x1 su1 so1
    have sS : S1 dx = none := by
      cases z : S1 dx with
      | none => rfl
      | some o => have := su1 dx o z; rw [g1'] at this; cases this
    have nad : dx ∉ b.ad := fun z => by
      obtain ⟨_, vs', hv⟩ := so1.has z
      rw [g1'] at hv; cases hv
    have sm : Same S1 (upd S1 dx (.xd (fs.zip vs).reverse)) := fun q o hq => by
      rw [upd_ne (fun z => by rw [z, sS] at hq; cases hq)]; exact hq
    have x2 : Ext b.ad S1 H1 (upd S1 dx (.xd (fs.zip vs).reverse)) (upd H1 dx (.xd (fs.zip vs).reverse)) := by
      refine ⟨sm, fun q o hq => ?_, fun q o hq _ => ?_⟩
      · by_cases z : q = dx
        · subst z; exact .inr g1'
        · rw [upd_ne z] at hq; exact .inl hq
      · exact .refl (by rw [upd_ne (fun z => by rw [z, g1'] at hq; cases hq)]; exact hq)
    have su2 : Same (upd S1 dx (.xd (fs.zip vs).reverse)) (upd H1 dx (.xd (fs.zip vs).reverse)) := fun q o hq => by
      by_cases z : q = dx
      · subst z; rw [upd_same] at hq ⊢; exact hq
      · rw [upd_ne z] at hq ⊢; exact su1 q o hq
    have so2 : StoOk G b.ad (upd S1 dx (.xd (fs.zip vs).reverse)) st1 (upd H1 dx (.xd (fs.zip vs).reverse)) :=
      (so1.grow fun q o hq hh => by rw [upd_ne (show q ≠ dx from fun z => hq.elim (fun w => nad (z ▸ w)) fun _ => by rw [z, g1'] at hh; cases hh)]; exact hh).known sm (fun q hq => by
        rw [upd_ne (show q ≠ dx from fun z => nad (z ▸ hq))]; exact (so1.has hq).1) fun q ⟨_, hh⟩ hq => by
          rw [upd_ne (fun z => by rw [z, upd_same] at hh; cases hh)]; exact hq
    exact h _ _ O _ σ _ hO (x1.same.trans x2.same) (I1.ext x2 su2 so2) ⟨rfl, dx, _, rfl, upd_same, (repF_zip fs (r1.mono sm)).rev⟩
  | err y st1 =>
    rw [ea] at h
    intro cls dd S' H' x' su so r
    exact h cls dd O S' σ H' hO x'.same (I.ext x' su so) r
  | bad => rw [ea] at h; exact h.elim
end
end DL

/-! DL, fourteenth part: try with several handlers, named and nameless ones mixed. -/
namespace DL
open PySem PySem.Spec PyProof.Rows L2
abbrev Han := Value × Option Nat × (Addr → Value → Option Addr → TS)
/-- the ends behind a named handler: its name is gone -/
def offE (i : Nat) (D : Ends) : Ends := { nx := fun τ K => D.nx (τ.set i none) K, rt := D.rt, bk := fun τ K => D.bk (τ.set i none) K, ct := fun τ K => D.ct (τ.set i none) K }
def wMix (K : PySem.W.Frag) (Wout : WX) (D : Ends) : List Han → WX
  | [] => Wout
  | (c, oi, ts) :: r => fun cls d σ H => ∃ b, PySem.W.exmOne K cls c = some b ∧ (b = false → wMix K Wout D r cls d σ H) ∧
      (b = true → ∀ ex, H ex = none → match oi with
        | none => ts ex cls d D σ H
        | some i => ts ex cls d (offE i D) (σ.set i (some (.ref ex))) H)
inductive HdM (X : Cx) : List ExceptHandler → List Han → Prop
  | nil : HdM X [] []
  | bare {x : Str} {c : Value} {ts : Addr → Value → Option Addr → TS} {b₀ : Stmt} {suite : List Stmt} {np hp : Pos} {hds : List ExceptHandler} {l : List Han} (nm : Names X x c)
      (su : ∀ (ex : Addr) (o : Obj) (cls : Value) (d : Option Addr) (pn : List (Addr × Obj)), Zc cls d o → (∃ vs, o.data = .fields vs) → PSs (X.suite ex ((ex, o) :: pn)) (b₀ :: suite) (ts ex cls d)) (rest : HdM X hds l) :
      HdM X (.ExceptHandler (some (.Name x np)) none (b₀ :: suite) hp :: hds) ((c, none, ts) :: l)
  | name {x n : Str} {i : Nat} {c : Value} {ts : Addr → Value → Option Addr → TS} {b₀ : Stmt} {suite : List Stmt} {np hp : Pos} {hds : List ExceptHandler} {l : List Han} (hi : X.N[i]? = some n) (hn : X.env.kindOf n = some .local) (nm : Names X x c)
      (su : ∀ (ex : Addr) (o : Obj) (cls : Value) (d : Option Addr) (pn : List (Addr × Obj)), Zc cls d o → (∃ vs, o.data = .fields vs) → PSs (X.suite ex ((ex, o) :: pn)) (b₀ :: suite) (ts ex cls d)) (rest : HdM X hds l) :
      HdM X (.ExceptHandler (some (.Name x np)) (some n) (b₀ :: suite) hp :: hds) ((c, some i, ts) :: l)
section
variable {X : Cx} {Wout : WX} {D : Ends} {pins : List (Addr × Obj)}
theorem hd_go (hs : X.stack = X.env :: X.outer) (hf : X.env.frame = some X.env.locals) (ndN : X.N.Nodup) (tk : Takes X Wout) (okX : X.Ok) {ex : Addr} {B : Heap} {s0 s' : Shared} {τ : L2.St} {L : Hp} {cls : Value} {d : Option Addr} {hh : Heap}
    (J : Inv X pins τ L s0) (out : ∀ b o, s0.heap.get? b = some o → b ∉ frs X.stack → B.get? b = some o) (gr : s0.heap.UpToSlots hh) (fl : HandSPX.FlyingZ B (X.env :: X.outer) ex (Zc cls d) hh) (fresh : L ex = none) (os : s'.os = s0.os) (gens : AllBare s'.gens) :
    ∀ {hds : List ExceptHandler} {l : List Han}, HdM X hds l → wMix X.K Wout D l cls d τ L → wpAny (model X.prog X.w) X.A (handleBy (.ref ex) X.env hds) (SP X pins D) X.xe { s' with heap := hh } := by
  have Jh : Inv X pins τ L { s' with heap := hh } := J.landed out fl.1 gr os gens
  obtain ⟨oh, fh, gh, zh, dh⟩ := fl.there
  have away : ex ∉ frs (X.env :: X.outer) := fun hm => by
    obtain ⟨_, o', e', hnf⟩ := fl.2.2.1.mem hm
    rw [gh] at e'; cases e'
    exact hnf _ dh
  have notL : ex ≠ X.env.locals := fun z => away (List.mem_filterMap.mpr ⟨X.env, List.mem_cons_self, by rw [hf, z]⟩)
  have notF : ex ∉ X.fs := fun hm => by
    obtain ⟨en, he, q⟩ := List.mem_filterMap.mp hm
    exact away (List.mem_filterMap.mpr ⟨en, List.mem_cons_of_mem _ he, q⟩)
  have Sh := Jh.suite gh dh fresh notL notF
  have tyL : PySem.W.Looks (model X.prog X.w) hh (typeOf (.ref ex)) cls := fun A Q E s k q => wpAny_typeOf_ref (k _ _ gh) (by rw [zh.1]; exact q)
  have asked : ∀ {x : Str} {c : Value} {np : Pos} {Q : Value → Shared → Prop} {E : Value → Shared → Prop}, Names X x c → Q c { s' with heap := hh } → wpAny (model X.prog X.w) (X.A.mark (some (.ref ex))) (eval (.Name x np) X.env) Q E { s' with heap := hh } := fun {x c np Q E} nm q => by
    obtain ⟨hg, hdb, hm | ⟨hm, hv, hnn⟩⟩ := nm
    · exact ld_glob (X := X.suite ex ((ex, oh) :: (X.pn ++ pins))) Sh hg hm q hdb
    · exact ld_blt (X := X.suite ex ((ex, oh) :: (X.pn ++ pins))) Sh hg hm hv q hnn hdb
  intro hds l hk
  induction hk with
  | nil =>
    intro wi
    refine wpAny_handleBy_nil ?_
    obtain ⟨k1, k2, k3, oe, vs, T, oT, ts', he, hz, hd, h1, hr⟩ := id fl
    have go : wpAny (model X.prog X.w) X.A (setFlight (.ref ex) X.env.frame) (fun _ sx => wpAny (model X.prog X.w) X.A (throw (.ref ex) : Sem Flow) (SP X pins D) X.xe sx) X.xe { s' with heap := hh } := by
      rw [hf]
      refine HandSPX.setFlight_upZ fl fun hx held upx => wpAny_throw (tk _ _ ?_)
      exact ⟨ex, B, s0, pins, τ, L, cls, d, rfl, J, out, gr.trans upx, .inr (.inr (by rw [hs]; exact held)), fresh, os, gens, wi⟩
    unfold PySem.passOn
    refine wpAny_bind (wpAny_field he hd h1 ?_)
    rw [if_neg (show ¬ ((Value.ref T == Value.none) = true) by simp)]
    first
      | exact wpAny_bind (wpAny_pure (wpAny_bind go))
      | exact wpAny_bind go
  | @bare x c ts b₀ suite np hp hds2 l2 nm su rest ih =>
    intro wi
    obtain ⟨b, hb1, hno, hyes⟩ := wi
    have ask := PySem.W.exm_one (M := model X.prog X.w) (Jh.kIn) tyL hb1
    refine wpAny_handleBy_cons (codeAny_handlers_test ?_) (fun q => by cases q)
    refine asked nm (ask.here ?_)
    cases b with
    | false => exact ih (hno rfl)
    | true =>
      refine codeAny_handlers_suite (HandSPX.lands_againZ fl fun hx flx upx => ?_)
      have Jx : Inv X pins τ L { s' with heap := hx } := J.landed out flx.1 (gr.trans upx) os gens
      obtain ⟨ox, fx, gx, zx, dx⟩ := flx.there
      have Sx := Jx.suite gx dx fresh notL notF
      refine wpAny_mono ((su ex ox cls d (X.pn ++ pins) zx ⟨_, dx⟩).run [] _ _ L _ Sx (hyes rfl ex fresh)) (fun f s6 hsp => ?_) (fun _ _ z => z.elim)
      cases f with
      | next => obtain ⟨τ6, L6, S6, q6⟩ := hsp; exact ⟨_, _, S6.unsuite okX, q6⟩
      | brk => obtain ⟨τ6, L6, S6, q6⟩ := hsp; exact ⟨_, _, S6.unsuite okX, q6⟩
      | cont => obtain ⟨τ6, L6, S6, q6⟩ := hsp; exact ⟨_, _, S6.unsuite okX, q6⟩
      | ret u => obtain ⟨v6, τ6, L6, S6, r6, q6⟩ := hsp; exact ⟨_, _, _, S6.unsuite okX, r6, q6⟩
  | @name x n i c ts b₀ suite np hp hds2 l2 hi hn nm su rest ih =>
    intro wi
    obtain ⟨b, hb1, hno, hyes⟩ := wi
    have ask := PySem.W.exm_one (M := model X.prog X.w) (Jh.kIn) tyL hb1
    refine wpAny_handleBy_cons (codeAny_handlers_test ?_) (fun q => by cases q)
    refine asked nm (ask.here ?_)
    cases b with
    | false => exact ih (hno rfl)
    | true =>
      refine codeAny_handlers_suite_as (HandSPX.lands_againZ fl fun hx flx upx => ?_)
      have Jx : Inv X pins τ L { s' with heap := hx } := J.landed out flx.1 (gr.trans upx) os gens
      obtain ⟨ox, fx, gx, zx, dx⟩ := flx.there
      have Sx := Jx.suite gx dx fresh notL notF
      have hl : Loc X.env.scope n := .inl hn
      refine store_ok (X := X.suite ex ((ex, ox) :: (X.pn ++ pins))) (v := .ref ex) Sx ndN hi hl rfl (fun s5 S5 => ?_) (.inr hn)
      refine wpAny_mono ((su ex ox cls d (X.pn ++ pins) zx ⟨_, dx⟩).run [] s5 _ L _ S5 (hyes rfl ex fresh)) (fun f s6 hsp => ?_) (fun _ _ z => z.elim)
      have gone : ∀ {τ6 : L2.St} {L6 : Hp} {Q : Shared → Prop}, Inv (X.suite ex ((ex, ox) :: (X.pn ++ pins))) [] τ6 L6 s6 → (∀ s7, Inv X pins (τ6.set i none) L6 s7 → Q s7) →
          wpAny (model X.prog X.w) X.A (do bindName X.env n .none; unbindBehindTheSuite X.env n hp) (fun _ s7 => Q s7) X.xe s6 := fun {τ6 L6 Q} S6 hq => gone_ok (S6.unsuite okX) ndN hi hn hq
      cases f with
      | next => obtain ⟨τ6, L6, S6, q6⟩ := hsp; exact gone S6 fun s7 J7 => ⟨_, _, J7, q6⟩
      | brk => obtain ⟨τ6, L6, S6, q6⟩ := hsp; exact gone S6 fun s7 J7 => ⟨_, _, J7, q6⟩
      | cont => obtain ⟨τ6, L6, S6, q6⟩ := hsp; exact gone S6 fun s7 J7 => ⟨_, _, J7, q6⟩
      | ret u => obtain ⟨v6, τ6, L6, S6, r6, q6⟩ := hsp; exact gone S6 fun s7 J7 => ⟨_, _, _, J7, r6, q6⟩
theorem ps_try_mix {body : List Stmt} {h₀ : ExceptHandler} {hds : List ExceptHandler} {l : List Han} {pos : Pos} {tb : WX → TS} (hs : X.stack = X.env :: X.outer) (hf : X.env.frame = some X.env.locals) (ndN : X.N.Nodup) (tk : Takes X Wout)
    (inner : ∀ (W : WX) (pn : List (Addr × Obj)) (xe : Value → Shared → Prop), Takes (X.tr pn xe) W → PassesOwn (model X.prog X.w) X.A X.env xe → PSs (X.tr pn xe) body (tb W)) (hm : HdM X (h₀ :: hds) l) :
    PS X (.Try body (h₀ :: hds) [] [] pos) (fun D σ H => tb (wMix X.K Wout D l) D σ H) := by
  constructor
  intro pins s σ H D I h
  have okX := I.ok
  have fr2 : X.A.frames = some (X.env :: X.outer) := by rw [okX.frames, hs]
  have part := inner (wMix X.K Wout D l) (X.pn ++ pins) (fun y s1 => wpAny (model X.prog X.w) X.A (noteFrame y X.env) (fun _ s2 => wpAny (model X.prog X.w) X.A (setFlight y none) (fun _ s3 =>
    wpAny (model X.prog X.w) X.A (handleBy y X.env (h₀ :: hds)) (SP X pins D) X.xe s3) X.xe s2) X.xe s1) (fun u s' air => by
      obtain ⟨ex, B, s0, pins', τ, L, cls, d, rfl, J', out, gr, sky, fresh, os, gens, wi⟩ := air
      have J : Inv X pins τ L s0 := J'.ofTry okX
      have sky2 : Sky B (X.env :: X.outer) ex (Zc cls d) X.env.locals s'.heap := by rw [← hs]; exact sky
      show wpAny (model X.prog X.w) X.A (noteFrame (.ref ex) X.env) _ _ _
      exact Sky.land Zc.steady fr2 hf sky2 fun hh fl up2 => hd_go hs hf ndN tk okX J out (gr.trans up2) fl fresh os gens hm wi) PassesOwn.looking
  refine wpAny_Try_except (wpAny_mono (part.run [] s σ H D (I.toTry _) h) (fun f s1 hsp => ?_) fun y s1 he => he)
  cases f with
  | next => obtain ⟨τ, L, J, q⟩ := hsp; exact wpAny_execs_nil ⟨τ, L, J.ofTry okX, q⟩
  | brk => obtain ⟨τ, L, J, q⟩ := hsp; exact ⟨τ, L, J.ofTry okX, q⟩
  | cont => obtain ⟨τ, L, J, q⟩ := hsp; exact ⟨τ, L, J.ofTry okX, q⟩
  | ret u => obtain ⟨v, τ, L, J, r, q⟩ := hsp; exact ⟨v, τ, L, J.ofTry okX, r, q⟩
end
abbrev HanM := (Nat → Option Bool) × Option Nat × MS
def mHands : List HanM → Ex → MS
  | [], x => fun env st => .er x env st
  | (cl, oi, ms) :: r, x => fun env st => match cl x.c with
    | some true => match oi with
      | none => noErS (ms env st)
      | some i => unX i (ms (env.set i (some (exObj x))) st)
    | some false => mHands r x env st
    | none => .bad
def mTryM (hs : List HanM) (m : MS) : MS := fun env st => match m env st with
  | .er x env1 st1 => mHands hs x env1 st1
  | o => o
inductive DHd (G : Glb) (X : Cx) (own ob : List Nat) : List ExceptHandler → List HanM → Prop
  | nil : DHd G X own ob [] []
  | bare {x : Str} {cv : Value} {b₀ : Stmt} {suite : List Stmt} {np hp : Pos} {hds : List ExceptHandler} {hs : List HanM} {cl : Nat → Option Bool} {ms : MS} (nm : Names X x cv) (hcl : ∀ c b, cl c = some b → PySem.W.exmOne G.K (.ref (G.cl c)) cv = some b)
      (su : ∀ (ex : Addr) (o : Obj) (cls : Value) (d : Option Addr) (pn : List (Addr × Obj)), Zc cls d o → (∃ vs, o.data = .fields vs) → DSs G (X.suite ex ((ex, o) :: pn)) W0 ⟨ob, none, (0, .none, none), none, (0, 0)⟩ (fun _ => True) ⟨own, none, (0, .none, none), none, (0, 0)⟩ (b₀ :: suite) ⟨own, none, (0, .none, none), none, (0, 0)⟩ ms)
      (rest : DHd G X own ob hds hs) : DHd G X own ob (.ExceptHandler (some (.Name x np)) none (b₀ :: suite) hp :: hds) ((cl, none, ms) :: hs)
  | name {x n : Str} {cv : Value} {b₀ : Stmt} {suite : List Stmt} {np hp : Pos} {hds : List ExceptHandler} {hs : List HanM} {cl : Nat → Option Bool} {ms : MS} (i : Nat) (nm : Names X x cv) (hcl : ∀ c b, cl c = some b → PySem.W.exmOne G.K (.ref (G.cl c)) cv = some b)
      (su : ∀ (ex : Addr) (o : Obj) (cls : Value) (d : Option Addr) (pn : List (Addr × Obj)), Zc cls d o → (∃ vs, o.data = .fields vs) → DSs G (X.suite ex ((ex, o) :: pn)) W0 ⟨ob, some i, (ex, cls, d), none, (0, 0)⟩ (fun _ => True) ⟨own, some i, (ex, cls, d), none, (0, 0)⟩ (b₀ :: suite) ⟨own, some i, (ex, cls, d), none, (0, 0)⟩ ms)
      (rest : DHd G X own ob hds hs) (hi : X.N[i]? = some n := by rfl) (hn : X.env.kindOf n = some .local := by rfl) (hio : own.elem i = false := by rfl) (hib : ob.elem i = false := by rfl) : DHd G X own ob (.ExceptHandler (some (.Name x np)) (some n) (b₀ :: suite) hp :: hds) ((cl, some i, ms) :: hs)
section
variable {G : Glb} {X : Cx} {W : WX} {OE : Ow → Prop} {pos : Pos} {k : Nat} {own ob : List Nat}
theorem DHd.go (hK : X.K = G.K) (hO : OE ⟨own, none, (0, .none, none), none, (0, 0)⟩) : ∀ {hds : List ExceptHandler} {hs : List HanM}, DHd G X own ob hds hs → ∃ l, HdM X hds l ∧
    ∀ (b : Act) (S S1 : Hp) (env : Env') (st : List D) (σ : L2.St) (H : Hp) (x : Ex) (cls : Value) (dd : Option Addr) (D : Ends), Same S S1 → DI G b ⟨own, none, (0, .none, none), none, (0, 0)⟩ S1 env st σ H → RepX G b.ad S1 cls dd x →
      PostS G b ⟨ob, none, (0, .none, none), none, (0, 0)⟩ OE W ⟨own, none, (0, .none, none), none, (0, 0)⟩ D S (mHands hs x env st) → wMix X.K W D l cls dd σ H := by
  intro hds hs h
  induction h with
  | nil => exact ⟨[], .nil, fun b S S1 env st σ H x cls dd D e I r h => h cls dd _ S1 σ H hO e I r⟩
  | @bare x cv b₀ suite np hp hds hs cl ms nm hcl su rest ih =>
    obtain ⟨l, hl, go⟩ := ih
    refine ⟨(cv, none, fun _ _ _ D σ H => ∃ b S env st, DI G b ⟨own, none, (0, .none, none), none, (0, 0)⟩ S env st σ H ∧ PostS G b ⟨ob, none, (0, .none, none), none, (0, 0)⟩ (fun _ => True) W0 ⟨own, none, (0, .none, none), none, (0, 0)⟩ D S (ms env st)) :: l, .bare nm (fun ex o cls d pn hz hf => ?_) hl, fun b S S1 env st σ H y cls dd D e I r h => ?_⟩
    · obtain ⟨t, p, w⟩ := (su ex o cls d pn hz hf).ex
      exact PSs.imp p fun D σ H ⟨b, S, env, st, I, q⟩ => w b S env st σ H D I q
    · unfold mHands at h
      cases ec : cl y.c with
      | none => rw [ec] at h; exact h.elim
      | some bb =>
        rw [ec] at h
        refine ⟨bb, by rw [hK, r.1]; exact hcl _ _ ec, fun hbb => ?_, fun hbb a ha => ?_⟩
        · subst hbb
          exact go b S S1 env st σ H y cls dd D e I r h
        · subst hbb
          dsimp only at h
          refine ⟨b, S1, env, st, I, ?_⟩
          cases es : ms env st with
          | nx env2 st2 => rw [es] at h; exact fun S2 σ2 H2 e2 I2 => h S2 _ H2 (e.trans e2) I2
          | rt d st2 => rw [es] at h; exact h
          | bk env2 st2 => rw [es] at h; exact fun S2 σ2 H2 e2 I2 => h S2 _ H2 (e.trans e2) I2
          | ct env2 st2 => rw [es] at h; exact fun S2 σ2 H2 e2 I2 => h S2 _ H2 (e.trans e2) I2
          | er x2 env2 st2 => rw [es] at h; exact h.elim
          | bad => rw [es] at h; exact h.elim
  | @name x n cv b₀ suite np hp hds hs cl ms i nm hcl su rest hi hn hio hib ih =>
    obtain ⟨l, hl, go⟩ := ih
    refine ⟨(cv, some i, fun a cls d D σ H => ∃ b S env st, DI G b ⟨own, some i, (a, cls, d), none, (0, 0)⟩ S env st σ H ∧ PostS G b ⟨ob, some i, (a, cls, d), none, (0, 0)⟩ (fun _ => True) W0 ⟨own, some i, (a, cls, d), none, (0, 0)⟩ D S (ms env st)) :: l, .name hi hn nm (fun ex o cls d pn hz hf => ?_) hl, fun b S S1 env st σ H y cls dd D e I r h => ?_⟩
    · obtain ⟨t, p, w⟩ := (su ex o cls d pn hz hf).ex
      exact PSs.imp p fun D σ H ⟨b, S, env, st, I, q⟩ => w b S env st σ H D I q
    · unfold mHands at h
      cases ec : cl y.c with
      | none => rw [ec] at h; exact h.elim
      | some bb =>
        rw [ec] at h
        refine ⟨bb, by rw [hK, r.1]; exact hcl _ _ ec, fun hbb => ?_, fun hbb a ha => ?_⟩
        · subst hbb
          exact go b S S1 env st σ H y cls dd D e I r h
        · subst hbb
          dsimp only at h
          refine ⟨b, S1, _, st, I.toexc hio r, ?_⟩
          cases es : ms (env.set i (some (exObj y))) st with
          | nx env2 st2 => rw [es] at h; exact fun S2 σ2 H2 e2 I2 => h S2 _ H2 (e.trans e2) (I2.unexc hio _)
          | rt d st2 => rw [es] at h; exact h
          | bk env2 st2 => rw [es] at h; exact fun S2 σ2 H2 e2 I2 => h S2 _ H2 (e.trans e2) (I2.unexc hib _)
          | ct env2 st2 => rw [es] at h; exact fun S2 σ2 H2 e2 I2 => h S2 _ H2 (e.trans e2) (I2.unexc hib _)
          | er x2 env2 st2 => rw [es] at h; exact h.elim
          | bad => rw [es] at h; exact h.elim
theorem ds_tryM {body : List Stmt} {h₀ : ExceptHandler} {hds : List ExceptHandler} {hs : List HanM} {m : MS} (xc : XC k G X W) (xt : XT X) (ndN : X.N.Nodup)
    (hb : ∀ (W' : WX) (pn : List (Addr × Obj)) (xe : Value → Shared → Prop), XC k G (X.tr pn xe) W' → XT (X.tr pn xe) → DSs G (X.tr pn xe) W' ⟨ob, none, (0, .none, none), none, (0, 0)⟩ (· = ⟨own, none, (0, .none, none), none, (0, 0)⟩) ⟨own, none, (0, .none, none), none, (0, 0)⟩ body ⟨own, none, (0, .none, none), none, (0, 0)⟩ m)
    (hh : DHd G X own ob (h₀ :: hds) hs) (hO : OE ⟨own, none, (0, .none, none), none, (0, 0)⟩ := by first | trivial | rfl) :
    DS G X W ⟨ob, none, (0, .none, none), none, (0, 0)⟩ OE ⟨own, none, (0, .none, none), none, (0, 0)⟩ (.Try body (h₀ :: hds) [] [] pos) ⟨own, none, (0, .none, none), none, (0, 0)⟩ (mTryM hs m) := by
  obtain ⟨l, hl, go⟩ := hh.go (W := W) xc.K hO
  refine ⟨_, ps_try_mix (Wout := W) (tb := fun W' D σ H => ∃ b S env st, DI G b ⟨own, none, (0, .none, none), none, (0, 0)⟩ S env st σ H ∧ PostS G b ⟨ob, none, (0, .none, none), none, (0, 0)⟩ (· = ⟨own, none, (0, .none, none), none, (0, 0)⟩) W' ⟨own, none, (0, .none, none), none, (0, 0)⟩ D S (m env st))
    xt.stk xt.fr ndN xc.tk (fun W' pn xe tk po => ?_) hl, fun b S env st σ H D I h => ?_⟩
  · obtain ⟨t, p, w⟩ := (hb W' pn xe (xc.tr tk po) (xt.tr pn xe)).ex
    exact PSs.imp p fun D σ H ⟨b, S, env, st, I, q⟩ => w b S env st σ H D I q
  · refine ⟨b, S, env, st, I, ?_⟩
    unfold mTryM at h
    cases e : m env st with
    | nx env1 st1 => rw [e] at h; exact h
    | rt d st1 => rw [e] at h; exact h
    | bk env1 st1 => rw [e] at h; exact h
    | ct env1 st1 => rw [e] at h; exact h
    | bad => rw [e] at h; exact h
    | er x env1 st1 =>
      rw [e] at h
      intro cls dd O' S1 σ1 H1 hO' e1 I1 rx
      subst hO'
      exact go b S S1 env1 st1 σ1 H1 x cls dd D e1 I1 rx h
end
end DL

/-! DL, fifteenth part: isinstance by own classes, their ==, chained comparisons, fields of a caught error. -/
namespace DL
open PySem PySem.Spec PyProof.Rows L2
/-- what a value is, for isinstance: a built-in type's name or an own class -/
inductive Tag where
  | ty (n : String) | cl (c : Nat)
deriving DecidableEq
def tagD (okI : Nat → Bool) (d : D) : Option Tag := match d with
  | .obj c _ => if okI c = true then some (.cl c) else none
  | d => (tyN d).map .ty
def tagV (G : Glb) : Tag → Value
  | .ty n => .type n
  | .cl c => .ref (G.cl c)
/-- what isinstance wants of an own class's objects -/
structure InsT (G : Glb) (c : Nat) : Prop where
  cls : Cls G.K (G.cl c)
  ha : PySem.W.findIn G.K (.ref (G.cl c)) "__class__" = some (some (.builtin "object.__class__"))
  hn : PySem.W.specialIn G.K (.builtin "object.__class__") "__get__" = some (some (.builtin "getset_descriptor.__get__"))
  ht : PySem.W.takesIn G.K (.builtin "object.__class__") = some true
  hm : PySem.W.mroIn G.K (G.cl c) (.type "object") = some true
section
variable {G : Glb} {X : Cx}
theorem tag_ok {okI : Nat → Bool} (T : ∀ c, okI c = true → InsT G c) {ad : List Addr} {S H : Hp} {v : V} {d : D} {t : Tag} (su : Same S H) (r : Rep G ad S v d) (e : tagD okI d = some t) : TyX G.K H v (tagV G t) := by
  cases r with
  | obj h r2 =>
    rename_i a dx c vs fs
    have e : (if okI c = true then some (Tag.cl c) else none) = some t := e
    split at e
    · rename_i ok
      cases e
      obtain ⟨t1, t2, t3, t4, t5⟩ := T c ok
      exact .base (.ins (su _ _ h) t1 t2 t3 t4 t5)
    · cases e
  | non => cases e; exact tyN_ok (ad := ad) su .non rfl
  | bl b => cases e; exact tyN_ok (ad := ad) su (.bl b) rfl
  | int i => cases e; exact tyN_ok (ad := ad) su (.int i) rfl
  | str x => cases e; exact tyN_ok (ad := ad) su (.str x) rfl
  | tup h r2 => cases e; exact tyN_ok su (.tup h r2) rfl
  | lst h r2 => cases e; exact tyN_ok su (.lst h r2) rfl
  | rol h r2 => cases e; exact tyN_ok su (.rol h r2) rfl
  | ty n => cases e
  | cls c => cases e
  | tok h => cases e
  | dic h => cases e; exact tyN_ok (ad := ad) su (.dic h) rfl
  | tpx q h n r2 => cases e
/-- isinstance(x, an own class) -/
def dIsC (okI : Nat → Bool) (tab : Tag → Nat → Option Bool) : List D → Option D := fun ds => match ds with
  | [x, .cls c] => (tagD okI x).bind fun t => (tab t c).map .bl
  | _ => none
theorem cd_isC {okI : Nat → Bool} {tab : Tag → Nat → Option Bool} (hK : X.K = G.K) (T : ∀ c, okI c = true → InsT G c) (ht : ∀ t c b, tab t c = some b → PySem.W.kitOne G.K (tagV G t) (.ref (G.cl c)) = some b) : CallD G (rIsi X.K) (dIsC okI tab) := ⟨fun ad S H st xs ds d Q su so r e q => by
  unfold dIsC at e
  split at e
  · rename_i x c
    obtain ⟨v, w, rfl, r1, r2⟩ := reps2 r
    cases r2
    cases et : tagD okI x with
    | none => rw [et] at e; cases e
    | some t =>
      rw [et] at e
      have e : (tab t c).map D.bl = some d := e
      cases eb : tab t c with
      | none => rw [eb] at e; cases e
      | some b =>
        rw [eb] at e
        cases e
        exact ⟨v, _, _, _, b, rfl, .own _, hK ▸ tag_ok T su r1 et, hK ▸ ht t c b eb, Post.here su so (.bl _) q⟩
  · cases e⟩
end
/-! ### x == y by x's own __eq__ -/
section
variable {X : Cx} {CX : CXT} {n : Nat} {C f : Addr} {fd : FuncData} {ps : List Str} {sp : Sp}
def rOwn (K : PySem.W.Frag) (C : Addr) (sp : Sp) : R2 := fun x y H Q => ∃ (a dx : Addr) (fs : List (Str × V)) (tb : Value), x = .ref a ∧ H a = some (.ins C dx fs) ∧ TyX K H y tb ∧ PySem.W.notFirst K C tb = true ∧ sp [x, y] H (fun v H' => (∃ k, v = .bl k) ∧ Q v H') (fun _ _ _ => False)
theorem op_own (F : FnOk X.prog X.w X.K X.mg X.base (L2.CX X.prog X.w) n f fd ps sp) (rm : Room n X.A) (at_ : PySem.W.findIn X.K (.ref C) "__eq__" = some (some (.ref f))) (isf : PySem.W.isFn X.K (.ref f) = true) (bn : Binds X.K fd ps []) : OpR X (compareOp .Eq) (rOwn X.K C sp) := by
  intro pins s σ H x y v u Q I rx ry h
  obtain ⟨a, dx, fs, tb, rfl, ha, ty, nf, go⟩ := h
  cases rx
  show wpAny (model X.prog X.w) X.A (richCompare .Eq (.ref a) u) (EP X pins σ Q) X.xe s
  obtain ⟨mA, J, _⟩ := ins_get I.hok ha
  obtain ⟨od, J, _⟩ := J.look
  obtain ⟨m, hF⟩ := I.fr
  obtain ⟨P, kx, pP, _⟩ := kit_of I ry ty
  refine PySem.W.cmp_K (op := .Eq) (tb := tb) rm.units0 hF I.ok.mod.kin J (kx.ty _ _ I.kIn pP) nf at_ isf ?_
  refine wpAny_mono (run_fnSD (E := fun _ _ _ _ => False) (us := [.ref a, u]) (vs := [.ref a, y]) F rm bn (dvs := []) .nil (fun pins H s e s' _ z => by obtain ⟨_, _, _, _, _, _, _, _, _, _, _, _, z⟩ := z; exact z.elim) I (.cons rfl (.cons ry .nil)) (by rw [List.append_nil]; exact go)) (fun r s' z => ?_) fun _ _ z => z
  obtain ⟨w, H', I', rw_, ⟨k, ek⟩, q⟩ := z
  subst ek
  cases rw_
  exact ⟨.bl k, H', I', rfl, q⟩
end
def mEqO (okI : Nat → Bool) (okT : Tag → Bool) (ci : Nat) (m : List D → M D) (ma mb : ME) : ME := fun env st => (ma env st).bind fun x st1 => (mb env st1).bind fun y st2 => match x with
  | .obj c fs => if c = ci ∧ ((tagD okI y).any okT) = true then (noEr (m [x, y] st2)).bind fun d st3 => match d with
      | .bl k => .ok (.bl k) st3
      | _ => .bad
    else .bad
  | x => ret? (dEq x y) st2
section
variable {G : Glb} {X : Cx} {W : WX} {O : Ow} {pos : Pos} {a b : Expr} {ma mb : ME} {k j : Nat} {f : Addr} {fd : FuncData} {ps : List Str} {m : List D → M D} {ci : Nat} {okI : Nat → Bool} {okT : Tag → Bool}
theorem de_eqO (c : XC k G X W) (T : ∀ c, okI c = true → InsT G c) (nf : ∀ t, okT t = true → PySem.W.notFirst G.K (G.cl ci) (tagV G t) = true) (F : FnOk X.prog X.w X.K X.mg X.base (L2.CX X.prog X.w) j f fd ps (spD G 2 m)) (at_ : PySem.W.findIn G.K (.ref (G.cl ci)) "__eq__" = some (some (.ref f))) (isf : PySem.W.isFn G.K (.ref f) = true) (bn : Binds X.K fd ps [])
    (ha : DE G X W O a ma) (hb : DE G X W O b mb) (hjk : j ≤ k := by decide) (hm : behindInMarks .Eq b = false := by first | exact nomark _ | rfl) : DE G X W O (.Compare a [.Eq] [b] pos) (mEqO okI okT ci m ma mb) := by
  have hK := c.K
  obtain ⟨ta, tb, pa, pb, w⟩ := two_parts (k := fun x y => fun st2 => match x with
    | .obj c fs => if c = ci ∧ ((tagD okI y).any okT) = true then (noEr (m [x, y] st2)).bind fun d st3 => match d with
        | .bl k => Res.ok (D.bl k) st3
        | _ => .bad
      else .bad
    | x => ret? (dEq x y) st2) ha hb
  refine ⟨_, pe_cmpR (OpR.or (op_own (C := G.cl ci) F (c.hr.mono hjk) (hK ▸ at_) (hK ▸ isf) bn) (op_eqD c.hr.units)) pa pb hm, fun b S env st σ H Q I h => w b S env st σ H _ (fun x y H2 => rOwn X.K (G.cl ci) _ x y H2 Q ∨ rEqD X.K x y H2 Q) I h fun x y dx dy S' H' st' e I' rx ry hk => ?_⟩
  by_cases ho : ∃ c fs, dx = .obj c fs
  · obtain ⟨cc, fs, rfl⟩ := ho
    dsimp only at hk
    split at hk
    case isFalse => exact hk.elim
    rename_i ok
    obtain ⟨rfl, okt⟩ := ok
    cases et : tagD okI dy with
    | none => rw [et] at okt; cases okt
    | some t =>
      rw [et] at okt
      have okt : okT t = true := okt
      cases rx with
      | obj h2 r2 =>
        rename_i aa dx vs
        refine .inl ⟨aa, dx, vs, tagV G t, rfl, I'.sub _ _ h2, hK ▸ tag_ok T I'.sub ry et, hK ▸ nf t okt, ⟨⟨S', H', b.ad⟩, _, st', rfl, rfl, I'.sub, I'.sto, .cons (.obj h2 r2) (.cons ry .nil), ?_⟩⟩
        have hk2 := wpR_bind hk
        refine wpR_imp (wp_noEr hk2) (fun d st3 z => ?_) fun _ _ z => z
        intro v S3 H3 x3 su3 so3 r3
        cases r3 with
        | bl kk => exact ⟨⟨kk, rfl⟩, (Post.from_ e I'.sto z) (.bl kk) S3 H3 x3 su3 so3 (.bl kk)⟩
        | _ => exact z.elim
  · have hk' : wpR (ret? (dEq dx dy) st') (fun d st' => Post G b.ad S H d st' Q) (fun x st' => PostX G b.ad S H x st' fun c dd H' => W c dd σ H') := by
      cases dx <;> first | exact hk | exact absurd ⟨_, _, rfl⟩ ho
    obtain ⟨d, e1, q⟩ := wp_ret hk'
    exact .inr ((opd_eq hK).go b.ad S' H' st' x y dx dy d Q I'.sub I'.sto rx ry e1 (Post.from_ e I'.sto q))
end
end DL

/-! DL, sixteenth part: chained comparisons, fields of a caught error, sum, lcm. -/
namespace DL
open PySem PySem.Spec PyProof.Rows L2
/-- a < b < c -/
def mChain (f g : D → D → Option D) (ma mb mc : ME) : ME := fun env st => (ma env st).bind fun x st1 => (mb env st1).bind fun y st2 => match f x y with
  | some (.bl true) => (mc env st2).bind fun z => ret? (g y z)
  | some (.bl false) => .ok (.bl false) st2
  | _ => .bad
section
variable {G : Glb} {X : Cx} {W : WX} {O : Ow} {pos : Pos} {a b c : Expr} {ma mb mc : ME} {op op' : CmpOp} {r r' : R2} {f g : D → D → Option D}
theorem de_chain (ho : OpR X (compareOp op) r) (hf : OpD G r f) (ho' : OpR X (compareOp op') r') (hg : OpD G r' g) (ha : DE G X W O a ma) (hb : DE G X W O b mb) (hc : DE G X W O c mc) (hm : lastMarks [op, op'] [b, c] = false := by with_unfolding_all rfl) : DE G X W O (.Compare a [op, op'] [b, c] pos) (mChain f g ma mb mc) := by
  obtain ⟨ta, pa, wa⟩ := ha.ex
  obtain ⟨tb, pb, wb⟩ := hb.ex
  obtain ⟨tc, pc, wc⟩ := hc.ex
  refine ⟨_, pe_chain ho ho' pa pb pc hm, fun b S env st σ H Q I h => wa b S env st σ H _ I (wpR_imp (wpR_bind h) (fun dx st1 h1 => ?_) fun _ _ z => z)⟩
  intro x S1 H1 x1 su1 so1 r1
  have I1 := I.ext x1 su1 so1
  refine wb b S1 env st1 σ H1 _ I1 (wpR_imp (wpR_bind h1) (fun dy st2 h2 => ?_) fun _ _ z => z.from_ x1 so1)
  intro y S2 H2 x2 su2 so2 r2
  have x12 := x1.trans so1 x2
  have I2 := I1.ext x2 su2 so2
  cases ef : f dx dy with
  | none => rw [ef] at h2; exact h2.elim
  | some d =>
    rw [ef] at h2
    refine hf.go b.ad S2 H2 st2 x y dx dy d _ su2 so2 (r1.mono x2.same) r2 ef ?_
    intro v S3 H3 x3 su3 so3 r3
    have x13 := x12.trans so2 x3
    have I3 := I2.ext x3 su3 so3
    cases r3 with
    | bl k =>
      refine ⟨k, rfl, ?_⟩
      cases k with
      | false =>
        have h2 : Post G b.ad S H (.bl false) st2 Q := h2
        exact h2 (.bl false) S3 H3 x13 su3 so3 (.bl false)
      | true =>
        have h2 : wpR ((mc env st2).bind fun z => ret? (g dy z)) (fun d st' => Post G b.ad S H d st' Q) (fun x st' => PostX G b.ad S H x st' fun c dd H' => W c dd σ H') := h2
        refine wc b S3 env st2 σ H3 _ I3 (wpR_imp (wpR_bind h2) (fun dz st3 h3 => ?_) fun _ _ z => z.from_ x13 so3)
        intro z S4 H4 x4 su4 so4 r4
        obtain ⟨d', e1, q⟩ := wp_ret h3
        exact hg.go b.ad S4 H4 st3 y z dy dz d' Q su4 so4 ((r2.mono x3.same).mono x4.same) r4 e1 (Post.from_ (x13.trans so3 x4) so4 q)
    | _ => exact h2.elim
end
/-! ### e.f, e a caught error -/
def mXf (okX : Nat → Str → Bool) (i : Nat) (f : Str) : ME := fun env st => match env[i]? with
  | some (some (D.obj c (_ :: fs))) => if okX c f = true then ret? (fs.lookup f) st else .bad
  | _ => .bad
section
variable {G : Glb} {X : Cx} {pos : Pos}
theorem de_xf {own : List Nat} {ex : Addr} {oe : Obj} {cls : Value} {dd : Option Addr} {pn : List (Addr × Obj)} {n f : Str} {p1 : Pos} {okX : Nat → Str → Bool} (i : Nat) (hz : Zc cls dd oe) (hf : ∃ vs, oe.data = .fields vs) (hK : X.K = G.K)
    (T : ∀ c g, okX c g = true → XfC G.K (G.cl c) ∧ PySem.W.findIn G.K (.ref (G.cl c)) g = some none) (hi : X.N[i]? = some n := by rfl) (hv : Vis X.env.scope n := by first | exact Or.inl rfl | exact Or.inr (Or.inl rfl) | exact Or.inr (Or.inr rfl))
    (hd : (n == ("__debug__" : Str)) = false := by decide) (hcd : (n == ("__classdict__" : Str)) = false := by decide) (hb : attributeBase (.Name n p1) f X.env (eval (.Name n p1) X.env) = eval (.Name n p1) X.env := by rfl) :
    DE G (X.suite ex ((ex, oe) :: pn)) W0 ⟨own, some i, (ex, cls, dd), none, (0, 0)⟩ (.Attribute (.Name n p1) f pos) (mXf okX i f) := by
  by_cases hC : ∃ c, cls = .ref (G.cl c) ∧ okX c f = true
  · obtain ⟨c, hc, ok⟩ := hC
    obtain ⟨t1, t2⟩ := T c f ok
    refine ⟨_, pe_xf (hK ▸ t1) (hK ▸ t2) hz hf (pe_var (i := i) hi hv hd hcd) hb, fun b S env st σ H Q I h => ?_⟩
    unfold mXf at h
    split at h
    · rename_i c' u fs e
      obtain ⟨x, q1, q2, q3⟩ := I.exc i _ rfl e
      split at h
      · obtain ⟨xc, xfs⟩ := x
        cases xfs with
        | none => cases q1
        | some fs' =>
          cases q1
          obtain ⟨g1, ad', vs, g2, g3, g4⟩ := q3
          obtain ⟨d', e1, q⟩ := wp_ret h
          obtain ⟨v, l, r⟩ := g4.look e1
          exact ⟨_, q2, rfl, hc, ad', vs, v, g2, I.sub _ _ g3, l, Post.here I.sub I.sto r q⟩
      · exact h.elim
    · exact h.elim
  · refine ⟨fun _ _ _ => False, ⟨fun pins s σ H Q I h => h.elim⟩, fun b S env st σ H Q I h => ?_⟩
    unfold mXf at h
    split at h
    · rename_i c' u fs e
      obtain ⟨x, q1, q2, q3⟩ := I.exc i _ rfl e
      split at h
      · rename_i ok
        obtain ⟨xc, xfs⟩ := x
        cases xfs with
        | none => cases q1
        | some fs' => cases q1; exact hC ⟨_, q3.1, ok⟩
      · exact h.elim
    · exact h.elim
end
/-! ### lcm -/
def LcmOk (a b : Int) : Prop := a.natAbs.log2 < 6000 ∧ b.natAbs.log2 < 6000
noncomputable instance (a b : Int) : Decidable (LcmOk a b) := Classical.propDecidable _
theorem lcmOk_of {a b : Int} (h : a.natAbs < 2 ^ 64) (k : b.natAbs < 2 ^ 64) : LcmOk a b :=
  ⟨Nat.lt_of_le_of_lt (PySem.W.mg_log (k := 63) h) (by decide), Nat.lt_of_le_of_lt (PySem.W.mg_log (k := 63) k) (by decide)⟩
theorem lcm_log {x y n : Nat} (h : x.log2 < n) (k : y.log2 < n) : (x.lcm y).log2 < n + n := by
  by_cases hx : x = 0
  · subst hx; rw [Nat.lcm_zero_left]; rw [Nat.log2_zero]; omega
  by_cases hy : y = 0
  · subst hy; rw [Nat.lcm_zero_right]; rw [Nat.log2_zero]; omega
  have a := (Nat.log2_lt hx).mp h
  have b := (Nat.log2_lt hy).mp k
  refine (Nat.log2_lt (Nat.ne_of_gt (Nat.lcm_pos (Nat.pos_of_ne_zero hx) (Nat.pos_of_ne_zero hy)))).mpr ?_
  rw [Nat.pow_add]
  exact Nat.lt_of_le_of_lt (PySem.W.mc_lcm_le x y) (Nat.mul_lt_mul'' a b)
theorem max_log {x y n : Nat} (h : x.log2 < n) (k : y.log2 < n) : (max x y).log2 < n := by
  rcases Nat.le_total x y with q | q
  · rw [Nat.max_eq_right q]; exact k
  · rw [Nat.max_eq_left q]; exact h
def rLcm : List V → Hp → VK → Prop := fun xs H Q => ∃ a b : Int, xs = [.int a, .int b] ∧ LcmOk a b ∧ Q (.int ((a.natAbs.lcm b.natAbs : Nat) : Int)) H
theorem cr_lcm {X : Cx} : CallR X (.builtin "math.lcm") rLcm := by
  intro pins s σ H vs us Q I r h
  obtain ⟨a, b, rfl, ⟨ha, hb⟩, q⟩ := h
  obtain ⟨t, u, rfl⟩ := Vals.int2 r
  have h1 : (max 1 a.natAbs).log2 < 6000 := max_log (by rw [show Nat.log2 1 = 0 by rfl]; decide) ha
  have h2 : (max a.natAbs b.natAbs).log2 < 6000 := max_log ha hb
  have hz : ((((Nat.lcm 1 a.natAbs).lcm b.natAbs : Nat) : Int)).natAbs.log2 < bitsLine := by
    rw [PySem.W.mc_lcm_one, Int.natAbs_natCast]
    exact Nat.lt_of_lt_of_le (lcm_log ha hb) (by decide)
  refine call_function_meets PySem.W.MGF.kind_lcm PySem.W.MGF.plain_lcm PySem.W.MGF.entry_lcm (PySem.W.MGF.args_lcm _ _) (PySem.W.mg_run_lcm a t b u (by omega) (by omega) hz).meets ?_
  rw [PySem.W.mc_lcm_one]
  exact ⟨.int _, H, I.tok _, ⟨_, rfl⟩, q⟩
noncomputable def dLcm : List D → Option D := fun ds => match ds with
  | [.int a, .int b] => if LcmOk a b then some (.int ((a.natAbs.lcm b.natAbs : Nat) : Int)) else none
  | _ => none
theorem cd_lcm {G : Glb} : CallD G rLcm dLcm := ⟨fun ad S H st xs ds d Q su so r e q => by
  unfold dLcm at e
  split at e
  · rename_i a b
    split at e
    · rename_i ok
      cases e
      obtain ⟨v, w, rfl, r1, r2⟩ := reps2 r
      cases r1; cases r2
      exact ⟨a, b, rfl, ok, Post.here su so (.int _) q⟩
    · cases e
  · cases e⟩
end DL

/-! DL, seventeenth part: zip of two tuples. -/
namespace DL
open PySem PySem.Spec PyProof.Rows L2 RZ
section
variable {G : Glb} {ad : List Addr} {S : Hp}
theorem iter_zipT {a c : Addr} {vs ws : List V} {ds es : List D} (h : SqT G.K S a vs) (r : Reps G ad S vs ds) (h2 : SqT G.K S c ws) (r2 : Reps G ad S ws es) : IterOK G ad S (ItzT G.K a c) (List.zipWith (fun x y => .tup [x, y]) ds es) := by
  intro i S' H' e su
  have h' := Same.sqT (e.trans su) h
  have h2' := Same.sqT (e.trans su) h2
  refine ⟨fun hi => ⟨vs, ws, h', h2', ?_⟩, fun d hd => ?_⟩
  · rw [List.length_zipWith] at hi
    rw [r.len, r2.len]
    omega
  · rw [List.getElem?_zipWith] at hd
    cases q1 : ds[i]? with
    | none => rw [q1] at hd; simp at hd
    | some d1 =>
      cases q2 : es[i]? with
      | none => rw [q1, q2] at hd; simp at hd
      | some d2 =>
        rw [q1, q2] at hd
        have e0 : D.tup [d1, d2] = d := by simpa using hd
        subst e0
        obtain ⟨v, hv, rv⟩ := r.get q1
        obtain ⟨u, hu, ru⟩ := r2.get q2
        refine ⟨⟨vs, ws, v, u, h', h2', hv, hu⟩, fun x H'' ⟨T, y, z, e1, hT, e2, e3, e4⟩ => ?_⟩
        subst e1; subst e2
        have e5 : v = y := Option.some.inj (hv.symm.trans (e3 vs h'))
        have e6 : u = z := Option.some.inj (hu.symm.trans (e4 ws h2'))
        subst e5; subst e6
        exact pair_new su hT (rv.mono e) (ru.mono e)
end
def zipA? : List D → M (List D) := fun ds st => match ds with
  | [.lst xs, .lst ys] => .ok (List.zipWith (fun x y => .tup [x, y]) xs ys) st
  | [.tup xs, .tup ys] => .ok (List.zipWith (fun x y => .tup [x, y]) xs ys) st
  | _ => .bad
section
variable {G : Glb} {X : Cx} {W : WX} {O : Ow} {pos p : Pos} {a a2 : Expr} {ma : MA}
theorem di_zipA {elts : List Expr} {kk : Nat} {tpos : Pos} (hK : X.K = G.K) (hm : X.mg "zip" = none) (ha : DA G X W O [a, a2] ma) (hg : Gl X "zip" := by rfl)
    (hs : starEach [a, a2] X.env = (false, eval a X.env) :: starEach [a2] X.env := by rfl) (hpl : (backTo pos (starEach [a2] X.env)).any (·.1) = false := by rfl) :
    DIt G X W O (.Tuple elts kk tpos) (.Call (.Name "zip" p) [a, a2] [] pos) (mThenA ma zipA?) := by
  obtain ⟨t, pa, w⟩ := ha.ex
  refine ⟨_, pi_zipA hg hm pa hs hpl, fun b S env st σ H R I h => args_walk (es := [a]) w I h fun vs ds S1 H1 st1 x1 su1 so1 r1 h1 => ?_⟩
  unfold zipA? at h1
  split at h1
  · cases r1 with
    | cons r rr =>
      cases rr with
      | cons r' rr =>
        cases rr
        cases r with
        | lst h2 h3 =>
          cases r' with
          | lst h4 h5 => exact ⟨_, _, _, _, rfl, .inl ⟨SqL.of (su1 _ _ h2), SqL.of (su1 _ _ h4), hK ▸ h1 _ _ _ x1 su1 so1 (iter_zip (SqL.of h2) h3 (SqL.of h4) h5)⟩⟩
  · cases r1 with
    | cons r rr =>
      cases rr with
      | cons r' rr =>
        cases rr
        cases r with
        | tup h2 h3 =>
          cases r' with
          | tup h4 h5 => exact ⟨_, _, _, _, rfl, .inr ⟨hK ▸ Same.sqT su1 h2.sqT, hK ▸ Same.sqT su1 h4.sqT, hK ▸ h1 _ _ _ x1 su1 so1 (iter_zipT h2.sqT h3 h4.sqT h5)⟩⟩
  · exact h1.elim
end
end DL

/-! DL, eighteenth part: max and min of a tuple of ints. -/
namespace DL
open PySem PySem.Spec PyProof.Rows L2
def ints? : List D → Option (List Int)
  | [] => some []
  | .int i :: ds => (ints? ds).map (i :: ·)
  | _ :: _ => none
theorem ints_ok {G : Glb} {ad : List Addr} {S : Hp} : ∀ {vs : List V} {ds : List D} {ns : List Int}, Reps G ad S vs ds → ints? ds = some ns → vs = ns.map V.int
  | _, _, ns, .nil, e => by cases e; rfl
  | _, _, ns, .cons (ds := ds) h r, e => by
    cases h with
    | int i =>
      unfold ints? at e
      cases e2 : ints? ds with
      | none => rw [e2] at e; cases e
      | some ms =>
        rw [e2] at e
        cases e
        rw [ints_ok r e2]
        rfl
    | _ => cases e
theorem hold_ints {h : Heap} : ∀ {ns : List Int} {its : List Value}, Vals (ns.map V.int) its → PySem.W.HoldAll h its ns
  | [], _, .nil => PySem.W.HoldAll.nil
  | n :: ns, _, .cons r rs => by
    obtain ⟨t, e⟩ := r
    subst e
    exact PySem.W.HoldAll.cons (PySem.W.holds_int n t) (hold_ints rs)
def maxI (n : Int) (ns : List Int) : Int := ns.foldl (fun a y => if a < y then y else a) n
def rMaxT (K : PySem.W.Frag) : List V → Hp → VK → Prop := fun xs H Q => ∃ (a : Addr) (n : Int) (ns : List Int), xs = [.ref a] ∧ SqT K H a ((n :: ns).map V.int) ∧ Q (.int (PySem.W.maxOf n ns)) H
def rMinT (K : PySem.W.Frag) : List V → Hp → VK → Prop := fun xs H Q => ∃ (a : Addr) (n : Int) (ns : List Int), xs = [.ref a] ∧ SqT K H a ((n :: ns).map V.int) ∧ Q (.int (PySem.W.minOf n ns)) H
section
variable {X : Cx}
theorem cr_maxT (hc : X.calm = true) (hu : X.A.units + 64 < cLine) : CallR X (.builtin "max") (rMaxT X.K) := by
  intro pins s σ H vs us Q I r h
  obtain ⟨a, n, ns, rfl, hs, q⟩ := h
  obtain ⟨its, rv, hl, _⟩ := I.tuple hs
  rw [Vals.ref1 r]
  refine PySem.W.max_tuple_datum (α := Int) (x := n) (xs := ns) (I.ok.hd hc) hl (hold_ints rv) (Nat.lt_of_le_of_lt (by show X.A.units + 1 + 0 ≤ _; omega) hu) fun i v h' tk _ hv hk => ?_
  obtain ⟨as, rd⟩ := hv
  cases rd
  exact ⟨.int _, H, I.kept hk, ⟨_, rfl⟩, q⟩
theorem cr_minT (hc : X.calm = true) (hu : X.A.units + 64 < cLine) : CallR X (.builtin "min") (rMinT X.K) := by
  intro pins s σ H vs us Q I r h
  obtain ⟨a, n, ns, rfl, hs, q⟩ := h
  obtain ⟨its, rv, hl, _⟩ := I.tuple hs
  rw [Vals.ref1 r]
  refine PySem.W.min_tuple_datum (α := Int) (x := n) (xs := ns) (I.ok.hd hc) hl (hold_ints rv) (Nat.lt_of_le_of_lt (by show X.A.units + 1 + 0 ≤ _; omega) hu) fun i v h' tk _ hv hk => ?_
  obtain ⟨as, rd⟩ := hv
  cases rd
  exact ⟨.int _, H, I.kept hk, ⟨_, rfl⟩, q⟩
end
def dMaxT (f : Int → List Int → Int) : List D → Option D := fun ds => match ds with
  | [.tup ds] => match ints? ds with
    | some (n :: ns) => some (.int (f n ns))
    | _ => none
  | _ => none
theorem cd_maxT {G : Glb} {X : Cx} (hK : X.K = G.K) : CallD G (rMaxT X.K) (dMaxT PySem.W.maxOf) := ⟨fun ad S H st xs ds d Q su so r e q => by
  unfold dMaxT at e
  split at e
  · rename_i ys
    obtain ⟨v, rfl, rv⟩ := reps1 r
    split at e
    · rename_i n ns en
      cases e
      cases rv with
      | tup h2 r2 =>
        rename_i a vs
        have ev := ints_ok r2 en
        subst ev
        exact ⟨a, n, ns, rfl, hK ▸ Same.sqT su h2.sqT, Post.here su so (.int _) q⟩
    · cases e
  · cases e⟩
theorem cd_minT {G : Glb} {X : Cx} (hK : X.K = G.K) : CallD G (rMinT X.K) (dMaxT PySem.W.minOf) := ⟨fun ad S H st xs ds d Q su so r e q => by
  unfold dMaxT at e
  split at e
  · rename_i ys
    obtain ⟨v, rfl, rv⟩ := reps1 r
    split at e
    · rename_i n ns en
      cases e
      cases rv with
      | tup h2 r2 =>
        rename_i a vs
        have ev := ints_ok r2 en
        subst ev
        exact ⟨a, n, ns, rfl, hK ▸ Same.sqT su h2.sqT, Post.here su so (.int _) q⟩
    · cases e
  · cases e⟩
end DL

/-! DL, nineteenth part: tuple(range(a, b)), sum of a list. -/
namespace DL
open PySem PySem.Spec PyProof.Rows L2
noncomputable instance (a b : Int) : Decidable (RgOk a b) := Classical.propDecidable _
noncomputable def dTupRg (x y : D) : Option D := match x, y with
  | .int a, .int b => if RgOk a b then some (.tup (rangeD a (b - a).toNat)) else none
  | _, _ => none
theorem reps_rg {G : Glb} {ad : List Addr} {S : Hp} (a : Int) (n : Nat) : Reps G ad S ((List.range n).map fun i => V.int (a + (i : Nat))) (rangeD a n) := by
  unfold rangeD
  generalize List.range n = l
  induction l with
  | nil => exact .nil
  | cons i l ih => exact .cons (.int _) ih
section
variable {G : Glb} {X : Cx} {W : WX} {O : Ow} {p p2 pos pos2 : Pos} {a b : Expr} {ma mb : ME}
theorem de_tupRg (hc : X.calm = true) (ht : X.mg "tuple" = none) (hr : X.mg "range" = none) (ha : DE G X W O a ma) (hb : DE G X W O b mb) (hg : Gl X "tuple" := by rfl) (hg2 : Gl X "range" := by rfl)
    (na : starEach [.Call (.Name "range" p2) [a, b] [] pos2] X.env = (false, eval (.Call (.Name "range" p2) [a, b] [] pos2) X.env) :: starEach [] X.env := by rfl)
    (nr : starEach [a, b] X.env = (false, eval a X.env) :: starEach [b] X.env := by rfl) (nb : starEach [b] X.env = (false, eval b X.env) :: starEach [] X.env := by rfl) (hp : (backTo pos2 (starEach [b] X.env)).any (·.1) = false := by rfl) :
    DE G X W O (.Call (.Name "tuple" p) [.Call (.Name "range" p2) [a, b] [] pos2] [] pos) (mOp dTupRg ma mb) := by
  obtain ⟨ta, tb, pa, pb, w⟩ := two_parts (k := fun x y => ret? (dTupRg x y)) ha hb
  refine ⟨_, pe_tupRg hc hg ht (prg_2 hg2 hr pa pb nr nb hp) na, fun b S env st σ H Q I h => w b S env st σ H _ (fun x y H2 => ∃ i j, x = .int i ∧ y = .int j ∧ RgOk i j ∧ ∀ q, H2 q = none → Q (.ref q) (upd H2 q (.tup (rgV i j)))) I h fun x y dx dy S' H' st' e I' rx ry hk => ?_⟩
  obtain ⟨d, e1, q⟩ := wp_ret hk
  cases rx with
  | int i =>
    cases ry with
    | int j =>
      have e1 : (if RgOk i j then some (D.tup (rangeD i (j - i).toNat)) else none) = some d := e1
      split at e1
      · rename_i ok
        cases e1
        exact ⟨i, j, rfl, rfl, ok, fun z hz => Post.tup I'.sub I'.sto hz (reps_rg i (j - i).toNat) (Post.from_ e I'.sto q)⟩
      · cases e1
    | _ => cases e1
  | _ => cases e1
end
def dSumL : List D → Option D := fun ds => match ds with
  | [.lst ds] => (ints? ds).map fun ns => .int ns.sum
  | _ => none
theorem cd_sumL {G : Glb} {X : Cx} (hK : X.K = G.K) : CallD G (rSum X.K) dSumL := ⟨fun ad S H st xs ds d Q su so r e q => by
  unfold dSumL at e
  split at e
  · rename_i ys
    obtain ⟨v, rfl, rv⟩ := reps1 r
    cases en : ints? ys with
    | none => rw [en] at e; cases e
    | some ns =>
      rw [en] at e
      cases e
      cases rv with
      | lst h2 r2 =>
        rename_i a vs
        have ev := ints_ok r2 en
        subst ev
        exact ⟨a, ns, rfl, SqL.of (su _ _ h2), Post.here su so (.int _) q⟩
  · cases e⟩
end DL

/-! DL, twentieth part: __init__ with defaults, own == by a table of classes. -/
namespace DL
open PySem PySem.Spec PyProof.Rows L2
theorem funToD {K : PySem.W.Frag} {x qual : Str} {st : Stmt} {f : Addr} {fd : FuncData} (F : Fun K x qual st f fd) : FunD K x qual (defArgs st) (defBody st) (defScope st) [] [] f fd := by
  obtain ⟨oc, od, kV, doc, pm, an, cdv, ct, osl, e, l, c⟩ := F.ex
  exact ⟨⟨oc, od, .none, kV, doc, pm, an, cdv, ct, osl, e, l, c, .inl ⟨rfl, rfl⟩, .inl rfl⟩, F.kp⟩
theorem funD_mk {K : PySem.W.Frag} {x qual : Str} {st : Stmt} {f T : Addr} {oc : Value} {od an : Option Addr} {osl : Array (Option Value)} {kV doc pm cdv ct : Value} {to : Obj} {its : List Value} {n : Nat} {dvs : List V}
    (l : K.lookup f = some ⟨oc, od, .func (PySem.W.fnOf x qual (defArgs st) (defBody st) (defScope st) (.ref T) kV doc pm an cdv ct), osl⟩) (c : PySem.W.codeIn K cdv qual = true) (k : PySem.W.keepIn K (.ref f) = true)
    (lT : K.lookup T = some to) (dT : to.data = .seq its.toArray n) (hd : dvs ≠ []) (hv : Vals dvs its) : FunD K x qual (defArgs st) (defBody st) (defScope st) dvs [] f (PySem.W.fnOf x qual (defArgs st) (defBody st) (defScope st) (.ref T) kV doc pm an cdv ct) :=
  ⟨⟨oc, od, .ref T, kV, doc, pm, an, cdv, ct, osl, rfl, l, c, .inr ⟨hd, T, to, its, n, rfl, lT, dT, hv⟩, .inl rfl⟩, k⟩
section
variable {P : Program} {w : World} {K : PySem.W.Frag} {mg : Str → Option Value} {base : Heap}
/-- __init__ -/
theorem fnID {G : Glb} {x0 qual : Str} {st : Stmt} {dvs : List V} {kws : List (Str × V)} {f : Addr} {fd : FuncData} {N ps : List Str} {c k n : Nat} {m : MS} (F : FunD K x0 qual (defArgs st) (defBody st) (defScope st) dvs kws f fd) (S : FnScope N ps (defScope st)) (hK : K = G.K) (hps : ps.length = n + 1) (hN : ps.length ≤ N.length)
    (hbody : ∀ (x dx : Addr) (cdv : Value) (A : Around) (outer : List Env) (s : Shared) (H : Hp) (E : XK), XC k G (cxOf (L2.CX P w) P w K mg base N qual (defScope st) f cdv A outer s H E) (fun cls d _ H' => E cls d H') → XT (cxOf (L2.CX P w) P w K mg base N qual (defScope st) f cdv A outer s H E) →
      DSs G (cxOf (L2.CX P w) P w K mg base N qual (defScope st) f cdv A outer s H E) (fun cls d _ H' => E cls d H') (selfO x dx) (fun _ => True) (selfO x dx) (defBody st) (selfO x dx) m) :
    FnOk P w K mg base (L2.CX P w) (k + 1) f fd ps (spI G c n (initM c N.length m)) := by
  refine F.ok S (fun vs H Q E h => ?_) fun cdv A outer s H vs Q E hr h => ?_
  · obtain ⟨b, ds, st0, x, dx, ws, rfl, _, _, _, _, hl, _⟩ := h
    rw [List.length_cons, hl, hps]
  · obtain ⟨b, ds, st0, x, dx, ws, rfl, rfl, hx, hd, hne, hl, hs, so, r, h⟩ := h
    have xc : XC k G (cxOf (L2.CX P w) P w K mg base N qual (defScope st) f cdv A outer s (upd (upd b.H dx (.own x)) x (.ins (G.cl c) dx [])) E) (fun cls d _ H' => E cls d H') :=
      { tk := takes_of rfl rfl rfl rfl, po := passes_of rfl, calm := rfl, hr := hr, K := hK }
    obtain ⟨t, p, wt⟩ := (hbody x dx cdv A outer s _ E xc ⟨rfl, rfl⟩).ex
    refine ⟨t, p, ?_⟩
    have I0 := DI.start (n := N.length - 1 - ws.length) hs so (.cons (.non) r)
    have I1 := I0.born (c := c) hx hd hne (by simp)
    have e1 : N.length - 1 - ws.length = N.length - 1 - ds.length := by rw [r.len]
    have e2 : start N (V.ref x :: ws) = ((V.non :: ws).map some ++ List.replicate (N.length - 1 - ws.length) none).set 0 (some (.ref x)) := by
      show (V.ref x :: ws).map some ++ List.replicate (N.length - (V.ref x :: ws).length) none = _
      rw [List.length_cons, show N.length - (ws.length + 1) = N.length - 1 - ws.length by omega]
      rfl
    rw [e2]
    refine wt b b.S _ st0 _ _ _ I1 ?_
    have e3 : ((D.non :: ds).map some ++ List.replicate (N.length - 1 - ws.length) none).set 0 (some (.obj c [])) = some (.obj c []) :: (ds.map some ++ List.replicate (N.length - 1 - ds.length) none) := by
      rw [e1]; rfl
    rw [e3]
    unfold initM at h
    cases e : m (some (.obj c []) :: (ds.map some ++ List.replicate (N.length - 1 - ds.length) none)) st0 with
    | nx env st1 =>
      rw [e] at h
      intro S1 σ1 H1 _ I2
      obtain ⟨c', vs', fs', q1, q2, q3, q4, q5, q6, q7, q8, q9, q10, q11⟩ := I2.self_ 0 rfl
      have q3 : H1 x = some (.ins (G.cl c') dx vs') := q3
      have q5 : S1 x = none := q5
      have q7 : b.H x = none := q7
      have q9 : x ∉ b.ad := q9
      dsimp only at h
      rw [q1] at h
      have sm : Same S1 (upd S1 x (.ins (G.cl c') dx vs')) := fun a o ha => by
        rw [upd_ne (fun z => by rw [z, q5] at ha; cases ha)]; exact ha
      have nw : ∀ a o, upd S1 x (.ins (G.cl c') dx vs') a = some o → (a = x ∧ o = .ins (G.cl c') dx vs') ∨ S1 a = some o := fun a o ha => by
        by_cases hc : a = x
        · subst hc; rw [upd_same] at ha; exact .inl ⟨rfl, (Option.some.inj ha).symm⟩
        · rw [upd_ne hc] at ha; exact .inr ha
      have h : ∀ S' H', Ext b.ad b.S b.H S' H' → Same S' H' → StoOk G b.ad S' st1 H' → Rep G b.ad S' (.ref x) (.obj c' fs') → Q .non H' := h
      refine h (upd S1 x (.ins (G.cl c') dx vs')) H1 ⟨I2.s0.trans sm, fun a o ha => ?_, I2.keep⟩ (fun a o ha => ?_) (I2.sto.known sm (fun a ha => ?_) fun a ⟨_, hh⟩ ha => by rw [upd_ne (fun z => by rw [z, q3] at hh; cases hh)]; exact ha) (.obj upd_same (q11.mono sm))
      · rcases nw a o ha with ⟨rfl, _⟩ | z
        · exact .inr q7
        · exact I2.new a o z
      · rcases nw a o ha with ⟨rfl, rfl⟩ | z
        · exact q3
        · exact I2.sub a o z
      · rw [upd_ne (show a ≠ x from fun z => q9 (z ▸ ha))]
        exact (I2.sto.has ha).1
    | rt d st1 => rw [e] at h; exact h.elim
    | bk env st1 => rw [e] at h; exact h.elim
    | ct env st1 => rw [e] at h; exact h.elim
    | er y env st1 =>
      rw [e] at h
      intro cls dd O' S1 σ1 H1 _ _ I2 rx
      exact h cls dd S1 H1 I2.fin I2.sub I2.sto rx
    | bad => rw [e] at h; exact h.elim
end
/-! ### what the printed texts name -/
/-- a method as it stands behind the top -/
structure MetOk (K : PySem.W.Frag) (x qual : Str) (st : Stmt) (ps : List Str) (f : Addr) (fd : FuncData) : Prop where
  F : Fun K x qual st f fd
  b : Binds K fd ps []
/-- a class's __init__, with its defaults -/
structure IniOk (G : Glb) (mg : Str → Option Value) (cn qual : Str) (st : Stmt) (ps : List Str) (dvs : List V) (c : Nat) (f : Addr) (fd : FuncData) : Prop where
  F : FunD G.K "__init__" qual (defArgs st) (defBody st) (defScope st) dvs [] f fd
  g : mg cn = some (.ref (G.cl c))
  mkC : Mk G.K (G.cl c) f
  b : ∀ j, j ≤ dvs.length → ∃ ds, Vals (dvs.drop j) ds ∧ Binds G.K fd ps ds
theorem IniOk.plain {G : Glb} {mg : Str → Option Value} {cn qual : Str} {st : Stmt} {ps : List Str} {c : Nat} {f : Addr} {fd : FuncData} (F : Fun G.K "__init__" qual st f fd) (g : mg cn = some (.ref (G.cl c))) (mk : Mk G.K (G.cl c) f) (b : Binds G.K fd ps []) : IniOk G mg cn qual st ps [] c f fd :=
  ⟨funToD F, g, mk, fun j hj => ⟨[], by rw [List.drop_nil]; exact .nil, b⟩⟩
section
variable {G : Glb} {X : Cx} {W : WX} {O : Ow} {pos p : Pos} {x : Str} {e : Expr} {es : List Expr} {ma : MA} {k j n n' : Nat} {f : Addr} {fd : FuncData} {ps : List Str} {m : List D → M D} {ci : Nat} {dvs : List V} {dds : List D}
theorem de_makeD (c : XC k G X W) (mk : Mk G.K (G.cl ci) f) (F : FnOk X.prog X.w X.K X.mg X.base (L2.CX X.prog X.w) j f fd ps (spI G ci n m)) (hm : X.mg x = some (.ref (G.cl ci))) (hb : ∃ ds, Vals dvs ds ∧ Binds G.K fd ps ds) (rd : ∀ ad S, Reps G ad S dvs dds) (ha : DA G X W O (e :: es) ma)
    (hln : Len ma n') (hjk : j + 1 ≤ k := by decide) (hn : n' + dds.length = n := by rfl) (hg : Gl X x := by rfl) (hdb : (x == ("__debug__" : Str)) = false := by decide) (he : starEach (e :: es) X.env = (false, eval e X.env) :: starEach es X.env := by rfl) (hpl : (backTo pos (starEach es X.env)).any (·.1) = false := by rfl) :
    DE G X W O (.Call (.Name x p) (e :: es) [] pos) (mCallD m dds ma) := by
  obtain ⟨dl, hd, hb⟩ := hb
  exact de_make c (c.K ▸ mk) F hm (c.K ▸ hb) hd rd ha hjk hln hn hg hdb he hpl
end
/-! ### == by a table -/
/-- the __eq__ of the class c -/
structure EqAt (P : Program) (w : World) (G : Glb) (K : PySem.W.Frag) (mg : Str → Option Value) (base : Heap) (k : Nat) (okT : Tag → Bool) (c : Nat) (m : List D → M D) : Prop where
  ex : ∃ j f fd ps, j ≤ k ∧ FnOk P w K mg base (L2.CX P w) j f fd ps (spD G 2 m) ∧ PySem.W.findIn G.K (.ref (G.cl c)) "__eq__" = some (some (.ref f)) ∧ PySem.W.isFn G.K (.ref f) = true ∧ Binds G.K fd ps []
  nf : ∀ t, okT t = true → PySem.W.notFirst G.K (G.cl c) (tagV G t) = true
def rOwnT (G : Glb) (K : PySem.W.Frag) (eqs : Nat → Option (List D → M D)) : R2 := fun x y H Q => ∃ c m, eqs c = some m ∧ rOwn K (G.cl c) (spD G 2 m) x y H Q
theorem op_ownT {G : Glb} {X : Cx} {k kk : Nat} {okT : Tag → Bool} {eqs : Nat → Option (List D → M D)} (hK : X.K = G.K) (hr : Room kk X.A) (hk : k ≤ kk) (E : ∀ c m, eqs c = some m → EqAt X.prog X.w G X.K X.mg X.base k okT c m) : OpR X (compareOp .Eq) (rOwnT G X.K eqs) := by
  intro pins s σ H x y v u Q I rx ry h
  obtain ⟨c, m, e, h⟩ := h
  obtain ⟨j, f, fd, ps, hj, F, at_, isf, bn⟩ := (E c m e).ex
  exact op_own F (hr.mono (Nat.le_trans hj hk)) (hK ▸ at_) (hK ▸ isf) (hK ▸ bn) pins s σ H x y v u Q I rx ry h
/-- what == of two values is -/
def eqT (okI : Nat → Bool) (okT : Tag → Bool) (eqs : Nat → Option (List D → M D)) (x y : D) : M D := fun st => match x with
  | .obj c _ => match eqs c with
    | some m => if ((tagD okI y).any okT) = true then (noEr (m [x, y] st)).bind fun d st3 => match d with
      | .bl k => .ok (.bl k) st3
      | _ => .bad
      else .bad
    | none => .bad
  | x => ret? (dEq x y) st
def mEqT (okI : Nat → Bool) (okT : Tag → Bool) (eqs : Nat → Option (List D → M D)) (ma mb : ME) : ME := fun env st => (ma env st).bind fun x st1 => (mb env st1).bind fun y => eqT okI okT eqs x y
section
variable {G : Glb} {X : Cx} {W : WX} {O : Ow} {pos : Pos} {a b : Expr} {ma mb : ME} {k kk : Nat} {okI : Nat → Bool} {okT : Tag → Bool} {eqs : Nat → Option (List D → M D)}
theorem eqT_go (c : XC kk G X W) (T : ∀ c, okI c = true → InsT G c) (E : ∀ c m, eqs c = some m → EqAt X.prog X.w G X.K X.mg X.base k okT c m)
    {ad : List Addr} {S H : Hp} {st : List D} {x y : V} {dx dy : D} {Q : VK} {er : Ex → List D → Prop} (su : Same S H) (so : StoOk G ad S st H) (rx : Rep G ad S x dx) (ry : Rep G ad S y dy) (h : wpR (eqT okI okT eqs dx dy st) (fun d st' => ∃ k, d = .bl k ∧ Post G ad S H d st' Q) er) :
    rOwnT G X.K eqs x y H Q ∨ rEqD X.K x y H Q := by
  by_cases ho : ∃ c fs, dx = .obj c fs
  · obtain ⟨cc, fs, rfl⟩ := ho
    have h : wpR (match eqs cc with
      | some m => if ((tagD okI dy).any okT) = true then (noEr (m [.obj cc fs, dy] st)).bind fun d st3 => match d with
        | .bl k => Res.ok (D.bl k) st3
        | _ => .bad
        else .bad
      | none => .bad) (fun d st' => ∃ k, d = .bl k ∧ Post G ad S H d st' Q) er := h
    cases em : eqs cc with
    | none => rw [em] at h; exact h.elim
    | some m =>
      rw [em] at h
      dsimp only at h
      split at h
      case isFalse => exact h.elim
      rename_i okt
      cases et : tagD okI dy with
      | none => rw [et] at okt; cases okt
      | some t =>
        rw [et] at okt
        have okt : okT t = true := okt
        cases rx with
        | obj h2 r2 =>
          rename_i aa dx vs
          refine .inl ⟨cc, m, em, aa, dx, vs, tagV G t, rfl, su _ _ h2, c.K ▸ tag_ok T su ry et, c.K ▸ (E cc m em).nf t okt, ⟨⟨S, H, ad⟩, _, st, rfl, rfl, su, so, .cons (.obj h2 r2) (.cons ry .nil), ?_⟩⟩
          have hk2 := wpR_bind h
          refine wpR_imp (wp_noEr hk2) (fun d st3 z => ?_) fun _ _ z => z
          intro v S3 H3 x3 su3 so3 r3
          cases r3 with
          | bl kq =>
            have z : ∃ k, D.bl kq = .bl k ∧ Post G ad S H (.bl kq) st3 Q := z
            obtain ⟨_, _, z⟩ := z
            exact ⟨⟨kq, rfl⟩, z (.bl kq) S3 H3 x3 su3 so3 (.bl kq)⟩
          | _ => exact z.elim
  · have hk' : wpR (ret? (dEq dx dy) st) (fun d st' => ∃ k, d = .bl k ∧ Post G ad S H d st' Q) er := by
      cases dx <;> first | exact h | exact absurd ⟨_, _, rfl⟩ ho
    obtain ⟨d, e1, k, _, q⟩ := wp_ret hk'
    exact .inr ((opd_eq c.K).go ad S H st x y dx dy d Q su so rx ry e1 q)
theorem eqT_bl {st : List D} {dx dy : D} {ok : D → List D → Prop} {er : Ex → List D → Prop} (h : wpR (eqT okI okT eqs dx dy st) ok er) : wpR (eqT okI okT eqs dx dy st) (fun d st' => ∃ k, d = .bl k ∧ ok d st') er := by
  cases e : eqT okI okT eqs dx dy st with
  | err x st1 => rw [e] at h; exact h
  | bad => rw [e] at h; exact h
  | ok d st1 =>
    rw [e] at h
    have h : ok d st1 := h
    suffices q : ∃ k, d = .bl k from (show ∃ k, d = .bl k ∧ ok d st1 from let ⟨k, hk⟩ := q; ⟨k, hk, h⟩)
    by_cases ho : ∃ c fs, dx = .obj c fs
    · obtain ⟨cc, fs, rfl⟩ := ho
      have e : (match eqs cc with
        | some m => if ((tagD okI dy).any okT) = true then (noEr (m [.obj cc fs, dy] st)).bind fun d st3 => match d with
          | .bl k => Res.ok (D.bl k) st3
          | _ => .bad
          else .bad
        | none => .bad) = .ok d st1 := e
      cases em : eqs cc with
      | none => rw [em] at e; cases e
      | some m =>
        rw [em] at e
        dsimp only at e
        split at e
        case isFalse => cases e
        cases e2 : noEr (m [.obj cc fs, dy] st) with
        | err x st2 => rw [e2] at e; cases e
        | bad => rw [e2] at e; cases e
        | ok d2 st2 =>
          rw [e2] at e
          have e : (match d2 with
            | .bl k => Res.ok (D.bl k) st2
            | _ => .bad) = .ok d st1 := e
          split at e
          · cases e; exact ⟨_, rfl⟩
          · cases e
    · have e' : ret? (dEq dx dy) st = .ok d st1 := by
        cases dx <;> first | exact e | exact absurd ⟨_, _, rfl⟩ ho
      unfold dEq at e'
      cases e3 : eqD dx dy with
      | none => rw [e3] at e'; cases e'
      | some b => rw [e3] at e'; cases e'; exact ⟨_, rfl⟩
theorem de_eqT (c : XC kk G X W) (T : ∀ c, okI c = true → InsT G c) (E : ∀ c m, eqs c = some m → EqAt X.prog X.w G X.K X.mg X.base k okT c m) (ha : DE G X W O a ma) (hb : DE G X W O b mb)
    (hk : k ≤ kk := by decide) (hm : behindInMarks .Eq b = false := by first | exact nomark _ | rfl) : DE G X W O (.Compare a [.Eq] [b] pos) (mEqT okI okT eqs ma mb) := by
  obtain ⟨ta, tb, pa, pb, w⟩ := two_parts (k := fun x y => eqT okI okT eqs x y) ha hb
  refine ⟨_, pe_cmpR (OpR.or (op_ownT c.K c.hr hk E) (op_eqD c.hr.units)) pa pb hm, fun b S env st σ H Q I h => w b S env st σ H _ (fun x y H2 => rOwnT G X.K eqs x y H2 Q ∨ rEqD X.K x y H2 Q) I h fun x y dx dy S' H' st' e I' rx ry hk => ?_⟩
  refine eqT_go c T E I'.sub I'.sto rx ry (wpR_imp (eqT_bl hk) (fun d st3 z => ?_) fun _ _ z => z)
  exact let ⟨k, e1, z⟩ := z; ⟨k, e1, Post.from_ e I'.sto z⟩
theorem dt_eqT (c : XC kk G X W) (T : ∀ c, okI c = true → InsT G c) (E : ∀ c m, eqs c = some m → EqAt X.prog X.w G X.K X.mg X.base k okT c m) (ha : DE G X W O a ma) (hb : DE G X W O b mb)
    (hk : k ≤ kk := by decide) (hm : behindInMarks .Eq b = false := by first | exact nomark _ | rfl) : DT G X W O (.Compare a [.Eq] [b] pos) (mTest (mEqT okI okT eqs ma mb)) := by
  obtain ⟨ta, pa, wa⟩ := ha.ex
  obtain ⟨tb, pb, wb⟩ := hb.ex
  refine ⟨_, pt_cmpR (OpR.or (op_ownT c.K c.hr hk E) (op_eqD c.hr.units)) pa pb hm, fun b S env st σ H Q I h => ?_⟩
  have h' := wpR_bind h
  refine wa b S env st σ H _ I (wpR_imp (wpR_bind h') (fun dx st1 h1 => ?_) fun _ _ z => z)
  intro x S1 H1 x1 su1 so1 r1
  have I1 := I.ext x1 su1 so1
  refine wb b S1 env st1 σ H1 _ I1 (wpR_imp (wpR_bind h1) (fun dy st2 h2 => ?_) fun _ _ z => z.from_ x1 so1)
  intro y S2 H2 x2 su2 so2 r2
  have h2 := eqT_bl h2
  refine eqT_go c T E su2 so2 (r1.mono x2.same) r2 (wpR_imp h2 (fun d st3 z => ?_) fun _ _ z => z)
  obtain ⟨kq, e1, q⟩ := z
  subst e1
  refine ⟨kq, rfl, ?_⟩
  intro v S3 H3 x3 su3 so3 r3
  cases r3
  exact ⟨_, rfl, q _ _ ((x1.trans so1 x2).trans so2 x3) su3 so3⟩
end
theorem all_cons {α : Type} {P : α → Prop} {a : α} {l : List α} (h : P a) (r : ∀ f, f ∈ l → P f) : ∀ f, f ∈ a :: l → P f := fun f hf => (List.mem_cons.mp hf).elim (fun e => e ▸ h) (r f)
theorem elem_all {α : Type} [BEq α] [LawfulBEq α] {P : α → Prop} {l : List α} (h : ∀ f, f ∈ l → P f) {f : α} (hf : l.elem f = true) : P f := h f (List.mem_of_elem_eq_true hf)
/-! ### facts, in k_is' words -/
theorem kitO_any {K : PySem.W.Frag} {n : String} {D : Addr} {b : Bool} (hc : PySem.W.isClsIn K D = true) (ht : PySem.W.typeIn K (.ref D) = some (.type "type")) (hs : PySem.W.subIn K (.type n) (.ref D) = some b) : PySem.W.kitOne K (.type n) (.ref D) = some b := by
  unfold PySem.W.kitOne PySem.W.kitCls
  have hc' : (PySem.W.clsIn K D).isSome = true := hc
  split
  · rename_i e
    have e' : Value.type n = .ref D := by simpa using e
    cases e'
  · simp [hc', ht, hs]
end DL

/-! DL, 21st part: enumerate of a tuple. -/
namespace DL
open PySem PySem.Spec PyProof.Rows L2
theorem meets_enumerate_new1 {v : Value} {o : Obj} {H : Heap → Prop} (B : Begins v o H) :
    Meets (Builtin.«enumerate.__new__» ⟨[.type "enumerate", v], []⟩) (fun _ R s => H s.heap ∧
      R (.ok (.ret (.ref (s.heap.push o).objs.size))) { s with heap := (s.heap.push o).push { cls := .type "enumerate", data := .fields #[.none, .bool false, .ref s.heap.objs.size, rawInt 0, .none, .none] } }) :=
  .of_wp fun prog w A R s h => by
    obtain ⟨hp, g, d, tk, os⟩ := s; obtain ⟨h1, h⟩ := h
    have hsub := sub_enumerate
    have q1 : ∀ {A' : Around} {E : Value → Shared → Prop} {Q : Value → Shared → Prop}, Q (.ref hp.objs.size) ⟨hp.push o, g, d, tk, os⟩ → wpAny (model prog w) A' (pyIter v) Q E ⟨hp, g, d, tk, os⟩ :=
      fun q => B.iter prog w _ _ ⟨hp, g, d, tk, os⟩ _ h1 q
    wp_walk using q1
    refine wpAny_stack_any fun st => wpAny_pure ?_
    split
    · rename_i c _ _ _ _ _
      cases (c == Value.type "enumerate")
      · wp_walk using q1
        exact ⟨_, rfl, h⟩
      · wp_walk using q1
        exact ⟨_, rfl, h⟩
    · wp_walk using q1
      exact ⟨_, rfl, h⟩
section
variable {prog : Program} {w : World} {A : Around} {E : Value → Shared → Prop} {s : Shared}
theorem enum_begins1 {v : Value} {o : Obj} {H : Heap → Prop} {Q : Value → Shared → Prop} (B : Begins v o H) (h1 : H s.heap)
    (h : ∀ h', IsEnum h' (s.heap.objs.size + 1) s.heap.objs.size 0 .none → h'.get? s.heap.objs.size = some o → h'.objs.size = s.heap.objs.size + 2 →
      (∀ b o, s.heap.get? b = some o → h'.get? b = some o) → Q (.ref (s.heap.objs.size + 1)) { s with heap := h' }) :
    wpAny (model prog w) A (call (.type "enumerate") [v]) Q E s := by
  refine callType_new F.called_enumerate (by decide) (F.typeCall_enumerate_1 _) (F.newCall_enumerate_1 _) (fun obj => F.args_object_init_2 obj _) F.entry_enumerate_new
    (meets_enumerate_new1 B) ⟨h1, ?_⟩
  have hz : (s.heap.push o).objs.size = s.heap.objs.size + 1 := Heap.size_push ..
  show _ ∧ _
  rw [hz]
  have he : IsEnum ((s.heap.push o).push { cls := .type "enumerate", data := .fields #[.none, .bool false, .ref s.heap.objs.size, rawInt 0, .none, .none] }) (s.heap.objs.size + 1) s.heap.objs.size 0 .none := by
    have := Heap.get?_push_size (s.heap.push o)
      (o := { cls := .type "enumerate", data := .fields #[.none, .bool false, .ref s.heap.objs.size, rawInt 0, .none, .none] }) rfl
    rw [hz] at this; exact this
  refine ⟨⟨_, he, rfl⟩, h _ he (Heap.get?_push_of_some _ (Heap.get?_push_size _ B.free)) (by rw [Heap.size_push, hz]) fun b o x => Heap.get?_push_of_some _ (Heap.get?_push_of_some _ x)⟩
end
def IteT (K : PySem.W.Frag) (a : Addr) : It :=
  ⟨fun i H => ∃ (xs : List V) (x : V), SqT K H a xs ∧ xs[i]? = some x, fun i H v H' => ∃ T x, v = .ref T ∧ H T = none ∧ H' = upd H T (.tup [.int (i : Nat), x]) ∧ ∀ xs, SqT K H a xs → xs[i]? = some x, fun i H => ∃ xs : List V, SqT K H a xs ∧ xs.length = i⟩
theorem turn_enumT {P : Program} {w : World} {K : PySem.W.Frag} {elts : List Expr} {kk : Nat} {tpos : Pos} (a e it : Addr) (hae : a ≠ e) (hai : a ≠ it) :
    Turn P w K (.Tuple elts kk tpos) (IteT K a) [e, it] e (fun i h => (∃ old, IsEnum h e it ((i : Nat) : Int) old) ∧ h.IsTupleIter it a i ∧ e ≠ it) where
  mem := by simp
  obj := fun i h st b hb => by
    obtain ⟨⟨old, he⟩, ⟨o, ho, hc, hd⟩, _⟩ := st
    have e' : b = e ∨ b = it := by simpa using hb
    rcases e' with z | z
    · rw [z]; exact ⟨_, he, fun v q => nomatch q⟩
    · rw [z]; exact ⟨o, ho, fun v q => by rw [hd] at q; cases q⟩
  keep := fun i h h' st k => let ⟨⟨old, he⟩, hi, hne⟩ := st; ⟨⟨old, k e (by simp) _ he⟩, hi.at fun o q => k it (by simp) o q, hne⟩
  item := by
    intro X hP hw hK hc i pins s σ H E I hf st hg
    subst hP hw hK
    obtain ⟨⟨old, he⟩, hit, hne⟩ := st
    obtain ⟨xs, x, hq, hx⟩ := hg
    obtain ⟨its, rv, p, hz⟩ := I.tuple hq
    have p : s.heap.IsTuple a its.toArray := p
    obtain ⟨u, hu, ru⟩ := rv.get hx
    have hel : e < s.heap.objs.size := Heap.lt_size he
    have hil : it < s.heap.objs.size := by obtain ⟨_, q, _⟩ := hit; exact Heap.lt_size q
    have hlt : i < its.toArray.size := by
      rw [List.size_toArray]
      exact (List.getElem?_eq_some_iff.mp hu).1
    have D := Draws.tuple (prog := X.prog) (w := X.w) (A := X.A.in1) (I.ok.hd hc) it a hai its.toArray
    refine wpAny_pyNext_enum_itemD D he ⟨hit, p⟩ hlt hne (by simp [hne, Ne.symm hae]) fun x' h' tk hP ho hs' hT hsz hk => ?_
    have ex : x' = u := by
      have : its.toArray[i]? = some u := by simpa using hu
      rw [this] at hP
      exact (Option.some.inj hP).symm
    subst ex
    refine ⟨_, rfl, wpAny_letOwnedTupleGo_enum (s := { s with heap := h', toks := tk + 1 }) ho fun h'' he' sb => ?_⟩
    have hT2 : h''.get? s.heap.objs.size = some { cls := .type "tuple", data := .seq #[.int i tk, x'] } := (sb.2 _ (Nat.ne_of_gt hel)).trans hT
    have new : ObjOk X.prog X.w (upd H s.heap.objs.size (.tup [.int (i : Nat), x])) h'' s.heap.objs.size (.tup [.int (i : Nat), x]) :=
      ⟨by show 2 ≤ sizeLine; decide, [.int i tk, x'], .cons ⟨_, rfl⟩ (.cons ru .nil), ⟨_, hT2, rfl, _, rfl⟩⟩
    have I1 : Inv X pins σ (upd H s.heap.objs.size (.tup [.int (i : Nat), x])) { s with heap := h'', toks := tk + 1 } :=
      I.turnedNew (ch := [e, it]) (fun b ob hb q => (sb.2 b (fun z => hb (by simp [z]))).trans (hk b ob (fun z => hb (by simp [z])) (fun z => hb (by simp [z])) q)) hf (Nat.le_refl _) new
    refine ⟨.ref s.heap.objs.size, _, I1, rfl, ⟨_, x, rfl, I.hok.fresh (Nat.le_refl _), rfl, fun ys hy => by rw [I.tuple_inj hy hq]; exact hx⟩, ⟨⟨x', ?_⟩, hs'.1.at fun o q => (sb.2 it (Ne.symm hne)).trans q, hne⟩, fun b hb => ?_⟩
    · have e1 : ((i + 1 : Nat) : Int) = (i : Int) + 1 := by omega
      rw [e1]; exact he'
    · have hb' : b < s.heap.objs.size := by
        have e' : b = e ∨ b = it := by simpa using hb
        rcases e' with z | z
        · rw [z]; exact hel
        · rw [z]; exact hil
      rw [upd_ne (Nat.ne_of_lt hb')]
      exact (hf b hb).1
  done := by
    intro X hP hw hK hc i pins s σ H E I hf st hg
    subst hP hw hK
    obtain ⟨⟨old, he⟩, hit, hne⟩ := st
    obtain ⟨xs, hq, hx⟩ := hg
    obtain ⟨its, rv, p, hz⟩ := I.tuple hq
    have p : s.heap.IsTuple a its.toArray := p
    obtain ⟨f0, f1, f2, f3, f4, f5⟩ := hf it (by simp)
    have hl := rv.length
    have D := Draws.tuple (prog := X.prog) (w := X.w) (A := X.A.in1) (I.ok.hd hc) it a hai its.toArray
    have en : its.toArray.size = i := by rw [List.size_toArray, ← hl, hx]
    exact wpAny_pyNext_enum_endD D he ⟨by rw [en]; exact hit, p⟩ fun h' eb => ⟨rfl, I.turned (t' := s.toks) (fun b o hb q => eb b o hb q) f0 f1 f3 f4 f5⟩
  self := fun A i s Q E st h => let ⟨⟨_, he⟩, _⟩ := st; wpAny_pyIter_enum he h
def iEnumA (K : PySem.W.Frag) (ta : TA) : TI := fun σ H R => ta σ H fun vs H1 => ∃ a, vs = [.ref a] ∧ ((∃ xs, SqL K H1 a xs ∧ R (Ite K a) H1) ∨ ∃ xs, SqT K H1 a xs ∧ R (IteT K a) H1)
theorem pi_enumA {X : Cx} {e : Expr} {ta : TA} {p pos tpos : Pos} {elts : List Expr} {kk : Nat} (hg : Gl X "enumerate") (hm : X.mg "enumerate" = none) (ha : PA X [e] ta) (hs : starEach [e] X.env = [(false, eval e X.env)] := by rfl) :
    PI X (.Tuple elts kk tpos) (.Call (.Name "enumerate" p) [e] [] pos) (iEnumA X.K ta) := by
  refine ⟨fun pins s σ H R I h => ?_⟩
  refine Call_ (ld_blt I hg hm boot_enumerate (PyProof.Rows.callWith_type1 (thn (ha.run pos pins s σ H _ I h) fun us s1 ⟨vs, H1, I1, r1, q1⟩ => ?_) hs rfl))
  obtain ⟨a, ex, q1⟩ := q1
  subst ex
  cases r1 with
  | cons r rr =>
    cases rr
    cases r
    have fp : ∀ b ∈ [s1.heap.objs.size + 1, s1.heap.objs.size], FpOk X pins H1 b := fun b hb => by
      have e' : b = s1.heap.objs.size + 1 ∨ b = s1.heap.objs.size := by simpa using hb
      have hle : s1.heap.objs.size ≤ b := by
        rcases e' with z | z
        · rw [z]; exact Nat.le_add_right _ _
        · rw [z]; exact Nat.le_refl _
      exact I1.fpOk hle (I1.hok.fresh hle)
    rcases q1 with ⟨xs, hq, q⟩ | ⟨xs, hq, q⟩
    · obtain ⟨its, rv, p', hz⟩ := I1.list hq
      refine call_enumerate_list p'.isList fun h' he hit hsz hk => wpAny_pyIter_enum he ?_
      have I2 : Inv X pins σ H1 { s1 with heap := h' } := I1.kept (t' := s1.toks) hk
      exact ⟨s1.heap.objs.size + 1, [s1.heap.objs.size + 1, s1.heap.objs.size], _, _, H1, rfl, I2, turn_enum a (s1.heap.objs.size + 1) s1.heap.objs.size, ⟨⟨.none, he⟩, hit, Nat.succ_ne_self _⟩, fp, q⟩
    · obtain ⟨its, rv, p', hz⟩ := I1.tuple hq
      have p' : s1.heap.IsTuple a its.toArray := p'
      have hal : a < s1.heap.objs.size := by obtain ⟨_, q, _⟩ := p'; exact Heap.lt_size q
      refine enum_begins1 (begins_tuple a its.toArray) p' fun h' he hit hsz hk => wpAny_pyIter_enum he ?_
      have I2 : Inv X pins σ H1 { s1 with heap := h' } := I1.kept (t' := s1.toks) hk
      exact ⟨s1.heap.objs.size + 1, [s1.heap.objs.size + 1, s1.heap.objs.size], _, _, H1, rfl, I2, turn_enumT a (s1.heap.objs.size + 1) s1.heap.objs.size (Nat.ne_of_lt (Nat.lt_succ_of_lt hal)) (Nat.ne_of_lt hal), ⟨⟨.none, he⟩, ⟨_, hit, rfl, rfl⟩, Nat.succ_ne_self _⟩, fp, q⟩
section
variable {G : Glb} {ad : List Addr} {S : Hp}
theorem iter_enumT {a : Addr} {vs : List V} {ds : List D} (h : SqT G.K S a vs) (r : Reps G ad S vs ds) : IterOK G ad S (IteT G.K a) (numbered ds) := by
  intro i S' H' e su
  have h' := Same.sqT (e.trans su) h
  refine ⟨fun hi => ⟨vs, h', by rw [r.len, hi]; simp [numbered]⟩, fun d hd => ?_⟩
  obtain ⟨d0, hd0, rfl⟩ := numbered_get hd
  obtain ⟨v, hv, rv⟩ := r.get hd0
  refine ⟨⟨vs, v, h', hv⟩, fun x H'' ⟨T, y, e1, hT, e2, e3⟩ => ?_⟩
  subst e1; subst e2
  have e4 : v = y := Option.some.inj (hv.symm.trans (e3 vs h'))
  subst e4
  exact pair_new su hT (.int _) (rv.mono e)
end
def enumA? : List D → M (List D) := fun ds st => match ds with
  | [.lst ds] => .ok (numbered ds) st
  | [.rol ds] => .ok (numbered ds) st
  | [.tup ds] => .ok (numbered ds) st
  | _ => .bad
section
variable {G : Glb} {X : Cx} {W : WX} {O : Ow} {p pos : Pos} {a : Expr} {ma : MA}
theorem di_enumA {elts : List Expr} {kk : Nat} {tpos : Pos} (hK : X.K = G.K) (hm : X.mg "enumerate" = none) (ha : DA G X W O [a] ma) (hg : Gl X "enumerate" := by rfl) (hs : starEach [a] X.env = [(false, eval a X.env)] := by rfl) :
    DIt G X W O (.Tuple elts kk tpos) (.Call (.Name "enumerate" p) [a] [] pos) (mThenA ma enumA?) := by
  obtain ⟨t, pa, w⟩ := ha.ex
  refine ⟨_, pi_enumA hg hm pa hs, fun b S env st σ H R I h => args_walk (es := [a]) w I h fun vs ds S1 H1 st1 x1 su1 so1 r1 h1 => ?_⟩
  unfold enumA? at h1
  split at h1
  · cases r1 with
    | cons r rr =>
      cases rr
      cases r with
      | lst h2 h3 => exact ⟨_, rfl, .inl ⟨_, SqL.of (su1 _ _ h2), hK ▸ h1 _ _ _ x1 su1 so1 (iter_enum (SqL.of h2) h3)⟩⟩
  · cases r1 with
    | cons r rr =>
      cases rr
      cases r with
      | rol h2 h3 => exact ⟨_, rfl, .inl ⟨_, hK ▸ su1.seq h2, hK ▸ h1 _ _ _ x1 su1 so1 (iter_enum h2 h3)⟩⟩
  · cases r1 with
    | cons r rr =>
      cases rr
      cases r with
      | tup h2 h3 => exact ⟨_, rfl, .inr ⟨_, hK ▸ Same.sqT su1 h2.sqT, hK ▸ h1 _ _ _ x1 su1 so1 (iter_enumT h2.sqT h3)⟩⟩
  · exact h1.elim
end
end DL

/-! DL, 22nd part: a chained comparison as a test, lists joined and owned, xs[::-1] of a tuple, sum of a tuple. -/
namespace DL
open PySem PySem.Spec PyProof.Rows L2
theorem self_hv {x dx : Addr} {vs : List Nat} (h : 0 ∉ vs) : ∀ v ∈ vs, (selfO x dx).has v = false := fun v hv => by
  have : v ≠ 0 := fun z => h (z ▸ hv)
  exact has_mk (fun z => by cases z) (fun z => by cases z) (fun z => this (Option.some.inj z).symm)
section
variable {G : Glb} {X : Cx} {W : WX} {O : Ow} {pos : Pos} {a b c : Expr} {ma mb mc : ME} {op op' : CmpOp} {r r' : R2} {f g : D → D → Option D}
theorem dt_chain (ho : OpR X (compareOp op) r) (hf : OpD G r f) (ho' : OpR X (compareOp op') r') (hg : OpD G r' g) (ha : DE G X W O a ma) (hb : DE G X W O b mb) (hc : DE G X W O c mc) (hm : lastMarks [op, op'] [b, c] = false := by with_unfolding_all rfl) : DT G X W O (.Compare a [op, op'] [b, c] pos) (mTest (mChain f g ma mb mc)) := by
  obtain ⟨ta, pa, wa⟩ := ha.ex
  obtain ⟨tb, pb, wb⟩ := hb.ex
  obtain ⟨tc, pc, wc⟩ := hc.ex
  refine ⟨_, pt_chain ho ho' pa pb pc hm, fun b S env st σ H Q I h => ?_⟩
  have h' := wpR_bind h
  refine wa b S env st σ H _ I (wpR_imp (wpR_bind h') (fun dx st1 h1 => ?_) fun _ _ z => z)
  intro x S1 H1 x1 su1 so1 r1
  have I1 := I.ext x1 su1 so1
  refine wb b S1 env st1 σ H1 _ I1 (wpR_imp (wpR_bind h1) (fun dy st2 h2 => ?_) fun _ _ z => z.from_ x1 so1)
  intro y S2 H2 x2 su2 so2 r2
  have x12 := x1.trans so1 x2
  have I2 := I1.ext x2 su2 so2
  cases ef : f dx dy with
  | none => rw [ef] at h2; exact h2.elim
  | some d =>
    rw [ef] at h2
    refine hf.go b.ad S2 H2 st2 x y dx dy d _ su2 so2 (r1.mono x2.same) r2 ef ?_
    intro v S3 H3 x3 su3 so3 r3
    have x13 := x12.trans so2 x3
    have I3 := I2.ext x3 su3 so3
    cases r3 with
    | bl k =>
      refine ⟨k, rfl, ?_⟩
      cases k with
      | false => exact ⟨false, rfl, h2 S3 H3 x13 su3 so3⟩
      | true =>
        have h2 : wpR ((mc env st2).bind fun z => ret? (g dy z)) _ _ := h2
        refine wc b S3 env st2 σ H3 _ I3 (wpR_imp (wpR_bind h2) (fun dz st3 h3 => ?_) fun _ _ z => z.from_ x13 so3)
        intro z S4 H4 x4 su4 so4 r4
        obtain ⟨d', e1, q⟩ := wp_ret h3
        refine hg.go b.ad S4 H4 st3 y z dy dz d' _ su4 so4 ((r2.mono x3.same).mono x4.same) r4 e1 fun v S5 H5 x5 su5 so5 r5 => ?_
        cases r5 <;> first | exact q.elim | exact ⟨_, rfl, q _ _ ((x13.trans so3 x4).trans so4 x5) su5 so5⟩
    | _ => exact h2.elim
/-- a + b, lists, as a new list -/
def cat? (x y : D) : M (List D) := fun st => match x, y with
  | .lst xs, .lst ys => if xs.length + ys.length ≤ sizeLine then .ok (xs ++ ys) st else .bad
  | _, _ => .bad
def mCat (ma mb : ME) : MA := fun env st => (ma env st).bind fun x st1 => (mb env st1).bind fun y => cat? x y
theorem df_cat (ha : DE G X W O a ma) (hb : DE G X W O b mb) : DF G X W O (.BinOp a .Add b pos) (mCat ma mb) := by
  obtain ⟨ta, tb, pa, pb, w⟩ := two_parts (k := fun x y => cat? x y) ha hb
  refine ⟨_, pe_op op_cat pa pb, fun b S env st σ H Q I h => w b S env st σ H (fun ds st' => PostF G b.ad S H ds st' Q) (fun x y H2 => rCat x y H2 Q) I h fun x y dx dy S' H' st' e I' rx ry hk => ?_⟩
  unfold cat? at hk
  split at hk
  · split at hk
    · rename_i hl
      cases rx with
      | lst h1 r1 =>
        rename_i p vs
        cases ry with
        | lst h2 r2 =>
          rename_i q ws
          have hk : PostF G b.ad S H _ st' Q := hk
          exact ⟨p, q, vs, ws, rfl, rfl, I'.sub _ _ h1, I'.sub _ _ h2, by rw [r1.len, r2.len]; exact hl, fun l hl' => hk l _ S' H' e I'.sub I'.sto hl' (r1.append r2)⟩
    · exact hk.elim
  · exact hk.elim
end
section
variable {P : Program} {w : World} {K : PySem.W.Frag} {mg : Str → Option Value} {base : Heap}
/-- a block at whose end True may be told whatever the heap is -/
structure DSsL (G : Glb) (X : Cx) (W : WX) (O : Ow) (s : List Stmt) (m : MS) : Prop where
  ex : ∃ t, PSs X s t ∧ ∀ (b : Act) S env st σ H D, (∀ H, D.rt (.bl true) H) → DI G b O S env st σ H → PostS G b {} (fun _ => True) W {} D S (m env st) → t D σ H
theorem dssL_of {G : Glb} {X : Cx} {W : WX} {O : Ow} {s : List Stmt} {m : MS} (h : DSs G X W {} (fun _ => True) O s {} m) : DSsL G X W O s m := let ⟨t, p, w⟩ := h.ex; ⟨t, p, fun b S env st σ H D _ I q => w b S env st σ H D I q⟩
theorem dssL_cons {G : Glb} {X : Cx} {W : WX} {O O1 : Ow} {s : Stmt} {rest : List Stmt} {m n : MS} (h1 : DS G X W {} (fun _ => True) O s O1 m) (h2 : DSsL G X W O1 rest n) : DSsL G X W O (s :: rest) (mSeq m n) := by
  obtain ⟨t, p, w⟩ := h1.ex
  obtain ⟨u, q, w2⟩ := h2.ex
  refine ⟨_, pss_cons p q, fun b S env st σ H D hD I h => w b S env st σ H _ I ?_⟩
  unfold mSeq at h
  cases e : m env st with
  | nx env1 st1 =>
    rw [e] at h
    intro S1 σ1 H1 x1 I1
    exact w2 b S1 env1 st1 σ1 H1 D hD I1 (h.from_ x1)
  | rt d st1 => rw [e] at h; exact h
  | bk env1 st1 => rw [e] at h; exact h
  | ct env1 st1 => rw [e] at h; exact h
  | er x env1 st1 => rw [e] at h; exact h
  | bad => rw [e] at h; exact h
theorem dssL_freeze {G : Glb} {X : Cx} {W : WX} {O : Ow} {rest : List Stmt} {m : MS} (i : Nat) (h : DSsL G X W (O.less i) rest m) (hx : O.exi ≠ some i := by first | decide | exact of_decide_eq_true rfl) : DSsL G X W O rest m := by
  obtain ⟨t, p, w⟩ := h.ex
  refine ⟨t, p, fun b S env st σ H D hD I h => ?_⟩
  obtain ⟨S', sm, I'⟩ := I.freeze i hx
  exact w b S' env st σ H D hD I' (h.from_ sm)
/-- the law: its script made to a hand (by fH), then the rest over that cell -/
theorem lawD2 {G : Glb} {x y : Str} {st : Stmt} {f fH : Addr} {fd fdH : FuncData} {N : List Str} {k j : Nat} {rest : List Stmt} {m : MS} {mH : List D → M D} {p1 p2 p3 p4 p5 : Pos} (F : Fun K "law" "law" st f fd) (Sc : FnScope N ["_law_script"] (defScope st)) (hK : K = G.K)
    (hN1 : N[1]? = some x) (hl : Loc (defScope st) x) (hl0 : (defScope st).names.lookup ("_law_script" : Str) = some .local) (hy : (defScope st).names.lookup y = some .globalImplicit)
    (hbd : defBody st = .Assign [.Name x p1] (.Call (.Name y p2) [.Name "_law_script" p3] [] p4) p5 :: rest)
    (FH : FnOk P w K mg base (L2.CX P w) j fH fdH ["_law_script"] (spD G 1 mH)) (hmg : mg y = some (.ref fH)) (hkp : PySem.W.keepIn K (.ref fH) = true) (hb : Binds K fdH ["_law_script"] []) (htb : G.tb = []) (hjk : j ≤ k)
    (hH : ∀ (ns : List Int), ns.length ≤ 63 → ∃ cells t, mH [.rol (ns.map .int)] [] = .ok (handD cells 0 0 t) [] ∧
      ∃ st', m (some (.rol (ns.map .int)) :: some (.tok 0) :: List.replicate (N.length - 2) none) [handD cells 0 0 t] = .rt (.bl true) st')
    (hrest : ∀ (cdv : Value) (A : Around) (outer : List Env) (s : Shared) (H : Hp) (E : XK), XC k G (cxOf (L2.CX P w) P w K mg base N "law" (defScope st) f cdv A outer s H E) (fun cls d _ H' => E cls d H') → XT (cxOf (L2.CX P w) P w K mg base N "law" (defScope st) f cdv A outer s H E) →
      DSsL G (cxOf (L2.CX P w) P w K mg base N "law" (defScope st) f cdv A outer s H E) (fun cls d _ H' => E cls d H') {} rest m)
    (hfx : ∀ (cdv : Value) (A : Around) (outer : List Env) (s : Shared) (H : Hp) (E : XK), (cxOf (L2.CX P w) P w K mg base N "law" (defScope st) f cdv A outer s H E).fn x = true ∨ (defScope st).names.lookup x = some .local) (hdy : (y == ("__debug__" : Str)) = false := by decide) (hnl : 2 ≤ N.length := by decide) :
    FnOk P w K mg base (L2.CX P w) (k + 1) f fd ["_law_script"] (spLaw K) := by
  refine F.okX Sc (fun vs H Q E h => ?_) fun cdv A outer s H vs Q E hr h => ?_
  · obtain ⟨_, _, rfl, _⟩ := h
    rfl
  · obtain ⟨a, ns, rfl, hS, hns, hO, hQ⟩ := h
    have xc : XC k G (cxOf (L2.CX P w) P w K mg base N "law" (defScope st) f cdv A outer s H E) (fun cls d _ H' => E cls d H') :=
      { tk := takes_of rfl rfl rfl rfl, po := passes_of rfl, calm := rfl, hr := hr, K := hK }
    obtain ⟨t, p, wt⟩ := (hrest cdv A outer s H E xc ⟨rfl, rfl⟩).ex
    rw [hbd]
    have hN0 : N[0]? = some ("_law_script" : Str) := by
      have e := Sc.pre
      cases N with
      | nil => simp at hnl
      | cons n N => simp at e; simp [e]
    obtain ⟨cells, tt, eH, st', em⟩ := hH ns hns
    refine ⟨_, pss_cons (ps_set (i := 1) Sc.nd hN1 hl (pe_callS FH (hr.mono hjk) hy hmg hkp hb (fun σ => passAt xc.tk σ) (pa_cons (pe_var (i := 0) hN0 (.inl hl0)) pa_nil) hdy) (by rfl) (hfx cdv A outer s H E)) p, ?_⟩
    have e0 : start N [V.ref a] = some (V.ref a) :: List.replicate (N.length - 1) none := rfl
    show tAsg (tCallS (spD G 1 mH) (WE fun cls d _ H' => E cls d H') (tCons (tVar 0) tNil)) (gName 1) _ (start N [V.ref a]) H
    refine ⟨.ref a, rfl, ?_⟩
    have hSub : Same H H := .refl _
    refine ⟨⟨H, H, []⟩, [.rol (ns.map .int)], [], rfl, rfl, hSub, ⟨rfl, .nil, fun n b hn => by simp at hn, fun p hp => by rw [htb] at hp; cases hp⟩, .cons (.rol (hK ▸ hS) (reps_ints ns)) .nil, ?_⟩
    rw [eH]
    intro v S' H' x1 su1 so1 r1
    -- the hand is a cell from now on
    cases r1 with
    | lst h1 r1 =>
      rename_i pa vs
      cases r1 with
      | cons r1 rr =>
        cases r1 with
        | lst hc rc =>
          rename_i pc ws
          have ew : ws = cells.map V.int := ints_of rc
          subst ew
          have hne : pc ≠ pa := fun z => by
            subst z
            rw [h1] at hc
            have := Option.some.inj hc
            cases cells with
            | nil => cases this
            | cons c cells => cases this
          have hHpa : H pa = none := by
            rcases x1.new pa _ h1 with z | z
            · replace z : H pa = some (HO.lst _) := z
              rcases hO pa with q | ⟨_, _, q⟩
              · exact q
              · rw [q] at z; cases z
            · exact z
          let S2 : Hp := fun c => if c = pa then none else S' c
          have hS2 : ∀ c, c ≠ pa → S2 c = S' c := fun c hc => if_neg hc
          have hS2p : S2 pa = none := if_pos rfl
          have sub2 : Same S2 H' := fun c o ho => by
            by_cases hcp : c = pa
            · subst hcp; rw [hS2p] at ho; cases ho
            · rw [hS2 c hcp] at ho; exact su1 _ _ ho
          have same2 : Same H S2 := fun c o ho => by
            rw [hS2 c (ne_of_none ho hHpa)]
            exact x1.same _ _ ho
          have rc2 : Rep G [pa] S2 (.ref pc) (.lst (cells.map .int)) := .lst (by rw [hS2 pc hne]; exact hc) (reps_ints cells)
          cases rr with
          | cons r2 rr =>
            cases r2
            cases rr with
            | cons r3 rr =>
              cases r3
              cases rr with
              | cons r4 rr =>
                cases r4
                cases rr
                have so2 : StoOk G [pa] S2 [handD cells 0 0 tt] H' := by
                  refine ⟨rfl, by simp, fun n b hb => ?_, fun p hp => by rw [htb] at hp; cases hp⟩
                  cases n with
                  | zero =>
                    have e : pa = b := by simpa using hb
                    subst e
                    exact ⟨hS2p, _, _, rfl, su1 _ _ h1, .cons rc2 (.cons (.int _) (.cons (.int _) (.cons (.int _) .nil)))⟩
                  | succ n => simp at hb
                have I : DI G ⟨S2, H', [pa]⟩ {} S2 ([D.rol (ns.map .int), D.tok 0].map some ++ List.replicate (N.length - 2) none) [handD cells 0 0 tt] ([V.ref a, V.ref pa].map some ++ List.replicate (N.length - 2) none) H' :=
                  DI.start sub2 so2 (.cons (.rol (same2.seq (hK ▸ hS)) (reps_ints ns)) (.cons (.tok rfl) .nil))
                have eσ : (start N [V.ref a]).set 1 (some (V.ref pa)) = [V.ref a, V.ref pa].map some ++ List.replicate (N.length - 2) none := by
                  obtain ⟨l, hl⟩ : ∃ l, N.length = l + 2 := ⟨N.length - 2, by omega⟩
                  show (some (V.ref a) :: List.replicate (N.length - 1) none).set 1 (some (V.ref pa)) = _
                  rw [hl]
                  rfl
                refine wt ⟨S2, H', [pa]⟩ S2 _ _ _ H' _ hQ (eσ ▸ I) ?_
                have em' : m ([D.rol (ns.map .int), D.tok 0].map some ++ List.replicate (N.length - 2) none) [handD cells 0 0 tt] = .rt (.bl true) st' := em
                rw [em']
                intro v S3 H3 _ _ _ r3
                cases r3
                exact hQ H3
end
end DL

/-! DL, 23rd part: xs[::-1] of a list or a tuple, sum of a tuple. -/
namespace HT
open PySem PySem.Spec PyProof.Rows
section
variable {prog : Program} {w : World} {A : Around} {E : Value → Shared → Prop} {s : Shared}
theorem adjust_rev (n : Nat) : Builtin.Slice.sliceAdjust none none (-1) (n : Int) = ((n : Int) - 1, -1) := by
  unfold Builtin.Slice.sliceAdjust
  simp
theorem places_rev (n : Nat) : Builtin.Slice.slicePlaces ((n : Int) - 1) (-1) (-1) = n := by
  unfold Builtin.Slice.slicePlaces
  by_cases h : (n : Int) - 1 > -1
  · simp only [show ¬ ((-1 : Int) > 0) by decide, if_false, h, if_true, show (- -1 : Int) = 1 by decide, Int.ediv_one]
    omega
  · simp only [show ¬ ((-1 : Int) > 0) by decide, if_false, h]
    omega
theorem sliceApplied_rev {sl : Addr} {vl vu vs : Value} {n : Nat} {Q : Int × Int × Nat → Shared → Prop} (hs : s.heap.IsSliceOf sl vl vu vs) (pl : IsPart vl none) (pu : IsPart vu none) (ps : IsPart vs (some (-1)))
    (h : Q ((n : Int) - 1, -1, n) s) : wpAny (model prog w) A (Builtin.Slice.sliceApplied (.ref sl) (pure (n : Int))) Q E s := by
  obtain ⟨os, hos, hcs, hds⟩ := id hs
  unfold Builtin.Slice.sliceApplied Builtin.Slice.sliceFields
  refine wpAny_bind (wpAny_bind (wpAny_field hos hds (x := vl) rfl (wpAny_bind (wpAny_field hos hds (x := vu) rfl (wpAny_bind (wpAny_field hos hds (x := vs) rfl (wpAny_pure ?_)))))))
  refine wpAny_bind (slicePart_ ps ?_)
  show wpAny _ _ (if ((-1 : Int) == 0) = true then _ else _) _ _ s
  rw [if_neg (by decide)]
  refine wpAny_bind (slicePart_ pl (wpAny_bind (slicePart_ pu (wpAny_bind (wpAny_pure ?_)))))
  show wpAny _ _ (match Builtin.Slice.sliceAdjust none none (-1) (n : Int) with | (lo, hi) => pure (lo, (-1 : Int), Builtin.Slice.slicePlaces lo hi (-1))) _ _ s
  rw [adjust_rev n]
  show wpAny _ _ (pure ((n : Int) - 1, (-1 : Int), Builtin.Slice.slicePlaces ((n : Int) - 1) (-1) (-1))) _ _ s
  rw [places_rev]
  exact wpAny_pure h
theorem pick_rev (xs : Array Value) : ((List.range xs.size).filterMap fun (m : Nat) => xs[(((xs.size : Int) - 1) + (m : Int) * (-1)).toNat]?).toArray = xs.toList.reverse.toArray := by
  congr 1
  have e : ∀ n, n ≤ xs.size → (List.range n).filterMap (fun (m : Nat) => xs[(((xs.size : Int) - 1) + (m : Int) * (-1)).toNat]?) = xs.toList.reverse.take n := by
    intro n
    induction n with
    | zero => intro _; rfl
    | succ n ih =>
      intro hn
      rw [List.range_succ, List.filterMap_append, ih (by omega), List.take_succ]
      have e1 : (((xs.size : Int) - 1) + (n : Int) * (-1)).toNat = xs.size - 1 - n := by omega
      have h2 : xs.size - 1 - n < xs.size := by omega
      have h3 : xs.toList.reverse[n]? = some (xs[xs.size - 1 - n]'h2) := by
        rw [List.getElem?_reverse (by rw [Array.length_toList]; exact hn)]
        simp [h2]
      rw [h3]
      simp only [List.filterMap_cons, List.filterMap_nil, e1, Array.getElem?_eq_getElem h2]
      rfl
  rw [e xs.size (Nat.le_refl _), List.take_of_length_le (by simp)]
theorem getItem_tuple_rev {t sl : Addr} {items : Array Value} {vl vu vs : Value} {Q : Value → Shared → Prop} (ht : IsTup s.heap t items) (hs : s.heap.IsSliceOf sl vl vu vs) (pl : IsPart vl none) (pu : IsPart vu none) (ps : IsPart vs (some (-1)))
    (h : Q (.ref s.heap.objs.size) { s with heap := s.heap.push { cls := .type "tuple", data := .seq items.toList.reverse.toArray } })
    (hsz : items.size ≤ sizeLine) : wpAny (model prog w) A (getItem (.ref t) (.ref sl)) Q E s := by
  have htake : sizeOk (.seq items.toList.reverse.toArray) := by
    show items.toList.reverse.toArray.size ≤ sizeLine
    rw [List.size_toArray, List.length_reverse, Array.length_toList]
    exact hsz
  obtain ⟨os, hos, hcs, hds⟩ := id hs
  have hTs : s.TypeIs (.ref sl) "slice" := ⟨os, hos, hcs⟩
  unfold getItem
  try with_reducible refine wpAny_holding ?_
  first | refine wpAny_bind (wpAny_pure ?_) | skip
  refine wpAny_bind (wpAny_sequenceKey ht.typeIs (by decide) ?_)
  refine wpAny_bind (wpAny_callSpecial?_slot (name := Str.ofString "__getitem__") ht.typeIs PyProof.Rows.slot_tuple_getitem
    (wpAny_call_entry PyProof.Rows.slot_tuple_getitem ht.typeIs entry_tuple_getitem ?_ (args_tuple_getitem _ _)))
  show wpAny _ _ (Builtin.Tuple.tupleItemsOf (.ref t) >>= _) _ _ s
  refine wpAny_bind (tupleItemsOf_ ht ?_)
  refine wpAny_bind (wpAny_typeOf hTs ?_)
  rw [if_pos (by decide)]
  refine wpAny_bind (sliceApplied_rev hs pl pu ps ?_)
  have hno : ¬ ((((items.size : Int) - 1) == 0 && (-1 : Int) == 1 && items.size == items.size) = true) := by
    intro q
    rw [Bool.and_eq_true, Bool.and_eq_true] at q
    have q1 : (-1 : Int) = 1 := eq_of_beq q.1.2
    omega
  show wpAny _ _ (if ((((items.size : Int) - 1) == 0 && (-1 : Int) == 1 && items.size == items.size) = true) then _ else _) _ _ s
  rw [if_neg hno, pick_rev]
  first
    | exact wpAny_bind (m := Builtin.Tuple.tupleExact _) (wpAny_newObj_type (wpAny_pure ⟨_, rfl, wpAny_pure h⟩) htake)
    | exact wpAny_bind (m := Builtin.Tuple.tupleExact _) (wpAny_newObj_type (wpAny_bind (wpAny_pure (wpAny_pure ⟨_, rfl, wpAny_pure h⟩))) htake)
    | exact wpAny_bind (wpAny_bind (m := Builtin.Tuple.tupleExact _) (wpAny_newObj_type (wpAny_pure (wpAny_pure ⟨_, rfl, wpAny_pure h⟩)) htake))
    | exact wpAny_bind (wpAny_bind (m := Builtin.Tuple.tupleExact _) (wpAny_newObj_type (wpAny_pure ⟨_, rfl, wpAny_pure h⟩) htake))
end
end HT
namespace DL
open PySem PySem.Spec PyProof.Rows L2
section
variable {X : Cx}
def tRevA (K : PySem.W.Frag) (te : TE) : TE := fun σ H Q => te σ H fun x H1 => ∃ a xs, x = .ref a ∧ ((SqL K H1 a xs ∧ ∀ p, H1 p = none → Q (.ref p) (upd H1 p (.lst xs.reverse))) ∨ (SqT K H1 a xs ∧ ∀ p, H1 p = none → Q (.ref p) (upd H1 p (.tup xs.reverse))))
theorem pe_revA {e : Expr} {te : TE} {k : Nat} {p1 p2 p3 pos : Pos} (he : PE X e te) : PE X (.Subscript e (.Slice none none (some (.UnaryOp .USub (.Constant (.int 1) k p1) p2)) p3) pos) (tRevA X.K te) := by
  refine ⟨fun pins s σ H Q I h => ?_⟩
  refine Subscript_ (thn (he.run pins s σ H _ I h) fun v s1 ⟨x, H1, I1, r1, q1⟩ => ?_)
  obtain ⟨a, xs, ex, q1⟩ := q1
  subst ex
  cases r1
  have hst : PO X (some (.UnaryOp .USub (.Constant (.int 1) k p1) p2)) (tPart (tUn (rU fun i => .int (-i)) (tC (.int 1)))) := po_some (pe_un un_neg pe_int)
  refine wpAny_Slice (thn (po_none.run pins s1 σ H1 (fun o H2 => o = none ∧ H2 = H1) I1 ⟨rfl, rfl⟩) fun vl s2 ⟨l, H2, I2, pl, el, e2⟩ => ?_)
  subst el e2
  refine thn (po_none.run pins s2 σ H2 (fun o H3 => o = none ∧ H3 = H2) I2 ⟨rfl, rfl⟩) fun vu s3 ⟨u, H3, I3, pu, eu, e3⟩ => ?_
  subst eu e3
  refine thn (hst.run pins s3 σ H3 (fun o H4 => o = some (-1) ∧ H4 = H3) I3 ⟨1, rfl, -1, rfl, rfl, rfl⟩) fun vs s4 ⟨o, H4, I4, ps, eo, e4⟩ => ?_
  subst eo e4
  have I5 : Inv X pins σ H4 { s4 with heap := s4.heap.push { cls := .type "slice", data := .fields #[vl, vu, vs] } } := I4.kept (t' := s4.toks) fun b ob q => Heap.get?_push_of_some _ q
  rcases q1 with ⟨hx, q⟩ | ⟨hx, q⟩
  · obtain ⟨its, r, ht, hz⟩ := I5.list hx
    have hlen := r.length
    show wpAny (model X.prog X.w) X.A (subscriptTail e (.Slice none none (some (.UnaryOp .USub (.Constant (.int 1) k p1) p2)) p3) (.ref a) (.ref s4.heap.objs.size)) (EP X pins σ Q) X.xe { s4 with heap := s4.heap.push { cls := .type "slice", data := .fields #[vl, vu, vs] } }
    refine tail_any (ops := [.ref a, .ref s4.heap.objs.size]) ht.isList.typeIs (PySem.slot_list_getitem.lookup) ?_ (by with_unfolding_all rfl)
    refine wpAny_getItem_list_slice ht.isList (Heap.IsSliceOf.new _ vl vu vs) pl pu ps (by decide) ?_ (by rw [List.size_toArray]; omega)
    rw [PySem.W.krv_pick]
    refine ⟨.ref _, _, I5.laid (t' := s4.toks) (o := .lst xs.reverse) (fun b ob q => Heap.get?_push_of_some _ q) (Nat.le_refl _) ?_, rfl, q _ (I5.hok.fresh (Nat.le_refl _))⟩
    exact ⟨by rw [List.length_reverse]; exact hz, _, 0, r.reverse, Heap.get?_push_size _ rfl⟩
  · obtain ⟨its, r, ht, hz⟩ := I5.tuple hx
    have hlen := r.length
    show wpAny (model X.prog X.w) X.A (subscriptTail e (.Slice none none (some (.UnaryOp .USub (.Constant (.int 1) k p1) p2)) p3) (.ref a) (.ref s4.heap.objs.size)) (EP X pins σ Q) X.xe { s4 with heap := s4.heap.push { cls := .type "slice", data := .fields #[vl, vu, vs] } }
    refine tail_any (ops := [.ref a, .ref s4.heap.objs.size]) ht.typeIs (PyProof.Rows.slot_tuple_getitem.lookup) ?_ (by with_unfolding_all rfl)
    refine HT.getItem_tuple_rev ht (Heap.IsSliceOf.new _ vl vu vs) pl pu ps ?_ (by rw [List.size_toArray]; omega)
    refine ⟨.ref _, _, I5.laid (t' := s4.toks) (o := .tup xs.reverse) (fun b ob q => Heap.get?_push_of_some _ q) (Nat.le_refl _) ?_, rfl, q _ (I5.hok.fresh (Nat.le_refl _))⟩
    exact ⟨by rw [List.length_reverse]; exact hz, _, r.reverse, IsTup.new _ _⟩
def rSumT (K : PySem.W.Frag) : List V → Hp → VK → Prop := fun vs H Q => ∃ (a : Addr) (ns : List Int), vs = [V.ref a] ∧ SqT K H a (ns.map V.int) ∧ Q (.int ns.sum) H
theorem cr_sumT (hc : X.calm = true) : CallR X (.builtin "sum") (rSumT X.K) := by
  intro pins s σ H vs us Q I r h
  obtain ⟨a, ns, rfl, hs, q⟩ := h
  obtain ⟨its, rv, hl, _⟩ := I.tuple hs
  have hl : s.heap.IsTuple a its.toArray := hl
  rw [Vals.ref1 r]
  have hi : IntsAre its ns := intsAre_of rv
  obtain ⟨xs, hx⟩ := (show IntsAre its.toArray.toList ns from hi).allInts.items
  have hn : numsOf its.toArray.toList = ns := by rw [show its.toArray.toList = its from rfl, hi.numsOf]
  rw [hx] at hl hn
  rw [nums_intItems] at hn
  refine PySem.W.ktm_sumG (I.ok.hd hc) hl fun h' tk t' hk => ?_
  have e : preSum (numAt xs) xs.size = ns.sum := by
    rw [preSum_eq, List.take_of_length_le (by simp), hn]
  rw [e]
  exact ⟨.int _, H, I.kept hk, ⟨_, rfl⟩, q⟩
end
def dSumA : List D → Option D := fun ds => match ds with
  | [.lst ds] => (ints? ds).map fun ns => .int ns.sum
  | [.tup ds] => (ints? ds).map fun ns => .int ns.sum
  | _ => none
theorem cd_sumA {G : Glb} {X : Cx} (hK : X.K = G.K) : CallD G (fun xs H Q => rSum X.K xs H Q ∨ rSumT X.K xs H Q) dSumA := ⟨fun ad S H st xs ds d Q su so r e q => by
  unfold dSumA at e
  split at e
  · rename_i ys
    obtain ⟨v, rfl, rv⟩ := reps1 r
    cases en : ints? ys with
    | none => rw [en] at e; cases e
    | some ns =>
      rw [en] at e
      cases e
      cases rv with
      | lst h2 r2 =>
        rename_i a vs
        have ev := ints_ok r2 en
        subst ev
        exact .inl ⟨a, ns, rfl, SqL.of (su _ _ h2), Post.here su so (.int _) q⟩
  · rename_i ys
    obtain ⟨v, rfl, rv⟩ := reps1 r
    cases en : ints? ys with
    | none => rw [en] at e; cases e
    | some ns =>
      rw [en] at e
      cases e
      cases rv with
      | tup h2 r2 =>
        rename_i a vs
        have ev := ints_ok r2 en
        subst ev
        exact .inr ⟨a, ns, rfl, hK ▸ Same.sqT su h2.sqT, Post.here su so (.int _) q⟩
  · cases e⟩
theorem Reps.reverse {G : Glb} {ad : List Addr} {S : Hp} : ∀ {vs : List V} {ds : List D}, Reps G ad S vs ds → Reps G ad S vs.reverse ds.reverse
  | _, _, .nil => .nil
  | _, _, .cons h r => by
    rw [List.reverse_cons, List.reverse_cons]
    exact (Reps.reverse r).append (.cons h .nil)
def dRev : D → Option D
  | .lst xs => some (.lst xs.reverse)
  | .tup xs => some (.tup xs.reverse)
  | _ => none
section
variable {G : Glb} {X : Cx} {W : WX} {O : Ow} {pos : Pos} {e : Expr} {me : ME}
theorem de_rev {k : Nat} {p1 p2 p3 : Pos} (hK : X.K = G.K) (he : DE G X W O e me) : DE G X W O (.Subscript e (.Slice none none (some (.UnaryOp .USub (.Constant (.int 1) k p1) p2)) p3) pos) (mUn dRev me) := by
  obtain ⟨t, p, w⟩ := he.ex
  refine ⟨_, pe_revA p, fun b S env st σ H Q I h => w b S env st σ H _ I (wpR_imp (wpR_bind h) (fun dx st1 h1 => ?_) fun _ _ z => z)⟩
  intro x S1 H1 x1 su1 so1 r1
  obtain ⟨d, e1, q⟩ := wp_ret h1
  have q' := Post.from_ x1 so1 q
  cases r1 with
  | lst h2 r2 => cases e1; exact ⟨_, _, rfl, .inl ⟨SqL.of (su1 _ _ h2), fun z hz => Post.lst su1 so1 hz r2.reverse q'⟩⟩
  | tup h2 r2 => cases e1; exact ⟨_, _, rfl, .inr ⟨hK ▸ Same.sqT su1 h2.sqT, fun z hz => Post.tup su1 so1 hz r2.reverse q'⟩⟩
  | _ => cases e1
end
end DL

/-! DL, 24th part: reckoning with objects, owned lists, errors with fields. -/
namespace DL
open PySem PySem.Spec PyProof.Rows L2
theorem envGet (env : Env') (i : Nat) : (match env[i]? with | some (some d) => some d | _ => none) = get? env i := by
  induction env generalizing i with
  | nil => rfl
  | cons o r ih =>
    cases i with
    | zero => cases o <;> rfl
    | succ i => exact ih i
/-- how an __init__'s end is a call's -/
def initR : Out → Res D
  | .nx (some d :: _) st1 => .ok d st1
  | .er x _ st1 => .err x st1
  | _ => .bad
theorem initM_eq {c n : Nat} {m : MS} {ds : List D} {st : List D} (h : ds.length ≤ n - 1) : initM c n m ds st = initR (m (some (.obj c []) :: mkEnv (n - 1) ds) st) := by
  rw [mkEnv_eq (n - 1) ds h]
  unfold initM initR
  cases m (some (.obj c []) :: (ds.map some ++ List.replicate (n - 1 - ds.length) none)) st with
  | nx e s => cases e with
    | nil => rfl
    | cons o e => cases o <;> rfl
  | _ => rfl
def pushR (i : Nat) (o : Option D) (r : Res D) (env : Env') : Out := match o with
  | some (.lst ds) => match r with
    | .ok d st1 => if ds.length < sizeLine then .nx (env.set i (some (.lst (ds ++ [d])))) st1 else .bad
    | .err x st1 => .er x env st1
    | .bad => .bad
  | _ => .bad
theorem mPush_eq (i : Nat) (me : ME) (env : Env') (st : List D) : mPush i me env st = pushR i (get? env i) (me env st) env := by
  unfold mPush pushR
  rw [← envGet]
  cases env[i]? with
  | none => rfl
  | some o => cases o with
    | none => rfl
    | some d => cases d <;> rfl
theorem pushR_ok (i : Nat) (ds : List D) (d : D) (st1 : List D) (env : Env') (h : ds.length < 100000) : pushR i (some (.lst ds)) (.ok d st1) env = .nx (env.set i (some (.lst (ds ++ [d])))) st1 := by
  show (if ds.length < sizeLine then Out.nx (env.set i (some (.lst (ds ++ [d])))) st1 else .bad) = _
  rw [if_pos (Nat.lt_of_lt_of_le h (by decide))]
/-- a method's call, the object known -/
def methR (ci : Nat) (name : Str) (f : List D → M D) (ma : List D → Res (List D)) (d : D) : M D := fun st1 => match d with
  | .obj c fs => if c = ci ∧ fs.lookup name = none then (ma st1).bind fun ds => f (d :: ds) else .bad
  | _ => .bad
def fldSR (okF : Nat → Str → Bool) (f : Str) (c : Nat) (fs : List (Str × D)) (env : Env') (r : Res D) : Out := match r with
  | .ok d st1 => if okF c f = true ∧ fs.length < 1000 then .nx (some (.obj c (putD f d fs)) :: env) st1 else .bad
  | .err x st1 => .er x (some (.obj c fs) :: env) st1
  | .bad => .bad
def raiseR (c : Nat) (fs : List Str) (env : Env') (r : Res (List D)) : Out := match r with
  | .ok ds st1 => if ds.length = fs.length ∧ ds.length ≤ 100 then .er ⟨c, some (fs.zip ds).reverse⟩ env st1 else .bad
  | .err x st1 => .er x env st1
  | .bad => .bad
def chainR (f g : D → D → Option D) (mc : List D → Res D) (x y : D) : M D := fun st2 => match f x y with
  | some (.bl true) => (mc st2).bind fun z => ret? (g y z)
  | some (.bl false) => .ok (.bl false) st2
  | _ => .bad
theorem ev6 :
    (∀ (okF : Nat → Str → Bool) (f : Str) (me : ME) (env : Env') (st : List D), mFld okF f me env st = (me env st).bind fun d => ret? (dFld okF f d)) ∧
    (∀ (f : List D → M D) (dds : List D) (ma : MA) (env : Env') (st : List D), mCallD f dds ma env st = (ma env st).bind fun ds => f (ds ++ dds)) ∧
    (∀ (ci : Nat) (name : Str) (f : List D → M D) (mo : ME) (ma : MA) (env : Env') (st : List D), mMeth ci name f mo ma env st = (mo env st).bind fun d => methR ci name f (ma env) d) ∧
    (∀ (okF : Nat → Str → Bool) (f : Str) (me : ME) (c : Nat) (fs : List (Str × D)) (env : Env') (st : List D), mFldS okF f me (some (.obj c fs) :: env) st = fldSR okF f c fs env (me (some (.obj c fs) :: env) st)) ∧
    (∀ (c : Nat) (fs : List Str) (ma : MA) (env : Env') (st : List D), mRaiseF c fs ma env st = raiseR c fs env (ma env st)) ∧
    (∀ (f g : D → D → Option D) (ma mb mc : ME) (env : Env') (st : List D), mChain f g ma mb mc env st = (ma env st).bind fun x st1 => (mb env st1).bind fun y => chainR f g (mc env) x y) ∧
    (∀ (i : Nat) (m : MA) (env : Env') (st : List D), mSetF i m env st = match m env st with
      | .ok ds st1 => .nx (env.set i (some (.lst ds))) st1
      | .err x st1 => .er x env st1
      | .bad => .bad) ∧
    (∀ (ma mb : ME) (env : Env') (st : List D), mCat ma mb env st = (ma env st).bind fun x st1 => (mb env st1).bind fun y => cat? x y) ∧
    (∀ (i : Nat) (me : ME) (env : Env') (st : List D), mPush i me env st = pushR i (get? env i) (me env st) env) ∧
    (∀ (okI : Nat → Bool) (okT : Tag → Bool) (eqs : Nat → Option (List D → M D)) (ma mb : ME) (env : Env') (st : List D), mEqT okI okT eqs ma mb env st = (ma env st).bind fun x st1 => (mb env st1).bind fun y => eqT okI okT eqs x y) ∧
    (∀ (e : Env') (d : D) (st : List D), initR (.nx (some d :: e) st) = .ok d st) ∧ (∀ (x : Ex) (e : Env') (st : List D), initR (.er x e st) = .err x st) :=
  ⟨fun _ _ _ _ _ => rfl, fun _ _ _ _ _ => rfl, fun _ _ _ _ _ _ _ => rfl, fun _ _ _ _ _ _ _ => rfl, fun _ _ _ _ _ => rfl, fun _ _ _ _ _ _ _ => rfl, fun _ _ _ _ => rfl, fun _ _ _ _ => rfl, mPush_eq, fun _ _ _ _ _ _ _ => rfl, fun _ _ _ => rfl, fun _ _ _ => rfl⟩
theorem ev7 :
    (∀ (i : Nat) (st : List D), fits? [] st = .ok [] st) ∧
    (∀ (xs : List D), dTuple (.lst xs) = some (.tup xs)) ∧ (∀ (xs : List D), dRev (.tup xs) = some (.tup xs.reverse)) ∧ (∀ (xs : List D), dRev (.lst xs) = some (.lst xs.reverse)) ∧
    (∀ (f : D → D → Option D) (g : D → D → Option D) (mc : List D → Res D) (x y : D) (st : List D) (b : Bool), f x y = some (.bl b) → chainR f g mc x y st = if b = true then (mc st).bind fun z => ret? (g y z) else .ok (.bl false) st) ∧
    (∀ (a b : Bool), dIsB (.bl a) (.bl b) = some (.bl (decide (a = b)))) ∧ (∀ (a b : Bool), dNotB (.bl a) (.bl b) = some (.bl (!decide (a = b)))) ∧
    (∀ (x y : D), zipA? [x, y] = zipA? [x, y]) :=
  ⟨fun _ _ => rfl, fun _ => rfl, fun _ => rfl, fun _ => rfl, fun f g mc x y st b h => by unfold chainR; rw [h]; cases b <;> rfl, fun _ _ => rfl, fun _ _ => rfl, fun _ _ => rfl⟩
theorem ev : type_of% ev1 ∧ type_of% ev2 ∧ type_of% ev3 ∧ type_of% ev4 ∧ type_of% ev5 ∧ type_of% ev6 := ⟨ev1, ev2, ev3, ev4, ev5, ev6⟩
/-- a comprehension whose items draw -/
theorem lcD_inv {env : Env'} {g : MG} {me : ME} (P : List D → Prop) (Q : D → Prop) (R : D → Prop) (h : ∀ d st, Q d → P st → ∃ env1 y st', g d env = some env1 ∧ me env1 st = .ok y st' ∧ P st' ∧ R y) :
    ∀ (ds : List D) (st : List D), (∀ d ∈ ds, Q d) → P st → ∃ ys st', lcD env g mYes me ds st = .ok ys st' ∧ P st' ∧ ys.length = ds.length ∧ ∀ y ∈ ys, R y
  | [], st, _, p => ⟨[], st, rfl, p, rfl, fun y hy => by cases hy⟩
  | d :: ds, st, hq, p => by
    obtain ⟨e1, y, s1, a, b, p1, r⟩ := h d st (hq d List.mem_cons_self) p
    obtain ⟨ys, s2, c, p2, l, rs⟩ := lcD_inv P Q R h ds s1 (fun q hh => hq q (List.mem_cons_of_mem _ hh)) p1
    refine ⟨y :: ys, s2, ?_, p2, by simp [l], fun z hz => (List.mem_cons.mp hz).elim (fun e => e ▸ r) (rs z)⟩
    unfold lcD
    simp only [a, mYes, noEr, bind_ok, if_true]
    rw [b]
    simp only [noEr, bind_ok, c]
/-- a comprehension by the items' values -/
theorem lcD_mapL {env : Env'} {g : MG} {mt : MT} {me : ME} {st : List D} {α β : Type} (u : α → D) (v : β → D) (f : α → β) (l : List α) (h : ∀ a ∈ l, ∃ env1, g (u a) env = some env1 ∧ mt env1 st = .ok true st ∧ me env1 st = .ok (v (f a)) st) : lcD env g mt me (l.map u) st = .ok ((l.map f).map v) st := by
  induction l with
  | nil => rfl
  | cons a l ih =>
    obtain ⟨e1, h1, h2, h3⟩ := h a List.mem_cons_self
    have ih := ih fun b hb => h b (List.mem_cons_of_mem _ hb)
    rw [List.map_cons]
    unfold lcD
    simp only [h1]
    rw [h2]
    simp only [noEr, bind_ok, if_pos]
    rw [h3]
    simp only [bind_ok]
    rw [ih]
    rfl
/-- a loop by steps -/
theorem forD_fold {g : MG} {body : MS} {α β : Type} (u : α → D) (E : β → Env' → Prop) (f : β → α → β) {st : List D} (Q : β → List α → Prop) (hQ : ∀ b a l, Q b (a :: l) → Q (f b a) l) :
    ∀ (l : List α) (b : β) (env : Env'), (∀ b a l env, Q b (a :: l) → E b env → ∃ env1 env2, g (u a) env = some env1 ∧ body env1 st = .nx env2 st ∧ E (f b a) env2) → Q b l → E b env → ∃ env', forD g body (l.map u) env st = .nx env' st ∧ E (l.foldl f b) env'
  | [], b, env, _, _, e => ⟨env, rfl, e⟩
  | a :: l, b, env, h, q, e => by
    obtain ⟨e1, e2, h1, h2, h3⟩ := h b a l env q e
    obtain ⟨e3, h4, h5⟩ := forD_fold u E f Q hQ l (f b a) e2 h (hQ b a l q) h3
    refine ⟨e3, ?_, h5⟩
    rw [List.map_cons, forD_cons, h1]
    simp only [h2]
    exact h4
theorem mFor_of {mi : MA} {g : MG} {body : MS} {env : Env'} {st st1 : List D} {ds : List D} {o : Out} (h : mi env st = .ok ds st1) (k : forD g body ds env st1 = o) : mFor mi g body env st = o := by unfold mFor; rw [h]; exact k
theorem mThenA_of {ma : MA} {f : List D → M (List D)} {env : Env'} {st st1 : List D} {xs : List D} {r : Res (List D)} (h : ma env st = .ok xs st1) (k : f xs st1 = r) : mThenA ma f env st = r := by unfold mThenA; rw [h]; exact k
theorem mItems_of {me : ME} {env : Env'} {st st1 : List D} {x : D} {r : Res (List D)} (h : me env st = .ok x st1) (k : items? x st1 = r) : mItems me env st = r := by unfold mItems; rw [h]; exact k
theorem mLC_of {mi : MA} {vs : List Nat} {g : MG} {mt : MT} {me : ME} {env : Env'} {st st1 st2 : List D} {ds ys : List D} (h : mi env st = .ok ds st1) (k : lcD (wipeE env vs) g mt me ds st1 = .ok ys st2) (hl : ys.length ≤ 100000) : mLC mi vs g mt me env st = .ok (.lst ys) st2 := by
  unfold mLC; rw [h, bind_ok, k, bind_ok]
  unfold lstOk
  rw [if_pos (Nat.le_trans hl (by decide))]
theorem mSeq_of {a b : MS} {env e : Env'} {st s : List D} (h : a env st = .nx e s) : mSeq a b env st = b e s := by unfold mSeq; rw [h]
theorem mSet_of {i : Nat} {m : ME} {env : Env'} {st s : List D} {d : D} (h : m env st = .ok d s) : mSet i m env st = .nx (env.set i (some d)) s := by unfold mSet mDo; rw [h]
theorem putD_same (f : Str) (d x : D) (r : List (Str × D)) : putD f d ((f, x) :: r) = (f, d) :: r := by
  unfold putD; rw [if_pos rfl]
theorem putD_ne {f g : Str} (h : g ≠ f) (d x : D) (r : List (Str × D)) : putD f d ((g, x) :: r) = (g, x) :: putD f d r := by
  conv => lhs; unfold putD
  rw [if_neg h]
theorem look_same (f : Str) (x : D) (r : List (Str × D)) : List.lookup f ((f, x) :: r) = some x := by
  rw [List.lookup_cons]; simp
theorem look_ne {f g : Str} (h : f ≠ g) (x : D) (r : List (Str × D)) : List.lookup f ((g, x) :: r) = List.lookup f r := by
  rw [List.lookup_cons]
  have : (f == g) = false := by simpa using h
  rw [this]
end DL

/-! x[i] = e of an owned list -/
namespace DL
open PySem PySem.Spec PyProof.Rows L2
def setIR (i : Nat) (d : D) (ds : List D) (env : Env') : Res D → Out
  | .ok (.int k) st1 => match ixN ds.length k with
    | some j => .nx (env.set i (some (.lst (ds.set j d)))) st1
    | none => .bad
  | .err x st1 => .er x env st1
  | _ => .bad
def mSetI (i : Nat) (mi m : ME) : MS := mDo m fun d env st => match env[i]? with
  | some (some (.lst ds)) => setIR i d ds env (mi env st)
  | _ => .bad
section
variable {G : Glb} {X : Cx} {W : WX} {O Ob : Ow} {OE : Ow → Prop} {pos : Pos}
theorem ds_setI (i : Nat) {x : Str} {p1 p3 : Pos} {ei e : Expr} {mi me : ME} (he : DE G X W O e me) (hx : DE G X W O ei mi) (hO : OE O := by first | trivial | rfl) (hN : X.N[i]? = some x := by rfl) (hm : i ∈ O.own := by first | decide | exact of_decide_eq_true rfl) (hxi : O.exi ≠ some i := by first | decide | exact of_decide_eq_true rfl) (hsf : O.slf ≠ some i := by first | decide | exact of_decide_eq_true rfl)
    (hv : Vis X.env.scope x := by first | exact Or.inl rfl | exact Or.inr (Or.inl rfl) | exact Or.inr (Or.inr rfl)) (hd : (x == ("__debug__" : Str)) = false := by decide) (hcd : (x == ("__classdict__" : Str)) = false := by decide)
    (ha : ∀ v, assign (.Subscript (.Name x p1) ei p3) X.env v = (do
      let ov ← holding [v] (eval (.Name x p1) X.env)
      let iv ← holding [v, ov] (eval ei X.env)
      standAt p3
      holding [v, ov, iv] (setItem ov iv v)
      release [v, ov, iv] []) := by intro _; rfl)
    (hs : swapsWithSole [.Subscript (.Name x p1) ei p3] e pos.line X.env = pure false := by rfl) (hw : swappedStores [.Subscript (.Name x p1) ei p3] e X.env = pure none := by rfl)
    (h1 : (assignEach [.Subscript (.Name x p1) ei p3] X.env).map (·.2) = [assign (.Subscript (.Name x p1) ei p3) X.env] := by rfl) :
    DS G X W Ob OE O (.Assign [.Subscript (.Name x p1) ei p3] e pos) O (mSetI i mi me) := by
  obtain ⟨t, p, w⟩ := he.ex
  obtain ⟨t2, p2, w2⟩ := hx.ex
  refine ⟨_, ps_asg p (pg_sub (pe_var hN hv hd hcd) p2 set_list ha) hs hw h1, fun b S env st σ H D I h => do_part hO w I h fun v d S' H' st' I' r q => ?_⟩
  cases e1 : env[i]? with
  | none => rw [e1] at q; exact q.elim
  | some o =>
    rw [e1] at q
    cases o with
    | none => exact q.elim
    | some d0 =>
      obtain ⟨a, ws, es, q1, q2, q3, q4, q5, q6, q7⟩ := I'.own i d0 hm e1
      subst q1
      dsimp only at q
      refine ⟨_, q2, w2 b S' env st' σ H' _ I' ?_⟩
      cases e2 : mi env st' with
      | ok di st1 =>
        rw [e2] at q
        intro vi S2 H2 x2 su2 so2 r2
        cases di with
        | int k =>
          cases r2
          have I2 := I'.ext x2 su2 so2
          obtain ⟨a', ws', es', y1, y2, y3, y4, y5, y6, y7⟩ := I2.own i _ hm e1
          cases y1
          have ea : a' = a := by
            have := y2.symm.trans q2
            simpa using this
          subst ea
          unfold setIR at q
          dsimp only at q
          cases ej : ixN es.length k with
          | none => rw [ej] at q; exact q.elim
          | some j =>
            rw [ej] at q
            exact ⟨a', ws', k, j, rfl, rfl, y3, by rw [y7.len]; exact ej, q S2 σ _ x2.same (I2.own_upd hm hxi hsf e1 q2 (Reps.set j y7 (Rep.mono x2.same r)))⟩
        | _ => exact q.elim
      | err y st1 =>
        rw [e2] at q
        intro cls dd S2 H2 x2 su2 so2 r2
        exact q cls dd O S2 σ H2 hO x2.same (I'.ext x2 su2 so2) r2
      | bad => rw [e2] at q; exact q.elim
/-- x = list(y), x's own -/
def lst1? (xs : List D) : M (List D) := fun st => match c1 dList xs with
  | some (.lst ds) => .ok ds st
  | _ => .bad
theorem df_list {x : Str} {p : Pos} {e : Expr} {es : List Expr} {ma' : MA} (hK : X.K = G.K) (hm : X.mg x = none) (hv : bootBuiltins x = some (.type "list")) (ha : DA G X W O (e :: es) ma') (hg : Gl X x := by rfl)
    (hn : x ≠ "__name__" := by decide) (hdb : (x == ("__debug__" : Str)) = false := by decide)
    (he : starEach (e :: es) X.env = (false, eval e X.env) :: starEach es X.env := by rfl) (hpl : (backTo pos (starEach es X.env)).any (·.1) = false := by rfl) : DF G X W O (.Call (.Name x p) (e :: es) [] pos) (mThenA ma' lst1?) := by
  obtain ⟨t, pa, w⟩ := ha.ex
  refine ⟨_, pe_callTy call_list_of hg hm hv pa hn hdb he hpl, fun b S env st σ H Q I h => w b S env st σ H _ I (wpR_imp (wpR_bind h) (fun ds st1 h1 => ?_) fun _ _ z => z)⟩
  intro xs S1 H1 x1 su1 so1 r1
  unfold lst1? at h1
  split at h1
  · rename_i es e
    obtain ⟨y, rfl, e⟩ := c1_some e
    obtain ⟨v, rfl, rv⟩ := reps1 r1
    cases rv with
    | tup h r2 => cases e; exact ⟨_, _, rfl, .inr (hK ▸ Same.sqT su1 h.sqT), fun l hl => h1 l _ S1 H1 x1 su1 so1 hl r2⟩
    | lst h r2 => cases e; exact ⟨_, _, rfl, .inl (SqL.of (su1 _ _ h)), fun l hl => h1 l _ S1 H1 x1 su1 so1 hl r2⟩
    | rol h r2 => cases e; exact ⟨_, _, rfl, .inl (hK ▸ su1.seq h), fun l hl => h1 l _ S1 H1 x1 su1 so1 hl r2⟩
    | _ => cases e
  · exact h1.elim
end
end DL

/-! x.remove(e) of an owned list of data -/
namespace DL
open PySem PySem.Spec PyProof.Rows L2
def rRemD (K : PySem.W.Frag) : V → List V → Hp → VK → Prop := fun x xs H Q => ∃ (l : Addr) (ws : List V) (y : V) (ps : List PyData) (d : PyData) (j : Nat), x = .ref l ∧ xs = [y] ∧ H l = some (.lst ws) ∧ DpAll K H ws ps ∧ Dp K H y d ∧
  PyData.plainAll ps = true ∧ d.plain = true ∧ PyData.depthAll ps ≤ 60 ∧ SeqAt.dataPlace ps d = some j ∧ Q .non (upd H l (.lst (ws.eraseIdx j)))
theorem mt_remD {X : Cx} (hu : X.A.units + 64 < cLine) : MtM X "list.remove" (rRemD X.K) := by
  intro pins s σ H x xs v us Q I rx rxs h
  obtain ⟨l, ws, y, ps, d, j, rfl, rfl, hH, ha, hd, hp, hpd, hde, hj, q⟩ := h
  cases rx
  obtain ⟨u, rfl, ru⟩ := rxs.one
  obtain ⟨z, its, n, r, hl, e⟩ := I.lstM hH
  obtain ⟨as, r1⟩ := Dp.readsAll I ps ws its ha r
  obtain ⟨bs, r2⟩ := Dp.reads I d y u hd ru
  refine SeqAt.remove_list_data (vs := its.toArray) ⟨_, e, rfl, n, rfl⟩ (by simpa using r1) r2 hp hpd (by omega) hj (by rw [List.size_toArray, ← hl]; exact z) ?_
  have rr := r.eraseIdx j
  refine ⟨.non, _, I.lset (its' := its.eraseIdx j) (t' := s.toks) hH e ?_ rr ?_, rfl, q⟩
  · show its.toArray.eraseIdxIfInBounds j = (its.eraseIdx j).toArray
    rw [List.eraseIdxIfInBounds_toArray]
  · have := List.length_eraseIdx_le ws j
    omega
def remD (xs : List D) (d : D) : Option (List D) := if PyData.canLayAll0 (toPs xs) = true ∧ (toP d).canLay0 = true ∧ PyData.plainAll (toPs xs) = true ∧ (toP d).plain = true ∧ PyData.depthAll (toPs xs) ≤ 60 then (SeqAt.dataPlace (toPs xs) (toP d)).map fun j => xs.eraseIdx j else none
def remR (i : Nat) (ds : List D) (env : Env') : Res D → Out
  | .ok d st1 => match remD ds d with
    | some ys => .nx (env.set i (some (.lst ys))) st1
    | none => .bad
  | .err x st1 => .er x env st1
  | .bad => .bad
def mRem (i : Nat) (m : ME) : MS := fun env st => match env[i]? with
  | some (some (.lst ds)) => remR i ds env (m env st)
  | _ => .bad
theorem Reps.eraseIdx {G : Glb} {ad : List Addr} {S : Hp} : ∀ {vs : List V} {ds : List D} (j : Nat), Reps G ad S vs ds → Reps G ad S (vs.eraseIdx j) (ds.eraseIdx j)
  | _, _, _, .nil => .nil
  | _, _, 0, .cons h r => r
  | _, _, j + 1, .cons h r => .cons h (Reps.eraseIdx j r)
section
variable {G : Glb} {X : Cx} {W : WX} {O Ob : Ow} {OE : Ow → Prop} {pos : Pos} {e : Expr} {me : ME}
theorem ds_rem (i : Nat) {x : Str} {p1 p2 cp : Pos} (hK : X.K = G.K) (hu : X.A.units + 64 < cLine) (he : DE G X W O e me) (hO : OE O := by first | trivial | rfl) (hi : X.N[i]? = some x := by rfl) (hm : i ∈ O.own := by first | decide | exact of_decide_eq_true rfl) (hxi : O.exi ≠ some i := by first | decide | exact of_decide_eq_true rfl) (hsf : O.slf ≠ some i := by first | decide | exact of_decide_eq_true rfl) (hv : Vis X.env.scope x := by first | exact Or.inl rfl | exact Or.inr (Or.inl rfl) | exact Or.inr (Or.inr rfl))
    (hd : (x == ("__debug__" : Str)) = false := by decide) (hcd : (x == ("__classdict__" : Str)) = false := by decide)
    (hbase : attributeBase (.Name x p1) "remove" X.env (eval (.Name x p1) X.env) = eval (.Name x p1) X.env := by rfl)
    (hfew : ((backTo cp (starEach [e] X.env)).all (fun x => !x.1) && (backToKw cp (keywordEach [] X.env)).all (fun x => x.1.isSome)
      && decide ([e].length + ([] : List Keyword).length + (if ([] : List Keyword).isEmpty then 0 else 1) < 30)) = true := by rfl) (hline : (p2.endLine == cp.line) = true := by rfl)
    (hst : starEach [e] X.env = (false, eval e X.env) :: starEach [] X.env := by rfl) (hpl : (backTo cp (starEach [] X.env)).any (·.1) = false := by rfl)
    (hs : swapsWith (.Call (.Attribute (.Name x p1) "remove" p2) [e] [] cp) none pos.line X.env = pure false := by rfl) : DS G X W Ob OE O (.Expr (.Call (.Attribute (.Name x p1) "remove" p2) [e] [] cp) pos) O (mRem i me) := by
  obtain ⟨t, p, w⟩ := he.ex
  refine ⟨_, ps_expr (pe_bm PySem.F.plainAttrs_list PySem.F.slot_list_remove PySem.F.type_list_remove (mt_remD hu) (pe_var hi hv hd hcd) (pa_cons p pa_nil hst) hbase hfew hline hst hpl) hs, fun b S env st σ H D I h => ?_⟩
  unfold mRem at h
  cases e1 : env[i]? with
  | none => rw [e1] at h; exact h.elim
  | some o => cases o with
    | none => rw [e1] at h; exact h.elim
    | some d0 =>
      obtain ⟨a, ws, es, p1, p2, p3, p4, p5, p6, p7⟩ := I.own i d0 hm e1
      subst p1
      rw [e1] at h
      refine ⟨_, p2, Or.inl ⟨rfl, _, Or.inl (Or.inl p3)⟩, w b S env st σ H _ I ?_⟩
      cases e2 : me env st with
      | ok d st1 =>
        dsimp only at h
        rw [e2] at h
        intro v S' H' x' su so r
        have I' := I.ext x' su so
        obtain ⟨a', ws', es', q1, q2, q3, q4, q5, q6, q7⟩ := I'.own i _ hm e1
        cases q1
        have ea : a' = a := by
          have := q2.symm.trans p2
          simpa using this
        subst ea
        unfold remR at h
        dsimp only at h
        cases er : remD es d with
        | none => rw [er] at h; exact h.elim
        | some ys =>
          rw [er] at h
          unfold remD at er
          split at er
          · rename_i hc
            obtain ⟨c1, c2, c3, c4, c5⟩ := hc
            cases ej : SeqAt.dataPlace (toPs es) (toP d) with
            | none => rw [ej] at er; cases er
            | some j =>
              rw [ej] at er
              cases er
              exact ⟨a', ws', v, toPs es, toP d, j, rfl, rfl, q3, hK ▸ Reps.dp su q7 c1, hK ▸ Rep.dp su r c2, c3, c4, c5, ej, h S' σ _ x'.same (I'.own_upd hm hxi hsf e1 p2 (Reps.eraseIdx j q7))⟩
          · cases er
      | err y st1 =>
        dsimp only at h
        rw [e2] at h
        intro cls dd S' H' x' su so r
        exact h cls dd O S' σ H' hO x'.same (I.ext x' su so) r
      | bad =>
        dsimp only at h
        rw [e2] at h
        exact h.elim
end
/-! isinstance of a caught error, with fields or without -/
section
open PySem.W
variable {P : Program} {w : World} {A : Around} {E : Value → Shared → Prop} {K : Frag} {x D : Addr} {ob : Obj} {od : Option Obj}
theorem obj_descr {n : Str} {at_ get : Value} (c : hasDictIn K D = true) (f : findIn K (.ref D) n = some (some at_)) (g : specialIn K at_ "__get__" = some (some get)) (t : takesIn K at_ = some true) : findObj K D od n = some (.bind get at_) := by
  obtain ⟨cd, e, _⟩ := any_some c
  unfold findObj
  simp [e, f, g, t]
set_option maxHeartbeats 1000000 in
/-- e.__class__ of an error e of an own class, whatever its dict -/
theorem err_class {s : Shared} {Q : Option Value → Shared → Prop} (c : ExcC K D) (kin : K.In s.heap) (i : InstAt s.heap x ob D od) (q : Q (some (.ref D)) { s with toks := s.toks + 1 }) : wpAny (model P w) A (getAttr? (.ref x) "__class__") Q E s := by
  obtain ⟨h, gl, dd, tk, os⟩ := s
  have ty := i.type (M := model P w)
  have own := looks_findIn (M := model P w) kin c.hg
  have late := looks_findIn (M := model P w) kin c.hk
  have found := looks_find (M := model P w) kin i (obj_descr (od := od) c.hd c.ha c.hn c.ht)
  have isE : Looks (model P w) h (isInstance (.ref x) (.type "BaseException")) true := ty.andThen (looks_subIn kin c.hs)
  have notO : (onTheHeap (Value.ref D) && Value.builtin "BaseException.__getattribute__" == Value.builtin "object.__getattribute__") = false := by
    have : (Value.builtin "BaseException.__getattribute__" == Value.builtin "object.__getattribute__") = false := by decide +kernel
    rw [this]; rfl
  unfold getAttr? getAttrBy? getAttrBy
  refine wpAny_bind (wpAny_mkText (wpAny_bind (wpAny_attempt (wpAny_holding (wpAny_bind (ty.at (wpAny_bind (own.at ?_))))))))
  show wpAny _ _ (if (onTheHeap (Value.ref D) && Value.builtin "BaseException.__getattribute__" == Value.builtin "object.__getattribute__") = true then _ else _) _ _ _
  rw [notO]
  simp only [Bool.false_eq_true, if_false]
  unfold getAttrByItsOwn hookBefore
  refine wpAny_bind ?_
  rw [if_pos (show onTheHeap (Value.ref D) = true from rfl)]
  refine late.at (wpAny_bind (wpAny_attempt (wpAny_holding ?_)))
  unfold callGetattribute
  rw [show (false && onTheHeap (Value.builtin "BaseException.__getattribute__")) = false from rfl]
  simp only [Bool.false_eq_true, if_false]
  unfold boundAndCalled
  rw [PySem.F.excAttr_ValueError.ga.bind (.ref x)]
  refine wpAny_bind (wpAny_pure ?_)
  show wpAny (model P w) _ (call (Value.builtin "BaseException.__getattribute__") [Value.ref x, Value.str "__class__" tk]) _ _ _
  refine wpAny_call (codeAny_call_builtin PySem.F.excAttr_ValueError.ga.plain PySem.F.entry_bexc_ga ?_)
  refine @check_slot (model P w) _ _ (⟨h, gl, dd, tk + 1, os⟩ : Shared) "BaseException.__getattribute__" "BaseException" "__getattribute__" (Value.ref x) [Value.str "__class__" tk] [] _ (by decide +kernel) (by decide +kernel) isE (PySem.F.args_bexc_ga (Value.ref x) (Value.str "__class__" tk)) ?_
  unfold Builtin.«object.__getattribute__»
  refine wpAny_bind (wpAny_of_eq (a := ((Value.ref x : Value), [Value.str "__class__" tk])) (by first | rfl | (simp only [slotArgs]; rfl)) (wpAny_bind (wpAny_pure (wpAny_bind (ty.at (wpAny_bind (found.at ?_)))))))
  refine wpAny_bind (wpAny_holding (wpAny_call (class_get (s := ⟨h, gl, dd, tk + 1, os⟩) (ox := ob) (od := od) kin i c.hm (wpAny_pure ?_))))
  show wpAny _ _ (handedOut (.ref D)) _ _ _
  rw [handedOut_of (v := .ref D) rfl]
  first
    | exact wpAny_pure (wpAny_pure q)
    | exact wpAny_pure q
    | exact wpAny_pure (wpAny_bind (wpAny_pure (wpAny_pure q)))
end
section
open PySem.W
variable {K : Frag} {x D : Addr} {ob : Obj} {od : Option Obj}
theorem err_kit (c : ExcC K D) : KitX K (.ref x) (.ref D) (fun h => InstAt h x ob D od) where
  ty := fun _ _ _ j => j.type
  it := fun _ _ kin _ => by
    obtain ⟨_, e, _⟩ := any_some c.hd
    unfold clsIn at e
    split at e
    · rename_i part
      intro _ _ _ _ there q
      unfold isType loadHead
      exact wpAny_bind (wpAny_loadPart (there _ _ (kin _ _ part)) (wpAny_pure q))
    · cases e
  ne := (handS_kitx_exc (x := x) (ox := ob) c.hg c.hk c.hs c.hd c.ha c.hn c.ht c.hm).ne
  ca := fun kin j q => err_class c kin j q
end
section
variable {G : Glb} {X : Cx} {W : WX} {pos : Pos}
/-- the dict of a caught error, where it has one -/
def DictAt (H : Hp) : Option Addr → Prop
  | none => True
  | some a => ∃ fs, H a = some (.xd fs)
theorem call_isEF {a D : Addr} {dd : Option Addr} {oe : Obj} {pn : List (Addr × Obj)} (C : ExcC X.K D) (hz : Zc (.ref D) dd oe) (hf : ∃ vs, oe.data = .fields vs) : CallR (X.suite a ((a, oe) :: pn)) (.builtin "isinstance") (fun xs H Q => DictAt H dd ∧ rIsE X.K D a xs H Q) := by
  intro pins s σ H xs us Q I r h
  obtain ⟨hd, c, cv, b, rfl, hcv, e, q⟩ := h
  cases r with
  | cons rx rr =>
    cases rr with
    | cons rt rr =>
      cases rr
      cases rx
      have ec := hcv _ rt
      subst ec
      obtain ⟨at_, _⟩ := I.pin (a, oe) (List.mem_append.mpr (.inl List.mem_cons_self))
      obtain ⟨vs, data⟩ := hf
      have no : PySem.W.notCls oe = true := by unfold PySem.W.notCls; rw [data]
      obtain ⟨od, J⟩ : ∃ od, PySem.W.InstAt s.heap a oe D od := by
        cases dd with
        | none => exact ⟨none, at_, hz.1, no, by rw [hz.2]; trivial⟩
        | some dx =>
          obtain ⟨fs, hx⟩ := hd
          obtain ⟨mA, hns, _⟩ := (show ObjOk X.prog X.w H s.heap dx (.xd fs) from I.hok dx _ hx)
          obtain ⟨od, ho, _⟩ := lookIn_ns hns
          exact ⟨some od, at_, hz.1, no, by rw [hz.2]; exact ho⟩
      exact PySem.W.kia_one (err_kit C) I.kIn J e (fun z => nomatch z) fun tk => ⟨.bl b, H, I.kept (t' := tk) fun _ _ z => z, rfl, q⟩
def mIsXF (i : Nat) (tab : Nat → D → Option Bool) (mc : ME) : ME := fun env st => match env[i]? with
  | some (some (.obj c _)) => (mc env st).bind fun d => ret? ((tab c d).map .bl)
  | _ => .bad
theorem de_isXF {own : List Nat} {a : Addr} {oe : Obj} {cls : Value} {dd : Option Addr} {pn : List (Addr × Obj)} {p pe : Pos} {n : Str} {C : Expr} {mc : ME} (i : Nat) (tab : Nat → D → Option Bool) (hz : Zc cls dd oe) (hf : ∃ vs, oe.data = .fields vs) (hK : X.K = G.K) (hm : X.mg "isinstance" = none)
    (ht : ∀ c d b, tab c d = some b → ExcC G.K (G.cl c) ∧ ∃ cv, clsV G d = some cv ∧ PySem.W.kitOne G.K (.ref (G.cl c)) cv = some b) (hC : DE G (X.suite a ((a, oe) :: pn)) W0 ⟨own, some i, (a, cls, dd), none, (0, 0)⟩ C mc)
    (hi : X.N[i]? = some n := by rfl) (hg : Gl X "isinstance" := by rfl) (hv : Vis X.env.scope n := by first | exact Or.inl rfl | exact Or.inr (Or.inl rfl) | exact Or.inr (Or.inr rfl)) (hd : (n == ("__debug__" : Str)) = false := by decide) (hcd : (n == ("__classdict__" : Str)) = false := by decide)
    (he : starEach [.Name n pe, C] X.env = (false, eval (.Name n pe) X.env) :: starEach [C] X.env := by rfl) (he2 : starEach [C] X.env = (false, eval C X.env) :: starEach [] X.env := by rfl) (hpl : (backTo pos (starEach [C] X.env)).any (·.1) = false := by rfl) :
    DE G (X.suite a ((a, oe) :: pn)) W0 ⟨own, some i, (a, cls, dd), none, (0, 0)⟩ (.Call (.Name "isinstance" p) [.Name n pe, C] [] pos) (mIsXF i tab mc) := by
  obtain ⟨t, pc, w⟩ := hC.ex
  have hr : CallR (X.suite a ((a, oe) :: pn)) (.builtin "isinstance") (fun xs H Q => ∃ D, cls = .ref D ∧ ExcC X.K D ∧ DictAt H dd ∧ rIsE X.K D a xs H Q) := by
    intro pins s σ H xs us Q I r h
    obtain ⟨D, e1, hCx, h⟩ := h
    subst e1
    exact call_isEF hCx hz hf pins s σ H xs us Q I r h
  refine ⟨_, pe_callB hr hg hm PyProof.Rows.boot_isinstance (pa_cons (pe_var (i := i) hi hv hd hcd) (pa_cons pc pa_nil he2) he) (by decide) (by decide) he hpl, fun b S env st σ H Q I h => ?_⟩
  unfold mIsXF at h
  split at h
  · rename_i c u e
    obtain ⟨x, q1, q2, q3⟩ := I.exc i _ rfl e
    have rx : cls = .ref (G.cl c) ∧ DictAt S dd := by
      obtain ⟨c', fs⟩ := x
      cases fs with
      | none =>
        cases q1
        have z : dd = none := q3.2
        exact ⟨q3.1, by rw [z]; trivial⟩
      | some fs =>
        cases q1
        obtain ⟨g1, ad', vs, g2, g3, g4⟩ := q3
        have z : dd = some ad' := g2
        exact ⟨g1, by rw [z]; exact ⟨vs, g3⟩⟩
    refine ⟨_, q2, w b S env st σ H _ I (wpR_imp (wpR_bind h) (fun d st1 h1 => ?_) fun _ _ z => z)⟩
    intro v S1 H1 x1 su1 so1 r1
    cases et : tab c d with
    | none => rw [et] at h1; exact h1.elim
    | some bb =>
      rw [et] at h1
      obtain ⟨hE, cv, hcv, hk⟩ := ht c d bb et
      have hdd : DictAt H1 dd := by
        cases dd with
        | none => trivial
        | some ax => obtain ⟨fs, hx⟩ := rx.2; exact ⟨fs, su1 _ _ (x1.same _ _ hx)⟩
      exact ⟨_, rx.1, hK ▸ hE, hdd, v, cv, bb, rfl, cls_rel r1 hcv, hK ▸ hk, h1 _ _ _ x1 su1 so1 (.bl _)⟩
  · exact h.elim
end
/-! a string times a number -/
def rMulS : R2 := fun x y H Q => ∃ (z : Str) (n : Int), x = .str z ∧ y = .int n ∧ PySem.MulOk z n ∧ Q (.str (PySem.Txt.mul z n)) H
theorem op_mulS {X : Cx} : OpR X (binaryOp .Mult) rMulS := by
  intro pins s σ H x y v u Q I rx ry h
  obtain ⟨z, n, rfl, rfl, ok, q⟩ := h
  obtain ⟨t, rfl⟩ := rx
  obtain ⟨t', rfl⟩ := ry
  exact PySem.SB.mul ok fun tk k => ⟨.str (PySem.Txt.mul z n), H, I.kept (t' := k) fun _ _ z => z, ⟨tk, rfl⟩, q⟩
noncomputable def dMulS : D → D → Option D
  | .str z, .int n => @ite _ (PySem.MulOk z n) (Classical.propDecidable _) (some (.str (PySem.Txt.mul z n))) none
  | _, _ => none
theorem opd_mulS {G : Glb} : OpD G rMulS dMulS := ⟨fun ad S H st x y dx dy d Q su so rx ry e q => by
  unfold dMulS at e
  split at e
  · split at e
    · rename_i ok
      cases e
      cases rx; cases ry
      exact ⟨_, _, rfl, rfl, ok, Post.here su so (.str _) q⟩
    · cases e
  · cases e⟩
/-! len(x) by x's own __len__ -/
section
variable {X : Cx} {CX : CXT} {n : Nat} {C f : Addr} {fd : FuncData} {ps : List Str} {sp : Sp}
def rLenO (C : Addr) (sp : Sp) : List V → Hp → VK → Prop := fun xs H Q => ∃ (a dx : Addr) (fs : List (Str × V)), xs = [.ref a] ∧ H a = some (.ins C dx fs) ∧ sp [.ref a] H (fun v H' => (∃ k : Int, v = .int k ∧ 0 ≤ k ∧ k < 2 ^ 63) ∧ Q v H') (fun _ _ _ => False)
theorem call_lenO (F : FnOk X.prog X.w X.K X.mg X.base (L2.CX X.prog X.w) n f fd ps sp) (rm : Room (n + 1) X.A) (at_ : PySem.W.findIn X.K (.ref C) "__len__" = some (some (.ref f))) (isf : PySem.W.isFn X.K (.ref f) = true) (bn : Binds X.K fd ps []) : CallR X (.builtin "len") (rLenO C sp) := by
  intro pins s σ H xs us Q I r h
  obtain ⟨a, dx, fs, rfl, ha, go⟩ := h
  cases r with
  | cons rx rr =>
    cases rr
    cases rx
    obtain ⟨mA, J, _⟩ := ins_get I.hok ha
    obtain ⟨od, J, _⟩ := J.look
    obtain ⟨m, hF⟩ := I.fr
    refine PySem.W.len_K hF I.ok.mod.kin J at_ isf ?_
    have hl : ([Value.ref a] ++ [] : List Value).length = ps.length := F.len [V.ref a] _ _ _ go
    refine wpAny_call (codeAny_mono (F.run X.A.in1 X.stack s H ⟨[Value.ref a], []⟩ ([Value.ref a] ++ []) [V.ref a] _ _ rm.in1 I.env0.in1 (bn s [Value.ref a] I.kIn hl) (show Vals [V.ref a] ([Value.ref a] ++ []) from .cons rfl .nil) go) fun r s' hq => ?_)
    cases r with
    | error e => obtain ⟨_, _, _, _, _, _, _, _, _, _, _, _, z⟩ := hq; exact z.elim
    | ok fl =>
      cases fl with
      | next => exact False.elim hq
      | brk => exact False.elim hq
      | cont => exact False.elim hq
      | ret u =>
        obtain ⟨w, H', I', rw_, ⟨k, ek, k0, k1⟩, q⟩ := I.after hq
        subst ek
        obtain ⟨t, rfl⟩ := rw_
        exact ⟨⟨k0, k1⟩, .int k, H', I'.tok _, ⟨_, rfl⟩, q⟩
end
noncomputable def lenBack : D → M D
  | .int k => @ite _ (0 ≤ k ∧ k < 2 ^ 63) (Classical.propDecidable _) (fun st => .ok (.int k) st) (fun _ => .bad)
  | _ => fun _ => .bad
noncomputable def lenM (ci : Nat) (m : List D → M D) : D → M D := fun x st1 => match x with
  | .obj c fs => if c = ci then (noEr (m [.obj c fs] st1)).bind fun d => lenBack d else .bad
  | _ => .bad
noncomputable def mLenM (ci : Nat) (m : List D → M D) (me : ME) : ME := fun env st => (me env st).bind fun x => lenM ci m x
section
variable {G : Glb} {X : Cx} {W : WX} {O : Ow} {pos p : Pos} {e : Expr} {me : ME} {k j : Nat} {f : Addr} {fd : FuncData} {ps : List Str} {m : List D → M D} {ci : Nat}
theorem de_lenM (c : XC k G X W) (F : FnOk X.prog X.w X.K X.mg X.base (L2.CX X.prog X.w) j f fd ps (spD G 1 m)) (at_ : PySem.W.findIn G.K (.ref (G.cl ci)) "__len__" = some (some (.ref f))) (isf : PySem.W.isFn G.K (.ref f) = true) (bn : Binds X.K fd ps []) (hm : X.mg "len" = none)
    (he : DE G X W O e me) (hjk : j + 1 ≤ k := by decide) (hg : Gl X "len" := by rfl) (hst : starEach [e] X.env = (false, eval e X.env) :: starEach [] X.env := by rfl) (hpl : (backTo pos (starEach [] X.env)).any (·.1) = false := by rfl) : DE G X W O (.Call (.Name "len" p) [e] [] pos) (mLenM ci m me) := by
  have hK := c.K
  obtain ⟨t, pe, w⟩ := he.ex
  refine ⟨_, pe_callB (call_lenO (C := G.cl ci) F (c.hr.mono hjk) (hK ▸ at_) (hK ▸ isf) bn) hg hm PySem.boot_len (pa_cons pe pa_nil hst) (by decide) (by decide) hst hpl, fun b S env st σ H Q I h => w b S env st σ H _ I (wpR_imp (wpR_bind h) (fun dx st1 h1 => ?_) fun _ _ z => z)⟩
  intro x S1 H1 x1 su1 so1 r1
  unfold lenM at h1
  split at h1
  case h_2 => exact h1.elim
  rename_i cc fs
  split at h1
  case isFalse => exact h1.elim
  rename_i ok
  subst ok
  cases r1 with
  | obj h2 r2 =>
    rename_i aa dd vs
    refine ⟨aa, dd, vs, rfl, su1 _ _ h2, ⟨⟨S1, H1, b.ad⟩, _, st1, rfl, rfl, su1, so1, .cons (.obj h2 r2) .nil, ?_⟩⟩
    have hk2 := wpR_bind h1
    refine wpR_imp (wp_noEr hk2) (fun d st3 z => ?_) fun _ _ z => z
    intro v S3 H3 x3 su3 so3 r3
    unfold lenBack at z
    cases r3 with
    | int i =>
      dsimp only at z
      split at z
      · rename_i bd
        exact ⟨⟨i, rfl, bd.1, bd.2⟩, (Post.from_ x1 so1 z) (.int i) S3 H3 x3 su3 so3 (.int i)⟩
      · exact z.elim
    | _ => exact z.elim
end
/-! {}: only its type is known -/
theorem de_dic {G : Glb} {X : Cx} {W : WX} {O : Ow} {pos : Pos} : DE G X W O (.Dict [] [] pos) (mC .dic) :=
  ⟨_, pe_dnewK, fun b S env st σ H Q I h p hp => Post.new (st := st) I.sub I.sto hp (.dic upd_same) h⟩
end DL

/-! DL, 27th part: an error's __init__ that says super().__init__(..) first. -/
namespace DL
open PySem PySem.Spec PyProof.Rows L2
/-! ### the bound __init__ called -/
theorem call_mw {prog : Program} {w : World} {A : Around} {E : Value → Shared → Prop} {h : Heap} {g : Array GenState} {d : Drawn} {t : Nat} {os : OsState} {nm q : Str} {C N u e t0 : Addr} {bs bm : List Value} {hdct : Bool} {sn : List Str} {sub : List Value} {ab : Bool} {col : Option Bool} {dd : Option Addr} {k0 k1 k2 k3 k5 : Option Value} {rest : List Value} {Q : Value → Shared → Prop}
    (hC : h.get? C = some (excClassObj nm q C N bs bm hdct sn sub ab col dd k0 k1 k2 k3 k5 "ValueError.__new__")) (he : h.get? e = some (PySem.HandSPX.excO C t0)) (hu : h.get? u = some (PySem.W.kxs_mw "ValueError.__init__" e)) (hz : rest.length ≤ sizeLine)
    (hq : ∀ h' t1, (∀ b o, b ≠ e → h.get? b = some o → h'.get? b = some o) → h'.get? e = some (PySem.HandSPX.excO C t1) → Q .none ⟨h', g, d, t, os⟩) : wpAny (model prog w) A (call (.ref u) rest) Q E ⟨h, g, d, t, os⟩ := by
  have m1 : (Value.type "method-wrapper" == Value.type "method" || Value.type "method-wrapper" == Value.type "builtin_function_or_method" || Value.type "method-wrapper" == Value.type "method-wrapper") = true := by decide
  have fb := PySem.F.excBase_ValueError
  refine wpAny_call (codeAny_of_tree (show wpAny _ A.in1 (callAny (.ref u) ⟨rest, []⟩) _ _ _ from ?_))
  simp only [callAny]
  refine wpAny_bind (wpAny_load hu (show wpAny _ _ (if _ then _ else _) _ _ _ from ?_))
  refine PySem.W.KFB.if_so m1 (wpAny_bind (ESX.check_bound fb hC he rfl (wpAny_bind (wpAny_pure (wpAny_pure ⟨PySem.plainId_quiet fb.init.plain _, codeAny_builtin fb.initEntry ?_⟩)))))
  exact PySem.W.exc_init_tree (cls := .ref C) (t0 := t0) (dv := none) (c2 := .none) (c3 := .none) (b4 := .bool false) he hz fun h' k e' _ => hq h' _ k e'
/-! ### the def's scope and context -/
structure ScS (ps : List Str) (sc : Scope) : Prop where
  kind : sc.kind = .function
  co : sc.isCoroutine = false
  gen : sc.isGenerator = false
  nd : ps.Nodup
  par : ∀ x ∈ ps, sc.names.lookup x = some .local
  nocell : ∀ y ∈ sc.names, y.2 ≠ .cell
  onefree : ∀ y ∈ sc.names, y.2 = .free → y.1 = "__class__"
  cls : sc.names.lookup ("__class__" : Str) = some .free
  sup : sc.names.lookup ("super" : Str) = some .globalImplicit
def cxS (P : Program) (w : World) (K : PySem.W.Frag) (mg : Str → Option Value) (base : Heap) (ps : List Str) (qual : Str) (scope : Scope) (f : Addr) (cd : Value) (cc : Addr) (A : Around) (outer : List Env) (s : Shared) (H : Hp) (E : XK) : Cx :=
  let env := PySem.W.ksEnv qual scope s.heap.objs.size f cd cc
  ⟨P, w, K, mg, base, A.deeper env, ps, s, H, env, outer, env :: outer, [], fun _ => false, true, [], fun e s' => wpAny (model P w) (A.deeper env) (leaving env e) (fun _ s2 => L2.CX P w outer H s E e s2) (fun e' s2 => L2.CX P w outer H s E e' s2) s'⟩
theorem look_mem {l : List (Str × Value)} {x : Str} {v : Value} : (l.map (·.1)).Nodup → (x, v) ∈ l → l.lookup x = some v := by
  induction l with
  | nil => intro _ h; cases h
  | cons p l ih =>
    obtain ⟨y, u⟩ := p
    intro nd h
    rw [List.map_cons, List.nodup_cons] at nd
    rw [List.lookup_cons]
    rcases List.mem_cons.mp h with e | h
    · cases e; simp
    · have ne : (x == y) = false := by
        rw [beq_eq_false_iff_ne]
        intro z
        exact nd.1 (z ▸ List.mem_map.mpr ⟨_, h, rfl⟩)
      rw [ne]
      exact ih nd.2 h
theorem look_zip {ps : List Str} {us : List Value} {i : Nat} {x : Str} {v : Value} (nd : ps.Nodup) (hl : us.length = ps.length) (hx : ps[i]? = some x) (hv : us[i]? = some v) : (ps.zip us).reverse.lookup x = some v := by
  refine look_mem ?_ ?_
  · rw [List.map_reverse, List.map_fst_zip (by omega)]
    unfold List.Nodup
    rw [List.pairwise_reverse]
    exact nd.imp fun z => z.symm
  · rw [List.mem_reverse]
    have : (ps.zip us)[i]? = some (x, v) := by
      rw [List.getElem?_zip_eq_some]; exact ⟨hx, hv⟩
    exact List.mem_of_getElem? this
section
variable {P : Program} {w : World} {K : PySem.W.Frag} {mg : Str → Option Value} {base : Heap} {ps : List Str} {qual : Str} {scope : Scope} {f cc : Addr} {cd : Value} {A : Around} {outer : List Env} {s : Shared} {H : Hp} {E : XK}
theorem inv_startS {us : List Value} {vs : List V} {h₀ : Heap} {n : Nat} {cl : Value} {cld : Option Addr} {csl : Array (Option Value)} {D : Addr} (S : ScS ps scope) (hd : A.handled = none) (e0 : Env0 P w K mg base A outer s H) (hl : vs.length = ps.length) (r : Vals vs us)
    (lc : K.lookup cc = some ⟨cl, cld, .cell (some (.ref D)), csl⟩) (hk : ∀ b o, s.heap.get? b = some o → h₀.get? b = some o) (hn : h₀.Ns s.heap.objs.size fun x => (ps.zip us).reverse.lookup x) :
    Inv (cxS P w K mg base ps qual scope f cd cc A outer s H E) [] (start ps vs) H { s with heap := h₀, toks := s.toks + n } := by
  have noA : ∀ b : Addr, b ∉ (cxS P w K mg base ps qual scope f cd cc A outer s H E).ex := fun b z => absurd (show b ∈ ([] : List Addr) from z) (by simp)
  have one : ∀ x c, (cxS P w K mg base ps qual scope f cd cc A outer s H E).env.cells.lookup x = some c → x = "__class__" ∧ c = cc := fun x c h => by
    have h : List.lookup x [(("__class__" : Str), cc)] = some c := h
    rw [List.lookup_cons] at h
    split at h
    · rename_i e
      cases h
      exact ⟨by simpa using e, rfl⟩
    · cases h
  have bcc := e0.bs cc _ (e0.mod.kin _ _ lc)
  have lus : us.length = ps.length := by rw [← Paired.length r, hl]
  refine ⟨⟨e0.mod, S.kind, rfl, rfl, Nat.le_refl _, fun y z c h1 h2 => (one y c h1).1.trans (one z c h2).1.symm, fun y hy => ?_, fun y c z _ => Bool.noConfusion z, fun _ => hd, Around.frames_deeper e0.frames, .inr ⟨rfl, rfl⟩, fun b z => absurd z (noA b), e0.bs, e0.bsz, fun b _ _ => noA b, fun b z => absurd z (noA b), e0.funs, e0.frf⟩,
    rfl, e0.bare, Un.kept hk, ⟨_, hn, fun i y v h1 h2 h3 => ?_⟩, fun y c h => ⟨_, _, hk _ _ ((one y c h).2 ▸ bcc.1), rfl⟩, e0.hok.fresh (Nat.le_refl _), fun y c h => (one y c h).2 ▸ bcc.2, fun p hp => absurd (show p ∈ ([] : List (Addr × Obj)) from hp) (by simp), e0.hok.kept hk, ?_⟩
  · have hy : scope.names.lookup y = some .cell ∨ scope.names.lookup y = some .free := hy
    rcases hy with hy | hy
    · exact absurd rfl (S.nocell _ (PySem.mem_of_lookup hy))
    · have e := S.onefree _ (PySem.mem_of_lookup hy) rfl
      refine ⟨cc, ?_⟩
      show List.lookup y [(("__class__" : Str), cc)] = some cc
      rw [show y = "__class__" from e, List.lookup_cons]; simp
  · have ha : vs[i]? = some v := by
      unfold L2.start at h2
      by_cases hi : i < vs.length
      · rw [List.getElem?_append_left (by simpa using hi), List.getElem?_map] at h2
        cases e : vs[i]? with
        | none => rw [e] at h2; cases h2
        | some a => rw [e] at h2; cases h2; rfl
      · rw [List.getElem?_append_right (by simpa using hi), List.getElem?_replicate] at h2
        split at h2 <;> cases h2
    obtain ⟨u, hu, rv⟩ := r.get ha
    exact ⟨u, rv, .inl ⟨S.par y (List.mem_of_getElem? h1), look_zip S.nd lus h1 hu⟩⟩
  · unfold L2.start
    show _ = ps.length
    rw [List.length_append, List.length_map, List.length_replicate]
    omega
end
theorem Inv.with {X : Cx} {σ : L2.St} {H : Hp} {s : Shared} (I : Inv X [] σ H s) {p : Addr × Obj} (h1 : s.heap.get? p.1 = some p.2) (h2 : H p.1 = none) (h3 : p.1 ≠ X.env.locals) (h4 : p.1 ∉ X.fs) (h5 : ∀ v, p.2.data ≠ .cell v) : Inv X [p] σ H s :=
  ⟨I.ok, I.os, I.bare, I.base, I.loc, I.cell, I.free, I.freeC, fun q hq => by
    rcases List.mem_append.mp hq with z | z
    · exact I.pin q (List.mem_append_left _ z)
    · have e := List.mem_singleton.mp z
      subst e
      exact ⟨h1, h2, h3, h4, h5⟩, I.hok, I.len⟩
/-- another tuple of arguments in an error that is being made -/
theorem Inv.reargs {X : Cx} {pins : List (Addr × Obj)} {σ : L2.St} {H : Hp} {s : Shared} {h' : Heap} {t' : Nat} {a C t1 : Addr} (I : Inv X pins σ H s) (ha : H a = some (exo a C none)) (k : ∀ b o, b ≠ a → s.heap.get? b = some o → h'.get? b = some o) (e' : h'.get? a = some (PySem.HandSPX.excO C t1)) : Inv X pins σ H { s with heap := h', toks := t' } := by
  have na : ∀ {b : Addr}, H b = none → b ≠ a := fun {b} n z => by rw [z, ha] at n; cases n
  refine I.un { keep := fun b o q n _ _ => k b o (na n) q, slot := fun b o q n _ _ => ⟨o.slots, k b o (na n) q⟩, free := fun b o q n _ => n, there := fun b o q _ => ?_, tups := fun b xs q => q, frzs := fun b o v q => q, tbls := fun b ps q => ⟨#[], by rw [q]; simp⟩ } fun b o q => ?_
  · by_cases hb : b = a
    · exact ⟨_, hb ▸ e'⟩
    · exact ⟨o, k b o hb q⟩
  · by_cases hb : b = a
    · subst hb
      rw [ha] at q
      cases q
      exact exo_ok e'
    · exact (I.hok b o q).stay (fun c v hc z => k c v (by
        rcases hc with hc | hc
        · rw [hc]; exact hb
        · exact at_ne ha hc exo_own) z) (fun c hc => hc) (fun c xs hc => hc)
/-- a def of a class's body that says super() -/
structure FunS (P : Program) (K : PySem.W.Frag) (x qual : Str) (st : Stmt) (C : Addr) (f : Addr) (fd : FuncData) : Prop where
  ex : ∃ (oc : Value) (od : Option Addr) (kV doc pm : Value) (an : Option Addr) (cda cc : Addr) (ct : Value) (osl : Array (Option Value)) (cl ccl : Value) (cld cdd : Option Addr) (csl ccs : Array (Option Value)) (vs : Array Value) (file : Str) (tf : Tok),
    fd = PySem.W.ksFn x qual (defArgs st) (defBody st) (defScope st) .none kV doc pm an (.ref cda) ct cc ∧ K.lookup f = some ⟨oc, od, .func fd, osl⟩ ∧ PySem.W.codeIn K (.ref cda) qual = true ∧ K.lookup cc = some ⟨cl, cld, .cell (some (.ref C)), csl⟩ ∧ K.lookup cda = some ⟨ccl, cdd, .fields vs, ccs⟩ ∧ vs[2]? = some (.str file tf) ∧ ((P.main.file : Str) == file) = true
  kp : PySem.W.keepIn K (.ref f) = true
/-- what the written part says of the class, for super() -/
structure SupT (P : Program) (K : PySem.W.Frag) (mg : Str → Option Value) (C : Addr) : Prop where
  oc : OexC K C
  along : PySem.W.ks_superIn K C C "__init__" = some (some (.builtin "ValueError.__init__"))
  ve : PySem.W.subIn K (.ref C) (.type "ValueError") = some true
  own : PySem.W.mroIn K C (.ref C) = some true
  opq : PySem.W.nsIn K PySem.cStatics "thirdparty.any" = some none
  sup : mg "super" = none
  top : (P.main.scope.names.lookup ("super" : Str)).isSome = false
section
variable {P : Program} {w : World} {K : PySem.W.Frag} {mg : Str → Option Value} {base : Heap}
theorem fnSup {x qual : Str} {st : Stmt} {f C : Addr} {fd : FuncData} {y : Arg} {ps : List Str} {sp : Sp} {k : Nat} {e : Expr} {es : List Expr} {rest : List Stmt} {p0 p1 p2 p3 p4 : Pos} (F : FunS P K x qual st C f fd) (S : ScS ps (defScope st)) (T : SupT P K mg C)
    (hb : defBody st = .Expr (.Call (.Attribute (.Call (.Name "super" p0) [] [] p1) "__init__" p2) (e :: es) [] p3) p4 :: rest) (hy : ((defArgs st).posonlyargs ++ (defArgs st).args).head? = some y) (hy0 : ps[0]? = some y.arg)
    (len : ∀ vs H Q E, sp vs H Q E → vs.length = ps.length ∧ ∃ a ws, vs = .ref a :: ws ∧ H a = some (exo a C none))
    (hrun : ∀ (cd : Value) (cc : Addr) (A : Around) (outer : List Env) (s : Shared) (H : Hp) (vs : List V) (Q : VK) (E : XK), Room k (A.deeper (PySem.W.ksEnv qual (defScope st) s.heap.objs.size f cd cc)) → sp vs H Q E →
      ∃ ta t, PA (cxS P w K mg base ps qual (defScope st) f cd cc A outer s H E) (e :: es) ta ∧ PSs (cxS P w K mg base ps qual (defScope st) f cd cc A outer s H E) rest t ∧ ∀ QA : List V → Hp → Prop, (∀ us : List V, us.length ≤ 100 → QA us H) → ta (start ps vs) H QA ∧ t { nx := fun _ H' => Q .non H', rt := Q } (start ps vs) H)
    (he : ∀ env : Env, starEach (e :: es) env = (false, eval e env) :: starEach es env := by intros; rfl) (hpl : ∀ env : Env, (backTo p3 (starEach es env)).any (·.1) = false := by intros; rfl)
    (hi : ∀ env : Env, swapsWith (.Call (.Attribute (.Call (.Name "super" p0) [] [] p1) "__init__" p2) (e :: es) [] p3) none p4.line env = pure false := by intros; rfl)
    (hm : ∀ env : Env, eval (.Call (.Attribute (.Call (.Name "super" p0) [] [] p1) "__init__" p2) (e :: es) [] p3) env = (do
      let ov ← attributeBase (.Call (.Name "super" p0) [] [] p1) "__init__" env (eval (.Call (.Name "super" p0) [] [] p1) env)
      standAt p2.atName
      let (f, first) ← holding [ov] (getMethod ov "__init__" (pure false))
      callWith p3 f first (backTo p3 (starEach (e :: es) env)) []) := by intros; rfl) : FnOk P w K mg base (L2.CX P w) (k + 1) f fd ps sp := by
  obtain ⟨oc, od, kV, doc, pm, an, cda, cc, ct, osl, cl, ccl, cld, cdd, csl, ccs, fvs, file, tf, rfl, lk, hcd, lc, lcd, hvs, hfile⟩ := F.ex
  refine ⟨fun vs H Q E h => (len vs H Q E h).1, fun A outer s H args us vs Q E hr e0 hbd r hsp => ?_⟩
  obtain ⟨hl, a, ws, rfl, ha⟩ := len _ _ _ _ hsp
  have KX : K.In s.heap := e0.mod.kin.keeps fun b o q => (e0.bs b o q).1
  have lim : s.heap.NoLimit := e0.mod.nolimit.keeps fun b o q => (e0.bs b o q).1
  have hkind : ∀ z ∈ ps.zip us, (defScope st).names.lookup z.1 = some .local := fun ⟨n, v⟩ hz => S.par n (List.of_mem_zip hz).1
  refine PySem.ks_codeAny_call_defAt (fd := PySem.W.ksFn x qual (defArgs st) (defBody st) (defScope st) .none kV doc pm an (.ref cda) ct cc) (body := defBody st) (binds := ps.zip us) hr.depth (KX _ _ lk) rfl lim (PySem.W.codeRec_of KX hcd) rfl hbd S.nocell hkind (fun h₀ hns hk => ?_) S.co S.gen S.kind
  obtain ⟨ta, t, hpa, hps, hq⟩ := hrun (.ref cda) cc A outer s H _ Q E (hr.deeper _) hsp
  have I : Inv (cxS P w K mg base ps qual (defScope st) f (.ref cda) cc A outer s H E) [] (L2.start ps (.ref a :: ws)) H { s with heap := h₀, toks := s.toks + (ps.zip us).length } := inv_startS S hr.hd e0 hl r lc hk hns
  obtain ⟨hp, g, d, tk, os⟩ := s
  obtain ⟨nm, q, N, bs, bm, sn, sub, ab, col, dd, k0, k1, k2, k3, k5, hC, hbm⟩ := T.oc.cls
  have hcl : PySem.W.clsIn K C = some { name := nm, bases := bs, mro := .ref C :: bm, ns := N, qualname := q, hasDict := true, slotNames := sn, subclasses := sub, abstract := ab, collection := col, hasDel := false } := by unfold PySem.W.clsIn; rw [hC] <;> rfl
  obtain ⟨t0, hoa⟩ := exo_at I.hok ha
  have iA : PySem.W.InstAt h₀ a (PySem.HandSPX.excO C t0) C none := ⟨hoa, rfl, rfl, trivial⟩
  have hal := T.along
  unfold PySem.W.ks_superIn at hal
  rw [hcl] at hal
  have my : (fun z => (ps.zip us).reverse.lookup z) y.arg = some (Value.ref a) := by
    cases r with
    | cons rx rr => cases rx; exact look_zip S.nd (by have := Paired.length rr; simp only [List.length_cons] at hl ⊢; omega) hy0 rfl
  obtain ⟨mb, hb1, hb2⟩ := I.mod.blt
  rw [hb]
  refine PySem.ks_wpAt_execs_cons (PySem.ks_wpAt_Expr_any (PySem.ks_wpAt_MethodCall ?_ (hm _)) (by show ((defScope st).kind == .module && _) = false; rw [S.kind]; rfl) (hi _))
  refine PySem.ks_wpAt_super_base (f := f) (cc := cda) S.sup S.cls (by decide) rfl (I.kIn _ _ lk) rfl hy rfl (I.kIn _ _ lcd) rfl hvs hfile T.top ?_
  refine PySem.W.ks_loadName_global S.kind S.sup (PySem.Calls.loadGlobal_builtin (I.mod.glob.keeps I.bk) T.sup (hb1.keeps I.bk) ((hb2 _ (by decide)).trans (show bootBuiltins "super" = some (.type "super") by decide +kernel)) ⟨rfl, ?_⟩)
  refine wpAny_loadName_free S.kind S.cls rfl ⟨_, I.kIn _ _ lc, rfl⟩ ?_
  refine wpAny_loadName_local S.kind (S.par _ (List.mem_of_getElem? hy0)) hns my ?_
  refine PySem.ks_wpAny_isType_cls (I.kIn _ _ hC) rfl ⟨rfl, ?_⟩
  refine PySem.ks_wpAny_call_super (I.kIn _ _ hC) rfl hoa rfl (fun c z => by cases z) (PySem.W.looks_mroIn I.kIn T.own) (fun h1 e1 kk1 => ?_)
  have I1 := I.kept (t' := tk + (ps.zip (us)).length) kk1
  have hoa1 := kk1 _ _ hoa
  have iB : PySem.W.InstAt h1 a (PySem.HandSPX.excO C t0) C none := ⟨hoa1, rfl, rfl, trivial⟩
  refine PySem.W.kxs_getMethod PySem.W.kxs_ValueError e1 (PySem.W.looks_opaque I1.kIn T.opq) (l₀ := .ref C :: bm) ((PySem.W.looks_clsIn I1.kIn hcl).andThen .now) rfl I1.kIn hal ((PySem.W.InstAt.type iB).andThen (PySem.W.looks_subIn I1.kIn T.ve)) (PySem.W.ks_ne I1.kIn iB hcl) (by decide) ?_
  have gu : (h1.push (PySem.W.kxs_mw "ValueError.__init__" a)).get? h1.objs.size = some (PySem.W.kxs_mw "ValueError.__init__" a) := Heap.get?_push_at rfl rfl
  have kk2 : ∀ b o, h1.get? b = some o → (h1.push (PySem.W.kxs_mw "ValueError.__init__" a)).get? b = some o := fun b o z => Heap.get?_push_of_some _ z
  have I2 := Inv.with (I1.kept (t' := tk + (ps.zip (us)).length + 1) kk2) (p := (h1.objs.size, PySem.W.kxs_mw "ValueError.__init__" a)) gu (I1.hok.fresh (Nat.le_refl _)) (Nat.ne_of_gt I1.lt) (I1.nofs (Nat.le_refl _)) (fun v z => by cases z)
  have hz2 := (hq (fun us H1 => H1 = H ∧ us.length ≤ 100) fun us hu => ⟨rfl, hu⟩).1
  have ht2 := (hq (fun us H1 => H1 = H ∧ us.length ≤ 100) fun us hu => ⟨rfl, hu⟩).2
  have hev := hpa.run p3 _ _ _ H _ I2 hz2
  rw [he] at hev ⊢
  refine PySem.W.kxs_callWith (i := "ValueError.__init__") (x := a) (show (false || (backTo p3 (starEach es _)).any (·.1)) = false from (Bool.false_or _).trans (hpl _)) (PySem.Calls.evalArgs_plain (thn hev fun us2 s2 ⟨vs2, H2, I3, rv, eH, hz⟩ => ?_))
  subst eH
  refine ⟨(I3.pin _ (List.mem_append_right _ (List.mem_singleton.mpr rfl))).1, ?_⟩
  obtain ⟨t3, hoa3⟩ := exo_at I3.hok ha
  have hu3 := (I3.pin _ (List.mem_append_right _ (List.mem_singleton.mpr rfl))).1
  obtain ⟨h3, g3, d3, tk3, os3⟩ := s2
  refine call_mw (I3.kIn _ _ hC) hoa3 hu3 (by show us2.length ≤ sizeLine; have := Paired.length rv; rw [← this]; exact Nat.le_trans hz (by decide)) (fun h4 t4 k4 e4 => ?_)
  have I4 := DL.Inv.reargs (t' := tk3) I3 ha k4 e4
  refine wpAt_of_wpAny (wpAny_mono (hps.run _ _ _ _ _ I4 ht2) (fun fl s' hs => ?_) fun er s' hs => hs)
  cases fl with
  | ret u =>
    obtain ⟨v, σ', H', J, rv', q'⟩ := hs
    exact ⟨v, H', J.os, J.bare, J.base, J.hok, rv', q'⟩
  | next =>
    obtain ⟨σ', H', J, q'⟩ := hs
    exact ⟨V.non, H', J.os, J.bare, J.base, J.hok, rfl, q'⟩
  | brk => exact hs.choose_spec.choose_spec.2.elim
  | cont => exact hs.choose_spec.choose_spec.2.elim
end
end DL

/-! DL, 28th part: errors whose __init__ says super().__init__(..), raised. -/
namespace DL
open PySem PySem.Spec PyProof.Rows L2
/-- an expression that is some value, the heap as it was -/
def EvOk (X : Cx) (σ : L2.St) (H : Hp) (e : Expr) : Prop := ∃ te, PE X e te ∧ ∀ Q : VK, (∀ v, Q v H) → te σ H Q
def ArOk (X : Cx) (σ : L2.St) (H : Hp) (es : List Expr) : Prop := ∃ ta, PA X es ta ∧ ∀ Q : List V → Hp → Prop, (∀ us : List V, us.length = es.length → Q us H) → ta σ H Q
section
variable {X : Cx} {σ : L2.St} {H : Hp} {e : Expr} {es : List Expr} {pos p : Pos}
theorem ao_nil : ArOk X σ H [] := ⟨_, pa_nil, fun Q h => h [] rfl⟩
theorem ao_cons (he : EvOk X σ H e) (hr : ArOk X σ H es) (hs : starEach (e :: es) X.env = (false, eval e X.env) :: starEach es X.env := by rfl) : ArOk X σ H (e :: es) := by
  obtain ⟨te, pe, we⟩ := he
  obtain ⟨ta, pa, wa⟩ := hr
  exact ⟨_, pa_cons pe pa hs, fun Q h => we _ fun v => wa _ fun us hu => h (v :: us) (by simp [hu])⟩
theorem eo_str {x : Str} {j : Nat} : EvOk X σ H (.Constant (.str x) j pos) := ⟨_, pe_str, fun Q h => h _⟩
theorem eo_var {x : Str} {v : V} (i : Nat) (hσ : σ[i]? = some (some v)) (hN : X.N[i]? = some x) (hv : Vis X.env.scope x) (hd : (x == ("__debug__" : Str)) = false := by decide) (hcd : (x == ("__classdict__" : Str)) = false := by decide) : EvOk X σ H (.Name x pos) :=
  ⟨_, pe_var (i := i) hN hv hd hcd, fun Q h => ⟨v, hσ, h v⟩⟩
theorem eo_strInt {x : Str} {n : Int} (i : Nat) (hσ : σ[i]? = some (some (.int n))) (hz : n.natAbs.log2 < 1920) (hg : Gl X "str") (hm : X.mg "str" = none) (hN : X.N[i]? = some x) (hv : Vis X.env.scope x) {p2 : Pos} (hd : (x == ("__debug__" : Str)) = false := by decide) (hcd : (x == ("__classdict__" : Str)) = false := by decide)
    (he : starEach [.Name x p2] X.env = (false, eval (.Name x p2) X.env) :: starEach [] X.env := by rfl) (hpl : (backTo pos (starEach [] X.env)).any (·.1) = false := by rfl) : EvOk X σ H (.Call (.Name "str" p) [.Name x p2] [] pos) :=
  ⟨_, pe_callTy call_str_int hg hm (show bootBuiltins "str" = some (.type "str") by decide +kernel) (pa_cons (pe_var (i := i) hN hv hd hcd) pa_nil he) (by decide) (by decide) he hpl, fun Q h => ⟨_, hσ, n, rfl, hz, h _⟩⟩
theorem eo_fInt {x a b : Str} {n : Int} {j1 j2 : Nat} {c1 c2 c3 c4 : Pos} (i : Nat) (hσ : σ[i]? = some (some (.int n))) (hz : n.natAbs.log2 < 1920) (hab : a.length + b.length ≤ 1000) (hN : X.N[i]? = some x) (hv : Vis X.env.scope x) (hd : (x == ("__debug__" : Str)) = false := by decide) (hcd : (x == ("__classdict__" : Str)) = false := by decide) :
    EvOk X σ H (.JoinedStr [.Constant (.str a) j1 c1, .FormattedValue (.Name x c2) (-1) none c3, .Constant (.str b) j2 c4] pos) := by
  have z : ∀ y z : Str, (y ++ z).length = y.length + z.length := fun y z => by
    show (y ++ z).cps.size = y.cps.size + z.cps.size
    exact Array.size_append
  have zi : (Str.ofString (toString n)).length ≤ 2000 := by
    have q := int_text_length_le (k := 1920) (by decide) hz
    rw [PySem.ofString_length]; omega
  have ze : Str.empty.length = 0 := rfl
  have zs : (3000 : Nat) ≤ sizeLine := by decide
  have pc : ∀ {x : Str} {j : Nat} {c : Pos}, PE X (.Constant (.str x) j c) (tC (.str x)) := fun {x j c} => pe_str
  refine ⟨_, pe_joined (.cons pc (.cons (pe_fmt (pe_var (i := i) hN hv hd hcd)) (.cons pc .nil))), fun Q h => ?_⟩
  refine ⟨a, rfl, by rw [z, ze]; omega, ⟨_, hσ, .inr ⟨n, rfl, hz, _, rfl, ?_, b, rfl, ?_, h _⟩⟩⟩
  · rw [z, z, ze]
    show _ + (Str.ofString (toString n)).length ≤ _
    omega
  · rw [z, z, z, ze]
    show _ + (Str.ofString (toString n)).length + _ ≤ _
    omega
end
section
variable {P : Program} {K : PySem.W.Frag} {x qual : Str} {st : Stmt} {C f : Addr} {fd : FuncData}
theorem funS_mk {oc : Value} {od an : Option Addr} {kV doc pm ct : Value} {cda cc : Addr} {osl : Array (Option Value)} {cl ccl : Value} {cld cdd : Option Addr} {csl ccs : Array (Option Value)} {vs : Array Value} {file : Str} {tf : Tok}
    (l : K.lookup f = some ⟨oc, od, .func (PySem.W.ksFn x qual (defArgs st) (defBody st) (defScope st) .none kV doc pm an (.ref cda) ct cc), osl⟩) (c : PySem.W.codeIn K (.ref cda) qual = true) (k : PySem.W.keepIn K (.ref f) = true) (lc : K.lookup cc = some ⟨cl, cld, .cell (some (.ref C)), csl⟩) (ld : K.lookup cda = some ⟨ccl, cdd, .fields vs, ccs⟩) (hv : vs[2]? = some (.str file tf)) (hf : ((P.main.file : Str) == file) = true) :
    FunS P K x qual st C f (PySem.W.ksFn x qual (defArgs st) (defBody st) (defScope st) .none kV doc pm an (.ref cda) ct cc) :=
  ⟨⟨oc, od, kV, doc, pm, an, cda, cc, ct, osl, cl, ccl, cld, cdd, csl, ccs, vs, file, tf, rfl, l, c, lc, ld, hv, hf⟩, k⟩
theorem FunS.binds {ps : List Str} (F : FunS P K x qual st C f fd) (h : ∀ (kV doc pm : Value) (an : Option Addr) (cda ct : Value) (cc : Addr) (us : List Value), us.length = ps.length → bindArgs (PySem.W.ksFn x qual (defArgs st) (defBody st) (defScope st) .none kV doc pm an cda ct cc) ⟨us, []⟩ = pure (ps.zip us)) : Binds K fd ps [] := by
  obtain ⟨oc, od, kV, doc, pm, an, cda, cc, ct, osl, cl, ccl, cld, cdd, csl, ccs, vs, file, tf, rfl, _⟩ := F.ex
  exact .all (h kV doc pm an (.ref cda) ct cc)
structure MetS (P : Program) (K : PySem.W.Frag) (x qual : Str) (st : Stmt) (ps : List Str) (C f : Addr) (fd : FuncData) : Prop where
  F : FunS P K x qual st C f fd
  b : Binds K fd ps []
end
/-- the fields of an error, its arguments asked for something -/
def spXP (C : Addr) (fs : List Str) (ok : List V → Prop) : Sp := fun vs H Q E => spX C fs vs H Q E ∧ ∃ (a : Addr) (ws : List V), vs = .ref a :: ws ∧ ok ws
section
variable {P : Program} {w : World} {K : PySem.W.Frag} {mg : Str → Option Value} {base : Heap}
theorem fnSup1 {qual : Str} {st : Stmt} {f C : Addr} {fd : FuncData} {y p1 f1 : Str} {ya : Arg} {k : Nat} {e : Expr} {es : List Expr} {p0 c1 p2 p3 p4 q1 q2 q3 q4 : Pos} (ok : List V → Prop) (F : FunS P K "__init__" qual st C f fd) (S : ScS [y, p1] (defScope st)) (T : SupT P K mg C) (n1 : PySem.W.findIn K (.ref C) f1 = some none)
    (hb : defBody st = [.Expr (.Call (.Attribute (.Call (.Name "super" p0) [] [] c1) "__init__" p2) (e :: es) [] p3) p4, .Assign [.Attribute (.Name y q1) f1 q2] (.Name p1 q3) q4])
    (hy : ((defArgs st).posonlyargs ++ (defArgs st).args).head? = some ya) (hya : ya.arg = y)
    (har : ∀ (X : Cx) (a : Addr) (v : V) (H : Hp), X.N = [y, p1] → X.env.scope = defScope st → X.mg = mg → ok [v] → ArOk X [some (.ref a), some v] H (e :: es)) (hlen : (e :: es).length ≤ 100)
    (he : ∀ env : Env, starEach (e :: es) env = (false, eval e env) :: starEach es env := by intros; rfl) (hpl : ∀ env : Env, (backTo p3 (starEach es env)).any (·.1) = false := by intros; rfl)
    (hi : ∀ env : Env, swapsWith (.Call (.Attribute (.Call (.Name "super" p0) [] [] c1) "__init__" p2) (e :: es) [] p3) none p4.line env = pure false := by intros; rfl)
    (hm : ∀ env : Env, eval (.Call (.Attribute (.Call (.Name "super" p0) [] [] c1) "__init__" p2) (e :: es) [] p3) env = (do
      let ov ← attributeBase (.Call (.Name "super" p0) [] [] c1) "__init__" env (eval (.Call (.Name "super" p0) [] [] c1) env)
      standAt p2.atName
      let (f, first) ← holding [ov] (getMethod ov "__init__" (pure false))
      callWith p3 f first (backTo p3 (starEach (e :: es) env)) []) := by intros; rfl)
    (d0 : (y == ("__debug__" : Str)) = false := by decide) (c0 : (y == ("__classdict__" : Str)) = false := by decide) (d1 : (p1 == ("__debug__" : Str)) = false := by decide) (cl1 : (p1 == ("__classdict__" : Str)) = false := by decide) : FnOk P w K mg base (L2.CX P w) (k + 1) f fd [y, p1] (spXP C [f1] ok) := by
  refine fnSup (y := ya) F S T hb hy (by rw [hya]; rfl) (fun vs H Q E h => ?_) (fun cd cc A outer s H vs Q E hr h => ?_) he hpl hi hm
  · obtain ⟨⟨a, ws, rfl, hl, ha, _⟩, _⟩ := h
    exact ⟨by rw [List.length_cons, hl]; rfl, a, ws, rfl, ha⟩
  · obtain ⟨⟨a, ws, rfl, hl, ha, hq⟩, a', ws', e', hok⟩ := h
    cases e'
    obtain ⟨v1, rfl⟩ := List.length_eq_one_iff.mp hl
    obtain ⟨ta, pa, wa⟩ := har (cxS P w K mg base [y, p1] qual (defScope st) f cd cc A outer s H E) a v1 H rfl rfl rfl hok
    refine ⟨ta, _, pa, pss_one (ps_ost (pe_var (i := 0) rfl (.inl (S.par _ (by simp))) d0 c0) (pe_var (i := 1) rfl (.inl (S.par _ (by simp))) d1 cl1)), fun QA hQ => ⟨wa _ fun us hu => hQ us (by omega), ?_⟩⟩
    exact ⟨_, rfl, _, rfl, a, C, rfl, T.oc, n1, .inl ⟨ha, fun dx h1 h2 => hq dx _ h1 h2 upd_same ((upd_ne h2).trans upd_same) fun b hb1 hb2 => (upd_ne hb1).trans (upd_ne hb2)⟩⟩
theorem fnSup2 {qual : Str} {st : Stmt} {f C : Addr} {fd : FuncData} {y p1 f1 pb f2 : Str} {ya : Arg} {k : Nat} {e : Expr} {es : List Expr} {p0 c1 p2 p3 p4 q1 q2 q3 q4 r1 r2 r3 r4 : Pos} (ok : List V → Prop) (F : FunS P K "__init__" qual st C f fd) (S : ScS [y, p1, pb] (defScope st)) (T : SupT P K mg C) (n1 : PySem.W.findIn K (.ref C) f1 = some none) (n2 : PySem.W.findIn K (.ref C) f2 = some none)
    (hb : defBody st = [.Expr (.Call (.Attribute (.Call (.Name "super" p0) [] [] c1) "__init__" p2) (e :: es) [] p3) p4, .Assign [.Attribute (.Name y q1) f1 q2] (.Name p1 q3) q4, .Assign [.Attribute (.Name y r1) f2 r2] (.Name pb r3) r4])
    (hy : ((defArgs st).posonlyargs ++ (defArgs st).args).head? = some ya) (hya : ya.arg = y)
    (har : ∀ (X : Cx) (a : Addr) (v u : V) (H : Hp), X.N = [y, p1, pb] → X.env.scope = defScope st → X.mg = mg → ok [v, u] → ArOk X [some (.ref a), some v, some u] H (e :: es)) (hlen : (e :: es).length ≤ 100)
    (he : ∀ env : Env, starEach (e :: es) env = (false, eval e env) :: starEach es env := by intros; rfl) (hpl : ∀ env : Env, (backTo p3 (starEach es env)).any (·.1) = false := by intros; rfl)
    (hi : ∀ env : Env, swapsWith (.Call (.Attribute (.Call (.Name "super" p0) [] [] c1) "__init__" p2) (e :: es) [] p3) none p4.line env = pure false := by intros; rfl)
    (hm : ∀ env : Env, eval (.Call (.Attribute (.Call (.Name "super" p0) [] [] c1) "__init__" p2) (e :: es) [] p3) env = (do
      let ov ← attributeBase (.Call (.Name "super" p0) [] [] c1) "__init__" env (eval (.Call (.Name "super" p0) [] [] c1) env)
      standAt p2.atName
      let (f, first) ← holding [ov] (getMethod ov "__init__" (pure false))
      callWith p3 f first (backTo p3 (starEach (e :: es) env)) []) := by intros; rfl)
    (d0 : (y == ("__debug__" : Str)) = false := by decide) (c0 : (y == ("__classdict__" : Str)) = false := by decide) (d1 : (p1 == ("__debug__" : Str)) = false := by decide) (cl1 : (p1 == ("__classdict__" : Str)) = false := by decide) (d2 : (pb == ("__debug__" : Str)) = false := by decide) (cl2 : (pb == ("__classdict__" : Str)) = false := by decide) : FnOk P w K mg base (L2.CX P w) (k + 1) f fd [y, p1, pb] (spXP C [f1, f2] ok) := by
  refine fnSup (y := ya) F S T hb hy (by rw [hya]; rfl) (fun vs H Q E h => ?_) (fun cd cc A outer s H vs Q E hr h => ?_) he hpl hi hm
  · obtain ⟨⟨a, ws, rfl, hl, ha, _⟩, _⟩ := h
    exact ⟨by rw [List.length_cons, hl]; rfl, a, ws, rfl, ha⟩
  · obtain ⟨⟨a, ws, rfl, hl, ha, hq⟩, a', ws', e', hok⟩ := h
    cases e'
    obtain ⟨v1, v2, rfl⟩ : ∃ v1 v2, ws = [v1, v2] := by
      match ws, hl with
      | [v1, v2], _ => exact ⟨_, _, rfl⟩
    obtain ⟨ta, pa, wa⟩ := har (cxS P w K mg base [y, p1, pb] qual (defScope st) f cd cc A outer s H E) a v1 v2 H rfl rfl rfl hok
    refine ⟨ta, _, pa, pss_cons (ps_ost (pe_var (i := 0) rfl (.inl (S.par _ (by simp))) d0 c0) (pe_var (i := 1) rfl (.inl (S.par _ (by simp))) d1 cl1)) (pss_one (ps_ost (pe_var (i := 0) rfl (.inl (S.par _ (by simp))) d0 c0) (pe_var (i := 2) rfl (.inl (S.par _ (by simp))) d2 cl2))), fun QA hQ => ⟨wa _ fun us hu => hQ us (by omega), ?_⟩⟩
    refine ⟨_, rfl, _, rfl, a, C, rfl, T.oc, n1, .inl ⟨ha, fun dx h1 h2 => ?_⟩⟩
    refine ⟨_, rfl, _, rfl, a, C, rfl, T.oc, n2, .inr ⟨dx, _, upd_same, (upd_ne h2).trans upd_same, by simp, ?_⟩⟩
    exact hq dx _ h1 h2 ((upd_ne (Ne.symm h2)).trans upd_same) upd_same fun b hb1 hb2 => (upd_ne hb2).trans ((upd_ne hb1).trans (upd_ne hb2))
end
/-- raised, its arguments looked at -/
def mRaiseG (c : Nat) (fs : List Str) (okD : List D → Bool) (ma : MA) : MS := fun env st => match ma env st with
  | .ok ds st1 => if ds.length = fs.length ∧ ds.length ≤ 100 ∧ okD ds = true then .er ⟨c, some (fs.zip ds).reverse⟩ env st1 else .bad
  | .err x st1 => .er x env st1
  | .bad => .bad
section
variable {G : Glb} {X : Cx} {W : WX} {Ob : Ow} {OE : Ow → Prop} {O O1 : Ow} {pos p pos' : Pos} {k j : Nat} {x : Str} {c : Nat} {fI : Addr} {fd : FuncData} {ps fs : List Str} {e : Expr} {es : List Expr} {ma : MA} {okV : List V → Prop} {okD : List D → Bool}
theorem ds_raiseG (xc : XC k G X W) (T : OexT G X.mg x c fI fs) (F : FnOk X.prog X.w X.K X.mg X.base (L2.CX X.prog X.w) j fI fd ps (spXP (G.cl c) fs okV)) (hk : ∀ (ad : List Addr) (S : Hp) (vs : List V) (ds : List D), Reps G ad S vs ds → okD ds = true → okV vs) (hb : Binds X.K fd ps []) (ha : DA G X W O (e :: es) ma) (hjk : j + 1 ≤ k := by decide) (hO : OE O := by first | trivial | rfl) (hg : Gl X x := by rfl) (hdb : (x == ("__debug__" : Str)) = false := by decide)
    (he : starEach (e :: es) X.env = (false, eval e X.env) :: starEach es X.env := by rfl) (hpl : (backTo pos' (starEach es X.env)).any (·.1) = false := by rfl) :
    DS G X W Ob OE O (.Raise (some (.Call (.Name x p) (e :: es) [] pos')) none pos) O1 (mRaiseG c fs okD ma) := by
  obtain ⟨t, pa, w⟩ := ha.ex
  have hK := xc.K
  refine ⟨_, ps_raise xc.calm xc.tk (pmk_oex (hK ▸ T.oc) (hK ▸ T.in_) (hK ▸ T.tI) F (xc.hr.mono hjk) hb (dvs := []) .nil (fun _ _ _ _ _ _ _ z => by obtain ⟨_, _, _, _, _, _, _, _, _, _, _, _, z⟩ := z; exact z.elim) hg T.g pa hdb he hpl), fun b S env st σ H D I h => ?_⟩
  unfold mRaiseG at h
  refine w b S env st σ H _ I ?_
  cases ea : ma env st with
  | ok ds st1 =>
    rw [ea] at h
    dsimp only at h
    split at h
    case isFalse => exact h.elim
    rename_i hn
    intro vs S1 H1 x1 su1 so1 r1
    refine ⟨by rw [r1.len]; omega, fun a h1 => ⟨⟨a, vs, by rw [List.append_nil], by rw [r1.len]; exact hn.1, upd_same, fun dx H2 g1 g2 g3 g4 g5 => ?_⟩, a, vs, by rw [List.append_nil], hk _ _ _ _ r1 hn.2.2⟩⟩
    have g1' : H1 dx = none := by rwa [upd_ne g2] at g1
    refine ⟨rfl, dx, _, g3, g4, g1', ?_⟩
    have eH : upd (del H2 a) dx (.xd (fs.zip vs).reverse) = upd H1 dx (.xd (fs.zip vs).reverse) := by
      funext q
      by_cases hq : q = dx
      · subst hq; rw [upd_same, upd_same]
      · rw [upd_ne hq, upd_ne hq]
        by_cases hq2 : q = a
        · subst hq2; rw [del_same, h1]
        · rw [del_ne hq2, g5 q hq2 hq, upd_ne hq2]
    rw [eH]
    have I1 := I.ext x1 su1 so1
    have sS : S1 dx = none := by
      cases z : S1 dx with
      | none => rfl
      | some o => have := su1 dx o z; rw [g1'] at this; cases this
    have nad : dx ∉ b.ad := fun z => by
      obtain ⟨_, vs', hv⟩ := so1.has z
      rw [g1'] at hv; cases hv
    have sm : Same S1 (upd S1 dx (.xd (fs.zip vs).reverse)) := fun q o hq => by
      rw [upd_ne (fun z => by rw [z, sS] at hq; cases hq)]; exact hq
    have x2 : Ext b.ad S1 H1 (upd S1 dx (.xd (fs.zip vs).reverse)) (upd H1 dx (.xd (fs.zip vs).reverse)) := by
      refine ⟨sm, fun q o hq => ?_, fun q o hq _ => ?_⟩
      · by_cases z : q = dx
        · subst z; exact .inr g1'
        · rw [upd_ne z] at hq; exact .inl hq
      · exact .refl (by rw [upd_ne (fun z => by rw [z, g1'] at hq; cases hq)]; exact hq)
    have su2 : Same (upd S1 dx (.xd (fs.zip vs).reverse)) (upd H1 dx (.xd (fs.zip vs).reverse)) := fun q o hq => by
      by_cases z : q = dx
      · subst z; rw [upd_same] at hq ⊢; exact hq
      · rw [upd_ne z] at hq ⊢; exact su1 q o hq
    have so2 : StoOk G b.ad (upd S1 dx (.xd (fs.zip vs).reverse)) st1 (upd H1 dx (.xd (fs.zip vs).reverse)) :=
      (so1.grow fun q o hq hh => by rw [upd_ne (show q ≠ dx from fun z => hq.elim (fun w => nad (z ▸ w)) fun _ => by rw [z, g1'] at hh; cases hh)]; exact hh).known sm (fun q hq => by
        rw [upd_ne (show q ≠ dx from fun z => nad (z ▸ hq))]; exact (so1.has hq).1) fun q ⟨_, hh⟩ hq => by
          rw [upd_ne (fun z => by rw [z, upd_same] at hh; cases hh)]; exact hq
    exact h _ _ O _ σ _ hO (x1.same.trans x2.same) (I1.ext x2 su2 so2) ⟨rfl, dx, _, rfl, upd_same, (repF_zip fs (r1.mono sm)).rev⟩
  | err y st1 =>
    rw [ea] at h
    intro cls dd S' H' x' su so r
    exact h cls dd O S' σ H' hO x'.same (I.ext x' su so) r
  | bad => rw [ea] at h; exact h.elim
end
/-- any arguments -/
def okAny : List D → Bool := fun _ => true
def okAnyV : List V → Prop := fun _ => True
theorem hk_any (ad : List Addr) (S : Hp) (vs : List V) (ds : List D) {G : Glb} (_ : Reps G ad S vs ds) (_ : okAny ds = true) : okAnyV vs := trivial
/-- the first is a number, not too long -/
def okInt0 : List D → Bool
  | .int i :: _ => decide (i.natAbs.log2 < 1920)
  | _ => false
def okInt0V : List V → Prop := fun vs => ∃ (i : Int) (r : List V), vs = .int i :: r ∧ i.natAbs.log2 < 1920
theorem hk_int0 (ad : List Addr) (S : Hp) (vs : List V) (ds : List D) {G : Glb} (r : Reps G ad S vs ds) (h : okInt0 ds = true) : okInt0V vs := by
  cases r with
  | nil => cases h
  | cons a r =>
    cases a with
    | int i => exact ⟨i, _, rfl, by simpa [okInt0] using h⟩
    | _ => cases h
theorem ev8 : ∀ (c : Nat) (fs : List Str) (okD : List D → Bool) (ma : MA) (env : Env') (st : List D), mRaiseG c fs okD ma env st = match ma env st with
  | .ok ds st1 => if ds.length = fs.length ∧ ds.length ≤ 100 ∧ okD ds = true then .er ⟨c, some (fs.zip ds).reverse⟩ env st1 else .bad
  | .err x st1 => .er x env st1
  | .bad => .bad := fun _ _ _ _ _ _ => rfl
end DL

/-! DL, 29th part: a walk over an owned list that stays owned (a cell meanwhile); list(range(a, b)). -/
namespace DL
open PySem PySem.Spec PyProof.Rows L2
mutual
/-- no token from n on -/
def tokLt (n : Nat) : D → Bool
  | .tok k => decide (k < n)
  | .tup xs => tokLts n xs
  | .lst xs => tokLts n xs
  | .rol xs => tokLts n xs
  | .obj _ fs => tokLtF n fs
  | .non => true
  | .bl _ => true
  | .int _ => true
  | .str _ => true
  | .ty _ => true
  | .cls _ => true
  | .dic => true
  | .tpx xs => tokLts n xs
def tokLts (n : Nat) : List D → Bool
  | [] => true
  | d :: ds => tokLt n d && tokLts n ds
def tokLtF (n : Nat) : List (Str × D) → Bool
  | [] => true
  | p :: r => tokLt n p.2 && tokLtF n r
end
section
variable {G : Glb} {ad : List Addr} {a : Addr} {S : Hp}
mutual
theorem Rep.more : ∀ {v : V} {d : D}, Rep G ad S v d → Rep G (ad ++ [a]) S v d
  | _, _, .non => .non
  | _, _, .bl b => .bl b
  | _, _, .int i => .int i
  | _, _, .str x => .str x
  | _, _, .ty n => .ty n
  | _, _, .tup h r => .tup h (Reps.more r)
  | _, _, .lst h r => .lst h (Reps.more r)
  | _, _, .rol h r => .rol h (Reps.more r)
  | _, _, .obj h r => .obj h (RepF.more r)
  | _, _, .cls c => .cls c
  | _, _, .tok h => .tok (by rw [List.getElem?_append_left (List.getElem?_eq_some_iff.mp h).1]; exact h)
  | _, _, .dic h => .dic h
  | _, _, .tpx q h n r => .tpx q h n (Reps.more r)
theorem Reps.more : ∀ {vs : List V} {ds : List D}, Reps G ad S vs ds → Reps G (ad ++ [a]) S vs ds
  | _, _, .nil => .nil
  | _, _, .cons h r => .cons (Rep.more h) (Reps.more r)
theorem RepF.more : ∀ {vs : List (Str × V)} {ds : List (Str × D)}, RepF G ad S vs ds → RepF G (ad ++ [a]) S vs ds
  | _, _, .nil => .nil
  | _, _, .cons h r => .cons (Rep.more h) (RepF.more r)
end
mutual
theorem Rep.less : ∀ {v : V} {d : D}, Rep G (ad ++ [a]) S v d → tokLt ad.length d = true → Rep G ad S v d
  | _, _, .non, _ => .non
  | _, _, .bl b, _ => .bl b
  | _, _, .int i, _ => .int i
  | _, _, .str x, _ => .str x
  | _, _, .ty n, _ => .ty n
  | _, _, .tup h r, k => .tup h (Reps.less r (by unfold tokLt at k; exact k))
  | _, _, .lst h r, k => .lst h (Reps.less r (by unfold tokLt at k; exact k))
  | _, _, .rol h r, k => .rol h (Reps.less r (by unfold tokLt at k; exact k))
  | _, _, .obj h r, k => .obj h (RepF.less r (by unfold tokLt at k; exact k))
  | _, _, .cls c, _ => .cls c
  | _, _, .tok h, k => .tok (by
      unfold tokLt at k
      rw [List.getElem?_append_left (by simpa using k)] at h
      exact h)
  | _, _, .dic h, _ => .dic h
  | _, _, .tpx q h n r, k => .tpx q h n (Reps.less r (by unfold tokLt at k; exact k))
theorem Reps.less : ∀ {vs : List V} {ds : List D}, Reps G (ad ++ [a]) S vs ds → tokLts ad.length ds = true → Reps G ad S vs ds
  | _, _, .nil, _ => .nil
  | _, _, .cons h r, k => by
    unfold tokLts at k
    rw [Bool.and_eq_true] at k
    exact .cons (Rep.less h k.1) (Reps.less r k.2)
theorem RepF.less : ∀ {vs : List (Str × V)} {ds : List (Str × D)}, RepF G (ad ++ [a]) S vs ds → tokLtF ad.length ds = true → RepF G ad S vs ds
  | _, _, .nil, _ => .nil
  | _, _, .cons h r, k => by
    unfold tokLtF at k
    rw [Bool.and_eq_true] at k
    exact .cons (Rep.less h k.1) (RepF.less r k.2)
end
end
/-- an owned list as a cell -/
theorem DI.cell {G : Glb} {b : Act} {O O' : Ow} {S : Hp} {env : Env'} {st : List D} {σ : L2.St} {H : Hp} {i : Nat} {ds : List D} (I : DI G b O S env st σ H) (hi : i ∈ O.own) (e : env[i]? = some (some (.lst ds))) (hx : O.exi = none) (hs : O.slf = none) (hx' : O'.exi = none) (hs' : O'.slf = none) (sub : ∀ j ∈ O'.own, j ∈ O.own ∧ j ≠ i) (sup : ∀ j ∈ O.own, j ≠ i → j ∈ O'.own) :
    ∃ a, σ[i]? = some (some (.ref a)) ∧ S a = none ∧ b.H a = none ∧ a ∉ b.ad ∧ DI G ⟨b.S, b.H, b.ad ++ [a]⟩ O' S (env.set i (some (.tok st.length))) (st ++ [.lst ds]) σ H := by
  obtain ⟨a, vs, ds', q1, q2, q3, q4, q5, q6, q7⟩ := I.own i _ hi e
  cases q1
  have hil : i < env.length := (List.getElem?_eq_some_iff.mp e).1
  have hln := I.sto.len
  have keepj : ∀ {j : Nat} {d : D}, j ≠ i → (env.set i (some (.tok st.length)))[j]? = some (some d) → env[j]? = some (some d) := fun {j d} hj h => by rwa [List.getElem?_set_ne (Ne.symm hj)] at h
  refine ⟨a, q2, q4, q5, q6, ⟨by rw [I.len, List.length_set], I.sub, I.s0, I.new, fun c o h hc => I.keep c o h fun z => hc (List.mem_append_left _ z), fun j d h ho => ?_, fun j d hj h => ?_, fun j k c hj hk e1 e2 => ?_, ⟨by simp [hln], ?_, fun n c hn => ?_, I.sto.tab⟩, fun j d h _ => (by rw [hx'] at h; cases h), fun j h => (by rw [hs'] at h; cases h)⟩⟩
  · by_cases hj : j = i
    · subst hj
      rw [List.getElem?_set_self hil] at h
      cases h
      exact ⟨_, q2, .tok (by rw [List.getElem?_append_right (by omega), hln]; simp)⟩
    · have ho2 : O.has j = false := by
        unfold Ow.has at ho ⊢
        rw [hx, hs]
        have : O.own.elem j = false := by
          cases z : O.own.elem j with
          | false => rfl
          | true =>
            have m := sup j (List.elem_iff.mp z) hj
            rw [show O'.own.elem j = true from List.elem_iff.mpr m] at ho
            simp at ho
        rw [this]; rfl
      obtain ⟨v, h1, h2⟩ := I.slot j d (keepj hj h) ho2
      exact ⟨v, h1, h2.more⟩
  · obtain ⟨m, ne⟩ := sub j hj
    obtain ⟨c, ws, es, p1, p2, p3, p4, p5, p6, p7⟩ := I.own j d m (keepj ne h)
    refine ⟨c, ws, es, p1, p2, p3, p4, p5, fun z => ?_, p7.more⟩
    rcases List.mem_append.mp z with z | z
    · exact p6 z
    · have z := List.mem_singleton.mp z
      subst z
      exact ne (I.dist j i c m hi ⟨_, keepj ne h⟩ ⟨_, e⟩ p2 q2)
  · obtain ⟨m1, n1⟩ := sub j hj
    obtain ⟨m2, n2⟩ := sub k hk
    obtain ⟨d1, e1⟩ := e1
    obtain ⟨d2, e2⟩ := e2
    exact I.dist j k c m1 m2 ⟨_, keepj n1 e1⟩ ⟨_, keepj n2 e2⟩
  · rw [List.nodup_append]
    refine ⟨I.sto.nd, by simp, fun x hx y hy => ?_⟩
    have hy := List.mem_singleton.mp hy
    subst hy
    exact fun z => q6 (z ▸ hx)
  · by_cases hc : n < b.ad.length
    · rw [List.getElem?_append_left hc] at hn
      obtain ⟨z1, es, ws, z2, z3, z4⟩ := I.sto.at_ n c hn
      exact ⟨z1, es, ws, by rw [List.getElem?_append_left (by omega)]; exact z2, z3, z4.more⟩
    · have hn' := (List.getElem?_eq_some_iff.mp hn).1
      rw [List.length_append, List.length_singleton] at hn'
      have en : n = b.ad.length := by omega
      subst en
      rw [List.getElem?_append_right (Nat.le_refl _)] at hn
      simp at hn
      subst hn
      exact ⟨q4, ds, vs, by rw [List.getElem?_append_right (by omega), hln]; simp, q3, q7.more⟩
/-- .. and back -/
theorem DI.uncell {G : Glb} {b : Act} {O O' : Ow} {S : Hp} {env : Env'} {st : List D} {σ : L2.St} {H : Hp} {i : Nat} {a : Addr} {ds : List D} (I : DI G ⟨b.S, b.H, b.ad ++ [a]⟩ O' S env st σ H) (h1 : b.H a = none) (h2 : a ∉ b.ad) (hi : i ∈ O.own) (hx : O.exi = none) (hs : O.slf = none) (hx' : O'.exi = none) (hs' : O'.slf = none) (sub : ∀ j ∈ O'.own, j ∈ O.own ∧ j ≠ i) (sup : ∀ j ∈ O.own, j ≠ i → j ∈ O'.own)
    (e : env[i]? = some (some (.tok b.ad.length))) (e2 : st[b.ad.length]? = some (.lst ds)) (t0 : tokLts b.ad.length ds = true) (t1 : ∀ (j : Nat) (d : D), j ≠ i → env[j]? = some (some d) → tokLt b.ad.length d = true) (t2 : ∀ (k : Nat) (d : D), k < b.ad.length → st[k]? = some d → tokLt b.ad.length d = true) :
    DI G b O S (env.set i (some (.lst ds))) (st.take b.ad.length) σ H := by
  have hil : i < env.length := (List.getElem?_eq_some_iff.mp e).1
  have hno : O'.has i = false := by
    unfold Ow.has
    rw [hx', hs']
    have : O'.own.elem i = false := by
      cases z : O'.own.elem i with
      | false => rfl
      | true => exact absurd rfl (sub i (List.elem_iff.mp z)).2
    rw [this]; rfl
  obtain ⟨v, hv, rv⟩ := I.slot i _ e hno
  have hl : st.length = b.ad.length + 1 := by
    have := I.sto.len
    rw [List.length_append, List.length_singleton] at this
    omega
  have ev : v = .ref a := by
    cases rv with
    | tok h => rw [List.getElem?_append_right (Nat.le_refl _)] at h; simp at h; rw [h]
  subst ev
  obtain ⟨sA, es, vs, y1, y2, y3⟩ := I.sto.at_ b.ad.length a (by rw [List.getElem?_append_right (Nat.le_refl _)]; simp)
  have ees : es = ds := by
    have := y1.symm.trans e2
    simpa using this
  subst ees
  have keepj : ∀ {j : Nat} {d : D}, j ≠ i → (env.set i (some (.lst es)))[j]? = some (some d) → env[j]? = some (some d) := fun {j d} hj h => by rwa [List.getElem?_set_ne (Ne.symm hj)] at h
  have ownne : ∀ {j : Nat} {d : D}, j ∈ O'.own → env[j]? = some (some d) → ∃ (c : Addr) (ws : List V) (xs : List D), d = D.lst xs ∧ σ[j]? = some (some (V.ref c)) ∧ H c = some (HO.lst ws) ∧ S c = none ∧ b.H c = none ∧ c ∉ b.ad ∧ c ≠ a ∧ Reps G b.ad S ws xs := fun {j d} hj h => by
    obtain ⟨c, ws, xs, p1, p2, p3, p4, p5, p6, p7⟩ := I.own j d hj h
    have tt := t1 j d (sub j hj).2 h
    subst p1
    unfold tokLt at tt
    exact ⟨c, ws, xs, rfl, p2, p3, p4, p5, fun z => p6 (List.mem_append_left _ z), fun z => p6 (List.mem_append_right _ (List.mem_singleton.mpr z)), p7.less tt⟩
  refine ⟨by rw [I.len, List.length_set], I.sub, I.s0, I.new, fun c o h hc => I.keep c o h fun z => ?_, fun j d h ho => ?_, fun j d hj h => ?_, fun j k c hj hk x1 x2 s1 s2 => ?_, ⟨by rw [List.length_take]; omega, ?_, fun n c hn => ?_, I.sto.tab⟩, fun j d h _ => (by rw [hx] at h; cases h), fun j h => (by rw [hs] at h; cases h)⟩
  · rcases List.mem_append.mp z with z | z
    · exact hc z
    · have z := List.mem_singleton.mp z
      subst z
      have h : b.H c = some o := h
      rw [h1] at h; cases h
  · have hj : j ≠ i := fun z => by
      subst z
      unfold Ow.has at ho
      rw [show O.own.elem j = true from List.elem_iff.mpr hi] at ho
      simp at ho
    have ho2 : O'.has j = false := by
      unfold Ow.has
      rw [hx', hs']
      have : O'.own.elem j = false := by
        cases z : O'.own.elem j with
        | false => rfl
        | true =>
          unfold Ow.has at ho
          rw [show O.own.elem j = true from List.elem_iff.mpr (sub j (List.elem_iff.mp z)).1] at ho
          simp at ho
      rw [this]; rfl
    obtain ⟨u, g1, g2⟩ := I.slot j d (keepj hj h) ho2
    exact ⟨u, g1, g2.less (t1 j d hj (keepj hj h))⟩
  · by_cases hji : j = i
    · subst hji
      rw [List.getElem?_set_self hil] at h
      cases h
      exact ⟨a, vs, es, rfl, hv, y2, sA, h1, h2, y3.less t0⟩
    · obtain ⟨c, ws, xs, p1, p2, p3, p4, p5, p6, p7, p8⟩ := ownne (sup j hj hji) (keepj hji h)
      exact ⟨c, ws, xs, p1, p2, p3, p4, p5, p6, p8⟩
  · obtain ⟨d1, x1⟩ := x1
    obtain ⟨d2, x2⟩ := x2
    by_cases hji : j = i
    · subst hji
      by_cases hki : k = j
      · exact hki.symm
      · obtain ⟨c', ws, xs, p1, p2, p3, p4, p5, p6, p7, p8⟩ := ownne (sup k hk hki) (keepj hki x2)
        exfalso
        have ea : c = a := by
          have := s1.symm.trans hv
          simpa using this
        have ec : c' = c := by
          have := p2.symm.trans s2
          simpa using this
        exact p7 (ec.trans ea)
    · by_cases hki : k = i
      · subst hki
        obtain ⟨c', ws, xs, p1, p2, p3, p4, p5, p6, p7, p8⟩ := ownne (sup j hj hji) (keepj hji x1)
        exfalso
        have ea : c = a := by
          have := s2.symm.trans hv
          simpa using this
        have ec : c' = c := by
          have := p2.symm.trans s1
          simpa using this
        exact p7 (ec.trans ea)
      · exact I.dist j k c (sup j hj hji) (sup k hk hki) ⟨_, keepj hji x1⟩ ⟨_, keepj hki x2⟩ s1 s2
  · have nd := I.sto.nd
    exact (List.nodup_append.mp nd).1
  · have hc : n < b.ad.length := (List.getElem?_eq_some_iff.mp hn).1
    obtain ⟨z1, xs, ws, z2, z3, z4⟩ := I.sto.at_ n c (by rw [List.getElem?_append_left hc]; exact hn)
    have tt := t2 n _ hc z2
    unfold tokLt at tt
    exact ⟨z1, xs, ws, by rw [List.getElem?_take_of_lt hc]; exact z2, z3, z4.less tt⟩
/-! ### the walk -/
noncomputable def closeC (i n : Nat) (all : List D) (env : Env') (st : List D) : Out :=
  @ite _ (env[i]? = some (some (.tok n)) ∧ st[n]? = some (.lst all) ∧ tokLts n all = true ∧ (∀ (j : Nat) (d : D), j ≠ i → env[j]? = some (some d) → tokLt n d = true) ∧ (∀ (k : Nat) (d : D), k < n → st[k]? = some d → tokLt n d = true)) (Classical.propDecidable _) (.nx (env.set i (some (.lst all))) (st.take n)) .bad
noncomputable def forC (g : MG) (m : MS) (i n : Nat) (all : List D) : List D → MS
  | [] => closeC i n all
  | d :: ds => fun env st => match g d env with
    | none => .bad
    | some env1 => match m env1 st with
      | .nx e s => @ite _ (s[n]? = some (.lst all)) (Classical.propDecidable _) (forC g m i n all ds e s) .bad
      | .ct e s => @ite _ (s[n]? = some (.lst all)) (Classical.propDecidable _) (forC g m i n all ds e s) .bad
      | .bk e s => closeC i n all e s
      | _ => .bad
noncomputable def mForO (i : Nat) (g : MG) (m : MS) : MS := fun env st => match env[i]? with
  | some (some (.lst ds)) => forC g m i st.length ds ds (env.set i (some (.tok st.length))) (st ++ [.lst ds])
  | _ => .bad
section
variable {G : Glb} {X : Cx} {W : WX} {Ob : Ow} {OE : Ow → Prop} {O O' : Ow} {pos : Pos} {k : Nat}
theorem ds_forO (i : Nat) {x : Str} {p1 : Pos} {ix : List Nat} {tg : Expr} {body : List Stmt} {g : MG} {m : MS} (xc : XC k G X W) (hg : DG G X O' ix tg g) (hb : DSs G X W O' (fun _ => True) O' body O' m) (hN : X.N[i]? = some x := by rfl) (hi : i ∈ O.own := by first | decide | exact of_decide_eq_true rfl) (hx : O.exi = none := by rfl) (hs : O.slf = none := by rfl) (hx' : O'.exi = none := by rfl) (hs' : O'.slf = none := by rfl) (sub : ∀ j ∈ O'.own, j ∈ O.own ∧ j ≠ i := by decide) (sup : ∀ j ∈ O.own, j ≠ i → j ∈ O'.own := by decide)
    (hv : Vis X.env.scope x := by first | exact Or.inl rfl | exact Or.inr (Or.inl rfl) | exact Or.inr (Or.inr rfl)) (hd : (x == ("__debug__" : Str)) = false := by decide) (hcd : (x == ("__classdict__" : Str)) = false := by decide)
    (hfs : ∀ y, foldedSetIterable (.Name x p1) X.env y = pure y := by intro _; rfl) : DS G X W Ob OE O (.For tg (.Name x p1) body [] pos) O (mForO i g m) := by
  obtain ⟨tg', pg, wg⟩ := hg.ex
  obtain ⟨tb, pb, wb⟩ := hb.ex
  have hK := xc.K
  refine ⟨_, ps_for xc.po xc.calm (pi_list (pe_var (i := i) hN hv hd hcd)) pg pb hfs, fun b S env st σ H En I h => ?_⟩
  unfold mForO at h
  cases e : env[i]? with
  | none => rw [e] at h; exact h.elim
  | some o => cases o with
    | none => rw [e] at h; exact h.elim
    | some d0 =>
      obtain ⟨a0, vs0, all, q1, q2, q3, -, -, -, -⟩ := I.own i d0 hi e
      subst q1
      rw [e] at h
      obtain ⟨a, hσ, sA, hA, nA, I1⟩ := I.cell hi e hx hs hx' hs' sub sup
      have ea : a0 = a := by
        have := q2.symm.trans hσ
        simpa using this
      subst ea
      have hn := I.sto.len
      have close : ∀ {S' : Hp} {env' : Env'} {st' : List D} {σ' : L2.St} {H' : Hp}, Same S S' → DI G ⟨b.S, b.H, b.ad ++ [a0]⟩ O' S' env' st' σ' H' → PostS G b Ob OE W O En S' (closeC i st.length all env' st') → En.nx σ' H' := fun {S' env' st' σ' H'} e1 J hc => by
        unfold closeC at hc
        split at hc
        · rename_i cond
          obtain ⟨c1, c2, c3, c4, c5⟩ := cond
          rw [← hn] at c1 c2 c3 c4 c5 hc
          exact hc S' σ' H' (.refl _) (J.uncell hA nA hi hx hs hx' hs' sub sup c1 c2 c3 c4 c5)
        · exact hc.elim
      refine ⟨_, q2, a0, rfl, ⟨vs0, SqL.of q3⟩, fun j n σ' H' => n = all.length - j ∧ j ≤ all.length ∧ ∃ S' env' st', Same S S' ∧ DI G ⟨b.S, b.H, b.ad ++ [a0]⟩ O' S' env' st' σ' H' ∧ st'[st.length]? = some (.lst all) ∧ PostS G b Ob OE W O En S' (forC g m i st.length all (all.drop j) env' st'), ⟨all.length, by simp, Nat.zero_le _, S, _, _, .refl _, I1, by simp, h⟩, ?_⟩
      rintro j n σ' H' ⟨rfl, hj, S', env', st', e1, I', hc, h'⟩
      obtain ⟨sA', es, vs, y1, y2, y3⟩ := I'.sto.at_ b.ad.length a0 (by show (b.ad ++ [a0])[b.ad.length]? = _; rw [List.getElem?_append_right (Nat.le_refl _)]; simp)
      rw [hn, hc] at y1
      cases y1
      have sq : SqL X.K H' a0 vs := SqL.of y2
      by_cases hlt : j < all.length
      · right
        have hd : all[j]? = some all[j] := List.getElem?_eq_getElem hlt
        obtain ⟨v, hv1, rv⟩ := y3.get hd
        refine ⟨⟨vs, v, sq, hv1⟩, fun σ2 H2 => all.length - (j + 1) < all.length - j ∧ ∃ S2 env2 st2, Same S S2 ∧ DI G ⟨b.S, b.H, b.ad ++ [a0]⟩ O' S2 env2 st2 σ2 H2 ∧ st2[st.length]? = some (.lst all) ∧ PostS G b Ob OE W O En S2 (forC g m i st.length all (all.drop (j + 1)) env2 st2), fun σ2 H2 ⟨hl, z⟩ => ⟨all.length - (j + 1), hl, rfl, hlt, z⟩, fun y H'' yy => ?_⟩
        obtain ⟨rfl, yx⟩ := yy
        have ey : v = y := Option.some.inj (hv1.symm.trans (yx vs sq))
        subst ey
        rw [List.drop_eq_getElem_cons hlt] at h'
        unfold forC at h'
        cases e2 : g all[j] env' with
        | none => rw [e2] at h'; exact h'.elim
        | some env1 =>
          rw [e2] at h'
          refine wg _ S' env' env1 st' σ' H'' v all[j] _ I' rv e2 fun σ3 _ I3 => wb _ S' env1 st' σ3 H'' _ I3 ?_
          have lt : all.length - (j + 1) < all.length - j := by omega
          dsimp only at h'
          cases e3 : m env1 st' with
          | nx env4 st4 =>
            rw [e3] at h'
            intro S4 σ4 H4 y4 I4
            dsimp only at h'
            split at h'
            · rename_i cc
              exact ⟨lt, S4, env4, st4, e1.trans y4, I4, cc, h'.from_ y4⟩
            · exact h'.elim
          | ct env4 st4 =>
            rw [e3] at h'
            intro S4 σ4 H4 y4 I4
            dsimp only at h'
            split at h'
            · rename_i cc
              exact ⟨lt, S4, env4, st4, e1.trans y4, I4, cc, h'.from_ y4⟩
            · exact h'.elim
          | bk env4 st4 =>
            rw [e3] at h'
            intro S4 σ4 H4 y4 I4
            exact close (e1.trans y4) I4 (h'.from_ y4)
          | rt d st4 => rw [e3] at h'; exact h'.elim
          | er x st4 => rw [e3] at h'; exact h'.elim
          | bad => rw [e3] at h'; exact h'.elim
      · left
        have hj' : j = all.length := Nat.le_antisymm hj (Nat.le_of_not_lt hlt)
        refine ⟨⟨vs, sq, by rw [y3.len, hj']; exact Nat.le_refl _⟩, ?_⟩
        rw [hj', List.drop_length] at h'
        exact close e1 I' h'
end
/-! ### list(range(a, b)) -/
noncomputable def dLstRg (x y : D) : Option D := match x, y with
  | .int a, .int b => if RgOk a b then some (.lst (rangeD a (b - a).toNat)) else none
  | _, _ => none
section
variable {G : Glb} {X : Cx} {W : WX} {O : Ow} {p p2 pos pos2 : Pos} {a b : Expr} {ma mb : ME}
theorem de_lstRg (hc : X.calm = true) (ht : X.mg "list" = none) (hr : X.mg "range" = none) (ha : DE G X W O a ma) (hb : DE G X W O b mb) (hg : Gl X "list" := by rfl) (hg2 : Gl X "range" := by rfl)
    (na : starEach [.Call (.Name "range" p2) [a, b] [] pos2] X.env = (false, eval (.Call (.Name "range" p2) [a, b] [] pos2) X.env) :: starEach [] X.env := by rfl)
    (nr : starEach [a, b] X.env = (false, eval a X.env) :: starEach [b] X.env := by rfl) (nb : starEach [b] X.env = (false, eval b X.env) :: starEach [] X.env := by rfl) (hp : (backTo pos2 (starEach [b] X.env)).any (·.1) = false := by rfl) :
    DE G X W O (.Call (.Name "list" p) [.Call (.Name "range" p2) [a, b] [] pos2] [] pos) (mOp dLstRg ma mb) := by
  obtain ⟨ta, tb, pa, pb, w⟩ := two_parts (k := fun x y => ret? (dLstRg x y)) ha hb
  refine ⟨_, pe_listRg hc hg ht (prg_2 hg2 hr pa pb nr nb hp) na, fun b S env st σ H Q I h => w b S env st σ H _ (fun x y H2 => ∃ i j, x = .int i ∧ y = .int j ∧ RgOk i j ∧ ∀ q, H2 q = none → Q (.ref q) (upd H2 q (.lst (rgV i j)))) I h fun x y dx dy S' H' st' e I' rx ry hk => ?_⟩
  obtain ⟨d, e1, q⟩ := wp_ret hk
  cases rx with
  | int i =>
    cases ry with
    | int j =>
      have e1 : (if RgOk i j then some (D.lst (rangeD i (j - i).toNat)) else none) = some d := e1
      split at e1
      · rename_i ok
        cases e1
        exact ⟨i, j, rfl, rfl, ok, fun z hz => Post.lst I'.sub I'.sto hz (reps_rg i (j - i).toNat) (Post.from_ e I'.sto q)⟩
      · cases e1
    | _ => cases e1
  | _ => cases e1
end
end DL

/-! DL, 30th part: x in t, t a tuple of data. -/
namespace DL
open PySem PySem.Spec PyProof.Rows L2
def rInT (K : PySem.W.Frag) (f : Bool → Bool) : R2 := fun x y H Q => ∃ d ds, Dp K H x d ∧ Dp K H y (.tuple ds) ∧ PyData.plainAll ds = true ∧ d.plain = true ∧ PyData.depthAll ds ≤ 60 ∧ Q (.bl (f (ds.any fun z => PyData.eqv z d))) H
section
variable {G : Glb} {X : Cx}
theorem op_inT (hu : X.A.units + 65 < cLine) : OpR X (compareOp .In) (rInT X.K id) := by
  intro pins s σ H x y v u Q I rx ry ⟨d, ds, hd, he, p1, p2, dp, q⟩
  obtain ⟨as, r1⟩ := Dp.reads I d x v hd rx
  obtain ⟨bs, r2⟩ := Dp.reads I (.tuple ds) y u he ry
  exact SeqAt.in_tuple_data r2 r1 p1 p2 (by omega) ⟨.bl _, H, I, rfl, q⟩
theorem op_notInT (hu : X.A.units + 65 < cLine) : OpR X (compareOp .NotIn) (rInT X.K not) := by
  intro pins s σ H x y v u Q I rx ry ⟨d, ds, hd, he, p1, p2, dp, q⟩
  obtain ⟨as, r1⟩ := Dp.reads I d x v hd rx
  obtain ⟨bs, r2⟩ := Dp.reads I (.tuple ds) y u he ry
  exact SeqAt.notIn_tuple_data r2 r1 p1 p2 (by omega) ⟨.bl _, H, I, rfl, q⟩
def inT (x : D) (ds : List D) : Option Bool := if (toP x).canLay0 = true ∧ PyData.canLayAll0 (toPs ds) = true ∧ PyData.plainAll (toPs ds) = true ∧ PyData.depthAll (toPs ds) ≤ 60 then some ((toPs ds).any fun z => PyData.eqv z (toP x)) else none
def dInA (x y : D) : Option D := match y with
  | .tup ds => (inT x ds).map fun b => .bl (id b)
  | _ => dIn x y
def dNotInA (x y : D) : Option D := match y with
  | .tup ds => (inT x ds).map fun b => .bl (not b)
  | _ => dNotIn x y
theorem inT_go {f : Bool → Bool} {ad : List Addr} {S H : Hp} {st : List D} {x y : V} {dx d : D} {ds : List D} {Q : VK} (hK : X.K = G.K) (su : Same S H) (so : StoOk G ad S st H) (rx : Rep G ad S x dx) (ry : Rep G ad S y (.tup ds)) (e : (inT dx ds).map (fun b => D.bl (f b)) = some d) (q : Post G ad S H d st Q) : rInT X.K f x y H Q := by
  unfold inT at e
  split at e
  · rename_i h
    obtain ⟨h1, h2, h3, h4⟩ := h
    cases e
    exact ⟨_, _, hK ▸ rx.dp su h1, hK ▸ ry.dp su (by simpa [toP, PyData.canLay0] using h2), h3, PyData.plain_of_canLay0 _ h1, h4, Post.here su so (.bl _) q⟩
  · cases e
theorem opd_inA (hK : X.K = G.K) : OpD G (fun x y H Q => rInD X.K x y H Q ∨ rInT X.K id x y H Q) dInA := ⟨fun ad S H st x y dx dy d Q su so rx ry e q => by
  unfold dInA at e
  split at e
  · exact .inr (inT_go hK su so rx ry e q)
  · exact .inl ((opd_in hK).go ad S H st x y dx dy d Q su so rx ry e q)⟩
theorem opd_notInA (hK : X.K = G.K) : OpD G (fun x y H Q => rNotInD X.K x y H Q ∨ rInT X.K not x y H Q) dNotInA := ⟨fun ad S H st x y dx dy d Q su so rx ry e q => by
  unfold dNotInA at e
  split at e
  · exact .inr (inT_go hK su so rx ry e q)
  · exact .inl ((opd_notIn hK).go ad S H st x y dx dy d Q su so rx ry e q)⟩
end
/-! ### a comprehension inside a comprehension: the block's own scope -/
def relS (sc osc : Scope) : Scope := { sc with names := sc.names.map fun (n, k) => if (k == .free && osc.kind == .function && osc.names.lookup n == some .cell) then (n, .cell) else (n, k) }
theorem blkOk_in {N : List Str} {own : List (Str × Nat)} {scope sc0 osc : Scope} {X : Cx} {s : Shared} {H : Hp} {C : Addr} {cl : List (Str × Addr)} {fp : List Addr} (hN : X.N = N) (e : X.env.scope = osc) (h : blkC N (relS sc0 osc) scope own = true) :
    BlkOk (X.blk s H sc0 (compEnvC sc0 cl C X.env) fp).N (X.blk s H sc0 (compEnvC sc0 cl C X.env) fp).env.scope scope own := by
  subst hN; subst e
  exact blkOk_by h
/-! ### a, b, .. = a tuple or a list of that length -/
def gTpL (r : List D → Env' → Option Env') : MG := fun d env => match d with
  | .tup ds => r ds env
  | .lst ds => r ds env
  | _ => none
section
variable {G : Glb} {X : Cx} {O : Ow} {pos : Pos}
theorem pg_tupL {es : List Expr} {k : Nat} {t : TGs} {n : Nat} (hc : X.calm = true) (h : PGs X es t)
    (hn : (assignEach es X.env).length = n := by rfl) (hst : (assignEach es X.env).findIdx? (·.1) = none := by rfl) : PG X (.Tuple es k pos) (fun v σ H Q => gTup X.K n t v σ H Q ∨ gLst X.K n t v σ H Q) :=
  ⟨fun pins s σ H v u Q I r hw => hw.elim (fun q => (pg_tup hc h hn hst).run pins s σ H v u Q I r q) fun q => (pg_lst hc h hn hst).run pins s σ H v u Q I r q⟩
theorem dg_tupL {ix : List Nat} {es : List Expr} {k : Nat} {gs : List D → Env' → Option Env'} {l : Nat} (hc : X.calm = true) (hK : X.K = G.K) (h : DGs G X O ix es gs) (hlen : ∀ ds env env', gs ds env = some env' → ds.length = l) (hn : (assignEach es X.env).length = l := by rfl) (hst : (assignEach es X.env).findIdx? (·.1) = none := by rfl) : DG G X O ix (.Tuple es k pos) (gTpL gs) := by
  obtain ⟨t, p, w⟩ := h.ex
  refine ⟨_, pg_tupL hc p hn hst, fun b S env env' st σ H v d Q I rv e q => ?_⟩
  cases rv <;> try cases e
  · rename_i a vs ds h1 h2
    have e' : gs ds env = some env' := e
    refine .inl ⟨a, vs, rfl, hK ▸ Same.sqT I.sub h1.sqT, ?_, w b S env env' st σ H vs ds Q I h2 e' q⟩
    rw [h2.len]
    exact hlen _ _ _ e'
  · rename_i a vs ds h1 h2
    have e' : gs ds env = some env' := e
    refine .inr ⟨a, vs, rfl, SqL.of (I.sub _ _ h1), ?_, w b S env env' st σ H vs ds Q I h2 e' q⟩
    rw [h2.len]
    exact hlen _ _ _ e'
end
end DL


/-! DLze: a list made by a comprehension, owned by its name. -/
namespace DL
open PySem PySem.Spec PyProof.Rows L2
section
variable {G : Glb} {X : Cx} {W : WX} {pos : Pos} {k : Nat}
/-- the walk of a comprehension -/
theorem lc_goF {O : Ow} {vs ix : List Nat} {g : MG} {mt : MT} {me : ME} {b : Act} {S1 H1 : Hp} {st1 : List D} {σ : L2.St} {env : Env'} {J : It} {ds : List D} {Q : VK} {D : Addr} (hv : ∀ v ∈ vs, O.has v = false) (hix : ∀ i ∈ ix, i ∈ vs) (I : DI G b O S1 env st1 σ H1) (it : IterOK G b.ad S1 J ds) (hD : H1 D = none)
    {ys : List DL.D} {st' : List DL.D} (hr : lcD (wipeE env vs) g mt me ds st1 = .ok ys st') (hl : ys.length ≤ sizeLine) (q : PostF G b.ad S1 H1 ys st' Q) :
    ∃ Wv : Nat → Nat → Hp → Prop, (∃ m, Wv 0 m (upd H1 D (.lst []))) ∧ ∀ i m H, Wv i m H →
      (J.stop i H ∧ Q (.ref D) H) ∨ (J.go i H ∧ ∃ Nx : Hp → Prop, (∀ H', Nx H' → ∃ m', m' < m ∧ Wv (i + 1) m' H') ∧ ∀ x H', J.yld i H x H' → cG G O ix g x (wipe σ vs) H' fun σ2 H2 => wipe σ2 vs = wipe σ vs ∧ cT G W0 O mt σ2 H2 fun b H3 =>
        if b = true then cE G W0 O me σ2 H3 fun y H4 => ∃ acc, H4 D = some (.lst acc) ∧ acc.length < sizeLine ∧ Nx (upd H4 D (.lst (acc ++ [y]))) else Nx H3) := by
  have hDad : D ∉ b.ad := fun z => by
    obtain ⟨_, ws, hw⟩ := I.sto.has z
    rw [hD] at hw; cases hw
  -- what stands at a turn's begin
  refine ⟨fun i m H => m = ds.length - i ∧ i ≤ ds.length ∧ ∃ S2 st2 acc es rest, Ext b.ad S1 H1 S2 H ∧ Same S2 H ∧ StoOk G b.ad S2 st2 H ∧ S2 D = none ∧ H D = some (.lst acc) ∧ Reps G b.ad S2 acc es ∧ lcD (wipeE env vs) g mt me (ds.drop i) st2 = .ok rest st' ∧ ys = es ++ rest, ⟨ds.length, ?_⟩, ?_⟩
  · have so := I.sto
    have hS : S1 D = none := I.sub.free hD
    refine ⟨by simp, Nat.zero_le _, S1, st1, [], [], ys, ⟨.refl _, fun _ _ z => .inl z, fun c o hc _ => .refl (by rw [upd_ne (ne_of_none hc hD)]; exact hc)⟩, fun c o hc => by rw [upd_ne (ne_of_none hc hS)]; exact I.sub _ _ hc,
      ⟨so.len, so.nd, fun n a ha => ?_, so.tab.keep fun b u h _ => by rw [upd_ne (ne_of_none h hD)]; exact h⟩, hS, upd_same, .nil, by simpa using hr, by simp⟩
    obtain ⟨g1, es, ws, g2, g3, g4⟩ := so.at_ n a ha
    exact ⟨g1, es, ws, g2, by rw [upd_ne (ne_of_none g3 hD)]; exact g3, g4⟩
  · rintro i m H ⟨rfl, hi, S2, st2, acc, es, rest, x2, su2, so2, hS2, hacc, racc, hr2, hys⟩
    by_cases hlt : i < ds.length
    · right
      obtain ⟨go, yl⟩ := (it i S2 H x2.same su2).2 _ (List.getElem?_eq_getElem hlt)
      refine ⟨go, fun H' => ∃ S3 st3 acc3 es3 rest3, Ext b.ad S1 H1 S3 H' ∧ Same S3 H' ∧ StoOk G b.ad S3 st3 H' ∧ S3 D = none ∧ H' D = some (.lst acc3) ∧ Reps G b.ad S3 acc3 es3 ∧ lcD (wipeE env vs) g mt me (ds.drop (i + 1)) st3 = .ok rest3 st' ∧ ys = es3 ++ rest3, fun H' z => ⟨ds.length - (i + 1), by omega, rfl, hlt, z⟩, fun x H' y => ?_⟩
      obtain ⟨S3, x3, su3, so3, r3⟩ := yl x H' y
      have so3' := so3 _ so2
      have I3 : DI G b O S3 (wipeE env vs) st2 (wipe σ vs) H' := DI.ext (DI.wipe (DI.ext I x2 su2 so2) hv) x3 su3 so3'
      have hD3 : H' D = some (.lst acc) := (x3.keep D _ hacc hDad).lst
      have hS3 : S3 D = none := by
        cases e : S3 D with
        | none => rfl
        | some o =>
          rcases x3.new D o e with z | z
          · rw [hS2] at z; cases z
          · rw [hacc] at z; cases z
      have x3' := x2.trans so2 x3
      rw [List.drop_eq_getElem_cons hlt] at hr2
      unfold lcD at hr2
      cases eg : g ds[i] (wipeE env vs) with
      | none => rw [eg] at hr2; cases hr2
      | some env1 =>
        rw [eg] at hr2
        refine ⟨b, S3, _, env1, st2, ds[i], I3, r3, eg, fun σ2 hs2 I4 => ⟨wipe_stay hs2 hix, b, S3, env1, st2, I4, ?_⟩⟩
        dsimp only at hr2
        cases et : mt env1 st2 with
        | err x st => rw [et] at hr2; cases hr2
        | bad => rw [et] at hr2; cases hr2
        | ok kk st4 =>
          rw [et] at hr2
          have hr2 : (if kk = true then (noEr (me env1 st4)).bind fun y st2 => (lcD (wipeE env vs) g mt me (ds.drop (i + 1)) st2).bind fun ys st3 => Res.ok (y :: ys) st3 else lcD (wipeE env vs) g mt me (ds.drop (i + 1)) st4) = .ok rest st' := hr2
          intro S5 H5 x5 su5 so5
          have hD5 : H5 D = some (.lst acc) := (x5.keep D _ hD3 hDad).lst
          have hS5 : S5 D = none := by
            cases e : S5 D with
            | none => rfl
            | some o =>
              rcases x5.new D o e with z | z
              · rw [hS3] at z; cases z
              · rw [hD3] at z; cases z
          have x5' := x3'.trans so3' x5
          cases kk with
          | false =>
            rw [if_neg Bool.false_ne_true] at hr2 ⊢
            exact ⟨S5, st4, acc, es, rest, x5', su5, so5, hS5, hD5, (racc.mono x3.same).mono x5.same, hr2, hys⟩
          | true =>
            rw [if_pos rfl] at hr2 ⊢
            refine ⟨b, S5, env1, st4, I4.ext x5 su5 so5, ?_⟩
            cases em : me env1 st4 with
            | err x st => rw [em] at hr2; cases hr2
            | bad => rw [em] at hr2; cases hr2
            | ok y0 st6 =>
              rw [em] at hr2
              have hr2 : ((lcD (wipeE env vs) g mt me (ds.drop (i + 1)) st6).bind fun ys st3 => Res.ok (y0 :: ys) st3) = .ok rest st' := hr2
              cases e6 : lcD (wipeE env vs) g mt me (ds.drop (i + 1)) st6 with
              | err x st => rw [e6] at hr2; cases hr2
              | bad => rw [e6] at hr2; cases hr2
              | ok ys6 st7 =>
                rw [e6] at hr2
                have e7 : rest = y0 :: ys6 ∧ st7 = st' := by
                  have z : Res.ok (y0 :: ys6) st7 = .ok rest st' := hr2
                  cases z; exact ⟨rfl, rfl⟩
                obtain ⟨e7, e8⟩ := e7
                subst e8
                intro v S6 H6 x6 su6 so6 r6
                have hD6 : H6 D = some (.lst acc) := (x6.keep D _ hD5 hDad).lst
                have hS6 : S6 D = none := by
                  cases e : S6 D with
                  | none => rfl
                  | some o =>
                    rcases x6.new D o e with z | z
                    · rw [hS5] at z; cases z
                    · rw [hD5] at z; cases z
                have x6' := x5'.trans so5 x6
                have racc6 := ((racc.mono x3.same).mono x5.same).mono x6.same
                have hlen : acc.length < sizeLine := by
                  have e9 : ys.length = es.length + (ys6.length + 1) := by rw [hys, e7, List.length_append, List.length_cons]
                  rw [racc6.len]; omega
                refine ⟨acc, hD6, hlen, S6, st6, acc ++ [v], es ++ [y0], ys6, ⟨x6'.same, x6'.new, fun c o hc hca => ?_⟩, fun c o hc => ?_, ⟨so6.len, so6.nd, fun n a ha => ?_, so6.tab.keep fun b u h n => by rw [upd_ne (fun z => by rw [z, hD6] at h; cases h; exact n.lst)]; exact h⟩, hS6, upd_same, racc6.append (.cons r6 .nil), e6, by rw [hys, e7]; simp⟩
                · exact (x6'.keep c o hc hca).map fun o' h' => by rw [upd_ne (ne_of_none hc hD)]; exact h'
                · rw [upd_ne (ne_of_none hc hS6)]; exact su6 _ _ hc
                · obtain ⟨g1, es', ws, g2, g3, g4⟩ := so6.at_ n a ha
                  exact ⟨g1, es', ws, g2, by rw [upd_ne fun z => hDad (by subst z; exact List.mem_iff_getElem?.mpr ⟨n, ha⟩)]; exact g3, g4⟩
    · left
      have hi' : i = ds.length := Nat.le_antisymm hi (Nat.le_of_not_lt hlt)
      refine ⟨(it i S2 H x2.same su2).1 hi', ?_⟩
      rw [hi', List.drop_length] at hr2
      have e1 : rest = [] ∧ st2 = st' := by
        have z : Res.ok ([] : List DL.D) st2 = .ok rest st' := hr2
        cases z; exact ⟨rfl, rfl⟩
      obtain ⟨rfl, rfl⟩ := e1
      rw [List.append_nil] at hys
      subst hys
      have hS1 : S1 D = none := I.sub.free hD
      let H0 : Hp := fun x => if x = D then none else H x
      have ne0 : ∀ a, a ≠ D → H0 a = H a := fun a h => if_neg h
      have e0 : upd H0 D (.lst acc) = H := by
        funext a
        by_cases h : a = D
        · rw [h, upd_same, hacc]
        · rw [upd_ne h, ne0 a h]
      have fin := q D acc S2 H0 ⟨x2.same, x2.new, fun a o h ha => (x2.keep a o h ha).map fun o' h' => by rw [ne0 a (fun z => by rw [z, hD] at h; cases h)]; exact h'⟩
        (fun a o h => by rw [ne0 a (fun z => by rw [z, hS2] at h; cases h)]; exact su2 a o h)
        (so2.grow fun a o ha h => by rw [ne0 a (fun z => ha.elim (fun w => hDad (z ▸ w)) fun n => by rw [z, hacc] at h; cases h; exact n.lst)]; exact h) (if_pos rfl) racc
      rw [e0] at fin
      exact fin
end
section
variable {G : Glb} {X : Cx} {W : WX} {pos : Pos} {k : Nat} {O : Ow}
/-- the elements of a comprehension, the list not yet known to anyone -/
def mLCA (mi : MA) (vs : List Nat) (g : MG) (mt : MT) (me : ME) : MA := fun env st => (mi env st).bind fun ds st1 => (lcD (wipeE env vs) g mt me ds st1).bind fun ys st2 => fits? ys st2
theorem PostF.from_ {ad : List Addr} {S H S1 H1 : Hp} {st1 st' : List D} {ys : List D} {Q : VK} (x1 : Ext ad S H S1 H1) (so1 : StoOk G ad S1 st1 H1) (q : PostF G ad S H ys st' Q) : PostF G ad S1 H1 ys st' Q :=
  fun l vs S' H' x su so hl r => q l vs S' H' (x1.trans so1 x) su so hl r
/-- y = [..], y's own -/
theorem ds_ownLc {Ob : Ow} {OE : Ow → Prop} {y : Str} {py spos : Pos} {elt tg iter : Expr} {ifs : List Expr} {scope : Scope} {own : List (Str × Nat)} {ix : List Nat} {mi : MA} {g : MG} {mt : MT} {me : ME} (i : Nat) (xc : XC k G X W) (hN : X.N.Nodup) (hi : DIt G X W O tg iter mi) (ok : BlkOk X.N X.env.scope scope own)
    (hsw : swapsWith (.ListComp elt [⟨tg, iter, ifs, 0⟩] scope pos) (some (.Name y py)) spos.line X.env = pure true)
    (hg : ∀ (s : Shared) (H : Hp) (C : Addr) (cl : List (Str × Addr)) (fp : List Addr), DG G (X.blk s H scope (compEnvC scope cl C X.env) fp) O ix tg g)
    (ht : ∀ (s : Shared) (H : Hp) (C : Addr) (cl : List (Str × Addr)) (fp : List Addr), XC k G (X.blk s H scope (compEnvC scope cl C X.env) fp) W0 → DTs G (X.blk s H scope (compEnvC scope cl C X.env) fp) W0 O ifs mt)
    (he : ∀ (s : Shared) (H : Hp) (C : Addr) (cl : List (Str × Addr)) (fp : List Addr), XC k G (X.blk s H scope (compEnvC scope cl C X.env) fp) W0 → DE G (X.blk s H scope (compEnvC scope cl C X.env) fp) W0 O elt me)
    (hO : OE O := by first | trivial | rfl) (hy : X.N[i]? = some y := by rfl) (hyl : X.env.scope.names.lookup y = some .local := by rfl) (ho : O.has i = false := by rfl)
    (hv : ∀ v ∈ own.map (·.2), O.has v = false := by intro v hv; revert v; decide) (hix : ∀ i ∈ ix, i ∈ own.map (·.2) := by decide) (hs : ∀ x, foldedSetIterable iter X.env x = pure x := by intro _; rfl) :
    DS G X W Ob OE O (.Assign [.Name y py] (.ListComp elt [⟨tg, iter, ifs, 0⟩] scope pos) spos) (O.add i) (mSetF i (mLCA mi (own.map (·.2)) g mt me)) := by
  obtain ⟨wi, pi, wwi⟩ := hi.ex
  refine ⟨_, ps_setLc (i := i) xc.calm hN hy hyl hsw pi ok (fun s H C cl fp => (hg s H C cl fp).c) (fun s H C cl fp => (ht s H C cl fp xc.blk).c) (fun s H C cl fp => (he s H C cl fp xc.blk).c) hs, fun b S env st σ H D I h => ?_⟩
  have w : ∀ (Q : VK), wpR (mLCA mi (own.map (·.2)) g mt me env st) (fun ds st' => PostF G b.ad S H ds st' Q) (fun x st' => PostX G b.ad S H x st' fun c dd H' => W c dd σ H') → tLc wi (cG G O ix g) (cT G W0 O mt) (cE G W0 O me) (own.map (·.2)) σ H Q := fun Q h => wwi b S env st σ H _ I (wpR_imp (wpR_bind h) (fun ds st1 h1 => by
    intro J S1 H1 x1 su1 so1 it D hD
    cases er : lcD (wipeE env (own.map (·.2))) g mt me ds st1 with
    | err x st2 => exact absurd er (lcD_noEr _ _ _ _)
    | bad => rw [er] at h1; exact h1.elim
    | ok ys st2 =>
      rw [er] at h1
      have h1 : wpR (fits? ys st2) (fun d st' => PostF G b.ad S H d st' Q) (fun x st' => PostX G b.ad S H x st' fun c dd H' => W c dd σ H') := h1
      unfold fits? at h1
      split at h1
      · rename_i hl
        exact lc_goF hv hix (I.ext x1 su1 so1) it hD er hl (PostF.from_ x1 so1 h1)
      · exact h1.elim) fun _ _ z => z)
  refine w _ ?_
  unfold mSetF at h
  cases e1 : mLCA mi (own.map (·.2)) g mt me env st with
  | ok ds st1 =>
    rw [e1] at h
    intro l vs S' H' x' su so hl r
    have I' := I.ext x' su so
    exact h S' _ _ x'.same (I'.own_new hl r ho)
  | err y st1 =>
    rw [e1] at h
    exact fun cls dd S' H' x' su so r => h cls dd O S' σ H' hO x'.same (I.ext x' su so) r
  | bad => rw [e1] at h; exact h.elim
end
/-! ### x += e, x -= e on whole numbers -/
def mAugI (f : Int → Int → Int) (i : Nat) (me : ME) : MS := fun env st => match env[i]? with
  | some (some (.int a)) => mDo me (fun d env st => match d with
    | .int c => .nx (env.set i (some (.int (f a c)))) st
    | _ => .bad) env st
  | _ => .bad
section
variable {G : Glb} {X : Cx} {W : WX} {Ob : Ow} {OE : Ow → Prop} {O : Ow} {pos : Pos} {e : Expr} {me : ME}
theorem ds_augI (i : Nat) {f : Int → Int → Int} {op : Operator} {x : Str} {pos' : Pos} (hN : X.N.Nodup) (hp : PIp X op (ipI f)) (he : DE G X W O e me) (hO : OE O := by first | trivial | rfl) (hi : X.N[i]? = some x := by rfl) (ho : O.has i = false := by rfl) (hx : Loc X.env.scope x := by first | exact Or.inl rfl | exact Or.inr rfl)
    (hf : X.fn x = true ∨ X.env.scope.names.lookup x = some .local := by first | exact .inl rfl | exact .inr rfl) : DS G X W Ob OE O (.AugAssign (.Name x pos') op e pos) O (mAugI f i me) := by
  obtain ⟨t, p, w⟩ := he.ex
  refine ⟨_, ps_aug hN hi hx p hp hf, fun b S env st σ H D I h => ?_⟩
  unfold mAugI at h
  split at h
  · rename_i a e1
    obtain ⟨u, h1, h2⟩ := I.slot i (.int a) e1 ho
    cases h2
    refine ⟨.int a, h1, do_part hO w I h fun v d S' H' st' I' r q => ?_⟩
    cases d with
    | int c =>
      cases r
      exact ⟨a, c, rfl, rfl, q _ _ _ (.refl _) (I'.set (.int _) ho)⟩
    | _ => exact q.elim
  · exact h.elim
end
theorem mAugI_of {f : Int → Int → Int} {i : Nat} {me : ME} {env : Env'} {st s : List D} {a c : Int} (he : env[i]? = some (some (.int a))) (h : me env st = .ok (.int c) s) : mAugI f i me env st = .nx (env.set i (some (.int (f a c)))) s := by
  unfold mAugI
  rw [he]
  unfold mDo
  simp only [h]
/-! ### x = list(range(a)), list(range(a, b)), x's own -/
noncomputable def mRgF1 (ma : ME) : MA := fun env st => (ma env st).bind fun x st1 => match x with
  | .int n => if RgOk 0 n then .ok (rangeD 0 (n - 0).toNat) st1 else .bad
  | _ => .bad
noncomputable def mRgF2 (ma mb : ME) : MA := fun env st => (ma env st).bind fun x st1 => (mb env st1).bind fun y st2 => match x, y with
  | .int i, .int j => if RgOk i j then .ok (rangeD i (j - i).toNat) st2 else .bad
  | _, _ => .bad
section
variable {G : Glb} {X : Cx} {W : WX} {O : Ow} {p p2 pos pos2 : Pos} {a b : Expr} {ma mb : ME}
theorem PostF.of_ext {ad : List Addr} {S H S1 H1 : Hp} {st1 st' : List D} {ys : List D} {Q : VK} (x1 : Ext ad S H S1 H1) (so1 : StoOk G ad S1 st1 H1) (q : PostF G ad S H ys st' Q) : PostF G ad S1 H1 ys st' Q := PostF.from_ x1 so1 q
theorem df_rg1 (hc : X.calm = true) (ht : X.mg "list" = none) (hr : X.mg "range" = none) (ha : DE G X W O a ma) (hg : Gl X "list" := by rfl) (hg2 : Gl X "range" := by rfl)
    (na : starEach [.Call (.Name "range" p2) [a] [] pos2] X.env = (false, eval (.Call (.Name "range" p2) [a] [] pos2) X.env) :: starEach [] X.env := by rfl)
    (nr : starEach [a] X.env = (false, eval a X.env) :: starEach [] X.env := by rfl) :
    DF G X W O (.Call (.Name "list" p) [.Call (.Name "range" p2) [a] [] pos2] [] pos) (mRgF1 ma) := by
  obtain ⟨t, pa, w⟩ := ha.ex
  refine ⟨_, pe_listRg hc hg ht (prg_1 hg2 hr pa nr) na, fun b S env st σ H Q I h => w b S env st σ H _ I (wpR_imp (wpR_bind h) (fun d st1 h1 => ?_) fun _ _ z => z)⟩
  intro v S1 H1 x1 su1 so1 r1
  cases d with
  | int n =>
    cases r1
    dsimp only at h1
    split at h1
    · rename_i ok
      exact ⟨n, rfl, ok, fun z hz => h1 z _ S1 H1 x1 su1 so1 hz (reps_rg 0 (n - 0).toNat)⟩
    · exact h1.elim
  | _ => exact h1.elim
theorem df_rg2 (hc : X.calm = true) (ht : X.mg "list" = none) (hr : X.mg "range" = none) (ha : DE G X W O a ma) (hb : DE G X W O b mb) (hg : Gl X "list" := by rfl) (hg2 : Gl X "range" := by rfl)
    (na : starEach [.Call (.Name "range" p2) [a, b] [] pos2] X.env = (false, eval (.Call (.Name "range" p2) [a, b] [] pos2) X.env) :: starEach [] X.env := by rfl)
    (nr : starEach [a, b] X.env = (false, eval a X.env) :: starEach [b] X.env := by rfl) (nb : starEach [b] X.env = (false, eval b X.env) :: starEach [] X.env := by rfl) (hp : (backTo pos2 (starEach [b] X.env)).any (·.1) = false := by rfl) :
    DF G X W O (.Call (.Name "list" p) [.Call (.Name "range" p2) [a, b] [] pos2] [] pos) (mRgF2 ma mb) := by
  obtain ⟨ta, tb, pa, pb, w⟩ := two_parts (k := fun x y st2 => match x, y with
    | .int i, .int j => if RgOk i j then .ok (rangeD i (j - i).toNat) st2 else .bad
    | _, _ => .bad) ha hb
  refine ⟨_, pe_listRg hc hg ht (prg_2 hg2 hr pa pb nr nb hp) na, fun b S env st σ H Q I h => w b S env st σ H (fun ds st' => PostF G b.ad S H ds st' Q) (fun x y H2 => ∃ i j, x = .int i ∧ y = .int j ∧ RgOk i j ∧ ∀ q, H2 q = none → Q (.ref q) (upd H2 q (.lst (rgV i j)))) I h fun x y dx dy S' H' st' e I' rx ry hk => ?_⟩
  cases rx with
  | int i =>
    cases ry with
    | int j =>
      dsimp only at hk
      split at hk
      · rename_i ok
        exact ⟨i, j, rfl, rfl, ok, fun z hz => hk z _ S' H' e I'.sub I'.sto hz (reps_rg i (j - i).toNat)⟩
      · exact hk.elim
    | _ => exact hk.elim
  | _ => exact hk.elim
end
/-! ### x[i], x[j] = a pair, x owned -/
def setIQ (i : Nat) (mi : ME) (d : D) (k : MS) : MS := fun env st => match env[i]? with
  | some (some (.lst es)) => match mi env st with
    | .ok (.int z) st1 => match ixN es.length z with
      | some j => k (env.set i (some (.lst (es.set j d)))) st1
      | none => .bad
    | _ => .bad
  | _ => .bad
def mSwapI (i : Nat) (mi mj me : ME) : MS := mDo me fun d env st => match d with
  | .tup [a, c] => setIQ i mi a (setIQ i mj c mNx) env st
  | _ => .bad
section
variable {G : Glb} {X : Cx} {W : WX} {O Ob O1 : Ow} {OE : Ow → Prop} {pos : Pos}
theorem setIQ_go {b : Act} {S H : Hp} {env : Env'} {st : List D} {σ : L2.St} {i : Nat} {v : V} {d : D} {mi : ME} {k : MS} {t2 : TE} {D1 : Ends} {Q : L2.St → Hp → Prop} (I : DI G b O S env st σ H) (r : Rep G b.ad S v d) (hm : i ∈ O.own) (hxi : O.exi ≠ some i) (hsf : O.slf ≠ some i)
    (w2 : ∀ (b : Act) S env st σ H Q, DI G b O S env st σ H → wpR (mi env st) (fun d st' => Post G b.ad S H d st' Q) (fun x st' => PostX G b.ad S H x st' fun c dd H' => W c dd σ H') → t2 σ H Q)
    (h : PostS G b Ob OE W O1 D1 S (setIQ i mi d k env st)) (q : ∀ S2 env2 st2 H2, Same S S2 → DI G b O S2 env2 st2 σ H2 → PostS G b Ob OE W O1 D1 S2 (k env2 st2) → Q σ H2) : gSub (tVar i) t2 rSetL v σ H Q := by
  unfold setIQ at h
  cases e1 : env[i]? with
  | none => rw [e1] at h; exact h.elim
  | some o =>
    rw [e1] at h
    cases o with
    | none => exact h.elim
    | some d0 =>
      obtain ⟨a, ws, es, q1, q2, q3, q4, q5, q6, q7⟩ := I.own i d0 hm e1
      subst q1
      dsimp only at h
      refine ⟨_, q2, w2 b S env st σ H _ I ?_⟩
      cases e2 : mi env st with
      | ok di st1 =>
        rw [e2] at h
        intro vi S2 H2 x2 su2 so2 r2
        cases di with
        | int z =>
          cases r2
          have I2 := I.ext x2 su2 so2
          obtain ⟨a', ws', es', y1, y2, y3, y4, y5, y6, y7⟩ := I2.own i _ hm e1
          cases y1
          have ea : a' = a := by
            have := y2.symm.trans q2
            simpa using this
          subst ea
          dsimp only at h
          cases ej : ixN es.length z with
          | none => rw [ej] at h; exact h.elim
          | some j =>
            rw [ej] at h
            exact ⟨a', ws', z, j, rfl, rfl, y3, by rw [y7.len]; exact ej, q S2 _ _ _ x2.same (I2.own_upd hm hxi hsf e1 q2 (Reps.set j y7 (Rep.mono x2.same r))) (h.from_ x2.same)⟩
        | _ => exact h.elim
      | err x st1 => rw [e2] at h; exact h.elim
      | bad => rw [e2] at h; exact h.elim
theorem ds_swapI (i : Nat) {x : Str} {p1 p3 p5 p7 pt : Pos} {kt : Nat} {ei ej e : Expr} {mi mj me : ME} (hc : X.calm = true) (hK : X.K = G.K) (he : DE G X W O e me) (hx : DE G X W O ei mi) (hy : DE G X W O ej mj) (hO : OE O := by first | trivial | rfl) (hN : X.N[i]? = some x := by rfl) (hm : i ∈ O.own := by first | decide | exact of_decide_eq_true rfl) (hxi : O.exi ≠ some i := by first | decide | exact of_decide_eq_true rfl) (hsf : O.slf ≠ some i := by first | decide | exact of_decide_eq_true rfl)
    (hv : Vis X.env.scope x := by first | exact Or.inl rfl | exact Or.inr (Or.inl rfl) | exact Or.inr (Or.inr rfl)) (hd : (x == ("__debug__" : Str)) = false := by decide) (hcd : (x == ("__classdict__" : Str)) = false := by decide)
    (ha : ∀ v, assign (.Subscript (.Name x p1) ei p3) X.env v = (do
      let ov ← holding [v] (eval (.Name x p1) X.env)
      let iv ← holding [v, ov] (eval ei X.env)
      standAt p3
      holding [v, ov, iv] (setItem ov iv v)
      release [v, ov, iv] []) := by intro _; rfl)
    (hb : ∀ v, assign (.Subscript (.Name x p5) ej p7) X.env v = (do
      let ov ← holding [v] (eval (.Name x p5) X.env)
      let iv ← holding [v, ov] (eval ej X.env)
      standAt p7
      holding [v, ov, iv] (setItem ov iv v)
      release [v, ov, iv] []) := by intro _; rfl)
    (hs : swapsWithSole [.Tuple [.Subscript (.Name x p1) ei p3, .Subscript (.Name x p5) ej p7] kt pt] e pos.line X.env = pure false := by rfl) (hw : swappedStores [.Tuple [.Subscript (.Name x p1) ei p3, .Subscript (.Name x p5) ej p7] kt pt] e X.env = pure none := by rfl)
    (h1 : (assignEach [.Tuple [.Subscript (.Name x p1) ei p3, .Subscript (.Name x p5) ej p7] kt pt] X.env).map (·.2) = [assign (.Tuple [.Subscript (.Name x p1) ei p3, .Subscript (.Name x p5) ej p7] kt pt) X.env] := by rfl)
    (h2 : (assignEach [.Subscript (.Name x p1) ei p3, .Subscript (.Name x p5) ej p7] X.env).length = 2 := by rfl) (h3 : (assignEach [.Subscript (.Name x p1) ei p3, .Subscript (.Name x p5) ej p7] X.env).findIdx? (·.1) = none := by rfl)
    (h4 : (assignEach (.Subscript (.Name x p1) ei p3 :: [.Subscript (.Name x p5) ej p7]) X.env).map (·.2) = assign (.Subscript (.Name x p1) ei p3) X.env :: (assignEach [.Subscript (.Name x p5) ej p7] X.env).map (·.2) := by rfl)
    (h5 : (assignEach (.Subscript (.Name x p5) ej p7 :: []) X.env).map (·.2) = assign (.Subscript (.Name x p5) ej p7) X.env :: (assignEach [] X.env).map (·.2) := by rfl) :
    DS G X W Ob OE O (.Assign [.Tuple [.Subscript (.Name x p1) ei p3, .Subscript (.Name x p5) ej p7] kt pt] e pos) O (mSwapI i mi mj me) := by
  obtain ⟨t, p, w⟩ := he.ex
  obtain ⟨t2, p2, w2⟩ := hx.ex
  obtain ⟨t3, q2, w3⟩ := hy.ex
  refine ⟨_, ps_asg p (pg_tup hc (pgs_cons (pg_sub (pe_var hN hv hd hcd) p2 set_list ha) (pgs_cons (pg_sub (pe_var hN hv hd hcd) q2 set_list hb) pgs_nil h5) h4) h2 h3) hs hw h1, fun b S env st σ H D I h => do_part hO w I h fun v d S' H' st' I' r q => ?_⟩
  cases d with
  | tup ds =>
    match ds, r, q with
    | [d1, d2], r, q =>
      cases r with
      | tup g1 g2 =>
        rename_i a vs
        cases g2 with
        | cons r1 g2 =>
          cases g2 with
          | cons r2 g2 =>
            cases g2
            refine ⟨a, _, rfl, hK ▸ Same.sqT I'.sub g1.sqT, rfl, _, _, rfl, setIQ_go I' r1 hm hxi hsf w2 q fun S2 env2 st2 H2 e2 I2 q2 => ⟨_, _, rfl, setIQ_go I2 (Rep.mono e2 r2) hm hxi hsf w3 q2 fun S3 env3 st3 H3 e3 I3 q3 => ⟨rfl, q3 S3 _ _ (.refl _) I3⟩⟩⟩
    | [], _, q => exact q.elim
    | [_], _, q => exact q.elim
    | _ :: _ :: _ :: _, _, q => exact q.elim
  | _ => exact q.elim
end
/-! ### x = [constant for _ in y], y owned, x's own -/
def mRepA (j : Nat) (d : D) : MA := fun env st => match env[j]? with
  | some (some (.lst es)) => if es.length ≤ sizeLine then .ok (List.replicate es.length d) st else .bad
  | _ => .bad
theorem upd_twice (H : Hp) (a : Addr) (x y : HO) : upd (upd H a x) a y = upd H a y := by
  funext c
  by_cases h : c = a
  · rw [h, upd_same, upd_same]
  · rw [upd_ne h, upd_ne h, upd_ne h]
theorem reps_rep {G : Glb} {ad : List Addr} {S : Hp} {v : V} {d : D} (r : Rep G ad S v d) : ∀ n : Nat, Reps G ad S (List.replicate n v) (List.replicate n d)
  | 0 => .nil
  | n + 1 => .cons r (reps_rep r n)
section
variable {G : Glb} {X : Cx} {W : WX} {O Ob : Ow} {OE : Ow → Prop} {pos : Pos} {k : Nat}
theorem ds_ownLcK (i j : Nat) {y x : Str} {py p1 spos : Pos} {elt tg : Expr} {scope : Scope} {nm : Str} {t : Nat} {v : V} {d : D} (xc : XC k G X W) (hN : X.N.Nodup) (ok : BlkOk X.N X.env.scope scope [(nm, t)])
    (hsw : swapsWith (.ListComp elt [⟨tg, .Name x p1, [], 0⟩] scope pos) (some (.Name y py)) spos.line X.env = pure true)
    (hg : ∀ (s : Shared) (H : Hp) (C : Addr) (cl : List (Str × Addr)) (fp : List Addr), PG (X.blk s H scope (compEnvC scope cl C X.env) fp) tg (gName t))
    (he : ∀ (s : Shared) (H : Hp) (C : Addr) (cl : List (Str × Addr)) (fp : List Addr), PE (X.blk s H scope (compEnvC scope cl C X.env) fp) elt (tC v)) (hr : ∀ ad S, Rep G ad S v d)
    (hy : X.N[i]? = some y := by rfl) (hyl : X.env.scope.names.lookup y = some .local := by rfl) (ho : O.has i = false := by rfl) (hx : X.N[j]? = some x := by rfl) (hj : j ∈ O.own := by first | decide | exact of_decide_eq_true rfl)
    (hv : Vis X.env.scope x := by first | exact Or.inl rfl | exact Or.inr (Or.inl rfl) | exact Or.inr (Or.inr rfl)) (hd : (x == ("__debug__" : Str)) = false := by decide) (hcd : (x == ("__classdict__" : Str)) = false := by decide)
    (hs : ∀ z, foldedSetIterable (.Name x p1) X.env z = pure z := by intro _; rfl) :
    DS G X W Ob OE O (.Assign [.Name y py] (.ListComp elt [⟨tg, .Name x p1, [], 0⟩] scope pos) spos) (O.add i) (mSetF i (mRepA j d)) := by
  refine ⟨_, ps_setLc (i := i) xc.calm hN hy hyl hsw (pi_list (pe_var (i := j) hx hv hd hcd)) ok hg (fun s H C cl fp => pts_nil) he hs, fun b S env st σ H D I h => ?_⟩
  unfold mSetF mRepA at h
  cases e : env[j]? with
  | none => rw [e] at h; exact h.elim
  | some o => cases o with
    | none => rw [e] at h; exact h.elim
    | some d0 =>
      obtain ⟨a, vs0, all, q1, q2, q3, q4, q5, q6, q7⟩ := I.own j d0 hj e
      subst q1
      rw [e] at h
      dsimp only at h
      by_cases hz : all.length ≤ sizeLine
      · rw [if_pos hz] at h
        have hlen : vs0.length = all.length := q7.len
        refine ⟨_, q2, a, rfl, ⟨vs0, SqL.of q3⟩, fun Dd hD => ⟨fun n m H' => m = all.length - n ∧ n ≤ all.length ∧ H' = upd H Dd (.lst (List.replicate n v)), ⟨all.length - 0, rfl, Nat.zero_le _, rfl⟩, ?_⟩⟩
        rintro n m H' ⟨rfl, hn, rfl⟩
        have ne : a ≠ Dd := fun z => by rw [← z, q3] at hD; cases hD
        have sq : SqL X.K (upd H Dd (.lst (List.replicate n v))) a vs0 := SqL.of (by rw [upd_ne ne]; exact q3)
        by_cases hlt : n < all.length
        · right
          refine ⟨⟨vs0, vs0[n]'(by omega), sq, List.getElem?_eq_getElem (by omega)⟩, fun H2 => H2 = upd H Dd (.lst (List.replicate (n + 1) v)), fun H2 e2 => ⟨all.length - (n + 1), by omega, rfl, hlt, e2⟩, fun z H2 yy => ?_⟩
          obtain ⟨rfl, yx⟩ := yy
          refine ⟨?_, ?_⟩
          · show ((σ.set t none).set t (some z)).set t none = σ.set t none
            rw [List.set_set, List.set_set]
          · unfold tYes
            dsimp only
            rw [if_pos rfl]
            refine ⟨List.replicate n v, upd_same, by rw [List.length_replicate]; omega, ?_⟩
            rw [upd_twice, ← List.replicate_succ']
        · left
          have en : n = all.length := by omega
          subst en
          exact ⟨⟨vs0, sq, by omega⟩, h S _ _ (.refl _) (I.own_new hD (reps_rep (hr _ _) all.length) ho)⟩
      · rw [if_neg hz] at h; exact h.elim
end
/-! ### a whole number and a truth -/
def dAddB : D → D → Option D
  | .int i, .bl b => some (.int (i + if b = true then (1 : Int) else 0))
  | _, _ => none
section
variable {G : Glb} {X : Cx}
theorem op_addIB : OpR X (binaryOp .Add) (fun x y H Q => ∃ (i : Int) (b : Bool), x = .int i ∧ y = .bl b ∧ Q (.int (i + if b = true then (1 : Int) else 0)) H) := by
  intro pins s σ H x y v u Q I rx ry h
  obtain ⟨i, b, rfl, rfl, q⟩ := h
  obtain ⟨t, rfl⟩ := rx
  obtain rfl : u = .bool b := ry
  exact add_int_bool ⟨.int _, H, I.tok _, ⟨_, rfl⟩, q⟩
theorem opd_addB : OpD G (fun x y H Q => ∃ (i : Int) (b : Bool), x = .int i ∧ y = .bl b ∧ Q (.int (i + if b = true then (1 : Int) else 0)) H) dAddB := ⟨fun ad S H st x y dx dy d Q su so rx ry e q => by
  unfold dAddB at e
  split at e
  · cases e
    cases rx; cases ry
    exact ⟨_, _, rfl, rfl, Post.here su so (.int _) q⟩
  · cases e⟩
end
/-! ### x = [..] if t else [..], x's own -/
def mIfA (t : MT) (ma mb : MA) : MA := fun env st => (t env st).bind fun k st1 => if k = true then ma env st1 else mb env st1
section
variable {G : Glb} {X : Cx} {W : WX} {O : Ow} {pos : Pos} {a b c : Expr} {t : MT} {ma mb : MA}
theorem df_if (hc : DT G X W O c t) (ha : DF G X W O a ma) (hb : DF G X W O b mb) : DF G X W O (.IfExp c a b pos) (mIfA t ma mb) := by
  obtain ⟨tc, pc, wc⟩ := hc.ex
  obtain ⟨ta, pa, wa⟩ := ha.ex
  obtain ⟨tb, pb, wb⟩ := hb.ex
  refine ⟨_, pe_ifExp pc pa pb, fun b S env st σ H Q I h => wc b S env st σ H _ I (wpR_imp (wpR_bind h) (fun k st1 h1 => ?_) fun _ _ z => z)⟩
  intro S1 H1 x1 su1 so1
  cases k with
  | true => exact wa b S1 env st1 σ H1 Q (I.ext x1 su1 so1) (wpR_imp h1 (fun _ _ z => PostF.from_ x1 so1 z) fun _ _ z => z.from_ x1 so1)
  | false => exact wb b S1 env st1 σ H1 Q (I.ext x1 su1 so1) (wpR_imp h1 (fun _ _ z => PostF.from_ x1 so1 z) fun _ _ z => z.from_ x1 so1)
end
end DL

/-! DL, under way: x * y by the class's own __mul__ (two objects of one class): the machine's half. -/
namespace DL
open PySem PySem.Spec PyProof.Rows L2 PySem.W
section
variable {prog : Program} {w : World} {A : Around} {E : Value → Shared → Prop} {s : Shared} {K : Frag} {x y C f : Addr} {h : Heap} {ox oy : Obj} {od oe : Option Obj} {cd : ClassData} {rest : List Value}
theorem looks_fillsMul {M : Model} (X : K.In h) (hc : clsIn K C = some cd) (hm : cd.mro = .ref C :: rest) (hs : findIn K (.ref C) "__mul__" = some (some (.ref f))) : Looks M h (fillsNumberSlot (.ref C) "mul") true := by
  unfold fillsNumberSlot
  have L : Looks M h (mroOf (.ref C)) cd.mro := (looks_clsIn X hc).andThen .now
  refine L.andThen ?_
  rw [hm]
  have own : Looks M h (typeLookup (.ref C) (PySem.dunder "mul")) (some (.ref f)) := looks_findIn X hs
  have one : Looks M h ([PySem.dunder "mul", PySem.dunderR "mul"].anyM fun name => do
      let some z ← typeLookup (.ref C) name | return false
      if !ownNameWrapper z name then return true
      return !(← inheritsSeqSlot (.ref C) name)) true := by
    unfold List.anyM
    refine Looks.andThen (a := true) (own.andThen ?_) ?_
    · exact .now
    · exact .now
  unfold List.anyM
  refine Looks.andThen (a := true) one ?_
  exact .now
theorem mul_own {Q : Value → Shared → Prop} (X : K.In s.heap) (I : InstAt s.heap x ox C od) (J : InstAt s.heap y oy C oe) (hc : clsIn K C = some cd) (hm : cd.mro = .ref C :: rest) (hs : findIn K (.ref C) "__mul__" = some (some (.ref f))) (hf : isFn K (.ref f) = true)
    (k : wpAny (model prog w) A (call (.ref f) [.ref x, .ref y]) (fun v s' => v ≠ .notImplemented ∧ Q v s') E s) : wpAny (model prog w) A (binaryOp .Mult (.ref x) (.ref y)) Q E s := by
  have one : wpAny (model prog w) A (tryMethod (.ref x) "__mul__" (.ref y)) (fun r s' => ∃ v, r = some v ∧ Q v s') E s := by
    unfold tryMethod callSpecial?
    have sp : Looks (model prog w) s.heap (specialOf (.ref x) "__mul__") (some (.ref f)) := I.type.andThen (looks_findIn X hs)
    refine wpAny_bind (wpAny_bind (sp.here ?_))
    refine wpAny_holding (wpAny_bind ((bind_fn X _ (beq_iff_eq.mp hf)).here ?_))
    refine wpAny_bind (wpAny_mono k (fun v s' z => ?_) fun _ _ e => e)
    refine wpAny_pure ?_
    obtain ⟨z1, z2⟩ := z
    cases v <;> first | exact absurd rfl z1 | exact wpAny_pure ⟨_, rfl, z2⟩
  unfold binaryOp binaryOp1
  refine wpAny_holding ?_
  refine wpAny_bind (wpAny_bind (I.type.here (wpAny_bind (J.type.here ?_))))
  refine wpAny_bind ((looks_fillsMul X hc hm hs).here ?_)
  simp only [beq_self_eq_true, if_true, Bool.and_false, Bool.false_eq_true, if_false, pure_bind]
  refine wpAny_bind (wpAny_mono one (fun r s' z => ?_) fun _ _ e => e)
  obtain ⟨v, rfl, q⟩ := z
  exact wpAny_pure (wpAny_pure q)
end
section
variable {X : Cx} {n : Nat} {C f : Addr} {fd : FuncData} {ps : List Str} {sp : Sp} {cd : ClassData} {rest : List Value}
def rMulO (C : Addr) (sp : Sp) : R2 := fun x y H Q => ∃ (a b dx dy : Addr) (fs gs : List (Str × V)), x = .ref a ∧ y = .ref b ∧ H a = some (.ins C dx fs) ∧ H b = some (.ins C dy gs) ∧ sp [x, y] H (fun v H' => Q v H') (fun _ _ _ => False)
theorem op_mulO (F : FnOk X.prog X.w X.K X.mg X.base (L2.CX X.prog X.w) n f fd ps sp) (rm : Room n X.A) (hc : PySem.W.clsIn X.K C = some cd) (hm : cd.mro = .ref C :: rest) (at_ : PySem.W.findIn X.K (.ref C) "__mul__" = some (some (.ref f))) (isf : PySem.W.isFn X.K (.ref f) = true) (bn : Binds X.K fd ps []) : OpR X (binaryOp .Mult) (rMulO C sp) := by
  intro pins s σ H x y v u Q I rx ry h
  obtain ⟨a, b, dx, dy, fs, gs, rfl, rfl, ha, hb, go⟩ := h
  cases rx
  cases ry
  show wpAny (model X.prog X.w) X.A (binaryOp .Mult (.ref a) (.ref b)) (EP X pins σ Q) X.xe s
  obtain ⟨mA, J, _⟩ := ins_get I.hok ha
  obtain ⟨od, J, _⟩ := J.look
  obtain ⟨mB, J2, _⟩ := ins_get I.hok hb
  obtain ⟨oe, J2, _⟩ := J2.look
  obtain ⟨m, hF⟩ := I.fr
  refine mul_own (I.ok.mod.kin.keeps hF.keep) J J2 hc hm at_ isf ?_
  refine wpAny_mono (run_fnSD (E := fun _ _ _ _ => False) (us := [.ref a, .ref b]) (vs := [.ref a, .ref b]) F rm bn (dvs := []) .nil (fun pins H s e s' _ z => by obtain ⟨_, _, _, _, _, _, _, _, _, _, _, _, z⟩ := z; exact z.elim) I (.cons rfl (.cons rfl .nil)) (by rw [List.append_nil]; exact go)) (fun r s' z => ?_) fun _ _ z => z
  obtain ⟨w, H', I', rw_, q⟩ := z
  refine ⟨fun e => ?_, w, H', I', rw_, q⟩
  subst e
  revert rw_
  cases w <;> intro r <;> first | (obtain ⟨_, z⟩ := r; exact nomatch z) | exact nomatch r
end
/-- x * y, two objects of class ci: its own __mul__; else as before -/
noncomputable def mMulO (ci : Nat) (m : List D → M D) (ma mb : ME) : ME := fun env st => (ma env st).bind fun x st1 => (mb env st1).bind fun y st2 => match x, y with
  | .obj c fs, .obj c2 gs => if c = ci ∧ c2 = ci then noEr (m [.obj c fs, .obj c2 gs] st2) else .bad
  | _, _ => .bad
section
variable {G : Glb} {X : Cx} {W : WX} {O : Ow} {pos : Pos} {a b : Expr} {ma mb : ME} {k j : Nat} {f : Addr} {fd : FuncData} {ps : List Str} {m : List D → M D} {ci : Nat}
theorem de_mulO (c : XC k G X W) (sf : PySem.W.selfFirst G.K (G.cl ci) = true) (F : FnOk X.prog X.w X.K X.mg X.base (L2.CX X.prog X.w) j f fd ps (spD G 2 m)) (at_ : PySem.W.findIn G.K (.ref (G.cl ci)) "__mul__" = some (some (.ref f))) (isf : PySem.W.isFn G.K (.ref f) = true) (bn : Binds X.K fd ps [])
    (ha : DE G X W O a ma) (hb : DE G X W O b mb) (hjk : j ≤ k := by decide) : DE G X W O (.BinOp a .Mult b pos) (mMulO ci m ma mb) := by
  have hK := c.K
  obtain ⟨cd, rest, hc, hm⟩ := PySem.W.ksp_first sf
  obtain ⟨ta, tb, pa, pb, w⟩ := two_parts (k := fun x y => fun st2 => match x, y with
    | .obj c fs, .obj c2 gs => if c = ci ∧ c2 = ci then noEr (m [.obj c fs, .obj c2 gs] st2) else .bad
    | _, _ => .bad) ha hb
  refine ⟨_, pe_op (op_mulO (C := G.cl ci) F (c.hr.mono hjk) (hK ▸ hc) hm (hK ▸ at_) (hK ▸ isf) bn) pa pb, fun b S env st σ H Q I h => w b S env st σ H _ (fun x y H2 => rMulO (G.cl ci) _ x y H2 Q) I h fun x y dx dy S' H' st' e I' rx ry hk => ?_⟩
  cases rx with
  | obj h2 r2 =>
    rename_i aa ax cx vs fs
    cases ry with
    | obj h3 r3 =>
      rename_i ab ay cy us gs
      dsimp only at hk
      split at hk
      case isFalse => exact hk.elim
      rename_i ok
      obtain ⟨rfl, rfl⟩ := ok
      refine ⟨_, _, _, _, _, _, rfl, rfl, I'.sub _ _ h2, I'.sub _ _ h3, ⟨⟨S', H', b.ad⟩, _, st', rfl, rfl, I'.sub, I'.sto, .cons (.obj h2 r2) (.cons (.obj h3 r3) .nil), ?_⟩⟩
      refine wpR_imp (wp_noEr hk) (fun d st3 z => ?_) fun _ _ z => z
      intro v S3 H3 x3 su3 so3 r4
      exact (Post.from_ e I'.sto z) v S3 H3 x3 su3 so3 r4
    | _ => exact hk.elim
  | _ => exact hk.elim
/-- an expression never asked -/
def mBad : ME := fun _ _ => .bad
theorem de_bad {e : Expr} : DE G X W O e mBad := ⟨fun _ _ _ => False, ⟨fun _ _ _ _ _ _ h => h.elim⟩, fun _ _ _ _ _ _ _ _ h => h.elim⟩
end
end DL

/-! DL, under way: max and min of a list of ints. -/
namespace DL
open PySem PySem.Spec PyProof.Rows L2
def rMaxL (K : PySem.W.Frag) : List V → Hp → VK → Prop := fun xs H Q => ∃ (a : Addr) (n : Int) (ns : List Int), xs = [.ref a] ∧ SqL K H a ((n :: ns).map V.int) ∧ Q (.int (PySem.W.maxOf n ns)) H
def rMinL (K : PySem.W.Frag) : List V → Hp → VK → Prop := fun xs H Q => ∃ (a : Addr) (n : Int) (ns : List Int), xs = [.ref a] ∧ SqL K H a ((n :: ns).map V.int) ∧ Q (.int (PySem.W.minOf n ns)) H
section
variable {X : Cx}
theorem cr_maxL (hc : X.calm = true) (hu : X.A.units + 64 < cLine) : CallR X (.builtin "max") (rMaxL X.K) := by
  intro pins s σ H vs us Q I r h
  obtain ⟨a, n, ns, rfl, hs, q⟩ := h
  obtain ⟨its, rv, hl, _⟩ := I.list hs
  rw [Vals.ref1 r]
  refine PySem.W.max_list_datum (α := Int) (x := n) (xs := ns) (I.ok.hd hc) hl.isList (hold_ints rv) (Nat.lt_of_le_of_lt (by show X.A.units + 1 + 0 ≤ _; omega) hu) fun i v h' tk _ hv hk => ?_
  obtain ⟨as, rd⟩ := hv
  cases rd
  exact ⟨.int _, H, I.kept hk, ⟨_, rfl⟩, q⟩
theorem cr_minL (hc : X.calm = true) (hu : X.A.units + 64 < cLine) : CallR X (.builtin "min") (rMinL X.K) := by
  intro pins s σ H vs us Q I r h
  obtain ⟨a, n, ns, rfl, hs, q⟩ := h
  obtain ⟨its, rv, hl, _⟩ := I.list hs
  rw [Vals.ref1 r]
  refine PySem.W.min_list_datum (α := Int) (x := n) (xs := ns) (I.ok.hd hc) hl.isList (hold_ints rv) (Nat.lt_of_le_of_lt (by show X.A.units + 1 + 0 ≤ _; omega) hu) fun i v h' tk _ hv hk => ?_
  obtain ⟨as, rd⟩ := hv
  cases rd
  exact ⟨.int _, H, I.kept hk, ⟨_, rfl⟩, q⟩
end
def dMaxA (f : Int → List Int → Int) : List D → Option D := fun ds => match ds with
  | [.lst ds] => match ints? ds with
    | some (n :: ns) => some (.int (f n ns))
    | _ => none
  | ds => dMaxT f ds
theorem cd_maxA {G : Glb} {X : Cx} (hK : X.K = G.K) : CallD G (fun xs H Q => rMaxL X.K xs H Q ∨ rMaxT X.K xs H Q) (dMaxA PySem.W.maxOf) := ⟨fun ad S H st xs ds d Q su so r e q => by
  unfold dMaxA at e
  split at e
  · rename_i ys
    obtain ⟨v, rfl, rv⟩ := reps1 r
    split at e
    · rename_i n ns en
      cases e
      cases rv with
      | lst h2 r2 =>
        rename_i a vs
        have ev := ints_ok r2 en
        subst ev
        exact .inl ⟨a, n, ns, rfl, SqL.of (su _ _ h2), Post.here su so (.int _) q⟩
    · cases e
  · exact .inr ((cd_maxT hK).1 ad S H st xs _ d Q su so r e q)⟩
theorem cd_minA {G : Glb} {X : Cx} (hK : X.K = G.K) : CallD G (fun xs H Q => rMinL X.K xs H Q ∨ rMinT X.K xs H Q) (dMaxA PySem.W.minOf) := ⟨fun ad S H st xs ds d Q su so r e q => by
  unfold dMaxA at e
  split at e
  · rename_i ys
    obtain ⟨v, rfl, rv⟩ := reps1 r
    split at e
    · rename_i n ns en
      cases e
      cases rv with
      | lst h2 r2 =>
        rename_i a vs
        have ev := ints_ok r2 en
        subst ev
        exact .inl ⟨a, n, ns, rfl, SqL.of (su _ _ h2), Post.here su so (.int _) q⟩
    · cases e
  · exact .inr ((cd_minT hK).1 ad S H st xs _ d Q su so r e q)⟩
end DL

/-! DL, under way: zip of lists and tuples mixed. -/
namespace DL
open PySem PySem.Spec PyProof.Rows L2 RZ
/-! one source: a tuple (true) or a list (false) -/
def SqB (K : PySem.W.Frag) (b : Bool) (H : Hp) (a : Addr) (xs : List V) : Prop := if b = true then SqT K H a xs else SqL K H a xs
def ItB (b : Bool) (h : Heap) (it a : Addr) (i : Nat) : Prop := if b = true then h.IsTupleIter it a i else h.IsListIter it a i
def SeqB (b : Bool) (h : Heap) (a : Addr) (its : Array Value) : Prop := if b = true then h.IsTuple a its else h.IsList a its
def newB (b : Bool) (a : Addr) : Obj := if b = true then { cls := .type "tuple_iterator", data := .fields #[.ref a, .int 0 0] } else { cls := .type "list_iterator", data := .fields #[.ref a, .int 0 0] }
theorem beginsB (b : Bool) (a : Addr) (its : Array Value) : Begins (.ref a) (newB b a) fun h => SeqB b h a its := by
  cases b
  · exact begins_list a its
  · exact begins_tuple a its
theorem itB_new (b : Bool) {h : Heap} {it a : Addr} (e : h.get? it = some (newB b a)) : ItB b h it a 0 := by
  cases b
  · exact ⟨_, e, rfl, rfl⟩
  · exact ⟨_, e, rfl, rfl⟩
theorem drawsB {prog : Program} {w : World} {A : Around} (hh : A.handled = none) (b : Bool) (it a : Addr) (hne : a ≠ it) (its : Array Value) : Draws prog w A it [it, a] its.size (fun i v => its[i]? = some v) (fun i h => ItB b h it a i ∧ SeqB b h a its) := by
  cases b
  · exact Draws.list hh it a hne its
  · exact Draws.tuple hh it a hne its
theorem ItB.obj {b : Bool} {h : Heap} {it a : Addr} {i : Nat} (q : ItB b h it a i) : ∃ o, h.get? it = some o ∧ ∀ v, o.data ≠ .cell v := by
  cases b
  · obtain ⟨o, e, _, d⟩ := (show h.IsListIter it a i from q)
    exact ⟨o, e, fun v z => by rw [d] at z; cases z⟩
  · obtain ⟨o, e, _, d⟩ := (show h.IsTupleIter it a i from q)
    exact ⟨o, e, fun v z => by rw [d] at z; cases z⟩
theorem ItB.at_ {b : Bool} {h h' : Heap} {it a : Addr} {i : Nat} (q : ItB b h it a i) (k : ∀ o, h.get? it = some o → h'.get? it = some o) : ItB b h' it a i := by
  cases b
  · exact (show h.IsListIter it a i from q).at k
  · exact (show h.IsTupleIter it a i from q).at k
section
variable {X : Cx} {pins : List (Addr × Obj)} {σ : L2.St} {H : Hp} {s : Shared}
theorem seqB_at (I : Inv X pins σ H s) {b : Bool} {a : Addr} {xs : List V} (q : SqB X.K b H a xs) : ∃ its : List Value, Vals xs its ∧ SeqB b s.heap a its.toArray ∧ a < s.heap.objs.size := by
  cases b
  · obtain ⟨its, rv, p, _⟩ := I.list (show SqL X.K H a xs from q)
    exact ⟨its, rv, p.isList, p.lt⟩
  · obtain ⟨its, rv, p, _⟩ := I.tuple (show SqT X.K H a xs from q)
    obtain ⟨o, ho, _⟩ := id p
    exact ⟨its, rv, p, Heap.lt_size ho⟩
theorem sqB_inj (I : Inv X pins σ H s) {b : Bool} {a : Addr} {xs ys : List V} (q : SqB X.K b H a xs) (r : SqB X.K b H a ys) : xs = ys := by
  cases b
  · exact I.list_inj (show SqL X.K H a xs from q) (show SqL X.K H a ys from r)
  · exact I.tuple_inj (show SqT X.K H a xs from q) (show SqT X.K H a ys from r)
end
/-- two sources at a and c, their items in new pairs -/
def ItzB (K : PySem.W.Frag) (b d : Bool) (a c : Addr) : It :=
  ⟨fun i H => ∃ (xs ys : List V) (x y : V), SqB K b H a xs ∧ SqB K d H c ys ∧ xs[i]? = some x ∧ ys[i]? = some y,
    fun i H v H' => ∃ T x y, v = .ref T ∧ H T = none ∧ H' = upd H T (.tup [x, y]) ∧ (∀ xs, SqB K b H a xs → xs[i]? = some x) ∧ ∀ ys, SqB K d H c ys → ys[i]? = some y,
    fun i H => ∃ xs ys : List V, SqB K b H a xs ∧ SqB K d H c ys ∧ i ≤ xs.length ∧ i ≤ ys.length ∧ (i = xs.length ∨ i = ys.length)⟩
structure Cells (z TI TO i1 i2 a c : Addr) : Prop where
  D : ZipApart z TI TO i1 i2 a c
  S : ZipSep2 z TI TO i1 i2 [i1, a] [i2, c]
theorem cells (n a c : Addr) (ha : a < n) (hc : c < n) : Cells (n + 4) (n + 2) (n + 3) n (n + 1) a c := by
  have D := PySem.W.ktu_apart n a c ha hc
  have no : ∀ {x y z : Addr}, x ≠ y → x ≠ z → x ∉ [y, z] := fun p q h => by
    rcases List.mem_cons.mp h with e | h
    · exact p e
    · exact q (List.mem_singleton.mp h)
  exact ⟨D, ⟨D.TIz, D.TOz, D.TITO, D.TIi1, List.mem_cons_self, no D.i1z.symm D.l1z.symm, no D.TOi1 D.l1TO.symm, D.TIi2, List.mem_cons_self, no D.i2z.symm D.l2z.symm, no D.TOi2 D.l2TO.symm, no D.i12 D.l2i1.symm, no D.i12.symm D.l1i2.symm⟩⟩
theorem turn_zipB {P : Program} {w : World} {K : PySem.W.Frag} {elts : List Expr} {kk : Nat} {tpos : Pos} {b d : Bool} {a c z TI TO i1 i2 : Addr} (C : Cells z TI TO i1 i2 a c) :
    Turn P w K (.Tuple elts kk tpos) (ItzB K b d a c) [z, TI, TO, i1, i2] z (fun i h => IsZip h z TI TO .none ∧ IsTupOf2 h TI (.ref i1) (.ref i2) ∧ (∃ x y, IsTupOf2 h TO x y) ∧ ItB b h i1 a i ∧ ItB d h i2 c i) where
  mem := List.mem_cons_self
  obj := fun i h st e he => by
    obtain ⟨hz, hTI, ⟨x, y, hTO⟩, q1, q2⟩ := st
    simp only [List.mem_cons, List.not_mem_nil, or_false] at he
    rcases he with r | r | r | r | r <;> subst r
    · exact ⟨_, hz, fun v q => nomatch q⟩
    · exact ⟨_, hTI, fun v q => nomatch q⟩
    · exact ⟨_, hTO, fun v q => nomatch q⟩
    · exact q1.obj
    · exact q2.obj
  keep := fun i h h' st k => by
    obtain ⟨hz, hTI, ⟨x, y, hTO⟩, q1, q2⟩ := st
    exact ⟨k _ (by simp) _ hz, k _ (by simp) _ hTI, ⟨x, y, k _ (by simp) _ hTO⟩, q1.at_ fun o q => k _ (by simp) o q, q2.at_ fun o q => k _ (by simp) o q⟩
  item := by
    intro X hP hw hK hc i pins s σ H E I hf st hg
    subst hP hw hK
    obtain ⟨hz, hTI, ⟨x0, y0, hTO⟩, q1, q2⟩ := st
    obtain ⟨xs, ys, x, y, sx, sy, hx, hy⟩ := hg
    obtain ⟨its, rv, p1, _⟩ := seqB_at I sx
    obtain ⟨jts, rv2, p2, _⟩ := seqB_at I sy
    obtain ⟨u, hu, ru⟩ := rv.get hx
    obtain ⟨u2, hu2, ru2⟩ := rv2.get hy
    have D1 := drawsB (prog := X.prog) (w := X.w) (A := X.A.in1) (I.ok.hd hc) b i1 a C.D.l1i1 its.toArray
    have D2 := drawsB (prog := X.prog) (w := X.w) (A := X.A.in1) (I.ok.hd hc) d i2 c C.D.l2i2 jts.toArray
    have z1 : i < its.toArray.size := by rw [List.size_toArray]; exact (List.getElem?_eq_some_iff.mp hu).1
    have z2 : i < jts.toArray.size := by rw [List.size_toArray]; exact (List.getElem?_eq_some_iff.mp hu2).1
    have hzl : z < s.heap.objs.size := Heap.lt_size hz
    refine wpAny_pyNext_zipD2_item C.S D1 D2 hz hTI hTO ⟨q1, p1⟩ ⟨q2, p2⟩ z1 z2 fun v1 v2 h' tk e1 e2 z' TO' st1 st2 hT hsz hk => ?_
    have f1 : its.toArray[i]? = some u := by simpa using hu
    have f2 : jts.toArray[i]? = some u2 := by simpa using hu2
    rw [f1] at e1
    rw [f2] at e2
    cases e1
    cases e2
    refine ⟨_, rfl, wpAny_letOwnedTupleGo_zip (s := { s with heap := h', toks := tk }) z' fun h'' z'' sb => ?_⟩
    have hT2 : h''.get? s.heap.objs.size = some { cls := .type "tuple", data := .seq #[u, u2] } := (sb.2 _ (Nat.ne_of_gt hzl)).trans hT
    have new : ObjOk X.prog X.w (upd H s.heap.objs.size (.tup [x, y])) h'' s.heap.objs.size (.tup [x, y]) := ⟨by show 2 ≤ sizeLine; decide, [u, u2], .cons ru (.cons ru2 .nil), ⟨_, hT2, rfl, _, rfl⟩⟩
    have I1 : Inv X pins σ (upd H s.heap.objs.size (.tup [x, y])) { s with heap := h'', toks := tk } :=
      I.turnedNew (ch := [z, TI, TO, i1, i2]) (fun e o he q => (sb.2 e (fun r => he (by simp [r]))).trans (hk e o (fun r => he (by simp [r])) (fun r => he (by simp [r])) (fun r => he (by simp [r])) (fun r => he (by simp [r])) q)) hf (Nat.le_refl _) new
    refine ⟨.ref s.heap.objs.size, _, I1, rfl, ⟨_, x, y, rfl, I.hok.fresh (Nat.le_refl _), rfl, fun l hl => by rw [sqB_inj I hl sx]; exact hx, fun l hl => by rw [sqB_inj I hl sy]; exact hy⟩, ⟨z'', ?_, ⟨u, u2, ?_⟩, ?_, ?_⟩, fun e he => ?_⟩
    · exact (sb.2 _ C.D.TIz).trans (hk _ _ C.D.TIz C.D.TITO C.D.TIi1 C.D.TIi2 hTI)
    · exact (sb.2 _ C.D.TOz).trans TO'
    · exact st1.1.at_ fun o q => (sb.2 _ C.D.i1z).trans q
    · exact st2.1.at_ fun o q => (sb.2 _ C.D.i2z).trans q
    · have lt : e < s.heap.objs.size := by
        simp only [List.mem_cons, List.not_mem_nil, or_false] at he
        rcases he with r | r | r | r | r <;> subst r
        · exact hzl
        · exact Heap.lt_size hTI
        · exact Heap.lt_size hTO
        · obtain ⟨_, g, _⟩ := q1.obj; exact Heap.lt_size g
        · obtain ⟨_, g, _⟩ := q2.obj; exact Heap.lt_size g
      rw [upd_ne (Nat.ne_of_lt lt)]
      exact (hf e he).1
  done := by
    intro X hP hw hK hc i pins s σ H E I hf st hg
    subst hP hw hK
    obtain ⟨hz, hTI, ⟨x0, y0, hTO⟩, q1, q2⟩ := st
    obtain ⟨xs, ys, sx, sy, le1, le2, en⟩ := hg
    obtain ⟨its, rv, p1, _⟩ := seqB_at I sx
    obtain ⟨jts, rv2, p2, _⟩ := seqB_at I sy
    have D1 := drawsB (prog := X.prog) (w := X.w) (A := X.A.in1) (I.ok.hd hc) b i1 a C.D.l1i1 its.toArray
    have D2 := drawsB (prog := X.prog) (w := X.w) (A := X.A.in1) (I.ok.hd hc) d i2 c C.D.l2i2 jts.toArray
    have n1 := rv.length
    have n2 := rv2.length
    refine wpAny_pyNext_zipD2_end C.S D1 D2 hz hTI hTO ⟨q1, p1⟩ ⟨q2, p2⟩ (by rw [List.size_toArray]; omega) (by rw [List.size_toArray]; omega) (by rw [List.size_toArray, List.size_toArray]; omega) fun h' tk hk => ⟨rfl, I.turnedL (ch := [z, TI, TO, i1, i2]) (fun e o he q => hk e o (fun r => he (by simp [r])) (fun r => he (by simp [r])) (fun r => he (by simp [r])) (fun r => he (by simp [r])) q) hf⟩
  self := fun A i s Q E st h => wpAny_pyIter_zip st.1 h
def iZipB (K : PySem.W.Frag) (ta : TA) : TI := fun σ H R => ta σ H fun vs H1 => ∃ (a c : Addr) (b d : Bool) (xs ys : List V), vs = [.ref a, .ref c] ∧ SqB K b H1 a xs ∧ SqB K d H1 c ys ∧ R (ItzB K b d a c) H1
theorem pi_zipB {X : Cx} {e e2 : Expr} {ta : TA} {p pos tpos : Pos} {elts : List Expr} {kk : Nat} (hg : Gl X "zip") (hm : X.mg "zip" = none) (ha : PA X [e, e2] ta)
    (hs : starEach [e, e2] X.env = (false, eval e X.env) :: starEach [e2] X.env := by rfl) (hpl : (backTo pos (starEach [e2] X.env)).any (·.1) = false := by rfl) : PI X (.Tuple elts kk tpos) (.Call (.Name "zip" p) [e, e2] [] pos) (iZipB X.K ta) := by
  refine ⟨fun pins s σ H R I h => Call_ (ld_blt I hg hm PyProof.Rows.boot_zip (PyProof.Rows.callWith_type1 (thn (ha.run pos pins s σ H _ I h) fun us s1 ⟨vs, H1, I1, r1, q1⟩ => ?_) hs hpl))⟩
  obtain ⟨a, c, b, d, xs, ys, ex, sx, sy, q⟩ := q1
  subst ex
  cases r1 with
  | cons r rr =>
    cases rr with
    | cons r' rr =>
      cases rr
      cases r
      cases r'
      obtain ⟨its, rv, p1, l1⟩ := seqB_at I1 sx
      obtain ⟨jts, rv2, p2, l2⟩ := seqB_at I1 sy
      have fr : ∀ e, e ∈ [s1.heap.objs.size + 4, s1.heap.objs.size + 2, s1.heap.objs.size + 3, s1.heap.objs.size, s1.heap.objs.size + 1] → FpOk X pins H1 e := fun e he => by
        have le : s1.heap.objs.size ≤ e := by
          simp only [List.mem_cons, List.not_mem_nil, or_false] at he
          have ex : ∀ x y : Nat, x = y + 4 ∨ x = y + 2 ∨ x = y + 3 ∨ x = y ∨ x = y + 1 → y ≤ x := fun x y h => by omega
          exact ex _ _ he
        exact I1.fpOk le (I1.hok.fresh le)
      refine zip_begins2 (beginsB b a its.toArray) (beginsB d c jts.toArray) p1 p2 fun h' hz hTI hTO g1 g2 hsz hk => wpAny_pyIter_zip hz ?_
      have I2 : Inv X pins σ H1 { s1 with heap := h' } := I1.kept (t' := s1.toks) hk
      exact ⟨s1.heap.objs.size + 4, [s1.heap.objs.size + 4, s1.heap.objs.size + 2, s1.heap.objs.size + 3, s1.heap.objs.size, s1.heap.objs.size + 1], _, _, H1, rfl, I2, turn_zipB (cells _ a c l1 l2), ⟨hz, hTI, ⟨_, _, hTO⟩, itB_new b g1, itB_new d g2⟩, fr, q⟩
section
variable {G : Glb} {ad : List Addr} {S : Hp}
theorem Same.sqB {K : PySem.W.Frag} {H H' : Hp} {b : Bool} {a : Addr} {xs : List V} (e : Same H H') (h : SqB K b H a xs) : SqB K b H' a xs := by
  cases b
  · exact Same.sqL e (show SqL K H a xs from h)
  · exact Same.sqT e (show SqT K H a xs from h)
theorem iter_zipB {b d : Bool} {a c : Addr} {vs ws : List V} {ds es : List D} (h : SqB G.K b S a vs) (r : Reps G ad S vs ds) (h2 : SqB G.K d S c ws) (r2 : Reps G ad S ws es) : IterOK G ad S (ItzB G.K b d a c) (List.zipWith (fun x y => .tup [x, y]) ds es) := by
  intro i S' H' e su
  have h' := Same.sqB (e.trans su) h
  have h2' := Same.sqB (e.trans su) h2
  refine ⟨fun hi => ?_, fun q hd => ?_⟩
  · rw [List.length_zipWith] at hi
    have l1 := r.len
    have l2 := r2.len
    exact ⟨vs, ws, h', h2', by omega, by omega, by omega⟩
  · rw [List.getElem?_zipWith] at hd
    cases q1 : ds[i]? with
    | none => rw [q1] at hd; simp at hd
    | some d1 =>
      cases q2 : es[i]? with
      | none => rw [q1, q2] at hd; simp at hd
      | some d2 =>
        rw [q1, q2] at hd
        have e0 : D.tup [d1, d2] = q := by simpa using hd
        subst e0
        obtain ⟨v, hv, rv⟩ := r.get q1
        obtain ⟨u, hu, ru⟩ := r2.get q2
        refine ⟨⟨vs, ws, v, u, h', h2', hv, hu⟩, fun x H'' ⟨T, y, z, e1, hT, e2, e3, e4⟩ => ?_⟩
        subst e1
        subst e2
        cases Option.some.inj (hv.symm.trans (e3 vs h'))
        cases Option.some.inj (hu.symm.trans (e4 ws h2'))
        exact pair_new su hT (rv.mono e) (ru.mono e)
end
def zipM? : List D → M (List D) := fun ds st => match ds with
  | [.lst xs, .lst ys] => .ok (List.zipWith (fun x y => .tup [x, y]) xs ys) st
  | [.tup xs, .tup ys] => .ok (List.zipWith (fun x y => .tup [x, y]) xs ys) st
  | [.tup xs, .lst ys] => .ok (List.zipWith (fun x y => .tup [x, y]) xs ys) st
  | [.lst xs, .tup ys] => .ok (List.zipWith (fun x y => .tup [x, y]) xs ys) st
  | _ => .bad
section
variable {G : Glb} {X : Cx} {W : WX} {O : Ow} {pos p : Pos} {a a2 : Expr} {ma : MA}
theorem di_zipM {elts : List Expr} {kk : Nat} {tpos : Pos} (hK : X.K = G.K) (hm : X.mg "zip" = none) (ha : DA G X W O [a, a2] ma) (hg : Gl X "zip" := by rfl)
    (hs : starEach [a, a2] X.env = (false, eval a X.env) :: starEach [a2] X.env := by rfl) (hpl : (backTo pos (starEach [a2] X.env)).any (·.1) = false := by rfl) :
    DIt G X W O (.Tuple elts kk tpos) (.Call (.Name "zip" p) [a, a2] [] pos) (mThenA ma zipM?) := by
  obtain ⟨t, pa, w⟩ := ha.ex
  refine ⟨_, pi_zipB hg hm pa hs hpl, fun b S env st σ H R I h => args_walk (es := [a]) w I h fun vs ds S1 H1 st1 x1 su1 so1 r1 h1 => ?_⟩
  unfold zipM? at h1
  split at h1
  · cases r1 with
    | cons r rr =>
      cases rr with
      | cons r' rr =>
        cases rr
        cases r with
        | lst h2 h3 =>
          cases r' with
          | lst h4 h5 => exact ⟨_, _, false, false, _, _, rfl, SqL.of (su1 _ _ h2), SqL.of (su1 _ _ h4), hK ▸ h1 _ _ _ x1 su1 so1 (iter_zipB (b := false) (d := false) (SqL.of h2) h3 (SqL.of h4) h5)⟩
  · cases r1 with
    | cons r rr =>
      cases rr with
      | cons r' rr =>
        cases rr
        cases r with
        | tup h2 h3 =>
          cases r' with
          | tup h4 h5 => exact ⟨_, _, true, true, _, _, rfl, hK ▸ Same.sqT su1 h2.sqT, hK ▸ Same.sqT su1 h4.sqT, hK ▸ h1 _ _ _ x1 su1 so1 (iter_zipB (b := true) (d := true) (h2.sqT) h3 (h4.sqT) h5)⟩
  · cases r1 with
    | cons r rr =>
      cases rr with
      | cons r' rr =>
        cases rr
        cases r with
        | tup h2 h3 =>
          cases r' with
          | lst h4 h5 => exact ⟨_, _, true, false, _, _, rfl, hK ▸ Same.sqT su1 h2.sqT, SqL.of (su1 _ _ h4), hK ▸ h1 _ _ _ x1 su1 so1 (iter_zipB (b := true) (d := false) (h2.sqT) h3 (SqL.of h4) h5)⟩
  · cases r1 with
    | cons r rr =>
      cases rr with
      | cons r' rr =>
        cases rr
        cases r with
        | lst h2 h3 =>
          cases r' with
          | tup h4 h5 => exact ⟨_, _, false, true, _, _, rfl, SqL.of (su1 _ _ h2), hK ▸ Same.sqT su1 h4.sqT, hK ▸ h1 _ _ _ x1 su1 so1 (iter_zipB (b := false) (d := true) (SqL.of h2) h3 (h4.sqT) h5)⟩
  · exact h1.elim
end
end DL

/-! DL: a tuple whose object is known whole (tpx): tuple(range(a, b)) made so; read as a tuple; t.index(x). -/
namespace DL
open PySem PySem.Spec PyProof.Rows L2
section
variable {X : Cx} {e : Expr} {te : L2.St → Hp → (Int → Int → Hp → Prop) → Prop}
theorem pe_tupRgF {p pos : Pos} (hc : X.calm = true) (hg : Gl X "tuple") (hm : X.mg "tuple" = none) (he : PRg X e te) (na : starEach [e] X.env = (false, eval e X.env) :: starEach [] X.env := by rfl) :
    PE X (.Call (.Name "tuple" p) [e] [] pos) (fun σ H Q => te σ H fun a b H1 => RgOk a b ∧ ∀ (q : Addr) (o : Obj), H1 q = none → o.dict = Option.none → Q (.ref q) (upd H1 q (.frz o (.tup (rgV a b))))) := by
  refine ⟨fun pins s σ H Q I h => ?_⟩
  refine Call_ (ld_blt I hg hm boot_tuple (PyProof.Rows.callWith_type1 (args_cons (thn (he pins s σ H _ I h) fun x s1 ⟨r, a, b, t, u, v, H1, ex, hr, I1, ok, q⟩ => args_nil ?_) na) na))
  subst ex
  obtain ⟨b1, b2, b3, b4, b5⟩ := ok
  refine call_tuple_range (n := (b - a).toNat) (I1.ok.hd hc) hr (small_one b1 b2 b3 b4) (rangeSize_nat a b) b5 fun h' tk acc hk hi => ?_
  have I2 : Inv X pins σ H1 { s1 with heap := h', toks := tk } := I1.kept hk
  refine ⟨.ref h'.objs.size, upd H1 h'.objs.size (.frz { cls := .type "tuple", data := .seq acc } (.tup (rgV a b))), I2.laid (t' := tk) (fun c o e => Heap.get?_push_of_some _ e) (Nat.le_refl _)
    (show ObjOk X.prog X.w _ _ _ (.frz { cls := .type "tuple", data := .seq acc } (.tup (rgV a b))) from ⟨?_, ?_, acc.toList, vals_rg hi, ?_⟩), rfl, q _ _ (I2.hok.fresh (Nat.le_refl _)) rfl⟩
  · exact Heap.get?_push_size _ rfl
  · rw [rgV_length, sizeLine_eq]; omega
  · rw [Array.toArray_toList]; exact IsTup.new _ _
end
noncomputable def dTupRgX (x y : D) : Option D := match x, y with
  | .int a, .int b => if RgOk a b then some (.tpx (rangeD a (b - a).toNat)) else none
  | _, _ => none
/-- read as any tuple -/
def unTx : D → D
  | .tpx ds => .tup ds
  | d => d
def mUnX (m : ME) : ME := fun env st => (m env st).bind fun d st1 => .ok (unTx d) st1
theorem Rep.unTx {G : Glb} {ad : List Addr} {S : Hp} {v : V} {d : D} (r : Rep G ad S v d) : Rep G ad S v (unTx d) := by
  cases r with
  | tpx q h n r => exact .tup (.inr (.inr ⟨_, _, q, h⟩)) r
  | tup h r => exact .tup h r
  | lst h r => exact .lst h r
  | rol h r => exact .rol h r
  | obj h r => exact .obj h r
  | cls c => exact .cls c
  | tok h => exact .tok h
  | dic h => exact .dic h
  | non => exact .non
  | bl b => exact .bl b
  | int i => exact .int i
  | str x => exact .str x
  | ty n => exact .ty n
section
variable {G : Glb} {X : Cx} {W : WX} {O : Ow} {p p2 pos pos2 : Pos} {a b : Expr} {ma mb : ME}
theorem de_tupRgX (hc : X.calm = true) (ht : X.mg "tuple" = none) (hr : X.mg "range" = none) (ha : DE G X W O a ma) (hb : DE G X W O b mb) (hg : Gl X "tuple" := by rfl) (hg2 : Gl X "range" := by rfl)
    (na : starEach [.Call (.Name "range" p2) [a, b] [] pos2] X.env = (false, eval (.Call (.Name "range" p2) [a, b] [] pos2) X.env) :: starEach [] X.env := by rfl)
    (nr : starEach [a, b] X.env = (false, eval a X.env) :: starEach [b] X.env := by rfl) (nb : starEach [b] X.env = (false, eval b X.env) :: starEach [] X.env := by rfl) (hp : (backTo pos2 (starEach [b] X.env)).any (·.1) = false := by rfl) :
    DE G X W O (.Call (.Name "tuple" p) [.Call (.Name "range" p2) [a, b] [] pos2] [] pos) (mOp dTupRgX ma mb) := by
  obtain ⟨ta, tb, pa, pb, w⟩ := two_parts (k := fun x y => ret? (dTupRgX x y)) ha hb
  refine ⟨_, pe_tupRgF hc hg ht (prg_2 hg2 hr pa pb nr nb hp) na, fun b S env st σ H Q I h => w b S env st σ H _ (fun x y H2 => ∃ i j, x = .int i ∧ y = .int j ∧ RgOk i j ∧ ∀ (q : Addr) (o : Obj), H2 q = none → o.dict = Option.none → Q (.ref q) (upd H2 q (.frz o (.tup (rgV i j))))) I h fun x y dx dy S' H' st' e I' rx ry hk => ?_⟩
  obtain ⟨d, e1, q⟩ := wp_ret hk
  cases rx with
  | int i =>
    cases ry with
    | int j =>
      have e1 : (if RgOk i j then some (D.tpx (rangeD i (j - i).toNat)) else none) = some d := e1
      split at e1
      · rename_i ok
        cases e1
        refine ⟨i, j, rfl, rfl, ok, fun z o hz ho => ?_⟩
        have hS : S' z = none := I'.sub.free hz
        exact Post.new (st := st') I'.sub I'.sto hz (.tpx (ns := (List.range (j - i).toNat).map fun (k : Nat) => i + (k : Int)) (by show rgV i j = _; unfold rgV; rw [List.map_map]; rfl) upd_same ho ((reps_rg i (j - i).toNat).mono fun b u h => by rw [upd_ne (ne_of_none h hS)]; exact h)) (Post.from_ e I'.sto q)
      · cases e1
    | _ => cases e1
  | _ => cases e1
theorem de_unX {e : Expr} {m : ME} (h : DE G X W O e m) : DE G X W O e (mUnX m) := by
  obtain ⟨t, pt, w⟩ := h.ex
  refine ⟨t, pt, fun b S env st σ H Q I h => w b S env st σ H Q I (wpR_imp (wpR_bind h) (fun d st1 h1 => ?_) fun _ _ z => z)⟩
  intro v S' H' x su so r
  exact (show Post G b.ad S H (unTx d) st1 Q from h1) v S' H' x su so r.unTx
end
/-! ### t.index(x) -/
def rIdxT (K : PySem.W.Frag) : V → List V → Hp → VK → Prop := fun x xs H Q => ∃ (a : Addr) (vs : List V) (y : V) (ps : List PyData) (d : PyData) (j : Nat), x = .ref a ∧ SqT K H a vs ∧ xs = [y] ∧ DpAll K H vs ps ∧ Dp K H y d ∧
  PyData.plainAll ps = true ∧ d.plain = true ∧ PyData.depthAll ps ≤ 60 ∧ SeqAt.dataPlace ps d = some j ∧ Q (.int (j : Int)) H
section
variable {X : Cx}
theorem mt_idxT (hu : X.A.units + 64 < cLine) : MtR X "tuple.index" (rIdxT X.K) := by
  intro pins s σ H x xs v us Q I rx rxs h
  obtain ⟨a, vs, y, ps, d, j, rfl, hs, rfl, ha, hd, hp, hpd, hde, hj, q⟩ := h
  cases rx
  obtain ⟨u, rfl, ru⟩ := rxs.one
  obtain ⟨its, r, pl, hz⟩ := I.tuple hs
  obtain ⟨as, r1⟩ := Dp.readsAll I ps vs its ha r
  obtain ⟨bs, r2⟩ := Dp.reads I d y u hd ru
  have r1' : ReadsAll s.heap its.toArray.toList ps as := by simpa using r1
  obtain ⟨⟨cls, dd, data, sl⟩, ho, hc, n, hdt⟩ := id pl
  simp only at hc hdt
  subst hc hdt
  obtain ⟨hjl, hit, hno⟩ := SeqAt.hit_at (vs := its.toArray) r1' hp hj
  have ie := SeqAt.items_plain (A := X.A) (vs := its.toArray) r1' r2 hp hpd (by omega)
  refine call_meets PySem.F.slot_tuple_index ⟨_, ho, rfl⟩ PySem.F.entry_tuple_index (PySem.F.args_tuple_index_2 _ _)
    (SeqAt.tuple_index2_found a its.toArray n dd sl u (fun m => if h : m < its.toArray.size then PyData.eqv (SeqAt.readOf s.heap its.toArray[m]) d else false) j hjl (Nat.zero_le _) hjl ?_ ?_) ⟨ho, fun m hm => ?_, ⟨.int j, H, I.tok _, ⟨_, rfl⟩, q⟩⟩
  · simp only [dif_pos hjl]; exact hit
  · intro m hm _ hlt
    simp only [dif_pos hm]; exact hno m hm hlt
  · simp only [dif_pos hm]; exact ie _ (Array.getElem_mem hm)
variable {o e : Expr} {to t1 : TE} {apos cpos : Pos}
/-- the tuple's object is known, it has no dict -/
def tIdx (K : PySem.W.Frag) (to te : TE) : TE := fun σ H Q => to σ H fun x H1 => (∃ a ob vs, x = .ref a ∧ H1 a = some (.frz ob (.tup vs)) ∧ ob.dict = none) ∧ te σ H1 fun y H2 => rIdxT K x [y] H2 Q
theorem pe_idxT (hu : X.A.units + 64 < cLine) (ho : PE X o to) (he : PE X e t1)
    (hbase : attributeBase o "index" X.env (eval o X.env) = eval o X.env := by rfl)
    (hfew : ((backTo cpos (starEach [e] X.env)).all (fun x => !x.1) && (backToKw cpos (keywordEach [] X.env)).all (fun x => x.1.isSome)
      && decide ([e].length + ([] : List Keyword).length + (if ([] : List Keyword).isEmpty then 0 else 1) < 30)) = true := by rfl)
    (hline : (apos.endLine == cpos.line) = true := by rfl) (hs : starEach [e] X.env = (false, eval e X.env) :: starEach [] X.env := by rfl) (hplain : (backTo cpos (starEach [] X.env)).any (·.1) = false := by rfl) :
    PE X (.Call (.Attribute o "index" apos) [e] [] cpos) (tIdx X.K to t1) := by
  refine ⟨fun pins s σ H Q I h => ?_⟩
  refine wpAny_Call_method_late hbase hfew hline rfl (thn (ho.run pins s σ H _ I h) fun v s1 ⟨x, H1, I1, r1, ⟨a, ob, vs, ex, hob, hdn⟩, q1⟩ => ?_)
  subst ex
  cases r1
  obtain ⟨hg, hz, its, rv, pl⟩ := (show ObjOk X.prog X.w H1 s1.heap a (.frz ob (.tup vs)) from I1.hok a _ hob)
  obtain ⟨o', ho', hc, _⟩ := id pl
  refine ⟨"tuple", _, PySem.F.plainAttrs_tuple, PySem.F.slot_tuple_index, PySem.F.type_tuple_index, ⟨o', ho', hc⟩, fun b eb => ?_, ?_⟩
  · cases eb
    exact ⟨ob, hg, hdn⟩
  have hA := (pa_cons he pa_nil hs).run cpos pins s1 σ H1 (fun vs' H2 => rIdxT X.K (.ref a) vs' H2 Q) I1 q1
  rw [hs] at hA ⊢
  refine Calls.callWith_builtin (by show (false || (backTo cpos (starEach [] X.env)).any (·.1)) = false; rw [hplain] <;> rfl) (Calls.evalArgs_plain ?_)
  exact thn hA fun us s2 ⟨vs2, H2, I2, r2, q2⟩ => mt_idxT hu pins s2 σ H2 (.ref a) vs2 _ us Q I2 rfl r2 q2
end
def idxD (xs : List D) (d : D) : Option D := if PyData.canLayAll0 (toPs xs) = true ∧ (toP d).canLay0 = true ∧ PyData.plainAll (toPs xs) = true ∧ (toP d).plain = true ∧ PyData.depthAll (toPs xs) ≤ 60 then (SeqAt.dataPlace (toPs xs) (toP d)).map fun j => .int (j : Int) else none
def mIdx (mo me : ME) : ME := fun env st => (mo env st).bind fun x st1 => match x with
  | .tpx xs => (me env st1).bind fun d => ret? (idxD xs d)
  | _ => .bad
section
variable {G : Glb} {X : Cx} {W : WX} {O : Ow} {apos cpos : Pos} {o e : Expr} {mo me : ME}
theorem de_idxT (hK : X.K = G.K) (hu : X.A.units + 64 < cLine) (ho : DE G X W O o mo) (he : DE G X W O e me)
    (hbase : attributeBase o "index" X.env (eval o X.env) = eval o X.env := by rfl)
    (hfew : ((backTo cpos (starEach [e] X.env)).all (fun x => !x.1) && (backToKw cpos (keywordEach [] X.env)).all (fun x => x.1.isSome)
      && decide ([e].length + ([] : List Keyword).length + (if ([] : List Keyword).isEmpty then 0 else 1) < 30)) = true := by rfl)
    (hline : (apos.endLine == cpos.line) = true := by rfl) (hs : starEach [e] X.env = (false, eval e X.env) :: starEach [] X.env := by rfl) (hplain : (backTo cpos (starEach [] X.env)).any (·.1) = false := by rfl) :
    DE G X W O (.Call (.Attribute o "index" apos) [e] [] cpos) (mIdx mo me) := by
  obtain ⟨to, po, wo⟩ := ho.ex
  obtain ⟨t, pe, w⟩ := he.ex
  refine ⟨_, pe_idxT hu po pe hbase hfew hline hs hplain, fun b S env st σ H Q I h => wo b S env st σ H _ I (wpR_imp (wpR_bind h) (fun d st1 h1 => ?_) fun _ _ z => z)⟩
  intro v S1 H1 x1 su1 so1 r1
  have I1 := I.ext x1 su1 so1
  cases r1 with
  | tpx hq hz hn r2 =>
    rename_i a ob ns vs ds
    refine ⟨⟨a, ob, vs, rfl, su1 _ _ hz, hn⟩, w b S1 env st1 σ H1 _ I1 (wpR_imp (wpR_bind h1) (fun y st2 h2 => ?_) fun _ _ z => z.from_ x1 so1)⟩
    intro u S2 H2 x2 su2 so2 r3
    obtain ⟨d, e1, q⟩ := wp_ret h2
    unfold idxD at e1
    split at e1
    · rename_i hc
      obtain ⟨c1, c2, c3, c4, c5⟩ := hc
      cases ej : SeqAt.dataPlace (toPs ds) (toP y) with
      | none => rw [ej] at e1; cases e1
      | some j =>
        rw [ej] at e1
        cases e1
        have hz2 : S2 a = some (.frz ob (.tup vs)) := x2.same _ _ hz
        exact ⟨a, vs, u, toPs ds, toP y, j, rfl, .inl (.inr ⟨ob, su2 _ _ hz2⟩), rfl, hK ▸ Reps.dp su2 (r2.mono x2.same) c1, hK ▸ Rep.dp su2 r3 c2, c3, c4, c5, ej, Post.here su2 so2 (.int _) (Post.from_ (x1.trans so1 x2) so2 q)⟩
    · cases e1
  | _ => exact h1.elim
end
/-! ### a test that says a if c else b -/
def mIfT (t ma mb : MT) : MT := fun env st => (t env st).bind fun k st1 => if k = true then ma env st1 else mb env st1
section
variable {G : Glb} {X : Cx} {W : WX} {O : Ow} {pos : Pos} {c a b : Expr} {tc ta tb : TT} {t ma mb : MT}
def ttIf (t ta tb : TT) : TT := fun σ H Q => t σ H fun c H1 => if c = true then ta σ H1 Q else tb σ H1 Q
theorem pt_ifExp (hc : PT X c tc) (ha : PT X a ta) (hb : PT X b tb) : PT X (.IfExp c a b pos) (ttIf tc ta tb) := by
  refine ⟨fun pins s σ H Q I h => ?_⟩
  show wpAny _ _ (isTrue c X.env (eval c X.env) >>= fun k => if k = true then isTrue a X.env (eval a X.env) else isTrue b X.env (eval b X.env)) _ _ _
  refine wpAny_bind (thn (hc.run pins s σ H _ I h) fun d s1 ⟨H1, I1, q1⟩ => ?_)
  cases d with
  | true => exact ha.run pins s1 σ H1 Q I1 q1
  | false => exact hb.run pins s1 σ H1 Q I1 q1
theorem dt_if (hc : DT G X W O c t) (ha : DT G X W O a ma) (hb : DT G X W O b mb) : DT G X W O (.IfExp c a b pos) (mIfT t ma mb) := by
  obtain ⟨tc, pc, wc⟩ := hc.ex
  obtain ⟨ta, pa, wa⟩ := ha.ex
  obtain ⟨tb, pb, wb⟩ := hb.ex
  refine ⟨_, pt_ifExp pc pa pb, fun b S env st σ H Q I h => wc b S env st σ H _ I (wpR_imp (wpR_bind h) (fun k st1 h1 => ?_) fun _ _ z => z)⟩
  intro S1 H1 x1 su1 so1
  cases k with
  | true => exact wa b S1 env st1 σ H1 Q (I.ext x1 su1 so1) (wpR_imp h1 (fun _ _ z => z.from_ x1 so1) fun _ _ z => z.from_ x1 so1)
  | false => exact wb b S1 env st1 σ H1 Q (I.ext x1 su1 so1) (wpR_imp h1 (fun _ _ z => z.from_ x1 so1) fun _ _ z => z.from_ x1 so1)
end
theorem ev10 : ∀ (t ma mb : MT) (env : Env') (st : List D), mIfT t ma mb env st = (t env st).bind fun k st1 => if k = true then ma env st1 else mb env st1 := fun _ _ _ _ _ => rfl
theorem ev9 :
    (∀ (m : ME) (env : Env') (st : List D), mUnX m env st = (m env st).bind fun d st1 => .ok (unTx d) st1) ∧ (∀ xs : List D, unTx (.tpx xs) = .tup xs) ∧ (∀ xs : List D, unTx (.tup xs) = .tup xs) ∧
    (∀ (mo me : ME) (env : Env') (st : List D), mIdx mo me env st = (mo env st).bind fun x st1 => match x with
      | .tpx xs => (me env st1).bind fun d => ret? (idxD xs d)
      | _ => .bad) :=
  ⟨fun _ _ _ => rfl, fun _ => rfl, fun _ => rfl, fun _ _ _ _ => rfl⟩
end DL

/-! DL: x.pop() of an owned list. -/
namespace DL
open PySem PySem.Spec PyProof.Rows L2
def popR (i : Nat) (env : Env') (st : List D) : Option D → Out
  | some (.lst ds) => if ds.isEmpty = true then .bad else .nx (env.set i (some (.lst ds.dropLast))) st
  | _ => .bad
def mPop (i : Nat) : MS := fun env st => popR i env st (match env[i]? with | some (some d) => some d | _ => none)
theorem Reps.dropLast {G : Glb} {ad : List Addr} {S : Hp} : ∀ {vs : List V} {ds : List D}, Reps G ad S vs ds → Reps G ad S vs.dropLast ds.dropLast
  | _, _, .nil => .nil
  | _, _, .cons h .nil => .nil
  | _, _, .cons h (.cons h2 r) => .cons h (Reps.dropLast (.cons h2 r))
section
variable {G : Glb} {X : Cx} {W : WX} {O Ob : Ow} {OE : Ow → Prop} {pos : Pos}
theorem ds_pop (i : Nat) {x : Str} {p1 p2 cp : Pos} (hi : X.N[i]? = some x := by rfl) (hm : i ∈ O.own := by first | decide | exact of_decide_eq_true rfl) (hxi : O.exi ≠ some i := by first | decide | exact of_decide_eq_true rfl) (hsf : O.slf ≠ some i := by first | decide | exact of_decide_eq_true rfl)
    (hv : Vis X.env.scope x := by first | exact Or.inl rfl | exact Or.inr (Or.inl rfl) | exact Or.inr (Or.inr rfl))
    (hd : (x == ("__debug__" : Str)) = false := by decide) (hcd : (x == ("__classdict__" : Str)) = false := by decide)
    (hbase : attributeBase (.Name x p1) "pop" X.env (eval (.Name x p1) X.env) = eval (.Name x p1) X.env := by rfl) (hline : (p2.endLine == cp.line) = true := by rfl)
    (hs : swapsWith (.Call (.Attribute (.Name x p1) "pop" p2) [] [] cp) none pos.line X.env = pure false := by rfl) : DS G X W Ob OE O (.Expr (.Call (.Attribute (.Name x p1) "pop" p2) [] [] cp) pos) O (mPop i) := by
  refine ⟨_, ps_expr (pe_bm0 PySem.F.plainAttrs_list PySem.F.slot_list_pop PySem.F.type_list_pop mt_pop (pe_var hi hv hd hcd) hbase hline) hs, fun b S env st σ H D I h => ?_⟩
  unfold mPop at h
  cases e0 : env[i]? with
  | none => rw [e0] at h; exact h.elim
  | some o0 => cases o0 with
    | none => rw [e0] at h; exact h.elim
    | some d0 =>
      obtain ⟨a, ws, ds, p1, p2, p3, p4, p5, p6, p7⟩ := I.own i _ hm e0
      subst p1
      have e1 := e0
      rw [e0] at h
      have h : PostS G b Ob OE W O D S (if ds.isEmpty = true then Out.bad else .nx (env.set i (some (.lst ds.dropLast))) st) := h
      split at h
      · exact h.elim
      rename_i hne
      refine ⟨_, p2, Or.inl ⟨rfl, _, Or.inl (Or.inl p3)⟩, ?_⟩
      have hl := p7.len
      have : ws ≠ [] := fun z => by
        rw [z] at hl
        cases ds with
        | nil => exact hne rfl
        | cons a b => simp at hl
      refine ⟨a, ws, ws.getLast this, rfl, rfl, p3, by rw [List.getLast_eq_getElem, List.getElem?_eq_getElem], ?_⟩
      exact h S σ _ (.refl _) (I.own_upd hm hxi hsf e1 p2 p7.dropLast)
end
theorem ev11 (i : Nat) (env : Env') (st : List D) : mPop i env st = popR i env st (get? env i) := by
  unfold mPop
  rw [← envGet]
  all_goals
    cases env[i]? with
    | none => rfl
    | some o => cases o <;> rfl
theorem popR_ok (i : Nat) (env : Env') (st : List D) (ds : List D) (d : D) : popR i env st (some (.lst (ds ++ [d]))) = .nx (env.set i (some (.lst ds))) st := by
  show (if (ds ++ [d]).isEmpty = true then Out.bad else .nx (env.set i (some (.lst (ds ++ [d]).dropLast))) st) = _
  rw [if_neg (by simp), List.dropLast_concat]
end DL

/-! DL: a class called with keywords; defs that give a new list of their own away. -/
namespace DL
open PySem PySem.Spec PyProof.Rows L2
/-! keywords -/
structure DK (G : Glb) (X : Cx) (W : WX) (O : Ow) (kws : List Keyword) (m : MA) : Prop where
  ex : ∃ t, PK X kws t ∧ ∀ (b : Act) S env st σ H Q, DI G b O S env st σ H → wpR (m env st) (fun ds st' => PostA G b.ad S H ds st' Q) (fun x st' => PostX G b.ad S H x st' fun c dd H' => W c dd σ H') → t σ H Q
section
variable {G : Glb} {X : Cx} {W : WX} {O : Ow} {pos p kpos : Pos} {x : Str} {e : Expr} {es : List Expr} {kws : List Keyword} {me : ME} {ma mk mr mc : MA} {nm : Option Str}
theorem dk_nil : DK G X W O [] mNil := ⟨_, pk_nil, fun b S env st σ H Q I h => h [] S H (.refl _ _ _) I.sub I.sto .nil⟩
theorem dk_cons (ha : DE G X W O e me) (hr : DK G X W O kws mr) : DK G X W O (⟨nm, e, kpos⟩ :: kws) (mCons me mr) := by
  obtain ⟨ta, pa, wa⟩ := ha.ex
  obtain ⟨tb, pb, wb⟩ := hr.ex
  refine ⟨_, pk_cons pa pb, fun b S env st σ H Q I h => wa b S env st σ H _ I (wpR_imp (wpR_bind h) (fun dx st1 h1 => ?_) fun _ _ z => z)⟩
  intro x S1 H1 x1 su1 so1 r1
  refine wb b S1 env st1 σ H1 _ (I.ext x1 su1 so1) (wpR_imp (wpR_bind h1) (fun ds st2 h2 => ?_) fun _ _ z => z.from_ x1 so1)
  intro xs S2 H2 x2 su2 so2 r2
  exact h2 _ _ _ (x1.trans so1 x2) su2 so2 (.cons (r1.mono x2.same) r2)
/-- one argument list behind another -/
def App (ma mk mc : MA) : Prop := ∀ env st, mc env st = (ma env st).bind fun ds st1 => (mk env st1).bind fun zs st2 => .ok (ds ++ zs) st2
theorem app_nil : App mNil mk mk := fun env st => by
  show _ = (mk env st).bind fun zs st2 => Res.ok ([] ++ zs) st2
  cases mk env st <;> rfl
theorem app_cons (h : App ma mk mc) : App (mCons me ma) mk (mCons me mc) := fun env st => by
  unfold mCons
  cases me env st with
  | err x st1 => rfl
  | bad => rfl
  | ok d st1 =>
    show (mc env st1).bind (fun xs st2 => Res.ok (d :: xs) st2) = ((ma env st1).bind fun xs st2 => Res.ok (d :: xs) st2).bind _
    rw [h env st1]
    cases ma env st1 with
    | err x st2 => rfl
    | bad => rfl
    | ok ds st2 =>
      show ((mk env st2).bind fun zs st3 => Res.ok (ds ++ zs) st3).bind _ = (mk env st2).bind fun zs st3 => Res.ok ((d :: ds) ++ zs) st3
      cases mk env st2 <;> rfl
end
section
variable {X : Cx} {CX : CXT} {k n : Nat} {f C : Addr} {fd : FuncData} {ps ks : List Str} {sp : Sp} {E : L2.St → XK} {x : Str} {p pos : Pos} {e : Expr} {es : List Expr} {kws : List Keyword} {t tk : TA} {g : List Value → List Value → List Value} {gV : List V → List V → List V}
def tMakeNE (C : Addr) (n m : Nat) (sp : Sp) (gV : List V → List V → List V) (E : L2.St → XK) (t tk : TA) : TE := fun σ H Q => t σ H fun vs H1 => tk σ H1 fun zs H2 => vs.length = n ∧ zs.length = m ∧ ∀ a da, H2 a = none → H2 da = none → da ≠ a → sp (gV (.ref a :: vs) zs) (upd (upd H2 da (.own a)) a (.ins C da [])) (fun v H3 => v = .non ∧ Q (.ref a) H3) (E σ)
theorem make_runN {pins : List (Addr × Obj)} {σ : L2.St} {H : Hp} {s : Shared} {Q : VK} {us ws : List Value} {vs zs : List V} (mk : Mk X.K C f) (fo : FnOk X.prog X.w X.K X.mg X.base CX k f fd ps sp) (rm : Room (k + 1) X.A) (hb : KBn X.K fd ps (n + 1) ks g gV)
    (pa : PassesAt CX X σ (E σ)) (J : Inv X pins σ H s) (r : Vals vs us) (rz : Vals zs ws) (l1 : vs.length = n) (l2 : zs.length = ks.length)
    (h : ∀ x dx, H x = none → H dx = none → dx ≠ x → sp (gV (.ref x :: vs) zs) (upd (upd H dx (.own x)) x (.ins C dx [])) (fun v H2 => v = .non ∧ Q (.ref x) H2) (E σ)) :
    wpAny (model X.prog X.w) X.A (call (.ref C) us (ks.zip ws)) (EP X pins σ Q) X.xe s := by
  obtain ⟨n0, hn0⟩ : ∃ n0, n0 = s.heap.objs.size := ⟨_, rfl⟩
  have goal1 := h (n0 + 1) n0 (J.hok.fresh (by rw [hn0]; exact Nat.le_succ _)) (J.hok.fresh (by rw [hn0]; exact Nat.le_refl _)) (Nat.ne_of_lt (Nat.lt_succ_self n0))
  subst hn0
  have J2 := Inv.made (C := C) J
  have all : Vals (V.ref (s.heap.objs.size + 1) :: vs) (Value.ref (s.heap.objs.size + 1) :: us) := .cons rfl r
  have both := hb.rel all rz
  have many1 : (Value.ref (s.heap.objs.size + 1) :: us).length = n + 1 := all.length.symm.trans (by rw [List.length_cons, l1])
  have many2 : ws.length = ks.length := by rw [← l2]; exact rz.length.symm
  have run := fo.run _ X.stack _ _ ⟨Value.ref (s.heap.objs.size + 1) :: us, ks.zip ws⟩ (g (Value.ref (s.heap.objs.size + 1) :: us) ws) _ _ (E σ) (rm.make C us (ks.zip ws)) (J2.env0.make C us (ks.zip ws)) (hb.to _ (Value.ref (s.heap.objs.size + 1) :: us) ws J2.kIn many1 many2) both goal1
  refine wpAny_call (make_map (f := f) J.kIn mk.makes mk.init (beq_iff_eq.mp mk.fn) (codeAny_mono run fun r s' got => ?_))
  cases r with
  | error y => exact pa pins _ _ y s' J2 got
  | ok fl =>
    cases fl with
    | ret u =>
      obtain ⟨v, H', J3, r1, z, q⟩ := J2.after got
      subst z
      exact ⟨r1, ⟨V.ref (s.heap.objs.size + 1), H', J3, rfl, q⟩⟩
    | next => exact got.elim
    | brk => exact got.elim
    | cont => exact got.elim
theorem pe_makeNE (mk : Mk X.K C f) (fo : FnOk X.prog X.w X.K X.mg X.base CX k f fd ps sp) (rm : Room (k + 1) X.A) (hg : Gl X x) (hm : X.mg x = some (.ref C)) (hb : KBn X.K fd ps (n + 1) ks g gV) (pa : ∀ σ, PassesAt CX X σ (E σ))
    (ha : PA X (e :: es) t) (hkw : PK X kws tk) (hall : (backToKw pos (keywordEach kws X.env)).all (·.1.isSome) = true := by rfl) (hks : (backToKw pos (keywordEach kws X.env)).filterMap (·.1) = ks := by rfl) (hdb : (x == ("__debug__" : Str)) = false := by decide) (he : starEach (e :: es) X.env = (false, eval e X.env) :: starEach es X.env := by rfl) (hpl : ((backTo pos (starEach (e :: es) X.env)).any (·.1) || (backToKw pos (keywordEach kws X.env)).any (·.1.isNone)) = false := by rfl) :
    PE X (.Call (.Name x p) (e :: es) kws pos) (tMakeNE C n ks.length sp gV E t tk) := by
  refine ⟨fun pins s σ H Q J h => wpAny_Call_Name_kw (ld_glob J hg hm (PySem.W.callWith_KW (h₀ := X.base) J.ok.mod.kin mk.kp hall (thn (ha.run pos pins s σ H _ J h) fun us s1 ⟨vs, H1, J1, r, q⟩ => ?_) hpl he) hdb)⟩
  refine thn (hkw.run pos pins s1 σ H1 _ J1 q) fun ws s2 ⟨zs, H2, J2, rz, l1, l2, q2⟩ => ⟨J2.kIn, ?_⟩
  subst hks
  exact make_runN mk fo rm hb (pa σ) J2 r rz l1 l2 q2
end
section
variable {G : Glb} {X : Cx} {W : WX} {O : Ow} {pos p : Pos} {x : Str} {e : Expr} {es : List Expr} {kws : List Keyword} {ma mk mc : MA} {k j n n' m' : Nat} {f : Addr} {fd : FuncData} {ps ks : List Str} {m : List D → M D} {ci : Nat} {g : List Value → List Value → List Value} {gV : List V → List V → List V}
/-- C(e, .., k = v, ..): the keywords name the next parameters in their order -/
theorem de_makeKw (c : XC k G X W) (mkC : Mk G.K (G.cl ci) f) (F : FnOk X.prog X.w X.K X.mg X.base (L2.CX X.prog X.w) j f fd ps (spI G ci n m)) (hm : X.mg x = some (.ref (G.cl ci))) (hb : ∃ g, KBn G.K fd ps (n' + 1) ks g (fun vs zs => vs ++ zs)) (ha : DA G X W O (e :: es) ma) (hk : DK G X W O kws mk) (ap : App ma mk mc)
    (hln : Len ma n') (hlk : Len mk ks.length) (hjk : j + 1 ≤ k := by decide) (hn : n' + ks.length = n := by rfl) (hall : (backToKw pos (keywordEach kws X.env)).all (·.1.isSome) = true := by rfl) (hks : (backToKw pos (keywordEach kws X.env)).filterMap (·.1) = ks := by rfl) (hg : Gl X x := by rfl) (hdb : (x == ("__debug__" : Str)) = false := by decide)
    (he : starEach (e :: es) X.env = (false, eval e X.env) :: starEach es X.env := by rfl) (hpl : ((backTo pos (starEach (e :: es) X.env)).any (·.1) || (backToKw pos (keywordEach kws X.env)).any (·.1.isNone)) = false := by rfl) :
    DE G X W O (.Call (.Name x p) (e :: es) kws pos) (mCallD m [] mc) := by
  obtain ⟨g, hb⟩ := hb
  obtain ⟨t, pa, w⟩ := ha.ex
  obtain ⟨u, pk, w2⟩ := hk.ex
  refine ⟨_, pe_makeNE (c.K ▸ mkC) F (c.hr.mono hjk) hg hm (c.K ▸ hb) (fun σ => passAt c.tk σ) pa pk hall hks hdb he hpl, fun b S env st σ H Q I h => w b S env st σ H _ I ?_⟩
  unfold mCallD at h
  rw [ap env st] at h
  cases ea : ma env st with
  | ok ds st1 =>
    rw [ea] at h
    intro vs S1 H1 x1 su1 so1 r1
    refine w2 b S1 env st1 σ H1 _ (I.ext x1 su1 so1) ?_
    have h : wpR (((mk env st1).bind fun zs st2 => Res.ok (ds ++ zs) st2).bind fun ds => m (ds ++ [])) (fun d st' => Post G b.ad S H d st' Q) (fun x st' => PostX G b.ad S H x st' fun c dd H' => W c dd σ H') := h
    cases eb : mk env st1 with
    | ok zs st2 =>
      rw [eb] at h
      intro ys S2 H2 x2 su2 so2 r2
      have x12 := x1.trans so1 x2
      refine ⟨by rw [r1.len]; exact hln env st ds st1 ea, by rw [r2.len]; exact hlk env st1 zs st2 eb, fun a da h1 h2 h3 => ?_⟩
      have h' : wpR (m (ds ++ zs ++ []) st2) _ _ := h
      rw [List.append_nil] at h'
      refine ⟨⟨S2, H2, b.ad⟩, ds ++ zs, st2, a, da, vs ++ ys, rfl, rfl, h1, h2, h3, ?_, su2, so2, (r1.mono x2.same).append r2, wpR_imp h' (fun d st3 z S' H' x3 su3 so3 r3 => ⟨rfl, ?_⟩) fun _ _ z => z.from_ x12 so2⟩
      · rw [List.length_append, r1.len, hln env st ds st1 ea, r2.len, hlk env st1 zs st2 eb]; exact hn
      · exact (Post.from_ x12 so2 z) (.ref a) S' H' x3 su3 so3 r3
    | err y st2 =>
      rw [eb] at h
      intro cls dd S2 H2 x2 su2 so2 rx
      exact h cls dd S2 H2 (x1.trans so1 x2) su2 so2 rx
    | bad => rw [eb] at h; exact h.elim
  | err y st1 => rw [ea] at h; exact h
  | bad => rw [ea] at h; exact h.elim
end
end DL

/-! DL: defs that give a new list of their own away: the caller owns it. -/
namespace DL
open PySem PySem.Spec PyProof.Rows L2
/-- how such a body ends: the list is nobody else's -/
def PostSF (G : Glb) (b : Act) (OE : Ow → Prop) (W : WX) (D : Ends) (S : Hp) : Out → Prop
  | .rt (.lst ds) st => ∀ l vs S' H, Ext b.ad b.S b.H S' H → Same S' H → StoOk G b.ad S' st H → H l = none → Reps G b.ad S' vs ds → D.rt (.ref l) (upd H l (.lst vs))
  | .er x env st => ∀ cls dd O' S' σ H, OE O' → Same S S' → DI G b O' S' env st σ H → RepX G b.ad S' cls dd x → W cls dd σ H
  | _ => False
theorem PostSF.from_ {G : Glb} {b : Act} {OE : Ow → Prop} {W : WX} {D : Ends} {S S1 : Hp} {o : Out} (e : Same S S1) (h : PostSF G b OE W D S o) : PostSF G b OE W D S1 o := by
  cases o with
  | er x env st => exact fun cls dd O' S' σ H q x => h cls dd O' S' σ H q (e.trans x)
  | rt d st => cases d <;> exact h
  | _ => exact h
structure DSf (G : Glb) (X : Cx) (W : WX) (OE : Ow → Prop) (O : Ow) (s : List Stmt) (m : MS) : Prop where
  ex : ∃ t, PSs X s t ∧ ∀ (b : Act) S env st σ H D, DI G b O S env st σ H → PostSF G b OE W D S (m env st) → t D σ H
def mSeqF (m n : MS) : MS := fun env st => match m env st with
  | .nx e s => n e s
  | .er x e s => .er x e s
  | _ => .bad
def mRetF (i : Nat) : MS := fun env st => match env[i]? with
  | some (some (.lst ds)) => .rt (.lst ds) st
  | _ => .bad
theorem mSeqF_of {a b : MS} {env e : Env'} {st s : List D} (h : a env st = .nx e s) : mSeqF a b env st = b e s := by unfold mSeqF; rw [h]
section
variable {G : Glb} {X : Cx} {W : WX} {Ob : Ow} {OE : Ow → Prop} {O O1 O2 : Ow} {pos : Pos} {s : Stmt} {rest : List Stmt} {m n : MS}
theorem dsf_cons (h1 : DS G X W Ob OE O s O1 m) (h2 : DSf G X W OE O1 rest n) : DSf G X W OE O (s :: rest) (mSeqF m n) := by
  obtain ⟨t, p, w⟩ := h1.ex
  obtain ⟨u, q, w2⟩ := h2.ex
  refine ⟨_, pss_cons p q, fun b S env st σ H D I h => w b S env st σ H _ I ?_⟩
  unfold mSeqF at h
  cases e : m env st with
  | nx env1 st1 =>
    rw [e] at h
    intro S1 σ1 H1 x1 I1
    exact w2 b S1 env1 st1 σ1 H1 D I1 (h.from_ x1)
  | rt d st1 => rw [e] at h; exact h.elim
  | bk env1 st1 => rw [e] at h; exact h.elim
  | ct env1 st1 => rw [e] at h; exact h.elim
  | er x env1 st1 => rw [e] at h; exact h
  | bad => rw [e] at h; exact h
theorem dsf_freeze (i : Nat) (h : DSf G X W OE (O.less i) rest m) (hx : O.exi ≠ some i := by first | decide | exact of_decide_eq_true rfl) : DSf G X W OE O rest m := by
  obtain ⟨t, p, w⟩ := h.ex
  refine ⟨t, p, fun b S env st σ H D I h => ?_⟩
  obtain ⟨S', sm, I'⟩ := I.freeze i hx
  exact w b S' env st σ H D I' (h.from_ sm)
/-- the last statement: the list goes to the caller -/
theorem dsf_ret (i : Nat) {x : Str} {p : Pos} (hm : i ∈ O.own := by first | decide | exact of_decide_eq_true rfl) (hN : X.N[i]? = some x := by rfl) (hv : Vis X.env.scope x := by first | exact Or.inl rfl | exact Or.inr (Or.inl rfl) | exact Or.inr (Or.inr rfl))
    (hd : (x == ("__debug__" : Str)) = false := by decide) (hcd : (x == ("__classdict__" : Str)) = false := by decide) : DSf G X W OE O [.Return (some (.Name x p)) pos] (mRetF i) := by
  refine ⟨_, pss_one (ps_ret (pe_var hN hv hd hcd)), fun b S env st σ H D I h => ?_⟩
  unfold mRetF at h
  split at h
  · rename_i ds e
    obtain ⟨a, vs, ds', e1, e2, e3, e4, e5, e6, e7⟩ := I.own i _ hm e
    cases e1
    refine ⟨.ref a, e2, ?_⟩
    have back : upd (fun c => if c = a then none else H c) a (.lst vs) = H := by
      funext c
      by_cases hc : c = a
      · subst hc; rw [upd_same]; exact e3.symm
      · rw [upd_ne hc]; exact if_neg hc
    have k := h a vs S (fun c => if c = a then none else H c) ⟨I.s0, I.new, fun c o h1 h2 => by
        have hc : c ≠ a := fun z => by rw [z, e5] at h1; cases h1
        exact (I.keep c o h1 h2).map fun o' h' => by
          show (if c = a then none else H c) = _
          rw [if_neg hc]; exact h'⟩ (fun c o h1 => by
        have hc : c ≠ a := fun z => by rw [z, e4] at h1; cases h1
        show (if c = a then none else H c) = _
        rw [if_neg hc]; exact I.sub c o h1) ⟨I.sto.len, I.sto.nd, fun n c hn => by
        obtain ⟨q1, ws, us, q2, q3, q4⟩ := I.sto.at_ n c hn
        have hc : c ≠ a := fun z => e6 (z ▸ List.mem_iff_getElem?.mpr ⟨n, hn⟩)
        refine ⟨q1, ws, us, q2, ?_, q4⟩
        show (if c = a then none else H c) = _
        rw [if_neg hc]; exact q3, I.sto.tab.keep fun c o h1 n => by
        have hc : c ≠ a := fun z => by rw [z, e3] at h1; cases h1; exact n.lst
        show (if c = a then none else H c) = _
        rw [if_neg hc]; exact h1⟩ (if_pos rfl) e7
    rw [back] at k
    exact k
  · exact h.elim
end
/-! ### the def and its call -/
def fnF (n : Nat) (m : MS) (ds : List D) : M (List D) := fun st => match m (ds.map some ++ List.replicate (n - ds.length) none) st with
  | .rt (.lst es) st1 => .ok es st1
  | .er x _ st1 => .err x st1
  | _ => .bad
def outF : Out → Res (List D)
  | .rt (.lst es) st1 => .ok es st1
  | .er x _ st1 => .err x st1
  | _ => .bad
theorem fnF_eq {n : Nat} {m : MS} {ds : List D} {st : List D} (h : ds.length ≤ n) : fnF n m ds st = outF (m (mkEnv n ds) st) := by
  rw [mkEnv_eq n ds h]
  unfold fnF outF
  cases m (ds.map some ++ List.replicate (n - ds.length) none) st with
  | rt d s => cases d <;> rfl
  | _ => rfl
def spF (G : Glb) (n : Nat) (m : List D → M (List D)) : Sp := fun vs H Q E => ∃ (b : Act) (ds : List D) (st : List D), b.H = H ∧ vs.length = n ∧ Same b.S b.H ∧ StoOk G b.ad b.S st b.H ∧ Reps G b.ad b.S vs ds ∧
  wpR (m ds st) (fun es st' => PostF G b.ad b.S b.H es st' Q) (fun x st' => PostX G b.ad b.S b.H x st' E)
section
variable {P : Program} {w : World} {K : PySem.W.Frag} {mg : Str → Option Value} {base : Heap}
theorem fnFD {G : Glb} {x qual : Str} {st : Stmt} {f : Addr} {fd : FuncData} {N ps : List Str} {k : Nat} {m : MS} (F : Fun K x qual st f fd) (S : FnScope N ps (defScope st)) (hK : K = G.K)
    (hbody : ∀ (cdv : Value) (A : Around) (outer : List Env) (s : Shared) (H : Hp) (E : XK), XC k G (cxOf (L2.CX P w) P w K mg base N qual (defScope st) f cdv A outer s H E) (fun cls d _ H' => E cls d H') → XT (cxOf (L2.CX P w) P w K mg base N qual (defScope st) f cdv A outer s H E) →
      DSf G (cxOf (L2.CX P w) P w K mg base N qual (defScope st) f cdv A outer s H E) (fun cls d _ H' => E cls d H') (fun _ => True) {} (defBody st) m) :
    FnOk P w K mg base (L2.CX P w) (k + 1) f fd ps (spF G ps.length (fnF N.length m)) := by
  refine F.okX S (fun vs H Q E h => ?_) fun cdv A outer s H vs Q E hr h => ?_
  · obtain ⟨_, _, _, _, hl, _⟩ := h
    exact hl
  · obtain ⟨b, ds, st0, rfl, hl, hs, so, r, h⟩ := h
    have xc : XC k G (cxOf (L2.CX P w) P w K mg base N qual (defScope st) f cdv A outer s b.H E) (fun cls d _ H' => E cls d H') :=
      { tk := takes_of rfl rfl rfl rfl, po := passes_of rfl, calm := rfl, hr := hr, K := hK }
    obtain ⟨t, p, wt⟩ := (hbody cdv A outer s b.H E xc ⟨rfl, rfl⟩).ex
    refine ⟨t, p, ?_⟩
    have I := DI.start (n := N.length - vs.length) hs so r
    refine wt b b.S _ st0 _ b.H _ I ?_
    have hn : N.length - vs.length = N.length - ds.length := by rw [r.len]
    rw [hn]
    unfold fnF at h
    cases e : m (ds.map some ++ List.replicate (N.length - ds.length) none) st0 with
    | nx env st1 => rw [e] at h; exact h.elim
    | rt d st1 =>
      rw [e] at h
      cases d with
      | lst es =>
        intro l us S1 H1 x1 su1 so1 hl1 r1
        exact h l us S1 H1 x1 su1 so1 hl1 r1
      | _ => exact h.elim
    | bk env st1 => rw [e] at h; exact h.elim
    | ct env st1 => rw [e] at h; exact h.elim
    | er x env st1 =>
      rw [e] at h
      intro cls dd O' S1 σ1 H1 _ _ I1 rx
      exact h cls dd S1 H1 I1.fin I1.sub I1.sto rx
    | bad => rw [e] at h; exact h.elim
end
section
variable {G : Glb} {X : Cx} {W : WX} {O : Ow} {pos p : Pos} {x : Str} {e : Expr} {es : List Expr} {ma : MA} {k j n : Nat} {f : Addr} {fd : FuncData} {ps : List Str} {m : List D → M (List D)}
theorem df_call (c : XC k G X W) (F : FnOk X.prog X.w X.K X.mg X.base (L2.CX X.prog X.w) j f fd ps (spF G n m)) (hm : X.mg x = some (.ref f)) (hk : PySem.W.keepIn X.K (.ref f) = true) (hb : Binds X.K fd ps []) (ha : DA G X W O (e :: es) ma)
    (hjk : j ≤ k := by decide) (hln : Len ma n) (hg : Gl X x := by rfl) (hdb : (x == ("__debug__" : Str)) = false := by decide) (he : starEach (e :: es) X.env = (false, eval e X.env) :: starEach es X.env := by rfl) (hpl : (backTo pos (starEach es X.env)).any (·.1) = false := by rfl) :
    DF G X W O (.Call (.Name x p) (e :: es) [] pos) (mThenA ma m) := by
  obtain ⟨t, pa, w⟩ := ha.ex
  refine ⟨_, pe_callS F (c.hr.mono hjk) hg hm hk hb (fun σ => passAt c.tk σ) pa hdb he hpl, fun b S env st σ H Q I h => w b S env st σ H _ I ?_⟩
  have h' := wpR_bind h
  cases ea : ma env st with
  | ok ds st1 =>
    rw [ea] at h'
    intro vs S1 H1 x1 su1 so1 r1
    exact ⟨⟨S1, H1, b.ad⟩, ds, st1, rfl, by rw [r1.len]; exact hln env st ds st1 ea, su1, so1, r1, wpR_imp h' (fun _ _ z => PostF.from_ x1 so1 z) fun _ _ z => z.from_ x1 so1⟩
  | err y st1 => rw [ea] at h'; exact h'
  | bad => rw [ea] at h'; exact h'.elim
end
end DL

/-! DL: defs that call themselves; a written dict of texts; max(a, b); tuples of ints made whole out of lists and displays; count. -/
namespace DL
open PySem PySem.Spec PyProof.Rows L2
/-! ### a def of which nothing is promised -/
theorem fnok_bad {P : Program} {w : World} {K : PySem.W.Frag} {mg : Str → Option Value} {base : Heap} {G : Glb} {k n : Nat} {f : Addr} {fd : FuncData} {ps : List Str} {m : List D → M D} (hn : n = ps.length) (hm : ∀ ds st, m ds st = .bad) : FnOk P w K mg base (L2.CX P w) k f fd ps (spD G n m) := by
  refine ⟨fun vs H Q E h => ?_, fun A outer s H args us vs Q E hr e0 hb r h => ?_⟩
  · obtain ⟨_, _, _, _, hl, _⟩ := h
    rw [hl, hn]
  · obtain ⟨_, ds, st, _, _, _, _, _, h⟩ := h
    rw [hm] at h
    exact h.elim
/-! ### a written dict of tuples of texts -/
structure KTab (K : PySem.W.Frag) (w : World) (a : Addr) (tab : Str → Option (List Str)) : Prop where
  kd : ∃ es n, KDict K w a es n
  at_ : ∀ z xs, tab z = some xs → ∃ p, PySem.W.nsIn K a z = some (some (.ref p)) ∧ ∃ (o : Obj) (its : Array Value) (n : Nat), K.lookup p = some o ∧ o.cls = .type "tuple" ∧ o.data = .seq its n ∧ its.size ≤ sizeLine ∧ Vals (xs.map V.str) its.toList
def dNotInP (c : Nat) (tab : Str → Option (List Str)) (x y : D) : Option D := match x, y with
  | .str z, .cls c' => if c' = c then (tab z).map fun _ => .bl false else none
  | _, _ => none
def dGetP (c : Nat) (tab : Str → Option (List Str)) (x y : D) : Option D := match x, y with
  | .cls c', .str z => if c' = c then (tab z).map fun xs => .tup (xs.map .str) else none
  | _, _ => none
theorem reps_strs {G : Glb} {ad : List Addr} {S : Hp} : ∀ xs : List Str, Reps G ad S (xs.map V.str) (xs.map D.str)
  | [] => .nil
  | x :: xs => .cons (.str x) (reps_strs xs)
section
variable {G : Glb} {X : Cx} {W : WX} {O : Ow} {pos : Pos} {a b : Expr} {ma mb : ME} {c : Nat} {tab : Str → Option (List Str)}
theorem de_notInP (T : KTab X.K X.w (G.cl c) tab) (ha : DE G X W O a ma) (hb : DE G X W O b mb) (hm : behindInMarks .NotIn b = false := by first | exact nomark _ | rfl) : DE G X W O (.Compare a [.NotIn] [b] pos) (mOp (dNotInP c tab) ma mb) := by
  obtain ⟨es, n, D⟩ := T.kd
  refine de_cmp (op_notIn_kd D) ⟨fun ad S H st x y dx dy d Q su so rx ry e q => ?_⟩ ha hb hm
  unfold dNotInP at e
  split at e
  · rename_i z c'
    split at e
    · rename_i hc
      subst hc
      cases et : tab z with
      | none => rw [et] at e; cases e
      | some xs =>
        rw [et] at e
        cases e
        obtain ⟨p, hp, -⟩ := T.at_ z xs et
        cases rx
        cases ry
        exact ⟨z, _, rfl, rfl, hp, Post.here su so (.bl _) q⟩
    · cases e
  · cases e
theorem dt_notInP (T : KTab X.K X.w (G.cl c) tab) (ha : DE G X W O a ma) (hb : DE G X W O b mb) (hm : behindInMarks .NotIn b = false := by first | exact nomark _ | rfl) : DT G X W O (.Compare a [.NotIn] [b] pos) (mTest (mOp (dNotInP c tab) ma mb)) := by
  obtain ⟨es, n, D⟩ := T.kd
  refine dt_cmp (op_notIn_kd D) ⟨fun ad S H st x y dx dy d Q su so rx ry e q => ?_⟩ ha hb hm
  unfold dNotInP at e
  split at e
  · rename_i z c'
    split at e
    · rename_i hc
      subst hc
      cases et : tab z with
      | none => rw [et] at e; cases e
      | some xs =>
        rw [et] at e
        cases e
        obtain ⟨p, hp, -⟩ := T.at_ z xs et
        cases rx
        cases ry
        exact ⟨z, _, rfl, rfl, hp, Post.here su so (.bl _) q⟩
    · cases e
  · cases e
theorem de_getP (hK : X.K = G.K) (T : KTab X.K X.w (G.cl c) tab) (ha : DE G X W O a ma) (hb : DE G X W O b mb) (hs : PlainIx b := by intro _ _; rfl) : DE G X W O (.Subscript a b pos) (mOp (dGetP c tab) ma mb) := by
  obtain ⟨ta, tb, pa, pb, w⟩ := two_parts (k := fun x y => ret? (dGetP c tab x y)) ha hb
  refine ⟨_, pe_ix ix_kdict pa pb hs, fun b S env st σ H Q I h => w b S env st σ H _ (fun x y H2 => rIxD X.K X.w x y H2 Q) I h fun x y dx dy S' H' st' e I' rx ry hk => ?_⟩
  obtain ⟨d, e1, q⟩ := wp_ret hk
  unfold dGetP at e1
  split at e1
  · rename_i c' z
    split at e1
    · rename_i hc
      subst hc
      cases et : tab z with
      | none => rw [et] at e1; cases e1
      | some xs =>
        rw [et] at e1
        cases e1
        obtain ⟨p, hp, o, its, n, h1, h2, h3, h4, h5⟩ := T.at_ z xs et
        obtain ⟨es, m, D⟩ := T.kd
        cases rx
        cases ry
        exact ⟨_, z, .ref p, rfl, rfl, ⟨es, m, .ref p, D.at_, D.lit, hp, rfl⟩, Post.here I'.sub I'.sto (.tup (.inr (.inl ⟨o, its, n, hK ▸ h1, h2, h3, h4, h5⟩)) (reps_strs xs)) (Post.from_ e I'.sto q)⟩
    · cases e1
  · cases e1
end
/-! ### max(a, b) -/
def dMax2 : List D → Option D
  | [.int i, .int j] => some (.int (if j > i then j else i))
  | _ => none
theorem cd_max2 {G : Glb} : CallD G (fun xs H Q => ∃ i j, xs = [.int i, .int j] ∧ Q (.int (if j > i then j else i)) H) dMax2 := ⟨fun ad S H st xs ds d Q su so r e q => by
  unfold dMax2 at e
  split at e
  · cases e
    cases r with
    | cons r1 r2 =>
      cases r1
      cases r2 with
      | cons r3 r4 =>
        cases r3
        cases r4
        exact ⟨_, _, rfl, Post.here su so (.int _) q⟩
  · cases e⟩
/-! ### tuples of ints made whole -/
theorem call_tupleX {X : Cx} : CallR X (.type "tuple") (fun xs H Q => ∃ p ys, xs = [.ref p] ∧ SqL X.K H p ys ∧ ∀ (q : Addr) (o : Obj), H q = none → o.dict = Option.none → Q (.ref q) (upd H q (.frz o (.tup ys)))) := by
  intro pins s σ H xs us Q I r h
  obtain ⟨p, ys, rfl, hq, q⟩ := h
  obtain ⟨u, rfl, rx⟩ := vals1 r
  cases rx
  obtain ⟨its, r', pl, hz⟩ := I.list hq
  have hlen := r'.length
  refine call_tuple_list pl.isList (fun h' kp => ?_) (by simp only [List.size_toArray] <;> omega)
  have I1 : Inv X pins σ H { s with heap := h' } := I.kept (t' := s.toks) kp
  have I2 : Inv X pins σ (upd H h'.objs.size (.frz { cls := .type "tuple", data := .seq its.toArray } (.tup ys))) { s with heap := h'.push { cls := .type "tuple", data := .seq its.toArray } } :=
    I1.laid (t' := s.toks) (fun b o e => Heap.get?_push_of_some _ e) (Nat.le_refl _) (show ObjOk X.prog X.w _ _ _ (.frz { cls := .type "tuple", data := .seq its.toArray } (.tup ys)) from ⟨Heap.get?_push_size _ rfl, hz, its, r', IsTup.new _ _⟩)
  exact ⟨.ref h'.objs.size, _, I2, rfl, q _ _ (I1.hok.fresh (Nat.le_refl _)) rfl⟩
def dTupX : List D → Option D
  | [.lst ds] => (ints? ds).map fun _ => .tpx ds
  | _ => none
theorem Post.tpx {G : Glb} {ad : List Addr} {S H : Hp} {st : List D} {p : Addr} {o : Obj} {vs : List V} {ns : List Int} {ds : List D} {Q : VK} (su : Same S H) (so : StoOk G ad S st H) (hp : H p = none) (ho : o.dict = Option.none) (ev : vs = ns.map V.int) (r : Reps G ad S vs ds) (h : Post G ad S H (.tpx ds) st Q) : Q (.ref p) (upd H p (.frz o (.tup vs))) := by
  have hS : S p = none := by
    cases e : S p with
    | none => rfl
    | some u => have := su _ _ e; rw [hp] at this; cases this
  exact Post.new su so hp (.tpx ev upd_same ho (r.mono fun b u h => by rw [upd_ne (ne_of_none h hS)]; exact h)) h
theorem cd_tupX {G : Glb} {X : Cx} (hK : X.K = G.K) : CallD G (fun xs H Q => ∃ p ys, xs = [.ref p] ∧ SqL X.K H p ys ∧ ∀ (q : Addr) (o : Obj), H q = none → o.dict = Option.none → Q (.ref q) (upd H q (.frz o (.tup ys)))) dTupX := ⟨fun ad S H st xs ds d Q su so r e q => by
  unfold dTupX at e
  split at e
  · rename_i ys
    obtain ⟨v, rfl, rv⟩ := reps1 r
    cases en : ints? ys with
    | none => rw [en] at e; cases e
    | some ns =>
      rw [en] at e
      cases e
      cases rv with
      | lst h2 r2 =>
        exact ⟨_, _, rfl, SqL.of (su _ _ h2), fun z o hz ho => Post.tpx su so hz ho (ints_ok r2 en) r2 q⟩
  · cases e⟩
section
variable {X : Cx} {es : List Expr} {t : TA} {pos : Pos}
theorem pe_tupX {x1} (h : PA X es t) : PE X (.Tuple es x1 pos) (fun σ H Q => t σ H fun xs H1 => xs.length ≤ sizeLine ∧ ∀ (p : Addr) (o : Obj), H1 p = none → o.dict = Option.none → Q (.ref p) (upd H1 p (.frz o (.tup xs)))) := by
  refine ⟨fun pins s σ H Q I hq => ?_⟩
  refine wpAny_Tuple_spliced (thn (h.run pos pins s σ H _ I hq) fun us s1 ⟨xs, H1, I1, r, z, q⟩ => ⟨by rw [← r.length]; exact z, ?_⟩)
  have hf : H1 s1.heap.objs.size = none := I1.hok.fresh (Nat.le_refl _)
  refine ⟨.ref s1.heap.objs.size, upd H1 s1.heap.objs.size (.frz { cls := .type "tuple", data := .seq us.toArray } (.tup xs)), I1.laid (t' := s1.toks) (fun b u e => Heap.get?_push_of_some _ e) (Nat.le_refl _) ?_, rfl, q _ _ hf rfl⟩
  exact ⟨Heap.get?_push_size _ rfl, z, us, r, ⟨_, Heap.get?_push_size _ rfl, rfl, _, rfl⟩⟩
end
def mTupX (ma : MA) : ME := fun env st => (ma env st).bind fun ds st1 => if ds.length ≤ sizeLine ∧ (ints? ds).isSome = true then .ok (.tpx ds) st1 else .bad
section
variable {G : Glb} {X : Cx} {W : WX} {O : Ow} {pos : Pos} {es : List Expr} {mr : MA}
theorem de_tupX {k} (h : DA G X W O es mr) : DE G X W O (.Tuple es k pos) (mTupX mr) := by
  obtain ⟨t, p, w⟩ := h.ex
  refine ⟨_, pe_tupX p, fun b S env st σ H Q I h => w b S env st σ H _ I (wpR_imp (wpR_bind h) (fun ds st1 h1 => ?_) fun _ _ z => z)⟩
  intro xs S1 H1 x1 su1 so1 r1
  split at h1
  · rename_i hz
    obtain ⟨hz, hi⟩ := hz
    cases en : ints? ds with
    | none => rw [en] at hi; cases hi
    | some ns => exact ⟨by rw [r1.len]; exact hz, fun p o hp ho => Post.tpx su1 so1 hp ho (ints_ok r1 en) r1 (Post.from_ x1 so1 h1)⟩
  · exact h1.elim
end
/-! ### count -/
def rCntT (K : PySem.W.Frag) : V → List V → Hp → VK → Prop := fun x xs H Q => ∃ (a : Addr) (vs : List V) (y : V) (ps : List PyData) (d : PyData), x = .ref a ∧ SqT K H a vs ∧ xs = [y] ∧ DpAll K H vs ps ∧ Dp K H y d ∧
  PyData.plainAll ps = true ∧ d.plain = true ∧ PyData.depthAll ps ≤ 60 ∧ Q (.int ((ps.countP fun z => PyData.eqv z d : Nat) : Int)) H
def rCntL (K : PySem.W.Frag) : V → List V → Hp → VK → Prop := fun x xs H Q => ∃ (a : Addr) (vs : List V) (y : V) (ps : List PyData) (d : PyData), x = .ref a ∧ SqL K H a vs ∧ xs = [y] ∧ DpAll K H vs ps ∧ Dp K H y d ∧
  PyData.plainAll ps = true ∧ d.plain = true ∧ PyData.depthAll ps ≤ 60 ∧ Q (.int ((ps.countP fun z => PyData.eqv z d : Nat) : Int)) H
section
variable {X : Cx}
theorem mt_cntT (hu : X.A.units + 64 < cLine) : MtR X "tuple.count" (rCntT X.K) := by
  intro pins s σ H x xs v us Q I rx rxs h
  obtain ⟨a, vs, y, ps, d, rfl, hs, rfl, ha, hd, hp, hpd, hde, q⟩ := h
  cases rx
  obtain ⟨u, rfl, ru⟩ := rxs.one
  obtain ⟨its, r, pl, hz⟩ := I.tuple hs
  obtain ⟨as, r1⟩ := Dp.readsAll I ps vs its ha r
  obtain ⟨bs, r2⟩ := Dp.reads I d y u hd ru
  exact SeqAt.count_tuple_data (vs := its.toArray) pl (by simpa using r1) r2 hp hpd (by omega) ⟨.int _, H, I.tok _, ⟨_, rfl⟩, q⟩
theorem mt_cntL (hu : X.A.units + 64 < cLine) : MtR X "list.count" (rCntL X.K) := by
  intro pins s σ H x xs v us Q I rx rxs h
  obtain ⟨a, vs, y, ps, d, rfl, hs, rfl, ha, hd, hp, hpd, hde, q⟩ := h
  cases rx
  obtain ⟨u, rfl, ru⟩ := rxs.one
  obtain ⟨its, r, pl, hz⟩ := I.list hs
  obtain ⟨as, r1⟩ := Dp.readsAll I ps vs its ha r
  obtain ⟨bs, r2⟩ := Dp.reads I d y u hd ru
  exact SeqAt.count_list_data (vs := its.toArray) pl.isList (by simpa using r1) r2 hp hpd (by omega) ⟨.int _, H, I.tok _, ⟨_, rfl⟩, q⟩
variable {o e : Expr} {to t1 : TE} {apos cpos : Pos}
def tCnt (K : PySem.W.Frag) (to te : TE) : TE := fun σ H Q => to σ H fun x H1 => (∃ a ob vs, x = .ref a ∧ H1 a = some (.frz ob (.tup vs)) ∧ ob.dict = none) ∧ te σ H1 fun y H2 => rCntT K x [y] H2 Q
theorem pe_cntT (hu : X.A.units + 64 < cLine) (ho : PE X o to) (he : PE X e t1)
    (hbase : attributeBase o "count" X.env (eval o X.env) = eval o X.env := by rfl)
    (hfew : ((backTo cpos (starEach [e] X.env)).all (fun x => !x.1) && (backToKw cpos (keywordEach [] X.env)).all (fun x => x.1.isSome)
      && decide ([e].length + ([] : List Keyword).length + (if ([] : List Keyword).isEmpty then 0 else 1) < 30)) = true := by rfl)
    (hline : (apos.endLine == cpos.line) = true := by rfl) (hs : starEach [e] X.env = (false, eval e X.env) :: starEach [] X.env := by rfl) (hplain : (backTo cpos (starEach [] X.env)).any (·.1) = false := by rfl) :
    PE X (.Call (.Attribute o "count" apos) [e] [] cpos) (tCnt X.K to t1) := by
  refine ⟨fun pins s σ H Q I h => ?_⟩
  refine wpAny_Call_method_late hbase hfew hline rfl (thn (ho.run pins s σ H _ I h) fun v s1 ⟨x, H1, I1, r1, ⟨a, ob, vs, ex, hob, hdn⟩, q1⟩ => ?_)
  subst ex
  cases r1
  obtain ⟨hg, hz, its, rv, pl⟩ := (show ObjOk X.prog X.w H1 s1.heap a (.frz ob (.tup vs)) from I1.hok a _ hob)
  obtain ⟨o', ho', hc, _⟩ := id pl
  refine ⟨"tuple", _, PySem.F.plainAttrs_tuple, PySem.F.slot_tuple_count, PySem.F.type_tuple_count, ⟨o', ho', hc⟩, fun b eb => ?_, ?_⟩
  · cases eb
    exact ⟨ob, hg, hdn⟩
  have hA := (pa_cons he pa_nil hs).run cpos pins s1 σ H1 (fun vs' H2 => rCntT X.K (.ref a) vs' H2 Q) I1 q1
  rw [hs] at hA ⊢
  refine Calls.callWith_builtin (by show (false || (backTo cpos (starEach [] X.env)).any (·.1)) = false; rw [hplain] <;> rfl) (Calls.evalArgs_plain ?_)
  exact thn hA fun us s2 ⟨vs2, H2, I2, r2, q2⟩ => mt_cntT hu pins s2 σ H2 (.ref a) vs2 _ us Q I2 rfl r2 q2
end
def cntD (xs : List D) (d : D) : Option D := if PyData.canLayAll0 (toPs xs) = true ∧ (toP d).canLay0 = true ∧ PyData.plainAll (toPs xs) = true ∧ (toP d).plain = true ∧ PyData.depthAll (toPs xs) ≤ 60 then some (.int (((toPs xs).countP fun z => PyData.eqv z (toP d) : Nat) : Int)) else none
def mCntX (mo me : ME) : ME := fun env st => (mo env st).bind fun x st1 => match x with
  | .tpx xs => (me env st1).bind fun d => ret? (cntD xs d)
  | _ => .bad
def mCntL (mo me : ME) : ME := fun env st => (mo env st).bind fun x st1 => match x with
  | .lst xs => (me env st1).bind fun d => ret? (cntD xs d)
  | _ => .bad
section
variable {G : Glb} {X : Cx} {W : WX} {O : Ow} {apos cpos : Pos} {o e : Expr} {mo me : ME}
theorem de_cntT (hK : X.K = G.K) (hu : X.A.units + 64 < cLine) (ho : DE G X W O o mo) (he : DE G X W O e me)
    (hbase : attributeBase o "count" X.env (eval o X.env) = eval o X.env := by rfl)
    (hfew : ((backTo cpos (starEach [e] X.env)).all (fun x => !x.1) && (backToKw cpos (keywordEach [] X.env)).all (fun x => x.1.isSome)
      && decide ([e].length + ([] : List Keyword).length + (if ([] : List Keyword).isEmpty then 0 else 1) < 30)) = true := by rfl)
    (hline : (apos.endLine == cpos.line) = true := by rfl) (hs : starEach [e] X.env = (false, eval e X.env) :: starEach [] X.env := by rfl) (hplain : (backTo cpos (starEach [] X.env)).any (·.1) = false := by rfl) :
    DE G X W O (.Call (.Attribute o "count" apos) [e] [] cpos) (mCntX mo me) := by
  obtain ⟨to, po, wo⟩ := ho.ex
  obtain ⟨t, pe, w⟩ := he.ex
  refine ⟨_, pe_cntT hu po pe hbase hfew hline hs hplain, fun b S env st σ H Q I h => wo b S env st σ H _ I (wpR_imp (wpR_bind h) (fun d st1 h1 => ?_) fun _ _ z => z)⟩
  intro v S1 H1 x1 su1 so1 r1
  have I1 := I.ext x1 su1 so1
  cases r1 with
  | tpx hq hz hn r2 =>
    rename_i a ob ns vs ds
    refine ⟨⟨a, ob, vs, rfl, su1 _ _ hz, hn⟩, w b S1 env st1 σ H1 _ I1 (wpR_imp (wpR_bind h1) (fun y st2 h2 => ?_) fun _ _ z => z.from_ x1 so1)⟩
    intro u S2 H2 x2 su2 so2 r3
    obtain ⟨d, e1, q⟩ := wp_ret h2
    unfold cntD at e1
    split at e1
    · rename_i hc
      obtain ⟨c1, c2, c3, c4, c5⟩ := hc
      cases e1
      have hz2 : S2 a = some (.frz ob (.tup vs)) := x2.same _ _ hz
      exact ⟨a, vs, u, toPs ds, toP y, rfl, .inl (.inr ⟨ob, su2 _ _ hz2⟩), rfl, hK ▸ Reps.dp su2 (r2.mono x2.same) c1, hK ▸ Rep.dp su2 r3 c2, c3, c4, c5, Post.here su2 so2 (.int _) (Post.from_ (x1.trans so1 x2) so2 q)⟩
    · cases e1
  | _ => exact h1.elim
theorem de_cntL (hK : X.K = G.K) (hu : X.A.units + 64 < cLine) (ho : DE G X W O o mo) (he : DE G X W O e me)
    (hbase : attributeBase o "count" X.env (eval o X.env) = eval o X.env := by rfl)
    (hfew : ((backTo cpos (starEach [e] X.env)).all (fun x => !x.1) && (backToKw cpos (keywordEach [] X.env)).all (fun x => x.1.isSome)
      && decide ([e].length + ([] : List Keyword).length + (if ([] : List Keyword).isEmpty then 0 else 1) < 30)) = true := by rfl)
    (hline : (apos.endLine == cpos.line) = true := by rfl) (hs : starEach [e] X.env = (false, eval e X.env) :: starEach [] X.env := by rfl) (hplain : (backTo cpos (starEach [] X.env)).any (·.1) = false := by rfl) :
    DE G X W O (.Call (.Attribute o "count" apos) [e] [] cpos) (mCntL mo me) := by
  obtain ⟨to, po, wo⟩ := ho.ex
  obtain ⟨t, pe, w⟩ := he.ex
  refine ⟨_, pe_bm PySem.F.plainAttrs_list PySem.F.slot_list_count PySem.F.type_list_count (mt_cntL hu) po (pa_cons pe pa_nil hs) hbase hfew hline hs hplain, fun b S env st σ H Q I h => wo b S env st σ H _ I (wpR_imp (wpR_bind h) (fun d st1 h1 => ?_) fun _ _ z => z)⟩
  intro v S1 H1 x1 su1 so1 r1
  have I1 := I.ext x1 su1 so1
  cases r1 with
  | lst hz r2 =>
    rename_i a vs ds
    refine ⟨.inl ⟨rfl, _, SqL.of (su1 _ _ hz)⟩, w b S1 env st1 σ H1 _ I1 (wpR_imp (wpR_bind h1) (fun y st2 h2 => ?_) fun _ _ z => z.from_ x1 so1)⟩
    intro u S2 H2 x2 su2 so2 r3
    obtain ⟨d, e1, q⟩ := wp_ret h2
    unfold cntD at e1
    split at e1
    · rename_i hc
      obtain ⟨c1, c2, c3, c4, c5⟩ := hc
      cases e1
      have hz2 := x2.same _ _ hz
      exact ⟨a, vs, u, toPs ds, toP y, rfl, SqL.of (su2 _ _ hz2), rfl, hK ▸ Reps.dp su2 (r2.mono x2.same) c1, hK ▸ Rep.dp su2 r3 c2, c3, c4, c5, Post.here su2 so2 (.int _) (Post.from_ (x1.trans so1 x2) so2 q)⟩
    · cases e1
  | _ => exact h1.elim
end
end DL

/-! DL: an owned list compared by != (it stays owned). -/
namespace DL
open PySem PySem.Spec PyProof.Rows L2
section
variable {G : Glb} {X : Cx} {W : WX} {O : Ow} {pos : Pos} {b : Expr} {mb : ME}
theorem dt_neO (i : Nat) {x : Str} {p1 : Pos} (ho : OpR X (compareOp .NotEq) (rNeD X.K)) (hK : X.K = G.K) (hb : DE G X W O b mb) (hm : i ∈ O.own := by first | decide | exact of_decide_eq_true rfl) (hi : X.N[i]? = some x := by rfl) (hv : Vis X.env.scope x := by first | exact Or.inl rfl | exact Or.inr (Or.inl rfl) | exact Or.inr (Or.inr rfl))
    (hd : (x == ("__debug__" : Str)) = false := by decide) (hcd : (x == ("__classdict__" : Str)) = false := by decide) (hmk : behindInMarks .NotEq b = false := by first | exact nomark _ | rfl) : DT G X W O (.Compare (.Name x p1) [.NotEq] [b] pos) (mTest (mOp dNe (mVar i) mb)) := by
  obtain ⟨tb, pb, w⟩ := hb.ex
  refine ⟨_, pt_cmpR ho (pe_var hi hv hd hcd) pb hmk, fun c S env st σ H Q I h => ?_⟩
  unfold mTest mOp mVar at h
  cases e1 : env[i]? with
  | none => rw [e1] at h; exact h.elim
  | some o => cases o with
    | none => rw [e1] at h; exact h.elim
    | some d0 =>
      obtain ⟨a, ws, es, p1, p2, p3, p4, p5, p6, p7⟩ := I.own i d0 hm e1
      subst p1
      rw [e1] at h
      refine ⟨_, p2, w c S env st σ H _ I ?_⟩
      have h : wpR (((mb env st).bind fun y => ret? (dNe (.lst es) y)).bind bool?) _ _ := h
      refine wpR_imp (wpR_bind (wpR_bind h)) (fun dy st1 h1 => ?_) fun _ _ z => z
      intro y S' H' x' su so r
      have I' := I.ext x' su so
      obtain ⟨a', ws', es', q1, q2, q3, q4, q5, q6, q7⟩ := I'.own i _ hm e1
      cases q1
      have ea : a' = a := by
        have := q2.symm.trans p2
        simpa using this
      subst ea
      obtain ⟨d, e2, q⟩ := wp_ret h1
      unfold dNe eqD at e2
      split at e2
      · rename_i hs
        have e' : D.bl (!PyData.eqv (toP (.lst es)) (toP dy)) = d := Option.some.inj e2
        subst e'
        have hl : (toP (.lst es)).canLay0 = true := SeqAt.canLay_of_shaped hs.1
        exact ⟨_, _, hK ▸ Dp.lst (SqL.of q3) (Reps.dp su q7 (by simpa [toP, PyData.canLay0] using hl)), hK ▸ r.dp su (SeqAt.canLay_of_shaped hs.2), hs.1, hs.2, ⟨_, rfl, q _ _ x' su so⟩⟩
      · cases e2
end
end DL

/-! DL: x(lambda: e), where x is a def that tries what it got and tells of the error that flew. -/
namespace DL
open PySem PySem.Spec PyProof.Rows L2 LamX
section
variable {X : Cx} {pins : List (Addr × Obj)} {σ : L2.St} {H : Hp} {s : Shared}
/-- a lambda made where only the maker's own table P is known; all but P stays as it is -/
theorem lam_own {c P : Addr} {params : Arguments} {body : Expr} {scope : Scope} {pos : Pos} {E : Value → Shared → Prop} {Q : Value → Shared → Prop} (I : Inv X pins σ H s) (TB : TabB X.base X.mg c P) (hcode : X.env.code = .ref c)
    (hT : TabS H P (X.env.qual ++ "<lambda>")) (hdef : defaultsOf params X.env = ([], [])) (hfree : ∀ y ∈ scope.names, y.2 = .free → ∃ c, X.env.cells.lookup y.1 = some c)
    (h : ∀ (f c' : Addr) (pm ctv : Value) (H1 : Hp) (s' : Shared), Inv X pins σ H1 s' → (∀ b o, b ≠ P → H b = some o → H1 b = some o) → TabS H1 P (X.env.qual ++ "<lambda>") →
      s'.heap.get? f = some (PySem.W.kla_obj "<lambda>" (X.env.qual ++ "<lambda>") params body scope (cloFrom X.env.cells scope.names []) pm c' ctv) → H1 f = none → f ∉ frs X.stack → H1 c' = some (CodeO c' (X.env.qual ++ "<lambda>")) → Q (.ref f) s') :
    wpAny (model X.prog X.w) X.A (eval (.Lambda params body scope pos) X.env) Q E s := by
  obtain ⟨rows, atP, ok3, names⟩ := hT
  have away : ∀ f, s.heap.objs.size ≤ f → f ∉ frs X.stack := fun f hf z => by
    rcases List.mem_cons.mp (I.stkSub _ z) with e | e
    · exact absurd (Nat.lt_of_lt_of_le (e ▸ I.lt) hf) (Nat.lt_irrefl _)
    · exact I.nofs hf e
  have inHeap : s.heap.get? P = some { cls := .none, data := .fields rows } := I.hok P _ atP
  refine PySem.W.kla_eval hdef ?_
  cases known : codeAmong pos rows.toList with
  | some cv =>
    obtain ⟨c', rfl, hco⟩ := names pos cv known
    refine PySem.W.kla_makeFunctionHit (mg := X.mg) (c := c) (P := P) (ps := rows) (closure_ok hfree) I.ok.glob (I.mod.glob.keeps I.bk) hcode (TB.code.keeps I.bk) inHeap ok3 known (TB.bm.keeps I.bk) fun ctv h' tk hx hsz => ?_
    exact h h'.objs.size c' ((X.mg "__name__").getD .none) ctv H _ (I.kept fun b o e => Heap.get?_push_of_some _ (hx b o e)) (fun _ _ _ e => e) ⟨rows, atP, ok3, names⟩ (Heap.get?_push_size _ rfl) (I.hok.fresh hsz) (away _ hsz) hco
  | none =>
    refine PySem.W.kla_makeFunction (mg := X.mg) (c := c) (P := P) (ps := rows) (closure_ok hfree) I.ok.glob (I.mod.glob.keeps I.bk) hcode (TB.code.keeps I.bk) inHeap ok3 known TB.gP (TB.bm.keeps I.bk) fun c' ctv h' tk hx hge hlt hrec htb => ?_
    obtain ⟨c2, oc, vs, t, e2, hoc, hd, hv⟩ := hrec
    cases e2
    have grown : s.heap.objs.size ≤ h'.objs.size := Nat.le_trans hge (Nat.le_of_lt hlt)
    have new : H c' = none := I.hok.fresh hge
    have keep : ∀ b o, b ≠ P → H b = some o → upd (upd H P (.tbl (rows ++ #[rawInt pos.line, rawInt pos.col, .ref c']))) c' (CodeO c' (X.env.qual ++ "<lambda>")) b = some o := fun b o hb e => by
      rw [upd_ne (ne_of_none e new), upd_ne hb]; exact e
    have list : (rows ++ #[rawInt pos.line, rawInt pos.col, .ref c']).toList = rows.toList ++ [rawInt pos.line, rawInt pos.col, .ref c'] := by simp
    refine h h'.objs.size c' ((X.mg "__name__").getD .none) ctv _ _
      (inv_table (t' := tk) (more := #[rawInt pos.line, rawInt pos.col, .ref c']) (h' := h'.push (PySem.W.kla_obj "<lambda>" (X.env.qual ++ "<lambda>") params body scope (cloFrom X.env.cells scope.names []) ((X.mg "__name__").getD .none) c' ctv)) I atP
        (fun b o hb e => Heap.get?_push_of_some _ (hx b o hb e)) (Heap.get?_push_of_some _ htb) hge ⟨oc, vs, t, Heap.get?_push_of_some _ hoc, hd, hv⟩)
      keep ⟨_, by rw [upd_ne (ne_of_none atP new), upd_same], by rw [list]; exact PySem.TriplesOk_snoc _ _ _ _ ok3, fun p' cv hcv => ?_⟩ (Heap.get?_push_size _ rfl) ?_ (away _ grown) upd_same
    · rw [list] at hcv
      rcases among_app _ ok3 hcv with z | z
      · obtain ⟨c0, e1, e2⟩ := names p' cv z
        exact ⟨c0, e1, keep _ _ (fun z => by rw [z, atP] at e2; exact codeO_ne _ (Option.some.inj e2).symm) e2⟩
      · exact ⟨c', z, upd_same⟩
    · rw [upd_ne (Nat.ne_of_gt hlt), upd_ne (Nat.ne_of_gt (Nat.lt_of_lt_of_le (Heap.lt_size inHeap) grown))]
      exact I.hok.fresh grown
end
section
variable {X : Cx} {pins : List (Addr × Obj)} {σ : L2.St} {H : Hp} {s : Shared}
/-- the call of what was got: an error flies on at the slots that stand -/
theorem pe_actW {CXg : CXT} {Eg : XK} {Ng : List Str} {qg : Str} {sg : Scope} {g f c' : Addr} {cdg pm ctv : Value} {params : Arguments} {body : Expr} {scope : Scope} {k i : Nat} {a : Str} {pn : List (Addr × Obj)} {xe : Value → Shared → Prop} {W : WX} {tb : XK → TE} {p1 p2 : Pos}
    (I : Inv X pins σ H s) (L : LamS X.env.scope scope) (hf : s.heap.get? f = some (PySem.W.kla_obj "<lambda>" (X.env.qual ++ "<lambda>") params body scope (cloFrom X.env.cells scope.names []) pm c' ctv)) (hfn : H f = none) (hfr : f ∉ frs X.stack)
    (hbind : bindArgs (PySem.W.kla_fn "<lambda>" (X.env.qual ++ "<lambda>") params body scope (cloFrom X.env.cells scope.names []) pm (.ref c') ctv) ⟨[], []⟩ = pure [])
    (tk : Takes ((cxOf CXg X.prog X.w X.K X.mg X.base Ng qg sg g cdg X.A X.stack s H Eg).tr pn xe) W) (hr : Room (k + 1) (X.A.deeper (envOfC qg sg s.heap.objs.size g cdg)))
    (hbody : ∀ (A : Around) (outer : List Env) (s : Shared) (H : Hp) (E : XK), Room k (A.deeper (lamEnv X scope s.heap.objs.size f c')) → PE (lamCx X A outer s H E scope f c') body (tb E))
    (hN : Ng[i]? = some a) (hv : Vis sg a) (hd : (a == ("__debug__" : Str)) = false := by decide) (hcd : (a == ("__classdict__" : Str)) = false := by decide) :
    PE ((cxOf CXg X.prog X.w X.K X.mg X.base Ng qg sg g cdg X.A X.stack s H Eg).tr pn xe) (.Call (.Name a p1) [] [] p2)
      (fun σZ HZ Q => σZ[i]? = some (some (.ref f)) ∧ HZ c' = some (CodeO c' (X.env.qual ++ "<lambda>")) ∧ tb (WE W σZ) σ HZ Q) := by
  refine ⟨fun pinsZ sZ σZ HZ Q IZ h => ?_⟩
  obtain ⟨hs, hc, ht⟩ := h
  refine wpAny_Call_Name_kw (thn ((pe_var (pos := p1) (i := i) hN hv hd hcd).run pinsZ sZ σZ HZ (fun v H1 => v = .ref f ∧ H1 = HZ) IZ ⟨.ref f, hs, rfl, rfl⟩) fun u s1 ⟨v, H1, I1, r1, q1⟩ => ?_)
  obtain ⟨ev, eH⟩ := q1
  subst ev
  rw [eH] at I1
  obtain rfl : u = Value.ref f := r1
  have here : s1.heap.get? f = some (PySem.W.kla_obj "<lambda>" (X.env.qual ++ "<lambda>") params body scope (cloFrom X.env.cells scope.names []) pm c' ctv) := I1.base.keep f _ hf hfn hfr (fun z => nomatch (show f ∈ ([] : List Addr) from z))
  refine PySem.W.callWith_F0 ⟨_, _, _, _, here⟩ ?_
  obtain ⟨⟨oc, vs, t, hoc, hdc, hvc⟩, _, _⟩ := I1.hok c' _ hc
  have runs : codeAny (model X.prog X.w) (X.A.deeper (envOfC qg sg s.heap.objs.size g cdg)) (.call (.ref f) ⟨[], []⟩) (CR (L2.CX X.prog X.w) (envOfC qg sg s.heap.objs.size g cdg :: X.stack) X.prog X.w HZ s1 Q (WE W σZ)) s1 := by
    refine PySem.W.kla_callFunE hr.depth here rfl L.co L.gen rfl ⟨c', oc, vs, t, rfl, hoc, hdc, hvc⟩ ?_
    rw [hbind]
    refine wpAny_pure (wpAny_newFunctionEnv (fun y hy => (L.own y hy).2) (fun y hy => absurd hy (by simp)) (fun h₁ hns hsb => ⟨I1.nolimit.fresh _ hsb, ?_⟩) L.kind)
    show codeAny _ _ (.expr body (lamEnv X scope s1.heap.objs.size f c')) _ _
    have J : Inv (lamCx X (X.A.deeper (envOfC qg sg s.heap.objs.size g cdg)) (envOfC qg sg s.heap.objs.size g cdg :: X.stack) s1 HZ (WE W σZ) scope f c') [] σ HZ { s1 with heap := h₁, toks := s1.toks + ([] : List (Str × Value)).length } :=
      lam_start2 I L I1.env0 hr.hd (show Un (frs X.stack) [] H HZ s.heap s1.heap from I1.base) hns fun b o e => hsb.extBut b o (Nat.ne_of_lt (Heap.lt_size e)) (Heap.get?_push_of_some _ e)
    refine PySem.W.kla_codeExpr (wpAny_mono ((hbody _ _ s1 HZ _ (hr.deeper _)).run [] _ _ HZ Q J ht) (fun v s' hq => ?_) fun e s' hq => hq)
    obtain ⟨w', H', J', rv, q⟩ := hq
    exact ⟨w', H', J'.os, J'.bare, J'.base, J'.hok, rv, q⟩
  refine wpAny_call (codeAny_mono runs fun r s' hq => ?_)
  cases r with
  | error e => exact passAt tk σZ pinsZ HZ s1 e s' I1 hq
  | ok fl =>
    cases fl with
    | ret u => exact I1.after hq
    | next => exact False.elim hq
    | brk => exact False.elim hq
    | cont => exact False.elim hq
end
/-- what such a def answers: n slots, none of them known; hs its handlers, mr what stands behind -/
def mRef (n : Nat) (hs : List HanM) (mr : MS) (mB : ME) : ME := fun env st => match mB env st with
  | .ok _ st1 => outR (mr (List.replicate n none) st1)
  | .err x st1 => outR (match mHands hs x (List.replicate n none) st1 with
      | .nx e2 st2 => mr e2 st2
      | o => o)
  | .bad => .bad
theorem postS_outR {G : Glb} {b : Act} {Ob : Ow} {OE : Ow → Prop} {O : Ow} {E : XK} {Q : VK} {S : Hp} {o : Out} (h : wpR (outR o) (fun d st' => Post G b.ad b.S b.H d st' Q) (fun x st' => PostX G b.ad b.S b.H x st' E)) :
    PostS G b Ob OE (fun cls d _ H' => E cls d H') O { nx := fun _ H' => Q .non H', rt := Q } S o := by
  cases o with
  | nx env st => exact fun S' σ H' _ I => h .non S' H' I.fin I.sub I.sto .non
  | rt d st => exact h
  | bk env st => exact h.elim
  | ct env st => exact h.elim
  | er x env st => exact fun cls dd O' S' σ H' _ _ I r => h cls dd S' H' I.fin I.sub I.sto r
  | bad => exact h.elim
/-- the handlers of such a def, what stands behind its try -/
def refHands (st : Stmt) : List ExceptHandler := match defBody st with
  | .Try _ hs _ _ _ :: _ => hs
  | _ => []
def refRest (st : Stmt) : List Stmt := (defBody st).tail
section
variable {G : Glb} {X : Cx} {W : WX} {O : Ow}
theorem de_lam {x a : Str} {stg : Stmt} {g c P : Addr} {fdg : FuncData} {k : Nat} {Ng : List Str} {h0 : ExceptHandler} {hds : List ExceptHandler} {rest : List Stmt} {hs : List HanM} {mr : MS} {mB : ME} {O' : Ow} {params : Arguments} {body : Expr} {scope : Scope} {p p1 p2 p3 p4 lpos pos : Pos}
    (xc : XC (k + 2) G X W) (F : Fun X.K x x stg g fdg) (hm : X.mg x = some (.ref g)) (hb : Binds X.K fdg [a] []) (Sg : FnScope Ng [a] (defScope stg))
    (hbd : defBody stg = .Try [.Expr (.Call (.Name a p1) [] [] p2) p3] (h0 :: hds) [] [] p4 :: rest)
    (hrf : ∀ (cdv : Value) (outer : List Env) (s : Shared) (H : Hp) (E : XK), XC (k + 1) G (cxOf (L2.CX X.prog X.w) X.prog X.w X.K X.mg X.base Ng x (defScope stg) g cdv X.A outer s H E) (fun cls d _ H' => E cls d H') → XT (cxOf (L2.CX X.prog X.w) X.prog X.w X.K X.mg X.base Ng x (defScope stg) g cdv X.A outer s H E) →
      DHd G (cxOf (L2.CX X.prog X.w) X.prog X.w X.K X.mg X.base Ng x (defScope stg) g cdv X.A outer s H E) [] [] (h0 :: hds) hs ∧
      DSs G (cxOf (L2.CX X.prog X.w) X.prog X.w X.K X.mg X.base Ng x (defScope stg) g cdv X.A outer s H E) (fun cls d _ H' => E cls d H') {} (fun _ => True) {} rest O' mr)
    (TB : TabB X.base X.mg c P) (hcode : X.env.code = .ref c) (htb : G.tb = [(P, X.env.qual ++ "<lambda>")]) (L : LamS X.env.scope scope)
    (hbody : ∀ (A : Around) (outer : List Env) (s : Shared) (H : Hp) (E : XK) (f c' : Addr), XC k G (lamCx X A outer s H E scope f c') (fun cls d _ H' => E cls d H') → DE G (lamCx X A outer s H E scope f c') (fun cls d _ H' => E cls d H') O body mB)
    (hNg : Ng[0]? = some a := by rfl) (hva : Vis (defScope stg) a := by first | exact .inl rfl | exact .inr (.inl rfl)) (hg : Gl X x := by rfl) (hdef : defaultsOf params X.env = ([], []) := by rfl)
    (hbind : ∀ (q : Str) (cl : List (Str × Addr)) (pm cv ctv : Value), bindArgs (PySem.W.kla_fn "<lambda>" q params body scope cl pm cv ctv) ⟨[], []⟩ = pure [] := by intros; rfl)
    (hdb : (x == ("__debug__" : Str)) = false := by decide) (hd : (a == ("__debug__" : Str)) = false := by decide) (hcd : (a == ("__classdict__" : Str)) = false := by decide) :
    DE G X W O (.Call (.Name x p) [.Lambda params body scope lpos] [] pos) (mRef Ng.length hs mr mB) := by
  refine ⟨cE G W O (mRef Ng.length hs mr mB), ⟨fun pins s σ H Q I h => ?_⟩, fun b S env st σ H Q I h => ⟨b, S, env, st, I, h⟩⟩
  obtain ⟨b, S, env, st, J, h⟩ := h
  obtain ⟨⟨rows, atP, tab⟩, notS⟩ := J.sto.tab (P, X.env.qual ++ "<lambda>") (by rw [htb]; exact List.mem_singleton.mpr rfl)
  obtain ⟨oc, od, kV, doc, pm, an, cdv, ct, osl, efd, lk, hcg⟩ := F.ex
  refine wpAny_Call_Name_kw (ld_glob I hg hm ?_ hdb)
  refine PySem.W.callWith_K (h₀ := X.base) I.ok.mod.kin F.kp ?_ (by rfl) (by rfl)
  show wpAny _ _ (spliced ((false, eval (.Lambda params body scope lpos) X.env) :: backTo pos (starEach [] X.env))) _ _ s
  refine Calls.spliced_cons (lam_own I TB hcode ⟨rows, atP, tab⟩ hdef (L.has I.ok) fun f c' pm' ctv H1 s' I1 kp T1 hf hfn hfr hco => ?_)
  refine Calls.spliced_nil ⟨I1.kIn, ?_⟩
  have su1 : Same S H1 := fun d o e => kp d o (fun z => by rw [z, notS] at e; cases e) (J.sub d o e)
  have nP : ∀ {d : Addr} {vs : List V}, H d = some (HO.lst vs) → d ≠ P := fun e z => by rw [z, atP] at e; cases e
  have x1 : Ext b.ad S H S H1 := ⟨.refl _, fun _ _ e => .inl e, fun d o e _ => by
    by_cases z : d = P
    · subst z
      rw [atP] at e; cases e
      obtain ⟨r2, t2, _⟩ := T1
      exact ⟨_, t2, .inr ⟨_, _, rfl, rfl⟩⟩
    · exact .refl (kp d o z e)⟩
  have so1 : StoOk G b.ad S st H1 := ⟨J.sto.len, J.sto.nd, fun n d e => let ⟨g1, ds, vs, g2, g3, g4⟩ := J.sto.at_ n d e; ⟨g1, ds, vs, g2, kp d _ (nP g3) g3, g4⟩, fun q hq => by
    rw [htb] at hq
    obtain rfl := List.mem_singleton.mp hq
    exact ⟨T1, notS⟩⟩
  have J1 : DI G b O S env st σ H1 := J.ext x1 su1 so1
  have rc : codeAny (model X.prog X.w) X.A (.call (.ref g) ⟨[.ref f], []⟩) (CR (L2.CX X.prog X.w) X.stack X.prog X.w H1 s' Q (WE W σ)) s' := by
    subst efd
    refine run_ofS (N := Ng) (ps := [a]) (us := [.ref f]) (vs := [.ref f]) lk hcg Sg (xc.hr) I1.env0 (hb s' [.ref f] I1.kIn rfl) (.cons rfl .nil) rfl fun hr' => ?_
    have xz : XC (k + 1) G (cxOf (L2.CX X.prog X.w) X.prog X.w X.K X.mg X.base Ng x (defScope stg) g cdv X.A X.stack s' H1 (WE W σ)) (fun cls d _ H' => WE W σ cls d H') :=
      { tk := takes_of rfl rfl rfl rfl, po := passes_of rfl, calm := rfl, hr := hr', K := xc.K }
    obtain ⟨hH, hR⟩ := hrf cdv X.stack s' H1 (WE W σ) xz ⟨rfl, rfl⟩
    obtain ⟨l, hl, go⟩ := hH.go (W := fun cls d _ H' => WE W σ cls d H') (OE := fun _ => True) xz.K True.intro
    obtain ⟨tr, pr, wr⟩ := hR.ex
    rw [hbd]
    refine ⟨_, pss_cons (ps_try_mix rfl rfl Sg.nd xz.tk (fun W' pn xe tk _ => pss_one (ps_expr (pe_actW (i := 0) (tb := fun E => cE G (fun cls d _ H' => E cls d H') O mB) I1 L hf hfn hfr (hbind _ _ _ _ _) tk hr' (fun A outer s2 H2 E hr2 => (hbody A outer s2 H2 E f c'
      { tk := takes_of rfl rfl rfl rfl, po := passes_of rfl, calm := rfl, hr := hr2, K := xc.K }).c) hNg hva hd hcd))) hl) pr, ?_⟩
    have IZ : ∀ {S' H' st'}, Ext b.ad S H1 S' H' → Same S' H' → StoOk G b.ad S' st' H' → DI G ⟨S, H, b.ad⟩ {} S' (List.replicate Ng.length none) st' (L2.start Ng [.ref f]) H' := fun {S' H' st'} x' su' so' => by
      have x2 := x1.trans so1 x'
      have z : ∀ {i : Nat} {d : D}, (List.replicate Ng.length (none : Option D))[i]? = some (some d) → False := fun {i d} e => by
        rw [List.getElem?_replicate] at e
        split at e <;> cases e
      refine ⟨?_, su', x2.same, x2.new, x2.keep, fun i d e _ => (z e).elim, fun i d _ e => (z e).elim, fun i j d hi => (nomatch hi), so', fun i d hi => (nomatch hi), fun i hi => (nomatch hi)⟩
      unfold L2.start
      have e1 : 1 ≤ Ng.length := by
        cases Ng with
        | nil => cases hNg
        | cons _ _ => simp
      simp
      omega
    refine ⟨?_, hco, b, S, env, st, J1, ?_⟩
    · unfold L2.start; rfl
    · unfold mRef at h
      cases eB : mB env st with
      | bad => rw [eB] at h; exact h.elim
      | ok d st1 =>
        rw [eB] at h
        intro v S' H' x' su' so' r
        exact wr ⟨S, H, b.ad⟩ S' _ st1 _ H' _ (IZ x' su' so') (postS_outR (b := ⟨S, H, b.ad⟩) h)
      | err y st1 =>
        rw [eB] at h
        intro cls dd S' H' x' su' so' r
        refine go ⟨S, H, b.ad⟩ S' S' _ st1 _ H' y cls dd _ (.refl _) (IZ x' su' so') r ?_
        dsimp only at h
        cases eM : mHands hs y (List.replicate Ng.length none) st1 with
        | nx e2 st2 =>
          rw [eM] at h
          exact fun S2 σ2 H2 e I2 => wr ⟨S, H, b.ad⟩ S2 _ st2 σ2 H2 _ I2 (postS_outR (b := ⟨S, H, b.ad⟩) h)
        | rt d st2 => rw [eM] at h; exact h
        | bk e2 st2 => rw [eM] at h; exact h.elim
        | ct e2 st2 => rw [eM] at h; exact h.elim
        | er x2 e2 st2 =>
          rw [eM] at h
          exact fun cls2 dd2 O2 S2 σ2 H2 _ _ I2 r2 => h cls2 dd2 S2 H2 I2.fin I2.sub I2.sto r2
        | bad => rw [eM] at h; exact h.elim
  refine wpAny_call (codeAny_mono rc fun r s2 hq => ?_)
  cases r with
  | error e => exact passAt xc.tk σ pins H1 s' e s2 I1 hq
  | ok fl =>
    cases fl with
    | ret u => exact I1.after hq
    | next => exact False.elim hq
    | brk => exact False.elim hq
    | cont => exact False.elim hq
end
end DL

/-! DL: the end of a law that makes lambdas: its own def's table may be written on; the law runs where no repr is under way. -/
namespace DL
open PySem PySem.Spec PyProof.Rows L2 LamX
/-- the law's promise at the place where it is called: at the start the script and the law's own table are known -/
def RunG (P : Program) (w : World) (K : PySem.W.Frag) (mg : Str → Option Value) (base : Heap) (fa T : Addr) : Prop :=
  ∀ (s : Shared) (H : Hp) (a : Addr) (ns : List Int), Env0 P w K mg base callerA [] s H → ns.length ≤ 63 → H T = some (.tbl #[]) → SqL K H a (ns.map V.int) →
    codeAny (model P w) callerA (.call (.ref fa) ⟨[.ref a], []⟩) (CR (L2.CX P w) [] P w H s (fun v _ => v = .bl true) fun _ _ _ => False) s
/-- at the start: the table T, and the script at a where it is not written -/
def startH (K : PySem.W.Frag) (T a : Addr) (u : HO) : Hp := fun b => if b = T then some (.tbl #[]) else if b = a then (if (K.lookup a).isNone then some u else none) else none
theorem runG_end {P : Program} {w : World} {K : PySem.W.Frag} {mg mb : Str → Option Value} {fa a c T : Addr} {s : Shared} {vs : List Value} {ns : List Int}
    (kin : K.In s.heap) (hmain : s.heap.Ns mainGlobals mg) (hbn : s.heap.Ns builtinsNs mb) (hboot : ∀ x : Str, x ≠ "__name__" → mb x = bootBuiltins x) (hlim : s.heap.NoLimit) (hgen : s.gens = #[])
    (tab : s.heap.get? T = some { cls := .none, data := .fields #[] }) (away : K.lookup T = none) (cod : PySem.W.CodeHd s.heap c T) (hbm : s.heap.BuiltinsAt mg T)
    (scr : s.heap.get? a = some { cls := .type "list", data := .seq vs.toArray }) (scrI : IntsAre vs ns) (few : ns.length ≤ 63)
    (F : ∀ base : Heap, K.In base → base.Ns mainGlobals mg → TabB base mg c T → RunG P w K mg base fa T) :
    codeAny (model P w) callerA (.call (.ref fa) ⟨[.ref a], []⟩) (fun r s' => r = .ok (.ret (.bool true)) ∧ OldK s.heap s'.heap ∧ s'.os = s.os ∧ AllBare s'.gens) s := by
  have aT : a ≠ T := fun z => by
    rw [z, tab] at scr
    cases (congrArg Obj.data (Option.some.inj scr) : Data.fields #[] = Data.seq vs.toArray)
  let u : HO := .frz { cls := .type "list", data := .seq vs.toArray } (.lst (ns.map V.int))
  let H : Hp := startH K T a u
  have hT : H T = some (.tbl #[]) := if_pos rfl
  have other : ∀ b, b ≠ T → b ≠ a → H b = none := fun b h1 h2 => (if_neg h1).trans (if_neg h2)
  have hfr : K.lookup a = none → H a = some u := fun e => (if_neg aT).trans ((if_pos rfl).trans (by rw [e]; rfl))
  have hwr : ∀ o, K.lookup a = some o → H a = none := fun o e => (if_neg aT).trans ((if_pos rfl).trans (by rw [e]; rfl))
  have only : ∀ b x, H b = some x → (b = T ∧ x = .tbl #[]) ∨ (b = a ∧ x = u ∧ K.lookup a = none) := fun b x e => by
    by_cases h1 : b = T
    · subst h1; rw [hT] at e; exact .inl ⟨rfl, (Option.some.inj e).symm⟩
    · by_cases h2 : b = a
      · subst h2
        cases k : K.lookup b with
        | none => rw [hfr k] at e; exact .inr ⟨rfl, (Option.some.inj e).symm, rfl⟩
        | some o => rw [hwr o k] at e; cases e
      · rw [other b h1 h2] at e; cases e
  have small : ns.length ≤ sizeLine := Nat.le_trans few (by decide)
  have hok : HOk P w H s.heap := fun b x e => by
    rcases only b x e with ⟨rfl, rfl⟩ | ⟨rfl, rfl, _⟩
    · exact tab
    · exact ⟨scr, by rw [List.length_map]; exact small, vs, _, vals_ints scrI, scr⟩
  have seq : SqL K H a (ns.map V.int) := by
    cases k : K.lookup a with
    | none => exact .inl (.inr ⟨_, hfr k⟩)
    | some o =>
      have e := kin a o k
      rw [scr] at e; cases e
      exact .inr ⟨_, vs.toArray, _, k, rfl, rfl, rfl, by rw [List.size_toArray, scrI.length]; exact small, by simpa using vals_ints scrI⟩
  -- what is neither the script nor the table stands in the base
  have free : ∀ {b : Addr} {o : Obj}, s.heap.get? b = some o → (∀ vs n, o.data ≠ .seq vs n) → o.data ≠ .fields #[] → H b = none := fun {b o} e h1 h2 => other b
    (fun z => by rw [z, tab] at e; cases e; exact h2 rfl) (fun z => by rw [z, scr] at e; cases e; exact h1 _ _ rfl)
  have ns_ : ∀ {b : Addr} {m : Str → Option Value}, s.heap.Ns b m → (hidT s.heap H).Ns b m := fun {b m} ⟨o, es, ep, e, d, r⟩ =>
    ⟨o, es, ep, hidT_get e (free e (fun _ _ z => by rw [d] at z; cases z) fun z => by rw [d] at z; cases z), d, r⟩
  have kb : K.In (hidT s.heap H) := fun b o e => hidT_get (kin b o e) (by
    cases q : H b with
    | none => rfl
    | some x =>
      rcases only b x q with ⟨rfl, _⟩ | ⟨rfl, _, k⟩
      · rw [away] at e; cases e
      · rw [k] at e; cases e)
  have tb : TabB (hidT s.heap H) mg c T := by
    refine ⟨?_, ?_, fun z => ?_⟩
    · obtain ⟨o, us, file, tf, flags, tg, inF, text, tt, e1, r1, r2, r3, rest⟩ := cod
      exact ⟨o, us, file, tf, flags, tg, inF, text, tt, hidT_get e1 (free e1 (fun _ _ z => by rw [r2] at z; cases z) fun z => by rw [r2] at z; cases z; simp at r3), r1, r2, r3, rest⟩
    · obtain ⟨bm, ob, b1, b2, b3, b4, b5, b6, b7⟩ := hbm
      exact ⟨bm, ob, b1, b2, b3, b4, hidT_get b5 (free b5 (fun _ _ z => by rw [b7.2] at z; cases z) fun z => by rw [b7.2] at z; cases z), b6, b7⟩
    · obtain ⟨o, es, ep, e, hd, _⟩ := hmain
      rw [z, tab] at e
      cases e; cases hd
  have e0 : Env0 P w K mg (hidT s.heap H) callerA [] s H :=
    ⟨rfl, ⟨kb, ns_ hmain, ⟨mb, ns_ hbn, hboot⟩, let ⟨mc, h1, h2⟩ := hlim; ⟨mc, ns_ h1, h2⟩⟩, fun b o e => of_hidT e, Nat.le_of_eq (hidT_size _ _), trivial, fun b hb => (nomatch (show b ∈ ([] : List Addr) from hb)), hok, .of_eq hgen⟩
  refine codeAny_mono (F _ kb (ns_ hmain) tb s H a ns e0 few hT seq) fun r s' h => ?_
  cases r with
  | error e => exact (show False from by obtain ⟨_, _, _, _, _, _, _, _, _, _, _, _, z⟩ := (show L2.CX P w [] H s (fun _ _ _ => False) e s' from h); exact z).elim
  | ok fl =>
    cases fl with
    | next => exact False.elim h
    | brk => exact False.elim h
    | cont => exact False.elim h
    | ret v =>
      obtain ⟨v', H', os, bare, un, hok', r', q⟩ := h
      obtain rfl : v' = .bl true := q
      obtain rfl : v = Value.bool true := r'
      obtain ⟨more, grown⟩ := un.tbls T #[] hT
      have end_ : s'.heap.get? T = some { cls := .none, data := .fields (#[] ++ more) } := hok' T _ grown
      have stays : ∀ b o, b ≠ T → s.heap.get? b = some o → s'.heap.get? b = some o := fun b o hb e => by
        cases q : H b with
        | none => exact un.keep b o e q (fun z => nomatch (show b ∈ ([] : List Addr) from z)) (fun z => nomatch z)
        | some x =>
          rcases only b x q with ⟨z, _⟩ | ⟨rfl, rfl, _⟩
          · exact absurd z hb
          · have e1 := (hok b _ q).1
            have e2 := (hok' b _ (un.frzs b _ _ q)).1
            rw [e] at e1; cases e1
            exact e2
      refine ⟨rfl, ⟨fun b o e => ?_, fun b o e => ?_⟩, os, bare⟩
      · by_cases hb : b = T
        · subst hb
          rw [tab] at e; cases e
          exact .inr (.inl ⟨(cod.tab tab).isCodeTable, rfl, #[], more, rfl, end_⟩)
        · exact .inl (stays b o hb e)
      · by_cases hb : b = T
        · subst hb; exact ⟨_, end_⟩
        · exact ⟨o, stays b o hb e⟩
theorem walk_ofG {l : PySem.W.OpenLaw} {n : Nat} {q : Program} {loose : List Str} {XP : (Str → Option Value) → Heap → Prop} {YP : World → Heap → Prop} {d : DefRec} {K : Params → PySem.W.Frag}
    (hn : l.most = some n) (hn3 : n ≤ 63) (hdf : d.params.defaults = []) (hrec : ((recsOf q).any fun e => e.name == d.name) = true) (hY : ∀ (w : World) (h : Heap), YP w h → (K w.params).In h)
    (F : ∀ (w : World) (mg : Str → Option Value) (fa : Addr) (h : Heap), (K w.params).In h → h.Ns mainGlobals mg → mg d.name = some (.ref fa) →
      ∃ (c T : Addr) (o : Obj) (fd : FuncData) (e : Value) (dd : Option Addr) (vs : Array Value) (sl : Array (Option Value)), (K w.params).lookup fa = some o ∧ o.data = .func fd ∧ fd.code = .ref c ∧ (K w.params).lookup c = some ⟨e, dd, .fields vs, sl⟩ ∧ vs[11]? = some (.ref T) ∧
        (K w.params).lookup T = none ∧ PySem.W.codeHdIn (K w.params) c T = true ∧
        ∀ base : Heap, (K w.params).In base → base.Ns mainGlobals mg → TabB base mg c T → RunG l.prog w (K w.params) mg base fa T) :
    PySem.W.WalkO q loose XP YP l.row.toRowW d [] (fun f vs => PySem.call f vs) := by
  refine Att.attach_callB hn hdf fun w s₀ s₁ mg mb fa o pm cd doc a vs ns G Y ho hd hcd hmg hobj hints hlen hbits hg => ?_
  have kin := hY w _ Y
  obtain ⟨c, T, o1, fd1, e, dd, vs1, sl, k1, k2, k3, k4, k5, k6, k7, hF⟩ := F w mg fa _ kin G.T.g hmg
  have tab : s₁.heap.get? T = some { cls := .none, data := .fields #[] } := by
    obtain ⟨dL, hm, hn1⟩ := List.any_eq_true.mp hrec
    obtain ⟨a', o', fd', c', P', h1, h2, h3, h4, h5, ⟨⟨oc, vc, e1, _, e3, e4⟩, hP⟩⟩ := G.T.tab dL hm
    rw [beq_iff_eq.mp hn1, hmg] at h1
    cases h1
    have g1 := kin _ _ k1
    rw [g1] at h2
    cases h2
    rw [k2] at h3
    cases h3
    rw [k3] at h4
    cases h4
    have g2 := kin _ _ k4
    rw [g2] at e1
    cases e1
    cases e3
    rw [k5] at e4
    cases e4
    exact hP
  have bm : s₁.heap.BuiltinsAt mg T := by
    obtain ⟨bm, ob, b1, b2, b3, b4, b5, b6⟩ := G.T.bmain
    refine ⟨bm, ob, b1, b2, fun q => ?_, fun q => ?_, b3, b4, b5, b6⟩
    · obtain ⟨o, es, ep, e, hd, _⟩ := G.T.g
      rw [q, e] at b3
      cases b3
      rw [hd] at b6
      cases b6
    · rw [q, tab] at b3
      cases b3
      cases b6
  exact runG_end kin G.T.g G.T.b G.T.builtins G.T.nolimit hg tab k6 (PySem.W.codeHd_of_K kin k7) bm hobj hints (Nat.le_trans hlen hn3) hF
section
variable {P : Program} {w : World} {K : PySem.W.Frag} {mg : Str → Option Value} {base : Heap}
/-- the law that makes lambdas: its script made to a hand (by fH), then the rest over that cell -/
theorem lawD3 {G : Glb} {x y q : Str} {st : Stmt} {f fH c T : Addr} {fd fdH : FuncData} {N : List Str} {k j : Nat} {rest : List Stmt} {m : MS} {mH : List D → M D} {O' : Ow} {p1 p2 p3 p4 p5 : Pos} (F : Fun K "law" "law" st f fd) (Sc : FnScope N ["_law_script"] (defScope st)) (hK : K = G.K)
    (hN1 : N[1]? = some x) (hl : Loc (defScope st) x) (hl0 : (defScope st).names.lookup ("_law_script" : Str) = some .local) (hy : (defScope st).names.lookup y = some .globalImplicit)
    (hbd : defBody st = .Assign [.Name x p1] (.Call (.Name y p2) [.Name "_law_script" p3] [] p4) p5 :: rest)
    (FH : FnOk P w K mg base (L2.CX P w) j fH fdH ["_law_script"] (spD G 1 mH)) (hmg : mg y = some (.ref fH)) (hkp : PySem.W.keepIn K (.ref fH) = true) (hb : Binds K fdH ["_law_script"] []) (htb : G.tb = [(T, q)]) (hjk : j ≤ k)
    (hbf : Binds K fd ["_law_script"] []) (hcd : fd.code = .ref c) (hr : Room (k + 1) callerA) (hnT : K.lookup T = none)
    (hH : ∀ (ns : List Int), ns.length ≤ 63 → ∃ cells t, mH [.rol (ns.map .int)] [] = .ok (handD cells 0 0 t) [] ∧
      ∃ st', m (some (.rol (ns.map .int)) :: some (.tok 0) :: List.replicate (N.length - 2) none) [handD cells 0 0 t] = .rt (.bl true) st')
    (hrest : ∀ (s : Shared) (H : Hp) (E : XK), XC k G (cxOf (L2.CX P w) P w K mg base N "law" (defScope st) f (.ref c) callerA [] s H E) (fun cls d _ H' => E cls d H') → XT (cxOf (L2.CX P w) P w K mg base N "law" (defScope st) f (.ref c) callerA [] s H E) →
      DSs G (cxOf (L2.CX P w) P w K mg base N "law" (defScope st) f (.ref c) callerA [] s H E) (fun cls d _ H' => E cls d H') {} (fun _ => True) {} rest O' m)
    (hfx : ∀ (cdv : Value) (A : Around) (outer : List Env) (s : Shared) (H : Hp) (E : XK), (cxOf (L2.CX P w) P w K mg base N "law" (defScope st) f cdv A outer s H E).fn x = true ∨ (defScope st).names.lookup x = some .local) (hdy : (y == ("__debug__" : Str)) = false := by decide) (hnl : 2 ≤ N.length := by decide) :
    RunG P w K mg base f T := by
  intro s H a ns e0 few hTb hS
  obtain ⟨oc, od, kV, doc, pm, an, cdv, ct, osl, efd, lk, hcg⟩ := F.ex
  subst efd
  obtain rfl : cdv = .ref c := hcd
  refine run_ofS (N := N) (ps := ["_law_script"]) (us := [.ref a]) (vs := [.ref a]) lk hcg Sc hr e0 (hbf s [.ref a] (e0.mod.kin.keeps fun b o e => (e0.bs b o e).1) rfl) (.cons rfl .nil) rfl fun hr' => ?_
  have xc : XC k G (cxOf (L2.CX P w) P w K mg base N "law" (defScope st) f (.ref c) callerA [] s H (fun _ _ _ => False)) (fun cls d _ H' => (fun _ _ _ => False : XK) cls d H') :=
    { tk := takes_of rfl rfl rfl rfl, po := passes_of rfl, calm := rfl, hr := hr', K := hK }
  obtain ⟨t, p, wt⟩ := (hrest s H _ xc ⟨rfl, rfl⟩).ex
  rw [hbd]
  have hN0 : N[0]? = some ("_law_script" : Str) := by
    have e := Sc.pre
    cases N with
    | nil => simp at hnl
    | cons n N => simp at e; simp [e]
  obtain ⟨cells, tt, eH, st', em⟩ := hH ns few
  refine ⟨_, pss_cons (ps_set (i := 1) Sc.nd hN1 hl (pe_callS FH (hr'.mono hjk) hy hmg hkp hb (fun σ => passAt xc.tk σ) (pa_cons (pe_var (i := 0) hN0 (.inl hl0)) pa_nil) hdy) (by rfl) (hfx (.ref c) callerA [] s H _)) p, ?_⟩
  show tAsg (tCallS (spD G 1 mH) (WE fun cls d _ H' => (fun _ _ _ => False : XK) cls d H') (tCons (tVar 0) tNil)) (gName 1) _ (start N [V.ref a]) H
  refine ⟨.ref a, rfl, ?_⟩
  -- the script alone is still
  have aT : SqL K H a (ns.map V.int) → (H a = some (.lst (ns.map V.int)) ∨ ∃ o, H a = some (.frz o (.lst (ns.map V.int)))) ∨ ∃ o, K.lookup a = some o := fun h => by
    rcases h with h | ⟨o, its, n, e, _⟩
    · exact .inl h
    · exact .inr ⟨o, e⟩
  let S0 : Hp := fun b => if b = a then (if (K.lookup a).isNone then H a else none) else none
  have sub0 : Same S0 H := fun b o e => by
    by_cases h1 : b = a
    · subst h1
      have e : (if (K.lookup b).isNone then H b else none) = some o := (if_pos rfl).symm.trans e
      split at e
      · exact e
      · cases e
    · have e : (none : Option HO) = some o := (if_neg h1).symm.trans e
      cases e
  have seq0 : SqL K S0 a (ns.map V.int) := by
    rcases hS with h | h
    · cases k : K.lookup a with
      | none =>
        have ea : S0 a = H a := (if_pos rfl).trans (by rw [k]; rfl)
        rcases h with h | ⟨o, h⟩
        · exact .inl (.inl (ea.trans h))
        · exact .inl (.inr ⟨o, ea.trans h⟩)
      | some o =>
        have eb := (e0.bs a o (e0.mod.kin a o k)).2
        rcases h with h | ⟨o, h⟩ <;> rw [eb] at h <;> cases h
    · exact .inr h
  have notT : S0 T = none := by
    by_cases h1 : T = a
    · subst h1
      rcases aT hS with (h | ⟨o, h⟩) | ⟨o, h⟩
      · rw [hTb] at h; cases h
      · rw [hTb] at h; cases h
      · rw [hnT] at h; cases h
    · exact if_neg h1
  refine ⟨⟨S0, H, []⟩, [.rol (ns.map .int)], [], rfl, rfl, sub0, ⟨rfl, .nil, fun n b hn => by simp at hn, fun p hp => ?_⟩, .cons (.rol (hK ▸ seq0) (reps_ints ns)) .nil, ?_⟩
  · rw [htb] at hp
    obtain rfl := List.mem_singleton.mp hp
    exact ⟨TabS.nil hTb, notT⟩
  rw [eH]
  intro v S' H' x1 su1 so1 r1
  cases r1 with
  | lst h1 r1 =>
    rename_i pa vs
    cases r1 with
    | cons r1 rr =>
      cases r1 with
      | lst hc rc =>
        rename_i pc ws
        have ew : ws = cells.map V.int := ints_of rc
        subst ew
        have hne : pc ≠ pa := fun z => by
          subst z
          rw [h1] at hc
          have := Option.some.inj hc
          cases cells with
          | nil => cases this
          | cons c cells => cases this
        have hHpa : H pa = none := by
          rcases x1.new pa _ h1 with z | z
          · have z2 := sub0 _ _ z
            have za : pa = a := by
              by_cases h1 : pa = a
              · exact h1
              · have e : (none : Option HO) = _ := (if_neg h1).symm.trans z
                cases e
            subst za
            rcases aT hS with (h | ⟨o, h⟩) | ⟨o, h⟩
            · rw [z2] at h
              have e := HO.lst.inj (Option.some.inj h)
              cases ns with
              | nil => cases e
              | cons n ns => cases e
            · rw [z2] at h; cases h
            · exact (e0.bs pa o (e0.mod.kin pa o h)).2
          · exact z
        let S2 : Hp := fun c => if c = pa then none else S' c
        have hS2 : ∀ c, c ≠ pa → S2 c = S' c := fun c hc => if_neg hc
        have hS2p : S2 pa = none := if_pos rfl
        have sub2 : Same S2 H' := fun c o ho => by
          by_cases hcp : c = pa
          · subst hcp; rw [hS2p] at ho; cases ho
          · rw [hS2 c hcp] at ho; exact su1 _ _ ho
        have same2 : Same S0 S2 := fun c o ho => by
          rw [hS2 c (fun z => by subst z; rw [sub0 _ _ ho] at hHpa; cases hHpa)]
          exact x1.same _ _ ho
        have rc2 : Rep G [pa] S2 (.ref pc) (.lst (cells.map .int)) := .lst (by rw [hS2 pc hne]; exact hc) (reps_ints cells)
        cases rr with
        | cons r2 rr =>
          cases r2
          cases rr with
          | cons r3 rr =>
            cases r3
            cases rr with
            | cons r4 rr =>
              cases r4
              cases rr
              have so2 : StoOk G [pa] S2 [handD cells 0 0 tt] H' := by
                refine ⟨rfl, by simp, fun n b hb => ?_, so1.tab.known fun c ⟨_, hh⟩ hc => ?_⟩
                · cases n with
                  | zero =>
                    have e : pa = b := by simpa using hb
                    subst e
                    exact ⟨hS2p, _, _, rfl, su1 _ _ h1, .cons rc2 (.cons (.int _) (.cons (.int _) (.cons (.int _) .nil)))⟩
                  | succ n => simp at hb
                · by_cases hcp : c = pa
                  · subst hcp; exact hS2p
                  · rw [hS2 c hcp]; exact hc
              have I : DI G ⟨S2, H', [pa]⟩ {} S2 ([D.rol (ns.map .int), D.tok 0].map some ++ List.replicate (N.length - 2) none) [handD cells 0 0 tt] ([V.ref a, V.ref pa].map some ++ List.replicate (N.length - 2) none) H' :=
                DI.start sub2 so2 (.cons (.rol (same2.seq (hK ▸ seq0)) (reps_ints ns)) (.cons (.tok rfl) .nil))
              have eσ : (start N [V.ref a]).set 1 (some (V.ref pa)) = [V.ref a, V.ref pa].map some ++ List.replicate (N.length - 2) none := by
                obtain ⟨l, hl⟩ : ∃ l, N.length = l + 2 := ⟨N.length - 2, by omega⟩
                show (some (V.ref a) :: List.replicate (N.length - 1) none).set 1 (some (V.ref pa)) = _
                rw [hl]
                rfl
              refine wt ⟨S2, H', [pa]⟩ S2 _ _ _ H' _ (eσ ▸ I) ?_
              have em' : m ([D.rol (ns.map .int), D.tok 0].map some ++ List.replicate (N.length - 2) none) [handD cells 0 0 tt] = .rt (.bl true) st' := em
              rw [em']
              intro v S3 H3 _ _ _ r3
              cases r3
              rfl
end
end DL

/-! DL: repr of data, where no repr is under way. -/
namespace DL
open PySem PySem.Spec PyProof.Rows L2
mutual
/-- data as plain data -/
def pd : D → Option PyData
  | .non => some .none
  | .bl b => some (.bool b)
  | .int i => some (.int i)
  | .str x => some (.str x)
  | .tup xs => (pds xs).map .tuple
  | .tpx xs => (pds xs).map .tuple
  | .lst xs => (pds xs).map .list
  | .rol xs => (pds xs).map .list
  | .ty _ => none | .obj _ _ => none | .cls _ => none | .tok _ => none | .dic => none
def pds : List D → Option (List PyData)
  | [] => some []
  | d :: ds => match pd d, pds ds with
    | some x, some xs => some (x :: xs)
    | _, _ => none
end
/-- plain data whose text is short enough -/
def shortP (p : PyData) : Bool := p.showable && !p.hasDict && decide (p.depth ≤ 40) && p.leavesShort 600 && decide (p.bulk ≤ 20000)
def dRepr : List D → Option D
  | [d] => match pd d with
    | some p => if shortP p = true then some (.str p.shown) else none
    | none => none
  | _ => none
theorem shortP_all {p : PyData} (h : shortP p = true) : p.showable = true ∧ p.hasDict = false ∧ p.depth ≤ 40 ∧ p.shown.length ≤ sizeLine := by
  unfold shortP at h
  simp only [Bool.and_eq_true, Bool.not_eq_true', decide_eq_true_eq] at h
  obtain ⟨⟨⟨⟨h1, h2⟩, h3⟩, h4⟩, h5⟩ := h
  refine ⟨h1, h2, h3, Nat.le_trans (PyData.shown_le_bulk 600 (by decide) p h4) ?_⟩
  rw [sizeLine_eq]
  omega
section
variable {X : Cx} {G : Glb} {pins : List (Addr × Obj)} {σ : L2.St} {H S : Hp} {s : Shared} {ad : List Addr}
mutual
theorem reads_pd (hK : X.K = G.K) (I : Inv X pins σ H s) (su : Same S H) : ∀ {v : V} {d : D} {u : Value} {p : PyData}, Rep G ad S v d → RelV v u → pd d = some p → ∃ as, Reads s.heap u p as
  | _, _, _, _, .non, r, e => by
    obtain rfl := r
    simp only [pd, Option.some.injEq] at e
    subst e; exact ⟨_, .none⟩
  | _, _, _, _, .bl b, r, e => by
    obtain rfl := r
    simp only [pd, Option.some.injEq] at e
    subst e; exact ⟨_, .bool b⟩
  | _, _, _, _, .int i, r, e => by
    obtain ⟨t, rfl⟩ := r
    simp only [pd, Option.some.injEq] at e
    subst e; exact ⟨_, .int i t⟩
  | _, _, _, _, .str x, r, e => by
    obtain ⟨t, rfl⟩ := r
    simp only [pd, Option.some.injEq] at e
    subst e; exact ⟨_, .str x t⟩
  | _, _, _, _, .ty n, _, e => by simp [pd] at e
  | _, _, _, _, .tup h rs, r, e => by
    obtain rfl := r
    simp only [pd, Option.map_eq_some_iff] at e
    obtain ⟨ps, e1, rfl⟩ := e
    obtain ⟨its, rv, ⟨o, ho, hc, n, hd⟩, _⟩ := I.tuple (hK.symm ▸ Same.sqT su h.sqT)
    obtain ⟨as, ra⟩ := reads_pds hK I su rs rv e1
    exact ⟨_, .tuple ho hc hd (by simpa using ra)⟩
  | _, _, _, _, .lst h rs, r, e => by
    obtain rfl := r
    simp only [pd, Option.map_eq_some_iff] at e
    obtain ⟨ps, e1, rfl⟩ := e
    obtain ⟨its, rv, ⟨o, n, ho, hc, _, hd⟩, _⟩ := I.list (.inl (.inl (su _ _ h)))
    obtain ⟨as, ra⟩ := reads_pds hK I su rs rv e1
    exact ⟨_, .list ho hc hd (by simpa using ra)⟩
  | _, _, _, _, .rol h rs, r, e => by
    obtain rfl := r
    simp only [pd, Option.map_eq_some_iff] at e
    obtain ⟨ps, e1, rfl⟩ := e
    obtain ⟨its, rv, ⟨o, n, ho, hc, _, hd⟩, _⟩ := I.list (hK.symm ▸ Same.seq su h)
    obtain ⟨as, ra⟩ := reads_pds hK I su rs rv e1
    exact ⟨_, .list ho hc hd (by simpa using ra)⟩
  | _, _, _, _, .obj _ _, _, e => by simp [pd] at e
  | _, _, _, _, .cls _, _, e => by simp [pd] at e
  | _, _, _, _, .tok _, _, e => by simp [pd] at e
  | _, _, _, _, .dic _, _, e => by simp [pd] at e
  | _, _, _, _, .tpx q h nd rs, r, e => by
    obtain rfl := r
    simp only [pd, Option.map_eq_some_iff] at e
    obtain ⟨ps, e1, rfl⟩ := e
    obtain ⟨its, rv, ⟨o, ho, hc, n, hd⟩, _⟩ := I.tuple (.inl (.inr ⟨_, su _ _ h⟩))
    obtain ⟨as, ra⟩ := reads_pds hK I su rs rv e1
    exact ⟨_, .tuple ho hc hd (by simpa using ra)⟩
theorem reads_pds (hK : X.K = G.K) (I : Inv X pins σ H s) (su : Same S H) : ∀ {vs : List V} {ds : List D} {us : List Value} {ps : List PyData}, Reps G ad S vs ds → Vals vs us → pds ds = some ps → ∃ as, ReadsAll s.heap us ps as
  | _, _, _, _, .nil, r, e => by
    cases r
    simp only [pds, Option.some.injEq] at e
    subst e; exact ⟨_, .nil⟩
  | _, _, _, _, .cons h rs, r, e => by
    cases r with
    | cons r1 r2 =>
      unfold pds at e
      split at e
      · rename_i x xs e1 e2
        cases e
        obtain ⟨a1, q1⟩ := reads_pd hK I su h r1 e1
        obtain ⟨a2, q2⟩ := reads_pds hK I su rs r2 e2
        exact ⟨_, .cons q1 q2⟩
      · cases e
end
/-- the reading: the text of the one thing -/
def rRepr (G : Glb) : List V → Hp → VK → Prop := fun xs H Q => ∃ (ad : List Addr) (S : Hp) (v : V) (d : D) (p : PyData), xs = [v] ∧ Same S H ∧ Rep G ad S v d ∧ pd d = some p ∧ shortP p = true ∧ Q (.str p.shown) H
theorem cr_repr (hK : X.K = G.K) (hg : X.A.guards = some []) (hu : X.A.units + 64 < cLine) : CallR X (.builtin "repr") (rRepr G) := by
  intro pins s σ H xs us Q I r h
  obtain ⟨ad, S, v, d, p, rfl, su, rp, e, sh, q⟩ := h
  cases r with
  | @cons _ u _ us r1 r2 =>
    cases r2
    obtain ⟨as, rd⟩ := reads_pd hK I su rp r1 e
    obtain ⟨h1, h2, h3, h4⟩ := shortP_all sh
    have fin : ∀ h' t tk, (∀ b o, s.heap.get? b = some o → h'.get? b = some o) → EP X pins σ Q (.str p.shown t) { s with heap := h', toks := tk } := fun h' t tk hk => ⟨.str _, H, I.kept hk, ⟨_, rfl⟩, q⟩
    cases rd with
    | none => exact PySem.P.repr_of_none (fin s.heap _ _ fun _ _ e => e)
    | bool b => exact PySem.P.repr_of_bool (by cases b <;> exact fin s.heap _ _ fun _ _ e => e)
    | int i t => exact PySem.P.repr_of_int (by simpa [PyData.showable] using h1) (fin s.heap _ _ fun _ _ e => e)
    | str x t => exact PySem.P.repr_of_str (fin s.heap _ _ fun _ _ e => e) h4
    | list a1 a2 a3 a4 => exact repr_of_reads' (.list a1 a2 a3 a4) h1 (PyData.noDict_hsm h2) hg (by omega) (fun _ _ e => e) (fun h' t tk hk => fin h' t tk hk) h4
    | tuple a1 a2 a3 a4 => exact repr_of_reads' (.tuple a1 a2 a3 a4) h1 (PyData.noDict_hsm h2) hg (by omega) (fun _ _ e => e) (fun h' t tk hk => fin h' t tk hk) h4
    | dict a1 a2 a3 a4 a5 => simp [PyData.hasDict] at h2
theorem cd_repr : CallD G (rRepr G) dRepr := ⟨fun ad S H st xs ds d Q su so r e q => by
  unfold dRepr at e
  split at e
  · rename_i d0
    cases r with
    | cons r1 r2 =>
      cases r2
      split at e
      · rename_i p ep
        split at e
        · rename_i hs
          cases e
          exact ⟨ad, S, _, _, p, rfl, su, r1, ep, hs, q _ S H (.refl _ _ _) su so (.str _)⟩
        · cases e
      · cases e
  · cases e⟩
end
end DL
namespace DL
open PySem PySem.Spec PyProof.Rows L2
/-- two texts compared -/
def dNeS (x y : D) : Option D := match x, y with
  | .str a, .str b => some (.bl (!decide (a = b)))
  | _, _ => none
theorem opd_neS {G : Glb} : OpD G rNe dNeS := ⟨fun ad S H st x y dx dy d Q su so rx ry e q => by
  unfold dNeS at e
  split at e
  · rename_i a b
    cases e
    cases rx
    cases ry
    refine ⟨rfl, ?_⟩
    have k : decide (V.str a = V.str b) = decide (a = b) := by
      rw [dec_str]
      by_cases h : a = b
      · subst h; simp
      · rw [decide_eq_false h]; exact beq_eq_false_iff_ne.mpr h
    rw [k]
    exact q _ S H (.refl _ _ _) su so (.bl _)
  · cases e⟩
end DL

/-! DL: a dict display of ints; at a law's very end lists changed that others hold: fresh copies are kept first. -/
namespace DL
open PySem PySem.Spec PyProof.Rows L2
theorem upd_upd {H : Hp} {p : Addr} {a b : HO} : upd (upd H p a) p b = upd H p b := by
  funext c
  by_cases h : c = p
  · subst h; rw [upd_same, upd_same]
  · rw [upd_ne h, upd_ne h, upd_ne h]
/-- {i: j, k: l} -/
theorem de_dic2 {G : Glb} {X : Cx} {W : WX} {O : Ow} {pos : Pos} {i j k l : Int} {n1 n2 n3 n4 : Nat} {p1 p2 p3 p4 : Pos} : DE G X W O (.Dict [some (.Constant (.int i) n1 p1), some (.Constant (.int k) n2 p2)] [.Constant (.int j) n3 p3, .Constant (.int l) n4 p4] pos) (mC .dic) :=
  ⟨_, pe_disp (pps_cons pe_int pe_int (pps_cons pe_int pe_int pps_nil)) rfl rfl (by simp) (by simp), fun b S env st σ H Q I h p hp =>
    ⟨upd_same, [(.inl i, .int j), (.inl k, .int l)], rfl, by simp, by
      rw [upd_upd]
      exact Post.new (st := st) I.sub I.sto hp (.dic upd_same) h⟩⟩
mutual
/-- data without lists -/
def noL : D → Bool
  | .non => true | .bl _ => true | .int _ => true | .str _ => true | .ty _ => true | .cls _ => true
  | .tup xs => noLs xs
  | .obj _ fs => noLf fs
  | .lst _ => false | .rol _ => false | .tok _ => false | .dic => false | .tpx _ => false
def noLs : List D → Bool
  | [] => true
  | d :: ds => noL d && noLs ds
def noLf : List (Str × D) → Bool
  | [] => true
  | (_, d) :: ds => noL d && noLf ds
end
section
variable {G : Glb} {ad : List Addr} {S S' : Hp}
/-- all but the lists stands in S' -/
def ButL (S S' : Hp) : Prop := ∀ a o, S a = some o → (∀ vs, o ≠ .lst vs) → S' a = some o
mutual
theorem Rep.butL (e : ButL S S') : ∀ {v : V} {d : D}, Rep G ad S v d → noL d = true → Rep G ad S' v d
  | _, _, .non, _ => .non
  | _, _, .bl b, _ => .bl b
  | _, _, .int i, _ => .int i
  | _, _, .str x, _ => .str x
  | _, _, .ty n, _ => .ty n
  | _, _, .tup h r, c => .tup (h.imp (fun z => e _ _ z fun _ q => by cases q) fun z => z.imp (fun y => y) fun ⟨o, ns, q, y⟩ => ⟨o, ns, q, e _ _ y fun _ q => by cases q⟩) (Reps.butL e r (by simpa [noL] using c))
  | _, _, .lst _ _, c => by simp [noL] at c
  | _, _, .rol _ _, c => by simp [noL] at c
  | _, _, .obj h r, c => .obj (e _ _ h fun _ q => by cases q) (RepF.butL e r (by simpa [noL] using c))
  | _, _, .cls c, _ => .cls c
  | _, _, .tok _, c => by simp [noL] at c
  | _, _, .dic _, c => by simp [noL] at c
  | _, _, .tpx _ _ _ _, c => by simp [noL] at c
theorem Reps.butL (e : ButL S S') : ∀ {vs : List V} {ds : List D}, Reps G ad S vs ds → noLs ds = true → Reps G ad S' vs ds
  | _, _, .nil, _ => .nil
  | _, _, .cons h r, c => by
    simp only [noLs, Bool.and_eq_true] at c
    exact .cons (Rep.butL e h c.1) (Reps.butL e r c.2)
theorem RepF.butL (e : ButL S S') : ∀ {vs : List (Str × V)} {ds : List (Str × D)}, RepF G ad S vs ds → noLf ds = true → RepF G ad S' vs ds
  | _, _, .nil, _ => .nil
  | _, _, .cons h r, c => by
    simp only [noLf, Bool.and_eq_true] at c
    exact .cons (Rep.butL e h c.1) (RepF.butL e r c.2)
end
mutual
theorem Rep.noad {ad ad' : List Addr} : ∀ {v : V} {d : D}, Rep G ad S v d → noL d = true → Rep G ad' S v d
  | _, _, .non, _ => .non
  | _, _, .bl b, _ => .bl b
  | _, _, .int i, _ => .int i
  | _, _, .str x, _ => .str x
  | _, _, .ty n, _ => .ty n
  | _, _, .tup h r, c => .tup h (Reps.noad r (by simpa [noL] using c))
  | _, _, .lst _ _, c => by simp [noL] at c
  | _, _, .rol _ _, c => by simp [noL] at c
  | _, _, .obj h r, c => .obj h (RepF.noad r (by simpa [noL] using c))
  | _, _, .cls c, _ => .cls c
  | _, _, .tok _, c => by simp [noL] at c
  | _, _, .dic _, c => by simp [noL] at c
  | _, _, .tpx _ _ _ _, c => by simp [noL] at c
theorem Reps.noad {ad ad' : List Addr} : ∀ {vs : List V} {ds : List D}, Reps G ad S vs ds → noLs ds = true → Reps G ad' S vs ds
  | _, _, .nil, _ => .nil
  | _, _, .cons h r, c => by
    simp only [noLs, Bool.and_eq_true] at c
    exact .cons (Rep.noad h c.1) (Reps.noad r c.2)
theorem RepF.noad {ad ad' : List Addr} : ∀ {vs : List (Str × V)} {ds : List (Str × D)}, RepF G ad S vs ds → noLf ds = true → RepF G ad' S vs ds
  | _, _, .nil, _ => .nil
  | _, _, .cons h r, c => by
    simp only [noLf, Bool.and_eq_true] at c
    exact .cons (Rep.noad h c.1) (RepF.noad r c.2)
end
end
/-- the slots that hold no list -/
def bareE (env : Env') : Env' := env.map fun o => match o with
  | some d => if noL d = true then some d else none
  | none => none
/-- k = [list(w), list(s)]; w.append(i); s.reverse(); return e -/
def mTail (iw is ik : Nat) (me : ME) : MS := fun env st => match env[iw]?, env[is]? with
  | some (some (.lst ws)), some (some (.lst ss)) => if noLs ws = true ∧ noLs ss = true ∧ ws.length < sizeLine then match me ((bareE env).set ik (some (.lst [.lst ws, .lst ss]))) [] with
      | .ok (.bl true) _ => .rt (.bl true) st
      | _ => .bad
    else .bad
  | _, _ => .bad
section
variable {G : Glb} {X : Cx} {W : WX}
theorem dssL_tail (iw is ik : Nat) {w s k : Str} {e : Expr} {me : ME} {n : Nat} {i : Int} {a1 a2 a3 a4 a5 a6 a7 a8 b1 b2 b3 b4 b5 c1 c2 c3 c4 r1 : Pos} (htb : G.tb = []) (hK : X.K = G.K) (hN : X.N.Nodup) (hml : X.mg "list" = none) (he : DE G X W {} e me)
    (hw : X.N[iw]? = some w := by rfl) (hs : X.N[is]? = some s := by rfl) (hk : X.N[ik]? = some k := by rfl) (hvw : Vis X.env.scope w := by first | exact Or.inl rfl | exact Or.inr (Or.inl rfl) | exact Or.inr (Or.inr rfl)) (hvs : Vis X.env.scope s := by first | exact Or.inl rfl | exact Or.inr (Or.inl rfl) | exact Or.inr (Or.inr rfl))
    (hx : Loc X.env.scope k := by first | exact Or.inl rfl | exact Or.inr rfl) (hf : X.fn k = true ∨ X.env.scope.names.lookup k = some .local := by first | exact .inl rfl | exact .inr rfl) (hg : Gl X "list" := by rfl)
    (hne : iw ≠ ik ∧ is ≠ ik := by decide) (d1 : (w == ("__debug__" : Str)) = false := by decide) (d2 : (w == ("__classdict__" : Str)) = false := by decide) (d3 : (s == ("__debug__" : Str)) = false := by decide) (d4 : (s == ("__classdict__" : Str)) = false := by decide)
    (sw1 : swapsWith (.List [.Call (.Name "list" a1) [.Name w a2] [] a3, .Call (.Name "list" a4) [.Name s a5] [] a6] a7) (some (.Name k a8)) b1.line X.env = pure false := by rfl)
    (st1 : starEach [.Name w a2] X.env = (false, eval (.Name w a2) X.env) :: starEach [] X.env := by rfl) (st2 : starEach [.Name s a5] X.env = (false, eval (.Name s a5) X.env) :: starEach [] X.env := by rfl)
    (pl1 : (backTo a3 (starEach [] X.env)).any (·.1) = false := by rfl) (pl2 : (backTo a6 (starEach [] X.env)).any (·.1) = false := by rfl)
    (st3 : starEach [.Call (.Name "list" a1) [.Name w a2] [] a3, .Call (.Name "list" a4) [.Name s a5] [] a6] X.env = (false, eval (.Call (.Name "list" a1) [.Name w a2] [] a3) X.env) :: starEach [.Call (.Name "list" a4) [.Name s a5] [] a6] X.env := by rfl)
    (st4 : starEach [.Call (.Name "list" a4) [.Name s a5] [] a6] X.env = (false, eval (.Call (.Name "list" a4) [.Name s a5] [] a6) X.env) :: starEach [] X.env := by rfl)
    (hb1 : attributeBase (.Name w b2) "append" X.env (eval (.Name w b2) X.env) = eval (.Name w b2) X.env := by rfl)
    (hfew : ((backTo b5 (starEach [.Constant (.int i) n b4] X.env)).all (fun x => !x.1) && (backToKw b5 (keywordEach [] X.env)).all (fun x => x.1.isSome)
      && decide ([Expr.Constant (.int i) n b4].length + ([] : List Keyword).length + (if ([] : List Keyword).isEmpty then 0 else 1) < 30)) = true := by rfl) (hl1 : (b3.endLine == b5.line) = true := by rfl)
    (st5 : starEach [.Constant (.int i) n b4] X.env = (false, eval (.Constant (.int i) n b4) X.env) :: starEach [] X.env := by rfl) (pl3 : (backTo b5 (starEach [] X.env)).any (·.1) = false := by rfl)
    (sw2 : swapsWith (.Call (.Attribute (.Name w b2) "append" b3) [.Constant (.int i) n b4] [] b5) none c1.line X.env = pure false := by rfl)
    (hb2 : attributeBase (.Name s c2) "reverse" X.env (eval (.Name s c2) X.env) = eval (.Name s c2) X.env := by rfl) (hl2 : (c3.endLine == c4.line) = true := by rfl)
    (sw3 : swapsWith (.Call (.Attribute (.Name s c2) "reverse" c3) [] [] c4) none r1.line X.env = pure false := by rfl) {rp : Pos} :
    DSsL G X W {} [.Assign [.Name k a8] (.List [.Call (.Name "list" a1) [.Name w a2] [] a3, .Call (.Name "list" a4) [.Name s a5] [] a6] a7) b1, .Expr (.Call (.Attribute (.Name w b2) "append" b3) [.Constant (.int i) n b4] [] b5) c1,
      .Expr (.Call (.Attribute (.Name s c2) "reverse" c3) [] [] c4) r1, .Return (some e) rp] (mTail iw is ik me) := by
  obtain ⟨te, pe, we⟩ := he.ex
  have P1 := ps_set hN hk hx (pe_lst (pa_cons (pe_callTy call_list_of hg hml PyProof.Rows.boot_list (pa_cons (pe_var hw hvw d1 d2 (pos := a2)) pa_nil st1) (by decide) (by decide) st1 pl1) (pa_cons (pe_callTy call_list_of hg hml PyProof.Rows.boot_list (pa_cons (pe_var hs hvs d3 d4 (pos := a5)) pa_nil st2) (by decide) (by decide) st2 pl2) pa_nil st4) st3)) sw1 hf
  have P2 := ps_expr (pe_bm PySem.F.plainAttrs_list PySem.F.slot_list_append PySem.F.type_list_append mt_append (pe_var hw hvw d1 d2) (pa_cons (pe_int (i := i) (j := n) (pos := b4)) pa_nil st5) hb1 hfew hl1 st5 pl3) sw2
  have P3 := ps_expr (pe_bm0 PySem.F.plainAttrs_list PySem.F.slot_list_reverse PySem.F.type_list_reverse mt_reverse (pe_var hs hvs d3 d4) hb2 hl2) sw3
  refine ⟨_, pss_cons P1 (pss_cons P2 (pss_cons P3 (pss_one (ps_ret pe)))), fun b S env st σ H D hD I h => ?_⟩
  unfold mTail at h
  split at h
  rotate_left
  · exact h.elim
  rename_i ws ss ew es
  split at h
  rotate_left
  · exact h.elim
  rename_i hc
  obtain ⟨nw, ns, hz⟩ := hc
  split at h
  rotate_left
  · exact h.elim
  rename_i st5 eE
  obtain ⟨v1, σw, rw_⟩ := I.slot iw _ ew rfl
  obtain ⟨v2, σs, rs_⟩ := I.slot is _ es rfl
  cases rw_ with
  | @lst aw vws _ hSw rw_ =>
  cases rs_ with
  | @lst as_ vss _ hSs rs_ =>
  have hHw := I.sub _ _ hSw
  have hHs := I.sub _ _ hSs
  refine ⟨.ref aw, σw, aw, vws, rfl, .inl (.inl (.inl hHw)), fun l1 n1 => ?_⟩
  have l1w : aw ≠ l1 := ne_of_none hHw n1
  have l1s : as_ ≠ l1 := ne_of_none hHs n1
  refine ⟨.ref as_, σs, as_, vss, rfl, .inl (.inl (.inl (by rw [upd_ne l1s]; exact hHs))), fun l2 n2 => ?_⟩
  have l21 : l2 ≠ l1 := fun z => by rw [z, upd_same] at n2; cases n2
  have h2 : H l2 = none := by rw [upd_ne l21] at n2; exact n2
  have l2w : aw ≠ l2 := ne_of_none hHw h2
  have l2s : as_ ≠ l2 := ne_of_none hHs h2
  refine ⟨by show 2 ≤ sizeLine; decide, fun l3 n3 => ?_⟩
  have l32 : l3 ≠ l2 := fun z => by rw [z, upd_same] at n3; cases n3
  have l31 : l3 ≠ l1 := fun z => by rw [z, upd_ne (Ne.symm l21), upd_same] at n3; cases n3
  have h3 : H l3 = none := by rw [upd_ne l32, upd_ne l31] at n3; exact n3
  have l3w : aw ≠ l3 := ne_of_none hHw h3
  have l3s : as_ ≠ l3 := ne_of_none hHs h3
  have hset : ∀ j : Nat, j ≠ ik → (σ.set ik (some (.ref l3)))[j]? = σ[j]? := fun j hj => List.getElem?_set_ne (Ne.symm hj)
  let H3 : Hp := upd (upd (upd H l1 (.lst vws)) l2 (.lst vss)) l3 (.lst [.ref l1, .ref l2])
  have H3e : ∀ c, c ≠ l1 → c ≠ l2 → c ≠ l3 → H3 c = H c := fun c q1 q2 q3 => by
    show upd (upd (upd H l1 _) l2 _) l3 _ c = _
    rw [upd_ne q3, upd_ne q2, upd_ne q1]
  have H3w : H3 aw = some (.lst vws) := (H3e _ l1w l2w l3w).trans hHw
  have H3s : H3 as_ = some (.lst vss) := (H3e _ l1s l2s l3s).trans hHs
  have H31 : H3 l1 = some (.lst vws) := by
    show upd (upd (upd H l1 _) l2 _) l3 _ l1 = _
    rw [upd_ne (Ne.symm l31), upd_ne (Ne.symm l21), upd_same]
  have H32 : H3 l2 = some (.lst vss) := by
    show upd (upd (upd H l1 _) l2 _) l3 _ l2 = _
    rw [upd_ne (Ne.symm l32), upd_same]
  have H33 : H3 l3 = some (.lst [.ref l1, .ref l2]) := upd_same
  show tSeq _ _ D (σ.set ik (some (.ref l3))) H3
  refine ⟨.ref aw, by rw [hset _ hne.1]; exact σw, .inl ⟨rfl, vws, .inl (.inl H3w)⟩, aw, vws, .int i, rfl, rfl, H3w, by rw [rw_.len]; exact hz, ?_⟩
  let H4 : Hp := upd H3 aw (.lst (vws ++ [.int i]))
  obtain ⟨xs, H4s⟩ : ∃ xs, H4 as_ = some (.lst xs) := by
    by_cases z : as_ = aw
    · subst z; exact ⟨_, upd_same⟩
    · exact ⟨_, (upd_ne z).trans H3s⟩
  show tSeq _ _ D (σ.set ik (some (.ref l3))) H4
  refine ⟨.ref as_, by rw [hset _ hne.2]; exact σs, .inl ⟨rfl, xs, .inl (.inl H4s)⟩, as_, xs, rfl, rfl, H4s, ?_⟩
  let H5 : Hp := upd H4 as_ (.lst xs.reverse)
  have H5e : ∀ c, c ≠ aw → c ≠ as_ → H5 c = H3 c := fun c q1 q2 => (upd_ne q2).trans (upd_ne q1)
  let S5 : Hp := fun c => if c = l1 then some (.lst vws) else if c = l2 then some (.lst vss) else if c = l3 then some (.lst [.ref l1, .ref l2]) else match S c with
    | some (.lst _) => none
    | o => o
  have S51 : S5 l1 = some (.lst vws) := if_pos rfl
  have S52 : S5 l2 = some (.lst vss) := (if_neg l21).trans (if_pos rfl)
  have S53 : S5 l3 = some (.lst [.ref l1, .ref l2]) := (if_neg l31).trans ((if_neg l32).trans (if_pos rfl))
  have S5e : ∀ c, c ≠ l1 → c ≠ l2 → c ≠ l3 → S5 c = match S c with
    | some (.lst _) => none
    | o => o := fun c q1 q2 q3 => (if_neg q1).trans ((if_neg q2).trans (if_neg q3))
  have but : ButL S S5 := fun a o ha no => by
    have hh := I.sub _ _ ha
    rw [S5e a (ne_of_none hh n1) (ne_of_none hh h2) (ne_of_none hh h3), ha]
    cases o <;> first | rfl | exact absurd rfl (no _)
  have sub5 : Same S5 H5 := fun c o hc => by
    by_cases q1 : c = l1
    · subst q1
      rw [S51] at hc
      rw [H5e _ (Ne.symm l1w) (Ne.symm l1s), H31]; exact hc
    by_cases q2 : c = l2
    · subst q2
      rw [S52] at hc
      rw [H5e _ (Ne.symm l2w) (Ne.symm l2s), H32]; exact hc
    by_cases q3 : c = l3
    · subst q3
      rw [S53] at hc
      rw [H5e _ (Ne.symm l3w) (Ne.symm l3s), H33]; exact hc
    rw [S5e c q1 q2 q3] at hc
    have hcS : S c = some o ∧ ∀ vs, o ≠ .lst vs := by
      split at hc
      · cases hc
      · rename_i hno
        exact ⟨hc, fun vs z => hno vs (by rw [hc, z])⟩
    have cw : c ≠ aw := fun z => by rw [z, hSw] at hcS; exact hcS.2 _ (Option.some.inj hcS.1).symm
    have cs : c ≠ as_ := fun z => by rw [z, hSs] at hcS; exact hcS.2 _ (Option.some.inj hcS.1).symm
    rw [H5e c cw cs, H3e c q1 q2 q3]
    exact I.sub _ _ hcS.1
  have I5 : DI G ⟨S5, H5, []⟩ {} S5 ((bareE env).set ik (some (.lst [.lst ws, .lst ss]))) [] (σ.set ik (some (.ref l3))) H5 := by
    refine ⟨by rw [List.length_set, List.length_set]; unfold bareE; rw [List.length_map]; exact I.len, sub5, .refl _, fun _ _ q => .inl q, fun _ _ q _ => .refl q, fun j d hj _ => ?_, fun j d hj => (nomatch hj), fun j j' a hj => (nomatch hj), ⟨rfl, .nil, fun n b hb => by simp at hb, fun p hp => by rw [htb] at hp; cases hp⟩, fun j d hj => (nomatch hj), fun j hj => (nomatch hj)⟩
    by_cases hjk : j = ik
    · subst hjk
      have lt : j < (bareE env).length := by
        by_cases z : j < (bareE env).length
        · exact z
        · rw [List.getElem?_eq_none (by simpa using z)] at hj; cases hj
      rw [List.getElem?_set_self lt] at hj
      cases hj
      have lt2 : j < σ.length := by rw [I.len]; unfold bareE at lt; rwa [List.length_map] at lt
      exact ⟨.ref l3, List.getElem?_set_self lt2, .lst S53 (.cons (.lst S51 (Reps.noad (Reps.butL but rw_ nw) nw)) (.cons (.lst S52 (Reps.noad (Reps.butL but rs_ ns) ns)) .nil))⟩
    · rw [List.getElem?_set_ne (Ne.symm hjk)] at hj
      unfold bareE at hj
      rw [List.getElem?_map] at hj
      cases e1 : env[j]? with
      | none => rw [e1] at hj; cases hj
      | some o =>
        rw [e1] at hj
        cases o with
        | none => cases hj
        | some d0 =>
          have hj : (if noL d0 = true then some d0 else none) = some d := by simpa using hj
          split at hj
          · rename_i nd
            have e2 := Option.some.inj hj
            subst e2
            obtain ⟨v, q1, q2⟩ := I.slot j d0 e1 rfl
            exact ⟨v, by rw [hset _ hjk]; exact q1, Rep.noad (Rep.butL but q2 nd) nd⟩
          · cases hj
  show te (σ.set ik (some (.ref l3))) H5 D.rt
  refine we ⟨S5, H5, []⟩ S5 _ [] _ H5 _ I5 ?_
  rw [eE]
  intro v S' H' _ _ _ r
  cases r
  exact hD H'
end
/-- a, b, c = x, y, z, plain local names -/
def mPar3 (i j l : Nat) (ma : MA) : MS := fun env st => match ma env st with
  | .ok [d, e, f] st1 => .nx (((env.set i (some d)).set j (some e)).set l (some f)) st1
  | .err x st1 => .er x env st1
  | _ => .bad
section
variable {G : Glb} {X : Cx} {W : WX} {Ob : Ow} {OE : Ow → Prop} {O : Ow} {pos : Pos}
theorem ds_par3 (i j l : Nat) {x y z : Str} {a b c : Expr} {ma : MA} {px py pz pt : Pos} {kt k2 pt2} (hc : X.calm = true) (hN : X.N.Nodup) (ha : DA G X W O [a, b, c] ma) (hO : OE O := by first | trivial | rfl) (hi : X.N[i]? = some x := by rfl) (hj : X.N[j]? = some y := by rfl) (hl : X.N[l]? = some z := by rfl)
    (hij : i ≠ j ∧ i ≠ l ∧ j ≠ l := by decide) (hoi : O.has i = false := by rfl) (hoj : O.has j = false := by rfl) (hol : O.has l = false := by rfl)
    (hx : X.env.scope.names.lookup x = some .local := by rfl) (hy : X.env.scope.names.lookup y = some .local := by rfl) (hz : X.env.scope.names.lookup z = some .local := by rfl)
    (hw : swappedStores [.Tuple [.Name x px, .Name y py, .Name z pz] kt pt] (.Tuple [a, b, c] k2 pt2) X.env = pure (some [x, y, z]) := by rfl)
    (hs : swapsWithSole [.Tuple [.Name x px, .Name y py, .Name z pz] kt pt] (.Tuple [a, b, c] k2 pt2) pos.line X.env = pure false := by rfl) :
    DS G X W Ob OE O (.Assign [.Tuple [.Name x px, .Name y py, .Name z pz] kt pt] (.Tuple [a, b, c] k2 pt2) pos) O (mPar3 i j l ma) := by
  obtain ⟨t, p, w⟩ := ha.ex
  refine ⟨_, ps_par3 hc hN hi hj hl hij.1 hij.2.1 hij.2.2 hx hy hz p hw hs, fun b S env st σ H D I h => w b S env st σ H _ I ?_⟩
  unfold mPar3 at h
  cases e : ma env st with
  | ok ds st1 =>
    rw [e] at h
    intro vs S' H' x su so r
    match ds, r, h with
    | [d1, d2, d3], .cons r1 (.cons r2 (.cons r3 .nil)), h =>
      exact ⟨_, _, _, rfl, h _ _ _ x.same (DI.set (DI.set (DI.set (I.ext x su so) r1 hoi) r2 hoj) r3 hol)⟩
    | [], _, h => exact h.elim
    | [_], _, h => exact h.elim
    | [_, _], _, h => exact h.elim
    | _ :: _ :: _ :: _ :: _, _, h => exact h.elim
  | err x st1 =>
    rw [e] at h
    intro cls dd S' H' x su so r
    exact h cls dd O S' σ H' hO x.same (I.ext x su so) r
  | bad => rw [e] at h; exact h.elim
end
end DL

/-! DL: a def beside the law makes lambdas, its table is the one that is written on; it runs where no repr is under way. -/
namespace DL
open PySem PySem.Spec PyProof.Rows L2 LamX
/-- what a def promises where no repr is under way -/
structure FnG (P : Program) (w : World) (K : PySem.W.Frag) (mg : Str → Option Value) (base : Heap) (CX : CXT) (k : Nat) (f : Addr) (fd : FuncData) (ps : List Str) (sp : Sp) : Prop where
  len : ∀ vs H Q E, sp vs H Q E → vs.length = ps.length
  run : ∀ (A : Around) (outer : List Env) (s : Shared) (H : Hp) (args : Args) (us : List Value) (vs : List V) (Q : VK) (E : XK), A.guards = some [] → Room k A → Env0 P w K mg base A outer s H → BindsTo s fd args (ps.zip us) → Vals vs us → sp vs H Q E →
    codeAny (model P w) A (.call (.ref f) args) (CR CX outer P w H s Q E) s
section
variable {P : Program} {w : World} {K : PySem.W.Frag} {mg : Str → Option Value} {base : Heap}
theorem fnDG {G : Glb} {x qual : Str} {st : Stmt} {f c : Addr} {fd : FuncData} {N ps : List Str} {k : Nat} {m : MS} {O' : Ow} (F : Fun K x qual st f fd) (S : FnScope N ps (defScope st)) (hK : K = G.K) (hcd : fd.code = .ref c)
    (hbody : ∀ (A : Around) (outer : List Env) (s : Shared) (H : Hp) (E : XK), A.guards = some [] → XC k G (cxOf (L2.CX P w) P w K mg base N qual (defScope st) f (.ref c) A outer s H E) (fun cls d _ H' => E cls d H') → XT (cxOf (L2.CX P w) P w K mg base N qual (defScope st) f (.ref c) A outer s H E) →
      DSs G (cxOf (L2.CX P w) P w K mg base N qual (defScope st) f (.ref c) A outer s H E) (fun cls d _ H' => E cls d H') {} (fun _ => True) {} (defBody st) O' m) :
    FnG P w K mg base (L2.CX P w) (k + 1) f fd ps (spD G ps.length (fnM N.length m)) := by
  refine ⟨fun vs H Q E h => ?_, fun A outer s H args us vs Q E hga hr e0 hbi rv h => ?_⟩
  · obtain ⟨_, _, _, _, hl, _⟩ := h
    exact hl
  · obtain ⟨oc, od, kV, doc, pm, an, cdv, ct, osl, efd, lk, hcg⟩ := F.ex
    subst efd
    obtain rfl : cdv = .ref c := hcd
    obtain ⟨b, ds, st0, rfl, hl, hs, so, r, h⟩ := h
    refine run_ofS (N := N) lk hcg S hr e0 hbi rv hl fun hr' => ?_
    have xc : XC k G (cxOf (L2.CX P w) P w K mg base N qual (defScope st) f (.ref c) A outer s b.H E) (fun cls d _ H' => E cls d H') :=
      { tk := takes_of rfl rfl rfl rfl, po := passes_of rfl, calm := rfl, hr := hr', K := hK }
    obtain ⟨t, p, wt⟩ := (hbody A outer s b.H E hga xc ⟨rfl, rfl⟩).ex
    refine ⟨t, p, ?_⟩
    have I := DI.start (n := N.length - vs.length) hs so r
    refine wt b b.S _ st0 _ b.H _ I ?_
    have hn : N.length - vs.length = N.length - ds.length := by rw [r.len]
    rw [hn]
    unfold fnM at h
    cases e : m (ds.map some ++ List.replicate (N.length - ds.length) none) st0 with
    | nx env st1 =>
      rw [e] at h
      intro S1 σ1 H1 _ I1
      exact h .non S1 H1 I1.fin I1.sub I1.sto .non
    | rt d st1 =>
      rw [e] at h
      intro v S1 H1 x1 su1 so1 r1
      exact h v S1 H1 x1 su1 so1 r1
    | bk env st1 => rw [e] at h; exact h.elim
    | ct env st1 => rw [e] at h; exact h.elim
    | er x env st1 =>
      rw [e] at h
      intro cls dd O' S1 σ1 H1 _ _ I1 rx
      exact h cls dd S1 H1 I1.fin I1.sub I1.sto rx
    | bad => rw [e] at h; exact h.elim
end
section
variable {X : Cx} {CX : CXT} {k : Nat} {f : Addr} {fd : FuncData} {ps : List Str} {sp : Sp} {E : L2.St → XK} {x : Str} {e : Expr} {es : List Expr} {t : TA} {p pos : Pos}
theorem run_fnG {pins : List (Addr × Obj)} {σ : L2.St} {H : Hp} {s : Shared} {Q : VK} {us : List Value} {vs : List V} (F : FnG X.prog X.w X.K X.mg X.base CX k f fd ps sp) (hga : X.A.guards = some []) (hr : Room k X.A) (hb : Binds X.K fd ps []) (hx : PassesAt CX X σ (E σ))
    (I : Inv X pins σ H s) (r : Vals vs us) (h : sp vs H Q (E σ)) : wpAny (model X.prog X.w) X.A (call (.ref f) us) (EP X pins σ Q) X.xe s := by
  have hl : us.length = ps.length := by rw [← r.length]; exact F.len _ _ _ _ h
  have b := hb s us I.kIn (by rw [List.append_nil]; exact hl)
  rw [List.append_nil] at b
  refine wpAny_call (codeAny_mono (F.run X.A X.stack s H ⟨us, []⟩ us vs Q (E σ) hga hr I.env0 b r h) fun r s' hq => ?_)
  cases r with
  | error e => exact hx pins H s e s' I hq
  | ok fl =>
    cases fl with
    | ret u => exact I.after hq
    | next => exact False.elim hq
    | brk => exact False.elim hq
    | cont => exact False.elim hq
theorem pe_callG (F : FnG X.prog X.w X.K X.mg X.base CX k f fd ps sp) (hga : X.A.guards = some []) (hr : Room k X.A) (hg : Gl X x) (hm : X.mg x = some (.ref f)) (hk : PySem.W.keepIn X.K (.ref f) = true) (hb : Binds X.K fd ps []) (hx : ∀ σ, PassesAt CX X σ (E σ))
    (ha : PA X (e :: es) t) (hdb : (x == ("__debug__" : Str)) = false := by decide) (he : starEach (e :: es) X.env = (false, eval e X.env) :: starEach es X.env := by rfl) (hpl : (backTo pos (starEach es X.env)).any (·.1) = false := by rfl) :
    PE X (.Call (.Name x p) (e :: es) [] pos) (tCallS sp E t) := by
  refine ⟨fun pins s σ H Q I h => ?_⟩
  refine wpAny_Call_Name_kw (ld_glob I hg hm ?_ hdb)
  refine PySem.W.callWith_K (h₀ := X.base) I.ok.mod.kin hk (thn (ha.run pos pins s σ H _ I h) fun us s1 ⟨vs, H1, I1, r, q⟩ => ⟨I1.kIn, ?_⟩) he hpl
  exact run_fnG F hga hr hb (hx σ) I1 r q
end
section
variable {G : Glb} {X : Cx} {W : WX} {O : Ow} {k j n : Nat} {x : Str} {f : Addr} {fd : FuncData} {ps : List Str} {m : List D → M D} {e : Expr} {es : List Expr} {ma : MA} {p pos : Pos}
theorem de_callNG (c : XC k G X W) (F : FnG X.prog X.w X.K X.mg X.base (L2.CX X.prog X.w) j f fd ps (spD G n m)) (hga : X.A.guards = some []) (hm : X.mg x = some (.ref f)) (hk : PySem.W.keepIn X.K (.ref f) = true) (hb : Binds X.K fd ps []) (ha : DA G X W O (e :: es) ma)
    (hjk : j ≤ k := by decide) (hln : Len ma n) (hg : Gl X x := by rfl) (hdb : (x == ("__debug__" : Str)) = false := by decide) (he : starEach (e :: es) X.env = (false, eval e X.env) :: starEach es X.env := by rfl) (hpl : (backTo pos (starEach es X.env)).any (·.1) = false := by rfl) :
    DE G X W O (.Call (.Name x p) (e :: es) [] pos) (mCall m ma) := by
  obtain ⟨t, pa, w⟩ := ha.ex
  refine ⟨_, pe_callG F hga (c.hr.mono hjk) hg hm hk hb (fun σ => passAt c.tk σ) pa hdb he hpl, fun b S env st σ H Q I h => w b S env st σ H _ I ?_⟩
  have h' := wpR_bind h
  cases ea : ma env st with
  | ok ds st1 =>
    rw [ea] at h'
    intro vs S1 H1 x1 su1 so1 r1
    exact ⟨⟨S1, H1, b.ad⟩, ds, st1, rfl, by rw [r1.len]; exact hln env st ds st1 ea, su1, so1, r1, wpR_imp h' (fun _ _ z => z.from_ x1 so1) fun _ _ z => z.from_ x1 so1⟩
  | err x st1 => rw [ea] at h'; exact h'
  | bad => rw [ea] at h'; exact h'.elim
end
/-- isinstance(x, a built-in type), where x may be an object of an own class that is none of these types -/
def dIsO (okI : Nat → Bool) (noT : String → Bool) : List D → Option D := fun ds => match ds with
  | [.obj c _, .ty n] => if (okI c && noT n) = true then some (.bl false) else none
  | ds => dIsi ds
section
variable {X : Cx} {G : Glb}
theorem cd_isO {okI : Nat → Bool} {noT : String → Bool} (hK : X.K = G.K) (T : ∀ c, okI c = true → InsT G c) (hn : ∀ c n, okI c = true → noT n = true → PySem.W.kitOne G.K (.ref (G.cl c)) (.type n) = some false) :
    CallD G (fun xs H Q => rIsi X.K xs H Q ∨ (rIsiT X.K xs H Q ∨ rIsiK X.K xs H Q)) (dIsO okI noT) := ⟨fun ad S H st xs ds d Q su so r e q => by
  unfold dIsO at e
  split at e
  · rename_i c fs n
    split at e
    · rename_i hc
      cases e
      rw [Bool.and_eq_true] at hc
      obtain ⟨v, w, rfl, r1, r2⟩ := reps2 r
      cases r2
      have et : tagD okI (.obj c fs) = some (.cl c) := by show (if okI c = true then _ else _) = _; rw [if_pos hc.1]
      exact .inl ⟨v, _, _, _, false, rfl, .ty n, hK ▸ tag_ok T su r1 et, hK ▸ hn c n hc.1 hc.2, Post.here su so (.bl _) q⟩
    · cases e
  · exact (cd_isi hK).go ad S H st xs ds d Q su so r e q⟩
end
/-- the walk of a law where the def dn makes the lambdas -/
theorem walk_ofG2 {l : PySem.W.OpenLaw} {n : Nat} {q : Program} {loose : List Str} {XP : (Str → Option Value) → Heap → Prop} {YP : World → Heap → Prop} {d : DefRec} {K : Params → PySem.W.Frag} (dn : Str)
    (hn : l.most = some n) (hn3 : n ≤ 63) (hdf : d.params.defaults = []) (hrec : ((recsOf q).any fun e => e.name == dn) = true) (hY : ∀ (w : World) (h : Heap), YP w h → (K w.params).In h)
    (F : ∀ (w : World) (mg : Str → Option Value) (fa : Addr) (h : Heap), (K w.params).In h → h.Ns mainGlobals mg → mg d.name = some (.ref fa) →
      ∃ (ga c T : Addr) (o : Obj) (fd : FuncData) (e : Value) (dd : Option Addr) (vs : Array Value) (sl : Array (Option Value)), mg dn = some (.ref ga) ∧ (K w.params).lookup ga = some o ∧ o.data = .func fd ∧ fd.code = .ref c ∧ (K w.params).lookup c = some ⟨e, dd, .fields vs, sl⟩ ∧ vs[11]? = some (.ref T) ∧
        (K w.params).lookup T = none ∧ PySem.W.codeHdIn (K w.params) c T = true ∧
        ∀ base : Heap, (K w.params).In base → base.Ns mainGlobals mg → TabB base mg c T → RunG l.prog w (K w.params) mg base fa T) :
    PySem.W.WalkO q loose XP YP l.row.toRowW d [] (fun f vs => PySem.call f vs) := by
  refine Att.attach_callB hn hdf fun w s₀ s₁ mg mb fa o pm cd doc a vs ns G Y ho hd hcd hmg hobj hints hlen hbits hg => ?_
  have kin := hY w _ Y
  obtain ⟨ga, c, T, o1, fd1, e, dd, vs1, sl, k0, k1, k2, k3, k4, k5, k6, k7, hF⟩ := F w mg fa _ kin G.T.g hmg
  have tab : s₁.heap.get? T = some { cls := .none, data := .fields #[] } := by
    obtain ⟨dL, hm, hn1⟩ := List.any_eq_true.mp hrec
    obtain ⟨a', o', fd', c', P', h1, h2, h3, h4, h5, ⟨⟨oc, vc, e1, _, e3, e4⟩, hP⟩⟩ := G.T.tab dL hm
    rw [beq_iff_eq.mp hn1, k0] at h1
    cases h1
    have g1 := kin _ _ k1
    rw [g1] at h2
    cases h2
    rw [k2] at h3
    cases h3
    rw [k3] at h4
    cases h4
    have g2 := kin _ _ k4
    rw [g2] at e1
    cases e1
    cases e3
    rw [k5] at e4
    cases e4
    exact hP
  have bm : s₁.heap.BuiltinsAt mg T := by
    obtain ⟨bm, ob, b1, b2, b3, b4, b5, b6⟩ := G.T.bmain
    refine ⟨bm, ob, b1, b2, fun q => ?_, fun q => ?_, b3, b4, b5, b6⟩
    · obtain ⟨o, es, ep, e, hd, _⟩ := G.T.g
      rw [q, e] at b3
      cases b3
      rw [hd] at b6
      cases b6
    · rw [q, tab] at b3
      cases b3
      cases b6
  exact runG_end kin G.T.g G.T.b G.T.builtins G.T.nolimit hg tab k6 (PySem.W.codeHd_of_K kin k7) bm hobj hints (Nat.le_trans hlen hn3) hF
end DL

/-! DL: a list repeated that is changed afterwards; a fresh list that is kept as it is. -/
namespace DL
open PySem PySem.Spec PyProof.Rows L2
def rep? (x y : D) : M (List D) := fun st => match x, y with
  | .lst xs, .int k => if 0 ≤ k ∧ k ≤ 1000 ∧ xs.length ≤ 1 then .ok (repD k.toNat xs) st else .bad
  | _, _ => .bad
def mRepF (ma mb : ME) : MA := fun env st => (ma env st).bind fun x st1 => (mb env st1).bind fun y => rep? x y
def mFrz (m : MA) : ME := fun env st => (m env st).bind fun ds st1 => .ok (.lst ds) st1
section
variable {G : Glb} {X : Cx} {W : WX} {O : Ow} {a b e : Expr} {ma mb : ME} {m : MA} {pos : Pos}
theorem df_rep (ha : DE G X W O a ma) (hb : DE G X W O b mb) : DF G X W O (.BinOp a .Mult b pos) (mRepF ma mb) := by
  obtain ⟨ta, tb, pa, pb, w⟩ := two_parts (k := fun x y => rep? x y) ha hb
  refine ⟨_, pe_op op_rep pa pb, fun b S env st σ H Q I h => w b S env st σ H (fun ds st' => PostF G b.ad S H ds st' Q) (fun x y H2 => rRep x y H2 Q) I h fun x y dx dy S' H' st' e I' rx ry hk => ?_⟩
  unfold rep? at hk
  split at hk
  · split at hk
    · rename_i hl
      cases rx with
      | lst h1 r1 =>
        cases ry
        have hk : PostF G b.ad S H _ st' Q := hk
        exact ⟨_, _, _, rfl, rfl, I'.sub _ _ h1, Int.le_trans (by decide) hl.1, Int.lt_of_le_of_lt hl.2.1 (by decide), by
          rw [r1.len]
          exact Nat.le_trans (Nat.mul_le_mul hl.2.2 (Int.toNat_le.mpr (show _ ≤ ((1000 : Nat) : Int) from hl.2.1))) (by decide), fun p hp => hk p _ S' H' e I'.sub I'.sto hp (r1.rep _)⟩
    · exact hk.elim
  · exact hk.elim
theorem de_frz (h : DF G X W O e m) : DE G X W O e (mFrz m) := by
  obtain ⟨t, p, w⟩ := h.ex
  refine ⟨t, p, fun b S env st σ H Q I hw => w b S env st σ H Q I (wpR_imp (wpR_bind hw) (fun ds st1 h1 => ?_) fun _ _ z => z)⟩
  intro l vs S1 H1 x1 su1 so1 hl r1
  have h1 : Post G b.ad S H (.lst ds) st1 Q := h1
  exact Post.lst su1 so1 hl r1 (Post.from_ x1 so1 h1)
end
end DL

/-! DL: y = x.pop() of an owned list. -/
namespace DL
open PySem PySem.Spec PyProof.Rows L2
def popVR (i j : Nat) (env : Env') (st : List D) : Option D → Out
  | some (.lst ds) => match ds.getLast? with
    | some d => .nx ((env.set i (some (.lst ds.dropLast))).set j (some d)) st
    | none => .bad
  | _ => .bad
def mPopV (i j : Nat) : MS := fun env st => popVR i j env st (match env[i]? with | some (some d) => some d | _ => none)
section
variable {G : Glb} {X : Cx} {W : WX} {O Ob : Ow} {OE : Ow → Prop} {pos : Pos}
theorem ds_popV (i j : Nat) {x y : Str} {p1 p2 cp p' : Pos} (hN : X.N.Nodup) (hi : X.N[i]? = some x := by rfl) (hj : X.N[j]? = some y := by rfl) (ho : O.has j = false := by rfl) (hm : i ∈ O.own := by first | decide | exact of_decide_eq_true rfl) (hxi : O.exi ≠ some i := by first | decide | exact of_decide_eq_true rfl) (hsf : O.slf ≠ some i := by first | decide | exact of_decide_eq_true rfl)
    (hv : Vis X.env.scope x := by first | exact Or.inl rfl | exact Or.inr (Or.inl rfl) | exact Or.inr (Or.inr rfl))
    (hy : Loc X.env.scope y := by first | exact Or.inl rfl | exact Or.inr rfl)
    (hd : (x == ("__debug__" : Str)) = false := by decide) (hcd : (x == ("__classdict__" : Str)) = false := by decide)
    (hbase : attributeBase (.Name x p1) "pop" X.env (eval (.Name x p1) X.env) = eval (.Name x p1) X.env := by rfl) (hline : (p2.endLine == cp.line) = true := by rfl)
    (hs : swapsWith (.Call (.Attribute (.Name x p1) "pop" p2) [] [] cp) (some (.Name y p')) pos.line X.env = pure false := by rfl)
    (hf : X.fn y = true ∨ X.env.scope.names.lookup y = some .local := by first | exact .inl rfl | exact .inr rfl) : DS G X W Ob OE O (.Assign [.Name y p'] (.Call (.Attribute (.Name x p1) "pop" p2) [] [] cp) pos) O (mPopV i j) := by
  refine ⟨_, ps_set hN hj hy (pe_bm0 PySem.F.plainAttrs_list PySem.F.slot_list_pop PySem.F.type_list_pop mt_pop (pe_var hi hv hd hcd) hbase hline) hs hf, fun b S env st σ H D I h => ?_⟩
  unfold mPopV at h
  cases e0 : env[i]? with
  | none => rw [e0] at h; exact h.elim
  | some o0 => cases o0 with
    | none => rw [e0] at h; exact h.elim
    | some d0 =>
      obtain ⟨a, ws, ds, p1, p2, p3, p4, p5, p6, p7⟩ := I.own i _ hm e0
      subst p1
      have e1 := e0
      rw [e0] at h
      have h : PostS G b Ob OE W O D S (match ds.getLast? with
        | some d => Out.nx ((env.set i (some (.lst ds.dropLast))).set j (some d)) st
        | none => .bad) := h
      cases g : ds.getLast? with
      | none => rw [g] at h; exact h.elim
      | some d =>
        rw [g] at h
        refine ⟨_, p2, Or.inl ⟨rfl, _, Or.inl (Or.inl p3)⟩, ?_⟩
        rw [List.getLast?_eq_getElem?] at g
        obtain ⟨v, hv', rv⟩ := p7.get g
        have hl := p7.len
        have hv2 : ws[ws.length - 1]? = some v := by rw [hl]; exact hv'
        refine ⟨a, ws, v, rfl, rfl, p3, hv2, ?_⟩
        exact h S _ _ (.refl _) ((I.own_upd hm hxi hsf e1 p2 p7.dropLast).set rv ho)
end
theorem ev12 (i j : Nat) (env : Env') (st : List D) : mPopV i j env st = popVR i j env st (get? env i) := by
  unfold mPopV
  rw [← envGet]
  all_goals
    cases env[i]? with
    | none => rfl
    | some o => cases o <;> rfl
theorem popVR_ok (i j : Nat) (env : Env') (st : List D) (ds : List D) (d : D) : popVR i j env st (some (.lst (ds ++ [d]))) = .nx ((env.set i (some (.lst ds))).set j (some d)) st := by
  simp only [popVR, List.getLast?_concat, List.dropLast_concat]
end DL

/-! DL: x.insert(k, e) of an owned list. -/
namespace DL
open PySem PySem.Spec PyProof.Rows L2
def InsOk (n : Nat) (k : Int) : Prop := n < sizeLine ∧ 0 ≤ k ∧ k < 2 ^ 63
noncomputable instance (n : Nat) (k : Int) : Decidable (InsOk n k) := Classical.propDecidable _
noncomputable def insR (i : Nat) (k : Int) (ds : List D) (env : Env') : Res D → Out
  | .ok d st1 => if InsOk ds.length k then .nx (env.set i (some (.lst (ds.take k.toNat ++ [d] ++ ds.drop k.toNat)))) st1 else .bad
  | .err x st1 => .er x env st1
  | .bad => .bad
noncomputable def insKR (i : Nat) (me : ME) (ds : List D) (env : Env') : Res D → Out
  | .ok (.int k) st1 => insR i k ds env (me env st1)
  | .err x st1 => .er x env st1
  | _ => .bad
noncomputable def mIns (i : Nat) (mk me : ME) : MS := fun env st => match env[i]? with
  | some (some (.lst ds)) => insKR i me ds env (mk env st)
  | _ => .bad
theorem Reps.takeI {G : Glb} {ad : List Addr} {S : Hp} : ∀ (k : Nat) {vs : List V} {ds : List D}, Reps G ad S vs ds → Reps G ad S (vs.take k) (ds.take k)
  | 0, _, _, _ => by simp only [List.take_zero]; exact .nil
  | k + 1, _, _, .nil => .nil
  | k + 1, _, _, .cons h r => .cons h (Reps.takeI k r)
theorem Reps.dropI {G : Glb} {ad : List Addr} {S : Hp} : ∀ (k : Nat) {vs : List V} {ds : List D}, Reps G ad S vs ds → Reps G ad S (vs.drop k) (ds.drop k)
  | 0, _, _, h => h
  | k + 1, _, _, .nil => .nil
  | k + 1, _, _, .cons h r => Reps.dropI k r
theorem Reps.appI {G : Glb} {ad : List Addr} {S : Hp} {vs' : List V} {ds' : List D} (h' : Reps G ad S vs' ds') : ∀ {vs : List V} {ds : List D}, Reps G ad S vs ds → Reps G ad S (vs ++ vs') (ds ++ ds')
  | _, _, .nil => h'
  | _, _, .cons h r => .cons h (Reps.appI h' r)
section
variable {G : Glb} {X : Cx} {W : WX} {O Ob : Ow} {OE : Ow → Prop} {pos : Pos} {ek e : Expr} {mk me : ME}
theorem ds_ins (i : Nat) {x : Str} {p1 p2 cp : Pos} (hk : DE G X W O ek mk) (he : DE G X W O e me) (hO : OE O := by first | trivial | rfl) (hi : X.N[i]? = some x := by rfl) (hm : i ∈ O.own := by first | decide | exact of_decide_eq_true rfl) (hxi : O.exi ≠ some i := by first | decide | exact of_decide_eq_true rfl) (hsf : O.slf ≠ some i := by first | decide | exact of_decide_eq_true rfl) (hv : Vis X.env.scope x := by first | exact Or.inl rfl | exact Or.inr (Or.inl rfl) | exact Or.inr (Or.inr rfl))
    (hd : (x == ("__debug__" : Str)) = false := by decide) (hcd : (x == ("__classdict__" : Str)) = false := by decide)
    (hbase : attributeBase (.Name x p1) "insert" X.env (eval (.Name x p1) X.env) = eval (.Name x p1) X.env := by rfl)
    (hfew : ((backTo cp (starEach [ek, e] X.env)).all (fun x => !x.1) && (backToKw cp (keywordEach [] X.env)).all (fun x => x.1.isSome)
      && decide ([ek, e].length + ([] : List Keyword).length + (if ([] : List Keyword).isEmpty then 0 else 1) < 30)) = true := by rfl) (hline : (p2.endLine == cp.line) = true := by rfl)
    (hst0 : starEach [ek, e] X.env = (false, eval ek X.env) :: starEach [e] X.env := by rfl)
    (hst : starEach [e] X.env = (false, eval e X.env) :: starEach [] X.env := by rfl) (hpl : (backTo cp (starEach [e] X.env)).any (·.1) = false := by rfl)
    (hs : swapsWith (.Call (.Attribute (.Name x p1) "insert" p2) [ek, e] [] cp) none pos.line X.env = pure false := by rfl) : DS G X W Ob OE O (.Expr (.Call (.Attribute (.Name x p1) "insert" p2) [ek, e] [] cp) pos) O (mIns i mk me) := by
  obtain ⟨t, p, w⟩ := he.ex
  obtain ⟨tk, pk, wk⟩ := hk.ex
  refine ⟨_, ps_expr (pe_bm PySem.F.plainAttrs_list PySem.F.slot_list_insert PySem.F.type_list_insert mt_insert (pe_var hi hv hd hcd) (pa_cons pk (pa_cons p pa_nil hst) hst0) hbase hfew hline hst0 hpl) hs, fun b S env st σ H D I h => ?_⟩
  unfold mIns at h
  cases e1 : env[i]? with
  | none => rw [e1] at h; exact h.elim
  | some o => cases o with
    | none => rw [e1] at h; exact h.elim
    | some d0 =>
      obtain ⟨a, ws, es, p1, p2, p3, p4, p5, p6, p7⟩ := I.own i d0 hm e1
      subst p1
      rw [e1] at h
      dsimp only at h
      refine ⟨_, p2, Or.inl ⟨rfl, _, Or.inl (Or.inl p3)⟩, wk b S env st σ H _ I ?_⟩
      cases ek2 : mk env st with
      | err y st1 =>
        rw [ek2] at h
        intro cls dd S' H' x' su so r
        exact h cls dd O S' σ H' hO x'.same (I.ext x' su so) r
      | bad => rw [ek2] at h; exact h.elim
      | ok dk st0 =>
        rw [ek2] at h
        intro vk S0 H0 x0 su0 so0 r0
        cases dk with
        | int k =>
          cases r0
          have I0 := I.ext x0 su0 so0
          have h : PostS G b Ob OE W O D S (insR i k es env (me env st0)) := h
          refine w b S0 env st0 σ H0 _ I0 ?_
          cases e2 : me env st0 with
          | ok d st1 =>
            rw [e2] at h
            intro v S' H' x' su so r
            have I' := I0.ext x' su so
            obtain ⟨a', ws', es', q1, q2, q3, q4, q5, q6, q7⟩ := I'.own i _ hm e1
            cases q1
            have ea : a' = a := by
              have := q2.symm.trans p2
              simpa using this
            subst ea
            show ∃ l xs i y, _
            unfold insR at h
            dsimp only at h
            split at h
            · rename_i hz
              obtain ⟨z1, z2, z3⟩ := hz
              refine ⟨a', ws', k, v, rfl, rfl, q3, by rw [q7.len]; exact z1, z2, z3, ?_⟩
              exact h S' σ _ (x0.same.trans x'.same) (I'.own_upd hm hxi hsf e1 p2 (Reps.appI (Reps.dropI k.toNat q7) (Reps.appI (.cons r .nil) (Reps.takeI k.toNat q7))))
            · exact h.elim
          | err y st1 =>
            rw [e2] at h
            intro cls dd S' H' x' su so r
            exact h cls dd O S' σ H' hO (x0.same.trans x'.same) (I0.ext x' su so) r
          | bad => rw [e2] at h; exact h.elim
        | _ => exact h.elim
end
theorem ev13 (i : Nat) (mk me : ME) (env : Env') (st : List D) (ds : List D) (h : get? env i = some (.lst ds)) : mIns i mk me env st = insKR i me ds env (mk env st) := by
  unfold mIns
  rw [← envGet] at h
  cases e : env[i]? with
  | none => rw [e] at h; cases h
  | some o => rw [e] at h; cases o with
    | none => cases h
    | some d => cases h; rfl
theorem insR_ok (i : Nat) (k : Int) (ds : List D) (env : Env') (d : D) (st1 : List D) (h : InsOk ds.length k) : insR i k ds env (.ok d st1) = .nx (env.set i (some (.lst (ds.take k.toNat ++ [d] ++ ds.drop k.toNat)))) st1 := if_pos h
theorem insKR_ok (i : Nat) (me : ME) (ds : List D) (env : Env') (k : Int) (st1 : List D) : insKR i me ds env (.ok (.int k) st1) = insR i k ds env (me env st1) := rfl
end DL

/-! DL: e in x, e not in x, x a slot that owns its list. -/
namespace DL
open PySem PySem.Spec PyProof.Rows L2
section
variable {G : Glb} {X : Cx} {W : WX} {O : Ow} {pos : Pos} {e : Expr} {me : ME}
theorem de_inO (i : Nat) {x : Str} {p1 : Pos} (hK : X.K = G.K) (hu : X.A.units + 65 < cLine) (he : DE G X W O e me) (hm : i ∈ O.own := by first | decide | exact of_decide_eq_true rfl) (hi : X.N[i]? = some x := by rfl) (hv : Vis X.env.scope x := by first | exact Or.inl rfl | exact Or.inr (Or.inl rfl) | exact Or.inr (Or.inr rfl))
    (hd : (x == ("__debug__" : Str)) = false := by decide) (hcd : (x == ("__classdict__" : Str)) = false := by decide) (hb : behindInMarks .In (.Name x p1) = false := by first | exact nomark _ | rfl) : DE G X W O (.Compare e [.In] [.Name x p1] pos) (mOp dInA me (mVar i)) := by
  obtain ⟨ta, pa, wa⟩ := he.ex
  refine ⟨_, pe_cmpR (op_inD hu) pa (pe_var hi hv hd hcd) hb, fun b S env st σ H Q I h => ?_⟩
  refine wa b S env st σ H _ I (wpR_imp (wpR_bind h) (fun dx st1 h1 => ?_) fun _ _ z => z)
  intro v S1 H1 x1 su1 so1 r1
  have I1 := I.ext x1 su1 so1
  unfold mVar at h1
  cases e1 : env[i]? with
  | none => rw [e1] at h1; exact h1.elim
  | some o => cases o with
    | none => rw [e1] at h1; exact h1.elim
    | some d0 =>
      obtain ⟨a, ws, es, p1, p2, p3, p4, p5, p6, p7⟩ := I1.own i d0 hm e1
      subst p1
      rw [e1] at h1
      refine ⟨_, p2, ?_⟩
      have h1 : wpR (ret? (dInA dx (.lst es)) st1) _ _ := h1
      obtain ⟨d, e2, q⟩ := wp_ret h1
      have e2 : dIn dx (.lst es) = some d := e2
      unfold dIn inD at e2
      dsimp only at e2
      split at e2
      · rename_i hs
        have e' := Option.some.inj e2
        subst e'
        have hl := SeqAt.canLay_of_shaped hs.2
        exact ⟨_, _, hK ▸ r1.dp su1 (SeqAt.canLay_of_shaped hs.1), hK ▸ .lst (SqL.of p3) (Reps.dp su1 p7 (by simpa [PyData.canLay0] using hl)), hs.1, hs.2, Post.here su1 so1 (.bl _) (Post.from_ x1 so1 q)⟩
      · cases e2
theorem de_notInO (i : Nat) {x : Str} {p1 : Pos} (hK : X.K = G.K) (hu : X.A.units + 65 < cLine) (he : DE G X W O e me) (hm : i ∈ O.own := by first | decide | exact of_decide_eq_true rfl) (hi : X.N[i]? = some x := by rfl) (hv : Vis X.env.scope x := by first | exact Or.inl rfl | exact Or.inr (Or.inl rfl) | exact Or.inr (Or.inr rfl))
    (hd : (x == ("__debug__" : Str)) = false := by decide) (hcd : (x == ("__classdict__" : Str)) = false := by decide) (hb : behindInMarks .NotIn (.Name x p1) = false := by first | exact nomark _ | rfl) : DE G X W O (.Compare e [.NotIn] [.Name x p1] pos) (mOp dNotInA me (mVar i)) := by
  obtain ⟨ta, pa, wa⟩ := he.ex
  refine ⟨_, pe_cmpR (op_notInD hu) pa (pe_var hi hv hd hcd) hb, fun b S env st σ H Q I h => ?_⟩
  refine wa b S env st σ H _ I (wpR_imp (wpR_bind h) (fun dx st1 h1 => ?_) fun _ _ z => z)
  intro v S1 H1 x1 su1 so1 r1
  have I1 := I.ext x1 su1 so1
  unfold mVar at h1
  cases e1 : env[i]? with
  | none => rw [e1] at h1; exact h1.elim
  | some o => cases o with
    | none => rw [e1] at h1; exact h1.elim
    | some d0 =>
      obtain ⟨a, ws, es, p1, p2, p3, p4, p5, p6, p7⟩ := I1.own i d0 hm e1
      subst p1
      rw [e1] at h1
      refine ⟨_, p2, ?_⟩
      have h1 : wpR (ret? (dNotInA dx (.lst es)) st1) _ _ := h1
      obtain ⟨d, e2, q⟩ := wp_ret h1
      have e2 : dNotIn dx (.lst es) = some d := e2
      unfold dNotIn inD at e2
      dsimp only at e2
      split at e2
      · rename_i hs
        have e' := Option.some.inj e2
        subst e'
        have hl := SeqAt.canLay_of_shaped hs.2
        exact ⟨_, _, hK ▸ r1.dp su1 (SeqAt.canLay_of_shaped hs.1), hK ▸ .lst (SqL.of p3) (Reps.dp su1 p7 (by simpa [PyData.canLay0] using hl)), hs.1, hs.2, Post.here su1 so1 (.bl _) (Post.from_ x1 so1 q)⟩
      · cases e2
theorem dt_inO (i : Nat) {x : Str} {p1 : Pos} (hK : X.K = G.K) (hu : X.A.units + 65 < cLine) (he : DE G X W O e me) (hm : i ∈ O.own := by first | decide | exact of_decide_eq_true rfl) (hi : X.N[i]? = some x := by rfl) (hv : Vis X.env.scope x := by first | exact Or.inl rfl | exact Or.inr (Or.inl rfl) | exact Or.inr (Or.inr rfl))
    (hd : (x == ("__debug__" : Str)) = false := by decide) (hcd : (x == ("__classdict__" : Str)) = false := by decide) (hb : behindInMarks .In (.Name x p1) = false := by first | exact nomark _ | rfl) : DT G X W O (.Compare e [.In] [.Name x p1] pos) (mTest (mOp dInA me (mVar i))) := by
  obtain ⟨ta, pa, wa⟩ := he.ex
  refine ⟨_, pt_cmpR (op_inD hu) pa (pe_var hi hv hd hcd) hb, fun b S env st σ H Q I h => ?_⟩
  have h0 := wpR_bind h
  refine wa b S env st σ H _ I (wpR_imp (wpR_bind h0) (fun dx st1 h1 => ?_) fun _ _ z => z)
  intro v S1 H1 x1 su1 so1 r1
  have I1 := I.ext x1 su1 so1
  unfold mVar at h1
  cases e1 : env[i]? with
  | none => rw [e1] at h1; exact h1.elim
  | some o => cases o with
    | none => rw [e1] at h1; exact h1.elim
    | some d0 =>
      obtain ⟨a, ws, es, p1, p2, p3, p4, p5, p6, p7⟩ := I1.own i d0 hm e1
      subst p1
      rw [e1] at h1
      refine ⟨_, p2, ?_⟩
      have h1 : wpR (ret? (dInA dx (.lst es)) st1) _ _ := h1
      obtain ⟨d, e2, q⟩ := wp_ret h1
      have e2 : dIn dx (.lst es) = some d := e2
      unfold dIn inD at e2
      dsimp only at e2
      split at e2
      · rename_i hs
        have e' := Option.some.inj e2
        subst e'
        have hl := SeqAt.canLay_of_shaped hs.2
        exact ⟨_, _, hK ▸ r1.dp su1 (SeqAt.canLay_of_shaped hs.1), hK ▸ .lst (SqL.of p3) (Reps.dp su1 p7 (by simpa [PyData.canLay0] using hl)), hs.1, hs.2, ⟨_, rfl, q _ _ x1 su1 so1⟩⟩
      · cases e2
theorem dt_notInO (i : Nat) {x : Str} {p1 : Pos} (hK : X.K = G.K) (hu : X.A.units + 65 < cLine) (he : DE G X W O e me) (hm : i ∈ O.own := by first | decide | exact of_decide_eq_true rfl) (hi : X.N[i]? = some x := by rfl) (hv : Vis X.env.scope x := by first | exact Or.inl rfl | exact Or.inr (Or.inl rfl) | exact Or.inr (Or.inr rfl))
    (hd : (x == ("__debug__" : Str)) = false := by decide) (hcd : (x == ("__classdict__" : Str)) = false := by decide) (hb : behindInMarks .NotIn (.Name x p1) = false := by first | exact nomark _ | rfl) : DT G X W O (.Compare e [.NotIn] [.Name x p1] pos) (mTest (mOp dNotInA me (mVar i))) := by
  obtain ⟨ta, pa, wa⟩ := he.ex
  refine ⟨_, pt_cmpR (op_notInD hu) pa (pe_var hi hv hd hcd) hb, fun b S env st σ H Q I h => ?_⟩
  have h0 := wpR_bind h
  refine wa b S env st σ H _ I (wpR_imp (wpR_bind h0) (fun dx st1 h1 => ?_) fun _ _ z => z)
  intro v S1 H1 x1 su1 so1 r1
  have I1 := I.ext x1 su1 so1
  unfold mVar at h1
  cases e1 : env[i]? with
  | none => rw [e1] at h1; exact h1.elim
  | some o => cases o with
    | none => rw [e1] at h1; exact h1.elim
    | some d0 =>
      obtain ⟨a, ws, es, p1, p2, p3, p4, p5, p6, p7⟩ := I1.own i d0 hm e1
      subst p1
      rw [e1] at h1
      refine ⟨_, p2, ?_⟩
      have h1 : wpR (ret? (dNotInA dx (.lst es)) st1) _ _ := h1
      obtain ⟨d, e2, q⟩ := wp_ret h1
      have e2 : dNotIn dx (.lst es) = some d := e2
      unfold dNotIn inD at e2
      dsimp only at e2
      split at e2
      · rename_i hs
        have e' := Option.some.inj e2
        subst e'
        have hl := SeqAt.canLay_of_shaped hs.2
        exact ⟨_, _, hK ▸ r1.dp su1 (SeqAt.canLay_of_shaped hs.1), hK ▸ .lst (SqL.of p3) (Reps.dp su1 p7 (by simpa [PyData.canLay0] using hl)), hs.1, hs.2, ⟨_, rfl, q _ _ x1 su1 so1⟩⟩
      · cases e2
/-- tuple(x), x a slot that owns its list -/
theorem de_tupO (i : Nat) {x : Str} {p0 p1 : Pos} (hK : X.K = G.K) (hg : Gl X "tuple" := by rfl) (hmg : X.mg "tuple" = none) (hm : i ∈ O.own := by first | decide | exact of_decide_eq_true rfl) (hi : X.N[i]? = some x := by rfl) (hv : Vis X.env.scope x := by first | exact Or.inl rfl | exact Or.inr (Or.inl rfl) | exact Or.inr (Or.inr rfl))
    (hd : (x == ("__debug__" : Str)) = false := by decide) (hcd : (x == ("__classdict__" : Str)) = false := by decide)
    (he : starEach [.Name x p1] X.env = (false, eval (.Name x p1) X.env) :: starEach [] X.env := by rfl) (hpl : (backTo pos (starEach [] X.env)).any (·.1) = false := by rfl) : DE G X W O (.Call (.Name "tuple" p0) [.Name x p1] [] pos) (mCall1 (c1 dTuple) (mCons (mVar i) mNil)) := by
  refine ⟨_, pe_callTy call_tuple_of hg hmg PyProof.Rows.boot_tuple (pa_cons (pe_var hi hv hd hcd) pa_nil he) (by decide) (by decide) he hpl, fun c S env st σ H Q I h => ?_⟩
  unfold mCall1 mCons mVar at h
  cases e1 : env[i]? with
  | none => rw [e1] at h; exact h.elim
  | some o => cases o with
    | none => rw [e1] at h; exact h.elim
    | some d0 =>
      obtain ⟨a, ws, es, p1, p2, p3, p4, p5, p6, p7⟩ := I.own i d0 hm e1
      subst p1
      rw [e1] at h
      exact ⟨_, p2, _, _, rfl, .inl ⟨SqL.of p3, fun l hl => Post.tup I.sub I.sto hl p7 h⟩⟩
end
end DL

/-! DL: sorted of a tuple of ints. -/
namespace SrtO
open PySem PyProof.Rows Srt
section
variable {prog : Program} {w : World} {A : Around} {E : Value → Shared → Prop} {s : Shared}
theorem collect_tupS {l : Addr} {vs : List Value} {Q : List Value → Shared → Prop} (hl : IsTup s.heap l vs.toArray)
    (h : Q vs { s with heap := (s.heap.push (seqObj "list" #[] 0)).update s.heap.objs.size (Obj.mapSeq (· ++ vs.toArray)) }) (hsz : vs.length ≤ sizeLine) :
    wpAny (model prog w) A (collect (.ref l)) Q E s := by
  obtain ⟨o, ho, hc, n, hd⟩ := id hl
  unfold collect
  refine wpAny_bind (wpAny_runValue (codeAny_builtin entry_proto_collect' ?_))
  show wpAny _ _ (do again (.builtin "list.__iadd__" ⟨[← newList [], .ref l], []⟩)) _ _ s
  refine wpAny_bind (wpAny_newList (wpAny_pure ⟨Code.quiet_builtin _ (by decide +kernel), codeAny_builtin entry_list_iadd' ?_⟩))
  show wpAny _ _ (Builtin.List.listExtendWith (.ref s.heap.objs.size) (.ref l) (.ref s.heap.objs.size)) _ _ { s with heap := s.heap.push (seqObj "list" #[] 0) }
  unfold Builtin.List.listExtendWith
  have ho' : (s.heap.push (seqObj "list" #[] 0)).get? l = some o := Heap.get?_push_of_some _ ho
  refine wpAny_bind (wpAny_typeOf (T := "tuple") ⟨o, ho', hc⟩ ?_)
  have ht : (Value.type "tuple" == Value.type "tuple") = true := by rfl
  rw [if_pos (by rw [ht]; simp)]
  refine wpAny_bind (listItems_at ho' hd ?_)
  refine wpAny_bind (listItems_at (xs := #[]) (n := 0) (Heap.get?_push_size _ rfl) rfl ?_)
  rw [if_neg (by simp)]
  refine wpAny_bind (listUpdate_at (xs := #[]) (n := 0) (Heap.get?_push_size _ rfl) rfl ?_ (Nat.zero_le _) (by show (#[] ++ vs.toArray).size ≤ sizeLine + 1; simp only [Array.size_append, List.size_toArray, List.length_nil]; omega))
  refine wpAny_pure ?_
  show wpAny (model prog w) A (do
      let o ← load s.heap.objs.size
      match o.data with
      | .seq xs _ => pure xs.toList
      | _ => unsupported "internal:collect") Q E { s with heap := (s.heap.push (seqObj "list" #[] 0)).update s.heap.objs.size (Obj.mapSeq (· ++ vs.toArray)) }
  refine wpAny_bind (wpAny_load (get?_update_seq (Heap.get?_push_size _ rfl) _) ?_)
  show wpAny _ _ (pure ((#[] : Array Value) ++ vs.toArray).toList) Q E _
  rw [show ((#[] : Array Value) ++ vs.toArray).toList = vs by simp]
  exact wpAny_pure h
theorem sorted_tupS {l : Addr} {vs : List Value} {ltv : Value → Value → Bool} {Q : Value → Shared → Prop} (O : Swo ltv) (hl : IsTup s.heap l vs.toArray) (hz : vs.length ≤ sizeLine)
    (hS : 2 ≤ vs.length → ∀ (h₁ : Heap) (a : Addr), h₁.get? a = some (seqObj "list" vs.toArray 0) → (∀ b o, s.heap.get? b = some o → b ≠ a ∧ h₁.get? b = some o) → SortableO prog w A.in1.in1 { s with heap := h₁ } a vs ltv)
    (h : ∀ out : List Value, Srtd ltv out → Stb ltv out vs → Q (.ref (s.heap.objs.size + 1)) { s with heap := sortedAll s.heap vs out.toArray }) :
    wpAny (model prog w) A (call (.builtin "sorted") [.ref l]) Q E s := by
  refine Calls.call_function_entry kind_sorted plain_sorted entry_sorted (args_sorted1 _) ?_
  unfold Builtin.«sorted»
  refine wpAny_bind (m := checkCount "sorted" 1 1 _) (wpAny_pure ?_)
  refine wpAny_bind (collect_tupS hl ?_ hz)
  refine wpAny_bind (wpAny_newList ?_ hz)
  have hsz : ((s.heap.push (seqObj "list" #[] 0)).update s.heap.objs.size (Obj.mapSeq (· ++ vs.toArray))).objs.size = s.heap.objs.size + 1 := by
    rw [Heap.size_update, size_push']
  have hoL : (((s.heap.push (seqObj "list" #[] 0)).update s.heap.objs.size (Obj.mapSeq (· ++ vs.toArray))).push (seqObj "list" vs.toArray 0)).get? (s.heap.objs.size + 1) = some (seqObj "list" vs.toArray 0) := by
    rw [← hsz]; exact Heap.get?_push_size _ rfl
  have keep : ∀ b o, s.heap.get? b = some o → b ≠ s.heap.objs.size + 1 ∧ (((s.heap.push (seqObj "list" #[] 0)).update s.heap.objs.size (Obj.mapSeq (· ++ vs.toArray))).push (seqObj "list" vs.toArray 0)).get? b = some o := fun b o q => by
    have hlt : b < s.heap.objs.size := Heap.lt_size q
    refine ⟨Nat.ne_of_lt (Nat.lt_succ_of_lt hlt), Heap.get?_push_of_some _ ?_⟩
    rw [Heap.get?_update_ne _ _ _ _ (Nat.ne_of_lt hlt)]
    exact Heap.get?_push_of_some _ q
  show wpAny _ _ _ _ _ { s with heap := ((s.heap.push (seqObj "list" #[] 0)).update s.heap.objs.size (Obj.mapSeq (· ++ vs.toArray))).push (seqObj "list" vs.toArray 0) }
  rw [hsz]
  refine wpAny_bind (wpAny_holding (wpAny_call_entry slot_list_sort ⟨_, hoL, rfl⟩ entry_list_sort (list_sort_ord O hoL hz (fun h2 => hS h2 _ _ hoL keep) fun out hs hb => ⟨_, rfl, ?_⟩) (args_list_sort _)))
  exact wpAny_pure ⟨_, rfl, h out hs hb⟩
end
end SrtO
namespace DL
open PySem PySem.Spec PyProof.Rows L2
/-- sorted(t), t a tuple of ints -/
def rSortedT1 (K : PySem.W.Frag) : List V → Hp → VK → Prop := fun vs H Q => ∃ (a : Addr) (ns : List Int), vs = [V.ref a] ∧ SqT K H a (ns.map V.int) ∧
  ∀ (ns' : List Int) (p : Addr), ns'.Perm ns → ns'.Pairwise (· ≤ ·) → H p = none → Q (.ref p) (upd H p (.lst (ns'.map V.int)))
section
variable {X : Cx}
theorem cr_sortedT1 : CallR X (.builtin "sorted") (rSortedT1 X.K) := by
  intro pins s σ H vs us Q I r h
  obtain ⟨a, ns, rfl, hs, q⟩ := h
  obtain ⟨its, rv, hl, hz⟩ := I.tuple hs
  rw [Vals.ref1 r]
  have hi := rv.ints
  refine SrtO.sorted_tupS SrtO.swo_int hl (by rw [← rv.length]; exact hz) (fun h2 h₁ a' _ _ => SrtO.ints_sortable hi h2) fun out h1 h2 => ?_
  obtain ⟨k1, k2, k3⟩ := SrtO.ints_out hi h1 h2
  obtain ⟨ep, he'⟩ := PyProof.Rows.sortedAll_at s.heap its out.toArray
  have hlen : ((out.map SrtO.iv).map V.int).length ≤ sizeLine := by
    rw [List.length_map, k2.length_eq]
    rw [List.length_map] at hz
    exact hz
  exact ⟨.ref _, upd H (s.heap.objs.size + 1) (.lst ((out.map SrtO.iv).map V.int)), I.laid (t' := s.toks) (fun _ _ => PyProof.Rows.sortedAll_old) (Nat.le_succ _) ⟨hlen, out, ep, vals_of_ints k1, he'⟩, rfl, q _ _ k2 k3 (I.hok.fresh (Nat.le_succ _))⟩
end
/-! sorted by data -/
def insS (a : Int) : List Int → List Int
  | [] => [a]
  | b :: r => if a ≤ b then a :: b :: r else b :: insS a r
def srtL : List Int → List Int
  | [] => []
  | a :: r => insS a (srtL r)
theorem insS_perm (a : Int) : ∀ r : List Int, (insS a r).Perm (a :: r)
  | [] => .refl _
  | b :: r => by
    unfold insS
    split
    · exact .refl _
    · exact ((insS_perm a r).cons b).trans (.swap a b r)
theorem srt_perm : ∀ r : List Int, (srtL r).Perm r
  | [] => .refl _
  | a :: r => (insS_perm a _).trans ((srt_perm r).cons a)
theorem insS_pw (a : Int) : ∀ r : List Int, r.Pairwise (· ≤ ·) → (insS a r).Pairwise (· ≤ ·)
  | [], _ => by simp [insS]
  | b :: r, h => by
    unfold insS
    split
    · rename_i hab
      refine List.Pairwise.cons (fun x hx => ?_) h
      rcases List.mem_cons.1 hx with e | e
      · exact e ▸ hab
      · exact Int.le_trans hab ((List.pairwise_cons.1 h).1 x e)
    · rename_i hab
      refine List.Pairwise.cons (fun x hx => ?_) (insS_pw a r (List.pairwise_cons.1 h).2)
      rcases List.mem_cons.1 ((insS_perm a r).mem_iff.1 hx) with e | e
      · subst e; omega
      · exact (List.pairwise_cons.1 h).1 x e
theorem srt_pw : ∀ r : List Int, (srtL r).Pairwise (· ≤ ·)
  | [] => .nil
  | a :: r => insS_pw a _ (srt_pw r)
theorem pw_eq : ∀ (u v : List Int), u.Perm v → u.Pairwise (· ≤ ·) → v.Pairwise (· ≤ ·) → u = v
  | [], v, h, _, _ => h.nil_eq
  | a :: u, [], h, _, _ => absurd h.length_eq (by simp)
  | a :: u, b :: v, h, hu, hv => by
    have h1 := List.pairwise_cons.1 hu
    have h2 := List.pairwise_cons.1 hv
    have e : a = b := by
      rcases List.mem_cons.1 (h.mem_iff.1 (List.mem_cons_self (a := a) (l := u))) with e | e
      · exact e
      · rcases List.mem_cons.1 (h.mem_iff.2 (List.mem_cons_self (a := b) (l := v))) with e' | e'
        · exact e'.symm
        · have := h1.1 b e'
          have := h2.1 a e
          omega
    subst e
    rw [pw_eq u v (h.cons_inv) h1.2 h2.2]
theorem srt_of {u v : List Int} (h : u.Perm v) : srtL u = srtL v := pw_eq _ _ ((srt_perm u).trans (h.trans (srt_perm v).symm)) (srt_pw u) (srt_pw v)
def dSort : D → Option D
  | .tup ds => (ints? ds).map fun ns => .lst ((srtL ns).map .int)
  | _ => none
theorem cd_sort {G : Glb} {X : Cx} (hK : X.K = G.K) : CallD G (rSortedT1 X.K) (c1 dSort) := ⟨fun ad S H st xs ds d Q su so r e q => by
  obtain ⟨x, rfl, e1⟩ := c1_some e
  obtain ⟨v, rfl, rv⟩ := reps1 r
  cases rv with
  | @tup a vs ds h r1 =>
    have e1 : (ints? ds).map (fun ns => D.lst ((srtL ns).map .int)) = some d := e1
    cases e2 : ints? ds with
    | none => rw [e2] at e1; cases e1
    | some ns =>
      rw [e2] at e1
      cases e1
      have e3 := ints_ok r1 e2
      subst e3
      refine ⟨_, ns, rfl, hK ▸ Same.sqT su h.sqT, fun ns' p hp hw hl => ?_⟩
      rw [pw_eq ns' (srtL ns) (hp.trans (srt_perm ns).symm) hw (srt_pw ns)]
      exact Post.lst su so hl (reps_ints _) q
  | _ => cases e1⟩
end DL

/-! DL: min of a list of tuples of ints. -/
namespace DL
open PySem PySem.Spec PyProof.Rows L2
def rMinTu (K : PySem.W.Frag) : List V → Hp → VK → Prop := fun vs H Q => ∃ (a : Addr) (xs : List V) (nss : List (List Int)), vs = [V.ref a] ∧ SqL K H a xs ∧
  (∀ (i : Nat) (x : V), xs[i]? = some x → ∃ (t : Addr) (ns : List Int), x = V.ref t ∧ nss[i]? = some ns ∧ SqT K H t (ns.map V.int)) ∧ 0 < xs.length ∧
  ∀ v, xs[argBest (fun i j => HT.lexLt (nss.getD i []) (nss.getD j [])) (xs.length - 1)]? = some v → Q v H
theorem vals_atT : ∀ {xs : List V} {its : List Value}, Vals xs its → ∀ (i : Nat) (u : Value), its[i]? = some u → ∃ x, xs[i]? = some x ∧ RelV x u
  | _, _, .nil, i, u, h => by simp at h
  | _, _, .cons r rs, 0, u, h => by
    have e := Option.some.inj (show some _ = some u from h)
    subst e
    exact ⟨_, rfl, r⟩
  | _, _, .cons r rs, i + 1, u, h => by
    obtain ⟨x, e, r2⟩ := vals_atT rs i u (by simpa using h)
    exact ⟨x, by simpa using e, r2⟩
section
variable {X : Cx}
theorem cr_minTu (hc : X.calm = true) (hu : X.A.units + 1 < cLine) : CallR X (.builtin "min") (rMinTu X.K) := by
  intro pins s σ H vs us Q I r h
  obtain ⟨a, xs, nss, rfl, hs, hx, hn, q⟩ := h
  obtain ⟨its, rv, hl, hz⟩ := I.list hs
  rw [Vals.ref1 r]
  have hlen := rv.length
  refine PySem.call_min_walkH (PySem.W.iter_listW (I.ok.hd hc) hl.isList fun s₂ e W st hfp hw hk => ?_)
  refine ⟨_, _, _, _, _, _, _, s.heap, (fun i j => HT.lexLt (nss.getD i []) (nss.getD j [])), rfl, W, st, hfp, by simp; omega, hw, hk, ?_, fun v s' hP m => ?_⟩
  · intro i j vi vj s3 Q3 E3 hk3 hi hj hq
    obtain ⟨x1, e1, r1⟩ := vals_atT rv i vi (by simpa using hi)
    obtain ⟨x2, e2, r2⟩ := vals_atT rv j vj (by simpa using hj)
    obtain ⟨t1, n1, rfl, f1, g1⟩ := hx i x1 e1
    obtain ⟨t2, n2, rfl, f2, g2⟩ := hx j x2 e2
    cases r1
    cases r2
    obtain ⟨i1, v1, p1, z1⟩ := I.tuple g1
    obtain ⟨i2, v2, p2, z2⟩ := I.tuple g2
    have k1 : nss.getD i [] = n1 := by simp [List.getD, f1]
    have k2 : nss.getD j [] = n2 := by simp [List.getD, f2]
    have hq : Q3 (Value.bool (HT.lexLt (nss.getD i []) (nss.getD j []))) s3 := hq
    rw [k1, k2] at hq
    exact HT.lt_tupInts (p1.keeps hk3) (p2.keeps hk3) (by simpa using v1.ints) (by simpa using v2.ints) (by show _ + 1 < _; exact hu) hq
  · obtain ⟨h', tk, rfl, hk'⟩ := PySem.W.moved_old e rfl m
    have hP : its.toArray[argBest (fun i j => HT.lexLt (nss.getD i []) (nss.getD j [])) (its.toArray.size - 1)]? = some v := hP
    have e2 : its.toArray.size - 1 = xs.length - 1 := by rw [List.size_toArray, hlen]
    rw [e2, List.getElem?_toArray] at hP
    obtain ⟨x1, e1, r1⟩ := vals_atT rv _ v hP
    exact ⟨x1, H, I.kept hk', r1, q x1 e1⟩
end
/-! by data -/
def tupI? : D → Option (List Int)
  | .tup ds => ints? ds
  | _ => none
def tupsI? : List D → Option (List (List Int))
  | [] => some []
  | d :: ds => (tupI? d).bind fun ns => (tupsI? ds).map (ns :: ·)
theorem tupsI_at : ∀ {ds : List D} {nss : List (List Int)}, tupsI? ds = some nss → ∀ (i : Nat) (d : D), ds[i]? = some d → ∃ ns, nss[i]? = some ns ∧ tupI? d = some ns
  | [], _, _, i, d, h => by simp at h
  | d0 :: ds, nss, e, i, d, h => by
    unfold tupsI? at e
    cases e1 : tupI? d0 with
    | none => rw [e1] at e; cases e
    | some ns =>
      rw [e1] at e
      have e : (tupsI? ds).map (ns :: ·) = some nss := e
      cases e2 : tupsI? ds with
      | none => rw [e2] at e; cases e
      | some ms =>
        rw [e2] at e
        cases e
        cases i with
        | zero =>
          have := Option.some.inj (show some d0 = some d from h)
          subst this
          exact ⟨ns, rfl, e1⟩
        | succ i => exact tupsI_at e2 i d h
def minTu (ds : List D) : Option D := match tupsI? ds with
  | some nss => ds[argBest (fun i j => HT.lexLt (nss.getD i []) (nss.getD j [])) (ds.length - 1)]?
  | none => none
def dMinTu : D → Option D
  | .lst ds => minTu ds
  | _ => none
theorem reps_at {G : Glb} {ad : List Addr} {S : Hp} : ∀ {vs : List V} {ds : List D}, Reps G ad S vs ds → ∀ (i : Nat) (v : V), vs[i]? = some v → ∃ d, ds[i]? = some d ∧ Rep G ad S v d
  | _, _, .nil, i, v, h => by simp at h
  | _, _, .cons r rs, 0, v, h => by
    have e := Option.some.inj (show some _ = some v from h)
    subst e
    exact ⟨_, rfl, r⟩
  | _, _, .cons r rs, i + 1, v, h => reps_at rs i v h
theorem cd_minTu {G : Glb} {X : Cx} (hK : X.K = G.K) : CallD G (rMinTu X.K) (c1 dMinTu) := ⟨fun ad S H st xs ds d Q su so r e q => by
  obtain ⟨x, rfl, e1⟩ := c1_some e
  obtain ⟨v, rfl, rv⟩ := reps1 r
  cases rv with
  | @lst a vs es h r1 =>
    have e1 : minTu es = some d := e1
    unfold minTu at e1
    cases e2 : tupsI? es with
    | none => rw [e2] at e1; cases e1
    | some nss =>
      rw [e2] at e1
      have e1 : es[argBest (fun i j => HT.lexLt (nss.getD i []) (nss.getD j [])) (es.length - 1)]? = some d := e1
      have hl := r1.len
      refine ⟨_, vs, nss, rfl, SqL.of (su _ _ h), fun i x hx => ?_, ?_, fun v hv => ?_⟩
      · obtain ⟨d1, f1, rd⟩ := reps_at r1 i x hx
        obtain ⟨ns, f2, f3⟩ := tupsI_at e2 i d1 f1
        cases rd with
        | tup g r2 =>
          have f4 := ints_ok r2 f3
          subst f4
          exact ⟨_, ns, rfl, f2, hK ▸ Same.sqT su g.sqT⟩
        | _ => cases f3
      · rw [hl]
        cases es with
        | nil => simp at e1
        | cons _ _ => simp
      · rw [hl] at hv
        obtain ⟨d1, f1, rd⟩ := reps_at r1 _ v hv
        rw [e1] at f1
        cases f1
        exact Post.here su so rd q
  | _ => cases e1⟩
end DL

open PySem PySem.W PyProof.Rows
set_option maxHeartbeats 0 in
open_top hd for PySem.Challenge.rw_untoldgaps_k40_whole_words_of_one_histor
namespace My
open PySem PySem.Spec PyProof.Rows L2 DL
abbrev c_GapError : Nat := 0
abbrev c_BadWord : Nat := 1
def clX_BadWord : Nat → Option Bool := fun c => match c with
  | 1 => some true
  | _ => none
def okX : Nat → Str → Bool := fun c f => match c with
  | 1 => (["index", "what"] : List Str).elem f
  | _ => false
noncomputable def b__law_apart : MS :=
    mRet (mOrV (mOp dGe (mOp dSub (mVar 0) (mVar 1)) (mC (.int 2))) (mOp dGe (mOp dSub (mVar 1) (mVar 0)) (mC (.int 2))))
noncomputable def m__law_apart : List D → M D := fnM 2 b__law_apart
noncomputable def b__law_hand : MS :=
    mSeq (mSet 1 (mC (.int 0)))
    (mSeq ((mFor (mThenA (mCons (mVar 0) (mNil)) enum?) (gTp (gsCons (gNm 2) (gsCons (gNm 3) (gsNil)))) (mSet 1 (mOp dMod (mCall1 (c1 dInt1) (mCons (mOp dAdd (mOp dMul (mVar 1) (mC (.int 31))) (mOp dMul (mCall1 (c1 dInt1) (mCons (mVar 3) (mNil))) (mOp dAdd (mVar 2) (mC (.int 7))))) (mNil))) (mC (.int 2147483629))))))
    (mRet (mLst (mCons ((mLC (mItems (mVar 0)) [3] (gNm 3) (mYes) (mCall1 (c1 dAbs) (mCons (mCall1 (c1 dInt1) (mCons (mVar 3) (mNil))) (mNil))))) (mCons (mC (.int 0)) (mCons (mC (.int 0)) (mCons (mVar 1) (mNil))))))))
noncomputable def m__law_hand : List D → M D := fnM 4 b__law_hand
noncomputable def b__law_mix : MS :=
    mSeq (mSet 2 (mOp dMod (mCall1 (c1 dInt1) (mCons (mOp dAdd (mOp dAdd (mOp dMul (mVar 0) (mC (.int 48271))) (mOp dMul (mVar 1) (mC (.int 16807)))) (mC (.int 11))) (mNil))) (mC (.int 2147483647))))
    (mSeq (mSet 3 (mOp dMod (mCall1 (c1 dInt1) (mCons (mOp dAdd (mOp dAdd (mOp dMul (mVar 2) (mVar 2)) (mOp dMul (mOp dDiv (mVar 2) (mC (.int 127))) (mC (.int 40692)))) (mOp dMul (mVar 1) (mC (.int 69621)))) (mNil))) (mC (.int 2147483399))))
    (mRet (mOp dDiv (mOp dMod (mCall1 (c1 dInt1) (mCons (mOp dAdd (mOp dDiv (mOp dMul (mVar 3) (mVar 3)) (mC (.int 1009))) (mVar 2)) (mNil))) (mC (.int 2147483563))) (mC (.int 16)))))
noncomputable def m__law_mix : List D → M D := fnM 4 b__law_mix
noncomputable def b__law_swapped : MS :=
    mRet (mOp dAdd (mOp dAdd (mSl (mVar 0) (mNo) (mPart (mVar 1))) (mTup (mCons (mIx (mVar 0) (mOp dAdd (mVar 1) (mC (.int 1)))) (mCons (mIx (mVar 0) (mVar 1)) (mNil))))) (mSl (mVar 0) (mPart (mOp dAdd (mVar 1) (mC (.int 2)))) (mNo)))
noncomputable def m__law_swapped : List D → M D := fnM 2 b__law_swapped
noncomputable def b__law_draw : MS :=
    mSeq (mIfS (mAnd (mTest (mOp dEq (mIx (mVar 0) (mC (.int 2))) (mC (.int 0)))) (mTest (mOp dLt (mIx (mVar 0) (mC (.int 1))) (mCall1 (c1 dLen) (mCons (mIx (mVar 0) (mC (.int 0))) (mNil)))))) (mSeq (mSet 2 (mIx (mIx (mVar 0) (mC (.int 0))) (mIx (mVar 0) (mC (.int 1)))))
    (mSeq (mPut 0 1 (mOp dAdd (mIx (mVar 0) (mC (.int 1))) (mC (.int 1))))
    (mSeq (mIfS (mTest (mOp dLt (mVar 2) (mOp dPow (mC (.int 10)) (mC (.int 18))))) (mRet (mOp dMod (mCall1 (c1 dInt1) (mCons (mCall m__law_mix (mCons (mOp dMod (mCall1 (c1 dInt1) (mCons (mVar 2) (mNil))) (mC (.int 2147483647))) (mCons (mIx (mVar 0) (mC (.int 1))) (mNil)))) (mNil))) (mVar 1))) (mNx))
    (mPut 0 2 (mVar 2))))) (mNx))
    (mSeq (mIfS (mTest (mOp dGt (mIx (mVar 0) (mC (.int 2))) (mC (.int 0)))) (mSeq (mSet 3 (mIx (mVar 0) (mC (.int 2))))
    (mSeq (mPut 0 2 (mOp dDiv (mVar 3) (mVar 1)))
    (mRet (mOp dMod (mCall1 (c1 dInt1) (mCons (mVar 3) (mNil))) (mVar 1))))) (mNx))
    (mSeq (mPut 0 3 (mOp dMod (mCall1 (c1 dInt1) (mCons (mOp dAdd (mIx (mVar 0) (mC (.int 3))) (mC (.int 1))) (mNil))) (mC (.int 2147483629))))
    (mRet (mOp dMod (mCall1 (c1 dInt1) (mCons (mCall m__law_mix (mCons (mIx (mVar 0) (mC (.int 3))) (mCons (mIx (mVar 0) (mC (.int 1))) (mNil)))) (mNil))) (mVar 1)))))
noncomputable def m__law_draw : List D → M D := fnM 4 b__law_draw
noncomputable def bd_law_lot_1 : MS :=
    mIfS (mTru (mCall m__law_apart (mCons (mIx (mVar 3) (mVar 4)) (mCons (mIx (mVar 3) (mOp dAdd (mVar 4) (mC (.int 1)))) (mNil))))) (mSeq (mSet 5 (mCall m__law_swapped (mCons (mVar 3) (mCons (mVar 4) (mNil)))))
    (mIfS (mTest (mOp dNotInA (mVar 5) (mVar 1))) (mPush 1 (mVar 5)) (mNx))) (mNx)
noncomputable def F_law_lot_1 : MS :=
    mFor (mThenA (mCons (mOp dSub (mCall1 (c1 dLen) (mCons (mVar 3) (mNil))) (mC (.int 1))) (mNil)) rng1?) (gNm 4) bd_law_lot_1
noncomputable def bd_law_lot_2 : MS :=
    mSeq (mIfS (mTest (mOp dGe (mVar 2) (mCall1 (c1 dLen) (mCons (mVar 1) mNil)))) (mBrk) (mNx))
    (mSeq (mSet 3 (mIx (mVar 1) (mVar 2)))
    (F_law_lot_1))
noncomputable def F_law_lot_2 : MS :=
    mFor (mThenA (mCons (mC (.int 2000)) (mNil)) rng1?) (gNm 2) bd_law_lot_2
noncomputable def b__law_lot : MS :=
    mSeq (mSetF 1 (mThenA (mCons (mVar 0) (mNil)) fits?))
    (mSeq (F_law_lot_2)
    (mRet (mVar 1)))
noncomputable def m__law_lot : List D → M D := fnM 6 b__law_lot
noncomputable def bd_check_plain_1 : MS :=
    mIfS (mOr (mNot (mTru (mCall1 dIsi (mCons (mVar 2) (mCons (mC (.ty "int")) (mNil)))))) (mOr (mTru (mCall1 dIsi (mCons (mVar 2) (mCons (mC (.ty "bool")) (mNil))))) (mNot (mTest (mChain dLe dLe (mC (.int (-1))) (mVar 2) (mC (.int 38))))))) (mRaiseG 1 ["index", "what"] okInt0 (mCons (mVar 1) (mCons (mC (.str "pair")) (mNil)))) (mNx)
noncomputable def F_check_plain_1 : MS :=
    mFor (mThenA (mCons (mVar 0) (mNil)) enumA?) (gTp (gsCons (gNm 1) (gsCons (gNm 2) (gsNil)))) bd_check_plain_1
noncomputable def b_check_plain : MS :=
    mSeq (mIfS (mOr (mNot (mTru (mCall1 dIsi (mCons (mVar 0) (mCons (mTup (mCons (mC (.ty "list")) (mCons (mC (.ty "tuple")) (mNil)))) (mNil)))))) (mTest (mOp dGt (mCall1 (c1 dLen) (mCons (mVar 0) (mNil))) (mC (.int 800))))) (mRaiseG 1 ["index", "what"] okInt0 (mCons (mC (.int 0)) (mCons (mC (.str "word")) (mNil)))) (mNx))
    (mSeq (F_check_plain_1)
    (mRet (mCall1 (c1 dTuple) (mCons (mVar 0) (mNil)))))
noncomputable def m_check_plain : List D → M D := fnM 3 b_check_plain
noncomputable def bd_least_word_1 : MS :=
    mAugI (fun i j => i - j) 3 (mC (.int 1))
noncomputable def F_least_word_1 : MS :=
    mWhile (mAnd (mTest (mOp dGt (mVar 3) (mC (.int 0)))) (mTest (mOp dGt (mIx (mVar 1) (mOp dSub (mVar 3) (mC (.int 1)))) (mOp dAdd (mVar 2) (mC (.int 1)))))) bd_least_word_1
noncomputable def bd_least_word_2 : MS :=
    mSeq (mSet 3 (mCall1 (c1 dLen) (mCons (mVar 1) mNil)))
    (mSeq (F_least_word_1)
    (mIns 1 (mVar 3) (mVar 2)))
noncomputable def F_least_word_2 : MS :=
    mFor (mItems (mCall m_check_plain (mCons (mVar 0) (mNil)))) (gNm 2) bd_least_word_2
noncomputable def b_least_word : MS :=
    mSeq (mSetF 1 (mThenA (mNil) fits?))
    (mSeq (F_least_word_2)
    (mRet (mCall1 (c1 dTuple) (mCons (mVar 1) mNil))))
noncomputable def m_least_word : List D → M D := fnM 4 b_least_word
noncomputable def b_same_history : MS :=
    mSeq (mSet 2 (mCall m_least_word (mCons (mVar 0) (mNil))))
    (mRet (mOp dEq (mVar 2) (mCall m_least_word (mCons (mVar 1) (mNil)))))
noncomputable def m_same_history : List D → M D := fnM 3 b_same_history
noncomputable def el_law_long_right_1 : ME :=
    mOp dSub (mCall m__law_draw (mCons (mVar 0) (mCons (mVar 2) (mNil)))) (mC (.int 1))
noncomputable def L_law_long_right_1 : ME :=
    mLC (mThenA (mCons (mVar 1) (mNil)) rng1?) [5] (gNm 5) (mYes) el_law_long_right_1
noncomputable def bd_law_long_right_2 : MS :=
    mIfS (mTest (mOp dGt (mVar 1) (mC (.int 1)))) (mSeq (mSet 6 (mCall m__law_draw (mCons (mVar 0) (mCons (mOp dSub (mVar 1) (mC (.int 1))) (mNil)))))
    (mIfS (mTru (mCall m__law_apart (mCons (mIx (mVar 4) (mVar 6)) (mCons (mIx (mVar 4) (mOp dAdd (mVar 6) (mC (.int 1)))) (mNil))))) (mSet 4 (mCall m__law_swapped (mCons (mVar 4) (mCons (mVar 6) (mNil))))) (mNx))) (mNx)
noncomputable def F_law_long_right_2 : MS :=
    mFor (mThenA (mCons (mCall m__law_draw (mCons (mVar 0) (mCons (mC (.int 41)) (mNil)))) (mNil)) rng1?) (gNm 5) bd_law_long_right_2
noncomputable def el_law_long_right_3 : ME :=
    mVar 5
noncomputable def L_law_long_right_3 : ME :=
    mLC (mThenA (mCons (mOp dSub (mVar 1) (mC (.int 1))) (mNil)) rng1?) [5] (gNm 5) (mAnd (mTru (mCall m__law_apart (mCons (mIx (mVar 7) (mVar 5)) (mCons (mIx (mVar 7) (mOp dAdd (mVar 5) (mC (.int 1)))) (mNil))))) (mTest (mOp dGt (mIx (mVar 7) (mVar 5)) (mIx (mVar 7) (mOp dAdd (mVar 5) (mC (.int 1))))))) el_law_long_right_3
noncomputable def el_law_long_right_4 : ME :=
    mVar 10
noncomputable def L_law_long_right_4 : ME :=
    mLC (mItems (mVar 3)) [10] (gNm 10) (mOr (mTest (mOp dEq (mVar 10) (mVar 8))) (mTest (mOp dEq (mVar 10) (mOp dAdd (mVar 8) (mC (.int 1)))))) el_law_long_right_4
noncomputable def el_law_long_right_5 : ME :=
    mVar 10
noncomputable def L_law_long_right_5 : ME :=
    mLC (mItems (mVar 7)) [10] (gNm 10) (mOr (mTest (mOp dEq (mVar 10) (mVar 8))) (mTest (mOp dEq (mVar 10) (mOp dAdd (mVar 8) (mC (.int 1)))))) el_law_long_right_5
noncomputable def bd_law_long_right_6 : MS :=
    mIfS (mTest (mOp dNe (L_law_long_right_4) (L_law_long_right_5))) (mRet (mC (.bl false))) (mNx)
noncomputable def F_law_long_right_6 : MS :=
    mFor (mThenA (mCons (mUn dNeg (mC (.int 1))) (mCons (mOp dSub (mVar 2) (mC (.int 1))) (mNil))) rng2?) (gNm 8) bd_law_long_right_6
noncomputable def b__law_long_right : MS :=
    mSeq (mSet 1 (mIf (mTest (mOp dEq (mCall m__law_draw (mCons (mVar 0) (mCons (mC (.int 16)) (mNil)))) (mC (.int 0)))) (mC (.int 800)) (mCall m__law_draw (mCons (mVar 0) (mCons (mC (.int 61)) (mNil))))))
    (mSeq (mSet 2 (mIx (mLst (mCons (mC (.int 4)) (mCons (mC (.int 6)) (mCons (mC (.int 40)) (mNil))))) (mCall m__law_draw (mCons (mVar 0) (mCons (mC (.int 3)) (mNil))))))
    (mSeq (mSet 3 (mCall1 (c1 dTuple) (mCons (L_law_long_right_1) (mNil))))
    (mSeq (mSet 4 (mVar 3))
    (mSeq (F_law_long_right_2)
    (mSeq (mSet 7 (mCall m_least_word (mCons (mVar 3) (mNil))))
    (mSeq (mIfS (mOr (mTest (mOp dNe (mCall m_least_word (mCons (mVar 4) (mNil))) (mVar 7))) (mOr (mTest (mOp dNotB (mCall m_same_history (mCons (mVar 3) (mCons (mCall1 (c1 dList) (mCons (mVar 4) (mNil))) (mNil)))) (mC (.bl true)))) (mTest (mOp dNe (mCall1 (c1 dSort) (mCons (mVar 7) (mNil))) (mCall1 (c1 dSort) (mCons (mVar 3) (mNil))))))) (mRet (mC (.bl false))) (mNx))
    (mSeq (mIfS (mTest (mOp dNe (L_law_long_right_3) (mLst (mNil)))) (mRet (mC (.bl false))) (mNx))
    (mSeq (F_law_long_right_6)
    (mSeq (mIfS (mTest (mOp dGt (mVar 1) (mC (.int 1)))) (mSeq (mSet 6 (mCall m__law_draw (mCons (mVar 0) (mCons (mOp dSub (mVar 1) (mC (.int 1))) (mNil)))))
    (mSeq (mSet 9 (mAndV (mOp dNe (mIx (mVar 4) (mVar 6)) (mIx (mVar 4) (mOp dAdd (mVar 6) (mC (.int 1))))) (mNotV (mCall m__law_apart (mCons (mIx (mVar 4) (mVar 6)) (mCons (mIx (mVar 4) (mOp dAdd (mVar 6) (mC (.int 1)))) (mNil)))))))
    (mSeq (mIfS (mTest (mOp dEq (mCall m_same_history (mCons (mCall m__law_swapped (mCons (mVar 4) (mCons (mVar 6) (mNil)))) (mCons (mVar 3) (mNil)))) (mVar 9))) (mRet (mC (.bl false))) (mNx))
    (mSeq (mIfS (mTest (mOp dNotB (mCall m_same_history (mCons (mOp dAdd (mSl (mVar 4) (mNo) (mPart (mVar 6))) (mSl (mVar 4) (mPart (mOp dAdd (mVar 6) (mC (.int 1)))) (mNo))) (mCons (mVar 3) (mNil)))) (mC (.bl false)))) (mRet (mC (.bl false))) (mNx))
    (mIfS (mIfT (mTest (mOp dLt (mVar 1) (mC (.int 800)))) (mTest (mOp dNotB (mCall m_same_history (mCons (mVar 3) (mCons (mOp dAdd (mOp dAdd (mSl (mVar 4) (mNo) (mPart (mVar 6))) (mTup (mCons (mIx (mVar 4) (mVar 6)) (mNil)))) (mSl (mVar 4) (mPart (mVar 6)) (mNo))) (mNil)))) (mC (.bl false)))) (mTru (mC (.bl false)))) (mRet (mC (.bl false))) (mNx)))))) (mNx))
    (mRet (mC (.bl true))))))))))))
noncomputable def m__law_long_right : List D → M D := fnM 11 b__law_long_right
noncomputable def ty_law_refused_1 : MS :=
    mDrop (mCall m_same_history (mCons (mVar 0) (mCons (mVar 1) (mNil))))
noncomputable def ty_law_refused_2 : MS :=
    mDrop (mCall m_least_word (mCons (mIf (mTest (mOp dEq (mVar 1) (mLst (mNil)))) (mVar 0) (mVar 1)) (mNil)))
noncomputable def b__law_refused : MS :=
    mSeq (mSetF 2 (mThenA (mNil) fits?))
    (mSeq (mTryAs clX_BadWord 3 (ty_law_refused_1) (mPush 2 (mTup (mCons (mXf okX 3 "index") (mCons (mXf okX 3 "what") (mNil))))))
    (mSeq (mTryAs clX_BadWord 3 (ty_law_refused_2) (mPush 2 (mTup (mCons (mXf okX 3 "index") (mCons (mXf okX 3 "what") (mNil))))))
    (mRet (mVar 2))))
noncomputable def m__law_refused : List D → M D := fnM 4 b__law_refused
noncomputable def el_law_short_right_1 : ME :=
    mOp dSub (mCall m__law_draw (mCons (mVar 0) (mCons (mC (.int 6)) (mNil)))) (mC (.int 1))
noncomputable def L_law_short_right_1 : ME :=
    mLC (mThenA (mCons (mCall m__law_draw (mCons (mVar 0) (mCons (mC (.int 8)) (mNil)))) (mNil)) rng1?) [5] (gNm 5) (mYes) el_law_short_right_1
noncomputable def bd_law_short_right_2 : MS :=
    mIfS (mOr (mTest (mOp dNe (mCall m_least_word (mCons (mCall1 (c1 dList) (mCons (mVar 4) (mNil))) (mNil))) (mVar 3))) (mTest (mOp dNotB (mCall m_same_history (mCons (mCall1 (c1 dList) (mCons (mVar 1) (mNil))) (mCons (mVar 4) (mNil)))) (mC (.bl true))))) (mRet (mC (.bl false))) (mNx)
noncomputable def F_law_short_right_2 : MS :=
    mFor (mItems (mOp dAdd (mSl (mVar 2) (mNo) (mPart (mC (.int 12)))) (mLst (mCons (mIx (mVar 2) (mUn dNeg (mC (.int 1)))) (mNil))))) (gNm 4) bd_law_short_right_2
noncomputable def bd_law_short_right_3 : MS :=
    mSeq (mSetF 4 (mThenA (mCons (mVar 1) (mNil)) lst1?))
    (mSeq (mSet 6 (mCall m__law_draw (mCons (mVar 0) (mCons (mC (.int 4)) (mNil)))))
    (mSeq (mIfS (mAnd (mTest (mOp dNe (mVar 4) (mLst (mNil)))) (mTest (mOp dEq (mVar 6) (mC (.int 0))))) (mSetI 4 (mCall m__law_draw (mCons (mVar 0) (mCons (mCall1 (c1 dLen) (mCons (mVar 4) mNil)) (mNil)))) (mOp dSub (mCall m__law_draw (mCons (mVar 0) (mCons (mC (.int 6)) (mNil)))) (mC (.int 1)))) (mNx))
    (mSeq (mIfS (mAnd (mTest (mOp dGt (mCall1 (c1 dLen) (mCons (mVar 4) mNil)) (mC (.int 1)))) (mTest (mOp dEq (mVar 6) (mC (.int 1))))) (mSeq (mSet 7 (mCall m__law_draw (mCons (mVar 0) (mCons (mOp dSub (mCall1 (c1 dLen) (mCons (mVar 4) mNil)) (mC (.int 1))) (mNil)))))
    (mSetF 4 (mThenA (mCons (mCall m__law_swapped (mCons (mCall1 (c1 dTuple) (mCons (mVar 4) (mNil))) (mCons (mVar 7) (mNil)))) (mNil)) lst1?))) (mNx))
    (mSeq (mIfS (mAnd (mTest (mOp dGt (mCall1 (c1 dLen) (mCons (mVar 4) mNil)) (mC (.int 1)))) (mTest (mOp dEq (mVar 6) (mC (.int 2))))) (mSeq (mSet 8 (mCall m__law_draw (mCons (mVar 0) (mCons (mCall1 (c1 dLen) (mCons (mVar 4) mNil)) (mNil)))))
    (mSeq (mSet 9 (mCall m__law_draw (mCons (mVar 0) (mCons (mCall1 (c1 dLen) (mCons (mVar 4) mNil)) (mNil)))))
    (mSwapI 4 (mVar 8) (mVar 9) (mTup (mCons (mIx (mVar 4) (mVar 9)) (mCons (mIx (mVar 4) (mVar 8)) (mNil))))))) (mNx))
    (mSeq (mIfS (mTest (mOp dEq (mVar 6) (mC (.int 3)))) (mSetF 4 (mCat (mVar 4) (mLst (mCons (mOp dSub (mCall m__law_draw (mCons (mVar 0) (mCons (mC (.int 6)) (mNil)))) (mC (.int 1))) (mNil))))) (mNx))
    (mSeq (mSet 10 (mOp dInA (mCall1 (c1 dTuple) (mCons (mVar 4) mNil)) (mVar 2)))
    (mIfS (mOr (mTest (mOp dNe (mCall m_same_history (mCons (mVar 1) (mCons (mVar 4) (mNil)))) (mVar 10))) (mTest (mOp dNe (mCall m_same_history (mCons (mCall1 (c1 dTuple) (mCons (mVar 4) (mNil))) (mCons (mVar 1) (mNil)))) (mVar 10)))) (mRet (mC (.bl false))) (mNx))))))))
noncomputable def F_law_short_right_3 : MS :=
    mFor (mThenA (mCons (mC (.int 4)) (mNil)) rng1?) (gNm 5) bd_law_short_right_3
noncomputable def b__law_short_right : MS :=
    mSeq (mSet 1 (mCall1 (c1 dTuple) (mCons (L_law_short_right_1) (mNil))))
    (mSeq (mSet 2 (mCall m__law_lot (mCons (mVar 1) (mNil))))
    (mSeq (mSet 3 (mCall1 (c1 dMinTu) (mCons (mVar 2) (mNil))))
    (mSeq (mIfS (mOr (mTest (mOp dNe (mCall m_least_word (mCons (mVar 1) (mNil))) (mVar 3))) (mNot (mTru (mCall1 dIsi (mCons (mCall m_least_word (mCons (mCall1 (c1 dList) (mCons (mVar 1) (mNil))) (mNil))) (mCons (mC (.ty "tuple")) (mNil))))))) (mRet (mC (.bl false))) (mNx))
    (mSeq (F_law_short_right_2)
    (mSeq (F_law_short_right_3)
    (mRet (mC (.bl true))))))))
noncomputable def m__law_short_right : List D → M D := fnM 11 b__law_short_right
noncomputable def el_law_1 : ME :=
    mOp dSub (mCall m__law_draw (mCons (mVar 1) (mCons (mC (.int 40)) (mNil)))) (mC (.int 1))
noncomputable def L_law_1 : ME :=
    mLC (mThenA (mCons (mOp dAdd (mC (.int 1)) (mCall m__law_draw (mCons (mVar 1) (mCons (mC (.int 5)) (mNil))))) (mNil)) rng1?) [7] (gNm 7) (mYes) el_law_1
noncomputable def b_law : MS :=
    mSeq (mIfS (mOr (mNot (mTru (mCall m__law_short_right (mCons (mVar 1) (mNil))))) (mNot (mTru (mCall m__law_long_right (mCons (mVar 1) (mNil)))))) (mRet (mC (.bl false))) (mNx))
    (mSeq (mSet 2 (L_law_1))
    (mSeq (mSet 3 (mCall m__law_draw (mCons (mVar 1) (mCons (mCall1 (c1 dLen) (mCons (mVar 2) (mNil))) (mNil)))))
    (mSeq (mSetF 4 (mThenA (mCons (mVar 2) (mNil)) lst1?))
    (mSeq (mSetI 4 (mVar 3) (mIx (mLst (mCons (mUn dNeg (mC (.int 2))) (mCons (mC (.int 39)) (mCons (mC .non) (mCons (mC (.bl true)) (mCons (mC (.str "0")) (mCons (mTup (mCons (mC (.int 0)) (mCons (mC (.int 1)) (mNil)))) (mNil)))))))) (mCall m__law_draw (mCons (mVar 1) (mCons (mC (.int 6)) (mNil))))))
    (mSeq (mSet 5 (mTup (mCons (mVar 3) (mCons (mC (.str "pair")) (mNil)))))
    (mSeq (mIfS (mOr (mTest (mOp dNe (mCall m__law_refused (mCons (mVar 4) (mCons (mLst (mNil)) (mNil)))) (mLst (mCons (mVar 5) (mCons (mVar 5) (mNil)))))) (mTest (mOp dNe (mCall m__law_refused (mCons (mVar 2) (mCons (mOp dAdd (mVar 4) (mLst (mCons (mC (.int 99)) (mNil)))) (mNil)))) (mLst (mCons (mVar 5) (mCons (mVar 5) (mNil))))))) (mRet (mC (.bl false))) (mNx))
    (mSeq (mSet 6 (mIx (mLst (mCons (mC .non) (mCons (mC (.int 5)) (mCons (mC (.str "01")) (mCons (mOp dMul (mLst (mCons (mC (.int 0)) (mNil))) (mC (.int 801))) (mNil)))))) (mCall m__law_draw (mCons (mVar 1) (mCons (mC (.int 4)) (mNil))))))
    (mSeq (mIfS (mOr (mTest (mOp dNe (mCall m__law_refused (mCons (mVar 6) (mCons (mLst (mNil)) (mNil)))) (mLst (mCons (mTup (mCons (mC (.int 0)) (mCons (mC (.str "word")) (mNil)))) (mCons (mTup (mCons (mC (.int 0)) (mCons (mC (.str "word")) (mNil)))) (mNil)))))) (mTest (mOp dNe (mCall m__law_refused (mCons (mVar 4) (mCons (mVar 6) (mNil)))) (mLst (mCons (mVar 5) (mCons (mTup (mCons (mC (.int 0)) (mCons (mC (.str "word")) (mNil)))) (mNil))))))) (mRet (mC (.bl false))) (mNx))
    (mRet (mOp dEq (mCall m__law_refused (mCons (mVar 2) (mCons (mVar 2) (mNil)))) (mLst (mNil))))))))))))
end My

namespace My
open PySem PySem.Spec PyProof.Rows L2 DL
def topS (i : Nat) : Stmt := PySem.Challenge.pw_untoldgaps_k40_whole_words_of_one_histor.main.body.getD i (.Pass ⟨0, 0, 0, 0⟩)
abbrev s_BadWord___init__ : Stmt := inClass (topS 2) 0
abbrev n_BadWord___init__ : List Str := ["self", "index", "what"]
theorem sc_BadWord___init__ : ScS ["self", "index", "what"] (defScope s_BadWord___init__) := ⟨rfl, rfl, rfl, by decide +kernel, by decide +kernel, by decide +kernel, by decide +kernel, rfl, rfl⟩
abbrev s__law_apart : Stmt := topS 15
abbrev n__law_apart : List Str := ["_law_one", "_law_other"]
theorem sc__law_apart : FnScope n__law_apart ["_law_one", "_law_other"] (defScope s__law_apart) := ⟨rfl, rfl, rfl, by decide +kernel, rfl, by decide +kernel, by decide +kernel⟩
abbrev s__law_hand : Stmt := topS 13
abbrev n__law_hand : List Str := ["_law_script", "_law_total", "_law_k", "_law_cell"]
theorem sc__law_hand : FnScope n__law_hand ["_law_script"] (defScope s__law_hand) := ⟨rfl, rfl, rfl, by decide +kernel, rfl, by decide +kernel, by decide +kernel⟩
abbrev s__law_mix : Stmt := topS 12
abbrev n__law_mix : List Str := ["_law_number", "_law_turn", "_law_once", "_law_twice"]
theorem sc__law_mix : FnScope n__law_mix ["_law_number", "_law_turn"] (defScope s__law_mix) := ⟨rfl, rfl, rfl, by decide +kernel, rfl, by decide +kernel, by decide +kernel⟩
abbrev s__law_swapped : Stmt := topS 16
abbrev n__law_swapped : List Str := ["_law_word", "_law_k"]
theorem sc__law_swapped : FnScope n__law_swapped ["_law_word", "_law_k"] (defScope s__law_swapped) := ⟨rfl, rfl, rfl, by decide +kernel, rfl, by decide +kernel, by decide +kernel⟩
abbrev s__law_draw : Stmt := topS 14
abbrev n__law_draw : List Str := ["_law_hand_here", "_law_many", "_law_cell", "_law_rest"]
theorem sc__law_draw : FnScope n__law_draw ["_law_hand_here", "_law_many"] (defScope s__law_draw) := ⟨rfl, rfl, rfl, by decide +kernel, rfl, by decide +kernel, by decide +kernel⟩
abbrev s__law_lot : Stmt := topS 17
abbrev n__law_lot : List Str := ["_law_word", "_law_found", "_law_known", "_law_one", "_law_k", "_law_other"]
theorem sc__law_lot : FnScope n__law_lot ["_law_word"] (defScope s__law_lot) := ⟨rfl, rfl, rfl, by decide +kernel, rfl, by decide +kernel, by decide +kernel⟩
abbrev s_check_plain : Stmt := topS 7
abbrev n_check_plain : List Str := ["word", "at", "pair"]
theorem sc_check_plain : FnScope n_check_plain ["word"] (defScope s_check_plain) := ⟨rfl, rfl, rfl, by decide +kernel, rfl, by decide +kernel, by decide +kernel⟩
abbrev s_least_word : Stmt := topS 9
abbrev n_least_word : List Str := ["word", "found", "pair", "at"]
theorem sc_least_word : FnScope n_least_word ["word"] (defScope s_least_word) := ⟨rfl, rfl, rfl, by decide +kernel, rfl, by decide +kernel, by decide +kernel⟩
abbrev s_same_history : Stmt := topS 10
abbrev n_same_history : List Str := ["one", "other", "first"]
theorem sc_same_history : FnScope n_same_history ["one", "other"] (defScope s_same_history) := ⟨rfl, rfl, rfl, by decide +kernel, rfl, by decide +kernel, by decide +kernel⟩
abbrev s__law_long_right : Stmt := topS 19
abbrev n__law_long_right : List Str := ["_law_hand_here", "_law_many", "_law_wide", "_law_word", "_law_other", "_law_k", "_law_at", "_law_least", "_law_p", "_law_near", "_law_q"]
theorem sc__law_long_right : FnScope n__law_long_right ["_law_hand_here"] (defScope s__law_long_right) := ⟨rfl, rfl, rfl, by decide +kernel, rfl, by decide +kernel, by decide +kernel⟩
abbrev s__law_refused : Stmt := topS 20
abbrev n__law_refused : List Str := ["_law_word", "_law_other", "_law_told", "e"]
theorem sc__law_refused : FnScope n__law_refused ["_law_word", "_law_other"] (defScope s__law_refused) := ⟨rfl, rfl, rfl, by decide +kernel, rfl, by decide +kernel, by decide +kernel⟩
abbrev s__law_short_right : Stmt := topS 18
abbrev n__law_short_right : List Str := ["_law_hand_here", "_law_word", "_law_lot_here", "_law_least", "_law_other", "_law_k", "_law_kind", "_law_at", "_law_one", "_law_two", "_law_due"]
theorem sc__law_short_right : FnScope n__law_short_right ["_law_hand_here"] (defScope s__law_short_right) := ⟨rfl, rfl, rfl, by decide +kernel, rfl, by decide +kernel, by decide +kernel⟩
abbrev s_law : Stmt := topS 21
abbrev n_law : List Str := ["_law_script", "_law_hand_here", "_law_word", "_law_at", "_law_odd", "_law_due", "_law_none", "_law_k"]
theorem sc_law : FnScope n_law ["_law_script"] (defScope s_law) := ⟨rfl, rfl, rfl, by decide +kernel, rfl, by decide +kernel, by decide +kernel⟩
structure Txt (P : Program) (G : Glb) (mg : Str → Option Value) (fa : Nat → Addr) (fd : Nat → FuncData) : Prop where
  tb0 : G.tb = []
  g_GapError : mg "GapError" = some (.ref (G.cl 0))
  g_BadWord : mg "BadWord" = some (.ref (G.cl 1))
  d_BadWord___init__ : MetS P G.K "__init__" "BadWord.__init__" s_BadWord___init__ ["self", "index", "what"] (G.cl 1) (fa 0) (fd 0)
  u_BadWord : SupT P G.K mg (G.cl 1)
  d__law_apart : DefOk G.K mg "_law_apart" s__law_apart ["_law_one", "_law_other"] (fa 1) (fd 1)
  d__law_hand : DefOk G.K mg "_law_hand" s__law_hand ["_law_script"] (fa 2) (fd 2)
  d__law_mix : DefOk G.K mg "_law_mix" s__law_mix ["_law_number", "_law_turn"] (fa 3) (fd 3)
  d__law_swapped : DefOk G.K mg "_law_swapped" s__law_swapped ["_law_word", "_law_k"] (fa 4) (fd 4)
  d__law_draw : DefOk G.K mg "_law_draw" s__law_draw ["_law_hand_here", "_law_many"] (fa 5) (fd 5)
  d__law_lot : DefOk G.K mg "_law_lot" s__law_lot ["_law_word"] (fa 6) (fd 6)
  d_check_plain : DefOk G.K mg "check_plain" s_check_plain ["word"] (fa 7) (fd 7)
  d_least_word : DefOk G.K mg "least_word" s_least_word ["word"] (fa 8) (fd 8)
  d_same_history : DefOk G.K mg "same_history" s_same_history ["one", "other"] (fa 9) (fd 9)
  d__law_long_right : DefOk G.K mg "_law_long_right" s__law_long_right ["_law_hand_here"] (fa 10) (fd 10)
  d__law_refused : DefOk G.K mg "_law_refused" s__law_refused ["_law_word", "_law_other"] (fa 11) (fd 11)
  d__law_short_right : DefOk G.K mg "_law_short_right" s__law_short_right ["_law_hand_here"] (fa 12) (fd 12)
  d_law : DefOk G.K mg "law" s_law ["_law_script"] (fa 13) (fd 13)
  n_abs : mg "abs" = none
  n_bool : mg "bool" = none
  n_enumerate : mg "enumerate" = none
  n_int : mg "int" = none
  n_isinstance : mg "isinstance" = none
  n_len : mg "len" = none
  n_list : mg "list" = none
  n_min : mg "min" = none
  n_range : mg "range" = none
  n_sorted : mg "sorted" = none
  n_str : mg "str" = none
  n_super : mg "super" = none
  n_tuple : mg "tuple" = none
  k_LEAST_PAIR : ∃ t, mg "LEAST_PAIR" = some (.int (-1) t)
  k_GREATEST_PAIR : ∃ t, mg "GREATEST_PAIR" = some (.int (38) t)
  k_LONGEST : ∃ t, mg "LONGEST" = some (.int (800) t)
  x_BadWord : OexT G mg "BadWord" 1 (fa 0) ["index", "what"]
  okX : ∀ c f, okX c f = true → XfC G.K (G.cl c) ∧ PySem.W.findIn G.K (.ref (G.cl c)) f = some none
  clX_BadWord : ∀ c b, clX_BadWord c = some b → PySem.W.exmOne G.K (.ref (G.cl c)) (.ref (G.cl 1)) = some b
section
variable {P : Program} {w : World} {G : Glb} {mg : Str → Option Value} {base : Heap} {fa : Nat → Addr} {fd : Nat → FuncData}
theorem ok_BadWord___init__ (T : Txt P G mg fa fd) : FnOk P w G.K mg base (L2.CX P w) 1 (fa 0) (fd 0) ["self", "index", "what"] (spXP (G.cl 1) ["index", "what"] okInt0V) :=
  fnSup2 (P := P) (w := w) (mg := mg) (base := base) (k := 0) okInt0V T.d_BadWord___init__.F sc_BadWord___init__ T.u_BadWord (T.okX 1 "index" (by decide +kernel)).2 (T.okX 1 "what" (by decide +kernel)).2 rfl rfl rfl (fun X a v u H eN esc emg hok => (by obtain ⟨i0, r0, e0, hz⟩ := hok; cases e0; exact (ao_cons eo_str (ao_cons (eo_strInt 1 rfl hz (by show X.env.scope.names.lookup ("str" : Str) = _; rw [esc]; rfl) (by rw [emg]; exact T.n_str) (by rw [eN]; rfl) (.inl (by rw [esc]; rfl))) (ao_cons (eo_var 2 rfl (by rw [eN]; rfl) (.inl (by rw [esc]; rfl))) ao_nil))))) (by decide)
theorem ok__law_apart (T : Txt P G mg fa fd) : FnOk P w G.K mg base (L2.CX P w) 1 (fa 1) (fd 1) ["_law_one", "_law_other"] (spD G 2 m__law_apart) :=
  have h := fnD (P := P) (w := w) (mg := mg) (base := base) (G := G) (N := n__law_apart) (ps := ["_law_one", "_law_other"]) (k := 0) (m := b__law_apart) (O' := {}) T.d__law_apart.F sc__law_apart rfl fun cdv A outer s H E c xt =>
    (dss_one (ds_ret (de_or (de_cmp op_ge opd_ge (de_op op_sub opd_sub (de_var 0) (de_var 1)) de_int) (de_one (de_cmp op_ge opd_ge (de_op op_sub opd_sub (de_var 1) (de_var 0)) de_int)))))
  h
theorem ok__law_hand (T : Txt P G mg fa fd) : FnOk P w G.K mg base (L2.CX P w) 1 (fa 2) (fd 2) ["_law_script"] (spD G 1 m__law_hand) :=
  have h := fnD (P := P) (w := w) (mg := mg) (base := base) (G := G) (N := n__law_hand) (ps := ["_law_script"]) (k := 0) (m := b__law_hand) (O' := {}) T.d__law_hand.F sc__law_hand rfl fun cdv A outer s H E c xt =>
    (dss_cons (ds_set 1 sc__law_hand.nd de_int)
    (dss_cons (ds_for c (di_enum c.K T.n_enumerate (da_cons (de_var 0) da_nil)) (dg_tup c.calm c.K (dgs_cons (dg_name 2 sc__law_hand.nd) (dgs_cons (dg_name 3 sc__law_hand.nd) dgs_nil)) (gsCons_len (gsCons_len gsNil_len))) (dss_one (ds_set 1 sc__law_hand.nd (de_op op_modD opd_mod (de_callTy call_int1 cd_int T.n_int PyProof.Rows.boot_int (da_cons (de_op op_addD (opd_add c.K) (de_op op_mulD3 (opd_mul c.K) (de_var 1) de_int) (de_op op_mulD3 (opd_mul c.K) (de_callTy call_int1 cd_int T.n_int PyProof.Rows.boot_int (da_cons (de_var 3) da_nil)) (de_op op_addD (opd_add c.K) (de_var 2) de_int))) da_nil)) de_int))))
    (dss_one (ds_ret (de_lst (da_cons (de_lc c sc__law_hand.nd (di_seq c.K (de_var 0)) (blkOk_by (own := [("_law_cell", 3)]) (N := n__law_hand) (sc := defScope s__law_hand) (by decide +kernel)) (fun _ _ _ _ _ => (dg_name 3 sc__law_hand.nd)) (fun _ _ _ _ _ cb => dts_nil) (fun _ _ _ _ _ cb => (de_callB call_abs cd_abs T.n_abs PyProof.Rows.boot_abs (da_cons (de_callTy call_int1 cd_int T.n_int PyProof.Rows.boot_int (da_cons (de_var 3) da_nil)) da_nil)))) (da_cons de_int (da_cons de_int (da_cons (de_var 1) da_nil)))))))))
  h
theorem ok__law_mix (T : Txt P G mg fa fd) : FnOk P w G.K mg base (L2.CX P w) 1 (fa 3) (fd 3) ["_law_number", "_law_turn"] (spD G 2 m__law_mix) :=
  have h := fnD (P := P) (w := w) (mg := mg) (base := base) (G := G) (N := n__law_mix) (ps := ["_law_number", "_law_turn"]) (k := 0) (m := b__law_mix) (O' := {}) T.d__law_mix.F sc__law_mix rfl fun cdv A outer s H E c xt =>
    (dss_cons (ds_set 2 sc__law_mix.nd (de_op op_modD opd_mod (de_callTy call_int1 cd_int T.n_int PyProof.Rows.boot_int (da_cons (de_op op_addD (opd_add c.K) (de_op op_addD (opd_add c.K) (de_op op_mulD3 (opd_mul c.K) (de_var 0) de_int) (de_op op_mulD3 (opd_mul c.K) (de_var 1) de_int)) de_int) da_nil)) de_int))
    (dss_cons (ds_set 3 sc__law_mix.nd (de_op op_modD opd_mod (de_callTy call_int1 cd_int T.n_int PyProof.Rows.boot_int (da_cons (de_op op_addD (opd_add c.K) (de_op op_addD (opd_add c.K) (de_op op_mulD3 (opd_mul c.K) (de_var 2) (de_var 2)) (de_op op_mulD3 (opd_mul c.K) (de_op op_divD opd_div (de_var 2) de_int) de_int)) (de_op op_mulD3 (opd_mul c.K) (de_var 1) de_int)) da_nil)) de_int))
    (dss_one (ds_ret (de_op op_divD opd_div (de_op op_modD opd_mod (de_callTy call_int1 cd_int T.n_int PyProof.Rows.boot_int (da_cons (de_op op_addD (opd_add c.K) (de_op op_divD opd_div (de_op op_mulD3 (opd_mul c.K) (de_var 3) (de_var 3)) de_int) (de_var 2)) da_nil)) de_int) de_int)))))
  h
theorem ok__law_swapped (T : Txt P G mg fa fd) : FnOk P w G.K mg base (L2.CX P w) 1 (fa 4) (fd 4) ["_law_word", "_law_k"] (spD G 2 m__law_swapped) :=
  have h := fnD (P := P) (w := w) (mg := mg) (base := base) (G := G) (N := n__law_swapped) (ps := ["_law_word", "_law_k"]) (k := 0) (m := b__law_swapped) (O' := {}) T.d__law_swapped.F sc__law_swapped rfl fun cdv A outer s H E c xt =>
    (dss_one (ds_ret (de_op op_addD (opd_add c.K) (de_op op_addD (opd_add c.K) (de_slice c.K (de_var 0) do_none (do_some (de_var 1))) (de_tup (da_cons (de_get c.K (de_var 0) (de_op op_addD (opd_add c.K) (de_var 1) de_int)) (da_cons (de_get c.K (de_var 0) (de_var 1)) da_nil)))) (de_slice c.K (de_var 0) (do_some (de_op op_addD (opd_add c.K) (de_var 1) de_int)) do_none))))
  h
theorem ok__law_draw (T : Txt P G mg fa fd) : FnOk P w G.K mg base (L2.CX P w) 2 (fa 5) (fd 5) ["_law_hand_here", "_law_many"] (spD G 2 m__law_draw) :=
  have h := fnD (P := P) (w := w) (mg := mg) (base := base) (G := G) (N := n__law_draw) (ps := ["_law_hand_here", "_law_many"]) (k := 1) (m := b__law_draw) (O' := {}) T.d__law_draw.F sc__law_draw rfl fun cdv A outer s H E c xt =>
    (dss_cons (ds_if (dw_and (dt_cmp (op_eqD c.hr.units) (opd_eq c.K) (de_get c.K (de_var 0) de_int) de_int) (dw_and1 (dt_cmp op_lt opd_lt (de_get c.K (de_var 0) de_int) (de_callB call_len (cd_len c.K) T.n_len PySem.boot_len (da_cons (de_get c.K (de_var 0) de_int) da_nil))))).dt (dss_cons (ds_set 2 sc__law_draw.nd (de_get c.K (de_get c.K (de_var 0) de_int) (de_get c.K (de_var 0) de_int)))
    (dss_cons (ds_put 0 (de_op op_addD (opd_add c.K) (de_get c.K (de_var 0) de_int) de_int))
    (dss_cons (ds_if (dt_cmp op_lt opd_lt (de_var 2) (de_op op_pow opd_pow de_int de_int)) (dss_one (ds_ret (de_op op_modD opd_mod (de_callTy call_int1 cd_int T.n_int PyProof.Rows.boot_int (da_cons (de_call c (ok__law_mix T) T.d__law_mix.g T.d__law_mix.kp T.d__law_mix.b (da_cons (de_op op_modD opd_mod (de_callTy call_int1 cd_int T.n_int PyProof.Rows.boot_int (da_cons (de_var 2) da_nil)) de_int) (da_cons (de_get c.K (de_var 0) de_int) da_nil)) (by decide) (len_cons (len_cons len_nil))) da_nil)) (de_var 1)))) dss_nil)
    (dss_one (ds_put 0 (de_var 2)))))) dss_nil)
    (dss_cons (ds_if (dt_cmp op_gt opd_gt (de_get c.K (de_var 0) de_int) de_int) (dss_cons (ds_set 3 sc__law_draw.nd (de_get c.K (de_var 0) de_int))
    (dss_cons (ds_put 0 (de_op op_divD opd_div (de_var 3) (de_var 1)))
    (dss_one (ds_ret (de_op op_modD opd_mod (de_callTy call_int1 cd_int T.n_int PyProof.Rows.boot_int (da_cons (de_var 3) da_nil)) (de_var 1)))))) dss_nil)
    (dss_cons (ds_put 0 (de_op op_modD opd_mod (de_callTy call_int1 cd_int T.n_int PyProof.Rows.boot_int (da_cons (de_op op_addD (opd_add c.K) (de_get c.K (de_var 0) de_int) de_int) da_nil)) de_int))
    (dss_one (ds_ret (de_op op_modD opd_mod (de_callTy call_int1 cd_int T.n_int PyProof.Rows.boot_int (da_cons (de_call c (ok__law_mix T) T.d__law_mix.g T.d__law_mix.kp T.d__law_mix.b (da_cons (de_get c.K (de_var 0) de_int) (da_cons (de_get c.K (de_var 0) de_int) da_nil)) (by decide) (len_cons (len_cons len_nil))) da_nil)) (de_var 1)))))))
  h
theorem ok__law_lot (T : Txt P G mg fa fd) : FnOk P w G.K mg base (L2.CX P w) 2 (fa 6) (fd 6) ["_law_word"] (spD G 1 m__law_lot) :=
  have h := fnD (P := P) (w := w) (mg := mg) (base := base) (G := G) (N := n__law_lot) (ps := ["_law_word"]) (k := 1) (m := b__law_lot) (O' := {}) T.d__law_lot.F sc__law_lot rfl fun cdv A outer s H E c xt =>
    (dss_cons (ds_own 1 sc__law_lot.nd (df_lst (da_cons (de_var 0) da_nil)))
    (dss_cons (ds_for c (di_range1 T.n_range (da_cons de_int da_nil)) (dg_name 2 sc__law_lot.nd) (dss_cons (ds_if (dt_cmp op_ge opd_ge (de_var 2) (de_lenO 1 (hmg := T.n_len))) (dss_one ds_break) dss_nil)
    (dss_cons (ds_set 3 sc__law_lot.nd (de_getO 1 (de_var 2)))
    (dss_one (ds_for c (di_range1 T.n_range (da_cons (de_op op_sub opd_sub (de_callB call_len (cd_len c.K) T.n_len PySem.boot_len (da_cons (de_var 3) da_nil)) de_int) da_nil)) (dg_name 4 sc__law_lot.nd) (dss_one (ds_if (dt_tru c.K (de_call c (ok__law_apart T) T.d__law_apart.g T.d__law_apart.kp T.d__law_apart.b (da_cons (de_get c.K (de_var 3) (de_var 4)) (da_cons (de_get c.K (de_var 3) (de_op op_addD (opd_add c.K) (de_var 4) de_int)) da_nil)) (by decide) (len_cons (len_cons len_nil)))) (dss_cons (ds_set 5 sc__law_lot.nd (de_call c (ok__law_swapped T) T.d__law_swapped.g T.d__law_swapped.kp T.d__law_swapped.b (da_cons (de_var 3) (da_cons (de_var 4) da_nil)) (by decide) (len_cons (len_cons len_nil))))
    (dss_one (ds_if (dt_notInO 1 c.K c.u65 (de_var 5)) (dss_one (ds_push 1 (de_var 5))) dss_nil))) dss_nil)))))))
    (dss_freeze 1 (dss_one (ds_ret (de_var 1))))))
  h
theorem ok_check_plain (T : Txt P G mg fa fd) : FnOk P w G.K mg base (L2.CX P w) 3 (fa 7) (fd 7) ["word"] (spD G 1 m_check_plain) :=
  have h := fnD (P := P) (w := w) (mg := mg) (base := base) (G := G) (N := n_check_plain) (ps := ["word"]) (k := 2) (m := b_check_plain) (O' := {}) T.d_check_plain.F sc_check_plain rfl fun cdv A outer s H E c xt =>
    (dss_cons (ds_if (dw_or (dt_not (dt_tru c.K (de_callB (CallR.or call_isi (CallR.or call_isiT call_isiK)) (cd_isi c.K) T.n_isinstance PyProof.Rows.boot_isinstance (da_cons (de_var 0) (da_cons (de_tup (da_cons (de_globT "list" T.n_list boot_list) (da_cons (de_globT "tuple" T.n_tuple boot_tuple) da_nil))) da_nil))))) (dw_or1 (dt_cmp op_gt opd_gt (de_callB call_len (cd_len c.K) T.n_len PySem.boot_len (da_cons (de_var 0) da_nil)) (de_globK T.k_LONGEST)))).dt (dss_one (ds_raiseG c T.x_BadWord (ok_BadWord___init__ T) (fun ad S vs ds => hk_int0 ad S vs ds) T.d_BadWord___init__.b (da_cons de_int (da_cons de_str da_nil)))) dss_nil)
    (dss_cons (ds_for c (di_enumA c.K T.n_enumerate (da_cons (de_var 0) da_nil)) (dg_tup c.calm c.K (dgs_cons (dg_name 1 sc_check_plain.nd) (dgs_cons (dg_name 2 sc_check_plain.nd) dgs_nil)) (gsCons_len (gsCons_len gsNil_len))) (dss_one (ds_if (dw_or (dt_not (dt_tru c.K (de_callB (CallR.or call_isi (CallR.or call_isiT call_isiK)) (cd_isi c.K) T.n_isinstance PyProof.Rows.boot_isinstance (da_cons (de_var 2) (da_cons (de_globT "int" T.n_int boot_int) da_nil))))) (dw_or (dt_tru c.K (de_callB (CallR.or call_isi (CallR.or call_isiT call_isiK)) (cd_isi c.K) T.n_isinstance PyProof.Rows.boot_isinstance (da_cons (de_var 2) (da_cons (de_globT "bool" T.n_bool (by decide +kernel)) da_nil)))) (dw_or1 (dt_not (dt_chain op_le opd_le op_le opd_le (de_globK T.k_LEAST_PAIR) (de_var 2) (de_globK T.k_GREATEST_PAIR)))))).dt (dss_one (ds_raiseG c T.x_BadWord (ok_BadWord___init__ T) (fun ad S vs ds => hk_int0 ad S vs ds) T.d_BadWord___init__.b (da_cons (de_var 1) (da_cons de_str da_nil)))) dss_nil)))
    (dss_one (ds_ret (de_callTy call_tuple_of (cd_tuple c.K) T.n_tuple PyProof.Rows.boot_tuple (da_cons (de_var 0) da_nil))))))
  h
theorem ok_least_word (T : Txt P G mg fa fd) : FnOk P w G.K mg base (L2.CX P w) 4 (fa 8) (fd 8) ["word"] (spD G 1 m_least_word) :=
  have h := fnD (P := P) (w := w) (mg := mg) (base := base) (G := G) (N := n_least_word) (ps := ["word"]) (k := 3) (m := b_least_word) (O' := {}) T.d_least_word.F sc_least_word rfl fun cdv A outer s H E c xt =>
    (dss_cons (ds_own 1 sc_least_word.nd (df_lst da_nil))
    (dss_cons (ds_for c (di_seq c.K (de_call c (ok_check_plain T) T.d_check_plain.g T.d_check_plain.kp T.d_check_plain.b (da_cons (de_var 0) da_nil) (by decide) (len_cons len_nil))) (dg_name 2 sc_least_word.nd) (dss_cons (ds_set 3 sc_least_word.nd (de_lenO 1 (hmg := T.n_len)))
    (dss_cons (ds_while c (dw_and (dt_cmp op_gt opd_gt (de_var 3) de_int) (dw_and1 (dt_cmp op_gt opd_gt (de_getO 1 (de_op op_sub opd_sub (de_var 3) de_int)) (de_op op_addD (opd_add c.K) (de_var 2) de_int)))).dt (dss_one (ds_augI 3 sc_least_word.nd ip_sub de_int)))
    (dss_one (ds_ins 1 (de_var 3) (de_var 2))))))
    (dss_one (ds_ret (de_tupO 1 c.K (hmg := T.n_tuple))))))
  h
theorem ok_same_history (T : Txt P G mg fa fd) : FnOk P w G.K mg base (L2.CX P w) 5 (fa 9) (fd 9) ["one", "other"] (spD G 2 m_same_history) :=
  have h := fnD (P := P) (w := w) (mg := mg) (base := base) (G := G) (N := n_same_history) (ps := ["one", "other"]) (k := 4) (m := b_same_history) (O' := {}) T.d_same_history.F sc_same_history rfl fun cdv A outer s H E c xt =>
    (dss_cons (ds_set 2 sc_same_history.nd (de_call c (ok_least_word T) T.d_least_word.g T.d_least_word.kp T.d_least_word.b (da_cons (de_var 0) da_nil) (by decide) (len_cons len_nil)))
    (dss_one (ds_ret (de_cmp (op_eqD c.hr.units) (opd_eq c.K) (de_var 2) (de_call c (ok_least_word T) T.d_least_word.g T.d_least_word.kp T.d_least_word.b (da_cons (de_var 1) da_nil) (by decide) (len_cons len_nil))))))
  h
theorem ok__law_long_right (T : Txt P G mg fa fd) : FnOk P w G.K mg base (L2.CX P w) 6 (fa 10) (fd 10) ["_law_hand_here"] (spD G 1 m__law_long_right) :=
  have h := fnD (P := P) (w := w) (mg := mg) (base := base) (G := G) (N := n__law_long_right) (ps := ["_law_hand_here"]) (k := 5) (m := b__law_long_right) (O' := {}) T.d__law_long_right.F sc__law_long_right rfl fun cdv A outer s H E c xt =>
    (dss_cons (ds_set 1 sc__law_long_right.nd (de_if (dt_cmp (op_eqD c.hr.units) (opd_eq c.K) (de_call c (ok__law_draw T) T.d__law_draw.g T.d__law_draw.kp T.d__law_draw.b (da_cons (de_var 0) (da_cons de_int da_nil)) (by decide) (len_cons (len_cons len_nil))) de_int) de_int (de_call c (ok__law_draw T) T.d__law_draw.g T.d__law_draw.kp T.d__law_draw.b (da_cons (de_var 0) (da_cons de_int da_nil)) (by decide) (len_cons (len_cons len_nil)))))
    (dss_cons (ds_set 2 sc__law_long_right.nd (de_get c.K (de_lst (da_cons de_int (da_cons de_int (da_cons de_int da_nil)))) (de_call c (ok__law_draw T) T.d__law_draw.g T.d__law_draw.kp T.d__law_draw.b (da_cons (de_var 0) (da_cons de_int da_nil)) (by decide) (len_cons (len_cons len_nil)))))
    (dss_cons (ds_set 3 sc__law_long_right.nd (de_callTy call_tuple_of (cd_tuple c.K) T.n_tuple PyProof.Rows.boot_tuple (da_cons (de_lc c sc__law_long_right.nd (di_range1 T.n_range (da_cons (de_var 1) da_nil)) (blkOk_by (own := [("_law_k", 5)]) (N := n__law_long_right) (sc := defScope s__law_long_right) (by decide +kernel)) (fun _ _ _ _ _ => (dg_name 5 sc__law_long_right.nd)) (fun _ _ _ _ _ cb => dts_nil) (fun _ _ _ _ _ cb => (de_op op_sub opd_sub (de_call cb (ok__law_draw T) T.d__law_draw.g T.d__law_draw.kp T.d__law_draw.b (da_cons (de_var 0) (da_cons (de_var 2) da_nil)) (by decide) (len_cons (len_cons len_nil))) de_int))) da_nil)))
    (dss_cons (ds_set 4 sc__law_long_right.nd (de_var 3))
    (dss_cons (ds_for c (di_range1 T.n_range (da_cons (de_call c (ok__law_draw T) T.d__law_draw.g T.d__law_draw.kp T.d__law_draw.b (da_cons (de_var 0) (da_cons de_int da_nil)) (by decide) (len_cons (len_cons len_nil))) da_nil)) (dg_name 5 sc__law_long_right.nd) (dss_one (ds_if (dt_cmp op_gt opd_gt (de_var 1) de_int) (dss_cons (ds_set 6 sc__law_long_right.nd (de_call c (ok__law_draw T) T.d__law_draw.g T.d__law_draw.kp T.d__law_draw.b (da_cons (de_var 0) (da_cons (de_op op_sub opd_sub (de_var 1) de_int) da_nil)) (by decide) (len_cons (len_cons len_nil))))
    (dss_one (ds_if (dt_tru c.K (de_call c (ok__law_apart T) T.d__law_apart.g T.d__law_apart.kp T.d__law_apart.b (da_cons (de_get c.K (de_var 4) (de_var 6)) (da_cons (de_get c.K (de_var 4) (de_op op_addD (opd_add c.K) (de_var 6) de_int)) da_nil)) (by decide) (len_cons (len_cons len_nil)))) (dss_one (ds_set 4 sc__law_long_right.nd (de_call c (ok__law_swapped T) T.d__law_swapped.g T.d__law_swapped.kp T.d__law_swapped.b (da_cons (de_var 4) (da_cons (de_var 6) da_nil)) (by decide) (len_cons (len_cons len_nil))))) dss_nil))) dss_nil)))
    (dss_cons (ds_set 7 sc__law_long_right.nd (de_call c (ok_least_word T) T.d_least_word.g T.d_least_word.kp T.d_least_word.b (da_cons (de_var 3) da_nil) (by decide) (len_cons len_nil)))
    (dss_cons (ds_if (dw_or (dt_cmp (op_neD c.hr.units) (opd_ne c.K) (de_call c (ok_least_word T) T.d_least_word.g T.d_least_word.kp T.d_least_word.b (da_cons (de_var 4) da_nil) (by decide) (len_cons len_nil)) (de_var 7)) (dw_or (dt_cmp op_isnot_bl opd_notB (de_call c (ok_same_history T) T.d_same_history.g T.d_same_history.kp T.d_same_history.b (da_cons (de_var 3) (da_cons (de_callTy call_list_of (cd_list c.K) T.n_list PyProof.Rows.boot_list (da_cons (de_var 4) da_nil)) da_nil)) (by decide) (len_cons (len_cons len_nil))) de_bl) (dw_or1 (dt_cmp (op_neD c.hr.units) (opd_ne c.K) (de_callB cr_sortedT1 (cd_sort c.K) T.n_sorted boot_sorted (da_cons (de_var 7) da_nil)) (de_callB cr_sortedT1 (cd_sort c.K) T.n_sorted boot_sorted (da_cons (de_var 3) da_nil)))))).dt (dss_one (ds_ret de_bl)) dss_nil)
    (dss_cons (ds_if (dt_cmp (op_neD c.hr.units) (opd_ne c.K) (de_lc c sc__law_long_right.nd (di_range1 T.n_range (da_cons (de_op op_sub opd_sub (de_var 1) de_int) da_nil)) (blkOk_by (own := [("_law_k", 5)]) (N := n__law_long_right) (sc := defScope s__law_long_right) (by decide +kernel)) (fun _ _ _ _ _ => (dg_name 5 sc__law_long_right.nd)) (fun _ _ _ _ _ cb => (dts_one (dw_and (dt_tru cb.K (de_call cb (ok__law_apart T) T.d__law_apart.g T.d__law_apart.kp T.d__law_apart.b (da_cons (de_get cb.K (de_var 7) (de_var 5)) (da_cons (de_get cb.K (de_var 7) (de_op op_addD (opd_add cb.K) (de_var 5) de_int)) da_nil)) (by decide) (len_cons (len_cons len_nil)))) (dw_and1 (dt_cmp op_gt opd_gt (de_get cb.K (de_var 7) (de_var 5)) (de_get cb.K (de_var 7) (de_op op_addD (opd_add cb.K) (de_var 5) de_int))))).dt)) (fun _ _ _ _ _ cb => (de_var 5))) (de_lst da_nil)) (dss_one (ds_ret de_bl)) dss_nil)
    (dss_cons (ds_for c (di_range2 T.n_range (da_cons (de_un un_neg und_neg de_int) (da_cons (de_op op_sub opd_sub (de_var 2) de_int) da_nil))) (dg_name 8 sc__law_long_right.nd) (dss_one (ds_if (dt_cmp (op_neD c.hr.units) (opd_ne c.K) (de_lc c sc__law_long_right.nd (di_seq c.K (de_var 3)) (blkOk_by (own := [("_law_q", 10)]) (N := n__law_long_right) (sc := defScope s__law_long_right) (by decide +kernel)) (fun _ _ _ _ _ => (dg_name 10 sc__law_long_right.nd)) (fun _ _ _ _ _ cb => (dts_one (dw_or (dt_cmp (op_eqD cb.hr.units) (opd_eq cb.K) (de_var 10) (de_var 8)) (dw_or1 (dt_cmp (op_eqD cb.hr.units) (opd_eq cb.K) (de_var 10) (de_op op_addD (opd_add cb.K) (de_var 8) de_int)))).dt)) (fun _ _ _ _ _ cb => (de_var 10))) (de_lc c sc__law_long_right.nd (di_seq c.K (de_var 7)) (blkOk_by (own := [("_law_q", 10)]) (N := n__law_long_right) (sc := defScope s__law_long_right) (by decide +kernel)) (fun _ _ _ _ _ => (dg_name 10 sc__law_long_right.nd)) (fun _ _ _ _ _ cb => (dts_one (dw_or (dt_cmp (op_eqD cb.hr.units) (opd_eq cb.K) (de_var 10) (de_var 8)) (dw_or1 (dt_cmp (op_eqD cb.hr.units) (opd_eq cb.K) (de_var 10) (de_op op_addD (opd_add cb.K) (de_var 8) de_int)))).dt)) (fun _ _ _ _ _ cb => (de_var 10)))) (dss_one (ds_ret de_bl)) dss_nil)))
    (dss_cons (ds_if (dt_cmp op_gt opd_gt (de_var 1) de_int) (dss_cons (ds_set 6 sc__law_long_right.nd (de_call c (ok__law_draw T) T.d__law_draw.g T.d__law_draw.kp T.d__law_draw.b (da_cons (de_var 0) (da_cons (de_op op_sub opd_sub (de_var 1) de_int) da_nil)) (by decide) (len_cons (len_cons len_nil))))
    (dss_cons (ds_set 9 sc__law_long_right.nd (de_and (de_cmp (op_neD c.hr.units) (opd_ne c.K) (de_get c.K (de_var 4) (de_var 6)) (de_get c.K (de_var 4) (de_op op_addD (opd_add c.K) (de_var 6) de_int))) (de_one (de_not (de_call c (ok__law_apart T) T.d__law_apart.g T.d__law_apart.kp T.d__law_apart.b (da_cons (de_get c.K (de_var 4) (de_var 6)) (da_cons (de_get c.K (de_var 4) (de_op op_addD (opd_add c.K) (de_var 6) de_int)) da_nil)) (by decide) (len_cons (len_cons len_nil)))))))
    (dss_cons (ds_if (dt_cmp (op_eqD c.hr.units) (opd_eq c.K) (de_call c (ok_same_history T) T.d_same_history.g T.d_same_history.kp T.d_same_history.b (da_cons (de_call c (ok__law_swapped T) T.d__law_swapped.g T.d__law_swapped.kp T.d__law_swapped.b (da_cons (de_var 4) (da_cons (de_var 6) da_nil)) (by decide) (len_cons (len_cons len_nil))) (da_cons (de_var 3) da_nil)) (by decide) (len_cons (len_cons len_nil))) (de_var 9)) (dss_one (ds_ret de_bl)) dss_nil)
    (dss_cons (ds_if (dt_cmp op_isnot_bl opd_notB (de_call c (ok_same_history T) T.d_same_history.g T.d_same_history.kp T.d_same_history.b (da_cons (de_op op_addD (opd_add c.K) (de_slice c.K (de_var 4) do_none (do_some (de_var 6))) (de_slice c.K (de_var 4) (do_some (de_op op_addD (opd_add c.K) (de_var 6) de_int)) do_none)) (da_cons (de_var 3) da_nil)) (by decide) (len_cons (len_cons len_nil))) de_bl) (dss_one (ds_ret de_bl)) dss_nil)
    (dss_one (ds_if (dt_if (dt_cmp op_lt opd_lt (de_var 1) de_int) (dt_cmp op_isnot_bl opd_notB (de_call c (ok_same_history T) T.d_same_history.g T.d_same_history.kp T.d_same_history.b (da_cons (de_var 3) (da_cons (de_op op_addD (opd_add c.K) (de_op op_addD (opd_add c.K) (de_slice c.K (de_var 4) do_none (do_some (de_var 6))) (de_tup (da_cons (de_get c.K (de_var 4) (de_var 6)) da_nil))) (de_slice c.K (de_var 4) (do_some (de_var 6)) do_none)) da_nil)) (by decide) (len_cons (len_cons len_nil))) de_bl) (dt_tru c.K de_bl)) (dss_one (ds_ret de_bl)) dss_nil)))))) dss_nil)
    (dss_one (ds_ret de_bl))))))))))))
  h
theorem ok__law_refused (T : Txt P G mg fa fd) : FnOk P w G.K mg base (L2.CX P w) 6 (fa 11) (fd 11) ["_law_word", "_law_other"] (spD G 2 m__law_refused) :=
  have h := fnD (P := P) (w := w) (mg := mg) (base := base) (G := G) (N := n__law_refused) (ps := ["_law_word", "_law_other"]) (k := 5) (m := b__law_refused) (O' := {}) T.d__law_refused.F sc__law_refused rfl fun cdv A outer s H E c xt =>
    (dss_cons (ds_own 2 sc__law_refused.nd (df_lst da_nil))
    (dss_cons (ds_try_as 3 clX_BadWord c xt sc__law_refused.nd ⟨rfl, by decide, .inl T.g_BadWord⟩ T.clX_BadWord (fun _ _ _ ct xtt => (dss_one (ds_expr (de_call ct (ok_same_history T) T.d_same_history.g T.d_same_history.kp T.d_same_history.b (da_cons (de_var 0) (da_cons (de_var 1) da_nil)) (by decide) (len_cons (len_cons len_nil)))))) (fun _ _ _ _ _ hz hf => (dss_one (ds_push 2 (de_tup (da_cons (de_xf 3 hz hf c.K T.okX) (da_cons (de_xf 3 hz hf c.K T.okX) da_nil)))))))
    (dss_cons (ds_try_as 3 clX_BadWord c xt sc__law_refused.nd ⟨rfl, by decide, .inl T.g_BadWord⟩ T.clX_BadWord (fun _ _ _ ct xtt => (dss_one (ds_expr (de_call ct (ok_least_word T) T.d_least_word.g T.d_least_word.kp T.d_least_word.b (da_cons (de_if (dt_cmp (op_eqD ct.hr.units) (opd_eq ct.K) (de_var 1) (de_lst da_nil)) (de_var 0) (de_var 1)) da_nil) (by decide) (len_cons len_nil))))) (fun _ _ _ _ _ hz hf => (dss_one (ds_push 2 (de_tup (da_cons (de_xf 3 hz hf c.K T.okX) (da_cons (de_xf 3 hz hf c.K T.okX) da_nil)))))))
    (dss_freeze 2 (dss_one (ds_ret (de_var 2)))))))
  h
theorem ok__law_short_right (T : Txt P G mg fa fd) : FnOk P w G.K mg base (L2.CX P w) 6 (fa 12) (fd 12) ["_law_hand_here"] (spD G 1 m__law_short_right) :=
  have h := fnD (P := P) (w := w) (mg := mg) (base := base) (G := G) (N := n__law_short_right) (ps := ["_law_hand_here"]) (k := 5) (m := b__law_short_right) (O' := {}) T.d__law_short_right.F sc__law_short_right rfl fun cdv A outer s H E c xt =>
    (dss_cons (ds_set 1 sc__law_short_right.nd (de_callTy call_tuple_of (cd_tuple c.K) T.n_tuple PyProof.Rows.boot_tuple (da_cons (de_lc c sc__law_short_right.nd (di_range1 T.n_range (da_cons (de_call c (ok__law_draw T) T.d__law_draw.g T.d__law_draw.kp T.d__law_draw.b (da_cons (de_var 0) (da_cons de_int da_nil)) (by decide) (len_cons (len_cons len_nil))) da_nil)) (blkOk_by (own := [("_law_k", 5)]) (N := n__law_short_right) (sc := defScope s__law_short_right) (by decide +kernel)) (fun _ _ _ _ _ => (dg_name 5 sc__law_short_right.nd)) (fun _ _ _ _ _ cb => dts_nil) (fun _ _ _ _ _ cb => (de_op op_sub opd_sub (de_call cb (ok__law_draw T) T.d__law_draw.g T.d__law_draw.kp T.d__law_draw.b (da_cons (de_var 0) (da_cons de_int da_nil)) (by decide) (len_cons (len_cons len_nil))) de_int))) da_nil)))
    (dss_cons (ds_set 2 sc__law_short_right.nd (de_call c (ok__law_lot T) T.d__law_lot.g T.d__law_lot.kp T.d__law_lot.b (da_cons (de_var 1) da_nil) (by decide) (len_cons len_nil)))
    (dss_cons (ds_set 3 sc__law_short_right.nd (de_callB (cr_minTu c.calm (Nat.lt_of_le_of_lt (Nat.add_le_add_left (by decide) _) c.u65)) (cd_minTu c.K) T.n_min PyProof.Rows.boot_min (da_cons (de_var 2) da_nil)))
    (dss_cons (ds_if (dw_or (dt_cmp (op_neD c.hr.units) (opd_ne c.K) (de_call c (ok_least_word T) T.d_least_word.g T.d_least_word.kp T.d_least_word.b (da_cons (de_var 1) da_nil) (by decide) (len_cons len_nil)) (de_var 3)) (dw_or1 (dt_not (dt_tru c.K (de_callB (CallR.or call_isi (CallR.or call_isiT call_isiK)) (cd_isi c.K) T.n_isinstance PyProof.Rows.boot_isinstance (da_cons (de_call c (ok_least_word T) T.d_least_word.g T.d_least_word.kp T.d_least_word.b (da_cons (de_callTy call_list_of (cd_list c.K) T.n_list PyProof.Rows.boot_list (da_cons (de_var 1) da_nil)) da_nil) (by decide) (len_cons len_nil)) (da_cons (de_globT "tuple" T.n_tuple boot_tuple) da_nil))))))).dt (dss_one (ds_ret de_bl)) dss_nil)
    (dss_cons (ds_for c (di_seq c.K (de_op op_addD (opd_add c.K) (de_slice c.K (de_var 2) do_none (do_some de_int)) (de_lst (da_cons (de_get c.K (de_var 2) (de_un un_neg und_neg de_int)) da_nil)))) (dg_name 4 sc__law_short_right.nd) (dss_one (ds_if (dw_or (dt_cmp (op_neD c.hr.units) (opd_ne c.K) (de_call c (ok_least_word T) T.d_least_word.g T.d_least_word.kp T.d_least_word.b (da_cons (de_callTy call_list_of (cd_list c.K) T.n_list PyProof.Rows.boot_list (da_cons (de_var 4) da_nil)) da_nil) (by decide) (len_cons len_nil)) (de_var 3)) (dw_or1 (dt_cmp op_isnot_bl opd_notB (de_call c (ok_same_history T) T.d_same_history.g T.d_same_history.kp T.d_same_history.b (da_cons (de_callTy call_list_of (cd_list c.K) T.n_list PyProof.Rows.boot_list (da_cons (de_var 1) da_nil)) (da_cons (de_var 4) da_nil)) (by decide) (len_cons (len_cons len_nil))) de_bl))).dt (dss_one (ds_ret de_bl)) dss_nil)))
    (dss_cons (ds_for c (di_range1 T.n_range (da_cons de_int da_nil)) (dg_name 5 sc__law_short_right.nd) (dss_cons (ds_own 4 sc__law_short_right.nd (df_list c.K T.n_list PyProof.Rows.boot_list (da_cons (de_var 1) da_nil)))
    (dss_cons (ds_set 6 sc__law_short_right.nd (de_call c (ok__law_draw T) T.d__law_draw.g T.d__law_draw.kp T.d__law_draw.b (da_cons (de_var 0) (da_cons de_int da_nil)) (by decide) (len_cons (len_cons len_nil))))
    (dss_cons (ds_if (dw_and (dt_neO 4 (op_neD c.hr.units) c.K (de_lst da_nil)) (dw_and1 (dt_cmp (op_eqD c.hr.units) (opd_eq c.K) (de_var 6) de_int))).dt (dss_one (ds_setI 4 (de_op op_sub opd_sub (de_call c (ok__law_draw T) T.d__law_draw.g T.d__law_draw.kp T.d__law_draw.b (da_cons (de_var 0) (da_cons de_int da_nil)) (by decide) (len_cons (len_cons len_nil))) de_int) (de_call c (ok__law_draw T) T.d__law_draw.g T.d__law_draw.kp T.d__law_draw.b (da_cons (de_var 0) (da_cons (de_lenO 4 (hmg := T.n_len)) da_nil)) (by decide) (len_cons (len_cons len_nil))))) dss_nil)
    (dss_cons (ds_if (dw_and (dt_cmp op_gt opd_gt (de_lenO 4 (hmg := T.n_len)) de_int) (dw_and1 (dt_cmp (op_eqD c.hr.units) (opd_eq c.K) (de_var 6) de_int))).dt (dss_cons (ds_set 7 sc__law_short_right.nd (de_call c (ok__law_draw T) T.d__law_draw.g T.d__law_draw.kp T.d__law_draw.b (da_cons (de_var 0) (da_cons (de_op op_sub opd_sub (de_lenO 4 (hmg := T.n_len)) de_int) da_nil)) (by decide) (len_cons (len_cons len_nil))))
    (dss_freeze 4 (dss_one (ds_own 4 sc__law_short_right.nd (df_list c.K T.n_list PyProof.Rows.boot_list (da_cons (de_call c (ok__law_swapped T) T.d__law_swapped.g T.d__law_swapped.kp T.d__law_swapped.b (da_cons (de_callTy call_tuple_of (cd_tuple c.K) T.n_tuple PyProof.Rows.boot_tuple (da_cons (de_var 4) da_nil)) (da_cons (de_var 7) da_nil)) (by decide) (len_cons (len_cons len_nil))) da_nil)))))) dss_nil)
    (dss_cons (ds_if (dw_and (dt_cmp op_gt opd_gt (de_lenO 4 (hmg := T.n_len)) de_int) (dw_and1 (dt_cmp (op_eqD c.hr.units) (opd_eq c.K) (de_var 6) de_int))).dt (dss_cons (ds_set 8 sc__law_short_right.nd (de_call c (ok__law_draw T) T.d__law_draw.g T.d__law_draw.kp T.d__law_draw.b (da_cons (de_var 0) (da_cons (de_lenO 4 (hmg := T.n_len)) da_nil)) (by decide) (len_cons (len_cons len_nil))))
    (dss_cons (ds_set 9 sc__law_short_right.nd (de_call c (ok__law_draw T) T.d__law_draw.g T.d__law_draw.kp T.d__law_draw.b (da_cons (de_var 0) (da_cons (de_lenO 4 (hmg := T.n_len)) da_nil)) (by decide) (len_cons (len_cons len_nil))))
    (dss_one (ds_swapI 4 c.calm c.K (de_tup (da_cons (de_getO 4 (de_var 9)) (da_cons (de_getO 4 (de_var 8)) da_nil))) (de_var 8) (de_var 9))))) dss_nil)
    (dss_cons (ds_if (dt_cmp (op_eqD c.hr.units) (opd_eq c.K) (de_var 6) de_int) (dss_freeze 4 (dss_one (ds_own 4 sc__law_short_right.nd (df_cat (de_var 4) (de_lst (da_cons (de_op op_sub opd_sub (de_call c (ok__law_draw T) T.d__law_draw.g T.d__law_draw.kp T.d__law_draw.b (da_cons (de_var 0) (da_cons de_int da_nil)) (by decide) (len_cons (len_cons len_nil))) de_int) da_nil)))))) dss_nil)
    (dss_cons (ds_set 10 sc__law_short_right.nd (de_cmp (OpR.or (op_inD c.u65) (op_inT c.u65)) (opd_inA c.K) (de_tupO 4 c.K (hmg := T.n_tuple)) (de_var 2)))
    (dss_freeze 4 (dss_one (ds_if (dw_or (dt_cmp (op_neD c.hr.units) (opd_ne c.K) (de_call c (ok_same_history T) T.d_same_history.g T.d_same_history.kp T.d_same_history.b (da_cons (de_var 1) (da_cons (de_var 4) da_nil)) (by decide) (len_cons (len_cons len_nil))) (de_var 10)) (dw_or1 (dt_cmp (op_neD c.hr.units) (opd_ne c.K) (de_call c (ok_same_history T) T.d_same_history.g T.d_same_history.kp T.d_same_history.b (da_cons (de_callTy call_tuple_of (cd_tuple c.K) T.n_tuple PyProof.Rows.boot_tuple (da_cons (de_var 4) da_nil)) (da_cons (de_var 1) da_nil)) (by decide) (len_cons (len_cons len_nil))) (de_var 10)))).dt (dss_one (ds_ret de_bl)) dss_nil)))))))))))
    (dss_one (ds_ret de_bl))))))))
  h
theorem ok_law (T : Txt P G mg fa fd) (hH : ∀ (ns : List Int), ns.length ≤ 63 → ∃ cells t, m__law_hand [.rol (ns.map .int)] [] = .ok (handD cells 0 0 t) [] ∧ ∃ st', b_law (some (.rol (ns.map .int)) :: some (.tok 0) :: List.replicate 6 none) [handD cells 0 0 t] = .rt (.bl true) st') : FnOk P w G.K mg base (L2.CX P w) 7 (fa 13) (fd 13) ["_law_script"] (spLaw G.K) :=
  have h := lawD2 (P := P) (w := w) (mg := mg) (base := base) (G := G) (N := n_law) (k := 6) (m := b_law) T.d_law.F sc_law rfl rfl (by first | exact .inl rfl | exact .inr rfl) rfl rfl rfl (ok__law_hand T) T.d__law_hand.g T.d__law_hand.kp T.d__law_hand.b T.tb0 (by decide) hH (hfx := fun _ _ _ _ _ _ => by first | exact .inl rfl | exact .inr rfl) fun cdv A outer s H E c xt =>
    (dssL_cons (ds_if (dw_or (dt_not (dt_tru c.K (de_call c (ok__law_short_right T) T.d__law_short_right.g T.d__law_short_right.kp T.d__law_short_right.b (da_cons (de_var 1) da_nil) (by decide) (len_cons len_nil)))) (dw_or1 (dt_not (dt_tru c.K (de_call c (ok__law_long_right T) T.d__law_long_right.g T.d__law_long_right.kp T.d__law_long_right.b (da_cons (de_var 1) da_nil) (by decide) (len_cons len_nil)))))).dt (dss_one (ds_ret de_bl)) dss_nil)
    (dssL_cons (ds_setLc 2 c sc_law.nd (di_range1 T.n_range (da_cons (de_op op_addD (opd_add c.K) de_int (de_call c (ok__law_draw T) T.d__law_draw.g T.d__law_draw.kp T.d__law_draw.b (da_cons (de_var 1) (da_cons de_int da_nil)) (by decide) (len_cons (len_cons len_nil)))) da_nil)) (blkOk_by (own := [("_law_k", 7)]) (N := n_law) (sc := defScope s_law) (by decide +kernel)) (sw_true rfl rfl rfl (by decide +kernel)) (fun _ _ _ _ _ => (dg_name 7 sc_law.nd)) (fun _ _ _ _ _ cb => dts_nil) (fun _ _ _ _ _ cb => (de_op op_sub opd_sub (de_call cb (ok__law_draw T) T.d__law_draw.g T.d__law_draw.kp T.d__law_draw.b (da_cons (de_var 1) (da_cons de_int da_nil)) (by decide) (len_cons (len_cons len_nil))) de_int)))
    (dssL_cons (ds_set 3 sc_law.nd (de_call c (ok__law_draw T) T.d__law_draw.g T.d__law_draw.kp T.d__law_draw.b (da_cons (de_var 1) (da_cons (de_callB call_len (cd_len c.K) T.n_len PySem.boot_len (da_cons (de_var 2) da_nil)) da_nil)) (by decide) (len_cons (len_cons len_nil))))
    (dssL_cons (ds_own 4 sc_law.nd (df_list c.K T.n_list PyProof.Rows.boot_list (da_cons (de_var 2) da_nil)))
    (dssL_cons (ds_setI 4 (de_get c.K (de_lst (da_cons (de_un un_neg und_neg de_int) (da_cons de_int (da_cons de_non (da_cons de_bl (da_cons de_str (da_cons (de_tup (da_cons de_int (da_cons de_int da_nil))) da_nil))))))) (de_call c (ok__law_draw T) T.d__law_draw.g T.d__law_draw.kp T.d__law_draw.b (da_cons (de_var 1) (da_cons de_int da_nil)) (by decide) (len_cons (len_cons len_nil)))) (de_var 3))
    (dssL_cons (ds_set 5 sc_law.nd (de_tup (da_cons (de_var 3) (da_cons de_str da_nil))))
    (dssL_freeze 4 (dssL_cons (ds_if (dw_or (dt_cmp (op_neD c.hr.units) (opd_ne c.K) (de_call c (ok__law_refused T) T.d__law_refused.g T.d__law_refused.kp T.d__law_refused.b (da_cons (de_var 4) (da_cons (de_lst da_nil) da_nil)) (by decide) (len_cons (len_cons len_nil))) (de_lst (da_cons (de_var 5) (da_cons (de_var 5) da_nil)))) (dw_or1 (dt_cmp (op_neD c.hr.units) (opd_ne c.K) (de_call c (ok__law_refused T) T.d__law_refused.g T.d__law_refused.kp T.d__law_refused.b (da_cons (de_var 2) (da_cons (de_op op_addD (opd_add c.K) (de_var 4) (de_lst (da_cons de_int da_nil))) da_nil)) (by decide) (len_cons (len_cons len_nil))) (de_lst (da_cons (de_var 5) (da_cons (de_var 5) da_nil)))))).dt (dss_one (ds_ret de_bl)) dss_nil)
    (dssL_cons (ds_set 6 sc_law.nd (de_get c.K (de_lst (da_cons de_non (da_cons de_int (da_cons de_str (da_cons (de_op op_mulD3 (opd_mul c.K) (de_lst (da_cons de_int da_nil)) de_int) da_nil))))) (de_call c (ok__law_draw T) T.d__law_draw.g T.d__law_draw.kp T.d__law_draw.b (da_cons (de_var 1) (da_cons de_int da_nil)) (by decide) (len_cons (len_cons len_nil)))))
    (dssL_cons (ds_if (dw_or (dt_cmp (op_neD c.hr.units) (opd_ne c.K) (de_call c (ok__law_refused T) T.d__law_refused.g T.d__law_refused.kp T.d__law_refused.b (da_cons (de_var 6) (da_cons (de_lst da_nil) da_nil)) (by decide) (len_cons (len_cons len_nil))) (de_lst (da_cons (de_tup (da_cons de_int (da_cons de_str da_nil))) (da_cons (de_tup (da_cons de_int (da_cons de_str da_nil))) da_nil)))) (dw_or1 (dt_cmp (op_neD c.hr.units) (opd_ne c.K) (de_call c (ok__law_refused T) T.d__law_refused.g T.d__law_refused.kp T.d__law_refused.b (da_cons (de_var 4) (da_cons (de_var 6) da_nil)) (by decide) (len_cons (len_cons len_nil))) (de_lst (da_cons (de_var 5) (da_cons (de_tup (da_cons de_int (da_cons de_str da_nil))) da_nil)))))).dt (dss_one (ds_ret de_bl)) dss_nil)
    (dssL_of (dss_one (ds_ret (de_cmp (op_eqD c.hr.units) (opd_eq c.K) (de_call c (ok__law_refused T) T.d__law_refused.g T.d__law_refused.kp T.d__law_refused.b (da_cons (de_var 2) (da_cons (de_var 2) da_nil)) (by decide) (len_cons (len_cons len_nil))) (de_lst da_nil)))))))))))))))
  h
end
theorem all_mk {l : PySem.W.OpenLaw} {w : World} {K : PySem.W.Frag} {h : Heap} {mg : Str → Option Value} {la : Addr}
    {C0 : Addr}
    {C1 : Addr}
    {f0 : Addr} {od0 an0 : Option Addr} {sl0 : Array (Option Value)} {oc0 kV0 dc0 pm0 ct0 : Value}
    {cc0 da0 : Addr} {cl0 dl0 : Value} {cld0 dld0 : Option Addr} {csl0 dsl0 : Array (Option Value)} {fv0 : Array Value} {ff0 : Str} {ft0 : Tok}
    {f1 : Addr} {od1 an1 : Option Addr} {sl1 : Array (Option Value)} {oc1 kV1 dc1 pm1 cd1 ct1 : Value}
    {f2 : Addr} {od2 an2 : Option Addr} {sl2 : Array (Option Value)} {oc2 kV2 dc2 pm2 cd2 ct2 : Value}
    {f3 : Addr} {od3 an3 : Option Addr} {sl3 : Array (Option Value)} {oc3 kV3 dc3 pm3 cd3 ct3 : Value}
    {f4 : Addr} {od4 an4 : Option Addr} {sl4 : Array (Option Value)} {oc4 kV4 dc4 pm4 cd4 ct4 : Value}
    {f5 : Addr} {od5 an5 : Option Addr} {sl5 : Array (Option Value)} {oc5 kV5 dc5 pm5 cd5 ct5 : Value}
    {f6 : Addr} {od6 an6 : Option Addr} {sl6 : Array (Option Value)} {oc6 kV6 dc6 pm6 cd6 ct6 : Value}
    {f7 : Addr} {od7 an7 : Option Addr} {sl7 : Array (Option Value)} {oc7 kV7 dc7 pm7 cd7 ct7 : Value}
    {f8 : Addr} {od8 an8 : Option Addr} {sl8 : Array (Option Value)} {oc8 kV8 dc8 pm8 cd8 ct8 : Value}
    {f9 : Addr} {od9 an9 : Option Addr} {sl9 : Array (Option Value)} {oc9 kV9 dc9 pm9 cd9 ct9 : Value}
    {f10 : Addr} {od10 an10 : Option Addr} {sl10 : Array (Option Value)} {oc10 kV10 dc10 pm10 cd10 ct10 : Value}
    {f11 : Addr} {od11 an11 : Option Addr} {sl11 : Array (Option Value)} {oc11 kV11 dc11 pm11 cd11 ct11 : Value}
    {f12 : Addr} {od12 an12 : Option Addr} {sl12 : Array (Option Value)} {oc12 kV12 dc12 pm12 cd12 ct12 : Value}
    {f13 : Addr} {od13 an13 : Option Addr} {sl13 : Array (Option Value)} {oc13 kV13 dc13 pm13 cd13 ct13 : Value}
    {t_LEAST_PAIR : Tok}
    {t_GREATEST_PAIR : Tok}
    {t_LONGEST : Tok}
    {nm1 qn1 : String} {Nx1 : Addr} {bs1 sb1 : List Value} {sn1 : List Str} {ab1 : Bool} {co1 : Option Bool} {dd1 : Option Addr} {m0_1 m1_1 m2_1 m3_1 m5_1 : Option Value}
    (X : K.In h) (Gn : h.Ns mainGlobals mg) (hfa : mg "law" = some (.ref la))
    (hH : ∀ (ns : List Int), ns.length ≤ 63 → ∃ cells t, m__law_hand [.rol (ns.map .int)] [] = .ok (handD cells 0 0 t) [] ∧ ∃ st', b_law (some (.rol (ns.map .int)) :: some (.tok 0) :: List.replicate 6 none) [handD cells 0 0 t] = .rt (.bl true) st')
    (ca0 : PySem.W.nsIn K mainGlobals "GapError" = some (some (.ref C0)))
    (ca1 : PySem.W.nsIn K mainGlobals "BadWord" = some (some (.ref C1)))
    (a0 : PySem.W.findIn K (.ref C1) "__init__" = some (some (.ref f0)))
    (l0 : K.lookup f0 = some ⟨oc0, od0, .func (PySem.W.ksFn "__init__" "BadWord.__init__" (defArgs s_BadWord___init__) (defBody s_BadWord___init__) (defScope s_BadWord___init__) .none kV0 dc0 pm0 an0 (.ref da0) ct0 cc0), sl0⟩)
    (c0 : PySem.W.codeIn K (.ref da0) "BadWord.__init__" = true)
    (k0 : PySem.W.keepIn K (.ref f0) = true)
    (tI0 : PySem.W.typeIn K (.ref f0) = some (.type "function"))
    (lc0 : K.lookup cc0 = some ⟨cl0, cld0, .cell (some (.ref C1)), csl0⟩)
    (ld0 : K.lookup da0 = some ⟨dl0, dld0, .fields fv0, dsl0⟩)
    (hv0 : fv0[2]? = some (.str ff0 ft0))
    (hf0 : ((l.prog.main.file : Str) == ff0) = true)
    (al0 : PySem.W.ks_superIn K C1 C1 "__init__" = some (some (.builtin "ValueError.__init__")))
    (ve0 : PySem.W.subIn K (.ref C1) (.type "ValueError") = some true)
    (mr0 : PySem.W.mroIn K C1 (.ref C1) = some true)
    (oq : PySem.W.nsIn K PySem.cStatics "thirdparty.any" = some none)
    (tp : (l.prog.main.scope.names.lookup ("super" : Str)).isSome = false)
    (a1 : PySem.W.nsIn K mainGlobals "_law_apart" = some (some (.ref f1)))
    (l1 : K.lookup f1 = some ⟨oc1, od1, .func (PySem.W.fnOf "_law_apart" "_law_apart" (defArgs s__law_apart) (defBody s__law_apart) (defScope s__law_apart) .none kV1 dc1 pm1 an1 cd1 ct1), sl1⟩)
    (c1 : PySem.W.codeIn K cd1 "_law_apart" = true)
    (k1 : PySem.W.keepIn K (.ref f1) = true)
    (a2 : PySem.W.nsIn K mainGlobals "_law_hand" = some (some (.ref f2)))
    (l2 : K.lookup f2 = some ⟨oc2, od2, .func (PySem.W.fnOf "_law_hand" "_law_hand" (defArgs s__law_hand) (defBody s__law_hand) (defScope s__law_hand) .none kV2 dc2 pm2 an2 cd2 ct2), sl2⟩)
    (c2 : PySem.W.codeIn K cd2 "_law_hand" = true)
    (k2 : PySem.W.keepIn K (.ref f2) = true)
    (a3 : PySem.W.nsIn K mainGlobals "_law_mix" = some (some (.ref f3)))
    (l3 : K.lookup f3 = some ⟨oc3, od3, .func (PySem.W.fnOf "_law_mix" "_law_mix" (defArgs s__law_mix) (defBody s__law_mix) (defScope s__law_mix) .none kV3 dc3 pm3 an3 cd3 ct3), sl3⟩)
    (c3 : PySem.W.codeIn K cd3 "_law_mix" = true)
    (k3 : PySem.W.keepIn K (.ref f3) = true)
    (a4 : PySem.W.nsIn K mainGlobals "_law_swapped" = some (some (.ref f4)))
    (l4 : K.lookup f4 = some ⟨oc4, od4, .func (PySem.W.fnOf "_law_swapped" "_law_swapped" (defArgs s__law_swapped) (defBody s__law_swapped) (defScope s__law_swapped) .none kV4 dc4 pm4 an4 cd4 ct4), sl4⟩)
    (c4 : PySem.W.codeIn K cd4 "_law_swapped" = true)
    (k4 : PySem.W.keepIn K (.ref f4) = true)
    (a5 : PySem.W.nsIn K mainGlobals "_law_draw" = some (some (.ref f5)))
    (l5 : K.lookup f5 = some ⟨oc5, od5, .func (PySem.W.fnOf "_law_draw" "_law_draw" (defArgs s__law_draw) (defBody s__law_draw) (defScope s__law_draw) .none kV5 dc5 pm5 an5 cd5 ct5), sl5⟩)
    (c5 : PySem.W.codeIn K cd5 "_law_draw" = true)
    (k5 : PySem.W.keepIn K (.ref f5) = true)
    (a6 : PySem.W.nsIn K mainGlobals "_law_lot" = some (some (.ref f6)))
    (l6 : K.lookup f6 = some ⟨oc6, od6, .func (PySem.W.fnOf "_law_lot" "_law_lot" (defArgs s__law_lot) (defBody s__law_lot) (defScope s__law_lot) .none kV6 dc6 pm6 an6 cd6 ct6), sl6⟩)
    (c6 : PySem.W.codeIn K cd6 "_law_lot" = true)
    (k6 : PySem.W.keepIn K (.ref f6) = true)
    (a7 : PySem.W.nsIn K mainGlobals "check_plain" = some (some (.ref f7)))
    (l7 : K.lookup f7 = some ⟨oc7, od7, .func (PySem.W.fnOf "check_plain" "check_plain" (defArgs s_check_plain) (defBody s_check_plain) (defScope s_check_plain) .none kV7 dc7 pm7 an7 cd7 ct7), sl7⟩)
    (c7 : PySem.W.codeIn K cd7 "check_plain" = true)
    (k7 : PySem.W.keepIn K (.ref f7) = true)
    (a8 : PySem.W.nsIn K mainGlobals "least_word" = some (some (.ref f8)))
    (l8 : K.lookup f8 = some ⟨oc8, od8, .func (PySem.W.fnOf "least_word" "least_word" (defArgs s_least_word) (defBody s_least_word) (defScope s_least_word) .none kV8 dc8 pm8 an8 cd8 ct8), sl8⟩)
    (c8 : PySem.W.codeIn K cd8 "least_word" = true)
    (k8 : PySem.W.keepIn K (.ref f8) = true)
    (a9 : PySem.W.nsIn K mainGlobals "same_history" = some (some (.ref f9)))
    (l9 : K.lookup f9 = some ⟨oc9, od9, .func (PySem.W.fnOf "same_history" "same_history" (defArgs s_same_history) (defBody s_same_history) (defScope s_same_history) .none kV9 dc9 pm9 an9 cd9 ct9), sl9⟩)
    (c9 : PySem.W.codeIn K cd9 "same_history" = true)
    (k9 : PySem.W.keepIn K (.ref f9) = true)
    (a10 : PySem.W.nsIn K mainGlobals "_law_long_right" = some (some (.ref f10)))
    (l10 : K.lookup f10 = some ⟨oc10, od10, .func (PySem.W.fnOf "_law_long_right" "_law_long_right" (defArgs s__law_long_right) (defBody s__law_long_right) (defScope s__law_long_right) .none kV10 dc10 pm10 an10 cd10 ct10), sl10⟩)
    (c10 : PySem.W.codeIn K cd10 "_law_long_right" = true)
    (k10 : PySem.W.keepIn K (.ref f10) = true)
    (a11 : PySem.W.nsIn K mainGlobals "_law_refused" = some (some (.ref f11)))
    (l11 : K.lookup f11 = some ⟨oc11, od11, .func (PySem.W.fnOf "_law_refused" "_law_refused" (defArgs s__law_refused) (defBody s__law_refused) (defScope s__law_refused) .none kV11 dc11 pm11 an11 cd11 ct11), sl11⟩)
    (c11 : PySem.W.codeIn K cd11 "_law_refused" = true)
    (k11 : PySem.W.keepIn K (.ref f11) = true)
    (a12 : PySem.W.nsIn K mainGlobals "_law_short_right" = some (some (.ref f12)))
    (l12 : K.lookup f12 = some ⟨oc12, od12, .func (PySem.W.fnOf "_law_short_right" "_law_short_right" (defArgs s__law_short_right) (defBody s__law_short_right) (defScope s__law_short_right) .none kV12 dc12 pm12 an12 cd12 ct12), sl12⟩)
    (c12 : PySem.W.codeIn K cd12 "_law_short_right" = true)
    (k12 : PySem.W.keepIn K (.ref f12) = true)
    (a13 : PySem.W.nsIn K mainGlobals "law" = some (some (.ref f13)))
    (l13 : K.lookup f13 = some ⟨oc13, od13, .func (PySem.W.fnOf "law" "law" (defArgs s_law) (defBody s_law) (defScope s_law) .none kV13 dc13 pm13 an13 cd13 ct13), sl13⟩)
    (c13 : PySem.W.codeIn K cd13 "law" = true)
    (k13 : PySem.W.keepIn K (.ref f13) = true)
    (z_abs : PySem.W.nsIn K mainGlobals "abs" = some none)
    (z_bool : PySem.W.nsIn K mainGlobals "bool" = some none)
    (z_enumerate : PySem.W.nsIn K mainGlobals "enumerate" = some none)
    (z_int : PySem.W.nsIn K mainGlobals "int" = some none)
    (z_isinstance : PySem.W.nsIn K mainGlobals "isinstance" = some none)
    (z_len : PySem.W.nsIn K mainGlobals "len" = some none)
    (z_list : PySem.W.nsIn K mainGlobals "list" = some none)
    (z_min : PySem.W.nsIn K mainGlobals "min" = some none)
    (z_range : PySem.W.nsIn K mainGlobals "range" = some none)
    (z_sorted : PySem.W.nsIn K mainGlobals "sorted" = some none)
    (z_str : PySem.W.nsIn K mainGlobals "str" = some none)
    (z_super : PySem.W.nsIn K mainGlobals "super" = some none)
    (z_tuple : PySem.W.nsIn K mainGlobals "tuple" = some none)
    (g_LEAST_PAIR : PySem.W.nsIn K mainGlobals "LEAST_PAIR" = some (some (.int (-1) t_LEAST_PAIR)))
    (g_GREATEST_PAIR : PySem.W.nsIn K mainGlobals "GREATEST_PAIR" = some (some (.int (38) t_GREATEST_PAIR)))
    (g_LONGEST : PySem.W.nsIn K mainGlobals "LONGEST" = some (some (.int (800) t_LONGEST)))
    (cs0 : PySem.W.subIn K (.ref C0) (.type "BaseException") = some true)
    (ct0_ : PySem.W.typeIn K (.ref C0) = some (.type "type"))
    (ck0 : PySem.W.keepIn K (.ref C0) = true)
    (cd0_ : PySem.W.hasDictIn K C0 = true)
    (cs1 : PySem.W.subIn K (.ref C1) (.type "BaseException") = some true)
    (ct1_ : PySem.W.typeIn K (.ref C1) = some (.type "type"))
    (ck1 : PySem.W.keepIn K (.ref C1) = true)
    (cd1_ : PySem.W.hasDictIn K C1 = true)
    (xL1 : K.lookup C1 = some (excClassObj nm1 qn1 C1 Nx1 bs1 [.ref C0, .type "ValueError", .type "Exception", .type "BaseException", .type "object"] true sn1 sb1 ab1 co1 dd1 m0_1 m1_1 m2_1 m3_1 m5_1 "ValueError.__new__"))
    (xs1 : PySem.W.findIn K (.ref C1) "__setattr__" = some (some (.builtin "object.__setattr__")))
    (xg1 : PySem.W.findIn K (.ref C1) "__getattribute__" = some (some (.builtin "BaseException.__getattribute__")))
    (xh1 : PySem.W.findIn K (.ref C1) "__getattr__" = some none)
    (xn1_0 : PySem.W.findIn K (.ref C1) "index" = some none)
    (xn1_1 : PySem.W.findIn K (.ref C1) "what" = some none)
    (s1_1 : PySem.W.subIn K (.ref C1) (.ref C1) = some true) :
    ∃ fd : FuncData, (∀ (s : Shared) (v : Value), BindsTo s fd ⟨[v], []⟩ [("_law_script", v)]) ∧ ∀ base : Heap, K.In base → base.Ns mainGlobals mg → FnOk l.prog w K mg base (L2.CX l.prog w) 7 la fd ["_law_script"] (spLaw K) := by
  have e := hfa.symm.trans (PySem.W.mg_of X Gn a13)
  have ela : la = f13 := by injection (Option.some.inj e)
  obtain ⟨G, hG⟩ : ∃ G : Glb, G = ⟨K, fun n => match n with | 0 => C0 | 1 => C1 | _ => 0, []⟩ := ⟨_, rfl⟩
  obtain ⟨fa, hfa'⟩ : ∃ fa : Nat → Addr, fa = fun n => match n with | 0 => f0 | 1 => f1 | 2 => f2 | 3 => f3 | 4 => f4 | 5 => f5 | 6 => f6 | 7 => f7 | 8 => f8 | 9 => f9 | 10 => f10 | 11 => f11 | 12 => f12 | 13 => f13 | _ => 0 := ⟨_, rfl⟩
  obtain ⟨fd, hfd⟩ : ∃ fd : Nat → FuncData, fd = fun n => match n with | 0 => PySem.W.ksFn "__init__" "BadWord.__init__" (defArgs s_BadWord___init__) (defBody s_BadWord___init__) (defScope s_BadWord___init__) .none kV0 dc0 pm0 an0 (.ref da0) ct0 cc0 | 1 => PySem.W.fnOf "_law_apart" "_law_apart" (defArgs s__law_apart) (defBody s__law_apart) (defScope s__law_apart) .none kV1 dc1 pm1 an1 cd1 ct1 | 2 => PySem.W.fnOf "_law_hand" "_law_hand" (defArgs s__law_hand) (defBody s__law_hand) (defScope s__law_hand) .none kV2 dc2 pm2 an2 cd2 ct2 | 3 => PySem.W.fnOf "_law_mix" "_law_mix" (defArgs s__law_mix) (defBody s__law_mix) (defScope s__law_mix) .none kV3 dc3 pm3 an3 cd3 ct3 | 4 => PySem.W.fnOf "_law_swapped" "_law_swapped" (defArgs s__law_swapped) (defBody s__law_swapped) (defScope s__law_swapped) .none kV4 dc4 pm4 an4 cd4 ct4 | 5 => PySem.W.fnOf "_law_draw" "_law_draw" (defArgs s__law_draw) (defBody s__law_draw) (defScope s__law_draw) .none kV5 dc5 pm5 an5 cd5 ct5 | 6 => PySem.W.fnOf "_law_lot" "_law_lot" (defArgs s__law_lot) (defBody s__law_lot) (defScope s__law_lot) .none kV6 dc6 pm6 an6 cd6 ct6 | 7 => PySem.W.fnOf "check_plain" "check_plain" (defArgs s_check_plain) (defBody s_check_plain) (defScope s_check_plain) .none kV7 dc7 pm7 an7 cd7 ct7 | 8 => PySem.W.fnOf "least_word" "least_word" (defArgs s_least_word) (defBody s_least_word) (defScope s_least_word) .none kV8 dc8 pm8 an8 cd8 ct8 | 9 => PySem.W.fnOf "same_history" "same_history" (defArgs s_same_history) (defBody s_same_history) (defScope s_same_history) .none kV9 dc9 pm9 an9 cd9 ct9 | 10 => PySem.W.fnOf "_law_long_right" "_law_long_right" (defArgs s__law_long_right) (defBody s__law_long_right) (defScope s__law_long_right) .none kV10 dc10 pm10 an10 cd10 ct10 | 11 => PySem.W.fnOf "_law_refused" "_law_refused" (defArgs s__law_refused) (defBody s__law_refused) (defScope s__law_refused) .none kV11 dc11 pm11 an11 cd11 ct11 | 12 => PySem.W.fnOf "_law_short_right" "_law_short_right" (defArgs s__law_short_right) (defBody s__law_short_right) (defScope s__law_short_right) .none kV12 dc12 pm12 an12 cd12 ct12 | 13 => PySem.W.fnOf "law" "law" (defArgs s_law) (defBody s_law) (defScope s_law) .none kV13 dc13 pm13 an13 cd13 ct13 | _ => PySem.W.ksFn "__init__" "BadWord.__init__" (defArgs s_BadWord___init__) (defBody s_BadWord___init__) (defScope s_BadWord___init__) .none kV0 dc0 pm0 an0 (.ref da0) ct0 cc0 := ⟨_, rfl⟩
  have T : Txt l.prog G mg fa fd := by
    subst hG hfa' hfd
    exact
      { tb0 := rfl,
        g_GapError := PySem.W.mg_of X Gn ca0,
        g_BadWord := PySem.W.mg_of X Gn ca1,
        d_BadWord___init__ := ⟨(funS_mk (st := s_BadWord___init__) l0 c0 k0 lc0 ld0 hv0 hf0), FunS.binds (funS_mk (st := s_BadWord___init__) l0 c0 k0 lc0 ld0 hv0 hf0) fun _ _ _ _ _ _ _ us hl => match us, hl with | [_, _, _], _ => rfl⟩,
        u_BadWord := ⟨⟨⟨_, _, _, _, _, _, _, _, _, _, _, _, _, _, _, xL1, by first | rfl | decide +kernel⟩, xs1, cs1, ct1_, ck1⟩, al0, ve0, mr0, oq, PySem.W.mg_none_of X Gn z_super, tp⟩,
        d__law_apart := DefOk.mk' (fun_mk (st := s__law_apart) l1 c1 k1) (PySem.W.mg_of X Gn a1) (Fun.binds (fun_mk (st := s__law_apart) l1 c1 k1) fun _ _ _ _ _ _ us hl => match us, hl with | [_, _], _ => rfl),
        d__law_hand := DefOk.mk' (fun_mk (st := s__law_hand) l2 c2 k2) (PySem.W.mg_of X Gn a2) (Fun.binds (fun_mk (st := s__law_hand) l2 c2 k2) fun _ _ _ _ _ _ us hl => match us, hl with | [_], _ => rfl),
        d__law_mix := DefOk.mk' (fun_mk (st := s__law_mix) l3 c3 k3) (PySem.W.mg_of X Gn a3) (Fun.binds (fun_mk (st := s__law_mix) l3 c3 k3) fun _ _ _ _ _ _ us hl => match us, hl with | [_, _], _ => rfl),
        d__law_swapped := DefOk.mk' (fun_mk (st := s__law_swapped) l4 c4 k4) (PySem.W.mg_of X Gn a4) (Fun.binds (fun_mk (st := s__law_swapped) l4 c4 k4) fun _ _ _ _ _ _ us hl => match us, hl with | [_, _], _ => rfl),
        d__law_draw := DefOk.mk' (fun_mk (st := s__law_draw) l5 c5 k5) (PySem.W.mg_of X Gn a5) (Fun.binds (fun_mk (st := s__law_draw) l5 c5 k5) fun _ _ _ _ _ _ us hl => match us, hl with | [_, _], _ => rfl),
        d__law_lot := DefOk.mk' (fun_mk (st := s__law_lot) l6 c6 k6) (PySem.W.mg_of X Gn a6) (Fun.binds (fun_mk (st := s__law_lot) l6 c6 k6) fun _ _ _ _ _ _ us hl => match us, hl with | [_], _ => rfl),
        d_check_plain := DefOk.mk' (fun_mk (st := s_check_plain) l7 c7 k7) (PySem.W.mg_of X Gn a7) (Fun.binds (fun_mk (st := s_check_plain) l7 c7 k7) fun _ _ _ _ _ _ us hl => match us, hl with | [_], _ => rfl),
        d_least_word := DefOk.mk' (fun_mk (st := s_least_word) l8 c8 k8) (PySem.W.mg_of X Gn a8) (Fun.binds (fun_mk (st := s_least_word) l8 c8 k8) fun _ _ _ _ _ _ us hl => match us, hl with | [_], _ => rfl),
        d_same_history := DefOk.mk' (fun_mk (st := s_same_history) l9 c9 k9) (PySem.W.mg_of X Gn a9) (Fun.binds (fun_mk (st := s_same_history) l9 c9 k9) fun _ _ _ _ _ _ us hl => match us, hl with | [_, _], _ => rfl),
        d__law_long_right := DefOk.mk' (fun_mk (st := s__law_long_right) l10 c10 k10) (PySem.W.mg_of X Gn a10) (Fun.binds (fun_mk (st := s__law_long_right) l10 c10 k10) fun _ _ _ _ _ _ us hl => match us, hl with | [_], _ => rfl),
        d__law_refused := DefOk.mk' (fun_mk (st := s__law_refused) l11 c11 k11) (PySem.W.mg_of X Gn a11) (Fun.binds (fun_mk (st := s__law_refused) l11 c11 k11) fun _ _ _ _ _ _ us hl => match us, hl with | [_, _], _ => rfl),
        d__law_short_right := DefOk.mk' (fun_mk (st := s__law_short_right) l12 c12 k12) (PySem.W.mg_of X Gn a12) (Fun.binds (fun_mk (st := s__law_short_right) l12 c12 k12) fun _ _ _ _ _ _ us hl => match us, hl with | [_], _ => rfl),
        d_law := DefOk.mk' (fun_mk (st := s_law) l13 c13 k13) (PySem.W.mg_of X Gn a13) (Fun.binds (fun_mk (st := s_law) l13 c13 k13) fun _ _ _ _ _ _ us hl => match us, hl with | [_], _ => rfl),
        n_abs := PySem.W.mg_none_of X Gn z_abs,
        n_bool := PySem.W.mg_none_of X Gn z_bool,
        n_enumerate := PySem.W.mg_none_of X Gn z_enumerate,
        n_int := PySem.W.mg_none_of X Gn z_int,
        n_isinstance := PySem.W.mg_none_of X Gn z_isinstance,
        n_len := PySem.W.mg_none_of X Gn z_len,
        n_list := PySem.W.mg_none_of X Gn z_list,
        n_min := PySem.W.mg_none_of X Gn z_min,
        n_range := PySem.W.mg_none_of X Gn z_range,
        n_sorted := PySem.W.mg_none_of X Gn z_sorted,
        n_str := PySem.W.mg_none_of X Gn z_str,
        n_super := PySem.W.mg_none_of X Gn z_super,
        n_tuple := PySem.W.mg_none_of X Gn z_tuple,
        k_LEAST_PAIR := ⟨_, PySem.W.mg_of X Gn g_LEAST_PAIR⟩,
        k_GREATEST_PAIR := ⟨_, PySem.W.mg_of X Gn g_GREATEST_PAIR⟩,
        k_LONGEST := ⟨_, PySem.W.mg_of X Gn g_LONGEST⟩,
        x_BadWord := ⟨⟨⟨_, _, _, _, _, _, _, _, _, _, _, _, _, _, _, xL1, by first | rfl | decide +kernel⟩, xs1, cs1, ct1_, ck1⟩, a0, tI0, PySem.W.mg_of X Gn ca1, cs1⟩,
        okX := fun c f hb => (by
            unfold okX at hb
            split at hb
            · exact ⟨⟨xg1, xh1, cs1, cd1_⟩, DL.elem_all (P := fun f => PySem.W.findIn K (.ref C1) f = some none) (DL.all_cons xn1_0 (DL.all_cons xn1_1 (fun _ h => absurd h List.not_mem_nil))) hb⟩
            · cases hb),
        clX_BadWord := fun c b hb => (by
            unfold clX_BadWord at hb
            split at hb
            · cases hb; exact PySem.W.exm_ref cs1 cd1_ ct1_ s1_1
            · cases hb) }
  have eK : G.K = K := congrArg Glb.K hG
  have ea : fa 13 = f13 := congrFun hfa' 13
  refine ⟨fd 13, fun s v => ?_, fun base _ _ => ?_⟩
  · rw [hfd]; exact .of_eq rfl
  · have r := ok_law (P := l.prog) (w := w) (base := base) T hH
    rw [eK, ea, ← ela] at r
    exact r
end My

namespace My
open PySem PySem.Spec PyProof.Rows L2 DL
theorem e_mix (a b : Int) (st : List D) : ∃ r : Int, 0 ≤ r ∧ m__law_mix [.int a, .int b] st = .ok (.int r) st := by
  obtain ⟨s0, hs⟩ : ∃ s, s = (a * 48271 + b * 16807 + 11).fmod 2147483647 := ⟨_, rfl⟩
  obtain ⟨t0, ht⟩ : ∃ s, s = (s0 * s0 + s0.fdiv 127 * 40692 + b * 69621).fmod 2147483399 := ⟨_, rfl⟩
  have h1 := fmod_small (i := a * 48271 + b * 16807 + 11) (j := 2147483647) (by decide)
  have h2 := fmod_small (i := s0 * s0 + s0.fdiv 127 * 40692 + b * 69621) (j := 2147483399) (by decide)
  rw [← hs] at h1
  rw [← ht] at h2
  have m1 : DL.MulOk a 48271 := mulOk_r (by decide)
  have m2 : DL.MulOk b 16807 := mulOk_r (by decide)
  have m3 : DL.MulOk s0 s0 := mulOk_l (by omega)
  have m4 : DL.MulOk (s0.fdiv 127) 40692 := mulOk_r (by decide)
  have m5 : DL.MulOk b 69621 := mulOk_r (by decide)
  have m6 : DL.MulOk t0 t0 := mulOk_l (by omega)
  have d1 : DivOk s0 127 := ⟨by decide, .inl (by decide)⟩
  have d2 : DivOk (t0 * t0) 1009 := ⟨by decide, .inl (by decide)⟩
  have d3 : ∀ i, DivOk i 16 := fun i => ⟨by decide, .inl (by decide)⟩
  refine ⟨((t0 * t0).fdiv 1009 + s0).fmod 2147483563 |>.fdiv 16, ?_, ?_⟩
  · have h3 := fmod_small (i := (t0 * t0).fdiv 1009 + s0) (j := 2147483563) (by decide)
    exact Int.fdiv_nonneg h3.1 (by decide)
  · unfold m__law_mix b__law_mix
    simp [ev1, ev2, ev3, ev4, bind_ok, mkEnv, get?, ret_ok, m1, m2, m3, m4, m5, m6, d1, d2, d3, ← hs, ← ht]
theorem e_draw (n : Int) (hn : 0 < n) (hn2 : n.natAbs.log2 < 9000) (st : List D) (hs : HandOk st) : ∃ (r : Int) (st' : List D), 0 ≤ r ∧ r < n ∧ HandOk st' ∧ m__law_draw [.tok 0, .int n] st = .ok (.int r) st' := by
  obtain ⟨cells, at_, rest, total, rfl, ha, hr, hc⟩ := hs.ex
  have hn0 : n ≠ 0 := by omega
  have dn : ∀ i, DivOk i n := fun i => ⟨hn0, .inl hn2⟩
  have hpow : dPow (.int 10) (.int 18) = some (.int 1000000000000000000) := by rfl
  have red : ∀ i : Int, 0 ≤ i.fmod n ∧ i.fmod n < n := fun i => fmod_small hn
  have hmod : ∀ i : Int, dMod (.int i) (.int n) = some (.int (i.fmod n)) := fun i => dMod_pos i n hn0
  obtain ⟨k0, hk0⟩ : ∃ k : Nat, at_ = k := ⟨at_.toNat, by omega⟩
  subst hk0
  unfold m__law_draw b__law_draw
  have mk : ∀ (at' rest' total' : Int), 0 ≤ at' → 0 ≤ rest' → HandOk [handD cells at' rest' total'] := fun a b c h1 h2 => ⟨cells, a, b, c, rfl, h1, h2, hc⟩
  have tail : ∀ (a b t : Int), 0 ≤ a → ∃ r', 0 ≤ r' ∧ m__law_mix [.int t, .int a] [handD cells a b t] = .ok (.int r') [handD cells a b t] := fun a b t _ => e_mix t a _
  have hm8 : ∀ i : Int, dMod (.int i) (.int 2147483629) = some (.int (i.fmod 2147483629)) := fun i => dMod_pos i _ (by decide)
  by_cases h0 : rest = 0
  · subst h0
    by_cases h1 : k0 < cells.length
    · have hcp : 0 ≤ cells[k0] := hc _ (List.getElem_mem h1)
      by_cases h2 : cells[k0] < 1000000000000000000
      · obtain ⟨q, hq, eq⟩ := e_mix (cells[k0].fmod 2147483647) (k0 + 1) [handD cells (k0 + 1) 0 total]
        refine ⟨q.fmod n, _, (red q).1, (red q).2, mk (k0 + 1) 0 total (by omega) (by omega), ?_⟩
        simp [ev1, ev2, ev3, ev4, bind_ok, mkEnv, get?, ret_ok, hix0, hix1, hix2, hix3, mPut_eq, put1, put2, put3, hpow, hmod, dMod_pos, dn, h1, h2, hcell cells k0 h1, eq]
      · have h3 : ¬ cells[k0] = 0 := by omega
        have h4 : 0 < cells[k0] := by omega
        refine ⟨cells[k0].fmod n, _, (red _).1, (red _).2, mk (k0 + 1) (cells[k0].fdiv n) total (by omega) (Int.fdiv_nonneg hcp (by omega)), ?_⟩
        simp [ev1, ev2, ev3, ev4, bind_ok, mkEnv, get?, ret_ok, hix0, hix1, hix2, hix3, mPut_eq, put1, put2, put3, hpow, hmod, dMod_pos, dn, h1, h2, h3, h4, hcell cells k0 h1]
    · obtain ⟨q, hq, eq⟩ := e_mix ((total + 1).fmod 2147483629) k0 [handD cells k0 0 ((total + 1).fmod 2147483629)]
      refine ⟨q.fmod n, _, (red q).1, (red q).2, mk k0 0 ((total + 1).fmod 2147483629) (by omega) (by omega), ?_⟩
      simp [ev1, ev2, ev3, ev4, bind_ok, mkEnv, get?, ret_ok, hix0, hix1, hix2, hix3, mPut_eq, put1, put2, put3, hpow, hmod, dMod_pos, dn, h1, hm8, eq]
  · have h4 : 0 < rest := by omega
    refine ⟨rest.fmod n, _, (red _).1, (red _).2, mk k0 (rest.fdiv n) total (by omega) (Int.fdiv_nonneg hr (by omega)), ?_⟩
    simp [ev1, ev2, ev3, ev4, bind_ok, mkEnv, get?, ret_ok, hix0, hix1, hix2, hix3, mPut_eq, put1, put2, put3, hpow, hmod, dMod_pos, dn, h0, h4]
end My

namespace My
open PySem PySem.Spec PyProof.Rows L2 DL
theorem e_hand (ns : List Int) (hl : ns.length ≤ 63) : ∃ (cells : List Int) (t : Int), (∀ c ∈ cells, 0 ≤ c) ∧ m__law_hand [.rol (ns.map .int)] [] = .ok (handD cells 0 0 t) [] := by
  obtain ⟨env', st', hf, t, x, y, rfl, rfl⟩ := forD_inv (g := gTp (gsCons (gNm 2) (gsCons (gNm 3) (gsNil)))) (body := mSet 1 (mOp dMod (mCall1 (c1 dInt1) (mCons (mOp dAdd (mOp dMul (mVar 1) (mC (.int 31))) (mOp dMul (mCall1 (c1 dInt1) (mCons (mVar 3) (mNil))) (mOp dAdd (mVar 2) (mC (.int 7))))) (mNil))) (mC (.int 2147483629))))
    (fun env st => ∃ (t : Int) (x y : Option D), env = [some (.rol (ns.map .int)), some (.int t), x, y] ∧ st = []) (fun d => ∃ (i : Nat) (v : Int), i < 63 ∧ d = .tup [.int (i : Int), .int v])
    (by
      rintro d env st ⟨i, v, hi, rfl⟩ ⟨t, x, y, rfl, rfl⟩
      refine ⟨_, [some (.rol (ns.map .int)), some (.int ((t * 31 + v * (i + 7)).fmod 2147483629)), some (.int i), some (.int v)], [], rfl, ?_, _, _, _, rfl, rfl⟩
      have m1 : DL.MulOk t 31 := mulOk_r (by decide)
      have m2 : DL.MulOk v (i + 7) := mulOk_r (by omega)
      simp [ev1, ev2, ev3, ev4, bind_ok, mkEnv, get?, ret_ok, dMod_pos, m1, m2]) (numbered (ns.map .int)) [some (.rol (ns.map .int)), some (.int 0), none, none] []
    (by
      intro d hd
      obtain ⟨i, x, h1, h2, rfl⟩ := numbered_mem hd
      obtain ⟨v, _, rfl⟩ := List.mem_map.mp h2
      exact ⟨i, v, by rw [List.length_map] at h1; omega, rfl⟩) ⟨0, _, _, rfl, rfl⟩
  refine ⟨ns.map fun n => if n < 0 then -n else n, t, ?_, ?_⟩
  · intro c hc
    rw [List.mem_map] at hc
    obtain ⟨n, _, rfl⟩ := hc
    split <;> omega
  · have hc := lcD_map (env := [some (.rol (ns.map .int)), some (.int t), x, none]) (g := gNm 3) (mt := mYes) (me := mCall1 (c1 dAbs) (mCons (mCall1 (c1 dInt1) (mCons (mVar 3) (mNil))) (mNil))) (st := []) (fun d => match d with | .int n => .int (if n < 0 then -n else n) | d => d) (ns.map .int) (by
      intro d hd
      obtain ⟨v, _, rfl⟩ := List.mem_map.mp hd
      refine ⟨_, rfl, rfl, ?_⟩
      simp [ev1, ev2, ev3, ev4, bind_ok, mkEnv, get?, ret_ok])
    have hz : ns.length ≤ sizeLine := Nat.le_trans hl (by decide)
    unfold m__law_hand b__law_hand
    simp [ev1, ev2, ev3, ev4, bind_ok, mkEnv, get?, ret_ok, mFor_eq, enum?, hf, handD, mItems, DL.items?, wipeE]
    rw [hc]
    simp [ev1, ev2, ev3, ev4, bind_ok, mkEnv, get?, ret_ok, lstOk, hz]
    rw [if_pos (by decide)]
    rfl
end My

namespace My
open PySem PySem.Spec PyProof.Rows L2 DL
/-! equality of data -/
def Sh (k : Nat) (d : D) : Prop := (toP d).canLay0 = true ∧ (toP d).depth ≤ k
def ShA (k : Nat) (ds : List D) : Prop := PyData.canLayAll0 (toPs ds) = true ∧ PyData.depthAll (toPs ds) ≤ k
theorem ShA.nil {k : Nat} : ShA k [] := ⟨rfl, Nat.zero_le _⟩
theorem ShA.cons {k : Nat} {d : D} {ds : List D} (h : Sh k d) (r : ShA k ds) : ShA k (d :: ds) := by
  obtain ⟨a, b⟩ := h
  obtain ⟨c, e⟩ := r
  constructor
  · show PyData.canLayAll0 (toP d :: toPs ds) = true
    unfold PyData.canLayAll0
    rw [a, c]; rfl
  · show PyData.depthAll (toP d :: toPs ds) ≤ k
    unfold PyData.depthAll
    omega
theorem ShA.map {α : Type} {k : Nat} {f : α → D} (h : ∀ a, Sh k (f a)) : ∀ l : List α, ShA k (l.map f)
  | [] => .nil
  | a :: l => .cons (h a) (ShA.map h l)
theorem Sh.tup {k : Nat} {ds : List D} (h : ShA k ds) : Sh (k + 1) (.tup ds) := by
  obtain ⟨a, b⟩ := h
  refine ⟨?_, ?_⟩
  · show PyData.canLay0 (.tuple (toPs ds)) = true
    unfold PyData.canLay0; exact a
  · show PyData.depth (.tuple (toPs ds)) ≤ k + 1
    unfold PyData.depth; omega
theorem Sh.lst {k : Nat} {ds : List D} (h : ShA k ds) : Sh (k + 1) (.lst ds) := by
  obtain ⟨a, b⟩ := h
  refine ⟨?_, ?_⟩
  · show PyData.canLay0 (.list (toPs ds)) = true
    unfold PyData.canLay0; exact a
  · show PyData.depth (.list (toPs ds)) ≤ k + 1
    unfold PyData.depth; omega
theorem Sh.int (k : Nat) (i : Int) : Sh k (.int i) := ⟨rfl, Nat.zero_le _⟩
theorem Sh.bl (k : Nat) (b : Bool) : Sh k (.bl b) := ⟨rfl, Nat.zero_le _⟩
theorem Sh.non (k : Nat) : Sh k .non := ⟨rfl, Nat.zero_le _⟩
theorem Sh.str (k : Nat) {x : Str} (h : (toP (.str x)).canLay0 = true) : Sh k (.str x) := ⟨h, Nat.zero_le _⟩
theorem Sh.mono {k l : Nat} {d : D} (h : Sh k d) (hk : k ≤ l) : Sh l d := ⟨h.1, Nat.le_trans h.2 hk⟩
def eqv (x y : D) : Bool := PyData.eqv (toP x) (toP y)
def eqvL (xs ys : List D) : Bool := PyData.eqvAll (toPs xs) (toPs ys)
theorem Sh.shaped {k : Nat} {d : D} (h : Sh k d) (hk : k ≤ 64) : SeqAt.shaped (toP d) = true := by
  unfold SeqAt.shaped
  rw [h.1, decide_eq_true (Nat.le_trans h.2 hk)]
  rfl
theorem eqD_of {k l : Nat} {x y : D} (h : Sh k x) (g : Sh l y) (hk : k ≤ 64) (hl : l ≤ 64) : eqD x y = some (eqv x y) := by
  unfold eqD
  rw [if_pos ⟨h.shaped hk, g.shaped hl⟩]
  rfl
theorem dEq_of {k l : Nat} {x y : D} (h : Sh k x) (g : Sh l y) (hk : k ≤ 64 := by decide) (hl : l ≤ 64 := by decide) : dEq x y = some (.bl (eqv x y)) := by
  unfold dEq; rw [eqD_of h g hk hl]; rfl
theorem dNe_of {k l : Nat} {x y : D} (h : Sh k x) (g : Sh l y) (hk : k ≤ 64 := by decide) (hl : l ≤ 64 := by decide) : dNe x y = some (.bl (!eqv x y)) := by
  unfold dNe; rw [eqD_of h g hk hl]; rfl
theorem eqv_tup (xs ys : List D) : eqv (.tup xs) (.tup ys) = eqvL xs ys := by
  show PyData.eqv (.tuple (toPs xs)) (.tuple (toPs ys)) = _
  unfold PyData.eqv; rfl
theorem eqv_lst (xs ys : List D) : eqv (.lst xs) (.lst ys) = eqvL xs ys := by
  show PyData.eqv (.list (toPs xs)) (.list (toPs ys)) = _
  unfold PyData.eqv; rfl
theorem eqvL_cons (x y : D) (xs ys : List D) : eqvL (x :: xs) (y :: ys) = (eqv x y && eqvL xs ys) := by
  show PyData.eqvAll (toP x :: toPs xs) (toP y :: toPs ys) = _
  unfold PyData.eqvAll; rfl
theorem eqvL_nil : eqvL [] [] = true := rfl
theorem eqvL_nc (x : D) (xs : List D) : eqvL [] (x :: xs) = false := rfl
theorem eqvL_cn (x : D) (xs : List D) : eqvL (x :: xs) [] = false := rfl
theorem eqv_int (i j : Int) : eqv (.int i) (.int j) = decide (i = j) := Bool.beq_eq_decide_eq i j
theorem eqv_bl (a b : Bool) : eqv (.bl a) (.bl b) = decide (a = b) := by cases a <;> cases b <;> rfl
theorem eqv_str (x y : Str) : eqv (.str x) (.str y) = (x == y) := rfl
theorem eqvL_map {α : Type} [DecidableEq α] {f : α → D} (h : ∀ a b, eqv (f a) (f b) = decide (a = b)) : ∀ xs ys : List α, eqvL (xs.map f) (ys.map f) = decide (xs = ys)
  | [], [] => rfl
  | [], _ :: _ => by rw [List.map_nil, List.map_cons, eqvL_nc]; simp
  | _ :: _, [] => by rw [List.map_nil, List.map_cons, eqvL_cn]; simp
  | x :: xs, y :: ys => by
    rw [List.map_cons, List.map_cons, eqvL_cons, h, eqvL_map h xs ys, ← Bool.decide_and, decide_eq_decide]
    simp
theorem eqvL_ints (xs ys : List Int) : eqvL (xs.map .int) (ys.map .int) = decide (xs = ys) := eqvL_map eqv_int xs ys
theorem sh_ints (ws : List Int) : Sh 1 (.tup (ws.map .int)) := .tup (.map (.int 0) ws)
/-! rows: fields and == -/
end My

namespace My
open PySem PySem.Spec PyProof.Rows L2 DL
/-! stepping through a body, statement by statement, without writing the slots -/
def seqK (o : Out) (b : MS) : Out := match o with
  | .nx e s => b e s
  | o => o
theorem mSeq_k (a b : MS) (env : Env') (st : List D) : mSeq a b env st = seqK (a env st) b := by
  unfold mSeq seqK
  cases a env st <;> rfl
theorem seqK_nx (e : Env') (s : List D) (b : MS) : seqK (.nx e s) b = b e s := rfl
theorem seqK_rt (d : D) (s : List D) (b : MS) : seqK (.rt d s) b = .rt d s := rfl
theorem seqK_er (x : Ex) (e : Env') (s : List D) (b : MS) : seqK (.er x e s) b = .er x e s := rfl
/-- the law's end -/
def RetT (o : Out) : Prop := ∃ s, o = .rt (.bl true) s
theorem RetT.mk (s : List D) : RetT (.rt (.bl true) s) := ⟨s, rfl⟩
/-- a function's end, the state left open -/
def Ends (o : Out) (P : D → List D → Prop) : Prop := ∃ d s, o = .rt d s ∧ P d s
end My

namespace My
open PySem PySem.Spec PyProof.Rows L2 DL
/-! words that serve any law -/
theorem raise1 (c : Nat) (f : Str) (d : D) (env : Env') (st : List D) : raiseR c [f] env (.ok [d] st) = .er ⟨c, some [(f, d)]⟩ env st := rfl
theorem fn3 {m : MS} {a b : D} {st : List D} : fnM 3 m [a, b] st = outR (m [some a, some b, none] st) := fnM_eq (by simp)
theorem fn2 {m : MS} {a : D} {st : List D} : fnM 2 m [a] st = outR (m [some a, none] st) := fnM_eq (by simp)
theorem chain_lt {mc : List D → Res D} {a b c : Int} {st : List D} (h : mc st = .ok (.int c) st) : chainR dLe dLt mc (.int a) (.int b) st = .ok (.bl (decide (a ≤ b) && decide (b < c))) st := by
  unfold chainR
  have e : dLe (.int a) (.int b) = some (.bl (decide (a ≤ b))) := rfl
  rw [e]
  by_cases hab : a ≤ b
  · simp only [hab, decide_true, h, bind_ok, Bool.true_and]; rfl
  · simp only [hab, decide_false, Bool.false_and]
theorem log2_lt' {n k : Nat} (h0 : n ≠ 0) (h : n < 2 ^ k) : n.log2 < k := (Nat.log2_lt h0).mpr h
theorem drB (n : Int) (k : Nat) (h0 : 0 < n) (h1 : n.natAbs < 2 ^ k) (hk : k ≤ 9000) (st : List D) (hs : HandOk st) : ∃ (r : Int) (st' : List D), 0 ≤ r ∧ r < n ∧ HandOk st' ∧ m__law_draw [.tok 0, .int n] st = .ok (.int r) st' :=
  e_draw n h0 (by have := log2_lt' (n := n.natAbs) (k := k) (by omega) h1; omega) st hs
/-- flat data: equal to itself, and == answers -/
def Rf (d : D) : Prop := Sh 2 d ∧ eqv d d = true
def RfL (ds : List D) : Prop := ShA 2 ds ∧ eqvL ds ds = true
theorem Rf.int (i : Int) : Rf (.int i) := ⟨.int 2 i, by rw [eqv_int, decide_eq_true rfl]⟩
theorem Rf.pair (a b : Int) : Rf (.tup [.int a, .int b]) := ⟨(Sh.tup (k := 0) (.cons (.int 0 a) (.cons (.int 0 b) .nil))).mono (by decide), by rw [eqv_tup, eqvL_cons, eqvL_cons, eqvL_nil, eqv_int, eqv_int]; simp⟩
theorem RfL.nil : RfL [] := ⟨.nil, rfl⟩
theorem RfL.cons {d : D} {ds : List D} (h : Rf d) (r : RfL ds) : RfL (d :: ds) := ⟨.cons h.1 r.1, by rw [eqvL_cons, h.2, r.2]; rfl⟩
theorem RfL.dNe {xs : List D} (h : RfL xs) : dNe (.lst xs) (.lst xs) = some (.bl false) := by
  rw [dNe_of (Sh.lst h.1) (Sh.lst h.1), eqv_lst, h.2]; rfl
theorem RfL.dEq {xs : List D} (h : RfL xs) : dEq (.lst xs) (.lst xs) = some (.bl true) := by
  rw [dEq_of (Sh.lst h.1) (Sh.lst h.1), eqv_lst, h.2]
theorem Rf.str {x : Str} (h : (toP (.str x)).canLay0 = true) : Rf (.str x) := ⟨.str 2 h, by rw [eqv_str]; simp⟩
theorem ints_of' {P : Int → Prop} : ∀ ys : List D, (∀ y ∈ ys, ∃ w, P w ∧ y = .int w) → ∃ ws : List Int, ys = ws.map .int ∧ ∀ w ∈ ws, P w
  | [], _ => ⟨[], rfl, fun w hw => by cases hw⟩
  | y :: ys, h => by
    obtain ⟨w, p, rfl⟩ := h y List.mem_cons_self
    obtain ⟨ws, rfl, ps⟩ := ints_of' ys fun x hx => h x (List.mem_cons_of_mem _ hx)
    exact ⟨w :: ws, rfl, fun x hx => (List.mem_cons.mp hx).elim (fun e => e ▸ p) (ps x)⟩
theorem cut_take (xs : List D) (k : Nat) : DL.cutD xs none (some (k : Int)) = xs.take k := by
  unfold DL.cutD
  rw [HT.sIx_none, HT.sIx_nat]
  simp [List.take_eq_take_iff]
theorem cut_drop (xs : List D) (k : Nat) : DL.cutD xs (some (k : Int)) none = xs.drop k := by
  unfold DL.cutD
  rw [HT.sIx_none, HT.sIx_nat]
  by_cases h : k ≤ xs.length
  · rw [Nat.min_eq_left h, List.take_of_length_le (by simp)]
  · rw [Nat.min_eq_right (by omega), List.drop_of_length_le (Nat.le_refl _), List.drop_of_length_le (by omega)]; simp
theorem cut_last (xs : List D) : DL.cutD xs none (some (-1)) = xs.take (xs.length - 1) := by
  unfold DL.cutD
  have h1 : HT.sIx xs.length 0 none = 0 := rfl
  have h2 : HT.sIx xs.length xs.length (some (-1)) = xs.length - 1 := by
    show (if (-1 : Int) < 0 then ((-1 : Int) + (xs.length : Int)).toNat else min (-1 : Int).toNat xs.length) = _
    rw [if_pos (by decide)]
    omega
  rw [h1, h2]; simp
theorem addL (a b : List D) (h : a.length + b.length ≤ 100) : dAdd (.lst a) (.lst b) = some (.lst (a ++ b)) := by
  show (if a.length + b.length ≤ sizeLine then _ else _) = _
  rw [if_pos (Nat.le_trans h (by decide))]
theorem mSl_of {m : ME} {l h : MO} {env : Env'} {st s1 s2 s3 : List D} {xs : List D} {lo hi : Option Int} (hm : m env st = .ok (.lst xs) s1) (hl : l env s1 = .ok lo s2) (hh : h env s2 = .ok hi s3) : mSl m l h env st = .ok (.lst (DL.cutD xs lo hi)) s3 := by
  unfold mSl
  rw [hm, bind_ok, hl, bind_ok, hh, bind_ok]; rfl
theorem mPart_of {m : ME} {env : Env'} {st s1 : List D} {i : Int} (hm : m env st = .ok (.int i) s1) : mPart m env st = .ok (some i) s1 := by
  unfold mPart
  rw [hm]; rfl
theorem mNo_of {env : Env'} {st : List D} : mNo env st = .ok none st := rfl
theorem repL {d : D} {k : Nat} (h : k ≤ 1000) : dMul (.lst [d]) (.int (k : Int)) = some (.lst (repD k [d])) := by
  have h2 : (k : Int) ≤ (1000 : Int) := Int.ofNat_le.mpr h
  have hz : (1000 : Nat) ≤ sizeLine := by decide
  have hc : -(2 ^ 63) ≤ (k : Int) ∧ (k : Int) < 2 ^ 63 ∧ [d].length * (k : Int).toNat ≤ sizeLine := ⟨Int.le_trans (by decide : -(2 ^ 63) ≤ (0 : Int)) (Int.natCast_nonneg k), Int.lt_of_le_of_lt h2 (by decide), by rw [Int.toNat_natCast, List.length_singleton]; omega⟩
  have e : dMul (.lst [d]) (.int (k : Int)) = @ite _ (-(2 ^ 63) ≤ (k : Int) ∧ (k : Int) < 2 ^ 63 ∧ [d].length * (k : Int).toNat ≤ sizeLine) (Classical.propDecidable _) (some (.lst (repD (k : Int).toNat [d]))) none := rfl
  rw [e, if_pos hc, Int.toNat_natCast]
theorem rep_len (d : D) (k : Nat) : (repD k [d]).length = k := by
  unfold repD
  rw [List.length_flatten, List.map_replicate, List.sum_replicate_nat, List.length_singleton, Nat.mul_one]
theorem forD_rt {g : MG} {body : MS} {d : D} {ds : List D} {env e1 e2 : Env'} {st s1 : List D} (hg : g d env = some e1) (hb : body e1 st = .nx e2 s1) : forD g body (d :: ds) env st = forD g body ds e2 s1 := by
  rw [forD_cons, hg]
  simp only [hb]
theorem xfld {c : Nat} {f : Str} {d : D} {fs : List (Str × D)} {env : Env'} {i : Nat} {st : List D} (he : env[i]? = some (some (.obj c (("", .non) :: (f, d) :: fs)))) (ok : okX c f = true) : mXf okX i f env st = .ok d st := by
  unfold mXf
  rw [he]
  show (if okX c f = true then ret? (((f, d) :: fs).lookup f) st else .bad) = _
  rw [if_pos ok, DL.look_same]; rfl
theorem drK {n : Nat} (h0 : 1 ≤ n) (h1 : n ≤ 40) (st : List D) (hs : HandOk st) : ∃ (r : Nat) (st' : List D), r < n ∧ HandOk st' ∧ m__law_draw [.tok 0, .int (n : Int)] st = .ok (.int (r : Int)) st' := by
  obtain ⟨r, s, a, b, k, e⟩ := drB (n : Int) 6 (by omega) (by omega) (by decide) st hs
  obtain ⟨r', rfl⟩ : ∃ r' : Nat, r = r' := ⟨r.toNat, by omega⟩
  exact ⟨r', s, by omega, k, e⟩
theorem lcD_filterL {env : Env'} {g : MG} {mt : MT} {me : ME} {st : List D} {α : Type} (u : α → D) (c : α → Bool) (l : List α) (h : ∀ a ∈ l, ∃ env1, g (u a) env = some env1 ∧ mt env1 st = .ok (c a) st ∧ me env1 st = .ok (u a) st) : lcD env g mt me (l.map u) st = .ok ((l.filter c).map u) st := by
  induction l with
  | nil => rfl
  | cons a l ih =>
    obtain ⟨e1, h1, h2, h3⟩ := h a List.mem_cons_self
    have ih := ih fun b hb => h b (List.mem_cons_of_mem _ hb)
    rw [List.map_cons]
    unfold lcD
    simp only [h1]
    rw [h2]
    simp only [noEr, bind_ok]
    by_cases hc : c a = true
    · rw [if_pos hc, h3, List.filter_cons_of_pos hc]
      simp only [bind_ok]
      rw [ih]
      rfl
    · rw [if_neg hc, List.filter_cons_of_neg hc, ih]
end My

namespace My
/-! Words and their histories (k40): plain law. -/

/-- the letters p, p+1 of a word, in order -/
def prjH (p : Int) (w : List Int) : List Int := w.filter (fun q => decide (q = p) || decide (q = p + 1))

/-- of one history -/
def EqvH (u v : List Int) : Prop := ∀ p, prjH p u = prjH p v

theorem EqvH.refl (u : List Int) : EqvH u u := fun _ => rfl
theorem EqvH.symm {u v : List Int} (h : EqvH u v) : EqvH v u := fun p => (h p).symm
theorem EqvH.trans {u v w : List Int} (h : EqvH u v) (k : EqvH v w) : EqvH u w := fun p => (h p).trans (k p)

/-- no entry is more than one above the next -/
def FlatH : List Int → Prop
  | x :: y :: w => x ≤ y + 1 ∧ FlatH (y :: w)
  | _ => True

/-- at most as great, letter by letter -/
def lexH : List Int → List Int → Bool
  | [], _ => true
  | _ :: _, [] => false
  | a :: u, b :: v => decide (a < b) || (decide (a = b) && lexH u v)

theorem prj_cons (p a : Int) (w : List Int) :
    prjH p (a :: w) = if a = p ∨ a = p + 1 then a :: prjH p w else prjH p w := by
  by_cases h : a = p ∨ a = p + 1
  · rw [if_pos h, prjH, List.filter_cons_of_pos (by simpa using h)]; rfl
  · rw [if_neg h, prjH, List.filter_cons_of_neg (by simpa using h)]; rfl

theorem prj_append (p : Int) (u v : List Int) : prjH p (u ++ v) = prjH p u ++ prjH p v := by
  simp [prjH, List.filter_append]

theorem FlatH.tail {a : Int} {w : List Int} (h : FlatH (a :: w)) : FlatH w := by
  cases w with
  | nil => trivial
  | cons y w => exact h.2

/-- going down by one at most, one meets b + 1 ahead of b -/
theorem flat_meet (b : Int) : ∀ (w : List Int) (a : Int), FlatH (a :: w) → b < a → b ∈ a :: w →
    ∃ t, prjH b (a :: w) = (b + 1) :: t
  | [], a, _, hb, hm => by
      simp only [List.mem_singleton] at hm; omega
  | c :: w, a, hf, hb, hm => by
      by_cases ha : a = b + 1
      · exact ⟨prjH b (c :: w), by rw [prj_cons, if_pos (Or.inr ha), ha]⟩
      · have h1 : a ≤ c + 1 := hf.1
        have hm' : b ∈ c :: w := by
          rcases List.mem_cons.1 hm with h | h
          · omega
          · exact h
        obtain ⟨t, ht⟩ := flat_meet b w c hf.2 (by omega) hm'
        exact ⟨t, by rw [prj_cons, if_neg (by omega), ht]⟩

theorem eqv_cancel {a : Int} {u v : List Int} (h : EqvH (a :: u) (a :: v)) : EqvH u v := by
  intro p
  have := h p
  rw [prj_cons, prj_cons] at this
  split at this
  · exact (List.cons.inj this).2
  · exact this

theorem eqv_cons (a : Int) {u v : List Int} (h : EqvH u v) : EqvH (a :: u) (a :: v) := by
  intro p; rw [prj_cons, prj_cons, h p]

theorem eqv_mem {u v : List Int} (h : EqvH u v) {b : Int} (hb : b ∈ u) : b ∈ v := by
  have h1 : b ∈ prjH b u := by simp [prjH, hb]
  rw [h b] at h1
  exact (List.mem_filter.1 h1).1

/-- a flat word is the least of its history -/
theorem flat_least : ∀ (u v : List Int), FlatH u → EqvH u v → lexH u v = true
  | [], _, _, _ => rfl
  | a :: u, [], _, h => by
      have := eqv_mem h (b := a) (by simp)
      simp at this
  | a :: u, b :: v, hf, h => by
      rcases Int.lt_trichotomy a b with hab | hab | hab
      · simp [lexH, hab]
      · subst hab
        simp [lexH, flat_least u v hf.tail (eqv_cancel h)]
      · exfalso
        have hm := eqv_mem h.symm (b := b) (by simp)
        obtain ⟨t, ht⟩ := flat_meet b u a hf hab hm
        have h1 := h b
        rw [ht, prj_cons, if_pos (Or.inl rfl)] at h1
        have := (List.cons.inj h1).1
        omega

theorem lex_antisymm : ∀ (u v : List Int), lexH u v = true → lexH v u = true → u = v
  | [], [], _, _ => rfl
  | [], _ :: _, _, h => by simp [lexH] at h
  | _ :: _, [], h, _ => by simp [lexH] at h
  | a :: u, b :: v, h, k => by
      simp only [lexH, Bool.or_eq_true, Bool.and_eq_true, decide_eq_true_eq] at h k
      rcases h with h | ⟨h, h'⟩
      · rcases k with k | ⟨k, _⟩ <;> omega
      · subst h
        rcases k with k | ⟨_, k'⟩
        · omega
        · rw [lex_antisymm u v h' k']

/-- flat words of one history are equal -/
theorem flat_eq {u v : List Int} (hu : FlatH u) (hv : FlatH v) (h : EqvH u v) : u = v :=
  lex_antisymm u v (flat_least u v hu h) (flat_least v u hv h.symm)

/-- apart: no ball in common -/
def AprtH (a b : Int) : Prop := a + 1 < b ∨ b + 1 < a

theorem AprtH.symm {a b : Int} (h : AprtH a b) : AprtH b a := h.elim Or.inr Or.inl

/-- apart neighbours can be exchanged -/
theorem eqv_swap (x : List Int) {a b : Int} (y : List Int) (h : AprtH a b) :
    EqvH (x ++ a :: b :: y) (x ++ b :: a :: y) := by
  intro p
  rw [prj_append, prj_append]
  congr 1
  simp only [prj_cons]
  unfold AprtH at h
  by_cases h1 : a = p ∨ a = p + 1
  · have h2 : ¬ (b = p ∨ b = p + 1) := by omega
    simp [h1, h2]
  · simp [h1]

/-- exchanging unlike neighbours that share a ball leaves the history -/
theorem eqv_near (x : List Int) {a b : Int} (y : List Int) (h : ¬ AprtH a b) (hn : a ≠ b) :
    ¬ EqvH (x ++ a :: b :: y) (x ++ b :: a :: y) := by
  intro he
  unfold AprtH at h
  have h1 := he (min a b)
  rw [prj_append, prj_append] at h1
  have h2 := List.append_cancel_left h1
  have ha : a = min a b ∨ a = min a b + 1 := by omega
  have hb : b = min a b ∨ b = min a b + 1 := by omega
  rw [prj_cons, prj_cons, prj_cons, prj_cons, if_pos ha, if_pos hb, if_pos hb, if_pos ha] at h2
  exact hn (List.cons.inj h2).1

/-- an entry put behind a flat word, carried over entries that are more than one above it (the word from behind) -/
def insH (p : Int) : List Int → List Int
  | [] => [p]
  | x :: r => if p + 1 < x then x :: insH p r else p :: x :: r

/-- the least word, from behind -/
def lstR (w : List Int) : List Int := w.foldl (fun r p => insH p r) []

def FlatR : List Int → Prop
  | y :: x :: r => x ≤ y + 1 ∧ FlatR (x :: r)
  | _ => True

theorem FlatR.tail {a : Int} {w : List Int} (h : FlatR (a :: w)) : FlatR w := by
  cases w with
  | nil => trivial
  | cons y w => exact h.2

theorem flatR_cons {a : Int} {w : List Int} (h : FlatR w) (hh : ∀ x, w.head? = some x → x ≤ a + 1) :
    FlatR (a :: w) := by
  cases w with
  | nil => trivial
  | cons y w => exact ⟨hh y rfl, h⟩

theorem ins_head (p : Int) : ∀ (r : List Int) (x : Int), (insH p r).head? = some x → x = p ∨ r.head? = some x
  | [], x, h => by simp [insH] at h; exact Or.inl h.symm
  | y :: r, x, h => by
      by_cases hy : p + 1 < y
      · rw [insH, if_pos hy] at h; exact Or.inr h
      · rw [insH, if_neg hy] at h; simp at h; exact Or.inl h.symm

theorem ins_flat (p : Int) : ∀ (r : List Int), FlatR r → FlatR (insH p r)
  | [], _ => trivial
  | x :: r, h => by
      by_cases hy : p + 1 < x
      · rw [insH, if_pos hy]
        refine flatR_cons (ins_flat p r h.tail) ?_
        intro z hz
        rcases ins_head p r z hz with e | e
        · omega
        · cases r with
          | nil => simp at e
          | cons y r => simp at e; have := h.1; omega
      · rw [insH, if_neg hy]
        exact ⟨by omega, h⟩

theorem lst_flat (w : List Int) : FlatR (lstR w) := by
  have : ∀ (w r : List Int), FlatR r → FlatR (w.foldl (fun r p => insH p r) r) := by
    intro w
    induction w with
    | nil => intro r h; exact h
    | cons a w ih => intro r h; exact ih _ (ins_flat a r h)
  exact this w [] trivial

end My

namespace My
/-! k40: the least word is of the history; exchanges lead to it; how many words a history has. -/

/-- exchanges of apart neighbours -/
inductive SwapsH (u : List Int) : List Int → Prop
  | refl : SwapsH u u
  | step (x : List Int) (a b : Int) (y : List Int) : SwapsH u (x ++ a :: b :: y) → AprtH a b →
      SwapsH u (x ++ b :: a :: y)

theorem SwapsH.eqv {u v : List Int} (h : SwapsH u v) : EqvH u v := by
  induction h with
  | refl => exact EqvH.refl _
  | step x a b y _ ha ih => exact ih.trans (eqv_swap x y ha)

theorem SwapsH.trans {u v w : List Int} (h : SwapsH u v) (k : SwapsH v w) : SwapsH u w := by
  induction k with
  | refl => exact h
  | step x a b y _ ha ih => exact .step x a b y ih ha

theorem SwapsH.symm {u v : List Int} (h : SwapsH u v) : SwapsH v u := by
  induction h with
  | refl => exact .refl
  | step x a b y _ ha ih => exact SwapsH.trans (.step x b a y .refl ha.symm) ih

theorem SwapsH.app {u v : List Int} (h : SwapsH u v) (z : List Int) : SwapsH (u ++ z) (v ++ z) := by
  induction h with
  | refl => exact .refl
  | step x a b y _ ha ih =>
    have := SwapsH.step x a b (y ++ z) (by simpa using ih) ha
    simpa using this

/-- putting an entry in is done by exchanges (the word from behind) -/
theorem ins_swaps (p : Int) : ∀ (r : List Int), SwapsH (r.reverse ++ [p]) (insH p r).reverse
  | [] => .refl
  | x :: r => by
      by_cases hy : p + 1 < x
      · rw [insH, if_pos hy]
        have h1 : SwapsH ((x :: r).reverse ++ [p]) (r.reverse ++ p :: x :: []) := by
          have := SwapsH.step (u := (x :: r).reverse ++ [p]) r.reverse x p []
            (by simpa using SwapsH.refl (u := r.reverse ++ [x, p])) (Or.inr hy)
          simpa using this
        have h2 := (ins_swaps p r).app [x]
        have h3 : SwapsH (r.reverse ++ p :: x :: []) ((x :: insH p r).reverse) := by simpa using h2
        exact h1.trans h3
      · rw [insH, if_neg hy]
        simpa using SwapsH.refl (u := r.reverse ++ [x, p])

theorem lst_swaps (w : List Int) : SwapsH w (lstR w).reverse := by
  have : ∀ (w r : List Int), SwapsH (r.reverse ++ w) (w.foldl (fun r p => insH p r) r).reverse := by
    intro w
    induction w with
    | nil => intro r; simpa using SwapsH.refl (u := r.reverse)
    | cons a w ih =>
      intro r
      have h1 := (ins_swaps a r).app w
      have h2 : SwapsH (r.reverse ++ a :: w) ((insH a r).reverse ++ w) := by simpa using h1
      exact h2.trans (ih (insH a r))
  exact this w []

theorem flat_rev_aux : ∀ (r : List Int) (z : List Int), FlatR r → FlatH z →
    (∀ x y, r.head? = some x → z.head? = some y → x ≤ y + 1) → FlatH (r.reverse ++ z)
  | [], z, _, hz, _ => by simpa using hz
  | a :: r, z, hr, hz, hh => by
      have : FlatH (r.reverse ++ a :: z) := by
        refine flat_rev_aux r (a :: z) hr.tail ?_ ?_
        · cases z with
          | nil => trivial
          | cons y z => exact ⟨hh a y rfl rfl, hz⟩
        · intro x y hx hy
          cases r with
          | nil => simp at hx
          | cons c r =>
            simp at hx hy
            have := hr.1
            omega
      simpa using this

theorem flat_rev {r : List Int} (h : FlatR r) : FlatH r.reverse := by
  have := flat_rev_aux r [] h trivial (by intro x y _ hy; simp at hy)
  simpa using this

/-- the least word of a history -/
def leastH (w : List Int) : List Int := (lstR w).reverse

theorem least_flat (w : List Int) : FlatH (leastH w) := flat_rev (lst_flat w)
theorem least_eqv (w : List Int) : EqvH w (leastH w) := (lst_swaps w).eqv
theorem least_eq {u v : List Int} (h : EqvH u v) : leastH u = leastH v :=
  flat_eq (least_flat u) (least_flat v) ((least_eqv u).symm.trans (h.trans (least_eqv v)))
theorem least_iff {u v : List Int} : leastH u = leastH v ↔ EqvH u v :=
  ⟨fun h => (least_eqv u).trans (h ▸ (least_eqv v).symm), least_eq⟩
theorem least_le {u v : List Int} (h : EqvH u v) : lexH (leastH u) v = true :=
  flat_least _ _ (least_flat u) ((least_eqv u).symm.trans h)
/-- exchanges lead to all words of the history -/
theorem eqv_swaps {u v : List Int} (h : EqvH u v) : SwapsH u v := by
  have h1 := lst_swaps u
  have h2 := lst_swaps v
  have : (lstR u).reverse = (lstR v).reverse := least_eq h
  rw [this] at h1
  exact h1.trans h2.symm

theorem SwapsH.perm {u v : List Int} (h : SwapsH u v) : u.Perm v := by
  induction h with
  | refl => exact List.Perm.refl _
  | step x a b y _ ha ih => exact ih.trans (List.Perm.append_left x (List.Perm.swap b a y))

theorem EqvH.perm {u v : List Int} (h : EqvH u v) : u.Perm v := (eqv_swaps h).perm
theorem EqvH.length {u v : List Int} (h : EqvH u v) : u.length = v.length := h.perm.length_eq

/-- a set that holds a word and is closed under exchanges holds the history -/
theorem closed_all {S : List Int → Prop} {w : List Int} (hw : S w)
    (hS : ∀ x a b y, S (x ++ a :: b :: y) → AprtH a b → S (x ++ b :: a :: y)) {v : List Int} (h : EqvH w v) :
    S v := by
  have h2 := eqv_swaps h
  clear h
  induction h2 with
  | refl => exact hw
  | step x a b y h1 ha ih => exact hS x a b y ih ha

/-- the place of an entry in one of three chains -/
def chH (q : Int) : Int := (q + 1) / 2

theorem chain_eq : ∀ (n : Nat) (u v : List Int), u.length = n → EqvH u v → u.map chH = v.map chH → u = v
  | 0, u, v, hn, h, _ => by
      have hv := h.length
      rw [hn] at hv
      rw [List.length_eq_zero_iff.1 hn, List.length_eq_zero_iff.1 hv.symm]
  | n + 1, [], v, hn, h, _ => by simp at hn
  | n + 1, a :: u, [], hn, h, hm => by simp at hm
  | n + 1, a :: u, b :: v, hn, h, hm => by
      simp only [List.map_cons, List.cons.injEq] at hm
      have hab : a = b := by
        have h1 := h (2 * chH a - 1)
        have e1 : a = 2 * chH a - 1 ∨ a = 2 * chH a - 1 + 1 := by unfold chH; omega
        have e2 : b = 2 * chH a - 1 ∨ b = 2 * chH a - 1 + 1 := by rw [hm.1]; unfold chH; omega
        rw [prj_cons, prj_cons, if_pos e1, if_pos e2] at h1
        exact (List.cons.inj h1).1
      subst hab
      rw [chain_eq n u v (by simpa using hn) (eqv_cancel h) hm.2]

end My

namespace My
/-! k40: a history of at most 7 letters from -1 to 4 has at most 729 words -/

theorem pigeonH : ∀ (N : Nat) (L : List Nat), L.Nodup → (∀ x ∈ L, x < N) → L.length ≤ N
  | 0, [], _, _ => Nat.le_refl 0
  | 0, x :: L, _, h => absurd (h x (by simp)) (Nat.not_lt_zero x)
  | N + 1, L, hn, h => by
      by_cases hm : N ∈ L
      · have h1 := pigeonH N (L.erase N) (hn.erase N) (by
          intro x hx
          have h2 := (List.Nodup.mem_erase_iff hn).1 hx
          have := h x h2.2
          omega)
        have := List.length_erase_of_mem hm
        omega
      · have h1 := pigeonH N L hn (by
          intro x hx
          have h2 := h x hx
          have : x ≠ N := by intro e; exact hm (e ▸ hx)
          omega)
        omega

/-- digits to the base 3 -/
def numH : List Int → Nat
  | [] => 0
  | a :: w => a.toNat + 3 * numH w

theorem num_lt : ∀ (w : List Int), (∀ x ∈ w, 0 ≤ x ∧ x < 3) → numH w < 3 ^ w.length
  | [], _ => by simp [numH]
  | a :: w, h => by
      have h1 := num_lt w (fun x hx => h x (by simp [hx]))
      have h2 := h a (by simp)
      simp only [numH, List.length_cons, Nat.pow_succ]
      omega

theorem num_inj : ∀ (u v : List Int), (∀ x ∈ u, 0 ≤ x ∧ x < 3) → (∀ x ∈ v, 0 ≤ x ∧ x < 3) →
    u.length = v.length → numH u = numH v → u = v
  | [], [], _, _, _, _ => rfl
  | [], _ :: _, _, _, h, _ => by simp at h
  | _ :: _, [], _, _, h, _ => by simp at h
  | a :: u, b :: v, hu, hv, hl, h => by
      have h1 := hu a (by simp)
      have h2 := hv b (by simp)
      simp only [numH] at h
      have h3 : a = b := by omega
      have h4 : numH u = numH v := by omega
      rw [h3, num_inj u v (fun x hx => hu x (by simp [hx])) (fun x hx => hv x (by simp [hx])) (by simpa using hl) h4]

def codeH (w : List Int) : Nat := numH (w.dropLast.map chH)

theorem code_inj {u v : List Int} (h : EqvH u v) (hu : ∀ x ∈ u, -1 ≤ x ∧ x ≤ 4) (hc : codeH u = codeH v) : u = v := by
  have hv : ∀ x ∈ v, -1 ≤ x ∧ x ≤ 4 := fun x hx => hu x (h.perm.mem_iff.2 hx)
  have hl := h.length
  have d : u.dropLast.map chH = v.dropLast.map chH := by
    refine num_inj _ _ ?_ ?_ (by simp [hl]) hc
    · intro x hx
      obtain ⟨y, hy, rfl⟩ := List.mem_map.1 hx
      have := hu y ((List.dropLast_sublist _).subset hy)
      unfold chH; omega
    · intro x hx
      obtain ⟨y, hy, rfl⟩ := List.mem_map.1 hx
      have := hv y ((List.dropLast_sublist _).subset hy)
      unfold chH; omega
  refine chain_eq u.length u v rfl h ?_
  rcases List.eq_nil_or_concat u with hn | ⟨u', a, hu'⟩
  · subst hn
    have : v = [] := List.length_eq_zero_iff.1 hl.symm
    rw [this]
  · rcases List.eq_nil_or_concat v with hn | ⟨v', b, hv'⟩
    · subst hn; subst hu'; simp at hl
    · rw [List.concat_eq_append] at hu' hv'
      subst hu'; subst hv'
      have hp := h.perm.map chH
      have e1 : (u' ++ [a]).dropLast = u' := by simp
      have e2 : (v' ++ [b]).dropLast = v' := by simp
      rw [e1, e2] at d
      simp only [List.map_append, List.map_cons, List.map_nil] at hp ⊢
      rw [d] at hp ⊢
      have h1 := (List.perm_append_left_iff _).1 hp
      have h2 := List.singleton_perm_singleton.1 h1
      rw [h2]

theorem code_lt {w : List Int} (hl : w.length ≤ 7) (hw : ∀ x ∈ w, -1 ≤ x ∧ x ≤ 4) : codeH w < 729 := by
  have h1 := num_lt (w.dropLast.map chH) (by
    intro x hx
    obtain ⟨y, hy, rfl⟩ := List.mem_map.1 hx
    have := hw y ((List.dropLast_sublist _).subset hy)
    unfold chH; omega)
  have h2 : (3 : Nat) ^ (w.dropLast.map chH).length ≤ 3 ^ 6 := Nat.pow_le_pow_right (by omega) (by simp; omega)
  exact Nat.lt_of_lt_of_le h1 h2

theorem nodup_mapH (w : List Int) (hw : ∀ x ∈ w, -1 ≤ x ∧ x ≤ 4) : ∀ (L : List (List Int)), L.Nodup →
    (∀ v ∈ L, EqvH w v) → (L.map codeH).Nodup
  | [], _, _ => by simp
  | v :: L, hn, h => by
      rw [List.nodup_cons] at hn
      rw [List.map_cons, List.nodup_cons]
      refine ⟨?_, nodup_mapH w hw L hn.2 (fun x hx => h x (by simp [hx]))⟩
      intro hm
      obtain ⟨u, hu, hc⟩ := List.mem_map.1 hm
      have h1 := h v (by simp)
      have h2 := h u (by simp [hu])
      have : u = v := code_inj (h2.symm.trans h1) (fun x hx => hw x (h2.perm.mem_iff.2 hx)) hc
      exact hn.1 (this ▸ hu)

/-- a list of unlike words of one history is short -/
theorem lot_short {w : List Int} (hl : w.length ≤ 7) (hw : ∀ x ∈ w, -1 ≤ x ∧ x ≤ 4) {L : List (List Int)}
    (hn : L.Nodup) (h : ∀ v ∈ L, EqvH w v) : L.length ≤ 729 := by
  have h1 := pigeonH 729 (L.map codeH) (nodup_mapH w hw L hn h) (by
    intro x hx
    obtain ⟨v, hv, rfl⟩ := List.mem_map.1 hx
    have h2 := h v hv
    exact code_lt (h2.length ▸ hl) (fun y hy => hw y (h2.perm.mem_iff.2 hy)))
  simpa using h1

end My

namespace My
/-! k40: putting in at a place found from behind -/

/-- how many entries, from behind, are carried over -/
def plcR (p : Int) : List Int → Nat
  | [] => 0
  | x :: r => if p + 1 < x then plcR p r + 1 else 0

theorem plc_le (p : Int) : ∀ r : List Int, plcR p r ≤ r.length
  | [] => Nat.le_refl 0
  | x :: r => by
      have := plc_le p r
      unfold plcR
      split <;> simp <;> omega

theorem ins_place (p : Int) : ∀ r : List Int,
    r.reverse.take (r.length - plcR p r) ++ [p] ++ r.reverse.drop (r.length - plcR p r) = (insH p r).reverse
  | [] => by simp [insH, plcR]
  | x :: r => by
      have h := plc_le p r
      by_cases hx : p + 1 < x
      · have e : (x :: r).length - plcR p (x :: r) = r.length - plcR p r := by
          rw [plcR, if_pos hx, List.length_cons]; omega
        rw [e, insH, if_pos hx, List.reverse_cons, List.reverse_cons, ← ins_place p r,
          List.take_append_of_le_length (by simp), List.drop_append_of_le_length (by simp)]
        simp
      · have e : (x :: r).length - plcR p (x :: r) = (x :: r).reverse.length := by
          rw [plcR, if_neg hx]; simp
        rw [e, insH, if_neg hx, List.take_length, List.drop_length]
        simp
end My

namespace My
open PySem PySem.Spec PyProof.Rows L2 DL
/-! k40: words checked, words made least -/
theorem seq_ifF56 {c : MT} {a rest : MS} {env : Env'} {st s : List D} (h : c env st = .ok false s) : mSeq (mIfS c a mNx) rest env st = rest env s := by
  rw [mSeq_k]
  simp only [ev3, h, Bool.false_eq_true, if_false, seqK_nx]
def SeqD (d : D) (xs : List D) : Prop := d = .lst xs ∨ d = .tup xs
theorem SeqD.len {d : D} {xs : List D} (h : SeqD d xs) : c1 dLen [d] = some (.int (xs.length : Nat)) := by rcases h with rfl | rfl <;> rfl
theorem SeqD.isi {d : D} {xs : List D} (h : SeqD d xs) : dIsi [d, .tup [.ty "list", .ty "tuple"]] = some (.bl true) := by
  rcases h with rfl | rfl <;> rfl
theorem SeqD.tup {d : D} {xs : List D} (h : SeqD d xs) : c1 dTuple [d] = some (.tup xs) := by rcases h with rfl | rfl <;> rfl
theorem SeqD.items {d : D} {xs : List D} (h : SeqD d xs) (st : List D) : DL.items? d st = .ok xs st := by rcases h with rfl | rfl <;> rfl
theorem SeqD.enum {d : D} {xs : List D} (h : SeqD d xs) (st : List D) : enumA? [d] st = .ok (DL.numbered xs) st := by rcases h with rfl | rfl <;> rfl
/-- an error about a word -/
def exW (i : Int) (s : Str) : Ex := ⟨1, some [("what", .str s), ("index", .int i)]⟩
theorem raiseW {mi ms : ME} {i : Int} {s : Str} {env : Env'} {st : List D} (hi : mi env st = .ok (.int i) st) (hs : ms env st = .ok (.str s) st) (hk : okInt0 [D.int i, .str s] = true) : mRaiseG 1 ["index", "what"] okInt0 (mCons mi (mCons ms (mNil))) env st = .er (exW i s) env st := by
  rw [ev8]
  simp only [ev, bind_ok, hi, hs]
  rw [if_pos ⟨rfl, by simp, hk⟩]
  rfl
/-- a good letter -/
def LetOk (i : Int) : Prop := -1 ≤ i ∧ i ≤ 38
instance (i : Int) : Decidable (LetOk i) := inferInstanceAs (Decidable (_ ∧ _))
/-- what is no letter -/
def BadL (d : D) : Prop := (∃ i, d = .int i ∧ ¬ LetOk i) ∨ (∃ b, d = .bl b) ∨ dIsi [d, .ty "int"] = some (.bl false)
theorem isiI_int (i : Int) : dIsi [.int i, .ty "int"] = some (.bl true) := rfl
theorem isiI_bl (i : Bool) : dIsi [.bl i, .ty "int"] = some (.bl true) := rfl
theorem isiB_int (i : Int) : dIsi [.int i, .ty "bool"] = some (.bl false) := rfl
theorem isiB_bl (i : Bool) : dIsi [.bl i, .ty "bool"] = some (.bl true) := rfl
theorem chain_let (i : Int) (env : Env') (st : List D) : chainR dLe dLe (mC (.int 38) env) (.int (-1)) (.int i) st = .ok (.bl (decide (LetOk i))) st := by
  have e1 : dLe (.int (-1)) (.int i) = some (.bl (decide (-1 ≤ i))) := rfl
  have e2 : dLe (.int i) (.int 38) = some (.bl (decide (i ≤ 38))) := rfl
  rw [ev7.2.2.2.2.1 _ _ _ _ _ _ _ e1]
  by_cases a : -1 ≤ i
  · rw [decide_eq_true a, if_pos rfl]
    simp only [ev, bind_ok, ret_ok, e2]
    rw [show decide (LetOk i) = decide (i ≤ 38) from decide_eq_decide.mpr ⟨fun q => q.2, fun q => ⟨a, q⟩⟩]
  · rw [decide_eq_false a, if_neg (by decide), decide_eq_false (fun q : LetOk i => a q.1)]
theorem let_ok {i : Int} (h : LetOk i) (a : Option D) (k : Int) (st : List D) : bd_check_plain_1 [a, some (.int k), some (.int i)] st = .nx [a, some (.int k), some (.int i)] st := by
  have c := chain_let i [a, some (.int k), some (.int i)] st
  rw [decide_eq_true h] at c
  unfold bd_check_plain_1
  simp only [ev, bind_ok, bind_err, get?, ret_ok, List.set_cons_zero, List.set_cons_succ, if_true, if_false, ite_true, ite_false, Bool.false_eq_true, Bool.not_true, Bool.not_false, Bool.and_true, Bool.true_and, Bool.and_false, Bool.false_and, decide_true, decide_false, not_true_eq_false, not_false_eq_true, isiI_int, isiB_int, c]
theorem okI0 {k : Nat} (hk : k < 1000) {s : Str} : okInt0 [D.int (k : Int), .str s] = true := by
  show decide ((k : Int).natAbs.log2 < 1920) = true
  apply decide_eq_true
  rw [Int.natAbs_natCast]
  by_cases z : k = 0
  · rw [z]; decide
  · exact Nat.lt_of_lt_of_le ((Nat.log2_lt z).mpr (show k < 2 ^ 10 by omega)) (by decide)
theorem let_bad {d : D} (h : BadL d) (a : Option D) {k : Nat} (hk : k < 1000) (st : List D) : bd_check_plain_1 [a, some (.int (k : Int)), some d] st = .er (exW k "pair") [a, some (.int (k : Int)), some d] st := by
  have r := raiseW (mi := mVar 1) (ms := mC (.str "pair")) (i := (k : Int)) (s := "pair") (env := [a, some (.int (k : Int)), some d]) (st := st) (by simp only [ev, bind_ok, bind_err, get?, ret_ok, List.set_cons_zero, List.set_cons_succ, if_true, if_false, ite_true, ite_false, Bool.false_eq_true, Bool.not_true, Bool.not_false, Bool.and_true, Bool.true_and, Bool.and_false, Bool.false_and, decide_true, decide_false, not_true_eq_false, not_false_eq_true]) (by simp only [ev, bind_ok, bind_err, get?, ret_ok, List.set_cons_zero, List.set_cons_succ, if_true, if_false, ite_true, ite_false, Bool.false_eq_true, Bool.not_true, Bool.not_false, Bool.and_true, Bool.true_and, Bool.and_false, Bool.false_and, decide_true, decide_false, not_true_eq_false, not_false_eq_true]) (okI0 hk)
  unfold bd_check_plain_1
  rcases h with ⟨i, rfl, h⟩ | ⟨b, rfl⟩ | h
  · have c := chain_let i [a, some (.int (k : Int)), some (.int i)] st
    rw [decide_eq_false h] at c
    simp only [ev, bind_ok, bind_err, get?, ret_ok, List.set_cons_zero, List.set_cons_succ, if_true, if_false, ite_true, ite_false, Bool.false_eq_true, Bool.not_true, Bool.not_false, Bool.and_true, Bool.true_and, Bool.and_false, Bool.false_and, decide_true, decide_false, not_true_eq_false, not_false_eq_true, isiI_int, isiB_int, c, r]
  · simp only [ev, bind_ok, bind_err, get?, ret_ok, List.set_cons_zero, List.set_cons_succ, if_true, if_false, ite_true, ite_false, Bool.false_eq_true, Bool.not_true, Bool.not_false, Bool.and_true, Bool.true_and, Bool.and_false, Bool.false_and, decide_true, decide_false, not_true_eq_false, not_false_eq_true, isiI_bl, isiB_bl, r]
  · simp only [ev, bind_ok, bind_err, get?, ret_ok, List.set_cons_zero, List.set_cons_succ, if_true, if_false, ite_true, ite_false, Bool.false_eq_true, Bool.not_true, Bool.not_false, Bool.and_true, Bool.true_and, Bool.and_false, Bool.false_and, decide_true, decide_false, not_true_eq_false, not_false_eq_true, h, r]
/-- a good word -/
def WordOk (w : List Int) : Prop := w.length ≤ 800 ∧ ∀ i ∈ w, LetOk i
theorem numb_go (w : List Int) (r : List D) : DL.numbered (w.map .int ++ r) = (DL.numbered (w.map D.int)) ++ (r.mapIdx fun i d => D.tup [.int ((i + w.length : Nat) : Int), d]) := by
  unfold DL.numbered
  rw [List.mapIdx_append, List.length_map]
theorem plain_loop (a : Option D) (st : List D) (rest : List D) : ∀ (w : List Int) (k : Nat) (x y : Option D), (∀ i ∈ w, LetOk i) → ∃ x' y', forD (gTp (gsCons (gNm 1) (gsCons (gNm 2) (gsNil)))) bd_check_plain_1 ((w.mapIdx fun i n => D.tup [.int ((i + k : Nat) : Int), .int n]) ++ rest) [a, x, y] st = forD (gTp (gsCons (gNm 1) (gsCons (gNm 2) (gsNil)))) bd_check_plain_1 rest [a, x', y'] st
  | [], k, x, y, _ => ⟨x, y, rfl⟩
  | n :: w, k, x, y, h => by
    obtain ⟨x', y', ih⟩ := plain_loop a st rest w (k + 1) (some (.int (k : Int))) (some (.int n)) fun q hq => h q (List.mem_cons_of_mem _ hq)
    refine ⟨x', y', ?_⟩
    rw [List.mapIdx_cons, List.cons_append, forD_rt (e1 := [a, some (.int (k : Int)), some (.int n)]) (by rw [Nat.zero_add]; rfl) (let_ok (h n List.mem_cons_self) a k st)]
    have ef : (fun (i : Nat) (n : Int) => D.tup [.int ((i + 1 + k : Nat) : Int), .int n]) = fun (i : Nat) (n : Int) => D.tup [.int ((i + (k + 1) : Nat) : Int), .int n] := by
      funext i n
      rw [show i + 1 + k = i + (k + 1) by omega]
    rw [← ih, ← ef]
theorem mapIdx_int {f : Nat → D → D} : ∀ w : List Int, (w.map D.int).mapIdx f = w.mapIdx fun i n => f i (.int n) := by
  intro w
  induction w generalizing f with
  | nil => rfl
  | cons a w ih => rw [List.map_cons, List.mapIdx_cons, List.mapIdx_cons, ih]
theorem numb_w (w : List Int) : DL.numbered (w.map D.int) = w.mapIdx fun i n => D.tup [.int ((i + 0 : Nat) : Int), .int n] := by
  unfold DL.numbered
  rw [mapIdx_int]
  rfl
theorem plain_F {G : D} {xs : List D} {w : List Int} {rest : List D} (hG : SeqD G xs) (st : List D) (e : DL.numbered xs = (w.mapIdx fun i n => D.tup [.int ((i + 0 : Nat) : Int), .int n]) ++ rest) (h : ∀ i ∈ w, LetOk i) : ∃ x y, F_check_plain_1 [some G, none, none] st = forD (gTp (gsCons (gNm 1) (gsCons (gNm 2) (gsNil)))) bd_check_plain_1 rest [some G, x, y] st := by
  obtain ⟨x, y, f⟩ := plain_loop (some G) st rest w 0 none none h
  refine ⟨x, y, ?_⟩
  rw [← f, ← e]
  exact mFor_of (mThenA_of (xs := [G]) (st1 := st) (by simp only [ev, bind_ok, bind_err, get?, ret_ok, List.set_cons_zero, List.set_cons_succ, if_true, if_false, ite_true, ite_false, Bool.false_eq_true, Bool.not_true, Bool.not_false, Bool.and_true, Bool.true_and, Bool.and_false, Bool.false_and, decide_true, decide_false, not_true_eq_false, not_false_eq_true]) (hG.enum st)) rfl
theorem e_plain_ok {G : D} {w : List Int} (hG : SeqD G (w.map .int)) (h : WordOk w) (st : List D) : m_check_plain [G] st = .ok (.tup (w.map .int)) st := by
  obtain ⟨x, y, f⟩ := plain_F (rest := []) hG st (by rw [numb_w, List.append_nil]) h.2
  rw [forD_nil] at f
  have iw := hG.isi
  have lw := hG.len
  rw [List.length_map] at lw
  have g : decide ((800 : Int) < (w.length : Int)) = false := decide_eq_false (by have := h.1; omega)
  have tp := hG.tup
  unfold m_check_plain b_check_plain
  rw [show fnM 3 _ [G] st = outR (_) from fnM_eq (by simp)]
  simp only [mkEnv]
  (rw [mSeq_k]; (conv => (lhs; arg 1; arg 1; simp only [ev, bind_ok, bind_err, get?, ret_ok, List.set_cons_zero, List.set_cons_succ, if_true, if_false, ite_true, ite_false, Bool.false_eq_true, Bool.not_true, Bool.not_false, Bool.and_true, Bool.true_and, Bool.and_false, Bool.false_and, decide_true, decide_false, not_true_eq_false, not_false_eq_true, iw, lw, g])); rw [seqK_nx])
  (rw [mSeq_k]; (conv => (lhs; arg 1; arg 1; simp only [ev, bind_ok, bind_err, get?, ret_ok, List.set_cons_zero, List.set_cons_succ, if_true, if_false, ite_true, ite_false, Bool.false_eq_true, Bool.not_true, Bool.not_false, Bool.and_true, Bool.true_and, Bool.and_false, Bool.false_and, decide_true, decide_false, not_true_eq_false, not_false_eq_true, f])); rw [seqK_nx])
  simp only [ev, bind_ok, bind_err, get?, ret_ok, List.set_cons_zero, List.set_cons_succ, if_true, if_false, ite_true, ite_false, Bool.false_eq_true, Bool.not_true, Bool.not_false, Bool.and_true, Bool.true_and, Bool.and_false, Bool.false_and, decide_true, decide_false, not_true_eq_false, not_false_eq_true, tp]
/-- no word at all -/
def NoWord (G : D) : Prop := dIsi [G, .tup [.ty "list", .ty "tuple"]] = some (.bl false) ∨ ∃ xs, SeqD G xs ∧ 800 < xs.length
theorem e_plain_word {G : D} (h : NoWord G) (st : List D) : m_check_plain [G] st = .err (exW 0 "word") st := by
  have r := raiseW (mi := mC (.int 0)) (ms := mC (.str "word")) (i := 0) (s := "word") (env := [some G, none, none]) (st := st) (by simp only [ev, bind_ok, bind_err, get?, ret_ok, List.set_cons_zero, List.set_cons_succ, if_true, if_false, ite_true, ite_false, Bool.false_eq_true, Bool.not_true, Bool.not_false, Bool.and_true, Bool.true_and, Bool.and_false, Bool.false_and, decide_true, decide_false, not_true_eq_false, not_false_eq_true]) (by simp only [ev, bind_ok, bind_err, get?, ret_ok, List.set_cons_zero, List.set_cons_succ, if_true, if_false, ite_true, ite_false, Bool.false_eq_true, Bool.not_true, Bool.not_false, Bool.and_true, Bool.true_and, Bool.and_false, Bool.false_and, decide_true, decide_false, not_true_eq_false, not_false_eq_true]) (okI0 (k := 0) (by decide))
  unfold m_check_plain b_check_plain
  rw [show fnM 3 _ [G] st = outR (_) from fnM_eq (by simp)]
  simp only [mkEnv]
  rcases h with h | ⟨xs, hG, hl⟩
  · simp only [ev, bind_ok, bind_err, get?, ret_ok, List.set_cons_zero, List.set_cons_succ, if_true, if_false, ite_true, ite_false, Bool.false_eq_true, Bool.not_true, Bool.not_false, Bool.and_true, Bool.true_and, Bool.and_false, Bool.false_and, decide_true, decide_false, not_true_eq_false, not_false_eq_true, h, r]
  · have iw := hG.isi
    have lw := hG.len
    have g : decide ((800 : Int) < (xs.length : Int)) = true := decide_eq_true (by omega)
    simp only [ev, bind_ok, bind_err, get?, ret_ok, List.set_cons_zero, List.set_cons_succ, if_true, if_false, ite_true, ite_false, Bool.false_eq_true, Bool.not_true, Bool.not_false, Bool.and_true, Bool.true_and, Bool.and_false, Bool.false_and, decide_true, decide_false, not_true_eq_false, not_false_eq_true, iw, lw, g, r]
theorem e_plain_pair {G d : D} {w : List Int} {r : List D} (hG : SeqD G (w.map .int ++ d :: r)) (hl : (w.map D.int ++ d :: r).length ≤ 800) (h : ∀ i ∈ w, LetOk i) (hd : BadL d) (st : List D) : m_check_plain [G] st = .err (exW w.length "pair") st := by
  obtain ⟨x, y, f⟩ := plain_F (rest := (d :: r).mapIdx fun i d => D.tup [.int ((i + w.length : Nat) : Int), d]) hG st (by rw [numb_go, numb_w]) h
  have hw : w.length < 1000 := by
    rw [List.length_append, List.length_map, List.length_cons] at hl
    omega
  have b := let_bad hd (some G) hw st
  have f2 : F_check_plain_1 [some G, none, none] st = .er (exW w.length "pair") [some G, some (.int (w.length : Int)), some d] st := by
    rw [f, List.mapIdx_cons, forD_cons, Nat.zero_add]
    show (match bd_check_plain_1 [some G, some (.int (w.length : Int)), some d] st with | .nx e s => _ | .ct e s => _ | .bk e s => _ | o => o) = _
    rw [b]
  have iw := hG.isi
  have lw := hG.len
  have g : decide ((800 : Int) < ((w.map D.int ++ d :: r).length : Int)) = false := decide_eq_false (by omega)
  unfold m_check_plain b_check_plain
  rw [show fnM 3 _ [G] st = outR (_) from fnM_eq (by simp)]
  simp only [mkEnv]
  (rw [mSeq_k]; (conv => (lhs; arg 1; arg 1; simp only [ev, bind_ok, bind_err, get?, ret_ok, List.set_cons_zero, List.set_cons_succ, if_true, if_false, ite_true, ite_false, Bool.false_eq_true, Bool.not_true, Bool.not_false, Bool.and_true, Bool.true_and, Bool.and_false, Bool.false_and, decide_true, decide_false, not_true_eq_false, not_false_eq_true, iw, lw, g])); rw [seqK_nx])
  simp only [ev, bind_ok, bind_err, get?, ret_ok, List.set_cons_zero, List.set_cons_succ, if_true, if_false, ite_true, ite_false, Bool.false_eq_true, Bool.not_true, Bool.not_false, Bool.and_true, Bool.true_and, Bool.and_false, Bool.false_and, decide_true, decide_false, not_true_eq_false, not_false_eq_true, f2]
/-! the least word -/
theorem rev_at (p : Int) (r : List Int) : True := trivial
theorem least_while (p : Int) (a : Option D) (st : List D) : ∀ (r s : List Int), F_least_word_1 [a, some (.lst ((r.reverse ++ s).map .int)), some (.int p), some (.int (r.length : Int))] st = .nx [a, some (.lst ((r.reverse ++ s).map .int)), some (.int p), some (.int ((r.length - plcR p r : Nat) : Int))] st
  | [], s => by
    unfold F_least_word_1
    rw [mWhile_eq]
    simp only [ev, bind_ok, bind_err, get?, ret_ok, List.set_cons_zero, List.set_cons_succ, if_true, if_false, ite_true, ite_false, Bool.false_eq_true, Bool.not_true, Bool.not_false, Bool.and_true, Bool.true_and, Bool.and_false, Bool.false_and, decide_true, decide_false, not_true_eq_false, not_false_eq_true, plcR]
    rfl
  | x :: r, s => by
    have ih := least_while p a st r (x :: s)
    have e1 : (x :: r).reverse ++ s = r.reverse ++ x :: s := by simp
    rw [e1]
    have ix : atI ((r.reverse ++ x :: s).map D.int) (r.length : Int) = some (.int x) := by
      have hk : r.length < ((r.reverse ++ x :: s).map D.int).length := by simp
      rw [DL.atI_nat hk]
      have : ((r.reverse ++ x :: s).map D.int)[r.length] = .int x := by simp [List.getElem_append_right]
      rw [this]
    have e2 : (((x :: r).length : Nat) : Int) - 1 = (r.length : Int) := by rw [List.length_cons]; omega
    have e3 : decide ((0 : Int) < (((x :: r).length : Nat) : Int)) = true := decide_eq_true (by rw [List.length_cons]; omega)
    unfold F_least_word_1 at ih ⊢
    rw [mWhile_eq]
    by_cases h : p + 1 < x
    · have g : decide (p + 1 < x) = true := decide_eq_true h
      have hp : plcR p (x :: r) = plcR p r + 1 := by rw [plcR, if_pos h]
      have b : bd_least_word_1 [a, some (.lst ((r.reverse ++ x :: s).map .int)), some (.int p), some (.int (((x :: r).length : Nat) : Int))] st = .nx [a, some (.lst ((r.reverse ++ x :: s).map .int)), some (.int p), some (.int (r.length : Int))] st := by
        show Out.nx [a, some (.lst ((r.reverse ++ x :: s).map .int)), some (.int p), some (.int ((((x :: r).length : Nat) : Int) - 1))] st = _
        rw [e2]
      simp only [ev, bind_ok, bind_err, get?, ret_ok, List.set_cons_zero, List.set_cons_succ, if_true, if_false, ite_true, ite_false, Bool.false_eq_true, Bool.not_true, Bool.not_false, Bool.and_true, Bool.true_and, Bool.and_false, Bool.false_and, decide_true, decide_false, not_true_eq_false, not_false_eq_true, e3, e2, ix, g, b]
      rw [ih, hp, List.length_cons, Nat.add_sub_add_right]
    · have g : decide (p + 1 < x) = false := decide_eq_false h
      have hp : plcR p (x :: r) = 0 := by rw [plcR, if_neg h]
      simp only [ev, bind_ok, bind_err, get?, ret_ok, List.set_cons_zero, List.set_cons_succ, if_true, if_false, ite_true, ite_false, Bool.false_eq_true, Bool.not_true, Bool.not_false, Bool.and_true, Bool.true_and, Bool.and_false, Bool.false_and, decide_true, decide_false, not_true_eq_false, not_false_eq_true, e3, e2, ix, g, hp]
      rfl
theorem least_step {p : Int} {a y : Option D} {st : List D} {r : List Int} (hr : r.length < 100000) : bd_least_word_2 [a, some (.lst (r.reverse.map .int)), some (.int p), y] st = .nx [a, some (.lst ((insH p r).reverse.map .int)), some (.int p), some (.int ((r.length - plcR p r : Nat) : Int))] st := by
  have w := least_while p a st r []
  rw [List.append_nil] at w
  have l : c1 dLen [.lst (r.reverse.map D.int)] = some (.int (r.length : Nat)) := by
    show some (D.int ((r.reverse.map D.int).length : Nat)) = _
    rw [List.length_map, List.length_reverse]
  unfold bd_least_word_2
  (rw [mSeq_k]; (conv => (lhs; arg 1; simp only [ev, bind_ok, bind_err, get?, ret_ok, List.set_cons_zero, List.set_cons_succ, if_true, if_false, ite_true, ite_false, Bool.false_eq_true, Bool.not_true, Bool.not_false, Bool.and_true, Bool.true_and, Bool.and_false, Bool.false_and, decide_true, decide_false, not_true_eq_false, not_false_eq_true, l])); rw [seqK_nx])
  (rw [mSeq_k]; (conv => (lhs; arg 1; simp only [ev, bind_ok, bind_err, get?, ret_ok, List.set_cons_zero, List.set_cons_succ, if_true, if_false, ite_true, ite_false, Bool.false_eq_true, Bool.not_true, Bool.not_false, Bool.and_true, Bool.true_and, Bool.and_false, Bool.false_and, decide_true, decide_false, not_true_eq_false, not_false_eq_true, w])); rw [seqK_nx])
  have hz : r.length < sizeLine := Nat.lt_of_lt_of_le hr (by decide)
  have ok : InsOk (r.reverse.map D.int).length ((r.length - plcR p r : Nat) : Int) := by
    refine ⟨by rw [List.length_map, List.length_reverse]; exact hz, Int.natCast_nonneg _, ?_⟩
    have : ((r.length - plcR p r : Nat) : Int) ≤ 100000 := by omega
    exact Int.lt_of_le_of_lt this (by decide)
  have ii := congrArg (fun l : List Int => l.map D.int) (ins_place p r)
  simp only [List.map_append, List.map_take, List.map_drop, List.map_cons, List.map_nil] at ii
  rw [ev13 1 _ _ _ _ (r.reverse.map D.int) rfl]
  show insKR 1 (mVar 2) (r.reverse.map D.int) _ (.ok (.int ((r.length - plcR p r : Nat) : Int)) st) = _
  rw [insKR_ok]
  show insR 1 _ _ _ (.ok (.int p) st) = _
  rw [insR_ok _ _ _ _ _ _ ok, Int.toNat_natCast, ii]
  rfl
end My

namespace My
open PySem PySem.Spec PyProof.Rows L2 DL
/-! k40: least words, words of one history -/
theorem ins_len (p : Int) : ∀ r : List Int, (insH p r).length = r.length + 1
  | [] => rfl
  | x :: r => by
    unfold insH
    split
    · rw [List.length_cons, ins_len p r, List.length_cons]
    · rfl
theorem least_loop (a : Option D) (st : List D) : ∀ (w r : List Int) (x y : Option D), r.length + w.length < 100000 → ∃ x' y', forD (gNm 2) bd_least_word_2 (w.map .int) [a, some (.lst (r.reverse.map .int)), x, y] st = .nx [a, some (.lst ((w.foldl (fun r p => insH p r) r).reverse.map .int)), x', y'] st
  | [], r, x, y, _ => ⟨x, y, rfl⟩
  | p :: w, r, x, y, h => by
    rw [List.length_cons] at h
    obtain ⟨x', y', ih⟩ := least_loop a st w (insH p r) (some (.int p)) (some (.int ((r.length - plcR p r : Nat) : Int))) (by rw [ins_len]; omega)
    refine ⟨x', y', ?_⟩
    rw [List.map_cons, forD_rt rfl (least_step (p := p) (a := a) (y := y) (st := st) (by omega))]
    exact ih
theorem e_least {G : D} {w : List Int} (hG : SeqD G (w.map .int)) (h : WordOk w) (st : List D) : m_least_word [G] st = .ok (.tup ((leastH w).map .int)) st := by
  have c := e_plain_ok hG h st
  obtain ⟨x, y, f⟩ := least_loop (some G) st w [] none none (by have := h.1; simp; omega)
  have hF : F_least_word_2 [some G, some (.lst []), none, none] st = .nx [some G, some (.lst ((leastH w).map .int)), x, y] st :=
    mFor_of (mItems_of (me := mCall m_check_plain (mCons (mVar 0) (mNil))) (x := .tup (w.map .int)) (st1 := st) (by simp only [ev, bind_ok, bind_err, get?, ret_ok, List.set_cons_zero, List.set_cons_succ, if_true, if_false, ite_true, ite_false, Bool.false_eq_true, Bool.not_true, Bool.not_false, Bool.and_true, Bool.true_and, Bool.and_false, Bool.false_and, decide_true, decide_false, not_true_eq_false, not_false_eq_true, c]) rfl) f
  unfold m_least_word b_least_word
  rw [show fnM 4 _ [G] st = outR (_) from fnM_eq (by simp)]
  simp only [mkEnv]
  rw [mSeq_of (show mSetF 1 (mThenA (mNil) fits?) [some G, none, none, none] st = .nx [some G, some (.lst []), none, none] st from rfl)]
  (rw [mSeq_k]; (conv => (lhs; arg 1; arg 1; simp only [ev, bind_ok, bind_err, get?, ret_ok, List.set_cons_zero, List.set_cons_succ, if_true, if_false, ite_true, ite_false, Bool.false_eq_true, Bool.not_true, Bool.not_false, Bool.and_true, Bool.true_and, Bool.and_false, Bool.false_and, decide_true, decide_false, not_true_eq_false, not_false_eq_true, hF])); rw [seqK_nx])
  simp only [ev, bind_ok, bind_err, get?, ret_ok, List.set_cons_zero, List.set_cons_succ, if_true, if_false, ite_true, ite_false, Bool.false_eq_true, Bool.not_true, Bool.not_false, Bool.and_true, Bool.true_and, Bool.and_false, Bool.false_and, decide_true, decide_false, not_true_eq_false, not_false_eq_true]
theorem e_least_bad {G : D} {x : Ex} {st : List D} (h : m_check_plain [G] st = .err x st) : m_least_word [G] st = .err x st := by
  have hF : F_least_word_2 [some G, some (.lst []), none, none] st = .er x [some G, some (.lst []), none, none] st := by
    unfold F_least_word_2
    rw [mFor_eq]
    simp only [ev, bind_ok, bind_err, get?, ret_ok, List.set_cons_zero, List.set_cons_succ, if_true, if_false, ite_true, ite_false, Bool.false_eq_true, Bool.not_true, Bool.not_false, Bool.and_true, Bool.true_and, Bool.and_false, Bool.false_and, decide_true, decide_false, not_true_eq_false, not_false_eq_true, h]
  unfold m_least_word b_least_word
  rw [show fnM 4 _ [G] st = outR (_) from fnM_eq (by simp)]
  simp only [mkEnv]
  rw [mSeq_of (show mSetF 1 (mThenA (mNil) fits?) [some G, none, none, none] st = .nx [some G, some (.lst []), none, none] st from rfl)]
  rw [mSeq_k, hF]
  rfl
theorem wT_eq (u v : List Int) : dEq (.tup (u.map .int)) (.tup (v.map .int)) = some (.bl (decide (u = v))) := by
  rw [dEq_of (sh_ints u) (sh_ints v), eqv_tup, eqvL_ints]
theorem wT_ne (u v : List Int) : dNe (.tup (u.map .int)) (.tup (v.map .int)) = some (.bl (!decide (u = v))) := by
  rw [dNe_of (sh_ints u) (sh_ints v), eqv_tup, eqvL_ints]
theorem e_same {G F : D} {u v : List Int} (hG : SeqD G (u.map .int)) (hF : SeqD F (v.map .int)) (hu : WordOk u) (hv : WordOk v) (st : List D) : m_same_history [G, F] st = .ok (.bl (decide (leastH u = leastH v))) st := by
  have e1 := e_least hG hu st
  have e2 := e_least hF hv st
  have e3 := wT_eq (leastH u) (leastH v)
  unfold m_same_history b_same_history
  rw [show fnM 3 _ [G, F] st = outR (_) from fnM_eq (by simp)]
  simp only [mkEnv]
  (rw [mSeq_k]; (conv => (lhs; arg 1; arg 1; simp only [ev, bind_ok, bind_err, get?, ret_ok, List.set_cons_zero, List.set_cons_succ, if_true, if_false, ite_true, ite_false, Bool.false_eq_true, Bool.not_true, Bool.not_false, Bool.and_true, Bool.true_and, Bool.and_false, Bool.false_and, decide_true, decide_false, not_true_eq_false, not_false_eq_true, e1])); rw [seqK_nx])
  simp only [ev, bind_ok, bind_err, get?, ret_ok, List.set_cons_zero, List.set_cons_succ, if_true, if_false, ite_true, ite_false, Bool.false_eq_true, Bool.not_true, Bool.not_false, Bool.and_true, Bool.true_and, Bool.and_false, Bool.false_and, decide_true, decide_false, not_true_eq_false, not_false_eq_true, e2, e3]
theorem e_same_bad1 {G F : D} {x : Ex} {st : List D} (h : m_check_plain [G] st = .err x st) : m_same_history [G, F] st = .err x st := by
  have e := e_least_bad h
  unfold m_same_history b_same_history
  rw [show fnM 3 _ [G, F] st = outR (_) from fnM_eq (by simp)]
  simp only [mkEnv]
  rw [mSeq_k]
  simp only [ev, bind_ok, bind_err, get?, ret_ok, List.set_cons_zero, List.set_cons_succ, if_true, if_false, ite_true, ite_false, Bool.false_eq_true, Bool.not_true, Bool.not_false, Bool.and_true, Bool.true_and, Bool.and_false, Bool.false_and, decide_true, decide_false, not_true_eq_false, not_false_eq_true, e]
  rfl
theorem e_same_bad2 {G F : D} {x : Ex} {st : List D} {u : List Int} (hG : SeqD G (u.map .int)) (hu : WordOk u) (h : m_check_plain [F] st = .err x st) : m_same_history [G, F] st = .err x st := by
  have e1 := e_least hG hu st
  have e2 := e_least_bad h
  unfold m_same_history b_same_history
  rw [show fnM 3 _ [G, F] st = outR (_) from fnM_eq (by simp)]
  simp only [mkEnv]
  (rw [mSeq_k]; (conv => (lhs; arg 1; arg 1; simp only [ev, bind_ok, bind_err, get?, ret_ok, List.set_cons_zero, List.set_cons_succ, if_true, if_false, ite_true, ite_false, Bool.false_eq_true, Bool.not_true, Bool.not_false, Bool.and_true, Bool.true_and, Bool.and_false, Bool.false_and, decide_true, decide_false, not_true_eq_false, not_false_eq_true, e1])); rw [seqK_nx])
  simp only [ev, bind_ok, bind_err, get?, ret_ok, List.set_cons_zero, List.set_cons_succ, if_true, if_false, ite_true, ite_false, Bool.false_eq_true, Bool.not_true, Bool.not_false, Bool.and_true, Bool.true_and, Bool.and_false, Bool.false_and, decide_true, decide_false, not_true_eq_false, not_false_eq_true, e2]
end My

namespace My
open PySem PySem.Spec PyProof.Rows L2 DL
/-! k40: exchanges; all words that exchanges lead to -/
instance (a b : Int) : Decidable (AprtH a b) := inferInstanceAs (Decidable (_ ∨ _))
def wT (w : List Int) : D := .tup (w.map .int)
theorem sh_wT (w : List Int) : Sh 1 (wT w) := sh_ints w
theorem eqv_wT (u v : List Int) : eqv (wT u) (wT v) = decide (u = v) := by
  unfold wT
  rw [eqv_tup, eqvL_ints]
theorem any_map {α : Type} {f : α → D} {x : D} {e : α → Bool} (h : ∀ a, eqv (f a) x = e a) : ∀ l : List α, ((toPs (l.map f)).any fun z => PyData.eqv z (toP x)) = l.any e
  | [] => rfl
  | a :: l => by
    have ih := any_map h l
    show (PyData.eqv (toP (f a)) (toP x) || ((toPs (l.map f)).any fun z => PyData.eqv z (toP x))) = _
    rw [ih, show PyData.eqv (toP (f a)) (toP x) = e a from h a]
    rfl
theorem inD_lst {α : Type} {k m : Nat} {f : α → D} {x : D} {e : α → Bool} (sx : Sh k x) (hk : k ≤ 60) (sf : ∀ a, Sh m (f a)) (hm : m ≤ 60) (h : ∀ a, eqv (f a) x = e a) (l : List α) : inD x (.lst (l.map f)) = some (l.any e) := by
  show (if SeqAt.shaped (toP x) = true ∧ SeqAt.shaped (.list (toPs (l.map f))) = true then some ((toPs (l.map f)).any fun z => PyData.eqv z (toP x)) else none) = _
  rw [if_pos ⟨sx.shaped (by omega), (Sh.lst (ShA.map sf l)).shaped (by omega)⟩, any_map h]
theorem any_mem {α : Type} [DecidableEq α] (a : α) (l : List α) : l.any (fun b => decide (b = a)) = decide (a ∈ l) := by
  rw [Bool.eq_iff_iff, List.any_eq_true, decide_eq_true_iff]
  constructor
  · rintro ⟨b, hb, e⟩
    have e := of_decide_eq_true e
    exact e ▸ hb
  · intro h
    exact ⟨a, h, decide_eq_true rfl⟩
theorem in_lot (u : List Int) (S : List (List Int)) : dInA (wT u) (.lst (S.map wT)) = some (.bl (decide (u ∈ S))) ∧ dNotInA (wT u) (.lst (S.map wT)) = some (.bl (!decide (u ∈ S))) := by
  have i := inD_lst (f := wT) (x := wT u) (e := fun q => decide (q = u)) (sh_wT u) (by decide) sh_wT (by decide) (fun a => eqv_wT a u) S
  rw [any_mem] at i
  constructor
  · show (inD (wT u) (.lst (S.map wT))).map D.bl = _
    rw [i]
    exact congrArg (fun b => some (D.bl b)) (decide_eq_decide.mpr Iff.rfl)
  · show (inD (wT u) (.lst (S.map wT))).map (fun b => D.bl (!b)) = _
    rw [i]
    exact congrArg (fun b => some (D.bl (!b))) (decide_eq_decide.mpr Iff.rfl)
theorem e_apart (a b : Int) (st : List D) : m__law_apart [.int a, .int b] st = .ok (.bl (decide (AprtH a b))) st := by
  unfold m__law_apart b__law_apart
  by_cases h1 : 2 ≤ a - b
  · have d1 : decide (2 ≤ a - b) = true := decide_eq_true h1
    have d2 : decide (AprtH a b) = true := decide_eq_true (.inr (by omega))
    simp only [ev, bind_ok, bind_err, get?, ret_ok, List.set_cons_zero, List.set_cons_succ, if_true, if_false, ite_true, ite_false, Bool.false_eq_true, Bool.not_true, Bool.not_false, Bool.and_true, Bool.true_and, Bool.and_false, Bool.false_and, decide_true, decide_false, not_true_eq_false, not_false_eq_true, mkEnv, d1, d2]
  · have d1 : decide (2 ≤ a - b) = false := decide_eq_false h1
    have d2 : decide (2 ≤ b - a) = decide (AprtH a b) := decide_eq_decide.mpr ⟨fun h => .inl (by omega), fun h => by unfold AprtH at h; omega⟩
    simp only [ev, bind_ok, bind_err, get?, ret_ok, List.set_cons_zero, List.set_cons_succ, if_true, if_false, ite_true, ite_false, Bool.false_eq_true, Bool.not_true, Bool.not_false, Bool.and_true, Bool.true_and, Bool.and_false, Bool.false_and, decide_true, decide_false, not_true_eq_false, not_false_eq_true, mkEnv, d1, d2]
theorem mSl_tup40 {m : ME} {l h : MO} {env : Env'} {st s1 s2 s3 : List D} {xs : List D} {lo hi : Option Int} (hm : m env st = .ok (.tup xs) s1) (hl : l env s1 = .ok lo s2) (hh : h env s2 = .ok hi s3) : mSl m l h env st = .ok (.tup (DL.cutD xs lo hi)) s3 := by
  unfold mSl
  rw [hm, bind_ok, hl, bind_ok, hh, bind_ok]; rfl
theorem addT40 (a b : List D) (h : a.length + b.length ≤ 10000) : dAdd (.tup a) (.tup b) = some (.tup (a ++ b)) := by
  show (if a.length + b.length ≤ sizeLine then _ else _) = _
  rw [if_pos (Nat.le_trans h (by decide))]
theorem ixT40 (w : List Int) {k : Nat} (hk : k < w.length) (st : List D) : ixS (wT w) (.int (k : Int)) st = .ok (.int w[k]) st := by
  have hk' : k < (w.map D.int).length := by rw [List.length_map]; exact hk
  show ixS (.tup (w.map D.int)) (.int (k : Int)) st = _
  rw [ixS_tup, DL.atI_nat hk', List.getElem_map]
  rfl
def swpH (w : List Int) (k : Nat) : List Int := match w.drop k with
  | a :: b :: y => w.take k ++ b :: a :: y
  | _ => w
theorem swp_eq (x : List Int) (a b : Int) (y : List Int) : swpH (x ++ a :: b :: y) x.length = x ++ b :: a :: y := by
  unfold swpH
  rw [List.drop_left, List.take_left]
theorem at_split (w : List Int) {k : Nat} (hk : k + 1 < w.length) : ∃ x y, w = x ++ w[k] :: w[k + 1] :: y ∧ x.length = k :=
  ⟨w.take k, w.drop (k + 2), by rw [← List.drop_eq_getElem_cons hk, ← List.drop_eq_getElem_cons (by omega), List.take_append_drop], by rw [List.length_take]; omega⟩
theorem e_swapped (x y : List Int) (a b : Int) (hl : x.length + y.length ≤ 9000) (st : List D) : m__law_swapped [wT (x ++ a :: b :: y), .int (x.length : Int)] st = .ok (wT (x ++ b :: a :: y)) st := by
  have i0 := ixT40 (x ++ a :: b :: y) (k := x.length) (by simp) st
  have i1 := ixT40 (x ++ a :: b :: y) (k := x.length + 1) (by simp) st
  have g0 : (x ++ a :: b :: y)[x.length]'(by simp) = a := by simp
  have g1 : (x ++ a :: b :: y)[x.length + 1]'(by simp) = b := by simp [List.getElem_append_right]
  rw [g0] at i0
  rw [g1] at i1
  rw [Int.natCast_add] at i1
  have c1 := cut_take ((x ++ a :: b :: y).map D.int) x.length
  have c2 := cut_drop ((x ++ a :: b :: y).map D.int) (x.length + 2)
  rw [Int.natCast_add] at c2
  have t1 : ((x ++ a :: b :: y).map D.int).take x.length = x.map .int := by rw [← List.map_take, List.take_left]
  have t2 : ((x ++ a :: b :: y).map D.int).drop (x.length + 2) = y.map .int := by
    rw [← List.map_drop, List.drop_append]
    simp
  rw [t1] at c1
  rw [t2] at c2
  have env1 : mVar 0 [some (wT (x ++ a :: b :: y)), some (.int (x.length : Int))] st = .ok (.tup ((x ++ a :: b :: y).map .int)) st := rfl
  have s1 := mSl_tup40 (m := mVar 0) (l := mNo) (h := mPart (mVar 1)) env1 mNo_of (mPart_of (i := (x.length : Int)) (st := st) (s1 := st) (by simp only [ev, bind_ok, bind_err, get?, ret_ok, List.set_cons_zero, List.set_cons_succ, if_true, if_false, ite_true, ite_false, Bool.false_eq_true, Bool.not_true, Bool.not_false, Bool.and_true, Bool.true_and, Bool.and_false, Bool.false_and, decide_true, decide_false, not_true_eq_false, not_false_eq_true]))
  have s2 := mSl_tup40 (m := mVar 0) (l := mPart (mOp dAdd (mVar 1) (mC (.int 2)))) (h := mNo) env1 (mPart_of (i := (x.length : Int) + 2) (st := st) (s1 := st) (by simp only [ev, bind_ok, bind_err, get?, ret_ok, List.set_cons_zero, List.set_cons_succ, if_true, if_false, ite_true, ite_false, Bool.false_eq_true, Bool.not_true, Bool.not_false, Bool.and_true, Bool.true_and, Bool.and_false, Bool.false_and, decide_true, decide_false, not_true_eq_false, not_false_eq_true])) mNo_of
  rw [c1] at s1
  have c2' : DL.cutD ((x ++ a :: b :: y).map D.int) (some ((x.length : Int) + 2)) none = y.map .int := c2
  rw [c2'] at s2
  have a1 := addT40 (x.map D.int) [.int b, .int a] (by simp; omega)
  have a2 := addT40 (x.map D.int ++ [.int b, .int a]) (y.map D.int) (by simp; omega)
  have fin : wT (x ++ b :: a :: y) = .tup (x.map D.int ++ [.int b, .int a] ++ y.map D.int) := by unfold wT; simp
  have i1' : ixS (wT (x ++ a :: b :: y)) (.int ((x.length : Int) + 1)) st = .ok (.int b) st := i1
  unfold m__law_swapped b__law_swapped
  rw [show fnM 2 _ [wT (x ++ a :: b :: y), .int (x.length : Int)] st = outR (_) from fnM_eq (by simp)]
  rw [fin]
  simp only [ev, bind_ok, bind_err, get?, ret_ok, List.set_cons_zero, List.set_cons_succ, if_true, if_false, ite_true, ite_false, Bool.false_eq_true, Bool.not_true, Bool.not_false, Bool.and_true, Bool.true_and, Bool.and_false, Bool.false_and, decide_true, decide_false, not_true_eq_false, not_false_eq_true, mkEnv, s1, s2, i0, i1', a1, a2]
/-! loops that are left -/
theorem forD_brk {g : MG} {body : MS} (ds : List D) (st : List D) (I : Nat → Env' → Prop) (Q : Env' → Prop)
    (h : ∀ (i : Nat) (hi : i < ds.length) (env : Env'), I i env → ∃ e1, g ds[i] env = some e1 ∧ ((∃ e2, body e1 st = .bk e2 st ∧ Q e2) ∨ (∃ e2, body e1 st = .nx e2 st ∧ I (i + 1) e2))) (hend : ∀ env, I ds.length env → Q env) (env : Env') (h0 : I 0 env) :
    ∃ env', forD g body ds env st = .nx env' st ∧ Q env' := by
  have key : ∀ (k i : Nat) (env : Env'), i + k = ds.length → I i env → ∃ env', forD g body (ds.drop i) env st = .nx env' st ∧ Q env' := by
    intro k
    induction k with
    | zero =>
      intro i env hk hI
      rw [List.drop_of_length_le (by omega)]
      have e : i = ds.length := by omega
      rw [e] at hI
      exact ⟨env, rfl, hend env hI⟩
    | succ k ih =>
      intro i env hk hI
      have hi : i < ds.length := by omega
      obtain ⟨e1, a, b⟩ := h i hi env hI
      rw [List.drop_eq_getElem_cons hi]
      rcases b with ⟨e2, b2, b3⟩ | ⟨e2, b2, b3⟩
      · exact ⟨e2, by rw [forD_cons, a]; simp only [b2], b3⟩
      · rw [forD_rt a b2]
        exact ih (i + 1) e2 (by omega) b3
  have := key ds.length 0 env (by omega) h0
  rwa [List.drop_zero] at this
theorem forD_at {g : MG} {body : MS} (ds : List D) (I : Nat → Env' → List D → Prop)
    (h : ∀ (i : Nat) (hi : i < ds.length) (env : Env') (st : List D), I i env st → ∃ e1 e2 st', g ds[i] env = some e1 ∧ body e1 st = .nx e2 st' ∧ I (i + 1) e2 st') (env : Env') (st : List D) (h0 : I 0 env st) :
    ∃ env' st', forD g body ds env st = .nx env' st' ∧ I ds.length env' st' := by
  have key : ∀ (k i : Nat) (env : Env') (st : List D), i + k = ds.length → I i env st → ∃ env' st', forD g body (ds.drop i) env st = .nx env' st' ∧ I ds.length env' st' := by
    intro k
    induction k with
    | zero =>
      intro i env st hk hI
      rw [List.drop_of_length_le (by omega)]
      have e : i = ds.length := by omega
      rw [e] at hI
      exact ⟨env, st, rfl, hI⟩
    | succ k ih =>
      intro i env st hk hI
      have hi : i < ds.length := by omega
      obtain ⟨e1, e2, s2, a, b, c⟩ := h i hi env st hI
      obtain ⟨e3, s3, d, e⟩ := ih (i + 1) e2 s2 (by omega) c
      refine ⟨e3, s3, ?_, e⟩
      rw [List.drop_eq_getElem_cons hi, forD_rt a b]
      exact d
  have := key ds.length 0 env st (by omega) h0
  rwa [List.drop_zero] at this
theorem forD_st {g : MG} {body : MS} (ds : List D) (st : List D) (I : Nat → Env' → Prop)
    (h : ∀ (i : Nat) (hi : i < ds.length) (env : Env'), I i env → ∃ e1 e2, g ds[i] env = some e1 ∧ body e1 st = .nx e2 st ∧ I (i + 1) e2) (env : Env') (h0 : I 0 env) :
    ∃ env', forD g body ds env st = .nx env' st ∧ I ds.length env' := by
  obtain ⟨e, s, a, b, c⟩ := forD_at (g := g) (body := body) ds (fun i e s => s = st ∧ I i e) (fun i hi env s hI => by
    obtain ⟨rfl, hI⟩ := hI
    obtain ⟨e1, e2, a, b, c⟩ := h i hi env hI
    exact ⟨e1, e2, s, a, b, rfl, c⟩) env st ⟨rfl, h0⟩
  subst b
  exact ⟨e, a, c⟩
theorem rangeD_len (a : Int) (n : Nat) : (rangeD a n).length = n := by
  unfold rangeD
  rw [List.length_map, List.length_range]
theorem rangeD_at {a : Int} {n i : Nat} (hi : i < (rangeD a n).length) : (rangeD a n)[i] = .int (a + (i : Int)) := by
  have e : rangeD a n = (List.range n).map fun i => D.int (a + (i : Nat)) := rfl
  simp only [e, List.getElem_map, List.getElem_range]
theorem rng1_of {k : Int} (h : k ≤ 100000) (hl : -100000 ≤ k) (st : List D) : rng1? [.int k] st = .ok (rangeD 0 k.toNat) st := by
  have hc : -(2 ^ 62) ≤ k ∧ k < 2 ^ 62 := ⟨Int.le_trans (by decide) hl, Int.lt_of_le_of_lt h (by decide)⟩
  have e : rng1? [.int k] st = @ite _ (-(2 ^ 62) ≤ k ∧ k < 2 ^ 62) (Classical.propDecidable _) (Res.ok (rangeD 0 k.toNat) st) .bad := rfl
  rw [e, if_pos hc]
theorem rng2_of {i j : Int} (hi : -100000 ≤ i) (hi' : i ≤ 100000) (hj : -100000 ≤ j) (hj' : j ≤ 100000) (st : List D) : rng2? [.int i, .int j] st = .ok (rangeD i (j - i).toNat) st := by
  have hc : -(2 ^ 62) ≤ i ∧ i < 2 ^ 62 ∧ -(2 ^ 62) ≤ j ∧ j < 2 ^ 62 := ⟨Int.le_trans (by decide) hi, Int.lt_of_le_of_lt hi' (by decide), Int.le_trans (by decide) hj, Int.lt_of_le_of_lt hj' (by decide)⟩
  have e : rng2? [.int i, .int j] st = @ite _ (-(2 ^ 62) ≤ i ∧ i < 2 ^ 62 ∧ -(2 ^ 62) ≤ j ∧ j < 2 ^ 62) (Classical.propDecidable _) (Res.ok (rangeD i (j - i).toNat) st) .bad := rfl
  rw [e, if_pos hc]
end My

namespace My
open PySem PySem.Spec PyProof.Rows L2 DL
/-! k40: the lot of a word -/
/-- a lot of words of the word's history -/
structure LotI (w : List Int) (S : List (List Int)) : Prop where
  nd : S.Nodup
  eq : ∀ v ∈ S, EqvH w v
  mem : w ∈ S
/-- small words -/
def SmallW (w : List Int) : Prop := w.length ≤ 7 ∧ ∀ x ∈ w, -1 ≤ x ∧ x ≤ 4
theorem LotI.short {w : List Int} {S : List (List Int)} (h : LotI w S) (hw : SmallW w) : S.length ≤ 729 := lot_short hw.1 hw.2 h.nd h.eq
/-- all exchanges of a word lie in the lot -/
def ClosH (S : List (List Int)) (v : List Int) : Prop := ∀ x a b y, v = x ++ a :: b :: y → AprtH a b → x ++ b :: a :: y ∈ S
theorem LotI.push {w u : List Int} {S : List (List Int)} (h : LotI w S) (hu : EqvH w u) (hn : u ∉ S) : LotI w (S ++ [u]) := by
  refine ⟨?_, ?_, List.mem_append_left _ h.mem⟩
  · rw [List.nodup_append]
    refine ⟨h.nd, by simp, ?_⟩
    intro a ha b hb e
    rw [List.mem_singleton] at hb
    exact hn (hb ▸ e ▸ ha)
  · intro v hv
    rcases List.mem_append.mp hv with hv | hv
    · exact h.eq v hv
    · rw [List.mem_singleton] at hv
      exact hv ▸ hu
section
variable {w : List Int} {st : List D} {K : Option D}
/-- one place of a word -/
theorem lot_step (hw : SmallW w) {one : List Int} {S : List (List Int)} {k : Nat} {z : Option D} (L : LotI w S) (ho : one ∈ S) (hk : k + 1 < one.length) :
    ∃ S' z', bd_law_lot_1 [some (wT w), some (.lst (S.map wT)), K, some (wT one), some (.int (k : Int)), z] st = .nx [some (wT w), some (.lst (S'.map wT)), K, some (wT one), some (.int (k : Int)), z'] st ∧ LotI w S' ∧ S <+: S' ∧
      ∀ x a b y, one = x ++ a :: b :: y → x.length = k → AprtH a b → x ++ b :: a :: y ∈ S' := by
  have hl : one.length ≤ 7 := (L.eq one ho).length ▸ hw.1
  have i0 := ixT40 one (k := k) (by omega) st
  have i1 := ixT40 one (k := k + 1) hk st
  rw [Int.natCast_add] at i1
  have i1' : ixS (wT one) (.int ((k : Int) + 1)) st = .ok (.int one[k + 1]) st := i1
  have ap := e_apart one[k] one[k + 1] st
  obtain ⟨x0, y0, ex, el⟩ := at_split one hk
  have uniq : ∀ x a b y, one = x ++ a :: b :: y → x.length = k → x = x0 ∧ a = one[k] ∧ b = one[k + 1] ∧ y = y0 := by
    intro x a b y h1 h2
    have h3 := h1.symm.trans ex
    obtain ⟨e1, e2⟩ := List.append_inj h3 (h2.trans el.symm)
    have e3 := List.cons.inj e2
    have e4 := List.cons.inj e3.2
    exact ⟨e1, e3.1, e4.1, e4.2⟩
  by_cases h : AprtH one[k] one[k + 1]
  · rw [decide_eq_true h] at ap
    have sw := e_swapped x0 y0 one[k] one[k + 1] (by
      have := congrArg List.length ex
      rw [List.length_append, List.length_cons, List.length_cons] at this
      omega) st
    rw [← ex, el] at sw
    have hu : EqvH w (x0 ++ one[k + 1] :: one[k] :: y0) := (L.eq one ho).trans (by
      have := eqv_swap x0 y0 h
      rwa [← ex] at this)
    obtain ⟨_, nin⟩ := in_lot (x0 ++ one[k + 1] :: one[k] :: y0) S
    by_cases hm : x0 ++ one[k + 1] :: one[k] :: y0 ∈ S
    · rw [decide_eq_true hm] at nin
      refine ⟨S, some (wT (x0 ++ one[k + 1] :: one[k] :: y0)), ?_, L, List.prefix_refl S, ?_⟩
      · unfold bd_law_lot_1
        simp only [ev, bind_ok, bind_err, get?, ret_ok, List.set_cons_zero, List.set_cons_succ, if_true, if_false, ite_true, ite_false, Bool.false_eq_true, Bool.not_true, Bool.not_false, Bool.and_true, Bool.true_and, Bool.and_false, Bool.false_and, decide_true, decide_false, not_true_eq_false, not_false_eq_true, i0, i1', ap, sw, nin]
      · intro x a b y h1 h2 _
        obtain ⟨rfl, rfl, rfl, rfl⟩ := uniq x a b y h1 h2
        exact hm
    · rw [decide_eq_false hm] at nin
      have hs : (S.map wT).length < 100000 := by
        have := L.short hw
        rw [List.length_map]
        omega
      refine ⟨S ++ [x0 ++ one[k + 1] :: one[k] :: y0], some (wT (x0 ++ one[k + 1] :: one[k] :: y0)), ?_, L.push hu hm, List.prefix_append _ _, ?_⟩
      · unfold bd_law_lot_1
        simp only [ev, bind_ok, bind_err, get?, ret_ok, List.set_cons_zero, List.set_cons_succ, if_true, if_false, ite_true, ite_false, Bool.false_eq_true, Bool.not_true, Bool.not_false, Bool.and_true, Bool.true_and, Bool.and_false, Bool.false_and, decide_true, decide_false, not_true_eq_false, not_false_eq_true, i0, i1', ap, sw, nin, pushR_ok _ _ _ _ _ hs, List.map_append, List.map_cons, List.map_nil]
      · intro x a b y h1 h2 _
        obtain ⟨rfl, rfl, rfl, rfl⟩ := uniq x a b y h1 h2
        exact List.mem_append_right _ (List.mem_singleton.mpr rfl)
  · rw [decide_eq_false h] at ap
    refine ⟨S, z, ?_, L, List.prefix_refl S, ?_⟩
    · unfold bd_law_lot_1
      simp only [ev, bind_ok, bind_err, get?, ret_ok, List.set_cons_zero, List.set_cons_succ, if_true, if_false, ite_true, ite_false, Bool.false_eq_true, Bool.not_true, Bool.not_false, Bool.and_true, Bool.true_and, Bool.and_false, Bool.false_and, decide_true, decide_false, not_true_eq_false, not_false_eq_true, i0, i1', ap]
    · intro x a b y h1 h2 h3
      obtain ⟨rfl, rfl, rfl, rfl⟩ := uniq x a b y h1 h2
      exact absurd h3 h
/-- all places of a word -/
theorem lot_word (hw : SmallW w) {one : List Int} {S : List (List Int)} {y z : Option D} (L : LotI w S) (ho : one ∈ S) :
    ∃ S' y' z', F_law_lot_1 [some (wT w), some (.lst (S.map wT)), K, some (wT one), y, z] st = .nx [some (wT w), some (.lst (S'.map wT)), K, some (wT one), y', z'] st ∧ LotI w S' ∧ S <+: S' ∧ ClosH S' one := by
  have hl : one.length ≤ 7 := (L.eq one ho).length ▸ hw.1
  have lt : c1 dLen [wT one] = some (.int (one.length : Nat)) := by
    show some (D.int ((one.map D.int).length : Nat)) = _
    rw [List.length_map]
  have rg := rng1_of (k := (one.length : Int) - 1) (by omega) (by omega) st
  have hn : ((one.length : Int) - 1).toNat = one.length - 1 := by omega
  rw [hn] at rg
  obtain ⟨env', hf, S', y', z', rfl, L', pf, cl⟩ := forD_st (g := gNm 4) (body := bd_law_lot_1) (rangeD 0 (one.length - 1)) st
    (fun i env => ∃ S' y' z', env = [some (wT w), some (.lst (S'.map wT)), K, some (wT one), y', z'] ∧ LotI w S' ∧ S <+: S' ∧ ∀ x a b y, one = x ++ a :: b :: y → x.length < i → AprtH a b → x ++ b :: a :: y ∈ S')
    (by
      rintro i hi env ⟨S1, y1, z1, rfl, L1, pf, cl⟩
      have hi' := hi
      rw [rangeD_len] at hi'
      obtain ⟨S2, z2, a, L2, pf2, cl2⟩ := lot_step (K := K) (st := st) (z := z1) hw L1 (pf.subset ho) (k := i) (by omega)
      rw [rangeD_at hi, Int.zero_add]
      refine ⟨_, _, rfl, a, S2, _, z2, rfl, L2, pf.trans pf2, ?_⟩
      intro x a b y h1 h2 h3
      by_cases e : x.length = i
      · exact cl2 x a b y h1 e h3
      · exact pf2.subset (cl x a b y h1 (by omega) h3))
    [some (wT w), some (.lst (S.map wT)), K, some (wT one), y, z] ⟨S, y, z, rfl, L, List.prefix_refl S, fun x a b y _ h => by omega⟩
  refine ⟨S', y', z', ?_, L', pf, ?_⟩
  · exact mFor_of (mThenA_of (xs := [.int ((one.length : Int) - 1)]) (st1 := st) (by simp only [ev, bind_ok, bind_err, get?, ret_ok, List.set_cons_zero, List.set_cons_succ, if_true, if_false, ite_true, ite_false, Bool.false_eq_true, Bool.not_true, Bool.not_false, Bool.and_true, Bool.true_and, Bool.and_false, Bool.false_and, decide_true, decide_false, not_true_eq_false, not_false_eq_true, lt]) rg) hf
  · intro x a b y h1 h2
    refine cl x a b y h1 ?_ h2
    rw [rangeD_len]
    have := congrArg List.length h1
    rw [List.length_append, List.length_cons, List.length_cons] at this
    omega
/-- the lot of a small word: all of its history -/
theorem e_lot (hw : SmallW w) : ∃ S, m__law_lot [wT w] st = .ok (.lst (S.map wT)) st ∧ LotI w S ∧ ∀ v, v ∈ S ↔ EqvH w v := by
  have rg := rng1_of (k := 2000) (by decide) (by decide) st
  obtain ⟨env', hf, S, x, y, z, u, rfl, L, cl⟩ := forD_brk (g := gNm 2) (body := bd_law_lot_2) (rangeD 0 2000) st
    (fun i env => ∃ S x y z u, env = [some (wT w), some (.lst (S.map wT)), x, y, z, u] ∧ LotI w S ∧ ∀ j (hj : j < S.length), j < i → ClosH S S[j])
    (fun env => ∃ S x y z u, env = [some (wT w), some (.lst (S.map wT)), x, y, z, u] ∧ LotI w S ∧ ∀ v ∈ S, ClosH S v)
    (by
      rintro i hi env ⟨S, x, y, z, u, rfl, L, cl⟩
      rw [rangeD_at hi, Int.zero_add]
      refine ⟨_, rfl, ?_⟩
      have lt : c1 dLen [.lst (S.map wT)] = some (.int (S.length : Nat)) := by
        show some (D.int ((S.map wT).length : Nat)) = _
        rw [List.length_map]
      by_cases h : S.length ≤ i
      · refine .inl ⟨[some (wT w), some (.lst (S.map wT)), some (.int (i : Int)), y, z, u], ?_, S, _, y, z, u, rfl, L, ?_⟩
        · have d : decide ((S.length : Int) ≤ (i : Int)) = true := decide_eq_true (by omega)
          unfold bd_law_lot_2
          rw [mSeq_k]
          show seqK (mIfS (mTest (mOp dGe (mVar 2) (mCall1 (c1 dLen) (mCons (mVar 1) mNil)))) mBrk mNx [some (wT w), some (.lst (S.map wT)), some (.int (i : Int)), y, z, u] st) _ = _
          simp only [ev, bind_ok, bind_err, get?, ret_ok, List.set_cons_zero, List.set_cons_succ, if_true, if_false, ite_true, ite_false, Bool.false_eq_true, Bool.not_true, Bool.not_false, Bool.and_true, Bool.true_and, Bool.and_false, Bool.false_and, decide_true, decide_false, not_true_eq_false, not_false_eq_true, lt, d]
          rfl
        · intro v hv
          obtain ⟨j, hj, rfl⟩ := List.mem_iff_getElem.mp hv
          exact cl j hj (by omega)
      · have d : decide ((S.length : Int) ≤ (i : Int)) = false := decide_eq_false (by omega)
        have hi : i < S.length := by omega
        have hx : ixS (.lst (S.map wT)) (.int (i : Int)) st = .ok (wT S[i]) st := by
          have hk : i < (S.map wT).length := by rw [List.length_map]; exact hi
          rw [ixS_lst, DL.atI_nat hk, List.getElem_map]
          rfl
        obtain ⟨S', y', z', a, L', pf, c⟩ := lot_word (K := some (.int (i : Int))) (st := st) (y := z) (z := u) hw L (List.getElem_mem hi)
        refine .inr ⟨_, ?_, S', some (.int (i : Int)), some (wT S[i]), y', z', rfl, L', ?_⟩
        · unfold bd_law_lot_2
          show mSeq _ _ [some (wT w), some (.lst (S.map wT)), some (.int (i : Int)), y, z, u] st = _
          (rw [mSeq_k]; (conv => (lhs; arg 1; simp only [ev, bind_ok, bind_err, get?, ret_ok, List.set_cons_zero, List.set_cons_succ, if_true, if_false, ite_true, ite_false, Bool.false_eq_true, Bool.not_true, Bool.not_false, Bool.and_true, Bool.true_and, Bool.and_false, Bool.false_and, decide_true, decide_false, not_true_eq_false, not_false_eq_true, lt, d])); rw [seqK_nx])
          (rw [mSeq_k]; (conv => (lhs; arg 1; simp only [ev, bind_ok, bind_err, get?, ret_ok, List.set_cons_zero, List.set_cons_succ, if_true, if_false, ite_true, ite_false, Bool.false_eq_true, Bool.not_true, Bool.not_false, Bool.and_true, Bool.true_and, Bool.and_false, Bool.false_and, decide_true, decide_false, not_true_eq_false, not_false_eq_true, hx])); rw [seqK_nx])
          exact a
        · intro j hj hji
          by_cases e : j < S.length
          · have e2 : S'[j] = S[j] := (List.IsPrefix.getElem pf e).symm
            rw [e2]
            by_cases e3 : j = i
            · subst e3; exact c
            · intro x a b y h1 h2
              exact pf.subset (cl j e (by omega) x a b y h1 h2)
          · omega)
    (by
      rintro env ⟨S, x, y, z, u, rfl, L, cl⟩
      refine ⟨S, x, y, z, u, rfl, L, ?_⟩
      intro v hv
      obtain ⟨j, hj, rfl⟩ := List.mem_iff_getElem.mp hv
      refine cl j hj ?_
      rw [rangeD_len]
      have := L.short hw
      omega)
    [some (wT w), some (.lst ([w].map wT)), none, none, none, none] ⟨[w], none, none, none, none, rfl, ⟨by simp, fun v hv => by rw [List.mem_singleton] at hv; exact hv ▸ EqvH.refl w, by simp⟩, fun j hj h => by omega⟩
  refine ⟨S, ?_, L, fun v => ⟨L.eq v, fun h => ?_⟩⟩
  · have hF : F_law_lot_2 [some (wT w), some (.lst [wT w]), none, none, none, none] st = .nx [some (wT w), some (.lst (S.map wT)), x, y, z, u] st :=
      mFor_of (mThenA_of (xs := [.int 2000]) (st1 := st) (by simp only [ev, bind_ok, bind_err, get?, ret_ok, List.set_cons_zero, List.set_cons_succ, if_true, if_false, ite_true, ite_false, Bool.false_eq_true, Bool.not_true, Bool.not_false, Bool.and_true, Bool.true_and, Bool.and_false, Bool.false_and, decide_true, decide_false, not_true_eq_false, not_false_eq_true]) rg) hf
    unfold m__law_lot b__law_lot
    rw [show fnM 6 _ [wT w] st = outR (_) from fnM_eq (by simp)]
    simp only [mkEnv]
    rw [mSeq_of (show mSetF 1 (mThenA (mCons (mVar 0) (mNil)) fits?) [some (wT w), none, none, none, none, none] st = .nx [some (wT w), some (.lst [wT w]), none, none, none, none] st from rfl)]
    (rw [mSeq_k]; (conv => (lhs; arg 1; arg 1; simp only [ev, bind_ok, bind_err, get?, ret_ok, List.set_cons_zero, List.set_cons_succ, if_true, if_false, ite_true, ite_false, Bool.false_eq_true, Bool.not_true, Bool.not_false, Bool.and_true, Bool.true_and, Bool.and_false, Bool.false_and, decide_true, decide_false, not_true_eq_false, not_false_eq_true, hF])); rw [seqK_nx])
    simp only [ev, bind_ok, bind_err, get?, ret_ok, List.set_cons_zero, List.set_cons_succ, if_true, if_false, ite_true, ite_false, Bool.false_eq_true, Bool.not_true, Bool.not_false, Bool.and_true, Bool.true_and, Bool.and_false, Bool.false_and, decide_true, decide_false, not_true_eq_false, not_false_eq_true]
  · exact closed_all (S := fun v => v ∈ S) L.mem (fun x a b y hv ha => cl _ hv x a b y rfl ha) h
end
end My

namespace My
open PySem PySem.Spec PyProof.Rows L2 DL
/-! k40: the least of a lot -/
theorem lexLt_H : ∀ u v : List Int, HT.lexLt v u = !lexH u v
  | [], [] => rfl
  | [], _ :: _ => rfl
  | _ :: _, [] => rfl
  | a :: u, b :: v => by
    have ih := lexLt_H u v
    rw [HT.lexLt_cons]
    show _ = !(decide (a < b) || (decide (a = b) && lexH u v))
    by_cases h : b = a
    · subst h
      rw [if_pos rfl, ih, decide_eq_false (Int.lt_irrefl b), decide_eq_true rfl]
      simp
    · rw [if_neg h, decide_eq_false (fun e : a = b => h e.symm)]
      by_cases k : b < a
      · rw [decide_eq_true k, decide_eq_false (by omega : ¬ a < b)]; rfl
      · rw [decide_eq_false k, decide_eq_true (by omega : a < b)]; rfl
theorem lex_trans : ∀ u v w : List Int, lexH u v = true → lexH v w = true → lexH u w = true
  | [], _, _, _, _ => rfl
  | _ :: _, [], _, h, _ => by simp [lexH] at h
  | _ :: _, _ :: _, [], _, h => by simp [lexH] at h
  | a :: u, b :: v, c :: w, h, k => by
    simp only [lexH, Bool.or_eq_true, Bool.and_eq_true, decide_eq_true_eq] at h k ⊢
    rcases h with h | ⟨h, h'⟩
    · rcases k with k | ⟨k, _⟩
      · exact .inl (by omega)
      · exact .inl (by omega)
    · rcases k with k | ⟨k, k'⟩
      · exact .inl (by omega)
      · exact .inr ⟨by omega, lex_trans u v w h' k'⟩
theorem lex_total : ∀ u v : List Int, lexH u v = true ∨ lexH v u = true
  | [], _ => .inl rfl
  | _ :: _, [] => .inr rfl
  | a :: u, b :: v => by
    simp only [lexH, Bool.or_eq_true, Bool.and_eq_true, decide_eq_true_eq]
    rcases Int.lt_trichotomy a b with h | h | h
    · exact .inl (.inl h)
    · rcases lex_total u v with q | q
      · exact .inl (.inr ⟨h, q⟩)
      · exact .inr (.inr ⟨h.symm, q⟩)
    · exact .inr (.inl h)
theorem best_le (f : Nat → List Int) : ∀ k, argBest (fun i j => HT.lexLt (f i) (f j)) k ≤ k ∧ ∀ i, i ≤ k → lexH (f (argBest (fun i j => HT.lexLt (f i) (f j)) k)) (f i) = true
  | 0 => ⟨Nat.le_refl 0, fun i hi => by
      have e : i = 0 := by omega
      subst e
      exact (lex_total (f 0) (f 0)).elim id id⟩
  | k + 1 => by
    obtain ⟨h1, h2⟩ := best_le f k
    have e : argBest (fun i j => HT.lexLt (f i) (f j)) (k + 1) = if HT.lexLt (f (k + 1)) (f (argBest (fun i j => HT.lexLt (f i) (f j)) k)) = true then k + 1 else argBest (fun i j => HT.lexLt (f i) (f j)) k := rfl
    rw [e]
    by_cases c : HT.lexLt (f (k + 1)) (f (argBest (fun i j => HT.lexLt (f i) (f j)) k)) = true
    · rw [if_pos c]
      refine ⟨Nat.le_refl _, fun i hi => ?_⟩
      rw [lexLt_H] at c
      have c' : lexH (f (k + 1)) (f (argBest (fun i j => HT.lexLt (f i) (f j)) k)) = true := by
        rcases lex_total (f (k + 1)) (f (argBest (fun i j => HT.lexLt (f i) (f j)) k)) with q | q
        · exact q
        · rw [q] at c; cases c
      by_cases hk : i = k + 1
      · subst hk
        exact (lex_total _ _).elim id id
      · exact lex_trans _ _ _ c' (h2 i (by omega))
    · rw [if_neg c]
      refine ⟨by omega, fun i hi => ?_⟩
      by_cases hk : i = k + 1
      · subst hk
        rw [lexLt_H] at c
        simpa using c
      · exact h2 i (by omega)
theorem ints_map : ∀ w : List Int, ints? (w.map D.int) = some w
  | [] => rfl
  | a :: w => by
    have ih := ints_map w
    show (ints? (w.map D.int)).map (a :: ·) = _
    rw [ih]; rfl
theorem tups_map : ∀ S : List (List Int), tupsI? (S.map wT) = some S
  | [] => rfl
  | w :: S => by
    have ih := tups_map S
    show (tupI? (wT w)).bind (fun ns => (tupsI? (S.map wT)).map (ns :: ·)) = _
    rw [ih, show tupI? (wT w) = some w from ints_map w]
    rfl
theorem min_lot {w : List Int} {S : List (List Int)} (L : LotI w S) (hS : ∀ v, v ∈ S ↔ EqvH w v) : c1 dMinTu [.lst (S.map wT)] = some (wT (leastH w)) := by
  show minTu (S.map wT) = _
  unfold minTu
  rw [tups_map, List.length_map]
  show (S.map wT)[argBest (fun i j => HT.lexLt (S.getD i []) (S.getD j [])) (S.length - 1)]? = _
  obtain ⟨h1, h2⟩ := best_le (fun i => S.getD i []) (S.length - 1)
  obtain ⟨m, hm⟩ : ∃ m, m = argBest (fun i j => HT.lexLt (S.getD i []) (S.getD j [])) (S.length - 1) := ⟨_, rfl⟩
  rw [← hm] at h1 h2 ⊢
  have hpos : 0 < S.length := List.length_pos_of_mem L.mem
  have hml : m < S.length := by omega
  have hl := (hS (leastH w)).mpr (least_eqv w)
  obtain ⟨j, hj, ej⟩ := List.mem_iff_getElem.mp hl
  have a1 := h2 j (by omega)
  have gm : S.getD m [] = S[m] := by simp [List.getD, hml]
  have gj : S.getD j [] = leastH w := by simp [List.getD, hj, ej]
  rw [gm, gj] at a1
  have a2 : lexH (leastH w) S[m] = true := least_le (L.eq _ (List.getElem_mem hml))
  rw [List.getElem?_map, List.getElem?_eq_getElem hml, lex_antisymm _ _ a1 a2]
  rfl
end My

namespace My
open PySem PySem.Spec PyProof.Rows L2 DL
/-! k40: short words -/
theorem drw {n : Int} (h0 : 0 < n) (h1 : n ≤ 1000) (st : List D) (hs : HandOk st) : ∃ (r : Nat) (st' : List D), (r : Int) < n ∧ HandOk st' ∧ m__law_draw [.tok 0, .int n] st = .ok (.int (r : Int)) st' := by
  obtain ⟨r, s, a, b, k, e⟩ := drB n 10 h0 (by omega) (by decide) st hs
  obtain ⟨r', rfl⟩ : ∃ r' : Nat, r = r' := ⟨r.toNat, by omega⟩
  exact ⟨r', s, b, k, e⟩
theorem SmallW.ok {w : List Int} (h : SmallW w) : WordOk w := ⟨by have := h.1; omega, fun i hi => by have := h.2 i hi; exact ⟨by omega, by omega⟩⟩
/-- words drawn: many letters from -1 to n-2 -/
theorem letters_drawn {env : Env'} {i : Nat} {me : ME} {n : Int} (h0 : 0 < n) (h1 : n ≤ 1000) (he : ∀ (d : D) (st : List D), HandOk st → ∃ env1 : Env', (gNm i) d env = some env1 ∧ ∀ (r : Int) (s : List D), m__law_draw [.tok 0, .int n] st = .ok (.int r) s → me env1 st = .ok (.int (r - 1)) s) (ds : List D) (st : List D) (hs : HandOk st) :
    ∃ (w : List Int) (st' : List D), lcD env (gNm i) mYes me ds st = .ok (w.map .int) st' ∧ HandOk st' ∧ w.length = ds.length ∧ ∀ x ∈ w, -1 ≤ x ∧ x ≤ n - 2 := by
  obtain ⟨ys, s', e, k, l, ry⟩ := lcD_inv (env := env) (g := gNm i) (me := me) HandOk (fun _ => True) (fun y => ∃ x : Int, (-1 ≤ x ∧ x ≤ n - 2) ∧ y = .int x) (by
    intro d st _ hs
    obtain ⟨env1, g1, m1⟩ := he d st hs
    obtain ⟨r, s, hr, hs', dr⟩ := drw h0 h1 st hs
    exact ⟨env1, _, s, g1, m1 r s dr, hs', (r : Int) - 1, ⟨by omega, by omega⟩, rfl⟩) ds st (fun _ _ => trivial) hs
  obtain ⟨w, rfl, pw⟩ := ints_of' (P := fun x => -1 ≤ x ∧ x ≤ n - 2) ys ry
  exact ⟨w, s', e, k, by rw [List.length_map] at l; exact l, pw⟩
theorem short_word (st : List D) (hs : HandOk st) : ∃ (w : List Int) (st' : List D), L_law_short_right_1 [some (.tok 0), none, none, none, none, none, none, none, none, none, none] st = .ok (.lst (w.map .int)) st' ∧ HandOk st' ∧ SmallW w := by
  obtain ⟨r, s1, hr, h1, d1⟩ := drw (n := 8) (by decide) (by decide) st hs
  have rg := rng1_of (k := (r : Int)) (by omega) (by omega) s1
  obtain ⟨w, s2, e, h2, l, hw⟩ := letters_drawn (env := [some (.tok 0), none, none, none, none, none, none, none, none, none, none]) (i := 5) (me := el_law_short_right_1) (n := 6) (by decide) (by decide) (by
    intro d st _
    refine ⟨_, rfl, fun r s dr => ?_⟩
    unfold el_law_short_right_1
    simp only [ev, bind_ok, bind_err, get?, ret_ok, List.set_cons_zero, List.set_cons_succ, if_true, if_false, ite_true, ite_false, Bool.false_eq_true, Bool.not_true, Bool.not_false, Bool.and_true, Bool.true_and, Bool.and_false, Bool.false_and, decide_true, decide_false, not_true_eq_false, not_false_eq_true, gNm, dr]) (rangeD 0 (r : Int).toNat) s1 h1
  rw [rangeD_len, Int.toNat_natCast] at l
  refine ⟨w, s2, ?_, h2, by omega, fun x hx => by have := hw x hx; exact ⟨by omega, by omega⟩⟩
  exact mLC_of (mThenA_of (xs := [.int (r : Int)]) (st1 := s1) (by simp only [ev, bind_ok, bind_err, get?, ret_ok, List.set_cons_zero, List.set_cons_succ, if_true, if_false, ite_true, ite_false, Bool.false_eq_true, Bool.not_true, Bool.not_false, Bool.and_true, Bool.true_and, Bool.and_false, Bool.false_and, decide_true, decide_false, not_true_eq_false, not_false_eq_true, d1]) rg) e (by rw [List.length_map]; omega)
theorem listT (w : List Int) : dList (wT w) = some (.lst (w.map .int)) := rfl
theorem tupT (w : List Int) : dTuple (.lst (w.map D.int)) = some (wT w) := rfl
theorem seqL (w : List Int) : SeqD (.lst (w.map .int)) (w.map .int) := .inl rfl
theorem seqT (w : List Int) : SeqD (wT w) (w.map .int) := .inr rfl
theorem least_ok {w : List Int} (h : WordOk w) (st : List D) : m_least_word [wT w] st = .ok (wT (leastH w)) st ∧ m_least_word [.lst (w.map .int)] st = .ok (wT (leastH w)) st := ⟨e_least (seqT w) h st, e_least (seqL w) h st⟩
theorem ne_wT (u v : List Int) : dNe (wT u) (wT v) = some (.bl (!decide (u = v))) := wT_ne u v
theorem notB_t (b : Bool) : dNotB (.bl b) (.bl true) = some (.bl (!decide (b = true))) := rfl
theorem atI_last40 {xs : List D} {x : D} : atI (xs ++ [x]) (-1) = some x := by
  unfold atI
  have : ixN (xs ++ [x]).length (-1) = some xs.length := by
    unfold ixN
    simp only [show ((-1 : Int) < 0) from by decide, List.length_append, List.length_singleton]
    simp
    omega
  rw [this]
  simp
section
variable {w : List Int} {S : List (List Int)} {e5 e6 e7 e8 e9 e10 : Option D}
/-- each word of the lot -/
theorem short_loop2 (hw : SmallW w) (L : LotI w S) (e4 : Option D) (st : List D) : ∃ e4', F_law_short_right_2 [some (.tok 0), some (wT w), some (.lst (S.map wT)), some (wT (leastH w)), e4, e5, e6, e7, e8, e9, e10] st = .nx [some (.tok 0), some (wT w), some (.lst (S.map wT)), some (wT (leastH w)), e4', e5, e6, e7, e8, e9, e10] st := by
  have hne : S ≠ [] := List.ne_nil_of_mem L.mem
  obtain ⟨S0, z, rfl⟩ : ∃ S0 z, S = S0 ++ [z] := ⟨S.dropLast, S.getLast hne, (List.dropLast_concat_getLast hne).symm⟩
  have lastE : atI ((S0 ++ [z]).map wT) (-1) = some (wT z) := by
    rw [List.map_append, List.map_cons, List.map_nil]
    exact atI_last40
  have cut : DL.cutD ((S0 ++ [z]).map wT) none (some ((12 : Nat) : Int)) = ((S0 ++ [z]).take 12).map wT := by
    rw [cut_take, List.map_take]
  have sl := mSl_of (m := mVar 2) (l := mNo) (h := mPart (mC (.int 12))) (env := [some (.tok 0), some (wT w), some (.lst ((S0 ++ [z]).map wT)), some (wT (leastH w)), e4, e5, e6, e7, e8, e9, e10]) (st := st) (s1 := st) (s2 := st) (s3 := st) (xs := (S0 ++ [z]).map wT) (lo := none) (hi := some 12) rfl rfl rfl
  have cut' : DL.cutD ((S0 ++ [z]).map wT) none (some 12) = ((S0 ++ [z]).take 12).map wT := cut
  rw [cut'] at sl
  have ad := addL (((S0 ++ [z]).take 12).map wT) [wT z] (by rw [List.length_map, List.length_take, List.length_singleton]; omega)
  obtain ⟨env', st', hf, ⟨e4', rfl⟩, rfl⟩ := forD_inv (g := gNm 4) (body := bd_law_short_right_2)
    (fun env s => (∃ e4', env = [some (.tok 0), some (wT w), some (.lst ((S0 ++ [z]).map wT)), some (wT (leastH w)), e4', e5, e6, e7, e8, e9, e10]) ∧ s = st) (fun d => ∃ v, EqvH w v ∧ d = wT v)
    (by
      rintro d env s ⟨v, hv, rfl⟩ ⟨⟨e4', rfl⟩, rfl⟩
      have hvl := hv.length
      have ov : WordOk v := ⟨by have := hw.1; omega, fun i hi => (SmallW.ok hw).2 i (hv.perm.mem_iff.2 hi)⟩
      have l1 := (least_ok ov s).2
      have l2 := e_same (seqL w) (seqT v) (SmallW.ok hw) ov s
      have q : leastH v = leastH w := (least_eq hv).symm
      rw [decide_eq_true q.symm] at l2
      have n1 := ne_wT (leastH v) (leastH w)
      rw [decide_eq_true q] at n1
      have n2 := notB_t true
      refine ⟨_, _, s, rfl, ?_, ⟨some (wT v), rfl⟩, rfl⟩
      show bd_law_short_right_2 [some (.tok 0), some (wT w), some (.lst ((S0 ++ [z]).map wT)), some (wT (leastH w)), some (wT v), e5, e6, e7, e8, e9, e10] s = _
      unfold bd_law_short_right_2
      simp only [ev, bind_ok, bind_err, get?, ret_ok, List.set_cons_zero, List.set_cons_succ, if_true, if_false, ite_true, ite_false, Bool.false_eq_true, Bool.not_true, Bool.not_false, Bool.and_true, Bool.true_and, Bool.and_false, Bool.false_and, decide_true, decide_false, not_true_eq_false, not_false_eq_true, listT, l1, l2, n1, n2])
    (((S0 ++ [z]).take 12).map wT ++ [wT z]) [some (.tok 0), some (wT w), some (.lst ((S0 ++ [z]).map wT)), some (wT (leastH w)), e4, e5, e6, e7, e8, e9, e10] st
    (by
      intro d hd
      rcases List.mem_append.mp hd with hd | hd
      · obtain ⟨v, hv, rfl⟩ := List.mem_map.mp hd
        exact ⟨v, L.eq v (List.mem_of_mem_take hv), rfl⟩
      · rw [List.mem_singleton] at hd
        exact ⟨z, L.eq z (by simp), hd⟩)
    ⟨⟨e4, rfl⟩, rfl⟩
  refine ⟨e4', ?_⟩
  exact mFor_of (mItems_of (x := .lst (((S0 ++ [z]).take 12).map wT ++ [wT z])) (st1 := st') (by simp only [ev, bind_ok, bind_err, get?, ret_ok, List.set_cons_zero, List.set_cons_succ, if_true, if_false, ite_true, ite_false, Bool.false_eq_true, Bool.not_true, Bool.not_false, Bool.and_true, Bool.true_and, Bool.and_false, Bool.false_and, decide_true, decide_false, not_true_eq_false, not_false_eq_true, sl, lastE, ad]) rfl) hf
end
end My

namespace My
open PySem PySem.Spec PyProof.Rows L2 DL
/-! k40: short words changed by hand -/
theorem mSetF_of {i : Nat} {m : MA} {env : Env'} {st s : List D} {ds : List D} (h : m env st = .ok ds s) : mSetF i m env st = .nx (env.set i (some (.lst ds))) s := by
  unfold mSetF
  rw [h]
theorem mSetI_of40 {i k : Nat} {mi m : ME} {env : Env'} {st s1 s2 : List D} {d : D} {ds : List D} (hm : m env st = .ok d s1) (hl : env[i]? = some (some (.lst ds))) (hi : mi env s1 = .ok (.int (k : Int)) s2) (hk : k < ds.length) : mSetI i mi m env st = .nx (env.set i (some (.lst (ds.set k d)))) s2 := by
  unfold mSetI mDo
  rw [hm]
  simp only [hl]
  unfold setIR
  rw [hi]
  simp only [DL.ixN_nat hk]
theorem setIQ_of {i j : Nat} {mi : ME} {d : D} {k : MS} {env : Env'} {st s1 : List D} {es : List D} (he : env[i]? = some (some (.lst es))) (hi : mi env st = .ok (.int (j : Int)) s1) (hj : j < es.length) : setIQ i mi d k env st = k (env.set i (some (.lst (es.set j d)))) s1 := by
  unfold setIQ
  rw [he]
  dsimp only
  rw [hi]
  dsimp only
  rw [DL.ixN_nat hj]
theorem mSwapI_of {i j k : Nat} {mi mj me : ME} {env : Env'} {st : List D} {ds : List D} {a c : D} (he : env[i]? = some (some (.lst ds))) (hm : me env st = .ok (.tup [a, c]) st) (hi : mi env st = .ok (.int (j : Int)) st) (hj : j < ds.length)
    (hjj : mj (env.set i (some (.lst (ds.set j a)))) st = .ok (.int (k : Int)) st) (hk : k < ds.length) : mSwapI i mi mj me env st = .nx (env.set i (some (.lst ((ds.set j a).set k c)))) st := by
  have hl : i < env.length := (List.getElem?_eq_some_iff.mp he).1
  unfold mSwapI mDo
  rw [hm]
  dsimp only
  rw [setIQ_of he hi hj, setIQ_of (es := ds.set j a) (List.getElem?_set_self hl) hjj (by rw [List.length_set]; exact hk), List.set_set]
  rfl
theorem mIfS_t {c : MT} {a b : MS} {env : Env'} {st s : List D} (h : c env st = .ok true s) : mIfS c a b env st = a env s := by
  simp only [ev3, h, if_true]
theorem mIfS_f {c : MT} {a b : MS} {env : Env'} {st s : List D} (h : c env st = .ok false s) : mIfS c a b env st = b env s := by
  simp only [ev3, h, Bool.false_eq_true, if_false]
theorem len40 (o : List Int) : dLen (.lst (o.map D.int)) = some (.int (o.length : Nat)) := by
  show some (D.int ((o.map D.int).length : Nat)) = _
  rw [List.length_map]
theorem ne_nil40 (o : List Int) : dNe (.lst (o.map D.int)) (.lst []) = some (.bl (!decide (o = []))) := by
  have h : ShA 0 (o.map D.int) := ShA.map (.int 0) o
  have e := dNe_of (Sh.lst h) (Sh.lst (k := 0) .nil)
  rw [e, eqv_lst, show ([] : List D) = ([] : List Int).map .int from rfl, eqvL_ints]
theorem at40 (o : List Int) {k : Nat} (h : k < o.length) : atI (o.map D.int) (k : Int) = some (.int o[k]) := by
  rw [DL.atI_nat (by rw [List.length_map]; exact h), List.getElem_map]
def Lets (o : List Int) : Prop := ∀ x ∈ o, -1 ≤ x ∧ x ≤ 4
theorem Lets.set {o : List Int} (h : Lets o) {k : Nat} {x : Int} (hx : -1 ≤ x ∧ x ≤ 4) : Lets (o.set k x) := by
  intro y hy
  rcases List.mem_or_eq_of_mem_set hy with q | q
  · exact h y q
  · exact q ▸ hx
section
variable {w : List Int} {P1 P2 P3 : Option D} {e5 e7 e8 e9 e10 : Option D} {kd : Int}
def kinds (c : Int) : MT := mTest (mOp dEq (mVar 6) (mC (.int c)))
theorem piece0 {o : List Int} (ho : Lets o) (hl : o.length ≤ 7) (st : List D) (hs : HandOk st) :
    ∃ o' s', (mIfS (mAnd (mTest (mOp dNe (mVar 4) (mLst (mNil)))) (mTest (mOp dEq (mVar 6) (mC (.int 0))))) (mSetI 4 (mCall m__law_draw (mCons (mVar 0) (mCons (mCall1 (c1 dLen) (mCons (mVar 4) mNil)) (mNil)))) (mOp dSub (mCall m__law_draw (mCons (mVar 0) (mCons (mC (.int 6)) (mNil)))) (mC (.int 1)))) (mNx)) [some (.tok 0), P1, P2, P3, some (.lst (o.map .int)), e5, some (.int kd), e7, e8, e9, e10] st
      = .nx [some (.tok 0), P1, P2, P3, some (.lst (o'.map .int)), e5, some (.int kd), e7, e8, e9, e10] s' ∧ HandOk s' ∧ Lets o' ∧ o'.length ≤ 7 := by
  have n := ne_nil40 o
  by_cases h : o = []
  · rw [decide_eq_true h] at n
    exact ⟨o, st, by simp only [ev, bind_ok, bind_err, get?, ret_ok, List.set_cons_zero, List.set_cons_succ, if_true, if_false, ite_true, ite_false, Bool.false_eq_true, Bool.not_true, Bool.not_false, Bool.and_true, Bool.true_and, Bool.and_false, Bool.false_and, decide_true, decide_false, not_true_eq_false, not_false_eq_true, n], hs, ho, hl⟩
  · rw [decide_eq_false h] at n
    by_cases k : kd = 0
    · have dk : decide (kd = 0) = true := decide_eq_true k
      have hpos := List.length_pos_iff.mpr h
      obtain ⟨r, s1, hr, h1, d1⟩ := drw (n := 6) (by decide) (by decide) st hs
      obtain ⟨q, s2, hq, h2, d2⟩ := drw (n := (o.length : Int)) (by omega) (by omega) s1 h1
      refine ⟨o.set q ((r : Int) - 1), s2, ?_, h2, ho.set ⟨by omega, by omega⟩, by rw [List.length_set]; exact hl⟩
      have m := mSetI_of40 (i := 4) (k := q) (mi := mCall m__law_draw (mCons (mVar 0) (mCons (mCall1 (c1 dLen) (mCons (mVar 4) mNil)) (mNil)))) (m := mOp dSub (mCall m__law_draw (mCons (mVar 0) (mCons (mC (.int 6)) (mNil)))) (mC (.int 1))) (env := [some (.tok 0), P1, P2, P3, some (.lst (o.map .int)), e5, some (.int kd), e7, e8, e9, e10]) (st := st) (s1 := s1) (s2 := s2) (d := .int ((r : Int) - 1)) (ds := o.map .int)
        (by simp only [ev, bind_ok, bind_err, get?, ret_ok, List.set_cons_zero, List.set_cons_succ, if_true, if_false, ite_true, ite_false, Bool.false_eq_true, Bool.not_true, Bool.not_false, Bool.and_true, Bool.true_and, Bool.and_false, Bool.false_and, decide_true, decide_false, not_true_eq_false, not_false_eq_true, d1]) rfl (by simp only [ev, bind_ok, bind_err, get?, ret_ok, List.set_cons_zero, List.set_cons_succ, if_true, if_false, ite_true, ite_false, Bool.false_eq_true, Bool.not_true, Bool.not_false, Bool.and_true, Bool.true_and, Bool.and_false, Bool.false_and, decide_true, decide_false, not_true_eq_false, not_false_eq_true, List.length_map, d2]) (by rw [List.length_map]; omega)
      rw [mIfS_t (s := st) (by simp only [ev, bind_ok, bind_err, get?, ret_ok, List.set_cons_zero, List.set_cons_succ, if_true, if_false, ite_true, ite_false, Bool.false_eq_true, Bool.not_true, Bool.not_false, Bool.and_true, Bool.true_and, Bool.and_false, Bool.false_and, decide_true, decide_false, not_true_eq_false, not_false_eq_true, n, dk]), m]
      simp only [List.map_set, List.set_cons_zero, List.set_cons_succ]
    · have dk : decide (kd = 0) = false := decide_eq_false k
      exact ⟨o, st, by simp only [ev, bind_ok, bind_err, get?, ret_ok, List.set_cons_zero, List.set_cons_succ, if_true, if_false, ite_true, ite_false, Bool.false_eq_true, Bool.not_true, Bool.not_false, Bool.and_true, Bool.true_and, Bool.and_false, Bool.false_and, decide_true, decide_false, not_true_eq_false, not_false_eq_true, n, dk], hs, ho, hl⟩
theorem piece1 {o : List Int} (ho : Lets o) (hl : o.length ≤ 7) (st : List D) (hs : HandOk st) :
    ∃ o' e7' s', (mIfS (mAnd (mTest (mOp dGt (mCall1 (c1 dLen) (mCons (mVar 4) mNil)) (mC (.int 1)))) (mTest (mOp dEq (mVar 6) (mC (.int 1))))) (mSeq (mSet 7 (mCall m__law_draw (mCons (mVar 0) (mCons (mOp dSub (mCall1 (c1 dLen) (mCons (mVar 4) mNil)) (mC (.int 1))) (mNil)))))
    (mSetF 4 (mThenA (mCons (mCall m__law_swapped (mCons (mCall1 (c1 dTuple) (mCons (mVar 4) (mNil))) (mCons (mVar 7) (mNil)))) (mNil)) lst1?))) (mNx)) [some (.tok 0), P1, P2, P3, some (.lst (o.map .int)), e5, some (.int kd), e7, e8, e9, e10] st
      = .nx [some (.tok 0), P1, P2, P3, some (.lst (o'.map .int)), e5, some (.int kd), e7', e8, e9, e10] s' ∧ HandOk s' ∧ Lets o' ∧ o'.length ≤ 7 := by
  by_cases h : 1 < (o.length : Int)
  · have dh : decide (1 < (o.length : Int)) = true := decide_eq_true h
    by_cases k : kd = 1
    · have dk : decide (kd = 1) = true := decide_eq_true k
      obtain ⟨q, s2, hq, h2, d2⟩ := drw (n := (o.length : Int) - 1) (by omega) (by omega) st hs
      obtain ⟨x, y, ex, el⟩ := at_split o (k := q) (by omega)
      have sw := e_swapped x y o[q] o[q + 1] (by
        have := congrArg List.length ex
        rw [List.length_append, List.length_cons, List.length_cons] at this
        omega) s2
      rw [← ex, el] at sw
      have sw : m__law_swapped [.tup (o.map D.int), .int (q : Int)] s2 = .ok (wT (x ++ o[q + 1] :: o[q] :: y)) s2 := sw
      have l1 : lst1? [wT (x ++ o[q + 1] :: o[q] :: y)] s2 = .ok ((x ++ o[q + 1] :: o[q] :: y).map .int) s2 := rfl
      refine ⟨x ++ o[q + 1] :: o[q] :: y, some (.int (q : Int)), s2, ?_, h2, ?_, ?_⟩
      · have m : mSetF 4 (mThenA (mCons (mCall m__law_swapped (mCons (mCall1 (c1 dTuple) (mCons (mVar 4) (mNil))) (mCons (mVar 7) (mNil)))) (mNil)) lst1?) [some (.tok 0), P1, P2, P3, some (.lst (o.map .int)), e5, some (.int kd), some (.int (q : Int)), e8, e9, e10] s2 = .nx [some (.tok 0), P1, P2, P3, some (.lst ((x ++ o[q + 1] :: o[q] :: y).map .int)), e5, some (.int kd), some (.int (q : Int)), e8, e9, e10] s2 :=
          mSetF_of (mThenA_of (xs := [wT (x ++ o[q + 1] :: o[q] :: y)]) (st1 := s2) (by simp only [ev, bind_ok, bind_err, get?, ret_ok, List.set_cons_zero, List.set_cons_succ, if_true, if_false, ite_true, ite_false, Bool.false_eq_true, Bool.not_true, Bool.not_false, Bool.and_true, Bool.true_and, Bool.and_false, Bool.false_and, decide_true, decide_false, not_true_eq_false, not_false_eq_true, sw]) l1)
        have m1 : mSet 7 (mCall m__law_draw (mCons (mVar 0) (mCons (mOp dSub (mCall1 (c1 dLen) (mCons (mVar 4) mNil)) (mC (.int 1))) (mNil)))) [some (.tok 0), P1, P2, P3, some (.lst (o.map .int)), e5, some (.int kd), e7, e8, e9, e10] st = .nx [some (.tok 0), P1, P2, P3, some (.lst (o.map .int)), e5, some (.int kd), some (.int (q : Int)), e8, e9, e10] s2 :=
          mSet_of (by simp only [ev, bind_ok, bind_err, get?, ret_ok, List.set_cons_zero, List.set_cons_succ, if_true, if_false, ite_true, ite_false, Bool.false_eq_true, Bool.not_true, Bool.not_false, Bool.and_true, Bool.true_and, Bool.and_false, Bool.false_and, decide_true, decide_false, not_true_eq_false, not_false_eq_true, List.length_map, d2])
        have both := mSeq_of (b := mSetF 4 (mThenA (mCons (mCall m__law_swapped (mCons (mCall1 (c1 dTuple) (mCons (mVar 4) (mNil))) (mCons (mVar 7) (mNil)))) (mNil)) lst1?)) m1
        rw [m] at both
        rw [mIfS_t (s := st) (by simp only [ev, bind_ok, bind_err, get?, ret_ok, List.set_cons_zero, List.set_cons_succ, if_true, if_false, ite_true, ite_false, Bool.false_eq_true, Bool.not_true, Bool.not_false, Bool.and_true, Bool.true_and, Bool.and_false, Bool.false_and, decide_true, decide_false, not_true_eq_false, not_false_eq_true, List.length_map, dh, dk])]
        exact both
      · intro z hz
        apply ho z
        rw [ex]
        simp only [List.mem_append, List.mem_cons] at hz ⊢
        rcases hz with hz | hz | hz | hz
        · exact .inl hz
        · exact .inr (.inr (.inl hz))
        · exact .inr (.inl hz)
        · exact .inr (.inr (.inr hz))
      · have := congrArg List.length ex
        rw [List.length_append, List.length_cons, List.length_cons] at this ⊢
        omega
    · have dk : decide (kd = 1) = false := decide_eq_false k
      exact ⟨o, e7, st, by simp only [ev, bind_ok, bind_err, get?, ret_ok, List.set_cons_zero, List.set_cons_succ, if_true, if_false, ite_true, ite_false, Bool.false_eq_true, Bool.not_true, Bool.not_false, Bool.and_true, Bool.true_and, Bool.and_false, Bool.false_and, decide_true, decide_false, not_true_eq_false, not_false_eq_true, List.length_map, dh, dk], hs, ho, hl⟩
  · have dh : decide (1 < (o.length : Int)) = false := decide_eq_false h
    exact ⟨o, e7, st, by simp only [ev, bind_ok, bind_err, get?, ret_ok, List.set_cons_zero, List.set_cons_succ, if_true, if_false, ite_true, ite_false, Bool.false_eq_true, Bool.not_true, Bool.not_false, Bool.and_true, Bool.true_and, Bool.and_false, Bool.false_and, decide_true, decide_false, not_true_eq_false, not_false_eq_true, List.length_map, dh], hs, ho, hl⟩
theorem piece2 {o : List Int} (ho : Lets o) (hl : o.length ≤ 7) (st : List D) (hs : HandOk st) :
    ∃ o' e8' e9' s', (mIfS (mAnd (mTest (mOp dGt (mCall1 (c1 dLen) (mCons (mVar 4) mNil)) (mC (.int 1)))) (mTest (mOp dEq (mVar 6) (mC (.int 2))))) (mSeq (mSet 8 (mCall m__law_draw (mCons (mVar 0) (mCons (mCall1 (c1 dLen) (mCons (mVar 4) mNil)) (mNil)))))
    (mSeq (mSet 9 (mCall m__law_draw (mCons (mVar 0) (mCons (mCall1 (c1 dLen) (mCons (mVar 4) mNil)) (mNil)))))
    (mSwapI 4 (mVar 8) (mVar 9) (mTup (mCons (mIx (mVar 4) (mVar 9)) (mCons (mIx (mVar 4) (mVar 8)) (mNil))))))) (mNx)) [some (.tok 0), P1, P2, P3, some (.lst (o.map .int)), e5, some (.int kd), e7, e8, e9, e10] st
      = .nx [some (.tok 0), P1, P2, P3, some (.lst (o'.map .int)), e5, some (.int kd), e7, e8', e9', e10] s' ∧ HandOk s' ∧ Lets o' ∧ o'.length ≤ 7 := by
  by_cases h : 1 < (o.length : Int)
  · have dh : decide (1 < (o.length : Int)) = true := decide_eq_true h
    by_cases k : kd = 2
    · have dk : decide (kd = 2) = true := decide_eq_true k
      obtain ⟨p, s1, hp, h1, d1⟩ := drw (n := (o.length : Int)) (by omega) (by omega) st hs
      obtain ⟨q, s2, hq, h2, d2⟩ := drw (n := (o.length : Int)) (by omega) (by omega) s1 h1
      have hp' : p < o.length := by omega
      have hq' : q < o.length := by omega
      have ap := at40 o hp'
      have aq := at40 o hq'
      refine ⟨(o.set p o[q]).set q o[p], some (.int (p : Int)), some (.int (q : Int)), s2, ?_, h2, ?_, by rw [List.length_set, List.length_set]; exact hl⟩
      · have m0 : mSet 8 (mCall m__law_draw (mCons (mVar 0) (mCons (mCall1 (c1 dLen) (mCons (mVar 4) mNil)) (mNil)))) [some (.tok 0), P1, P2, P3, some (.lst (o.map .int)), e5, some (.int kd), e7, e8, e9, e10] st = .nx [some (.tok 0), P1, P2, P3, some (.lst (o.map .int)), e5, some (.int kd), e7, some (.int (p : Int)), e9, e10] s1 :=
          mSet_of (by simp only [ev, bind_ok, bind_err, get?, ret_ok, List.set_cons_zero, List.set_cons_succ, if_true, if_false, ite_true, ite_false, Bool.false_eq_true, Bool.not_true, Bool.not_false, Bool.and_true, Bool.true_and, Bool.and_false, Bool.false_and, decide_true, decide_false, not_true_eq_false, not_false_eq_true, List.length_map, d1])
        have m1 : mSet 9 (mCall m__law_draw (mCons (mVar 0) (mCons (mCall1 (c1 dLen) (mCons (mVar 4) mNil)) (mNil)))) [some (.tok 0), P1, P2, P3, some (.lst (o.map .int)), e5, some (.int kd), e7, some (.int (p : Int)), e9, e10] s1 = .nx [some (.tok 0), P1, P2, P3, some (.lst (o.map .int)), e5, some (.int kd), e7, some (.int (p : Int)), some (.int (q : Int)), e10] s2 :=
          mSet_of (by simp only [ev, bind_ok, bind_err, get?, ret_ok, List.set_cons_zero, List.set_cons_succ, if_true, if_false, ite_true, ite_false, Bool.false_eq_true, Bool.not_true, Bool.not_false, Bool.and_true, Bool.true_and, Bool.and_false, Bool.false_and, decide_true, decide_false, not_true_eq_false, not_false_eq_true, List.length_map, d2])
        have m2 := mSwapI_of (i := 4) (j := p) (k := q) (mi := mVar 8) (mj := mVar 9) (me := mTup (mCons (mIx (mVar 4) (mVar 9)) (mCons (mIx (mVar 4) (mVar 8)) (mNil)))) (env := [some (.tok 0), P1, P2, P3, some (.lst (o.map .int)), e5, some (.int kd), e7, some (.int (p : Int)), some (.int (q : Int)), e10]) (st := s2) (ds := o.map .int) (a := .int o[q]) (c := .int o[p]) rfl (by simp only [ev, bind_ok, bind_err, get?, ret_ok, List.set_cons_zero, List.set_cons_succ, if_true, if_false, ite_true, ite_false, Bool.false_eq_true, Bool.not_true, Bool.not_false, Bool.and_true, Bool.true_and, Bool.and_false, Bool.false_and, decide_true, decide_false, not_true_eq_false, not_false_eq_true, ap, aq]) rfl (by rw [List.length_map]; exact hp') rfl (by rw [List.length_map]; exact hq')
        have both := mSeq_of (b := mSeq (mSet 9 (mCall m__law_draw (mCons (mVar 0) (mCons (mCall1 (c1 dLen) (mCons (mVar 4) mNil)) (mNil))))) (mSwapI 4 (mVar 8) (mVar 9) (mTup (mCons (mIx (mVar 4) (mVar 9)) (mCons (mIx (mVar 4) (mVar 8)) (mNil)))))) m0
        rw [mSeq_of m1, m2] at both
        rw [mIfS_t (s := st) (by simp only [ev, bind_ok, bind_err, get?, ret_ok, List.set_cons_zero, List.set_cons_succ, if_true, if_false, ite_true, ite_false, Bool.false_eq_true, Bool.not_true, Bool.not_false, Bool.and_true, Bool.true_and, Bool.and_false, Bool.false_and, decide_true, decide_false, not_true_eq_false, not_false_eq_true, List.length_map, dh, dk]), both]
        simp only [List.map_set, List.set_cons_zero, List.set_cons_succ]
      · exact (Lets.set ho (ho _ (List.getElem_mem hq'))).set (ho _ (List.getElem_mem hp'))
    · have dk : decide (kd = 2) = false := decide_eq_false k
      exact ⟨o, e8, e9, st, by simp only [ev, bind_ok, bind_err, get?, ret_ok, List.set_cons_zero, List.set_cons_succ, if_true, if_false, ite_true, ite_false, Bool.false_eq_true, Bool.not_true, Bool.not_false, Bool.and_true, Bool.true_and, Bool.and_false, Bool.false_and, decide_true, decide_false, not_true_eq_false, not_false_eq_true, List.length_map, dh, dk], hs, ho, hl⟩
  · have dh : decide (1 < (o.length : Int)) = false := decide_eq_false h
    exact ⟨o, e8, e9, st, by simp only [ev, bind_ok, bind_err, get?, ret_ok, List.set_cons_zero, List.set_cons_succ, if_true, if_false, ite_true, ite_false, Bool.false_eq_true, Bool.not_true, Bool.not_false, Bool.and_true, Bool.true_and, Bool.and_false, Bool.false_and, decide_true, decide_false, not_true_eq_false, not_false_eq_true, List.length_map, dh], hs, ho, hl⟩
theorem catI40 (a b : List D) (h : a.length + b.length ≤ 100) (st : List D) : cat? (.lst a) (.lst b) st = .ok (a ++ b) st := by
  show (if a.length + b.length ≤ sizeLine then _ else _) = _
  rw [if_pos (Nat.le_trans h (by decide))]
theorem piece3 {o : List Int} (ho : Lets o) (hl : o.length ≤ 7) (st : List D) (hs : HandOk st) :
    ∃ o' s', (mIfS (mTest (mOp dEq (mVar 6) (mC (.int 3)))) (mSetF 4 (mCat (mVar 4) (mLst (mCons (mOp dSub (mCall m__law_draw (mCons (mVar 0) (mCons (mC (.int 6)) (mNil)))) (mC (.int 1))) (mNil))))) (mNx)) [some (.tok 0), P1, P2, P3, some (.lst (o.map .int)), e5, some (.int kd), e7, e8, e9, e10] st
      = .nx [some (.tok 0), P1, P2, P3, some (.lst (o'.map .int)), e5, some (.int kd), e7, e8, e9, e10] s' ∧ HandOk s' ∧ Lets o' ∧ o'.length ≤ 8 := by
  by_cases k : kd = 3
  · have dk : decide (kd = 3) = true := decide_eq_true k
    obtain ⟨r, s1, hr, h1, d1⟩ := drw (n := 6) (by decide) (by decide) st hs
    refine ⟨o ++ [(r : Int) - 1], s1, ?_, h1, ?_, ?_⟩
    · have c := catI40 (o.map D.int) [.int ((r : Int) - 1)] (by rw [List.length_map, List.length_singleton]; omega) s1
      have m : mSetF 4 (mCat (mVar 4) (mLst (mCons (mOp dSub (mCall m__law_draw (mCons (mVar 0) (mCons (mC (.int 6)) (mNil)))) (mC (.int 1))) (mNil)))) [some (.tok 0), P1, P2, P3, some (.lst (o.map .int)), e5, some (.int kd), e7, e8, e9, e10] st = .nx [some (.tok 0), P1, P2, P3, some (.lst (o.map .int ++ [.int ((r : Int) - 1)])), e5, some (.int kd), e7, e8, e9, e10] s1 :=
        mSetF_of (by simp only [ev, bind_ok, bind_err, get?, ret_ok, List.set_cons_zero, List.set_cons_succ, if_true, if_false, ite_true, ite_false, Bool.false_eq_true, Bool.not_true, Bool.not_false, Bool.and_true, Bool.true_and, Bool.and_false, Bool.false_and, decide_true, decide_false, not_true_eq_false, not_false_eq_true, d1, c])
      rw [mIfS_t (s := st) (by simp only [ev, bind_ok, bind_err, get?, ret_ok, List.set_cons_zero, List.set_cons_succ, if_true, if_false, ite_true, ite_false, Bool.false_eq_true, Bool.not_true, Bool.not_false, Bool.and_true, Bool.true_and, Bool.and_false, Bool.false_and, decide_true, decide_false, not_true_eq_false, not_false_eq_true, dk]), m]
      simp only [List.map_append, List.map_cons, List.map_nil]
    · intro x hx
      rcases List.mem_append.mp hx with q | q
      · exact ho x q
      · rw [List.mem_singleton] at q
        rw [q]
        exact ⟨by omega, by omega⟩
    · rw [List.length_append, List.length_singleton]; omega
  · have dk : decide (kd = 3) = false := decide_eq_false k
    exact ⟨o, st, by simp only [ev, bind_ok, bind_err, get?, ret_ok, List.set_cons_zero, List.set_cons_succ, if_true, if_false, ite_true, ite_false, Bool.false_eq_true, Bool.not_true, Bool.not_false, Bool.and_true, Bool.true_and, Bool.and_false, Bool.false_and, decide_true, decide_false, not_true_eq_false, not_false_eq_true, dk], hs, ho, by omega⟩
end
end My

namespace My
open PySem PySem.Spec PyProof.Rows L2 DL
/-! k40: short words, whole -/
section
variable {w : List Int} {S : List (List Int)}
theorem ne_bl40 (a b : Bool) : dNe (.bl a) (.bl b) = some (.bl (!decide (a = b))) := by
  rw [dNe_of (.bl 0 a) (.bl 0 b), eqv_bl]
theorem lets_ok {o : List Int} (ho : Lets o) (hl : o.length ≤ 8) : WordOk o := ⟨by omega, fun i hi => by have := ho i hi; exact ⟨by omega, by omega⟩⟩
theorem short_round (hw : SmallW w) (hS : ∀ v, v ∈ S ↔ EqvH w v) {e3 e4 e5 e6 e7 e8 e9 e10 : Option D} (st : List D) (hs : HandOk st) :
    ∃ f4 f6 f7 f8 f9 f10 s', bd_law_short_right_3 [some (.tok 0), some (wT w), some (.lst (S.map wT)), e3, e4, e5, e6, e7, e8, e9, e10] st = .nx [some (.tok 0), some (wT w), some (.lst (S.map wT)), e3, f4, e5, f6, f7, f8, f9, f10] s' ∧ HandOk s' := by
  obtain ⟨kd, s1, _, h1, d1⟩ := drw (n := 4) (by decide) (by decide) st hs
  obtain ⟨o0, s2, p0, h2, a0, l0⟩ := piece0 (P1 := some (wT w)) (P2 := some (.lst (S.map wT))) (P3 := e3) (e5 := e5) (e7 := e7) (e8 := e8) (e9 := e9) (e10 := e10) (kd := (kd : Int)) (o := w) hw.2 hw.1 s1 h1
  obtain ⟨o1, x7, s3, p1, h3, a1, l1⟩ := piece1 (P1 := some (wT w)) (P2 := some (.lst (S.map wT))) (P3 := e3) (e5 := e5) (e7 := e7) (e8 := e8) (e9 := e9) (e10 := e10) (kd := (kd : Int)) a0 l0 s2 h2
  obtain ⟨o2, x8, x9, s4, p2, h4, a2, l2⟩ := piece2 (P1 := some (wT w)) (P2 := some (.lst (S.map wT))) (P3 := e3) (e5 := e5) (e7 := x7) (e8 := e8) (e9 := e9) (e10 := e10) (kd := (kd : Int)) a1 l1 s3 h3
  obtain ⟨o, s5, p3, h5, a, l⟩ := piece3 (P1 := some (wT w)) (P2 := some (.lst (S.map wT))) (P3 := e3) (e5 := e5) (e7 := x7) (e8 := x8) (e9 := x9) (e10 := e10) (kd := (kd : Int)) a2 l2 s4 h4
  have u0 : mSetF 4 (mThenA (mCons (mVar 1) (mNil)) lst1?) [some (.tok 0), some (wT w), some (.lst (S.map wT)), e3, e4, e5, e6, e7, e8, e9, e10] st = .nx [some (.tok 0), some (wT w), some (.lst (S.map wT)), e3, some (.lst (w.map .int)), e5, e6, e7, e8, e9, e10] st := rfl
  have u1 : mSet 6 (mCall m__law_draw (mCons (mVar 0) (mCons (mC (.int 4)) (mNil)))) [some (.tok 0), some (wT w), some (.lst (S.map wT)), e3, some (.lst (w.map .int)), e5, e6, e7, e8, e9, e10] st = .nx [some (.tok 0), some (wT w), some (.lst (S.map wT)), e3, some (.lst (w.map .int)), e5, some (.int (kd : Int)), e7, e8, e9, e10] s1 :=
    mSet_of (by simp only [ev, bind_ok, bind_err, get?, ret_ok, List.set_cons_zero, List.set_cons_succ, if_true, if_false, ite_true, ite_false, Bool.false_eq_true, Bool.not_true, Bool.not_false, Bool.and_true, Bool.true_and, Bool.and_false, Bool.false_and, decide_true, decide_false, not_true_eq_false, not_false_eq_true, d1])
  have inl := (in_lot o S).1
  have inl : dInA (.tup (o.map D.int)) (.lst (S.map wT)) = some (.bl (decide (o ∈ S))) := inl
  have u2 : mSet 10 (mOp dInA (mCall1 (c1 dTuple) (mCons (mVar 4) mNil)) (mVar 2)) [some (.tok 0), some (wT w), some (.lst (S.map wT)), e3, some (.lst (o.map .int)), e5, some (.int (kd : Int)), x7, x8, x9, e10] s5 = .nx [some (.tok 0), some (wT w), some (.lst (S.map wT)), e3, some (.lst (o.map .int)), e5, some (.int (kd : Int)), x7, x8, x9, some (.bl (decide (o ∈ S)))] s5 :=
    mSet_of (by simp only [ev, bind_ok, bind_err, get?, ret_ok, List.set_cons_zero, List.set_cons_succ, if_true, if_false, ite_true, ite_false, Bool.false_eq_true, Bool.not_true, Bool.not_false, Bool.and_true, Bool.true_and, Bool.and_false, Bool.false_and, decide_true, decide_false, not_true_eq_false, not_false_eq_true, inl])
  have q1 := e_same (seqT w) (seqL o) (SmallW.ok hw) (lets_ok a l) s5
  have q2 := e_same (G := .tup (o.map D.int)) (seqT o) (seqT w) (lets_ok a l) (SmallW.ok hw) s5
  have r1 : decide (leastH w = leastH o) = decide (o ∈ S) := decide_eq_decide.mpr (least_iff.trans (hS o).symm)
  have r2 : decide (leastH o = leastH w) = decide (o ∈ S) := decide_eq_decide.mpr (eq_comm.trans (least_iff.trans (hS o).symm))
  rw [r1] at q1
  rw [r2] at q2
  have nb : dNe (.bl (decide (o ∈ S))) (.bl (decide (o ∈ S))) = some (.bl false) := by rw [ne_bl40]; simp
  have u3 : (mIfS (mOr (mTest (mOp dNe (mCall m_same_history (mCons (mVar 1) (mCons (mVar 4) (mNil)))) (mVar 10))) (mTest (mOp dNe (mCall m_same_history (mCons (mCall1 (c1 dTuple) (mCons (mVar 4) (mNil))) (mCons (mVar 1) (mNil)))) (mVar 10)))) (mRet (mC (.bl false))) (mNx)) [some (.tok 0), some (wT w), some (.lst (S.map wT)), e3, some (.lst (o.map .int)), e5, some (.int (kd : Int)), x7, x8, x9, some (.bl (decide (o ∈ S)))] s5 = .nx [some (.tok 0), some (wT w), some (.lst (S.map wT)), e3, some (.lst (o.map .int)), e5, some (.int (kd : Int)), x7, x8, x9, some (.bl (decide (o ∈ S)))] s5 := by
    rw [mIfS_f (s := s5) (by simp only [ev, bind_ok, bind_err, get?, ret_ok, List.set_cons_zero, List.set_cons_succ, if_true, if_false, ite_true, ite_false, Bool.false_eq_true, Bool.not_true, Bool.not_false, Bool.and_true, Bool.true_and, Bool.and_false, Bool.false_and, decide_true, decide_false, not_true_eq_false, not_false_eq_true, q1, q2, nb])]
    rfl
  refine ⟨some (.lst (o.map .int)), some (.int (kd : Int)), x7, x8, x9, some (.bl (decide (o ∈ S))), s5, ?_, h5⟩
  unfold bd_law_short_right_3
  rw [mSeq_of u0, mSeq_of u1, mSeq_of p0, mSeq_of p1, mSeq_of p2, mSeq_of p3, mSeq_of u2, u3]
theorem short_loop3 (hw : SmallW w) (hS : ∀ v, v ∈ S ↔ EqvH w v) {e3 e4 e5 e6 e7 e8 e9 e10 : Option D} (st : List D) (hs : HandOk st) :
    ∃ env' s', F_law_short_right_3 [some (.tok 0), some (wT w), some (.lst (S.map wT)), e3, e4, e5, e6, e7, e8, e9, e10] st = .nx env' s' ∧ HandOk s' := by
  have rg := rng1_of (k := 4) (by decide) (by decide) st
  obtain ⟨env', s', hf, _, h⟩ := forD_inv (g := gNm 5) (body := bd_law_short_right_3)
    (fun env s => (∃ e4 e5 e6 e7 e8 e9 e10, env = [some (.tok 0), some (wT w), some (.lst (S.map wT)), e3, e4, e5, e6, e7, e8, e9, e10]) ∧ HandOk s) (fun _ => True)
    (by
      rintro d env s _ ⟨⟨e4, e5, e6, e7, e8, e9, e10, rfl⟩, hs⟩
      obtain ⟨f4, f6, f7, f8, f9, f10, s', e, h⟩ := short_round (e3 := e3) (e4 := e4) (e5 := some d) (e6 := e6) (e7 := e7) (e8 := e8) (e9 := e9) (e10 := e10) hw hS s hs
      exact ⟨_, _, s', rfl, e, ⟨f4, some d, f6, f7, f8, f9, f10, rfl⟩, h⟩)
    (rangeD 0 (4 : Int).toNat) [some (.tok 0), some (wT w), some (.lst (S.map wT)), e3, e4, e5, e6, e7, e8, e9, e10] st (fun _ _ => trivial) ⟨⟨e4, e5, e6, e7, e8, e9, e10, rfl⟩, hs⟩
  exact ⟨env', s', mFor_of (mThenA_of (xs := [.int 4]) (st1 := st) (by simp only [ev, bind_ok, bind_err, get?, ret_ok, List.set_cons_zero, List.set_cons_succ, if_true, if_false, ite_true, ite_false, Bool.false_eq_true, Bool.not_true, Bool.not_false, Bool.and_true, Bool.true_and, Bool.and_false, Bool.false_and, decide_true, decide_false, not_true_eq_false, not_false_eq_true]) rg) hf, h⟩
end
theorem isT_wT (w : List Int) : dIsi [wT w, .ty "tuple"] = some (.bl true) := rfl
theorem e_short (st : List D) (hs : HandOk st) : ∃ s', m__law_short_right [.tok 0] st = .ok (.bl true) s' ∧ HandOk s' := by
  obtain ⟨w, s1, dw, h1, hw⟩ := short_word st hs
  obtain ⟨S, lo, L, hS⟩ := e_lot (st := s1) hw
  have mn := min_lot L hS
  have mn : dMinTu (.lst (S.map wT)) = some (wT (leastH w)) := mn
  have l1 := least_ok (SmallW.ok hw) s1
  have n1 := ne_wT (leastH w) (leastH w)
  rw [decide_eq_true rfl] at n1
  have is := isT_wT (leastH w)
  obtain ⟨e4, g2⟩ := short_loop2 (e5 := none) (e6 := none) (e7 := none) (e8 := none) (e9 := none) (e10 := none) hw L none s1
  obtain ⟨env', s2, g3, h2⟩ := short_loop3 (e3 := some (wT (leastH w))) (e4 := e4) (e5 := none) (e6 := none) (e7 := none) (e8 := none) (e9 := none) (e10 := none) hw hS s1 h1
  have tw : dTuple (.lst (w.map D.int)) = some (wT w) := rfl
  have u1 : mSet 1 (mCall1 (c1 dTuple) (mCons (L_law_short_right_1) (mNil))) [some (.tok 0), none, none, none, none, none, none, none, none, none, none] st = .nx [some (.tok 0), some (wT w), none, none, none, none, none, none, none, none, none] s1 :=
    mSet_of (by simp only [ev, bind_ok, bind_err, get?, ret_ok, List.set_cons_zero, List.set_cons_succ, if_true, if_false, ite_true, ite_false, Bool.false_eq_true, Bool.not_true, Bool.not_false, Bool.and_true, Bool.true_and, Bool.and_false, Bool.false_and, decide_true, decide_false, not_true_eq_false, not_false_eq_true, dw]; rfl)
  have u2 : mSet 2 (mCall m__law_lot (mCons (mVar 1) (mNil))) [some (.tok 0), some (wT w), none, none, none, none, none, none, none, none, none] s1 = .nx [some (.tok 0), some (wT w), some (.lst (S.map wT)), none, none, none, none, none, none, none, none] s1 :=
    mSet_of (by simp only [ev, bind_ok, bind_err, get?, ret_ok, List.set_cons_zero, List.set_cons_succ, if_true, if_false, ite_true, ite_false, Bool.false_eq_true, Bool.not_true, Bool.not_false, Bool.and_true, Bool.true_and, Bool.and_false, Bool.false_and, decide_true, decide_false, not_true_eq_false, not_false_eq_true, lo])
  have u3 : mSet 3 (mCall1 (c1 dMinTu) (mCons (mVar 2) (mNil))) [some (.tok 0), some (wT w), some (.lst (S.map wT)), none, none, none, none, none, none, none, none] s1 = .nx [some (.tok 0), some (wT w), some (.lst (S.map wT)), some (wT (leastH w)), none, none, none, none, none, none, none] s1 :=
    mSet_of (by simp only [ev, bind_ok, bind_err, get?, ret_ok, List.set_cons_zero, List.set_cons_succ, if_true, if_false, ite_true, ite_false, Bool.false_eq_true, Bool.not_true, Bool.not_false, Bool.and_true, Bool.true_and, Bool.and_false, Bool.false_and, decide_true, decide_false, not_true_eq_false, not_false_eq_true, mn])
  have u4 : mOr (mTest (mOp dNe (mCall m_least_word (mCons (mVar 1) (mNil))) (mVar 3))) (mNot (mTru (mCall1 dIsi (mCons (mCall m_least_word (mCons (mCall1 (c1 dList) (mCons (mVar 1) (mNil))) (mNil))) (mCons (mC (.ty "tuple")) (mNil)))))) [some (.tok 0), some (wT w), some (.lst (S.map wT)), some (wT (leastH w)), none, none, none, none, none, none, none] s1 = .ok false s1 := by
    simp only [ev, bind_ok, bind_err, get?, ret_ok, List.set_cons_zero, List.set_cons_succ, if_true, if_false, ite_true, ite_false, Bool.false_eq_true, Bool.not_true, Bool.not_false, Bool.and_true, Bool.true_and, Bool.and_false, Bool.false_and, decide_true, decide_false, not_true_eq_false, not_false_eq_true, listT, l1.1, l1.2, n1, is]
  refine ⟨s2, ?_, h2⟩
  unfold m__law_short_right b__law_short_right
  rw [show fnM 11 _ [D.tok 0] st = outR (_) from fnM_eq (by simp)]
  simp only [mkEnv]
  rw [mSeq_of u1, mSeq_of u2, mSeq_of u3, seq_ifF56 u4, mSeq_of g2, mSeq_of g3]
  rfl
end My

namespace My
open PySem PySem.Spec PyProof.Rows L2 DL
/-! k40: long words -/
theorem flat_at : ∀ (w : List Int), FlatH w → ∀ (k : Nat) (hk : k + 1 < w.length), w[k] ≤ w[k + 1] + 1
  | [], _, k, hk => by simp at hk
  | [_], _, k, hk => by simp at hk
  | x :: y :: w, h, 0, hk => h.1
  | x :: y :: w, h, k + 1, hk => flat_at (y :: w) h.2 k (by simpa using hk)
theorem lcD_none {env : Env'} {g : MG} {mt : MT} {me : ME} {st : List D} : ∀ (ds : List D), (∀ d ∈ ds, ∃ env1, g d env = some env1 ∧ mt env1 st = .ok false st) → lcD env g mt me ds st = .ok [] st
  | [], _ => rfl
  | d :: ds, h => by
    obtain ⟨e1, a, b⟩ := h d List.mem_cons_self
    have ih := lcD_none (me := me) ds fun q hh => h q (List.mem_cons_of_mem _ hh)
    unfold lcD
    simp only [a]
    rw [b]
    simp only [noEr, bind_ok, Bool.false_eq_true, if_false]
    exact ih
theorem ne_lst40 (a : List Int) : dNe (.lst (a.map D.int)) (.lst (a.map D.int)) = some (.bl false) := by
  have h : ShA 0 (a.map D.int) := ShA.map (.int 0) a
  rw [dNe_of (Sh.lst h) (Sh.lst h), eqv_lst, eqvL_ints, decide_eq_true rfl]
  rfl
theorem sort_wT (w : List Int) : dSort (wT w) = some (.lst ((srtL w).map .int)) := by
  show (ints? (w.map D.int)).map (fun ns => D.lst ((srtL ns).map .int)) = _
  rw [ints_map]
  rfl
/-- a long word and one that exchanges led to -/
structure LongW (many wide : Nat) (w v : List Int) : Prop where
  ok : WordOk w
  len : w.length = many
  eq : EqvH w v
  lo : 4 ≤ wide
  hi : wide ≤ 40
  let_ : ∀ x ∈ w, x ≤ (wide : Int) - 2
theorem LongW.okv {many wide : Nat} {w v : List Int} (h : LongW many wide w v) : WordOk v := ⟨h.eq.length ▸ h.ok.1, fun i hi => h.ok.2 i (h.eq.perm.mem_iff.2 hi)⟩
theorem LongW.lenv {many wide : Nat} {w v : List Int} (h : LongW many wide w v) : v.length = many := h.eq.length ▸ h.len
section
variable {many wide : Nat} {w v : List Int} {e5 e6 e7 e8 e9 e10 : Option D}
/-- drawn exchanges -/
theorem long_step (h : LongW many wide w v) (st : List D) (hs : HandOk st) : ∃ v' f6 s', bd_law_long_right_2 [some (.tok 0), some (.int (many : Int)), some (.int (wide : Int)), some (wT w), some (wT v), e5, e6, e7, e8, e9, e10] st = .nx [some (.tok 0), some (.int (many : Int)), some (.int (wide : Int)), some (wT w), some (wT v'), e5, f6, e7, e8, e9, e10] s' ∧ HandOk s' ∧ LongW many wide w v' := by
  have lv := h.lenv
  have hm : many ≤ 800 := by have := h.okv.1; omega
  unfold bd_law_long_right_2
  by_cases c : 1 < (many : Int)
  · have dc : decide (1 < (many : Int)) = true := decide_eq_true c
    obtain ⟨q, s1, hq, h1, d1⟩ := drw (n := (many : Int) - 1) (by omega) (by omega) st hs
    have hq1 : q + 1 < v.length := by omega
    have i0 := ixT40 v (k := q) (by omega) s1
    have i1 := ixT40 v (k := q + 1) hq1 s1
    rw [Int.natCast_add] at i1
    have i1' : ixS (wT v) (.int ((q : Int) + 1)) s1 = .ok (.int v[q + 1]) s1 := i1
    have ap := e_apart v[q] v[q + 1] s1
    obtain ⟨x, y, ex, el⟩ := at_split v hq1
    have m1 : mSet 6 (mCall m__law_draw (mCons (mVar 0) (mCons (mOp dSub (mVar 1) (mC (.int 1))) (mNil)))) [some (.tok 0), some (.int (many : Int)), some (.int (wide : Int)), some (wT w), some (wT v), e5, e6, e7, e8, e9, e10] st = .nx [some (.tok 0), some (.int (many : Int)), some (.int (wide : Int)), some (wT w), some (wT v), e5, some (.int (q : Int)), e7, e8, e9, e10] s1 := mSet_of (by simp only [ev, bind_ok, bind_err, get?, ret_ok, List.set_cons_zero, List.set_cons_succ, if_true, if_false, ite_true, ite_false, Bool.false_eq_true, Bool.not_true, Bool.not_false, Bool.and_true, Bool.true_and, Bool.and_false, Bool.false_and, decide_true, decide_false, not_true_eq_false, not_false_eq_true, d1])
    rw [mIfS_t (s := st) (by simp only [ev, bind_ok, bind_err, get?, ret_ok, List.set_cons_zero, List.set_cons_succ, if_true, if_false, ite_true, ite_false, Bool.false_eq_true, Bool.not_true, Bool.not_false, Bool.and_true, Bool.true_and, Bool.and_false, Bool.false_and, decide_true, decide_false, not_true_eq_false, not_false_eq_true, dc]), mSeq_of m1]
    by_cases a : AprtH v[q] v[q + 1]
    · rw [decide_eq_true a] at ap
      have sw := e_swapped x y v[q] v[q + 1] (by
        have := congrArg List.length ex
        rw [List.length_append, List.length_cons, List.length_cons] at this
        omega) s1
      rw [← ex, el] at sw
      refine ⟨x ++ v[q + 1] :: v[q] :: y, some (.int (q : Int)), s1, ?_, h1, ⟨h.ok, h.len, ?_, h.lo, h.hi, h.let_⟩⟩
      · rw [mIfS_t (s := s1) (by simp only [ev, bind_ok, bind_err, get?, ret_ok, List.set_cons_zero, List.set_cons_succ, if_true, if_false, ite_true, ite_false, Bool.false_eq_true, Bool.not_true, Bool.not_false, Bool.and_true, Bool.true_and, Bool.and_false, Bool.false_and, decide_true, decide_false, not_true_eq_false, not_false_eq_true, i0, i1', ap])]
        exact mSet_of (by simp only [ev, bind_ok, bind_err, get?, ret_ok, List.set_cons_zero, List.set_cons_succ, if_true, if_false, ite_true, ite_false, Bool.false_eq_true, Bool.not_true, Bool.not_false, Bool.and_true, Bool.true_and, Bool.and_false, Bool.false_and, decide_true, decide_false, not_true_eq_false, not_false_eq_true, sw])
      · have e2 := eqv_swap x y a
        rw [← ex] at e2
        exact h.eq.trans e2
    · rw [decide_eq_false a] at ap
      refine ⟨v, some (.int (q : Int)), s1, ?_, h1, h⟩
      rw [mIfS_f (s := s1) (by simp only [ev, bind_ok, bind_err, get?, ret_ok, List.set_cons_zero, List.set_cons_succ, if_true, if_false, ite_true, ite_false, Bool.false_eq_true, Bool.not_true, Bool.not_false, Bool.and_true, Bool.true_and, Bool.and_false, Bool.false_and, decide_true, decide_false, not_true_eq_false, not_false_eq_true, i0, i1', ap])]
      rfl
  · have dc : decide (1 < (many : Int)) = false := decide_eq_false c
    refine ⟨v, e6, st, ?_, hs, h⟩
    rw [mIfS_f (s := st) (by simp only [ev, bind_ok, bind_err, get?, ret_ok, List.set_cons_zero, List.set_cons_succ, if_true, if_false, ite_true, ite_false, Bool.false_eq_true, Bool.not_true, Bool.not_false, Bool.and_true, Bool.true_and, Bool.and_false, Bool.false_and, decide_true, decide_false, not_true_eq_false, not_false_eq_true, dc])]
    rfl
theorem long_loop2 (h : LongW many wide w v) (st : List D) (hs : HandOk st) : ∃ v' f5 f6 s', F_law_long_right_2 [some (.tok 0), some (.int (many : Int)), some (.int (wide : Int)), some (wT w), some (wT v), e5, e6, e7, e8, e9, e10] st = .nx [some (.tok 0), some (.int (many : Int)), some (.int (wide : Int)), some (wT w), some (wT v'), f5, f6, e7, e8, e9, e10] s' ∧ HandOk s' ∧ LongW many wide w v' := by
  obtain ⟨r, s1, hr, h1, d1⟩ := drw (n := 41) (by decide) (by decide) st hs
  have rg := rng1_of (k := (r : Int)) (by omega) (by omega) s1
  obtain ⟨env', s', hf, ⟨v', f5, f6, rfl, hv'⟩, h2⟩ := forD_inv (g := gNm 5) (body := bd_law_long_right_2)
    (fun env s => (∃ v' f5 f6, env = [some (.tok 0), some (.int (many : Int)), some (.int (wide : Int)), some (wT w), some (wT v'), f5, f6, e7, e8, e9, e10] ∧ LongW many wide w v') ∧ HandOk s) (fun _ => True)
    (by
      rintro d env s _ ⟨⟨v', f5, f6, rfl, hv'⟩, hs⟩
      obtain ⟨v2, x6, s', e, h, l⟩ := long_step (e5 := some d) (e6 := f6) (e7 := e7) (e8 := e8) (e9 := e9) (e10 := e10) hv' s hs
      exact ⟨_, _, s', rfl, e, ⟨v2, some d, x6, rfl, l⟩, h⟩)
    (rangeD 0 (r : Int).toNat) [some (.tok 0), some (.int (many : Int)), some (.int (wide : Int)), some (wT w), some (wT v), e5, e6, e7, e8, e9, e10] s1 (fun _ _ => trivial) ⟨⟨v, e5, e6, rfl, h⟩, h1⟩
  exact ⟨v', f5, f6, s', mFor_of (mThenA_of (xs := [.int (r : Int)]) (st1 := s1) (by simp only [ev, bind_ok, bind_err, get?, ret_ok, List.set_cons_zero, List.set_cons_succ, if_true, if_false, ite_true, ite_false, Bool.false_eq_true, Bool.not_true, Bool.not_false, Bool.and_true, Bool.true_and, Bool.and_false, Bool.false_and, decide_true, decide_false, not_true_eq_false, not_false_eq_true, d1]) rg) hf, h2, hv'⟩
/-- no neighbours apart and falling -/
theorem long_falls (h : LongW many wide w v) (st : List D) : L_law_long_right_3 [some (.tok 0), some (.int (many : Int)), some (.int (wide : Int)), some (wT w), some (wT v), e5, e6, some (wT (leastH w)), e8, e9, e10] st = .ok (.lst []) st := by
  have hm : many ≤ 800 := by have := h.ok.1; have := h.len; omega
  have ll : (leastH w).length = many := (least_eqv w).length ▸ h.len
  have rg := rng1_of (k := (many : Int) - 1) (by omega) (by omega) st
  have e := lcD_none (env := [some (.tok 0), some (.int (many : Int)), some (.int (wide : Int)), some (wT w), some (wT v), none, e6, some (wT (leastH w)), e8, e9, e10]) (g := gNm 5) (mt := mAnd (mTru (mCall m__law_apart (mCons (mIx (mVar 7) (mVar 5)) (mCons (mIx (mVar 7) (mOp dAdd (mVar 5) (mC (.int 1)))) (mNil))))) (mTest (mOp dGt (mIx (mVar 7) (mVar 5)) (mIx (mVar 7) (mOp dAdd (mVar 5) (mC (.int 1))))))) (me := el_law_long_right_3) (st := st) (rangeD 0 ((many : Int) - 1).toNat) (by
    intro d hd
    obtain ⟨i, hi, rfl⟩ := List.mem_iff_getElem.mp hd
    rw [rangeD_at hi, Int.zero_add]
    rw [rangeD_len] at hi
    have hi1 : i + 1 < (leastH w).length := by omega
    have i0 := ixT40 (leastH w) (k := i) (by omega) st
    have i1 := ixT40 (leastH w) (k := i + 1) hi1 st
    rw [Int.natCast_add] at i1
    have i1' : ixS (wT (leastH w)) (.int ((i : Int) + 1)) st = .ok (.int (leastH w)[i + 1]) st := i1
    have ap := e_apart (leastH w)[i] (leastH w)[i + 1] st
    have fl := flat_at _ (least_flat w) i hi1
    refine ⟨_, rfl, ?_⟩
    by_cases a : AprtH (leastH w)[i] (leastH w)[i + 1]
    · rw [decide_eq_true a] at ap
      have dg : decide ((leastH w)[i + 1] < (leastH w)[i]) = false := decide_eq_false (by
        unfold AprtH at a
        omega)
      simp only [ev, bind_ok, bind_err, get?, ret_ok, List.set_cons_zero, List.set_cons_succ, if_true, if_false, ite_true, ite_false, Bool.false_eq_true, Bool.not_true, Bool.not_false, Bool.and_true, Bool.true_and, Bool.and_false, Bool.false_and, decide_true, decide_false, not_true_eq_false, not_false_eq_true, i0, i1', ap, dg]
    · rw [decide_eq_false a] at ap
      simp only [ev, bind_ok, bind_err, get?, ret_ok, List.set_cons_zero, List.set_cons_succ, if_true, if_false, ite_true, ite_false, Bool.false_eq_true, Bool.not_true, Bool.not_false, Bool.and_true, Bool.true_and, Bool.and_false, Bool.false_and, decide_true, decide_false, not_true_eq_false, not_false_eq_true, i0, i1', ap])
  exact mLC_of (mThenA_of (xs := [.int ((many : Int) - 1)]) (st1 := st) (by simp only [ev, bind_ok, bind_err, get?, ret_ok, List.set_cons_zero, List.set_cons_succ, if_true, if_false, ite_true, ite_false, Bool.false_eq_true, Bool.not_true, Bool.not_false, Bool.and_true, Bool.true_and, Bool.and_false, Bool.false_and, decide_true, decide_false, not_true_eq_false, not_false_eq_true]) rg) e (by simp)
/-- letters p and p + 1 -/
theorem long_prj4 {p : Int} (h : LongW many wide w v) (st : List D) : L_law_long_right_4 [some (.tok 0), some (.int (many : Int)), some (.int (wide : Int)), some (wT w), some (wT v), e5, e6, some (wT (leastH w)), some (.int p), e9, none] st = .ok (.lst ((prjH p w).map .int)) st := by
  have e := lcD_filterL (env := [some (.tok 0), some (.int (many : Int)), some (.int (wide : Int)), some (wT w), some (wT v), e5, e6, some (wT (leastH w)), some (.int p), e9, none]) (g := gNm 10) (mt := mOr (mTest (mOp dEq (mVar 10) (mVar 8))) (mTest (mOp dEq (mVar 10) (mOp dAdd (mVar 8) (mC (.int 1)))))) (me := el_law_long_right_4) (st := st) D.int (fun q => decide (q = p) || decide (q = p + 1)) w (by
    intro q _
    refine ⟨_, rfl, ?_, rfl⟩
    by_cases a : q = p
    · have da : decide (q = p) = true := decide_eq_true a
      simp only [ev, bind_ok, bind_err, get?, ret_ok, List.set_cons_zero, List.set_cons_succ, if_true, if_false, ite_true, ite_false, Bool.false_eq_true, Bool.not_true, Bool.not_false, Bool.and_true, Bool.true_and, Bool.and_false, Bool.false_and, decide_true, decide_false, not_true_eq_false, not_false_eq_true, da, Bool.true_or]
    · have da : decide (q = p) = false := decide_eq_false a
      simp only [ev, bind_ok, bind_err, get?, ret_ok, List.set_cons_zero, List.set_cons_succ, if_true, if_false, ite_true, ite_false, Bool.false_eq_true, Bool.not_true, Bool.not_false, Bool.and_true, Bool.true_and, Bool.and_false, Bool.false_and, decide_true, decide_false, not_true_eq_false, not_false_eq_true, da, Bool.false_or])
  refine mLC_of (mItems_of (x := wT w) (st1 := st) (by simp only [ev, bind_ok, bind_err, get?, ret_ok, List.set_cons_zero, List.set_cons_succ, if_true, if_false, ite_true, ite_false, Bool.false_eq_true, Bool.not_true, Bool.not_false, Bool.and_true, Bool.true_and, Bool.and_false, Bool.false_and, decide_true, decide_false, not_true_eq_false, not_false_eq_true]) rfl) e ?_
  rw [List.length_map]
  have := List.length_filter_le (fun q => decide (q = p) || decide (q = p + 1)) w
  have := h.ok.1
  unfold prjH
  omega
theorem long_prj5 {p : Int} (h : LongW many wide w v) (st : List D) : L_law_long_right_5 [some (.tok 0), some (.int (many : Int)), some (.int (wide : Int)), some (wT w), some (wT v), e5, e6, some (wT (leastH w)), some (.int p), e9, none] st = .ok (.lst ((prjH p w).map .int)) st := by
  have e := lcD_filterL (env := [some (.tok 0), some (.int (many : Int)), some (.int (wide : Int)), some (wT w), some (wT v), e5, e6, some (wT (leastH w)), some (.int p), e9, none]) (g := gNm 10) (mt := mOr (mTest (mOp dEq (mVar 10) (mVar 8))) (mTest (mOp dEq (mVar 10) (mOp dAdd (mVar 8) (mC (.int 1)))))) (me := el_law_long_right_5) (st := st) D.int (fun q => decide (q = p) || decide (q = p + 1)) (leastH w) (by
    intro q _
    refine ⟨_, rfl, ?_, rfl⟩
    by_cases a : q = p
    · have da : decide (q = p) = true := decide_eq_true a
      simp only [ev, bind_ok, bind_err, get?, ret_ok, List.set_cons_zero, List.set_cons_succ, if_true, if_false, ite_true, ite_false, Bool.false_eq_true, Bool.not_true, Bool.not_false, Bool.and_true, Bool.true_and, Bool.and_false, Bool.false_and, decide_true, decide_false, not_true_eq_false, not_false_eq_true, da, Bool.true_or]
    · have da : decide (q = p) = false := decide_eq_false a
      simp only [ev, bind_ok, bind_err, get?, ret_ok, List.set_cons_zero, List.set_cons_succ, if_true, if_false, ite_true, ite_false, Bool.false_eq_true, Bool.not_true, Bool.not_false, Bool.and_true, Bool.true_and, Bool.and_false, Bool.false_and, decide_true, decide_false, not_true_eq_false, not_false_eq_true, da, Bool.false_or])
  have e2 : (leastH w).filter (fun q => decide (q = p) || decide (q = p + 1)) = prjH p w := (least_eqv w p).symm
  rw [e2] at e
  refine mLC_of (mItems_of (x := wT (leastH w)) (st1 := st) (by simp only [ev, bind_ok, bind_err, get?, ret_ok, List.set_cons_zero, List.set_cons_succ, if_true, if_false, ite_true, ite_false, Bool.false_eq_true, Bool.not_true, Bool.not_false, Bool.and_true, Bool.true_and, Bool.and_false, Bool.false_and, decide_true, decide_false, not_true_eq_false, not_false_eq_true]) rfl) e ?_
  rw [List.length_map]
  have := List.length_filter_le (fun q => decide (q = p) || decide (q = p + 1)) w
  have := h.ok.1
  unfold prjH
  omega
theorem long_loop6 (h : LongW many wide w v) (st : List D) : ∃ f8, F_law_long_right_6 [some (.tok 0), some (.int (many : Int)), some (.int (wide : Int)), some (wT w), some (wT v), e5, e6, some (wT (leastH w)), e8, e9, none] st = .nx [some (.tok 0), some (.int (many : Int)), some (.int (wide : Int)), some (wT w), some (wT v), e5, e6, some (wT (leastH w)), f8, e9, none] st := by
  have hh := h.hi
  have rg := rng2_of (i := -1) (j := (wide : Int) - 1) (by decide) (by decide) (by omega) (by omega) st
  obtain ⟨env', hf, f8, rfl⟩ := forD_st (g := gNm 8) (body := bd_law_long_right_6) (rangeD (-1) ((wide : Int) - 1 - -1).toNat) st
    (fun _ env => ∃ f8, env = [some (.tok 0), some (.int (many : Int)), some (.int (wide : Int)), some (wT w), some (wT v), e5, e6, some (wT (leastH w)), f8, e9, none])
    (by
      rintro i hi env ⟨f8, rfl⟩
      rw [rangeD_at hi]
      have a1 := long_prj4 (e5 := e5) (e6 := e6) (e9 := e9) (p := -1 + (i : Int)) h st
      have a2 := long_prj5 (e5 := e5) (e6 := e6) (e9 := e9) (p := -1 + (i : Int)) h st
      have n := ne_lst40 (prjH (-1 + (i : Int)) w)
      refine ⟨_, _, rfl, ?_, some (.int (-1 + (i : Int))), rfl⟩
      show bd_law_long_right_6 [some (.tok 0), some (.int (many : Int)), some (.int (wide : Int)), some (wT w), some (wT v), e5, e6, some (wT (leastH w)), some (.int (-1 + (i : Int))), e9, none] st = _
      unfold bd_law_long_right_6
      rw [mIfS_f (s := st) (by simp only [ev, bind_ok, bind_err, get?, ret_ok, List.set_cons_zero, List.set_cons_succ, if_true, if_false, ite_true, ite_false, Bool.false_eq_true, Bool.not_true, Bool.not_false, Bool.and_true, Bool.true_and, Bool.and_false, Bool.false_and, decide_true, decide_false, not_true_eq_false, not_false_eq_true, a1, a2, n])]
      rfl)
    _ ⟨e8, rfl⟩
  exact ⟨f8, mFor_of (mThenA_of (xs := [.int (-1), .int ((wide : Int) - 1)]) (st1 := st) (by simp only [ev, bind_ok, bind_err, get?, ret_ok, List.set_cons_zero, List.set_cons_succ, if_true, if_false, ite_true, ite_false, Bool.false_eq_true, Bool.not_true, Bool.not_false, Bool.and_true, Bool.true_and, Bool.and_false, Bool.false_and, decide_true, decide_false, not_true_eq_false, not_false_eq_true]) rg) hf⟩
/-- an exchange keeps the history just if the letters are like or apart -/
theorem swap_same {x y : List Int} {a b : Int} (h : EqvH w (x ++ a :: b :: y)) : leastH (x ++ b :: a :: y) = leastH w ↔ (a = b ∨ AprtH a b) := by
  rw [least_iff]
  constructor
  · intro q
    by_cases e : a = b
    · exact .inl e
    · by_cases ap : AprtH a b
      · exact .inr ap
      · exact absurd (h.symm.trans q.symm) (eqv_near x y ap e)
  · rintro (rfl | q)
    · exact h.symm
    · exact ((h.trans (eqv_swap x y q))).symm
end
end My

namespace My
open PySem PySem.Spec PyProof.Rows L2 DL
/-! k40: long words, whole -/
section
variable {many wide : Nat} {w v : List Int} {e5 e6 e8 e9 : Option D}
theorem same_ok {G F : D} {u v : List Int} {b : Bool} (hG : SeqD G (u.map .int)) (hF : SeqD F (v.map .int)) (hu : WordOk u) (hv : WordOk v) (h : leastH u = leastH v ↔ b = true) (st : List D) : m_same_history [G, F] st = .ok (.bl b) st := by
  rw [e_same hG hF hu hv st]
  congr 2
  rw [Bool.eq_iff_iff, decide_eq_true_iff]
  exact h
theorem len_ne {u v : List Int} (h : u.length ≠ v.length) : leastH u = leastH v ↔ false = true := by
  rw [least_iff]
  exact ⟨fun q => absurd q.length h, fun q => by cases q⟩
theorem word_sub {u v : List Int} (h : WordOk v) (hl : u.length ≤ 800) (hs : ∀ x ∈ u, x ∈ v) : WordOk u := ⟨hl, fun i hi => h.2 i (hs i hi)⟩
theorem notB_f (b : Bool) : dNotB (.bl b) (.bl false) = some (.bl (!decide (b = false))) := rfl
theorem eq_bl40 (a b : Bool) : dEq (.bl a) (.bl b) = some (.bl (decide (a = b))) := by
  rw [dEq_of (.bl 0 a) (.bl 0 b), eqv_bl]
noncomputable def tailS : MS := mIfS (mTest (mOp dGt (mVar 1) (mC (.int 1)))) (mSeq (mSet 6 (mCall m__law_draw (mCons (mVar 0) (mCons (mOp dSub (mVar 1) (mC (.int 1))) (mNil)))))
    (mSeq (mSet 9 (mAndV (mOp dNe (mIx (mVar 4) (mVar 6)) (mIx (mVar 4) (mOp dAdd (mVar 6) (mC (.int 1))))) (mNotV (mCall m__law_apart (mCons (mIx (mVar 4) (mVar 6)) (mCons (mIx (mVar 4) (mOp dAdd (mVar 6) (mC (.int 1)))) (mNil)))))))
    (mSeq (mIfS (mTest (mOp dEq (mCall m_same_history (mCons (mCall m__law_swapped (mCons (mVar 4) (mCons (mVar 6) (mNil)))) (mCons (mVar 3) (mNil)))) (mVar 9))) (mRet (mC (.bl false))) (mNx))
    (mSeq (mIfS (mTest (mOp dNotB (mCall m_same_history (mCons (mOp dAdd (mSl (mVar 4) (mNo) (mPart (mVar 6))) (mSl (mVar 4) (mPart (mOp dAdd (mVar 6) (mC (.int 1)))) (mNo))) (mCons (mVar 3) (mNil)))) (mC (.bl false)))) (mRet (mC (.bl false))) (mNx))
    (mIfS (mIfT (mTest (mOp dLt (mVar 1) (mC (.int 800)))) (mTest (mOp dNotB (mCall m_same_history (mCons (mVar 3) (mCons (mOp dAdd (mOp dAdd (mSl (mVar 4) (mNo) (mPart (mVar 6))) (mTup (mCons (mIx (mVar 4) (mVar 6)) (mNil)))) (mSl (mVar 4) (mPart (mVar 6)) (mNo))) (mNil)))) (mC (.bl false)))) (mTru (mC (.bl false)))) (mRet (mC (.bl false))) (mNx)))))) (mNx)
theorem long_tail (h : LongW many wide w v) {e7 e10 : Option D} (st : List D) (hs : HandOk st) : ∃ env' s', tailS [some (.tok 0), some (.int (many : Int)), some (.int (wide : Int)), some (wT w), some (wT v), e5, e6, e7, e8, e9, e10] st = .nx env' s' ∧ HandOk s' := by
  have lv := h.lenv
  have hm : many ≤ 800 := by have := h.okv.1; omega
  unfold tailS
  by_cases c : 1 < (many : Int)
  · have dc : decide (1 < (many : Int)) = true := decide_eq_true c
    obtain ⟨q, s1, hq, h1, d1⟩ := drw (n := (many : Int) - 1) (by omega) (by omega) st hs
    have hq1 : q + 1 < v.length := by omega
    have i0 := ixT40 v (k := q) (by omega) s1
    have i1 := ixT40 v (k := q + 1) hq1 s1
    rw [Int.natCast_add] at i1
    have i1' : ixS (wT v) (.int ((q : Int) + 1)) s1 = .ok (.int v[q + 1]) s1 := i1
    have ap := e_apart v[q] v[q + 1] s1
    obtain ⟨x, y, ex, el⟩ := at_split v hq1
    have hxy : x.length + y.length + 2 = many := by
      have := congrArg List.length ex
      rw [List.length_append, List.length_cons, List.length_cons] at this
      omega
    have m1 : mSet 6 (mCall m__law_draw (mCons (mVar 0) (mCons (mOp dSub (mVar 1) (mC (.int 1))) (mNil)))) [some (.tok 0), some (.int (many : Int)), some (.int (wide : Int)), some (wT w), some (wT v), e5, e6, e7, e8, e9, e10] st = .nx [some (.tok 0), some (.int (many : Int)), some (.int (wide : Int)), some (wT w), some (wT v), e5, some (.int (q : Int)), e7, e8, e9, e10] s1 := mSet_of (by simp only [ev, bind_ok, bind_err, get?, ret_ok, List.set_cons_zero, List.set_cons_succ, if_true, if_false, ite_true, ite_false, Bool.false_eq_true, Bool.not_true, Bool.not_false, Bool.and_true, Bool.true_and, Bool.and_false, Bool.false_and, decide_true, decide_false, not_true_eq_false, not_false_eq_true, d1])
    obtain ⟨nr, hnr⟩ : ∃ nr : Bool, nr = !decide (v[q] = v[q + 1] ∨ AprtH v[q] v[q + 1]) := ⟨_, rfl⟩
    have m2 : mSet 9 (mAndV (mOp dNe (mIx (mVar 4) (mVar 6)) (mIx (mVar 4) (mOp dAdd (mVar 6) (mC (.int 1))))) (mNotV (mCall m__law_apart (mCons (mIx (mVar 4) (mVar 6)) (mCons (mIx (mVar 4) (mOp dAdd (mVar 6) (mC (.int 1)))) (mNil)))))) [some (.tok 0), some (.int (many : Int)), some (.int (wide : Int)), some (wT w), some (wT v), e5, some (.int (q : Int)), e7, e8, e9, e10] s1 = .nx [some (.tok 0), some (.int (many : Int)), some (.int (wide : Int)), some (wT w), some (wT v), e5, some (.int (q : Int)), e7, e8, some (.bl nr), e10] s1 := by
      refine mSet_of ?_
      by_cases e : v[q] = v[q + 1]
      · have de : decide (v[q] = v[q + 1]) = true := decide_eq_true e
        have hn : nr = false := by rw [hnr, decide_eq_true (.inl e)]; rfl
        rw [hn]
        simp only [ev, bind_ok, bind_err, get?, ret_ok, List.set_cons_zero, List.set_cons_succ, if_true, if_false, ite_true, ite_false, Bool.false_eq_true, Bool.not_true, Bool.not_false, Bool.and_true, Bool.true_and, Bool.and_false, Bool.false_and, decide_true, decide_false, not_true_eq_false, not_false_eq_true, i0, i1', de]
      · have de : decide (v[q] = v[q + 1]) = false := decide_eq_false e
        have hn : nr = !decide (AprtH v[q] v[q + 1]) := by
          rw [hnr]
          congr 1
          exact decide_eq_decide.mpr ⟨fun z => z.elim (fun z => absurd z e) id, .inr⟩
        rw [hn]
        simp only [ev, bind_ok, bind_err, get?, ret_ok, List.set_cons_zero, List.set_cons_succ, if_true, if_false, ite_true, ite_false, Bool.false_eq_true, Bool.not_true, Bool.not_false, Bool.and_true, Bool.true_and, Bool.and_false, Bool.false_and, decide_true, decide_false, not_true_eq_false, not_false_eq_true, i0, i1', de, ap]
    have sw := e_swapped x y v[q] v[q + 1] (by omega) s1
    rw [← ex, el] at sw
    have hsub : ∀ z ∈ x ++ v[q + 1] :: v[q] :: y, z ∈ v := by
      intro z hz
      rw [ex]
      simp only [List.mem_append, List.mem_cons] at hz ⊢
      rcases hz with hz | hz | hz | hz
      · exact .inl hz
      · exact .inr (.inr (.inl hz))
      · exact .inr (.inl hz)
      · exact .inr (.inr (.inr hz))
    have s3 : m_same_history [wT (x ++ v[q + 1] :: v[q] :: y), wT w] s1 = .ok (.bl (!nr)) s1 := by
      refine same_ok (seqT _) (seqT w) (word_sub h.okv (by rw [List.length_append, List.length_cons, List.length_cons]; omega) hsub) h.ok ?_ s1
      have e1 := h.eq
      rw [ex] at e1
      rw [swap_same e1, hnr]
      simp
    have n3 : dEq (.bl (!nr)) (.bl nr) = some (.bl false) := by
      rw [eq_bl40]
      cases nr <;> rfl
    have env0 : ∀ s, mVar 4 [some (.tok 0), some (.int (many : Int)), some (.int (wide : Int)), some (wT w), some (wT v), e5, some (.int (q : Int)), e7, e8, some (.bl nr), e10] s = .ok (.tup (v.map .int)) s := fun s => rfl
    have t1 := cut_take (v.map D.int) q
    have t2 := cut_drop (v.map D.int) (q + 1)
    have t3 := cut_drop (v.map D.int) q
    have t2 : DL.cutD (v.map D.int) (some ((q : Int) + 1)) none = (v.map D.int).drop (q + 1) := t2
    have p1 := mSl_tup40 (m := mVar 4) (l := mNo) (h := mPart (mVar 6)) (env0 s1) mNo_of (mPart_of (i := (q : Int)) (st := s1) (s1 := s1) (by simp only [ev, bind_ok, bind_err, get?, ret_ok, List.set_cons_zero, List.set_cons_succ, if_true, if_false, ite_true, ite_false, Bool.false_eq_true, Bool.not_true, Bool.not_false, Bool.and_true, Bool.true_and, Bool.and_false, Bool.false_and, decide_true, decide_false, not_true_eq_false, not_false_eq_true]))
    have p2 := mSl_tup40 (m := mVar 4) (l := mPart (mOp dAdd (mVar 6) (mC (.int 1)))) (h := mNo) (env0 s1) (mPart_of (i := (q : Int) + 1) (st := s1) (s1 := s1) (by simp only [ev, bind_ok, bind_err, get?, ret_ok, List.set_cons_zero, List.set_cons_succ, if_true, if_false, ite_true, ite_false, Bool.false_eq_true, Bool.not_true, Bool.not_false, Bool.and_true, Bool.true_and, Bool.and_false, Bool.false_and, decide_true, decide_false, not_true_eq_false, not_false_eq_true])) mNo_of
    have p3 := mSl_tup40 (m := mVar 4) (l := mPart (mVar 6)) (h := mNo) (env0 s1) (mPart_of (i := (q : Int)) (st := s1) (s1 := s1) (by simp only [ev, bind_ok, bind_err, get?, ret_ok, List.set_cons_zero, List.set_cons_succ, if_true, if_false, ite_true, ite_false, Bool.false_eq_true, Bool.not_true, Bool.not_false, Bool.and_true, Bool.true_and, Bool.and_false, Bool.false_and, decide_true, decide_false, not_true_eq_false, not_false_eq_true])) mNo_of
    rw [t1, ← List.map_take] at p1
    rw [t2, ← List.map_drop] at p2
    rw [t3, ← List.map_drop] at p3
    have a1 := addT40 ((v.take q).map D.int) ((v.drop (q + 1)).map D.int) (by rw [List.length_map, List.length_map, List.length_take, List.length_drop]; omega)
    have a2 := addT40 ((v.take q).map D.int) [.int v[q]] (by rw [List.length_map, List.length_take, List.length_singleton]; omega)
    have a3 := addT40 ((v.take q).map D.int ++ [.int v[q]]) ((v.drop q).map D.int) (by rw [List.length_append, List.length_map, List.length_map, List.length_take, List.length_drop, List.length_singleton]; omega)
    have s4 : m_same_history [.tup ((v.take q).map D.int ++ (v.drop (q + 1)).map D.int), wT w] s1 = .ok (.bl false) s1 := by
      refine same_ok (u := v.take q ++ v.drop (q + 1)) (.inr (by rw [List.map_append])) (seqT w) (word_sub h.okv (by rw [List.length_append, List.length_take, List.length_drop]; omega) ?_) h.ok (len_ne ?_) s1
      · intro z hz
        rcases List.mem_append.mp hz with z1 | z1
        · exact List.mem_of_mem_take z1
        · exact List.mem_of_mem_drop z1
      · rw [List.length_append, List.length_take, List.length_drop, h.len]; omega
    have n4 := notB_f false
    refine ⟨[some (.tok 0), some (.int (many : Int)), some (.int (wide : Int)), some (wT w), some (wT v), e5, some (.int (q : Int)), e7, e8, some (.bl nr), e10], s1, ?_, h1⟩
    rw [mIfS_t (s := st) (by simp only [ev, bind_ok, bind_err, get?, ret_ok, List.set_cons_zero, List.set_cons_succ, if_true, if_false, ite_true, ite_false, Bool.false_eq_true, Bool.not_true, Bool.not_false, Bool.and_true, Bool.true_and, Bool.and_false, Bool.false_and, decide_true, decide_false, not_true_eq_false, not_false_eq_true, dc]), mSeq_of m1, mSeq_of m2, seq_ifF56 (s := s1) (by simp only [ev, bind_ok, bind_err, get?, ret_ok, List.set_cons_zero, List.set_cons_succ, if_true, if_false, ite_true, ite_false, Bool.false_eq_true, Bool.not_true, Bool.not_false, Bool.and_true, Bool.true_and, Bool.and_false, Bool.false_and, decide_true, decide_false, not_true_eq_false, not_false_eq_true, sw, s3, n3]), seq_ifF56 (s := s1) (by simp only [ev, bind_ok, bind_err, get?, ret_ok, List.set_cons_zero, List.set_cons_succ, if_true, if_false, ite_true, ite_false, Bool.false_eq_true, Bool.not_true, Bool.not_false, Bool.and_true, Bool.true_and, Bool.and_false, Bool.false_and, decide_true, decide_false, not_true_eq_false, not_false_eq_true, p1, p2, a1, s4, n4])]
    by_cases d : (many : Int) < 800
    · have dd : decide ((many : Int) < 800) = true := decide_eq_true d
      have s5 : m_same_history [wT w, .tup ((v.take q).map D.int ++ [.int v[q]] ++ (v.drop q).map D.int)] s1 = .ok (.bl false) s1 := by
        refine same_ok (v := v.take q ++ [v[q]] ++ v.drop q) (seqT w) (.inr (by rw [List.map_append, List.map_append]; rfl)) h.ok (word_sub h.okv (by rw [List.length_append, List.length_append, List.length_take, List.length_drop, List.length_singleton]; omega) ?_) (len_ne ?_) s1
        · intro z hz
          rcases List.mem_append.mp hz with z1 | z1
          · rcases List.mem_append.mp z1 with z2 | z2
            · exact List.mem_of_mem_take z2
            · rw [List.mem_singleton] at z2
              exact z2 ▸ List.getElem_mem _
          · exact List.mem_of_mem_drop z1
        · rw [List.length_append, List.length_append, List.length_take, List.length_drop, List.length_singleton, h.len]; omega
      rw [mIfS_f (s := s1) (by simp only [ev, bind_ok, bind_err, get?, ret_ok, List.set_cons_zero, List.set_cons_succ, if_true, if_false, ite_true, ite_false, Bool.false_eq_true, Bool.not_true, Bool.not_false, Bool.and_true, Bool.true_and, Bool.and_false, Bool.false_and, decide_true, decide_false, not_true_eq_false, not_false_eq_true, ev10, dd, p1, p3, i0, a2, a3, s5, n4])]
      rfl
    · have dd : decide ((many : Int) < 800) = false := decide_eq_false d
      rw [mIfS_f (s := s1) (by simp only [ev, bind_ok, bind_err, get?, ret_ok, List.set_cons_zero, List.set_cons_succ, if_true, if_false, ite_true, ite_false, Bool.false_eq_true, Bool.not_true, Bool.not_false, Bool.and_true, Bool.true_and, Bool.and_false, Bool.false_and, decide_true, decide_false, not_true_eq_false, not_false_eq_true, ev10, dd])]
      rfl
  · have dc : decide (1 < (many : Int)) = false := decide_eq_false c
    refine ⟨[some (.tok 0), some (.int (many : Int)), some (.int (wide : Int)), some (wT w), some (wT v), e5, e6, e7, e8, e9, e10], st, ?_, hs⟩
    rw [mIfS_f (s := st) (by simp only [ev, bind_ok, bind_err, get?, ret_ok, List.set_cons_zero, List.set_cons_succ, if_true, if_false, ite_true, ite_false, Bool.false_eq_true, Bool.not_true, Bool.not_false, Bool.and_true, Bool.true_and, Bool.and_false, Bool.false_and, decide_true, decide_false, not_true_eq_false, not_false_eq_true, dc])]
    rfl
end
theorem long_many (st : List D) (hs : HandOk st) : ∃ (many : Nat) (s' : List D), mIf (mTest (mOp dEq (mCall m__law_draw (mCons (mVar 0) (mCons (mC (.int 16)) (mNil)))) (mC (.int 0)))) (mC (.int 800)) (mCall m__law_draw (mCons (mVar 0) (mCons (mC (.int 61)) (mNil)))) [some (.tok 0), none, none, none, none, none, none, none, none, none, none] st = .ok (.int (many : Int)) s' ∧ HandOk s' ∧ many ≤ 800 := by
  obtain ⟨r, s1, hr, h1, d1⟩ := drw (n := 16) (by decide) (by decide) st hs
  by_cases c : (r : Int) = 0
  · have dc : decide ((r : Int) = 0) = true := decide_eq_true c
    exact ⟨800, s1, by simp only [ev, bind_ok, bind_err, get?, ret_ok, List.set_cons_zero, List.set_cons_succ, if_true, if_false, ite_true, ite_false, Bool.false_eq_true, Bool.not_true, Bool.not_false, Bool.and_true, Bool.true_and, Bool.and_false, Bool.false_and, decide_true, decide_false, not_true_eq_false, not_false_eq_true, d1, dc]; rfl, h1, Nat.le_refl _⟩
  · have dc : decide ((r : Int) = 0) = false := decide_eq_false c
    obtain ⟨q, s2, hq, h2, d2⟩ := drw (n := 61) (by decide) (by decide) s1 h1
    exact ⟨q, s2, by simp only [ev, bind_ok, bind_err, get?, ret_ok, List.set_cons_zero, List.set_cons_succ, if_true, if_false, ite_true, ite_false, Bool.false_eq_true, Bool.not_true, Bool.not_false, Bool.and_true, Bool.true_and, Bool.and_false, Bool.false_and, decide_true, decide_false, not_true_eq_false, not_false_eq_true, d1, dc, d2], h2, by omega⟩
theorem long_wide {many : Nat} (st : List D) (hs : HandOk st) : ∃ (wide : Nat) (s' : List D), mIx (mLst (mCons (mC (.int 4)) (mCons (mC (.int 6)) (mCons (mC (.int 40)) (mNil))))) (mCall m__law_draw (mCons (mVar 0) (mCons (mC (.int 3)) (mNil)))) [some (.tok 0), some (.int (many : Int)), none, none, none, none, none, none, none, none, none] st = .ok (.int (wide : Int)) s' ∧ HandOk s' ∧ 4 ≤ wide ∧ wide ≤ 40 := by
  obtain ⟨r, s1, hr, h1, d1⟩ := drw (n := 3) (by decide) (by decide) st hs
  have l : lstOk [D.int 4, .int 6, .int 40] st = .ok (.lst [D.int 4, .int 6, .int 40]) st := lstOk_of (by simp) st
  obtain rfl | rfl | rfl : r = 0 ∨ r = 1 ∨ r = 2 := by omega
  · exact ⟨4, s1, by simp only [ev, bind_ok, bind_err, get?, ret_ok, List.set_cons_zero, List.set_cons_succ, if_true, if_false, ite_true, ite_false, Bool.false_eq_true, Bool.not_true, Bool.not_false, Bool.and_true, Bool.true_and, Bool.and_false, Bool.false_and, decide_true, decide_false, not_true_eq_false, not_false_eq_true, l, d1]; rfl, h1, by decide, by decide⟩
  · exact ⟨6, s1, by simp only [ev, bind_ok, bind_err, get?, ret_ok, List.set_cons_zero, List.set_cons_succ, if_true, if_false, ite_true, ite_false, Bool.false_eq_true, Bool.not_true, Bool.not_false, Bool.and_true, Bool.true_and, Bool.and_false, Bool.false_and, decide_true, decide_false, not_true_eq_false, not_false_eq_true, l, d1]; rfl, h1, by decide, by decide⟩
  · exact ⟨40, s1, by simp only [ev, bind_ok, bind_err, get?, ret_ok, List.set_cons_zero, List.set_cons_succ, if_true, if_false, ite_true, ite_false, Bool.false_eq_true, Bool.not_true, Bool.not_false, Bool.and_true, Bool.true_and, Bool.and_false, Bool.false_and, decide_true, decide_false, not_true_eq_false, not_false_eq_true, l, d1]; rfl, h1, by decide, by decide⟩
theorem long_word {many wide : Nat} (hm : many ≤ 800) (h4 : 4 ≤ wide) (h40 : wide ≤ 40) (st : List D) (hs : HandOk st) : ∃ (w : List Int) (s' : List D), L_law_long_right_1 [some (.tok 0), some (.int (many : Int)), some (.int (wide : Int)), none, none, none, none, none, none, none, none] st = .ok (.lst (w.map .int)) s' ∧ HandOk s' ∧ LongW many wide w w := by
  have rg := rng1_of (k := (many : Int)) (by omega) (by omega) st
  obtain ⟨w, s2, e, h2, l, hw⟩ := letters_drawn (env := [some (.tok 0), some (.int (many : Int)), some (.int (wide : Int)), none, none, none, none, none, none, none, none]) (i := 5) (me := el_law_long_right_1) (n := (wide : Int)) (by omega) (by omega) (by
    intro d st _
    refine ⟨_, rfl, fun r s dr => ?_⟩
    unfold el_law_long_right_1
    simp only [ev, bind_ok, bind_err, get?, ret_ok, List.set_cons_zero, List.set_cons_succ, if_true, if_false, ite_true, ite_false, Bool.false_eq_true, Bool.not_true, Bool.not_false, Bool.and_true, Bool.true_and, Bool.and_false, Bool.false_and, decide_true, decide_false, not_true_eq_false, not_false_eq_true, gNm, dr]) (rangeD 0 (many : Int).toNat) st hs
  rw [rangeD_len, Int.toNat_natCast] at l
  refine ⟨w, s2, ?_, h2, ⟨⟨by omega, fun x hx => by have := hw x hx; exact ⟨by omega, by omega⟩⟩, l, EqvH.refl w, h4, h40, fun x hx => (hw x hx).2⟩⟩
  exact mLC_of (mThenA_of (xs := [.int (many : Int)]) (st1 := st) (by simp only [ev, bind_ok, bind_err, get?, ret_ok, List.set_cons_zero, List.set_cons_succ, if_true, if_false, ite_true, ite_false, Bool.false_eq_true, Bool.not_true, Bool.not_false, Bool.and_true, Bool.true_and, Bool.and_false, Bool.false_and, decide_true, decide_false, not_true_eq_false, not_false_eq_true]) rg) e (by rw [List.length_map]; omega)
theorem e_long (st : List D) (hs : HandOk st) : ∃ s', m__law_long_right [.tok 0] st = .ok (.bl true) s' ∧ HandOk s' := by
  obtain ⟨many, s1, d1, h1, hm⟩ := long_many st hs
  obtain ⟨wide, s2, d2, h2, h4, h40⟩ := long_wide (many := many) s1 h1
  obtain ⟨w, s3, d3, h3, L0⟩ := long_word hm h4 h40 s2 h2
  obtain ⟨v, f5, f6, s4, g5, hh4, L⟩ := long_loop2 (e5 := none) (e6 := none) (e7 := none) (e8 := none) (e9 := none) (e10 := none) L0 s3 h3
  have lw := (least_ok L.ok s4).1
  have lv := (least_ok L.okv s4).1
  have q : leastH v = leastH w := (least_eq L.eq).symm
  have n1 := ne_wT (leastH v) (leastH w)
  rw [decide_eq_true q] at n1
  have sm : m_same_history [wT w, .lst (v.map .int)] s4 = .ok (.bl true) s4 := same_ok (seqT w) (seqL v) L.ok L.okv ⟨fun _ => rfl, fun _ => q.symm⟩ s4
  have n2 := notB_t true
  have n3 := ne_lst40 (srtL w)
  have so1 := sort_wT w
  have so2 := sort_wT (leastH w)
  rw [srt_of (least_eqv w).perm.symm] at so2
  have u1 : mSet 1 (mIf (mTest (mOp dEq (mCall m__law_draw (mCons (mVar 0) (mCons (mC (.int 16)) (mNil)))) (mC (.int 0)))) (mC (.int 800)) (mCall m__law_draw (mCons (mVar 0) (mCons (mC (.int 61)) (mNil))))) [some (.tok 0), none, none, none, none, none, none, none, none, none, none] st = .nx [some (.tok 0), some (.int (many : Int)), none, none, none, none, none, none, none, none, none] s1 := mSet_of d1
  have u2 : mSet 2 (mIx (mLst (mCons (mC (.int 4)) (mCons (mC (.int 6)) (mCons (mC (.int 40)) (mNil))))) (mCall m__law_draw (mCons (mVar 0) (mCons (mC (.int 3)) (mNil))))) [some (.tok 0), some (.int (many : Int)), none, none, none, none, none, none, none, none, none] s1 = .nx [some (.tok 0), some (.int (many : Int)), some (.int (wide : Int)), none, none, none, none, none, none, none, none] s2 := mSet_of d2
  have u3 : mSet 3 (mCall1 (c1 dTuple) (mCons (L_law_long_right_1) (mNil))) [some (.tok 0), some (.int (many : Int)), some (.int (wide : Int)), none, none, none, none, none, none, none, none] s2 = .nx [some (.tok 0), some (.int (many : Int)), some (.int (wide : Int)), some (wT w), none, none, none, none, none, none, none] s3 := mSet_of (by simp only [ev, bind_ok, bind_err, get?, ret_ok, List.set_cons_zero, List.set_cons_succ, if_true, if_false, ite_true, ite_false, Bool.false_eq_true, Bool.not_true, Bool.not_false, Bool.and_true, Bool.true_and, Bool.and_false, Bool.false_and, decide_true, decide_false, not_true_eq_false, not_false_eq_true, d3]; rfl)
  have u4 : mSet 4 (mVar 3) [some (.tok 0), some (.int (many : Int)), some (.int (wide : Int)), some (wT w), none, none, none, none, none, none, none] s3 = .nx [some (.tok 0), some (.int (many : Int)), some (.int (wide : Int)), some (wT w), some (wT w), none, none, none, none, none, none] s3 := rfl
  have u7 : mSet 7 (mCall m_least_word (mCons (mVar 3) (mNil))) [some (.tok 0), some (.int (many : Int)), some (.int (wide : Int)), some (wT w), some (wT v), f5, f6, none, none, none, none] s4 = .nx [some (.tok 0), some (.int (many : Int)), some (.int (wide : Int)), some (wT w), some (wT v), f5, f6, some (wT (leastH w)), none, none, none] s4 := mSet_of (by simp only [ev, bind_ok, bind_err, get?, ret_ok, List.set_cons_zero, List.set_cons_succ, if_true, if_false, ite_true, ite_false, Bool.false_eq_true, Bool.not_true, Bool.not_false, Bool.and_true, Bool.true_and, Bool.and_false, Bool.false_and, decide_true, decide_false, not_true_eq_false, not_false_eq_true, lw])
  have u8 : mOr (mTest (mOp dNe (mCall m_least_word (mCons (mVar 4) (mNil))) (mVar 7))) (mOr (mTest (mOp dNotB (mCall m_same_history (mCons (mVar 3) (mCons (mCall1 (c1 dList) (mCons (mVar 4) (mNil))) (mNil)))) (mC (.bl true)))) (mTest (mOp dNe (mCall1 (c1 dSort) (mCons (mVar 7) (mNil))) (mCall1 (c1 dSort) (mCons (mVar 3) (mNil)))))) [some (.tok 0), some (.int (many : Int)), some (.int (wide : Int)), some (wT w), some (wT v), f5, f6, some (wT (leastH w)), none, none, none] s4 = .ok false s4 := by
    simp only [ev, bind_ok, bind_err, get?, ret_ok, List.set_cons_zero, List.set_cons_succ, if_true, if_false, ite_true, ite_false, Bool.false_eq_true, Bool.not_true, Bool.not_false, Bool.and_true, Bool.true_and, Bool.and_false, Bool.false_and, decide_true, decide_false, not_true_eq_false, not_false_eq_true, lv, n1, listT, sm, n2, so1, so2, n3]
  have fl := long_falls (e5 := f5) (e6 := f6) (e8 := none) (e9 := none) (e10 := none) L s4
  have n0 := ne_nil40 []
  have u9 : mTest (mOp dNe (L_law_long_right_3) (mLst (mNil))) [some (.tok 0), some (.int (many : Int)), some (.int (wide : Int)), some (wT w), some (wT v), f5, f6, some (wT (leastH w)), none, none, none] s4 = .ok false s4 := by
    have n0 : dNe (.lst []) (.lst []) = some (.bl false) := n0
    simp only [ev, bind_ok, bind_err, get?, ret_ok, List.set_cons_zero, List.set_cons_succ, if_true, if_false, ite_true, ite_false, Bool.false_eq_true, Bool.not_true, Bool.not_false, Bool.and_true, Bool.true_and, Bool.and_false, Bool.false_and, decide_true, decide_false, not_true_eq_false, not_false_eq_true, fl, n0]
  obtain ⟨f8, g6⟩ := long_loop6 (e5 := f5) (e6 := f6) (e8 := none) (e9 := none) L s4
  obtain ⟨env', s5, gt, h5⟩ := long_tail (e5 := f5) (e6 := f6) (e7 := some (wT (leastH w))) (e8 := f8) (e9 := none) (e10 := none) L s4 hh4
  unfold tailS at gt
  refine ⟨s5, ?_, h5⟩
  unfold m__law_long_right b__law_long_right
  rw [show fnM 11 _ [D.tok 0] st = outR (_) from fnM_eq (by simp)]
  simp only [mkEnv]
  rw [mSeq_of u1, mSeq_of u2, mSeq_of u3, mSeq_of u4, mSeq_of g5, mSeq_of u7, seq_ifF56 u8, seq_ifF56 u9, mSeq_of g6, mSeq_of gt]
  rfl
end My

namespace My
open PySem PySem.Spec PyProof.Rows L2 DL
/-! k40: refusals -/
theorem okX40 : okX 1 "index" = true ∧ okX 1 "what" = true := by decide +kernel
theorem xfl40 {c : Nat} {f : Str} {d : D} {fs : List (Str × D)} {env : Env'} {i : Nat} {st : List D} (he : env[i]? = some (some (.obj c (("", .non) :: fs)))) (ok : okX c f = true) (lk : fs.lookup f = some d) : mXf okX i f env st = .ok d st := by
  unfold mXf
  rw [he]
  show (if okX c f = true then ret? (fs.lookup f) st else .bad) = _
  rw [if_pos ok, lk]; rfl
/-- what is told of a refusal -/
def tellR : Option (Int × Str) → List D
  | none => []
  | some (i, s) => [.tup [.int i, .str s]]
/-- how a suite ends -/
def EndsR (r : Option (Int × Str)) (ty : MS) (env : Env') (st : List D) : Prop := match r with
  | none => ty env st = .nx env st
  | some (i, s) => ty env st = .er (exW i s) env st
theorem try_step {r : Option (Int × Str)} {ty : MS} {A B : D} {l : List D} {st : List D} (hl : l.length < 10) (h : EndsR r ty [some A, some B, some (.lst l), none] st) : mTryAs clX_BadWord 3 ty (mPush 2 (mTup (mCons (mXf okX 3 "index") (mCons (mXf okX 3 "what") (mNil))))) [some A, some B, some (.lst l), none] st = .nx [some A, some B, some (.lst (l ++ tellR r)), none] st := by
  unfold mTryAs
  cases r with
  | none =>
    have h : ty [some A, some B, some (.lst l), none] st = .nx [some A, some B, some (.lst l), none] st := h
    rw [h]
    show Out.nx _ _ = _
    rw [show l ++ tellR none = l from List.append_nil l]
  | some q =>
    obtain ⟨i, s⟩ := q
    have h : ty [some A, some B, some (.lst l), none] st = .er (exW i s) [some A, some B, some (.lst l), none] st := h
    rw [h]
    show unX 3 ((mPush 2 (mTup (mCons (mXf okX 3 "index") (mCons (mXf okX 3 "what") (mNil))))) [some A, some B, some (.lst l), some (exObj (exW i s))] st) = _
    have xi := xfl40 (env := [some A, some B, some (.lst l), some (exObj (exW i s))]) (i := 3) (st := st) (f := "index") (d := .int i) rfl okX40.1 (by rw [DL.look_ne (by decide +kernel), DL.look_same])
    have xw := xfl40 (env := [some A, some B, some (.lst l), some (exObj (exW i s))]) (i := 3) (st := st) (f := "what") (d := .str s) rfl okX40.2 (DL.look_same _ _ _)
    have tp : tupOk [.int i, .str s] st = .ok (.tup [.int i, .str s]) st := tupOk_of (by simp) st
    have p : mPush 2 (mTup (mCons (mXf okX 3 "index") (mCons (mXf okX 3 "what") (mNil)))) [some A, some B, some (.lst l), some (exObj (exW i s))] st = .nx [some A, some B, some (.lst (l ++ [.tup [.int i, .str s]])), some (exObj (exW i s))] st := by
      simp only [ev, bind_ok, bind_err, get?, ret_ok, List.set_cons_zero, List.set_cons_succ, if_true, if_false, ite_true, ite_false, Bool.false_eq_true, Bool.not_true, Bool.not_false, Bool.and_true, Bool.true_and, Bool.and_false, Bool.false_and, decide_true, decide_false, not_true_eq_false, not_false_eq_true, xi, xw, tp, pushR_ok _ _ _ _ _ (show l.length < 100000 by omega)]
    rw [p]
    rfl
/-- what a call of a def says -/
def SaysR (r : Option (Int × Str)) (R : Res D) (st : List D) : Prop := match r with
  | none => ∃ d, R = .ok d st
  | some (i, s) => R = .err (exW i s) st
theorem ends_of {r : Option (Int × Str)} {me : ME} {env : Env'} {st : List D} (h : SaysR r (me env st) st) : EndsR r (mDrop me) env st := by
  cases r with
  | none =>
    obtain ⟨d, h⟩ := h
    show mDrop me env st = _
    unfold mDrop mDo
    rw [h]
  | some q =>
    obtain ⟨i, s⟩ := q
    have h : me env st = .err (exW i s) st := h
    show mDrop me env st = _
    unfold mDrop mDo
    rw [h]
theorem e_refused {A B : D} {b : Bool} {r1 r2 : Option (Int × Str)} {st : List D} (hb : dEq B (.lst []) = some (.bl b)) (h1 : SaysR r1 (m_same_history [A, B] st) st) (h2 : SaysR r2 (m_least_word [if b = true then A else B] st) st) : m__law_refused [A, B] st = .ok (.lst (tellR r1 ++ tellR r2)) st := by
  have t0 : mSetF 2 (mThenA (mNil) fits?) [some A, some B, none, none] st = .nx [some A, some B, some (.lst []), none] st := rfl
  have t1 := try_step (r := r1) (ty := ty_law_refused_1) (A := A) (B := B) (l := []) (st := st) (by simp) (ends_of (by
    have e : mCall m_same_history (mCons (mVar 0) (mCons (mVar 1) (mNil))) [some A, some B, some (.lst []), none] st = m_same_history [A, B] st := by simp only [ev, bind_ok, bind_err, get?, ret_ok, List.set_cons_zero, List.set_cons_succ, if_true, if_false, ite_true, ite_false, Bool.false_eq_true, Bool.not_true, Bool.not_false, Bool.and_true, Bool.true_and, Bool.and_false, Bool.false_and, decide_true, decide_false, not_true_eq_false, not_false_eq_true]
    rw [e]
    exact h1))
  have t2 := try_step (r := r2) (ty := ty_law_refused_2) (A := A) (B := B) (l := [] ++ tellR r1) (st := st) (by
    rcases r1 with _ | ⟨i, s⟩ <;> simp [tellR]) (ends_of (by
    have l0 : lstOk [] st = .ok (.lst []) st := rfl
    have e : mCall m_least_word (mCons (mIf (mTest (mOp dEq (mVar 1) (mLst (mNil)))) (mVar 0) (mVar 1)) (mNil)) [some A, some B, some (.lst ([] ++ tellR r1)), none] st = m_least_word [if b = true then A else B] st := by
      cases b with
      | true => simp only [ev, bind_ok, bind_err, get?, ret_ok, List.set_cons_zero, List.set_cons_succ, if_true, if_false, ite_true, ite_false, Bool.false_eq_true, Bool.not_true, Bool.not_false, Bool.and_true, Bool.true_and, Bool.and_false, Bool.false_and, decide_true, decide_false, not_true_eq_false, not_false_eq_true, hb, l0]
      | false => simp only [ev, bind_ok, bind_err, get?, ret_ok, List.set_cons_zero, List.set_cons_succ, if_true, if_false, ite_true, ite_false, Bool.false_eq_true, Bool.not_true, Bool.not_false, Bool.and_true, Bool.true_and, Bool.and_false, Bool.false_and, decide_true, decide_false, not_true_eq_false, not_false_eq_true, hb, l0]
    rw [e]
    exact h2))
  unfold m__law_refused b__law_refused
  rw [show fnM 4 _ [A, B] st = outR (_) from fnM_eq (by simp)]
  simp only [mkEnv]
  rw [mSeq_of t0, mSeq_of t1, mSeq_of t2]
  simp only [ev, bind_ok, bind_err, get?, ret_ok, List.set_cons_zero, List.set_cons_succ, if_true, if_false, ite_true, ite_false, Bool.false_eq_true, Bool.not_true, Bool.not_false, Bool.and_true, Bool.true_and, Bool.and_false, Bool.false_and, decide_true, decide_false, not_true_eq_false, not_false_eq_true, List.nil_append]
theorem says_least_bad {G : D} {i : Int} {s : Str} {st : List D} (h : m_check_plain [G] st = .err (exW i s) st) : SaysR (some (i, s)) (m_least_word [G] st) st := e_least_bad h
theorem says_same_bad1 {G F : D} {i : Int} {s : Str} {st : List D} (h : m_check_plain [G] st = .err (exW i s) st) : SaysR (some (i, s)) (m_same_history [G, F] st) st := e_same_bad1 h
theorem says_same_bad2 {G F : D} {u : List Int} {i : Int} {s : Str} {st : List D} (hG : SeqD G (u.map .int)) (hu : WordOk u) (h : m_check_plain [F] st = .err (exW i s) st) : SaysR (some (i, s)) (m_same_history [G, F] st) st := e_same_bad2 hG hu h
/-! told lists compared -/
theorem rf_told (i : Int) {s : Str} (hs : (toP (.str s)).canLay0 = true) : Rf (.tup [.int i, .str s]) :=
  ⟨(Sh.tup (k := 0) (.cons (.int 0 i) (.cons (.str 0 hs) .nil))).mono (by decide), by rw [eqv_tup, eqvL_cons, eqvL_cons, eqvL_nil, eqv_int, eqv_str]; simp⟩
theorem ne_told (i j : Int) {s t : Str} (hs : (toP (.str s)).canLay0 = true) (ht : (toP (.str t)).canLay0 = true) : dNe (.lst (tellR (some (i, s)) ++ tellR (some (j, t)))) (.lst [.tup [.int i, .str s], .tup [.int j, .str t]]) = some (.bl false) :=
  RfL.dNe (RfL.cons (rf_told i hs) (.cons (rf_told j ht) .nil))
theorem cl_pair : (toP (.str "pair")).canLay0 = true := by decide +kernel
theorem cl_word : (toP (.str "word")).canLay0 = true := by decide +kernel
/-! odd words -/
theorem set_split (w : List Int) {k : Nat} (hk : k < w.length) (d : D) : (w.map D.int).set k d = (w.take k).map .int ++ d :: (w.drop (k + 1)).map .int := by
  rw [List.set_eq_take_append_cons_drop, if_pos (by rw [List.length_map]; exact hk), List.map_take, List.map_drop]
theorem eq_nil_lst {xs : List D} {k : Nat} (h : ShA k xs) (hk : k ≤ 60) (hn : xs ≠ []) : dEq (.lst xs) (.lst []) = some (.bl false) := by
  rw [dEq_of (Sh.lst h) (Sh.lst (k := 0) .nil) (by omega) (by decide), eqv_lst]
  cases xs with
  | nil => exact absurd rfl hn
  | cons x xs => rfl
theorem ShA.all {k : Nat} : ∀ ds : List D, (∀ d ∈ ds, Sh k d) → ShA k ds
  | [], _ => .nil
  | d :: ds, h => .cons (h d List.mem_cons_self) (ShA.all ds fun x hx => h x (List.mem_cons_of_mem _ hx))
/-- what stands in an odd word's place -/
def OddL (d : D) : Prop := BadL d ∧ Sh 1 d
/-- what is no word -/
def NoneW (d : D) : Prop := NoWord d ∧ dEq d (.lst []) = some (.bl false)
theorem repD_ints : ∀ k : Nat, repD k [D.int 0] = (List.replicate k (0 : Int)).map D.int
  | 0 => rfl
  | k + 1 => by
    have ih := repD_ints k
    unfold repD at ih ⊢
    rw [List.replicate_succ, List.flatten_cons, ih, List.replicate_succ]
    rfl
theorem noneW_zeros : NoneW (.lst (repD 801 [.int 0])) := by
  refine ⟨.inr ⟨_, .inl rfl, by rw [rep_len]; decide⟩, ?_⟩
  rw [repD_ints]
  refine eq_nil_lst (k := 0) (ShA.map (.int 0) _) (by decide) ?_
  intro h
  have := congrArg List.length h
  rw [List.length_map, List.length_replicate] at this
  simp at this
theorem noneW_atom {d : D} (h : dIsi [d, .tup [.ty "list", .ty "tuple"]] = some (.bl false)) (hs : Sh 0 d) (he : eqv d (.lst []) = false) : NoneW d :=
  ⟨.inl h, by rw [dEq_of hs (Sh.lst (k := 0) .nil), he]⟩
theorem noneW_pick (r : Nat) (hr : r < 4) : ∃ d, NoneW d ∧ atI [.non, .int 5, .str "01", .lst (repD 801 [.int 0])] (r : Int) = some d := by
  obtain rfl | rfl | rfl | rfl : r = 0 ∨ r = 1 ∨ r = 2 ∨ r = 3 := by omega
  · exact ⟨.non, noneW_atom rfl (.non 0) rfl, DL.atI_nat (k := 0) (by simp)⟩
  · exact ⟨.int 5, noneW_atom rfl (.int 0 5) rfl, DL.atI_nat (k := 1) (by simp)⟩
  · exact ⟨.str "01", noneW_atom rfl (.str 0 (by decide +kernel)) rfl, DL.atI_nat (k := 2) (by simp)⟩
  · exact ⟨_, noneW_zeros, DL.atI_nat (k := 3) (by simp)⟩
theorem oddL_pick (r : Nat) (hr : r < 6) : ∃ d, OddL d ∧ atI [.int (-2), .int 39, .non, .bl true, .str "0", .tup [.int 0, .int 1]] (r : Int) = some d := by
  obtain rfl | rfl | rfl | rfl | rfl | rfl : r = 0 ∨ r = 1 ∨ r = 2 ∨ r = 3 ∨ r = 4 ∨ r = 5 := by omega
  · exact ⟨.int (-2), ⟨.inl ⟨_, rfl, by decide⟩, .int 1 _⟩, DL.atI_nat (k := 0) (by simp)⟩
  · exact ⟨.int 39, ⟨.inl ⟨_, rfl, by decide⟩, .int 1 _⟩, DL.atI_nat (k := 1) (by simp)⟩
  · exact ⟨.non, ⟨.inr (.inr rfl), .non 1⟩, DL.atI_nat (k := 2) (by simp)⟩
  · exact ⟨.bl true, ⟨.inr (.inl ⟨_, rfl⟩), .bl 1 _⟩, DL.atI_nat (k := 3) (by simp)⟩
  · exact ⟨.str "0", ⟨.inr (.inr rfl), .str 1 (by decide +kernel)⟩, DL.atI_nat (k := 4) (by simp)⟩
  · exact ⟨_, ⟨.inr (.inr rfl), .tup (.cons (.int 0 _) (.cons (.int 0 _) .nil))⟩, DL.atI_nat (k := 5) (by simp)⟩
end My

namespace My
open PySem PySem.Spec PyProof.Rows L2 DL
/-! k40: the law -/
theorem law_word (st : List D) (hs : HandOk st) (e0 : Option D) : ∃ (w : List Int) (s' : List D), L_law_1 [e0, some (.tok 0), none, none, none, none, none, none] st = .ok (.lst (w.map .int)) s' ∧ HandOk s' ∧ 1 ≤ w.length ∧ w.length ≤ 5 ∧ ∀ x ∈ w, LetOk x := by
  obtain ⟨r, s1, hr, h1, d1⟩ := drw (n := 5) (by decide) (by decide) st hs
  have rg := rng1_of (k := 1 + (r : Int)) (by omega) (by omega) s1
  obtain ⟨w, s2, e, h2, l, hw⟩ := letters_drawn (env := [e0, some (.tok 0), none, none, none, none, none, none]) (i := 7) (me := el_law_1) (n := 40) (by decide) (by decide) (by
    intro d st _
    refine ⟨_, rfl, fun r s dr => ?_⟩
    unfold el_law_1
    simp only [ev, bind_ok, bind_err, get?, ret_ok, List.set_cons_zero, List.set_cons_succ, if_true, if_false, ite_true, ite_false, Bool.false_eq_true, Bool.not_true, Bool.not_false, Bool.and_true, Bool.true_and, Bool.and_false, Bool.false_and, decide_true, decide_false, not_true_eq_false, not_false_eq_true, gNm, dr]) (rangeD 0 (1 + (r : Int)).toNat) s1 h1
  rw [rangeD_len] at l
  refine ⟨w, s2, ?_, h2, by omega, by omega, fun x hx => by have := hw x hx; exact ⟨by omega, by omega⟩⟩
  exact mLC_of (mThenA_of (xs := [.int (1 + (r : Int))]) (st1 := s1) (by simp only [ev, bind_ok, bind_err, get?, ret_ok, List.set_cons_zero, List.set_cons_succ, if_true, if_false, ite_true, ite_false, Bool.false_eq_true, Bool.not_true, Bool.not_false, Bool.and_true, Bool.true_and, Bool.and_false, Bool.false_and, decide_true, decide_false, not_true_eq_false, not_false_eq_true, d1]) rg) e (by rw [List.length_map]; omega)
theorem eq_nil_empty : dEq (.lst []) (.lst []) = some (.bl true) := RfL.nil.dEq
theorem hH : ∀ (ns : List Int), ns.length ≤ 63 → ∃ cells t, m__law_hand [.rol (ns.map .int)] [] = .ok (handD cells 0 0 t) [] ∧ ∃ st', b_law (some (.rol (ns.map .int)) :: some (.tok 0) :: List.replicate 6 none) [handD cells 0 0 t] = .rt (.bl true) st' := by
  intro ns hn
  obtain ⟨cells, t, hc, eh⟩ := e_hand ns hn
  refine ⟨cells, t, eh, ?_⟩
  have k0 : HandOk [handD cells 0 0 t] := ⟨cells, 0, 0, t, rfl, by omega, by omega, hc⟩
  obtain ⟨s0, hs0⟩ : ∃ s0, s0 = [handD cells 0 0 t] := ⟨_, rfl⟩
  obtain ⟨e0, he0⟩ : ∃ e0 : Option D, e0 = some (.rol (ns.map .int)) := ⟨_, rfl⟩
  rw [← hs0] at k0 ⊢
  rw [← he0]
  show RetT (b_law [e0, some (.tok 0), none, none, none, none, none, none] s0)
  obtain ⟨s1, d1, k1⟩ := e_short s0 k0
  obtain ⟨s2, d2, k2⟩ := e_long s1 k1
  obtain ⟨w, s3, d3, k3, w1, w5, wl⟩ := law_word s2 k2 e0
  obtain ⟨at_, s4, hat, k4, d4⟩ := drw (n := (w.length : Int)) (by omega) (by omega) s3 k3
  have hat' : at_ < w.length := by omega
  obtain ⟨r5, s5, hr5, k5, d5⟩ := drw (n := 6) (by decide) (by decide) s4 k4
  obtain ⟨od, ⟨bad, shd⟩, a5⟩ := oddL_pick r5 (by omega)
  obtain ⟨r6, s6, hr6, k6, d6⟩ := drw (n := 4) (by decide) (by decide) s5 k5
  obtain ⟨nn, ⟨nw, neq⟩, a6⟩ := noneW_pick r6 (by omega)
  have wok : WordOk w := ⟨by omega, wl⟩
  have len1 : dLen (.lst (w.map D.int)) = some (.int (w.length : Nat)) := len40 w
  have tl2 : ∀ st, tupOk [.int (at_ : Int), .str "pair"] st = .ok (.tup [.int (at_ : Int), .str "pair"]) st := fun st => tupOk_of (by simp) st
  have tw2 : ∀ st, tupOk [.int 0, .str "word"] st = .ok (.tup [.int 0, .str "word"]) st := fun st => tupOk_of (by simp) st
  have t01 : tupOk [.int 0, .int 1] s4 = .ok (.tup [.int 0, .int 1]) s4 := tupOk_of (by simp) s4
  have l6 : lstOk [.int (-2), .int 39, .non, .bl true, .str "0", .tup [.int 0, .int 1]] s4 = .ok (.lst [.int (-2), .int 39, .non, .bl true, .str "0", .tup [.int 0, .int 1]]) s4 := lstOk_of (by simp) s4
  have l4 : lstOk [.non, .int 5, .str "01", .lst (repD 801 [.int 0])] s5 = .ok (.lst [.non, .int 5, .str "01", .lst (repD 801 [.int 0])]) s5 := lstOk_of (by simp) s5
  have rp : dMul (.lst [.int 0]) (.int 801) = some (.lst (repD 801 [.int 0])) := repL (k := 801) (by decide)
  have l0 : ∀ st, lstOk [] st = .ok (.lst []) st := fun st => rfl
  have l1 : ∀ (x : D) st, lstOk [x] st = .ok (.lst [x]) st := fun x st => lstOk_of (by simp) st
  have l2 : ∀ (x y : D) st, lstOk [x, y] st = .ok (.lst [x, y]) st := fun x y st => lstOk_of (by simp) st
  -- the odd word
  obtain ⟨od1, ho1⟩ : ∃ o, o = (w.map D.int).set at_ od := ⟨_, rfl⟩
  have sp : od1 = (w.take at_).map .int ++ od :: (w.drop (at_ + 1)).map .int := ho1.trans (set_split w hat' od)
  have lo1 : od1.length = w.length := by rw [ho1, List.length_set, List.length_map]
  have good : ∀ i ∈ w.take at_, LetOk i := fun i hi => wl i (List.mem_of_mem_take hi)
  have lt : (w.take at_).length = at_ := by rw [List.length_take]; omega
  have c1' : m_check_plain [.lst od1] s5 = .err (exW at_ "pair") s5 := by
    have := e_plain_pair (G := .lst od1) (w := w.take at_) (d := od) (r := (w.drop (at_ + 1)).map .int) (.inl (by rw [sp])) (by rw [← sp, lo1]; omega) good bad s5
    rwa [lt] at this
  have c6 : m_check_plain [.lst od1] s6 = .err (exW at_ "pair") s6 := by
    have := e_plain_pair (G := .lst od1) (w := w.take at_) (d := od) (r := (w.drop (at_ + 1)).map .int) (.inl (by rw [sp])) (by rw [← sp, lo1]; omega) good bad s6
    rwa [lt] at this
  have c2' : m_check_plain [.lst (od1 ++ [.int 99])] s5 = .err (exW at_ "pair") s5 := by
    have := e_plain_pair (G := .lst (od1 ++ [.int 99])) (w := w.take at_) (d := od) (r := (w.drop (at_ + 1)).map .int ++ [.int 99]) (.inl (by rw [sp]; simp)) (by
      have : ((w.take at_).map D.int ++ od :: ((w.drop (at_ + 1)).map .int ++ [.int 99])).length = od1.length + 1 := by
        rw [sp]
        simp only [List.length_append, List.length_cons, List.length_nil]
        omega
      rw [this, lo1]; omega) good bad s5
    rwa [lt] at this
  have cn : m_check_plain [nn] s6 = .err (exW 0 "word") s6 := e_plain_word nw s6
  have sho : ShA 1 od1 := by
    rw [sp]
    refine ShA.all _ fun d hd => ?_
    rcases List.mem_append.mp hd with q | q
    · obtain ⟨i, _, rfl⟩ := List.mem_map.mp q
      exact .int 1 i
    · rcases List.mem_cons.mp q with q | q
      · exact q ▸ shd
      · obtain ⟨i, _, rfl⟩ := List.mem_map.mp q
        exact .int 1 i
  have sho9 : ShA 1 (od1 ++ [.int 99]) := ShA.all _ fun d hd => by
    rcases List.mem_append.mp hd with q | q
    · rw [sp] at q
      rcases List.mem_append.mp q with q | q
      · obtain ⟨i, _, rfl⟩ := List.mem_map.mp q
        exact .int 1 i
      · rcases List.mem_cons.mp q with q | q
        · exact q ▸ shd
        · obtain ⟨i, _, rfl⟩ := List.mem_map.mp q
          exact .int 1 i
    · rw [List.mem_singleton] at q
      exact q ▸ .int 1 99
  have r1 := e_refused (A := .lst od1) (B := .lst []) (b := true) (r1 := some ((at_ : Int), "pair")) (r2 := some ((at_ : Int), "pair")) (st := s5) eq_nil_empty (says_same_bad1 c1') (says_least_bad c1')
  have r2 := e_refused (A := .lst (w.map .int)) (B := .lst (od1 ++ [D.int 99])) (b := false) (r1 := some ((at_ : Int), "pair")) (r2 := some ((at_ : Int), "pair")) (st := s5) (eq_nil_lst sho9 (by decide) (by simp)) (says_same_bad2 (.inl rfl) wok c2') (says_least_bad c2')
  have r3 := e_refused (A := nn) (B := .lst []) (b := true) (r1 := some (0, "word")) (r2 := some (0, "word")) (st := s6) eq_nil_empty (says_same_bad1 cn) (says_least_bad cn)
  have r4 := e_refused (A := .lst od1) (B := nn) (b := false) (r1 := some ((at_ : Int), "pair")) (r2 := some (0, "word")) (st := s6) neq (says_same_bad1 c6) (says_least_bad cn)
  have r5' := e_refused (A := .lst (w.map .int)) (B := .lst (w.map .int)) (b := false) (r1 := none) (r2 := none) (st := s6) (eq_nil_lst (k := 0) (ShA.map (.int 0) w) (by decide) (by
    intro h
    have := congrArg List.length h
    rw [List.length_map, List.length_nil] at this
    omega)) ⟨_, e_same (.inl rfl) (.inl rfl) wok wok s6⟩ ⟨_, e_least (.inl rfl) wok s6⟩
  have n1 := ne_told (at_ : Int) (at_ : Int) cl_pair cl_pair
  have n2 := ne_told 0 0 cl_word cl_word
  have n3 := ne_told (at_ : Int) 0 cl_pair cl_word
  have ad := addL od1 [.int 99] (by rw [lo1, List.length_singleton]; omega)
  have en : dEq (.lst (tellR none ++ tellR none)) (.lst []) = some (.bl true) := eq_nil_empty
  have u1 : mOr (mNot (mTru (mCall m__law_short_right (mCons (mVar 1) (mNil))))) (mNot (mTru (mCall m__law_long_right (mCons (mVar 1) (mNil))))) [e0, some (.tok 0), none, none, none, none, none, none] s0 = .ok false s2 := by
    simp only [ev, bind_ok, bind_err, get?, ret_ok, List.set_cons_zero, List.set_cons_succ, if_true, if_false, ite_true, ite_false, Bool.false_eq_true, Bool.not_true, Bool.not_false, Bool.and_true, Bool.true_and, Bool.and_false, Bool.false_and, decide_true, decide_false, not_true_eq_false, not_false_eq_true, d1, d2]
  have u2 : mSet 2 (L_law_1) [e0, some (.tok 0), none, none, none, none, none, none] s2 = .nx [e0, some (.tok 0), some (.lst (w.map .int)), none, none, none, none, none] s3 := mSet_of d3
  have u3 : mSet 3 (mCall m__law_draw (mCons (mVar 1) (mCons (mCall1 (c1 dLen) (mCons (mVar 2) (mNil))) (mNil)))) [e0, some (.tok 0), some (.lst (w.map .int)), none, none, none, none, none] s3 = .nx [e0, some (.tok 0), some (.lst (w.map .int)), some (.int (at_ : Int)), none, none, none, none] s4 := mSet_of (by simp only [ev, bind_ok, bind_err, get?, ret_ok, List.set_cons_zero, List.set_cons_succ, if_true, if_false, ite_true, ite_false, Bool.false_eq_true, Bool.not_true, Bool.not_false, Bool.and_true, Bool.true_and, Bool.and_false, Bool.false_and, decide_true, decide_false, not_true_eq_false, not_false_eq_true, List.length_map, d4])
  have u4 : mSetF 4 (mThenA (mCons (mVar 2) (mNil)) lst1?) [e0, some (.tok 0), some (.lst (w.map .int)), some (.int (at_ : Int)), none, none, none, none] s4 = .nx [e0, some (.tok 0), some (.lst (w.map .int)), some (.int (at_ : Int)), some (.lst (w.map .int)), none, none, none] s4 := rfl
  have u5 : mSetI 4 (mVar 3) (mIx (mLst (mCons (mUn dNeg (mC (.int 2))) (mCons (mC (.int 39)) (mCons (mC .non) (mCons (mC (.bl true)) (mCons (mC (.str "0")) (mCons (mTup (mCons (mC (.int 0)) (mCons (mC (.int 1)) (mNil)))) (mNil)))))))) (mCall m__law_draw (mCons (mVar 1) (mCons (mC (.int 6)) (mNil))))) [e0, some (.tok 0), some (.lst (w.map .int)), some (.int (at_ : Int)), some (.lst (w.map .int)), none, none, none] s4 = .nx [e0, some (.tok 0), some (.lst (w.map .int)), some (.int (at_ : Int)), some (.lst od1), none, none, none] s5 := by
    rw [ho1]
    exact mSetI_of40 (k := at_) (s1 := s5) (s2 := s5) (d := od) (ds := w.map .int) (by simp only [ev, bind_ok, bind_err, get?, ret_ok, List.set_cons_zero, List.set_cons_succ, if_true, if_false, ite_true, ite_false, Bool.false_eq_true, Bool.not_true, Bool.not_false, Bool.and_true, Bool.true_and, Bool.and_false, Bool.false_and, decide_true, decide_false, not_true_eq_false, not_false_eq_true, t01, l6, d5, a5]) rfl rfl (by rw [List.length_map]; exact hat')
  have u6 : mSet 5 (mTup (mCons (mVar 3) (mCons (mC (.str "pair")) (mNil)))) [e0, some (.tok 0), some (.lst (w.map .int)), some (.int (at_ : Int)), some (.lst od1), none, none, none] s5 = .nx [e0, some (.tok 0), some (.lst (w.map .int)), some (.int (at_ : Int)), some (.lst od1), some (.tup [.int (at_ : Int), .str "pair"]), none, none] s5 := mSet_of (by simp only [ev, bind_ok, bind_err, get?, ret_ok, List.set_cons_zero, List.set_cons_succ, if_true, if_false, ite_true, ite_false, Bool.false_eq_true, Bool.not_true, Bool.not_false, Bool.and_true, Bool.true_and, Bool.and_false, Bool.false_and, decide_true, decide_false, not_true_eq_false, not_false_eq_true, tl2])
  have u7 : mOr (mTest (mOp dNe (mCall m__law_refused (mCons (mVar 4) (mCons (mLst (mNil)) (mNil)))) (mLst (mCons (mVar 5) (mCons (mVar 5) (mNil)))))) (mTest (mOp dNe (mCall m__law_refused (mCons (mVar 2) (mCons (mOp dAdd (mVar 4) (mLst (mCons (mC (.int 99)) (mNil)))) (mNil)))) (mLst (mCons (mVar 5) (mCons (mVar 5) (mNil)))))) [e0, some (.tok 0), some (.lst (w.map .int)), some (.int (at_ : Int)), some (.lst od1), some (.tup [.int (at_ : Int), .str "pair"]), none, none] s5 = .ok false s5 := by
    simp only [ev, bind_ok, bind_err, get?, ret_ok, List.set_cons_zero, List.set_cons_succ, if_true, if_false, ite_true, ite_false, Bool.false_eq_true, Bool.not_true, Bool.not_false, Bool.and_true, Bool.true_and, Bool.and_false, Bool.false_and, decide_true, decide_false, not_true_eq_false, not_false_eq_true, l0, l1, l2, r1, r2, n1, ad]
  have u8 : mSet 6 (mIx (mLst (mCons (mC .non) (mCons (mC (.int 5)) (mCons (mC (.str "01")) (mCons (mOp dMul (mLst (mCons (mC (.int 0)) (mNil))) (mC (.int 801))) (mNil)))))) (mCall m__law_draw (mCons (mVar 1) (mCons (mC (.int 4)) (mNil))))) [e0, some (.tok 0), some (.lst (w.map .int)), some (.int (at_ : Int)), some (.lst od1), some (.tup [.int (at_ : Int), .str "pair"]), none, none] s5 = .nx [e0, some (.tok 0), some (.lst (w.map .int)), some (.int (at_ : Int)), some (.lst od1), some (.tup [.int (at_ : Int), .str "pair"]), some nn, none] s6 := mSet_of (by simp only [ev, bind_ok, bind_err, get?, ret_ok, List.set_cons_zero, List.set_cons_succ, if_true, if_false, ite_true, ite_false, Bool.false_eq_true, Bool.not_true, Bool.not_false, Bool.and_true, Bool.true_and, Bool.and_false, Bool.false_and, decide_true, decide_false, not_true_eq_false, not_false_eq_true, l1, rp, l4, d6, a6])
  have u9 : mOr (mTest (mOp dNe (mCall m__law_refused (mCons (mVar 6) (mCons (mLst (mNil)) (mNil)))) (mLst (mCons (mTup (mCons (mC (.int 0)) (mCons (mC (.str "word")) (mNil)))) (mCons (mTup (mCons (mC (.int 0)) (mCons (mC (.str "word")) (mNil)))) (mNil)))))) (mTest (mOp dNe (mCall m__law_refused (mCons (mVar 4) (mCons (mVar 6) (mNil)))) (mLst (mCons (mVar 5) (mCons (mTup (mCons (mC (.int 0)) (mCons (mC (.str "word")) (mNil)))) (mNil)))))) [e0, some (.tok 0), some (.lst (w.map .int)), some (.int (at_ : Int)), some (.lst od1), some (.tup [.int (at_ : Int), .str "pair"]), some nn, none] s6 = .ok false s6 := by
    simp only [ev, bind_ok, bind_err, get?, ret_ok, List.set_cons_zero, List.set_cons_succ, if_true, if_false, ite_true, ite_false, Bool.false_eq_true, Bool.not_true, Bool.not_false, Bool.and_true, Bool.true_and, Bool.and_false, Bool.false_and, decide_true, decide_false, not_true_eq_false, not_false_eq_true, l0, l2, tw2, r3, r4, n2, n3]
  have u10 : mRet (mOp dEq (mCall m__law_refused (mCons (mVar 2) (mCons (mVar 2) (mNil)))) (mLst (mNil))) [e0, some (.tok 0), some (.lst (w.map .int)), some (.int (at_ : Int)), some (.lst od1), some (.tup [.int (at_ : Int), .str "pair"]), some nn, none] s6 = .rt (.bl true) s6 := by
    simp only [ev, bind_ok, bind_err, get?, ret_ok, List.set_cons_zero, List.set_cons_succ, if_true, if_false, ite_true, ite_false, Bool.false_eq_true, Bool.not_true, Bool.not_false, Bool.and_true, Bool.true_and, Bool.and_false, Bool.false_and, decide_true, decide_false, not_true_eq_false, not_false_eq_true, l0, r5', en]
  unfold b_law
  rw [seq_ifF56 u1, mSeq_of u2, mSeq_of u3, mSeq_of u4, mSeq_of u5, mSeq_of u6, seq_ifF56 u7, mSeq_of u8, seq_ifF56 u9, u10]
  exact .mk s6
end My

open PySem PySem.W PyProof.Rows
set_option maxHeartbeats 0 in
theorem PySem.Challenge.cw_untoldgaps_k40_whole_words_of_one_histor_holds : PySem.Challenge.rw_untoldgaps_k40_whole_words_of_one_histor.Holds :=
  hd (by
    k_fill
    refine DL.walk_ofC (l := PySem.Challenge.rw_untoldgaps_k40_whole_words_of_one_histor) (n := 63) (k := 7) (x := "_law_script") rfl (by decide) (by decide) rfl ⟨rfl, by decide, by decide⟩ (fun w h Y => PySem.W.kIn_of Y) ?F
    case F =>
      intro w mg la h KX G hmg
      refine' My.all_mk KX G hmg My.hH ?ca0 ?ca1 ?a0 ?l0 ?c0 ?k0 ?tI0 ?lc0 ?ld0 ?hv0 ?hf0 ?al0 ?ve0 ?mr0 ?oq ?tp ?a1 ?l1 ?c1 ?k1 ?a2 ?l2 ?c2 ?k2 ?a3 ?l3 ?c3 ?k3 ?a4 ?l4 ?c4 ?k4 ?a5 ?l5 ?c5 ?k5 ?a6 ?l6 ?c6 ?k6 ?a7 ?l7 ?c7 ?k7 ?a8 ?l8 ?c8 ?k8 ?a9 ?l9 ?c9 ?k9 ?a10 ?l10 ?c10 ?k10 ?a11 ?l11 ?c11 ?k11 ?a12 ?l12 ?c12 ?k12 ?a13 ?l13 ?c13 ?k13 ?z_abs ?z_bool ?z_enumerate ?z_int ?z_isinstance ?z_len ?z_list ?z_min ?z_range ?z_sorted ?z_str ?z_super ?z_tuple ?g_LEAST_PAIR ?g_GREATEST_PAIR ?g_LONGEST ?cs0 ?ct0_ ?ck0 ?cd0_ ?cs1 ?ct1_ ?ck1 ?cd1_ ?xL1 ?xs1 ?xg1 ?xh1 ?xn1_0 ?xn1_1 ?s1_1
      (case ca0 => k_is)
      (case ca1 => k_is)
      (case a0 => k_is)
      (case l0 => k_is)
      (case c0 => k_is)
      (case k0 => k_is)
      (case tI0 => k_is)
      (case lc0 => k_is)
      (case ld0 => k_is)
      (case hv0 => rfl)
      (case hf0 => first | rfl | decide +kernel)
      (case al0 => ks_is)
      (case ve0 => k_is)
      (case mr0 => k_is)
      (case oq => k_is)
      (case tp => first | rfl | decide +kernel)
      (case a1 => k_is)
      (case l1 => k_is)
      (case c1 => k_is)
      (case k1 => k_is)
      (case a2 => k_is)
      (case l2 => k_is)
      (case c2 => k_is)
      (case k2 => k_is)
      (case a3 => k_is)
      (case l3 => k_is)
      (case c3 => k_is)
      (case k3 => k_is)
      (case a4 => k_is)
      (case l4 => k_is)
      (case c4 => k_is)
      (case k4 => k_is)
      (case a5 => k_is)
      (case l5 => k_is)
      (case c5 => k_is)
      (case k5 => k_is)
      (case a6 => k_is)
      (case l6 => k_is)
      (case c6 => k_is)
      (case k6 => k_is)
      (case a7 => k_is)
      (case l7 => k_is)
      (case c7 => k_is)
      (case k7 => k_is)
      (case a8 => k_is)
      (case l8 => k_is)
      (case c8 => k_is)
      (case k8 => k_is)
      (case a9 => k_is)
      (case l9 => k_is)
      (case c9 => k_is)
      (case k9 => k_is)
      (case a10 => k_is)
      (case l10 => k_is)
      (case c10 => k_is)
      (case k10 => k_is)
      (case a11 => k_is)
      (case l11 => k_is)
      (case c11 => k_is)
      (case k11 => k_is)
      (case a12 => k_is)
      (case l12 => k_is)
      (case c12 => k_is)
      (case k12 => k_is)
      (case a13 => k_is)
      (case l13 => k_is)
      (case c13 => k_is)
      (case k13 => k_is)
      (case z_abs => k_is)
      (case z_bool => k_is)
      (case z_enumerate => k_is)
      (case z_int => k_is)
      (case z_isinstance => k_is)
      (case z_len => k_is)
      (case z_list => k_is)
      (case z_min => k_is)
      (case z_range => k_is)
      (case z_sorted => k_is)
      (case z_str => k_is)
      (case z_super => k_is)
      (case z_tuple => k_is)
      (case g_LEAST_PAIR => k_is)
      (case g_GREATEST_PAIR => k_is)
      (case g_LONGEST => k_is)
      (case cs0 => k_is)
      (case ct0_ => k_is)
      (case ck0 => k_is)
      (case cd0_ => k_is)
      (case cs1 => k_is)
      (case ct1_ => k_is)
      (case ck1 => k_is)
      (case cd1_ => k_is)
      (case xL1 => k_is)
      (case xs1 => k_is)
      (case xg1 => k_is)
      (case xh1 => k_is)
      (case xn1_0 => k_is)
      (case xn1_1 => k_is)
      (case s1_1 => k_is))
